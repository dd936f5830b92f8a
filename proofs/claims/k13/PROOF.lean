import PyProof.Rows.All
import Wide.All
import OpenK.AllK
import Wide.FinOn
import HandS.ForMost
import HandS.Star
import HandS.IsInst
import HandS.Property
import HandS.ClsMeth
import KE.KCallOwn
import KE.KFmtOwn
import HandS.OwnEq
import PyProof.InstNe
import HandS.IterNext
import HandS.IterVal
import HandS.Zip
import KE.KOwnIter
import KE.KDictIter
import KE.GoesMore
import KE.GoesEnum
import PyProof.Draws
import HandS.Nested
import KE.KSuper
import KE.KStar
import HandS.Head0
import HandS.Head1
import HandS.Head2
import HandS.HeadEnd
import HandS.HeadHook1
import HandS.HeadHook2
import HandS.NoneIn
import KE.KDictKeyed
import KE.KDictLaw
import HandS.Codes
import PyProof.P3Eq
import PyProof.EqLayable
import HandS.Style
import HandS.FStr
import HandS.TupAny
import HandS.RaiseMore
import HandS.DictComp
import HandS.Flow
import HandS.Wide
import PySem.Challenge.RW_markedpair_k13_whole_ends_led_as_lists
section
set_option Elab.async false
set_option linter.all false
set_option autoImplicit false
set_option maxRecDepth 100000
set_option maxHeartbeats 4000000
/-! rules of my own: choices, match, own operators, calls by positional promises -/
namespace L2.My
open PySem PySem.Spec PyProof.Rows

abbrev CXn : CXT := fun _ _ _ _ _ _ => False
abbrev En : XK := fun _ _ _ => False
theorem passN {X : Cx} {E : XK} : Passes CXn X E := fun _ _ _ _ _ _ _ h => h.elim

section
variable {X : Cx}
/-- a family of readings of one expression: one may be chosen at the place -/
theorem pe_ex {ι : Sort _} {e : Expr} {t : ι → TE} (h : ∀ i, PE X e (t i)) : PE X e (fun σ H Q => ∃ i, t i σ H Q) :=
  ⟨fun pins s σ H Q I hw => let ⟨i, q⟩ := hw; (h i).run pins s σ H Q I q⟩
theorem pt_ex {ι : Sort _} {e : Expr} {t : ι → TT} (h : ∀ i, PT X e (t i)) : PT X e (fun σ H Q => ∃ i, t i σ H Q) :=
  ⟨fun pins s σ H Q I hw => let ⟨i, q⟩ := hw; (h i).run pins s σ H Q I q⟩
theorem pi_ex {ι : Sort _} {tg e : Expr} {t : ι → TI} (h : ∀ i, PI X tg e (t i)) : PI X tg e (fun σ H R => ∃ i, t i σ H R) :=
  ⟨fun pins s σ H Q I hw => let ⟨i, q⟩ := hw; (h i).run pins s σ H Q I q⟩
theorem pe_imp {e : Expr} {t u : TE} (h : PE X e t) (hi : ∀ σ H Q, u σ H Q → t σ H Q) : PE X e u :=
  ⟨fun pins s σ H Q I hw => h.run pins s σ H Q I (hi _ _ _ hw)⟩
theorem ps_imp {st : Stmt} {t u : TS} (h : PS X st t) (hi : ∀ D σ H, u D σ H → t D σ H) : PS X st u :=
  ⟨fun pins s σ H D I hw => h.run pins s σ H D I (hi _ _ _ hw)⟩
theorem pss_imp {st : List Stmt} {t u : TS} (h : PSs X st t) (hi : ∀ D σ H, u D σ H → t D σ H) : PSs X st u :=
  ⟨fun pins s σ H D I hw => h.run pins s σ H D I (hi _ _ _ hw)⟩
theorem opr_ex {ι : Sort _} {f : Value → Value → Sem Value} {r : ι → R2} (h : ∀ i, OpR X f (r i)) : OpR X f (fun x y H Q => ∃ i, r i x y H Q) :=
  fun pins s σ H x y v u Q I rx ry ⟨i, q⟩ => h i pins s σ H x y v u Q I rx ry q
theorem callr_ex {ι : Sort _} {f : Value} {r : ι → List V → Hp → VK → Prop} (h : ∀ i, CallR X f (r i)) : CallR X f (fun xs H Q => ∃ i, r i xs H Q) :=
  fun pins s σ H xs us Q I r ⟨i, q⟩ => h i pins s σ H xs us Q I r q
end

/-! ### match on texts -/
/-- a pattern that binds nothing: whether it fits -/
structure PP (X : Cx) (p : Pattern) (t : V → St → Hp → (Bool → Hp → Prop) → Prop) : Prop where
  run : ∀ (pins : List (Addr × Obj)) (s : Shared) (σ : St) (H : Hp) (x : V) (v : Value) (Q : Bool → Hp → Prop), Inv X pins σ H s → RelV x v → t x σ H Q →
    wpAny (model X.prog X.w) X.A (matchPattern p X.env v) (fun r s' => ∃ b H', Inv X pins σ H' s' ∧ Q b H' ∧ r = if b then some [] else none) X.xe s
/-- one written text -/
def tPS (z : Str) : V → St → Hp → (Bool → Hp → Prop) → Prop := fun x _ H Q => ∃ y, x = .str y ∧ Q (decide (y = z)) H
theorem pp_str {X : Cx} {z : Str} {j pos pos'} : PP X (.MatchValue (.Constant (.str z) j pos) pos') (tPS z) := by
  refine ⟨fun pins s σ H x v Q I rx h => ?_⟩
  obtain ⟨y, rfl, q⟩ := h
  refine wpAny_matchPattern_Value (thn ((pe_str (X := X) (x := z) (j := j) (pos := pos)).run pins s σ H (fun w H' => w = .str z ∧ H' = H) I ⟨rfl, rfl⟩) fun u s1 ⟨w, H1, I1, r1, ew, eH⟩ => ?_)
  subst ew eH
  refine thn (op_eq pins s1 σ H1 (.str y) (.str z) v u (fun w H' => w = .bl (decide (V.str y = V.str z)) ∧ H' = H1) I1 rx r1 ⟨rfl, rfl, rfl⟩) fun c s2 ⟨w, H2, I2, r2, ew, eH⟩ => ?_
  subst ew eH
  cases r2
  refine wpAny_truthy_bool ?_
  have e : decide (V.str y = V.str z) = decide (y = z) := by
    by_cases h : y = z
    · rw [decide_eq_true h, decide_eq_true (by rw [h])]
    · rw [decide_eq_false h, decide_eq_false fun q => h (V.str.inj q)]
  rw [e]
  cases hd : decide (y = z) with
  | true => rw [hd] at q; exact ⟨true, H2, I2, q, rfl⟩
  | false => rw [hd] at q; exact ⟨false, H2, I2, q, rfl⟩
/-- one of some written texts -/
def strPs : List Pattern → List Str → Prop
  | [], [] => True
  | .MatchValue (.Constant (.str z) _ _) _ :: ps, y :: ys => z = y ∧ strPs ps ys
  | _, _ => False
def tPO (zs : List Str) : V → St → Hp → (Bool → Hp → Prop) → Prop := fun x _ H Q => ∃ y, x = .str y ∧ Q (decide (y ∈ zs)) H
theorem strPs_names : ∀ {ps : List Pattern} {zs : List Str}, strPs ps zs → namesOfAll (ps.take 1) = []
  | [], [], _ => rfl
  | .MatchValue (.Constant (.str z) _ _) _ :: ps, y :: ys, _ => rfl
theorem pp_first {X : Cx} : ∀ {ps : List Pattern} {zs : List Str}, strPs ps zs → ∀ (pins : List (Addr × Obj)) (s : Shared) (σ : St) (H : Hp) (y : Str) (v : Value) (Q : Bool → Hp → Prop), Inv X pins σ H s → RelV (.str y) v → Q (decide (y ∈ zs)) H →
    wpAny (model X.prog X.w) X.A (matchFirst ps X.env v) (fun r s' => ∃ b H', Inv X pins σ H' s' ∧ Q b H' ∧ r = if b then some [] else none) X.xe s
  | [], [], _, pins, s, σ, H, y, v, Q, I, rx, q => wpAny_matchFirst_nil ⟨false, H, I, q, rfl⟩
  | .MatchValue (.Constant (.str z) j pos) pos' :: ps, z' :: zs, h, pins, s, σ, H, y, v, Q, I, rx, q => by
    obtain ⟨rfl, h⟩ := h
    refine wpAny_matchFirst_cons (thn ((pp_str (X := X) (z := z) (j := j) (pos := pos) (pos' := pos')).run pins s σ H (.str y) v (fun b H' => b = decide (y = z) ∧ H' = H) I rx ⟨y, rfl, rfl, rfl⟩) fun r s1 ⟨b, H1, I1, ⟨eb, eH⟩, er⟩ => ?_)
    subst eb eH er
    by_cases e : y = z
    · rw [decide_eq_true e]
      exact ⟨true, H1, I1, by rw [decide_eq_true (show y ∈ z :: zs from e ▸ List.mem_cons_self)] at q; exact q, rfl⟩
    · rw [decide_eq_false e]
      refine pp_first h pins s1 σ H1 y v Q I1 rx ?_
      have em : decide (y ∈ z :: zs) = decide (y ∈ zs) := by
        rw [decide_eq_decide, List.mem_cons]
        exact ⟨fun h => h.resolve_left e, .inr⟩
      rw [em] at q
      exact q
theorem pp_or {X : Cx} {ps : List Pattern} {zs : List Str} {pos} (h : strPs ps zs) : PP X (.MatchOr ps pos) (tPO zs) := by
  refine ⟨fun pins s σ H x v Q I rx hq => ?_⟩
  obtain ⟨y, rfl, q⟩ := hq
  refine wpAny_matchPattern_Or (thn (pp_first h pins s σ H y v Q I rx q) fun r s1 ⟨b, H1, I1, q1, er⟩ => ?_)
  subst er
  cases b with
  | true =>
    refine ⟨true, H1, I1, q1, ?_⟩
    rw [strPs_names h]
    rfl
  | false => exact ⟨false, H1, I1, q1, rfl⟩

/-- the cases, from the first -/
structure PCs (X : Cx) (cs : List MatchCase) (t : V → TS) : Prop where
  run : ∀ (pins : List (Addr × Obj)) (s : Shared) (σ : St) (H : Hp) (x : V) (v : Value) (first : Bool) (D : Ends), Inv X pins σ H s → RelV x v → t x D σ H →
    wpAny (model X.prog X.w) X.A (matchCases cs X.env v first) (SP X pins D) X.xe s
theorem pcs_nil {X : Cx} : PCs X [] (fun _ D σ H => D.nx σ H) := ⟨fun _ _ σ H _ _ _ _ I _ h => wpAny_matchCases_nil ⟨σ, H, I, h⟩⟩
def tCase (tp : V → St → Hp → (Bool → Hp → Prop) → Prop) (tb : TS) (tr : V → TS) : V → TS := fun x D σ H => tp x σ H fun b H1 => if b = true then tb D σ H1 else tr x D σ H1
theorem pcs_cons {X : Cx} {p : Pattern} {body : List Stmt} {rest : List MatchCase} {tp : V → St → Hp → (Bool → Hp → Prop) → Prop} {tb : TS} {tr : V → TS} (hp : PP X p tp) (hb : PSs X body tb) (hr : PCs X rest tr) : PCs X (⟨p, none, body⟩ :: rest) (tCase tp tb tr) := by
  refine ⟨fun pins s σ H x v first D I rx h => ?_⟩
  refine wpAny_matchCases_cons (thn (hp.run pins s σ H x v _ I rx h) fun r s1 ⟨b, H1, I1, q1, er⟩ => ?_)
  subst er
  cases b with
  | true => exact assignInOrder_nil (hb.run pins s1 σ H1 D I1 q1)
  | false => exact hr.run pins s1 σ H1 x v false D I1 rx q1
def tMatch (te : TE) (tc : V → TS) : TS := fun D σ H => te σ H fun x H1 => tc x D σ H1
theorem ps_match {X : Cx} {e : Expr} {cs : List MatchCase} {te : TE} {tc : V → TS} {pos} (he : PE X e te) (hc : PCs X cs tc) : PS X (.Match e cs pos) (tMatch te tc) := by
  refine ⟨fun pins s σ H D I h => ?_⟩
  exact wpAny_Match (thn (he.run pins s σ H _ I h) fun v s1 ⟨x, H1, I1, r1, q1⟩ => hc.run pins s1 σ H1 x v true D I1 r1 q1)

/-! ### instances: what the machine's rules ask -/
section
variable {X : Cx} {pins : List (Addr × Obj)} {σ : St} {H : Hp} {s : Shared} {a C dx : Addr} {fs : List (Str × V)}
theorem ins_at (I : Inv X pins σ H s) (e : H a = some (.ins C dx fs)) : ∃ od, PySem.W.InstAt s.heap a (PySem.W.instObj C dx) C (some od) ∧ ∀ f, ∃ o, PySem.W.lookIn f od = some o ∧ RelO (fs.lookup f) o := by
  obtain ⟨mA, O, r, _⟩ := ins_get I.hok e
  obtain ⟨od, J, l⟩ := O.look
  exact ⟨od, J, fun f => ⟨_, l f, r f⟩⟩
end
theorem relv_cmp {P : Value → Shared → Prop} {z : V} {v : Value} {s' : Shared} (r : RelV z v) (h : P v s') : PySem.W.CmpBack P v s' := by
  cases z with
  | non => cases (show v = Value.none from r); exact h
  | bl b => cases (show v = Value.bool b from r); exact h
  | int i => obtain ⟨t, e⟩ := (show ∃ t, v = Value.int i t from r); cases e; exact h
  | str x => obtain ⟨t, e⟩ := (show ∃ t, v = Value.str x t from r); cases e; exact h
  | byt b => obtain ⟨t, e⟩ := (show ∃ t, v = Value.bytes b t from r); cases e; exact h
  | flt b => obtain ⟨t, e⟩ := (show ∃ t, v = Value.float b t from r); cases e; exact h
  | ref a => cases (show v = Value.ref a from r); exact h
  | ty n => cases (show v = Value.type n from r); exact h

/-! ### own operators of an instance -/
/-- the class has the name as a def at g -/
structure Own (K : PySem.W.Frag) (C : Addr) (m : Str) (g : Addr) : Prop where
  at_ : PySem.W.findIn K (.ref C) m = some (some (.ref g))
  fn : PySem.W.isFn K (.ref g) = true
section
variable {X : Cx} {C g : Addr} {n : Nat} {sp : Sp}
/-- the call of the def from a running body -/
theorem run_own {pins : List (Addr × Obj)} {σ : St} {H : Hp} {s : Shared} {us : List Value} {vs : List V} {Q : VK} (F : FnR X.prog X.w X.K X.mg X.base CXn n g sp) (hr : Room n X.A) (I : Inv X pins σ H s) (r : Vals vs us) (h : sp vs H Q En) :
    wpAny (model X.prog X.w) X.A (call (.ref g) us) (EP X pins σ Q) X.xe s := wpAny_call (run_fnR F hr passN I r h)
theorem run_own1 {pins : List (Addr × Obj)} {σ : St} {H : Hp} {s : Shared} {us : List Value} {vs : List V} {Q : VK} {E : Value → Shared → Prop} (F : FnR X.prog X.w X.K X.mg X.base CXn n g sp) (hr : Room (n + 1) X.A) (I : Inv X pins σ H s) (r : Vals vs us) (h : sp vs H Q En) :
    wpAny (model X.prog X.w) X.A.in1 (call (.ref g) us) (EP X pins σ Q) E s := by
  refine wpAny_call (codeAny_mono (F X.A.in1 X.stack s H us vs Q En hr.in1 I.env0.in1 r h) fun r s' hq => ?_)
  cases r with
  | error e => exact False.elim hq
  | ok fl =>
    cases fl with
    | ret u => exact I.after hq
    | next => exact False.elim hq
    | brk => exact False.elim hq
    | cont => exact False.elim hq
theorem run_own2 {pins : List (Addr × Obj)} {σ : St} {H : Hp} {s : Shared} {us : List Value} {vs : List V} {Q : VK} {E : Value → Shared → Prop} (F : FnR X.prog X.w X.K X.mg X.base CXn n g sp) (hr : Room (n + 2) X.A) (I : Inv X pins σ H s) (r : Vals vs us) (h : sp vs H Q En) :
    wpAny (model X.prog X.w) X.A.in1.in1 (call (.ref g) us) (EP X pins σ Q) E s := by
  have hr2 : Room n X.A.in1.in1 := (show Room (n + 1) X.A.in1 from hr.in1).in1
  refine wpAny_call (codeAny_mono (F X.A.in1.in1 X.stack s H us vs Q En hr2 I.env0.in1.in1 r h) fun r s' hq => ?_)
  cases r with
  | error e => exact False.elim hq
  | ok fl =>
    cases fl with
    | ret u => exact I.after hq
    | next => exact False.elim hq
    | brk => exact False.elim hq
    | cont => exact False.elim hq

/-- x == y, x an instance of C that has __eq__ -/
def rOwnEq (K : PySem.W.Frag) (C : Addr) (sp : Sp) : R2 := fun x y H Q => ∃ a dx fs b C' dy gs, x = .ref a ∧ y = .ref b ∧ H a = some (.ins C dx fs) ∧ H b = some (.ins C' dy gs) ∧ PySem.W.notFirst K C (.ref C') = true ∧ sp [x, y] H Q En
theorem op_ownEq (o : Own X.K C "__eq__" g) (F : FnR X.prog X.w X.K X.mg X.base CXn n g sp) (hr : Room n X.A) : OpR X (compareOp .Eq) (rOwnEq X.K C sp) := by
  intro pins s σ H x y v u Q I rx ry h
  obtain ⟨a, dx, fs, b, C', dy, gs, rfl, rfl, ha, hb, hn, q⟩ := h
  cases (show v = Value.ref a from rx)
  cases (show u = Value.ref b from ry)
  obtain ⟨od, J, _⟩ := ins_at I ha
  obtain ⟨od', J', _⟩ := ins_at I hb
  obtain ⟨m, hF⟩ := I.fr
  show wpAny _ _ (richCompare .Eq (.ref a) (.ref b)) _ _ _
  refine PySem.W.cmp_K (op := .Eq) (tb := .ref C') hr.units0 hF I.ok.mod.kin J J'.type hn o.at_ o.fn ?_
  refine thn (run_own (us := [.ref a, .ref b]) (vs := [.ref a, .ref b]) F hr I (.cons rfl (.cons rfl .nil)) q) fun w s' ⟨z', H', I', rz, qz⟩ => ?_
  exact relv_cmp rz ⟨z', H', I', rz, qz⟩

/-- x in o, o an instance of C that has __contains__, which answers a truth value -/
def rOwnIn (C : Addr) (sp : Sp) (neg : Bool) : R2 := fun x y H Q => ∃ a dx fs, y = .ref a ∧ H a = some (.ins C dx fs) ∧ sp [y, x] H (fun z H' => ∃ b, z = .bl b ∧ Q (.bl (if neg then !b else b)) H') En
theorem op_ownIn (o : Own X.K C "__contains__" g) (F : FnR X.prog X.w X.K X.mg X.base CXn n g sp) (hr : Room n X.A) : OpR X (compareOp .In) (rOwnIn C sp false) := by
  intro pins s σ H x y v u Q I rx ry h
  obtain ⟨a, dx, fs, rfl, ha, q⟩ := h
  cases (show u = Value.ref a from ry)
  obtain ⟨od, J, _⟩ := ins_at I ha
  obtain ⟨m, hF⟩ := I.fr
  refine PySem.W.in_K hF I.ok.mod.kin J o.at_ o.fn (thn (run_own (us := [.ref a, v]) (vs := [.ref a, x]) F hr I (.cons rfl (.cons rx .nil)) q) fun w s' ⟨z', H', I', rz, b, eb, qz⟩ => ?_)
  subst eb
  cases rz
  exact wpAny_truthy_bool ⟨.bl b, H', I', rfl, qz⟩
theorem op_ownNotIn (o : Own X.K C "__contains__" g) (F : FnR X.prog X.w X.K X.mg X.base CXn n g sp) (hr : Room n X.A) : OpR X (compareOp .NotIn) (rOwnIn C sp true) := by
  intro pins s σ H x y v u Q I rx ry h
  obtain ⟨a, dx, fs, rfl, ha, q⟩ := h
  cases (show u = Value.ref a from ry)
  obtain ⟨od, J, _⟩ := ins_at I ha
  obtain ⟨m, hF⟩ := I.fr
  refine PySem.W.notIn_K hF I.ok.mod.kin J o.at_ o.fn (thn (run_own (us := [.ref a, v]) (vs := [.ref a, x]) F hr I (.cons rfl (.cons rx .nil)) q) fun w s' ⟨z', H', I', rz, b, eb, qz⟩ => ?_)
  subst eb
  cases rz
  exact wpAny_truthy_bool ⟨.bl (!b), H', I', rfl, qz⟩

/-- len(o) by __len__ -/
def rOwnLen (C : Addr) (sp : Sp) : List V → Hp → VK → Prop := fun xs H Q => ∃ a dx fs, xs = [.ref a] ∧ H a = some (.ins C dx fs) ∧ sp [.ref a] H (fun z H' => ∃ i : Int, z = .int i ∧ 0 ≤ i ∧ i < 2 ^ 63 ∧ Q (.int i) H') En
theorem call_ownLen (o : Own X.K C "__len__" g) (F : FnR X.prog X.w X.K X.mg X.base CXn n g sp) (hr : Room (n + 1) X.A) : CallR X (.builtin "len") (rOwnLen C sp) := by
  intro pins s σ H xs us Q I r h
  obtain ⟨a, dx, fs, rfl, ha, q⟩ := h
  obtain ⟨u, rfl, ru⟩ := vals1 r
  cases (show u = Value.ref a from ru)
  obtain ⟨od, J, _⟩ := ins_at I ha
  obtain ⟨m, hF⟩ := I.fr
  refine PySem.W.len_K hF I.ok.mod.kin J o.at_ o.fn (thn (run_own1 (us := [.ref a]) (vs := [.ref a]) F hr I (.cons rfl .nil) q) fun w s' ⟨z', H', I', rz, i, ei, h0, h1, qz⟩ => ?_)
  subst ei
  obtain ⟨t, e⟩ := (show ∃ t, w = Value.int i t from rz)
  cases e
  exact ⟨⟨h0, h1⟩, .int i, H', I'.tok _, ⟨_, rfl⟩, qz⟩

/-- str(o) by __str__ -/
def rOwnStr (C : Addr) (sp : Sp) : List V → Hp → VK → Prop := fun xs H Q => ∃ a dx fs, xs = [.ref a] ∧ H a = some (.ins C dx fs) ∧ sp [.ref a] H (fun z H' => ∃ y : Str, z = .str y ∧ Q (.str y) H') En
theorem call_ownStr (o : Own X.K C "__str__" g) (F : FnR X.prog X.w X.K X.mg X.base CXn n g sp) (hr : Room (n + 2) X.A) : CallR X (.type "str") (rOwnStr C sp) := by
  intro pins s σ H xs us Q I r h
  obtain ⟨a, dx, fs, rfl, ha, q⟩ := h
  obtain ⟨u, rfl, ru⟩ := vals1 r
  cases (show u = Value.ref a from ru)
  obtain ⟨od, J, _⟩ := ins_at I ha
  have hr2 : Room n X.A.in1.in1 := (show Room (n + 1) X.A.in1 from hr.in1).in1
  refine PySem.W.kso_call hr2.units0 I.kIn J o.at_ o.fn (thn (run_own2 (us := [.ref a]) (vs := [.ref a]) F hr I (.cons rfl .nil) q) fun w s' ⟨z', H', I', rz, y, ey, qz⟩ => ?_)
  subst ey
  obtain ⟨t, e⟩ := (show ∃ t, w = Value.str y t from rz)
  cases e
  exact ⟨.str y, H', I', ⟨t, rfl⟩, qz⟩
end

/-! ### calls by positional promises -/
section
variable {X : Cx} {k : Nat} {f C : Addr} {sp : Sp} {x m : Str} {p pos apos : Pos} {e o : Expr} {es : List Expr} {ta : TE} {t : TA}
/-- a def of the module, by its name -/
structure Cal (P : Program) (w : World) (K : PySem.W.Frag) (mg : Str → Option Value) (base : Heap) (k : Nat) (x : Str) (sp : Sp) : Prop where
  ex : ∃ f : Addr, FnR P w K mg base CXn k f sp ∧ mg x = some (.ref f) ∧ PySem.W.keepIn K (.ref f) = true
def tC1 (sp : Sp) (t : TA) : TE := fun σ H Q => t σ H fun vs H1 => sp vs H1 Q En
theorem pe_cal {j : Nat} (c : Cal X.prog X.w X.K X.mg X.base k x sp) (hr : Room j X.A) (hk : k ≤ j) (hg : Gl X x) (ha : PA X (e :: es) t)
    (hdb : (x == ("__debug__" : Str)) = false := by decide) (he : starEach (e :: es) X.env = (false, eval e X.env) :: starEach es X.env := by rfl) (hpl : (backTo pos (starEach es X.env)).any (·.1) = false := by rfl) :
    PE X (.Call (.Name x p) (e :: es) [] pos) (tC1 sp t) := by
  obtain ⟨f, F, hm, kp⟩ := c.ex
  refine ⟨fun pins s σ H Q I h => ?_⟩
  refine wpAny_Call_Name_kw (ld_glob I hg hm ?_ hdb)
  refine PySem.W.callWith_K (h₀ := X.base) I.ok.mod.kin kp (thn (ha.run pos pins s σ H _ I h) fun us s1 ⟨vs, H1, I1, r, q⟩ => ⟨I1.kIn, ?_⟩) he hpl
  exact run_own F (hr.mono hk) I1 r q
/-- a method of the class at C -/
structure Met (P : Program) (w : World) (K : PySem.W.Frag) (mg : Str → Option Value) (base : Heap) (k : Nat) (C : Addr) (m : Str) (sp : Sp) : Prop where
  ex : ∃ f : Addr, FnR P w K mg base CXn k f sp ∧ Cls K C ∧ Meth K C m f
theorem pe_met {j : Nat} {pl : Sem Bool} (c : Met X.prog X.w X.K X.mg X.base k C m sp) (hr : Room j X.A) (hk : k ≤ j) (he : PE X o ta) (ha : PA X (e :: es) t)
    (hst : starEach (e :: es) X.env = (false, eval e X.env) :: starEach es X.env := by rfl) (hpl : (backTo pos (starEach es X.env)).any (·.1) = false := by rfl)
    (ht : eval (.Call (.Attribute o m apos) (e :: es) [] pos) X.env = (do
      let ov ← eval o X.env
      standAt apos.atName
      let (f, first) ← holding [ov] (getMethod ov m pl)
      callWith pos f first (backTo pos (starEach (e :: es) X.env)) (backToKw pos (keywordEach [] X.env))) := by rfl) :
    PE X (.Call (.Attribute o m apos) (e :: es) [] pos) (tMethR C m sp En ta t) := by
  obtain ⟨f, F, cl, me⟩ := c.ex
  exact pe_methR (pl := pl) he cl me F (hr.mono hk) passN ha hst hpl ht
theorem pe_met0 {j : Nat} {pl : Sem Bool} (c : Met X.prog X.w X.K X.mg X.base k C m sp) (hr : Room j X.A) (hk : k ≤ j) (he : PE X o ta)
    (ht : eval (.Call (.Attribute o m apos) [] [] pos) X.env = (do
      let ov ← eval o X.env
      standAt apos.atName
      let (f, first) ← holding [ov] (getMethod ov m pl)
      callWith pos f first (backTo pos (starEach [] X.env)) (backToKw pos (keywordEach [] X.env))) := by rfl) :
    PE X (.Call (.Attribute o m apos) [] [] pos) (tMethR C m sp En ta tNil) := by
  obtain ⟨f, F, cl, hm⟩ := c.ex
  refine ⟨fun pins s σ H Q I h => ?_⟩
  refine PySem.W.methodCall_KW (pl := pl) (thn (he.run pins s σ H _ I h) fun u s1 ⟨x, H1, I1, rx, a, dx, fs, ex, ea, l, q⟩ => ?_) ht
  subst ex
  obtain rfl : u = Value.ref a := rx
  refine getmeth_ok I1 ea cl hm l ?_
  exact PySem.W.callWith_K0 (first := [.ref a]) I1.kIn hm.kp (run_own (us := [.ref a]) (vs := [.ref a]) F (hr.mono hk) I1 (.cons rfl .nil) q)
/-- a class of the module, by its name; sp: its __init__ -/
structure Mak (P : Program) (w : World) (K : PySem.W.Frag) (mg : Str → Option Value) (base : Heap) (k : Nat) (x : Str) (C : Addr) (sp : Sp) : Prop where
  ex : ∃ f : Addr, FnR P w K mg base CXn k f sp ∧ Mk K C f ∧ mg x = some (.ref C)
theorem pe_mak {j : Nat} (c : Mak X.prog X.w X.K X.mg X.base k x C sp) (hr : Room j X.A) (hk : k + 1 ≤ j) (hg : Gl X x) (ha : PA X (e :: es) t)
    (hdb : (x == ("__debug__" : Str)) = false := by decide) (he : starEach (e :: es) X.env = (false, eval e X.env) :: starEach es X.env := by rfl) (hpl : (backTo pos (starEach es X.env)).any (·.1) = false := by rfl) :
    PE X (.Call (.Name x p) (e :: es) [] pos) (StX.tMakeR C sp En t) := by
  obtain ⟨f, F, M, hm⟩ := c.ex
  exact StX.pe_makeR M F (hr.mono hk) hg hm passN ha hdb he hpl
theorem pe_mak0 {j : Nat} (c : Mak X.prog X.w X.K X.mg X.base k x C sp) (hr : Room j X.A) (hk : k + 1 ≤ j) (hg : Gl X x) (hdb : (x == ("__debug__" : Str)) = false := by decide) : PE X (.Call (.Name x p) [] [] pos) (StX.tMakeR C sp En tNil) := by
  obtain ⟨f, F, M, hm⟩ := c.ex
  refine ⟨fun pins s σ H Q I h => ?_⟩
  refine wpAny_Call_Name_kw (ld_glob I hg hm ?_ hdb)
  exact PySem.W.callWith_K0 I.kIn M.kp (StX.run_makeR (us := []) M F (hr.mono hk) passN I .nil h)
/-- C( *y) -/
def tMakS (K : PySem.W.Frag) (C : Addr) (sp : Sp) (te : TE) : TE := fun σ H Q => te σ H fun y H1 => ∃ a xs, y = V.ref a ∧ (SqT K H1 a xs ∨ SqL K H1 a xs) ∧ ∀ x dx, H1 x = none → H1 dx = none → dx ≠ x →
  sp (V.ref x :: xs) (upd (upd H1 dx (.own x)) x (.ins C dx [])) (fun v H2 => v = .non ∧ Q (.ref x) H2) En
theorem pe_makS {j : Nat} {sp_ : Pos} (c : Mak X.prog X.w X.K X.mg X.base k x C sp) (hr : Room j X.A) (hk : k + 1 ≤ j) (hg : Gl X x) (he : PE X e ta) (hd : (x == ("__debug__" : Str)) = false := by decide)
    (hst : starEach [.Starred e sp_] X.env = [(true, eval e X.env)] := by rfl) : PE X (.Call (.Name x p) [.Starred e sp_] [] pos) (tMakS X.K C sp ta) := by
  obtain ⟨f, F, M, hm⟩ := c.ex
  refine ⟨fun pins s σ H Q I h => ?_⟩
  refine wpAny_Call_Name_kw (ld_glob I hg hm ?_ hd)
  refine PySem.W.callWith_S (h₀ := X.base) I.ok.mod.kin M.kp (thn (he.run pins s σ H _ I h) fun v s1 ⟨y, H1, I1, ry, a, xs, ey, hxs, q⟩ => ?_) hst
  subst ey
  obtain rfl : v = Value.ref a := ry
  exact StX.star_any I1 hxs fun us s2 I2 rv => ⟨I2.kIn, StX.run_makeR M F (hr.mono hk) passN I2 rv q⟩
/-- cls( *y), cls a local name that holds the class -/
def tMakV (K : PySem.W.Frag) (i : Nat) (C : Addr) (sp : Sp) (te : TE) : TE := fun σ H Q => σ[i]? = some (some (.ref C)) ∧ te σ H fun y H1 => ∃ a xs, y = V.ref a ∧ (SqT K H1 a xs ∨ SqL K H1 a xs) ∧ ∀ x dx, H1 x = none → H1 dx = none → dx ≠ x →
  sp (V.ref x :: xs) (upd (upd H1 dx (.own x)) x (.ins C dx [])) (fun v H2 => v = .non ∧ Q (.ref x) H2) En
theorem pe_makV {j i : Nat} {y : Str} {sp_ : Pos} (c : Mak X.prog X.w X.K X.mg X.base k x C sp) (hr : Room j X.A) (hk : k + 1 ≤ j) (hN : X.N[i]? = some y) (hv : Vis X.env.scope y) (he : PE X e ta) (hd : (y == ("__debug__" : Str)) = false := by decide) (hcd : (y == ("__classdict__" : Str)) = false := by decide)
    (hst : starEach [.Starred e sp_] X.env = [(true, eval e X.env)] := by rfl) : PE X (.Call (.Name y p) [.Starred e sp_] [] pos) (tMakV X.K i C sp ta) := by
  obtain ⟨f, F, M, hm⟩ := c.ex
  refine ⟨fun pins s σ H Q I h => ?_⟩
  obtain ⟨h1, h⟩ := h
  refine wpAny_Call_Name_kw (thn ((pe_var (X := X) (pos := p) hN hv hd hcd).run pins s σ H (fun z H' => z = .ref C ∧ H' = H) I ⟨_, h1, rfl, rfl⟩) fun v s1 ⟨z, H1, I1, rz, ez, eH⟩ => ?_)
  subst ez eH
  cases (show v = Value.ref C from rz)
  refine PySem.W.callWith_S (h₀ := X.base) I.ok.mod.kin M.kp (thn (he.run pins s1 σ H1 _ I1 h) fun v s1 ⟨y, H1, I1, ry, a, xs, ey, hxs, q⟩ => ?_) hst
  subst ey
  obtain rfl : v = Value.ref a := ry
  exact StX.star_any I1 hxs fun us s2 I2 rv => ⟨I2.kIn, StX.run_makeR M F (hr.mono hk) passN I2 rv q⟩
end
end L2.My
end
section
set_option Elab.async false
set_option linter.all false
set_option autoImplicit false
set_option maxRecDepth 100000
set_option maxHeartbeats 4000000
/-! own +, -, != and o[i] -/
namespace PySem.W
open PySem PySem.Calls PyProof.Rows Builtin
section
variable {prog : Program} {w : World} {M : Model} {A : Around} {E : Value → Shared → Prop} {s : Shared} {K : Frag} {x C D L f : Addr} {h₀ : Heap} {m : Str → Option Value} {ox : Obj} {od : Option Obj}
theorem my_fills_none {h : Heap} {nm : String} {cd : ClassData} (X : K.In h) (hc : clsIn K D = some cd) (hm : cd.mro = [.ref D, .type "object"]) (h1 : findIn K (.ref D) (PySem.dunder nm) = some none) (h2 : findIn K (.ref D) (PySem.dunderR nm) = some none)
    (h3 : fastLookup "object" (PySem.dunder nm) = some none) (h4 : fastLookup "object" (PySem.dunderR nm) = some none) : Looks M h (fillsNumberSlot (.ref D) nm) false := by
  intro A Q E s k q
  unfold fillsNumberSlot
  refine wpAny_bind ((looks_clsIn X hc).andThen (f := fun cd => pure cd.mro) .now A _ E s k ?_)
  rw [hm, List.anyM_cons]
  refine wpAny_bind ?_
  show wpAny M A (List.anyM _ [PySem.dunder nm, dunderR nm]) _ _ _
  rw [List.anyM_cons]
  refine wpAny_bind (wpAny_bind (looks_findIn X h1 A _ E s k ?_))
  refine wpAny_pure ?_
  rw [if_neg Bool.false_ne_true, List.anyM_cons]
  refine wpAny_bind (wpAny_bind (looks_findIn X h2 A _ E s k ?_))
  refine wpAny_pure ?_
  rw [if_neg Bool.false_ne_true, List.anyM_nil]
  refine wpAny_pure ?_
  rw [if_neg Bool.false_ne_true, List.anyM_cons]
  refine wpAny_bind ?_
  refine wpAny_bind ((looks_findIn (K := K) (t := .type "object") X h3) A _ E s k ?_)
  refine wpAny_bind ((looks_findIn (K := K) (t := .type "object") X h4) A _ E s k ?_)
  refine wpAny_pure ?_
  show wpAny M A (if ((none : Option Value).isSome && !isSeqSlot none || (none : Option Value).isSome && !isSeqSlot none) = true then _ else _) Q E s
  rw [if_neg (by decide), List.anyM_nil]
  exact wpAny_pure q
theorem my_binop {op : Operator} {y D : Addr} {oy : Obj} {ody : Option Obj} {cd : ClassData} {Q : Value → Shared → Prop} (X : K.In s.heap) (I : InstAt s.heap x ox C od) (J : InstAt s.heap y oy D ody) (hne : (Value.ref C == Value.ref D) = false) (hc : selfFirst K C = true)
    (hcd' : clsIn K D = some cd) (hm' : cd.mro = [.ref D, .type "object"]) (h1 : findIn K (.ref D) (PySem.dunder op.info.2) = some none) (h2 : findIn K (.ref D) (PySem.dunderR op.info.2) = some none)
    (h3 : fastLookup "object" (PySem.dunder op.info.2) = some none) (h4 : fastLookup "object" (PySem.dunderR op.info.2) = some none)
    (hs : findIn K (.ref C) (PySem.dunder op.info.2) = some (some (.ref f))) (hf : isFn K (.ref f) = true)
    (h : wpAny (model prog w) A (call (.ref f) [.ref x, .ref y]) (CmpBack Q) E s) : wpAny (model prog w) A (binaryOp op (.ref x) (.ref y)) Q E s := by
  obtain ⟨cd, hcd, hm⟩ := any_some hc
  obtain ⟨rest, hm⟩ : ∃ rest, cd.mro = .ref C :: rest := by
    cases q : cd.mro with
    | nil => rw [q] at hm; cases hm
    | cons a r => rw [q] at hm; exact ⟨r, by rw [List.head?_cons] at hm; cases (beq_iff_eq.mp hm); rfl⟩
  unfold binaryOp
  refine wpAny_holding (wpAny_bind ?_)
  unfold binaryOp1
  refine wpAny_bind (I.type.here (wpAny_bind (J.type.here (wpAny_bind ((fills_K X hcd hm hs).here ?_)))))
  simp only [hne, Bool.false_eq_true, if_false]
  refine wpAny_bind ((my_fills_none X hcd' hm' h1 h2 h3 h4).here ?_)
  simp only [Bool.and_false, Bool.false_eq_true, if_false, Bool.false_and]
  refine wpAny_bind (wpAny_pure ?_)
  simp only [Bool.false_eq_true, if_false, if_true]
  refine wpAny_bind (m := tryMethod (.ref x) _ (.ref y)) ?_
  unfold tryMethod
  refine wpAny_bind (special_fn X I hs (beq_iff_eq.mp hf) (wpAny_mono h (fun v s' hv => ?_) fun _ _ e => e))
  cases v <;> first | exact hv.elim | exact wpAny_pure (wpAny_pure (wpAny_pure hv))

theorem my_ifBoundB {id : String} {name : Str} {args : List Value} {Q : Option Value → Shared → Prop} (X : K.In s.heap) (I : InstAt s.heap x ox C od) (hs : findIn K (.ref C) name = some (some (.builtin id)))
    (hb : ∀ self, bindSpecial (.builtin id) self = pure (.builtin id, [self])) (h : wpAny M A (call (.builtin id) (.ref x :: args)) (fun v => Q (some v)) E s) : wpAny M A (callSpecialIfBound? (.ref x) name args) Q E s := by
  simp only [callSpecialIfBound?, bindSpecialIfBound?]
  refine wpAny_holding (wpAny_bind (wpAny_bind (wpAny_bind (I.type.here ((looks_findIn X hs).here ?_)))))
  refine wpAny_bind (wpAny_askSetting (wpAny_ite ?_))
  have fin : wpAny M A (call (.builtin id) ([.ref x] ++ args) >>= fun v => pure (some v)) Q E s := wpAny_bind (wpAny_mono h (fun v s' h' => wpAny_pure h') fun _ _ h' => h')
  split
  · exact wpAny_bind ((Looks.of_pure (hb _)).here (wpAny_pure (by exact fin)))
  · exact wpAny_tryCatch (wpAny_bind ((Looks.of_pure (hb _)).here (wpAny_pure (by exact fin))))
/-- object.__ne__ of an instance whose class has __eq__ -/
theorem my_objNe {y : Value} {Q : Value → Shared → Prop} (hu : A.in1.units < cLine) (X : K.In s.heap) (I : InstAt s.heap x ox C od) (hm : mroIn K C (.type "object") = some true) (he : findIn K (.ref C) "__eq__" = some (some (.ref f))) (hf : isFn K (.ref f) = true)
    (h : wpAny (model prog w) A.in1 (call (.ref f) [.ref x, y]) (fun v s' => ∃ b, v = .bool b ∧ Q (.bool (!b)) s') E s) : wpAny (model prog w) A (call (.builtin "object.__ne__") [.ref x, y]) Q E s := by
  refine wpAny_call (codeAny_call_builtin PySem.F.slot_object_ne.plain PySem.F.cmpEntry_ne (check_slot (i := "object.__ne__") (owner := "object") (n := "__ne__") (by decide +kernel) (by decide +kernel) (I.type.andThen (looks_mroIn X hm)) (PySem.F.cmpArgs_ne _ _) ?_))
  unfold Builtin.«object.__ne__»
  refine wpAny_bind (m := slotArgs "__ne__" 1 _) (wpAny_pure ?_)
  refine wpAny_bind (m := cRoomFor _ _) (wpAny_cRoomFor hu ?_)
  refine wpAny_bind (m := callSpecialIfBound? (.ref x) (Str.ofString "__eq__") _) (ifBound_K X I he hf (wpAny_mono h (fun r s' hq => ?_) fun _ _ y => y))
  obtain ⟨b, rfl, q⟩ := hq
  exact wpAny_bind (wpAny_truthy_bool (wpAny_pure q))
theorem my_ne {y : Value} {tb : Value} {Q : Value → Shared → Prop} (hu : A.units < cLine) (hu1 : A.in1.units < cLine) (X : K.In s.heap) (I : InstAt s.heap x ox C od) (hb : Looks (model prog w) s.heap (typeOf y) tb) (hn : notFirst K C tb = true)
    (hne : findIn K (.ref C) "__ne__" = some (some (.builtin "object.__ne__"))) (hm : mroIn K C (.type "object") = some true) (he : findIn K (.ref C) "__eq__" = some (some (.ref f))) (hf : isFn K (.ref f) = true)
    (h : wpAny (model prog w) A.in1 (call (.ref f) [.ref x, y]) (fun v s' => ∃ b, v = .bool b ∧ Q (.bool (!b)) s') E s) : wpAny (model prog w) A (richCompare .NotEq (.ref x) y) Q E s := by
  have one : wpAny (model prog w) A (tryCompare (.ref x) "__ne__" y) (fun r s' => ∃ v, r = some v ∧ Q v s') E s := by
    unfold tryCompare
    refine wpAny_bind (my_ifBoundB X I hne PySem.F.slot_object_ne.bind (my_objNe hu1 X I hm he hf (wpAny_mono h (fun v s' hv => ?_) fun _ _ e => e)))
    obtain ⟨b, rfl, q⟩ := hv
    exact ⟨b, rfl, wpAny_pure ⟨_, rfl, q⟩⟩
  unfold richCompare
  simp only [oneThing_ref]
  refine wpAny_holding (wpAny_bind (wpAny_cRoomFor hu ?_))
  refine wpAny_bind (I.type.here (wpAny_bind (hb.here ?_)))
  split
  · rename_i q
    have e : subIn K tb (.ref C) = some false := by
      rcases Bool.or_eq_true_iff.mp hn with e | e
      · rw [beq_iff_eq.mp e] at q; simp at q
      · exact beq_iff_eq.mp e
    refine wpAny_bind ((looks_subIn X e).here ?_)
    simp only [Bool.false_eq_true, if_false]
    refine wpAny_bind (wpAny_mono one (fun r s' z => ?_) fun _ _ e => e)
    obtain ⟨v, rfl, hq⟩ := z
    exact wpAny_pure hq
  · refine wpAny_bind (wpAny_pure ?_)
    simp only [Bool.false_eq_true, if_false]
    refine wpAny_bind (wpAny_mono one (fun r s' z => ?_) fun _ _ e => e)
    obtain ⟨v, rfl, hq⟩ := z
    exact wpAny_pure hq
end
end PySem.W

namespace L2.My
open PySem PySem.Spec PyProof.Rows
section
variable {X : Cx} {C D g : Addr} {n : Nat} {sp : Sp}
/-- x != y by the own == of x's class -/
structure OwnNe (K : PySem.W.Frag) (C : Addr) : Prop where
  ne : PySem.W.findIn K (.ref C) "__ne__" = some (some (.builtin "object.__ne__"))
  mo : PySem.W.mroIn K C (.type "object") = some true
def rOwnNe (K : PySem.W.Frag) (C : Addr) (sp : Sp) : R2 := fun x y H Q => ∃ a dx fs b C' dy gs, x = .ref a ∧ y = .ref b ∧ H a = some (.ins C dx fs) ∧ H b = some (.ins C' dy gs) ∧ PySem.W.notFirst K C (.ref C') = true ∧ sp [x, y] H (fun z H' => ∃ k, z = .bl k ∧ Q (.bl (!k)) H') En
theorem op_ownNe (o : Own X.K C "__eq__" g) (on : OwnNe X.K C) (F : FnR X.prog X.w X.K X.mg X.base CXn n g sp) (hr : Room (n + 1) X.A) : OpR X (compareOp .NotEq) (rOwnNe X.K C sp) := by
  intro pins s σ H x y v u Q I rx ry h
  obtain ⟨a, dx, fs, b, C', dy, gs, rfl, rfl, ha, hb, hn, q⟩ := h
  cases (show v = Value.ref a from rx)
  cases (show u = Value.ref b from ry)
  obtain ⟨od, J, _⟩ := ins_at I ha
  obtain ⟨od', J', _⟩ := ins_at I hb
  show wpAny _ _ (richCompare .NotEq (.ref a) (.ref b)) _ _ _
  refine PySem.W.my_ne (tb := .ref C') hr.units0 hr.in1.units0 I.kIn J J'.type hn on.ne on.mo o.at_ o.fn ?_
  refine thn (run_own1 (us := [.ref a, .ref b]) (vs := [.ref a, .ref b]) F hr I (.cons rfl (.cons rfl .nil)) q) fun w s' ⟨z', H', I', rz, k, ek, qz⟩ => ?_
  subst ek
  cases rz
  exact ⟨k, rfl, .bl (!k), H', I', rfl, qz⟩

/-- x op y, x an instance of C that has the method for it, y one of another class D (over object alone) that has none -/
structure OwnBin (K : PySem.W.Frag) (C D : Addr) (op : Operator) (g : Addr) : Prop where
  at_ : PySem.W.findIn K (.ref C) (PySem.dunder op.info.2) = some (some (.ref g))
  fn : PySem.W.isFn K (.ref g) = true
  sf : PySem.W.selfFirst K C = true
  cd : ∃ cd, PySem.W.clsIn K D = some cd ∧ cd.mro = [.ref D, .type "object"]
  n1 : PySem.W.findIn K (.ref D) (PySem.dunder op.info.2) = some none
  n2 : PySem.W.findIn K (.ref D) (PySem.dunderR op.info.2) = some none
  ne : (Value.ref C == Value.ref D) = false
def rOwnBin (C D : Addr) (sp : Sp) : R2 := fun x y H Q => ∃ a dx fs b dy gs, x = .ref a ∧ y = .ref b ∧ H a = some (.ins C dx fs) ∧ H b = some (.ins D dy gs) ∧ sp [x, y] H Q En
theorem op_ownBin {op : Operator} (o : OwnBin X.K C D op g) (F : FnR X.prog X.w X.K X.mg X.base CXn n g sp) (hr : Room n X.A)
    (h3 : PySem.fastLookup "object" (PySem.dunder op.info.2) = some none := by decide +kernel) (h4 : PySem.fastLookup "object" (PySem.dunderR op.info.2) = some none := by decide +kernel) : OpR X (binaryOp op) (rOwnBin C D sp) := by
  intro pins s σ H x y v u Q I rx ry h
  obtain ⟨a, dx, fs, b, dy, gs, rfl, rfl, ha, hb, q⟩ := h
  cases (show v = Value.ref a from rx)
  cases (show u = Value.ref b from ry)
  obtain ⟨od, J, _⟩ := ins_at I ha
  obtain ⟨od', J', _⟩ := ins_at I hb
  obtain ⟨cd, hcd, hm⟩ := o.cd
  refine PySem.W.my_binop I.kIn J J' o.ne o.sf hcd hm o.n1 o.n2 h3 h4 o.at_ o.fn ?_
  refine thn (run_own (us := [.ref a, .ref b]) (vs := [.ref a, .ref b]) F hr I (.cons rfl (.cons rfl .nil)) q) fun w s' ⟨z', H', I', rz, qz⟩ => ?_
  exact relv_cmp rz ⟨z', H', I', rz, qz⟩

/-- o[i] by __getitem__ -/
structure OwnIx (K : PySem.W.Frag) (C g : Addr) : Prop where
  at_ : PySem.W.findIn K (.ref C) "__getitem__" = some (some (.ref g))
  fi : PySem.W.fnIn K g = true
  fn : PySem.W.isFn K (.ref g) = true
def tOwnIx (C : Addr) (sp : Sp) (ta tb : TE) : TE := fun σ H Q => ta σ H fun x H1 => tb σ H1 fun y H2 => ∃ a dx fs, x = .ref a ∧ H2 a = some (.ins C dx fs) ∧ sp [x, y] H2 Q En
theorem pe_ownIx {a b : Expr} {ta tb : TE} {pos : Pos} (o : OwnIx X.K C g) (F : FnR X.prog X.w X.K X.mg X.base CXn n g sp) (hr : Room (n + 1) X.A) (ha : PE X a ta) (hb : PE X b tb)
    (hsl : ∀ x i, subscripted b true x i = runValue (.builtin "lifetime.subscript" ⟨[x, i], []⟩) := by intro _ _; rfl) : PE X (.Subscript a b pos) (tOwnIx C sp ta tb) := by
  refine ⟨fun pins s σ H Q I h => ?_⟩
  refine Subscript_ (binT ha hb I h fun v u s2 x y H2 I2 rx ry q => ?_)
  obtain ⟨p, dx, fs, rfl, hp, q⟩ := q
  cases (show v = Value.ref p from rx)
  obtain ⟨od, J, _⟩ := ins_at I2 hp
  obtain ⟨m, hF⟩ := I2.fr
  exact PySem.W.sub_K hF I.ok.mod.kin J o.at_ o.fi o.fn (run_own1 (us := [.ref p, u]) (vs := [.ref p, y]) F hr I2 (.cons rfl (.cons ry .nil)) q) (hsl _ _)

/-- instances with the text's own ==, by a positional promise -/
theorem rcG_insR {R : Addr → Addr → Hp → Prop} (F : FnR X.prog X.w X.K X.mg X.base CXn n g (spEq R)) (o : Own X.K C "__eq__" g) : RcG X n (DIns C R) := by
  intro A pins s σ H x y u v sb I rx ry d
  obtain ⟨a, b, dx, dy, fs, gs, rfl, rfl, ha, hb', hr⟩ := d
  cases rx
  cases ry
  obtain ⟨od, J, _⟩ := ins_at I ha
  obtain ⟨od', J', _⟩ := ins_at I hb'
  obtain ⟨m, hF⟩ := I.fr
  refine PySem.W.cmp_K (op := .Eq) (tb := .ref C) sb.room.units0 hF I.ok.mod.kin J J'.type (by simp [PySem.W.notFirst]) o.at_ o.fn ?_
  have hsp : spEq R [.ref a, .ref b] H (fun v H' => v = .bl true ∧ Ext H H') En := ⟨a, b, rfl, hr, fun H' e => ⟨rfl, e⟩⟩
  have e0 : Env0 X.prog X.w X.K X.mg X.base A X.stack s H := by
    have e := I.env0
    exact ⟨by rw [sb.fr]; exact e.frames, e.mod, e.bs, e.bsz, e.funs, e.frf, e.hok, e.bare⟩
  have r2 : Vals [V.ref a, V.ref b] [Value.ref a, Value.ref b] := .cons rfl (.cons rfl .nil)
  refine wpAny_call (codeAny_mono (F A X.stack s H [.ref a, .ref b] [.ref a, .ref b] _ En sb.room e0 r2 hsp) fun r s' hq => ?_)
  cases r with
  | error e => exact False.elim hq
  | ok fl =>
    cases fl with
    | ret w =>
      obtain ⟨z, H', I', rz, ez, ex⟩ := I.after hq
      subst ez
      cases rz
      exact ⟨rfl, H', I', ex⟩
    | next => exact False.elim hq
    | brk => exact False.elim hq
    | cont => exact False.elim hq
end
end L2.My
end
section
set_option Elab.async false
set_option linter.all false
set_option autoImplicit false
set_option maxRecDepth 100000
set_option maxHeartbeats 4000000
/-! iter of a tuple, an own __iter__ that answers it, enumerate of a tuple -/
namespace PySem
open Sem (wp)
open AutoSeq1 (wpAny_loadPart')
theorem my_enumerate_newT (l : Addr) (items : Array Value) (o : Obj) :
    Meets (Builtin.«enumerate.__new__» ⟨[.type "enumerate", .ref l], []⟩) (fun _ R s => s.heap.IsTuple l items ∧
      R (.ok (.ret (.ref (s.heap.push { cls := .type "tuple_iterator", data := .fields #[.ref l, .int 0 0] }).objs.size)))
        { s with heap := (s.heap.push { cls := .type "tuple_iterator", data := .fields #[.ref l, .int 0 0] }).push { cls := .type "enumerate", data := .fields #[.none, .bool false, .ref s.heap.objs.size, rawInt 0, .none, .none] } }) :=
  .of_wp fun prog w A R s h => by
    obtain ⟨hp, g, d, tk, os⟩ := s; obtain ⟨hL, h⟩ := h
    have hsub := sub_enumerate
    wp_walk
    refine wpAny_stack_any fun st => wpAny_pure ?_
    split
    · rename_i c _ _ _ _ _
      cases (c == Value.type "enumerate")
      · wp_walk using wpAny_pyIter_tuple hL
        exact ⟨_, rfl, h⟩
      · wp_walk using wpAny_pyIter_tuple hL
        exact ⟨_, rfl, h⟩
    · wp_walk using wpAny_pyIter_tuple hL
      exact ⟨_, rfl, h⟩
section
variable {prog : Program} {w : World} {A : Around} {E : Value → Shared → Prop} {s : Shared}
theorem my_call_enumerate_tuple {l : Addr} {items : Array Value} {Q : Value → Shared → Prop} (hL : s.heap.IsTuple l items)
    (h : ∀ h', IsEnum h' (s.heap.objs.size + 1) s.heap.objs.size 0 .none → h'.IsTupleIter s.heap.objs.size l 0 → h'.objs.size = s.heap.objs.size + 2 →
      (∀ b o, s.heap.get? b = some o → h'.get? b = some o) → Q (.ref (s.heap.objs.size + 1)) { s with heap := h' }) :
    wpAny (model prog w) A (call (.type "enumerate") [.ref l]) Q E s := by
  refine callType_new F.called_enumerate (by decide) (F.typeCall_enumerate_1 _) (F.newCall_enumerate_1 _) (fun obj => F.args_object_init_2 obj _) F.entry_enumerate_new
    (my_enumerate_newT l items default) ⟨hL, ?_⟩
  have hz : (s.heap.push { cls := .type "tuple_iterator", data := .fields #[.ref l, .int 0 0] }).objs.size = s.heap.objs.size + 1 := Heap.size_push ..
  show _ ∧ _
  rw [hz]
  have he : IsEnum ((s.heap.push { cls := .type "tuple_iterator", data := .fields #[.ref l, .int 0 0] }).push
      { cls := .type "enumerate", data := .fields #[.none, .bool false, .ref s.heap.objs.size, rawInt 0, .none, .none] }) (s.heap.objs.size + 1) s.heap.objs.size 0 .none := by
    have := Heap.get?_push_size (s.heap.push { cls := .type "tuple_iterator", data := .fields #[.ref l, .int 0 0] })
      (o := { cls := .type "enumerate", data := .fields #[.none, .bool false, .ref s.heap.objs.size, rawInt 0, .none, .none] }) rfl
    rw [hz] at this; exact this
  refine ⟨⟨_, he, rfl⟩, h _ he ⟨_, Heap.get?_push_of_some _ (Heap.get?_push_size _ rfl), rfl, rfl⟩ (by rw [Heap.size_push, hz]) fun b o x => Heap.get?_push_of_some _ (Heap.get?_push_of_some _ x)⟩
open Builtin Builtin.ObjectAttr in
theorem my_call_iter_tuple {l : Addr} {items : Array Value} {Q : Value → Shared → Prop} (hl : s.heap.IsTuple l items) (h : Q (.ref s.heap.objs.size) { s with heap := s.heap.push { cls := .type "tuple_iterator", data := .fields #[.ref l, .int 0 0] } }) : wpAny (model prog w) A (call (.builtin "iter") [.ref l]) Q E s := by
  refine Calls.call_function_entry (by decide +kernel) (by decide +kernel) PySem.W.kdk_entry_iter (PySem.W.kdk_args_iter _) ?_
  unfold Builtin.«iter»
  refine wpAny_bind (m := someArgs "iter" 1 2 _) (wpAny_of_eq (a := [Value.ref l]) (by first | rfl | kernel_rfl!) ?_)
  show wpAny _ _ (pyIter (.ref l) >>= _) _ _ _
  refine wpAny_bind (wpAny_pyIter_tuple hl ?_)
  exact wpAny_pure ⟨_, rfl, h⟩
end
end PySem

namespace L2.My
open PySem PySem.Spec PyProof.Rows

/-! ### enumerate(tuple) -/
def IteT (K : PySem.W.Frag) (a : Addr) : It :=
  ⟨fun i H => ∃ (xs : List V) (x : V), SqT K H a xs ∧ xs[i]? = some x, fun i H v H' => ∃ T x, v = .ref T ∧ H T = none ∧ H' = upd H T (.tup [.int (i : Nat), x]) ∧ ∀ xs, SqT K H a xs → xs[i]? = some x, fun i H => ∃ xs : List V, SqT K H a xs ∧ xs.length ≤ i⟩
theorem turn_enumT {P : Program} {w : World} {K : PySem.W.Frag} {elts : List Expr} {kk : Nat} {tpos : Pos} (a e it : Addr) (hai : a ≠ it) (hae : a ≠ e) (hne : e ≠ it) :
    Turn P w K (.Tuple elts kk tpos) (IteT K a) [e, it] e (fun i h => (∃ old, IsEnum h e it ((i : Nat) : Int) old) ∧ h.IsTupleIter it a i) where
  mem := by simp
  obj := fun i h st b hb => by
    obtain ⟨⟨old, he⟩, ⟨o, ho, hc, hd⟩⟩ := st
    have e' : b = e ∨ b = it := by simpa using hb
    rcases e' with z | z
    · rw [z]; exact ⟨_, he, fun v q => nomatch q⟩
    · rw [z]; exact ⟨o, ho, fun v q => by rw [hd] at q; cases q⟩
  keep := fun i h h' st k => let ⟨⟨old, he⟩, hi⟩ := st; ⟨⟨old, k e (by simp) _ he⟩, hi.at fun o q => k it (by simp) o q⟩
  item := by
    intro X hP hw hK hc i pins s σ H E I hf st hg
    subst hP hw hK
    obtain ⟨⟨old, he⟩, hit⟩ := st
    obtain ⟨xs, x, hq, hx⟩ := hg
    obtain ⟨its, rv, p, hz⟩ := I.tuple hq
    obtain ⟨u, hu, ru⟩ := rv.get hx
    have hel : e < s.heap.objs.size := Heap.lt_size he
    have hil : it < s.heap.objs.size := by obtain ⟨_, q, _⟩ := hit; exact Heap.lt_size q
    have hlt : i < its.toArray.size := by
      have := (List.getElem?_eq_some_iff.mp hu).1
      simpa using this
    refine wpAny_pyNext_enum_itemD (Draws.tuple (A := X.A.in1) (I.ok.hd hc) it a hai its.toArray) he ⟨hit, show s.heap.IsTuple a its.toArray from p⟩ hlt hne (by simp only [List.mem_cons, List.not_mem_nil, or_false, not_or]; exact ⟨hne, fun z => hae z.symm⟩) fun u' h' tk hu' ho hst' hT hsz hk => ?_
    have eu : u' = u := by
      have h1 : its.toArray[i]? = some u' := hu'
      have h2 : its.toArray[i]? = some u := by simpa using hu
      rw [h1] at h2
      exact Option.some.inj h2
    subst eu
    obtain ⟨hit', ht'⟩ := hst'
    refine ⟨_, rfl, wpAny_letOwnedTupleGo_enum (s := { s with heap := h', toks := tk + 1 }) ho fun h'' he' sb => ?_⟩
    have hT2 : h''.get? s.heap.objs.size = some { cls := .type "tuple", data := .seq #[.int i tk, u'] } := (sb.2 _ (Nat.ne_of_gt hel)).trans hT
    have new : ObjOk X.prog X.w (upd H s.heap.objs.size (.tup [.int (i : Nat), x])) h'' s.heap.objs.size (.tup [.int (i : Nat), x]) :=
      ⟨by show 2 ≤ sizeLine; decide, [.int i tk, u'], .cons ⟨_, rfl⟩ (.cons ru .nil), ⟨_, hT2, rfl, _, rfl⟩⟩
    have I1 : Inv X pins σ (upd H s.heap.objs.size (.tup [.int (i : Nat), x])) { s with heap := h'', toks := tk + 1 } :=
      I.turnedNew (ch := [e, it]) (fun b ob hb q => (sb.2 b (fun z => hb (by simp [z]))).trans (hk b ob (fun z => hb (by simp [z])) (fun z => hb (by simp [z])) q)) hf (Nat.le_refl _) new
    refine ⟨.ref s.heap.objs.size, _, I1, rfl, ⟨_, x, rfl, I.hok.fresh (Nat.le_refl _), rfl, fun ys hy => by rw [I.tuple_inj hy hq]; exact hx⟩, ⟨⟨u', ?_⟩, hit'.at fun o q => (sb.2 it (Ne.symm hne)).trans q⟩, fun b hb => ?_⟩
    · have e1 : ((i + 1 : Nat) : Int) = (i : Int) + 1 := by omega
      rw [e1]; exact he'
    · have hb' : b < s.heap.objs.size := by
        have e' : b = e ∨ b = it := by simpa using hb
        rcases e' with z | z
        · rw [z]; exact hel
        · rw [z]; exact hil
      rw [upd_ne (Nat.ne_of_lt hb')]
      exact (hf b hb).1
  done := by
    intro X hP hw hK hc i pins s σ H E I hf st hg
    subst hP hw hK
    obtain ⟨⟨old, he⟩, hit⟩ := st
    obtain ⟨xs, hq, hx⟩ := hg
    obtain ⟨its, rv, p, hz⟩ := I.tuple hq
    obtain ⟨f0, f1, f2, f3, f4, f5⟩ := hf it (by simp)
    have hl := rv.length
    have hi : its.toArray[i]? = none := by simp; omega
    have hT : s.TypeIs (.ref e) "enumerate" := ⟨_, he, rfl⟩
    unfold pyNext
    refine wpAny_bind (wpAny_attempt (wpAny_callSpecial?_slot (name := Str.ofString "__next__") hT F.slot_enumerate_next
      (wpAny_call_entry F.slot_enumerate_next hT F.entry_enumerate_next ?_ (F.args_enumerate_next_1 _))))
    show wpAny _ _ (field (.ref e) 2 >>= _) _ _ _
    refine wpAny_bind (wpAny_field he rfl (x := .ref it) rfl ?_)
    refine wpAny_bind (wpAny_nextOf_tuple_end (A := X.A.in1) (I.ok.hd hc) hit (show s.heap.IsTuple a its.toArray from p) hi fun h' x he' hx' => ?_)
    obtain ⟨o, ho, hc'⟩ := hx'
    refine wpAny_bind (wpAny_isInstance (T := "StopIteration") (b := true) ⟨o, ho, hc'⟩ isSubtype_stop ?_)
    exact wpAny_pure ⟨rfl, I.turned (t' := s.toks) (fun b o hb q => he' b o hb q) f0 f1 f3 f4 f5⟩
  self := fun A i s Q E st h => let ⟨⟨_, he⟩, _⟩ := st; wpAny_pyIter_enum he h
def iEnumT (K : PySem.W.Frag) (ta : TA) : TI := fun σ H R => ta σ H fun vs H1 => ∃ a xs, vs = [.ref a] ∧ SqT K H1 a xs ∧ R (IteT K a) H1
theorem pi_enumT {X : Cx} {e : Expr} {ta : TA} {p pos tpos : Pos} {elts : List Expr} {kk : Nat} (hg : Gl X "enumerate") (hm : X.mg "enumerate" = none) (ha : PA X [e] ta) (hs : starEach [e] X.env = [(false, eval e X.env)] := by rfl) :
    PI X (.Tuple elts kk tpos) (.Call (.Name "enumerate" p) [e] [] pos) (iEnumT X.K ta) := by
  refine ⟨fun pins s σ H R I h => ?_⟩
  refine Call_ (ld_blt I hg hm boot_enumerate (PyProof.Rows.callWith_type1 (thn (ha.run pos pins s σ H _ I h) fun us s1 ⟨vs, H1, I1, r1, q1⟩ => ?_) hs rfl))
  obtain ⟨a, xs, ex, hq, q⟩ := q1
  subst ex
  cases r1 with
  | cons r rr =>
    cases rr
    cases r
    obtain ⟨its, rv, p', hz⟩ := I1.tuple hq
    have hal : a < s1.heap.objs.size := by obtain ⟨o, ho, _⟩ := p'; exact Heap.lt_size ho
    refine my_call_enumerate_tuple (show s1.heap.IsTuple a its.toArray from p') fun h' he hit hsz hk => wpAny_pyIter_enum he ?_
    have I2 : Inv X pins σ H1 { s1 with heap := h' } := I1.kept (t' := s1.toks) hk
    refine ⟨s1.heap.objs.size + 1, [s1.heap.objs.size + 1, s1.heap.objs.size], _, _, H1, rfl, I2, turn_enumT a (s1.heap.objs.size + 1) s1.heap.objs.size (Nat.ne_of_lt hal) (Nat.ne_of_lt (Nat.lt_succ_of_lt hal)) (Nat.succ_ne_self _), ⟨⟨.none, he⟩, hit⟩, fun b hb => ?_, q⟩
    have e' : b = s1.heap.objs.size + 1 ∨ b = s1.heap.objs.size := by simpa using hb
    have hle : s1.heap.objs.size ≤ b := by
      rcases e' with z | z
      · rw [z]; exact Nat.le_add_right _ _
      · rw [z]; exact Nat.le_refl _
    exact I1.fpOk hle (I1.hok.fresh hle)

/-! ### iter(tuple) -/
/-- a tuple's iterator at its i-th item -/
def ItT (l it : Addr) (i : Nat) : HO := .ext fun h => h.IsTupleIter it l i
theorem itT_ok {P : Program} {w : World} {H : Hp} {h : Heap} {l it : Addr} {i : Nat} (e : h.IsTupleIter it l i) : ObjOk P w H h it (ItT l it i) :=
  ⟨e, let ⟨o, ho, _⟩ := e; ⟨o, ho⟩, fun h1 h2 ⟨o, ho, r⟩ k => ⟨o, k _ ho, r⟩⟩
def rIterT (K : PySem.W.Frag) (n : Nat) : List V → Hp → VK → Prop := fun xs H Q => ∃ (l : Addr) (zs : List V), xs = [.ref l] ∧ SqT K H l zs ∧ ∀ it, H it = Option.none → n ≤ it → Q (.ref it) (upd H it (ItT l it 0))
theorem call_iterT {X : Cx} : CallR X (.builtin "iter") (rIterT X.K X.s_0.heap.objs.size) := by
  intro pins s σ H xs us Q I r h
  obtain ⟨l, zs, rfl, hq, q⟩ := h
  obtain ⟨u, rfl, ru⟩ := vals1 r
  cases ru
  obtain ⟨its, rv, pl, hz⟩ := I.tuple hq
  refine my_call_iter_tuple (show s.heap.IsTuple l its.toArray from pl) ?_
  exact ⟨.ref s.heap.objs.size, _, I.laid (t' := s.toks) (fun b u e => Heap.get?_push_of_some _ e) (Nat.le_refl _) (itT_ok ⟨_, Heap.get?_push_size _ rfl, rfl, rfl⟩), rfl, q _ (I.hok.fresh (Nat.le_refl _)) I.sz⟩

/-! ### a promise that knows how many objects there are -/
def FnN (P : Program) (w : World) (K : PySem.W.Frag) (mg : Str → Option Value) (base : Heap) (k : Nat) (f : Addr) (sp : Nat → Sp) : Prop :=
  ∀ (A : Around) (outer : List Env) (s : Shared) (H : Hp) (us : List Value) (vs : List V) (Q : VK), Room k A → Env0 P w K mg base A outer s H → Vals vs us → sp s.heap.objs.size vs H Q En →
    codeAny (model P w) A (.call (.ref f) ⟨us, []⟩) (CR CXn outer P w H s Q En) s
theorem fnN_of {P : Program} {w : World} {K : PySem.W.Frag} {mg : Str → Option Value} {base : Heap} {k : Nat} {f : Addr} {x qual : Str} {st : Stmt} {fd : FuncData} {N ps : List Str} {sp : Nat → Sp}
    (F : Fun K x qual st f fd) (S : FnScope N ps (defScope st)) (hb : Binds K fd ps []) (len : ∀ n vs H Q E, sp n vs H Q E → vs.length = ps.length)
    (hbody : ∀ (cdv : Value) (A : Around) (outer : List Env) (s : Shared) (H : Hp) (vs : List V) (Q : VK), Room k (A.deeper (envOfC qual (defScope st) s.heap.objs.size f cdv)) → sp s.heap.objs.size vs H Q En →
      ∃ t, PSs (cxOf CXn P w K mg base N qual (defScope st) f cdv A outer s H En).nox (defBody st) t ∧ t { nx := fun _ H' => Q .non H', rt := Q } (start N vs) H) : FnN P w K mg base (k + 1) f sp := by
  intro A outer s H us vs Q hr e0 r hsp
  obtain ⟨oc, od, kV, doc, pm, an, cdv, ct, osl, rfl, lk, hcd⟩ := F.ex
  have hl := len _ _ _ _ _ hsp
  have KX : K.In s.heap := e0.mod.kin.keeps fun b o e => (e0.bs b o e).1
  have lim : s.heap.NoLimit := e0.mod.nolimit.keeps fun b o e => (e0.bs b o e).1
  have hus : us.length = ps.length := by rw [← r.length]; exact hl
  have hkind : ∀ y ∈ ps.zip us, (defScope st).names.lookup y.1 = some .local ∨ ((defScope st).names.lookup y.1 = some .cell ∧ ((cellsFrom (s.heap.objs.size + 1) (defScope st).names []).lookup y.1).isSome = true) := fun ⟨n, v⟩ hy => by
    rcases S.par n (List.of_mem_zip hy).1 with q | q
    · exact .inl q
    · exact .inr ⟨q, PySem.W.cellsFrom_some _ _ _ (.inl q)⟩
  have hbind := hb s us KX (by rw [List.append_nil]; exact hus)
  rw [List.append_nil] at hbind
  refine codeAny_call_function hr.depth (KX _ _ lk) rfl S.co S.gen rfl (PySem.W.codeRec_of KX hcd) (hbind _ _ _ _ ?_)
  refine wpAny_newFunctionEnv_cells S.kind hkind fun env he s1 x => ?_
  subst he
  refine ⟨lim.keeps x.toInCall.keep, codeAny_func ?_⟩
  obtain ⟨t, ht, hq⟩ := hbody cdv A outer s H vs Q (hr.deeper _) hsp
  have I : Inv (cxOf CXn P w K mg base N qual (defScope st) f cdv A outer s H En) [] (start N vs) H s1 := inv_start S hr.hd e0 hl r x
  refine wpAny_mono (ht.nox.run [] s1 (start N vs) H _ I hq) (fun fl s' hs => ?_) fun e s' hs => hs
  have fin : ∀ {σ' : St} {H' : Hp} {v : V} {u : Value}, Inv (cxOf CXn P w K mg base N qual (defScope st) f cdv A outer s H En) [] σ' H' s' → RelV v u → Q v H' → CE outer P w H s Q u s' :=
    fun {σ' H' v u} J rv q => ⟨v, H', J.os, J.bare, J.base, J.hok, rv, q⟩
  cases fl with
  | ret u =>
    obtain ⟨v, σ', H', J, rv, q⟩ := hs
    exact fin J rv q
  | next =>
    obtain ⟨σ', H', J, q⟩ := hs
    exact fin (v := V.non) (u := Value.none) J rfl q
  | brk =>
    obtain ⟨_, _, _, q⟩ := hs
    exact False.elim q
  | cont =>
    obtain ⟨_, _, _, q⟩ := hs
    exact False.elim q

/-! ### for x in o, o an instance whose __iter__ answers a tuple's iterator -/
/-- the promise: an iterator of the tuple at l, made anew -/
def spIterN (n : Nat) (K : PySem.W.Frag) (C : Addr) (tr : Str) : Sp := fun vs H Q _ => ∃ a dx fs l xs, vs = [.ref a] ∧ H a = some (.ins C dx fs) ∧ fs.lookup tr = some (.ref l) ∧ SqT K H l xs ∧ ∀ it, H it = none → n ≤ it → Q (.ref it) (upd H it (ItT l it 0))
def iOwn (K : PySem.W.Frag) (C : Addr) (tr : Str) (te : TE) : TI := fun σ H R => te σ H fun x H1 => ∃ a dx fs l xs, x = .ref a ∧ H1 a = some (.ins C dx fs) ∧ fs.lookup tr = some (.ref l) ∧ SqT K H1 l xs ∧ R (Itt K l) H1
theorem pi_own {X : Cx} {tg e : Expr} {te : TE} {C g : Addr} {n : Nat} {tr : Str} (o : Own X.K C "__iter__" g) (F : FnN X.prog X.w X.K X.mg X.base n g (fun z => spIterN z X.K C tr)) (hr : Room n X.A) (he : PE X e te) : PI X tg e (iOwn X.K C tr te) := by
  refine ⟨fun pins s σ H R I h => ?_⟩
  refine thn (he.run pins s σ H _ I h) fun v s1 ⟨x, H1, I1, r1, q1⟩ => ?_
  obtain ⟨a, dx, fs, l, xs, rfl, ha, hl, hq, hR⟩ := q1
  cases (show v = Value.ref a from r1)
  obtain ⟨od, J, _⟩ := ins_at I1 ha
  obtain ⟨m, hF⟩ := I1.fr
  have hsp : spIterN s1.heap.objs.size X.K C tr [.ref a] H1 (fun v H' => ∃ it, v = .ref it ∧ H1 it = none ∧ s1.heap.objs.size ≤ it ∧ H' = upd H1 it (ItT l it 0)) En :=
    ⟨a, dx, fs, l, xs, rfl, ha, hl, hq, fun it h0 h1 => ⟨it, rfl, h0, h1, rfl⟩⟩
  refine PySem.W.owit_iter hF I1.ok.mod.kin J o.at_ o.fn (wpAny_call (codeAny_mono (F X.A X.stack s1 H1 [.ref a] [.ref a] _ hr I1.env0 (.cons rfl .nil) hsp) fun r s' hq' => ?_))
  cases r with
  | error e => exact False.elim hq'
  | ok fl =>
    cases fl with
    | ret u =>
      obtain ⟨v, H', I2, rv, it, ev, h0, h1, eH⟩ := I1.after hq'
      subst ev eH
      cases (show u = Value.ref it from rv)
      have st : s'.heap.IsTupleIter it l 0 := (I2.hok it _ upd_same).1
      have hT : s'.TypeIs (.ref it) "tuple_iterator" := st.typeIs
      show PySem.W.OwitIt _ _ _ _ _ _
      unfold PySem.W.OwitIt
      refine wpAny_specialOf hT PySem.F.slot_tuple_iterator_next.lookup ?_
      have e2 : (upd H1 it (ItT l it 0)) it = some (.ext fun h => h.IsTupleIter it l 0) := upd_same
      have I3 := ItX.inv_drop I2 e2
      have fp := ItX.inv_fp I2 e2 (Nat.le_trans I1.sz h1)
      rw [ItX.dropH_upd h0] at I3 fp
      refine ⟨it, [it], _, _, H1, rfl, I3, turn_tuple l it, st, fun b hb => ?_, hR⟩
      have e : b = it := by simpa using hb
      subst e
      exact fp
    | next => exact False.elim hq'
    | brk => exact False.elim hq'
    | cont => exact False.elim hq'
end L2.My
end
section
set_option Elab.async false
set_option linter.all false
set_option autoImplicit false
set_option maxRecDepth 100000
set_option maxHeartbeats 4000000
/-! C(e, *y, k = v, ..); a def that says super().__init__(..) first -/
namespace PySem.W
open PySem PySem.Calls PyProof.Rows
section
variable {M : Model} {A : Around} {E : Value → Shared → Prop} {s : Shared}
theorem my_call_star {f : Value} {first : List Value} {pos : Pos} {Q : Value → Shared → Prop} {P : Heap → Prop} {args : List (Bool × Sem Value)} {kws : List (Option Str × Sem Value)} (hst : args.any (·.1) = true)
    (hk : ∀ h, P h → ∃ k, (k = Keeper.frame ∨ k = Keeper.machine ∨ k = Keeper.boundFrame) ∧ Looks M h (keeperOf f) k)
    (h : wpAny M A (evalArgs f true args kws) (fun a s₁ => P s₁.heap ∧ wpAny M A (call f (first ++ a.pos) a.kw) Q E s₁) E s) : wpAny M A (callWith pos f first args kws) Q E s := by
  unfold callWith
  refine wpAny_bind (wpAny_holding (wpAny_mono h (fun a s₁ h₁ => wpAny_bind (wpAny_standAt ?_)) fun _ _ x => x))
  obtain ⟨k, hk', L⟩ := hk _ h₁.1
  simp only [hst, Bool.true_or]
  refine wpAny_bind (L.here ?_)
  have tail : ∀ {t : Sem Value}, wpAny M A t Q E s₁ → wpAny M A (t >>= fun r => holding [r] point >>= fun _ => pure r) Q E s₁ :=
    fun ht => wpAny_bind (wpAny_mono ht (fun r s₂ hr => wpAny_bind (wpAny_holding (wpAny_point (wpAny_pure hr)))) fun _ _ x => x)
  have marked (mk : Value) : wpAny M A (callMarked mk f (first ++ a.pos) a.kw) Q E s₁ := by unfold callMarked; exact Calls.wpAny_keep h₁.2
  rcases hk' with rfl | rfl | rfl <;> dsimp only <;> first | exact tail (marked _) | exact tail (wpAny_operating h₁.2)
end
end PySem.W

namespace L2.My
open PySem PySem.Spec PyProof.Rows

/-! ### a promise by positional values and keywords -/
def FnK (P : Program) (w : World) (K : PySem.W.Frag) (mg : Str → Option Value) (base : Heap) (k : Nat) (f : Addr) (ks : List Str) (sp : List V → Sp) : Prop :=
  ∀ (A : Around) (outer : List Env) (s : Shared) (H : Hp) (us : List Value) (vs : List V) (ws : List Value) (zs : List V) (Q : VK), Room k A → Env0 P w K mg base A outer s H → Vals vs us → Vals zs ws → zs.length = ks.length → sp zs vs H Q En →
    codeAny (model P w) A (.call (.ref f) ⟨us, ks.zip ws⟩) (CR CXn outer P w H s Q En) s
/-- def f(a, b, *d, k1, .., k4): all four keywords are given -/
theorem fnK_4 {P : Program} {w : World} {K : PySem.W.Frag} {mg : Str → Option Value} {base : Heap} {k : Nat} {f : Addr} {x qual : Str} {st : Stmt} {fd : FuncData} {N : List Str} {sp : Sp} {a b k1 k2 k3 k4 d : Str}
    (F : Fun K x qual st f fd) (S : FnScope N [a, b, k1, k2, k3, k4, d] (defScope st))
    (hb : ∀ (kV doc pm : Value) (an : Option Addr) (cdv ct : Value) (u1 u2 : Value) (rest : List Value) (w1 w2 w3 w4 : Value), bindArgs (PySem.W.fnOf x qual (defArgs st) (defBody st) (defScope st) .none kV doc pm an cdv ct) ⟨u1 :: u2 :: rest, [k1, k2, k3, k4].zip [w1, w2, w3, w4]⟩ =
      (newTuple rest >>= fun t => pure [(a, u1), (b, u2), (k1, w1), (k2, w2), (k3, w3), (k4, w4), (d, t)]))
    (hbody : ∀ (cdv : Value) (A : Around) (outer : List Env) (s : Shared) (H : Hp) (vs : List V) (Q : VK), Room k (A.deeper (envOfC qual (defScope st) s.heap.objs.size f cdv)) → sp vs H Q En →
      ∃ t, PSs (cxOf CXn P w K mg base N qual (defScope st) f cdv A outer s H En).nox (defBody st) t ∧ t { nx := fun _ H' => Q .non H', rt := Q } (start N vs) H) :
    FnK P w K mg base (k + 1) f [k1, k2, k3, k4] (fun zs vs H Q E => ∃ v1 v2 rest z1 z2 z3 z4, vs = v1 :: v2 :: rest ∧ zs = [z1, z2, z3, z4] ∧ rest.length ≤ sizeLine ∧ ∀ p, H p = none → sp [v1, v2, z1, z2, z3, z4, .ref p] (upd H p (.tup rest)) Q En) := by
  intro A outer s H us vs ws zs Q hr e0 r rz hl hsp
  obtain ⟨oc, od, kV, doc, pm, an, cdv, ct, osl, rfl, lk, hcd⟩ := F.ex
  obtain ⟨v1, v2, rest, z1, z2, z3, z4, rfl, rfl, hz, hq⟩ := hsp
  obtain ⟨u1, u2, ur, rfl, r1, r2, rr⟩ : ∃ u1 u2 ur, us = u1 :: u2 :: ur ∧ RelV v1 u1 ∧ RelV v2 u2 ∧ Vals rest ur := by
    cases r with
    | cons x y =>
      cases y with
      | cons x' y' => exact ⟨_, _, _, rfl, x, x', y'⟩
  obtain ⟨w1, w2, w3, w4, rfl, q1, q2, q3, q4⟩ : ∃ w1 w2 w3 w4, ws = [w1, w2, w3, w4] ∧ RelV z1 w1 ∧ RelV z2 w2 ∧ RelV z3 w3 ∧ RelV z4 w4 := by
    cases rz with
    | cons x y =>
      cases y with
      | cons x1 y1 =>
        cases y1 with
        | cons x2 y2 =>
          cases y2 with
          | cons x3 y3 => cases y3; exact ⟨_, _, _, _, rfl, x, x1, x2, x3⟩
  have hn : H s.heap.objs.size = Option.none := e0.hok.fresh (Nat.le_refl _)
  have hl2 : ur.length ≤ sizeLine := by rw [← rr.length]; exact hz
  refine StX.run_bnd (CX := CXn) (E := En) lk hcd S hr e0 (G := fun xs H2 => ∃ p, H p = Option.none ∧ xs = [v1, v2, z1, z2, z3, z4, V.ref p] ∧ H2 = upd H p (.tup rest)) (fun A' Ex Q' h => ?_) fun s2 H2 xs ⟨p, hp, ex, eH⟩ hr' => ?_
  · rw [hb]
    refine wpAny_bind (wpAny_newTuple (wpAny_pure ?_) hl2)
    have new : ObjOk P w (upd H s.heap.objs.size (.tup rest)) (s.heap.push ({ cls := .type "tuple", data := .seq ur.toArray } : Obj)) s.heap.objs.size (.tup rest) := ⟨hz, ur, rr, ⟨_, Heap.get?_push_size _ rfl, rfl, _, rfl⟩⟩
    have un := StX.un_laid (fs := frs outer) (s := s) (o := ({ cls := .type "tuple", data := .seq ur.toArray } : Obj)) (u := .tup rest) hn
    exact h _ _ [v1, v2, z1, z2, z3, z4, V.ref s.heap.objs.size] [u1, u2, w1, w2, w3, w4, Value.ref s.heap.objs.size] (StX.env0_laid e0 new) un rfl (fun e s' z => z) (.cons r1 (.cons r2 (.cons q1 (.cons q2 (.cons q3 (.cons q4 (.cons rfl .nil)))))))
      rfl ⟨_, hn, rfl, rfl⟩
  · subst ex eH
    obtain ⟨t, ht, q⟩ := hbody cdv A outer s2 _ _ Q hr' (hq p hp)
    exact ⟨t, ht.nox, q⟩
/-- C(e, *y, k = v, ..) -/
structure MakK (P : Program) (w : World) (K : PySem.W.Frag) (mg : Str → Option Value) (base : Heap) (k : Nat) (x : Str) (C : Addr) (ks : List Str) (sp : List V → Sp) : Prop where
  ex : ∃ f : Addr, FnK P w K mg base k f ks sp ∧ Mk K C f ∧ mg x = some (.ref C)
def tMakK (C : Addr) (m : Nat) (sp : List V → Sp) (t tk : TA) : TE := fun σ H Q => t σ H fun vs H1 => tk σ H1 fun zs H2 => zs.length = m ∧ ∀ x dx, H2 x = none → H2 dx = none → dx ≠ x →
  sp zs (.ref x :: vs) (upd (upd H2 dx (.own x)) x (.ins C dx [])) (fun v H3 => v = .non ∧ Q (.ref x) H3) En
section
variable {X : Cx} {k j : Nat} {C : Addr} {ks : List Str} {sp : List V → Sp} {x : Str} {p pos : Pos} {e : Expr} {es : List Expr} {kws : List Keyword} {t tk : TA}
theorem pe_makK (c : MakK X.prog X.w X.K X.mg X.base k x C ks sp) (hr : Room j X.A) (hk : k + 1 ≤ j) (hg : Gl X x) (ha : PA X (e :: es) t) (hkw : PK X kws tk)
    (hall : (backToKw pos (keywordEach kws X.env)).all (·.1.isSome) = true := by rfl) (hks : (backToKw pos (keywordEach kws X.env)).filterMap (·.1) = ks := by rfl) (hdb : (x == ("__debug__" : Str)) = false := by decide)
    (he : starEach (e :: es) X.env = (false, eval e X.env) :: starEach es X.env := by rfl) (hst : (backTo pos (starEach (e :: es) X.env)).any (·.1) = true := by rfl) : PE X (.Call (.Name x p) (e :: es) kws pos) (tMakK C ks.length sp t tk) := by
  obtain ⟨f, F, M, hm⟩ := c.ex
  refine ⟨fun pins s σ H Q I h => ?_⟩
  refine wpAny_Call_Name_kw (ld_glob I hg hm ?_ hdb)
  refine PySem.W.my_call_star (P := X.K.In) hst (PySem.W.keeps_K M.kp) ?_
  refine PyProof.Rows.evalArgs_kw2 hall (thn (ha.run pos pins s σ H _ I h) fun us s1 ⟨vs, H1, I1, r, q⟩ => ?_) he
  refine thn (hkw.run pos pins s1 σ H1 _ I1 q) fun ws s2 ⟨zs, H2, I2, rz, l2, q2⟩ => ⟨I2.kIn, ?_⟩
  rw [hks]
  have hq := q2 (s2.heap.objs.size + 1) s2.heap.objs.size (I2.hok.fresh (Nat.le_succ _)) (I2.hok.fresh (Nat.le_refl _)) (Nat.ne_of_lt (Nat.lt_succ_self _))
  have I3 := Inv.made (C := C) I2
  have r1 : Vals (V.ref (s2.heap.objs.size + 1) :: vs) (Value.ref (s2.heap.objs.size + 1) :: us) := .cons rfl r
  refine wpAny_call (make_map (f := f) I2.kIn M.makes M.init (beq_iff_eq.mp M.fn) (codeAny_mono (F _ X.stack _ _ (Value.ref (s2.heap.objs.size + 1) :: us) _ ws zs _ ((hr.mono hk).make C us (ks.zip ws)) (I3.env0.make C us (ks.zip ws)) r1 rz l2 hq) fun r s' hq' => ?_))
  cases r with
  | error e => exact False.elim hq'
  | ok fl =>
    cases fl with
    | ret u =>
      obtain ⟨v, H', I4, rv, ev, q3⟩ := I3.after hq'
      subst ev
      exact ⟨rv, ⟨V.ref (s2.heap.objs.size + 1), H', I4, rfl, q3⟩⟩
    | next => exact False.elim hq'
    | brk => exact False.elim hq'
    | cont => exact False.elim hq'
end

/-! ### a def whose first statement is super().__init__(..) -/
/-- the names of such a def: parameters local, no cells, __class__ captured -/
structure SScope (N P : List Str) (sc : Scope) : Prop where
  kind : sc.kind = .function
  co : sc.isCoroutine = false
  gen : sc.isGenerator = false
  nd : N.Nodup
  pre : N.take P.length = P
  par : ∀ x ∈ P, sc.names.lookup x = some .local
  nocell : ∀ y ∈ sc.names, y.2 ≠ .cell
  free : ∀ y ∈ sc.names, y.2 = .free → y.1 = ("__class__" : Str)
  cls : sc.names.lookup ("__class__" : Str) = some .free
  sup : sc.names.lookup ("super" : Str) = some .globalImplicit
  out : ("__class__" : Str) ∉ N
section
variable {P : Program} {w : World} {K : PySem.W.Frag} {mg : Str → Option Value} {base : Heap} {N ps : List Str} {qual : Str} {scope : Scope} {f cc : Addr} {cdv : Value} {A : Around} {outer : List Env} {s : Shared} {H : Hp} {us : List Value} {vs : List V}
def cxS (P : Program) (w : World) (K : PySem.W.Frag) (mg : Str → Option Value) (base : Heap) (N : List Str) (qual : Str) (scope : Scope) (f : Addr) (cd : Value) (cc : Addr) (A : Around) (outer : List Env) (s : Shared) (H : Hp) : Cx where
  prog := P
  w := w
  K := K
  mg := mg
  base := base
  A := A.deeper (PySem.W.ksEnv qual scope s.heap.objs.size f cd cc)
  N := N
  s_0 := s
  H_0 := H
  env := PySem.W.ksEnv qual scope s.heap.objs.size f cd cc
  outer := outer
  stack := PySem.W.ksEnv qual scope s.heap.objs.size f cd cc :: outer
  ex := []
  calm := true
  fn := fun _ => false
  pn := []
  xe := fun _ _ => False
theorem inv_startS {h₁ : Heap} {tk : Nat} (S : SScope N ps scope) (hd : A.handled = none) (e0 : Env0 P w K mg base A outer s H) (hl : vs.length = ps.length) (r : Vals vs us) {cl : Value} {cld : Option Addr} {cv : Option Value} {csl : Array (Option Value)}
    (hcell : K.lookup cc = some ⟨cl, cld, .cell cv, csl⟩) (hns : h₁.Ns s.heap.objs.size fun y => (ps.zip us).reverse.lookup y) (kp : ∀ b o, s.heap.get? b = some o → h₁.get? b = some o) :
    Inv (cxS P w K mg base N qual scope f cdv cc A outer s H) [] (start N vs) H { s with heap := h₁, toks := tk } := by
  have hpl : ps.length ≤ N.length := by have := congrArg List.length S.pre; rw [List.length_take] at this; omega
  have noA : ∀ b : Addr, b ∉ (cxS P w K mg base N qual scope f cdv cc A outer s H).ex := fun b z => absurd (show b ∈ ([] : List Addr) from z) (by simp)
  have cb : base.get? cc = some ⟨cl, cld, .cell cv, csl⟩ := e0.mod.kin _ _ hcell
  have one : ∀ {y : Str} {c : Addr}, (PySem.W.ksEnv qual scope s.heap.objs.size f cdv cc).cells.lookup y = some c → y = ("__class__" : Str) ∧ c = cc := fun {y c} h => by
    have h : List.lookup y [(("__class__" : Str), cc)] = some c := h
    rw [List.lookup_cons] at h
    cases q : y == ("__class__" : Str) with
    | true =>
      rw [q] at h
      exact ⟨beq_iff_eq.mp q, (Option.some.inj h).symm⟩
    | false =>
      rw [q] at h
      cases h
  refine ⟨⟨e0.mod, S.kind, rfl, rfl, Nat.le_refl _, fun y z c h1 h2 => (one h1).1.trans (one h2).1.symm, fun y hy => ?_, fun y c z _ => ?_, fun _ => hd, Around.frames_deeper e0.frames, .inr ⟨rfl, rfl⟩, fun b z => absurd z (noA b), e0.bs, e0.bsz, fun b _ _ => noA b,
      fun b z => absurd z (noA b), e0.funs, e0.frf⟩,
    rfl, e0.bare, Un.kept kp, ⟨_, hns, fun i y v h1 h2 h3 => ?_⟩, fun y c e => ?_, e0.hok.fresh (Nat.le_refl _), fun y c e => ?_, fun q hq => absurd (show q ∈ ([] : List (Addr × Obj)) ++ [] from hq) (by simp), e0.hok.kept kp, ?_⟩
  · have hy : scope.names.lookup y = some .cell ∨ scope.names.lookup y = some .free := hy
    rcases hy with hy | hy
    · exact absurd rfl (S.nocell _ (PySem.mem_of_lookup hy))
    · have e := S.free _ (PySem.mem_of_lookup hy) rfl
      have e : y = ("__class__" : Str) := e
      exact ⟨cc, by rw [e]; show List.lookup ("__class__" : Str) [(("__class__" : Str), cc)] = some cc; rw [List.lookup_cons, beq_self_eq_true]⟩
  · have z : false = true := z
    cases z
  · have hi : i < vs.length := by
      unfold start at h2
      by_cases hi : i < vs.length
      · exact hi
      · rw [List.getElem?_append_right (by simpa using hi)] at h2
        rw [List.getElem?_replicate] at h2
        split at h2 <;> cases h2
    have ha : vs[i]? = some v := by
      unfold start at h2
      rw [List.getElem?_append_left (by simpa using hi), List.getElem?_map] at h2
      cases e : vs[i]? with
      | none => rw [e] at h2; cases h2
      | some a => rw [e] at h2; cases h2; rfl
    obtain ⟨u, hu, rv⟩ := r.get ha
    have hp : ps[i]? = some y := by
      rw [← S.pre, List.getElem?_take_of_lt (by omega)]; exact h1
    have ndP : ps.Nodup := by rw [← S.pre]; exact S.nd.sublist (List.take_sublist _ _)
    exact ⟨u, rv, .inl ⟨S.par y (List.mem_of_getElem? hp), NdefX.zip_look ndP hp hu⟩⟩
  · obtain ⟨_, ec⟩ := one e
    subst ec
    exact ⟨cv, _, kp _ _ (e0.bs _ _ cb).1, rfl⟩
  · obtain ⟨_, ec⟩ := one e
    subst ec
    exact (e0.bs _ _ cb).2
  · unfold start
    show _ = N.length
    rw [List.length_append, List.length_map, List.length_replicate]
    omega
end

/-- a def of the text that says super: its cell holds the class at D -/
structure FunS (K : PySem.W.Frag) (x qual : Str) (st : Stmt) (f D : Addr) (fd : FuncData) : Prop where
  ex : ∃ (oc : Value) (od : Option Addr) (kV doc pm : Value) (an : Option Addr) (cda : Addr) (ct : Value) (osl : Array (Option Value)) (cc : Addr) (cl : Value) (cld : Option Addr) (csl : Array (Option Value)) (cvs : Array Value) (ccl : Value) (cdd : Option Addr) (ccs : Array (Option Value)) (file : Str) (tf : Tok),
    fd = PySem.W.ksFn x qual (defArgs st) (defBody st) (defScope st) .none kV doc pm an (.ref cda) ct cc ∧ K.lookup f = some ⟨oc, od, .func fd, osl⟩ ∧ PySem.W.codeIn K (.ref cda) qual = true ∧
    K.lookup cc = some ⟨cl, cld, .cell (some (.ref D)), csl⟩ ∧ K.lookup cda = some ⟨ccl, cdd, .fields cvs, ccs⟩ ∧ cvs[2]? = some (.str file tf) ∧ file = "/claim/cut.py"
  cd : ∃ cd, PySem.W.clsIn K D = some cd
/-- what super() of an instance of C asks in a def of the class at D: the next __init__ is at g -/
structure Sup (K : PySem.W.Frag) (C D : Addr) (m : Str) (g : Addr) : Prop where
  sub : PySem.W.mroIn K C (.ref D) = some true
  nx : PySem.W.ks_superIn K C D m = some (some (.ref g))
  ty : PySem.W.typeIn K (.ref g) = some (.type "function")
  fi : PySem.W.fnIn K g = true
  op : PySem.W.nsIn K cStatics "thirdparty.any" = some none
section
variable {P : Program} {w : World} {K : PySem.W.Frag} {mg : Str → Option Value} {base : Heap} {k j : Nat} {f D g : Addr} {x qual : Str} {st : Stmt} {fd : FuncData} {N ps : List Str}
/-- THE RULE: def x(self, ..): super().__init__(es); rest -/
theorem run_super {A : Around} {outer : List Env} {s : Shared} {H : Hp} {args : Args} {Q : VK} {G : List V → Hp → Prop} {C xs dx : Addr} {spB : Sp} {e : Expr} {es : List Expr} {rest : List Stmt} {p0 p1 ap cp ep : Pos} {self : Str} {sargs : List Arg} {pself : Pos} {selfAnn : Option Expr} {pl : Env → Sem Bool}
    (F : FunS K x qual st f D fd) (S : SScope N ps (defScope st)) (U : Sup K C D "__init__" g) (B : FnR P w K mg base CXn j g spB) (hjk : j ≤ k)
    (hbody : defBody st = .Expr (.Call (.Attribute (.Call (.Name "super" p0) [] [] p1) "__init__" ap) (e :: es) [] cp) ep :: rest)
    (hself : (defArgs st).posonlyargs = []) (hself2 : (defArgs st).args = ⟨self, selfAnn, pself⟩ :: sargs) (h0 : N[0]? = some self) (hs0 : (defScope st).names.lookup self = some .local)
    (hmain : P.main.file = "/claim/cut.py") (htop : (P.main.scope.names.lookup ("super" : Str)).isSome = false) (hsup : mg "super" = none)
    (hr : Room (k + 1) A) (e0 : Env0 P w K mg base A outer s H) (hb : StX.Bnd CXn P w K mg base fd args ps A outer s H En G)
    (hrun : ∀ (s2 : Shared) (H2 : Hp) (vs : List V) (cda cc : Addr), G vs H2 → Room k (A.deeper (PySem.W.ksEnv qual (defScope st) s2.heap.objs.size f (.ref cda) cc)) →
      (start N vs)[0]? = some (some (.ref xs)) ∧ ∃ dx fs, H2 xs = some (.ins C dx fs) ∧ ∃ t u, PA (cxS P w K mg base N qual (defScope st) f (.ref cda) cc A outer s2 H2) (e :: es) t ∧ PSs (cxS P w K mg base N qual (defScope st) f (.ref cda) cc A outer s2 H2) rest u ∧
        t (start N vs) H2 fun ws H3 => spB (.ref xs :: ws) H3 (fun _ H4 => u { nx := fun _ H' => Q .non H', rt := Q } (start N vs) H4) En)
    (hev : ∀ env : Env, eval (.Call (.Attribute (.Call (.Name "super" p0) [] [] p1) "__init__" ap) (e :: es) [] cp) env = (do
      let ov ← attributeBase (.Call (.Name "super" p0) [] [] p1) "__init__" env (eval (.Call (.Name "super" p0) [] [] p1) env)
      standAt ap.atName
      let (f, first) ← holding [ov] (getMethod ov "__init__" (pl env))
      callWith cp f first (backTo cp (starEach (e :: es) env)) []) := by intro _; rfl)
    (hsw : ∀ env : Env, swapsWith (.Call (.Attribute (.Call (.Name "super" p0) [] [] p1) "__init__" ap) (e :: es) [] cp) none ep.line env = pure false := by intro _; rfl)
    (hst : ∀ env : Env, starEach (e :: es) env = (false, eval e env) :: starEach es env := by intro _; rfl) (hpl : ∀ env : Env, (backTo cp (starEach es env)).any (·.1) = false := by intro _; rfl) :
    codeAny (model P w) A (.call (.ref f) args) (CR CXn outer P w H s Q En) s := by
  obtain ⟨oc, od, kV, doc, pm, an, cda, ct, osl, cc, cl, cld, csl, cvs, ccl, cdd, ccs, file, tf, rfl, lk, hcd, hcell, hcode, hfile, rfl⟩ := F.ex
  obtain ⟨cdD, hD⟩ := F.cd
  have KX : K.In s.heap := e0.mod.kin.keeps fun b o e => (e0.bs b o e).1
  refine codeAny_call_function hr.depth (KX _ _ lk) rfl S.co S.gen rfl (PySem.W.codeRec_of KX hcd) ?_
  refine hb _ _ _ fun s2 H2 vs us e2 un ho hx r hl gG => ?_
  have lim : s2.heap.NoLimit := e0.mod.nolimit.keeps fun b o e => (e2.bs b o e).1
  refine wpAny_newFunctionEnv (s := s2) S.nocell (fun y hy => S.par y.1 (List.of_mem_zip hy).1) (fun h₀ hns₀ hsb₀ => ⟨lim.fresh _ hsb₀, ks_codeAny_funcAt ?_⟩) S.kind
  have kp : ∀ b o, s2.heap.get? b = some o → h₀.get? b = some o := fun b o e => hsb₀.extBut b o (Nat.ne_of_lt (Heap.lt_size e)) (Heap.get?_push_of_some _ e)
  obtain ⟨hs1, dx, fs, hins, t, u, ht, hu, hq⟩ := hrun s2 H2 vs cda cc gG (hr.deeper _)
  have I : Inv (cxS P w K mg base N qual (defScope st) f (.ref cda) cc A outer s2 H2) [] (start N vs) H2 { s2 with heap := h₀, toks := s2.toks + (ps.zip us).length } := inv_startS S hr.hd e2 hl r hcell hns₀ kp
  have aft : ∀ {fl : Flow} {s' : Shared}, SP (cxS P w K mg base N qual (defScope st) f (.ref cda) cc A outer s2 H2) [] { nx := fun _ H' => Q .non H', rt := Q } fl s' → CE outer P w H s Q (match fl with | .ret v => v | _ => .none) s' := fun {fl s'} hs => by
    have fin : ∀ {σ' : St} {H' : Hp} {v' : V} {u' : Value} {s' : Shared}, Inv (cxS P w K mg base N qual (defScope st) f (.ref cda) cc A outer s2 H2) [] σ' H' s' → RelV v' u' → Q v' H' → CE outer P w H s Q u' s' :=
      fun {σ' H' v' u' s'} J rv' q => ⟨v', H', J.os.trans ho, J.bare, un.trans J.base, J.hok, rv', q⟩
    cases fl with
    | ret u' =>
      obtain ⟨v', σ', H', J, rv', q⟩ := hs
      exact fin J rv' q
    | next =>
      obtain ⟨σ', H', J, q⟩ := hs
      exact fin (v' := V.non) (u' := Value.none) J rfl q
    | brk =>
      obtain ⟨_, _, _, q⟩ := hs
      exact False.elim q
    | cont =>
      obtain ⟨_, _, _, q⟩ := hs
      exact False.elim q
  have look : ∀ {b : Addr} {o : Obj}, K.lookup b = some o → h₀.get? b = some o := fun {b o} e => kp _ _ (e2.bs _ _ (e0.mod.kin _ _ e)).1
  have hfun := look lk
  have kb : ∀ b o, base.get? b = some o → h₀.get? b = some o := fun b o e => kp _ _ (e2.bs _ _ e).1
  have KX0 : K.In h₀ := e0.mod.kin.keeps kb
  obtain ⟨oD, hD1, hD2⟩ : ∃ oD, h₀.get? D = some oD ∧ oD.data = .cls cdD := by
    unfold PySem.W.clsIn at hD
    split at hD
    · rename_i c d cd' sl ho'
      cases hD
      exact ⟨_, KX0 _ _ ho', rfl⟩
    · cases hD
  obtain ⟨od, J, _⟩ := ins_at I hins
  have hxs : (ps.zip us).reverse.lookup self = some (.ref xs) := by
    have hpl : ps.length ≤ N.length := by have := congrArg List.length S.pre; rw [List.length_take] at this; omega
    have hv0 : vs[0]? = some (V.ref xs) := by
      unfold start at hs1
      by_cases hi : 0 < vs.length
      · rw [List.getElem?_append_left (by simpa using hi), List.getElem?_map] at hs1
        cases e : vs[0]? with
        | none => rw [e] at hs1; cases hs1
        | some a => rw [e] at hs1; cases hs1; rfl
      · rw [List.getElem?_append_right (by simpa using hi), List.getElem?_replicate] at hs1
        split at hs1 <;> cases hs1
    obtain ⟨u0, hu0, ru0⟩ := r.get hv0
    cases (show u0 = Value.ref xs from ru0)
    have hi : 0 < ps.length := by rw [← hl]; exact (List.getElem?_eq_some_iff.mp hv0).1
    have hp : ps[0]? = some self := by
      rw [← S.pre, List.getElem?_take_of_lt hi]; exact h0
    have ndP : ps.Nodup := by rw [← S.pre]; exact S.nd.sublist (List.take_sublist _ _)
    exact NdefX.zip_look ndP hp hu0
  obtain ⟨mb, hmb, hmb2⟩ := e0.mod.blt
  obtain ⟨cdC, hcC⟩ : ∃ cdC, PySem.W.clsIn K C = some cdC := by
    have := U.nx
    unfold PySem.W.ks_superIn at this
    cases hc : PySem.W.clsIn K C with
    | none => rw [hc] at this; cases this
    | some cd => exact ⟨cd, rfl⟩
  have hbodyX : _root_.PySem.wpAt (model P w) (A.deeper (PySem.W.ksEnv qual (defScope st) s2.heap.objs.size f (.ref cda) cc)) (.func (defBody st) (PySem.W.ksEnv qual (defScope st) s2.heap.objs.size f (.ref cda) cc)) (exec (.Expr (.Call (.Attribute (.Call (.Name "super" p0) [] [] p1) "__init__" ap) (e :: es) [] cp) ep) (PySem.W.ksEnv qual (defScope st) s2.heap.objs.size f (.ref cda) cc))
      (fun fl s' => fl = .next ∧ ∃ H4, Inv (cxS P w K mg base N qual (defScope st) f (.ref cda) cc A outer s2 H2) [] (start N vs) H4 s' ∧ u { nx := fun _ H' => Q .non H', rt := Q } (start N vs) H4) (fun _ _ => False) { s2 with heap := h₀, toks := s2.toks + (ps.zip us).length } := by
    refine ks_wpAt_Expr_any (ks_wpAt_MethodCall (pl := pl _) ?_ (hev _)) I.quiet (hsw _)
    refine ks_wpAt_super_base (env := PySem.W.ksEnv qual (defScope st) s2.heap.objs.size f (.ref cda) cc) (ar := ⟨self, selfAnn, pself⟩) S.sup S.cls (by decide) rfl hfun rfl (by show ((defArgs st).posonlyargs ++ (defArgs st).args).head? = _; rw [hself, hself2]; rfl) rfl (look hcode) rfl hfile (by rw [hmain]; decide +kernel) htop ?_
    refine PySem.W.ks_loadName_global (env := PySem.W.ksEnv qual (defScope st) s2.heap.objs.size f (.ref cda) cc) S.kind S.sup (Calls.loadGlobal_builtin (env := PySem.W.ksEnv qual (defScope st) s2.heap.objs.size f (.ref cda) cc) (e0.mod.glob.keeps kb) hsup (hmb.keeps kb) ((hmb2 _ (by decide)).trans (by decide +kernel)) ⟨rfl, ?_⟩)
    refine wpAny_loadName_free (env := PySem.W.ksEnv qual (defScope st) s2.heap.objs.size f (.ref cda) cc) S.kind S.cls rfl ⟨_, look hcell, rfl⟩ ?_
    refine wpAny_loadName_local (env := PySem.W.ksEnv qual (defScope st) s2.heap.objs.size f (.ref cda) cc) S.kind hs0 hns₀ hxs ?_
    refine ks_wpAny_isType_cls hD1 hD2 ⟨rfl, ?_⟩
    refine ks_wpAny_call_super hD1 hD2 J.at_ J.cls (fun c e => ?_) (PySem.W.looks_mroIn KX0 U.sub) (fun h' e k => ?_)
    · have := J.no
      unfold PySem.W.notCls at this
      rw [e] at this
      exact Bool.noConfusion this
    · have I1 : Inv (cxS P w K mg base N qual (defScope st) f (.ref cda) cc A outer s2 H2) [] (start N vs) H2 { s2 with heap := h', toks := s2.toks + (ps.zip us).length } := I.kept k
      have X1 := I1.kIn
      obtain ⟨of, hof, hofc⟩ : ∃ of, h'.get? g = some of ∧ of.cls = .type "function" := by
        have ht' : (K.lookup g).map (·.cls) = some (.type "function") := U.ty
        cases z : K.lookup g with
        | none => rw [z] at ht'; cases ht'
        | some of => rw [z] at ht'; exact ⟨of, X1 _ _ z, Option.some.inj ht'⟩
      obtain ⟨od1, J1, _⟩ := ins_at I1 hins
      have hnx : PySem.W.alongIn K "__init__" ((cdC.mro.dropWhile (· != .ref D)).drop 1) = some (some (.ref g)) := by
        have := U.nx
        unfold PySem.W.ks_superIn at this
        rw [hcC] at this
        exact this
      refine ks_wpAny_getMethod_super e (PySem.W.looks_opaque X1 U.op) (l₀ := cdC.mro) (fun A Q E s k q => wpAny_bind ((PySem.W.looks_clsIn X1 hcC) A _ E s k (wpAny_pure q))) rfl X1 hnx hof hofc (PySem.W.ks_ne X1 J1 hcC) (by decide) ?_
      have I2 := ClX.met_new (g := g) (C := xs) I1
      refine ClX.callwith_cm I2 (ClX.base_none I1 (Nat.le_refl _)) U.fi (thn (ht.run cp _ _ (start N vs) H2 _ I2 hq) fun us' s3 ⟨ws, H3, I3, rv, q2⟩ => ⟨⟨ClX.pin_at I3, I3.kIn⟩, ?_⟩) (hst _) (hpl _)
      exact thn (ClX.run_cm (CX := CXn) (Q := fun _ H4 => u { nx := fun _ H' => Q .non H', rt := Q } (start N vs) H4) B ((hr.deeper _).mono hjk) passN I3 rv q2) fun w' s4 ⟨z', H4, I4, _, q4⟩ => ⟨rfl, H4, I4, q4⟩
  have key : _root_.PySem.wpAt (model P w) (A.deeper (PySem.W.ksEnv qual (defScope st) s2.heap.objs.size f (.ref cda) cc)) (.func (defBody st) (PySem.W.ksEnv qual (defScope st) s2.heap.objs.size f (.ref cda) cc)) (execs (defBody st) (PySem.W.ksEnv qual (defScope st) s2.heap.objs.size f (.ref cda) cc))
      (SP (cxS P w K mg base N qual (defScope st) f (.ref cda) cc A outer s2 H2) [] { nx := fun _ H' => Q .non H', rt := Q }) (fun _ _ => False) { s2 with heap := h₀, toks := s2.toks + (ps.zip us).length } := by
    have hex := hbodyX
    rw [hbody] at hex ⊢
    refine ks_wpAt_execs_cons (ks_wpAt_mono hex (fun fl s' hfl => ?_) fun _ _ z => z)
    obtain ⟨rfl, H4, I4, q4⟩ := hfl
    exact wpAt_of_wpAny (hu.run [] s' (start N vs) H4 _ I4 q4)
  exact ks_wpAt_mono key (fun fl s' hs => aft hs) fun _ _ z => z.elim
end
end L2.My
end
section
set_option Elab.async false
set_option linter.all false
set_option autoImplicit false
set_option maxRecDepth 100000
set_option maxHeartbeats 4000000
/-! the facts of this program read by a Hook of its own: defs by any path, cells of super, any further Bool -/
namespace L2.My
open PySem PySem.Spec PyProof.Rows He

/-- a def: where it is found, its names, its row; sup: the class that its cell holds -/
structure DefY where
  at_ : PySem.W.Frag → Addr
  name : Str
  qual : Str
  st : Stmt
  sup : Option (PySem.W.Frag → Addr) := none
abbrev FnY : Type := Option (Str × Str × Arguments × FuncBody × Scope × Addr × List Str × Addr)
def fnY (K : PySem.W.Frag) (f : Addr) : FnY := match K.lookup f with
  | some ⟨_, _, .func fd, _⟩ => some (fd.name, fd.qualname, fd.params, fd.body, fd.scope, fd.globals, fd.closure.map (·.1), fd.builtins)
  | _ => none
def DefY.val (d : DefY) : FnY := some (d.name, d.qual, defArgs d.st, .stmts (defBody d.st), defScope d.st, mainGlobals, (match d.sup with | none => [] | some _ => [("__class__" : Str)]), builtinsNs)
def isNoneV : Value → Bool
  | .none => true
  | _ => false
theorem isNoneV_ok {v : Value} (h : isNoneV v = true) : v = .none := by
  cases v <;> first | rfl | cases h
def fileIs : Option Value → Bool
  | some (.str file _) => decide (file = ("/claim/cut.py" : Str))
  | _ => false
def cutFile (K : PySem.W.Frag) (c : Value) : Bool := match c with
  | .ref a => (match K.lookup a with
    | some ⟨_, _, .fields cvs, _⟩ => fileIs cvs[2]?
    | _ => false)
  | _ => false
theorem fileIs_ok {v : Option Value} (h : fileIs v = true) : ∃ (file : Str) (tf : Tok), v = some (.str file tf) ∧ file = "/claim/cut.py" := by
  cases v with
  | none => cases h
  | some u =>
    cases u with
    | str file tf => exact ⟨file, tf, rfl, of_decide_eq_true h⟩
    | _ => cases h
theorem cutFile_ok {K : PySem.W.Frag} {c : Value} (h : cutFile K c = true) : ∃ (a : Addr) (cvs : Array Value) (ccl : Value) (cdd : Option Addr) (ccs : Array (Option Value)) (file : Str) (tf : Tok), c = .ref a ∧ K.lookup a = some ⟨ccl, cdd, .fields cvs, ccs⟩ ∧ cvs[2]? = some (.str file tf) ∧ file = "/claim/cut.py" := by
  cases c with
  | ref a =>
    have h : (match K.lookup a with
      | some ⟨_, _, .fields cvs, _⟩ => fileIs cvs[2]?
      | _ => false) = true := h
    cases q : K.lookup a with
    | none => rw [q] at h; cases h
    | some o =>
      obtain ⟨oc, od, dt, osl⟩ := o
      rw [q] at h
      cases dt with
      | fields cvs =>
        obtain ⟨file, tf, e, ef⟩ := fileIs_ok (show fileIs cvs[2]? = true from h)
        exact ⟨a, cvs, oc, od, osl, file, tf, rfl, q, e, ef⟩
      | _ => cases h
  | _ => cases h
def supB (K : PySem.W.Frag) (cl : List (Str × Addr)) (code : Value) : Option (PySem.W.Frag → Addr) → Bool
  | none => cl.isEmpty
  | some D => (match cl with
    | [(x, cc)] => decide (x = ("__class__" : Str)) && ((match K.lookup cc with
      | some ⟨_, _, .cell (some (.ref E)), _⟩ => decide (E = D K)
      | _ => false) && (cutFile K code && (PySem.W.clsIn K (D K)).isSome))
    | _ => false)
def DefY.ok (K : PySem.W.Frag) (d : DefY) : Bool := PySem.W.keepIn K (.ref (d.at_ K)) && (match K.lookup (d.at_ K) with
  | some ⟨_, _, .func fd, _⟩ => PySem.W.codeIn K fd.code d.qual && (isNoneV fd.defaults && supB K fd.closure fd.code d.sup)
  | _ => false)
theorem DefY.get {K : PySem.W.Frag} {d : DefY} (e : fnY K (d.at_ K) = d.val) (c : d.ok K = true) : ∃ (oc : Value) (od : Option Addr) (osl : Array (Option Value)) (fd : FuncData), K.lookup (d.at_ K) = some ⟨oc, od, .func fd, osl⟩ ∧
    fd.name = d.name ∧ fd.qualname = d.qual ∧ fd.params = defArgs d.st ∧ fd.body = .stmts (defBody d.st) ∧ fd.scope = defScope d.st ∧ fd.globals = mainGlobals ∧ fd.closure.map (·.1) = (match d.sup with | none => [] | some _ => [("__class__" : Str)]) ∧ fd.builtins = builtinsNs ∧
    PySem.W.codeIn K fd.code d.qual = true ∧ fd.defaults = .none ∧ supB K fd.closure fd.code d.sup = true ∧ PySem.W.keepIn K (.ref (d.at_ K)) = true := by
  obtain ⟨kp, c2⟩ := ba c
  unfold fnY at e
  cases q : K.lookup (d.at_ K) with
  | none => rw [q] at c2; cases c2
  | some o =>
    obtain ⟨oc, od, dt, osl⟩ := o
    rw [q] at c2 e
    cases dt with
    | func fd =>
      have e2 : (some (fd.name, fd.qualname, fd.params, fd.body, fd.scope, fd.globals, fd.closure.map (·.1), fd.builtins) : FnY) = d.val := e
      unfold DefY.val at e2
      simp only [Option.some.injEq, Prod.mk.injEq] at e2
      obtain ⟨h1, h2, h3, h4, h5, h6, h7, h8⟩ := e2
      obtain ⟨k1, k2⟩ := ba (show (PySem.W.codeIn K fd.code d.qual && (isNoneV fd.defaults && supB K fd.closure fd.code d.sup)) = true from c2)
      obtain ⟨k3, k4⟩ := ba k2
      exact ⟨oc, od, osl, fd, rfl, h1, h2, h3, h4, h5, h6, h7, h8, k1, isNoneV_ok k3, k4, kp⟩
    | _ => cases c2
theorem DefY.fun_ {K : PySem.W.Frag} {d : DefY} (hs : d.sup = none) (e : fnY K (d.at_ K) = d.val) (c : d.ok K = true) : ∃ fd, Fun K d.name d.qual d.st (d.at_ K) fd := by
  obtain ⟨oc, od, osl, fd, lk, h1, h2, h3, h4, h5, h6, h7, h8, k1, k3, k4, kp⟩ := d.get e c
  obtain ⟨n1, n2, n3, n4, n5, n6, n7, n8, n9, n10, n11, n12, n13, n14, n15⟩ := fd
  rw [hs] at k4
  have hc : n7 = [] := List.isEmpty_iff.mp k4
  simp only at h1 h2 h3 h4 h5 h6 h8 k3
  subst h1 h2 h3 h4 h5 h6 h8 k3 hc
  exact ⟨_, ⟨oc, od, n9, n10, n11, n12, n13, n14, osl, rfl, lk, k1⟩, kp⟩
theorem DefY.funS {K : PySem.W.Frag} {d : DefY} {D : PySem.W.Frag → Addr} (hs : d.sup = some D) (e : fnY K (d.at_ K) = d.val) (c : d.ok K = true) : ∃ fd, FunS K d.name d.qual d.st (d.at_ K) (D K) fd := by
  obtain ⟨oc, od, osl, fd, lk, h1, h2, h3, h4, h5, h6, h7, h8, k1, k3, k4, kp⟩ := d.get e c
  obtain ⟨n1, n2, n3, n4, n5, n6, n7, n8, n9, n10, n11, n12, n13, n14, n15⟩ := fd
  rw [hs] at k4
  simp only at h1 h2 h3 h4 h5 h6 h8 k3 k1 k4
  cases n7 with
  | nil => cases k4
  | cons p r =>
    cases r with
    | cons _ _ => cases k4
    | nil =>
      obtain ⟨x, cc⟩ := p
      obtain ⟨z1, z2⟩ := ba (show (decide (x = ("__class__" : Str)) && ((match K.lookup cc with
        | some ⟨_, _, .cell (some (.ref E)), _⟩ => decide (E = D K)
        | _ => false) && (cutFile K n13 && (PySem.W.clsIn K (D K)).isSome))) = true from k4)
      obtain ⟨z3, z4⟩ := ba z2
      obtain ⟨z5, z6⟩ := ba z4
      have ex := of_decide_eq_true z1
      obtain ⟨a, cvs, ccl, cdd, ccs, file, tf, rfl, lc, l2, lf⟩ := cutFile_ok z5
      cases q : K.lookup cc with
      | none => rw [q] at z3; cases z3
      | some o =>
        obtain ⟨cl, cld, dt, csl⟩ := o
        rw [q] at z3
        cases dt with
        | cell v =>
          cases v with
          | none => cases z3
          | some u =>
            cases u with
            | ref E =>
              have eE : E = D K := of_decide_eq_true z3
              subst h1 h2 h3 h4 h5 h6 h8 k3 ex eE
              exact ⟨_, ⟨oc, od, n9, n10, n11, n12, a, n14, osl, cc, cl, cld, csl, cvs, ccl, cdd, ccs, file, tf, rfl, lk, k1, q, lc, l2, lf⟩, Option.isSome_iff_exists.mp z6⟩
            | _ => cases z3
        | _ => cases z3

/-! ### the Hook -/
/-- what the module's names reach, front by front -/
def frontG (g : Addr → Option Obj) : Nat → List Addr → List Addr
  | 0, as => as
  | n + 1, as => as ++ frontG g n (as.flatMap fun a => match g a with
    | some o => refsD o
    | none => [])
abbrev AlY : Type := Bool × List FnY
def obsY (fn : List DefY) (ex : List (PySem.W.Frag → Bool)) (K : PySem.W.Frag) : AlY := ((ex.all fun f => f K) && fn.all fun d => d.ok K, fn.map fun d => fnY K (d.at_ K))
def valY (fn : List DefY) : AlY := (true, fn.map DefY.val)
def SaysY (fn : List DefY) (ex : List (PySem.W.Frag → Bool)) (K : PySem.W.Frag) : Prop := obsY fn ex K = valY fn
def obsYG (n : Nat) (fn : List DefY) (ex : List (PySem.W.Frag → Bool)) (g : Addr → Option Obj) : AlY := obsY fn ex (frG g (frontG g n [mainGlobals, cStatics]))
def hookY (n : Nat) (fn : List DefY) (ex : List (PySem.W.Frag → Bool)) : PySem.W.Hook where
  α := AlY
  obs := fun s => obsYG n fn ex s.heap.get?
  val := fun _ => valY fn
  says := fun _ h => ∃ K : PySem.W.Frag, K.In h ∧ SaysY fn ex K
  of := fun _ _ e => ⟨_, frG_in, e⟩
  keeps := fun _ _ _ ⟨K, hK, c⟩ k => ⟨K, PySem.W.Frag.In.keeps hK k, c⟩
theorem obsYG_eq {n : Nat} {fn : List DefY} {ex : List (PySem.W.Frag → Bool)} {g : Addr → Option Obj} {s : Shared} (h : ∀ a, g a = s.heap.get? a) : obsYG n fn ex g = (hookY n fn ex).obs s := by
  have e : g = s.heap.get? := funext h
  rw [e] <;> rfl
section
variable {fn : List DefY} {ex : List (PySem.W.Frag → Bool)} {K : PySem.W.Frag}
theorem SaysY.fact (c : SaysY fn ex K) (i : Nat) {f : PySem.W.Frag → Bool} (h : ex[i]? = some f := by rfl) : f K = true := by
  have c1 := (ba (show ((ex.all fun f => f K) && fn.all fun d => d.ok K) = true from congrArg (fun z : AlY => z.1) c)).1
  exact List.all_eq_true.mp c1 f (List.mem_of_getElem? h)
theorem SaysY.def_ (c : SaysY fn ex K) (i : Nat) {d : DefY} (h : fn[i]? = some d) : fnY K (d.at_ K) = d.val ∧ d.ok K = true := by
  have c2 := (ba (show ((ex.all fun f => f K) && fn.all fun d => d.ok K) = true from congrArg (fun z : AlY => z.1) c)).2
  have e : fn.map (fun d => fnY K (d.at_ K)) = fn.map DefY.val := congrArg (fun z : AlY => z.2) c
  have e2 : (fn.map fun d => fnY K (d.at_ K))[i]? = (fn.map DefY.val)[i]? := by rw [e]
  rw [List.getElem?_map, List.getElem?_map, h] at e2
  exact ⟨Option.some.inj e2, List.all_eq_true.mp c2 d (List.mem_of_getElem? h)⟩
theorem SaysY.fun_ (c : SaysY fn ex K) (i : Nat) {d : DefY} (h : fn[i]? = some d := by rfl) (hs : d.sup = none := by rfl) : ∃ fd, Fun K d.name d.qual d.st (d.at_ K) fd :=
  DefY.fun_ hs (c.def_ i h).1 (c.def_ i h).2
theorem SaysY.funS (c : SaysY fn ex K) (i : Nat) {D : PySem.W.Frag → Addr} {d : DefY} (h : fn[i]? = some d := by rfl) (hs : d.sup = some D := by rfl) : ∃ fd, FunS K d.name d.qual d.st (d.at_ K) (D K) fd :=
  DefY.funS hs (c.def_ i h).1 (c.def_ i h).2
end
/-- a classmethod's record, its def; a property's -/
def recDef (K : PySem.W.Frag) (p : Addr) (ty : String) : Addr := match PySem.W.recIn K p ty with
  | some (.ref g :: _) => g
  | _ => 0
end L2.My
end
section
set_option Elab.async false
set_option linter.all false
set_option autoImplicit false
set_option maxRecDepth 100000
set_option maxHeartbeats 4000000
/-! kinds of facts -/
namespace L2.My
open PySem PySem.Spec PyProof.Rows He
abbrev AD : Type := PySem.W.Frag → Addr
section
variable {K : PySem.W.Frag} {mg : Str → Option Value} {x m z : Str} {a b g p : AD} {i : Int} {op : Operator} {r : Bool}
def fGlo (x : Str) (a : AD) : PySem.W.Frag → Bool := fun K => eqO (PySem.W.nsIn K mainGlobals x) (some (some (.ref (a K)))) && PySem.W.keepIn K (.ref (a K))
abbrev fGlo_S (K : PySem.W.Frag) (mg : Str → Option Value) (x : Str) (a : AD) : Prop := mg x = some (.ref (a K)) ∧ PySem.W.keepIn K (.ref (a K)) = true
theorem fGlo_ok (mgo : ∀ {x : Str} {v : Value}, PySem.W.nsIn K mainGlobals x = some (some v) → mg x = some v) (h : fGlo x a K = true) : fGlo_S K mg x a := ⟨mgo (eqO_ok (ba h).1), (ba h).2⟩
def fRef (x : Str) (a : AD) : PySem.W.Frag → Bool := fun K => eqO (PySem.W.nsIn K mainGlobals x) (some (some (.ref (a K))))
abbrev fRef_S (K : PySem.W.Frag) (mg : Str → Option Value) (x : Str) (a : AD) : Prop := mg x = some (.ref (a K))
theorem fRef_ok (mgo : ∀ {x : Str} {v : Value}, PySem.W.nsIn K mainGlobals x = some (some v) → mg x = some v) (h : fRef x a K = true) : fRef_S K mg x a := mgo (eqO_ok h)
def fFree (x : Str) : PySem.W.Frag → Bool := fun K => eqO (PySem.W.nsIn K mainGlobals x) (some none)
abbrev fFree_S (K : PySem.W.Frag) (mg : Str → Option Value) (x : Str) : Prop := mg x = none
theorem fFree_ok (mgn : ∀ {x : Str}, PySem.W.nsIn K mainGlobals x = some none → mg x = none) (h : fFree x K = true) : fFree_S K mg x := mgn (eqO_ok h)
def isInt (i : Int) : Option (Option Value) → Bool
  | some (some (.int j _)) => decide (j = i)
  | _ => false
def isStr (z : Str) : Option (Option Value) → Bool
  | some (some (.str j _)) => decide (j = z)
  | _ => false
def fInt (x : Str) (i : Int) : PySem.W.Frag → Bool := fun K => isInt i (PySem.W.nsIn K mainGlobals x)
abbrev fInt_S (K : PySem.W.Frag) (mg : Str → Option Value) (x : Str) (i : Int) : Prop := ∃ t, mg x = some (.int i t)
theorem fInt_ok (mgo : ∀ {x : Str} {v : Value}, PySem.W.nsIn K mainGlobals x = some (some v) → mg x = some v) (h : fInt x i K = true) : fInt_S K mg x i := by
  unfold fInt isInt at h
  split at h
  · rename_i j t e
    have ej : j = i := of_decide_eq_true h
    subst ej
    exact ⟨t, mgo e⟩
  · cases h
def fStr (x z : Str) : PySem.W.Frag → Bool := fun K => isStr z (PySem.W.nsIn K mainGlobals x)
abbrev fStr_S (K : PySem.W.Frag) (mg : Str → Option Value) (x z : Str) : Prop := ∃ t, mg x = some (.str z t)
theorem fStr_ok (mgo : ∀ {x : Str} {v : Value}, PySem.W.nsIn K mainGlobals x = some (some v) → mg x = some v) (h : fStr x z K = true) : fStr_S K mg x z := by
  unfold fStr isStr at h
  split at h
  · rename_i j t e
    have ej : j = z := of_decide_eq_true h
    subst ej
    exact ⟨t, mgo e⟩
  · cases h
def fTup (x : Str) (vs : List Dv) : PySem.W.Frag → Bool := fun K => tupB K x vs
abbrev fTup_S (K : PySem.W.Frag) (x : Str) (vs : List Dv) : Prop := ∀ H, SqT K H (ga K x) (vs.map (Dv.v K))
theorem fTup_ok {vs : List Dv} (h : fTup x vs K = true) : fTup_S K x vs := fun H => tupB_ok h H
def fCls (a : AD) : PySem.W.Frag → Bool := fun K => PySem.W.plainGet K (a K) Str.empty && (PySem.W.hasDictIn K (a K) && (PySem.W.plainOver K (a K) && eqO (PySem.W.findIn K (.ref (a K)) "__setattr__") (some (some (.builtin "object.__setattr__")))))
abbrev fCls_S (K : PySem.W.Frag) (a : AD) : Prop := Cls K (a K)
theorem fCls_ok (c : fCls a K = true) : fCls_S K a := by
  obtain ⟨c1, c⟩ := ba c
  obtain ⟨c2, c⟩ := ba c
  obtain ⟨c3, c4⟩ := ba c
  exact ⟨c1, c2, c3, eqO_ok c4⟩
def fNoat (a : AD) (m : Str) : PySem.W.Frag → Bool := fun K => eqO (PySem.W.findIn K (.ref (a K)) m) (some none)
abbrev fNoat_S (K : PySem.W.Frag) (a : AD) (m : Str) : Prop := NoAttr K (a K) m
theorem fNoat_ok (c : fNoat a m K = true) : fNoat_S K a m := eqO_ok c
def fMeth (a : AD) (m : Str) (g : AD) : PySem.W.Frag → Bool := fun K => eqO (PySem.W.findIn K (.ref (a K)) m) (some (some (.ref (g K)))) && (PySem.W.isFn K (.ref (g K)) && PySem.W.keepIn K (.ref (g K)))
abbrev fMeth_S (K : PySem.W.Frag) (a : AD) (m : Str) (g : AD) : Prop := Meth K (a K) m (g K)
theorem fMeth_ok (c : fMeth a m g K = true) : fMeth_S K a m g := by
  obtain ⟨c1, c⟩ := ba c
  obtain ⟨c2, c3⟩ := ba c
  exact ⟨eqO_ok c1, c2, c3⟩
theorem own_of {C h : Addr} (M : Meth K C m h) : Own K C m h := ⟨M.at_, M.fn⟩
def fMkr (a : AD) : PySem.W.Frag → Bool := fun K => PySem.W.makesIn K (a K) && PySem.W.keepIn K (.ref (a K))
abbrev fMkr_S (K : PySem.W.Frag) (a : AD) : Prop := PySem.W.makesIn K (a K) = true ∧ PySem.W.keepIn K (.ref (a K)) = true
theorem fMkr_ok (c : fMkr a K = true) : fMkr_S K a := ba c
theorem mk_of {C h : Addr} (c : PySem.W.makesIn K C = true ∧ PySem.W.keepIn K (.ref C) = true) (M : Meth K C "__init__" h) : Mk K C h := ⟨c.1, M.at_, M.fn, c.2⟩
def fOwnNe (a : AD) : PySem.W.Frag → Bool := fun K => eqO (PySem.W.findIn K (.ref (a K)) "__ne__") (some (some (.builtin "object.__ne__"))) && decide (PySem.W.mroIn K (a K) (.type "object") = some true)
abbrev fOwnNe_S (K : PySem.W.Frag) (a : AD) : Prop := OwnNe K (a K)
theorem fOwnNe_ok (c : fOwnNe a K = true) : fOwnNe_S K a := ⟨eqO_ok (ba c).1, of_decide_eq_true (ba c).2⟩
def mroIs (D : Addr) : Option ClassData → Bool
  | some cd => decide (cd.mro = [.ref D, .type "object"])
  | none => false
theorem mroIs_ok {D : Addr} {o : Option ClassData} (h : mroIs D o = true) : ∃ cd, o = some cd ∧ cd.mro = [.ref D, .type "object"] := by
  cases o with
  | none => cases h
  | some cd => exact ⟨cd, rfl, of_decide_eq_true h⟩
def fOwnBin (a b : AD) (op : Operator) (g : AD) : PySem.W.Frag → Bool := fun K => eqO (PySem.W.findIn K (.ref (a K)) (PySem.dunder op.info.2)) (some (some (.ref (g K)))) && (PySem.W.isFn K (.ref (g K)) && (PySem.W.selfFirst K (a K) && (mroIs (b K) (PySem.W.clsIn K (b K)) &&
  (eqO (PySem.W.findIn K (.ref (b K)) (PySem.dunder op.info.2)) (some none) && (eqO (PySem.W.findIn K (.ref (b K)) (PySem.dunderR op.info.2)) (some none) && !(Value.ref (a K) == Value.ref (b K)))))))
abbrev fOwnBin_S (K : PySem.W.Frag) (a b : AD) (op : Operator) (g : AD) : Prop := OwnBin K (a K) (b K) op (g K)
theorem fOwnBin_ok (c : fOwnBin a b op g K = true) : fOwnBin_S K a b op g := by
  obtain ⟨c1, c⟩ := ba c
  obtain ⟨c2, c⟩ := ba c
  obtain ⟨c3, c⟩ := ba c
  obtain ⟨c4, c⟩ := ba c
  obtain ⟨c5, c⟩ := ba c
  obtain ⟨c6, c7⟩ := ba c
  exact ⟨eqO_ok c1, c2, c3, mroIs_ok c4, eqO_ok c5, eqO_ok c6, by simpa using c7⟩
def fFi (a : AD) : PySem.W.Frag → Bool := fun K => PySem.W.fnIn K (a K)
abbrev fFi_S (K : PySem.W.Frag) (a : AD) : Prop := PySem.W.fnIn K (a K) = true
theorem fFi_ok (c : fFi a K = true) : fFi_S K a := c
def fSup (a g : AD) : PySem.W.Frag → Bool := fun K => decide (PySem.W.mroIn K (a K) (.ref (a K)) = some true) && (eqO (PySem.W.ks_superIn K (a K) (a K) "__init__") (some (some (.ref (g K)))) && (decide (PySem.W.typeIn K (.ref (g K)) = some (.type "function")) && (PySem.W.fnIn K (g K) && eqO (PySem.W.nsIn K cStatics "thirdparty.any") (some none))))
abbrev fSup_S (K : PySem.W.Frag) (a g : AD) : Prop := Sup K (a K) (a K) "__init__" (g K)
theorem fSup_ok (c : fSup a g K = true) : fSup_S K a g := by
  obtain ⟨c1, c⟩ := ba c
  obtain ⟨c2, c⟩ := ba c
  obtain ⟨c3, c⟩ := ba c
  obtain ⟨c4, c5⟩ := ba c
  exact ⟨of_decide_eq_true c1, eqO_ok c2, of_decide_eq_true c3, c4, eqO_ok c5⟩
def fNf (a b : AD) : PySem.W.Frag → Bool := fun K => PySem.W.notFirst K (a K) (.ref (b K))
abbrev fNf_S (K : PySem.W.Frag) (a b : AD) : Prop := PySem.W.notFirst K (a K) (.ref (b K)) = true
theorem fNf_ok (c : fNf a b K = true) : fNf_S K a b := c
def fKit (a b : AD) (r : Bool) : PySem.W.Frag → Bool := fun K => decide (PySem.W.kitOne K (.ref (a K)) (.ref (b K)) = some r)
abbrev fKit_S (K : PySem.W.Frag) (a b : AD) (r : Bool) : Prop := PySem.W.kitOne K (.ref (a K)) (.ref (b K)) = some r
theorem fKit_ok (c : fKit a b r K = true) : fKit_S K a b r := of_decide_eq_true c
def fCRead (a : AD) : PySem.W.Frag → Bool := fun K => PySem.W.readsIn K (a K) (.type "type") && eqO (PySem.W.specialIn K (.ref (a K)) "__getattribute__") (some (some (.builtin "type.__getattribute__")))
abbrev fCRead_S (K : PySem.W.Frag) (a : AD) : Prop := ClX.CRead K (a K) (.type "type")
theorem fCRead_ok (c : fCRead a K = true) : fCRead_S K a := ⟨(ba c).1, eqO_ok (ba c).2⟩
def cmIs (C p : Addr) : Option PySem.W.CFound → Bool
  | some (.get (.builtin g) (.ref q) .none (.ref D)) => decide (g = "classmethod.__get__") && (decide (q = p) && decide (D = C))
  | _ => false
theorem cmIs_ok {C p : Addr} {o : Option PySem.W.CFound} (h : cmIs C p o = true) : o = some (.get (.builtin "classmethod.__get__") (.ref p) .none (.ref C)) := by
  unfold cmIs at h
  split at h
  · obtain ⟨k1, k⟩ := ba h
    obtain ⟨k2, k3⟩ := ba k
    rw [of_decide_eq_true k1, of_decide_eq_true k2, of_decide_eq_true k3]
  · cases h
def recIs (g : Addr) : Option (List Value) → Bool
  | some (.ref h :: _) => decide (h = g)
  | _ => false
theorem recIs_ok {h : Addr} {o : Option (List Value)} (e : recIs h o = true) : ∃ rest, o = some (.ref h :: rest) := by
  unfold recIs at e
  split at e
  · rename_i u rest
    have : u = h := of_decide_eq_true e
    subst this
    exact ⟨rest, rfl⟩
  · cases e
def fCMet (a : AD) (m : Str) (p g : AD) : PySem.W.Frag → Bool := fun K => cmIs (a K) (p K) (PySem.W.findCls K (.ref (a K)) (.type "type") m) && (recIs (g K) (PySem.W.recIn K (p K) "classmethod") && PySem.W.fnIn K (g K))
abbrev fCMet_S (K : PySem.W.Frag) (a : AD) (m : Str) (p g : AD) : Prop := ClX.CMet K (a K) (.type "type") m (p K) (g K)
theorem fCMet_ok (c : fCMet a m p g K = true) : fCMet_S K a m p g := by
  obtain ⟨c1, c⟩ := ba c
  obtain ⟨c2, c3⟩ := ba c
  exact ⟨cmIs_ok c1, recIs_ok c2, c3⟩
def fProp (a : AD) (m : Str) (p g : AD) : PySem.W.Frag → Bool := fun K => eqO (PySem.W.findIn K (.ref (a K)) m) (some (some (.ref (p K)))) && (eqO (PySem.W.specialIn K (.ref (p K)) "__get__") (some (some (.builtin "property.__get__"))) && (decide (PySem.W.takesIn K (.ref (p K)) = some true) && recIs (g K) (PySem.W.recIn K (p K) "property")))
abbrev fProp_S (K : PySem.W.Frag) (a : AD) (m : Str) (p g : AD) : Prop := PropOf K (a K) m (p K) (g K)
theorem fProp_ok (c : fProp a m p g K = true) : fProp_S K a m p g := by
  obtain ⟨c1, c⟩ := ba c
  obtain ⟨c2, c⟩ := ba c
  obtain ⟨c3, c4⟩ := ba c
  exact ⟨eqO_ok c1, eqO_ok c2, of_decide_eq_true c3, recIs_ok c4⟩
/-- an instance's type, as isinstance asks -/
structure InsT (K : PySem.W.Frag) (C : Addr) : Prop where
  ha : PySem.W.findIn K (.ref C) "__class__" = some (some (.builtin "object.__class__"))
  hn : PySem.W.specialIn K (.builtin "object.__class__") "__get__" = some (some (.builtin "getset_descriptor.__get__"))
  htk : PySem.W.takesIn K (.builtin "object.__class__") = some true
  hm : PySem.W.mroIn K C (.type "object") = some true
def fInsT (a : AD) : PySem.W.Frag → Bool := fun K => eqO (PySem.W.findIn K (.ref (a K)) "__class__") (some (some (.builtin "object.__class__"))) && (eqO (PySem.W.specialIn K (.builtin "object.__class__") "__get__") (some (some (.builtin "getset_descriptor.__get__"))) && (decide (PySem.W.takesIn K (.builtin "object.__class__") = some true) && decide (PySem.W.mroIn K (a K) (.type "object") = some true)))
abbrev fInsT_S (K : PySem.W.Frag) (a : AD) : Prop := InsT K (a K)
theorem fInsT_ok (c : fInsT a K = true) : fInsT_S K a := by
  obtain ⟨c1, c⟩ := ba c
  obtain ⟨c2, c⟩ := ba c
  obtain ⟨c3, c4⟩ := ba c
  exact ⟨eqO_ok c1, eqO_ok c2, of_decide_eq_true c3, of_decide_eq_true c4⟩
end
end L2.My
end
section
set_option Elab.async false
set_option linter.all false
set_option autoImplicit false
set_option maxRecDepth 100000
set_option maxHeartbeats 4000000
/-! printed by gen.py: places, scopes, facts -/
namespace L2.My
open PySem PySem.Spec PyProof.Rows He
abbrev prog_ : Program := PySem.Challenge.pw_markedpair_k13_whole_ends_led_as_lists
def top (i : Nat) : Stmt := prog_.main.body.getD i (.Pass ⟨0, 0, 0, 0⟩)
abbrev s_is_integer : Stmt := top 6
theorem sc_is_integer : FnScope ["value"] ["value"] (defScope s_is_integer) := ⟨rfl, rfl, rfl, by decide +kernel, rfl, by decide +kernel, by decide +kernel⟩
abbrev s_is_within : Stmt := top 7
theorem sc_is_within : FnScope ["value", "least", "most"] ["value", "least", "most"] (defScope s_is_within) := ⟨rfl, rfl, rfl, by decide +kernel, rfl, by decide +kernel, by decide +kernel⟩
abbrev s_is_state : Stmt := top 8
theorem sc_is_state : FnScope ["value"] ["value"] (defScope s_is_state) := ⟨rfl, rfl, rfl, by decide +kernel, rfl, by decide +kernel, by decide +kernel⟩
abbrev s_is_box : Stmt := top 9
theorem sc_is_box : FnScope ["value"] ["value"] (defScope s_is_box) := ⟨rfl, rfl, rfl, by decide +kernel, rfl, by decide +kernel, by decide +kernel⟩
abbrev s_is_number : Stmt := top 10
theorem sc_is_number : FnScope ["value"] ["value"] (defScope s_is_number) := ⟨rfl, rfl, rfl, by decide +kernel, rfl, by decide +kernel, by decide +kernel⟩
abbrev s_need_box : Stmt := top 20
theorem sc_need_box : FnScope ["value", "part"] ["value", "part"] (defScope s_need_box) := ⟨rfl, rfl, rfl, by decide +kernel, rfl, by decide +kernel, by decide +kernel⟩
abbrev s_need_number : Stmt := top 21
theorem sc_need_number : FnScope ["value"] ["value"] (defScope s_need_number) := ⟨rfl, rfl, rfl, by decide +kernel, rfl, by decide +kernel, by decide +kernel⟩
abbrev s_Deed_is_for : Stmt := inClass (top 22) 1
theorem sc_Deed_is_for : FnScope ["self", "side"] ["self", "side"] (defScope s_Deed_is_for) := ⟨rfl, rfl, rfl, by decide +kernel, rfl, by decide +kernel, by decide +kernel⟩
abbrev s_Deed_named_numbers : Stmt := inClass (top 22) 3
theorem sc_Deed_named_numbers : FnScope ["self"] ["self"] (defScope s_Deed_named_numbers) := ⟨rfl, rfl, rfl, by decide +kernel, rfl, by decide +kernel, by decide +kernel⟩
abbrev s_Deed_renumbered : Stmt := inClass (top 22) 4
theorem sc_Deed_renumbered : FnScope ["self", "table"] ["self", "table"] (defScope s_Deed_renumbered) := ⟨rfl, rfl, rfl, by decide +kernel, rfl, by decide +kernel, by decide +kernel⟩
abbrev s_BoxDeed_init : Stmt := inClass (top 23) 0
theorem sc_BoxDeed_init : FnScope ["self", "box"] ["self", "box"] (defScope s_BoxDeed_init) := ⟨rfl, rfl, rfl, by decide +kernel, rfl, by decide +kernel, by decide +kernel⟩
abbrev s_BoxDeed_str : Stmt := inClass (top 23) 2
theorem sc_BoxDeed_str : FnScope ["self"] ["self"] (defScope s_BoxDeed_str) := ⟨rfl, rfl, rfl, by decide +kernel, rfl, by decide +kernel, by decide +kernel⟩
abbrev s_Take_verb : Stmt := inClass (top 24) 0
theorem sc_Take_verb : FnScope ["self"] ["self"] (defScope s_Take_verb) := ⟨rfl, rfl, rfl, by decide +kernel, rfl, by decide +kernel, by decide +kernel⟩
abbrev s_Put_verb : Stmt := inClass (top 25) 0
theorem sc_Put_verb : FnScope ["self"] ["self"] (defScope s_Put_verb) := ⟨rfl, rfl, rfl, by decide +kernel, rfl, by decide +kernel, by decide +kernel⟩
abbrev s_Out_verb : Stmt := inClass (top 26) 0
theorem sc_Out_verb : FnScope ["self"] ["self"] (defScope s_Out_verb) := ⟨rfl, rfl, rfl, by decide +kernel, rfl, by decide +kernel, by decide +kernel⟩
abbrev s_Clear_verb : Stmt := inClass (top 27) 0
theorem sc_Clear_verb : FnScope ["self"] ["self"] (defScope s_Clear_verb) := ⟨rfl, rfl, rfl, by decide +kernel, rfl, by decide +kernel, by decide +kernel⟩
abbrev s_Send_init : Stmt := inClass (top 28) 0
theorem sc_Send_init : SScope ["self", "box", "number"] ["self", "box", "number"] (defScope s_Send_init) := ⟨rfl, rfl, rfl, by decide +kernel, rfl, by decide +kernel, by decide +kernel, by decide +kernel, by decide +kernel, by decide +kernel, by decide +kernel⟩
abbrev s_Send_verb : Stmt := inClass (top 28) 1
theorem sc_Send_verb : FnScope ["self"] ["self"] (defScope s_Send_verb) := ⟨rfl, rfl, rfl, by decide +kernel, rfl, by decide +kernel, by decide +kernel⟩
abbrev s_Send_named_numbers : Stmt := inClass (top 28) 2
theorem sc_Send_named_numbers : FnScope ["self"] ["self"] (defScope s_Send_named_numbers) := ⟨rfl, rfl, rfl, by decide +kernel, rfl, by decide +kernel, by decide +kernel⟩
abbrev s_Send_renumbered : Stmt := inClass (top 28) 3
theorem sc_Send_renumbered : FnScope ["self", "table"] ["self", "table"] (defScope s_Send_renumbered) := ⟨rfl, rfl, rfl, by decide +kernel, rfl, by decide +kernel, by decide +kernel⟩
abbrev s_Send_str : Stmt := inClass (top 28) 4
theorem sc_Send_str : FnScope ["self"] ["self"] (defScope s_Send_str) := ⟨rfl, rfl, rfl, by decide +kernel, rfl, by decide +kernel, by decide +kernel⟩
abbrev s_Move_init : Stmt := inClass (top 29) 0
theorem sc_Move_init : SScope ["self", "box", "to"] ["self", "box", "to"] (defScope s_Move_init) := ⟨rfl, rfl, rfl, by decide +kernel, rfl, by decide +kernel, by decide +kernel, by decide +kernel, by decide +kernel, by decide +kernel, by decide +kernel⟩
abbrev s_Move_verb : Stmt := inClass (top 29) 1
theorem sc_Move_verb : FnScope ["self"] ["self"] (defScope s_Move_verb) := ⟨rfl, rfl, rfl, by decide +kernel, rfl, by decide +kernel, by decide +kernel⟩
abbrev s_Move_str : Stmt := inClass (top 29) 3
theorem sc_Move_str : FnScope ["self"] ["self"] (defScope s_Move_str) := ⟨rfl, rfl, rfl, by decide +kernel, rfl, by decide +kernel, by decide +kernel⟩
abbrev s_Answer_init : Stmt := inClass (top 30) 0
theorem sc_Answer_init : FnScope ["self", "number"] ["self", "number"] (defScope s_Answer_init) := ⟨rfl, rfl, rfl, by decide +kernel, rfl, by decide +kernel, by decide +kernel⟩
abbrev s_Answer_verb : Stmt := inClass (top 30) 1
theorem sc_Answer_verb : FnScope ["self"] ["self"] (defScope s_Answer_verb) := ⟨rfl, rfl, rfl, by decide +kernel, rfl, by decide +kernel, by decide +kernel⟩
abbrev s_Answer_named_numbers : Stmt := inClass (top 30) 2
theorem sc_Answer_named_numbers : FnScope ["self"] ["self"] (defScope s_Answer_named_numbers) := ⟨rfl, rfl, rfl, by decide +kernel, rfl, by decide +kernel, by decide +kernel⟩
abbrev s_Answer_renumbered : Stmt := inClass (top 30) 3
theorem sc_Answer_renumbered : FnScope ["self", "table"] ["self", "table"] (defScope s_Answer_renumbered) := ⟨rfl, rfl, rfl, by decide +kernel, rfl, by decide +kernel, by decide +kernel⟩
abbrev s_Answer_str : Stmt := inClass (top 30) 4
theorem sc_Answer_str : FnScope ["self"] ["self"] (defScope s_Answer_str) := ⟨rfl, rfl, rfl, by decide +kernel, rfl, by decide +kernel, by decide +kernel⟩
abbrev s_sides_of : Stmt := top 31
theorem sc_sides_of : FnScope ["verb"] ["verb"] (defScope s_sides_of) := ⟨rfl, rfl, rfl, by decide +kernel, rfl, by decide +kernel, by decide +kernel⟩
abbrev s_integer_in : Stmt := top 32
theorem sc_integer_in : FnScope ["words", "at", "most", "number"] ["words", "at", "most"] (defScope s_integer_in) := ⟨rfl, rfl, rfl, by decide +kernel, rfl, by decide +kernel, by decide +kernel⟩
abbrev s_deed_in : Stmt := top 33
theorem sc_deed_in : FnScope ["words", "at", "sides", "verb", "box", "to", "side"] ["words", "at", "sides"] (defScope s_deed_in) := ⟨rfl, rfl, rfl, by decide +kernel, rfl, by decide +kernel, by decide +kernel⟩
abbrev s_fit_sides : Stmt := top 37
theorem sc_fit_sides : FnScope ["deeds", "side", "deed"] ["deeds"] (defScope s_fit_sides) := ⟨rfl, rfl, rfl, by decide +kernel, rfl, by decide +kernel, by decide +kernel⟩
abbrev s_need_deeds : Stmt := top 38
theorem sc_need_deeds : FnScope ["deeds", "deed"] ["deeds"] (defScope s_need_deeds) := ⟨rfl, rfl, rfl, by decide +kernel, rfl, by decide +kernel, by decide +kernel⟩
abbrev s_is_heard : Stmt := top 39
theorem sc_is_heard : FnScope ["value"] ["value"] (defScope s_is_heard) := ⟨rfl, rfl, rfl, by decide +kernel, rfl, by decide +kernel, by decide +kernel⟩
abbrev s_are_boxes : Stmt := top 40
theorem sc_are_boxes : FnScope ["value", "box", "one", "two"] ["value"] (defScope s_are_boxes) := ⟨rfl, rfl, rfl, by decide +kernel, rfl, by decide +kernel, by decide +kernel⟩
abbrev s_rank_of : Stmt := top 41
theorem sc_rank_of : FnScope ["hear"] ["hear"] (defScope s_rank_of) := ⟨rfl, rfl, rfl, by decide +kernel, rfl, by decide +kernel, by decide +kernel⟩
abbrev s_ascending : Stmt := top 42
theorem sc_ascending : FnScope ["some", "number"] ["some"] (defScope s_ascending) := ⟨rfl, rfl, rfl, by decide +kernel, rfl, by decide +kernel, by decide +kernel⟩
abbrev s_Row_init : Stmt := inClass (top 43) 0
theorem sc_Row_init : FnScope ["self", "state", "then", "hear", "empty", "full", "deeds", "deed", "box"] ["self", "state", "then", "hear", "empty", "full", "deeds"] (defScope s_Row_init) := ⟨rfl, rfl, rfl, by decide +kernel, rfl, by decide +kernel, by decide +kernel⟩
abbrev s_Row_read : Stmt := inClass (top 43) 1
theorem sc_Row_read : FnScope ["cls", "text", "words", "found", "at"] ["cls", "text"] (defScope s_Row_read) := ⟨rfl, rfl, rfl, by decide +kernel, rfl, by decide +kernel, by decide +kernel⟩
abbrev s_Row_sides : Stmt := inClass (top 43) 2
theorem sc_Row_sides : FnScope ["self"] ["self"] (defScope s_Row_sides) := ⟨rfl, rfl, rfl, by decide +kernel, rfl, by decide +kernel, by decide +kernel⟩
abbrev s_Row_named_numbers : Stmt := inClass (top 43) 4
theorem sc_Row_named_numbers : FnScope ["self", "heard", "deed", "number"] ["self"] (defScope s_Row_named_numbers) := ⟨rfl, rfl, rfl, by decide +kernel, rfl, by decide +kernel, by decide +kernel⟩
abbrev s_Row_renumbered : Stmt := inClass (top 43) 6
theorem sc_Row_renumbered : FnScope ["self", "table", "deeds", "hear", "deed"] ["self", "table"] (defScope s_Row_renumbered) := ⟨rfl, rfl, rfl, by decide +kernel, rfl, by decide +kernel, by decide +kernel⟩
abbrev s_Row_eq : Stmt := inClass (top 43) 7
theorem sc_Row_eq : FnScope ["self", "other"] ["self", "other"] (defScope s_Row_eq) := ⟨rfl, rfl, rfl, by decide +kernel, rfl, by decide +kernel, by decide +kernel⟩
abbrev s_Row_str : Stmt := inClass (top 43) 9
theorem sc_Row_str : FnScope ["self", "heard", "empty", "full"] ["self"] (defScope s_Row_str) := ⟨rfl, rfl, rfl, by decide +kernel, rfl, by decide +kernel, by decide +kernel⟩
abbrev s_boxes_text : Stmt := top 44
theorem sc_boxes_text : FnScope ["word", "boxes", "part"] ["word", "boxes"] (defScope s_boxes_text) := ⟨rfl, rfl, rfl, by decide +kernel, rfl, by decide +kernel, by decide +kernel⟩
abbrev s_deeds_text : Stmt := top 45
theorem sc_deeds_text : FnScope ["deeds", "deed"] ["deeds"] (defScope s_deeds_text) := ⟨rfl, rfl, rfl, by decide +kernel, rfl, by decide +kernel, by decide +kernel⟩
abbrev s_word_at : Stmt := top 46
theorem sc_word_at : FnScope ["words", "at"] ["words", "at"] (defScope s_word_at) := ⟨rfl, rfl, rfl, by decide +kernel, rfl, by decide +kernel, by decide +kernel⟩
abbrev s_boxes_in : Stmt := top 47
theorem sc_boxes_in : FnScope ["words", "at", "barred", "found", "some", "box"] ["words", "at", "barred"] (defScope s_boxes_in) := ⟨rfl, rfl, rfl, by decide +kernel, rfl, by decide +kernel, by decide +kernel⟩
abbrev s_deeds_in : Stmt := top 48
theorem sc_deeds_in : FnScope ["words", "at", "sides", "hears", "found", "start", "verb", "deed", "side"] ["words", "at", "sides", "hears"] (defScope s_deeds_in) := ⟨rfl, rfl, rfl, by decide +kernel, rfl, by decide +kernel, by decide +kernel⟩
abbrev s_row_in : Stmt := top 49
theorem sc_row_in : FnScope ["words", "at", "sides", "state", "hear", "empty", "full", "deeds", "then"] ["words", "at", "sides"] (defScope s_row_in) := ⟨rfl, rfl, rfl, by decide +kernel, rfl, by decide +kernel, by decide +kernel⟩
abbrev s_need_rows : Stmt := top 52
theorem sc_need_rows : FnScope ["side", "rows", "known", "at", "row"] ["side", "rows"] (defScope s_need_rows) := ⟨rfl, rfl, rfl, by decide +kernel, rfl, by decide +kernel, by decide +kernel⟩
abbrev s_made : Stmt := top 53
theorem sc_made : FnScope ["side", "rows"] ["side", "rows"] (defScope s_made) := ⟨rfl, rfl, rfl, by decide +kernel, rfl, by decide +kernel, by decide +kernel⟩
abbrev s_rows_text : Stmt := top 54
theorem sc_rows_text : FnScope ["rows", "row"] ["rows"] (defScope s_rows_text) := ⟨rfl, rfl, rfl, by decide +kernel, rfl, by decide +kernel, by decide +kernel⟩
abbrev s_rows_in : Stmt := top 55
theorem sc_rows_in : FnScope ["text", "side", "words", "found", "at", "row"] ["text", "side"] (defScope s_rows_in) := ⟨rfl, rfl, rfl, by decide +kernel, rfl, by decide +kernel, by decide +kernel⟩
abbrev s_End_init : Stmt := inClass (top 56) 1
theorem sc_End_init : FnScope ["self", "side", "rows"] ["self", "side", "rows"] (defScope s_End_init) := ⟨rfl, rfl, rfl, by decide +kernel, rfl, by decide +kernel, by decide +kernel⟩
abbrev s_End_len : Stmt := inClass (top 56) 2
theorem sc_End_len : FnScope ["self"] ["self"] (defScope s_End_len) := ⟨rfl, rfl, rfl, by decide +kernel, rfl, by decide +kernel, by decide +kernel⟩
abbrev s_End_iter : Stmt := inClass (top 56) 3
theorem sc_End_iter : FnScope ["self"] ["self"] (defScope s_End_iter) := ⟨rfl, rfl, rfl, by decide +kernel, rfl, by decide +kernel, by decide +kernel⟩
abbrev s_End_getitem : Stmt := inClass (top 56) 4
theorem sc_End_getitem : FnScope ["self", "at"] ["self", "at"] (defScope s_End_getitem) := ⟨rfl, rfl, rfl, by decide +kernel, rfl, by decide +kernel, by decide +kernel⟩
abbrev s_End_contains : Stmt := inClass (top 56) 5
theorem sc_End_contains : FnScope ["self", "row", "other"] ["self", "row"] (defScope s_End_contains) := ⟨rfl, rfl, rfl, by decide +kernel, rfl, by decide +kernel, by decide +kernel⟩
abbrev s_End_add : Stmt := inClass (top 56) 6
theorem sc_End_add : FnScope ["self", "row"] ["self", "row"] (defScope s_End_add) := ⟨rfl, rfl, rfl, by decide +kernel, rfl, by decide +kernel, by decide +kernel⟩
abbrev s_End_sub : Stmt := inClass (top 56) 7
theorem sc_End_sub : FnScope ["self", "row", "other"] ["self", "row"] (defScope s_End_sub) := ⟨rfl, rfl, rfl, by decide +kernel, rfl, by decide +kernel, by decide +kernel⟩
abbrev s_End_with_row : Stmt := inClass (top 56) 8
theorem sc_End_with_row : FnScope ["self", "at", "row"] ["self", "at", "row"] (defScope s_End_with_row) := ⟨rfl, rfl, rfl, by decide +kernel, rfl, by decide +kernel, by decide +kernel⟩
abbrev s_End_without_row : Stmt := inClass (top 56) 9
theorem sc_End_without_row : FnScope ["self", "at"] ["self", "at"] (defScope s_End_without_row) := ⟨rfl, rfl, rfl, by decide +kernel, rfl, by decide +kernel, by decide +kernel⟩
abbrev s_End_numbers : Stmt := inClass (top 56) 13
theorem sc_End_numbers : FnScope ["self", "row", "number"] ["self"] (defScope s_End_numbers) := ⟨rfl, rfl, rfl, by decide +kernel, rfl, by decide +kernel, by decide +kernel⟩
abbrev s_End_renumbered : Stmt := inClass (top 56) 14
theorem sc_End_renumbered : FnScope ["self", "table", "number", "row"] ["self", "table"] (defScope s_End_renumbered) := ⟨rfl, rfl, rfl, by decide +kernel, rfl, by decide +kernel, by decide +kernel⟩
abbrev s_End_eq : Stmt := inClass (top 56) 15
theorem sc_End_eq : FnScope ["self", "other"] ["self", "other"] (defScope s_End_eq) := ⟨rfl, rfl, rfl, by decide +kernel, rfl, by decide +kernel, by decide +kernel⟩
abbrev s_End_str : Stmt := inClass (top 56) 16
theorem sc_End_str : FnScope ["self"] ["self"] (defScope s_End_str) := ⟨rfl, rfl, rfl, by decide +kernel, rfl, by decide +kernel, by decide +kernel⟩
abbrev s_Sender_init : Stmt := inClass (top 57) 1
theorem sc_Sender_init : SScope ["self", "rows"] ["self", "rows"] (defScope s_Sender_init) := ⟨rfl, rfl, rfl, by decide +kernel, rfl, by decide +kernel, by decide +kernel, by decide +kernel, by decide +kernel, by decide +kernel, by decide +kernel⟩
abbrev s_Sender_read : Stmt := inClass (top 57) 2
theorem sc_Sender_read : FnScope ["cls", "text", "rows"] ["cls", "text"] (defScope s_Sender_read) := ⟨rfl, rfl, rfl, by decide +kernel, rfl, by decide +kernel, by decide +kernel⟩
abbrev s_Receiver_init : Stmt := inClass (top 58) 1
theorem sc_Receiver_init : SScope ["self", "rows"] ["self", "rows"] (defScope s_Receiver_init) := ⟨rfl, rfl, rfl, by decide +kernel, rfl, by decide +kernel, by decide +kernel, by decide +kernel, by decide +kernel, by decide +kernel, by decide +kernel⟩
abbrev s_Receiver_read : Stmt := inClass (top 58) 2
theorem sc_Receiver_read : FnScope ["cls", "text", "rows"] ["cls", "text"] (defScope s_Receiver_read) := ⟨rfl, rfl, rfl, by decide +kernel, rfl, by decide +kernel, by decide +kernel⟩
abbrev s_law_pen : Stmt := top 60
theorem sc_law_pen : FnScope ["_law_script"] ["_law_script"] (defScope s_law_pen) := ⟨rfl, rfl, rfl, by decide +kernel, rfl, by decide +kernel, by decide +kernel⟩
abbrev s_law_draw : Stmt := top 61
theorem sc_law_draw : FnScope ["_law_pen_here", "_law_many", "_law_digit", "_law_step", "_law_cell", "_law_great", "_law_mixed"] ["_law_pen_here", "_law_many"] (defScope s_law_draw) := ⟨rfl, rfl, rfl, by decide +kernel, rfl, by decide +kernel, by decide +kernel⟩
abbrev s_law_pick : Stmt := top 62
theorem sc_law_pick : FnScope ["_law_pen_here", "_law_some"] ["_law_pen_here", "_law_some"] (defScope s_law_pick) := ⟨rfl, rfl, rfl, by decide +kernel, rfl, by decide +kernel, by decide +kernel⟩
abbrev s_law_deed : Stmt := top 63
theorem sc_law_deed : FnScope ["_law_pen_here", "_law_side", "_law_hears", "_law_plain", "_law_verbs", "_law_verb", "_law_box"] ["_law_pen_here", "_law_side", "_law_hears", "_law_plain"] (defScope s_law_deed) := ⟨rfl, rfl, rfl, by decide +kernel, rfl, by decide +kernel, by decide +kernel⟩
abbrev s_law_row : Stmt := top 64
theorem sc_law_row : FnScope ["_law_pen_here", "_law_side", "_law_state", "_law_hear", "_law_empty", "_law_full", "_law_deeds_so", "_law_box", "_law_way", "_law_turn_so"] ["_law_pen_here", "_law_side"] (defScope s_law_row) := ⟨rfl, rfl, rfl, by decide +kernel, rfl, by decide +kernel, by decide +kernel⟩
abbrev s_law_text : Stmt := top 65
theorem sc_law_text : FnScope ["_law_row_here", "_law_state", "_law_hear", "_law_empty", "_law_full", "_law_deeds_so", "_law_then", "_law_found", "_law_box"] ["_law_row_here"] (defScope s_law_text) := ⟨rfl, rfl, rfl, by decide +kernel, rfl, by decide +kernel, by decide +kernel⟩
abbrev s_law_swapped : Stmt := top 66
theorem sc_law_swapped : FnScope ["_law_page", "_law_one", "_law_two", "_law_words", "_law_found", "_law_at", "_law_is_number"] ["_law_page", "_law_one", "_law_two"] (defScope s_law_swapped) := ⟨rfl, rfl, rfl, by decide +kernel, rfl, by decide +kernel, by decide +kernel⟩
abbrev s_law_changed : Stmt := top 67
theorem sc_law_changed : FnScope ["_law_pen_here", "_law_end", "_law_known", "_law_side", "_law_page", "_law_way", "_law_at", "_law_row_here", "_law_one", "_law_two", "_law_table", "_law_number"] ["_law_pen_here", "_law_end", "_law_known", "_law_side"] (defScope s_law_changed) := ⟨rfl, rfl, rfl, by decide +kernel, rfl, by decide +kernel, by decide +kernel⟩
abbrev s_law_is : Stmt := top 68
theorem sc_law_is : FnScope ["_law_end", "_law_known", "_law_side", "_law_again", "_law_row_here", "_law_at"] ["_law_end", "_law_known", "_law_side"] (defScope s_law_is) := ⟨rfl, rfl, rfl, by decide +kernel, rfl, by decide +kernel, by decide +kernel⟩
abbrev s_law_ : Stmt := top 69
theorem sc_law_ : FnScope ["_law_script", "_law_pen_here", "_law_side", "_law_end", "_law_known", "_law_elders", "_law_turn_so", "_law_one", "_law_texts_so"] ["_law_script"] (defScope s_law_) := ⟨rfl, rfl, rfl, by decide +kernel, rfl, by decide +kernel, by decide +kernel⟩
def a_is_integer : PySem.W.Frag → Addr := fun K => ga K "is_integer"
def a_is_within : PySem.W.Frag → Addr := fun K => ga K "is_within"
def a_is_state : PySem.W.Frag → Addr := fun K => ga K "is_state"
def a_is_box : PySem.W.Frag → Addr := fun K => ga K "is_box"
def a_is_number : PySem.W.Frag → Addr := fun K => ga K "is_number"
def a_need_box : PySem.W.Frag → Addr := fun K => ga K "need_box"
def a_need_number : PySem.W.Frag → Addr := fun K => ga K "need_number"
def a_Deed_is_for : PySem.W.Frag → Addr := fun K => ma K (ga K "Deed") "is_for"
def a_Deed_named_numbers : PySem.W.Frag → Addr := fun K => ma K (ga K "Deed") "named_numbers"
def a_Deed_renumbered : PySem.W.Frag → Addr := fun K => ma K (ga K "Deed") "renumbered"
def a_BoxDeed_init : PySem.W.Frag → Addr := fun K => ma K (ga K "BoxDeed") "__init__"
def a_BoxDeed_str : PySem.W.Frag → Addr := fun K => ma K (ga K "BoxDeed") "__str__"
def a_Take_verb : PySem.W.Frag → Addr := fun K => ma K (ga K "Take") "verb"
def a_Put_verb : PySem.W.Frag → Addr := fun K => ma K (ga K "Put") "verb"
def a_Out_verb : PySem.W.Frag → Addr := fun K => ma K (ga K "Out") "verb"
def a_Clear_verb : PySem.W.Frag → Addr := fun K => ma K (ga K "Clear") "verb"
def a_Send_init : PySem.W.Frag → Addr := fun K => ma K (ga K "Send") "__init__"
def a_Send_verb : PySem.W.Frag → Addr := fun K => ma K (ga K "Send") "verb"
def a_Send_named_numbers : PySem.W.Frag → Addr := fun K => ma K (ga K "Send") "named_numbers"
def a_Send_renumbered : PySem.W.Frag → Addr := fun K => ma K (ga K "Send") "renumbered"
def a_Send_str : PySem.W.Frag → Addr := fun K => ma K (ga K "Send") "__str__"
def a_Move_init : PySem.W.Frag → Addr := fun K => ma K (ga K "Move") "__init__"
def a_Move_verb : PySem.W.Frag → Addr := fun K => ma K (ga K "Move") "verb"
def a_Move_str : PySem.W.Frag → Addr := fun K => ma K (ga K "Move") "__str__"
def a_Answer_init : PySem.W.Frag → Addr := fun K => ma K (ga K "Answer") "__init__"
def a_Answer_verb : PySem.W.Frag → Addr := fun K => ma K (ga K "Answer") "verb"
def a_Answer_named_numbers : PySem.W.Frag → Addr := fun K => ma K (ga K "Answer") "named_numbers"
def a_Answer_renumbered : PySem.W.Frag → Addr := fun K => ma K (ga K "Answer") "renumbered"
def a_Answer_str : PySem.W.Frag → Addr := fun K => ma K (ga K "Answer") "__str__"
def a_sides_of : PySem.W.Frag → Addr := fun K => ga K "sides_of"
def a_integer_in : PySem.W.Frag → Addr := fun K => ga K "integer_in"
def a_deed_in : PySem.W.Frag → Addr := fun K => ga K "deed_in"
def a_fit_sides : PySem.W.Frag → Addr := fun K => ga K "fit_sides"
def a_need_deeds : PySem.W.Frag → Addr := fun K => ga K "need_deeds"
def a_is_heard : PySem.W.Frag → Addr := fun K => ga K "is_heard"
def a_are_boxes : PySem.W.Frag → Addr := fun K => ga K "are_boxes"
def a_rank_of : PySem.W.Frag → Addr := fun K => ga K "rank_of"
def a_ascending : PySem.W.Frag → Addr := fun K => ga K "ascending"
def a_Row_init : PySem.W.Frag → Addr := fun K => ma K (ga K "Row") "__init__"
def a_Row_read : PySem.W.Frag → Addr := fun K => recDef K (ma K (ga K "Row") "read") "classmethod"
def a_Row_sides : PySem.W.Frag → Addr := fun K => ma K (ga K "Row") "sides"
def a_Row_named_numbers : PySem.W.Frag → Addr := fun K => ma K (ga K "Row") "named_numbers"
def a_Row_renumbered : PySem.W.Frag → Addr := fun K => ma K (ga K "Row") "renumbered"
def a_Row_eq : PySem.W.Frag → Addr := fun K => ma K (ga K "Row") "__eq__"
def a_Row_str : PySem.W.Frag → Addr := fun K => ma K (ga K "Row") "__str__"
def a_boxes_text : PySem.W.Frag → Addr := fun K => ga K "boxes_text"
def a_deeds_text : PySem.W.Frag → Addr := fun K => ga K "deeds_text"
def a_word_at : PySem.W.Frag → Addr := fun K => ga K "word_at"
def a_boxes_in : PySem.W.Frag → Addr := fun K => ga K "boxes_in"
def a_deeds_in : PySem.W.Frag → Addr := fun K => ga K "deeds_in"
def a_row_in : PySem.W.Frag → Addr := fun K => ga K "row_in"
def a_need_rows : PySem.W.Frag → Addr := fun K => ga K "need_rows"
def a_made : PySem.W.Frag → Addr := fun K => ga K "made"
def a_rows_text : PySem.W.Frag → Addr := fun K => ga K "rows_text"
def a_rows_in : PySem.W.Frag → Addr := fun K => ga K "rows_in"
def a_End_init : PySem.W.Frag → Addr := fun K => ma K (ga K "End") "__init__"
def a_End_len : PySem.W.Frag → Addr := fun K => ma K (ga K "End") "__len__"
def a_End_iter : PySem.W.Frag → Addr := fun K => ma K (ga K "End") "__iter__"
def a_End_getitem : PySem.W.Frag → Addr := fun K => ma K (ga K "End") "__getitem__"
def a_End_contains : PySem.W.Frag → Addr := fun K => ma K (ga K "End") "__contains__"
def a_End_add : PySem.W.Frag → Addr := fun K => ma K (ga K "End") "__add__"
def a_End_sub : PySem.W.Frag → Addr := fun K => ma K (ga K "End") "__sub__"
def a_End_with_row : PySem.W.Frag → Addr := fun K => ma K (ga K "End") "with_row"
def a_End_without_row : PySem.W.Frag → Addr := fun K => ma K (ga K "End") "without_row"
def a_End_numbers : PySem.W.Frag → Addr := fun K => recDef K (ma K (ga K "End") "numbers") "property"
def a_End_renumbered : PySem.W.Frag → Addr := fun K => ma K (ga K "End") "renumbered"
def a_End_eq : PySem.W.Frag → Addr := fun K => ma K (ga K "End") "__eq__"
def a_End_str : PySem.W.Frag → Addr := fun K => ma K (ga K "End") "__str__"
def a_Sender_init : PySem.W.Frag → Addr := fun K => ma K (ga K "Sender") "__init__"
def a_Sender_read : PySem.W.Frag → Addr := fun K => recDef K (ma K (ga K "Sender") "read") "classmethod"
def a_Receiver_init : PySem.W.Frag → Addr := fun K => ma K (ga K "Receiver") "__init__"
def a_Receiver_read : PySem.W.Frag → Addr := fun K => recDef K (ma K (ga K "Receiver") "read") "classmethod"
def a_law_pen : PySem.W.Frag → Addr := fun K => ga K "_law_pen"
def a_law_draw : PySem.W.Frag → Addr := fun K => ga K "_law_draw"
def a_law_pick : PySem.W.Frag → Addr := fun K => ga K "_law_pick"
def a_law_deed : PySem.W.Frag → Addr := fun K => ga K "_law_deed"
def a_law_row : PySem.W.Frag → Addr := fun K => ga K "_law_row"
def a_law_text : PySem.W.Frag → Addr := fun K => ga K "_law_text"
def a_law_swapped : PySem.W.Frag → Addr := fun K => ga K "_law_swapped"
def a_law_changed : PySem.W.Frag → Addr := fun K => ga K "_law_changed"
def a_law_is : PySem.W.Frag → Addr := fun K => ga K "_law_is"
def a_law_ : PySem.W.Frag → Addr := fun K => ga K "law"
def c_Take : PySem.W.Frag → Addr := fun K => ga K "Take"
def c_Put : PySem.W.Frag → Addr := fun K => ga K "Put"
def c_Out : PySem.W.Frag → Addr := fun K => ga K "Out"
def c_Clear : PySem.W.Frag → Addr := fun K => ga K "Clear"
def c_Send : PySem.W.Frag → Addr := fun K => ga K "Send"
def c_Move : PySem.W.Frag → Addr := fun K => ga K "Move"
def c_Answer : PySem.W.Frag → Addr := fun K => ga K "Answer"
def c_Deed : PySem.W.Frag → Addr := fun K => ga K "Deed"
def c_BoxDeed : PySem.W.Frag → Addr := fun K => ga K "BoxDeed"
def c_Row : PySem.W.Frag → Addr := fun K => ga K "Row"
def c_End : PySem.W.Frag → Addr := fun K => ga K "End"
def c_Sender : PySem.W.Frag → Addr := fun K => ga K "Sender"
def c_Receiver : PySem.W.Frag → Addr := fun K => ga K "Receiver"
def sidesA : PySem.W.Frag → Addr := fun K => ga K "SIDES"
def r_Row_read : PySem.W.Frag → Addr := fun K => ma K (ga K "Row") "read"
def r_Sender_read : PySem.W.Frag → Addr := fun K => ma K (ga K "Sender") "read"
def r_Receiver_read : PySem.W.Frag → Addr := fun K => ma K (ga K "Receiver") "read"
def r_End_numbers : PySem.W.Frag → Addr := fun K => ma K (ga K "End") "numbers"
def d_is_integer : DefY := ⟨a_is_integer, "is_integer", "is_integer", s_is_integer, none⟩
def d_is_within : DefY := ⟨a_is_within, "is_within", "is_within", s_is_within, none⟩
def d_is_state : DefY := ⟨a_is_state, "is_state", "is_state", s_is_state, none⟩
def d_is_box : DefY := ⟨a_is_box, "is_box", "is_box", s_is_box, none⟩
def d_is_number : DefY := ⟨a_is_number, "is_number", "is_number", s_is_number, none⟩
def d_need_box : DefY := ⟨a_need_box, "need_box", "need_box", s_need_box, none⟩
def d_need_number : DefY := ⟨a_need_number, "need_number", "need_number", s_need_number, none⟩
def d_Deed_is_for : DefY := ⟨a_Deed_is_for, "is_for", "Deed.is_for", s_Deed_is_for, none⟩
def d_Deed_named_numbers : DefY := ⟨a_Deed_named_numbers, "named_numbers", "Deed.named_numbers", s_Deed_named_numbers, none⟩
def d_Deed_renumbered : DefY := ⟨a_Deed_renumbered, "renumbered", "Deed.renumbered", s_Deed_renumbered, none⟩
def d_BoxDeed_init : DefY := ⟨a_BoxDeed_init, "__init__", "BoxDeed.__init__", s_BoxDeed_init, none⟩
def d_BoxDeed_str : DefY := ⟨a_BoxDeed_str, "__str__", "BoxDeed.__str__", s_BoxDeed_str, none⟩
def d_Take_verb : DefY := ⟨a_Take_verb, "verb", "Take.verb", s_Take_verb, none⟩
def d_Put_verb : DefY := ⟨a_Put_verb, "verb", "Put.verb", s_Put_verb, none⟩
def d_Out_verb : DefY := ⟨a_Out_verb, "verb", "Out.verb", s_Out_verb, none⟩
def d_Clear_verb : DefY := ⟨a_Clear_verb, "verb", "Clear.verb", s_Clear_verb, none⟩
def d_Send_init : DefY := ⟨a_Send_init, "__init__", "Send.__init__", s_Send_init, some c_Send⟩
def d_Send_verb : DefY := ⟨a_Send_verb, "verb", "Send.verb", s_Send_verb, none⟩
def d_Send_named_numbers : DefY := ⟨a_Send_named_numbers, "named_numbers", "Send.named_numbers", s_Send_named_numbers, none⟩
def d_Send_renumbered : DefY := ⟨a_Send_renumbered, "renumbered", "Send.renumbered", s_Send_renumbered, none⟩
def d_Send_str : DefY := ⟨a_Send_str, "__str__", "Send.__str__", s_Send_str, none⟩
def d_Move_init : DefY := ⟨a_Move_init, "__init__", "Move.__init__", s_Move_init, some c_Move⟩
def d_Move_verb : DefY := ⟨a_Move_verb, "verb", "Move.verb", s_Move_verb, none⟩
def d_Move_str : DefY := ⟨a_Move_str, "__str__", "Move.__str__", s_Move_str, none⟩
def d_Answer_init : DefY := ⟨a_Answer_init, "__init__", "Answer.__init__", s_Answer_init, none⟩
def d_Answer_verb : DefY := ⟨a_Answer_verb, "verb", "Answer.verb", s_Answer_verb, none⟩
def d_Answer_named_numbers : DefY := ⟨a_Answer_named_numbers, "named_numbers", "Answer.named_numbers", s_Answer_named_numbers, none⟩
def d_Answer_renumbered : DefY := ⟨a_Answer_renumbered, "renumbered", "Answer.renumbered", s_Answer_renumbered, none⟩
def d_Answer_str : DefY := ⟨a_Answer_str, "__str__", "Answer.__str__", s_Answer_str, none⟩
def d_sides_of : DefY := ⟨a_sides_of, "sides_of", "sides_of", s_sides_of, none⟩
def d_integer_in : DefY := ⟨a_integer_in, "integer_in", "integer_in", s_integer_in, none⟩
def d_deed_in : DefY := ⟨a_deed_in, "deed_in", "deed_in", s_deed_in, none⟩
def d_fit_sides : DefY := ⟨a_fit_sides, "fit_sides", "fit_sides", s_fit_sides, none⟩
def d_need_deeds : DefY := ⟨a_need_deeds, "need_deeds", "need_deeds", s_need_deeds, none⟩
def d_is_heard : DefY := ⟨a_is_heard, "is_heard", "is_heard", s_is_heard, none⟩
def d_are_boxes : DefY := ⟨a_are_boxes, "are_boxes", "are_boxes", s_are_boxes, none⟩
def d_rank_of : DefY := ⟨a_rank_of, "rank_of", "rank_of", s_rank_of, none⟩
def d_ascending : DefY := ⟨a_ascending, "ascending", "ascending", s_ascending, none⟩
def d_Row_init : DefY := ⟨a_Row_init, "__init__", "Row.__init__", s_Row_init, none⟩
def d_Row_read : DefY := ⟨a_Row_read, "read", "Row.read", s_Row_read, none⟩
def d_Row_sides : DefY := ⟨a_Row_sides, "sides", "Row.sides", s_Row_sides, none⟩
def d_Row_named_numbers : DefY := ⟨a_Row_named_numbers, "named_numbers", "Row.named_numbers", s_Row_named_numbers, none⟩
def d_Row_renumbered : DefY := ⟨a_Row_renumbered, "renumbered", "Row.renumbered", s_Row_renumbered, none⟩
def d_Row_eq : DefY := ⟨a_Row_eq, "__eq__", "Row.__eq__", s_Row_eq, none⟩
def d_Row_str : DefY := ⟨a_Row_str, "__str__", "Row.__str__", s_Row_str, none⟩
def d_boxes_text : DefY := ⟨a_boxes_text, "boxes_text", "boxes_text", s_boxes_text, none⟩
def d_deeds_text : DefY := ⟨a_deeds_text, "deeds_text", "deeds_text", s_deeds_text, none⟩
def d_word_at : DefY := ⟨a_word_at, "word_at", "word_at", s_word_at, none⟩
def d_boxes_in : DefY := ⟨a_boxes_in, "boxes_in", "boxes_in", s_boxes_in, none⟩
def d_deeds_in : DefY := ⟨a_deeds_in, "deeds_in", "deeds_in", s_deeds_in, none⟩
def d_row_in : DefY := ⟨a_row_in, "row_in", "row_in", s_row_in, none⟩
def d_need_rows : DefY := ⟨a_need_rows, "need_rows", "need_rows", s_need_rows, none⟩
def d_made : DefY := ⟨a_made, "made", "made", s_made, none⟩
def d_rows_text : DefY := ⟨a_rows_text, "rows_text", "rows_text", s_rows_text, none⟩
def d_rows_in : DefY := ⟨a_rows_in, "rows_in", "rows_in", s_rows_in, none⟩
def d_End_init : DefY := ⟨a_End_init, "__init__", "End.__init__", s_End_init, none⟩
def d_End_len : DefY := ⟨a_End_len, "__len__", "End.__len__", s_End_len, none⟩
def d_End_iter : DefY := ⟨a_End_iter, "__iter__", "End.__iter__", s_End_iter, none⟩
def d_End_getitem : DefY := ⟨a_End_getitem, "__getitem__", "End.__getitem__", s_End_getitem, none⟩
def d_End_contains : DefY := ⟨a_End_contains, "__contains__", "End.__contains__", s_End_contains, none⟩
def d_End_add : DefY := ⟨a_End_add, "__add__", "End.__add__", s_End_add, none⟩
def d_End_sub : DefY := ⟨a_End_sub, "__sub__", "End.__sub__", s_End_sub, none⟩
def d_End_with_row : DefY := ⟨a_End_with_row, "with_row", "End.with_row", s_End_with_row, none⟩
def d_End_without_row : DefY := ⟨a_End_without_row, "without_row", "End.without_row", s_End_without_row, none⟩
def d_End_numbers : DefY := ⟨a_End_numbers, "numbers", "End.numbers", s_End_numbers, none⟩
def d_End_renumbered : DefY := ⟨a_End_renumbered, "renumbered", "End.renumbered", s_End_renumbered, none⟩
def d_End_eq : DefY := ⟨a_End_eq, "__eq__", "End.__eq__", s_End_eq, none⟩
def d_End_str : DefY := ⟨a_End_str, "__str__", "End.__str__", s_End_str, none⟩
def d_Sender_init : DefY := ⟨a_Sender_init, "__init__", "Sender.__init__", s_Sender_init, some c_Sender⟩
def d_Sender_read : DefY := ⟨a_Sender_read, "read", "Sender.read", s_Sender_read, none⟩
def d_Receiver_init : DefY := ⟨a_Receiver_init, "__init__", "Receiver.__init__", s_Receiver_init, some c_Receiver⟩
def d_Receiver_read : DefY := ⟨a_Receiver_read, "read", "Receiver.read", s_Receiver_read, none⟩
def d_law_pen : DefY := ⟨a_law_pen, "_law_pen", "_law_pen", s_law_pen, none⟩
def d_law_draw : DefY := ⟨a_law_draw, "_law_draw", "_law_draw", s_law_draw, none⟩
def d_law_pick : DefY := ⟨a_law_pick, "_law_pick", "_law_pick", s_law_pick, none⟩
def d_law_deed : DefY := ⟨a_law_deed, "_law_deed", "_law_deed", s_law_deed, none⟩
def d_law_row : DefY := ⟨a_law_row, "_law_row", "_law_row", s_law_row, none⟩
def d_law_text : DefY := ⟨a_law_text, "_law_text", "_law_text", s_law_text, none⟩
def d_law_swapped : DefY := ⟨a_law_swapped, "_law_swapped", "_law_swapped", s_law_swapped, none⟩
def d_law_changed : DefY := ⟨a_law_changed, "_law_changed", "_law_changed", s_law_changed, none⟩
def d_law_is : DefY := ⟨a_law_is, "_law_is", "_law_is", s_law_is, none⟩
def d_law_ : DefY := ⟨a_law_, "law", "law", s_law_, none⟩
def fns : List DefY := [d_is_integer, d_is_within, d_is_state, d_is_box, d_is_number, d_need_box, d_need_number, d_Deed_is_for, d_Deed_named_numbers, d_Deed_renumbered, d_BoxDeed_init, d_BoxDeed_str, d_Take_verb, d_Put_verb, d_Out_verb, d_Clear_verb, d_Send_init, d_Send_verb, d_Send_named_numbers, d_Send_renumbered, d_Send_str, d_Move_init, d_Move_verb, d_Move_str, d_Answer_init, d_Answer_verb, d_Answer_named_numbers, d_Answer_renumbered, d_Answer_str, d_sides_of, d_integer_in, d_deed_in, d_fit_sides, d_need_deeds, d_is_heard, d_are_boxes, d_rank_of, d_ascending, d_Row_init, d_Row_read, d_Row_sides, d_Row_named_numbers, d_Row_renumbered, d_Row_eq, d_Row_str, d_boxes_text, d_deeds_text, d_word_at, d_boxes_in, d_deeds_in, d_row_in, d_need_rows, d_made, d_rows_text, d_rows_in, d_End_init, d_End_len, d_End_iter, d_End_getitem, d_End_contains, d_End_add, d_End_sub, d_End_with_row, d_End_without_row, d_End_numbers, d_End_renumbered, d_End_eq, d_End_str, d_Sender_init, d_Sender_read, d_Receiver_init, d_Receiver_read, d_law_pen, d_law_draw, d_law_pick, d_law_deed, d_law_row, d_law_text, d_law_swapped, d_law_changed, d_law_is, d_law_]
def exs : List (PySem.W.Frag → Bool) := [
  fGlo "is_integer" a_is_integer,
  fGlo "is_within" a_is_within,
  fGlo "is_state" a_is_state,
  fGlo "is_box" a_is_box,
  fGlo "is_number" a_is_number,
  fGlo "need_box" a_need_box,
  fGlo "need_number" a_need_number,
  fGlo "sides_of" a_sides_of,
  fGlo "integer_in" a_integer_in,
  fGlo "deed_in" a_deed_in,
  fGlo "fit_sides" a_fit_sides,
  fGlo "need_deeds" a_need_deeds,
  fGlo "is_heard" a_is_heard,
  fGlo "are_boxes" a_are_boxes,
  fGlo "rank_of" a_rank_of,
  fGlo "ascending" a_ascending,
  fGlo "boxes_text" a_boxes_text,
  fGlo "deeds_text" a_deeds_text,
  fGlo "word_at" a_word_at,
  fGlo "boxes_in" a_boxes_in,
  fGlo "deeds_in" a_deeds_in,
  fGlo "row_in" a_row_in,
  fGlo "need_rows" a_need_rows,
  fGlo "made" a_made,
  fGlo "rows_text" a_rows_text,
  fGlo "rows_in" a_rows_in,
  fGlo "_law_pen" a_law_pen,
  fGlo "_law_draw" a_law_draw,
  fGlo "_law_pick" a_law_pick,
  fGlo "_law_deed" a_law_deed,
  fGlo "_law_row" a_law_row,
  fGlo "_law_text" a_law_text,
  fGlo "_law_swapped" a_law_swapped,
  fGlo "_law_changed" a_law_changed,
  fGlo "_law_is" a_law_is,
  fGlo "law" a_law_,
  fGlo "Take" c_Take,
  fGlo "Put" c_Put,
  fGlo "Out" c_Out,
  fGlo "Clear" c_Clear,
  fGlo "Send" c_Send,
  fGlo "Move" c_Move,
  fGlo "Answer" c_Answer,
  fGlo "Deed" c_Deed,
  fGlo "Row" c_Row,
  fGlo "End" c_End,
  fGlo "Sender" c_Sender,
  fGlo "Receiver" c_Receiver,
  fRef "SIDES" sidesA,
  fFree "isinstance",
  fFree "int",
  fFree "bool",
  fFree "str",
  fFree "len",
  fFree "range",
  fFree "any",
  fFree "all",
  fFree "tuple",
  fFree "zip",
  fFree "enumerate",
  fFree "iter",
  fFree "dict",
  fFree "abs",
  fFree "list",
  fFree "super",
  fInt "MOST_STATE" 23,
  fInt "MOST_BOX" 2,
  fInt "MOST_NUMBER" 5,
  fInt "MOST_DEEDS" 8,
  fInt "MOST_ROWS" 120,
  fStr "OTHER" "other",
  fTup "SIDES" [.str "sender", .str "receiver"],
  fCls c_Take,
  fCls c_Put,
  fCls c_Out,
  fCls c_Clear,
  fCls c_Send,
  fCls c_Move,
  fCls c_Answer,
  fCls c_Row,
  fCls c_Sender,
  fCls c_Receiver,
  fNoat c_Take "box",
  fNoat c_Put "box",
  fNoat c_Out "box",
  fNoat c_Clear "box",
  fNoat c_Send "box",
  fNoat c_Send "number",
  fNoat c_Move "box",
  fNoat c_Move "to",
  fNoat c_Answer "number",
  fNoat c_Row "state",
  fNoat c_Row "deeds",
  fNoat c_Row "then",
  fNoat c_Row "hear",
  fNoat c_Row "empty",
  fNoat c_Row "full",
  fNoat c_Row "key",
  fNoat c_Sender "own_side",
  fNoat c_Sender "own_rows",
  fNoat c_Receiver "own_side",
  fNoat c_Receiver "own_rows",
  fMeth c_Take "is_for" a_Deed_is_for,
  fMeth c_Take "verb" a_Take_verb,
  fMeth c_Take "named_numbers" a_Deed_named_numbers,
  fMeth c_Take "renumbered" a_Deed_renumbered,
  fMeth c_Take "__str__" a_BoxDeed_str,
  fMeth c_Take "__init__" a_BoxDeed_init,
  fMeth c_Put "is_for" a_Deed_is_for,
  fMeth c_Put "verb" a_Put_verb,
  fMeth c_Put "named_numbers" a_Deed_named_numbers,
  fMeth c_Put "renumbered" a_Deed_renumbered,
  fMeth c_Put "__str__" a_BoxDeed_str,
  fMeth c_Put "__init__" a_BoxDeed_init,
  fMeth c_Out "is_for" a_Deed_is_for,
  fMeth c_Out "verb" a_Out_verb,
  fMeth c_Out "named_numbers" a_Deed_named_numbers,
  fMeth c_Out "renumbered" a_Deed_renumbered,
  fMeth c_Out "__str__" a_BoxDeed_str,
  fMeth c_Out "__init__" a_BoxDeed_init,
  fMeth c_Clear "is_for" a_Deed_is_for,
  fMeth c_Clear "verb" a_Clear_verb,
  fMeth c_Clear "named_numbers" a_Deed_named_numbers,
  fMeth c_Clear "renumbered" a_Deed_renumbered,
  fMeth c_Clear "__str__" a_BoxDeed_str,
  fMeth c_Clear "__init__" a_BoxDeed_init,
  fMeth c_Send "is_for" a_Deed_is_for,
  fMeth c_Send "verb" a_Send_verb,
  fMeth c_Send "named_numbers" a_Send_named_numbers,
  fMeth c_Send "renumbered" a_Send_renumbered,
  fMeth c_Send "__str__" a_Send_str,
  fMeth c_Send "__init__" a_Send_init,
  fMeth c_Move "is_for" a_Deed_is_for,
  fMeth c_Move "verb" a_Move_verb,
  fMeth c_Move "named_numbers" a_Deed_named_numbers,
  fMeth c_Move "renumbered" a_Deed_renumbered,
  fMeth c_Move "__str__" a_Move_str,
  fMeth c_Move "__init__" a_Move_init,
  fMeth c_Answer "is_for" a_Deed_is_for,
  fMeth c_Answer "verb" a_Answer_verb,
  fMeth c_Answer "named_numbers" a_Answer_named_numbers,
  fMeth c_Answer "renumbered" a_Answer_renumbered,
  fMeth c_Answer "__str__" a_Answer_str,
  fMeth c_Answer "__init__" a_Answer_init,
  fMeth c_Row "sides" a_Row_sides,
  fMeth c_Row "named_numbers" a_Row_named_numbers,
  fMeth c_Row "renumbered" a_Row_renumbered,
  fMeth c_Row "__eq__" a_Row_eq,
  fMeth c_Row "__str__" a_Row_str,
  fMeth c_Row "__init__" a_Row_init,
  fMeth c_Sender "with_row" a_End_with_row,
  fMeth c_Sender "without_row" a_End_without_row,
  fMeth c_Sender "renumbered" a_End_renumbered,
  fMeth c_Sender "__eq__" a_End_eq,
  fMeth c_Sender "__str__" a_End_str,
  fMeth c_Sender "__len__" a_End_len,
  fMeth c_Sender "__iter__" a_End_iter,
  fMeth c_Sender "__contains__" a_End_contains,
  fMeth c_Sender "__getitem__" a_End_getitem,
  fMeth c_Sender "__init__" a_Sender_init,
  fMeth c_Receiver "with_row" a_End_with_row,
  fMeth c_Receiver "without_row" a_End_without_row,
  fMeth c_Receiver "renumbered" a_End_renumbered,
  fMeth c_Receiver "__eq__" a_End_eq,
  fMeth c_Receiver "__str__" a_End_str,
  fMeth c_Receiver "__len__" a_End_len,
  fMeth c_Receiver "__iter__" a_End_iter,
  fMeth c_Receiver "__contains__" a_End_contains,
  fMeth c_Receiver "__getitem__" a_End_getitem,
  fMeth c_Receiver "__init__" a_Receiver_init,
  fMkr c_Take,
  fMkr c_Put,
  fMkr c_Out,
  fMkr c_Clear,
  fMkr c_Send,
  fMkr c_Move,
  fMkr c_Answer,
  fMkr c_Row,
  fMkr c_Sender,
  fMkr c_Receiver,
  fInsT c_Take,
  fInsT c_Put,
  fInsT c_Out,
  fInsT c_Clear,
  fInsT c_Send,
  fInsT c_Move,
  fInsT c_Answer,
  fInsT c_Row,
  fInsT c_Sender,
  fInsT c_Receiver,
  fOwnNe c_Row,
  fOwnBin c_Sender c_Row .Add a_End_add,
  fOwnBin c_Sender c_Row .Sub a_End_sub,
  fOwnBin c_Receiver c_Row .Add a_End_add,
  fOwnBin c_Receiver c_Row .Sub a_End_sub,
  fFi a_End_getitem,
  fFi a_BoxDeed_init,
  fFi a_End_init,
  fFi a_Row_read,
  fFi a_Sender_read,
  fFi a_Receiver_read,
  fFi a_End_numbers,
  fSup c_Send a_BoxDeed_init,
  fSup c_Move a_BoxDeed_init,
  fSup c_Sender a_End_init,
  fSup c_Receiver a_End_init,
  fNf c_Row c_Row,
  fNf c_Sender c_Sender,
  fNf c_Receiver c_Receiver,
  fKit c_Take c_Deed true,
  fKit c_Take c_Take true,
  fKit c_Take c_Put false,
  fKit c_Put c_Deed true,
  fKit c_Put c_Take false,
  fKit c_Put c_Put true,
  fKit c_Out c_Deed true,
  fKit c_Out c_Take false,
  fKit c_Out c_Put false,
  fKit c_Clear c_Deed true,
  fKit c_Clear c_Take false,
  fKit c_Clear c_Put false,
  fKit c_Send c_Deed true,
  fKit c_Send c_Take false,
  fKit c_Send c_Put false,
  fKit c_Move c_Deed true,
  fKit c_Move c_Take false,
  fKit c_Move c_Put false,
  fKit c_Answer c_Deed true,
  fKit c_Answer c_Take false,
  fKit c_Answer c_Put false,
  fKit c_Row c_Row true,
  fKit c_Sender c_End true,
  fKit c_Receiver c_End true,
  fCRead c_Row,
  fCMet c_Row "read" r_Row_read a_Row_read,
  fCRead c_Sender,
  fCMet c_Sender "read" r_Sender_read a_Sender_read,
  fCRead c_Receiver,
  fCMet c_Receiver "read" r_Receiver_read a_Receiver_read,
  fProp c_Sender "numbers" r_End_numbers a_End_numbers,
  fProp c_Receiver "numbers" r_End_numbers a_End_numbers]
/-- what stands behind the top -/
structure Tx (P : Program) (K : PySem.W.Frag) (mg : Str → Option Value) : Prop where
  c : SaysY fns exs K
  mgo : ∀ {x : Str} {v : Value}, PySem.W.nsIn K mainGlobals x = some (some v) → mg x = some v
  mgn : ∀ {x : Str}, PySem.W.nsIn K mainGlobals x = some none → mg x = none
  file : P.main.file = "/claim/cut.py"
  nosup : (P.main.scope.names.lookup ("super" : Str)).isSome = false
variable {P : Program} {w : World} {K : PySem.W.Frag} {mg : Str → Option Value}
namespace Tx
theorem g_is_integer (T : Tx P K mg) : fGlo_S K mg "is_integer" a_is_integer := fGlo_ok T.mgo (T.c.fact 0 (f := fGlo "is_integer" a_is_integer))
theorem g_is_within (T : Tx P K mg) : fGlo_S K mg "is_within" a_is_within := fGlo_ok T.mgo (T.c.fact 1 (f := fGlo "is_within" a_is_within))
theorem g_is_state (T : Tx P K mg) : fGlo_S K mg "is_state" a_is_state := fGlo_ok T.mgo (T.c.fact 2 (f := fGlo "is_state" a_is_state))
theorem g_is_box (T : Tx P K mg) : fGlo_S K mg "is_box" a_is_box := fGlo_ok T.mgo (T.c.fact 3 (f := fGlo "is_box" a_is_box))
theorem g_is_number (T : Tx P K mg) : fGlo_S K mg "is_number" a_is_number := fGlo_ok T.mgo (T.c.fact 4 (f := fGlo "is_number" a_is_number))
theorem g_need_box (T : Tx P K mg) : fGlo_S K mg "need_box" a_need_box := fGlo_ok T.mgo (T.c.fact 5 (f := fGlo "need_box" a_need_box))
theorem g_need_number (T : Tx P K mg) : fGlo_S K mg "need_number" a_need_number := fGlo_ok T.mgo (T.c.fact 6 (f := fGlo "need_number" a_need_number))
theorem g_sides_of (T : Tx P K mg) : fGlo_S K mg "sides_of" a_sides_of := fGlo_ok T.mgo (T.c.fact 7 (f := fGlo "sides_of" a_sides_of))
theorem g_integer_in (T : Tx P K mg) : fGlo_S K mg "integer_in" a_integer_in := fGlo_ok T.mgo (T.c.fact 8 (f := fGlo "integer_in" a_integer_in))
theorem g_deed_in (T : Tx P K mg) : fGlo_S K mg "deed_in" a_deed_in := fGlo_ok T.mgo (T.c.fact 9 (f := fGlo "deed_in" a_deed_in))
theorem g_fit_sides (T : Tx P K mg) : fGlo_S K mg "fit_sides" a_fit_sides := fGlo_ok T.mgo (T.c.fact 10 (f := fGlo "fit_sides" a_fit_sides))
theorem g_need_deeds (T : Tx P K mg) : fGlo_S K mg "need_deeds" a_need_deeds := fGlo_ok T.mgo (T.c.fact 11 (f := fGlo "need_deeds" a_need_deeds))
theorem g_is_heard (T : Tx P K mg) : fGlo_S K mg "is_heard" a_is_heard := fGlo_ok T.mgo (T.c.fact 12 (f := fGlo "is_heard" a_is_heard))
theorem g_are_boxes (T : Tx P K mg) : fGlo_S K mg "are_boxes" a_are_boxes := fGlo_ok T.mgo (T.c.fact 13 (f := fGlo "are_boxes" a_are_boxes))
theorem g_rank_of (T : Tx P K mg) : fGlo_S K mg "rank_of" a_rank_of := fGlo_ok T.mgo (T.c.fact 14 (f := fGlo "rank_of" a_rank_of))
theorem g_ascending (T : Tx P K mg) : fGlo_S K mg "ascending" a_ascending := fGlo_ok T.mgo (T.c.fact 15 (f := fGlo "ascending" a_ascending))
theorem g_boxes_text (T : Tx P K mg) : fGlo_S K mg "boxes_text" a_boxes_text := fGlo_ok T.mgo (T.c.fact 16 (f := fGlo "boxes_text" a_boxes_text))
theorem g_deeds_text (T : Tx P K mg) : fGlo_S K mg "deeds_text" a_deeds_text := fGlo_ok T.mgo (T.c.fact 17 (f := fGlo "deeds_text" a_deeds_text))
theorem g_word_at (T : Tx P K mg) : fGlo_S K mg "word_at" a_word_at := fGlo_ok T.mgo (T.c.fact 18 (f := fGlo "word_at" a_word_at))
theorem g_boxes_in (T : Tx P K mg) : fGlo_S K mg "boxes_in" a_boxes_in := fGlo_ok T.mgo (T.c.fact 19 (f := fGlo "boxes_in" a_boxes_in))
theorem g_deeds_in (T : Tx P K mg) : fGlo_S K mg "deeds_in" a_deeds_in := fGlo_ok T.mgo (T.c.fact 20 (f := fGlo "deeds_in" a_deeds_in))
theorem g_row_in (T : Tx P K mg) : fGlo_S K mg "row_in" a_row_in := fGlo_ok T.mgo (T.c.fact 21 (f := fGlo "row_in" a_row_in))
theorem g_need_rows (T : Tx P K mg) : fGlo_S K mg "need_rows" a_need_rows := fGlo_ok T.mgo (T.c.fact 22 (f := fGlo "need_rows" a_need_rows))
theorem g_made (T : Tx P K mg) : fGlo_S K mg "made" a_made := fGlo_ok T.mgo (T.c.fact 23 (f := fGlo "made" a_made))
theorem g_rows_text (T : Tx P K mg) : fGlo_S K mg "rows_text" a_rows_text := fGlo_ok T.mgo (T.c.fact 24 (f := fGlo "rows_text" a_rows_text))
theorem g_rows_in (T : Tx P K mg) : fGlo_S K mg "rows_in" a_rows_in := fGlo_ok T.mgo (T.c.fact 25 (f := fGlo "rows_in" a_rows_in))
theorem g_law_pen (T : Tx P K mg) : fGlo_S K mg "_law_pen" a_law_pen := fGlo_ok T.mgo (T.c.fact 26 (f := fGlo "_law_pen" a_law_pen))
theorem g_law_draw (T : Tx P K mg) : fGlo_S K mg "_law_draw" a_law_draw := fGlo_ok T.mgo (T.c.fact 27 (f := fGlo "_law_draw" a_law_draw))
theorem g_law_pick (T : Tx P K mg) : fGlo_S K mg "_law_pick" a_law_pick := fGlo_ok T.mgo (T.c.fact 28 (f := fGlo "_law_pick" a_law_pick))
theorem g_law_deed (T : Tx P K mg) : fGlo_S K mg "_law_deed" a_law_deed := fGlo_ok T.mgo (T.c.fact 29 (f := fGlo "_law_deed" a_law_deed))
theorem g_law_row (T : Tx P K mg) : fGlo_S K mg "_law_row" a_law_row := fGlo_ok T.mgo (T.c.fact 30 (f := fGlo "_law_row" a_law_row))
theorem g_law_text (T : Tx P K mg) : fGlo_S K mg "_law_text" a_law_text := fGlo_ok T.mgo (T.c.fact 31 (f := fGlo "_law_text" a_law_text))
theorem g_law_swapped (T : Tx P K mg) : fGlo_S K mg "_law_swapped" a_law_swapped := fGlo_ok T.mgo (T.c.fact 32 (f := fGlo "_law_swapped" a_law_swapped))
theorem g_law_changed (T : Tx P K mg) : fGlo_S K mg "_law_changed" a_law_changed := fGlo_ok T.mgo (T.c.fact 33 (f := fGlo "_law_changed" a_law_changed))
theorem g_law_is (T : Tx P K mg) : fGlo_S K mg "_law_is" a_law_is := fGlo_ok T.mgo (T.c.fact 34 (f := fGlo "_law_is" a_law_is))
theorem g_law_ (T : Tx P K mg) : fGlo_S K mg "law" a_law_ := fGlo_ok T.mgo (T.c.fact 35 (f := fGlo "law" a_law_))
theorem g_Take (T : Tx P K mg) : fGlo_S K mg "Take" c_Take := fGlo_ok T.mgo (T.c.fact 36 (f := fGlo "Take" c_Take))
theorem g_Put (T : Tx P K mg) : fGlo_S K mg "Put" c_Put := fGlo_ok T.mgo (T.c.fact 37 (f := fGlo "Put" c_Put))
theorem g_Out (T : Tx P K mg) : fGlo_S K mg "Out" c_Out := fGlo_ok T.mgo (T.c.fact 38 (f := fGlo "Out" c_Out))
theorem g_Clear (T : Tx P K mg) : fGlo_S K mg "Clear" c_Clear := fGlo_ok T.mgo (T.c.fact 39 (f := fGlo "Clear" c_Clear))
theorem g_Send (T : Tx P K mg) : fGlo_S K mg "Send" c_Send := fGlo_ok T.mgo (T.c.fact 40 (f := fGlo "Send" c_Send))
theorem g_Move (T : Tx P K mg) : fGlo_S K mg "Move" c_Move := fGlo_ok T.mgo (T.c.fact 41 (f := fGlo "Move" c_Move))
theorem g_Answer (T : Tx P K mg) : fGlo_S K mg "Answer" c_Answer := fGlo_ok T.mgo (T.c.fact 42 (f := fGlo "Answer" c_Answer))
theorem g_Deed (T : Tx P K mg) : fGlo_S K mg "Deed" c_Deed := fGlo_ok T.mgo (T.c.fact 43 (f := fGlo "Deed" c_Deed))
theorem g_Row (T : Tx P K mg) : fGlo_S K mg "Row" c_Row := fGlo_ok T.mgo (T.c.fact 44 (f := fGlo "Row" c_Row))
theorem g_End (T : Tx P K mg) : fGlo_S K mg "End" c_End := fGlo_ok T.mgo (T.c.fact 45 (f := fGlo "End" c_End))
theorem g_Sender (T : Tx P K mg) : fGlo_S K mg "Sender" c_Sender := fGlo_ok T.mgo (T.c.fact 46 (f := fGlo "Sender" c_Sender))
theorem g_Receiver (T : Tx P K mg) : fGlo_S K mg "Receiver" c_Receiver := fGlo_ok T.mgo (T.c.fact 47 (f := fGlo "Receiver" c_Receiver))
theorem g_SIDES (T : Tx P K mg) : fRef_S K mg "SIDES" sidesA := fRef_ok T.mgo (T.c.fact 48 (f := fRef "SIDES" sidesA))
theorem n_isinstance (T : Tx P K mg) : fFree_S K mg "isinstance" := fFree_ok T.mgn (T.c.fact 49 (f := fFree "isinstance"))
theorem n_int (T : Tx P K mg) : fFree_S K mg "int" := fFree_ok T.mgn (T.c.fact 50 (f := fFree "int"))
theorem n_bool (T : Tx P K mg) : fFree_S K mg "bool" := fFree_ok T.mgn (T.c.fact 51 (f := fFree "bool"))
theorem n_str (T : Tx P K mg) : fFree_S K mg "str" := fFree_ok T.mgn (T.c.fact 52 (f := fFree "str"))
theorem n_len (T : Tx P K mg) : fFree_S K mg "len" := fFree_ok T.mgn (T.c.fact 53 (f := fFree "len"))
theorem n_range (T : Tx P K mg) : fFree_S K mg "range" := fFree_ok T.mgn (T.c.fact 54 (f := fFree "range"))
theorem n_any (T : Tx P K mg) : fFree_S K mg "any" := fFree_ok T.mgn (T.c.fact 55 (f := fFree "any"))
theorem n_all (T : Tx P K mg) : fFree_S K mg "all" := fFree_ok T.mgn (T.c.fact 56 (f := fFree "all"))
theorem n_tuple (T : Tx P K mg) : fFree_S K mg "tuple" := fFree_ok T.mgn (T.c.fact 57 (f := fFree "tuple"))
theorem n_zip (T : Tx P K mg) : fFree_S K mg "zip" := fFree_ok T.mgn (T.c.fact 58 (f := fFree "zip"))
theorem n_enumerate (T : Tx P K mg) : fFree_S K mg "enumerate" := fFree_ok T.mgn (T.c.fact 59 (f := fFree "enumerate"))
theorem n_iter (T : Tx P K mg) : fFree_S K mg "iter" := fFree_ok T.mgn (T.c.fact 60 (f := fFree "iter"))
theorem n_dict (T : Tx P K mg) : fFree_S K mg "dict" := fFree_ok T.mgn (T.c.fact 61 (f := fFree "dict"))
theorem n_abs (T : Tx P K mg) : fFree_S K mg "abs" := fFree_ok T.mgn (T.c.fact 62 (f := fFree "abs"))
theorem n_list (T : Tx P K mg) : fFree_S K mg "list" := fFree_ok T.mgn (T.c.fact 63 (f := fFree "list"))
theorem n_super (T : Tx P K mg) : fFree_S K mg "super" := fFree_ok T.mgn (T.c.fact 64 (f := fFree "super"))
theorem i_MOST_STATE (T : Tx P K mg) : fInt_S K mg "MOST_STATE" 23 := fInt_ok T.mgo (T.c.fact 65 (f := fInt "MOST_STATE" 23))
theorem i_MOST_BOX (T : Tx P K mg) : fInt_S K mg "MOST_BOX" 2 := fInt_ok T.mgo (T.c.fact 66 (f := fInt "MOST_BOX" 2))
theorem i_MOST_NUMBER (T : Tx P K mg) : fInt_S K mg "MOST_NUMBER" 5 := fInt_ok T.mgo (T.c.fact 67 (f := fInt "MOST_NUMBER" 5))
theorem i_MOST_DEEDS (T : Tx P K mg) : fInt_S K mg "MOST_DEEDS" 8 := fInt_ok T.mgo (T.c.fact 68 (f := fInt "MOST_DEEDS" 8))
theorem i_MOST_ROWS (T : Tx P K mg) : fInt_S K mg "MOST_ROWS" 120 := fInt_ok T.mgo (T.c.fact 69 (f := fInt "MOST_ROWS" 120))
theorem s_OTHER (T : Tx P K mg) : fStr_S K mg "OTHER" "other" := fStr_ok T.mgo (T.c.fact 70 (f := fStr "OTHER" "other"))
theorem t_SIDES (T : Tx P K mg) : fTup_S K "SIDES" [.str "sender", .str "receiver"] := fTup_ok (T.c.fact 71 (f := fTup "SIDES" [.str "sender", .str "receiver"]))
theorem cl_Take (T : Tx P K mg) : fCls_S K c_Take := fCls_ok (T.c.fact 72 (f := fCls c_Take))
theorem cl_Put (T : Tx P K mg) : fCls_S K c_Put := fCls_ok (T.c.fact 73 (f := fCls c_Put))
theorem cl_Out (T : Tx P K mg) : fCls_S K c_Out := fCls_ok (T.c.fact 74 (f := fCls c_Out))
theorem cl_Clear (T : Tx P K mg) : fCls_S K c_Clear := fCls_ok (T.c.fact 75 (f := fCls c_Clear))
theorem cl_Send (T : Tx P K mg) : fCls_S K c_Send := fCls_ok (T.c.fact 76 (f := fCls c_Send))
theorem cl_Move (T : Tx P K mg) : fCls_S K c_Move := fCls_ok (T.c.fact 77 (f := fCls c_Move))
theorem cl_Answer (T : Tx P K mg) : fCls_S K c_Answer := fCls_ok (T.c.fact 78 (f := fCls c_Answer))
theorem cl_Row (T : Tx P K mg) : fCls_S K c_Row := fCls_ok (T.c.fact 79 (f := fCls c_Row))
theorem cl_Sender (T : Tx P K mg) : fCls_S K c_Sender := fCls_ok (T.c.fact 80 (f := fCls c_Sender))
theorem cl_Receiver (T : Tx P K mg) : fCls_S K c_Receiver := fCls_ok (T.c.fact 81 (f := fCls c_Receiver))
theorem na_Take_box (T : Tx P K mg) : fNoat_S K c_Take "box" := fNoat_ok (T.c.fact 82 (f := fNoat c_Take "box"))
theorem na_Put_box (T : Tx P K mg) : fNoat_S K c_Put "box" := fNoat_ok (T.c.fact 83 (f := fNoat c_Put "box"))
theorem na_Out_box (T : Tx P K mg) : fNoat_S K c_Out "box" := fNoat_ok (T.c.fact 84 (f := fNoat c_Out "box"))
theorem na_Clear_box (T : Tx P K mg) : fNoat_S K c_Clear "box" := fNoat_ok (T.c.fact 85 (f := fNoat c_Clear "box"))
theorem na_Send_box (T : Tx P K mg) : fNoat_S K c_Send "box" := fNoat_ok (T.c.fact 86 (f := fNoat c_Send "box"))
theorem na_Send_number (T : Tx P K mg) : fNoat_S K c_Send "number" := fNoat_ok (T.c.fact 87 (f := fNoat c_Send "number"))
theorem na_Move_box (T : Tx P K mg) : fNoat_S K c_Move "box" := fNoat_ok (T.c.fact 88 (f := fNoat c_Move "box"))
theorem na_Move_to (T : Tx P K mg) : fNoat_S K c_Move "to" := fNoat_ok (T.c.fact 89 (f := fNoat c_Move "to"))
theorem na_Answer_number (T : Tx P K mg) : fNoat_S K c_Answer "number" := fNoat_ok (T.c.fact 90 (f := fNoat c_Answer "number"))
theorem na_Row_state (T : Tx P K mg) : fNoat_S K c_Row "state" := fNoat_ok (T.c.fact 91 (f := fNoat c_Row "state"))
theorem na_Row_deeds (T : Tx P K mg) : fNoat_S K c_Row "deeds" := fNoat_ok (T.c.fact 92 (f := fNoat c_Row "deeds"))
theorem na_Row_then (T : Tx P K mg) : fNoat_S K c_Row "then" := fNoat_ok (T.c.fact 93 (f := fNoat c_Row "then"))
theorem na_Row_hear (T : Tx P K mg) : fNoat_S K c_Row "hear" := fNoat_ok (T.c.fact 94 (f := fNoat c_Row "hear"))
theorem na_Row_empty (T : Tx P K mg) : fNoat_S K c_Row "empty" := fNoat_ok (T.c.fact 95 (f := fNoat c_Row "empty"))
theorem na_Row_full (T : Tx P K mg) : fNoat_S K c_Row "full" := fNoat_ok (T.c.fact 96 (f := fNoat c_Row "full"))
theorem na_Row_key (T : Tx P K mg) : fNoat_S K c_Row "key" := fNoat_ok (T.c.fact 97 (f := fNoat c_Row "key"))
theorem na_Sender_own_side (T : Tx P K mg) : fNoat_S K c_Sender "own_side" := fNoat_ok (T.c.fact 98 (f := fNoat c_Sender "own_side"))
theorem na_Sender_own_rows (T : Tx P K mg) : fNoat_S K c_Sender "own_rows" := fNoat_ok (T.c.fact 99 (f := fNoat c_Sender "own_rows"))
theorem na_Receiver_own_side (T : Tx P K mg) : fNoat_S K c_Receiver "own_side" := fNoat_ok (T.c.fact 100 (f := fNoat c_Receiver "own_side"))
theorem na_Receiver_own_rows (T : Tx P K mg) : fNoat_S K c_Receiver "own_rows" := fNoat_ok (T.c.fact 101 (f := fNoat c_Receiver "own_rows"))
theorem m_Take_is_for (T : Tx P K mg) : fMeth_S K c_Take "is_for" a_Deed_is_for := fMeth_ok (T.c.fact 102 (f := fMeth c_Take "is_for" a_Deed_is_for))
theorem m_Take_verb (T : Tx P K mg) : fMeth_S K c_Take "verb" a_Take_verb := fMeth_ok (T.c.fact 103 (f := fMeth c_Take "verb" a_Take_verb))
theorem m_Take_named_numbers (T : Tx P K mg) : fMeth_S K c_Take "named_numbers" a_Deed_named_numbers := fMeth_ok (T.c.fact 104 (f := fMeth c_Take "named_numbers" a_Deed_named_numbers))
theorem m_Take_renumbered (T : Tx P K mg) : fMeth_S K c_Take "renumbered" a_Deed_renumbered := fMeth_ok (T.c.fact 105 (f := fMeth c_Take "renumbered" a_Deed_renumbered))
theorem m_Take_str (T : Tx P K mg) : fMeth_S K c_Take "__str__" a_BoxDeed_str := fMeth_ok (T.c.fact 106 (f := fMeth c_Take "__str__" a_BoxDeed_str))
theorem m_Take_init (T : Tx P K mg) : fMeth_S K c_Take "__init__" a_BoxDeed_init := fMeth_ok (T.c.fact 107 (f := fMeth c_Take "__init__" a_BoxDeed_init))
theorem m_Put_is_for (T : Tx P K mg) : fMeth_S K c_Put "is_for" a_Deed_is_for := fMeth_ok (T.c.fact 108 (f := fMeth c_Put "is_for" a_Deed_is_for))
theorem m_Put_verb (T : Tx P K mg) : fMeth_S K c_Put "verb" a_Put_verb := fMeth_ok (T.c.fact 109 (f := fMeth c_Put "verb" a_Put_verb))
theorem m_Put_named_numbers (T : Tx P K mg) : fMeth_S K c_Put "named_numbers" a_Deed_named_numbers := fMeth_ok (T.c.fact 110 (f := fMeth c_Put "named_numbers" a_Deed_named_numbers))
theorem m_Put_renumbered (T : Tx P K mg) : fMeth_S K c_Put "renumbered" a_Deed_renumbered := fMeth_ok (T.c.fact 111 (f := fMeth c_Put "renumbered" a_Deed_renumbered))
theorem m_Put_str (T : Tx P K mg) : fMeth_S K c_Put "__str__" a_BoxDeed_str := fMeth_ok (T.c.fact 112 (f := fMeth c_Put "__str__" a_BoxDeed_str))
theorem m_Put_init (T : Tx P K mg) : fMeth_S K c_Put "__init__" a_BoxDeed_init := fMeth_ok (T.c.fact 113 (f := fMeth c_Put "__init__" a_BoxDeed_init))
theorem m_Out_is_for (T : Tx P K mg) : fMeth_S K c_Out "is_for" a_Deed_is_for := fMeth_ok (T.c.fact 114 (f := fMeth c_Out "is_for" a_Deed_is_for))
theorem m_Out_verb (T : Tx P K mg) : fMeth_S K c_Out "verb" a_Out_verb := fMeth_ok (T.c.fact 115 (f := fMeth c_Out "verb" a_Out_verb))
theorem m_Out_named_numbers (T : Tx P K mg) : fMeth_S K c_Out "named_numbers" a_Deed_named_numbers := fMeth_ok (T.c.fact 116 (f := fMeth c_Out "named_numbers" a_Deed_named_numbers))
theorem m_Out_renumbered (T : Tx P K mg) : fMeth_S K c_Out "renumbered" a_Deed_renumbered := fMeth_ok (T.c.fact 117 (f := fMeth c_Out "renumbered" a_Deed_renumbered))
theorem m_Out_str (T : Tx P K mg) : fMeth_S K c_Out "__str__" a_BoxDeed_str := fMeth_ok (T.c.fact 118 (f := fMeth c_Out "__str__" a_BoxDeed_str))
theorem m_Out_init (T : Tx P K mg) : fMeth_S K c_Out "__init__" a_BoxDeed_init := fMeth_ok (T.c.fact 119 (f := fMeth c_Out "__init__" a_BoxDeed_init))
theorem m_Clear_is_for (T : Tx P K mg) : fMeth_S K c_Clear "is_for" a_Deed_is_for := fMeth_ok (T.c.fact 120 (f := fMeth c_Clear "is_for" a_Deed_is_for))
theorem m_Clear_verb (T : Tx P K mg) : fMeth_S K c_Clear "verb" a_Clear_verb := fMeth_ok (T.c.fact 121 (f := fMeth c_Clear "verb" a_Clear_verb))
theorem m_Clear_named_numbers (T : Tx P K mg) : fMeth_S K c_Clear "named_numbers" a_Deed_named_numbers := fMeth_ok (T.c.fact 122 (f := fMeth c_Clear "named_numbers" a_Deed_named_numbers))
theorem m_Clear_renumbered (T : Tx P K mg) : fMeth_S K c_Clear "renumbered" a_Deed_renumbered := fMeth_ok (T.c.fact 123 (f := fMeth c_Clear "renumbered" a_Deed_renumbered))
theorem m_Clear_str (T : Tx P K mg) : fMeth_S K c_Clear "__str__" a_BoxDeed_str := fMeth_ok (T.c.fact 124 (f := fMeth c_Clear "__str__" a_BoxDeed_str))
theorem m_Clear_init (T : Tx P K mg) : fMeth_S K c_Clear "__init__" a_BoxDeed_init := fMeth_ok (T.c.fact 125 (f := fMeth c_Clear "__init__" a_BoxDeed_init))
theorem m_Send_is_for (T : Tx P K mg) : fMeth_S K c_Send "is_for" a_Deed_is_for := fMeth_ok (T.c.fact 126 (f := fMeth c_Send "is_for" a_Deed_is_for))
theorem m_Send_verb (T : Tx P K mg) : fMeth_S K c_Send "verb" a_Send_verb := fMeth_ok (T.c.fact 127 (f := fMeth c_Send "verb" a_Send_verb))
theorem m_Send_named_numbers (T : Tx P K mg) : fMeth_S K c_Send "named_numbers" a_Send_named_numbers := fMeth_ok (T.c.fact 128 (f := fMeth c_Send "named_numbers" a_Send_named_numbers))
theorem m_Send_renumbered (T : Tx P K mg) : fMeth_S K c_Send "renumbered" a_Send_renumbered := fMeth_ok (T.c.fact 129 (f := fMeth c_Send "renumbered" a_Send_renumbered))
theorem m_Send_str (T : Tx P K mg) : fMeth_S K c_Send "__str__" a_Send_str := fMeth_ok (T.c.fact 130 (f := fMeth c_Send "__str__" a_Send_str))
theorem m_Send_init (T : Tx P K mg) : fMeth_S K c_Send "__init__" a_Send_init := fMeth_ok (T.c.fact 131 (f := fMeth c_Send "__init__" a_Send_init))
theorem m_Move_is_for (T : Tx P K mg) : fMeth_S K c_Move "is_for" a_Deed_is_for := fMeth_ok (T.c.fact 132 (f := fMeth c_Move "is_for" a_Deed_is_for))
theorem m_Move_verb (T : Tx P K mg) : fMeth_S K c_Move "verb" a_Move_verb := fMeth_ok (T.c.fact 133 (f := fMeth c_Move "verb" a_Move_verb))
theorem m_Move_named_numbers (T : Tx P K mg) : fMeth_S K c_Move "named_numbers" a_Deed_named_numbers := fMeth_ok (T.c.fact 134 (f := fMeth c_Move "named_numbers" a_Deed_named_numbers))
theorem m_Move_renumbered (T : Tx P K mg) : fMeth_S K c_Move "renumbered" a_Deed_renumbered := fMeth_ok (T.c.fact 135 (f := fMeth c_Move "renumbered" a_Deed_renumbered))
theorem m_Move_str (T : Tx P K mg) : fMeth_S K c_Move "__str__" a_Move_str := fMeth_ok (T.c.fact 136 (f := fMeth c_Move "__str__" a_Move_str))
theorem m_Move_init (T : Tx P K mg) : fMeth_S K c_Move "__init__" a_Move_init := fMeth_ok (T.c.fact 137 (f := fMeth c_Move "__init__" a_Move_init))
theorem m_Answer_is_for (T : Tx P K mg) : fMeth_S K c_Answer "is_for" a_Deed_is_for := fMeth_ok (T.c.fact 138 (f := fMeth c_Answer "is_for" a_Deed_is_for))
theorem m_Answer_verb (T : Tx P K mg) : fMeth_S K c_Answer "verb" a_Answer_verb := fMeth_ok (T.c.fact 139 (f := fMeth c_Answer "verb" a_Answer_verb))
theorem m_Answer_named_numbers (T : Tx P K mg) : fMeth_S K c_Answer "named_numbers" a_Answer_named_numbers := fMeth_ok (T.c.fact 140 (f := fMeth c_Answer "named_numbers" a_Answer_named_numbers))
theorem m_Answer_renumbered (T : Tx P K mg) : fMeth_S K c_Answer "renumbered" a_Answer_renumbered := fMeth_ok (T.c.fact 141 (f := fMeth c_Answer "renumbered" a_Answer_renumbered))
theorem m_Answer_str (T : Tx P K mg) : fMeth_S K c_Answer "__str__" a_Answer_str := fMeth_ok (T.c.fact 142 (f := fMeth c_Answer "__str__" a_Answer_str))
theorem m_Answer_init (T : Tx P K mg) : fMeth_S K c_Answer "__init__" a_Answer_init := fMeth_ok (T.c.fact 143 (f := fMeth c_Answer "__init__" a_Answer_init))
theorem m_Row_sides (T : Tx P K mg) : fMeth_S K c_Row "sides" a_Row_sides := fMeth_ok (T.c.fact 144 (f := fMeth c_Row "sides" a_Row_sides))
theorem m_Row_named_numbers (T : Tx P K mg) : fMeth_S K c_Row "named_numbers" a_Row_named_numbers := fMeth_ok (T.c.fact 145 (f := fMeth c_Row "named_numbers" a_Row_named_numbers))
theorem m_Row_renumbered (T : Tx P K mg) : fMeth_S K c_Row "renumbered" a_Row_renumbered := fMeth_ok (T.c.fact 146 (f := fMeth c_Row "renumbered" a_Row_renumbered))
theorem m_Row_eq (T : Tx P K mg) : fMeth_S K c_Row "__eq__" a_Row_eq := fMeth_ok (T.c.fact 147 (f := fMeth c_Row "__eq__" a_Row_eq))
theorem m_Row_str (T : Tx P K mg) : fMeth_S K c_Row "__str__" a_Row_str := fMeth_ok (T.c.fact 148 (f := fMeth c_Row "__str__" a_Row_str))
theorem m_Row_init (T : Tx P K mg) : fMeth_S K c_Row "__init__" a_Row_init := fMeth_ok (T.c.fact 149 (f := fMeth c_Row "__init__" a_Row_init))
theorem m_Sender_with_row (T : Tx P K mg) : fMeth_S K c_Sender "with_row" a_End_with_row := fMeth_ok (T.c.fact 150 (f := fMeth c_Sender "with_row" a_End_with_row))
theorem m_Sender_without_row (T : Tx P K mg) : fMeth_S K c_Sender "without_row" a_End_without_row := fMeth_ok (T.c.fact 151 (f := fMeth c_Sender "without_row" a_End_without_row))
theorem m_Sender_renumbered (T : Tx P K mg) : fMeth_S K c_Sender "renumbered" a_End_renumbered := fMeth_ok (T.c.fact 152 (f := fMeth c_Sender "renumbered" a_End_renumbered))
theorem m_Sender_eq (T : Tx P K mg) : fMeth_S K c_Sender "__eq__" a_End_eq := fMeth_ok (T.c.fact 153 (f := fMeth c_Sender "__eq__" a_End_eq))
theorem m_Sender_str (T : Tx P K mg) : fMeth_S K c_Sender "__str__" a_End_str := fMeth_ok (T.c.fact 154 (f := fMeth c_Sender "__str__" a_End_str))
theorem m_Sender_len (T : Tx P K mg) : fMeth_S K c_Sender "__len__" a_End_len := fMeth_ok (T.c.fact 155 (f := fMeth c_Sender "__len__" a_End_len))
theorem m_Sender_iter (T : Tx P K mg) : fMeth_S K c_Sender "__iter__" a_End_iter := fMeth_ok (T.c.fact 156 (f := fMeth c_Sender "__iter__" a_End_iter))
theorem m_Sender_contains (T : Tx P K mg) : fMeth_S K c_Sender "__contains__" a_End_contains := fMeth_ok (T.c.fact 157 (f := fMeth c_Sender "__contains__" a_End_contains))
theorem m_Sender_getitem (T : Tx P K mg) : fMeth_S K c_Sender "__getitem__" a_End_getitem := fMeth_ok (T.c.fact 158 (f := fMeth c_Sender "__getitem__" a_End_getitem))
theorem m_Sender_init (T : Tx P K mg) : fMeth_S K c_Sender "__init__" a_Sender_init := fMeth_ok (T.c.fact 159 (f := fMeth c_Sender "__init__" a_Sender_init))
theorem m_Receiver_with_row (T : Tx P K mg) : fMeth_S K c_Receiver "with_row" a_End_with_row := fMeth_ok (T.c.fact 160 (f := fMeth c_Receiver "with_row" a_End_with_row))
theorem m_Receiver_without_row (T : Tx P K mg) : fMeth_S K c_Receiver "without_row" a_End_without_row := fMeth_ok (T.c.fact 161 (f := fMeth c_Receiver "without_row" a_End_without_row))
theorem m_Receiver_renumbered (T : Tx P K mg) : fMeth_S K c_Receiver "renumbered" a_End_renumbered := fMeth_ok (T.c.fact 162 (f := fMeth c_Receiver "renumbered" a_End_renumbered))
theorem m_Receiver_eq (T : Tx P K mg) : fMeth_S K c_Receiver "__eq__" a_End_eq := fMeth_ok (T.c.fact 163 (f := fMeth c_Receiver "__eq__" a_End_eq))
theorem m_Receiver_str (T : Tx P K mg) : fMeth_S K c_Receiver "__str__" a_End_str := fMeth_ok (T.c.fact 164 (f := fMeth c_Receiver "__str__" a_End_str))
theorem m_Receiver_len (T : Tx P K mg) : fMeth_S K c_Receiver "__len__" a_End_len := fMeth_ok (T.c.fact 165 (f := fMeth c_Receiver "__len__" a_End_len))
theorem m_Receiver_iter (T : Tx P K mg) : fMeth_S K c_Receiver "__iter__" a_End_iter := fMeth_ok (T.c.fact 166 (f := fMeth c_Receiver "__iter__" a_End_iter))
theorem m_Receiver_contains (T : Tx P K mg) : fMeth_S K c_Receiver "__contains__" a_End_contains := fMeth_ok (T.c.fact 167 (f := fMeth c_Receiver "__contains__" a_End_contains))
theorem m_Receiver_getitem (T : Tx P K mg) : fMeth_S K c_Receiver "__getitem__" a_End_getitem := fMeth_ok (T.c.fact 168 (f := fMeth c_Receiver "__getitem__" a_End_getitem))
theorem m_Receiver_init (T : Tx P K mg) : fMeth_S K c_Receiver "__init__" a_Receiver_init := fMeth_ok (T.c.fact 169 (f := fMeth c_Receiver "__init__" a_Receiver_init))
theorem mk_Take (T : Tx P K mg) : fMkr_S K c_Take := fMkr_ok (T.c.fact 170 (f := fMkr c_Take))
theorem mk_Put (T : Tx P K mg) : fMkr_S K c_Put := fMkr_ok (T.c.fact 171 (f := fMkr c_Put))
theorem mk_Out (T : Tx P K mg) : fMkr_S K c_Out := fMkr_ok (T.c.fact 172 (f := fMkr c_Out))
theorem mk_Clear (T : Tx P K mg) : fMkr_S K c_Clear := fMkr_ok (T.c.fact 173 (f := fMkr c_Clear))
theorem mk_Send (T : Tx P K mg) : fMkr_S K c_Send := fMkr_ok (T.c.fact 174 (f := fMkr c_Send))
theorem mk_Move (T : Tx P K mg) : fMkr_S K c_Move := fMkr_ok (T.c.fact 175 (f := fMkr c_Move))
theorem mk_Answer (T : Tx P K mg) : fMkr_S K c_Answer := fMkr_ok (T.c.fact 176 (f := fMkr c_Answer))
theorem mk_Row (T : Tx P K mg) : fMkr_S K c_Row := fMkr_ok (T.c.fact 177 (f := fMkr c_Row))
theorem mk_Sender (T : Tx P K mg) : fMkr_S K c_Sender := fMkr_ok (T.c.fact 178 (f := fMkr c_Sender))
theorem mk_Receiver (T : Tx P K mg) : fMkr_S K c_Receiver := fMkr_ok (T.c.fact 179 (f := fMkr c_Receiver))
theorem it_Take (T : Tx P K mg) : fInsT_S K c_Take := fInsT_ok (T.c.fact 180 (f := fInsT c_Take))
theorem it_Put (T : Tx P K mg) : fInsT_S K c_Put := fInsT_ok (T.c.fact 181 (f := fInsT c_Put))
theorem it_Out (T : Tx P K mg) : fInsT_S K c_Out := fInsT_ok (T.c.fact 182 (f := fInsT c_Out))
theorem it_Clear (T : Tx P K mg) : fInsT_S K c_Clear := fInsT_ok (T.c.fact 183 (f := fInsT c_Clear))
theorem it_Send (T : Tx P K mg) : fInsT_S K c_Send := fInsT_ok (T.c.fact 184 (f := fInsT c_Send))
theorem it_Move (T : Tx P K mg) : fInsT_S K c_Move := fInsT_ok (T.c.fact 185 (f := fInsT c_Move))
theorem it_Answer (T : Tx P K mg) : fInsT_S K c_Answer := fInsT_ok (T.c.fact 186 (f := fInsT c_Answer))
theorem it_Row (T : Tx P K mg) : fInsT_S K c_Row := fInsT_ok (T.c.fact 187 (f := fInsT c_Row))
theorem it_Sender (T : Tx P K mg) : fInsT_S K c_Sender := fInsT_ok (T.c.fact 188 (f := fInsT c_Sender))
theorem it_Receiver (T : Tx P K mg) : fInsT_S K c_Receiver := fInsT_ok (T.c.fact 189 (f := fInsT c_Receiver))
theorem ne_Row (T : Tx P K mg) : fOwnNe_S K c_Row := fOwnNe_ok (T.c.fact 190 (f := fOwnNe c_Row))
theorem add_Sender (T : Tx P K mg) : fOwnBin_S K c_Sender c_Row .Add a_End_add := fOwnBin_ok (T.c.fact 191 (f := fOwnBin c_Sender c_Row .Add a_End_add))
theorem sub_Sender (T : Tx P K mg) : fOwnBin_S K c_Sender c_Row .Sub a_End_sub := fOwnBin_ok (T.c.fact 192 (f := fOwnBin c_Sender c_Row .Sub a_End_sub))
theorem add_Receiver (T : Tx P K mg) : fOwnBin_S K c_Receiver c_Row .Add a_End_add := fOwnBin_ok (T.c.fact 193 (f := fOwnBin c_Receiver c_Row .Add a_End_add))
theorem sub_Receiver (T : Tx P K mg) : fOwnBin_S K c_Receiver c_Row .Sub a_End_sub := fOwnBin_ok (T.c.fact 194 (f := fOwnBin c_Receiver c_Row .Sub a_End_sub))
theorem fi_End_getitem (T : Tx P K mg) : fFi_S K a_End_getitem := fFi_ok (T.c.fact 195 (f := fFi a_End_getitem))
theorem fi_BoxDeed_init (T : Tx P K mg) : fFi_S K a_BoxDeed_init := fFi_ok (T.c.fact 196 (f := fFi a_BoxDeed_init))
theorem fi_End_init (T : Tx P K mg) : fFi_S K a_End_init := fFi_ok (T.c.fact 197 (f := fFi a_End_init))
theorem fi_Row_read (T : Tx P K mg) : fFi_S K a_Row_read := fFi_ok (T.c.fact 198 (f := fFi a_Row_read))
theorem fi_Sender_read (T : Tx P K mg) : fFi_S K a_Sender_read := fFi_ok (T.c.fact 199 (f := fFi a_Sender_read))
theorem fi_Receiver_read (T : Tx P K mg) : fFi_S K a_Receiver_read := fFi_ok (T.c.fact 200 (f := fFi a_Receiver_read))
theorem fi_End_numbers (T : Tx P K mg) : fFi_S K a_End_numbers := fFi_ok (T.c.fact 201 (f := fFi a_End_numbers))
theorem sup_Send (T : Tx P K mg) : fSup_S K c_Send a_BoxDeed_init := fSup_ok (T.c.fact 202 (f := fSup c_Send a_BoxDeed_init))
theorem sup_Move (T : Tx P K mg) : fSup_S K c_Move a_BoxDeed_init := fSup_ok (T.c.fact 203 (f := fSup c_Move a_BoxDeed_init))
theorem sup_Sender (T : Tx P K mg) : fSup_S K c_Sender a_End_init := fSup_ok (T.c.fact 204 (f := fSup c_Sender a_End_init))
theorem sup_Receiver (T : Tx P K mg) : fSup_S K c_Receiver a_End_init := fSup_ok (T.c.fact 205 (f := fSup c_Receiver a_End_init))
theorem nf_Row (T : Tx P K mg) : fNf_S K c_Row c_Row := fNf_ok (T.c.fact 206 (f := fNf c_Row c_Row))
theorem nf_Sender (T : Tx P K mg) : fNf_S K c_Sender c_Sender := fNf_ok (T.c.fact 207 (f := fNf c_Sender c_Sender))
theorem nf_Receiver (T : Tx P K mg) : fNf_S K c_Receiver c_Receiver := fNf_ok (T.c.fact 208 (f := fNf c_Receiver c_Receiver))
theorem k_Take_Deed (T : Tx P K mg) : fKit_S K c_Take c_Deed true := fKit_ok (T.c.fact 209 (f := fKit c_Take c_Deed true))
theorem k_Take_Take (T : Tx P K mg) : fKit_S K c_Take c_Take true := fKit_ok (T.c.fact 210 (f := fKit c_Take c_Take true))
theorem k_Take_Put (T : Tx P K mg) : fKit_S K c_Take c_Put false := fKit_ok (T.c.fact 211 (f := fKit c_Take c_Put false))
theorem k_Put_Deed (T : Tx P K mg) : fKit_S K c_Put c_Deed true := fKit_ok (T.c.fact 212 (f := fKit c_Put c_Deed true))
theorem k_Put_Take (T : Tx P K mg) : fKit_S K c_Put c_Take false := fKit_ok (T.c.fact 213 (f := fKit c_Put c_Take false))
theorem k_Put_Put (T : Tx P K mg) : fKit_S K c_Put c_Put true := fKit_ok (T.c.fact 214 (f := fKit c_Put c_Put true))
theorem k_Out_Deed (T : Tx P K mg) : fKit_S K c_Out c_Deed true := fKit_ok (T.c.fact 215 (f := fKit c_Out c_Deed true))
theorem k_Out_Take (T : Tx P K mg) : fKit_S K c_Out c_Take false := fKit_ok (T.c.fact 216 (f := fKit c_Out c_Take false))
theorem k_Out_Put (T : Tx P K mg) : fKit_S K c_Out c_Put false := fKit_ok (T.c.fact 217 (f := fKit c_Out c_Put false))
theorem k_Clear_Deed (T : Tx P K mg) : fKit_S K c_Clear c_Deed true := fKit_ok (T.c.fact 218 (f := fKit c_Clear c_Deed true))
theorem k_Clear_Take (T : Tx P K mg) : fKit_S K c_Clear c_Take false := fKit_ok (T.c.fact 219 (f := fKit c_Clear c_Take false))
theorem k_Clear_Put (T : Tx P K mg) : fKit_S K c_Clear c_Put false := fKit_ok (T.c.fact 220 (f := fKit c_Clear c_Put false))
theorem k_Send_Deed (T : Tx P K mg) : fKit_S K c_Send c_Deed true := fKit_ok (T.c.fact 221 (f := fKit c_Send c_Deed true))
theorem k_Send_Take (T : Tx P K mg) : fKit_S K c_Send c_Take false := fKit_ok (T.c.fact 222 (f := fKit c_Send c_Take false))
theorem k_Send_Put (T : Tx P K mg) : fKit_S K c_Send c_Put false := fKit_ok (T.c.fact 223 (f := fKit c_Send c_Put false))
theorem k_Move_Deed (T : Tx P K mg) : fKit_S K c_Move c_Deed true := fKit_ok (T.c.fact 224 (f := fKit c_Move c_Deed true))
theorem k_Move_Take (T : Tx P K mg) : fKit_S K c_Move c_Take false := fKit_ok (T.c.fact 225 (f := fKit c_Move c_Take false))
theorem k_Move_Put (T : Tx P K mg) : fKit_S K c_Move c_Put false := fKit_ok (T.c.fact 226 (f := fKit c_Move c_Put false))
theorem k_Answer_Deed (T : Tx P K mg) : fKit_S K c_Answer c_Deed true := fKit_ok (T.c.fact 227 (f := fKit c_Answer c_Deed true))
theorem k_Answer_Take (T : Tx P K mg) : fKit_S K c_Answer c_Take false := fKit_ok (T.c.fact 228 (f := fKit c_Answer c_Take false))
theorem k_Answer_Put (T : Tx P K mg) : fKit_S K c_Answer c_Put false := fKit_ok (T.c.fact 229 (f := fKit c_Answer c_Put false))
theorem k_Row_Row (T : Tx P K mg) : fKit_S K c_Row c_Row true := fKit_ok (T.c.fact 230 (f := fKit c_Row c_Row true))
theorem k_Sender_End (T : Tx P K mg) : fKit_S K c_Sender c_End true := fKit_ok (T.c.fact 231 (f := fKit c_Sender c_End true))
theorem k_Receiver_End (T : Tx P K mg) : fKit_S K c_Receiver c_End true := fKit_ok (T.c.fact 232 (f := fKit c_Receiver c_End true))
theorem cr_Row (T : Tx P K mg) : fCRead_S K c_Row := fCRead_ok (T.c.fact 233 (f := fCRead c_Row))
theorem cm_Row (T : Tx P K mg) : fCMet_S K c_Row "read" r_Row_read a_Row_read := fCMet_ok (T.c.fact 234 (f := fCMet c_Row "read" r_Row_read a_Row_read))
theorem cr_Sender (T : Tx P K mg) : fCRead_S K c_Sender := fCRead_ok (T.c.fact 235 (f := fCRead c_Sender))
theorem cm_Sender (T : Tx P K mg) : fCMet_S K c_Sender "read" r_Sender_read a_Sender_read := fCMet_ok (T.c.fact 236 (f := fCMet c_Sender "read" r_Sender_read a_Sender_read))
theorem cr_Receiver (T : Tx P K mg) : fCRead_S K c_Receiver := fCRead_ok (T.c.fact 237 (f := fCRead c_Receiver))
theorem cm_Receiver (T : Tx P K mg) : fCMet_S K c_Receiver "read" r_Receiver_read a_Receiver_read := fCMet_ok (T.c.fact 238 (f := fCMet c_Receiver "read" r_Receiver_read a_Receiver_read))
theorem p_Sender (T : Tx P K mg) : fProp_S K c_Sender "numbers" r_End_numbers a_End_numbers := fProp_ok (T.c.fact 239 (f := fProp c_Sender "numbers" r_End_numbers a_End_numbers))
theorem p_Receiver (T : Tx P K mg) : fProp_S K c_Receiver "numbers" r_End_numbers a_End_numbers := fProp_ok (T.c.fact 240 (f := fProp c_Receiver "numbers" r_End_numbers a_End_numbers))
theorem f_is_integer (T : Tx P K mg) : ∃ fd, Fun K "is_integer" "is_integer" s_is_integer (a_is_integer K) fd := T.c.fun_ 0 (d := d_is_integer)
theorem f_is_within (T : Tx P K mg) : ∃ fd, Fun K "is_within" "is_within" s_is_within (a_is_within K) fd := T.c.fun_ 1 (d := d_is_within)
theorem f_is_state (T : Tx P K mg) : ∃ fd, Fun K "is_state" "is_state" s_is_state (a_is_state K) fd := T.c.fun_ 2 (d := d_is_state)
theorem f_is_box (T : Tx P K mg) : ∃ fd, Fun K "is_box" "is_box" s_is_box (a_is_box K) fd := T.c.fun_ 3 (d := d_is_box)
theorem f_is_number (T : Tx P K mg) : ∃ fd, Fun K "is_number" "is_number" s_is_number (a_is_number K) fd := T.c.fun_ 4 (d := d_is_number)
theorem f_need_box (T : Tx P K mg) : ∃ fd, Fun K "need_box" "need_box" s_need_box (a_need_box K) fd := T.c.fun_ 5 (d := d_need_box)
theorem f_need_number (T : Tx P K mg) : ∃ fd, Fun K "need_number" "need_number" s_need_number (a_need_number K) fd := T.c.fun_ 6 (d := d_need_number)
theorem f_Deed_is_for (T : Tx P K mg) : ∃ fd, Fun K "is_for" "Deed.is_for" s_Deed_is_for (a_Deed_is_for K) fd := T.c.fun_ 7 (d := d_Deed_is_for)
theorem f_Deed_named_numbers (T : Tx P K mg) : ∃ fd, Fun K "named_numbers" "Deed.named_numbers" s_Deed_named_numbers (a_Deed_named_numbers K) fd := T.c.fun_ 8 (d := d_Deed_named_numbers)
theorem f_Deed_renumbered (T : Tx P K mg) : ∃ fd, Fun K "renumbered" "Deed.renumbered" s_Deed_renumbered (a_Deed_renumbered K) fd := T.c.fun_ 9 (d := d_Deed_renumbered)
theorem f_BoxDeed_init (T : Tx P K mg) : ∃ fd, Fun K "__init__" "BoxDeed.__init__" s_BoxDeed_init (a_BoxDeed_init K) fd := T.c.fun_ 10 (d := d_BoxDeed_init)
theorem f_BoxDeed_str (T : Tx P K mg) : ∃ fd, Fun K "__str__" "BoxDeed.__str__" s_BoxDeed_str (a_BoxDeed_str K) fd := T.c.fun_ 11 (d := d_BoxDeed_str)
theorem f_Take_verb (T : Tx P K mg) : ∃ fd, Fun K "verb" "Take.verb" s_Take_verb (a_Take_verb K) fd := T.c.fun_ 12 (d := d_Take_verb)
theorem f_Put_verb (T : Tx P K mg) : ∃ fd, Fun K "verb" "Put.verb" s_Put_verb (a_Put_verb K) fd := T.c.fun_ 13 (d := d_Put_verb)
theorem f_Out_verb (T : Tx P K mg) : ∃ fd, Fun K "verb" "Out.verb" s_Out_verb (a_Out_verb K) fd := T.c.fun_ 14 (d := d_Out_verb)
theorem f_Clear_verb (T : Tx P K mg) : ∃ fd, Fun K "verb" "Clear.verb" s_Clear_verb (a_Clear_verb K) fd := T.c.fun_ 15 (d := d_Clear_verb)
theorem f_Send_init (T : Tx P K mg) : ∃ fd, FunS K "__init__" "Send.__init__" s_Send_init (a_Send_init K) (c_Send K) fd := T.c.funS 16 (d := d_Send_init) (D := c_Send)
theorem f_Send_verb (T : Tx P K mg) : ∃ fd, Fun K "verb" "Send.verb" s_Send_verb (a_Send_verb K) fd := T.c.fun_ 17 (d := d_Send_verb)
theorem f_Send_named_numbers (T : Tx P K mg) : ∃ fd, Fun K "named_numbers" "Send.named_numbers" s_Send_named_numbers (a_Send_named_numbers K) fd := T.c.fun_ 18 (d := d_Send_named_numbers)
theorem f_Send_renumbered (T : Tx P K mg) : ∃ fd, Fun K "renumbered" "Send.renumbered" s_Send_renumbered (a_Send_renumbered K) fd := T.c.fun_ 19 (d := d_Send_renumbered)
theorem f_Send_str (T : Tx P K mg) : ∃ fd, Fun K "__str__" "Send.__str__" s_Send_str (a_Send_str K) fd := T.c.fun_ 20 (d := d_Send_str)
theorem f_Move_init (T : Tx P K mg) : ∃ fd, FunS K "__init__" "Move.__init__" s_Move_init (a_Move_init K) (c_Move K) fd := T.c.funS 21 (d := d_Move_init) (D := c_Move)
theorem f_Move_verb (T : Tx P K mg) : ∃ fd, Fun K "verb" "Move.verb" s_Move_verb (a_Move_verb K) fd := T.c.fun_ 22 (d := d_Move_verb)
theorem f_Move_str (T : Tx P K mg) : ∃ fd, Fun K "__str__" "Move.__str__" s_Move_str (a_Move_str K) fd := T.c.fun_ 23 (d := d_Move_str)
theorem f_Answer_init (T : Tx P K mg) : ∃ fd, Fun K "__init__" "Answer.__init__" s_Answer_init (a_Answer_init K) fd := T.c.fun_ 24 (d := d_Answer_init)
theorem f_Answer_verb (T : Tx P K mg) : ∃ fd, Fun K "verb" "Answer.verb" s_Answer_verb (a_Answer_verb K) fd := T.c.fun_ 25 (d := d_Answer_verb)
theorem f_Answer_named_numbers (T : Tx P K mg) : ∃ fd, Fun K "named_numbers" "Answer.named_numbers" s_Answer_named_numbers (a_Answer_named_numbers K) fd := T.c.fun_ 26 (d := d_Answer_named_numbers)
theorem f_Answer_renumbered (T : Tx P K mg) : ∃ fd, Fun K "renumbered" "Answer.renumbered" s_Answer_renumbered (a_Answer_renumbered K) fd := T.c.fun_ 27 (d := d_Answer_renumbered)
theorem f_Answer_str (T : Tx P K mg) : ∃ fd, Fun K "__str__" "Answer.__str__" s_Answer_str (a_Answer_str K) fd := T.c.fun_ 28 (d := d_Answer_str)
theorem f_sides_of (T : Tx P K mg) : ∃ fd, Fun K "sides_of" "sides_of" s_sides_of (a_sides_of K) fd := T.c.fun_ 29 (d := d_sides_of)
theorem f_integer_in (T : Tx P K mg) : ∃ fd, Fun K "integer_in" "integer_in" s_integer_in (a_integer_in K) fd := T.c.fun_ 30 (d := d_integer_in)
theorem f_deed_in (T : Tx P K mg) : ∃ fd, Fun K "deed_in" "deed_in" s_deed_in (a_deed_in K) fd := T.c.fun_ 31 (d := d_deed_in)
theorem f_fit_sides (T : Tx P K mg) : ∃ fd, Fun K "fit_sides" "fit_sides" s_fit_sides (a_fit_sides K) fd := T.c.fun_ 32 (d := d_fit_sides)
theorem f_need_deeds (T : Tx P K mg) : ∃ fd, Fun K "need_deeds" "need_deeds" s_need_deeds (a_need_deeds K) fd := T.c.fun_ 33 (d := d_need_deeds)
theorem f_is_heard (T : Tx P K mg) : ∃ fd, Fun K "is_heard" "is_heard" s_is_heard (a_is_heard K) fd := T.c.fun_ 34 (d := d_is_heard)
theorem f_are_boxes (T : Tx P K mg) : ∃ fd, Fun K "are_boxes" "are_boxes" s_are_boxes (a_are_boxes K) fd := T.c.fun_ 35 (d := d_are_boxes)
theorem f_rank_of (T : Tx P K mg) : ∃ fd, Fun K "rank_of" "rank_of" s_rank_of (a_rank_of K) fd := T.c.fun_ 36 (d := d_rank_of)
theorem f_ascending (T : Tx P K mg) : ∃ fd, Fun K "ascending" "ascending" s_ascending (a_ascending K) fd := T.c.fun_ 37 (d := d_ascending)
theorem f_Row_init (T : Tx P K mg) : ∃ fd, Fun K "__init__" "Row.__init__" s_Row_init (a_Row_init K) fd := T.c.fun_ 38 (d := d_Row_init)
theorem f_Row_read (T : Tx P K mg) : ∃ fd, Fun K "read" "Row.read" s_Row_read (a_Row_read K) fd := T.c.fun_ 39 (d := d_Row_read)
theorem f_Row_sides (T : Tx P K mg) : ∃ fd, Fun K "sides" "Row.sides" s_Row_sides (a_Row_sides K) fd := T.c.fun_ 40 (d := d_Row_sides)
theorem f_Row_named_numbers (T : Tx P K mg) : ∃ fd, Fun K "named_numbers" "Row.named_numbers" s_Row_named_numbers (a_Row_named_numbers K) fd := T.c.fun_ 41 (d := d_Row_named_numbers)
theorem f_Row_renumbered (T : Tx P K mg) : ∃ fd, Fun K "renumbered" "Row.renumbered" s_Row_renumbered (a_Row_renumbered K) fd := T.c.fun_ 42 (d := d_Row_renumbered)
theorem f_Row_eq (T : Tx P K mg) : ∃ fd, Fun K "__eq__" "Row.__eq__" s_Row_eq (a_Row_eq K) fd := T.c.fun_ 43 (d := d_Row_eq)
theorem f_Row_str (T : Tx P K mg) : ∃ fd, Fun K "__str__" "Row.__str__" s_Row_str (a_Row_str K) fd := T.c.fun_ 44 (d := d_Row_str)
theorem f_boxes_text (T : Tx P K mg) : ∃ fd, Fun K "boxes_text" "boxes_text" s_boxes_text (a_boxes_text K) fd := T.c.fun_ 45 (d := d_boxes_text)
theorem f_deeds_text (T : Tx P K mg) : ∃ fd, Fun K "deeds_text" "deeds_text" s_deeds_text (a_deeds_text K) fd := T.c.fun_ 46 (d := d_deeds_text)
theorem f_word_at (T : Tx P K mg) : ∃ fd, Fun K "word_at" "word_at" s_word_at (a_word_at K) fd := T.c.fun_ 47 (d := d_word_at)
theorem f_boxes_in (T : Tx P K mg) : ∃ fd, Fun K "boxes_in" "boxes_in" s_boxes_in (a_boxes_in K) fd := T.c.fun_ 48 (d := d_boxes_in)
theorem f_deeds_in (T : Tx P K mg) : ∃ fd, Fun K "deeds_in" "deeds_in" s_deeds_in (a_deeds_in K) fd := T.c.fun_ 49 (d := d_deeds_in)
theorem f_row_in (T : Tx P K mg) : ∃ fd, Fun K "row_in" "row_in" s_row_in (a_row_in K) fd := T.c.fun_ 50 (d := d_row_in)
theorem f_need_rows (T : Tx P K mg) : ∃ fd, Fun K "need_rows" "need_rows" s_need_rows (a_need_rows K) fd := T.c.fun_ 51 (d := d_need_rows)
theorem f_made (T : Tx P K mg) : ∃ fd, Fun K "made" "made" s_made (a_made K) fd := T.c.fun_ 52 (d := d_made)
theorem f_rows_text (T : Tx P K mg) : ∃ fd, Fun K "rows_text" "rows_text" s_rows_text (a_rows_text K) fd := T.c.fun_ 53 (d := d_rows_text)
theorem f_rows_in (T : Tx P K mg) : ∃ fd, Fun K "rows_in" "rows_in" s_rows_in (a_rows_in K) fd := T.c.fun_ 54 (d := d_rows_in)
theorem f_End_init (T : Tx P K mg) : ∃ fd, Fun K "__init__" "End.__init__" s_End_init (a_End_init K) fd := T.c.fun_ 55 (d := d_End_init)
theorem f_End_len (T : Tx P K mg) : ∃ fd, Fun K "__len__" "End.__len__" s_End_len (a_End_len K) fd := T.c.fun_ 56 (d := d_End_len)
theorem f_End_iter (T : Tx P K mg) : ∃ fd, Fun K "__iter__" "End.__iter__" s_End_iter (a_End_iter K) fd := T.c.fun_ 57 (d := d_End_iter)
theorem f_End_getitem (T : Tx P K mg) : ∃ fd, Fun K "__getitem__" "End.__getitem__" s_End_getitem (a_End_getitem K) fd := T.c.fun_ 58 (d := d_End_getitem)
theorem f_End_contains (T : Tx P K mg) : ∃ fd, Fun K "__contains__" "End.__contains__" s_End_contains (a_End_contains K) fd := T.c.fun_ 59 (d := d_End_contains)
theorem f_End_add (T : Tx P K mg) : ∃ fd, Fun K "__add__" "End.__add__" s_End_add (a_End_add K) fd := T.c.fun_ 60 (d := d_End_add)
theorem f_End_sub (T : Tx P K mg) : ∃ fd, Fun K "__sub__" "End.__sub__" s_End_sub (a_End_sub K) fd := T.c.fun_ 61 (d := d_End_sub)
theorem f_End_with_row (T : Tx P K mg) : ∃ fd, Fun K "with_row" "End.with_row" s_End_with_row (a_End_with_row K) fd := T.c.fun_ 62 (d := d_End_with_row)
theorem f_End_without_row (T : Tx P K mg) : ∃ fd, Fun K "without_row" "End.without_row" s_End_without_row (a_End_without_row K) fd := T.c.fun_ 63 (d := d_End_without_row)
theorem f_End_numbers (T : Tx P K mg) : ∃ fd, Fun K "numbers" "End.numbers" s_End_numbers (a_End_numbers K) fd := T.c.fun_ 64 (d := d_End_numbers)
theorem f_End_renumbered (T : Tx P K mg) : ∃ fd, Fun K "renumbered" "End.renumbered" s_End_renumbered (a_End_renumbered K) fd := T.c.fun_ 65 (d := d_End_renumbered)
theorem f_End_eq (T : Tx P K mg) : ∃ fd, Fun K "__eq__" "End.__eq__" s_End_eq (a_End_eq K) fd := T.c.fun_ 66 (d := d_End_eq)
theorem f_End_str (T : Tx P K mg) : ∃ fd, Fun K "__str__" "End.__str__" s_End_str (a_End_str K) fd := T.c.fun_ 67 (d := d_End_str)
theorem f_Sender_init (T : Tx P K mg) : ∃ fd, FunS K "__init__" "Sender.__init__" s_Sender_init (a_Sender_init K) (c_Sender K) fd := T.c.funS 68 (d := d_Sender_init) (D := c_Sender)
theorem f_Sender_read (T : Tx P K mg) : ∃ fd, Fun K "read" "Sender.read" s_Sender_read (a_Sender_read K) fd := T.c.fun_ 69 (d := d_Sender_read)
theorem f_Receiver_init (T : Tx P K mg) : ∃ fd, FunS K "__init__" "Receiver.__init__" s_Receiver_init (a_Receiver_init K) (c_Receiver K) fd := T.c.funS 70 (d := d_Receiver_init) (D := c_Receiver)
theorem f_Receiver_read (T : Tx P K mg) : ∃ fd, Fun K "read" "Receiver.read" s_Receiver_read (a_Receiver_read K) fd := T.c.fun_ 71 (d := d_Receiver_read)
theorem f_law_pen (T : Tx P K mg) : ∃ fd, Fun K "_law_pen" "_law_pen" s_law_pen (a_law_pen K) fd := T.c.fun_ 72 (d := d_law_pen)
theorem f_law_draw (T : Tx P K mg) : ∃ fd, Fun K "_law_draw" "_law_draw" s_law_draw (a_law_draw K) fd := T.c.fun_ 73 (d := d_law_draw)
theorem f_law_pick (T : Tx P K mg) : ∃ fd, Fun K "_law_pick" "_law_pick" s_law_pick (a_law_pick K) fd := T.c.fun_ 74 (d := d_law_pick)
theorem f_law_deed (T : Tx P K mg) : ∃ fd, Fun K "_law_deed" "_law_deed" s_law_deed (a_law_deed K) fd := T.c.fun_ 75 (d := d_law_deed)
theorem f_law_row (T : Tx P K mg) : ∃ fd, Fun K "_law_row" "_law_row" s_law_row (a_law_row K) fd := T.c.fun_ 76 (d := d_law_row)
theorem f_law_text (T : Tx P K mg) : ∃ fd, Fun K "_law_text" "_law_text" s_law_text (a_law_text K) fd := T.c.fun_ 77 (d := d_law_text)
theorem f_law_swapped (T : Tx P K mg) : ∃ fd, Fun K "_law_swapped" "_law_swapped" s_law_swapped (a_law_swapped K) fd := T.c.fun_ 78 (d := d_law_swapped)
theorem f_law_changed (T : Tx P K mg) : ∃ fd, Fun K "_law_changed" "_law_changed" s_law_changed (a_law_changed K) fd := T.c.fun_ 79 (d := d_law_changed)
theorem f_law_is (T : Tx P K mg) : ∃ fd, Fun K "_law_is" "_law_is" s_law_is (a_law_is K) fd := T.c.fun_ 80 (d := d_law_is)
theorem f_law_ (T : Tx P K mg) : ∃ fd, Fun K "law" "law" s_law_ (a_law_ K) fd := T.c.fun_ 81 (d := d_law_)
end Tx
end L2.My
end
section
set_option Elab.async false
set_option linter.all false
set_option autoImplicit false
set_option maxRecDepth 100000
set_option maxHeartbeats 4000000
/-! a dict whose keys are tuples of ints, texts, None and tuples of these -/
namespace L2.My
open PySem PySem.Spec PyProof.Rows
def NK0 (k : NestedKey) (v : V) : Prop := (∃ i, k = .num i ∧ v = .int i) ∨ (∃ x, k = .text x ∧ v = .str x) ∨ (k = .none ∧ v = .non)
def NK1 (K : PySem.W.Frag) (H : Hp) (k : NestedKey) (v : V) : Prop := NK0 k v ∨ ∃ a ks vs, k = .tup ks ∧ v = .ref a ∧ SqT K H a vs ∧ Paired NK0 ks vs
def NK2 (K : PySem.W.Frag) (H : Hp) (k : NestedKey) (a : Addr) : Prop := ∃ ks vs, k = .tup ks ∧ SqT K H a vs ∧ Paired (NK1 K H) ks vs
theorem nk0_is {h : Heap} {k : NestedKey} {v : V} {u : Value} (r : RelV v u) (n : NK0 k v) : NestedIs h k u := by
  rcases n with ⟨i, rfl, rfl⟩ | ⟨x, rfl, rfl⟩ | ⟨rfl, rfl⟩
  · obtain ⟨t, rfl⟩ := r; exact .int i t
  · obtain ⟨t, rfl⟩ := r; exact .text x t
  · cases (show u = Value.none from r); exact .none
theorem nk0_all {h : Heap} : ∀ {ks : List NestedKey} {vs : List V} {us : List Value}, Vals vs us → Paired NK0 ks vs → NestedAll h ks us
  | _, _, _, .nil, .nil => .nil
  | _, _, _, .cons r rr, .cons n nn => .cons (nk0_is r n) (nk0_all rr nn)
theorem nk0_depth {k : NestedKey} {v : V} (n : NK0 k v) : k.depth = 0 := by
  rcases n with ⟨i, rfl, rfl⟩ | ⟨x, rfl, rfl⟩ | ⟨rfl, rfl⟩ <;> rfl
theorem nk0_depths : ∀ {ks : List NestedKey} {vs : List V}, Paired NK0 ks vs → NestedKey.depthAll ks = 0
  | _, _, .nil => rfl
  | _, _, .cons n nn => by
    unfold NestedKey.depthAll
    rw [nk0_depth n, nk0_depths nn]; rfl
section
variable {X : Cx} {pins : List (Addr × Obj)} {σ : St} {H : Hp} {s : Shared}
theorem nk1_is (I : Inv X pins σ H s) {k : NestedKey} {v : V} {u : Value} (r : RelV v u) (n : NK1 X.K H k v) : NestedIs s.heap k u := by
  rcases n with n | ⟨a, ks, vs, rfl, rfl, hq, p⟩
  · exact nk0_is r n
  · cases (show u = Value.ref a from r)
    obtain ⟨its, rv, ⟨o, e, hc, n, d⟩, _⟩ := I.tuple hq
    exact .tup e hc d (by simpa using nk0_all rv p)
theorem nk1_all (I : Inv X pins σ H s) : ∀ {ks : List NestedKey} {vs : List V} {us : List Value}, Vals vs us → Paired (NK1 X.K H) ks vs → NestedAll s.heap ks us
  | _, _, _, .nil, .nil => .nil
  | _, _, _, .cons r rr, .cons n nn => .cons (nk1_is I r n) (nk1_all I rr nn)
theorem nk1_depth {K : PySem.W.Frag} {k : NestedKey} {v : V} (n : NK1 K H k v) : k.depth ≤ 1 := by
  rcases n with n | ⟨a, ks, vs, rfl, rfl, hq, p⟩
  · rw [nk0_depth n]; exact Nat.zero_le _
  · unfold NestedKey.depth
    rw [nk0_depths p]
    exact Nat.le_refl _
theorem nk1_depths {K : PySem.W.Frag} : ∀ {ks : List NestedKey} {vs : List V}, Paired (NK1 K H) ks vs → NestedKey.depthAll ks ≤ 1
  | _, _, .nil => Nat.zero_le _
  | _, _, .cons n nn => by
    unfold NestedKey.depthAll
    exact Nat.max_le.mpr ⟨nk1_depth n, nk1_depths nn⟩
theorem nk2_is (I : Inv X pins σ H s) {k : NestedKey} {a : Addr} (n : NK2 X.K H k a) : (nestedKind X.prog X.w).is s.heap k a := by
  obtain ⟨ks, vs, rfl, hq, p⟩ := n
  obtain ⟨its, rv, ⟨o, e, hc, n, d⟩, _⟩ := I.tuple hq
  refine ⟨.tup e hc d (by simpa using nk1_all I rv p), ?_⟩
  unfold NestedKey.depth
  have := nk1_depths p
  omega
end
/-- a dict with such keys: its own object alone -/
def DKN (P : Program) (w : World) (a : Addr) (xs : List (NestedKey × Addr × Value)) : HO := .ext fun h => ∃ o es ep, h.get? a = some o ∧ o.ExactDict ∧ o.data = .dict es ep ∧ es.toList = xs.map (entryOfKey (nestedKind P w)) ∧ (xs.map (·.1)).Nodup
theorem dkn_ok {P : Program} {w : World} {H : Hp} {h : Heap} {a : Addr} {xs : List (NestedKey × Addr × Value)} (e : ∃ o es ep, h.get? a = some o ∧ o.ExactDict ∧ o.data = .dict es ep ∧ es.toList = xs.map (entryOfKey (nestedKind P w)) ∧ (xs.map (·.1)).Nodup) : ObjOk P w H h a (DKN P w a xs) :=
  ⟨e, let ⟨o, _, _, ho, _⟩ := e; ⟨o, ho⟩, fun h1 h2 ⟨o, es, ep, ho, r⟩ k => ⟨o, es, ep, k _ ho, r⟩⟩
/-- at d a dict with the keys ks, each at some address that still holds it -/
def NDict (P : Program) (w : World) (K : PySem.W.Frag) (H : Hp) (d : Addr) (ks : List NestedKey) : Prop := ∃ xs : List (NestedKey × Addr × Value), H d = some (DKN P w d xs) ∧ (d == sysModules) = false ∧ xs.map (·.1) = ks ∧ ∀ x ∈ xs, NK2 K H x.1 x.2.1
section
variable {X : Cx} {o i : Expr} {td ty : TE} {pos : Pos}
theorem ndict_at {pins : List (Addr × Obj)} {σ : St} {H : Hp} {s : Shared} {d : Addr} {xs : List (NestedKey × Addr × Value)} (I : Inv X pins σ H s) (e : H d = some (DKN X.prog X.w d xs)) (hk : ∀ x ∈ xs, NK2 X.K H x.1 x.2.1) : s.heap.DictOfH (nestedKind X.prog X.w) d xs := by
  obtain ⟨⟨o, es, ep, ho, hx, hd, he, hn⟩, _⟩ := (show ObjOk X.prog X.w H s.heap d (DKN X.prog X.w d xs) from I.hok d _ e)
  exact ⟨o, es, ep, ho, hx, hd, he, fun x hx => nk2_is I (hk x hx), hn⟩
def tNNew (P : Program) (w : World) : TE := fun _ H Q => ∀ d, H d = none → (d == sysModules) = false → Q (.ref d) (upd H d (DKN P w d []))
theorem pe_nnew : PE X (.Dict [] [] pos) (tNNew X.prog X.w) := ⟨fun pins s σ H Q I h =>
  wpAny_Dict_empty ⟨.ref s.heap.objs.size, _, I.laid (a := s.heap.objs.size) (o := DKN X.prog X.w s.heap.objs.size []) (t' := s.toks) (fun _ _ q => Heap.get?_push_of_some _ q) (Nat.le_refl _)
    (dkn_ok ⟨_, #[], 0, Heap.get?_push_size _ rfl, ⟨rfl, rfl, rfl⟩, rfl, rfl, List.nodup_nil⟩), rfl, h _ (I.hok.fresh (Nat.le_refl _)) (beq_eq_false_iff_ne.mpr (Ne.symm (Nat.ne_of_lt I.big)))⟩⟩
theorem ndict_new {P : Program} {w : World} {K : PySem.W.Frag} {H : Hp} {d : Addr} (hd : (d == sysModules) = false) : NDict P w K (upd H d (DKN P w d [])) d [] := ⟨[], upd_same, hd, rfl, fun _ h => by simp at h⟩
/-- k in d -/
def rNIn (P : Program) (w : World) (K : PySem.W.Frag) : R2 := fun x y H Q => ∃ a d k ks, x = .ref a ∧ y = .ref d ∧ NK2 K H k a ∧ NDict P w K H d ks ∧ Q (.bl (decide (k ∈ ks))) H
theorem op_nin (hu : X.A.units + 9 < cLine) : OpR X (compareOp .In) (rNIn X.prog X.w X.K) := by
  intro pins s σ H x y v u Q I rx ry h
  obtain ⟨a, d, k, ks, rfl, rfl, hk, ⟨xs, e, hd, rfl, hx⟩, q⟩ := h
  cases (show v = Value.ref a from rx)
  cases (show u = Value.ref d from ry)
  refine in_keyed (knd := nestedKind X.prog X.w) (by show X.A.units + 1 + 8 < cLine; omega) (nk2_is I hk) hd ⟨xs, ndict_at I e hx, rfl⟩ ?_
  have eb : (valueAt (pairsH xs) k).isSome = decide (k ∈ xs.map (·.1)) := by
    have e1 : (pairsH xs).map (·.1) = xs.map (·.1) := by unfold pairsH; rw [List.map_map]; rfl
    rw [← e1]
    by_cases hm : k ∈ (pairsH xs).map (·.1)
    · rw [valueAt_isSome.mpr hm, decide_eq_true hm]
    · rw [decide_eq_false hm]
      cases hv : (valueAt (pairsH xs) k).isSome with
      | false => rfl
      | true => exact absurd (valueAt_isSome.mp hv) hm
  rw [eb]
  exact ⟨.bl _, H, I.tok _, rfl, q⟩
/-- d[k] = v, k not yet there -/
def sNPut (P : Program) (w : World) (K : PySem.W.Frag) (td ty tv : TE) : TS := fun D σ H => tv σ H fun v H1 => td σ H1 fun x H2 => ty σ H2 fun y H3 => ∃ a d k ks, x = .ref d ∧ y = .ref a ∧ NK2 K H3 k a ∧ NDict P w K H3 d ks ∧ k ∉ ks ∧ ks.length < sizeLine ∧
  ∀ H4, NDict P w K H4 d (ks ++ [k]) → (∀ b, b ≠ d → H4 b = H3 b) → D.nx σ H4
theorem sqt_upd {K : PySem.W.Frag} {H : Hp} {a d : Addr} {vs : List V} {o u : HO} (e : H d = some u) (hu : ∀ zs, u ≠ .tup zs) (hu2 : ∀ w z, u ≠ .frz w z) (h : SqT K H a vs) : SqT K (upd H d o) a vs := by
  rcases h with h | h
  · left
    rcases h with h | ⟨ob, h⟩
    · exact .inl (by rw [upd_ne (fun q => by subst q; rw [e] at h; cases h; exact hu _ rfl)]; exact h)
    · exact .inr ⟨ob, by rw [upd_ne (fun q => by subst q; rw [e] at h; cases h; exact hu2 _ _ rfl)]; exact h⟩
  · exact .inr h
theorem nk2_mono {K : PySem.W.Frag} {H H' : Hp} {k : NestedKey} {a : Addr} (hm : ∀ a vs, SqT K H a vs → SqT K H' a vs) (n : NK2 K H k a) : NK2 K H' k a := by
  obtain ⟨ks, vs, rfl, hq, p⟩ := n
  refine ⟨ks, vs, rfl, hm _ _ hq, Paired.mapP p fun k v n => ?_⟩
  rcases n with n | ⟨b, ls, ws, e1, e2, h1, h2⟩
  · exact .inl n
  · exact .inr ⟨b, ls, ws, e1, e2, hm _ _ h1, h2⟩
theorem ps_nput {pos' : Pos} {value : Expr} {tv : TE} (hu : X.A.units + 9 < cLine) (ho : PE X o td) (hi : PE X i ty) (hv : PE X value tv) (hs : swapsWith value (some (.Subscript o i pos')) pos.line X.env = pure false := by rfl) :
    PS X (.Assign [.Subscript o i pos'] value pos) (sNPut X.prog X.w X.K td ty tv) := by
  refine ⟨fun pins s σ H D I h => ?_⟩
  refine wpAny_Assign_Subscript (thn (hv.run pins s σ H _ I h) fun r s1 ⟨v, H1, I1, rv, q1⟩ => thn (ho.run pins s1 σ H1 _ I1 q1) fun u s2 ⟨x, H2, I2, rx, q2⟩ => thn (hi.run pins s2 σ H2 _ I2 q2) fun iv s3 ⟨y, H3, I3, ry, a, d, k, ks, ex, ey, hk, ⟨xs, e, hd, ek, hx⟩, hn, hl, q3⟩ => ?_) hs
  subst ex ey ek
  obtain rfl : u = Value.ref d := rx
  obtain rfl : iv = Value.ref a := ry
  have hl2 : xs.length ≤ sizeLine := by rw [List.length_map] at hl; omega
  have hat : atKey xs k = none := by
    unfold atKey
    rw [Option.map_eq_none_iff, List.find?_eq_none]
    intro z hz hzk
    exact hn (List.mem_map.mpr ⟨z, hz, of_decide_eq_true hzk⟩)
  refine wpAny_setItem_heap (knd := nestedKind X.prog X.w) (hsz := hl2) (by show X.A.units + 1 + 8 < cLine; omega) (nk2_is I3 hk) (ndict_at I3 e hx) fun h' hm' hsb => ?_
  rw [storedH_new hat] at hm'
  obtain ⟨o', es, ep, ho', hx', hd', he', his, hnd⟩ := hm'
  have st : ∀ b zs, SqT X.K H3 b zs → SqT X.K (upd H3 d (DKN X.prog X.w d (xs ++ [(k, a, r)]))) b zs := fun b zs q => sqt_upd e (fun _ z => nomatch z) (fun _ _ z => nomatch z) q
  exact ⟨σ, _, d_write (t' := s3.toks + (nestedKind X.prog X.w).draws k) I3 (by rw [e]; exact True.intro) hsb ⟨o', ho'⟩ (dkn_ok (xs := xs ++ [(k, a, r)]) ⟨o', es, ep, ho', hx', hd', he', hnd⟩),
    q3 _ ⟨xs ++ [(k, a, r)], upd_same, hd, by rw [List.map_append]; rfl, fun z hz => by
      rcases List.mem_append.mp hz with hz | hz
      · exact nk2_mono st (hx z hz)
      · have : z = (k, a, r) := by simpa using hz
        subst this
        exact nk2_mono st hk⟩ fun b hb => upd_ne hb⟩
end
end L2.My
end
section
set_option Elab.async false
set_option linter.all false
set_option autoImplicit false
set_option maxRecDepth 100000
set_option maxHeartbeats 4000000
/-! defs whose first statement is super().__init__(..), as promises -/
namespace L2.My
open PySem PySem.Spec PyProof.Rows
section
variable {P : Program} {w : World} {K : PySem.W.Frag} {mg : Str → Option Value} {base : Heap} {k j : Nat} {f C D g : Addr} {qual : Str} {st : Stmt} {N ps : List Str} {sp spB : Sp} {e : Expr} {es : List Expr} {rest : List Stmt} {p0 p1 ap cp ep : Pos} {self : Str} {sargs : List Arg} {pself : Pos} {selfAnn : Option Expr} {pl : Env → Sem Bool}
theorem cr_any_e {outer : List Env} {H : Hp} {s : Shared} {Q : VK} {E E' : XK} {r : Result} {s' : Shared} (h : CR CXn outer P w H s Q E r s') : CR CXn outer P w H s Q E' r s' := by
  cases r with
  | ok fl => cases fl <;> exact h
  | error e => exact False.elim h
/-- what such a body asks behind the binding -/
def SupRun (P : Program) (w : World) (K : PySem.W.Frag) (mg : Str → Option Value) (base : Heap) (k : Nat) (N : List Str) (qual : Str) (st : Stmt) (f C : Addr) (spB : Sp) (es : List Expr) (rest : List Stmt) (A : Around) (outer : List Env) (xs : Addr) (vs : List V) (H : Hp) (Q : VK) : Prop :=
  ∀ (s2 : Shared) (cda cc : Addr), Room k (A.deeper (PySem.W.ksEnv qual (defScope st) s2.heap.objs.size f (.ref cda) cc)) →
    (start N vs)[0]? = some (some (.ref xs)) ∧ ∃ dx fs, H xs = some (.ins C dx fs) ∧ ∃ t u, PA (cxS P w K mg base N qual (defScope st) f (.ref cda) cc A outer s2 H) es t ∧ PSs (cxS P w K mg base N qual (defScope st) f (.ref cda) cc A outer s2 H) rest u ∧
      t (start N vs) H fun ws H3 => spB (.ref xs :: ws) H3 (fun _ H4 => u { nx := fun _ H' => Q .non H', rt := Q } (start N vs) H4) En
theorem mkSup (F : ∃ fd, FunS K "__init__" qual st f D fd) (S : SScope N ps (defScope st)) (U : Sup K C D "__init__" g) (B : FnR P w K mg base CXn j g spB) (hjk : j ≤ k)
    (hbody : defBody st = .Expr (.Call (.Attribute (.Call (.Name "super" p0) [] [] p1) "__init__" ap) (e :: es) [] cp) ep :: rest)
    (hself : (defArgs st).posonlyargs = []) (hself2 : (defArgs st).args = ⟨self, selfAnn, pself⟩ :: sargs) (h0 : N[0]? = some self) (hs0 : (defScope st).names.lookup self = some .local)
    (hmain : P.main.file = "/claim/cut.py") (htop : (P.main.scope.names.lookup ("super" : Str)).isSome = false) (hsup : mg "super" = none)
    (hb : ∀ (kV doc pm : Value) (an : Option Addr) (cdv ct : Value) (cc : Addr) (us : List Value), us.length = ps.length → bindArgs (PySem.W.ksFn "__init__" qual (defArgs st) (defBody st) (defScope st) .none kV doc pm an cdv ct cc) ⟨us, []⟩ = pure (ps.zip us))
    (len : ∀ vs H Q E, sp vs H Q E → vs.length = ps.length)
    (hrun : ∀ (A : Around) (outer : List Env) (H : Hp) (vs : List V) (Q : VK) (E : XK), sp vs H Q E → ∃ xs, SupRun P w K mg base k N qual st f C spB (e :: es) rest A outer xs vs H Q)
    (hev : ∀ env : Env, eval (.Call (.Attribute (.Call (.Name "super" p0) [] [] p1) "__init__" ap) (e :: es) [] cp) env = (do
      let ov ← attributeBase (.Call (.Name "super" p0) [] [] p1) "__init__" env (eval (.Call (.Name "super" p0) [] [] p1) env)
      standAt ap.atName
      let (f, first) ← holding [ov] (getMethod ov "__init__" (pl env))
      callWith cp f first (backTo cp (starEach (e :: es) env)) []))
    (hsw : ∀ env : Env, swapsWith (.Call (.Attribute (.Call (.Name "super" p0) [] [] p1) "__init__" ap) (e :: es) [] cp) none ep.line env = pure false)
    (hst : ∀ env : Env, starEach (e :: es) env = (false, eval e env) :: starEach es env) (hpl : ∀ env : Env, (backTo cp (starEach es env)).any (·.1) = false) : FnR P w K mg base CXn (k + 1) f sp := by
  intro A outer s H us vs Q E hr e0 r hsp
  obtain ⟨fd, F⟩ := F
  obtain ⟨xs, hx⟩ := hrun A outer H vs Q E hsp
  have hl := len _ _ _ _ hsp
  refine codeAny_mono (run_super (G := fun vs' H' => vs' = vs ∧ H' = H) (xs := xs) (C := C) (dx := 0) F S U B hjk hbody hself hself2 h0 hs0 hmain htop hsup hr e0 ?_ ?_ hev hsw hst hpl) fun r s' hq => cr_any_e hq
  · obtain ⟨oc, od, kV, doc, pm, an, cda, ct, osl, cc, cl, cld, csl, cvs, ccl, cdd, ccs, file, tf, rfl, _⟩ := F.ex
    intro A' Ex Q' h
    rw [hb kV doc pm an (.ref cda) ct cc us (by rw [← r.length]; exact hl)]
    exact wpAny_pure (h s H vs us e0 Un.refl rfl (fun _ _ z => z) r hl ⟨rfl, rfl⟩)
  · rintro s2 H2 vs' cda cc ⟨rfl, rfl⟩ hr'
    exact hx s2 cda cc hr'
/-- def __init__(self, *rows) -/
theorem mkSupStar {p1n pvn : Str} (F : ∃ fd, FunS K "__init__" qual st f D fd) (S : SScope N [p1n, pvn] (defScope st)) (U : Sup K C D "__init__" g) (B : FnR P w K mg base CXn j g spB) (hjk : j ≤ k)
    (hbody : defBody st = .Expr (.Call (.Attribute (.Call (.Name "super" p0) [] [] p1) "__init__" ap) (e :: es) [] cp) ep :: rest)
    (hself : (defArgs st).posonlyargs = []) (hself2 : (defArgs st).args = ⟨self, selfAnn, pself⟩ :: sargs) (h0 : N[0]? = some self) (hs0 : (defScope st).names.lookup self = some .local)
    (hmain : P.main.file = "/claim/cut.py") (htop : (P.main.scope.names.lookup ("super" : Str)).isSome = false) (hsup : mg "super" = none)
    (hb : ∀ (kV doc pm : Value) (an : Option Addr) (cdv ct : Value) (cc : Addr) (a : Value) (rest : List Value), bindArgs (PySem.W.ksFn "__init__" qual (defArgs st) (defBody st) (defScope st) .none kV doc pm an cdv ct cc) ⟨a :: rest, []⟩ = (newTuple rest >>= fun t => pure [(p1n, a), (pvn, t)]))
    (hrun : ∀ (A : Around) (outer : List Env) (H : Hp) (vs : List V) (Q : VK) (E : XK), sp vs H Q E → ∃ xs, SupRun P w K mg base k N qual st f C spB (e :: es) rest A outer xs vs H Q)
    (hev : ∀ env : Env, eval (.Call (.Attribute (.Call (.Name "super" p0) [] [] p1) "__init__" ap) (e :: es) [] cp) env = (do
      let ov ← attributeBase (.Call (.Name "super" p0) [] [] p1) "__init__" env (eval (.Call (.Name "super" p0) [] [] p1) env)
      standAt ap.atName
      let (f, first) ← holding [ov] (getMethod ov "__init__" (pl env))
      callWith cp f first (backTo cp (starEach (e :: es) env)) []))
    (hsw : ∀ env : Env, swapsWith (.Call (.Attribute (.Call (.Name "super" p0) [] [] p1) "__init__" ap) (e :: es) [] cp) none ep.line env = pure false)
    (hst : ∀ env : Env, starEach (e :: es) env = (false, eval e env) :: starEach es env) (hpl : ∀ env : Env, (backTo cp (starEach es env)).any (·.1) = false) :
    FnR P w K mg base CXn (k + 1) f (fun vs H Q E => ∃ v rest, vs = v :: rest ∧ rest.length ≤ sizeLine ∧ ∀ p, H p = none → sp [v, .ref p] (upd H p (.tup rest)) Q E) := by
  intro A outer s H us vs Q E hr e0 r hsp
  obtain ⟨fd, F⟩ := F
  obtain ⟨v, rst, rfl, hz, hq⟩ := hsp
  cases r with
  | @cons _ u1 _ ur r1 rr =>
  have hn : H s.heap.objs.size = Option.none := e0.hok.fresh (Nat.le_refl _)
  obtain ⟨xs, hx⟩ := hrun A outer _ _ Q E (hq _ hn)
  have hl2 : ur.length ≤ sizeLine := by rw [← rr.length]; exact hz
  refine codeAny_mono (run_super (G := fun vs' H' => vs' = [v, V.ref s.heap.objs.size] ∧ H' = upd H s.heap.objs.size (.tup rst)) (xs := xs) (C := C) (dx := 0) F S U B hjk hbody hself hself2 h0 hs0 hmain htop hsup hr e0 ?_ ?_ hev hsw hst hpl) fun r s' hq => cr_any_e hq
  · obtain ⟨oc, od, kV, doc, pm, an, cda, ct, osl, cc, cl, cld, csl, cvs, ccl, cdd, ccs, file, tf, rfl, _⟩ := F.ex
    intro A' Ex Q' h
    rw [hb kV doc pm an (.ref cda) ct cc u1 ur]
    refine wpAny_bind (wpAny_newTuple (wpAny_pure ?_) hl2)
    have new : ObjOk P w (upd H s.heap.objs.size (.tup rst)) (s.heap.push ({ cls := .type "tuple", data := .seq ur.toArray } : Obj)) s.heap.objs.size (.tup rst) := ⟨hz, ur, rr, ⟨_, Heap.get?_push_size _ rfl, rfl, _, rfl⟩⟩
    have un := StX.un_laid (fs := frs outer) (s := s) (o := ({ cls := .type "tuple", data := .seq ur.toArray } : Obj)) (u := .tup rst) hn
    exact h _ _ [v, V.ref s.heap.objs.size] [u1, Value.ref s.heap.objs.size] (StX.env0_laid e0 new) un rfl (fun e s' z => z) (.cons r1 (.cons rfl .nil)) rfl ⟨rfl, rfl⟩
  · rintro s2 H2 vs' cda cc ⟨rfl, rfl⟩ hr'
    exact hx s2 cda cc hr'
end
end L2.My
end
section
set_option Elab.async false
set_option linter.all false
set_option autoImplicit false
set_option maxRecDepth 100000
set_option maxHeartbeats 400000
/-! the plain law: deeds, rows, ends as data and as texts -/
namespace L2.My
open PySem PySem.Spec PyProof.Rows SX
/-! ### texts -/
theorem s_assoc (a b c : Str) : a ++ b ++ c = a ++ (b ++ c) := by
  rw [← S_tl a, ← S_tl b, ← S_tl c, S_cat, S_cat, S_cat, S_cat, List.append_assoc]
theorem s_nil (a : Str) : ("" : Str) ++ a = a := by
  rw [← S_tl a, show ("" : Str) = S [] from by decide, S_cat]; rfl
theorem s_nil' (a : Str) : a ++ ("" : Str) = a := by
  rw [← S_tl a, show ("" : Str) = S [] from by decide, S_cat, List.append_nil]
def flat : List Str → Str
  | [] => ""
  | x :: r => " " ++ (x ++ flat r)
theorem flat_app : ∀ a b : List Str, flat (a ++ b) = flat a ++ flat b
  | [], b => (s_nil _).symm
  | x :: r, b => by
    show " " ++ (x ++ flat (r ++ b)) = " " ++ (x ++ flat r) ++ flat b
    rw [flat_app r b, s_assoc, s_assoc]
theorem join_code (z : Str) (l : List Str) : Txt.join z l = S (TL.joinL z.cps.toList (l.map fun x => x.cps.toList)) := by
  have e1 : l = (l.map fun x => x.cps.toList).map S := by
    rw [List.map_map]
    conv => lhs; rw [← List.map_id l]
    exact List.map_congr_left fun x _ => (S_tl x).symm
  conv => lhs; rw [e1, ← S_tl z]
  exact join_S _ _
theorem join_nil (z : Str) : Txt.join z [] = "" := by
  rw [join_code]
  show S [] = _
  decide
theorem join_one (z x : Str) : Txt.join z [x] = x := by
  rw [join_code]
  exact S_tl x
theorem join_two (z x y : Str) (r : List Str) : Txt.join z (x :: y :: r) = x ++ (z ++ Txt.join z (y :: r)) := by
  rw [join_code, join_code z (y :: r), ← S_tl x, ← S_tl z, S_cat, S_cat]; rfl
theorem join_flat : ∀ (x : Str) (xs : List Str), Txt.join " " (x :: xs) = x ++ flat xs
  | x, [] => by
    rw [join_one, flat, s_nil']
  | x, y :: r => by
    rw [join_two, join_flat y r, flat]
def NoSp (x : Str) : Prop := 32 ∉ x.cps.toList
instance (x : Str) : Decidable (NoSp x) := by unfold NoSp; infer_instance
theorem split_join {ws : List Str} (h0 : ws ≠ []) (h : ∀ x ∈ ws, NoSp x) : Txt.split (Txt.join " " ws) " " = ws := by
  have e1 : ws = (ws.map fun x => x.cps.toList).map S := by
    rw [List.map_map]
    conv => lhs; rw [← List.map_id ws]
    exact List.map_congr_left fun x _ => (S_tl x).symm
  have e2 : (" " : Str) = S [32] := by decide
  have e3 : (" " : Str).cps.toList = [32] := by decide
  rw [join_code, e3, e2, split_S (by decide) (by decide), spl_join (by simpa using h0) (fun p hp => by
    obtain ⟨x, hx, rfl⟩ := List.mem_map.mp hp
    exact h x hx), ← e1]
def num (n : Nat) : Str := Str.ofString (toString ((n : Nat) : Int))
theorem num_S' (n : Nat) : num n = S (TL.numL n) := num_S n
theorem num_inj {m n : Nat} (h : num m = num n) : m = n := by
  rw [num_S', num_S'] at h
  exact TL.numL_inj (S_inj h)
theorem num_eq {m n : Nat} : num m = num n ↔ m = n := ⟨num_inj, fun h => by rw [h]⟩
theorem num_tl (n : Nat) : (num n).cps.toList = TL.numL n := by rw [num_S']
theorem num_nosp (n : Nat) : NoSp (num n) := by
  unfold NoSp
  rw [num_tl]
  exact TL.numL_free (.inl (by decide))
/-- a text with a sign that is no digit is no number -/
theorem num_ne {x : Str} {n : Nat} (c : Nat) (hc : c ∈ x.cps.toList) (h : c < 48 ∨ 57 < c) : num n ≠ x := fun e => by
  rw [← e, num_tl] at hc
  exact TL.numL_free h hc
theorem num_len {n : Nat} (h : n < 1000) : (num n).length ≤ 3 := by
  rw [num_S', S_len]
  exact TL.numL_len (by decide) h
theorem num_int {n : Nat} (h : n < 1000) : PySem.intText? (num n) = some (n : Int) := by
  have h3 : (TL.numL n).length ≤ 3 := TL.numL_len (by decide) h
  exact TL.int_num (by omega)
/-! ### deeds -/
inductive Kd where
  | take | put | out | clear | send | move | answer
  deriving DecidableEq
def Kd.verb : Kd → Str
  | .take => "take" | .put => "put" | .out => "out" | .clear => "clear" | .send => "send" | .move => "move" | .answer => "answer"
def Kd.sides : Kd → List Str
  | .take => ["sender"] | .send => ["sender"]
  | .put => ["receiver"] | .out => ["receiver"] | .answer => ["receiver"]
  | .move => ["sender", "receiver"] | .clear => ["sender", "receiver"]
inductive D where
  | take (b : Nat) | put (b : Nat) | out (b : Nat) | clear (b : Nat) | send (b n : Nat) | move (b t : Nat) | answer (n : Nat)
  deriving DecidableEq
def D.kd : D → Kd
  | .take _ => .take | .put _ => .put | .out _ => .out | .clear _ => .clear | .send _ _ => .send | .move _ _ => .move | .answer _ => .answer
def D.ok : D → Prop
  | .take b => b ≤ 2 | .put b => b ≤ 2 | .out b => b ≤ 2 | .clear b => b ≤ 2
  | .send b n => b ≤ 2 ∧ n ≤ 5
  | .move b t => b ≤ 2 ∧ t ≤ 2 ∧ t ≠ b
  | .answer n => n ≤ 5
def D.ws : D → List Str
  | .take b => ["take", num b] | .put b => ["put", num b] | .out b => ["out", num b] | .clear b => ["clear", num b]
  | .send b n => ["send", num b, num n] | .move b t => ["move", num b, num t] | .answer n => ["answer", num n]
def D.txt (d : D) : Str := Txt.join " " d.ws
/-- fit for a side -/
def D.fits (d : D) (s : Str) : Bool := decide (s ∈ d.kd.sides)
def D.nums : D → List Nat
  | .send _ n => [n] | .answer n => [n] | _ => []
/-- numbers turned by a table -/
def D.ren (f : Nat → Nat) : D → D
  | .send b n => .send b (f n) | .answer n => .answer (f n) | d => d
theorem D.ws_nosp {d : D} : ∀ x ∈ d.ws, NoSp x := by
  cases d <;> intro x hx <;> simp only [D.ws, List.mem_cons, List.not_mem_nil, or_false] at hx <;> rcases hx with rfl | hx <;> first | decide | (subst hx; exact num_nosp _) | (rcases hx with rfl | rfl <;> exact num_nosp _)
theorem D.ws_cons (d : D) : ∃ r, d.ws = d.kd.verb :: r ∧ r ≠ [] := by
  cases d <;> exact ⟨_, rfl, List.cons_ne_nil _ _⟩
/-! ### rows -/
inductive Hr where
  | non | oth | num (n : Nat)
  deriving DecidableEq
def Hr.ok : Hr → Prop
  | .num n => n ≤ 5
  | _ => True
def Hr.ws : Hr → List Str
  | .non => [] | .oth => ["hear", "other"] | .num n => ["hear", L2.My.num n]
def Hr.v : Hr → V
  | .non => .non | .oth => .str "other" | .num n => .int n
def Hr.rank : Hr → Int
  | .non => -1 | .oth => 6 | .num n => n
def Hr.nums : Hr → List Nat
  | .num n => [n] | _ => []
def Hr.ren (f : Nat → Nat) : Hr → Hr
  | .num n => .num (f n) | h => h
structure R where
  st : Nat
  hr : Hr
  em : List Nat
  fu : List Nat
  ds : List D
  th : Nat
def boxW (x : Str) (l : List Nat) : List Str := if l = [] then [] else x :: l.map num
/-- lists of words with a word between -/
def inter (c : Str) : List (List Str) → List Str
  | [] => []
  | [x] => x
  | x :: y :: r => x ++ c :: inter c (y :: r)
def dsW (ds : List D) : List Str := if ds = [] then ["-"] else inter "," (ds.map D.ws)
def R.ws (r : R) : List Str := num r.st :: (r.hr.ws ++ (boxW "empty" r.em ++ (boxW "full" r.fu ++ ((":" : Str) :: (dsW r.ds ++ [(">" : Str), num r.th])))))
def R.txt (r : R) : Str := Txt.join " " r.ws
def R.fits (r : R) (s : Str) : Bool := r.ds.all fun d => d.fits s
def asc (l : List Nat) : Prop := l.Pairwise (· < ·)
structure R.ok (r : R) : Prop where
  st : r.st ≤ 23
  hr : r.hr.ok
  em : ∀ b ∈ r.em, b ≤ 2
  fu : ∀ b ∈ r.fu, b ≤ 2
  ea : asc r.em
  fa : asc r.fu
  ap : ∀ b ∈ r.fu, b ∉ r.em
  ds : ∀ d ∈ r.ds, d.ok
  dl : r.ds.length ≤ 8
  tk : (r.ds.filter fun d => decide (d.kd = .take)).length ≤ 1
  pt : r.hr = .non → ∀ d ∈ r.ds, d.kd ≠ .put
  th : r.th ≤ 23
def R.ren (f : Nat → Nat) (r : R) : R := { r with hr := r.hr.ren f, ds := r.ds.map (D.ren f) }
def R.nums (r : R) : List Nat := r.hr.nums ++ r.ds.flatMap D.nums
theorem inter_two (c : Str) (x y : List Str) (r : List (List Str)) : inter c (x :: y :: r) = x ++ c :: inter c (y :: r) := rfl
theorem flat_cons (x : Str) (r : List Str) : flat (x :: r) = " " ++ (x ++ flat r) := rfl
theorem inter_flat (c : Str) : ∀ {l : List (List Str)}, l ≠ [] → (∀ x ∈ l, x ≠ []) → Txt.join " " (inter c l) = Txt.join (" " ++ (c ++ " ")) (l.map (Txt.join " "))
  | [], h, _ => absurd rfl h
  | [x], _, _ => by
    rw [List.map_cons, List.map_nil, join_one]; rfl
  | x :: y :: r, _, hx => by
    have ih := inter_flat c (l := y :: r) (List.cons_ne_nil _ _) fun z hz => hx z (List.mem_cons_of_mem _ hz)
    have hne : inter c (y :: r) ≠ [] := by
      cases r with
      | nil => exact hx y (List.mem_cons_of_mem _ List.mem_cons_self)
      | cons z r =>
        rw [inter_two]
        simp
    rw [inter_two, List.map_cons, List.map_cons, join_two, ← List.map_cons, ← ih]
    generalize inter c (y :: r) = q at hne
    obtain ⟨b, bs, rfl⟩ := List.exists_cons_of_ne_nil hne
    obtain ⟨a, as, rfl⟩ := List.exists_cons_of_ne_nil (hx x List.mem_cons_self)
    rw [List.cons_append, join_flat, join_flat, join_flat, flat_app, flat_cons, flat_cons]
    simp only [s_assoc]
def dsT (ds : List D) : Str := Txt.join " " (dsW ds)
theorem dsT_eq {ds : List D} (h : ds ≠ []) : dsT ds = Txt.join " , " (ds.map D.txt) := by
  unfold dsT dsW
  rw [if_neg h, inter_flat _ (by simpa using h) (fun x hx => by
    obtain ⟨d, _, rfl⟩ := List.mem_map.mp hx
    obtain ⟨r, e, _⟩ := d.ws_cons
    rw [e]; exact List.cons_ne_nil _ _), List.map_map]
  rfl
theorem inter_ne (c : Str) {l : List (List Str)} (h : l ≠ []) (hx : ∀ x ∈ l, x ≠ []) : inter c l ≠ [] := by
  cases l with
  | nil => exact absurd rfl h
  | cons y r =>
    cases r with
    | nil => exact hx y (by simp)
    | cons z r =>
      show y ++ c :: _ ≠ []
      simp
theorem dsW_ne (ds : List D) : dsW ds ≠ [] := by
  unfold dsW
  split
  · exact List.cons_ne_nil _ _
  · rename_i h
    exact inter_ne _ (by simpa using h) fun x hx => by
      obtain ⟨d, _, rfl⟩ := List.mem_map.mp hx
      obtain ⟨r, e, _⟩ := d.ws_cons
      rw [e]; exact List.cons_ne_nil _ _
theorem mem_inter {c x : Str} : ∀ {l : List (List Str)}, x ∈ inter c l → x = c ∨ ∃ y ∈ l, x ∈ y
  | [], h => by simp [inter] at h
  | [y], h => .inr ⟨y, by simp, h⟩
  | y :: z :: r, h => by
    have h : x ∈ y ++ c :: inter c (z :: r) := h
    rcases List.mem_append.mp h with h | h
    · exact .inr ⟨y, by simp, h⟩
    · rcases List.mem_cons.mp h with h | h
      · exact .inl h
      · rcases mem_inter h with h | ⟨w, hw, hx⟩
        · exact .inl h
        · exact .inr ⟨w, List.mem_cons_of_mem _ hw, hx⟩
theorem dsW_nosp {ds : List D} : ∀ x ∈ dsW ds, NoSp x := fun x hx => by
  unfold dsW at hx
  split at hx
  · simp only [List.mem_cons, List.not_mem_nil, or_false] at hx; subst hx; decide
  · rcases mem_inter hx with rfl | ⟨y, hy, hx⟩
    · decide
    · obtain ⟨d, _, rfl⟩ := List.mem_map.mp hy
      exact D.ws_nosp x hx
theorem boxW_nosp {z : Str} (hz : NoSp z) {l : List Nat} : ∀ x ∈ boxW z l, NoSp x := fun x hx => by
  unfold boxW at hx
  split at hx
  · cases hx
  · rcases List.mem_cons.mp hx with rfl | hx
    · exact hz
    · obtain ⟨n, _, rfl⟩ := List.mem_map.mp hx
      exact num_nosp n
theorem R.ws_nosp {r : R} : ∀ x ∈ r.ws, NoSp x := fun x hx => by
  unfold R.ws at hx
  rcases List.mem_cons.mp hx with rfl | hx
  · exact num_nosp _
  rcases List.mem_append.mp hx with hx | hx
  · cases hh : r.hr <;> rw [hh] at hx <;> simp only [Hr.ws, List.mem_cons, List.not_mem_nil, or_false] at hx
    · rcases hx with rfl | rfl <;> decide
    · rcases hx with rfl | rfl
      · decide
      · exact num_nosp _
  rcases List.mem_append.mp hx with hx | hx
  · exact boxW_nosp (by decide) x hx
  rcases List.mem_append.mp hx with hx | hx
  · exact boxW_nosp (by decide) x hx
  rcases List.mem_cons.mp hx with rfl | hx
  · decide
  rcases List.mem_append.mp hx with hx | hx
  · exact dsW_nosp x hx
  · simp only [List.mem_cons, List.not_mem_nil, or_false] at hx
    rcases hx with rfl | rfl
    · decide
    · exact num_nosp _
def boxT (z : Str) (l : List Nat) : Str := flat (boxW z l)
def hrT (h : Hr) : Str := flat h.ws
theorem dsW_flat (ds : List D) : flat (dsW ds) = " " ++ dsT ds := by
  obtain ⟨a, as, e⟩ := List.exists_cons_of_ne_nil (dsW_ne ds)
  unfold dsT
  rw [e, join_flat, flat_cons]
/-- the row's text, part by part -/
theorem R.txt_eq (r : R) : r.txt = num r.st ++ (hrT r.hr ++ (boxT "empty" r.em ++ (boxT "full" r.fu ++ (" : " ++ (dsT r.ds ++ (" > " ++ num r.th)))))) := by
  have e1 : (" : " : Str) = " " ++ (":" ++ " ") := by decide
  have e2 : (" > " : Str) = " " ++ (">" ++ " ") := by decide
  unfold R.txt R.ws hrT boxT
  rw [join_flat, flat_app, flat_app, flat_app, flat_cons, flat_app, dsW_flat, flat_cons, flat_cons, flat, s_nil', e1, e2]
  simp only [s_assoc]
/-! ### ends -/
def endW (rs : List R) : List Str := if rs = [] then ["-"] else inter ";" (rs.map R.ws)
def endT (rs : List R) : Str := Txt.join " " (endW rs)
theorem endT_eq {rs : List R} (h : rs ≠ []) : endT rs = Txt.join " ; " (rs.map R.txt) := by
  unfold endT endW
  rw [if_neg h, inter_flat _ (by simpa using h) (fun x hx => by
    obtain ⟨d, _, rfl⟩ := List.mem_map.mp hx
    exact List.cons_ne_nil _ _), List.map_map]
  rfl
theorem endT_nil : endT [] = "-" := by
  unfold endT endW
  rw [if_pos rfl, join_one]
theorem endW_nosp {rs : List R} : ∀ x ∈ endW rs, NoSp x := fun x hx => by
  unfold endW at hx
  split at hx
  · simp only [List.mem_cons, List.not_mem_nil, or_false] at hx; subst hx; decide
  · rcases mem_inter hx with rfl | ⟨y, hy, hx⟩
    · decide
    · obtain ⟨d, _, rfl⟩ := List.mem_map.mp hy
      exact R.ws_nosp x hx
theorem endW_ne (rs : List R) : endW rs ≠ [] := by
  unfold endW
  split
  · exact List.cons_ne_nil _ _
  · rename_i h
    exact inter_ne _ (by simpa using h) fun x hx => by
      obtain ⟨d, _, rfl⟩ := List.mem_map.mp hx
      exact List.cons_ne_nil _ _
theorem split_end (rs : List R) : Txt.split (endT rs) " " = endW rs := split_join (endW_ne rs) endW_nosp
theorem split_row (r : R) : Txt.split r.txt " " = r.ws := split_join (List.cons_ne_nil _ _) R.ws_nosp
end L2.My
end
section
set_option Elab.async false
set_option linter.all false
set_option autoImplicit false
set_option maxRecDepth 100000
set_option maxHeartbeats 400000
/-! the plain law: keys of rows -/
namespace L2.My
open PySem PySem.Spec PyProof.Rows SX
def keyD (r : R) : PyData := .tuple [.int r.st, .int r.hr.rank, .tuple (r.em.map fun n : Nat => .int (n : Int)), .tuple (r.fu.map fun n : Nat => .int (n : Int)), .str (dsT r.ds), .int r.th]
def keyEq (r q : R) : Bool := PyData.eqv (keyD r) (keyD q)
def keyN (r : R) : NestedKey := .tup [.num r.st, .num r.hr.rank, .tup (r.em.map fun n : Nat => .num (n : Int)), .tup (r.fu.map fun n : Nat => .num (n : Int)), .text (dsT r.ds), .num r.th]
theorem rank_inj {h g : Hr} (h1 : h.ok) (h2 : g.ok) (e : h.rank = g.rank) : h = g := by
  cases h <;> cases g <;> simp only [Hr.rank, Hr.ok] at * <;> first | rfl | omega | (congr 1; omega)
theorem ints_inj : ∀ {l m : List Nat}, (l.map fun n : Nat => (NestedKey.num (n : Int))) = (m.map fun n : Nat => (NestedKey.num (n : Int))) → l = m
  | [], [], _ => rfl
  | [], _ :: _, h => by cases h
  | _ :: _, [], h => by cases h
  | a :: l, b :: m, h => by
    rw [List.map_cons, List.map_cons] at h
    injection h with h1 h2
    injection h1 with h1
    rw [ints_inj h2, Int.ofNat.inj h1]
theorem eqvAll_ints : ∀ {l m : List Nat}, PyData.eqvAll (l.map fun n : Nat => .int (n : Int)) (m.map fun n : Nat => .int (n : Int)) = true → l = m
  | [], [], _ => rfl
  | [], _ :: _, h => by cases h
  | _ :: _, [], h => by cases h
  | a :: l, b :: m, h => by
    rw [List.map_cons, List.map_cons, PyData.eqvAll, Bool.and_eq_true] at h
    have h1 : ((a : Int) == (b : Int)) = true := h.1
    rw [eqvAll_ints h.2, Int.ofNat.inj (eq_of_beq h1)]
theorem txt_of {r q : R} (e1 : r.st = q.st) (e2 : r.hr = q.hr) (e3 : r.em = q.em) (e4 : r.fu = q.fu) (e5 : dsT r.ds = dsT q.ds) (e6 : r.th = q.th) : r.txt = q.txt := by
  rw [R.txt_eq, R.txt_eq, e1, e2, e3, e4, e5, e6]
theorem keyN_txt {r q : R} (h1 : r.ok) (h2 : q.ok) (e : keyN r = keyN q) : r.txt = q.txt := by
  unfold keyN at e
  simp only [NestedKey.tup.injEq, List.cons.injEq, NestedKey.num.injEq, NestedKey.text.injEq, and_true] at e
  obtain ⟨e1, e2, e3, e4, e5, e6⟩ := e
  exact txt_of (Int.ofNat.inj e1) (rank_inj h1.hr h2.hr e2) (ints_inj e3) (ints_inj e4) e5 (Int.ofNat.inj e6)
theorem keyEq_txt {r q : R} (h1 : r.ok) (h2 : q.ok) (e : keyEq r q = true) : r.txt = q.txt := by
  unfold keyEq keyD at e
  simp only [PyData.eqv, PyData.eqvAll, Bool.and_eq_true, Bool.and_true, beq_iff_eq] at e
  obtain ⟨e1, e2, e3, e4, e5, e6⟩ := e
  exact txt_of (Int.ofNat.inj e1) (rank_inj h1.hr h2.hr e2) (eqvAll_ints e3) (eqvAll_ints e4) e5 (Int.ofNat.inj e6)
theorem canLay_ints : ∀ l : List Nat, PyData.canLayAll0 (l.map fun n : Nat => .int (n : Int)) = true
  | [] => rfl
  | a :: l => by
    rw [List.map_cons, PyData.canLayAll0, canLay_ints l]; rfl
theorem depth_ints : ∀ l : List Nat, PyData.depthAll (l.map fun n : Nat => .int (n : Int)) = 0
  | [] => rfl
  | a :: l => by
    rw [List.map_cons, PyData.depthAll, depth_ints l]; rfl
/-! ### the signs of the texts -/
def Sok (x : Str) : Prop := ∀ c ∈ x.cps.toList, c < 0x110000
theorem sok_app {a b : Str} (ha : Sok a) (hb : Sok b) : Sok (a ++ b) := fun c hc => by
  rw [← S_tl a, ← S_tl b, S_cat] at hc
  rcases List.mem_append.mp hc with h | h
  · exact ha c h
  · exact hb c h
theorem sok_num (n : Nat) : Sok (num n) := fun c hc => by
  rw [num_tl] at hc
  have := TL.numL_digits n c hc
  omega
theorem sok_flat : ∀ {l : List Str}, (∀ x ∈ l, Sok x) → Sok (flat l)
  | [], _ => by
    intro c hc
    rw [flat] at hc
    exact absurd hc (by rw [show (("" : Str).cps.toList) = [] from by decide]; simp)
  | x :: r, h => by
    rw [flat_cons]
    have e : (" " : Str).cps.toList = [32] := by decide
    exact sok_app (fun c hc => by rw [e] at hc; have := List.mem_singleton.mp hc; omega) (sok_app (h x List.mem_cons_self) (sok_flat fun y hy => h y (List.mem_cons_of_mem _ hy)))
theorem sok_lit {x : Str} (h : x.cps.toList.all (fun c => decide (c < 0x110000)) = true) : Sok x := fun c hc => of_decide_eq_true (List.all_eq_true.mp h c hc)
theorem sok_ws {d : D} : ∀ x ∈ d.ws, Sok x := by
  cases d <;> intro x hx <;> simp only [D.ws, List.mem_cons, List.not_mem_nil, or_false] at hx <;> rcases hx with rfl | hx <;> first | exact sok_lit (by decide) | (subst hx; exact sok_num _) | (rcases hx with rfl | rfl <;> exact sok_num _)
theorem sok_dsW {ds : List D} : ∀ x ∈ dsW ds, Sok x := fun x hx => by
  unfold dsW at hx
  split at hx
  · simp only [List.mem_cons, List.not_mem_nil, or_false] at hx; subst hx; exact sok_lit (by decide)
  · rcases mem_inter hx with rfl | ⟨y, hy, hx⟩
    · exact sok_lit (by decide)
    · obtain ⟨d, _, rfl⟩ := List.mem_map.mp hy
      exact sok_ws x hx
theorem sok_dsT (ds : List D) : Sok (dsT ds) := by
  unfold dsT
  obtain ⟨a, as, e⟩ := List.exists_cons_of_ne_nil (dsW_ne ds)
  have h := sok_dsW (ds := ds)
  rw [e] at h ⊢
  rw [join_flat]
  exact sok_app (h a List.mem_cons_self) (sok_flat fun y hy => h y (List.mem_cons_of_mem _ hy))
theorem keyD_can (r : R) : PyData.canLay0 (keyD r) = true := by
  have h : PyData.strOk (dsT r.ds) = true := by
    unfold PyData.strOk
    rw [← Array.all_toList]
    exact List.all_eq_true.mpr fun c hc => decide_eq_true (sok_dsT r.ds c hc)
  unfold keyD
  simp only [PyData.canLay0, PyData.canLayAll0, canLay_ints, h, Bool.and_true]
theorem keyD_shaped (r : R) : SeqAt.shaped (keyD r) = true := by
  unfold SeqAt.shaped
  rw [keyD_can, Bool.true_and]
  refine decide_eq_true ?_
  unfold keyD
  simp only [PyData.depth, PyData.depthAll, depth_ints]
  decide
theorem keyEq_self (r : R) : keyEq r r = true := SeqAt.eqv_refl _ (keyD_can r)
/-! ### sets of boxes -/
theorem asc_len : ∀ {l : List Nat} {k n : Nat}, asc l → (∀ b ∈ l, k ≤ b ∧ b < n) → l.length ≤ n - k
  | [], _, _, _, _ => Nat.zero_le _
  | a :: l, k, n, h, hb => by
    have h1 := hb a List.mem_cons_self
    have h2 := List.pairwise_cons.mp h
    have := asc_len (l := l) (k := a + 1) (n := n) h2.2 fun b hm => ⟨h2.1 b hm, (hb b (List.mem_cons_of_mem _ hm)).2⟩
    rw [List.length_cons]
    omega
theorem boxes_len {l : List Nat} (h : asc l) (hb : ∀ b ∈ l, b ≤ 2) : l.length ≤ 3 := asc_len (k := 0) (n := 3) h fun b hm => ⟨Nat.zero_le _, by have := hb b hm; omega⟩
/-- all three boxes are in a set of three -/
theorem boxes_all {l : List Nat} (h : asc l) (hb : ∀ b ∈ l, b ≤ 2) (h3 : l.length = 3) : ∀ b, b ≤ 2 → b ∈ l := by
  match l, h3 with
  | [x, y, z], _ =>
    have h1 := List.pairwise_cons.mp h
    have h2 := List.pairwise_cons.mp h1.2
    have a1 := h1.1 y (by simp)
    have a2 := h2.1 z (by simp)
    have a3 := hb z (by simp)
    have a4 := hb x (by simp)
    intro b hb
    have : b = x ∨ b = y ∨ b = z := by omega
    simpa using this
theorem em_len {r : R} (ok : r.ok) (h : r.fu ≠ []) : r.em.length ≤ 2 := by
  have h3 := boxes_len ok.ea ok.em
  by_cases e : r.em.length = 3
  · obtain ⟨b, bs, eb⟩ := List.exists_cons_of_ne_nil h
    have hm : b ∈ r.fu := by rw [eb]; exact List.mem_cons_self
    exact absurd (boxes_all ok.ea ok.em e b (ok.fu b hm)) (ok.ap b hm)
  · omega
/-! ### numbers turned -/
theorem D.ren_kd (f : Nat → Nat) (d : D) : (d.ren f).kd = d.kd := by cases d <;> rfl
theorem D.ren_fits (f : Nat → Nat) (d : D) (z : Str) : (d.ren f).fits z = d.fits z := by unfold D.fits; rw [D.ren_kd]
theorem D.ren_ok {f : Nat → Nat} {d : D} (h : d.ok) (hf : ∀ n ∈ d.nums, f n ≤ 5) : (d.ren f).ok := by
  cases d <;> first | exact h | exact ⟨h.1, hf _ (by simp [D.nums])⟩ | exact hf _ (by simp [D.nums])
theorem R.ren_ok {f : Nat → Nat} {r : R} (ok : r.ok) (hf : ∀ n ∈ r.nums, f n ≤ 5) : (r.ren f).ok := by
  refine ⟨ok.st, ?_, ok.em, ok.fu, ok.ea, ok.fa, ok.ap, fun d hd => ?_, ?_, ?_, fun hn d hd => ?_, ok.th⟩
  · show (r.hr.ren f).ok
    cases hh : r.hr with
    | non => trivial
    | oth => trivial
    | num n => exact hf n (by unfold R.nums; rw [hh]; simp [Hr.nums])
  · obtain ⟨e, he, rfl⟩ := List.mem_map.mp hd
    exact D.ren_ok (ok.ds e he) fun n hn => hf n (List.mem_append_right _ (List.mem_flatMap.mpr ⟨e, he, hn⟩))
  · show (r.ds.map (D.ren f)).length ≤ 8
    rw [List.length_map]; exact ok.dl
  · show ((r.ds.map (D.ren f)).filter fun d => decide (d.kd = .take)).length ≤ 1
    rw [List.filter_map, List.length_map]
    have e : ((fun d : D => decide (d.kd = .take)) ∘ D.ren f) = fun d : D => decide (d.kd = .take) := by
      funext d
      show decide ((d.ren f).kd = .take) = _
      rw [D.ren_kd]
    rw [e]; exact ok.tk
  · obtain ⟨e, he, rfl⟩ := List.mem_map.mp hd
    rw [D.ren_kd]
    refine ok.pt ?_ e he
    have hn : r.hr.ren f = .non := hn
    cases hh : r.hr <;> rw [hh] at hn <;> first | rfl | cases hn
theorem R.ren_fits (f : Nat → Nat) (r : R) (z : Str) : (r.ren f).fits z = r.fits z := by
  show (r.ds.map (D.ren f)).all (fun d => d.fits z) = r.ds.all fun d => d.fits z
  rw [List.all_map]
  congr 1
  funext d
  exact D.ren_fits f d z
end L2.My
end
section
set_option Elab.async false
set_option linter.all false
set_option autoImplicit false
set_option maxRecDepth 100000
set_option maxHeartbeats 2000000
/-! what stands in the heap; comprehensions by pairs -/
namespace L2.My
open PySem PySem.Spec PyProof.Rows He
/-! ### names of the module as values -/
section
variable {X : Cx} {x : Str} {pos : Pos}
theorem pe_gint {i : Int} (h : ∃ t, X.mg x = some (.int i t)) (hg : Gl X x := by rfl) (hd : (x == ("__debug__" : Str)) = false := by decide) : PE X (.Name x pos) (tC (.int i)) := by
  obtain ⟨t, h⟩ := h
  exact pe_glob hg h ⟨t, rfl⟩ hd
theorem pe_gstr {i : Str} (h : ∃ t, X.mg x = some (.str i t)) (hg : Gl X x := by rfl) (hd : (x == ("__debug__" : Str)) = false := by decide) : PE X (.Name x pos) (tC (.str i)) := by
  obtain ⟨t, h⟩ := h
  exact pe_glob hg h ⟨t, rfl⟩ hd
theorem pe_gref {a : Addr} (h : X.mg x = some (.ref a)) (hg : Gl X x := by rfl) (hd : (x == ("__debug__" : Str)) = false := by decide) : PE X (.Name x pos) (tC (.ref a)) := pe_glob hg h rfl hd
end
/-! ### keeping -/
def Solid : HO → Prop
  | .ins _ _ _ => True | .tup _ => True | .frz _ _ => True | .own _ => True
  | _ => False
def Up (H H' : Hp) : Prop := ∀ a o, H a = some o → Solid o → H' a = some o
theorem Up.refl (H : Hp) : Up H H := fun _ _ h _ => h
theorem Up.trans {H H1 H2 : Hp} (a : Up H H1) (b : Up H1 H2) : Up H H2 := fun c o h s => b c o (a c o h s) s
theorem Same.up {H H' : Hp} (s : Same H H') : Up H H' := fun a o h _ => s a o h
theorem Up.at {H : Hp} {a : Addr} {o u : HO} (h : H a = some o) (hs : ¬ Solid o) : Up H (upd H a u) := fun b p hb sp => by
  rw [upd_ne (fun q => by subst q; rw [h] at hb; cases hb; exact hs sp)]
  exact hb
theorem same_upd {H : Hp} {p : Addr} {o : HO} (h : H p = none) : Same H (upd H p o) := fun b x e => by
  rw [upd_ne (ne_of_none e h)]
  exact e
theorem Same.upd2 {H0 H : Hp} {p : Addr} {o : HO} (s : Same H0 H) (h : H0 p = none) : Same H0 (upd H p o) := fun b x e => by
  rw [upd_ne (ne_of_none e h)]
  exact s b x e
theorem Up.upd2 {H0 H : Hp} {p : Addr} {o : HO} (s : Up H0 H) (h : H0 p = none) : Up H0 (upd H p o) := fun b x e z => by
  rw [upd_ne (ne_of_none e h)]
  exact s b x e z
theorem Up.sqt {K : PySem.W.Frag} {H H' : Hp} {a : Addr} {xs : List V} (e : Up H H') (h : SqT K H a xs) : SqT K H' a xs := by
  rcases h with (h | ⟨o, h⟩) | h
  · exact .inl (.inl (e a _ h trivial))
  · exact .inl (.inr ⟨o, e a _ h trivial⟩)
  · exact .inr h
theorem Same.sqt {K : PySem.W.Frag} {H H' : Hp} {a : Addr} {xs : List V} (e : Same H H') (h : SqT K H a xs) : SqT K H' a xs := (Same.up e).sqt h
theorem Up.ins {H H' : Hp} {a C dx : Addr} {fs : List (Str × V)} (e : Up H H') (h : H a = some (.ins C dx fs)) : H' a = some (.ins C dx fs) := e a _ h trivial
/-! ### deeds -/
def cKd (K : PySem.W.Frag) : Kd → Addr
  | .take => c_Take K | .put => c_Put K | .out => c_Out K | .clear => c_Clear K | .send => c_Send K | .move => c_Move K | .answer => c_Answer K
def D.fs : D → List (Str × V)
  | .take b => putF "box" (.int b) [] | .put b => putF "box" (.int b) [] | .out b => putF "box" (.int b) [] | .clear b => putF "box" (.int b) []
  | .send b n => putF "number" (.int n) (putF "box" (.int b) [])
  | .move b t => putF "to" (.int t) (putF "box" (.int b) [])
  | .answer n => putF "number" (.int n) []
def DeedAt (K : PySem.W.Frag) (H : Hp) (v : V) (d : D) : Prop := ∃ a dx, v = .ref a ∧ H a = some (.ins (cKd K d.kd) dx d.fs)
theorem DeedAt.up {K : PySem.W.Frag} {H H' : Hp} {v : V} {d : D} (h : DeedAt K H v d) (e : Up H H') : DeedAt K H' v d := by
  obtain ⟨a, dx, h1, h2⟩ := h
  exact ⟨a, dx, h1, e.ins h2⟩
theorem Paired.up {α : Type} {F : Hp → V → α → Prop} (hF : ∀ {H H' v d}, F H v d → Up H H' → F H' v d) {H H' : Hp} {vs : List V} {ds : List α} (h : Paired (F H) vs ds) (e : Up H H') : Paired (F H') vs ds := Paired.mapP h fun _ _ q => hF q e
/-- no field is called so -/
theorem D.fs_no {d : D} {m : Str} (h1 : ¬ m = "box" := by decide) (h2 : ¬ m = "number" := by decide) (h3 : ¬ m = "to" := by decide) : d.fs.lookup m = none := by
  cases d <;> simp only [D.fs, lookup_putF, if_neg h1, if_neg h2, if_neg h3] <;> rfl
/-! ### rows -/
def rowFs (st : Int) (dl : Addr) (th : Int) (hr : V) (el fl kl : Addr) : List (Str × V) :=
  putF "key" (.ref kl) (putF "full" (.ref fl) (putF "empty" (.ref el) (putF "hear" hr (putF "then" (.int th) (putF "deeds" (.ref dl) (putF "state" (.int st) []))))))
def natVs (l : List Nat) : List V := l.map fun n : Nat => V.int (n : Int)
structure RowIn (K : PySem.W.Frag) (H : Hp) (a : Addr) (r : R) (dx dl el fl kl : Addr) (vs : List V) : Prop where
  at_ : H a = some (.ins (c_Row K) dx (rowFs r.st dl r.th r.hr.v el fl kl))
  ds : SqT K H dl vs
  dp : Paired (DeedAt K H) vs r.ds
  em : SqT K H el (natVs r.em)
  fu : SqT K H fl (natVs r.fu)
  ky : SqT K H kl [.int r.st, .int r.hr.rank, .ref el, .ref fl, .str (dsT r.ds), .int r.th]
def RowAt (K : PySem.W.Frag) (H : Hp) (v : V) (r : R) : Prop := ∃ a dx dl el fl kl vs, v = .ref a ∧ RowIn K H a r dx dl el fl kl vs
theorem RowIn.up {K : PySem.W.Frag} {H H' : Hp} {a dx dl el fl kl : Addr} {r : R} {vs : List V} (h : RowIn K H a r dx dl el fl kl vs) (e : Up H H') : RowIn K H' a r dx dl el fl kl vs :=
  ⟨e.ins h.at_, e.sqt h.ds, Paired.mapP h.dp fun _ _ q => q.up e, e.sqt h.em, e.sqt h.fu, e.sqt h.ky⟩
theorem RowAt.up {K : PySem.W.Frag} {H H' : Hp} {v : V} {r : R} (h : RowAt K H v r) (e : Up H H') : RowAt K H' v r := by
  obtain ⟨a, dx, dl, el, fl, kl, vs, h1, h2⟩ := h
  exact ⟨a, dx, dl, el, fl, kl, vs, h1, h2.up e⟩
section
variable {st : Int} {dl : Addr} {th : Int} {hr : V} {el fl kl : Addr}
theorem rowFs_key : (rowFs st dl th hr el fl kl).lookup ("key" : Str) = some (.ref kl) := by
  unfold rowFs
  simp only [lookup_putF, if_true]
theorem rowFs_full : (rowFs st dl th hr el fl kl).lookup ("full" : Str) = some (.ref fl) := by
  unfold rowFs
  rw [lookup_putF, if_neg (by decide), lookup_putF, if_pos rfl]
theorem rowFs_empty : (rowFs st dl th hr el fl kl).lookup ("empty" : Str) = some (.ref el) := by
  unfold rowFs
  rw [lookup_putF, if_neg (by decide), lookup_putF, if_neg (by decide), lookup_putF, if_pos rfl]
theorem rowFs_hear : (rowFs st dl th hr el fl kl).lookup ("hear" : Str) = some hr := by
  unfold rowFs
  rw [lookup_putF, if_neg (by decide), lookup_putF, if_neg (by decide), lookup_putF, if_neg (by decide), lookup_putF, if_pos rfl]
theorem rowFs_then : (rowFs st dl th hr el fl kl).lookup ("then" : Str) = some (.int th) := by
  unfold rowFs
  rw [lookup_putF, if_neg (by decide), lookup_putF, if_neg (by decide), lookup_putF, if_neg (by decide), lookup_putF, if_neg (by decide), lookup_putF, if_pos rfl]
theorem rowFs_deeds : (rowFs st dl th hr el fl kl).lookup ("deeds" : Str) = some (.ref dl) := by
  unfold rowFs
  rw [lookup_putF, if_neg (by decide), lookup_putF, if_neg (by decide), lookup_putF, if_neg (by decide), lookup_putF, if_neg (by decide), lookup_putF, if_neg (by decide), lookup_putF, if_pos rfl]
theorem rowFs_state : (rowFs st dl th hr el fl kl).lookup ("state" : Str) = some (.int st) := by
  unfold rowFs
  rw [lookup_putF, if_neg (by decide), lookup_putF, if_neg (by decide), lookup_putF, if_neg (by decide), lookup_putF, if_neg (by decide), lookup_putF, if_neg (by decide), lookup_putF, if_neg (by decide), lookup_putF, if_pos rfl]
theorem rowFs_no {m : Str} (h : m ∉ (["key", "full", "empty", "hear", "then", "deeds", "state"] : List Str) := by decide) : (rowFs st dl th hr el fl kl).lookup m = none := by
  simp only [List.mem_cons, List.not_mem_nil, or_false, not_or] at h
  obtain ⟨h1, h2, h3, h4, h5, h6, h7⟩ := h
  unfold rowFs
  simp only [lookup_putF, if_neg h1, if_neg h2, if_neg h3, if_neg h4, if_neg h5, if_neg h6, if_neg h7]
  rfl
end
/-! ### ends -/
inductive Sd where
  | snd | rcv
  deriving DecidableEq
def Sd.name : Sd → Str
  | .snd => "sender" | .rcv => "receiver"
def cSd (K : PySem.W.Frag) : Sd → Addr
  | .snd => c_Sender K | .rcv => c_Receiver K
def endFs (s : Sd) (l : Addr) : List (Str × V) := putF "own_rows" (.ref l) (putF "own_side" (.str s.name) [])
theorem endFs_rows {s : Sd} {l : Addr} : (endFs s l).lookup ("own_rows" : Str) = some (.ref l) := by
  unfold endFs
  rw [lookup_putF, if_pos rfl]
theorem endFs_side {s : Sd} {l : Addr} : (endFs s l).lookup ("own_side" : Str) = some (.str s.name) := by
  unfold endFs
  rw [lookup_putF, if_neg (by decide), lookup_putF, if_pos rfl]
theorem endFs_no {s : Sd} {l : Addr} {m : Str} (h1 : ¬ m = "own_rows" := by decide) (h2 : ¬ m = "own_side" := by decide) : (endFs s l).lookup m = none := by
  unfold endFs
  rw [lookup_putF, if_neg h1, lookup_putF, if_neg h2]; rfl
structure EndIn (K : PySem.W.Frag) (H : Hp) (a : Addr) (s : Sd) (rs : List R) (dx l : Addr) (vs : List V) : Prop where
  at_ : H a = some (.ins (cSd K s) dx (endFs s l))
  rw_ : SqT K H l vs
  rp : Paired (RowAt K H) vs rs
def EndAt (K : PySem.W.Frag) (H : Hp) (v : V) (s : Sd) (rs : List R) : Prop := ∃ a dx l vs, v = .ref a ∧ EndIn K H a s rs dx l vs
theorem EndIn.up {K : PySem.W.Frag} {H H' : Hp} {a dx l : Addr} {s : Sd} {rs : List R} {vs : List V} (h : EndIn K H a s rs dx l vs) (e : Up H H') : EndIn K H' a s rs dx l vs :=
  ⟨e.ins h.at_, e.sqt h.rw_, Paired.mapP h.rp fun _ _ q => q.up e⟩
theorem EndAt.up {K : PySem.W.Frag} {H H' : Hp} {v : V} {s : Sd} {rs : List R} (h : EndAt K H v s rs) (e : Up H H') : EndAt K H' v s rs := by
  obtain ⟨a, dx, l, vs, h1, h2⟩ := h
  exact ⟨a, dx, l, vs, h1, h2.up e⟩
/-! ### comprehensions by pairs -/
theorem paired_get {α β : Type} {F : α → β → Prop} : ∀ {l : List α} {m : List β} {i : Nat} {x : α}, Paired F l m → l[i]? = some x → ∃ y, m[i]? = some y ∧ F x y
  | _, _, _, _, .nil, h => by simp at h
  | _, _, 0, _, .cons r _, h => by
    cases h
    exact ⟨_, rfl, r⟩
  | _, _, i + 1, _, .cons _ t, h => by
    obtain ⟨y, h1, h2⟩ := paired_get (i := i) t h
    exact ⟨y, h1, h2⟩
theorem paired_append {α β : Type} {F : α → β → Prop} : ∀ {l l' : List α} {m m' : List β}, Paired F l m → Paired F l' m' → Paired F (l ++ l') (m ++ m')
  | _, _, _, _, .nil, h => h
  | _, _, _, _, .cons r t, h => .cons r (paired_append t h)
theorem paired_swap {α β : Type} {F : α → β → Prop} : ∀ {l : List α} {m : List β}, Paired F l m → Paired (fun b a => F a b) m l
  | _, _, .nil => .nil
  | _, _, .cons r t => .cons r (paired_swap t)
theorem paired_map {α β : Type} {f : α → β} : ∀ {l : List α} {m : List β}, Paired (fun a b => b = f a) l m → m = l.map f
  | _, _, .nil => rfl
  | _, _, .cons r t => by rw [r, paired_map t]; rfl
theorem paired_of_map {α β : Type} (f : α → β) : ∀ l : List α, Paired (fun a b => b = f a) l (l.map f)
  | [] => .nil
  | _ :: r => .cons rfl (paired_of_map f r)
theorem paired_self {α : Type} {F : α → α → Prop} (h : ∀ a, F a a) : ∀ l : List α, Paired F l l
  | [] => .nil
  | a :: r => .cons (h a) (paired_self h r)
theorem filter_take_succ {α : Type} (b : α → Bool) {l : List α} {i : Nat} {d : α} (h : l[i]? = some d) : (l.take (i + 1)).filter b = (l.take i).filter b ++ (if b d = true then [d] else []) := by
  rw [List.take_add_one, h, List.filter_append]
  congr 1
  by_cases hb : b d = true <;> simp [hb]
section
variable {α : Type} {K : PySem.W.Frag} {a : Addr} {xs : List V} {ds : List α} {tt : TT} {te : TE} {vs : List Nat} {σ : L2.St} {H1 : Hp} {Qd : Addr → Hp → Prop} {i : Nat} {A : V → α → Prop} {b : α → Bool} {P : α → V → Hp → Prop}
/-- the state of the list being made -/
def LcP (H1 : Hp) (D : Addr) (P : α → V → Hp → Prop) (b : α → Bool) (ds : List α) (j : Nat) (H : Hp) : Prop := Same H1 H ∧ ∃ ys, H D = some (.lst ys) ∧ Paired (fun d y => P d y H) ((ds.take j).filter b) ys
theorem lcp_turn (mono : ∀ d y H H', Up H H' → P d y H → P d y H') (hw : ∀ x, wipe ((wipe σ vs).set i (some x)) vs = wipe σ vs)
    (ht : ∀ x d H' (R : Bool → Hp → Prop), A x d → d ∈ ds → Same H1 H' → (∀ H'', Same H' H'' → R (b d) H'') → tt ((wipe σ vs).set i (some x)) H' R)
    (he : ∀ x d H' (R : VK), A x d → d ∈ ds → b d = true → Same H1 H' → (∀ y H'', Same H' H'' → P d y H'' → R y H'') → te ((wipe σ vs).set i (some x)) H' R)
    (hlen : ds.length < sizeLine) {D : Addr} (hD : H1 D = none) {j : Nat} {x : V} {d : α} {H : Hp} (hx : A x d) (hd : ds[j]? = some d) (p : LcP H1 D P b ds j H) :
    gName i x (wipe σ vs) H fun σ2 H2 => wipe σ2 vs = wipe σ vs ∧ tt σ2 H2 fun c H3 =>
      if c = true then te σ2 H3 fun y H4 => ∃ acc, H4 D = some (.lst acc) ∧ acc.length < sizeLine ∧ LcP H1 D P b ds (j + 1) (upd H4 D (.lst (acc ++ [y]))) else LcP H1 D P b ds (j + 1) H3 := by
  obtain ⟨s1, ys, hy, hp⟩ := p
  have hmem : d ∈ ds := List.mem_of_getElem? hd
  refine ⟨hw x, ht x d H _ hx hmem s1 fun H3 s3 => ?_⟩
  have hlt : ys.length < sizeLine := by
    rw [← hp.length]
    refine Nat.lt_of_le_of_lt (List.length_filter_le _ _) (Nat.lt_of_le_of_lt ?_ hlen)
    rw [List.length_take]; omega
  have hp3 := Paired.mapP hp fun d y q => mono d y _ _ (Same.up s3) q
  cases hb : b d with
  | false =>
    rw [if_neg Bool.false_ne_true]
    refine ⟨s1.trans s3, ys, s3 _ _ hy, ?_⟩
    rw [filter_take_succ b hd, if_neg (by rw [hb]; exact Bool.false_ne_true), List.append_nil]
    exact hp3
  | true =>
    rw [if_pos rfl]
    refine he x d H3 _ hx hmem hb (s1.trans s3) fun y H4 s4 py => ?_
    have hD4 : H4 D = some (.lst ys) := s4 _ _ (s3 _ _ hy)
    refine ⟨ys, hD4, hlt, Same.upd2 ((s1.trans s3).trans s4) hD, ys ++ [y], upd_same, ?_⟩
    rw [filter_take_succ b hd, if_pos hb]
    have u : Up H4 (upd H4 D (.lst (ys ++ [y]))) := Up.at hD4 (fun z => z)
    exact paired_append (Paired.mapP hp3 fun d y q => mono d y _ _ ((Same.up s4).trans u) q) (.cons (mono _ _ _ _ u py) .nil)
theorem lcp_start {D : Addr} (hD : H1 D = none) : LcP H1 D P b ds 0 (upd H1 D (.lst [])) := ⟨same_upd hD, [], upd_same, .nil⟩
theorem lcp_end {D : Addr} {H : Hp} (p : LcP H1 D P b ds ds.length H) : Same H1 H ∧ ∃ ys, H D = some (.lst ys) ∧ Paired (fun d y => P d y H) (ds.filter b) ys := by
  obtain ⟨s, ys, h1, h2⟩ := p
  rw [List.take_length] at h2
  exact ⟨s, ys, h1, h2⟩
/-- over a tuple -/
theorem lc_mapT (hq : SqT K H1 a xs) (hp : Paired A xs ds) (mono : ∀ d y H H', Up H H' → P d y H → P d y H') (hw : ∀ x, wipe ((wipe σ vs).set i (some x)) vs = wipe σ vs)
    (ht : ∀ x d H' (R : Bool → Hp → Prop), A x d → d ∈ ds → Same H1 H' → (∀ H'', Same H' H'' → R (b d) H'') → tt ((wipe σ vs).set i (some x)) H' R)
    (he : ∀ x d H' (R : VK), A x d → d ∈ ds → b d = true → Same H1 H' → (∀ y H'', Same H' H'' → P d y H'' → R y H'') → te ((wipe σ vs).set i (some x)) H' R)
    (hlen : ds.length < sizeLine) (k : ∀ H2 D ys, H1 D = none → Same H1 H2 → H2 D = some (.lst ys) → Paired (fun d y => P d y H2) (ds.filter b) ys → Qd D H2) :
    ∀ D, H1 D = none → ∃ W : Nat → Nat → Hp → Prop, (∃ m, W 0 m (upd H1 D (.lst []))) ∧ ∀ j m H, W j m H →
      ((Itt K a).stop j H ∧ Qd D H) ∨ ((Itt K a).go j H ∧ ∃ Nx : Hp → Prop, (∀ H', Nx H' → ∃ m', m' < m ∧ W (j + 1) m' H') ∧ ∀ x H', (Itt K a).yld j H x H' → gName i x (wipe σ vs) H' fun σ2 H2 => wipe σ2 vs = wipe σ vs ∧ tt σ2 H2 fun c H3 =>
        if c = true then te σ2 H3 fun y H4 => ∃ acc, H4 D = some (.lst acc) ∧ acc.length < sizeLine ∧ Nx (upd H4 D (.lst (acc ++ [y]))) else Nx H3) := by
  intro D hD
  refine lc_tup (xs := xs) (LcP H1 D P b ds) (lcp_start hD) (fun j H _ p => Same.sqt p.1 hq) (fun j x H hj p => ?_) (fun H p => ?_)
  · obtain ⟨d, hd, hx⟩ := paired_get hp hj
    exact lcp_turn mono hw ht he hlen hD hx hd p
  · rw [hp.length] at p
    obtain ⟨s, ys, h1, h2⟩ := lcp_end p
    exact k H D ys hD s h1 h2
/-- over a list -/
theorem lc_mapL (hq : SqL K H1 a xs) (hp : Paired A xs ds) (mono : ∀ d y H H', Up H H' → P d y H → P d y H') (hw : ∀ x, wipe ((wipe σ vs).set i (some x)) vs = wipe σ vs)
    (ht : ∀ x d H' (R : Bool → Hp → Prop), A x d → d ∈ ds → Same H1 H' → (∀ H'', Same H' H'' → R (b d) H'') → tt ((wipe σ vs).set i (some x)) H' R)
    (he : ∀ x d H' (R : VK), A x d → d ∈ ds → b d = true → Same H1 H' → (∀ y H'', Same H' H'' → P d y H'' → R y H'') → te ((wipe σ vs).set i (some x)) H' R)
    (hlen : ds.length < sizeLine) (k : ∀ H2 D ys, H1 D = none → Same H1 H2 → H2 D = some (.lst ys) → Paired (fun d y => P d y H2) (ds.filter b) ys → Qd D H2) :
    ∀ D, H1 D = none → ∃ W : Nat → Nat → Hp → Prop, (∃ m, W 0 m (upd H1 D (.lst []))) ∧ ∀ j m H, W j m H →
      ((Itl K a).stop j H ∧ Qd D H) ∨ ((Itl K a).go j H ∧ ∃ Nx : Hp → Prop, (∀ H', Nx H' → ∃ m', m' < m ∧ W (j + 1) m' H') ∧ ∀ x H', (Itl K a).yld j H x H' → gName i x (wipe σ vs) H' fun σ2 H2 => wipe σ2 vs = wipe σ vs ∧ tt σ2 H2 fun c H3 =>
        if c = true then te σ2 H3 fun y H4 => ∃ acc, H4 D = some (.lst acc) ∧ acc.length < sizeLine ∧ Nx (upd H4 D (.lst (acc ++ [y]))) else Nx H3) := by
  intro D hD
  refine lc_list (xs := xs) (LcP H1 D P b ds) (lcp_start hD) (fun j H _ p => p.1.seq hq) (fun j x H hj p => ?_) (fun H p => ?_)
  · obtain ⟨d, hd, hx⟩ := paired_get hp hj
    exact lcp_turn mono hw ht he hlen hD hx hd p
  · rw [hp.length] at p
    obtain ⟨s, ys, h1, h2⟩ := lcp_end p
    exact k H D ys hD s h1 h2
/-- over lo, lo + 1, .. -/
theorem lc_mapR {lo : Int} {n : Nat} {b : Nat → Bool} {P : Nat → V → Hp → Prop} (mono : ∀ d y H H', Up H H' → P d y H → P d y H') (hw : ∀ x, wipe ((wipe σ vs).set i (some x)) vs = wipe σ vs)
    (ht : ∀ d H' (R : Bool → Hp → Prop), d < n → Same H1 H' → (∀ H'', Same H' H'' → R (b d) H'') → tt ((wipe σ vs).set i (some (.int (lo + d)))) H' R)
    (he : ∀ d H' (R : VK), d < n → b d = true → Same H1 H' → (∀ y H'', Same H' H'' → P d y H'' → R y H'') → te ((wipe σ vs).set i (some (.int (lo + d)))) H' R)
    (hlen : n < sizeLine) (k : ∀ H2 D ys, H1 D = none → Same H1 H2 → H2 D = some (.lst ys) → Paired (fun d y => P d y H2) ((List.range n).filter b) ys → Qd D H2) :
    ∀ D, H1 D = none → ∃ W : Nat → Nat → Hp → Prop, (∃ m, W 0 m (upd H1 D (.lst []))) ∧ ∀ j m H, W j m H →
      ((Itr lo n).stop j H ∧ Qd D H) ∨ ((Itr lo n).go j H ∧ ∃ Nx : Hp → Prop, (∀ H', Nx H' → ∃ m', m' < m ∧ W (j + 1) m' H') ∧ ∀ x H', (Itr lo n).yld j H x H' → gName i x (wipe σ vs) H' fun σ2 H2 => wipe σ2 vs = wipe σ vs ∧ tt σ2 H2 fun c H3 =>
        if c = true then te σ2 H3 fun y H4 => ∃ acc, H4 D = some (.lst acc) ∧ acc.length < sizeLine ∧ Nx (upd H4 D (.lst (acc ++ [y]))) else Nx H3) := by
  intro D hD
  refine lc_range (LcP H1 D P b (List.range n)) (lcp_start hD) (fun j H hj p => ?_) (fun H p => ?_)
  · exact lcp_turn (A := fun (x : V) (d : Nat) => x = .int (lo + (d : Nat))) mono hw (fun x d H' R hx hd => by subst hx; exact ht d H' R (List.mem_range.mp hd)) (fun x d H' R hx hd => by subst hx; exact he d H' R (List.mem_range.mp hd)) (by simpa using hlen) hD rfl (by simp [hj]) p
  · obtain ⟨s, ys, h1, h2⟩ := lcp_end (ds := List.range n) (by simpa using p)
    exact k H D ys hD s h1 h2
end
/-! ### a def keeps its promise -/
section
variable {P : Program} {w : World} {K : PySem.W.Frag} {mg : Str → Option Value} {base : Heap} {x qual : Str} {st : Stmt} {f : Addr} {fd : FuncData} {N ps : List Str} {sp : Sp} {k : Nat}
theorem mkFn (F : ∃ fd, Fun K x qual st f fd) (S : FnScope N ps (defScope st)) (len : ∀ vs H Q E, sp vs H Q E → vs.length = ps.length)
    (hbody : ∀ (cdv : Value) (A : Around) (outer : List Env) (s : Shared) (H : Hp) (vs : List V) (Q : VK) (E : XK), Room k (A.deeper (envOfC qual (defScope st) s.heap.objs.size f cdv)) → sp vs H Q E →
      ∃ t, PSs (cxOf CX0 P w K mg base N qual (defScope st) f cdv A outer s H E).nox (defBody st) t ∧ t { nx := fun _ H' => Q .non H', rt := Q } (start N vs) H)
    (hb : ∀ (kV doc pm : Value) (an : Option Addr) (cdv ct : Value) (us : List Value), us.length = ps.length → bindArgs (PySem.W.fnOf x qual (defArgs st) (defBody st) (defScope st) .none kV doc pm an cdv ct) ⟨us, []⟩ = pure (ps.zip us) := by
      intro _ _ _ _ _ _ us hl
      first
        | exact (match us, hl with | [_], _ => rfl)
        | exact (match us, hl with | [_, _], _ => rfl)
        | exact (match us, hl with | [_, _, _], _ => rfl)
        | exact (match us, hl with | [_, _, _, _], _ => rfl)) : FnR P w K mg base CXn (k + 1) f sp := by
  obtain ⟨fd, F⟩ := F
  refine FnR.imp (FnOk.raw (F.ok (k := k) S len hbody) (F.binds hb) .nil) fun vs H Q E h => ?_
  rw [List.append_nil]
  exact h
end
/-! ### isinstance -/
/-- None, an int, a text -/
def scl : V → Prop
  | .non => True | .int _ => True | .str _ => True
  | _ => False
def isI : V → Bool
  | .int _ => true
  | _ => false
def isS : V → Bool
  | .str _ => true
  | _ => false
def wit (v : V) (lo hi : Int) : Bool := match v with
  | .int i => decide (lo ≤ i) && decide (i ≤ hi)
  | _ => false
/-- isinstance, sealed -/
structure OIsi (K : PySem.W.Frag) (xs : List V) (H : Hp) (Q : VK) : Prop where
  out : rIsi K xs H Q
theorem call_isiO {X : Cx} : CallR X (.builtin "isinstance") (OIsi X.K) := fun pins s σ H xs us Q I r h => call_isi pins s σ H xs us Q I r h.out
section
variable {K : PySem.W.Frag}
theorem isi_int {v : V} {H : Hp} {Q : VK} (h : scl v) (q : Q (.bl (isI v)) H) : OIsi K [v, .ty "int"] H Q := by
  cases v <;> first | exact h.elim | skip
  · exact ⟨_, _, _, _, false, rfl, .ty _, .base .non, kit_ty (by decide +kernel), q⟩
  · exact ⟨_, _, _, _, true, rfl, .ty _, .base (.int _), kit_ty (by decide +kernel), q⟩
  · exact ⟨_, _, _, _, false, rfl, .ty _, .base (.str _), kit_ty (by decide +kernel), q⟩
theorem isi_bool {v : V} {H : Hp} {Q : VK} (h : scl v) (q : Q (.bl false) H) : OIsi K [v, .ty "bool"] H Q := by
  cases v <;> first | exact h.elim | skip
  · exact ⟨_, _, _, _, false, rfl, .ty _, .base .non, kit_ty (by decide +kernel), q⟩
  · exact ⟨_, _, _, _, false, rfl, .ty _, .base (.int _), kit_ty (by decide +kernel), q⟩
  · exact ⟨_, _, _, _, false, rfl, .ty _, .base (.str _), kit_ty (by decide +kernel), q⟩
theorem isi_str {v : V} {H : Hp} {Q : VK} (h : scl v) (q : Q (.bl (isS v)) H) : OIsi K [v, .ty "str"] H Q := by
  cases v <;> first | exact h.elim | skip
  · exact ⟨_, _, _, _, false, rfl, .ty _, .base .non, kit_ty (by decide +kernel), q⟩
  · exact ⟨_, _, _, _, false, rfl, .ty _, .base (.int _), kit_ty (by decide +kernel), q⟩
  · exact ⟨_, _, _, _, true, rfl, .ty _, .base (.str _), kit_ty (by decide +kernel), q⟩
/-- of an instance -/
theorem isi_ins {a C D dx : Addr} {fs : List (Str × V)} {H : Hp} {Q : VK} {b : Bool} (e : H a = some (.ins C dx fs)) (cl : Cls K C) (it : InsT K C) (k : PySem.W.kitOne K (.ref C) (.ref D) = some b) (q : Q (.bl b) H) : OIsi K [.ref a, .ref D] H Q :=
  ⟨⟨_, _, _, _, b, rfl, .own _, .base (.ins e cl it.ha it.hn it.htk it.hm), k, q⟩⟩
end
/-- no test -/
theorem tYes_ok {σ : L2.St} {H : Hp} {R : Bool → Hp → Prop} (h : R true H) : tYes σ H R := h
theorem filter_true {α : Type} (l : List α) : l.filter (fun _ => true) = l := by simp
end L2.My
namespace L2.My
open PySem PySem.Spec PyProof.Rows
/-! ### in -/
theorem inV_str (s : Str) (l : List Str) : inV (.str s) (l.map V.str) = decide (s ∈ l) := by
  induction l with
  | nil => rfl
  | cons a r ih =>
    have e : inV (.str s) ((a :: r).map V.str) = (eqV (.str a) (.str s) || inV (.str s) (r.map V.str)) := rfl
    have e2 : eqV (.str a) (.str s) = decide (s = a) := by
      show (a == s) = decide (s = a)
      by_cases h : s = a
      · subst h; simp
      · rw [decide_eq_false h]
        exact beq_eq_false_iff_ne.mpr (fun q => h q.symm)
    rw [e, ih, e2]
    by_cases h : s = a <;> by_cases h2 : s ∈ r <;> simp [h, h2]
theorem inV_nat (n : Nat) (l : List Nat) : inV (.int n) (natVs l) = decide (n ∈ l) := by
  induction l with
  | nil => rfl
  | cons a r ih =>
    have e : inV (.int n) (natVs (a :: r)) = (eqV (.int a) (.int n) || inV (.int n) (natVs r)) := rfl
    have e2 : eqV (.int a) (.int n) = decide (n = a) := by
      show ((a : Int) == (n : Int)) = decide (n = a)
      by_cases h : n = a
      · subst h; simp
      · rw [decide_eq_false h]
        exact beq_eq_false_iff_ne.mpr (fun q => h (Int.ofNat.inj q).symm)
    rw [e, ih, e2]
    by_cases h : n = a <;> by_cases h2 : n ∈ r <;> simp [h, h2]
theorem flat_strs (l : List Str) : (l.map V.str).all flatV = true := by
  rw [List.all_map]; simp [Function.comp_def, flatV]
theorem flat_nats (l : List Nat) : (natVs l).all flatV = true := by
  unfold natVs
  rw [List.all_map]; simp [Function.comp_def, flatV]
end L2.My
namespace L2.My
open PySem PySem.Spec PyProof.Rows
/-- one reading of several, under a name -/
def tEx {ι : Type} (t : ι → TE) : TE := fun σ H Q => ∃ i, t i σ H Q
theorem pe_exK {X : Cx} {ι : Type} {e : Expr} {t : ι → TE} (h : ∀ i, PE X e (t i)) : PE X e (tEx t) := pe_ex h
def tJn (ts : List TE) : TE := fun σ H Q => tJs ts Str.empty σ H fun out H1 => Q (.str out) H1
theorem pe_jn {X : Cx} {v1 v2 : Expr} {rest : List Expr} {ts : List TE} {pos : Pos} (h : PJ X (v1 :: v2 :: rest) ts) : PE X (.JoinedStr (v1 :: v2 :: rest) pos) (tJn ts) := pe_joined h
theorem pg_tupK {X : Cx} (K : PySem.W.Frag) {es : List Expr} {k : Nat} {pos : Pos} {t : TGs} {n : Nat} (hc : X.calm = true) (h : PGs X es t)
    (hn : (assignEach es X.env).length = n := by rfl) (hst : (assignEach es X.env).findIdx? (·.1) = none := by rfl) (hK : X.K = K := by rfl) : PG X (.Tuple es k pos) (gTup K n t) := hK ▸ pg_tup hc h hn hst
/-! ### rules with the written part by its name (within a comprehension's block) -/
section
variable {X : Cx} (K : PySem.W.Frag)
theorem op_inK (h : X.K = K := by rfl) : OpR X (compareOp .In) (rIn K false) := h ▸ op_in_seq
theorem op_notInK (h : X.K = K := by rfl) : OpR X (compareOp .NotIn) (rIn K true) := h ▸ op_notIn_seq
theorem pe_fldK {e : Expr} {f : Str} {pos : Pos} {ta : TE} (he : PE X e ta) (hb : attributeBase e f X.env (eval e X.env) = eval e X.env := by rfl) (h : X.K = K := by rfl) : PE X (.Attribute e f pos) (tFld K ta f) := h ▸ pe_fld he hb
theorem ix_listK (h : X.K = K := by rfl) : IxR X (rIxL K) := h ▸ ix_list
theorem ix_tupK (h : X.K = K := by rfl) : IxR X (rIxT K) := h ▸ ix_tup
theorem pi_tupK {tg l : Expr} {tl : TE} (hl : PE X l tl) (h : X.K = K := by rfl) : PI X tg l (iTup K tl) := h ▸ pi_tup hl
theorem pi_listK {tg l : Expr} {tl : TE} (hl : PE X l tl) (h : X.K = K := by rfl) : PI X tg l (iList K tl) := h ▸ pi_list hl
theorem call_isiK (h : X.K = K := by rfl) : CallR X (.builtin "isinstance") (OIsi K) := h ▸ call_isiO
theorem cr_allK (hc : X.calm = true) (h : X.K = K := by rfl) : CallR X (.builtin "all") (rAll K) := h ▸ cr_all hc
theorem cr_anyK (hc : X.calm = true) (h : X.K = K := by rfl) : CallR X (.builtin "any") (rAny K) := h ▸ cr_any hc
theorem op_ownEqK {C g : Addr} {n : Nat} {sp : Sp} (o : Own K C "__eq__" g) (F : FnR X.prog X.w K X.mg X.base CXn n g sp) (hr : Room n X.A) (h : X.K = K := by rfl) : OpR X (compareOp .Eq) (rOwnEq K C sp) := by
  subst h
  exact op_ownEq o F hr
theorem op_ownNeK {C g : Addr} {n : Nat} {sp : Sp} (o : Own K C "__eq__" g) (on : OwnNe K C) (F : FnR X.prog X.w K X.mg X.base CXn n g sp) (hr : Room (n + 1) X.A) (h : X.K = K := by rfl) : OpR X (compareOp .NotEq) (rOwnNe K C sp) := by
  subst h
  exact op_ownNe o on F hr
theorem pa_starK {e : Expr} {es : List Expr} {p : Pos} {te : TE} {t : TA} (he : PE X e te) (hr : PA X es t) (hs : starEach (.Starred e p :: es) X.env = (true, eval e X.env) :: starEach es X.env := by rfl) (h : X.K = K := by rfl) : PA X (.Starred e p :: es) (StX.tStar K te t) := h ▸ StX.pa_star he hr hs
end
def rLenK (K : PySem.W.Frag) : List V → Hp → VK → Prop := fun xs H Q => ∃ p ys, xs = [.ref p] ∧ (SqL K H p ys ∨ SqT K H p ys) ∧ Q (.int ys.length) H
theorem call_lenK {X : Cx} (K : PySem.W.Frag) (h : X.K = K := by rfl) : CallR X (.builtin "len") (rLenK K) := by
  subst h
  exact call_len_seq
end L2.My
end
section
set_option Elab.async false
set_option linter.all false
set_option autoImplicit false
set_option maxRecDepth 100000
set_option maxHeartbeats 2000000
/-! checks -/
namespace L2.My
open PySem PySem.Spec PyProof.Rows He
section
variable {P : Program} {w : World} {K : PySem.W.Frag} {mg : Str → Option Value} {base : Heap}
def spIsInteger : Sp := fun vs H Q _ => ∃ v, vs = [v] ∧ scl v ∧ Q (.bl (isI v)) H
theorem cal_is_integer (T : Tx P K mg) : Cal P w K mg base 1 "is_integer" spIsInteger := by
  refine ⟨_, mkFn (k := 0) (T.f_is_integer) sc_is_integer (fun vs H Q E h => ?_) (fun cdv A outer s H vs Q E hr h => ?_), T.g_is_integer.1, T.g_is_integer.2⟩
  · obtain ⟨v, rfl, _⟩ := h
    rfl
  · obtain ⟨v, rfl, hv, q⟩ := h
    refine ⟨_, (pss_one (ps_ret (pe_and (pe_callB (call_isiK K) (by rfl) T.n_isinstance boot_isinstance (pa_cons (pv 0) (pa_cons (pe_bltn (v := .ty "int") (by rfl) T.n_int boot_int rfl) pa_nil))) (pe_one (pe_not (pe_callB (call_isiK K) (by rfl) T.n_isinstance boot_isinstance (pa_cons (pv 0) (pa_cons (pe_bltn (v := .ty "bool") (by rfl) T.n_bool boot_bool rfl) pa_nil)))))))), ?_⟩
    refine ⟨v, rfl, isi_int hv ⟨_, rfl, ?_⟩⟩
    cases hi : isI v with
    | false =>
      rw [hi] at q
      exact q
    | true =>
      rw [hi] at q
      exact ⟨v, rfl, isi_bool hv ⟨_, rfl, q⟩⟩
def spIsWithin : Sp := fun vs H Q _ => ∃ v lo hi, vs = [v, .int lo, .int hi] ∧ scl v ∧ Q (.bl (wit v lo hi)) H
theorem cal_is_within (T : Tx P K mg) : Cal P w K mg base 2 "is_within" spIsWithin := by
  refine ⟨_, mkFn (k := 1) (T.f_is_within) sc_is_within (fun vs H Q E h => ?_) (fun cdv A outer s H vs Q E hr h => ?_), T.g_is_within.1, T.g_is_within.2⟩
  · obtain ⟨v, _, _, rfl, _⟩ := h
    rfl
  · obtain ⟨v, lo, hi, rfl, hv, q⟩ := h
    refine ⟨_, (pss_one (ps_ret (pe_and (pe_cal (cal_is_integer T) hr (by decide) (by rfl) (pa_cons (pv 0) pa_nil)) (pe_one (pe_chain op_le op_le (pv 1) (pv 0) (pv 2)))))), ?_⟩
    simp only [tRet, tRetN, tSeq, tIfS, tAsg, tDrop, tAug, ipI, tC1, tCons, tNil, tVar, tC, tChain, tOp, tTest, tB, tAnd, tOr, tNot, tAndV, tOrV, tNotV, tIf, tUn, tCB, tBM, tM1, tYes, tSl, tPar, tPar3, gName, rI0, rI, rEq, rNe, tIsN, tNotN, start, List.map_cons, List.map_nil, List.cons_append, List.nil_append, List.length_cons, List.length_nil, Nat.reduceAdd, Nat.reduceSub, Nat.sub_self, Nat.zero_add, Nat.add_zero, List.replicate_zero, List.replicate_succ, List.getElem?_cons_zero, List.getElem?_cons_succ, List.set_cons_zero, List.set_cons_succ, Option.some.injEq, List.cons.injEq, V.int.injEq, V.str.injEq, V.bl.injEq, V.ref.injEq, V.ty.injEq, exists_eq_left', exists_eq', exists_eq, exists_and_left, and_true, true_and, and_assoc, Bool.false_eq_true, if_true, if_false, reduceCtorEq, decide_true, decide_false, Bool.not_true, Bool.not_false, spIsInteger]
    refine ⟨hv, ?_⟩
    cases v <;> first | exact hv.elim | skip
    · exact q
    · rename_i i
      simp only [isI, tRet, tRetN, tSeq, tIfS, tAsg, tDrop, tAug, ipI, tC1, tCons, tNil, tVar, tC, tChain, tOp, tTest, tB, tAnd, tOr, tNot, tAndV, tOrV, tNotV, tIf, tUn, tCB, tBM, tM1, tYes, tSl, tPar, tPar3, gName, rI0, rI, rEq, rNe, tIsN, tNotN, start, List.map_cons, List.map_nil, List.cons_append, List.nil_append, List.length_cons, List.length_nil, Nat.reduceAdd, Nat.reduceSub, Nat.sub_self, Nat.zero_add, Nat.add_zero, List.replicate_zero, List.replicate_succ, List.getElem?_cons_zero, List.getElem?_cons_succ, List.set_cons_zero, List.set_cons_succ, Option.some.injEq, List.cons.injEq, V.int.injEq, V.str.injEq, V.bl.injEq, V.ref.injEq, V.ty.injEq, exists_eq_left', exists_eq', exists_eq, exists_and_left, and_true, true_and, and_assoc, Bool.false_eq_true, if_true, if_false, reduceCtorEq, decide_true, decide_false, Bool.not_true, Bool.not_false]
      rw [show wit (.int i) lo hi = (decide (lo ≤ i) && decide (i ≤ hi)) from rfl] at q
      by_cases h1 : lo ≤ i
      · rw [decide_eq_true h1] at q ⊢
        simp only [if_true]
        exact q
      · rw [decide_eq_false h1] at q ⊢
        simp only [if_false, Bool.false_eq_true]
        exact q
    · exact q
def spIsWit (lo hi : Int) : Sp := fun vs H Q _ => ∃ v, vs = [v] ∧ scl v ∧ Q (.bl (wit v lo hi)) H
theorem cal_is_state (T : Tx P K mg) : Cal P w K mg base 3 "is_state" (spIsWit 0 23) := by
  refine ⟨_, mkFn (k := 2) (T.f_is_state) sc_is_state (fun vs H Q E h => ?_) (fun cdv A outer s H vs Q E hr h => ?_), T.g_is_state.1, T.g_is_state.2⟩
  · obtain ⟨v, rfl, _⟩ := h
    rfl
  · obtain ⟨v, rfl, hv, q⟩ := h
    refine ⟨_, (pss_one (ps_ret (pe_cal (cal_is_within T) hr (by decide) (by rfl) (pa_cons (pv 0) (pa_cons pe_int (pa_cons (pe_gint T.i_MOST_STATE) pa_nil)))))), ?_⟩
    exact ⟨v, rfl, v, 0, 23, rfl, hv, q⟩
theorem cal_is_box (T : Tx P K mg) : Cal P w K mg base 3 "is_box" (spIsWit 0 2) := by
  refine ⟨_, mkFn (k := 2) (T.f_is_box) sc_is_box (fun vs H Q E h => ?_) (fun cdv A outer s H vs Q E hr h => ?_), T.g_is_box.1, T.g_is_box.2⟩
  · obtain ⟨v, rfl, _⟩ := h
    rfl
  · obtain ⟨v, rfl, hv, q⟩ := h
    refine ⟨_, (pss_one (ps_ret (pe_cal (cal_is_within T) hr (by decide) (by rfl) (pa_cons (pv 0) (pa_cons pe_int (pa_cons (pe_gint T.i_MOST_BOX) pa_nil)))))), ?_⟩
    exact ⟨v, rfl, v, 0, 2, rfl, hv, q⟩
theorem cal_is_number (T : Tx P K mg) : Cal P w K mg base 3 "is_number" (spIsWit 0 5) := by
  refine ⟨_, mkFn (k := 2) (T.f_is_number) sc_is_number (fun vs H Q E h => ?_) (fun cdv A outer s H vs Q E hr h => ?_), T.g_is_number.1, T.g_is_number.2⟩
  · obtain ⟨v, rfl, _⟩ := h
    rfl
  · obtain ⟨v, rfl, hv, q⟩ := h
    refine ⟨_, (pss_one (ps_ret (pe_cal (cal_is_within T) hr (by decide) (by rfl) (pa_cons (pv 0) (pa_cons pe_int (pa_cons (pe_gint T.i_MOST_NUMBER) pa_nil)))))), ?_⟩
    exact ⟨v, rfl, v, 0, 5, rfl, hv, q⟩
theorem wit_nat {n m : Nat} (h : n ≤ m) : wit (.int n) 0 m = true := by
  rw [show wit (.int (n : Int)) 0 (m : Int) = (decide ((0 : Int) ≤ n) && decide ((n : Int) ≤ m)) from rfl]
  rw [decide_eq_true (by omega : (0 : Int) ≤ n), decide_eq_true (by omega : (n : Int) ≤ m)]; rfl
/-! ### deeds -/
def spNeedBox : Sp := fun vs H Q _ => ∃ (b : Nat) (p : V), vs = [.int b, p] ∧ b ≤ 2 ∧ Q .non H
theorem cal_need_box (T : Tx P K mg) : Cal P w K mg base 4 "need_box" spNeedBox := by
  refine ⟨_, mkFn (k := 3) (T.f_need_box) sc_need_box (fun vs H Q E h => ?_) (fun cdv A outer s H vs Q E hr h => ?_), T.g_need_box.1, T.g_need_box.2⟩
  · obtain ⟨b, p, rfl, _⟩ := h
    rfl
  · obtain ⟨b, p, rfl, hb, q⟩ := h
    refine ⟨_, (pss_one (ps_if (pt_not (pt_val (pe_cal (cal_is_box T) hr (by decide) (by rfl) (pa_cons (pv 0) pa_nil)))) pss_never pss_nil)), ?_⟩
    refine ⟨_, rfl, _, rfl, trivial, _, rfl, ?_⟩
    rw [show wit (.int (b : Int)) 0 2 = true from wit_nat (m := 2) hb]
    exact q
def spNeedNumber : Sp := fun vs H Q _ => ∃ (b : Nat), vs = [.int b] ∧ b ≤ 5 ∧ Q .non H
theorem cal_need_number (T : Tx P K mg) : Cal P w K mg base 4 "need_number" spNeedNumber := by
  refine ⟨_, mkFn (k := 3) (T.f_need_number) sc_need_number (fun vs H Q E h => ?_) (fun cdv A outer s H vs Q E hr h => ?_), T.g_need_number.1, T.g_need_number.2⟩
  · obtain ⟨b, rfl, _⟩ := h
    rfl
  · obtain ⟨b, rfl, hb, q⟩ := h
    refine ⟨_, (pss_one (ps_if (pt_not (pt_val (pe_cal (cal_is_number T) hr (by decide) (by rfl) (pa_cons (pv 0) pa_nil)))) pss_never pss_nil)), ?_⟩
    refine ⟨_, rfl, _, rfl, trivial, _, rfl, ?_⟩
    rw [show wit (.int (b : Int)) 0 5 = true from wit_nat (m := 5) hb]
    exact q
/-- an instance written: all else stays -/
def Wrote (H H' : Hp) (a : Addr) (o : HO) : Prop := H' a = some o ∧ ∀ c, c ≠ a → H' c = H c
theorem wrote_upd {H : Hp} {a : Addr} {o : HO} : Wrote H (upd H a o) a o := ⟨upd_same, fun _ h => upd_ne h⟩
theorem Wrote.upd2 {H H' : Hp} {a : Addr} {o u : HO} (h : Wrote H H' a o) : Wrote H (upd H' a u) a u := ⟨upd_same, fun c hc => by rw [upd_ne hc, h.2 c hc]⟩
/-- behind a making: what stood stands -/
theorem made_same {H H' : Hp} {x dx C : Addr} {o : HO} {u : HO} (nx : H x = none) (nd : H dx = none) (h : Wrote (upd (upd H dx (.own x)) x u) H' x o) : Same H H' := fun b p e => by
  have h1 : b ≠ x := ne_of_none e nx
  rw [h.2 b h1, upd_ne h1, upd_ne (ne_of_none e nd)]
  exact e
def spBoxInit (C : Addr) : Sp := fun vs H Q _ => ∃ (a dx : Addr) (b : Nat), vs = [.ref a, .int b] ∧ H a = some (.ins C dx []) ∧ b ≤ 2 ∧ ∀ H', Wrote H H' a (.ins C dx (putF "box" (.int b) [])) → Q .non H'
theorem fn_box_init (T : Tx P K mg) {C : Addr} (cl : Cls K C) (na : NoAttr K C "box") : FnR P w K mg base CXn 5 (a_BoxDeed_init K) (spBoxInit C) := by
  refine mkFn (k := 4) (T.f_BoxDeed_init) sc_BoxDeed_init (fun vs H Q E h => ?_) (fun cdv A outer s H vs Q E hr h => ?_)
  · obtain ⟨a, dx, b, rfl, _⟩ := h
    rfl
  · obtain ⟨a, dx, b, rfl, ha, hb, q⟩ := h
    refine ⟨_, (pss_cons (ps_expr (pe_cal (cal_need_box T) hr (by decide) (by rfl) (pa_cons (pv 1) (pa_cons pe_str pa_nil)))) (pss_one (ps_fld (pv 0) (pv 1) rfl))), ?_⟩
    refine ⟨_, rfl, b, _, rfl, hb, _, rfl, _, rfl, a, C, dx, [], rfl, ha, cl, na, by decide, q _ wrote_upd⟩
def spAnsInit (C : Addr) : Sp := fun vs H Q _ => ∃ (a dx : Addr) (b : Nat), vs = [.ref a, .int b] ∧ H a = some (.ins C dx []) ∧ b ≤ 5 ∧ ∀ H', Wrote H H' a (.ins C dx (putF "number" (.int b) [])) → Q .non H'
theorem fn_ans_init (T : Tx P K mg) {C : Addr} (cl : Cls K C) (na : NoAttr K C "number") : FnR P w K mg base CXn 5 (a_Answer_init K) (spAnsInit C) := by
  refine mkFn (k := 4) (T.f_Answer_init) sc_Answer_init (fun vs H Q E h => ?_) (fun cdv A outer s H vs Q E hr h => ?_)
  · obtain ⟨a, dx, b, rfl, _⟩ := h
    rfl
  · obtain ⟨a, dx, b, rfl, ha, hb, q⟩ := h
    refine ⟨_, (pss_cons (ps_expr (pe_cal (cal_need_number T) hr (by decide) (by rfl) (pa_cons (pv 1) pa_nil))) (pss_one (ps_fld (pv 0) (pv 1) rfl))), ?_⟩
    refine ⟨_, rfl, b, rfl, hb, _, rfl, _, rfl, a, C, dx, [], rfl, ha, cl, na, by decide, q _ wrote_upd⟩
theorem mak_Take (T : Tx P K mg) : Mak P w K mg base 5 "Take" (c_Take K) (spBoxInit (c_Take K)) := ⟨_, fn_box_init T T.cl_Take T.na_Take_box, mk_of T.mk_Take T.m_Take_init, T.g_Take.1⟩
theorem mak_Put (T : Tx P K mg) : Mak P w K mg base 5 "Put" (c_Put K) (spBoxInit (c_Put K)) := ⟨_, fn_box_init T T.cl_Put T.na_Put_box, mk_of T.mk_Put T.m_Put_init, T.g_Put.1⟩
theorem mak_Out (T : Tx P K mg) : Mak P w K mg base 5 "Out" (c_Out K) (spBoxInit (c_Out K)) := ⟨_, fn_box_init T T.cl_Out T.na_Out_box, mk_of T.mk_Out T.m_Out_init, T.g_Out.1⟩
theorem mak_Clear (T : Tx P K mg) : Mak P w K mg base 5 "Clear" (c_Clear K) (spBoxInit (c_Clear K)) := ⟨_, fn_box_init T T.cl_Clear T.na_Clear_box, mk_of T.mk_Clear T.m_Clear_init, T.g_Clear.1⟩
theorem mak_Answer (T : Tx P K mg) : Mak P w K mg base 5 "Answer" (c_Answer K) (spAnsInit (c_Answer K)) := ⟨_, fn_ans_init T T.cl_Answer T.na_Answer_number, mk_of T.mk_Answer T.m_Answer_init, T.g_Answer.1⟩
end
end L2.My
end
section
set_option Elab.async false
set_option linter.all false
set_option autoImplicit false
set_option maxRecDepth 100000
set_option maxHeartbeats 2000000
/-! deeds -/
namespace L2.My
open PySem PySem.Spec PyProof.Rows He
section
variable {P : Program} {w : World} {K : PySem.W.Frag} {mg : Str → Option Value} {base : Heap}
def spSendInit (C : Addr) : Sp := fun vs H Q _ => ∃ (a dx : Addr) (b n : Nat), vs = [.ref a, .int b, .int n] ∧ H a = some (.ins C dx []) ∧ b ≤ 2 ∧ n ≤ 5 ∧ ∀ H', Wrote H H' a (.ins C dx (D.send b n).fs) → Q .non H'
theorem fn_send_init (T : Tx P K mg) : FnR P w K mg base CXn 6 (a_Send_init K) (spSendInit (c_Send K)) := by
  refine mkSup (k := 5) T.f_Send_init sc_Send_init T.sup_Send (fn_box_init T T.cl_Send T.na_Send_box) (Nat.le_refl _) rfl rfl rfl rfl rfl T.file T.nosup T.n_super (fun _ _ _ _ _ _ _ us hl => match us, hl with | [_, _, _], _ => rfl) (fun vs H Q E h => ?_) (fun A outer H vs Q E h => ?_) (by intro _; rfl) (by intro _; rfl) (by intro _; rfl) (by intro _; rfl)
  · obtain ⟨a, dx, b, n, rfl, _⟩ := h
    rfl
  · obtain ⟨a, dx, b, n, rfl, ha, hb, hn, q⟩ := h
    refine ⟨a, fun s2 cda cc hr => ⟨rfl, dx, [], ha, _, _, pa_cons (pv 1) pa_nil, (pss_cons (ps_expr (pe_cal (cal_need_number T) hr (by decide) (by rfl) (pa_cons (pv 2) pa_nil))) (pss_one (ps_fld (pv 0) (pv 2) rfl))), ?_⟩⟩
    refine ⟨_, rfl, a, dx, b, rfl, ha, hb, fun H4 w4 => ?_⟩
    exact ⟨_, rfl, n, rfl, hn, _, rfl, _, rfl, a, _, dx, _, rfl, w4.1, T.cl_Send, T.na_Send_number, (by show 1 < 1000; decide), q _ w4.upd2⟩
def spMoveInit (C : Addr) : Sp := fun vs H Q _ => ∃ (a dx : Addr) (b n : Nat), vs = [.ref a, .int b, .int n] ∧ H a = some (.ins C dx []) ∧ b ≤ 2 ∧ n ≤ 2 ∧ n ≠ b ∧ ∀ H', Wrote H H' a (.ins C dx (D.move b n).fs) → Q .non H'
theorem fn_move_init (T : Tx P K mg) : FnR P w K mg base CXn 6 (a_Move_init K) (spMoveInit (c_Move K)) := by
  refine mkSup (k := 5) T.f_Move_init sc_Move_init T.sup_Move (fn_box_init T T.cl_Move T.na_Move_box) (Nat.le_refl _) rfl rfl rfl rfl rfl T.file T.nosup T.n_super (fun _ _ _ _ _ _ _ us hl => match us, hl with | [_, _, _], _ => rfl) (fun vs H Q E h => ?_) (fun A outer H vs Q E h => ?_) (by intro _; rfl) (by intro _; rfl) (by intro _; rfl) (by intro _; rfl)
  · obtain ⟨a, dx, b, n, rfl, _⟩ := h
    rfl
  · obtain ⟨a, dx, b, n, rfl, ha, hb, hn, hne, q⟩ := h
    refine ⟨a, fun s2 cda cc hr => ⟨rfl, dx, [], ha, _, _, pa_cons (pv 1) pa_nil, (pss_cons (ps_expr (pe_cal (cal_need_box T) hr (by decide) (by rfl) (pa_cons (pv 2) (pa_cons pe_str pa_nil)))) (pss_cons (ps_if (pt_cmpR op_eq (pv 2) (pv 1) (nomark _)) pss_never pss_nil) (pss_one (ps_fld (pv 0) (pv 2) rfl)))), ?_⟩⟩
    refine ⟨_, rfl, a, dx, b, rfl, ha, hb, fun H4 w4 => ?_⟩
    have e : decide (V.int (n : Int) = V.int (b : Int)) = false := decide_eq_false fun z => hne (Int.ofNat.inj (V.int.inj z))
    refine ⟨_, rfl, n, _, rfl, hn, _, rfl, _, rfl, rfl, _, rfl, ?_⟩
    rw [e]
    exact iteF ⟨_, rfl, _, rfl, a, _, dx, _, rfl, w4.1, T.cl_Move, T.na_Move_to, (by show 1 < 1000; decide), q _ w4.upd2⟩
theorem mak_Send (T : Tx P K mg) : Mak P w K mg base 6 "Send" (c_Send K) (spSendInit (c_Send K)) := ⟨_, fn_send_init T, mk_of T.mk_Send T.m_Send_init, T.g_Send.1⟩
theorem mak_Move (T : Tx P K mg) : Mak P w K mg base 6 "Move" (c_Move K) (spMoveInit (c_Move K)) := ⟨_, fn_move_init T, mk_of T.mk_Move T.m_Move_init, T.g_Move.1⟩
/-! ### verb -/
def spVerb (k : Kd) : Sp := fun vs H Q _ => ∃ v, vs = [v] ∧ Q (.str k.verb) H
theorem met_verb (T : Tx P K mg) (k : Kd) : Met P w K mg base 1 (cKd K k) "verb" (spVerb k) := by
  cases k
  · exact ⟨_, mkFn (k := 0) T.f_Take_verb sc_Take_verb (fun vs H Q E ⟨_, e, _⟩ => by rw [e]; rfl) (fun cdv A outer s H vs Q E hr ⟨_, e, q⟩ => by subst e; exact ⟨_, (pss_one (ps_ret pe_str)), q⟩), T.cl_Take, T.m_Take_verb⟩
  · exact ⟨_, mkFn (k := 0) T.f_Put_verb sc_Put_verb (fun vs H Q E ⟨_, e, _⟩ => by rw [e]; rfl) (fun cdv A outer s H vs Q E hr ⟨_, e, q⟩ => by subst e; exact ⟨_, (pss_one (ps_ret pe_str)), q⟩), T.cl_Put, T.m_Put_verb⟩
  · exact ⟨_, mkFn (k := 0) T.f_Out_verb sc_Out_verb (fun vs H Q E ⟨_, e, _⟩ => by rw [e]; rfl) (fun cdv A outer s H vs Q E hr ⟨_, e, q⟩ => by subst e; exact ⟨_, (pss_one (ps_ret pe_str)), q⟩), T.cl_Out, T.m_Out_verb⟩
  · exact ⟨_, mkFn (k := 0) T.f_Clear_verb sc_Clear_verb (fun vs H Q E ⟨_, e, _⟩ => by rw [e]; rfl) (fun cdv A outer s H vs Q E hr ⟨_, e, q⟩ => by subst e; exact ⟨_, (pss_one (ps_ret pe_str)), q⟩), T.cl_Clear, T.m_Clear_verb⟩
  · exact ⟨_, mkFn (k := 0) T.f_Send_verb sc_Send_verb (fun vs H Q E ⟨_, e, _⟩ => by rw [e]; rfl) (fun cdv A outer s H vs Q E hr ⟨_, e, q⟩ => by subst e; exact ⟨_, (pss_one (ps_ret pe_str)), q⟩), T.cl_Send, T.m_Send_verb⟩
  · exact ⟨_, mkFn (k := 0) T.f_Move_verb sc_Move_verb (fun vs H Q E ⟨_, e, _⟩ => by rw [e]; rfl) (fun cdv A outer s H vs Q E hr ⟨_, e, q⟩ => by subst e; exact ⟨_, (pss_one (ps_ret pe_str)), q⟩), T.cl_Move, T.m_Move_verb⟩
  · exact ⟨_, mkFn (k := 0) T.f_Answer_verb sc_Answer_verb (fun vs H Q E ⟨_, e, _⟩ => by rw [e]; rfl) (fun cdv A outer s H vs Q E hr ⟨_, e, q⟩ => by subst e; exact ⟨_, (pss_one (ps_ret pe_str)), q⟩), T.cl_Answer, T.m_Answer_verb⟩
/-! ### sides -/
def strVs (l : List Str) : List V := l.map V.str
def spSides (K : PySem.W.Frag) : Sp := fun vs H Q _ => ∃ k : Kd, vs = [.str k.verb] ∧ ∀ a H', Same H H' → SqT K H' a (strVs k.sides) → Q (.ref a) H'
theorem sides_two (T : Tx P K mg) (H : Hp) : SqT K H (sidesA K) (strVs ["sender", "receiver"]) := T.t_SIDES H
theorem cal_sides_of (T : Tx P K mg) : Cal P w K mg base 1 "sides_of" (spSides K) := by
  refine ⟨_, mkFn (k := 0) T.f_sides_of sc_sides_of (fun vs H Q E h => ?_) (fun cdv A outer s H vs Q E hr h => ?_), T.g_sides_of.1, T.g_sides_of.2⟩
  · obtain ⟨k, rfl, _⟩ := h
    rfl
  · obtain ⟨k, rfl, q⟩ := h
    refine ⟨_, (pss_cons (ps_match (pv 0) (pcs_cons (pp_or (zs := ["take", "send"]) ⟨rfl, rfl, trivial⟩) (pss_one (ps_ret (pe_tup (pa_cons pe_str pa_nil)))) (pcs_cons (pp_or (zs := ["put", "out", "answer"]) ⟨rfl, rfl, rfl, trivial⟩) (pss_one (ps_ret (pe_tup (pa_cons pe_str pa_nil)))) (pcs_cons (pp_or (zs := ["move", "clear"]) ⟨rfl, rfl, trivial⟩) (pss_one (ps_ret (pe_gref T.g_SIDES))) pcs_nil)))) (pss_one (ps_ret (pe_tup pa_nil)))), ?_⟩
    refine ⟨_, rfl, _, rfl, ?_⟩
    have tk : ∀ (b : Bool) (A B : Prop), b = true → A → if b = true then A else B := fun b A B h a => by rw [h]; exact iteT a
    have fk : ∀ (b : Bool) (A B : Prop), b = false → B → if b = true then A else B := fun b A B h a => by rw [h]; exact iteF a
    cases k
    · exact tk _ _ _ (by decide) ⟨by decide, fun p hp => q _ _ (same_upd hp) (SqT.of upd_same)⟩
    · exact fk _ _ _ (by decide) ⟨_, rfl, tk _ _ _ (by decide) ⟨by decide, fun p hp => q _ _ (same_upd hp) (SqT.of upd_same)⟩⟩
    · exact fk _ _ _ (by decide) ⟨_, rfl, tk _ _ _ (by decide) ⟨by decide, fun p hp => q _ _ (same_upd hp) (SqT.of upd_same)⟩⟩
    · exact fk _ _ _ (by decide) ⟨_, rfl, fk _ _ _ (by decide) ⟨_, rfl, tk _ _ _ (by decide) (q _ _ (Same.refl _) (sides_two T _))⟩⟩
    · exact tk _ _ _ (by decide) ⟨by decide, fun p hp => q _ _ (same_upd hp) (SqT.of upd_same)⟩
    · exact fk _ _ _ (by decide) ⟨_, rfl, fk _ _ _ (by decide) ⟨_, rfl, tk _ _ _ (by decide) (q _ _ (Same.refl _) (sides_two T _))⟩⟩
    · exact fk _ _ _ (by decide) ⟨_, rfl, tk _ _ _ (by decide) ⟨by decide, fun p hp => q _ _ (same_upd hp) (SqT.of upd_same)⟩⟩
/-! ### what a deed's methods do -/
def spIsFor (K : PySem.W.Frag) : Sp := fun vs H Q _ => ∃ (v : V) (d : D) (z : Str), vs = [v, .str z] ∧ DeedAt K H v d ∧ ∀ H', Same H H' → Q (.bl (d.fits z)) H'
theorem fn_is_for (T : Tx P K mg) : FnR P w K mg base CXn 2 (a_Deed_is_for K) (spIsFor K) := by
  refine mkFn (k := 1) T.f_Deed_is_for sc_Deed_is_for (fun vs H Q E h => ?_) (fun cdv A outer s H vs Q E hr h => ?_)
  · obtain ⟨v, d, z, rfl, _⟩ := h
    rfl
  · obtain ⟨v, d, z, rfl, ⟨a, dx, rfl, ha⟩, q⟩ := h
    refine ⟨_, (pss_one (ps_ret (pe_and (pe_callB (call_isiK K) (by rfl) T.n_isinstance boot_isinstance (pa_cons (pv 1) (pa_cons (pe_bltn (v := .ty "str") (by rfl) T.n_str boot_str rfl) pa_nil))) (pe_one (pe_cmpR (op_inK K) (pv 1) (pe_cal (cal_sides_of T) hr (by decide) (by rfl) (pa_cons (pe_ex fun k : Kd => pe_met0 (met_verb T k) hr (by decide) (pv 0)) pa_nil)) (by with_unfolding_all rfl)))))), ?_⟩
    refine ⟨_, rfl, isi_str trivial ⟨_, rfl, ?_⟩⟩
    refine iteT ⟨_, rfl, d.kd, _, rfl, a, dx, _, rfl, ha, D.fs_no, _, rfl, d.kd, rfl, fun p H' s' hs => ?_⟩
    refine ⟨p, _, rfl, .inr hs, rfl, flat_strs _, ?_⟩
    rw [show inV (.str z) (strVs d.kd.sides) = decide (z ∈ d.kd.sides) from inV_str _ _]
    exact q H' s'
theorem met_is_for (T : Tx P K mg) (k : Kd) : Met P w K mg base 2 (cKd K k) "is_for" (spIsFor K) := by
  cases k
  · exact ⟨_, fn_is_for T, T.cl_Take, T.m_Take_is_for⟩
  · exact ⟨_, fn_is_for T, T.cl_Put, T.m_Put_is_for⟩
  · exact ⟨_, fn_is_for T, T.cl_Out, T.m_Out_is_for⟩
  · exact ⟨_, fn_is_for T, T.cl_Clear, T.m_Clear_is_for⟩
  · exact ⟨_, fn_is_for T, T.cl_Send, T.m_Send_is_for⟩
  · exact ⟨_, fn_is_for T, T.cl_Move, T.m_Move_is_for⟩
  · exact ⟨_, fn_is_for T, T.cl_Answer, T.m_Answer_is_for⟩
end
end L2.My
end
section
set_option Elab.async false
set_option linter.all false
set_option autoImplicit false
set_option maxRecDepth 100000
set_option maxHeartbeats 2000000
/-! deeds: numbers, texts, parsing -/
namespace L2.My
open PySem PySem.Spec PyProof.Rows He
section
variable {P : Program} {w : World} {K : PySem.W.Frag} {mg : Str → Option Value} {base : Heap}
theorem clKd (T : Tx P K mg) (k : Kd) : Cls K (cKd K k) := by
  cases k
  · exact T.cl_Take
  · exact T.cl_Put
  · exact T.cl_Out
  · exact T.cl_Clear
  · exact T.cl_Send
  · exact T.cl_Move
  · exact T.cl_Answer
theorem fs_box_send {b n : Nat} : (D.send b n).fs.lookup ("box" : Str) = some (.int b) := by
  unfold D.fs
  rw [lookup_putF, if_neg (by decide), lookup_putF, if_pos rfl]
theorem fs_num_send {b n : Nat} : (D.send b n).fs.lookup ("number" : Str) = some (.int n) := by
  unfold D.fs
  rw [lookup_putF, if_pos rfl]
theorem fs_box_move {b n : Nat} : (D.move b n).fs.lookup ("box" : Str) = some (.int b) := by
  unfold D.fs
  rw [lookup_putF, if_neg (by decide), lookup_putF, if_pos rfl]
theorem fs_to_move {b n : Nat} : (D.move b n).fs.lookup ("to" : Str) = some (.int n) := by
  unfold D.fs
  rw [lookup_putF, if_pos rfl]
theorem fs_num_answer {n : Nat} : (D.answer n).fs.lookup ("number" : Str) = some (.int n) := by
  unfold D.fs
  rw [lookup_putF, if_pos rfl]
/-! ### numbers -/
def spNums (K : PySem.W.Frag) : Sp := fun vs H Q _ => ∃ (v : V) (d : D), vs = [v] ∧ DeedAt K H v d ∧ ∀ a H', Same H H' → SqT K H' a (natVs d.nums) → Q (.ref a) H'
/-- a promise for one kind of deed -/
def spK (k : Kd) (sp : D → V → List V → Hp → VK → Prop) (K : PySem.W.Frag) : Sp := fun vs H Q _ => ∃ (v : V) (d : D) (r : List V), vs = v :: r ∧ d.kd = k ∧ DeedAt K H v d ∧ sp d v r H Q
def sNums (K : PySem.W.Frag) : D → V → List V → Hp → VK → Prop := fun d _ r H Q => r = [] ∧ ∀ a H', Same H H' → SqT K H' a (natVs d.nums) → Q (.ref a) H'
theorem fn_nums0 (T : Tx P K mg) {k : Kd} (h : ∀ d : D, d.kd = k → d.nums = []) : FnR P w K mg base CXn 1 (a_Deed_named_numbers K) (spK k (sNums K) K) := by
  refine mkFn (k := 0) T.f_Deed_named_numbers sc_Deed_named_numbers (fun vs H Q E h => ?_) (fun cdv A outer s H vs Q E hr h => ?_)
  · obtain ⟨v, d, r, rfl, _, _, rfl, _⟩ := h
    rfl
  · rename_i hk
    obtain ⟨v, d, r, rfl, ek, _, rfl, q⟩ := h
    refine ⟨_, (pss_one (ps_ret (pe_tup pa_nil))), ?_⟩
    refine ⟨by decide, fun p hp => q _ _ (same_upd hp) ?_⟩
    rw [hk d ek]
    exact SqT.of upd_same
theorem fn_nums_send (T : Tx P K mg) : FnR P w K mg base CXn 1 (a_Send_named_numbers K) (spK .send (sNums K) K) := by
  refine mkFn (k := 0) T.f_Send_named_numbers sc_Send_named_numbers (fun vs H Q E h => ?_) (fun cdv A outer s H vs Q E hr h => ?_)
  · obtain ⟨v, d, r, rfl, _, _, rfl, _⟩ := h
    rfl
  · obtain ⟨v, d, r, rfl, ek, ⟨a, dx, rfl, ha⟩, rfl, q⟩ := h
    refine ⟨_, (pss_one (ps_ret (pe_tup (pa_cons (pe_fldK K (pv 0)) pa_nil)))), ?_⟩
    cases d <;> first | cases ek | skip
    exact ⟨_, rfl, a, _, dx, _, _, rfl, ha, T.cl_Send, T.na_Send_number, fs_num_send, (by show 1 ≤ sizeLine; decide), fun p hp => q _ _ (same_upd hp) (SqT.of upd_same)⟩
theorem fn_nums_answer (T : Tx P K mg) : FnR P w K mg base CXn 1 (a_Answer_named_numbers K) (spK .answer (sNums K) K) := by
  refine mkFn (k := 0) T.f_Answer_named_numbers sc_Answer_named_numbers (fun vs H Q E h => ?_) (fun cdv A outer s H vs Q E hr h => ?_)
  · obtain ⟨v, d, r, rfl, _, _, rfl, _⟩ := h
    rfl
  · obtain ⟨v, d, r, rfl, ek, ⟨a, dx, rfl, ha⟩, rfl, q⟩ := h
    refine ⟨_, (pss_one (ps_ret (pe_tup (pa_cons (pe_fldK K (pv 0)) pa_nil)))), ?_⟩
    cases d <;> first | cases ek | skip
    exact ⟨_, rfl, a, _, dx, _, _, rfl, ha, T.cl_Answer, T.na_Answer_number, fs_num_answer, (by show 1 ≤ sizeLine; decide), fun p hp => q _ _ (same_upd hp) (SqT.of upd_same)⟩
theorem kd_nums {k : Kd} (h1 : k ≠ .send) (h2 : k ≠ .answer) (d : D) (e : d.kd = k) : d.nums = [] := by
  cases d <;> first | rfl | exact absurd e.symm h1 | exact absurd e.symm h2
theorem kd_ren {k : Kd} (h1 : k ≠ .send) (h2 : k ≠ .answer) (d : D) (f : Nat → Nat) (e : d.kd = k) : d.ren f = d := by
  cases d <;> first | rfl | exact absurd e.symm h1 | exact absurd e.symm h2
theorem met_nums (T : Tx P K mg) (k : Kd) : Met P w K mg base 1 (cKd K k) "named_numbers" (spK k (sNums K) K) := by
  cases k
  · exact ⟨_, fn_nums0 T (kd_nums (by decide) (by decide)), T.cl_Take, T.m_Take_named_numbers⟩
  · exact ⟨_, fn_nums0 T (kd_nums (by decide) (by decide)), T.cl_Put, T.m_Put_named_numbers⟩
  · exact ⟨_, fn_nums0 T (kd_nums (by decide) (by decide)), T.cl_Out, T.m_Out_named_numbers⟩
  · exact ⟨_, fn_nums0 T (kd_nums (by decide) (by decide)), T.cl_Clear, T.m_Clear_named_numbers⟩
  · exact ⟨_, fn_nums_send T, T.cl_Send, T.m_Send_named_numbers⟩
  · exact ⟨_, fn_nums0 T (kd_nums (by decide) (by decide)), T.cl_Move, T.m_Move_named_numbers⟩
  · exact ⟨_, fn_nums_answer T, T.cl_Answer, T.m_Answer_named_numbers⟩
/-! ### renumbered -/
/-- a table over some numbers -/
def tabK (f : Nat → Nat) (dom : List Nat) : List (Key × V) := dom.map fun n : Nat => (Sum.inl (n : Int), V.int (f n : Nat))
theorem val_tabK {f : Nat → Nat} {dom : List Nat} {n : Nat} (h : n ∈ dom) : valV (tabK f dom) (Sum.inl (n : Int) : Key) = some (.int (f n)) := by
  induction dom with
  | nil => cases h
  | cons m r ih =>
    unfold tabK valV
    rw [List.map_cons, List.find?_cons]
    by_cases e : m = n
    · subst e
      simp
    · have hd : decide ((Sum.inl (m : Int) : Key) = Sum.inl (n : Int)) = false := decide_eq_false fun z => e (Int.ofNat.inj (Sum.inl.inj z))
      rw [hd]
      exact ih ((List.mem_cons.mp h).resolve_left fun z => e z.symm)
def sRen (K : PySem.W.Frag) : D → V → List V → Hp → VK → Prop := fun d _ r H Q => ∃ (t : Addr) (f : Nat → Nat) (dom : List Nat), r = [.ref t] ∧ H t = some (.dK (tabK f dom)) ∧ d.ok ∧ (∀ n ∈ d.nums, n ∈ dom ∧ f n ≤ 5) ∧ ∀ v' H', Same H H' → DeedAt K H' v' (d.ren f) → Q v' H'
theorem fn_ren0 (T : Tx P K mg) {k : Kd} (h : ∀ (d : D) (f : Nat → Nat), d.kd = k → d.ren f = d) : FnR P w K mg base CXn 1 (a_Deed_renumbered K) (spK k (sRen K) K) := by
  refine mkFn (k := 0) T.f_Deed_renumbered sc_Deed_renumbered (fun vs H Q E h => ?_) (fun cdv A outer s H vs Q E hr h => ?_)
  · obtain ⟨v, d, r, rfl, _, _, t, f, dom, rfl, _⟩ := h
    rfl
  · rename_i hk
    obtain ⟨v, d, r, rfl, ek, hd, t, f, dom, rfl, ht, ok, hf, q⟩ := h
    refine ⟨_, (pss_one (ps_ret (pv 0))), ?_⟩
    refine ⟨_, rfl, q _ _ (Same.refl _) ?_⟩
    rw [hk d f ek]
    exact hd
theorem made_same2 {H H' : Hp} {x dx C : Addr} {o : HO} {u : HO} (nx : H x = none) (nd : H dx = none) (h : Wrote (upd (upd H dx (.own x)) x u) H' x o) : Same H H' := made_same (C := C) nx nd h
theorem fn_ren_send (T : Tx P K mg) : FnR P w K mg base CXn 8 (a_Send_renumbered K) (spK .send (sRen K) K) := by
  refine mkFn (k := 7) T.f_Send_renumbered sc_Send_renumbered (fun vs H Q E h => ?_) (fun cdv A outer s H vs Q E hr h => ?_)
  · obtain ⟨v, d, r, rfl, _, _, t, f, dom, rfl, _⟩ := h
    rfl
  · obtain ⟨v, d, r, rfl, ek, ⟨a, dx, rfl, ha⟩, t, f, dom, rfl, ht, ok, hf, q⟩ := h
    refine ⟨_, (pss_one (ps_ret (pe_mak (mak_Send T) hr (by decide) (by rfl) (pa_cons (pe_fldK K (pv 0)) (pa_cons (pe_dget (hu_of hr) (pv 1) (pe_fldK K (pv 0)) (fun _ _ => rfl)) pa_nil))))), ?_⟩
    cases d <;> first | cases ek | skip
    rename_i b n
    obtain ⟨hb, _⟩ := ok
    obtain ⟨hm, h5⟩ := hf n (List.mem_singleton.mpr rfl)
    refine ⟨_, rfl, a, _, dx, _, _, rfl, ha, T.cl_Send, T.na_Send_box, fs_box_send, _, rfl, _, rfl, a, _, dx, _, _, rfl, ha, T.cl_Send, T.na_Send_number, fs_num_send, t, _, rfl, .inl ⟨_, Sum.inl (n : Int), .inl ht, rfl, (val_tabK hm).symm⟩, ?_⟩
    exact fun x dx' nx nd ne => ⟨x, dx', b, f n, rfl, upd_same, hb, h5, fun H' w' => ⟨rfl, q _ _ (made_same2 (C := c_Send K) nx nd w') ⟨x, dx', rfl, w'.1⟩⟩⟩
theorem fn_ren_answer (T : Tx P K mg) : FnR P w K mg base CXn 8 (a_Answer_renumbered K) (spK .answer (sRen K) K) := by
  refine mkFn (k := 7) T.f_Answer_renumbered sc_Answer_renumbered (fun vs H Q E h => ?_) (fun cdv A outer s H vs Q E hr h => ?_)
  · obtain ⟨v, d, r, rfl, _, _, t, f, dom, rfl, _⟩ := h
    rfl
  · obtain ⟨v, d, r, rfl, ek, ⟨a, dx, rfl, ha⟩, t, f, dom, rfl, ht, ok, hf, q⟩ := h
    refine ⟨_, (pss_one (ps_ret (pe_mak (mak_Answer T) hr (by decide) (by rfl) (pa_cons (pe_dget (hu_of hr) (pv 1) (pe_fldK K (pv 0)) (fun _ _ => rfl)) pa_nil)))), ?_⟩
    cases d <;> first | cases ek | skip
    rename_i n
    obtain ⟨hm, h5⟩ := hf n (List.mem_singleton.mpr rfl)
    refine ⟨_, rfl, _, rfl, a, _, dx, _, _, rfl, ha, T.cl_Answer, T.na_Answer_number, fs_num_answer, t, _, rfl, .inl ⟨_, Sum.inl (n : Int), .inl ht, rfl, (val_tabK hm).symm⟩, ?_⟩
    exact fun x dx' nx nd ne => ⟨x, dx', f n, rfl, upd_same, h5, fun H' w' => ⟨rfl, q _ _ (made_same2 (C := c_Answer K) nx nd w') ⟨x, dx', rfl, w'.1⟩⟩⟩
theorem met_ren (T : Tx P K mg) (k : Kd) : Met P w K mg base 8 (cKd K k) "renumbered" (spK k (sRen K) K) := by
  cases k
  · exact ⟨_, (fn_ren0 T (kd_ren (by decide) (by decide))).mono (by decide), T.cl_Take, T.m_Take_renumbered⟩
  · exact ⟨_, (fn_ren0 T (kd_ren (by decide) (by decide))).mono (by decide), T.cl_Put, T.m_Put_renumbered⟩
  · exact ⟨_, (fn_ren0 T (kd_ren (by decide) (by decide))).mono (by decide), T.cl_Out, T.m_Out_renumbered⟩
  · exact ⟨_, (fn_ren0 T (kd_ren (by decide) (by decide))).mono (by decide), T.cl_Clear, T.m_Clear_renumbered⟩
  · exact ⟨_, fn_ren_send T, T.cl_Send, T.m_Send_renumbered⟩
  · exact ⟨_, (fn_ren0 T (kd_ren (by decide) (by decide))).mono (by decide), T.cl_Move, T.m_Move_renumbered⟩
  · exact ⟨_, fn_ren_answer T, T.cl_Answer, T.m_Answer_renumbered⟩
/-! ### texts -/
def sStr (K : PySem.W.Frag) : D → V → List V → Hp → VK → Prop := fun d _ r H Q => r = [] ∧ d.ok ∧ Q (.str d.txt) H
theorem log_small {n : Nat} (h : n ≤ 1000) : ((n : Nat) : Int).natAbs.log2 < 1920 := by
  rw [Int.natAbs_natCast]
  rcases Nat.eq_zero_or_pos n with e | e
  · subst e; decide
  · have h1 : n.log2 < 10 := (Nat.log2_lt (by omega)).mpr (by omega)
    omega
theorem txt2 (a b : Str) : Txt.join " " [a, b] = a ++ (" " ++ b) := by
  rw [join_flat, flat_cons, flat, s_nil']
theorem txt3 (a b c : Str) : Txt.join " " [a, b, c] = a ++ (" " ++ (b ++ (" " ++ c))) := by
  rw [join_flat, flat_cons, flat_cons, flat, s_nil']
theorem s_len (a b : Str) : (a ++ b).length = a.length + b.length := by
  rw [← SX.S_tl a, ← SX.S_tl b, SX.S_cat, SX.S_len, SX.S_len, SX.S_len, List.length_append]
theorem verb_len (k : Kd) : k.verb.length ≤ 6 := by cases k <;> decide
theorem sp_len : (" " : Str).length = 1 := by decide
theorem D.txt_len : ∀ {d : D}, d.ok → d.txt.length ≤ 20
  | .take b, h => by
    have h1 := num_len (n := b) (by have : b ≤ 2 := h; omega)
    have e : ("take" : Str).length = 4 := by decide
    rw [show (D.take b).txt = "take" ++ (" " ++ num b) from txt2 _ _, s_len, s_len, sp_len, e]
    omega
  | .put b, h => by
    have h1 := num_len (n := b) (by have : b ≤ 2 := h; omega)
    have e : ("put" : Str).length = 3 := by decide
    rw [show (D.put b).txt = "put" ++ (" " ++ num b) from txt2 _ _, s_len, s_len, sp_len, e]
    omega
  | .out b, h => by
    have h1 := num_len (n := b) (by have : b ≤ 2 := h; omega)
    have e : ("out" : Str).length = 3 := by decide
    rw [show (D.out b).txt = "out" ++ (" " ++ num b) from txt2 _ _, s_len, s_len, sp_len, e]
    omega
  | .clear b, h => by
    have h1 := num_len (n := b) (by have : b ≤ 2 := h; omega)
    have e : ("clear" : Str).length = 5 := by decide
    rw [show (D.clear b).txt = "clear" ++ (" " ++ num b) from txt2 _ _, s_len, s_len, sp_len, e]
    omega
  | .send b c, h => by
    have h1 := num_len (n := b) (by have : b ≤ 2 := h.1; omega)
    have h2 := num_len (n := c) (by have : c ≤ 5 := by exact h.2
                                    omega)
    have e : ("send" : Str).length = 4 := by decide
    rw [show (D.send b c).txt = "send" ++ (" " ++ (num b ++ (" " ++ num c))) from txt3 _ _ _, s_len, s_len, s_len, s_len, sp_len, e]
    omega
  | .move b c, h => by
    have h1 := num_len (n := b) (by have : b ≤ 2 := h.1; omega)
    have h2 := num_len (n := c) (by have : c ≤ 5 := by have := h.2.1; omega
                                    omega)
    have e : ("move" : Str).length = 4 := by decide
    rw [show (D.move b c).txt = "move" ++ (" " ++ (num b ++ (" " ++ num c))) from txt3 _ _ _, s_len, s_len, s_len, s_len, sp_len, e]
    omega
  | .answer b, h => by
    have h1 := num_len (n := b) (by have : b ≤ 5 := h; omega)
    have e : ("answer" : Str).length = 6 := by decide
    rw [show (D.answer b).txt = "answer" ++ (" " ++ num b) from txt2 _ _, s_len, s_len, sp_len, e]
    omega
end
end L2.My
end
section
set_option Elab.async false
set_option linter.all false
set_option autoImplicit false
set_option maxRecDepth 100000
set_option maxHeartbeats 2000000
/-! deeds: texts, parsing -/
namespace L2.My
open PySem PySem.Spec PyProof.Rows He
section
variable {P : Program} {w : World} {K : PySem.W.Frag} {mg : Str → Option Value} {base : Heap}
theorem emp_s (a : Str) : Str.empty ++ a = a := by
  rw [show Str.empty = ("" : Str) from by decide, s_nil]
theorem num_s (n : Nat) : Str.ofString (toString ((n : Nat) : Int)) = num n := rfl
theorem le_line {n : Nat} (h : n ≤ 100000) : n ≤ sizeLine := Nat.le_trans h (by decide)
theorem lt_line {n : Nat} (h : n ≤ 100000) : n < sizeLine := Nat.lt_of_le_of_lt h (by decide)
theorem fn_str_box (T : Tx P K mg) {k : Kd} (h : ∀ d : D, d.kd = k → d.ok → ∃ b : Nat, d.fs = putF "box" (.int b) [] ∧ d.txt = k.verb ++ (" " ++ num b) ∧ b ≤ 2) (na : NoAttr K (cKd K k) "box") : FnR P w K mg base CXn 3 (a_BoxDeed_str K) (spK k (sStr K) K) := by
  refine mkFn (k := 2) T.f_BoxDeed_str sc_BoxDeed_str (fun vs H Q E h => ?_) (fun cdv A outer s H vs Q E hr h => ?_)
  · obtain ⟨v, d, r, rfl, _, _, rfl, _⟩ := h
    rfl
  · rename_i hh
    obtain ⟨v, d, r, rfl, ek, ⟨a, dx, rfl, ha⟩, rfl, ok, q⟩ := h
    obtain ⟨b, efs, etx, hb⟩ := hh d ek ok
    have hl : d.txt.length ≤ 20 := D.txt_len ok
    subst ek
    refine ⟨_, (pss_one (ps_ret (pe_jn (.cons (pe_fmt (pe_ex fun k : Kd => pe_met0 (met_verb T k) hr (by decide) (pv 0))) (.cons pe_str (.cons (pe_fmt (pe_fldK K (pv 0))) .nil)))))), ?_⟩
    have vl := verb_len d.kd
    have nl := num_len (n := b) (by omega)
    refine ⟨d.kd, _, rfl, a, dx, _, rfl, ha, D.fs_no, _, rfl, .inl ⟨_, rfl, le_line (by omega), ?_⟩⟩
    rw [etx] at q
    refine ⟨_, rfl, le_line (by rw [emp_s]; omega), _, rfl, le_line (by rw [emp_s, s_len, sp_len]; omega), ?_⟩
    refine ⟨_, rfl, a, _, dx, _, _, rfl, ha, clKd T _, na, by rw [efs, lookup_putF, if_pos rfl], .inr ⟨_, rfl, log_small (by omega), ?_⟩⟩
    refine ⟨_, rfl, le_line (by rw [num_s, emp_s, s_len, s_len, sp_len]; omega), ?_⟩
    show Q (.str (Str.empty ++ d.kd.verb ++ " " ++ num b)) H
    rw [emp_s, s_assoc]
    exact q
theorem fn_str_send (T : Tx P K mg) : FnR P w K mg base CXn 3 (a_Send_str K) (spK .send (sStr K) K) := by
  refine mkFn (k := 2) T.f_Send_str sc_Send_str (fun vs H Q E h => ?_) (fun cdv A outer s H vs Q E hr h => ?_)
  · obtain ⟨v, d, r, rfl, _, _, rfl, _⟩ := h
    rfl
  · obtain ⟨v, d, r, rfl, ek, ⟨a, dx, rfl, ha⟩, rfl, ok, q⟩ := h
    refine ⟨_, (pss_one (ps_ret (pe_jn (.cons pe_str (.cons (pe_fmt (pe_fldK K (pv 0))) (.cons pe_str (.cons (pe_fmt (pe_fldK K (pv 0))) .nil))))))), ?_⟩
    cases d <;> first | cases ek | skip
    rename_i b n
    obtain ⟨hb, hn⟩ := ok
    have nb := num_len (n := b) (by omega)
    have nn := num_len (n := n) (by omega)
    have e : ("send " : Str).length = 5 := by decide
    refine ⟨_, rfl, le_line (by rw [emp_s, e]; omega), _, rfl, a, _, dx, _, _, rfl, ha, T.cl_Send, T.na_Send_box, fs_box_send, .inr ⟨_, rfl, log_small (by omega), ?_⟩⟩
    refine ⟨_, rfl, le_line (by rw [num_s, emp_s, s_len, e]; omega), _, rfl, le_line (by rw [num_s, emp_s, s_len, s_len, e, sp_len]; omega), ?_⟩
    refine ⟨_, rfl, a, _, dx, _, _, rfl, ha, T.cl_Send, T.na_Send_number, fs_num_send, .inr ⟨_, rfl, log_small (by omega), ?_⟩⟩
    refine ⟨_, rfl, le_line (by rw [num_s, num_s, emp_s, s_len, s_len, s_len, e, sp_len]; omega), ?_⟩
    show Q (.str (Str.empty ++ "send " ++ num b ++ " " ++ num n)) H
    rw [emp_s]
    rw [show (D.send b n).txt = "send" ++ (" " ++ (num b ++ (" " ++ num n))) from txt3 _ _ _] at q
    rw [show ("send " : Str) = "send" ++ " " from by decide]
    simp only [s_assoc]
    exact q
theorem fn_str_move (T : Tx P K mg) : FnR P w K mg base CXn 3 (a_Move_str K) (spK .move (sStr K) K) := by
  refine mkFn (k := 2) T.f_Move_str sc_Move_str (fun vs H Q E h => ?_) (fun cdv A outer s H vs Q E hr h => ?_)
  · obtain ⟨v, d, r, rfl, _, _, rfl, _⟩ := h
    rfl
  · obtain ⟨v, d, r, rfl, ek, ⟨a, dx, rfl, ha⟩, rfl, ok, q⟩ := h
    refine ⟨_, (pss_one (ps_ret (pe_jn (.cons pe_str (.cons (pe_fmt (pe_fldK K (pv 0))) (.cons pe_str (.cons (pe_fmt (pe_fldK K (pv 0))) .nil))))))), ?_⟩
    cases d <;> first | cases ek | skip
    rename_i b n
    obtain ⟨hb, hn, _⟩ := ok
    have nb := num_len (n := b) (by omega)
    have nn := num_len (n := n) (by omega)
    have e : ("move " : Str).length = 5 := by decide
    refine ⟨_, rfl, le_line (by rw [emp_s, e]; omega), _, rfl, a, _, dx, _, _, rfl, ha, T.cl_Move, T.na_Move_box, fs_box_move, .inr ⟨_, rfl, log_small (by omega), ?_⟩⟩
    refine ⟨_, rfl, le_line (by rw [num_s, emp_s, s_len, e]; omega), _, rfl, le_line (by rw [num_s, emp_s, s_len, s_len, e, sp_len]; omega), ?_⟩
    refine ⟨_, rfl, a, _, dx, _, _, rfl, ha, T.cl_Move, T.na_Move_to, fs_to_move, .inr ⟨_, rfl, log_small (by omega), ?_⟩⟩
    refine ⟨_, rfl, le_line (by rw [num_s, num_s, emp_s, s_len, s_len, s_len, e, sp_len]; omega), ?_⟩
    show Q (.str (Str.empty ++ "move " ++ num b ++ " " ++ num n)) H
    rw [emp_s]
    rw [show (D.move b n).txt = "move" ++ (" " ++ (num b ++ (" " ++ num n))) from txt3 _ _ _] at q
    rw [show ("move " : Str) = "move" ++ " " from by decide]
    simp only [s_assoc]
    exact q
theorem fn_str_answer (T : Tx P K mg) : FnR P w K mg base CXn 3 (a_Answer_str K) (spK .answer (sStr K) K) := by
  refine mkFn (k := 2) T.f_Answer_str sc_Answer_str (fun vs H Q E h => ?_) (fun cdv A outer s H vs Q E hr h => ?_)
  · obtain ⟨v, d, r, rfl, _, _, rfl, _⟩ := h
    rfl
  · obtain ⟨v, d, r, rfl, ek, ⟨a, dx, rfl, ha⟩, rfl, ok, q⟩ := h
    refine ⟨_, (pss_one (ps_ret (pe_jn (.cons pe_str (.cons (pe_fmt (pe_fldK K (pv 0))) .nil))))), ?_⟩
    cases d <;> first | cases ek | skip
    rename_i n
    have hn : n ≤ 5 := ok
    have nn := num_len (n := n) (by omega)
    have e : ("answer " : Str).length = 7 := by decide
    refine ⟨_, rfl, le_line (by rw [emp_s, e]; omega), _, rfl, a, _, dx, _, _, rfl, ha, T.cl_Answer, T.na_Answer_number, fs_num_answer, .inr ⟨_, rfl, log_small (by omega), ?_⟩⟩
    refine ⟨_, rfl, le_line (by rw [num_s, emp_s, s_len, e]; omega), ?_⟩
    show Q (.str (Str.empty ++ "answer " ++ num n)) H
    rw [emp_s]
    rw [show (D.answer n).txt = "answer" ++ (" " ++ num n) from txt2 _ _] at q
    rw [show ("answer " : Str) = "answer" ++ " " from by decide]
    simp only [s_assoc]
    exact q
theorem box_fs_take : ∀ d : D, d.kd = .take → d.ok → ∃ b : Nat, d.fs = putF "box" (.int b) [] ∧ d.txt = Kd.verb .take ++ (" " ++ num b) ∧ b ≤ 2
  | .take b, _, ok => ⟨b, rfl, txt2 _ _, ok⟩
  | .put _, e, _ => nomatch e
  | .out _, e, _ => nomatch e
  | .clear _, e, _ => nomatch e
  | .send _ _, e, _ => nomatch e
  | .move _ _, e, _ => nomatch e
  | .answer _, e, _ => nomatch e
theorem box_fs_put : ∀ d : D, d.kd = .put → d.ok → ∃ b : Nat, d.fs = putF "box" (.int b) [] ∧ d.txt = Kd.verb .put ++ (" " ++ num b) ∧ b ≤ 2
  | .put b, _, ok => ⟨b, rfl, txt2 _ _, ok⟩
  | .take _, e, _ => nomatch e
  | .out _, e, _ => nomatch e
  | .clear _, e, _ => nomatch e
  | .send _ _, e, _ => nomatch e
  | .move _ _, e, _ => nomatch e
  | .answer _, e, _ => nomatch e
theorem box_fs_out : ∀ d : D, d.kd = .out → d.ok → ∃ b : Nat, d.fs = putF "box" (.int b) [] ∧ d.txt = Kd.verb .out ++ (" " ++ num b) ∧ b ≤ 2
  | .out b, _, ok => ⟨b, rfl, txt2 _ _, ok⟩
  | .take _, e, _ => nomatch e
  | .put _, e, _ => nomatch e
  | .clear _, e, _ => nomatch e
  | .send _ _, e, _ => nomatch e
  | .move _ _, e, _ => nomatch e
  | .answer _, e, _ => nomatch e
theorem box_fs_clear : ∀ d : D, d.kd = .clear → d.ok → ∃ b : Nat, d.fs = putF "box" (.int b) [] ∧ d.txt = Kd.verb .clear ++ (" " ++ num b) ∧ b ≤ 2
  | .clear b, _, ok => ⟨b, rfl, txt2 _ _, ok⟩
  | .take _, e, _ => nomatch e
  | .put _, e, _ => nomatch e
  | .out _, e, _ => nomatch e
  | .send _ _, e, _ => nomatch e
  | .move _ _, e, _ => nomatch e
  | .answer _, e, _ => nomatch e
theorem own_str (T : Tx P K mg) (k : Kd) : ∃ g, FnR P w K mg base CXn 3 g (spK k (sStr K) K) ∧ Own K (cKd K k) "__str__" g := by
  cases k
  · exact ⟨_, fn_str_box T box_fs_take T.na_Take_box, own_of T.m_Take_str⟩
  · exact ⟨_, fn_str_box T box_fs_put T.na_Put_box, own_of T.m_Put_str⟩
  · exact ⟨_, fn_str_box T box_fs_out T.na_Out_box, own_of T.m_Out_str⟩
  · exact ⟨_, fn_str_box T box_fs_clear T.na_Clear_box, own_of T.m_Clear_str⟩
  · exact ⟨_, fn_str_send T, own_of T.m_Send_str⟩
  · exact ⟨_, fn_str_move T, own_of T.m_Move_str⟩
  · exact ⟨_, fn_str_answer T, own_of T.m_Answer_str⟩
/-! ### integer_in -/
def spInt (K : PySem.W.Frag) : Sp := fun vs H Q _ => ∃ (l : Addr) (ws : List Str) (i m n : Nat), vs = [.ref l, .int i, .int m] ∧ SqL K H l (strVs ws) ∧ ws.length ≤ 100000 ∧ ws[i]? = some (num n) ∧ n ≤ m ∧ m ≤ 23 ∧ ∀ H', Same H H' → Q (.int n) H'
theorem strVs_get {ws : List Str} {i : Nat} {x : Str} (h : ws[i]? = some x) : (strVs ws)[i]? = some (.str x) := by
  unfold strVs
  rw [List.getElem?_map, h]; rfl
theorem cal_integer_in (T : Tx P K mg) : Cal P w K mg base 2 "integer_in" (spInt K) := by
  refine ⟨_, mkFn (k := 1) T.f_integer_in sc_integer_in (fun vs H Q E h => ?_) (fun cdv A outer s H vs Q E hr h => ?_), T.g_integer_in.1, T.g_integer_in.2⟩
  · obtain ⟨l, ws, i, m, n, rfl, _⟩ := h
    rfl
  · obtain ⟨l, ws, i, m, n, rfl, hl, hz, hi, hn, hm, q⟩ := h
    refine ⟨_, (pss_cons (ps_if (PW.pt (pw_or (pt_cmpR op_ge (pv 1) (pe_callB (call_lenK K) (by rfl) T.n_len boot_len (pa_cons (pv 0) pa_nil)) (nomark _)) (pw_or1 (pt_cmpR (op_notInK K) (pe_ix (ix_listK K) (pv 0) (pv 1) (fun _ _ => rfl)) (pe_lc (own := [("number", 3)]) (g := gName 3) (tt := tYes) rfl sc_integer_in.nd (pi_range1 rfl T.n_range (pa_cons (pe_op op_add (pv 2) pe_int) pa_nil)) (blkOk_by (N := ["words", "at", "most", "number"]) (sc := defScope s_integer_in) (by decide +kernel)) (fun _ _ _ _ _ => (pg_name (i := 3) sc_integer_in.nd rfl (by first | exact Or.inl rfl | exact Or.inr rfl))) (fun _ _ _ _ _ => pts_nil) (fun _ _ _ _ _ => (pe_callTy call_str_int (by rfl) T.n_str boot_str (pa_cons (pv 3) pa_nil)))) (by with_unfolding_all rfl))))) pss_never pss_nil) (pss_one (ps_ret (pe_callTy call_int_str (by rfl) T.n_int boot_int (pa_cons (pe_ix (ix_listK K) (pv 0) (pv 1) (fun _ _ => rfl)) pa_nil))))), ?_⟩
    have hlt : i < ws.length := (List.getElem?_eq_some_iff.mp hi).1
    refine ⟨_, rfl, _, rfl, l, strVs ws, rfl, .inl hl, _, _, rfl, rfl, _, rfl, ?_⟩
    rw [show decide (((strVs ws).length : Int) ≤ (i : Int)) = false from decide_eq_false (by unfold strVs; rw [List.length_map]; omega)]
    refine iteF ⟨_, rfl, _, rfl, l, _, _, _, rfl, rfl, hl, atI_nat (strVs_get hi), ?_⟩
    refine ⟨_, rfl, _, _, rfl, rfl, _, rfl, by omega, by omega, ?_⟩
    refine lc_mapR (b := fun _ => true) (P := fun d y _ => y = V.str (num d)) (fun _ _ _ _ _ h => h) (fun _ => rfl) (fun d H' R hd s1 k => k H' (Same.refl _)) (fun d H' R hd _ s1 k => ?_) (lt_line (by omega)) (fun H2 D ys hD s2 hy hp => ?_)
    · refine ⟨_, rfl, _, rfl, ?_, ?_⟩
      · rw [show (0 : Int) + (d : Int) = (d : Int) by omega]
        exact log_small (by omega)
      · refine k _ _ (Same.refl _) ?_
        rw [show (0 : Int) + (d : Int) = (d : Int) by omega]
        rfl
    · have ey : ys = strVs ((List.range ((m : Int) + 1).toNat).map num) := by
        rw [filter_true] at hp
        unfold strVs
        rw [List.map_map]
        exact paired_map (f := V.str ∘ num) hp
      refine ⟨D, _, rfl, .inl (SqL.of hy), rfl, by rw [ey]; exact flat_strs _, _, rfl, ?_⟩
      rw [ey, show inV (.str (num n)) (strVs ((List.range ((m : Int) + 1).toNat).map num)) = decide (num n ∈ (List.range ((m : Int) + 1).toNat).map num) from inV_str _ _]
      rw [decide_eq_true (List.mem_map.mpr ⟨n, List.mem_range.mpr (by omega), rfl⟩)]
      refine iteF ?_
      exact ⟨_, rfl, _, rfl, l, _, _, _, rfl, rfl, s2.seq hl, atI_nat (strVs_get hi), num n, n, rfl, num_int (by omega), Nat.le_trans (num_len (by omega)) (by decide), q H2 s2⟩
end
end L2.My
end
section
set_option Elab.async false
set_option linter.all false
set_option autoImplicit false
set_option maxRecDepth 100000
set_option maxHeartbeats 2000000
/-! deed_in -/
namespace L2.My
open PySem PySem.Spec PyProof.Rows He
section
variable {P : Program} {w : World} {K : PySem.W.Frag} {mg : Str → Option Value} {base : Heap}
/-- words that begin so at a place -/
def From (ws : List Str) (i : Nat) (u : List Str) : Prop := ∀ j x, u[j]? = some x → ws[i + j]? = some x
theorem from_at {ws : List Str} {i : Nat} {u : List Str} (h : From ws i u) (j : Nat) {x : Str} (hx : u[j]? = some x) : ws[i + j]? = some x := h j x hx
theorem vf : ∀ k k' : Kd, k ≠ k' → decide (k.verb = k'.verb) = false := by
  intro k k' h
  cases k <;> cases k' <;> first | exact absurd rfl h | decide
theorem vt (k : Kd) : decide (k.verb = k.verb) = true := decide_eq_true rfl
theorem vfV (k k' : Kd) (h : k ≠ k') : decide (V.str k.verb = V.str k'.verb) = false := decide_eq_false fun z => by
  have := vf k k' h
  rw [decide_eq_true (V.str.inj z)] at this
  cases this
theorem vtV (k k' : Kd) (h : k = k') : decide (V.str k.verb = V.str k'.verb) = true := decide_eq_true (by rw [h])
def spDeedIn (K : PySem.W.Frag) : Sp := fun vs H Q _ => ∃ (l sl : Addr) (ws ss : List Str) (i : Nat) (d : D), vs = [.ref l, .int i, .ref sl] ∧ SqL K H l (strVs ws) ∧ (SqL K H sl (strVs ss) ∨ SqT K H sl (strVs ss)) ∧ ws.length ≤ 99999 ∧ From ws i d.ws ∧ d.ok ∧ (∃ z ∈ ss, z ∈ d.kd.sides) ∧
  ∀ (t : Addr) (v : V) (H' : Hp), Same H H' → H' t = some (.tup [v, .int ((i + d.ws.length : Nat) : Int)]) → DeedAt K H' v d → Q (.ref t) H'
theorem same_seq {K : PySem.W.Frag} {H H' : Hp} {a : Addr} {xs : List V} (s : Same H H') (h : SqL K H a xs ∨ SqT K H a xs) : SqL K H' a xs ∨ SqT K H' a xs := h.imp s.seq (Same.sqt s)
theorem cal_deed_in (T : Tx P K mg) : Cal P w K mg base 8 "deed_in" (spDeedIn K) := by
  refine ⟨_, mkFn (k := 7) T.f_deed_in sc_deed_in (fun vs H Q E h => ?_) (fun cdv A outer s H vs Q E hr h => ?_), T.g_deed_in.1, T.g_deed_in.2⟩
  · obtain ⟨l, sl, ws, ss, i, d, rfl, _⟩ := h
    rfl
  · obtain ⟨l, sl, ws, ss, i, d, rfl, hl, hs, hz, hf, ok, ⟨z, hz1, hz2⟩, q⟩ := h
    refine ⟨_, (pss_cons (ps_set (i := 3) sc_deed_in.nd rfl (by first | exact Or.inl rfl | exact Or.inr rfl) (pe_ifExp (pt_cmpR op_lt (pv 1) (pe_callB (call_lenK K) (by rfl) T.n_len boot_len (pa_cons (pv 0) pa_nil)) (nomark _)) (pe_ix (ix_listK K) (pv 0) (pv 1) (fun _ _ => rfl)) pe_str)) (pss_cons (ps_if (pt_not (pt_val (pe_callB (cr_anyK K rfl) (by rfl) T.n_any boot_any (pa_cons (pe_lc (own := [("side", 6)]) (g := gName 6) (tt := tYes) rfl sc_deed_in.nd (pi_tupK K (pe_cal (cal_sides_of T) hr (by decide) (by rfl) (pa_cons (pv 3) pa_nil))) (blkOk_by (N := ["words", "at", "sides", "verb", "box", "to", "side"]) (sc := defScope s_deed_in) (by decide +kernel)) (fun _ _ _ _ _ => (pg_name (i := 6) sc_deed_in.nd rfl (by first | exact Or.inl rfl | exact Or.inr rfl))) (fun _ _ _ _ _ => pts_nil) (fun _ _ _ _ _ => (pe_cmpR (op_inK K) (pv 6) (pv 2) (by with_unfolding_all rfl)))) pa_nil)))) pss_never pss_nil) (pss_cons (ps_if (pt_cmpR op_eq (pv 3) pe_str (nomark _)) (pss_one (ps_ret (pe_tup (pa_cons (pe_mak (mak_Answer T) hr (by decide) (by rfl) (pa_cons (pe_cal (cal_integer_in T) hr (by decide) (by rfl) (pa_cons (pv 0) (pa_cons (pe_op op_add (pv 1) pe_int) (pa_cons (pe_gint T.i_MOST_NUMBER) pa_nil)))) pa_nil)) (pa_cons (pe_op op_add (pv 1) pe_int) pa_nil))))) pss_nil) (pss_cons (ps_set (i := 4) sc_deed_in.nd rfl (by first | exact Or.inl rfl | exact Or.inr rfl) (pe_cal (cal_integer_in T) hr (by decide) (by rfl) (pa_cons (pv 0) (pa_cons (pe_op op_add (pv 1) pe_int) (pa_cons (pe_gint T.i_MOST_BOX) pa_nil))))) (pss_cons (ps_match (pv 3) (pcs_cons pp_str (pss_one (ps_ret (pe_tup (pa_cons (pe_mak (mak_Take T) hr (by decide) (by rfl) (pa_cons (pv 4) pa_nil)) (pa_cons (pe_op op_add (pv 1) pe_int) pa_nil))))) (pcs_cons pp_str (pss_one (ps_ret (pe_tup (pa_cons (pe_mak (mak_Put T) hr (by decide) (by rfl) (pa_cons (pv 4) pa_nil)) (pa_cons (pe_op op_add (pv 1) pe_int) pa_nil))))) (pcs_cons pp_str (pss_one (ps_ret (pe_tup (pa_cons (pe_mak (mak_Out T) hr (by decide) (by rfl) (pa_cons (pv 4) pa_nil)) (pa_cons (pe_op op_add (pv 1) pe_int) pa_nil))))) (pcs_cons pp_str (pss_one (ps_ret (pe_tup (pa_cons (pe_mak (mak_Clear T) hr (by decide) (by rfl) (pa_cons (pv 4) pa_nil)) (pa_cons (pe_op op_add (pv 1) pe_int) pa_nil))))) (pcs_cons pp_str (pss_one (ps_ret (pe_tup (pa_cons (pe_mak (mak_Send T) hr (by decide) (by rfl) (pa_cons (pv 4) (pa_cons (pe_cal (cal_integer_in T) hr (by decide) (by rfl) (pa_cons (pv 0) (pa_cons (pe_op op_add (pv 1) pe_int) (pa_cons (pe_gint T.i_MOST_NUMBER) pa_nil)))) pa_nil))) (pa_cons (pe_op op_add (pv 1) pe_int) pa_nil))))) pcs_nil)))))) (pss_cons (ps_set (i := 5) sc_deed_in.nd rfl (by first | exact Or.inl rfl | exact Or.inr rfl) (pe_cal (cal_integer_in T) hr (by decide) (by rfl) (pa_cons (pv 0) (pa_cons (pe_op op_add (pv 1) pe_int) (pa_cons (pe_gint T.i_MOST_BOX) pa_nil))))) (pss_cons (ps_if (pt_cmpR op_eq (pv 5) (pv 4) (nomark _)) pss_never pss_nil) (pss_one (ps_ret (pe_tup (pa_cons (pe_mak (mak_Move T) hr (by decide) (by rfl) (pa_cons (pv 4) (pa_cons (pv 5) pa_nil))) (pa_cons (pe_op op_add (pv 1) pe_int) pa_nil)))))))))))), ?_⟩
    obtain ⟨rs, ers, _⟩ := d.ws_cons
    have h0 : ws[i]? = some d.kd.verb := by
      have := hf 0 d.kd.verb (by rw [ers]; rfl)
      exact this
    have hlt : i < ws.length := (List.getElem?_eq_some_iff.mp h0).1
    -- verb = words[at]
    refine ⟨_, rfl, _, rfl, l, strVs ws, rfl, .inl hl, _, _, rfl, rfl, _, rfl, ?_⟩
    rw [show decide ((i : Int) < ((strVs ws).length : Int)) = true from decide_eq_true (by unfold strVs; rw [List.length_map]; omega)]
    refine iteT ⟨_, rfl, _, rfl, l, _, _, _, rfl, rfl, hl, atI_nat (strVs_get h0), ?_⟩
    -- any(..)
    refine ⟨_, rfl, d.kd, rfl, fun a1 H1 s1 ha1 => ⟨_, rfl, ⟨_, ha1⟩, ?_⟩⟩
    refine lc_mapT (α := Str) (ds := d.kd.sides) (A := fun x y => x = V.str y) (b := fun _ => true) (P := fun y v _ => v = V.bl (decide (y ∈ ss))) ha1 (paired_swap (paired_of_map V.str d.kd.sides)) (fun _ _ _ _ _ h => h) (fun _ => rfl) (fun x y H' R _ _ _ k => k H' (Same.refl _)) (fun x y H' R hx _ _ s2 k => ?_) (lt_line (by cases d.kd <;> decide)) (fun H2 D2 ys hD s2 hy hp => ?_)
    · subst hx
      refine ⟨_, rfl, _, rfl, sl, strVs ss, rfl, same_seq (s1.trans s2) hs, rfl, flat_strs _, ?_⟩
      rw [show inV (.str y) (strVs ss) = decide (y ∈ ss) from inV_str _ _]
      exact k _ _ (Same.refl _) rfl
    · rw [filter_true] at hp
      have ey : ys = (d.kd.sides.map fun y => decide (y ∈ ss)).map V.bl := by
        rw [List.map_map]
        exact paired_map (f := V.bl ∘ fun y => decide (y ∈ ss)) hp
      refine ⟨D2, _, rfl, ey ▸ SqL.of hy, _, rfl, ?_⟩
      have ea : (d.kd.sides.map fun y => decide (y ∈ ss)).any id = true := by
        rw [List.any_eq_true]
        exact ⟨true, List.mem_map.mpr ⟨z, hz2, decide_eq_true hz1⟩, rfl⟩
      rw [ea]
      have hl2 : SqL K H2 l (strVs ws) := (s1.trans s2).seq hl
      have sT : Same H H2 := s1.trans s2
      have tk : ∀ (b : Bool) (A B : Prop), b = true → A → if b = true then A else B := fun b A B h a => by rw [h]; exact iteT a
      have fk : ∀ (b : Bool) (A B : Prop), b = false → B → if b = true then A else B := fun b A B h a => by rw [h]; exact iteF a
      refine iteF ⟨_, rfl, rfl, _, rfl, ?_⟩
      have at1 : ∀ {n : Nat}, d.ws[1]? = some (num n) → ∃ j : Nat, (i : Int) + 1 = (j : Int) ∧ ws[j]? = some (num n) := fun {n} e => ⟨i + 1, by omega, hf 1 _ e⟩
      have at2 : ∀ {n : Nat}, d.ws[2]? = some (num n) → ∃ j : Nat, (i : Int) + 2 = (j : Int) ∧ ws[j]? = some (num n) := fun {n} e => ⟨i + 2, by omega, hf 2 _ e⟩
      have tup2 : ∀ (H3 : Hp) (v : V) (n : Nat), Same H H3 → DeedAt K H3 v d → n = d.ws.length → [v, V.int ((i : Int) + (n : Int))].length ≤ sizeLine ∧ ∀ p, H3 p = none → Q (.ref p) (upd H3 p (.tup [v, V.int ((i : Int) + (n : Int))])) := fun H3 v n s3 hv en => by
        refine ⟨(by show 2 ≤ sizeLine; decide), fun p hp => q p v _ (Same.upd2 s3 (s3.free hp)) ?_ (hv.up (Same.up (same_upd hp)))⟩
        rw [upd_same, en, Int.natCast_add]
      cases d with
      | answer n =>
        obtain ⟨j, ej, hj⟩ := at1 (n := n) rfl
        refine tk _ _ _ (vtV .answer .answer rfl) ?_
        refine ⟨_, rfl, _, rfl, _, _, rfl, rfl, l, ws, j, 5, n, congrArg (fun z => [V.ref l, V.int z, V.int 5]) ej, hl2, by omega, hj, ok, by decide, fun H3 s3 => ?_⟩
        intro x dx nx nd ne
        refine ⟨x, dx, n, rfl, upd_same, ok, fun H4 w4 => ⟨rfl, _, rfl, _, _, rfl, rfl, ?_⟩⟩
        exact tup2 H4 (.ref x) 2 ((sT.trans s3).trans (made_same2 (C := c_Answer K) nx nd w4)) ⟨x, dx, rfl, w4.1⟩ rfl
      | take b =>
        obtain ⟨j, ej, hj⟩ := at1 (n := b) rfl
        refine fk _ _ _ (vfV .take .answer (by decide)) ?_
        refine ⟨_, rfl, _, rfl, _, _, rfl, rfl, l, ws, j, 2, b, congrArg (fun z => [V.ref l, V.int z, V.int 2]) ej, hl2, by omega, hj, ok, by decide, fun H3 s3 => ?_⟩
        refine ⟨_, rfl, _, rfl, ?_⟩
        refine tk _ _ _ (vt .take) ?_
        refine ⟨_, rfl, ?_⟩
        intro x dx nx nd ne
        refine ⟨x, dx, b, rfl, upd_same, ok, fun H4 w4 => ⟨rfl, _, rfl, _, _, rfl, rfl, ?_⟩⟩
        exact tup2 H4 (.ref x) 2 ((sT.trans s3).trans (made_same2 (C := c_Take K) nx nd w4)) ⟨x, dx, rfl, w4.1⟩ rfl
      | put b =>
        obtain ⟨j, ej, hj⟩ := at1 (n := b) rfl
        refine fk _ _ _ (vfV .put .answer (by decide)) ?_
        refine ⟨_, rfl, _, rfl, _, _, rfl, rfl, l, ws, j, 2, b, congrArg (fun z => [V.ref l, V.int z, V.int 2]) ej, hl2, by omega, hj, ok, by decide, fun H3 s3 => ?_⟩
        refine ⟨_, rfl, _, rfl, ?_⟩
        refine fk _ _ _ (vf .put .take (by decide)) ⟨_, rfl, ?_⟩
        refine tk _ _ _ (vt .put) ?_
        refine ⟨_, rfl, ?_⟩
        intro x dx nx nd ne
        refine ⟨x, dx, b, rfl, upd_same, ok, fun H4 w4 => ⟨rfl, _, rfl, _, _, rfl, rfl, ?_⟩⟩
        exact tup2 H4 (.ref x) 2 ((sT.trans s3).trans (made_same2 (C := c_Put K) nx nd w4)) ⟨x, dx, rfl, w4.1⟩ rfl
      | out b =>
        obtain ⟨j, ej, hj⟩ := at1 (n := b) rfl
        refine fk _ _ _ (vfV .out .answer (by decide)) ?_
        refine ⟨_, rfl, _, rfl, _, _, rfl, rfl, l, ws, j, 2, b, congrArg (fun z => [V.ref l, V.int z, V.int 2]) ej, hl2, by omega, hj, ok, by decide, fun H3 s3 => ?_⟩
        refine ⟨_, rfl, _, rfl, ?_⟩
        refine fk _ _ _ (vf .out .take (by decide)) ⟨_, rfl, ?_⟩
        refine fk _ _ _ (vf .out .put (by decide)) ⟨_, rfl, ?_⟩
        refine tk _ _ _ (vt .out) ?_
        refine ⟨_, rfl, ?_⟩
        intro x dx nx nd ne
        refine ⟨x, dx, b, rfl, upd_same, ok, fun H4 w4 => ⟨rfl, _, rfl, _, _, rfl, rfl, ?_⟩⟩
        exact tup2 H4 (.ref x) 2 ((sT.trans s3).trans (made_same2 (C := c_Out K) nx nd w4)) ⟨x, dx, rfl, w4.1⟩ rfl
      | clear b =>
        obtain ⟨j, ej, hj⟩ := at1 (n := b) rfl
        refine fk _ _ _ (vfV .clear .answer (by decide)) ?_
        refine ⟨_, rfl, _, rfl, _, _, rfl, rfl, l, ws, j, 2, b, congrArg (fun z => [V.ref l, V.int z, V.int 2]) ej, hl2, by omega, hj, ok, by decide, fun H3 s3 => ?_⟩
        refine ⟨_, rfl, _, rfl, ?_⟩
        refine fk _ _ _ (vf .clear .take (by decide)) ⟨_, rfl, ?_⟩
        refine fk _ _ _ (vf .clear .put (by decide)) ⟨_, rfl, ?_⟩
        refine fk _ _ _ (vf .clear .out (by decide)) ⟨_, rfl, ?_⟩
        refine tk _ _ _ (vt .clear) ?_
        refine ⟨_, rfl, ?_⟩
        intro x dx nx nd ne
        refine ⟨x, dx, b, rfl, upd_same, ok, fun H4 w4 => ⟨rfl, _, rfl, _, _, rfl, rfl, ?_⟩⟩
        exact tup2 H4 (.ref x) 2 ((sT.trans s3).trans (made_same2 (C := c_Clear K) nx nd w4)) ⟨x, dx, rfl, w4.1⟩ rfl
      | send b n =>
        obtain ⟨j, ej, hj⟩ := at1 (n := b) rfl
        obtain ⟨j2, ej2, hj2⟩ := at2 (n := n) rfl
        refine fk _ _ _ (vfV .send .answer (by decide)) ?_
        refine ⟨_, rfl, _, rfl, _, _, rfl, rfl, l, ws, j, 2, b, congrArg (fun z => [V.ref l, V.int z, V.int 2]) ej, hl2, by omega, hj, ok.1, by decide, fun H3 s3 => ?_⟩
        refine ⟨_, rfl, _, rfl, ?_⟩
        refine fk _ _ _ (vf .send .take (by decide)) ⟨_, rfl, ?_⟩
        refine fk _ _ _ (vf .send .put (by decide)) ⟨_, rfl, ?_⟩
        refine fk _ _ _ (vf .send .out (by decide)) ⟨_, rfl, ?_⟩
        refine fk _ _ _ (vf .send .clear (by decide)) ⟨_, rfl, ?_⟩
        refine tk _ _ _ (vt .send) ?_
        refine ⟨_, rfl, _, rfl, _, rfl, _, _, rfl, rfl, l, ws, j2, 5, n, congrArg (fun z => [V.ref l, V.int z, V.int 5]) ej2, s3.seq hl2, by omega, hj2, ok.2, by decide, fun H4 s4 => ?_⟩
        intro x dx nx nd ne
        refine ⟨x, dx, b, n, rfl, upd_same, ok.1, ok.2, fun H5 w5 => ⟨rfl, _, rfl, _, _, rfl, rfl, ?_⟩⟩
        exact tup2 H5 (.ref x) 3 (((sT.trans s3).trans s4).trans (made_same2 (C := c_Send K) nx nd w5)) ⟨x, dx, rfl, w5.1⟩ rfl
      | move b n =>
        obtain ⟨j, ej, hj⟩ := at1 (n := b) rfl
        obtain ⟨j2, ej2, hj2⟩ := at2 (n := n) rfl
        refine fk _ _ _ (vfV .move .answer (by decide)) ?_
        refine ⟨_, rfl, _, rfl, _, _, rfl, rfl, l, ws, j, 2, b, congrArg (fun z => [V.ref l, V.int z, V.int 2]) ej, hl2, by omega, hj, ok.1, by decide, fun H3 s3 => ?_⟩
        refine ⟨_, rfl, _, rfl, ?_⟩
        refine fk _ _ _ (vf .move .take (by decide)) ⟨_, rfl, ?_⟩
        refine fk _ _ _ (vf .move .put (by decide)) ⟨_, rfl, ?_⟩
        refine fk _ _ _ (vf .move .out (by decide)) ⟨_, rfl, ?_⟩
        refine fk _ _ _ (vf .move .clear (by decide)) ⟨_, rfl, ?_⟩
        refine fk _ _ _ (vf .move .send (by decide)) ⟨_, rfl, ?_⟩
        refine ⟨_, rfl, _, _, rfl, rfl, l, ws, j2, 2, n, congrArg (fun z => [V.ref l, V.int z, V.int 2]) ej2, s3.seq hl2, by omega, hj2, ok.2.1, by decide, fun H4 s4 => ?_⟩
        have e : decide (V.int (n : Int) = V.int (b : Int)) = false := decide_eq_false fun z => ok.2.2 (Int.ofNat.inj (V.int.inj z))
        refine ⟨_, rfl, _, rfl, rfl, _, rfl, fk _ _ _ e ?_⟩
        refine ⟨_, rfl, _, rfl, ?_⟩
        intro x dx nx nd ne
        refine ⟨x, dx, b, n, rfl, upd_same, ok.1, ok.2.1, ok.2.2, fun H5 w5 => ⟨rfl, _, rfl, _, _, rfl, rfl, ?_⟩⟩
        exact tup2 H5 (.ref x) 3 (((sT.trans s3).trans s4).trans (made_same2 (C := c_Move K) nx nd w5)) ⟨x, dx, rfl, w5.1⟩ rfl
end
end L2.My
end
section
set_option Elab.async false
set_option linter.all false
set_option autoImplicit false
set_option maxRecDepth 100000
set_option maxHeartbeats 2000000
/-! rows: the small defs -/
namespace L2.My
open PySem PySem.Spec PyProof.Rows He
section
variable {X : Cx}
theorem pi_seqK (K : PySem.W.Frag) {tg l : Expr} {tl : TE} (hl : PE X l tl) (h : X.K = K := by rfl) : PI X tg l (fun σ H R => iList K tl σ H R ∨ iTup K tl σ H R) :=
  ⟨fun pins s σ H R I q => q.elim (fun q => (pi_listK K hl h).run pins s σ H R I q) (fun q => (pi_tupK K hl h).run pins s σ H R I q)⟩
end
section
variable {K : PySem.W.Frag} {a b : Addr} {xs ys : List V} {te : TE} {vs : List Nat} {σ : L2.St} {H1 : Hp} {Qd : Addr → Hp → Prop} {i j : Nat} {f : Nat → Bool}
theorem lc_zipTb (hx : SqT K H1 a xs) (hy : SqT K H1 b ys) (hle : ys.length ≤ xs.length) (hw : ∀ x y, wipe (((wipe σ vs).set i (some x)).set j (some y)) vs = wipe σ vs)
    (he : ∀ n x y H' (R : VK), xs[n]? = some x → ys[n]? = some y → Same H1 H' → (∀ H'', Same H' H'' → R (.bl (f n)) H'') → te (((wipe σ vs).set i (some x)).set j (some y)) H' R)
    (hlen : ys.length < sizeLine) (k : ∀ H2 D, H1 D = none → Same H1 H2 → H2 D = some (.lst ((List.range ys.length).map fun n => V.bl (f n))) → Qd D H2) :
    ∀ D, H1 D = none → ∃ W : Nat → Nat → Hp → Prop, (∃ m, W 0 m (upd H1 D (.lst []))) ∧ ∀ n m H, W n m H →
      ((RZ.ItzT K a b).stop n H ∧ Qd D H) ∨ ((RZ.ItzT K a b).go n H ∧ ∃ Nx : Hp → Prop, (∀ H', Nx H' → ∃ m', m' < m ∧ W (n + 1) m' H') ∧ ∀ x H', (RZ.ItzT K a b).yld n H x H' → gTup K 2 (gCons (gName i) (gCons (gName j) gNil)) x (wipe σ vs) H' fun σ2 H2 => wipe σ2 vs = wipe σ vs ∧ tYes σ2 H2 fun c H3 =>
        if c = true then te σ2 H3 fun y H4 => ∃ acc, H4 D = some (.lst acc) ∧ acc.length < sizeLine ∧ Nx (upd H4 D (.lst (acc ++ [y]))) else Nx H3) := by
  intro D hD
  refine ⟨fun n m H => m = ys.length - n ∧ n ≤ ys.length ∧ Same H1 H ∧ H D = some (.lst ((List.range n).map fun n => V.bl (f n))), ⟨_, rfl, Nat.zero_le _, same_upd hD, upd_same⟩, ?_⟩
  rintro n m H ⟨rfl, hn, s, hd⟩
  have qx := Same.sqt s hx
  have qy := Same.sqt s hy
  by_cases hlt : n < ys.length
  · have e1 : ys[n]? = some ys[n] := List.getElem?_eq_getElem hlt
    have hlt2 : n < xs.length := by omega
    have e2 : xs[n]? = some xs[n] := List.getElem?_eq_getElem hlt2
    refine .inr ⟨⟨xs, ys, _, _, qx, qy, e2, e1⟩, fun H' => Same H1 H' ∧ H' D = some (.lst ((List.range (n + 1)).map fun n => V.bl (f n))), fun H' p' => ⟨ys.length - (n + 1), by omega, rfl, hlt, p'⟩, fun v H' y => ?_⟩
    obtain ⟨T, x', y', rfl, hT, rfl, f1, f2⟩ := y
    have sT : Same H (upd H T (.tup [x', y'])) := same_upd hT
    refine ⟨T, [x', y'], rfl, SqT.of upd_same, rfl, x', [y'], rfl, y', [], rfl, rfl, hw _ _, ?_⟩
    refine tYes_ok ?_
    rw [if_pos rfl]
    refine he n x' y' _ _ (f1 xs qx) (f2 ys qy) (s.trans sT) fun H4 s4 => ?_
    have hd4 : H4 D = some (.lst ((List.range n).map fun n => V.bl (f n))) := s4 _ _ (sT _ _ hd)
    refine ⟨_, hd4, ?_, Same.upd2 ((s.trans sT).trans s4) hD, ?_⟩
    · rw [List.length_map, List.length_range]
      omega
    · rw [upd_same, List.range_succ, List.map_append]; rfl
  · have e : n = ys.length := by omega
    subst e
    exact .inl ⟨⟨xs, ys, qx, qy, Or.inr (Nat.le_refl _)⟩, k H D hD s hd⟩
end
section
variable {P : Program} {w : World} {K : PySem.W.Frag} {mg : Str → Option Value} {base : Heap}
/-! ### sides that fit -/
def fitS (ds : List D) : List Str := (["sender", "receiver"] : List Str).filter fun z => ds.all fun d => d.fits z
/-- deeds in a list or a tuple -/
def spFit (K : PySem.W.Frag) : Sp := fun vs H Q _ => ∃ (l : Addr) (xs : List V) (ds : List D), vs = [.ref l] ∧ (SqL K H l xs ∨ SqT K H l xs) ∧ Paired (DeedAt K H) xs ds ∧ ds.length ≤ 1000 ∧ ∀ a H', Same H H' → SqT K H' a (strVs (fitS ds)) → Q (.ref a) H'
theorem cal_fit_sides (T : Tx P K mg) : Cal P w K mg base 4 "fit_sides" (spFit K) := by
  refine ⟨_, mkFn (k := 3) T.f_fit_sides sc_fit_sides (fun vs H Q E h => ?_) (fun cdv A outer s H vs Q E hr h => ?_), T.g_fit_sides.1, T.g_fit_sides.2⟩
  · obtain ⟨l, xs, ds, rfl, _⟩ := h
    rfl
  · obtain ⟨l, xs, ds, rfl, hl, hp, hz, q⟩ := h
    refine ⟨_, (pss_one (ps_ret (pe_callTy call_tuple_of (by rfl) T.n_tuple boot_tuple (pa_cons (pe_lc (own := [("side", 1)]) (g := gName 1) rfl sc_fit_sides.nd (pi_tupK K (pe_gref T.g_SIDES)) (blkOk_by (N := ["deeds", "side", "deed"]) (sc := defScope s_fit_sides) (by decide +kernel)) (fun _ _ _ _ _ => (pg_name (i := 1) sc_fit_sides.nd rfl (by first | exact Or.inl rfl | exact Or.inr rfl))) (fun _ _ _ _ _ => (pts_one (pt_val (pe_callB (cr_allK K rfl) (by rfl) T.n_all boot_all (pa_cons (pe_lc (own := [("deed", 2)]) (g := gName 2) (tt := tYes) rfl sc_fit_sides.nd (pi_seqK K (pv 0)) (blkOk_by (by kernel_rfl)) (fun _ _ _ _ _ => (pg_name (i := 2) sc_fit_sides.nd rfl (by first | exact Or.inl rfl | exact Or.inr rfl))) (fun _ _ _ _ _ => pts_nil) (fun _ _ _ _ _ => (pe_exK fun k : Kd => pe_met (met_is_for T k) hr (by decide) (pv 2) (pa_cons (pv 1) pa_nil)))) pa_nil))))) (fun _ _ _ _ _ => (pv 1))) pa_nil)))), ?_⟩
    refine ⟨sidesA K, rfl, ⟨_, sides_two T H⟩, ?_⟩
    have inner : ∀ (z : Str) (H' : Hp) (R : Bool → Hp → Prop), Same H H' → (∀ H'', Same H' H'' → R (ds.all fun d => d.fits z) H'') → ∀ (σ : L2.St), σ = [some (.ref l), some (.str z), none] →
        (tCB (rAll K) (tCons (tLc (fun σ H R => iList K (tVar 0) σ H R ∨ iTup K (tVar 0) σ H R) (gName 2) tYes (tEx fun k : Kd => tMethR (cKd K k) "is_for" (spIsFor K) En (tVar 2) (tCons (tVar 1) tNil)) [2]) tNil)) σ H' fun x H1 => ∃ c, x = .bl c ∧ R c H1 := by
      intro z H' R s1 k σ eσ
      subst eσ
      have turn : ∀ (x : V) (d : D) (H2 : Hp) (R : VK), DeedAt K H x d → d ∈ ds → true = true → Same H' H2 → (∀ y H3, Same H2 H3 → y = V.bl (d.fits z) → R y H3) →
          ∃ k : Kd, tMethR (cKd K k) "is_for" (spIsFor K) En (tVar 2) (tCons (tVar 1) tNil) ((wipe [some (.ref l), some (.str z), none] [2]).set 2 (some x)) H2 R := by
        intro x d H2 R hx _ _ s2 k
        obtain ⟨a, dx, rfl, ha⟩ := hx
        have ha2 := (s1.trans s2) _ _ ha
        exact ⟨d.kd, _, rfl, a, dx, _, rfl, ha2, D.fs_no, _, rfl, _, d, z, rfl, ⟨a, dx, rfl, ha2⟩, fun H3 s3 => k _ _ s3 rfl⟩
      have fin : ∀ (H2 : Hp) (D2 : Addr) (ys : List V), Same H' H2 → H2 D2 = some (.lst ys) → Paired (fun d y => y = V.bl (D.fits d z)) (ds.filter fun _ => true) ys → rAll K [.ref D2] H2 fun x H1 => ∃ c, x = .bl c ∧ R c H1 := by
        intro H2 D2 ys s2 hy hp2
        rw [filter_true] at hp2
        have ey : ys = (ds.map fun d => d.fits z).map V.bl := by
          rw [List.map_map]
          exact paired_map (f := V.bl ∘ fun d : D => d.fits z) hp2
        refine ⟨D2, _, rfl, ey ▸ SqL.of hy, _, rfl, ?_⟩
        rw [List.all_map]
        exact k H2 s2
      rcases hl with hl | hl
      · refine .inl ⟨_, rfl, l, rfl, ⟨_, s1.seq hl⟩, ?_⟩
        refine lc_mapL (tt := tYes) (ds := ds) (A := DeedAt K H) (b := fun _ => true) (P := fun d y _ => y = V.bl (d.fits z)) (s1.seq hl) hp (fun _ _ _ _ _ h => h) (fun _ => rfl) (fun x d H2 R _ _ _ k => k H2 (Same.refl _)) (fun x d H2 R h1 h2 h3 s2 k => ?_) (lt_line (by omega)) fun H2 D2 ys _ s2 hy hp2 => ?_
        · exact turn x d H2 R h1 h2 h3 s2 k
        · exact fin H2 D2 ys s2 hy hp2
      · refine .inr ⟨_, rfl, l, rfl, ⟨_, Same.sqt s1 hl⟩, ?_⟩
        refine lc_mapT (tt := tYes) (ds := ds) (A := DeedAt K H) (b := fun _ => true) (P := fun d y _ => y = V.bl (d.fits z)) (Same.sqt s1 hl) hp (fun _ _ _ _ _ h => h) (fun _ => rfl) (fun x d H2 R _ _ _ k => k H2 (Same.refl _)) (fun x d H2 R h1 h2 h3 s2 k => ?_) (lt_line (by omega)) fun H2 D2 ys _ s2 hy hp2 => ?_
        · exact turn x d H2 R h1 h2 h3 s2 k
        · exact fin H2 D2 ys s2 hy hp2
    refine lc_mapT (α := Str) (ds := ["sender", "receiver"]) (A := fun x y => x = V.str y) (b := fun z => ds.all fun d => d.fits z) (P := fun y v _ => v = V.str y) (sides_two T H) (paired_swap (paired_of_map V.str _)) (fun _ _ _ _ _ h => h) (fun _ => rfl) (fun x z H' R hx _ s1 k => ?_) (fun x z H' R hx _ _ s1 k => ?_) (lt_line (by decide)) (fun H2 D2 ys _ s2 hy hp2 => ?_)
    · subst hx
      exact inner z H' R s1 k _ rfl
    · subst hx
      exact ⟨_, rfl, k _ _ (Same.refl _) rfl⟩
    · have ey : ys = strVs (fitS ds) := paired_map (f := V.str) hp2
      refine ⟨D2, ys, rfl, .inl ⟨SqL.of hy, fun t ht => q t _ (Same.upd2 s2 (s2.free ht)) ?_⟩⟩
      rw [ey]
      exact SqT.of upd_same
end
end L2.My
end
section
set_option Elab.async false
set_option linter.all false
set_option autoImplicit false
set_option maxRecDepth 100000
set_option maxHeartbeats 2000000
/-! rows: more small defs -/
namespace L2.My
open PySem PySem.Spec PyProof.Rows He
section
variable {P : Program} {w : World} {K : PySem.W.Frag} {mg : Str → Option Value} {base : Heap}
theorem itKd (T : Tx P K mg) (k : Kd) : InsT K (cKd K k) := by
  cases k
  · exact T.it_Take
  · exact T.it_Put
  · exact T.it_Out
  · exact T.it_Clear
  · exact T.it_Send
  · exact T.it_Move
  · exact T.it_Answer
theorem kitDeed (T : Tx P K mg) (k : Kd) : PySem.W.kitOne K (.ref (cKd K k)) (.ref (c_Deed K)) = some true := by
  cases k
  · exact T.k_Take_Deed
  · exact T.k_Put_Deed
  · exact T.k_Out_Deed
  · exact T.k_Clear_Deed
  · exact T.k_Send_Deed
  · exact T.k_Move_Deed
  · exact T.k_Answer_Deed
theorem kitTake (T : Tx P K mg) (k : Kd) : PySem.W.kitOne K (.ref (cKd K k)) (.ref (c_Take K)) = some (decide (k = .take)) := by
  cases k
  · exact T.k_Take_Take
  · exact T.k_Put_Take
  · exact T.k_Out_Take
  · exact T.k_Clear_Take
  · exact T.k_Send_Take
  · exact T.k_Move_Take
  · exact T.k_Answer_Take
theorem kitPut (T : Tx P K mg) (k : Kd) : PySem.W.kitOne K (.ref (cKd K k)) (.ref (c_Put K)) = some (decide (k = .put)) := by
  cases k
  · exact T.k_Take_Put
  · exact T.k_Put_Put
  · exact T.k_Out_Put
  · exact T.k_Clear_Put
  · exact T.k_Send_Put
  · exact T.k_Move_Put
  · exact T.k_Answer_Put
/-- isinstance of a deed -/
theorem isi_deed (T : Tx P K mg) {H : Hp} {v : V} {d : D} {C : Addr} {b : Bool} {Q : VK} (h : DeedAt K H v d) (k : PySem.W.kitOne K (.ref (cKd K d.kd)) (.ref C) = some b) (q : Q (.bl b) H) : OIsi K [v, .ref C] H Q := by
  obtain ⟨a, dx, rfl, ha⟩ := h
  exact isi_ins ha (clKd T _) (itKd T _) k q
/-! ### need_deeds -/
def takes (ds : List D) : Nat := (ds.filter fun d => decide (d.kd = .take)).length
def spNeedDeeds (K : PySem.W.Frag) : Sp := fun vs H Q _ => ∃ (l : Addr) (xs : List V) (ds : List D), vs = [.ref l] ∧ SqT K H l xs ∧ Paired (DeedAt K H) xs ds ∧ ds.length ≤ 8 ∧ fitS ds ≠ [] ∧ takes ds ≤ 1 ∧ ∀ H', Same H H' → Q .non H'
theorem cal_need_deeds (T : Tx P K mg) : Cal P w K mg base 5 "need_deeds" (spNeedDeeds K) := by
  refine ⟨_, mkFn (k := 4) T.f_need_deeds sc_need_deeds (fun vs H Q E h => ?_) (fun cdv A outer s H vs Q E hr h => ?_), T.g_need_deeds.1, T.g_need_deeds.2⟩
  · obtain ⟨l, xs, ds, rfl, _⟩ := h
    rfl
  · obtain ⟨l, xs, ds, rfl, hl, hp, hz, hf, ht, q⟩ := h
    refine ⟨_, (pss_cons (ps_if (PW.pt (pw_or (pt_cmpR op_gt (pe_callB (call_lenK K) (by rfl) T.n_len boot_len (pa_cons (pv 0) pa_nil)) (pe_gint T.i_MOST_DEEDS) (nomark _)) (pw_or1 (pt_not (pt_val (pe_callB (cr_allK K rfl) (by rfl) T.n_all boot_all (pa_cons (pe_lc (own := [("deed", 1)]) (g := gName 1) (tt := tYes) rfl sc_need_deeds.nd (pi_tupK K (pv 0)) (blkOk_by (N := ["deeds", "deed"]) (sc := defScope s_need_deeds) (by decide +kernel)) (fun _ _ _ _ _ => (pg_name (i := 1) sc_need_deeds.nd rfl (by first | exact Or.inl rfl | exact Or.inr rfl))) (fun _ _ _ _ _ => pts_nil) (fun _ _ _ _ _ => (pe_callB (call_isiK K) (by rfl) T.n_isinstance boot_isinstance (pa_cons (pv 1) (pa_cons (pe_gref T.g_Deed.1) pa_nil))))) pa_nil))))))) pss_never pss_nil) (pss_one (ps_if (PW.pt (pw_or (pt_cmpR op_eq (pe_callB (call_lenK K) (by rfl) T.n_len boot_len (pa_cons (pe_cal (cal_fit_sides T) hr (by decide) (by rfl) (pa_cons (pv 0) pa_nil)) pa_nil)) pe_int (nomark _)) (pw_or1 (pt_cmpR op_gt (pe_callB (call_lenK K) (by rfl) T.n_len boot_len (pa_cons (pe_lc (own := [("deed", 1)]) (g := gName 1) rfl sc_need_deeds.nd (pi_tupK K (pv 0)) (blkOk_by (N := ["deeds", "deed"]) (sc := defScope s_need_deeds) (by decide +kernel)) (fun _ _ _ _ _ => (pg_name (i := 1) sc_need_deeds.nd rfl (by first | exact Or.inl rfl | exact Or.inr rfl))) (fun _ _ _ _ _ => (pts_one (pt_val (pe_callB (call_isiK K) (by rfl) T.n_isinstance boot_isinstance (pa_cons (pv 1) (pa_cons (pe_gref T.g_Take.1) pa_nil)))))) (fun _ _ _ _ _ => pe_int)) pa_nil)) pe_int (nomark _))))) pss_never pss_nil))), ?_⟩
    have fk : ∀ (b : Bool) (A B : Prop), b = false → B → if b = true then A else B := fun b A B h a => by rw [h]; exact iteF a
    have hxl : xs.length = ds.length := hp.length
    refine ⟨_, rfl, l, xs, rfl, .inr hl, _, _, rfl, rfl, _, rfl, fk _ _ _ (decide_eq_false (by omega)) ?_⟩
    refine ⟨_, rfl, l, rfl, ⟨_, hl⟩, ?_⟩
    refine lc_mapT (tt := tYes) (ds := ds) (A := DeedAt K H) (b := fun _ => true) (P := fun d y _ => y = V.bl true) hl hp (fun _ _ _ _ _ h => h) (fun _ => rfl) (fun x d H2 R _ _ _ k => k H2 (Same.refl _)) (fun x d H2 R hx _ _ s2 k => ?_) (lt_line (by omega)) fun H2 D2 ys _ s2 hy hp2 => ?_
    · exact ⟨_, rfl, isi_deed T (hx.up (Same.up s2)) (kitDeed T _) (k _ _ (Same.refl _) rfl)⟩
    rw [filter_true] at hp2
    have ey : ys = (ds.map fun _ => true).map V.bl := by
      rw [List.map_map]
      exact paired_map (f := V.bl ∘ fun _ : D => true) hp2
    refine ⟨D2, _, rfl, ey ▸ SqL.of hy, _, rfl, fk _ _ _ (by simp) ?_⟩
    -- the sides, the takes
    refine ⟨_, rfl, l, xs, ds, rfl, .inr (Same.sqt s2 hl), Paired.mapP hp fun _ _ q => q.up (Same.up s2), by omega, fun a3 H3 s3 ha3 => ?_⟩
    have s03 := s2.trans s3
    refine ⟨a3, _, rfl, .inr ha3, rfl, _, rfl, fk _ _ _ (decide_eq_false fun z => ?_) ?_⟩
    · have : ((strVs (fitS ds)).length : Int) = 0 := V.int.inj z
      unfold strVs at this
      rw [List.length_map] at this
      exact hf (List.eq_nil_of_length_eq_zero (by omega))
    refine ⟨_, rfl, l, rfl, ⟨_, Same.sqt s03 hl⟩, ?_⟩
    refine lc_mapT (ds := ds) (A := DeedAt K H) (b := fun d => decide (d.kd = .take)) (P := fun d y _ => y = V.int 1) (Same.sqt s03 hl) hp (fun _ _ _ _ _ h => h) (fun _ => rfl) (fun x d H2 R hx _ s4 k => ?_) (fun x d H2 R hx _ _ s2 k => ?_) (lt_line (by omega)) fun H4 D4 ys _ s4 hy hp2 => ?_
    · exact ⟨_, rfl, isi_deed T (hx.up (Same.up (s03.trans s4))) (kitTake T _) ⟨_, rfl, k _ (Same.refl _)⟩⟩
    · exact k _ _ (Same.refl _) rfl
    · have el : ys.length = takes ds := hp2.length.symm
      exact ⟨D4, ys, rfl, .inl (SqL.of hy), _, _, rfl, rfl, _, rfl, fk _ _ _ (decide_eq_false (by omega)) (q _ (s03.trans s4))⟩
/-! ### is_heard, rank_of -/
def spHeard : Sp := fun vs H Q _ => ∃ h : Hr, vs = [h.v] ∧ h.ok ∧ Q (.bl true) H
theorem cal_is_heard (T : Tx P K mg) : Cal P w K mg base 4 "is_heard" spHeard := by
  refine ⟨_, mkFn (k := 3) T.f_is_heard sc_is_heard (fun vs H Q E h => ?_) (fun cdv A outer s H vs Q E hr h => ?_), T.g_is_heard.1, T.g_is_heard.2⟩
  · obtain ⟨h, rfl, _⟩ := h
    rfl
  · obtain ⟨h, rfl, ok, q⟩ := h
    refine ⟨_, (pss_one (ps_ret (pe_or (pe_cmp (pc_isN (pv 0))) (pe_or (pe_cal (cal_is_number T) hr (by decide) (by rfl) (pa_cons (pv 0) pa_nil)) (pe_one (pe_and (pe_callB (call_isiK K) (by rfl) T.n_isinstance boot_isinstance (pa_cons (pv 0) (pa_cons (pe_bltn (v := .ty "str") (by rfl) T.n_str boot_str rfl) pa_nil))) (pe_one (pe_cmpR op_eq (pv 0) (pe_gstr T.s_OTHER) (nomark _))))))))), ?_⟩
    cases h with
    | non => exact ⟨_, rfl, true, rfl, iteT q⟩
    | oth => exact ⟨_, rfl, false, rfl, iteF ⟨_, rfl, _, rfl, trivial, false, rfl, iteF ⟨_, rfl, isi_str trivial ⟨true, rfl, iteT ⟨_, rfl, rfl, (decide_eq_true (p := Hr.oth.v = V.str "other") rfl).symm ▸ q⟩⟩⟩⟩⟩
    | num n =>
      exact ⟨_, rfl, false, rfl, iteF ⟨_, rfl, _, rfl, trivial, true, congrArg V.bl (wit_nat (m := 5) ok), iteT q⟩⟩
def spRank : Sp := fun vs H Q _ => ∃ h : Hr, vs = [h.v] ∧ Q (.int h.rank) H
theorem cal_rank_of (T : Tx P K mg) : Cal P w K mg base 1 "rank_of" spRank := by
  refine ⟨_, mkFn (k := 0) T.f_rank_of sc_rank_of (fun vs H Q E h => ?_) (fun cdv A outer s H vs Q E hr h => ?_), T.g_rank_of.1, T.g_rank_of.2⟩
  · obtain ⟨h, rfl, _⟩ := h
    rfl
  · obtain ⟨h, rfl, q⟩ := h
    refine ⟨_, (pss_cons (ps_if (pt_cmp (pc_isN (pv 0))) (pss_one (ps_ret (pe_un un_neg pe_int))) pss_nil) (pss_one (ps_ret (pe_ifExp (pt_cmpR op_eq (pv 0) (pe_gstr T.s_OTHER) (nomark _)) (pe_op op_add (pe_gint T.i_MOST_NUMBER) pe_int) (pv 0))))), ?_⟩
    cases h with
    | non => exact ⟨_, rfl, true, rfl, iteT ⟨1, rfl, q⟩⟩
    | oth => exact ⟨_, rfl, false, rfl, iteF ⟨_, rfl, rfl, _, rfl, iteT ⟨_, _, rfl, rfl, q⟩⟩⟩
    | num n => exact ⟨_, rfl, false, rfl, iteF ⟨_, rfl, rfl, _, rfl, iteF ⟨_, rfl, q⟩⟩⟩
/-! ### ascending -/
def ascOf (l : List Nat) : List Nat := (List.range 24).filter fun n => decide (n ∈ l)
def spAsc (K : PySem.W.Frag) : Sp := fun vs H Q _ => ∃ (a : Addr) (l : List Nat), vs = [.ref a] ∧ SqL K H a (natVs l) ∧ ∀ t H', Same H H' → SqT K H' t (natVs (ascOf l)) → Q (.ref t) H'
theorem cal_ascending (T : Tx P K mg) : Cal P w K mg base 1 "ascending" (spAsc K) := by
  refine ⟨_, mkFn (k := 0) T.f_ascending sc_ascending (fun vs H Q E h => ?_) (fun cdv A outer s H vs Q E hr h => ?_), T.g_ascending.1, T.g_ascending.2⟩
  · obtain ⟨a, l, rfl, _⟩ := h
    rfl
  · obtain ⟨a, l, rfl, hl, q⟩ := h
    refine ⟨_, (pss_one (ps_ret (pe_callTy call_tuple_of (by rfl) T.n_tuple boot_tuple (pa_cons (pe_lc (own := [("number", 1)]) (g := gName 1) rfl sc_ascending.nd (pi_range1 rfl T.n_range (pa_cons (pe_op op_add (pe_gint T.i_MOST_STATE) pe_int) pa_nil)) (blkOk_by (N := ["some", "number"]) (sc := defScope s_ascending) (by decide +kernel)) (fun _ _ _ _ _ => (pg_name (i := 1) sc_ascending.nd rfl (by first | exact Or.inl rfl | exact Or.inr rfl))) (fun _ _ _ _ _ => (pts_one (pt_cmpR (op_inK K) (pv 1) (pv 0) (by with_unfolding_all rfl)))) (fun _ _ _ _ _ => (pv 1))) pa_nil)))), ?_⟩
    refine ⟨_, _, rfl, rfl, _, rfl, by decide, by decide, ?_⟩
    refine lc_mapR (b := fun n => decide (n ∈ l)) (P := fun d y _ => y = V.int (d : Nat)) (fun _ _ _ _ _ h => h) (fun _ => rfl) (fun d H' R hd s1 k => ?_) (fun d H' R hd _ s1 k => ?_) (lt_line (by decide)) (fun H2 D ys hD s2 hy hp => ?_)
    · refine ⟨_, rfl, _, rfl, a, _, rfl, .inl (s1.seq hl), rfl, flat_nats _, ?_⟩
      rw [show (0 : Int) + (d : Int) = (d : Int) by omega, show inV (.int (d : Int)) (natVs l) = decide (d ∈ l) from inV_nat _ _]
      exact ⟨_, rfl, k _ (Same.refl _)⟩
    · refine ⟨_, rfl, k _ _ (Same.refl _) ?_⟩
      rw [show (0 : Int) + (d : Int) = (d : Int) by omega]
    · have ey : ys = natVs (ascOf l) := paired_map (f := fun d : Nat => V.int (d : Int)) hp
      exact ⟨D, ys, rfl, .inl ⟨SqL.of hy, fun t ht => q t _ (Same.upd2 s2 (s2.free ht)) (by rw [ey]; exact SqT.of upd_same)⟩⟩
/-! ### word_at -/
def wat (ws : List Str) (i : Nat) : Str := (ws[i]?).getD ""
def spWordAt (K : PySem.W.Frag) : Sp := fun vs H Q _ => ∃ (l : Addr) (ws : List Str) (i : Nat), vs = [.ref l, .int i] ∧ SqL K H l (strVs ws) ∧ Q (.str (wat ws i)) H
theorem cal_word_at (T : Tx P K mg) : Cal P w K mg base 1 "word_at" (spWordAt K) := by
  refine ⟨_, mkFn (k := 0) T.f_word_at sc_word_at (fun vs H Q E h => ?_) (fun cdv A outer s H vs Q E hr h => ?_), T.g_word_at.1, T.g_word_at.2⟩
  · obtain ⟨l, ws, i, rfl, _⟩ := h
    rfl
  · obtain ⟨l, ws, i, rfl, hl, q⟩ := h
    refine ⟨_, (pss_one (ps_ret (pe_ifExp (pt_cmpR op_lt (pv 1) (pe_callB (call_lenK K) (by rfl) T.n_len boot_len (pa_cons (pv 0) pa_nil)) (nomark _)) (pe_ix (ix_listK K) (pv 0) (pv 1) (fun _ _ => rfl)) pe_str))), ?_⟩
    refine ⟨_, rfl, _, rfl, l, _, rfl, .inl hl, _, _, rfl, rfl, _, rfl, ?_⟩
    unfold wat at q
    by_cases hi : i < ws.length
    · rw [List.getElem?_eq_getElem hi] at q
      rw [show decide ((i : Int) < ((strVs ws).length : Int)) = true from decide_eq_true (by unfold strVs; rw [List.length_map]; omega)]
      exact iteT ⟨_, rfl, _, rfl, l, _, _, _, rfl, rfl, hl, atI_nat (strVs_get (List.getElem?_eq_getElem hi)), q⟩
    · rw [List.getElem?_eq_none (by omega)] at q
      rw [show decide ((i : Int) < ((strVs ws).length : Int)) = false from decide_eq_false (by unfold strVs; rw [List.length_map]; omega)]
      exact iteF q
end
end L2.My
end
section
set_option Elab.async false
set_option linter.all false
set_option autoImplicit false
set_option maxRecDepth 100000
set_option maxHeartbeats 2000000
/-! rows: boxes, texts of boxes and deeds -/
namespace L2.My
open PySem PySem.Spec PyProof.Rows He
section
variable {P : Program} {w : World} {K : PySem.W.Frag} {mg : Str → Option Value} {base : Heap}
theorem isi_tup {H : Hp} {a : Addr} {xs : List V} {Q : VK} (h : SqT K H a xs) (q : Q (.bl true) H) : OIsi K [.ref a, .ty "tuple"] H Q := by
  have k : PySem.W.kitOne K (.type "tuple") (.type "tuple") = some true := kit_ty (by decide +kernel)
  rcases h with (h | ⟨o, h⟩) | ⟨o, its, n, hk, hc, _⟩
  · exact ⟨_, _, _, _, true, rfl, .ty _, .base (.tup h), k, q⟩
  · exact ⟨_, _, _, _, true, rfl, .ty _, .fTuple h, k, q⟩
  · exact ⟨_, _, _, _, true, rfl, .ty _, .kTuple hk hc, k, q⟩
theorem asc_get {l : List Nat} (h : asc l) {n x y : Nat} (hx : l[n]? = some x) (hy : l[n + 1]? = some y) : x < y := by
  obtain ⟨h1, e1⟩ := List.getElem?_eq_some_iff.mp hx
  obtain ⟨h2, e2⟩ := List.getElem?_eq_some_iff.mp hy
  have := List.pairwise_iff_getElem.mp h n (n + 1) h1 h2 (Nat.lt_succ_self n)
  rw [e1, e2] at this
  exact this
theorem natVs_get {l : List Nat} {n : Nat} {x : V} (h : (natVs l)[n]? = some x) : ∃ m : Nat, l[n]? = some m ∧ x = .int m := by
  unfold natVs at h
  rw [List.getElem?_map] at h
  cases e : l[n]? with
  | none => rw [e] at h; cases h
  | some m => rw [e] at h; exact ⟨m, rfl, (Option.some.inj h).symm⟩
theorem cutV1 (xs : List V) : cutV xs (some 1) none = xs.drop 1 := by
  unfold cutV
  rw [show HT.sIx xs.length 0 (some 1) = min 1 xs.length from HT.sIx_nat xs.length 0 1, HT.sIx_none]
  cases xs with
  | nil => rfl
  | cons x r =>
    rw [show min 1 (x :: r).length = 1 by
      rw [List.length_cons]
      omega]
    show (List.take ((x :: r).length - 1) r) = r
    rw [List.length_cons, Nat.add_sub_cancel]
    exact List.take_length
/-! ### are_boxes -/
def spAreBoxes (K : PySem.W.Frag) : Sp := fun vs H Q _ => ∃ (a : Addr) (l : List Nat), vs = [.ref a] ∧ SqT K H a (natVs l) ∧ (∀ b ∈ l, b ≤ 2) ∧ asc l ∧ l.length ≤ 100 ∧ ∀ H', Same H H' → Q (.bl true) H'
theorem cal_are_boxes (T : Tx P K mg) : Cal P w K mg base 4 "are_boxes" (spAreBoxes K) := by
  refine ⟨_, mkFn (k := 3) T.f_are_boxes sc_are_boxes (fun vs H Q E h => ?_) (fun cdv A outer s H vs Q E hr h => ?_), T.g_are_boxes.1, T.g_are_boxes.2⟩
  · obtain ⟨a, l, rfl, _⟩ := h
    rfl
  · obtain ⟨a, l, rfl, hl, hb, has, hz, q⟩ := h
    refine ⟨_, (pss_cons (ps_if (PW.pt (pw_or (pt_not (pt_val (pe_callB (call_isiK K) (by rfl) T.n_isinstance boot_isinstance (pa_cons (pv 0) (pa_cons (pe_bltn (v := .ty "tuple") (by rfl) T.n_tuple boot_tuple rfl) pa_nil))))) (pw_or1 (pt_not (pt_val (pe_callB (cr_allK K rfl) (by rfl) T.n_all boot_all (pa_cons (pe_lc (own := [("box", 1)]) (g := gName 1) (tt := tYes) rfl sc_are_boxes.nd (pi_tupK K (pv 0)) (blkOk_by (N := ["value", "box", "one", "two"]) (sc := defScope s_are_boxes) (by decide +kernel)) (fun _ _ _ _ _ => (pg_name (i := 1) sc_are_boxes.nd rfl (by first | exact Or.inl rfl | exact Or.inr rfl))) (fun _ _ _ _ _ => pts_nil) (fun _ _ _ _ _ => (pe_cal (cal_is_box T) hr (by decide) (by rfl) (pa_cons (pv 1) pa_nil)))) pa_nil))))))) (pss_one (ps_ret pe_bl)) pss_nil) (pss_one (ps_ret (pe_callB (cr_allK K rfl) (by rfl) T.n_all boot_all (pa_cons (pe_lc (own := [("one", 2), ("two", 3)]) (g := gTup K 2 (gCons (gName 2) (gCons (gName 3) gNil))) (tt := tYes) rfl sc_are_boxes.nd (RZ.pi_zipA rfl T.n_zip (pa_cons (pv 0) (pa_cons (pe_slice sl_tupA (pv 0) (po_some pe_int) po_none) pa_nil))) (blkOk_by (N := ["value", "box", "one", "two"]) (sc := defScope s_are_boxes) (by decide +kernel)) (fun _ _ _ _ _ => (pg_tupK K (n := 2) rfl (pgs_cons (pg_name (i := 2) sc_are_boxes.nd rfl (by first | exact Or.inl rfl | exact Or.inr rfl)) (pgs_cons (pg_name (i := 3) sc_are_boxes.nd rfl (by first | exact Or.inl rfl | exact Or.inr rfl)) pgs_nil)))) (fun _ _ _ _ _ => pts_nil) (fun _ _ _ _ _ => (pe_cmpR op_lt (pv 2) (pv 3) (nomark _)))) pa_nil))))), ?_⟩
    have fk : ∀ (b : Bool) (A B : Prop), b = false → B → if b = true then A else B := fun b A B h a => by rw [h]; exact iteF a
    have hxl : (natVs l).length = l.length := List.length_map ..
    refine ⟨_, rfl, isi_tup hl ⟨_, rfl, ?_⟩⟩
    refine iteF ⟨_, rfl, a, rfl, ⟨_, hl⟩, ?_⟩
    refine lc_mapT (tt := tYes) (ds := l) (A := fun x n => x = V.int (n : Nat)) (b := fun _ => true) (P := fun d y _ => y = V.bl true) hl (paired_swap (paired_of_map (fun n : Nat => V.int (n : Int)) l)) (fun _ _ _ _ _ h => h) (fun _ => rfl) (fun x d H2 R _ _ _ k => k H2 (Same.refl _)) (fun x d H2 R hx hd _ s2 k => ?_) (lt_line (by omega)) fun H2 D2 ys _ s2 hy hp2 => ?_
    · subst hx
      refine ⟨_, rfl, _, rfl, trivial, ?_⟩
      rw [show wit (.int (d : Int)) 0 2 = true from wit_nat (m := 2) (hb d hd)]
      exact k _ _ (Same.refl _) rfl
    rw [filter_true] at hp2
    have ey : ys = (l.map fun _ => true).map V.bl := by
      rw [List.map_map]
      exact paired_map (f := V.bl ∘ fun _ : Nat => true) hp2
    refine ⟨D2, _, rfl, ey ▸ SqL.of hy, _, rfl, fk _ _ _ (by simp) ?_⟩
    have hl2 := Same.sqt s2 hl
    -- the pairs
    have body := fun (b : Addr) (H3 : Hp) (s3 : Same H H3) (hb3 : SqT K H3 b ((natVs l).drop 1)) =>
      lc_zipTb (a := a) (xs := natVs l) (σ := [some (.ref a), none, none, none]) (vs := [2, 3]) (i := 2) (j := 3) (te := tOp (rI0 fun i j => .bl (decide (i < j))) (tVar 2) (tVar 3)) (Qd := fun D H' => rAll K [V.ref D] H' Q) (f := fun _ => true) (Same.sqt s3 hl) hb3 (by rw [List.length_drop]; omega) (fun _ _ => rfl) (fun n x y H4 R hx hy s4 k => by
        rw [List.getElem?_drop, Nat.add_comm] at hy
        obtain ⟨x', hx', rfl⟩ := natVs_get hx
        obtain ⟨y', hy', rfl⟩ := natVs_get hy
        have hlt := asc_get has hx' hy'
        refine ⟨_, rfl, _, rfl, _, _, rfl, rfl, ?_⟩
        show R (.bl (decide ((x' : Int) < (y' : Int)))) H4
        rw [decide_eq_true (by omega : (x' : Int) < (y' : Int))]
        exact k _ (Same.refl _)) (lt_line (by rw [List.length_drop, hxl]; omega)) (fun H4 D4 _ s4 hD => by
        refine ⟨D4, (List.range ((natVs l).drop 1).length).map fun _ => true, rfl, ?_, ?_⟩
        · rw [List.map_map]
          exact SqL.of hD
        · rw [show ((List.range ((natVs l).drop 1).length).map fun _ => true).all id = true from by simp]
          exact q _ (s3.trans s4))
    refine ⟨_, rfl, _, rfl, 1, rfl, a, _, rfl, hl2, fun hw => ?_, fun _ p hp => ?_⟩
    · have e0 : natVs l = [] := by
        have h1 := hw.1
        rw [show HT.sIx (natVs l).length 0 (some 1) = min 1 (natVs l).length from HT.sIx_nat _ 0 1] at h1
        exact List.eq_nil_of_length_eq_zero (by omega)
      refine ⟨a, a, natVs l, (natVs l).drop 1, rfl, .inr ⟨hl2, ?_, ?_⟩⟩
      · rw [e0] at hl2 ⊢
        exact hl2
      · exact body a H2 s2 (by rw [e0] at hl2 ⊢; exact hl2)
    · refine ⟨a, p, natVs l, (natVs l).drop 1, rfl, .inr ⟨Same.sqt (same_upd hp) hl2, ?_, ?_⟩⟩
      · rw [← cutV1]
        exact SqT.of upd_same
      · exact body p _ (s2.trans (same_upd hp)) (by rw [← cutV1]; exact SqT.of upd_same)
/-! ### texts -/
theorem flat_len : ∀ {l : List Str} {m : Nat}, (∀ x ∈ l, x.length ≤ m) → (flat l).length ≤ l.length * (m + 1)
  | [], _, _ => by
    rw [show (flat []).length = 0 from by decide]
    exact Nat.zero_le _
  | x :: r, m, h => by
    have h1 := h x List.mem_cons_self
    have h2 := flat_len (l := r) (m := m) fun y hy => h y (List.mem_cons_of_mem _ hy)
    rw [flat_cons, s_len, s_len, sp_len, List.length_cons, Nat.add_mul, Nat.one_mul]
    omega
theorem join_flat0 : ∀ l : List Str, Txt.join "" (l.map fun x => (" " : Str) ++ x) = flat l
  | [] => by rw [List.map_nil, join_nil, flat]
  | [x] => by rw [List.map_cons, List.map_nil, join_one, flat_cons, flat, s_nil']
  | x :: y :: r => by
    rw [List.map_cons, List.map_cons, join_two, s_nil, ← List.map_cons, join_flat0 (y :: r), flat_cons x, s_assoc]
theorem sum_len : ∀ {l : List Str} {m : Nat}, (∀ x ∈ l, x.length ≤ m) → (l.map (·.length)).sum ≤ l.length * m
  | [], _, _ => Nat.zero_le _
  | x :: r, m, h => by
    have h1 := h x List.mem_cons_self
    have h2 := sum_len (l := r) (m := m) fun y hy => h y (List.mem_cons_of_mem _ hy)
    rw [List.map_cons, List.sum_cons, List.length_cons, Nat.add_mul, Nat.one_mul]
    omega
theorem boxW_len {z : Str} {l : List Nat} : (boxW z l).length ≤ l.length + 1 := by
  unfold boxW
  split
  · simp
  · simp
def spBoxT (K : PySem.W.Frag) : Sp := fun vs H Q _ => ∃ (z : Str) (a : Addr) (l : List Nat), vs = [.str z, .ref a] ∧ SqT K H a (natVs l) ∧ z.length ≤ 10 ∧ l.length ≤ 10 ∧ (∀ b ∈ l, b ≤ 2) ∧ ∀ H', Same H H' → Q (.str (boxT z l)) H'
theorem cal_boxes_text (T : Tx P K mg) : Cal P w K mg base 1 "boxes_text" (spBoxT K) := by
  refine ⟨_, mkFn (k := 0) T.f_boxes_text sc_boxes_text (fun vs H Q E h => ?_) (fun cdv A outer s H vs Q E hr h => ?_), T.g_boxes_text.1, T.g_boxes_text.2⟩
  · obtain ⟨z, a, l, rfl, _⟩ := h
    rfl
  · obtain ⟨z, a, l, rfl, hl, hz, hn, hb, q⟩ := h
    refine ⟨_, (pss_one (ps_ret (pe_ifExp (pt_cmpR op_gt (pe_callB (call_lenK K) (by rfl) T.n_len boot_len (pa_cons (pv 1) pa_nil)) pe_int (nomark _)) (pe_join pe_str (pe_lc (own := [("part", 2)]) (g := gName 2) (tt := tYes) rfl sc_boxes_text.nd (pi_listK K (pe_lst (pa_cons (pv 0) (pa_starK K (pv 1) pa_nil)))) (blkOk_by (N := ["word", "boxes", "part"]) (sc := defScope s_boxes_text) (by decide +kernel)) (fun _ _ _ _ _ => (pg_name (i := 2) sc_boxes_text.nd rfl (by first | exact Or.inl rfl | exact Or.inr rfl))) (fun _ _ _ _ _ => pts_nil) (fun _ _ _ _ _ => (pe_jn (.cons pe_str (.cons (pe_fmt (pv 2)) .nil)))))) pe_str))), ?_⟩
    have hxl : (natVs l).length = l.length := List.length_map ..
    refine ⟨_, rfl, a, _, rfl, .inr hl, _, _, rfl, rfl, _, rfl, ?_⟩
    by_cases h0 : l = []
    · subst h0
      exact iteF (q H (Same.refl _))
    have hpos : 0 < l.length := List.length_pos_iff.mpr h0
    rw [decide_eq_true (by rw [hxl]; omega : (0 : Int) < ((natVs l).length : Int))]
    refine iteT ⟨⟨_, rfl⟩, ⟨_, rfl, _, rfl, a, _, rfl, .inl hl, ?_⟩⟩
    have eW : boxW z l = z :: l.map num := by
      unfold boxW
      rw [if_neg h0]
    have lenW : (z :: l.map num).length ≤ 11 := by rw [List.length_cons, List.length_map]; omega
    have eachW : ∀ x ∈ (z :: l.map num), x.length ≤ 10 := fun x hx => by
      rcases List.mem_cons.mp hx with rfl | hx
      · exact hz
      · obtain ⟨b, hb1, rfl⟩ := List.mem_map.mp hx
        exact Nat.le_trans (num_len (by have := hb b hb1; omega)) (by decide)
    refine ⟨le_line (by rw [List.append_nil, List.length_cons, hxl]; omega), fun p hp => ⟨p, rfl, ⟨_, SqL.of upd_same⟩, ?_⟩⟩
    refine lc_mapL (α := Str) (tt := tYes) (ds := z :: l.map num) (A := fun x y => x = V.str y ∨ ∃ n : Nat, x = V.int n ∧ y = num n ∧ n ≤ 2) (b := fun _ => true) (P := fun y v _ => v = V.str ((" " : Str) ++ y)) (SqL.of upd_same) ?_ (fun _ _ _ _ _ h => h) (fun _ => rfl) (fun x d H2 R _ _ _ k => k H2 (Same.refl _)) (fun x d H2 R hx hd _ s2 k => ?_) (lt_line (by omega)) fun H2 D2 ys _ s2 hy hp2 => ?_
    · rw [List.append_nil]
      refine .cons (.inl rfl) ?_
      clear eW lenW eachW hxl h0 hpos hl hn q
      induction l with
      | nil => exact .nil
      | cons b r ih => exact .cons (.inr ⟨b, rfl, rfl, hb b List.mem_cons_self⟩) (ih fun c hc => hb c (List.mem_cons_of_mem _ hc))
    · have hd10 := eachW d hd
      refine ⟨_, rfl, le_line (by rw [emp_s, sp_len]; omega), ?_⟩
      rcases hx with rfl | ⟨n, rfl, rfl, h2⟩
      · refine ⟨_, rfl, .inl ⟨_, rfl, le_line (by omega), _, rfl, le_line (by rw [emp_s, s_len, sp_len]; omega), ?_⟩⟩
        exact k _ _ (Same.refl _) (by rw [emp_s])
      · refine ⟨_, rfl, .inr ⟨_, rfl, log_small (by omega), _, rfl, le_line (by rw [num_s, emp_s, s_len, sp_len]; omega), ?_⟩⟩
        exact k _ _ (Same.refl _) (by rw [emp_s]; rfl)
    · rw [filter_true] at hp2
      have ey : ys = ((z :: l.map num).map fun y => (" " : Str) ++ y).map V.str := by
        rw [List.map_map]
        exact paired_map (f := V.str ∘ fun y => (" " : Str) ++ y) hp2
      refine ⟨"", D2, (z :: l.map num).map fun y => (" " : Str) ++ y, rfl, rfl, .inl (by rw [← ey]; exact SqL.of hy), ?_, ?_⟩
      · have e0 : ("" : Str).length = 0 := by decide
        have := sum_len (l := (z :: l.map num).map fun y => (" " : Str) ++ y) (m := 11) fun x hx => by
          obtain ⟨y, hy2, rfl⟩ := List.mem_map.mp hx
          have := eachW y hy2
          rw [s_len, sp_len]; omega
        rw [List.length_map] at this
        rw [e0, Nat.mul_zero]
        omega
      · rw [join_flat0, ← eW]
        exact q H2 ((same_upd hp).trans s2)
def spDsT (K : PySem.W.Frag) : Sp := fun vs H Q _ => ∃ (a : Addr) (xs : List V) (ds : List D), vs = [.ref a] ∧ SqT K H a xs ∧ Paired (DeedAt K H) xs ds ∧ (∀ d ∈ ds, d.ok) ∧ ds.length ≤ 8 ∧ ∀ H', Same H H' → Q (.str (dsT ds)) H'
theorem cal_deeds_text (T : Tx P K mg) : Cal P w K mg base 6 "deeds_text" (spDsT K) := by
  refine ⟨_, mkFn (k := 5) T.f_deeds_text sc_deeds_text (fun vs H Q E h => ?_) (fun cdv A outer s H vs Q E hr h => ?_), T.g_deeds_text.1, T.g_deeds_text.2⟩
  · obtain ⟨a, xs, ds, rfl, _⟩ := h
    rfl
  · obtain ⟨a, xs, ds, rfl, hl, hp, ok, hz, q⟩ := h
    refine ⟨_, (pss_one (ps_ret (pe_ifExp (pt_cmpR op_gt (pe_callB (call_lenK K) (by rfl) T.n_len boot_len (pa_cons (pv 0) pa_nil)) pe_int (nomark _)) (pe_join pe_str (pe_lc (own := [("deed", 1)]) (g := gName 1) (tt := tYes) rfl sc_deeds_text.nd (pi_tupK K (pv 0)) (blkOk_by (N := ["deeds", "deed"]) (sc := defScope s_deeds_text) (by decide +kernel)) (fun _ _ _ _ _ => (pg_name (i := 1) sc_deeds_text.nd rfl (by first | exact Or.inl rfl | exact Or.inr rfl))) (fun _ _ _ _ _ => pts_nil) (fun _ _ _ _ _ => (pe_callTy (callr_ex fun k : Kd => call_ownStr (own_str T k).choose_spec.2 (own_str T k).choose_spec.1 (hr.mono (by decide))) (by rfl) T.n_str boot_str (pa_cons (pv 1) pa_nil))))) pe_str))), ?_⟩
    have hxl : xs.length = ds.length := hp.length
    refine ⟨_, rfl, a, _, rfl, .inr hl, _, _, rfl, rfl, _, rfl, ?_⟩
    by_cases h0 : ds = []
    · subst h0
      have e0 : xs = [] := List.eq_nil_of_length_eq_zero hxl
      subst e0
      refine iteF ?_
      have := q H (Same.refl _)
      rw [show dsT [] = "-" from by unfold dsT dsW; rw [if_pos rfl, join_one]] at this
      exact this
    have hpos : 0 < ds.length := List.length_pos_iff.mpr h0
    show if decide ((0 : Int) < (xs.length : Int)) = true then _ else _
    rw [decide_eq_true (by omega : (0 : Int) < (xs.length : Int))]
    refine iteT ⟨⟨_, rfl⟩, ⟨_, rfl, a, rfl, ⟨_, hl⟩, ?_⟩⟩
    refine lc_mapT (tt := tYes) (ds := ds) (A := DeedAt K H) (b := fun _ => true) (P := fun d v _ => v = V.str d.txt) hl hp (fun _ _ _ _ _ h => h) (fun _ => rfl) (fun x d H2 R _ _ _ k => k H2 (Same.refl _)) (fun x d H2 R hx hd _ s2 k => ?_) (lt_line (by omega)) fun H2 D2 ys _ s2 hy hp2 => ?_
    · obtain ⟨c, dx, rfl, hc⟩ := hx
      have hc2 := s2 _ _ hc
      exact ⟨_, rfl, d.kd, c, dx, _, rfl, hc2, _, d, [], rfl, rfl, ⟨c, dx, rfl, hc2⟩, rfl, ok d hd, _, rfl, k _ _ (Same.refl _) rfl⟩
    · rw [filter_true] at hp2
      have ey : ys = (ds.map D.txt).map V.str := by
        rw [List.map_map]
        exact paired_map (f := V.str ∘ D.txt) hp2
      refine ⟨" , ", D2, ds.map D.txt, rfl, rfl, .inl (by rw [← ey]; exact SqL.of hy), ?_, ?_⟩
      · have e0 : (" , " : Str).length = 3 := by decide
        have := sum_len (l := ds.map D.txt) (m := 20) fun x hx => by
          obtain ⟨y, hy2, rfl⟩ := List.mem_map.mp hx
          exact D.txt_len (ok y hy2)
        rw [List.length_map] at this
        rw [e0, List.length_map]
        omega
      · rw [← dsT_eq h0]
        exact q H2 s2
end
end L2.My
end
section
set_option Elab.async false
set_option linter.all false
set_option autoImplicit false
set_option maxRecDepth 100000
set_option maxHeartbeats 2000000
/-! boxes_in -/
namespace L2.My
open PySem PySem.Spec PyProof.Rows He
section
variable {P : Program} {w : World} {K : PySem.W.Frag} {mg : Str → Option Value} {base : Heap}
/-- the texts that may follow -/
def Opts (br : List Nat) (lo : Nat) (os : List Str) : Prop := (∀ b, lo ≤ b → b ≤ 2 → b ∉ br → num b ∈ os) ∧ (∀ x ∈ os, ∃ n, x = num n) ∧ os.length ≤ 3
def lowOf (bs : List Nat) : Nat → Nat
  | 0 => 0
  | m + 1 => (bs[m]?).getD 0 + 1
theorem lowOf_succ (bs : List Nat) (m : Nat) : lowOf bs (m + 1) = (bs[m]?).getD 0 + 1 := rfl
theorem opts_of {br os : List Str} {lo n : Nat} {ys : List V} {c : List Nat} {H : Hp} (hn : lo + n = 3) (hp : Paired (fun (d : Nat) (y : V) => y = V.str (num (lo + d))) ((List.range n).filter fun d => decide (lo + d ∉ c)) ys) : ∃ os, ys = strVs os ∧ Opts c lo os := by
  refine ⟨((List.range n).filter fun d => decide (lo + d ∉ c)).map fun d => num (lo + d), ?_, fun b h1 h2 h3 => ?_, fun x hx => ?_, ?_⟩
  · unfold strVs
    rw [List.map_map]
    exact paired_map (f := V.str ∘ fun d => num (lo + d)) hp
  · refine List.mem_map.mpr ⟨b - lo, List.mem_filter.mpr ⟨List.mem_range.mpr (by omega), ?_⟩, by rw [show lo + (b - lo) = b by omega]⟩
    rw [show lo + (b - lo) = b by omega]
    exact decide_eq_true h3
  · obtain ⟨d, _, rfl⟩ := List.mem_map.mp hx
    exact ⟨_, rfl⟩
  · rw [List.length_map]
    have := List.length_filter_le (fun d => decide (lo + d ∉ c)) (List.range n)
    rw [List.length_range] at this
    omega
def spBoxesIn (K : PySem.W.Frag) : Sp := fun vs H Q _ => ∃ (l ba : Addr) (ws : List Str) (i : Nat) (br bs : List Nat) (x : Str), vs = [.ref l, .int i, .ref ba] ∧ SqL K H l (strVs ws) ∧ SqT K H ba (natVs br) ∧ From ws i (bs.map num) ∧ bs ≠ [] ∧ bs.length ≤ 3 ∧ asc bs ∧ (∀ b ∈ bs, b ≤ 2 ∧ b ∉ br) ∧ ws[i + bs.length]? = some x ∧ (∀ n, x ≠ num n) ∧
  ∀ (t : Addr) (H' : Hp), Same H H' → SqT K H' t (natVs bs) → Q (.ref t) H'
theorem cal_boxes_in (T : Tx P K mg) : Cal P w K mg base 2 "boxes_in" (spBoxesIn K) := by
  refine ⟨_, mkFn (k := 1) T.f_boxes_in sc_boxes_in (fun vs H Q E h => ?_) (fun cdv A outer s H vs Q E hr h => ?_), T.g_boxes_in.1, T.g_boxes_in.2⟩
  · obtain ⟨l, ba, ws, i, br, bs, x, rfl, _⟩ := h
    rfl
  · obtain ⟨l, ba, ws, i, br, bs, x, rfl, hl, hb, hf, hne, hb3, has, hbs, hx, hxn, q⟩ := h
    refine ⟨_, (pss_cons (ps_par (i := 3) (j := 4) rfl sc_boxes_in.nd rfl rfl (by decide) rfl rfl (pa_cons (pe_lst pa_nil) (pa_cons (pe_lc (own := [("box", 5)]) (g := gName 5) rfl sc_boxes_in.nd (pi_range1 rfl T.n_range (pa_cons (pe_op op_add (pe_gint T.i_MOST_BOX) pe_int) pa_nil)) (blkOk_by (N := ["words", "at", "barred", "found", "some", "box"]) (sc := defScope s_boxes_in) (by decide +kernel)) (fun _ _ _ _ _ => (pg_name (i := 5) sc_boxes_in.nd rfl (by first | exact Or.inl rfl | exact Or.inr rfl))) (fun _ _ _ _ _ => (pts_one (pt_cmpR (op_notInK K) (pv 5) (pv 2) (by with_unfolding_all rfl)))) (fun _ _ _ _ _ => (pe_callTy call_str_int (by rfl) T.n_str boot_str (pa_cons (pv 5) pa_nil)))) pa_nil)) (by rfl)) (pss_cons (ps_while PassesOwn.never (pt_cmpR (op_inK K) (pe_cal (cal_word_at T) hr (by decide) (by rfl) (pa_cons (pv 0) (pa_cons (pe_op op_add (pv 1) (pe_callB (call_lenK K) (by rfl) T.n_len boot_len (pa_cons (pv 3) pa_nil))) pa_nil))) (pv 4) (by with_unfolding_all rfl)) (pss_cons (ps_expr (pe_bm PySem.F.plainAttrs_list PySem.F.slot_list_append PySem.F.type_list_append mt_append (pv 3) (pa_cons (pe_callTy call_int_str (by rfl) T.n_int boot_int (pa_cons (pe_ix (ix_listK K) (pv 0) (pe_op op_add (pv 1) (pe_callB (call_lenK K) (by rfl) T.n_len boot_len (pa_cons (pv 3) pa_nil))) (fun _ _ => rfl)) pa_nil)) pa_nil))) (pss_one (ps_setLc (i := 4) (own := [("box", 5)]) (g := gName 5) rfl sc_boxes_in.nd rfl rfl (sw_true rfl rfl rfl (by decide +kernel)) (pi_range2 rfl T.n_range (pa_cons (pe_op op_add (pe_ix (ix_listK K) (pv 3) (pe_un un_neg pe_int) (fun _ _ => rfl)) pe_int) (pa_cons (pe_op op_add (pe_gint T.i_MOST_BOX) pe_int) pa_nil))) (blkOk_by (N := ["words", "at", "barred", "found", "some", "box"]) (sc := defScope s_boxes_in) (by decide +kernel)) (fun _ _ _ _ _ => (pg_name (i := 5) sc_boxes_in.nd rfl (by first | exact Or.inl rfl | exact Or.inr rfl))) (fun _ _ _ _ _ => (pts_one (pt_cmpR (op_notInK K) (pv 5) (pv 2) (by with_unfolding_all rfl)))) (fun _ _ _ _ _ => (pe_callTy call_str_int (by rfl) T.n_str boot_str (pa_cons (pv 5) pa_nil))))))) (pss_cons (ps_if (pt_cmpR op_eq (pe_callB (call_lenK K) (by rfl) T.n_len boot_len (pa_cons (pv 3) pa_nil)) pe_int (nomark _)) pss_never pss_nil) (pss_one (ps_ret (pe_callTy call_tuple_of (by rfl) T.n_tuple boot_tuple (pa_cons (pv 3) pa_nil))))))), ?_⟩
    -- found = []
    refine ⟨Nat.zero_le _, fun F hF => ?_⟩
    have sF : Same H (upd H F (.lst [])) := same_upd hF
    refine ⟨_, _, rfl, rfl, _, rfl, by decide, by decide, ?_⟩
    refine lc_mapR (n := 3) (lo := 0) (b := fun n => decide (0 + n ∉ br)) (P := fun d y _ => y = V.str (num (0 + d))) (fun _ _ _ _ _ h => h) (fun _ => rfl) (fun d H' R hd s1 k => ?_) (fun d H' R hd _ s1 k => ?_) (lt_line (by decide)) (fun H2 S ys hS s2 hy hp => ?_)
    · refine ⟨_, rfl, _, rfl, ba, _, rfl, .inr (Same.sqt (sF.trans s1) hb), rfl, flat_nats _, ?_⟩
      rw [show (0 : Int) + (d : Int) = ((0 + d : Nat) : Int) by omega, show inV (.int ((0 + d : Nat) : Int)) (natVs br) = decide (0 + d ∈ br) from inV_nat _ _]
      refine ⟨_, rfl, ?_⟩
      have := k H' (Same.refl _)
      simpa using this
    · refine ⟨_, rfl, _, rfl, log_small (n := 0 + d) (by omega) |> fun z => by rw [show (0 : Int) + (d : Int) = ((0 + d : Nat) : Int) by omega]; exact z, ?_⟩
      refine k _ _ (Same.refl _) ?_
      rw [show (0 : Int) + (d : Int) = ((0 + d : Nat) : Int) by omega]; rfl
    obtain ⟨os, rfl, hos⟩ := opts_of (br := []) (os := []) (H := H) (by decide) hp
    have hFS : F ≠ S := fun e => by
      subst e
      rw [upd_same] at hS
      cases hS
    have hyF : H2 F = some (.lst []) := s2 _ _ upd_same
    refine ⟨_, _, rfl, ?_⟩
    -- while
    let W : Nat → L2.St → Hp → Prop := fun k σ' H' => ∃ (m : Nat) (S : Addr) (os : List Str), k = bs.length - m ∧ m ≤ bs.length ∧ σ' = [some (.ref l), some (.int i), some (.ref ba), some (.ref F), some (.ref S), none] ∧ Same H H' ∧ H' F = some (.lst (natVs (bs.take m))) ∧ H' S = some (.lst (strVs os)) ∧ S ≠ F ∧ H S = none ∧ Opts br (lowOf bs m) os
    have fk : ∀ (b : Bool) (A B : Prop), b = false → B → if b = true then A else B := fun b A B h a => by rw [h]; exact iteF a
    have tk : ∀ (b : Bool) (A B : Prop), b = true → A → if b = true then A else B := fun b A B h a => by rw [h]; exact iteT a
    refine ⟨W, ⟨bs.length, 0, S, os, rfl, Nat.zero_le _, rfl, sF.trans s2, hyF, hy, hFS.symm, sF.free hS, hos⟩, ?_⟩
    rintro k σ' H' ⟨m, S, os, rfl, hm, rfl, s', hF', hS', hne', hS0, ho⟩
    have hl' := s'.seq hl
    have el : ((natVs (bs.take m)).length : Int) = (m : Int) := by
      rw [show (natVs (bs.take m)).length = (bs.take m).length from List.length_map .., List.length_take, Nat.min_eq_left hm]
    have ei : (i : Int) + ((natVs (bs.take m)).length : Int) = ((i + m : Nat) : Int) := by rw [el]; omega
    refine ⟨_, rfl, _, rfl, _, rfl, F, _, rfl, .inl (SqL.of hF'), _, _, rfl, rfl, l, ws, i + m, congrArg (fun z => [V.ref l, V.int z]) ei, hl', ?_⟩
    refine ⟨_, rfl, S, _, rfl, .inl (SqL.of hS'), rfl, flat_strs _, _, rfl, ?_⟩
    have eI : inV (.str (wat ws (i + m))) (strVs os) = decide (wat ws (i + m) ∈ os) := inV_str _ _
    by_cases hlt : m < bs.length
    · obtain ⟨b, hb0⟩ : ∃ b, bs[m]? = some b := ⟨_, List.getElem?_eq_getElem hlt⟩
      have hmem : b ∈ bs := List.mem_of_getElem? hb0
      obtain ⟨hb2, hbr⟩ := hbs b hmem
      have hw : ws[i + m]? = some (num b) := hf m _ (by rw [List.getElem?_map, hb0]; rfl)
      have hwat : wat ws (i + m) = num b := by unfold wat; rw [hw]; rfl
      have hlow : lowOf bs m ≤ b := by
        cases m with
        | zero => exact Nat.zero_le _
        | succ m =>
          rw [lowOf_succ]
          obtain ⟨c, hc⟩ : ∃ c, bs[m]? = some c := ⟨_, List.getElem?_eq_getElem (by omega)⟩
          have := asc_get has hc hb0
          rw [hc]
          exact this
      refine tk _ _ _ ?_ ?_
      · rw [if_neg Bool.false_ne_true, eI]
        exact decide_eq_true (by rw [hwat]; exact ho.1 b hlow hb2 hbr)
      refine ⟨W (bs.length - (m + 1)), fun σ2 H3 h3 => ⟨_, by omega, h3⟩, ?_⟩
      -- append
      refine ⟨_, rfl, .inl ⟨rfl, _, SqL.of hF'⟩, _, rfl, _, rfl, _, rfl, F, _, rfl, .inl (SqL.of hF'), _, _, rfl, rfl, l, _, _, _, rfl, rfl, hl', by rw [ei]; exact atI_nat (strVs_get hw), num b, b, rfl, num_int (by omega), Nat.le_trans (num_len (by omega)) (by decide), ?_⟩
      refine ⟨F, _, _, rfl, rfl, hF', lt_line (by have := el; omega), ?_⟩
      have hT : natVs (bs.take m) ++ [V.int (b : Int)] = natVs (bs.take (m + 1)) := by
        unfold natVs
        rw [List.take_add_one, hb0, List.map_append]; rfl
      rw [hT]
      have s3 : Same H (upd H' F (.lst (natVs (bs.take (m + 1))))) := Same.upd2 s' hF
      -- some = ..
      refine ⟨_, rfl, 1, rfl, F, natVs (bs.take m) ++ [V.int (b : Int)], -1, .int b, rfl, rfl, by rw [hT]; exact SqL.of upd_same, atI_last _ _, _, _, rfl, rfl, _, _, rfl, rfl, _, _, rfl, ⟨by omega, by omega, by decide, by decide⟩, ?_⟩
      have en : ((2 : Int) + 1 - ((b : Int) + 1)).toNat = 2 - b := by omega
      show ∀ D, _ → _
      rw [en]
      refine lc_mapR (n := 2 - b) (lo := (b : Int) + 1) (b := fun n => decide (b + 1 + n ∉ br)) (P := fun d y _ => y = V.str (num (b + 1 + d))) (fun _ _ _ _ _ h => h) (fun _ => rfl) (fun d H5 R hd s5 k => ?_) (fun d H5 R hd _ s5 k => ?_) (lt_line (by omega)) (fun H5 S5 ys5 hS5 s5 hy5 hp5 => ?_)
      · refine ⟨_, rfl, _, rfl, ba, _, rfl, .inr (Same.sqt (s3.trans s5) hb), rfl, flat_nats _, ?_⟩
        rw [show (b : Int) + 1 + (d : Int) = ((b + 1 + d : Nat) : Int) by omega, show inV (.int ((b + 1 + d : Nat) : Int)) (natVs br) = decide (b + 1 + d ∈ br) from inV_nat _ _]
        refine ⟨_, rfl, ?_⟩
        have := k H5 (Same.refl _)
        simpa using this
      · refine ⟨_, rfl, _, rfl, by rw [show (b : Int) + 1 + (d : Int) = ((b + 1 + d : Nat) : Int) by omega]; exact log_small (by omega), ?_⟩
        refine k _ _ (Same.refl _) ?_
        rw [show (b : Int) + 1 + (d : Int) = ((b + 1 + d : Nat) : Int) by omega]; rfl
      · obtain ⟨os5, rfl, hos5⟩ := opts_of (br := []) (os := []) (H := H) (lo := b + 1) (n := 2 - b) (by omega) hp5
        have hF5 : H5 F = some (.lst (natVs (bs.take (m + 1)))) := s5 _ _ upd_same
        exact ⟨m + 1, S5, os5, rfl, hlt, rfl, s3.trans s5, hF5, hy5, (fun e => by rw [e, upd_same] at hS5; cases hS5), s3.free hS5, by rw [lowOf_succ, hb0]; exact hos5⟩
    · have hmm : m = bs.length := by omega
      subst hmm
      have hwat : wat ws (i + bs.length) = x := by unfold wat; rw [hx]; rfl
      refine fk _ _ _ ?_ ?_
      · rw [if_neg Bool.false_ne_true, eI]
        refine decide_eq_false fun z => ?_
        obtain ⟨n, hn⟩ := ho.2.1 _ z
        rw [hwat] at hn
        exact hxn n hn
      have hbl : 0 < bs.length := List.length_pos_iff.mpr hne
      refine ⟨_, rfl, F, _, rfl, .inl (SqL.of hF'), rfl, _, rfl, fk _ _ _ (decide_eq_false fun z => ?_) ?_⟩
      · have := V.int.inj z
        omega
      · rw [List.take_length] at hF'
        exact ⟨_, rfl, F, _, rfl, .inl ⟨SqL.of hF', fun t ht => q t _ (Same.upd2 s' (s'.free ht)) (SqT.of upd_same)⟩⟩
end
end L2.My
end
section
set_option Elab.async false
set_option linter.all false
set_option autoImplicit false
set_option maxRecDepth 100000
set_option maxHeartbeats 2000000
/-! deeds_in -/
namespace L2.My
open PySem PySem.Spec PyProof.Rows He
section
variable {P : Program} {w : World} {K : PySem.W.Frag} {mg : Str → Option Value} {base : Heap}
theorem From.left {ws : List Str} {i : Nat} {u v : List Str} (h : From ws i (u ++ v)) : From ws i u := fun j x hx => h j x (by
  rw [List.getElem?_append_left (List.getElem?_eq_some_iff.mp hx).1]; exact hx)
theorem From.right {ws : List Str} {i : Nat} {u v : List Str} (h : From ws i (u ++ v)) : From ws (i + u.length) v := fun j x hx => by
  rw [Nat.add_assoc]
  exact h _ x (by rw [List.getElem?_append_right (Nat.le_add_right _ _), Nat.add_sub_cancel_left]; exact hx)
theorem From.head {ws : List Str} {i : Nat} {x : Str} {u : List Str} (h : From ws i (x :: u)) : ws[i]? = some x := h 0 x rfl
theorem From.tail {ws : List Str} {i : Nat} {x : Str} {u : List Str} (h : From ws i (x :: u)) : From ws (i + 1) u := From.right (u := [x]) h
theorem wat_of {ws : List Str} {i : Nat} {x : Str} (h : ws[i]? = some x) : wat ws i = x := by unfold wat; rw [h]; rfl
/-- what follows behind some deeds -/
def rwD (l : List D) (tl : List Str) : List Str := if l = [] then tl else "," :: (inter "," (l.map D.ws) ++ tl)
theorem inter_rwD (d : D) (r : List D) (tl : List Str) : inter "," ((d :: r).map D.ws) ++ tl = d.ws ++ rwD r tl := by
  unfold rwD
  cases r with
  | nil => rw [if_pos rfl]; rfl
  | cons e r =>
    rw [if_neg (List.cons_ne_nil _ _), List.map_cons, List.map_cons, inter_two, List.append_assoc, List.cons_append]
theorem rwD_len (l : List D) (tl : List Str) : (rwD l tl).length = (rwD l []).length + tl.length := by
  unfold rwD
  split
  · simp
  · rw [List.length_cons, List.length_cons, List.length_append, List.length_append]
    simp only [List.length_nil]
    omega
theorem verb_ne (k : Kd) : k.verb ≠ "-" ∧ k.verb ≠ "," := by cases k <;> decide
theorem fitS_mem {ds : List D} {z : Str} (h1 : z ∈ (["sender", "receiver"] : List Str)) (h2 : ∀ d ∈ ds, d.fits z = true) : z ∈ fitS ds := List.mem_filter.mpr ⟨h1, List.all_eq_true.mpr h2⟩
def spDeedsIn (K : PySem.W.Frag) : Sp := fun vs H Q _ => ∃ (l sl : Addr) (ws ss : List Str) (i : Nat) (ds : List D) (tl : List Str) (hears : Bool) (z : Str), vs = [.ref l, .int i, .ref sl, .bl hears] ∧ SqL K H l (strVs ws) ∧ (SqL K H sl (strVs ss) ∨ SqT K H sl (strVs ss)) ∧ ws.length ≤ 99999 ∧
  From ws i (dsW ds ++ (">" : Str) :: tl) ∧ ds.length ≤ 8 ∧ (∀ d ∈ ds, d.ok) ∧ takes ds ≤ 1 ∧ (hears = false → ∀ d ∈ ds, d.kd ≠ .put) ∧ z ∈ ss ∧ z ∈ (["sender", "receiver"] : List Str) ∧ (∀ d ∈ ds, d.fits z = true) ∧
  ∀ (t dl : Addr) (xs : List V) (H' : Hp), Same H H' → H' t = some (.tup [.ref dl, .int ((i + (dsW ds).length : Nat) : Int)]) → SqT K H' dl xs → Paired (DeedAt K H') xs ds → Q (.ref t) H'
theorem takes_app (a b : List D) : takes (a ++ b) = takes a + takes b := by unfold takes; rw [List.filter_append, List.length_append]
theorem cal_deeds_in (T : Tx P K mg) : Cal P w K mg base 9 "deeds_in" (spDeedsIn K) := by
  refine ⟨_, mkFn (k := 8) T.f_deeds_in sc_deeds_in (fun vs H Q E h => ?_) (fun cdv A outer s H vs Q E hr h => ?_), T.g_deeds_in.1, T.g_deeds_in.2⟩
  · obtain ⟨l, sl, ws, ss, i, ds, tl, hears, z, rfl, _⟩ := h
    rfl
  · obtain ⟨l, sl, ws, ss, i, ds, tl, hears, z, rfl, hl, hs, hz, hf, h8, ok, ht, hp, hz1, hz2, hz3, q⟩ := h
    refine ⟨_, (pss_cons (ps_if (pt_cmpR op_eq (pe_cal (cal_word_at T) hr (by decide) (by rfl) (pa_cons (pv 0) (pa_cons (pv 1) pa_nil))) pe_str (nomark _)) (pss_one (ps_ret (pe_tup (pa_cons (pe_tup pa_nil) (pa_cons (pe_op op_add (pv 1) pe_int) pa_nil))))) pss_nil) (pss_cons (ps_set (i := 4) sc_deeds_in.nd rfl (by first | exact Or.inl rfl | exact Or.inr rfl) (pe_lst pa_nil)) (pss_cons (ps_while PassesOwn.never (PW.pt (pw_or (pt_cmpR op_eq (pe_callB (call_lenK K) (by rfl) T.n_len boot_len (pa_cons (pv 4) pa_nil)) pe_int (nomark _)) (pw_or1 (PW.pt (pw_and (pt_cmpR op_lt (pe_callB (call_lenK K) (by rfl) T.n_len boot_len (pa_cons (pv 4) pa_nil)) (pe_gint T.i_MOST_DEEDS) (nomark _)) (pw_and1 (pt_cmpR op_eq (pe_cal (cal_word_at T) hr (by decide) (by rfl) (pa_cons (pv 0) (pa_cons (pv 1) pa_nil))) pe_str (nomark _)))))))) (pss_cons (ps_set (i := 5) sc_deeds_in.nd rfl (by first | exact Or.inl rfl | exact Or.inr rfl) (pe_ifExp (pt_cmpR op_eq (pe_callB (call_lenK K) (by rfl) T.n_len boot_len (pa_cons (pv 4) pa_nil)) pe_int (nomark _)) (pv 1) (pe_op op_add (pv 1) pe_int))) (pss_cons (ps_set (i := 6) sc_deeds_in.nd rfl (by first | exact Or.inl rfl | exact Or.inr rfl) (pe_cal (cal_word_at T) hr (by decide) (by rfl) (pa_cons (pv 0) (pa_cons (pv 5) pa_nil)))) (pss_cons (ps_if (PW.pt (pw_or (PW.pt (pw_and (pt_cmpR op_eq (pv 6) pe_str (nomark _)) (pw_and1 (pt_not (pt_val (pv 3)))))) (pw_or1 (PW.pt (pw_and (pt_cmpR op_eq (pv 6) pe_str (nomark _)) (pw_and1 (pt_val (pe_callB (cr_anyK K rfl) (by rfl) T.n_any boot_any (pa_cons (pe_lc (own := [("deed", 7)]) (g := gName 7) (tt := tYes) rfl sc_deeds_in.nd (pi_listK K (pv 4)) (blkOk_by (N := ["words", "at", "sides", "hears", "found", "start", "verb", "deed", "side"]) (sc := defScope s_deeds_in) (by decide +kernel)) (fun _ _ _ _ _ => (pg_name (i := 7) sc_deeds_in.nd rfl (by first | exact Or.inl rfl | exact Or.inr rfl))) (fun _ _ _ _ _ => pts_nil) (fun _ _ _ _ _ => (pe_callB (call_isiK K) (by rfl) T.n_isinstance boot_isinstance (pa_cons (pv 7) (pa_cons (pe_gref T.g_Take.1) pa_nil))))) pa_nil))))))))) pss_never pss_nil) (pss_cons (ps_asg (pe_cal (cal_deed_in T) hr (by decide) (by rfl) (pa_cons (pv 0) (pa_cons (pv 5) (pa_cons (pe_lc (own := [("side", 8)]) (g := gName 8) rfl sc_deeds_in.nd (pi_tupK K (pe_cal (cal_fit_sides T) hr (by decide) (by rfl) (pa_cons (pv 4) pa_nil))) (blkOk_by (N := ["words", "at", "sides", "hears", "found", "start", "verb", "deed", "side"]) (sc := defScope s_deeds_in) (by decide +kernel)) (fun _ _ _ _ _ => (pg_name (i := 8) sc_deeds_in.nd rfl (by first | exact Or.inl rfl | exact Or.inr rfl))) (fun _ _ _ _ _ => (pts_one (pt_cmpR (op_inK K) (pv 8) (pv 2) (by with_unfolding_all rfl)))) (fun _ _ _ _ _ => (pv 8))) pa_nil)))) (pg_tupK K (n := 2) rfl (pgs_cons (pg_name (i := 7) sc_deeds_in.nd rfl (by first | exact Or.inl rfl | exact Or.inr rfl)) (pgs_cons (pg_name (i := 1) sc_deeds_in.nd rfl (by first | exact Or.inl rfl | exact Or.inr rfl)) pgs_nil)))) (pss_one (ps_expr (pe_bm PySem.F.plainAttrs_list PySem.F.slot_list_append PySem.F.type_list_append mt_append (pv 4) (pa_cons (pv 7) pa_nil))))))))) (pss_one (ps_ret (pe_tup (pa_cons (pe_callTy call_tuple_of (by rfl) T.n_tuple boot_tuple (pa_cons (pv 4) pa_nil)) (pa_cons (pv 1) pa_nil)))))))), ?_⟩
    have fk : ∀ (b : Bool) (A B : Prop), b = false → B → if b = true then A else B := fun b A B h a => by rw [h]; exact iteF a
    have tk : ∀ (b : Bool) (A B : Prop), b = true → A → if b = true then A else B := fun b A B h a => by rw [h]; exact iteT a
    refine ⟨_, rfl, _, rfl, l, ws, i, rfl, hl, rfl, _, rfl, ?_⟩
    by_cases h0 : ds = []
    · subst h0
      have e0 : dsW [] = (["-"] : List Str) := if_pos rfl
      have hw : wat ws i = "-" := wat_of (by rw [e0] at hf; exact hf.head)
      refine tk _ _ _ (decide_eq_true (by rw [hw])) ?_
      refine ⟨Nat.zero_le _, fun dl hdl => ⟨_, rfl, _, _, rfl, rfl, (by show 2 ≤ sizeLine; decide), fun t ht' => ?_⟩⟩
      have s1 : Same H (upd H dl (.tup [])) := same_upd hdl
      refine q t dl [] _ (Same.upd2 s1 (s1.free ht')) ?_ (Same.sqt (same_upd ht') (SqT.of upd_same)) .nil
      rw [upd_same, e0]; rfl
    have eW : dsW ds = inter "," (ds.map D.ws) := if_neg h0
    obtain ⟨d0, r0, e0⟩ := List.exists_cons_of_ne_nil h0
    have hfirst : From ws i (inter "," (ds.map D.ws) ++ (">" : Str) :: tl) := by rw [← eW]; exact hf
    refine fk _ _ _ (decide_eq_false fun e => ?_) ?_
    · have e := V.str.inj e
      rw [e0, inter_rwD] at hfirst
      obtain ⟨rs, ers, _⟩ := d0.ws_cons
      rw [ers, List.cons_append] at hfirst
      rw [wat_of hfirst.head] at e
      exact (verb_ne _).1 e
    refine ⟨Nat.zero_le _, fun F hF => ?_⟩
    have sF : Same H (upd H F (.lst [])) := same_upd hF
    -- while
    let W : Nat → L2.St → Hp → Prop := fun k σ' H' => ∃ (m a : Nat) (xs : List V) (v5 v6 v7 : Option V), k = ds.length - m ∧ m ≤ ds.length ∧ σ' = [some (.ref l), some (.int a), some (.ref sl), some (.bl hears), some (.ref F), v5, v6, v7, none] ∧ Same H H' ∧ H' F = some (.lst xs) ∧ Paired (DeedAt K H') xs (ds.take m) ∧
      (m = 0 → a = i) ∧ (0 < m → From ws a (rwD (ds.drop m) ((">" : Str) :: tl)) ∧ a + (rwD (ds.drop m) []).length = i + (dsW ds).length)
    refine ⟨W, ⟨ds.length, 0, i, [], none, none, none, rfl, Nat.zero_le _, rfl, sF, upd_same, .nil, fun _ => rfl, fun h => absurd h (Nat.lt_irrefl _)⟩, ?_⟩
    rintro k σ' H' ⟨m, a, xs, v5, v6, v7, rfl, hm, rfl, s', hF', hxs, ha0, ham⟩
    have hl' := s'.seq hl
    have hxl : xs.length = m := by rw [hxs.length, List.length_take, Nat.min_eq_left hm]
    have T0 : ∀ (b : Bool), (m = 0 ∧ b = true ∨ m ≠ 0 ∧ b = (decide (m < 8) && decide (wat ws a = ","))) → ∀ (Qt : Bool → Hp → Prop), Qt b H' → tOr (tTest (tOp rEq (tCB (rLenK K) (tCons (tVar 4) tNil)) (tC (.int 0)))) (tAnd (tTest (tOp (rI0 fun i j => .bl (decide (i < j))) (tCB (rLenK K) (tCons (tVar 4) tNil)) (tC (.int 8)))) (tTest (tOp rEq (tC1 (spWordAt K) (tCons (tVar 0) (tCons (tVar 1) tNil))) (tC (.str ","))))) [some (.ref l), some (.int a), some (.ref sl), some (.bl hears), some (.ref F), v5, v6, v7, none] H' Qt := by
      intro b hb Qt qt
      refine ⟨_, rfl, F, xs, rfl, .inl (SqL.of hF'), rfl, _, rfl, ?_⟩
      rcases hb with ⟨h1, rfl⟩ | ⟨h1, rfl⟩
      · exact tk _ _ _ (decide_eq_true (by rw [hxl, h1]; rfl)) qt
      · refine fk _ _ _ (decide_eq_false fun e => h1 (by have := V.int.inj e; omega)) ⟨_, rfl, F, xs, rfl, .inl (SqL.of hF'), _, _, rfl, rfl, _, rfl, ?_⟩
        by_cases h2 : m < 8
        · rw [decide_eq_true h2, Bool.true_and] at qt
          refine tk _ _ _ (decide_eq_true (by omega)) ⟨_, rfl, _, rfl, l, ws, a, rfl, hl', rfl, _, rfl, ?_⟩
          rw [show decide (V.str (wat ws a) = V.str ",") = decide (wat ws a = ",") from decide_eq_decide.mpr ⟨fun e => V.str.inj e, fun e => by rw [e]⟩]
          exact qt
        · rw [decide_eq_false h2, Bool.false_and] at qt
          exact fk _ _ _ (decide_eq_false (by omega)) qt
    by_cases hlt : m < ds.length
    · obtain ⟨d, hd⟩ : ∃ d, ds[m]? = some d := ⟨_, List.getElem?_eq_getElem hlt⟩
      have hmem : d ∈ ds := List.mem_of_getElem? hd
      have edrop : ds.drop m = d :: ds.drop (m + 1) := by
        rw [← List.getElem_cons_drop (h := hlt)]
        congr 1
        exact Option.some.inj ((List.getElem?_eq_getElem hlt).symm.trans hd)
      have etake : ds.take (m + 1) = ds.take m ++ [d] := by rw [List.take_add_one, hd]; rfl
      -- where it starts
      obtain ⟨st, hst, hfrom, hlen⟩ : ∃ st, (if m = 0 then a else a + 1) = st ∧ From ws st (d.ws ++ rwD (ds.drop (m + 1)) ((">" : Str) :: tl)) ∧ st + d.ws.length + (rwD (ds.drop (m + 1)) []).length = i + (dsW ds).length := by
        by_cases h1 : m = 0
        · subst h1
          refine ⟨i, by rw [if_pos rfl]; exact ha0 rfl, ?_, ?_⟩
          · rw [← inter_rwD, ← edrop]; exact hfirst
          · have ed : ds = d :: ds.drop 1 := edrop
            have e1 := inter_rwD d (ds.drop 1) []
            rw [← ed, List.append_nil] at e1
            rw [eW, e1, List.length_append]
            show i + d.ws.length + (rwD (ds.drop 1) []).length = _
            omega
        · obtain ⟨h2, h3⟩ := ham (by omega)
          have en : rwD (ds.drop m) ((">" : Str) :: tl) = ("," : Str) :: (d.ws ++ rwD (ds.drop (m + 1)) ((">" : Str) :: tl)) := by
            unfold rwD
            rw [if_neg (by rw [edrop]; exact List.cons_ne_nil _ _), edrop]
            exact congrArg _ (inter_rwD _ _ _)
          have en0 : rwD (ds.drop m) [] = ("," : Str) :: (d.ws ++ rwD (ds.drop (m + 1)) []) := by
            unfold rwD
            rw [if_neg (by rw [edrop]; exact List.cons_ne_nil _ _), edrop]
            exact congrArg _ (inter_rwD _ _ _)
          refine ⟨a + 1, if_neg h1, ?_, ?_⟩
          · rw [en] at h2; exact h2.tail
          · rw [en0, List.length_cons, List.length_append] at h3
            omega
      have hcomma : 0 < m → wat ws a = "," := fun h => by
        have h2 := (ham h).1
        unfold rwD at h2
        rw [if_neg (by rw [edrop]; exact List.cons_ne_nil _ _)] at h2
        exact wat_of h2.head
      have hverb : wat ws st = d.kd.verb := by
        obtain ⟨rs, ers, _⟩ := d.ws_cons
        rw [ers, List.cons_append] at hfrom
        exact wat_of hfrom.head
      -- the test
      refine T0 true (by
        by_cases h1 : m = 0
        · exact .inl ⟨h1, rfl⟩
        · exact .inr ⟨h1, by rw [hcomma (by omega), decide_eq_true (by omega : m < 8), decide_eq_true rfl]; rfl⟩) _ ?_
      refine tk _ _ _ rfl ⟨W (ds.length - (m + 1)), fun σ2 H3 h3 => ⟨_, by omega, h3⟩, ?_⟩
      -- start
      have start_ : ∀ (Qt : V → Hp → Prop), Qt (.int (st : Int)) H' → tIf (tTest (tOp rEq (tCB (rLenK K) (tCons (tVar 4) tNil)) (tC (.int 0)))) (tVar 1) (tOp (rI0 fun i j => .int (i + j)) (tVar 1) (tC (.int 1))) [some (.ref l), some (.int a), some (.ref sl), some (.bl hears), some (.ref F), v5, v6, v7, none] H' Qt := by
        intro Qt qt
        refine ⟨_, rfl, F, xs, rfl, .inl (SqL.of hF'), rfl, _, rfl, ?_⟩
        rw [← hst] at qt
        by_cases h1 : m = 0
        · rw [if_pos h1] at qt
          exact tk _ _ _ (decide_eq_true (by rw [hxl, h1]; rfl)) ⟨_, rfl, qt⟩
        · rw [if_neg h1] at qt
          exact fk _ _ _ (decide_eq_false fun e => h1 (by have := V.int.inj e; omega)) ⟨_, rfl, _, _, rfl, rfl, qt⟩
      refine start_ _ ?_
      -- verb
      refine ⟨_, rfl, _, rfl, l, ws, st, rfl, hl', ?_⟩
      rw [hverb]
      -- the two refusals
      have ref_ : ∀ (Qt : Bool → Hp → Prop), (∀ H2, Same H' H2 → Qt false H2) → tOr (tAnd (tTest (tOp rEq (tVar 6) (tC (.str "put")))) (tNot (tB (tVar 3)))) (tAnd (tTest (tOp rEq (tVar 6) (tC (.str "take")))) (tB (tCB (rAny K) (tCons (tLc (iList K (tVar 4)) (gName 7) tYes (tCB (OIsi K) (tCons (tVar 7) (tCons (tC (.ref (c_Take K))) tNil))) [7]) tNil)))) [some (.ref l), some (.int a), some (.ref sl), some (.bl hears), some (.ref F), some (.int (st : Int)), some (.str d.kd.verb), v7, none] H' Qt := by
        intro Qt qt
        have second : tAnd (tTest (tOp rEq (tVar 6) (tC (.str "take")))) (tB (tCB (rAny K) (tCons (tLc (iList K (tVar 4)) (gName 7) tYes (tCB (OIsi K) (tCons (tVar 7) (tCons (tC (.ref (c_Take K))) tNil))) [7]) tNil))) [some (.ref l), some (.int a), some (.ref sl), some (.bl hears), some (.ref F), some (.int (st : Int)), some (.str d.kd.verb), v7, none] H' Qt := by
          refine ⟨_, rfl, rfl, _, rfl, ?_⟩
          by_cases hk : d.kd = .take
          · refine tk _ _ _ (vtV d.kd .take hk) ?_
            refine ⟨_, rfl, F, rfl, ⟨_, SqL.of hF'⟩, ?_⟩
            refine lc_mapL (tt := tYes) (ds := ds.take m) (A := DeedAt K H') (b := fun _ => true) (P := fun d v _ => v = V.bl (decide (d.kd = .take))) (SqL.of hF') hxs (fun _ _ _ _ _ h => h) (fun _ => rfl) (fun x d H2 R _ _ _ k => k H2 (Same.refl _)) (fun x e H2 R hx _ _ s2 k => ?_) (lt_line (by rw [List.length_take]; omega)) fun H2 D2 ys _ s2 hy hp2 => ?_
            · exact ⟨_, rfl, isi_deed T (hx.up (Same.up s2)) (kitTake T _) (k _ _ (Same.refl _) rfl)⟩
            · rw [filter_true] at hp2
              have ey : ys = ((ds.take m).map fun d => decide (d.kd = .take)).map V.bl := by
                rw [List.map_map]
                exact paired_map (f := V.bl ∘ fun d : D => decide (d.kd = .take)) hp2
              have hno : ((ds.take m).map fun d => decide (d.kd = .take)).any id = false := by
                rw [List.any_map, List.any_eq_false]
                intro e he hte
                have h1 : 1 ≤ takes (ds.take m) := List.length_pos_iff.mpr (List.ne_nil_of_mem (List.mem_filter.mpr ⟨he, hte⟩))
                have h2 : takes ds = takes (ds.take m) + takes (ds.drop m) := by rw [← takes_app, List.take_append_drop]
                have h3 : 1 ≤ takes (ds.drop m) := List.length_pos_iff.mpr (List.ne_nil_of_mem (List.mem_filter.mpr ⟨by rw [edrop]; exact List.mem_cons_self, decide_eq_true hk⟩))
                omega
              exact ⟨D2, _, rfl, ey ▸ SqL.of hy, _, rfl, by rw [hno]; exact qt H2 s2⟩
          · exact fk _ _ _ (vfV d.kd .take hk) (qt H' (Same.refl _))
        refine ⟨_, rfl, rfl, _, rfl, ?_⟩
        by_cases hk : d.kd = .put
        · refine tk _ _ _ (vtV d.kd .put hk) ⟨_, rfl, _, rfl, ?_⟩
          cases hh : hears with
          | false => exact absurd hk (hp hh d hmem)
          | true =>
            subst hh
            exact fk _ _ _ rfl second
        · exact fk _ _ _ (vfV d.kd .put hk) (fk _ _ _ rfl second)
      refine ref_ _ fun H2 s2 => ?_
      refine fk _ _ _ rfl ?_
      have s02 := s'.trans s2
      have hF2 : H2 F = some (.lst xs) := s2 _ _ hF'
      have hx2 : Paired (DeedAt K H2) xs (ds.take m) := Paired.mapP hxs fun _ _ q => q.up (Same.up s2)
      have htl : (ds.take m).length ≤ 8 := by rw [List.length_take]; omega
      refine ⟨_, rfl, _, rfl, _, rfl, F, xs, ds.take m, rfl, .inl (SqL.of hF2), hx2, by omega, fun a3 H3 s3 ha3 => ⟨a3, rfl, ⟨_, ha3⟩, ?_⟩⟩
      have s03 := s02.trans s3
      refine lc_mapT (α := Str) (ds := fitS (ds.take m)) (A := fun x y => x = V.str y) (b := fun y => decide (y ∈ ss)) (P := fun y v _ => v = V.str y) ha3 (paired_swap (paired_of_map V.str _)) (fun _ _ _ _ _ h => h) (fun _ => rfl) (fun x y H4 R hx _ s4 k => ?_) (fun x y H4 R hx _ _ s4 k => ?_) (lt_line (by unfold fitS; exact Nat.le_trans (List.length_filter_le _ _) (by decide))) (fun H4 D4 ys hD4 s4 hy hp4 => ?_)
      · subst hx
        refine ⟨_, rfl, _, rfl, sl, strVs ss, rfl, same_seq (s03.trans s4) hs, rfl, flat_strs _, ?_⟩
        rw [show inV (.str y) (strVs ss) = decide (y ∈ ss) from inV_str _ _]
        exact ⟨_, rfl, k _ (Same.refl _)⟩
      · subst hx
        exact ⟨_, rfl, k _ _ (Same.refl _) rfl⟩
      have ey : ys = strVs ((fitS (ds.take m)).filter fun y => decide (y ∈ ss)) := paired_map (f := V.str) hp4
      have s04 := s03.trans s4
      refine ⟨l, D4, ws, (fitS (ds.take m)).filter fun y => decide (y ∈ ss), st, d, rfl, s04.seq hl, .inl (by rw [← ey]; exact SqL.of hy), hz, hfrom.left, ok d hmem, ⟨z, List.mem_filter.mpr ⟨fitS_mem hz2 fun e he => hz3 e (List.mem_of_mem_take he), decide_eq_true hz1⟩, of_decide_eq_true (hz3 d hmem)⟩, fun t v H5 s5 ht5 hv5 => ?_⟩
      have hF5 : H5 F = some (.lst xs) := s5 _ _ (s4 _ _ (s3 _ _ hF2))
      refine ⟨t, _, rfl, SqT.of ht5, rfl, v, _, rfl, _, [], rfl, rfl, ?_⟩
      refine ⟨_, rfl, .inl ⟨rfl, _, SqL.of hF5⟩, _, rfl, F, _, _, rfl, rfl, hF5, lt_line (by omega), ?_⟩
      have s05 := s04.trans s5
      have u5 : Up H5 (upd H5 F (.lst (xs ++ [v]))) := Up.at hF5 (fun z => z)
      refine ⟨m + 1, st + d.ws.length, xs ++ [v], _, _, _, rfl, hlt, rfl, Same.upd2 s05 hF, upd_same, ?_, fun h => absurd h (Nat.succ_ne_zero m), fun _ => ⟨hfrom.right, hlen⟩⟩
      rw [etake]
      exact paired_append (Paired.mapP hx2 fun _ _ q => q.up (((Same.up s3).trans (Same.up s4)).trans ((Same.up s5).trans u5))) (.cons (hv5.up u5) .nil)
    · have hmm : m = ds.length := by omega
      subst hmm
      have hdp : 0 < ds.length := List.length_pos_iff.mpr h0
      obtain ⟨h2, h3⟩ := ham hdp
      have ed : ds.drop ds.length = [] := List.drop_length
      rw [ed] at h2 h3
      have e2 : rwD [] ((">" : Str) :: tl) = (">" : Str) :: tl := if_pos rfl
      have e3 : rwD [] [] = [] := if_pos rfl
      rw [e2] at h2
      rw [e3] at h3
      have hwat : wat ws a = ">" := wat_of h2.head
      refine T0 false (.inr ⟨by omega, by rw [hwat, show decide ((">" : Str) = ",") = false from by decide, Bool.and_false]⟩) _ ?_
      refine fk _ _ _ rfl ?_
      rw [List.take_length] at hxs
      refine ⟨_, rfl, F, xs, rfl, .inl ⟨SqL.of hF', fun dl hdl => ⟨_, rfl, (by show 2 ≤ sizeLine; decide), fun t ht' => ?_⟩⟩⟩
      have s1 : Same H (upd H' dl (.tup xs)) := Same.upd2 s' (s'.free hdl)
      refine q t dl xs _ (Same.upd2 s1 (s1.free ht')) ?_ (Same.sqt (same_upd ht') (SqT.of upd_same)) (Paired.mapP hxs fun _ _ q => q.up (Same.up ((same_upd hdl).trans (same_upd ht'))))
      rw [upd_same, ← h3]; rfl
end
end L2.My
end
section
set_option Elab.async false
set_option linter.all false
set_option autoImplicit false
set_option maxRecDepth 100000
set_option maxHeartbeats 2000000
/-! Row: making -/
namespace L2.My
open PySem PySem.Spec PyProof.Rows He
section
variable {α : Type} {K : PySem.W.Frag} {a : Addr} {xs : List V} {ds : List α} {t1 : TE} {vs vs1 : List Nat} {σ : L2.St} {H1 : Hp} {Qd : Addr → Hp → Prop} {i j : Nat} {A : V → α → Prop} {f : α → List Nat}
theorem lc2_nat (hq : SqT K H1 a xs) (hp : Paired A xs ds) (hw : ∀ x, wipe ((wipe σ vs).set i (some x)) vs = wipe σ vs)
    (hw1 : ∀ x y, wipe ((wipe ((wipe σ vs).set i (some x)) vs1).set j (some y)) vs1 = wipe ((wipe σ vs).set i (some x)) vs1) (hj : ∀ x y, ((wipe ((wipe σ vs).set i (some x)) vs1).set j (some y))[j]? = some (some y))
    (hin : ∀ x d H' (R : VK), A x d → d ∈ ds → Same H1 H' → (∀ t H'', Same H' H'' → SqT K H'' t (natVs (f d)) → R (.ref t) H'') → t1 ((wipe σ vs).set i (some x)) H' R)
    (hlen : (ds.flatMap f).length < sizeLine) (k : ∀ H2 D, H1 D = none → Same H1 H2 → H2 D = some (.lst (natVs (ds.flatMap f))) → Qd D H2) :
    ∀ D, H1 D = none → ∃ W : Nat → Nat → Hp → Prop, (∃ m, W 0 m (upd H1 D (.lst []))) ∧ ∀ n m H, W n m H →
      ((Itt K a).stop n H ∧ Qd D H) ∨ ((Itt K a).go n H ∧ ∃ Nx : Hp → Prop, (∀ H', Nx H' → ∃ m', m' < m ∧ W (n + 1) m' H') ∧ ∀ x H', (Itt K a).yld n H x H' → gName i x (wipe σ vs) H' fun σ2 H2 => wipe σ2 vs = wipe σ vs ∧ tYes σ2 H2 fun b H3 =>
        if b = true then iTup K t1 σ2 H3 fun J1 H4 => ∃ W1 : Nat → Nat → Hp → Prop, (∃ m, W1 0 m H4) ∧ ∀ j' k H, W1 j' k H →
          (J1.stop j' H ∧ Nx H) ∨ (J1.go j' H ∧ ∃ Nx1 : Hp → Prop, (∀ H', Nx1 H' → ∃ k', k' < k ∧ W1 (j' + 1) k' H') ∧ ∀ x H', J1.yld j' H x H' → gName j x (wipe σ2 vs1) H' fun σ3 H5 => wipe σ3 vs1 = wipe σ2 vs1 ∧ tYes σ3 H5 fun b H6 =>
            if b = true then tVar j σ3 H6 fun y H7 => ∃ acc, H7 D = some (.lst acc) ∧ acc.length < sizeLine ∧ Nx1 (upd H7 D (.lst (acc ++ [y]))) else Nx1 H6)
        else Nx H3) := by
  intro D hD
  have hxl := hp.length
  refine ⟨fun n m H => m = xs.length - n ∧ n ≤ xs.length ∧ Same H1 H ∧ H D = some (.lst (natVs ((ds.take n).flatMap f))), ⟨_, rfl, Nat.zero_le _, same_upd hD, upd_same⟩, ?_⟩
  rintro n m H ⟨rfl, hn, s, hd⟩
  have qx := Same.sqt s hq
  by_cases hlt : n < xs.length
  · have e2 : xs[n]? = some xs[n] := List.getElem?_eq_getElem hlt
    refine .inr ⟨⟨xs, _, qx, e2⟩, fun H' => Same H1 H' ∧ H' D = some (.lst (natVs ((ds.take (n + 1)).flatMap f))), fun H' p' => ⟨xs.length - (n + 1), by omega, rfl, hlt, p'⟩, fun x H' y => ?_⟩
    obtain ⟨rfl, fx⟩ := y
    obtain ⟨d, hd1, hA⟩ := paired_get hp (fx xs qx)
    have hmem : d ∈ ds := List.mem_of_getElem? hd1
    refine ⟨hw x, tYes_ok ?_⟩
    rw [if_pos rfl]
    refine hin x d _ _ hA hmem s fun t H4 s4 ht => ⟨t, rfl, ⟨_, ht⟩, ?_⟩
    have hpre : ∀ q, (natVs ((ds.take n).flatMap f ++ (f d).take q)).length < sizeLine := fun q => by
      have e1 : ds = ds.take n ++ d :: ds.drop (n + 1) := by
        have hlt2 : n < ds.length := by omega
        have ed : ds.drop n = d :: ds.drop (n + 1) := by
          rw [← List.getElem_cons_drop (h := hlt2)]
          congr 1
          exact Option.some.inj ((List.getElem?_eq_getElem hlt2).symm.trans hd1)
        rw [← ed, List.take_append_drop]
      rw [e1, List.flatMap_append, List.flatMap_cons, List.length_append, List.length_append] at hlen
      rw [show (natVs ((ds.take n).flatMap f ++ (f d).take q)).length = ((ds.take n).flatMap f ++ (f d).take q).length from List.length_map .., List.length_append, List.length_take]
      omega
    have hfl : (natVs (f d)).length = (f d).length := List.length_map ..
    refine ⟨fun q k H => k = (f d).length - q ∧ q ≤ (f d).length ∧ Same H1 H ∧ SqT K H t (natVs (f d)) ∧ H D = some (.lst (natVs ((ds.take n).flatMap f ++ (f d).take q))), ⟨_, rfl, Nat.zero_le _, s.trans s4, ht, ?_⟩, ?_⟩
    · rw [List.take_zero, List.append_nil]; exact s4 _ _ hd
    rintro q k' H5 ⟨rfl, hq', s5, ht5, hd5⟩
    by_cases hlq : q < (f d).length
    · have e3 : (natVs (f d))[q]? = some (.int ((f d)[q] : Nat)) := by
        unfold natVs
        rw [List.getElem?_map, List.getElem?_eq_getElem hlq]; rfl
      refine .inr ⟨⟨_, _, ht5, e3⟩, fun H' => Same H1 H' ∧ SqT K H' t (natVs (f d)) ∧ H' D = some (.lst (natVs ((ds.take n).flatMap f ++ (f d).take (q + 1)))), fun H' p' => ⟨(f d).length - (q + 1), by omega, rfl, hlq, p'⟩, fun y H' hy => ?_⟩
      obtain ⟨rfl, fy⟩ := hy
      have ey : y = .int ((f d)[q] : Nat) := Option.some.inj ((fy _ ht5).symm.trans e3)
      subst ey
      refine ⟨hw1 _ _, tYes_ok ?_⟩
      rw [if_pos rfl]
      refine ⟨_, hj _ _, _, hd5, hpre q, Same.upd2 s5 hD, (Up.at hd5 (fun z => z)).sqt ht5, ?_⟩
      rw [upd_same, List.take_add_one, List.getElem?_eq_getElem hlq, ← List.append_assoc]
      simp only [natVs, List.map_append, Option.toList_some, List.map_cons, List.map_nil]
    · have e : q = (f d).length := by omega
      subst e
      refine .inl ⟨⟨_, ht5, by omega⟩, s5, ?_⟩
      rw [hd5, List.take_length, List.take_add_one, hd1, List.flatMap_append]
      simp
  · have e : n = xs.length := by omega
    subst e
    refine .inl ⟨⟨xs, qx, Nat.le_refl _⟩, k H D hD s ?_⟩
    rw [hd, hxl, List.take_length]
end
section
variable {P : Program} {w : World} {K : PySem.W.Frag} {mg : Str → Option Value} {base : Heap}
theorem DeedAt.ne {H : Hp} {v : V} {d : D} {a C dx : Addr} (h : DeedAt K H v d) (ha : H a = some (.ins C dx [])) : ∃ b dy, b ≠ a ∧ v = .ref b ∧ H b = some (.ins (cKd K d.kd) dy d.fs) := by
  obtain ⟨b, dy, rfl, hb⟩ := h
  refine ⟨b, dy, fun e => ?_, rfl, hb⟩
  subst e
  rw [ha] at hb
  have e2 := Option.some.inj hb
  injection e2 with _ _ e3
  cases d <;> cases e3
/-- all but one stays -/
def SameB (a : Addr) (H H' : Hp) : Prop := ∀ c o, c ≠ a → H c = some o → H' c = some o
theorem SameB.sqt {H H' : Hp} {a C dx b : Addr} {xs : List V} {fs : List (Str × V)} (h : SameB a H H') (ha : H a = some (.ins C dx fs)) (hq : SqT K H b xs) : SqT K H' b xs := by
  rcases hq with (hq | ⟨o, hq⟩) | hq
  · exact .inl (.inl (h b _ (ne_of hq ha (fun z => nomatch z)) hq))
  · exact .inl (.inr ⟨o, h b _ (ne_of hq ha (fun z => nomatch z)) hq⟩)
  · exact .inr hq
theorem SameB.deeds {H H' : Hp} {a C dx : Addr} (h : SameB a H H') (ha : H a = some (.ins C dx [])) {xs : List V} {ds : List D} (hp : Paired (DeedAt K H) xs ds) : Paired (DeedAt K H') xs ds := Paired.mapP hp fun v d q => by
  obtain ⟨b, dy, hne, rfl, hb⟩ := q.ne ha
  exact ⟨b, dy, rfl, h b _ hne hb⟩
theorem any_false {α : Type} (l : List α) : (l.map fun _ => false).any id = false := by rw [List.any_map, List.any_eq_false]; intro _ _ h; cases h
def spRowInit (K : PySem.W.Frag) : Sp := fun vs H Q _ => ∃ (a dx el fl dl : Addr) (r : R) (xs : List V), vs = [.ref a, .int r.st, .int r.th, r.hr.v, .ref el, .ref fl, .ref dl] ∧ H a = some (.ins (c_Row K) dx []) ∧ SqT K H el (natVs r.em) ∧ SqT K H fl (natVs r.fu) ∧ SqT K H dl xs ∧ Paired (DeedAt K H) xs r.ds ∧ r.ok ∧ fitS r.ds ≠ [] ∧ r.em.length ≤ 10 ∧ r.fu.length ≤ 10 ∧
  ∀ (H' : Hp) (kl : Addr), SameB a H H' → H' a = some (.ins (c_Row K) dx (rowFs r.st dl r.th r.hr.v el fl kl)) → SqT K H' kl [.int r.st, .int r.hr.rank, .ref el, .ref fl, .str (dsT r.ds), .int r.th] → Q .non H'
theorem fnk_row (T : Tx P K mg) : FnK P w K mg base 8 (a_Row_init K) ["then", "hear", "empty", "full"] (fun zs vs H Q E => ∃ v1 v2 rest z1 z2 z3 z4, vs = v1 :: v2 :: rest ∧ zs = [z1, z2, z3, z4] ∧ rest.length ≤ sizeLine ∧ ∀ p, H p = none → spRowInit K [v1, v2, z1, z2, z3, z4, .ref p] (upd H p (.tup rest)) Q En) := by
  obtain ⟨fd, F⟩ := T.f_Row_init
  refine fnK_4 (k := 7) F sc_Row_init (fun _ _ _ _ _ _ u1 u2 rest w1 w2 w3 w4 => by cases rest <;> rfl) fun cdv A outer s H vs Q hr h => ?_
  obtain ⟨a, dx, el, fl, dl, r, xs, rfl, ha, hel, hfl, hdl, hxs, ok, hfit, lem, lfu, q⟩ := h
  refine ⟨_, (pss_cons (ps_if (pt_not (pt_val (pe_cal (cal_is_state T) hr (by decide) (by rfl) (pa_cons (pv 1) pa_nil)))) pss_never pss_nil) (pss_cons (ps_expr (pe_cal (cal_need_deeds T) hr (by decide) (by rfl) (pa_cons (pv 6) pa_nil))) (pss_cons (ps_if (pt_not (pt_val (pe_cal (cal_is_state T) hr (by decide) (by rfl) (pa_cons (pv 2) pa_nil)))) pss_never pss_nil) (pss_cons (ps_if (PW.pt (pw_or (pt_not (pt_val (pe_cal (cal_is_heard T) hr (by decide) (by rfl) (pa_cons (pv 3) pa_nil)))) (pw_or1 (PW.pt (pw_and (pt_cmp (pc_isN (pv 3))) (pw_and1 (pt_val (pe_callB (cr_anyK K rfl) (by rfl) T.n_any boot_any (pa_cons (pe_lc (own := [("deed", 7)]) (g := gName 7) (tt := tYes) rfl sc_Row_init.nd (pi_tupK K (pv 6)) (blkOk_by (N := ["self", "state", "then", "hear", "empty", "full", "deeds", "deed", "box"]) (sc := defScope s_Row_init) (by decide +kernel)) (fun _ _ _ _ _ => (pg_name (i := 7) sc_Row_init.nd rfl (by first | exact Or.inl rfl | exact Or.inr rfl))) (fun _ _ _ _ _ => pts_nil) (fun _ _ _ _ _ => (pe_callB (call_isiK K) (by rfl) T.n_isinstance boot_isinstance (pa_cons (pv 7) (pa_cons (pe_gref T.g_Put.1) pa_nil))))) pa_nil))))))))) pss_never pss_nil) (pss_cons (ps_if (pt_not (pt_val (pe_cal (cal_are_boxes T) hr (by decide) (by rfl) (pa_cons (pv 4) pa_nil)))) pss_never pss_nil) (pss_cons (ps_if (PW.pt (pw_or (pt_not (pt_val (pe_cal (cal_are_boxes T) hr (by decide) (by rfl) (pa_cons (pv 5) pa_nil)))) (pw_or1 (pt_val (pe_callB (cr_anyK K rfl) (by rfl) T.n_any boot_any (pa_cons (pe_lc (own := [("box", 8)]) (g := gName 8) (tt := tYes) rfl sc_Row_init.nd (pi_tupK K (pv 5)) (blkOk_by (N := ["self", "state", "then", "hear", "empty", "full", "deeds", "deed", "box"]) (sc := defScope s_Row_init) (by decide +kernel)) (fun _ _ _ _ _ => (pg_name (i := 8) sc_Row_init.nd rfl (by first | exact Or.inl rfl | exact Or.inr rfl))) (fun _ _ _ _ _ => pts_nil) (fun _ _ _ _ _ => (pe_cmpR (op_inK K) (pv 8) (pv 4) (by with_unfolding_all rfl)))) pa_nil)))))) pss_never pss_nil) (pss_cons (ps_fld (pv 0) (pv 1) rfl) (pss_cons (ps_fld (pv 0) (pv 6) rfl) (pss_cons (ps_fld (pv 0) (pv 2) rfl) (pss_cons (ps_fld (pv 0) (pv 3) rfl) (pss_cons (ps_fld (pv 0) (pv 4) rfl) (pss_cons (ps_fld (pv 0) (pv 5) rfl) (pss_one (ps_fld (pv 0) (pe_tup (pa_cons (pv 1) (pa_cons (pe_cal (cal_rank_of T) hr (by decide) (by rfl) (pa_cons (pv 3) pa_nil)) (pa_cons (pv 4) (pa_cons (pv 5) (pa_cons (pe_cal (cal_deeds_text T) hr (by decide) (by rfl) (pa_cons (pv 6) pa_nil)) (pa_cons (pv 2) pa_nil))))))) rfl)))))))))))))), ?_⟩
  have fk : ∀ (b : Bool) (A B : Prop), b = false → B → if b = true then A else B := fun b A B h a => by rw [h]; exact iteF a
  have tk : ∀ (b : Bool) (A B : Prop), b = true → A → if b = true then A else B := fun b A B h a => by rw [h]; exact iteT a
  have wst : wit (.int (r.st : Int)) 0 23 = true := wit_nat (m := 23) ok.st
  have wth : wit (.int (r.th : Int)) 0 23 = true := wit_nat (m := 23) ok.th
  refine ⟨_, rfl, _, rfl, trivial, _, rfl, fk _ _ _ (by rw [wst]; rfl) ?_⟩
  refine ⟨_, rfl, dl, xs, r.ds, rfl, hdl, hxs, ok.dl, hfit, ok.tk, fun H1 s1 => ?_⟩
  refine ⟨_, rfl, _, rfl, trivial, _, rfl, fk _ _ _ (by rw [wth]; rfl) ?_⟩
  -- heard; no put where nothing is heard
  have h1d := Paired.mapP hxs fun _ _ q => DeedAt.up q (Same.up s1)
  have put_ : ∀ (Qt : Bool → Hp → Prop), r.hr = .non → (∀ H2, Same H1 H2 → Qt false H2) → tB (tCB (rAny K) (tCons (tLc (iTup K (tVar 6)) (gName 7) tYes (tCB (OIsi K) (tCons (tVar 7) (tCons (tC (.ref (c_Put K))) tNil))) [7]) tNil)) [some (.ref a), some (.int (r.st : Int)), some (.int (r.th : Int)), some r.hr.v, some (.ref el), some (.ref fl), some (.ref dl), none, none] H1 Qt := by
    intro Qt hn qt
    refine ⟨_, rfl, dl, rfl, ⟨_, Same.sqt s1 hdl⟩, ?_⟩
    refine lc_mapT (tt := tYes) (ds := r.ds) (A := DeedAt K H1) (b := fun _ => true) (P := fun d v _ => v = V.bl (decide (d.kd = .put))) (Same.sqt s1 hdl) h1d (fun _ _ _ _ _ h => h) (fun _ => rfl) (fun x d H2 R _ _ _ k => k H2 (Same.refl _)) (fun x e H2 R hx _ _ s2 k => ?_) (lt_line (by have := ok.dl; omega)) fun H2 D2 ys _ s2 hy hp2 => ?_
    · exact ⟨_, rfl, isi_deed T (hx.up (Same.up s2)) (kitPut T _) (k _ _ (Same.refl _) rfl)⟩
    · rw [filter_true] at hp2
      have ey : ys = (r.ds.map fun d => decide (d.kd = .put)).map V.bl := by
        rw [List.map_map]
        exact paired_map (f := V.bl ∘ fun d : D => decide (d.kd = .put)) hp2
      have hno : (r.ds.map fun d => decide (d.kd = .put)).any id = false := by
        rw [List.any_map, List.any_eq_false]
        intro e he hte
        exact ok.pt hn e he (of_decide_eq_true hte)
      exact ⟨D2, _, rfl, ey ▸ SqL.of hy, _, rfl, by rw [hno]; exact qt H2 s2⟩
  have hear_ : ∀ (Qt : Bool → Hp → Prop), (∀ H2, Same H1 H2 → Qt false H2) → tOr (tNot (tB (tC1 spHeard (tCons (tVar 3) tNil)))) (tAnd (tB (tIsN (tVar 3))) (tB (tCB (rAny K) (tCons (tLc (iTup K (tVar 6)) (gName 7) tYes (tCB (OIsi K) (tCons (tVar 7) (tCons (tC (.ref (c_Put K))) tNil))) [7]) tNil)))) [some (.ref a), some (.int (r.st : Int)), some (.int (r.th : Int)), some r.hr.v, some (.ref el), some (.ref fl), some (.ref dl), none, none] H1 Qt := by
    intro Qt qt
    refine ⟨_, rfl, r.hr, rfl, ok.hr, true, rfl, fk _ _ _ rfl ⟨_, rfl, _, rfl, ?_⟩⟩
    by_cases hn : r.hr = .non
    · exact tk _ _ _ (decide_eq_true (by rw [hn]; rfl)) (put_ Qt hn qt)
    · exact fk _ _ _ (decide_eq_false fun e => hn (by cases hh : r.hr <;> rw [hh] at e <;> first | rfl | cases e)) (qt H1 (Same.refl _))
  refine hear_ _ fun H2 s2 => ?_
  refine fk _ _ _ rfl ?_
  have s02 := s1.trans s2
  -- empty
  refine ⟨_, rfl, el, r.em, rfl, Same.sqt s02 hel, ok.em, ok.ea, by omega, fun H3 s3 => ⟨_, rfl, fk _ _ _ rfl ?_⟩⟩
  have s03 := s02.trans s3
  -- full
  refine ⟨_, rfl, fl, r.fu, rfl, Same.sqt s03 hfl, ok.fu, ok.fa, by omega, fun H4 s4 => ⟨_, rfl, fk _ _ _ rfl ?_⟩⟩
  have s04 := s03.trans s4
  have hfl4 := Same.sqt s04 hfl
  refine ⟨_, rfl, fl, rfl, ⟨_, hfl4⟩, ?_⟩
  refine lc_mapT (tt := tYes) (ds := r.fu) (A := fun x n => x = V.int (n : Nat)) (b := fun _ => true) (P := fun d y _ => y = V.bl false) hfl4 (paired_swap (paired_of_map (fun n : Nat => V.int (n : Int)) r.fu)) (fun _ _ _ _ _ h => h) (fun _ => rfl) (fun x d H2 R _ _ _ k => k H2 (Same.refl _)) (fun x d H5 R hx hd _ s5 k => ?_) (lt_line (by omega)) fun H5 D5 ys _ s5 hy hp5 => ?_
  · subst hx
    refine ⟨_, rfl, _, rfl, el, _, rfl, .inr (Same.sqt (s04.trans s5) hel), rfl, flat_nats _, ?_⟩
    rw [show inV (.int (d : Int)) (natVs r.em) = decide (d ∈ r.em) from inV_nat _ _, decide_eq_false (ok.ap d hd)]
    exact k _ _ (Same.refl _) rfl
  rw [filter_true] at hp5
  have ey : ys = (r.fu.map fun _ => false).map V.bl := by
    rw [List.map_map]
    exact paired_map (f := V.bl ∘ fun _ : Nat => false) hp5
  refine ⟨D5, _, rfl, ey ▸ SqL.of hy, _, rfl, fk _ _ _ (any_false _) ?_⟩
  have s05 := s04.trans s5
  have ha5 := s05 _ _ ha
  -- the fields
  refine ⟨_, rfl, _, rfl, a, _, dx, _, rfl, ha5, T.cl_Row, T.na_Row_state, (by show 0 < 1000; decide), ?_⟩
  refine ⟨_, rfl, _, rfl, a, _, dx, _, rfl, upd_same, T.cl_Row, T.na_Row_deeds, (by show 1 < 1000; decide), ?_⟩
  refine ⟨_, rfl, _, rfl, a, _, dx, _, rfl, upd_same, T.cl_Row, T.na_Row_then, (by show 2 < 1000; decide), ?_⟩
  refine ⟨_, rfl, _, rfl, a, _, dx, _, rfl, upd_same, T.cl_Row, T.na_Row_hear, (by show 3 < 1000; decide), ?_⟩
  refine ⟨_, rfl, _, rfl, a, _, dx, _, rfl, upd_same, T.cl_Row, T.na_Row_empty, (by show 4 < 1000; decide), ?_⟩
  refine ⟨_, rfl, _, rfl, a, _, dx, _, rfl, upd_same, T.cl_Row, T.na_Row_full, (by show 5 < 1000; decide), ?_⟩
  simp only [upd_upd]
  have b6 : SameB a H (upd H5 a (.ins (c_Row K) dx (putF "full" (.ref fl) (putF "empty" (.ref el) (putF "hear" r.hr.v (putF "then" (.int r.th) (putF "deeds" (.ref dl) (putF "state" (.int r.st) [])))))))) := fun c o hc e => by
    rw [upd_ne hc]; exact s05 _ _ e
  refine ⟨_, rfl, _, rfl, r.hr, rfl, _, rfl, _, rfl, _, rfl, dl, xs, r.ds, rfl, b6.sqt ha hdl, b6.deeds ha hxs, ok.ds, ok.dl, fun H7 s7 => ⟨_, rfl, (by show 6 ≤ sizeLine; decide), fun p hp => ?_⟩⟩
  have ha7 : H7 a = some (.ins (c_Row K) dx (putF "full" (.ref fl) (putF "empty" (.ref el) (putF "hear" r.hr.v (putF "then" (.int r.th) (putF "deeds" (.ref dl) (putF "state" (.int r.st) []))))))) := s7 _ _ upd_same
  have hpa : a ≠ p := fun e => by rw [← e, ha7] at hp; cases hp
  refine ⟨_, rfl, a, _, dx, _, rfl, by rw [upd_ne hpa]; exact ha7, T.cl_Row, T.na_Row_key, (by show 6 < 1000; decide), ?_⟩
  refine q _ p (fun c o hc e => ?_) upd_same (SqT.of (by rw [upd_ne hpa.symm, upd_same]))
  rw [upd_ne hc]
  exact same_upd hp _ _ (s7 _ _ (b6 c o hc e))
end
end L2.My
end
section
set_option Elab.async false
set_option linter.all false
set_option autoImplicit false
set_option maxRecDepth 100000
set_option maxHeartbeats 2000000
/-! Row: its methods -/
namespace L2.My
open PySem PySem.Spec PyProof.Rows He
theorem op_eqDK {X : Cx} (K : PySem.W.Frag) (hu : X.A.units + 64 < cLine) (h : X.K = K := by rfl) : OpR X (compareOp .Eq) (rEqD K) := h ▸ op_eqD hu
section
variable {P : Program} {w : World} {K : PySem.W.Frag} {mg : Str → Option Value} {base : Heap}
theorem makK_Row (T : Tx P K mg) : MakK P w K mg base 8 "Row" (c_Row K) ["then", "hear", "empty", "full"] (fun zs vs H Q E => ∃ v1 v2 rest z1 z2 z3 z4, vs = v1 :: v2 :: rest ∧ zs = [z1, z2, z3, z4] ∧ rest.length ≤ sizeLine ∧ ∀ p, H p = none → spRowInit K [v1, v2, z1, z2, z3, z4, .ref p] (upd H p (.tup rest)) Q En) :=
  ⟨_, fnk_row T, mk_of T.mk_Row T.m_Row_init, T.g_Row.1⟩
/-- a row made -/
theorem row_made {H : Hp} {r : R} {xs : List V} {el fl : Addr} {Qd : Addr → Hp → Prop} (hxs : Paired (DeedAt K H) xs r.ds) (hel : SqT K H el (natVs r.em)) (hfl : SqT K H fl (natVs r.fu)) (ok : r.ok) (hfit : fitS r.ds ≠ []) (q : ∀ x H', Same H H' → RowAt K H' (.ref x) r → Qd x H') :
    [V.int (r.th : Int), r.hr.v, .ref el, .ref fl].length = 4 ∧ ∀ x dx, H x = none → H dx = none → dx ≠ x → (∃ v1 v2 rest z1 z2 z3 z4, (V.ref x :: V.int (r.st : Int) :: xs) = v1 :: v2 :: rest ∧ [V.int (r.th : Int), r.hr.v, .ref el, .ref fl] = [z1, z2, z3, z4] ∧ rest.length ≤ sizeLine ∧
      ∀ p, (upd (upd H dx (.own x)) x (.ins (c_Row K) dx [])) p = none → spRowInit K [v1, v2, z1, z2, z3, z4, .ref p] (upd (upd (upd H dx (.own x)) x (.ins (c_Row K) dx [])) p (.tup rest)) (fun v H3 => v = .non ∧ Qd x H3) En) := by
  refine ⟨rfl, fun x dx nx nd ne => ⟨_, _, xs, _, _, _, _, rfl, rfl, le_line (by rw [hxs.length]; have := ok.dl; omega), fun p hp => ?_⟩⟩
  have hpx : x ≠ p := fun e => by rw [← e, upd_same] at hp; cases hp
  have sm : Same H (upd (upd (upd H dx (.own x)) x (.ins (c_Row K) dx [])) p (.tup xs)) := fun b o e => by
    rw [upd_ne (fun z => by
      subst z
      rw [upd_ne hpx.symm] at hp
      by_cases hd : b = dx
      · rw [hd, upd_same] at hp; cases hp
      · rw [upd_ne hd] at hp; rw [hp] at e; cases e), upd_ne (ne_of_none e nx), upd_ne (ne_of_none e nd)]
    exact e
  refine ⟨x, dx, el, fl, p, r, xs, rfl, by rw [upd_ne hpx, upd_same], Same.sqt sm hel, Same.sqt sm hfl, SqT.of upd_same, Paired.mapP hxs fun _ _ q => q.up (Same.up sm), ok, hfit, by have := boxes_len ok.ea ok.em; omega, by have := boxes_len ok.fa ok.fu; omega, fun H' kl hb ha hk => ⟨rfl, ?_⟩⟩
  have s2 : Same H H' := fun b o e => hb b o (ne_of_none e nx) (sm b o e)
  refine q x H' s2 ⟨x, dx, p, el, fl, kl, xs, rfl, ha, ?_, Paired.mapP hxs fun _ _ q => q.up (Same.up s2), Same.sqt s2 hel, Same.sqt s2 hfl, hk⟩
  exact SqT.of (hb p _ hpx.symm (by rw [upd_same]))
/-! ### sides, numbers -/
def spRowSides (K : PySem.W.Frag) : Sp := fun vs H Q _ => ∃ (v : V) (r : R), vs = [v] ∧ RowAt K H v r ∧ r.ds.length ≤ 8 ∧ ∀ a H', Same H H' → SqT K H' a (strVs (fitS r.ds)) → Q (.ref a) H'
theorem met_sides (T : Tx P K mg) : Met P w K mg base 5 (c_Row K) "sides" (spRowSides K) := by
  refine ⟨_, mkFn (k := 4) T.f_Row_sides sc_Row_sides (fun vs H Q E h => ?_) (fun cdv A outer s H vs Q E hr h => ?_), T.cl_Row, T.m_Row_sides⟩
  · obtain ⟨v, r, rfl, _⟩ := h
    rfl
  · obtain ⟨v, r, rfl, ⟨a, dx, dl, el, fl, kl, xs, rfl, h⟩, h8, q⟩ := h
    refine ⟨_, (pss_one (ps_ret (pe_cal (cal_fit_sides T) hr (by decide) (by rfl) (pa_cons (pe_fldK K (pv 0)) pa_nil)))), ?_⟩
    exact ⟨_, rfl, a, _, dx, _, _, rfl, h.at_, T.cl_Row, T.na_Row_deeds, rowFs_deeds, dl, xs, r.ds, rfl, .inr h.ds, h.dp, by omega, q⟩
theorem nums_le (d : D) : d.nums.length ≤ 1 := by cases d <;> simp [D.nums]
theorem flat_nums_le : ∀ ds : List D, (ds.flatMap D.nums).length ≤ ds.length
  | [] => Nat.zero_le _
  | d :: r => by
    have := nums_le d
    have := flat_nums_le r
    rw [List.flatMap_cons, List.length_append, List.length_cons]
    omega
def spRowNums (K : PySem.W.Frag) : Sp := fun vs H Q _ => ∃ (v : V) (r : R), vs = [v] ∧ RowAt K H v r ∧ r.ok ∧ ∀ a H', Same H H' → SqT K H' a (natVs (ascOf r.nums)) → Q (.ref a) H'
theorem met_rownums (T : Tx P K mg) : Met P w K mg base 4 (c_Row K) "named_numbers" (spRowNums K) := by
  refine ⟨_, mkFn (k := 3) T.f_Row_named_numbers sc_Row_named_numbers (fun vs H Q E h => ?_) (fun cdv A outer s H vs Q E hr h => ?_), T.cl_Row, T.m_Row_named_numbers⟩
  · obtain ⟨v, r, rfl, _⟩ := h
    rfl
  · obtain ⟨v, r, rfl, ⟨a, dx, dl, el, fl, kl, xs, rfl, h⟩, ok, q⟩ := h
    refine ⟨_, (pss_cons (ps_set (i := 1) sc_Row_named_numbers.nd rfl (by first | exact Or.inl rfl | exact Or.inr rfl) (pe_ifExp (pt_val (pe_cal (cal_is_number T) hr (by decide) (by rfl) (pa_cons (pe_fldK K (pv 0)) pa_nil))) (pe_lst (pa_cons (pe_fldK K (pv 0)) pa_nil)) (pe_lst pa_nil))) (pss_one (ps_ret (pe_cal (cal_ascending T) hr (by decide) (by rfl) (pa_cons (pe_lst (pa_starK K (pv 1) (pa_starK K (pe_lc2 (own := [("deed", 2), ("number", 3)]) (vs1 := [3]) (g := gName 2) (g1 := gName 3) (tt := tYes) (tt1 := tYes) rfl sc_Row_named_numbers.nd (pi_tupK K (pe_fldK K (pv 0))) (blkOk_by (N := ["self", "heard", "deed", "number"]) (sc := defScope s_Row_named_numbers) (by decide +kernel)) (by decide) (fun _ _ _ _ _ => (pg_name (i := 2) sc_Row_named_numbers.nd rfl (by first | exact Or.inl rfl | exact Or.inr rfl))) (fun _ _ _ _ _ => pts_nil) (fun _ _ _ _ _ => (pi_tupK K (pe_exK fun k : Kd => pe_met0 (met_nums T k) hr (by decide) (pv 2)))) (fun _ _ _ _ _ => (pg_name (i := 3) sc_Row_named_numbers.nd rfl (by first | exact Or.inl rfl | exact Or.inr rfl))) (fun _ _ _ _ _ => pts_nil) (fun _ _ _ _ _ => (pv 3))) pa_nil))) pa_nil))))), ?_⟩
    have fk : ∀ (b : Bool) (A B : Prop), b = false → B → if b = true then A else B := fun b A B h a => by rw [h]; exact iteF a
    have tk : ∀ (b : Bool) (A B : Prop), b = true → A → if b = true then A else B := fun b A B h a => by rw [h]; exact iteT a
    have fld : ∀ (Qt : V → Hp → Prop), Qt r.hr.v H → tFld K (tVar 0) "hear" [some (.ref a), none, none, none] H Qt := fun Qt qt => ⟨_, rfl, a, _, dx, _, _, rfl, h.at_, T.cl_Row, T.na_Row_hear, rowFs_hear, qt⟩
    have heard : ∀ (Qt : V → Hp → Prop), (∀ p H1, H p = none → Same H H1 → H1 p = some (.lst (natVs r.hr.nums)) → Qt (.ref p) H1) → tIf (tB (tC1 (spIsWit 0 5) (tCons (tFld K (tVar 0) "hear") tNil))) (tLst (tCons (tFld K (tVar 0) "hear") tNil)) (tLst tNil) [some (.ref a), none, none, none] H Qt := by
      intro Qt qt
      refine fld _ ?_
      cases hh : r.hr with
      | non => exact ⟨_, rfl, trivial, _, rfl, fk _ _ _ rfl ⟨Nat.zero_le _, fun p hp => qt p _ hp (same_upd hp) (by rw [upd_same, hh]; rfl)⟩⟩
      | oth => exact ⟨_, rfl, trivial, _, rfl, fk _ _ _ rfl ⟨Nat.zero_le _, fun p hp => qt p _ hp (same_upd hp) (by rw [upd_same, hh]; rfl)⟩⟩
      | num n =>
        have h5 : n ≤ 5 := by have := ok.hr; rw [hh] at this; exact this
        refine ⟨_, rfl, trivial, _, rfl, tk _ _ _ (wit_nat (m := 5) h5) ?_⟩
        refine fld _ ?_
        rw [hh]
        exact ⟨(by show 1 ≤ sizeLine; decide), fun p hp => qt p _ hp (same_upd hp) (by rw [upd_same, hh]; rfl)⟩
    refine heard _ fun p H1 hp s1 hH1 => ?_
    refine ⟨_, rfl, p, _, rfl, .inr (SqL.of hH1), ?_⟩
    have h1 := h.up (Same.up s1)
    refine ⟨_, rfl, a, _, dx, _, _, rfl, h1.at_, T.cl_Row, T.na_Row_deeds, rowFs_deeds, dl, rfl, ⟨_, h1.ds⟩, ?_⟩
    refine lc2_nat (A := DeedAt K H1) (f := D.nums) h1.ds h1.dp (fun _ => rfl) (fun _ _ => rfl) (fun _ _ => rfl) (fun x d H2 R hx _ s2 k => ?_) (lt_line (by have := flat_nums_le r.ds; have := ok.dl; omega)) (fun H2 D2 hD s2 hy => ?_)
    · obtain ⟨b, dy, rfl, hb⟩ := hx
      have hb2 := s2 _ _ hb
      exact ⟨d.kd, _, rfl, b, dy, _, rfl, hb2, D.fs_no, _, d, [], rfl, rfl, ⟨b, dy, rfl, hb2⟩, rfl, fun t H3 s3 ht => k t H3 s3 ht⟩
    · refine ⟨D2, _, rfl, .inr (SqL.of hy), ?_⟩
      have e : natVs r.hr.nums ++ (natVs (r.ds.flatMap D.nums) ++ []) = natVs r.nums := by
        unfold R.nums natVs
        rw [List.append_nil, List.map_append]
      have hln : r.nums.length ≤ 10 := by
        unfold R.nums
        rw [List.length_append]
        have := flat_nums_le r.ds
        have := ok.dl
        have : r.hr.nums.length ≤ 1 := by cases r.hr <;> simp [Hr.nums]
        omega
      show (natVs r.hr.nums ++ (natVs (r.ds.flatMap D.nums) ++ [])).length ≤ sizeLine ∧ _
      rw [e]
      refine ⟨le_line (by rw [show (natVs r.nums).length = r.nums.length from List.length_map ..]; omega), fun t ht => ⟨t, r.nums, rfl, SqL.of upd_same, fun u H4 s4 hu => q u H4 ((s1.trans s2).trans ((same_upd ht).trans s4)) hu⟩⟩
/-! ### == -/
theorem dpNats {H : Hp} : ∀ l : List Nat, DpAll K H (natVs l) (l.map fun n : Nat => PyData.int (n : Int))
  | [] => .nil
  | n :: r => .cons (.int _) (dpNats r)
theorem dp_key {H : Hp} {a dx dl el fl kl : Addr} {r : R} {xs : List V} (h : RowIn K H a r dx dl el fl kl xs) : Dp K H (.ref kl) (keyD r) :=
  .tup h.ky (.cons (.int _) (.cons (.int _) (.cons (.tup h.em (dpNats _)) (.cons (.tup h.fu (dpNats _)) (.cons (.str _) (.cons (.int _) .nil))))))
def spRowEq (K : PySem.W.Frag) : Sp := fun vs H Q _ => ∃ (v u : V) (r q : R), vs = [v, u] ∧ RowAt K H v r ∧ RowAt K H u q ∧ Q (.bl (keyEq r q)) H
theorem fn_row_eq (T : Tx P K mg) : FnR P w K mg base CXn 1 (a_Row_eq K) (spRowEq K) := by
  refine mkFn (k := 0) T.f_Row_eq sc_Row_eq (fun vs H Q E h => ?_) (fun cdv A outer s H vs Q E hr h => ?_)
  · obtain ⟨v, u, r, q, rfl, _⟩ := h
    rfl
  · obtain ⟨v, u, r, q, rfl, ⟨a, dx, dl, el, fl, kl, xs, rfl, h⟩, ⟨b, dy, ml, fl2, gl, kl2, ys, rfl, g⟩, k⟩ := h
    refine ⟨_, (pss_one (ps_ret (pe_and (pe_callB (call_isiK K) (by rfl) T.n_isinstance boot_isinstance (pa_cons (pv 1) (pa_cons (pe_gref T.g_Row.1) pa_nil))) (pe_one (pe_cmpR (op_eqDK K hr.units) (pe_fldK K (pv 0)) (pe_fldK K (pv 1)) (nomark _)))))), ?_⟩
    exact ⟨_, rfl, isi_ins g.at_ T.cl_Row T.it_Row T.k_Row_Row ⟨_, rfl, iteT ⟨_, rfl, a, _, dx, _, _, rfl, h.at_, T.cl_Row, T.na_Row_key, rowFs_key, _, rfl, b, _, dy, _, _, rfl, g.at_, T.cl_Row, T.na_Row_key, rowFs_key, _, _, dp_key h, dp_key g, keyD_shaped _, keyD_shaped _, k⟩⟩⟩
end
end L2.My
end
section
set_option Elab.async false
set_option linter.all false
set_option autoImplicit false
set_option maxRecDepth 100000
set_option maxHeartbeats 2000000
/-! Row: renumbered, text -/
namespace L2.My
open PySem PySem.Spec PyProof.Rows He
section
variable {P : Program} {w : World} {K : PySem.W.Frag} {mg : Str → Option Value} {base : Heap}
theorem fitS_ren (f : Nat → Nat) (ds : List D) : fitS (ds.map (D.ren f)) = fitS ds := by
  unfold fitS
  congr 1
  funext z
  rw [List.all_map]
  congr 1
  funext d
  exact D.ren_fits f d z
def spRowRen (K : PySem.W.Frag) : Sp := fun vs H Q _ => ∃ (v : V) (r : R) (t : Addr) (f : Nat → Nat) (dom : List Nat), vs = [v, .ref t] ∧ RowAt K H v r ∧ H t = some (.dK (tabK f dom)) ∧ r.ok ∧ fitS r.ds ≠ [] ∧ (∀ n ∈ r.nums, n ∈ dom ∧ f n ≤ 5) ∧ ∀ v' H', Same H H' → RowAt K H' v' (r.ren f) → Q v' H'
theorem met_rowren (T : Tx P K mg) : Met P w K mg base 10 (c_Row K) "renumbered" (spRowRen K) := by
  refine ⟨_, mkFn (k := 9) T.f_Row_renumbered sc_Row_renumbered (fun vs H Q E h => ?_) (fun cdv A outer s H vs Q E hr h => ?_), T.cl_Row, T.m_Row_renumbered⟩
  · obtain ⟨v, r, t, f, dom, rfl, _⟩ := h
    rfl
  · obtain ⟨v, r, t, f, dom, rfl, ⟨a, dx, dl, el, fl, kl, xs, rfl, h⟩, ht, ok, hfit, hf, q⟩ := h
    refine ⟨_, (pss_cons (ps_setLc (i := 2) (own := [("deed", 4)]) (g := gName 4) (tt := tYes) rfl sc_Row_renumbered.nd rfl rfl (sw_true rfl rfl rfl (by decide +kernel)) (pi_tupK K (pe_fldK K (pv 0))) (blkOk_by (N := ["self", "table", "deeds", "hear", "deed"]) (sc := defScope s_Row_renumbered) (by decide +kernel)) (fun _ _ _ _ _ => (pg_name (i := 4) sc_Row_renumbered.nd rfl (by first | exact Or.inl rfl | exact Or.inr rfl))) (fun _ _ _ _ _ => pts_nil) (fun _ _ _ _ _ => (pe_exK fun k : Kd => pe_met (met_ren T k) hr (by decide) (pv 4) (pa_cons (pv 1) pa_nil)))) (pss_cons (ps_set (i := 3) sc_Row_renumbered.nd rfl (by first | exact Or.inl rfl | exact Or.inr rfl) (pe_ifExp (pt_val (pe_cal (cal_is_number T) hr (by decide) (by rfl) (pa_cons (pe_fldK K (pv 0)) pa_nil))) (pe_dget (hu_of hr) (pv 1) (pe_fldK K (pv 0)) (fun _ _ => rfl)) (pe_fldK K (pv 0)))) (pss_one (ps_ret (pe_makK (makK_Row T) hr (by decide) (by rfl) (pa_cons (pe_fldK K (pv 0)) (pa_starK K (pv 2) pa_nil)) (pk_cons (pe_fldK K (pv 0)) (pk_cons (pv 3) (pk_cons (pe_fldK K (pv 0)) (pk_cons (pe_fldK K (pv 0)) pk_nil))))))))), ?_⟩
    have fk : ∀ (b : Bool) (A B : Prop), b = false → B → if b = true then A else B := fun b A B h a => by rw [h]; exact iteF a
    have tk : ∀ (b : Bool) (A B : Prop), b = true → A → if b = true then A else B := fun b A B h a => by rw [h]; exact iteT a
    refine ⟨_, rfl, a, _, dx, _, _, rfl, h.at_, T.cl_Row, T.na_Row_deeds, rowFs_deeds, dl, rfl, ⟨_, h.ds⟩, ?_⟩
    refine lc_mapT (tt := tYes) (ds := r.ds) (A := DeedAt K H) (b := fun _ => true) (P := fun d v H' => DeedAt K H' v (d.ren f)) h.ds h.dp (fun _ _ _ _ u h => h.up u) (fun _ => rfl) (fun x d H2 R _ _ _ k => k H2 (Same.refl _)) (fun x d H2 R hx hd _ s2 k => ?_) (lt_line (by have := ok.dl; omega)) fun H2 D2 ys hD s2 hy hp2 => ?_
    · obtain ⟨b, dy, rfl, hb⟩ := hx
      have hb2 := s2 _ _ hb
      exact ⟨d.kd, _, rfl, b, dy, _, rfl, hb2, D.fs_no, _, rfl, _, d, _, rfl, rfl, ⟨b, dy, rfl, hb2⟩, t, f, dom, rfl, s2 _ _ ht, ok.ds d hd, fun n hn => hf n (List.mem_append_right _ (List.mem_flatMap.mpr ⟨d, hd, hn⟩)), fun v' H3 s3 hv => k v' H3 s3 hv⟩
    rw [filter_true] at hp2
    have hys : Paired (DeedAt K H2) ys (r.ds.map (D.ren f)) := by
      have := paired_swap hp2
      clear hp2 hy
      generalize r.ds = ds at this
      induction this with
      | nil => exact .nil
      | cons r t ih => exact .cons r ih
    have h2 := h.up (Same.up s2)
    have fld : ∀ (σ : L2.St) (Qt : V → Hp → Prop), σ[0]? = some (some (.ref a)) → Qt r.hr.v H2 → tFld K (tVar 0) "hear" σ H2 Qt := fun σ Qt h0 qt => ⟨_, h0, a, _, dx, _, _, rfl, h2.at_, T.cl_Row, T.na_Row_hear, rowFs_hear, qt⟩
    have hear : ∀ (Qt : V → Hp → Prop), Qt (r.hr.ren f).v H2 → tIf (tB (tC1 (spIsWit 0 5) (tCons (tFld K (tVar 0) "hear") tNil))) (tDGet (tVar 1) (tFld K (tVar 0) "hear")) (tFld K (tVar 0) "hear") [some (.ref a), some (.ref t), some (.ref D2), none, none] H2 Qt := by
      intro Qt qt
      refine fld _ _ rfl ?_
      cases hh : r.hr with
      | non =>
        rw [hh] at qt
        exact ⟨_, rfl, trivial, _, rfl, fk _ _ _ rfl (fld _ _ rfl (by rw [hh]; exact qt))⟩
      | oth =>
        rw [hh] at qt
        exact ⟨_, rfl, trivial, _, rfl, fk _ _ _ rfl (fld _ _ rfl (by rw [hh]; exact qt))⟩
      | num n =>
        rw [hh] at qt
        have h5 : n ≤ 5 := by have := ok.hr; rw [hh] at this; exact this
        obtain ⟨hm, _⟩ := hf n (List.mem_append_left _ (by rw [hh]; simp [Hr.nums]))
        refine ⟨_, rfl, trivial, _, rfl, tk _ _ _ (wit_nat (m := 5) h5) ⟨_, rfl, fld _ _ rfl ?_⟩⟩
        rw [hh]
        exact ⟨t, _, rfl, .inl ⟨_, Sum.inl (n : Int), .inl (s2 _ _ ht), rfl, (val_tabK hm).symm⟩, qt⟩
    refine hear _ ?_
    have okR := R.ren_ok ok fun n hn => (hf n hn).2
    refine ⟨_, rfl, a, _, dx, _, _, rfl, h2.at_, T.cl_Row, T.na_Row_state, rowFs_state, _, rfl, D2, ys, rfl, .inr (SqL.of hy), ?_⟩
    refine ⟨_, rfl, a, _, dx, _, _, rfl, h2.at_, T.cl_Row, T.na_Row_then, rowFs_then, _, rfl, _, rfl, a, _, dx, _, _, rfl, h2.at_, T.cl_Row, T.na_Row_empty, rowFs_empty, _, rfl, a, _, dx, _, _, rfl, h2.at_, T.cl_Row, T.na_Row_full, rowFs_full, ?_⟩
    have rm := row_made (r := r.ren f) (Qd := fun x H3 => Q (.ref x) H3) (K := K) (H := H2) hys h2.em h2.fu okR (by show fitS (r.ds.map (D.ren f)) ≠ []; rw [fitS_ren]; exact hfit) fun x H' s' hv => q (.ref x) H' (s2.trans s') hv
    rw [List.append_nil]
    exact rm
end
end L2.My
end
section
set_option Elab.async false
set_option linter.all false
set_option autoImplicit false
set_option maxRecDepth 100000
set_option maxHeartbeats 2000000
/-! Row: its text -/
namespace L2.My
open PySem PySem.Spec PyProof.Rows He
theorem join_len (z : Str) : ∀ l : List Str, (Txt.join z l).length ≤ (l.map (·.length)).sum + l.length * z.length
  | [] => by
    rw [join_nil, show ("" : Str).length = 0 from by decide]
    exact Nat.zero_le _
  | [x] => by
    rw [join_one]
    simp
  | x :: y :: r => by
    have := join_len z (y :: r)
    rw [join_two, s_len, s_len, List.map_cons, List.sum_cons, List.length_cons, Nat.add_mul, Nat.one_mul]
    omega
theorem dsT_len {ds : List D} (ok : ∀ d ∈ ds, d.ok) (h8 : ds.length ≤ 8) : (dsT ds).length ≤ 200 := by
  by_cases h : ds = []
  · subst h
    rw [show dsT [] = "-" from by unfold dsT dsW; rw [if_pos rfl, join_one]]
    decide
  · rw [dsT_eq h]
    have h1 := join_len " , " (ds.map D.txt)
    have h2 := sum_len (l := ds.map D.txt) (m := 20) fun x hx => by
      obtain ⟨y, hy2, rfl⟩ := List.mem_map.mp hx
      exact D.txt_len (ok y hy2)
    have e : (" , " : Str).length = 3 := by decide
    rw [List.length_map] at h1 h2
    rw [e] at h1
    omega
theorem num_le {n : Nat} (h : n ≤ 999) : (num n).length ≤ 3 := num_len (by omega)
theorem hrT_len {h : Hr} (ok : h.ok) : (hrT h).length ≤ 12 := by
  have e1 : ("hear" : Str).length = 4 := by decide
  have e2 : ("other" : Str).length = 5 := by decide
  have e3 : ("" : Str).length = 0 := by decide
  cases h with
  | non => exact Nat.le_trans (by decide : (flat []).length ≤ 0) (Nat.zero_le _)
  | oth =>
    show (flat ["hear", "other"]).length ≤ 12
    rw [flat_cons, flat_cons, flat, s_len, s_len, s_len, s_len, sp_len, e1, e2, e3]
    omega
  | num n =>
    have hn : n ≤ 5 := ok
    have := num_le (n := n) (by omega)
    show (flat ["hear", num n]).length ≤ 12
    rw [flat_cons, flat_cons, flat, s_len, s_len, s_len, s_len, sp_len, e1, e3]
    omega
theorem boxT_len {z : Str} {l : List Nat} (hz : z.length ≤ 5) (hl : l.length ≤ 3) (hb : ∀ b ∈ l, b ≤ 2) : (boxT z l).length ≤ 24 := by
  have h1 : (boxT z l).length ≤ (boxW z l).length * (5 + 1) := flat_len fun x hx => by
    unfold boxW at hx
    split at hx
    · cases hx
    · rcases List.mem_cons.mp hx with rfl | hx
      · exact hz
      · obtain ⟨b, hb1, rfl⟩ := List.mem_map.mp hx
        exact Nat.le_trans (num_len (by have := hb b hb1; omega)) (by decide)
  have h2 := boxW_len (z := z) (l := l)
  omega
theorem R.txt_len {r : R} (ok : r.ok) : r.txt.length ≤ 300 := by
  have h1 := num_le (n := r.st) (by have := ok.st; omega)
  have h2 := num_le (n := r.th) (by have := ok.th; omega)
  have h3 := hrT_len ok.hr
  have h4 := boxT_len (z := "empty") (by decide) (boxes_len ok.ea ok.em) ok.em
  have h5 := boxT_len (z := "full") (by decide) (boxes_len ok.fa ok.fu) ok.fu
  have h6 := dsT_len ok.ds ok.dl
  have e1 : (" : " : Str).length = 3 := by decide
  have e2 : (" > " : Str).length = 3 := by decide
  rw [R.txt_eq]
  simp only [s_len, e1, e2]
  omega
section
variable {P : Program} {w : World} {K : PySem.W.Frag} {mg : Str → Option Value} {base : Heap}
def spRowStr (K : PySem.W.Frag) : Sp := fun vs H Q _ => ∃ (v : V) (r : R), vs = [v] ∧ RowAt K H v r ∧ r.ok ∧ ∀ H', Same H H' → Q (.str r.txt) H'
theorem fn_row_str (T : Tx P K mg) : FnR P w K mg base CXn 7 (a_Row_str K) (spRowStr K) := by
  refine mkFn (k := 6) T.f_Row_str sc_Row_str (fun vs H Q E h => ?_) (fun cdv A outer s H vs Q E hr h => ?_)
  · obtain ⟨v, r, rfl, _⟩ := h
    rfl
  · obtain ⟨v, r, rfl, ⟨a, dx, dl, el, fl, kl, xs, rfl, h⟩, ok, q⟩ := h
    refine ⟨_, (pss_cons (ps_set (i := 1) sc_Row_str.nd rfl (by first | exact Or.inl rfl | exact Or.inr rfl) (pe_ifExp (pt_cmp (pc_isN (pe_fldK K (pv 0)))) pe_str (pe_jn (.cons pe_str (.cons (pe_fmt (pe_fldK K (pv 0))) .nil))))) (pss_cons (ps_par (i := 2) (j := 3) rfl sc_Row_str.nd rfl rfl (by decide) rfl rfl (pa_cons (pe_cal (cal_boxes_text T) hr (by decide) (by rfl) (pa_cons pe_str (pa_cons (pe_fldK K (pv 0)) pa_nil))) (pa_cons (pe_cal (cal_boxes_text T) hr (by decide) (by rfl) (pa_cons pe_str (pa_cons (pe_fldK K (pv 0)) pa_nil))) pa_nil)) (by rfl)) (pss_one (ps_ret (pe_jn (.cons (pe_fmt (pe_fldK K (pv 0))) (.cons (pe_fmt (pv 1)) (.cons (pe_fmt (pv 2)) (.cons (pe_fmt (pv 3)) (.cons pe_str (.cons (pe_fmt (pe_cal (cal_deeds_text T) hr (by decide) (by rfl) (pa_cons (pe_fldK K (pv 0)) pa_nil))) (.cons pe_str (.cons (pe_fmt (pe_fldK K (pv 0))) .nil))))))))))))), ?_⟩
    have fk : ∀ (b : Bool) (A B : Prop), b = false → B → if b = true then A else B := fun b A B h a => by rw [h]; exact iteF a
    have tk : ∀ (b : Bool) (A B : Prop), b = true → A → if b = true then A else B := fun b A B h a => by rw [h]; exact iteT a
    have h1 := num_le (n := r.st) (by have := ok.st; omega)
    have h2 := num_le (n := r.th) (by have := ok.th; omega)
    have h3 := hrT_len ok.hr
    have l4 := boxes_len ok.ea ok.em
    have l5 := boxes_len ok.fa ok.fu
    have h4 := boxT_len (z := "empty") (by decide) l4 ok.em
    have h5 := boxT_len (z := "full") (by decide) l5 ok.fu
    have h6 := dsT_len ok.ds ok.dl
    have e1 : (" : " : Str).length = 3 := by decide
    have e2 : (" > " : Str).length = 3 := by decide
    have e3 : (" hear " : Str).length = 6 := by decide
    have e4 : (" hear " : Str) = " " ++ ("hear" ++ " ") := by decide
    have fld : ∀ (σ : L2.St) (Qt : V → Hp → Prop), σ[0]? = some (some (.ref a)) → Qt r.hr.v H → tFld K (tVar 0) "hear" σ H Qt := fun σ Qt h0 qt => ⟨_, h0, a, _, dx, _, _, rfl, h.at_, T.cl_Row, T.na_Row_hear, rowFs_hear, qt⟩
    have heard : ∀ (Qt : V → Hp → Prop), Qt (.str (hrT r.hr)) H → tIf (tB (tIsN (tFld K (tVar 0) "hear"))) (tC (.str "")) (tJn [tC (.str " hear "), tFmt (tFld K (tVar 0) "hear")]) [some (.ref a), none, none, none] H Qt := by
      intro Qt qt
      refine fld _ _ rfl ?_
      cases hh : r.hr with
      | non =>
        rw [hh] at qt
        exact ⟨_, rfl, tk _ _ _ (decide_eq_true rfl) qt⟩
      | oth =>
        rw [hh] at qt
        refine ⟨_, rfl, fk _ _ _ (decide_eq_false fun z => nomatch z) ⟨_, rfl, le_line (by rw [emp_s, e3]; omega), _, rfl, a, _, dx, _, _, rfl, h.at_, T.cl_Row, T.na_Row_hear, rowFs_hear, ?_⟩⟩
        rw [hh]
        refine .inl ⟨"other", rfl, le_line (by decide), _, rfl, le_line (by rw [emp_s, s_len, e3]; decide), ?_⟩
        show Qt (.str (Str.empty ++ " hear " ++ "other")) H
        rw [emp_s, show (" hear " : Str) ++ "other" = hrT .oth from by decide]
        exact qt
      | num n =>
        rw [hh] at qt
        have hn : n ≤ 5 := by have := ok.hr; rw [hh] at this; exact this
        have hl := num_le (n := n) (by omega)
        refine ⟨_, rfl, fk _ _ _ (decide_eq_false fun z => nomatch z) ⟨_, rfl, le_line (by rw [emp_s, e3]; omega), _, rfl, a, _, dx, _, _, rfl, h.at_, T.cl_Row, T.na_Row_hear, rowFs_hear, ?_⟩⟩
        rw [hh]
        refine .inr ⟨_, rfl, log_small (by omega), _, rfl, le_line (by rw [num_s, emp_s, s_len, e3]; omega), ?_⟩
        show Qt (.str (Str.empty ++ " hear " ++ num n)) H
        have : hrT (.num n) = " hear " ++ num n := by
          show flat ["hear", num n] = _
          rw [flat_cons, flat_cons, flat, s_nil', e4]
          simp only [s_assoc]
        rw [emp_s, ← this]
        exact qt
    refine heard _ ?_
    -- the boxes
    refine ⟨_, rfl, a, _, dx, _, _, rfl, h.at_, T.cl_Row, T.na_Row_empty, rowFs_empty, "empty", el, r.em, rfl, h.em, by decide, by omega, ok.em, fun H1 s1 => ?_⟩
    have g1 := h.up (Same.up s1)
    refine ⟨_, rfl, a, _, dx, _, _, rfl, g1.at_, T.cl_Row, T.na_Row_full, rowFs_full, "full", fl, r.fu, rfl, g1.fu, by decide, by omega, ok.fu, fun H2 s2 => ?_⟩
    have g2 := g1.up (Same.up s2)
    refine ⟨_, _, rfl, ?_⟩
    -- the whole
    refine ⟨_, rfl, a, _, dx, _, _, rfl, g2.at_, T.cl_Row, T.na_Row_state, rowFs_state, .inr ⟨_, rfl, log_small (by have := ok.st; omega), _, rfl, le_line (by rw [num_s, emp_s]; omega), ?_⟩⟩
    refine ⟨_, rfl, .inl ⟨_, rfl, le_line (by omega), _, rfl, le_line (by rw [num_s, emp_s, s_len]; omega), ?_⟩⟩
    refine ⟨_, rfl, .inl ⟨_, rfl, le_line (by omega), _, rfl, le_line (by rw [num_s, emp_s]; simp only [s_len]; omega), ?_⟩⟩
    refine ⟨_, rfl, .inl ⟨_, rfl, le_line (by omega), _, rfl, le_line (by rw [num_s, emp_s]; simp only [s_len]; omega), ?_⟩⟩
    refine ⟨_, rfl, le_line (by rw [num_s, emp_s]; simp only [s_len, e1]; omega), ?_⟩
    refine ⟨_, rfl, a, _, dx, _, _, rfl, g2.at_, T.cl_Row, T.na_Row_deeds, rowFs_deeds, dl, xs, r.ds, rfl, g2.ds, g2.dp, ok.ds, ok.dl, fun H3 s3 => ?_⟩
    have g3 := g2.up (Same.up s3)
    refine .inl ⟨_, rfl, le_line (by omega), _, rfl, le_line (by rw [num_s, emp_s]; simp only [s_len, e1]; omega), ?_⟩
    refine ⟨_, rfl, le_line (by rw [num_s, emp_s]; simp only [s_len, e1, e2]; omega), ?_⟩
    refine ⟨_, rfl, a, _, dx, _, _, rfl, g3.at_, T.cl_Row, T.na_Row_then, rowFs_then, .inr ⟨_, rfl, log_small (by have := ok.th; omega), _, rfl, le_line (by rw [num_s, num_s, emp_s]; simp only [s_len, e1, e2]; omega), ?_⟩⟩
    have hq := q H3 ((s1.trans s2).trans s3)
    rw [R.txt_eq] at hq
    show Q (.str (Str.empty ++ num r.st ++ hrT r.hr ++ boxT "empty" r.em ++ boxT "full" r.fu ++ " : " ++ dsT r.ds ++ " > " ++ num r.th)) H3
    rw [emp_s]
    simp only [s_assoc]
    exact hq
end
end L2.My
end
section
set_option Elab.async false
set_option linter.all false
set_option autoImplicit false
set_option maxRecDepth 100000
set_option maxHeartbeats 2000000
/-! row_in, Row.read -/
namespace L2.My
open PySem PySem.Spec PyProof.Rows He
section
variable {P : Program} {w : World} {K : PySem.W.Frag} {mg : Str → Option Value} {base : Heap}
theorem no_num {x : Str} (c : Nat) (hc : c ∈ x.cps.toList) (h : c < 48 ∨ 57 < c) : ∀ n, x ≠ num n := fun n e => num_ne (n := n) c hc h e.symm
theorem box_head {ws : List Str} {a : Nat} {z : Str} {l : List Nat} {t : List Str} (h : From ws a (boxW z l ++ t)) : (l ≠ [] → wat ws a = z ∧ From ws (a + 1) (l.map num ++ t)) ∧ (l = [] → From ws a t) := by
  unfold boxW at h
  refine ⟨fun hl => ?_, fun hl => ?_⟩
  · rw [if_neg hl] at h
    exact ⟨wat_of h.head, h.tail⟩
  · rw [if_pos hl] at h
    exact h
/-- the word ahead of the boxes -/
theorem head_box {ws : List Str} {a : Nat} {em fu : List Nat} {t : List Str} (h : From ws a (boxW "empty" em ++ (boxW "full" fu ++ (":" : Str) :: t))) : wat ws a = if em ≠ [] then "empty" else if fu ≠ [] then "full" else ":" := by
  by_cases h1 : em = []
  · rw [if_neg (fun z => z h1)]
    have h2 := (box_head h).2 h1
    by_cases h3 : fu = []
    · rw [if_neg (fun z => z h3)]
      exact wat_of ((box_head h2).2 h3).head
    · rw [if_pos h3]
      exact ((box_head h2).1 h3).1
  · rw [if_pos h1]
    exact ((box_head h).1 h1).1
theorem head_full {ws : List Str} {a : Nat} {fu : List Nat} {t : List Str} (h2 : From ws a (boxW "full" fu ++ (":" : Str) :: t)) : ws[a]? = some (if fu ≠ [] then "full" else ":") := by
  by_cases h3 : fu = []
  · rw [if_neg (fun z => z h3)]
    exact ((box_head h2).2 h3).head
  · rw [if_pos h3]
    unfold boxW at h2
    rw [if_neg h3] at h2
    exact h2.head
theorem boxW_length (z : Str) (l : List Nat) : (boxW z l).length = if l = [] then 0 else 1 + l.length := by
  unfold boxW
  split
  · rfl
  · rw [List.length_cons, List.length_map]; omega
def spRowIn (K : PySem.W.Frag) : Sp := fun vs H Q _ => ∃ (l sl : Addr) (ws ss : List Str) (i : Nat) (r : R) (tl : List Str) (z : Str), vs = [.ref l, .int i, .ref sl] ∧ SqL K H l (strVs ws) ∧ (SqL K H sl (strVs ss) ∨ SqT K H sl (strVs ss)) ∧ ws.length ≤ 99999 ∧ From ws i (r.ws ++ tl) ∧ r.ok ∧ z ∈ ss ∧ z ∈ (["sender", "receiver"] : List Str) ∧ r.fits z = true ∧
  ∀ (t : Addr) (v : V) (H' : Hp), Same H H' → H' t = some (.tup [v, .int ((i + r.ws.length : Nat) : Int)]) → RowAt K H' v r → Q (.ref t) H'
theorem fits_ne {r : R} {z : Str} (hz : z ∈ (["sender", "receiver"] : List Str)) (h : r.fits z = true) : fitS r.ds ≠ [] := List.ne_nil_of_mem (fitS_mem hz fun d hd => List.all_eq_true.mp h d hd)
theorem cal_row_in (T : Tx P K mg) : Cal P w K mg base 11 "row_in" (spRowIn K) := by
  refine ⟨_, mkFn (k := 10) T.f_row_in sc_row_in (fun vs H Q E h => ?_) (fun cdv A outer s H vs Q E hr h => ?_), T.g_row_in.1, T.g_row_in.2⟩
  · obtain ⟨l, sl, ws, ss, i, r, tl, z, rfl, _⟩ := h
    rfl
  · obtain ⟨l, sl, ws, ss, i, r, tl, z, rfl, hl, hs, hz, hf, ok, hz1, hz2, hz3, q⟩ := h
    refine ⟨_, (pss_cons (ps_asg (pe_tup (pa_cons (pe_cal (cal_integer_in T) hr (by decide) (by rfl) (pa_cons (pv 0) (pa_cons (pv 1) (pa_cons (pe_gint T.i_MOST_STATE) pa_nil)))) (pa_cons pe_non (pa_cons (pe_tup pa_nil) (pa_cons (pe_tup pa_nil) pa_nil))))) (pg_tupK K (n := 4) rfl (pgs_cons (pg_name (i := 3) sc_row_in.nd rfl (by first | exact Or.inl rfl | exact Or.inr rfl)) (pgs_cons (pg_name (i := 4) sc_row_in.nd rfl (by first | exact Or.inl rfl | exact Or.inr rfl)) (pgs_cons (pg_name (i := 5) sc_row_in.nd rfl (by first | exact Or.inl rfl | exact Or.inr rfl)) (pgs_cons (pg_name (i := 6) sc_row_in.nd rfl (by first | exact Or.inl rfl | exact Or.inr rfl)) pgs_nil)))))) (pss_cons (ps_aug (i := 1) sc_row_in.nd rfl (by first | exact Or.inl rfl | exact Or.inr rfl) pe_int ip_add) (C8.pss_cut (ps_if (pt_cmpR op_eq (pe_cal (cal_word_at T) hr (by decide) (by rfl) (pa_cons (pv 0) (pa_cons (pv 1) pa_nil))) pe_str (nomark _)) (pss_cons (ps_set (i := 4) sc_row_in.nd rfl (by first | exact Or.inl rfl | exact Or.inr rfl) (pe_ifExp (pt_cmpR op_eq (pe_cal (cal_word_at T) hr (by decide) (by rfl) (pa_cons (pv 0) (pa_cons (pe_op op_add (pv 1) pe_int) pa_nil))) (pe_gstr T.s_OTHER) (nomark _)) (pe_gstr T.s_OTHER) (pe_cal (cal_integer_in T) hr (by decide) (by rfl) (pa_cons (pv 0) (pa_cons (pe_op op_add (pv 1) pe_int) (pa_cons (pe_gint T.i_MOST_NUMBER) pa_nil)))))) (pss_one (ps_aug (i := 1) sc_row_in.nd rfl (by first | exact Or.inl rfl | exact Or.inr rfl) pe_int ip_add))) pss_nil) (C8.pss_cut (ps_if (pt_cmpR op_eq (pe_cal (cal_word_at T) hr (by decide) (by rfl) (pa_cons (pv 0) (pa_cons (pv 1) pa_nil))) pe_str (nomark _)) (pss_cons (ps_set (i := 5) sc_row_in.nd rfl (by first | exact Or.inl rfl | exact Or.inr rfl) (pe_cal (cal_boxes_in T) hr (by decide) (by rfl) (pa_cons (pv 0) (pa_cons (pe_op op_add (pv 1) pe_int) (pa_cons (pe_tup pa_nil) pa_nil))))) (pss_one (ps_aug (i := 1) sc_row_in.nd rfl (by first | exact Or.inl rfl | exact Or.inr rfl) (pe_op op_add pe_int (pe_callB (call_lenK K) (by rfl) T.n_len boot_len (pa_cons (pv 5) pa_nil))) ip_add))) pss_nil) (C8.pss_cut (ps_if (PW.pt (pw_and (pt_cmpR op_eq (pe_cal (cal_word_at T) hr (by decide) (by rfl) (pa_cons (pv 0) (pa_cons (pv 1) pa_nil))) pe_str (nomark _)) (pw_and1 (pt_cmpR op_le (pe_callB (call_lenK K) (by rfl) T.n_len boot_len (pa_cons (pv 5) pa_nil)) (pe_gint T.i_MOST_BOX) (nomark _))))) (pss_cons (ps_set (i := 6) sc_row_in.nd rfl (by first | exact Or.inl rfl | exact Or.inr rfl) (pe_cal (cal_boxes_in T) hr (by decide) (by rfl) (pa_cons (pv 0) (pa_cons (pe_op op_add (pv 1) pe_int) (pa_cons (pv 5) pa_nil))))) (pss_one (ps_aug (i := 1) sc_row_in.nd rfl (by first | exact Or.inl rfl | exact Or.inr rfl) (pe_op op_add pe_int (pe_callB (call_lenK K) (by rfl) T.n_len boot_len (pa_cons (pv 6) pa_nil))) ip_add))) pss_nil) (pss_cons (ps_if (pt_cmpR op_ne (pe_cal (cal_word_at T) hr (by decide) (by rfl) (pa_cons (pv 0) (pa_cons (pv 1) pa_nil))) pe_str (nomark _)) pss_never pss_nil) (pss_cons (ps_asg (pe_cal (cal_deeds_in T) hr (by decide) (by rfl) (pa_cons (pv 0) (pa_cons (pe_op op_add (pv 1) pe_int) (pa_cons (pv 2) (pa_cons (pe_cmp (pc_notN (pv 4))) pa_nil))))) (pg_tupK K (n := 2) rfl (pgs_cons (pg_name (i := 7) sc_row_in.nd rfl (by first | exact Or.inl rfl | exact Or.inr rfl)) (pgs_cons (pg_name (i := 1) sc_row_in.nd rfl (by first | exact Or.inl rfl | exact Or.inr rfl)) pgs_nil)))) (pss_cons (ps_if (pt_cmpR op_ne (pe_cal (cal_word_at T) hr (by decide) (by rfl) (pa_cons (pv 0) (pa_cons (pv 1) pa_nil))) pe_str (nomark _)) pss_never pss_nil) (pss_cons (ps_set (i := 8) sc_row_in.nd rfl (by first | exact Or.inl rfl | exact Or.inr rfl) (pe_cal (cal_integer_in T) hr (by decide) (by rfl) (pa_cons (pv 0) (pa_cons (pe_op op_add (pv 1) pe_int) (pa_cons (pe_gint T.i_MOST_STATE) pa_nil))))) (pss_one (ps_ret (pe_tup (pa_cons (pe_makK (makK_Row T) hr (by decide) (by rfl) (pa_cons (pv 3) (pa_starK K (pv 7) pa_nil)) (pk_cons (pv 8) (pk_cons (pv 4) (pk_cons (pv 5) (pk_cons (pv 6) pk_nil))))) (pa_cons (pe_op op_add (pv 1) pe_int) pa_nil)))))))))))))), ?_⟩
    have fk : ∀ (b : Bool) (A B : Prop), b = false → B → if b = true then A else B := fun b A B h a => by rw [h]; exact iteF a
    have tk : ∀ (b : Bool) (A B : Prop), b = true → A → if b = true then A else B := fun b A B h a => by rw [h]; exact iteT a
    have hfull : From ws i (num r.st :: (r.hr.ws ++ (boxW "empty" r.em ++ (boxW "full" r.fu ++ ((":" : Str) :: (dsW r.ds ++ ((">" : Str) :: num r.th :: tl))))))) := by
      have e : r.ws ++ tl = num r.st :: (r.hr.ws ++ (boxW "empty" r.em ++ (boxW "full" r.fu ++ ((":" : Str) :: (dsW r.ds ++ ((">" : Str) :: num r.th :: tl)))))) := by
        unfold R.ws
        simp only [List.cons_append, List.append_assoc, List.nil_append]
      rw [← e]; exact hf
    -- state, hear, empty, full
    refine ⟨_, rfl, _, rfl, l, ws, i, 23, r.st, rfl, hl, by omega, hfull.head, ok.st, by decide, fun H1 s1 => ?_⟩
    refine ⟨Nat.zero_le _, fun e0 he0 => ⟨Nat.zero_le _, fun f0 hf0 => ⟨(by show 4 ≤ sizeLine; decide), fun p hp => ?_⟩⟩⟩
    refine ⟨p, _, rfl, SqT.of upd_same, rfl, _, _, rfl, _, _, rfl, _, _, rfl, _, _, rfl, rfl, ?_⟩
    have sA : Same H (upd (upd (upd H1 e0 (.tup [])) f0 (.tup [])) p (.tup [.int (r.st : Int), .non, .ref e0, .ref f0])) := ((s1.trans (same_upd he0)).trans (same_upd hf0)).trans (same_upd hp)
    have he1 : SqT K (upd (upd (upd H1 e0 (.tup [])) f0 (.tup [])) p (.tup [.int (r.st : Int), .non, .ref e0, .ref f0])) e0 [] := Same.sqt ((same_upd hf0).trans (same_upd hp)) (SqT.of upd_same)
    have hf1 : SqT K (upd (upd (upd H1 e0 (.tup [])) f0 (.tup [])) p (.tup [.int (r.st : Int), .non, .ref e0, .ref f0])) f0 [] := Same.sqt (same_upd hp) (SqT.of upd_same)
    generalize upd (upd (upd H1 e0 (.tup [])) f0 (.tup [])) p (.tup [.int (r.st : Int), .non, .ref e0, .ref f0]) = HA at sA he1 hf1
    -- at += 1
    refine ⟨_, rfl, _, _, rfl, rfl, ?_⟩
    have hA := hfull.tail
    have lA := sA.seq hl
    -- hear
    refine ⟨fun σ' H' => ∃ a : Nat, σ' = [some (.ref l), some (.int a), some (.ref sl), some (.int (r.st : Int)), some r.hr.v, some (.ref e0), some (.ref f0), none, none] ∧ Same H H' ∧ SqT K H' e0 [] ∧ SqT K H' f0 [] ∧ a = i + 1 + r.hr.ws.length ∧ From ws a (boxW "empty" r.em ++ (boxW "full" r.fu ++ ((":" : Str) :: (dsW r.ds ++ ((">" : Str) :: num r.th :: tl))))), ?_, ?_⟩
    · refine ⟨_, rfl, _, rfl, l, ws, i + 1, rfl, lA, rfl, _, rfl, ?_⟩
      have hA2 := hA.right
      cases hh : r.hr with
      | non =>
        rw [hh] at hA hA2
        have hw := head_box hA2
        refine fk _ _ _ (decide_eq_false fun e => ?_) ⟨i + 1, rfl, sA, he1, hf1, rfl, hA2⟩
        have e := V.str.inj e
        rw [show wat ws (i + 1) = wat ws (i + 1 + Hr.non.ws.length) from rfl, hw] at e
        split at e
        · exact absurd e (by decide)
        · split at e
          · exact absurd e (by decide)
          · exact absurd e (by decide)
      | oth =>
        rw [hh] at hA hA2
        have hw : wat ws (i + 1) = "hear" := wat_of hA.head
        have hw2 : wat ws (i + 2) = "other" := wat_of hA.tail.head
        refine tk _ _ _ (decide_eq_true (by rw [hw])) ?_
        refine ⟨_, rfl, _, rfl, _, _, rfl, rfl, l, ws, i + 2, congrArg (fun z => [V.ref l, V.int z]) (show (i : Int) + 1 + 1 = ((i + 2 : Nat) : Int) by omega), lA, ?_⟩
        rw [hw2]
        refine ⟨rfl, _, rfl, tk _ _ _ (decide_eq_true rfl) ⟨_, rfl, _, _, rfl, rfl, ?_⟩⟩
        exact ⟨i + 1 + 2, rfl, sA, he1, hf1, rfl, hA2⟩
      | num n =>
        rw [hh] at hA hA2
        have h5 : n ≤ 5 := by have := ok.hr; rw [hh] at this; exact this
        have hw : wat ws (i + 1) = "hear" := wat_of hA.head
        have hw2 : ws[i + 2]? = some (num n) := hA.tail.head
        refine tk _ _ _ (decide_eq_true (by rw [hw])) ?_
        refine ⟨_, rfl, _, rfl, _, _, rfl, rfl, l, ws, i + 2, congrArg (fun z => [V.ref l, V.int z]) (show (i : Int) + 1 + 1 = ((i + 2 : Nat) : Int) by omega), lA, ?_⟩
        rw [wat_of hw2]
        refine ⟨rfl, _, rfl, fk _ _ _ (decide_eq_false fun e => num_ne (n := n) (x := "other") 111 (by decide) (.inr (by decide)) (V.str.inj e)) ?_⟩
        refine ⟨_, rfl, _, rfl, _, _, rfl, rfl, l, ws, i + 2, 5, n, congrArg (fun z => [V.ref l, V.int z, V.int 5]) (show (i : Int) + 1 + 1 = ((i + 2 : Nat) : Int) by omega), lA, by omega, hw2, h5, by decide, fun H2 s2 => ?_⟩
        refine ⟨_, rfl, _, _, rfl, rfl, ?_⟩
        exact ⟨i + 1 + 2, rfl, sA.trans s2, Same.sqt s2 he1, Same.sqt s2 hf1, rfl, hA2⟩
    rintro σ' HB ⟨a, rfl, sB, he2, hf2, ea, hB⟩
    have lB := sB.seq hl
    -- empty
    refine ⟨fun σ' H' => ∃ (b : Nat) (el : Addr), σ' = [some (.ref l), some (.int b), some (.ref sl), some (.int (r.st : Int)), some r.hr.v, some (.ref el), some (.ref f0), none, none] ∧ Same H H' ∧ SqT K H' el (natVs r.em) ∧ SqT K H' f0 [] ∧ b = a + (boxW "empty" r.em).length ∧ From ws b (boxW "full" r.fu ++ ((":" : Str) :: (dsW r.ds ++ ((">" : Str) :: num r.th :: tl)))), ?_, ?_⟩
    · refine ⟨_, rfl, _, rfl, l, ws, a, rfl, lB, rfl, _, rfl, ?_⟩
      rw [head_box hB]
      have hB2 := hB.right
      by_cases h0 : r.em = []
      · rw [if_neg (fun z => z h0)]
        refine fk _ _ _ (decide_eq_false fun e => ?_) ⟨a, e0, rfl, sB, by rw [h0]; exact he2, hf2, by rw [boxW_length, if_pos h0]; rfl, by rw [boxW_length, if_pos h0] at hB2; exact hB2⟩
        have e := V.str.inj e
        split at e
        · exact absurd e (by decide)
        · exact absurd e (by decide)
      · rw [if_pos h0]
        refine tk _ _ _ (decide_eq_true rfl) ?_
        have hb := ((box_head hB).1 h0).2
        have hnext := head_full hb.right
        rw [List.length_map] at hnext
        refine ⟨_, rfl, _, rfl, _, _, rfl, rfl, by decide, fun e1 he1' => ⟨l, e1, ws, a + 1, [], r.em, _, rfl, (same_upd he1').seq lB, SqT.of upd_same, hb.left, h0, boxes_len ok.ea ok.em, ok.ea, fun b hb => ⟨ok.em b hb, by simp⟩, hnext, ?_, fun t H3 s3 ht => ?_⟩⟩
        · intro n
          split
          · exact no_num 102 (by decide) (.inr (by decide)) n
          · exact no_num 58 (by decide) (.inr (by decide)) n
        · have s3' := (same_upd he1').trans s3
          have e : (a : Int) + (1 + ((natVs r.em).length : Int)) = ((a + (boxW "empty" r.em).length : Nat) : Int) := by
            rw [boxW_length, if_neg h0, show (natVs r.em).length = r.em.length from List.length_map ..]; omega
          refine ⟨_, rfl, _, rfl, t, _, rfl, .inr ht, _, _, rfl, rfl, _, _, rfl, rfl, ?_⟩
          exact ⟨_, t, congrArg (fun z : Int => [some (V.ref l), some (V.int z), some (.ref sl), some (.int (r.st : Int)), some r.hr.v, some (.ref t), some (.ref f0), none, none]) e, sB.trans s3', ht, Same.sqt s3' hf2, rfl, hB2⟩
    rintro σ' HC ⟨b, el, rfl, sC, hel, hf3, eb, hC⟩
    have lC := sC.seq hl
    have hemL : (natVs r.em).length = r.em.length := List.length_map ..
    -- full
    refine ⟨fun σ' H' => ∃ (c : Nat) (fl : Addr), σ' = [some (.ref l), some (.int c), some (.ref sl), some (.int (r.st : Int)), some r.hr.v, some (.ref el), some (.ref fl), none, none] ∧ Same H H' ∧ SqT K H' el (natVs r.em) ∧ SqT K H' fl (natVs r.fu) ∧ c = b + (boxW "full" r.fu).length ∧ From ws c ((":" : Str) :: (dsW r.ds ++ ((">" : Str) :: num r.th :: tl))), ?_, ?_⟩
    · have hC2 := hC.right
      have hwf : wat ws b = if r.fu ≠ [] then "full" else ":" := wat_of (head_full hC)
      refine ⟨_, rfl, _, rfl, l, ws, b, rfl, lC, rfl, _, rfl, ?_⟩
      rw [hwf]
      by_cases h0 : r.fu = []
      · rw [if_neg (fun z => z h0)]
        refine fk _ _ _ (decide_eq_false fun e => absurd (V.str.inj e) (by decide)) ?_
        exact fk _ _ _ rfl ⟨b, f0, rfl, sC, hel, by rw [h0]; exact hf3, by rw [boxW_length, if_pos h0]; rfl, by rw [boxW_length, if_pos h0] at hC2; exact hC2⟩
      · rw [if_pos h0]
        refine tk _ _ _ (decide_eq_true rfl) ?_
        have hle := em_len ok h0
        refine ⟨_, rfl, el, _, rfl, .inr hel, _, _, rfl, rfl, _, rfl, ?_⟩
        refine tk _ _ _ (decide_eq_true (by rw [hemL]; omega)) ?_
        have hb := ((box_head hC).1 h0).2
        have hnext := hb.right.head
        rw [List.length_map] at hnext
        refine ⟨_, rfl, _, rfl, _, _, rfl, rfl, _, rfl, l, el, ws, b + 1, r.em, r.fu, _, rfl, lC, hel, hb.left, h0, boxes_len ok.fa ok.fu, ok.fa, fun c hc => ⟨ok.fu c hc, ok.ap c hc⟩, hnext, no_num 58 (by decide) (.inr (by decide)), fun t H3 s3 ht => ?_⟩
        have e : (b : Int) + (1 + ((natVs r.fu).length : Int)) = ((b + (boxW "full" r.fu).length : Nat) : Int) := by
          rw [boxW_length, if_neg h0, show (natVs r.fu).length = r.fu.length from List.length_map ..]; omega
        refine ⟨_, rfl, _, rfl, t, _, rfl, .inr ht, _, _, rfl, rfl, _, _, rfl, rfl, ?_⟩
        exact ⟨_, t, congrArg (fun z : Int => [some (V.ref l), some (V.int z), some (.ref sl), some (.int (r.st : Int)), some r.hr.v, some (.ref el), some (.ref t), none, none]) e, sC.trans s3, Same.sqt s3 hel, ht, rfl, hC2⟩
    rintro σ' HD ⟨c, fl, rfl, sD, hel2, hfl, ec, hD⟩
    have lD := sD.seq hl
    -- ':'
    refine ⟨_, rfl, _, rfl, l, ws, c, rfl, lD, rfl, _, rfl, ?_⟩
    rw [wat_of hD.head]
    refine fk _ _ _ (by rw [decide_eq_true rfl]; rfl) ?_
    -- the deeds
    have hnum : (!decide (r.hr.v = V.non)) = false → ∀ d ∈ r.ds, d.kd ≠ .put := fun e => ok.pt (by
      cases hh : r.hr with
      | non => rfl
      | oth => rw [hh] at e; rw [decide_eq_false (fun z => nomatch z)] at e; cases e
      | num n => rw [hh] at e; rw [decide_eq_false (fun z => nomatch z)] at e; cases e)
    refine ⟨_, rfl, _, rfl, _, _, rfl, rfl, _, rfl, _, rfl, l, sl, ws, ss, c + 1, r.ds, num r.th :: tl, !decide (r.hr.v = V.non), z, rfl, lD, same_seq sD hs, hz, hD.tail, ok.dl, ok.ds, ok.tk, hnum, hz1, hz2, fun d hd => List.all_eq_true.mp hz3 d hd, fun t dl xs HE sE htE hdl hxs => ?_⟩
    refine ⟨t, _, rfl, SqT.of htE, rfl, _, _, rfl, _, [], rfl, rfl, ?_⟩
    have hD2 := hD.tail.right
    have sE' := sD.trans sE
    have lE := sE'.seq hl
    refine ⟨_, rfl, _, rfl, l, ws, _, rfl, lE, rfl, _, rfl, ?_⟩
    rw [wat_of hD2.head]
    refine fk _ _ _ (by rw [decide_eq_true rfl]; rfl) ?_
    -- then
    refine ⟨_, rfl, _, rfl, _, _, rfl, rfl, l, ws, c + 1 + (dsW r.ds).length + 1, 23, r.th, congrArg (fun z => [V.ref l, V.int z, V.int 23]) (show ((c + 1 + (dsW r.ds).length : Nat) : Int) + 1 = ((c + 1 + (dsW r.ds).length + 1 : Nat) : Int) by omega), lE, by omega, hD2.tail.head, ok.th, by decide, fun HF sF => ?_⟩
    have hxF := Paired.mapP hxs fun _ _ q => DeedAt.up q (Same.up sF)
    have hdlF := Same.sqt sF hdl
    refine ⟨_, rfl, _, rfl, dl, xs, rfl, .inl hdlF, ?_⟩
    refine ⟨_, rfl, _, rfl, _, rfl, _, rfl, ?_⟩
    rw [List.append_nil]
    refine row_made (r := r) (K := K) (H := HF) hxF (Same.sqt (sE.trans sF) hel2) (Same.sqt (sE.trans sF) hfl) ok (fits_ne hz2 hz3) fun v H' s' hv => ?_
    refine ⟨_, rfl, _, _, rfl, rfl, (by show 2 ≤ sizeLine; decide), fun u hu => ?_⟩
    have sZ := (sE'.trans sF).trans s'
    refine q u (.ref v) _ (Same.upd2 sZ (sZ.free hu)) ?_ (hv.up (Same.up (same_upd hu)))
    rw [upd_same]
    have e : ((c + 1 + (dsW r.ds).length : Nat) : Int) + 2 = ((i + r.ws.length : Nat) : Int) := by
      have : r.ws.length = 1 + (r.hr.ws.length + ((boxW "empty" r.em).length + ((boxW "full" r.fu).length + (1 + ((dsW r.ds).length + 2))))) := by
        unfold R.ws
        simp only [List.length_cons, List.length_append, List.length_nil]
        omega
      omega
    exact congrArg (fun z : Int => some (HO.tup [V.ref v, .int z])) e
/-! ### Row.read -/
def spRowRead (K : PySem.W.Frag) : Sp := fun vs H Q _ => ∃ (u : V) (r : R) (z : Str), vs = [u, .str r.txt] ∧ r.ok ∧ z ∈ (["sender", "receiver"] : List Str) ∧ r.fits z = true ∧ ∀ v H', Same H H' → RowAt K H' v r → Q v H'
theorem ws_len (r : R) (ok : r.ok) : r.ws.length ≤ 200 := by
  have h1 : r.hr.ws.length ≤ 2 := by cases r.hr <;> simp [Hr.ws]
  have h2 := boxW_len (z := "empty") (l := r.em)
  have h3 := boxW_len (z := "full") (l := r.fu)
  have h4 := boxes_len ok.ea ok.em
  have h5 := boxes_len ok.fa ok.fu
  have h6 : ∀ l : List D, (rwD l []).length ≤ 4 * l.length := by
    intro l
    induction l with
    | nil => exact Nat.zero_le _
    | cons d r ih =>
      have e : (rwD (d :: r) []).length = 1 + (d.ws.length + (rwD r []).length) := by
        have := inter_rwD d r []
        unfold rwD at this ⊢
        rw [if_neg (List.cons_ne_nil _ _), List.length_cons, this, List.length_append]; omega
      have : d.ws.length ≤ 3 := by cases d <;> simp [D.ws]
      rw [e, List.length_cons]; omega
  have h7 : (dsW r.ds).length ≤ 40 := by
    have := ok.dl
    unfold dsW
    split
    · simp
    · rename_i h
      obtain ⟨d, ds, e⟩ := List.exists_cons_of_ne_nil h
      have e2 := inter_rwD d ds []
      rw [List.append_nil] at e2
      rw [e] at this ⊢
      rw [e2, List.length_append]
      have := h6 ds
      have : d.ws.length ≤ 3 := by cases d <;> simp [D.ws]
      rw [List.length_cons] at *
      omega
  unfold R.ws
  simp only [List.length_cons, List.length_append, List.length_nil]
  omega
theorem fn_row_read (T : Tx P K mg) : FnR P w K mg base CXn 12 (a_Row_read K) (spRowRead K) := by
  refine mkFn (k := 11) T.f_Row_read sc_Row_read (fun vs H Q E h => ?_) (fun cdv A outer s H vs Q E hr h => ?_)
  · obtain ⟨u, r, z, rfl, _⟩ := h
    rfl
  · obtain ⟨u, r, z, rfl, ok, hz, hf, q⟩ := h
    refine ⟨_, (pss_cons (ps_set (i := 2) sc_Row_read.nd rfl (by first | exact Or.inl rfl | exact Or.inr rfl) (pe_ifExp (pt_val (pe_callB (call_isiK K) (by rfl) T.n_isinstance boot_isinstance (pa_cons (pv 1) (pa_cons (pe_bltn (v := .ty "str") (by rfl) T.n_str boot_str rfl) pa_nil)))) (pe_split (pv 1) pe_str) (pe_lst (pa_cons pe_str pa_nil)))) (pss_cons (ps_asg (pe_cal (cal_row_in T) hr (by decide) (by rfl) (pa_cons (pv 2) (pa_cons pe_int (pa_cons (pe_gref T.g_SIDES) pa_nil)))) (pg_tupK K (n := 2) rfl (pgs_cons (pg_name (i := 3) sc_Row_read.nd rfl (by first | exact Or.inl rfl | exact Or.inr rfl)) (pgs_cons (pg_name (i := 4) sc_Row_read.nd rfl (by first | exact Or.inl rfl | exact Or.inr rfl)) pgs_nil)))) (pss_cons (ps_if (pt_cmpR op_lt (pv 4) (pe_callB (call_lenK K) (by rfl) T.n_len boot_len (pa_cons (pv 2) pa_nil)) (nomark _)) pss_never pss_nil) (pss_one (ps_ret (pv 3)))))), ?_⟩
    have fk : ∀ (b : Bool) (A B : Prop), b = false → B → if b = true then A else B := fun b A B h a => by rw [h]; exact iteF a
    have tk : ∀ (b : Bool) (A B : Prop), b = true → A → if b = true then A else B := fun b A B h a => by rw [h]; exact iteT a
    refine ⟨_, rfl, isi_str trivial ⟨true, rfl, tk _ _ _ rfl ?_⟩⟩
    have hlen := R.txt_len ok
    refine ⟨_, rfl, ⟨_, rfl⟩, _, _, rfl, rfl, by decide, le_line (by omega), fun l hl => ?_⟩
    rw [split_row]
    have hl1 : SqL K (upd H l (.lst (strVs r.ws))) l (strVs r.ws) := SqL.of upd_same
    refine ⟨_, rfl, l, sidesA K, r.ws, ["sender", "receiver"], 0, r, [], z, rfl, hl1, .inr (sides_two T _), by have := ws_len r ok; omega, fun j x hx => ?_, ok, hz, hz, hf, fun t v H' s' ht hv => ?_⟩
    · rw [List.append_nil] at hx
      rw [Nat.zero_add]; exact hx
    · refine ⟨t, _, rfl, SqT.of ht, rfl, _, _, rfl, _, [], rfl, rfl, ?_⟩
      refine ⟨_, rfl, _, rfl, l, _, rfl, .inl (s'.seq hl1), _, _, rfl, rfl, _, rfl, fk _ _ _ (decide_eq_false ?_) ⟨_, rfl, q v H' ((same_upd hl).trans s') hv⟩⟩
      rw [show (strVs r.ws).length = r.ws.length from List.length_map ..]
      omega
end
end L2.My
end
section
set_option Elab.async false
set_option linter.all false
set_option autoImplicit false
set_option maxRecDepth 100000
set_option maxHeartbeats 2000000
/-! ends: need_rows, making -/
namespace L2.My
open PySem PySem.Spec PyProof.Rows He
theorem hu9 {A : Around} {k : Nat} (hr : Room k A) : A.units + 9 < cLine := by have := hr.un; omega
section
variable {P : Program} {w : World} {K : PySem.W.Frag} {mg : Str → Option Value} {base : Heap}
structure RsOk (s : Sd) (rs : List R) : Prop where
  ok : ∀ r ∈ rs, r.ok
  fit : ∀ r ∈ rs, r.fits s.name = true
  nd : (rs.map R.txt).Nodup
  len : rs.length ≤ 120
theorem nd_ne {rs : List R} (h : (rs.map R.txt).Nodup) {j i : Nat} (hlt : j < i) {a b : R} (ha : rs[j]? = some a) (hb : rs[i]? = some b) : a.txt ≠ b.txt := by
  obtain ⟨h1, e1⟩ := List.getElem?_eq_some_iff.mp ha
  obtain ⟨h2, e2⟩ := List.getElem?_eq_some_iff.mp hb
  have := List.pairwise_iff_getElem.mp h j i (by rw [List.length_map]; exact h1) (by rw [List.length_map]; exact h2) hlt
  rw [List.getElem_map, List.getElem_map, e1, e2] at this
  exact this
theorem sd_mem (s : Sd) : s.name ∈ (["sender", "receiver"] : List Str) := by cases s <;> decide
theorem nk_nats {H : Hp} {a : Addr} {l : List Nat} (h : SqT K H a (natVs l)) : NK1 K H (.tup (l.map fun n : Nat => .num (n : Int))) (.ref a) := by
  refine .inr ⟨a, _, _, rfl, rfl, h, ?_⟩
  clear h
  induction l with
  | nil => exact .nil
  | cons n r ih => exact .cons (.inl ⟨_, rfl, rfl⟩) ih
theorem nk_key {H : Hp} {a dx dl el fl kl : Addr} {r : R} {xs : List V} (h : RowIn K H a r dx dl el fl kl xs) : NK2 K H (keyN r) kl :=
  ⟨_, _, rfl, h.ky, .cons (.inl (.inl ⟨_, rfl, rfl⟩)) (.cons (.inl (.inl ⟨_, rfl, rfl⟩)) (.cons (nk_nats h.em) (.cons (nk_nats h.fu) (.cons (.inl (.inr (.inl ⟨_, rfl, rfl⟩))) (.cons (.inl (.inl ⟨_, rfl, rfl⟩)) .nil)))))⟩
theorem isi_row (T : Tx P K mg) {H : Hp} {v : V} {r : R} {Q : VK} (h : RowAt K H v r) (q : Q (.bl true) H) : OIsi K [v, .ref (c_Row K)] H Q := by
  obtain ⟨a, dx, dl, el, fl, kl, xs, rfl, h⟩ := h
  exact isi_ins h.at_ T.cl_Row T.it_Row T.k_Row_Row q
def spNeedRows (K : PySem.W.Frag) : Sp := fun vs H Q _ => ∃ (s : Sd) (l : Addr) (xs : List V) (rs : List R), vs = [.str s.name, .ref l] ∧ SqT K H l xs ∧ Paired (RowAt K H) xs rs ∧ RsOk s rs ∧ ∀ H', Same H H' → Q .non H'
theorem NDict.keep {w : World} {H H' : Hp} {d : Addr} {ks : List NestedKey} (h : NDict P w K H d ks) (s : Same H H') : NDict P w K H' d ks := by
  obtain ⟨xs, h1, h2, h3, h4⟩ := h
  exact ⟨xs, s _ _ h1, h2, h3, fun x hx => nk2_mono (fun _ _ q => Same.sqt s q) (h4 x hx)⟩
theorem cal_need_rows (T : Tx P K mg) : Cal P w K mg base 6 "need_rows" (spNeedRows K) := by
  refine ⟨_, mkFn (k := 5) T.f_need_rows sc_need_rows (fun vs H Q E h => ?_) (fun cdv A outer s H vs Q E hr h => ?_), T.g_need_rows.1, T.g_need_rows.2⟩
  · obtain ⟨z, l, xs, rs, rfl, _⟩ := h
    rfl
  · obtain ⟨z, l, xs, rs, rfl, hl, hxs, ok, q⟩ := h
    refine ⟨_, (pss_cons (ps_set (i := 2) sc_need_rows.nd rfl (by first | exact Or.inl rfl | exact Or.inr rfl) pe_nnew) (pss_cons (ps_for PassesOwn.never rfl (pi_enumT rfl T.n_enumerate (pa_cons (pv 1) pa_nil)) (pg_tupK K (n := 2) rfl (pgs_cons (pg_name (i := 3) sc_need_rows.nd rfl (by first | exact Or.inl rfl | exact Or.inr rfl)) (pgs_cons (pg_name (i := 4) sc_need_rows.nd rfl (by first | exact Or.inl rfl | exact Or.inr rfl)) pgs_nil))) (pss_cons (ps_if (PW.pt (pw_or (pt_not (pt_val (pe_callB (call_isiK K) (by rfl) T.n_isinstance boot_isinstance (pa_cons (pv 4) (pa_cons (pe_gref T.g_Row.1) pa_nil))))) (pw_or (pt_cmpR (op_notInK K) (pv 0) (pe_met0 (met_sides T) hr (by decide) (pv 4)) (by with_unfolding_all rfl)) (pw_or1 (pt_cmpR (op_nin (hu9 hr)) (pe_fldK K (pv 4)) (pv 2) (by with_unfolding_all rfl)))))) pss_never pss_nil) (pss_one (ps_nput (hu9 hr) (pv 2) (pe_fldK K (pv 4)) pe_bl)))) (pss_one (ps_if (pt_cmpR op_gt (pe_callB (call_lenK K) (by rfl) T.n_len boot_len (pa_cons (pv 1) pa_nil)) (pe_gint T.i_MOST_ROWS) (nomark _)) pss_never pss_nil)))), ?_⟩
    have fk : ∀ (b : Bool) (A B : Prop), b = false → B → if b = true then A else B := fun b A B h a => by rw [h]; exact iteF a
    have hxl := hxs.length
    have hlen := ok.len
    intro d hd hsys
    have s0 : Same H (upd H d (DKN P w d [])) := same_upd hd
    refine ⟨_, rfl, l, xs, rfl, Same.sqt s0 hl, ?_⟩
    refine ⟨fun i m σ' H' => m = rs.length - i ∧ i ≤ rs.length ∧ (∃ v3 v4, σ' = [some (.str z.name), some (.ref l), some (.ref d), v3, v4]) ∧ Same H H' ∧ NDict P w K H' d ((rs.take i).map keyN), ⟨_, rfl, Nat.zero_le _, ⟨_, _, rfl⟩, s0, ndict_new hsys⟩, ?_⟩
    rintro i m σ' H' ⟨rfl, hi, ⟨v3, v4, rfl⟩, s', hk⟩
    have hl' := Same.sqt s' hl
    by_cases hlt : i < rs.length
    · obtain ⟨r, hr1⟩ : ∃ r, rs[i]? = some r := ⟨_, List.getElem?_eq_getElem hlt⟩
      have hmem : r ∈ rs := List.mem_of_getElem? hr1
      have hx0 : xs[i]? = some xs[i] := List.getElem?_eq_getElem (by omega)
      refine .inr ⟨⟨xs, _, hl', hx0⟩, fun σ' H' => (∃ v3 v4, σ' = [some (.str z.name), some (.ref l), some (.ref d), v3, v4]) ∧ Same H H' ∧ NDict P w K H' d ((rs.take (i + 1)).map keyN), fun σ2 H2 h => ⟨rs.length - (i + 1), by omega, rfl, hlt, h⟩, fun x H2 hy => ?_⟩
      obtain ⟨U, x, rfl, hU, rfl, fx⟩ := hy
      have sU : Same H' (upd H' U (.tup [.int (i : Nat), x])) := same_upd hU
      obtain ⟨r', hr2, hrow⟩ := paired_get hxs (fx xs hl')
      obtain rfl : r' = r := Option.some.inj (hr2.symm.trans hr1)
      obtain ⟨a, dx, dl, el, fl, kl, ys, rfl, g⟩ := hrow
      have gU := g.up (Same.up (s'.trans sU))
      refine ⟨U, _, rfl, SqT.of upd_same, rfl, _, _, rfl, _, [], rfl, rfl, ?_⟩
      -- the refusals
      refine ⟨_, rfl, isi_ins gU.at_ T.cl_Row T.it_Row T.k_Row_Row ⟨_, rfl, fk _ _ _ rfl ?_⟩⟩
      refine ⟨_, rfl, _, rfl, a, dx, _, rfl, gU.at_, rowFs_no, _, r', rfl, ⟨a, dx, dl, el, fl, kl, ys, rfl, gU⟩, (ok.ok _ hmem).dl, fun t H3 s3 ht => ?_⟩
      refine ⟨t, _, rfl, .inr ht, rfl, flat_strs _, ?_⟩
      rw [show inV (.str z.name) (strVs (fitS r'.ds)) = decide (z.name ∈ fitS r'.ds) from inV_str _ _, decide_eq_true (fitS_mem (sd_mem z) fun d hd => List.all_eq_true.mp (ok.fit _ hmem) d hd)]
      refine ⟨_, rfl, fk _ _ _ rfl ?_⟩
      have g3 := gU.up (Same.up s3)
      have hk3 := NDict.keep hk (sU.trans s3)
      have hnot : keyN r' ∉ (rs.take i).map keyN := fun hin => by
        obtain ⟨r2, h2, e2⟩ := List.mem_map.mp hin
        have et := keyN_txt (ok.ok _ (List.mem_of_mem_take h2)) (ok.ok _ hmem) e2
        obtain ⟨j, hj, ej⟩ := List.mem_iff_getElem.mp h2
        rw [List.length_take] at hj
        have hj2 : rs[j]? = some r2 := by
          rw [List.getElem_take] at ej
          rw [← ej]; exact List.getElem?_eq_getElem (by omega)
        exact nd_ne ok.nd (by omega) hj2 hr1 et
      refine ⟨_, rfl, a, _, dx, _, _, rfl, g3.at_, T.cl_Row, T.na_Row_key, rowFs_key, _, rfl, kl, d, _, _, rfl, rfl, nk_key g3, hk3, _, rfl, fk _ _ _ (decide_eq_false hnot) ?_⟩
      -- known[row.key] = True
      refine ⟨_, rfl, _, rfl, a, _, dx, _, _, rfl, g3.at_, T.cl_Row, T.na_Row_key, rowFs_key, kl, d, _, _, rfl, rfl, nk_key g3, hk3, hnot, lt_line (by rw [List.length_map, List.length_take]; omega), fun H4 h4 hb4 => ?_⟩
      refine ⟨⟨_, _, rfl⟩, fun b o e => ?_, ?_⟩
      · rw [hb4 b (fun q => by subst q; rw [hd] at e; cases e)]
        exact (s'.trans (sU.trans s3)) _ _ e
      · rw [List.take_add_one, hr1, List.map_append]
        exact h4
    · have e : i = rs.length := by omega
      subst e
      refine .inl ⟨⟨xs, hl', by omega⟩, ?_⟩
      exact ⟨_, rfl, l, xs, rfl, .inr hl', _, _, rfl, rfl, _, rfl, fk _ _ _ (decide_eq_false (by omega)) (q H' s')⟩
end
end L2.My
end
section
set_option Elab.async false
set_option linter.all false
set_option autoImplicit false
set_option maxRecDepth 100000
set_option maxHeartbeats 2000000
/-! ends: making, texts -/
namespace L2.My
open PySem PySem.Spec PyProof.Rows He
section
variable {P : Program} {w : World} {K : PySem.W.Frag} {mg : Str → Option Value} {base : Heap}
theorem clSd (T : Tx P K mg) (s : Sd) : Cls K (cSd K s) := by
  cases s
  · exact T.cl_Sender
  · exact T.cl_Receiver
theorem naSide (T : Tx P K mg) (s : Sd) : NoAttr K (cSd K s) "own_side" := by
  cases s
  · exact T.na_Sender_own_side
  · exact T.na_Receiver_own_side
theorem naRows (T : Tx P K mg) (s : Sd) : NoAttr K (cSd K s) "own_rows" := by
  cases s
  · exact T.na_Sender_own_rows
  · exact T.na_Receiver_own_rows
def spEndInit (K : PySem.W.Frag) (s : Sd) : Sp := fun vs H Q _ => ∃ (a dx l : Addr) (xs : List V) (rs : List R), vs = [.ref a, .str s.name, .ref l] ∧ H a = some (.ins (cSd K s) dx []) ∧ SqT K H l xs ∧ Paired (RowAt K H) xs rs ∧ RsOk s rs ∧
  ∀ H', SameB a H H' → H' a = some (.ins (cSd K s) dx (endFs s l)) → Q .non H'
theorem fn_end_init (T : Tx P K mg) (s : Sd) : FnR P w K mg base CXn 7 (a_End_init K) (spEndInit K s) := by
  refine mkFn (k := 6) T.f_End_init sc_End_init (fun vs H Q E h => ?_) (fun cdv A outer s' H vs Q E hr h => ?_)
  · obtain ⟨a, dx, l, xs, rs, rfl, _⟩ := h
    rfl
  · obtain ⟨a, dx, l, xs, rs, rfl, ha, hl, hxs, ok, q⟩ := h
    refine ⟨_, (pss_cons (ps_expr (pe_cal (cal_need_rows T) hr (by decide) (by rfl) (pa_cons (pv 1) (pa_cons (pv 2) pa_nil)))) (pss_cons (ps_fld (pv 0) (pv 1) rfl) (pss_one (ps_fld (pv 0) (pv 2) rfl)))), ?_⟩
    refine ⟨_, rfl, _, rfl, s, l, xs, rs, rfl, hl, hxs, ok, fun H1 s1 => ?_⟩
    have ha1 := s1 _ _ ha
    refine ⟨_, rfl, _, rfl, a, _, dx, _, rfl, ha1, clSd T s, naSide T s, (by show 0 < 1000; decide), ?_⟩
    refine ⟨_, rfl, _, rfl, a, _, dx, _, rfl, upd_same, clSd T s, naRows T s, (by show 1 < 1000; decide), ?_⟩
    refine q _ (fun c o hc e => ?_) upd_same
    rw [upd_ne hc, upd_ne hc]
    exact s1 _ _ e
/-- Sender(*rows), Receiver(*rows) -/
def spSdInit (K : PySem.W.Frag) (s : Sd) : Sp := fun vs H Q _ => ∃ (a dx l : Addr) (xs : List V) (rs : List R), vs = [.ref a, .ref l] ∧ H a = some (.ins (cSd K s) dx []) ∧ SqT K H l xs ∧ Paired (RowAt K H) xs rs ∧ RsOk s rs ∧
  ∀ H', SameB a H H' → H' a = some (.ins (cSd K s) dx (endFs s l)) → Q .non H'
def spSdMake (K : PySem.W.Frag) (s : Sd) : Sp := fun vs H Q E => ∃ v rest, vs = v :: rest ∧ rest.length ≤ sizeLine ∧ ∀ p, H p = none → spSdInit K s [v, .ref p] (upd H p (.tup rest)) Q E
theorem fn_sender_init (T : Tx P K mg) : FnR P w K mg base CXn 8 (a_Sender_init K) (spSdMake K .snd) := by
  refine mkSupStar (k := 7) (sp := spSdInit K .snd) T.f_Sender_init sc_Sender_init T.sup_Sender (fn_end_init T .snd) (Nat.le_refl _) rfl rfl rfl rfl rfl T.file T.nosup T.n_super (fun _ _ _ _ _ _ _ a rest => by cases rest <;> rfl) (fun A outer H vs Q E h => ?_) (by intro _; rfl) (by intro _; rfl) (by intro _; rfl) (by intro _; rfl)
  obtain ⟨a, dx, l, xs, rs, rfl, ha, hl, hxs, ok, q⟩ := h
  refine ⟨a, fun s2 cda cc hr => ⟨rfl, dx, [], ha, _, _, pa_cons pe_str (pa_cons (pv 1) pa_nil), pss_nil, ?_⟩⟩
  exact ⟨_, rfl, a, dx, l, xs, rs, rfl, ha, hl, hxs, ok, fun H' hb h' => q H' hb h'⟩
theorem fn_receiver_init (T : Tx P K mg) : FnR P w K mg base CXn 8 (a_Receiver_init K) (spSdMake K .rcv) := by
  refine mkSupStar (k := 7) (sp := spSdInit K .rcv) T.f_Receiver_init sc_Receiver_init T.sup_Receiver (fn_end_init T .rcv) (Nat.le_refl _) rfl rfl rfl rfl rfl T.file T.nosup T.n_super (fun _ _ _ _ _ _ _ a rest => by cases rest <;> rfl) (fun A outer H vs Q E h => ?_) (by intro _; rfl) (by intro _; rfl) (by intro _; rfl) (by intro _; rfl)
  obtain ⟨a, dx, l, xs, rs, rfl, ha, hl, hxs, ok, q⟩ := h
  refine ⟨a, fun s2 cda cc hr => ⟨rfl, dx, [], ha, _, _, pa_cons pe_str (pa_cons (pv 1) pa_nil), pss_nil, ?_⟩⟩
  exact ⟨_, rfl, a, dx, l, xs, rs, rfl, ha, hl, hxs, ok, fun H' hb h' => q H' hb h'⟩
theorem mak_Sender (T : Tx P K mg) : Mak P w K mg base 8 "Sender" (c_Sender K) (spSdMake K .snd) := ⟨_, fn_sender_init T, mk_of T.mk_Sender T.m_Sender_init, T.g_Sender.1⟩
theorem mak_Receiver (T : Tx P K mg) : Mak P w K mg base 8 "Receiver" (c_Receiver K) (spSdMake K .rcv) := ⟨_, fn_receiver_init T, mk_of T.mk_Receiver T.m_Receiver_init, T.g_Receiver.1⟩
/-- an end made -/
theorem end_made {H : Hp} {s : Sd} {rs : List R} {xs : List V} {Qd : Addr → Hp → Prop} (hxs : Paired (RowAt K H) xs rs) (ok : RsOk s rs) (q : ∀ x H', Same H H' → EndAt K H' (.ref x) s rs → Qd x H') :
    ∀ x dx, H x = none → H dx = none → dx ≠ x → spSdMake K s (.ref x :: xs) (upd (upd H dx (.own x)) x (.ins (cSd K s) dx [])) (fun v H3 => v = .non ∧ Qd x H3) En := by
  intro x dx nx nd ne
  refine ⟨_, xs, rfl, le_line (by rw [hxs.length]; have := ok.len; omega), fun p hp => ?_⟩
  have hpx : x ≠ p := fun e => by rw [← e, upd_same] at hp; cases hp
  have sm : Same H (upd (upd (upd H dx (.own x)) x (.ins (cSd K s) dx [])) p (.tup xs)) := fun b o e => by
    rw [upd_ne (fun z => by
      subst z
      rw [upd_ne hpx.symm] at hp
      by_cases hd : b = dx
      · rw [hd, upd_same] at hp; cases hp
      · rw [upd_ne hd] at hp; rw [hp] at e; cases e), upd_ne (ne_of_none e nx), upd_ne (ne_of_none e nd)]
    exact e
  refine ⟨x, dx, p, xs, rs, rfl, by rw [upd_ne hpx, upd_same], SqT.of upd_same, Paired.mapP hxs fun _ _ q => q.up (Same.up sm), ok, fun H' hb ha => ⟨rfl, ?_⟩⟩
  have s2 : Same H H' := fun b o e => hb b o (ne_of_none e nx) (sm b o e)
  exact q x H' s2 ⟨x, dx, p, xs, rfl, ha, SqT.of (hb p _ hpx.symm (by rw [upd_same])), Paired.mapP hxs fun _ _ q => q.up (Same.up s2)⟩
def spMade (K : PySem.W.Frag) : Sp := fun vs H Q _ => ∃ (s : Sd) (l : Addr) (xs : List V) (rs : List R), vs = [.str s.name, .ref l] ∧ SqL K H l xs ∧ Paired (RowAt K H) xs rs ∧ RsOk s rs ∧ ∀ v H', Same H H' → EndAt K H' v s rs → Q v H'
theorem cal_made (T : Tx P K mg) : Cal P w K mg base 10 "made" (spMade K) := by
  refine ⟨_, mkFn (k := 9) T.f_made sc_made (fun vs H Q E h => ?_) (fun cdv A outer s H vs Q E hr h => ?_), T.g_made.1, T.g_made.2⟩
  · obtain ⟨s, l, xs, rs, rfl, _⟩ := h
    rfl
  · obtain ⟨sd, l, xs, rs, rfl, hl, hxs, ok, q⟩ := h
    refine ⟨_, (pss_one (ps_ret (pe_ifExp (pt_cmpR op_eq (pv 0) pe_str (nomark _)) (pe_makS (mak_Sender T) hr (by decide) (by rfl) (pv 1)) (pe_makS (mak_Receiver T) hr (by decide) (by rfl) (pv 1))))), ?_⟩
    refine ⟨_, rfl, rfl, _, rfl, ?_⟩
    cases sd with
    | snd =>
      rw [decide_eq_true (show V.str Sd.snd.name = V.str "sender" from rfl)]
      refine iteT ⟨_, rfl, l, xs, rfl, .inr hl, ?_⟩
      exact end_made (s := .snd) (Qd := fun x H' => Q (.ref x) H') hxs ok fun x H' s' h => q _ H' s' h
    | rcv =>
      rw [decide_eq_false (show ¬ V.str Sd.rcv.name = V.str "sender" from fun z => absurd (V.str.inj z) (by decide))]
      refine iteF ⟨_, rfl, l, xs, rfl, .inr hl, ?_⟩
      exact end_made (s := .rcv) (Qd := fun x H' => Q (.ref x) H') hxs ok fun x H' s' h => q _ H' s' h
/-! ### texts -/
theorem endT_len {rs : List R} (ok : ∀ r ∈ rs, r.ok) (h : rs.length ≤ 120) : (endT rs).length ≤ 40000 := by
  by_cases h0 : rs = []
  · subst h0
    rw [endT_nil]; decide
  · rw [endT_eq h0]
    have h1 := join_len " ; " (rs.map R.txt)
    have h2 := sum_len (l := rs.map R.txt) (m := 300) fun x hx => by
      obtain ⟨y, hy2, rfl⟩ := List.mem_map.mp hx
      exact R.txt_len (ok y hy2)
    have e : (" ; " : Str).length = 3 := by decide
    rw [List.length_map] at h1 h2
    rw [e] at h1
    omega
def spRowsT (K : PySem.W.Frag) : Sp := fun vs H Q _ => ∃ (l : Addr) (xs : List V) (rs : List R), vs = [.ref l] ∧ SqT K H l xs ∧ Paired (RowAt K H) xs rs ∧ (∀ r ∈ rs, r.ok) ∧ rs.length ≤ 120 ∧ ∀ H', Same H H' → Q (.str (endT rs)) H'
theorem cal_rows_text (T : Tx P K mg) : Cal P w K mg base 10 "rows_text" (spRowsT K) := by
  refine ⟨_, mkFn (k := 9) T.f_rows_text sc_rows_text (fun vs H Q E h => ?_) (fun cdv A outer s H vs Q E hr h => ?_), T.g_rows_text.1, T.g_rows_text.2⟩
  · obtain ⟨l, xs, rs, rfl, _⟩ := h
    rfl
  · obtain ⟨l, xs, rs, rfl, hl, hxs, ok, hn, q⟩ := h
    refine ⟨_, (pss_one (ps_ret (pe_ifExp (pt_cmpR op_gt (pe_callB (call_lenK K) (by rfl) T.n_len boot_len (pa_cons (pv 0) pa_nil)) pe_int (nomark _)) (pe_join pe_str (pe_lc (own := [("row", 1)]) (g := gName 1) (tt := tYes) rfl sc_rows_text.nd (pi_tupK K (pv 0)) (blkOk_by (N := ["rows", "row"]) (sc := defScope s_rows_text) (by decide +kernel)) (fun _ _ _ _ _ => (pg_name (i := 1) sc_rows_text.nd rfl (by first | exact Or.inl rfl | exact Or.inr rfl))) (fun _ _ _ _ _ => pts_nil) (fun _ _ _ _ _ => (pe_callTy (call_ownStr (own_of T.m_Row_str) (fn_row_str T) (hr.mono (by decide))) (by rfl) T.n_str boot_str (pa_cons (pv 1) pa_nil))))) pe_str))), ?_⟩
    have hxl := hxs.length
    refine ⟨_, rfl, l, _, rfl, .inr hl, _, _, rfl, rfl, _, rfl, ?_⟩
    by_cases h0 : rs = []
    · subst h0
      have e0 : xs = [] := List.eq_nil_of_length_eq_zero hxl
      subst e0
      have := q H (Same.refl _)
      rw [endT_nil] at this
      exact iteF this
    have hpos : 0 < rs.length := List.length_pos_iff.mpr h0
    show if decide ((0 : Int) < (xs.length : Int)) = true then _ else _
    rw [decide_eq_true (by omega : (0 : Int) < (xs.length : Int))]
    refine iteT ⟨⟨_, rfl⟩, ⟨_, rfl, l, rfl, ⟨_, hl⟩, ?_⟩⟩
    refine lc_mapT (tt := tYes) (ds := rs) (A := RowAt K H) (b := fun _ => true) (P := fun r v _ => v = V.str r.txt) hl hxs (fun _ _ _ _ _ h => h) (fun _ => rfl) (fun x d H2 R _ _ _ k => k H2 (Same.refl _)) (fun x r H2 R hx hd _ s2 k => ?_) (lt_line (by omega)) fun H2 D2 ys _ s2 hy hp2 => ?_
    · obtain ⟨a, dx, dl, el, fl, kl, ys, rfl, g⟩ := hx
      have g2 := g.up (Same.up s2)
      exact ⟨_, rfl, a, dx, _, rfl, g2.at_, _, r, rfl, ⟨a, dx, dl, el, fl, kl, ys, rfl, g2⟩, ok r hd, fun H3 s3 => ⟨_, rfl, k _ _ s3 rfl⟩⟩
    · rw [filter_true] at hp2
      have ey : ys = (rs.map R.txt).map V.str := by
        rw [List.map_map]
        exact paired_map (f := V.str ∘ R.txt) hp2
      refine ⟨" ; ", D2, rs.map R.txt, rfl, rfl, .inl (by rw [← ey]; exact SqL.of hy), ?_, ?_⟩
      · have e0 : (" ; " : Str).length = 3 := by decide
        have := sum_len (l := rs.map R.txt) (m := 300) fun x hx => by
          obtain ⟨y, hy2, rfl⟩ := List.mem_map.mp hx
          exact R.txt_len (ok y hy2)
        rw [List.length_map] at this
        rw [e0, List.length_map]
        omega
      · rw [← endT_eq h0]
        exact q H2 s2
def spEndStr (K : PySem.W.Frag) : Sp := fun vs H Q _ => ∃ (v : V) (s : Sd) (rs : List R), vs = [v] ∧ EndAt K H v s rs ∧ RsOk s rs ∧ ∀ H', Same H H' → Q (.str (endT rs)) H'
theorem fn_end_str (T : Tx P K mg) : FnR P w K mg base CXn 11 (a_End_str K) (spEndStr K) := by
  refine mkFn (k := 10) T.f_End_str sc_End_str (fun vs H Q E h => ?_) (fun cdv A outer s H vs Q E hr h => ?_)
  · obtain ⟨v, s, rs, rfl, _⟩ := h
    rfl
  · obtain ⟨v, sd, rs, rfl, ⟨a, dx, l, xs, rfl, h⟩, ok, q⟩ := h
    refine ⟨_, (pss_one (ps_ret (pe_callTy SkE.call_str_str (by rfl) T.n_str boot_str (pa_cons (pe_cal (cal_rows_text T) hr (by decide) (by rfl) (pa_cons (pe_fldK K (pv 0)) pa_nil)) pa_nil)))), ?_⟩
    exact ⟨_, rfl, a, _, dx, _, _, rfl, h.at_, clSd T sd, naRows T sd, endFs_rows, l, xs, rs, rfl, h.rw_, h.rp, ok.ok, ok.len, fun H' s' => ⟨_, rfl, q H' s'⟩⟩
end
end L2.My
end
section
set_option Elab.async false
set_option linter.all false
set_option autoImplicit false
set_option maxRecDepth 100000
set_option maxHeartbeats 2000000
/-! rows_in, read -/
namespace L2.My
open PySem PySem.Spec PyProof.Rows He
/-! ### lists of texts as data -/
theorem eqv_strs : ∀ l m : List Str, PyData.eqvAll (l.map PyData.str) (m.map PyData.str) = decide (l = m)
  | [], [] => rfl
  | [], _ :: _ => rfl
  | _ :: _, [] => rfl
  | a :: l, b :: m => by
    rw [List.map_cons, List.map_cons, PyData.eqvAll, eqv_strs l m]
    show ((a == b) && decide (l = m)) = decide (a :: l = b :: m)
    by_cases h1 : a = b <;> by_cases h2 : l = m <;> simp [h1, h2]
theorem shaped_strs {l : List Str} (h : ∀ x ∈ l, Sok x) : SeqAt.shaped (.list (l.map PyData.str)) = true := by
  have e1 : PyData.canLayAll0 (l.map PyData.str) = true := by
    induction l with
    | nil => rfl
    | cons a r ih =>
      rw [List.map_cons, PyData.canLayAll0, ih fun x hx => h x (List.mem_cons_of_mem _ hx), Bool.and_true]
      show PyData.strOk a = true
      unfold PyData.strOk
      rw [← Array.all_toList]
      exact List.all_eq_true.mpr fun c hc => decide_eq_true (h a List.mem_cons_self c hc)
  have e2 : PyData.depthAll (l.map PyData.str) = 0 := by
    clear h e1
    induction l with
    | nil => rfl
    | cons a r ih => rw [List.map_cons, PyData.depthAll, ih]; rfl
  unfold SeqAt.shaped
  rw [show PyData.canLay0 (.list (l.map PyData.str)) = PyData.canLayAll0 (l.map PyData.str) from rfl, e1, Bool.true_and]
  refine decide_eq_true ?_
  show PyData.depthAll (l.map PyData.str) + 1 ≤ 64
  rw [e2]; decide
theorem dpStrs {K : PySem.W.Frag} {H : Hp} : ∀ l : List Str, DpAll K H (strVs l) (l.map PyData.str)
  | [] => .nil
  | x :: r => .cons (.str _) (dpStrs r)
theorem dp_strs {K : PySem.W.Frag} {H : Hp} {a : Addr} {l : List Str} (h : SqL K H a (strVs l)) : Dp K H (.ref a) (.list (l.map PyData.str)) := .lst h (dpStrs l)
theorem sok_box {z : Str} (hz : Sok z) {l : List Nat} : ∀ x ∈ boxW z l, Sok x := fun x hx => by
  unfold boxW at hx
  split at hx
  · cases hx
  · rcases List.mem_cons.mp hx with rfl | hx
    · exact hz
    · obtain ⟨n, _, rfl⟩ := List.mem_map.mp hx
      exact sok_num n
theorem sok_row {r : R} : ∀ x ∈ r.ws, Sok x := fun x hx => by
  unfold R.ws at hx
  rcases List.mem_cons.mp hx with rfl | hx
  · exact sok_num _
  rcases List.mem_append.mp hx with hx | hx
  · cases hh : r.hr <;> rw [hh] at hx <;> simp only [Hr.ws, List.mem_cons, List.not_mem_nil, or_false] at hx
    · rcases hx with rfl | rfl <;> exact sok_lit (by decide)
    · rcases hx with rfl | rfl
      · exact sok_lit (by decide)
      · exact sok_num _
  rcases List.mem_append.mp hx with hx | hx
  · exact sok_box (sok_lit (by decide)) x hx
  rcases List.mem_append.mp hx with hx | hx
  · exact sok_box (sok_lit (by decide)) x hx
  rcases List.mem_cons.mp hx with rfl | hx
  · exact sok_lit (by decide)
  rcases List.mem_append.mp hx with hx | hx
  · exact sok_dsW x hx
  · simp only [List.mem_cons, List.not_mem_nil, or_false] at hx
    rcases hx with rfl | rfl
    · exact sok_lit (by decide)
    · exact sok_num _
theorem sok_end {rs : List R} : ∀ x ∈ endW rs, Sok x := fun x hx => by
  unfold endW at hx
  split at hx
  · simp only [List.mem_cons, List.not_mem_nil, or_false] at hx; subst hx; exact sok_lit (by decide)
  · rcases mem_inter hx with rfl | ⟨y, hy, hx⟩
    · exact sok_lit (by decide)
    · obtain ⟨d, _, rfl⟩ := List.mem_map.mp hy
      exact sok_row x hx
theorem sok_txt (r : R) : Sok r.txt := by
  unfold R.txt
  obtain ⟨a, as, e⟩ := List.exists_cons_of_ne_nil (show r.ws ≠ [] from List.cons_ne_nil _ _)
  have h := sok_row (r := r)
  rw [e] at h ⊢
  rw [join_flat]
  exact sok_app (h a List.mem_cons_self) (sok_flat fun y hy => h y (List.mem_cons_of_mem _ hy))
/-- what follows behind some rows -/
def rwR (l : List R) : List Str := if l = [] then [] else ";" :: inter ";" (l.map R.ws)
theorem inter_rwR (r : R) (l : List R) : inter ";" ((r :: l).map R.ws) = r.ws ++ rwR l := by
  unfold rwR
  cases l with
  | nil =>
    rw [if_pos rfl, List.append_nil]; rfl
  | cons e r => rw [if_neg (List.cons_ne_nil _ _), List.map_cons, List.map_cons, inter_two]
section
variable {P : Program} {w : World} {K : PySem.W.Frag} {mg : Str → Option Value} {base : Heap}
theorem rwR_len (rs : List R) (ok : ∀ r ∈ rs, r.ok) : (rwR rs).length ≤ 201 * rs.length := by
  induction rs with
  | nil => exact Nat.zero_le _
  | cons r l ih =>
    have h1 := ws_len r (ok r List.mem_cons_self)
    have h2 := ih fun x hx => ok x (List.mem_cons_of_mem _ hx)
    have e : (rwR (r :: l)).length = 1 + (r.ws.length + (rwR l).length) := by
      have := inter_rwR r l
      unfold rwR at this ⊢
      rw [if_neg (List.cons_ne_nil _ _), List.length_cons, this, List.length_append]; omega
    rw [e, List.length_cons]; omega
def spRowsIn (K : PySem.W.Frag) : Sp := fun vs H Q _ => ∃ (s : Sd) (rs : List R), vs = [.str (endT rs), .str s.name] ∧ RsOk s rs ∧ ∀ l xs H', Same H H' → H' l = some (.lst xs) → Paired (RowAt K H') xs rs → Q (.ref l) H'
theorem cal_rows_in (T : Tx P K mg) : Cal P w K mg base 12 "rows_in" (spRowsIn K) := by
  refine ⟨_, mkFn (k := 11) T.f_rows_in sc_rows_in (fun vs H Q E h => ?_) (fun cdv A outer s H vs Q E hr h => ?_), T.g_rows_in.1, T.g_rows_in.2⟩
  · obtain ⟨s, rs, rfl, _⟩ := h
    rfl
  · obtain ⟨sd, rs, rfl, ok, q⟩ := h
    refine ⟨_, (pss_cons (ps_if (pt_not (pt_val (pe_callB (call_isiK K) (by rfl) T.n_isinstance boot_isinstance (pa_cons (pv 0) (pa_cons (pe_bltn (v := .ty "str") (by rfl) T.n_str boot_str rfl) pa_nil))))) pss_never pss_nil) (pss_cons (ps_set (i := 2) sc_rows_in.nd rfl (by first | exact Or.inl rfl | exact Or.inr rfl) (pe_split (pv 0) pe_str)) (pss_cons (ps_if (pt_cmpR (op_eqDK K hr.units) (pv 2) (pe_lst (pa_cons pe_str pa_nil)) (nomark _)) (pss_one (ps_ret (pe_lst pa_nil))) pss_nil) (pss_cons (ps_if (pt_cmpR op_eq (pe_ix (ix_listK K) (pv 2) pe_int (fun _ _ => rfl)) pe_str (nomark _)) pss_never pss_nil) (pss_cons (ps_par (i := 3) (j := 4) rfl sc_rows_in.nd rfl rfl (by decide) rfl rfl (pa_cons (pe_lst pa_nil) (pa_cons pe_int pa_nil)) (by rfl)) (pss_one (ps_while PassesOwn.never (pt_val pe_bl) (pss_cons (ps_asg (pe_cal (cal_row_in T) hr (by decide) (by rfl) (pa_cons (pv 2) (pa_cons (pv 4) (pa_cons (pe_tup (pa_cons (pv 1) pa_nil)) pa_nil)))) (pg_tupK K (n := 2) rfl (pgs_cons (pg_name (i := 5) sc_rows_in.nd rfl (by first | exact Or.inl rfl | exact Or.inr rfl)) (pgs_cons (pg_name (i := 4) sc_rows_in.nd rfl (by first | exact Or.inl rfl | exact Or.inr rfl)) pgs_nil)))) (pss_cons (ps_expr (pe_bm PySem.F.plainAttrs_list PySem.F.slot_list_append PySem.F.type_list_append mt_append (pv 3) (pa_cons (pv 5) pa_nil))) (pss_cons (ps_if (pt_cmpR op_eq (pv 4) (pe_callB (call_lenK K) (by rfl) T.n_len boot_len (pa_cons (pv 2) pa_nil)) (nomark _)) (pss_one (ps_ret (pv 3))) pss_nil) (pss_cons (ps_if (pt_cmpR op_ne (pe_ix (ix_listK K) (pv 2) (pv 4) (fun _ _ => rfl)) pe_str (nomark _)) pss_never pss_nil) (pss_one (ps_aug (i := 4) sc_rows_in.nd rfl (by first | exact Or.inl rfl | exact Or.inr rfl) pe_int ip_add))))))))))))), ?_⟩
    have fk : ∀ (b : Bool) (A B : Prop), b = false → B → if b = true then A else B := fun b A B h a => by rw [h]; exact iteF a
    have tk : ∀ (b : Bool) (A B : Prop), b = true → A → if b = true then A else B := fun b A B h a => by rw [h]; exact iteT a
    have hlen := endT_len ok.ok ok.len
    refine ⟨_, rfl, isi_str trivial ⟨true, rfl, fk _ _ _ rfl ?_⟩⟩
    refine ⟨_, rfl, ⟨_, rfl⟩, _, _, rfl, rfl, by decide, le_line (by omega), fun l hl => ?_⟩
    rw [split_end]
    have sl : Same H (upd H l (.lst ((endW rs).map V.str))) := same_upd hl
    have hl1 : SqL K (upd H l (.lst ((endW rs).map V.str))) l (strVs (endW rs)) := SqL.of upd_same
    -- words == ['-']
    refine ⟨_, rfl, (by show 1 ≤ sizeLine; decide), fun p hp => ?_⟩
    have sp : Same (upd H l (.lst ((endW rs).map V.str))) (upd (upd H l (.lst ((endW rs).map V.str))) p (.lst [.str "-"])) := same_upd hp
    refine ⟨_, _, dp_strs (sp.seq hl1), dp_strs (l := ["-"]) (SqL.of upd_same), shaped_strs sok_end, shaped_strs (fun x hx => by have := List.mem_singleton.mp hx; subst this; exact sok_lit (by decide)), _, rfl, ?_⟩
    rw [show PyData.eqv (.list ((endW rs).map PyData.str)) (.list ((["-"] : List Str).map PyData.str)) = decide (endW rs = (["-"] : List Str)) from eqv_strs _ _]
    have s0 := sl.trans sp
    have hl2 : (upd (upd H l (.lst ((endW rs).map V.str))) p (.lst [.str "-"])) l = some (.lst (strVs (endW rs))) := sp _ _ upd_same
    generalize upd (upd H l (.lst ((endW rs).map V.str))) p (.lst [.str "-"]) = H0 at s0 hl2
    by_cases h0 : rs = []
    · subst h0
      refine tk _ _ _ (decide_eq_true (if_pos rfl)) ⟨Nat.zero_le _, fun t ht => q t [] _ (Same.upd2 s0 (s0.free ht)) upd_same .nil⟩
    have eW : endW rs = inter ";" (rs.map R.ws) := if_neg h0
    obtain ⟨r0, t0, e0⟩ := List.exists_cons_of_ne_nil h0
    have hfirst : (endW rs)[0]? = some (num r0.st) := by
      rw [eW, e0, inter_rwR]; rfl
    have hnd : num r0.st ≠ "-" := num_ne 45 (by decide) (.inl (by decide))
    refine fk _ _ _ (decide_eq_false fun e => ?_) ?_
    · rw [e] at hfirst
      exact hnd (Option.some.inj hfirst).symm
    refine ⟨_, rfl, l, _, _, _, rfl, rfl, SqL.of hl2, atI_nat (j := 0) (strVs_get hfirst), rfl, _, rfl, fk _ _ _ (decide_eq_false fun e => hnd (V.str.inj e)) ?_⟩
    -- found, at
    refine ⟨Nat.zero_le _, fun F hF => ⟨_, _, rfl, ?_⟩⟩
    have sF : Same H (upd H0 F (.lst [])) := Same.upd2 s0 (s0.free hF)
    have hFl : l ≠ F := fun e => by rw [e, hF] at hl2; cases hl2
    have hlF : (upd H0 F (.lst [])) l = some (.lst (strVs (endW rs))) := by rw [upd_ne hFl]; exact hl2
    have hwl : (endW rs).length ≤ 99999 := by
      have h1 := rwR_len rs ok.ok
      have := ok.len
      rw [eW]
      rw [show (rwR rs).length = 1 + (inter ";" (rs.map R.ws)).length by unfold rwR; rw [if_neg h0, List.length_cons]; omega] at h1
      omega
    let W : Nat → L2.St → Hp → Prop := fun n σ' H' => ∃ (m a : Nat) (xs : List V) (v5 : Option V), n = rs.length - m ∧ m < rs.length ∧ σ' = [some (.str (endT rs)), some (.str sd.name), some (.ref l), some (.ref F), some (.int a), v5] ∧ Same H H' ∧ H' l = some (.lst (strVs (endW rs))) ∧ H' F = some (.lst xs) ∧ H F = none ∧ Paired (RowAt K H') xs (rs.take m) ∧
      From (endW rs) a (inter ";" ((rs.drop m).map R.ws)) ∧ a + (inter ";" ((rs.drop m).map R.ws)).length = (endW rs).length
    refine ⟨W, ⟨rs.length, 0, 0, [], none, rfl, List.length_pos_iff.mpr h0, rfl, sF, hlF, upd_same, s0.free hF, .nil, fun j x hx => by rw [Nat.zero_add, eW]; exact hx, by rw [eW]; exact Nat.zero_add _⟩, ?_⟩
    rintro n σ' H' ⟨m, a, xs, v5, rfl, hm, rfl, s', hl', hF', hF0, hxs, hfrom, hal⟩
    obtain ⟨r, hr1⟩ : ∃ r, rs[m]? = some r := ⟨_, List.getElem?_eq_getElem hm⟩
    have hmem : r ∈ rs := List.mem_of_getElem? hr1
    have edrop : rs.drop m = r :: rs.drop (m + 1) := by
      rw [← List.getElem_cons_drop (h := hm)]
      congr 1
      exact Option.some.inj ((List.getElem?_eq_getElem hm).symm.trans hr1)
    rw [edrop, inter_rwR] at hfrom hal
    refine ⟨_, rfl, tk _ _ _ rfl ⟨W (rs.length - (m + 1)), fun σ2 H3 h3 => ?_, ?_⟩⟩
    · exact ⟨_, by omega, h3⟩
    refine ⟨_, rfl, _, rfl, _, rfl, (by show 1 ≤ sizeLine; decide), fun t ht => ?_⟩
    have st : Same H' (upd H' t (.tup [.str sd.name])) := same_upd ht
    refine ⟨l, t, endW rs, [sd.name], a, r, rwR (rs.drop (m + 1)), sd.name, rfl, SqL.of (st _ _ hl'), .inr (SqT.of upd_same), hwl, hfrom, ok.ok r hmem, List.mem_singleton.mpr rfl, sd_mem sd, ok.fit r hmem, fun u v H2 s2 hu hv => ?_⟩
    have sH2 := st.trans s2
    refine ⟨u, _, rfl, SqT.of hu, rfl, _, _, rfl, _, [], rfl, rfl, ?_⟩
    have hF2 : H2 F = some (.lst xs) := sH2 _ _ hF'
    refine ⟨_, rfl, .inl ⟨rfl, _, SqL.of hF2⟩, _, rfl, F, _, _, rfl, rfl, hF2, lt_line (by rw [hxs.length, List.length_take]; have := ok.len; omega), ?_⟩
    have u5 : Up H2 (upd H2 F (.lst (xs ++ [v]))) := Up.at hF2 (fun z => z)
    have sX : Same H (upd H2 F (.lst (xs ++ [v]))) := Same.upd2 (s'.trans sH2) hF0
    have hl3' : (upd H2 F (.lst (xs ++ [v]))) l = some (.lst (strVs (endW rs))) := by rw [upd_ne hFl]; exact sH2 _ _ hl'
    have hl3 : SqL K (upd H2 F (.lst (xs ++ [v]))) l (strVs (endW rs)) := SqL.of hl3'
    have hpair : Paired (RowAt K (upd H2 F (.lst (xs ++ [v])))) (xs ++ [v]) (rs.take (m + 1)) := by
      rw [List.take_add_one, hr1]
      exact paired_append (Paired.mapP hxs fun _ _ q => q.up ((Same.up sH2).trans u5)) (.cons (hv.up u5) .nil)
    refine ⟨_, rfl, _, rfl, l, _, rfl, .inl hl3, rfl, _, rfl, ?_⟩
    have hwn : ((strVs (endW rs)).length : Int) = ((endW rs).length : Int) := by rw [show (strVs (endW rs)).length = (endW rs).length from List.length_map ..]
    by_cases hlast : rs.drop (m + 1) = []
    · have e1 : rwR (rs.drop (m + 1)) = [] := if_pos hlast
      rw [e1, List.append_nil] at hal
      refine tk _ _ _ (decide_eq_true (by rw [hwn]; exact congrArg V.int (by omega))) ⟨_, rfl, ?_⟩
      have hm1 : m + 1 = rs.length := by
        have := List.drop_eq_nil_iff.mp hlast
        omega
      rw [hm1, List.take_length] at hpair
      exact q F _ _ sX upd_same hpair
    · have e1 : rwR (rs.drop (m + 1)) = (";" : Str) :: inter ";" ((rs.drop (m + 1)).map R.ws) := if_neg hlast
      rw [List.length_append, e1, List.length_cons] at hal
      rw [e1] at hfrom
      refine fk _ _ _ (decide_eq_false fun e => ?_) ?_
      · have := V.int.inj e
        rw [hwn] at this
        omega
      have hsemi := hfrom.right
      refine ⟨_, rfl, _, rfl, l, _, _, _, rfl, rfl, hl3, atI_nat (strVs_get hsemi.head), rfl, _, rfl, fk _ _ _ (by rw [decide_eq_true rfl]; rfl) ?_⟩
      refine ⟨_, rfl, _, _, rfl, rfl, ?_⟩
      refine ⟨m + 1, a + r.ws.length + 1, xs ++ [v], some v, rfl, ?_, rfl, sX, hl3', upd_same, hF0, hpair, hsemi.tail, by omega⟩
      have : rs.drop (m + 1) ≠ [] := hlast
      have := List.length_pos_iff.mpr this
      rw [List.length_drop] at this
      omega
end
end L2.My
end
section
set_option Elab.async false
set_option linter.all false
set_option autoImplicit false
set_option maxRecDepth 100000
set_option maxHeartbeats 2000000
/-! ends: methods -/
namespace L2.My
open PySem PySem.Spec PyProof.Rows He
section
variable {P : Program} {w : World} {K : PySem.W.Frag} {mg : Str → Option Value} {base : Heap}
theorem ownSd (T : Tx P K mg) (s : Sd) : Own K (cSd K s) "__contains__" (a_End_contains K) ∧ Own K (cSd K s) "__eq__" (a_End_eq K) ∧ Own K (cSd K s) "__len__" (a_End_len K) ∧ Own K (cSd K s) "__iter__" (a_End_iter K) ∧ Own K (cSd K s) "__str__" (a_End_str K) ∧ OwnIx K (cSd K s) (a_End_getitem K) := by
  cases s
  · exact ⟨own_of T.m_Sender_contains, own_of T.m_Sender_eq, own_of T.m_Sender_len, own_of T.m_Sender_iter, own_of T.m_Sender_str, ⟨T.m_Sender_getitem.at_, T.fi_End_getitem, T.m_Sender_getitem.fn⟩⟩
  · exact ⟨own_of T.m_Receiver_contains, own_of T.m_Receiver_eq, own_of T.m_Receiver_len, own_of T.m_Receiver_iter, own_of T.m_Receiver_str, ⟨T.m_Receiver_getitem.at_, T.fi_End_getitem, T.m_Receiver_getitem.fn⟩⟩
theorem ownSd_contains (T : Tx P K mg) (s : Sd) : Own K (cSd K s) "__contains__" (a_End_contains K) := (ownSd T s).1
/-- the rows' tuple as a field -/
theorem fld_rows (T : Tx P K mg) {H : Hp} {a dx l : Addr} {s : Sd} {rs : List R} {xs : List V} {i : Nat} {σ : L2.St} {Q : VK} (h : EndIn K H a s rs dx l xs) (h0 : σ[i]? = some (some (.ref a))) (q : Q (.ref l) H) : tFld K (tVar i) "own_rows" σ H Q :=
  ⟨_, h0, a, _, dx, _, _, rfl, h.at_, clSd T s, naRows T s, endFs_rows, q⟩
def spEndLen (K : PySem.W.Frag) : Sp := fun vs H Q _ => ∃ (v : V) (s : Sd) (rs : List R), vs = [v] ∧ EndAt K H v s rs ∧ Q (.int (rs.length : Int)) H
theorem fn_end_len (T : Tx P K mg) : FnR P w K mg base CXn 1 (a_End_len K) (spEndLen K) := by
  refine mkFn (k := 0) T.f_End_len sc_End_len (fun vs H Q E h => ?_) (fun cdv A outer s H vs Q E hr h => ?_)
  · obtain ⟨v, s, rs, rfl, _⟩ := h
    rfl
  · obtain ⟨v, sd, rs, rfl, ⟨a, dx, l, xs, rfl, h⟩, q⟩ := h
    refine ⟨_, (pss_one (ps_ret (pe_callB (call_lenK K) (by rfl) T.n_len boot_len (pa_cons (pe_fldK K (pv 0)) pa_nil)))), ?_⟩
    refine ⟨_, rfl, a, _, dx, _, _, rfl, h.at_, clSd T sd, naRows T sd, endFs_rows, ?_⟩
    refine ⟨l, xs, rfl, .inr h.rw_, ?_⟩
    rw [h.rp.length]
    exact q
theorem fnn_end_iter (T : Tx P K mg) (s : Sd) : FnN P w K mg base 1 (a_End_iter K) (fun z => spIterN z K (cSd K s) "own_rows") := by
  obtain ⟨fd, F⟩ := T.f_End_iter
  refine fnN_of (k := 0) F sc_End_iter (F.binds fun _ _ _ _ _ _ us hl => match us, hl with | [_], _ => rfl) (fun n vs H Q E h => ?_) (fun cdv A outer st H vs Q hr h => ?_)
  · obtain ⟨a, dx, fs, l, xs, rfl, _⟩ := h
    rfl
  · obtain ⟨a, dx, fs, l, xs, rfl, ha, hl, hq, q⟩ := h
    refine ⟨_, pss_one (ps_ret (pe_callB call_iterT (by rfl) T.n_iter boot_iter (pa_cons (pe_fldK K (pv 0)) pa_nil))), ?_⟩
    exact ⟨_, rfl, a, _, dx, _, _, rfl, ha, clSd T s, naRows T s, hl, l, xs, rfl, hq, fun it h1 h2 => q it h1 h2⟩
def spGet (K : PySem.W.Frag) : Sp := fun vs H Q _ => ∃ (v : V) (s : Sd) (rs : List R) (i : Nat) (r : R), vs = [v, .int i] ∧ EndAt K H v s rs ∧ rs[i]? = some r ∧ ∀ u, RowAt K H u r → Q u H
theorem within_idx {n i : Nat} (h : i < n) : wit (.int (i : Int)) 0 ((n : Int) - 1) = true := by
  rw [show wit (.int (i : Int)) 0 ((n : Int) - 1) = (decide ((0 : Int) ≤ i) && decide ((i : Int) ≤ (n : Int) - 1)) from rfl, decide_eq_true (by omega : (0 : Int) ≤ i), decide_eq_true (by omega : (i : Int) ≤ (n : Int) - 1)]; rfl
theorem paired_get2 {α β : Type} {F : α → β → Prop} {l : List α} {m : List β} {i : Nat} {y : β} (h : Paired F l m) (hy : m[i]? = some y) : ∃ x, l[i]? = some x ∧ F x y := by
  obtain ⟨x, h1, h2⟩ := paired_get (paired_swap h) hy
  exact ⟨x, h1, h2⟩
theorem fn_end_getitem (T : Tx P K mg) : FnR P w K mg base CXn 3 (a_End_getitem K) (spGet K) := by
  refine mkFn (k := 2) T.f_End_getitem sc_End_getitem (fun vs H Q E h => ?_) (fun cdv A outer s H vs Q E hr h => ?_)
  · obtain ⟨v, s, rs, i, r, rfl, _⟩ := h
    rfl
  · obtain ⟨v, sd, rs, i, r, rfl, ⟨a, dx, l, xs, rfl, h⟩, hi, q⟩ := h
    refine ⟨_, (pss_cons (ps_if (pt_not (pt_val (pe_cal (cal_is_within T) hr (by decide) (by rfl) (pa_cons (pv 1) (pa_cons pe_int (pa_cons (pe_op op_sub (pe_callB (call_lenK K) (by rfl) T.n_len boot_len (pa_cons (pe_fldK K (pv 0)) pa_nil)) pe_int) pa_nil)))))) pss_never pss_nil) (pss_one (ps_ret (pe_ix (ix_tupK K) (pe_fldK K (pv 0)) (pv 1) (fun _ _ => rfl))))), ?_⟩
    have fk : ∀ (b : Bool) (A B : Prop), b = false → B → if b = true then A else B := fun b A B h a => by rw [h]; exact iteF a
    obtain ⟨u, hu, hr1⟩ := paired_get2 h.rp hi
    have hlt : i < xs.length := (List.getElem?_eq_some_iff.mp hu).1
    refine ⟨_, rfl, ?_⟩
    refine ⟨_, rfl, a, _, dx, _, _, rfl, h.at_, clSd T sd, naRows T sd, endFs_rows, ?_⟩
    refine ⟨l, xs, rfl, .inr h.rw_, _, _, rfl, rfl, _, _, _, rfl, trivial, _, rfl, fk _ _ _ (by rw [within_idx hlt]; rfl) ?_⟩
    refine ⟨_, rfl, a, _, dx, _, _, rfl, h.at_, clSd T sd, naRows T sd, endFs_rows, ?_⟩
    exact ⟨_, rfl, l, xs, _, u, rfl, rfl, h.rw_, atI_nat hu, q u hr1⟩
def spContains (K : PySem.W.Frag) : Sp := fun vs H Q _ => ∃ (v u : V) (s : Sd) (rs : List R) (r : R), vs = [v, u] ∧ EndAt K H v s rs ∧ rs.length ≤ 120 ∧ RowAt K H u r ∧ ∀ H', Same H H' → Q (.bl (rs.any (keyEq r))) H'
/-- the own == of two rows -/
theorem eq_rows (T : Tx P K mg) {H : Hp} {v u : V} {r q : R} {Q : VK} (h1 : RowAt K H v r) (h2 : RowAt K H u q) (k : Q (.bl (keyEq r q)) H) : rOwnEq K (c_Row K) (spRowEq K) v u H Q := by
  obtain ⟨a, dx, dl, el, fl, kl, xs, rfl, h⟩ := id h1
  obtain ⟨b, dy, ml, fl2, gl, kl2, ys, rfl, g⟩ := id h2
  exact ⟨a, dx, _, b, _, dy, _, rfl, rfl, h.at_, g.at_, T.nf_Row, _, _, r, q, rfl, h1, h2, k⟩
theorem fn_end_contains (T : Tx P K mg) : FnR P w K mg base CXn 3 (a_End_contains K) (spContains K) := by
  refine mkFn (k := 2) T.f_End_contains sc_End_contains (fun vs H Q E h => ?_) (fun cdv A outer s H vs Q E hr h => ?_)
  · obtain ⟨v, u, s, rs, r, rfl, _⟩ := h
    rfl
  · obtain ⟨v, u, sd, rs, r, rfl, ⟨a, dx, l, xs, rfl, h⟩, hn, hu, q⟩ := h
    refine ⟨_, (pss_one (ps_ret (pe_and (pe_callB (call_isiK K) (by rfl) T.n_isinstance boot_isinstance (pa_cons (pv 1) (pa_cons (pe_gref T.g_Row.1) pa_nil))) (pe_one (pe_callB (cr_anyK K rfl) (by rfl) T.n_any boot_any (pa_cons (pe_lc (own := [("other", 2)]) (g := gName 2) (tt := tYes) rfl sc_End_contains.nd (pi_tupK K (pe_fldK K (pv 0))) (blkOk_by (N := ["self", "row", "other"]) (sc := defScope s_End_contains) (by decide +kernel)) (fun _ _ _ _ _ => (pg_name (i := 2) sc_End_contains.nd rfl (by first | exact Or.inl rfl | exact Or.inr rfl))) (fun _ _ _ _ _ => pts_nil) (fun _ _ _ _ _ => (pe_cmpR (op_ownEqK K (own_of T.m_Row_eq) (fn_row_eq T) (hr.mono (by decide))) (pv 1) (pv 2) (nomark _)))) pa_nil)))))), ?_⟩
    refine ⟨_, rfl, isi_row T hu ⟨_, rfl, iteT ?_⟩⟩
    refine ⟨_, rfl, a, _, dx, _, _, rfl, h.at_, clSd T sd, naRows T sd, endFs_rows, ?_⟩
    refine ⟨l, rfl, ⟨_, h.rw_⟩, ?_⟩
    refine lc_mapT (tt := tYes) (ds := rs) (A := RowAt K H) (b := fun _ => true) (P := fun o v _ => v = V.bl (keyEq r o)) h.rw_ h.rp (fun _ _ _ _ _ h => h) (fun _ => rfl) (fun x d H2 R _ _ _ k => k H2 (Same.refl _)) (fun x o H2 R hx _ _ s2 k => ?_) (lt_line (by omega)) fun H2 D2 ys _ s2 hy hp2 => ?_
    · exact ⟨_, rfl, _, rfl, eq_rows T (hu.up (Same.up s2)) (hx.up (Same.up s2)) (k _ _ (Same.refl _) rfl)⟩
    · rw [filter_true] at hp2
      have ey : ys = (rs.map (keyEq r)).map V.bl := by
        rw [List.map_map]
        exact paired_map (f := V.bl ∘ keyEq r) hp2
      refine ⟨D2, _, rfl, ey ▸ SqL.of hy, ?_⟩
      rw [List.any_map]
      exact q H2 s2
def spAdd (K : PySem.W.Frag) : Sp := fun vs H Q _ => ∃ (v u : V) (s : Sd) (rs : List R) (r : R), vs = [v, u] ∧ EndAt K H v s rs ∧ RowAt K H u r ∧ RsOk s (rs ++ [r]) ∧ ∀ v' H', Same H H' → EndAt K H' v' s (rs ++ [r]) → Q v' H'
theorem fld_side (T : Tx P K mg) {H : Hp} {a dx l : Addr} {s : Sd} {rs : List R} {xs : List V} {i : Nat} {σ : L2.St} {Q : VK} (h : EndIn K H a s rs dx l xs) (h0 : σ[i]? = some (some (.ref a))) (q : Q (.str s.name) H) : tFld K (tVar i) "own_side" σ H Q :=
  ⟨_, h0, a, _, dx, _, _, rfl, h.at_, clSd T s, naSide T s, endFs_side, q⟩
theorem fn_end_add (T : Tx P K mg) : FnR P w K mg base CXn 11 (a_End_add K) (spAdd K) := by
  refine mkFn (k := 10) T.f_End_add sc_End_add (fun vs H Q E h => ?_) (fun cdv A outer s H vs Q E hr h => ?_)
  · obtain ⟨v, u, s, rs, r, rfl, _⟩ := h
    rfl
  · obtain ⟨v, u, sd, rs, r, rfl, ⟨a, dx, l, xs, rfl, h⟩, hu, ok, q⟩ := h
    refine ⟨_, (pss_one (ps_ret (pe_cal (cal_made T) hr (by decide) (by rfl) (pa_cons (pe_fldK K (pv 0)) (pa_cons (pe_lst (pa_starK K (pe_fldK K (pv 0)) (pa_cons (pv 1) pa_nil))) pa_nil))))), ?_⟩
    have hlen := ok.len
    rw [List.length_append] at hlen
    refine ⟨_, rfl, a, _, dx, _, _, rfl, h.at_, clSd T sd, naSide T sd, endFs_side, ?_⟩
    refine ⟨_, rfl, a, _, dx, _, _, rfl, h.at_, clSd T sd, naRows T sd, endFs_rows, ?_⟩
    refine ⟨l, xs, rfl, .inl h.rw_, _, rfl, le_line ?_, fun p hp => ?_⟩
    · rw [List.length_append, h.rp.length]
      show rs.length + 1 ≤ 100000
      omega
    have u1 : Up H (upd H p (.lst (xs ++ [u]))) := Same.up (same_upd hp)
    exact ⟨sd, p, _, rs ++ [r], rfl, SqL.of upd_same, paired_append (Paired.mapP h.rp fun _ _ q => q.up u1) (.cons (hu.up u1) .nil), ok, fun v' H' s' hv => q v' H' ((same_upd hp).trans s') hv⟩
def spSub (K : PySem.W.Frag) : Sp := fun vs H Q _ => ∃ (v u : V) (s : Sd) (rs : List R) (r : R), vs = [v, u] ∧ EndAt K H v s rs ∧ RowAt K H u r ∧ rs.length ≤ 120 ∧ rs.any (keyEq r) = true ∧ RsOk s (rs.filter fun o => !keyEq o r) ∧ ∀ v' H', Same H H' → EndAt K H' v' s (rs.filter fun o => !keyEq o r) → Q v' H'
theorem fn_end_sub (T : Tx P K mg) : FnR P w K mg base CXn 11 (a_End_sub K) (spSub K) := by
  refine mkFn (k := 10) T.f_End_sub sc_End_sub (fun vs H Q E h => ?_) (fun cdv A outer s H vs Q E hr h => ?_)
  · obtain ⟨v, u, s, rs, r, rfl, _⟩ := h
    rfl
  · obtain ⟨v, u, sd, rs, r, rfl, ⟨a, dx, l, xs, rfl, h⟩, hu, hn, hany, ok, q⟩ := h
    refine ⟨_, (pss_cons (ps_if (pt_cmpR (opr_ex fun s : Sd => op_ownNotIn (ownSd_contains T s) (fn_end_contains T) (hr.mono (by decide))) (pv 1) (pv 0) (by with_unfolding_all rfl)) pss_never pss_nil) (pss_one (ps_ret (pe_cal (cal_made T) hr (by decide) (by rfl) (pa_cons (pe_fldK K (pv 0)) (pa_cons (pe_lc (own := [("other", 2)]) (g := gName 2) rfl sc_End_sub.nd (pi_tupK K (pe_fldK K (pv 0))) (blkOk_by (N := ["self", "row", "other"]) (sc := defScope s_End_sub) (by decide +kernel)) (fun _ _ _ _ _ => (pg_name (i := 2) sc_End_sub.nd rfl (by first | exact Or.inl rfl | exact Or.inr rfl))) (fun _ _ _ _ _ => (pts_one (pt_cmpR (op_ownNeK K (own_of T.m_Row_eq) T.ne_Row (fn_row_eq T) (hr.mono (by decide))) (pv 2) (pv 1) (nomark _)))) (fun _ _ _ _ _ => (pv 2))) pa_nil)))))), ?_⟩
    have fk : ∀ (b : Bool) (A B : Prop), b = false → B → if b = true then A else B := fun b A B h a => by rw [h]; exact iteF a
    refine ⟨_, rfl, _, rfl, sd, a, dx, _, rfl, h.at_, _, _, sd, rs, r, rfl, ⟨a, dx, l, xs, rfl, h⟩, hn, hu, fun H1 s1 => ⟨_, rfl, _, rfl, ?_⟩⟩
    rw [hany]
    refine fk _ _ _ rfl ?_
    have h1 := h.up (Same.up s1)
    have hu1 := hu.up (Same.up s1)
    refine ⟨_, rfl, a, _, dx, _, _, rfl, h1.at_, clSd T sd, naSide T sd, endFs_side, ?_⟩
    refine ⟨_, rfl, a, _, dx, _, _, rfl, h1.at_, clSd T sd, naRows T sd, endFs_rows, ?_⟩
    refine ⟨l, rfl, ⟨_, h1.rw_⟩, ?_⟩
    refine lc_mapT (ds := rs) (A := RowAt K H1) (b := fun o => !keyEq o r) (P := fun o v H' => RowAt K H' v o) h1.rw_ h1.rp (fun _ _ _ _ u h => h.up u) (fun _ => rfl) (fun x o H2 R hx _ s2 k => ?_) (fun x o H2 R hx _ _ s2 k => ?_) (lt_line (by omega)) fun H2 D2 ys _ s2 hy hp2 => ?_
    · obtain ⟨b, dy, ml, fl2, gl, kl2, zs, rfl, g⟩ := id (hx.up (Same.up s2))
      obtain ⟨c, dz, nl, fl3, hl3, kl3, zs3, rfl, g3⟩ := id (hu1.up (Same.up s2))
      exact ⟨_, rfl, _, rfl, b, dy, _, c, _, dz, _, rfl, rfl, g.at_, g3.at_, T.nf_Row, _, _, o, r, rfl, hx.up (Same.up s2), hu1.up (Same.up s2), _, rfl, _, rfl, k _ (Same.refl _)⟩
    · exact ⟨_, rfl, k _ _ (Same.refl _) (hx.up (Same.up s2))⟩
    · exact ⟨sd, D2, ys, _, rfl, SqL.of hy, paired_swap hp2, ok, fun v' H' s' hv => q v' H' ((s1.trans s2).trans s') hv⟩
end
end L2.My
end
section
set_option Elab.async false
set_option linter.all false
set_option autoImplicit false
set_option maxRecDepth 100000
set_option maxHeartbeats 2000000
/-! ends: rows exchanged, numbers, ==, read -/
namespace L2.My
open PySem PySem.Spec PyProof.Rows He
section
variable {P : Program} {w : World} {K : PySem.W.Frag} {mg : Str → Option Value} {base : Heap}
/-! ### slices of a tuple -/
def rSlT (K : PySem.W.Frag) : V → Option Int → Option Int → Hp → VK → Prop := fun x lo hi H Q => ∃ a xs, x = .ref a ∧ SqT K H a xs ∧ ∀ p H', Same H H' → SqT K H' p (cutV xs lo hi) → Q (.ref p) H'
theorem sl_tupS {X : Cx} (K : PySem.W.Frag) (hK : X.K = K := by rfl) : SlR X (rSlT K) := by
  subst hK
  intro pins s σ H x v vl vu lo hi sl Q I rx hs pl pu h
  obtain ⟨a, xs, rfl, hx, q⟩ := h
  refine sl_tupA pins s σ H _ v vl vu lo hi sl Q I rx hs pl pu ⟨a, xs, rfl, hx, fun hw => q a H (Same.refl _) ?_, fun _ p hp => q p _ (same_upd hp) (SqT.of upd_same)⟩
  have e : cutV xs lo hi = xs := by
    unfold cutV
    rw [hw.1, hw.2, List.drop_zero, Nat.sub_zero, List.take_length]
  rw [e]
  exact hx
theorem cut_to (xs : List V) {i : Nat} (h : i ≤ xs.length) : cutV xs none (some (i : Int)) = xs.take i := by
  unfold cutV
  rw [HT.sIx_none, HT.sIx_nat, Nat.min_eq_left h, List.drop_zero, Nat.sub_zero]
theorem cut_from (xs : List V) {i : Nat} (h : i ≤ xs.length) : cutV xs (some (i : Int)) none = xs.drop i := by
  unfold cutV
  rw [HT.sIx_none, HT.sIx_nat, Nat.min_eq_left h]
  exact List.take_of_length_le (by rw [List.length_drop]; omega)
theorem paired_take {α β : Type} {F : α → β → Prop} : ∀ {l : List α} {m : List β} (i : Nat), Paired F l m → Paired F (l.take i) (m.take i)
  | _, _, 0, _ => .nil
  | _, _, _ + 1, .nil => .nil
  | _, _, i + 1, .cons r t => .cons r (paired_take i t)
theorem paired_drop {α β : Type} {F : α → β → Prop} : ∀ {l : List α} {m : List β} (i : Nat), Paired F l m → Paired F (l.drop i) (m.drop i)
  | _, _, 0, h => h
  | _, _, _ + 1, .nil => .nil
  | _, _, i + 1, .cons r t => paired_drop i t
def spWithout (K : PySem.W.Frag) : Sp := fun vs H Q _ => ∃ (v : V) (s : Sd) (rs : List R) (i : Nat), vs = [v, .int i] ∧ EndAt K H v s rs ∧ i < rs.length ∧ RsOk s (rs.take i ++ rs.drop (i + 1)) ∧ rs.length ≤ 120 ∧ ∀ v' H', Same H H' → EndAt K H' v' s (rs.take i ++ rs.drop (i + 1)) → Q v' H'
theorem fn_without (T : Tx P K mg) : FnR P w K mg base CXn 11 (a_End_without_row K) (spWithout K) := by
  refine mkFn (k := 10) T.f_End_without_row sc_End_without_row (fun vs H Q E h => ?_) (fun cdv A outer s H vs Q E hr h => ?_)
  · obtain ⟨v, s, rs, i, rfl, _⟩ := h
    rfl
  · obtain ⟨v, sd, rs, i, rfl, ⟨a, dx, l, xs, rfl, h⟩, hi, ok, hn, q⟩ := h
    refine ⟨_, (pss_cons (ps_if (pt_not (pt_val (pe_cal (cal_is_within T) hr (by decide) (by rfl) (pa_cons (pv 1) (pa_cons pe_int (pa_cons (pe_op op_sub (pe_callB (call_lenK K) (by rfl) T.n_len boot_len (pa_cons (pe_fldK K (pv 0)) pa_nil)) pe_int) pa_nil)))))) pss_never pss_nil) (pss_one (ps_ret (pe_cal (cal_made T) hr (by decide) (by rfl) (pa_cons (pe_fldK K (pv 0)) (pa_cons (pe_lst (pa_starK K (pe_slice (sl_tupS K) (pe_fldK K (pv 0)) po_none (po_some (pv 1))) (pa_starK K (pe_slice (sl_tupS K) (pe_fldK K (pv 0)) (po_some (pe_op op_add (pv 1) pe_int)) po_none) pa_nil))) pa_nil)))))), ?_⟩
    have fk : ∀ (b : Bool) (A B : Prop), b = false → B → if b = true then A else B := fun b A B h a => by rw [h]; exact iteF a
    have hlt : i < xs.length := by rw [h.rp.length]; exact hi
    refine ⟨_, rfl, _, rfl, a, _, dx, _, _, rfl, h.at_, clSd T sd, naRows T sd, endFs_rows, l, xs, rfl, .inr h.rw_, _, _, rfl, rfl, _, _, _, rfl, trivial, _, rfl, fk _ _ _ (by rw [within_idx hlt]; rfl) ?_⟩
    refine ⟨_, rfl, a, _, dx, _, _, rfl, h.at_, clSd T sd, naSide T sd, endFs_side, _, rfl, a, _, dx, _, _, rfl, h.at_, clSd T sd, naRows T sd, endFs_rows, ?_⟩
    refine ⟨_, rfl, i, rfl, ?_⟩
    refine ⟨l, xs, rfl, h.rw_, fun p1 H1 s1 hp1 => ?_⟩
    rw [cut_to xs (by omega)] at hp1
    have h1 := h.up (Same.up s1)
    refine ⟨p1, _, rfl, .inl hp1, _, rfl, a, _, dx, _, _, rfl, h1.at_, clSd T sd, naRows T sd, endFs_rows, ?_⟩
    refine ⟨_, rfl, _, _, rfl, rfl, _, rfl, ?_⟩
    refine ⟨l, xs, rfl, h1.rw_, fun p2 H2 s2 hp2 => ?_⟩
    rw [show (i : Int) + 1 = ((i + 1 : Nat) : Int) by omega, cut_from xs (by omega)] at hp2
    have h2 := h1.up (Same.up s2)
    refine ⟨p2, _, rfl, .inl hp2, le_line ?_, fun p hp => ?_⟩
    · rw [List.append_nil, List.length_append, List.length_take, List.length_drop, h.rp.length]; omega
    rw [List.append_nil]
    have u := Same.up (same_upd hp (o := .lst (xs.take i ++ xs.drop (i + 1))))
    exact ⟨sd, p, _, _, rfl, SqL.of upd_same, paired_append (paired_take i (Paired.mapP h2.rp fun _ _ q => q.up u)) (paired_drop (i + 1) (Paired.mapP h2.rp fun _ _ q => q.up u)), ok, fun v' H' s' hv => q v' H' (((s1.trans s2).trans (same_upd hp)).trans s') hv⟩
def spWith (K : PySem.W.Frag) : Sp := fun vs H Q _ => ∃ (v u : V) (s : Sd) (rs : List R) (i : Nat) (r : R), vs = [v, .int i, u] ∧ EndAt K H v s rs ∧ RowAt K H u r ∧ i < rs.length ∧ RsOk s (rs.take i ++ r :: rs.drop (i + 1)) ∧ rs.length ≤ 120 ∧ ∀ v' H', Same H H' → EndAt K H' v' s (rs.take i ++ r :: rs.drop (i + 1)) → Q v' H'
theorem fn_with (T : Tx P K mg) : FnR P w K mg base CXn 11 (a_End_with_row K) (spWith K) := by
  refine mkFn (k := 10) T.f_End_with_row sc_End_with_row (fun vs H Q E h => ?_) (fun cdv A outer s H vs Q E hr h => ?_)
  · obtain ⟨v, u, s, rs, i, r, rfl, _⟩ := h
    rfl
  · obtain ⟨v, u0, sd, rs, i, r, rfl, ⟨a, dx, l, xs, rfl, h⟩, hu, hi, ok, hn, q⟩ := h
    refine ⟨_, (pss_cons (ps_if (pt_not (pt_val (pe_cal (cal_is_within T) hr (by decide) (by rfl) (pa_cons (pv 1) (pa_cons pe_int (pa_cons (pe_op op_sub (pe_callB (call_lenK K) (by rfl) T.n_len boot_len (pa_cons (pe_fldK K (pv 0)) pa_nil)) pe_int) pa_nil)))))) pss_never pss_nil) (pss_one (ps_ret (pe_cal (cal_made T) hr (by decide) (by rfl) (pa_cons (pe_fldK K (pv 0)) (pa_cons (pe_lst (pa_starK K (pe_slice (sl_tupS K) (pe_fldK K (pv 0)) po_none (po_some (pv 1))) (pa_cons (pv 2) (pa_starK K (pe_slice (sl_tupS K) (pe_fldK K (pv 0)) (po_some (pe_op op_add (pv 1) pe_int)) po_none) pa_nil)))) pa_nil)))))), ?_⟩
    have fk : ∀ (b : Bool) (A B : Prop), b = false → B → if b = true then A else B := fun b A B h a => by rw [h]; exact iteF a
    have hlt : i < xs.length := by rw [h.rp.length]; exact hi
    refine ⟨_, rfl, _, rfl, a, _, dx, _, _, rfl, h.at_, clSd T sd, naRows T sd, endFs_rows, l, xs, rfl, .inr h.rw_, _, _, rfl, rfl, _, _, _, rfl, trivial, _, rfl, fk _ _ _ (by rw [within_idx hlt]; rfl) ?_⟩
    refine ⟨_, rfl, a, _, dx, _, _, rfl, h.at_, clSd T sd, naSide T sd, endFs_side, _, rfl, a, _, dx, _, _, rfl, h.at_, clSd T sd, naRows T sd, endFs_rows, ?_⟩
    refine ⟨_, rfl, i, rfl, ?_⟩
    refine ⟨l, xs, rfl, h.rw_, fun p1 H1 s1 hp1 => ?_⟩
    rw [cut_to xs (by omega)] at hp1
    have h1 := h.up (Same.up s1)
    refine ⟨p1, _, rfl, .inl hp1, _, rfl, _, rfl, a, _, dx, _, _, rfl, h1.at_, clSd T sd, naRows T sd, endFs_rows, ?_⟩
    refine ⟨_, rfl, _, _, rfl, rfl, _, rfl, ?_⟩
    refine ⟨l, xs, rfl, h1.rw_, fun p2 H2 s2 hp2 => ?_⟩
    rw [show (i : Int) + 1 = ((i + 1 : Nat) : Int) by omega, cut_from xs (by omega)] at hp2
    have h2 := h1.up (Same.up s2)
    refine ⟨p2, _, rfl, .inl hp2, le_line ?_, fun p hp => ?_⟩
    · rw [List.append_nil, List.length_append, List.length_cons, List.length_take, List.length_drop, h.rp.length]; omega
    rw [List.append_nil]
    have u := Same.up (same_upd hp (o := .lst (xs.take i ++ u0 :: xs.drop (i + 1))))
    exact ⟨sd, p, _, _, rfl, SqL.of upd_same, paired_append (paired_take i (Paired.mapP h2.rp fun _ _ q => q.up u)) (.cons (((hu.up (Same.up s1)).up (Same.up s2)).up u) (paired_drop (i + 1) (Paired.mapP h2.rp fun _ _ q => q.up u))), ok, fun v' H' s' hv => q v' H' (((s1.trans s2).trans (same_upd hp)).trans s') hv⟩
/-! ### numbers -/
def numsE (rs : List R) : List Nat := ascOf (rs.flatMap fun r => ascOf r.nums)
theorem ascOf_len (l : List Nat) : (ascOf l).length ≤ 24 := by
  unfold ascOf
  have := List.length_filter_le (fun n => decide (n ∈ l)) (List.range 24)
  rwa [List.length_range] at this
theorem flat_asc_len : ∀ rs : List R, (rs.flatMap fun r => ascOf r.nums).length ≤ 24 * rs.length
  | [] => Nat.zero_le _
  | r :: t => by
    have h1 := ascOf_len r.nums
    have h2 := flat_asc_len t
    rw [List.flatMap_cons, List.length_append, List.length_cons]
    omega
def spNumbers (K : PySem.W.Frag) : Sp := fun vs H Q _ => ∃ (v : V) (s : Sd) (rs : List R), vs = [v] ∧ EndAt K H v s rs ∧ RsOk s rs ∧ ∀ t H', Same H H' → SqT K H' t (natVs (numsE rs)) → Q (.ref t) H'
theorem ok_numbers (T : Tx P K mg) : ∃ fd, FnOk P w K mg base CX0 5 (a_End_numbers K) fd ["self"] (spNumbers K) ∧ Binds K fd ["self"] [] := by
  obtain ⟨fd, F⟩ := T.f_End_numbers
  refine ⟨fd, F.ok (k := 4) sc_End_numbers (fun vs H Q E h => ?_) (fun cdv A outer s H vs Q E hr h => ?_), F.binds fun _ _ _ _ _ _ us hl => match us, hl with | [_], _ => rfl⟩
  · obtain ⟨v, s, rs, rfl, _⟩ := h
    rfl
  · obtain ⟨v, sd, rs, rfl, ⟨a, dx, l, xs, rfl, h⟩, ok, q⟩ := h
    refine ⟨_, (pss_one (ps_ret (pe_cal (cal_ascending T) hr (by decide) (by rfl) (pa_cons (pe_lc2 (own := [("row", 1), ("number", 2)]) (vs1 := [2]) (g := gName 1) (g1 := gName 2) (tt := tYes) (tt1 := tYes) rfl sc_End_numbers.nd (pi_tupK K (pe_fldK K (pv 0))) (blkOk_by (N := ["self", "row", "number"]) (sc := defScope s_End_numbers) (by decide +kernel)) (by decide) (fun _ _ _ _ _ => (pg_name (i := 1) sc_End_numbers.nd rfl (by first | exact Or.inl rfl | exact Or.inr rfl))) (fun _ _ _ _ _ => pts_nil) (fun _ _ _ _ _ => (pi_tupK K (pe_met0 (met_rownums T) hr (by decide) (pv 1)))) (fun _ _ _ _ _ => (pg_name (i := 2) sc_End_numbers.nd rfl (by first | exact Or.inl rfl | exact Or.inr rfl))) (fun _ _ _ _ _ => pts_nil) (fun _ _ _ _ _ => (pv 2))) pa_nil)))), ?_⟩
    refine ⟨_, rfl, a, _, dx, _, _, rfl, h.at_, clSd T sd, naRows T sd, endFs_rows, l, rfl, ⟨_, h.rw_⟩, ?_⟩
    refine lc2_nat (A := fun x r => RowAt K H x r) (f := fun r : R => ascOf r.nums) h.rw_ h.rp (fun _ => rfl) (fun _ _ => rfl) (fun _ _ => rfl) (fun x r H2 R hx hm s2 k => ?_) (lt_line (by have := flat_asc_len rs; have := ok.len; omega)) (fun H2 D2 hD s2 hy => ?_)
    · obtain ⟨b, dy, ml, fl2, gl, kl2, ys, rfl, g⟩ := id (hx.up (Same.up s2))
      exact ⟨_, rfl, b, dy, _, rfl, g.at_, rowFs_no, _, r, rfl, hx.up (Same.up s2), ok.ok r hm, fun t H3 s3 ht => k t H3 s3 ht⟩
    · exact ⟨D2, _, rfl, SqL.of hy, fun t H3 s3 ht => q t H3 (s2.trans s3) ht⟩
/-! ### == -/
def RE (K : PySem.W.Frag) : Addr → Addr → Hp → Prop := fun a b H => ∃ r, RowAt K H (.ref a) r ∧ RowAt K H (.ref b) r
theorem mon_RE : ∀ a b H H', Ext H H' → RE K a b H → RE K a b H' := fun a b H H' e ⟨r, h1, h2⟩ => ⟨r, h1.up (Same.up e), h2.up (Same.up e)⟩
theorem fn_row_eqR (T : Tx P K mg) : FnR P w K mg base CXn 1 (a_Row_eq K) (spEq (RE K)) := (fn_row_eq T).imp fun vs H Q E ⟨a, b, e, ⟨r, h1, h2⟩, k⟩ => ⟨_, _, r, r, e, h1, h2, by rw [keyEq_self]; exact k H Ext.rfl'⟩
theorem kitSd (T : Tx P K mg) (s : Sd) : PySem.W.kitOne K (.ref (cSd K s)) (.ref (c_End K)) = some true ∧ InsT K (cSd K s) := by
  cases s
  · exact ⟨T.k_Sender_End, T.it_Sender⟩
  · exact ⟨T.k_Receiver_End, T.it_Receiver⟩
def spEndEq (K : PySem.W.Frag) : Sp := fun vs H Q _ => ∃ (v u : V) (s : Sd) (rs : List R), vs = [v, u] ∧ EndAt K H v s rs ∧ EndAt K H u s rs ∧ ∀ H', Same H H' → Q (.bl true) H'
theorem fn_end_eq (T : Tx P K mg) : FnR P w K mg base CXn 5 (a_End_eq K) (spEndEq K) := by
  refine mkFn (k := 4) T.f_End_eq sc_End_eq (fun vs H Q E h => ?_) (fun cdv A outer s H vs Q E hr h => ?_)
  · obtain ⟨v, u, s, rs, rfl, _⟩ := h
    rfl
  · obtain ⟨v, u, sd, rs, rfl, ⟨a, dx, l, xs, rfl, h⟩, ⟨b, dy, m, ys, rfl, g⟩, q⟩ := h
    refine ⟨_, (pss_cons (ps_if (PW.pt (pw_or (pt_not (pt_val (pe_callB (call_isiK K) (by rfl) T.n_isinstance boot_isinstance (pa_cons (pv 1) (pa_cons (pe_gref T.g_End.1) pa_nil))))) (pw_or1 (pt_cmpR op_ne (pe_fldK K (pv 0)) (pe_fldK K (pv 1)) (nomark _))))) (pss_one (ps_ret pe_bl)) pss_nil) (pss_one (ps_ret (pe_cmpR (op_eqG (rcG_tup (mon_ins mon_RE) ((rcG_insR (fn_row_eqR T) (own_of T.m_Row_eq)).eqG fun _ _ _ d => let ⟨a, b, _, _, _, _, hx, hy, _⟩ := d; ⟨a, b, hx, hy⟩)) (hr.mono (by decide))) (pe_fldK K (pv 0)) (pe_fldK K (pv 1)) (nomark _))))), ?_⟩
    have fk : ∀ (b : Bool) (A B : Prop), b = false → B → if b = true then A else B := fun b A B h a => by rw [h]; exact iteF a
    obtain ⟨k1, k2⟩ := kitSd T sd
    refine ⟨_, rfl, isi_ins g.at_ (clSd T sd) k2 k1 ⟨_, rfl, fk _ _ _ rfl ?_⟩⟩
    refine ⟨_, rfl, a, _, dx, _, _, rfl, h.at_, clSd T sd, naSide T sd, endFs_side, _, rfl, b, _, dy, _, _, rfl, g.at_, clSd T sd, naSide T sd, endFs_side, rfl, _, rfl, fk _ _ _ (by rw [decide_eq_true rfl]; rfl) ?_⟩
    refine ⟨_, rfl, a, _, dx, _, _, rfl, h.at_, clSd T sd, naRows T sd, endFs_rows, _, rfl, b, _, dy, _, _, rfl, g.at_, clSd T sd, naRows T sd, endFs_rows, ?_⟩
    refine ⟨⟨l, m, xs, ys, rfl, rfl, h.rw_, g.rw_, by rw [h.rp.length, g.rp.length], fun i x y hx hy => ?_⟩, fun H' e => q H' e⟩
    obtain ⟨r, hr1, h1⟩ := paired_get h.rp hx
    obtain ⟨r2, hr2, h2⟩ := paired_get g.rp hy
    obtain rfl : r2 = r := Option.some.inj (hr2.symm.trans hr1)
    obtain ⟨a2, dx2, dl, el, fl, kl, zs, rfl, g1⟩ := id h1
    obtain ⟨b2, dy2, dl3, el3, fl3, kl3, zs3, rfl, g3⟩ := id h2
    exact ⟨a2, b2, dx2, dy2, _, _, rfl, rfl, g1.at_, g3.at_, r2, h1, h2⟩
/-! ### read -/
def spRead (K : PySem.W.Frag) (s : Sd) : Sp := fun vs H Q _ => ∃ rs : List R, vs = [.ref (cSd K s), .str (endT rs)] ∧ RsOk s rs ∧ ∀ v H', Same H H' → EndAt K H' v s rs → Q v H'
theorem fn_sender_read (T : Tx P K mg) : FnR P w K mg base CXn 13 (a_Sender_read K) (spRead K .snd) := by
  refine mkFn (k := 12) T.f_Sender_read sc_Sender_read (fun vs H Q E h => ?_) (fun cdv A outer s H vs Q E hr h => ?_)
  · obtain ⟨rs, rfl, _⟩ := h
    rfl
  · obtain ⟨rs, rfl, ok, q⟩ := h
    refine ⟨_, (pss_cons (ps_set (i := 2) sc_Sender_read.nd rfl (by first | exact Or.inl rfl | exact Or.inr rfl) (pe_cal (cal_rows_in T) hr (by decide) (by rfl) (pa_cons (pv 1) (pa_cons pe_str pa_nil)))) (pss_one (ps_ret (pe_makV (i := 0) (mak_Sender T) hr (by decide) rfl (by first | exact Or.inl rfl | exact Or.inr (Or.inl rfl) | exact Or.inr (Or.inr rfl)) (pv 2))))), ?_⟩
    refine ⟨_, rfl, .snd, rs, rfl, ok, fun l xs H1 s1 hl hxs => ⟨rfl, _, rfl, l, xs, rfl, .inr (SqL.of hl), ?_⟩⟩
    exact end_made (s := .snd) (Qd := fun x H' => Q (.ref x) H') hxs ok fun x H' s' h => q _ H' (s1.trans s') h
theorem fn_receiver_read (T : Tx P K mg) : FnR P w K mg base CXn 13 (a_Receiver_read K) (spRead K .rcv) := by
  refine mkFn (k := 12) T.f_Receiver_read sc_Receiver_read (fun vs H Q E h => ?_) (fun cdv A outer s H vs Q E hr h => ?_)
  · obtain ⟨rs, rfl, _⟩ := h
    rfl
  · obtain ⟨rs, rfl, ok, q⟩ := h
    refine ⟨_, (pss_cons (ps_set (i := 2) sc_Receiver_read.nd rfl (by first | exact Or.inl rfl | exact Or.inr rfl) (pe_cal (cal_rows_in T) hr (by decide) (by rfl) (pa_cons (pv 1) (pa_cons pe_str pa_nil)))) (pss_one (ps_ret (pe_makV (i := 0) (mak_Receiver T) hr (by decide) rfl (by first | exact Or.inl rfl | exact Or.inr (Or.inl rfl) | exact Or.inr (Or.inr rfl)) (pv 2))))), ?_⟩
    refine ⟨_, rfl, .rcv, rs, rfl, ok, fun l xs H1 s1 hl hxs => ⟨rfl, _, rfl, l, xs, rfl, .inr (SqL.of hl), ?_⟩⟩
    exact end_made (s := .rcv) (Qd := fun x H' => Q (.ref x) H') hxs ok fun x H' s' h => q _ H' (s1.trans s') h
end
end L2.My
end
section
set_option Elab.async false
set_option linter.all false
set_option autoImplicit false
set_option maxRecDepth 100000
set_option maxHeartbeats 2000000
/-! End.renumbered -/
namespace L2.My
open PySem PySem.Spec PyProof.Rows He
section
variable {K : PySem.W.Frag} {d : Addr} {od : Obj} {f : Nat → Nat} {dom : List Nat} {te : TE} {vs : List Nat} {σ : L2.St} {H1 : Hp} {Qd : Addr → Hp → Prop} {i : Nat} {P : Nat → V → Hp → Prop}
theorem tabK_get {j : Nat} {k : Key} {v : V} (h : (tabK f dom)[j]? = some (k, v)) : ∃ n, dom[j]? = some n ∧ k = Sum.inl (n : Int) := by
  unfold tabK at h
  rw [List.getElem?_map] at h
  cases e : dom[j]? with
  | none => rw [e] at h; cases h
  | some n => rw [e] at h; cases h; exact ⟨n, rfl, rfl⟩
theorem tabK_len : (tabK f dom).length = dom.length := List.length_map ..
theorem lc_mapK (hd : H1 d = some (.frz od (.dK (tabK f dom)))) (mono : ∀ n y H H', Up H H' → P n y H → P n y H') (hw : ∀ x, wipe ((wipe σ vs).set i (some x)) vs = wipe σ vs)
    (he : ∀ n H' (R : VK), n ∈ dom → Same H1 H' → (∀ y H'', Same H' H'' → P n y H'' → R y H'') → te ((wipe σ vs).set i (some (.int (n : Int)))) H' R)
    (hlen : dom.length < sizeLine) (k : ∀ H2 D ys, H1 D = none → Same H1 H2 → H2 D = some (.lst ys) → Paired (fun n y => P n y H2) dom ys → Qd D H2) :
    ∀ D, H1 D = none → ∃ W : Nat → Nat → Hp → Prop, (∃ m, W 0 m (upd H1 D (.lst []))) ∧ ∀ j m H, W j m H →
      ((Itk d od (tabK f dom)).stop j H ∧ Qd D H) ∨ ((Itk d od (tabK f dom)).go j H ∧ ∃ Nx : Hp → Prop, (∀ H', Nx H' → ∃ m', m' < m ∧ W (j + 1) m' H') ∧ ∀ x H', (Itk d od (tabK f dom)).yld j H x H' → gName i x (wipe σ vs) H' fun σ2 H2 => wipe σ2 vs = wipe σ vs ∧ tYes σ2 H2 fun c H3 =>
        if c = true then te σ2 H3 fun y H4 => ∃ acc, H4 D = some (.lst acc) ∧ acc.length < sizeLine ∧ Nx (upd H4 D (.lst (acc ++ [y]))) else Nx H3) := by
  intro D hD
  refine ⟨fun j m H => m = dom.length - j ∧ j ≤ dom.length ∧ LcP H1 D P (fun _ => true) dom j H, ⟨_, rfl, Nat.zero_le _, lcp_start hD⟩, ?_⟩
  rintro j m H ⟨rfl, hj, p⟩
  have hd' := p.1 _ _ hd
  by_cases hlt : j < dom.length
  · refine .inr ⟨⟨hd', by rw [tabK_len]; exact hlt⟩, fun H' => LcP H1 D P (fun _ => true) dom (j + 1) H', fun H' p' => ⟨dom.length - (j + 1), by omega, rfl, hlt, p'⟩, fun x H' hy => ?_⟩
    obtain ⟨rfl, kk, v, hk, rfl⟩ := hy
    obtain ⟨n, hn, rfl⟩ := tabK_get hk
    exact lcp_turn (A := fun (x : V) (n : Nat) => x = .int (n : Int)) (b := fun _ => true) (tt := tYes) mono hw (fun x e H' R _ _ _ k => k H' (Same.refl _)) (fun x e H' R hx hm _ s k => by subst hx; exact he e H' R hm s k) hlen hD rfl hn p
  · have e : j = dom.length := by omega
    subst e
    obtain ⟨s, ys, h1, h2⟩ := lcp_end p
    rw [filter_true] at h2
    exact .inl ⟨⟨hd', by rw [tabK_len]; exact Nat.le_refl _⟩, k H D ys hD s h1 h2⟩
/-- {f n: True for n in table} -/
theorem dc_tab {tk tv : TE} (hd : H1 d = some (.frz od (.dK (tabK f dom)))) (hw : ∀ x, wipe ((wipe σ vs).set i (some x)) vs = wipe σ vs) (hnd : dom.Nodup) (hinj : ∀ a b, a ∈ dom → b ∈ dom → f a = f b → a = b)
    (hk : ∀ n H' (R : VK), n ∈ dom → Same H1 H' → R (.int (f n : Nat)) H' → tk ((wipe σ vs).set i (some (.int (n : Int)))) H' R) (hv : ∀ n H' (R : VK), n ∈ dom → R (.bl true) H' → tv ((wipe σ vs).set i (some (.int (n : Int)))) H' R)
    (hlen : dom.length < sizeLine) (k : ∀ H2 D kvs, H1 D = none → Same H1 H2 → H2 D = some (.dK kvs) → kvs.length = dom.length → Qd D H2) :
    ∀ D, H1 D = none → ∃ W : Nat → Nat → Hp → Prop, (∃ m, W 0 m (upd H1 D (.dK []))) ∧ ∀ j m H, W j m H →
      ((Itk d od (tabK f dom)).stop j H ∧ Qd D H) ∨ ((Itk d od (tabK f dom)).go j H ∧ ∃ Nx : Hp → Prop, (∀ H', Nx H' → ∃ m', m' < m ∧ W (j + 1) m' H') ∧ ∀ x H', (Itk d od (tabK f dom)).yld j H x H' → gName i x (wipe σ vs) H' fun σ2 H2 => wipe σ2 vs = wipe σ vs ∧ tYes σ2 H2 fun c H3 =>
        if c = true then tk σ2 H3 fun y H4 => tv σ2 H4 fun z H5 => ∃ kvs k, y = kV k ∧ H5 D = some (.dK kvs) ∧ kvs.length < sizeLine ∧ Nx (upd H5 D (.dK (putK kvs k z))) else Nx H3) := by
  intro D hD
  refine ⟨fun j m H => m = dom.length - j ∧ j ≤ dom.length ∧ Same H1 H ∧ H D = some (.dK ((dom.take j).map fun n => ((Sum.inl (f n : Int) : Key), V.bl true))), ⟨_, rfl, Nat.zero_le _, same_upd hD, upd_same⟩, ?_⟩
  rintro j m H ⟨rfl, hj, s, hDj⟩
  have hd' := s _ _ hd
  by_cases hlt : j < dom.length
  · refine .inr ⟨⟨hd', by rw [tabK_len]; exact hlt⟩, fun H' => Same H1 H' ∧ H' D = some (.dK ((dom.take (j + 1)).map fun n => ((Sum.inl (f n : Int) : Key), V.bl true))), fun H' p' => ⟨dom.length - (j + 1), by omega, rfl, hlt, p'⟩, fun x H' hy => ?_⟩
    obtain ⟨rfl, kk, v, hk', rfl⟩ := hy
    obtain ⟨n, hn, rfl⟩ := tabK_get hk'
    have hmem := List.mem_of_getElem? hn
    refine ⟨hw _, tYes_ok ?_⟩
    rw [if_pos rfl]
    refine hk n _ _ hmem s (hv n _ _ hmem ⟨_, Sum.inl (f n : Int), rfl, hDj, by rw [List.length_map, List.length_take]; omega, Same.upd2 s hD, ?_⟩)
    rw [upd_same]
    congr 2
    have hno : (((dom.take j).map fun n => ((Sum.inl (f n : Int) : Key), V.bl true)).any fun kv => decide (kv.1 = Sum.inl (f n : Int))) = false := by
      rw [List.any_map, List.any_eq_false]
      intro a ha hda
      have e1 : f a = f n := Int.ofNat.inj (Sum.inl.inj (of_decide_eq_true hda))
      have e2 := hinj a n (List.mem_of_mem_take ha) hmem e1
      subst e2
      obtain ⟨q, hq, eq⟩ := List.mem_iff_getElem.mp ha
      rw [List.length_take] at hq
      rw [List.getElem_take] at eq
      obtain ⟨hj2, ej⟩ := List.getElem?_eq_some_iff.mp hn
      exact List.pairwise_iff_getElem.mp hnd q j (by omega) hj2 (by omega) (eq.trans ej.symm)
    unfold putK
    rw [hno, if_neg Bool.false_ne_true, List.take_add_one, hn, List.map_append]; rfl
  · have e : j = dom.length := by omega
    subst e
    exact .inl ⟨⟨hd', by rw [tabK_len]; exact Nat.le_refl _⟩, k H D _ hD s hDj (by rw [List.length_map, List.take_length])⟩
end
theorem paired_mapR {α β γ : Type} {F : β → γ → Prop} {g : α → γ} : ∀ {l : List α} {m : List β}, Paired (fun a b => F b (g a)) l m → Paired F m (l.map g)
  | _, _, .nil => .nil
  | _, _, .cons r t => .cons r (paired_mapR t)
theorem unlock_same {H H' : Hp} {d : Addr} {u : HO} {od : Obj} (h : H d = some u) (s : Same (upd H d (.frz od u)) H') : Same H (upd H' d u) := fun b o e => by
  by_cases hb : b = d
  · subst hb
    rw [upd_same, ← h]; exact e
  · rw [upd_ne hb]
    exact s b o (by rw [upd_ne hb]; exact e)
theorem asc_nodup (l : List Nat) : (ascOf l).Nodup := List.nodup_range.sublist List.filter_sublist
theorem asc_mem {l : List Nat} {n : Nat} : n ∈ ascOf l ↔ n < 24 ∧ n ∈ l := by
  unfold ascOf
  rw [List.mem_filter, List.mem_range, decide_eq_true_eq]
theorem nums_bound {r : R} (ok : r.ok) {n : Nat} (h : n ∈ r.nums) : n ≤ 5 := by
  unfold R.nums at h
  rcases List.mem_append.mp h with h | h
  · have := ok.hr
    cases hh : r.hr with
    | non => rw [hh] at h; cases h
    | oth => rw [hh] at h; cases h
    | num m =>
      rw [hh] at h this
      have e : n = m := List.mem_singleton.mp h
      subst e
      exact this
  · obtain ⟨d, hd, hn⟩ := List.mem_flatMap.mp h
    have := ok.ds d hd
    cases d <;> simp only [D.nums, List.mem_singleton, List.not_mem_nil] at hn
    · subst hn; exact this.2
    · subst hn; exact this
theorem numsE_mem {rs : List R} {r : R} {n : Nat} (hr : r ∈ rs) (ok : r.ok) (h : n ∈ r.nums) : n ∈ numsE rs := by
  have h5 := nums_bound ok h
  refine asc_mem.mpr ⟨by omega, List.mem_flatMap.mpr ⟨r, hr, asc_mem.mpr ⟨by omega, h⟩⟩⟩
section
variable {P : Program} {w : World} {K : PySem.W.Frag} {mg : Str → Option Value} {base : Heap}
theorem propSd (T : Tx P K mg) (s : Sd) : PropOf K (cSd K s) "numbers" (r_End_numbers K) (a_End_numbers K) := by
  cases s
  · exact T.p_Sender
  · exact T.p_Receiver
theorem isi_dict {H : Hp} {a : Addr} {kvs : List (Key × V)} {Q : VK} (h : H a = some (.dK kvs)) (q : Q (.bl true) H) : OIsi K [.ref a, .ty "dict"] H Q := by
  have k : PySem.W.kitOne K (.type "dict") (.type "dict") = some true := kit_ty (by decide +kernel)
  exact ⟨_, _, _, _, true, rfl, .ty _, .base (.dK h), k, q⟩
def spEndRen (K : PySem.W.Frag) : Sp := fun vs H Q _ => ∃ (v : V) (s : Sd) (rs : List R) (t : Addr) (f : Nat → Nat), vs = [v, .ref t] ∧ EndAt K H v s rs ∧ H t = some (.dK (tabK f (numsE rs))) ∧ RsOk s rs ∧ (∀ n ∈ numsE rs, f n ≤ 5) ∧ (∀ a b, a ∈ numsE rs → b ∈ numsE rs → f a = f b → a = b) ∧ RsOk s (rs.map (R.ren f)) ∧
  ∀ v' H', Same H H' → EndAt K H' v' s (rs.map (R.ren f)) → Q v' H'
theorem fn_end_ren (T : Tx P K mg) : FnR P w K mg base CXn 12 (a_End_renumbered K) (spEndRen K) := by
  obtain ⟨fdN, FN, bN⟩ := ok_numbers (w := w) (base := base) T
  refine mkFn (k := 11) T.f_End_renumbered sc_End_renumbered (fun vs H Q E h => ?_) (fun cdv A outer s H vs Q E hr h => ?_)
  · obtain ⟨v, s, rs, t, f, rfl, _⟩ := h
    rfl
  · obtain ⟨v, sd, rs, t, f, rfl, hv, ht, ok, hf5, hinj, ok2, q⟩ := h
    refine ⟨_, (pss_cons (ps_if (PW.pt (pw_or (pt_not (pt_val (pe_callB (call_isiK K) (by rfl) T.n_isinstance boot_isinstance (pa_cons (pv 1) (pa_cons (pe_bltn (v := .ty "dict") (by rfl) T.n_dict boot_dict rfl) pa_nil))))) (pw_or1 (pt_cmpR op_ne (pe_callB call_lenD (by rfl) T.n_len boot_len (pa_cons (pv 1) pa_nil)) (pe_callB (call_lenK K) (by rfl) T.n_len boot_len (pa_cons (pe_exK fun s : Sd => pe_prop (pv 0) (clSd T s) (propSd T s) FN (hr.mono (by decide)) bN .nil pass0 rfl) pa_nil)) (nomark _))))) pss_never pss_nil) (pss_cons (ps_if (pt_not (pt_val (pe_callB (cr_allK K rfl) (by rfl) T.n_all boot_all (pa_cons (pe_lc (own := [("number", 2)]) (g := gName 2) (tt := tYes) rfl sc_End_renumbered.nd (pi_tupK K (pe_exK fun s : Sd => pe_prop (pv 0) (clSd T s) (propSd T s) FN (hr.mono (by decide)) bN .nil pass0 rfl)) (blkOk_by (N := ["self", "table", "number", "row"]) (sc := defScope s_End_renumbered) (by decide +kernel)) (fun _ _ _ _ _ => (pg_name (i := 2) sc_End_renumbered.nd rfl (by first | exact Or.inl rfl | exact Or.inr rfl))) (fun _ _ _ _ _ => pts_nil) (fun _ _ _ _ _ => (pe_and (pe_cmp (pc_din (hu_of hr) (pv 2) (pv 1)) (by with_unfolding_all rfl)) (pe_one (pe_cal (cal_is_number T) hr (by decide) (by rfl) (pa_cons (pe_dget (hu_of hr) (pv 1) (pv 2) (fun _ _ => rfl)) pa_nil)))))) pa_nil)))) pss_never pss_nil) (pss_cons (ps_if (pt_not (pt_val (pe_callB (cr_allK K rfl) (by rfl) T.n_all boot_all (pa_cons (pe_lock (pe_lc (own := [("number", 2)]) (g := gName 2) (tt := tYes) rfl sc_End_renumbered.nd (pi_keys (pv 1)) (blkOk_by (N := ["self", "table", "number", "row"]) (sc := defScope s_End_renumbered) (by decide +kernel)) (fun _ _ _ _ _ => (pg_name (i := 2) sc_End_renumbered.nd rfl (by first | exact Or.inl rfl | exact Or.inr rfl))) (fun _ _ _ _ _ => pts_nil) (fun _ _ _ _ _ => (pe_cal (cal_is_number T) hr (by decide) (by rfl) (pa_cons (pv 2) pa_nil))))) pa_nil)))) pss_never pss_nil) (pss_cons (ps_if (pt_cmpR op_lt (pe_callB call_lenD (by rfl) T.n_len boot_len (pa_cons (pe_lock (pe_dc (own := [("number", 2)]) (g := gName 2) (tt := tYes) rfl sc_End_renumbered.nd (pi_keys (pv 1)) (blkOk_by (N := ["self", "table", "number", "row"]) (sc := defScope s_End_renumbered) (by decide +kernel)) (fun _ _ _ _ _ => (pg_name (i := 2) sc_End_renumbered.nd rfl (by first | exact Or.inl rfl | exact Or.inr rfl))) (fun _ _ _ _ _ => pts_nil) (fun _ _ _ _ _ => (pe_dget (hu_of hr) (pv 1) (pv 2) (fun _ _ => rfl))) (fun _ _ _ _ _ => pe_bl))) pa_nil)) (pe_callB call_lenD (by rfl) T.n_len boot_len (pa_cons (pv 1) pa_nil)) (nomark _)) pss_never pss_nil) (pss_one (ps_ret (pe_cal (cal_made T) hr (by decide) (by rfl) (pa_cons (pe_fldK K (pv 0)) (pa_cons (pe_lc (own := [("row", 3)]) (g := gName 3) (tt := tYes) rfl sc_End_renumbered.nd (pi_tupK K (pe_fldK K (pv 0))) (blkOk_by (N := ["self", "table", "number", "row"]) (sc := defScope s_End_renumbered) (by decide +kernel)) (fun _ _ _ _ _ => (pg_name (i := 3) sc_End_renumbered.nd rfl (by first | exact Or.inl rfl | exact Or.inr rfl))) (fun _ _ _ _ _ => pts_nil) (fun _ _ _ _ _ => (pe_met (met_rowren T) hr (by decide) (pv 3) (pa_cons (pv 1) pa_nil)))) pa_nil))))))))), ?_⟩
    have fk : ∀ (b : Bool) (A B : Prop), b = false → B → if b = true then A else B := fun b A B h a => by rw [h]; exact iteF a
    have tk : ∀ (b : Bool) (A B : Prop), b = true → A → if b = true then A else B := fun b A B h a => by rw [h]; exact iteT a
    obtain ⟨a, dx, l, xs, rfl, h⟩ := hv
    have hlen : (numsE rs).length ≤ 24 := ascOf_len _
    have hnl : (natVs (numsE rs)).length = (numsE rs).length := List.length_map ..
    -- a dict of that length
    refine ⟨_, rfl, isi_dict ht ⟨true, rfl, fk _ _ _ rfl ?_⟩⟩
    refine ⟨_, rfl, t, _, rfl, ht, sd, _, rfl, a, dx, _, rfl, h.at_, _, sd, rs, rfl, ⟨a, dx, l, xs, rfl, h⟩, ok, fun p1 H1 s1 hp1 => ?_⟩
    refine ⟨p1, _, rfl, .inr hp1, rfl, _, rfl, fk _ _ _ (by rw [tabK_len, hnl, decide_eq_true rfl]; rfl) ?_⟩
    have h1 := h.up (Same.up s1)
    have ht1 := s1 _ _ ht
    -- every number is there
    refine ⟨sd, _, rfl, a, dx, _, rfl, h1.at_, _, sd, rs, rfl, ⟨a, dx, l, xs, rfl, h1⟩, ok, fun p2 H2 s2 hp2 => ⟨p2, rfl, ⟨_, hp2⟩, ?_⟩⟩
    have ht2 := s2 _ _ ht1
    have h2 := h1.up (Same.up s2)
    refine lc_mapT (tt := tYes) (ds := numsE rs) (A := fun x n => x = V.int (n : Nat)) (b := fun _ => true) (P := fun d y _ => y = V.bl true) hp2 (paired_swap (paired_of_map (fun n : Nat => V.int (n : Int)) (numsE rs))) (fun _ _ _ _ _ h => h) (fun _ => rfl) (fun x d H2 R _ _ _ k => k H2 (Same.refl _)) (fun x n H3 R hx hm _ s3 k => ?_) (lt_line (by omega)) fun H3 D3 ys _ s3 hy hp3 => ?_
    · subst hx
      have ht3 := s3 _ _ ht2
      refine ⟨_, rfl, _, rfl, t, _, rfl, .inl ⟨_, Sum.inl (n : Int), .inl ht3, rfl, (val_tabK hm).symm⟩, _, rfl, tk _ _ _ rfl ?_⟩
      refine ⟨_, rfl, _, rfl, t, _, rfl, .inl ⟨_, Sum.inl (n : Int), .inl ht3, rfl, (val_tabK hm).symm⟩, _, rfl, trivial, ?_⟩
      rw [show wit (.int (f n : Int)) 0 5 = true from wit_nat (m := 5) (hf5 n hm)]
      exact k _ _ (Same.refl _) rfl
    rw [filter_true] at hp3
    have ey : ys = ((numsE rs).map fun _ => true).map V.bl := by
      rw [List.map_map]
      exact paired_map (f := V.bl ∘ fun _ : Nat => true) hp3
    refine ⟨D3, _, rfl, ey ▸ SqL.of hy, _, rfl, fk _ _ _ (by simp) ?_⟩
    have ht3 := s3 _ _ ht2
    have s03 := (s1.trans s2).trans s3
    -- every key is a number
    refine ⟨t, _, ht3, trivial, fun od => ⟨_, rfl, t, od, rfl, .inl ⟨_, upd_same, ?_⟩⟩⟩
    refine lc_mapK (f := f) (dom := numsE rs) (P := fun n y _ => y = V.bl true) upd_same (fun _ _ _ _ _ h => h) (fun _ => rfl) (fun n H4 R hm s4 k => ?_) (lt_line (by omega)) fun H4 D4 ys4 hD4 s4 hy4 hp4 => ?_
    · refine ⟨_, rfl, _, rfl, trivial, ?_⟩
      have h24 := asc_mem.mp hm
      have hn5 : n ≤ 5 := by
        obtain ⟨r, hr1, hr2⟩ := List.mem_flatMap.mp h24.2
        exact nums_bound (ok.ok r hr1) (asc_mem.mp hr2).2
      rw [show wit (.int (n : Int)) 0 5 = true from wit_nat (m := 5) hn5]
      exact k _ _ (Same.refl _) rfl
    have hDt : D4 ≠ t := fun e => by rw [e, upd_same] at hD4; cases hD4
    have ey4 : ys4 = ((numsE rs).map fun _ => true).map V.bl := by
      rw [List.map_map]
      exact paired_map (f := V.bl ∘ fun _ : Nat => true) hp4
    have s34 := unlock_same ht3 s4
    refine ⟨s4 _ _ upd_same, D4, _, rfl, by rw [← ey4]; exact SqL.of (by rw [upd_ne hDt]; exact hy4), _, rfl, fk _ _ _ (by simp) ?_⟩
    have s04 := s03.trans s34
    have ht4 : (upd H4 t (.dK (tabK f (numsE rs)))) t = some (.dK (tabK f (numsE rs))) := upd_same
    generalize upd H4 t (.dK (tabK f (numsE rs))) = HA at s34 s04 ht4
    -- no two go to one
    refine ⟨t, _, ht4, trivial, fun od => ⟨_, rfl, t, od, rfl, .inl ⟨_, upd_same, ?_⟩⟩⟩
    refine dc_tab (f := f) (dom := numsE rs) upd_same (fun _ => rfl) (asc_nodup _) hinj (fun n H5 R hm s5 k => ?_) (fun n H5 R hm k => ?_) (lt_line (by omega)) fun H5 D5 kvs hD5 s5 hy5 hl5 => ?_
    · exact ⟨_, rfl, _, rfl, t, _, rfl, .inl ⟨_, Sum.inl (n : Int), .inr ⟨od, s5 _ _ upd_same⟩, rfl, (val_tabK hm).symm⟩, k⟩
    · exact k
    have hDt5 : D5 ≠ t := fun e => by rw [e, upd_same] at hD5; cases hD5
    have s45 := unlock_same ht4 s5
    refine ⟨s5 _ _ upd_same, D5, kvs, rfl, by rw [upd_ne hDt5]; exact hy5, _, rfl, t, _, rfl, upd_same, _, _, rfl, rfl, _, rfl, fk _ _ _ (decide_eq_false (by rw [hl5, tabK_len]; omega)) ?_⟩
    have s05 := s04.trans s45
    have ht5 : (upd H5 t (.dK (tabK f (numsE rs)))) t = some (.dK (tabK f (numsE rs))) := upd_same
    generalize upd H5 t (.dK (tabK f (numsE rs))) = HB at s45 s05 ht5
    have h5 := h.up (Same.up s05)
    refine ⟨_, rfl, a, _, dx, _, _, rfl, h5.at_, clSd T sd, naSide T sd, endFs_side, _, rfl, a, _, dx, _, _, rfl, h5.at_, clSd T sd, naRows T sd, endFs_rows, l, rfl, ⟨_, h5.rw_⟩, ?_⟩
    refine lc_mapT (tt := tYes) (ds := rs) (A := RowAt K HB) (b := fun _ => true) (P := fun r v H' => RowAt K H' v (r.ren f)) h5.rw_ h5.rp (fun _ _ _ _ u h => h.up u) (fun _ => rfl) (fun x d H2 R _ _ _ k => k H2 (Same.refl _)) (fun x r H6 R hx hm _ s6 k => ?_) (lt_line (by have := ok.len; omega)) fun H6 D6 ys6 _ s6 hy6 hp6 => ?_
    · have hx6 := hx.up (Same.up s6)
      obtain ⟨b, dy, ml, fl2, gl, kl2, zs, rfl, g⟩ := id hx6
      exact ⟨_, rfl, b, dy, _, rfl, g.at_, rowFs_no, _, rfl, _, r, t, f, numsE rs, rfl, hx6, s6 _ _ ht5, ok.ok r hm, fits_ne (sd_mem sd) (ok.fit r hm), fun n hn => ⟨numsE_mem hm (ok.ok r hm) hn, hf5 n (numsE_mem hm (ok.ok r hm) hn)⟩, fun v' H7 s7 hv => k v' H7 s7 hv⟩
    · rw [filter_true] at hp6
      have hys : Paired (RowAt K H6) ys6 (rs.map (R.ren f)) := paired_mapR hp6
      exact ⟨sd, D6, ys6, _, rfl, SqL.of hy6, hys, ok2, fun v' H' s' hv => q v' H' ((s05.trans s6).trans s') hv⟩
end
end L2.My
end
section
set_option Elab.async false
set_option linter.all false
set_option autoImplicit false
set_option maxRecDepth 100000
set_option maxHeartbeats 2000000
/-! the law: its pen -/
namespace L2.My
open PySem PySem.Spec PyProof.Rows He
section
variable {P : Program} {w : World} {K : PySem.W.Frag} {mg : Str → Option Value} {base : Heap}
/-- the pen: its cells, its step (at most n), what is left of a great cell -/
def PenAt (H : Hp) (p A : Addr) (n : Nat) : Prop := ∃ (cells : List Int) (step : Nat) (great : Int), H p = some (.lst [.ref A, .int step, .int great]) ∧ H A = some (.lst (cells.map V.int)) ∧ A ≠ p ∧ step ≤ n ∧ 0 ≤ great ∧ cells.length ≤ 63
theorem PenAt.mono {H : Hp} {p A : Addr} {n m : Nat} (h : PenAt H p A n) (hm : n ≤ m) : PenAt H p A m := by
  obtain ⟨c, s, g, h1, h2, h3, h4, h5⟩ := h
  exact ⟨c, s, g, h1, h2, h3, by omega, h5⟩
theorem PenAt.same {H H' : Hp} {p A : Addr} {n : Nat} (h : PenAt H p A n) (s : Same H H') : PenAt H' p A n := by
  obtain ⟨c, st, g, h1, h2, h3⟩ := h
  exact ⟨c, st, g, s _ _ h1, s _ _ h2, h3⟩
theorem SameB.refl {p : Addr} {H : Hp} : SameB p H H := fun _ _ _ h => h
theorem SameB.trans {p : Addr} {H H1 H2 : Hp} (a : SameB p H H1) (b : SameB p H1 H2) : SameB p H H2 := fun c o hc e => b c o hc (a c o hc e)
theorem Same.b {p : Addr} {H H' : Hp} (s : Same H H') : SameB p H H' := fun c o _ e => s c o e
theorem SameB.up {p : Addr} {H H' : Hp} {xs : List V} (s : SameB p H H') (h : H p = some (.lst xs)) : Up H H' := fun c o e so => s c o (fun q => by subst q; rw [h] at e; cases e; exact so) e
def spPen (K : PySem.W.Frag) : Sp := fun vs H Q _ => ∃ (a : Addr) (ns : List Int), vs = [.ref a] ∧ SqL K H a (ns.map V.int) ∧ ∀ p A H', Same H H' → H p = none → PenAt H' p A 0 → Q (.ref p) H'
theorem cutV_ints (ns : List Int) (lo hi : Option Int) : ∃ ms : List Int, cutV (ns.map V.int) lo hi = ms.map V.int := by
  unfold cutV
  rw [← List.map_drop, ← List.map_take]
  exact ⟨_, rfl⟩
theorem cut_63 (xs : List V) : (cutV xs none (some 63)).length ≤ 63 := by
  unfold cutV
  rw [HT.sIx_none, show HT.sIx xs.length xs.length (some 63) = min 63 xs.length from HT.sIx_nat _ _ 63, List.length_take]
  omega
theorem cal_law_pen (T : Tx P K mg) : Cal P w K mg base 1 "_law_pen" (spPen K) := by
  refine ⟨_, mkFn (k := 0) T.f_law_pen sc_law_pen (fun vs H Q E h => ?_) (fun cdv A outer s H vs Q E hr h => ?_), T.g_law_pen.1, T.g_law_pen.2⟩
  · obtain ⟨a, ns, rfl, _⟩ := h
    rfl
  · obtain ⟨a, ns, rfl, ha, q⟩ := h
    refine ⟨_, (pss_one (ps_ret (pe_lst (pa_cons (pe_callTy call_list_of (by rfl) T.n_list boot_list (pa_cons (pe_slice sl_list (pv 0) po_none (po_some pe_int)) pa_nil)) (pa_cons pe_int (pa_cons pe_int pa_nil)))))), ?_⟩
    refine ⟨_, rfl, 63, rfl, a, _, rfl, ha, fun b hb => ⟨b, _, rfl, .inl (SqL.of upd_same), fun c hc => ⟨(by show 3 ≤ sizeLine; decide), fun p hp => ?_⟩⟩⟩
    have s1 := same_upd hb (o := .lst (cutV (ns.map V.int) none (some 63)))
    have s2 := s1.trans (same_upd hc (o := .lst (cutV (ns.map V.int) none (some 63))))
    obtain ⟨ms, hms⟩ := cutV_ints ns none (some 63)
    have hl := cut_63 (ns.map V.int)
    rw [hms, List.length_map] at hl
    have hcp : c ≠ p := fun e => by rw [← e, upd_same] at hp; cases hp
    exact q p c _ (Same.upd2 s2 (s2.free hp)) (s2.free hp) ⟨ms, 0, 0, upd_same, by rw [upd_ne hcp, upd_same, hms], hcp, Nat.le_refl _, Int.le_refl _, hl⟩
def spDraw : Sp := fun vs H Q _ => ∃ (p A : Addr) (n many : Nat), vs = [.ref p, .int many] ∧ PenAt H p A n ∧ n ≤ 5000 ∧ 0 < many ∧ many ≤ 1000 ∧ ∀ (d : Nat) (H' : Hp), d < many → SameB p H H' → PenAt H' p A (n + 1) → Q (.int d) H'
theorem dpInts {H : Hp} : ∀ l : List Int, DpAll K H (l.map V.int) (l.map PyData.int)
  | [] => .nil
  | n :: r => .cons (.int _) (dpInts r)
theorem shaped_ints (l : List Int) : SeqAt.shaped (.list (l.map PyData.int)) = true := by
  have e1 : PyData.canLayAll0 (l.map PyData.int) = true := by
    induction l with
    | nil => rfl
    | cons a r ih => rw [List.map_cons, PyData.canLayAll0, ih]; rfl
  have e2 : PyData.depthAll (l.map PyData.int) = 0 := by
    clear e1
    induction l with
    | nil => rfl
    | cons a r ih => rw [List.map_cons, PyData.depthAll, ih]; rfl
  unfold SeqAt.shaped
  rw [show PyData.canLay0 (.list (l.map PyData.int)) = PyData.canLayAll0 (l.map PyData.int) from rfl, e1, Bool.true_and]
  refine decide_eq_true ?_
  show PyData.depthAll (l.map PyData.int) + 1 ≤ 64
  rw [e2]; decide
theorem eqv_nil (l : List Int) : PyData.eqv (.list (l.map PyData.int)) (.list []) = decide (l = []) := by
  cases l <;> rfl
theorem toDig {x : Int} {m : Nat} (hm : 0 < m) : ∃ d : Nat, x % (m : Int) = (d : Int) ∧ d < m := by
  have h1 := Int.emod_nonneg x (show (m : Int) ≠ 0 by omega)
  have h2 := Int.emod_lt_of_pos x (show (0 : Int) < m by omega)
  exact ⟨(x % (m : Int)).toNat, by omega, by omega⟩
theorem cal_law_draw (T : Tx P K mg) : Cal P w K mg base 1 "_law_draw" spDraw := by
  refine ⟨_, mkFn (k := 0) T.f_law_draw sc_law_draw (fun vs H Q E h => ?_) (fun cdv A0 outer s H vs Q E hr h => ?_), T.g_law_draw.1, T.g_law_draw.2⟩
  · obtain ⟨p, A, n, m, rfl, _⟩ := h
    rfl
  · obtain ⟨p, A, n, m, rfl, ⟨cells, step, great, hp, hA, hne, hst, hg, hc⟩, hn, hm0, hm1, q⟩ := h
    refine ⟨_, (pss_cons (ps_if (pt_cmpR op_gt (pe_ix (ix_listK K) (pv 0) pe_int (fun _ _ => rfl)) pe_int (nomark _)) (pss_cons (ps_set (i := 2) sc_law_draw.nd rfl (by first | exact Or.inl rfl | exact Or.inr rfl) (pe_op op_mod (pe_callTy call_int1 (by rfl) T.n_int boot_int (pa_cons (pe_ix (ix_listK K) (pv 0) pe_int (fun _ _ => rfl)) pa_nil)) (pv 1))) (pss_cons (ps_asg (pe_op op_fdiv (pe_callTy call_int1 (by rfl) T.n_int boot_int (pa_cons (pe_ix (ix_listK K) (pv 0) pe_int (fun _ _ => rfl)) pa_nil)) (pv 1)) (pg_sub (pv 0) pe_int set_list)) (pss_one (ps_ret (pv 2))))) pss_nil) (pss_cons (ps_set (i := 3) sc_law_draw.nd rfl (by first | exact Or.inl rfl | exact Or.inr rfl) (pe_ix (ix_listK K) (pv 0) pe_int (fun _ _ => rfl))) (pss_cons (ps_asg (pe_op op_add (pv 3) pe_int) (pg_sub (pv 0) pe_int set_list)) (pss_cons (ps_set (i := 4) sc_law_draw.nd rfl (by first | exact Or.inl rfl | exact Or.inr rfl) (pe_op op_add (pe_op op_mul pe_int (pv 3)) pe_int)) (C8.pss_cut (ps_if (pt_cmpR (op_neD hr.units) (pe_ix (ix_listK K) (pv 0) pe_int (fun _ _ => rfl)) (pe_lst pa_nil) (nomark _)) (pss_one (ps_set (i := 4) sc_law_draw.nd rfl (by first | exact Or.inl rfl | exact Or.inr rfl) (pe_ix (ix_listK K) (pe_ix (ix_listK K) (pv 0) pe_int (fun _ _ => rfl)) (pe_op op_mod (pe_callTy call_int1 (by rfl) T.n_int boot_int (pa_cons (pv 3) pa_nil)) (pe_callB (call_lenK K) (by rfl) T.n_len boot_len (pa_cons (pe_ix (ix_listK K) (pv 0) pe_int (fun _ _ => rfl)) pa_nil))) (fun _ _ => rfl)))) pss_nil) (C8.pss_cut (ps_if (PW.pt (pw_and (pt_cmpR op_lt (pv 3) (pe_callB (call_lenK K) (by rfl) T.n_len boot_len (pa_cons (pe_ix (ix_listK K) (pv 0) pe_int (fun _ _ => rfl)) pa_nil)) (nomark _)) (pw_and1 (pt_cmpR op_ge (pe_callB call_abs (by rfl) T.n_abs boot_abs (pa_cons (pv 4) pa_nil)) (pe_op op_pow pe_int pe_int) (nomark _))))) (pss_cons (ps_set (i := 5) sc_law_draw.nd rfl (by first | exact Or.inl rfl | exact Or.inr rfl) (pe_op op_add (pe_op op_mul pe_int (pe_op op_sub (pe_callB call_abs (by rfl) T.n_abs boot_abs (pa_cons (pv 4) pa_nil)) (pe_op op_pow pe_int pe_int))) (pe_callTy call_int1 (by rfl) T.n_int boot_int (pa_cons (pe_cmpR op_lt (pv 4) pe_int (nomark _)) pa_nil)))) (pss_cons (ps_asg (pe_op op_fdiv (pe_callTy call_int1 (by rfl) T.n_int boot_int (pa_cons (pv 5) pa_nil)) (pv 1)) (pg_sub (pv 0) pe_int set_list)) (pss_one (ps_ret (pe_op op_mod (pe_callTy call_int1 (by rfl) T.n_int boot_int (pa_cons (pv 5) pa_nil)) (pv 1)))))) pss_nil) (pss_cons (ps_set (i := 6) sc_law_draw.nd rfl (by first | exact Or.inl rfl | exact Or.inr rfl) (pe_op op_mod (pe_callTy call_int1 (by rfl) T.n_int boot_int (pa_cons (pe_op op_pow (pe_op op_add (pe_op op_add (pe_op op_mod (pe_callTy call_int1 (by rfl) T.n_int boot_int (pa_cons (pv 4) pa_nil)) pe_int) (pe_op op_mul pe_int (pv 3))) pe_int) pe_int) pa_nil)) pe_int)) (pss_cons (ps_set (i := 6) sc_law_draw.nd rfl (by first | exact Or.inl rfl | exact Or.inr rfl) (pe_op op_mod (pe_callTy call_int1 (by rfl) T.n_int boot_int (pa_cons (pe_op op_pow (pe_op op_add (pe_op op_add (pe_op op_mul (pv 6) (pe_op op_add (pe_op op_mul pe_int (pv 3)) pe_int)) (pe_op op_mul (pe_op op_mul pe_int (pv 3)) (pv 3))) pe_int) pe_int) pa_nil)) pe_int)) (pss_one (ps_ret (pe_op op_mod (pe_callTy call_int1 (by rfl) T.n_int boot_int (pa_cons (pe_op op_fdiv (pv 6) pe_int) pa_nil)) (pv 1)))))))))))), ?_⟩
    have fk : ∀ (b : Bool) (A B : Prop), b = false → B → if b = true then A else B := fun b A B h a => by rw [h]; exact iteF a
    have tk : ∀ (b : Bool) (A B : Prop), b = true → A → if b = true then A else B := fun b A B h a => by rw [h]; exact iteT a
    have hpL : SqL K H p [.ref A, .int step, .int great] := SqL.of hp
    refine ⟨_, rfl, p, _, _, _, rfl, rfl, hpL, atI_nat (j := 2) rfl, _, _, rfl, rfl, _, rfl, ?_⟩
    by_cases hgp : 0 < great
    · refine tk _ _ _ (decide_eq_true hgp) ?_
      obtain ⟨d, hd, hdm⟩ := toDig (x := great) hm0
      refine ⟨_, rfl, p, _, _, _, rfl, rfl, hpL, atI_nat (j := 2) rfl, .inl ⟨_, rfl, _, rfl, _, _, rfl, rfl, by omega, ?_⟩⟩
      refine ⟨_, rfl, p, _, _, _, rfl, rfl, hpL, atI_nat (j := 2) rfl, .inl ⟨_, rfl, _, rfl, _, _, rfl, rfl, ⟨by omega, by omega⟩, ?_⟩⟩
      refine ⟨_, rfl, p, _, _, 2, rfl, rfl, hp, rfl, _, rfl, ?_⟩
      show Q (.int (great % (m : Int))) _
      rw [hd]
      exact q d _ hdm (fun c o hc e => by rw [upd_ne hc]; exact e) ⟨cells, step, great / m, upd_same, by rw [upd_ne hne]; exact hA, hne, by omega, Int.ediv_nonneg hg (by omega), hc⟩
    · refine fk _ _ _ (decide_eq_false hgp) ?_
      refine ⟨_, rfl, p, _, _, _, rfl, rfl, hpL, atI_nat (j := 1) rfl, ?_⟩
      refine ⟨_, rfl, _, _, rfl, rfl, _, rfl, p, _, _, 1, rfl, rfl, hp, rfl, ?_⟩
      have hp2 : (upd H p (.lst [.ref A, .int ((step : Int) + 1), .int great])) p = some (.lst [.ref A, .int ((step : Int) + 1), .int great]) := upd_same
      have hA2 : (upd H p (.lst [.ref A, .int ((step : Int) + 1), .int great])) A = some (.lst (cells.map V.int)) := by rw [upd_ne hne]; exact hA
      have sb : SameB p H (upd H p (.lst [.ref A, .int ((step : Int) + 1), .int great])) := fun c o hc e => by rw [upd_ne hc]; exact e
      show tSeq _ _ _ _ (upd H p (.lst [.ref A, .int ((step : Int) + 1), .int great]))
      generalize upd H p (.lst [.ref A, .int ((step : Int) + 1), .int great]) = H2 at hp2 hA2 sb
      have hpL2 : SqL K H2 p [.ref A, .int ((step : Int) + 1), .int great] := SqL.of hp2
      have hAL2 : SqL K H2 A (cells.map V.int) := SqL.of hA2
      have hs5 : (step : Int) ≤ 5000 := by omega
      -- cell
      refine ⟨_, rfl, _, _, rfl, rfl, .inl ⟨by omega, by omega⟩, _, _, rfl, rfl, ?_⟩
      refine ⟨fun σ' H' => Same H2 H' ∧ ∃ c : Int, σ' = [some (.ref p), some (.int m), none, some (.int step), some (.int c), none, none], ?_, ?_⟩
      · refine ⟨_, rfl, p, _, _, _, rfl, rfl, hpL2, atI_nat (j := 0) rfl, Nat.zero_le _, fun z hz => ?_⟩
        have sz : Same H2 (upd H2 z (.lst [])) := same_upd hz
        refine ⟨_, _, .lst (sz.seq hAL2) (dpInts cells), .lst (SqL.of upd_same) .nil, shaped_ints cells, shaped_ints [], _, rfl, ?_⟩
        rw [eqv_nil]
        by_cases h0 : cells = []
        · exact fk _ _ _ (by rw [decide_eq_true h0]; rfl) ⟨sz, _, rfl⟩
        · refine tk _ _ _ (by rw [decide_eq_false h0]; rfl) ?_
          have hpos : 0 < cells.length := List.length_pos_iff.mpr h0
          obtain ⟨i, hi, him⟩ := toDig (x := (step : Int)) hpos
          have hlen : (cells.map V.int).length = cells.length := List.length_map ..
          refine ⟨_, rfl, p, _, _, _, rfl, rfl, sz.seq hpL2, atI_nat (j := 0) rfl, _, rfl, .inl ⟨_, rfl, _, rfl, p, _, _, _, rfl, rfl, sz.seq hpL2, atI_nat (j := 0) rfl, A, _, rfl, .inl (sz.seq hAL2), _, _, rfl, rfl, by rw [hlen]; omega, ?_⟩⟩
          refine ⟨A, cells.map V.int, (i : Int), .int cells[i], rfl, by rw [hlen]; exact congrArg V.int hi, sz.seq hAL2, atI_nat (by rw [List.getElem?_map, List.getElem?_eq_getElem him]; rfl), ?_⟩
          exact ⟨sz, _, rfl⟩
      rintro σ' H3 ⟨s3, c, rfl⟩
      have hp3 := s3 _ _ hp2
      have hA3 := s3 _ _ hA2
      have hpL3 : SqL K H3 p [.ref A, .int ((step : Int) + 1), .int great] := SqL.of hp3
      have hAL3 : SqL K H3 A (cells.map V.int) := SqL.of hA3
      have sb3 : SameB p H H3 := sb.trans (Same.b s3)
      have pen3 : PenAt H3 p A (n + 1) := ⟨cells, step + 1, great, hp3, hA3, hne, by omega, hg, hc⟩
      refine ⟨fun σ' H' => H' = H3 ∧ σ' = [some (.ref p), some (.int m), none, some (.int step), some (.int c), none, none], ?_, ?_⟩
      · refine ⟨_, rfl, _, rfl, p, _, _, _, rfl, rfl, hpL3, atI_nat (j := 0) rfl, A, _, rfl, .inl hAL3, _, _, rfl, rfl, _, rfl, ?_⟩
        refine ite2 (fun _ => ?_) (fun _ => fk _ _ _ rfl ⟨rfl, rfl⟩)
        refine ⟨_, rfl, c, rfl, _, _, rfl, rfl, ⟨by omega, by omega, by decide⟩, _, _, rfl, rfl, _, rfl, ?_⟩
        refine ite2 (fun hge => ?_) (fun _ => ⟨rfl, rfl⟩)
        have hge := of_decide_eq_true hge
        refine ⟨_, rfl, c, rfl, _, _, rfl, rfl, ⟨by omega, by omega, by decide⟩, _, _, rfl, rfl, _, _, rfl, rfl, .inl ⟨by omega, by omega⟩, ?_⟩
        refine ⟨_, rfl, _, _, rfl, rfl, .inr ⟨_, rfl, _, _, rfl, rfl, ?_⟩⟩
        have hG : ∃ G : Int, 0 ≤ G ∧ 2 * ((if c < 0 then -c else c) - 10 ^ (18 : Int).toNat) + (if decide (c < 0) = true then 1 else 0) = G := by
          refine ⟨_, ?_, rfl⟩
          split <;> omega
        obtain ⟨G, hG0, hG⟩ := hG
        show tSeq _ _ _ ([some (.ref p), some (.int m), none, some (.int step), some (.int c), none, none].set 5 (some (.int (2 * ((if c < 0 then -c else c) - 10 ^ (18 : Int).toNat) + (if decide (c < 0) = true then 1 else 0))))) H3
        rw [hG]
        obtain ⟨d, hd, hdm⟩ := toDig (x := G) hm0
        refine ⟨_, rfl, .inl ⟨_, rfl, _, rfl, _, _, rfl, rfl, ⟨by omega, by omega⟩, ?_⟩⟩
        refine ⟨_, rfl, p, _, _, 2, rfl, rfl, hp3, rfl, ?_⟩
        refine ⟨_, rfl, .inl ⟨_, rfl, _, rfl, _, _, rfl, rfl, by omega, ?_⟩⟩
        show Q (.int (G % (m : Int))) _
        rw [hd]
        exact q d _ hdm (fun c o hc e => by rw [upd_ne hc]; exact sb3 c o hc e) ⟨cells, step + 1, G / m, upd_same, by rw [upd_ne hne]; exact hA3, hne, by omega, Int.ediv_nonneg hG0 (by omega), hc⟩
      rintro σ' H' ⟨rfl, rfl⟩
      -- the mixing
      have b1 := Int.emod_nonneg c (show (2147483549 : Int) ≠ 0 by omega)
      have b2 := Int.emod_lt_of_pos c (show (0 : Int) < 2147483549 by omega)
      refine ⟨_, rfl, .inl ⟨_, rfl, _, _, rfl, rfl, by omega, _, rfl, _, _, rfl, rfl, .inl ⟨by omega, by omega⟩, _, _, rfl, rfl, _, _, rfl, rfl, _, _, rfl, rfl, ⟨by omega, by omega, ?_⟩, .inl ⟨_, rfl, _, _, rfl, rfl, by omega, ?_⟩⟩⟩
      · have : (2 : Nat) ^ 64 = 18446744073709551616 := by decide
        omega
      show tSeq _ _ _ ([some (.ref p), some (.int m), none, some (.int step), some (.int c), none, none].set 6 (some (.int (((c % 2147483549 + 48945 * (step : Int) + 247) ^ (5 : Int).toNat) % 2147483497)))) _
      generalize hM : ((c % 2147483549 + 48945 * (step : Int) + 247) ^ (5 : Int).toNat) % 2147483497 = M
      have m1 : 0 ≤ M := by rw [← hM]; exact Int.emod_nonneg _ (by omega)
      have m2 : M < 2147483497 := by rw [← hM]; exact Int.emod_lt_of_pos _ (by omega)
      have p64 : (2 : Nat) ^ 64 = 18446744073709551616 := by decide
      have x1 : M * (2 * (step : Int) + 129) ≤ 2147483497 * 10129 := Int.mul_le_mul (by omega) (by omega) (by omega) (by omega)
      have x2 : 0 ≤ M * (2 * (step : Int) + 129) := Int.mul_nonneg m1 (by omega)
      have x3 : 42211 * (step : Int) * (step : Int) ≤ 42211 * 5000 * 5000 := Int.mul_le_mul (by omega) (by omega) (by omega) (by omega)
      have x4 : 0 ≤ 42211 * (step : Int) * (step : Int) := Int.mul_nonneg (by omega) (by omega)
      refine ⟨_, rfl, _, rfl, _, _, rfl, rfl, .inl ⟨by omega, by omega⟩, _, _, rfl, rfl, _, _, rfl, rfl, .inl ⟨by omega, by omega⟩, _, rfl, _, _, rfl, rfl, .inl ⟨by omega, by omega⟩, _, rfl, _, _, rfl, rfl, .inl ⟨by omega, by omega⟩, _, _, rfl, rfl, _, _, rfl, rfl, _, _, rfl, rfl, ⟨by omega, by omega, ?_⟩, .inl ⟨_, rfl, _, _, rfl, rfl, by omega, ?_⟩⟩
      · show (M * (2 * (step : Int) + 129) + 42211 * (step : Int) * (step : Int) + 131).natAbs < 2 ^ 64
        omega
      obtain ⟨d, hd, hdm⟩ := toDig (x := ((M * (2 * (step : Int) + 129) + 42211 * (step : Int) * (step : Int) + 131) ^ (3 : Int).toNat % 2147483543) / 32) hm0
      refine ⟨_, rfl, _, _, rfl, rfl, ⟨by omega, by omega⟩, .inl ⟨_, rfl, _, rfl, _, _, rfl, rfl, by omega, ?_⟩⟩
      show Q (.int (((M * (2 * (step : Int) + 129) + 42211 * (step : Int) * (step : Int) + 131) ^ (3 : Int).toNat % 2147483543) / 32 % (m : Int))) _
      rw [hd]
      exact q d _ hdm sb3 pen3
/-! ### pick -/
def spPick (K : PySem.W.Frag) : Sp := fun vs H Q _ => ∃ (p A l : Addr) (n : Nat) (xs : List V), vs = [.ref p, .ref l] ∧ PenAt H p A n ∧ n ≤ 5000 ∧ H l = some (.lst xs) ∧ l ≠ p ∧ xs ≠ [] ∧ xs.length ≤ 1000 ∧ ∀ (x : V) (H' : Hp), x ∈ xs → SameB p H H' → PenAt H' p A (n + 1) → Q x H'
theorem cal_law_pick (T : Tx P K mg) : Cal P w K mg base 2 "_law_pick" (spPick K) := by
  refine ⟨_, mkFn (k := 1) T.f_law_pick sc_law_pick (fun vs H Q E h => ?_) (fun cdv A0 outer s H vs Q E hr h => ?_), T.g_law_pick.1, T.g_law_pick.2⟩
  · obtain ⟨p, A, l, n, xs, rfl, _⟩ := h
    rfl
  · obtain ⟨p, A, l, n, xs, rfl, hpen, hn, hl, hlp, h0, hz, q⟩ := h
    refine ⟨_, (pss_one (ps_ret (pe_ix (ix_listK K) (pv 1) (pe_cal (cal_law_draw T) hr (by decide) (by rfl) (pa_cons (pv 0) (pa_cons (pe_callB (call_lenK K) (by rfl) T.n_len boot_len (pa_cons (pv 1) pa_nil)) pa_nil))) (fun _ _ => rfl)))), ?_⟩
    have hpos := List.length_pos_iff.mpr h0
    refine ⟨_, rfl, _, rfl, _, rfl, l, xs, rfl, .inl (SqL.of hl), p, A, n, xs.length, rfl, hpen, hn, hpos, hz, fun d H' hd sb hpen' => ?_⟩
    exact ⟨l, xs, _, xs[d], rfl, rfl, SqL.of (sb _ _ hlp hl), atI_nat (List.getElem?_eq_getElem hd), q _ _ (List.getElem_mem hd) sb hpen'⟩
end
end L2.My
end
section
set_option Elab.async false
set_option linter.all false
set_option autoImplicit false
set_option maxRecDepth 100000
set_option maxHeartbeats 2000000
/-! the law: its deeds -/
namespace L2.My
open PySem PySem.Spec PyProof.Rows He SX
section
variable {P : Program} {w : World} {K : PySem.W.Frag} {mg : Str → Option Value} {base : Heap}
def rAddS : R2 := fun x y H Q => ∃ i j, x = .str i ∧ y = .str j ∧ i.length + j.length ≤ sizeLine ∧ Q (.str (i ++ j)) H
theorem op_addS {X : Cx} : OpR X (binaryOp .Add) rAddS := op_add_str
def has (i j : Str) : Bool := !(Builtin.Str.occurrences j i 0 j.length 1).isEmpty
def rInT : R2 := fun x y H Q => ∃ i j, x = .str i ∧ y = .str j ∧ Q (.bl (has i j)) H
theorem op_inS {X : Cx} : OpR X (compareOp .In) rInT := op_in_str
theorem has_mid (a b y : Str) : has y (a ++ (y ++ b)) = true := by
  unfold has
  rw [StrLaws.found_iff]
  refine ⟨a.length, ?_, ?_⟩
  · rw [s_len, s_len]; omega
  · have hl : ∀ x : Str, x.length = x.cps.toList.length := fun x => Array.length_toList.symm
    have hc : ∀ x z : Str, (x ++ z).cps.toList = x.cps.toList ++ z.cps.toList := fun x z => by
      conv => lhs; rw [← S_tl x, ← S_tl z, S_cat]
    rw [StrLaws.subAt_eq, hl a, hl y, hc, hc, List.drop_left, List.take_left]
    exact beq_self_eq_true _
theorem has_right {y u a : Str} (h : has y u = true) : has y (a ++ u) = true := by
  have hl : ∀ x : Str, x.length = x.cps.toList.length := fun x => Array.length_toList.symm
  have hc : ∀ x z : Str, (x ++ z).cps.toList = x.cps.toList ++ z.cps.toList := fun x z => by
    conv => lhs; rw [← S_tl x, ← S_tl z, S_cat]
  unfold has at h ⊢
  rw [StrLaws.found_iff] at h ⊢
  obtain ⟨i, h1, h2⟩ := h
  refine ⟨a.length + i, by rw [s_len]; omega, ?_⟩
  rw [StrLaws.subAt_eq] at h2 ⊢
  rw [hc, hl a, ← List.drop_drop, List.drop_left]
  exact h2
theorem has_join {y t : Str} {z : Str} (ht : ∃ b, t = y ++ b) : ∀ {l : List Str}, t ∈ l → has y (Txt.join z l) = true
  | [], h => by cases h
  | [x], h => by
    obtain ⟨b, e⟩ := ht
    have := List.mem_singleton.mp h
    subst this
    rw [join_one, e, ← s_nil (y ++ b)]
    exact has_mid _ _ _
  | x :: u :: r, h => by
    rw [join_two]
    rcases List.mem_cons.mp h with rfl | h
    · obtain ⟨b, rfl⟩ := ht
      rw [← s_nil (y ++ b ++ _), s_assoc y b]
      exact has_mid _ _ _
    · exact has_right (has_right (has_join ht h))
theorem txt2' (v x : Str) : Txt.join " " [v, x] = v ++ " " ++ x := by
  rw [join_flat, flat_cons, flat, s_nil', s_assoc]
theorem txt3' (v x y : Str) : Txt.join " " [v, x, y] = v ++ " " ++ x ++ " " ++ y := by
  rw [join_flat, flat_cons, flat_cons, flat, s_nil']
  simp only [s_assoc]
def VL : Sd → List V
  | .snd => [V.str "send", V.str "move", V.str "clear", V.str "take", V.str "send"]
  | .rcv => [V.str "out", V.str "answer", V.str "move", V.str "clear", V.str "out", V.str "put"]
theorem VL_mem {s : Sd} {x : V} (hx : x ∈ VL s) : ∃ k : Kd, x = .str k.verb ∧ s.name ∈ k.sides := by
  cases s
  · simp only [VL, List.mem_cons, List.not_mem_nil, or_false] at hx
    rcases hx with rfl | rfl | rfl | rfl | rfl
    · exact ⟨.send, rfl, by decide⟩
    · exact ⟨.move, rfl, by decide⟩
    · exact ⟨.clear, rfl, by decide⟩
    · exact ⟨.take, rfl, by decide⟩
    · exact ⟨.send, rfl, by decide⟩
  · simp only [VL, List.mem_cons, List.not_mem_nil, or_false] at hx
    rcases hx with rfl | rfl | rfl | rfl | rfl | rfl
    · exact ⟨.out, rfl, by decide⟩
    · exact ⟨.answer, rfl, by decide⟩
    · exact ⟨.move, rfl, by decide⟩
    · exact ⟨.clear, rfl, by decide⟩
    · exact ⟨.out, rfl, by decide⟩
    · exact ⟨.put, rfl, by decide⟩
def spDeed (K : PySem.W.Frag) : Sp := fun vs H Q _ => ∃ (p A pl : Addr) (n : Nat) (s : Sd) (hears : Bool) (ds : List D), vs = [.ref p, .str s.name, .bl hears, .ref pl] ∧ PenAt H p A n ∧ n + 3 ≤ 5000 ∧ H pl = some (.lst (strVs (ds.map D.txt))) ∧ pl ≠ p ∧ (∀ d ∈ ds, d.ok) ∧ ds.length ≤ 8 ∧
  ∀ (d : D) (H' : Hp), d.ok → d.fits s.name = true → (hears = false → d.kd ≠ .put) → (d.kd = .take → ∀ e ∈ ds, e.kd ≠ .take) → SameB p H H' → PenAt H' p A (n + 3) → Q (.str d.txt) H'
theorem cal_law_deed (T : Tx P K mg) : Cal P w K mg base 3 "_law_deed" (spDeed K) := by
  refine ⟨_, mkFn (k := 2) T.f_law_deed sc_law_deed (fun vs H Q E h => ?_) (fun cdv A0 outer σ H vs Q E hr h => ?_), T.g_law_deed.1, T.g_law_deed.2⟩
  · obtain ⟨p, A, pl, n, s, he, ds, rfl, _⟩ := h
    rfl
  · obtain ⟨p, A, pl, n, s, he, ds, rfl, hpen, hn, hpl, hne, ok, h8, q⟩ := h
    refine ⟨_, (C8.pss_cut (ps_set (i := 4) sc_law_deed.nd rfl (by first | exact Or.inl rfl | exact Or.inr rfl) (pe_ifExp (pt_cmpR op_eq (pv 1) pe_str (nomark _)) (pe_lst (pa_cons pe_str (pa_cons pe_str (pa_cons pe_str (pa_cons pe_str (pa_cons pe_str pa_nil)))))) (pe_lst (pa_cons pe_str (pa_cons pe_str (pa_cons pe_str (pa_cons pe_str (pa_cons pe_str (pa_cons pe_str pa_nil))))))))) (pss_cons (ps_par (i := 5) (j := 6) rfl sc_law_deed.nd rfl rfl (by decide) rfl rfl (pa_cons (pe_cal (cal_law_pick T) hr (by decide) (by rfl) (pa_cons (pv 0) (pa_cons (pv 4) pa_nil))) (pa_cons (pe_cal (cal_law_draw T) hr (by decide) (by rfl) (pa_cons (pv 0) (pa_cons pe_int pa_nil))) pa_nil)) (by rfl)) (C8.pss_cut (ps_if (PW.pt (pw_or (PW.pt (pw_and (pt_cmpR op_eq (pv 5) pe_str (nomark _)) (pw_and1 (pt_not (pt_val (pv 2)))))) (pw_or1 (PW.pt (pw_and (pt_cmpR op_eq (pv 5) pe_str (nomark _)) (pw_and1 (pt_cmpR op_inS pe_str (pe_join pe_str (pv 3)) (by with_unfolding_all rfl)))))))) (pss_one (ps_set (i := 5) sc_law_deed.nd rfl (by first | exact Or.inl rfl | exact Or.inr rfl) pe_str)) pss_nil) (pss_cons (ps_if (pt_cmpR op_eq (pv 5) pe_str (nomark _)) (pss_one (ps_ret (pe_op op_addS pe_str (pe_callTy call_str_int (by rfl) T.n_str boot_str (pa_cons (pe_cal (cal_law_draw T) hr (by decide) (by rfl) (pa_cons (pv 0) (pa_cons pe_int pa_nil))) pa_nil))))) pss_nil) (pss_cons (ps_if (pt_cmpR op_eq (pv 5) pe_str (nomark _)) (pss_one (ps_ret (pe_op op_addS (pe_op op_addS (pe_op op_addS pe_str (pe_callTy call_str_int (by rfl) T.n_str boot_str (pa_cons (pv 6) pa_nil))) pe_str) (pe_callTy call_str_int (by rfl) T.n_str boot_str (pa_cons (pe_cal (cal_law_draw T) hr (by decide) (by rfl) (pa_cons (pv 0) (pa_cons pe_int pa_nil))) pa_nil))))) pss_nil) (pss_cons (ps_if (pt_cmpR op_eq (pv 5) pe_str (nomark _)) (pss_one (ps_ret (pe_op op_addS (pe_op op_addS (pe_op op_addS pe_str (pe_callTy call_str_int (by rfl) T.n_str boot_str (pa_cons (pv 6) pa_nil))) pe_str) (pe_callTy call_str_int (by rfl) T.n_str boot_str (pa_cons (pe_op op_mod (pe_callTy call_int1 (by rfl) T.n_int boot_int (pa_cons (pe_op op_add (pe_op op_add (pv 6) pe_int) (pe_cal (cal_law_draw T) hr (by decide) (by rfl) (pa_cons (pv 0) (pa_cons pe_int pa_nil)))) pa_nil)) pe_int) pa_nil))))) pss_nil) (pss_one (ps_ret (pe_op op_addS (pe_op op_addS (pv 5) pe_str) (pe_callTy call_str_int (by rfl) T.n_str boot_str (pa_cons (pv 6) pa_nil))))))))))), ?_⟩
    have fk : ∀ (b : Bool) (A B : Prop), b = false → B → if b = true then A else B := fun b A B h a => by rw [h]; exact iteF a
    have tk : ∀ (b : Bool) (A B : Prop), b = true → A → if b = true then A else B := fun b A B h a => by rw [h]; exact iteT a
    refine ⟨fun σ' H' => Same H H' ∧ ∃ l, σ' = [some (.ref p), some (.str s.name), some (.bl he), some (.ref pl), some (.ref l), none, none] ∧ H l = none ∧ H' l = some (.lst (VL s)), ?_, ?_⟩
    · refine ⟨_, rfl, rfl, _, rfl, ?_⟩
      cases s
      · refine tk _ _ _ (by decide) ⟨by show 5 ≤ sizeLine; decide, fun l hl => ?_⟩
        exact ⟨same_upd hl, l, rfl, hl, upd_same⟩
      · refine fk _ _ _ (by decide) ⟨by show 6 ≤ sizeLine; decide, fun l hl => ?_⟩
        exact ⟨same_upd hl, l, rfl, hl, upd_same⟩
    rintro σ' H1 ⟨s1, l, rfl, hl0, hl⟩
    have hlp : l ≠ p := fun e => by
      obtain ⟨_, _, _, hp, _⟩ := hpen
      rw [← e, hl0] at hp; cases hp
    refine ⟨_, rfl, _, rfl, p, A, l, n, VL s, rfl, hpen.same s1, by omega, hl, hlp, by cases s <;> exact List.cons_ne_nil _ _, by cases s <;> decide, fun x H2 hx sb2 pen2 => ?_⟩
    obtain ⟨k, rfl, hk⟩ := VL_mem hx
    refine ⟨_, rfl, p, A, n + 1, 3, rfl, pen2, by omega, by decide, by decide, fun b H3 hb sb3 pen3 => ?_⟩
    have sb : SameB p H H3 := (Same.b s1).trans (sb2.trans sb3)
    have hpl3 := sb _ _ hne hpl
    refine ⟨_, _, rfl, fun σ' H' => H' = H3 ∧ ∃ k' : Kd, s.name ∈ k'.sides ∧ (he = false → k' ≠ .put) ∧ (k' = .take → ∀ e ∈ ds, e.kd ≠ .take) ∧ σ' = [some (.ref p), some (.str s.name), some (.bl he), some (.ref pl), some (.ref l), some (.str k'.verb), some (.int b)], ?_, ?_⟩
    · have eqP : decide (V.str k.verb = V.str "put") = decide (k = .put) := by cases k <;> decide
      have eqT : decide (V.str k.verb = V.str "take") = decide (k = .take) := by cases k <;> decide
      have cl : s.name ∈ Kd.clear.sides := by cases s <;> decide
      have done : (he = false → k ≠ .put) → (k = .take → ∀ e ∈ ds, e.kd ≠ .take) → ∃ k' : Kd, s.name ∈ k'.sides ∧ (he = false → k' ≠ .put) ∧ (k' = .take → ∀ e ∈ ds, e.kd ≠ .take) ∧ [some (V.ref p), some (.str s.name), some (.bl he), some (.ref pl), some (.ref l), some (.str k.verb), some (.int b)] = [some (V.ref p), some (.str s.name), some (.bl he), some (.ref pl), some (.ref l), some (.str k'.verb), some (.int b)] := fun h1 h2 => ⟨k, hk, h1, h2, rfl⟩
      have clr : ∃ k' : Kd, s.name ∈ k'.sides ∧ (he = false → k' ≠ .put) ∧ (k' = .take → ∀ e ∈ ds, e.kd ≠ .take) ∧ [some (V.ref p), some (.str s.name), some (.bl he), some (.ref pl), some (.ref l), some (.str "clear"), some (.int b)] = [some (V.ref p), some (.str s.name), some (.bl he), some (.ref pl), some (.ref l), some (.str k'.verb), some (.int b)] := ⟨.clear, cl, (fun _ h => by cases h), (fun h => by cases h), rfl⟩
      refine ⟨_, rfl, rfl, _, rfl, ?_⟩
      by_cases hP : k = .put
      · subst hP
        refine tk _ _ _ (by decide) ⟨_, rfl, _, rfl, ?_⟩
        cases he
        · exact iteT (iteT ⟨rfl, clr⟩)
        · refine iteF ⟨_, rfl, rfl, _, rfl, ?_⟩
          exact fk _ _ _ (by decide) (iteF ⟨rfl, done (fun h => by cases h) (fun h => by cases h)⟩)
      · refine fk _ _ _ (by rw [eqP]; exact decide_eq_false hP) ⟨_, rfl, rfl, _, rfl, ?_⟩
        by_cases hT : k = .take
        · refine tk _ _ _ (by rw [eqT]; exact decide_eq_true hT) ⟨⟨_, rfl⟩, _, rfl, _, pl, ds.map D.txt, rfl, rfl, .inl (SqL.of hpl3), ?_, _, _, rfl, rfl, _, rfl, ?_⟩
          · have := sum_len (l := ds.map D.txt) (m := 20) fun x hx => by
              obtain ⟨y, hy2, rfl⟩ := List.mem_map.mp hx
              exact D.txt_len (ok y hy2)
            have e1 : (" " : Str).length = 1 := by decide
            rw [List.length_map] at this ⊢
            rw [e1]
            omega
          · cases hh : has "take" (Txt.join " " (ds.map D.txt))
            · refine iteF ⟨rfl, done (fun _ => hP) fun _ e he' hek => ?_⟩
              have : has "take" (Txt.join " " (ds.map D.txt)) = true := has_join (t := e.txt) (by
                cases e
                case take bb => exact ⟨flat [num bb], join_flat "take" [num bb]⟩
                case put => exact absurd (show Kd.put = .take from hek) (by decide)
                case out => exact absurd (show Kd.out = .take from hek) (by decide)
                case clear => exact absurd (show Kd.clear = .take from hek) (by decide)
                case send => exact absurd (show Kd.send = .take from hek) (by decide)
                case move => exact absurd (show Kd.move = .take from hek) (by decide)
                case answer => exact absurd (show Kd.answer = .take from hek) (by decide)) (List.mem_map_of_mem he')
              rw [hh] at this; cases this
            · exact iteT ⟨rfl, clr⟩
        · exact fk _ _ _ (by rw [eqT]; exact decide_eq_false hT) (iteF ⟨rfl, done (fun _ => hP) (fun h => absurd h hT)⟩)
    have nl : ∀ m : Nat, m ≤ 24 → (Str.ofString (toString (m : Int))).length ≤ 3 := fun m h => num_len (n := m) (by omega)
    have l1 : (" " : Str).length = 1 := by decide
    have l7 : ("answer " : Str).length = 7 := by decide
    have l5 : ("send " : Str).length = 5 := by decide
    have l5' : ("move " : Str).length = 5 := by decide
    rintro σ' H' ⟨rfl, k', hk', hput, htk, rfl⟩
    have eqA : decide (V.str k'.verb = V.str "answer") = decide (k' = .answer) := by cases k' <;> decide
    have eqS : decide (V.str k'.verb = V.str "send") = decide (k' = .send) := by cases k' <;> decide
    have eqM : decide (V.str k'.verb = V.str "move") = decide (k' = .move) := by cases k' <;> decide
    refine ⟨_, rfl, rfl, _, rfl, ?_⟩
    by_cases hA : k' = .answer
    · subst hA
      refine tk _ _ _ (by decide) ?_
      refine ⟨_, rfl, p, A, n + 2, 6, rfl, pen3, by omega, by decide, by decide, fun m H4 hm sb4 pen4 => ?_⟩
      refine ⟨_, rfl, log_small (by omega), _, _, rfl, rfl, ?_, ?_⟩
      · refine le_line ?_
        rw [l7]; have := nl m (by omega); omega
      · have e := q (.answer m) H4 (by show m ≤ 5; omega) (by cases s; exact absurd hk' (by decide); rfl) (fun _ h => by cases h) (fun h => by cases h) (sb.trans sb4) pen4
        rw [show (D.answer m).txt = "answer " ++ num m from by
          rw [show (D.answer m).txt = _ from txt2' "answer" (num m)]; rfl] at e
        exact e
    refine fk _ _ _ (by rw [eqA]; exact decide_eq_false hA) ?_
    refine ⟨_, rfl, rfl, _, rfl, ?_⟩
    by_cases hS : k' = .send
    · subst hS
      refine tk _ _ _ (by decide) ?_
      refine ⟨_, rfl, _, rfl, log_small (by omega), _, _, rfl, rfl, ?_, _, _, rfl, rfl, ?_, ?_⟩
      · refine le_line ?_
        rw [l5]; have := nl b (by omega); omega
      · refine le_line ?_
        rw [s_len, l5, l1]; have := nl b (by omega); omega
      refine ⟨_, rfl, p, A, n + 2, 6, rfl, pen3, by omega, by decide, by decide, fun m H4 hm sb4 pen4 => ?_⟩
      refine ⟨_, rfl, log_small (by omega), _, _, rfl, rfl, ?_, ?_⟩
      · refine le_line ?_
        rw [s_len, s_len, l5, l1]; have := nl b (by omega); have := nl m (by omega); omega
      · have e := q (.send b m) H4 ⟨by omega, by omega⟩ (by cases s; rfl; exact absurd hk' (by decide)) (fun _ h => by cases h) (fun h => by cases h) (sb.trans sb4) pen4
        rw [show (D.send b m).txt = "send " ++ num b ++ " " ++ num m from by
          rw [show (D.send b m).txt = _ from txt3' "send" (num b) (num m)]; rfl] at e
        exact e
    refine fk _ _ _ (by rw [eqS]; exact decide_eq_false hS) ?_
    refine ⟨_, rfl, rfl, _, rfl, ?_⟩
    by_cases hM : k' = .move
    · subst hM
      refine tk _ _ _ (by decide) ?_
      refine ⟨_, rfl, _, rfl, log_small (by omega), _, _, rfl, rfl, ?_, _, _, rfl, rfl, ?_, ?_⟩
      · refine le_line ?_
        rw [l5']; have := nl b (by omega); omega
      · refine le_line ?_
        rw [s_len, l5', l1]; have := nl b (by omega); omega
      refine ⟨_, rfl, _, _, rfl, rfl, ?_⟩
      refine ⟨_, rfl, p, A, n + 2, 2, rfl, pen3, by omega, by decide, by decide, fun m H4 hm sb4 pen4 => ?_⟩
      refine ⟨_, _, rfl, rfl, .inl ⟨_, rfl, _, _, rfl, rfl, by show (0 : Int) < 3; decide, ?_⟩⟩
      obtain ⟨t, ht⟩ : ∃ t : Nat, ((b : Int) + 1 + (m : Int)) % 3 = (t : Int) := ⟨(b + 1 + m) % 3, by omega⟩
      refine ⟨_, rfl, by rw [ht]; exact log_small (by omega), _, _, rfl, rfl, ?_, ?_⟩
      · rw [ht]
        refine le_line ?_
        rw [s_len, s_len, l5', l1]; have := nl b (by omega); have := nl t (by omega); omega
      · rw [ht]
        have e := q (.move b t) H4 ⟨by omega, by omega, by omega⟩ (by cases s <;> rfl) (fun _ h => by cases h) (fun h => by cases h) (sb.trans sb4) (pen4)
        rw [show (D.move b t).txt = "move " ++ num b ++ " " ++ num t from by
          rw [show (D.move b t).txt = _ from txt3' "move" (num b) (num t)]; rfl] at e
        exact e
    refine fk _ _ _ (by rw [eqM]; exact decide_eq_false hM) ?_
    refine ⟨_, rfl, _, _, rfl, rfl, ?_, ?_⟩
    · refine le_line ?_
      rw [l1]; cases k' <;> decide
    refine ⟨_, rfl, _, rfl, log_small (by omega), _, _, rfl, rfl, ?_, ?_⟩
    · refine le_line ?_
      have := nl b (by omega)
      have h2 : k'.verb.length ≤ 10 := by cases k' <;> decide
      rw [s_len, l1]; omega
    have fin : ∀ d : D, d.ok → d.kd = k' → d.txt = k'.verb ++ " " ++ num b → Q (.str (k'.verb ++ " " ++ num b)) H' := fun d h1 h2 h3 => by
      have e := q d H' h1 (by unfold D.fits; rw [h2]; exact decide_eq_true hk') (by rw [h2]; exact hput) (by rw [h2]; exact htk) sb (pen3.mono (by omega))
      rw [h3] at e
      exact e
    cases k'
    · exact fin (.take b) (by show b ≤ 2; omega) rfl (txt2' _ _)
    · exact fin (.put b) (by show b ≤ 2; omega) rfl (txt2' _ _)
    · exact fin (.out b) (by show b ≤ 2; omega) rfl (txt2' _ _)
    · exact fin (.clear b) (by show b ≤ 2; omega) rfl (txt2' _ _)
    · exact absurd rfl hS
    · exact absurd rfl hM
    · exact absurd rfl hA
end
end L2.My
end
section
set_option Elab.async false
set_option linter.all false
set_option autoImplicit false
set_option maxRecDepth 100000
set_option maxHeartbeats 2000000
/-! the law: its rows -/
namespace L2.My
open PySem PySem.Spec PyProof.Rows He SX
section
variable {P : Program} {w : World} {K : PySem.W.Frag} {mg : Str → Option Value} {base : Heap}
theorem PenAt.ne {H : Hp} {p A l : Addr} {n : Nat} (h : PenAt H p A n) (hl : H l = none) : l ≠ p := fun e => by
  obtain ⟨_, _, _, hp, _⟩ := h
  rw [← e, hl] at hp; cases hp
structure BoxesOk (i : Nat) (em fu : List Nat) : Prop where
  el : ∀ b ∈ em, b < i
  fl : ∀ b ∈ fu, b < i
  ea : asc em
  fa : asc fu
  ap : ∀ b ∈ fu, b ∉ em
  len : em.length ≤ i ∧ fu.length ≤ i
theorem BoxesOk.nil : BoxesOk 0 [] [] := ⟨fun _ h => (by cases h), fun _ h => (by cases h), List.Pairwise.nil, List.Pairwise.nil, fun _ h => (by cases h), ⟨Nat.le_refl _, Nat.le_refl _⟩⟩
theorem asc_snoc {l : List Nat} {i : Nat} (h : asc l) (hl : ∀ b ∈ l, b < i) : asc (l ++ [i]) := by
  unfold asc
  rw [List.pairwise_append]
  exact ⟨h, List.pairwise_singleton _ _, fun a ha b hb => by rw [List.mem_singleton.mp hb]; exact hl a ha⟩
theorem BoxesOk.skip {i : Nat} {em fu : List Nat} (h : BoxesOk i em fu) : BoxesOk (i + 1) em fu :=
  ⟨fun b hb => Nat.lt_succ_of_lt (h.el b hb), fun b hb => Nat.lt_succ_of_lt (h.fl b hb), h.ea, h.fa, h.ap, ⟨Nat.le_succ_of_le h.len.1, Nat.le_succ_of_le h.len.2⟩⟩
theorem BoxesOk.em {i : Nat} {em fu : List Nat} (h : BoxesOk i em fu) : BoxesOk (i + 1) (em ++ [i]) fu := by
  refine ⟨fun b hb => ?_, fun b hb => Nat.lt_succ_of_lt (h.fl b hb), asc_snoc h.ea h.el, h.fa, fun b hb hc => ?_, ⟨by have := h.len.1; rw [List.length_append]; exact Nat.succ_le_succ this, Nat.le_succ_of_le h.len.2⟩⟩
  · rcases List.mem_append.mp hb with hb | hb
    · exact Nat.lt_succ_of_lt (h.el b hb)
    · rw [List.mem_singleton.mp hb]; exact Nat.lt_succ_self _
  · rcases List.mem_append.mp hc with hc | hc
    · exact h.ap b hb hc
    · have := h.fl b hb
      rw [List.mem_singleton.mp hc] at this
      exact Nat.lt_irrefl _ this
theorem BoxesOk.fu {i : Nat} {em fu : List Nat} (h : BoxesOk i em fu) : BoxesOk (i + 1) em (fu ++ [i]) := by
  refine ⟨fun b hb => Nat.lt_succ_of_lt (h.el b hb), fun b hb => ?_, h.ea, asc_snoc h.fa h.fl, fun b hb hc => ?_, ⟨Nat.le_succ_of_le h.len.1, by have := h.len.2; rw [List.length_append]; exact Nat.succ_le_succ this⟩⟩
  · rcases List.mem_append.mp hb with hb | hb
    · exact Nat.lt_succ_of_lt (h.fl b hb)
    · rw [List.mem_singleton.mp hb]; exact Nat.lt_succ_self _
  · rcases List.mem_append.mp hb with hb | hb
    · exact h.ap b hb hc
    · have := h.el b hc
      rw [List.mem_singleton.mp hb] at this
      exact Nat.lt_irrefl _ this
structure DeedsOk (s : Sd) (h : Hr) (ds : List D) : Prop where
  ok : ∀ d ∈ ds, d.ok
  fit : (ds.all fun d => d.fits s.name) = true
  tk : (ds.filter fun d => decide (d.kd = .take)).length ≤ 1
  pt : h = .non → ∀ d ∈ ds, d.kd ≠ .put
theorem DeedsOk.nil {s : Sd} {h : Hr} : DeedsOk s h [] := ⟨fun _ h => (by cases h), rfl, Nat.zero_le _, fun _ _ h => (by cases h)⟩
theorem DeedsOk.snoc {s : Sd} {h : Hr} {ds : List D} {d : D} (k : DeedsOk s h ds) (h1 : d.ok) (h2 : d.fits s.name = true) (h3 : h = .non → d.kd ≠ .put) (h4 : d.kd = .take → ∀ e ∈ ds, e.kd ≠ .take) : DeedsOk s h (ds ++ [d]) := by
  refine ⟨fun x hx => ?_, ?_, ?_, fun e x hx => ?_⟩
  · rcases List.mem_append.mp hx with hx | hx
    · exact k.ok x hx
    · rw [List.mem_singleton.mp hx]; exact h1
  · rw [List.all_append, k.fit]
    simp [h2]
  · rw [List.filter_append, List.length_append]
    by_cases ht : d.kd = .take
    · have e : (ds.filter fun d => decide (d.kd = .take)) = [] := List.filter_eq_nil_iff.mpr fun x hx => by
        have := h4 ht x hx
        simpa using this
      rw [e]
      exact Nat.le_trans (Nat.add_le_add_left (List.length_filter_le ..) _) (by decide : 0 + 1 ≤ 1)
    · have e : ([d].filter fun d => decide (d.kd = .take)) = [] := by simp [ht]
      rw [e]
      exact k.tk
  · rcases List.mem_append.mp hx with hx | hx
    · exact k.pt e x hx
    · rw [List.mem_singleton.mp hx]; exact h3 e
structure RowTup (K : PySem.W.Frag) (H : Hp) (t : Addr) (r : R) (te tf td : Addr) : Prop where
  top : SqT K H t [.int r.st, r.hr.v, .ref te, .ref tf, .ref td, .int r.th]
  em : SqT K H te (natVs r.em)
  fu : SqT K H tf (natVs r.fu)
  ds : SqT K H td (strVs (r.ds.map D.txt))
def spRow (K : PySem.W.Frag) : Sp := fun vs H Q _ => ∃ (p A : Addr) (n : Nat) (s : Sd), vs = [.ref p, .str s.name] ∧ PenAt H p A n ∧ n + 33 ≤ 5000 ∧
  ∀ (r : R) (t te tf td : Addr) (H' : Hp), r.ok → r.fits s.name = true → SameB p H H' → PenAt H' p A (n + 33) → RowTup K H' t r te tf td → Q (.ref t) H'
theorem cal_law_row (T : Tx P K mg) : Cal P w K mg base 4 "_law_row" (spRow K) := by
  refine ⟨_, mkFn (k := 3) T.f_law_row sc_law_row (fun vs H Q E h => ?_) (fun cdv A0 outer σ H vs Q E hr h => ?_), T.g_law_row.1, T.g_law_row.2⟩
  · obtain ⟨p, A, n, s, rfl, _⟩ := h
    rfl
  · obtain ⟨p, A, n, s, rfl, hpen, hn, q⟩ := h
    refine ⟨_, (C8.pss_cut (ps_par (i := 2) (j := 3) rfl sc_law_row.nd rfl rfl (by decide) rfl rfl (pa_cons (pe_cal (cal_law_pick T) hr (by decide) (by rfl) (pa_cons (pv 0) (pa_cons (pe_lst (pa_cons pe_int (pa_cons pe_int (pa_cons pe_int (pa_cons pe_int (pa_cons pe_int (pa_cons (pe_cal (cal_law_draw T) hr (by decide) (by rfl) (pa_cons (pv 0) (pa_cons pe_int pa_nil))) pa_nil))))))) pa_nil))) (pa_cons (pe_cal (cal_law_pick T) hr (by decide) (by rfl) (pa_cons (pv 0) (pa_cons (pe_lst (pa_cons pe_non (pa_cons pe_non (pa_cons pe_str (pa_cons pe_int (pa_cons pe_int (pa_cons (pe_cal (cal_law_draw T) hr (by decide) (by rfl) (pa_cons (pv 0) (pa_cons pe_int pa_nil))) pa_nil))))))) pa_nil))) pa_nil)) (by rfl)) (C8.pss_cut (ps_par3 (i := 4) (j := 5) (l := 6) rfl sc_law_row.nd rfl rfl rfl (by decide) (by decide) (by decide) rfl rfl rfl (pa_cons (pe_lst pa_nil) (pa_cons (pe_lst pa_nil) (pa_cons (pe_lst pa_nil) pa_nil))) (by rfl)) (C8.pss_cut (ps_for PassesOwn.never rfl (pi_range1 rfl T.n_range (pa_cons pe_int pa_nil)) (pg_name (i := 7) sc_law_row.nd rfl (by first | exact Or.inl rfl | exact Or.inr rfl)) (pss_cons (ps_set (i := 8) sc_law_row.nd rfl (by first | exact Or.inl rfl | exact Or.inr rfl) (pe_cal (cal_law_draw T) hr (by decide) (by rfl) (pa_cons (pv 0) (pa_cons pe_int pa_nil)))) (pss_cons (ps_if (pt_cmpR op_eq (pv 8) pe_int (nomark _)) (pss_one (ps_expr (pe_bm PySem.F.plainAttrs_list PySem.F.slot_list_append PySem.F.type_list_append mt_append (pv 4) (pa_cons (pv 7) pa_nil)))) pss_nil) (pss_one (ps_if (pt_cmpR op_eq (pv 8) pe_int (nomark _)) (pss_one (ps_expr (pe_bm PySem.F.plainAttrs_list PySem.F.slot_list_append PySem.F.type_list_append mt_append (pv 5) (pa_cons (pv 7) pa_nil)))) pss_nil))))) (C8.pss_cut (ps_for PassesOwn.never rfl (pi_range1 rfl T.n_range (pa_cons (pe_cal (cal_law_pick T) hr (by decide) (by rfl) (pa_cons (pv 0) (pa_cons (pe_lst (pa_cons pe_int (pa_cons pe_int (pa_cons pe_int (pa_cons pe_int (pa_cons pe_int (pa_cons pe_int pa_nil))))))) pa_nil))) pa_nil)) (pg_name (i := 9) sc_law_row.nd rfl (by first | exact Or.inl rfl | exact Or.inr rfl)) (pss_one (ps_expr (pe_bm PySem.F.plainAttrs_list PySem.F.slot_list_append PySem.F.type_list_append mt_append (pv 6) (pa_cons (pe_cal (cal_law_deed T) hr (by decide) (by rfl) (pa_cons (pv 0) (pa_cons (pv 1) (pa_cons (pe_cmp (pc_notN (pv 3))) (pa_cons (pv 6) pa_nil))))) pa_nil))))) (pss_one (ps_ret (pe_tup (pa_cons (pv 2) (pa_cons (pv 3) (pa_cons (pe_callTy call_tuple_of (by rfl) T.n_tuple boot_tuple (pa_cons (pv 4) pa_nil)) (pa_cons (pe_callTy call_tuple_of (by rfl) T.n_tuple boot_tuple (pa_cons (pv 5) pa_nil)) (pa_cons (pe_callTy call_tuple_of (by rfl) T.n_tuple boot_tuple (pa_cons (pv 6) pa_nil)) (pa_cons (pe_cal (cal_law_pick T) hr (by decide) (by rfl) (pa_cons (pv 0) (pa_cons (pe_lst (pa_cons (pv 2) (pa_cons pe_int (pa_cons pe_int (pa_cons pe_int pa_nil))))) pa_nil))) pa_nil))))))))))))), ?_⟩
    have fk : ∀ (b : Bool) (A B : Prop), b = false → B → if b = true then A else B := fun b A B h a => by rw [h]; exact iteF a
    have tk : ∀ (b : Bool) (A B : Prop), b = true → A → if b = true then A else B := fun b A B h a => by rw [h]; exact iteT a
    refine ⟨fun σ' H' => ∃ (st : Nat) (h : Hr), st ≤ 23 ∧ h.ok ∧ σ' = [some (.ref p), some (.str s.name), some (.int st), some h.v, none, none, none, none, none, none] ∧ SameB p H H' ∧ PenAt H' p A (n + 4), ?_, ?_⟩
    · refine ⟨_, rfl, _, rfl, p, A, n, 24, rfl, hpen, by omega, by decide, by decide, fun d H1 hd sb1 pen1 => ?_⟩
      refine ⟨by show 6 ≤ sizeLine; decide, fun l1 h1 => ⟨p, A, l1, n + 1, _, rfl, pen1.same (same_upd h1), by omega, upd_same, pen1.ne h1, List.cons_ne_nil _ _, (by show 6 ≤ 1000; decide), fun x H2 hx sb2 pen2 => ?_⟩⟩
      obtain ⟨st, hst, rfl⟩ : ∃ st : Nat, st ≤ 23 ∧ x = .int st := by
        simp only [List.mem_cons, List.not_mem_nil, or_false] at hx
        rcases hx with rfl | rfl | rfl | rfl | rfl | rfl
        · exact ⟨0, by decide, rfl⟩
        · exact ⟨0, by decide, rfl⟩
        · exact ⟨1, by decide, rfl⟩
        · exact ⟨2, by decide, rfl⟩
        · exact ⟨23, by decide, rfl⟩
        · exact ⟨d, by omega, rfl⟩
      refine ⟨_, rfl, _, rfl, p, A, n + 2, 6, rfl, pen2, by omega, by decide, by decide, fun d2 H3 hd2 sb3 pen3 => ?_⟩
      refine ⟨by show 6 ≤ sizeLine; decide, fun l2 h2 => ⟨p, A, l2, n + 3, _, rfl, pen3.same (same_upd h2), by omega, upd_same, pen3.ne h2, List.cons_ne_nil _ _, (by show 6 ≤ 1000; decide), fun y H4 hy sb4 pen4 => ?_⟩⟩
      obtain ⟨h, hh, rfl⟩ : ∃ h : Hr, h.ok ∧ y = h.v := by
        simp only [List.mem_cons, List.not_mem_nil, or_false] at hy
        rcases hy with rfl | rfl | rfl | rfl | rfl | rfl
        · exact ⟨.non, trivial, rfl⟩
        · exact ⟨.non, trivial, rfl⟩
        · exact ⟨.oth, trivial, rfl⟩
        · exact ⟨.num 0, by show 0 ≤ 5; decide, rfl⟩
        · exact ⟨.num 1, by show 1 ≤ 5; decide, rfl⟩
        · exact ⟨.num d2, by show d2 ≤ 5; omega, rfl⟩
      exact ⟨_, _, rfl, st, h, hst, hh, rfl, sb1.trans ((Same.b (same_upd h1)).trans (sb2.trans (sb3.trans ((Same.b (same_upd h2)).trans sb4)))), pen4⟩
    rintro σ' H1 ⟨st, h, hst, hh, rfl, sb1, pen1⟩
    refine ⟨fun σ' H' => ∃ le lf ld, H1 le = none ∧ H1 lf = none ∧ H1 ld = none ∧ le ≠ lf ∧ le ≠ ld ∧ lf ≠ ld ∧ σ' = [some (.ref p), some (.str s.name), some (.int st), some h.v, some (.ref le), some (.ref lf), some (.ref ld), none, none, none] ∧ Same H1 H' ∧ H' le = some (.lst []) ∧ H' lf = some (.lst []) ∧ H' ld = some (.lst []), ?_, ?_⟩
    · refine ⟨Nat.zero_le _, fun le fe => ⟨Nat.zero_le _, fun lf ff => ⟨Nat.zero_le _, fun ld fd => ⟨_, _, _, rfl, ?_⟩⟩⟩⟩
      have s1 := same_upd fe (o := .lst [])
      have s2 := same_upd ff (o := .lst [])
      have s3 := same_upd fd (o := .lst [])
      have n1 : le ≠ lf := fun e => by rw [← e, upd_same] at ff; cases ff
      have n2 : le ≠ ld := fun e => by rw [← e, s2 _ _ upd_same] at fd; cases fd
      have n3 : lf ≠ ld := fun e => by rw [← e, upd_same] at fd; cases fd
      exact ⟨le, lf, ld, fe, s1.free ff, (s1.trans s2).free fd, n1, n2, n3, rfl, (s1.trans s2).trans s3, s3 _ _ (s2 _ _ upd_same), s3 _ _ upd_same, upd_same⟩
    rintro σ' H2 ⟨le, lf, ld, fe, ff, fd, n1, n2, n3, rfl, s2, he, hf, hd⟩
    have ple : le ≠ p := pen1.ne fe
    have plf : lf ≠ p := pen1.ne ff
    have pld : ld ≠ p := pen1.ne fd
    -- what was there stays when le, lf, ld, p change
    have keep : ∀ {c o}, c ≠ p → H c = some o → c ≠ le ∧ c ≠ lf ∧ c ≠ ld := fun {c o} hc e => by
      have := sb1 c o hc e
      refine ⟨fun q => ?_, fun q => ?_, fun q => ?_⟩
      · rw [q, fe] at this; cases this
      · rw [q, ff] at this; cases this
      · rw [q, fd] at this; cases this
    have sbs : ∀ {H' : Hp} {o} {l : Addr}, SameB p H H' → (l = le ∨ l = lf ∨ l = ld) → SameB p H (upd H' l o) := fun {H' o l} sb hl c u hc e => by
      have k := keep hc e
      have : c ≠ l := by
        rcases hl with rfl | rfl | rfl
        · exact k.1
        · exact k.2.1
        · exact k.2.2
      rw [upd_ne this]
      exact sb c u hc e
    have hpA : A ≠ le ∧ A ≠ lf ∧ A ≠ ld := by
      obtain ⟨c, st, g, hp, hA, hne, _⟩ := hpen
      exact keep hne hA
    have penU : ∀ {H' : Hp} {o} {l : Addr} {m : Nat}, PenAt H' p A m → (l = le ∨ l = lf ∨ l = ld) → PenAt (upd H' l o) p A m := fun {H' o l m} ⟨c, st, g, hp, hA, hne, r⟩ hl => by
      have e1 : p ≠ l := by
        rcases hl with rfl | rfl | rfl
        · exact ple.symm
        · exact plf.symm
        · exact pld.symm
      have e2 : A ≠ l := by
        rcases hl with rfl | rfl | rfl
        · exact hpA.1
        · exact hpA.2.1
        · exact hpA.2.2
      exact ⟨c, st, g, by rw [upd_ne e1]; exact hp, by rw [upd_ne e2]; exact hA, hne, r⟩
    have sb2 : SameB p H H2 := sb1.trans (Same.b s2)
    refine ⟨fun σ' H' => ∃ (em fu : List Nat) (b w : Option V), σ' = [some (.ref p), some (.str s.name), some (.int st), some h.v, some (.ref le), some (.ref lf), some (.ref ld), b, w, none] ∧ SameB p H H' ∧ PenAt H' p A (n + 7) ∧ H' le = some (.lst (natVs em)) ∧ H' lf = some (.lst (natVs fu)) ∧ H' ld = some (.lst []) ∧ BoxesOk 3 em fu, ?_, ?_⟩
    · refine ⟨3, rfl, by decide, by decide, for_range (fun i σ' H' => ∃ (em fu : List Nat) (b w : Option V), σ' = [some (.ref p), some (.str s.name), some (.int st), some h.v, some (.ref le), some (.ref lf), some (.ref ld), b, w, none] ∧ SameB p H H' ∧ PenAt H' p A (n + 4 + i) ∧ H' le = some (.lst (natVs em)) ∧ H' lf = some (.lst (natVs fu)) ∧ H' ld = some (.lst []) ∧ BoxesOk i em fu) ⟨[], [], none, none, rfl, sb2, pen1.same s2, he, hf, hd, BoxesOk.nil⟩ (fun i σ' H' hi hP => ?_) (fun σ' H' hP => hP)⟩
      obtain ⟨em, fu, b, w, rfl, sb, pen, he, hf, hd, bo⟩ := hP
      have hi3 : i < 3 := hi
      have bl := bo.len
      refine ⟨_, rfl, p, A, n + 4 + i, 5, rfl, pen, by omega, by decide, by decide, fun d H3 hd5 sb3 pen3 => ?_⟩
      have he3 := sb3 _ _ ple he
      have hf3 := sb3 _ _ plf hf
      have hd3 := sb3 _ _ pld hd
      have e0 : (0 : Int) + (i : Int) = (i : Int) := by omega
      rw [e0]
      refine ⟨_, rfl, rfl, _, rfl, ?_⟩
      by_cases d1 : d = 1
      · subst d1
        refine tk _ _ _ (by decide) ⟨_, rfl, .inl ⟨rfl, _, SqL.of he3⟩, _, rfl, le, _, _, rfl, rfl, he3, lt_line (by rw [show (natVs em).length = em.length from List.length_map ..]; omega), ?_⟩
        refine ⟨_, rfl, rfl, _, rfl, fk _ _ _ (by decide) ?_⟩
        exact ⟨em ++ [i], fu, _, _, rfl, sbs (sb.trans sb3) (.inl rfl), (penU pen3 (.inl rfl)), by rw [upd_same, natVs, natVs, List.map_append]; rfl, by rw [upd_ne n1.symm]; exact hf3, by rw [upd_ne n2.symm]; exact hd3, bo.em⟩
      refine fk _ _ _ (decide_eq_false fun e => d1 (by have := V.int.inj e; omega)) ⟨_, rfl, rfl, _, rfl, ?_⟩
      by_cases d2 : d = 2
      · subst d2
        refine tk _ _ _ (by decide) ⟨_, rfl, .inl ⟨rfl, _, SqL.of hf3⟩, _, rfl, lf, _, _, rfl, rfl, hf3, lt_line (by rw [show (natVs fu).length = fu.length from List.length_map ..]; omega), ?_⟩
        exact ⟨em, fu ++ [i], _, _, rfl, sbs (sb.trans sb3) (.inr (.inl rfl)), (penU pen3 (.inr (.inl rfl))), by rw [upd_ne n1]; exact he3, by rw [upd_same, natVs, natVs, List.map_append]; rfl, by rw [upd_ne n3.symm]; exact hd3, bo.fu⟩
      exact fk _ _ _ (decide_eq_false fun e => d2 (by have := V.int.inj e; omega)) ⟨em, fu, _, _, rfl, sb.trans sb3, pen3, he3, hf3, hd3, bo.skip⟩
    rintro σ' H3 ⟨em, fu, bx, wy, rfl, sb3, pen3, he3, hf3, hd3, bo⟩
    refine ⟨fun σ' H' => ∃ (ds : List D) (t : Option V), σ' = [some (.ref p), some (.str s.name), some (.int st), some h.v, some (.ref le), some (.ref lf), some (.ref ld), bx, wy, t] ∧ SameB p H H' ∧ PenAt H' p A (n + 32) ∧ H' le = some (.lst (natVs em)) ∧ H' lf = some (.lst (natVs fu)) ∧ H' ld = some (.lst (strVs (ds.map D.txt))) ∧ DeedsOk s h ds ∧ ds.length ≤ 8, ?_, ?_⟩
    · refine ⟨_, rfl, by show 6 ≤ sizeLine; decide, fun l1 h1 => ⟨p, A, l1, n + 7, _, rfl, pen3.same (same_upd h1), by omega, upd_same, pen3.ne h1, List.cons_ne_nil _ _, (by show 6 ≤ 1000; decide), fun x H4 hx sb4 pen4 => ?_⟩⟩
      obtain ⟨m, hm, rfl⟩ : ∃ m : Nat, m ≤ 8 ∧ x = .int m := by
        simp only [List.mem_cons, List.not_mem_nil, or_false] at hx
        rcases hx with rfl | rfl | rfl | rfl | rfl | rfl
        · exact ⟨0, by decide, rfl⟩
        · exact ⟨1, by decide, rfl⟩
        · exact ⟨1, by decide, rfl⟩
        · exact ⟨2, by decide, rfl⟩
        · exact ⟨3, by decide, rfl⟩
        · exact ⟨8, by decide, rfl⟩
      have sb34 : SameB p H3 H4 := (Same.b (same_upd h1)).trans sb4
      refine ⟨_, rfl, by omega, by omega, for_range (n := m) (fun j σ' H' => ∃ (ds : List D) (t : Option V), σ' = [some (.ref p), some (.str s.name), some (.int st), some h.v, some (.ref le), some (.ref lf), some (.ref ld), bx, wy, t] ∧ SameB p H H' ∧ PenAt H' p A (n + 8 + 3 * j) ∧ H' le = some (.lst (natVs em)) ∧ H' lf = some (.lst (natVs fu)) ∧ H' ld = some (.lst (strVs (ds.map D.txt))) ∧ DeedsOk s h ds ∧ ds.length = j) ⟨[], none, rfl, sb3.trans sb34, pen4, sb34 _ _ ple he3, sb34 _ _ plf hf3, sb34 _ _ pld hd3, DeedsOk.nil, rfl⟩ (fun j σ' H' hj hP => ?_) (fun σ' H' hP => ?_)⟩
      · obtain ⟨ds, t, rfl, sb, pen, he, hf, hd, dk, hl⟩ := hP
        refine ⟨_, rfl, .inl ⟨rfl, _, SqL.of hd⟩, _, rfl, _, rfl, _, rfl, _, rfl, p, A, ld, n + 8 + 3 * j, s, _, ds, rfl, pen, by omega, hd, pld, dk.ok, by omega, fun d H5 dok dfit dput dtk sb5 pen5 => ?_⟩
        have hd5 := sb5 _ _ pld hd
        refine ⟨ld, _, _, rfl, rfl, hd5, lt_line (by rw [show (strVs (ds.map D.txt)).length = (ds.map D.txt).length from List.length_map .., List.length_map]; omega), ?_⟩
        exact ⟨ds ++ [d], _, rfl, sbs (sb.trans sb5) (.inr (.inr rfl)), penU pen5 (.inr (.inr rfl)), by rw [upd_ne n2]; exact sb5 _ _ ple he, by rw [upd_ne n3]; exact sb5 _ _ plf hf, by rw [upd_same, List.map_append]; unfold strVs; rw [List.map_append]; rfl, dk.snoc dok dfit (fun e => dput (by rw [e]; rfl)) dtk, by rw [List.length_append, hl]; rfl⟩
      · obtain ⟨ds, t, rfl, sb, pen, he, hf, hd, dk, hl⟩ := hP
        exact ⟨ds, t, rfl, sb, pen.mono (by omega), he, hf, hd, dk, by omega⟩
    rintro σ' H4 ⟨ds, tt, rfl, sb4, pen4, he4, hf4, hd4, dk, hl⟩
    refine ⟨_, rfl, _, rfl, _, rfl, le, _, rfl, .inl ⟨SqL.of he4, fun te hte => ?_⟩⟩
    have u1 := same_upd hte (o := .tup (natVs em))
    refine ⟨_, rfl, lf, _, rfl, .inl ⟨SqL.of (u1 _ _ hf4), fun tf htf => ?_⟩⟩
    have u2 := same_upd htf (o := .tup (natVs fu))
    refine ⟨_, rfl, ld, _, rfl, .inl ⟨SqL.of (u2 _ _ (u1 _ _ hd4)), fun td htd => ?_⟩⟩
    have u3 := same_upd htd (o := .tup (strVs (ds.map D.txt)))
    have hte3 := u3 _ _ (u2 _ _ (upd_same (H := H4) (a := te) (o := .tup (natVs em))))
    have htf3 := u3 _ _ (upd_same (H := upd H4 te (.tup (natVs em))) (a := tf) (o := .tup (natVs fu)))
    have sb6 := sb4.trans (Same.b ((u1.trans u2).trans u3))
    have pen6 := pen4.same ((u1.trans u2).trans u3)
    refine ⟨_, rfl, _, rfl, by show 4 ≤ sizeLine; decide, fun l3 h3 => ⟨p, A, l3, n + 32, _, rfl, pen6.same (same_upd h3), by omega, upd_same, pen6.ne h3, List.cons_ne_nil _ _, (by show 4 ≤ 1000; decide), fun y H7 hy sb7 pen7 => ?_⟩⟩
    obtain ⟨th, hth, rfl⟩ : ∃ th : Nat, th ≤ 23 ∧ y = .int th := by
      simp only [List.mem_cons, List.not_mem_nil, or_false] at hy
      rcases hy with rfl | rfl | rfl | rfl
      · exact ⟨st, hst, rfl⟩
      · exact ⟨0, by decide, rfl⟩
      · exact ⟨1, by decide, rfl⟩
      · exact ⟨23, by decide, rfl⟩
    refine ⟨by show 6 ≤ sizeLine; decide, fun t ht => ?_⟩
    have v1 := (Same.b (same_upd h3 (o := .lst [.int st, .int 0, .int 1, .int 23]))).trans (sb7.trans (Same.b (same_upd ht (o := .tup [.int st, h.v, .ref te, .ref tf, .ref td, .int th]))))
    have pte : te ≠ p := pen4.ne hte
    have ptf : tf ≠ p := (pen4.same u1).ne htf
    have ptd : td ≠ p := (pen4.same (u1.trans u2)).ne htd
    exact q ⟨st, h, em, fu, ds, th⟩ t te tf td _ ⟨hst, hh, fun b hb => by have := bo.el b hb; omega, fun b hb => by have := bo.fl b hb; omega, bo.ea, bo.fa, bo.ap, dk.ok, hl, dk.tk, dk.pt, hth⟩ dk.fit (sb6.trans v1) (pen7.same (same_upd ht)) ⟨SqT.of upd_same, SqT.of (v1 _ _ pte hte3), SqT.of (v1 _ _ ptf htf3), SqT.of (v1 _ _ ptd upd_same)⟩
end
end L2.My
end
section
set_option Elab.async false
set_option linter.all false
set_option autoImplicit false
set_option maxRecDepth 100000
set_option maxHeartbeats 2000000
/-! the law: its texts -/
namespace L2.My
open PySem PySem.Spec PyProof.Rows He SX
section
variable {P : Program} {w : World} {K : PySem.W.Frag} {mg : Str → Option Value} {base : Heap}
theorem shaped_nats (l : List Nat) : SeqAt.shaped (.tuple (l.map fun n : Nat => PyData.int (n : Int))) = true := by
  unfold SeqAt.shaped
  rw [show PyData.canLay0 (.tuple (l.map fun n : Nat => PyData.int (n : Int))) = PyData.canLayAll0 (l.map fun n : Nat => PyData.int (n : Int)) from rfl, canLay_ints, Bool.true_and]
  refine decide_eq_true ?_
  show PyData.depthAll (l.map fun n : Nat => PyData.int (n : Int)) + 1 ≤ 64
  rw [depth_ints]; decide
theorem shapedT_strs {l : List Str} (h : ∀ x ∈ l, Sok x) : SeqAt.shaped (.tuple (l.map PyData.str)) = true := shaped_strs h
theorem eqvT_nil (l : List Nat) : PyData.eqv (.tuple (l.map fun n : Nat => PyData.int (n : Int))) (.tuple []) = decide (l = []) := by
  cases l <;> rfl
theorem eqvS_nil (l : List Str) : PyData.eqv (.tuple (l.map PyData.str)) (.tuple []) = decide (l = []) := by
  cases l <;> rfl
theorem natsP : ∀ l : List Nat, Paired (fun v (n : Nat) => v = V.int n) (natVs l) l
  | [] => .nil
  | n :: r => .cons rfl (natsP r)
def boxL (z : Str) (l : List Nat) : List Str := (boxW z l).map fun x => " " ++ x
theorem boxL_eq (z : Str) (l : List Nat) : (List.replicate (if (!decide (l = [])) = true then (1 : Int) else 0).toNat [V.str (" " ++ z)]).flatten ++ (l.map fun n => " " ++ num n).map V.str = strVs (boxL z l) := by
  cases l with
  | nil => rfl
  | cons a r =>
    unfold boxL boxW
    rw [if_neg (List.cons_ne_nil _ _), decide_eq_false (List.cons_ne_nil _ _)]
    show [V.str (" " ++ z)] ++ _ = _
    unfold strVs
    simp only [List.map_cons, List.map_map, List.cons_append, List.nil_append]
    rfl
theorem boxL_join (z : Str) (l : List Nat) : Txt.join "" (boxL z l) = boxT z l := join_flat0 _
theorem boxL_n (z : Str) (l : List Nat) : (boxL z l).length ≤ l.length + 1 := by
  unfold boxL boxW
  split
  · exact Nat.zero_le _
  · simp
theorem boxL_len {z : Str} {l : List Nat} (hz : z.length ≤ 5) (hl : ∀ n ∈ l, n ≤ 999) : ∀ x ∈ boxL z l, x.length ≤ 6 := fun x hx => by
  obtain ⟨y, hy, rfl⟩ := List.mem_map.mp hx
  have l1 : (" " : Str).length = 1 := by decide
  rw [s_len, l1]
  unfold boxW at hy
  split at hy
  · cases hy
  · rcases List.mem_cons.mp hy with rfl | hy
    · omega
    · obtain ⟨n, hn, rfl⟩ := List.mem_map.mp hy
      have := num_le (hl n hn)
      omega
theorem sok_dtxt (d : D) : Sok d.txt := by
  obtain ⟨r, e, _⟩ := d.ws_cons
  have h := sok_ws (d := d)
  unfold D.txt
  rw [e] at h ⊢
  rw [join_flat]
  exact sok_app (h _ List.mem_cons_self) (sok_flat fun y hy => h y (List.mem_cons_of_mem _ hy))
def spText (K : PySem.W.Frag) : Sp := fun vs H Q _ => ∃ (t te tf td : Addr) (r : R), vs = [.ref t] ∧ RowTup K H t r te tf td ∧ r.ok ∧ ∀ H', Same H H' → Q (.str r.txt) H'
theorem cal_law_text (T : Tx P K mg) : Cal P w K mg base 1 "_law_text" (spText K) := by
  refine ⟨_, mkFn (k := 0) T.f_law_text sc_law_text (fun vs H Q E h => ?_) (fun cdv A0 outer σ H vs Q E hr h => ?_), T.g_law_text.1, T.g_law_text.2⟩
  · obtain ⟨t, te, tf, td, r, rfl, _⟩ := h
    rfl
  · obtain ⟨t, te, tf, td, r, rfl, ht, ok, q⟩ := h
    refine ⟨_, (pss_cons (ps_asg (pv 0) (pg_tupK K (n := 6) rfl (pgs_cons (pg_name (i := 1) sc_law_text.nd rfl (by first | exact Or.inl rfl | exact Or.inr rfl)) (pgs_cons (pg_name (i := 2) sc_law_text.nd rfl (by first | exact Or.inl rfl | exact Or.inr rfl)) (pgs_cons (pg_name (i := 3) sc_law_text.nd rfl (by first | exact Or.inl rfl | exact Or.inr rfl)) (pgs_cons (pg_name (i := 4) sc_law_text.nd rfl (by first | exact Or.inl rfl | exact Or.inr rfl)) (pgs_cons (pg_name (i := 5) sc_law_text.nd rfl (by first | exact Or.inl rfl | exact Or.inr rfl)) (pgs_cons (pg_name (i := 6) sc_law_text.nd rfl (by first | exact Or.inl rfl | exact Or.inr rfl)) pgs_nil)))))))) (C8.pss_cut (ps_set (i := 7) sc_law_text.nd rfl (by first | exact Or.inl rfl | exact Or.inr rfl) (pe_op op_addS (pe_callTy call_str_int (by rfl) T.n_str boot_str (pa_cons (pv 1) pa_nil)) (pe_ifExp (pt_cmp (pc_isN (pv 2))) pe_str (pe_op op_addS pe_str (pe_callTy (CallR.or SkE.call_str_str call_str_int) (by rfl) T.n_str boot_str (pa_cons (pv 2) pa_nil)))))) (C8.pss_cut (ps_set (i := 7) sc_law_text.nd rfl (by first | exact Or.inl rfl | exact Or.inr rfl) (pe_op op_addS (pv 7) (pe_join pe_str (pe_op op_cat (pe_op op_rep (pe_lst (pa_cons pe_str pa_nil)) (pe_callTy call_int1 (by rfl) T.n_int boot_int (pa_cons (pe_cmpR (op_neD hr.units) (pv 3) (pe_tup pa_nil) (nomark _)) pa_nil))) (pe_lc (own := [("_law_box", 8)]) (g := gName 8) (tt := tYes) rfl sc_law_text.nd (pi_tupK K (pv 3)) (blkOk_by (N := ["_law_row_here", "_law_state", "_law_hear", "_law_empty", "_law_full", "_law_deeds_so", "_law_then", "_law_found", "_law_box"]) (sc := defScope s_law_text) (by decide +kernel)) (fun _ _ _ _ _ => (pg_name (i := 8) sc_law_text.nd rfl (by first | exact Or.inl rfl | exact Or.inr rfl))) (fun _ _ _ _ _ => pts_nil) (fun _ _ _ _ _ => (pe_op op_addS pe_str (pe_callTy call_str_int (by rfl) T.n_str boot_str (pa_cons (pv 8) pa_nil))))))))) (C8.pss_cut (ps_set (i := 7) sc_law_text.nd rfl (by first | exact Or.inl rfl | exact Or.inr rfl) (pe_op op_addS (pv 7) (pe_join pe_str (pe_op op_cat (pe_op op_rep (pe_lst (pa_cons pe_str pa_nil)) (pe_callTy call_int1 (by rfl) T.n_int boot_int (pa_cons (pe_cmpR (op_neD hr.units) (pv 4) (pe_tup pa_nil) (nomark _)) pa_nil))) (pe_lc (own := [("_law_box", 8)]) (g := gName 8) (tt := tYes) rfl sc_law_text.nd (pi_tupK K (pv 4)) (blkOk_by (N := ["_law_row_here", "_law_state", "_law_hear", "_law_empty", "_law_full", "_law_deeds_so", "_law_then", "_law_found", "_law_box"]) (sc := defScope s_law_text) (by decide +kernel)) (fun _ _ _ _ _ => (pg_name (i := 8) sc_law_text.nd rfl (by first | exact Or.inl rfl | exact Or.inr rfl))) (fun _ _ _ _ _ => pts_nil) (fun _ _ _ _ _ => (pe_op op_addS pe_str (pe_callTy call_str_int (by rfl) T.n_str boot_str (pa_cons (pv 8) pa_nil))))))))) (pss_one (ps_ret (pe_op op_addS (pe_op op_addS (pe_op op_addS (pe_op op_addS (pv 7) pe_str) (pe_ifExp (pt_cmpR (op_neD hr.units) (pv 5) (pe_tup pa_nil) (nomark _)) (pe_join pe_str (pv 5)) pe_str)) pe_str) (pe_callTy call_str_int (by rfl) T.n_str boot_str (pa_cons (pv 6) pa_nil))))))))), ?_⟩
    have fk : ∀ (b : Bool) (A B : Prop), b = false → B → if b = true then A else B := fun b A B h a => by rw [h]; exact iteF a
    have tk : ∀ (b : Bool) (A B : Prop), b = true → A → if b = true then A else B := fun b A B h a => by rw [h]; exact iteT a
    have l1 : (" " : Str).length = 1 := by decide
    have l6 : (" hear " : Str).length = 6 := by decide
    have b1 := num_le (n := r.st) (by have := ok.st; omega)
    have b2 := num_le (n := r.th) (by have := ok.th; omega)
    have b3 := hrT_len ok.hr
    have b4 := boxT_len (z := "empty") (by decide) (boxes_len ok.ea ok.em) ok.em
    have b5 := boxT_len (z := "full") (by decide) (boxes_len ok.fa ok.fu) ok.fu
    have b6 := dsT_len ok.ds ok.dl
    have c4 := boxes_len ok.ea ok.em
    have c5 := boxes_len ok.fa ok.fu
    refine ⟨_, rfl, t, _, rfl, ht.top, rfl, _, _, rfl, _, _, rfl, _, _, rfl, _, _, rfl, _, _, rfl, _, _, rfl, rfl, ?_⟩
    refine ⟨fun σ' H' => H' = H ∧ σ' = [some (.ref t), some (.int r.st), some r.hr.v, some (.ref te), some (.ref tf), some (.ref td), some (.int r.th), some (.str (num r.st ++ hrT r.hr)), none], ?_, ?_⟩
    · refine ⟨_, rfl, _, rfl, log_small (by have := ok.st; omega), _, rfl, _, rfl, ?_⟩
      cases hh : r.hr with
      | non =>
        refine tk _ _ _ (by decide) ⟨_, _, rfl, rfl, le_line ?_, ?_⟩
        · have e0 : ("" : Str).length = 0 := by decide
          rw [e0]; show (num r.st).length + 0 ≤ _; omega
        · exact ⟨rfl, rfl⟩
      | oth =>
        refine fk _ _ _ (by decide) ⟨_, rfl, .inl ⟨_, rfl, _, _, rfl, rfl, by decide, _, _, rfl, rfl, le_line ?_, ?_⟩⟩
        · have e0 : ((" hear " : Str) ++ "other").length = 11 := by decide
          rw [e0]; show (num r.st).length + 11 ≤ _; omega
        · exact ⟨rfl, rfl⟩
      | num m =>
        have hm : m ≤ 5 := by have := ok.hr; rw [hh] at this; exact this
        have b7 := num_le (n := m) (by omega)
        refine fk _ _ _ (decide_eq_false fun e => by cases e) ⟨_, rfl, .inr ⟨_, rfl, log_small (by omega), _, _, rfl, rfl, le_line ?_, _, _, rfl, rfl, le_line ?_, ?_⟩⟩
        · rw [l6]; show 6 + (L2.My.num m).length ≤ _; omega
        · rw [s_len, l6]; show (L2.My.num r.st).length + (6 + (L2.My.num m).length) ≤ _; omega
        · have e : hrT (.num m) = " hear " ++ L2.My.num m := by
            show flat ["hear", L2.My.num m] = _
            rw [flat_cons, flat_cons, flat, s_nil', show (" hear " : Str) = " " ++ ("hear" ++ " ") from by decide]
            simp only [s_assoc]
          rw [e]
          exact ⟨rfl, rfl⟩
    rintro σ' H' ⟨rfl, rfl⟩
    refine ⟨fun σ2 H2 => Same H' H2 ∧ σ2 = [some (.ref t), some (.int r.st), some r.hr.v, some (.ref te), some (.ref tf), some (.ref td), some (.int r.th), some (.str (num r.st ++ hrT r.hr ++ boxT "empty" r.em)), none], ?_, ?_⟩
    · refine ⟨_, rfl, ⟨_, rfl⟩, (by show 1 ≤ sizeLine; decide), fun a1 h1 => ?_⟩
      have u1 := same_upd h1 (o := .lst [.str " empty"])
      refine ⟨_, rfl, Nat.zero_le _, fun a2 h2 => ?_⟩
      have u2 := u1.trans (same_upd h2 (o := .tup []))
      refine ⟨_, _, .tup (Same.sqt u2 ht.em) (dpNats r.em), .tup (SqT.of upd_same) .nil, shaped_nats r.em, by decide, ?_⟩
      rw [eqvT_nil r.em]
      have hl1 := (same_upd h2 (o := .tup [])) _ _ (upd_same (H := H') (a := a1) (o := .lst [.str " empty"]))
      refine .inr ⟨_, rfl, a1, _, _, rfl, rfl, hl1, by split <;> decide, by split <;> decide, by split <;> decide, fun a3 h3 => ?_⟩
      have u3 := u2.trans (same_upd h3 (o := .lst (List.replicate (if (!decide (r.em = [])) = true then (1 : Int) else 0).toNat [V.str " empty"]).flatten))
      refine ⟨_, rfl, te, rfl, ⟨_, Same.sqt u3 ht.em⟩, ?_⟩
      refine lc_mapT (tt := tYes) (ds := r.em) (A := fun v (n : Nat) => v = V.int n) (b := fun _ => true) (P := fun n v _ => v = V.str (" " ++ num n)) (Same.sqt u3 ht.em) (natsP r.em) (fun _ _ _ _ _ h => h) (fun _ => rfl) (fun x d H2 R _ _ _ k => k H2 (Same.refl _)) (fun x n H2 R hx hn _ s2 k => ?_) (lt_line (by omega)) fun H2 D2 ys hD2 s2 hy hp2 => ?_
      · subst hx
        have := ok.em n hn
        exact ⟨_, rfl, _, rfl, log_small (by omega), _, _, rfl, rfl, le_line (by have := num_le (n := n) (by omega); rw [l1]; show 1 + (num n).length ≤ _; omega), k _ _ (Same.refl _) rfl⟩
      rw [filter_true] at hp2
      have ey : ys = (r.em.map fun n => " " ++ num n).map V.str := by
        rw [List.map_map]
        exact paired_map (f := V.str ∘ fun n => " " ++ num n) hp2
      have h3a := s2 _ _ (upd_same (a := a3) (o := .lst (List.replicate (if (!decide (r.em = [])) = true then (1 : Int) else 0).toNat [V.str " empty"]).flatten))
      refine ⟨a3, D2, _, _, rfl, rfl, h3a, hy, le_line ?_, fun a4 h4 => ?_⟩
      · rw [ey, List.length_map, List.length_map]
        have : (List.replicate (if (!decide (r.em = [])) = true then (1 : Int) else 0).toNat [V.str " empty"]).flatten.length ≤ 1 := by split <;> decide
        omega
      have eb : (List.replicate (if (!decide (r.em = [])) = true then (1 : Int) else 0).toNat [V.str " empty"]).flatten ++ ys = strVs (boxL "empty" r.em) := by
        rw [ey, show (" empty" : Str) = " " ++ "empty" from by decide]; exact boxL_eq _ _
      rw [eb]
      refine ⟨"", a4, boxL "empty" r.em, rfl, rfl, .inl (SqL.of upd_same), ?_, _, _, rfl, rfl, ?_, ?_⟩
      · have e0 : ("" : Str).length = 0 := by decide
        have := sum_len (l := boxL "empty" r.em) (m := 6) (boxL_len (by decide) fun n hn => by have := ok.em n hn; omega)
        have e2 := boxL_n "empty" r.em
        rw [e0]; omega
      · rw [boxL_join]
        refine le_line ?_
        rw [s_len]; omega
      · rw [boxL_join]
        exact ⟨(u3.trans (s2.trans (same_upd h4))), rfl⟩
    rintro σ2 H0 ⟨s0, rfl⟩
    refine ⟨fun σ3 H3 => Same H' H3 ∧ σ3 = [some (.ref t), some (.int r.st), some r.hr.v, some (.ref te), some (.ref tf), some (.ref td), some (.int r.th), some (.str (num r.st ++ hrT r.hr ++ boxT "empty" r.em ++ boxT "full" r.fu)), none], ?_, ?_⟩
    · refine ⟨_, rfl, ⟨_, rfl⟩, (by show 1 ≤ sizeLine; decide), fun a1 h1 => ?_⟩
      have u1 := same_upd h1 (o := .lst [.str " full"])
      refine ⟨_, rfl, Nat.zero_le _, fun a2 h2 => ?_⟩
      have u2 := u1.trans (same_upd h2 (o := .tup []))
      refine ⟨_, _, .tup (Same.sqt (s0.trans u2) ht.fu) (dpNats r.fu), .tup (SqT.of upd_same) .nil, shaped_nats r.fu, by decide, ?_⟩
      rw [eqvT_nil r.fu]
      have hl1 := (same_upd h2 (o := .tup [])) _ _ (upd_same (H := H0) (a := a1) (o := .lst [.str " full"]))
      refine .inr ⟨_, rfl, a1, _, _, rfl, rfl, hl1, by split <;> decide, by split <;> decide, by split <;> decide, fun a3 h3 => ?_⟩
      have u3 := u2.trans (same_upd h3 (o := .lst (List.replicate (if (!decide (r.fu = [])) = true then (1 : Int) else 0).toNat [V.str " full"]).flatten))
      refine ⟨_, rfl, tf, rfl, ⟨_, Same.sqt (s0.trans u3) ht.fu⟩, ?_⟩
      refine lc_mapT (tt := tYes) (ds := r.fu) (A := fun v (n : Nat) => v = V.int n) (b := fun _ => true) (P := fun n v _ => v = V.str (" " ++ num n)) (Same.sqt (s0.trans u3) ht.fu) (natsP r.fu) (fun _ _ _ _ _ h => h) (fun _ => rfl) (fun x d H2 R _ _ _ k => k H2 (Same.refl _)) (fun x n H2 R hx hn _ s2 k => ?_) (lt_line (by omega)) fun H2 D2 ys hD2 s2 hy hp2 => ?_
      · subst hx
        have := ok.fu n hn
        exact ⟨_, rfl, _, rfl, log_small (by omega), _, _, rfl, rfl, le_line (by have := num_le (n := n) (by omega); rw [l1]; show 1 + (num n).length ≤ _; omega), k _ _ (Same.refl _) rfl⟩
      rw [filter_true] at hp2
      have ey : ys = (r.fu.map fun n => " " ++ num n).map V.str := by
        rw [List.map_map]
        exact paired_map (f := V.str ∘ fun n => " " ++ num n) hp2
      have h3a := s2 _ _ (upd_same (a := a3) (o := .lst (List.replicate (if (!decide (r.fu = [])) = true then (1 : Int) else 0).toNat [V.str " full"]).flatten))
      refine ⟨a3, D2, _, _, rfl, rfl, h3a, hy, le_line ?_, fun a4 h4 => ?_⟩
      · rw [ey, List.length_map, List.length_map]
        have : (List.replicate (if (!decide (r.fu = [])) = true then (1 : Int) else 0).toNat [V.str " full"]).flatten.length ≤ 1 := by split <;> decide
        omega
      have eb : (List.replicate (if (!decide (r.fu = [])) = true then (1 : Int) else 0).toNat [V.str " full"]).flatten ++ ys = strVs (boxL "full" r.fu) := by
        rw [ey, show (" full" : Str) = " " ++ "full" from by decide]; exact boxL_eq _ _
      rw [eb]
      refine ⟨"", a4, boxL "full" r.fu, rfl, rfl, .inl (SqL.of upd_same), ?_, _, _, rfl, rfl, ?_, ?_⟩
      · have e0 : ("" : Str).length = 0 := by decide
        have := sum_len (l := boxL "full" r.fu) (m := 6) (boxL_len (by decide) fun n hn => by have := ok.fu n hn; omega)
        have e2 := boxL_n "full" r.fu
        rw [e0]; omega
      · rw [boxL_join]
        refine le_line ?_
        rw [s_len, s_len]; omega
      · rw [boxL_join]
        exact ⟨s0.trans (u3.trans (s2.trans (same_upd h4))), rfl⟩
    rintro σ3 H3 ⟨s3, rfl⟩
    have fin : Str → Str := fun x => x
    have l3 : (" : " : Str).length = 3 := by decide
    have l3' : (" > " : Str).length = 3 := by decide
    refine ⟨_, rfl, _, _, rfl, rfl, le_line (by rw [s_len, s_len, s_len, l3]; omega), _, rfl, Nat.zero_le _, fun p1 g1 => ?_⟩
    have u1 := s3.trans (same_upd g1 (o := .tup []))
    refine ⟨_, _, .tup (Same.sqt u1 ht.ds) (dpStrs _), .tup (SqT.of upd_same) .nil, shapedT_strs (fun x hx => by
      obtain ⟨d, _, rfl⟩ := List.mem_map.mp hx
      exact sok_dtxt d), by decide, _, rfl, ?_⟩
    rw [eqvS_nil]
    have fin : ∀ H5, Same H' H5 → Q (.str (num r.st ++ hrT r.hr ++ boxT "empty" r.em ++ boxT "full" r.fu ++ " : " ++ dsT r.ds ++ " > " ++ num r.th)) H5 := fun H5 s5 => by
      have e := q H5 s5
      rw [R.txt_eq] at e
      simp only [s_assoc] at e ⊢
      exact e
    have m1 : ∀ x : Str, x = dsT r.ds → (num r.st ++ hrT r.hr ++ boxT "empty" r.em ++ boxT "full" r.fu ++ " : ").length + x.length ≤ sizeLine := fun x e => le_line (by rw [e, s_len, s_len, s_len, s_len, l3]; omega)
    have m2 : ∀ x : Str, x = dsT r.ds → (num r.st ++ hrT r.hr ++ boxT "empty" r.em ++ boxT "full" r.fu ++ " : " ++ x).length + (" > " : Str).length ≤ sizeLine := fun x e => le_line (by rw [e, s_len, s_len, s_len, s_len, s_len, l3, l3']; omega)
    have m3 : ∀ x : Str, x = dsT r.ds → (num r.st ++ hrT r.hr ++ boxT "empty" r.em ++ boxT "full" r.fu ++ " : " ++ x ++ " > ").length + (num r.th).length ≤ sizeLine := fun x e => le_line (by rw [e, s_len, s_len, s_len, s_len, s_len, s_len, l3, l3']; omega)
    by_cases h0 : r.ds = []
    · refine fk _ _ _ (by rw [h0]; rfl) ?_
      have e0 : ("-" : Str) = dsT r.ds := by
        rw [h0]; unfold dsT dsW
        rw [if_pos rfl, join_one]
      refine ⟨_, _, rfl, rfl, m1 _ e0, _, _, rfl, rfl, m2 _ e0, _, rfl, _, rfl, log_small (by have := ok.th; omega), _, _, rfl, rfl, m3 _ e0, ?_⟩
      rw [e0]
      exact fin _ u1
    · refine tk _ _ _ (by rw [decide_eq_false (by simpa using h0)]; rfl) ?_
      have e0 : Txt.join " , " (r.ds.map D.txt) = dsT r.ds := (dsT_eq h0).symm
      refine ⟨⟨_, rfl⟩, _, rfl, _, td, r.ds.map D.txt, rfl, rfl, .inr (Same.sqt u1 ht.ds), ?_, _, _, rfl, rfl, m1 _ e0, _, _, rfl, rfl, m2 _ e0, _, rfl, _, rfl, log_small (by have := ok.th; omega), _, _, rfl, rfl, m3 _ e0, ?_⟩
      · have := sum_len (l := r.ds.map D.txt) (m := 20) fun x hx => by
          obtain ⟨y, hy2, rfl⟩ := List.mem_map.mp hx
          exact D.txt_len (ok.ds y hy2)
        have e1 : (" , " : Str).length = 3 := by decide
        have := ok.dl
        rw [List.length_map] at *
        rw [e1]
        omega
      · rw [e0]
        exact fin _ u1
end
end L2.My
end
section
set_option Elab.async false
set_option linter.all false
set_option autoImplicit false
set_option maxRecDepth 100000
set_option maxHeartbeats 2000000
/-! the law: swapped numbers -/
namespace L2.My
open PySem PySem.Spec PyProof.Rows He SX
section
variable {P : Program} {w : World} {K : PySem.W.Frag} {mg : Str → Option Value} {base : Heap}
def swN (a b n : Nat) : Nat := if n = a then b else if n = b then a else n
def isNum (p2 p1 : Option Str) : Bool := decide (p1 = some ("hear" : Str)) || decide (p1 = some ("answer" : Str)) || decide (p2 = some ("send" : Str))
def swX (a b : Nat) (p2 p1 : Option Str) (x : Str) : Str := if (isNum p2 p1 && decide (x = num a)) = true then num b else if (isNum p2 p1 && decide (x = num b)) = true then num a else x
def swG (a b : Nat) : Option Str → Option Str → List Str → List Str
  | _, _, [] => []
  | p2, p1, x :: r => swX a b p2 p1 x :: swG a b p1 (some x) r
def bk1 (p1 : Option Str) (ws : List Str) (i : Nat) : Option Str := if i = 0 then p1 else ws[i - 1]?
def bk2 (p2 p1 : Option Str) (ws : List Str) (i : Nat) : Option Str := if i = 0 then p2 else if i = 1 then p1 else ws[i - 2]?
theorem swG_len (a b : Nat) : ∀ (ws : List Str) (p2 p1 : Option Str), (swG a b p2 p1 ws).length = ws.length
  | [], _, _ => rfl
  | x :: r, p2, p1 => by rw [swG, List.length_cons, List.length_cons, swG_len a b r]
theorem swG_get (a b : Nat) : ∀ (ws : List Str) (p2 p1 : Option Str) (i : Nat) (x : Str), ws[i]? = some x → (swG a b p2 p1 ws)[i]? = some (swX a b (bk2 p2 p1 ws i) (bk1 p1 ws i) x)
  | [], _, _, i, x, h => by cases h
  | y :: r, p2, p1, 0, x, h => by
    have : y = x := Option.some.inj h
    subst this; rfl
  | y :: r, p2, p1, 1, x, h => by
    have := swG_get a b r p1 (some y) 0 x h
    rw [swG, List.getElem?_cons_succ]
    exact this
  | y :: r, p2, p1, i + 2, x, h => by
    have := swG_get a b r p1 (some y) (i + 1) x h
    rw [swG, List.getElem?_cons_succ, this]
    congr 2
    unfold bk2
    cases i with
    | zero => rfl
    | succ j => rfl
theorem isNum_some (p2 : Option Str) (y : Str) : isNum p2 (some y) = (decide (y ∈ (["hear", "answer"] : List Str)) || decide (p2 = some ("send" : Str))) := by
  unfold isNum
  congr 1
  by_cases h1 : y = "hear"
  · subst h1; rfl
  · rw [decide_eq_false (fun e => h1 (Option.some.inj e)), Bool.false_or]
    by_cases h2 : y = "answer"
    · subst h2; rfl
    · rw [decide_eq_false (fun e => h2 (Option.some.inj e)), decide_eq_false (by simp [h1, h2])]
def Neu (x : Str) : Prop := x ≠ "hear" ∧ x ≠ "answer" ∧ x ≠ "send"
instance (x : Str) : Decidable (Neu x) := by unfold Neu; infer_instance
def NS (p2 p1 : Option Str) : Prop := p2 ≠ some ("send" : Str) ∧ ∀ x, p1 = some x → Neu x
theorem NS.no {p2 p1 : Option Str} (h : NS p2 p1) : isNum p2 p1 = false := by
  unfold isNum
  rw [decide_eq_false (fun e => (h.2 _ e).1 rfl), decide_eq_false (fun e => (h.2 _ e).2.1 rfl), decide_eq_false h.1]; rfl
theorem swX_no {a b : Nat} {p2 p1 : Option Str} {x : Str} (h : isNum p2 p1 = false) : swX a b p2 p1 x = x := by
  unfold swX
  rw [h]; rfl
theorem swX_num {a b : Nat} {p2 p1 : Option Str} {n : Nat} (h : isNum p2 p1 = true) : swX a b p2 p1 (num n) = num (swN a b n) := by
  unfold swX swN
  rw [h, Bool.true_and, Bool.true_and]
  by_cases h1 : n = a
  · rw [if_pos (decide_eq_true (by rw [h1])), if_pos h1]
  · rw [if_neg (by simpa using fun e => h1 (num_inj e)), if_neg h1]
    by_cases h2 : n = b
    · rw [if_pos (decide_eq_true (by rw [h2])), if_pos h2]
    · rw [if_neg (by simpa using fun e => h2 (num_inj e)), if_neg h2]
theorem NS.step {p2 p1 : Option Str} (h : NS p2 p1) {x : Str} (hx : Neu x) : NS p1 (some x) := ⟨fun e => (h.2 _ e).2.2 rfl, fun y e => by cases e; exact hx⟩
def Sw (a b : Nat) (l l' : List Str) : Prop := ∀ p2 p1, NS p2 p1 → ∀ z, ∃ q2 q1, NS q2 q1 ∧ swG a b p2 p1 (l ++ z) = l' ++ swG a b q2 q1 z
theorem Sw.nil {a b : Nat} : Sw a b [] [] := fun p2 p1 h z => ⟨p2, p1, h, rfl⟩
theorem Sw.app {a b : Nat} {l l' m m' : List Str} (h1 : Sw a b l l') (h2 : Sw a b m m') : Sw a b (l ++ m) (l' ++ m') := fun p2 p1 h z => by
  obtain ⟨q2, q1, hq, e⟩ := h1 p2 p1 h (m ++ z)
  obtain ⟨r2, r1, hr, e2⟩ := h2 q2 q1 hq z
  exact ⟨r2, r1, hr, by rw [List.append_assoc, e, e2, List.append_assoc]⟩
theorem Sw.one {a b : Nat} {x : Str} (hx : Neu x) : Sw a b [x] [x] := fun p2 p1 h z => ⟨p1, some x, h.step hx, by
  show swX a b p2 p1 x :: _ = _
  rw [swX_no h.no]; rfl⟩
theorem Sw.cons {a b : Nat} {x : Str} {l l' : List Str} (hx : Neu x) (h : Sw a b l l') : Sw a b (x :: l) (x :: l') := Sw.app (l := [x]) (l' := [x]) (Sw.one hx) h
theorem Sw.neu {a b : Nat} : ∀ {l : List Str}, (∀ x ∈ l, Neu x) → Sw a b l l
  | [], _ => Sw.nil
  | x :: r, h => Sw.cons (h x List.mem_cons_self) (Sw.neu fun y hy => h y (List.mem_cons_of_mem _ hy))
theorem neu_num (n : Nat) : Neu (num n) := ⟨num_ne 104 (by decide) (.inr (by decide)), num_ne 97 (by decide) (.inr (by decide)), num_ne 115 (by decide) (.inr (by decide))⟩
theorem Sw.key {a b n : Nat} {k : Str} (hk : k = "hear" ∨ k = "answer") : Sw a b [k, num n] [k, num (swN a b n)] := fun p2 p1 h z => by
  refine ⟨some k, some (num n), ⟨?_, fun y e => by cases e; exact neu_num n⟩, ?_⟩
  · rcases hk with rfl | rfl <;> decide
  · show swX a b p2 p1 k :: swX a b p1 (some k) (num n) :: _ = _
    rw [swX_no h.no, swX_num (by rcases hk with rfl | rfl <;> rfl)]; rfl
theorem Sw.oth {a b : Nat} : Sw a b ["hear", "other"] ["hear", "other"] := fun p2 p1 h z => by
  refine ⟨some ("hear" : Str), some ("other" : Str), ⟨by decide, fun y e => by cases e; decide⟩, ?_⟩
  show swX a b p2 p1 "hear" :: swX a b p1 (some ("hear" : Str)) "other" :: _ = _
  have e : swX a b p1 (some ("hear" : Str)) "other" = "other" := by
    unfold swX
    rw [decide_eq_false (fun e : ("other" : Str) = num a => num_ne 111 (by decide) (.inr (by decide)) e.symm), decide_eq_false (fun e : ("other" : Str) = num b => num_ne 111 (by decide) (.inr (by decide)) e.symm), Bool.and_false]; rfl
  rw [swX_no h.no, e]; rfl
theorem Sw.send {a b m n : Nat} : Sw a b ["send", num m, num n] ["send", num m, num (swN a b n)] := fun p2 p1 h z => by
  refine ⟨some (num m), some (num n), ⟨fun e => (neu_num m).2.2 (Option.some.inj e), fun y e => by cases e; exact neu_num n⟩, ?_⟩
  show swX a b p2 p1 "send" :: swX a b p1 (some ("send" : Str)) (num m) :: swX a b (some ("send" : Str)) (some (num m)) (num n) :: _ = _
  have h1 : isNum p1 (some ("send" : Str)) = false := by
    unfold isNum
    rw [decide_eq_false (fun e : p1 = some ("send" : Str) => (h.2 _ e).2.2 rfl)]; rfl
  have h2 : isNum (some ("send" : Str)) (some (num m)) = true := by
    unfold isNum
    rw [decide_eq_true (rfl : some ("send" : Str) = some ("send" : Str)), Bool.or_true]
  rw [swX_no h.no, swX_no h1, swX_num h2]; rfl
theorem Sw.deed {a b : Nat} (d : D) : Sw a b d.ws (d.ren (swN a b)).ws := by
  cases d with
  | take n => exact Sw.cons (by decide) (Sw.one (neu_num n))
  | put n => exact Sw.cons (by decide) (Sw.one (neu_num n))
  | out n => exact Sw.cons (by decide) (Sw.one (neu_num n))
  | clear n => exact Sw.cons (by decide) (Sw.one (neu_num n))
  | send m n => exact Sw.send
  | move m n => exact Sw.cons (by decide) (Sw.cons (neu_num m) (Sw.one (neu_num n)))
  | answer n => exact Sw.key (.inr rfl)
theorem Sw.inter {a b : Nat} : ∀ ds : List D, Sw a b (inter "," (ds.map D.ws)) (inter "," ((ds.map (D.ren (swN a b))).map D.ws))
  | [] => Sw.nil
  | [d] => Sw.deed d
  | d :: e :: r => Sw.app (Sw.deed d) (Sw.cons (by decide) (Sw.inter (e :: r)))
theorem Sw.hr {a b : Nat} (h : Hr) : Sw a b h.ws (h.ren (swN a b)).ws := by
  cases h with
  | non => exact Sw.nil
  | oth => exact Sw.oth
  | num n => exact Sw.key (.inl rfl)
theorem Sw.ds {a b : Nat} (ds : List D) : Sw a b (dsW ds) (dsW (ds.map (D.ren (swN a b)))) := by
  unfold dsW
  cases ds with
  | nil => exact Sw.one (by decide)
  | cons d r =>
    rw [if_neg (List.cons_ne_nil _ _), if_neg (by simp)]
    exact Sw.inter _
theorem neu_box {z : Str} (hz : Neu z) {l : List Nat} : ∀ x ∈ boxW z l, Neu x := fun x hx => by
  unfold boxW at hx
  split at hx
  · cases hx
  · rcases List.mem_cons.mp hx with rfl | hx
    · exact hz
    · obtain ⟨n, _, rfl⟩ := List.mem_map.mp hx
      exact neu_num n
theorem Sw.row {a b : Nat} (r : R) : Sw a b r.ws (r.ren (swN a b)).ws := 
  Sw.cons (neu_num _) (Sw.app (Sw.hr r.hr) (Sw.app (Sw.neu (neu_box (by decide))) (Sw.app (Sw.neu (neu_box (by decide))) (Sw.cons (by decide) (Sw.app (Sw.ds r.ds) (Sw.cons (by decide) (Sw.one (neu_num _))))))))
theorem swG_row (a b : Nat) (r : R) : swG a b none none r.ws = (r.ren (swN a b)).ws := by
  obtain ⟨q2, q1, _, e⟩ := Sw.row (a := a) (b := b) r none none ⟨by decide, fun _ h => by cases h⟩ []
  rw [List.append_nil, swG, List.append_nil] at e
  exact e
theorem swap_txt (a b : Nat) (r : R) : Txt.join " " (swG a b none none r.ws) = (r.ren (swN a b)).txt := by
  rw [swG_row]; rfl
theorem swN_le {a b n : Nat} (ha : a ≤ 5) (hb : b ≤ 5) (hn : n ≤ 5) : swN a b n ≤ 5 := by
  unfold swN
  split
  · exact hb
  · split
    · exact ha
    · exact hn
theorem sum_join (z : Str) : ∀ l : List Str, (l.map (·.length)).sum ≤ (Txt.join z l).length
  | [] => Nat.zero_le _
  | [x] => by rw [join_one]; simp
  | x :: y :: r => by
    have := sum_join z (y :: r)
    rw [join_two, s_len, s_len, List.map_cons, List.sum_cons]
    omega
def spSwap : Sp := fun vs H Q _ => ∃ (r : R) (a b : Nat), vs = [.str r.txt, .int a, .int b] ∧ r.ok ∧ a ≤ 5 ∧ b ≤ 5 ∧ ∀ H', Same H H' → Q (.str (r.ren (swN a b)).txt) H'
theorem cal_law_swapped (T : Tx P K mg) : Cal P w K mg base 1 "_law_swapped" spSwap := by
  refine ⟨_, mkFn (k := 0) T.f_law_swapped sc_law_swapped (fun vs H Q E h => ?_) (fun cdv A0 outer σ H vs Q E hr h => ?_), T.g_law_swapped.1, T.g_law_swapped.2⟩
  · obtain ⟨r, a, b, rfl, _⟩ := h
    rfl
  · obtain ⟨r, a, b, rfl, ok, ha, hb, q⟩ := h
    refine ⟨_, (pss_cons (ps_par (i := 3) (j := 4) rfl sc_law_swapped.nd rfl rfl (by decide) rfl rfl (pa_cons (pe_split (pv 0) pe_str) (pa_cons (pe_lst pa_nil) pa_nil)) (by rfl)) (pss_cons (ps_for PassesOwn.never rfl (pi_range1 rfl T.n_range (pa_cons (pe_callB (call_lenK K) (by rfl) T.n_len boot_len (pa_cons (pv 3) pa_nil)) pa_nil)) (pg_name (i := 5) sc_law_swapped.nd rfl (by first | exact Or.inl rfl | exact Or.inr rfl)) (C8.pss_cut (ps_set (i := 6) sc_law_swapped.nd rfl (by first | exact Or.inl rfl | exact Or.inr rfl) (pe_and (pe_cmpR op_gt (pv 5) pe_int (nomark _)) (pe_one (pe_or (pe_cmpR (op_inK K) (pe_ix (ix_listK K) (pv 3) (pe_op op_sub (pv 5) pe_int) (fun _ _ => rfl)) (pe_tup (pa_cons pe_str (pa_cons pe_str pa_nil))) (by with_unfolding_all rfl)) (pe_one (pe_and (pe_cmpR op_gt (pv 5) pe_int (nomark _)) (pe_one (pe_cmpR op_eq (pe_ix (ix_listK K) (pv 3) (pe_op op_sub (pv 5) pe_int) (fun _ _ => rfl)) pe_str (nomark _))))))))) (pss_one (ps_if (PW.pt (pw_and (pt_val (pv 6)) (pw_and1 (pt_cmpR op_eq (pe_ix (ix_listK K) (pv 3) (pv 5) (fun _ _ => rfl)) (pe_callTy call_str_int (by rfl) T.n_str boot_str (pa_cons (pv 1) pa_nil)) (nomark _))))) (pss_one (ps_expr (pe_bm PySem.F.plainAttrs_list PySem.F.slot_list_append PySem.F.type_list_append mt_append (pv 4) (pa_cons (pe_callTy call_str_int (by rfl) T.n_str boot_str (pa_cons (pv 2) pa_nil)) pa_nil)))) (pss_one (ps_if (PW.pt (pw_and (pt_val (pv 6)) (pw_and1 (pt_cmpR op_eq (pe_ix (ix_listK K) (pv 3) (pv 5) (fun _ _ => rfl)) (pe_callTy call_str_int (by rfl) T.n_str boot_str (pa_cons (pv 2) pa_nil)) (nomark _))))) (pss_one (ps_expr (pe_bm PySem.F.plainAttrs_list PySem.F.slot_list_append PySem.F.type_list_append mt_append (pv 4) (pa_cons (pe_callTy call_str_int (by rfl) T.n_str boot_str (pa_cons (pv 1) pa_nil)) pa_nil)))) (pss_one (ps_expr (pe_bm PySem.F.plainAttrs_list PySem.F.slot_list_append PySem.F.type_list_append mt_append (pv 4) (pa_cons (pe_ix (ix_listK K) (pv 3) (pv 5) (fun _ _ => rfl)) pa_nil)))))))))) (pss_one (ps_ret (pe_join pe_str (pv 4)))))), ?_⟩
    have fk : ∀ (b : Bool) (A B : Prop), b = false → B → if b = true then A else B := fun b A B h a => by rw [h]; exact iteF a
    have tk : ∀ (b : Bool) (A B : Prop), b = true → A → if b = true then A else B := fun b A B h a => by rw [h]; exact iteT a
    have hlen := R.txt_len ok
    refine ⟨_, rfl, ⟨_, rfl⟩, _, _, rfl, rfl, by decide, le_line (by omega), fun l hl => ?_⟩
    rw [split_row]
    have sl : Same H (upd H l (.lst (r.ws.map V.str))) := same_upd hl
    refine ⟨Nat.zero_le _, fun F hF => ⟨_, _, rfl, ?_⟩⟩
    have sF : Same H (upd (upd H l (.lst (r.ws.map V.str))) F (.lst [])) := sl.trans (same_upd hF)
    have hF0 : H F = none := sl.free hF
    have hFl : l ≠ F := fun e => by rw [← e, upd_same] at hF; cases hF
    have hlF : (upd (upd H l (.lst (r.ws.map V.str))) F (.lst [])) l = some (.lst (strVs r.ws)) := by rw [upd_ne hFl]; exact upd_same
    have hwl := ws_len r ok
    have ln : (strVs r.ws).length = r.ws.length := List.length_map ..
    refine ⟨_, rfl, l, _, rfl, .inl (SqL.of hlF), _, rfl, by rw [ln]; omega, by rw [ln]; omega, ?_⟩
    have ln2 : ((strVs r.ws).length : Int).toNat = r.ws.length := by rw [ln]; rfl
    rw [ln2]
    refine for_range (n := r.ws.length) (fun i σ' H' => ∃ (v5 v6 : Option V), σ' = [some (.str r.txt), some (.int a), some (.int b), some (.ref l), some (.ref F), v5, v6] ∧ Same H H' ∧ H' l = some (.lst (strVs r.ws)) ∧ H' F = some (.lst (strVs ((swG a b none none r.ws).take i)))) ⟨none, none, rfl, sF, hlF, upd_same⟩ (fun i σ' H' hi hP => ?_) (fun σ' H' hP => ?_)
    · obtain ⟨v5, v6, rfl, s1, hl1, hF1⟩ := hP
      obtain ⟨x, hx⟩ : ∃ x, r.ws[i]? = some x := ⟨_, List.getElem?_eq_getElem hi⟩
      have e0 : (0 : Int) + (i : Int) = (i : Int) := by omega
      rw [e0]
      refine ⟨fun σ2 H2 => Same H' H2 ∧ σ2 = [some (.str r.txt), some (.int a), some (.int b), some (.ref l), some (.ref F), some (.int i), some (.bl (isNum (bk2 none none r.ws i) (bk1 none r.ws i)))], ?_, ?_⟩
      · refine ⟨_, rfl, _, _, rfl, rfl, _, rfl, ?_⟩
        cases i with
        | zero => exact fk _ _ _ rfl ⟨Same.refl _, rfl⟩
        | succ k =>
          refine tk _ _ _ (decide_eq_true (by omega)) ?_
          obtain ⟨y, hy⟩ : ∃ y, r.ws[k]? = some y := ⟨_, List.getElem?_eq_getElem (by omega)⟩
          have ek : ((k + 1 : Nat) : Int) - 1 = (k : Int) := by omega
          have b1 : bk1 none r.ws (k + 1) = some y := (if_neg (Nat.succ_ne_zero _)).trans hy
          refine ⟨_, rfl, _, rfl, _, _, rfl, rfl, l, _, _, .str y, rfl, rfl, SqL.of hl1, by rw [ek]; exact atI_nat (strVs_get hy), by show 2 ≤ sizeLine; decide, fun p hp => ⟨p, _, rfl, .inr (SqT.of upd_same), rfl, rfl, _, rfl, ?_⟩⟩
          have up := same_upd hp (o := .tup [.str "hear", .str "answer"])
          have eI : inV (.str y) [.str "hear", .str "answer"] = decide (y ∈ (["hear", "answer"] : List Str)) := inV_str y ["hear", "answer"]
          rw [b1, isNum_some]
          by_cases hm : y ∈ (["hear", "answer"] : List Str)
          · refine tk _ _ _ (eI.trans (decide_eq_true hm)) ⟨up, ?_⟩
            rw [decide_eq_true hm]; rfl
          · refine fk _ _ _ (eI.trans (decide_eq_false hm)) ⟨_, rfl, _, _, rfl, rfl, _, rfl, ?_⟩
            rw [decide_eq_false hm, Bool.false_or]
            cases k with
            | zero =>
              refine fk _ _ _ rfl ⟨up, rfl⟩
            | succ j =>
              refine tk _ _ _ (decide_eq_true (by omega)) ?_
              obtain ⟨z, hz⟩ : ∃ z, r.ws[j]? = some z := ⟨_, List.getElem?_eq_getElem (by omega)⟩
              have ej : ((j + 1 + 1 : Nat) : Int) - 2 = (j : Int) := by omega
              have b2 : bk2 none none r.ws (j + 1 + 1) = some z := (if_neg (Nat.succ_ne_zero _)).trans ((if_neg (by omega)).trans hz)
              refine ⟨_, rfl, _, rfl, _, _, rfl, rfl, l, _, _, .str z, rfl, rfl, SqL.of (up _ _ hl1), by rw [ej]; exact atI_nat (strVs_get hz), rfl, up, ?_⟩
              have e1 : decide (some z = some ("send" : Str)) = decide (V.str z = V.str "send") := by
                by_cases h : z = "send"
                · rw [decide_eq_true (by rw [h]), decide_eq_true (by rw [h])]
                · rw [decide_eq_false (fun e => h (Option.some.inj e)), decide_eq_false (fun e => h (V.str.inj e))]
              rw [b2, e1]; rfl
      rintro σ2 H2 ⟨s2, rfl⟩
      have hl2 := s2 _ _ hl1
      have hF2 := s2 _ _ hF1
      have hg := swG_get a b r.ws none none i x hx
      have hcase : ∀ y : Str, swX a b (bk2 none none r.ws i) (bk1 none r.ws i) x = y → ∃ (v5 v6 : Option V), [some (V.str r.txt), some (.int a), some (.int b), some (.ref l), some (.ref F), some (.int i), some (.bl (isNum (bk2 none none r.ws i) (bk1 none r.ws i)))] = [some (.str r.txt), some (.int a), some (.int b), some (.ref l), some (.ref F), v5, v6] ∧ Same H (upd H2 F (.lst (strVs ((swG a b none none r.ws).take i) ++ [.str y]))) ∧ (upd H2 F (.lst (strVs ((swG a b none none r.ws).take i) ++ [.str y]))) l = some (.lst (strVs r.ws)) ∧ (upd H2 F (.lst (strVs ((swG a b none none r.ws).take i) ++ [.str y]))) F = some (.lst (strVs ((swG a b none none r.ws).take (i + 1)))) := fun y e => by
        refine ⟨_, _, rfl, Same.upd2 (s1.trans s2) hF0, by rw [upd_ne hFl]; exact hl2, ?_⟩
        rw [upd_same, List.take_add_one, hg, e]
        unfold strVs
        rw [List.map_append]; rfl
      have bnd : (strVs ((swG a b none none r.ws).take i)).length < sizeLine := lt_line (by
        rw [show (strVs ((swG a b none none r.ws).take i)).length = ((swG a b none none r.ws).take i).length from List.length_map .., List.length_take, swG_len]; omega)
      have hxV : atI (strVs r.ws) ((i : Nat) : Int) = some (.str x) := atI_nat (strVs_get hx)
      generalize hc : isNum (bk2 none none r.ws i) (bk1 none r.ws i) = c at hcase
      have app : ∀ y : Str, _ := fun y => hcase y
      refine ⟨_, rfl, _, rfl, ?_⟩
      cases c with
      | false =>
        refine iteF (iteF ⟨_, rfl, _, rfl, iteF (iteF ⟨_, rfl, .inl ⟨rfl, _, SqL.of hF2⟩, _, rfl, _, rfl, l, _, _, .str x, rfl, rfl, SqL.of hl2, hxV, F, _, _, rfl, rfl, hF2, bnd, hcase x (swX_no hc)⟩)⟩)
      | true =>
        refine iteT ⟨_, rfl, _, rfl, l, _, _, .str x, rfl, rfl, SqL.of hl2, hxV, _, rfl, _, rfl, log_small (by omega), rfl, _, rfl, ?_⟩
        by_cases h1 : x = num a
        · refine tk _ _ _ (decide_eq_true (by rw [h1]; rfl)) ⟨_, rfl, .inl ⟨rfl, _, SqL.of hF2⟩, _, rfl, _, rfl, log_small (by omega), F, _, _, rfl, rfl, hF2, bnd, hcase (num b) ?_⟩
          rw [h1, swX_num hc]; unfold swN; rw [if_pos rfl]
        · refine fk _ _ _ (decide_eq_false fun e => h1 (V.str.inj e)) ⟨_, rfl, _, rfl, iteT ⟨_, rfl, _, rfl, l, _, _, .str x, rfl, rfl, SqL.of hl2, hxV, _, rfl, _, rfl, log_small (by omega), rfl, _, rfl, ?_⟩⟩
          by_cases h2 : x = num b
          · refine tk _ _ _ (decide_eq_true (by rw [h2]; rfl)) ⟨_, rfl, .inl ⟨rfl, _, SqL.of hF2⟩, _, rfl, _, rfl, log_small (by omega), F, _, _, rfl, rfl, hF2, bnd, hcase (num a) ?_⟩
            rw [h2, swX_num hc]; unfold swN
            rw [if_neg (fun e => h1 (by rw [h2, e])), if_pos rfl]
          · refine fk _ _ _ (decide_eq_false fun e => h2 (V.str.inj e)) ⟨_, rfl, .inl ⟨rfl, _, SqL.of hF2⟩, _, rfl, _, rfl, l, _, _, .str x, rfl, rfl, SqL.of hl2, hxV, F, _, _, rfl, rfl, hF2, bnd, hcase x ?_⟩
            unfold swX
            rw [hc, decide_eq_false h1, decide_eq_false h2]; rfl
    · obtain ⟨v5, v6, rfl, s1, hl1, hF1⟩ := hP
      have et : (swG a b none none r.ws).take r.ws.length = swG a b none none r.ws := by rw [List.take_of_length_le (by rw [swG_len]; exact Nat.le_refl _)]
      rw [et] at hF1
      refine ⟨⟨_, rfl⟩, _, rfl, " ", F, swG a b none none r.ws, rfl, rfl, .inl (SqL.of hF1), ?_, ?_⟩
      · have e1 : (" " : Str).length = 1 := by decide
        have ok2 : (r.ren (swN a b)).ok := R.ren_ok ok fun n hn => swN_le ha hb (nums_bound ok hn)
        have h2 := R.txt_len ok2
        rw [e1, swG_row]
        have h3 := sum_join " " (r.ren (swN a b)).ws
        rw [show Txt.join " " (r.ren (swN a b)).ws = (r.ren (swN a b)).txt from rfl] at h3
        have := ws_len _ ok2
        omega
      · rw [swap_txt]
        exact q _ s1
end
end L2.My
end
section
set_option Elab.async false
set_option linter.all false
set_option autoImplicit false
set_option maxRecDepth 100000
set_option maxHeartbeats 2000000
/-! lists of rows changed -/
namespace L2.My
open PySem PySem.Spec PyProof.Rows He SX
theorem split_at {α : Type} {l : List α} {i : Nat} {x : α} (h : l[i]? = some x) : l = l.take i ++ x :: l.drop (i + 1) := by
  obtain ⟨hi, e⟩ := List.getElem?_eq_some_iff.mp h
  conv => lhs; rw [← List.take_append_drop i l]
  rw [← List.getElem_cons_drop (h := hi), e]
theorem RsOk.sub {s : Sd} {rs qs : List R} (h : RsOk s rs) (hs : qs.Sublist rs) : RsOk s qs :=
  ⟨fun r hr => h.ok r (hs.subset hr), fun r hr => h.fit r (hs.subset hr), h.nd.sublist (hs.map _), Nat.le_trans hs.length_le h.len⟩
theorem drop1_sub {α : Type} {l : List α} {i : Nat} {x : α} (h : l[i]? = some x) : (l.take i ++ l.drop (i + 1)).Sublist l := by
  conv => rhs; rw [split_at h]
  exact List.Sublist.append (List.Sublist.refl _) (List.sublist_cons_self _ _)
theorem RsOk.put {s : Sd} {a b : List R} {r : R} (h : RsOk s (a ++ b)) (h1 : r.ok) (h2 : r.fits s.name = true) (h3 : r.txt ∉ (a ++ b).map R.txt) (h4 : (a ++ b).length < 120) : RsOk s (a ++ r :: b) := by
  have pm : (a ++ r :: b).Perm (r :: (a ++ b)) := List.perm_middle
  refine ⟨fun q hq => ?_, fun q hq => ?_, ?_, ?_⟩
  · rcases List.mem_cons.mp (pm.mem_iff.mp hq) with rfl | hq
    · exact h1
    · exact h.ok q hq
  · rcases List.mem_cons.mp (pm.mem_iff.mp hq) with rfl | hq
    · exact h2
    · exact h.fit q hq
  · refine ((pm.map R.txt).nodup_iff).mpr ?_
    rw [List.map_cons]
    exact List.nodup_cons.mpr ⟨h3, h.nd⟩
  · rw [pm.length_eq, List.length_cons]
    omega
theorem filter_drop1 {s : Sd} {rs : List R} {i : Nat} {r : R} (h : RsOk s rs) (hr : rs[i]? = some r) : (rs.filter fun o => !keyEq o r) = rs.take i ++ rs.drop (i + 1) := by
  have e := split_at hr
  have rok := h.ok r (List.mem_of_getElem? hr)
  have nd := h.nd
  have pm : (rs.take i ++ r :: rs.drop (i + 1)).Perm (r :: (rs.take i ++ rs.drop (i + 1))) := List.perm_middle
  rw [e] at nd
  have nd2 := ((pm.map R.txt).nodup_iff).mp nd
  rw [List.map_cons] at nd2
  have hno := (List.nodup_cons.mp nd2).1
  have key : ∀ o ∈ rs.take i ++ rs.drop (i + 1), (!keyEq o r) = true := fun o ho => by
    have : o ∈ rs := (drop1_sub hr).subset ho
    cases hk : keyEq o r
    · rfl
    · exact absurd (List.mem_map.mpr ⟨o, ho, keyEq_txt (h.ok o this) rok hk⟩) hno
  conv => lhs; rw [e]
  rw [List.filter_append, List.filter_cons, keyEq_self, if_neg (by simp), List.filter_eq_self.mpr fun o ho => key o (List.mem_append_left _ ho), List.filter_eq_self.mpr fun o ho => key o (List.mem_append_right _ ho)]
theorem any_key {rs : List R} {i : Nat} {r : R} (hr : rs[i]? = some r) : rs.any (keyEq r) = true := List.any_eq_true.mpr ⟨r, List.mem_of_getElem? hr, keyEq_self r⟩
theorem swN_swN (a b n : Nat) : swN a b (swN a b n) = n := by
  unfold swN
  by_cases h1 : n = a
  · rw [if_pos h1]
    by_cases h2 : b = a
    · rw [if_pos h2]; omega
    · rw [if_neg h2, if_pos rfl]; omega
  · rw [if_neg h1]
    by_cases h2 : n = b
    · rw [if_pos h2, if_pos rfl]; omega
    · rw [if_neg h2, if_neg h1, if_neg h2]
theorem swN_inj {a b m n : Nat} (h : swN a b m = swN a b n) : m = n := by
  rw [← swN_swN a b m, h, swN_swN]
theorem D.ren2 (a b : Nat) (d : D) : (d.ren (swN a b)).ren (swN a b) = d := by
  cases d <;> simp only [D.ren, swN_swN]
theorem R.ren2 (a b : Nat) (r : R) : (r.ren (swN a b)).ren (swN a b) = r := by
  obtain ⟨st, h, em, fu, ds, th⟩ := r
  simp only [R.ren]
  congr 1
  · cases h <;> simp only [Hr.ren, swN_swN]
  · rw [List.map_map]
    conv => rhs; rw [← List.map_id ds]
    exact List.map_congr_left fun d _ => D.ren2 a b d
theorem R.ren_txt_inj {a b : Nat} {r q : R} (h : (r.ren (swN a b)).txt = (q.ren (swN a b)).txt) : r.txt = q.txt := by
  have e : (r.ren (swN a b)).ws = (q.ren (swN a b)).ws := by
    rw [← split_row, ← split_row, h]
  have e2 := congrArg (swG a b none none) e
  rw [swG_row, swG_row, R.ren2, R.ren2] at e2
  unfold R.txt
  rw [e2]
theorem RsOk.ren {s : Sd} {rs : List R} (h : RsOk s rs) {a b : Nat} (ha : a ≤ 5) (hb : b ≤ 5) : RsOk s (rs.map (R.ren (swN a b))) := by
  refine ⟨fun q hq => ?_, fun q hq => ?_, ?_, by rw [List.length_map]; exact h.len⟩
  · obtain ⟨r, hr, rfl⟩ := List.mem_map.mp hq
    exact R.ren_ok (h.ok r hr) fun n hn => swN_le ha hb (nums_bound (h.ok r hr) hn)
  · obtain ⟨r, hr, rfl⟩ := List.mem_map.mp hq
    rw [R.ren_fits]
    exact h.fit r hr
  · rw [List.map_map]
    have nd : rs.Pairwise (fun x y => x.txt ≠ y.txt) := List.pairwise_map.mp h.nd
    exact List.pairwise_map.mpr (nd.imp fun hxy e => hxy (R.ren_txt_inj e))
theorem numsE_le {s : Sd} {rs : List R} (h : RsOk s rs) {n : Nat} (hn : n ∈ numsE rs) : n ≤ 5 := by
  obtain ⟨r, hr, hm⟩ := List.mem_flatMap.mp (asc_mem.mp hn).2
  exact nums_bound (h.ok r hr) (asc_mem.mp hm).2
theorem merge_tab (f : Nat → Nat) : ∀ (l pre : List Nat), (pre ++ l).Nodup → mergeK (tabK f pre) (tabK f l) = tabK f (pre ++ l)
  | [], pre, _ => by rw [List.append_nil]; rfl
  | n :: l, pre, h => by
    have e : pre ++ n :: l = (pre ++ [n]) ++ l := by rw [List.append_assoc]; rfl
    have hn : n ∉ pre := fun hm => by
      have pm : (pre ++ n :: l).Perm (n :: (pre ++ l)) := List.perm_middle
      exact (List.nodup_cons.mp (pm.nodup_iff.mp h)).1 (List.mem_append_left _ hm)
    have ih := merge_tab f l (pre ++ [n]) (by rw [← e]; exact h)
    rw [e, ← ih]
    show mergeK (putK (tabK f pre) (Sum.inl (n : Int)) (V.int (f n : Nat))) (tabK f l) = _
    congr 1
    have hno : ((tabK f pre).any fun kv => decide (kv.1 = (Sum.inl (n : Int) : Key))) = false := by
      unfold tabK
      rw [List.any_map, List.any_eq_false]
      intro a ha hda
      exact hn (by rw [← Int.ofNat.inj (Sum.inl.inj (of_decide_eq_true hda))]; exact ha)
    unfold putK
    rw [hno, if_neg Bool.false_ne_true]
    unfold tabK
    rw [List.map_append]; rfl
end L2.My
end
section
set_option Elab.async false
set_option linter.all false
set_option autoImplicit false
set_option maxRecDepth 100000
set_option maxHeartbeats 4000000
/-! the law: an end changed -/
namespace L2.My
open PySem PySem.Spec PyProof.Rows He SX
section
variable {P : Program} {w : World} {K : PySem.W.Frag} {mg : Str → Option Value} {base : Heap}
theorem addSd (T : Tx P K mg) (s : Sd) : OwnBin K (cSd K s) (c_Row K) .Add (a_End_add K) := by
  cases s
  · exact T.add_Sender
  · exact T.add_Receiver
theorem subSd (T : Tx P K mg) (s : Sd) : OwnBin K (cSd K s) (c_Row K) .Sub (a_End_sub K) := by
  cases s
  · exact T.sub_Sender
  · exact T.sub_Receiver
theorem met_with (T : Tx P K mg) (s : Sd) : Met P w K mg base 11 (cSd K s) "with_row" (spWith K) := ⟨_, fn_with T, clSd T s, by
  cases s
  · exact T.m_Sender_with_row
  · exact T.m_Receiver_with_row⟩
theorem met_without (T : Tx P K mg) (s : Sd) : Met P w K mg base 11 (cSd K s) "without_row" (spWithout K) := ⟨_, fn_without T, clSd T s, by
  cases s
  · exact T.m_Sender_without_row
  · exact T.m_Receiver_without_row⟩
theorem met_endren (T : Tx P K mg) (s : Sd) : Met P w K mg base 12 (cSd K s) "renumbered" (spEndRen K) := ⟨_, fn_end_ren T, clSd T s, by
  cases s
  · exact T.m_Sender_renumbered
  · exact T.m_Receiver_renumbered⟩
theorem txtsP : ∀ l : List R, Paired (fun v (x : R) => v = V.str x.txt) (strVs (l.map R.txt)) l
  | [] => .nil
  | x :: r => .cons rfl (txtsP r)
theorem numsE_len (rs : List R) : (numsE rs).length ≤ 24 := ascOf_len _
theorem tab_refs {H : Hp} {f : Nat → Nat} : ∀ {l : List Nat} {ys : List V}, Paired (fun (m : Nat) y => ∃ q, y = V.ref q ∧ SqT K H q [.int (m : Int), .int (f m : Nat)]) l ys → ∃ qs : List Addr, ys = qs.map V.ref ∧ Paired (fun q kv => SqT K H q [kV kv.1, kv.2]) qs (tabK f l)
  | _, _, .nil => ⟨[], rfl, .nil⟩
  | _, _, .cons ⟨q, e, h⟩ t => by
    obtain ⟨qs, e2, h2⟩ := tab_refs t
    exact ⟨q :: qs, by rw [e, e2]; rfl, .cons h h2⟩
def spChanged (K : PySem.W.Frag) : Sp := fun vs H Q _ => ∃ (p A kn : Addr) (n : Nat) (v : V) (s : Sd) (rs : List R), vs = [.ref p, v, .ref kn, .str s.name] ∧ PenAt H p A n ∧ n + 40 ≤ 5000 ∧ EndAt K H v s rs ∧ H kn = some (.lst (strVs (rs.map R.txt))) ∧ kn ≠ p ∧ RsOk s rs ∧ rs.length < 120 ∧
  ∀ (t kn' : Addr) (v' : V) (rs' : List R) (H' : Hp), SameB p H H' → PenAt H' p A (n + 40) → EndAt K H' v' s rs' → H' kn' = some (.lst (strVs (rs'.map R.txt))) → kn' ≠ p → RsOk s rs' → rs'.length ≤ rs.length + 1 → SqT K H' t [v', .ref kn'] → Q (.ref t) H'
theorem cal_law_changed (T : Tx P K mg) : Cal P w K mg base 15 "_law_changed" (spChanged K) := by
  refine ⟨_, mkFn (k := 14) T.f_law_changed sc_law_changed (fun vs H Q E h => ?_) (fun cdv A0 outer σ H vs Q E hr h => ?_), T.g_law_changed.1, T.g_law_changed.2⟩
  · obtain ⟨p, A, kn, n, v, s, rs, rfl, _⟩ := h
    rfl
  · obtain ⟨p, A, kn, n, v, s, rs, rfl, hpen, hn, hv, hkn, hknp, ok, hl, q⟩ := h
    obtain ⟨fdN, FN, bN⟩ := ok_numbers (w := w) (base := base) T
    refine ⟨_, (pss_cons (ps_par3 (i := 4) (j := 5) (l := 6) rfl sc_law_changed.nd rfl rfl rfl (by decide) (by decide) (by decide) rfl rfl rfl (pa_cons (pe_cal (cal_law_text T) hr (by decide) (by rfl) (pa_cons (pe_cal (cal_law_row T) hr (by decide) (by rfl) (pa_cons (pv 0) (pa_cons (pv 3) pa_nil))) pa_nil)) (pa_cons (pe_cal (cal_law_draw T) hr (by decide) (by rfl) (pa_cons (pv 0) (pa_cons pe_int pa_nil))) (pa_cons (pe_cal (cal_law_draw T) hr (by decide) (by rfl) (pa_cons (pv 0) (pa_cons (pe_op op_add (pe_callB (call_lenK K) (by rfl) T.n_len boot_len (pa_cons (pv 2) pa_nil)) pe_int) pa_nil))) pa_nil))) (by rfl)) (pss_cons (ps_set (i := 7) sc_law_changed.nd rfl (by first | exact Or.inl rfl | exact Or.inr rfl) (ClX.pe_cmeth (E := En) (pe_gref T.g_Row.1) T.cr_Row T.cm_Row (fn_row_read T) (hr.mono (by decide)) pass0 (pa_cons (pv 4) pa_nil))) (C8.pss_cut (ps_if (PW.pt (pw_and (pt_cmpR op_lt (pv 5) pe_int (nomark _)) (pw_and1 (pt_cmpR (op_notInK K) (pv 4) (pv 2) (by with_unfolding_all rfl))))) (pss_one (ps_ret (pe_tup (pa_cons (pe_op (opr_ex fun s : Sd => op_ownBin (addSd T s) (fn_end_add T) (hr.mono (by decide))) (pv 1) (pv 7)) (pa_cons (pe_op op_cat (pv 2) (pe_lst (pa_cons (pv 4) pa_nil))) pa_nil))))) pss_nil) (C8.pss_cut (ps_if (PW.pt (pw_and (pt_cmpR op_eq (pv 5) pe_int (nomark _)) (pw_and1 (pt_cmpR op_lt (pv 6) (pe_callB (call_lenK K) (by rfl) T.n_len boot_len (pa_cons (pv 2) pa_nil)) (nomark _))))) (pss_one (ps_ret (pe_tup (pa_cons (pe_op (opr_ex fun s : Sd => op_ownBin (subSd T s) (fn_end_sub T) (hr.mono (by decide))) (pv 1) (pe_exK fun s : Sd => pe_ownIx (ownSd T s).2.2.2.2.2 (fn_end_getitem T) (hr.mono (by decide)) (pv 1) (pv 6))) (pa_cons (pe_op op_cat (pe_slice sl_list (pv 2) po_none (po_some (pv 6))) (pe_slice sl_list (pv 2) (po_some (pe_op op_add (pv 6) pe_int)) po_none)) pa_nil))))) pss_nil) (C8.pss_cut (ps_if (PW.pt (pw_and (pt_cmpR op_eq (pv 5) pe_int (nomark _)) (pw_and (pt_cmpR op_lt (pv 6) (pe_callB (call_lenK K) (by rfl) T.n_len boot_len (pa_cons (pv 2) pa_nil)) (nomark _)) (pw_and1 (pt_cmpR (op_notInK K) (pv 4) (pv 2) (by with_unfolding_all rfl)))))) (pss_one (ps_ret (pe_tup (pa_cons (pe_exK fun s : Sd => pe_met (met_with T s) hr (by decide) (pv 1) (pa_cons (pv 6) (pa_cons (pv 7) pa_nil))) (pa_cons (pe_op op_cat (pe_op op_cat (pe_slice sl_list (pv 2) po_none (po_some (pv 6))) (pe_lst (pa_cons (pv 4) pa_nil))) (pe_slice sl_list (pv 2) (po_some (pe_op op_add (pv 6) pe_int)) po_none)) pa_nil))))) pss_nil) (C8.pss_cut (ps_if (PW.pt (pw_and (pt_cmpR op_eq (pv 5) pe_int (nomark _)) (pw_and1 (pt_cmpR op_lt (pv 6) (pe_callB (call_lenK K) (by rfl) T.n_len boot_len (pa_cons (pv 2) pa_nil)) (nomark _))))) (pss_one (ps_ret (pe_tup (pa_cons (pe_exK fun s : Sd => pe_met (met_without T s) hr (by decide) (pv 1) (pa_cons (pv 6) pa_nil)) (pa_cons (pe_op op_cat (pe_slice sl_list (pv 2) po_none (po_some (pv 6))) (pe_slice sl_list (pv 2) (po_some (pe_op op_add (pv 6) pe_int)) po_none)) pa_nil))))) pss_nil) (C8.pss_cut (ps_if (pt_cmpR op_eq (pv 5) pe_int (nomark _)) (pss_cons (ps_asg (pe_tup (pa_cons (pe_cal (cal_law_draw T) hr (by decide) (by rfl) (pa_cons (pv 0) (pa_cons pe_int pa_nil))) (pa_cons (pe_cal (cal_law_draw T) hr (by decide) (by rfl) (pa_cons (pv 0) (pa_cons pe_int pa_nil))) pa_nil))) (pg_tupK K (n := 2) rfl (pgs_cons (pg_name (i := 8) sc_law_changed.nd rfl (by first | exact Or.inl rfl | exact Or.inr rfl)) (pgs_cons (pg_name (i := 9) sc_law_changed.nd rfl (by first | exact Or.inl rfl | exact Or.inr rfl)) pgs_nil)))) (pss_cons (ps_set (i := 10) sc_law_changed.nd rfl (by first | exact Or.inl rfl | exact Or.inr rfl) (pe_callTy (call_dictP rfl) (by rfl) T.n_dict boot_dict (pa_cons (pe_lc (own := [("_law_number", 11)]) (g := gName 11) (tt := tYes) rfl sc_law_changed.nd (pi_tupK K (pe_exK fun s : Sd => pe_prop (pv 1) (clSd T s) (propSd T s) FN (hr.mono (by decide)) bN .nil pass0 rfl)) (blkOk_by (N := ["_law_pen_here", "_law_end", "_law_known", "_law_side", "_law_page", "_law_way", "_law_at", "_law_row_here", "_law_one", "_law_two", "_law_table", "_law_number"]) (sc := defScope s_law_changed) (by decide +kernel)) (fun _ _ _ _ _ => (pg_name (i := 11) sc_law_changed.nd rfl (by first | exact Or.inl rfl | exact Or.inr rfl))) (fun _ _ _ _ _ => pts_nil) (fun _ _ _ _ _ => (pe_tup (pa_cons (pv 11) (pa_cons (pe_ifExp (pt_cmpR op_eq (pv 11) (pv 8) (nomark _)) (pv 9) (pe_ifExp (pt_cmpR op_eq (pv 11) (pv 9) (nomark _)) (pv 8) (pv 11))) pa_nil))))) pa_nil))) (pss_one (ps_ret (pe_tup (pa_cons (pe_exK fun s : Sd => pe_met (met_endren T s) hr (by decide) (pv 1) (pa_cons (pv 10) pa_nil)) (pa_cons (pe_lc (own := [("_law_page", 4)]) (g := gName 4) (tt := tYes) rfl sc_law_changed.nd (pi_listK K (pv 2)) (blkOk_by (N := ["_law_pen_here", "_law_end", "_law_known", "_law_side", "_law_page", "_law_way", "_law_at", "_law_row_here", "_law_one", "_law_two", "_law_table", "_law_number"]) (sc := defScope s_law_changed) (by decide +kernel)) (fun _ _ _ _ _ => (pg_name (i := 4) sc_law_changed.nd rfl (by first | exact Or.inl rfl | exact Or.inr rfl))) (fun _ _ _ _ _ => pts_nil) (fun _ _ _ _ _ => (pe_cal (cal_law_swapped T) hr (by decide) (by rfl) (pa_cons (pv 4) (pa_cons (pv 8) (pa_cons (pv 9) pa_nil)))))) pa_nil))))))) pss_nil) (pss_one (ps_ret (pe_tup (pa_cons (pv 1) (pa_cons (pv 2) pa_nil)))))))))))), ?_⟩
    have fk : ∀ (b : Bool) (A B : Prop), b = false → B → if b = true then A else B := fun b A B h a => by rw [h]; exact iteF a
    have tk : ∀ (b : Bool) (A B : Prop), b = true → A → if b = true then A else B := fun b A B h a => by rw [h]; exact iteT a
    have kl : ∀ l : List R, (strVs (l.map R.txt)).length = l.length := fun l => by rw [show (strVs (l.map R.txt)).length = (l.map R.txt).length from List.length_map .., List.length_map]
    have upOf : ∀ {H0 H' : Hp} {m : Nat}, PenAt H0 p A m → SameB p H0 H' → Up H0 H' := fun {H0 H' m} ⟨_, _, _, hp, _⟩ sb => sb.up hp
    refine ⟨_, rfl, _, rfl, p, A, n, s, rfl, hpen, by omega, fun r t te tf td H1 rok rfit sb1 pen1 hrt => ⟨t, te, tf, td, r, rfl, hrt, rok, fun H2 s2 => ?_⟩⟩
    refine ⟨_, rfl, p, A, n + 33, 6, rfl, pen1.same s2, by omega, by decide, by decide, fun way H3 hway sb3 pen3 => ?_⟩
    have sbA := sb1.trans ((Same.b s2).trans sb3)
    refine ⟨_, rfl, _, rfl, kn, _, rfl, .inl (SqL.of (sbA _ _ hknp hkn)), _, _, rfl, rfl, p, A, n + 34, rs.length + 1, by rw [kl]; rfl, pen3, by omega, by omega, by omega, fun at_ H4 hat sb4 pen4 => ?_⟩
    refine ⟨_, _, _, rfl, ?_⟩
    refine ⟨rfl, _, rfl, .ref (c_Row K), r, s.name, rfl, rok, sd_mem s, rfit, fun u H5 s5 hu => ?_⟩
    have sb5 : SameB p H H5 := sbA.trans (sb4.trans (Same.b s5))
    have pen5 : PenAt H5 p A (n + 35) := pen4.same s5
    have hv5 : EndAt K H5 v s rs := hv.up (upOf hpen sb5)
    have hkn5 : H5 kn = some (.lst (strVs (rs.map R.txt))) := sb5 _ _ hknp hkn
    have fin : ∀ (rs' : List R) (v' : V) (H' : Hp) (kn' t : Addr), SameB p H5 H' → PenAt H' p A (n + 40) → EndAt K H' v' s rs' → H' kn' = some (.lst (strVs (rs'.map R.txt))) → kn' ≠ p → RsOk s rs' → rs'.length ≤ rs.length + 1 → SqT K H' t [v', .ref kn'] → Q (.ref t) H' := fun rs' v' H' kn' t sb pen hv' hk hne ok' hl' ht => q t kn' v' rs' H' (sb5.trans sb) pen hv' hk hne ok' hl' ht
    clear q
    obtain ⟨a, dx, fsA, vsA, rfl, ha⟩ := id hv5
    obtain ⟨b, dy, dl, el, fl, kl2, ys, rfl, hb⟩ := id hu
    let σ5 : L2.St := [some (.ref p), some (.ref a), some (.ref kn), some (.str s.name), some (.str r.txt), some (.int way), some (.int at_), some (.ref b), none, none, none, none]
    -- the new list of texts and the pair
    have pair : ∀ (rs' : List R) (v' : V) (H6 : Hp), Same H5 H6 → EndAt K H6 v' s rs' → RsOk s rs' → rs'.length ≤ rs.length + 1 → ∀ k, H6 k = none → ∀ t, (upd H6 k (.lst (strVs (rs'.map R.txt)))) t = none → Q (.ref t) (upd (upd H6 k (.lst (strVs (rs'.map R.txt)))) t (.tup [v', .ref k])) := fun rs' v' H6 s6 hv6 ok6 hl6 k hk t ht => by
      have u1 := same_upd hk (o := .lst (strVs (rs'.map R.txt)))
      have u2 := same_upd ht (o := .tup [v', .ref k])
      exact fin rs' v' _ k t (Same.b (s6.trans (u1.trans u2))) ((pen5.same (s6.trans (u1.trans u2))).mono (by omega)) (hv6.up (Same.up (u1.trans u2))) (u2 _ _ upd_same) ((pen5.same s6).ne hk) ok6 hl6 (SqT.of upd_same)
    refine ⟨fun σ' H' => H' = H5 ∧ σ' = σ5, ?_, ?_⟩
    · refine ⟨_, rfl, _, _, rfl, rfl, _, rfl, ?_⟩
      by_cases h1 : way < 2
      · refine tk _ _ _ (decide_eq_true (by omega)) ⟨_, rfl, _, rfl, kn, _, rfl, .inl (SqL.of hkn5), rfl, flat_strs _, _, rfl, ?_⟩
        rw [if_pos rfl, show inV (.str r.txt) (strVs (rs.map R.txt)) = decide (r.txt ∈ rs.map R.txt) from inV_str _ _]
        by_cases h2 : r.txt ∈ rs.map R.txt
        · exact fk _ _ _ (by rw [decide_eq_true h2]; rfl) ⟨rfl, rfl⟩
        · refine tk _ _ _ (by rw [decide_eq_false h2]; rfl) ?_
          have ok6 : RsOk s (rs ++ [r]) := RsOk.put (a := rs) (b := []) (by rw [List.append_nil]; exact ok) rok rfit (by rw [List.append_nil]; exact h2) (by rw [List.append_nil]; exact hl)
          refine ⟨_, rfl, _, rfl, s, a, _, _, b, _, _, rfl, rfl, ha.at_, hb.at_, _, _, s, rs, r, rfl, hv5, hu, ok6, fun v' H6 s6 hv6 => ?_⟩
          refine ⟨_, rfl, _, rfl, (by show 1 ≤ sizeLine; decide), fun l1 g1 => ⟨kn, l1, _, _, rfl, rfl, (same_upd g1) _ _ (s6 _ _ hkn5), upd_same, le_line (by rw [kl]; show rs.length + 1 ≤ _; omega), fun k hk => ⟨(by show 2 ≤ sizeLine; decide), fun t ht => ?_⟩⟩⟩
          have e1 : strVs (rs.map R.txt) ++ [.str r.txt] = strVs ((rs ++ [r]).map R.txt) := by
            unfold strVs; rw [List.map_append, List.map_append]; rfl
          rw [e1] at ht ⊢
          exact pair (rs ++ [r]) v' _ (s6.trans (same_upd g1)) (hv6.up (Same.up (same_upd g1))) ok6 (by rw [List.length_append]; exact Nat.le_refl _) k hk t ht
      · exact fk _ _ _ (decide_eq_false (by omega)) ⟨rfl, rfl⟩
    rintro σ' H' ⟨rfl, rfl⟩
    -- the list cut at `at_`
    have cuts : ∀ {H6 : Hp} (R6 : VK), Same H' H6 → at_ < rs.length → (∀ H7 k, Same H6 H7 → H7 k = none → R6 (.ref k) (upd H7 k (.lst (strVs ((rs.take at_ ++ rs.drop (at_ + 1)).map R.txt))))) → tOp rCat (tSl (rSlL K) (tVar 2) tNoPart (tPart (tVar 6))) (tSl (rSlL K) (tVar 2) (tPart (tOp (rI0 fun i j => V.int (i + j)) (tVar 6) (tC (V.int 1)))) tNoPart) σ5 H6 R6 := fun {H6} R6 s6 hlt kk => by
      refine ⟨_, rfl, _, rfl, _, rfl, kn, _, rfl, SqL.of (s6 _ _ hkn5), fun k1 g1 => ?_⟩
      have u1 := same_upd g1 (o := .lst (cutV (strVs (rs.map R.txt)) none (some (at_ : Int))))
      refine ⟨_, rfl, _, rfl, _, _, rfl, rfl, _, rfl, kn, _, rfl, SqL.of (u1 _ _ (s6 _ _ hkn5)), fun k2 g2 => ?_⟩
      have u2 := same_upd g2 (o := .lst (cutV (strVs (rs.map R.txt)) (some ((at_ : Int) + 1)) none))
      refine ⟨k1, k2, _, _, rfl, rfl, u2 _ _ upd_same, upd_same, ?_, fun k hk => ?_⟩
      · rw [cut_to _ (by rw [kl]; omega), show ((at_ : Int) + 1) = ((at_ + 1 : Nat) : Int) from rfl, cut_from _ (by rw [kl]; omega), List.length_take, List.length_drop, kl]
        exact le_line (by omega)
      · have e : cutV (strVs (rs.map R.txt)) none (some (at_ : Int)) ++ cutV (strVs (rs.map R.txt)) (some ((at_ : Int) + 1)) none = strVs ((rs.take at_ ++ rs.drop (at_ + 1)).map R.txt) := by
          rw [cut_to _ (by rw [kl]; omega), show ((at_ : Int) + 1) = ((at_ + 1 : Nat) : Int) from rfl, cut_from _ (by rw [kl]; omega)]
          unfold strVs
          rw [List.map_append, List.map_append, List.map_take, List.map_take, List.map_drop, List.map_drop]
        rw [e]
        exact kk _ k (u1.trans u2) hk
    have shorter : at_ < rs.length → (rs.take at_ ++ rs.drop (at_ + 1)).length ≤ rs.length := fun h => by
      rw [List.length_append, List.length_take, List.length_drop]; omega
    have lenT : ∀ (R6 : Bool → Hp → Prop), R6 (decide (at_ < rs.length)) H' → tTest (tOp (rI0 fun i j => V.bl (decide (i < j))) (tVar 6) (tCB (rLenK K) (tCons (tVar 2) tNil))) σ5 H' R6 := fun R6 h => by
      refine ⟨_, rfl, _, rfl, kn, _, rfl, .inl (SqL.of hkn5), _, _, rfl, rfl, _, rfl, ?_⟩
      rw [kl, show decide ((at_ : Int) < (rs.length : Int)) = decide (at_ < rs.length) from decide_eq_decide.mpr (by omega)]
      exact h
    have wayE : ∀ (m : Nat), decide (V.int (way : Int) = V.int (m : Int)) = decide (way = m) := fun m => decide_eq_decide.mpr ⟨fun e => by have := V.int.inj e; omega, fun e => by rw [e]⟩
    have rok1 : ∀ r0, rs[at_]? = some r0 → RsOk s (rs.take at_ ++ rs.drop (at_ + 1)) := fun r0 h => ok.sub (drop1_sub h)
    have getAt : at_ < rs.length → ∃ r0, rs[at_]? = some r0 := fun h => ⟨_, List.getElem?_eq_getElem h⟩
    refine ⟨fun σ' H2' => H2' = H' ∧ σ' = σ5, ?_, ?_⟩
    · refine ⟨_, rfl, rfl, _, rfl, ?_⟩
      by_cases h1 : way = 2
      · refine tk _ _ _ ((wayE 2).trans (decide_eq_true h1)) (lenT _ ?_)
        by_cases h2 : at_ < rs.length
        · refine tk _ _ _ (decide_eq_true h2) ?_
          obtain ⟨r0, hr0⟩ := getAt h2
          refine ⟨_, rfl, s, _, rfl, _, rfl, a, _, _, rfl, ha.at_, _, s, rs, at_, r0, rfl, hv5, hr0, fun u0 hu0 => ?_⟩
          obtain ⟨b0, dy0, dl0, el0, fl0, kl0, ys0, rfl, hb0⟩ := id hu0
          refine ⟨s, a, _, _, b0, _, _, rfl, rfl, ha.at_, hb0.at_, _, _, s, rs, r0, rfl, hv5, hu0, Nat.le_of_lt hl, any_key hr0, by rw [filter_drop1 ok hr0]; exact rok1 r0 hr0, fun v' H6 s6 hv6 => ?_⟩
          rw [filter_drop1 ok hr0] at hv6
          refine cuts _ s6 h2 fun H7 k s7 hk => ⟨(by show 2 ≤ sizeLine; decide), fun t ht => ?_⟩
          exact pair _ v' H7 (s6.trans s7) (hv6.up (Same.up s7)) (rok1 r0 hr0) (Nat.le_succ_of_le (shorter h2)) k hk t ht
        · exact fk _ _ _ (decide_eq_false h2) ⟨rfl, rfl⟩
      · exact fk _ _ _ ((wayE 2).trans (decide_eq_false h1)) ⟨rfl, rfl⟩
    rintro σ' H2' ⟨rfl, rfl⟩
    refine ⟨fun σ' H3' => H3' = H2' ∧ σ' = σ5, ?_, ?_⟩
    · refine ⟨_, rfl, rfl, _, rfl, ?_⟩
      by_cases h1 : way = 3
      · refine tk _ _ _ ((wayE 3).trans (decide_eq_true h1)) (lenT _ ?_)
        by_cases h2 : at_ < rs.length
        · refine tk _ _ _ (decide_eq_true h2) ⟨_, rfl, _, rfl, kn, _, rfl, .inl (SqL.of hkn5), rfl, flat_strs _, _, rfl, ?_⟩
          rw [if_pos rfl, show inV (.str r.txt) (strVs (rs.map R.txt)) = decide (r.txt ∈ rs.map R.txt) from inV_str _ _]
          by_cases h3 : r.txt ∈ rs.map R.txt
          · exact fk _ _ _ (by rw [decide_eq_true h3]; rfl) ⟨rfl, rfl⟩
          refine tk _ _ _ (by rw [decide_eq_false h3]; rfl) ?_
          obtain ⟨r0, hr0⟩ := getAt h2
          have ok6 : RsOk s (rs.take at_ ++ r :: rs.drop (at_ + 1)) := RsOk.put (rok1 r0 hr0) rok rfit (fun hm => h3 (((drop1_sub hr0).map R.txt).subset hm)) (Nat.lt_of_le_of_lt (shorter h2) hl)
          refine ⟨s, _, rfl, a, _, _, rfl, ha.at_, endFs_no, _, rfl, _, rfl, _, _, s, rs, at_, r, rfl, hv5, hu, h2, ok6, Nat.le_of_lt hl, fun v' H6 s6 hv6 => ?_⟩
          refine ⟨_, rfl, _, rfl, _, rfl, kn, _, rfl, SqL.of (s6 _ _ hkn5), fun k1 g1 => ?_⟩
          have u1 := same_upd g1 (o := .lst (cutV (strVs (rs.map R.txt)) none (some (at_ : Int))))
          refine ⟨_, rfl, (by show 1 ≤ sizeLine; decide), fun l1 g2 => ?_⟩
          have u2 := same_upd g2 (o := .lst [.str r.txt])
          have ec1 : cutV (strVs (rs.map R.txt)) none (some (at_ : Int)) = (strVs (rs.map R.txt)).take at_ := cut_to _ (by rw [kl]; omega)
          have ec2 : cutV (strVs (rs.map R.txt)) (some ((at_ : Int) + 1)) none = (strVs (rs.map R.txt)).drop (at_ + 1) := by
            rw [show ((at_ : Int) + 1) = ((at_ + 1 : Nat) : Int) from rfl, cut_from _ (by rw [kl]; omega)]
          refine ⟨k1, l1, _, _, rfl, rfl, u2 _ _ upd_same, upd_same, le_line (by rw [ec1, List.length_take, kl]; show min at_ rs.length + 1 ≤ _; omega), fun k3 g3 => ?_⟩
          have u3 := same_upd g3 (o := .lst (cutV (strVs (rs.map R.txt)) none (some (at_ : Int)) ++ [.str r.txt]))
          have u123 := u1.trans (u2.trans u3)
          refine ⟨_, rfl, _, rfl, _, _, rfl, rfl, _, rfl, kn, _, rfl, SqL.of (u123 _ _ (s6 _ _ hkn5)), fun k2 g4 => ?_⟩
          have u4 := same_upd g4 (o := .lst (cutV (strVs (rs.map R.txt)) (some ((at_ : Int) + 1)) none))
          refine ⟨k3, k2, _, _, rfl, rfl, u4 _ _ upd_same, upd_same, le_line (by rw [ec1, ec2, List.length_append, List.length_take, List.length_drop, kl]; show min at_ rs.length + 1 + _ ≤ _; omega), fun k hk => ⟨(by show 2 ≤ sizeLine; decide), fun t ht => ?_⟩⟩
          have e : cutV (strVs (rs.map R.txt)) none (some (at_ : Int)) ++ [.str r.txt] ++ cutV (strVs (rs.map R.txt)) (some ((at_ : Int) + 1)) none = strVs ((rs.take at_ ++ r :: rs.drop (at_ + 1)).map R.txt) := by
            rw [ec1, ec2]
            unfold strVs
            rw [List.map_append, List.map_append, List.map_cons, List.map_cons, List.map_take, List.map_take, List.map_drop, List.map_drop, List.append_assoc]; rfl
          rw [e] at ht ⊢
          exact pair _ v' _ (s6.trans (u123.trans u4)) (hv6.up (Same.up (u123.trans u4))) ok6 (by rw [List.length_append, List.length_cons]; have := shorter h2; rw [List.length_append] at this; omega) k hk t ht
        · exact fk _ _ _ (decide_eq_false h2) ⟨rfl, rfl⟩
      · exact fk _ _ _ ((wayE 3).trans (decide_eq_false h1)) ⟨rfl, rfl⟩
    rintro σ' H3' ⟨rfl, rfl⟩
    refine ⟨fun σ' H4' => H4' = H3' ∧ σ' = σ5, ?_, ?_⟩
    · refine ⟨_, rfl, rfl, _, rfl, ?_⟩
      by_cases h1 : way = 4
      · refine tk _ _ _ ((wayE 4).trans (decide_eq_true h1)) (lenT _ ?_)
        by_cases h2 : at_ < rs.length
        · refine tk _ _ _ (decide_eq_true h2) ?_
          obtain ⟨r0, hr0⟩ := getAt h2
          refine ⟨s, _, rfl, a, _, _, rfl, ha.at_, endFs_no, _, rfl, _, s, rs, at_, rfl, hv5, h2, rok1 r0 hr0, Nat.le_of_lt hl, fun v' H6 s6 hv6 => ?_⟩
          refine cuts _ s6 h2 fun H7 k s7 hk => ⟨(by show 2 ≤ sizeLine; decide), fun t ht => ?_⟩
          exact pair _ v' H7 (s6.trans s7) (hv6.up (Same.up s7)) (rok1 r0 hr0) (Nat.le_succ_of_le (shorter h2)) k hk t ht
        · exact fk _ _ _ (decide_eq_false h2) ⟨rfl, rfl⟩
      · exact fk _ _ _ ((wayE 4).trans (decide_eq_false h1)) ⟨rfl, rfl⟩
    rintro σ' H4' ⟨rfl, rfl⟩
    refine ⟨fun σ' H6' => H6' = H4' ∧ σ' = σ5, ?_, ?_⟩
    · refine ⟨_, rfl, rfl, _, rfl, ?_⟩
      by_cases h1 : way = 5
      · refine tk _ _ _ ((wayE 5).trans (decide_eq_true h1)) ?_
        refine ⟨_, rfl, p, A, n + 35, 6, rfl, pen5, by omega, by decide, by decide, fun one Ha hone sba pena => ⟨_, rfl, p, A, n + 36, 6, rfl, pena, by omega, by decide, by decide, fun two Hb htwo sbb penb => ⟨(by show 2 ≤ sizeLine; decide), fun t1 g1 => ⟨t1, _, rfl, SqT.of upd_same, rfl, _, _, rfl, _, _, rfl, rfl, ?_⟩⟩⟩⟩
        have u1 := same_upd g1 (o := .tup [.int one, .int two])
        have sbc := sba.trans (sbb.trans (Same.b u1))
        have penc := penb.same u1
        generalize upd Hb t1 (.tup [.int one, .int two]) = Hc at sbc penc
        have hvc := hv5.up (upOf pen5 sbc)
        have hac := ha.up (upOf pen5 sbc)
        have hknc := sbc _ _ hknp hkn5
        have nle := numsE_len rs
        refine ⟨s, _, rfl, a, _, _, rfl, hac.at_, .ref a, s, rs, rfl, hvc, ok, fun tn Hd sd htn => ⟨tn, rfl, ⟨_, htn⟩, ?_⟩⟩
        refine lc_mapT (tt := tYes) (ds := numsE rs) (A := fun v (m : Nat) => v = V.int m) (b := fun _ => true) (P := fun m y H0 => ∃ q, y = V.ref q ∧ SqT K H0 q [.int (m : Int), .int (swN one two m : Nat)]) htn (natsP _) (fun _ _ _ _ up ⟨q, e, h⟩ => ⟨q, e, up.sqt h⟩) (fun _ => rfl) (fun x d H2 R _ _ _ k => k H2 (Same.refl _)) (fun x m H2 R hx hm _ s2 k => ?_) (lt_line (by omega)) fun H2 D2 ys hD2 s2 hy hp2 => ?_
        · subst hx
          refine ⟨_, rfl, _, rfl, _, rfl, rfl, _, rfl, ?_⟩
          have ei : ∀ c : Nat, decide (V.int (m : Int) = V.int (c : Int)) = decide (m = c) := fun c => decide_eq_decide.mpr ⟨fun e => by have := V.int.inj e; omega, fun e => by rw [e]⟩
          by_cases c1 : m = one
          · refine tk _ _ _ ((ei one).trans (decide_eq_true c1)) ⟨_, rfl, (by show 2 ≤ sizeLine; decide), fun q hq => k _ _ (same_upd hq) ⟨q, rfl, ?_⟩⟩
            rw [show swN one two m = two from if_pos c1]
            exact SqT.of upd_same
          · refine fk _ _ _ ((ei one).trans (decide_eq_false c1)) ⟨_, rfl, _, rfl, rfl, _, rfl, ?_⟩
            by_cases c2 : m = two
            · refine tk _ _ _ ((ei two).trans (decide_eq_true c2)) ⟨_, rfl, (by show 2 ≤ sizeLine; decide), fun q hq => k _ _ (same_upd hq) ⟨q, rfl, ?_⟩⟩
              rw [show swN one two m = one from (if_neg c1).trans (if_pos c2)]
              exact SqT.of upd_same
            · refine fk _ _ _ ((ei two).trans (decide_eq_false c2)) ⟨_, rfl, (by show 2 ≤ sizeLine; decide), fun q hq => k _ _ (same_upd hq) ⟨q, rfl, ?_⟩⟩
              rw [show swN one two m = m from (if_neg c1).trans (if_neg c2)]
              exact SqT.of upd_same
        rw [filter_true] at hp2
        obtain ⟨qs, rfl, hqs⟩ := tab_refs hp2
        refine ⟨D2, qs, tabK (swN one two) (numsE rs), rfl, SqL.of hy, hqs, fun dct hdct => ?_⟩
        rw [show mergeK [] (tabK (swN one two) (numsE rs)) = tabK (swN one two) (numsE rs) from merge_tab _ _ [] (asc_nodup _)]
        have s3 := (sd.trans s2).trans (same_upd hdct (o := .dK (tabK (swN one two) (numsE rs))))
        have h1' : one ≤ 5 := by omega
        have h2' : two ≤ 5 := by omega
        refine ⟨s, _, rfl, a, _, _, rfl, (hac.up (Same.up s3)).at_, endFs_no, _, rfl, .ref a, s, rs, dct, swN one two, rfl, hvc.up (Same.up s3), upd_same, ok, fun m hm => swN_le h1' h2' (numsE_le ok hm), fun x y _ _ e => swN_inj e, ok.ren h1' h2', fun v' H6 s6 hv6 => ?_⟩
        have s36 := s3.trans s6
        have hkn6 := s36 _ _ hknc
        refine ⟨_, rfl, kn, rfl, ⟨_, SqL.of hkn6⟩, ?_⟩
        refine lc_mapL (tt := tYes) (ds := rs) (A := fun v (x : R) => v = V.str x.txt) (b := fun _ => true) (P := fun x y _ => y = V.str (x.ren (swN one two)).txt) (SqL.of hkn6) (txtsP rs) (fun _ _ _ _ _ h => h) (fun _ => rfl) (fun x d H2 R _ _ _ k => k H2 (Same.refl _)) (fun x q H2 R hx hq _ s2 k => ?_) (lt_line (by omega)) fun H7 D7 zs hD7 s7 hz hp7 => ?_
        · subst hx
          exact ⟨_, rfl, _, rfl, _, rfl, q, one, two, rfl, ok.ok q hq, h1', h2', fun H' s' => k _ _ s' rfl⟩
        rw [filter_true] at hp7
        have ez : zs = strVs ((rs.map (R.ren (swN one two))).map R.txt) := by
          unfold strVs
          rw [List.map_map, List.map_map]
          exact paired_map (f := fun x : R => V.str (x.ren (swN one two)).txt) hp7
        refine ⟨(by show 2 ≤ sizeLine; decide), fun t ht => ?_⟩
        have u7 := same_upd ht (o := .tup [v', .ref D7])
        exact fin (rs.map (R.ren (swN one two))) v' _ D7 t (sbc.trans (Same.b (s36.trans (s7.trans u7)))) ((penc.same (s36.trans (s7.trans u7))).mono (by omega)) (hv6.up (Same.up (s7.trans u7))) (by rw [← ez]; exact u7 _ _ hz) ((penc.same s36).ne hD7) (ok.ren h1' h2') (by rw [List.length_map]; exact Nat.le_succ _) (SqT.of upd_same)
      · exact fk _ _ _ ((wayE 5).trans (decide_eq_false h1)) ⟨rfl, rfl⟩
    rintro σ' H6' ⟨rfl, rfl⟩
    refine ⟨_, rfl, _, rfl, (by show 2 ≤ sizeLine; decide), fun t ht => ?_⟩
    have u2 := same_upd ht (o := .tup [.ref a, .ref kn])
    exact fin rs (.ref a) _ kn t (Same.b u2) ((pen5.same u2).mono (by omega)) (hv5.up (Same.up u2)) (u2 _ _ hkn5) hknp ok (Nat.le_succ _) (SqT.of upd_same)
end
end L2.My
end
section
set_option Elab.async false
set_option linter.all false
set_option autoImplicit false
set_option maxRecDepth 100000
set_option maxHeartbeats 4000000
/-! the law: an end is as its texts say -/
namespace L2.My
open PySem PySem.Spec PyProof.Rows He SX
section
variable {P : Program} {w : World} {K : PySem.W.Frag} {mg : Str → Option Value} {base : Heap}
def spIs (K : PySem.W.Frag) : Sp := fun vs H Q _ => ∃ (v : V) (kn : Addr) (s : Sd) (rs : List R), vs = [v, .ref kn, .str s.name] ∧ EndAt K H v s rs ∧ SqL K H kn (strVs (rs.map R.txt)) ∧ RsOk s rs ∧ ∀ H', Same H H' → Q (.bl true) H'
theorem cal_law_is (T : Tx P K mg) : Cal P w K mg base 15 "_law_is" (spIs K) := by
  refine ⟨_, mkFn (k := 14) T.f_law_is sc_law_is (fun vs H Q E h => ?_) (fun cdv A0 outer σ H vs Q E hr h => ?_), T.g_law_is.1, T.g_law_is.2⟩
  · obtain ⟨v, kn, s, rs, rfl, _⟩ := h
    rfl
  · obtain ⟨v, kn, sd, rs, rfl, hv, hkn, ok, q⟩ := h
    refine ⟨_, (pss_cons (ps_if (PW.pt (pw_or (pt_cmpR (op_neD hr.units) (pe_lc (own := [("_law_row_here", 4)]) (g := gName 4) (tt := tYes) rfl sc_law_is.nd (pi_own (ownSd T sd).2.2.2.1 (fnn_end_iter T sd) (hr.mono (by decide)) (pv 0)) (blkOk_by (N := ["_law_end", "_law_known", "_law_side", "_law_again", "_law_row_here", "_law_at"]) (sc := defScope s_law_is) (by decide +kernel)) (fun _ _ _ _ _ => (pg_name (i := 4) sc_law_is.nd rfl (by first | exact Or.inl rfl | exact Or.inr rfl))) (fun _ _ _ _ _ => pts_nil) (fun _ _ _ _ _ => (pe_callTy (call_ownStr (own_of T.m_Row_str) (fn_row_str T) (hr.mono (by decide))) (by rfl) T.n_str boot_str (pa_cons (pv 4) pa_nil)))) (pv 1) (nomark _)) (pw_or1 (pt_cmpR op_ne (pe_callB (callr_ex fun s : Sd => call_ownLen (ownSd T s).2.2.1 (fn_end_len T) (hr.mono (by decide))) (by rfl) T.n_len boot_len (pa_cons (pv 0) pa_nil)) (pe_callB (call_lenK K) (by rfl) T.n_len boot_len (pa_cons (pv 1) pa_nil)) (nomark _))))) (pss_one (ps_ret pe_bl)) pss_nil) (C8.pss_cut (ps_set (i := 3) sc_law_is.nd rfl (by first | exact Or.inl rfl | exact Or.inr rfl) (pe_ifExp (pt_cmpR op_eq (pv 2) pe_str (nomark _)) (ClX.pe_cmeth (E := En) (pe_gref T.g_Sender.1) T.cr_Sender T.cm_Sender (fn_sender_read T) (hr.mono (by decide)) pass0 (pa_cons (pe_callTy (callr_ex fun s : Sd => call_ownStr (ownSd T s).2.2.2.2.1 (fn_end_str T) (hr.mono (by decide))) (by rfl) T.n_str boot_str (pa_cons (pv 0) pa_nil)) pa_nil)) (ClX.pe_cmeth (E := En) (pe_gref T.g_Receiver.1) T.cr_Receiver T.cm_Receiver (fn_receiver_read T) (hr.mono (by decide)) pass0 (pa_cons (pe_callTy (callr_ex fun s : Sd => call_ownStr (ownSd T s).2.2.2.2.1 (fn_end_str T) (hr.mono (by decide))) (by rfl) T.n_str boot_str (pa_cons (pv 0) pa_nil)) pa_nil)))) (pss_one (ps_ret (pe_and (pe_cmpR (opr_ex fun s : Sd => op_ownEq (ownSd T s).2.1 (fn_end_eq T) (hr.mono (by decide))) (pv 3) (pv 0) (nomark _)) (pe_one (pe_cmpR (op_eqD hr.units) (pe_lc (own := [("_law_at", 5)]) (g := gName 5) rfl sc_law_is.nd (pi_range1 rfl T.n_range (pa_cons (pe_callB (call_lenK K) (by rfl) T.n_len boot_len (pa_cons (pv 1) pa_nil)) pa_nil)) (blkOk_by (N := ["_law_end", "_law_known", "_law_side", "_law_again", "_law_row_here", "_law_at"]) (sc := defScope s_law_is) (by decide +kernel)) (fun _ _ _ _ _ => (pg_name (i := 5) sc_law_is.nd rfl (by first | exact Or.inl rfl | exact Or.inr rfl))) (fun _ _ _ _ _ => (pts_one (PW.pt (pw_or (pt_cmpR (opr_ex fun s : Sd => op_ownNotIn (ownSd_contains T s) (fn_end_contains T) (hr.mono (by decide))) (pe_exK fun s : Sd => pe_ownIx (ownSd T s).2.2.2.2.2 (fn_end_getitem T) (hr.mono (by decide)) (pv 0) (pv 5)) (pv 3) (by with_unfolding_all rfl)) (pw_or1 (pt_cmpR (op_ownNeK K (own_of T.m_Row_eq) T.ne_Row (fn_row_eq T) (hr.mono (by decide))) (pe_exK fun s : Sd => pe_ownIx (ownSd T s).2.2.2.2.2 (fn_end_getitem T) (hr.mono (by decide)) (pv 3) (pv 5)) (pe_exK fun s : Sd => pe_ownIx (ownSd T s).2.2.2.2.2 (fn_end_getitem T) (hr.mono (by decide)) (pv 0) (pv 5)) (nomark _))))))) (fun _ _ _ _ _ => (pv 5))) (pe_lst pa_nil) (nomark _)))))))), ?_⟩
    have fk : ∀ (b : Bool) (A B : Prop), b = false → B → if b = true then A else B := fun b A B h a => by rw [h]; exact iteF a
    have tk : ∀ (b : Bool) (A B : Prop), b = true → A → if b = true then A else B := fun b A B h a => by rw [h]; exact iteT a
    have kl : ∀ l : List R, (strVs (l.map R.txt)).length = l.length := fun l => by rw [show (strVs (l.map R.txt)).length = (l.map R.txt).length from List.length_map .., List.length_map]
    have hsok : ∀ x ∈ rs.map R.txt, Sok x := fun x hx => by
      obtain ⟨r, _, rfl⟩ := List.mem_map.mp hx
      exact sok_txt r
    obtain ⟨a, dx, l, xs, rfl, ha⟩ := id hv
    refine ⟨_, rfl, a, _, _, l, xs, rfl, ha.at_, endFs_rows, ha.rw_, ?_⟩
    refine lc_mapT (tt := tYes) (ds := rs) (A := RowAt K H) (b := fun _ => true) (P := fun r v _ => v = V.str r.txt) ha.rw_ ha.rp (fun _ _ _ _ _ h => h) (fun _ => rfl) (fun x d H2 R _ _ _ k => k H2 (Same.refl _)) (fun x r H2 R hx hd _ s2 k => ?_) (lt_line (by have := ok.len; omega)) fun H2 D2 ys _ s2 hy hp2 => ?_
    · obtain ⟨b, dy, dl, el, fl, kl, zs, rfl, g⟩ := hx
      have g2 := g.up (Same.up s2)
      exact ⟨_, rfl, b, dy, _, rfl, g2.at_, _, r, rfl, ⟨b, dy, dl, el, fl, kl, zs, rfl, g2⟩, ok.ok r hd, fun H3 s3 => ⟨_, rfl, k _ _ s3 rfl⟩⟩
    rw [filter_true] at hp2
    have ey : ys = strVs (rs.map R.txt) := by
      unfold strVs
      rw [List.map_map]
      exact paired_map (f := V.str ∘ R.txt) hp2
    subst ey
    refine ⟨_, rfl, _, _, dp_strs (SqL.of hy), dp_strs (s2.seq hkn), shaped_strs hsok, shaped_strs hsok, _, rfl, ?_⟩
    rw [show PyData.eqv (.list ((rs.map R.txt).map PyData.str)) (.list ((rs.map R.txt).map PyData.str)) = decide (rs.map R.txt = rs.map R.txt) from eqv_strs _ _]
    have ha2 := ha.up (Same.up s2)
    refine fk _ _ _ (by rw [decide_eq_true rfl]; rfl) ?_
    refine ⟨_, rfl, sd, a, _, _, rfl, ha2.at_, _, sd, rs, rfl, hv.up (Same.up s2), _, rfl, by omega, by have := ok.len; omega, _, rfl, kn, _, rfl, .inl (s2.seq hkn), rfl, _, rfl, ?_⟩
    refine fk _ _ _ (by rw [kl, decide_eq_true rfl]; rfl) ?_
    refine ⟨fun σ' H' => ∃ u, σ' = [some (.ref a), some (.ref kn), some (.str sd.name), some u, none, none] ∧ Same H H' ∧ EndAt K H' u sd rs, ?_, ?_⟩
    · refine ⟨_, rfl, rfl, _, rfl, ?_⟩
      cases sd
      · refine tk _ _ _ (by decide) ⟨rfl, _, rfl, .snd, a, _, _, rfl, ha2.at_, _, .snd, rs, rfl, hv.up (Same.up s2), ok, fun H3 s3 => ⟨_, rfl, rs, rfl, ok, fun u H4 s4 hu => ?_⟩⟩
        exact ⟨u, rfl, s2.trans (s3.trans s4), hu⟩
      · refine fk _ _ _ (by decide) ⟨rfl, _, rfl, .rcv, a, _, _, rfl, ha2.at_, _, .rcv, rs, rfl, hv.up (Same.up s2), ok, fun H3 s3 => ⟨_, rfl, rs, rfl, ok, fun u H4 s4 hu => ?_⟩⟩
        exact ⟨u, rfl, s2.trans (s3.trans s4), hu⟩
    rintro σ' H5 ⟨u, rfl, s5, hu⟩
    have ha5 := ha.up (Same.up s5)
    have hv5 := hv.up (Same.up s5)
    obtain ⟨b, dy, l2, xs2, rfl, hb⟩ := id hu
    have nf : PySem.W.notFirst K (cSd K sd) (.ref (cSd K sd)) = true := by
      cases sd
      · exact T.nf_Sender
      · exact T.nf_Receiver
    refine ⟨_, rfl, _, rfl, sd, b, _, _, a, _, _, _, rfl, rfl, hb.at_, ha5.at_, nf, _, _, sd, rs, rfl, hu, hv5, fun H6 s6 => ⟨_, rfl, iteT ?_⟩⟩
    have s56 := s5.trans s6
    refine ⟨_, rfl, kn, _, rfl, .inl (s56.seq hkn), _, rfl, by rw [kl]; have := ok.len; omega, by rw [kl]; have := ok.len; omega, ?_⟩
    have ln2 : ((strVs (rs.map R.txt)).length : Int).toNat = rs.length := by rw [kl]; rfl
    rw [ln2]
    refine lc_mapR (n := rs.length) (lo := 0) (b := fun _ => false) (P := fun _ _ _ => True) (fun _ _ _ _ _ h => h) (fun _ => rfl) (fun d H7 R hd s7 k => ?_) (fun d H7 R hd hf => by cases hf) (lt_line (by have := ok.len; omega)) (fun H7 D7 ys hD s7 hy hp => ?_)
    · obtain ⟨r0, hr0⟩ : ∃ r0, rs[d]? = some r0 := ⟨_, List.getElem?_eq_getElem hd⟩
      rw [show (0 : Int) + (d : Int) = ((d : Nat) : Int) by omega]
      have hv7 := (hv5.up (Same.up s6)).up (Same.up s7)
      have hu7 := (hu.up (Same.up s6)).up (Same.up s7)
      have ha7 := (ha5.up (Same.up s6)).up (Same.up s7)
      have hb7 := (hb.up (Same.up s6)).up (Same.up s7)
      refine ⟨sd, _, rfl, _, rfl, a, _, _, rfl, ha7.at_, _, sd, rs, d, r0, rfl, hv7, hr0, fun u0 hu0 => ?_⟩
      refine ⟨_, rfl, sd, b, _, _, rfl, hb7.at_, _, _, sd, rs, r0, rfl, hu7, ok.len, hu0, fun H8 s8 => ⟨_, rfl, _, rfl, ?_⟩⟩
      rw [any_key hr0]
      refine fk _ _ _ rfl ?_
      have hv8 := hv7.up (Same.up s8)
      have hu8 := hu7.up (Same.up s8)
      have ha8 := ha7.up (Same.up s8)
      have hb8 := hb7.up (Same.up s8)
      refine ⟨sd, _, rfl, _, rfl, b, _, _, rfl, hb8.at_, _, sd, rs, d, r0, rfl, hu8, hr0, fun u1 hu1 => ?_⟩
      refine ⟨sd, _, rfl, _, rfl, a, _, _, rfl, ha8.at_, _, sd, rs, d, r0, rfl, hv8, hr0, fun u2 hu2 => ?_⟩
      obtain ⟨c, dz, ml, fl2, gl, kl2, zs, rfl, g⟩ := id hu1
      obtain ⟨e, dw, nl, fl3, hl3, kl3, zs3, rfl, g3⟩ := id hu2
      refine ⟨c, dz, _, e, _, dw, _, rfl, rfl, g.at_, g3.at_, T.nf_Row, _, _, r0, r0, rfl, hu1, hu2, _, rfl, _, rfl, ?_⟩
      rw [keyEq_self]
      exact k _ s8
    · have e0 : ((List.range rs.length).filter fun _ => false) = [] := by simp
      rw [e0] at hp
      have ey : ys = [] := by cases hp; rfl
      subst ey
      refine ⟨Nat.zero_le _, fun z hz => ?_⟩
      have uz := same_upd hz (o := .lst [])
      refine ⟨_, _, .lst (SqL.of (uz _ _ hy)) .nil, .lst (SqL.of upd_same) .nil, by decide, by decide, ?_⟩
      exact q _ (s56.trans (s7.trans uz))
end
end L2.My
end
section
set_option Elab.async false
set_option linter.all false
set_option autoImplicit false
set_option maxRecDepth 100000
set_option maxHeartbeats 4000000
/-! the law -/
namespace L2.My
open PySem PySem.Spec PyProof.Rows He SX
section
variable {P : Program} {w : World} {K : PySem.W.Frag} {mg : Str → Option Value} {base : Heap}
def sidesV : List V := [.str "sender", .str "receiver"]
theorem PenAt.neA {H : Hp} {p A l : Addr} {n : Nat} (h : PenAt H p A n) (hl : H l = none) : A ≠ l := fun e => by
  obtain ⟨_, _, _, _, hA, _⟩ := h
  rw [e, hl] at hA; cases hA
theorem PenAt.updE {H : Hp} {p A l : Addr} {n : Nat} {o : HO} (h : PenAt H p A n) (h1 : l ≠ p) (h2 : A ≠ l) : PenAt (upd H l o) p A n := by
  obtain ⟨c, s, g, hp, hA, r⟩ := h
  exact ⟨c, s, g, by rw [upd_ne h1.symm]; exact hp, by rw [upd_ne h2]; exact hA, r⟩
theorem refs_ne {es : List V} {t : Addr} {l : List Str} (h : strVs l = es ++ [V.ref t]) : False := by
  have hm : V.ref t ∈ strVs l := by rw [h]; exact List.mem_append_right _ List.mem_cons_self
  obtain ⟨x, _, e⟩ := List.mem_map.mp hm
  cases e
def Elder (K : PySem.W.Frag) (p E : Addr) (s : Sd) (H : Hp) (y : V) : Prop := ∃ (t : Addr) (v : V) (kn : Addr) (rs : List R), y = .ref t ∧ SqT K H t [v, .ref kn] ∧ EndAt K H v s rs ∧ H kn = some (.lst (strVs (rs.map R.txt))) ∧ kn ≠ p ∧ kn ≠ E ∧ RsOk s rs
def spLaw (K : PySem.W.Frag) : Sp := fun vs H Q _ => ∃ (a : Addr) (ns : List Int), vs = [.ref a] ∧ SqL K H a (ns.map V.int) ∧ ∀ H', Q (.bl true) H'
theorem law_ok (T : Tx P K mg) {fd : FuncData} (F : Fun K "law" "law" s_law_ (a_law_ K) fd) : FnOk P w K mg base CX0 16 (a_law_ K) fd ["_law_script"] (spLaw K) := by
  refine F.ok (k := 15) sc_law_ (fun vs H Q E h => ?_) (fun cdv A0 outer σ H vs Q E hr h => ?_)
  · obtain ⟨a, ns, rfl, _⟩ := h
    rfl
  · obtain ⟨a, ns, rfl, ha, q⟩ := h
    refine ⟨_, (pss_cons (ps_set (i := 1) sc_law_.nd rfl (by first | exact Or.inl rfl | exact Or.inr rfl) (pe_cal (cal_law_pen T) hr (by decide) (by rfl) (pa_cons (pv 0) pa_nil))) (pss_cons (ps_for PassesOwn.never rfl (pi_listK K (pe_lst (pa_cons pe_str (pa_cons pe_str pa_nil)))) (pg_name (i := 2) sc_law_.nd rfl (by first | exact Or.inl rfl | exact Or.inr rfl)) (C8.pss_cut (ps_par (i := 3) (j := 4) rfl sc_law_.nd rfl rfl (by decide) rfl rfl (pa_cons (pe_ifExp (pt_cmpR op_eq (pv 2) pe_str (nomark _)) (pe_mak0 (mak_Sender T) hr (by decide) (by rfl)) (pe_mak0 (mak_Receiver T) hr (by decide) (by rfl))) (pa_cons (pe_lst pa_nil) pa_nil)) (by rfl)) (pss_cons (ps_set (i := 5) sc_law_.nd rfl (by first | exact Or.inl rfl | exact Or.inr rfl) (pe_lst pa_nil)) (C8.pss_cut (ps_for PassesOwn.never rfl (pi_range1 rfl T.n_range (pa_cons pe_int pa_nil)) (pg_name (i := 6) sc_law_.nd rfl (by first | exact Or.inl rfl | exact Or.inr rfl)) (pss_cons (ps_expr (pe_bm PySem.F.plainAttrs_list PySem.F.slot_list_append PySem.F.type_list_append mt_append (pv 5) (pa_cons (pe_tup (pa_cons (pv 3) (pa_cons (pv 4) pa_nil))) pa_nil))) (pss_cons (ps_asg (pe_cal (cal_law_changed T) hr (by decide) (by rfl) (pa_cons (pv 1) (pa_cons (pv 3) (pa_cons (pv 4) (pa_cons (pv 2) pa_nil))))) (pg_tupK K (n := 2) rfl (pgs_cons (pg_name (i := 3) sc_law_.nd rfl (by first | exact Or.inl rfl | exact Or.inr rfl)) (pgs_cons (pg_name (i := 4) sc_law_.nd rfl (by first | exact Or.inl rfl | exact Or.inr rfl)) pgs_nil)))) (pss_one (ps_if (pt_not (pt_val (pe_cal (cal_law_is T) hr (by decide) (by rfl) (pa_cons (pv 3) (pa_cons (pv 4) (pa_cons (pv 2) pa_nil)))))) (pss_one (ps_ret pe_bl)) pss_nil))))) (pss_one (ps_if (pt_cmpR (op_neD hr.units) (pe_lc (own := [("_law_one", 7), ("_law_texts_so", 8)]) (g := gTup K 2 (gCons (gName 7) (gCons (gName 8) gNil))) rfl sc_law_.nd (pi_listK K (pv 5)) (blkOk_by (N := ["_law_script", "_law_pen_here", "_law_side", "_law_end", "_law_known", "_law_elders", "_law_turn_so", "_law_one", "_law_texts_so"]) (sc := defScope s_law_) (by decide +kernel)) (fun _ _ _ _ _ => (pg_tupK K (n := 2) rfl (pgs_cons (pg_name (i := 7) sc_law_.nd rfl (by first | exact Or.inl rfl | exact Or.inr rfl)) (pgs_cons (pg_name (i := 8) sc_law_.nd rfl (by first | exact Or.inl rfl | exact Or.inr rfl)) pgs_nil)))) (fun _ _ _ _ _ => (pts_one (pt_not (pt_val (pe_cal (cal_law_is T) hr (by decide) (by rfl) (pa_cons (pv 7) (pa_cons (pv 8) (pa_cons (pv 2) pa_nil)))))))) (fun _ _ _ _ _ => pe_int)) (pe_lst pa_nil) (nomark _)) (pss_one (ps_ret pe_bl)) pss_nil)))))) (pss_one (ps_ret pe_bl)))), ?_⟩
    have fk : ∀ (b : Bool) (A B : Prop), b = false → B → if b = true then A else B := fun b A B h a => by rw [h]; exact iteF a
    have tk : ∀ (b : Bool) (A B : Prop), b = true → A → if b = true then A else B := fun b A B h a => by rw [h]; exact iteT a
    refine ⟨_, rfl, a, ns, rfl, ha, fun p A H1 s1 hp0 pen1 => ?_⟩
    refine ⟨(by show 2 ≤ sizeLine; decide), fun L hL => ⟨L, rfl, ⟨_, SqL.of upd_same⟩, ?_⟩⟩
    have uL := same_upd hL (o := .lst sidesV)
    have hLp : L ≠ p := pen1.ne hL
    refine for_list (xs := sidesV) (fun j σ' H' => ∃ x2 x3 x4 x5 x6, σ' = [some (.ref a), some (.ref p), x2, x3, x4, x5, x6, none, none] ∧ PenAt H' p A (440 * j) ∧ H' L = some (.lst sidesV)) ⟨none, none, none, none, none, rfl, pen1.same uL, upd_same⟩ (fun j σ' H' _ hP => ?_) (fun j x σ' H' hx hP => ?_) (fun σ' H' hP => ?_)
    · obtain ⟨x2, x3, x4, x5, x6, rfl, pen, hl⟩ := hP
      exact SqL.of hl
    · obtain ⟨x2, x3, x4, x5, x6, rfl, pen, hl⟩ := hP
      obtain ⟨s, hj, rfl⟩ : ∃ s : Sd, j < 2 ∧ x = .str s.name := by
        match j, hx with
        | 0, hx => exact ⟨.snd, by decide, (Option.some.inj hx).symm⟩
        | 1, hx => exact ⟨.rcv, by decide, (Option.some.inj hx).symm⟩
        | _ + 2, hx => cases hx
      have ok0 : RsOk s [] := ⟨fun _ h => (by cases h), fun _ h => (by cases h), List.Pairwise.nil, Nat.zero_le _⟩
      refine ⟨fun σ2 H2 => ∃ v kn x5 x6, σ2 = [some (.ref a), some (.ref p), some (.str s.name), some v, some (.ref kn), x5, x6, none, none] ∧ Same H' H2 ∧ EndAt K H2 v s [] ∧ H2 kn = some (.lst []) ∧ H' kn = none, ?_, ?_⟩
      · refine ⟨_, rfl, rfl, _, rfl, ?_⟩
        cases s
        · refine tk _ _ _ (by decide) ?_
          refine end_made (s := .snd) (rs := []) (Qd := fun x H3 => tCons (tLst tNil) tNil _ H3 fun xs H4 => _) .nil ok0 fun x H3 s3 hx3 => ⟨Nat.zero_le _, fun kn hkn => ⟨_, _, rfl, ?_⟩⟩
          exact ⟨.ref x, kn, x5, x6, rfl, s3.trans (same_upd hkn), hx3.up (Same.up (same_upd hkn)), upd_same, s3.free hkn⟩
        · refine fk _ _ _ (by decide) ?_
          refine end_made (s := .rcv) (rs := []) (Qd := fun x H3 => tCons (tLst tNil) tNil _ H3 fun xs H4 => _) .nil ok0 fun x H3 s3 hx3 => ⟨Nat.zero_le _, fun kn hkn => ⟨_, _, rfl, ?_⟩⟩
          exact ⟨.ref x, kn, x5, x6, rfl, s3.trans (same_upd hkn), hx3.up (Same.up (same_upd hkn)), upd_same, s3.free hkn⟩
      rintro σ2 H2 ⟨v, kn, y5, y6, rfl, s2, hv, hkn, hkn0⟩
      have pen2 := pen.same s2
      have hl2 := s2 _ _ hl
      have hknp : kn ≠ p := pen.ne hkn0
      refine ⟨Nat.zero_le _, fun E hE => ?_⟩
      have uE := same_upd hE (o := .lst [])
      have hEp : E ≠ p := pen2.ne hE
      have hEA : A ≠ E := pen2.neA hE
      have hEL : L ≠ E := fun e => by rw [e, hE] at hl2; cases hl2
      have hEk : kn ≠ E := fun e => by rw [e, hE] at hkn; cases hkn
      let Pv : Nat → L2.St → Hp → Prop := fun i σ3 H3 => ∃ (v : V) (kn : Addr) (rs : List R) (es : List V) (x6 : Option V), σ3 = [some (.ref a), some (.ref p), some (.str s.name), some v, some (.ref kn), some (.ref E), x6, none, none] ∧ PenAt H3 p A (440 * j + 40 * i) ∧ H3 L = some (.lst sidesV) ∧ H3 E = some (.lst es) ∧ es.length = i ∧ (∀ y ∈ es, Elder K p E s H3 y) ∧ EndAt K H3 v s rs ∧ H3 kn = some (.lst (strVs (rs.map R.txt))) ∧ kn ≠ p ∧ kn ≠ E ∧ RsOk s rs ∧ rs.length ≤ i
      refine ⟨Pv 11, ?_, ?_⟩
      · refine ⟨11, rfl, by decide, by decide, for_range (n := 11) Pv ⟨v, kn, [], [], y6, rfl, pen2.same uE, uE _ _ hl2, upd_same, rfl, fun _ h => (by cases h), hv.up (Same.up uE), uE _ _ hkn, hknp, hEk, ok0, Nat.le_refl _⟩ (fun i σ3 H3 hi hP => ?_) (fun σ3 H3 hP => hP)⟩
        obtain ⟨v, kn, rs, es, x6, rfl, pen3, hl3, hE3, hes, hel, hv3, hkn3, hknp, hknE, ok, hrs⟩ := hP
        refine ⟨_, rfl, .inl ⟨rfl, _, SqL.of hE3⟩, _, rfl, _, rfl, (by show 2 ≤ sizeLine; decide), fun t ht => ?_⟩
        have ut := same_upd ht (o := .tup [v, .ref kn])
        have hE4 := ut _ _ hE3
        refine ⟨E, _, _, rfl, rfl, hE4, lt_line (by omega), ?_⟩
        have up4 : Up (upd H3 t (.tup [v, .ref kn])) (upd (upd H3 t (.tup [v, .ref kn])) E (.lst (es ++ [.ref t]))) := Up.at hE4 (fun z => z)
        have up5 : Up H3 (upd (upd H3 t (.tup [v, .ref kn])) E (.lst (es ++ [.ref t]))) := (Same.up ut).trans up4
        have h5 : ∀ {c o}, c ≠ E → H3 c = some o → (upd (upd H3 t (.tup [v, .ref kn])) E (.lst (es ++ [.ref t]))) c = some o := fun hc e => by rw [upd_ne hc]; exact ut _ _ e
        have pen5 := (pen3.same ut).updE (o := .lst (es ++ [.ref t])) hEp hEA
        have hE5 : (upd (upd H3 t (.tup [v, .ref kn])) E (.lst (es ++ [.ref t]))) E = some (.lst (es ++ [.ref t])) := upd_same
        have ht5 : SqT K (upd (upd H3 t (.tup [v, .ref kn])) E (.lst (es ++ [.ref t]))) t [v, .ref kn] := up4.sqt (SqT.of upd_same)
        generalize upd (upd H3 t (.tup [v, .ref kn])) E (.lst (es ++ [.ref t])) = H5 at up5 h5 pen5 hE5 ht5
        clear up4
        refine ⟨_, rfl, _, rfl, _, rfl, _, rfl, p, A, kn, 440 * j + 40 * i, v, s, rs, rfl, pen5, by omega, hv3.up up5, h5 hknE hkn3, hknp, ok, by omega, fun tt kn' v' rs' H6 sb6 pen6 hv6 hkn6 hknp6 ok6 hl6 htt => ?_⟩
        refine ⟨tt, _, rfl, htt, rfl, _, _, rfl, _, _, rfl, rfl, ?_⟩
        refine ⟨_, rfl, _, rfl, _, rfl, v', kn', s, rs', rfl, hv6, SqL.of hkn6, ok6, fun H7 s7 => ⟨_, rfl, iteF ?_⟩⟩
        have hE6 := sb6 _ _ hEp hE5
        have up6 : Up H5 H6 := by
          obtain ⟨_, _, _, hp5, _⟩ := pen5
          exact sb6.up hp5
        have up7 : Up H5 H7 := up6.trans (Same.up s7)
        have hknE6 : kn' ≠ E := fun e => by
          rw [e, hE6] at hkn6
          exact refs_ne (HO.lst.inj (Option.some.inj hkn6)).symm
        refine ⟨v', kn', rs', es ++ [.ref t], _, rfl, (pen6.same s7).mono (by omega), s7 _ _ (sb6 _ _ hLp (h5 hEL hl3)), s7 _ _ hE6, by rw [List.length_append, hes]; rfl, fun y hy => ?_, hv6.up (Same.up s7), s7 _ _ hkn6, hknp6, hknE6, ok6, by omega⟩
        rcases List.mem_append.mp hy with hy | hy
        · obtain ⟨t', w', kn2, rs2, rfl, g1, g2, g3, g4, g5, g6⟩ := hel y hy
          exact ⟨t', w', kn2, rs2, rfl, (up5.trans up7).sqt g1, g2.up (up5.trans up7), s7 _ _ (sb6 _ _ g4 (h5 g5 g3)), g4, g5, g6⟩
        · rw [List.mem_singleton.mp hy]
          exact ⟨t, v, kn, rs, rfl, up7.sqt ht5, hv3.up (up5.trans up7), s7 _ _ (sb6 _ _ hknp (h5 hknE hkn3)), hknp, hknE, ok⟩
      rintro σ3 H3 ⟨v, kn, rs, es, x6, rfl, pen3, hl3, hE3, hes, hel, hv3, hkn3, hknp, hknE, ok, hrs⟩
      refine ⟨_, rfl, E, rfl, ⟨_, SqL.of hE3⟩, ?_⟩
      intro D hD
      refine lc_list (xs := es) (fun j H4 => Same H3 H4 ∧ H4 D = some (.lst [])) ⟨same_upd hD, upd_same⟩ (fun j H4 _ p4 => p4.1.seq (SqL.of hE3)) (fun j y H4 hy p4 => ?_) (fun H4 p4 => ?_)
      · obtain ⟨t', w', kn2, rs2, rfl, g1, g2, g3, g4, g5, g6⟩ := hel y (List.mem_of_getElem? hy)
        refine ⟨t', _, rfl, Same.sqt p4.1 g1, rfl, _, _, rfl, _, _, rfl, rfl, rfl, ?_⟩
        refine ⟨_, rfl, _, rfl, _, rfl, w', kn2, s, rs2, rfl, g2.up (Same.up p4.1), SqL.of (p4.1 _ _ g3), g6, fun H5 s5 => ⟨_, rfl, iteF ?_⟩⟩
        exact ⟨p4.1.trans s5, s5 _ _ p4.2⟩
      · refine ⟨Nat.zero_le _, fun z hz => ?_⟩
        have uz := same_upd hz (o := .lst [])
        refine ⟨_, _, .lst (SqL.of (uz _ _ p4.2)) .nil, .lst (SqL.of upd_same) .nil, by decide, by decide, _, rfl, iteF ?_⟩
        exact ⟨_, _, _, _, _, rfl, ((pen3.same (p4.1.trans uz))).mono (by omega), uz _ _ (p4.1 _ _ hl3)⟩
    · exact q _
end
end L2.My
end
section
set_option Elab.async false
set_option linter.all false
set_option maxRecDepth 100000
set_option maxHeartbeats 0
namespace L2.My
open PySem PySem.Spec PyProof.Rows He
abbrev R_ : PySem.W.OpenRow := PySem.W.OpenLaw.row PySem.Challenge.rw_markedpair_k13_whole_ends_led_as_lists
abbrev hk_ : PySem.W.Hook := hookY 5 fns exs
def ob_ (s : PySem.W.SharedT) : AlY := obsYG 5 fns exs (HandSHeadRun.getT s)
theorem ob_eq (s : PySem.W.SharedT) : ob_ s = hk_.obs s.abs := obsYG_eq (HandSHeadRun.getT_eq s)
def nm0 : List Str := ["_wall", "__name__", "MOST_STATE", "MOST_BOX", "MOST_NUMBER", "SIDES", "is_integer", "is_within", "is_state", "is_box", "is_number", "LinkError", "BadDeed", "BadRow", "BadEnd"]
def nm1 : List Str := ["BadText", "NoRow", "TooMany", "need_box", "need_number", "Deed", "BoxDeed", "Take", "Put", "Out", "Clear", "Send", "Move", "Answer", "sides_of"]
def nm2 : List Str := ["integer_in", "deed_in", "MOST_DEEDS", "OTHER", "fit_sides", "need_deeds", "is_heard", "are_boxes", "rank_of", "ascending", "Row", "boxes_text", "deeds_text", "word_at", "boxes_in"]
def nm3 : List Str := ["deeds_in", "row_in", "MOST_ROWS", "need_rows", "made", "rows_text", "rows_in", "End", "Sender", "Receiver", "_law_pen", "_law_draw", "_law_pick", "_law_deed", "_law_row"]
def nm4 : List Str := ["_law_text", "_law_swapped", "_law_changed", "_law_is"]
def nms : List Str := nm0 ++ nm1 ++ nm2 ++ nm3 ++ nm4
theorem run_ (w : World) : HandSHeadRun.RunEq R_ (PySem.W.view R_.prog [69]) hk_ ob_ 20000 nms w := by
  intro os
  kernel_rfl
end L2.My
end
section
set_option Elab.async false
set_option linter.all false
set_option autoImplicit false
set_option maxRecDepth 100000
set_option maxHeartbeats 0
/-! the end: the head's facts, the law -/
namespace L2.My
open PySem PySem.Spec PyProof.Rows He
theorem tx_of {K : PySem.W.Frag} {h : Heap} {mg : Str → Option Value} (X : K.In h) (G : h.Ns mainGlobals mg) (c : SaysY fns exs K) : Tx (PySem.Challenge.rw_markedpair_k13_whole_ends_led_as_lists).prog K mg where
  c := c
  mgo := fun e => PySem.W.mg_of X G e
  mgn := fun e => PySem.W.mg_none_of X G e
  file := by kernel_rfl
  nosup := by kernel_rfl
theorem facts {w : World} {K : PySem.W.Frag} {h : Heap} {mg : Str → Option Value} {f : Addr} (X : K.In h) (G : h.Ns mainGlobals mg) (hfa : mg ("law" : Str) = some (.ref f)) (c : SaysY fns exs K) :
    ∃ fd : FuncData, (∀ (s : Shared) (v : Value), BindsTo s fd ⟨[v], []⟩ [("_law_script", v)]) ∧ ∀ base : Heap, K.In base → base.Ns mainGlobals mg → FnOk (PySem.Challenge.rw_markedpair_k13_whole_ends_led_as_lists).prog w K mg base CX0 16 f fd ["_law_script"] (spLaw K) := by
  have T := tx_of X G c
  obtain ⟨fd, F⟩ := T.f_law_
  have e := hfa.symm.trans T.g_law_.1
  cases e
  have b : ∀ (s : Shared) (v : Value), BindsTo s fd ⟨[v], []⟩ [("_law_script", v)] := fun s v => by
    obtain ⟨oc, od, kV, doc, pm, an, cdv, ct, osl, rfl, lk, hcd⟩ := F.ex
    exact BindsTo.of_eq rfl
  exact ⟨fd, b, fun base _ _ => law_ok T F⟩
end L2.My
open PySem PySem.W PySem.Calls PyProof.Rows
theorem PySem.Challenge.cw_markedpair_k13_whole_ends_led_as_lists_holds : PySem.Challenge.rw_markedpair_k13_whole_ends_led_as_lists.Holds := by
  w_on; o_law
  refine HandSHeadRun.head_any (r := OpenLaw.row PySem.Challenge.rw_markedpair_k13_whole_ends_led_as_lists) (q := view (OpenLaw.row PySem.Challenge.rw_markedpair_k13_whole_ends_led_as_lists).prog [69]) (H := L2.My.hk_) (ob := L2.My.ob_) (M := 20000) (loose := L2.My.nms) (d := HandSHeadRun.topDef (OpenLaw.row PySem.Challenge.rw_markedpair_k13_whole_ends_led_as_lists).prog 69) (kwd := []) L2.My.ob_eq
    (by kernel_rfl) (fun s => by kernel_rfl) L2.My.run_ (by kernel_rfl) (by kernel_rfl) (by kernel_rfl) (by rfl) (by first | assumption | decide +kernel) (by decide +kernel) ⟨rfl, rfl, rfl, rfl, rfl, by decide +kernel⟩ ?hw ?hc
  case hw => w_witness2
  case hc =>
    refine L2.walk_ofE (l := PySem.Challenge.rw_markedpair_k13_whole_ends_led_as_lists) (n := 63) (k := 16) (x := "_law_script") (CX := L2.CX0) rfl (by decide) (by kernel_rfl) ⟨rfl, by decide, by decide⟩ ?F (fun _ _ _ _ z => z)
    intro w mg fa h Y G hmg0
    obtain ⟨K, KX, c⟩ := Y
    have hmg : mg ("law" : PySem.Str) = some (.ref fa) := by
      have e : (HandSHeadRun.topDef (OpenLaw.row PySem.Challenge.rw_markedpair_k13_whole_ends_led_as_lists).prog 69).name = ("law" : PySem.Str) := by kernel_rfl
      rw [← e]
      exact hmg0
    obtain ⟨fd, hb, hF⟩ := L2.My.facts (w := w) KX G hmg c
    exact ⟨K, fd, L2.My.spLaw K, KX, hb, fun H a ns hl _ hS => ⟨a, ns, rfl, hS, fun _ => rfl⟩, hF⟩
end
