import PyProof.Rows.All
import Wide.All
import OpenK.AllK
import Wide.FinOn
import KE.OsRunLaw
import PySem.Challenge.RW_chainmaps_k22_roots_of_powers
import HandS.ForMost
import HandS.ForExc
import HandS.IsInst
import HandS.More
import HandS.SlotsOwn
import HandS.Property
import HandS.ClsMeth
import HandS.DictComp
import HandS.Conv
import HandS.Walk
import HandS.NoneIn
import HandS.CallLocal
import HandS.Star
import HandS.ExcInit
import HandS.ExcField
import HandS.ExcIs
import KE.KExcInit
import KE.KExcIs
import HandS.WordsExc
import HandS.ListItems
import HandS.Style
import HandS.TryMany
import HandS.RaiseMore
import HandS.FStr
import HandS.HotCalls
import KE.KItemsList
import KE.KOpsOwn
import HandS.OwnEq
import HandS.Lambda
import HandS.EndTab
import KE.KNestM
import HandS.Deep
import HandS.Nested
import KE.KSuper
import HandS.TupMul
import KE.GoesMore
import HandS.SetBool
import KE.KeyNested
import KE.KDictKeyed
import HandS.DictTup
import KE.KDictPairs
import PyProof.ListNew
import PyProof.Rows.SetFrom
import HandS.Finally
import KE.KDictWalk
import HandS.MakeKwOnly
import PyProof.DictUpdate
import KE.SortKeyHeap
import HandS.SortInts
import HandS.Wide
import HandS.WideBits
import HandS.TupAny
import HandS.Small
import HandS.Zip
import KE.KDictZip
set_option Elab.async false
set_option linter.all false
set_option maxRecDepth 100000
set_option maxHeartbeats 4000000
section
local macro_rules | `(tactic| first | refine $t:term | fail $s:str) => do { let t2 ← t.raw.replaceM fun n => (do { if n.getKind == `Lean.Parser.Term.syntheticHole then { let nm := n[1].getId.eraseMacroScopes; if nm == `hl then { return some (← `(by exact $(Lean.mkIdent `x))) } else { if nm == `hw || nm == `hc then { return some (← `(by contradiction)) } else { return none } } } else { return none } }); `(tactic| refine $(⟨t2⟩)) }
open PySem PySem.W PyProof.Rows
set_option maxRecDepth 100000 in
set_option maxHeartbeats 0 in
def My.hlStmt : Prop := by
  refine' (fun (P : Prop) (_ : P → False → PySem.Challenge.rw_chainmaps_k22_roots_of_powers.Holds) => P) _ ?h
  rotate_left
  intro x f
  w_on; o_law; k_headL
set_option maxRecDepth 100000 in
set_option maxHeartbeats 0 in
theorem My.hl : My.hlStmt := by
  refine HeadRun.left_oneK (by kernel_rfl) (by rfl) (fun s => by kernel_rfl) (Nat.ble_eq_true_of_le (Nat.le_refl _)) ?_
  intro w os
  kernel_rfl
end
namespace PySem.W
open PySem PySem.Calls PyProof.Rows
section
variable {prog : Program} {w : World} {A : Around} {E : Value → Shared → Prop} {s : Shared} {K : Frag} {x C L f : Addr} {h₀ : Heap} {m : Str → Option Value} {ox : Obj} {od : Option Obj} {b tb : Value}
theorem my_ne_K {Q : Value → Shared → Prop} (hu : A.units + 1 < cLine) (F : Fr h₀ L s.heap m) (X₀ : K.In h₀) (I : InstAt s.heap x ox C od) (hb : Looks (model prog w) s.heap (typeOf b) tb) (hn : notFirst K C tb = true)
    (hne : findIn K (.ref C) "__ne__" = some (some (.builtin "object.__ne__"))) (hob : mroIn K C (.type "object") = some true)
    (hs : findIn K (.ref C) "__eq__" = some (some (.ref f))) (hf : isFn K (.ref f) = true)
    (h : wpAny (model prog w) A.in1 (call (.ref f) [.ref x, b]) (fun v s' => ∃ c, v = .bool c ∧ Q (.bool (!c)) s') E s) : wpAny (model prog w) A (richCompare .NotEq (.ref x) b) Q E s := by
  have X := X₀.keeps F.keep
  have one : wpAny (model prog w) A (tryCompare (.ref x) "__ne__" b) (fun r s' => ∃ v, r = some v ∧ Q v s') E s := by
    unfold tryCompare
    simp only [callSpecialIfBound?, bindSpecialIfBound?]
    have sub : Looks (model prog w) s.heap (isInstance (.ref x) (.type "object")) true := I.type.andThen (looks_mroIn X hob)
    have fin : wpAny (model prog w) A (call (.builtin "object.__ne__") ([.ref x] ++ [b]) >>= fun v => pure (some v)) (fun r s' => ∃ c, r = some (.bool c) ∧ Q (.bool c) s') E s := by
      refine wpAny_bind (wpAny_call (codeAny_call_builtin PySem.F.slot_tuple_iterator_ne.plain PySem.F.cmpEntry_ne ?_))
      refine @check_slot (model prog w) _ _ s "object.__ne__" "object" "__ne__" (.ref x) [b] [] _ PySem.F.cmpKind_ne PySem.F.cmpSplit_ne sub (PySem.F.cmpArgs_ne _ _) ?_
      unfold Builtin.«object.__ne__»
      refine wpAny_bind (wpAny_of_eq (a := ((Value.ref x : Value), [b])) (by first | rfl | (simp only [Builtin.slotArgs]; rfl)) ?_)
      refine wpAny_bind (wpAny_cRoomFor hu ?_)
      refine wpAny_bind (ifBound_K X I hs hf (wpAny_mono h (fun v s' hv => ?_) fun _ _ e => e))
      obtain ⟨c, rfl, q⟩ := hv
      refine wpAny_bind (wpAny_truthy_bool ?_)
      exact wpAny_pure (wpAny_pure ⟨_, rfl, q⟩)
    refine wpAny_bind (wpAny_holding (wpAny_bind (wpAny_bind (wpAny_bind (I.type.here ((looks_findIn X hne).here ?_))))))
    refine wpAny_bind (wpAny_askSetting (wpAny_ite ?_))
    split
    · rw [PySem.F.slot_tuple_iterator_ne.bind (.ref x)]
      exact wpAny_bind (wpAny_pure (wpAny_pure (wpAny_mono fin (fun r s' z => by obtain ⟨c, rfl, q⟩ := z; exact wpAny_pure ⟨_, rfl, q⟩) fun _ _ e => e)))
    · rw [PySem.F.slot_tuple_iterator_ne.bind (.ref x)]
      exact wpAny_tryCatch (wpAny_bind (wpAny_pure (wpAny_pure (wpAny_mono fin (fun r s' z => by obtain ⟨c, rfl, q⟩ := z; exact wpAny_pure ⟨_, rfl, q⟩) fun _ _ e => e))))
  unfold richCompare
  simp only [oneThing_ref]
  refine wpAny_holding (wpAny_bind (wpAny_cRoomFor (Nat.lt_of_succ_lt hu) ?_))
  refine wpAny_bind (I.type.here (wpAny_bind (hb.here ?_)))
  split
  · rename_i q
    have e : subIn K tb (.ref C) = some false := by
      rcases Bool.or_eq_true_iff.mp hn with e | e
      · rw [beq_iff_eq.mp e] at q; simp at q
      · exact beq_iff_eq.mp e
    refine wpAny_bind ((looks_subIn X e).here ?_)
    simp only [Bool.false_eq_true, if_false]
    refine wpAny_bind (wpAny_mono one (fun r s' z => ?_) fun _ _ e => e)
    obtain ⟨v, rfl, hq⟩ := z
    exact wpAny_pure hq
  · refine wpAny_bind (wpAny_pure ?_)
    simp only [Bool.false_eq_true, if_false]
    refine wpAny_bind (wpAny_mono one (fun r s' z => ?_) fun _ _ e => e)
    obtain ⟨v, rfl, hq⟩ := z
    exact wpAny_pure hq
end
end PySem.W
namespace U
open PySem PySem.Spec PyProof.Rows L2
/-- what is asked of a plain own class -/
structure OwnC (K : PySem.W.Frag) (C : Addr) : Prop where
  cl : Cls K C
  sf : PySem.W.selfFirst K C = true
  ca : PySem.W.findIn K (.ref C) "__class__" = some (some (.builtin "object.__class__"))
  cn : PySem.W.specialIn K (.builtin "object.__class__") "__get__" = some (some (.builtin "getset_descriptor.__get__"))
  ct : PySem.W.takesIn K (.builtin "object.__class__") = some true
  cm : PySem.W.mroIn K C (.type "object") = some true
section
variable {X : Cx} {CX : CXT} {pins : List (Addr × Obj)} {σ : L2.St} {H : Hp} {s : Shared} {a C dx p g : Addr} {f : Str} {n : Nat} {sp : Sp} {E : XK} {v : V} {u : Value}
theorem ins_inst (I : Inv X pins σ H s) {fs : List (Str × V)} (ea : H a = some (.ins C dx fs)) : ∃ ox od, PySem.W.InstAt s.heap a ox C (some od) := by
  obtain ⟨mA, O, _⟩ := ins_get I.hok ea
  obtain ⟨od, J, _⟩ := O.look
  exact ⟨_, od, J⟩
/-- x op y, both instances of C -/
def rBin (C : Addr) (sp : Sp) (E : XK) : R2 := fun x y H Q => ∃ a dx fs b dy gs, x = .ref a ∧ y = .ref b ∧ H a = some (.ins C dx fs) ∧ H b = some (.ins C dy gs) ∧ sp [x, y] H Q E
theorem op_bin {op : Operator} (hc : PySem.W.selfFirst X.K C = true) (hs : PySem.W.findIn X.K (.ref C) (PySem.dunder op.info.2) = some (some (.ref g))) (hf : PySem.W.isFn X.K (.ref g) = true) (F : FnR X.prog X.w X.K X.mg X.base CX n g sp)
    (hr : Room n X.A) (hx : Passes CX X E) : OpR X (binaryOp op) (rBin C sp E) := by
  intro pins s σ H x y v u Q I rx ry h
  obtain ⟨a, dx, vs, b, dy, ws, rfl, rfl, ha, hb, q⟩ := h
  cases (show v = Value.ref a from rx)
  cases (show u = Value.ref b from ry)
  obtain ⟨ox, od, J⟩ := ins_inst I ha
  obtain ⟨oy, od', J'⟩ := ins_inst I hb
  obtain ⟨m, hF⟩ := I.fr
  refine PySem.W.binop_K (op := op) hF I.ok.mod.kin J J'.type hc hs hf ?_
  refine wpAny_mono (wpAny_call (run_fnR (us := [.ref a, .ref b]) (vs := [.ref a, .ref b]) F hr hx I (.cons rfl (.cons rfl .nil)) q)) (fun w s' z => ?_) fun _ _ x => x
  obtain ⟨z', H', I', rz, qz⟩ := z
  exact SlX.cmpback rz ⟨z', H', I', rz, qz⟩
theorem notFirst_self (K : PySem.W.Frag) (C : Addr) : PySem.W.notFirst K C (.ref C) = true := by
  unfold PySem.W.notFirst; simp
theorem op_cmp {op : CmpOp} (hop : ∀ a b, compareOp op a b = richCompare op a b) (hs : PySem.W.findIn X.K (.ref C) (cmpInfo op).2.1 = some (some (.ref g))) (hf : PySem.W.isFn X.K (.ref g) = true) (F : FnR X.prog X.w X.K X.mg X.base CX n g sp)
    (hr : Room n X.A) (hx : Passes CX X E) : OpR X (compareOp op) (rBin C sp E) := by
  intro pins s σ H x y v u Q I rx ry h
  obtain ⟨a, dx, vs, b, dy, ws, rfl, rfl, ha, hb, q⟩ := h
  cases (show v = Value.ref a from rx)
  cases (show u = Value.ref b from ry)
  obtain ⟨ox, od, J⟩ := ins_inst I ha
  obtain ⟨oy, od', J'⟩ := ins_inst I hb
  obtain ⟨m, hF⟩ := I.fr
  rw [hop]
  refine PySem.W.cmp_K (op := op) (tb := .ref C) hr.units0 hF I.ok.mod.kin J J'.type (notFirst_self _ _) hs hf ?_
  refine wpAny_mono (wpAny_call (run_fnR (us := [.ref a, .ref b]) (vs := [.ref a, .ref b]) F hr hx I (.cons rfl (.cons rfl .nil)) q)) (fun w s' z => ?_) fun _ _ x => x
  obtain ⟨z', H', I', rz, qz⟩ := z
  exact SlX.cmpback rz ⟨z', H', I', rz, qz⟩
/-- x != y by the own __eq__ -/
def rNeO (C : Addr) (sp : Sp) (E : XK) : R2 := fun x y H Q => ∃ a dx fs b dy gs, x = .ref a ∧ y = .ref b ∧ H a = some (.ins C dx fs) ∧ H b = some (.ins C dy gs) ∧ sp [x, y] H (fun z H' => ∃ c, z = .bl c ∧ Q (.bl (!c)) H') E
theorem op_neO (oc : OwnC X.K C) (hne : PySem.W.findIn X.K (.ref C) "__ne__" = some (some (.builtin "object.__ne__"))) (hs : PySem.W.findIn X.K (.ref C) "__eq__" = some (some (.ref g))) (hf : PySem.W.isFn X.K (.ref g) = true) (F : FnR X.prog X.w X.K X.mg X.base CX n g sp)
    (hr : Room (n + 1) X.A) (hx : Passes CX X E) : OpR X (compareOp .NotEq) (rNeO C sp E) := by
  intro pins s σ H x y v u Q I rx ry h
  obtain ⟨a, dx, vs, b, dy, ws, rfl, rfl, ha, hb, q⟩ := h
  cases (show v = Value.ref a from rx)
  cases (show u = Value.ref b from ry)
  obtain ⟨ox, od, J⟩ := ins_inst I ha
  obtain ⟨oy, od', J'⟩ := ins_inst I hb
  obtain ⟨m, hF⟩ := I.fr
  have hr1 : Room n X.A.in1 := Room.in1 hr
  refine PySem.W.my_ne_K (tb := .ref C) (hu_of hr) hF I.ok.mod.kin J J'.type (notFirst_self _ _) hne oc.cm hs hf ?_
  refine wpAny_mono (wpAny_call (SlX.run_at (us := [.ref a, .ref b]) (ws := [.ref a, .ref b]) F hr1 I.env0.in1 hx I (.cons rfl (.cons rfl .nil)) q)) (fun w s' z => ?_) fun _ _ x => x
  obtain ⟨z', H', I', rz, c, ez, qz⟩ := z
  subst ez
  cases (show w = Value.bool c from rz)
  exact ⟨c, rfl, .bl (!c), H', I', rfl, qz⟩
/-- ~x -/
def rUnO (C : Addr) (sp : Sp) (E : XK) : V → Hp → VK → Prop := fun x H Q => ∃ a dx fs, x = .ref a ∧ H a = some (.ins C dx fs) ∧ sp [x] H Q E
theorem un_inv (hs : PySem.W.findIn X.K (.ref C) "__invert__" = some (some (.ref g))) (hf : PySem.W.isFn X.K (.ref g) = true) (F : FnR X.prog X.w X.K X.mg X.base CX n g sp)
    (hr : Room n X.A) (hx : Passes CX X E) : UnR X (unaryOp .Invert) (rUnO C sp E) := by
  intro pins s σ H x v Q I rx h
  obtain ⟨a, dx, vs, rfl, ha, q⟩ := h
  cases (show v = Value.ref a from rx)
  obtain ⟨ox, od, J⟩ := ins_inst I ha
  obtain ⟨m, hF⟩ := I.fr
  refine PySem.W.ksp_inv hF I.ok.mod.kin J hs hf ?_
  exact wpAny_call (run_fnR (us := [.ref a]) (vs := [.ref a]) F hr hx I (.cons rfl .nil) q)
end
end U
namespace U
open PySem PySem.Spec PyProof.Rows L2 StX
/-! ### a def of the text, with how its arguments bind -/
structure FnAt (K : PySem.W.Frag) (x qual : Str) (st : Stmt) (f : Addr) (ps : List Str) : Prop where
  ex : ∃ fd, Fun K x qual st f fd ∧ Binds K fd ps []
theorem FnAt.kp {K : PySem.W.Frag} {x qual : Str} {st : Stmt} {f : Addr} {ps : List Str} (A : FnAt K x qual st f ps) : PySem.W.keepIn K (.ref f) = true := by
  obtain ⟨fd, F, _⟩ := A.ex
  exact F.kp
section
variable {P : Program} {w : World} {K : PySem.W.Frag} {mg : Str → Option Value} {base : Heap}
theorem FnAt.ok {x qual : Str} {st : Stmt} {f : Addr} {N ps : List Str} {k : Nat} {sp : Sp} (A : FnAt K x qual st f ps) (S : FnScope N ps (defScope st)) (len : ∀ vs H Q E, sp vs H Q E → vs.length = ps.length)
    (hbody : ∀ (cdv : Value) (A : Around) (outer : List Env) (s : Shared) (H : Hp) (vs : List V) (Q : VK) (E : XK), Room k (A.deeper (envOfC qual (defScope st) s.heap.objs.size f cdv)) → sp vs H Q E →
      ∃ t, PSs (cxOf CX0 P w K mg base N qual (defScope st) f cdv A outer s H E).nox (defBody st) t ∧ t { nx := fun _ H' => Q .non H', rt := Q } (start N vs) H) : FnR P w K mg base CX0 (k + 1) f sp := by
  obtain ⟨fd, F, B⟩ := A.ex
  have R := (F.ok (P := P) (w := w) (mg := mg) (base := base) S len hbody).raw B .nil
  exact R.imp fun vs H Q E h => by rw [List.append_nil]; exact h
end
section
variable {X : Cx} {CX : CXT} {k i : Nat} {f C p g a dx : Addr} {sp : Sp} {E : XK} {x fl : Str} {e o : Expr} {es : List Expr} {ta te tf : TE} {t : TA} {pp pos : Pos} {fs : List (Str × V)}
/-- x(e, ..), x a def of the module -/
def tCallR (sp : Sp) (E : XK) (t : TA) : TE := fun σ H Q => t σ H fun vs H1 => sp vs H1 Q E
theorem pe_callR (F : FnR X.prog X.w X.K X.mg X.base CX k f sp) (hr : Room k X.A) (hk : PySem.W.keepIn X.K (.ref f) = true) (hg : Gl X x) (hm : X.mg x = some (.ref f)) (hx : Passes CX X E) (ha : PA X (e :: es) t) (hdb : (x == ("__debug__" : Str)) = false := by decide)
    (he : starEach (e :: es) X.env = (false, eval e X.env) :: starEach es X.env := by rfl) (hpl : (backTo pos (starEach es X.env)).any (·.1) = false := by rfl) : PE X (.Call (.Name x pp) (e :: es) [] pos) (tCallR sp E t) := by
  refine ⟨fun pins s σ H Q I h => ?_⟩
  refine wpAny_Call_Name_kw (ld_glob I hg hm ?_ hdb)
  refine PySem.W.callWith_K (h₀ := X.base) I.ok.mod.kin hk (thn (ha.run pos pins s σ H _ I h) fun us s1 ⟨vs, H1, I1, r, q⟩ => ⟨I1.kIn, ?_⟩) he hpl
  exact wpAny_call (run_fnR F hr hx I1 r q)
/-- e.f, a property -/
def tPropR (C : Addr) (sp : Sp) (ta : TE) : TE := fun σ H Q => ta σ H fun x H1 => ∃ a dx fs, x = .ref a ∧ H1 a = some (.ins C dx fs) ∧ sp [.ref a] H1 Q E0
theorem pe_propR (he : PE X e ta) (c : Cls X.K C) (hp : PropOf X.K C fl p g) (F : FnR X.prog X.w X.K X.mg X.base CX0 k g sp) (hr : Room (k + 1) X.A)
    (hab : attributeBase e fl X.env (eval e X.env) = eval e X.env := by rfl) : PE X (.Attribute e fl pos) (tPropR C sp ta) := by
  refine ⟨fun pins s σ H Q I h => ?_⟩
  refine attr_of hab (thn (he.run pins s σ H _ I h) fun u s1 ⟨x, H1, I1, rx, a, dx, fs, ex, ea, q⟩ => ?_)
  subst ex
  obtain rfl : u = Value.ref a := rx
  obtain ⟨mA, O, _, _, _, _⟩ := ins_get I1.hok ea
  obtain ⟨od, J, _⟩ := O.look
  obtain ⟨rest, hrec⟩ := hp.rec_
  have I2 := I1.tok (s1.toks + 1)
  have hc : (PySem.W.clsIn X.K C).isSome = true := by
    obtain ⟨cd, hc, _⟩ := PySem.W.any_some c.hd
    rw [hc]
    rfl
  refine PySem.W.get_bind I1.kIn J (PySem.W.plainGet_of (c.get fl)).1 (PySem.W.findObj_data hc hp.at_ hp.get hp.tak) (PySem.W.plainGet_of (c.get fl)).2 (wpAny_call (PySem.W.prop_get (s := { s1 with toks := s1.toks + 1 }) I1.kIn hrec ?_))
  refine codeAny_mono (F X.A.in1 X.stack { s1 with toks := s1.toks + 1 } H1 [.ref a] [.ref a] Q E0 hr.in1 I2.env0.in1 (.cons rfl .nil) q) fun r s' hq => ?_
  cases r with
  | error er => exact False.elim hq
  | ok fl =>
    cases fl with
    | ret u =>
      obtain ⟨v, H', I3, rv, q3⟩ := I2.after hq
      show wpAny _ _ (handedOut u) _ _ _
      rw [PySem.W.handedOut_of (handed_of rv)]
      exact wpAny_pure ⟨v, H', I3, rv, q3⟩
    | next => exact False.elim hq
    | brk => exact False.elim hq
    | cont => exact False.elim hq
/-- x(..), x a local that holds the class at C -/
def tMakeL (i : Nat) (C : Addr) (sp : Sp) (E : XK) (t : TA) : TE := fun σ H Q => σ[i]? = some (some (.ref C)) ∧ tMakeR C sp E t σ H Q
theorem pe_makeL (M : Mk X.K C f) (F : FnR X.prog X.w X.K X.mg X.base CX k f sp) (hr : Room (k + 1) X.A) (hN : X.N[i]? = some x) (hv : Vis X.env.scope x) (hx : Passes CX X E) (ha : PA X (e :: es) t) (hdb : (x == ("__debug__" : Str)) = false := by decide)
    (hcd : (x == ("__classdict__" : Str)) = false := by decide)
    (he : starEach (e :: es) X.env = (false, eval e X.env) :: starEach es X.env := by rfl) (hpl : (backTo pos (starEach es X.env)).any (·.1) = false := by rfl) : PE X (.Call (.Name x pp) (e :: es) [] pos) (tMakeL i C sp E t) := by
  refine ⟨fun pins s σ H Q I h => ?_⟩
  obtain ⟨hs, ht⟩ := h
  refine wpAny_Call_Name_kw (thn ((pe_var (pos := pp) hN hv hdb hcd).run pins s σ H (fun v H1 => v = .ref C ∧ H1 = H) I ⟨.ref C, hs, rfl, rfl⟩) fun u s1 ⟨v, H1, I1, r1, q1⟩ => ?_)
  obtain ⟨rfl, rfl⟩ := q1
  cases r1
  refine PySem.W.callWith_K (h₀ := X.base) I.ok.mod.kin M.kp (thn (ha.run pos pins s1 σ _ _ I1 ht) fun us s2 ⟨vs, H2, I2, r, q⟩ => ⟨I2.kIn, ?_⟩) he hpl
  exact run_makeR M F hr hx I2 r q
end
theorem ifD {c : Prop} [Decidable c] {A B : Prop} (h1 : c → A) (h2 : ¬ c → B) : if decide c = true then A else B := by
  by_cases h : c
  · rw [if_pos (decide_eq_true h)]; exact h1 h
  · rw [if_neg (by simp [h])]; exact h2 h
theorem ifN {c : Prop} [Decidable c] {A B : Prop} (h1 : ¬ c → A) (h2 : c → B) : if (!decide c) = true then A else B := by
  by_cases h : c
  · rw [if_neg (by simp [h])]; exact h2 h
  · rw [if_pos (by simp [h])]; exact h1 h
theorem ifB {c : Bool} {A B : Prop} (h1 : c = true → A) (h2 : c = false → B) : if c = true then A else B := by
  cases c with
  | true => rw [if_pos rfl]; exact h1 rfl
  | false => rw [if_neg Bool.false_ne_true]; exact h2 rfl
theorem ifNB {c : Bool} {A B : Prop} (h1 : c = false → A) (h2 : c = true → B) : if (!c) = true then A else B := by
  cases c with
  | true => exact iteF (h2 rfl)
  | false => exact iteT (h1 rfl)
end U
namespace U
open PySem PySem.Spec PyProof.Rows L2
/-- the ints' dicts compared -/
def dEq (ks ls : List (Key × V)) : Bool := ks.length == ls.length && ks.all fun p => decide (valV ls p.1 = some p.2)
def IntVals (ks : List (Key × V)) : Prop := ∀ p ∈ ks, ∃ i : Int, p.2 = .int i
theorem valV_mem {ls : List (Key × V)} {k : Key} {v : V} (h : valV ls k = some v) : ∃ p ∈ ls, p.2 = v := by
  unfold valV at h
  cases e : ls.find? (fun kv => decide (kv.1 = k)) with
  | none => rw [e] at h; cases h
  | some p =>
    rw [e] at h
    exact ⟨p, List.mem_of_find?_eq_some e, Option.some.inj h⟩
theorem hits_int {A : Around} {s : Shared} {ls : List (Key × V)} {vb : List (Key × Value)} (rb : KV ls vb) (il : IntVals ls) {ks : List (Key × V)} {va : List (Key × Value)} (ra : KV ks va) :
    IntVals ks → PySem.W.KeqHits A s vb va (ks.all fun p => decide (valV ls p.1 = some p.2)) := by
  unfold KV at ra
  induction ra with
  | nil => intro _; exact .nil
  | @cons p q ps qs h t ih =>
    intro hp
    obtain ⟨h1, h2⟩ := h
    obtain ⟨i, ei⟩ := hp p List.mem_cons_self
    obtain ⟨k, v⟩ := q
    have h1' : p.1 = k := h1
    subst h1'
    rw [ei] at h2
    obtain ⟨tk, ev⟩ := (show ∃ tk, v = Value.int i tk from h2)
    subst ev
    have rr : RelO (valV ls p.1) (valueAt vb p.1) := rb.val p.1
    rw [List.all_cons]
    cases e : valV ls p.1 with
    | none =>
      rw [e] at rr
      cases e2 : valueAt vb p.1 with
      | none => exact .miss e2
      | some y => rw [e2] at rr; exact rr.elim
    | some z =>
      rw [e] at rr
      obtain ⟨y, hy, ry⟩ := rr.some_of
      obtain ⟨p', hm, ep⟩ := valV_mem e
      obtain ⟨j, ej⟩ := il p' hm
      rw [ej] at ep
      subst ep
      obtain ⟨tk', ey⟩ := (show ∃ tk, y = Value.int j tk from ry)
      subst ey
      have b : decide (some (V.int j) = some p.2) = (i == j) := by
        rw [ei]
        by_cases h : i = j
        · subst h; simp
        · have h' : ¬ j = i := fun z => h z.symm
          simp [h, h']
      rw [b]
      exact .hit hy (SeqAt.EqAt.int_int i _ j _) (ih fun p' hm => hp p' (List.mem_cons_of_mem _ hm))
section
variable {X : Cx}
def rEqD : R2 := fun x y H Q => ∃ a b ks ls, x = .ref a ∧ y = .ref b ∧ H a = some (.dK ks) ∧ H b = some (.dK ls) ∧ IntVals ks ∧ IntVals ls ∧ Q (.bl (dEq ks ls)) H
def rNeD : R2 := fun x y H Q => ∃ a b ks ls, x = .ref a ∧ y = .ref b ∧ H a = some (.dK ks) ∧ H b = some (.dK ls) ∧ IntVals ks ∧ IntVals ls ∧ Q (.bl (!dEq ks ls)) H
theorem op_eqDI (hu : X.A.units < cLine) : OpR X (compareOp .Eq) rEqD := by
  intro pins s σ H x y v u Q I rx ry h
  obtain ⟨a, b, ks, ls, rfl, rfl, ea, eb, i1, i2, q⟩ := h
  cases (show v = Value.ref a from rx)
  cases (show u = Value.ref b from ry)
  obtain ⟨_, ya, va, ra, da⟩ := (show ObjOk X.prog X.w H s.heap a (.dK ks) from I.hok a _ ea)
  obtain ⟨_, yb, vb, rb, db⟩ := (show ObjOk X.prog X.w H s.heap b (.dK ls) from I.hok b _ eb)
  refine PySem.W.keq_eq (knd := mixKind X.prog X.w) ya yb da db hu (fun _ => hits_int rb i2 ra i1) (fin_bl I q ?_)
  unfold dEq
  rw [ra.length, rb.length]
end
end U
namespace U
open PySem PySem.Spec PyProof.Rows L2
/-! ### heaps -/
def Off (d : Addr) (H H' : Hp) : Prop := ∀ b o, b ≠ d → H b = some o → H' b = some o
theorem Same.new {H : Hp} {p : Addr} {o : HO} (h : H p = none) : L2.Same H (upd H p o) := fun b u e => by rw [upd_ne (ne_of_none e h)]; exact e
theorem Off.tr {d : Addr} {H H1 H2 : Hp} (a : Off d H H1) (b : Off d H1 H2) : Off d H H2 := fun c o hc e => b c o hc (a c o hc e)
theorem Off.lock {d : Addr} {H : Hp} {o : HO} : Off d H (upd H d o) := fun b u hb e => by rw [upd_ne hb]; exact e
theorem Off.new {d p : Addr} {H : Hp} {o : HO} (h : H p = none) : Off d H (upd H p o) := fun b u _ e => by rw [upd_ne (ne_of_none e h)]; exact e
theorem Off.free {d p : Addr} {H H' : Hp} {u : HO} (a : Off d H H') (hd : H' d = some u) (h : H' p = none) : H p = none := by
  cases e : H p with
  | none => rfl
  | some o =>
    by_cases hp : p = d
    · subst hp; rw [hd] at h; cases h
    · rw [a p o hp e] at h; cases h
theorem Off.back {d : Addr} {H H' : Hp} {u : HO} (a : Off d H H') (hd : H d = some u) : L2.Same H (upd H' d u) := fun b o e => by
  by_cases hb : b = d
  · subst hb; rw [hd] at e; cases e; exact upd_same
  · rw [upd_ne hb]; exact a b o hb e
/-- an object of the heap behind, that was not there ahead, may be changed -/
theorem Off.mut {d p : Addr} {H H' : Hp} {o : HO} (a : Off d H H') (h : H p = none) : Off d H (upd H' p o) := fun b u hb e => by rw [upd_ne (ne_of_none e h)]; exact a b u hb e
/-! ### a dict of ints -/
def kvI (l : List (Int × Int)) : List (Key × V) := l.map fun p => (Sum.inl p.1, V.int p.2)
theorem kvI_length (l : List (Int × Int)) : (kvI l).length = l.length := by simp [kvI]
theorem kvI_get {l : List (Int × Int)} {i : Nat} {k : Key} {v : V} (h : (kvI l)[i]? = some (k, v)) : ∃ x y, l[i]? = some (x, y) ∧ k = .inl x ∧ v = .int y := by
  unfold kvI at h
  rw [List.getElem?_map] at h
  cases e : l[i]? with
  | none => rw [e] at h; cases h
  | some p =>
    rw [e] at h
    obtain ⟨x, y⟩ := p
    cases h
    exact ⟨x, y, rfl, rfl, rfl⟩
def lk (l : List (Int × Int)) (x : Int) : Option Int := (l.find? fun p => decide (p.1 = x)).map (·.2)
theorem valV_kvI (l : List (Int × Int)) (x : Int) : valV (kvI l) (Sum.inl x : Key) = (lk l x).map V.int := by
  induction l with
  | nil => rfl
  | cons p r ih =>
    obtain ⟨a, b⟩ := p
    by_cases h : a = x
    · subst h
      rw [show kvI ((a, b) :: r) = (Sum.inl a, V.int b) :: kvI r from rfl, valV_pos rfl]
      simp [lk]
    · rw [show kvI ((a, b) :: r) = (Sum.inl a, V.int b) :: kvI r from rfl, valV_neg (fun z => h (Sum.inl.inj z)), ih]
      simp [lk, h]
theorem lk_none {l : List (Int × Int)} {x : Int} (h : x ∉ l.map (·.1)) : lk l x = none := by
  unfold lk
  rw [List.find?_eq_none.mpr]
  · rfl
  · intro p hp
    simp only [decide_eq_true_eq]
    exact fun e => h (List.mem_map.mpr ⟨p, hp, e⟩)
theorem lk_some {l : List (Int × Int)} (nd : (l.map (·.1)).Nodup) {x y : Int} (h : (x, y) ∈ l) : lk l x = some y := by
  induction l with
  | nil => cases h
  | cons p r ih =>
    obtain ⟨a, b⟩ := p
    rw [List.map_cons, List.nodup_cons] at nd
    rcases List.mem_cons.mp h with h | h
    · cases h; simp [lk]
    · have ne : ¬ a = x := fun z => nd.1 (by rw [z]; exact List.mem_map.mpr ⟨(x, y), h, rfl⟩)
      have := ih nd.2 h
      simpa [lk, ne] using this
theorem lk_mem {l : List (Int × Int)} {x y : Int} (h : lk l x = some y) : (x, y) ∈ l := by
  unfold lk at h
  cases e : l.find? (fun p => decide (p.1 = x)) with
  | none => rw [e] at h; cases h
  | some p =>
    rw [e] at h
    obtain ⟨a, b⟩ := p
    have h1 := List.find?_some e
    simp only [decide_eq_true_eq] at h1
    have h2 : b = y := Option.some.inj h
    subst h1 h2
    exact List.mem_of_find?_eq_some e
theorem intVals_kvI (l : List (Int × Int)) : IntVals (kvI l) := by
  intro p hp
  unfold kvI at hp
  obtain ⟨q, _, rfl⟩ := List.mem_map.mp hp
  exact ⟨q.2, rfl⟩
theorem putK_kvI {l : List (Int × Int)} {x y : Int} (h : x ∉ l.map (·.1)) : putK (kvI l) (Sum.inl x : Key) (V.int y) = kvI (l ++ [(x, y)]) := by
  have e : valV (kvI l) (Sum.inl x : Key) = none := by rw [valV_kvI, lk_none h]; rfl
  rw [putK_new _ e]
  simp [kvI]
theorem lk_append {l r : List (Int × Int)} {x : Int} : lk (l ++ r) x = (lk l x).or (lk r x) := by
  unfold lk
  rw [List.find?_append]
  cases l.find? (fun p => decide (p.1 = x)) <;> rfl
theorem lk_cons (a b : Int) (r : List (Int × Int)) (z : Int) : lk ((a, b) :: r) z = if a = z then some b else lk r z := by
  by_cases h : a = z <;> simp [lk, h]
theorem lk_mapOff (r : List (Int × Int)) (x y z : Int) (hz : ¬ z = x) : lk (r.map fun p => if p.1 = x then (p.1, y) else p) z = lk r z := by
  induction r with
  | nil => rfl
  | cons p r ih =>
    obtain ⟨a, b⟩ := p
    rw [List.map_cons]
    by_cases ha : a = x
    · subst ha
      have hz' : ¬ a = z := fun q => hz q.symm
      rw [if_pos rfl, lk_cons, lk_cons, if_neg hz', if_neg hz', ih]
    · rw [if_neg ha, lk_cons, lk_cons, ih]
theorem lk_mapPut {x y : Int} : ∀ (l : List (Int × Int)), x ∈ l.map (·.1) → ∀ z, lk (l.map fun p => if p.1 = x then (p.1, y) else p) z = if z = x then some y else lk l z
  | [], h, z => by cases h
  | (a, b) :: r, h, z => by
    by_cases hz : z = x
    · subst hz
      rw [if_pos rfl, List.map_cons]
      by_cases ha : a = z
      · subst ha
        rw [if_pos rfl, lk_cons, if_pos rfl]
      · rw [if_neg ha, lk_cons, if_neg ha]
        have h' : z ∈ r.map (·.1) := by
          rcases List.mem_cons.mp h with q | q
          · exact absurd q.symm ha
          · exact q
        rw [lk_mapPut r h' z, if_pos rfl]
    · rw [if_neg hz, lk_mapOff _ _ _ _ hz]
theorem putK_lk {l : List (Int × Int)} {x y : Int} : ∃ l', putK (kvI l) (Sum.inl x : Key) (V.int y) = kvI l' ∧ l'.length ≤ l.length + 1 ∧ ((l.map (·.1)).Nodup → (l'.map (·.1)).Nodup) ∧ ∀ z, lk l' z = if z = x then some y else lk l z := by
  by_cases h : x ∈ l.map (·.1)
  · refine ⟨l.map fun p => if p.1 = x then (p.1, y) else p, ?_, by simp, fun nd => ?_, fun z => ?_⟩
    · unfold putK
      rw [if_pos (by
        obtain ⟨p, hp, e⟩ := List.mem_map.mp h
        rw [List.any_eq_true]
        exact ⟨(Sum.inl p.1, V.int p.2), List.mem_map.mpr ⟨p, hp, rfl⟩, by simp [e]⟩)]
      unfold kvI
      rw [List.map_map, List.map_map]
      refine List.map_congr_left fun p _ => ?_
      by_cases e : p.1 = x
      · simp [e]
      · have e' : ¬ (Sum.inl p.1 : Key) = Sum.inl x := fun q => e (Sum.inl.inj q)
        simp [e]
    · have e : (l.map fun p => if p.1 = x then (p.1, y) else p).map (·.1) = l.map (·.1) := by
        rw [List.map_map]
        refine List.map_congr_left fun p _ => ?_
        by_cases e : p.1 = x <;> simp [e]
      rw [e]; exact nd
    · exact lk_mapPut l h z
  · refine ⟨l ++ [(x, y)], putK_kvI h, by simp, fun nd => ?_, fun z => ?_⟩
    · rw [List.map_append, List.nodup_append]
      refine ⟨nd, by simp, fun a ha b hb e => ?_⟩
      simp at hb
      subst hb
      exact h (e ▸ ha)
    · rw [lk_append]
      by_cases hz : z = x
      · subst hz; rw [lk_none h]; simp [lk]
      · have hz' : ¬ x = z := fun q => hz q.symm
        cases lk l z <;> simp [lk, hz, hz']
end U
namespace U
open PySem PySem.Spec PyProof.Rows L2
section
variable {J : It} {n : Nat} {G : Hp → Prop} {Y : Nat → Hp → V → Hp → Prop}
/-- a dict comprehension over a walk -/
theorem dc_it (w : Walk J n G Y) {g : TG} {tt : TT} {tk tv : TE} {vs : List Nat} {σ : L2.St} {H1 : Hp} {D : Addr} {Qd : Hp → Prop} (Pv : Nat → Hp → Prop) (h0 : Pv 0 (upd H1 D (.dK []))) (hG : ∀ i H, i ≤ n → Pv i H → G H)
    (hs : ∀ i x H H', i < n → Pv i H → Y i H x H' → g x (wipe σ vs) H' fun σ2 H2 => wipe σ2 vs = wipe σ vs ∧ tt σ2 H2 fun b H3 =>
      if b = true then tk σ2 H3 fun y H4 => tv σ2 H4 fun z H5 => ∃ kvs k, y = kV k ∧ H5 D = some (.dK kvs) ∧ kvs.length < sizeLine ∧ Pv (i + 1) (upd H5 D (.dK (putK kvs k z))) else Pv (i + 1) H3) (hd : ∀ H, Pv n H → Qd H) :
    ∃ W : Nat → Nat → Hp → Prop, (∃ m, W 0 m (upd H1 D (.dK []))) ∧ ∀ i m H, W i m H →
      (J.stop i H ∧ Qd H) ∨ (J.go i H ∧ ∃ Nx : Hp → Prop, (∀ H', Nx H' → ∃ m', m' < m ∧ W (i + 1) m' H') ∧ ∀ x H', J.yld i H x H' → g x (wipe σ vs) H' fun σ2 H2 => wipe σ2 vs = wipe σ vs ∧ tt σ2 H2 fun b H3 =>
        if b = true then tk σ2 H3 fun y H4 => tv σ2 H4 fun z H5 => ∃ kvs k, y = kV k ∧ H5 D = some (.dK kvs) ∧ kvs.length < sizeLine ∧ Nx (upd H5 D (.dK (putK kvs k z))) else Nx H3) := by
  refine ⟨fun i m H => m = n - i ∧ i ≤ n ∧ Pv i H, ⟨n, by simp, Nat.zero_le _, h0⟩, ?_⟩
  rintro i m H ⟨rfl, hi, p⟩
  have q := hG i H hi p
  by_cases hlt : i < n
  · exact .inr ⟨w.goes i H hlt q, Pv (i + 1), fun H' p' => ⟨n - (i + 1), by omega, rfl, hlt, p'⟩, fun x H' y => hs i x H H' hlt p (w.yields i H x H' hlt q y)⟩
  · have e : i = n := by omega
    subst e
    exact .inl ⟨w.stops H q, hd H p⟩
end
/-- what a comprehension over pairs makes -/
def madeD (c : Int → Int → Bool) (kf : Int → Int → Int) (vf : Int → Int → V) (l : List (Int × Int)) : List (Key × V) := (l.filter fun p => c p.1 p.2).map fun p => (Sum.inl (kf p.1 p.2), vf p.1 p.2)
theorem take_more {α : Type} {l : List α} {i : Nat} {x : α} (h : l[i]? = some x) : l.take (i + 1) = l.take i ++ [x] := by
  rw [List.take_add_one, h]; rfl
theorem valV_none {kvs : List (Key × V)} {k : Key} (h : k ∉ kvs.map (·.1)) : valV kvs k = none := by
  unfold valV
  rw [List.find?_eq_none.mpr]
  · rfl
  · intro p hp
    simp only [decide_eq_true_eq]
    exact fun e => h (List.mem_map.mpr ⟨p, hp, e⟩)
theorem madeD_step {c : Int → Int → Bool} {kf : Int → Int → Int} {vf : Int → Int → V} {l : List (Int × Int)} {i : Nat} {x y : Int} (h : l[i]? = some (x, y)) (nd : ((madeD c kf vf l).map (·.1)).Nodup) (hc : c x y = true) :
    putK (madeD c kf vf (l.take i)) (Sum.inl (kf x y)) (vf x y) = madeD c kf vf (l.take (i + 1)) := by
  have e : madeD c kf vf (l.take (i + 1)) = madeD c kf vf (l.take i) ++ [(Sum.inl (kf x y), vf x y)] := by
    rw [take_more h]
    unfold madeD
    rw [List.filter_append, List.map_append]
    simp [hc]
  have e2 : madeD c kf vf l = madeD c kf vf (l.take (i + 1)) ++ madeD c kf vf (l.drop (i + 1)) := by
    unfold madeD
    rw [← List.map_append, ← List.filter_append, List.take_append_drop]
  rw [e2, e, List.map_append, List.map_append] at nd
  have nd1 := (List.nodup_append.mp nd).1
  have nin : (Sum.inl (kf x y) : Key) ∉ (madeD c kf vf (l.take i)).map (·.1) := by
    intro hm
    exact (List.nodup_append.mp nd1).2.2 _ hm _ (by simp) rfl
  rw [putK_new _ (valV_none nin), e]
theorem madeD_skip {c : Int → Int → Bool} {kf : Int → Int → Int} {vf : Int → Int → V} {l : List (Int × Int)} {i : Nat} {x y : Int} (h : l[i]? = some (x, y)) (hc : c x y = false) :
    madeD c kf vf (l.take (i + 1)) = madeD c kf vf (l.take i) := by
  rw [take_more h]
  unfold madeD
  rw [List.filter_append, List.map_append]
  simp [hc]
theorem madeD_len (c : Int → Int → Bool) (kf : Int → Int → Int) (vf : Int → Int → V) (l : List (Int × Int)) (i : Nat) : (madeD c kf vf (l.take i)).length ≤ l.length := by
  unfold madeD
  rw [List.length_map]
  exact Nat.le_trans (List.length_filter_le _ _) (by rw [List.length_take]; omega)
/-- {k: v for x, y in d.items() if ..}, the tests and parts reading alone -/
theorem dc_items {K : PySem.W.Frag} {d : Addr} {l : List (Int × Int)} {te : TE} {i j : Nat} {tt : TT} {tk tv : TE} {vs : List Nat} {σ : L2.St} {H : Hp} {Q : VK} (c : Int → Int → Bool) (kf : Int → Int → Int) (vf : Int → Int → V)
    (hd : H d = some (.dK (kvI l))) (hte : ∀ H' (R : VK), R (.ref d) H' → Off d H H' → te σ H' R)
    (hw : ∀ a b, wipe (((wipe σ vs).set i a).set j b) vs = wipe σ vs)
    (hb : ∀ x y, (x, y) ∈ l → ∀ H1, Off d H H1 → (∀ R : Bool → Hp → Prop, R (c x y) H1 → tt (((wipe σ vs).set i (some (.int x))).set j (some (.int y))) H1 R) ∧
      (c x y = true → (∀ R : VK, R (.int (kf x y)) H1 → tk (((wipe σ vs).set i (some (.int x))).set j (some (.int y))) H1 R) ∧ ∀ R : VK, R (vf x y) H1 → tv (((wipe σ vs).set i (some (.int x))).set j (some (.int y))) H1 R))
    (nd : ((madeD c kf vf l).map (·.1)).Nodup) (hz : l.length < sizeLine)
    (hq : ∀ D H', H D = none → H' D = some (.dK (madeD c kf vf l)) → L2.Same H H' → Q (.ref D) H') :
    tLockE (tDc (iItems te) (gTup K 2 (gCons (gName i) (gCons (gName j) gNil))) tt tk tv vs) σ H Q := by
  refine ⟨d, _, hd, trivial, fun od => ?_⟩
  refine hte _ _ ⟨d, od, kvI l, rfl, upd_same, fun D hD => ?_⟩ Off.lock
  have hDd : D ≠ d := fun e => by rw [e, upd_same] at hD; cases hD
  have hD0 : H D = none := by rw [upd_ne hDd] at hD; exact hD
  refine dc_it walk_items (fun k H' => H' d = some (.frz od (.dK (kvI l))) ∧ Off d H H' ∧ H' D = some (.dK (madeD c kf vf (l.take k)))) ⟨?_, Off.lock.mut hD0, upd_same⟩ (fun k H' _ p => p.1) ?_ ?_
  · rw [upd_ne hDd.symm]; exact upd_same
  · rintro k v H' H'' hk ⟨p1, p2, p3⟩ ⟨T, a, b, rfl, hT, rfl, e1, e2⟩
    rw [kvI_length] at hk
    obtain ⟨⟨x, y⟩, exy⟩ : ∃ p, l[k]? = some p := ⟨_, List.getElem?_eq_getElem hk⟩
    have ek : (kvI l)[k]? = some (Sum.inl x, V.int y) := by unfold kvI; rw [List.getElem?_map, exy]; rfl
    dsimp only at e1 e2
    rw [ek] at e1 e2
    cases e1; cases e2
    have nTd : d ≠ T := ne_of_none p1 hT
    have nTD : D ≠ T := ne_of_none p3 hT
    refine ⟨T, [.int x, .int y], rfl, SqT.of upd_same, rfl, .int x, [.int y], rfl, .int y, [], rfl, rfl, ?_⟩
    refine ⟨hw _ _, ?_⟩
    have o2 : Off d H (upd H' T (.tup [.int x, .int y])) := p2.tr (Off.new hT)
    obtain ⟨b1, b2⟩ := hb x y (List.mem_of_getElem? exy) _ o2
    refine b1 _ ?_
    have d3 : (upd H' T (.tup [.int x, .int y])) d = some (.frz od (.dK (kvI l))) := by rw [upd_ne nTd]; exact p1
    have D3 : (upd H' T (.tup [.int x, .int y])) D = some (.dK (madeD c kf vf (l.take k))) := by rw [upd_ne nTD]; exact p3
    cases hc : c x y with
    | true =>
      refine iteT ?_
      obtain ⟨b3, b4⟩ := b2 hc
      refine b3 _ (b4 _ ⟨_, Sum.inl (kf x y), rfl, D3, Nat.lt_of_le_of_lt (madeD_len ..) hz, ?_⟩)
      refine ⟨?_, o2.mut hD0, ?_⟩
      · rw [upd_ne hDd.symm]; exact d3
      · rw [upd_same, madeD_step exy nd hc]
    | false =>
      refine iteF ⟨d3, o2, ?_⟩
      rw [madeD_skip exy hc]
      exact D3
  · rintro H' ⟨p1, p2, p3⟩
    rw [kvI_length, List.take_length] at p3
    refine ⟨p1, hq D _ hD0 ?_ (p2.back hd)⟩
    rw [upd_ne hDd]
    exact p3
/-- {k: v for x in range(lo, ..) if ..} -/
def madeR (c : Int → Bool) (kf : Int → Int) (vf : Int → V) (n : Nat) : List (Key × V) := ((List.range n).filter fun (i : Nat) => c (i : Int)).map fun (i : Nat) => ((Sum.inl (kf (i : Int)) : Key), vf (i : Int))
theorem madeR_succ (c : Int → Bool) (kf : Int → Int) (vf : Int → V) (n : Nat) : madeR c kf vf (n + 1) = madeR c kf vf n ++ (if c (n : Int) = true then [((Sum.inl (kf (n : Int)) : Key), vf (n : Int))] else []) := by
  unfold madeR
  rw [List.range_succ, List.filter_append, List.map_append]
  by_cases h : c (n : Int) = true
  · simp [h]
  · have h' : c (n : Int) = false := by simpa using h
    simp [h']
theorem madeR_len (c : Int → Bool) (kf : Int → Int) (vf : Int → V) (n : Nat) : (madeR c kf vf n).length ≤ n := by
  unfold madeR
  rw [List.length_map]
  exact Nat.le_trans (List.length_filter_le _ _) (by simp)
theorem madeR_keys {c : Int → Bool} {vf : Int → V} {n k : Nat} (h : (Sum.inl (k : Int) : Key) ∈ (madeR c (fun x => x) vf n).map (·.1)) : k < n := by
  unfold madeR at h
  rw [List.map_map] at h
  obtain ⟨i, hi, e⟩ := List.mem_map.mp h
  have h1 := (List.mem_filter.mp hi).1
  rw [List.mem_range] at h1
  have : (i : Int) = (k : Int) := Sum.inl.inj e
  omega
theorem dc_range {wi : TI} {i : Nat} {tt : TT} {tk tv : TE} {vs : List Nat} {σ : L2.St} {H0 H : Hp} {Q : VK} {n : Nat} (c : Int → Bool) (vf : Int → V) (hwi : ∀ R : It → Hp → Prop, R (Itr 0 n) H → wi σ H0 R)
    (hw : ∀ a, wipe ((wipe σ vs).set i a) vs = wipe σ vs)
    (hb : ∀ k : Nat, k < n → ∀ H1, L2.Same H H1 → (∀ R : Bool → Hp → Prop, R (c (k : Int)) H1 → tt ((wipe σ vs).set i (some (.int (0 + (k : Nat))))) H1 R) ∧
      (c (k : Int) = true → (∀ R : VK, R (.int (k : Int)) H1 → tk ((wipe σ vs).set i (some (.int (0 + (k : Nat))))) H1 R) ∧ ∀ R : VK, R (vf (k : Int)) H1 → tv ((wipe σ vs).set i (some (.int (0 + (k : Nat))))) H1 R))
    (hz : n < sizeLine) (hq : ∀ D H', H D = none → H' D = some (.dK (madeR c (fun x => x) vf n)) → L2.Same H H' → Q (.ref D) H') :
    tDc wi (gName i) tt tk tv vs σ H0 Q := by
  refine hwi _ ?_
  intro D hD
  refine dc_it walk_range (fun k H' => L2.Same H H' ∧ H' D = some (.dK (madeR c (fun x => x) vf k))) ⟨Same.new hD, upd_same⟩ (fun _ _ _ _ => trivial) ?_ ?_
  · rintro k v H' H'' hk ⟨p1, p2⟩ ⟨rfl, rfl⟩
    refine ⟨hw _, ?_⟩
    obtain ⟨b1, b2⟩ := hb k hk _ p1
    refine b1 _ ?_
    cases hc : c (k : Int) with
    | true =>
      refine iteT ?_
      obtain ⟨b3, b4⟩ := b2 hc
      refine b3 _ (b4 _ ⟨_, Sum.inl (k : Int), rfl, p2, Nat.lt_of_le_of_lt (madeR_len ..) (Nat.lt_trans hk hz), ?_, ?_⟩)
      · intro b o e
        rw [upd_ne (ne_of_none e hD)]
        exact p1 b o e
      · rw [upd_same, putK_new _ (valV_none fun z => Nat.lt_irrefl _ (madeR_keys z)), madeR_succ, if_pos hc]
    | false =>
      refine iteF ⟨p1, ?_⟩
      rw [madeR_succ, hc, p2]
      simp
  · rintro H' ⟨p1, p2⟩
    exact hq D _ hD p2 p1
end U
namespace U
open PySem PySem.Spec PyProof.Rows L2
section
variable {X : Cx}
theorem sw_dict {kx vx : Expr} {gs : List Comprehension} {scope : Scope} {pos py : Pos} {y : Str} {l : Nat} {env : Env} (hk : env.scope.kind = .function) (hy : env.scope.names.lookup y = some .local) (hl : (py.line == pos.line) = true)
    (ha : (scope.names.any fun (n, k) => n == y && (k == .local || k == .cell)) = false) : swapsWith (.DictComp kx vx gs scope pos) (some (.Name y py)) l env = pure true := by
  have ky : env.kindOf y = some .local := hy
  have hb : env.blockKind = .function := by unfold Env.blockKind; rw [hk]; rfl
  unfold swapsWith
  simp only [hb, ky, ha, Expr.pos, hl]
  rfl
/-- name = {..} on one line, the name a local -/
theorem ps_setDc {i : Nat} {y : Str} {py : Pos} {kx vx tg iter : Expr} {ifs : List Expr} {scope : Scope} {own : List (Str × Nat)} {pos spos : Pos} {wi : TI} {g : TG} {tt : TT} {tk tv : TE} (hc : X.calm = true) (hN : X.N.Nodup) (hy : X.N[i]? = some y) (hyl : X.env.scope.names.lookup y = some .local)
    (hsw : swapsWith (.DictComp kx vx [⟨tg, iter, ifs, 0⟩] scope pos) (some (.Name y py)) spos.line X.env = pure true) (hi : PI X tg iter wi) (ok : BlkOk X.N X.env.scope scope own)
    (hg : ∀ (s : Shared) (H : Hp) (C : Addr) (cl : List (Str × Addr)) (fp : List Addr), PG (X.blk s H scope (compEnvC scope cl C X.env) fp) tg g) (ht : ∀ (s : Shared) (H : Hp) (C : Addr) (cl : List (Str × Addr)) (fp : List Addr), PTs (X.blk s H scope (compEnvC scope cl C X.env) fp) ifs tt)
    (hk : ∀ (s : Shared) (H : Hp) (C : Addr) (cl : List (Str × Addr)) (fp : List Addr), PE (X.blk s H scope (compEnvC scope cl C X.env) fp) kx tk)
    (he : ∀ (s : Shared) (H : Hp) (C : Addr) (cl : List (Str × Addr)) (fp : List Addr), PE (X.blk s H scope (compEnvC scope cl C X.env) fp) vx tv) (hs : ∀ x, foldedSetIterable iter X.env x = pure x := by intro _; rfl) :
    PS X (.Assign [.Name y py] (.DictComp kx vx [⟨tg, iter, ifs, 0⟩] scope pos) spos) (tAsg (tDc wi g tt tk tv (own.map (·.2))) (gName i)) := by
  refine ⟨fun pins s σ H D I h => ?_⟩
  rw [exec_Assign_Name_used _ _ _ _ hsw]
  refine wpAny_bind (wpAny_standAt (wpAny_bind ?_))
  show wpAny _ X.A (do let _ ← comprehension (.DictComp kx vx [⟨tg, iter, ifs, 0⟩] scope pos) scope X.env (firstIterPos [⟨tg, iter, ifs, 0⟩] pos) newDict false (eval iter X.env) (some (assign (.Name y py) X.env))) _ _ s
  have h : tDc wi g tt tk tv (own.map (·.2)) σ H (fun x H1 => gName i x σ H1 D.nx) := h
  refine wpAny_bind (thn (dc_core (Qf := fun _ s' => SP X pins D .next s') hc hN I hi ok hg ht hk he hs h fun L C s' m H' I' q hn f => ?_) fun _ s' hq => wpAny_pure (wpAny_pure hq))
  show wpAny _ _ (assign (.Name y py) X.env (.ref L)) _ _ _
  refine wpAny_assign_Name (store_ok2 (v := V.ref L) I' hN hy (.inl hyl) rfl (fun s2 I2 ⟨a, sb, ha⟩ => ?_) (.inr hyl))
  obtain ⟨f0, f1, f2, f3, f4, f5⟩ := f
  have haC : C ≠ a := by
    rcases ha with z | z
    · rw [z]; exact f1
    · exact fun e => f4 y a z e.symm
  refine ⟨m, hn.sameBut sb haC, fun h3 sb3 => ?_⟩
  exact ⟨_, H', I2.turned (t' := s2.toks) (fun b o hb e => (sb3.2 b hb).trans e) f0 f1 f3 f4 f5, q⟩
end
/-- x = e under the lock -/
theorem lock_asg {t : TE} {D : Ends} {σ : L2.St} {H : Hp} {i : Nat} (h : tLockE t σ H (fun v H' => D.nx (σ.set i (some v)) H')) : tLock (tAsg t (gName i)) D σ H := h
/-- [v for x, y in d.items() if ..], the tests and parts reading alone -/
def madeL (c : Int → Int → Bool) (vf : Int → Int → V) (l : List (Int × Int)) : List V := (l.filter fun p => c p.1 p.2).map fun p => vf p.1 p.2
theorem madeL_step {c : Int → Int → Bool} {vf : Int → Int → V} {l : List (Int × Int)} {i : Nat} {x y : Int} (h : l[i]? = some (x, y)) :
    madeL c vf (l.take (i + 1)) = madeL c vf (l.take i) ++ (if c x y = true then [vf x y] else []) := by
  rw [take_more h]
  unfold madeL
  rw [List.filter_append, List.map_append]
  by_cases hc : c x y = true
  · simp [hc]
  · have hc' : c x y = false := by simpa using hc
    simp [hc']
theorem madeL_len (c : Int → Int → Bool) (vf : Int → Int → V) (l : List (Int × Int)) (i : Nat) : (madeL c vf (l.take i)).length ≤ l.length := by
  unfold madeL
  rw [List.length_map]
  exact Nat.le_trans (List.length_filter_le _ _) (by rw [List.length_take]; omega)
theorem lc_items {K : PySem.W.Frag} {d : Addr} {l : List (Int × Int)} {te : TE} {i j : Nat} {tt : TT} {tv : TE} {vs : List Nat} {σ : L2.St} {H : Hp} {Q : VK} (c : Int → Int → Bool) (vf : Int → Int → V)
    (hd : H d = some (.dK (kvI l))) (hte : ∀ H' (R : VK), R (.ref d) H' → Off d H H' → te σ H' R)
    (hw : ∀ a b, wipe (((wipe σ vs).set i a).set j b) vs = wipe σ vs)
    (hb : ∀ x y, (x, y) ∈ l → ∀ H1, Off d H H1 → (∀ R : Bool → Hp → Prop, R (c x y) H1 → tt (((wipe σ vs).set i (some (.int x))).set j (some (.int y))) H1 R) ∧
      (c x y = true → ∀ R : VK, R (vf x y) H1 → tv (((wipe σ vs).set i (some (.int x))).set j (some (.int y))) H1 R))
    (hz : l.length < sizeLine)
    (hq : ∀ D H', H D = none → H' D = some (.lst (madeL c vf l)) → L2.Same H H' → Q (.ref D) H') :
    tLockE (tLc (iItems te) (gTup K 2 (gCons (gName i) (gCons (gName j) gNil))) tt tv vs) σ H Q := by
  refine ⟨d, _, hd, trivial, fun od => ?_⟩
  refine hte _ _ ⟨d, od, kvI l, rfl, upd_same, fun D hD => ?_⟩ Off.lock
  have hDd : D ≠ d := fun e => by rw [e, upd_same] at hD; cases hD
  have hD0 : H D = none := by rw [upd_ne hDd] at hD; exact hD
  refine lc_it walk_items (fun k H' => H' d = some (.frz od (.dK (kvI l))) ∧ Off d H H' ∧ H' D = some (.lst (madeL c vf (l.take k)))) ⟨?_, Off.lock.mut hD0, upd_same⟩ (fun k H' _ p => p.1) ?_ ?_
  · rw [upd_ne hDd.symm]; exact upd_same
  · rintro k v H' H'' hk ⟨p1, p2, p3⟩ ⟨T, a, b, rfl, hT, rfl, e1, e2⟩
    rw [kvI_length] at hk
    obtain ⟨⟨x, y⟩, exy⟩ : ∃ p, l[k]? = some p := ⟨_, List.getElem?_eq_getElem hk⟩
    have ek : (kvI l)[k]? = some (Sum.inl x, V.int y) := by unfold kvI; rw [List.getElem?_map, exy]; rfl
    dsimp only at e1 e2
    rw [ek] at e1 e2
    cases e1; cases e2
    have nTd : d ≠ T := ne_of_none p1 hT
    have nTD : D ≠ T := ne_of_none p3 hT
    refine ⟨T, [.int x, .int y], rfl, SqT.of upd_same, rfl, .int x, [.int y], rfl, .int y, [], rfl, rfl, ?_⟩
    refine ⟨hw _ _, ?_⟩
    have o2 : Off d H (upd H' T (.tup [.int x, .int y])) := p2.tr (Off.new hT)
    obtain ⟨b1, b2⟩ := hb x y (List.mem_of_getElem? exy) _ o2
    refine b1 _ ?_
    have d3 : (upd H' T (.tup [.int x, .int y])) d = some (.frz od (.dK (kvI l))) := by rw [upd_ne nTd]; exact p1
    have D3 : (upd H' T (.tup [.int x, .int y])) D = some (.lst (madeL c vf (l.take k))) := by rw [upd_ne nTD]; exact p3
    have st := madeL_step (c := c) (vf := vf) exy
    cases hc : c x y with
    | true =>
      rw [hc, if_pos rfl] at st
      refine iteT (b2 hc _ ⟨_, D3, Nat.lt_of_le_of_lt (madeL_len ..) hz, ?_⟩)
      refine ⟨?_, o2.mut hD0, ?_⟩
      · rw [upd_ne hDd.symm]; exact d3
      · rw [upd_same, st]
    | false =>
      rw [hc, if_neg Bool.false_ne_true, List.append_nil] at st
      refine iteF ⟨d3, o2, ?_⟩
      rw [st]
      exact D3
  · rintro H' ⟨p1, p2, p3⟩
    rw [kvI_length, List.take_length] at p3
    refine ⟨p1, hq D _ hD0 ?_ (p2.back hd)⟩
    rw [upd_ne hDd]
    exact p3
end U
/-! ### own errors over any built-in error -/
namespace PySem
namespace GEX
open PySem.W PySem.Calls PyProof.Rows PySem.HandSPX Builtin Builtin.ObjectAttr
section
variable {prog : Program} {w : World} {A : Around} {E : Value → Shared → Prop} {R : Result → Shared → Prop} {hp : Heap} {gs : Array GenState} {dr : Drawn} {tn : Nat} {os : OsState}
/-- what is asked of the class's chain -/
structure Mro (m : List Value) : Prop where
  ob : m.contains (.type "object") = true
  ne : m.isEmpty = false
  ps : ∀ self : Value, refuseLoop self "__setattr__" m = pure ()
theorem mro_of {bmB bm : List Value} {B : String} (SF : StoreFacts B bmB "object.__setattr__" "object") (h : excTail bmB bm = true) (C : Addr) : Mro (.ref C :: bm) := by
  have h' : excTail bmB (.ref C :: bm) = true := h
  exact ⟨(excTail_contains "object" _ h').trans SF.hasOwner, rfl, fun self => excTail_pass self (SF.passes self) _ h'⟩
theorem osa_first {K : Frag} {nm : Str} {tk : Tok} {v : Value} {x C : Addr} {fv : Array Value} {cd : ClassData} (X : K.In hp) (hx : hp.get? x = some { cls := .ref C, data := .fields fv }) (hcd : clsIn K C = some cd) (hm : Mro cd.mro) (hh : cd.hasDict = true) (ha : findIn K (.ref C) nm = some none)
    (hq : ∀ h' tk' dx, (∀ b o, b ≠ x → hp.get? b = some o → h'.get? b = some o) → hp.objs.size ≤ dx → dx ≠ x → h'.get? x = some { cls := .ref C, dict := some dx, data := .fields fv } → h'.Ns1 dx (fun y => if y = nm then some v else none) → R (.ok (.ret .none)) ⟨h', gs, dr, tk', os⟩) :
    codeAny (model prog w) A (.call (.builtin "object.__setattr__") ⟨[.ref x, .str nm tk, v], []⟩) R ⟨hp, gs, dr, tn, os⟩ := by
  have I : InstAt hp x { cls := .ref C, data := .fields fv } C none := ⟨hx, rfl, rfl, trivial⟩
  have hxs : x ≠ hp.objs.size := Nat.ne_of_lt (Heap.lt_size hx)
  have S0 := F.store_object
  have l1 : Looks (model prog w) hp (isInstance (.ref x) (.type "object")) true := I.type.andThen (looks_mroIn X (by unfold mroIn; rw [hcd, Option.bind_some, if_neg (by rw [hm.ne]; decide), hm.ob]))
  refine codeAny_call_builtin S0.slot.plain S0.entry ?_
  refine @check_slot (model prog w) _ _ ⟨hp, gs, dr, tn, os⟩ "object.__setattr__" "object" "__setattr__" (.ref x) [.str nm tk, v] [] _ S0.kind S0.split l1 (S0.args (.ref x) (.str nm tk) v) ?_
  have l2 : Looks (model prog w) hp (mroOf (.ref C)) cd.mro := (looks_clsIn X hcd).andThen .now
  have l3 : Looks (model prog w) hp (storeTaker? none) none := .now
  have l4 : Looks (model prog w) hp (classData C) cd := looks_clsIn X hcd
  rw [osa_eq, refuse_eq]
  refine wpAny_bind (wpAny_bind (I.type.at (wpAny_bind (l2.at ?_)))); rw [hm.ps]
  refine wpAny_pure (wpAny_bind (I.type.at (wpAny_bind ((looks_findIn X ha).at (wpAny_bind (l3.at ?_))))))
  show wpAny _ _ (storeInOwnDict (.ref x) (.ref C) (.str nm tk) nm v false) _ _ _
  obtain ⟨c1, c2, c3, c4, c5, c6, c7, c8, c9, c10, c11⟩ := cd
  have hh' : c6 = true := hh
  subst hh'
  unfold storeInOwnDict ownDictForStores
  repeat (first | with_reducible refine HandSPX.store_in_new ?_ ?_ | with_reducible refine wpAny_loadPart_at hx ?_ | with_reducible refine l4.at ?_ | wp_step)
  · refine ⟨_, #[], _, (Heap.get?_update_ne _ _ _ _ hxs.symm).trans (Heap.get?_push_at rfl rfl), rfl, fun e he => ?_, fun _ => rfl⟩
    simp at he
  · intro h' tk' hn' hs
    have hx1 : (hp.push { cls := .type "dict", data := .dict #[] }).get? x = some { cls := .ref C, data := .fields fv } := Heap.get?_push_of_some _ hx
    exact hq h' tk' hp.objs.size (fun b o hb ho => (hs.2 b (Nat.ne_of_lt (Heap.lt_size ho))).trans ((Heap.get?_update_ne _ _ _ _ hb).trans (Heap.get?_push_of_some _ ho))) (Nat.le_refl _) hxs.symm ((hs.2 x hxs).trans (Heap.get?_update_self _ hx1 rfl)) hn'
theorem osa_more {K : Frag} {nm : Str} {tk : Tok} {v : Value} {x C dx : Addr} {fv : Array Value} {cd : ClassData} {m0 : Str → Option Value} {nl : List Str} (X : K.In hp) (hx : hp.get? x = some { cls := .ref C, dict := some dx, data := .fields fv }) (hns : hp.Ns1 dx m0) (hw : Within m0 nl) (hz : nl.length ≤ 1000) (hcd : clsIn K C = some cd) (hm : Mro cd.mro) (hh : cd.hasDict = true) (ha : findIn K (.ref C) nm = some none)
    (hq : ∀ h' tk', (∀ b o, b ≠ dx → hp.get? b = some o → h'.get? b = some o) → h'.Ns1 dx (fun y => if y = nm then some v else m0 y) → R (.ok (.ret .none)) ⟨h', gs, dr, tk', os⟩) :
    codeAny (model prog w) A (.call (.builtin "object.__setattr__") ⟨[.ref x, .str nm tk, v], []⟩) R ⟨hp, gs, dr, tn, os⟩ := by
  obtain ⟨oD, _, _, hoD, _, _⟩ := hns.count hw
  have I : InstAt hp x { cls := .ref C, dict := some dx, data := .fields fv } C (some oD) := ⟨hx, rfl, rfl, hoD⟩
  have S0 := F.store_object
  have l1 : Looks (model prog w) hp (isInstance (.ref x) (.type "object")) true := I.type.andThen (looks_mroIn X (by unfold mroIn; rw [hcd, Option.bind_some, if_neg (by rw [hm.ne]; decide), hm.ob]))
  refine codeAny_call_builtin S0.slot.plain S0.entry ?_
  refine @check_slot (model prog w) _ _ ⟨hp, gs, dr, tn, os⟩ "object.__setattr__" "object" "__setattr__" (.ref x) [.str nm tk, v] [] _ S0.kind S0.split l1 (S0.args (.ref x) (.str nm tk) v) ?_
  have l2 : Looks (model prog w) hp (mroOf (.ref C)) cd.mro := (looks_clsIn X hcd).andThen .now
  have l3 : Looks (model prog w) hp (storeTaker? none) none := .now
  have l4 : Looks (model prog w) hp (classData C) cd := looks_clsIn X hcd
  rw [osa_eq, refuse_eq]
  refine wpAny_bind (wpAny_bind (I.type.at (wpAny_bind (l2.at ?_)))); rw [hm.ps]
  refine wpAny_pure (wpAny_bind (I.type.at (wpAny_bind ((looks_findIn X ha).at (wpAny_bind (l3.at ?_))))))
  show wpAny _ _ (storeInOwnDict (.ref x) (.ref C) (.str nm tk) nm v false) _ _ _
  obtain ⟨c1, c2, c3, c4, c5, c6, c7, c8, c9, c10, c11⟩ := cd
  have hh' : c6 = true := hh
  subst hh'
  unfold storeInOwnDict ownDictForStores
  repeat (first | with_reducible refine OEX.store_in_old hns hw hz ?_ | with_reducible refine wpAny_loadPart_at hx ?_ | with_reducible refine l4.at ?_ | wp_step)
  intro h' tk' hn' hs
  exact hq h' tk' (fun b o hb ho => (hs.2 b hb).trans ho) hn'
end
end GEX
end PySem
namespace L2
open PySem PySem.Spec PyProof.Rows PySem.W
/-- what the written part says of an own error class -/
structure OexG (K : PySem.W.Frag) (C : Addr) : Prop where
  cls : ∃ B newId initId bmB nm q N bs bm sn sub ab col dd k0 k1 k2 k3 k5, PySem.StoreFacts B bmB "object.__setattr__" "object" ∧ ExcBaseFacts B newId initId bmB ∧ K.lookup C = some (excClassObj nm q C N bs bm true sn sub ab col dd k0 k1 k2 k3 k5 newId) ∧ PySem.W.excTail bmB bm = true
  sa : PySem.W.findIn K (.ref C) "__setattr__" = some (some (.builtin "object.__setattr__"))
  exC : PySem.W.subIn K (.ref C) (.type "BaseException") = some true
  tyC : PySem.W.typeIn K (.ref C) = some (.type "type")
  kC : PySem.W.keepIn K (.ref C) = true
section
variable {X : Cx} {pins : List (Addr × Obj)} {σ : St} {H : Hp} {s : Shared} {a C dx : Addr} {f : Str} {y : V} {u : Value} {fs : List (Str × V)} {Q : Unit → Shared → Prop} {E : Value → Shared → Prop} {A : Around}
theorem OexG.look {K : PySem.W.Frag} {C : Addr} (T : OexG K C) : ∃ cd, PySem.W.clsIn K C = some cd ∧ PySem.GEX.Mro cd.mro ∧ cd.hasDict = true := by
  obtain ⟨B, nI, iI, bmB, nm, q, N, bs, bm, sn, sub, ab, col, dd, k0, k1, k2, k3, k5, SF, _, hC, hb⟩ := T.cls
  refine ⟨{ name := nm, bases := bs, mro := .ref C :: bm, ns := N, qualname := q, hasDict := true, slotNames := sn, subclasses := sub, abstract := ab, collection := col, hasDel := false }, ?_, PySem.GEX.mro_of SF hb C, rfl⟩
  unfold PySem.W.clsIn
  rw [hC] <;> rfl
/-- self.f = y, none there as yet -/
theorem ostG_new (T : OexG X.K C) (I : Inv X pins σ H s) (e : H a = some (exo a C none)) (hno : PySem.W.findIn X.K (.ref C) f = some none) (ry : RelV y u)
    (k : ∀ dx s', H dx = none → dx ≠ a → Inv X pins σ (upd (upd H dx (exd dx [(f, y)])) a (exo a C (some dx))) s' → Q () s') : wpAny (model X.prog X.w) A (setAttr (.ref a) f u) Q E s := by
  obtain ⟨cd, hcd, hmr, hdc⟩ := T.look
  obtain ⟨t1, ho⟩ := exo_at I.hok e
  obtain ⟨h0, gs, dr, tn, os⟩ := s
  refine PySem.W.set_plain I.kIn (ox := ⟨.ref C, none, .fields #[.ref t1, .none, .none, .none, .bool false, .none], #[]⟩) (od := none) ⟨ho, rfl, rfl, trivial⟩ T.sa ?_
  refine PySem.GEX.osa_first I.kIn ho hcd hmr hdc hno fun h' tk' dx kp dn dne hx hn => ?_
  have dfree : H dx = none := I.hok.fresh dn
  have low : ∀ {b : Addr} {o : Obj}, h0.get? b = some o → b ≠ dx := fun q => Nat.ne_of_lt (Nat.lt_of_lt_of_le (Heap.lt_size q) dn)
  have apart : ∀ {b : Addr}, H b = none → b ≠ a := fun {b} n z => by subst z; rw [e] at n; cases n
  have U1 : Un X.fs [] H (upd (upd H dx (exd dx [(f, y)])) a (exo a C (some dx))) h0 h' := by
    refine ⟨fun b o q n _ _ => kp b o (apart n) q, fun b o q n _ _ => ⟨o.slots, kp b o (apart n) q⟩, fun b o q n _ => ?_, fun b o q _ => ?_, fun b xs q => ?_, fun b o v q => ?_, fun b ps q => ⟨#[], ?_⟩⟩
    · rw [upd_ne (apart n), upd_ne (low q)]; exact n
    · by_cases hb : b = a
      · subst hb; exact ⟨_, hx⟩
      · exact ⟨o, kp b o hb q⟩
    · rw [upd_ne (at_ne e q exo_tup), upd_ne (ne_of_none q dfree)]; exact q
    · rw [upd_ne (at_ne e q exo_frz), upd_ne (ne_of_none q dfree)]; exact q
    · rw [upd_ne (at_ne e q exo_tbl), upd_ne (ne_of_none q dfree), q]; simp
  refine k dx _ dfree dne (I.un (t' := tk') U1 fun b o q => ?_)
  by_cases hb : b = a
  · subst hb; rw [upd_same] at q; cases q
    exact exo_ok hx
  · rw [upd_ne hb] at q
    by_cases hd : b = dx
    · subst hd; rw [upd_same] at q; cases q
      exact exd_ok hn (relO_put (fs := []) ry fun _ => True.intro)
    · rw [upd_ne hd] at q
      refine (I.hok b o q).stay (fun c v hc z => kp c v ?_ z) (fun c hc => ?_) (fun c xs hc => ?_)
      · rcases hc with rfl | hc
        · exact hb
        · exact at_ne e hc exo_own
      · rw [upd_ne (at_ne e hc exo_own), upd_ne (ne_of_none hc dfree)]; exact hc
      · rw [upd_ne (at_ne e hc exo_tup), upd_ne (ne_of_none hc dfree)]; exact hc
theorem ostG_old (T : OexG X.K C) (I : Inv X pins σ H s) (e : H a = some (exo a C (some dx))) (ed : H dx = some (exd dx fs)) (hl : fs.length ≤ 900) (hno : PySem.W.findIn X.K (.ref C) f = some none) (ry : RelV y u)
    (k : ∀ s', Inv X pins σ (upd H dx (exd dx ((f, y) :: fs))) s' → Q () s') : wpAny (model X.prog X.w) A (setAttr (.ref a) f u) Q E s := by
  obtain ⟨cd, hcd, hmr, hdc⟩ := T.look
  obtain ⟨t1, ho⟩ := exo_at I.hok e
  obtain ⟨mA, hns, rel⟩ := exd_at I.hok ed
  have win := within_of rel
  obtain ⟨oD, _, _, hoD, _, _⟩ := hns.count win
  obtain ⟨h0, gs, dr, tn, os⟩ := s
  refine PySem.W.set_plain I.kIn (ox := ⟨.ref C, some dx, .fields #[.ref t1, .none, .none, .none, .bool false, .none], #[]⟩) (od := some oD) ⟨ho, rfl, rfl, hoD⟩ T.sa ?_
  refine PySem.GEX.osa_more I.kIn ho hns win (by rw [List.length_map]; omega) hcd hmr hdc hno fun h' tk' kp hn => ?_
  have there : ∃ o, h'.get? dx = some o := by
    obtain ⟨o, _, _, e', _⟩ := hn
    exact ⟨o, e'⟩
  exact k _ (I.write (t' := tk') (x := dx) (e := dx) (o := exd dx ((f, y) :: fs)) (by rw [ed]; exact True.intro) (.inl rfl) kp there (exd_ok hn (relO_put ry rel)))
end
/-- self.f = e, self an error being made -/
def tOstG (K : PySem.W.Frag) (f : Str) (to te : TE) : TS := fun D σ H => te σ H fun y H1 => to σ H1 fun x H2 => ∃ a C : Addr, x = .ref a ∧ OexG K C ∧ PySem.W.findIn K (.ref C) f = some none ∧
  ((H2 a = some (exo a C none) ∧ ∀ dx, H2 dx = none → dx ≠ a → D.nx σ (upd (upd H2 dx (exd dx [(f, y)])) a (exo a C (some dx)))) ∨
    ∃ (dx : Addr) (fs : List (Str × V)), H2 a = some (exo a C (some dx)) ∧ H2 dx = some (exd dx fs) ∧ fs.length ≤ 900 ∧ D.nx σ (upd H2 dx (exd dx ((f, y) :: fs))))
section
variable {X : Cx} {o e : Expr} {es : List Expr} {to te : TE} {ta : TA} {f : Str} {p p' pos : Pos}
theorem ps_ostG (ho : PE X o to) (he : PE X e te) (hs : swapsWith e (some (.Attribute o f p')) pos.line X.env = pure false := by rfl) : PS X (.Assign [.Attribute o f p'] e pos) (tOstG X.K f to te) := by
  refine ⟨fun pins s σ H D I h => plainObj_wpAny_Assign_Attribute (thn (he.run pins s σ H _ I h) fun v s1 ⟨y, H1, I1, r1, q1⟩ => thn (ho.run pins s1 σ H1 _ I1 q1) fun u s2 ⟨x, H2, I2, r2, a, C, ex, T, hno, q⟩ => ?_) hs⟩
  subst ex
  cases (show u = Value.ref a from r2)
  rcases q with ⟨ea, q⟩ | ⟨dx, fs, ea, ed, hl, q⟩
  · exact ostG_new T I2 ea hno r1 fun dx _ n ne J => ⟨σ, _, J, q dx n ne⟩
  · exact ostG_old T I2 ea ed hl hno r1 fun _ J => ⟨σ, _, J, q⟩
/-- C(e, ..) -/
theorem pmk_oexG {CX : CXT} {x : Str} {C fI : Addr} {k : Nat} {sp : Sp} (T : OexG X.K C) (iC : PySem.W.findIn X.K (.ref C) "__init__" = some (some (.ref fI))) (tI : PySem.W.typeIn X.K (.ref fI) = some (.type "function"))
    (F1 : FnR X.prog X.w X.K X.mg X.base CX k fI sp) (hr : Room (k + 1) X.A) (hx : Passes CX X (fun _ _ _ => False)) (hg : Gl X x) (hm : X.mg x = some (.ref C)) (ha : PA X (e :: es) ta)
    (hdb : (x == ("__debug__" : Str)) = false := by decide) (he : starEach (e :: es) X.env = (false, eval e X.env) :: starEach es X.env := by rfl) (hpl : (backTo pos (starEach es X.env)).any (·.1) = false := by rfl) :
    PMk X (.Call (.Name x p) (e :: es) [] pos) (tMkO C sp [] ta) := by
  intro pins s σ H Q I h
  obtain ⟨B, nI, iI, bmB, nm, q, N, bs, bm, sn, sub, ab, col, dd, k0, k1, k2, k3, k5, _, BF, hC, hbm⟩ := T.cls
  refine wpAny_Call_Name_kw (ld_glob I hg hm ?_ hdb)
  refine PySem.W.callWith_K (h₀ := X.base) I.ok.mod.kin T.kC (thn (ha.run pos pins s σ H _ I h) fun us s1 ⟨vs, H1, I1, r1, hz, q1⟩ => ⟨I1.kIn, ?_⟩) he hpl
  show wpAny _ _ (call (.ref C) us) _ _ _
  obtain ⟨h0, gs, dr, tn, os⟩ := s1
  have up : h0.objs.size ≤ h0.objs.size + 1 := Nat.le_succ _
  have hq := q1 (h0.objs.size + 1) (I1.hok.fresh up)
  rw [List.append_nil] at hq
  have kk : ∀ b o, h0.get? b = some o → ((h0.push (PySem.W.kdv_tup us)).push (PySem.HandSPX.excO C h0.objs.size)).get? b = some o := fun b o z => Heap.get?_push_of_some _ (Heap.get?_push_of_some _ z)
  have there : ((h0.push (PySem.W.kdv_tup us)).push (PySem.HandSPX.excO C h0.objs.size)).get? (h0.objs.size + 1) = some (PySem.HandSPX.excO C h0.objs.size) := by heap_get
  have I2 : Inv X pins σ (upd H1 (h0.objs.size + 1) (exo (h0.objs.size + 1) C none)) ⟨(h0.push (PySem.W.kdv_tup us)).push (PySem.HandSPX.excO C h0.objs.size), gs, dr, tn, os⟩ := I1.laid (t' := tn) kk up (exo_ok there)
  have r2 : Vals (V.ref (h0.objs.size + 1) :: vs) (Value.ref (h0.objs.size + 1) :: us) := .cons rfl r1
  have hus : us.length ≤ sizeLine := by rw [← Paired.length r1, sizeLine_eq]; omega
  refine wpAny_call (PySem.HandSPX.call_own BF (fun Y => PySem.W.excTail_contains Y bm hbm) (I1.kIn _ _ hC) (PySem.W.looks_findIn I1.kIn iC) (fun self => PySem.W.bind_fn I1.kIn self tI) hus ?_)
  refine codeAny_mono (F1 _ X.stack _ _ (Value.ref (h0.objs.size + 1) :: us) _ _ (fun _ _ _ => False) (hr.make C us []) (I2.env0.make C us []) r2 hq) fun r s' hq' => ?_
  cases r with
  | error er => exact hx pins σ _ _ er s' I2 hq'
  | ok fl =>
    cases fl with
    | ret u =>
      obtain ⟨v, H2, os2, bare2, un2, hok2, rv, ev, d, fs, ea, ed, hd1, q2⟩ := hq'
      subst ev
      obtain ⟨h2, g2, d2, t2, os'⟩ := s'
      exact ⟨rv, mk_end (raises_own T.exC T.tyC) I1 up kk un2 hok2 os2 bare2 ea ed hd1 q2⟩
    | next => exact False.elim hq'
    | brk => exact False.elim hq'
    | cont => exact False.elim hq'
end
end L2
namespace U
open PySem PySem.Spec PyProof.Rows L2 StX
section
variable {P : Program} {w : World} {K : PySem.W.Frag} {mg : Str → Option Value} {base : Heap}
/-- a def that may raise -/
theorem FnAt.okX {x qual : Str} {st : Stmt} {f : Addr} {N ps : List Str} {k : Nat} {sp : Sp} (A : FnAt K x qual st f ps) (S : FnScope N ps (defScope st)) (len : ∀ vs H Q E, sp vs H Q E → vs.length = ps.length)
    (hbody : ∀ (cdv : Value) (A : Around) (outer : List Env) (s : Shared) (H : Hp) (vs : List V) (Q : VK) (E : XK), Room k (A.deeper (envOfC qual (defScope st) s.heap.objs.size f cdv)) → sp vs H Q E →
      ∃ t, PSs (cxOf (L2.CX P w) P w K mg base N qual (defScope st) f cdv A outer s H E) (defBody st) t ∧ t { nx := fun _ H' => Q .non H', rt := Q } (start N vs) H) : FnR P w K mg base (L2.CX P w) (k + 1) f sp := by
  obtain ⟨fd, F, B⟩ := A.ex
  have R := (F.okX (P := P) (w := w) (mg := mg) (base := base) S len hbody).raw B .nil
  exact R.imp fun vs H Q E h => by rw [List.append_nil]; exact h
end
end U
namespace U
open PySem PySem.Spec PyProof.Rows L2 StX
section
variable {X : Cx} {CX : CXT} {e : Expr} {es : List Expr} {te : TE} {t : TA} {p apos cpos pos : Pos} {k i : Nat} {f : Addr} {sp : Sp} {x : Str}
/-- d.update(e), two dicts -/
def rUpdD : V → List V → Hp → VK → Prop := fun x vs H Q => ∃ a b ks ls, x = .ref a ∧ vs = [.ref b] ∧ a ≠ b ∧ H a = some (.dK ks) ∧ H b = some (.dK ls) ∧ ks.length + ls.length ≤ sizeLine ∧ Q .non (upd H a (.dK (mergeK ks ls)))
theorem mt_updD : MtR X "dict.update" rUpdD := by
  intro pins s σ H x vs v us Q I rx rv h
  obtain ⟨a, b, ks, ls, rfl, rfl, hab, ea, eb, hz, q⟩ := h
  cases (show v = Value.ref a from rx)
  obtain ⟨u, rfl, ru⟩ := rv.one
  cases (show u = Value.ref b from ru)
  obtain ⟨z1, ya, va, ra, da⟩ := (show ObjOk X.prog X.w H s.heap a (.dK ks) from I.hok a _ ea)
  obtain ⟨z2, yb, vb, rb, db⟩ := (show ObjOk X.prog X.w H s.heap b (.dK ls) from I.hok b _ eb)
  refine call_meetsIn PySem.F.slot_dict_update da.typeIs PySem.F.entry_dict_update (PySem.F.args_dict_update_2 _ _) (meets_dict_update (mixKind X.prog X.w) a b hab yb) ⟨va, vb, da, db, by rw [← ra.length, ← rb.length]; exact hz, fun h' d2 _ k2 => ?_⟩
  have there : ∃ o, h'.get? a = some o := by
    obtain ⟨o, _, _, e', _⟩ := id d2
    exact ⟨o, e'⟩
  refine ⟨.non, _, I.write (t' := s.toks) (x := a) (e := a) (o := .dK (mergeK ks ls)) (by rw [ea]; exact True.intro) (.inl rfl) (fun c o hc e => (k2.2 c hc).trans e) there ?_, rfl, q⟩
  exact ⟨Nat.le_trans (length_mergeK ls ks) hz, ya, _, rb.merge ra, d2⟩
end
end U
namespace U
open PySem PySem.Spec PyProof.Rows L2
/-- e, and what it gives is locked for good -/
def tFrz (t : TE) : TE := fun σ H Q => t σ H fun x H1 => ∃ d u, x = .ref d ∧ H1 d = some u ∧ Mut (some u) ∧ ∀ od, Q x (upd H1 d (.frz od u))
theorem pe_frz {X : Cx} {e : Expr} {t : TE} (h : PE X e t) : PE X e (tFrz t) := by
  refine ⟨fun pins s σ H Q I hw => thn (h.run pins s σ H _ I hw) fun v s1 ⟨x, H1, I1, r, d, u, ex, hd, mu, q⟩ => ?_⟩
  obtain ⟨od, I2⟩ := I1.lock hd mu
  exact ⟨x, _, I2, r, q od⟩
section
variable {P : Program} {w : World} {K : PySem.W.Frag} {mg : Str → Option Value} {base : Heap}
/-- a def that may raise, called where it does not -/
theorem fnR_calm {k : Nat} {f : Addr} {sp : Sp} (F : FnR P w K mg base (L2.CX P w) k f sp) : FnR P w K mg base CX0 k f (fun vs H Q _ => sp vs H Q E0) := by
  intro A outer s H us vs Q E hr e0 r h
  refine codeAny_mono (F A outer s H us vs Q E0 hr e0 r h) fun r s' hq => ?_
  cases r with
  | error e =>
    obtain ⟨_, _, _, _, _, _, _, _, _, _, _, _, z⟩ := hq
    exact z.elim
  | ok fl => cases fl <;> exact hq
end
/-! ### own errors with one or two fields -/
def spIni1 (C : Addr) (f : Str) : Sp := fun vs H Q _ => ∃ (a : Addr) (v : V), vs = [.ref a, v] ∧ H a = some (exo a C none) ∧ ∀ dx, H dx = none → dx ≠ a → Q .non (upd (upd H dx (exd dx [(f, v)])) a (exo a C (some dx)))
theorem mk_one {C : Addr} {f : Str} {v : V} {H : Hp} {Q : XK} (h : ∀ d, H d = none → Q (.ref C) (some d) (upd H d (.xd [(f, v)]))) :
    [v].length ≤ 1000 ∧ ∀ a, H a = none → spIni1 C f (.ref a :: ([v] ++ [])) (upd H a (exo a C none))
      (fun z H2 => z = .non ∧ ∃ (d : Addr) (fs : List (Str × V)), H2 a = some (exo a C (some d)) ∧ H2 d = some (exd d fs) ∧ H d = none ∧ Q (.ref C) (some d) (upd (del H2 a) d (.xd fs))) (fun _ _ _ => False) := by
  refine ⟨(by show 1 ≤ 1000; decide), fun a ha => ⟨a, v, rfl, upd_same, fun dx hd ne => ⟨rfl, dx, [(f, v)], upd_same, ?_, ?_, ?_⟩⟩⟩
  · rw [upd_ne ne, upd_same]
  · rw [upd_ne ne] at hd; exact hd
  · rw [upd_ne ne] at hd
    have e : upd (del (upd (upd (upd H a (exo a C none)) dx (exd dx [(f, v)])) a (exo a C (some dx))) a) dx (.xd [(f, v)]) = upd H dx (.xd [(f, v)]) := by
      funext b
      by_cases h1 : b = dx
      · subst h1; rw [upd_same, upd_same]
      · rw [upd_ne h1, upd_ne h1]
        by_cases h2 : b = a
        · subst h2
          rw [ha]
          unfold del
          simp
        · unfold del
          simp only [h2, if_false]
          rw [upd_ne h2, upd_ne h1, upd_ne h2]
    rw [e]
    exact h dx hd
end U
namespace U
open PySem PySem.Spec PyProof.Rows L2
end U
namespace U
open PySem PySem.Spec PyProof.Rows L2 StX
/-! ### defs that are called where no repr runs around them -/
def FnG (P : Program) (w : World) (K : PySem.W.Frag) (mg : Str → Option Value) (base : Heap) (CX : CXT) (k : Nat) (f : Addr) (sp : Sp) : Prop :=
  ∀ (A : Around) (outer : List Env) (s : Shared) (H : Hp) (us : List Value) (vs : List V) (Q : VK) (E : XK), A.guards = some [] → Room k A → Env0 P w K mg base A outer s H → Vals vs us → sp vs H Q E → codeAny (model P w) A (.call (.ref f) ⟨us, []⟩) (CR CX outer P w H s Q E) s
section
variable {P : Program} {w : World} {K : PySem.W.Frag} {mg : Str → Option Value} {base : Heap} {CX : CXT} {j k : Nat} {f : Addr} {sp sp' : Sp}
theorem FnG.mono (F : FnG P w K mg base CX j f sp) (h : j ≤ k) : FnG P w K mg base CX k f sp := fun A outer s H us vs Q E g hr => F A outer s H us vs Q E g (hr.mono h)
theorem FnG.imp (F : FnG P w K mg base CX k f sp) (h : ∀ vs H Q E, sp' vs H Q E → sp vs H Q E) : FnG P w K mg base CX k f sp' := fun A outer s H us vs Q E g hr e0 r z => F A outer s H us vs Q E g hr e0 r (h _ _ _ _ z)
/-- the body's walk, with what is around -/
theorem bodyG {x qual : Str} {st : Stmt} {fd : FuncData} {N ps : List Str} (F : Fun K x qual st f fd) (S : FnScope N ps (defScope st)) (len : ∀ vs H Q E, sp vs H Q E → vs.length = ps.length)
    (hbody : ∀ (cdv : Value) (A : Around) (outer : List Env) (s : Shared) (H : Hp) (vs : List V) (Q : VK) (E : XK), A.guards = some [] → Room k (A.deeper (envOfC qual (defScope st) s.heap.objs.size f cdv)) → sp vs H Q E →
      ∃ t, PSs (cxOf CX P w K mg base N qual (defScope st) f cdv A outer s H E) (defBody st) t ∧ t { nx := fun _ H' => Q .non H', rt := Q } (start N vs) H)
    (A : Around) (outer : List Env) (s : Shared) (H : Hp) (args : Args) (us : List Value) (vs : List V) (Q : VK) (E : XK) (g : A.guards = some []) (hr : Room (k + 1) A) (e0 : Env0 P w K mg base A outer s H) (hb : BindsTo s fd args (ps.zip us)) (r : Vals vs us) (hs : sp vs H Q E) :
    codeAny (model P w) A (.call (.ref f) args) (CR CX outer P w H s Q E) s := by
  obtain ⟨oc, od, kV, doc, pm, an, cdv, ct, osl, rfl, lk, hcd⟩ := F.ex
  have hl := len _ _ _ _ hs
  have kin : K.In s.heap := e0.mod.kin.keeps fun b o e => (e0.bs b o e).1
  have lim : s.heap.NoLimit := e0.mod.nolimit.keeps fun b o e => (e0.bs b o e).1
  have names : ∀ y ∈ ps.zip us, (defScope st).names.lookup y.1 = some .local ∨ ((defScope st).names.lookup y.1 = some .cell ∧ ((cellsFrom (s.heap.objs.size + 1) (defScope st).names []).lookup y.1).isSome = true) := by
    rintro ⟨n, v⟩ hy
    rcases S.par n (List.of_mem_zip hy).1 with q | q
    · exact .inl q
    · exact .inr ⟨q, PySem.W.cellsFrom_some _ _ _ (.inl q)⟩
  refine codeAny_call_function hr.depth (kin _ _ lk) rfl S.co S.gen rfl (PySem.W.codeRec_of kin hcd) (hb _ _ _ _ ?_)
  refine wpAny_newFunctionEnv_cells S.kind names fun env he s1 z => ?_
  subst he
  refine ⟨lim.keeps z.toInCall.keep, codeAny_func ?_⟩
  obtain ⟨t, ht, hq⟩ := hbody cdv A outer s H vs Q E g (hr.deeper _) hs
  have I : Inv (cxOf CX P w K mg base N qual (defScope st) f cdv A outer s H E) [] (start N vs) H s1 := inv_start S hr.hd e0 hl r z
  refine wpAny_mono (ht.run [] s1 (start N vs) H _ I hq) (fun fl s' h' => ?_) fun _ _ h' => h'
  match fl, h' with
  | .ret u, ⟨v, σ', H', J, rv, q⟩ => exact ⟨v, H', J.os, J.bare, J.base, J.hok, rv, q⟩
  | .next, ⟨σ', H', J, q⟩ => exact ⟨.non, H', J.os, J.bare, J.base, J.hok, rfl, q⟩
  | .brk, ⟨_, _, _, q⟩ => exact q.elim
  | .cont, ⟨_, _, _, q⟩ => exact q.elim
theorem FnAt.okG {x qual : Str} {st : Stmt} {N ps : List Str} (B : FnAt K x qual st f ps) (S : FnScope N ps (defScope st)) (len : ∀ vs H Q E, sp vs H Q E → vs.length = ps.length)
    (hbody : ∀ (cdv : Value) (A : Around) (outer : List Env) (s : Shared) (H : Hp) (vs : List V) (Q : VK) (E : XK), A.guards = some [] → Room k (A.deeper (envOfC qual (defScope st) s.heap.objs.size f cdv)) → sp vs H Q E →
      ∃ t, PSs (cxOf CX0 P w K mg base N qual (defScope st) f cdv A outer s H E).nox (defBody st) t ∧ t { nx := fun _ H' => Q .non H', rt := Q } (start N vs) H) : FnG P w K mg base CX0 (k + 1) f sp := by
  obtain ⟨fd, F, bi⟩ := B.ex
  intro A outer s H us vs Q E g hr e0 r hs
  have hl : (us ++ []).length = ps.length := by rw [List.append_nil, ← r.length]; exact len _ _ _ _ hs
  refine bodyG F S len (fun cdv A outer s H vs Q E g hr hs => ?_) A outer s H ⟨us, []⟩ us vs Q E g hr e0 ?_ r hs
  · obtain ⟨t, h, q⟩ := hbody cdv A outer s H vs Q E g hr hs
    exact ⟨t, h.nox, q⟩
  · have := bi s us (e0.mod.kin.keeps fun b o e => (e0.bs b o e).1) hl
    rw [List.append_nil] at this
    exact this
end
section
variable {X : Cx} {CX : CXT} {pins : List (Addr × Obj)} {σ : L2.St} {H : Hp} {s : Shared} {f : Addr} {k : Nat} {sp : Sp} {x : Str} {e : Expr} {es : List Expr} {t : TA} {pp pos : Pos}
theorem run_G {Q : VK} {us : List Value} {vs : List V} {E : XK} (F : FnG X.prog X.w X.K X.mg X.base CX k f sp) (g : X.A.guards = some []) (hr : Room k X.A) (hx : PassesAt CX X σ E) (I : Inv X pins σ H s) (r : Vals vs us) (h : sp vs H Q E) :
    codeAny (model X.prog X.w) X.A (.call (.ref f) ⟨us, []⟩) (fun r s' => match r with | .ok (.ret v) => EP X pins σ Q v s' | .ok _ => False | .error e => X.xe e s') s := by
  refine codeAny_mono (F X.A X.stack s H us vs Q E g hr I.env0 r h) fun z s' hq => ?_
  match z, hq with
  | .error er, hq => exact hx pins H s er s' I hq
  | .ok (.ret w), hq => exact I.after hq
  | .ok .next, hq => exact hq.elim
  | .ok .brk, hq => exact hq.elim
  | .ok .cont, hq => exact hq.elim
/-- x(e, ..), x such a def -/
theorem pe_callG {E : XK} (F : FnG X.prog X.w X.K X.mg X.base CX k f sp) (g : X.A.guards = some []) (hr : Room k X.A) (hk : PySem.W.keepIn X.K (.ref f) = true) (hg : Gl X x) (hm : X.mg x = some (.ref f)) (hx : Passes CX X E) (ha : PA X (e :: es) t) (hdb : (x == ("__debug__" : Str)) = false := by decide)
    (he : starEach (e :: es) X.env = (false, eval e X.env) :: starEach es X.env := by rfl) (hpl : (backTo pos (starEach es X.env)).any (·.1) = false := by rfl) : PE X (.Call (.Name x pp) (e :: es) [] pos) (tCallR sp E t) := by
  refine ⟨fun pins s σ H Q I h => wpAny_Call_Name_kw (ld_glob I hg hm ?_ hdb)⟩
  exact PySem.W.callWith_K (h₀ := X.base) I.ok.mod.kin hk (thn (ha.run pos pins s σ H _ I h) fun us s1 ⟨vs, H1, I1, r, q⟩ => ⟨I1.kIn, wpAny_call (run_G F g hr (fun pins H s e s' => hx pins σ H s e s') I1 r q)⟩) he hpl
/-! ### repr -/
/-- repr of a scalar, whatever runs around -/
def rRepr0 : List V → Hp → VK → Prop := fun xs H Q => (xs = [.non] ∧ Q (.str "None") H) ∨ (∃ b, xs = [.bl b] ∧ Q (.str (if b then "True" else "False")) H) ∨ ∃ i : Int, xs = [.int i] ∧ i.natAbs.log2 < 1920 ∧ Q (.str (toString i)) H
theorem call_repr0 : CallR X (.builtin "repr") rRepr0 := by
  intro pins s σ H xs us Q I r h
  rcases h with ⟨rfl, q⟩ | ⟨b, rfl, q⟩ | ⟨i, rfl, hz, q⟩
  · obtain ⟨u, rfl, ru⟩ := r.one
    cases ru
    exact PySem.P.repr_of_none ⟨.str _, H, I.tok _, ⟨_, rfl⟩, q⟩
  · obtain ⟨u, rfl, ru⟩ := r.one
    cases ru
    exact PySem.P.repr_of_bool ⟨.str _, H, I.tok _, ⟨_, rfl⟩, q⟩
  · obtain ⟨u, rfl, ru⟩ := r.one
    obtain ⟨t, rfl⟩ := ru
    exact PySem.P.repr_of_int hz ⟨.str _, H, I.tok _, ⟨_, rfl⟩, q⟩
/-! ### a dict of ints, shown -/
def dI (l : List (Int × Int)) : PyData := .dict (l.map fun p => (PyData.int p.1, PyData.int p.2))
end
end U
namespace U
open PySem PySem.Spec PyProof.Rows L2 StX
/-- what holds no other object -/
inductive Sc : V → PyData → Prop
  | non : Sc .non .none
  | bl (b : Bool) : Sc (.bl b) (.bool b)
  | int (i : Int) : Sc (.int i) (.int i)
  | str (x : Str) : Sc (.str x) (.str x)
def keyD : Key → PyData
  | .inl i => .int i
  | .inr x => .str x
theorem Sc.reads {h : Heap} {v : V} {d : PyData} {u : Value} (s : Sc v d) (r : RelV v u) : Reads h u d [] := by
  cases s with
  | non => cases r; exact .none
  | bl b => cases r; exact .bool b
  | int i => obtain ⟨t, rfl⟩ := r; exact .int i t
  | str x => obtain ⟨t, rfl⟩ := r; exact .str x t
theorem flat_reads {prog : Program} {w : World} {h : Heap} : ∀ {es : List DictEntry} {va : List (Key × Value)} {kvs : List (Key × V)} {ds : List PyData}, Pairs (mixKind prog w) es va → KV kvs va → Paired (fun kv d => Sc kv.2 d) kvs ds →
    ReadsAll h (es.map (·.key)) (kvs.map fun kv => keyD kv.1) [] ∧ ReadsAll h (es.map (·.val)) ds []
  | [], _, _, _, .nil, r, z => by
    cases r
    cases z
    exact ⟨.nil, .nil⟩
  | e :: es, _, _, _, .cons h1 h2 h3, r, z => by
    unfold KV at r
    cases r with
    | cons q r =>
      cases z with
      | cons zc z =>
        obtain ⟨g1, g2⟩ := flat_reads (h := h) h3 r z
        obtain ⟨q1, q2⟩ := q
        refine ⟨.cons (as := []) ?_ g1, .cons (as := []) ?_ g2⟩
        · show Reads h e.key (keyD _) []
          rw [q1]
          rcases keyIs_shape h1 with ⟨i, t, e1, e2⟩ | ⟨x, t, e1, e2⟩
          · rw [e1, e2]; exact .int i t
          · rw [e1, e2]; exact .str x t
        · show Reads h e.val _ []
          rw [h2]
          exact zc.reads q2
def flatD (kvs : List (Key × V)) (ds : List PyData) : PyData := .dict ((kvs.map fun kv => keyD kv.1).zip ds)
theorem dict_reads {X : Cx} {pins : List (Addr × Obj)} {σ : L2.St} {H : Hp} {s : Shared} {a : Addr} {kvs : List (Key × V)} {ds : List PyData} (I : Inv X pins σ H s) (ea : H a = some (.dK kvs)) (z : Paired (fun kv d => Sc kv.2 d) kvs ds) :
    ∃ as, Reads s.heap (.ref a) (flatD kvs ds) as ∧ sysModules ∉ as := by
  obtain ⟨_, ya, va, ra, o, es, ep, ho, hc, hd, _, hp, _⟩ := (show ObjOk X.prog X.w H s.heap a (.dK kvs) from I.hok a _ ea)
  obtain ⟨g1, g2⟩ := flat_reads (h := s.heap) hp ra z
  have lz : kvs.length = ds.length := Paired.length z
  have e1 : (((kvs.map fun kv => keyD kv.1).zip ds).map (·.1)) = kvs.map fun kv => keyD kv.1 := List.map_fst_zip (by rw [List.length_map, lz]; exact Nat.le_refl _)
  have e2 : (((kvs.map fun kv => keyD kv.1).zip ds).map (·.2)) = ds := List.map_snd_zip (by rw [List.length_map, lz]; exact Nat.le_refl _)
  refine ⟨a :: [] ++ [], .dict ho hc.1 hd (by rw [e1]; exact g1) (by rw [e2]; exact g2), ?_⟩
  simp only [List.append_nil, List.mem_singleton]
  intro e
  rw [← e] at ya
  simp at ya
section
variable {X : Cx} {CX : CXT} {k : Nat} {f C : Addr} {sp : Sp} {E : XK} {n : Nat} {g : Addr}
/-- {d!r}, a dict of scalars -/
def tFmtF (te : TE) : TE := fun σ H Q => te σ H fun x H1 => ∃ a kvs ds, x = .ref a ∧ H1 a = some (.dK kvs) ∧ Paired (fun kv d => Sc kv.2 d) kvs ds ∧ (flatD kvs ds).showable = true ∧ (flatD kvs ds).depth ≤ 60 ∧ (flatD kvs ds).shown.length ≤ sizeLine ∧ Q (.str (flatD kvs ds).shown) H1
theorem pe_fmtF {e : Expr} {te : TE} {pos : Pos} (g : X.A.guards = some []) (hu : X.A.units + 64 < cLine) (he : PE X e te) : PE X (.FormattedValue e 114 none pos) (tFmtF te) := by
  refine ⟨fun pins s σ H Q I h => ?_⟩
  refine wpAny_FormattedValue_repr (thn (he.run pins s σ H _ I h) fun v s1 hv => ?_)
  obtain ⟨x, H1, I1, r1, a, kvs, ds, rfl, ea, z, hs, hdp, hz, q⟩ := hv
  cases (show v = Value.ref a from r1)
  obtain ⟨as, rd, hn⟩ := dict_reads I1 ea z
  refine pyReprObj_of_reads rd hs (fun _ => hn) g (by omega) (fun _ _ e => e) (fun h' u tk hk => ?_) hz
  have I2 : Inv X pins σ H1 { s1 with heap := h', toks := tk } := I1.kept (t' := tk) hk
  exact wpAny_formatField_str ⟨.str _, H1, I2, ⟨_, rfl⟩, q⟩ ⟨.str _, H1, I2.tok _, ⟨_, rfl⟩, q⟩ hz
/-- repr(x), x an instance with its own __repr__ -/
def rReprO (C : Addr) (sp : Sp) (E : XK) : List V → Hp → VK → Prop := fun xs H Q => ∃ a dx fs, xs = [.ref a] ∧ H a = some (.ins C dx fs) ∧ sp [.ref a] H (fun v H' => ∃ z : Str, v = .str z ∧ Q (.str z) H') E
theorem call_reprO (gd : X.A.guards = some []) (hs : PySem.W.findIn X.K (.ref C) "__repr__" = some (some (.ref g))) (hf : PySem.W.isFn X.K (.ref g) = true) (F : FnG X.prog X.w X.K X.mg X.base CX n g sp) (hr : Room (n + 1) X.A) (hx : Passes CX X E) : CallR X (.builtin "repr") (rReprO C sp E) := by
  intro pins s σ H xs us Q I r h
  obtain ⟨a, dx, fs, rfl, ea, q⟩ := h
  obtain ⟨u, rfl, ru⟩ := r.one
  cases (show u = Value.ref a from ru)
  obtain ⟨ox, od, J⟩ := ins_inst I ea
  obtain ⟨m, hF⟩ := I.fr
  refine PySem.W.repr_K (by have := hr.un; show X.A.units + 1 < cLine; omega) hF I.ok.mod.kin J hs hf ?_
  refine wpAny_call ?_
  refine codeAny_mono (F X.A.in1 X.stack s H [.ref a] [.ref a] _ E gd (Room.in1 hr) I.env0.in1 (.cons rfl .nil) q) fun z s' hq => ?_
  match z, hq with
  | .error er, hq => exact hx pins σ H s er s' I hq
  | .ok (.ret w), hq =>
    obtain ⟨v, H', I', rv, zt, ev, qz⟩ := I.after hq
    subst ev
    obtain ⟨tk, rfl⟩ := rv
    exact ⟨.str zt, H', I', ⟨tk, rfl⟩, qz⟩
  | .ok .next, hq => exact hq.elim
  | .ok .brk, hq => exact hq.elim
  | .ok .cont, hq => exact hq.elim
end
end U
namespace U
open PySem PySem.Spec PyProof.Rows L2 StX
/-! ### the law's call, where no repr runs around it -/
section
variable {P : Program} {w : World} {K : PySem.W.Frag} {mg mb : Str → Option Value} {k : Nat} {fa sc : Addr} {sp : Sp} {s1 : Shared} {us : List Value} {ns : List Int}
/-- from an abstract heap that tracks at most the script -/
theorem law_core (inK : K.In s1.heap) (glob : s1.heap.Ns mainGlobals mg) (blt : s1.heap.Ns builtinsNs mb) (blt2 : ∀ x : Str, x ≠ "__name__" → mb x = bootBuiltins x) (lim : s1.heap.NoLimit) (gens : s1.gens = #[])
    (there : s1.heap.get? sc = some { cls := .type "list", data := .seq us.toArray }) (room : Room k callerA)
    (F : ∀ base : Heap, FnG P w K mg base CX0 k fa sp)
    (H : Hp) (only : Only H) (hok : HOk P w H s1.heap) (just : ∀ b, H b ≠ none → b = sc) (offK : H sc ≠ none → K.lookup sc = none)
    (prom : sp [.ref sc] H (fun v _ => v = .bl true) E0) :
    codeAny (model P w) callerA (.call (.ref fa) ⟨[.ref sc], []⟩) (fun r s' => r = .ok (.ret (.bool true)) ∧ OldK s1.heap s'.heap ∧ s'.os = s1.os ∧ AllBare s'.gens) s1 := by
  have isSc : ∀ {b : Addr} {u : HO}, H b = some u → b = sc := fun {b u} e => just b fun z => by rw [z] at e; cases e
  have free : ∀ {b : Addr} {o : Obj} {es : Array DictEntry} {ep : Nat}, s1.heap.get? b = some o → o.data = .dict es ep → H b = none := by
    intro b o es ep e d
    cases hb : H b with
    | none => rfl
    | some u =>
      have := isSc hb
      subst this
      rw [there] at e
      cases e
      exact absurd (show Data.seq us.toArray _ = Data.dict es ep from d) (by intro z; cases z)
  have spaces : ∀ {b : Addr} {m : Str → Option Value}, s1.heap.Ns b m → (hidT s1.heap H).Ns b m := by
    rintro b m ⟨o, es, ep, e, d, r⟩
    exact ⟨o, es, ep, hidT_get e (free e d), d, r⟩
  have inB : K.In (hidT s1.heap H) := by
    intro b o e
    refine hidT_get (inK b o e) ?_
    cases hb : H b with
    | none => rfl
    | some u =>
      have := isSc hb
      subst this
      have z := offK (by rw [hb]; intro z; cases z)
      rw [e] at z
      cases z
  have md : Mod K mg (hidT s1.heap H) := by
    obtain ⟨mc, l1, l2⟩ := lim
    exact ⟨inB, spaces glob, ⟨mb, spaces blt, blt2⟩, ⟨mc, spaces l1, l2⟩⟩
  have env : Env0 P w K mg (hidT s1.heap H) callerA [] s1 H := by
    refine ⟨rfl, md, fun b o e => of_hidT e, Nat.le_of_eq (hidT_size _ _), trivial, fun b hb => ?_, hok, .of_eq gens⟩
    exact absurd hb List.not_mem_nil
  refine codeAny_mono (F (hidT s1.heap H) callerA [] s1 H [.ref sc] [.ref sc] (fun v _ => v = .bl true) E0 rfl room env (.cons rfl .nil) prom) fun r s' h => ?_
  match r, h with
  | .error e, h => exact h.elim
  | .ok .next, h => exact h.elim
  | .ok .brk, h => exact h.elim
  | .ok .cont, h => exact h.elim
  | .ok (.ret u), ⟨v, H', os, bare, un, hok', rv, q⟩ =>
    subst q
    cases (show u = Value.bool true from rv)
    refine ⟨rfl, OldK.of_keep fun b o e => ?_, os, bare⟩
    cases hb : H b with
    | none => exact un.keep b o e hb (fun z => absurd z List.not_mem_nil) (by simp)
    | some u =>
      rcases only b with z | ⟨ob, xs, z⟩
      · rw [hb] at z
        cases z
      · have a1 := (hok b _ z).1
        have a2 := (hok' b _ (un.frzs b ob _ z)).1
        rw [e] at a1
        cases a1
        exact a2
theorem law_callG (inK : K.In s1.heap) (glob : s1.heap.Ns mainGlobals mg) (blt : s1.heap.Ns builtinsNs mb) (blt2 : ∀ x : Str, x ≠ "__name__" → mb x = bootBuiltins x) (lim : s1.heap.NoLimit) (gens : s1.gens = #[])
    (there : s1.heap.get? sc = some { cls := .type "list", data := .seq us.toArray }) (inS : IntsAre us ns) (len : ns.length ≤ sizeLine) (room : Room k callerA)
    (F : ∀ base : Heap, FnG P w K mg base CX0 k fa sp)
    (prom : ∀ H : Hp, SqL K H sc (ns.map V.int) → sp [.ref sc] H (fun v _ => v = .bl true) E0) :
    codeAny (model P w) callerA (.call (.ref fa) ⟨[.ref sc], []⟩) (fun r s' => r = .ok (.ret (.bool true)) ∧ OldK s1.heap s'.heap ∧ s'.os = s1.os ∧ AllBare s'.gens) s1 := by
  have rv := vals_ints inS
  have go := law_core (P := P) (w := w) (k := k) (fa := fa) (sp := sp) inK glob blt blt2 lim gens there room F
  cases hk : K.lookup sc with
  | some o =>
    have e := inK sc o hk
    rw [there] at e
    cases e
    refine go (fun _ => none) (fun _ => .inl rfl) (fun b u z => by cases (show (none : Option HO) = some u from z)) (fun b z => absurd rfl z) (fun z => absurd rfl z) (prom _ ?_)
    refine .inr ⟨_, us.toArray, _, hk, rfl, rfl, rfl, ?_, by simpa using rv⟩
    rw [List.size_toArray, inS.length]
    exact len
  | none =>
    have at_ : (fun b => if b = sc then some (HO.frz { cls := .type "list", data := .seq us.toArray } (.lst (ns.map V.int))) else none) sc = some (.frz { cls := .type "list", data := .seq us.toArray } (.lst (ns.map V.int))) := if_pos rfl
    refine go (fun b => if b = sc then some (.frz { cls := .type "list", data := .seq us.toArray } (.lst (ns.map V.int))) else none) (fun b => ?_) (fun b u z => ?_) (fun b z => ?_) (fun _ => hk) (prom _ (.inl (.inr ⟨_, at_⟩)))
    · by_cases hb : b = sc
      · subst hb
        exact .inr ⟨_, _, at_⟩
      · exact .inl (if_neg hb)
    · by_cases hb : b = sc
      · subst hb
        rw [at_] at z
        cases z
        refine ⟨there, ?_, us, _, rv, there⟩
        rw [List.length_map]
        exact len
      · have no := (if_neg hb).symm.trans z
        cases no
    · refine Classical.byContradiction fun hb => z (if_neg hb)
end
/-- the goal that k_head leaves, from the law's promise -/
theorem walkG {l : PySem.W.OpenLaw} {n k : Nat} {q : Program} {loose : List Str} {XP : (Str → Option Value) → Heap → Prop} {YP : World → Heap → Prop} {d : DefRec} {K : Params → PySem.W.Frag} {sp : PySem.W.Frag → Sp}
    (hn : l.most = some n) (hn2 : n ≤ sizeLine) (hdf : d.params.defaults = []) (room : Room k callerA) (hY : ∀ (w : World) (h : Heap), YP w h → (K w.params).In h)
    (F : ∀ (w : World) (mg : Str → Option Value) (fa : Addr) (h : Heap), (K w.params).In h → h.Ns mainGlobals mg → mg d.name = some (.ref fa) → ∀ base : Heap, FnG l.prog w (K w.params) mg base CX0 k fa (sp (K w.params)))
    (prom : ∀ (K : PySem.W.Frag) (H : Hp) (a : Addr) (ns : List Int), ns.length ≤ n → SqL K H a (ns.map V.int) → sp K [.ref a] H (fun v _ => v = .bl true) E0) :
    PySem.W.WalkO q loose XP YP l.row.toRowW d [] (fun f vs => PySem.call f vs) := by
  refine Att.attach_call hn hdf fun w s0 s1 mg mb fa o pm cd doc a vs ns G Y ho hd hcd hmg hobj hints hlen hg => ?_
  have inK := hY w _ Y
  exact law_callG inK G.T.g G.T.b G.T.builtins G.T.nolimit hg hobj hints (Nat.le_trans hlen hn2) room (F w mg fa _ inK G.T.g hmg) fun H hS => prom _ H a ns hlen hS
end U
namespace U
open PySem PySem.Spec PyProof.Rows L2 StX
/-! ### defs called while an exception is handled -/
end U
namespace U
open PySem PySem.Spec PyProof.Rows L2 StX
end U
namespace U
open PySem PySem.Spec PyProof.Rows L2 StX
end U
namespace U
open PySem PySem.Spec PyProof.Rows L2 StX PySem.W
end U
namespace U
open PySem PySem.Spec PyProof.Rows L2 StX
/-! ### x op i, the class's own, i an int -/
/-! ### list(d.items()), the dict locked or not -/
end U
namespace U
open PySem PySem.Spec PyProof.Rows L2
/-! ### several clauses 'except x as n' -/
end U
namespace U
open PySem L2
/-! ### facts of heaps, for the search -/
theorem carry {H H' : Hp} {a : Addr} {o : HO} (s : L2.Same H H') (h : H a = some o) : H' a = some o := s a o h
theorem carryNew {H : Hp} {p a : Addr} {o u : HO} (hp : H p = none) (h : H a = some u) : upd H p o a = some u := (Same.new hp) a u h
theorem freeUp {H : Hp} {p q : Addr} {o : HO} (h : upd H q o p = none) : H p = none := by
  by_cases e : p = q
  · subst e; rw [upd_same] at h; cases h
  · rw [upd_ne e] at h; exact h
theorem freeVia {H H' : Hp} {p : Addr} (s : L2.Same H H') (h : H' p = none) : H p = none := s.free h
theorem sameUp {H H1 : Hp} {p : Addr} {o : HO} (hp : H1 p = none) (s : L2.Same H H1) : L2.Same H (upd H1 p o) := s.trans (Same.new hp)
theorem sameVia {H H1 H2 : Hp} (b : L2.Same H1 H2) (a : L2.Same H H1) : L2.Same H H2 := a.trans b
theorem upd_facts {H H1 : Hp} {p : Addr} {o : HO} (h : upd H p o = H1) (n : H p = none) : L2.Same H H1 ∧ H1 p = some o := by
  subst h
  exact ⟨Same.new n, upd_same⟩
theorem nil_le : ([] : List V).length ≤ sizeLine := by decide
theorem one_le {a : V} : [a].length ≤ sizeLine := by show 1 ≤ sizeLine; decide
theorem two_le {a b : V} : [a, b].length ≤ sizeLine := by show 2 ≤ sizeLine; decide
theorem three_le {a b c : V} : [a, b, c].length ≤ sizeLine := by show 3 ≤ sizeLine; decide
theorem le_line {n : Nat} (h : n ≤ 100000) : n ≤ sizeLine := Nat.le_trans h (by decide)
theorem lt_line {n : Nat} (h : n ≤ 100000) : n < sizeLine := Nat.lt_of_le_of_lt h (by decide)
end U
namespace U
open PySem PySem.Spec PyProof.Rows L2 GQ PySem.SeqAt MeetsSeq MeetsSeq2 MeetsSeq3 SeqRoads2
open AutoSeq1 (wpAny_loadPart')
/-! ### defs with a star parameter -/
structure StarAt (K : PySem.W.Frag) (x qual : Str) (st : Stmt) (f : Addr) (ps : List Str) (pv : Str) : Prop where
  ex : ∃ fd, Fun K x qual st f fd ∧ ∀ us rest : List Value, us.length = ps.length → bindArgs fd ⟨us ++ rest, []⟩ = (newTuple rest >>= fun t => pure (ps.zip us ++ [(pv, t)]))
theorem StarAt.kp {K : PySem.W.Frag} {x qual : Str} {st : Stmt} {f : Addr} {ps : List Str} {pv : Str} (A : StarAt K x qual st f ps pv) : PySem.W.keepIn K (.ref f) = true := by
  obtain ⟨_, F, _⟩ := A.ex
  exact F.kp
/-- what is asked of the arguments: the named ones, then a new tuple of the rest -/
def spStar (n : Nat) (sp : Sp) : Sp := fun vs H Q E => ∃ ws rest, vs = ws ++ rest ∧ ws.length = n ∧ rest.length ≤ sizeLine ∧ ∀ p, H p = none → sp (ws ++ [V.ref p]) (upd H p (.tup rest)) Q E
section
variable {P : Program} {w : World} {K : PySem.W.Frag} {mg : Str → Option Value} {base : Heap} {x qual pv : Str} {st : Stmt} {f : Addr} {N ps : List Str} {k : Nat} {sp : Sp}
theorem StarAt.okX (B : StarAt K x qual st f ps pv) (S : FnScope N (ps ++ [pv]) (defScope st))
    (walk : ∀ (cdv : Value) (A : Around) (outer : List Env) (s : Shared) (H : Hp) (vs : List V) (Q : VK) (E : XK), Room k (A.deeper (envOfC qual (defScope st) s.heap.objs.size f cdv)) → sp vs H Q E →
      ∃ t, PSs (cxOf (L2.CX P w) P w K mg base N qual (defScope st) f cdv A outer s H E) (defBody st) t ∧ t { nx := fun _ H' => Q .non H', rt := Q } (start N vs) H) : FnR P w K mg base (L2.CX P w) (k + 1) f (spStar ps.length sp) := by
  obtain ⟨fd, F, hb⟩ := B.ex
  obtain ⟨oc, od, kV, doc, pm, an, cdv, ct, osl, rfl, lk, hcd⟩ := F.ex
  exact StX.fn_star lk hcd S StX.cxUp hb fun A outer s H vs Q E hr h => walk cdv A outer s H vs Q E hr h
theorem StarAt.ok (B : StarAt K x qual st f ps pv) (S : FnScope N (ps ++ [pv]) (defScope st))
    (walk : ∀ (cdv : Value) (A : Around) (outer : List Env) (s : Shared) (H : Hp) (vs : List V) (Q : VK) (E : XK), Room k (A.deeper (envOfC qual (defScope st) s.heap.objs.size f cdv)) → sp vs H Q E →
      ∃ t, PSs (cxOf CX0 P w K mg base N qual (defScope st) f cdv A outer s H E).nox (defBody st) t ∧ t { nx := fun _ H' => Q .non H', rt := Q } (start N vs) H) : FnR P w K mg base CX0 (k + 1) f (spStar ps.length sp) := by
  obtain ⟨fd, F, hb⟩ := B.ex
  obtain ⟨oc, od, kV, doc, pm, an, cdv, ct, osl, rfl, lk, hcd⟩ := F.ex
  refine StX.fn_star lk hcd S StX.cxUp_none hb fun A outer s H vs Q E hr h => ?_
  obtain ⟨t, a, b⟩ := walk cdv A outer s H vs Q E hr h
  exact ⟨t, a.nox, b⟩
end
/-! ### == by an own __eq__, inside lists and tuples -/
end U
namespace U
open PySem PySem.Spec PyProof.Rows L2 StX LamX
/-! ### defs with lambdas: the code object's place is told -/
structure CodeAt (K : PySem.W.Frag) (x qual : Str) (st : Stmt) (f c : Addr) (ps : List Str) : Prop where
  ex : ∃ (oc : Value) (od : Option Addr) (kV doc pm : Value) (an : Option Addr) (ct : Value) (osl : Array (Option Value)),
    K.lookup f = some ⟨oc, od, .func (PySem.W.fnOf x qual (defArgs st) (defBody st) (defScope st) .none kV doc pm an (.ref c) ct), osl⟩ ∧ PySem.W.codeIn K (.ref c) qual = true ∧ Binds K (PySem.W.fnOf x qual (defArgs st) (defBody st) (defScope st) .none kV doc pm an (.ref c) ct) ps []
section
variable {P : Program} {w : World} {K : PySem.W.Frag} {mg : Str → Option Value} {base : Heap} {k : Nat} {f c : Addr} {sp : Sp} {x qual : Str} {st : Stmt} {N ps : List Str}
theorem CodeAt.okG (B : CodeAt K x qual st f c ps) (S : FnScope N ps (defScope st)) (len : ∀ vs H Q E, sp vs H Q E → vs.length = ps.length)
    (walk : ∀ (A : Around) (outer : List Env) (s : Shared) (H : Hp) (vs : List V) (Q : VK) (E : XK), A.guards = some [] → Room k (A.deeper (envOfC qual (defScope st) s.heap.objs.size f (.ref c))) → sp vs H Q E →
      ∃ t, PSs (cxOf CX0 P w K mg base N qual (defScope st) f (.ref c) A outer s H E).nox (defBody st) t ∧ t { nx := fun _ H' => Q .non H', rt := Q } (start N vs) H) : FnG P w K mg base CX0 (k + 1) f sp := by
  obtain ⟨oc, od, kV, doc, pm, an, ct, osl, lk, hcd, bi⟩ := B.ex
  intro A outer s H us vs Q E g hr e0 r hs
  have hl := len _ _ _ _ hs
  have kin : K.In s.heap := e0.mod.kin.keeps fun b o e => (e0.bs b o e).1
  have lim : s.heap.NoLimit := e0.mod.nolimit.keeps fun b o e => (e0.bs b o e).1
  have names : ∀ y ∈ ps.zip us, (defScope st).names.lookup y.1 = some .local ∨ ((defScope st).names.lookup y.1 = some .cell ∧ ((cellsFrom (s.heap.objs.size + 1) (defScope st).names []).lookup y.1).isSome = true) := by
    rintro ⟨n, v⟩ hy
    rcases S.par n (List.of_mem_zip hy).1 with q | q
    · exact .inl q
    · exact .inr ⟨q, PySem.W.cellsFrom_some _ _ _ (.inl q)⟩
  have hb : BindsTo s (PySem.W.fnOf x qual (defArgs st) (defBody st) (defScope st) .none kV doc pm an (.ref c) ct) ⟨us, []⟩ (ps.zip us) := by
    have := bi s us kin (by rw [List.append_nil, ← r.length]; exact hl)
    rw [List.append_nil] at this
    exact this
  refine codeAny_call_function hr.depth (kin _ _ lk) rfl S.co S.gen rfl (PySem.W.codeRec_of kin hcd) (hb _ _ _ _ ?_)
  refine wpAny_newFunctionEnv_cells S.kind names fun env he s1 z => ?_
  subst he
  refine ⟨lim.keeps z.toInCall.keep, codeAny_func ?_⟩
  obtain ⟨t, ht, hq⟩ := walk A outer s H vs Q E g (hr.deeper _) hs
  have I : Inv (cxOf CX0 P w K mg base N qual (defScope st) f (.ref c) A outer s H E) [] (start N vs) H s1 := inv_start S hr.hd e0 hl r z
  refine wpAny_mono (ht.nox.run [] s1 (start N vs) H _ I hq) (fun fl s' h' => ?_) fun _ _ h' => h'
  match fl, h' with
  | .ret u, ⟨v, σ', H', J, rv, q⟩ => exact ⟨v, H', J.os, J.bare, J.base, J.hok, rv, q⟩
  | .next, ⟨σ', H', J, q⟩ => exact ⟨.non, H', J.os, J.bare, J.base, J.hok, rfl, q⟩
  | .brk, ⟨_, _, _, q⟩ => exact q.elim
  | .cont, ⟨_, _, _, q⟩ => exact q.elim
end
/-! ### the law's call, tables tracked -/
/-! ### what a lambda's caller makes of its exceptions -/
/-! ### heaps that grow but for the tables -/
end U
namespace U
open PySem PySem.Spec PyProof.Rows L2 StX LamX
end U
namespace U
open PySem PySem.Spec PyProof.Rows L2
/-! ### x not in a tuple, data of any depth -/
end U
namespace U
open PySem PySem.Spec PyProof.Rows L2
/-! ### dicts of ints in a list: in, not in, index -/
end U
namespace U
open PySem PySem.Spec PyProof.Rows L2 StX
end U
namespace U
open PySem PySem.Spec PyProof.Rows L2 StX NdefX
/-! ### a def of a class whose first statement is super().m(..) -/
/-- what is asked of the program around: the file of its code objects, super not hidden at the top -/
structure SupP (P : Program) (file : Str) : Prop where
  file : ((P.main.file : Str) == file) = true
  top : (P.main.scope.names.lookup ("super" : Str)).isSome = false
structure SupAt (K : PySem.W.Frag) (x qual : Str) (st : Stmt) (f c cc D : Addr) (ps : List Str) (file : Str) : Prop where
  ex : ∃ (oc : Value) (od : Option Addr) (kV doc pm : Value) (an : Option Addr) (ct : Value) (osl : Array (Option Value)),
    K.lookup f = some ⟨oc, od, .func (PySem.W.fnX x qual (defArgs st) (defBody st) (defScope st) [("__class__", cc)] .none kV doc pm an (.ref c) ct), osl⟩ ∧ PySem.W.codeIn K (.ref c) qual = true ∧ Binds K (PySem.W.fnX x qual (defArgs st) (defBody st) (defScope st) [("__class__", cc)] .none kV doc pm an (.ref c) ct) ps []
  code : ∃ (ccl : Value) (cdd : Option Addr) (vs : Array Value) (ccs : Array (Option Value)) (tf : Tok), K.lookup c = some ⟨ccl, cdd, .fields vs, ccs⟩ ∧ vs[2]? = some (.str file tf)
  cell : ∃ (cl : Value) (cld : Option Addr) (csl : Array (Option Value)), K.lookup cc = some ⟨cl, cld, .cell (some (.ref D)), csl⟩
  cls : ∃ cd, PySem.W.clsIn K D = some cd
  pos : ((defArgs st).posonlyargs ++ (defArgs st).args).head?.map (·.arg) = ps[0]?
  nosuper : PySem.W.nsIn K mainGlobals "super" = some none
  noop : PySem.W.nsIn K cStatics "thirdparty.any" = some none
  scS : (defScope st).names.lookup ("super" : Str) = some .globalImplicit
  scC : (defScope st).names.lookup ("__class__" : Str) = some .free
/-- the method that super().m finds, for an instance of the class at C -/
structure SupM (K : PySem.W.Frag) (C D : Addr) (m : Str) (f2 : Addr) : Prop where
  sub : PySem.W.mroIn K C (.ref D) = some true
  at_ : PySem.W.ks_superIn K C D m = some (some (.ref f2))
  ty : PySem.W.typeIn K (.ref f2) = some (.type "function")
  fi : PySem.W.fnIn K f2 = true
  cl : (m == ("__class__" : Str)) = false
section
variable {X : Cx} {pins : List (Addr × Obj)} {σ : L2.St} {H : Hp} {s : Shared} {C D dx x f2 : Addr} {fs : List (Str × V)} {m : Str}
/-- super().m(..) run within the def's own code -/
theorem run_super {CX : CXT} {k2 : Nat} {sp2 : Sp} {Q : VK} {E : XK} {t : TA} {body : List Stmt} {p0 p1 apos pos epos : Pos} {e : Expr} {qual : Str} {st : Stmt} {name : Str} {f c cc : Addr} {ps : List Str} {file s0 : Str}
    (B : SupAt X.K name qual st f c cc D ps file) (hP : SupP X.prog file) (M : SupM X.K C D m f2) (F : FnR X.prog X.w X.K X.mg X.base CX k2 f2 sp2) (hr : Room k2 X.A) (hx : Passes CX X E)
    (hsc : X.env.scope = defScope st) (hfu : X.env.func = some f) (hco : X.env.code = .ref c) (hcl : X.env.cells.lookup ("__class__" : Str) = some cc) (hps : ps[0]? = some s0) (hN : X.N[0]? = some s0) (hloc : X.env.scope.names.lookup s0 = some .local)
    (I : Inv X pins σ H s) (hv : σ[0]? = some (some (.ref x))) (ea : H x = some (.ins C dx fs)) (ha : PA X [e] t)
    (h : t σ H fun vs H1 => sp2 (.ref x :: vs) H1 Q E)
    (hint : interactive X.env = false) (hsw : swapsWith (.Call (.Attribute (.Call (.Name "super" p0) [] [] p1) m apos) [e] [] pos) none epos.line X.env = pure false)
    (hst : starEach [e] X.env = [(false, eval e X.env)]) (pl : Sem Bool)
    (he : eval (.Call (.Attribute (.Call (.Name "super" p0) [] [] p1) m apos) [e] [] pos) X.env = (do
      let ov ← attributeBase (.Call (.Name "super" p0) [] [] p1) m X.env (eval (.Call (.Name "super" p0) [] [] p1) X.env)
      standAt apos.atName
      let (f, first) ← holding [ov] (getMethod ov m pl)
      callWith pos f first (backTo pos (starEach [e] X.env)) [])) :
    PySem.wpAt (model X.prog X.w) X.A (.func body X.env) (exec (.Expr (.Call (.Attribute (.Call (.Name "super" p0) [] [] p1) m apos) [e] [] pos) epos) X.env)
      (fun fl s' => fl = .next ∧ ∃ v H2, Inv X pins σ H2 s' ∧ Q v H2) X.xe s := by
  obtain ⟨oc, od, kV, doc, pm, an, ct, osl, lk, hcd, bi⟩ := B.ex
  obtain ⟨ccl, cdd, vs2, ccs, tf, hcode, hvs⟩ := B.code
  obtain ⟨cl0, cld, csl, hcell⟩ := B.cell
  obtain ⟨cdD, hD⟩ := B.cls
  have KX := I.kIn
  obtain ⟨oD, hD1, hD2⟩ : ∃ oD, s.heap.get? D = some oD ∧ oD.data = .cls cdD := by
    unfold PySem.W.clsIn at hD
    split at hD
    · rename_i c d cd' sl ho
      cases hD
      exact ⟨_, KX _ _ ho, rfl⟩
    · cases hD
  obtain ⟨ar, har, har2⟩ : ∃ ar : Arg, ((defArgs st).posonlyargs ++ (defArgs st).args).head? = some ar ∧ ar.arg = s0 := by
    have := B.pos
    rw [hps] at this
    cases z : ((defArgs st).posonlyargs ++ (defArgs st).args).head? with
    | none => rw [z] at this; cases this
    | some ar => rw [z] at this; exact ⟨ar, rfl, Option.some.inj this⟩
  obtain ⟨mA, O, _, _, _, _⟩ := ins_get I.hok ea
  obtain ⟨odx, J, _⟩ := O.look
  refine PySem.ks_wpAt_Expr_any ?_ hint hsw
  refine PySem.ks_wpAt_MethodCall (pl := pl) ?_ he
  refine PySem.ks_wpAt_super_base (env := X.env) (fd := PySem.W.fnX name qual (defArgs st) (defBody st) (defScope st) [("__class__", cc)] .none kV doc pm an (.ref c) ct) (by show X.env.scope.names.lookup _ = _; rw [hsc]; exact B.scS) (by show X.env.scope.names.lookup _ = _; rw [hsc]; exact B.scC) M.cl hfu (KX _ _ lk) rfl (ar := ar) har hco (KX _ _ hcode) rfl hvs hP.file hP.top ?_
  have hgs : X.env.kindOf ("super" : Str) = some .globalImplicit := by show X.env.scope.names.lookup _ = _; rw [hsc]; exact B.scS
  refine PySem.W.ks_loadName_global I.ok.kind hgs ?_
  obtain ⟨mb, h1, h2⟩ := I.mod.blt
  refine Calls.loadGlobal_builtin (by rw [I.ok.glob]; exact I.mod.glob.keeps I.bk) (PySem.W.mg_none_of I.mod.kin I.mod.glob B.nosuper) (by rw [I.ok.blt]; exact h1.keeps I.bk) ((h2 "super" (by decide +kernel)).trans (by rfl)) ⟨rfl, ?_⟩
  refine wpAny_loadName_free I.ok.kind (by show X.env.scope.names.lookup _ = _; rw [hsc]; exact B.scC) hcl ⟨_, KX _ _ hcell, rfl⟩ ?_
  obtain ⟨mL, hns, hal⟩ := I.loc
  obtain ⟨u, ru, hlook⟩ := hal 0 s0 (.ref x) hN hv (Or.inl hloc)
  obtain rfl : u = Value.ref x := ru
  have hmL : mL s0 = some (.ref x) := by
    rcases hlook with ⟨_, z⟩ | ⟨z, _⟩
    · exact z
    · rcases z with z | z
      · rw [show X.env.kindOf s0 = some .local from hloc] at z; cases z
      · rw [show X.env.kindOf s0 = some .local from hloc] at z; cases z
  rw [har2]
  refine wpAny_loadName_local I.ok.kind hloc hns hmL ?_
  obtain ⟨hh, g, d, t0, os⟩ := s
  refine PySem.ks_wpAny_isType_cls hD1 hD2 ⟨rfl, ?_⟩
  refine PySem.ks_wpAny_call_super hD1 hD2 J.at_ J.cls (fun c e => ?_) (PySem.W.looks_mroIn KX M.sub) (fun h' ee kk => ?_)
  · have := J.no
    unfold PySem.W.notCls at this
    rw [e] at this
    exact Bool.noConfusion this
  -- the super object stands; its method
  have I2 : Inv X pins σ H ⟨h', g, d, t0, os⟩ := I.kept (t' := t0) kk
  have KX2 := I2.kIn
  cases hc : PySem.W.clsIn X.K C with
  | none => have := M.at_; unfold PySem.W.ks_superIn at this; rw [hc] at this; cases this
  | some cd =>
    have hm := M.at_
    unfold PySem.W.ks_superIn at hm
    rw [hc] at hm
    obtain ⟨of, hof, hofc⟩ : ∃ of, h'.get? f2 = some of ∧ of.cls = .type "function" := by
      have ht' : (X.K.lookup f2).map (·.cls) = some (.type "function") := M.ty
      cases z : X.K.lookup f2 with
      | none => rw [z] at ht'; cases ht'
      | some of => rw [z] at ht'; exact ⟨of, KX2 _ _ z, Option.some.inj ht'⟩
    refine PySem.ks_wpAny_getMethod_super ee (PySem.W.looks_opaque KX2 B.noop) (l₀ := cd.mro) ?_ rfl KX2 hm hof hofc (PySem.W.ks_ne KX J hc) M.cl ?_
    · exact fun A Q E s k q => wpAny_bind ((PySem.W.looks_clsIn KX2 hc) A _ E s k (wpAny_pure q))
    · have I3 : Inv X ((h'.objs.size, PySem.W.methodObj (.ref f2) (.ref x)) :: pins) σ H ⟨h'.push (PySem.W.methodObj (.ref f2) (.ref x)), g, d, t0 + 1, os⟩ := ClX.met_new I2
      refine ClX.callwith_cm I3 (ClX.base_none I2 (Nat.le_refl _)) M.fi (thn (ha.run pos _ _ σ H _ I3 h) fun us s3 ⟨vs, H2, I4, rv, q2⟩ => ⟨⟨ClX.pin_at I4, I4.kIn⟩, ?_⟩) hst rfl
      exact thn (ClX.run_cm F hr hx I4 rv q2) fun v s4 ⟨z, H3, I5, _, q3⟩ => ⟨rfl, z, H3, I5, q3⟩
end
/-- the def, by its first statement super().m(e) and the rest -/
theorem SupAt.okX {P : Program} {w : World} {K : PySem.W.Frag} {mg : Str → Option Value} {base : Heap} {CX : CXT} {k k2 : Nat} {name qual : Str} {st : Stmt} {f c cc D C f2 : Addr} {N ps : List Str} {file s0 m : Str} {sp sp2 : Sp} {p0 p1 apos pos epos : Pos} {e : Expr} {rest : List Stmt}
    (B : SupAt K name qual st f c cc D ps file) (hP : SupP P file) (M : SupM K C D m f2) (F : FnR P w K mg base CX k2 f2 sp2) (hk : k2 ≤ k)
    (S : NScope N ps ["__class__"] (defScope st)) (hps : ps[0]? = some s0) (hb : defBody st = .Expr (.Call (.Attribute (.Call (.Name "super" p0) [] [] p1) m apos) [e] [] pos) epos :: rest)
    (len : ∀ vs H Q E, sp vs H Q E → vs.length = ps.length)
    (walk : ∀ (A : Around) (outer : List Env) (s : Shared) (H : Hp) (vs : List V) (Q : VK) (E : XK) (X : Cx), X = ncx CX P w K mg base N ⟨name, qual, defArgs st, defBody st, defScope st, [("__class__", cc)], c⟩ f A outer s H E → Room k X.A → sp vs H Q E →
      Passes CX X E ∧ interactive X.env = false ∧ swapsWith (.Call (.Attribute (.Call (.Name "super" p0) [] [] p1) m apos) [e] [] pos) none epos.line X.env = pure false ∧ starEach [e] X.env = [(false, eval e X.env)] ∧
      (∃ pl : Sem Bool, eval (.Call (.Attribute (.Call (.Name "super" p0) [] [] p1) m apos) [e] [] pos) X.env = (do
        let ov ← attributeBase (.Call (.Name "super" p0) [] [] p1) m X.env (eval (.Call (.Name "super" p0) [] [] p1) X.env)
        standAt apos.atName
        let (f, first) ← holding [ov] (getMethod ov m pl)
        callWith pos f first (backTo pos (starEach [e] X.env)) [])) ∧
      ∃ (x dx : Addr) (fs : List (Str × V)) (t : TA), vs[0]? = some (.ref x) ∧ H x = some (.ins C dx fs) ∧ PA X [e] t ∧
        t (startF N vs [none]) H fun us H1 => sp2 (.ref x :: us) H1 (fun _ H2 => ∃ tt, PSs X rest tt ∧ tt { nx := fun _ H' => Q .non H', rt := Q } (startF N vs [none]) H2) E) :
    FnR P w K mg base CX (k + 1) f sp := by
  obtain ⟨oc, od, kV, doc, pm, an, ct, osl, lk, hcd, bi⟩ := B.ex
  intro A outer s H us vs Q E hr e0 r hs
  have hl := len _ _ _ _ hs
  have kin : K.In s.heap := e0.mod.kin.keeps fun b o e => (e0.bs b o e).1
  have lim : s.heap.NoLimit := e0.mod.nolimit.keeps fun b o e => (e0.bs b o e).1
  have hbn : BindsTo s (PySem.W.fnX name qual (defArgs st) (defBody st) (defScope st) [("__class__", cc)] .none kV doc pm an (.ref c) ct) ⟨us, []⟩ (ps.zip us) := by
    have := bi s us kin (by rw [List.append_nil, ← r.length]; exact hl)
    rw [List.append_nil] at this
    exact this
  refine codeAny_call_function hr.depth (kin _ _ lk) rfl S.co S.gen rfl (PySem.W.codeRec_of kin hcd) (hbn _ _ _ _ ?_)
  refine wpAny_newFunctionEnv S.nocell (fun ⟨n, _⟩ hy => S.par n (List.of_mem_zip hy).1) (fun h₁ hns hsb => ⟨lim.fresh _ hsb, ?_⟩) S.kind
  generalize hF : (⟨name, qual, defArgs st, defBody st, defScope st, [(("__class__" : Str), cc)], c⟩ : NF) = FF at walk
  have hFc : FF.cl = [(("__class__" : Str), cc)] := by rw [← hF]
  have hFs : FF.scope = defScope st := by rw [← hF]
  have hFb : FF.body = defBody st := by rw [← hF]
  have hFcc : FF.c = c := by rw [← hF]
  have henv : envF FF f s.heap.objs.size = PySem.W.envX qual (defScope st) s.heap.objs.size f (.ref c) [(("__class__" : Str), cc)] := by rw [← hF]
  have kp : ∀ b o, s.heap.get? b = some o → h₁.get? b = some o := fun b o e => hsb.extBut b o (Nat.ne_of_lt (Heap.lt_size e)) (Heap.get?_push_of_some _ e)
  obtain ⟨cl0, cld, csl, hcell⟩ := B.cell
  have CA : CellsAt FF.cl ["__class__"] [none] s.heap H := by
    rw [hFc]
    refine ⟨rfl, fun y a hy => ?_, fun a b a' h1 h2 => ?_, fun i y hi => ?_⟩
    · have : a = cc := by
        have hm := PySem.mem_of_lookup hy
        simp only [List.mem_singleton] at hm
        exact (Prod.mk.inj hm).2
      subst this
      exact ⟨(e0.bs _ _ (e0.mod.kin _ _ hcell)).2, _, _, kin _ _ hcell, rfl⟩
    · have m1 := PySem.mem_of_lookup h1
      have m2 := PySem.mem_of_lookup h2
      simp only [List.mem_singleton] at m1 m2
      rw [(Prod.mk.inj m1).1, (Prod.mk.inj m2).1]
    · match i, hi with
      | 0, hi =>
        cases hi
        exact ⟨cc, by simp [List.lookup], fun v hv => by cases hv⟩
      | i + 1, hi => simp at hi
  have I : Inv (ncx CX P w K mg base N FF f A outer s H E) [] (startF N vs [none]) H { s with heap := h₁, toks := s.toks + (ps.zip us).length } := inv_startN (by rw [hFs]; exact S) hr.hd e0 hl r CA hns kp
  obtain ⟨hx, hint, hsw, hst, ⟨pl, he⟩, x, dx, fs, t, hv0, ea, ha, hq⟩ := walk A outer s H vs Q E _ rfl (hr.deeper _) hs
  show codeAny _ _ (.func (defBody st) (PySem.W.envX qual (defScope st) s.heap.objs.size f (.ref c) [(("__class__" : Str), cc)])) _ _
  rw [← henv]
  refine PySem.ks_codeAny_funcAt ?_
  rw [hb]
  refine PySem.ks_wpAt_execs_cons ?_
  have hps0 : ps.length ≠ 0 := by
    intro z
    cases ps with
    | nil => cases hps
    | cons a b => cases z
  have hv : (startF N vs [none])[0]? = some (some (.ref x)) := by
    unfold startF
    rw [List.getElem?_append_left (by rw [List.length_map]; omega), List.getElem?_map, hv0]
    rfl
  have hN0 : N[0]? = some s0 := by
    have : (ps ++ [("__class__" : Str)])[0]? = some s0 := by rw [List.getElem?_append_left (by omega)]; exact hps
    rw [← S.pre, List.getElem?_take_of_lt (by simp)] at this
    exact this
  have hloc0 : (defScope st).names.lookup s0 = some .local := S.par s0 (List.mem_of_getElem? hps)
  refine PySem.ks_wpAt_mono (run_super (X := ncx CX P w K mg base N FF f A outer s H E) (body := _) B hP M F ((hr.deeper _).mono hk) hx hFs rfl (by show Value.ref FF.c = _; rw [hFcc]) (by show FF.cl.lookup _ = _; rw [hFc]; simp [List.lookup]) hps hN0 (by show FF.scope.names.lookup s0 = _; rw [hFs]; exact hloc0) I hv ea ha hq hint hsw hst pl he) (fun fl s' hh => ?_) fun e s' hh => hh
  obtain ⟨rfl, _, H2, I2, tt, htt, hqq⟩ := hh
  refine wpAt_of_wpAny ?_
  have fin : ∀ {σ' : L2.St} {H' : Hp} {v : V} {u : Value} {s' : Shared}, Inv (ncx CX P w K mg base N FF f A outer s H E) [] σ' H' s' → L2.RelV v u → Q v H' → CE outer P w H s Q u s' :=
    fun {σ' H' v u s'} J rv q => ⟨v, H', J.os, J.bare, J.base, J.hok, rv, q⟩
  refine wpAny_mono (htt.run [] _ (startF N vs [none]) H2 _ I2 hqq) (fun fl s' hs => ?_) fun e s' hs => hs
  cases fl with
  | ret u =>
    obtain ⟨v, σ', H', J, rv, q⟩ := hs
    exact fin J rv q
  | next =>
    obtain ⟨σ', H', J, q⟩ := hs
    exact fin (v := V.non) (u := Value.none) J rfl q
  | brk =>
    obtain ⟨_, _, _, q⟩ := hs
    exact False.elim q
  | cont =>
    obtain ⟨_, _, _, q⟩ := hs
    exact False.elim q
end U
namespace U
open PySem PySem.Spec PyProof.Rows L2 StX
/-! ### {o!r}, o an instance with its own __repr__ -/
end U
namespace U
open PySem PySem.Spec PyProof.Rows L2 GQ PySem.SeqAt MeetsSeq MeetsSeq2 MeetsSeq3 SeqRoads2
open AutoSeq1 (wpAny_loadPart')
/-! ### == of lists and tuples, with either result -/
/-- D x y H c: == of the two gives c -/
abbrev EqvB := V → V → Hp → Bool → Prop
def MonB (D : EqvB) : Prop := ∀ x y H H' c, Ext H H' → D x y H c → D x y H' c
def EqH (X : Cx) (n : Nat) (D : EqvB) : Prop :=
  ∀ (A : Around) (pins : List (Addr × Obj)) (s : Shared) (σ : L2.St) (H : Hp) (x y : V) (u v : Value) (c : Bool), Sub X n A → Inv X pins σ H s → RelV x u → RelV y v → D x y H c →
    wpAny (model X.prog X.w) A (eqBool u v) (fun r s' => r = c ∧ ∃ H', Inv X pins σ H' s' ∧ Ext H H') X.xe s
section
variable {X : Cx} {n m : Nat} {D D' : EqvB}
theorem EqH.mono (h : EqH X n D) (hn : n ≤ m) : EqH X m D := fun A pins s σ H x y u v c sb => h A pins s σ H x y u v c (sb.mono hn)
theorem EqH.or (h : EqH X n D) (h' : EqH X n D') : EqH X n (fun x y H c => D x y H c ∨ D' x y H c) := fun A pins s σ H x y u v c sb I rx ry d => by
  rcases d with d | d
  · exact h A pins s σ H x y u v c sb I rx ry d
  · exact h' A pins s σ H x y u v c sb I rx ry d
theorem MonB.or (h : MonB D) (h' : MonB D') : MonB (fun x y H c => D x y H c ∨ D' x y H c) := fun x y H H' c e d => d.elim (fun d => .inl (h x y H H' c e d)) fun d => .inr (h' x y H H' c e d)
end
end U
namespace PySem.W
open PySem PySem.Calls PyProof.Rows
end PySem.W
namespace U
open PySem PySem.Spec PyProof.Rows L2 StX
end U
namespace U
open PySem PySem.Spec PyProof.Rows L2 StX
/-! ### C(*xs) -/
end U
namespace U
open PySem PySem.Spec PyProof.Rows L2 GQ PySem.SeqAt MeetsSeq MeetsSeq2 MeetsSeq3 SeqRoads2
open AutoSeq1 (wpAny_loadPart')
/-! ### != of lists, == and != of tuples of any lengths, in: with either result -/
/-- what != says, by what == says -/
def NeH (X : Cx) (n : Nat) (D : EqvB) : Prop :=
  ∀ (A : Around) (pins : List (Addr × Obj)) (s : Shared) (σ : L2.St) (H : Hp) (x y : V) (u v : Value) (c : Bool), Sub X n A → Inv X pins σ H s → RelV x u → RelV y v → D x y H c →
    wpAny (model X.prog X.w) A (richCompare .NotEq u v) (fun r s' => r = .bool (!c) ∧ ∃ H', Inv X pins σ H' s' ∧ Ext H H') X.xe s
section
variable {X : Cx} {n m : Nat} {D D' : EqvB}
theorem NeH.or (h : NeH X n D) (h' : NeH X n D') : NeH X n (fun x y H c => D x y H c ∨ D' x y H c) := fun A pins s σ H x y u v c sb I rx ry d => by
  rcases d with d | d
  · exact h A pins s σ H x y u v c sb I rx ry d
  · exact h' A pins s σ H x y u v c sb I rx ry d
end
end U
namespace U
open PySem PySem.Spec PyProof.Rows L2 StX
open PySem.AutoSeq1 (wpAny_loadPart')
/-! ### enumerate(a tuple) -/
/-! ### a tuple of one item, many times -/
end U
namespace PM
open U
/-! ### one-to-one maps between parts of 0 .. n - 1 -/
abbrev PF := Int → Option Int
structure WF (n : Int) (f : PF) : Prop where
  dom : ∀ x y, f x = some y → 0 ≤ x ∧ x < n ∧ 0 ≤ y ∧ y < n
  inj : ∀ x x' y, f x = some y → f x' = some y → x = x'
def tabN (f : PF) (n : Nat) : List (Int × Int) := (List.range n).filterMap fun (i : Nat) => (f (i : Int)).map fun y => ((i : Int), y)
def tab (n : Int) (f : PF) : List (Int × Int) := tabN f n.toNat
theorem mem_tabN {f : PF} {n : Nat} {x y : Int} : (x, y) ∈ tabN f n ↔ f x = some y ∧ ∃ i : Nat, i < n ∧ x = (i : Int) := by
  unfold tabN
  rw [List.mem_filterMap]
  constructor
  · rintro ⟨i, hi, e⟩
    rw [List.mem_range] at hi
    cases h : f (i : Int) with
    | none => rw [h] at e; cases e
    | some z => rw [h] at e; cases e; exact ⟨h, i, hi, rfl⟩
  · rintro ⟨h, i, hi, rfl⟩
    exact ⟨i, List.mem_range.mpr hi, by rw [h]; rfl⟩
theorem mem_tab {n : Int} {f : PF} (w : WF n f) {x y : Int} : (x, y) ∈ tab n f ↔ f x = some y := by
  unfold tab
  rw [mem_tabN]
  constructor
  · exact fun h => h.1
  · intro h
    have := w.dom x y h
    exact ⟨h, x.toNat, by omega, by omega⟩
theorem keys_tabN (f : PF) (n : Nat) : ((tabN f n).map (·.1)).Nodup := by
  induction n with
  | zero => exact List.nodup_nil
  | succ n ih =>
    have e : tabN f (n + 1) = tabN f n ++ ((f (n : Int)).map fun y => ((n : Int), y)).toList := by
      unfold tabN
      rw [List.range_succ, List.filterMap_append]
      cases h : f (n : Int) <;> simp [h]
    rw [e, List.map_append, List.nodup_append]
    refine ⟨ih, ?_, ?_⟩
    · cases f (n : Int) <;> simp
    · intro a ha b hb e
      subst e
      obtain ⟨p, hp, rfl⟩ := List.mem_map.mp ha
      obtain ⟨x, y⟩ := p
      obtain ⟨_, i, hi, ex⟩ := mem_tabN.mp hp
      cases h : f (n : Int) with
      | none => rw [h] at hb; simp at hb
      | some z =>
        rw [h] at hb
        simp at hb
        omega
theorem keys_tab (n : Int) (f : PF) : ((tab n f).map (·.1)).Nodup := keys_tabN f _
theorem lk_tab {n : Int} {f : PF} (w : WF n f) (x : Int) : lk (tab n f) x = f x := by
  cases h : f x with
  | some y => exact lk_some (keys_tab n f) ((mem_tab w).mpr h)
  | none =>
    cases e : lk (tab n f) x with
    | none => rfl
    | some y =>
      have := (mem_tab w).mp (lk_mem e)
      rw [h] at this; cases this
theorem tab_len (n : Int) (f : PF) : (tab n f).length ≤ n.toNat := by
  unfold tab tabN
  exact Nat.le_trans (List.length_filterMap_le _ _) (by simp)
theorem vals_tab {n : Int} {f : PF} (w : WF n f) : ((tab n f).map (·.2)).Nodup := by
  have k := keys_tab n f
  have key : ∀ l : List (Int × Int), (∀ p ∈ l, f p.1 = some p.2) → (l.map (·.1)).Nodup → (l.map (·.2)).Nodup := by
    intro l
    induction l with
    | nil => intro _ _; exact List.nodup_nil
    | cons p r ih =>
      intro h nd
      rw [List.map_cons, List.nodup_cons] at nd ⊢
      refine ⟨fun hm => ?_, ih (fun q hq => h q (List.mem_cons_of_mem _ hq)) nd.2⟩
      obtain ⟨q, hq, e⟩ := List.mem_map.mp hm
      have h1 := h p List.mem_cons_self
      have h2 := h q (List.mem_cons_of_mem _ hq)
      rw [e] at h2
      have := w.inj _ _ _ h1 h2
      exact nd.1 (by rw [this]; exact List.mem_map.mpr ⟨q, hq, rfl⟩)
  exact key _ (fun p hp => (mem_tab w).mp hp) k
/-! ### the operations -/
def mul (f g : PF) : PF := fun x => (f x).bind g
def idn (n : Int) : PF := fun x => if 0 ≤ x ∧ x < n then some x else none
def emp : PF := fun _ => none
def inv (n : Int) (f : PF) : PF := fun y => ((tab n f).find? fun p => decide (p.2 = y)).map (·.1)
def le (f g : PF) : Prop := ∀ x y, f x = some y → g x = some y
theorem wf_mul {n : Int} {f g : PF} (wf : WF n f) (wg : WF n g) : WF n (mul f g) := by
  refine ⟨fun x y h => ?_, fun x x' y h h' => ?_⟩
  · unfold mul at h
    cases e : f x with
    | none => rw [e] at h; cases h
    | some z =>
      rw [e] at h
      have h1 := wf.dom x z e
      have h2 := wg.dom z y h
      omega
  · unfold mul at h h'
    cases e : f x with
    | none => rw [e] at h; cases h
    | some z =>
      cases e' : f x' with
      | none => rw [e'] at h'; cases h'
      | some z' =>
        rw [e] at h; rw [e'] at h'
        have := wg.inj z z' y h h'
        subst this
        exact wf.inj _ _ _ e e'
theorem wf_idn (n : Int) : WF n (idn n) := by
  refine ⟨fun x y h => ?_, fun x x' y h h' => ?_⟩
  · unfold idn at h
    split at h
    · cases h; omega
    · cases h
  · unfold idn at h h'
    split at h
    · split at h'
      · cases h; cases h'; rfl
      · cases h'
    · cases h
theorem wf_emp (n : Int) : WF n emp := ⟨fun _ _ h => (nomatch h), fun _ _ _ h => (nomatch h)⟩
theorem inv_iff {n : Int} {f : PF} (w : WF n f) {x y : Int} : inv n f y = some x ↔ f x = some y := by
  unfold inv
  constructor
  · intro h
    cases e : (tab n f).find? (fun p => decide (p.2 = y)) with
    | none => rw [e] at h; cases h
    | some p =>
      rw [e] at h
      obtain ⟨a, b⟩ := p
      have h1 := List.find?_some e
      simp only [decide_eq_true_eq] at h1
      have h2 : a = x := Option.some.inj h
      subst h1 h2
      exact (mem_tab w).mp (List.mem_of_find?_eq_some e)
  · intro h
    have hm := (mem_tab w).mpr h
    cases e : (tab n f).find? (fun p => decide (p.2 = y)) with
    | none =>
      have := List.find?_eq_none.mp e _ hm
      simp at this
    | some p =>
      obtain ⟨a, b⟩ := p
      have h1 := List.find?_some e
      simp only [decide_eq_true_eq] at h1
      subst h1
      have h3 := (mem_tab w).mp (List.mem_of_find?_eq_some e)
      show some a = some x
      rw [w.inj _ _ _ h3 h]
theorem wf_inv {n : Int} {f : PF} (w : WF n f) : WF n (inv n f) := by
  refine ⟨fun y x h => ?_, fun y y' x h h' => ?_⟩
  · have := w.dom x y ((inv_iff w).mp h)
    omega
  · have h1 := (inv_iff w).mp h
    have h2 := (inv_iff w).mp h'
    rw [h1] at h2
    exact Option.some.inj h2
/-- a dict of pairs tells f -/
structure DI (l : List (Int × Int)) (f : PF) : Prop where
  nd : (l.map (·.1)).Nodup
  at_ : ∀ x, lk l x = f x
theorem DI.mem {l : List (Int × Int)} {f : PF} (d : DI l f) {x y : Int} : (x, y) ∈ l ↔ f x = some y := by
  rw [← d.at_]
  exact ⟨lk_some d.nd, lk_mem⟩
theorem di_tab {n : Int} {f : PF} (w : WF n f) : DI (tab n f) f := ⟨keys_tab n f, lk_tab w⟩
theorem DI.vals {n : Int} {l : List (Int × Int)} {f : PF} (d : DI l f) (w : WF n f) : (l.map (·.2)).Nodup := by
  obtain ⟨nd, _⟩ := id d
  have key : ∀ r : List (Int × Int), (∀ p ∈ r, f p.1 = some p.2) → (r.map (·.1)).Nodup → (r.map (·.2)).Nodup := by
    intro r
    induction r with
    | nil => intro _ _; exact List.nodup_nil
    | cons p r ih =>
      intro h nd
      rw [List.map_cons, List.nodup_cons] at nd ⊢
      refine ⟨fun hm => ?_, ih (fun q hq => h q (List.mem_cons_of_mem _ hq)) nd.2⟩
      obtain ⟨q, hq, e⟩ := List.mem_map.mp hm
      have h1 := h p List.mem_cons_self
      have h2 := h q (List.mem_cons_of_mem _ hq)
      rw [e] at h2
      have := w.inj _ _ _ h1 h2
      exact nd.1 (by rw [this]; exact List.mem_map.mpr ⟨q, hq, rfl⟩)
  exact key l (fun p hp => d.mem.mp hp) nd
theorem di_of {l : List (Int × Int)} {f : PF} (nd : (l.map (·.1)).Nodup) (h : ∀ x y, (x, y) ∈ l ↔ f x = some y) : DI l f := by
  refine ⟨nd, fun x => ?_⟩
  cases e : f x with
  | some y => exact lk_some nd ((h x y).mpr e)
  | none =>
    cases e2 : lk l x with
    | none => rfl
    | some y =>
      have := (h x y).mp (lk_mem e2)
      rw [e] at this; cases this
end PM
namespace PM
open U
/-! ### powers -/
def iter (f : PF) : Nat → PF
  | 0 => fun x => some x
  | k + 1 => fun x => (iter f k x).bind f
theorem iter_add (f : PF) (a b : Nat) (x : Int) : iter f (a + b) x = (iter f a x).bind (iter f b) := by
  induction b with
  | zero => simp [iter]
  | succ b ih =>
    show (iter f (a + b) x).bind f = _
    rw [ih]
    cases iter f a x <;> rfl
theorem iter_one (f : PF) : iter f 1 = f := rfl
theorem iter_head (f : PF) (k : Nat) (x : Int) : iter f (k + 1) x = (f x).bind (iter f k) := by
  rw [Nat.add_comm, iter_add]; rfl
structure Row (f : PF) (e : Int) (r : List Int) : Prop where
  h0 : r[0]? = some e
  st : ∀ (i : Nat) (a b : Int), r[i]? = some a → r[i + 1]? = some b → f a = some b ∧ b ≠ e
theorem Row.ne {f : PF} {e : Int} {r : List Int} (w : ∀ x x' y, f x = some y → f x' = some y → x = x') (R : Row f e r) : ∀ (i k : Nat) (a : Int), r[i]? = some a → r[i + k + 1]? = some a → False
  | 0, k, a, h1, h2 => by
    rw [R.h0] at h1
    cases h1
    have hk : ∃ b, r[k]? = some b := by
      have : 0 + k + 1 < r.length := (List.getElem?_eq_some_iff.mp h2).1
      exact ⟨_, List.getElem?_eq_getElem (by omega)⟩
    obtain ⟨b, hb⟩ := hk
    have := R.st k b e hb (by rw [Nat.zero_add] at h2; exact h2)
    exact this.2 rfl
  | i + 1, k, a, h1, h2 => by
    have l1 : i + 1 < r.length := (List.getElem?_eq_some_iff.mp h1).1
    have l2 : i + 1 + k + 1 < r.length := (List.getElem?_eq_some_iff.mp h2).1
    obtain ⟨b, hb⟩ : ∃ b, r[i]? = some b := ⟨_, List.getElem?_eq_getElem (by omega)⟩
    obtain ⟨c, hc⟩ : ∃ c, r[i + k + 1]? = some c := ⟨_, List.getElem?_eq_getElem (by omega)⟩
    have e1 := (R.st i b a hb h1).1
    have h2' : r[i + k + 1 + 1]? = some a := by rw [show i + k + 1 + 1 = i + 1 + k + 1 by omega]; exact h2
    have e2 := (R.st (i + k + 1) c a hc h2').1
    have : b = c := w _ _ _ e1 e2
    subst this
    exact Row.ne w R i k b hb hc
theorem nodup_of_get {l : List Int} (h : ∀ (i k : Nat) (a : Int), l[i]? = some a → l[i + k + 1]? = some a → False) : l.Nodup := by
  induction l with
  | nil => exact List.nodup_nil
  | cons x r ih =>
    rw [List.nodup_cons]
    refine ⟨fun hm => ?_, ih fun i k a h1 h2 => ?_⟩
    · obtain ⟨j, hj⟩ := List.mem_iff_getElem?.mp hm
      exact h 0 j x rfl (by rw [Nat.zero_add]; exact hj)
    · refine h (i + 1) k a h1 ?_
      rw [show i + 1 + k + 1 = (i + k + 1) + 1 by omega]
      exact h2
theorem Row.nd {n : Int} {f : PF} {e : Int} {r : List Int} (w : WF n f) (R : Row f e r) : r.Nodup := nodup_of_get (R.ne w.inj)
theorem Row.dom {n : Int} {f : PF} {e : Int} {r : List Int} (w : WF n f) (R : Row f e r) (h1 : 0 ≤ e) (h2 : e < n) : ∀ x ∈ r, 0 ≤ x ∧ x < n := by
  intro x hx
  obtain ⟨i, hi⟩ := List.mem_iff_getElem?.mp hx
  cases i with
  | zero => rw [R.h0] at hi; cases hi; exact ⟨h1, h2⟩
  | succ i =>
    have l1 : i + 1 < r.length := (List.getElem?_eq_some_iff.mp hi).1
    obtain ⟨b, hb⟩ : ∃ b, r[i]? = some b := ⟨_, List.getElem?_eq_getElem (by omega)⟩
    have := w.dom _ _ (R.st i b x hb hi).1
    omega
theorem len_range {l : List Int} {n : Int} (nd : l.Nodup) (h : ∀ x ∈ l, 0 ≤ x ∧ x < n) : l.length ≤ n.toNat := by
  have : l.length ≤ ((List.range n.toNat).map fun (i : Nat) => (i : Int)).length := List.Nodup.length_le_of_subset nd (by
    intro x hx
    have := h x hx
    exact List.mem_map.mpr ⟨x.toNat, List.mem_range.mpr (by omega), Int.toNat_of_nonneg this.1⟩)
  simpa using this
theorem Row.more {f : PF} {e : Int} {pre : List Int} {z y : Int} (R : Row f e (pre ++ [z])) (h : f z = some y) (ne : y ≠ e) : Row f e (pre ++ [z] ++ [y]) := by
  refine ⟨?_, fun i a b h1 h2 => ?_⟩
  · rw [List.getElem?_append_left (by simp)]
    exact R.h0
  · by_cases hi : i + 1 < (pre ++ [z]).length
    · rw [List.getElem?_append_left hi] at h2
      rw [List.getElem?_append_left (by omega)] at h1
      exact R.st i a b h1 h2
    · have l2 : i + 1 < (pre ++ [z] ++ [y]).length := (List.getElem?_eq_some_iff.mp h2).1
      have e1 : i = pre.length := by simp at hi l2; omega
      subst e1
      rw [List.getElem?_append_left (by simp)] at h1
      have z1 : (pre ++ [z])[pre.length]? = some z := by simp
      rw [z1] at h1
      cases h1
      have z2 : (pre ++ [z] ++ [y])[pre.length + 1]? = some y := by simp
      rw [z2] at h2
      cases h2
      exact ⟨h, ne⟩
/-- f along an open row -/
theorem Row.openAt {f : PF} {e : Int} {r : List Int} (R : Row f e r) {z : Int} (hz : r[r.length - 1]? = some z) (hl : 0 < r.length) (ho : f z = none) (i : Nat) (a : Int) (hi : r[i]? = some a) : ∀ j : Nat, iter f j a = r[i + j]?
  | 0 => by rw [Nat.add_zero, hi]; rfl
  | j + 1 => by
    show (iter f j a).bind f = _
    rw [Row.openAt R hz hl ho i a hi j]
    cases e1 : r[i + j]? with
    | none =>
      have h1 := List.getElem?_eq_none_iff.mp e1
      exact (List.getElem?_eq_none_iff.mpr (by omega)).symm
    | some b =>
      show f b = _
      have l1 : i + j < r.length := (List.getElem?_eq_some_iff.mp e1).1
      cases e2 : r[i + (j + 1)]? with
      | some c => exact (R.st (i + j) b c e1 e2).1
      | none =>
        have h2 := List.getElem?_eq_none_iff.mp e2
        have : i + j = r.length - 1 := by omega
        rw [this, hz] at e1
        cases e1
        exact ho
/-- f along a closed row -/
theorem Row.closedAt {f : PF} {e : Int} {r : List Int} (R : Row f e r) {z : Int} (hz : r[r.length - 1]? = some z) (hl : 0 < r.length) (hc : f z = some e) (i : Nat) (a : Int) (hi : r[i]? = some a) : ∀ j : Nat, iter f j a = r[(i + j) % r.length]?
  | 0 => by
    have l1 : i < r.length := (List.getElem?_eq_some_iff.mp hi).1
    rw [Nat.add_zero, Nat.mod_eq_of_lt l1, hi]; rfl
  | j + 1 => by
    show (iter f j a).bind f = _
    rw [Row.closedAt R hz hl hc i a hi j]
    have l1 : (i + j) % r.length < r.length := Nat.mod_lt _ hl
    obtain ⟨b, e1⟩ : ∃ b, r[(i + j) % r.length]? = some b := ⟨_, List.getElem?_eq_getElem l1⟩
    rw [e1]
    show f b = _
    by_cases h : (i + j) % r.length = r.length - 1
    · rw [h, hz] at e1
      cases e1
      rw [hc]
      have : (i + (j + 1)) % r.length = 0 := by
        rw [show i + (j + 1) = (i + j) + 1 by omega, Nat.add_mod, h]
        by_cases h1 : r.length = 1
        · rw [h1]
        · rw [Nat.mod_eq_of_lt (show 1 < r.length by omega), show r.length - 1 + 1 = r.length by omega, Nat.mod_self]
      rw [this, R.h0]
    · have : (i + (j + 1)) % r.length = (i + j) % r.length + 1 := by
        rw [show i + (j + 1) = (i + j) + 1 by omega, Nat.add_mod]
        rw [Nat.mod_eq_of_lt (show 1 < r.length by omega), Nat.mod_eq_of_lt (by omega)]
      rw [this]
      obtain ⟨c, e2⟩ : ∃ c, r[(i + j) % r.length + 1]? = some c := ⟨_, List.getElem?_eq_getElem (by omega)⟩
      rw [e2]
      exact (R.st _ b c e1 e2).1
theorem wf_iter {n : Int} {f : PF} (w : WF n f) : ∀ k : Nat, WF n (iter f (k + 1))
  | 0 => w
  | k + 1 => wf_mul (wf_iter w k) w
end PM
namespace PM
open U
/-! ### the rules of the operators -/
theorem pf_ext {f g : PF} (h : ∀ x y, f x = some y ↔ g x = some y) : f = g := by
  funext x
  cases e : f x with
  | some y => exact ((h x y).mp e).symm
  | none =>
    cases e2 : g x with
    | none => rfl
    | some y => rw [(h x y).mpr e2] at e; cases e
theorem mul_iff {f g : PF} {x z : Int} : mul f g x = some z ↔ ∃ y, f x = some y ∧ g y = some z := by
  unfold mul
  cases e : f x with
  | none => simp
  | some y => simp
theorem mul_assoc (f g h : PF) : mul (mul f g) h = mul f (mul g h) := by
  refine pf_ext fun x z => ?_
  rw [mul_iff, mul_iff]
  constructor
  · rintro ⟨y, h1, h2⟩
    obtain ⟨u, h3, h4⟩ := mul_iff.mp h1
    exact ⟨u, h3, mul_iff.mpr ⟨y, h4, h2⟩⟩
  · rintro ⟨y, h1, h2⟩
    obtain ⟨u, h3, h4⟩ := mul_iff.mp h2
    exact ⟨u, mul_iff.mpr ⟨y, h1, h3⟩, h4⟩
/-! ### parts -/
/-! ### powers -/
def pN (n : Int) (f : PF) (k : Nat) : PF := if k = 0 then idn n else iter f k
theorem pN_succ (n : Int) (f : PF) (k : Nat) : pN n f (k + 1) = iter f (k + 1) := rfl
end PM
namespace PM
open U
/-! ### rows told by their first element -/
def IsRow (f : PF) (e : Int) (r : List Int) : Prop := ∃ pre z, r = pre ++ [z] ∧ Row f e r ∧ (f z = none ∨ f z = some e)
theorem IsRow.get {f : PF} {e : Int} {r r' : List Int} (h : IsRow f e r) (h' : IsRow f e r') : ∀ (i : Nat) (a : Int), r[i]? = some a → r'[i]? = some a
  | 0, a, e1 => by
    obtain ⟨_, _, _, R, _⟩ := h
    obtain ⟨_, _, _, R', _⟩ := h'
    rw [R.h0] at e1
    rw [R'.h0]
    exact e1
  | i + 1, a, e1 => by
    have ih := IsRow.get h h' i
    obtain ⟨_, _, _, R, _⟩ := h
    obtain ⟨pre', z', q', R', st'⟩ := h'
    have l1 : i + 1 < r.length := (List.getElem?_eq_some_iff.mp e1).1
    obtain ⟨b, hb⟩ : ∃ b, r[i]? = some b := ⟨_, List.getElem?_eq_getElem (by omega)⟩
    obtain ⟨f1, ne⟩ := R.st i b a hb e1
    have hb' := ih b hb
    cases e2 : r'[i + 1]? with
    | some c =>
      have := (R'.st i b c hb' e2).1
      rw [f1] at this
      exact this.symm
    | none =>
      exfalso
      have l2 : i < r'.length := (List.getElem?_eq_some_iff.mp hb').1
      have l3 := List.getElem?_eq_none_iff.mp e2
      subst q'
      rw [List.length_append, List.length_singleton] at l2 l3
      have ei : i = pre'.length := by omega
      subst ei
      have : (pre' ++ [z'])[pre'.length]? = some z' := by simp
      rw [this] at hb'
      cases hb'
      rcases st' with q | q
      · rw [f1] at q; cases q
      · rw [f1] at q; exact ne (Option.some.inj q)
theorem IsRow.uniq {f : PF} {e : Int} {r r' : List Int} (h : IsRow f e r) (h' : IsRow f e r') : r = r' := by
  apply List.ext_getElem?
  intro i
  cases e1 : r[i]? with
  | some a => exact (h.get h' i a e1).symm
  | none =>
    cases e2 : r'[i]? with
    | none => rfl
    | some a => rw [h'.get h i a e2] at e1; cases e1
theorem ex_row {n : Int} {f : PF} {e : Int} (w : WF n f) (h1 : 0 ≤ e) (h2 : e < n) : ∃ r, IsRow f e r := by
  refine Classical.byContradiction fun no => ?_
  have key : ∀ k : Nat, ∃ pre z, pre.length = k ∧ Row f e (pre ++ [z]) := by
    intro k
    induction k with
    | zero => exact ⟨[], e, rfl, rfl, fun i a b h1 h2 => by simp at h2⟩
    | succ k ih =>
      obtain ⟨pre, z, hl, R⟩ := ih
      cases hz : f z with
      | none => exact absurd ⟨_, pre, z, rfl, R, .inl hz⟩ no
      | some y =>
        by_cases hy : y = e
        · subst hy; exact absurd ⟨_, pre, z, rfl, R, .inr hz⟩ no
        · exact ⟨pre ++ [z], y, by simp [hl], R.more hz hy⟩
  obtain ⟨pre, z, hl, R⟩ := key n.toNat
  have := len_range (R.nd w) (R.dom w h1 h2)
  rw [List.length_append, List.length_singleton] at this
  omega
open Classical in
noncomputable def rowN (f : PF) (e : Int) : List Int := if h : ∃ r, IsRow f e r then h.choose else []
theorem rowN_eq {f : PF} {e : Int} {r : List Int} (h : IsRow f e r) : rowN f e = r := by
  have hx : ∃ r, IsRow f e r := ⟨r, h⟩
  unfold rowN
  rw [dif_pos hx]
  exact hx.choose_spec.uniq h
theorem rowN_is {n : Int} {f : PF} {e : Int} (w : WF n f) (h1 : 0 ≤ e) (h2 : e < n) : IsRow f e (rowN f e) := by
  obtain ⟨r, h⟩ := ex_row w h1 h2
  rw [rowN_eq h]
  exact h
theorem IsRow.head {f : PF} {e : Int} {r : List Int} (h : IsRow f e r) : r[0]? = some e := by
  obtain ⟨_, _, _, R, _⟩ := h
  exact R.h0
theorem IsRow.mem {f : PF} {e : Int} {r : List Int} (h : IsRow f e r) : e ∈ r := List.mem_of_getElem? h.head
theorem IsRow.dom {n : Int} {f : PF} {e : Int} {r : List Int} (w : WF n f) (h : IsRow f e r) (h1 : 0 ≤ e) (h2 : e < n) : ∀ x ∈ r, 0 ≤ x ∧ x < n := by
  obtain ⟨_, _, _, R, _⟩ := h
  exact R.dom w h1 h2
theorem IsRow.nd {n : Int} {f : PF} {e : Int} {r : List Int} (w : WF n f) (h : IsRow f e r) : r.Nodup := by
  obtain ⟨_, _, _, R, _⟩ := h
  exact R.nd w
/-- what is no target -/
def nonT (n : Int) (f : PF) (e : Int) : Bool := (inv n f e).isNone
theorem nonT_iff {n : Int} {f : PF} (w : WF n f) {e : Int} : nonT n f e = true ↔ ∀ x, f x ≠ some e := by
  unfold nonT
  rw [Option.isNone_iff_eq_none]
  constructor
  · intro h x hx
    rw [(inv_iff w).mpr hx] at h
    cases h
  · intro h
    cases q : inv n f e with
    | none => rfl
    | some x => exact absurd ((inv_iff w).mp q) (h x)
/-! ### which rows are begun -/
noncomputable def seenL (f : PF) (s : List Int) : List Int := (s.map (rowN f)).flatten
theorem mem_seenL {f : PF} {s : List Int} {x : Int} : x ∈ seenL f s ↔ ∃ e ∈ s, x ∈ rowN f e := by
  unfold seenL
  rw [List.mem_flatten]
  constructor
  · rintro ⟨r, hr, hx⟩
    obtain ⟨e, he, rfl⟩ := List.mem_map.mp hr
    exact ⟨e, he, hx⟩
  · rintro ⟨e, he, hx⟩
    exact ⟨_, List.mem_map.mpr ⟨e, he, rfl⟩, hx⟩
noncomputable def stp (f : PF) (s : List Int) (x : Int) : List Int := if x ∈ seenL f s then s else s ++ [x]
noncomputable def selL (f : PF) (b l : List Int) : List Int := l.foldl (stp f) b
theorem selL_append (f : PF) (b l m : List Int) : selL f b (l ++ m) = selL f (selL f b l) m := by
  unfold selL
  rw [List.foldl_append]
theorem selL_one (f : PF) (b l : List Int) (x : Int) : selL f b (l ++ [x]) = stp f (selL f b l) x := by
  rw [selL_append]
  rfl
theorem selL_sub (f : PF) : ∀ (l b : List Int), ∃ c, selL f b l = b ++ c ∧ c.Sublist l ∧ ∀ x ∈ c, x ∉ seenL f b
  | [], b => ⟨[], by simp [selL], List.Sublist.slnil, fun x h => (nomatch h)⟩
  | x :: l, b => by
    by_cases h : x ∈ seenL f b
    · obtain ⟨c, h1, h2, h3⟩ := selL_sub f l b
      refine ⟨c, ?_, h2.cons x, h3⟩
      rw [← h1]
      show selL f (stp f b x) l = _
      unfold stp
      rw [if_pos h]
    · obtain ⟨c, h1, h2, h3⟩ := selL_sub f l (b ++ [x])
      refine ⟨x :: c, ?_, h2.cons_cons x, fun y hy => ?_⟩
      · rw [show b ++ x :: c = b ++ [x] ++ c by simp, ← h1]
        show selL f (stp f b x) l = _
        unfold stp
        rw [if_neg h]
      · rcases List.mem_cons.mp hy with rfl | hy
        · exact h
        · intro hs
          obtain ⟨e, he, hx⟩ := mem_seenL.mp hs
          exact h3 y hy (mem_seenL.mpr ⟨e, List.mem_append_left _ he, hx⟩)
def rgI (n : Nat) : List Int := (List.range n).map fun (i : Nat) => (i : Int)
theorem mem_rgI {n : Nat} {x : Int} : x ∈ rgI n ↔ 0 ≤ x ∧ x < (n : Int) := by
  unfold rgI
  rw [List.mem_map]
  constructor
  · rintro ⟨i, hi, rfl⟩
    rw [List.mem_range] at hi
    omega
  · rintro ⟨h1, h2⟩
    exact ⟨x.toNat, List.mem_range.mpr (by omega), by omega⟩
theorem rgI_succ (n : Nat) : rgI (n + 1) = rgI n ++ [(n : Int)] := by
  unfold rgI
  rw [List.range_succ, List.map_append]
  rfl
theorem rgI_lt (n : Nat) : (rgI n).Pairwise (· < ·) := by
  induction n with
  | zero => exact List.Pairwise.nil
  | succ n ih =>
    rw [rgI_succ, List.pairwise_append]
    refine ⟨ih, List.pairwise_singleton _ _, fun a ha b hb => ?_⟩
    have := mem_rgI.mp ha
    rw [List.mem_singleton] at hb
    omega
theorem nodup_of_lt {l : List Int} (h : l.Pairwise (· < ·)) : l.Nodup := List.Pairwise.imp (fun {a b} h => by omega) h
def nons (n : Int) (f : PF) : List Int := (rgI n.toNat).filter (nonT n f)
theorem nons_dom {n : Int} {f : PF} {e : Int} (h : e ∈ nons n f) : 0 ≤ e ∧ e < n ∧ nonT n f e = true := by
  obtain ⟨h1, h2⟩ := List.mem_filter.mp h
  have := mem_rgI.mp h1
  exact ⟨this.1, by omega, h2⟩
/-! ### closed rows -/
noncomputable def clo (f : PF) (e : Int) : Bool := match (rowN f e).getLast? with
  | some z => (f z).isSome
  | none => false
theorem clo_eq {f : PF} {e z : Int} {pre : List Int} (h : IsRow f e (pre ++ [z])) : clo f e = (f z).isSome := by
  unfold clo
  rw [rowN_eq h, List.getLast?_append]
  rfl
theorem clo_non {n : Int} {f : PF} {e : Int} (w : WF n f) (h1 : 0 ≤ e) (h2 : e < n) (h : nonT n f e = true) : clo f e = false := by
  obtain ⟨r, hr⟩ := ex_row w h1 h2
  obtain ⟨pre, z, q, R, st⟩ := id hr
  subst q
  rw [clo_eq hr]
  rcases st with st | st
  · rw [st]; rfl
  · exact absurd st ((nonT_iff w).mp h z)
theorem iter_inv {n : Int} {f : PF} (w : WF n f) : ∀ (k : Nat) (x y : Int), iter (inv n f) k x = some y → iter f k y = some x
  | 0, x, y, h => by
    have : x = y := Option.some.inj h
    subst this
    rfl
  | k + 1, x, y, h => by
    have h : (iter (inv n f) k x).bind (inv n f) = some y := h
    cases e : iter (inv n f) k x with
    | none => rw [e] at h; cases h
    | some z =>
      rw [e] at h
      have h1 := (inv_iff w).mp h
      rw [iter_head, h1]
      exact iter_inv w k x z e
theorem clo_of {n : Int} {f : PF} {e : Int} (w : WF n f) (h1 : 0 ≤ e) (h2 : e < n) (h : ∀ e', 0 ≤ e' → e' < n → nonT n f e' = true → e ∉ rowN f e') : clo f e = true := by
  obtain ⟨r, hr⟩ := ex_row w h1 h2
  obtain ⟨pre, z, q, R, st⟩ := id hr
  subst q
  rw [clo_eq hr]
  rcases st with st | st
  · exfalso
    have lz : (pre ++ [z])[(pre ++ [z]).length - 1]? = some z := by simp
    have op := R.openAt lz (by simp) st 0 e R.h0
    obtain ⟨r', hr'⟩ := ex_row (wf_inv w) h1 h2
    obtain ⟨pre', z', q', R', st'⟩ := id hr'
    subst q'
    have lz' : (pre' ++ [z'])[(pre' ++ [z']).length - 1]? = some z' := by simp
    rcases st' with st' | st'
    · have hz' : nonT n f z' = true := by unfold nonT; rw [st']; rfl
      have dz := hr'.dom (wf_inv w) h1 h2 z' (by simp)
      have op' := R'.openAt lz' (by simp) st' 0 e R'.h0 pre'.length
      have e1 : (pre' ++ [z'])[0 + pre'.length]? = some z' := by simp
      rw [e1] at op'
      have it := iter_inv w _ _ _ op'
      refine h z' dz.1 dz.2 hz' ?_
      obtain ⟨r0, hr0⟩ := ex_row w dz.1 dz.2
      rw [rowN_eq hr0]
      obtain ⟨p0, z0, q0, R0, st0⟩ := id hr0
      subst q0
      have l0 : (p0 ++ [z0])[(p0 ++ [z0]).length - 1]? = some z0 := by simp
      have o0 : f z0 = none := by
        rcases st0 with q | q
        · exact q
        · exact absurd q ((nonT_iff w).mp hz' z0)
      have := R0.openAt l0 (by simp) o0 0 z' R0.h0 pre'.length
      rw [it] at this
      exact List.mem_of_getElem? this.symm
    · have cl := R'.closedAt lz' (by simp) st' 0 e R'.h0 (pre' ++ [z']).length
      rw [Nat.zero_add, Nat.mod_self, R'.h0] at cl
      have it := iter_inv w _ _ _ cl
      rw [op (pre' ++ [z']).length] at it
      have l1 : (pre' ++ [z']).length = pre'.length + 1 := by simp
      rw [l1] at it
      exact R.ne w.inj 0 pre'.length e R.h0 (by rw [show 0 + pre'.length + 1 = 0 + (pre'.length + 1) by omega]; exact it)
  · rw [st]; rfl
/-! ### all parts -/
noncomputable def cycS (n : Int) (f : PF) : List Int := (selL f (nons n f) (rgI n.toNat)).drop (nons n f).length
theorem cycS_eq (n : Int) (f : PF) : selL f (nons n f) (rgI n.toNat) = nons n f ++ cycS n f := by
  obtain ⟨c, h, _, _⟩ := selL_sub f (rgI n.toNat) (nons n f)
  unfold cycS
  rw [h, List.drop_left]
theorem cycS_sub (n : Int) (f : PF) : (cycS n f).Sublist (rgI n.toNat) ∧ ∀ x ∈ cycS n f, x ∉ seenL f (nons n f) := by
  obtain ⟨c, h, h1, h2⟩ := selL_sub f (rgI n.toNat) (nons n f)
  rw [cycS_eq] at h
  have := List.append_cancel_left h
  rw [this]
  exact ⟨h1, h2⟩
theorem cycS_dom {n : Int} {f : PF} {e : Int} (h : e ∈ cycS n f) : 0 ≤ e ∧ e < n := by
  have := mem_rgI.mp ((cycS_sub n f).1.subset h)
  exact ⟨this.1, by omega⟩
theorem cycS_clo {n : Int} {f : PF} (w : WF n f) {e : Int} (h : e ∈ cycS n f) : clo f e = true := by
  have d := cycS_dom h
  refine clo_of w d.1 d.2 fun e' h1 h2 h3 hm => ?_
  refine (cycS_sub n f).2 e h (mem_seenL.mpr ⟨e', ?_, hm⟩)
  exact List.mem_filter.mpr ⟨mem_rgI.mpr ⟨h1, by omega⟩, h3⟩
theorem nons_lt (n : Int) (f : PF) : (nons n f).Pairwise (· < ·) := (rgI_lt _).sublist List.filter_sublist
theorem cycS_lt (n : Int) (f : PF) : (cycS n f).Pairwise (· < ·) := (rgI_lt _).sublist (cycS_sub n f).1
/-! ### ordered by the first elements -/
end PM
namespace PM
open U
/-! ### powers by the law's own way; great exponents -/
def pk (n : Int) (f : PF) : Nat → PF
  | 0 => idn n
  | k + 1 => iter f (k + 1)
end PM
namespace PM
open U
/-! ### where powers repeat -/
noncomputable def lens (f : PF) (s : List Int) : List Nat := s.map fun e => (rowN f e).length
theorem sel_cov {n : Int} {f : PF} (w : WF n f) : ∀ (l b : List Int) (x : Int), x ∈ l → 0 ≤ x → x < n → x ∈ seenL f (selL f b l)
  | [], b, x, h, _, _ => nomatch h
  | y :: l, b, x, h, h1, h2 => by
    show x ∈ seenL f (selL f (stp f b y) l)
    rcases List.mem_cons.mp h with rfl | h
    · have hx : x ∈ seenL f (stp f b x) := by
        unfold stp
        by_cases hs : x ∈ seenL f b
        · rw [if_pos hs]; exact hs
        · rw [if_neg hs]
          exact mem_seenL.mpr ⟨x, by simp, (rowN_is w h1 h2).mem⟩
      obtain ⟨c, hc, _, _⟩ := selL_sub f l (stp f b x)
      obtain ⟨e, he, hm⟩ := mem_seenL.mp hx
      rw [hc]
      exact mem_seenL.mpr ⟨e, List.mem_append_left _ he, hm⟩
    · exact sel_cov w l _ x h h1 h2
theorem cover {n : Int} {f : PF} (w : WF n f) {x : Int} (h1 : 0 ≤ x) (h2 : x < n) : ∃ e ∈ nons n f ++ cycS n f, x ∈ rowN f e := by
  have := sel_cov w (rgI n.toNat) (nons n f) x (mem_rgI.mpr ⟨h1, by omega⟩) h1 h2
  rw [cycS_eq] at this
  exact mem_seenL.mp this
theorem iter_out {n : Int} {f : PF} (w : WF n f) {x : Int} (hx : ¬ (0 ≤ x ∧ x < n)) {k : Nat} (hk : 1 ≤ k) : iter f k x = none := by
  rw [show k = k - 1 + 1 by omega, iter_head]
  cases e : f x with
  | none => rfl
  | some y => exact absurd ⟨(w.dom x y e).1, (w.dom x y e).2.1⟩ hx
/-- f along a chain -/
theorem chain_at {n : Int} {f : PF} (w : WF n f) {e : Int} (he : e ∈ nons n f) {i : Nat} {a : Int} (hi : (rowN f e)[i]? = some a) (j : Nat) : iter f j a = (rowN f e)[i + j]? := by
  obtain ⟨h1, h2, h3⟩ := nons_dom he
  obtain ⟨pre, z, q, R, st⟩ := rowN_is w h1 h2
  have hr := rowN_is w h1 h2
  have hc := clo_non w h1 h2 h3
  rw [q] at hr
  rw [clo_eq hr] at hc
  rw [q] at R hi ⊢
  refine R.openAt (z := z) (by simp) (by simp) ?_ i a hi j
  cases e : f z with
  | none => rfl
  | some y => rw [e] at hc; cases hc
/-- f along a cycle -/
theorem cycle_at {n : Int} {f : PF} (w : WF n f) {e : Int} (he : e ∈ cycS n f) {i : Nat} {a : Int} (hi : (rowN f e)[i]? = some a) (j : Nat) : iter f j a = (rowN f e)[(i + j) % (rowN f e).length]? := by
  obtain ⟨h1, h2⟩ := cycS_dom he
  obtain ⟨pre, z, q, R, st⟩ := rowN_is w h1 h2
  have hr := rowN_is w h1 h2
  have hc := cycS_clo w he
  rw [q] at hr
  rw [clo_eq hr] at hc
  rw [q] at R hi ⊢
  refine R.closedAt (z := z) (by simp) (by simp) ?_ i a hi j
  rcases st with st | st
  · rw [st] at hc; cases hc
  · exact st
theorem row_pos {n : Int} {f : PF} (w : WF n f) {e : Int} (h1 : 0 ≤ e) (h2 : e < n) : 0 < (rowN f e).length := by
  obtain ⟨pre, z, q, _, _⟩ := rowN_is w h1 h2
  rw [q]
  simp
theorem row_head {n : Int} {f : PF} (w : WF n f) {e : Int} (h1 : 0 ≤ e) (h2 : e < n) : (rowN f e)[0]? = some e := (rowN_is w h1 h2).head
theorem row_inj {n : Int} {f : PF} (w : WF n f) {e : Int} (h1 : 0 ≤ e) (h2 : e < n) {i j : Nat} (hi : i < (rowN f e).length) (h : (rowN f e)[i]? = (rowN f e)[j]?) : i = j := by
  have nd := (rowN_is w h1 h2).nd w
  rw [List.getElem?_eq_getElem hi] at h
  have hj := (List.getElem?_eq_some_iff.mp h.symm).1
  rw [List.getElem?_eq_getElem hj] at h
  have h := Option.some.inj h
  have pw := List.pairwise_iff_getElem.mp nd
  rcases Nat.lt_trichotomy i j with hl | hl | hl
  · exact absurd h (pw i j hi hj hl)
  · exact hl
  · exact absurd h.symm (pw j i hj hi hl)
theorem row_le {n : Int} {f : PF} (w : WF n f) {e : Int} (h1 : 0 ≤ e) (h2 : e < n) : (rowN f e).length ≤ n.toNat := len_range ((rowN_is w h1 h2).nd w) ((rowN_is w h1 h2).dom w h1 h2)
end PM
set_option maxHeartbeats 600000
namespace U
open PySem PySem.Spec PyProof.Rows L2
/-! ### dicts whose keys are None and truth values -/
def oVal : Option Bool → Value
  | none => .none
  | some b => .bool b
def isO : Option Bool → Value → Bool
  | none, .none => true
  | some k, .bool b => b == k
  | _, _ => false
theorem isO_shape {k : Option Bool} {v : Value} (h : isO k v = true) : v = oVal k := by
  cases k <;> cases v <;> first
    | rfl
    | exact congrArg Value.bool (eq_of_beq h)
    | exact absurd h Bool.false_ne_true
def hO : Option Bool → Int
  | none => reduceHash 0xFCA86420
  | some b => PpSet.hB b
theorem pyHash_non {prog : Program} {w : World} {A : Around} {E : Value → Shared → Prop} {s : Shared} {Q : Int → Shared → Prop} (h : Q (hO none) { s with toks := s.toks + 1 }) :
    wpAny (model prog w) A (pyHash .none) Q E s :=
  W.pyHash_slot (T := "NoneType") rfl F.slot_NoneType_hash F.entry_NoneType_hash (F.args_NoneType_hash_1 _) (beq_builtin_none _) (.inl rfl) (wpAny_bind (wpAny_pure (wpAny_bind (wpAny_mkInt (wpAny_pure ⟨_, _, rfl, h⟩)))))
theorem oeq (a b : Option Bool) {A : Around} {s : Shared} : SeqAt.EqAt A s (oVal a) (oVal b) (decide (a = b)) := by
  cases a with
  | none =>
    cases b with
    | none => exact SeqAt.EqAt.same _
    | some b => exact SeqAt.EqAt.none_bool b
  | some a =>
    cases b with
    | none => exact SeqAt.EqAt.bool_none a
    | some b =>
      have := SeqAt.EqAt.bool_bool (A := A) (s := s) a b
      rw [show decide (some a = some b) = (a == b) by cases a <;> cases b <;> rfl]
      exact this
def oddK (prog : Program) (w : World) : PySem.KeyKind prog w (Option Bool) where
  is := isO
  hash := hO
  inj := fun v a b ha hb => by
    have e1 := isO_shape ha
    have e2 := isO_shape hb
    rw [e1] at e2
    cases a with
    | none =>
      cases b with
      | none => rfl
      | some b => exact nomatch e2
    | some a =>
      cases b with
      | none => exact nomatch e2
      | some b => rw [Value.bool.inj e2]
  byValue := fun k v h => by rw [isO_shape h]; cases k <;> rfl
  pyHash := fun {A E s k v Q} hv h => by
    rw [isO_shape hv]
    cases k with
    | none => exact pyHash_non h
    | some b => exact PpSet.pyHash_bool h
  eqBool := fun {A E s a b u v Q} hu hv h => by
    rw [isO_shape hu, isO_shape hv]
    exact oeq a b _ _ _ _ h
  «strs» := fun k x t v h => by cases k <;> exact absurd h Bool.false_ne_true
def OddO (P : Program) (w : World) (a : Addr) (ep : Nat) (kvs : List (Option Bool × V)) : HO := .ext fun h => (a == sysModules) = false ∧ ∃ vs, KV kvs vs ∧ h.DictAt (oddK P w) a vs ep
def OddD (P : Program) (w : World) (H : Hp) (a : Addr) (kvs : List (Option Bool × V)) : Prop := ∃ ep, H a = some (OddO P w a ep kvs)
section
variable {P : Program} {w : World} {H H' : Hp} {h : Heap} {a : Addr} {ep : Nat} {kvs : List (Option Bool × V)}
theorem OddD.same (x : OddD P w H a kvs) (s : Same H H') : OddD P w H' a kvs := by
  obtain ⟨ep, e⟩ := x
  exact ⟨ep, s _ _ e⟩
end
/-! ### for k, v in d.items() -/
end U
set_option maxHeartbeats 1000000
namespace U
open PySem PySem.Spec PyProof.Rows L2
/-! ### dicts whose keys may be anything: None, truth values, tuples; built once, then read -/
def EnR (kv : V × V) (e : DictEntry) : Prop := RelV kv.1 e.key ∧ RelV kv.2 e.val
def RwO (a : Addr) (ep : Nat) (kvs : List (V × V)) : HO := .ext fun h => (a == sysModules) = false ∧ kvs.length ≤ sizeLine ∧ ∃ es, h.DictRaw a es ep ∧ Paired EnR kvs es.toList
def RwD (H : Hp) (a : Addr) (kvs : List (V × V)) : Prop := ∃ ep, H a = some (RwO a ep kvs)
section
variable {P : Program} {w : World} {H H' : Hp} {h : Heap} {a : Addr} {ep : Nat} {kvs : List (V × V)} {es : Array DictEntry}
theorem RwD.same (x : RwD H a kvs) (s : Same H H') : RwD H' a kvs := by
  obtain ⟨ep, e⟩ := x
  exact ⟨ep, s _ _ e⟩
end
/-! ### for v in d.values() -/
/-! ### for k, v in d.items() -/
end U
set_option maxHeartbeats 1000000
namespace U
open PySem PySem.Spec PyProof.Rows L2
/-! ### dict([(k, v)]), k None, a truth value, or a tuple of one int -/
/-! ### bool(o) by the own __bool__ -/
/-! ### len(set(xs)), a list of ints -/
end U
set_option maxHeartbeats 1000000
/-! x in d.values(); classes made with keyword-only parameters -/
namespace PySem
end PySem
namespace U
open PySem PySem.Spec PyProof.Rows L2
end U
namespace U
open PySem PySem.Spec PyProof.Rows L2
/-! ### d.update(e), two dicts -/
def rDUpd : V → List V → Hp → VK → Prop := fun x vs H Q => ∃ (a b : Addr) (ks ls : List (Key × V)), x = .ref a ∧ vs = [.ref b] ∧ a ≠ b ∧ H a = some (.dK ks) ∧ H b = some (.dK ls) ∧ ks.length + ls.length ≤ sizeLine ∧ Q .non (upd H a (.dK (mergeK ks ls)))
theorem mtd_update {X : Cx} : MtR X "dict.update" rDUpd := by
  intro pins s σ H x vs v us Q I rx rv h
  obtain ⟨a, b, ks, ls, rfl, rfl, hne, ea, eb, hz, q⟩ := h
  cases rx
  obtain ⟨u, rfl, ru⟩ := rv.one
  cases ru
  obtain ⟨z1, ya, va, ra, da⟩ := dk_of I.hok ea
  obtain ⟨z2, yb, vb, rb, db⟩ := dk_of I.hok eb
  refine call_meetsIn PySem.F.slot_dict_update da.typeIs PySem.F.entry_dict_update (PySem.F.args_dict_update_2 _ _) (meets_dict_update (mixKind X.prog X.w) a b hne yb) ⟨va, vb, da, db, by rw [← ra.length, ← rb.length]; exact hz, fun h' d1 d2 hs => ?_⟩
  have he : ∃ q, h'.get? a = some q := let ⟨q, _, _, hq, _⟩ := d1; ⟨q, hq⟩
  exact ⟨.non, _, d_write (t' := s.toks) I (by rw [ea]; exact True.intro) hs he (dk_new (Nat.le_trans (length_mergeK ls ks) hz) ya (rb.merge ra) d1), rfl, q⟩
theorem pe_dupdate {X : Cx} {o e : Expr} {es : List Expr} {to : TE} {t : TA} {apos cpos : Pos} (ho : PE X o to) (ha : PA X (e :: es) t) (hbase : attributeBase o "update" X.env (eval o X.env) = eval o X.env := by rfl)
    (hfew : ((backTo cpos (starEach (e :: es) X.env)).all (fun x => !x.1) && (backToKw cpos (keywordEach [] X.env)).all (fun x => x.1.isSome)
      && decide ((e :: es).length + ([] : List Keyword).length + (if ([] : List Keyword).isEmpty then 0 else 1) < 30)) = true := by rfl)
    (hline : (apos.endLine == cpos.line) = true := by rfl) (hs : starEach (e :: es) X.env = (false, eval e X.env) :: starEach es X.env := by rfl) (hplain : (backTo cpos (starEach es X.env)).any (·.1) = false := by rfl) :
    PE X (.Call (.Attribute o "update" apos) (e :: es) [] cpos) (tBM X.K "dict" rDUpd to t) :=
  pe_bm PySem.F.plainAttrs_dict PySem.F.slot_dict_update PySem.F.type_dict_update mtd_update ho ha hbase hfew hline hs hplain
/-! ### sorted(xs, key=len), xs a list of lists -/
def byLen (zs : List (Addr × Nat)) : List (Addr × Nat) := zs.mergeSort fun a b => decide ((a.2 : Int) ≤ (b.2 : Int))
def tSortLen (K : PySem.W.Frag) (te : TE) : TE := fun σ H Q => te σ H fun x H1 => ∃ (a : Addr) (zs : List (Addr × Nat)), x = .ref a ∧ SqL K H1 a (zs.map fun z => V.ref z.1) ∧ (∀ z ∈ zs, ∃ xs, SqL K H1 z.1 xs ∧ xs.length = z.2) ∧ zs.length ≤ sizeLine ∧
  ∀ p, H1 p = none → Q (.ref p) (upd H1 p (.lst ((byLen zs).map fun z => V.ref z.1)))
theorem each_refs : ∀ {zs : List (Addr × Nat)} {vs : List Value}, Vals (zs.map fun z => V.ref z.1) vs → PySem.W.EachIs (fun v (z : Addr × Nat) => v = Value.ref z.1) vs zs
  | [], _, .nil => .nil
  | z :: zs, _, .cons r rr => .cons r (each_refs rr)
theorem refs_each : ∀ {vs : List Value} {zs : List (Addr × Nat)}, PySem.W.EachIs (fun v (z : Addr × Nat) => v = Value.ref z.1) vs zs → Vals (zs.map fun z => V.ref z.1) vs
  | _, [], .nil => .nil
  | _, z :: zs, .cons r rr => .cons r (refs_each rr)
theorem pe_sortLen {X : Cx} {K : PySem.W.Frag} {e : Expr} {te : TE} {p p2 kp pos : Pos} (hK : X.K = K) (hu : X.A.units + 64 < cLine) (he : PE X e te) (hg : Gl X "sorted") (hm : X.mg "sorted" = none) (hgl : Gl X "len") (hml : X.mg "len" = none)
    (h1 : backTo pos (starEach [e] X.env) = (false, eval e X.env) :: backTo pos (starEach [] X.env) := by rfl)
    (hplain : (backTo pos (starEach [e] X.env)).any (·.1) = false := by rfl) : PE X (.Call (.Name "sorted" p) [e] [⟨some "key", .Name "len" p2, kp⟩] pos) (tSortLen K te) := by
  subst hK
  refine ⟨fun pins s σ H Q I hq => wpAny_Call_Name_kw (ld_blt I hg hm PyProof.Rows.boot_sorted ?_)⟩
  refine PyProof.Rows.callWith_kw ?_ h1 hplain
  rw [h1]
  refine Calls.spliced_cons (thn (he.run pins s σ H _ I hq) fun v s1 ⟨x, H1, I1, r, a, zs, ex, hl, hz, hn, q⟩ => ?_)
  subst ex
  cases r
  refine Calls.spliced_nil ?_
  refine PyProof.Rows.kws_cons (ld_blt I1 hgl hml PySem.boot_len (PyProof.Rows.kws_nil ?_))
  obtain ⟨its, rv, pl, hzl⟩ := I1.list hl
  show wpAny _ _ (call (.builtin "sorted") [.ref a] [(Str.ofString "key", .builtin "len")]) _ _ s1
  refine PySem.W.sorted_key_data (β := Addr × Nat) (R := fun v z => v = Value.ref z.1) (b := false) (vs := its) (fun z => .int (z.2 : Int)) pl.isList (each_refs rv) ?_ ?_ hn (fun z hz => ?_) (ksk_s1 _ _) (fun x => ksk_l1 _ _) (fun x => ksk_t4 _ _) ?_ ?_
  · exact PySem.W.AllAlike.of fun b b' => rfl
  · exact PySem.W.Sortable.others fun b => ⟨fun z => (by cases z), fun xs z => (by cases z)⟩
  · show X.A.units + 2 + 0 < cLine
    omega
  · intro v x hR hx h tk kp
    subst hR
    obtain ⟨xs, hq, hlen⟩ := hz x hx
    obtain ⟨its', rv', pl', hz'⟩ := I1.list hq
    obtain ⟨o, ho, hc, n, hd⟩ := pl'.isList
    have hs : its'.toArray.size = x.2 := by rw [List.size_toArray, ← rv'.length, hlen]
    refine PySem.Calls.call_len_list (s := { s1 with heap := h, toks := tk }) ⟨o, kp _ _ ho, hc, n, hd⟩ ?_ ?_
    · have e1 := sizeLine_eq
      have e2 : its'.length ≤ sizeLine := by rw [← rv'.length]; exact hz'
      rw [List.size_toArray]
      omega
    · rw [hs]
      exact ⟨h, _, rfl, fun _ _ e => e, .int _ _⟩
  · intro out c h' tk kp hnone hout hlen ez
    rw [PySem.W.dataLe_int] at ez
    have hv := refs_each ez
    exact ⟨.ref _, upd H1 (s1.heap.objs.size + 1) (.lst ((byLen zs).map fun z => V.ref z.1)), I1.laid (t' := tk) kp (Nat.le_succ _) ⟨by rw [List.length_map]; unfold byLen; rw [List.length_mergeSort]; exact hn, out, c, hv, hout⟩, rfl, q _ (I1.hok.fresh (Nat.le_succ _))⟩
end U
namespace My
open PySem L2
def top (i : Nat) : Stmt := PySem.Challenge.pw_chainmaps_k22_roots_of_powers.main.body.getD i (.Pass ⟨0, 0, 0, 0⟩)
abbrev s_is_integer : Stmt := top 11
abbrev n_is_integer : List Str := ["value"]
theorem sc_is_integer : FnScope n_is_integer ["value"] (defScope s_is_integer) := ⟨rfl, rfl, rfl, by decide +kernel, rfl, by decide +kernel, by decide +kernel⟩
abbrev s_in_range : Stmt := top 12
abbrev n_in_range : List Str := ["value", "least", "most"]
theorem sc_in_range : FnScope n_in_range ["value", "least", "most"] (defScope s_in_range) := ⟨rfl, rfl, rfl, by decide +kernel, rfl, by decide +kernel, by decide +kernel⟩
abbrev s_check_size : Stmt := top 13
abbrev n_check_size : List Str := ["size"]
theorem sc_check_size : FnScope n_check_size ["size"] (defScope s_check_size) := ⟨rfl, rfl, rfl, by decide +kernel, rfl, by decide +kernel, by decide +kernel⟩
abbrev s_check_elements : Stmt := top 14
abbrev n_check_elements : List Str := ["size", "points", "seen", "element"]
theorem sc_check_elements : FnScope n_check_elements ["size", "points"] (defScope s_check_elements) := ⟨rfl, rfl, rfl, by decide +kernel, rfl, by decide +kernel, by decide +kernel⟩
abbrev s_are_arrows : Stmt := top 15
abbrev n_are_arrows : List Str := ["size", "arrows", "targets", "source", "target"]
theorem sc_are_arrows : FnScope n_are_arrows ["size", "arrows"] (defScope s_are_arrows) := ⟨rfl, rfl, rfl, by decide +kernel, rfl, by decide +kernel, by decide +kernel⟩
abbrev s_common_size : Stmt := top 16
abbrev n_common_size : List Str := ["one", "other"]
theorem sc_common_size : FnScope n_common_size ["one", "other"] (defScope s_common_size) := ⟨rfl, rfl, rfl, by decide +kernel, rfl, by decide +kernel, by decide +kernel⟩
abbrev s_row_from : Stmt := top 17
abbrev n_row_from : List Str := ["arrows", "element", "row"]
theorem sc_row_from : FnScope n_row_from ["arrows", "element"] (defScope s_row_from) := ⟨rfl, rfl, rfl, by decide +kernel, rfl, by decide +kernel, by decide +kernel⟩
abbrev s_moved : Stmt := top 18
abbrev n_moved : List Str := ["arrows", "steps", "found", "seen", "targets", "source", "row", "closed", "place", "element", "target"]
theorem sc_moved : FnScope n_moved ["arrows", "steps"] (defScope s_moved) := ⟨rfl, rfl, rfl, by decide +kernel, rfl, by decide +kernel, by decide +kernel⟩
abbrev s_check_map : Stmt := top 22
abbrev n_check_map : List Str := ["value"]
theorem sc_check_map : FnScope n_check_map ["value"] (defScope s_check_map) := ⟨rfl, rfl, rfl, by decide +kernel, rfl, by decide +kernel, by decide +kernel⟩
abbrev s_greatest_divisor : Stmt := top 24
abbrev n_greatest_divisor : List Str := ["one", "other"]
theorem sc_greatest_divisor : FnScope n_greatest_divisor ["one", "other"] (defScope s_greatest_divisor) := ⟨rfl, rfl, rfl, by decide +kernel, rfl, by decide +kernel, by decide +kernel⟩
abbrev s_parts_of : Stmt := top 25
abbrev n_parts_of : List Str := ["given", "arrows", "targets", "cycles", "chains", "seen", "element", "target", "one"]
theorem sc_parts_of : FnScope n_parts_of ["given"] (defScope s_parts_of) := ⟨rfl, rfl, rfl, by decide +kernel, rfl, by decide +kernel, by decide +kernel⟩
abbrev s_are_counts : Stmt := top 26
abbrev n_are_counts : List Str := ["value", "one", "number"]
theorem sc_are_counts : FnScope n_are_counts ["value"] (defScope s_are_counts) := ⟨rfl, rfl, rfl, by decide +kernel, rfl, by decide +kernel, by decide +kernel⟩
abbrev s_ordered : Stmt := top 27
abbrev n_ordered : List Str := ["counts", "length"]
theorem sc_ordered : FnScope n_ordered ["counts"] (defScope s_ordered) := ⟨rfl, rfl, rfl, by decide +kernel, rfl, by decide +kernel, by decide +kernel⟩
abbrev s_counts_of : Stmt := top 32
abbrev n_counts_of : List Str := ["parts", "found", "part"]
theorem sc_counts_of : FnScope n_counts_of ["parts"] (defScope s_counts_of) := ⟨rfl, rfl, rfl, by decide +kernel, rfl, by decide +kernel, by decide +kernel⟩
abbrev s_shape_of : Stmt := top 33
abbrev n_shape_of : List Str := ["given", "cycles", "chains"]
theorem sc_shape_of : FnScope n_shape_of ["given"] (defScope s_shape_of) := ⟨rfl, rfl, rfl, by decide +kernel, rfl, by decide +kernel, by decide +kernel⟩
abbrev s_check_shape : Stmt := top 34
abbrev n_check_shape : List Str := ["value"]
theorem sc_check_shape : FnScope n_check_shape ["value"] (defScope s_check_shape) := ⟨rfl, rfl, rfl, by decide +kernel, rfl, by decide +kernel, by decide +kernel⟩
abbrev s_check_degree : Stmt := top 38
abbrev n_check_degree : List Str := ["degree"]
theorem sc_check_degree : FnScope n_check_degree ["degree"] (defScope s_check_degree) := ⟨rfl, rfl, rfl, by decide +kernel, rfl, by decide +kernel, by decide +kernel⟩
abbrev s_group_size : Stmt := top 39
abbrev n_group_size : List Str := ["length", "degree", "rest", "common"]
theorem sc_group_size : FnScope n_group_size ["length", "degree"] (defScope s_group_size) := ⟨rfl, rfl, rfl, by decide +kernel, rfl, by decide +kernel, by decide +kernel⟩
abbrev s_failing_chains : Stmt := top 40
abbrev n_failing_chains : List Str := ["chains", "degree", "used", "length", "left"]
theorem sc_failing_chains : FnScope n_failing_chains ["chains", "degree"] (defScope s_failing_chains) := ⟨rfl, rfl, rfl, by decide +kernel, rfl, by decide +kernel, by decide +kernel⟩
abbrev s_obstacle_of : Stmt := top 41
abbrev n_obstacle_of : List Str := ["shape", "degree", "length", "number", "failed"]
theorem sc_obstacle_of : FnScope n_obstacle_of ["shape", "degree"] (defScope s_obstacle_of) := ⟨rfl, rfl, rfl, by decide +kernel, rfl, by decide +kernel, by decide +kernel⟩
abbrev s_has_root : Stmt := top 42
abbrev n_has_root : List Str := ["shape", "degree"]
theorem sc_has_root : FnScope n_has_root ["shape", "degree"] (defScope s_has_root) := ⟨rfl, rfl, rfl, by decide +kernel, rfl, by decide +kernel, by decide +kernel⟩
abbrev s_obstacle : Stmt := top 43
abbrev n_obstacle : List Str := ["given", "degree"]
theorem sc_obstacle : FnScope n_obstacle ["given", "degree"] (defScope s_obstacle) := ⟨rfl, rfl, rfl, by decide +kernel, rfl, by decide +kernel, by decide +kernel⟩
abbrev s_is_obstacle : Stmt := top 44
abbrev n_is_obstacle : List Str := ["given", "degree", "value", "shape"]
theorem sc_is_obstacle : FnScope n_is_obstacle ["given", "degree", "value"] (defScope s_is_obstacle) := ⟨rfl, rfl, rfl, by decide +kernel, rfl, by decide +kernel, by decide +kernel⟩
abbrev s_by_length : Stmt := top 35
abbrev n_by_length : List Str := ["parts"]
theorem sc_by_length : FnScope n_by_length ["parts"] (defScope s_by_length) := ⟨rfl, rfl, rfl, by decide +kernel, rfl, by decide +kernel, by decide +kernel⟩
abbrev s_cycle_root : Stmt := top 45
abbrev n_cycle_root : List Str := ["group", "degree", "length", "places", "start", "cycle", "turn", "element"]
theorem sc_cycle_root : FnScope n_cycle_root ["group", "degree"] (defScope s_cycle_root) := ⟨rfl, rfl, rfl, by decide +kernel, rfl, by decide +kernel, by decide +kernel⟩
abbrev s_chain_root : Stmt := top 46
abbrev n_chain_root : List Str := ["group", "places", "turn", "chain"]
theorem sc_chain_root : FnScope n_chain_root ["group"] (defScope s_chain_root) := ⟨rfl, rfl, rfl, by decide +kernel, rfl, by decide +kernel, by decide +kernel⟩
abbrev s_chain_groups : Stmt := top 47
abbrev n_chain_groups : List Str := ["chains", "degree", "left", "groups", "longest"]
theorem sc_chain_groups : FnScope n_chain_groups ["chains", "degree"] (defScope s_chain_groups) := ⟨rfl, rfl, rfl, by decide +kernel, rfl, by decide +kernel, by decide +kernel⟩
abbrev s_root : Stmt := top 48
abbrev n_root : List Str := ["given", "degree", "cycles", "chains", "arrows", "left", "group"]
theorem sc_root : FnScope n_root ["given", "degree"] (defScope s_root) := ⟨rfl, rfl, rfl, by decide +kernel, rfl, by decide +kernel, by decide +kernel⟩
abbrev s_is_root : Stmt := top 49
abbrev n_is_root : List Str := ["given", "degree", "value"]
theorem sc_is_root : FnScope n_is_root ["given", "degree", "value"] (defScope s_is_root) := ⟨rfl, rfl, rfl, by decide +kernel, rfl, by decide +kernel, by decide +kernel⟩
abbrev s_Map__eq : Stmt := inClass (top 19) 25
abbrev n_Map__eq : List Str := ["self", "other"]
theorem sc_Map__eq : FnScope n_Map__eq ["self", "other"] (defScope s_Map__eq) := ⟨rfl, rfl, rfl, by decide +kernel, rfl, by decide +kernel, by decide +kernel⟩
abbrev s_Map__init : Stmt := inClass (top 19) 0
abbrev n_Map__init : List Str := ["self", "size", "arrows", "source"]
theorem sc_Map__init : FnScope n_Map__init ["self", "size", "arrows"] (defScope s_Map__init) := ⟨rfl, rfl, rfl, by decide +kernel, rfl, by decide +kernel, by decide +kernel⟩
abbrev s_Map_identity : Stmt := inClass (top 19) 1
abbrev n_Map_identity : List Str := ["cls", "size", "element"]
theorem sc_Map_identity : FnScope n_Map_identity ["cls", "size"] (defScope s_Map_identity) := ⟨rfl, rfl, rfl, by decide +kernel, rfl, by decide +kernel, by decide +kernel⟩
abbrev s_Map_empty : Stmt := inClass (top 19) 2
abbrev n_Map_empty : List Str := ["cls", "size"]
theorem sc_Map_empty : FnScope n_Map_empty ["cls", "size"] (defScope s_Map_empty) := ⟨rfl, rfl, rfl, by decide +kernel, rfl, by decide +kernel, by decide +kernel⟩
abbrev s_Map_swap : Stmt := inClass (top 19) 5
abbrev n_Map_swap : List Str := ["cls", "size", "one", "other", "arrows", "element"]
theorem sc_Map_swap : FnScope n_Map_swap ["cls", "size", "one", "other"] (defScope s_Map_swap) := ⟨rfl, rfl, rfl, by decide +kernel, rfl, by decide +kernel, by decide +kernel⟩
abbrev s_Map_size : Stmt := inClass (top 19) 6
abbrev n_Map_size : List Str := ["self"]
theorem sc_Map_size : FnScope n_Map_size ["self"] (defScope s_Map_size) := ⟨rfl, rfl, rfl, by decide +kernel, rfl, by decide +kernel, by decide +kernel⟩
abbrev s_Map_arrows : Stmt := inClass (top 19) 7
abbrev n_Map_arrows : List Str := ["self"]
theorem sc_Map_arrows : FnScope n_Map_arrows ["self"] (defScope s_Map_arrows) := ⟨rfl, rfl, rfl, by decide +kernel, rfl, by decide +kernel, by decide +kernel⟩
abbrev s_Map__mul : Stmt := inClass (top 19) 8
abbrev n_Map__mul : List Str := ["self", "other", "size", "later", "source", "target"]
theorem sc_Map__mul : FnScope n_Map__mul ["self", "other"] (defScope s_Map__mul) := ⟨rfl, rfl, rfl, by decide +kernel, rfl, by decide +kernel, by decide +kernel⟩
abbrev s_Map__invert : Stmt := inClass (top 19) 9
abbrev n_Map__invert : List Str := ["self", "source", "target"]
theorem sc_Map__invert : FnScope n_Map__invert ["self"] (defScope s_Map__invert) := ⟨rfl, rfl, rfl, by decide +kernel, rfl, by decide +kernel, by decide +kernel⟩
abbrev s_Map__repr : Stmt := inClass (top 19) 26
abbrev n_Map__repr : List Str := ["self"]
theorem sc_Map__repr : FnScope n_Map__repr ["self"] (defScope s_Map__repr) := ⟨rfl, rfl, rfl, by decide +kernel, rfl, by decide +kernel, by decide +kernel⟩
abbrev s_Map_power : Stmt := inClass (top 19) 10
abbrev n_Map_power : List Str := ["self", "exponent", "arrows", "source", "target"]
theorem sc_Map_power : FnScope n_Map_power ["self", "exponent"] (defScope s_Map_power) := ⟨rfl, rfl, rfl, by decide +kernel, rfl, by decide +kernel, by decide +kernel⟩
abbrev s_Shape__init : Stmt := inClass (top 31) 0
abbrev n_Shape__init : List Str := ["self", "cycles", "chains"]
theorem sc_Shape__init : FnScope n_Shape__init ["self", "cycles", "chains"] (defScope s_Shape__init) := ⟨rfl, rfl, rfl, by decide +kernel, rfl, by decide +kernel, by decide +kernel⟩
abbrev s_Shape_cycles : Stmt := inClass (top 31) 1
abbrev n_Shape_cycles : List Str := ["self"]
theorem sc_Shape_cycles : FnScope n_Shape_cycles ["self"] (defScope s_Shape_cycles) := ⟨rfl, rfl, rfl, by decide +kernel, rfl, by decide +kernel, by decide +kernel⟩
abbrev s_Shape_chains : Stmt := inClass (top 31) 2
abbrev n_Shape_chains : List Str := ["self"]
theorem sc_Shape_chains : FnScope n_Shape_chains ["self"] (defScope s_Shape_chains) := ⟨rfl, rfl, rfl, by decide +kernel, rfl, by decide +kernel, by decide +kernel⟩
abbrev s_InvalidMap__init : Stmt := inClass (top 1) 0
abbrev n_InvalidMap__init : List Str := ["self", "part"]
theorem sc_InvalidMap__init : FnScope n_InvalidMap__init ["self", "part"] (defScope s_InvalidMap__init) := ⟨rfl, rfl, rfl, by decide +kernel, rfl, by decide +kernel, by decide +kernel⟩
abbrev s_InvalidNumber__init : Stmt := inClass (top 5) 0
abbrev s_InvalidSize__init : Stmt := inClass (top 2) 0
abbrev n_InvalidSize__init : List Str := ["self", "value"]
theorem sc_InvalidSize__init : FnScope n_InvalidSize__init ["self", "value"] (defScope s_InvalidSize__init) := ⟨rfl, rfl, rfl, by decide +kernel, rfl, by decide +kernel, by decide +kernel⟩
abbrev s_InvalidElement__init : Stmt := inClass (top 3) 0
abbrev n_InvalidElement__init : List Str := ["self", "value"]
theorem sc_InvalidElement__init : FnScope n_InvalidElement__init ["self", "value"] (defScope s_InvalidElement__init) := ⟨rfl, rfl, rfl, by decide +kernel, rfl, by decide +kernel, by decide +kernel⟩
abbrev s_InvalidShape__init : Stmt := inClass (top 4) 0
abbrev n_InvalidShape__init : List Str := ["self", "part"]
theorem sc_InvalidShape__init : FnScope n_InvalidShape__init ["self", "part"] (defScope s_InvalidShape__init) := ⟨rfl, rfl, rfl, by decide +kernel, rfl, by decide +kernel, by decide +kernel⟩
abbrev s_SizeMismatch__init : Stmt := inClass (top 6) 0
abbrev s_l_hand : Stmt := top 51
abbrev n_l_hand : List Str := ["_law_script", "_law_k", "_law_cell", "_law_seed"]
theorem sc_l_hand : FnScope n_l_hand ["_law_script", "_law_k"] (defScope s_l_hand) := ⟨rfl, rfl, rfl, by decide +kernel, rfl, by decide +kernel, by decide +kernel⟩
abbrev s_l_draw : Stmt := top 52
abbrev n_l_draw : List Str := ["_law_pool", "_law_size", "_law_found"]
theorem sc_l_draw : FnScope n_l_draw ["_law_pool", "_law_size"] (defScope s_l_draw) := ⟨rfl, rfl, rfl, by decide +kernel, rfl, by decide +kernel, by decide +kernel⟩
abbrev s_l_arrows : Stmt := top 53
abbrev n_l_arrows : List Str := ["_law_pool", "_law_size", "_law_way", "_law_left", "_law_found", "_law_source"]
theorem sc_l_arrows : FnScope n_l_arrows ["_law_pool", "_law_size", "_law_way"] (defScope s_l_arrows) := ⟨rfl, rfl, rfl, by decide +kernel, rfl, by decide +kernel, by decide +kernel⟩
abbrev s_l_map : Stmt := top 54
abbrev n_l_map : List Str := ["_law_pool", "_law_size", "_law_found", "_law_turn", "_law_one", "_law_other"]
theorem sc_l_map : FnScope n_l_map ["_law_pool", "_law_size"] (defScope s_l_map) := ⟨rfl, rfl, rfl, by decide +kernel, rfl, by decide +kernel, by decide +kernel⟩
abbrev s_l_bent : Stmt := top 55
abbrev n_l_bent : List Str := ["_law_pool", "_law_told", "_law_size", "_law_some"]
theorem sc_l_bent : FnScope n_l_bent ["_law_pool", "_law_told"] (defScope s_l_bent) := ⟨rfl, rfl, rfl, by decide +kernel, rfl, by decide +kernel, by decide +kernel⟩
abbrev s_law : Stmt := top 56
abbrev n_law : List Str := ["_law_script", "_law_k", "_law_pool", "_law_size", "_law_base", "_law_degree", "_law_given", "_law_told", "_law_length", "_law_thing", "_law_due", "_law_turn"]
theorem sc_law : FnScope n_law ["_law_script"] (defScope s_law) := ⟨rfl, rfl, rfl, by decide +kernel, rfl, by decide +kernel, by decide +kernel⟩
set_option genInjectivity false
set_option genSizeOf false
structure Txt (K : PySem.W.Frag) (mg : Str → Option Value) where
  f_is_integer : Addr
  f_in_range : Addr
  f_check_size : Addr
  f_check_elements : Addr
  f_are_arrows : Addr
  f_common_size : Addr
  f_row_from : Addr
  f_moved : Addr
  f_check_map : Addr
  f_greatest_divisor : Addr
  f_parts_of : Addr
  f_are_counts : Addr
  f_ordered : Addr
  f_counts_of : Addr
  f_shape_of : Addr
  f_check_shape : Addr
  f_check_degree : Addr
  f_group_size : Addr
  f_failing_chains : Addr
  f_obstacle_of : Addr
  f_has_root : Addr
  f_obstacle : Addr
  f_is_obstacle : Addr
  f_by_length : Addr
  f_cycle_root : Addr
  f_chain_root : Addr
  f_chain_groups : Addr
  f_root : Addr
  f_is_root : Addr
  f_l_hand : Addr
  f_l_draw : Addr
  f_l_arrows : Addr
  f_l_map : Addr
  f_l_bent : Addr
  f_law : Addr
  C_Shape : Addr
  f_Shape__init : Addr
  p_Shape_cycles : Addr
  f_Shape_cycles : Addr
  p_Shape_chains : Addr
  f_Shape_chains : Addr
  C_Map : Addr
  f_Map__eq : Addr
  f_Map__init : Addr
  p_Map_identity : Addr
  f_Map_identity : Addr
  p_Map_empty : Addr
  f_Map_empty : Addr
  p_Map_swap : Addr
  f_Map_swap : Addr
  p_Map_size : Addr
  f_Map_size : Addr
  p_Map_arrows : Addr
  f_Map_arrows : Addr
  f_Map__mul : Addr
  f_Map__invert : Addr
  f_Map__repr : Addr
  f_Map_power : Addr
  C_InvalidMap : Addr
  f_InvalidMap__init : Addr
  C_InvalidNumber : Addr
  f_InvalidNumber__init : Addr
  C_InvalidSize : Addr
  f_InvalidSize__init : Addr
  C_InvalidElement : Addr
  f_InvalidElement__init : Addr
  C_InvalidShape : Addr
  f_InvalidShape__init : Addr
  C_SizeMismatch : Addr
  f_SizeMismatch__init : Addr
  A_is_integer : U.FnAt K "is_integer" "is_integer" s_is_integer f_is_integer ["value"]
  g_is_integer : mg "is_integer" = some (.ref f_is_integer)
  A_in_range : U.FnAt K "in_range" "in_range" s_in_range f_in_range ["value", "least", "most"]
  g_in_range : mg "in_range" = some (.ref f_in_range)
  A_check_size : U.FnAt K "check_size" "check_size" s_check_size f_check_size ["size"]
  g_check_size : mg "check_size" = some (.ref f_check_size)
  A_check_elements : U.FnAt K "check_elements" "check_elements" s_check_elements f_check_elements ["size", "points"]
  g_check_elements : mg "check_elements" = some (.ref f_check_elements)
  A_are_arrows : U.FnAt K "are_arrows" "are_arrows" s_are_arrows f_are_arrows ["size", "arrows"]
  g_are_arrows : mg "are_arrows" = some (.ref f_are_arrows)
  A_common_size : U.FnAt K "common_size" "common_size" s_common_size f_common_size ["one", "other"]
  g_common_size : mg "common_size" = some (.ref f_common_size)
  A_row_from : U.FnAt K "row_from" "row_from" s_row_from f_row_from ["arrows", "element"]
  g_row_from : mg "row_from" = some (.ref f_row_from)
  A_moved : U.FnAt K "moved" "moved" s_moved f_moved ["arrows", "steps"]
  g_moved : mg "moved" = some (.ref f_moved)
  A_check_map : U.FnAt K "check_map" "check_map" s_check_map f_check_map ["value"]
  g_check_map : mg "check_map" = some (.ref f_check_map)
  A_greatest_divisor : U.FnAt K "greatest_divisor" "greatest_divisor" s_greatest_divisor f_greatest_divisor ["one", "other"]
  g_greatest_divisor : mg "greatest_divisor" = some (.ref f_greatest_divisor)
  A_parts_of : U.FnAt K "parts_of" "parts_of" s_parts_of f_parts_of ["given"]
  g_parts_of : mg "parts_of" = some (.ref f_parts_of)
  A_are_counts : U.FnAt K "are_counts" "are_counts" s_are_counts f_are_counts ["value"]
  g_are_counts : mg "are_counts" = some (.ref f_are_counts)
  A_ordered : U.FnAt K "ordered" "ordered" s_ordered f_ordered ["counts"]
  g_ordered : mg "ordered" = some (.ref f_ordered)
  A_counts_of : U.FnAt K "counts_of" "counts_of" s_counts_of f_counts_of ["parts"]
  g_counts_of : mg "counts_of" = some (.ref f_counts_of)
  A_shape_of : U.FnAt K "shape_of" "shape_of" s_shape_of f_shape_of ["given"]
  g_shape_of : mg "shape_of" = some (.ref f_shape_of)
  A_check_shape : U.FnAt K "check_shape" "check_shape" s_check_shape f_check_shape ["value"]
  g_check_shape : mg "check_shape" = some (.ref f_check_shape)
  A_check_degree : U.FnAt K "check_degree" "check_degree" s_check_degree f_check_degree ["degree"]
  g_check_degree : mg "check_degree" = some (.ref f_check_degree)
  A_group_size : U.FnAt K "group_size" "group_size" s_group_size f_group_size ["length", "degree"]
  g_group_size : mg "group_size" = some (.ref f_group_size)
  A_failing_chains : U.FnAt K "failing_chains" "failing_chains" s_failing_chains f_failing_chains ["chains", "degree"]
  g_failing_chains : mg "failing_chains" = some (.ref f_failing_chains)
  A_obstacle_of : U.FnAt K "obstacle_of" "obstacle_of" s_obstacle_of f_obstacle_of ["shape", "degree"]
  g_obstacle_of : mg "obstacle_of" = some (.ref f_obstacle_of)
  A_has_root : U.FnAt K "has_root" "has_root" s_has_root f_has_root ["shape", "degree"]
  g_has_root : mg "has_root" = some (.ref f_has_root)
  A_obstacle : U.FnAt K "obstacle" "obstacle" s_obstacle f_obstacle ["given", "degree"]
  g_obstacle : mg "obstacle" = some (.ref f_obstacle)
  A_is_obstacle : U.FnAt K "is_obstacle" "is_obstacle" s_is_obstacle f_is_obstacle ["given", "degree", "value"]
  g_is_obstacle : mg "is_obstacle" = some (.ref f_is_obstacle)
  A_by_length : U.FnAt K "by_length" "by_length" s_by_length f_by_length ["parts"]
  g_by_length : mg "by_length" = some (.ref f_by_length)
  A_cycle_root : U.FnAt K "cycle_root" "cycle_root" s_cycle_root f_cycle_root ["group", "degree"]
  g_cycle_root : mg "cycle_root" = some (.ref f_cycle_root)
  A_chain_root : U.FnAt K "chain_root" "chain_root" s_chain_root f_chain_root ["group"]
  g_chain_root : mg "chain_root" = some (.ref f_chain_root)
  A_chain_groups : U.FnAt K "chain_groups" "chain_groups" s_chain_groups f_chain_groups ["chains", "degree"]
  g_chain_groups : mg "chain_groups" = some (.ref f_chain_groups)
  A_root : U.FnAt K "root" "root" s_root f_root ["given", "degree"]
  g_root : mg "root" = some (.ref f_root)
  A_is_root : U.FnAt K "is_root" "is_root" s_is_root f_is_root ["given", "degree", "value"]
  g_is_root : mg "is_root" = some (.ref f_is_root)
  A_l_hand : U.FnAt K "_law_hand" "_law_hand" s_l_hand f_l_hand ["_law_script", "_law_k"]
  g_l_hand : mg "_law_hand" = some (.ref f_l_hand)
  A_l_draw : U.FnAt K "_law_draw" "_law_draw" s_l_draw f_l_draw ["_law_pool", "_law_size"]
  g_l_draw : mg "_law_draw" = some (.ref f_l_draw)
  A_l_arrows : U.FnAt K "_law_arrows" "_law_arrows" s_l_arrows f_l_arrows ["_law_pool", "_law_size", "_law_way"]
  g_l_arrows : mg "_law_arrows" = some (.ref f_l_arrows)
  A_l_map : U.FnAt K "_law_map" "_law_map" s_l_map f_l_map ["_law_pool", "_law_size"]
  g_l_map : mg "_law_map" = some (.ref f_l_map)
  A_l_bent : U.FnAt K "_law_bent" "_law_bent" s_l_bent f_l_bent ["_law_pool", "_law_told"]
  g_l_bent : mg "_law_bent" = some (.ref f_l_bent)
  A_law : U.FnAt K "law" "law" s_law f_law ["_law_script"]
  L_law : ∃ fd, Fun K "law" "law" s_law f_law fd ∧ ∀ (s : Shared) (u : Value), BindsTo s fd ⟨[u], []⟩ [("_law_script", u)]
  g_law : mg "law" = some (.ref f_law)
  g_Shape : mg "Shape" = some (.ref C_Shape)
  o_Shape : U.OwnC K C_Shape
  kit_int_Shape : PySem.W.kitOne K (.ref C_Shape) (.type "int") = some false
  kit_bool_Shape : PySem.W.kitOne K (.ref C_Shape) (.type "bool") = some false
  kn_NoneType_Shape : PySem.W.kitOne K (.type "NoneType") (.ref C_Shape) = some false
  nf_NoneType_Shape : PySem.W.notFirst K C_Shape (.type "NoneType") = true
  kn_int_Shape : PySem.W.kitOne K (.type "int") (.ref C_Shape) = some false
  nf_int_Shape : PySem.W.notFirst K C_Shape (.type "int") = true
  kn_bool_Shape : PySem.W.kitOne K (.type "bool") (.ref C_Shape) = some false
  nf_bool_Shape : PySem.W.notFirst K C_Shape (.type "bool") = true
  kn_str_Shape : PySem.W.kitOne K (.type "str") (.ref C_Shape) = some false
  nf_str_Shape : PySem.W.notFirst K C_Shape (.type "str") = true
  kn_list_Shape : PySem.W.kitOne K (.type "list") (.ref C_Shape) = some false
  nf_list_Shape : PySem.W.notFirst K C_Shape (.type "list") = true
  kn_dict_Shape : PySem.W.kitOne K (.type "dict") (.ref C_Shape) = some false
  nf_dict_Shape : PySem.W.notFirst K C_Shape (.type "dict") = true
  kn_tuple_Shape : PySem.W.kitOne K (.type "tuple") (.ref C_Shape) = some false
  nf_tuple_Shape : PySem.W.notFirst K C_Shape (.type "tuple") = true
  self_Shape : PySem.W.kitOne K (.ref C_Shape) (.ref C_Shape) = some true
  na_own_cycles_Shape : NoAttr K C_Shape "own_cycles"
  na_own_chains_Shape : NoAttr K C_Shape "own_chains"
  A_Shape__init : U.FnAt K "__init__" "Shape.__init__" s_Shape__init f_Shape__init ["self", "cycles", "chains"]
  m_Shape__init : PySem.W.findIn K (.ref C_Shape) "__init__" = some (some (.ref f_Shape__init))
  i_Shape__init : PySem.W.isFn K (.ref f_Shape__init) = true
  M_Shape : Mk K C_Shape f_Shape__init
  A_Shape_cycles : U.FnAt K "cycles" "Shape.cycles" s_Shape_cycles f_Shape_cycles ["self"]
  P_Shape_cycles : PropOf K C_Shape "cycles" p_Shape_cycles f_Shape_cycles
  A_Shape_chains : U.FnAt K "chains" "Shape.chains" s_Shape_chains f_Shape_chains ["self"]
  P_Shape_chains : PropOf K C_Shape "chains" p_Shape_chains f_Shape_chains
  g_Map : mg "Map" = some (.ref C_Map)
  o_Map : U.OwnC K C_Map
  kit_int_Map : PySem.W.kitOne K (.ref C_Map) (.type "int") = some false
  kit_bool_Map : PySem.W.kitOne K (.ref C_Map) (.type "bool") = some false
  kit_tuple_Map : PySem.W.kitOne K (.ref C_Map) (.type "tuple") = some false
  kn_NoneType_Map : PySem.W.kitOne K (.type "NoneType") (.ref C_Map) = some false
  nf_NoneType_Map : PySem.W.notFirst K C_Map (.type "NoneType") = true
  kn_int_Map : PySem.W.kitOne K (.type "int") (.ref C_Map) = some false
  nf_int_Map : PySem.W.notFirst K C_Map (.type "int") = true
  kn_bool_Map : PySem.W.kitOne K (.type "bool") (.ref C_Map) = some false
  nf_bool_Map : PySem.W.notFirst K C_Map (.type "bool") = true
  kn_str_Map : PySem.W.kitOne K (.type "str") (.ref C_Map) = some false
  nf_str_Map : PySem.W.notFirst K C_Map (.type "str") = true
  kn_list_Map : PySem.W.kitOne K (.type "list") (.ref C_Map) = some false
  nf_list_Map : PySem.W.notFirst K C_Map (.type "list") = true
  kn_dict_Map : PySem.W.kitOne K (.type "dict") (.ref C_Map) = some false
  nf_dict_Map : PySem.W.notFirst K C_Map (.type "dict") = true
  kn_tuple_Map : PySem.W.kitOne K (.type "tuple") (.ref C_Map) = some false
  nf_tuple_Map : PySem.W.notFirst K C_Map (.type "tuple") = true
  kx_Map_Shape : PySem.W.kitOne K (.ref C_Map) (.ref C_Shape) = some false
  self_Map : PySem.W.kitOne K (.ref C_Map) (.ref C_Map) = some true
  na_own_size_Map : NoAttr K C_Map "own_size"
  na_own_arrows_Map : NoAttr K C_Map "own_arrows"
  ne_Map : PySem.W.findIn K (.ref C_Map) "__ne__" = some (some (.builtin "object.__ne__"))
  A_Map__eq : U.FnAt K "__eq__" "Map.__eq__" s_Map__eq f_Map__eq ["self", "other"]
  m_Map__eq : PySem.W.findIn K (.ref C_Map) "__eq__" = some (some (.ref f_Map__eq))
  i_Map__eq : PySem.W.isFn K (.ref f_Map__eq) = true
  A_Map__init : U.FnAt K "__init__" "Map.__init__" s_Map__init f_Map__init ["self", "size", "arrows"]
  m_Map__init : PySem.W.findIn K (.ref C_Map) "__init__" = some (some (.ref f_Map__init))
  i_Map__init : PySem.W.isFn K (.ref f_Map__init) = true
  M_Map : Mk K C_Map f_Map__init
  R_Map : ClX.CRead K C_Map (.type "type")
  A_Map_identity : U.FnAt K "identity" "Map.identity" s_Map_identity f_Map_identity ["cls", "size"]
  cm_Map_identity : ClX.CMet K C_Map (.type "type") "identity" p_Map_identity f_Map_identity
  A_Map_empty : U.FnAt K "empty" "Map.empty" s_Map_empty f_Map_empty ["cls", "size"]
  cm_Map_empty : ClX.CMet K C_Map (.type "type") "empty" p_Map_empty f_Map_empty
  A_Map_swap : U.FnAt K "swap" "Map.swap" s_Map_swap f_Map_swap ["cls", "size", "one", "other"]
  cm_Map_swap : ClX.CMet K C_Map (.type "type") "swap" p_Map_swap f_Map_swap
  A_Map_size : U.FnAt K "size" "Map.size" s_Map_size f_Map_size ["self"]
  P_Map_size : PropOf K C_Map "size" p_Map_size f_Map_size
  A_Map_arrows : U.FnAt K "arrows" "Map.arrows" s_Map_arrows f_Map_arrows ["self"]
  P_Map_arrows : PropOf K C_Map "arrows" p_Map_arrows f_Map_arrows
  A_Map__mul : U.FnAt K "__mul__" "Map.__mul__" s_Map__mul f_Map__mul ["self", "other"]
  m_Map__mul : PySem.W.findIn K (.ref C_Map) "__mul__" = some (some (.ref f_Map__mul))
  i_Map__mul : PySem.W.isFn K (.ref f_Map__mul) = true
  A_Map__invert : U.FnAt K "__invert__" "Map.__invert__" s_Map__invert f_Map__invert ["self"]
  m_Map__invert : PySem.W.findIn K (.ref C_Map) "__invert__" = some (some (.ref f_Map__invert))
  i_Map__invert : PySem.W.isFn K (.ref f_Map__invert) = true
  A_Map__repr : U.FnAt K "__repr__" "Map.__repr__" s_Map__repr f_Map__repr ["self"]
  m_Map__repr : PySem.W.findIn K (.ref C_Map) "__repr__" = some (some (.ref f_Map__repr))
  i_Map__repr : PySem.W.isFn K (.ref f_Map__repr) = true
  A_Map_power : U.FnAt K "power" "Map.power" s_Map_power f_Map_power ["self", "exponent"]
  m_Map_power : PySem.W.findIn K (.ref C_Map) "power" = some (some (.ref f_Map_power))
  i_Map_power : PySem.W.isFn K (.ref f_Map_power) = true
  meth_Map_power : Meth K C_Map "power" f_Map_power
  g_InvalidMap : mg "InvalidMap" = some (.ref C_InvalidMap)
  x_InvalidMap : OexG K C_InvalidMap
  xf_InvalidMap : XfC K C_InvalidMap
  xe_InvalidMap : ExcC K C_InvalidMap
  te_InvalidMap : PySem.W.exmOne K (.ref C_InvalidMap) (.ref C_InvalidMap) = some true
  kit_ValueError_InvalidMap : PySem.W.kitOne K (.ref C_InvalidMap) (.type "ValueError") = some true
  na_part_InvalidMap : PySem.W.findIn K (.ref C_InvalidMap) "part" = some none
  A_InvalidMap__init : U.FnAt K "__init__" "InvalidMap.__init__" s_InvalidMap__init f_InvalidMap__init ["self", "part"]
  m_InvalidMap__init : PySem.W.findIn K (.ref C_InvalidMap) "__init__" = some (some (.ref f_InvalidMap__init))
  ti_InvalidMap__init : PySem.W.typeIn K (.ref f_InvalidMap__init) = some (.type "function")
  g_InvalidNumber : mg "InvalidNumber" = some (.ref C_InvalidNumber)
  x_InvalidNumber : OexG K C_InvalidNumber
  xf_InvalidNumber : XfC K C_InvalidNumber
  xe_InvalidNumber : ExcC K C_InvalidNumber
  te_InvalidNumber : PySem.W.exmOne K (.ref C_InvalidNumber) (.ref C_InvalidNumber) = some true
  kit_ValueError_InvalidNumber : PySem.W.kitOne K (.ref C_InvalidNumber) (.type "ValueError") = some true
  na_value_InvalidNumber : PySem.W.findIn K (.ref C_InvalidNumber) "value" = some none
  A_InvalidNumber__init : U.FnAt K "__init__" "InvalidNumber.__init__" s_InvalidNumber__init f_InvalidNumber__init ["self", "value"]
  m_InvalidNumber__init : PySem.W.findIn K (.ref C_InvalidNumber) "__init__" = some (some (.ref f_InvalidNumber__init))
  ti_InvalidNumber__init : PySem.W.typeIn K (.ref f_InvalidNumber__init) = some (.type "function")
  g_InvalidSize : mg "InvalidSize" = some (.ref C_InvalidSize)
  x_InvalidSize : OexG K C_InvalidSize
  xf_InvalidSize : XfC K C_InvalidSize
  xe_InvalidSize : ExcC K C_InvalidSize
  te_InvalidSize : PySem.W.exmOne K (.ref C_InvalidSize) (.ref C_InvalidSize) = some true
  kit_ValueError_InvalidSize : PySem.W.kitOne K (.ref C_InvalidSize) (.type "ValueError") = some true
  na_value_InvalidSize : PySem.W.findIn K (.ref C_InvalidSize) "value" = some none
  A_InvalidSize__init : U.FnAt K "__init__" "InvalidSize.__init__" s_InvalidSize__init f_InvalidSize__init ["self", "value"]
  m_InvalidSize__init : PySem.W.findIn K (.ref C_InvalidSize) "__init__" = some (some (.ref f_InvalidSize__init))
  ti_InvalidSize__init : PySem.W.typeIn K (.ref f_InvalidSize__init) = some (.type "function")
  g_InvalidElement : mg "InvalidElement" = some (.ref C_InvalidElement)
  x_InvalidElement : OexG K C_InvalidElement
  xf_InvalidElement : XfC K C_InvalidElement
  xe_InvalidElement : ExcC K C_InvalidElement
  te_InvalidElement : PySem.W.exmOne K (.ref C_InvalidElement) (.ref C_InvalidElement) = some true
  kit_ValueError_InvalidElement : PySem.W.kitOne K (.ref C_InvalidElement) (.type "ValueError") = some true
  na_value_InvalidElement : PySem.W.findIn K (.ref C_InvalidElement) "value" = some none
  A_InvalidElement__init : U.FnAt K "__init__" "InvalidElement.__init__" s_InvalidElement__init f_InvalidElement__init ["self", "value"]
  m_InvalidElement__init : PySem.W.findIn K (.ref C_InvalidElement) "__init__" = some (some (.ref f_InvalidElement__init))
  ti_InvalidElement__init : PySem.W.typeIn K (.ref f_InvalidElement__init) = some (.type "function")
  g_InvalidShape : mg "InvalidShape" = some (.ref C_InvalidShape)
  x_InvalidShape : OexG K C_InvalidShape
  xf_InvalidShape : XfC K C_InvalidShape
  xe_InvalidShape : ExcC K C_InvalidShape
  te_InvalidShape : PySem.W.exmOne K (.ref C_InvalidShape) (.ref C_InvalidShape) = some true
  kit_ValueError_InvalidShape : PySem.W.kitOne K (.ref C_InvalidShape) (.type "ValueError") = some true
  na_part_InvalidShape : PySem.W.findIn K (.ref C_InvalidShape) "part" = some none
  A_InvalidShape__init : U.FnAt K "__init__" "InvalidShape.__init__" s_InvalidShape__init f_InvalidShape__init ["self", "part"]
  m_InvalidShape__init : PySem.W.findIn K (.ref C_InvalidShape) "__init__" = some (some (.ref f_InvalidShape__init))
  ti_InvalidShape__init : PySem.W.typeIn K (.ref f_InvalidShape__init) = some (.type "function")
  g_SizeMismatch : mg "SizeMismatch" = some (.ref C_SizeMismatch)
  x_SizeMismatch : OexG K C_SizeMismatch
  xf_SizeMismatch : XfC K C_SizeMismatch
  xe_SizeMismatch : ExcC K C_SizeMismatch
  te_SizeMismatch : PySem.W.exmOne K (.ref C_SizeMismatch) (.ref C_SizeMismatch) = some true
  kit_ValueError_SizeMismatch : PySem.W.kitOne K (.ref C_SizeMismatch) (.type "ValueError") = some true
  na_first_SizeMismatch : PySem.W.findIn K (.ref C_SizeMismatch) "first" = some none
  na_second_SizeMismatch : PySem.W.findIn K (.ref C_SizeMismatch) "second" = some none
  A_SizeMismatch__init : U.FnAt K "__init__" "SizeMismatch.__init__" s_SizeMismatch__init f_SizeMismatch__init ["self", "first", "second"]
  m_SizeMismatch__init : PySem.W.findIn K (.ref C_SizeMismatch) "__init__" = some (some (.ref f_SizeMismatch__init))
  ti_SizeMismatch__init : PySem.W.typeIn K (.ref f_SizeMismatch__init) = some (.type "function")
  n_isinstance : mg "isinstance" = none
  n_int : mg "int" = none
  n_bool : mg "bool" = none
  n_dict : mg "dict" = none
  n_len : mg "len" = none
  n_range : mg "range" = none
  n_list : mg "list" = none
  n_tuple : mg "tuple" = none
  n_max : mg "max" = none
  n_min : mg "min" = none
  n_all : mg "all" = none
  n_sorted : mg "sorted" = none
  n_abs : mg "abs" = none
  n_enumerate : mg "enumerate" = none
  n_repr : mg "repr" = none
  n_zip : mg "zip" = none
  v_MAX_SIZE : ∃ t, mg "MAX_SIZE" = some (.int 300 t)
  v_MAX_DEGREE : ∃ t, mg "MAX_DEGREE" = some (.int 1000000000000000000000000000000 t)
theorem mk_txt {K : PySem.W.Frag} {h : Heap} {mg : Str → Option Value} (X : K.In h) (G : h.Ns mainGlobals mg)
    {f_is_integer : Addr} {oc_is_integer kV_is_integer dc_is_integer pm_is_integer cd_is_integer ct_is_integer : Value} {od_is_integer an_is_integer : Option Addr} {sl_is_integer : Array (Option Value)}
    {f_in_range : Addr} {oc_in_range kV_in_range dc_in_range pm_in_range cd_in_range ct_in_range : Value} {od_in_range an_in_range : Option Addr} {sl_in_range : Array (Option Value)}
    {f_check_size : Addr} {oc_check_size kV_check_size dc_check_size pm_check_size cd_check_size ct_check_size : Value} {od_check_size an_check_size : Option Addr} {sl_check_size : Array (Option Value)}
    {f_check_elements : Addr} {oc_check_elements kV_check_elements dc_check_elements pm_check_elements cd_check_elements ct_check_elements : Value} {od_check_elements an_check_elements : Option Addr} {sl_check_elements : Array (Option Value)}
    {f_are_arrows : Addr} {oc_are_arrows kV_are_arrows dc_are_arrows pm_are_arrows cd_are_arrows ct_are_arrows : Value} {od_are_arrows an_are_arrows : Option Addr} {sl_are_arrows : Array (Option Value)}
    {f_common_size : Addr} {oc_common_size kV_common_size dc_common_size pm_common_size cd_common_size ct_common_size : Value} {od_common_size an_common_size : Option Addr} {sl_common_size : Array (Option Value)}
    {f_row_from : Addr} {oc_row_from kV_row_from dc_row_from pm_row_from cd_row_from ct_row_from : Value} {od_row_from an_row_from : Option Addr} {sl_row_from : Array (Option Value)}
    {f_moved : Addr} {oc_moved kV_moved dc_moved pm_moved cd_moved ct_moved : Value} {od_moved an_moved : Option Addr} {sl_moved : Array (Option Value)}
    {f_check_map : Addr} {oc_check_map kV_check_map dc_check_map pm_check_map cd_check_map ct_check_map : Value} {od_check_map an_check_map : Option Addr} {sl_check_map : Array (Option Value)}
    {f_greatest_divisor : Addr} {oc_greatest_divisor kV_greatest_divisor dc_greatest_divisor pm_greatest_divisor cd_greatest_divisor ct_greatest_divisor : Value} {od_greatest_divisor an_greatest_divisor : Option Addr} {sl_greatest_divisor : Array (Option Value)}
    {f_parts_of : Addr} {oc_parts_of kV_parts_of dc_parts_of pm_parts_of cd_parts_of ct_parts_of : Value} {od_parts_of an_parts_of : Option Addr} {sl_parts_of : Array (Option Value)}
    {f_are_counts : Addr} {oc_are_counts kV_are_counts dc_are_counts pm_are_counts cd_are_counts ct_are_counts : Value} {od_are_counts an_are_counts : Option Addr} {sl_are_counts : Array (Option Value)}
    {f_ordered : Addr} {oc_ordered kV_ordered dc_ordered pm_ordered cd_ordered ct_ordered : Value} {od_ordered an_ordered : Option Addr} {sl_ordered : Array (Option Value)}
    {f_counts_of : Addr} {oc_counts_of kV_counts_of dc_counts_of pm_counts_of cd_counts_of ct_counts_of : Value} {od_counts_of an_counts_of : Option Addr} {sl_counts_of : Array (Option Value)}
    {f_shape_of : Addr} {oc_shape_of kV_shape_of dc_shape_of pm_shape_of cd_shape_of ct_shape_of : Value} {od_shape_of an_shape_of : Option Addr} {sl_shape_of : Array (Option Value)}
    {f_check_shape : Addr} {oc_check_shape kV_check_shape dc_check_shape pm_check_shape cd_check_shape ct_check_shape : Value} {od_check_shape an_check_shape : Option Addr} {sl_check_shape : Array (Option Value)}
    {f_check_degree : Addr} {oc_check_degree kV_check_degree dc_check_degree pm_check_degree cd_check_degree ct_check_degree : Value} {od_check_degree an_check_degree : Option Addr} {sl_check_degree : Array (Option Value)}
    {f_group_size : Addr} {oc_group_size kV_group_size dc_group_size pm_group_size cd_group_size ct_group_size : Value} {od_group_size an_group_size : Option Addr} {sl_group_size : Array (Option Value)}
    {f_failing_chains : Addr} {oc_failing_chains kV_failing_chains dc_failing_chains pm_failing_chains cd_failing_chains ct_failing_chains : Value} {od_failing_chains an_failing_chains : Option Addr} {sl_failing_chains : Array (Option Value)}
    {f_obstacle_of : Addr} {oc_obstacle_of kV_obstacle_of dc_obstacle_of pm_obstacle_of cd_obstacle_of ct_obstacle_of : Value} {od_obstacle_of an_obstacle_of : Option Addr} {sl_obstacle_of : Array (Option Value)}
    {f_has_root : Addr} {oc_has_root kV_has_root dc_has_root pm_has_root cd_has_root ct_has_root : Value} {od_has_root an_has_root : Option Addr} {sl_has_root : Array (Option Value)}
    {f_obstacle : Addr} {oc_obstacle kV_obstacle dc_obstacle pm_obstacle cd_obstacle ct_obstacle : Value} {od_obstacle an_obstacle : Option Addr} {sl_obstacle : Array (Option Value)}
    {f_is_obstacle : Addr} {oc_is_obstacle kV_is_obstacle dc_is_obstacle pm_is_obstacle cd_is_obstacle ct_is_obstacle : Value} {od_is_obstacle an_is_obstacle : Option Addr} {sl_is_obstacle : Array (Option Value)}
    {f_by_length : Addr} {oc_by_length kV_by_length dc_by_length pm_by_length cd_by_length ct_by_length : Value} {od_by_length an_by_length : Option Addr} {sl_by_length : Array (Option Value)}
    {f_cycle_root : Addr} {oc_cycle_root kV_cycle_root dc_cycle_root pm_cycle_root cd_cycle_root ct_cycle_root : Value} {od_cycle_root an_cycle_root : Option Addr} {sl_cycle_root : Array (Option Value)}
    {f_chain_root : Addr} {oc_chain_root kV_chain_root dc_chain_root pm_chain_root cd_chain_root ct_chain_root : Value} {od_chain_root an_chain_root : Option Addr} {sl_chain_root : Array (Option Value)}
    {f_chain_groups : Addr} {oc_chain_groups kV_chain_groups dc_chain_groups pm_chain_groups cd_chain_groups ct_chain_groups : Value} {od_chain_groups an_chain_groups : Option Addr} {sl_chain_groups : Array (Option Value)}
    {f_root : Addr} {oc_root kV_root dc_root pm_root cd_root ct_root : Value} {od_root an_root : Option Addr} {sl_root : Array (Option Value)}
    {f_is_root : Addr} {oc_is_root kV_is_root dc_is_root pm_is_root cd_is_root ct_is_root : Value} {od_is_root an_is_root : Option Addr} {sl_is_root : Array (Option Value)}
    {f_l_hand : Addr} {oc_l_hand kV_l_hand dc_l_hand pm_l_hand cd_l_hand ct_l_hand : Value} {od_l_hand an_l_hand : Option Addr} {sl_l_hand : Array (Option Value)}
    {f_l_draw : Addr} {oc_l_draw kV_l_draw dc_l_draw pm_l_draw cd_l_draw ct_l_draw : Value} {od_l_draw an_l_draw : Option Addr} {sl_l_draw : Array (Option Value)}
    {f_l_arrows : Addr} {oc_l_arrows kV_l_arrows dc_l_arrows pm_l_arrows cd_l_arrows ct_l_arrows : Value} {od_l_arrows an_l_arrows : Option Addr} {sl_l_arrows : Array (Option Value)}
    {f_l_map : Addr} {oc_l_map kV_l_map dc_l_map pm_l_map cd_l_map ct_l_map : Value} {od_l_map an_l_map : Option Addr} {sl_l_map : Array (Option Value)}
    {f_l_bent : Addr} {oc_l_bent kV_l_bent dc_l_bent pm_l_bent cd_l_bent ct_l_bent : Value} {od_l_bent an_l_bent : Option Addr} {sl_l_bent : Array (Option Value)}
    {f_law : Addr} {oc_law kV_law dc_law pm_law cd_law ct_law : Value} {od_law an_law : Option Addr} {sl_law : Array (Option Value)}
    {C_Shape : Addr}
    {f_Shape__init : Addr} {oc_Shape__init kV_Shape__init dc_Shape__init pm_Shape__init cd_Shape__init ct_Shape__init : Value} {od_Shape__init an_Shape__init : Option Addr} {sl_Shape__init : Array (Option Value)}
    {p_Shape_cycles : Addr} {r_Shape_cycles : List Value}
    {f_Shape_cycles : Addr} {oc_Shape_cycles kV_Shape_cycles dc_Shape_cycles pm_Shape_cycles cd_Shape_cycles ct_Shape_cycles : Value} {od_Shape_cycles an_Shape_cycles : Option Addr} {sl_Shape_cycles : Array (Option Value)}
    {p_Shape_chains : Addr} {r_Shape_chains : List Value}
    {f_Shape_chains : Addr} {oc_Shape_chains kV_Shape_chains dc_Shape_chains pm_Shape_chains cd_Shape_chains ct_Shape_chains : Value} {od_Shape_chains an_Shape_chains : Option Addr} {sl_Shape_chains : Array (Option Value)}
    {C_Map : Addr}
    {f_Map__eq : Addr} {oc_Map__eq kV_Map__eq dc_Map__eq pm_Map__eq cd_Map__eq ct_Map__eq : Value} {od_Map__eq an_Map__eq : Option Addr} {sl_Map__eq : Array (Option Value)}
    {f_Map__init : Addr} {oc_Map__init kV_Map__init dc_Map__init pm_Map__init cd_Map__init ct_Map__init : Value} {od_Map__init an_Map__init : Option Addr} {sl_Map__init : Array (Option Value)}
    {p_Map_identity : Addr} {r_Map_identity : List Value}
    {f_Map_identity : Addr} {oc_Map_identity kV_Map_identity dc_Map_identity pm_Map_identity cd_Map_identity ct_Map_identity : Value} {od_Map_identity an_Map_identity : Option Addr} {sl_Map_identity : Array (Option Value)}
    {p_Map_empty : Addr} {r_Map_empty : List Value}
    {f_Map_empty : Addr} {oc_Map_empty kV_Map_empty dc_Map_empty pm_Map_empty cd_Map_empty ct_Map_empty : Value} {od_Map_empty an_Map_empty : Option Addr} {sl_Map_empty : Array (Option Value)}
    {p_Map_swap : Addr} {r_Map_swap : List Value}
    {f_Map_swap : Addr} {oc_Map_swap kV_Map_swap dc_Map_swap pm_Map_swap cd_Map_swap ct_Map_swap : Value} {od_Map_swap an_Map_swap : Option Addr} {sl_Map_swap : Array (Option Value)}
    {p_Map_size : Addr} {r_Map_size : List Value}
    {f_Map_size : Addr} {oc_Map_size kV_Map_size dc_Map_size pm_Map_size cd_Map_size ct_Map_size : Value} {od_Map_size an_Map_size : Option Addr} {sl_Map_size : Array (Option Value)}
    {p_Map_arrows : Addr} {r_Map_arrows : List Value}
    {f_Map_arrows : Addr} {oc_Map_arrows kV_Map_arrows dc_Map_arrows pm_Map_arrows cd_Map_arrows ct_Map_arrows : Value} {od_Map_arrows an_Map_arrows : Option Addr} {sl_Map_arrows : Array (Option Value)}
    {f_Map__mul : Addr} {oc_Map__mul kV_Map__mul dc_Map__mul pm_Map__mul cd_Map__mul ct_Map__mul : Value} {od_Map__mul an_Map__mul : Option Addr} {sl_Map__mul : Array (Option Value)}
    {f_Map__invert : Addr} {oc_Map__invert kV_Map__invert dc_Map__invert pm_Map__invert cd_Map__invert ct_Map__invert : Value} {od_Map__invert an_Map__invert : Option Addr} {sl_Map__invert : Array (Option Value)}
    {f_Map__repr : Addr} {oc_Map__repr kV_Map__repr dc_Map__repr pm_Map__repr cd_Map__repr ct_Map__repr : Value} {od_Map__repr an_Map__repr : Option Addr} {sl_Map__repr : Array (Option Value)}
    {f_Map_power : Addr} {oc_Map_power kV_Map_power dc_Map_power pm_Map_power cd_Map_power ct_Map_power : Value} {od_Map_power an_Map_power : Option Addr} {sl_Map_power : Array (Option Value)}
    {C_InvalidMap : Addr} {nm_InvalidMap q_InvalidMap : Str} {N_InvalidMap : Addr} {bs_InvalidMap : List Value} {sn_InvalidMap : List Str} {sub_InvalidMap : List Value} {ab_InvalidMap : Bool} {col_InvalidMap : Option Bool} {dd_InvalidMap : Option Addr} {m0_InvalidMap m1_InvalidMap m2_InvalidMap m3_InvalidMap m5_InvalidMap : Option Value}
    {f_InvalidMap__init : Addr} {oc_InvalidMap__init kV_InvalidMap__init dc_InvalidMap__init pm_InvalidMap__init cd_InvalidMap__init ct_InvalidMap__init : Value} {od_InvalidMap__init an_InvalidMap__init : Option Addr} {sl_InvalidMap__init : Array (Option Value)}
    {C_InvalidNumber : Addr} {nm_InvalidNumber q_InvalidNumber : Str} {N_InvalidNumber : Addr} {bs_InvalidNumber : List Value} {sn_InvalidNumber : List Str} {sub_InvalidNumber : List Value} {ab_InvalidNumber : Bool} {col_InvalidNumber : Option Bool} {dd_InvalidNumber : Option Addr} {m0_InvalidNumber m1_InvalidNumber m2_InvalidNumber m3_InvalidNumber m5_InvalidNumber : Option Value}
    {f_InvalidNumber__init : Addr} {oc_InvalidNumber__init kV_InvalidNumber__init dc_InvalidNumber__init pm_InvalidNumber__init cd_InvalidNumber__init ct_InvalidNumber__init : Value} {od_InvalidNumber__init an_InvalidNumber__init : Option Addr} {sl_InvalidNumber__init : Array (Option Value)}
    {C_InvalidSize : Addr} {nm_InvalidSize q_InvalidSize : Str} {N_InvalidSize : Addr} {bs_InvalidSize : List Value} {sn_InvalidSize : List Str} {sub_InvalidSize : List Value} {ab_InvalidSize : Bool} {col_InvalidSize : Option Bool} {dd_InvalidSize : Option Addr} {m0_InvalidSize m1_InvalidSize m2_InvalidSize m3_InvalidSize m5_InvalidSize : Option Value}
    {f_InvalidSize__init : Addr} {oc_InvalidSize__init kV_InvalidSize__init dc_InvalidSize__init pm_InvalidSize__init cd_InvalidSize__init ct_InvalidSize__init : Value} {od_InvalidSize__init an_InvalidSize__init : Option Addr} {sl_InvalidSize__init : Array (Option Value)}
    {C_InvalidElement : Addr} {nm_InvalidElement q_InvalidElement : Str} {N_InvalidElement : Addr} {bs_InvalidElement : List Value} {sn_InvalidElement : List Str} {sub_InvalidElement : List Value} {ab_InvalidElement : Bool} {col_InvalidElement : Option Bool} {dd_InvalidElement : Option Addr} {m0_InvalidElement m1_InvalidElement m2_InvalidElement m3_InvalidElement m5_InvalidElement : Option Value}
    {f_InvalidElement__init : Addr} {oc_InvalidElement__init kV_InvalidElement__init dc_InvalidElement__init pm_InvalidElement__init cd_InvalidElement__init ct_InvalidElement__init : Value} {od_InvalidElement__init an_InvalidElement__init : Option Addr} {sl_InvalidElement__init : Array (Option Value)}
    {C_InvalidShape : Addr} {nm_InvalidShape q_InvalidShape : Str} {N_InvalidShape : Addr} {bs_InvalidShape : List Value} {sn_InvalidShape : List Str} {sub_InvalidShape : List Value} {ab_InvalidShape : Bool} {col_InvalidShape : Option Bool} {dd_InvalidShape : Option Addr} {m0_InvalidShape m1_InvalidShape m2_InvalidShape m3_InvalidShape m5_InvalidShape : Option Value}
    {f_InvalidShape__init : Addr} {oc_InvalidShape__init kV_InvalidShape__init dc_InvalidShape__init pm_InvalidShape__init cd_InvalidShape__init ct_InvalidShape__init : Value} {od_InvalidShape__init an_InvalidShape__init : Option Addr} {sl_InvalidShape__init : Array (Option Value)}
    {C_SizeMismatch : Addr} {nm_SizeMismatch q_SizeMismatch : Str} {N_SizeMismatch : Addr} {bs_SizeMismatch : List Value} {sn_SizeMismatch : List Str} {sub_SizeMismatch : List Value} {ab_SizeMismatch : Bool} {col_SizeMismatch : Option Bool} {dd_SizeMismatch : Option Addr} {m0_SizeMismatch m1_SizeMismatch m2_SizeMismatch m3_SizeMismatch m5_SizeMismatch : Option Value}
    {f_SizeMismatch__init : Addr} {oc_SizeMismatch__init kV_SizeMismatch__init dc_SizeMismatch__init pm_SizeMismatch__init cd_SizeMismatch__init ct_SizeMismatch__init : Value} {od_SizeMismatch__init an_SizeMismatch__init : Option Addr} {sl_SizeMismatch__init : Array (Option Value)}
    {t_MAX_SIZE : Tok}
    {t_MAX_DEGREE : Tok}
    (a_is_integer : PySem.W.nsIn K mainGlobals "is_integer" = some (some (.ref f_is_integer)))
    (l_is_integer : K.lookup f_is_integer = some ⟨oc_is_integer, od_is_integer, .func (PySem.W.fnOf "is_integer" "is_integer" (defArgs s_is_integer) (defBody s_is_integer) (defScope s_is_integer) .none kV_is_integer dc_is_integer pm_is_integer an_is_integer cd_is_integer ct_is_integer), sl_is_integer⟩)
    (c_is_integer : PySem.W.codeIn K cd_is_integer "is_integer" = true)
    (k_is_integer : PySem.W.keepIn K (.ref f_is_integer) = true)
    (a_in_range : PySem.W.nsIn K mainGlobals "in_range" = some (some (.ref f_in_range)))
    (l_in_range : K.lookup f_in_range = some ⟨oc_in_range, od_in_range, .func (PySem.W.fnOf "in_range" "in_range" (defArgs s_in_range) (defBody s_in_range) (defScope s_in_range) .none kV_in_range dc_in_range pm_in_range an_in_range cd_in_range ct_in_range), sl_in_range⟩)
    (c_in_range : PySem.W.codeIn K cd_in_range "in_range" = true)
    (k_in_range : PySem.W.keepIn K (.ref f_in_range) = true)
    (a_check_size : PySem.W.nsIn K mainGlobals "check_size" = some (some (.ref f_check_size)))
    (l_check_size : K.lookup f_check_size = some ⟨oc_check_size, od_check_size, .func (PySem.W.fnOf "check_size" "check_size" (defArgs s_check_size) (defBody s_check_size) (defScope s_check_size) .none kV_check_size dc_check_size pm_check_size an_check_size cd_check_size ct_check_size), sl_check_size⟩)
    (c_check_size : PySem.W.codeIn K cd_check_size "check_size" = true)
    (k_check_size : PySem.W.keepIn K (.ref f_check_size) = true)
    (a_check_elements : PySem.W.nsIn K mainGlobals "check_elements" = some (some (.ref f_check_elements)))
    (l_check_elements : K.lookup f_check_elements = some ⟨oc_check_elements, od_check_elements, .func (PySem.W.fnOf "check_elements" "check_elements" (defArgs s_check_elements) (defBody s_check_elements) (defScope s_check_elements) .none kV_check_elements dc_check_elements pm_check_elements an_check_elements cd_check_elements ct_check_elements), sl_check_elements⟩)
    (c_check_elements : PySem.W.codeIn K cd_check_elements "check_elements" = true)
    (k_check_elements : PySem.W.keepIn K (.ref f_check_elements) = true)
    (a_are_arrows : PySem.W.nsIn K mainGlobals "are_arrows" = some (some (.ref f_are_arrows)))
    (l_are_arrows : K.lookup f_are_arrows = some ⟨oc_are_arrows, od_are_arrows, .func (PySem.W.fnOf "are_arrows" "are_arrows" (defArgs s_are_arrows) (defBody s_are_arrows) (defScope s_are_arrows) .none kV_are_arrows dc_are_arrows pm_are_arrows an_are_arrows cd_are_arrows ct_are_arrows), sl_are_arrows⟩)
    (c_are_arrows : PySem.W.codeIn K cd_are_arrows "are_arrows" = true)
    (k_are_arrows : PySem.W.keepIn K (.ref f_are_arrows) = true)
    (a_common_size : PySem.W.nsIn K mainGlobals "common_size" = some (some (.ref f_common_size)))
    (l_common_size : K.lookup f_common_size = some ⟨oc_common_size, od_common_size, .func (PySem.W.fnOf "common_size" "common_size" (defArgs s_common_size) (defBody s_common_size) (defScope s_common_size) .none kV_common_size dc_common_size pm_common_size an_common_size cd_common_size ct_common_size), sl_common_size⟩)
    (c_common_size : PySem.W.codeIn K cd_common_size "common_size" = true)
    (k_common_size : PySem.W.keepIn K (.ref f_common_size) = true)
    (a_row_from : PySem.W.nsIn K mainGlobals "row_from" = some (some (.ref f_row_from)))
    (l_row_from : K.lookup f_row_from = some ⟨oc_row_from, od_row_from, .func (PySem.W.fnOf "row_from" "row_from" (defArgs s_row_from) (defBody s_row_from) (defScope s_row_from) .none kV_row_from dc_row_from pm_row_from an_row_from cd_row_from ct_row_from), sl_row_from⟩)
    (c_row_from : PySem.W.codeIn K cd_row_from "row_from" = true)
    (k_row_from : PySem.W.keepIn K (.ref f_row_from) = true)
    (a_moved : PySem.W.nsIn K mainGlobals "moved" = some (some (.ref f_moved)))
    (l_moved : K.lookup f_moved = some ⟨oc_moved, od_moved, .func (PySem.W.fnOf "moved" "moved" (defArgs s_moved) (defBody s_moved) (defScope s_moved) .none kV_moved dc_moved pm_moved an_moved cd_moved ct_moved), sl_moved⟩)
    (c_moved : PySem.W.codeIn K cd_moved "moved" = true)
    (k_moved : PySem.W.keepIn K (.ref f_moved) = true)
    (a_check_map : PySem.W.nsIn K mainGlobals "check_map" = some (some (.ref f_check_map)))
    (l_check_map : K.lookup f_check_map = some ⟨oc_check_map, od_check_map, .func (PySem.W.fnOf "check_map" "check_map" (defArgs s_check_map) (defBody s_check_map) (defScope s_check_map) .none kV_check_map dc_check_map pm_check_map an_check_map cd_check_map ct_check_map), sl_check_map⟩)
    (c_check_map : PySem.W.codeIn K cd_check_map "check_map" = true)
    (k_check_map : PySem.W.keepIn K (.ref f_check_map) = true)
    (a_greatest_divisor : PySem.W.nsIn K mainGlobals "greatest_divisor" = some (some (.ref f_greatest_divisor)))
    (l_greatest_divisor : K.lookup f_greatest_divisor = some ⟨oc_greatest_divisor, od_greatest_divisor, .func (PySem.W.fnOf "greatest_divisor" "greatest_divisor" (defArgs s_greatest_divisor) (defBody s_greatest_divisor) (defScope s_greatest_divisor) .none kV_greatest_divisor dc_greatest_divisor pm_greatest_divisor an_greatest_divisor cd_greatest_divisor ct_greatest_divisor), sl_greatest_divisor⟩)
    (c_greatest_divisor : PySem.W.codeIn K cd_greatest_divisor "greatest_divisor" = true)
    (k_greatest_divisor : PySem.W.keepIn K (.ref f_greatest_divisor) = true)
    (a_parts_of : PySem.W.nsIn K mainGlobals "parts_of" = some (some (.ref f_parts_of)))
    (l_parts_of : K.lookup f_parts_of = some ⟨oc_parts_of, od_parts_of, .func (PySem.W.fnOf "parts_of" "parts_of" (defArgs s_parts_of) (defBody s_parts_of) (defScope s_parts_of) .none kV_parts_of dc_parts_of pm_parts_of an_parts_of cd_parts_of ct_parts_of), sl_parts_of⟩)
    (c_parts_of : PySem.W.codeIn K cd_parts_of "parts_of" = true)
    (k_parts_of : PySem.W.keepIn K (.ref f_parts_of) = true)
    (a_are_counts : PySem.W.nsIn K mainGlobals "are_counts" = some (some (.ref f_are_counts)))
    (l_are_counts : K.lookup f_are_counts = some ⟨oc_are_counts, od_are_counts, .func (PySem.W.fnOf "are_counts" "are_counts" (defArgs s_are_counts) (defBody s_are_counts) (defScope s_are_counts) .none kV_are_counts dc_are_counts pm_are_counts an_are_counts cd_are_counts ct_are_counts), sl_are_counts⟩)
    (c_are_counts : PySem.W.codeIn K cd_are_counts "are_counts" = true)
    (k_are_counts : PySem.W.keepIn K (.ref f_are_counts) = true)
    (a_ordered : PySem.W.nsIn K mainGlobals "ordered" = some (some (.ref f_ordered)))
    (l_ordered : K.lookup f_ordered = some ⟨oc_ordered, od_ordered, .func (PySem.W.fnOf "ordered" "ordered" (defArgs s_ordered) (defBody s_ordered) (defScope s_ordered) .none kV_ordered dc_ordered pm_ordered an_ordered cd_ordered ct_ordered), sl_ordered⟩)
    (c_ordered : PySem.W.codeIn K cd_ordered "ordered" = true)
    (k_ordered : PySem.W.keepIn K (.ref f_ordered) = true)
    (a_counts_of : PySem.W.nsIn K mainGlobals "counts_of" = some (some (.ref f_counts_of)))
    (l_counts_of : K.lookup f_counts_of = some ⟨oc_counts_of, od_counts_of, .func (PySem.W.fnOf "counts_of" "counts_of" (defArgs s_counts_of) (defBody s_counts_of) (defScope s_counts_of) .none kV_counts_of dc_counts_of pm_counts_of an_counts_of cd_counts_of ct_counts_of), sl_counts_of⟩)
    (c_counts_of : PySem.W.codeIn K cd_counts_of "counts_of" = true)
    (k_counts_of : PySem.W.keepIn K (.ref f_counts_of) = true)
    (a_shape_of : PySem.W.nsIn K mainGlobals "shape_of" = some (some (.ref f_shape_of)))
    (l_shape_of : K.lookup f_shape_of = some ⟨oc_shape_of, od_shape_of, .func (PySem.W.fnOf "shape_of" "shape_of" (defArgs s_shape_of) (defBody s_shape_of) (defScope s_shape_of) .none kV_shape_of dc_shape_of pm_shape_of an_shape_of cd_shape_of ct_shape_of), sl_shape_of⟩)
    (c_shape_of : PySem.W.codeIn K cd_shape_of "shape_of" = true)
    (k_shape_of : PySem.W.keepIn K (.ref f_shape_of) = true)
    (a_check_shape : PySem.W.nsIn K mainGlobals "check_shape" = some (some (.ref f_check_shape)))
    (l_check_shape : K.lookup f_check_shape = some ⟨oc_check_shape, od_check_shape, .func (PySem.W.fnOf "check_shape" "check_shape" (defArgs s_check_shape) (defBody s_check_shape) (defScope s_check_shape) .none kV_check_shape dc_check_shape pm_check_shape an_check_shape cd_check_shape ct_check_shape), sl_check_shape⟩)
    (c_check_shape : PySem.W.codeIn K cd_check_shape "check_shape" = true)
    (k_check_shape : PySem.W.keepIn K (.ref f_check_shape) = true)
    (a_check_degree : PySem.W.nsIn K mainGlobals "check_degree" = some (some (.ref f_check_degree)))
    (l_check_degree : K.lookup f_check_degree = some ⟨oc_check_degree, od_check_degree, .func (PySem.W.fnOf "check_degree" "check_degree" (defArgs s_check_degree) (defBody s_check_degree) (defScope s_check_degree) .none kV_check_degree dc_check_degree pm_check_degree an_check_degree cd_check_degree ct_check_degree), sl_check_degree⟩)
    (c_check_degree : PySem.W.codeIn K cd_check_degree "check_degree" = true)
    (k_check_degree : PySem.W.keepIn K (.ref f_check_degree) = true)
    (a_group_size : PySem.W.nsIn K mainGlobals "group_size" = some (some (.ref f_group_size)))
    (l_group_size : K.lookup f_group_size = some ⟨oc_group_size, od_group_size, .func (PySem.W.fnOf "group_size" "group_size" (defArgs s_group_size) (defBody s_group_size) (defScope s_group_size) .none kV_group_size dc_group_size pm_group_size an_group_size cd_group_size ct_group_size), sl_group_size⟩)
    (c_group_size : PySem.W.codeIn K cd_group_size "group_size" = true)
    (k_group_size : PySem.W.keepIn K (.ref f_group_size) = true)
    (a_failing_chains : PySem.W.nsIn K mainGlobals "failing_chains" = some (some (.ref f_failing_chains)))
    (l_failing_chains : K.lookup f_failing_chains = some ⟨oc_failing_chains, od_failing_chains, .func (PySem.W.fnOf "failing_chains" "failing_chains" (defArgs s_failing_chains) (defBody s_failing_chains) (defScope s_failing_chains) .none kV_failing_chains dc_failing_chains pm_failing_chains an_failing_chains cd_failing_chains ct_failing_chains), sl_failing_chains⟩)
    (c_failing_chains : PySem.W.codeIn K cd_failing_chains "failing_chains" = true)
    (k_failing_chains : PySem.W.keepIn K (.ref f_failing_chains) = true)
    (a_obstacle_of : PySem.W.nsIn K mainGlobals "obstacle_of" = some (some (.ref f_obstacle_of)))
    (l_obstacle_of : K.lookup f_obstacle_of = some ⟨oc_obstacle_of, od_obstacle_of, .func (PySem.W.fnOf "obstacle_of" "obstacle_of" (defArgs s_obstacle_of) (defBody s_obstacle_of) (defScope s_obstacle_of) .none kV_obstacle_of dc_obstacle_of pm_obstacle_of an_obstacle_of cd_obstacle_of ct_obstacle_of), sl_obstacle_of⟩)
    (c_obstacle_of : PySem.W.codeIn K cd_obstacle_of "obstacle_of" = true)
    (k_obstacle_of : PySem.W.keepIn K (.ref f_obstacle_of) = true)
    (a_has_root : PySem.W.nsIn K mainGlobals "has_root" = some (some (.ref f_has_root)))
    (l_has_root : K.lookup f_has_root = some ⟨oc_has_root, od_has_root, .func (PySem.W.fnOf "has_root" "has_root" (defArgs s_has_root) (defBody s_has_root) (defScope s_has_root) .none kV_has_root dc_has_root pm_has_root an_has_root cd_has_root ct_has_root), sl_has_root⟩)
    (c_has_root : PySem.W.codeIn K cd_has_root "has_root" = true)
    (k_has_root : PySem.W.keepIn K (.ref f_has_root) = true)
    (a_obstacle : PySem.W.nsIn K mainGlobals "obstacle" = some (some (.ref f_obstacle)))
    (l_obstacle : K.lookup f_obstacle = some ⟨oc_obstacle, od_obstacle, .func (PySem.W.fnOf "obstacle" "obstacle" (defArgs s_obstacle) (defBody s_obstacle) (defScope s_obstacle) .none kV_obstacle dc_obstacle pm_obstacle an_obstacle cd_obstacle ct_obstacle), sl_obstacle⟩)
    (c_obstacle : PySem.W.codeIn K cd_obstacle "obstacle" = true)
    (k_obstacle : PySem.W.keepIn K (.ref f_obstacle) = true)
    (a_is_obstacle : PySem.W.nsIn K mainGlobals "is_obstacle" = some (some (.ref f_is_obstacle)))
    (l_is_obstacle : K.lookup f_is_obstacle = some ⟨oc_is_obstacle, od_is_obstacle, .func (PySem.W.fnOf "is_obstacle" "is_obstacle" (defArgs s_is_obstacle) (defBody s_is_obstacle) (defScope s_is_obstacle) .none kV_is_obstacle dc_is_obstacle pm_is_obstacle an_is_obstacle cd_is_obstacle ct_is_obstacle), sl_is_obstacle⟩)
    (c_is_obstacle : PySem.W.codeIn K cd_is_obstacle "is_obstacle" = true)
    (k_is_obstacle : PySem.W.keepIn K (.ref f_is_obstacle) = true)
    (a_by_length : PySem.W.nsIn K mainGlobals "by_length" = some (some (.ref f_by_length)))
    (l_by_length : K.lookup f_by_length = some ⟨oc_by_length, od_by_length, .func (PySem.W.fnOf "by_length" "by_length" (defArgs s_by_length) (defBody s_by_length) (defScope s_by_length) .none kV_by_length dc_by_length pm_by_length an_by_length cd_by_length ct_by_length), sl_by_length⟩)
    (c_by_length : PySem.W.codeIn K cd_by_length "by_length" = true)
    (k_by_length : PySem.W.keepIn K (.ref f_by_length) = true)
    (a_cycle_root : PySem.W.nsIn K mainGlobals "cycle_root" = some (some (.ref f_cycle_root)))
    (l_cycle_root : K.lookup f_cycle_root = some ⟨oc_cycle_root, od_cycle_root, .func (PySem.W.fnOf "cycle_root" "cycle_root" (defArgs s_cycle_root) (defBody s_cycle_root) (defScope s_cycle_root) .none kV_cycle_root dc_cycle_root pm_cycle_root an_cycle_root cd_cycle_root ct_cycle_root), sl_cycle_root⟩)
    (c_cycle_root : PySem.W.codeIn K cd_cycle_root "cycle_root" = true)
    (k_cycle_root : PySem.W.keepIn K (.ref f_cycle_root) = true)
    (a_chain_root : PySem.W.nsIn K mainGlobals "chain_root" = some (some (.ref f_chain_root)))
    (l_chain_root : K.lookup f_chain_root = some ⟨oc_chain_root, od_chain_root, .func (PySem.W.fnOf "chain_root" "chain_root" (defArgs s_chain_root) (defBody s_chain_root) (defScope s_chain_root) .none kV_chain_root dc_chain_root pm_chain_root an_chain_root cd_chain_root ct_chain_root), sl_chain_root⟩)
    (c_chain_root : PySem.W.codeIn K cd_chain_root "chain_root" = true)
    (k_chain_root : PySem.W.keepIn K (.ref f_chain_root) = true)
    (a_chain_groups : PySem.W.nsIn K mainGlobals "chain_groups" = some (some (.ref f_chain_groups)))
    (l_chain_groups : K.lookup f_chain_groups = some ⟨oc_chain_groups, od_chain_groups, .func (PySem.W.fnOf "chain_groups" "chain_groups" (defArgs s_chain_groups) (defBody s_chain_groups) (defScope s_chain_groups) .none kV_chain_groups dc_chain_groups pm_chain_groups an_chain_groups cd_chain_groups ct_chain_groups), sl_chain_groups⟩)
    (c_chain_groups : PySem.W.codeIn K cd_chain_groups "chain_groups" = true)
    (k_chain_groups : PySem.W.keepIn K (.ref f_chain_groups) = true)
    (a_root : PySem.W.nsIn K mainGlobals "root" = some (some (.ref f_root)))
    (l_root : K.lookup f_root = some ⟨oc_root, od_root, .func (PySem.W.fnOf "root" "root" (defArgs s_root) (defBody s_root) (defScope s_root) .none kV_root dc_root pm_root an_root cd_root ct_root), sl_root⟩)
    (c_root : PySem.W.codeIn K cd_root "root" = true)
    (k_root : PySem.W.keepIn K (.ref f_root) = true)
    (a_is_root : PySem.W.nsIn K mainGlobals "is_root" = some (some (.ref f_is_root)))
    (l_is_root : K.lookup f_is_root = some ⟨oc_is_root, od_is_root, .func (PySem.W.fnOf "is_root" "is_root" (defArgs s_is_root) (defBody s_is_root) (defScope s_is_root) .none kV_is_root dc_is_root pm_is_root an_is_root cd_is_root ct_is_root), sl_is_root⟩)
    (c_is_root : PySem.W.codeIn K cd_is_root "is_root" = true)
    (k_is_root : PySem.W.keepIn K (.ref f_is_root) = true)
    (a_l_hand : PySem.W.nsIn K mainGlobals "_law_hand" = some (some (.ref f_l_hand)))
    (l_l_hand : K.lookup f_l_hand = some ⟨oc_l_hand, od_l_hand, .func (PySem.W.fnOf "_law_hand" "_law_hand" (defArgs s_l_hand) (defBody s_l_hand) (defScope s_l_hand) .none kV_l_hand dc_l_hand pm_l_hand an_l_hand cd_l_hand ct_l_hand), sl_l_hand⟩)
    (c_l_hand : PySem.W.codeIn K cd_l_hand "_law_hand" = true)
    (k_l_hand : PySem.W.keepIn K (.ref f_l_hand) = true)
    (a_l_draw : PySem.W.nsIn K mainGlobals "_law_draw" = some (some (.ref f_l_draw)))
    (l_l_draw : K.lookup f_l_draw = some ⟨oc_l_draw, od_l_draw, .func (PySem.W.fnOf "_law_draw" "_law_draw" (defArgs s_l_draw) (defBody s_l_draw) (defScope s_l_draw) .none kV_l_draw dc_l_draw pm_l_draw an_l_draw cd_l_draw ct_l_draw), sl_l_draw⟩)
    (c_l_draw : PySem.W.codeIn K cd_l_draw "_law_draw" = true)
    (k_l_draw : PySem.W.keepIn K (.ref f_l_draw) = true)
    (a_l_arrows : PySem.W.nsIn K mainGlobals "_law_arrows" = some (some (.ref f_l_arrows)))
    (l_l_arrows : K.lookup f_l_arrows = some ⟨oc_l_arrows, od_l_arrows, .func (PySem.W.fnOf "_law_arrows" "_law_arrows" (defArgs s_l_arrows) (defBody s_l_arrows) (defScope s_l_arrows) .none kV_l_arrows dc_l_arrows pm_l_arrows an_l_arrows cd_l_arrows ct_l_arrows), sl_l_arrows⟩)
    (c_l_arrows : PySem.W.codeIn K cd_l_arrows "_law_arrows" = true)
    (k_l_arrows : PySem.W.keepIn K (.ref f_l_arrows) = true)
    (a_l_map : PySem.W.nsIn K mainGlobals "_law_map" = some (some (.ref f_l_map)))
    (l_l_map : K.lookup f_l_map = some ⟨oc_l_map, od_l_map, .func (PySem.W.fnOf "_law_map" "_law_map" (defArgs s_l_map) (defBody s_l_map) (defScope s_l_map) .none kV_l_map dc_l_map pm_l_map an_l_map cd_l_map ct_l_map), sl_l_map⟩)
    (c_l_map : PySem.W.codeIn K cd_l_map "_law_map" = true)
    (k_l_map : PySem.W.keepIn K (.ref f_l_map) = true)
    (a_l_bent : PySem.W.nsIn K mainGlobals "_law_bent" = some (some (.ref f_l_bent)))
    (l_l_bent : K.lookup f_l_bent = some ⟨oc_l_bent, od_l_bent, .func (PySem.W.fnOf "_law_bent" "_law_bent" (defArgs s_l_bent) (defBody s_l_bent) (defScope s_l_bent) .none kV_l_bent dc_l_bent pm_l_bent an_l_bent cd_l_bent ct_l_bent), sl_l_bent⟩)
    (c_l_bent : PySem.W.codeIn K cd_l_bent "_law_bent" = true)
    (k_l_bent : PySem.W.keepIn K (.ref f_l_bent) = true)
    (a_law : PySem.W.nsIn K mainGlobals "law" = some (some (.ref f_law)))
    (l_law : K.lookup f_law = some ⟨oc_law, od_law, .func (PySem.W.fnOf "law" "law" (defArgs s_law) (defBody s_law) (defScope s_law) .none kV_law dc_law pm_law an_law cd_law ct_law), sl_law⟩)
    (c_law : PySem.W.codeIn K cd_law "law" = true)
    (k_law : PySem.W.keepIn K (.ref f_law) = true)
    (a_Shape : PySem.W.nsIn K mainGlobals "Shape" = some (some (.ref C_Shape)))
    (pg_Shape : PySem.W.plainGet K C_Shape Str.empty = true)
    (hd_Shape : PySem.W.hasDictIn K C_Shape = true)
    (po_Shape : PySem.W.plainOver K C_Shape = true)
    (sa_Shape : PySem.W.findIn K (.ref C_Shape) "__setattr__" = some (some (.builtin "object.__setattr__")))
    (sf_Shape : PySem.W.selfFirst K C_Shape = true)
    (ca_Shape : PySem.W.findIn K (.ref C_Shape) "__class__" = some (some (.builtin "object.__class__")))
    (cn_Shape : PySem.W.specialIn K (.builtin "object.__class__") "__get__" = some (some (.builtin "getset_descriptor.__get__")))
    (ct_Shape : PySem.W.takesIn K (.builtin "object.__class__") = some true)
    (cm_Shape : PySem.W.mroIn K C_Shape (.type "object") = some true)
    (kc_Shape : PySem.W.keepIn K (.ref C_Shape) = true)
    (kit_int_Shape : PySem.W.kitOne K (.ref C_Shape) (.type "int") = some false)
    (kit_bool_Shape : PySem.W.kitOne K (.ref C_Shape) (.type "bool") = some false)
    (kn_NoneType_Shape : PySem.W.kitOne K (.type "NoneType") (.ref C_Shape) = some false)
    (nf_NoneType_Shape : PySem.W.notFirst K C_Shape (.type "NoneType") = true)
    (kn_int_Shape : PySem.W.kitOne K (.type "int") (.ref C_Shape) = some false)
    (nf_int_Shape : PySem.W.notFirst K C_Shape (.type "int") = true)
    (kn_bool_Shape : PySem.W.kitOne K (.type "bool") (.ref C_Shape) = some false)
    (nf_bool_Shape : PySem.W.notFirst K C_Shape (.type "bool") = true)
    (kn_str_Shape : PySem.W.kitOne K (.type "str") (.ref C_Shape) = some false)
    (nf_str_Shape : PySem.W.notFirst K C_Shape (.type "str") = true)
    (kn_list_Shape : PySem.W.kitOne K (.type "list") (.ref C_Shape) = some false)
    (nf_list_Shape : PySem.W.notFirst K C_Shape (.type "list") = true)
    (kn_dict_Shape : PySem.W.kitOne K (.type "dict") (.ref C_Shape) = some false)
    (nf_dict_Shape : PySem.W.notFirst K C_Shape (.type "dict") = true)
    (kn_tuple_Shape : PySem.W.kitOne K (.type "tuple") (.ref C_Shape) = some false)
    (nf_tuple_Shape : PySem.W.notFirst K C_Shape (.type "tuple") = true)
    (self_Shape : PySem.W.kitOne K (.ref C_Shape) (.ref C_Shape) = some true)
    (na_own_cycles_Shape : PySem.W.findIn K (.ref C_Shape) "own_cycles" = some none)
    (na_own_chains_Shape : PySem.W.findIn K (.ref C_Shape) "own_chains" = some none)
    (m_Shape__init : PySem.W.findIn K (.ref C_Shape) "__init__" = some (some (.ref f_Shape__init)))
    (i_Shape__init : PySem.W.isFn K (.ref f_Shape__init) = true)
    (l_Shape__init : K.lookup f_Shape__init = some ⟨oc_Shape__init, od_Shape__init, .func (PySem.W.fnOf "__init__" "Shape.__init__" (defArgs s_Shape__init) (defBody s_Shape__init) (defScope s_Shape__init) .none kV_Shape__init dc_Shape__init pm_Shape__init an_Shape__init cd_Shape__init ct_Shape__init), sl_Shape__init⟩)
    (c_Shape__init : PySem.W.codeIn K cd_Shape__init "Shape.__init__" = true)
    (k_Shape__init : PySem.W.keepIn K (.ref f_Shape__init) = true)
    (mk_Shape : PySem.W.makesIn K C_Shape = true)
    (m_Shape_cycles : PySem.W.findIn K (.ref C_Shape) "cycles" = some (some (.ref p_Shape_cycles)))
    (s_get_Shape_cycles : PySem.W.specialIn K (.ref p_Shape_cycles) "__get__" = some (some (.builtin "property.__get__")))
    (tk_Shape_cycles : PySem.W.takesIn K (.ref p_Shape_cycles) = some true)
    (rc_Shape_cycles : PySem.W.recIn K p_Shape_cycles "property" = some (.ref f_Shape_cycles :: r_Shape_cycles))
    (l_Shape_cycles : K.lookup f_Shape_cycles = some ⟨oc_Shape_cycles, od_Shape_cycles, .func (PySem.W.fnOf "cycles" "Shape.cycles" (defArgs s_Shape_cycles) (defBody s_Shape_cycles) (defScope s_Shape_cycles) .none kV_Shape_cycles dc_Shape_cycles pm_Shape_cycles an_Shape_cycles cd_Shape_cycles ct_Shape_cycles), sl_Shape_cycles⟩)
    (c_Shape_cycles : PySem.W.codeIn K cd_Shape_cycles "Shape.cycles" = true)
    (k_Shape_cycles : PySem.W.keepIn K (.ref f_Shape_cycles) = true)
    (m_Shape_chains : PySem.W.findIn K (.ref C_Shape) "chains" = some (some (.ref p_Shape_chains)))
    (s_get_Shape_chains : PySem.W.specialIn K (.ref p_Shape_chains) "__get__" = some (some (.builtin "property.__get__")))
    (tk_Shape_chains : PySem.W.takesIn K (.ref p_Shape_chains) = some true)
    (rc_Shape_chains : PySem.W.recIn K p_Shape_chains "property" = some (.ref f_Shape_chains :: r_Shape_chains))
    (l_Shape_chains : K.lookup f_Shape_chains = some ⟨oc_Shape_chains, od_Shape_chains, .func (PySem.W.fnOf "chains" "Shape.chains" (defArgs s_Shape_chains) (defBody s_Shape_chains) (defScope s_Shape_chains) .none kV_Shape_chains dc_Shape_chains pm_Shape_chains an_Shape_chains cd_Shape_chains ct_Shape_chains), sl_Shape_chains⟩)
    (c_Shape_chains : PySem.W.codeIn K cd_Shape_chains "Shape.chains" = true)
    (k_Shape_chains : PySem.W.keepIn K (.ref f_Shape_chains) = true)
    (a_Map : PySem.W.nsIn K mainGlobals "Map" = some (some (.ref C_Map)))
    (pg_Map : PySem.W.plainGet K C_Map Str.empty = true)
    (hd_Map : PySem.W.hasDictIn K C_Map = true)
    (po_Map : PySem.W.plainOver K C_Map = true)
    (sa_Map : PySem.W.findIn K (.ref C_Map) "__setattr__" = some (some (.builtin "object.__setattr__")))
    (sf_Map : PySem.W.selfFirst K C_Map = true)
    (ca_Map : PySem.W.findIn K (.ref C_Map) "__class__" = some (some (.builtin "object.__class__")))
    (cn_Map : PySem.W.specialIn K (.builtin "object.__class__") "__get__" = some (some (.builtin "getset_descriptor.__get__")))
    (ct_Map : PySem.W.takesIn K (.builtin "object.__class__") = some true)
    (cm_Map : PySem.W.mroIn K C_Map (.type "object") = some true)
    (kc_Map : PySem.W.keepIn K (.ref C_Map) = true)
    (kit_int_Map : PySem.W.kitOne K (.ref C_Map) (.type "int") = some false)
    (kit_bool_Map : PySem.W.kitOne K (.ref C_Map) (.type "bool") = some false)
    (kit_tuple_Map : PySem.W.kitOne K (.ref C_Map) (.type "tuple") = some false)
    (kn_NoneType_Map : PySem.W.kitOne K (.type "NoneType") (.ref C_Map) = some false)
    (nf_NoneType_Map : PySem.W.notFirst K C_Map (.type "NoneType") = true)
    (kn_int_Map : PySem.W.kitOne K (.type "int") (.ref C_Map) = some false)
    (nf_int_Map : PySem.W.notFirst K C_Map (.type "int") = true)
    (kn_bool_Map : PySem.W.kitOne K (.type "bool") (.ref C_Map) = some false)
    (nf_bool_Map : PySem.W.notFirst K C_Map (.type "bool") = true)
    (kn_str_Map : PySem.W.kitOne K (.type "str") (.ref C_Map) = some false)
    (nf_str_Map : PySem.W.notFirst K C_Map (.type "str") = true)
    (kn_list_Map : PySem.W.kitOne K (.type "list") (.ref C_Map) = some false)
    (nf_list_Map : PySem.W.notFirst K C_Map (.type "list") = true)
    (kn_dict_Map : PySem.W.kitOne K (.type "dict") (.ref C_Map) = some false)
    (nf_dict_Map : PySem.W.notFirst K C_Map (.type "dict") = true)
    (kn_tuple_Map : PySem.W.kitOne K (.type "tuple") (.ref C_Map) = some false)
    (nf_tuple_Map : PySem.W.notFirst K C_Map (.type "tuple") = true)
    (self_Map : PySem.W.kitOne K (.ref C_Map) (.ref C_Map) = some true)
    (na_own_size_Map : PySem.W.findIn K (.ref C_Map) "own_size" = some none)
    (na_own_arrows_Map : PySem.W.findIn K (.ref C_Map) "own_arrows" = some none)
    (ne_Map : PySem.W.findIn K (.ref C_Map) "__ne__" = some (some (.builtin "object.__ne__")))
    (m_Map__eq : PySem.W.findIn K (.ref C_Map) "__eq__" = some (some (.ref f_Map__eq)))
    (i_Map__eq : PySem.W.isFn K (.ref f_Map__eq) = true)
    (l_Map__eq : K.lookup f_Map__eq = some ⟨oc_Map__eq, od_Map__eq, .func (PySem.W.fnOf "__eq__" "Map.__eq__" (defArgs s_Map__eq) (defBody s_Map__eq) (defScope s_Map__eq) .none kV_Map__eq dc_Map__eq pm_Map__eq an_Map__eq cd_Map__eq ct_Map__eq), sl_Map__eq⟩)
    (c_Map__eq : PySem.W.codeIn K cd_Map__eq "Map.__eq__" = true)
    (k_Map__eq : PySem.W.keepIn K (.ref f_Map__eq) = true)
    (m_Map__init : PySem.W.findIn K (.ref C_Map) "__init__" = some (some (.ref f_Map__init)))
    (i_Map__init : PySem.W.isFn K (.ref f_Map__init) = true)
    (l_Map__init : K.lookup f_Map__init = some ⟨oc_Map__init, od_Map__init, .func (PySem.W.fnOf "__init__" "Map.__init__" (defArgs s_Map__init) (defBody s_Map__init) (defScope s_Map__init) .none kV_Map__init dc_Map__init pm_Map__init an_Map__init cd_Map__init ct_Map__init), sl_Map__init⟩)
    (c_Map__init : PySem.W.codeIn K cd_Map__init "Map.__init__" = true)
    (k_Map__init : PySem.W.keepIn K (.ref f_Map__init) = true)
    (mk_Map : PySem.W.makesIn K C_Map = true)
    (rd_Map : PySem.W.readsIn K C_Map (.type "type") = true)
    (ga_Map : PySem.W.specialIn K (.ref C_Map) "__getattribute__" = some (some (.builtin "type.__getattribute__")))
    (at_Map_identity : PySem.W.findCls K (.ref C_Map) (.type "type") "identity" = some (.get (.builtin "classmethod.__get__") (.ref p_Map_identity) .none (.ref C_Map)))
    (rc_Map_identity : PySem.W.recIn K p_Map_identity "classmethod" = some (.ref f_Map_identity :: r_Map_identity))
    (fi_Map_identity : PySem.W.fnIn K f_Map_identity = true)
    (l_Map_identity : K.lookup f_Map_identity = some ⟨oc_Map_identity, od_Map_identity, .func (PySem.W.fnOf "identity" "Map.identity" (defArgs s_Map_identity) (defBody s_Map_identity) (defScope s_Map_identity) .none kV_Map_identity dc_Map_identity pm_Map_identity an_Map_identity cd_Map_identity ct_Map_identity), sl_Map_identity⟩)
    (c_Map_identity : PySem.W.codeIn K cd_Map_identity "Map.identity" = true)
    (k_Map_identity : PySem.W.keepIn K (.ref f_Map_identity) = true)
    (at_Map_empty : PySem.W.findCls K (.ref C_Map) (.type "type") "empty" = some (.get (.builtin "classmethod.__get__") (.ref p_Map_empty) .none (.ref C_Map)))
    (rc_Map_empty : PySem.W.recIn K p_Map_empty "classmethod" = some (.ref f_Map_empty :: r_Map_empty))
    (fi_Map_empty : PySem.W.fnIn K f_Map_empty = true)
    (l_Map_empty : K.lookup f_Map_empty = some ⟨oc_Map_empty, od_Map_empty, .func (PySem.W.fnOf "empty" "Map.empty" (defArgs s_Map_empty) (defBody s_Map_empty) (defScope s_Map_empty) .none kV_Map_empty dc_Map_empty pm_Map_empty an_Map_empty cd_Map_empty ct_Map_empty), sl_Map_empty⟩)
    (c_Map_empty : PySem.W.codeIn K cd_Map_empty "Map.empty" = true)
    (k_Map_empty : PySem.W.keepIn K (.ref f_Map_empty) = true)
    (at_Map_swap : PySem.W.findCls K (.ref C_Map) (.type "type") "swap" = some (.get (.builtin "classmethod.__get__") (.ref p_Map_swap) .none (.ref C_Map)))
    (rc_Map_swap : PySem.W.recIn K p_Map_swap "classmethod" = some (.ref f_Map_swap :: r_Map_swap))
    (fi_Map_swap : PySem.W.fnIn K f_Map_swap = true)
    (l_Map_swap : K.lookup f_Map_swap = some ⟨oc_Map_swap, od_Map_swap, .func (PySem.W.fnOf "swap" "Map.swap" (defArgs s_Map_swap) (defBody s_Map_swap) (defScope s_Map_swap) .none kV_Map_swap dc_Map_swap pm_Map_swap an_Map_swap cd_Map_swap ct_Map_swap), sl_Map_swap⟩)
    (c_Map_swap : PySem.W.codeIn K cd_Map_swap "Map.swap" = true)
    (k_Map_swap : PySem.W.keepIn K (.ref f_Map_swap) = true)
    (m_Map_size : PySem.W.findIn K (.ref C_Map) "size" = some (some (.ref p_Map_size)))
    (s_get_Map_size : PySem.W.specialIn K (.ref p_Map_size) "__get__" = some (some (.builtin "property.__get__")))
    (tk_Map_size : PySem.W.takesIn K (.ref p_Map_size) = some true)
    (rc_Map_size : PySem.W.recIn K p_Map_size "property" = some (.ref f_Map_size :: r_Map_size))
    (l_Map_size : K.lookup f_Map_size = some ⟨oc_Map_size, od_Map_size, .func (PySem.W.fnOf "size" "Map.size" (defArgs s_Map_size) (defBody s_Map_size) (defScope s_Map_size) .none kV_Map_size dc_Map_size pm_Map_size an_Map_size cd_Map_size ct_Map_size), sl_Map_size⟩)
    (c_Map_size : PySem.W.codeIn K cd_Map_size "Map.size" = true)
    (k_Map_size : PySem.W.keepIn K (.ref f_Map_size) = true)
    (m_Map_arrows : PySem.W.findIn K (.ref C_Map) "arrows" = some (some (.ref p_Map_arrows)))
    (s_get_Map_arrows : PySem.W.specialIn K (.ref p_Map_arrows) "__get__" = some (some (.builtin "property.__get__")))
    (tk_Map_arrows : PySem.W.takesIn K (.ref p_Map_arrows) = some true)
    (rc_Map_arrows : PySem.W.recIn K p_Map_arrows "property" = some (.ref f_Map_arrows :: r_Map_arrows))
    (l_Map_arrows : K.lookup f_Map_arrows = some ⟨oc_Map_arrows, od_Map_arrows, .func (PySem.W.fnOf "arrows" "Map.arrows" (defArgs s_Map_arrows) (defBody s_Map_arrows) (defScope s_Map_arrows) .none kV_Map_arrows dc_Map_arrows pm_Map_arrows an_Map_arrows cd_Map_arrows ct_Map_arrows), sl_Map_arrows⟩)
    (c_Map_arrows : PySem.W.codeIn K cd_Map_arrows "Map.arrows" = true)
    (k_Map_arrows : PySem.W.keepIn K (.ref f_Map_arrows) = true)
    (m_Map__mul : PySem.W.findIn K (.ref C_Map) "__mul__" = some (some (.ref f_Map__mul)))
    (i_Map__mul : PySem.W.isFn K (.ref f_Map__mul) = true)
    (l_Map__mul : K.lookup f_Map__mul = some ⟨oc_Map__mul, od_Map__mul, .func (PySem.W.fnOf "__mul__" "Map.__mul__" (defArgs s_Map__mul) (defBody s_Map__mul) (defScope s_Map__mul) .none kV_Map__mul dc_Map__mul pm_Map__mul an_Map__mul cd_Map__mul ct_Map__mul), sl_Map__mul⟩)
    (c_Map__mul : PySem.W.codeIn K cd_Map__mul "Map.__mul__" = true)
    (k_Map__mul : PySem.W.keepIn K (.ref f_Map__mul) = true)
    (m_Map__invert : PySem.W.findIn K (.ref C_Map) "__invert__" = some (some (.ref f_Map__invert)))
    (i_Map__invert : PySem.W.isFn K (.ref f_Map__invert) = true)
    (l_Map__invert : K.lookup f_Map__invert = some ⟨oc_Map__invert, od_Map__invert, .func (PySem.W.fnOf "__invert__" "Map.__invert__" (defArgs s_Map__invert) (defBody s_Map__invert) (defScope s_Map__invert) .none kV_Map__invert dc_Map__invert pm_Map__invert an_Map__invert cd_Map__invert ct_Map__invert), sl_Map__invert⟩)
    (c_Map__invert : PySem.W.codeIn K cd_Map__invert "Map.__invert__" = true)
    (k_Map__invert : PySem.W.keepIn K (.ref f_Map__invert) = true)
    (m_Map__repr : PySem.W.findIn K (.ref C_Map) "__repr__" = some (some (.ref f_Map__repr)))
    (i_Map__repr : PySem.W.isFn K (.ref f_Map__repr) = true)
    (l_Map__repr : K.lookup f_Map__repr = some ⟨oc_Map__repr, od_Map__repr, .func (PySem.W.fnOf "__repr__" "Map.__repr__" (defArgs s_Map__repr) (defBody s_Map__repr) (defScope s_Map__repr) .none kV_Map__repr dc_Map__repr pm_Map__repr an_Map__repr cd_Map__repr ct_Map__repr), sl_Map__repr⟩)
    (c_Map__repr : PySem.W.codeIn K cd_Map__repr "Map.__repr__" = true)
    (k_Map__repr : PySem.W.keepIn K (.ref f_Map__repr) = true)
    (m_Map_power : PySem.W.findIn K (.ref C_Map) "power" = some (some (.ref f_Map_power)))
    (i_Map_power : PySem.W.isFn K (.ref f_Map_power) = true)
    (l_Map_power : K.lookup f_Map_power = some ⟨oc_Map_power, od_Map_power, .func (PySem.W.fnOf "power" "Map.power" (defArgs s_Map_power) (defBody s_Map_power) (defScope s_Map_power) .none kV_Map_power dc_Map_power pm_Map_power an_Map_power cd_Map_power ct_Map_power), sl_Map_power⟩)
    (c_Map_power : PySem.W.codeIn K cd_Map_power "Map.power" = true)
    (k_Map_power : PySem.W.keepIn K (.ref f_Map_power) = true)
    (a_InvalidMap : PySem.W.nsIn K mainGlobals "InvalidMap" = some (some (.ref C_InvalidMap)))
    (xl_InvalidMap : K.lookup C_InvalidMap = some (excClassObj nm_InvalidMap q_InvalidMap C_InvalidMap N_InvalidMap bs_InvalidMap [.type "ValueError", .type "Exception", .type "BaseException", .type "object"] true sn_InvalidMap sub_InvalidMap ab_InvalidMap col_InvalidMap dd_InvalidMap m0_InvalidMap m1_InvalidMap m2_InvalidMap m3_InvalidMap m5_InvalidMap "ValueError.__new__"))
    (sa_InvalidMap : PySem.W.findIn K (.ref C_InvalidMap) "__setattr__" = some (some (.builtin "object.__setattr__")))
    (ex_InvalidMap : PySem.W.subIn K (.ref C_InvalidMap) (.type "BaseException") = some true)
    (ty_InvalidMap : PySem.W.typeIn K (.ref C_InvalidMap) = some (.type "type"))
    (kc_InvalidMap : PySem.W.keepIn K (.ref C_InvalidMap) = true)
    (hd_InvalidMap : PySem.W.hasDictIn K C_InvalidMap = true)
    (ga_InvalidMap : PySem.W.findIn K (.ref C_InvalidMap) "__getattribute__" = some (some (.builtin "BaseException.__getattribute__")))
    (gg_InvalidMap : PySem.W.findIn K (.ref C_InvalidMap) "__getattr__" = some none)
    (ss_InvalidMap : PySem.W.subIn K (.ref C_InvalidMap) (.ref C_InvalidMap) = some true)
    (ca_InvalidMap : PySem.W.findIn K (.ref C_InvalidMap) "__class__" = some (some (.builtin "object.__class__")))
    (cn_InvalidMap : PySem.W.specialIn K (.builtin "object.__class__") "__get__" = some (some (.builtin "getset_descriptor.__get__")))
    (ct_InvalidMap : PySem.W.takesIn K (.builtin "object.__class__") = some true)
    (cm_InvalidMap : PySem.W.mroIn K C_InvalidMap (.type "object") = some true)
    (kit_ValueError_InvalidMap : PySem.W.kitOne K (.ref C_InvalidMap) (.type "ValueError") = some true)
    (na_part_InvalidMap : PySem.W.findIn K (.ref C_InvalidMap) "part" = some none)
    (m_InvalidMap__init : PySem.W.findIn K (.ref C_InvalidMap) "__init__" = some (some (.ref f_InvalidMap__init)))
    (ti_InvalidMap__init : PySem.W.typeIn K (.ref f_InvalidMap__init) = some (.type "function"))
    (l_InvalidMap__init : K.lookup f_InvalidMap__init = some ⟨oc_InvalidMap__init, od_InvalidMap__init, .func (PySem.W.fnOf "__init__" "InvalidMap.__init__" (defArgs s_InvalidMap__init) (defBody s_InvalidMap__init) (defScope s_InvalidMap__init) .none kV_InvalidMap__init dc_InvalidMap__init pm_InvalidMap__init an_InvalidMap__init cd_InvalidMap__init ct_InvalidMap__init), sl_InvalidMap__init⟩)
    (c_InvalidMap__init : PySem.W.codeIn K cd_InvalidMap__init "InvalidMap.__init__" = true)
    (k_InvalidMap__init : PySem.W.keepIn K (.ref f_InvalidMap__init) = true)
    (a_InvalidNumber : PySem.W.nsIn K mainGlobals "InvalidNumber" = some (some (.ref C_InvalidNumber)))
    (xl_InvalidNumber : K.lookup C_InvalidNumber = some (excClassObj nm_InvalidNumber q_InvalidNumber C_InvalidNumber N_InvalidNumber bs_InvalidNumber [.type "ValueError", .type "Exception", .type "BaseException", .type "object"] true sn_InvalidNumber sub_InvalidNumber ab_InvalidNumber col_InvalidNumber dd_InvalidNumber m0_InvalidNumber m1_InvalidNumber m2_InvalidNumber m3_InvalidNumber m5_InvalidNumber "ValueError.__new__"))
    (sa_InvalidNumber : PySem.W.findIn K (.ref C_InvalidNumber) "__setattr__" = some (some (.builtin "object.__setattr__")))
    (ex_InvalidNumber : PySem.W.subIn K (.ref C_InvalidNumber) (.type "BaseException") = some true)
    (ty_InvalidNumber : PySem.W.typeIn K (.ref C_InvalidNumber) = some (.type "type"))
    (kc_InvalidNumber : PySem.W.keepIn K (.ref C_InvalidNumber) = true)
    (hd_InvalidNumber : PySem.W.hasDictIn K C_InvalidNumber = true)
    (ga_InvalidNumber : PySem.W.findIn K (.ref C_InvalidNumber) "__getattribute__" = some (some (.builtin "BaseException.__getattribute__")))
    (gg_InvalidNumber : PySem.W.findIn K (.ref C_InvalidNumber) "__getattr__" = some none)
    (ss_InvalidNumber : PySem.W.subIn K (.ref C_InvalidNumber) (.ref C_InvalidNumber) = some true)
    (ca_InvalidNumber : PySem.W.findIn K (.ref C_InvalidNumber) "__class__" = some (some (.builtin "object.__class__")))
    (cn_InvalidNumber : PySem.W.specialIn K (.builtin "object.__class__") "__get__" = some (some (.builtin "getset_descriptor.__get__")))
    (ct_InvalidNumber : PySem.W.takesIn K (.builtin "object.__class__") = some true)
    (cm_InvalidNumber : PySem.W.mroIn K C_InvalidNumber (.type "object") = some true)
    (kit_ValueError_InvalidNumber : PySem.W.kitOne K (.ref C_InvalidNumber) (.type "ValueError") = some true)
    (na_value_InvalidNumber : PySem.W.findIn K (.ref C_InvalidNumber) "value" = some none)
    (m_InvalidNumber__init : PySem.W.findIn K (.ref C_InvalidNumber) "__init__" = some (some (.ref f_InvalidNumber__init)))
    (ti_InvalidNumber__init : PySem.W.typeIn K (.ref f_InvalidNumber__init) = some (.type "function"))
    (l_InvalidNumber__init : K.lookup f_InvalidNumber__init = some ⟨oc_InvalidNumber__init, od_InvalidNumber__init, .func (PySem.W.fnOf "__init__" "InvalidNumber.__init__" (defArgs s_InvalidNumber__init) (defBody s_InvalidNumber__init) (defScope s_InvalidNumber__init) .none kV_InvalidNumber__init dc_InvalidNumber__init pm_InvalidNumber__init an_InvalidNumber__init cd_InvalidNumber__init ct_InvalidNumber__init), sl_InvalidNumber__init⟩)
    (c_InvalidNumber__init : PySem.W.codeIn K cd_InvalidNumber__init "InvalidNumber.__init__" = true)
    (k_InvalidNumber__init : PySem.W.keepIn K (.ref f_InvalidNumber__init) = true)
    (a_InvalidSize : PySem.W.nsIn K mainGlobals "InvalidSize" = some (some (.ref C_InvalidSize)))
    (xl_InvalidSize : K.lookup C_InvalidSize = some (excClassObj nm_InvalidSize q_InvalidSize C_InvalidSize N_InvalidSize bs_InvalidSize [.type "ValueError", .type "Exception", .type "BaseException", .type "object"] true sn_InvalidSize sub_InvalidSize ab_InvalidSize col_InvalidSize dd_InvalidSize m0_InvalidSize m1_InvalidSize m2_InvalidSize m3_InvalidSize m5_InvalidSize "ValueError.__new__"))
    (sa_InvalidSize : PySem.W.findIn K (.ref C_InvalidSize) "__setattr__" = some (some (.builtin "object.__setattr__")))
    (ex_InvalidSize : PySem.W.subIn K (.ref C_InvalidSize) (.type "BaseException") = some true)
    (ty_InvalidSize : PySem.W.typeIn K (.ref C_InvalidSize) = some (.type "type"))
    (kc_InvalidSize : PySem.W.keepIn K (.ref C_InvalidSize) = true)
    (hd_InvalidSize : PySem.W.hasDictIn K C_InvalidSize = true)
    (ga_InvalidSize : PySem.W.findIn K (.ref C_InvalidSize) "__getattribute__" = some (some (.builtin "BaseException.__getattribute__")))
    (gg_InvalidSize : PySem.W.findIn K (.ref C_InvalidSize) "__getattr__" = some none)
    (ss_InvalidSize : PySem.W.subIn K (.ref C_InvalidSize) (.ref C_InvalidSize) = some true)
    (ca_InvalidSize : PySem.W.findIn K (.ref C_InvalidSize) "__class__" = some (some (.builtin "object.__class__")))
    (cn_InvalidSize : PySem.W.specialIn K (.builtin "object.__class__") "__get__" = some (some (.builtin "getset_descriptor.__get__")))
    (ct_InvalidSize : PySem.W.takesIn K (.builtin "object.__class__") = some true)
    (cm_InvalidSize : PySem.W.mroIn K C_InvalidSize (.type "object") = some true)
    (kit_ValueError_InvalidSize : PySem.W.kitOne K (.ref C_InvalidSize) (.type "ValueError") = some true)
    (na_value_InvalidSize : PySem.W.findIn K (.ref C_InvalidSize) "value" = some none)
    (m_InvalidSize__init : PySem.W.findIn K (.ref C_InvalidSize) "__init__" = some (some (.ref f_InvalidSize__init)))
    (ti_InvalidSize__init : PySem.W.typeIn K (.ref f_InvalidSize__init) = some (.type "function"))
    (l_InvalidSize__init : K.lookup f_InvalidSize__init = some ⟨oc_InvalidSize__init, od_InvalidSize__init, .func (PySem.W.fnOf "__init__" "InvalidSize.__init__" (defArgs s_InvalidSize__init) (defBody s_InvalidSize__init) (defScope s_InvalidSize__init) .none kV_InvalidSize__init dc_InvalidSize__init pm_InvalidSize__init an_InvalidSize__init cd_InvalidSize__init ct_InvalidSize__init), sl_InvalidSize__init⟩)
    (c_InvalidSize__init : PySem.W.codeIn K cd_InvalidSize__init "InvalidSize.__init__" = true)
    (k_InvalidSize__init : PySem.W.keepIn K (.ref f_InvalidSize__init) = true)
    (a_InvalidElement : PySem.W.nsIn K mainGlobals "InvalidElement" = some (some (.ref C_InvalidElement)))
    (xl_InvalidElement : K.lookup C_InvalidElement = some (excClassObj nm_InvalidElement q_InvalidElement C_InvalidElement N_InvalidElement bs_InvalidElement [.type "ValueError", .type "Exception", .type "BaseException", .type "object"] true sn_InvalidElement sub_InvalidElement ab_InvalidElement col_InvalidElement dd_InvalidElement m0_InvalidElement m1_InvalidElement m2_InvalidElement m3_InvalidElement m5_InvalidElement "ValueError.__new__"))
    (sa_InvalidElement : PySem.W.findIn K (.ref C_InvalidElement) "__setattr__" = some (some (.builtin "object.__setattr__")))
    (ex_InvalidElement : PySem.W.subIn K (.ref C_InvalidElement) (.type "BaseException") = some true)
    (ty_InvalidElement : PySem.W.typeIn K (.ref C_InvalidElement) = some (.type "type"))
    (kc_InvalidElement : PySem.W.keepIn K (.ref C_InvalidElement) = true)
    (hd_InvalidElement : PySem.W.hasDictIn K C_InvalidElement = true)
    (ga_InvalidElement : PySem.W.findIn K (.ref C_InvalidElement) "__getattribute__" = some (some (.builtin "BaseException.__getattribute__")))
    (gg_InvalidElement : PySem.W.findIn K (.ref C_InvalidElement) "__getattr__" = some none)
    (ss_InvalidElement : PySem.W.subIn K (.ref C_InvalidElement) (.ref C_InvalidElement) = some true)
    (ca_InvalidElement : PySem.W.findIn K (.ref C_InvalidElement) "__class__" = some (some (.builtin "object.__class__")))
    (cn_InvalidElement : PySem.W.specialIn K (.builtin "object.__class__") "__get__" = some (some (.builtin "getset_descriptor.__get__")))
    (ct_InvalidElement : PySem.W.takesIn K (.builtin "object.__class__") = some true)
    (cm_InvalidElement : PySem.W.mroIn K C_InvalidElement (.type "object") = some true)
    (kit_ValueError_InvalidElement : PySem.W.kitOne K (.ref C_InvalidElement) (.type "ValueError") = some true)
    (na_value_InvalidElement : PySem.W.findIn K (.ref C_InvalidElement) "value" = some none)
    (m_InvalidElement__init : PySem.W.findIn K (.ref C_InvalidElement) "__init__" = some (some (.ref f_InvalidElement__init)))
    (ti_InvalidElement__init : PySem.W.typeIn K (.ref f_InvalidElement__init) = some (.type "function"))
    (l_InvalidElement__init : K.lookup f_InvalidElement__init = some ⟨oc_InvalidElement__init, od_InvalidElement__init, .func (PySem.W.fnOf "__init__" "InvalidElement.__init__" (defArgs s_InvalidElement__init) (defBody s_InvalidElement__init) (defScope s_InvalidElement__init) .none kV_InvalidElement__init dc_InvalidElement__init pm_InvalidElement__init an_InvalidElement__init cd_InvalidElement__init ct_InvalidElement__init), sl_InvalidElement__init⟩)
    (c_InvalidElement__init : PySem.W.codeIn K cd_InvalidElement__init "InvalidElement.__init__" = true)
    (k_InvalidElement__init : PySem.W.keepIn K (.ref f_InvalidElement__init) = true)
    (a_InvalidShape : PySem.W.nsIn K mainGlobals "InvalidShape" = some (some (.ref C_InvalidShape)))
    (xl_InvalidShape : K.lookup C_InvalidShape = some (excClassObj nm_InvalidShape q_InvalidShape C_InvalidShape N_InvalidShape bs_InvalidShape [.type "ValueError", .type "Exception", .type "BaseException", .type "object"] true sn_InvalidShape sub_InvalidShape ab_InvalidShape col_InvalidShape dd_InvalidShape m0_InvalidShape m1_InvalidShape m2_InvalidShape m3_InvalidShape m5_InvalidShape "ValueError.__new__"))
    (sa_InvalidShape : PySem.W.findIn K (.ref C_InvalidShape) "__setattr__" = some (some (.builtin "object.__setattr__")))
    (ex_InvalidShape : PySem.W.subIn K (.ref C_InvalidShape) (.type "BaseException") = some true)
    (ty_InvalidShape : PySem.W.typeIn K (.ref C_InvalidShape) = some (.type "type"))
    (kc_InvalidShape : PySem.W.keepIn K (.ref C_InvalidShape) = true)
    (hd_InvalidShape : PySem.W.hasDictIn K C_InvalidShape = true)
    (ga_InvalidShape : PySem.W.findIn K (.ref C_InvalidShape) "__getattribute__" = some (some (.builtin "BaseException.__getattribute__")))
    (gg_InvalidShape : PySem.W.findIn K (.ref C_InvalidShape) "__getattr__" = some none)
    (ss_InvalidShape : PySem.W.subIn K (.ref C_InvalidShape) (.ref C_InvalidShape) = some true)
    (ca_InvalidShape : PySem.W.findIn K (.ref C_InvalidShape) "__class__" = some (some (.builtin "object.__class__")))
    (cn_InvalidShape : PySem.W.specialIn K (.builtin "object.__class__") "__get__" = some (some (.builtin "getset_descriptor.__get__")))
    (ct_InvalidShape : PySem.W.takesIn K (.builtin "object.__class__") = some true)
    (cm_InvalidShape : PySem.W.mroIn K C_InvalidShape (.type "object") = some true)
    (kit_ValueError_InvalidShape : PySem.W.kitOne K (.ref C_InvalidShape) (.type "ValueError") = some true)
    (na_part_InvalidShape : PySem.W.findIn K (.ref C_InvalidShape) "part" = some none)
    (m_InvalidShape__init : PySem.W.findIn K (.ref C_InvalidShape) "__init__" = some (some (.ref f_InvalidShape__init)))
    (ti_InvalidShape__init : PySem.W.typeIn K (.ref f_InvalidShape__init) = some (.type "function"))
    (l_InvalidShape__init : K.lookup f_InvalidShape__init = some ⟨oc_InvalidShape__init, od_InvalidShape__init, .func (PySem.W.fnOf "__init__" "InvalidShape.__init__" (defArgs s_InvalidShape__init) (defBody s_InvalidShape__init) (defScope s_InvalidShape__init) .none kV_InvalidShape__init dc_InvalidShape__init pm_InvalidShape__init an_InvalidShape__init cd_InvalidShape__init ct_InvalidShape__init), sl_InvalidShape__init⟩)
    (c_InvalidShape__init : PySem.W.codeIn K cd_InvalidShape__init "InvalidShape.__init__" = true)
    (k_InvalidShape__init : PySem.W.keepIn K (.ref f_InvalidShape__init) = true)
    (a_SizeMismatch : PySem.W.nsIn K mainGlobals "SizeMismatch" = some (some (.ref C_SizeMismatch)))
    (xl_SizeMismatch : K.lookup C_SizeMismatch = some (excClassObj nm_SizeMismatch q_SizeMismatch C_SizeMismatch N_SizeMismatch bs_SizeMismatch [.type "ValueError", .type "Exception", .type "BaseException", .type "object"] true sn_SizeMismatch sub_SizeMismatch ab_SizeMismatch col_SizeMismatch dd_SizeMismatch m0_SizeMismatch m1_SizeMismatch m2_SizeMismatch m3_SizeMismatch m5_SizeMismatch "ValueError.__new__"))
    (sa_SizeMismatch : PySem.W.findIn K (.ref C_SizeMismatch) "__setattr__" = some (some (.builtin "object.__setattr__")))
    (ex_SizeMismatch : PySem.W.subIn K (.ref C_SizeMismatch) (.type "BaseException") = some true)
    (ty_SizeMismatch : PySem.W.typeIn K (.ref C_SizeMismatch) = some (.type "type"))
    (kc_SizeMismatch : PySem.W.keepIn K (.ref C_SizeMismatch) = true)
    (hd_SizeMismatch : PySem.W.hasDictIn K C_SizeMismatch = true)
    (ga_SizeMismatch : PySem.W.findIn K (.ref C_SizeMismatch) "__getattribute__" = some (some (.builtin "BaseException.__getattribute__")))
    (gg_SizeMismatch : PySem.W.findIn K (.ref C_SizeMismatch) "__getattr__" = some none)
    (ss_SizeMismatch : PySem.W.subIn K (.ref C_SizeMismatch) (.ref C_SizeMismatch) = some true)
    (ca_SizeMismatch : PySem.W.findIn K (.ref C_SizeMismatch) "__class__" = some (some (.builtin "object.__class__")))
    (cn_SizeMismatch : PySem.W.specialIn K (.builtin "object.__class__") "__get__" = some (some (.builtin "getset_descriptor.__get__")))
    (ct_SizeMismatch : PySem.W.takesIn K (.builtin "object.__class__") = some true)
    (cm_SizeMismatch : PySem.W.mroIn K C_SizeMismatch (.type "object") = some true)
    (kit_ValueError_SizeMismatch : PySem.W.kitOne K (.ref C_SizeMismatch) (.type "ValueError") = some true)
    (na_first_SizeMismatch : PySem.W.findIn K (.ref C_SizeMismatch) "first" = some none)
    (na_second_SizeMismatch : PySem.W.findIn K (.ref C_SizeMismatch) "second" = some none)
    (m_SizeMismatch__init : PySem.W.findIn K (.ref C_SizeMismatch) "__init__" = some (some (.ref f_SizeMismatch__init)))
    (ti_SizeMismatch__init : PySem.W.typeIn K (.ref f_SizeMismatch__init) = some (.type "function"))
    (l_SizeMismatch__init : K.lookup f_SizeMismatch__init = some ⟨oc_SizeMismatch__init, od_SizeMismatch__init, .func (PySem.W.fnOf "__init__" "SizeMismatch.__init__" (defArgs s_SizeMismatch__init) (defBody s_SizeMismatch__init) (defScope s_SizeMismatch__init) .none kV_SizeMismatch__init dc_SizeMismatch__init pm_SizeMismatch__init an_SizeMismatch__init cd_SizeMismatch__init ct_SizeMismatch__init), sl_SizeMismatch__init⟩)
    (c_SizeMismatch__init : PySem.W.codeIn K cd_SizeMismatch__init "SizeMismatch.__init__" = true)
    (k_SizeMismatch__init : PySem.W.keepIn K (.ref f_SizeMismatch__init) = true)
    (z_isinstance : PySem.W.nsIn K mainGlobals "isinstance" = some none)
    (z_int : PySem.W.nsIn K mainGlobals "int" = some none)
    (z_bool : PySem.W.nsIn K mainGlobals "bool" = some none)
    (z_dict : PySem.W.nsIn K mainGlobals "dict" = some none)
    (z_len : PySem.W.nsIn K mainGlobals "len" = some none)
    (z_range : PySem.W.nsIn K mainGlobals "range" = some none)
    (z_list : PySem.W.nsIn K mainGlobals "list" = some none)
    (z_tuple : PySem.W.nsIn K mainGlobals "tuple" = some none)
    (z_max : PySem.W.nsIn K mainGlobals "max" = some none)
    (z_min : PySem.W.nsIn K mainGlobals "min" = some none)
    (z_all : PySem.W.nsIn K mainGlobals "all" = some none)
    (z_sorted : PySem.W.nsIn K mainGlobals "sorted" = some none)
    (z_abs : PySem.W.nsIn K mainGlobals "abs" = some none)
    (z_enumerate : PySem.W.nsIn K mainGlobals "enumerate" = some none)
    (z_repr : PySem.W.nsIn K mainGlobals "repr" = some none)
    (z_zip : PySem.W.nsIn K mainGlobals "zip" = some none)
    (v_MAX_SIZE : PySem.W.nsIn K mainGlobals "MAX_SIZE" = some (some (.int 300 t_MAX_SIZE)))
    (v_MAX_DEGREE : PySem.W.nsIn K mainGlobals "MAX_DEGREE" = some (some (.int 1000000000000000000000000000000 t_MAX_DEGREE)))
    (kit_x_Shape_Map : PySem.W.kitOne K (.ref C_Map) (.ref C_Shape) = some false) :
    Nonempty (Txt K mg) := ⟨{
    f_is_integer := f_is_integer,
    A_is_integer := ⟨_, fun_mk (st := s_is_integer) l_is_integer c_is_integer k_is_integer, (fun_mk (st := s_is_integer) l_is_integer c_is_integer k_is_integer).binds (ps := ["value"]) fun _ _ _ _ _ _ us hl => match us, hl with | [_], _ => rfl⟩,
    g_is_integer := PySem.W.mg_of X G a_is_integer,
    f_in_range := f_in_range,
    A_in_range := ⟨_, fun_mk (st := s_in_range) l_in_range c_in_range k_in_range, (fun_mk (st := s_in_range) l_in_range c_in_range k_in_range).binds (ps := ["value", "least", "most"]) fun _ _ _ _ _ _ us hl => match us, hl with | [_, _, _], _ => rfl⟩,
    g_in_range := PySem.W.mg_of X G a_in_range,
    f_check_size := f_check_size,
    A_check_size := ⟨_, fun_mk (st := s_check_size) l_check_size c_check_size k_check_size, (fun_mk (st := s_check_size) l_check_size c_check_size k_check_size).binds (ps := ["size"]) fun _ _ _ _ _ _ us hl => match us, hl with | [_], _ => rfl⟩,
    g_check_size := PySem.W.mg_of X G a_check_size,
    f_check_elements := f_check_elements,
    A_check_elements := ⟨_, fun_mk (st := s_check_elements) l_check_elements c_check_elements k_check_elements, (fun_mk (st := s_check_elements) l_check_elements c_check_elements k_check_elements).binds (ps := ["size", "points"]) fun _ _ _ _ _ _ us hl => match us, hl with | [_, _], _ => rfl⟩,
    g_check_elements := PySem.W.mg_of X G a_check_elements,
    f_are_arrows := f_are_arrows,
    A_are_arrows := ⟨_, fun_mk (st := s_are_arrows) l_are_arrows c_are_arrows k_are_arrows, (fun_mk (st := s_are_arrows) l_are_arrows c_are_arrows k_are_arrows).binds (ps := ["size", "arrows"]) fun _ _ _ _ _ _ us hl => match us, hl with | [_, _], _ => rfl⟩,
    g_are_arrows := PySem.W.mg_of X G a_are_arrows,
    f_common_size := f_common_size,
    A_common_size := ⟨_, fun_mk (st := s_common_size) l_common_size c_common_size k_common_size, (fun_mk (st := s_common_size) l_common_size c_common_size k_common_size).binds (ps := ["one", "other"]) fun _ _ _ _ _ _ us hl => match us, hl with | [_, _], _ => rfl⟩,
    g_common_size := PySem.W.mg_of X G a_common_size,
    f_row_from := f_row_from,
    A_row_from := ⟨_, fun_mk (st := s_row_from) l_row_from c_row_from k_row_from, (fun_mk (st := s_row_from) l_row_from c_row_from k_row_from).binds (ps := ["arrows", "element"]) fun _ _ _ _ _ _ us hl => match us, hl with | [_, _], _ => rfl⟩,
    g_row_from := PySem.W.mg_of X G a_row_from,
    f_moved := f_moved,
    A_moved := ⟨_, fun_mk (st := s_moved) l_moved c_moved k_moved, (fun_mk (st := s_moved) l_moved c_moved k_moved).binds (ps := ["arrows", "steps"]) fun _ _ _ _ _ _ us hl => match us, hl with | [_, _], _ => rfl⟩,
    g_moved := PySem.W.mg_of X G a_moved,
    f_check_map := f_check_map,
    A_check_map := ⟨_, fun_mk (st := s_check_map) l_check_map c_check_map k_check_map, (fun_mk (st := s_check_map) l_check_map c_check_map k_check_map).binds (ps := ["value"]) fun _ _ _ _ _ _ us hl => match us, hl with | [_], _ => rfl⟩,
    g_check_map := PySem.W.mg_of X G a_check_map,
    f_greatest_divisor := f_greatest_divisor,
    A_greatest_divisor := ⟨_, fun_mk (st := s_greatest_divisor) l_greatest_divisor c_greatest_divisor k_greatest_divisor, (fun_mk (st := s_greatest_divisor) l_greatest_divisor c_greatest_divisor k_greatest_divisor).binds (ps := ["one", "other"]) fun _ _ _ _ _ _ us hl => match us, hl with | [_, _], _ => rfl⟩,
    g_greatest_divisor := PySem.W.mg_of X G a_greatest_divisor,
    f_parts_of := f_parts_of,
    A_parts_of := ⟨_, fun_mk (st := s_parts_of) l_parts_of c_parts_of k_parts_of, (fun_mk (st := s_parts_of) l_parts_of c_parts_of k_parts_of).binds (ps := ["given"]) fun _ _ _ _ _ _ us hl => match us, hl with | [_], _ => rfl⟩,
    g_parts_of := PySem.W.mg_of X G a_parts_of,
    f_are_counts := f_are_counts,
    A_are_counts := ⟨_, fun_mk (st := s_are_counts) l_are_counts c_are_counts k_are_counts, (fun_mk (st := s_are_counts) l_are_counts c_are_counts k_are_counts).binds (ps := ["value"]) fun _ _ _ _ _ _ us hl => match us, hl with | [_], _ => rfl⟩,
    g_are_counts := PySem.W.mg_of X G a_are_counts,
    f_ordered := f_ordered,
    A_ordered := ⟨_, fun_mk (st := s_ordered) l_ordered c_ordered k_ordered, (fun_mk (st := s_ordered) l_ordered c_ordered k_ordered).binds (ps := ["counts"]) fun _ _ _ _ _ _ us hl => match us, hl with | [_], _ => rfl⟩,
    g_ordered := PySem.W.mg_of X G a_ordered,
    f_counts_of := f_counts_of,
    A_counts_of := ⟨_, fun_mk (st := s_counts_of) l_counts_of c_counts_of k_counts_of, (fun_mk (st := s_counts_of) l_counts_of c_counts_of k_counts_of).binds (ps := ["parts"]) fun _ _ _ _ _ _ us hl => match us, hl with | [_], _ => rfl⟩,
    g_counts_of := PySem.W.mg_of X G a_counts_of,
    f_shape_of := f_shape_of,
    A_shape_of := ⟨_, fun_mk (st := s_shape_of) l_shape_of c_shape_of k_shape_of, (fun_mk (st := s_shape_of) l_shape_of c_shape_of k_shape_of).binds (ps := ["given"]) fun _ _ _ _ _ _ us hl => match us, hl with | [_], _ => rfl⟩,
    g_shape_of := PySem.W.mg_of X G a_shape_of,
    f_check_shape := f_check_shape,
    A_check_shape := ⟨_, fun_mk (st := s_check_shape) l_check_shape c_check_shape k_check_shape, (fun_mk (st := s_check_shape) l_check_shape c_check_shape k_check_shape).binds (ps := ["value"]) fun _ _ _ _ _ _ us hl => match us, hl with | [_], _ => rfl⟩,
    g_check_shape := PySem.W.mg_of X G a_check_shape,
    f_check_degree := f_check_degree,
    A_check_degree := ⟨_, fun_mk (st := s_check_degree) l_check_degree c_check_degree k_check_degree, (fun_mk (st := s_check_degree) l_check_degree c_check_degree k_check_degree).binds (ps := ["degree"]) fun _ _ _ _ _ _ us hl => match us, hl with | [_], _ => rfl⟩,
    g_check_degree := PySem.W.mg_of X G a_check_degree,
    f_group_size := f_group_size,
    A_group_size := ⟨_, fun_mk (st := s_group_size) l_group_size c_group_size k_group_size, (fun_mk (st := s_group_size) l_group_size c_group_size k_group_size).binds (ps := ["length", "degree"]) fun _ _ _ _ _ _ us hl => match us, hl with | [_, _], _ => rfl⟩,
    g_group_size := PySem.W.mg_of X G a_group_size,
    f_failing_chains := f_failing_chains,
    A_failing_chains := ⟨_, fun_mk (st := s_failing_chains) l_failing_chains c_failing_chains k_failing_chains, (fun_mk (st := s_failing_chains) l_failing_chains c_failing_chains k_failing_chains).binds (ps := ["chains", "degree"]) fun _ _ _ _ _ _ us hl => match us, hl with | [_, _], _ => rfl⟩,
    g_failing_chains := PySem.W.mg_of X G a_failing_chains,
    f_obstacle_of := f_obstacle_of,
    A_obstacle_of := ⟨_, fun_mk (st := s_obstacle_of) l_obstacle_of c_obstacle_of k_obstacle_of, (fun_mk (st := s_obstacle_of) l_obstacle_of c_obstacle_of k_obstacle_of).binds (ps := ["shape", "degree"]) fun _ _ _ _ _ _ us hl => match us, hl with | [_, _], _ => rfl⟩,
    g_obstacle_of := PySem.W.mg_of X G a_obstacle_of,
    f_has_root := f_has_root,
    A_has_root := ⟨_, fun_mk (st := s_has_root) l_has_root c_has_root k_has_root, (fun_mk (st := s_has_root) l_has_root c_has_root k_has_root).binds (ps := ["shape", "degree"]) fun _ _ _ _ _ _ us hl => match us, hl with | [_, _], _ => rfl⟩,
    g_has_root := PySem.W.mg_of X G a_has_root,
    f_obstacle := f_obstacle,
    A_obstacle := ⟨_, fun_mk (st := s_obstacle) l_obstacle c_obstacle k_obstacle, (fun_mk (st := s_obstacle) l_obstacle c_obstacle k_obstacle).binds (ps := ["given", "degree"]) fun _ _ _ _ _ _ us hl => match us, hl with | [_, _], _ => rfl⟩,
    g_obstacle := PySem.W.mg_of X G a_obstacle,
    f_is_obstacle := f_is_obstacle,
    A_is_obstacle := ⟨_, fun_mk (st := s_is_obstacle) l_is_obstacle c_is_obstacle k_is_obstacle, (fun_mk (st := s_is_obstacle) l_is_obstacle c_is_obstacle k_is_obstacle).binds (ps := ["given", "degree", "value"]) fun _ _ _ _ _ _ us hl => match us, hl with | [_, _, _], _ => rfl⟩,
    g_is_obstacle := PySem.W.mg_of X G a_is_obstacle,
    f_by_length := f_by_length,
    A_by_length := ⟨_, fun_mk (st := s_by_length) l_by_length c_by_length k_by_length, (fun_mk (st := s_by_length) l_by_length c_by_length k_by_length).binds (ps := ["parts"]) fun _ _ _ _ _ _ us hl => match us, hl with | [_], _ => rfl⟩,
    g_by_length := PySem.W.mg_of X G a_by_length,
    f_cycle_root := f_cycle_root,
    A_cycle_root := ⟨_, fun_mk (st := s_cycle_root) l_cycle_root c_cycle_root k_cycle_root, (fun_mk (st := s_cycle_root) l_cycle_root c_cycle_root k_cycle_root).binds (ps := ["group", "degree"]) fun _ _ _ _ _ _ us hl => match us, hl with | [_, _], _ => rfl⟩,
    g_cycle_root := PySem.W.mg_of X G a_cycle_root,
    f_chain_root := f_chain_root,
    A_chain_root := ⟨_, fun_mk (st := s_chain_root) l_chain_root c_chain_root k_chain_root, (fun_mk (st := s_chain_root) l_chain_root c_chain_root k_chain_root).binds (ps := ["group"]) fun _ _ _ _ _ _ us hl => match us, hl with | [_], _ => rfl⟩,
    g_chain_root := PySem.W.mg_of X G a_chain_root,
    f_chain_groups := f_chain_groups,
    A_chain_groups := ⟨_, fun_mk (st := s_chain_groups) l_chain_groups c_chain_groups k_chain_groups, (fun_mk (st := s_chain_groups) l_chain_groups c_chain_groups k_chain_groups).binds (ps := ["chains", "degree"]) fun _ _ _ _ _ _ us hl => match us, hl with | [_, _], _ => rfl⟩,
    g_chain_groups := PySem.W.mg_of X G a_chain_groups,
    f_root := f_root,
    A_root := ⟨_, fun_mk (st := s_root) l_root c_root k_root, (fun_mk (st := s_root) l_root c_root k_root).binds (ps := ["given", "degree"]) fun _ _ _ _ _ _ us hl => match us, hl with | [_, _], _ => rfl⟩,
    g_root := PySem.W.mg_of X G a_root,
    f_is_root := f_is_root,
    A_is_root := ⟨_, fun_mk (st := s_is_root) l_is_root c_is_root k_is_root, (fun_mk (st := s_is_root) l_is_root c_is_root k_is_root).binds (ps := ["given", "degree", "value"]) fun _ _ _ _ _ _ us hl => match us, hl with | [_, _, _], _ => rfl⟩,
    g_is_root := PySem.W.mg_of X G a_is_root,
    f_l_hand := f_l_hand,
    A_l_hand := ⟨_, fun_mk (st := s_l_hand) l_l_hand c_l_hand k_l_hand, (fun_mk (st := s_l_hand) l_l_hand c_l_hand k_l_hand).binds (ps := ["_law_script", "_law_k"]) fun _ _ _ _ _ _ us hl => match us, hl with | [_, _], _ => rfl⟩,
    g_l_hand := PySem.W.mg_of X G a_l_hand,
    f_l_draw := f_l_draw,
    A_l_draw := ⟨_, fun_mk (st := s_l_draw) l_l_draw c_l_draw k_l_draw, (fun_mk (st := s_l_draw) l_l_draw c_l_draw k_l_draw).binds (ps := ["_law_pool", "_law_size"]) fun _ _ _ _ _ _ us hl => match us, hl with | [_, _], _ => rfl⟩,
    g_l_draw := PySem.W.mg_of X G a_l_draw,
    f_l_arrows := f_l_arrows,
    A_l_arrows := ⟨_, fun_mk (st := s_l_arrows) l_l_arrows c_l_arrows k_l_arrows, (fun_mk (st := s_l_arrows) l_l_arrows c_l_arrows k_l_arrows).binds (ps := ["_law_pool", "_law_size", "_law_way"]) fun _ _ _ _ _ _ us hl => match us, hl with | [_, _, _], _ => rfl⟩,
    g_l_arrows := PySem.W.mg_of X G a_l_arrows,
    f_l_map := f_l_map,
    A_l_map := ⟨_, fun_mk (st := s_l_map) l_l_map c_l_map k_l_map, (fun_mk (st := s_l_map) l_l_map c_l_map k_l_map).binds (ps := ["_law_pool", "_law_size"]) fun _ _ _ _ _ _ us hl => match us, hl with | [_, _], _ => rfl⟩,
    g_l_map := PySem.W.mg_of X G a_l_map,
    f_l_bent := f_l_bent,
    A_l_bent := ⟨_, fun_mk (st := s_l_bent) l_l_bent c_l_bent k_l_bent, (fun_mk (st := s_l_bent) l_l_bent c_l_bent k_l_bent).binds (ps := ["_law_pool", "_law_told"]) fun _ _ _ _ _ _ us hl => match us, hl with | [_, _], _ => rfl⟩,
    g_l_bent := PySem.W.mg_of X G a_l_bent,
    f_law := f_law,
    A_law := ⟨_, fun_mk (st := s_law) l_law c_law k_law, (fun_mk (st := s_law) l_law c_law k_law).binds (ps := ["_law_script"]) fun _ _ _ _ _ _ us hl => match us, hl with | [_], _ => rfl⟩,
    L_law := ⟨_, fun_mk (st := s_law) l_law c_law k_law, fun s v => .of_eq rfl⟩,
    g_law := PySem.W.mg_of X G a_law,
    C_Shape := C_Shape,
    g_Shape := PySem.W.mg_of X G a_Shape,
    o_Shape := ⟨⟨pg_Shape, hd_Shape, po_Shape, sa_Shape⟩, sf_Shape, ca_Shape, cn_Shape, ct_Shape, cm_Shape⟩,
    kit_int_Shape := kit_int_Shape,
    kit_bool_Shape := kit_bool_Shape,
    kn_NoneType_Shape := kn_NoneType_Shape,
    nf_NoneType_Shape := nf_NoneType_Shape,
    kn_int_Shape := kn_int_Shape,
    nf_int_Shape := nf_int_Shape,
    kn_bool_Shape := kn_bool_Shape,
    nf_bool_Shape := nf_bool_Shape,
    kn_str_Shape := kn_str_Shape,
    nf_str_Shape := nf_str_Shape,
    kn_list_Shape := kn_list_Shape,
    nf_list_Shape := nf_list_Shape,
    kn_dict_Shape := kn_dict_Shape,
    nf_dict_Shape := nf_dict_Shape,
    kn_tuple_Shape := kn_tuple_Shape,
    nf_tuple_Shape := nf_tuple_Shape,
    self_Shape := self_Shape,
    na_own_cycles_Shape := na_own_cycles_Shape,
    na_own_chains_Shape := na_own_chains_Shape,
    f_Shape__init := f_Shape__init,
    A_Shape__init := ⟨_, fun_mk (st := s_Shape__init) l_Shape__init c_Shape__init k_Shape__init, (fun_mk (st := s_Shape__init) l_Shape__init c_Shape__init k_Shape__init).binds (ps := ["self", "cycles", "chains"]) fun _ _ _ _ _ _ us hl => match us, hl with | [_, _, _], _ => rfl⟩,
    m_Shape__init := m_Shape__init,
    i_Shape__init := i_Shape__init,
    M_Shape := ⟨mk_Shape, m_Shape__init, i_Shape__init, kc_Shape⟩,
    p_Shape_cycles := p_Shape_cycles,
    f_Shape_cycles := f_Shape_cycles,
    A_Shape_cycles := ⟨_, fun_mk (st := s_Shape_cycles) l_Shape_cycles c_Shape_cycles k_Shape_cycles, (fun_mk (st := s_Shape_cycles) l_Shape_cycles c_Shape_cycles k_Shape_cycles).binds (ps := ["self"]) fun _ _ _ _ _ _ us hl => match us, hl with | [_], _ => rfl⟩,
    P_Shape_cycles := ⟨m_Shape_cycles, s_get_Shape_cycles, tk_Shape_cycles, _, rc_Shape_cycles⟩,
    p_Shape_chains := p_Shape_chains,
    f_Shape_chains := f_Shape_chains,
    A_Shape_chains := ⟨_, fun_mk (st := s_Shape_chains) l_Shape_chains c_Shape_chains k_Shape_chains, (fun_mk (st := s_Shape_chains) l_Shape_chains c_Shape_chains k_Shape_chains).binds (ps := ["self"]) fun _ _ _ _ _ _ us hl => match us, hl with | [_], _ => rfl⟩,
    P_Shape_chains := ⟨m_Shape_chains, s_get_Shape_chains, tk_Shape_chains, _, rc_Shape_chains⟩,
    C_Map := C_Map,
    g_Map := PySem.W.mg_of X G a_Map,
    o_Map := ⟨⟨pg_Map, hd_Map, po_Map, sa_Map⟩, sf_Map, ca_Map, cn_Map, ct_Map, cm_Map⟩,
    kit_int_Map := kit_int_Map,
    kit_bool_Map := kit_bool_Map,
    kit_tuple_Map := kit_tuple_Map,
    kn_NoneType_Map := kn_NoneType_Map,
    nf_NoneType_Map := nf_NoneType_Map,
    kn_int_Map := kn_int_Map,
    nf_int_Map := nf_int_Map,
    kn_bool_Map := kn_bool_Map,
    nf_bool_Map := nf_bool_Map,
    kn_str_Map := kn_str_Map,
    nf_str_Map := nf_str_Map,
    kn_list_Map := kn_list_Map,
    nf_list_Map := nf_list_Map,
    kn_dict_Map := kn_dict_Map,
    nf_dict_Map := nf_dict_Map,
    kn_tuple_Map := kn_tuple_Map,
    nf_tuple_Map := nf_tuple_Map,
    kx_Map_Shape := kit_x_Shape_Map,
    self_Map := self_Map,
    na_own_size_Map := na_own_size_Map,
    na_own_arrows_Map := na_own_arrows_Map,
    ne_Map := ne_Map,
    f_Map__eq := f_Map__eq,
    A_Map__eq := ⟨_, fun_mk (st := s_Map__eq) l_Map__eq c_Map__eq k_Map__eq, (fun_mk (st := s_Map__eq) l_Map__eq c_Map__eq k_Map__eq).binds (ps := ["self", "other"]) fun _ _ _ _ _ _ us hl => match us, hl with | [_, _], _ => rfl⟩,
    m_Map__eq := m_Map__eq,
    i_Map__eq := i_Map__eq,
    f_Map__init := f_Map__init,
    A_Map__init := ⟨_, fun_mk (st := s_Map__init) l_Map__init c_Map__init k_Map__init, (fun_mk (st := s_Map__init) l_Map__init c_Map__init k_Map__init).binds (ps := ["self", "size", "arrows"]) fun _ _ _ _ _ _ us hl => match us, hl with | [_, _, _], _ => rfl⟩,
    m_Map__init := m_Map__init,
    i_Map__init := i_Map__init,
    M_Map := ⟨mk_Map, m_Map__init, i_Map__init, kc_Map⟩,
    R_Map := ⟨rd_Map, ga_Map⟩,
    p_Map_identity := p_Map_identity,
    f_Map_identity := f_Map_identity,
    A_Map_identity := ⟨_, fun_mk (st := s_Map_identity) l_Map_identity c_Map_identity k_Map_identity, (fun_mk (st := s_Map_identity) l_Map_identity c_Map_identity k_Map_identity).binds (ps := ["cls", "size"]) fun _ _ _ _ _ _ us hl => match us, hl with | [_, _], _ => rfl⟩,
    cm_Map_identity := ⟨at_Map_identity, ⟨_, rc_Map_identity⟩, fi_Map_identity⟩,
    p_Map_empty := p_Map_empty,
    f_Map_empty := f_Map_empty,
    A_Map_empty := ⟨_, fun_mk (st := s_Map_empty) l_Map_empty c_Map_empty k_Map_empty, (fun_mk (st := s_Map_empty) l_Map_empty c_Map_empty k_Map_empty).binds (ps := ["cls", "size"]) fun _ _ _ _ _ _ us hl => match us, hl with | [_, _], _ => rfl⟩,
    cm_Map_empty := ⟨at_Map_empty, ⟨_, rc_Map_empty⟩, fi_Map_empty⟩,
    p_Map_swap := p_Map_swap,
    f_Map_swap := f_Map_swap,
    A_Map_swap := ⟨_, fun_mk (st := s_Map_swap) l_Map_swap c_Map_swap k_Map_swap, (fun_mk (st := s_Map_swap) l_Map_swap c_Map_swap k_Map_swap).binds (ps := ["cls", "size", "one", "other"]) fun _ _ _ _ _ _ us hl => match us, hl with | [_, _, _, _], _ => rfl⟩,
    cm_Map_swap := ⟨at_Map_swap, ⟨_, rc_Map_swap⟩, fi_Map_swap⟩,
    p_Map_size := p_Map_size,
    f_Map_size := f_Map_size,
    A_Map_size := ⟨_, fun_mk (st := s_Map_size) l_Map_size c_Map_size k_Map_size, (fun_mk (st := s_Map_size) l_Map_size c_Map_size k_Map_size).binds (ps := ["self"]) fun _ _ _ _ _ _ us hl => match us, hl with | [_], _ => rfl⟩,
    P_Map_size := ⟨m_Map_size, s_get_Map_size, tk_Map_size, _, rc_Map_size⟩,
    p_Map_arrows := p_Map_arrows,
    f_Map_arrows := f_Map_arrows,
    A_Map_arrows := ⟨_, fun_mk (st := s_Map_arrows) l_Map_arrows c_Map_arrows k_Map_arrows, (fun_mk (st := s_Map_arrows) l_Map_arrows c_Map_arrows k_Map_arrows).binds (ps := ["self"]) fun _ _ _ _ _ _ us hl => match us, hl with | [_], _ => rfl⟩,
    P_Map_arrows := ⟨m_Map_arrows, s_get_Map_arrows, tk_Map_arrows, _, rc_Map_arrows⟩,
    f_Map__mul := f_Map__mul,
    A_Map__mul := ⟨_, fun_mk (st := s_Map__mul) l_Map__mul c_Map__mul k_Map__mul, (fun_mk (st := s_Map__mul) l_Map__mul c_Map__mul k_Map__mul).binds (ps := ["self", "other"]) fun _ _ _ _ _ _ us hl => match us, hl with | [_, _], _ => rfl⟩,
    m_Map__mul := m_Map__mul,
    i_Map__mul := i_Map__mul,
    f_Map__invert := f_Map__invert,
    A_Map__invert := ⟨_, fun_mk (st := s_Map__invert) l_Map__invert c_Map__invert k_Map__invert, (fun_mk (st := s_Map__invert) l_Map__invert c_Map__invert k_Map__invert).binds (ps := ["self"]) fun _ _ _ _ _ _ us hl => match us, hl with | [_], _ => rfl⟩,
    m_Map__invert := m_Map__invert,
    i_Map__invert := i_Map__invert,
    f_Map__repr := f_Map__repr,
    A_Map__repr := ⟨_, fun_mk (st := s_Map__repr) l_Map__repr c_Map__repr k_Map__repr, (fun_mk (st := s_Map__repr) l_Map__repr c_Map__repr k_Map__repr).binds (ps := ["self"]) fun _ _ _ _ _ _ us hl => match us, hl with | [_], _ => rfl⟩,
    m_Map__repr := m_Map__repr,
    i_Map__repr := i_Map__repr,
    f_Map_power := f_Map_power,
    A_Map_power := ⟨_, fun_mk (st := s_Map_power) l_Map_power c_Map_power k_Map_power, (fun_mk (st := s_Map_power) l_Map_power c_Map_power k_Map_power).binds (ps := ["self", "exponent"]) fun _ _ _ _ _ _ us hl => match us, hl with | [_, _], _ => rfl⟩,
    m_Map_power := m_Map_power,
    i_Map_power := i_Map_power,
    meth_Map_power := ⟨m_Map_power, i_Map_power, k_Map_power⟩,
    C_InvalidMap := C_InvalidMap,
    g_InvalidMap := PySem.W.mg_of X G a_InvalidMap,
    x_InvalidMap := ⟨⟨"ValueError", _, _, _, _, _, _, _, _, _, _, _, _, _, _, _, _, _, _, PySem.F.store_ValueError, PySem.F.excBase_ValueError, xl_InvalidMap, by decide +kernel⟩, sa_InvalidMap, ex_InvalidMap, ty_InvalidMap, kc_InvalidMap⟩,
    xf_InvalidMap := ⟨ga_InvalidMap, gg_InvalidMap, ex_InvalidMap, hd_InvalidMap⟩,
    xe_InvalidMap := ⟨ga_InvalidMap, gg_InvalidMap, ex_InvalidMap, hd_InvalidMap, ca_InvalidMap, cn_InvalidMap, ct_InvalidMap, cm_InvalidMap⟩,
    te_InvalidMap := PySem.W.exm_ref ex_InvalidMap hd_InvalidMap ty_InvalidMap ss_InvalidMap,
    kit_ValueError_InvalidMap := kit_ValueError_InvalidMap,
    na_part_InvalidMap := na_part_InvalidMap,
    f_InvalidMap__init := f_InvalidMap__init,
    A_InvalidMap__init := ⟨_, fun_mk (st := s_InvalidMap__init) l_InvalidMap__init c_InvalidMap__init k_InvalidMap__init, (fun_mk (st := s_InvalidMap__init) l_InvalidMap__init c_InvalidMap__init k_InvalidMap__init).binds (ps := ["self", "part"]) fun _ _ _ _ _ _ us hl => match us, hl with | [_, _], _ => rfl⟩,
    m_InvalidMap__init := m_InvalidMap__init,
    ti_InvalidMap__init := ti_InvalidMap__init,
    C_InvalidNumber := C_InvalidNumber,
    g_InvalidNumber := PySem.W.mg_of X G a_InvalidNumber,
    x_InvalidNumber := ⟨⟨"ValueError", _, _, _, _, _, _, _, _, _, _, _, _, _, _, _, _, _, _, PySem.F.store_ValueError, PySem.F.excBase_ValueError, xl_InvalidNumber, by decide +kernel⟩, sa_InvalidNumber, ex_InvalidNumber, ty_InvalidNumber, kc_InvalidNumber⟩,
    xf_InvalidNumber := ⟨ga_InvalidNumber, gg_InvalidNumber, ex_InvalidNumber, hd_InvalidNumber⟩,
    xe_InvalidNumber := ⟨ga_InvalidNumber, gg_InvalidNumber, ex_InvalidNumber, hd_InvalidNumber, ca_InvalidNumber, cn_InvalidNumber, ct_InvalidNumber, cm_InvalidNumber⟩,
    te_InvalidNumber := PySem.W.exm_ref ex_InvalidNumber hd_InvalidNumber ty_InvalidNumber ss_InvalidNumber,
    kit_ValueError_InvalidNumber := kit_ValueError_InvalidNumber,
    na_value_InvalidNumber := na_value_InvalidNumber,
    f_InvalidNumber__init := f_InvalidNumber__init,
    A_InvalidNumber__init := ⟨_, fun_mk (st := s_InvalidNumber__init) l_InvalidNumber__init c_InvalidNumber__init k_InvalidNumber__init, (fun_mk (st := s_InvalidNumber__init) l_InvalidNumber__init c_InvalidNumber__init k_InvalidNumber__init).binds (ps := ["self", "value"]) fun _ _ _ _ _ _ us hl => match us, hl with | [_, _], _ => rfl⟩,
    m_InvalidNumber__init := m_InvalidNumber__init,
    ti_InvalidNumber__init := ti_InvalidNumber__init,
    C_InvalidSize := C_InvalidSize,
    g_InvalidSize := PySem.W.mg_of X G a_InvalidSize,
    x_InvalidSize := ⟨⟨"ValueError", _, _, _, _, _, _, _, _, _, _, _, _, _, _, _, _, _, _, PySem.F.store_ValueError, PySem.F.excBase_ValueError, xl_InvalidSize, by decide +kernel⟩, sa_InvalidSize, ex_InvalidSize, ty_InvalidSize, kc_InvalidSize⟩,
    xf_InvalidSize := ⟨ga_InvalidSize, gg_InvalidSize, ex_InvalidSize, hd_InvalidSize⟩,
    xe_InvalidSize := ⟨ga_InvalidSize, gg_InvalidSize, ex_InvalidSize, hd_InvalidSize, ca_InvalidSize, cn_InvalidSize, ct_InvalidSize, cm_InvalidSize⟩,
    te_InvalidSize := PySem.W.exm_ref ex_InvalidSize hd_InvalidSize ty_InvalidSize ss_InvalidSize,
    kit_ValueError_InvalidSize := kit_ValueError_InvalidSize,
    na_value_InvalidSize := na_value_InvalidSize,
    f_InvalidSize__init := f_InvalidSize__init,
    A_InvalidSize__init := ⟨_, fun_mk (st := s_InvalidSize__init) l_InvalidSize__init c_InvalidSize__init k_InvalidSize__init, (fun_mk (st := s_InvalidSize__init) l_InvalidSize__init c_InvalidSize__init k_InvalidSize__init).binds (ps := ["self", "value"]) fun _ _ _ _ _ _ us hl => match us, hl with | [_, _], _ => rfl⟩,
    m_InvalidSize__init := m_InvalidSize__init,
    ti_InvalidSize__init := ti_InvalidSize__init,
    C_InvalidElement := C_InvalidElement,
    g_InvalidElement := PySem.W.mg_of X G a_InvalidElement,
    x_InvalidElement := ⟨⟨"ValueError", _, _, _, _, _, _, _, _, _, _, _, _, _, _, _, _, _, _, PySem.F.store_ValueError, PySem.F.excBase_ValueError, xl_InvalidElement, by decide +kernel⟩, sa_InvalidElement, ex_InvalidElement, ty_InvalidElement, kc_InvalidElement⟩,
    xf_InvalidElement := ⟨ga_InvalidElement, gg_InvalidElement, ex_InvalidElement, hd_InvalidElement⟩,
    xe_InvalidElement := ⟨ga_InvalidElement, gg_InvalidElement, ex_InvalidElement, hd_InvalidElement, ca_InvalidElement, cn_InvalidElement, ct_InvalidElement, cm_InvalidElement⟩,
    te_InvalidElement := PySem.W.exm_ref ex_InvalidElement hd_InvalidElement ty_InvalidElement ss_InvalidElement,
    kit_ValueError_InvalidElement := kit_ValueError_InvalidElement,
    na_value_InvalidElement := na_value_InvalidElement,
    f_InvalidElement__init := f_InvalidElement__init,
    A_InvalidElement__init := ⟨_, fun_mk (st := s_InvalidElement__init) l_InvalidElement__init c_InvalidElement__init k_InvalidElement__init, (fun_mk (st := s_InvalidElement__init) l_InvalidElement__init c_InvalidElement__init k_InvalidElement__init).binds (ps := ["self", "value"]) fun _ _ _ _ _ _ us hl => match us, hl with | [_, _], _ => rfl⟩,
    m_InvalidElement__init := m_InvalidElement__init,
    ti_InvalidElement__init := ti_InvalidElement__init,
    C_InvalidShape := C_InvalidShape,
    g_InvalidShape := PySem.W.mg_of X G a_InvalidShape,
    x_InvalidShape := ⟨⟨"ValueError", _, _, _, _, _, _, _, _, _, _, _, _, _, _, _, _, _, _, PySem.F.store_ValueError, PySem.F.excBase_ValueError, xl_InvalidShape, by decide +kernel⟩, sa_InvalidShape, ex_InvalidShape, ty_InvalidShape, kc_InvalidShape⟩,
    xf_InvalidShape := ⟨ga_InvalidShape, gg_InvalidShape, ex_InvalidShape, hd_InvalidShape⟩,
    xe_InvalidShape := ⟨ga_InvalidShape, gg_InvalidShape, ex_InvalidShape, hd_InvalidShape, ca_InvalidShape, cn_InvalidShape, ct_InvalidShape, cm_InvalidShape⟩,
    te_InvalidShape := PySem.W.exm_ref ex_InvalidShape hd_InvalidShape ty_InvalidShape ss_InvalidShape,
    kit_ValueError_InvalidShape := kit_ValueError_InvalidShape,
    na_part_InvalidShape := na_part_InvalidShape,
    f_InvalidShape__init := f_InvalidShape__init,
    A_InvalidShape__init := ⟨_, fun_mk (st := s_InvalidShape__init) l_InvalidShape__init c_InvalidShape__init k_InvalidShape__init, (fun_mk (st := s_InvalidShape__init) l_InvalidShape__init c_InvalidShape__init k_InvalidShape__init).binds (ps := ["self", "part"]) fun _ _ _ _ _ _ us hl => match us, hl with | [_, _], _ => rfl⟩,
    m_InvalidShape__init := m_InvalidShape__init,
    ti_InvalidShape__init := ti_InvalidShape__init,
    C_SizeMismatch := C_SizeMismatch,
    g_SizeMismatch := PySem.W.mg_of X G a_SizeMismatch,
    x_SizeMismatch := ⟨⟨"ValueError", _, _, _, _, _, _, _, _, _, _, _, _, _, _, _, _, _, _, PySem.F.store_ValueError, PySem.F.excBase_ValueError, xl_SizeMismatch, by decide +kernel⟩, sa_SizeMismatch, ex_SizeMismatch, ty_SizeMismatch, kc_SizeMismatch⟩,
    xf_SizeMismatch := ⟨ga_SizeMismatch, gg_SizeMismatch, ex_SizeMismatch, hd_SizeMismatch⟩,
    xe_SizeMismatch := ⟨ga_SizeMismatch, gg_SizeMismatch, ex_SizeMismatch, hd_SizeMismatch, ca_SizeMismatch, cn_SizeMismatch, ct_SizeMismatch, cm_SizeMismatch⟩,
    te_SizeMismatch := PySem.W.exm_ref ex_SizeMismatch hd_SizeMismatch ty_SizeMismatch ss_SizeMismatch,
    kit_ValueError_SizeMismatch := kit_ValueError_SizeMismatch,
    na_first_SizeMismatch := na_first_SizeMismatch,
    na_second_SizeMismatch := na_second_SizeMismatch,
    f_SizeMismatch__init := f_SizeMismatch__init,
    A_SizeMismatch__init := ⟨_, fun_mk (st := s_SizeMismatch__init) l_SizeMismatch__init c_SizeMismatch__init k_SizeMismatch__init, (fun_mk (st := s_SizeMismatch__init) l_SizeMismatch__init c_SizeMismatch__init k_SizeMismatch__init).binds (ps := ["self", "first", "second"]) fun _ _ _ _ _ _ us hl => match us, hl with | [_, _, _], _ => rfl⟩,
    m_SizeMismatch__init := m_SizeMismatch__init,
    ti_SizeMismatch__init := ti_SizeMismatch__init,
    n_isinstance := PySem.W.mg_none_of X G z_isinstance,
    n_int := PySem.W.mg_none_of X G z_int,
    n_bool := PySem.W.mg_none_of X G z_bool,
    n_dict := PySem.W.mg_none_of X G z_dict,
    n_len := PySem.W.mg_none_of X G z_len,
    n_range := PySem.W.mg_none_of X G z_range,
    n_list := PySem.W.mg_none_of X G z_list,
    n_tuple := PySem.W.mg_none_of X G z_tuple,
    n_max := PySem.W.mg_none_of X G z_max,
    n_min := PySem.W.mg_none_of X G z_min,
    n_all := PySem.W.mg_none_of X G z_all,
    n_sorted := PySem.W.mg_none_of X G z_sorted,
    n_abs := PySem.W.mg_none_of X G z_abs,
    n_enumerate := PySem.W.mg_none_of X G z_enumerate,
    n_repr := PySem.W.mg_none_of X G z_repr,
    n_zip := PySem.W.mg_none_of X G z_zip,
    v_MAX_SIZE := ⟨_, PySem.W.mg_of X G v_MAX_SIZE⟩,
    v_MAX_DEGREE := ⟨_, PySem.W.mg_of X G v_MAX_DEGREE⟩ }⟩
end My
namespace My
open PySem L2 U StX
/-! ### values of any known form -/
def knownV (C : Addr) (H : Hp) : V → Prop
  | .non => True | .bl _ => True | .int _ => True | .str _ => True
  | .ref a => (∃ xs, H a = some (.lst xs)) ∨ (∃ xs, H a = some (.tup xs)) ∨ (∃ kvs, H a = some (.dK kvs)) ∨ ∃ dx fs, H a = some (.ins C dx fs)
  | _ => False
def isI : V → Bool | .int _ => true | _ => false
def isB : V → Bool | .bl _ => true | _ => false
def inR : V → Int → Int → Bool | .int i, a, b => decide (a ≤ i) && decide (i ≤ b) | _, _, _ => false
section
variable {P : Program} {w : World} {K : PySem.W.Frag} {mg : Str → Option Value} {base : Heap}
theorem tyx_ins {H : Hp} {a C dx : Addr} {fs : List (Str × V)} (o : OwnC K C) (e : H a = some (.ins C dx fs)) : TyX K H (.ref a) (.ref C) := .base (.ins e o.cl o.ca o.cn o.ct o.cm)
/-- the type of a known value, and what isinstance says of it -/
theorem ty_known (T : Txt K mg) {H : Hp} {x : V} (h : knownV T.C_Map H x) : ∃ t, TyX K H x t ∧ PySem.W.kitOne K t (.type "int") = some (isI x || isB x) ∧ PySem.W.kitOne K t (.type "bool") = some (isB x) := by
  cases x with
  | non => exact ⟨_, .base .non, kit_ty (r := false) (by decide +kernel), kit_ty (r := false) (by decide +kernel)⟩
  | bl b => exact ⟨_, .base (.bl b), kit_ty (r := true) (by decide +kernel), kit_ty (r := true) (by decide +kernel)⟩
  | int i => exact ⟨_, .base (.int i), kit_ty (r := true) (by decide +kernel), kit_ty (r := false) (by decide +kernel)⟩
  | str z => exact ⟨_, .base (.str z), kit_ty (r := false) (by decide +kernel), kit_ty (r := false) (by decide +kernel)⟩
  | ref a =>
    rcases h with ⟨xs, e⟩ | ⟨xs, e⟩ | ⟨xs, e⟩ | ⟨dx, fs, e⟩
    · exact ⟨_, .base (.lst e), kit_ty (r := false) (by decide +kernel), kit_ty (r := false) (by decide +kernel)⟩
    · exact ⟨_, .base (.tup e), kit_ty (r := false) (by decide +kernel), kit_ty (r := false) (by decide +kernel)⟩
    · exact ⟨_, .base (.dK e), kit_ty (r := false) (by decide +kernel), kit_ty (r := false) (by decide +kernel)⟩
    · exact ⟨_, tyx_ins T.o_Map e, T.kit_int_Map, T.kit_bool_Map⟩
  | byt b => exact h.elim
  | flt b => exact h.elim
  | ty b => exact h.elim
def spIsInt (C : Addr) : Sp := fun vs H Q _ => ∃ x, vs = [x] ∧ knownV C H x ∧ Q (.bl (isI x)) H
theorem ok_is_integer (T : Txt K mg) : FnR P w K mg base CX0 1 T.f_is_integer (spIsInt T.C_Map) := by
  refine T.A_is_integer.ok sc_is_integer (fun vs H Q E h => ?_) (fun cdv A outer s H vs Q E hr h => ?_)
  · obtain ⟨x, rfl, _⟩ := h
    rfl
  · obtain ⟨x, rfl, hx, q⟩ := h
    refine ⟨_, pss_one (ps_ret (pe_and (pe_callB call_isi (by rfl) T.n_isinstance (by decide +kernel) (pa_cons (pv 0) (pa_cons (pe_bltn (v := .ty "int") (u := .type "int") (by rfl) T.n_int (by decide +kernel) rfl) pa_nil)))
      (pe_one (pe_not (pe_callB call_isi (by rfl) T.n_isinstance (by decide +kernel) (pa_cons (pv 0) (pa_cons (pe_bltn (v := .ty "bool") (u := .type "bool") (by rfl) T.n_bool (by decide +kernel) rfl) pa_nil))))))), ?_⟩
    obtain ⟨t, ht, k1, k2⟩ := ty_known T hx
    refine ⟨_, rfl, x, _, t, _, _, rfl, .ty _, ht, k1, _, rfl, ?_⟩
    refine ifB (fun hc => ?_) (fun hc => ?_)
    · refine ⟨_, rfl, x, _, t, _, _, rfl, .ty _, ht, k2, _, rfl, ?_⟩
      have e : (!isB x) = isI x := by cases x <;> first | rfl | cases hc
      rw [e]
      exact q
    · have e : isI x = false := by cases x <;> first | rfl | cases hc
      rw [e] at q
      exact q
def spInR (C : Addr) : Sp := fun vs H Q _ => ∃ x a b, vs = [x, .int a, .int b] ∧ knownV C H x ∧ Q (.bl (inR x a b)) H
theorem ok_in_range (T : Txt K mg) : FnR P w K mg base CX0 2 T.f_in_range (spInR T.C_Map) := by
  refine T.A_in_range.ok sc_in_range (fun vs H Q E h => ?_) (fun cdv A outer s H vs Q E hr h => ?_)
  · obtain ⟨x, a, b, rfl, _⟩ := h
    rfl
  · obtain ⟨x, a, b, rfl, hx, q⟩ := h
    refine ⟨_, pss_one (ps_ret (pe_and (pe_callR (ok_is_integer T) hr T.A_is_integer.kp rfl T.g_is_integer pass0 (pa_cons (pv 0) pa_nil))
      (pe_one (pe_chain op_le op_le (pv 1) (pv 0) (pv 2))))), ?_⟩
    refine ⟨_, rfl, x, rfl, hx, _, rfl, ?_⟩
    cases x with
    | int i =>
      refine iteT ⟨_, rfl, _, rfl, _, _, rfl, rfl, _, rfl, ?_⟩
      refine ifD (fun h => ?_) (fun h => ?_)
      · refine ⟨_, rfl, _, _, rfl, rfl, ?_⟩
        have e : inR (.int i) a b = decide (i ≤ b) := by simp [inR, h]
        rw [e] at q
        exact q
      · have e : inR (.int i) a b = false := by simp [inR, h]
        rw [e] at q
        exact q
    | _ => exact iteF q
/-! ### the law's draws -/
def spDraw : Sp := fun vs H Q _ => ∃ (p : Addr) (a b n : Int), vs = [.ref p, .int n] ∧ H p = some (.lst [.int a, .int b]) ∧ 0 ≤ a ∧ 0 ≤ b ∧ b < 2147483647 ∧ 0 < n ∧ n < 1073741824 ∧
  ∀ a' b' r : Int, 0 ≤ a' → 0 ≤ b' → b' < 2147483647 → 0 ≤ r → r < n → Q (.int r) (upd H p (.lst [.int a', .int b']))
theorem ok_draw (T : Txt K mg) : FnR P w K mg base CX0 1 T.f_l_draw spDraw := by
  refine T.A_l_draw.ok sc_l_draw (fun vs H Q E h => ?_) (fun cdv A outer s H vs Q E hr h => ?_)
  · obtain ⟨p, a, b, n, rfl, _⟩ := h
    rfl
  · obtain ⟨p, a, b, n, rfl, hp, ha, hb, hb2, hn, hn2, k⟩ := h
    refine ⟨_, pss_cons (ps_if (pt_cmpR op_gt (pe_ix ix_list (pv 0) pe_int (fun _ _ => rfl)) pe_int (nomark _))
        (pss_cons (ps_set (i := 2) sc_l_draw.nd rfl (Or.inl rfl) (pe_op op_mod (pe_ix ix_list (pv 0) pe_int (fun _ _ => rfl)) (pv 1)))
        (pss_cons (ps_asg (pe_op op_fdiv (pe_ix ix_list (pv 0) pe_int (fun _ _ => rfl)) (pv 1)) (pg_sub (pv 0) pe_int set_list))
        (pss_one (ps_ret (pv 2))))) pss_nil)
      (pss_cons (ps_asg (pe_op op_mod (pe_op op_add (pe_op op_mul (pe_ix ix_list (pv 0) pe_int (fun _ _ => rfl)) pe_int) pe_int) pe_int) (pg_sub (pv 0) pe_int set_list))
      (pss_one (ps_ret (pe_op op_mod (pe_op op_fdiv (pe_op op_mod (pe_op op_mul (pe_ix ix_list (pv 0) pe_int (fun _ _ => rfl)) (pe_ix ix_list (pv 0) pe_int (fun _ _ => rfl))) pe_int) pe_int) (pv 1))))), ?_⟩
    refine ⟨_, rfl, p, _, 0, _, rfl, rfl, SqL.of hp, rfl, _, _, rfl, rfl, _, rfl, ?_⟩
    refine ifD (fun h => ?_) (fun h => ?_)
    · refine ⟨_, rfl, p, _, 0, _, rfl, rfl, SqL.of hp, rfl, _, rfl, _, _, rfl, rfl, hn, ?_⟩
      refine ⟨_, rfl, p, _, 0, _, rfl, rfl, SqL.of hp, rfl, _, rfl, _, _, rfl, rfl, ⟨hn, hn2⟩, _, rfl, p, _, 0, _, rfl, rfl, hp, rfl, ?_⟩
      refine ⟨_, rfl, ?_⟩
      exact k (a / n) b (a % n) (Int.ediv_nonneg ha (by omega)) hb hb2 (Int.emod_nonneg _ (by omega)) (Int.emod_lt_of_pos _ hn)
    · have m1 : 0 ≤ (b * 48271 + 11) % 2147483647 := Int.emod_nonneg _ (by decide)
      have m2 : (b * 48271 + 11) % 2147483647 < 2147483647 := Int.emod_lt_of_pos _ (by decide)
      refine ⟨_, rfl, p, _, 1, _, rfl, rfl, SqL.of hp, rfl, _, _, rfl, rfl, .inr ⟨by decide, by decide⟩, _, _, rfl, rfl, _, _, rfl, rfl, (by show (0 : Int) < 2147483647; decide), _, rfl, p, _, 1, _, rfl, rfl, hp, rfl, ?_⟩
      refine ⟨_, rfl, p, _, 1, _, rfl, rfl, SqL.of upd_same, rfl, _, rfl, p, _, 1, _, rfl, rfl, SqL.of upd_same, rfl, _, _, rfl, rfl, .inl ⟨by omega, by omega⟩, _, _, rfl, rfl, (by show (0 : Int) < 2147483629; decide), _, _, rfl, rfl, ⟨by decide, by decide⟩, _, rfl, _, _, rfl, rfl, hn, ?_⟩
      exact k a ((b * 48271 + 11) % 2147483647) _ ha m1 m2 (Int.emod_nonneg _ (by omega)) (Int.emod_lt_of_pos _ hn)
end
end My
namespace My
open PySem L2 U StX PM
section
variable {P : Program} {w : World} {K : PySem.W.Frag} {mg : Str → Option Value} {base : Heap}
theorem head_int (xs : List V) (h : ∀ v ∈ xs, ∃ i, v = V.int i) : ∃ c, atI (xs ++ [V.int 0]) 0 = some (V.int c) := by
  cases xs with
  | nil => exact ⟨0, rfl⟩
  | cons a r =>
    obtain ⟨i, rfl⟩ := h a List.mem_cons_self
    refine ⟨i, atI_nat (j := 0) ?_⟩
    rfl
theorem cut_int (ns : List Int) (lo hi : Option Int) : ∀ v ∈ cutV (ns.map V.int) lo hi, ∃ i, v = V.int i := by
  intro v hv
  unfold cutV at hv
  have h1 := List.mem_of_mem_drop (List.mem_of_mem_take hv)
  obtain ⟨i, _, rfl⟩ := List.mem_map.mp h1
  exact ⟨i, rfl⟩
def spHand (K : PySem.W.Frag) : Sp := fun vs H Q _ => ∃ (a : Addr) (ns : List Int) (k : Int), vs = [.ref a, .int k] ∧ SqL K H a (ns.map V.int) ∧ ns.length ≤ 63 ∧
  ∀ p H' x y, H p = none → H' p = some (.lst [.int x, .int y]) → Same H H' → 0 ≤ x → 0 ≤ y → y < 2147483647 → Q (.ref p) H'
theorem ok_hand (T : Txt K mg) : FnR P w K mg base CX0 1 T.f_l_hand (spHand K) := by
  refine T.A_l_hand.ok sc_l_hand (fun vs H Q E h => ?_) (fun cdv A outer s H vs Q E hr h => ?_)
  · obtain ⟨a, ns, k, rfl, _⟩ := h
    rfl
  · obtain ⟨a, ns, k, rfl, hS, hl, q⟩ := h
    refine ⟨_, pss_cons (ps_set (i := 2) sc_l_hand.nd rfl (Or.inl rfl) (pe_ix ix_list (pe_op op_cat (pe_slice sl_list (pv 0) (po_some (pv 1)) (po_some (pe_op op_add (pv 1) pe_int))) (pe_lst (pa_cons pe_int pa_nil))) pe_int (fun _ _ => rfl)))
      (pss_cons (ps_set (i := 3) sc_l_hand.nd rfl (Or.inl rfl) (pe_op op_mod (pe_op op_mul (pe_op op_add (pe_op op_add (pe_op op_mod (pv 2) pe_int) (pe_op op_mul pe_int (pv 1))) pe_int) pe_int) pe_int))
      (pss_one (ps_ret (pe_lst (pa_cons (pe_op op_mul (pe_callTy call_int1 (by rfl) T.n_int (by decide +kernel) (pa_cons (pe_cmpR op_ge (pv 2) (pe_op op_pow pe_int pe_int) (nomark _)) pa_nil)) (pv 2)) (pa_cons (pv 3) pa_nil)))))), ?_⟩
    refine ⟨_, rfl, _, rfl, _, rfl, _, rfl, _, _, rfl, rfl, _, rfl, a, _, rfl, hS, fun p1 n1 => ?_⟩
    refine ⟨(by show 1 ≤ sizeLine; decide), fun p2 n2 => ?_⟩
    have n12 : p1 ≠ p2 := ne_of_none upd_same n2
    have hcl := cutV_length (ns.map V.int) (some k) (some (k + 1))
    rw [List.length_map] at hcl
    refine ⟨p1, p2, cutV (ns.map V.int) (some k) (some (k + 1)), [.int 0], rfl, rfl, (by rw [upd_ne n12, upd_same]), upd_same, ?_, fun p3 n3 => ?_⟩
    · show _ + 1 ≤ sizeLine
      exact Nat.le_trans (by omega : _ ≤ 64) (by decide)
    obtain ⟨c, hc⟩ := head_int _ (cut_int ns (some k) (some (k + 1)))
    refine ⟨p3, _, 0, .int c, rfl, rfl, SqL.of upd_same, hc, ?_⟩
    refine ⟨_, rfl, _, _, rfl, rfl, (by show (0 : Int) < 2147483647; decide), _, rfl, _, _, rfl, rfl, .inl ⟨by decide, by decide⟩, _, _, rfl, rfl, _, _, rfl, rfl, _, _, rfl, rfl, .inr ⟨by decide, by decide⟩, _, _, rfl, rfl, (by show (0 : Int) < 2147483629; decide), ?_⟩
    refine ⟨_, rfl, _, _, rfl, rfl, ⟨by decide, by decide, by decide⟩, _, _, rfl, rfl, .inr ⟨_, rfl, _, rfl, _, _, rfl, rfl, .inl ?_, _, rfl, (by show 2 ≤ sizeLine; decide), fun p4 n4 => ?_⟩⟩
    · cases decide ((10 : Int) ^ (18 : Int).toNat ≤ c) <;> exact ⟨by decide, by decide⟩
    · have s3 := ((Same.new (o := .lst (cutV (ns.map V.int) (some k) (some (k + 1)))) n1).trans (Same.new (o := .lst [.int 0]) n2)).trans (Same.new (o := .lst (cutV (ns.map V.int) (some k) (some (k + 1)) ++ [.int 0])) n3)
      refine q p4 _ _ _ (s3.free n4) upd_same (s3.trans (Same.new n4)) ?_ (Int.emod_nonneg _ (by decide)) ?_
      · cases hd : decide ((10 : Int) ^ (18 : Int).toNat ≤ c) with
        | true =>
          have := of_decide_eq_true hd
          have h10 : (0 : Int) ≤ 10 ^ (18 : Int).toNat := by decide
          show 0 ≤ 1 * c
          omega
        | false => show 0 ≤ 0 * c; omega
      · have := Int.emod_lt_of_pos ((c % 2147483647 + 7919 * k + 1) * 48271) (show (0 : Int) < 2147483629 by decide)
        omega
end
end My
namespace My
open PySem L2 U StX PM
section
variable {P : Program} {w : World} {K : PySem.W.Frag} {mg : Str → Option Value} {base : Heap}
def rowOk (n : Int) (p : Int × Int) : Bool := inR (.int p.1) 0 (n - 1) && inR (.int p.2) 0 (n - 1)
def okArr (n : Int) (l : List (Int × Int)) : Bool := l.all (rowOk n) && decide (l.map (·.2)).Nodup
def tgt (l : List (Int × Int)) : List (Key × V) := l.map fun p => (Sum.inl p.2, V.bl true)
theorem tgt_key {l : List (Int × Int)} {y : Int} : (Sum.inl y : Key) ∈ (tgt l).map (·.1) ↔ y ∈ l.map (·.2) := by
  unfold tgt
  rw [List.map_map]
  constructor
  · intro h
    obtain ⟨p, hp, e⟩ := List.mem_map.mp h
    exact List.mem_map.mpr ⟨p, hp, Sum.inl.inj e⟩
  · intro h
    obtain ⟨p, hp, e⟩ := List.mem_map.mp h
    exact List.mem_map.mpr ⟨p, hp, congrArg Sum.inl e⟩
theorem tgt_val {l : List (Int × Int)} {y : Int} : (valV (tgt l) (Sum.inl y : Key)).isSome = decide (y ∈ l.map (·.2)) := by
  by_cases h : y ∈ l.map (·.2)
  · have h' := tgt_key.mpr h
    rw [decide_eq_true h]
    cases e : valV (tgt l) (Sum.inl y : Key) with
    | some v => rfl
    | none =>
      obtain ⟨p, hp, e2⟩ := List.mem_map.mp h'
      exfalso
      unfold valV at e
      rw [Option.map_eq_none_iff, List.find?_eq_none] at e
      exact e p hp (by simp [e2])
  · rw [decide_eq_false h, valV_none fun z => h (tgt_key.mp z)]
    rfl
theorem okArr_step {n : Int} {l : List (Int × Int)} {i : Nat} {p : Int × Int} (h : l[i]? = some p) : okArr n (l.take (i + 1)) = (okArr n (l.take i) && (rowOk n p && !decide (p.2 ∈ (l.take i).map (·.2)))) := by
  rw [take_more h]
  unfold okArr
  rw [List.all_append, List.map_append]
  have e : decide (((l.take i).map (·.2) ++ [p].map (·.2)).Nodup) = (decide ((l.take i).map (·.2)).Nodup && !decide (p.2 ∈ (l.take i).map (·.2))) := by
    rw [Bool.eq_iff_iff]
    simp only [decide_eq_true_eq, Bool.and_eq_true, Bool.not_eq_true', decide_eq_false_iff_not]
    rw [List.nodup_append]
    constructor
    · rintro ⟨h1, _, h2⟩
      exact ⟨h1, fun hm => h2 _ hm _ (by simp) rfl⟩
    · rintro ⟨h1, h2⟩
      refine ⟨h1, by simp, fun a ha b hb e => ?_⟩
      simp at hb
      subst hb
      exact h2 (e ▸ ha)
  rw [e]
  simp only [List.all_cons, List.all_nil, Bool.and_true]
  cases (l.take i).all (rowOk n) <;> cases rowOk n p <;> cases decide ((l.take i).map (·.2)).Nodup <;> simp
theorem okArr_cut {n : Int} {l : List (Int × Int)} {i : Nat} (h : okArr n (l.take i) = false) : okArr n l = false := by
  cases e : okArr n l with
  | false => rfl
  | true =>
    unfold okArr at e h
    rw [Bool.and_eq_true] at e
    have h1 : (l.take i).all (rowOk n) = true := by
      rw [List.all_eq_true] at e ⊢
      exact fun p hp => e.1 p (List.mem_of_mem_take hp)
    have h2 : ((l.take i).map (·.2)).Nodup := by
      have := of_decide_eq_true e.2
      rw [List.map_take]
      exact List.Sublist.nodup (List.take_sublist _ _) this
    rw [h1, decide_eq_true h2] at h
    cases h
def spArr : Sp := fun vs H Q _ => ∃ (n : Int) (d : Addr) (l : List (Int × Int)), vs = [.int n, .ref d] ∧ H d = some (.dK (kvI l)) ∧ l.length ≤ 1000 ∧ ∀ H', Same H H' → Q (.bl (okArr n l)) H'
theorem ok_are_arrows (T : Txt K mg) : FnR P w K mg base CX0 3 T.f_are_arrows spArr := by
  refine T.A_are_arrows.ok sc_are_arrows (fun vs H Q E h => ?_) (fun cdv A outer s H vs Q E hr h => ?_)
  · obtain ⟨n, d, l, rfl, _⟩ := h
    rfl
  · obtain ⟨n, d, l, rfl, hd, hl, q⟩ := h
    have hu := hu_of hr
    refine ⟨_, pss_cons (ps_if (pt_not (pt_val (pe_callB call_isi (by rfl) T.n_isinstance (by decide +kernel) (pa_cons (pv 1) (pa_cons (pe_bltn (v := .ty "dict") (u := .type "dict") (by rfl) T.n_dict (by decide +kernel) rfl) pa_nil))))) (pss_one (ps_ret pe_bl)) pss_nil)
      (pss_cons (ps_set (i := 2) sc_are_arrows.nd rfl (Or.inl rfl) pe_dnewK)
      (pss_cons (ps_lock (ps_for PassesOwn.never rfl (pi_items (pv 1)) (pg_tup rfl (pgs_cons (pg_name (i := 3) sc_are_arrows.nd rfl (Or.inl rfl)) (pgs_cons (pg_name (i := 4) sc_are_arrows.nd rfl (Or.inl rfl)) pgs_nil)))
        (pss_cons (ps_if (PW.pt (pw_or (pt_not (pt_val (pe_callR (ok_in_range T) hr T.A_in_range.kp rfl T.g_in_range pass0 (pa_cons (pv 3) (pa_cons pe_int (pa_cons (pe_op op_sub (pv 0) pe_int) pa_nil))))))
            (pw_or (pt_not (pt_val (pe_callR (ok_in_range T) hr T.A_in_range.kp rfl T.g_in_range pass0 (pa_cons (pv 4) (pa_cons pe_int (pa_cons (pe_op op_sub (pv 0) pe_int) pa_nil))))))
            (pw_or1 (pt_cmp (pc_din hu (pv 4) (pv 2))))))) (pss_one (ps_ret pe_bl)) pss_nil)
        (pss_one (ps_dput hu (pv 2) (pv 4) pe_bl rfl)))))
      (pss_one (ps_ret pe_bl)))), ?_⟩
    refine ⟨_, rfl, _, _, _, _, true, rfl, .ty _, .base (.dK hd), kit_ty (by decide +kernel), _, rfl, ?_⟩
    refine iteF ?_
    intro t ht
    have ntd : t ≠ d := fun e => by rw [e, hd] at ht; cases ht
    have hd1 : (upd H t (.dK [])) d = some (.dK (kvI l)) := by rw [upd_ne ntd.symm]; exact hd
    refine ⟨d, _, hd1, trivial, fun od => ?_⟩
    refine ⟨_, rfl, d, od, kvI l, rfl, upd_same, ?_⟩
    refine for_it walk_items (fun i σ H' => ∃ v3 v4, σ = [some (.int n), some (.ref d), some (.ref t), v3, v4] ∧ H' d = some (.frz od (.dK (kvI l))) ∧ Off d H H' ∧ H' t = some (.dK (tgt (l.take i))) ∧ okArr n (l.take i) = true)
      ⟨none, none, rfl, upd_same, (Off.new ht).tr Off.lock, (by rw [upd_ne ntd]; exact upd_same), rfl⟩ (fun i σ H' _ ⟨_, _, _, p, _⟩ => p) ?_ ?_
    · rintro i v σ H' H'' hi ⟨v3, v4, rfl, p1, p2, p3, p4⟩ ⟨U, a, b, rfl, hU, rfl, e1, e2⟩
      rw [kvI_length] at hi
      obtain ⟨⟨x, y⟩, exy⟩ : ∃ p, l[i]? = some p := ⟨_, List.getElem?_eq_getElem hi⟩
      have ek : (kvI l)[i]? = some (Sum.inl x, V.int y) := by unfold kvI; rw [List.getElem?_map, exy]; rfl
      dsimp only at e1 e2
      rw [ek] at e1 e2
      cases e1; cases e2
      have nUd : d ≠ U := ne_of_none p1 hU
      have nUt : t ≠ U := ne_of_none p3 hU
      have d3 : (upd H' U (.tup [kV (Sum.inl x), .int y])) d = some (.frz od (.dK (kvI l))) := by rw [upd_ne nUd]; exact p1
      have t3 : (upd H' U (.tup [kV (Sum.inl x), .int y])) t = some (.dK (tgt (l.take i))) := by rw [upd_ne nUt]; exact p3
      have o3 : Off d H (upd H' U (.tup [kV (Sum.inl x), .int y])) := p2.tr (Off.new hU)
      have bad : (rowOk n (x, y) && !decide (y ∈ (l.take i).map (·.2))) = false → Q (.bl false) (upd (upd H' U (.tup [kV (Sum.inl x), .int y])) d (.dK (kvI l))) := by
        intro hb
        have h1 := okArr_step (n := n) exy
        rw [p4, hb] at h1
        have := q _ (o3.back hd)
        rw [okArr_cut h1] at this
        exact this
      refine ⟨U, [.int x, .int y], rfl, SqT.of upd_same, rfl, .int x, [.int y], rfl, .int y, [], rfl, rfl, ?_⟩
      refine ⟨_, rfl, _, rfl, _, _, rfl, rfl, .int x, 0, n - 1, rfl, trivial, _, rfl, ?_⟩
      refine ifNB (fun hc => iteT ⟨d3, bad ?_⟩) (fun hc => ?_)
      · simp [rowOk, hc]
      refine ⟨_, rfl, _, rfl, _, _, rfl, rfl, .int y, 0, n - 1, rfl, trivial, _, rfl, ?_⟩
      refine ifNB (fun hc2 => iteT ⟨d3, bad ?_⟩) (fun hc2 => ?_)
      · simp [rowOk, hc2]
      refine ⟨_, rfl, _, rfl, t, _, rfl, DGet.k (k := Sum.inl y) t3, _, rfl, ?_⟩
      rw [tgt_val]
      refine ifD (fun hm => ⟨d3, bad ?_⟩) (fun hm => ?_)
      · rw [decide_eq_true hm]; simp
      have hlen : (tgt (l.take i)).length ≤ 1000 := by unfold tgt; rw [List.length_map, List.length_take]; omega
      refine ⟨_, rfl, _, rfl, t, _, rfl, DPut.k (k := Sum.inl y) t3 (small1000 hlen), ?_⟩
      refine ⟨_, _, rfl, ?_, o3.mut ht, ?_, ?_⟩
      · rw [upd_ne ntd.symm]; exact d3
      · rw [upd_same, putK_new _ (valV_none fun z => hm (tgt_key.mp z)), take_more exy]
        unfold tgt
        rw [List.map_append]
        rfl
      · rw [okArr_step exy, p4, decide_eq_false hm]
        simp [rowOk, hc, hc2]
    · rintro σ H' ⟨v3, v4, rfl, p1, p2, p3, p4⟩
      rw [kvI_length, List.take_length] at p4
      have := q _ (p2.back hd)
      rw [p4] at this
      exact ⟨p1, this⟩
end
end My
namespace My
open PySem L2 U StX PM
section
variable {P : Program} {w : World} {K : PySem.W.Frag} {mg : Str → Option Value} {base : Heap}
theorem ne_fld : ¬ (("own_size" : Str) = "own_arrows") := by decide +kernel
/-- a map's attributes -/
def flds (n : Int) (D : Addr) : List (Str × V) := putF "own_arrows" (.ref D) (putF "own_size" (.int n) [])
theorem flds_size (n : Int) (D : Addr) : (flds n D).lookup ("own_size" : Str) = some (.int n) := by
  unfold flds
  rw [lookup_putF, if_neg ne_fld, lookup_putF, if_pos rfl]
theorem flds_arrows (n : Int) (D : Addr) : (flds n D).lookup ("own_arrows" : Str) = some (.ref D) := by
  unfold flds
  rw [lookup_putF, if_pos rfl]
/-- a Map of n elements stands at m: the map f -/
structure IsMap (C : Addr) (H : Hp) (m : Addr) (n : Int) (f : PF) : Prop where
  ob : ∃ dx D, H m = some (.ins C dx (flds n D)) ∧ H D = some (.dK (kvI (tab n f)))
  wf : WF n f
  lo : 1 ≤ n
  hi : n ≤ 300
theorem IsMap.same {C : Addr} {H H' : Hp} {m : Addr} {n : Int} {f : PF} (a : IsMap C H m n f) (s : Same H H') : IsMap C H' m n f := by
  obtain ⟨⟨dx, D, h1, h2⟩, wf, lo, hi⟩ := a
  exact ⟨⟨dx, D, s _ _ h1, s _ _ h2⟩, wf, lo, hi⟩
theorem okArr_of {n : Int} {l : List (Int × Int)} {f : PF} (d : DI l f) (w : WF n f) : okArr n l = true := by
  unfold okArr
  rw [Bool.and_eq_true]
  refine ⟨List.all_eq_true.mpr fun p hp => ?_, decide_eq_true (d.vals w)⟩
  obtain ⟨x, y⟩ := p
  have h := w.dom x y (d.mem.mp hp)
  simp only [rowOk, inR, Bool.and_eq_true, decide_eq_true_eq]
  omega
theorem madeR_tab {l : List (Int × Int)} {f : PF} (d : DI l f) (n : Nat) : madeR (fun k => (lk l k).isSome) (fun x => x) (fun k => ((lk l k).map V.int).getD .non) n = kvI (tabN f n) := by
  induction n with
  | zero => rfl
  | succ n ih =>
    rw [madeR_succ, ih]
    have e : tabN f (n + 1) = tabN f n ++ ((f (n : Int)).map fun y => ((n : Int), y)).toList := by
      unfold tabN
      rw [List.range_succ, List.filterMap_append]
      cases h : f (n : Int) <;> simp [h]
    rw [e, d.at_]
    cases h : f (n : Int) with
    | none => simp
    | some y => simp [kvI]
def spInit (C : Addr) : Sp := fun vs H Q _ => ∃ (p dx d : Addr) (n : Int) (l : List (Int × Int)) (f : PF), vs = [.ref p, .int n, .ref d] ∧ H p = some (.ins C dx []) ∧ H d = some (.dK (kvI l)) ∧ DI l f ∧ WF n f ∧ 1 ≤ n ∧ n ≤ 300 ∧ l.length ≤ 1000 ∧
  ∀ (H' : Hp) (D : Addr), Off p H H' → H D = none → H' p = some (.ins C dx (flds n D)) → H' D = some (.dK (kvI (tab n f))) → Q .non H'
theorem ok_init (T : Txt K mg) : FnR P w K mg base CX0 4 T.f_Map__init (spInit T.C_Map) := by
  refine T.A_Map__init.ok sc_Map__init (fun vs H Q E h => ?_) (fun cdv A outer s H vs Q E hr h => ?_)
  · obtain ⟨p, dx, d, n, l, f, rfl, _⟩ := h
    rfl
  · obtain ⟨p, dx, d, n, l, f, rfl, hp, hd, di, wf, h1, h3, hl, q⟩ := h
    have hu := hu_of hr
    obtain ⟨tk, hms⟩ := T.v_MAX_SIZE
    refine ⟨_, pss_cons (ps_if (pt_not (pt_val (pe_callR (ok_in_range T) (hr.mono (by decide)) T.A_in_range.kp rfl T.g_in_range pass0 (pa_cons (pv 1) (pa_cons pe_int (pa_cons (pe_glob (v := .int 300) rfl hms ⟨_, rfl⟩) pa_nil)))))) (pss_one ps_never) pss_nil)
      (pss_cons (ps_if (pt_not (pt_val (pe_callR (ok_are_arrows T) hr T.A_are_arrows.kp rfl T.g_are_arrows pass0 (pa_cons (pv 1) (pa_cons (pv 2) pa_nil))))) (pss_one ps_never) pss_nil)
      (pss_cons (ps_fld (pv 0) (pv 1) rfl)
      (pss_one (ps_fld (pv 0) (pe_dc (own := [("source", 3)]) (g := gName 3) rfl sc_Map__init.nd (pi_range1 rfl T.n_range (pa_cons (pv 1) pa_nil)) (blkOk_by (own := [("source", 3)]) (N := n_Map__init) (sc := defScope s_Map__init) (by decide +kernel))
        (fun _ _ _ _ _ => pg_name (i := 3) sc_Map__init.nd rfl (Or.inl rfl)) (fun _ _ _ _ _ => pts_one (pt_cmp (pc_din hu (pv 3) (pv 2)))) (fun _ _ _ _ _ => pv 3) (fun _ _ _ _ _ => pe_dget hu (pv 2) (pv 3) (fun _ _ => rfl))) rfl)))), ?_⟩
    refine ⟨_, rfl, .int n, 1, 300, rfl, trivial, _, rfl, ?_⟩
    have e1 : inR (.int n) 1 300 = true := by simp [inR, h1, h3]
    rw [e1]
    refine iteF ⟨_, rfl, _, rfl, n, d, l, rfl, hd, hl, fun H1 s1 => ⟨_, rfl, ?_⟩⟩
    rw [okArr_of di wf]
    refine iteF ?_
    have hp1 := s1 _ _ hp
    have npd : p ≠ d := ne_of hp hd (by intro z; cases z)
    refine ⟨_, rfl, _, rfl, p, T.C_Map, dx, [], rfl, hp1, T.o_Map.cl, T.na_own_size_Map, (by show 0 < 1000; decide), ?_⟩
    have hd1 : (upd H1 p (.ins T.C_Map dx (putF "own_size" (.int n) []))) d = some (.dK (kvI l)) := by rw [upd_ne npd.symm]; exact s1 _ _ hd
    dsimp only [sFld]
    refine dc_range (n := n.toNat) (fun k => (lk l k).isSome) (fun k => ((lk l k).map V.int).getD .non) (fun R r => ⟨_, rfl, n, rfl, by omega, by omega, r⟩) (fun _ => rfl) ?_ (small1000 (by omega)) ?_
    · intro k hk H2 s2
      have hd2 := s2 _ _ hd1
      refine ⟨fun R r => ?_, fun hc => ⟨fun R r => ?_, fun R r => ?_⟩⟩
      · refine ⟨_, rfl, _, rfl, d, _, rfl, DGet.k (k := Sum.inl (0 + (k : Int))) hd2, _, rfl, ?_⟩
        rw [valV_kvI, Option.isSome_map, Int.zero_add]
        exact r
      · refine ⟨_, rfl, ?_⟩
        rw [Int.zero_add]
        exact r
      · cases hv : lk l (k : Int) with
        | none => rw [hv] at hc; cases hc
        | some y =>
          rw [hv] at r
          refine ⟨_, rfl, _, rfl, d, .int y, rfl, ?_, r⟩
          have := DGet.k (k := Sum.inl (0 + (k : Int))) hd2
          rw [valV_kvI, Int.zero_add, hv] at this
          rw [Int.zero_add]
          exact this
    · intro D H2 nD hD s2
      rw [madeR_tab di] at hD
      have hp2 := s2 _ _ (upd_same : (upd H1 p (.ins T.C_Map dx (putF "own_size" (.int n) []))) p = _)
      refine ⟨_, rfl, p, T.C_Map, dx, _, rfl, hp2, T.o_Map.cl, T.na_own_arrows_Map, (by show 1 < 1000; decide), ?_⟩
      have nDp : D ≠ p := fun e => by rw [e, upd_same] at nD; cases nD
      have nD1 : H1 D = none := by rw [upd_ne nDp] at nD; exact nD
      refine q _ D (fun b o hb e => ?_) (s1.free nD1) upd_same ?_
      · rw [upd_ne hb]
        refine s2 _ _ ?_
        rw [upd_ne hb]
        exact s1 _ _ e
      · rw [upd_ne nDp]
        exact hD
end
end My
namespace My
open PySem L2 U StX PM
/-! ### what a comprehension over pairs of ints makes -/
def madeI (c : Int → Int → Bool) (kf vi : Int → Int → Int) (l : List (Int × Int)) : List (Int × Int) := (l.filter fun p => c p.1 p.2).map fun p => (kf p.1 p.2, vi p.1 p.2)
theorem madeD_I (c : Int → Int → Bool) (kf vi : Int → Int → Int) (l : List (Int × Int)) : madeD c kf (fun x y => .int (vi x y)) l = kvI (madeI c kf vi l) := by
  unfold madeD madeI kvI
  rw [List.map_map]
  rfl
theorem kvI_keys (l : List (Int × Int)) : (kvI l).map (·.1) = (l.map (·.1)).map Sum.inl := by
  unfold kvI
  rw [List.map_map, List.map_map]
  rfl
theorem nd_inl {l : List Int} (h : l.Nodup) : (l.map (Sum.inl : Int → Key)).Nodup := by
  induction l with
  | nil => exact List.nodup_nil
  | cons a r ih =>
    rw [List.nodup_cons] at h
    rw [List.map_cons, List.nodup_cons]
    refine ⟨fun hm => ?_, ih h.2⟩
    obtain ⟨b, hb, e⟩ := List.mem_map.mp hm
    exact h.1 (Sum.inl.inj e ▸ hb)
theorem mem_madeI {c : Int → Int → Bool} {kf vi : Int → Int → Int} {l : List (Int × Int)} {a b : Int} : (a, b) ∈ madeI c kf vi l ↔ ∃ x y, (x, y) ∈ l ∧ c x y = true ∧ kf x y = a ∧ vi x y = b := by
  unfold madeI
  rw [List.mem_map]
  constructor
  · rintro ⟨⟨x, y⟩, h, e⟩
    have h1 := List.mem_filter.mp h
    cases e
    exact ⟨x, y, h1.1, h1.2, rfl, rfl⟩
  · rintro ⟨x, y, h1, h2, rfl, rfl⟩
    exact ⟨(x, y), List.mem_filter.mpr ⟨h1, h2⟩, rfl⟩
theorem madeI_len (c : Int → Int → Bool) (kf vi : Int → Int → Int) (l : List (Int × Int)) : (madeI c kf vi l).length ≤ l.length := by
  unfold madeI
  rw [List.length_map]
  exact List.length_filter_le _ _
/-- the sources kept -/
theorem nd_src {c : Int → Int → Bool} {vi : Int → Int → Int} {l : List (Int × Int)} (h : (l.map (·.1)).Nodup) : ((madeI c (fun x _ => x) vi l).map (·.1)).Nodup := by
  unfold madeI
  rw [List.map_map]
  exact List.Sublist.nodup ((List.filter_sublist (p := fun p : Int × Int => c p.1 p.2)).map (·.1)) h
/-- the targets for sources -/
theorem nd_tgt {c : Int → Int → Bool} {vi : Int → Int → Int} {l : List (Int × Int)} (h : (l.map (·.2)).Nodup) : ((madeI c (fun _ y => y) vi l).map (·.1)).Nodup := by
  unfold madeI
  rw [List.map_map]
  exact List.Sublist.nodup ((List.filter_sublist (p := fun p : Int × Int => c p.1 p.2)).map (·.2)) h
section
variable {P : Program} {w : World} {K : PySem.W.Frag} {mg : Str → Option Value} {base : Heap}
theorem mk_map {C : Addr} {H : Hp} {d : Addr} {n : Int} {l : List (Int × Int)} {f : PF} {Q : VK} {E : XK} (hd : H d = some (.dK (kvI l))) (di : DI l f) (wf : WF n f) (h1 : 1 ≤ n) (h3 : n ≤ 300) (hl : l.length ≤ 1000)
    (q : ∀ r H', H r = none → Same H H' → IsMap C H' r n f → Q (.ref r) H') (x dx : Addr) (hx : H x = none) (hdx : H dx = none) (ne : dx ≠ x) :
    spInit C [.ref x, .int n, .ref d] (upd (upd H dx (.own x)) x (.ins C dx [])) (fun v H2 => v = .non ∧ Q (.ref x) H2) E := by
  have s0 : Same H (upd (upd H dx (.own x)) x (.ins C dx [])) := fun b o e => by
    rw [upd_ne (ne_of_none e hx), upd_ne (ne_of_none e hdx)]
    exact e
  refine ⟨x, dx, d, n, l, f, rfl, upd_same, s0 _ _ hd, di, wf, h1, h3, hl, fun H' D o nD hp hD => ⟨rfl, ?_⟩⟩
  refine q x H' hx (fun b u e => o b u (ne_of_none e hx) (s0 b u e)) ⟨⟨dx, D, hp, hD⟩, wf, h1, h3⟩
/-! ### size, arrows, common_size -/
def spSize (C : Addr) : Sp := fun vs H Q _ => ∃ m n f, vs = [.ref m] ∧ IsMap C H m n f ∧ Q (.int n) H
theorem ok_size (T : Txt K mg) : FnR P w K mg base CX0 1 T.f_Map_size (spSize T.C_Map) := by
  refine T.A_Map_size.ok sc_Map_size (fun vs H Q E h => ?_) (fun cdv A outer s H vs Q E hr h => ?_)
  · obtain ⟨m, n, f, rfl, _⟩ := h
    rfl
  · obtain ⟨m, n, f, rfl, ⟨⟨dx, D, h1, h2⟩, _⟩, q⟩ := h
    refine ⟨_, pss_one (ps_ret (pe_fld (pv 0) rfl)), ?_⟩
    exact ⟨_, rfl, m, _, dx, _, _, rfl, h1, T.o_Map.cl, T.na_own_size_Map, flds_size _ _, q⟩
def spArrows (C : Addr) : Sp := fun vs H Q _ => ∃ m n f, vs = [.ref m] ∧ IsMap C H m n f ∧ ∀ p, H p = none → Q (.ref p) (upd H p (.dK (kvI (tab n f))))
theorem ok_arrows (T : Txt K mg) : FnR P w K mg base CX0 1 T.f_Map_arrows (spArrows T.C_Map) := by
  refine T.A_Map_arrows.ok sc_Map_arrows (fun vs H Q E h => ?_) (fun cdv A outer s H vs Q E hr h => ?_)
  · obtain ⟨m, n, f, rfl, _⟩ := h
    rfl
  · obtain ⟨m, n, f, rfl, ⟨⟨dx, D, h1, h2⟩, _⟩, q⟩ := h
    refine ⟨_, pss_one (ps_ret (pe_callTy call_dictD (by rfl) T.n_dict (by decide +kernel) (pa_cons (pe_fld (pv 0) rfl) pa_nil))), ?_⟩
    exact ⟨_, rfl, m, _, dx, _, _, rfl, h1, T.o_Map.cl, T.na_own_arrows_Map, flds_arrows _ _, D, _, rfl, Rd.of h2, q⟩
theorem at_map {C : Addr} {H : Hp} {m : Addr} {n : Int} {f : PF} (h : IsMap C H m n f) : ∃ dx fs, H m = some (.ins C dx fs) := by
  obtain ⟨⟨dx, D, h1, _⟩, _⟩ := h
  exact ⟨dx, _, h1⟩
def spCommon (C : Addr) : Sp := fun vs H Q _ => ∃ a b n f g, vs = [.ref a, .ref b] ∧ IsMap C H a n f ∧ IsMap C H b n g ∧ Q (.int n) H
theorem ok_common (T : Txt K mg) : FnR P w K mg base CX0 3 T.f_common_size (spCommon T.C_Map) := by
  refine T.A_common_size.ok sc_common_size (fun vs H Q E h => ?_) (fun cdv A outer s H vs Q E hr h => ?_)
  · obtain ⟨a, b, n, f, g, rfl, _⟩ := h
    rfl
  · obtain ⟨a, b, n, f, g, rfl, ha, hb, q⟩ := h
    refine ⟨_, pss_cons (ps_if (pt_cmpR op_ne (pe_propR (pv 0) T.o_Map.cl T.P_Map_size (ok_size T) hr) (pe_propR (pv 1) T.o_Map.cl T.P_Map_size (ok_size T) hr) (nomark _)) (pss_one ps_never) pss_nil)
      (pss_one (ps_ret (pe_propR (pv 0) T.o_Map.cl T.P_Map_size (ok_size T) hr))), ?_⟩
    obtain ⟨dx, fs, h1⟩ := at_map ha
    obtain ⟨dy, gs, h2⟩ := at_map hb
    refine ⟨_, rfl, a, dx, fs, rfl, h1, a, n, f, rfl, ha, _, rfl, b, dy, gs, rfl, h2, b, n, g, rfl, hb, rfl, _, rfl, ?_⟩
    refine iteNS rfl ?_
    exact ⟨_, rfl, a, dx, fs, rfl, h1, a, n, f, rfl, ha, q⟩
/-! ### the operators -/
def spOp (C : Addr) (op : PF → PF → PF) : Sp := fun vs H Q _ => ∃ a b n f g, vs = [.ref a, .ref b] ∧ IsMap C H a n f ∧ IsMap C H b n g ∧ ∀ r H', H r = none → Same H H' → IsMap C H' r n (op f g) → Q (.ref r) H'
theorem mul_di {n : Int} {f g : PF} (wf : WF n f) (wg : WF n g) : DI (madeI (fun _ y => (g y).isSome) (fun x _ => x) (fun _ y => (g y).getD 0) (tab n f)) (mul f g) := by
  refine di_of (nd_src (keys_tab n f)) fun a b => ?_
  rw [mem_madeI]
  constructor
  · rintro ⟨x, y, h1, h2, rfl, rfl⟩
    have e := (mem_tab wf).mp h1
    unfold mul
    rw [e]
    cases hg : g y with
    | none => rw [hg] at h2; cases h2
    | some z => show g y = _; rw [hg]; rfl
  · intro h
    unfold mul at h
    cases e : f a with
    | none => rw [e] at h; cases h
    | some y =>
      rw [e] at h
      have h' : g y = some b := h
      exact ⟨a, y, (mem_tab wf).mpr e, by rw [h']; rfl, rfl, by rw [h']; rfl⟩
theorem ok_mul (T : Txt K mg) : FnR P w K mg base CX0 6 T.f_Map__mul (spOp T.C_Map mul) := by
  refine T.A_Map__mul.ok sc_Map__mul (fun vs H Q E h => ?_) (fun cdv A outer s H vs Q E hr h => ?_)
  · obtain ⟨a, b, n, f, g, rfl, _⟩ := h
    rfl
  · obtain ⟨a, b, n, f, g, rfl, ha, hb, q⟩ := h
    have hu := hu_of hr
    refine ⟨_, pss_cons (ps_if (pt_not (pt_val (pe_callB call_isi (by rfl) T.n_isinstance (by decide +kernel) (pa_cons (pv 1) (pa_cons (pe_glob (v := .ref T.C_Map) rfl T.g_Map rfl) pa_nil))))) (pss_one ps_never) pss_nil)
      (pss_cons (ps_set (i := 2) sc_Map__mul.nd rfl (Or.inl rfl) (pe_callR (ok_common T) (hr.mono (by decide)) T.A_common_size.kp rfl T.g_common_size pass0 (pa_cons (pv 0) (pa_cons (pv 1) pa_nil))))
      (pss_cons (ps_set (i := 3) sc_Map__mul.nd rfl (Or.inr rfl) (pe_propR (pv 1) T.o_Map.cl T.P_Map_arrows (ok_arrows T) (hr.mono (by decide))))
      (pss_one (ps_ret (pe_makeR T.M_Map (ok_init T) hr rfl T.g_Map pass0 (pa_cons (pv 2) (pa_cons (pe_lock (pe_dc (own := [("source", 4), ("target", 5)]) (g := gTup K 2 (gCons (gName 4) (gCons (gName 5) gNil))) rfl sc_Map__mul.nd (pi_items (pe_fld (pv 0) rfl))
        (blkOk_by (own := [("source", 4), ("target", 5)]) (N := n_Map__mul) (sc := defScope s_Map__mul) (by decide +kernel))
        (fun _ _ _ _ _ => pg_tup rfl (pgs_cons (pg_name (i := 4) sc_Map__mul.nd rfl (Or.inl rfl)) (pgs_cons (pg_name (i := 5) sc_Map__mul.nd rfl (Or.inl rfl)) pgs_nil)))
        (fun _ _ _ _ _ => pts_one (pt_cmp (pc_din hu (pv 5) (pv 3)))) (fun _ _ _ _ _ => pv 4) (fun _ _ _ _ _ => pe_dget hu (pv 3) (pv 5) (fun _ _ => rfl)))) pa_nil))))))), ?_⟩
    obtain ⟨dx, D, h1, h2⟩ := id ha.ob
    obtain ⟨dy, gs, h3⟩ := at_map hb
    refine ⟨_, rfl, _, _, _, _, true, rfl, .own _, tyx_ins T.o_Map h3, T.self_Map, _, rfl, iteF ?_⟩
    refine ⟨_, rfl, _, rfl, a, b, n, f, g, rfl, ha, hb, ?_⟩
    refine ⟨_, rfl, b, dy, gs, rfl, h3, b, n, g, rfl, hb, fun p hp => ?_⟩
    refine ⟨_, rfl, ?_⟩
    have s1 : Same H (upd H p (.dK (kvI (tab n g)))) := Same.new hp
    have npD : D ≠ p := ne_of_none h2 hp
    refine dc_items (fun _ y => (g y).isSome) (fun x _ => x) (fun _ y => .int ((g y).getD 0)) (s1 _ _ h2) (fun H' R r o => ?_) (fun _ _ => rfl) ?_ ?_ ?_ ?_
    · refine ⟨_, rfl, a, _, dx, _, _, rfl, o _ _ (ne_of h1 h2 (by intro z; cases z)) (s1 _ _ h1), T.o_Map.cl, T.na_own_arrows_Map, flds_arrows _ _, r⟩
    · intro x y hxy H1 o
      have hl1 : H1 p = some (.dK (kvI (tab n g))) := o _ _ npD.symm upd_same
      refine ⟨fun R r => ?_, fun hc => ⟨fun R r => ⟨_, rfl, r⟩, fun R r => ?_⟩⟩
      · refine ⟨_, rfl, _, rfl, p, _, rfl, DGet.k (k := Sum.inl y) hl1, _, rfl, ?_⟩
        rw [valV_kvI, Option.isSome_map, lk_tab hb.wf]
        exact r
      · cases hv : g y with
        | none => rw [hv] at hc; cases hc
        | some z =>
          rw [hv] at r
          refine ⟨_, rfl, _, rfl, p, .int z, rfl, ?_, r⟩
          have := DGet.k (k := Sum.inl y) hl1
          rw [valV_kvI, lk_tab hb.wf, hv] at this
          exact this
    · rw [madeD_I, kvI_keys]
      exact nd_inl (nd_src (keys_tab n f))
    · have h9 := ha.hi
      exact small1000 (Nat.le_trans (tab_len n f) (by omega))
    · intro D2 H2 nD2 hD2 s2
      rw [madeD_I] at hD2
      have h9 := ha.hi
      refine mk_map hD2 (mul_di ha.wf hb.wf) (wf_mul ha.wf hb.wf) ha.lo ha.hi (Nat.le_trans (madeI_len ..) (Nat.le_trans (tab_len n f) (by omega))) fun r H3 nr s3 hm => ?_
      exact q r H3 ((s1.trans s2).free nr) ((s1.trans s2).trans s3) hm
end
end My
namespace My
open PySem L2 U StX PM
section
variable {P : Program} {w : World} {K : PySem.W.Frag} {mg : Str → Option Value} {base : Heap}
/-! ### ~f -/
theorem inv_di {n : Int} {f : PF} (wf : WF n f) : DI (madeI (fun _ _ => true) (fun _ y => y) (fun x _ => x) (tab n f)) (inv n f) := by
  refine di_of (nd_tgt (vals_tab wf)) fun a b => ?_
  rw [mem_madeI, inv_iff wf]
  constructor
  · rintro ⟨x, y, h1, _, rfl, rfl⟩
    exact (mem_tab wf).mp h1
  · intro h
    exact ⟨b, a, (mem_tab wf).mpr h, rfl, rfl, rfl⟩
def spInv (C : Addr) : Sp := fun vs H Q _ => ∃ a n f, vs = [.ref a] ∧ IsMap C H a n f ∧ ∀ r H', H r = none → Same H H' → IsMap C H' r n (inv n f) → Q (.ref r) H'
theorem ok_invert (T : Txt K mg) : FnR P w K mg base CX0 6 T.f_Map__invert (spInv T.C_Map) := by
  refine T.A_Map__invert.ok sc_Map__invert (fun vs H Q E h => ?_) (fun cdv A outer s H vs Q E hr h => ?_)
  · obtain ⟨a, n, f, rfl, _⟩ := h
    rfl
  · obtain ⟨a, n, f, rfl, ha, q⟩ := h
    refine ⟨_, pss_one (ps_ret (pe_makeR T.M_Map (ok_init T) hr rfl T.g_Map pass0 (pa_cons (pe_fld (pv 0) rfl) (pa_cons (pe_lock (pe_dc (own := [("source", 1), ("target", 2)]) (g := gTup K 2 (gCons (gName 1) (gCons (gName 2) gNil))) (tt := tYes) rfl sc_Map__invert.nd (pi_items (pe_fld (pv 0) rfl))
        (blkOk_by (own := [("source", 1), ("target", 2)]) (N := n_Map__invert) (sc := defScope s_Map__invert) (by decide +kernel))
        (fun _ _ _ _ _ => pg_tup rfl (pgs_cons (pg_name (i := 1) sc_Map__invert.nd rfl (Or.inl rfl)) (pgs_cons (pg_name (i := 2) sc_Map__invert.nd rfl (Or.inl rfl)) pgs_nil)))
        (fun _ _ _ _ _ => pts_nil) (fun _ _ _ _ _ => pv 2) (fun _ _ _ _ _ => pv 1))) pa_nil)))), ?_⟩
    obtain ⟨dx, D, h1, h2⟩ := id ha.ob
    have h9 := ha.hi
    refine ⟨_, rfl, a, _, dx, _, _, rfl, h1, T.o_Map.cl, T.na_own_size_Map, flds_size _ _, ?_⟩
    refine dc_items (fun _ _ => true) (fun _ y => y) (fun x _ => .int x) h2 (fun H' R r o => ?_) (fun _ _ => rfl) ?_ ?_ ?_ ?_
    · refine ⟨_, rfl, a, _, dx, _, _, rfl, o _ _ (ne_of h1 h2 (by intro z; cases z)) h1, T.o_Map.cl, T.na_own_arrows_Map, flds_arrows _ _, r⟩
    · intro x y hxy H1 o
      exact ⟨fun R r => r, fun _ => ⟨fun R r => ⟨_, rfl, r⟩, fun R r => ⟨_, rfl, r⟩⟩⟩
    · rw [madeD_I, kvI_keys]
      exact nd_inl (nd_tgt (vals_tab ha.wf))
    · exact small1000 (Nat.le_trans (tab_len n f) (by omega))
    · intro D2 H2 nD2 hD2 s2
      rw [madeD_I] at hD2
      refine mk_map hD2 (inv_di ha.wf) (wf_inv ha.wf) ha.lo ha.hi (Nat.le_trans (madeI_len ..) (Nat.le_trans (tab_len n f) (by omega))) fun r H3 nr s3 hm => ?_
      exact q r H3 (s2.free nr) (s2.trans s3) hm
/-! ### f & g, f - g -/
theorem isD_of {H : Hp} {a : Addr} {kvs : List (Key × V)} (h : H a = some (.dK kvs)) : IsD H a := by
  first | exact .inl ⟨_, .inl h⟩ | exact ⟨_, .inl h⟩ | exact .inl ⟨_, h⟩ | exact .inr (.inl ⟨_, h⟩)
end
end My
namespace My
open PySem L2 U StX PM
section
variable {P : Program} {w : World} {K : PySem.W.Frag} {mg : Str → Option Value} {base : Heap}
/-! ### is_part, <=, <, >= -/
/-! ### == -/
def eqB (n : Int) (f : PF) (n' : Int) (g : PF) : Bool := decide (n = n') && dEq (kvI (tab n f)) (kvI (tab n' g))
theorem eqB_self {n : Int} {f : PF} (w : WF n f) : eqB n f n f = true := by
  unfold eqB dEq
  rw [decide_eq_true rfl]
  simp only [Bool.true_and, beq_self_eq_true, List.all_eq_true, decide_eq_true_eq]
  intro p hp
  unfold kvI at hp
  obtain ⟨⟨x, y⟩, hq, rfl⟩ := List.mem_map.mp hp
  show valV (kvI (tab n f)) (Sum.inl x) = some (V.int y)
  rw [valV_kvI, lk_tab w, (mem_tab w).mp hq]
  rfl
def spEqM (C : Addr) : Sp := fun vs H Q _ => ∃ a b n f n' g, vs = [.ref a, .ref b] ∧ IsMap C H a n f ∧ IsMap C H b n' g ∧ Q (.bl (eqB n f n' g)) H
theorem ok_eq (T : Txt K mg) : FnR P w K mg base CX0 6 T.f_Map__eq (spEqM T.C_Map) := by
  refine T.A_Map__eq.ok sc_Map__eq (fun vs H Q E h => ?_) (fun cdv A outer s H vs Q E hr h => ?_)
  · obtain ⟨a, b, n, f, n', g, rfl, _⟩ := h
    rfl
  · obtain ⟨a, b, n, f, n', g, rfl, ha, hb, q⟩ := h
    have hu := hu_of hr
    obtain ⟨dx, D, h1, h2⟩ := id ha.ob
    obtain ⟨dy, D', h3, h4⟩ := id hb.ob
    refine ⟨_, pss_cons (ps_if (pt_not (pt_val (pe_callB call_isi (by rfl) T.n_isinstance (by decide +kernel) (pa_cons (pv 1) (pa_cons (pe_glob (v := .ref T.C_Map) rfl T.g_Map rfl) pa_nil))))) (pss_one (ps_ret pe_bl)) pss_nil)
      (pss_one (ps_ret (pe_and (pe_cmpR op_eq (pe_fld (pv 0) rfl) (pe_fld (pv 1) rfl) (nomark _)) (pe_one (pe_cmpR (op_eqDI (Nat.lt_of_succ_lt hu)) (pe_fld (pv 0) rfl) (pe_fld (pv 1) rfl) (nomark _)))))), ?_⟩
    refine ⟨_, rfl, _, _, _, _, true, rfl, .own _, tyx_ins T.o_Map h3, T.self_Map, _, rfl, iteF ?_⟩
    refine ⟨_, rfl, a, _, dx, _, _, rfl, h1, T.o_Map.cl, T.na_own_size_Map, flds_size _ _, _, rfl, b, _, dy, _, _, rfl, h3, T.o_Map.cl, T.na_own_size_Map, flds_size _ _, rfl, _, rfl, ?_⟩
    have e0 : decide (V.int n = V.int n') = decide (n = n') := by
      by_cases h : n = n'
      · subst h; simp
      · have : ¬ V.int n = V.int n' := fun z => h (V.int.inj z)
        simp [h]
    rw [e0]
    refine ifD (fun hn => ?_) (fun hn => ?_)
    · refine ⟨_, rfl, a, _, dx, _, _, rfl, h1, T.o_Map.cl, T.na_own_arrows_Map, flds_arrows _ _, _, rfl, b, _, dy, _, _, rfl, h3, T.o_Map.cl, T.na_own_arrows_Map, flds_arrows _ _, D, D', _, _, rfl, rfl, h2, h4, intVals_kvI _, intVals_kvI _, ?_⟩
      have := q
      unfold eqB at this
      rw [decide_eq_true hn, Bool.true_and] at this
      exact this
    · have := q
      unfold eqB at this
      rw [decide_eq_false hn, Bool.false_and] at this
      exact this
end
end My
namespace My
open PySem L2 U StX PM
section
variable {P : Program} {w : World} {K : PySem.W.Frag} {mg : Str → Option Value} {base : Heap}
def spChk : Sp := fun vs H Q _ => ∃ n : Int, vs = [.int n] ∧ 1 ≤ n ∧ n ≤ 300 ∧ Q .non H
theorem ok_check_size (T : Txt K mg) : FnR P w K mg base CX0 3 T.f_check_size spChk := by
  refine T.A_check_size.ok sc_check_size (fun vs H Q E h => ?_) (fun cdv A outer s H vs Q E hr h => ?_)
  · obtain ⟨n, rfl, _⟩ := h
    rfl
  · obtain ⟨n, rfl, h1, h3, q⟩ := h
    obtain ⟨tk, hms⟩ := T.v_MAX_SIZE
    refine ⟨_, pss_one (ps_if (pt_not (pt_val (pe_callR (ok_in_range T) hr T.A_in_range.kp rfl T.g_in_range pass0 (pa_cons (pv 0) (pa_cons pe_int (pa_cons (pe_glob (v := .int 300) rfl hms ⟨_, rfl⟩) pa_nil)))))) (pss_one ps_never) pss_nil), ?_⟩
    refine ⟨_, rfl, .int n, 1, 300, rfl, trivial, _, rfl, ?_⟩
    have e1 : inR (.int n) 1 300 = true := by simp [inR, h1, h3]
    rw [e1]
    exact iteF q
theorem di_id (N : Nat) : DI ((List.range N).map fun (i : Nat) => ((i : Int), (i : Int))) (idn (N : Int)) := by
  refine di_of ?_ fun a b => ?_
  · rw [List.map_map]
    have : ∀ n : Nat, ((List.range n).map ((fun p : Int × Int => p.1) ∘ fun (i : Nat) => ((i : Int), (i : Int)))).Nodup := by
      intro n
      induction n with
      | zero => exact List.nodup_nil
      | succ n ih =>
        rw [List.range_succ, List.map_append, List.nodup_append]
        refine ⟨ih, by simp, fun a ha b hb e => ?_⟩
        obtain ⟨i, hi, rfl⟩ := List.mem_map.mp ha
        rw [List.mem_range] at hi
        simp at hb
        have e' : (i : Int) = b := e
        omega
    exact this N
  · rw [List.mem_map]
    unfold idn
    constructor
    · rintro ⟨i, hi, e⟩
      rw [List.mem_range] at hi
      cases e
      rw [if_pos ⟨by omega, by omega⟩]
    · intro h
      split at h
      · rename_i hc
        cases h
        exact ⟨a.toNat, List.mem_range.mpr (by omega), by rw [Int.toNat_of_nonneg hc.1]⟩
      · cases h
theorem madeR_id (N : Nat) : madeR (fun _ => true) (fun x => x) (fun k => .int k) N = kvI ((List.range N).map fun (i : Nat) => ((i : Int), (i : Int))) := by
  unfold madeR kvI
  rw [List.map_map]
  congr 1
  exact List.filter_eq_self.mpr fun _ _ => rfl
def spNew (C : Addr) (op : Int → PF) : Sp := fun vs H Q _ => ∃ n : Int, vs = [.ref C, .int n] ∧ 1 ≤ n ∧ n ≤ 300 ∧ ∀ r H', H r = none → Same H H' → IsMap C H' r n (op n) → Q (.ref r) H'
theorem ok_identity (T : Txt K mg) : FnR P w K mg base CX0 6 T.f_Map_identity (spNew T.C_Map idn) := by
  refine T.A_Map_identity.ok sc_Map_identity (fun vs H Q E h => ?_) (fun cdv A outer s H vs Q E hr h => ?_)
  · obtain ⟨n, rfl, _⟩ := h
    rfl
  · obtain ⟨n, rfl, h1, h3, q⟩ := h
    refine ⟨_, pss_cons (ps_expr (pe_callR (ok_check_size T) (hr.mono (by decide)) T.A_check_size.kp rfl T.g_check_size pass0 (pa_cons (pv 1) pa_nil)))
      (pss_one (ps_ret (pe_makeL (i := 0) T.M_Map (ok_init T) hr rfl (Or.inl rfl) pass0 (pa_cons (pv 1) (pa_cons (pe_dc (own := [("element", 2)]) (g := gName 2) (tt := tYes) rfl sc_Map_identity.nd (pi_range1 rfl T.n_range (pa_cons (pv 1) pa_nil)) (blkOk_by (own := [("element", 2)]) (N := n_Map_identity) (sc := defScope s_Map_identity) (by decide +kernel))
        (fun _ _ _ _ _ => pg_name (i := 2) sc_Map_identity.nd rfl (Or.inl rfl)) (fun _ _ _ _ _ => pts_nil) (fun _ _ _ _ _ => pv 2) (fun _ _ _ _ _ => pv 2)) pa_nil))))), ?_⟩
    refine ⟨_, rfl, n, rfl, h1, h3, rfl, _, rfl, ?_⟩
    refine dc_range (n := n.toNat) (fun _ => true) (fun k => .int k) (fun R r => ⟨_, rfl, n, rfl, by omega, by omega, r⟩) (fun _ => rfl) ?_ (small1000 (by omega)) ?_
    · intro k hk H1 s1
      refine ⟨fun R r => r, fun _ => ⟨fun R r => ⟨_, rfl, ?_⟩, fun R r => ⟨_, rfl, ?_⟩⟩⟩
      · rw [Int.zero_add]; exact r
      · rw [Int.zero_add]; exact r
    · intro D H1 nD hD s1
      rw [madeR_id] at hD
      have e : ((n.toNat : Nat) : Int) = n := Int.toNat_of_nonneg (by omega)
      have di := di_id n.toNat
      rw [e] at di
      refine mk_map hD di (wf_idn n) h1 h3 (by simp; omega) fun r H3 nr s3 hm => ?_
      exact q r H3 (s1.free nr) (s1.trans s3) hm
theorem di_nil : DI [] emp := ⟨List.nodup_nil, fun _ => rfl⟩
theorem ok_empty (T : Txt K mg) : FnR P w K mg base CX0 6 T.f_Map_empty (spNew T.C_Map fun _ => emp) := by
  refine T.A_Map_empty.ok sc_Map_empty (fun vs H Q E h => ?_) (fun cdv A outer s H vs Q E hr h => ?_)
  · obtain ⟨n, rfl, _⟩ := h
    rfl
  · obtain ⟨n, rfl, h1, h3, q⟩ := h
    refine ⟨_, pss_cons (ps_expr (pe_callR (ok_check_size T) (hr.mono (by decide)) T.A_check_size.kp rfl T.g_check_size pass0 (pa_cons (pv 1) pa_nil)))
      (pss_one (ps_ret (pe_makeL (i := 0) T.M_Map (ok_init T) hr rfl (Or.inl rfl) pass0 (pa_cons (pv 1) (pa_cons pe_dnewK pa_nil))))), ?_⟩
    refine ⟨_, rfl, n, rfl, h1, h3, rfl, _, rfl, fun p hp => ?_⟩
    have s1 : Same H (upd H p (.dK [])) := Same.new hp
    refine mk_map (l := []) upd_same di_nil (wf_emp n) h1 h3 (by simp) fun r H3 nr s3 hm => ?_
    exact q r H3 (s1.free nr) (s1.trans s3) hm
/-! ### first_clash where there is none, | -/
end
end My
namespace My
open PySem L2 U StX PM
section
variable {P : Program} {w : World} {K : PySem.W.Frag} {mg : Str → Option Value} {base : Heap}
theorem dgetI {H : Hp} {d : Addr} {l : List (Int × Int)} {f : PF} (h : H d = some (.dK (kvI l))) (di : DI l f) (x : Int) : DGet H d (.int x) ((f x).map V.int) := by
  have := DGet.k (k := Sum.inl x) h
  rw [valV_kvI, di.2] at this
  exact this
theorem lastI (pre : List Int) (z : Int) : atI ((pre ++ [z]).map V.int) (-1) = some (V.int z) := by
  rw [List.map_append]
  exact atI_last _ _
def spRow : Sp := fun vs H Q _ => ∃ d l n f e, vs = [.ref d, .int e] ∧ H d = some (.dK (kvI l)) ∧ DI l f ∧ WF n f ∧ n ≤ 300 ∧ 0 ≤ e ∧ e < n ∧
  ∀ r H' pre z, H r = none → Same H H' → H' r = some (.lst ((pre ++ [z]).map V.int)) → Row f e (pre ++ [z]) → (f z = none ∨ f z = some e) → Q (.ref r) H'
theorem ok_row_from (T : Txt K mg) : FnR P w K mg base CX0 1 T.f_row_from spRow := by
  refine T.A_row_from.ok sc_row_from (fun vs H Q E h => ?_) (fun cdv A outer s H vs Q E hr h => ?_)
  · obtain ⟨d, l, n, f, e, rfl, _⟩ := h
    rfl
  · obtain ⟨d, l, n, f, e, rfl, hd, di, wf, hn, e0, e1, q⟩ := h
    have hu := hu_of hr
    refine ⟨_, pss_cons (ps_set (i := 2) sc_row_from.nd rfl (Or.inl rfl) (pe_lst (pa_cons (pv 1) pa_nil)))
      (pss_cons (ps_while PassesOwn.never (PW.pt (pw_and (pt_cmp (pc_din hu (pe_ix ix_list (pv 2) (pe_un un_neg pe_int) (fun _ _ => rfl)) (pv 0)))
          (pw_and1 (pt_cmpR op_ne (pe_dget hu (pv 0) (pe_ix ix_list (pv 2) (pe_un un_neg pe_int) (fun _ _ => rfl)) (fun _ _ => rfl)) (pv 1) (nomark _)))))
        (pss_one (ps_expr (pe_bm PySem.F.plainAttrs_list PySem.F.slot_list_append PySem.F.type_list_append mt_append (pv 2) (pa_cons (pe_dget hu (pv 0) (pe_ix ix_list (pv 2) (pe_un un_neg pe_int) (fun _ _ => rfl)) (fun _ _ => rfl)) pa_nil)))))
      (pss_one (ps_ret (pv 2)))), ?_⟩
    refine ⟨_, rfl, (by show 1 ≤ sizeLine; decide), fun r hr0 => ?_⟩
    have row0 : Row f e ([] ++ [e]) := ⟨rfl, fun i a b h1 h2 => by simp at h2⟩
    refine ⟨fun m σ H' => ∃ pre z, σ = [some (.ref d), some (.int e), some (.ref r)] ∧ H' r = some (.lst ((pre ++ [z]).map V.int)) ∧ Same H H' ∧ Row f e (pre ++ [z]) ∧ m = 300 - pre.length, ⟨300, [], e, rfl, upd_same, Same.new hr0, row0, rfl⟩, ?_⟩
    rintro m σ H' ⟨pre, z, rfl, p1, p2, p3, rfl⟩
    have hd' := p2 _ _ hd
    have hlen := len_range (p3.nd wf) (p3.dom wf e0 e1)
    rw [List.length_append, List.length_singleton] at hlen
    refine ⟨_, rfl, 1, rfl, r, _, -1, .int z, rfl, rfl, SqL.of p1, lastI _ _, _, rfl, d, _, rfl, dgetI hd' di z, _, rfl, ?_⟩
    cases hz : f z with
    | none =>
      refine iteF ?_
      refine iteF ?_
      exact ⟨_, rfl, q r H' pre z hr0 p2 p1 p3 (.inl hz)⟩
    | some y =>
      refine iteT ?_
      refine ⟨_, rfl, _, rfl, 1, rfl, r, _, -1, .int z, rfl, rfl, SqL.of p1, lastI _ _, d, .int y, rfl, ?_, _, rfl, rfl, _, rfl, ?_⟩
      · have := dgetI hd' di z
        rw [hz] at this
        exact this
      have nr : d ≠ r := ne_of_none hd hr0
      refine ifN (fun hne => ?_) (fun heq => ?_)
      · have hne' : y ≠ e := fun z => hne (congrArg V.int z)
        have row' := p3.more hz hne'
        have hlen' := len_range (row'.nd wf) (row'.dom wf e0 e1)
        rw [List.length_append, List.length_append, List.length_singleton, List.length_singleton] at hlen'
        refine ⟨fun σ' H2 => ∃ m', m' < 300 - pre.length ∧ _, fun _ _ h => h, ?_⟩
        refine ⟨_, rfl, .inl ⟨rfl, _, SqL.of p1⟩, _, rfl, _, rfl, 1, rfl, r, _, -1, .int z, rfl, rfl, SqL.of p1, lastI _ _, d, .int y, rfl, ?_, r, _, .int y, rfl, rfl, p1, ?_, ?_⟩
        · have := dgetI hd' di z
          rw [hz] at this
          exact this
        · rw [List.length_map, List.length_append, List.length_singleton]
          exact small1000 (by omega)
        · refine ⟨300 - (pre ++ [z]).length, by rw [List.length_append, List.length_singleton]; omega, pre ++ [z], y, rfl, ?_, ?_, row', rfl⟩
          · rw [upd_same, List.map_append (l₁ := pre ++ [z])]
            rfl
          · intro b o h
            rw [upd_ne (ne_of_none h hr0)]
            exact p2 b o h
      · have : y = e := V.int.inj heq
        subst this
        exact ⟨_, rfl, q r H' pre z hr0 p2 p1 p3 (.inr hz)⟩
end
end My
namespace My
open PySem L2 U StX PM
/-! ### comprehensions over values and keys -/
theorem tgt_len (l : List (Int × Int)) (i : Nat) : (tgt (l.take i)).length ≤ l.length := by
  unfold tgt; rw [List.length_map, List.length_take]; omega
theorem dc_vals {d : Addr} {l : List (Int × Int)} {te : TE} {i : Nat} {tt : TT} {tk tv : TE} {vs : List Nat} {σ : L2.St} {H : Hp} {Q : VK}
    (hd : H d = some (.dK (kvI l))) (hte : ∀ H' (R : VK), R (.ref d) H' → Off d H H' → te σ H' R)
    (hw : ∀ a, wipe ((wipe σ vs).set i a) vs = wipe σ vs)
    (ht : ∀ (y : Int) (H1 : Hp) (R : Bool → Hp → Prop), R true H1 → tt ((wipe σ vs).set i (some (.int y))) H1 R) (hk : ∀ (y : Int) (H1 : Hp) (R : VK), R (.int y) H1 → tk ((wipe σ vs).set i (some (.int y))) H1 R) (hv : ∀ (y : Int) (H1 : Hp) (R : VK), R (.bl true) H1 → tv ((wipe σ vs).set i (some (.int y))) H1 R)
    (nd : (l.map (·.2)).Nodup) (hz : l.length < sizeLine)
    (hq : ∀ D H', H D = none → H' D = some (.dK (tgt l)) → L2.Same H H' → Q (.ref D) H') :
    tLockE (tDc (iVals te) (gName i) tt tk tv vs) σ H Q := by
  refine ⟨d, _, hd, trivial, fun od => ?_⟩
  refine hte _ _ ⟨d, od, kvI l, rfl, upd_same, fun D hD => ?_⟩ Off.lock
  have hDd : D ≠ d := fun e => by rw [e, upd_same] at hD; cases hD
  have hD0 : H D = none := by rw [upd_ne hDd] at hD; exact hD
  refine dc_it walk_values (fun k H' => H' d = some (.frz od (.dK (kvI l))) ∧ Off d H H' ∧ H' D = some (.dK (tgt (l.take k)))) ⟨?_, Off.lock.mut hD0, upd_same⟩ (fun k H' _ p => p.1) ?_ ?_
  · rw [upd_ne hDd.symm]; exact upd_same
  · rintro k v H' H'' hk1 ⟨p1, p2, p3⟩ ⟨rfl, kk, e1⟩
    obtain ⟨x, y, exy, rfl, rfl⟩ := kvI_get e1
    refine ⟨hw _, ?_⟩
    refine ht y _ _ ?_
    refine iteT ?_
    refine hk _ _ _ (hv _ _ _ ⟨_, Sum.inl y, rfl, p3, Nat.lt_of_le_of_lt (tgt_len ..) hz, ?_⟩)
    refine ⟨?_, p2.mut hD0, ?_⟩
    · rw [upd_ne hDd.symm]; exact p1
    · have nin : y ∉ (l.take k).map (·.2) := by
        intro hm
        have e2 : l.map (·.2) = (l.take k).map (·.2) ++ (l.drop k).map (·.2) := by rw [← List.map_append, List.take_append_drop]
        rw [e2, List.nodup_append] at nd
        refine nd.2.2 _ hm y (List.mem_map.mpr ⟨(x, y), ?_, rfl⟩) rfl
        refine List.mem_iff_getElem?.mpr ⟨0, ?_⟩
        rw [List.getElem?_drop]
        exact exy
      rw [upd_same, putK_new _ (valV_none fun z => nin (tgt_key.mp z)), take_more exy]
      unfold tgt
      rw [List.map_append]
      rfl
  · rintro H' ⟨p1, p2, p3⟩
    rw [kvI_length, List.take_length] at p3
    refine ⟨p1, hq D _ hD0 ?_ (p2.back hd)⟩
    rw [upd_ne hDd]
    exact p3
theorem lc_keys {d : Addr} {l : List (Int × Int)} {te : TE} {i : Nat} {tt : TT} {tv : TE} {vs : List Nat} {σ : L2.St} {H : Hp} {Q : VK} (c : Int → Bool) (vf : Int → V)
    (hd : H d = some (.dK (kvI l))) (hte : ∀ H' (R : VK), R (.ref d) H' → Off d H H' → te σ H' R)
    (hw : ∀ a, wipe ((wipe σ vs).set i a) vs = wipe σ vs)
    (hb : ∀ (x : Int) (H1 : Hp), Off d H H1 → (∀ R : Bool → Hp → Prop, R (c x) H1 → tt ((wipe σ vs).set i (some (.int x))) H1 R) ∧ (∀ R : VK, R (vf x) H1 → tv ((wipe σ vs).set i (some (.int x))) H1 R))
    (hz : l.length < sizeLine)
    (hq : ∀ D H', H D = none → H' D = some (.lst (madeL (fun x _ => c x) (fun x _ => vf x) l)) → L2.Same H H' → Q (.ref D) H') :
    tLockE (tLc (iKeys te) (gName i) tt tv vs) σ H Q := by
  refine ⟨d, _, hd, trivial, fun od => ?_⟩
  refine hte _ _ ⟨d, od, rfl, .inl ⟨kvI l, upd_same, fun D hD => ?_⟩⟩ Off.lock
  have hDd : D ≠ d := fun e => by rw [e, upd_same] at hD; cases hD
  have hD0 : H D = none := by rw [upd_ne hDd] at hD; exact hD
  refine lc_it walk_keys (fun k H' => H' d = some (.frz od (.dK (kvI l))) ∧ Off d H H' ∧ H' D = some (.lst (madeL (fun x _ => c x) (fun x _ => vf x) (l.take k)))) ⟨?_, Off.lock.mut hD0, upd_same⟩ (fun k H' _ p => p.1) ?_ ?_
  · rw [upd_ne hDd.symm]; exact upd_same
  · rintro k v H' H'' hk1 ⟨p1, p2, p3⟩ ⟨rfl, kk, vv, e1, rfl⟩
    obtain ⟨x, y, exy, rfl, rfl⟩ := kvI_get e1
    refine ⟨hw _, ?_⟩
    obtain ⟨b1, b2⟩ := hb x _ p2
    refine b1 _ ?_
    have st := madeL_step (c := fun x _ => c x) (vf := fun x _ => vf x) exy
    cases hc : c x with
    | true =>
      rw [hc, if_pos rfl] at st
      refine iteT (b2 _ ⟨_, p3, Nat.lt_of_le_of_lt (madeL_len ..) hz, ?_⟩)
      refine ⟨?_, p2.mut hD0, ?_⟩
      · rw [upd_ne hDd.symm]; exact p1
      · rw [upd_same, st]
    | false =>
      rw [hc, if_neg Bool.false_ne_true, List.append_nil] at st
      refine iteF ⟨p1, p2, ?_⟩
      rw [st]
      exact p3
  · rintro H' ⟨p1, p2, p3⟩
    rw [kvI_length, List.take_length] at p3
    refine ⟨p1, hq D _ hD0 ?_ (p2.back hd)⟩
    rw [upd_ne hDd]
    exact p3
/-! ### seen and found -/
def kvB (sl : List Int) : List (Key × V) := sl.map fun x => (Sum.inl x, V.bl true)
theorem kvB_key {sl : List Int} {x : Int} : (Sum.inl x : Key) ∈ (kvB sl).map (·.1) ↔ x ∈ sl := by
  unfold kvB
  rw [List.map_map]
  constructor
  · intro h
    obtain ⟨p, hp, e⟩ := List.mem_map.mp h
    cases Sum.inl.inj e
    exact hp
  · intro h
    exact List.mem_map.mpr ⟨x, h, rfl⟩
theorem kvB_val (sl : List Int) (x : Int) : (valV (kvB sl) (Sum.inl x : Key)).isSome = decide (x ∈ sl) := by
  by_cases h : x ∈ sl
  · rw [decide_eq_true h, ← valV_any, List.any_eq_true]
    exact ⟨(Sum.inl x, V.bl true), List.mem_map.mpr ⟨x, h, rfl⟩, by simp⟩
  · rw [decide_eq_false h, valV_none fun z => h (kvB_key.mp z)]
    rfl
theorem kvB_put (sl : List Int) (x : Int) : ∃ sl', putK (kvB sl) (Sum.inl x : Key) (V.bl true) = kvB sl' ∧ (∀ z, z ∈ sl' ↔ z ∈ sl ∨ z = x) ∧ (sl.Nodup → sl'.Nodup) := by
  by_cases h : x ∈ sl
  · refine ⟨sl, ?_, fun z => ⟨.inl, fun hz => ?_⟩, id⟩
    · unfold putK
      have e : ((kvB sl).any fun kv => decide (kv.1 = (Sum.inl x : Key))) = true := by
        rw [valV_any, kvB_val, decide_eq_true h]
      rw [if_pos e]
      unfold kvB
      rw [List.map_map]
      refine List.map_congr_left fun a _ => ?_
      show (if (Sum.inl a : Key) = Sum.inl x then ((Sum.inl a : Key), V.bl true) else (Sum.inl a, V.bl true)) = _
      split <;> rfl
    · rcases hz with hz | rfl
      · exact hz
      · exact h
  · refine ⟨sl ++ [x], ?_, fun z => by simp, fun nd => ?_⟩
    · rw [putK_new _ (valV_none fun z => h (kvB_key.mp z))]
      unfold kvB
      rw [List.map_append]
      rfl
    · rw [List.nodup_append]
      refine ⟨nd, by simp, fun a ha b hb e => ?_⟩
      simp at hb
      subst hb
      exact h (e ▸ ha)
structure Fnd (n : Int) (f : PF) (k : Nat) (fl : List (Int × Int)) (sl : List Int) : Prop where
  nd : (fl.map (·.1)).Nodup
  at_ : ∀ x, lk fl x = if x ∈ sl then iter f k x else none
  sn : sl.Nodup
  dm : ∀ x ∈ sl, 0 ≤ x ∧ x < n
theorem Fnd.len {n : Int} {f : PF} {k : Nat} {fl : List (Int × Int)} {sl : List Int} (h : Fnd n f k fl sl) : fl.length ≤ n.toNat := by
  have := len_range (n := n) h.nd (fun x hx => by
    obtain ⟨⟨a, b⟩, hp, rfl⟩ := List.mem_map.mp hx
    have e := lk_some h.nd hp
    rw [h.at_] at e
    by_cases hm : a ∈ sl
    · exact h.dm _ hm
    · rw [if_neg hm] at e; cases e)
  rw [List.length_map] at this
  exact this
theorem Fnd.slen {n : Int} {f : PF} {k : Nat} {fl : List (Int × Int)} {sl : List Int} (h : Fnd n f k fl sl) : sl.length ≤ n.toNat := len_range h.sn h.dm
theorem Fnd.put {n : Int} {f : PF} {k : Nat} {fl fl' : List (Int × Int)} {sl sl' : List Int} {x y : Int} (h : Fnd n f k fl sl) (h1 : ∀ z, z ∈ sl' ↔ z ∈ sl ∨ z = x) (h2 : sl.Nodup → sl'.Nodup) (hx : 0 ≤ x ∧ x < n)
    (e : iter f k x = some y) (n1 : (fl.map (·.1)).Nodup → (fl'.map (·.1)).Nodup) (a1 : ∀ z, lk fl' z = if z = x then some y else lk fl z) : Fnd n f k fl' sl' := by
  refine ⟨n1 h.nd, fun z => ?_, h2 h.sn, fun z hz => ?_⟩
  · rw [a1]
    by_cases hz : z = x
    · subst hz
      rw [if_pos rfl, if_pos ((h1 z).mpr (.inr rfl)), e]
    · rw [if_neg hz, h.at_]
      by_cases hs : z ∈ sl
      · rw [if_pos hs, if_pos ((h1 z).mpr (.inl hs))]
      · rw [if_neg hs, if_neg fun q => ((h1 z).mp q).elim hs hz]
  · rcases (h1 z).mp hz with q | rfl
    · exact h.dm z q
    · exact hx
theorem Fnd.skip {n : Int} {f : PF} {k : Nat} {fl : List (Int × Int)} {sl sl' : List Int} {x : Int} (h : Fnd n f k fl sl) (h1 : ∀ z, z ∈ sl' ↔ z ∈ sl ∨ z = x) (h2 : sl.Nodup → sl'.Nodup) (hx : 0 ≤ x ∧ x < n)
    (e : iter f k x = none) : Fnd n f k fl sl' := by
  refine ⟨h.nd, fun z => ?_, h2 h.sn, fun z hz => ?_⟩
  · rw [h.at_]
    by_cases hs : z ∈ sl
    · rw [if_pos hs, if_pos ((h1 z).mpr (.inl hs))]
    · rw [if_neg hs]
      by_cases hz : z = x
      · subst hz
        rw [if_pos ((h1 z).mpr (.inr rfl)), e]
      · rw [if_neg fun q => ((h1 z).mp q).elim hs hz]
  · rcases (h1 z).mp hz with q | rfl
    · exact h.dm z q
    · exact hx
theorem Fnd.di {n : Int} {f : PF} {k : Nat} {fl : List (Int × Int)} {sl : List Int} (h : Fnd n f (k + 1) fl sl) (all : ∀ x y, f x = some y → x ∈ sl) : DI fl (iter f (k + 1)) := by
  refine ⟨h.nd, fun x => ?_⟩
  rw [h.at_]
  by_cases hs : x ∈ sl
  · rw [if_pos hs]
  · rw [if_neg hs, iter_head]
    cases e : f x with
    | none => rfl
    | some y => exact absurd (all x y e) hs
end My
namespace My
open PySem L2 U StX PM
section
variable {P : Program} {w : World} {K : PySem.W.Frag} {mg : Str → Option Value} {base : Heap}
def spMoved : Sp := fun vs H Q _ => ∃ d l n f, ∃ k : Nat, vs = [.ref d, .int ((k + 1 : Nat) : Int)] ∧ H d = some (.dK (kvI l)) ∧ DI l f ∧ WF n f ∧ n ≤ 300 ∧ l.length ≤ 300 ∧
  ∀ r H' l', H r = none → Same H H' → H' r = some (.dK (kvI l')) → DI l' (iter f (k + 1)) → l'.length ≤ 300 → Q (.ref r) H'
theorem get_map {xs : List Int} {i : Nat} {a : Int} (h : xs[i]? = some a) : (xs.map V.int)[i]? = some (V.int a) := by
  rw [List.getElem?_map, h]; rfl
theorem for_cat {K : PySem.W.Frag} {t u : TE} {g : TG} {tb : TS} {D : Ends} {σ : L2.St} {H : Hp} (h : tLockE t σ H (fun x H1 => u σ H1 fun y H2 => rCat x y H2 fun z H3 => ∃ a, z = .ref a ∧ (∃ xs, SqL K H3 a xs) ∧ tFor (fun _ H R => R (Itl K a) H) g tb D σ H3)) :
    tFor (iList K (tOp rCat (tLockE t) u)) g tb D σ H := h
theorem Same.put {H H' : Hp} {p : Addr} {o : HO} (s : Same H H') (h : H p = none) : Same H (upd H' p o) := fun b u e => by rw [upd_ne (ne_of_none e h)]; exact s b u e
theorem at_mod {row : List Int} {j k : Nat} {y : Int} (h : row[(j + k) % row.length]? = some y) : atI (row.map V.int) ((((j : Nat) : Int) + ((k : Nat) : Int)) % (((row.map V.int).length : Nat) : Int)) = some (V.int y) := by
  have e : (((j : Nat) : Int) + ((k : Nat) : Int)) % (((row.map V.int).length : Nat) : Int) = (((j + k) % row.length : Nat) : Int) := by
    rw [List.length_map]
    push_cast
    rfl
  rw [e]
  exact atI_nat (get_map h)
theorem at_add {row : List Int} {j k : Nat} {y : Int} (h : row[j + k]? = some y) : atI (row.map V.int) (((j : Nat) : Int) + ((k : Nat) : Int)) = some (V.int y) := by
  have e : (((j : Nat) : Int) + ((k : Nat) : Int)) = ((j + k : Nat) : Int) := by
    push_cast
    rfl
  rw [e]
  exact atI_nat (get_map h)
theorem srcs {l : List (Int × Int)} {f : PF} (di : DI l f) {c : Int → Bool} {v : V} (h : v ∈ madeL (fun x _ => c x) (fun x _ => V.int x) l ++ (kvI l).map (fun kv => kV kv.1)) : ∃ x y, v = .int x ∧ f x = some y := by
  rcases List.mem_append.mp h with h | h
  · unfold madeL at h
    obtain ⟨⟨x, y⟩, hp, rfl⟩ := List.mem_map.mp h
    exact ⟨x, y, rfl, di.mem.mp (List.mem_filter.mp hp).1⟩
  · unfold kvI at h
    rw [List.map_map] at h
    obtain ⟨⟨x, y⟩, hp, rfl⟩ := List.mem_map.mp h
    exact ⟨x, y, rfl, di.mem.mp hp⟩
theorem srcs_all {l : List (Int × Int)} {f : PF} (di : DI l f) {c : Int → Bool} {x y : Int} (h : f x = some y) : V.int x ∈ madeL (fun x _ => c x) (fun x _ => V.int x) l ++ (kvI l).map (fun kv => kV kv.1) := by
  refine List.mem_append.mpr (.inr ?_)
  unfold kvI
  rw [List.map_map]
  exact List.mem_map.mpr ⟨(x, y), di.mem.mpr h, rfl⟩
theorem ok_moved (T : Txt K mg) : FnR P w K mg base CX0 2 T.f_moved spMoved := by
  refine T.A_moved.ok sc_moved (fun vs H Q E h => ?_) (fun cdv A outer s H vs Q E hr h => ?_)
  · obtain ⟨d, l, n, f, k, rfl, _⟩ := h
    rfl
  · obtain ⟨d, l, n, f, k, rfl, hd, di, wf, hn, hl, q⟩ := h
    have hu := hu_of hr
    refine ⟨_, pss_cons (ps_set (i := 2) sc_moved.nd rfl (Or.inl rfl) pe_dnewK)
      (pss_cons (ps_set (i := 3) sc_moved.nd rfl (Or.inl rfl) pe_dnewK)
      (pss_cons (ps_set (i := 4) sc_moved.nd rfl (Or.inr rfl) (pe_lock (pe_dc (own := [("target", 10)]) (g := gName 10) (tt := tYes) rfl sc_moved.nd (pi_values (pv 0))
          (blkOk_by (own := [("target", 10)]) (N := n_moved) (sc := defScope s_moved) (by decide +kernel))
          (fun _ _ _ _ _ => pg_name (i := 10) sc_moved.nd rfl (Or.inl rfl)) (fun _ _ _ _ _ => pts_nil) (fun _ _ _ _ _ => pv 10) (fun _ _ _ _ _ => pe_bl))))
      (pss_cons (ps_for PassesOwn.never rfl (pi_list (pe_op op_cat (pe_lock (pe_lc (own := [("element", 9)]) (g := gName 9) rfl sc_moved.nd (pi_keys (pv 0))
          (blkOk_by (own := [("element", 9)]) (N := n_moved) (sc := defScope s_moved) (by decide +kernel))
          (fun _ _ _ _ _ => pg_name (i := 9) sc_moved.nd rfl (Or.inl rfl)) (fun _ _ _ _ _ => pts_one (pt_cmp (pc_dnotin hu (pv 9) (pv 4)))) (fun _ _ _ _ _ => pv 9)))
          (pe_callTy (call_list_dK rfl) (by rfl) T.n_list (by decide +kernel) (pa_cons (pv 0) pa_nil)))) (pg_name (i := 5) sc_moved.nd rfl (Or.inl rfl))
        (pss_one (ps_if (pt_cmp (pc_dnotin hu (pv 5) (pv 3)))
          (pss_cons (ps_set (i := 6) sc_moved.nd rfl (Or.inl rfl) (pe_callR (ok_row_from T) hr T.A_row_from.kp rfl T.g_row_from pass0 (pa_cons (pv 0) (pa_cons (pv 5) pa_nil))))
          (pss_cons (ps_set (i := 7) sc_moved.nd rfl (Or.inl rfl) (pe_cmp (pc_din hu (pe_ix ix_list (pv 6) (pe_un un_neg pe_int) (fun _ _ => rfl)) (pv 0))))
          (pss_one (ps_for PassesOwn.never rfl (pi_enum rfl T.n_enumerate (pa_cons (pv 6) pa_nil)) (pg_tup rfl (pgs_cons (pg_name (i := 8) sc_moved.nd rfl (Or.inl rfl)) (pgs_cons (pg_name (i := 9) sc_moved.nd rfl (Or.inl rfl)) pgs_nil)))
            (pss_cons (ps_dput hu (pv 3) (pv 9) pe_bl rfl)
            (pss_one (ps_if (pt_val (pv 7))
              (pss_one (ps_dput hu (pv 2) (pv 9) (pe_ix ix_list (pv 6) (pe_op op_mod (pe_op op_add (pv 8) (pv 1)) (pe_callB call_len_seq (by rfl) T.n_len (by decide +kernel) (pa_cons (pv 6) pa_nil))) (fun _ _ => rfl)) rfl))
              (pss_one (ps_if (pt_cmpR op_lt (pe_op op_add (pv 8) (pv 1)) (pe_callB call_len_seq (by rfl) T.n_len (by decide +kernel) (pa_cons (pv 6) pa_nil)) (nomark _))
                (pss_one (ps_dput hu (pv 2) (pv 9) (pe_ix ix_list (pv 6) (pe_op op_add (pv 8) (pv 1)) (fun _ _ => rfl)) rfl)) pss_nil))))))))) pss_nil)))
      (pss_one (ps_ret (pv 2)))))), ?_⟩
    intro fo hfo
    intro se hse
    have nfs : fo ≠ se := ne_of_none upd_same hse
    have s1 : Same H (upd (upd H fo (.dK [])) se (.dK [])) := (Same.new hfo).trans (Same.new hse)
    have se0 : H se = none := (Same.new hfo).free hse
    have fo1 : (upd (upd H fo (.dK [])) se (.dK [])) fo = some (.dK (kvI [])) := by rw [upd_ne nfs, upd_same]; rfl
    have se1 : (upd (upd H fo (.dK [])) se (.dK [])) se = some (.dK (kvB [])) := upd_same
    have vnd := di.vals wf
    refine dc_vals (s1 _ _ hd) (fun H' R r o => ⟨_, rfl, r⟩) (fun _ => rfl) (fun _ _ _ r => r) (fun _ _ _ r => ⟨_, rfl, r⟩) (fun _ _ _ r => r) vnd (small1000 (by omega)) (fun tg H2 ntg htg s2 => ?_)
    have s12 := s1.trans s2
    have cd : ∀ (x : Int) (H1 : Hp), H1 tg = some (.dK (tgt l)) → DGet H1 tg (.int x) (valV (tgt l) (Sum.inl x)) := fun x H1 h => DGet.k (k := Sum.inl x) h
    have ntd : tg ≠ d := fun e => by rw [e, s1 _ _ hd] at ntg; cases ntg
    dsimp only [tSeq]
    refine for_cat ?_
    refine lc_keys (fun x => !decide (x ∈ l.map (·.2))) (fun x => .int x) (s12 _ _ hd) (fun H' R r o => ⟨_, rfl, r⟩) (fun _ => rfl) (fun x H1 o => ⟨fun R r => ?_, fun R r => ⟨_, rfl, r⟩⟩) (small1000 (by omega)) (fun L1 H3 nL1 hL1 s3 => ?_)
    · refine ⟨_, rfl, _, rfl, tg, _, rfl, cd x H1 (o _ _ ntd htg), _, rfl, ?_⟩
      rw [tgt_val]
      exact r
    have s13 := s12.trans s3
    refine ⟨_, rfl, d, _, rfl, s13 _ _ hd, fun L2 hL2 => ?_⟩
    have hlen1 := madeL_len (fun x _ => !decide (x ∈ l.map (·.2))) (fun x _ => V.int x) l l.length
    rw [List.take_length] at hlen1
    refine ⟨L1, L2, _, _, rfl, rfl, (by rw [upd_ne (ne_of_none hL1 hL2)]; exact hL1), upd_same, ?_, fun L3 hL3 => ?_⟩
    · rw [List.length_map, kvI_length]
      exact Nat.le_trans (by omega : _ ≤ 1000) (by decide)
    have s14 : Same H (upd H3 L2 (.lst ((kvI l).map fun kv => kV kv.1))) := s13.trans (Same.new hL2)
    have L30 : H L3 = none := s14.free hL3
    obtain ⟨S, eS⟩ : ∃ S, S = madeL (fun x _ => !decide (x ∈ l.map (·.2))) (fun x _ => V.int x) l ++ (kvI l).map (fun kv => kV kv.1) := ⟨_, rfl⟩
    have hS1 : ∀ v ∈ S, ∃ x y, v = .int x ∧ f x = some y := fun v hv => srcs di (eS ▸ hv)
    have hS2 : ∀ x y, f x = some y → V.int x ∈ S := fun x y h => eS ▸ srcs_all di h
    rw [← eS]
    refine ⟨L3, rfl, ⟨_, SqL.of upd_same⟩, ?_⟩
    have fo4 : (upd (upd H3 L2 (.lst ((kvI l).map fun kv => kV kv.1))) L3 (.lst S)) fo = some (.dK (kvI [])) := ((s2.trans s3).trans ((Same.new hL2).trans (Same.new hL3))) _ _ fo1
    have se4 : (upd (upd H3 L2 (.lst ((kvI l).map fun kv => kV kv.1))) L3 (.lst S)) se = some (.dK (kvB [])) := ((s2.trans s3).trans ((Same.new hL2).trans (Same.new hL3))) _ _ se1
    have nLf : L3 ≠ fo := fun e => by
      have := ((s2.trans s3).trans (Same.new (o := .lst ((kvI l).map fun kv => kV kv.1)) hL2)) _ _ fo1
      rw [← e, hL3] at this; cases this
    have nLs : L3 ≠ se := fun e => by
      have := ((s2.trans s3).trans (Same.new (o := .lst ((kvI l).map fun kv => kV kv.1)) hL2)) _ _ se1
      rw [← e, hL3] at this; cases this
    refine for_it (walk_list (xs := S)) (fun i σ H' => ∃ v5 v6 v7 v8 v9 v10 fl sl, σ = [some (.ref d), some (.int ((k + 1 : Nat) : Int)), some (.ref fo), some (.ref se), some (.ref tg), v5, v6, v7, v8, v9, v10] ∧ Same H H' ∧ H' L3 = some (.lst S) ∧ H' fo = some (.dK (kvI fl)) ∧ H' se = some (.dK (kvB sl)) ∧ Fnd n f (k + 1) fl sl ∧ ∀ x, V.int x ∈ S.take i → x ∈ sl)
      ⟨none, none, none, none, none, none, [], [], rfl, Same.put s14 L30, upd_same, fo4, se4, ⟨List.nodup_nil, fun _ => rfl, List.nodup_nil, fun _ h => nomatch h⟩, fun x h => by simp at h⟩ (fun i σ H' _ ⟨_, _, _, _, _, _, _, _, _, _, p, _⟩ => SqL.of p) ?_ ?_
    · rintro i v σ H' H'' hi ⟨v5, v6, v7, v8, v9, v10, fl, sl, rfl, p1, p2, p3, p4, p5, p6⟩ ⟨rfl, ev⟩
      obtain ⟨x, y, rfl, hxy⟩ := hS1 v (List.mem_of_getElem? ev)
      have hdx := wf.dom x y hxy
      have hd' := p1 _ _ hd
      refine ⟨_, rfl, _, rfl, se, _, rfl, DGet.k (k := Sum.inl x) p4, _, rfl, ?_⟩
      rw [kvB_val]
      refine ifNB (fun hc => ?_) (fun hc => ?_)
      · refine ⟨_, rfl, _, rfl, d, l, n, f, x, rfl, hd', di, wf, hn, hdx.1, hdx.2.1, fun r H2 pre z hr0 sr hr2 row ho => ?_⟩
        have q1 := p1.trans sr
        refine ⟨_, rfl, 1, rfl, r, _, -1, .int z, rfl, rfl, SqL.of hr2, lastI _ _, _, rfl, d, _, rfl, dgetI (q1 _ _ hd) di z, ?_⟩
        refine ⟨_, rfl, r, _, rfl, SqL.of hr2, ?_⟩
        have r0 : H r = none := p1.free hr0
        have nrL : r ≠ L3 := fun e => by rw [e, p2] at hr0; cases hr0
        have nrf : r ≠ fo := fun e => by rw [e, p3] at hr0; cases hr0
        have nrs : r ≠ se := fun e => by rw [e, p4] at hr0; cases hr0
        have hlast : (pre ++ [z])[(pre ++ [z]).length - 1]? = some z := by simp
        have hpos : 0 < (pre ++ [z]).length := by simp
        refine for_it (walk_enum (xs := (pre ++ [z]).map V.int)) (fun j σ H3 => ∃ v8 v9 fl' sl', σ = [some (.ref d), some (.int ((k + 1 : Nat) : Int)), some (.ref fo), some (.ref se), some (.ref tg), some (.int x), some (.ref r), some (.bl ((f z).map V.int).isSome), v8, v9, v10] ∧ Same H H3 ∧ H3 L3 = some (.lst S) ∧ H3 r = some (.lst ((pre ++ [z]).map V.int)) ∧ H3 fo = some (.dK (kvI fl')) ∧ H3 se = some (.dK (kvB sl')) ∧ Fnd n f (k + 1) fl' sl' ∧ (∀ a ∈ sl, a ∈ sl') ∧ ∀ a ∈ (pre ++ [z]).take j, a ∈ sl')
          ⟨v8, v9, fl, sl, rfl, q1, sr _ _ p2, hr2, sr _ _ p3, sr _ _ p4, p5, fun _ h => h, fun a h => by simp at h⟩ (fun j σ H3 _ ⟨_, _, _, _, _, _, _, p, _⟩ => SqL.of p) ?_ ?_
        · rintro j v σ H3 H4 hj ⟨w8, w9, fl', sl', rfl, t1, t2, t3, t4, t5, t6, t7, t8⟩ ⟨U, a, b, rfl, hU, rfl, e1, e2⟩
          rw [List.length_map] at hj
          obtain ⟨a0, ea⟩ : ∃ a, (pre ++ [z])[j]? = some a := ⟨_, List.getElem?_eq_getElem hj⟩
          dsimp only at e1 e2
          rw [get_map ea] at e2
          cases e1; cases e2
          have hda := row.dom wf hdx.1 hdx.2.1 a0 (List.mem_of_getElem? ea)
          refine ⟨U, [.int (j : Int), .int a0], rfl, SqT.of upd_same, rfl, .int (j : Int), [.int a0], rfl, .int a0, [], rfl, rfl, ?_⟩
          have u1 : Same H (upd H3 U (.tup [.int (j : Int), .int a0])) := t1.trans (Same.new hU)
          have u2 : (upd H3 U (.tup [.int (j : Int), .int a0])) L3 = _ := (Same.new hU) _ _ t2
          have u3 : (upd H3 U (.tup [.int (j : Int), .int a0])) r = _ := (Same.new hU) _ _ t3
          have u4 : (upd H3 U (.tup [.int (j : Int), .int a0])) fo = _ := (Same.new hU) _ _ t4
          have u5 : (upd H3 U (.tup [.int (j : Int), .int a0])) se = _ := (Same.new hU) _ _ t5
          have hsl := t6.slen
          have hfl := t6.len
          refine ⟨_, rfl, _, rfl, se, _, rfl, DPut.k (k := Sum.inl a0) u5 (small1000 (by unfold kvB; rw [List.length_map]; omega)), ?_⟩
          obtain ⟨sl2, es, hs1, hs2⟩ := kvB_put sl' a0
          rw [es]
          obtain ⟨H5, eH5⟩ : ∃ H5, H5 = upd (upd H3 U (.tup [.int (j : Int), .int a0])) se (.dK (kvB sl2)) := ⟨_, rfl⟩
          have w1 : Same H H5 := by rw [eH5]; exact Same.put u1 se0
          have w2 : H5 L3 = some (.lst S) := by rw [eH5, upd_ne nLs]; exact u2
          have w3 : H5 r = some (.lst ((pre ++ [z]).map V.int)) := by rw [eH5, upd_ne nrs]; exact u3
          have w4 : H5 fo = some (.dK (kvI fl')) := by rw [eH5, upd_ne nfs]; exact u4
          have w5 : H5 se = some (.dK (kvB sl2)) := by rw [eH5, upd_same]
          have m1 : ∀ a ∈ sl, a ∈ sl2 := fun a h => (hs1 a).mpr (.inl (t7 a h))
          have m2 : ∀ a ∈ (pre ++ [z]).take (j + 1), a ∈ sl2 := by
            intro a ha
            rw [take_more ea] at ha
            rcases List.mem_append.mp ha with h | h
            · exact (hs1 a).mpr (.inl (t8 a h))
            · simp at h
              exact (hs1 a).mpr (.inr h)
          rw [← eH5]
          refine ⟨_, rfl, _, rfl, ?_⟩
          rcases ho with ho | ho
          · rw [ho]
            refine iteF ?_
            have op := row.openAt hlast hpos ho j a0 ea (k + 1)
            refine ⟨_, rfl, _, rfl, _, _, rfl, rfl, _, rfl, r, _, rfl, .inl (SqL.of w3), _, _, rfl, rfl, _, rfl, ?_⟩
            refine ifD (fun hlt => ?_) (fun hge => ?_)
            · obtain ⟨y2, ey2⟩ : ∃ y2, (pre ++ [z])[j + (k + 1)]? = some y2 := ⟨_, List.getElem?_eq_getElem (by rw [List.length_map] at hlt; omega)⟩
              refine ⟨_, rfl, _, rfl, _, rfl, _, _, rfl, rfl, r, _, _, .int y2, rfl, rfl, SqL.of w3, at_add ey2, _, rfl, _, rfl, fo, _, rfl, DPut.k (k := Sum.inl a0) w4 (small1000 (by rw [kvI_length]; omega)), ?_⟩
              obtain ⟨fl2, ef, _, fn, fa⟩ := putK_lk (l := fl') (x := a0) (y := y2)
              rw [ef]
              rw [ey2] at op
              refine ⟨_, _, fl2, sl2, rfl, Same.put w1 hfo, ?_, ?_, upd_same, ?_, t6.put hs1 hs2 hda op fn fa, m1, m2⟩
              · rw [upd_ne nLf]; exact w2
              · rw [upd_ne nrf]; exact w3
              · rw [upd_ne nfs.symm]; exact w5
            · have : (pre ++ [z])[j + (k + 1)]? = none := List.getElem?_eq_none (by rw [List.length_map] at hge; omega)
              rw [this] at op
              exact ⟨_, _, fl', sl2, rfl, w1, w2, w3, w4, w5, t6.skip hs1 hs2 hda op, m1, m2⟩
          · rw [ho]
            refine iteT ?_
            have cl := row.closedAt hlast hpos ho j a0 ea (k + 1)
            obtain ⟨y2, ey2⟩ : ∃ y2, (pre ++ [z])[(j + (k + 1)) % (pre ++ [z]).length]? = some y2 := ⟨_, List.getElem?_eq_getElem (Nat.mod_lt _ hpos)⟩
            refine ⟨_, rfl, _, rfl, _, rfl, _, _, rfl, rfl, _, rfl, r, _, rfl, .inl (SqL.of w3), _, _, rfl, rfl, ?_, r, _, _, .int y2, rfl, rfl, SqL.of w3, at_mod ey2, _, rfl, _, rfl, fo, _, rfl, DPut.k (k := Sum.inl a0) w4 (small1000 (by rw [kvI_length]; omega)), ?_⟩
            · rw [List.length_map]
              omega
            obtain ⟨fl2, ef, _, fn, fa⟩ := putK_lk (l := fl') (x := a0) (y := y2)
            rw [ef]
            rw [ey2] at cl
            refine ⟨_, _, fl2, sl2, rfl, Same.put w1 hfo, ?_, ?_, upd_same, ?_, t6.put hs1 hs2 hda cl fn fa, m1, m2⟩
            · rw [upd_ne nLf]; exact w2
            · rw [upd_ne nrf]; exact w3
            · rw [upd_ne nfs.symm]; exact w5
        · rintro σ H3 ⟨w8, w9, fl', sl', rfl, t1, t2, t3, t4, t5, t6, t7, t8⟩
          rw [List.length_map, List.take_length] at t8
          refine ⟨_, _, _, _, _, _, fl', sl', rfl, t1, t2, t4, t5, t6, fun a ha => ?_⟩
          rw [take_more ev] at ha
          rcases List.mem_append.mp ha with h | h
          · exact t7 a (p6 a h)
          · simp at h
            subst h
            exact t8 a (List.mem_of_getElem? row.h0)
      · refine ⟨_, _, _, _, _, _, fl, sl, rfl, p1, p2, p3, p4, p5, fun a ha => ?_⟩
        rw [take_more ev] at ha
        rcases List.mem_append.mp ha with h | h
        · exact p6 a h
        · simp at h
          subst h
          exact of_decide_eq_true hc
    · rintro σ H' ⟨v5, v6, v7, v8, v9, v10, fl, sl, rfl, p1, p2, p3, p4, p5, p6⟩
      rw [List.take_length] at p6
      have hfl := p5.len
      exact ⟨_, rfl, q fo H' fl hfo p1 p3 (p5.di fun x y h => p6 x (hS2 x y h)) (by omega)⟩
end
end My
namespace My
open PySem L2 U StX PM
/-! ### f.power(e) -/
def pw (n : Int) (f : PF) (e : Int) : PF := if e = 0 then idn n else if e < 0 then iter (inv n f) e.natAbs else iter f e.natAbs
section
variable {P : Program} {w : World} {K : PySem.W.Frag} {mg : Str → Option Value} {base : Heap}
def spPow (C : Addr) : Sp := fun vs H Q _ => ∃ a n f e, vs = [.ref a, .int e] ∧ IsMap C H a n f ∧ ∀ r H', H r = none → Same H H' → IsMap C H' r n (pw n f e) → Q (.ref r) H'
theorem ok_power (T : Txt K mg) : FnR P w K mg base CX0 7 T.f_Map_power (spPow T.C_Map) := by
  refine T.A_Map_power.ok sc_Map_power (fun vs H Q E h => ?_) (fun cdv A outer s H vs Q E hr h => ?_)
  · obtain ⟨a, n, f, e, rfl, _⟩ := h
    rfl
  · obtain ⟨a, n, f, e, rfl, ha, q⟩ := h
    have hu := hu_of hr
    refine ⟨_, pss_cons (ps_if (pt_not (pt_val (pe_callR (ok_is_integer T) (hr.mono (by decide)) T.A_is_integer.kp rfl T.g_is_integer pass0 (pa_cons (pv 1) pa_nil)))) (pss_one ps_never) pss_nil)
      (pss_cons (ps_set (i := 2) sc_Map_power.nd rfl (Or.inl rfl) (pe_fld (pv 0) rfl))
      (pss_cons (ps_if (pt_cmpR op_lt (pv 1) pe_int (nomark _)) (pss_one (ps_lock (ps_setDc (i := 2) (own := [("source", 3), ("target", 4)]) (g := gTup K 2 (gCons (gName 3) (gCons (gName 4) gNil))) (tt := tYes) rfl sc_Map_power.nd rfl rfl (sw_dict rfl rfl rfl (by decide +kernel)) (pi_items (pe_fld (pv 0) rfl))
        (blkOk_by (own := [("source", 3), ("target", 4)]) (N := n_Map_power) (sc := defScope s_Map_power) (by decide +kernel))
        (fun _ _ _ _ _ => pg_tup rfl (pgs_cons (pg_name (i := 3) sc_Map_power.nd rfl (Or.inl rfl)) (pgs_cons (pg_name (i := 4) sc_Map_power.nd rfl (Or.inl rfl)) pgs_nil)))
        (fun _ _ _ _ _ => pts_nil) (fun _ _ _ _ _ => pv 4) (fun _ _ _ _ _ => pv 3)))) pss_nil)
      (pss_cons (ps_if (pt_cmpR op_eq (pv 1) pe_int (nomark _)) (pss_one (ps_ret (ClX.pe_cmeth (pe_glob (v := .ref T.C_Map) rfl T.g_Map rfl) T.R_Map T.cm_Map_identity (ok_identity T) hr pass0 (pa_cons (pe_fld (pv 0) rfl) pa_nil)))) pss_nil)
      (pss_one (ps_ret (pe_makeR T.M_Map (ok_init T) (hr.mono (by decide)) rfl T.g_Map pass0 (pa_cons (pe_fld (pv 0) rfl) (pa_cons (pe_callR (ok_moved T) (hr.mono (by decide)) T.A_moved.kp rfl T.g_moved pass0 (pa_cons (pv 2) (pa_cons (pe_callB call_abs (by rfl) T.n_abs (by decide +kernel) (pa_cons (pv 1) pa_nil)) pa_nil))) pa_nil)))))))), ?_⟩
    obtain ⟨dx, D, h1, h2⟩ := id ha.ob
    have h9 := ha.hi
    have ht := tab_len n f
    refine ⟨_, rfl, .int e, rfl, trivial, _, rfl, iteF ?_⟩
    refine ⟨_, rfl, a, _, dx, _, _, rfl, h1, T.o_Map.cl, T.na_own_arrows_Map, flds_arrows _ _, ?_⟩
    refine ⟨_, rfl, _, _, rfl, rfl, _, rfl, ?_⟩
    refine ifD (fun hneg => ?_) (fun hpos => ?_)
    · refine lock_asg ?_
      refine dc_items (fun _ _ => true) (fun _ y => y) (fun x _ => .int x) h2 (fun H' R r o => ?_) (fun _ _ => rfl) ?_ ?_ ?_ ?_
      · refine ⟨_, rfl, a, _, dx, _, _, rfl, o _ _ (ne_of h1 h2 (by intro z; cases z)) h1, T.o_Map.cl, T.na_own_arrows_Map, flds_arrows _ _, r⟩
      · intro x y hxy H1 o
        exact ⟨fun R r => r, fun _ => ⟨fun R r => ⟨_, rfl, r⟩, fun R r => ⟨_, rfl, r⟩⟩⟩
      · rw [madeD_I, kvI_keys]
        exact nd_inl (nd_tgt (vals_tab ha.wf))
      · exact small1000 (Nat.le_trans (tab_len n f) (by omega))
      · intro D2 H2 nD2 hD2 s2
        rw [madeD_I] at hD2
        refine ⟨_, rfl, rfl, _, rfl, ?_⟩
        refine ifD (fun h0 => ?_) (fun _ => ?_)
        · have : e = 0 := V.int.inj h0
          omega
        refine ⟨_, rfl, a, _, dx, _, _, rfl, s2 _ _ h1, T.o_Map.cl, T.na_own_size_Map, flds_size _ _, ?_⟩
        have ek : (if e < 0 then -e else e) = ((e.natAbs - 1 + 1 : Nat) : Int) := by rw [if_pos hneg]; omega
        refine ⟨_, rfl, _, rfl, _, rfl, ?_⟩
        rw [ek]
        refine ⟨D2, _, n, _, _, rfl, hD2, inv_di ha.wf, wf_inv ha.wf, ha.hi, Nat.le_trans (madeI_len ..) (by omega), fun r3 H3 l3 n3 s3 hr3 di3 hl3 => ?_⟩
        have ei : pw n f e = iter (inv n f) (e.natAbs - 1 + 1) := by
          unfold pw
          rw [if_neg (by omega), if_pos hneg, show e.natAbs - 1 + 1 = e.natAbs by omega]
        refine mk_map hr3 di3 (wf_iter (wf_inv ha.wf) _) ha.lo ha.hi (by omega) fun r H5 nr s5 hm => ?_
        rw [← ei] at hm
        exact q r H5 ((s2.trans s3).free nr) ((s2.trans s3).trans s5) hm
    · refine ⟨_, rfl, rfl, _, rfl, ?_⟩
      refine ifD (fun h0 => ?_) (fun hne => ?_)
      · have e0 : e = 0 := V.int.inj h0
        refine ⟨rfl, _, rfl, a, _, dx, _, _, rfl, h1, T.o_Map.cl, T.na_own_size_Map, flds_size _ _, n, rfl, ha.lo, ha.hi, fun r H' nr s1 hm => ?_⟩
        refine q r H' nr s1 ?_
        unfold pw
        rw [if_pos e0]
        exact hm
      · have hne' : e ≠ 0 := fun z => hne (congrArg V.int z)
        refine ⟨_, rfl, a, _, dx, _, _, rfl, h1, T.o_Map.cl, T.na_own_size_Map, flds_size _ _, ?_⟩
        have ek : (if e < 0 then -e else e) = ((e.natAbs - 1 + 1 : Nat) : Int) := by rw [if_neg hpos]; omega
        refine ⟨_, rfl, _, rfl, _, rfl, ?_⟩
        rw [ek]
        refine ⟨D, _, n, _, _, rfl, h2, di_tab ha.wf, ha.wf, ha.hi, by omega, fun r3 H3 l3 n3 s3 hr3 di3 hl3 => ?_⟩
        have ei : pw n f e = iter f (e.natAbs - 1 + 1) := by
          unfold pw
          rw [if_neg hne', if_neg hpos, show e.natAbs - 1 + 1 = e.natAbs by omega]
        refine mk_map hr3 di3 (wf_iter ha.wf _) ha.lo ha.hi (by omega) fun r H5 nr s5 hm => ?_
        rw [← ei] at hm
        exact q r H5 (s3.free nr) (s3.trans s5) hm
end
end My
namespace My
open PySem L2 U StX PM
/-! ### a drawn map -/
structure Drw (n : Int) (i : Nat) (l : List (Int × Int)) (ns : List Int) : Prop where
  kn : (l.map (·.1)).Nodup
  vn : (l.map (·.2)).Nodup
  nn : ns.Nodup
  lt : ∀ p ∈ l, 0 ≤ p.1 ∧ p.1 < i ∧ 0 ≤ p.2 ∧ p.2 < n
  nt : ∀ y ∈ ns, 0 ≤ y ∧ y < n ∧ y ∉ l.map (·.2)
  ln : l.length ≤ i
  le : l.length + ns.length = n.toNat
theorem Drw.more {n : Int} {i : Nat} {l : List (Int × Int)} {ns : List Int} (h : Drw n i l ns) : Drw n (i + 1) l ns := by
  refine ⟨h.kn, h.vn, h.nn, fun p hp => ?_, h.nt, Nat.le_succ_of_le h.ln, h.le⟩
  have := h.lt p hp
  omega
theorem not_erase {ns : List Int} {k : Nat} {y : Int} (nd : ns.Nodup) (h : ns[k]? = some y) : y ∉ ns.eraseIdx k := by
  obtain ⟨hk, e⟩ := List.getElem?_eq_some_iff.mp h
  have e1 : ns = ns.take k ++ y :: ns.drop (k + 1) := by
    rw [← e]
    simp
  rw [List.eraseIdx_eq_take_drop_succ]
  intro hm
  rw [e1, List.nodup_append, List.nodup_cons] at nd
  rcases List.mem_append.mp hm with h1 | h1
  · exact nd.2.2 y h1 y List.mem_cons_self rfl
  · exact nd.2.1.1 h1
theorem Drw.put {n : Int} {i : Nat} {l : List (Int × Int)} {ns : List Int} (h : Drw n i l ns) {k : Nat} {y : Int} (hy : ns[k]? = some y) : Drw n (i + 1) (l ++ [((i : Int), y)]) (ns.eraseIdx k) ∧ (i : Int) ∉ l.map (·.1) := by
  have hm := h.nt y (List.mem_of_getElem? hy)
  have hi : (i : Int) ∉ l.map (·.1) := by
    intro hm
    obtain ⟨p, hp, e⟩ := List.mem_map.mp hm
    have := h.lt p hp
    omega
  obtain ⟨hk, _⟩ := List.getElem?_eq_some_iff.mp hy
  refine ⟨⟨?_, ?_, ?_, ?_, ?_, ?_, ?_⟩, hi⟩
  · rw [List.map_append, List.nodup_append]
    refine ⟨h.kn, by simp, fun a ha b hb e => ?_⟩
    simp at hb
    subst hb
    exact hi (e ▸ ha)
  · rw [List.map_append, List.nodup_append]
    refine ⟨h.vn, by simp, fun a ha b hb e => ?_⟩
    simp at hb
    subst hb
    exact hm.2.2 (e ▸ ha)
  · exact List.Sublist.nodup (List.eraseIdx_sublist _ _) h.nn
  · intro p hp
    rcases List.mem_append.mp hp with hp | hp
    · have := h.lt p hp
      omega
    · simp at hp
      subst hp
      dsimp only
      omega
  · intro z hz
    have h1 := h.nt z (List.mem_of_mem_eraseIdx hz)
    refine ⟨h1.1, h1.2.1, fun hq => ?_⟩
    rw [List.map_append] at hq
    rcases List.mem_append.mp hq with hq | hq
    · exact h1.2.2 hq
    · simp at hq
      subst hq
      exact not_erase h.nn hy hz
  · have := h.ln
    simp
    omega
  · have := h.le
    rw [List.length_append, List.length_singleton, List.length_eraseIdx, if_pos hk]
    omega
theorem two_in {l : List (Int × Int)} (vn : (l.map (·.2)).Nodup) : ∀ {x x' y : Int}, (x, y) ∈ l → (x', y) ∈ l → x = x' := by
  induction l with
  | nil => intro _ _ _ h; cases h
  | cons p r ih =>
    intro x x' y h1 h2
    rw [List.map_cons, List.nodup_cons] at vn
    rcases List.mem_cons.mp h1 with e1 | e1 <;> rcases List.mem_cons.mp h2 with e2 | e2
    · subst e1; cases e2; rfl
    · subst e1; exact absurd (List.mem_map.mpr ⟨(x', y), e2, rfl⟩) vn.1
    · subst e2; exact absurd (List.mem_map.mpr ⟨(x, y), e1, rfl⟩) vn.1
    · exact ih vn.2 e1 e2
theorem Drw.wf {n : Int} {l : List (Int × Int)} {ns : List Int} (h0 : 0 ≤ n) (h : Drw n n.toNat l ns) : WF n (lk l) := by
  refine ⟨fun x y e => ?_, fun x x' y e e' => two_in h.vn (lk_mem e) (lk_mem e')⟩
  have := h.lt _ (lk_mem e)
  dsimp only at this
  omega
theorem rg0 (n : Int) : rgV 0 n = ((List.range n.toNat).map fun (i : Nat) => (i : Int)).map V.int := by
  unfold rgV
  rw [List.map_map, show (n - 0).toNat = n.toNat by omega]
  refine List.map_congr_left fun a _ => ?_
  show V.int (0 + (a : Int)) = V.int (a : Int)
  rw [Int.zero_add]
theorem drw0 (n : Int) : Drw n 0 [] ((List.range n.toNat).map fun (i : Nat) => (i : Int)) := by
  refine ⟨List.nodup_nil, List.nodup_nil, ?_, fun p h => (nomatch h), fun y hy => ?_, Nat.le_refl _, by simp⟩
  · have := (di_id n.toNat).nd
    rw [List.map_map] at this
    exact this
  · obtain ⟨i, hi, rfl⟩ := List.mem_map.mp hy
    rw [List.mem_range] at hi
    exact ⟨by omega, by omega, by simp⟩
section
variable {P : Program} {w : World} {K : PySem.W.Frag} {mg : Str → Option Value} {base : Heap}
def PoolAt (H : Hp) (p : Addr) : Prop := ∃ a b : Int, H p = some (.lst [.int a, .int b]) ∧ 0 ≤ a ∧ 0 ≤ b ∧ b < 2147483647
def spDrwn : Sp := fun vs H Q _ => ∃ (p : Addr) (n way : Int), vs = [.ref p, .int n, .int way] ∧ PoolAt H p ∧ 1 ≤ n ∧ n ≤ 300 ∧
  ∀ r H' l, H r = none → H' r = some (.dK (kvI l)) → DI l (lk l) → WF n (lk l) → l.length ≤ 1000 → PoolAt H' p → Off p H H' → Q (.ref r) H'
theorem Off.put {p q : Addr} {H H' : Hp} {o : HO} (a : Off p H H') (h : H q = none) : Off p H (upd H' q o) := a.mut h
theorem Off.at {p : Addr} {H H' : Hp} {o : HO} (a : Off p H H') : Off p H (upd H' p o) := fun b u hb e => by rw [upd_ne hb]; exact a b u hb e
theorem ok_l_arrows (T : Txt K mg) : FnR P w K mg base CX0 2 T.f_l_arrows spDrwn := by
  refine T.A_l_arrows.ok sc_l_arrows (fun vs H Q E h => ?_) (fun cdv A outer s H vs Q E hr h => ?_)
  · obtain ⟨p, n, way, rfl, _⟩ := h
    rfl
  · obtain ⟨p, n, way, rfl, ⟨a0, b0, hp, ha0, hb0, hb1⟩, h1, h3, q⟩ := h
    have hu := hu_of hr
    refine ⟨_, pss_cons (ps_par (i := 3) (j := 4) rfl sc_l_arrows.nd rfl rfl (by decide) rfl rfl (pa_cons (pe_listRg rfl rfl T.n_list (prg_1 rfl T.n_range (pv 1))) (pa_cons pe_dnewK pa_nil)) (by rfl))
      (pss_cons (ps_for PassesOwn.never rfl (pi_range1 rfl T.n_range (pa_cons (pv 1) pa_nil)) (pg_name (i := 5) sc_l_arrows.nd rfl (Or.inl rfl))
        (pss_one (ps_if (pt_cmpR op_lt (pe_callR (ok_draw T) hr T.A_l_draw.kp rfl T.g_l_draw pass0 (pa_cons (pv 0) (pa_cons pe_int pa_nil))) (pv 2) (nomark _))
          (pss_one (ps_dput hu (pv 4) (pv 5) (pe_bm PySem.F.plainAttrs_list PySem.F.slot_list_pop PySem.F.type_list_pop mt_popAt (pv 3) (pa_cons (pe_callR (ok_draw T) hr T.A_l_draw.kp rfl T.g_l_draw pass0 (pa_cons (pv 0) (pa_cons (pe_callB call_len_seq (by rfl) T.n_len (by decide +kernel) (pa_cons (pv 3) pa_nil)) pa_nil))) pa_nil)) rfl)) pss_nil)))
      (pss_one (ps_ret (pv 4)))), ?_⟩
    refine ⟨_, rfl, n, rfl, RgOk.of_le (by decide) (by omega) (by decide) (by omega), fun lf hlf => ?_⟩
    intro fo hfo
    refine ⟨_, _, rfl, ?_⟩
    have lf0 : H lf = none := hlf
    have fo0 : H fo = none := (Same.new hlf).free hfo
    have npl : p ≠ lf := ne_of_none hp lf0
    have npf : p ≠ fo := ne_of_none hp fo0
    have nlf : lf ≠ fo := ne_of_none upd_same hfo
    refine ⟨_, rfl, n, rfl, by omega, by omega, ?_⟩
    refine for_it (walk_range (lo := 0) (n := n.toNat)) (fun i σ H' => ∃ v5 l ns, σ = [some (.ref p), some (.int n), some (.int way), some (.ref lf), some (.ref fo), v5] ∧ PoolAt H' p ∧ Off p H H' ∧ H' lf = some (.lst (ns.map V.int)) ∧ H' fo = some (.dK (kvI l)) ∧ Drw n i l ns)
      ⟨none, [], _, rfl, ⟨a0, b0, ?_, ha0, hb0, hb1⟩, ?_, ?_, upd_same, drw0 n⟩ (fun _ _ _ _ _ => trivial) ?_ ?_
    · rw [upd_ne npf, upd_ne npl]; exact hp
    · exact (Off.new hlf).tr (Off.new hfo)
    · rw [upd_ne nlf, upd_same, rg0]
    · rintro i v σ H' H'' hi ⟨v5, l, ns, rfl, ⟨a1, b1, e1, ha1, hb1, hb2⟩, p2, p3, p4, p5⟩ ⟨rfl, rfl⟩
      refine ⟨_, rfl, p, a1, b1, 4, rfl, e1, ha1, hb1, hb2, by decide, by decide, fun a2 b2 r2 ha2 hb2 hb3 hr2 hr3 => ?_⟩
      refine ⟨_, rfl, _, _, rfl, rfl, _, rfl, ?_⟩
      have o2 : Off p H (upd H'' p (.lst [.int a2, .int b2])) := Off.at p2
      have l2 : (upd H'' p (.lst [.int a2, .int b2])) lf = some (.lst (ns.map V.int)) := by rw [upd_ne npl.symm]; exact p3
      have f2 : (upd H'' p (.lst [.int a2, .int b2])) fo = some (.dK (kvI l)) := by rw [upd_ne npf.symm]; exact p4
      refine ifD (fun hlt => ?_) (fun _ => ?_)
      · have hlen := p5.le
        have hln := p5.ln
        have hl0 : 0 < ns.length := by omega
        refine ⟨_, rfl, .inl ⟨rfl, _, SqL.of l2⟩, _, rfl, _, rfl, lf, _, rfl, .inl (SqL.of l2), ?_⟩
        rw [List.length_map]
        refine ⟨p, a2, b2, (ns.length : Int), rfl, upd_same, ha2, hb2, hb3, by omega, by omega, fun a4 b4 r4 ha4 hb4 hb5 hr4 hr5 => ?_⟩
        obtain ⟨y, ey⟩ : ∃ y, ns[r4.toNat]? = some y := ⟨_, List.getElem?_eq_getElem (by omega)⟩
        obtain ⟨d1, d2⟩ := p5.put ey
        refine ⟨lf, _, r4, r4.toNat, .int y, rfl, rfl, (by rw [upd_ne npl.symm]; exact l2), by omega, by omega, ?_, get_map ey, ?_⟩
        · rw [List.length_map]
          exact PySem.seqIndex_of hr4 (by omega)
        refine ⟨_, rfl, _, rfl, fo, _, rfl, DPut.k (k := Sum.inl (0 + (i : Nat) : Int)) (kvs := kvI l) (by rw [upd_ne nlf.symm, upd_ne npf.symm]; exact f2) (small1000 (by rw [kvI_length]; omega)), ?_⟩
        rw [Int.zero_add, putK_kvI d2]
        refine ⟨_, _, ns.eraseIdx r4.toNat, rfl, ⟨a4, b4, ?_, ha4, hb4, hb5⟩, ?_, ?_, upd_same, d1⟩
        · rw [upd_ne npf, upd_ne npl, upd_same]
        · exact Off.put (Off.put (Off.at o2) lf0) fo0
        · rw [upd_ne nlf, upd_same]
          congr 2
          apply List.ext_getElem?
          intro m
          simp [List.getElem?_eraseIdx]
          split <;> rfl
      · exact ⟨_, l, ns, rfl, ⟨a2, b2, upd_same, ha2, hb2, hb3⟩, o2, l2, f2, p5.more⟩
    · rintro σ H' ⟨v5, l, ns, rfl, p1, p2, p3, p4, p5⟩
      have := p5.ln
      exact ⟨_, rfl, q fo H' l fo0 p4 ⟨p5.kn, fun _ => rfl⟩ (p5.wf (by omega)) (by omega) p1 p2⟩
end
end My
namespace My
open PySem L2 U StX PM
/-! ### values that are no maps; check_map -/
def nonMapV (H : Hp) : V → Prop
  | .non => True | .bl _ => True | .int _ => True | .str _ => True
  | .ref a => (∃ xs, H a = some (.lst xs)) ∨ (∃ xs, H a = some (.tup xs)) ∨ (∃ kvs, H a = some (.dK kvs))
  | _ => False
def spChkM (C CE : Addr) : Sp := fun vs H Q E => ∃ x, vs = [x] ∧ ((∃ a n f, x = .ref a ∧ IsMap C H a n f ∧ Q .non H) ∨ (nonMapV H x ∧ ∀ d, H d = none → E (.ref CE) (some d) (upd H d (.xd [("part", .str "map")]))))
section
variable {P : Program} {w : World} {K : PySem.W.Frag} {mg : Str → Option Value} {base : Heap}
theorem ok_ini_InvalidMap (T : Txt K mg) : FnR P w K mg base CX0 1 T.f_InvalidMap__init (spIni1 T.C_InvalidMap "part") := by
  refine T.A_InvalidMap__init.ok sc_InvalidMap__init (fun vs H Q E h => ?_) (fun cdv A outer s H vs Q E hr h => ?_)
  · obtain ⟨a, v, rfl, _⟩ := h
    rfl
  · obtain ⟨a, v, rfl, ha, q⟩ := h
    refine ⟨_, pss_one (ps_ostG (pv 0) (pv 1)), ?_⟩
    exact ⟨_, rfl, _, rfl, a, T.C_InvalidMap, rfl, T.x_InvalidMap, T.na_part_InvalidMap, .inl ⟨ha, fun dx h1 h2 => q dx h1 h2⟩⟩
theorem ty_nonmap (T : Txt K mg) {H : Hp} {x : V} (h : nonMapV H x) : ∃ t, TyX K H x t ∧ PySem.W.kitOne K t (.ref T.C_Map) = some false := by
  cases x with
  | non => exact ⟨_, .base .non, T.kn_NoneType_Map⟩
  | bl b => exact ⟨_, .base (.bl b), T.kn_bool_Map⟩
  | int i => exact ⟨_, .base (.int i), T.kn_int_Map⟩
  | str z => exact ⟨_, .base (.str z), T.kn_str_Map⟩
  | ref a =>
    rcases h with ⟨xs, e⟩ | ⟨xs, e⟩ | ⟨xs, e⟩
    · exact ⟨_, .base (.lst e), T.kn_list_Map⟩
    · exact ⟨_, .base (.tup e), T.kn_tuple_Map⟩
    · exact ⟨_, .base (.dK e), T.kn_dict_Map⟩
  | byt b => exact h.elim
  | flt b => exact h.elim
  | ty b => exact h.elim
theorem ok_check_map (T : Txt K mg) : FnR P w K mg base (L2.CX P w) 3 T.f_check_map (spChkM T.C_Map T.C_InvalidMap) := by
  refine T.A_check_map.okX sc_check_map (fun vs H Q E h => ?_) (fun cdv A outer s H vs Q E hr h => ?_)
  · obtain ⟨x, rfl, _⟩ := h
    rfl
  · obtain ⟨x, rfl, hx⟩ := h
    refine ⟨_, pss_one (ps_if (pt_not (pt_val (pe_callB call_isi (by rfl) T.n_isinstance (by decide +kernel) (pa_cons (pv 0) (pa_cons (pe_glob (v := .ref T.C_Map) rfl T.g_Map rfl) pa_nil)))))
      (pss_one (ps_raise rfl (takes_of rfl rfl rfl rfl) (pmk_oexG T.x_InvalidMap T.m_InvalidMap__init T.ti_InvalidMap__init (ok_ini_InvalidMap T) (hr.mono (by decide)) pass0 rfl T.g_InvalidMap (pa_cons pe_str pa_nil)))) pss_nil), ?_⟩
    rcases hx with ⟨a, n, f, rfl, hm, q⟩ | ⟨hx, q⟩
    · obtain ⟨dx, fs, h1⟩ := at_map hm
      exact ⟨_, rfl, _, _, _, _, true, rfl, .own _, tyx_ins T.o_Map h1, T.self_Map, _, rfl, iteF q⟩
    · obtain ⟨t, ht, hk⟩ := ty_nonmap T hx
      exact ⟨_, rfl, _, _, _, _, false, rfl, .own _, ht, hk, _, rfl, iteT (mk_one fun d hd => q d hd)⟩
end
/-! ### lists of rows -/
def RowsAt (H : Hp) : List Addr → List (List Int) → Prop
  | [], [] => True
  | a :: as, r :: rs => H a = some (.lst (r.map V.int)) ∧ RowsAt H as rs
  | _, _ => False
theorem RowsAt.len {H : Hp} : ∀ {as : List Addr} {rs : List (List Int)}, RowsAt H as rs → as.length = rs.length
  | [], [], _ => rfl
  | _ :: as, _ :: rs, h => by rw [List.length_cons, List.length_cons, RowsAt.len h.2]
  | [], _ :: _, h => h.elim
  | _ :: _, [], h => h.elim
theorem RowsAt.map {H H' : Hp} : ∀ {as : List Addr} {rs : List (List Int)}, RowsAt H as rs → (∀ a ∈ as, ∀ xs, H a = some (.lst xs) → H' a = some (.lst xs)) → RowsAt H' as rs
  | [], [], _, _ => trivial
  | _ :: as, _ :: rs, h, k => ⟨k _ List.mem_cons_self _ h.1, RowsAt.map h.2 fun a ha => k a (List.mem_cons_of_mem _ ha)⟩
  | [], _ :: _, h, _ => h.elim
  | _ :: _, [], h, _ => h.elim
theorem RowsAt.same {H H' : Hp} {as : List Addr} {rs : List (List Int)} (h : RowsAt H as rs) (s : Same H H') : RowsAt H' as rs := h.map fun a _ xs e => s a _ e
theorem RowsAt.off {H : Hp} {as : List Addr} {rs : List (List Int)} {p : Addr} {o : HO} (h : RowsAt H as rs) (n : p ∉ as) : RowsAt (upd H p o) as rs := h.map fun a ha xs e => by
  have hne : a ≠ p := fun z => n (z ▸ ha)
  rw [upd_ne hne]; exact e
theorem RowsAt.snoc {H : Hp} {a : Addr} {r : List Int} : ∀ {as : List Addr} {rs : List (List Int)}, RowsAt H as rs → H a = some (.lst (r.map V.int)) → RowsAt H (as ++ [a]) (rs ++ [r])
  | [], [], _, e => ⟨e, trivial⟩
  | _ :: as, _ :: rs, h, e => ⟨h.1, RowsAt.snoc h.2 e⟩
  | [], _ :: _, h, _ => h.elim
  | _ :: _, [], h, _ => h.elim
theorem RowsAt.get {H : Hp} : ∀ {as : List Addr} {rs : List (List Int)}, RowsAt H as rs → ∀ (i : Nat) (a : Addr), as[i]? = some a → ∃ r, rs[i]? = some r ∧ H a = some (.lst (r.map V.int))
  | [], [], _, i, a, e => by simp at e
  | b :: as, r :: rs, h, 0, a, e => by cases e; exact ⟨r, rfl, h.1⟩
  | _ :: as, _ :: rs, h, i + 1, a, e => RowsAt.get h.2 i a e
  | [], _ :: _, h, _, _, _ => h.elim
  | _ :: _, [], h, _, _, _ => h.elim
theorem RowsAt.mem {H : Hp} {as : List Addr} {rs : List (List Int)} (h : RowsAt H as rs) {a : Addr} (ha : a ∈ as) : ∃ r ∈ rs, H a = some (.lst (r.map V.int)) := by
  obtain ⟨i, hi⟩ := List.mem_iff_getElem?.mp ha
  obtain ⟨r, e1, e2⟩ := h.get i a hi
  exact ⟨r, List.mem_of_getElem? e1, e2⟩
def dInts (r : List Int) : PyData := .list (r.map PyData.int)
theorem dp_ints {K : PySem.W.Frag} {H : Hp} : ∀ (r : List Int), DpAll K H (r.map V.int) (r.map PyData.int)
  | [] => .nil
  | x :: r => .cons (.int x) (dp_ints r)
theorem RowsAt.dp {K : PySem.W.Frag} {H : Hp} : ∀ {as : List Addr} {rs : List (List Int)}, RowsAt H as rs → DpAll K H (as.map V.ref) (rs.map dInts)
  | [], [], _ => .nil
  | _ :: as, r :: rs, h => .cons (.lst (SqL.of h.1) (dp_ints r)) (RowsAt.dp h.2)
  | [], _ :: _, h => h.elim
  | _ :: _, [], h => h.elim
/-- {x: True for x in xs}, a list of unlike ints -/
theorem dc_ints {K : PySem.W.Frag} {te : TE} {i : Nat} {tt : TT} {tk tv : TE} {vs : List Nat} {σ : L2.St} {H0 H : Hp} {Q : VK} {a : Addr} {xs : List Int} (hte : ∀ R : VK, R (.ref a) H → te σ H0 R) (ha : H a = some (.lst (xs.map V.int)))
    (hw : ∀ a, wipe ((wipe σ vs).set i a) vs = wipe σ vs)
    (ht : ∀ (y : Int) (H1 : Hp) (R : Bool → Hp → Prop), R true H1 → tt ((wipe σ vs).set i (some (.int y))) H1 R) (hk : ∀ (y : Int) (H1 : Hp) (R : VK), R (.int y) H1 → tk ((wipe σ vs).set i (some (.int y))) H1 R) (hv : ∀ (y : Int) (H1 : Hp) (R : VK), R (.bl true) H1 → tv ((wipe σ vs).set i (some (.int y))) H1 R)
    (nd : xs.Nodup) (hz : xs.length < sizeLine)
    (hq : ∀ D H', H D = none → H' D = some (.dK (kvB xs)) → L2.Same H H' → Q (.ref D) H') :
    tDc (iList K te) (gName i) tt tk tv vs σ H0 Q := by
  refine hte _ ⟨a, rfl, ⟨_, SqL.of ha⟩, fun D hD => ?_⟩
  have hDa : D ≠ a := fun e => by rw [e, ha] at hD; cases hD
  refine dc_it (walk_list (xs := xs.map V.int)) (fun k H' => L2.Same H H' ∧ H' D = some (.dK (kvB (xs.take k)))) ⟨Same.new hD, upd_same⟩ (fun k H' _ p => SqL.of (p.1 _ _ ha)) ?_ ?_
  · rintro k v H' H'' hk1 ⟨p1, p2⟩ ⟨rfl, ev⟩
    rw [List.length_map] at hk1
    obtain ⟨y, ey⟩ : ∃ y, xs[k]? = some y := ⟨_, List.getElem?_eq_getElem hk1⟩
    have ev' : v = .int y := by
      have := get_map ey
      rw [this] at ev
      exact (Option.some.inj ev).symm
    subst ev'
    refine ⟨hw _, ?_⟩
    refine ht y _ _ (iteT (hk y _ _ (hv y _ _ ⟨_, Sum.inl y, rfl, p2, ?_, ?_, ?_⟩)))
    · refine Nat.lt_of_le_of_lt ?_ hz
      unfold kvB
      rw [List.length_map, List.length_take]
      omega
    · exact Same.put p1 hD
    · have nin : y ∉ xs.take k := by
        intro hm
        have e2 : xs = xs.take k ++ xs.drop k := (List.take_append_drop k xs).symm
        rw [e2, List.nodup_append] at nd
        refine nd.2.2 y hm y (List.mem_iff_getElem?.mpr ⟨0, ?_⟩) rfl
        rw [List.getElem?_drop]
        exact ey
      rw [upd_same, putK_new _ (valV_none fun z => nin (kvB_key.mp z)), take_more ey]
      unfold kvB
      rw [List.map_append]
      rfl
  · rintro H' ⟨p1, p2⟩
    rw [List.length_map, List.take_length] at p2
    exact hq D _ hD p2 p1
/-- one dict of marks merged into another -/
theorem kvB_merge : ∀ (xs sl : List Int), ∃ sl', mergeK (kvB sl) (kvB xs) = kvB sl' ∧ (∀ z, z ∈ sl' ↔ z ∈ sl ∨ z ∈ xs) ∧ (sl.Nodup → sl'.Nodup)
  | [], sl => ⟨sl, rfl, fun z => by simp, id⟩
  | x :: xs, sl => by
    obtain ⟨s1, e1, m1, n1⟩ := kvB_put sl x
    obtain ⟨s2, e2, m2, n2⟩ := kvB_merge xs s1
    refine ⟨s2, ?_, fun z => ?_, fun nd => n2 (n1 nd)⟩
    · show mergeK (putK (kvB sl) (Sum.inl x) (V.bl true)) (kvB xs) = _
      rw [e1, e2]
    · rw [m2, m1, List.mem_cons]
      constructor
      · rintro ((h | h) | h)
        · exact .inl h
        · exact .inr (.inl h)
        · exact .inr (.inr h)
      · rintro (h | h | h)
        · exact .inl (.inl h)
        · exact .inl (.inr h)
        · exact .inr h
theorem kvB_len (sl : List Int) : (kvB sl).length = sl.length := by simp [kvB]
end My
namespace My
open PySem L2 U StX PM
section
variable {P : Program} {w : World} {K : PySem.W.Frag} {mg : Str → Option Value} {base : Heap}
theorem upd_upd {H : Hp} {p : Addr} {o o' : HO} : upd (upd H p o) p o' = upd H p o' := by
  funext b
  by_cases h : b = p
  · subst h; rw [upd_same, upd_same]
  · rw [upd_ne h, upd_ne h, upd_ne h]
theorem tgt_tab {n : Int} {f : PF} (wf : WF n f) (x : Int) : (valV (tgt (tab n f)) (Sum.inl x : Key)).isSome = !nonT n f x := by
  rw [tgt_val]
  cases h : nonT n f x with
  | true =>
    have := (nonT_iff wf).mp h
    refine decide_eq_false fun hm => ?_
    obtain ⟨⟨a, b⟩, hp, rfl⟩ := List.mem_map.mp hm
    exact this a ((mem_tab wf).mp hp)
  | false =>
    refine decide_eq_true ?_
    unfold nonT at h
    cases e : inv n f x with
    | none => rw [e] at h; cases h
    | some y => exact List.mem_map.mpr ⟨(y, x), (mem_tab wf).mpr ((inv_iff wf).mp e), rfl⟩
/-- {t: True for t in e.values()}, e a dict just made -/
theorem dc_valsF {l : List (Int × Int)} {te : TE} {i : Nat} {tt : TT} {tk tv : TE} {vs : List Nat} {σ : L2.St} {H0 H : Hp} {Q : VK}
    (hte : ∀ R : VK, (∀ d od, H d = none → R (.ref d) (upd H d (.frz od (.dK (kvI l))))) → te σ H0 R)
    (hw : ∀ a, wipe ((wipe σ vs).set i a) vs = wipe σ vs)
    (ht : ∀ (y : Int) (H1 : Hp) (R : Bool → Hp → Prop), R true H1 → tt ((wipe σ vs).set i (some (.int y))) H1 R) (hk : ∀ (y : Int) (H1 : Hp) (R : VK), R (.int y) H1 → tk ((wipe σ vs).set i (some (.int y))) H1 R) (hv : ∀ (y : Int) (H1 : Hp) (R : VK), R (.bl true) H1 → tv ((wipe σ vs).set i (some (.int y))) H1 R)
    (nd : (l.map (·.2)).Nodup) (hz : l.length < sizeLine)
    (hq : ∀ D H', H D = none → H' D = some (.dK (tgt l)) → L2.Same H H' → Q (.ref D) H') :
    tDc (iVals te) (gName i) tt tk tv vs σ H0 Q := by
  refine hte _ fun d od hd => ⟨d, od, kvI l, rfl, upd_same, fun D hD => ?_⟩
  have hDd : D ≠ d := fun e => by rw [e, upd_same] at hD; cases hD
  have hD0 : H D = none := by rw [upd_ne hDd] at hD; exact hD
  refine dc_it walk_values (fun k H' => H' d = some (.frz od (.dK (kvI l))) ∧ L2.Same H H' ∧ H' D = some (.dK (tgt (l.take k)))) ⟨?_, Same.put (Same.new hd) hD0, upd_same⟩ (fun k H' _ p => p.1) ?_ ?_
  · rw [upd_ne hDd.symm]; exact upd_same
  · rintro k v H' H'' hk1 ⟨p1, p2, p3⟩ ⟨rfl, kk, e1⟩
    obtain ⟨x, y, exy, rfl, rfl⟩ := kvI_get e1
    refine ⟨hw _, ?_⟩
    refine ht y _ _ ?_
    refine iteT ?_
    refine hk _ _ _ (hv _ _ _ ⟨_, Sum.inl y, rfl, p3, Nat.lt_of_le_of_lt (tgt_len ..) hz, ?_⟩)
    refine ⟨?_, Same.put p2 hD0, ?_⟩
    · rw [upd_ne hDd.symm]; exact p1
    · have nin : y ∉ (l.take k).map (·.2) := by
        intro hm
        have e2 : l.map (·.2) = (l.take k).map (·.2) ++ (l.drop k).map (·.2) := by rw [← List.map_append, List.take_append_drop]
        rw [e2, List.nodup_append] at nd
        refine nd.2.2 _ hm y (List.mem_map.mpr ⟨(x, y), ?_, rfl⟩) rfl
        refine List.mem_iff_getElem?.mpr ⟨0, ?_⟩
        rw [List.getElem?_drop]
        exact exy
      rw [upd_same, putK_new _ (valV_none fun z => nin (tgt_key.mp z)), take_more exy]
      unfold tgt
      rw [List.map_append]
      rfl
  · rintro H' ⟨p1, p2, p3⟩
    rw [kvI_length, List.take_length] at p3
    exact hq D _ hD0 p3 p2
structure Prt (n : Int) (f : PF) (H H' : Hp) (lh se : Addr) (ex : List Addr) (b : List Int) (hs : List Addr) (sl : List Int) (st : List Int) : Prop where
  sm : Same H H'
  l : H' lh = some (.lst (hs.map V.ref))
  s : H' se = some (.dK (kvB sl))
  r : RowsAt H' hs (st.map (rowN f))
  m : ∀ x, x ∈ sl ↔ x ∈ seenL f (b ++ st)
  nd : sl.Nodup
  nw : ∀ a ∈ hs, H a = none ∧ a ≠ lh ∧ a ≠ se ∧ a ∉ ex
theorem Prt.slen {n : Int} {f : PF} {H H' : Hp} {lh se : Addr} {ex hs : List Addr} {b sl st : List Int} (wf : WF n f) (p : Prt n f H H' lh se ex b hs sl st) (h : ∀ e ∈ b ++ st, 0 ≤ e ∧ e < n) : sl.length ≤ n.toNat := by
  refine len_range p.nd fun x hx => ?_
  obtain ⟨e, he, hm⟩ := mem_seenL.mp ((p.m x).mp hx)
  have := h e he
  exact (rowN_is wf this.1 this.2).dom wf this.1 this.2 x hm
/-- one row more, from a new list r, its marks merged -/
theorem Prt.more {n : Int} {f : PF} {H H1 H2 H3 : Hp} {lh se : Addr} {ex hs : List Addr} {b sl sl' st : List Int} {e : Int} {r : Addr} (p : Prt n f H H1 lh se ex b hs sl st) (hl0 : H lh = none) (hs0 : H se = none) (nls : lh ≠ se) (hex : ∀ a ∈ ex, H1 a ≠ none)
    (hr : H1 r = none) (s2 : Same H1 H2) (hr2 : H2 r = some (.lst ((rowN f e).map V.int))) (m1 : ∀ z, z ∈ sl' ↔ z ∈ sl ∨ z ∈ rowN f e) (n1 : sl.Nodup → sl'.Nodup) (s3 : Same (upd H2 lh (.lst (hs.map V.ref ++ [.ref r]))) H3) :
    Prt n f H (upd H3 se (.dK (kvB sl'))) lh se ex b (hs ++ [r]) sl' (st ++ [e]) := by
  have rl : r ≠ lh := fun z => by rw [z, p.l] at hr; cases hr
  have rs : r ≠ se := fun z => by rw [z, p.s] at hr; cases hr
  have r0 : H r = none := p.sm.free hr
  have rx : r ∉ ex := fun z => hex r z hr
  refine ⟨?_, ?_, upd_same, ?_, ?_, n1 p.nd, ?_⟩
  · refine Same.put ?_ hs0
    exact (Same.put (p.sm.trans s2) hl0).trans s3
  · rw [upd_ne nls, s3 _ _ upd_same, List.map_append]
    rfl
  · rw [List.map_append]
    refine RowsAt.snoc ?_ ?_
    · have h1 := (p.r.same s2).off (p := lh) (o := .lst (hs.map V.ref ++ [.ref r])) (fun z => (p.nw lh z).2.1 rfl)
      exact (h1.same s3).off fun z => (p.nw se z).2.2.1 rfl
    · rw [upd_ne rs]
      exact s3 _ _ (by rw [upd_ne rl]; exact hr2)
  · intro x
    rw [m1, p.m, mem_seenL, mem_seenL]
    constructor
    · rintro (⟨e', h1, h2⟩ | h)
      · exact ⟨e', by rw [← List.append_assoc]; exact List.mem_append_left _ h1, h2⟩
      · exact ⟨e, by simp, h⟩
    · rintro ⟨e', h1, h2⟩
      rw [← List.append_assoc] at h1
      rcases List.mem_append.mp h1 with h1 | h1
      · exact .inl ⟨e', h1, h2⟩
      · rw [List.mem_singleton] at h1
        subst h1
        exact .inr h2
  · intro a ha
    rcases List.mem_append.mp ha with ha | ha
    · exact p.nw a ha
    · rw [List.mem_singleton] at ha
      subst ha
      exact ⟨r0, rl, rs, rx⟩
def spParts (C : Addr) : Sp := fun vs H Q _ => ∃ a n f, vs = [.ref a] ∧ IsMap C H a n f ∧ ∀ t lc lh cs hs H', Same H H' → H' t = some (.tup [.ref lc, .ref lh]) → H' lc = some (.lst (cs.map V.ref)) → H' lh = some (.lst (hs.map V.ref)) →
  RowsAt H' cs ((cycS n f).map (rowN f)) → RowsAt H' hs ((nons n f).map (rowN f)) → H lc = none → H lh = none → lc ≠ lh → (∀ a ∈ cs, H a = none ∧ a ≠ lc ∧ a ≠ lh) → (∀ a ∈ hs, H a = none ∧ a ≠ lc ∧ a ≠ lh) → Q (.ref t) H'
theorem ok_parts_of (T : Txt K mg) : FnR P w K mg base CX0 3 T.f_parts_of (spParts T.C_Map) := by
  refine T.A_parts_of.ok sc_parts_of (fun vs H Q E h => ?_) (fun cdv A outer s H vs Q E hr h => ?_)
  · obtain ⟨a, n, f, rfl, _⟩ := h
    rfl
  · obtain ⟨a, n, f, rfl, hm, q⟩ := h
    have hu := hu_of hr
    refine ⟨_, pss_cons (ps_par (i := 1) (j := 2) rfl sc_parts_of.nd rfl rfl (by decide) rfl rfl (pa_cons (pe_propR (pv 0) T.o_Map.cl T.P_Map_arrows (ok_arrows T) (hr.mono (by decide)))
          (pa_cons (pe_dc (own := [("target", 7)]) (g := gName 7) (tt := tYes) rfl sc_parts_of.nd (pi_values (pe_frz (pe_propR (pv 0) T.o_Map.cl T.P_Map_arrows (ok_arrows T) (hr.mono (by decide)))))
            (blkOk_by (own := [("target", 7)]) (N := n_parts_of) (sc := defScope s_parts_of) (by decide +kernel))
            (fun _ _ _ _ _ => pg_name (i := 7) sc_parts_of.nd rfl (Or.inl rfl)) (fun _ _ _ _ _ => pts_nil) (fun _ _ _ _ _ => pv 7) (fun _ _ _ _ _ => pe_bl)) pa_nil)) (by rfl))
      (pss_cons (ps_par3 (i := 3) (j := 4) (l := 5) rfl sc_parts_of.nd rfl rfl rfl (by decide) (by decide) (by decide) rfl rfl rfl (pa_cons (pe_lst pa_nil) (pa_cons (pe_lst pa_nil) (pa_cons pe_dnewK pa_nil))) (by rfl))
      (pss_cons (ps_for PassesOwn.never rfl (pi_range1 rfl T.n_range (pa_cons (pe_propR (pv 0) T.o_Map.cl T.P_Map_size (ok_size T) (hr.mono (by decide))) pa_nil)) (pg_name (i := 6) sc_parts_of.nd rfl (Or.inl rfl))
        (pss_one (ps_if (pt_cmp (pc_dnotin hu (pv 6) (pv 2)))
          (pss_cons (ps_expr (pe_bm PySem.F.plainAttrs_list PySem.F.slot_list_append PySem.F.type_list_append mt_append (pv 4) (pa_cons (pe_callR (ok_row_from T) (hr.mono (by decide)) T.A_row_from.kp rfl T.g_row_from pass0 (pa_cons (pv 1) (pa_cons (pv 6) pa_nil))) pa_nil)))
          (pss_one (ps_expr (pe_bm PySem.F.plainAttrs_dict PySem.F.slot_dict_update PySem.F.type_dict_update mt_updD (pv 5) (pa_cons (pe_dc (own := [("one", 8)]) (g := gName 8) (tt := tYes) rfl sc_parts_of.nd (pi_list (pe_ix ix_list (pv 4) (pe_un un_neg pe_int) (fun _ _ => rfl)))
            (blkOk_by (own := [("one", 8)]) (N := n_parts_of) (sc := defScope s_parts_of) (by decide +kernel))
            (fun _ _ _ _ _ => pg_name (i := 8) sc_parts_of.nd rfl (Or.inl rfl)) (fun _ _ _ _ _ => pts_nil) (fun _ _ _ _ _ => pv 8) (fun _ _ _ _ _ => pe_bl)) pa_nil))))) pss_nil)))
      (pss_cons (ps_for PassesOwn.never rfl (pi_range1 rfl T.n_range (pa_cons (pe_propR (pv 0) T.o_Map.cl T.P_Map_size (ok_size T) (hr.mono (by decide))) pa_nil)) (pg_name (i := 6) sc_parts_of.nd rfl (Or.inl rfl))
        (pss_one (ps_if (pt_cmp (pc_dnotin hu (pv 6) (pv 5)))
          (pss_cons (ps_expr (pe_bm PySem.F.plainAttrs_list PySem.F.slot_list_append PySem.F.type_list_append mt_append (pv 3) (pa_cons (pe_callR (ok_row_from T) (hr.mono (by decide)) T.A_row_from.kp rfl T.g_row_from pass0 (pa_cons (pv 1) (pa_cons (pv 6) pa_nil))) pa_nil)))
          (pss_one (ps_expr (pe_bm PySem.F.plainAttrs_dict PySem.F.slot_dict_update PySem.F.type_dict_update mt_updD (pv 5) (pa_cons (pe_dc (own := [("one", 8)]) (g := gName 8) (tt := tYes) rfl sc_parts_of.nd (pi_list (pe_ix ix_list (pv 3) (pe_un un_neg pe_int) (fun _ _ => rfl)))
            (blkOk_by (own := [("one", 8)]) (N := n_parts_of) (sc := defScope s_parts_of) (by decide +kernel))
            (fun _ _ _ _ _ => pg_name (i := 8) sc_parts_of.nd rfl (Or.inl rfl)) (fun _ _ _ _ _ => pts_nil) (fun _ _ _ _ _ => pv 8) (fun _ _ _ _ _ => pe_bl)) pa_nil))))) pss_nil)))
      (pss_one (ps_ret (pe_tup (pa_cons (pv 3) (pa_cons (pv 4) pa_nil)))))))), ?_⟩
    obtain ⟨dx, fs, h1⟩ := at_map hm
    have wf := hm.wf
    have hn3 := hm.hi
    have hn1 := hm.lo
    have tl := tab_len n f
    refine ⟨_, rfl, a, dx, fs, rfl, h1, a, n, f, rfl, hm, fun d hd => ?_⟩
    have s1 : Same H (upd H d (.dK (kvI (tab n f)))) := Same.new hd
    refine dc_valsF (H := upd H d (.dK (kvI (tab n f)))) (l := tab n f) (fun R r => ?_) (fun _ => rfl) (fun _ _ _ r => r) (fun _ _ _ r => ⟨_, rfl, r⟩) (fun _ _ _ r => r) (vals_tab wf) (small1000 (by omega)) (fun tg H2 ntg htg s2 => ?_)
    · refine ⟨_, rfl, a, dx, fs, rfl, s1 _ _ h1, a, n, f, rfl, hm.same s1, fun p hp => ⟨p, _, rfl, upd_same, trivial, fun od => ?_⟩⟩
      rw [upd_upd]
      exact r p od hp
    refine ⟨_, _, rfl, ?_⟩
    have s12 := s1.trans s2
    have hd2 : H2 d = some (.dK (kvI (tab n f))) := s2 _ _ upd_same
    refine ⟨(by show 0 ≤ sizeLine; decide), fun lc hlc => ⟨(by show 0 ≤ sizeLine; decide), fun lh hlh => fun se hse => ⟨_, _, _, rfl, ?_⟩⟩⟩
    have nlc : lc ≠ lh := ne_of_none upd_same hlh
    have ncs : lc ≠ se := ne_of_none (by rw [upd_ne nlc]; exact upd_same) hse
    have nhs : lh ≠ se := ne_of_none upd_same hse
    have s3 : Same H2 (upd (upd (upd H2 lc (.lst [])) lh (.lst [])) se (.dK [])) := ((Same.new hlc).trans (Same.new hlh)).trans (Same.new hse)
    have hlh2 : H2 lh = none := (Same.new hlc).free hlh
    have hse2 : H2 se = none := ((Same.new hlc).trans (Same.new hlh)).free hse
    refine ⟨_, rfl, a, dx, fs, rfl, (s12.trans s3) _ _ h1, a, n, f, rfl, hm.same (s12.trans s3), n, rfl, by omega, by omega, ?_⟩
    refine for_it (walk_range (lo := 0) (n := n.toNat)) (fun i σ H' => ∃ v6 v7 v8 hs sl, σ = [some (.ref a), some (.ref d), some (.ref tg), some (.ref lc), some (.ref lh), some (.ref se), v6, v7, v8] ∧ H' lc = some (.lst []) ∧ Prt n f H2 H' lh se [lc] [] hs sl ((rgI i).filter (nonT n f)))
      ⟨none, none, none, [], [], rfl, ?_, s3, ?_, upd_same, trivial, fun x => ?_, List.nodup_nil, fun a h => nomatch h⟩ (fun _ _ _ _ _ => trivial) ?_ ?_
    · rw [upd_ne ncs, upd_ne nlc, upd_same]
    · rw [upd_ne nhs, upd_same]; rfl
    · exact ⟨fun h => (nomatch h), fun h => (nomatch h)⟩
    · rintro i v σ H' H'' hi ⟨v6, v7, v8, hs, sl, rfl, c1, p⟩ ⟨rfl, rfl⟩
      have x0 : (0 : Int) ≤ 0 + (i : Nat) := by omega
      have x1 : (0 : Int) + (i : Nat) < n := by omega
      refine ⟨_, rfl, _, rfl, tg, _, rfl, DGet.k (k := Sum.inl (0 + (i : Nat) : Int)) (p.sm _ _ htg), _, rfl, ?_⟩
      rw [tgt_tab wf]
      have hst : ∀ e ∈ [] ++ (rgI i).filter (nonT n f), 0 ≤ e ∧ e < n := fun e he => by
        have := mem_rgI.mp (List.mem_filter.mp he).1
        omega
      have hsl := p.slen wf hst
      have hlen := p.r.len
      rw [List.length_map] at hlen
      have hfl : ((rgI i).filter (nonT n f)).length ≤ i := Nat.le_trans (List.length_filter_le _ _) (by simp [rgI])
      refine ifNB (fun hc => ?_) (fun hc => ?_)
      · have hnt : nonT n f (0 + (i : Nat)) = true := by simpa using hc
        refine ⟨_, rfl, .inl ⟨rfl, _, SqL.of p.l⟩, _, rfl, _, rfl, d, tab n f, n, f, 0 + (i : Nat), rfl, p.sm _ _ hd2, di_tab wf, wf, hn3, x0, x1, fun r H3 pre z hr0 sr hr2 row ho => ?_⟩
        have hrow : IsRow f (0 + (i : Nat)) (pre ++ [z]) := ⟨pre, z, rfl, row, ho⟩
        rw [← rowN_eq hrow] at hr2
        refine ⟨lh, _, .ref r, rfl, rfl, sr _ _ p.l, ?_, ?_⟩
        · rw [List.length_map]; exact small1000 (by omega)
        have rl : r ≠ lh := fun z => by rw [z, p.l] at hr0; cases hr0
        have rs : r ≠ se := fun z => by rw [z, p.s] at hr0; cases hr0
        have hs4 : (upd H3 lh (.lst (hs.map V.ref ++ [.ref r]))) se = some (.dK (kvB sl)) := by rw [upd_ne nhs.symm]; exact sr _ _ p.s
        have nrow := (rowN_is wf x0 x1).nd wf
        have drow := (rowN_is wf x0 x1).dom wf x0 x1
        have lrow := len_range nrow drow
        refine ⟨_, rfl, .inr (.inr (.inl ⟨rfl, .inl ⟨_, hs4⟩⟩)), ?_⟩
        refine dc_ints (a := r) (xs := rowN f (0 + (i : Nat))) (H := upd H3 lh (.lst (hs.map V.ref ++ [.ref r]))) (fun R rr => ?_) (by rw [upd_ne rl]; exact hr2) (fun _ => rfl) (fun _ _ _ r => r) (fun _ _ _ r => ⟨_, rfl, r⟩) (fun _ _ _ r => r) nrow (small1000 (by omega)) (fun D H5 nD hD s5 => ?_)
        · exact ⟨_, rfl, 1, rfl, lh, _, -1, _, rfl, rfl, SqL.of upd_same, atI_last _ _, rr⟩
        obtain ⟨sl', em, m1, n1⟩ := kvB_merge (rowN f (0 + (i : Nat))) sl
        refine ⟨se, D, _, _, rfl, rfl, ?_, s5 _ _ hs4, hD, ?_, ?_⟩
        · exact ne_of_none hs4 nD
        · rw [kvB_len, kvB_len]; exact Nat.le_trans (by omega : _ ≤ 1000) (by decide)
        rw [em]
        have pm := p.more hlh2 hse2 nhs (fun a ha => by rw [List.mem_singleton] at ha; rw [ha, c1]; simp) hr0 sr hr2 m1 n1 s5
        refine ⟨_, _, _, hs ++ [r], sl', rfl, ?_, ?_⟩
        · rw [upd_ne ncs]; exact s5 _ _ (by rw [upd_ne nlc]; exact sr _ _ c1)
        · rw [rgI_succ, List.filter_append, List.filter_cons_of_pos (by rw [Int.zero_add] at hnt; exact hnt), List.filter_nil]
          rw [Int.zero_add] at pm
          exact pm
      · have hnt : nonT n f ((i : Nat) : Int) = false := by rw [Int.zero_add] at hc; simpa using hc
        refine ⟨_, _, _, hs, sl, rfl, c1, ?_⟩
        rw [rgI_succ, List.filter_append, List.filter_cons_of_neg (by rw [hnt]; exact Bool.false_ne_true), List.filter_nil, List.append_nil]
        exact p
    · rintro σ H3 ⟨v6, v7, v8, hs, sl, rfl, c1, p⟩
      have s13 : Same H H3 := s12.trans p.sm
      refine ⟨_, rfl, a, dx, fs, rfl, s13 _ _ h1, a, n, f, rfl, hm.same s13, n, rfl, by omega, by omega, ?_⟩
      refine for_it (walk_range (lo := 0) (n := n.toNat)) (fun i σ H' => ∃ v6 v7 v8 cs sl st, σ = [some (.ref a), some (.ref d), some (.ref tg), some (.ref lc), some (.ref lh), some (.ref se), v6, v7, v8] ∧ Prt n f H2 H' lc se [lh] (nons n f) cs sl st ∧ selL f (nons n f) (rgI i) = nons n f ++ st ∧ H' lh = some (.lst (hs.map V.ref)) ∧ RowsAt H' hs ((nons n f).map (rowN f)))
        ⟨_, _, _, [], sl, [], rfl, ⟨p.sm, c1, p.s, trivial, fun x => ?_, p.nd, fun a h => nomatch h⟩, by simp [selL, rgI], p.l, p.r⟩ (fun _ _ _ _ _ => trivial) ?_ ?_
      · rw [List.append_nil]; exact p.m x
      · rintro i v σ H' H'' hi ⟨v6, v7, v8, cs, sl, st, rfl, p', est, e1, e2⟩ ⟨rfl, rfl⟩
        have x0 : (0 : Int) ≤ 0 + (i : Nat) := by omega
        have x1 : (0 : Int) + (i : Nat) < n := by omega
        obtain ⟨c, ec, hc1, hc2⟩ := selL_sub f (rgI i) (nons n f)
        rw [est] at ec
        have ec := List.append_cancel_left ec
        subst ec
        have hst : ∀ e ∈ nons n f ++ st, 0 ≤ e ∧ e < n := fun e he => by
          rcases List.mem_append.mp he with he | he
          · have := nons_dom he
            exact ⟨this.1, this.2.1⟩
          · have := mem_rgI.mp (hc1.subset he)
            omega
        have hsl := p'.slen wf hst
        have hlen := p'.r.len
        rw [List.length_map] at hlen
        have hfl : st.length ≤ i := Nat.le_trans hc1.length_le (by simp [rgI])
        refine ⟨_, rfl, _, rfl, se, _, rfl, DGet.k (k := Sum.inl (0 + (i : Nat) : Int)) p'.s, _, rfl, ?_⟩
        rw [kvB_val]
        refine ifN (fun hc => ?_) (fun hc => ?_)
        · have hns : ((i : Nat) : Int) ∉ seenL f (nons n f ++ st) := fun h => hc (by rw [Int.zero_add]; exact (p'.m _).mpr h)
          refine ⟨_, rfl, .inl ⟨rfl, _, SqL.of p'.l⟩, _, rfl, _, rfl, d, tab n f, n, f, 0 + (i : Nat), rfl, p'.sm _ _ hd2, di_tab wf, wf, hn3, x0, x1, fun r H3 pre z hr0 sr hr2 row ho => ?_⟩
          have hrow : IsRow f (0 + (i : Nat)) (pre ++ [z]) := ⟨pre, z, rfl, row, ho⟩
          rw [← rowN_eq hrow] at hr2
          refine ⟨lc, _, .ref r, rfl, rfl, sr _ _ p'.l, ?_, ?_⟩
          · rw [List.length_map]; exact small1000 (by omega)
          have rl : r ≠ lc := fun z => by rw [z, p'.l] at hr0; cases hr0
          have hs4 : (upd H3 lc (.lst (cs.map V.ref ++ [.ref r]))) se = some (.dK (kvB sl)) := by rw [upd_ne ncs.symm]; exact sr _ _ p'.s
          have nrow := (rowN_is wf x0 x1).nd wf
          have drow := (rowN_is wf x0 x1).dom wf x0 x1
          have lrow := len_range nrow drow
          refine ⟨_, rfl, .inr (.inr (.inl ⟨rfl, .inl ⟨_, hs4⟩⟩)), ?_⟩
          refine dc_ints (a := r) (xs := rowN f (0 + (i : Nat))) (H := upd H3 lc (.lst (cs.map V.ref ++ [.ref r]))) (fun R rr => ?_) (by rw [upd_ne rl]; exact hr2) (fun _ => rfl) (fun _ _ _ r => r) (fun _ _ _ r => ⟨_, rfl, r⟩) (fun _ _ _ r => r) nrow (small1000 (by omega)) (fun D H5 nD hD s5 => ?_)
          · exact ⟨_, rfl, 1, rfl, lc, _, -1, _, rfl, rfl, SqL.of upd_same, atI_last _ _, rr⟩
          obtain ⟨sl', em, m1, n1⟩ := kvB_merge (rowN f (0 + (i : Nat))) sl
          refine ⟨se, D, _, _, rfl, rfl, ?_, s5 _ _ hs4, hD, ?_, ?_⟩
          · exact ne_of_none hs4 nD
          · rw [kvB_len, kvB_len]; exact Nat.le_trans (by omega : _ ≤ 1000) (by decide)
          rw [em]
          have pm := p'.more hlc hse2 ncs (fun a ha => by rw [List.mem_singleton] at ha; rw [ha, e1]; simp) hr0 sr hr2 m1 n1 s5
          refine ⟨_, _, _, cs ++ [r], sl', st ++ [((i : Nat) : Int)], rfl, ?_, ?_, ?_, ?_⟩
          · rw [Int.zero_add] at pm
            exact pm
          · rw [rgI_succ, selL_one, est]
            unfold stp
            rw [if_neg hns, List.append_assoc]
          · rw [upd_ne nhs]; exact s5 _ _ (by rw [upd_ne nlc.symm]; exact sr _ _ e1)
          · have g1 := (e2.same sr).off (p := lc) (o := .lst (cs.map V.ref ++ [.ref r])) (fun z => (p.nw lc z).2.2.2 (by simp))
            exact (g1.same s5).off fun z => (p.nw se z).2.2.1 rfl
        · have hns : ((i : Nat) : Int) ∈ seenL f (nons n f ++ st) := (p'.m _).mp (by rw [Int.zero_add] at hc; exact hc)
          refine ⟨_, _, _, cs, sl, st, rfl, p', ?_, e1, e2⟩
          rw [rgI_succ, selL_one, est]
          unfold stp
          rw [if_pos hns]
      · rintro σ H4 ⟨v6, v7, v8, cs, sl', st, rfl, p', est, e1, e2⟩
        rw [cycS_eq] at est
        have est := List.append_cancel_left est
        subst est
        refine ⟨_, rfl, _, rfl, (by show 2 ≤ sizeLine; decide), fun t ht => ?_⟩
        have s5 : Same H4 (upd H4 t (.tup [.ref lc, .ref lh])) := Same.new ht
        refine q t lc lh cs hs _ ((s12.trans p'.sm).trans s5) upd_same (s5 _ _ p'.l) (s5 _ _ e1) (p'.r.same s5) (e2.same s5) (s12.free hlc) (s12.free hlh2) nlc (fun a ha => ?_) (fun a ha => ?_)
        · have := p'.nw a ha
          exact ⟨s12.free this.1, this.2.1, by simpa using this.2.2.2⟩
        · have := p.nw a ha
          exact ⟨s12.free this.1, by simpa using this.2.2.2, this.2.1⟩
/-! ### cycles_of, chains_of -/
end
end My
namespace My
open PySem L2 U StX PM
/-! ### lists of ints: in, comprehensions -/
/-! ### rows with marks -/
def PairsAt (H : Hp) : List Addr → List Addr → List Bool → Prop
  | [], [], [] => True
  | p :: ps, a :: as, b :: bs => H p = some (.tup [.ref a, .bl b]) ∧ PairsAt H ps as bs
  | _, _, _ => False
theorem PairsAt.map {H H' : Hp} : ∀ {ps as : List Addr} {bs : List Bool}, PairsAt H ps as bs → (∀ p ∈ ps, ∀ xs, H p = some (.tup xs) → H' p = some (.tup xs)) → PairsAt H' ps as bs
  | [], [], [], _, _ => trivial
  | _ :: ps, _ :: as, _ :: bs, h, k => ⟨k _ List.mem_cons_self _ h.1, PairsAt.map h.2 fun a ha => k a (List.mem_cons_of_mem _ ha)⟩
  | [], [], _ :: _, h, _ => h.elim
  | [], _ :: _, _, h, _ => h.elim
  | _ :: _, [], _, h, _ => h.elim
  | _ :: _, _ :: _, [], h, _ => h.elim
theorem PairsAt.same {H H' : Hp} {ps as : List Addr} {bs : List Bool} (h : PairsAt H ps as bs) (s : Same H H') : PairsAt H' ps as bs := h.map fun a _ xs e => s a _ e
theorem PairsAt.off {H : Hp} {ps as : List Addr} {bs : List Bool} {q : Addr} {o u : HO} (h : PairsAt H ps as bs) (hq : H q = some u) (nt : ∀ xs, u ≠ .tup xs) : PairsAt (upd H q o) ps as bs := h.map fun a ha xs e => by
  have hne : a ≠ q := fun z => by subst z; rw [hq] at e; exact nt _ (Option.some.inj e)
  rw [upd_ne hne]; exact e
theorem PairsAt.snoc {H : Hp} {p a : Addr} {b : Bool} : ∀ {ps as : List Addr} {bs : List Bool}, PairsAt H ps as bs → H p = some (.tup [.ref a, .bl b]) → PairsAt H (ps ++ [p]) (as ++ [a]) (bs ++ [b])
  | [], [], [], _, e => ⟨e, trivial⟩
  | _ :: ps, _ :: as, _ :: bs, h, e => ⟨h.1, PairsAt.snoc h.2 e⟩
  | [], [], _ :: _, h, _ => h.elim
  | [], _ :: _, _, h, _ => h.elim
  | _ :: _, [], _, h, _ => h.elim
  | _ :: _, _ :: _, [], h, _ => h.elim
theorem PairsAt.len {H : Hp} : ∀ {ps as : List Addr} {bs : List Bool}, PairsAt H ps as bs → ps.length = as.length ∧ ps.length = bs.length
  | [], [], [], _ => ⟨rfl, rfl⟩
  | _ :: ps, _ :: as, _ :: bs, h => by
    have := PairsAt.len h.2
    simp [this.1.symm, this.2.symm]
  | [], [], _ :: _, h => h.elim
  | [], _ :: _, _, h => h.elim
  | _ :: _, [], _, h => h.elim
  | _ :: _, _ :: _, [], h => h.elim
theorem PairsAt.get {H : Hp} : ∀ {ps as : List Addr} {bs : List Bool}, PairsAt H ps as bs → ∀ (i : Nat) (p : Addr), ps[i]? = some p → ∃ a b, as[i]? = some a ∧ bs[i]? = some b ∧ H p = some (.tup [.ref a, .bl b])
  | [], [], [], _, i, a, e => by simp at e
  | _ :: ps, a :: as, b :: bs, h, 0, p, e => by cases e; exact ⟨a, b, rfl, rfl, h.1⟩
  | _ :: ps, _ :: as, _ :: bs, h, i + 1, p, e => PairsAt.get h.2 i p e
  | [], [], _ :: _, h, _, _, _ => h.elim
  | [], _ :: _, _, h, _, _, _ => h.elim
  | _ :: _, [], _, h, _, _, _ => h.elim
  | _ :: _, _ :: _, [], h, _, _, _ => h.elim
end My
namespace My
open PySem L2 U StX PM
/-- [v for .. in xs if ..], any list, the tests and parts reading alone -/
theorem lc_lst {α : Type} {K : PySem.W.Frag} {te : TE} {g : TG} {tt : TT} {tv : TE} {vs : List Nat} {σ : L2.St} {H0 H : Hp} {Q : VK} {a : Addr} {xs : List α} (e : α → V) (sx : α → L2.St) (c : α → Bool) (vf : α → V) (hte : ∀ R : VK, R (.ref a) H → te σ H0 R) (ha : H a = some (.lst (xs.map e)))
    (hg : ∀ x ∈ xs, ∀ (H1 : Hp), L2.Same H H1 → ∀ R : L2.St → Hp → Prop, R (sx x) H1 → g (e x) (wipe σ vs) H1 R) (hw : ∀ x ∈ xs, wipe (sx x) vs = wipe σ vs)
    (hb : ∀ x ∈ xs, ∀ (H1 : Hp), L2.Same H H1 → (∀ R : Bool → Hp → Prop, R (c x) H1 → tt (sx x) H1 R) ∧ (c x = true → ∀ R : VK, R (vf x) H1 → tv (sx x) H1 R))
    (hz : xs.length < sizeLine)
    (hq : ∀ D H', H D = none → H' D = some (.lst ((xs.filter c).map vf)) → L2.Same H H' → Q (.ref D) H') :
    tLc (iList K te) g tt tv vs σ H0 Q := by
  refine hte _ ⟨a, rfl, ⟨_, SqL.of ha⟩, fun D hD => ?_⟩
  refine lc_it (walk_list (xs := xs.map e)) (fun k H' => L2.Same H H' ∧ H' D = some (.lst (((xs.take k).filter c).map vf))) ⟨Same.new hD, upd_same⟩ (fun k H' _ p => SqL.of (p.1 _ _ ha)) ?_ ?_
  · rintro k v H' H'' hk1 ⟨p1, p2⟩ ⟨rfl, ev⟩
    rw [List.length_map] at hk1
    obtain ⟨y, ey⟩ : ∃ y, xs[k]? = some y := ⟨_, List.getElem?_eq_getElem hk1⟩
    have ev' : v = e y := by
      rw [List.getElem?_map, ey] at ev
      exact (Option.some.inj ev).symm
    subst ev'
    have hy := List.mem_of_getElem? ey
    refine hg y hy _ p1 _ ⟨hw y hy, ?_⟩
    obtain ⟨b1, b2⟩ := hb y hy _ p1
    refine b1 _ ?_
    have st : (xs.take (k + 1)).filter c = (xs.take k).filter c ++ (if c y = true then [y] else []) := by
      rw [take_more ey, List.filter_append]
      by_cases h : c y = true
      · simp [h]
      · have h' : c y = false := by simpa using h
        simp [h']
    cases hc : c y with
    | true =>
      refine iteT (b2 hc _ ⟨_, p2, ?_, Same.put p1 hD, ?_⟩)
      · refine Nat.lt_of_le_of_lt ?_ hz
        rw [List.length_map]
        exact Nat.le_trans (List.length_filter_le _ _) (by rw [List.length_take]; omega)
      · rw [upd_same, st, if_pos hc, List.map_append]
        rfl
    | false =>
      refine iteF ⟨p1, ?_⟩
      rw [st, hc, if_neg Bool.false_ne_true, List.append_nil]
      exact p2
  · rintro H' ⟨p1, p2⟩
    rw [List.length_map, List.take_length] at p2
    exact hq D _ hD p2 p1
/-! ### rows by their first elements -/
def RowsZ (f : PF) (H : Hp) (zs : List (Addr × Int)) : Prop := ∀ z ∈ zs, H z.1 = some (.lst ((rowN f z.2).map V.int))
theorem RowsAt.zs {f : PF} {H : Hp} : ∀ {as : List Addr} {l : List Int}, RowsAt H as (l.map (rowN f)) → ∃ zs : List (Addr × Int), zs.map (·.1) = as ∧ zs.map (·.2) = l ∧ RowsZ f H zs
  | [], [], _ => ⟨[], rfl, rfl, fun z h => nomatch h⟩
  | a :: as, x :: l, h => by
    obtain ⟨zs, e1, e2, r⟩ := RowsAt.zs h.2
    refine ⟨(a, x) :: zs, by simp [e1], by simp [e2], fun z hz => ?_⟩
    rcases List.mem_cons.mp hz with rfl | hz
    · exact h.1
    · exact r z hz
  | [], _ :: _, h => h.elim
  | _ :: _, [], h => h.elim
theorem RowsZ.at {f : PF} {H : Hp} : ∀ {zs : List (Addr × Int)}, RowsZ f H zs → RowsAt H (zs.map (·.1)) ((zs.map (·.2)).map (rowN f))
  | [], _ => trivial
  | z :: zs, h => ⟨h z List.mem_cons_self, RowsZ.at fun x hx => h x (List.mem_cons_of_mem _ hx)⟩
/-! ### data that may be compared -/
theorem lay_ints : ∀ (r : List Int), PyData.canLayAll0 (r.map PyData.int) = true ∧ PyData.depthAll (r.map PyData.int) = 0
  | [] => ⟨rfl, rfl⟩
  | x :: r => by
    have := lay_ints r
    constructor
    · show (PyData.canLay0 (.int x) && PyData.canLayAll0 (r.map PyData.int)) = true
      rw [this.1]; rfl
    · show max (PyData.depth (.int x)) (PyData.depthAll (r.map PyData.int)) = 0
      rw [this.2]; rfl
theorem lay_rows : ∀ (rs : List (List Int)), PyData.canLayAll0 (rs.map dInts) = true ∧ PyData.depthAll (rs.map dInts) ≤ 1
  | [] => ⟨rfl, Nat.zero_le _⟩
  | r :: rs => by
    have h1 := lay_ints r
    have h2 := lay_rows rs
    constructor
    · show (PyData.canLay0 (dInts r) && PyData.canLayAll0 (rs.map dInts)) = true
      rw [h2.1, Bool.and_true]
      exact h1.1
    · show max (PyData.depth (dInts r)) (PyData.depthAll (rs.map dInts)) ≤ 1
      have : PyData.depth (dInts r) = 1 := by show PyData.depthAll (r.map PyData.int) + 1 = 1; rw [h1.2]
      omega
theorem shaped_rows (rs : List (List Int)) : SeqAt.shaped (.list (rs.map dInts)) = true := by
  have h := lay_rows rs
  unfold SeqAt.shaped
  have h1 : PyData.canLay0 (.list (rs.map dInts)) = true := h.1
  have h2 : PyData.depth (.list (rs.map dInts)) ≤ 64 := by
    show PyData.depthAll (rs.map dInts) + 1 ≤ 64
    omega
  rw [h1, decide_eq_true h2]
  rfl
end My
namespace My
open PySem L2 U StX PM
theorem SqL.same {K : PySem.W.Frag} {H H' : Hp} {a : Addr} {xs : List V} (h : SqL K H a xs) (s : Same H H') : SqL K H' a xs := by
  rcases h with (h | ⟨o, h⟩) | h
  · exact .inl (.inl (s _ _ h))
  · exact .inl (.inr ⟨o, s _ _ h⟩)
  · exact .inr h
theorem Same.off {H H1 H2 : Hp} {p : Addr} (s : Same H H1) (o : Off p H1 H2) (h : H p = none) : Same H H2 := fun b u e => o b u (ne_of_none e h) (s b u e)
theorem yes_ {σ : L2.St} {H : Hp} {A B : Hp → Prop} (h : A H) : tYes σ H (fun b H3 => if b = true then A H3 else B H3) := by
  show (if true = true then A H else B H)
  rw [if_pos rfl]
  exact h
theorem PoolAt.same {H H' : Hp} {p : Addr} (h : PoolAt H p) (s : Same H H') : PoolAt H' p := by
  obtain ⟨a, b, e, r⟩ := h
  exact ⟨a, b, s _ _ e, r⟩
theorem PoolAt.lst {H : Hp} {p : Addr} (h : PoolAt H p) : ∃ xs, H p = some (.lst xs) := by
  obtain ⟨a, b, e, r⟩ := h
  exact ⟨_, e⟩
theorem PoolAt.ne {H : Hp} {p q : Addr} (h : PoolAt H p) (hq : H q = none) : p ≠ q := by
  obtain ⟨xs, e⟩ := h.lst
  exact ne_of_none e hq
def spLaw (K : PySem.W.Frag) : Sp := fun vs H Q _ => ∃ (a : Addr) (ns : List Int), vs = [.ref a] ∧ SqL K H a (ns.map V.int) ∧ ns.length ≤ 63 ∧ ∀ H', Q (.bl true) H'
theorem IsMap.off {C p : Addr} {H H' : Hp} {m : Addr} {n : Int} {f : PF} (a : IsMap C H m n f) (o : Off p H H') (h : ∃ xs, H p = some (.lst xs)) : IsMap C H' m n f := by
  obtain ⟨⟨dx, D, h1, h2⟩, wf, lo, hi⟩ := a
  obtain ⟨xs, h⟩ := h
  exact ⟨⟨dx, D, o _ _ (fun e => by rw [e, h] at h1; cases h1) h1, o _ _ (fun e => by rw [e, h] at h2; cases h2) h2⟩, wf, lo, hi⟩
/-- Map(n, d) -/
theorem init_of {C : Addr} {H : Hp} {d : Addr} {n : Int} {l : List (Int × Int)} {f : PF} {R : VK} {E : XK} {x dx : Addr} (hd : H d = some (.dK (kvI l))) (di : DI l f) (wf : WF n f) (h1 : 1 ≤ n) (h3 : n ≤ 300) (hl : l.length ≤ 1000)
    (hx : H x = none) (hdx : H dx = none) (ne : dx ≠ x) (q : ∀ H', Same H H' → IsMap C H' x n f → R .non H') :
    spInit C [.ref x, .int n, .ref d] (upd (upd H dx (.own x)) x (.ins C dx [])) R E := by
  have s0 : Same H (upd (upd H dx (.own x)) x (.ins C dx [])) := fun b o e => by
    rw [upd_ne (ne_of_none e hx), upd_ne (ne_of_none e hdx)]
    exact e
  refine ⟨x, dx, d, n, l, f, rfl, upd_same, s0 _ _ hd, di, wf, h1, h3, hl, fun H' D o nD hp hD => ?_⟩
  exact q H' (fun b u e => o b u (ne_of_none e hx) (s0 b u e)) ⟨⟨dx, D, hp, hD⟩, wf, h1, h3⟩
/-- the law's draw, told by the pool alone -/
theorem draw_of {H : Hp} {p : Addr} {n : Int} {Q : VK} {E : XK} (h : PoolAt H p) (n0 : 0 < n) (n1 : n < 1073741824) (k : ∀ r H', 0 ≤ r → r < n → PoolAt H' p → Off p H H' → (∃ xs, H' = upd H p (.lst xs)) → Q (.int r) H') : spDraw [.ref p, .int n] H Q E := by
  obtain ⟨a, b, e, ha, hb, hc⟩ := h
  exact ⟨p, a, b, n, rfl, e, ha, hb, hc, n0, n1, fun a' b' r h1 h2 h3 h4 h5 => k r _ h4 h5 ⟨a', b', upd_same, h1, h2, h3⟩ Off.lock ⟨_, rfl⟩⟩
end My
namespace My
open PySem L2 U StX PM
theorem paired_at {α β : Type} {R : α → β → Prop} {xs : List α} {ys : List β} (h : Paired R xs ys) {i : Nat} {x : α} (e : xs[i]? = some x) : ∃ y, ys[i]? = some y ∧ R x y := by
  induction h generalizing i with
  | nil => cases e
  | cons r _ ih =>
    cases i with
    | zero => cases e; exact ⟨_, rfl, r⟩
    | succ i => exact ih e
theorem PoolAt.put {H : Hp} {p q : Addr} {o : HO} (h : PoolAt H p) (n : p ≠ q) : PoolAt (upd H q o) p := by
  obtain ⟨a, b, e, r⟩ := h
  exact ⟨a, b, by rw [upd_ne n]; exact e, r⟩
theorem draw_R {i : Nat} {tb : TE} {σ : L2.St} {H : Hp} {Q : VK} {p : Addr} {n : Int} (hi : σ[i]? = some (some (.ref p))) (hb : ∀ R : VK, R (.int n) H → tb σ H R) (h : PoolAt H p) (n0 : 0 < n) (n1 : n < 1073741824)
    (k : ∀ r H', 0 ≤ r → r < n → PoolAt H' p → Off p H H' → Q (.int r) H') : tCallR spDraw E0 (tCons (tVar i) (tCons tb tNil)) σ H Q :=
  ⟨_, hi, hb _ (draw_of (E := E0) h n0 n1 fun r H' h1 h2 h3 h4 _ => k r H' h1 h2 h3 h4)⟩
theorem dgetL {H : Hp} {d : Addr} {l : List (Int × Int)} {f : PF} (h : H d = some (.dK (kvI l))) (di : DI l f) (i : Int) : DGet H d (.int i) ((f i).map V.int) := by
  have := DGet.k (k := Sum.inl i) h
  rw [valV_kvI, di.at_] at this
  exact this
theorem di_lenN {n : Int} {l : List (Int × Int)} {f : PF} (di : DI l f) (wf : WF n f) : l.length ≤ n.toNat := by
  have := len_range (l := l.map (·.1)) (n := n) di.nd fun x hx => by
    obtain ⟨⟨x', y'⟩, h1, rfl⟩ := List.mem_map.mp hx
    have := wf.dom x' y' (di.mem.mp h1)
    exact ⟨this.1, this.2.1⟩
  rwa [List.length_map] at this
end My
namespace My
open PySem L2 U StX PM
/-! ### a map as a text -/
def dI (l : List (Int × Int)) : PyData := flatD (kvI l) (l.map fun p => .int p.2)
theorem dI_eq (l : List (Int × Int)) : dI l = .dict (l.map fun p => (PyData.int p.1, PyData.int p.2)) := by
  unfold dI flatD kvI
  rw [List.map_map]
  congr 1
  induction l with
  | nil => rfl
  | cons p r ih =>
    rw [List.map_cons, List.map_cons, List.map_cons, List.zip_cons_cons, ih]
    rfl
theorem dI_sc : ∀ (l : List (Int × Int)), Paired (fun kv d => Sc kv.2 d) (kvI l) (l.map fun p => PyData.int p.2)
  | [] => .nil
  | p :: r => .cons (.int p.2) (dI_sc r)
def small (i : Int) : Prop := i.natAbs < 1000000000
theorem small_log {i : Int} (h : small i) : i.natAbs.log2 < 1920 := by
  unfold small at h
  by_cases h0 : i.natAbs = 0
  · rw [h0]; decide
  · rw [Nat.log2_lt h0]
    exact Nat.lt_of_lt_of_le h (by decide)
theorem small_len {i : Int} (h : small i) : (Str.ofString (toString i)).length ≤ 10 := by
  have := int_text_length_le10 (a := i) (k := 9) (by decide) h
  rw [ofString_length]
  omega
def rowT (p : Int × Int) : Str := PyData.shown (.int p.1) ++ ": " ++ PyData.shown (.int p.2)
theorem dI_shown (l : List (Int × Int)) : (dI l).shown = dictText (l.map rowT) := by
  rw [dI_eq]
  simp only [PyData.shown]
  congr 1
  induction l with
  | nil => rfl
  | cons p r ih =>
    rw [List.map_cons, List.map_cons]
    simp only [PyData.shownKv]
    rw [ih]
    rfl
theorem rowT_len {p : Int × Int} (h1 : small p.1) (h2 : small p.2) : (rowT p).length ≤ 22 := by
  have a := small_len h1
  have b := small_len h2
  unfold rowT
  simp only [PyData.shown]
  rw [strLen_append, strLen_append]
  show _ + 2 + _ ≤ 22
  omega
theorem sum_le {l : List Nat} {B : Nat} (h : ∀ x ∈ l, x ≤ B) : l.sum ≤ l.length * B := by
  induction l with
  | nil => exact Nat.zero_le _
  | cons a r ih =>
    rw [List.sum_cons, List.length_cons, Nat.succ_mul]
    have := ih fun x hx => h x (List.mem_cons_of_mem _ hx)
    have := h a List.mem_cons_self
    omega
theorem dI_len {l : List (Int × Int)} (h : ∀ p ∈ l, small p.1 ∧ small p.2) (hl : l.length ≤ 1000) : (dI l).shown.length ≤ 30000 := by
  rw [dI_shown]
  have h1 := dictText_len_le (l.map rowT)
  have h2 : ((l.map rowT).map (·.length)).sum ≤ ((l.map rowT).map (·.length)).length * 22 := sum_le fun x hx => by
    rw [List.map_map] at hx
    obtain ⟨p, hp, rfl⟩ := List.mem_map.mp hx
    exact rowT_len (h p hp).1 (h p hp).2
  rw [List.length_map, List.length_map] at h2
  rw [List.length_map] at h1
  omega
theorem dI_able {l : List (Int × Int)} (h : ∀ p ∈ l, small p.1 ∧ small p.2) : (dI l).showable = true := by
  rw [dI_eq]
  simp only [PyData.showable]
  induction l with
  | nil => rfl
  | cons p r ih =>
    rw [List.map_cons]
    simp only [PyData.showableKv, PyData.showable]
    have := h p List.mem_cons_self
    rw [ih fun q hq => h q (List.mem_cons_of_mem _ hq), decide_eq_true (small_log this.1), decide_eq_true (small_log this.2)]
    rfl
theorem dI_depth (l : List (Int × Int)) : (dI l).depth ≤ 60 := by
  rw [dI_eq]
  show PyData.depthKv (l.map fun p => (PyData.int p.1, PyData.int p.2)) + 1 ≤ 60
  have : PyData.depthKv (l.map fun p => (PyData.int p.1, PyData.int p.2)) = 0 := by
    induction l with
    | nil => rfl
    | cons p r ih =>
      rw [List.map_cons]
      show max (max 0 0) (PyData.depthKv (r.map fun p => (PyData.int p.1, PyData.int p.2))) = 0
      rw [ih]
      rfl
  omega
def reprM (n : Int) (l : List (Int × Int)) : Str := Str.empty ++ "Map(" ++ toString n ++ ", " ++ (dI l).shown ++ ")"
theorem tab_small {n : Int} {f : PF} (wf : WF n f) (h : n ≤ 300) : ∀ p ∈ tab n f, small p.1 ∧ small p.2 := by
  rintro ⟨x, y⟩ hp
  have := wf.dom x y ((mem_tab wf).mp hp)
  unfold small
  constructor <;> (dsimp only; omega)
def spRepr (C : Addr) : Sp := fun vs H Q _ => ∃ a n f, vs = [.ref a] ∧ IsMap C H a n f ∧ ((reprM n (tab n f)).length ≤ 40000 → Q (.str (reprM n (tab n f))) H)
section
variable {P : Program} {w : World} {K : PySem.W.Frag} {mg : Str → Option Value} {base : Heap}
theorem ok_repr (T : Txt K mg) : FnG P w K mg base CX0 5 T.f_Map__repr (spRepr T.C_Map) := by
  refine T.A_Map__repr.okG sc_Map__repr (fun vs H Q E h => ?_) (fun cdv A outer s H vs Q E gd hr h => ?_)
  · obtain ⟨a, n, f, rfl, _⟩ := h
    rfl
  · obtain ⟨a, n, f, rfl, ha, q⟩ := h
    refine ⟨_, pss_one (ps_ret (pe_joined (.cons pe_str (.cons (pe_fmt (pe_fld (pv 0) rfl)) (.cons pe_str (.cons (pe_fmtF gd hr.units (pe_fld (pv 0) rfl)) (.cons pe_str .nil))))))), ?_⟩
    obtain ⟨dx, D, h1, h2⟩ := id ha.ob
    have hn : small n := by have := ha.lo; have := ha.hi; unfold small; omega
    have hs := tab_small ha.wf ha.hi
    have tl := tab_len n f
    have h9 := ha.hi
    have l1 := small_len hn
    have l2 := dI_len hs (by omega)
    have e1 : (Str.empty ++ Str.ofString "Map(").length = 4 := rfl
    have e2 : (Str.empty ++ Str.ofString "Map(" ++ Str.ofString (toString n)).length = 4 + (Str.ofString (toString n)).length := by rw [strLen_append, e1]
    have e3 : (Str.empty ++ Str.ofString "Map(" ++ Str.ofString (toString n) ++ Str.ofString ", ").length = 4 + (Str.ofString (toString n)).length + 2 := by rw [strLen_append, e2]; rfl
    have e4 : (Str.empty ++ Str.ofString "Map(" ++ Str.ofString (toString n) ++ Str.ofString ", " ++ (dI (tab n f)).shown).length = 4 + (Str.ofString (toString n)).length + 2 + (dI (tab n f)).shown.length := by rw [strLen_append, e3]
    have e5 : (Str.empty ++ Str.ofString "Map(" ++ Str.ofString (toString n) ++ Str.ofString ", " ++ (dI (tab n f)).shown ++ Str.ofString ")").length = 4 + (Str.ofString (toString n)).length + 2 + (dI (tab n f)).shown.length + 1 := by rw [strLen_append, e4]; rfl
    have big : 50000 ≤ sizeLine := by decide
    refine ⟨_, rfl, by rw [e1]; omega, ?_⟩
    refine ⟨_, rfl, a, _, dx, _, _, rfl, h1, T.o_Map.cl, T.na_own_size_Map, flds_size _ _, .inr ⟨n, rfl, small_log hn, _, rfl, by rw [e2]; omega, ?_⟩⟩
    refine ⟨_, rfl, by rw [e3]; omega, ?_⟩
    refine ⟨_, rfl, a, _, dx, _, _, rfl, h1, T.o_Map.cl, T.na_own_arrows_Map, flds_arrows _ _, D, kvI (tab n f), _, rfl, h2, dI_sc _, dI_able hs, dI_depth _, Nat.le_trans l2 (by omega), _, rfl, by rw [show (flatD (kvI (tab n f)) ((tab n f).map fun p => PyData.int p.2)) = dI (tab n f) from rfl, e4]; omega, ?_⟩
    refine ⟨_, rfl, by rw [show (flatD (kvI (tab n f)) ((tab n f).map fun p => PyData.int p.2)) = dI (tab n f) from rfl, e5]; omega, ?_⟩
    exact q (by unfold reprM; rw [e5]; omega)
/-! ### == with any value -/
end
end My
namespace My
open PySem L2 U StX PM
theorem nonMapV.same {H H' : Hp} {x : V} (h : nonMapV H x) (s : L2.Same H H') : nonMapV H' x := by
  cases x with
  | ref b =>
    rcases h with ⟨xs, e⟩ | ⟨xs, e⟩ | ⟨xs, e⟩
    · exact .inl ⟨_, s _ _ e⟩
    · exact .inr (.inl ⟨_, s _ _ e⟩)
    · exact .inr (.inr ⟨_, s _ _ e⟩)
  | _ => exact h
end My
namespace My
open PySem L2 U StX PM
/-! ### dict([(a, b) for x, y in d.items() if ..]) -/
theorem _root_.PySem.Paired.map {α β : Type} {R S : α → β → Prop} : ∀ {xs : List α} {ys : List β}, Paired R xs ys → (∀ x ∈ xs, ∀ y, R x y → S x y) → Paired S xs ys
  | _, _, .nil, _ => .nil
  | _, _, .cons h r, k => .cons (k _ List.mem_cons_self _ h) (PySem.Paired.map r fun x hx => k x (List.mem_cons_of_mem _ hx))
end My
namespace My
open PySem L2 U StX PM
theorem pw_pk (n : Int) (f : PF) (k : Nat) : pw n f (k : Int) = pk n f k := by
  unfold pw
  cases k with
  | zero => rw [if_pos (by simp)]; rfl
  | succ k =>
    rw [if_neg (by omega), if_neg (by omega)]
    show iter f ((k + 1 : Nat) : Int).natAbs = iter f (k + 1)
    rw [show ((k + 1 : Nat) : Int).natAbs = k + 1 by omega]
end My
local macro_rules | `(tactic| array_get_dec) => `(tactic| first | assumption | exact L2.upd_same | (refine U.carryNew (by assumption) ?_; array_get_dec) | (refine U.carry (by assumption) ?_; array_get_dec))
local macro_rules | `(tactic| array_mem_dec) => `(tactic| first | exact L2.Same.refl _ | assumption | (refine U.sameUp (by assumption) ?_; array_mem_dec) | (refine U.sameVia (by assumption) ?_; array_mem_dec))
local macro_rules | `(tactic| sizeOf_list_dec) => `(tactic| first | assumption | (refine U.freeVia (by assumption) ?_; sizeOf_list_dec) | (refine U.freeUp (o := _) (q := _) ?_; assumption))
local macro_rules | `(tactic| deriving_LawfulEq_tactic_step) => `(tactic| first | exact rfl | exact U.nil_le | exact U.one_le | exact U.two_le | exact U.three_le | exact L2.SqL.of (by array_get_dec) | exact L2.SqT.of (by array_get_dec) | exact ⟨_, L2.SqL.of (by array_get_dec)⟩ | exact ⟨_, L2.SqT.of (by array_get_dec)⟩ | exact Or.inl (by array_get_dec) | array_get_dec)
local macro_rules | `(tactic| and_intros) => `(tactic| repeat (first | refine And.intro (by deriving_LawfulEq_tactic_step) ?_ | (apply Exists.intro; refine And.intro (by deriving_LawfulEq_tactic_step) ?_) | (apply Exists.intro; apply Exists.intro; refine And.intro (by deriving_LawfulEq_tactic_step) ?_) | (apply Exists.intro; apply Exists.intro; apply Exists.intro; refine And.intro (by deriving_LawfulEq_tactic_step) ?_) | (apply Exists.intro; apply Exists.intro; apply Exists.intro; apply Exists.intro; refine And.intro (by deriving_LawfulEq_tactic_step) ?_)))
namespace My
open PySem L2 U StX PM
/-! ### several maps -/
def MapsAt (C : Addr) (H : Hp) (n : Int) (xs : List V) (fs : List PF) : Prop := Paired (fun v f => ∃ a, v = V.ref a ∧ IsMap C H a n f) xs fs
theorem MapsAt.same {C : Addr} {H H' : Hp} {n : Int} {xs : List V} {fs : List PF} (h : MapsAt C H n xs fs) (s : Same H H') : MapsAt C H' n xs fs := PySem.Paired.map h fun v _ f ⟨a, e, m⟩ => ⟨a, e, m.same s⟩
theorem MapsAt.get {C : Addr} {H : Hp} {n : Int} {xs : List V} {fs : List PF} (h : MapsAt C H n xs fs) {i : Nat} {v : V} (e : xs[i]? = some v) : ∃ a f, v = .ref a ∧ fs[i]? = some f ∧ IsMap C H a n f := by
  obtain ⟨f, e2, a, e3, m⟩ := paired_at h e
  exact ⟨a, f, e3, e2, m⟩
end My
namespace My
open PM
/-! ### maps made of blocks, one behind the other -/
/-! ### its rows -/
theorem asc_eq : ∀ {l m : List Int}, l.Pairwise (· < ·) → m.Pairwise (· < ·) → (∀ x, x ∈ l ↔ x ∈ m) → l = m
  | [], [], _, _, _ => rfl
  | [], b :: m, _, _, h => absurd ((h b).mpr List.mem_cons_self) (by simp)
  | a :: l, [], _, _, h => absurd ((h a).mp List.mem_cons_self) (by simp)
  | a :: l, b :: m, h1, h2, h => by
    rw [List.pairwise_cons] at h1 h2
    have e : a = b := by
      have ha := (h a).mp List.mem_cons_self
      have hb := (h b).mpr List.mem_cons_self
      rcases List.mem_cons.mp ha with ha | ha
      · exact ha
      · rcases List.mem_cons.mp hb with hb | hb
        · exact hb.symm
        · have := h1.1 _ hb
          have := h2.1 _ ha
          omega
    subst e
    rw [asc_eq h1.2 h2.2 fun x => ?_]
    constructor
    · intro hx
      rcases List.mem_cons.mp ((h x).mp (List.mem_cons_of_mem _ hx)) with e | e
      · have := h1.1 _ hx; omega
      · exact e
    · intro hx
      rcases List.mem_cons.mp ((h x).mpr (List.mem_cons_of_mem _ hx)) with e | e
      · have := h2.1 _ hx; omega
      · exact e
theorem sel_mem {f : PF} : ∀ {l b : List Int} {e : Int}, e ∈ selL f b l → e ∈ b ∨ ∃ l1 l2, l = l1 ++ e :: l2 ∧ e ∉ seenL f (selL f b l1)
  | [], b, e, h => .inl h
  | x :: l, b, e, h => by
    have h' : e ∈ selL f (stp f b x) l := h
    rcases sel_mem h' with h1 | ⟨l1, l2, rfl, hn⟩
    · unfold stp at h1
      by_cases hx : x ∈ seenL f b
      · rw [if_pos hx] at h1
        exact .inl h1
      · rw [if_neg hx] at h1
        rcases List.mem_append.mp h1 with h1 | h1
        · exact .inl h1
        · rw [List.mem_singleton] at h1
          subst h1
          exact .inr ⟨[], l, rfl, hx⟩
    · exact .inr ⟨x :: l1, l2, rfl, hn⟩
end My
namespace My
open PySem L2 U StX PM
/-! ### counts -/
def Bg : Int := ((2 ^ 1000 : Nat) : Int)
theorem Bg_ge : (10 ^ 60 : Int) ≤ Bg := by decide +kernel
theorem Bg_nat {x : Int} (h0 : 0 ≤ x) (h : x < Bg) : x.natAbs < 2 ^ 1000 := by
  unfold Bg at h
  omega
theorem Bg_div {x y : Int} (h1 : 0 < y) (h2 : y < Bg) : CDivW x y := wide_div h1 (Bg_nat (by omega) h2) (by decide) (by decide)
def Pos (l : List (Int × Int)) : Prop := ∀ p ∈ l, 0 < p.1 ∧ 0 < p.2 ∧ (p.1 < Bg ∧ p.2 < Bg)
def Asc (l : List (Int × Int)) : Prop := (l.map (·.1)).Pairwise (· < ·) ∧ Pos l
theorem Asc.nd {l : List (Int × Int)} (h : Asc l) : (l.map (·.1)).Nodup := nodup_of_lt h.1
theorem asc_uniq {l m : List (Int × Int)} (h1 : Asc l) (h2 : Asc m) (h : ∀ p, p ∈ l ↔ p ∈ m) : l = m := by
  have e := asc_eq h1.1 h2.1 fun x => by
    rw [List.mem_map, List.mem_map]
    constructor <;> rintro ⟨p, hp, rfl⟩
    · exact ⟨p, (h p).mp hp, rfl⟩
    · exact ⟨p, (h p).mpr hp, rfl⟩
  have d1 : DI l (lk l) := ⟨h1.nd, fun _ => rfl⟩
  have d2 : DI m (lk m) := ⟨h2.nd, fun _ => rfl⟩
  apply List.ext_getElem?
  intro i
  cases e1 : l[i]? with
  | none =>
    have : l.length = m.length := by have := congrArg List.length e; simpa using this
    rw [List.getElem?_eq_none_iff] at e1
    rw [List.getElem?_eq_none (by omega)]
  | some p =>
    have e2 : (l.map (·.1))[i]? = some p.1 := by rw [List.getElem?_map, e1]; rfl
    rw [e, List.getElem?_map] at e2
    cases e3 : m[i]? with
    | none => rw [e3] at e2; cases e2
    | some p' =>
      rw [e3] at e2
      have e4 : p'.1 = p.1 := Option.some.inj e2
      have a1 := d2.mem.mp ((h p).mp (List.mem_of_getElem? e1))
      have a2 := d2.mem.mp (List.mem_of_getElem? e3)
      rw [e4, a1] at a2
      have e5 := Option.some.inj a2
      congr 1
      exact Prod.ext e4.symm e5
def spAreC : Sp := fun vs H Q _ => ∃ (d : Addr) (l : List (Int × Int)), vs = [.ref d] ∧ H d = some (.dK (kvI l)) ∧ Pos l ∧ l.length ≤ 1000 ∧ ∀ H', Same H H' → Q (.bl true) H'
def spOrd : Sp := fun vs H Q _ => ∃ (d : Addr) (l : List (Int × Int)), vs = [.ref d] ∧ H d = some (.dK (kvI l)) ∧ (l.map (·.1)).Nodup ∧ Pos l ∧ l.length ≤ 1000 ∧ ∀ p cs H', Same H H' → H p = none → H' p = some (.dK (kvI cs)) → cs.Perm l → Asc cs → Q (.ref p) H'
/-- {x: .. for x in a list of ints that is made here} -/
theorem dc_intsX {K : PySem.W.Frag} {te : TE} {i : Nat} {tk tv : TE} {vs : List Nat} {σ : L2.St} {H0 : Hp} {Q : VK} (vf : Int → Int) (Φ : Addr → List Int → Hp → Prop) (hte : ∀ R : VK, (∀ a xs H, Φ a xs H → R (.ref a) H) → te σ H0 R) (ha : ∀ a xs H, Φ a xs H → H a = some (.lst (xs.map V.int)) ∧ xs.Nodup ∧ xs.length < sizeLine)
    (hw : ∀ a, wipe ((wipe σ vs).set i a) vs = wipe σ vs)
    (hk : ∀ (y : Int) (H1 : Hp) (R : VK), R (.int y) H1 → tk ((wipe σ vs).set i (some (.int y))) H1 R) (hv : ∀ a xs H, Φ a xs H → ∀ y ∈ xs, ∀ (H1 : Hp), L2.Same H H1 → ∀ (R : VK), R (.int (vf y)) H1 → tv ((wipe σ vs).set i (some (.int y))) H1 R)
    (hq : ∀ a xs H, Φ a xs H → ∀ D H', H D = none → H' D = some (.dK (kvI (xs.map fun x => (x, vf x)))) → L2.Same H H' → Q (.ref D) H') :
    tDc (iList K te) (gName i) tYes tk tv vs σ H0 Q := by
  refine hte _ fun a xs H φ => ?_
  obtain ⟨hx, nd, hz⟩ := ha a xs H φ
  refine ⟨a, rfl, ⟨_, SqL.of hx⟩, fun D hD => ?_⟩
  refine dc_it (walk_list (xs := xs.map V.int)) (fun k H' => L2.Same H H' ∧ H' D = some (.dK (kvI ((xs.take k).map fun x => (x, vf x))))) ⟨Same.new hD, upd_same⟩ (fun k H' _ p => SqL.of (p.1 _ _ hx)) ?_ ?_
  · rintro k v H' H'' hk1 ⟨p1, p2⟩ ⟨rfl, ev⟩
    rw [List.length_map] at hk1
    obtain ⟨y, ey⟩ : ∃ y, xs[k]? = some y := ⟨_, List.getElem?_eq_getElem hk1⟩
    have ev' : v = .int y := by
      have := get_map ey
      rw [this] at ev
      exact (Option.some.inj ev).symm
    subst ev'
    refine ⟨hw _, yes_ ?_⟩
    refine hk y _ _ (hv a xs H φ y (List.mem_of_getElem? ey) _ p1 _ ⟨_, Sum.inl y, rfl, p2, ?_, ?_, ?_⟩)
    · refine Nat.lt_of_le_of_lt ?_ hz
      rw [kvI_length, List.length_map, List.length_take]
      omega
    · exact Same.put p1 hD
    · have nin : y ∉ ((xs.take k).map fun x => (x, vf x)).map (·.1) := by
        rw [List.map_map]
        have : ((xs.take k).map ((fun p : Int × Int => p.1) ∘ fun x => (x, vf x))) = xs.take k := by
          rw [show ((fun p : Int × Int => p.1) ∘ fun x => (x, vf x)) = id from rfl, List.map_id]
        rw [this]
        intro hm
        have e2 : xs = xs.take k ++ xs.drop k := (List.take_append_drop k xs).symm
        rw [e2, List.nodup_append] at nd
        refine nd.2.2 y hm y (List.mem_iff_getElem?.mpr ⟨0, ?_⟩) rfl
        rw [List.getElem?_drop]
        exact ey
      rw [upd_same, putK_kvI nin, take_more ey, List.map_append]
      rfl
  · rintro H' ⟨p1, p2⟩
    rw [List.length_map, List.take_length] at p2
    exact hq a xs H φ D H' hD p2 p1
theorem keys_madeL (l : List (Int × Int)) : madeL (fun _ _ => true) (fun x _ => V.int x) l = (l.map (·.1)).map V.int := by
  unfold madeL
  rw [List.map_map, List.filter_eq_self.mpr fun _ _ => rfl]
  rfl
theorem ord_perm {l : List (Int × Int)} (nd : (l.map (·.1)).Nodup) {ns : List Int} (hp : ns.Perm (l.map (·.1))) (hs : ns.Pairwise (· ≤ ·)) : (ns.map fun x => (x, (lk l x).getD 0)).Perm l ∧ ((ns.map fun x => (x, (lk l x).getD 0)).map (·.1)).Pairwise (· < ·) := by
  have di : DI l (lk l) := ⟨nd, fun _ => rfl⟩
  have hnd : ns.Nodup := hp.nodup_iff.mpr nd
  constructor
  · have h1 := hp.map (fun x => (x, (lk l x).getD 0))
    refine h1.trans ?_
    rw [List.map_map]
    have : l.map ((fun x => (x, (lk l x).getD 0)) ∘ fun p : Int × Int => p.1) = l := by
      conv => rhs; rw [← List.map_id l]
      refine List.map_congr_left fun p hp' => ?_
      have := di.mem.mp (show (p.1, p.2) ∈ l from hp')
      show (p.1, (lk l p.1).getD 0) = p
      rw [this]
      rfl
    rw [this]
  · rw [List.map_map, show ((fun p : Int × Int => p.1) ∘ fun x => (x, (lk l x).getD 0)) = id from rfl, List.map_id]
    have := List.Pairwise.and hs hnd
    exact this.imp fun {a b} h => by omega
section
variable {P : Program} {w : World} {K : PySem.W.Frag} {mg : Str → Option Value} {base : Heap}
theorem ok_are_counts (T : Txt K mg) : FnR P w K mg base CX0 3 T.f_are_counts spAreC := by
  refine T.A_are_counts.ok sc_are_counts (fun vs H Q E h => ?_) (fun cdv A outer s H vs Q E hr h => ?_)
  · obtain ⟨d, l, rfl, _⟩ := h
    rfl
  · obtain ⟨d, l, rfl, hd, hp, hl, q⟩ := h
    refine ⟨_, (pss_cons (ps_if (pt_not (pt_val (pe_callB call_isi (by rfl) T.n_isinstance (by decide +kernel) (pa_cons (pv 0) (pa_cons (pe_bltn (v := .ty "dict") (u := .type "dict") (by rfl) T.n_dict (by decide +kernel) rfl) pa_nil)))))
        (pss_one (ps_ret pe_bl)) pss_nil)
      (pss_one (ps_ret (pe_callB (cr_all rfl) (by rfl) T.n_all (by decide +kernel) (pa_cons (pe_lock (pe_lc (own := [("one", 1), ("number", 2)]) (g := (gTup K 2 (gCons (gName 1) (gCons (gName 2) gNil)))) (tt := tYes) rfl sc_are_counts.nd (pi_items (pv 0)) (blkOk_by (own := [("one", 1), ("number", 2)]) (N := n_are_counts) (sc := defScope s_are_counts) (by decide +kernel)) (fun _ _ _ _ _ => (pg_tup rfl (pgs_cons (pg_name (i := 1) sc_are_counts.nd rfl (Or.inl rfl)) (pgs_cons (pg_name (i := 2) sc_are_counts.nd rfl (Or.inl rfl)) pgs_nil)))) (fun _ _ _ _ _ => pts_nil) (fun _ _ _ _ _ => (pe_and (pe_callR (ok_is_integer T) (hr.mono (by decide)) T.A_is_integer.kp rfl T.g_is_integer pass0 (pa_cons (pv 1) pa_nil)) (pe_and (pe_callR (ok_is_integer T) (hr.mono (by decide)) T.A_is_integer.kp rfl T.g_is_integer pass0 (pa_cons (pv 2) pa_nil)) (pe_and (pe_cmpR op_gt (pv 1) pe_int (nomark _)) (pe_one (pe_cmpR op_gt (pv 2) pe_int (nomark _))))))))) pa_nil))))), ?_⟩
    refine ⟨_, rfl, _, _, _, _, true, rfl, .ty _, .base (.dK hd), kit_ty (by decide +kernel), _, rfl, iteF ?_⟩
    refine lc_items (fun _ _ => true) (fun x y => .bl true) hd (fun H' R r o => ⟨_, rfl, r⟩) (fun _ _ => rfl) (fun x y hxy H1 o => ⟨fun R r => r, fun _ R r => ?_⟩) (small1000 hl) (fun D H1 nD hD s1 => ?_)
    · obtain ⟨h1, h2, _⟩ := hp _ hxy
      dsimp only at h1 h2
      refine ⟨_, rfl, _, rfl, trivial, _, rfl, iteT ⟨_, rfl, _, rfl, trivial, _, rfl, iteT ⟨_, rfl, _, _, rfl, rfl, _, rfl, ?_⟩⟩⟩
      rw [decide_eq_true h1]
      refine iteT ⟨_, rfl, _, _, rfl, rfl, ?_⟩
      show R (.bl (decide (0 < y))) H1
      rw [decide_eq_true h2]
      exact r
    · refine ⟨D, List.replicate l.length true, rfl, SqL.of ?_, ?_⟩
      · rw [hD]
        congr 2
        unfold madeL
        simp [List.map_const']
      · have : (List.replicate l.length true).all id = true := List.all_eq_true.mpr fun x hx => by rw [List.eq_of_mem_replicate hx]; rfl
        rw [this]
        exact q H1 s1
theorem ok_ordered (T : Txt K mg) : FnR P w K mg base CX0 3 T.f_ordered spOrd := by
  refine T.A_ordered.ok sc_ordered (fun vs H Q E h => ?_) (fun cdv A outer s H vs Q E hr h => ?_)
  · obtain ⟨d, l, rfl, _⟩ := h
    rfl
  · obtain ⟨d, l, rfl, hd, nd, hp, hl, q⟩ := h
    have hu := hu_of hr
    refine ⟨_, (pss_one (ps_ret (pe_dc (own := [("length", 1)]) (g := (gName 1)) (tt := tYes) rfl sc_ordered.nd (pi_list (pe_callB cr_sortedI (by rfl) T.n_sorted (by decide +kernel) (pa_cons (pe_lock (pe_lc (own := [("length", 1)]) (g := (gName 1)) (tt := tYes) rfl sc_ordered.nd (pi_keys (pv 0)) (blkOk_by (own := [("length", 1)]) (N := n_ordered) (sc := defScope s_ordered) (by decide +kernel)) (fun _ _ _ _ _ => (pg_name (i := 1) sc_ordered.nd rfl (Or.inl rfl))) (fun _ _ _ _ _ => pts_nil) (fun _ _ _ _ _ => (pe_callTy call_int1 (by rfl) T.n_int (by decide +kernel) (pa_cons (pv 1) pa_nil))))) pa_nil))) (blkOk_by (own := [("length", 1)]) (N := n_ordered) (sc := defScope s_ordered) (by decide +kernel)) (fun _ _ _ _ _ => (pg_name (i := 1) sc_ordered.nd rfl (Or.inl rfl))) (fun _ _ _ _ _ => pts_nil) (fun _ _ _ _ _ => (pv 1)) (fun _ _ _ _ _ => (pe_dget hu (pv 0) (pv 1) (fun _ _ => rfl)))))), ?_⟩
    refine dc_intsX (fun x => (lk l x).getD 0) (fun a xs H' => H' a = some (.lst (xs.map V.int)) ∧ xs.Perm (l.map (·.1)) ∧ xs.Pairwise (· ≤ ·) ∧ Same H H') (fun R rr => ?_) (fun a xs H' ⟨e, hp', _, _⟩ => ⟨e, hp'.nodup_iff.mpr nd, ?_⟩) (fun _ => rfl) (fun y H1 R r => ⟨_, rfl, r⟩) (fun a xs H' ⟨e, hp', _, s'⟩ y hy H1 s1 R r => ?_) (fun a xs H' ⟨e, hp', hs', s'⟩ D H1 nD hD s1 => ?_)
    · refine lc_keys (fun _ => true) (fun x => .int x) hd (fun H' R r o => ⟨_, rfl, r⟩) (fun _ => rfl) (fun x H1 o => ⟨fun R r => r, fun R r => ?_⟩) (small1000 hl) (fun D H1 nD hD s1 => ?_)
      · exact ⟨_, rfl, .inl ⟨_, rfl, r⟩⟩
      · rw [keys_madeL] at hD
        exact ⟨D, _, rfl, SqL.of hD, fun ns' p hp' hs' np => rr p ns' _ ⟨upd_same, hp', hs', s1.trans (Same.new np)⟩⟩
    · have := hp'.length_eq
      rw [List.length_map] at this
      exact small1000 (by omega)
    · have hm : y ∈ l.map (·.1) := hp'.mem_iff.mp hy
      obtain ⟨⟨y', z⟩, hz, rfl⟩ := List.mem_map.mp hm
      have di : DI l (lk l) := ⟨nd, fun _ => rfl⟩
      have e1 := di.mem.mp hz
      have g := dgetL (s1 _ _ (s' _ _ hd)) di y'
      dsimp only at r ⊢
      rw [e1] at g r
      exact ⟨_, rfl, _, rfl, d, .int z, rfl, g, r⟩
    · obtain ⟨o1, o2⟩ := ord_perm nd hp' hs'
      exact q D _ H1 (s'.trans s1) (s'.free nD) hD o1 ⟨o2, fun p hp2 => hp p (o1.mem_iff.mp hp2)⟩
end
end My
namespace My
open PySem L2 U StX PM
/-! ### shapes -/
def shf (D1 D2 : Addr) : List (Str × V) := [("own_cycles", .ref D1), ("own_chains", .ref D2)]
structure IsShape (C : Addr) (H : Hp) (s : Addr) (cs hs : List (Int × Int)) : Prop where
  ob : ∃ dx D1 D2, H s = some (.ins C dx (shf D1 D2)) ∧ H D1 = some (.dK (kvI cs)) ∧ H D2 = some (.dK (kvI hs))
  a1 : Asc cs
  a2 : Asc hs
  l1 : cs.length ≤ 1000
  l2 : hs.length ≤ 1000
theorem IsShape.same {C : Addr} {H H' : Hp} {s : Addr} {cs hs : List (Int × Int)} (h : IsShape C H s cs hs) (x : Same H H') : IsShape C H' s cs hs := by
  obtain ⟨⟨dx, D1, D2, h1, h2, h3⟩, a1, a2, l1, l2⟩ := h
  exact ⟨⟨dx, D1, D2, x _ _ h1, x _ _ h2, x _ _ h3⟩, a1, a2, l1, l2⟩
theorem Off.ofS {p : Addr} {H H' : Hp} (s : Same H H') : Off p H H' := fun _ _ _ h => s _ _ h
theorem stF {p : Addr} {H H' : Hp} {o : HO} (g : upd H p o = H') : Off p H H' ∧ H' p = some o := by
  subst g
  exact ⟨Off.lock, upd_same⟩
def spInitSh (C : Addr) : Sp := fun vs H Q _ => ∃ (s dx d1 d2 : Addr) (l1 l2 : List (Int × Int)), vs = [.ref s, .ref d1, .ref d2] ∧ H s = some (.ins C dx []) ∧ H d1 = some (.dK (kvI l1)) ∧ H d2 = some (.dK (kvI l2)) ∧ (l1.map (·.1)).Nodup ∧ (l2.map (·.1)).Nodup ∧ Pos l1 ∧ Pos l2 ∧ l1.length ≤ 1000 ∧ l2.length ≤ 1000 ∧
  ∀ cs hs H', Off s H H' → cs.Perm l1 → hs.Perm l2 → IsShape C H' s cs hs → Q .non H'
def spShD (C : Addr) (pick : List (Int × Int) → List (Int × Int) → List (Int × Int)) : Sp := fun vs H Q _ => ∃ (s : Addr) (cs hs : List (Int × Int)), vs = [.ref s] ∧ IsShape C H s cs hs ∧ ∀ p, H p = none → Q (.ref p) (upd H p (.dK (kvI (pick cs hs))))
section
variable {P : Program} {w : World} {K : PySem.W.Frag} {mg : Str → Option Value} {base : Heap}
theorem ok_sh_init (T : Txt K mg) : FnR P w K mg base CX0 5 T.f_Shape__init (spInitSh T.C_Shape) := by
  refine T.A_Shape__init.ok sc_Shape__init (fun vs H Q E h => ?_) (fun cdv A outer s H vs Q E hr h => ?_)
  · obtain ⟨s, dx, d1, d2, l1, l2, rfl, _⟩ := h
    rfl
  · obtain ⟨s, dx, d1, d2, l1, l2, rfl, hs, hd1, hd2, n1, n2, p1, p2, b1, b2, q⟩ := h
    refine ⟨_, (pss_cons (ps_if (pt_not (pt_val (pe_callR (ok_are_counts T) (hr.mono (by decide)) T.A_are_counts.kp rfl T.g_are_counts pass0 (pa_cons (pv 1) pa_nil))))
        (pss_one ps_never) pss_nil)
      (pss_cons (ps_if (pt_not (pt_val (pe_callR (ok_are_counts T) (hr.mono (by decide)) T.A_are_counts.kp rfl T.g_are_counts pass0 (pa_cons (pv 2) pa_nil))))
        (pss_one ps_never) pss_nil)
      (pss_cons (ps_fld (pv 0) (pe_callR (ok_ordered T) (hr.mono (by decide)) T.A_ordered.kp rfl T.g_ordered pass0 (pa_cons (pv 1) pa_nil)) rfl)
      (pss_one (ps_fld (pv 0) (pe_callR (ok_ordered T) (hr.mono (by decide)) T.A_ordered.kp rfl T.g_ordered pass0 (pa_cons (pv 2) pa_nil)) rfl))))), ?_⟩
    refine ⟨_, rfl, d1, l1, rfl, hd1, p1, b1, fun H1 s1 => ⟨_, rfl, iteF ?_⟩⟩
    refine ⟨_, rfl, d2, l2, rfl, s1 _ _ hd2, p2, b2, fun H2 s2 => ⟨_, rfl, iteF ?_⟩⟩
    have s12 := s1.trans s2
    refine ⟨_, rfl, d1, l1, rfl, s12 _ _ hd1, n1, p1, b1, fun D1 cs H3 s3 nD1 hD1 pm1 as1 => ?_⟩
    have s13 := s12.trans s3
    have hs3 := s13 _ _ hs
    refine ⟨_, rfl, s, _, dx, _, rfl, hs3, T.o_Shape.cl, T.na_own_cycles_Shape, (by show 0 < 1000; decide), ?_⟩
    generalize g4 : upd _ s _ = H4
    obtain ⟨o4, e4⟩ := stF g4
    clear g4
    have nd2 : d2 ≠ s := ne_of hd2 hs (by intro z; cases z)
    have hd24 := o4 _ _ nd2 (s13 _ _ hd2)
    have nD1s : D1 ≠ s := (ne_of_none (s12 _ _ hs) nD1).symm
    have hD14 := o4 _ _ nD1s hD1
    refine ⟨_, rfl, d2, l2, rfl, hd24, n2, p2, b2, fun D2 hs' H5 s5 nD2 hD2 pm2 as2 => ?_⟩
    refine ⟨_, rfl, s, _, dx, _, rfl, s5 _ _ e4, T.o_Shape.cl, T.na_own_chains_Shape, (by show 1 < 1000; decide), ?_⟩
    generalize g6 : upd _ s _ = H6
    obtain ⟨o6, e6⟩ := stF g6
    clear g6
    have nD2s : D2 ≠ s := (ne_of_none e4 nD2).symm
    refine q cs hs' H6 ((((Off.ofS s13).tr o4).tr (Off.ofS s5)).tr o6) pm1 pm2 ⟨⟨dx, D1, D2, e6, o6 _ _ nD1s (s5 _ _ hD14), o6 _ _ nD2s hD2⟩, as1, as2, by rw [pm1.length_eq]; exact b1, by rw [pm2.length_eq]; exact b2⟩
theorem ok_sh_cycles (T : Txt K mg) : FnR P w K mg base CX0 1 T.f_Shape_cycles (spShD T.C_Shape fun cs _ => cs) := by
  refine T.A_Shape_cycles.ok sc_Shape_cycles (fun vs H Q E h => ?_) (fun cdv A outer s H vs Q E hr h => ?_)
  · obtain ⟨s, cs, hs, rfl, _⟩ := h
    rfl
  · obtain ⟨s, cs, hs, rfl, ⟨⟨dx, D1, D2, h1, h2, h3⟩, _⟩, q⟩ := h
    refine ⟨_, (pss_one (ps_ret (pe_callTy call_dictD (by rfl) T.n_dict (by decide +kernel) (pa_cons (pe_fld (pv 0) rfl) pa_nil)))), ?_⟩
    exact ⟨_, rfl, s, _, dx, _, _, rfl, h1, T.o_Shape.cl, T.na_own_cycles_Shape, rfl, D1, _, rfl, .inl h2, fun p np => q p np⟩
theorem ok_sh_chains (T : Txt K mg) : FnR P w K mg base CX0 1 T.f_Shape_chains (spShD T.C_Shape fun _ hs => hs) := by
  refine T.A_Shape_chains.ok sc_Shape_chains (fun vs H Q E h => ?_) (fun cdv A outer s H vs Q E hr h => ?_)
  · obtain ⟨s, cs, hs, rfl, _⟩ := h
    rfl
  · obtain ⟨s, cs, hs, rfl, ⟨⟨dx, D1, D2, h1, h2, h3⟩, _⟩, q⟩ := h
    refine ⟨_, (pss_one (ps_ret (pe_callTy call_dictD (by rfl) T.n_dict (by decide +kernel) (pa_cons (pe_fld (pv 0) rfl) pa_nil)))), ?_⟩
    exact ⟨_, rfl, s, _, dx, _, _, rfl, h1, T.o_Shape.cl, T.na_own_chains_Shape, rfl, D2, _, rfl, .inl h3, fun p np => q p np⟩
end
end My
namespace My
open PySem L2 U StX PM
/-! ### counts of lengths -/
def cN (Ls : List Nat) (x : Int) : Nat := (Ls.filter fun L : Nat => decide ((L : Int) = x)).length
def cnt (Ls : List Nat) : PF := fun x => if cN Ls x = 0 then none else some (cN Ls x : Nat)
theorem cN_snoc (Ls : List Nat) (L : Nat) (x : Int) : cN (Ls ++ [L]) x = cN Ls x + if (L : Int) = x then 1 else 0 := by
  unfold cN
  rw [List.filter_append, List.length_append]
  by_cases h : (L : Int) = x
  · simp [h]
  · simp [h]
theorem cnt_get (Ls : List Nat) (x : Int) : (cnt Ls x).getD 0 = (cN Ls x : Nat) := by
  unfold cnt
  by_cases h : cN Ls x = 0
  · rw [if_pos h, h]; rfl
  · rw [if_neg h]; rfl
theorem cnt_snoc (Ls : List Nat) (L : Nat) : cnt (Ls ++ [L]) = fun z => if z = (L : Int) then some ((cnt Ls z).getD 0 + 1) else cnt Ls z := by
  funext z
  rw [cnt_get]
  unfold cnt
  rw [cN_snoc]
  by_cases h : z = (L : Int)
  · rw [if_pos h, if_pos h.symm, if_neg (by omega)]
    congr 1
  · have h' : ¬ ((L : Int) = z) := fun e => h e.symm
    simp only [if_neg h, if_neg h', Nat.add_zero]
theorem di_putZ {l : List (Int × Int)} {f : PF} (d : DI l f) (x y : Int) : ∃ l', putK (kvI l) (Sum.inl x : Key) (V.int y) = kvI l' ∧ l'.length ≤ l.length + 1 ∧ DI l' (fun z => if z = x then some y else f z) := by
  obtain ⟨l', e, hl, hn, hk⟩ := putK_lk (l := l) (x := x) (y := y)
  exact ⟨l', e, hl, hn d.nd, fun z => by rw [hk, d.at_]⟩
theorem getDI0 (o : Option Int) : ((o.map V.int).getD (V.int 0)) = V.int (o.getD 0) := by cases o <;> rfl
def spCnt : Sp := fun vs H Q _ => ∃ (a : Addr) (ps : List Addr) (rs : List (List Int)), vs = [.ref a] ∧ H a = some (.lst (ps.map V.ref)) ∧ RowsAt H ps rs ∧ ps.length ≤ 1000 ∧ ∀ p l H', Same H H' → H p = none → H' p = some (.dK (kvI l)) → DI l (cnt (rs.map (·.length))) → l.length ≤ 1000 → Q (.ref p) H'
theorem cnt_pos {Ls : List Nat} (h : ∀ L ∈ Ls, 1 ≤ L) (hx : ∀ L ∈ Ls, L ≤ 1000) (hl : Ls.length ≤ 1000) {l : List (Int × Int)} (d : DI l (cnt Ls)) : Pos l := by
  rintro ⟨x, y⟩ hp
  have e := d.mem.mp hp
  unfold cnt at e
  by_cases h0 : cN Ls x = 0
  · rw [if_pos h0] at e; cases e
  · rw [if_neg h0] at e
    have ey := Option.some.inj e
    have hle : cN Ls x ≤ Ls.length := List.length_filter_le _ _
    have : ∃ L ∈ Ls, (L : Int) = x := by
      unfold cN at h0
      obtain ⟨L, hL⟩ : ∃ L, L ∈ Ls.filter fun L : Nat => decide ((L : Int) = x) := List.exists_mem_of_length_pos (by omega)
      rw [List.mem_filter, decide_eq_true_eq] at hL
      exact ⟨L, hL⟩
    obtain ⟨L, hL, rfl⟩ := this
    have := h L hL
    dsimp only
    refine ⟨by omega, by omega, ?_⟩
    have := Bg_ge
    have := hx L hL
    omega
def spShape (C CS : Addr) : Sp := fun vs H Q _ => ∃ (m : Addr) (n : Int) (f : PF), vs = [.ref m] ∧ IsMap C H m n f ∧ ∀ s cs hs H', Same H H' → IsShape CS H' s cs hs → DI cs (cnt (lens f (cycS n f))) → DI hs (cnt (lens f (nons n f))) → Q (.ref s) H'
theorem di_perm {l m : List (Int × Int)} {f : PF} (d : DI l f) (h : m.Perm l) : DI m f := by
  refine di_of ((h.map _).nodup_iff.mpr d.nd) fun x y => ?_
  rw [h.mem_iff]
  exact d.mem
theorem rows_lens {f : PF} {s : List Int} : (s.map (rowN f)).map (·.length) = lens f s := by
  unfold lens
  rw [List.map_map]
  rfl
section
variable {P : Program} {w : World} {K : PySem.W.Frag} {mg : Str → Option Value} {base : Heap}
theorem ok_counts_of (T : Txt K mg) : FnR P w K mg base CX0 2 T.f_counts_of spCnt := by
  refine T.A_counts_of.ok sc_counts_of (fun vs H Q E h => ?_) (fun cdv A outer s H vs Q E hr h => ?_)
  · obtain ⟨a, ps, rs, rfl, _⟩ := h
    rfl
  · obtain ⟨a, ps, rs, rfl, ha, hr0, hl, q⟩ := h
    have hu := hu_of hr
    refine ⟨_, (pss_cons (ps_set (i := 1) sc_counts_of.nd rfl (Or.inl rfl) pe_dnewK)
      (pss_cons (ps_for PassesOwn.never rfl (pi_list (pv 0)) (pg_name (i := 2) sc_counts_of.nd rfl (Or.inl rfl))
        (pss_one (ps_dput hu (pv 1) (pe_callB call_len_seq (by rfl) T.n_len (by decide +kernel) (pa_cons (pv 2) pa_nil)) (pe_op op_add (pe_dget2 hu (pv 1) (pe_callB call_len_seq (by rfl) T.n_len (by decide +kernel) (pa_cons (pv 2) pa_nil)) pe_int ⟨rfl, rfl, rfl, rfl⟩) pe_int) rfl)))
      (pss_one (ps_ret (pv 1))))), ?_⟩
    refine fun D n_D => ?_
    generalize g_D : L2.upd _ D _ = H1
    obtain ⟨s_H1, e_D⟩ := U.upd_facts g_D n_D
    clear g_D
    have hln := hr0.len
    refine ⟨_, rfl, a, rfl, ⟨_, SqL.of (s_H1 _ _ ha)⟩, ?_⟩
    refine for_it (walk_list (xs := ps.map V.ref)) (fun i σ H' => ∃ v2 l, σ = [some (.ref a), some (.ref D), v2] ∧ Same H H' ∧ H' D = some (.dK (kvI l)) ∧ DI l (cnt ((rs.take i).map (·.length))) ∧ l.length ≤ i)
      ⟨_, [], rfl, s_H1, e_D, ⟨List.nodup_nil, fun _ => rfl⟩, Nat.le_refl _⟩ (fun i σ H' _ ⟨_, _, _, z, _⟩ => SqL.of (z _ _ ha)) ?_ ?_
    · rintro i v σ Ha0 Ha hi ⟨v2, l, rfl, sa, eD, di, hli⟩ ⟨rfl, ev⟩
      rw [List.length_map] at hi
      rw [List.getElem?_map] at ev
      cases e : ps[i]? with
      | none => rw [e] at ev; cases ev
      | some b =>
        rw [e] at ev
        cases ev
        obtain ⟨r, er, hb0⟩ := hr0.get i b e
        have hb := sa _ _ hb0
        have g := dgetL eD di (((r.map V.int).length : Nat) : Int)
        refine ⟨_, rfl, D, rfl, isD_of eD, _, rfl, b, _, rfl, .inl (SqL.of hb), _, g, ?_⟩
        rw [getDI0]
        refine ⟨_, _, rfl, rfl, _, rfl, _, rfl, b, _, rfl, .inl (SqL.of hb), D, _, rfl, DPut.k (k := Sum.inl _) eD (small1000 (by rw [kvI_length]; omega)), ?_⟩
        obtain ⟨l', e', hl', di'⟩ := di_putZ di (((r.map V.int).length : Nat) : Int) ((cnt ((rs.take i).map (·.length)) (((r.map V.int).length : Nat) : Int)).getD 0 + 1)
        rw [e']
        refine ⟨_, l', rfl, Same.put sa n_D, upd_same, ?_, by omega⟩
        rw [take_more er, List.map_append]
        have := cnt_snoc ((rs.take i).map (·.length)) r.length
        rw [show [r].map (·.length) = [r.length] from rfl, this]
        rw [List.length_map] at di'
        refine ⟨di'.nd, fun z => ?_⟩
        rw [di'.at_]
        by_cases hz : z = (r.length : Int)
        · subst hz; rfl
        · rw [if_neg hz, if_neg hz]
    · rintro σ Ha ⟨v2, l, rfl, sa, eD, di, hli⟩
      rw [List.length_map, hln, List.take_length] at di
      rw [List.length_map] at hli
      exact ⟨_, rfl, q D l Ha sa n_D eD di (by omega)⟩
end
end My
namespace My
open PySem L2 U PM
/-! ### one block more; lists of blocks off counts -/
def blk (c : Bool) (l : List (Int × Int)) : List (Bool × Nat) := l.flatMap fun p => List.replicate p.2.toNat (c, p.1.toNat)
/-! ### blocks off a map of counts with keys 1 .. 11 -/
end My
namespace My
open PySem L2 U StX PM
/-! ### check_shape, shape_of, map_of -/
def nonShapeV (C : Addr) (H : Hp) (x : V) : Prop := nonMapV H x ∨ ∃ a n f, x = .ref a ∧ IsMap C H a n f
def spChkS (C CS CE : Addr) : Sp := fun vs H Q E => ∃ x, vs = [x] ∧ ((∃ s cs hs, x = .ref s ∧ IsShape CS H s cs hs ∧ Q .non H) ∨ (nonShapeV C H x ∧ ∀ d, H d = none → E (.ref CE) (some d) (upd H d (.xd [("part", .str "shape")]))))
theorem Asc.pos {l : List (Int × Int)} (h : Asc l) : ∀ p ∈ l, 0 < p.1 ∧ 0 < p.2 := fun p hp => ⟨(h.2 p hp).1, (h.2 p hp).2.1⟩
theorem initS_of {C : Addr} {H : Hp} {d1 d2 : Addr} {l1 l2 : List (Int × Int)} {R : VK} {E : XK} {x dx : Addr} (hd1 : H d1 = some (.dK (kvI l1))) (hd2 : H d2 = some (.dK (kvI l2))) (n1 : (l1.map (·.1)).Nodup) (n2 : (l2.map (·.1)).Nodup) (p1 : Pos l1) (p2 : Pos l2) (b1 : l1.length ≤ 1000) (b2 : l2.length ≤ 1000)
    (nx : H x = none) (ndx : H dx = none) (ne : dx ≠ x) (q : ∀ cs hs H', Same H H' → cs.Perm l1 → hs.Perm l2 → IsShape C H' x cs hs → R .non H') : spInitSh C [.ref x, .ref d1, .ref d2] (upd (upd H dx (.own x)) x (.ins C dx [])) R E := by
  have s0 : Same H (upd (upd H dx (.own x)) x (.ins C dx [])) := (Same.new ndx).trans (Same.new (by rw [upd_ne ne.symm]; exact nx))
  refine ⟨x, dx, d1, d2, l1, l2, rfl, upd_same, s0 _ _ hd1, s0 _ _ hd2, n1, n2, p1, p2, b1, b2, fun cs hs H' o pm1 pm2 sh => q cs hs H' (fun b u e => ?_) pm1 pm2 sh⟩
  exact o _ _ (ne_of_none e nx) (s0 _ _ e)
section
variable {P : Program} {w : World} {K : PySem.W.Frag} {mg : Str → Option Value} {base : Heap}
theorem ok_ini_InvalidShape (T : Txt K mg) : FnR P w K mg base CX0 1 T.f_InvalidShape__init (spIni1 T.C_InvalidShape "part") := by
  refine T.A_InvalidShape__init.ok sc_InvalidShape__init (fun vs H Q E h => ?_) (fun cdv A outer s H vs Q E hr h => ?_)
  · obtain ⟨a, v, rfl, _⟩ := h
    rfl
  · obtain ⟨a, v, rfl, ha, q⟩ := h
    refine ⟨_, pss_one (ps_ostG (pv 0) (pv 1)), ?_⟩
    exact ⟨_, rfl, _, rfl, a, T.C_InvalidShape, rfl, T.x_InvalidShape, T.na_part_InvalidShape, .inl ⟨ha, fun dx h1 h2 => q dx h1 h2⟩⟩
theorem ty_nonshape (T : Txt K mg) {H : Hp} {x : V} (h : nonShapeV T.C_Map H x) : ∃ t, TyX K H x t ∧ PySem.W.kitOne K t (.ref T.C_Shape) = some false := by
  rcases h with h | ⟨a, n, f, rfl, hm⟩
  · cases x with
    | non => exact ⟨_, .base .non, T.kn_NoneType_Shape⟩
    | bl b => exact ⟨_, .base (.bl b), T.kn_bool_Shape⟩
    | int i => exact ⟨_, .base (.int i), T.kn_int_Shape⟩
    | str z => exact ⟨_, .base (.str z), T.kn_str_Shape⟩
    | ref a =>
      rcases h with ⟨xs, e⟩ | ⟨xs, e⟩ | ⟨xs, e⟩
      · exact ⟨_, .base (.lst e), T.kn_list_Shape⟩
      · exact ⟨_, .base (.tup e), T.kn_tuple_Shape⟩
      · exact ⟨_, .base (.dK e), T.kn_dict_Shape⟩
    | byt b => exact h.elim
    | flt b => exact h.elim
    | ty b => exact h.elim
  · obtain ⟨dx, fs, h1⟩ := at_map hm
    exact ⟨_, tyx_ins T.o_Map h1, T.kx_Map_Shape⟩
theorem ok_check_shape (T : Txt K mg) : FnR P w K mg base (L2.CX P w) 3 T.f_check_shape (spChkS T.C_Map T.C_Shape T.C_InvalidShape) := by
  refine T.A_check_shape.okX sc_check_shape (fun vs H Q E h => ?_) (fun cdv A outer s H vs Q E hr h => ?_)
  · obtain ⟨x, rfl, _⟩ := h
    rfl
  · obtain ⟨x, rfl, hx⟩ := h
    refine ⟨_, (pss_one (ps_if (pt_not (pt_val (pe_callB call_isi (by rfl) T.n_isinstance (by decide +kernel) (pa_cons (pv 0) (pa_cons (pe_glob (v := .ref T.C_Shape) rfl T.g_Shape rfl) pa_nil)))))
        (pss_one (ps_raise rfl (takes_of rfl rfl rfl rfl) (pmk_oexG T.x_InvalidShape T.m_InvalidShape__init T.ti_InvalidShape__init (ok_ini_InvalidShape T) (hr.mono (by decide)) pass0 rfl T.g_InvalidShape (pa_cons pe_str pa_nil)))) pss_nil)), ?_⟩
    rcases hx with ⟨s, cs, hs, rfl, hm, q⟩ | ⟨hx, q⟩
    · obtain ⟨⟨dx, D1, D2, h1, h2, h3⟩, _⟩ := hm
      exact ⟨_, rfl, _, _, _, _, true, rfl, .own _, tyx_ins T.o_Shape h1, T.self_Shape, _, rfl, iteF q⟩
    · obtain ⟨t, ht, hk⟩ := ty_nonshape T hx
      exact ⟨_, rfl, _, _, _, _, false, rfl, .own _, ht, hk, _, rfl, iteT (mk_one fun d hd => q d hd)⟩
theorem ok_shape_of (T : Txt K mg) : FnR P w K mg base CX0 7 T.f_shape_of (spShape T.C_Map T.C_Shape) := by
  refine T.A_shape_of.ok sc_shape_of (fun vs H Q E h => ?_) (fun cdv A outer s H vs Q E hr h => ?_)
  · obtain ⟨a, n, f, rfl, _⟩ := h
    rfl
  · obtain ⟨a, n, f, rfl, hm, q⟩ := h
    refine ⟨_, (pss_cons (ps_expr (pe_callR (fnR_calm (ok_check_map T)) (hr.mono (by decide)) T.A_check_map.kp rfl T.g_check_map pass0 (pa_cons (pv 0) pa_nil)))
      (pss_cons (ps_asg (pe_callR (ok_parts_of T) (hr.mono (by decide)) T.A_parts_of.kp rfl T.g_parts_of pass0 (pa_cons (pv 0) pa_nil)) (pg_tup rfl (pgs_cons (pg_name (i := 1) sc_shape_of.nd rfl (Or.inl rfl)) (pgs_cons (pg_name (i := 2) sc_shape_of.nd rfl (Or.inl rfl)) pgs_nil))))
      (pss_one (ps_ret (pe_makeR T.M_Shape (ok_sh_init T) (hr.mono (by decide)) rfl T.g_Shape pass0 (pa_cons (pe_callR (ok_counts_of T) (hr.mono (by decide)) T.A_counts_of.kp rfl T.g_counts_of pass0 (pa_cons (pv 1) pa_nil)) (pa_cons (pe_callR (ok_counts_of T) (hr.mono (by decide)) T.A_counts_of.kp rfl T.g_counts_of pass0 (pa_cons (pv 2) pa_nil)) pa_nil))))))), ?_⟩
    refine ⟨_, rfl, _, rfl, .inl ⟨a, n, f, rfl, hm, ?_⟩⟩
    refine ⟨_, rfl, a, n, f, rfl, hm, fun t lc lh cs hs H1 s1 e1 e2 e3 r1 r2 n1 n2 n3 w1 w2 => ?_⟩
    have lc1 := r1.len
    have lc2 := r2.len
    rw [List.length_map] at lc1 lc2
    have hn := hm.hi
    have b1 : (cycS n f).length ≤ 300 := by
      have := (cycS_sub n f).1.length_le
      have e : (rgI n.toNat).length = n.toNat := by simp [rgI]
      omega
    have b2 : (nons n f).length ≤ 300 := by
      have := List.length_filter_le (nonT n f) (rgI n.toNat)
      have e : (rgI n.toNat).length = n.toNat := by simp [rgI]
      unfold nons
      omega
    refine ⟨t, _, rfl, SqT.of e1, rfl, .ref lc, [.ref lh], rfl, .ref lh, [], rfl, rfl, ?_⟩
    refine ⟨_, rfl, lc, cs, _, rfl, e2, r1, by omega, fun d1 l1 H2 s2 nd1 hd1 di1 hl1 => ?_⟩
    refine ⟨_, rfl, lh, hs, _, rfl, s2 _ _ e3, r2.same s2, by omega, fun d2 l2 H3 s3 nd2 hd2 di2 hl2 => ?_⟩
    rw [rows_lens] at di1 di2
    have pos : ∀ st : List Int, (∀ e ∈ st, 0 ≤ e ∧ e < n) → ∀ L ∈ lens f st, 1 ≤ L := fun st hst L hL => by
      unfold lens at hL
      obtain ⟨e, he, rfl⟩ := List.mem_map.mp hL
      exact row_pos hm.wf (hst e he).1 (hst e he).2
    have mx : ∀ st : List Int, (∀ e ∈ st, 0 ≤ e ∧ e < n) → ∀ L ∈ lens f st, L ≤ 1000 := fun st hst L hL => by
      unfold lens at hL
      obtain ⟨e, he, rfl⟩ := List.mem_map.mp hL
      have := row_le hm.wf (hst e he).1 (hst e he).2
      omega
    refine fun x dx nx ndx ne => initS_of (s3 _ _ hd1) hd2 di1.nd di2.nd (cnt_pos (pos _ fun e he => cycS_dom he) (mx _ fun e he => cycS_dom he) (by unfold lens; rw [List.length_map]; omega) di1) (cnt_pos (pos _ fun e he => ⟨(nons_dom he).1, (nons_dom he).2.1⟩) (mx _ fun e he => ⟨(nons_dom he).1, (nons_dom he).2.1⟩) (by unfold lens; rw [List.length_map]; omega) di2) hl1 hl2 nx ndx ne fun cs' hs' H4 s4 pm1 pm2 sh => ⟨rfl, ?_⟩
    exact q x cs' hs' H4 (((s1.trans s2).trans s3).trans s4) sh (di_perm di1 pm1) (di_perm di2 pm2)
end
end My
namespace My
open PM
/-! ### bags of lengths -/
def bag (qs : List (Int × Int)) (x : Int) : Int := (qs.map fun q => if q.1 = x then q.2 else 0).sum
def toPF (N : Int → Int) : PF := fun x => if N x = 0 then none else some (N x)
def wsum (qs : List (Int × Int)) (φ : Int → Int) : Int := (qs.map fun q => q.2 * φ q.1).sum
theorem toPF_some {N : Int → Int} {x y : Int} : toPF N x = some y ↔ N x = y ∧ y ≠ 0 := by
  unfold toPF
  by_cases h : N x = 0
  · rw [if_pos h]
    exact ⟨fun z => (nomatch z), fun ⟨a, b⟩ => absurd (a.symm.trans h) b⟩
  · rw [if_neg h]
    exact ⟨fun z => by cases z; exact ⟨rfl, h⟩, fun ⟨a, _⟩ => by rw [a]⟩
theorem bag_cons (q : Int × Int) (qs : List (Int × Int)) (x : Int) : bag (q :: qs) x = (if q.1 = x then q.2 else 0) + bag qs x := by
  unfold bag
  rw [List.map_cons, List.sum_cons]
theorem bag_wsum (qs : List (Int × Int)) (x : Int) : bag qs x = wsum qs fun L => if L = x then 1 else 0 := by
  unfold bag wsum
  congr 1
  refine List.map_congr_left fun q _ => ?_
  show (if q.1 = x then q.2 else 0) = q.2 * (if q.1 = x then 1 else 0)
  by_cases h : q.1 = x
  · rw [if_pos h, if_pos h, Int.mul_one]
  · rw [if_neg h, if_neg h, Int.mul_zero]
def ones (Ls : List Nat) : List (Int × Int) := Ls.map fun L : Nat => ((L : Int), 1)
theorem bag_ones (Ls : List Nat) (x : Int) : bag (ones Ls) x = (cN Ls x : Nat) := by
  induction Ls with
  | nil => rfl
  | cons L r ih =>
    unfold ones at ih ⊢
    rw [List.map_cons, bag_cons, ih]
    unfold cN
    rw [List.filter_cons]
    by_cases h : (L : Int) = x
    · rw [if_pos h, if_pos (by simpa using h), List.length_cons]; omega
    · rw [if_neg h, if_neg (by simpa using h)]; omega
theorem cnt_bag (Ls : List Nat) : cnt Ls = toPF (bag (ones Ls)) := by
  funext x
  unfold cnt toPF
  rw [bag_ones]
  by_cases h : cN Ls x = 0
  · rw [if_pos h, if_pos (by omega)]
  · rw [if_neg h, if_neg (by omega)]
theorem wsum_ones (Ls : List Nat) (φ : Int → Int) : wsum (ones Ls) φ = (Ls.map fun L : Nat => φ (L : Int)).sum := by
  unfold wsum ones
  rw [List.map_map]
  congr 1
  refine List.map_congr_left fun L _ => ?_
  show 1 * φ (L : Int) = _
  rw [Int.one_mul]
/-! ### powers of counts -/
def gI (L e : Int) : Int := (Nat.gcd L.toNat e.toNat : Nat)
theorem gI_nat (L e : Nat) : gI (L : Int) (e : Int) = (Nat.gcd L e : Nat) := by
  unfold gI
  rw [Int.toNat_natCast, Int.toNat_natCast]
def hp1 (e : Int) (p : Int × Int) : Int × Int := (p.1 / e + 1, p.2 * (p.1 % e))
def hp2 (e : Int) (p : Int × Int) : Int × Int := (p.1 / e, p.2 * (if 0 < p.1 / e then e - p.1 % e else 0))
def hq (cs : List (Int × Int)) (e : Int) : List (Int × Int) := cs.flatMap fun p => [hp1 e p, hp2 e p]
def cφ (e : Int) (φ : Int → Int) (L : Int) : Int := gI L e * φ (L / gI L e)
def hφ (e : Int) (φ : Int → Int) (L : Int) : Int := (L % e) * φ (L / e + 1) + (if 0 < L / e then e - L % e else 0) * φ (L / e)
end My
namespace My
open PySem L2 U StX PM
/-! ### powers of shapes -/
def spGcdN : Sp := fun vs H Q _ => ∃ a b : Int, vs = [.int a, .int b] ∧ 0 ≤ a ∧ 0 ≤ b ∧ Q (.int (gI a b)) H
section
variable {P : Program} {w : World} {K : PySem.W.Frag} {mg : Str → Option Value} {base : Heap}
theorem ok_gcd (T : Txt K mg) : FnR P w K mg base CX0 1 T.f_greatest_divisor spGcdN := by
  refine T.A_greatest_divisor.ok sc_greatest_divisor (fun vs H Q E h => ?_) (fun cdv A outer s H vs Q E hr h => ?_)
  · obtain ⟨a, b, rfl, _⟩ := h
    rfl
  · obtain ⟨a, b, rfl, ha, hb, q⟩ := h
    obtain ⟨a, rfl⟩ : ∃ k : Nat, a = (k : Int) := ⟨a.toNat, by omega⟩
    obtain ⟨b, rfl⟩ : ∃ k : Nat, b = (k : Int) := ⟨b.toNat, by omega⟩
    rw [gI_nat] at q
    refine ⟨_, (pss_cons (ps_while PassesOwn.never (pt_cmpR op_gt (pv 1) pe_int (nomark _))
        (pss_one (ps_par (i := 0) (j := 1) rfl sc_greatest_divisor.nd rfl rfl (by decide) rfl rfl (pa_cons (pv 1) (pa_cons (pe_op op_mod (pv 0) (pv 1)) pa_nil)) (by rfl))))
      (pss_one (ps_ret (pv 0)))), ?_⟩
    refine ⟨fun m σ H' => ∃ x y : Nat, σ = [some (.int (x : Int)), some (.int (y : Int))] ∧ H' = H ∧ Nat.gcd x y = Nat.gcd a b ∧ m = y, ⟨b, a, b, rfl, rfl, rfl, rfl⟩, ?_⟩
    rintro m σ H' ⟨x, y, rfl, rfl, hg, rfl⟩
    refine ⟨_, rfl, _, _, rfl, rfl, _, rfl, ?_⟩
    refine ifD (fun h => ?_) (fun h => ?_)
    · refine ⟨fun σ' H2 => ∃ m', m' < m ∧ _, fun _ _ h => h, ?_⟩
      refine ⟨_, rfl, _, rfl, _, rfl, _, _, rfl, rfl, h, _, _, rfl, ?_⟩
      refine ⟨x % m, Nat.mod_lt _ (by omega), m, x % m, rfl, rfl, ?_, rfl⟩
      rw [← hg, Nat.gcd_comm x m, Nat.gcd_rec m x, Nat.gcd_comm]
    · have : m = 0 := by omega
      subst this
      rw [Nat.gcd_zero_right] at hg
      rw [← hg] at q
      exact ⟨_, rfl, q⟩
end
end My
namespace My
open PySem L2 U StX PM
/-! ### elements checked; cycles -/
def tld (CE : Addr) (fld : Str) (x : V) (H : Hp) (E : XK) : Prop := ∀ d H', Same H H' → H' d = none → E (.ref CE) (some d) (upd H' d (.xd [(fld, x)]))
def firstBad (n : Int) : List Int → List V → Option V
  | _, [] => none
  | sn, .int i :: r => if inR (.int i) 0 (n - 1) = true ∧ i ∉ sn then firstBad n (i :: sn) r else some (.int i)
  | _, x :: _ => some x
theorem firstBad_int {n : Int} {sn : List Int} {i : Int} {r : List V} : firstBad n sn (.int i :: r) = if inR (.int i) 0 (n - 1) = true ∧ i ∉ sn then firstBad n (i :: sn) r else some (.int i) := rfl
theorem firstBad_out {n : Int} {sn : List Int} {x : V} {r : List V} (h : inR x 0 (n - 1) = false) : firstBad n sn (x :: r) = some x := by
  cases x with
  | int i => rw [firstBad_int, if_neg (by rw [h]; simp)]
  | _ => rfl
theorem firstBad_rep {n : Int} {sn : List Int} {i : Int} {r : List V} (h : i ∈ sn) : firstBad n sn (.int i :: r) = some (.int i) := by rw [firstBad_int, if_neg (fun z => z.2 h)]
theorem firstBad_next {n : Int} {sn : List Int} {i : Int} {r : List V} (h1 : inR (.int i) 0 (n - 1) = true) (h : i ∉ sn) : firstBad n sn (.int i :: r) = firstBad n (i :: sn) r := by rw [firstBad_int, if_pos ⟨h1, h⟩]
theorem kvB_new {sl : List Int} {x : Int} (h : x ∉ sl) : putK (kvB sl) (Sum.inl x : Key) (V.bl true) = kvB (sl ++ [x]) := by
  rw [putK_new _ (valV_none fun z => h (kvB_key.mp z))]
  unfold kvB
  rw [List.map_append]
  rfl
theorem knownV.mv {C : Addr} {H H' : Hp} {x : V} (h : knownV C H x) (s : Same H H') : knownV C H' x := by
  cases x with
  | ref a =>
    rcases h with ⟨xs, e⟩ | ⟨xs, e⟩ | ⟨xs, e⟩ | ⟨dx, fs, e⟩
    · exact .inl ⟨_, s _ _ e⟩
    · exact .inr (.inl ⟨_, s _ _ e⟩)
    · exact .inr (.inr (.inl ⟨_, s _ _ e⟩))
    · exact .inr (.inr (.inr ⟨_, _, s _ _ e⟩))
  | _ => exact h
def spChkL (sq : Addr → List V → HO → Prop) (C CE : Addr) : Sp := fun vs H Q E => ∃ (n : Int) (l : Addr) (xs : List V) (o : HO), vs = [.int n, .ref l] ∧ H l = some o ∧ sq l xs o ∧ xs.length ≤ 1000 ∧ (∀ x ∈ xs, knownV C H x) ∧
  ((firstBad n [] xs = none ∧ ∀ H', Same H H' → Q .non H') ∨ ∃ x, firstBad n [] xs = some x ∧ tld CE "value" x H E)
def sqL : Addr → List V → HO → Prop := fun _ xs o => o = .lst xs
theorem drop_at {xs : List V} {i : Nat} {v : V} (h : xs[i]? = some v) : xs.drop i = v :: xs.drop (i + 1) := by
  obtain ⟨hi, e⟩ := List.getElem?_eq_some_iff.mp h
  rw [List.drop_eq_getElem_cons hi, e]
section
variable {P : Program} {w : World} {K : PySem.W.Frag} {mg : Str → Option Value} {base : Heap}
theorem okN_ini_InvalidElement (T : Txt K mg) : FnR P w K mg base CX0 1 T.f_InvalidElement__init (spIni1 T.C_InvalidElement "value") := by
  refine T.A_InvalidElement__init.ok sc_InvalidElement__init (fun vs H Q E h => ?_) (fun cdv A outer s H vs Q E hr h => ?_)
  · obtain ⟨a, v, rfl, _⟩ := h
    rfl
  · obtain ⟨a, v, rfl, ha, q⟩ := h
    refine ⟨_, pss_one (ps_ostG (pv 0) (pv 1)), ?_⟩
    exact ⟨_, rfl, _, rfl, a, T.C_InvalidElement, rfl, T.x_InvalidElement, T.na_value_InvalidElement, .inl ⟨ha, fun dx h1 h2 => q dx h1 h2⟩⟩
theorem okX_checkEL (T : Txt K mg) : FnR P w K mg base (L2.CX P w) 4 T.f_check_elements (spChkL sqL T.C_Map T.C_InvalidElement) := by
  refine T.A_check_elements.okX sc_check_elements (fun vs H Q E h => ?_) (fun cdv A outer s H vs Q E hr h => ?_)
  · obtain ⟨n, l, xs, o, rfl, _⟩ := h
    rfl
  · obtain ⟨n, l, xs, o, rfl, hl, rfl, hz, hk, h⟩ := h
    have hu := hu_of hr
    have ok_ini_InvalidElement := fun (T : Txt K mg) => okN_ini_InvalidElement (P := P) (w := w) (base := base) T
    refine ⟨_, (pss_cons (ps_set (i := 2) sc_check_elements.nd rfl (Or.inl rfl) pe_dnewK)
      (pss_one (ps_for (passes_of rfl) rfl (pi_list (pv 1)) (pg_name (i := 3) sc_check_elements.nd rfl (Or.inl rfl))
        (pss_cons (ps_if (PW.pt (pw_or (pt_not (pt_val (pe_callR (ok_in_range T) (hr.mono (by decide)) T.A_in_range.kp rfl T.g_in_range pass0 (pa_cons (pv 3) (pa_cons pe_int (pa_cons (pe_op op_sub (pv 0) pe_int) pa_nil)))))) (pw_or1 (pt_cmp (pc_din hu (pv 3) (pv 2))))))
        (pss_one (ps_raise rfl (takes_of rfl rfl rfl rfl) (pmk_oexG T.x_InvalidElement T.m_InvalidElement__init T.ti_InvalidElement__init (ok_ini_InvalidElement T) (hr.mono (by decide)) pass0 rfl T.g_InvalidElement (pa_cons (pv 3) pa_nil)))) pss_nil)
      (pss_one (ps_dput hu (pv 2) (pv 3) pe_bl rfl)))))), ?_⟩
    refine fun se n_se => ?_
    generalize g_se : L2.upd _ se _ = H1
    obtain ⟨s_H1, e_se⟩ := U.upd_facts g_se n_se
    clear g_se
    have hl1 := s_H1 _ _ hl
    refine ⟨_, rfl, l, rfl, ⟨_, SqL.of hl1⟩, ?_⟩
    refine for_it (walk_list (xs := xs)) (fun i σ H' => ∃ v3 sn sl, σ = [some (.int n), some (.ref l), some (.ref se), v3] ∧ Same H H' ∧ H' se = some (.dK (kvB sl)) ∧ (∀ z, z ∈ sl ↔ z ∈ sn) ∧ sl.length ≤ i ∧ firstBad n [] xs = firstBad n sn (xs.drop i)) ⟨_, [], [], rfl, s_H1, e_se, fun _ => Iff.rfl, Nat.le_refl _, rfl⟩ (fun i σ H' _ ⟨_, _, _, _, z, _⟩ => SqL.of (z _ _ hl)) ?_ ?_
    · rintro i v σ H0 H' hi ⟨v3, sn, sl, rfl, sh, hse, hm, hsl, hf⟩ ⟨rfl, ev⟩
      have hil : i < xs.length := (List.getElem?_eq_some_iff.mp ev).1
      rw [drop_at ev] at hf
      have raise : firstBad n [] xs = some v → tld T.C_InvalidElement "value" v H E := fun e => by
        rcases h with ⟨e2, _⟩ | ⟨x, e2, q⟩
        · rw [e] at e2; cases e2
        · rw [e] at e2; cases e2; exact q
      refine ⟨_, rfl, _, rfl, _, _, rfl, rfl, v, 0, n - 1, rfl, (hk v (List.mem_of_getElem? ev)).mv sh, _, rfl, ?_⟩
      cases hr1 : inR v 0 (n - 1) with
      | false =>
        rw [firstBad_out hr1] at hf
        exact iteT (iteT ⟨_, rfl, mk_one fun d hd => raise hf d _ sh hd⟩)
      | true =>
        refine iteF ?_
        obtain ⟨j, rfl⟩ : ∃ j, v = .int j := by cases v <;> first | exact ⟨_, rfl⟩ | cases hr1
        refine ⟨_, rfl, _, rfl, se, _, rfl, DGet.k (k := Sum.inl j) hse, _, rfl, ?_⟩
        rw [kvB_val]
        refine ifB (fun hc => ?_) (fun hc => ?_)
        · rw [firstBad_rep ((hm j).mp (of_decide_eq_true hc))] at hf
          exact ⟨_, rfl, mk_one fun d hd => raise hf d _ sh hd⟩
        · have hj : j ∉ sl := of_decide_eq_false hc
          rw [firstBad_next hr1 (fun z => hj ((hm j).mpr z))] at hf
          refine ⟨_, rfl, _, rfl, se, _, rfl, .k (k := Sum.inl j) hse (lt_line (by unfold kvB; rw [List.length_map]; omega)), ?_⟩
          rw [kvB_new hj]
          exact ⟨_, j :: sn, sl ++ [j], rfl, Same.put sh n_se, upd_same, fun z => by rw [List.mem_append, List.mem_singleton, List.mem_cons, hm]; exact Or.comm, by rw [List.length_append, List.length_singleton]; omega, hf⟩
    · rintro σ H' ⟨v3, sn, sl, rfl, sh, hse, hm, hsl, hf⟩
      rw [List.drop_length] at hf
      rcases h with ⟨_, q⟩ | ⟨x, e2, q⟩
      · exact q _ sh
      · rw [e2] at hf; cases hf
theorem okN_ini_InvalidSize (T : Txt K mg) : FnR P w K mg base CX0 1 T.f_InvalidSize__init (spIni1 T.C_InvalidSize "value") := by
  refine T.A_InvalidSize__init.ok sc_InvalidSize__init (fun vs H Q E h => ?_) (fun cdv A outer s H vs Q E hr h => ?_)
  · obtain ⟨a, v, rfl, _⟩ := h
    rfl
  · obtain ⟨a, v, rfl, ha, q⟩ := h
    refine ⟨_, pss_one (ps_ostG (pv 0) (pv 1)), ?_⟩
    exact ⟨_, rfl, _, rfl, a, T.C_InvalidSize, rfl, T.x_InvalidSize, T.na_value_InvalidSize, .inl ⟨ha, fun dx h1 h2 => q dx h1 h2⟩⟩
def spChkZ (C CS : Addr) : Sp := fun vs H Q E => ∃ v, vs = [v] ∧ knownV C H v ∧ ((inR v 1 300 = true ∧ Q .non H) ∨ (inR v 1 300 = false ∧ tld CS "value" v H E))
theorem okX_checkZ (T : Txt K mg) : FnR P w K mg base (L2.CX P w) 3 T.f_check_size (spChkZ T.C_Map T.C_InvalidSize) := by
  refine T.A_check_size.okX sc_check_size (fun vs H Q E h => ?_) (fun cdv A outer s H vs Q E hr h => ?_)
  · obtain ⟨v, rfl, _⟩ := h
    rfl
  · obtain ⟨v, rfl, hk, h⟩ := h
    have ok_ini_InvalidSize := fun (T : Txt K mg) => okN_ini_InvalidSize (P := P) (w := w) (base := base) T
    obtain ⟨_, h_MAX_SIZE⟩ := T.v_MAX_SIZE
    refine ⟨_, (pss_one (ps_if (pt_not (pt_val (pe_callR (ok_in_range T) (hr.mono (by decide)) T.A_in_range.kp rfl T.g_in_range pass0 (pa_cons (pv 0) (pa_cons pe_int (pa_cons (pe_glob (v := .int 300) rfl h_MAX_SIZE ⟨_, rfl⟩) pa_nil))))))
        (pss_one (ps_raise rfl (takes_of rfl rfl rfl rfl) (pmk_oexG T.x_InvalidSize T.m_InvalidSize__init T.ti_InvalidSize__init (ok_ini_InvalidSize T) (hr.mono (by decide)) pass0 rfl T.g_InvalidSize (pa_cons (pv 0) pa_nil)))) pss_nil)), ?_⟩
    refine ⟨_, rfl, v, 1, 300, rfl, hk, _, rfl, ?_⟩
    rcases h with ⟨e, q⟩ | ⟨e, q⟩
    · rw [e]
      exact iteF q
    · rw [e]
      exact iteT ⟨_, rfl, mk_one fun d hd => q d H (Same.refl _) hd⟩
theorem inR_13 {n : Int} (h1 : 1 ≤ n) (h3 : n ≤ 300) : inR (.int n) 1 300 = true := by simp only [inR, Bool.and_eq_true, decide_eq_true_eq]; omega
end
end My
namespace My
open PySem L2 U StX PM
/-! ### chains, swaps; sizes that are none -/
theorem st_facts {p : Addr} {H H' : Hp} {o : HO} (g : upd H p o = H') : Off p H H' ∧ H' p = some o := by
  subst g
  exact ⟨fun b u hb e => by rw [upd_ne hb]; exact e, upd_same⟩
def swp (n a b : Int) : PF := fun z => if z = b then some a else if z = a then some b else idn n z
theorem wf_swp {n a b : Int} (ha : 0 ≤ a ∧ a < n) (hb : 0 ≤ b ∧ b < n) : WF n (swp n a b) := by
  have key : ∀ x y, swp n a b x = some y → (x = b ∧ y = a) ∨ (x ≠ b ∧ x = a ∧ y = b) ∨ (x ≠ b ∧ x ≠ a ∧ x = y ∧ 0 ≤ x ∧ x < n) := fun x y e => by
    unfold swp at e
    split at e
    · rename_i hx
      cases e
      exact .inl ⟨hx, rfl⟩
    · rename_i hx
      split at e
      · rename_i hx2
        cases e
        exact .inr (.inl ⟨hx, hx2, rfl⟩)
      · rename_i hx2
        have w := (wf_idn n).dom x y e
        have e3 : x = y := by
          unfold idn at e
          split at e
          · cases e; rfl
          · cases e
        exact .inr (.inr ⟨hx, hx2, e3, w.1, w.2.1⟩)
  refine ⟨fun x y e => ?_, fun x x' y e1 e2 => ?_⟩
  · rcases key x y e with ⟨rfl, rfl⟩ | ⟨_, rfl, rfl⟩ | ⟨_, _, rfl, _, _⟩ <;> omega
  · rcases key x y e1 with ⟨rfl, rfl⟩ | ⟨h1, rfl, rfl⟩ | ⟨h1, h2, rfl, _, _⟩ <;> rcases key x' _ e2 with ⟨rfl, h3⟩ | ⟨h3, rfl, h4⟩ | ⟨h3, h4, h5, _, _⟩ <;> omega
theorem di_putS {l : List (Int × Int)} {f : PF} (d : DI l f) (x y : Int) : ∃ l', putK (kvI l) (Sum.inl x : Key) (V.int y) = kvI l' ∧ l'.length ≤ l.length + 1 ∧ DI l' (fun z => if z = x then some y else f z) := by
  obtain ⟨l', e, h, nd, k⟩ := putK_lk (l := l) (x := x) (y := y)
  exact ⟨l', e, h, nd d.nd, fun z => by rw [k, d.at_]⟩
def spSwap (C CS CE : Addr) : Sp := fun vs H Q E => ∃ (v x y : V), vs = [.ref C, v, x, y] ∧ knownV C H v ∧ knownV C H x ∧ knownV C H y ∧
  ((inR v 1 300 = false ∧ tld CS "value" v H E) ∨ ∃ n, v = .int n ∧ 1 ≤ n ∧ n ≤ 300 ∧ ((inR x 0 (n - 1) = false ∧ tld CE "value" x H E) ∨ (inR x 0 (n - 1) = true ∧ ((inR y 0 (n - 1) = false ∧ tld CE "value" y H E) ∨ ∃ a b : Int, x = .int a ∧ y = .int b ∧ 0 ≤ a ∧ a < n ∧ 0 ≤ b ∧ b < n ∧ ∀ r H', H r = none → Same H H' → IsMap C H' r n (swp n a b) → Q (.ref r) H'))))
theorem firstBad_one {n : Int} {x : V} : firstBad n [] [x] = if inR x 0 (n - 1) = true then none else some x := by
  cases h : inR x 0 (n - 1) with
  | false => rw [firstBad_out h]; rfl
  | true =>
    obtain ⟨i, rfl⟩ : ∃ i, x = .int i := by cases x <;> first | exact ⟨_, rfl⟩ | cases h
    rw [firstBad_next h (fun z => by cases z)]
    rfl
section
variable {P : Program} {w : World} {K : PySem.W.Frag} {mg : Str → Option Value} {base : Heap}
theorem okX_swap (T : Txt K mg) : FnR P w K mg base (L2.CX P w) 8 T.f_Map_swap (spSwap T.C_Map T.C_InvalidSize T.C_InvalidElement) := by
  refine T.A_Map_swap.okX sc_Map_swap (fun vs H Q E h => ?_) (fun cdv A outer s H vs Q E hr h => ?_)
  · obtain ⟨v, x, y, rfl, _⟩ := h
    rfl
  · obtain ⟨v, x, y, rfl, hkv, hkx, hky, h⟩ := h
    have hu := hu_of hr
    refine ⟨_, (pss_cons (ps_expr (pe_callR (okX_checkZ T) (hr.mono (by decide)) T.A_check_size.kp rfl T.g_check_size (passes_call (takes_of rfl rfl rfl rfl) (fun _ _ _ _ h => h)) (pa_cons (pv 1) pa_nil)))
      (pss_cons (ps_expr (pe_callR (okX_checkEL T) (hr.mono (by decide)) T.A_check_elements.kp rfl T.g_check_elements (passes_call (takes_of rfl rfl rfl rfl) (fun _ _ _ _ h => h)) (pa_cons (pv 1) (pa_cons (pe_lst (pa_cons (pv 2) pa_nil)) pa_nil))))
      (pss_cons (ps_expr (pe_callR (okX_checkEL T) (hr.mono (by decide)) T.A_check_elements.kp rfl T.g_check_elements (passes_call (takes_of rfl rfl rfl rfl) (fun _ _ _ _ h => h)) (pa_cons (pv 1) (pa_cons (pe_lst (pa_cons (pv 3) pa_nil)) pa_nil))))
      (pss_cons (ps_setDc (i := 4) (own := [("element", 5)]) (g := (gName 5)) (tt := tYes) rfl sc_Map_swap.nd rfl rfl (sw_dict rfl rfl rfl (by decide +kernel)) (pi_range1 rfl T.n_range (pa_cons (pv 1) pa_nil)) (blkOk_by (own := [("element", 5)]) (N := n_Map_swap) (sc := defScope s_Map_swap) (by decide +kernel)) (fun _ _ _ _ _ => (pg_name (i := 5) sc_Map_swap.nd rfl (Or.inl rfl))) (fun _ _ _ _ _ => pts_nil) (fun _ _ _ _ _ => (pv 5)) (fun _ _ _ _ _ => (pv 5)))
      (pss_cons (ps_asg (pe_tup (pa_cons (pv 3) (pa_cons (pv 2) pa_nil))) (pg_tup rfl (pgs_cons (pg_sub (pv 4) (pv 2) (set_dict hu)) (pgs_cons (pg_sub (pv 4) (pv 3) (set_dict hu)) pgs_nil))))
      (pss_one (ps_ret (pe_makeL (i := 0) T.M_Map (ok_init T) (hr.mono (by decide)) rfl (Or.inl rfl) pass0 (pa_cons (pv 1) (pa_cons (pv 4) pa_nil)))))))))), ?_⟩
    rcases h with ⟨e, q⟩ | ⟨n, rfl, n1, n3, h⟩
    · exact ⟨_, rfl, v, rfl, hkv, .inr ⟨e, q⟩⟩
    refine ⟨_, rfl, .int n, rfl, trivial, .inl ⟨inR_13 n1 n3, ?_⟩⟩
    refine ⟨_, rfl, _, rfl, one_le, ?_⟩
    refine fun l1 n_l1 => ?_
    generalize g_l1 : L2.upd _ l1 _ = H1
    obtain ⟨s_H1, e_l1⟩ := U.upd_facts g_l1 n_l1
    clear g_l1
    rcases h with ⟨e, q⟩ | ⟨ex, h⟩
    · exact ⟨n, l1, [x], _, rfl, e_l1, rfl, by simp, (fun z hz => by rw [List.mem_singleton] at hz; subst hz; exact hkx.mv s_H1), .inr ⟨x, by rw [firstBad_one, e]; rfl, fun d H' s' nd => q d H' (s_H1.trans s') nd⟩⟩
    refine ⟨n, l1, [x], _, rfl, e_l1, rfl, by simp, (fun z hz => by rw [List.mem_singleton] at hz; subst hz; exact hkx.mv s_H1), .inl ⟨by rw [firstBad_one, ex]; rfl, fun H2 s2 => ?_⟩⟩
    have s02 := s_H1.trans s2
    refine ⟨_, rfl, _, rfl, one_le, ?_⟩
    refine fun l2 n_l2 => ?_
    generalize g_l2 : L2.upd _ l2 _ = H3
    obtain ⟨s_H3, e_l2⟩ := U.upd_facts g_l2 n_l2
    clear g_l2
    have s03 := s02.trans s_H3
    rcases h with ⟨e, q⟩ | ⟨a, b, rfl, rfl, a0, an, b0, bn, q⟩
    · exact ⟨n, l2, [y], _, rfl, e_l2, rfl, by simp, (fun z hz => by rw [List.mem_singleton] at hz; subst hz; exact hky.mv s03), .inr ⟨y, by rw [firstBad_one, e]; rfl, fun d H' s' nd => q d H' (s03.trans s') nd⟩⟩
    have ey : inR (.int b) 0 (n - 1) = true := by simp only [inR, Bool.and_eq_true, decide_eq_true_eq]; omega
    refine ⟨n, l2, [.int b], _, rfl, e_l2, rfl, by simp, (fun z hz => by rw [List.mem_singleton] at hz; subst hz; trivial), .inl ⟨by rw [firstBad_one, ey]; rfl, fun H4 s4 => ?_⟩⟩
    have s04 := s03.trans s4
    dsimp only [tNext, tSeq, tAsg, gName]
    refine dc_range (n := n.toNat) (fun _ => true) (fun k => .int k) (fun R r => ⟨_, rfl, n, rfl, by omega, by omega, r⟩) (fun _ => rfl) ?_ (small1000 (by omega)) ?_
    · intro k hk H5 s5
      refine ⟨fun R r => r, fun _ => ⟨fun R r => ⟨_, rfl, ?_⟩, fun R r => ⟨_, rfl, ?_⟩⟩⟩
      · rw [Int.zero_add]; exact r
      · rw [Int.zero_add]; exact r
    · intro D H5 nD hD s5
      rw [madeR_id] at hD
      have e : ((n.toNat : Nat) : Int) = n := Int.toNat_of_nonneg (by omega)
      have di := di_id n.toNat
      rw [e] at di
      have hl0 : ((List.range n.toNat).map fun (i : Nat) => ((i : Int), (i : Int))).length ≤ 300 := by rw [List.length_map, List.length_range]; omega
      refine ⟨_, rfl, _, rfl, two_le, ?_⟩
      refine fun t n_t => ?_
      generalize g_t : L2.upd _ t _ = H6
      obtain ⟨s_H6, e_t⟩ := U.upd_facts g_t n_t
      clear g_t
      refine ⟨t, _, rfl, SqT.of e_t, rfl, _, _, rfl, _, rfl, _, rfl, D, _, rfl, DPut.k (k := Sum.inl a) (s_H6 _ _ hD) (lt_line (by rw [kvI_length]; omega)), ?_⟩
      obtain ⟨la, ea, hla, da⟩ := di_putS di a b
      rw [ea]
      generalize g_H7 : L2.upd _ D _ = H7
      obtain ⟨o_H7, e_H7⟩ := st_facts g_H7
      clear g_H7
      refine ⟨_, _, rfl, _, rfl, _, rfl, D, _, rfl, DPut.k (k := Sum.inl b) e_H7 (lt_line (by rw [kvI_length]; omega)), ?_⟩
      obtain ⟨lb, eb, hlb, db⟩ := di_putS da b a
      rw [eb]
      generalize g_H8 : L2.upd _ D _ = H8
      obtain ⟨o_H8, e_H8⟩ := st_facts g_H8
      clear g_H8
      have hf : (fun z => if z = b then some a else if z = a then some b else idn n z) = swp n a b := rfl
      rw [hf] at db
      have nD0 : H D = none := s04.free nD
      have s08 : Same H H8 := fun c o e => o_H8 _ _ (ne_of_none e nD0) (o_H7 _ _ (ne_of_none e nD0) (s_H6 _ _ (s5 _ _ (s04 _ _ e))))
      refine ⟨rfl, rfl, _, rfl, _, rfl, ?_⟩
      exact fun r dr nr ndr ne => init_of e_H8 db (wf_swp ⟨a0, an⟩ ⟨b0, bn⟩) n1 n3 (by omega) nr ndr ne fun H9 s9 m9 => ⟨rfl, q r H9 (s08.free nr) (s08.trans s9) m9⟩
end
end My
namespace My
open PM
/-! ### parts of powers -/
theorem cyc_le {n : Int} {f : PF} (w : WF n f) {e e' : Int} (he : e ∈ cycS n f) (he' : e' ∈ cycS n f) (h : e' ∈ rowN f e) : e' ≤ e := by
  refine Int.not_lt.mp fun hlt => ?_
  have d := cycS_dom he
  have d' := cycS_dom he'
  have hs' : e' ∈ selL f (nons n f) (rgI n.toNat) := by rw [cycS_eq]; exact List.mem_append_right _ he'
  have hs : e ∈ selL f (nons n f) (rgI n.toNat) := by rw [cycS_eq]; exact List.mem_append_right _ he
  rcases sel_mem hs' with hb | ⟨l1, l2, el, hn⟩
  · exact (cycS_sub n f).2 e' he' (mem_seenL.mpr ⟨e', hb, (rowN_is w d'.1 d'.2).mem⟩)
  · have asc := rgI_lt n.toNat
    have hm : e ∈ rgI n.toNat := mem_rgI.mpr ⟨d.1, by omega⟩
    rw [el] at hs asc hm
    have pw := (List.pairwise_append.mp asc).2.1
    rw [List.pairwise_cons] at pw
    have el1 : e ∈ l1 := by
      rcases List.mem_append.mp hm with h1 | h1
      · exact h1
      · rcases List.mem_cons.mp h1 with rfl | h1
        · omega
        · have := pw.1 e h1
          omega
    rw [selL_append] at hs
    obtain ⟨c, hc, hsub, hns⟩ := selL_sub f (e' :: l2) (selL f (nons n f) l1)
    rw [hc] at hs
    rcases List.mem_append.mp hs with h1 | h1
    · exact hn (mem_seenL.mpr ⟨e, h1, h⟩)
    · rcases List.mem_cons.mp (hsub.subset h1) with rfl | h2
      · omega
      · have := pw.1 e h2
        omega
theorem cyc_back {n : Int} {f : PF} (w : WF n f) {e a : Int} (he : e ∈ cycS n f) (h : a ∈ rowN f e) : ∃ k, iter f k a = some e := by
  obtain ⟨i, hi⟩ := List.getElem?_of_mem h
  have d := cycS_dom he
  have hl := (List.getElem?_eq_some_iff.mp hi).1
  refine ⟨(rowN f e).length - i, ?_⟩
  rw [cycle_at w he hi, show i + ((rowN f e).length - i) = (rowN f e).length by omega, Nat.mod_self]
  exact row_head w d.1 d.2
theorem cyc_fwd {n : Int} {f : PF} (w : WF n f) {e a b : Int} {k : Nat} (he : e ∈ cycS n f) (h : a ∈ rowN f e) (hk : iter f k a = some b) : b ∈ rowN f e := by
  obtain ⟨i, hi⟩ := List.getElem?_of_mem h
  rw [cycle_at w he hi] at hk
  exact List.mem_of_getElem? hk
theorem cyc_uniq {n : Int} {f : PF} (w : WF n f) {e e' a : Int} (he : e ∈ cycS n f) (he' : e' ∈ cycS n f) (h : a ∈ rowN f e) (h' : a ∈ rowN f e') : e = e' := by
  obtain ⟨k, hk⟩ := cyc_back w he h
  obtain ⟨k', hk'⟩ := cyc_back w he' h'
  have m1 := cyc_fwd w he' h' hk
  have m2 := cyc_fwd w he h hk'
  have := cyc_le w he he' m2
  have := cyc_le w he' he m1
  omega
theorem iter_dvd {n : Int} {f : PF} (w : WF n f) {e a : Int} (he : e ∈ cycS n f) (h : a ∈ rowN f e) (m : Nat) : iter f m a = some a ↔ (rowN f e).length ∣ m := by
  obtain ⟨i, hi⟩ := List.getElem?_of_mem h
  have d := cycS_dom he
  have hl := (List.getElem?_eq_some_iff.mp hi).1
  rw [cycle_at w he hi]
  constructor
  · intro z
    have q := row_inj w d.1 d.2 (i := i) (j := (i + m) % (rowN f e).length) hl (by rw [hi, z])
    have q2 : (i + m) % (rowN f e).length = i % (rowN f e).length := by rw [Nat.mod_eq_of_lt hl]; exact q.symm
    have := Nat.sub_mod_eq_zero_of_mod_eq q2
    rw [Nat.add_sub_cancel_left] at this
    exact Nat.dvd_of_mod_eq_zero this
  · rintro ⟨c, rfl⟩
    rw [Nat.add_mul_mod_self_left, Nat.mod_eq_of_lt hl]
    exact hi
theorem iter_mul (f : PF) (a : Nat) (x : Int) : ∀ b, iter (iter f a) b x = iter f (a * b) x
  | 0 => rfl
  | b + 1 => by
    show (iter (iter f a) b x).bind (iter f a) = _
    rw [iter_mul f a x b, Nat.mul_add, Nat.mul_one, iter_add]
theorem wf_it {n : Int} {f : PF} (w : WF n f) {k : Nat} (h : 1 ≤ k) : WF n (iter f k) := by
  obtain ⟨j, rfl⟩ : ∃ j, k = j + 1 := ⟨k - 1, by omega⟩
  exact wf_iter w j
def isPer (g : PF) (a : Int) (x : Nat) : Prop := 1 ≤ x ∧ iter g x a = some a ∧ ∀ j, 1 ≤ j → j < x → iter g j a ≠ some a
theorem dvd_gcd_iff {L e j : Nat} (hL : 1 ≤ L) : L ∣ e * j ↔ L / Nat.gcd L e ∣ j := by
  have hg : 0 < Nat.gcd L e := Nat.gcd_pos_of_pos_left _ hL
  obtain ⟨l, hl⟩ := Nat.gcd_dvd_left L e
  obtain ⟨k, hk⟩ := Nat.gcd_dvd_right L e
  have cp : Nat.Coprime (L / Nat.gcd L e) (e / Nat.gcd L e) := Nat.coprime_div_gcd_div_gcd hg
  have e1 : L / Nat.gcd L e = l := Nat.div_eq_of_eq_mul_right hg hl
  have e2 : e / Nat.gcd L e = k := Nat.div_eq_of_eq_mul_right hg hk
  rw [e1, e2] at cp
  rw [e1]
  generalize Nat.gcd L e = g at hg hl hk
  subst hl
  subst hk
  constructor
  · intro z
    rw [Nat.mul_assoc] at z
    exact cp.dvd_of_dvd_mul_left (Nat.dvd_of_mul_dvd_mul_left hg z)
  · intro z
    rw [Nat.mul_assoc]
    exact Nat.mul_dvd_mul_left g (Nat.dvd_trans z (Nat.dvd_mul_left _ _))
theorem per_cyc {n : Int} {f : PF} (w : WF n f) {e a : Int} {e0 : Nat} (he : e ∈ cycS n f) (h : a ∈ rowN f e) (x : Nat) : isPer (iter f e0) a x ↔ x = (rowN f e).length / Nat.gcd (rowN f e).length e0 := by
  have d := cycS_dom he
  have hL := row_pos w d.1 d.2
  have key : ∀ j, iter (iter f e0) j a = some a ↔ (rowN f e).length / Nat.gcd (rowN f e).length e0 ∣ j := fun j => by
    rw [iter_mul, iter_dvd w he h, dvd_gcd_iff hL]
  have hM : 1 ≤ (rowN f e).length / Nat.gcd (rowN f e).length e0 := Nat.div_pos (Nat.gcd_le_left _ hL) (Nat.gcd_pos_of_pos_left _ hL)
  generalize (rowN f e).length / Nat.gcd (rowN f e).length e0 = M at key hM
  constructor
  · rintro ⟨h1, h2, h3⟩
    have hd := (key x).mp h2
    have hle := Nat.le_of_dvd h1 hd
    refine Nat.le_antisymm (Nat.le_of_not_lt fun hlt => h3 M hM hlt ((key M).mpr (Nat.dvd_refl _))) hle
  · rintro rfl
    refine ⟨hM, (key x).mpr (Nat.dvd_refl _), fun j h1 h2 z => ?_⟩
    have := Nat.le_of_dvd h1 ((key j).mp z)
    omega
theorem mem_cyc {n : Int} {f : PF} (w : WF n f) {a : Int} : a ∈ seenL f (cycS n f) ↔ ∃ x, 1 ≤ x ∧ iter f x a = some a := by
  rw [mem_seenL]
  constructor
  · rintro ⟨e, he, h⟩
    have d := cycS_dom he
    exact ⟨_, row_pos w d.1 d.2, (iter_dvd w he h _).mpr (Nat.dvd_refl _)⟩
  · rintro ⟨x, hx, h⟩
    have ha : 0 ≤ a ∧ a < n := by
      refine Decidable.byContradiction fun z => ?_
      rw [iter_out w z hx] at h
      cases h
    obtain ⟨e, he, hm⟩ := cover w ha.1 ha.2
    rcases List.mem_append.mp he with he' | he'
    · obtain ⟨i, hi⟩ := List.getElem?_of_mem hm
      have d := nons_dom he'
      rw [chain_at w he' hi] at h
      have := row_inj w d.1 d.2.1 (i := i) (j := i + x) (List.getElem?_eq_some_iff.mp hi).1 (by rw [hi, h])
      omega
    · exact ⟨e, he', hm⟩
theorem mem_cyc_it {n : Int} {f : PF} (w : WF n f) {e0 : Nat} (h0 : 1 ≤ e0) {a : Int} : a ∈ seenL (iter f e0) (cycS n (iter f e0)) ↔ a ∈ seenL f (cycS n f) := by
  rw [mem_cyc (wf_it w h0)]
  constructor
  · rintro ⟨x, hx, h⟩
    rw [iter_mul] at h
    exact (mem_cyc w).mpr ⟨e0 * x, Nat.mul_pos h0 hx, h⟩
  · intro h
    obtain ⟨e, he, hm⟩ := mem_seenL.mp h
    have d := cycS_dom he
    refine ⟨(rowN f e).length, row_pos w d.1 d.2, ?_⟩
    rw [iter_mul]
    exact (iter_dvd w he hm _).mpr (Nat.dvd_mul_left _ _)
theorem nd_seen {f : PF} {s : List Int} (nd : s.Nodup) (h1 : ∀ e ∈ s, (rowN f e).Nodup) (h2 : ∀ e ∈ s, ∀ e' ∈ s, ∀ a, a ∈ rowN f e → a ∈ rowN f e' → e = e') : (seenL f s).Nodup := by
  induction s with
  | nil => exact List.nodup_nil
  | cons e r ih =>
    rw [List.nodup_cons] at nd
    show (rowN f e ++ seenL f r).Nodup
    rw [List.nodup_append]
    refine ⟨h1 e (List.mem_cons_self ..), ih nd.2 (fun e he => h1 e (List.mem_cons_of_mem _ he)) (fun e he e' he' => h2 e (List.mem_cons_of_mem _ he) e' (List.mem_cons_of_mem _ he')), fun a ha b hb hab => ?_⟩
    subst hab
    obtain ⟨e', he', hm⟩ := mem_seenL.mp hb
    have := h2 e (List.mem_cons_self ..) e' (List.mem_cons_of_mem _ he') a ha hm
    subst this
    exact nd.1 he'
theorem nd_cyc {n : Int} {f : PF} (w : WF n f) : (seenL f (cycS n f)).Nodup :=
  nd_seen (nodup_of_lt (cycS_lt n f)) (fun e he => (rowN_is w (cycS_dom he).1 (cycS_dom he).2).nd w) fun e he e' he' a h h' => cyc_uniq w he he' h h'
theorem perm_sum {l m : List Int} (h : l.Perm m) : l.sum = m.sum := by
  induction h with
  | nil => rfl
  | cons x _ ih => rw [List.sum_cons, List.sum_cons, ih]
  | swap x y l => simp only [List.sum_cons]; omega
  | trans _ _ a b => exact a.trans b
theorem sum_rows {f : PF} {ψ v : Int → Int} : ∀ {s : List Int}, (∀ e ∈ s, ∀ a ∈ rowN f e, ψ a = v e) → ((seenL f s).map ψ).sum = (s.map fun e => ((rowN f e).length : Int) * v e).sum
  | [], _ => rfl
  | e :: r, h => by
    have ih := sum_rows (s := r) fun e he => h e (List.mem_cons_of_mem _ he)
    show ((rowN f e ++ seenL f r).map ψ).sum = _
    rw [List.map_append, List.sum_append, ih, List.map_cons, List.sum_cons]
    congr 1
    have h1 := h e (List.mem_cons_self ..)
    generalize rowN f e = l at h1
    induction l with
    | nil => simp
    | cons a l ih => 
      rw [List.map_cons, List.sum_cons, ih fun a ha => h1 a (List.mem_cons_of_mem _ ha), h1 a (List.mem_cons_self ..), List.length_cons]
      rw [show (((l.length + 1 : Nat) : Int)) = (l.length : Int) + 1 by omega, Int.add_mul, Int.one_mul]
      omega
def dl (x : Int) (y : Int) : Int := if y = x then 1 else 0
theorem sum_mulc (x : Int) (l : List Nat) (φ : Int → Int) : (l.map fun L : Nat => x * φ (L : Int)).sum = x * (l.map fun L : Nat => φ (L : Int)).sum := by
  induction l with
  | nil => simp
  | cons a r ih => rw [List.map_cons, List.sum_cons, ih, List.map_cons, List.sum_cons, Int.mul_add]
open Classical in
theorem cyc_pow {n : Int} {f : PF} (w : WF n f) {e0 : Nat} (h0 : 1 ≤ e0) (x : Int) : bag (ones (lens (iter f e0) (cycS n (iter f e0)))) x = wsum (ones (lens f (cycS n f))) (cφ e0 (dl x)) := by
  have wg := wf_it w h0
  rw [bag_wsum, wsum_ones, wsum_ones]
  by_cases hx : 1 ≤ x
  · obtain ⟨k, rfl⟩ : ∃ k : Nat, x = (k : Int) := ⟨x.toNat, by omega⟩
    have hp : (seenL (iter f e0) (cycS n (iter f e0))).Perm (seenL f (cycS n f)) := (List.perm_ext_iff_of_nodup (nd_cyc wg) (nd_cyc w)).mpr fun a => mem_cyc_it w h0
    have hs := perm_sum (hp.map fun a => if isPer (iter f e0) a k then (1 : Int) else 0)
    rw [sum_rows (v := fun e => if (rowN (iter f e0) e).length = k then 1 else 0) (fun e he a ha => ?_), sum_rows (v := fun e => if (rowN f e).length / Nat.gcd (rowN f e).length e0 = k then 1 else 0) (fun e he a ha => ?_)] at hs
    · have l1 : ((cycS n (iter f e0)).map fun e => ((rowN (iter f e0) e).length : Int) * (if (rowN (iter f e0) e).length = k then 1 else 0)).sum = (k : Int) * ((lens (iter f e0) (cycS n (iter f e0))).map fun L : Nat => if (L : Int) = k then (1 : Int) else 0).sum := by
        refine Eq.trans ?_ (sum_mulc (k : Int) (lens (iter f e0) (cycS n (iter f e0))) (dl k))
        unfold lens
        rw [List.map_map]
        congr 1
        refine List.map_congr_left fun e _ => ?_
        show _ = (k : Int) * (if ((rowN (iter f e0) e).length : Int) = k then (1 : Int) else 0)
        by_cases h : (rowN (iter f e0) e).length = k
        · rw [if_pos h, if_pos (by omega), h]
        · rw [if_neg h, if_neg (by omega), Int.mul_zero, Int.mul_zero]
      have l2 : ((cycS n f).map fun e => ((rowN f e).length : Int) * (if (rowN f e).length / Nat.gcd (rowN f e).length e0 = k then 1 else 0)).sum = (k : Int) * ((lens f (cycS n f)).map fun L : Nat => cφ e0 (dl k) L).sum := by
        refine Eq.trans ?_ (sum_mulc (k : Int) (lens f (cycS n f)) (cφ e0 (dl k)))
        unfold lens
        rw [List.map_map]
        congr 1
        refine List.map_congr_left fun e _ => ?_
        show _ = (k : Int) * cφ e0 (dl k) ((rowN f e).length : Nat)
        unfold cφ dl
        rw [gI_nat, ← Int.natCast_ediv]
        by_cases h : (rowN f e).length / Nat.gcd (rowN f e).length e0 = k
        · rw [if_pos h, if_pos (by rw [h]), Int.mul_one, Int.mul_one]
          have : (rowN f e).length = k * Nat.gcd (rowN f e).length e0 := by
            rw [← h]
            exact (Nat.div_mul_cancel (Nat.gcd_dvd_left _ _)).symm
          rw [← Int.natCast_mul, ← this]
        · rw [if_neg h, if_neg (by omega), Int.mul_zero, Int.mul_zero, Int.mul_zero]
      rw [l1, l2] at hs
      exact Int.eq_of_mul_eq_mul_left (by omega) hs
    · have := per_cyc w (e0 := e0) he ha k
      by_cases h : (rowN f e).length / Nat.gcd (rowN f e).length e0 = k
      · rw [if_pos h, if_pos (this.mpr h.symm)]
      · rw [if_neg h, if_neg fun z => h (this.mp z).symm]
    · have := per_cyc wg (e0 := 1) he ha k
      rw [iter_one, Nat.gcd_one_right, Nat.div_one] at this
      by_cases h : (rowN (iter f e0) e).length = k
      · rw [if_pos h, if_pos (this.mpr h.symm)]
      · rw [if_neg h, if_neg fun z => h (this.mp z).symm]
  · have z1 : ∀ (l : List Nat) (φ : Int → Int), (∀ L ∈ l, φ (L : Nat) = 0) → (l.map fun L : Nat => φ (L : Int)).sum = 0 := by
      intro l φ h
      induction l with
      | nil => rfl
      | cons a r ih => rw [List.map_cons, List.sum_cons, h a (List.mem_cons_self ..), ih fun L hL => h L (List.mem_cons_of_mem _ hL)]; rfl
    rw [z1 _ (fun L => if L = x then 1 else 0), z1]
    · intro L hL
      obtain ⟨e, he, rfl⟩ := List.mem_map.mp hL
      have d := cycS_dom he
      have hL := row_pos w d.1 d.2
      unfold cφ dl
      have hM : 1 ≤ (rowN f e).length / Nat.gcd (rowN f e).length e0 := Nat.div_pos (Nat.gcd_le_left _ hL) (Nat.gcd_pos_of_pos_left _ hL)
      rw [gI_nat, ← Int.natCast_ediv, if_neg (by omega), Int.mul_zero]
    · intro L hL
      obtain ⟨e, he, rfl⟩ := List.mem_map.mp hL
      have d := cycS_dom he
      have hL := row_pos wg d.1 d.2
      exact if_neg (by omega)
/-! chains -/
theorem iter_inj {n : Int} {f : PF} (w : WF n f) : ∀ {k : Nat} {a b c : Int}, iter f k a = some c → iter f k b = some c → a = b
  | 0, a, b, c, h1, h2 => (Option.some.inj h1).trans (Option.some.inj h2).symm
  | k + 1, a, b, c, h1, h2 => (wf_iter w k).inj _ _ _ h1 h2
theorem non_le {n : Int} {f : PF} (w : WF n f) {c a y : Int} {i j : Nat} (hc : nonT n f c = true) (h1 : iter f i c = some a) (h2 : iter f j y = some a) : j ≤ i := by
  refine Nat.le_of_not_lt fun hlt => ?_
  obtain ⟨d, rfl⟩ : ∃ d, j = (d + 1) + i := ⟨j - i - 1, by omega⟩
  rw [iter_add] at h2
  obtain ⟨b, hb1, hb2⟩ := Option.bind_eq_some_iff.mp h2
  have := iter_inj w hb2 h1
  subst this
  have hb1 : (iter f d y).bind f = some b := hb1
  obtain ⟨z, _, hz⟩ := Option.bind_eq_some_iff.mp hb1
  exact (nonT_iff w).mp hc z hz
theorem row_iter {n : Int} {f : PF} (w : WF n f) {c : Int} (hc : c ∈ nons n f) (i : Nat) : iter f i c = (rowN f c)[i]? := by
  obtain ⟨h1, h2, _⟩ := nons_dom hc
  have := chain_at w hc (row_head w h1 h2) i
  rw [Nat.zero_add] at this
  exact this
noncomputable def heads (f : PF) (e0 : Nat) (s : List Int) : List Int := (s.map fun c => (rowN f c).take e0).flatten
theorem mem_heads {f : PF} {e0 : Nat} {s : List Int} {a : Int} : a ∈ heads f e0 s ↔ ∃ c ∈ s, ∃ i, i < e0 ∧ (rowN f c)[i]? = some a := by
  unfold heads
  rw [List.mem_flatten]
  constructor
  · rintro ⟨r, hr, ha⟩
    obtain ⟨c, hc, rfl⟩ := List.mem_map.mp hr
    obtain ⟨i, hi⟩ := List.getElem?_of_mem ha
    rw [List.getElem?_take] at hi
    by_cases h : i < e0
    · rw [if_pos h] at hi
      exact ⟨c, hc, i, h, hi⟩
    · rw [if_neg h] at hi; cases hi
  · rintro ⟨c, hc, i, h, hi⟩
    refine ⟨_, List.mem_map.mpr ⟨c, hc, rfl⟩, List.mem_of_getElem? (i := i) ?_⟩
    rw [List.getElem?_take, if_pos h, hi]
theorem nd_heads {n : Int} {f : PF} (w : WF n f) (e0 : Nat) : ∀ {s : List Int}, s.Nodup → (∀ c ∈ s, c ∈ nons n f) → (heads f e0 s).Nodup
  | [], _, _ => List.nodup_nil
  | c :: r, nd, h => by
    rw [List.nodup_cons] at nd
    show ((rowN f c).take e0 ++ heads f e0 r).Nodup
    have hc := h c (List.mem_cons_self ..)
    obtain ⟨h1, h2, h3⟩ := nons_dom hc
    rw [List.nodup_append]
    refine ⟨((rowN_is w h1 h2).nd w).sublist (List.take_sublist ..), nd_heads w e0 nd.2 fun c hc => h c (List.mem_cons_of_mem _ hc), fun a ha b hb hab => ?_⟩
    subst hab
    obtain ⟨c', hc', j, _, hj⟩ := mem_heads.mp hb
    obtain ⟨i, hi⟩ := List.getElem?_of_mem (List.mem_of_mem_take ha)
    have hn' := h c' (List.mem_cons_of_mem _ hc')
    rw [← row_iter w hc] at hi
    rw [← row_iter w hn'] at hj
    have a1 := non_le w h3 hi hj
    have a2 := non_le w (nons_dom hn').2.2 hj hi
    have : i = j := by omega
    subst this
    have := iter_inj w hi hj
    subst this
    exact nd.1 hc'
theorem nons_it {n : Int} {f : PF} (w : WF n f) {e0 : Nat} (h0 : 1 ≤ e0) (a : Int) : a ∈ nons n (iter f e0) ↔ a ∈ heads f e0 (nons n f) := by
  have wg := wf_it w h0
  rw [mem_heads]
  constructor
  · intro h
    obtain ⟨h1, h2, h3⟩ := nons_dom h
    have h3 := (nonT_iff wg).mp h3
    obtain ⟨e, he, hm⟩ := cover w h1 h2
    obtain ⟨i, hi⟩ := List.getElem?_of_mem hm
    rcases List.mem_append.mp he with he' | he'
    · refine ⟨e, he', i, Nat.lt_of_not_le fun hle => ?_, hi⟩
      have hl := (List.getElem?_eq_some_iff.mp hi).1
      obtain ⟨y, hy⟩ : ∃ y, (rowN f e)[i - e0]? = some y := ⟨_, List.getElem?_eq_getElem (by omega)⟩
      refine h3 y ?_
      rw [chain_at w he' hy, show i - e0 + e0 = i by omega]
      exact hi
    · exfalso
      have hc := (mem_cyc wg).mp ((mem_cyc_it w h0).mpr (mem_seenL.mpr ⟨e, he', hm⟩))
      obtain ⟨x, hx, hi⟩ := hc
      obtain ⟨k, rfl⟩ : ∃ k, x = k + 1 := ⟨x - 1, by omega⟩
      have hi : (iter (iter f e0) k a).bind (iter f e0) = some a := hi
      obtain ⟨z, _, hz⟩ := Option.bind_eq_some_iff.mp hi
      exact h3 z hz
  · rintro ⟨c, hc, i, hi, hg⟩
    obtain ⟨h1, h2, h3⟩ := nons_dom hc
    have hd := (rowN_is w h1 h2).dom w h1 h2 a (List.mem_of_getElem? hg)
    refine List.mem_filter.mpr ⟨mem_rgI.mpr ⟨hd.1, by omega⟩, (nonT_iff wg).mpr fun y hy => ?_⟩
    rw [← row_iter w hc] at hg
    have := non_le w h3 hg hy
    omega
theorem len_it {n : Int} {f : PF} (w : WF n f) {e0 : Nat} (h0 : 1 ≤ e0) {c b : Int} {i : Nat} (hc : c ∈ nons n f) (hi : i < e0) (hg : (rowN f c)[i]? = some b) (j : Nat) : j < (rowN (iter f e0) b).length ↔ i + e0 * j < (rowN f c).length := by
  have wg := wf_it w h0
  have hb : b ∈ nons n (iter f e0) := (nons_it w h0 b).mpr (mem_heads.mpr ⟨c, hc, i, hi, hg⟩)
  have k := row_iter wg hb j
  rw [iter_mul, chain_at w hc hg] at k
  constructor
  · intro h
    refine Nat.lt_of_not_le fun z => ?_
    rw [List.getElem?_eq_none_iff.mpr z] at k
    have := List.getElem?_eq_none_iff.mp k.symm
    omega
  · intro h
    refine Nat.lt_of_not_le fun z => ?_
    rw [List.getElem?_eq_none_iff.mpr z] at k
    have := List.getElem?_eq_none_iff.mp k
    omega
end My
namespace My
open PM
/-! ### chains of powers; powers of powers -/
theorem step_cond {L e i x : Nat} (he : 1 ≤ e) (hi : i < e) (hx : 1 ≤ x) : (i + e * (x - 1) < L ∧ L ≤ i + e * x) ↔ x = if i < L % e then L / e + 1 else L / e := by
  have hL := Nat.div_add_mod L e
  have hr := Nat.mod_lt L he
  generalize L / e = q at hL
  generalize L % e = r at hL hr
  subst hL
  obtain ⟨y, rfl⟩ : ∃ y, x = y + 1 := ⟨x - 1, by omega⟩
  rw [Nat.add_sub_cancel, Nat.mul_add, Nat.mul_one]
  by_cases h : i < r
  · rw [if_pos h]
    constructor
    · rintro ⟨h1, h2⟩
      have a1 : y < q + 1 := by
        refine Nat.lt_of_mul_lt_mul_left (a := e) ?_
        rw [Nat.mul_add, Nat.mul_one]
        omega
      have a2 : q < y + 1 := by
        refine Nat.lt_of_mul_lt_mul_left (a := e) ?_
        rw [Nat.mul_add, Nat.mul_one]
        omega
      omega
    · intro hx
      have : y = q := by omega
      subst this
      omega
  · rw [if_neg h]
    constructor
    · rintro ⟨h1, h2⟩
      have a1 : y < q := by
        refine Nat.lt_of_mul_lt_mul_left (a := e) ?_
        omega
      have a2 : q < y + 1 + 1 := by
        refine Nat.lt_of_mul_lt_mul_left (a := e) ?_
        rw [Nat.mul_add, Nat.mul_one, Nat.mul_add, Nat.mul_one]
        omega
      omega
    · rintro rfl
      rw [Nat.mul_add, Nat.mul_one]
      omega
theorem sum_step (r : Nat) (A B : Int) : ∀ m : Nat, ((List.range m).map fun i => if i < r then A else B).sum = ((min m r : Nat) : Int) * A + ((m - r : Nat) : Int) * B
  | 0 => by simp
  | m + 1 => by
    rw [List.range_succ, List.map_append, List.sum_append, sum_step r A B m]
    simp only [List.map_cons, List.map_nil, List.sum_cons, List.sum_nil]
    by_cases h : m < r
    · rw [if_pos h, show min (m + 1) r = min m r + 1 by omega, show m + 1 - r = 0 by omega, show m - r = 0 by omega]
      rw [show (((min m r + 1 : Nat)) : Int) = ((min m r : Nat) : Int) + 1 by omega, Int.add_mul, Int.one_mul]
      omega
    · rw [if_neg h, show min (m + 1) r = min m r by omega, show m + 1 - r = (m - r) + 1 by omega]
      rw [show (((m - r + 1 : Nat)) : Int) = ((m - r : Nat) : Int) + 1 by omega, Int.add_mul, Int.one_mul]
      omega
theorem hφ_nat (L e : Nat) (φ : Int → Int) : hφ e φ (L : Int) = ((L % e : Nat) : Int) * φ ((L / e + 1 : Nat) : Int) + ((if 0 < L / e then e - L % e else 0 : Nat) : Int) * φ ((L / e : Nat) : Int) := by
  unfold hφ
  rw [← Int.natCast_emod, ← Int.natCast_ediv]
  have h1 : ((L / e : Nat) : Int) + 1 = ((L / e + 1 : Nat) : Int) := by omega
  rw [h1]
  congr 2
  by_cases h : 0 < L / e
  · have hr : L % e < e := Nat.mod_lt _ (by
      refine Nat.pos_of_ne_zero fun z => ?_
      rw [z, Nat.div_zero] at h
      omega)
    rw [if_pos h, if_pos (by omega)]
    omega
  · rw [if_neg h, if_neg (by omega)]
    rfl
theorem sum_heads {f : PF} (ψ : Int → Int) (e0 : Nat) : ∀ (s : List Int), ((heads f e0 s).map ψ).sum = (s.map fun c => (((rowN f c).take e0).map ψ).sum).sum
  | [] => rfl
  | c :: r => by
    show (((rowN f c).take e0 ++ heads f e0 r).map ψ).sum = _
    rw [List.map_append, List.sum_append, sum_heads ψ e0 r, List.map_cons, List.sum_cons]
theorem sum_take {l : List Int} {ψ : Int → Int} {χ : Nat → Int} {m : Nat} (hm : m = l.length) (h : ∀ i a, l[i]? = some a → ψ a = χ i) : (l.map ψ).sum = ((List.range m).map χ).sum := by
  subst hm
  congr 1
  refine List.ext_getElem? fun i => ?_
  rw [List.getElem?_map, List.getElem?_map]
  by_cases hi : i < l.length
  · rw [List.getElem?_eq_getElem hi, List.getElem?_range hi]
    show some _ = some _
    rw [h i _ (List.getElem?_eq_getElem hi)]
  · rw [List.getElem?_eq_none_iff.mpr (by omega), List.getElem?_eq_none_iff.mpr (by rw [List.length_range]; omega)]
    rfl
theorem chn_pow {n : Int} {f : PF} (w : WF n f) {e0 : Nat} (h0 : 1 ≤ e0) (x : Int) : bag (ones (lens (iter f e0) (nons n (iter f e0)))) x = wsum (ones (lens f (nons n f))) (hφ e0 (dl x)) := by
  have wg := wf_it w h0
  rw [bag_wsum, wsum_ones, wsum_ones]
  have hp : (nons n (iter f e0)).Perm (heads f e0 (nons n f)) := (List.perm_ext_iff_of_nodup (nodup_of_lt (nons_lt n _)) (nd_heads w e0 (nodup_of_lt (nons_lt n f)) fun c hc => hc)).mpr (nons_it w h0)
  have hs := perm_sum (hp.map fun a => dl x ((rowN (iter f e0) a).length : Nat))
  rw [sum_heads] at hs
  unfold lens
  rw [List.map_map, List.map_map]
  refine Eq.trans ?_ (hs.trans ?_)
  · congr 1
  · congr 1
    refine List.map_congr_left fun c hc => ?_
    obtain ⟨c1, c2, c3⟩ := nons_dom hc
    have hL := row_pos w c1 c2
    have hlen : min e0 (rowN f c).length = ((rowN f c).take e0).length := by rw [List.length_take]
    show _ = hφ e0 (dl x) ((rowN f c).length : Nat)
    rw [hφ_nat]
    rw [sum_take (χ := fun i => if i < (rowN f c).length % e0 then dl x (((rowN f c).length / e0 + 1 : Nat)) else dl x (((rowN f c).length / e0 : Nat))) hlen ?_]
    · rw [sum_step]
      have hr : (rowN f c).length % e0 < e0 := Nat.mod_lt _ h0
      have hd := Nat.div_add_mod (rowN f c).length e0
      generalize (rowN f c).length / e0 = q at hd
      generalize (rowN f c).length % e0 = r at hd hr
      generalize (rowN f c).length = L at hd
      by_cases hq : 0 < q
      · have : e0 ≤ e0 * q := Nat.le_mul_of_pos_right _ hq
        rw [if_pos hq, show min (min e0 L) r = r by omega, show min e0 L - r = e0 - r by omega]
      · have : q = 0 := by omega
        subst this
        rw [Nat.mul_zero] at hd
        rw [if_neg hq, show min (min e0 L) r = r by omega, show min e0 L - r = 0 by omega]
    · intro i a hi
      rw [List.getElem?_take] at hi
      by_cases hie : i < e0
      · rw [if_pos hie] at hi
        have hk := len_it w h0 hc hie hi
        have hb : a ∈ nons n (iter f e0) := (nons_it w h0 a).mpr (mem_heads.mpr ⟨c, hc, i, hie, hi⟩)
        have hb' := nons_dom hb
        have hm := row_pos wg hb'.1 hb'.2.1
        have h1 := (hk ((rowN (iter f e0) a).length - 1)).mp (by omega)
        have h2 : ¬ (i + e0 * (rowN (iter f e0) a).length < (rowN f c).length) := fun z => by
          have := (hk _).mpr z
          omega
        have := (step_cond h0 hie hm).mp ⟨h1, by omega⟩
        show dl x ((rowN (iter f e0) a).length : Nat) = _
        rw [this]
        by_cases hir : i < (rowN f c).length % e0
        · rw [if_pos hir, if_pos hir]
        · rw [if_neg hir, if_neg hir]
      · rw [if_neg hie] at hi; cases hi
/-! sizes, powers of powers -/
end My
namespace My
open PM
/-! ### obstacles: the plain law -/
/-- what is left of a degree when all primes of a length are taken out -/
def grR : Nat → Nat → Nat → Nat
  | 0, r, _ => r
  | f + 1, r, L => if 1 < Nat.gcd r L then grR f (r / Nat.gcd r L) L else r
theorem grR_more : ∀ (f r L : Nat), r ≤ f → 1 ≤ r → grR (f + 1) r L = grR f r L
  | 0, r, L, h, h1 => by omega
  | f + 1, r, L, h, h1 => by
    show (if 1 < Nat.gcd r L then grR (f + 1) (r / Nat.gcd r L) L else r) = if 1 < Nat.gcd r L then grR f (r / Nat.gcd r L) L else r
    by_cases hg : 1 < Nat.gcd r L
    · rw [if_pos hg, if_pos hg]
      have hlt : r / Nat.gcd r L < r := Nat.div_lt_self h1 hg
      refine grR_more f _ L (by omega) ?_
      exact Nat.div_pos (Nat.gcd_le_left _ h1) (by omega)
    · rw [if_neg hg, if_neg hg]
theorem grR_stab {r L : Nat} (h1 : 1 ≤ r) : ∀ d, grR (r + d) r L = grR r r L
  | 0 => rfl
  | d + 1 => by rw [← grR_stab h1 d, ← Nat.add_assoc, grR_more _ _ _ (by omega) h1]
theorem grR_step {r L : Nat} (h1 : 1 ≤ r) (hg : 1 < Nat.gcd r L) : grR r r L = grR (r / Nat.gcd r L) (r / Nat.gcd r L) L := by
  obtain ⟨f, rfl⟩ : ∃ f, r = f + 1 := ⟨r - 1, by omega⟩
  have hlt : (f + 1) / Nat.gcd (f + 1) L < f + 1 := Nat.div_lt_self (by omega) hg
  have hp : 1 ≤ (f + 1) / Nat.gcd (f + 1) L := Nat.div_pos (Nat.gcd_le_left _ (by omega)) (by omega)
  have e : grR (f + 1) (f + 1) L = grR f ((f + 1) / Nat.gcd (f + 1) L) L := by
    show (if 1 < Nat.gcd (f + 1) L then _ else _) = _
    rw [if_pos hg]
  rw [e]
  obtain ⟨d, hd⟩ : ∃ d, f = (f + 1) / Nat.gcd (f + 1) L + d := ⟨f - (f + 1) / Nat.gcd (f + 1) L, by omega⟩
  generalize (f + 1) / Nat.gcd (f + 1) L = r' at hp hd
  rw [hd]
  exact grR_stab hp d
theorem grR_end {r L : Nat} (h1 : 1 ≤ r) (hg : ¬ 1 < Nat.gcd r L) : grR r r L = r := by
  obtain ⟨f, rfl⟩ : ∃ f, r = f + 1 := ⟨r - 1, by omega⟩
  show (if 1 < Nat.gcd (f + 1) L then _ else _) = _
  rw [if_neg hg]
def grS (L d : Nat) : Nat := d / grR d d L
def degs : List Nat := [1, 2, 3, 4, 6, 8, 12, 30]
/-- the rule for chains: at length k, where c of them are taken already -/
def fcF (f : PF) (d : Int) : Nat → Int → Option Int
  | 0, _ => none
  | 1, _ => none
  | k + 2, c =>
    let over := ((f ((k : Int) + 2)).getD 0 - c) % d
    if 0 < over then (if (f ((k : Int) + 1)).getD 0 < d - over then some ((k : Int) + 2) else fcF f d (k + 1) (d - over)) else fcF f d (k + 1) 0
theorem fcF_zero {f : PF} {d : Int} (n : Nat) : ∀ m : Nat, (∀ x : Int, (n : Int) < x → x ≤ (n : Int) + m → f x = none) → fcF f d (n + m) 0 = fcF f d n 0
  | 0, _ => rfl
  | m + 1, h => by
    have ih := fcF_zero (f := f) (d := d) n m fun x h1 h2 => h x h1 (by omega)
    rw [← ih, ← Nat.add_assoc]
    have hf : f (((n + m : Nat) : Int) + 1) = none := h _ (by omega) (by omega)
    generalize n + m = q at hf
    match q, hf with
    | 0, _ => rfl
    | k + 1, hf =>
      show (if 0 < ((f ((k : Int) + 2)).getD 0 - 0) % d then _ else _) = _
      have : f ((k : Int) + 2) = none := by rw [← hf]; congr 1
      rw [this]
      show (if 0 < ((0 : Int) - 0) % d then _ else _) = _
      rw [Int.sub_zero, Int.zero_emod, if_neg (by omega)]
/-- the same, by the keys alone, the greatest first; c: what is taken of the length u -/
def fcK (f : PF) (d : Int) : Int → Int → List Int → Option Int
  | _, _, [] => none
  | u, c, x :: r =>
    let over := ((f x).getD 0 - (if x = u then c else 0)) % d
    if 0 < over ∧ 1 < x then (if (f (x - 1)).getD 0 < d - over then some x else fcK f d (x - 1) (d - over) r) else fcK f d u c r
theorem fcK_at {f : PF} {d : Int} (hd : 0 < d) : ∀ (ks : List Int) (k : Nat) (u c : Int), ks.Pairwise (· > ·) → (∀ x ∈ ks, 1 ≤ x ∧ x ≤ k) → (∀ x : Int, 1 ≤ x → x ≤ k → f x ≠ none → x ∈ ks) → (k : Int) ≤ u → (u = (k : Int) → c ≠ 0 → 1 ≤ (k : Int) ∧ f (k : Int) ≠ none) → fcK f d u c ks = fcF f d k (if u = (k : Int) then c else 0)
  | [], k, u, c, _, _, hc, hu, hcu => by
    have h0 : ∀ x : Int, ((0 : Nat) : Int) < x → x ≤ ((0 : Nat) : Int) + k → f x = none := fun x h1 h2 => by
      cases e : f x with
      | none => rfl
      | some y => exact nomatch hc x (by omega) (by omega) (by rw [e]; exact fun z => nomatch z)
    have e0 : (if u = (k : Int) then c else 0) = 0 := by
      by_cases h : u = (k : Int)
      · rw [if_pos h]
        refine Decidable.byContradiction fun z => ?_
        have h1 := hcu h z
        exact nomatch hc k h1.1 (Int.le_refl _) h1.2
      · rw [if_neg h]
    rw [e0]
    have := fcF_zero (f := f) (d := d) 0 k h0
    rw [Nat.zero_add] at this
    rw [this]
    rfl
  | x :: r, k, u, c, pw, hb, hc, hu, hcu => by
    rw [List.pairwise_cons] at pw
    have hx := hb x (List.mem_cons_self ..)
    have hle : ∀ y ∈ x :: r, y ≤ x := fun y hy => by
      rcases List.mem_cons.mp hy with rfl | hy
      · exact Int.le_refl _
      · have := pw.1 y hy; omega
    have key : ∀ (k' : Nat) (c' : Int), x = (k' : Int) → c' = (if x = u then c else 0) → fcK f d u c (x :: r) = fcF f d k' c' := by
      intro k' c' ek ec
      subst ec
      match k', ek with
      | 0, ek => omega
      | 1, ek =>
        have er : r = [] := List.eq_nil_iff_forall_not_mem.mpr fun y hy => by
          have h1 := pw.1 y hy
          have h2 := hb y (List.mem_cons_of_mem _ hy)
          omega
        subst er
        show (if 0 < ((f x).getD 0 - (if x = u then c else 0)) % d ∧ 1 < x then _ else none) = none
        rw [if_neg (by omega)]
      | k2 + 2, ek =>
        have ex : x = (k2 : Int) + 2 := by omega
        subst ex
        have e1 : (k2 : Int) + 2 - 1 = (k2 : Int) + 1 := by omega
        show (if 0 < ((f ((k2 : Int) + 2)).getD 0 - (if (k2 : Int) + 2 = u then c else 0)) % d ∧ 1 < (k2 : Int) + 2 then (if (f ((k2 : Int) + 2 - 1)).getD 0 < d - ((f ((k2 : Int) + 2)).getD 0 - (if (k2 : Int) + 2 = u then c else 0)) % d then some ((k2 : Int) + 2) else fcK f d ((k2 : Int) + 2 - 1) (d - ((f ((k2 : Int) + 2)).getD 0 - (if (k2 : Int) + 2 = u then c else 0)) % d) r) else fcK f d u c r) = (if 0 < ((f ((k2 : Int) + 2)).getD 0 - (if (k2 : Int) + 2 = u then c else 0)) % d then (if (f ((k2 : Int) + 1)).getD 0 < d - ((f ((k2 : Int) + 2)).getD 0 - (if (k2 : Int) + 2 = u then c else 0)) % d then some ((k2 : Int) + 2) else fcF f d (k2 + 1) (d - ((f ((k2 : Int) + 2)).getD 0 - (if (k2 : Int) + 2 = u then c else 0)) % d)) else fcF f d (k2 + 1) 0)
        have hov := Int.emod_lt_of_pos ((f ((k2 : Int) + 2)).getD 0 - (if (k2 : Int) + 2 = u then c else 0)) hd
        generalize ((f ((k2 : Int) + 2)).getD 0 - (if (k2 : Int) + 2 = u then c else 0)) % d = over at hov
        have hb' : ∀ y ∈ r, 1 ≤ y ∧ y ≤ ((k2 + 1 : Nat) : Int) := fun y hy => by
          have h1 := pw.1 y hy
          have h2 := hb y (List.mem_cons_of_mem _ hy)
          omega
        have hc' : ∀ y : Int, 1 ≤ y → y ≤ ((k2 + 1 : Nat) : Int) → f y ≠ none → y ∈ r := fun y h1 h2 h3 => by
          rcases List.mem_cons.mp (hc y h1 (by omega) h3) with rfl | h
          · omega
          · exact h
        rw [e1]
        by_cases h : 0 < over
        · rw [if_pos ⟨h, by omega⟩, if_pos h]
          by_cases h2 : (f ((k2 : Int) + 1)).getD 0 < d - over
          · rw [if_pos h2, if_pos h2]
          · rw [if_neg h2, if_neg h2]
            rw [fcK_at hd r (k2 + 1) _ _ pw.2 hb' hc' (by omega) fun _ _ => ⟨by omega, fun z => by
              have e2 : ((k2 + 1 : Nat) : Int) = (k2 : Int) + 1 := by omega
              rw [e2] at z
              rw [z] at h2
              exact h2 (by show (0 : Int) < d - over; omega)⟩]
            rw [if_pos (by omega)]
        · rw [if_neg (by omega), if_neg h, fcK_at hd r (k2 + 1) _ _ pw.2 hb' hc' (by omega) fun z _ => by omega]
          rw [if_neg (by omega)]
    by_cases hk : x = (k : Int)
    · refine key k _ hk ?_
      rw [hk]
      by_cases h : u = (k : Int)
      · rw [if_pos h, if_pos h.symm]
      · rw [if_neg h, if_neg fun z => h z.symm]
    · have hn : ∀ y : Int, x < y → y ≤ k → f y = none := fun y h1 h2 => by
        cases e : f y with
        | none => rfl
        | some z =>
          have := hle y (hc y (by omega) h2 (by rw [e]; exact fun w => nomatch w))
          omega
      have e0 : (if u = (k : Int) then c else 0) = 0 := by
        by_cases h : u = (k : Int)
        · rw [if_pos h]
          refine Decidable.byContradiction fun z => ?_
          have h1 := hcu h z
          have := hle k (hc k h1.1 (Int.le_refl _) h1.2)
          omega
        · rw [if_neg h]
      rw [e0]
      have hz := fcF_zero (f := f) (d := d) x.toNat (k - x.toNat) fun y h1 h2 => hn y (by omega) (by omega)
      rw [show x.toNat + (k - x.toNat) = k by omega] at hz
      rw [hz]
      refine key x.toNat 0 (by omega) ?_
      rw [if_neg (by omega)]
end My
set_option maxHeartbeats 1000000
namespace My
open PM U
/-! ### roots: rows that are merged, and their powers -/
def ClosedAt (g : PF) (P : List Int) : Prop := ∀ (i : Nat) (a : Int), P[i]? = some a → g a = P[(i + 1) % P.length]?
def OpenAt (g : PF) (P : List Int) : Prop := ∀ (i : Nat) (a : Int), P[i]? = some a → g a = P[i + 1]?
theorem closed_iter {g : PF} {P : List Int} (h : ClosedAt g P) {i : Nat} {a : Int} (ha : P[i]? = some a) : ∀ k, iter g k a = P[(i + k) % P.length]?
  | 0 => by
    have hi : i < P.length := (List.getElem?_eq_some_iff.mp ha).1
    rw [Nat.add_zero, Nat.mod_eq_of_lt hi, ha]
    rfl
  | k + 1 => by
    have hi : i < P.length := (List.getElem?_eq_some_iff.mp ha).1
    show (iter g k a).bind g = _
    rw [closed_iter h ha k]
    have hm : (i + k) % P.length < P.length := Nat.mod_lt _ (by omega)
    have e : P[(i + k) % P.length]? = some P[(i + k) % P.length] := List.getElem?_eq_getElem hm
    rw [e, Option.bind_some, h _ _ e, Nat.mod_add_mod, Nat.add_assoc]
theorem open_iter {g : PF} {P : List Int} (h : OpenAt g P) {i : Nat} {a : Int} (ha : P[i]? = some a) : ∀ k, iter g k a = P[i + k]?
  | 0 => by rw [Nat.add_zero, ha]; rfl
  | k + 1 => by
    show (iter g k a).bind g = _
    rw [open_iter h ha k]
    cases e : P[i + k]? with
    | none => rw [List.getElem?_eq_none (by have := List.getElem?_eq_none_iff.mp e; omega)]; rfl
    | some b => rw [Option.bind_some, h _ _ e, Nat.add_assoc]
/-- P is G's rows of one length, woven by steps of d -/
structure Woven (G : List (List Int)) (d L : Nat) (P : List Int) : Prop where
  hL : ∀ r ∈ G, r.length = L
  L0 : 0 < L
  s0 : 0 < G.length
  hd : G.length ∣ d
  len : P.length = G.length * L
  at_ : ∀ (i : Nat) (r : List Int) (t : Nat) (a : Int), G[i]? = some r → r[t]? = some a → P[(i + t * d) % (G.length * L)]? = some a
theorem woven_pow {G : List (List Int)} {d L : Nat} {P : List Int} {g : PF} (W : Woven G d L P) (h : ClosedAt g P) {i : Nat} {r : List Int} {t : Nat} {a : Int} (hr : G[i]? = some r) (ha : r[t]? = some a) : iter g d a = r[(t + 1) % L]? := by
  have hp := W.at_ i r t a hr ha
  have hrl := W.hL r (List.mem_of_getElem? hr)
  have ht : t < L := by have := (List.getElem?_eq_some_iff.mp ha).1; omega
  rw [closed_iter h hp d, W.len, Nat.mod_add_mod, show i + t * d + d = i + (t + 1) * d by rw [Nat.succ_mul]; omega]
  by_cases h1 : t + 1 < L
  · rw [Nat.mod_eq_of_lt h1]
    have e : r[t + 1]? = some (r[t + 1]'(by omega)) := List.getElem?_eq_getElem (by omega)
    rw [e]
    exact W.at_ i r (t + 1) _ hr e
  · have e1 : t + 1 = L := by omega
    rw [e1, Nat.mod_self]
    have e : r[0]? = some (r[0]'(by have := W.L0; omega)) := List.getElem?_eq_getElem (by have := W.L0; omega)
    rw [e, ← W.at_ i r 0 _ hr e, Nat.zero_mul, Nat.add_zero]
    congr 1
    obtain ⟨c, hc⟩ := W.hd
    rw [show i + L * d = i + G.length * L * c by rw [hc, ← Nat.mul_assoc, Nat.mul_comm L]]
    exact Nat.add_mul_mod_self_left ..
/-- P is G's rows, open, one turn behind the other -/
structure Laid (G : List (List Int)) (d : Nat) (P : List Int) : Prop where
  at_ : ∀ (i : Nat) (r : List Int) (t : Nat) (a : Int), G[i]? = some r → r[t]? = some a → P[t * d + i]? = some a
  over : ∀ (i : Nat) (r : List Int), G[i]? = some r → P.length ≤ r.length * d + i
theorem laid_pow {G : List (List Int)} {d : Nat} {P : List Int} {g : PF} (W : Laid G d P) (h : OpenAt g P) {i : Nat} {r : List Int} {t : Nat} {a : Int} (hr : G[i]? = some r) (ha : r[t]? = some a) : iter g d a = r[t + 1]? := by
  have ht := (List.getElem?_eq_some_iff.mp ha).1
  rw [open_iter h (W.at_ i r t a hr ha) d, show t * d + i + d = (t + 1) * d + i by rw [Nat.succ_mul]; omega]
  by_cases h1 : t + 1 < r.length
  · have e : r[t + 1]? = some (r[t + 1]'h1) := List.getElem?_eq_getElem h1
    rw [e]
    exact W.at_ i r (t + 1) _ hr e
  · have e1 : t + 1 = r.length := by omega
    have := W.over i r hr
    rw [List.getElem?_eq_none (by rw [e1]; exact this), List.getElem?_eq_none (by omega)]
theorem single_pow {d : Nat} {x : Int} {g : PF} (hd : 1 ≤ d) (h : OpenAt g [x]) : iter g d x = none := by
  rw [open_iter h (i := 0) rfl d]
  exact List.getElem?_eq_none (by show 1 ≤ 0 + d; omega)
/-! ### the arrows of rows -/
def rot (P : List Int) : List Int := P.tail ++ P.take 1
def arC (P : List Int) : List (Int × Int) := P.zip (rot P)
def arO (P : List Int) : List (Int × Int) := P.zip P.tail
theorem rot_len (P : List Int) : (rot P).length = P.length := by
  cases P with
  | nil => rfl
  | cons a r => show (r ++ [a]).length = _; simp
theorem rot_perm (P : List Int) : (rot P).Perm P := by
  cases P with
  | nil => exact .refl _
  | cons a r => show (r ++ [a]).Perm (a :: r); exact List.perm_append_comm
theorem rot_at {P : List Int} {i : Nat} (hi : i < P.length) : (rot P)[i]? = P[(i + 1) % P.length]? := by
  cases P with
  | nil => exact absurd hi (Nat.not_lt_zero _)
  | cons a r =>
    show (r ++ [a])[i]? = (a :: r)[(i + 1) % (r.length + 1)]?
    have hi' : i < r.length + 1 := hi
    by_cases h : i < r.length
    · rw [List.getElem?_append_left h, Nat.mod_eq_of_lt (by omega), List.getElem?_cons_succ]
    · have e : i = r.length := by omega
      rw [e, Nat.mod_self, List.getElem?_append_right (Nat.le_refl _), Nat.sub_self]
      rfl
theorem arC_get {P : List Int} {i : Nat} {a : Int} (ha : P[i]? = some a) : ∃ b, P[(i + 1) % P.length]? = some b ∧ (arC P)[i]? = some (a, b) := by
  have hi := (List.getElem?_eq_some_iff.mp ha).1
  have hm : (i + 1) % P.length < P.length := Nat.mod_lt _ (by omega)
  refine ⟨P[(i + 1) % P.length], List.getElem?_eq_getElem hm, ?_⟩
  unfold arC
  rw [List.getElem?_zip_eq_some]
  exact ⟨ha, by rw [rot_at hi]; exact List.getElem?_eq_getElem hm⟩
theorem arC_keys (P : List Int) : (arC P).map (·.1) = P := by
  unfold arC
  exact List.map_fst_zip (by rw [rot_len]; exact Nat.le_refl _)
theorem arC_vals (P : List Int) : (arC P).map (·.2) = rot P := by
  unfold arC
  exact List.map_snd_zip (by rw [rot_len]; exact Nat.le_refl _)
theorem arO_vals (P : List Int) : (arO P).map (·.2) = P.tail := by
  unfold arO
  exact List.map_snd_zip (by rw [List.length_tail]; omega)
theorem arO_keys (P : List Int) : ((arO P).map (·.1)).Sublist P := by
  unfold arO
  induction P with
  | nil => exact .slnil
  | cons a r ih =>
    cases r with
    | nil => exact List.nil_sublist _
    | cons b r => exact ih.cons₂ a
theorem arO_get {P : List Int} {i : Nat} {p : Int × Int} : (arO P)[i]? = some p ↔ P[i]? = some p.1 ∧ P[i + 1]? = some p.2 := by
  unfold arO
  rw [List.getElem?_zip_eq_some, List.getElem?_tail]
/-- the place of an element is one alone -/
theorem flat_uniq {Ls : List (List Int)} (nd : Ls.flatten.Nodup) {p q i j : Nat} {P Q : List Int} {a : Int} (hp : Ls[p]? = some P) (hq : Ls[q]? = some Q) (hi : P[i]? = some a) (hj : Q[j]? = some a) : p = q ∧ i = j := by
  induction Ls generalizing p q with
  | nil => cases hp
  | cons R rs ih =>
    rw [List.flatten_cons, List.nodup_append] at nd
    obtain ⟨n1, n2, n3⟩ := nd
    cases p with
    | zero =>
      rw [List.getElem?_cons_zero] at hp
      cases hp
      cases q with
      | zero =>
        rw [List.getElem?_cons_zero] at hq
        cases hq
        refine ⟨rfl, (List.getElem?_inj (List.getElem?_eq_some_iff.mp hi).1 n1).mp (hi.trans hj.symm)⟩
      | succ q =>
        rw [List.getElem?_cons_succ] at hq
        exact absurd rfl (n3 a (List.mem_of_getElem? hi) a (List.mem_flatten.mpr ⟨Q, List.mem_of_getElem? hq, List.mem_of_getElem? hj⟩))
    | succ p =>
      rw [List.getElem?_cons_succ] at hp
      cases q with
      | zero =>
        rw [List.getElem?_cons_zero] at hq
        cases hq
        exact absurd rfl (n3 a (List.mem_of_getElem? hj) a (List.mem_flatten.mpr ⟨P, List.mem_of_getElem? hp, List.mem_of_getElem? hi⟩))
      | succ q =>
        rw [List.getElem?_cons_succ] at hq
        obtain ⟨h1, h2⟩ := ih n2 hp hq
        exact ⟨by omega, h2⟩
def arrs (PC PO : List (List Int)) : List (Int × Int) := (PC.map arC).flatten ++ (PO.map arO).flatten
theorem keys_flat (PC : List (List Int)) : ((PC.map arC).flatten).map (·.1) = PC.flatten := by
  induction PC with
  | nil => rfl
  | cons P r ih => rw [List.map_cons, List.flatten_cons, List.map_append, arC_keys, ih, List.flatten_cons]
theorem keys_flatO (PO : List (List Int)) : (((PO.map arO).flatten).map (·.1)).Sublist PO.flatten := by
  induction PO with
  | nil => exact .slnil
  | cons P r ih =>
    rw [List.map_cons, List.flatten_cons, List.map_append, List.flatten_cons]
    exact (arO_keys P).append ih
theorem vals_flat (PC : List (List Int)) : (((PC.map arC).flatten).map (·.2)).Perm PC.flatten := by
  induction PC with
  | nil => exact .refl _
  | cons P r ih =>
    rw [List.map_cons, List.flatten_cons, List.map_append, arC_vals, List.flatten_cons]
    exact (rot_perm P).append ih
theorem vals_flatO (PO : List (List Int)) : (((PO.map arO).flatten).map (·.2)).Sublist PO.flatten := by
  induction PO with
  | nil => exact .slnil
  | cons P r ih =>
    rw [List.map_cons, List.flatten_cons, List.map_append, arO_vals, List.flatten_cons]
    exact (List.tail_sublist P).append ih
theorem arrs_nd {PC PO : List (List Int)} (nd : (PC.flatten ++ PO.flatten).Nodup) : ((arrs PC PO).map (·.1)).Nodup := by
  unfold arrs
  rw [List.map_append, keys_flat]
  exact ((List.Sublist.refl _).append (keys_flatO PO)).nodup nd
theorem arrs_nv {PC PO : List (List Int)} (nd : (PC.flatten ++ PO.flatten).Nodup) : ((arrs PC PO).map (·.2)).Nodup := by
  unfold arrs
  rw [List.map_append]
  have h1 : (PC.flatten ++ ((PO.map arO).flatten).map (·.2)).Nodup := ((List.Sublist.refl _).append (vals_flatO PO)).nodup nd
  exact (((vals_flat PC).append (.refl _)).nodup_iff).mpr h1
theorem arrs_di {PC PO : List (List Int)} (nd : (PC.flatten ++ PO.flatten).Nodup) : DI (arrs PC PO) (lk (arrs PC PO)) := ⟨arrs_nd nd, fun _ => rfl⟩
theorem arrs_wf {n : Int} {PC PO : List (List Int)} (nd : (PC.flatten ++ PO.flatten).Nodup) (h : ∀ x ∈ PC.flatten ++ PO.flatten, 0 ≤ x ∧ x < n) : WF n (lk (arrs PC PO)) := by
  have di := arrs_di nd
  have hk : ∀ p ∈ arrs PC PO, p.1 ∈ PC.flatten ++ PO.flatten ∧ p.2 ∈ PC.flatten ++ PO.flatten := fun p hp => by
    unfold arrs at hp
    rcases List.mem_append.mp hp with hp | hp
    · have h1 := List.mem_map_of_mem (f := (·.1)) hp
      have h2 := List.mem_map_of_mem (f := (·.2)) hp
      rw [keys_flat] at h1
      exact ⟨List.mem_append_left _ h1, List.mem_append_left _ ((vals_flat PC).mem_iff.mp h2)⟩
    · have h1 := List.mem_map_of_mem (f := (·.1)) hp
      have h2 := List.mem_map_of_mem (f := (·.2)) hp
      exact ⟨List.mem_append_right _ ((keys_flatO PO).subset h1), List.mem_append_right _ ((vals_flatO PO).subset h2)⟩
  refine ⟨fun x y e => ?_, fun x x' y e e' => ?_⟩
  · have hm := hk _ (di.mem.mpr e)
    exact ⟨(h _ hm.1).1, (h _ hm.1).2, (h _ hm.2).1, (h _ hm.2).2⟩
  · obtain ⟨i, hi⟩ := List.getElem?_of_mem (di.mem.mpr e)
    obtain ⟨j, hj⟩ := List.getElem?_of_mem (di.mem.mpr e')
    have nv := arrs_nv nd
    have e1 : ((arrs PC PO).map (·.2))[i]? = some y := by rw [List.getElem?_map, hi]; rfl
    have e2 : ((arrs PC PO).map (·.2))[j]? = some y := by rw [List.getElem?_map, hj]; rfl
    have := (List.getElem?_inj (List.getElem?_eq_some_iff.mp e1).1 nv).mp (e1.trans e2.symm)
    rw [this, hj] at hi
    cases hi
    rfl
theorem arrs_closed {PC PO : List (List Int)} (nd : (PC.flatten ++ PO.flatten).Nodup) {P : List Int} (hP : P ∈ PC) : ClosedAt (lk (arrs PC PO)) P := fun i a ha => by
  obtain ⟨b, hb, hz⟩ := arC_get ha
  rw [hb]
  refine (arrs_di nd).mem.mp ?_
  unfold arrs
  exact List.mem_append_left _ (List.mem_flatten.mpr ⟨arC P, List.mem_map.mpr ⟨P, hP, rfl⟩, List.mem_of_getElem? hz⟩)
theorem arrs_open {PC PO : List (List Int)} (nd : (PC.flatten ++ PO.flatten).Nodup) {P : List Int} (hP : P ∈ PO) : OpenAt (lk (arrs PC PO)) P := fun i a ha => by
  cases hb : P[i + 1]? with
  | some b =>
    refine (arrs_di nd).mem.mp ?_
    unfold arrs
    exact List.mem_append_right _ (List.mem_flatten.mpr ⟨arO P, List.mem_map.mpr ⟨P, hP, rfl⟩, List.mem_of_getElem? (arO_get.mpr ⟨ha, hb⟩)⟩)
  | none =>
    cases e : lk (arrs PC PO) a with
    | none => rfl
    | some b =>
      have hm := (arrs_di nd).mem.mpr e
      unfold arrs at hm
      obtain ⟨n1, n2, n3⟩ := List.nodup_append.mp nd
      have haP : a ∈ PO.flatten := List.mem_flatten.mpr ⟨P, hP, List.mem_of_getElem? ha⟩
      rcases List.mem_append.mp hm with hm | hm
      · have h1 := List.mem_map_of_mem (f := (·.1)) hm
        rw [keys_flat] at h1
        exact absurd rfl (n3 a h1 a haP)
      · obtain ⟨A, hA, hm⟩ := List.mem_flatten.mp hm
        obtain ⟨Q, hQ, rfl⟩ := List.mem_map.mp hA
        obtain ⟨j, hj⟩ := List.getElem?_of_mem hm
        obtain ⟨h1, h2⟩ := arO_get.mp hj
        obtain ⟨p, hp⟩ := List.getElem?_of_mem hP
        obtain ⟨q, hq⟩ := List.getElem?_of_mem hQ
        obtain ⟨hpq, hij⟩ := flat_uniq n2 hp hq ha h1
        subst hpq
        rw [hp] at hq
        cases hq
        rw [hij] at hb
        dsimp only at h2
        rw [hb] at h2
        cases h2
/-- what is found is a root -/
theorem root_pow {n : Int} {f g : PF} {d : Nat} (w : WF n f) (wg : WF n g) (hd : 1 ≤ d) (h : ∀ x, 0 ≤ x → x < n → iter g d x = f x) : pN n g d = f := by
  obtain ⟨k, rfl⟩ : ∃ k, d = k + 1 := ⟨d - 1, by omega⟩
  rw [pN_succ]
  funext x
  by_cases hx : 0 ≤ x ∧ x < n
  · exact h x hx.1 hx.2
  · rw [iter_out wg hx (by omega)]
    cases e : f x with
    | none => rfl
    | some y => have := w.dom x y e; exact absurd ⟨this.1, this.2.1⟩ hx
end My
set_option maxHeartbeats 1000000
namespace My
open PM U
/-! ### where a cycle's places go -/
theorem widx {s d L i j t u : Nat} (hs : s ∣ d) (h1 : Nat.Coprime L (d / s)) (s0 : 0 < s) (hi : i < s) (hj : j < s) (ht : t < L) (hu : u < L) (h : (i + t * d) % (s * L) = (j + u * d) % (s * L)) : i = j ∧ t = u := by
  obtain ⟨c, rfl⟩ := hs
  rw [Nat.mul_div_cancel_left _ s0] at h1
  have e1 : ∀ a b : Nat, (a + b * (s * c)) % (s * L) % s = a % s := fun a b => by
    rw [Nat.mod_mul_right_mod, show a + b * (s * c) = a + s * (b * c) by rw [Nat.mul_left_comm], Nat.add_mul_mod_self_left]
  have hij : i = j := by
    have : (i + t * (s * c)) % (s * L) % s = (j + u * (s * c)) % (s * L) % s := congrArg (· % s) h
    rw [e1, e1, Nat.mod_eq_of_lt hi, Nat.mod_eq_of_lt hj] at this
    exact this
  subst hij
  refine ⟨rfl, ?_⟩
  have key : ∀ a b : Nat, a < L → b < L → a ≤ b → (i + a * (s * c)) % (s * L) = (i + b * (s * c)) % (s * L) → a = b := fun a b ha hb hab he => by
    have h2 := Nat.sub_mod_eq_zero_of_mod_eq he.symm
    have h3 : i + b * (s * c) - (i + a * (s * c)) = s * ((b - a) * c) := by
      rw [Nat.add_sub_add_left, ← Nat.sub_mul, Nat.mul_left_comm]
    rw [h3] at h2
    have h4 : L ∣ (b - a) * c := Nat.dvd_of_mul_dvd_mul_left s0 (Nat.dvd_of_mod_eq_zero h2)
    have h5 : L ∣ b - a := Nat.Coprime.dvd_of_dvd_mul_right h1 h4
    rcases Nat.eq_zero_or_pos (b - a) with h6 | h6
    · omega
    · have := Nat.le_of_dvd h6 h5
      omega
  by_cases hab : t ≤ u
  · exact key t u ht hu hab h
  · exact (key u t hu ht (by omega) h.symm).symm
theorem all_hit {l : List Nat} {m : Nat} (nd : l.Nodup) (h : ∀ x ∈ l, x < m) (hl : l.length = m) : ∀ q, q < m → q ∈ l := fun q hq => by
  refine Decidable.byContradiction fun z => ?_
  have h1 : (q :: l).Nodup := List.nodup_cons.mpr ⟨z, nd⟩
  have h2 : ((q :: l).map fun (k : Nat) => (k : Int)).Nodup := by
    refine List.Pairwise.map _ (fun a b hab => ?_) h1
    intro e
    exact hab (by omega)
  have h3 := len_range (n := (m : Int)) h2 fun x hx => by
    obtain ⟨k, hk, rfl⟩ := List.mem_map.mp hx
    rcases List.mem_cons.mp hk with rfl | hk
    · omega
    · have := h k hk; omega
  rw [List.length_map, List.length_cons, hl] at h3
  omega
def idxs (s d L : Nat) : List Nat := (List.range s).flatMap fun i => (List.range L).map fun t => (i + t * d) % (s * L)
theorem idxs_len (s d L : Nat) : (idxs s d L).length = s * L := by
  unfold idxs
  rw [List.length_flatMap]
  have : ∀ n : Nat, ((List.range n).map fun i => ((List.range L).map fun t => (i + t * d) % (s * L)).length).sum = n * L := fun n => by
    induction n with
    | zero => simp
    | succ n ih => rw [List.range_succ, List.map_append, List.sum_append, ih, Nat.succ_mul]; simp
  exact this s
theorem surj {s d L : Nat} (hs : s ∣ d) (h1 : Nat.Coprime L (d / s)) (s0 : 0 < s) (L0 : 0 < L) {q : Nat} (hq : q < s * L) : ∃ i t, i < s ∧ t < L ∧ (i + t * d) % (s * L) = q := by
  have hm : q ∈ idxs s d L := by
    refine all_hit ?_ (fun x hx => ?_) (idxs_len s d L) q hq
    · unfold idxs
      show List.Pairwise (· ≠ ·) _
      rw [List.pairwise_flatMap]
      refine ⟨fun i hi => ?_, ?_⟩
      · rw [List.pairwise_map]
        refine List.Pairwise.imp_of_mem (fun {a b} ha hb hab => ?_) (List.nodup_range (n := L))
        intro e
        exact hab (widx hs h1 s0 (List.mem_range.mp hi) (List.mem_range.mp hi) (List.mem_range.mp ha) (List.mem_range.mp hb) e).2
      · refine List.Pairwise.imp_of_mem (fun {a b} ha hb hab => ?_) (List.nodup_range (n := s))
        intro x hx y hy e
        obtain ⟨t, ht, rfl⟩ := List.mem_map.mp hx
        obtain ⟨u, hu, rfl⟩ := List.mem_map.mp hy
        exact hab (widx hs h1 s0 (List.mem_range.mp ha) (List.mem_range.mp hb) (List.mem_range.mp ht) (List.mem_range.mp hu) e).1
    · unfold idxs at hx
      obtain ⟨i, hi, hx⟩ := List.mem_flatMap.mp hx
      obtain ⟨t, ht, rfl⟩ := List.mem_map.mp hx
      exact Nat.mod_lt _ (Nat.mul_pos s0 L0)
  unfold idxs at hm
  obtain ⟨i, hi, hx⟩ := List.mem_flatMap.mp hm
  obtain ⟨t, ht, e⟩ := List.mem_map.mp hx
  exact ⟨i, t, List.mem_range.mp hi, List.mem_range.mp ht, e⟩
end My
set_option maxHeartbeats 1000000
namespace My
open PM U
/-! ### the group's size -/
theorem grR_dvd : ∀ (f r L : Nat), grR f r L ∣ r
  | 0, r, L => Nat.dvd_refl r
  | f + 1, r, L => by
    show (if 1 < Nat.gcd r L then grR f (r / Nat.gcd r L) L else r) ∣ r
    split
    · exact Nat.dvd_trans (grR_dvd f _ L) (Nat.div_dvd_of_dvd (Nat.gcd_dvd_left r L))
    · exact Nat.dvd_refl r
theorem grR_cop : ∀ (f r L : Nat), r ≤ f → 1 ≤ r → Nat.gcd (grR f r L) L ≤ 1
  | 0, r, L, h, h1 => by omega
  | f + 1, r, L, h, h1 => by
    show Nat.gcd (if 1 < Nat.gcd r L then grR f (r / Nat.gcd r L) L else r) L ≤ 1
    by_cases hg : 1 < Nat.gcd r L
    · rw [if_pos hg]
      have hlt : r / Nat.gcd r L < r := Nat.div_lt_self h1 hg
      exact grR_cop f _ L (by omega) (Nat.div_pos (Nat.gcd_le_left _ h1) (by omega))
    · rw [if_neg hg]; omega
theorem grS_dvd (L d : Nat) : grS L d ∣ d := Nat.div_dvd_of_dvd (grR_dvd d d L)
theorem grS_pos' {L d : Nat} (hd : 1 ≤ d) : 1 ≤ grS L d := Nat.div_pos (Nat.le_of_dvd hd (grR_dvd d d L)) (Nat.pos_of_dvd_of_pos (grR_dvd d d L) hd)
theorem grS_cop {L d : Nat} (hL : 1 ≤ L) (hd : 1 ≤ d) : Nat.Coprime L (d / grS L d) := by
  unfold grS
  rw [Nat.div_div_self (grR_dvd d d L) (by omega)]
  have h1 := grR_cop d d L (Nat.le_refl _) hd
  have h2 : 0 < Nat.gcd (grR d d L) L := Nat.gcd_pos_of_pos_right _ hL
  rw [Nat.coprime_iff_gcd_eq_one, Nat.gcd_comm]
  omega
/-! ### rows in order of their length -/
def cntL (Ls : List (List Int)) (L : Nat) : Nat := Ls.countP fun r => decide (r.length = L)
theorem pre_take {p : List Int → Bool} : ∀ {left : List (List Int)}, left.Pairwise (fun a b => p b = true → p a = true) → ∀ k, k ≤ left.countP p → ∀ x ∈ left.take k, p x = true
  | [], _, k, hk, x, hx => by rw [List.take_nil] at hx; cases hx
  | a :: t, h, 0, hk, x, hx => by rw [List.take_zero] at hx; cases hx
  | a :: t, h, k + 1, hk, x, hx => by
    rw [List.pairwise_cons] at h
    rw [List.take_succ_cons] at hx
    have ha : p a = true := by
      have hpos : 0 < (a :: t).countP p := by omega
      obtain ⟨b, hb, hpb⟩ := List.countP_pos_iff.mp hpos
      rcases List.mem_cons.mp hb with rfl | hb
      · exact hpb
      · exact h.1 b hb hpb
    rcases List.mem_cons.mp hx with rfl | hx
    · exact ha
    · refine pre_take h.2 k ?_ x hx
      rw [List.countP_cons_of_pos ha] at hk
      omega
theorem cntL_all {Ls : List (List Int)} {L M : Nat} (h : ∀ r ∈ Ls, r.length = L) : cntL Ls M = if M = L then Ls.length else 0 := by
  unfold cntL
  by_cases hM : M = L
  · rw [if_pos hM, List.countP_eq_length]
    intro r hr
    rw [h r hr, hM]
    exact decide_eq_true rfl
  · rw [if_neg hM, List.countP_eq_zero]
    intro r hr
    rw [h r hr]
    simpa using fun z : L = M => hM z.symm
theorem cntL_app (A B : List (List Int)) (L : Nat) : cntL (A ++ B) L = cntL A L + cntL B L := List.countP_append ..
theorem cntL_le (A : List (List Int)) (L : Nat) : cntL A L ≤ A.length := List.countP_le_length
/-- cycles, the shortest first, that a root's cycles leave -/
structure GoodC (d : Nat) (left : List (List Int)) : Prop where
  so : left.Pairwise (fun a b => a.length ≤ b.length)
  ne : ∀ r ∈ left, 1 ≤ r.length
  dv : ∀ L, 1 ≤ L → grS L d ∣ cntL left L
theorem goodC_cut {d : Nat} {r : List Int} {rest : List (List Int)} (hd : 1 ≤ d) (h : GoodC d (r :: rest)) : ((r :: rest).take (grS r.length d)).length = grS r.length d ∧ (∀ x ∈ (r :: rest).take (grS r.length d), x.length = r.length) ∧ GoodC d ((r :: rest).drop (grS r.length d)) := by
  have hr := h.ne r List.mem_cons_self
  have hle : ∀ x ∈ r :: rest, r.length ≤ x.length := fun x hx => by
    rcases List.mem_cons.mp hx with rfl | hx
    · exact Nat.le_refl _
    · exact (List.pairwise_cons.mp h.so).1 x hx
  generalize hl : r :: rest = left at h hle ⊢
  have hpos : 0 < cntL left r.length := by
    rw [← hl]
    exact List.countP_pos_iff.mpr ⟨r, List.mem_cons_self, decide_eq_true rfl⟩
  have hs : grS r.length d ≤ cntL left r.length := Nat.le_of_dvd hpos (h.dv _ hr)
  have hpt : ∀ x ∈ left.take (grS r.length d), x.length = r.length := fun x hx => by
    have := pre_take (p := fun x => decide (x.length = r.length)) (left := left) (h.so.imp_of_mem fun {a b} ha hb hab hpb => ?_) _ hs x hx
    · exact of_decide_eq_true this
    · have h1 := of_decide_eq_true hpb
      have h2 := hle a ha
      exact decide_eq_true (by omega)
  have hln : (left.take (grS r.length d)).length = grS r.length d := by
    rw [List.length_take]
    have := cntL_le left r.length
    omega
  refine ⟨hln, hpt, ⟨h.so.sublist (List.drop_sublist _ _), fun x hx => h.ne x (List.mem_of_mem_drop hx), fun L hL => ?_⟩⟩
  have h1 := h.dv L hL
  have h2 := cntL_app (left.take (grS r.length d)) (left.drop (grS r.length d)) L
  rw [List.take_append_drop, cntL_all hpt, hln] at h2
  rw [h2] at h1
  refine (Nat.dvd_add_right ?_).mp h1
  by_cases hLr : L = r.length
  · rw [if_pos hLr, hLr]; exact Nat.dvd_refl _
  · rw [if_neg hLr]; exact Nat.dvd_zero _
/-! ### chains laid one turn behind the other -/
def colT (G : List (List Int)) (t : Nat) : List Int := G.filterMap fun r => r[t]?
def layP (G : List (List Int)) (k : Nat) : List Int := (List.range k).flatMap fun t => colT G t
theorem layP_succ (G : List (List Int)) (k : Nat) : layP G (k + 1) = layP G k ++ colT G k := by
  unfold layP
  rw [List.range_succ, List.flatMap_append]
  simp
theorem col_full : ∀ {G : List (List Int)} {t : Nat}, (∀ r ∈ G, t < r.length) → (colT G t).length = G.length ∧ ∀ (i : Nat) (r : List Int), G[i]? = some r → (colT G t)[i]? = r[t]?
  | [], t, h => ⟨rfl, fun i r hr => by cases hr⟩
  | a :: G, t, h => by
    obtain ⟨h1, h2⟩ := col_full (G := G) (t := t) fun r hr => h r (List.mem_cons_of_mem _ hr)
    have ha : a[t]? = some (a[t]'(h a List.mem_cons_self)) := List.getElem?_eq_getElem _
    have e : colT (a :: G) t = a[t]'(h a List.mem_cons_self) :: colT G t := by
      unfold colT
      rw [List.filterMap_cons, ha]
    rw [e]
    refine ⟨by rw [List.length_cons, h1, List.length_cons], fun i r hr => ?_⟩
    cases i with
    | zero => rw [List.getElem?_cons_zero] at hr ⊢; cases hr; exact ha.symm
    | succ i => rw [List.getElem?_cons_succ] at hr ⊢; exact h2 i r hr
theorem col_none {G : List (List Int)} {t : Nat} (h : ∀ r ∈ G, r.length ≤ t) : colT G t = [] := by
  unfold colT
  rw [List.filterMap_eq_nil_iff]
  intro r hr
  exact List.getElem?_eq_none (h r hr)
theorem col_app (A B : List (List Int)) (t : Nat) : colT (A ++ B) t = colT A t ++ colT B t := List.filterMap_append ..
theorem lay_len {A B : List (List Int)} {l : Nat} (hA : ∀ r ∈ A, r.length = l) (hB : ∀ r ∈ B, r.length + 1 = l) : ∀ k, k + 1 ≤ l → (layP (A ++ B) k).length = k * (A.length + B.length)
  | 0, _ => by unfold layP; simp
  | k + 1, h => by
    have h1 := (col_full (G := A ++ B) (t := k) fun r hr => by
      rcases List.mem_append.mp hr with hr | hr
      · have := hA r hr; omega
      · have := hB r hr; omega).1
    rw [layP_succ, List.length_append, lay_len hA hB k (by omega), h1, List.length_append, Nat.succ_mul]
theorem lay_last {A B : List (List Int)} {l : Nat} (hA : ∀ r ∈ A, r.length = l + 1) (hB : ∀ r ∈ B, r.length + 1 = l + 1) : colT (A ++ B) l = colT A l := by
  rw [col_app, col_none (G := B) fun r hr => by have := hB r hr; omega, List.append_nil]
theorem lay_laid {A B : List (List Int)} {l d : Nat} (hl : 1 ≤ l) (hA : ∀ r ∈ A, r.length = l) (hB : ∀ r ∈ B, r.length + 1 = l) (hd : A.length + B.length = d) : Laid (A ++ B) d (layP (A ++ B) l) := by
  obtain ⟨l, rfl⟩ : ∃ m, l = m + 1 := ⟨l - 1, by omega⟩
  have hlen : (layP (A ++ B) (l + 1)).length = l * d + A.length := by
    rw [layP_succ, List.length_append, lay_len hA hB l (Nat.le_refl _), lay_last hA hB, hd, (col_full fun r hr => by have := hA r hr; omega).1]
  have all : ∀ (i : Nat) (r : List Int), (A ++ B)[i]? = some r → i < d ∧ ((i < A.length ∧ r.length = l + 1) ∨ (A.length ≤ i ∧ r.length = l)) := fun i r hr => by
    have hi := (List.getElem?_eq_some_iff.mp hr).1
    rw [List.length_append] at hi
    refine ⟨by omega, ?_⟩
    by_cases h : i < A.length
    · rw [List.getElem?_append_left h] at hr
      exact .inl ⟨h, hA r (List.mem_of_getElem? hr)⟩
    · rw [List.getElem?_append_right (by omega)] at hr
      have := hB r (List.mem_of_getElem? hr)
      exact .inr ⟨by omega, by omega⟩
  have at_ : ∀ (k : Nat), k ≤ l + 1 → ∀ (i : Nat) (r : List Int) (t : Nat) (a : Int), t < k → (A ++ B)[i]? = some r → r[t]? = some a → (layP (A ++ B) k)[t * d + i]? = some a := by
    intro k
    induction k with
    | zero => intro _ i r t a ht; omega
    | succ k ih =>
      intro hk i r t a ht hr ha
      obtain ⟨hid, hcase⟩ := all i r hr
      have hpl := lay_len hA hB k (by omega)
      rw [hd] at hpl
      rw [layP_succ]
      by_cases htk : t < k
      · have h1 : t * d + i < k * d := by
          have : (t + 1) * d ≤ k * d := Nat.mul_le_mul_right d htk
          rw [Nat.succ_mul] at this
          omega
        rw [List.getElem?_append_left (by rw [hpl]; exact h1)]
        exact ih (by omega) i r t a htk hr ha
      · have e : t = k := by omega
        subst e
        rw [List.getElem?_append_right (by rw [hpl]; omega), hpl, Nat.add_sub_cancel_left]
        have htr := (List.getElem?_eq_some_iff.mp ha).1
        by_cases hlast : t = l
        · subst hlast
          rw [lay_last hA hB]
          rcases hcase with ⟨h1, h2⟩ | ⟨h1, h2⟩
          · rw [List.getElem?_append_left h1] at hr
            rw [(col_full (G := A) (t := t) fun r hr => by have := hA r hr; omega).2 i r hr]
            exact ha
          · omega
        · rw [(col_full (G := A ++ B) (t := t) fun r hr => by
            rcases List.mem_append.mp hr with hr | hr
            · have := hA r hr; omega
            · have := hB r hr; omega).2 i r hr]
          exact ha
  refine ⟨fun i r t a hr ha => ?_, fun i r hr => ?_⟩
  · have htr := (List.getElem?_eq_some_iff.mp ha).1
    obtain ⟨_, hcase⟩ := all i r hr
    exact at_ (l + 1) (Nat.le_refl _) i r t a (by rcases hcase with h | h <;> omega) hr ha
  · rw [hlen]
    obtain ⟨hid, h | h⟩ := all i r hr
    · rw [h.2, Nat.succ_mul]; omega
    · rw [h.2]; omega
/-! ### groups of chains -/
inductive NoFail (d : Nat) : List (List Int) → Prop
  | nil : NoFail d []
  | one {r : List Int} {rest : List (List Int)} : r.length = 1 → NoFail d rest → NoFail d (r :: rest)
  | grp {A B rest : List (List Int)} {l : Nat} : 2 ≤ l → A ≠ [] → (∀ r ∈ A, r.length = l) → (∀ r ∈ B, r.length + 1 = l) → A.length + B.length = d → NoFail d rest → NoFail d (A ++ B ++ rest)
theorem noFail_ones {d : Nat} : ∀ {left : List (List Int)}, (∀ r ∈ left, r.length = 1) → NoFail d left
  | [], _ => .nil
  | r :: rest, h => .one (h r List.mem_cons_self) (noFail_ones fun x hx => h x (List.mem_cons_of_mem _ hx))
end My
set_option maxHeartbeats 1000000
namespace My
open PM U
theorem top_take {left : List (List Int)} {K : Nat} (so : left.Pairwise (fun a b => b.length ≤ a.length)) (h : ∀ r ∈ left, r.length ≤ K) {j : Nat} (hj : j ≤ cntL left K) : (left.take j).length = j ∧ (∀ x ∈ left.take j, x.length = K) ∧ ∀ M, cntL (left.drop j) M = cntL left M - (if M = K then j else 0) := by
  have hp : ∀ x ∈ left.take j, x.length = K := fun x hx => by
    have := pre_take (p := fun x => decide (x.length = K)) (left := left) (so.imp_of_mem fun {a b} ha hb hab hpb => by
      have h1 := of_decide_eq_true hpb
      have h2 := h a ha
      exact decide_eq_true (by omega)) j hj x hx
    exact of_decide_eq_true this
  have hl : (left.take j).length = j := by
    rw [List.length_take]
    have := cntL_le left K
    omega
  refine ⟨hl, hp, fun M => ?_⟩
  have h2 := cntL_app (left.take j) (left.drop j) M
  rw [List.take_append_drop, cntL_all hp, hl] at h2
  rw [h2, Nat.add_sub_cancel_left]
theorem noFail_of {F : PF} {d : Nat} (hd : 1 ≤ d) : ∀ (k N : Nat) (left : List (List Int)) (c : Int), left.length ≤ N → left.Pairwise (fun a b => b.length ≤ a.length) → (∀ r ∈ left, 1 ≤ r.length ∧ r.length ≤ k) →
    ((cntL left k : Nat) : Int) = (F (k : Int)).getD 0 - c → (∀ j : Nat, 1 ≤ j → j < k → ((cntL left j : Nat) : Int) = (F (j : Int)).getD 0) → fcF F d k c = none → NoFail d left
  | 0, N, left, c, hN, so, hb, h1, h2, hf => by
    cases left with
    | nil => exact .nil
    | cons r t => have := hb r List.mem_cons_self; omega
  | 1, N, left, c, hN, so, hb, h1, h2, hf => noFail_ones fun r hr => by have := hb r hr; omega
  | k + 2, 0, left, c, hN, so, hb, h1, h2, hf => by
    cases left with
    | nil => exact .nil
    | cons r t => rw [List.length_cons] at hN; omega
  | k + 2, N + 1, left, c, hN, so, hb, h1, h2, hf => by
    have e2 : ((k + 2 : Nat) : Int) = (k : Int) + 2 := rfl
    have e1 : ((k + 1 : Nat) : Int) = (k : Int) + 1 := rfl
    rw [e2] at h1
    by_cases hm : d ≤ cntL left (k + 2)
    · obtain ⟨t1, t2, t3⟩ := top_take so (fun r hr => (hb r hr).2) hm
      have hne : left.take d ≠ [] := fun z => by rw [z] at t1; simp at t1; omega
      have hrest : NoFail d (left.drop d) := by
        refine noFail_of (F := F) hd (k + 2) N (left.drop d) (c + d) ?_ (so.sublist (List.drop_sublist _ _)) (fun r hr => hb r (List.mem_of_mem_drop hr)) ?_ (fun j j1 j2 => ?_) ?_
        · rw [List.length_drop]
          have := cntL_le left (k + 2)
          omega
        · rw [t3, if_pos rfl, e2]
          omega
        · rw [t3, if_neg (by omega), Nat.sub_zero]
          exact h2 j j1 j2
        · have e : ((F ((k : Int) + 2)).getD 0 - (c + d)) % (d : Int) = ((F ((k : Int) + 2)).getD 0 - c) % (d : Int) := by
            rw [show (F ((k : Int) + 2)).getD 0 - (c + d) = (F ((k : Int) + 2)).getD 0 - c + (d : Int) * (-1) by omega, Int.add_mul_emod_self_left]
          unfold fcF at hf ⊢
          dsimp only at hf ⊢
          rw [e]
          exact hf
      have := NoFail.grp (l := k + 2) (A := left.take d) (B := []) (rest := left.drop d) (by omega) hne t2 (fun r hr => nomatch hr) (by rw [t1]; rfl) hrest
      rw [List.append_nil, List.take_append_drop] at this
      exact this
    · have hmd : cntL left (k + 2) < d := by omega
      have hover : ((F ((k : Int) + 2)).getD 0 - c) % (d : Int) = (cntL left (k + 2) : Nat) := by
        rw [← h1]
        exact Int.emod_eq_of_lt (by omega) (by omega)
      unfold fcF at hf
      dsimp only at hf
      rw [hover] at hf
      by_cases h0 : cntL left (k + 2) = 0
      · rw [h0, if_neg (by omega)] at hf
        have hb' : ∀ r ∈ left, 1 ≤ r.length ∧ r.length ≤ k + 1 := fun r hr => by
          have h3 := hb r hr
          refine ⟨h3.1, ?_⟩
          have : r.length ≠ k + 2 := fun z => by
            have := List.countP_eq_zero.mp h0 r hr
            exact this (decide_eq_true z)
          omega
        refine noFail_of (F := F) hd (k + 1) left.length left 0 (Nat.le_refl _) so hb' ?_ (fun j j1 j2 => h2 j j1 (by omega)) hf
        have := h2 (k + 1) (by omega) (by omega)
        rw [this]
        omega
      · rw [if_pos (by omega)] at hf
        have hF1 := h2 (k + 1) (by omega) (by omega)
        rw [e1] at hF1
        by_cases hlt : (F ((k : Int) + 1)).getD 0 < (d : Int) - (cntL left (k + 2) : Nat)
        · rw [if_pos hlt] at hf
          cases hf
        · rw [if_neg hlt] at hf
          obtain ⟨t1, t2, t3⟩ := top_take so (fun r hr => (hb r hr).2) (Nat.le_refl (cntL left (k + 2)))
          have hne : left.take (cntL left (k + 2)) ≠ [] := fun z => by rw [z] at t1; simp at t1; omega
          have so1 : (left.drop (cntL left (k + 2))).Pairwise (fun a b => b.length ≤ a.length) := so.sublist (List.drop_sublist _ _)
          have hb1 : ∀ r ∈ left.drop (cntL left (k + 2)), 1 ≤ r.length ∧ r.length ≤ k + 1 := fun r hr => by
            have h3 := hb r (List.mem_of_mem_drop hr)
            refine ⟨h3.1, ?_⟩
            have hz : cntL (left.drop (cntL left (k + 2))) (k + 2) = 0 := by rw [t3, if_pos rfl, Nat.sub_self]
            have : r.length ≠ k + 2 := fun z => by
              have := List.countP_eq_zero.mp hz r hr
              exact this (decide_eq_true z)
            omega
          have hc1 : cntL (left.drop (cntL left (k + 2))) (k + 1) = cntL left (k + 1) := by rw [t3, if_neg (by omega), Nat.sub_zero]
          generalize hR : left.drop (cntL left (k + 2)) = rest1 at so1 hb1 hc1 t3
          obtain ⟨u1, u2, u3⟩ := top_take so1 (fun r hr => (hb1 r hr).2) (j := d - cntL left (k + 2)) (by rw [hc1]; omega)
          have hrest : NoFail d (rest1.drop (d - cntL left (k + 2))) := by
            refine noFail_of (F := F) hd (k + 1) _ (rest1.drop (d - cntL left (k + 2))) ((d : Int) - (cntL left (k + 2) : Nat)) (Nat.le_refl _) (so1.sublist (List.drop_sublist _ _)) (fun r hr => hb1 r (List.mem_of_mem_drop hr)) ?_ (fun j j1 j2 => ?_) hf
            · rw [u3, if_pos rfl, hc1, e1]
              omega
            · rw [u3, if_neg (by omega), Nat.sub_zero, t3, if_neg (by omega), Nat.sub_zero]
              exact h2 j j1 (by omega)
          have := NoFail.grp (l := k + 2) (A := left.take (cntL left (k + 2))) (B := rest1.take (d - cntL left (k + 2))) (rest := rest1.drop (d - cntL left (k + 2))) (by omega) hne t2 (fun r hr => by rw [u2 r hr]) (by rw [t1, u1]; omega) hrest
          rw [List.append_assoc, List.take_append_drop, ← hR, List.take_append_drop] at this
          exact this
end My
set_option maxHeartbeats 1000000
namespace My
open PM
/-! ### powers have no obstacle -/
theorem grR_pow : ∀ (f r L : Nat), 1 ≤ r → ∃ k, r / grR f r L ∣ L ^ k
  | 0, r, L, h => ⟨0, by show r / r ∣ _; rw [Nat.div_self h]; exact Nat.one_dvd _⟩
  | f + 1, r, L, h => by
    show ∃ k, r / (if 1 < Nat.gcd r L then grR f (r / Nat.gcd r L) L else r) ∣ L ^ k
    by_cases hg : 1 < Nat.gcd r L
    · rw [if_pos hg]
      have hp : 1 ≤ r / Nat.gcd r L := Nat.div_pos (Nat.gcd_le_left _ h) (by omega)
      obtain ⟨k, hk⟩ := grR_pow f (r / Nat.gcd r L) L hp
      refine ⟨k + 1, ?_⟩
      have e : r / grR f (r / Nat.gcd r L) L = Nat.gcd r L * (r / Nat.gcd r L / grR f (r / Nat.gcd r L) L) := by
        have h1 := Nat.mul_div_cancel' (Nat.gcd_dvd_left r L)
        rw [← Nat.mul_div_assoc _ (grR_dvd f _ L), h1]
      rw [e, Nat.pow_succ, Nat.mul_comm (L ^ k) L]
      exact Nat.mul_dvd_mul (Nat.gcd_dvd_right r L) hk
    · rw [if_neg hg]
      exact ⟨0, by rw [Nat.div_self h]; exact Nat.one_dvd _⟩
theorem grS_dvd_of {L d s : Nat} (hd : 1 ≤ d) (hs : s ∣ d) (hc : Nat.Coprime L (d / s)) : grS L d ∣ s := by
  obtain ⟨k, hk⟩ := grR_pow d d L hd
  have h1 : Nat.Coprime (L ^ k) (d / s) := hc.pow_left k
  have h2 : Nat.Coprime (grS L d) (d / s) := Nat.Coprime.coprime_dvd_left hk h1
  refine Nat.Coprime.dvd_of_dvd_mul_right h2 ?_
  rw [Nat.mul_div_cancel' hs]
  exact grS_dvd L d
theorem grS_gcd {M d : Nat} (hM : 1 ≤ M) (hd : 1 ≤ d) : grS (M / Nat.gcd M d) d ∣ Nat.gcd M d :=
  grS_dvd_of hd (Nat.gcd_dvd_right M d) (Nat.coprime_div_gcd_div_gcd (Nat.gcd_pos_of_pos_left _ hM))
theorem sum_dvd {d : Int} {α : Type} {φ : α → Int} : ∀ {l : List α}, (∀ x ∈ l, d ∣ φ x) → d ∣ (l.map φ).sum
  | [], _ => Int.dvd_zero _
  | x :: r, h => by
    rw [List.map_cons, List.sum_cons]
    exact Int.dvd_add (h x (List.mem_cons_self ..)) (sum_dvd fun y hy => h y (List.mem_cons_of_mem _ hy))
theorem cyc_term {M d : Nat} (hM : 1 ≤ M) (hd : 1 ≤ d) (x : Int) : ((grS x.toNat d : Nat) : Int) ∣ cφ (d : Int) (dl x) (M : Int) := by
  unfold cφ dl
  rw [gI_nat, ← Int.natCast_ediv]
  by_cases h : ((M / Nat.gcd M d : Nat) : Int) = x
  · rw [if_pos h, Int.mul_one, ← h, Int.toNat_natCast]
    exact Int.natCast_dvd_natCast.mpr (grS_gcd hM hd)
  · rw [if_neg h, Int.mul_zero]
    exact Int.dvd_zero _
theorem cyc_dvd {n : Int} {g : PF} (w : WF n g) {d : Nat} (hd : 1 ≤ d) (x : Int) : ((grS x.toNat d : Nat) : Int) ∣ bag (ones (lens (iter g d) (cycS n (iter g d)))) x := by
  rw [cyc_pow w hd, wsum_ones]
  refine sum_dvd fun M hM => ?_
  obtain ⟨e, he, rfl⟩ := List.mem_map.mp hM
  have hd' := cycS_dom he
  exact cyc_term (row_pos w hd'.1 hd'.2) hd x
/-- the rule for chains never fails where each length is made of groups -/
theorem fcF_none {F : PF} {d : Int} (hd : 0 < d) (a b : Int → Int) (h : ∀ j : Nat, 1 ≤ j → (F (j : Int)).getD 0 = a j + b j) (ha : ∀ j, 0 ≤ a j) (hb : ∀ j, 0 ≤ b j) (hab : ∀ j : Nat, 1 ≤ j → d ∣ b j + a ((j : Int) + 1)) :
    ∀ (k : Nat) (c : Int), d ∣ c + a ((k : Int) + 1) → 0 ≤ c → c < d → fcF F d k c = none
  | 0, _, _, _, _ => rfl
  | 1, _, _, _, _ => rfl
  | k + 2, c, hc, c0, c1 => by
    show (if 0 < ((F ((k : Int) + 2)).getD 0 - c) % d then (if (F ((k : Int) + 1)).getD 0 < d - ((F ((k : Int) + 2)).getD 0 - c) % d then some ((k : Int) + 2) else fcF F d (k + 1) (d - ((F ((k : Int) + 2)).getD 0 - c) % d)) else fcF F d (k + 1) 0) = none
    have h2 := h (k + 2) (by omega)
    have h1 := h (k + 1) (by omega)
    have e2 : ((k + 2 : Nat) : Int) = (k : Int) + 2 := by omega
    have e1 : ((k + 1 : Nat) : Int) = (k : Int) + 1 := by omega
    have b2 := hab (k + 2) (by omega)
    have b1 := hab (k + 1) (by omega)
    rw [e2] at h2 b2 hc
    rw [e1] at h1 b1
    rw [show (k : Int) + 1 + 1 = (k : Int) + 2 by omega] at b1
    obtain ⟨u, hu⟩ := hc
    obtain ⟨v, hv⟩ := b2
    obtain ⟨w, hw⟩ := b1
    have ho : ((F ((k : Int) + 2)).getD 0 - c) % d = a ((k : Int) + 2) % d := by
      rw [h2, show a ((k : Int) + 2) + b ((k : Int) + 2) - c = a ((k : Int) + 2) + d * (v - u) by rw [Int.mul_sub, ← hu, ← hv]; omega, Int.add_mul_emod_self_left]
    rw [ho]
    have hq := Int.mul_ediv_add_emod (a ((k : Int) + 2)) d
    have hr := Int.emod_lt_of_pos (a ((k : Int) + 2)) hd
    have hr0 := Int.emod_nonneg (a ((k : Int) + 2)) (b := d) (by omega)
    generalize a ((k : Int) + 2) / d = q at hq
    generalize hor : a ((k : Int) + 2) % d = over at hq hr hr0
    by_cases hpos : 0 < over
    · rw [if_pos hpos]
      have hbk := hb ((k : Int) + 1)
      have hak := ha ((k : Int) + 1)
      have hz : b ((k : Int) + 1) = d * (w - q) - over := by rw [Int.mul_sub, ← hw]; omega
      have hz1 : 1 ≤ w - q := by
        refine Decidable.byContradiction fun z => ?_
        have : d * (w - q) ≤ 0 := Int.mul_nonpos_of_nonneg_of_nonpos (by omega) (by omega)
        omega
      have hz2 : d * 1 ≤ d * (w - q) := Int.mul_le_mul_of_nonneg_left hz1 (by omega)
      rw [Int.mul_one] at hz2
      rw [if_neg (by omega)]
      refine fcF_none hd a b h ha hb hab (k + 1) _ ?_ (by omega) (by omega)
      rw [e1, show (k : Int) + 1 + 1 = (k : Int) + 2 by omega]
      refine ⟨q + 1, ?_⟩
      rw [Int.mul_add, Int.mul_one]
      omega
    · rw [if_neg hpos]
      refine fcF_none hd a b h ha hb hab (k + 1) 0 ?_ (by omega) (by omega)
      rw [e1, show (k : Int) + 1 + 1 = (k : Int) + 2 by omega]
      exact ⟨q, by omega⟩
def hA (Ls : List Nat) (d x : Int) : Int := (Ls.map fun M : Nat => ((M : Int) % d) * dl x ((M : Int) / d + 1)).sum
def hB (Ls : List Nat) (d x : Int) : Int := (Ls.map fun M : Nat => (if 0 < (M : Int) / d then d - (M : Int) % d else 0) * dl x ((M : Int) / d)).sum
theorem hAB (Ls : List Nat) (d x : Int) : (Ls.map fun M : Nat => hφ d (dl x) (M : Int)).sum = hA Ls d x + hB Ls d x := by
  unfold hA hB
  induction Ls with
  | nil => rfl
  | cons M r ih =>
    rw [List.map_cons, List.sum_cons, List.map_cons, List.sum_cons, List.map_cons, List.sum_cons, ih]
    unfold hφ
    omega
theorem sum_nn {α : Type} {φ : α → Int} : ∀ {l : List α}, (∀ x ∈ l, 0 ≤ φ x) → 0 ≤ (l.map φ).sum
  | [], _ => Int.le_refl _
  | x :: r, h => by
    rw [List.map_cons, List.sum_cons]
    have := h x (List.mem_cons_self ..)
    have := sum_nn fun y hy => h y (List.mem_cons_of_mem x hy)
    omega
theorem dl_nn (x y : Int) : 0 ≤ dl x y := by unfold dl; split <;> omega
theorem hA_nn (Ls : List Nat) {d : Int} (hd : 0 < d) (x : Int) : 0 ≤ hA Ls d x := sum_nn fun M _ => Int.mul_nonneg (Int.emod_nonneg _ (by omega)) (dl_nn _ _)
theorem hB_nn (Ls : List Nat) {d : Int} (hd : 0 < d) (x : Int) : 0 ≤ hB Ls d x := sum_nn fun M _ => Int.mul_nonneg (by
  have := Int.emod_lt_of_pos (M : Int) hd
  split <;> omega) (dl_nn _ _)
theorem hBA_dvd (Ls : List Nat) {d x : Int} (hx : 1 ≤ x) : d ∣ hB Ls d x + hA Ls d (x + 1) := by
  unfold hA hB
  induction Ls with
  | nil => exact Int.dvd_zero _
  | cons M r ih =>
    rw [List.map_cons, List.sum_cons, List.map_cons, List.sum_cons]
    generalize (r.map fun M : Nat => (if 0 < (M : Int) / d then d - (M : Int) % d else 0) * dl x ((M : Int) / d)).sum = s1 at ih
    generalize (r.map fun M : Nat => ((M : Int) % d) * dl (x + 1) ((M : Int) / d + 1)).sum = s2 at ih
    have e : (if 0 < (M : Int) / d then d - (M : Int) % d else 0) * dl x ((M : Int) / d) + (M : Int) % d * dl (x + 1) ((M : Int) / d + 1) = d * dl x ((M : Int) / d) := by
      unfold dl
      by_cases h : (M : Int) / d = x
      · rw [if_pos (show 0 < (M : Int) / d by omega), if_pos h, if_pos (show (M : Int) / d + 1 = x + 1 by omega)]; omega
      · rw [if_neg h, if_neg (show ¬ (M : Int) / d + 1 = x + 1 by omega)]; omega
    have : (if 0 < (M : Int) / d then d - (M : Int) % d else 0) * dl x ((M : Int) / d) + s1 + ((M : Int) % d * dl (x + 1) ((M : Int) / d + 1) + s2) = d * dl x ((M : Int) / d) + (s1 + s2) := by omega
    rw [this]
    exact Int.dvd_add ⟨_, rfl⟩ ih
theorem hA_big {Ls : List Nat} {d x : Int} (hd : 0 < d) (h : ∀ M ∈ Ls, (M : Int) + 1 < x) : hA Ls d x = 0 := by
  unfold hA
  induction Ls with
  | nil => rfl
  | cons M r ih =>
    rw [List.map_cons, List.sum_cons, ih fun y hy => h y (List.mem_cons_of_mem _ hy)]
    have h1 := h M (List.mem_cons_self ..)
    have h2 : (M : Int) / d ≤ M := Int.ediv_le_self _ (by omega)
    unfold dl
    rw [if_neg (by omega)]
    omega
theorem fcF_pow {n : Int} {g : PF} (w : WF n g) (hn : n ≤ 300) {d : Nat} (hd : 1 ≤ d) {F : PF} (h : ∀ j : Nat, 1 ≤ j → (F (j : Int)).getD 0 = bag (ones (lens (iter g d) (nons n (iter g d)))) j) : fcF F d 1000 0 = none := by
  refine fcF_none (by omega) (hA (lens g (nons n g)) d) (hB (lens g (nons n g)) d) (fun j hj => ?_) (hA_nn _ (by omega)) (hB_nn _ (by omega)) (fun j hj => hBA_dvd _ (by omega)) 1000 0 ?_ (Int.le_refl _) (by omega)
  · rw [h j hj, chn_pow w hd, wsum_ones, hAB]
  · rw [hA_big (by omega) fun M hM => ?_]
    · exact ⟨0, rfl⟩
    · obtain ⟨e, he, rfl⟩ := List.mem_map.mp hM
      have hd' := nons_dom he
      have := row_le w hd'.1 hd'.2.1
      show _ < ((1000 : Nat) : Int) + 1
      omega
end My
set_option maxHeartbeats 1000000
namespace My
open PM U
/-! ### the root -/
theorem flat2_perm {α β : Type} (f g : α → List β) : ∀ l : List α, (l.flatMap fun x => f x ++ g x).Perm (l.flatMap f ++ l.flatMap g)
  | [] => .refl _
  | a :: r => by
    rw [List.flatMap_cons, List.flatMap_cons, List.flatMap_cons]
    have ih := flat2_perm f g r
    refine ((List.Perm.refl (f a ++ g a)).append ih).trans ?_
    rw [List.append_assoc, List.append_assoc]
    refine (List.Perm.refl (f a)).append ?_
    rw [← List.append_assoc, ← List.append_assoc]
    exact List.perm_append_comm.append (.refl _)
theorem row_all (r : List Int) : ∀ k, ((List.range k).flatMap fun t => (r[t]?).toList) = r.take k
  | 0 => by rw [List.take_zero]; rfl
  | k + 1 => by
    rw [List.range_succ, List.flatMap_append, row_all r k, List.take_succ]
    simp
theorem colT_cons (r : List Int) (G : List (List Int)) (t : Nat) : colT (r :: G) t = (r[t]?).toList ++ colT G t := by
  unfold colT
  rw [List.filterMap_cons]
  cases r[t]? <;> rfl
theorem layP_perm : ∀ {G : List (List Int)} {k : Nat}, (∀ r ∈ G, r.length ≤ k) → (layP G k).Perm G.flatten
  | [], k, _ => by
    have : layP [] k = [] := by
      unfold layP colT
      rw [List.flatMap_eq_nil_iff]
      intro x _
      rfl
    rw [this]
    exact .refl _
  | r :: G, k, h => by
    have ih := layP_perm (G := G) (k := k) fun x hx => h x (List.mem_cons_of_mem _ hx)
    have e : layP (r :: G) k = (List.range k).flatMap fun t => (r[t]?).toList ++ colT G t := by
      unfold layP
      congr 1
      funext t
      exact colT_cons r G t
    rw [e, List.flatten_cons]
    refine (flat2_perm _ _ _).trans ?_
    rw [row_all, List.take_of_length_le (h r (List.mem_cons_self ..))]
    exact (List.Perm.refl r).append ih
/-- a group of chains that comes from one chain -/
inductive GrpOK (d : Nat) : List (List Int) → Prop
  | one {r : List Int} : r.length = 1 → GrpOK d [r]
  | grp {A B : List (List Int)} {l : Nat} : 2 ≤ l → A ≠ [] → (∀ r ∈ A, r.length = l) → (∀ r ∈ B, r.length + 1 = l) → A.length + B.length = d → GrpOK d (A ++ B)
def lay1 (G : List (List Int)) : List Int := layP G (G.headD []).length
theorem head_app {A B : List (List Int)} {l : Nat} (h0 : A ≠ []) (hA : ∀ r ∈ A, r.length = l) : ((A ++ B).headD []).length = l := by
  cases A with
  | nil => exact absurd rfl h0
  | cons a t => exact hA a (List.mem_cons_self ..)
theorem GrpOK.le {d : Nat} {G : List (List Int)} (h : GrpOK d G) : G ≠ [] ∧ ∀ r ∈ G, r.length ≤ (G.headD []).length := by
  cases h with
  | one h1 => exact ⟨(fun z => nomatch z), fun r hr => by rw [List.mem_singleton] at hr; subst hr; exact Nat.le_refl _⟩
  | grp h1 h2 h3 h4 h5 =>
    refine ⟨fun z => h2 (List.append_eq_nil_iff.mp z).1, fun r hr => ?_⟩
    rw [head_app h2 h3]
    rcases List.mem_append.mp hr with hr | hr
    · have := h3 r hr; omega
    · have := h4 r hr; omega
theorem GrpOK.pow {d : Nat} {G : List (List Int)} (h : GrpOK d G) (hd : 1 ≤ d) {g : PF} (ho : OpenAt g (lay1 G)) {i : Nat} {r : List Int} {t : Nat} {a : Int} (hr : G[i]? = some r) (ha : r[t]? = some a) : iter g d a = r[t + 1]? := by
  cases h with
  | @one r0 h1 =>
    have e : r0 = r := by
      have := List.mem_of_getElem? hr
      rw [List.mem_singleton] at this
      exact this.symm
    subst e
    obtain ⟨x, rfl⟩ : ∃ x, r0 = [x] := by
      match r0, h1 with
      | [x], _ => exact ⟨x, rfl⟩
    have hl : lay1 [[x]] = [x] := rfl
    rw [hl] at ho
    have ht : t = 0 := by have := (List.getElem?_eq_some_iff.mp ha).1; rw [h1] at this; omega
    subst ht
    cases ha
    rw [single_pow hd ho]
    rfl
  | grp h1 h2 h3 h4 h5 =>
    have hl := lay_laid (by omega) h3 h4 h5
    unfold lay1 at ho
    rw [head_app h2 h3] at ho
    exact laid_pow hl ho hr ha
theorem noFail_step {d : Nat} {Ls : List (List Int)} (hd : 1 ≤ d) (h : NoFail d Ls) (hne : Ls ≠ []) : ∃ G R r, Ls = G ++ R ∧ GrpOK d G ∧ NoFail d R ∧ Ls[0]? = some r ∧ ((1 < r.length ∧ G.length = d) ∨ (¬ 1 < r.length ∧ G.length = 1)) := by
  cases h with
  | nil => exact absurd rfl hne
  | @one r rest h1 h2 => exact ⟨[r], rest, r, rfl, .one h1, h2, rfl, .inr ⟨by omega, rfl⟩⟩
  | @grp A B rest l h1 h2 h3 h4 h5 h6 =>
    cases A with
    | nil => exact absurd rfl h2
    | cons a t => exact ⟨(a :: t) ++ B, rest, a, rfl, .grp h1 h2 h3 h4 h5, h6, rfl, .inl ⟨by have := h3 a (List.mem_cons_self ..); omega, by rw [List.length_append]; exact h5⟩⟩
theorem nons_uniq {n : Int} {f : PF} (w : WF n f) {c c' a : Int} (hc : c ∈ nons n f) (hc' : c' ∈ nons n f) (h : a ∈ rowN f c) (h' : a ∈ rowN f c') : c = c' := by
  obtain ⟨i, hi⟩ := List.getElem?_of_mem h
  obtain ⟨j, hj⟩ := List.getElem?_of_mem h'
  rw [← row_iter w hc] at hi
  rw [← row_iter w hc'] at hj
  have a1 := non_le w (nons_dom hc).2.2 hi hj
  have a2 := non_le w (nons_dom hc').2.2 hj hi
  have : i = j := by omega
  subst this
  exact iter_inj w hi hj
theorem nd_nons {n : Int} {f : PF} (w : WF n f) : (seenL f (nons n f)).Nodup :=
  nd_seen (nodup_of_lt (nons_lt n f)) (fun e he => (rowN_is w (nons_dom he).1 (nons_dom he).2.1).nd w) fun e he e' he' a h h' => nons_uniq w he he' h h'
theorem iter_fix {f : PF} {x : Nat} {a : Int} (h : iter f x a = some a) : ∀ k, iter f (x * k) a = some a
  | 0 => by rw [Nat.mul_zero]; rfl
  | k + 1 => by
    rw [← iter_mul]
    show (iter (iter f x) k a).bind (iter f x) = _
    rw [iter_mul, iter_fix h k]
    exact h
theorem cyc_non {n : Int} {f : PF} (w : WF n f) {a : Int} (h : a ∈ seenL f (cycS n f)) (h' : a ∈ seenL f (nons n f)) : False := by
  obtain ⟨x, hx, e⟩ := (mem_cyc w).mp h
  obtain ⟨c, hc, hm⟩ := mem_seenL.mp h'
  obtain ⟨i, hi⟩ := List.getElem?_of_mem hm
  rw [← row_iter w hc] at hi
  have h1 := non_le w (nons_dom hc).2.2 hi (iter_fix e (i + 1))
  have h2 : 1 * (i + 1) ≤ x * (i + 1) := Nat.mul_le_mul_right _ hx
  omega
theorem all_nd {n : Int} {f : PF} (w : WF n f) : (seenL f (cycS n f) ++ seenL f (nons n f)).Nodup := by
  rw [List.nodup_append]
  exact ⟨nd_cyc w, nd_nons w, fun a ha b hb e => by subst e; exact cyc_non w ha hb⟩
theorem flat_flat {α : Type} {p q : α → List (List Int)} {s : α → List Int} : ∀ {Z : List α}, (∀ z ∈ Z, (s z).Perm (p z).flatten) → ((Z.map s).flatten).Perm (((Z.map p).flatten).flatten)
  | [], _ => .refl _
  | z :: r, h => by
    rw [List.map_cons, List.map_cons, List.flatten_cons, List.flatten_cons, List.flatten_append]
    exact (h z (List.mem_cons_self ..)).append (flat_flat (q := q) fun y hy => h y (List.mem_cons_of_mem _ hy))
theorem flat_perm {A B : List (List Int)} (h : A.Perm B) : A.flatten.Perm B.flatten := h.flatten
theorem root_is {n : Int} {f : PF} {d : Nat} (w : WF n f) (hd : 1 ≤ d) {Z : List (List (List Int) × List Int)} {OG : List (List (List Int))} (hZ : ∀ z ∈ Z, (∃ L, Woven z.1 d L z.2) ∧ z.2.Perm z.1.flatten) (hC : ((Z.map (·.1)).flatten).Perm ((cycS n f).map (rowN f)))
    (hG : ∀ G ∈ OG, GrpOK d G) (hO : (OG.flatten).Perm ((nons n f).map (rowN f))) :
    ((Z.map (·.2)).flatten ++ (OG.map lay1).flatten).Nodup ∧ WF n (lk (arrs (Z.map (·.2)) (OG.map lay1))) ∧ pN n (lk (arrs (Z.map (·.2)) (OG.map lay1))) d = f := by
  have p1 : ((Z.map (·.2)).flatten).Perm (seenL f (cycS n f)) := (flat_flat (p := (·.1)) (q := (·.1)) fun z hz => (hZ z hz).2).trans (flat_perm hC)
  have p2 : ((OG.map lay1).flatten).Perm (seenL f (nons n f)) := by
    have h1 := flat_flat (p := fun G => G) (q := fun G => G) (s := lay1) (Z := OG) fun G hG' => layP_perm (hG G hG').le.2
    rw [List.map_id'] at h1
    exact h1.trans (flat_perm hO)
  have pa := p1.append p2
  have nd := pa.nodup_iff.mpr (all_nd w)
  have hin : ∀ x ∈ (Z.map (·.2)).flatten ++ (OG.map lay1).flatten, 0 ≤ x ∧ x < n := fun x hx => by
    have := pa.mem_iff.mp hx
    rcases List.mem_append.mp this with h | h
    · obtain ⟨e, he, hm⟩ := mem_seenL.mp h
      have hd' := cycS_dom he
      exact (rowN_is w hd'.1 hd'.2).dom w hd'.1 hd'.2 x hm
    · obtain ⟨e, he, hm⟩ := mem_seenL.mp h
      have hd' := nons_dom he
      exact (rowN_is w hd'.1 hd'.2.1).dom w hd'.1 hd'.2.1 x hm
  have wg := arrs_wf (n := n) nd hin
  refine ⟨nd, wg, root_pow w wg hd fun x h0 h1 => ?_⟩
  obtain ⟨e, he, hm⟩ := cover w h0 h1
  obtain ⟨t, ht⟩ := List.getElem?_of_mem hm
  have f1 : f x = iter f 1 x := rfl
  rcases List.mem_append.mp he with he | he
  · have hr : rowN f e ∈ OG.flatten := hO.mem_iff.mpr (List.mem_map.mpr ⟨e, he, rfl⟩)
    obtain ⟨G, hG1, hG2⟩ := List.mem_flatten.mp hr
    obtain ⟨i, hi⟩ := List.getElem?_of_mem hG2
    rw [(hG G hG1).pow hd (arrs_open nd (List.mem_map.mpr ⟨G, hG1, rfl⟩)) hi ht, f1, chain_at w he ht]
  · have hr : rowN f e ∈ (Z.map (·.1)).flatten := hC.mem_iff.mpr (List.mem_map.mpr ⟨e, he, rfl⟩)
    obtain ⟨G, hG1, hG2⟩ := List.mem_flatten.mp hr
    obtain ⟨z, hz, rfl⟩ := List.mem_map.mp hG1
    obtain ⟨i, hi⟩ := List.getElem?_of_mem hG2
    obtain ⟨⟨L, W⟩, _⟩ := hZ z hz
    rw [woven_pow W (arrs_closed nd (List.mem_map.mpr ⟨z, hz, rfl⟩)) hi ht, f1, cycle_at w he ht, W.hL _ (List.mem_of_getElem? hi)]
end My
namespace My
open PySem L2 U StX PM
/-! ### obstacles -/
theorem ip_fdiv {X : Cx} : L2.PIp X .FloorDiv (fun x y H Q => ∃ i j, x = .int i ∧ y = .int j ∧ CDiv i j ∧ Q (.int (i / j)) H) := by
  intro pins s σ H x y v u Q I r1 r2 h
  obtain ⟨i, j, e1, e2, hc, q⟩ := h
  subst e1; subst e2
  obtain ⟨t, rfl⟩ := r1
  obtain ⟨t', rfl⟩ := r2
  have h1 : (0 : Int) < j := hc.1
  have h2 : j < 1073741824 := hc.2
  exact PyProof.Rows.ifloordiv_int (by omega) (by rw [Int.fdiv_eq_ediv_of_nonneg i (by omega)]; exact ⟨.int _, H, I.tok _, ⟨_, rfl⟩, q⟩) (.inl (PyProof.noPylong_small (by omega)))
def lgD (d : Int) : Prop := ∃ k ∈ degs, d = (k : Nat)
theorem lgD.pos {d : Int} (h : lgD d) : 1 ≤ d ∧ d ≤ 30 := by
  obtain ⟨k, hk, rfl⟩ := h
  have : ∀ k ∈ degs, 1 ≤ k ∧ k ≤ 30 := by decide
  have := this k hk
  omega
def grI (L d : Int) : Int := (grS L.toNat d.toNat : Nat)
def spGrp : Sp := fun vs H Q _ => ∃ L d : Int, vs = [.int L, .int d] ∧ 1 ≤ L ∧ L ≤ 1000 ∧ 1 ≤ d ∧ d ≤ 1000000000000000000000000000000 ∧ Q (.int (grI L d)) H
def spChkD (C CE : Addr) : Sp := fun vs H Q _ => ∃ d : Int, vs = [.int d] ∧ 1 ≤ d ∧ d ≤ 1000000000000000000000000000000 ∧ Q .non H
def fcV (r : Option Int) : V := match r with | none => .non | some x => .int x
noncomputable def fcP (l : List (Int × Int)) (d : Int) : Option Int := fcK (lk l) d 1000 0 (l.map (·.1)).reverse
def spFail : Sp := fun vs H Q _ => ∃ (a : Addr) (l : List (Int × Int)) (d : Int), vs = [.ref a, .int d] ∧ H a = some (.dK (kvI l)) ∧ Asc l ∧ l.length ≤ 1000 ∧ (∀ p ∈ l, p.1 ≤ 1000) ∧ 1 ≤ d ∧ d ≤ 1000000000000000000000000000000 ∧ ∀ H', Same H H' → Q (fcV (fcP l d)) H'
section
variable {P : Program} {w : World} {K : PySem.W.Frag} {mg : Str → Option Value} {base : Heap}
theorem ok_check_degree (T : Txt K mg) : FnR P w K mg base CX0 4 T.f_check_degree (spChkD T.C_Map T.C_InvalidNumber) := by
  refine T.A_check_degree.ok sc_check_degree (fun vs H Q E h => ?_) (fun cdv A outer s H vs Q E hr h => ?_)
  · obtain ⟨d, rfl, _⟩ := h
    rfl
  · obtain ⟨d, rfl, h1, h2, q⟩ := h
    obtain ⟨tk, h_MAX_DEGREE⟩ := T.v_MAX_DEGREE
    refine ⟨_, (pss_one (ps_if (pt_not (pt_val (pe_callR (ok_in_range T) (hr.mono (by decide)) T.A_in_range.kp rfl T.g_in_range pass0 (pa_cons (pv 0) (pa_cons pe_int (pa_cons (pe_glob (v := .int 1000000000000000000000000000000) rfl h_MAX_DEGREE ⟨_, rfl⟩) pa_nil))))))
        (pss_one ps_never) pss_nil)), ?_⟩
    refine ⟨_, rfl, .int d, 1, _, rfl, trivial, _, rfl, ?_⟩
    rw [show inR (.int d) 1 1000000000000000000000000000000 = true by simp only [inR, Bool.and_eq_true, decide_eq_true_eq]; omega]
    exact iteF q
theorem ok_group_size (T : Txt K mg) : FnR P w K mg base CX0 3 T.f_group_size spGrp := by
  refine T.A_group_size.ok sc_group_size (fun vs H Q E h => ?_) (fun cdv A outer s H vs Q E hr h => ?_)
  · obtain ⟨L, d, rfl, _⟩ := h
    rfl
  · obtain ⟨L, d, rfl, hL, hL9, hd, hd9, q⟩ := h
    obtain ⟨L, rfl⟩ : ∃ k : Nat, L = (k : Int) := ⟨L.toNat, by omega⟩
    obtain ⟨d, rfl⟩ : ∃ k : Nat, d = (k : Int) := ⟨d.toNat, by omega⟩
    refine ⟨_, (pss_cons (ps_set (i := 2) sc_group_size.nd rfl (Or.inl rfl) (pv 1))
      (pss_cons (ps_set (i := 3) sc_group_size.nd rfl (Or.inl rfl) (pe_callR (ok_gcd T) (hr.mono (by decide)) T.A_greatest_divisor.kp rfl T.g_greatest_divisor pass0 (pa_cons (pv 2) (pa_cons (pv 0) pa_nil))))
      (pss_cons (ps_while PassesOwn.never (pt_cmpR op_gt (pv 3) pe_int (nomark _))
        (pss_cons (ps_aug (i := 2) sc_group_size.nd rfl (Or.inl rfl) (pv 3) ip_fdiv)
      (pss_one (ps_set (i := 3) sc_group_size.nd rfl (Or.inl rfl) (pe_callR (ok_gcd T) (hr.mono (by decide)) T.A_greatest_divisor.kp rfl T.g_greatest_divisor pass0 (pa_cons (pv 2) (pa_cons (pv 0) pa_nil)))))))
      (pss_one (ps_ret (pe_op L2.op_fdivW (pv 1) (pv 2))))))), ?_⟩
    refine ⟨_, rfl, ?_⟩
    refine ⟨_, rfl, _, rfl, d, L, rfl, by omega, by omega, ?_⟩
    rw [gI_nat]
    refine ⟨fun m σ H' => ∃ r : Nat, σ = [some (.int (L : Int)), some (.int (d : Int)), some (.int (r : Int)), some (.int ((Nat.gcd r L : Nat) : Int))] ∧ H' = H ∧ 1 ≤ r ∧ r ≤ d ∧ grR r r L = grR d d L ∧ m = r, ⟨d, d, rfl, rfl, by omega, Nat.le_refl _, rfl, rfl⟩, ?_⟩
    rintro m σ H' ⟨r, rfl, rfl, h1, h2, hg, rfl⟩
    refine ⟨_, rfl, _, _, rfl, rfl, _, rfl, ?_⟩
    refine ifD (fun h => ?_) (fun h => ?_)
    · refine ⟨fun σ' H2 => ∃ m', m' < m ∧ _, fun _ _ h => h, ?_⟩
      have hg1 : 1 < Nat.gcd m L := by omega
      have hgl := Nat.gcd_le_left L h1
      have hgr := Nat.gcd_le_right (n := L) m (by omega)
      have hlt : m / Nat.gcd m L < m := Nat.div_lt_self h1 hg1
      have hp : 1 ≤ m / Nat.gcd m L := Nat.div_pos hgl (by omega)
      refine ⟨_, rfl, _, rfl, _, _, rfl, rfl, ⟨by omega, by omega⟩, ?_⟩
      refine ⟨_, rfl, _, rfl, _, _, rfl, by rw [← Int.natCast_ediv]; omega, by omega, ?_⟩
      rw [← Int.natCast_ediv, gI_nat]
      exact ⟨m / Nat.gcd m L, hlt, m / Nat.gcd m L, rfl, rfl, hp, by omega, by rw [← hg, ← grR_step h1 hg1], rfl⟩
    · refine ⟨_, rfl, _, rfl, _, _, rfl, rfl, Bg_div (by omega) (by have := Bg_ge; omega), ?_⟩
      rw [grR_end h1 (by omega)] at hg
      have e : grI (L : Int) (d : Int) = (d : Int) / (m : Int) := by
        unfold grI grS
        rw [Int.toNat_natCast, Int.toNat_natCast, ← hg, Int.natCast_ediv]
      rw [e] at q
      exact q
theorem ok_failing_chains (T : Txt K mg) : FnR P w K mg base CX0 3 T.f_failing_chains spFail := by
  refine T.A_failing_chains.ok sc_failing_chains (fun vs H Q E h => ?_) (fun cdv A outer s H vs Q E hr h => ?_)
  · obtain ⟨a, l, d, rfl, _⟩ := h
    rfl
  · obtain ⟨a, l, d, rfl, ha, as, hl, hk9, hd, hd9, q⟩ := h
    have hu := hu_of hr
    refine ⟨_, (pss_cons (ps_set (i := 2) sc_failing_chains.nd rfl (Or.inl rfl) pe_dnewK)
      (pss_cons (ps_for PassesOwn.never rfl (pi_list (pe_revL (pe_callTy (call_list_dK rfl) (by rfl) T.n_list (by decide +kernel) (pa_cons (pv 0) pa_nil)))) (pg_name (i := 3) sc_failing_chains.nd rfl (Or.inl rfl))
        (pss_cons (ps_set (i := 4) sc_failing_chains.nd rfl (Or.inl rfl) (pe_op op_mod (pe_op op_sub (pe_dget hu (pv 0) (pv 3) (fun _ _ => rfl)) (pe_dget2 hu (pv 2) (pv 3) pe_int ⟨rfl, rfl, rfl, rfl⟩)) (pv 1)))
      (pss_one (ps_if (PW.pt (pw_and (pt_cmpR op_gt (pv 4) pe_int (nomark _)) (pw_and1 (pt_cmpR op_gt (pv 3) pe_int (nomark _)))))
        (pss_cons (ps_if (pt_cmpR op_lt (pe_dget2 hu (pv 0) (pe_op op_sub (pv 3) pe_int) pe_int ⟨rfl, rfl, rfl, rfl⟩) (pe_op op_sub (pv 1) (pv 4)) (nomark _))
        (pss_one (ps_ret (pv 3))) pss_nil)
      (pss_one (ps_dput hu (pv 2) (pe_op op_sub (pv 3) pe_int) (pe_op op_sub (pv 1) (pv 4)) rfl))) pss_nil))))
      (pss_one (ps_ret pe_non)))), ?_⟩
    have di : DI l (lk l) := ⟨as.nd, fun _ => rfl⟩
    obtain ⟨f, ef⟩ : ∃ f, f = lk l := ⟨_, rfl⟩
    obtain ⟨ks, eks⟩ : ∃ ks, ks = (l.map (·.1)).reverse := ⟨_, rfl⟩
    have q : ∀ H', Same H H' → Q (fcV (fcK f d 1000 0 ks)) H' := by rw [ef, eks]; exact q
    rw [← ef] at di
    have kmem : ∀ x ∈ ks, ∃ y, f x = some y ∧ 0 < y ∧ 1 ≤ x ∧ x ≤ 1000 := by
      intro x hx
      rw [eks, List.mem_reverse] at hx
      obtain ⟨p, hp, rfl⟩ := List.mem_map.mp hx
      have := as.2 p hp
      exact ⟨p.2, di.mem.mp hp, this.2.1, this.1, hk9 p hp⟩
    have kpw : ks.Pairwise (· > ·) := by
      rw [eks, List.pairwise_reverse]
      exact as.1
    refine fun UD n_UD => ?_
    generalize g_UD : L2.upd _ UD _ = H1
    obtain ⟨s_H1, e_UD⟩ := U.upd_facts g_UD n_UD
    clear g_UD
    refine ⟨_, rfl, a, _, rfl, s_H1 _ _ ha, ?_⟩
    refine fun L1 n_L1 => ?_
    generalize g_L1 : L2.upd _ L1 _ = H2
    obtain ⟨s_H2, e_L1⟩ := U.upd_facts g_L1 n_L1
    clear g_L1
    have eL1 : H2 L1 = some (.lst ((l.map (·.1)).map V.int)) := by
      rw [e_L1]
      unfold kvI
      rw [List.map_map, List.map_map]
      rfl
    refine ⟨L1, _, rfl, SqL.of eL1, ?_⟩
    refine fun LR n_LR => ?_
    generalize g_LR : L2.upd _ LR _ = H3
    obtain ⟨s_H3, e_LR⟩ := U.upd_facts g_LR n_LR
    clear g_LR
    have eL2 : H3 LR = some (.lst (ks.map V.int)) := by rw [e_LR, eks, List.map_reverse]
    have s03 : Same H H3 := (s_H1.trans s_H2).trans s_H3
    have eU := s_H3 _ _ (s_H2 _ _ e_UD)
    have nU : H UD = none := n_UD
    have ha3 := s03 _ _ ha
    have naU : a ≠ UD := ne_of_none ha n_UD
    have nL2U : LR ≠ UD := ne_of eL2 eU (by intro z; cases z)
    clear s_H1 s_H2 s_H3 e_UD e_L1 e_LR eL1 n_L1 n_LR
    refine ⟨LR, rfl, ⟨_, SqL.of eL2⟩, ?_⟩
    have hkl : ks.length = l.length := by rw [eks, List.length_reverse, List.length_map]
    refine for_it (walk_list (xs := ks.map V.int)) (fun i σ H' => ∃ v3 v4 u c lu g, σ = [some (.ref a), some (.int d), some (.ref UD), v3, v4] ∧ Off UD H3 H' ∧ H' UD = some (.dK (kvI lu)) ∧ DI lu g ∧ lu.length ≤ i ∧ (∀ y ∈ ks.drop i, y ≤ u) ∧ (∀ y ∈ ks.drop i, (g y).getD 0 = if y = u then c else 0) ∧ fcK f d 1000 0 ks = fcK f d u c (ks.drop i))
      ⟨_, _, 1000, 0, [], emp, rfl, fun b o _ e => e, eU, ⟨List.nodup_nil, fun _ => rfl⟩, Nat.le_refl _, fun y hy => (kmem y hy).elim fun z hz => hz.2.2.2, fun y _ => by by_cases h : y = 1000 <;> simp [h, emp], rfl⟩ (fun i σ H' _ ⟨_, _, _, _, _, _, _, z, _⟩ => SqL.of (z _ _ nL2U eL2)) ?_ ?_
    · rintro i v σ Ha0 Ha hi ⟨v3, v4, u, c, lu, g, rfl, oa, eUa, dg, hlu, hu1, hu2, hfc⟩ ⟨rfl, ev⟩
      rw [List.getElem?_map] at ev
      obtain ⟨x, ex, rfl⟩ := Option.map_eq_some_iff.mp ev
      have hil : i < ks.length := (List.getElem?_eq_some_iff.mp ex).1
      have hdrop : ks.drop i = x :: ks.drop (i + 1) := by
        rw [List.drop_eq_getElem_cons hil]
        have := (List.getElem?_eq_some_iff.mp ex).2
        rw [this]
      obtain ⟨y, fy, y0, x1, x9⟩ := kmem x (List.mem_of_getElem? ex)
      have haa := oa _ _ naU ha3
      have g1 := dgetL haa di x
      rw [fy] at g1
      have g2 := dgetL eUa dg x
      refine ⟨_, rfl, _, rfl, a, .int y, rfl, g1, _, rfl, UD, rfl, isD_of eUa, _, rfl, _, g2, ?_⟩
      rw [getDI0]
      have hgx := hu2 x (by rw [hdrop]; exact List.mem_cons_self ..)
      rw [hgx]
      refine ⟨_, _, rfl, rfl, _, rfl, _, _, rfl, rfl, by omega, ?_⟩
      have hov := Int.emod_lt_of_pos (y - (if x = u then c else 0)) (show 0 < d by omega)
      have hstep : fcK f d u c (ks.drop i) = if 0 < (y - (if x = u then c else 0)) % d ∧ 1 < x then (if (f (x - 1)).getD 0 < d - (y - (if x = u then c else 0)) % d then some x else fcK f d (x - 1) (d - (y - (if x = u then c else 0)) % d) (ks.drop (i + 1))) else fcK f d u c (ks.drop (i + 1)) := by
        rw [hdrop]
        show (if 0 < ((f x).getD 0 - (if x = u then c else 0)) % d ∧ 1 < x then _ else _) = _
        rw [fy]
        rfl
      obtain ⟨over, eo⟩ : ∃ over, over = (y - (if x = u then c else 0)) % d := ⟨_, rfl⟩
      rw [← eo] at hov hstep
      dsimp only
      rw [← eo]
      have hux := hu1 x (by rw [hdrop]; exact List.mem_cons_self ..)
      have hlt : ∀ z ∈ ks.drop (i + 1), z < x := fun z hz => by
        have p2 : (ks.drop i).Pairwise (· > ·) := kpw.sublist (List.drop_sublist ..)
        rw [hdrop, List.pairwise_cons] at p2
        exact p2.1 z hz
      have keep : fcK f d u c (ks.drop i) = fcK f d u c (ks.drop (i + 1)) → ∃ v3 v4 u c lu g, [some (V.ref a), some (.int d), some (.ref UD), some (.int x), some (.int over)] = [some (.ref a), some (.int d), some (.ref UD), v3, v4] ∧ Off UD H3 Ha ∧ Ha UD = some (.dK (kvI lu)) ∧ DI lu g ∧ lu.length ≤ i + 1 ∧ (∀ y ∈ ks.drop (i + 1), y ≤ u) ∧ (∀ y ∈ ks.drop (i + 1), (g y).getD 0 = if y = u then c else 0) ∧ fcK f d 1000 0 ks = fcK f d u c (ks.drop (i + 1)) := fun e =>
        ⟨_, _, u, c, lu, g, rfl, oa, eUa, dg, by omega, fun z hz => by have := hlt z hz; omega, fun z hz => hu2 z (by rw [hdrop]; exact List.mem_cons_of_mem _ hz), by rw [hfc, e]⟩
      refine ⟨_, rfl, _, _, rfl, rfl, _, rfl, ?_⟩
      refine ifD (fun h0 => ?_) (fun h0 => ?_)
      · refine ⟨_, rfl, _, _, rfl, rfl, _, rfl, ?_⟩
        refine ifD (fun h1 => ?_) (fun h1 => ?_)
        · rw [if_pos ⟨h0, h1⟩] at hstep
          have g3 := dgetL haa di (x - 1)
          refine ⟨_, rfl, a, rfl, isD_of haa, _, rfl, _, _, rfl, rfl, _, g3, ?_⟩
          rw [getDI0]
          refine ⟨_, rfl, _, rfl, _, _, rfl, rfl, _, _, rfl, rfl, _, rfl, ?_⟩
          refine ifD (fun h2 => ?_) (fun h2 => ?_)
          · rw [if_pos h2] at hstep
            rw [hstep] at hfc
            rw [hfc] at q
            exact ⟨_, rfl, q Ha fun b o e => oa b o (ne_of_none e nU) (s03 _ _ e)⟩
          · rw [if_neg h2] at hstep
            refine ⟨_, rfl, _, rfl, _, _, rfl, rfl, _, rfl, _, rfl, _, _, rfl, rfl, UD, _, rfl, DPut.k (k := Sum.inl _) eUa (small1000 (by rw [kvI_length]; omega)), ?_⟩
            obtain ⟨l', e', hl', di'⟩ := di_putZ dg (x - 1) (d - over)
            rw [e']
            refine ⟨_, _, x - 1, d - over, l', _, rfl, fun b o hb e => by rw [upd_ne hb]; exact oa b o hb e, upd_same, di', by omega, fun z hz => by have := hlt z hz; omega, fun z hz => ?_, by rw [hfc, hstep]⟩
            have z1 := hlt z hz
            have z2 := hu2 z (by rw [hdrop]; exact List.mem_cons_of_mem _ hz)
            by_cases hz1 : z = x - 1
            · rw [if_pos hz1, if_pos hz1]; rfl
            · rw [if_neg hz1, if_neg hz1, z2, if_neg (by omega)]
        · rw [if_neg (by omega)] at hstep
          exact keep hstep
      · rw [if_neg (by omega)] at hstep
        exact keep hstep
    · rintro σ Ha ⟨v3, v4, u, c, lu, g, rfl, oa, eUa, dg, hlu, hu1, hu2, hfc⟩
      rw [List.length_map, List.drop_length] at hfc
      rw [hfc] at q
      exact q Ha fun b o e => oa b o (ne_of_none e nU) (s03 _ _ e)
end
end My
namespace My
open PySem L2 U StX PM
theorem sqL_sm {K : PySem.W.Frag} {H H' : Hp} {a : Addr} {xs : List V} (h : SqL K H a xs) (s : Same H H') : SqL K H' a xs := by
  rcases h with (h | ⟨o, h⟩) | h
  · exact .inl (.inl (s _ _ h))
  · exact .inl (.inr ⟨o, s _ _ h⟩)
  · exact .inr h
theorem sqT_sm {K : PySem.W.Frag} {H H' : Hp} {a : Addr} {xs : List V} (h : SqT K H a xs) (s : Same H H') : SqT K H' a xs := by
  rcases h with (h | ⟨o, h⟩) | h
  · exact .inl (.inl (s _ _ h))
  · exact .inl (.inr ⟨o, s _ _ h⟩)
  · exact .inr h
mutual
theorem dp_sm {K : PySem.W.Frag} {H H' : Hp} (s : Same H H') : ∀ (d : PyData) (v : V), Dp K H v d → Dp K H' v d
  | _, _, .non => .non
  | _, _, .bl b => .bl b
  | _, _, .int i => .int i
  | _, _, .str x => .str x
  | .list ds, _, .lst (xs := xs) h1 h2 => .lst (sqL_sm h1 s) (dps_sm s ds xs h2)
  | .tuple ds, _, .tup (xs := xs) h1 h2 => .tup (sqT_sm h1 s) (dps_sm s ds xs h2)
theorem dps_sm {K : PySem.W.Frag} {H H' : Hp} (s : Same H H') : ∀ (ds : List PyData) (vs : List V), DpAll K H vs ds → DpAll K H' vs ds
  | [], _, .nil => .nil
  | d :: ds, _, .cons (v := v) (vs := vs) h1 h2 => .cons (dp_sm s d v h1) (dps_sm s ds vs h2)
end
def isTpG (H : Hp) : V → Prop | .ref a => ∃ xs, H a = some (.tup xs) | _ => False
theorem grR_bd : ∀ (f r L : Nat), 1 ≤ r → 1 ≤ grR f r L ∧ grR f r L ≤ r
  | 0, r, L, h => ⟨h, Nat.le_refl _⟩
  | f + 1, r, L, h => by
    show 1 ≤ (if 1 < Nat.gcd r L then grR f (r / Nat.gcd r L) L else r) ∧ (if 1 < Nat.gcd r L then grR f (r / Nat.gcd r L) L else r) ≤ r
    by_cases hg : 1 < Nat.gcd r L
    · rw [if_pos hg]
      have hp : 1 ≤ r / Nat.gcd r L := Nat.div_pos (Nat.gcd_le_left _ h) (by omega)
      have h1 := grR_bd f _ L hp
      have := Nat.div_le_self r (Nat.gcd r L)
      omega
    · rw [if_neg hg]; omega
theorem grI_pos {L d : Int} (hd : 1 ≤ d) : 1 ≤ grI L d := by
  unfold grI grS
  have := grR_bd d.toNat d.toNat L.toNat (by omega)
  have := Nat.div_pos this.2 this.1
  omega
noncomputable def cyF (cs : List (Int × Int)) (d : Int) : Option Int := (cs.find? fun p => !decide (p.2 % grI p.1 d = 0)).map (·.1)
noncomputable def obst (cs hs : List (Int × Int)) (d : Int) : Option (Bool × Int) := match cyF cs d with
  | some L => some (true, L)
  | none => (fcP hs d).map fun L => (false, L)
def kindS (b : Bool) : Str := if b then "cycles" else "chains"
def ObV (H : Hp) (v : V) (o : Option (Bool × Int)) : Prop := match o with
  | none => v = .non
  | some (b, L) => ∃ t, v = .ref t ∧ H t = some (.tup [.str (kindS b), .int L])
noncomputable def gob (cs hs : List (Int × Int)) (d : Int) (k : PyData) (L : Int) : Bool := if PyData.eqv k (.str "cycles") then !decide ((lk cs L).getD 0 % grI L d = 0) else PyData.eqv k (.str "chains") && decide (fcP hs d = some L)
inductive ObsV (K : PySem.W.Frag) (C : Addr) (H : Hp) (cs hs : List (Int × Int)) (d n : Int) : V → Bool → Prop
  | notT {x} : knownV C H x → ¬ isTpG H x → ObsV K C H cs hs d n x false
  | len {a xs} : H a = some (.tup xs) → xs.length ≠ 2 → xs.length ≤ 10 → ObsV K C H cs hs d n (.ref a) false
  | snd {a k y} : H a = some (.tup [k, y]) → knownV C H y → inR y 1 n = false → ObsV K C H cs hs d n (.ref a) false
  | good {a k L dk} : H a = some (.tup [k, .int L]) → 1 ≤ L → L ≤ n → Dp K H k dk → SeqAt.shaped dk = true → ObsV K C H cs hs d n (.ref a) (gob cs hs d dk L)
def K9 (l : List (Int × Int)) : Prop := ∀ p ∈ l, p.1 ≤ 1000
def spObs (C : Addr) : Sp := fun vs H Q _ => ∃ (s : Addr) (cs hs : List (Int × Int)) (d : Int), vs = [.ref s, .int d] ∧ IsShape C H s cs hs ∧ K9 cs ∧ K9 hs ∧ 1 ≤ d ∧ d ≤ 1000000000000000000000000000000 ∧ ∀ H' v, Same H H' → ObV H' v (obst cs hs d) → Q v H'
def spHas (C : Addr) : Sp := fun vs H Q _ => ∃ (s : Addr) (cs hs : List (Int × Int)) (d : Int), vs = [.ref s, .int d] ∧ IsShape C H s cs hs ∧ K9 cs ∧ K9 hs ∧ 1 ≤ d ∧ d ≤ 1000000000000000000000000000000 ∧ ∀ H', Same H H' → Q (.bl (obst cs hs d).isNone) H'
def spObst (C : Addr) : Sp := fun vs H Q _ => ∃ (m : Addr) (n : Int) (f : PF) (d : Int), vs = [.ref m, .int d] ∧ IsMap C H m n f ∧ 1 ≤ d ∧ d ≤ 1000000000000000000000000000000 ∧ ∀ cs hs H' v, Asc cs → Asc hs → DI cs (cnt (lens f (cycS n f))) → DI hs (cnt (lens f (nons n f))) → Same H H' → ObV H' v (obst cs hs d) → Q v H'
def spIsOb (K : PySem.W.Frag) (C : Addr) : Sp := fun vs H Q _ => ∃ (m : Addr) (n : Int) (f : PF) (d : Int) (x : V) (cs hs : List (Int × Int)) (b : Bool), vs = [.ref m, .int d, x] ∧ IsMap C H m n f ∧ 1 ≤ d ∧ d ≤ 1000000000000000000000000000000 ∧ Asc cs ∧ Asc hs ∧ DI cs (cnt (lens f (cycS n f))) ∧ DI hs (cnt (lens f (nons n f))) ∧ ObsV K C H cs hs d n x b ∧ ∀ H', Same H H' → Q (.bl b) H'
theorem k9_lens {n : Int} {f : PF} (w : WF n f) (hn : n ≤ 300) {s : List Int} (hs : ∀ e ∈ s, 0 ≤ e ∧ e < n) {l : List (Int × Int)} (d : DI l (cnt (lens f s))) : ∀ p ∈ l, 1 ≤ p.1 ∧ p.1 ≤ n := by
  rintro ⟨x, y⟩ hp
  have e := d.mem.mp hp
  rw [cnt_bag] at e
  obtain ⟨e1, e2⟩ := toPF_some.mp e
  have hx : ∃ L ∈ lens f s, (L : Int) = x := by
    refine Decidable.byContradiction fun z => e2 ?_
    rw [← e1, bag_ones]
    unfold cN
    rw [List.filter_eq_nil_iff.mpr fun L hL => by
      rw [decide_eq_true_eq]
      exact fun w => z ⟨L, hL, w⟩]
    rfl
  obtain ⟨L, hL, rfl⟩ := hx
  obtain ⟨e0, he, rfl⟩ := List.mem_map.mp hL
  have h1 := hs e0 he
  have := row_pos w h1.1 h1.2
  have := row_le w h1.1 h1.2
  dsimp only
  omega
theorem cyF_at {cs : List (Int × Int)} {d : Int} {i : Nat} {p : Int × Int} (hp : cs[i]? = some p) (h0 : ¬ p.2 % grI p.1 d = 0) (h : ∀ q ∈ cs.take i, q.2 % grI q.1 d = 0) : cyF cs d = some p.1 := by
  have hl : i < cs.length := (List.getElem?_eq_some_iff.mp hp).1
  have e : cs = cs.take i ++ p :: cs.drop (i + 1) := by
    conv => lhs; rw [← List.take_append_drop i cs, List.drop_eq_getElem_cons hl]
    rw [(List.getElem?_eq_some_iff.mp hp).2]
  unfold cyF
  rw [e, List.find?_append, List.find?_eq_none.mpr fun q hq => by simp [h q hq]]
  rw [List.find?_cons_of_pos (by simpa using h0)]
  rfl
theorem cyF_no {cs : List (Int × Int)} {d : Int} (h : ∀ q ∈ cs, q.2 % grI q.1 d = 0) : cyF cs d = none := by
  unfold cyF
  rw [List.find?_eq_none.mpr fun q hq => by simp [h q hq]]
  rfl
section
variable {P : Program} {w : World} {K : PySem.W.Frag} {mg : Str → Option Value} {base : Heap}
theorem ok_obstacle_of (T : Txt K mg) : FnR P w K mg base CX0 5 T.f_obstacle_of (spObs T.C_Shape) := by
  refine T.A_obstacle_of.ok sc_obstacle_of (fun vs H Q E h => ?_) (fun cdv A outer s H vs Q E hr h => ?_)
  · obtain ⟨s, cs, hs, d, rfl, _⟩ := h
    rfl
  · obtain ⟨sh, cs, hs, d, rfl, is1, k9c, k9, hd, hd9, q⟩ := h
    have hu := hu_of hr
    refine ⟨_, (pss_cons (ps_for PassesOwn.never rfl (pi_items (pe_frz (pe_propR (pv 0) T.o_Shape.cl T.P_Shape_cycles (ok_sh_cycles T) (hr.mono (by decide))))) (pg_tup rfl (pgs_cons (pg_name (i := 2) sc_obstacle_of.nd rfl (Or.inl rfl)) (pgs_cons (pg_name (i := 3) sc_obstacle_of.nd rfl (Or.inl rfl)) pgs_nil)))
        (pss_one (ps_if (pt_cmpR op_ne (pe_op op_mod (pv 3) (pe_callR (ok_group_size T) (hr.mono (by decide)) T.A_group_size.kp rfl T.g_group_size pass0 (pa_cons (pv 2) (pa_cons (pv 1) pa_nil)))) pe_int (nomark _))
        (pss_one (ps_ret (pe_tup (pa_cons pe_str (pa_cons (pv 2) pa_nil))))) pss_nil)))
      (pss_cons (ps_set (i := 4) sc_obstacle_of.nd rfl (Or.inl rfl) (pe_callR (ok_failing_chains T) (hr.mono (by decide)) T.A_failing_chains.kp rfl T.g_failing_chains pass0 (pa_cons (pe_propR (pv 0) T.o_Shape.cl T.P_Shape_chains (ok_sh_chains T) (hr.mono (by decide))) (pa_cons (pv 1) pa_nil))))
      (pss_one (ps_ret (pe_ifExp (pt_cmpR op_isN (pv 4) pe_non (nomark _)) pe_non (pe_tup (pa_cons pe_str (pa_cons (pv 4) pa_nil)))))))), ?_⟩
    obtain ⟨⟨dx, D1, D2, h1, h2, h3⟩, as1, as2, l1, l2⟩ := id is1
    refine ⟨_, rfl, sh, dx, _, rfl, h1, sh, cs, hs, rfl, is1, ?_⟩
    refine fun p n_p => ?_
    generalize g_p : L2.upd _ p _ = H1
    obtain ⟨s_H1, e_p⟩ := U.upd_facts g_p n_p
    clear g_p
    refine ⟨p, _, rfl, e_p, trivial, fun od => ?_⟩
    have nP : H p = none := n_p
    generalize g2 : upd H1 p _ = H2
    obtain ⟨o2, e2⟩ := stF g2
    clear g2
    have sF : Same H H2 := fun b o e => o2 b o (ne_of_none e nP) (s_H1 _ _ e)
    clear o2 s_H1 e_p
    refine ⟨p, od, kvI cs, rfl, e2, ?_⟩
    refine for_it walk_items (fun i σ H' => ∃ v2 v3 v4, σ = [some (.ref sh), some (.int d), v2, v3, v4] ∧ Same H H' ∧ H' p = some (.frz od (.dK (kvI cs))) ∧ (∀ q ∈ cs.take i, q.2 % grI q.1 d = 0))
      ⟨_, _, _, rfl, sF, e2, fun q hq => by rw [List.take_zero] at hq; cases hq⟩ (fun i σ H' _ ⟨_, _, _, _, _, z, _⟩ => z) ?_ ?_
    · rintro i v σ Ha0 Ha hi ⟨v2, v3, v4, rfl, sa, ea, hq⟩ ⟨q0, a, b, rfl, n_q0, rfl, e1, e2⟩
      rw [kvI_length] at hi
      obtain ⟨⟨x, y⟩, exy⟩ : ∃ p, cs[i]? = some p := ⟨_, List.getElem?_eq_getElem hi⟩
      have ek : (kvI cs)[i]? = some (Sum.inl x, V.int y) := by unfold kvI; rw [List.getElem?_map, exy]; rfl
      dsimp only at e1 e2
      rw [ek] at e1 e2
      cases e1; cases e2
      have hx := (as1.2 _ (List.mem_of_getElem? exy)).1
      dsimp only at hx
      generalize g_q0 : L2.upd _ q0 _ = Hc
      obtain ⟨s_Hc, e_q0⟩ := U.upd_facts g_q0 n_q0
      clear g_q0
      have gp := grI_pos (L := x) hd
      refine ⟨q0, [.int x, .int y], rfl, SqT.of e_q0, rfl, .int x, [.int y], rfl, .int y, [], rfl, rfl, ?_⟩
      refine ⟨_, rfl, _, rfl, _, rfl, x, d, rfl, by omega, k9c _ (List.mem_of_getElem? exy), hd, hd9, _, _, rfl, rfl, by omega, rfl, _, rfl, ?_⟩
      by_cases hz : y % grI x d = 0
      · rw [show (!decide (V.int (y % grI x d) = V.int 0)) = false by rw [hz]; rfl]
        refine iteF ⟨_, _, _, rfl, sa.trans s_Hc, s_Hc _ _ ea, fun q hq2 => ?_⟩
        rw [take_more exy] at hq2
        rcases List.mem_append.mp hq2 with h | h
        · exact hq q h
        · rw [List.mem_singleton] at h
          rw [h]
          exact hz
      · rw [show (!decide (V.int (y % grI x d) = V.int 0)) = true by simp [hz]]
        refine iteT ⟨_, rfl, two_le, ?_⟩
        refine fun t n_t => ?_
        generalize g_t : L2.upd _ t _ = Hd
        obtain ⟨s_Hd, e_t⟩ := U.upd_facts g_t n_t
        clear g_t
        refine q Hd (.ref t) ((sa.trans s_Hc).trans s_Hd) ?_
        unfold obst
        rw [cyF_at exy hz hq]
        exact ⟨t, rfl, e_t⟩
    · rintro σ Ha ⟨v2, v3, v4, rfl, sa, ea, hq⟩
      rw [kvI_length, List.take_length] at hq
      have is2 := is1.same sa
      refine ⟨_, rfl, sh, dx, _, rfl, sa _ _ h1, sh, cs, hs, rfl, is2, ?_⟩
      refine fun c n_c => ?_
      generalize g_c : L2.upd _ c _ = Hc
      obtain ⟨s_Hc, e_c⟩ := U.upd_facts g_c n_c
      clear g_c
      refine ⟨_, rfl, c, hs, d, rfl, e_c, as2, l2, k9, hd, hd9, fun Hd sd => ?_⟩
      have sad := (sa.trans s_Hc).trans sd
      refine ⟨_, rfl, rfl, _, rfl, ?_⟩
      have eo : obst cs hs d = (fcP hs d).map fun L => (false, L) := by
        unfold obst
        rw [cyF_no hq]
      cases er : fcP hs d with
      | none =>
        rw [er] at eo
        rw [show decide (fcV none = V.non) = true from rfl]
        refine iteT (q Hd .non sad ?_)
        rw [eo]
        rfl
      | some L =>
        rw [er] at eo
        rw [show decide (fcV (some L) = V.non) = false from rfl]
        refine iteF ⟨_, rfl, two_le, ?_⟩
        refine fun t n_t => ?_
        generalize g_t : L2.upd _ t _ = He
        obtain ⟨s_He, e_t⟩ := U.upd_facts g_t n_t
        clear g_t
        refine q He (.ref t) (sad.trans s_He) ?_
        rw [eo]
        exact ⟨t, rfl, e_t⟩
theorem ok_has_root (T : Txt K mg) : FnR P w K mg base CX0 7 T.f_has_root (spHas T.C_Shape) := by
  refine T.A_has_root.ok sc_has_root (fun vs H Q E h => ?_) (fun cdv A outer s H vs Q E hr h => ?_)
  · obtain ⟨s, cs, hs, d, rfl, _⟩ := h
    rfl
  · obtain ⟨sh, cs, hs, d, rfl, is1, k9c, k9, hd, hd9, q⟩ := h
    refine ⟨_, (pss_cons (ps_expr (pe_callR (fnR_calm (ok_check_shape T)) (hr.mono (by decide)) T.A_check_shape.kp rfl T.g_check_shape pass0 (pa_cons (pv 0) pa_nil)))
      (pss_cons (ps_expr (pe_callR (ok_check_degree T) (hr.mono (by decide)) T.A_check_degree.kp rfl T.g_check_degree pass0 (pa_cons (pv 1) pa_nil)))
      (pss_one (ps_ret (pe_cmpR op_isN (pe_callR (ok_obstacle_of T) (hr.mono (by decide)) T.A_obstacle_of.kp rfl T.g_obstacle_of pass0 (pa_cons (pv 0) (pa_cons (pv 1) pa_nil))) pe_non (nomark _)))))), ?_⟩
    refine ⟨_, rfl, _, rfl, .inl ⟨sh, cs, hs, rfl, is1, ?_⟩⟩
    refine ⟨_, rfl, d, rfl, hd, hd9, ?_⟩
    refine ⟨_, rfl, _, rfl, sh, cs, hs, d, rfl, is1, k9c, k9, hd, hd9, fun H1 v s1 ov => ?_⟩
    refine ⟨rfl, ?_⟩
    have e : decide (v = V.non) = (obst cs hs d).isNone := by
      cases eo : obst cs hs d with
      | none => rw [eo] at ov; rw [show v = .non from ov]; rfl
      | some z =>
        rw [eo] at ov
        obtain ⟨t, rfl, _⟩ := ov
        rfl
    rw [e]
    exact q H1 s1
theorem ok_obstacle (T : Txt K mg) : FnR P w K mg base CX0 9 T.f_obstacle (spObst T.C_Map) := by
  refine T.A_obstacle.ok sc_obstacle (fun vs H Q E h => ?_) (fun cdv A outer s H vs Q E hr h => ?_)
  · obtain ⟨m, n, f, d, rfl, _⟩ := h
    rfl
  · obtain ⟨m, n, f, d, rfl, hm, hd, hd9, q⟩ := h
    refine ⟨_, (pss_cons (ps_expr (pe_callR (fnR_calm (ok_check_map T)) (hr.mono (by decide)) T.A_check_map.kp rfl T.g_check_map pass0 (pa_cons (pv 0) pa_nil)))
      (pss_cons (ps_expr (pe_callR (ok_check_degree T) (hr.mono (by decide)) T.A_check_degree.kp rfl T.g_check_degree pass0 (pa_cons (pv 1) pa_nil)))
      (pss_one (ps_ret (pe_callR (ok_obstacle_of T) (hr.mono (by decide)) T.A_obstacle_of.kp rfl T.g_obstacle_of pass0 (pa_cons (pe_callR (ok_shape_of T) (hr.mono (by decide)) T.A_shape_of.kp rfl T.g_shape_of pass0 (pa_cons (pv 0) pa_nil)) (pa_cons (pv 1) pa_nil))))))), ?_⟩
    refine ⟨_, rfl, _, rfl, .inl ⟨m, n, f, rfl, hm, ?_⟩⟩
    refine ⟨_, rfl, d, rfl, hd, hd9, ?_⟩
    refine ⟨_, rfl, m, n, f, rfl, hm, fun s cs hs H1 s1 is1 d1 d2 => ?_⟩
    refine ⟨_, rfl, s, cs, hs, d, rfl, is1, ?_, ?_, hd, hd9, fun H2 v s2 ov => q cs hs H2 v is1.a1 is1.a2 d1 d2 (s1.trans s2) ov⟩
    · intro p hp
      have := hm.hi
      have := k9_lens hm.wf this (fun e he => cycS_dom he) d1 p hp
      omega
    · intro p hp
      have := hm.hi
      have := k9_lens hm.wf this (fun e he => ⟨(nons_dom he).1, (nons_dom he).2.1⟩) d2 p hp
      omega
theorem ty_tup (T : Txt K mg) {H : Hp} {x : V} (h : knownV T.C_Map H x) : ∃ t, TyX K H x t ∧ ∃ b, PySem.W.kitOne K t (.type "tuple") = some b ∧ (b = true ↔ isTpG H x) := by
  cases x with
  | non => exact ⟨_, .base .non, false, kit_ty (r := false) (by decide +kernel), by simp [isTpG]⟩
  | bl b => exact ⟨_, .base (.bl b), false, kit_ty (r := false) (by decide +kernel), by simp [isTpG]⟩
  | int i => exact ⟨_, .base (.int i), false, kit_ty (r := false) (by decide +kernel), by simp [isTpG]⟩
  | str z => exact ⟨_, .base (.str z), false, kit_ty (r := false) (by decide +kernel), by simp [isTpG]⟩
  | ref a =>
    rcases h with ⟨xs, e⟩ | ⟨xs, e⟩ | ⟨xs, e⟩ | ⟨dx, fs, e⟩
    · exact ⟨_, .base (.lst e), false, kit_ty (r := false) (by decide +kernel), by simp [isTpG, e]⟩
    · exact ⟨_, .base (.tup e), true, kit_ty (r := true) (by decide +kernel), by simp [isTpG, e]⟩
    · exact ⟨_, .base (.dK e), false, kit_ty (r := false) (by decide +kernel), by simp [isTpG, e]⟩
    · exact ⟨_, tyx_ins T.o_Map e, false, T.kit_tuple_Map, by simp [isTpG, e]⟩
  | byt b => exact h.elim
  | flt b => exact h.elim
  | ty b => exact h.elim
theorem ok_is_obstacle (T : Txt K mg) : FnR P w K mg base CX0 9 T.f_is_obstacle (spIsOb K T.C_Map) := by
  refine T.A_is_obstacle.ok sc_is_obstacle (fun vs H Q E h => ?_) (fun cdv A outer s H vs Q E hr h => ?_)
  · obtain ⟨m, n, f, d, x, cs, hs, b, rfl, _⟩ := h
    rfl
  · obtain ⟨m, n, f, d, x, cs, hs, b, rfl, hm, hd, hd9, a1, a2, d1, d2, ov, q⟩ := h
    have hu := hu_of hr
    refine ⟨_, (pss_cons (ps_expr (pe_callR (fnR_calm (ok_check_map T)) (hr.mono (by decide)) T.A_check_map.kp rfl T.g_check_map pass0 (pa_cons (pv 0) pa_nil)))
      (pss_cons (ps_expr (pe_callR (ok_check_degree T) (hr.mono (by decide)) T.A_check_degree.kp rfl T.g_check_degree pass0 (pa_cons (pv 1) pa_nil)))
      (pss_cons (ps_if (PW.pt (pw_or (pt_not (pt_val (pe_callB call_isi (by rfl) T.n_isinstance (by decide +kernel) (pa_cons (pv 2) (pa_cons (pe_bltn (v := .ty "tuple") (u := .type "tuple") (by rfl) T.n_tuple (by decide +kernel) rfl) pa_nil))))) (pw_or (pt_cmpR op_ne (pe_callB call_len_seq (by rfl) T.n_len (by decide +kernel) (pa_cons (pv 2) pa_nil)) pe_int (nomark _)) (pw_or1 (pt_not (pt_val (pe_callR (ok_in_range T) (hr.mono (by decide)) T.A_in_range.kp rfl T.g_in_range pass0 (pa_cons (pe_ix ix_tup (pv 2) pe_int (fun _ _ => rfl)) (pa_cons pe_int (pa_cons (pe_propR (pv 0) T.o_Map.cl T.P_Map_size (ok_size T) (hr.mono (by decide))) pa_nil))))))))))
        (pss_one (ps_ret pe_bl)) pss_nil)
      (pss_cons (ps_set (i := 3) sc_is_obstacle.nd rfl (Or.inl rfl) (pe_callR (ok_shape_of T) (hr.mono (by decide)) T.A_shape_of.kp rfl T.g_shape_of pass0 (pa_cons (pv 0) pa_nil)))
      (pss_cons (ps_if (pt_cmpR (L2.op_eqD hr.units) (pe_ix ix_tup (pv 2) pe_int (fun _ _ => rfl)) pe_str (nomark _))
        (pss_one (ps_ret (pe_cmpR op_ne (pe_op op_mod (pe_dget2 hu (pe_propR (pv 3) T.o_Shape.cl T.P_Shape_cycles (ok_sh_cycles T) (hr.mono (by decide))) (pe_ix ix_tup (pv 2) pe_int (fun _ _ => rfl)) pe_int ⟨rfl, rfl, rfl, rfl⟩) (pe_callR (ok_group_size T) (hr.mono (by decide)) T.A_group_size.kp rfl T.g_group_size pass0 (pa_cons (pe_ix ix_tup (pv 2) pe_int (fun _ _ => rfl)) (pa_cons (pv 1) pa_nil)))) pe_int (nomark _)))) pss_nil)
      (pss_one (ps_ret (pe_and (pe_cmpR (L2.op_eqD hr.units) (pe_ix ix_tup (pv 2) pe_int (fun _ _ => rfl)) pe_str (nomark _)) (pe_one (pe_cmpR op_eq (pe_callR (ok_failing_chains T) (hr.mono (by decide)) T.A_failing_chains.kp rfl T.g_failing_chains pass0 (pa_cons (pe_propR (pv 3) T.o_Shape.cl T.P_Shape_chains (ok_sh_chains T) (hr.mono (by decide))) (pa_cons (pv 1) pa_nil))) (pe_ix ix_tup (pv 2) pe_int (fun _ _ => rfl)) (nomark _))))))))))), ?_⟩
    refine ⟨_, rfl, _, rfl, .inl ⟨m, n, f, rfl, hm, ?_⟩⟩
    refine ⟨_, rfl, d, rfl, hd, hd9, ?_⟩
    obtain ⟨mdx, mD, m1, m2⟩ := id hm.ob
    cases ov with
    | notT hk hn =>
      obtain ⟨t, ht, b, k1, k2⟩ := ty_tup T hk
      have hb : b = false := by
        cases b with
        | false => rfl
        | true => exact absurd (k2.mp rfl) hn
      subst hb
      exact ⟨_, rfl, _, _, _, _, _, rfl, .ty _, ht, k1, _, rfl, iteT (q H (Same.refl H))⟩
    | @len a xs ha hl hl9 =>
      refine ⟨_, rfl, _, _, _, _, _, rfl, .ty _, .base (.tup ha), kit_ty (r := true) (by decide +kernel), _, rfl, iteF ?_⟩
      refine ⟨_, rfl, _, _, rfl, .inr (SqT.of ha), rfl, _, rfl, ?_⟩
      rw [show (!decide (V.int ((xs.length : Nat) : Int) = V.int 2)) = true by simp; omega]
      exact iteT (q H (Same.refl H))
    | @snd a k y ha hk hr2 =>
      refine ⟨_, rfl, _, _, _, _, _, rfl, .ty _, .base (.tup ha), kit_ty (r := true) (by decide +kernel), _, rfl, iteF ?_⟩
      refine ⟨_, rfl, _, _, rfl, .inr (SqT.of ha), rfl, _, rfl, iteF ?_⟩
      refine ⟨_, rfl, a, _, 1, _, rfl, rfl, SqT.of ha, atI_nat (j := 1) rfl, _, rfl, m, mdx, _, rfl, m1, m, n, f, rfl, hm, ?_⟩
      refine ⟨_, _, _, rfl, hk, _, rfl, ?_⟩
      rw [hr2]
      exact iteT (q H (Same.refl H))
    | @good a k L dk ha hL hL9 hdk shk =>
      refine ⟨_, rfl, _, _, _, _, _, rfl, .ty _, .base (.tup ha), kit_ty (r := true) (by decide +kernel), _, rfl, iteF ?_⟩
      refine ⟨_, rfl, _, _, rfl, .inr (SqT.of ha), rfl, _, rfl, iteF ?_⟩
      refine ⟨_, rfl, a, _, 1, _, rfl, rfl, SqT.of ha, atI_nat (j := 1) rfl, _, rfl, m, mdx, _, rfl, m1, m, n, f, rfl, hm, ?_⟩
      refine ⟨_, _, _, rfl, trivial, _, rfl, ?_⟩
      rw [show inR (.int L) 1 n = true by simp only [inR, Bool.and_eq_true, decide_eq_true_eq]; omega]
      refine iteF ?_
      refine ⟨_, rfl, m, n, f, rfl, hm, fun s cs' hs' H1 s1 is1 e1 e2 => ?_⟩
      have ec : cs' = cs := asc_uniq is1.a1 a1 fun p => (e1.mem (x := p.1) (y := p.2)).trans (d1.mem (x := p.1) (y := p.2)).symm
      have eh : hs' = hs := asc_uniq is1.a2 a2 fun p => (e2.mem (x := p.1) (y := p.2)).trans (d2.mem (x := p.1) (y := p.2)).symm
      subst ec
      subst eh
      have ha1 := s1 _ _ ha
      have hdk1 : Dp K H1 k dk := dp_sm s1 _ _ hdk
      obtain ⟨⟨dxs, D1, D2, h1, h2, h3⟩, _⟩ := id is1
      refine ⟨_, rfl, a, _, 0, _, rfl, rfl, SqT.of ha1, atI_nat (j := 0) rfl, dk, .str "cycles", hdk1, .str _, shk, by decide +kernel, _, rfl, ?_⟩
      have di : DI cs' (lk cs') := ⟨is1.a1.nd, fun _ => rfl⟩
      unfold gob at q
      cases eb : PyData.eqv dk (.str "cycles") with
      | true =>
        rw [eb] at q
        refine iteT ⟨_, rfl, s, dxs, _, rfl, h1, s, cs', hs', rfl, is1, ?_⟩
        refine fun c n_c => ?_
        generalize g_c : L2.upd _ c _ = H2
        obtain ⟨s_H2, e_c⟩ := U.upd_facts g_c n_c
        clear g_c
        have ha2 := s_H2 _ _ ha1
        have g := dgetL e_c di L
        refine ⟨c, rfl, isD_of e_c, _, rfl, a, _, 1, _, rfl, rfl, SqT.of ha2, atI_nat (j := 1) rfl, _, g, ?_⟩
        rw [getDI0]
        have gp := grI_pos (L := L) hd
        refine ⟨_, rfl, a, _, 1, _, rfl, rfl, SqT.of ha2, atI_nat (j := 1) rfl, _, rfl, L, d, rfl, hL, (by have := hm.hi; omega), hd, hd9, _, _, rfl, rfl, by omega, rfl, ?_⟩
        have e : (!decide (V.int ((lk cs' L).getD 0 % grI L d) = V.int 0)) = (!decide ((lk cs' L).getD 0 % grI L d = 0)) := by
          congr 1
          simp
        rw [e]
        exact q H2 (s1.trans s_H2)
      | false =>
        rw [eb] at q
        refine iteF ?_
        refine ⟨_, rfl, a, _, 0, _, rfl, rfl, SqT.of ha1, atI_nat (j := 0) rfl, dk, .str "chains", hdk1, .str _, shk, by decide +kernel, _, rfl, ?_⟩
        cases ec2 : PyData.eqv dk (.str "chains") with
        | false =>
          rw [ec2] at q
          exact iteF (q H1 s1)
        | true =>
          rw [ec2] at q
          refine iteT ⟨_, rfl, s, dxs, _, rfl, h1, s, cs', hs', rfl, is1, ?_⟩
          refine fun c n_c => ?_
          generalize g_c : L2.upd _ c _ = H2
          obtain ⟨s_H2, e_c⟩ := U.upd_facts g_c n_c
          clear g_c
          have ha2 := s_H2 _ _ ha1
          refine ⟨_, rfl, c, hs', d, rfl, e_c, is1.a2, is1.l2, ?_, hd, hd9, fun H3 s3 => ?_⟩
          · intro p hp
            have := hm.hi
            have := k9_lens hm.wf this (fun e he => ⟨(nons_dom he).1, (nons_dom he).2.1⟩) e2 p hp
            omega
          have ha3 := s3 _ _ ha2
          refine ⟨_, rfl, a, _, 1, _, rfl, rfl, SqT.of ha3, atI_nat (j := 1) rfl, ?_⟩
          have s13 := (s1.trans s_H2).trans s3
          cases ef : fcP hs' d with
          | none =>
            rw [ef] at q
            exact ⟨rfl, q H3 s13⟩
          | some M =>
            rw [ef] at q
            refine ⟨rfl, ?_⟩
            have e : decide (fcV (some M) = V.int L) = (true && decide (some M = some L)) := by
              show decide (V.int M = V.int L) = _
              simp
            rw [e]
            exact q H3 s13
end
end My
set_option maxHeartbeats 1000000
namespace My
open PySem L2 U StX PM
theorem cntL_rows (f : PF) (s : List Int) (L : Nat) : cntL (s.map (rowN f)) L = cN (lens f s) (L : Int) := by
  unfold cntL cN lens
  induction s with
  | nil => rfl
  | cons e r ih =>
    rw [List.map_cons, List.countP_cons, ih, List.map_cons, List.filter_cons]
    by_cases h : (rowN f e).length = L
    · rw [if_pos (decide_eq_true h), if_pos (by rw [h]; exact decide_eq_true rfl)]
      rfl
    · rw [if_neg (fun z => h (of_decide_eq_true z)), if_neg (fun z => h (by have := of_decide_eq_true z; omega))]
      rfl
theorem cntL_perm {A B : List (List Int)} (h : A.Perm B) (L : Nat) : cntL A L = cntL B L := h.countP_eq _
theorem goodC_of {n : Int} {f : PF} {cs : List (Int × Int)} {d : Nat} {R : List (List Int)} (w : WF n f) (hR : R.Perm ((cycS n f).map (rowN f))) (so : R.Pairwise (fun a b => a.length ≤ b.length)) (dc : DI cs (cnt (lens f (cycS n f)))) (h : cyF cs (d : Int) = none) : GoodC d R := by
  refine ⟨so, fun r hr => ?_, fun L hL => ?_⟩
  · obtain ⟨e, he, rfl⟩ := List.mem_map.mp (hR.mem_iff.mp hr)
    have := cycS_dom he
    exact row_pos w this.1 this.2
  · rw [cntL_perm hR, cntL_rows]
    by_cases h0 : cN (lens f (cycS n f)) (L : Int) = 0
    · rw [h0]; exact Nat.dvd_zero _
    · have hm : ((L : Int), ((cN (lens f (cycS n f)) (L : Int) : Nat) : Int)) ∈ cs := by
        refine dc.mem.mpr ?_
        unfold cnt
        rw [if_neg h0]
      unfold cyF at h
      rw [Option.map_eq_none_iff, List.find?_eq_none] at h
      have h1 := h _ hm
      have h2 : ((cN (lens f (cycS n f)) (L : Int) : Nat) : Int) % grI (L : Int) (d : Int) = 0 := by
        simpa using h1
      unfold grI at h2
      rw [Int.toNat_natCast, Int.toNat_natCast] at h2
      exact Nat.dvd_of_mod_eq_zero (by exact_mod_cast h2)
theorem noFail_rows {n : Int} {f : PF} {hs : List (Int × Int)} {d : Nat} {R : List (List Int)} (hd : 1 ≤ d) (w : WF n f) (hn : n ≤ 300) (hR : R.Perm ((nons n f).map (rowN f))) (so : R.Pairwise (fun a b => b.length ≤ a.length)) (as : Asc hs) (dh : DI hs (cnt (lens f (nons n f)))) (h : fcP hs (d : Int) = none) : NoFail d R := by
  have hb : ∀ r ∈ R, 1 ≤ r.length ∧ r.length ≤ 1000 := fun r hr => by
    obtain ⟨e, he, rfl⟩ := List.mem_map.mp (hR.mem_iff.mp hr)
    have hd := nons_dom he
    have h1 := row_pos w hd.1 hd.2.1
    have h2 := row_le w hd.1 hd.2.1
    omega
  have hc : ∀ j : Nat, ((cntL R j : Nat) : Int) = (lk hs (j : Int)).getD 0 := fun j => by
    rw [cntL_perm hR, cntL_rows, dh.at_, cnt_get]
  refine noFail_of (F := lk hs) hd 1000 R.length R 0 (Nat.le_refl _) so hb (by rw [hc]; omega) (fun j j1 j2 => hc j) ?_
  unfold fcP at h
  have hkeys : ∀ x : Int, x ∈ hs.map (·.1) ↔ lk hs x ≠ none := fun x => by
    have di : DI hs (lk hs) := ⟨dh.nd, fun _ => rfl⟩
    constructor
    · intro hx
      obtain ⟨⟨a, b⟩, hp, rfl⟩ := List.mem_map.mp hx
      rw [di.mem.mp hp]
      exact fun z => nomatch z
    · intro hx
      cases e : lk hs x with
      | none => exact absurd e hx
      | some y => exact List.mem_map.mpr ⟨_, di.mem.mpr e, rfl⟩
  have hp := k9_lens w hn (fun e he => ⟨(nons_dom he).1, (nons_dom he).2.1⟩) dh
  rw [fcK_at (by omega) _ 1000 1000 0 ?_ ?_ ?_ (Int.le_refl _) (fun _ z => absurd rfl z)] at h
  · simpa using h
  · rw [List.pairwise_reverse]
    exact as.1
  · intro x hx
    rw [List.mem_reverse] at hx
    obtain ⟨p, hm, rfl⟩ := List.mem_map.mp hx
    have := hp p hm
    omega
  · intro x _ _ hx
    rw [List.mem_reverse]
    exact (hkeys x).mpr hx
end My
namespace U
open PySem PySem.Spec PyProof.Rows L2
/-! ### dict(zip(a, b, strict=True)), dict(zip(a, b)): lists or tuples -/
/-- one draw, strict or not -/
def drw (st : Bool) (it : Value) : Sem (Option Value) := do
  if st then Builtin.SmallTypes.nextOrEnd it else return some (← Builtin.SmallTypes.nextOf it)
def SIt (tup : Bool) (g : Heap) (it l : Addr) (k : Nat) : Prop := match tup with | true => g.IsTupleIter it l k | false => g.IsListIter it l k
def SSq (tup : Bool) (g : Heap) (l : Addr) (xs : Array Value) : Prop := match tup with | true => g.IsTuple l xs | false => g.IsList l xs
theorem SIt.mv {tup : Bool} {g g' : Heap} {it l : Addr} {k : Nat} (x : SIt tup g it l k) (e : ∀ o, g.get? it = some o → g'.get? it = some o) : SIt tup g' it l k := by
  cases tup
  · exact Heap.IsListIter.at x e
  · exact Heap.IsTupleIter.at x e
theorem SSq.mv {tup : Bool} {g g' : Heap} {l : Addr} {xs : Array Value} (x : SSq tup g l xs) (e : ∀ o, g.get? l = some o → g'.get? l = some o) : SSq tup g' l xs := by
  cases tup
  · exact Heap.IsList.at x e
  · exact Heap.IsTuple.at x e
theorem SIt.ob {tup : Bool} {g : Heap} {it l : Addr} {k : Nat} (x : SIt tup g it l k) : ∃ o, g.get? it = some o := by
  cases tup
  · obtain ⟨o, e, _⟩ := x
    exact ⟨o, e⟩
  · obtain ⟨o, e, _⟩ := x
    exact ⟨o, e⟩
theorem SSq.ob {tup : Bool} {g : Heap} {l : Addr} {xs : Array Value} (x : SSq tup g l xs) : ∃ o, g.get? l = some o := by
  cases tup
  · obtain ⟨o, e, _⟩ := x
    exact ⟨o, e⟩
  · obtain ⟨o, e, _⟩ := x
    exact ⟨o, e⟩
/-- the zip object: held, that its tuple is out -/
def IsZ (st : Bool) (g : Heap) (z TI TO : Addr) (v : Value) (hd : Bool) : Prop :=
  g.get? z = some { cls := .type "zip", dict := none, data := .fields #[v, .bool hd, .bool st, .ref TI, .ref TO], slots := #[] }
section
variable {prog : Program} {w : World} {A : Around} {E : Value → Shared → Prop} {s : Shared} {st tup : Bool} {it l : Addr} {i : Nat} {items : Array Value}
theorem stop_it {Q : PySem.Fin → Shared → Prop} (hn : A.handled = none) (q : ∀ g e, (∀ c o, s.heap.get? c = some o → g.get? c = some o) → (∃ o, g.get? e = some o ∧ o.cls = .type "StopIteration") → E (.ref e) { s with heap := g }) :
    wpAny (model prog w) A (Builtin.SmallTypes.stopIteration) Q E s := by
  show wpAny _ _ (newExc (.type "StopIteration") [] >>= _) _ _ s
  refine wpAny_bind ?_
  simp only [newExc, newTuple]; refine wpAny_bind (wpAny_newObj_type ?_ (by size_fits))
  refine wpAny_bind (m := firstArgMember _ _) (wpAny_of_eq (a := Value.none) (by first | (simp only [firstArgMember]; rfl) | rfl) ?_)
  refine wpAny_newObj_type ?_ (by size_fits); simp only [raiseNew]
  refine wpAny_bind (wpAny_handled ?_); rw [hn]
  refine wpAny_bind (wpAny_pure (wpAny_throw (q _ _ (fun c o e => Heap.get?_push_of_some _ (Heap.get?_push_of_some _ e)) ⟨_, Heap.get?_push_size _ rfl, rfl⟩)))
theorem sit_item {x : Value} {Q : Value → Shared → Prop} (a : SIt tup s.heap it l i) (b : SSq tup s.heap l items) (c : items[i]? = some x)
    (q : ∀ g, SIt tup g it l (i + 1) → Heap.SameBut it s.heap g → Q x { s with heap := g }) : wpAny (model prog w) A (Builtin.SmallTypes.nextOf (.ref it)) Q E s := by
  cases tup
  · exact wpAny_nextOf_list_item a b c q
  · exact RZ.nextOf_tuple_item a b c q
theorem sit_end {Q : Value → Shared → Prop} (hn : A.handled = none) (a : SIt tup s.heap it l i) (b : SSq tup s.heap l items) (c : items[i]? = none)
    (q : ∀ g e, Heap.ExtBut it s.heap g → (∃ o, g.get? e = some o ∧ o.cls = .type "StopIteration") → E (.ref e) { s with heap := g }) : wpAny (model prog w) A (Builtin.SmallTypes.nextOf (.ref it)) Q E s := by
  cases tup
  · exact wpAny_nextOf_list_end hn a b c q
  · exact RZ.nextOf_tuple_end hn a b c q
theorem drw_item {x : Value} {Q : Option Value → Shared → Prop} (a : SIt tup s.heap it l i) (b : SSq tup s.heap l items) (c : items[i]? = some x)
    (q : ∀ g, SIt tup g it l (i + 1) → Heap.SameBut it s.heap g → Q (some x) { s with heap := g }) : wpAny (model prog w) A (drw st (.ref it)) Q E s := by
  cases st
  · exact wpAny_bind (sit_item a b c fun g g1 g2 => wpAny_pure (q g g1 g2))
  · exact wpAny_bind (wpAny_attempt (sit_item a b c fun g g1 g2 => wpAny_pure (q g g1 g2)))
theorem drw_end {Q : Option Value → Shared → Prop} (hn : A.handled = none) (a : SIt tup s.heap it l i) (b : SSq tup s.heap l items) (c : items[i]? = none)
    (q : ∀ g, Heap.ExtBut it s.heap g → Q none { s with heap := g }) : wpAny (model prog w) A (Builtin.SmallTypes.nextOrEnd (.ref it)) Q E s := by
  refine wpAny_bind (wpAny_attempt (sit_end hn a b c fun g e g1 ⟨o, ho, hc⟩ => ?_))
  show wpAny _ _ (isInstance (.ref e) (.type "StopIteration") >>= _) _ _ _
  refine wpAny_bind (wpAny_isInstance (T := "StopIteration") (b := true) ⟨o, ho, hc⟩ isSubtype_stop ?_)
  exact wpAny_pure (q g g1)
variable {Z J O a1 a2 b1 b2 : Addr} {k1 k2 : Nat} {xs ys : Array Value} {x y u v : Value}
/-- what is reached by one more item -/
def ZGot (st tup : Bool) (h : Heap) (Z J O a1 a2 b1 b2 : Addr) (k1 k2 : Nat) (x y T : Value) (f : Bool) (g : Heap) : Prop :=
  IsZ st g Z J O T f ∧ SIt tup g a1 b1 (k1 + 1) ∧ SIt tup g a2 b2 (k2 + 1) ∧ IsPair g h.objs.size x y ∧ g.objs.size = h.objs.size + 1
theorem zz_item {Q : Value → Shared → Prop} (D : ZipApart Z J O a1 a2 b1 b2) (ez : IsZ st s.heap Z J O .none false) (eJ : IsPair s.heap J (.ref a1) (.ref a2)) (eO : IsPair s.heap O u v)
    (p1 : SIt tup s.heap a1 b1 k1) (p2 : SIt tup s.heap a2 b2 k2) (q1 : SSq tup s.heap b1 xs) (q2 : SSq tup s.heap b2 ys) (ex : xs[k1]? = some x) (ey : ys[k2]? = some y)
    (q : ∀ g, ZGot st tup s.heap Z J O a1 a2 b1 b2 k1 k2 x y (rawInt s.heap.objs.size) false g → (∀ c o, c ≠ Z → c ≠ O → c ≠ a1 → c ≠ a2 → s.heap.get? c = some o → g.get? c = some o) → Q (.ref s.heap.objs.size) { s with heap := g }) :
    wpAny (model prog w) A (Builtin.«zip.__next__» ⟨[.ref Z], []⟩) (fun fin s' => ∃ v, fin = .done (.ret v) ∧ Q v s') E s := by
  show wpAny _ _ (field (.ref Z) 2 >>= _) _ _ _
  refine wpAny_bind (wpAny_field ez rfl (x := .bool st) rfl ?_)
  show wpAny _ _ (field (.ref Z) 3 >>= _) _ _ _
  refine wpAny_bind (wpAny_field ez rfl (x := .ref J) rfl ?_)
  refine wpAny_bind (wpAny_seqItems eJ rfl ?_)
  show wpAny _ _ (Builtin.SmallTypes.ownedTupleIsFree (.ref Z) >>= _) _ _ _
  refine wpAny_bind ?_
  unfold Builtin.SmallTypes.ownedTupleIsFree
  refine wpAny_bind (wpAny_field ez rfl (x := .none) rfl (wpAny_pure ?_))
  simp only [if_true]
  refine wpAny_bind (wpAny_rule ?_)
  refine wpAny_bind (wpAny_field ez rfl (x := .ref O) rfl ?_)
  refine wpAny_bind (wpAny_setField_rec ez (by simp) fun g1 ez1 c1 => ?_)
  replace ez1 : IsZ st g1 Z J O .ellipsis false := ez1
  refine wpAny_bind ?_
  simp only [List.zipIdx_cons, List.zipIdx_nil, List.forIn_cons, List.forIn_nil]
  have hs : (Value.bool st == Value.bool true) = st := by cases st <;> rfl
  rw [hs]
  refine wpAny_bind (wpAny_bind (wpAny_onRaise ?_))
  show wpAny _ _ (drw st (.ref a1)) _ _ _
  refine drw_item (p1.mv fun o e => c1.extBut _ _ D.i1z e) (q1.mv fun o e => c1.extBut _ _ D.l1z e) ex fun g2 p1' c2 => ?_
  have eO2 : IsPair g2 O u v := c2.extBut _ _ D.TOi1 (c1.extBut _ _ D.TOz eO)
  refine wpAny_bind (wpAny_seqItems eO2 rfl ?_)
  refine wpAny_bind (wpAny_updateSeq_pair eO2 fun g3 eO3 c3 => ?_)
  replace eO3 : IsPair g3 O x v := eO3
  refine wpAny_bind (wpAny_letGo (wpAny_pure ?_))
  refine wpAny_bind (wpAny_bind (wpAny_onRaise ?_))
  show wpAny _ _ (drw st (.ref a2)) _ _ _
  refine drw_item (p2.mv fun o e => c3.extBut _ _ D.TOi2.symm (c2.extBut _ _ D.i12.symm (c1.extBut _ _ D.i2z e))) (q2.mv fun o e => c3.extBut _ _ D.l2TO (c2.extBut _ _ D.l2i1 (c1.extBut _ _ D.l2z e))) ey fun g4 p2' c4 => ?_
  have eO4 : IsPair g4 O x v := c4.extBut _ _ D.TOi2 eO3
  refine wpAny_bind (wpAny_seqItems eO4 rfl ?_)
  refine wpAny_bind (wpAny_updateSeq_pair eO4 fun g5 eO5 c5 => ?_)
  replace eO5 : IsPair g5 O x y := eO5
  refine wpAny_bind (wpAny_letGo (wpAny_pure (wpAny_pure ?_)))
  refine wpAny_bind (wpAny_seqItems eO5 rfl ?_)
  refine wpAny_bind (wpAny_newTuple ?_)
  have hsz : g5.objs.size = s.heap.objs.size := by rw [c5.1, c4.1, c3.1, c2.1, c1.1]
  have kp : ∀ c o, c ≠ Z → c ≠ O → c ≠ a1 → c ≠ a2 → s.heap.get? c = some o → g5.get? c = some o := fun c o n1 n2 n3 n4 e =>
    c5.extBut _ _ n2 (c4.extBut _ _ n4 (c3.extBut _ _ n2 (c2.extBut _ _ n3 (c1.extBut _ _ n1 e))))
  have ez5 : IsZ st g5 Z J O .ellipsis false := c5.extBut _ _ D.TOz.symm (c4.extBut _ _ D.i2z.symm (c3.extBut _ _ D.TOz.symm (c2.extBut _ _ D.i1z.symm ez1)))
  have r1 : SIt tup g5 a1 b1 (k1 + 1) := p1'.mv fun o e => c5.extBut _ _ D.TOi1.symm (c4.extBut _ _ D.i12 (c3.extBut _ _ D.TOi1.symm e))
  have r2 : SIt tup g5 a2 b2 (k2 + 1) := p2'.mv fun o e => c5.extBut _ _ D.TOi2.symm e
  have zl : Z < g5.objs.size := Heap.lt_size ez5
  show wpAny _ _ (Builtin.SmallTypes.ownedTupleHandOut (.ref Z) (.ref g5.objs.size) >>= _) _ _ _
  refine wpAny_bind ?_
  unfold Builtin.SmallTypes.ownedTupleHandOut
  have ez6 : IsZ st (g5.push { cls := .type "tuple", data := .seq #[x, y] }) Z J O .ellipsis false := Heap.get?_push_of_some _ ez5
  refine wpAny_bind (wpAny_setField_rec ez6 (by simp) fun g7 ez7 c7 => ?_)
  replace ez7 : IsZ st g7 Z J O (rawInt g5.objs.size) false := ez7
  refine wpAny_setField_rec ez7 (by simp) fun g8 ez8 c8 => ?_
  replace ez8 : IsZ st g8 Z J O (rawInt g5.objs.size) false := ez8
  have up : ∀ c o, c ≠ Z → g5.get? c = some o → g8.get? c = some o := fun c o n1 e => c8.extBut _ _ n1 (c7.extBut _ _ n1 (Heap.get?_push_of_some _ e))
  have t8 : IsPair g8 g5.objs.size x y := c8.extBut _ _ (Nat.ne_of_gt zl) (c7.extBut _ _ (Nat.ne_of_gt zl) (Heap.get?_push_size _ rfl))
  have s8 : g8.objs.size = g5.objs.size + 1 := by rw [c8.1, c7.1, Heap.size_push]
  rw [hsz] at ez8 t8 s8
  refine wpAny_pure ⟨_, rfl, ?_⟩
  show Q (.ref g5.objs.size) _
  rw [hsz]
  exact q g8 ⟨ez8, r1.mv fun o e => up _ o D.i1z e, r2.mv fun o e => up _ o D.i2z e, t8, s8⟩ fun c o n1 n2 n3 n4 e => up c o n1 (kp c o n1 n2 n3 n4 e)
theorem tup_held {T : Addr} {f : Bool} {oT : Obj} {Q : Bool → Shared → Prop} (ez : IsZ st s.heap Z J O (rawInt T) f) (eT : s.heap.get? T = some oT)
    (q : ∀ g, IsZ st g Z J O (rawInt T) true → Heap.SameBut Z s.heap g → Q false { s with heap := g }) : wpAny (model prog w) A (Builtin.SmallTypes.ownedTupleIsFree (.ref Z)) Q E s := by
  unfold Builtin.SmallTypes.ownedTupleIsFree
  refine wpAny_bind (wpAny_field ez rfl (x := rawInt T) rfl ?_)
  show wpAny _ _ (loadIfAlive ((T : Int).toNat) >>= _) _ _ s
  rw [Int.toNat_natCast]
  refine wpAny_bind (PySem.W.kdx_alive eT ?_)
  simp only [Option.isNone_some, Bool.false_eq_true, if_false]
  refine wpAny_bind (wpAny_field ez rfl (x := .bool f) rfl ?_)
  cases f
  · rw [if_pos (show (Value.bool false != Value.bool true) = true from rfl)]
    exact wpAny_bind (wpAny_setField_rec ez (by simp) fun g eg cg => wpAny_pure (q g eg cg))
  · rw [if_neg (show ¬ ((Value.bool true != Value.bool true) = true) from Bool.false_ne_true)]
    exact wpAny_pure (q s.heap ez (Heap.SameBut.refl _ _))
theorem zz_item_held {T : Addr} {f : Bool} {oT : Obj} {Q : Value → Shared → Prop} (D : ZipApart Z J O a1 a2 b1 b2) (ez : IsZ st s.heap Z J O (rawInt T) f) (eT : s.heap.get? T = some oT) (eJ : IsPair s.heap J (.ref a1) (.ref a2))
    (p1 : SIt tup s.heap a1 b1 k1) (p2 : SIt tup s.heap a2 b2 k2) (q1 : SSq tup s.heap b1 xs) (q2 : SSq tup s.heap b2 ys) (ex : xs[k1]? = some x) (ey : ys[k2]? = some y)
    (q : ∀ g, ZGot st tup s.heap Z J O a1 a2 b1 b2 k1 k2 x y (rawInt T) true g → (∀ c o, c ≠ Z → c ≠ a1 → c ≠ a2 → s.heap.get? c = some o → g.get? c = some o) → Q (.ref s.heap.objs.size) { s with heap := g }) :
    wpAny (model prog w) A (Builtin.«zip.__next__» ⟨[.ref Z], []⟩) (fun fin s' => ∃ v, fin = .done (.ret v) ∧ Q v s') E s := by
  show wpAny _ _ (field (.ref Z) 2 >>= _) _ _ _
  refine wpAny_bind (wpAny_field ez rfl (x := .bool st) rfl ?_)
  show wpAny _ _ (field (.ref Z) 3 >>= _) _ _ _
  refine wpAny_bind (wpAny_field ez rfl (x := .ref J) rfl ?_)
  refine wpAny_bind (wpAny_seqItems eJ rfl ?_)
  show wpAny _ _ (Builtin.SmallTypes.ownedTupleIsFree (.ref Z) >>= _) _ _ _
  refine wpAny_bind (tup_held ez eT fun g1 ez1 c1 => ?_)
  simp only [Bool.false_eq_true, if_false]
  refine wpAny_bind ?_
  rw [← Array.forIn_toList]
  simp only [List.forIn_cons, List.forIn_nil]
  have hs : (Value.bool st == Value.bool true) = st := by cases st <;> rfl
  rw [hs]
  refine wpAny_bind (wpAny_bind (wpAny_holding ?_))
  show wpAny _ _ (drw st (.ref a1)) _ _ _
  refine drw_item (s := { s with heap := g1 }) (p1.mv fun o e => c1.extBut _ _ D.i1z e) (q1.mv fun o e => c1.extBut _ _ D.l1z e) ex fun g2 p1' c2 => ?_
  refine wpAny_pure ?_
  refine wpAny_bind (wpAny_bind (wpAny_holding ?_))
  show wpAny _ _ (drw st (.ref a2)) _ _ _
  refine drw_item (s := { s with heap := g2 }) (p2.mv fun o e => c2.extBut _ _ D.i12.symm (c1.extBut _ _ D.i2z e)) (q2.mv fun o e => c2.extBut _ _ D.l2i1 (c1.extBut _ _ D.l2z e)) ey fun g3 p2' c3 => ?_
  refine wpAny_pure (wpAny_pure ?_)
  show wpAny _ _ (newTuple [x, y] >>= _) _ _ { s with heap := g3 }
  refine wpAny_bind (wpAny_newTuple ?_)
  have hsz : g3.objs.size = s.heap.objs.size := by rw [c3.1, c2.1, c1.1]
  have ez3 : IsZ st g3 Z J O (rawInt T) true := c3.extBut _ _ D.i2z.symm (c2.extBut _ _ D.i1z.symm ez1)
  have kp : ∀ c o, c ≠ Z → c ≠ a1 → c ≠ a2 → s.heap.get? c = some o → g3.get? c = some o := fun c o n1 n2 n3 e => c3.extBut _ _ n3 (c2.extBut _ _ n2 (c1.extBut _ _ n1 e))
  have r1 : SIt tup g3 a1 b1 (k1 + 1) := p1'.mv fun o e => c3.extBut _ _ D.i12 e
  refine wpAny_pure ⟨_, rfl, ?_⟩
  show Q (.ref g3.objs.size) _
  have hp : IsPair (g3.push { cls := .type "tuple", data := .seq #[x, y] }) g3.objs.size x y := Heap.get?_push_size _ rfl
  have hz4 : (g3.push { cls := .type "tuple", data := .seq #[x, y] }).objs.size = g3.objs.size + 1 := Heap.size_push ..
  rw [hsz] at hp hz4 ⊢
  exact q _ ⟨Heap.get?_push_of_some _ ez3, r1.mv fun o e => Heap.get?_push_of_some _ e, p2'.mv fun o e => Heap.get?_push_of_some _ e, hp, hz4⟩ fun c o n1 n2 n3 e => Heap.get?_push_of_some _ (kp c o n1 n2 n3 e)
/-- where a zip ends: at once for both where it is strict -/
def ZEnd (st : Bool) (xs ys : Array Value) (k1 k2 : Nat) : Prop := (st = true ∧ xs[k1]? = none ∧ ys[k2]? = none) ∨ (st = false ∧ (xs[k1]? = none ∨ ys[k2]? = none))
theorem zz_end {Q : Fin → Shared → Prop} (hn : A.handled = none) (D : ZipApart Z J O a1 a2 b1 b2) (ez : IsZ st s.heap Z J O .none false) (eJ : IsPair s.heap J (.ref a1) (.ref a2)) (eO : IsPair s.heap O u v)
    (p1 : SIt tup s.heap a1 b1 k1) (p2 : SIt tup s.heap a2 b2 k2) (q1 : SSq tup s.heap b1 xs) (q2 : SSq tup s.heap b2 ys) (he : ZEnd st xs ys k1 k2)
    (q : ∀ g e, (∀ c o, c ≠ Z → c ≠ O → c ≠ a1 → c ≠ a2 → s.heap.get? c = some o → g.get? c = some o) → (∃ o, g.get? e = some o ∧ o.cls = .type "StopIteration") → E (.ref e) { s with heap := g }) :
    wpAny (model prog w) A (Builtin.«zip.__next__» ⟨[.ref Z], []⟩) Q E s := by
  show wpAny _ _ (field (.ref Z) 2 >>= _) _ _ _
  refine wpAny_bind (wpAny_field ez rfl (x := .bool st) rfl ?_)
  show wpAny _ _ (field (.ref Z) 3 >>= _) _ _ _
  refine wpAny_bind (wpAny_field ez rfl (x := .ref J) rfl ?_)
  refine wpAny_bind (wpAny_seqItems eJ rfl ?_)
  show wpAny _ _ (Builtin.SmallTypes.ownedTupleIsFree (.ref Z) >>= _) _ _ _
  refine wpAny_bind ?_
  unfold Builtin.SmallTypes.ownedTupleIsFree
  refine wpAny_bind (wpAny_field ez rfl (x := .none) rfl (wpAny_pure ?_))
  simp only [if_true]
  refine wpAny_bind (wpAny_rule ?_)
  refine wpAny_bind (wpAny_field ez rfl (x := .ref O) rfl ?_)
  refine wpAny_bind (wpAny_setField_rec ez (by simp) fun g1 ez1 c1 => ?_)
  replace ez1 : IsZ st g1 Z J O .ellipsis false := ez1
  refine wpAny_bind ?_
  simp only [List.zipIdx_cons, List.zipIdx_nil, List.forIn_cons, List.forIn_nil]
  have hs : (Value.bool st == Value.bool true) = st := by cases st <;> rfl
  rw [hs]
  refine wpAny_bind (wpAny_bind (wpAny_onRaise ?_))
  rcases he with ⟨rfl, ex, ey⟩ | ⟨rfl, he⟩
  · show wpAny _ _ (Builtin.SmallTypes.nextOrEnd (.ref a1)) _ _ _
    refine drw_end hn (p1.mv fun o e => c1.extBut _ _ D.i1z e) (q1.mv fun o e => c1.extBut _ _ D.l1z e) ex fun g2 c2 => ?_
    have ez2 : IsZ true g2 Z J O .ellipsis false := c2 _ _ D.i1z.symm ez1
    show wpAny _ _ (setField (.ref Z) 0 .none >>= _) _ _ _
    refine wpAny_bind (wpAny_setField_rec ez2 (by simp) fun g3 ez3 c3 => ?_)
    refine wpAny_bind ?_
    show wpAny _ _ (forIn [(Value.ref a2, 1)] PUnit.unit _ >>= _) _ _ _
    simp only [List.forIn_cons, List.forIn_nil]
    refine wpAny_bind (wpAny_bind (wpAny_bind ?_))
    refine drw_end (tup := tup) hn (p2.mv fun o e => c3.extBut _ _ D.i2z (c2 _ _ D.i12.symm (c1.extBut _ _ D.i2z e))) (q2.mv fun o e => c3.extBut _ _ D.l2z (c2 _ _ D.l2i1 (c1.extBut _ _ D.l2z e))) ey fun g4 c4 => ?_
    show wpAny _ _ (pure (ForInStep.yield PUnit.unit)) _ _ _
    refine wpAny_pure (wpAny_pure (wpAny_bind (wpAny_rule (stop_it hn fun g5 e c5 ⟨oe, e1, e2⟩ => ?_))))
    exact q g5 e (fun c o n1 _ n3 n4 r => c5 _ _ (c4 _ _ n4 (c3.extBut _ _ n1 (c2 _ _ n3 (c1.extBut _ _ n1 r))))) ⟨oe, e1, e2⟩
  · show wpAny _ _ (Builtin.SmallTypes.nextOf (.ref a1) >>= _) _ _ _
    cases hx : xs[k1]? with
    | none =>
      refine wpAny_bind (sit_end hn (p1.mv fun o e => c1.extBut _ _ D.i1z e) (q1.mv fun o e => c1.extBut _ _ D.l1z e) hx fun g2 e c2 ⟨oe, e1, e2⟩ => ?_)
      have ez2 : IsZ false g2 Z J O .ellipsis false := c2 _ _ D.i1z.symm ez1
      have nez : e ≠ Z := fun z => by subst z; rw [ez2] at e1; cases e1; simp at e2
      refine wpAny_setField_rec ez2 (by simp) fun g3 _ c3 => q g3 e (fun c o n1 _ n3 _ r => c3.extBut _ _ n1 (c2 _ _ n3 (c1.extBut _ _ n1 r))) ⟨oe, c3.extBut _ _ nez e1, e2⟩
    | some x =>
      have hy : ys[k2]? = none := by rcases he with h | h; rw [hx] at h; cases h; exact h
      refine wpAny_bind (sit_item (p1.mv fun o e => c1.extBut _ _ D.i1z e) (q1.mv fun o e => c1.extBut _ _ D.l1z e) hx fun g2 p1' c2 => wpAny_pure ?_)
      have eO2 : IsPair g2 O u v := c2.extBut _ _ D.TOi1 (c1.extBut _ _ D.TOz eO)
      refine wpAny_bind (wpAny_seqItems eO2 rfl ?_)
      refine wpAny_bind (wpAny_updateSeq_pair eO2 fun g3 eO3 c3 => ?_)
      refine wpAny_bind (wpAny_letGo (wpAny_pure ?_))
      refine wpAny_bind (wpAny_bind (wpAny_onRaise ?_))
      show wpAny _ _ (Builtin.SmallTypes.nextOf (.ref a2) >>= _) _ _ _
      refine wpAny_bind (sit_end hn (p2.mv fun o e => c3.extBut _ _ D.TOi2.symm (c2.extBut _ _ D.i12.symm (c1.extBut _ _ D.i2z e))) (q2.mv fun o e => c3.extBut _ _ D.l2TO (c2.extBut _ _ D.l2i1 (c1.extBut _ _ D.l2z e))) hy fun g4 e c4 ⟨oe, e1, e2⟩ => ?_)
      have ez4 : IsZ false g4 Z J O .ellipsis false := c4 _ _ D.i2z.symm (c3.extBut _ _ D.TOz.symm (c2.extBut _ _ D.i1z.symm ez1))
      have nez : e ≠ Z := fun z => by subst z; rw [ez4] at e1; cases e1; simp at e2
      refine wpAny_setField_rec ez4 (by simp) fun g5 _ c5 => q g5 e (fun c o n1 n2 n3 n4 r => c5.extBut _ _ n1 (c4 _ _ n4 (c3.extBut _ _ n2 (c2.extBut _ _ n3 (c1.extBut _ _ n1 r))))) ⟨oe, c5.extBut _ _ nez e1, e2⟩
theorem zz_end_held {Q : PySem.Fin → Shared → Prop} {T : Addr} {f : Bool} {oT : Obj} (hn : A.handled = none) (D : ZipApart Z J O a1 a2 b1 b2) (ez : IsZ st s.heap Z J O (rawInt T) f) (eT : s.heap.get? T = some oT) (eJ : IsPair s.heap J (.ref a1) (.ref a2))
    (p1 : SIt tup s.heap a1 b1 k1) (p2 : SIt tup s.heap a2 b2 k2) (q1 : SSq tup s.heap b1 xs) (q2 : SSq tup s.heap b2 ys) (he : ZEnd st xs ys k1 k2)
    (q : ∀ g e, (∀ c o, c ≠ Z → c ≠ a1 → c ≠ a2 → s.heap.get? c = some o → g.get? c = some o) → (∃ o, g.get? e = some o ∧ o.cls = .type "StopIteration") → E (.ref e) { s with heap := g }) :
    wpAny (model prog w) A (Builtin.«zip.__next__» ⟨[.ref Z], []⟩) Q E s := by
  show wpAny _ _ (field (.ref Z) 2 >>= _) _ _ _
  refine wpAny_bind (wpAny_field ez rfl (x := .bool st) rfl ?_)
  show wpAny _ _ (field (.ref Z) 3 >>= _) _ _ _
  refine wpAny_bind (wpAny_field ez rfl (x := .ref J) rfl ?_)
  refine wpAny_bind (wpAny_seqItems eJ rfl ?_)
  show wpAny _ _ (Builtin.SmallTypes.ownedTupleIsFree (.ref Z) >>= _) _ _ _
  refine wpAny_bind (tup_held ez eT fun g1 ez1 c1 => ?_)
  simp only [Bool.false_eq_true, if_false]
  refine wpAny_bind ?_
  rw [← Array.forIn_toList]
  simp only [List.forIn_cons, List.forIn_nil]
  have hs : (Value.bool st == Value.bool true) = st := by cases st <;> rfl
  rw [hs]
  refine wpAny_bind (wpAny_bind (wpAny_holding ?_))
  rcases he with ⟨rfl, ex, ey⟩ | ⟨rfl, he⟩
  · show wpAny _ _ (Builtin.SmallTypes.nextOrEnd (.ref a1)) _ _ _
    refine drw_end (s := { s with heap := g1 }) hn (p1.mv fun o e => c1.extBut _ _ D.i1z e) (q1.mv fun o e => c1.extBut _ _ D.l1z e) ex fun g2 c2 => ?_
    refine wpAny_bind ?_
    show wpAny _ _ (forIn [(Value.ref a2, 1)] PUnit.unit _ >>= _) _ _ _
    simp only [List.forIn_cons, List.forIn_nil]
    refine wpAny_bind (wpAny_bind (wpAny_bind ?_))
    refine drw_end (tup := tup) (s := { s with heap := g2 }) hn (p2.mv fun o e => c2 _ _ D.i12.symm (c1.extBut _ _ D.i2z e)) (q2.mv fun o e => c2 _ _ D.l2i1 (c1.extBut _ _ D.l2z e)) ey fun g4 c4 => ?_
    show wpAny _ _ (pure (ForInStep.yield PUnit.unit)) _ _ _
    refine wpAny_pure (wpAny_pure (wpAny_bind (wpAny_rule (stop_it (s := { s with heap := g4 }) hn fun g5 e c5 ⟨oe, e1, e2⟩ => ?_))))
    exact q g5 e (fun c o n1 n3 n4 r => c5 _ _ (c4 _ _ n4 (c2 _ _ n3 (c1.extBut _ _ n1 r)))) ⟨oe, e1, e2⟩
  · show wpAny _ _ (Builtin.SmallTypes.nextOf (.ref a1) >>= _) _ _ _
    cases hx : xs[k1]? with
    | none =>
      refine wpAny_bind (sit_end (s := { s with heap := g1 }) hn (p1.mv fun o e => c1.extBut _ _ D.i1z e) (q1.mv fun o e => c1.extBut _ _ D.l1z e) hx fun g2 e c2 he' => ?_)
      exact q g2 e (fun c o n1 n3 _ r => c2 _ _ n3 (c1.extBut _ _ n1 r)) he'
    | some x =>
      have hy : ys[k2]? = none := by rcases he with h | h; rw [hx] at h; cases h; exact h
      refine wpAny_bind (sit_item (s := { s with heap := g1 }) (p1.mv fun o e => c1.extBut _ _ D.i1z e) (q1.mv fun o e => c1.extBut _ _ D.l1z e) hx fun g2 p1' c2 => wpAny_pure ?_)
      refine wpAny_pure ?_
      refine wpAny_bind (wpAny_bind (wpAny_holding ?_))
      show wpAny _ _ (Builtin.SmallTypes.nextOf (.ref a2) >>= _) _ _ _
      refine wpAny_bind (sit_end (s := { s with heap := g2 }) hn (p2.mv fun o e => c2.extBut _ _ D.i12.symm (c1.extBut _ _ D.i2z e)) (q2.mv fun o e => c2.extBut _ _ D.l2i1 (c1.extBut _ _ D.l2z e)) hy fun g3 e c3 he' => ?_)
      exact q g3 e (fun c o n1 n2 n3 r => c3 _ _ n3 (c2.extBut _ _ n2 (c1.extBut _ _ n1 r))) he'
/-! ### next -/
theorem nx_item {Q : Option Value → Shared → Prop} (ty : s.TypeIs (.ref Z) "zip") (h : ∀ F, wpAny (model prog w) A.in1 (Builtin.«zip.__next__» ⟨[.ref Z], []⟩) (fun fin s' => ∃ v, fin = .done (.ret v) ∧ Q (some v) s') F s) : wpAny (model prog w) A (pyNext (.ref Z)) Q E s := by
  unfold pyNext
  exact wpAny_bind (wpAny_attempt (wpAny_callSpecial?_slot (name := Str.ofString "__next__") ty F.slot_zip_next (wpAny_call_entry F.slot_zip_next ty F.entry_zip_next (wpAny_mono (h _) (fun fin s' ⟨v, e, q⟩ => ⟨v, e, wpAny_pure q⟩) fun _ _ z => z) (F.args_zip_next_1 _))))
theorem nx_end {Q : Option Value → Shared → Prop} (G : Heap → Prop) (ty : s.TypeIs (.ref Z) "zip") (h : ∀ (F : Value → Shared → Prop) (Q' : PySem.Fin → Shared → Prop), (∀ g e, G g → (∃ o, g.get? e = some o ∧ o.cls = .type "StopIteration") → F (.ref e) { s with heap := g }) → wpAny (model prog w) A.in1 (Builtin.«zip.__next__» ⟨[.ref Z], []⟩) Q' F s)
    (q : ∀ g, G g → Q none { s with heap := g }) : wpAny (model prog w) A (pyNext (.ref Z)) Q E s := by
  unfold pyNext
  refine wpAny_bind (wpAny_attempt (wpAny_callSpecial?_slot (name := Str.ofString "__next__") ty F.slot_zip_next (wpAny_call_entry F.slot_zip_next ty F.entry_zip_next (h _ _ fun g e hg ⟨o, h1, h2⟩ => ?_) (F.args_zip_next_1 _))))
  refine wpAny_bind (wpAny_isInstance (T := "StopIteration") (b := true) ⟨o, h1, h2⟩ isSubtype_stop (wpAny_pure (q g hg)))
end
/-! ### the zip as what a dict is made of -/
section
variable {prog : Program} {w : World}
/-- a zip as it was made -/
def ZNew (st tup : Bool) (Z J O a1 a2 b1 b2 : Addr) (xs ys : Array Value) (h : Heap) : Prop :=
  IsZ st h Z J O .none false ∧ IsPair h J (.ref a1) (.ref a2) ∧ (∃ u v, IsPair h O u v) ∧ SIt tup h a1 b1 0 ∧ SIt tup h a2 b2 0 ∧ SSq tup h b1 xs ∧ SSq tup h b2 ys
def ZAt (st tup : Bool) (Z J O a1 a2 b1 b2 d : Addr) (xs ys : Array Value) (i : Nat) (h : Heap) : Prop :=
  IsPair h J (.ref a1) (.ref a2) ∧ SIt tup h a1 b1 i ∧ SIt tup h a2 b2 i ∧ SSq tup h b1 xs ∧ SSq tup h b2 ys ∧
    ((IsZ st h Z J O .none false ∧ ∃ u v, IsPair h O u v) ∨ ∃ (T : Addr) (f : Bool) (oT : Obj), IsZ st h Z J O (rawInt T) f ∧ h.get? T = some oT ∧ T ≠ Z ∧ T ≠ a1 ∧ T ≠ a2 ∧ T ≠ d)
theorem zarg (st tup : Bool) (Z J O a1 a2 b1 b2 : Addr) (D : ZipApart Z J O a1 a2 b1 b2) (xs ys : Array Value) (hst : st = true → xs.size = ys.size) :
    PairArg prog w "zip" Z [Z, J, O, a1, a2, b1, b2] [Z, O, a1, a2] (min xs.size ys.size) (fun i k v => xs[i]? = some k ∧ ys[i]? = some v) (ZNew st tup Z J O a1 a2 b1 b2 xs ys) where
  type := fun s ok => ⟨_, ok.1, rfl⟩
  notDict := by decide
  keep := fun h h' ⟨e1, e2, ⟨u, v, e3⟩, e4, e5, e6, e7⟩ k => ⟨k _ _ e1, k _ _ e2, ⟨u, v, k _ _ e3⟩, e4.mv fun o e => k _ o e, e5.mv fun o e => k _ o e, e6.mv fun o e => k _ o e, e7.mv fun o e => k _ o e⟩
  there := fun h ⟨e1, e2, ⟨u, v, e3⟩, e4, e5, e6, e7⟩ b hb => by
    simp only [List.mem_cons, List.not_mem_nil, or_false] at hb
    rcases hb with rfl | rfl | rfl | rfl | rfl | rfl | rfl
    · exact ⟨_, e1⟩
    · exact ⟨_, e2⟩
    · exact ⟨_, e3⟩
    · exact e4.ob
    · exact e5.ob
    · exact e6.ob
    · exact e7.ob
  sub := fun b hb => by
    simp only [List.mem_cons, List.not_mem_nil, or_false] at hb ⊢
    rcases hb with rfl | rfl | rfl | rfl <;> simp
  noKeys := fun A s Q E hn ok q => getAttrOr_miss_zip ok.1 rfl rfl rfl zip_no_keys (by decide +kernel) hn q
  iter := fun A s d Q E hn ⟨e1, e2, ⟨u, v, e3⟩, e4, e5, e6, e7⟩ hd hdf q => by
    simp only [List.mem_cons, List.not_mem_nil, or_false, not_or] at hdf
    obtain ⟨dZ, dJ, dO, d1, d2, dl1, dl2⟩ := hdf
    have tyz : s.TypeIs (.ref Z) "zip" := ⟨_, e1, rfl⟩
    refine wpAny_pyIter_slot tyz F.slot_zip_iter (wpAny_call_entry F.slot_zip_iter tyz F.entry_zip_iter ?_ (F.args_zip_iter_1 _))
    show wpAny _ _ (ret (.ref Z)) _ _ s
    refine wpAny_pure ⟨_, rfl, "zip", _, tyz, F.slot_zip_next.lookup, ?_⟩
    refine q Z [Z, O, a1, a2] (ZAt st tup Z J O a1 a2 b1 b2 d xs ys) s.heap s.toks ?_ ⟨e2, e4, e5, e6, e7, .inl ⟨e1, u, v, e3⟩⟩ (fun _ _ e => e) fun b hb => .inl hb
    exact {
      off := fun hm => by
        simp only [List.mem_cons, List.not_mem_nil, or_false] at hm
        rcases hm with e | e | e | e
        · exact dZ e
        · exact dO e
        · exact d1 e
        · exact d2 e
      frame := fun i h h' ⟨f1, f2, f3, f4, f5, f6⟩ k => by
        refine ⟨k _ _ (Ne.symm dJ) f1, f2.mv fun o e => k _ o (Ne.symm d1) e, f3.mv fun o e => k _ o (Ne.symm d2) e, f4.mv fun o e => k _ o (Ne.symm dl1) e, f5.mv fun o e => k _ o (Ne.symm dl2) e, ?_⟩
        rcases f6 with ⟨g1, u, v, g2⟩ | ⟨T, f, oT, g1, g2, r1, r2, r3, r4⟩
        · exact .inl ⟨k _ _ (Ne.symm dZ) g1, u, v, k _ _ (Ne.symm dO) g2⟩
        · exact .inr ⟨T, f, oT, k _ _ (Ne.symm dZ) g1, k _ _ r4 g2, r1, r2, r3, r4⟩
      item := fun i s₁ Q₁ E₁ hi ⟨f1, f2, f3, f4, f5, f6⟩ hds hQ => by
        have ex := Array.getElem?_eq_getElem (Nat.lt_of_lt_of_le hi (Nat.min_le_left ..))
        have ey := Array.getElem?_eq_getElem (Nat.lt_of_lt_of_le hi (Nat.min_le_right ..))
        have n1 : s₁.heap.objs.size ≠ a1 := let ⟨_, e⟩ := f2.ob; Nat.ne_of_gt (Heap.lt_size e)
        have n2 : s₁.heap.objs.size ≠ a2 := let ⟨_, e⟩ := f3.ob; Nat.ne_of_gt (Heap.lt_size e)
        rcases f6 with ⟨g1, u, v, g2⟩ | ⟨T, f, oT, g1, g2, r1, r2, r3, r4⟩
        · refine nx_item ⟨_, g1, rfl⟩ fun F => zz_item D g1 f1 g2 f2 f3 f4 f5 ex ey fun g ⟨c1, c2, c3, c4, c5⟩ k => ?_
          exact hQ s₁.heap.objs.size _ _ g s₁.toks ⟨ex, ey⟩ (.inl ⟨_, c4, rfl, _, rfl⟩)
            ⟨k _ _ D.TIz D.TITO D.TIi1 D.TIi2 f1, c2, c3, f4.mv fun o e => k _ o D.l1z D.l1TO D.l1i1 D.l1i2 e, f5.mv fun o e => k _ o D.l2z D.l2TO D.l2i1 D.l2i2 e,
              .inr ⟨s₁.heap.objs.size, false, _, c1, c4, Nat.ne_of_gt (Heap.lt_size g1), n1, n2, Nat.ne_of_gt hds⟩⟩
            fun c o hc e => k c o (fun z => hc (by simp [z])) (fun z => hc (by simp [z])) (fun z => hc (by simp [z])) (fun z => hc (by simp [z])) e
        · refine nx_item ⟨_, g1, rfl⟩ fun F => zz_item_held D g1 g2 f1 f2 f3 f4 f5 ex ey fun g ⟨c1, c2, c3, c4, c5⟩ k => ?_
          exact hQ s₁.heap.objs.size _ _ g s₁.toks ⟨ex, ey⟩ (.inl ⟨_, c4, rfl, _, rfl⟩)
            ⟨k _ _ D.TIz D.TIi1 D.TIi2 f1, c2, c3, f4.mv fun o e => k _ o D.l1z D.l1i1 D.l1i2 e, f5.mv fun o e => k _ o D.l2z D.l2i1 D.l2i2 e, .inr ⟨T, true, oT, c1, k _ _ r1 r2 r3 g2, r1, r2, r3, r4⟩⟩
            fun c o hc e => k c o (fun z => hc (by simp [z])) (fun z => hc (by simp [z])) (fun z => hc (by simp [z])) e
      done := fun s₁ Q₁ E₁ ⟨f1, f2, f3, f4, f5, f6⟩ hQ => by
        have he : ZEnd st xs ys (min xs.size ys.size) (min xs.size ys.size) := by
          cases st
          · refine .inr ⟨rfl, ?_⟩
            rcases Nat.le_total xs.size ys.size with h | h
            · exact .inl (Array.getElem?_eq_none (by rw [Nat.min_eq_left h]; exact Nat.le_refl _))
            · exact .inr (Array.getElem?_eq_none (by rw [Nat.min_eq_right h]; exact Nat.le_refl _))
          · have e := hst rfl
            exact .inl ⟨rfl, Array.getElem?_eq_none (by omega), Array.getElem?_eq_none (by omega)⟩
        rcases f6 with ⟨g1, u, v, g2⟩ | ⟨T, f, oT, g1, g2, r1, r2, r3, r4⟩
        · exact nx_end (fun g => ∀ c o, c ≠ Z → c ≠ O → c ≠ a1 → c ≠ a2 → s₁.heap.get? c = some o → g.get? c = some o) ⟨_, g1, rfl⟩ (fun F Q' q => zz_end hn D g1 f1 g2 f2 f3 f4 f5 he q)
            fun g k => hQ g s₁.toks fun c o hc e => k c o (fun z => hc (by simp [z])) (fun z => hc (by simp [z])) (fun z => hc (by simp [z])) (fun z => hc (by simp [z])) e
        · exact nx_end (fun g => ∀ c o, c ≠ Z → c ≠ a1 → c ≠ a2 → s₁.heap.get? c = some o → g.get? c = some o) ⟨_, g1, rfl⟩ (fun F Q' q => zz_end_held hn D g1 g2 f1 f2 f3 f4 f5 he q)
            fun g k => hQ g s₁.toks fun c o hc e => k c o (fun z => hc (by simp [z])) (fun z => hc (by simp [z])) (fun z => hc (by simp [z])) e }
end
/-! ### zip(a, b, strict=True) -/
def zo (tup : Bool) (l : Addr) : Obj := match tup with | true => { cls := .type "tuple_iterator", data := .fields #[.ref l, .int 0 0] } | false => { cls := .type "list_iterator", data := .fields #[.ref l, .int 0 0] }
abbrev zh1 (tup : Bool) (h : Heap) (b1 : Addr) : Heap := h.push (zo tup b1)
abbrev zh2 (tup : Bool) (h : Heap) (b1 b2 : Addr) : Heap := (zh1 tup h b1).push (zo tup b2)
abbrev zh3 (tup : Bool) (h : Heap) (b1 b2 : Addr) : Heap := (zh2 tup h b1 b2).push { cls := .type "tuple", data := .seq #[.ref h.objs.size, .ref (zh1 tup h b1).objs.size] }
abbrev zh4 (tup : Bool) (h : Heap) (b1 b2 : Addr) : Heap := (zh3 tup h b1 b2).push { cls := .type "tuple", data := .seq #[.none, .none] }
abbrev zh5 (tup : Bool) (h : Heap) (b1 b2 : Addr) : Heap := (zh4 tup h b1 b2).push { cls := .type "zip", data := .fields #[.none, .bool false, .bool true, .ref (zh2 tup h b1 b2).objs.size, .ref (zh3 tup h b1 b2).objs.size] }
theorem meets_zipS (tup : Bool) (b1 b2 : Addr) (xs ys : Array Value) :
    Meets (Builtin.«zip.__new__» ⟨[.type "zip", .ref b1, .ref b2], [("strict", .bool true)]⟩) (fun _ R s => SSq tup s.heap b1 xs ∧ SSq tup s.heap b2 ys ∧
      R (.ok (.ret (.ref (zh4 tup s.heap b1 b2).objs.size))) { s with heap := zh5 tup s.heap b1 b2 }) :=
  .of_wp fun prog w A R s h => by
    obtain ⟨hp, g, d, tk, os⟩ := s
    obtain ⟨h1, h2, h⟩ := h
    have hsub := sub_zip
    cases tup
    · have k1 : Heap.IsList (Shared.heap ⟨hp, g, d, tk, os⟩) b1 xs := h1
      have k2 : Heap.IsList (Shared.heap ⟨hp.push { cls := .type "list_iterator", data := .fields #[.ref b1, .int 0 0] }, g, d, tk, os⟩) b2 ys := Heap.IsList.push h2 _
      wp_walk using wpAny_pyIter_list k1, wpAny_pyIter_list k2
      exact ⟨_, rfl, h⟩
    · have k1 : Heap.IsTuple (Shared.heap ⟨hp, g, d, tk, os⟩) b1 xs := h1
      have k2 : Heap.IsTuple (Shared.heap ⟨hp.push { cls := .type "tuple_iterator", data := .fields #[.ref b1, .int 0 0] }, g, d, tk, os⟩) b2 ys := Heap.IsTuple.push h2 _
      wp_walk using wpAny_pyIter_tuple k1, wpAny_pyIter_tuple k2
      exact ⟨_, rfl, h⟩
theorem typeCall_zipS (a b c : Value) : checkTypeCall "zip" ⟨[a, b], [("strict", c)]⟩ = pure () := by kernel_rfl
theorem newCall_zipS (a b c : Value) : checkBuiltinCall "zip.__new__" ⟨[.type "zip", a, b], [("strict", c)]⟩ = pure () := by kernel_rfl
theorem args_initS (a b c d : Value) : argsOk "object.__init__" ⟨[a, b, c], [("strict", d)]⟩ := by
  unfold argsOk; rw [signature?_of (id := "object.__init__") (n := ['_', '_', 't', 'i', 'n', 'i', '_', '_']) (o := ['t', 'c', 'e', 'j', 'b', 'o']) (by kernel_rfl) F.owner_object] <;> kernel_rfl
theorem initS_meets {T nid : String} {self a : Value} {rest : List Value} {kw : List (Str × Value)} (hl : typeLookup (.type T) "__init__" = pure (some (.builtin "object.__init__")))
    (hm : Bind.madeBy (.type T) = pure (some nid)) (hne : (some nid != some "object.__new__") = true) :
    Meets (Builtin.«object.__init__» ⟨self :: a :: rest, kw⟩) (fun _ R s => s.TypeIs self T ∧ R (.ok (.ret .none)) s) := by
  refine Meets.of_wp fun prog w A R s ⟨tys, hq⟩ => ?_
  repeat (any_goals (first | assumption | wp_step))
  exact ⟨_, rfl, hq⟩
section
variable {prog : Program} {w : World} {A : Around} {E : Value → Shared → Prop} {s : Shared}
theorem callTypeK {T nid iid : String} {Bn Bi : Builtin} {xs : List Value} {kw : List (Str × Value)} {S : PySem.Spec} {Q Q₁ : Value → Shared → Prop} (ft : TypeCalled T nid iid)
    (hct : checkTypeCall T ⟨xs, kw⟩ = pure ()) (hcn : checkBuiltinCall nid ⟨.type T :: xs, kw⟩ = pure ()) (en : entryFor table nid = some Bn) (ei : entryFor table iid = some Bi)
    (g : Meets (Bn ⟨.type T :: xs, kw⟩) S) (h : S A.in1 (wants Q₁ E) s)
    (hnext : ∀ obj s₁, Q₁ obj s₁ → s₁.TypeIs obj T ∧ argsOk iid ⟨obj :: xs, kw⟩ ∧ ∃ Si, Meets (Bi ⟨obj :: xs, kw⟩) Si ∧ Si A.in1 (wants (fun r s₂ => r = .none ∧ Q obj s₂) E) s₁) :
    wpAny (model prog w) A (call (.type T) xs kw) Q E s := by
  obtain ⟨mc, mtl, hmro⟩ := ft.mro
  have hmade := ft.made
  have hsub := ft.sub
  refine wpAny_call (codeAny_of_tree ?_)
  show wpAny _ _ (callAny (.type T) _) _ _ s
  refine wpAny_pure ⟨Code.quiet_builtin _ (by decide +kernel), codeAny_builtin F.entry_type_call ?_⟩
  rw [Around.under_plain (weight_type_call_type T xs kw) (units_type_call_type T xs kw)]
  have hn1 := ft.notType
  have hn2 := ft.canCreate
  repeat (any_goals (first | assumption | wp_step))
  refine codeAny_mono (codeAny_call_builtin ft.plain en (wpAny_of_eq hcn (g prog w A.in1 _ s h))) fun r s₁ hr => ?_
  cases r with
  | error e => exact hr
  | ok fl =>
    cases fl with
    | ret obj =>
      obtain ⟨hT, hok, Si, gi, hsi⟩ := hnext _ _ hr
      have hli := ft.init.lookup
      have hbi := ft.init.bind obj
      repeat (any_goals (first | assumption | wp_step))
      refine codeAny_mono (codeAny_call_builtin ft.init.plain ei (ft.init.check _ _ _ _ _ _ _ _ hT hok (gi prog w A.in1 _ s₁ hsi))) fun r₂ s₂ hr₂ => ?_
      cases r₂ with
      | error e => exact hr₂
      | ok fl₂ =>
        cases fl₂ with
        | ret r =>
          obtain ⟨rfl, hq⟩ := hr₂
          repeat (any_goals (first | assumption | wp_step))
        | _ => exact hr₂.elim
    | _ => exact hr.elim
theorem zarg_call (tup : Bool) {b1 b2 : Addr} {xs ys : Array Value} {Q : Value → Shared → Prop} (h1 : SSq tup s.heap b1 xs) (h2 : SSq tup s.heap b2 ys)
    (q : ∀ g, ZNew true tup (s.heap.objs.size + 4) (s.heap.objs.size + 2) (s.heap.objs.size + 3) s.heap.objs.size (s.heap.objs.size + 1) b1 b2 xs ys g → (∀ c o, s.heap.get? c = some o → g.get? c = some o) → Q (.ref (s.heap.objs.size + 4)) { s with heap := g }) :
    wpAny (model prog w) A (call (.type "zip") [.ref b1, .ref b2] [("strict", .bool true)]) Q E s := by
  refine callTypeK (Q₁ := fun obj s₁ => s₁.TypeIs obj "zip" ∧ Q obj s₁) F.called_zip (typeCall_zipS _ _ _) (newCall_zipS _ _ _) F.entry_zip_new F.entry_object_init (meets_zipS tup b1 b2 xs ys) ⟨h1, h2, ?_⟩ fun obj s₁ ⟨ty, hq⟩ =>
    ⟨ty, args_initS _ _ _ _, _, initS_meets F.called_zip.init.lookup F.called_zip.made (by decide), ty, rfl, hq⟩
  have z1 : (zh1 tup s.heap b1).objs.size = s.heap.objs.size + 1 := Heap.size_push ..
  have z2 : (zh2 tup s.heap b1 b2).objs.size = s.heap.objs.size + 2 := by rw [Heap.size_push, z1]
  have z3 : (zh3 tup s.heap b1 b2).objs.size = s.heap.objs.size + 3 := by rw [Heap.size_push, z2]
  have z4 : (zh4 tup s.heap b1 b2).objs.size = s.heap.objs.size + 4 := by rw [Heap.size_push, z3]
  have up : ∀ {h : Heap} {o : Obj} {c : Addr} {v : Obj}, h.get? c = some v → (h.push o).get? c = some v := fun e => Heap.get?_push_of_some _ e
  have f5 : (zh5 tup s.heap b1 b2).get? (zh4 tup s.heap b1 b2).objs.size = some _ := Heap.get?_push_size _ rfl
  have f4 : (zh5 tup s.heap b1 b2).get? (zh3 tup s.heap b1 b2).objs.size = some _ := up (Heap.get?_push_size _ rfl)
  have f3 : (zh5 tup s.heap b1 b2).get? (zh2 tup s.heap b1 b2).objs.size = some _ := up (up (Heap.get?_push_size _ rfl))
  have zf : (zo tup b1).isFreed = false ∧ (zo tup b2).isFreed = false := by cases tup <;> exact ⟨rfl, rfl⟩
  have f2 : (zh5 tup s.heap b1 b2).get? (zh1 tup s.heap b1).objs.size = some (zo tup b2) := up (up (up (Heap.get?_push_size _ zf.2)))
  have f1 : (zh5 tup s.heap b1 b2).get? s.heap.objs.size = some (zo tup b1) := up (up (up (up (Heap.get?_push_size _ zf.1))))
  have k : ∀ c o, s.heap.get? c = some o → (zh5 tup s.heap b1 b2).get? c = some o := fun c o e => up (up (up (up (up e))))
  show _ ∧ _
  rw [z2, z3, z4] at f5
  rw [z1, z2] at f3
  rw [z3] at f4
  rw [z1] at f2
  rw [z4]
  have si : ∀ {a b : Addr}, (zh5 tup s.heap b1 b2).get? a = some (zo tup b) → SIt tup (zh5 tup s.heap b1 b2) a b 0 := fun e => by
    cases tup
    · exact ⟨_, e, rfl, rfl⟩
    · exact ⟨_, e, rfl, rfl⟩
  exact ⟨⟨_, f5, rfl⟩, q _ ⟨f5, f3, ⟨_, _, f4⟩, si f1, si f2, h1.mv fun o e => k _ o e, h2.mv fun o e => k _ o e⟩ k⟩
end
end U
namespace U
open PySem PySem.Spec PyProof.Rows L2
/-! ### dict(zip(a, b, strict=True)) as an expression -/
section
variable {M : Model} {A : Around} {E : Value → Shared → Prop} {s : Shared}
theorem callWith_typeK {pos : Pos} {T : String} {first : List Value} {args : List (Bool × Sem Value)} {kws : List (Option Str × Sem Value)} {Q : Value → Shared → Prop} (h1 : args.any (·.1) = false) (h2 : kws.any (·.1.isNone) = false)
    (h : wpAny M A (evalArgs (.type T) true args kws) (fun a s₁ => wpAny M A (call (.type T) (first ++ a.pos) a.kw) Q E s₁) E s) : wpAny M A (callWith pos (.type T) first args kws) Q E s := by
  unfold callWith
  refine wpAny_bind (wpAny_holding (wpAny_mono h (fun a s₁ q => wpAny_bind (wpAny_standAt ?_)) fun _ _ z => z))
  simp only [h1, h2, Bool.or_false]
  refine wpAny_bind (wpAny_pure ?_)
  exact wpAny_bind (wpAny_mono q (fun r s₂ hr => wpAny_bind (wpAny_holding (wpAny_point (wpAny_pure hr)))) fun _ _ z => z)
end
theorem kv_zip : ∀ {ks : List Key} {ys : List V} {us : List Value}, Vals ys us → KV (ks.zip ys) (ks.zip us)
  | [], _, _, _ => .nil
  | _ :: _, _, _, .nil => .nil
  | k :: ks, _, _, .cons h t => .cons ⟨rfl, h⟩ (kv_zip t)
theorem dict_zip {X : Cx} {pins : List (Addr × Obj)} {σ : L2.St} {H1 : Hp} {s1 : Shared} {Q : VK} {a b : Addr} {ks : List Key} {ys : List V} (hcalm : X.calm = true) (I1 : Inv X pins σ H1 s1) (st tup : Bool) (kx ky : List Value) (rk : Vals (ks.map kV) kx) (ry : Vals ys ky) (h1 : SSq tup s1.heap a kx.toArray) (h2 : SSq tup s1.heap b ky.toArray) (hz : kx.length ≤ sizeLine) (hst : st = true → ks.length = ys.length)
    (q : ∀ p, H1 p = none → Q (.ref p) (upd H1 p (.dK (mergeK [] (ks.zip ys))))) (g : Heap) (ok : ZNew st tup (s1.heap.objs.size + 4) (s1.heap.objs.size + 2) (s1.heap.objs.size + 3) s1.heap.objs.size (s1.heap.objs.size + 1) a b kx.toArray ky.toArray g) (k : ∀ c o, s1.heap.get? c = some o → g.get? c = some o) :
    wpAny (model X.prog X.w) X.A (call (.type "dict") [.ref (s1.heap.objs.size + 4)]) (EP X pins σ Q) X.xe { s1 with heap := g } := by
  have lk : ks.length = kx.length := by rw [← rk.length, List.length_map]
  have ly : ys.length = ky.length := ry.length
  obtain ⟨o1, e1⟩ := h1.ob
  obtain ⟨o2, e2⟩ := h2.ob
  have hsz : st = true → kx.toArray.size = ky.toArray.size := fun e => by have := hst e; rw [List.size_toArray, List.size_toArray]; omega
  refine PySem.call_dict_pairs (s := { s1 with heap := g }) (knd := mixKind X.prog X.w) (kvs := ks.zip ky) (zarg st tup _ _ _ _ _ a b (PySem.W.ktu_apart s1.heap.objs.size a b (Heap.lt_size e1) (Heap.lt_size e2)) kx.toArray ky.toArray hsz) (I1.ok.hd hcalm) ok ⟨?_, fun i key v ⟨g1, g2⟩ => ?_⟩ ?_ fun h' tk hd' k' => ?_
  · rw [List.length_zip, List.size_toArray, List.size_toArray, lk]
  · have g1' : kx[i]? = some key := by simpa using g1
    have g2' : ky[i]? = some v := by simpa using g2
    have hi := (List.getElem?_eq_some_iff.mp g1').1
    obtain ⟨kk, ek⟩ : ∃ kk, ks[i]? = some kk := ⟨_, List.getElem?_eq_getElem (by omega)⟩
    obtain ⟨u, eu, ru⟩ := rk.get (show (ks.map kV)[i]? = some (kV kk) by rw [List.getElem?_map, ek]; rfl)
    rw [g1'] at eu
    cases eu
    exact ⟨kk, by rw [List.getElem?_zip_eq_some]; exact ⟨ek, g2'⟩, kV_is (P := X.prog) (w := X.w) ru⟩
  · rw [List.size_toArray]; exact Nat.le_trans (Nat.min_le_left ..) hz
  · have kk : ∀ c o, s1.heap.get? c = some o → h'.get? c = some o := fun c o e => k' c o (fun hm => by
      have hlt := Heap.lt_size e
      simp only [List.mem_cons, List.not_mem_nil, or_false] at hm
      rcases hm with z | z | z | z <;> (rw [z] at hlt; exact absurd hlt (Nat.not_lt.mpr (by first | exact Nat.le_refl _ | exact Nat.le_add_right _ _)))) (k c o e)
    have big : s1.heap.objs.size ≤ g.objs.size := Nat.le_of_lt (Nat.lt_of_le_of_lt (Nat.le_add_right _ 4) (Heap.lt_size ok.1))
    have hm : (g.objs.size == sysModules) = false := beq_eq_false_iff_ne.mpr (Nat.ne_of_gt (Nat.lt_of_lt_of_le I1.big big))
    have rel : KV (ks.zip ys) (ks.zip ky) := kv_zip ry
    have hlen : (mergeK [] (ks.zip ys)).length ≤ sizeLine := by
      refine Nat.le_trans (length_mergeK (ks.zip ys) []) ?_
      rw [List.length_nil, Nat.zero_add, List.length_zip, lk]
      exact Nat.le_trans (Nat.min_le_left ..) hz
    exact ⟨.ref g.objs.size, upd H1 g.objs.size (.dK (mergeK [] (ks.zip ys))), I1.laid (t' := tk) kk big (show ObjOk X.prog X.w _ _ _ (.dK (mergeK [] (ks.zip ys))) from ⟨hlen, hm, merged [] (ks.zip ky), KV.merge rel .nil, hd'⟩), rfl, q _ (I1.hok.fresh big)⟩
def rDictZip (K : PySem.W.Frag) : List V → Hp → VK → Prop := fun vs H Q => ∃ (a b : Addr) (ks : List Key) (ys : List V), vs = [.ref a, .ref b] ∧ ((SqL K H a (ks.map kV) ∧ SqL K H b ys) ∨ (SqT K H a (ks.map kV) ∧ SqT K H b ys)) ∧ ks.length = ys.length ∧ ∀ p, H p = none → Q (.ref p) (upd H p (.dK (mergeK [] (ks.zip ys))))
def tDictZip (K : PySem.W.Frag) (ta : TA) : TE := fun σ H Q => ta σ H fun vs H1 => rDictZip K vs H1 Q
theorem pe_dictZip {X : Cx} {e e2 : Expr} {ta : TA} {p p2 kp cp cpos pos : Pos} {cj : Nat} (hcalm : X.calm = true) (ha : PA X [e, e2] ta) (hg : Gl X "dict") (hm : X.mg "dict" = none) (hv : bootBuiltins "dict" = some (.type "dict")) (hgz : Gl X "zip") (hmz : X.mg "zip" = none)
    (hs : starEach [.Call (.Name "zip" p2) [e, e2] [⟨some "strict", .Constant (.bool true) cj cp, kp⟩] cpos] X.env = (false, eval (.Call (.Name "zip" p2) [e, e2] [⟨some "strict", .Constant (.bool true) cj cp, kp⟩] cpos) X.env) :: starEach [] X.env := by rfl)
    (hs2 : starEach [e, e2] X.env = (false, eval e X.env) :: starEach [e2] X.env := by rfl) (hpl : (backTo cpos (starEach [e, e2] X.env)).any (·.1) = false := by rfl) :
    PE X (.Call (.Name "dict" p) [.Call (.Name "zip" p2) [e, e2] [⟨some "strict", .Constant (.bool true) cj cp, kp⟩] cpos] [] pos) (tDictZip X.K ta) := by
  refine ⟨fun pins s σ H Q I hq => wpAny_Call_Name_kw (ld_blt I hg hm hv (PyProof.Rows.callWith_type1 ?_ hs rfl))⟩
  rw [hs]
  show wpAny _ _ (spliced ((false, eval (.Call (.Name "zip" p2) [e, e2] _ cpos) X.env) :: backTo pos (starEach [] X.env))) _ _ s
  refine Calls.spliced_cons (wpAny_Call_Name_kw (ld_blt I hgz hmz PyProof.Rows.boot_zip (callWith_typeK hpl rfl ?_)))
  rw [hs2]
  refine PyProof.Rows.evalArgs_kwB (by rfl) ?_
  have h0 := ha.run cpos pins s σ H _ I hq
  rw [hs2] at h0
  refine thn h0 fun us s1 ⟨vs, H1, I1, r, a, b, ks, ys, ex, hab, hl, q⟩ => ?_
  subst ex
  cases r with
  | cons r rr =>
    cases rr with
    | cons r' rr =>
      cases rr
      cases r
      cases r'
      show wpAny _ _ (evalAll ((do let v ← eval (.Constant (.bool true) cj cp) X.env; standAt cpos; pure v) :: [])) _ _ s1
      refine PyProof.Rows.evalAll_cons (wpAny_bind (PySem.wpAny_Constant_bool (wpAny_bind (wpAny_standAt (wpAny_pure (PyProof.Rows.evalAll_nil ?_))))))
      show wpAny _ _ (call (.type "zip") [.ref a, .ref b] [("strict", .bool true)]) _ _ s1
      have main : ∀ (tup : Bool) (kx ky : List Value), Vals (ks.map kV) kx → Vals ys ky → SSq tup s1.heap a kx.toArray → SSq tup s1.heap b ky.toArray → kx.length ≤ sizeLine → wpAny (model X.prog X.w) X.A (call (.type "zip") [.ref a, .ref b] [("strict", .bool true)]) (fun v s2 => wpAny (model X.prog X.w) X.A (call (.type "dict") [v]) (EP X pins σ Q) X.xe s2) X.xe s1 := fun tup kx ky rk ry h1 h2 hz =>
        zarg_call tup h1 h2 fun g ok k => dict_zip hcalm I1 true tup kx ky rk ry h1 h2 hz (fun _ => hl) q g ok k
      refine wpAny_mono ?_ (fun v s2 z => Calls.spliced_nil z) fun _ _ z => z
      rcases hab with ⟨ha', hb'⟩ | ⟨ha', hb'⟩
      · obtain ⟨kx, rk, p1, z1⟩ := I1.list ha'
        obtain ⟨ky, ry, p2, _⟩ := I1.list hb'
        exact main false kx ky rk ry p1.isList p2.isList (by rw [← rk.length]; exact z1)
      · obtain ⟨kx, rk, p1, z1⟩ := I1.tuple ha'
        obtain ⟨ky, ry, p2, _⟩ := I1.tuple hb'
        exact main true kx ky rk ry p1 p2 (by rw [← rk.length]; exact z1)
/-! ### dict(zip(a, b)) -/
theorem zarg_call0 {prog : Program} {w : World} {A : Around} {E : Value → Shared → Prop} {s : Shared} (tup : Bool) {b1 b2 : Addr} {xs ys : Array Value} {Q : Value → Shared → Prop} (h1 : SSq tup s.heap b1 xs) (h2 : SSq tup s.heap b2 ys)
    (q : ∀ g, ZNew false tup (s.heap.objs.size + 4) (s.heap.objs.size + 2) (s.heap.objs.size + 3) s.heap.objs.size (s.heap.objs.size + 1) b1 b2 xs ys g → (∀ c o, s.heap.get? c = some o → g.get? c = some o) → Q (.ref (s.heap.objs.size + 4)) { s with heap := g }) :
    wpAny (model prog w) A (call (.type "zip") [.ref b1, .ref b2]) Q E s := by
  cases tup
  · exact call_zip_2 h1 h2 fun g e1 e2 e3 e4 e5 _ k => q g ⟨e1, e2, ⟨_, _, e3⟩, e4, e5, h1.mv fun o e => k _ o e, h2.mv fun o e => k _ o e⟩ k
  · exact RZ.call_zipT h1 h2 fun g e1 e2 e3 e4 e5 _ k => q g ⟨e1, e2, ⟨_, _, e3⟩, e4, e5, h1.mv fun o e => k _ o e, h2.mv fun o e => k _ o e⟩ k
def rDictZip0 (K : PySem.W.Frag) : List V → Hp → VK → Prop := fun vs H Q => ∃ (a b : Addr) (ks : List Key) (ys : List V), vs = [.ref a, .ref b] ∧ ((SqL K H a (ks.map kV) ∧ SqL K H b ys) ∨ (SqT K H a (ks.map kV) ∧ SqT K H b ys)) ∧ ∀ p, H p = none → Q (.ref p) (upd H p (.dK (mergeK [] (ks.zip ys))))
def tDictZip0 (K : PySem.W.Frag) (ta : TA) : TE := fun σ H Q => ta σ H fun vs H1 => rDictZip0 K vs H1 Q
theorem pe_dictZip0 {X : Cx} {e e2 : Expr} {ta : TA} {p p2 cpos pos : Pos} (hcalm : X.calm = true) (ha : PA X [e, e2] ta) (hg : Gl X "dict") (hm : X.mg "dict" = none) (hv : bootBuiltins "dict" = some (.type "dict")) (hgz : Gl X "zip") (hmz : X.mg "zip" = none)
    (hs : starEach [.Call (.Name "zip" p2) [e, e2] [] cpos] X.env = (false, eval (.Call (.Name "zip" p2) [e, e2] [] cpos) X.env) :: starEach [] X.env := by rfl)
    (hs2 : starEach [e, e2] X.env = (false, eval e X.env) :: starEach [e2] X.env := by rfl) (hpl : (backTo cpos (starEach [e2] X.env)).any (·.1) = false := by rfl) :
    PE X (.Call (.Name "dict" p) [.Call (.Name "zip" p2) [e, e2] [] cpos] [] pos) (tDictZip0 X.K ta) := by
  refine ⟨fun pins s σ H Q I hq => wpAny_Call_Name_kw (ld_blt I hg hm hv (PyProof.Rows.callWith_type1 ?_ hs rfl))⟩
  rw [hs]
  show wpAny _ _ (spliced ((false, eval (.Call (.Name "zip" p2) [e, e2] [] cpos) X.env) :: backTo pos (starEach [] X.env))) _ _ s
  refine Calls.spliced_cons (wpAny_Call_Name_kw (ld_blt I hgz hmz PyProof.Rows.boot_zip (PyProof.Rows.callWith_type1 (thn (ha.run cpos pins s σ H _ I hq) fun us s1 ⟨vs, H1, I1, r, a, b, ks, ys, ex, hab, q⟩ => ?_) hs2 hpl)))
  subst ex
  cases r with
  | cons r rr =>
    cases rr with
    | cons r' rr =>
      cases rr
      cases r
      cases r'
      refine wpAny_mono ?_ (fun v s2 z => Calls.spliced_nil z) fun _ _ z => z
      rcases hab with ⟨ha', hb'⟩ | ⟨ha', hb'⟩
      · obtain ⟨kx, rk, p1, z1⟩ := I1.list ha'
        obtain ⟨ky, ry, p2, _⟩ := I1.list hb'
        have z2 : kx.length ≤ sizeLine := by rw [← rk.length]; exact z1
        exact zarg_call0 false (xs := kx.toArray) (ys := ky.toArray) p1.isList p2.isList fun g ok k => dict_zip hcalm I1 false false kx ky rk ry p1.isList p2.isList z2 (fun z => nomatch z) q g ok k
      · obtain ⟨kx, rk, p1, z1⟩ := I1.tuple ha'
        obtain ⟨ky, ry, p2, _⟩ := I1.tuple hb'
        have z2 : kx.length ≤ sizeLine := by rw [← rk.length]; exact z1
        exact zarg_call0 true (xs := kx.toArray) (ys := ky.toArray) p1 p2 fun g ok k => dict_zip hcalm I1 false true kx ky rk ry p1 p2 z2 (fun z => nomatch z) q g ok k
end U
namespace U
open PySem PySem.Spec PyProof.Rows L2
/-! ### xs[1::-1] of a list of two to four items -/
theorem ix_listK {X : Cx} {K : PySem.W.Frag} (h : X.K = K) : IxR X (rIxL K) := by
  subst h
  exact ix_list
end U
set_option maxHeartbeats 1000000
namespace My
open PySem L2 U StX PM
theorem call_len_seqK {X : Cx} {K0 : PySem.W.Frag} (hK : X.K = K0) : CallR X (.builtin "len") (fun xs H Q => ∃ p ys, xs = [V.ref p] ∧ (SqL K0 H p ys ∨ SqT K0 H p ys) ∧ Q (.int ((ys.length : Nat) : Int)) H) := by
  subst hK
  exact call_len_seq
theorem flat_one : ∀ k : Nat, ((List.replicate k [V.non]).flatten).length = k
  | 0 => rfl
  | k + 1 => by rw [List.replicate_succ, List.flatten_cons, List.length_append, flat_one k, List.length_singleton]; omega
theorem kvI_zipI (as bs : List Int) : (as.map (Sum.inl : Int → Key)).zip (bs.map V.int) = kvI (as.zip bs) := by
  unfold kvI
  rw [List.zip_map]
  rfl
theorem map_kVI (as : List Int) : (as.map (Sum.inl : Int → Key)).map kV = as.map V.int := by
  rw [List.map_map]
  rfl
theorem merge_new : ∀ (r l : List (Int × Int)), ((l ++ r).map (·.1)).Nodup → mergeK (kvI l) (kvI r) = kvI (l ++ r)
  | [], l, _ => by rw [List.append_nil]; rfl
  | (x, y) :: r, l, nd => by
    have e : l ++ (x, y) :: r = (l ++ [(x, y)]) ++ r := by simp
    have hx : x ∉ l.map (·.1) := by
      rw [List.map_append, List.map_cons] at nd
      have := (List.nodup_append.mp nd).2.2
      intro h
      exact this x h x List.mem_cons_self rfl
    show mergeK (putK (kvI l) (Sum.inl x) (V.int y)) (kvI r) = _
    rw [putK_kvI hx, e]
    rw [e] at nd
    exact merge_new r (l ++ [(x, y)]) nd
theorem merge_nil {m : List (Int × Int)} (nd : (m.map (·.1)).Nodup) : mergeK [] (kvI m) = kvI m := merge_new m [] nd
theorem cut_drop (xs : List V) (k : Nat) (h : k ≤ xs.length) : cutV xs (some (k : Int)) none = xs.drop k := by
  have h1 : HT.sIx xs.length 0 (some (k : Int)) = k := by
    show (if (k : Int) < 0 then ((k : Int) + ((xs.length : Nat) : Int)).toNat else min (k : Int).toNat xs.length) = k
    rw [if_neg (by omega)]
    omega
  unfold cutV
  rw [h1, HT.sIx_none]
  exact List.take_of_length_le (by rw [List.length_drop]; omega)
theorem cut_take (xs : List V) (k : Nat) (h : k ≤ xs.length) : cutV xs none (some (k : Int)) = xs.take k := by
  have h1 : HT.sIx xs.length xs.length (some (k : Int)) = k := by
    show (if (k : Int) < 0 then ((k : Int) + ((xs.length : Nat) : Int)).toNat else min (k : Int).toNat xs.length) = k
    rw [if_neg (by omega)]
    omega
  unfold cutV
  rw [h1, HT.sIx_none]
  rfl
theorem ixN_nat {n j : Nat} (h : j < n) : ixN n (j : Int) = some j := by
  unfold ixN
  rw [if_pos (by omega), if_pos (by omega), Int.toNat_natCast]
/-- what the places hold is woven -/
theorem woven_ex {G : List (List Int)} {d L : Nat} {pl : List V} (hL : ∀ r ∈ G, r.length = L) (L0 : 0 < L) (s0 : 0 < G.length) (hd : G.length ∣ d) (hc : Nat.Coprime L (d / G.length)) (hl : pl.length = G.length * L)
    (hp : ∀ (i : Nat) (r : List Int) (t : Nat) (a : Int), G[i]? = some r → r[t]? = some a → pl[(i + t * d) % (G.length * L)]? = some (.int a)) : ∃ P : List Int, pl = P.map V.int ∧ Woven G d L P := by
  have hall : ∀ q, q < pl.length → ∃ a, pl[q]? = some (.int a) := fun q hq => by
    obtain ⟨i, t, hi, ht, e⟩ := surj hd hc s0 L0 (q := q) (by omega)
    have e1 : G[i]? = some G[i] := List.getElem?_eq_getElem hi
    have hr := hL _ (List.getElem_mem hi)
    have e2 : G[i][t]? = some (G[i][t]'(by omega)) := List.getElem?_eq_getElem (by omega)
    have := hp i _ t _ e1 e2
    rw [e] at this
    exact ⟨_, this⟩
  refine ⟨pl.map fun v => match v with | .int a => a | _ => 0, ?_, ?_⟩
  · refine List.ext_getElem? fun q => ?_
    rw [List.getElem?_map, List.getElem?_map]
    by_cases hq : q < pl.length
    · obtain ⟨a, e⟩ := hall q hq
      rw [e]
      rfl
    · rw [List.getElem?_eq_none (by omega)]
      rfl
  · refine ⟨hL, L0, s0, hd, by rw [List.length_map]; exact hl, fun i r t a h1 h2 => ?_⟩
    rw [List.getElem?_map, hp i r t a h1 h2]
    rfl
theorem woven_perm {G : List (List Int)} {d L : Nat} {P : List Int} (W : Woven G d L P) (hc : Nat.Coprime L (d / G.length)) (nd : G.flatten.Nodup) : P.Perm G.flatten := by
  have hx : ∀ q a, P[q]? = some a → ∃ i r t, G[i]? = some r ∧ r[t]? = some a ∧ (i + t * d) % (G.length * L) = q ∧ i < G.length ∧ t < L := fun q a hq => by
    have hlt := (List.getElem?_eq_some_iff.mp hq).1
    rw [W.len] at hlt
    obtain ⟨i, t, hi, ht, e⟩ := surj W.hd hc W.s0 W.L0 hlt
    have e1 : G[i]? = some G[i] := List.getElem?_eq_getElem hi
    have hr := W.hL _ (List.getElem_mem hi)
    have e2 : G[i][t]? = some (G[i][t]'(by omega)) := List.getElem?_eq_getElem (by omega)
    have := W.at_ i _ t _ e1 e2
    rw [e, hq] at this
    cases this
    exact ⟨i, _, t, e1, e2, e, hi, ht⟩
  have ndP : P.Nodup := nodup_of_get fun q k a h1 h2 => by
    obtain ⟨i, r, t, a1, a2, a3, a4, a5⟩ := hx q a h1
    obtain ⟨i', r', t', b1, b2, b3, b4, b5⟩ := hx _ a h2
    obtain ⟨c1, c2⟩ := flat_uniq nd a1 b1 a2 b2
    rw [c1, c2, b3] at a3
    omega
  rw [List.perm_ext_iff_of_nodup ndP nd]
  intro a
  rw [List.mem_flatten]
  constructor
  · intro h
    obtain ⟨q, hq⟩ := List.getElem?_of_mem h
    obtain ⟨i, r, t, a1, a2, _⟩ := hx q a hq
    exact ⟨r, List.mem_of_getElem? a1, List.mem_of_getElem? a2⟩
  · rintro ⟨r, hr, ha⟩
    obtain ⟨i, hi⟩ := List.getElem?_of_mem hr
    obtain ⟨t, ht⟩ := List.getElem?_of_mem ha
    exact List.mem_of_getElem? (W.at_ i r t a hi ht)
def spCR : Sp := fun vs H Q _ => ∃ (g : Addr) (as : List Addr) (G : List (List Int)) (d L : Nat), vs = [.ref g, .int (d : Int)] ∧ H g = some (.lst (as.map V.ref)) ∧ RowsAt H as G ∧ (∀ r ∈ G, r.length = L) ∧ 1 ≤ L ∧ 1 ≤ G.length ∧ G.length * L ≤ 300 ∧ G.length ∣ d ∧ Nat.Coprime L (d / G.length) ∧ G.flatten.Nodup ∧
  ∀ D P H', H D = none → H' D = some (.dK (kvI (arC P))) → Woven G d L P → P.Perm G.flatten → Same H H' → Q (.ref D) H'
section
variable {P : Program} {w : World} {K : PySem.W.Frag} {mg : Str → Option Value} {base : Heap}
set_option pp.maxSteps 3000 in
theorem ok_cycle_root (T : Txt K mg) : FnR P w K mg base CX0 2 T.f_cycle_root spCR := by
  refine T.A_cycle_root.ok sc_cycle_root (fun vs H Q E h => ?_) (fun cdv A outer s H vs Q E hr h => ?_)
  · obtain ⟨g, as, G, d, L, rfl, _⟩ := h
    rfl
  · obtain ⟨g, as, G, d, L, rfl, hg, hrows, hL, L0, s0, hm, hd, hc, nd, q⟩ := h
    have hu := hu_of hr
    refine ⟨_, (pss_cons (ps_set (i := 2) sc_cycle_root.nd rfl (Or.inl rfl) (pe_op op_mul (pe_callB call_len_seq (by rfl) T.n_len (by decide +kernel) (pa_cons (pv 0) pa_nil)) (pe_callB call_len_seq (by rfl) T.n_len (by decide +kernel) (pa_cons (pe_ix ix_list (pv 0) pe_int (fun _ _ => rfl)) pa_nil))))
      (pss_cons (ps_set (i := 3) sc_cycle_root.nd rfl (Or.inl rfl) (pe_op op_rep (pe_lst (pa_cons pe_non pa_nil)) (pv 2)))
      (pss_cons (ps_for PassesOwn.never rfl (pi_enum rfl T.n_enumerate (pa_cons (pv 0) pa_nil)) (pg_tup rfl (pgs_cons (pg_name (i := 4) sc_cycle_root.nd rfl (Or.inl rfl)) (pgs_cons (pg_name (i := 5) sc_cycle_root.nd rfl (Or.inl rfl)) pgs_nil)))
        (pss_one (ps_for PassesOwn.never rfl (pi_enum rfl T.n_enumerate (pa_cons (pv 5) pa_nil)) (pg_tup rfl (pgs_cons (pg_name (i := 6) sc_cycle_root.nd rfl (Or.inl rfl)) (pgs_cons (pg_name (i := 7) sc_cycle_root.nd rfl (Or.inl rfl)) pgs_nil)))
        (pss_one (ps_asg (pv 7) (pg_sub (pv 3) (pe_op op_mod (pe_op op_add (pv 4) (pe_op op_mul (pv 6) (pv 1))) (pv 2)) set_list))))))
      (pss_one (ps_ret (pe_dictZip rfl (pa_cons (pv 3) (pa_cons (pe_op op_cat (pe_slice sl_list (pv 3) (po_some pe_int) po_none) (pe_slice sl_list (pv 3) po_none (po_some pe_int))) pa_nil)) rfl T.n_dict (by decide +kernel) rfl T.n_zip)))))), ?_⟩
    have hal := hrows.len
    obtain ⟨a0, ha0⟩ : ∃ a, as[0]? = some a := ⟨_, List.getElem?_eq_getElem (by omega)⟩
    obtain ⟨r0, hr0, er0⟩ := hrows.get 0 a0 ha0
    have hL0 := hL r0 (List.mem_of_getElem? hr0)
    have hnl : ((as.map V.ref).length : Nat) = G.length := by rw [List.length_map]; exact hal
    have hml : G.length ≤ G.length * L := Nat.le_mul_of_pos_right _ L0
    have hmL : L ≤ G.length * L := Nat.le_mul_of_pos_left _ s0
    have e00 : (as.map V.ref)[0]? = some (V.ref a0) := by rw [List.getElem?_map, ha0]; rfl
    refine ⟨_, rfl, g, _, rfl, .inl (SqL.of hg), _, rfl, g, _, 0, _, rfl, rfl, SqL.of hg, atI_nat (j := 0) e00, a0, _, rfl, .inl (SqL.of er0), (G.length : Int), (L : Int), by rw [hnl], by rw [List.length_map, hL0], .inl ⟨by omega, by omega⟩, ?_⟩
    have ek : ((G.length : Int) * (L : Int)) = ((G.length * L : Nat) : Int) := (Int.natCast_mul ..).symm
    refine ⟨one_le, ?_⟩
    refine fun l0 n_l0 => ?_
    generalize g_l0 : L2.upd _ l0 _ = H1
    obtain ⟨s_H1, e_l0⟩ := U.upd_facts g_l0 n_l0
    clear g_l0
    refine ⟨_, rfl, l0, _, _, rfl, rfl, e_l0, by show (-9223372036854775808 : Int) ≤ _; omega, by show _ < (9223372036854775808 : Int); omega, le_line (by rw [ek, Int.toNat_natCast, List.length_singleton]; omega), ?_⟩
    refine fun pl n_pl => ?_
    generalize g_pl : L2.upd _ pl _ = H2
    obtain ⟨s_H2, e_pl⟩ := U.upd_facts g_pl n_pl
    clear g_pl
    have s02 := s_H1.trans s_H2
    have npl : H pl = none := s_H1.free n_pl
    refine ⟨_, rfl, g, _, rfl, SqL.of (s02 _ _ hg), ?_⟩
    refine for_it (walk_enum (xs := as.map V.ref)) (fun i σ H' => ∃ (vs : List V) (v4 v5 v6 v7 : Option V), σ = [some (.ref g), some (.int (d : Int)), some (.int ((G.length : Int) * (L : Int))), some (.ref pl), v4, v5, v6, v7] ∧ Same H H' ∧ H' pl = some (.lst vs) ∧ vs.length = G.length * L ∧ ∀ i' r t a, i' < i → G[i']? = some r → r[t]? = some a → vs[(i' + t * d) % (G.length * L)]? = some (.int a))
      ⟨_, _, _, _, _, rfl, s02, e_pl, by rw [flat_one, ek, Int.toNat_natCast], fun i' r t a z => absurd z (Nat.not_lt_zero _)⟩ (fun i σ H' _ ⟨_, _, _, _, _, _, z, _⟩ => SqL.of (z _ _ hg)) ?_ ?_
    · rintro i v σ Ha0 Ha hi ⟨vs, v4, v5, v6, v7, rfl, q1, q2, q3, q4⟩ ⟨u0, x, y, rfl, n_u0, rfl, e1, e2⟩
      cases e1
      rw [hnl] at hi
      replace e2 : (as.map V.ref)[i]? = some y := e2
      rw [List.getElem?_map] at e2
      obtain ⟨ai, hai⟩ : ∃ a, as[i]? = some a := ⟨_, List.getElem?_eq_getElem (by omega)⟩
      rw [hai] at e2
      cases e2
      obtain ⟨ri, hri, eri⟩ := hrows.get i ai hai
      have hLi := hL ri (List.mem_of_getElem? hri)
      generalize g_u0 : L2.upd _ u0 _ = Hb
      obtain ⟨s_Hb, e_u0⟩ := U.upd_facts g_u0 n_u0
      clear g_u0
      refine ⟨u0, [.int i, .ref ai], rfl, SqT.of e_u0, rfl, .int i, [.ref ai], rfl, .ref ai, [], rfl, rfl, ?_⟩
      replace q1 := q1.trans s_Hb
      replace q2 := s_Hb _ _ q2
      refine ⟨_, rfl, ai, _, rfl, SqL.of (q1 _ _ eri), ?_⟩
      refine for_it (walk_enum (xs := ri.map V.int)) (fun j σ H' => ∃ (vs : List V) (v6 v7 : Option V), σ = [some (.ref g), some (.int (d : Int)), some (.int ((G.length : Int) * (L : Int))), some (.ref pl), some (.int i), some (.ref ai), v6, v7] ∧ Same H H' ∧ H' pl = some (.lst vs) ∧ vs.length = G.length * L ∧ (∀ i' r t a, i' < i → G[i']? = some r → r[t]? = some a → vs[(i' + t * d) % (G.length * L)]? = some (.int a)) ∧ ∀ t a, t < j → ri[t]? = some a → vs[(i + t * d) % (G.length * L)]? = some (.int a))
        ⟨vs, _, _, rfl, q1, q2, q3, q4, fun t a z => absurd z (Nat.not_lt_zero _)⟩ (fun i σ H' _ ⟨_, _, _, _, z, _⟩ => SqL.of (z _ _ eri)) ?_ ?_
      · rintro j v σ Hc0 Hc hj ⟨vs, v6, v7, rfl, p1, p2, p3, p4, p5⟩ ⟨u1, x, y, rfl, n_u1, rfl, e1, e2⟩
        cases e1
        rw [List.length_map] at hj
        obtain ⟨b, hb⟩ : ∃ b, ri[j]? = some b := ⟨_, List.getElem?_eq_getElem hj⟩
        replace e2 : (ri.map V.int)[j]? = some y := e2
        rw [List.getElem?_map, hb] at e2
        cases e2
        generalize g_u1 : L2.upd _ u1 _ = Hd
        obtain ⟨s_Hd, e_u1⟩ := U.upd_facts g_u1 n_u1
        clear g_u1
        refine ⟨u1, [.int j, .int b], rfl, SqT.of e_u1, rfl, .int j, [.int b], rfl, .int b, [], rfl, rfl, ?_⟩
        replace p1 := p1.trans s_Hd
        replace p2 := s_Hd _ _ p2
        have hjL : j < L := by omega
        have hpos : 0 < G.length * L := Nat.mul_pos s0 L0
        have eix : ((i : Int) + (j : Int) * (d : Int)) % ((G.length : Int) * (L : Int)) = (((i + j * d) % (G.length * L) : Nat) : Int) := by
          rw [ek, ← Int.natCast_mul, ← Int.natCast_add, Int.natCast_emod]
        have hlt := Nat.mod_lt (i + j * d) hpos
        refine ⟨_, rfl, _, rfl, _, rfl, _, rfl, _, rfl, (j : Int), (d : Int), rfl, rfl, .inl ⟨by omega, by omega⟩, (i : Int), (j : Int) * (d : Int), rfl, rfl, _, rfl, (i : Int) + (j : Int) * (d : Int), (G.length : Int) * (L : Int), rfl, rfl, by rw [ek]; omega, ?_⟩
        refine ⟨pl, _, ((i : Int) + (j : Int) * (d : Int)) % ((G.length : Int) * (L : Int)), (i + j * d) % (G.length * L), rfl, rfl, p2, by rw [eix, p3]; exact ixN_nat hlt, ?_⟩
        refine ⟨vs.set ((i + j * d) % (G.length * L)) (.int b), _, _, rfl, Same.put p1 npl, upd_same, by rw [List.length_set]; exact p3, fun i' r t a hlt' hr ha => ?_, fun t a htj ha => ?_⟩
        · have hne : (i + j * d) % (G.length * L) ≠ (i' + t * d) % (G.length * L) := fun z => by
            have ht := (List.getElem?_eq_some_iff.mp ha).1
            have := hL r (List.mem_of_getElem? hr)
            have := (widx hd hc s0 (by omega) (by omega) hjL (by omega) z).1
            omega
          rw [List.getElem?_set_ne hne]
          exact p4 i' r t a hlt' hr ha
        · by_cases htj' : t = j
          · subst htj'
            rw [hb] at ha
            cases ha
            exact List.getElem?_set_self (by omega)
          · have hne : (i + j * d) % (G.length * L) ≠ (i + t * d) % (G.length * L) := fun z => by
              have ht := (List.getElem?_eq_some_iff.mp ha).1
              have := (widx hd hc s0 (by omega) (by omega) hjL (by omega) z).2
              omega
            rw [List.getElem?_set_ne hne]
            exact p5 t a (by omega) ha
      · rintro σ Hc ⟨vs, v6, v7, rfl, p1, p2, p3, p4, p5⟩
        refine ⟨vs, _, _, _, _, rfl, p1, p2, p3, fun i' r t a hlt' hr ha => ?_⟩
        by_cases h : i' = i
        · subst h
          rw [hri] at hr
          cases hr
          exact p5 t a (by rw [List.length_map]; exact (List.getElem?_eq_some_iff.mp ha).1) ha
        · exact p4 i' r t a (by omega) hr ha
    · rintro σ Ha ⟨vs, v4, v5, v6, v7, rfl, q1, q2, q3, q4⟩
      obtain ⟨Pl, rfl, W⟩ := woven_ex hL L0 s0 hd hc q3 fun i r t a h1 h2 => q4 i r t a (by have := (List.getElem?_eq_some_iff.mp h1).1; omega) h1 h2
      have pm := woven_perm W hc nd
      have ndP : Pl.Nodup := pm.nodup_iff.mpr nd
      rw [List.length_map] at q3
      have h1P : 1 ≤ (Pl.map V.int).length := by rw [List.length_map]; omega
      refine ⟨_, rfl, _, rfl, 1, rfl, ?_⟩
      dsimp only [tNoPart]
      refine ⟨pl, _, rfl, SqL.of q2, ?_⟩
      refine fun w1 n_w1 => ?_
      generalize g_w1 : L2.upd _ w1 _ = H3
      obtain ⟨s_H3, e_w1⟩ := U.upd_facts g_w1 n_w1
      clear g_w1
      refine ⟨_, rfl, 1, rfl, ?_⟩
      refine ⟨pl, _, rfl, SqL.of (s_H3 _ _ q2), ?_⟩
      refine fun w2 n_w2 => ?_
      generalize g_w2 : L2.upd _ w2 _ = H4
      obtain ⟨s_H4, e_w2⟩ := U.upd_facts g_w2 n_w2
      clear g_w2
      have e_w1' := s_H4 _ _ e_w1
      rw [show cutV (Pl.map V.int) (some 1) none = (Pl.map V.int).drop 1 from cut_drop _ 1 h1P] at e_w1'
      rw [show cutV (Pl.map V.int) none (some 1) = (Pl.map V.int).take 1 from cut_take _ 1 h1P] at e_w2
      refine ⟨w1, w2, _, _, rfl, rfl, e_w1', e_w2, le_line (by simp only [List.length_drop, List.length_take, List.length_map]; omega), ?_⟩
      refine fun w3 n_w3 => ?_
      generalize g_w3 : L2.upd _ w3 _ = H5
      obtain ⟨s_H5, e_w3⟩ := U.upd_facts g_w3 n_w3
      clear g_w3
      have eq4 : (Pl.map V.int).drop 1 ++ (Pl.map V.int).take 1 = (rot Pl).map V.int := by
        unfold rot
        rw [List.map_append, List.map_take, ← List.drop_one, List.map_drop]
      rw [eq4] at e_w3
      have s5 := ((q1.trans s_H3).trans s_H4).trans s_H5
      have q25 := s_H5 _ _ (s_H4 _ _ (s_H3 _ _ q2))
      refine ⟨pl, w3, Pl.map Sum.inl, _, rfl, .inl ⟨by rw [map_kVI]; exact SqL.of q25, SqL.of e_w3⟩, by rw [List.length_map, List.length_map, rot_len], ?_⟩
      rw [kvI_zipI]
      show ∀ p, H5 p = none → Q (.ref p) (upd H5 p (.dK (mergeK [] (kvI (arC Pl)))))
      rw [merge_nil (by rw [arC_keys]; exact ndP)]
      refine fun D n_D => ?_
      generalize g_D : L2.upd _ D _ = H6
      obtain ⟨s_H6, e_D⟩ := U.upd_facts g_D n_D
      clear g_D
      exact q D Pl H6 (s5.free n_D) e_D W pm (s5.trans s_H6)
end
end My
set_option maxHeartbeats 1000000
namespace My
open PySem L2 U StX PM
theorem ret_of {t : TE} {D : Ends} {σ : L2.St} {H : Hp} (h : t σ H D.rt) : tRet t D σ H := h
theorem nx_of {X : L2.St → Hp → Prop} {r : VK} {b c : L2.St → Hp → Prop} {σ : L2.St} {H : Hp} (h : X σ H) : Ends.nx { nx := X, rt := r, bk := b, ct := c } σ H := h
theorem cons_of {t : TE} {σ : L2.St} {H : Hp} {Q : List V → Hp → Prop} (h : t σ H fun x H1 => Q [x] H1) : tCons t tNil σ H Q := h
def toI : V → Int | .int i => i | _ => 0
theorem toI_map (r : List Int) : (r.map V.int).map toI = r := by
  rw [List.map_map]
  exact List.map_id' r
noncomputable def rowOf (H : Hp) (a : Addr) : List Int := match H a with | some (.lst xs) => xs.map toI | _ => []
theorem rowOf_eq {H : Hp} {a : Addr} {r : List Int} (h : H a = some (.lst (r.map V.int))) : rowOf H a = r := by
  unfold rowOf
  rw [h]
  exact toI_map r
theorem RowsAt.rowOf {H : Hp} : ∀ {as : List Addr} {G : List (List Int)}, RowsAt H as G → G = as.map (My.rowOf H)
  | [], [], _ => rfl
  | _ :: _, _ :: _, h => by rw [List.map_cons, rowOf_eq h.1, ← RowsAt.rowOf h.2]
  | [], _ :: _, h => h.elim
  | _ :: _, [], h => h.elim
theorem rowsAt_of {H : Hp} : ∀ {as : List Addr}, (∀ a ∈ as, ∃ r : List Int, H a = some (.lst (r.map V.int))) → RowsAt H as (as.map (My.rowOf H))
  | [], _ => trivial
  | a :: as, h => by
    obtain ⟨r, e⟩ := h a List.mem_cons_self
    refine ⟨by rw [rowOf_eq e]; exact e, rowsAt_of fun b hb => h b (List.mem_cons_of_mem _ hb)⟩
theorem rowsAt_iff {H : Hp} {as : List Addr} {G : List (List Int)} (h : RowsAt H as G) : ∀ a ∈ as, ∃ r : List Int, H a = some (.lst (r.map V.int)) := fun a ha => by
  obtain ⟨r, _, e⟩ := h.mem ha
  exact ⟨r, e⟩
theorem byLen_perm (zs : List (Addr × Nat)) : (byLen zs).Perm zs := List.mergeSort_perm _ _
theorem byLen_so (zs : List (Addr × Nat)) : (byLen zs).Pairwise fun a b => a.2 ≤ b.2 := by
  have h := List.pairwise_mergeSort (le := fun a b : Addr × Nat => decide ((a.2 : Int) ≤ (b.2 : Int))) (fun a b c h1 h2 => by simp only [decide_eq_true_eq] at h1 h2 ⊢; omega) (fun a b => by simp only [Bool.or_eq_true, decide_eq_true_eq]; omega) zs
  exact h.imp fun {a b} h => by simpa using h
def spBL : Sp := fun vs H Q _ => ∃ (a : Addr) (as : List Addr) (G : List (List Int)), vs = [.ref a] ∧ H a = some (.lst (as.map V.ref)) ∧ RowsAt H as G ∧ as.length ≤ 1000 ∧
  ∀ p as' G' H', H p = none → H' p = some (.lst (as'.map V.ref)) → RowsAt H' as' G' → G'.Perm G → G'.Pairwise (fun x y => x.length ≤ y.length) → as'.length = as.length → Same H H' → Q (.ref p) H'
def spCHR : Sp := fun vs H Q _ => ∃ (g : Addr) (as : List Addr) (G : List (List Int)), vs = [.ref g] ∧ H g = some (.lst (as.map V.ref)) ∧ RowsAt H as G ∧ G ≠ [] ∧ (∀ r ∈ G, r.length ≤ (G.headD []).length) ∧ G.flatten.Nodup ∧ G.flatten.length ≤ 300 ∧ as.length ≤ 300 ∧
  ∀ D H', H D = none → H' D = some (.dK (kvI (arO (lay1 G)))) → Same H H' → Q (.ref D) H'
theorem col_zs (t : Nat) : ∀ zs : List (Addr × List Int), ((zs.filter fun z => decide (t < z.2.length)).map fun z => V.int (z.2[t]?.getD 0)) = (colT (zs.map (·.2)) t).map V.int
  | [] => rfl
  | z :: r => by
    rw [List.map_cons, colT_cons, List.map_append, ← col_zs t r, List.filter_cons]
    by_cases h : t < z.2.length
    · rw [decide_eq_true h, if_pos rfl, List.map_cons, List.getElem?_eq_getElem h]
      rfl
    · rw [decide_eq_false h, if_neg Bool.false_ne_true, List.getElem?_eq_none (by omega)]
      rfl
theorem RowsAt.zip {H : Hp} : ∀ {as : List Addr} {G : List (List Int)}, RowsAt H as G → ∃ zs : List (Addr × List Int), zs.map (·.1) = as ∧ zs.map (·.2) = G ∧ ∀ z ∈ zs, H z.1 = some (.lst (z.2.map V.int))
  | [], [], _ => ⟨[], rfl, rfl, fun z h => nomatch h⟩
  | a :: as, r :: G, h => by
    obtain ⟨zs, e1, e2, k⟩ := RowsAt.zip h.2
    refine ⟨(a, r) :: zs, by simp [e1], by simp [e2], fun z hz => ?_⟩
    rcases List.mem_cons.mp hz with rfl | hz
    · exact h.1
    · exact k z hz
  | [], _ :: _, h => h.elim
  | _ :: _, [], h => h.elim
section
variable {P : Program} {w : World} {K : PySem.W.Frag} {mg : Str → Option Value} {base : Heap}
set_option pp.maxSteps 3000 in
theorem ok_by_length (T : Txt K mg) : FnR P w K mg base CX0 2 T.f_by_length spBL := by
  refine T.A_by_length.ok sc_by_length (fun vs H Q E h => ?_) (fun cdv A outer s H vs Q E hr h => ?_)
  · obtain ⟨a, as, G, rfl, _⟩ := h
    rfl
  · obtain ⟨a, as, G, rfl, ha, hR, hl, q⟩ := h
    have hu := hu_of hr
    refine ⟨_, (pss_one (ps_ret (pe_sortLen (K := K) rfl hr.units (pv 0) rfl T.n_sorted rfl T.n_len))), ?_⟩
    obtain ⟨zs, ezs⟩ : ∃ zs : List (Addr × Nat), zs = as.map fun a => (a, (My.rowOf H a).length) := ⟨_, rfl⟩
    have hzl : zs.length = as.length := by rw [ezs, List.length_map]
    refine ⟨_, rfl, a, zs, rfl, by rw [ezs, List.map_map]; exact SqL.of ha, fun z hz => ?_, le_line (by omega), ?_⟩
    · rw [ezs] at hz
      obtain ⟨b, hb, rfl⟩ := List.mem_map.mp hz
      obtain ⟨r, e⟩ := rowsAt_iff hR b hb
      exact ⟨_, SqL.of e, by rw [List.length_map, rowOf_eq e]⟩
    · refine fun p n_p => ?_
      generalize g_p : L2.upd _ p _ = H1
      obtain ⟨s_H1, e_p⟩ := U.upd_facts g_p n_p
      clear g_p
      have pm := byLen_perm zs
      have hin : ∀ z ∈ byLen zs, z.1 ∈ as ∧ z.2 = (My.rowOf H z.1).length := fun z hz => by
        have := pm.mem_iff.mp hz
        rw [ezs] at this
        obtain ⟨b, hb, rfl⟩ := List.mem_map.mp this
        exact ⟨hb, rfl⟩
      have hperm : ((byLen zs).map (·.1)).Perm as := by
        have := pm.map (·.1)
        rw [ezs, List.map_map] at this
        rw [ezs]
        exact this.trans (by rw [show ((fun z : Addr × Nat => z.1) ∘ fun a => (a, (My.rowOf H a).length)) = id from rfl, List.map_id])
      have hR1 : RowsAt H ((byLen zs).map (·.1)) (((byLen zs).map (·.1)).map (My.rowOf H)) := rowsAt_of fun b hb => rowsAt_iff hR b (hperm.mem_iff.mp hb)
      refine q p ((byLen zs).map (·.1)) _ H1 n_p ?_ (hR1.same s_H1) ?_ ?_ (by rw [List.length_map, pm.length_eq, hzl]) s_H1
      · rw [e_p, List.map_map]; rfl
      · rw [hR.rowOf]
        exact hperm.map _
      · rw [List.map_map, List.pairwise_map]
        exact (byLen_so zs).imp_of_mem fun {x y} hx hy h => by
          show (My.rowOf H x.1).length ≤ (My.rowOf H y.1).length
          rw [← (hin x hx).2, ← (hin y hy).2]
          exact h
set_option pp.maxSteps 3000 in
theorem ok_chain_root (T : Txt K mg) : FnR P w K mg base CX0 2 T.f_chain_root spCHR := by
  refine T.A_chain_root.ok sc_chain_root (fun vs H Q E h => ?_) (fun cdv A outer s H vs Q E hr h => ?_)
  · obtain ⟨g, as, G, rfl, _⟩ := h
    rfl
  · obtain ⟨g, as, G, rfl, hg, hrows, hne, hle, nd, h3, ha3, q⟩ := h
    have hu := hu_of hr
    refine ⟨_, (pss_cons (ps_set (i := 1) sc_chain_root.nd rfl (Or.inl rfl) (pe_lst pa_nil))
      (pss_cons (ps_for PassesOwn.never rfl (pi_range1 rfl T.n_range (pa_cons (pe_callB call_len_seq (by rfl) T.n_len (by decide +kernel) (pa_cons (pe_ix ix_list (pv 0) pe_int (fun _ _ => rfl)) pa_nil)) pa_nil)) (pg_name (i := 2) sc_chain_root.nd rfl (Or.inr rfl))
        (pss_one (ps_expr (pe_bm PySem.F.plainAttrs_list PySem.F.slot_list_extend PySem.F.type_list_extend mt_extend (pv 1) (pa_cons (pe_lc (own := [("chain", 3)]) (g := (gName 3)) rfl sc_chain_root.nd (pi_list (pv 0)) (blkOk_by (own := [("chain", 3)]) (N := n_chain_root) (sc := defScope s_chain_root) (by decide +kernel)) (fun _ _ _ _ _ => (pg_name (i := 3) sc_chain_root.nd rfl (Or.inl rfl))) (fun _ _ _ _ _ => (pts_one (pt_cmpR op_lt (pv 2) (pe_callB (call_len_seqK (K0 := K) rfl) (by rfl) T.n_len PySem.boot_len (pa_cons (pv 3) pa_nil)) (nomark _)))) (fun _ _ _ _ _ => (pe_ix (ix_listK (K := K) rfl) (pv 3) (pv 2) (fun _ _ => rfl)))) pa_nil)))))
      (pss_one (ps_ret (pe_dictZip0 rfl (pa_cons (pv 1) (pa_cons (pe_slice sl_list (pv 1) (po_some pe_int) po_none) pa_nil)) rfl T.n_dict (by decide +kernel) rfl T.n_zip))))), ?_⟩
    obtain ⟨zs, ez1, ez2, hz⟩ := hrows.zip
    have hal := hrows.len
    have hG0 : 0 < G.length := List.length_pos_iff.mpr hne
    obtain ⟨a0, ha0⟩ : ∃ a, as[0]? = some a := ⟨_, List.getElem?_eq_getElem (by omega)⟩
    obtain ⟨r0, hr0, er0⟩ := hrows.get 0 a0 ha0
    have eh : G.headD [] = r0 := by
      cases G with
      | nil => exact absurd rfl hne
      | cons x t => cases hr0; rfl
    have e00 : (as.map V.ref)[0]? = some (V.ref a0) := by rw [List.getElem?_map, ha0]; rfl
    have hr3 : r0.length ≤ 300 := by
      have h1 : r0.length ≤ G.flatten.length := by
        have := List.mem_of_getElem? hr0
        exact (List.sublist_flatten_of_mem this).length_le
      omega
    refine ⟨nil_le, ?_⟩
    refine fun pl n_pl => ?_
    generalize g_pl : L2.upd _ pl _ = H1
    obtain ⟨s_H1, e_pl⟩ := U.upd_facts g_pl n_pl
    clear g_pl
    refine ⟨_, rfl, g, _, 0, _, rfl, rfl, SqL.of (s_H1 _ _ hg), atI_nat (j := 0) e00, a0, _, rfl, .inl (SqL.of (s_H1 _ _ er0)), (r0.length : Int), by rw [List.length_map], by omega, by omega, ?_⟩
    refine for_it (walk_range (lo := 0)) (fun k σ H' => ∃ (v2 v3 : Option V), σ = [some (.ref g), some (.ref pl), v2, v3] ∧ Same H H' ∧ H' pl = some (.lst ((layP G k).map V.int)))
      ⟨_, _, rfl, s_H1, e_pl⟩ (fun _ _ _ _ _ => trivial) ?_ ?_
    · rintro k v σ Ha0 Ha hk ⟨v2, v3, rfl, sa, ea⟩ ⟨rfl, rfl⟩
      have e0 : (0 + (k : Nat) : Int) = (k : Int) := by omega
      dsimp only [gName]
      rw [e0]
      have hplt : (layP G k).length ≤ 300 := by
        have h1 : (layP G k).Sublist (lay1 G) := by
          unfold lay1 layP
          rw [eh, show r0.length = k + (r0.length - k) by omega, List.range_add, List.flatMap_append]
          exact List.sublist_append_left _ _
        have h2 := (layP_perm hle).length_eq
        have h3' := h1.length_le
        unfold lay1 at h3'
        omega
      have hcl : (colT G k).length ≤ 300 := by
        have h1 : (colT G k).length ≤ G.length := List.length_filterMap_le _ _
        omega
      refine ⟨_, rfl, .inl ⟨rfl, _, SqL.of ea⟩, cons_of ?_⟩
      have hgz : Ha g = some (.lst (zs.map fun z => V.ref z.1)) := by rw [sa _ _ hg, ← ez1, List.map_map]; rfl
      refine lc_lst (xs := zs) (fun z => V.ref z.1) (fun z => [some (.ref g), some (.ref pl), some (.int (k : Int)), some (.ref z.1)]) (fun z => decide (k < z.2.length)) (fun z => V.int (z.2[k]?.getD 0)) (fun R r => ⟨_, rfl, r⟩) hgz (fun x _ H1 _ R r => r) (fun x _ => rfl) (fun x hx H1 sx => ⟨fun R r => ?_, fun hc R r => ?_⟩) (lt_line (by rw [← List.length_map (f := (·.1)), ez1]; omega)) (fun D Hb n_D e_D s_Hb => ?_)
      · refine ⟨_, rfl, _, rfl, x.1, _, rfl, .inl (SqL.of (sx _ _ (sa _ _ (hz x hx)))), _, _, rfl, rfl, ?_⟩
        have e : decide ((k : Int) < (((x.2.map V.int).length : Nat) : Int)) = decide (k < x.2.length) := by rw [List.length_map]; exact decide_eq_decide.mpr (by omega)
        exact ⟨_, rfl, by rw [e]; exact r⟩
      · have hc' := of_decide_eq_true hc
        exact ⟨_, rfl, _, rfl, x.1, _, _, _, rfl, rfl, SqL.of (sx _ _ (sa _ _ (hz x hx))), atI_nat (by rw [List.getElem?_map, List.getElem?_eq_getElem hc']; rfl), r⟩
      · rw [col_zs, ez2] at e_D
        refine ⟨pl, D, _, _, rfl, rfl, s_Hb _ _ ea, e_D, le_line (by rw [List.length_map, List.length_map]; omega), ?_⟩
        exact ⟨_, _, rfl, Same.put (sa.trans s_Hb) n_pl, by rw [upd_same, ← List.map_append, ← layP_succ]⟩
    · rintro σ Ha ⟨v2, v3, rfl, sa, ea⟩
      rw [show (layP G ((r0.length : Int).toNat)) = lay1 G by unfold lay1; rw [eh, Int.toNat_natCast]] at ea
      have pm : (lay1 G).Perm G.flatten := layP_perm hle
      have ndP : (lay1 G).Nodup := pm.nodup_iff.mpr nd
      have hl9 : (lay1 G).length ≤ 300 := by rw [pm.length_eq]; exact h3
      have h1P : 1 ≤ ((lay1 G).map V.int).length ∨ lay1 G = [] := by
        cases e : lay1 G with
        | nil => exact .inr rfl
        | cons x t => left; simp
      refine nx_of (ret_of ?_)
      refine ⟨_, rfl, _, rfl, 1, rfl, ?_⟩
      dsimp only [tNoPart]
      refine ⟨pl, _, rfl, SqL.of ea, ?_⟩
      refine fun w1 n_w1 => ?_
      generalize g_w1 : L2.upd _ w1 _ = Hb
      obtain ⟨s_Hb, e_w1⟩ := U.upd_facts g_w1 n_w1
      clear g_w1
      have ecut : cutV ((lay1 G).map V.int) (some 1) none = ((lay1 G).tail).map V.int := by
        rcases h1P with h | h
        · rw [show cutV ((lay1 G).map V.int) (some 1) none = ((lay1 G).map V.int).drop 1 from cut_drop _ 1 h, ← List.drop_one, List.map_drop]
        · rw [h]; rfl
      rw [ecut] at e_w1
      refine ⟨pl, w1, (lay1 G).map Sum.inl, _, rfl, .inl ⟨by rw [map_kVI]; exact SqL.of (s_Hb _ _ ea), SqL.of e_w1⟩, ?_⟩
      rw [kvI_zipI]
      show ∀ p, Hb p = none → Q (.ref p) (upd Hb p (.dK (mergeK [] (kvI (arO (lay1 G))))))
      rw [merge_nil ((arO_keys _).nodup ndP)]
      refine fun D n_D => ?_
      generalize g_D : L2.upd _ D _ = Hc
      obtain ⟨s_Hc, e_D⟩ := U.upd_facts g_D n_D
      clear g_D
      exact q D Hc ((sa.trans s_Hb).free n_D) e_D ((sa.trans s_Hb).trans s_Hc)
end
end My
set_option maxHeartbeats 1000000
namespace My
open PySem L2 U StX PM
theorem eqv_nilR (l : List (List Int)) : PyData.eqv (.list (l.map dInts)) (.list []) = decide (l = []) := by
  cases l <;> rfl
/-- a list of rows != [] -/
theorem ne_nilR {K : PySem.W.Frag} {H : Hp} {W : Addr} {as : List Addr} {G : List (List Int)} {Q : VK} (h : H W = some (.lst (as.map V.ref))) (hR : RowsAt H as G) {t : Addr} (ht : H t = some (.lst [])) (q : Q (.bl (!decide (G = []))) H) : L2.rNeD K (.ref W) (.ref t) H Q :=
  ⟨.list (G.map dInts), .list [], .lst (SqL.of h) hR.dp, .lst (SqL.of ht) .nil, shaped_rows G, by decide +kernel, by rw [eqv_nilR]; exact q⟩
theorem RowsAt.take {H : Hp} : ∀ {as : List Addr} {G : List (List Int)} (k : Nat), RowsAt H as G → RowsAt H (as.take k) (G.take k)
  | _, _, 0, _ => by rw [List.take_zero, List.take_zero]; trivial
  | [], [], k + 1, _ => trivial
  | _ :: _, _ :: _, k + 1, h => ⟨h.1, RowsAt.take k h.2⟩
  | [], _ :: _, _, h => h.elim
  | _ :: _, [], _, h => h.elim
theorem RowsAt.drop {H : Hp} : ∀ {as : List Addr} {G : List (List Int)} (k : Nat), RowsAt H as G → RowsAt H (as.drop k) (G.drop k)
  | _, _, 0, h => h
  | [], [], k + 1, _ => trivial
  | _ :: _, _ :: _, k + 1, h => RowsAt.drop k h.2
  | [], _ :: _, _, h => h.elim
  | _ :: _, [], _, h => h.elim
theorem RowsAt.rev {H : Hp} : ∀ {as : List Addr} {G : List (List Int)}, RowsAt H as G → RowsAt H as.reverse G.reverse
  | [], [], _ => trivial
  | a :: as, r :: G, h => by
    rw [List.reverse_cons, List.reverse_cons]
    exact (RowsAt.rev h.2).snoc h.1
  | [], _ :: _, h => h.elim
  | _ :: _, [], h => h.elim
/-- a list of groups of rows; the rows stand in B -/
def GrpsAt (B H : Hp) : List Addr → List (List (List Int)) → Prop
  | [], [] => True
  | g :: gs, G :: OG => (∃ as : List Addr, H g = some (.lst (as.map V.ref)) ∧ RowsAt B as G ∧ as.length ≤ 300) ∧ GrpsAt B H gs OG
  | _, _ => False
theorem GrpsAt.len {B H : Hp} : ∀ {gs : List Addr} {OG : List (List (List Int))}, GrpsAt B H gs OG → gs.length = OG.length
  | [], [], _ => rfl
  | _ :: gs, _ :: OG, h => by rw [List.length_cons, List.length_cons, GrpsAt.len h.2]
  | [], _ :: _, h => h.elim
  | _ :: _, [], h => h.elim
theorem GrpsAt.map {B B' H H' : Hp} : ∀ {gs : List Addr} {OG : List (List (List Int))}, (∀ a xs, B a = some (.lst xs) → B' a = some (.lst xs)) → (∀ g ∈ gs, ∀ xs, H g = some (.lst xs) → H' g = some (.lst xs)) → GrpsAt B H gs OG → GrpsAt B' H' gs OG
  | [], [], _, _, _ => trivial
  | g :: _, _ :: _, sB, s, ⟨⟨as, e, r, l⟩, h⟩ => ⟨⟨as, s g List.mem_cons_self _ e, r.map fun a _ xs ex => sB a xs ex, l⟩, GrpsAt.map sB (fun g hg => s g (List.mem_cons_of_mem _ hg)) h⟩
  | [], _ :: _, _, _, h => h.elim
  | _ :: _, [], _, _, h => h.elim
theorem GrpsAt.same {B H H' : Hp} (s : Same H H') {gs : List Addr} {OG : List (List (List Int))} (h : GrpsAt B H gs OG) : GrpsAt B H' gs OG := h.map (fun _ _ e => e) fun g _ xs e => s g _ e
theorem GrpsAt.snoc {B H : Hp} {g : Addr} {as : List Addr} {G : List (List Int)} (e : H g = some (.lst (as.map V.ref))) (r : RowsAt B as G) (l : as.length ≤ 300) : ∀ {gs : List Addr} {OG : List (List (List Int))}, GrpsAt B H gs OG → GrpsAt B H (gs ++ [g]) (OG ++ [G])
  | [], [], _ => ⟨⟨as, e, r, l⟩, trivial⟩
  | _ :: _, _ :: _, h => ⟨h.1, GrpsAt.snoc e r l h.2⟩
  | [], _ :: _, h => h.elim
  | _ :: _, [], h => h.elim
theorem GrpsAt.get {B H : Hp} : ∀ {gs : List Addr} {OG : List (List (List Int))}, GrpsAt B H gs OG → ∀ (i : Nat) (g : Addr), gs[i]? = some g → ∃ as G, OG[i]? = some G ∧ H g = some (.lst (as.map V.ref)) ∧ RowsAt B as G ∧ as.length ≤ 300
  | [], [], _, i, g, e => by simp at e
  | _ :: _, G :: _, ⟨⟨as, e1, r, l⟩, _⟩, 0, g, e => by cases e; exact ⟨as, G, rfl, e1, r, l⟩
  | _ :: _, _ :: _, h, i + 1, g, e => GrpsAt.get h.2 i g e
  | [], _ :: _, h, _, _, _ => h.elim
  | _ :: _, [], h, _, _, _ => h.elim
theorem GrpsAt.off {B H H' : Hp} {p : Addr} (o : Off p H H') {gs : List Addr} {OG : List (List (List Int))} (h : GrpsAt B H gs OG) (n : p ∉ gs) : GrpsAt B H' gs OG := h.map (fun _ _ e => e) fun g hg xs e => o g _ (fun z => n (z ▸ hg)) e
theorem iteT' {b : Bool} {A B : Prop} (h : b = true) (x : A) : if b = true then A else B := by rw [if_pos h]; exact x
theorem iteF' {b : Bool} {A B : Prop} (h : b = false) (x : B) : if b = true then A else B := by rw [h, if_neg Bool.false_ne_true]; exact x
def spCG : Sp := fun vs H Q _ => ∃ (c : Addr) (as : List Addr) (R : List (List Int)) (d : Nat), vs = [.ref c, .int (d : Int)] ∧ H c = some (.lst (as.map V.ref)) ∧ RowsAt H as R ∧ as.length ≤ 300 ∧ 1 ≤ d ∧ (∀ R', R'.Perm R → R'.Pairwise (fun a b => b.length ≤ a.length) → NoFail d R') ∧
  ∀ p gs OG H', H p = none → H' p = some (.lst (gs.map V.ref)) → GrpsAt H' H' gs OG → (∀ G ∈ OG, GrpOK d G) → OG.flatten.Perm R → Same H H' → Q (.ref p) H'
section
variable {P : Program} {w : World} {K : PySem.W.Frag} {mg : Str → Option Value} {base : Heap}
set_option pp.maxSteps 3000 in
theorem ok_chain_groups (T : Txt K mg) : FnR P w K mg base CX0 3 T.f_chain_groups spCG := by
  refine T.A_chain_groups.ok sc_chain_groups (fun vs H Q E h => ?_) (fun cdv A outer s H vs Q E hr h => ?_)
  · obtain ⟨c, as, R, d, rfl, _⟩ := h
    rfl
  · obtain ⟨c, as, R0, d, rfl, hc, hR0, hl3, hd, hnf, q⟩ := h
    have hu := hu_of hr
    refine ⟨_, (pss_cons (ps_set (i := 2) sc_chain_groups.nd rfl (Or.inl rfl) (pe_revL (pe_callR (ok_by_length T) (hr.mono (by decide)) T.A_by_length.kp rfl T.g_by_length pass0 (pa_cons (pv 0) pa_nil))))
      (pss_cons (ps_set (i := 3) sc_chain_groups.nd rfl (Or.inl rfl) (pe_lst pa_nil))
      (pss_cons (ps_while PassesOwn.never (pt_cmpR (L2.op_neD hr.units) (pv 2) (pe_lst pa_nil) (nomark _))
        (pss_cons (ps_set (i := 4) sc_chain_groups.nd rfl (Or.inl rfl) (pe_callB call_len_seq (by rfl) T.n_len (by decide +kernel) (pa_cons (pe_ix ix_list (pv 2) pe_int (fun _ _ => rfl)) pa_nil)))
      (pss_cons (ps_expr (pe_bm PySem.F.plainAttrs_list PySem.F.slot_list_append PySem.F.type_list_append mt_append (pv 3) (pa_cons (pe_ifExp (pt_cmpR op_gt (pv 4) pe_int (nomark _)) (pe_slice sl_list (pv 2) po_none (po_some (pv 1))) (pe_slice sl_list (pv 2) po_none (po_some pe_int))) pa_nil)))
      (pss_one (ps_set (i := 2) sc_chain_groups.nd rfl (Or.inl rfl) (pe_slice sl_list (pv 2) (po_some (pe_callB call_len_seq (by rfl) T.n_len (by decide +kernel) (pa_cons (pe_ix ix_list (pv 3) (pe_un un_neg pe_int) (fun _ _ => rfl)) pa_nil))) po_none))))))
      (pss_one (ps_ret (pv 3)))))), ?_⟩
    refine ⟨_, rfl, c, as, R0, rfl, hc, hR0, by omega, fun p0 as1 R1 H1 n_p0 e_p0 hR1 pm1 so1 hl1 s_H1 => ?_⟩
    refine ⟨p0, _, rfl, SqL.of e_p0, ?_⟩
    refine fun lf0 n_lf0 => ?_
    generalize g_lf0 : L2.upd _ lf0 _ = H2
    obtain ⟨s_H2, e_lf0⟩ := U.upd_facts g_lf0 n_lf0
    clear g_lf0
    refine ⟨nil_le, ?_⟩
    refine fun gl n_gl => ?_
    generalize g_gl : L2.upd _ gl _ = H3
    obtain ⟨s_H3, e_gl⟩ := U.upd_facts g_gl n_gl
    clear g_gl
    rw [← List.map_reverse] at e_lf0
    have hRr : RowsAt H3 as1.reverse R1.reverse := (hR1.rev.same s_H2).same s_H3
    have s03 := (s_H1.trans s_H2).trans s_H3
    have ngl : H gl = none := (s_H1.trans s_H2).free n_gl
    have hgl2 : ∀ (a : Addr) (o : HO), H2 a = some o → a ≠ gl := fun a o e => ne_of_none e n_gl
    have hRr2 : RowsAt H2 as1.reverse R1.reverse := hR1.rev.same s_H2
    have hnf0 := hnf R1.reverse ((List.reverse_perm R1).trans pm1) (by rw [List.pairwise_reverse]; exact so1)
    have pm0 : R1.reverse.Perm R0 := (List.reverse_perm R1).trans pm1
    obtain ⟨RR, eRR⟩ : ∃ RR, RR = R1.reverse := ⟨_, rfl⟩
    obtain ⟨aa, eaa⟩ : ∃ aa, aa = as1.reverse := ⟨_, rfl⟩
    have haa : aa.length ≤ 300 := by rw [eaa, List.length_reverse]; omega
    rw [← eRR] at hRr hRr2 hnf0 pm0
    rw [← eaa] at hRr hRr2 e_lf0
    clear eRR eaa
    refine ⟨fun m σ H' => ∃ (lf : Addr) (as' : List Addr) (R : List (List Int)) (gs : List Addr) (OG : List (List (List Int))) (v4 : Option V), σ = [some (.ref c), some (.int (d : Int)), some (.ref lf), some (.ref gl), v4] ∧ Off gl H3 H' ∧ H' lf = some (.lst (as'.map V.ref)) ∧ lf ≠ gl ∧ RowsAt H2 as' R ∧ as'.length ≤ 300 ∧ NoFail d R ∧ H' gl = some (.lst (gs.map V.ref)) ∧ gs.length ≤ 300 - as'.length ∧ GrpsAt H2 H' gs OG ∧ gl ∉ gs ∧ (∀ G ∈ OG, GrpOK d G) ∧ OG.flatten ++ R = RR ∧ m = R.length,
      ⟨RR.length, lf0, aa, RR, [], [], _, rfl, fun b o _ e => e, s_H3 _ _ e_lf0, hgl2 _ _ e_lf0, hRr2, haa, hnf0, e_gl, Nat.zero_le _, trivial, List.not_mem_nil, fun G h => (nomatch h), rfl, rfl⟩, ?_⟩
    rintro m σ H' ⟨lf, as', R, gs, OG, v4, rfl, oa, eL, nlg, hR, hl', hN, eG, hgl, hGr, ngs, hok, hfl, rfl⟩
    refine ⟨_, rfl, nil_le, ?_⟩
    refine fun t1 n_t1 => ?_
    generalize g_t1 : L2.upd _ t1 _ = H4
    obtain ⟨s_H4, e_t1⟩ := U.upd_facts g_t1 n_t1
    clear g_t1
    have hRH : RowsAt H' as' R := hR.map fun a ha xs e => oa _ _ (hgl2 _ _ e) (s_H3 _ _ e)
    have hR4 : RowsAt H4 as' R := hRH.same s_H4
    refine ne_nilR (s_H4 _ _ eL) hR4 e_t1 ⟨_, rfl, ?_⟩
    have hal := hR.len
    have oa4 : Off gl H3 H4 := fun b o h e => s_H4 _ _ (oa b o h e)
    have eG4 := s_H4 _ _ eG
    have eL4 := s_H4 _ _ eL
    have hGr4 := hGr.same s_H4
    clear oa eG eL hGr hRH s_H4 e_t1 n_t1
    refine ifB (fun z => ?_) (fun z => ?_)
    · have hne : R ≠ [] := by simpa using z
      obtain ⟨G, R', r, eR, okG, hN', h0, hk⟩ := noFail_step hd hN hne
      have hRl : 0 < R.length := List.length_pos_iff.mpr hne
      obtain ⟨a0, ha0⟩ : ∃ a, as'[0]? = some a := ⟨_, List.getElem?_eq_getElem (by omega)⟩
      obtain ⟨r', hr', er0⟩ := hR4.get 0 a0 ha0
      rw [h0] at hr'
      cases hr'
      have hGl : G.length ≤ as'.length := by rw [hal, eR, List.length_append]; omega
      have hG1 : 1 ≤ G.length := by rcases hk with h | h <;> omega
      have e00 : (as'.map V.ref)[0]? = some (V.ref a0) := by rw [List.getElem?_map, ha0]; rfl
      have hGm : G.length ≤ (as'.map V.ref).length := by rw [List.length_map]; exact hGl
      refine ⟨fun σ' H2 => ∃ m', m' < R.length ∧ _, fun _ _ h => h, ?_⟩
      refine ⟨_, rfl, lf, _, 0, _, rfl, rfl, SqL.of eL4, atI_nat (j := 0) e00, a0, _, rfl, .inl (SqL.of er0), ?_⟩
      refine ⟨_, rfl, .inl ⟨rfl, _, SqL.of eG4⟩, cons_of ?_⟩
      refine ⟨_, rfl, _, _, rfl, rfl, _, rfl, ?_⟩
      rcases hk with ⟨h1r, hGd⟩ | ⟨h1r, hGd⟩
      case' inl =>
        refine iteT' (decide_eq_true (by rw [List.length_map]; omega)) ⟨_, rfl, ?_⟩
        dsimp only [tNoPart]
        refine ⟨_, rfl, _, rfl, lf, _, rfl, SqL.of eL4, ?_⟩
        refine fun p n_p => ?_
        generalize g_p : L2.upd _ p _ = H5
        obtain ⟨s_H5, e_p⟩ := U.upd_facts g_p n_p
        clear g_p
        rw [← hGd, cut_take _ _ hGm, ← List.map_take] at e_p
      case' inr =>
        refine iteF' (decide_eq_false (by rw [List.length_map]; omega)) ⟨_, rfl, ?_⟩
        dsimp only [tNoPart]
        refine ⟨1, rfl, lf, _, rfl, SqL.of eL4, ?_⟩
        refine fun p n_p => ?_
        generalize g_p : L2.upd _ p _ = H5
        obtain ⟨s_H5, e_p⟩ := U.upd_facts g_p n_p
        clear g_p
        rw [show (1 : Int) = ((G.length : Nat) : Int) by omega, cut_take _ _ hGm, ← List.map_take] at e_p
      all_goals
        have eG5 := s_H5 _ _ eG4
        have eL5 := s_H5 _ _ eL4
        have npg : p ≠ gl := fun z => by rw [z, eG4] at n_p; cases n_p
        refine ⟨gl, _, .ref p, rfl, rfl, eG5, lt_line (by rw [List.length_map]; omega), ?_⟩
        have o6 : Off gl H5 (upd H5 gl (.lst (gs.map V.ref ++ [.ref p]))) := fun b o h e => by rw [upd_ne h]; exact e
        have eG6 : (upd H5 gl (.lst (gs.map V.ref ++ [.ref p]))) gl = some (.lst (gs.map V.ref ++ [.ref p])) := upd_same
        generalize upd H5 gl (.lst (gs.map V.ref ++ [.ref p])) = H6 at o6 eG6 ⊢
        have e_p6 := o6 _ _ npg e_p
        have eL6 := o6 _ _ nlg eL5
        refine ⟨_, rfl, _, rfl, 1, rfl, gl, _, -1, _, rfl, rfl, SqL.of eG6, atI_last _ _, p, _, rfl, .inl (SqL.of e_p6), ((G.length : Nat) : Int), by rw [List.length_map, List.length_take, Nat.min_eq_left hGl], ?_⟩
        dsimp only [tNoPart]
        refine ⟨lf, _, rfl, SqL.of eL6, ?_⟩
        refine fun l2 n_l2 => ?_
        generalize g_l2 : L2.upd _ l2 _ = H7
        obtain ⟨s_H7, e_l2⟩ := U.upd_facts g_l2 n_l2
        clear g_l2
        rw [cut_drop _ _ hGm, ← List.map_drop] at e_l2
        have eRt : R.take G.length = G := by rw [eR]; exact List.take_left' rfl
        have eRd : R.drop G.length = R' := by rw [eR]; exact List.drop_left' rfl
        have hR2 := hR.drop G.length
        rw [eRd] at hR2
        have hRt := hR.take G.length
        rw [eRt] at hRt
        have oa7 : Off gl H3 H7 := fun b o h e => s_H7 _ _ (o6 _ _ h (s_H5 _ _ (oa4 b o h e)))
        have hGr7 : GrpsAt H2 H7 gs OG := ((hGr4.same s_H5).off o6 ngs).same s_H7
        refine ⟨R'.length, by rw [eR, List.length_append]; omega, l2, as'.drop G.length, R', gs ++ [p], OG ++ [G], _, rfl, oa7, e_l2, (fun z => by rw [z, eG6] at n_l2; cases n_l2), hR2, by rw [List.length_drop]; omega, hN', by rw [s_H7 _ _ eG6, List.map_append]; rfl, by rw [List.length_append, List.length_drop, List.length_singleton]; omega, hGr7.snoc (s_H7 _ _ e_p6) hRt (by rw [List.length_take]; omega), fun z => ?_, fun G' hG' => ?_, by rw [List.flatten_append, List.flatten_singleton, List.append_assoc, ← eR]; exact hfl, rfl⟩
        · rcases List.mem_append.mp z with z | z
          · exact ngs z
          · rw [List.mem_singleton] at z; exact npg z.symm
        · rcases List.mem_append.mp hG' with h | h
          · exact hok _ h
          · rw [List.mem_singleton] at h; rw [h]; exact okG
    · have hRn : R = [] := by simpa using z
      subst hRn
      rw [List.append_nil] at hfl
      have sH4 : Same H H4 := fun b o e => oa4 b o (ne_of_none e ngl) (s03 _ _ e)
      exact ⟨_, rfl, q gl gs OG H4 ngl eG4 (hGr4.map (fun a xs e => oa4 _ _ (hgl2 _ _ e) (s_H3 _ _ e)) fun _ _ _ e => e) hok (by rw [hfl]; exact pm0) sH4⟩
end
end My
set_option maxHeartbeats 1000000
namespace My
open PySem L2 U StX PM
theorem flat_len {G : List (List Int)} {L : Nat} (h : ∀ r ∈ G, r.length = L) : G.flatten.length = G.length * L := by
  induction G with
  | nil => simp
  | cons r t ih =>
    rw [List.flatten_cons, List.length_append, ih fun x hx => h x (List.mem_cons_of_mem _ hx), h r List.mem_cons_self, List.length_cons, Nat.succ_mul, Nat.add_comm]
theorem seen_len {n : Int} {f : PF} (w : WF n f) : (seenL f (cycS n f)).length ≤ n.toNat ∧ (seenL f (nons n f)).length ≤ n.toNat := by
  refine ⟨len_range (nd_cyc w) fun x hx => ?_, len_range (nd_nons w) fun x hx => ?_⟩
  · obtain ⟨e, he, hm⟩ := mem_seenL.mp hx
    have hd' := cycS_dom he
    exact (rowN_is w hd'.1 hd'.2).dom w hd'.1 hd'.2 x hm
  · obtain ⟨e, he, hm⟩ := mem_seenL.mp hx
    have hd' := nons_dom he
    exact (rowN_is w hd'.1 hd'.2.1).dom w hd'.1 hd'.2.1 x hm
def clL (Z : List (List (List Int) × List Int)) : List (Int × Int) := ((Z.map (·.2)).map arC).flatten
def opL (OG : List (List (List Int))) : List (Int × Int) := ((OG.map lay1).map arO).flatten
theorem clL_snoc (Z : List (List (List Int) × List Int)) (z : List (List Int) × List Int) : clL (Z ++ [z]) = clL Z ++ arC z.2 := by
  unfold clL
  rw [List.map_append, List.map_append, List.flatten_append]
  simp
theorem opL_snoc (OG : List (List (List Int))) (G : List (List Int)) : opL (OG ++ [G]) = opL OG ++ arO (lay1 G) := by
  unfold opL
  rw [List.map_append, List.map_append, List.flatten_append]
  simp
theorem clL_keys (Z : List (List (List Int) × List Int)) : (clL Z).map (·.1) = (Z.map (·.2)).flatten := keys_flat _
theorem flat_sub {A B R : List (List Int)} (e : A ++ B = R) : A.flatten.Sublist R.flatten := by
  rw [← e, List.flatten_append]
  exact List.sublist_append_left _ _
def RtV (C : Addr) (H H' : Hp) (v : V) (n : Int) (f : PF) (d : Nat) (o : Option (Bool × Int)) : Prop := (o ≠ none ∧ v = .non) ∨ (o = none ∧ ∃ a g, v = .ref a ∧ H a = none ∧ IsMap C H' a n g ∧ pN n g d = f)
def spRoot (C : Addr) : Sp := fun vs H Q _ => ∃ (m : Addr) (n : Int) (f : PF) (d : Nat), vs = [.ref m, .int (d : Int)] ∧ IsMap C H m n f ∧ 1 ≤ d ∧ (d : Int) ≤ 1000000000000000000000000000000 ∧
  ∀ cs hs H' v, Asc cs → Asc hs → DI cs (cnt (lens f (cycS n f))) → DI hs (cnt (lens f (nons n f))) → Same H H' → RtV C H H' v n f d (obst cs hs (d : Int)) → Q v H'
theorem obst_none {cs hs : List (Int × Int)} {d : Int} (h : obst cs hs d = none) : cyF cs d = none ∧ fcP hs d = none := by
  unfold obst at h
  cases e : cyF cs d with
  | some L => rw [e] at h; cases h
  | none =>
    rw [e] at h
    refine ⟨rfl, ?_⟩
    cases e2 : fcP hs d with
    | none => rfl
    | some L => rw [e2] at h; cases h
section
variable {P : Program} {w : World} {K : PySem.W.Frag} {mg : Str → Option Value} {base : Heap}
set_option pp.maxSteps 3000 in
theorem ok_root (T : Txt K mg) : FnR P w K mg base CX0 10 T.f_root (spRoot T.C_Map) := by
  refine T.A_root.ok sc_root (fun vs H Q E h => ?_) (fun cdv A outer s H vs Q E hr h => ?_)
  · obtain ⟨m, n, f, d, rfl, _⟩ := h
    rfl
  · obtain ⟨m, n, f, d, rfl, hm, hd, hd9, q⟩ := h
    have hu := hu_of hr
    refine ⟨_, (pss_cons (ps_if (pt_cmpR op_notN (pe_callR (ok_obstacle T) (hr.mono (by decide)) T.A_obstacle.kp rfl T.g_obstacle pass0 (pa_cons (pv 0) (pa_cons (pv 1) pa_nil))) pe_non (nomark _))
        (pss_one (ps_ret pe_non)) pss_nil)
      (pss_cons (ps_asg (pe_callR (ok_parts_of T) (hr.mono (by decide)) T.A_parts_of.kp rfl T.g_parts_of pass0 (pa_cons (pv 0) pa_nil)) (pg_tup rfl (pgs_cons (pg_name (i := 2) sc_root.nd rfl (Or.inl rfl)) (pgs_cons (pg_name (i := 3) sc_root.nd rfl (Or.inl rfl)) pgs_nil))))
      (pss_cons (ps_par (i := 4) (j := 5) rfl sc_root.nd rfl rfl (by decide) rfl rfl (pa_cons pe_dnewK (pa_cons (pe_callR (ok_by_length T) (hr.mono (by decide)) T.A_by_length.kp rfl T.g_by_length pass0 (pa_cons (pv 2) pa_nil)) pa_nil)) (by rfl))
      (pss_cons (ps_while PassesOwn.never (pt_cmpR (L2.op_neD hr.units) (pv 5) (pe_lst pa_nil) (nomark _))
        (pss_cons (ps_set (i := 6) sc_root.nd rfl (Or.inl rfl) (pe_slice sl_list (pv 5) po_none (po_some (pe_callR (ok_group_size T) (hr.mono (by decide)) T.A_group_size.kp rfl T.g_group_size pass0 (pa_cons (pe_callB call_len_seq (by rfl) T.n_len (by decide +kernel) (pa_cons (pe_ix ix_list (pv 5) pe_int (fun _ _ => rfl)) pa_nil)) (pa_cons (pv 1) pa_nil))))))
      (pss_cons (ps_set (i := 5) sc_root.nd rfl (Or.inl rfl) (pe_slice sl_list (pv 5) (po_some (pe_callB call_len_seq (by rfl) T.n_len (by decide +kernel) (pa_cons (pv 6) pa_nil))) po_none))
      (pss_one (ps_expr (pe_dupdate (pv 4) (pa_cons (pe_callR (ok_cycle_root T) (hr.mono (by decide)) T.A_cycle_root.kp rfl T.g_cycle_root pass0 (pa_cons (pv 6) (pa_cons (pv 1) pa_nil))) pa_nil)))))))
      (pss_cons (ps_for PassesOwn.never rfl (pi_list (pe_callR (ok_chain_groups T) (hr.mono (by decide)) T.A_chain_groups.kp rfl T.g_chain_groups pass0 (pa_cons (pv 3) (pa_cons (pv 1) pa_nil)))) (pg_name (i := 6) sc_root.nd rfl (Or.inl rfl))
        (pss_one (ps_expr (pe_dupdate (pv 4) (pa_cons (pe_callR (ok_chain_root T) (hr.mono (by decide)) T.A_chain_root.kp rfl T.g_chain_root pass0 (pa_cons (pv 6) pa_nil)) pa_nil)))))
      (pss_one (ps_ret (pe_makeR T.M_Map (ok_init T) (hr.mono (by decide)) rfl T.g_Map pass0 (pa_cons (pe_propR (pv 0) T.o_Map.cl T.P_Map_size (ok_size T) (hr.mono (by decide))) (pa_cons (pv 4) pa_nil)))))))))), ?_⟩
    have wf := hm.wf
    have hn3 := hm.hi
    have hn1 := hm.lo
    refine ⟨_, rfl, _, rfl, m, n, f, d, rfl, hm, by omega, hd9, fun cs hs H1 v a1 a2 d1 d2 s1 ov => ?_⟩
    refine ⟨rfl, _, rfl, ?_⟩
    cases eo : obst cs hs (d : Int) with
    | some z =>
      rw [eo] at ov
      obtain ⟨t, rfl, _⟩ := ov
      refine iteT' rfl ?_
      exact q cs hs H1 .non a1 a2 d1 d2 s1 (.inl ⟨by rw [eo]; exact (fun z => nomatch z), rfl⟩)
    | none =>
      rw [eo] at ov
      have ev : v = .non := ov
      subst ev
      refine iteF' rfl ?_
      obtain ⟨oc, oh⟩ := obst_none eo
      have hm1 := hm.same s1
      obtain ⟨dx, fs, hmo⟩ := at_map hm1
      refine ⟨_, rfl, m, n, f, rfl, hm1, fun t lc lh cA hA H2 s2 e1 e2 e3 r1 r2 n1 n2 n3 w1 w2 => ?_⟩
      refine ⟨t, _, rfl, SqT.of e1, rfl, .ref lc, [.ref lh], rfl, .ref lh, [], rfl, rfl, ?_⟩
      have lC := r1.len
      have lO := r2.len
      rw [List.length_map] at lC lO
      have b1 : (cycS n f).length ≤ 300 := by
        have := (cycS_sub n f).1.length_le
        have e : (rgI n.toNat).length = n.toNat := by simp [rgI]
        omega
      have b2 : (nons n f).length ≤ 300 := by
        have := List.length_filter_le (nonT n f) (rgI n.toNat)
        have e : (rgI n.toNat).length = n.toNat := by simp [rgI]
        unfold nons
        omega
      refine fun D n_D => ?_
      generalize g_D : L2.upd _ D _ = H3
      obtain ⟨s_H3, e_D⟩ := U.upd_facts g_D n_D
      clear g_D
      refine ⟨_, rfl, lc, cA, _, rfl, s_H3 _ _ e2, r1.same s_H3, by omega, fun lf0 as1 R1 H4 nlf elf hR1 pm1 so1 hl1 s4 => ⟨_, _, rfl, ?_⟩⟩
      have nD : H D = none := (s1.trans s2).free n_D
      have s24 := s_H3.trans s4
      have s04 := (s1.trans s2).trans s24
      have eD4 := s4 _ _ e_D
      have hg1 := goodC_of wf pm1 so1 d1 oc
      have seen3 := seen_len wf
      have pmf : (R1.flatten).Perm (seenL f (cycS n f)) := flat_perm pm1
      have hfl3 : R1.flatten.length ≤ 300 := by have := pmf.length_eq; omega
      have hfnd : R1.flatten.Nodup := pmf.nodup_iff.mpr (nd_cyc wf)
      have h2D : ∀ (a : Addr) (o : HO), H2 a = some o → a ≠ D := fun a o e => ne_of_none e n_D
      refine ⟨fun k σ H' => ∃ (lf : Addr) (as' : List Addr) (R : List (List Int)) (Z : List (List (List Int) × List Int)) (v6 : Option V), σ = [some (.ref m), some (.int (d : Int)), some (.ref lc), some (.ref lh), some (.ref D), some (.ref lf), v6] ∧ Off D H4 H' ∧ H' lf = some (.lst (as'.map V.ref)) ∧ RowsAt H' as' R ∧ as'.length ≤ 300 ∧ GoodC d R ∧ H' D = some (.dK (kvI (clL Z))) ∧ (∀ z ∈ Z, (∃ L, Woven z.1 d L z.2) ∧ z.2.Perm z.1.flatten) ∧ (Z.map (·.1)).flatten ++ R = R1 ∧ k = R.length,
        ⟨R1.length, lf0, as1, R1, [], _, rfl, fun b o _ e => e, elf, hR1, by omega, hg1, eD4, fun z h => (nomatch h), rfl, rfl⟩, ?_⟩
      rintro k σ H' ⟨lf, as', R, Z, v6, rfl, oa, eL, hR, hl', hN, eD, hZ, hfl, rfl⟩
      refine ⟨_, rfl, nil_le, ?_⟩
      refine fun t1 n_t1 => ?_
      generalize g_t1 : L2.upd _ t1 _ = H5
      obtain ⟨s_H5, e_t1⟩ := U.upd_facts g_t1 n_t1
      clear g_t1
      have hR5 := hR.same s_H5
      refine ne_nilR (s_H5 _ _ eL) hR5 e_t1 ⟨_, rfl, ?_⟩
      have hal := hR.len
      have oa5 : Off D H4 H5 := fun b o h e => s_H5 _ _ (oa b o h e)
      have eL5 := s_H5 _ _ eL
      have eD5 := s_H5 _ _ eD
      clear oa eL eD hR s_H5 e_t1 n_t1
      refine ifB (fun z => ?_) (fun z => ?_)
      · have hne : R ≠ [] := by simpa using z
        obtain ⟨r, rest, rfl⟩ : ∃ r rest, R = r :: rest := by
          cases R with
          | nil => exact absurd rfl hne
          | cons r rest => exact ⟨r, rest, rfl⟩
        obtain ⟨g1, g2, g3⟩ := goodC_cut hd hN
        have hr1 := hN.ne r List.mem_cons_self
        obtain ⟨a0, ha0⟩ : ∃ a, as'[0]? = some a := ⟨_, List.getElem?_eq_getElem (by rw [hal, List.length_cons]; omega)⟩
        obtain ⟨r', hr', er0⟩ := hR5.get 0 a0 ha0
        cases hr'
        have e00 : (as'.map V.ref)[0]? = some (V.ref a0) := by rw [List.getElem?_map, ha0]; rfl
        have hgp := grS_pos' (L := r.length) hd
        obtain ⟨G, eG⟩ : ∃ G, G = (r :: rest).take (grS r.length d) := ⟨_, rfl⟩
        obtain ⟨R', eR'⟩ : ∃ R', R' = (r :: rest).drop (grS r.length d) := ⟨_, rfl⟩
        rw [← eG] at g1 g2
        rw [← eR'] at g3
        have eGR : r :: rest = G ++ R' := by rw [eG, eR', List.take_append_drop]
        have hGl : grS r.length d ≤ as'.length := by rw [hal, ← g1, eGR, List.length_append]; omega
        have hGm : grS r.length d ≤ (as'.map V.ref).length := by rw [List.length_map]; exact hGl
        have hRF : (Z.map (·.1)).flatten ++ G ++ R' = R1 := by rw [List.append_assoc, ← eGR]; exact hfl
        have hsub : (G.flatten).Sublist R1.flatten := by
          rw [← hRF, List.flatten_append, List.flatten_append]
          exact (List.sublist_append_right _ _).trans (List.sublist_append_left _ _)
        have hGn : G.length * r.length ≤ 300 := by
          rw [← flat_len g2]
          exact Nat.le_trans hsub.length_le hfl3
        have hr3 : r.length ≤ 300 := Nat.le_trans (Nat.le_mul_of_pos_left _ (by omega)) hGn
        refine ⟨fun σ' H2 => ∃ m', m' < (r :: rest).length ∧ _, fun _ _ h => h, ?_⟩
        refine ⟨_, rfl, ?_⟩
        dsimp only [tNoPart]
        refine ⟨_, rfl, lf, _, 0, _, rfl, rfl, SqL.of eL5, atI_nat (j := 0) e00, a0, _, rfl, .inl (SqL.of er0), _, rfl, (r.length : Int), (d : Int), by rw [List.length_map], by omega, by omega, by omega, hd9, _, rfl, ?_⟩
        rw [show grI (r.length : Int) (d : Int) = ((grS r.length d : Nat) : Int) by unfold grI; rw [Int.toNat_natCast, Int.toNat_natCast]]
        refine ⟨lf, _, rfl, SqL.of eL5, ?_⟩
        refine fun p n_p => ?_
        generalize g_p : L2.upd _ p _ = H6
        obtain ⟨s_H6, e_p⟩ := U.upd_facts g_p n_p
        clear g_p
        rw [cut_take _ _ hGm, ← List.map_take] at e_p
        have eL6 := s_H6 _ _ eL5
        refine ⟨_, rfl, _, rfl, p, _, rfl, .inl (SqL.of e_p), ((grS r.length d : Nat) : Int), by rw [List.length_map, List.length_take, Nat.min_eq_left hGl], ?_⟩
        dsimp only [tNoPart]
        refine ⟨lf, _, rfl, SqL.of eL6, ?_⟩
        refine fun l2 n_l2 => ?_
        generalize g_l2 : L2.upd _ l2 _ = H7
        obtain ⟨s_H7, e_l2⟩ := U.upd_facts g_l2 n_l2
        clear g_l2
        rw [cut_drop _ _ hGm, ← List.map_drop] at e_l2
        have eD7 := s_H7 _ _ (s_H6 _ _ eD5)
        have s57 := s_H6.trans s_H7
        have hRt : RowsAt H7 (as'.take (grS r.length d)) G := by rw [eG]; exact (hR5.take _).same s57
        have hRd : RowsAt H7 (as'.drop (grS r.length d)) R' := by rw [eR']; exact (hR5.drop _).same s57
        refine ⟨_, rfl, .inr (.inr (.inl ⟨rfl, .inl ⟨_, eD7⟩⟩)), cons_of ?_⟩
        refine ⟨_, rfl, _, rfl, p, _, G, d, r.length, rfl, s_H7 _ _ e_p, hRt, g2, hr1, by omega, hGn, by rw [g1]; exact grS_dvd _ _, by rw [g1]; exact grS_cop hr1 hd, hsub.nodup hfnd, fun E Pl H8 nE eE W pmP s8 => ?_⟩
        have eD8 := s8 _ _ eD7
        have nDE : D ≠ E := fun z => by rw [← z, eD7] at nE; cases nE
        have hZ' : ∀ z ∈ Z ++ [(G, Pl)], (∃ L, Woven z.1 d L z.2) ∧ z.2.Perm z.1.flatten := fun z hz => by
          rcases List.mem_append.mp hz with h | h
          · exact hZ z h
          · rw [List.mem_singleton] at h
            subst h
            exact ⟨⟨_, W⟩, pmP⟩
        have hfl' : ((Z ++ [(G, Pl)]).map (·.1)).flatten ++ R' = R1 := by
          rw [List.map_append, List.flatten_append]
          simpa using hRF
        have ndk : ((clL Z ++ arC Pl).map (·.1)).Nodup := by
          rw [← clL_snoc Z (G, Pl), clL_keys]
          have h1 := flat_flat (p := (·.1)) (q := (·.1)) fun z hz => (hZ' z hz).2
          exact h1.nodup_iff.mpr ((flat_sub hfl').nodup hfnd)
        have hlk : (clL Z).length + (arC Pl).length ≤ 300 := by
          have h1 := flat_flat (p := (·.1)) (q := (·.1)) fun z hz => (hZ' z hz).2
          have h2 := h1.length_eq
          have h3 := (flat_sub hfl').length_le
          rw [← clL_keys, clL_snoc] at h2
          simp only [List.length_map, List.length_append] at h2
          omega
        refine ⟨D, E, _, _, rfl, rfl, nDE, eD8, eE, le_line (by rw [kvI_length, kvI_length]; omega), ?_⟩
        rw [merge_new _ _ ndk]
        have o9 : Off D H8 (upd H8 D (.dK (kvI (clL Z ++ arC Pl)))) := fun b o h e => by rw [upd_ne h]; exact e
        have e9 : (upd H8 D (.dK (kvI (clL Z ++ arC Pl)))) D = _ := upd_same
        generalize upd H8 D (.dK (kvI (clL Z ++ arC Pl))) = H9 at o9 e9 ⊢
        have oa9 : Off D H4 H9 := fun b o h e => o9 _ _ h (s8 _ _ (s57 _ _ (oa5 b o h e)))
        have nlD : l2 ≠ D := fun z => by rw [z, s_H6 _ _ eD5] at n_l2; cases n_l2
        refine ⟨R'.length, by rw [eGR, List.length_append]; omega, l2, as'.drop (grS r.length d), R', Z ++ [(G, Pl)], _, rfl, oa9, o9 _ _ nlD (s8 _ _ e_l2), (hRd.same s8).map fun a ha xs e => o9 _ _ (fun z => by rw [z, eD8] at e; cases e) e, by rw [List.length_drop]; omega, g3, by rw [clL_snoc]; exact e9, hZ', hfl', rfl⟩
      · have hRn : R = [] := by simpa using z
        subst hRn
        rw [List.append_nil] at hfl
        have hC : ((Z.map (·.1)).flatten).Perm ((cycS n f).map (rowN f)) := by rw [hfl]; exact pm1
        have s2H5 : ∀ a o, H2 a = some o → H5 a = some o := fun a o e => oa5 _ _ (h2D _ _ e) (s24 _ _ e)
        refine ⟨_, rfl, _, rfl, lh, hA, _, d, rfl, s2H5 _ _ e3, r2.map fun a ha xs e => s2H5 _ _ e, by omega, hd, fun R' pmR soR => noFail_rows hd wf hn3 pmR soR a2 d2 oh, fun gl gs OG H6 ngl eg hGr hok pmO s6 => ?_⟩
        obtain ⟨ndA, wfA, powA⟩ := root_is wf hd hZ hC hok pmO
        have eD6 := s6 _ _ eD5
        have ndK := arrs_nd ndA
        have keyI : ∀ i, ((clL Z ++ opL (OG.take i)).map (·.1)).Nodup ∧ (clL Z ++ opL (OG.take i)).length ≤ 300 := fun i => by
          have e1 : clL Z ++ opL OG = arrs (Z.map (·.2)) (OG.map lay1) := rfl
          have hs : (clL Z ++ opL (OG.take i)).Sublist (arrs (Z.map (·.2)) (OG.map lay1)) := by
            rw [← e1]
            refine (List.Sublist.refl _).append ?_
            unfold opL
            conv => rhs; rw [← List.take_append_drop i OG, List.map_append, List.map_append, List.flatten_append]
            exact List.sublist_append_left _ _
          have h3 := di_lenN (arrs_di ndA) wfA
          have := hs.length_le
          exact ⟨(hs.map _).nodup ndK, by omega⟩
        refine ⟨gl, rfl, ⟨_, SqL.of eg⟩, ?_⟩
        refine for_it (walk_list (xs := gs.map V.ref)) (fun i σ H' => ∃ (v6 : Option V), σ = [some (.ref m), some (.int (d : Int)), some (.ref lc), some (.ref lh), some (.ref D), some (.ref lf), v6] ∧ Off D H6 H' ∧ H' D = some (.dK (kvI (clL Z ++ opL (OG.take i)))))
          ⟨_, rfl, fun b o _ e => e, by rw [List.take_zero]; show H6 D = some (.dK (kvI (clL Z ++ []))); rw [List.append_nil]; exact eD6⟩ (fun i σ H' _ ⟨_, _, o, _⟩ => SqL.of (o _ _ (fun z => by rw [z, eD6] at eg; cases eg) eg)) ?_ ?_
        · rintro i v σ Ha0 Ha hi ⟨v6, rfl, o7, e7⟩ ⟨rfl, ev⟩
          rw [List.getElem?_map] at ev
          obtain ⟨gi, egi, rfl⟩ := Option.map_eq_some_iff.mp ev
          obtain ⟨asg, G, eG, eg1, rg, lg⟩ := hGr.get i gi egi
          have hGm := List.mem_of_getElem? eG
          have okG := hok G hGm
          have sub1 : (lay1 G).Sublist ((OG.map lay1).flatten) := List.sublist_flatten_of_mem (List.mem_map.mpr ⟨G, hGm, rfl⟩)
          have ndG : (lay1 G).Nodup := sub1.nodup ((List.sublist_append_right _ _).nodup ndA)
          have pmG : (lay1 G).Perm G.flatten := layP_perm okG.le.2
          have hlG : G.flatten.length ≤ 300 := by
            have h1 := (List.sublist_flatten_of_mem hGm : G.Sublist OG.flatten)
            have h2 : (OG.flatten.flatten).Perm (seenL f (nons n f)) := flat_perm pmO
            have h3 : G.flatten.length ≤ OG.flatten.flatten.length := by
              obtain ⟨A, B, e⟩ := List.append_of_mem hGm
              rw [e, List.flatten_append, List.flatten_cons, List.flatten_append, List.flatten_append]
              simp only [List.length_append]
              omega
            have := h2.length_eq
            omega
          have off7 : ∀ a xs, H6 a = some (.lst xs) → Ha a = some (.lst xs) := fun a xs e => o7 _ _ (fun z => by rw [z, eD6] at e; cases e) e
          refine ⟨_, rfl, .inr (.inr (.inl ⟨rfl, .inl ⟨_, e7⟩⟩)), cons_of ?_⟩
          refine ⟨_, rfl, gi, asg, G, rfl, off7 _ _ eg1, rg.map fun a ha xs e => off7 _ _ e, okG.le.1, okG.le.2, pmG.nodup_iff.mp ndG, hlG, lg, fun E H8 nE eE s8 => ?_⟩
          have eD8 := s8 _ _ e7
          have nDE : D ≠ E := fun z => by rw [← z, e7] at nE; cases nE
          obtain ⟨k1, k2⟩ := keyI (i + 1)
          have etk : OG.take (i + 1) = OG.take i ++ [G] := take_more eG
          rw [etk, opL_snoc, ← List.append_assoc] at k1 k2
          refine ⟨D, E, _, _, rfl, rfl, nDE, eD8, eE, le_line (by rw [kvI_length, kvI_length]; rw [List.length_append] at k2; omega), ?_⟩
          rw [merge_new _ _ k1]
          refine ⟨_, rfl, fun b o h e => by rw [upd_ne h]; exact s8 _ _ (o7 b o h e), ?_⟩
          rw [upd_same, etk, opL_snoc, List.append_assoc]
        · rintro σ Ha ⟨v6, rfl, o7, e7⟩
          rw [List.length_map, hGr.len, List.take_length] at e7
          have s0a : Same H Ha := fun b o e => by
            have hb : b ≠ D := ne_of_none e nD
            exact o7 _ _ hb (s6 _ _ (oa5 _ _ hb (s04 _ _ e)))
          have hma := hm.same s0a
          obtain ⟨dx', fs', hmo'⟩ := at_map hma
          refine ⟨_, rfl, m, dx', fs', rfl, hmo', m, n, f, rfl, hma, _, rfl, ?_⟩
          have di := arrs_di ndA
          have h3 := di_lenN di wfA
          exact fun x dx nx ndx ne => init_of e7 di wfA hn1 hn3 (by show (arrs (Z.map (·.2)) (OG.map lay1)).length ≤ 1000; omega) nx ndx ne fun H9 s9 m9 => ⟨rfl, q cs hs H9 (.ref x) a1 a2 d1 d2 (s0a.trans s9) (.inr ⟨eo, x, _, rfl, s0a.free nx, m9, powA⟩)⟩
end
end My
set_option maxHeartbeats 1000000
namespace My
open PySem L2 U StX PM
def RtArg (C : Addr) (H : Hp) (x : V) (n : Int) (f : PF) (d : Nat) (b : Bool) : Prop := (∃ a n' g, x = .ref a ∧ IsMap C H a n' g ∧ b = (decide (n' = n) && eqB n' (pk n' g d) n f)) ∨ (nonMapV H x ∧ b = false)
def spIsRt (C : Addr) : Sp := fun vs H Q _ => ∃ (m : Addr) (n : Int) (f : PF) (d : Nat) (x : V) (b : Bool), vs = [.ref m, .int (d : Int), x] ∧ IsMap C H m n f ∧ 1 ≤ d ∧ (d : Int) ≤ 1000000000000000000000000000000 ∧ RtArg C H x n f d b ∧ ∀ H', Same H H' → Q (.bl b) H'
section
variable {P : Program} {w : World} {K : PySem.W.Frag} {mg : Str → Option Value} {base : Heap}
set_option pp.maxSteps 3000 in
theorem ok_is_root (T : Txt K mg) : FnR P w K mg base CX0 9 T.f_is_root (spIsRt T.C_Map) := by
  refine T.A_is_root.ok sc_is_root (fun vs H Q E h => ?_) (fun cdv A outer s H vs Q E hr h => ?_)
  · obtain ⟨m, n, f, d, x, b, rfl, _⟩ := h
    rfl
  · obtain ⟨m, n, f, d, x, b, rfl, hm, hd, hd9, hx, q⟩ := h
    have hu := hu_of hr
    refine ⟨_, (pss_cons (ps_expr (pe_callR (fnR_calm (ok_check_map T)) (hr.mono (by decide)) T.A_check_map.kp rfl T.g_check_map pass0 (pa_cons (pv 0) pa_nil)))
      (pss_cons (ps_expr (pe_callR (ok_check_degree T) (hr.mono (by decide)) T.A_check_degree.kp rfl T.g_check_degree pass0 (pa_cons (pv 1) pa_nil)))
      (pss_one (ps_ret (pe_and (pe_callB call_isi (by rfl) T.n_isinstance (by decide +kernel) (pa_cons (pv 2) (pa_cons (pe_glob (v := .ref T.C_Map) rfl T.g_Map rfl) pa_nil))) (pe_and (pe_cmpR op_eq (pe_propR (pv 2) T.o_Map.cl T.P_Map_size (ok_size T) (hr.mono (by decide))) (pe_propR (pv 0) T.o_Map.cl T.P_Map_size (ok_size T) (hr.mono (by decide))) (nomark _)) (pe_one (pe_cmpR (op_cmp (fun _ _ => rfl) T.m_Map__eq T.i_Map__eq (ok_eq T) (hr.mono (by decide)) pass0) (pe_methR (pv 2) T.o_Map.cl T.meth_Map_power (ok_power T) (hr.mono (by decide)) pass0 (pa_cons (pv 1) pa_nil)) (pv 0) (nomark _))))))))), ?_⟩
    refine ⟨_, rfl, _, rfl, .inl ⟨m, n, f, rfl, hm, ?_⟩⟩
    refine ⟨_, rfl, d, rfl, by omega, hd9, ?_⟩
    rcases hx with ⟨a, n', g, rfl, ha, rfl⟩ | ⟨hx, rfl⟩
    · obtain ⟨dx, D1, e1, _⟩ := id ha.ob
      obtain ⟨dx2, D2, e2, _⟩ := id hm.ob
      refine ⟨_, rfl, _, _, _, _, true, rfl, .own _, tyx_ins T.o_Map e1, T.self_Map, _, rfl, iteT' rfl ?_⟩
      refine ⟨_, rfl, a, dx, _, rfl, e1, a, n', g, rfl, ha, _, rfl, m, dx2, _, rfl, e2, m, n, f, rfl, hm, rfl, _, rfl, ?_⟩
      by_cases hn : n' = n
      · subst hn
        refine iteT' (decide_eq_true rfl) ?_
        refine ⟨_, rfl, a, dx, _, rfl, e1, rfl, _, rfl, a, n', g, (d : Int), rfl, ha, fun r H1 nr s1 mr => ?_⟩
        rw [pw_pk] at mr
        obtain ⟨dx3, D3, e3, _⟩ := id mr.ob
        rw [decide_eq_true rfl, Bool.true_and] at q
        exact ⟨_, rfl, r, dx3, _, m, dx2, _, rfl, rfl, e3, s1 _ _ e2, r, m, n', pk n' g d, n', f, rfl, mr, hm.same s1, q H1 s1⟩
      · refine iteF' (decide_eq_false fun z => hn (V.int.inj z)) ?_
        rw [decide_eq_false hn] at q
        exact q H (Same.refl H)
    · obtain ⟨t, ht, hk⟩ := ty_nonmap T hx
      refine ⟨_, rfl, _, _, _, _, false, rfl, .own _, ht, hk, _, rfl, iteF' rfl (q H (Same.refl H))⟩
end
end My
set_option maxHeartbeats 1000000
namespace My
open PySem L2 U StX PM
theorem no_obst {n : Int} {g : PF} {d : Nat} {cs hs : List (Int × Int)} (w : WF n g) (hn : n ≤ 300) (hd : 1 ≤ d) (as : Asc hs) (d1 : DI cs (cnt (lens (iter g d) (cycS n (iter g d))))) (d2 : DI hs (cnt (lens (iter g d) (nons n (iter g d))))) : obst cs hs (d : Int) = none := by
  have wg := wf_it w hd
  have hc : cyF cs (d : Int) = none := cyF_no fun q hq => by
    have e := d1.mem.mp (show (q.1, q.2) ∈ cs from hq)
    rw [cnt_bag] at e
    obtain ⟨e1, _⟩ := toPF_some.mp e
    rw [← e1]
    refine Int.emod_eq_zero_of_dvd ?_
    unfold grI
    rw [Int.toNat_natCast]
    exact cyc_dvd w hd q.1
  have hkeys : ∀ x : Int, x ∈ hs.map (·.1) ↔ lk hs x ≠ none := fun x => by
    have di : DI hs (lk hs) := ⟨d2.nd, fun _ => rfl⟩
    constructor
    · intro hx
      obtain ⟨⟨a, b⟩, hp, rfl⟩ := List.mem_map.mp hx
      rw [di.mem.mp hp]
      exact fun z => nomatch z
    · intro hx
      cases e : lk hs x with
      | none => exact absurd e hx
      | some y => exact List.mem_map.mpr ⟨_, di.mem.mpr e, rfl⟩
  have hp := k9_lens wg hn (fun e he => ⟨(nons_dom he).1, (nons_dom he).2.1⟩) d2
  have hh : fcP hs (d : Int) = none := by
    unfold fcP
    rw [fcK_at (by omega) _ 1000 1000 0 ?_ ?_ ?_ (Int.le_refl _) (fun _ z => absurd rfl z)]
    · have := fcF_pow w hn hd (F := lk hs) fun j hj => by rw [d2.at_, cnt_get, bag_ones]
      simpa using this
    · rw [List.pairwise_reverse]
      exact as.1
    · intro x hx
      rw [List.mem_reverse] at hx
      obtain ⟨p, hm, rfl⟩ := List.mem_map.mp hx
      have := hp p hm
      omega
    · intro x _ _ hx
      rw [List.mem_reverse]
      exact (hkeys x).mpr hx
  unfold obst
  rw [hc]
  show (fcP hs (d : Int)).map _ = none
  rw [hh]
  rfl
theorem pk_it (n : Int) (g : PF) {k : Nat} (h : 1 ≤ k) : pk n g k = iter g k := by
  obtain ⟨j, rfl⟩ : ∃ j, k = j + 1 := ⟨k - 1, by omega⟩
  rfl
theorem pN_it (n : Int) (g : PF) {k : Nat} (h : 1 ≤ k) : pN n g k = iter g k := by
  obtain ⟨j, rfl⟩ : ∃ j, k = j + 1 := ⟨k - 1, by omega⟩
  rfl
theorem nt_of {D : Ends} {σ : L2.St} {H : Hp} (h : D.nx σ H) : tNext D σ H := h
theorem pw_nat' (n : Int) (f : PF) (k : Nat) : pw n f (k : Int) = pN n f k := by
  rw [pw_pk]
  cases k <;> rfl
theorem inR_in {n x : Int} (h0 : 0 ≤ x) (h1 : x < n) : inR (.int x) 0 (n - 1) = true := by simp only [inR, Bool.and_eq_true, decide_eq_true_eq]; omega
def spLMap (C : Addr) : Sp := fun vs H Q _ => ∃ (p : Addr) (n : Int), vs = [.ref p, .int n] ∧ PoolAt H p ∧ 1 ≤ n ∧ n ≤ 60 ∧ ∀ m f H', PoolAt H' p → Off p H H' → IsMap C H' m n f → Q (.ref m) H'
section
variable {P : Program} {w : World} {K : PySem.W.Frag} {mg : Str → Option Value} {base : Heap}
set_option pp.maxSteps 3000 in
theorem ok_l_map (T : Txt K mg) : FnR P w K mg base CX0 12 T.f_l_map (spLMap T.C_Map) := by
  refine T.A_l_map.ok sc_l_map (fun vs H Q E h => ?_) (fun cdv A outer s H vs Q E hr h => ?_)
  · obtain ⟨p, n, rfl, _⟩ := h
    rfl
  · obtain ⟨p, n, rfl, pool, n1, n6, q⟩ := h
    have hu := hu_of hr
    refine ⟨_, (pss_cons (ps_set (i := 2) sc_l_map.nd rfl (Or.inl rfl) (pe_makeR T.M_Map (ok_init T) (hr.mono (by decide)) rfl T.g_Map pass0 (pa_cons (pv 1) (pa_cons (pe_callR (ok_l_arrows T) (hr.mono (by decide)) T.A_l_arrows.kp rfl T.g_l_arrows pass0 (pa_cons (pv 0) (pa_cons (pv 1) (pa_cons (pe_ix ix_list (pe_lst (pa_cons pe_int (pa_cons pe_int (pa_cons pe_int (pa_cons pe_int pa_nil))))) (pe_callR (ok_draw T) (hr.mono (by decide)) T.A_l_draw.kp rfl T.g_l_draw pass0 (pa_cons (pv 0) (pa_cons pe_int pa_nil))) (fun _ _ => rfl)) pa_nil)))) pa_nil))))
      (pss_cons (ps_for PassesOwn.never rfl (pi_range1 rfl T.n_range (pa_cons (pe_callR (ok_draw T) (hr.mono (by decide)) T.A_l_draw.kp rfl T.g_l_draw pass0 (pa_cons (pv 0) (pa_cons pe_int pa_nil))) pa_nil)) (pg_name (i := 3) sc_l_map.nd rfl (Or.inl rfl))
        (pss_cons (ps_par (i := 4) (j := 5) rfl sc_l_map.nd rfl rfl (by decide) rfl rfl (pa_cons (pe_callR (ok_draw T) (hr.mono (by decide)) T.A_l_draw.kp rfl T.g_l_draw pass0 (pa_cons (pv 0) (pa_cons (pv 1) pa_nil))) (pa_cons (pe_callR (ok_draw T) (hr.mono (by decide)) T.A_l_draw.kp rfl T.g_l_draw pass0 (pa_cons (pv 0) (pa_cons (pv 1) pa_nil))) pa_nil)) (by rfl))
      (pss_one (ps_set (i := 2) sc_l_map.nd rfl (Or.inl rfl) (pe_op (op_bin T.o_Map.sf T.m_Map__mul T.i_Map__mul (ok_mul T) (hr.mono (by decide)) pass0) (pv 2) (ClX.pe_cmeth (pe_glob (v := .ref T.C_Map) rfl T.g_Map rfl) T.R_Map T.cm_Map_swap (fnR_calm (okX_swap T)) (hr.mono (by decide)) pass0 (pa_cons (pv 1) (pa_cons (pv 4) (pa_cons (pv 5) pa_nil)))))))))
      (pss_one (ps_ret (pv 2))))), ?_⟩
    refine ⟨_, rfl, _, rfl, _, rfl, (by show 4 ≤ sizeLine; decide), ?_⟩
    refine fun b1 n_b1 => ?_
    generalize g_b1 : L2.upd _ b1 _ = H1
    obtain ⟨s_H1, e_b1⟩ := U.upd_facts g_b1 n_b1
    clear g_b1
    have pb1 : p ≠ b1 := pool.ne n_b1
    refine draw_R rfl (fun R r => r) (pool.same s_H1) (by decide) (by decide) fun r H2 r0 r1 pool2 off2 => ?_
    have e4 := off2 _ _ pb1.symm e_b1
    have hx : ∃ wy : Int, atI [V.int 2, .int 3, .int 4, .int 4] r = some (.int wy) := by
      have : r = 0 ∨ r = 1 ∨ r = 2 ∨ r = 3 := by omega
      rcases this with rfl | rfl | rfl | rfl <;> exact ⟨_, rfl⟩
    obtain ⟨wy, ew⟩ := hx
    refine ⟨b1, _, r, .int wy, rfl, rfl, SqL.of e4, ew, ?_⟩
    refine ⟨p, n, _, rfl, pool2, n1, by omega, fun d H3 l nd hd di wf hll pool3 off3 => ?_⟩
    have o13 : Off p H H3 := (Off.ofS s_H1).tr (off2.tr off3)
    refine fun m dx nm ndx ne => init_of hd di wf n1 (by omega) hll nm ndx ne fun H4 s4 hm => ⟨rfl, ?_⟩
    have pool4 := pool3.same s4
    have o14 := o13.tr (Off.ofS s4)
    refine draw_R rfl (fun R r => r) pool4 (by decide) (by decide) fun c H5 c0 c1 pool5 off5 => ⟨c, rfl, by omega, by omega, ?_⟩
    refine for_it (walk_range (lo := 0)) (fun k σ H' => ∃ (m : Addr) (f : PF) (v3 v4 v5 : Option V), σ = [some (.ref p), some (.int n), some (.ref m), v3, v4, v5] ∧ PoolAt H' p ∧ Off p H H' ∧ IsMap T.C_Map H' m n f)
      ⟨m, _, _, _, _, rfl, pool5, o14.tr off5, hm.off off5 pool4.lst⟩ (fun _ _ _ _ _ => trivial) ?_ ?_
    · rintro k v σ Ha0 Ha hk ⟨m, f, v3, v4, v5, rfl, pa, oa, ma⟩ ⟨rfl, rfl⟩
      refine draw_R rfl (fun R r => ⟨_, rfl, r⟩) pa (by omega) (by omega) fun x1 Hb x10 x11 pb ob => ?_
      refine draw_R rfl (fun R r => ⟨_, rfl, r⟩) pb (by omega) (by omega) fun x2 Hc x20 x21 pc oc => ⟨_, _, rfl, ?_⟩
      have mc := (ma.off ob pa.lst).off oc pb.lst
      refine ⟨_, rfl, rfl, _, rfl, _, rfl, _, rfl, .int n, .int x1, .int x2, rfl, trivial, trivial, trivial, .inr ⟨n, rfl, n1, by omega, .inr ⟨inR_in x10 x11, .inr ⟨x1, x2, rfl, rfl, x10, x11, x20, x21, fun rr Hd nr sd mr => ?_⟩⟩⟩⟩
      obtain ⟨ex, D1, e1, _⟩ := id (mc.same sd).ob
      obtain ⟨ey, D2, e2, _⟩ := id mr.ob
      refine ⟨m, ex, _, rr, ey, _, rfl, rfl, e1, e2, m, rr, n, _, _, rfl, mc.same sd, mr, fun r2 He nr2 se m2 => ?_⟩
      exact ⟨r2, _, _, _, _, rfl, (pc.same sd).same se, (oa.tr (ob.tr oc)).tr ((Off.ofS sd).tr (Off.ofS se)), m2⟩
    · rintro σ Ha ⟨m, f, v3, v4, v5, rfl, pa, oa, ma⟩
      exact ⟨_, rfl, q m f Ha pa oa ma⟩
end
end My
set_option maxHeartbeats 1000000
namespace My
open PySem L2 U StX PM
/-- a plain value or a dict -/
def NM (H : Hp) : V → Prop
  | .non => True | .bl _ => True | .int _ => True | .str _ => True
  | .ref a => ∃ kvs, H a = some (.dK kvs)
  | _ => False
theorem NM.non {H : Hp} {x : V} (h : NM H x) : nonMapV H x := by
  cases x with
  | non => trivial
  | bl _ => trivial
  | int _ => trivial
  | str _ => trivial
  | ref a => exact .inr (.inr h)
  | byt _ => exact h.elim
  | flt _ => exact h.elim
  | ty _ => exact h.elim
theorem NM.off {p : Addr} {H H' : Hp} {x : V} (h : NM H x) (o : Off p H H') (hp : ∃ ys, H p = some (.lst ys)) : NM H' x := by
  cases x with
  | non => trivial
  | bl _ => trivial
  | int _ => trivial
  | str _ => trivial
  | ref a =>
    obtain ⟨kvs, e⟩ := h
    obtain ⟨ys, e2⟩ := hp
    exact ⟨kvs, o _ _ (fun z => by rw [z, e2] at e; cases e) e⟩
  | byt _ => exact h.elim
  | flt _ => exact h.elim
  | ty _ => exact h.elim
/-- a map or a value that is none -/
def BV (C : Addr) (H : Hp) (x : V) : Prop := (∃ a n g, x = .ref a ∧ IsMap C H a n g) ∨ NM H x
theorem BV.off {C p : Addr} {H H' : Hp} {x : V} (h : BV C H x) (o : Off p H H') (hp : ∃ ys, H p = some (.lst ys)) : BV C H' x := by
  rcases h with ⟨a, n, g, e, m⟩ | h
  · exact .inl ⟨a, n, g, e, m.off o hp⟩
  · exact .inr (h.off o hp)
theorem BV.same {C : Addr} {H H' : Hp} {x : V} (h : BV C H x) (s : Same H H') : BV C H' x := by
  rcases h with ⟨a, n, g, e, m⟩ | h
  · exact .inl ⟨a, n, g, e, m.same s⟩
  · refine .inr ?_
    cases x with
    | ref a => obtain ⟨kvs, e⟩ := h; exact ⟨kvs, s _ _ e⟩
    | _ => exact h
def spBent (C : Addr) : Sp := fun vs H Q _ => ∃ (p m : Addr) (n : Int) (f : PF), vs = [.ref p, .ref m] ∧ PoolAt H p ∧ IsMap C H m n f ∧ n ≤ 60 ∧ ∀ x H', PoolAt H' p → Off p H H' → BV C H' x → Q x H'
section
variable {P : Program} {w : World} {K : PySem.W.Frag} {mg : Str → Option Value} {base : Heap}
set_option pp.maxSteps 3000 in
theorem ok_l_bent (T : Txt K mg) : FnG P w K mg base CX0 12 T.f_l_bent (spBent T.C_Map) := by
  refine T.A_l_bent.okG sc_l_bent (fun vs H Q E h => ?_) (fun cdv A outer s H vs Q E gd hr h => ?_)
  · obtain ⟨p, m, n, f, rfl, _⟩ := h
    rfl
  · obtain ⟨p, m, n, f, rfl, pool, hm, n6, q⟩ := h
    have hu := hu_of hr
    refine ⟨_, (pss_cons (ps_set (i := 2) sc_l_bent.nd rfl (Or.inl rfl) (pe_propR (pv 1) T.o_Map.cl T.P_Map_size (ok_size T) (hr.mono (by decide))))
      (pss_cons (ps_set (i := 3) sc_l_bent.nd rfl (Or.inl rfl) (pe_lst (pa_cons (pe_op (op_bin T.o_Map.sf T.m_Map__mul T.i_Map__mul (ok_mul T) (hr.mono (by decide)) pass0) (pv 1) (ClX.pe_cmeth (pe_glob (v := .ref T.C_Map) rfl T.g_Map rfl) T.R_Map T.cm_Map_swap (fnR_calm (okX_swap T)) (hr.mono (by decide)) pass0 (pa_cons (pv 2) (pa_cons pe_int (pa_cons (pe_callR (ok_draw T) (hr.mono (by decide)) T.A_l_draw.kp rfl T.g_l_draw pass0 (pa_cons (pv 0) (pa_cons (pv 2) pa_nil))) pa_nil))))) (pa_cons (pe_un (un_inv T.m_Map__invert T.i_Map__invert (ok_invert T) (hr.mono (by decide)) pass0) (pv 1)) (pa_cons (ClX.pe_cmeth (pe_glob (v := .ref T.C_Map) rfl T.g_Map rfl) T.R_Map T.cm_Map_identity (ok_identity T) (hr.mono (by decide)) pass0 (pa_cons (pv 2) pa_nil)) (pa_cons (ClX.pe_cmeth (pe_glob (v := .ref T.C_Map) rfl T.g_Map rfl) T.R_Map T.cm_Map_empty (ok_empty T) (hr.mono (by decide)) pass0 (pa_cons (pv 2) pa_nil)) (pa_cons (pe_op (op_bin T.o_Map.sf T.m_Map__mul T.i_Map__mul (ok_mul T) (hr.mono (by decide)) pass0) (pv 1) (pv 1)) pa_nil)))))))
      (pss_one (ps_ret (pe_ix ix_list (pe_op op_cat (pv 3) (pe_lst (pa_cons (pe_propR (pv 1) T.o_Map.cl T.P_Map_arrows (ok_arrows T) (hr.mono (by decide))) (pa_cons pe_non (pa_cons (pe_callB (call_reprO gd T.m_Map__repr T.i_Map__repr (ok_repr T) (hr.mono (by decide)) pass0) (by rfl) T.n_repr (by decide +kernel) (pa_cons (pv 1) pa_nil)) (pa_cons pe_int (pa_cons (pe_makeR T.M_Map (ok_init T) (hr.mono (by decide)) rfl T.g_Map pass0 (pa_cons (pe_op op_add (pv 2) pe_int) (pa_cons (pe_propR (pv 1) T.o_Map.cl T.P_Map_arrows (ok_arrows T) (hr.mono (by decide))) pa_nil))) pa_nil))))))) (pe_callR (ok_draw T) (hr.mono (by decide)) T.A_l_draw.kp rfl T.g_l_draw pass0 (pa_cons (pv 0) (pa_cons pe_int pa_nil))) (fun _ _ => rfl)))))), ?_⟩
    have wf := hm.wf
    have n1 := hm.lo
    obtain ⟨dx, D0, e1, eD⟩ := id hm.ob
    have npm : m ≠ p := fun z => by
      obtain ⟨xs, e⟩ := pool.lst
      rw [z, e] at e1; cases e1
    refine ⟨_, rfl, m, dx, _, rfl, e1, m, n, f, rfl, hm, ?_⟩
    refine ⟨_, rfl, rfl, _, rfl, ?_⟩
    refine draw_R rfl (fun R r => ⟨_, rfl, r⟩) pool (by omega) (by omega) fun x1 H1 x10 x11 pool1 off1 => ?_
    refine ⟨.int n, .int 0, .int x1, rfl, trivial, trivial, trivial, .inr ⟨n, rfl, n1, by omega, .inr ⟨inR_in (by omega) (by omega), .inr ⟨0, x1, rfl, rfl, by omega, by omega, x10, x11, fun s1 H2 ns1 sd ms1 => ?_⟩⟩⟩⟩
    have hm2 := (hm.off off1 pool.lst).same sd
    have e2 := sd _ _ (off1 _ _ npm e1)
    obtain ⟨ey, D1, e3, _⟩ := id ms1.ob
    refine ⟨m, dx, _, s1, ey, _, rfl, rfl, e2, e3, m, s1, n, _, _, rfl, hm2, ms1, fun r1 H3 nr1 s3 m1 => ?_⟩
    have e13 := s3 _ _ e2
    refine ⟨_, rfl, m, dx, _, rfl, e13, m, n, f, rfl, hm2.same s3, fun r2 H4 nr2 s4 m2 => ?_⟩
    refine ⟨rfl, _, rfl, n, rfl, n1, by omega, fun r3 H5 nr3 s5 m3 => ?_⟩
    refine ⟨rfl, _, rfl, n, rfl, n1, by omega, fun r4 H6 nr4 s6 m4 => ?_⟩
    have s36 := (s4.trans s5).trans s6
    have e16 := s36 _ _ e13
    have hm6 := (hm2.same s3).same s36
    refine ⟨_, rfl, _, rfl, m, dx, _, m, dx, _, rfl, rfl, e16, e16, m, m, n, f, f, rfl, hm6, hm6, fun r5 H7 nr5 s7 m5 => ?_⟩
    refine ⟨(by show 5 ≤ sizeLine; decide), ?_⟩
    refine fun b1 n_b1 => ?_
    generalize g_b1 : L2.upd _ b1 _ = H8
    obtain ⟨s_H8, e_b1⟩ := U.upd_facts g_b1 n_b1
    clear g_b1
    have s68 := s7.trans s_H8
    have e18 := s68 _ _ e16
    have hm8 := hm6.same s68
    refine ⟨_, rfl, _, rfl, m, dx, _, rfl, e18, m, n, f, rfl, hm8, ?_⟩
    refine fun d1 n_d1 => ?_
    generalize g_d1 : L2.upd _ d1 _ = H9
    obtain ⟨s_H9, e_d1⟩ := U.upd_facts g_d1 n_d1
    clear g_d1
    have e19 := s_H9 _ _ e18
    have hm9 := hm8.same s_H9
    refine ⟨_, rfl, m, dx, _, rfl, e19, m, n, f, rfl, hm9, fun hlen => ⟨_, rfl, ?_⟩⟩
    refine ⟨_, rfl, _, _, rfl, rfl, _, rfl, m, dx, _, rfl, e19, m, n, f, rfl, hm9, ?_⟩
    refine fun d2 n_d2 => ?_
    generalize g_d2 : L2.upd _ d2 _ = H10
    obtain ⟨s_H10, e_d2⟩ := U.upd_facts g_d2 n_d2
    clear g_d2
    have hl3 := tab_len n f
    refine fun mx mdx nm ndx ne => init_of e_d2 (di_tab wf) (show WF (n + 1) f from ⟨fun x y e => by have := wf.dom x y e; omega, wf.inj⟩) (by omega) (by omega) (by omega) nm ndx ne fun H11 s11 m11 => ⟨rfl, ?_⟩
    refine ⟨(by show 5 ≤ sizeLine; decide), ?_⟩
    refine fun b2 n_b2 => ?_
    generalize g_b2 : L2.upd _ b2 _ = H12
    obtain ⟨s_H12, e_b2⟩ := U.upd_facts g_b2 n_b2
    clear g_b2
    have s812 := ((s_H9.trans s_H10).trans s11).trans s_H12
    have eb1 := s812 _ _ e_b1
    refine ⟨b1, b2, _, _, rfl, rfl, eb1, e_b2, (by show 10 ≤ sizeLine; decide), ?_⟩
    refine fun b3 n_b3 => ?_
    generalize g_b3 : L2.upd _ b3 _ = H13
    obtain ⟨s_H13, e_b3⟩ := U.upd_facts g_b3 n_b3
    clear g_b3
    have s27 := (s3.trans s36).trans s7
    have s213 := (s27.trans s_H8).trans (s812.trans s_H13)
    have p13 := (pool1.same sd).same s213
    have o13 : Off p H H13 := (off1.tr (Off.ofS sd)).tr (Off.ofS s213)
    refine draw_R rfl (fun R r => r) p13 (by decide) (by decide) fun rd H14 c0 c9 p14 off14 => ?_
    have p12 := (pool1.same sd).same ((s27.trans s_H8).trans s812)
    have npb : p ≠ b3 := p12.ne n_b3
    have e14 := off14 _ _ npb.symm e_b3
    have mv : ∀ {a : Addr} {k : Int} {g : PF} {Hx : Hp}, Same Hx H13 → IsMap T.C_Map Hx a k g → BV T.C_Map H14 (.ref a) := fun s h => .inl ⟨_, _, _, rfl, (h.same s).off off14 p13.lst⟩
    have fin : ∀ v, atI ([V.ref r1, .ref r2, .ref r3, .ref r4, .ref r5] ++ [V.ref d1, .non, .str _, .int 5, .ref mx]) rd = some v → BV T.C_Map H14 v → rIxL K (.ref b3) (.int rd) H14 Q := fun v ev bv => ⟨b3, _, rd, v, rfl, rfl, SqL.of e14, ev, q v H14 p14 (o13.tr off14) bv⟩
    have s813 := s_H8.trans (s812.trans s_H13)
    have b : rd = 0 ∨ rd = 1 ∨ rd = 2 ∨ rd = 3 ∨ rd = 4 ∨ rd = 5 ∨ rd = 6 ∨ rd = 7 ∨ rd = 8 ∨ rd = 9 := by omega
    rcases b with rfl | rfl | rfl | rfl | rfl | rfl | rfl | rfl | rfl | rfl
    · exact fin _ rfl (mv (s36.trans (s7.trans s813)) m1)
    · exact fin _ rfl (mv ((s5.trans s6).trans (s7.trans s813)) m2)
    · exact fin _ rfl (mv (s6.trans (s7.trans s813)) m3)
    · exact fin _ rfl (mv (s7.trans s813) m4)
    · exact fin _ rfl (mv s813 m5)
    · have ed : H14 d1 = some (.dK (kvI (tab n f))) := off14 _ _ (fun z => by
        obtain ⟨xs, e⟩ := p12.lst
        have := (s_H10.trans (s11.trans s_H12)) _ _ e_d1
        rw [z, e] at this; cases this) (s_H13 _ _ ((s_H10.trans (s11.trans s_H12)) _ _ e_d1))
      exact fin _ rfl (.inr ⟨_, ed⟩)
    · exact fin _ rfl (.inr trivial)
    · exact fin _ rfl (.inr trivial)
    · exact fin _ rfl (.inr trivial)
    · exact fin _ rfl (mv (s_H12.trans s_H13) m11)
end
end My
set_option maxHeartbeats 1000000
namespace My
open PySem L2 U StX PM
theorem for_lst {K : PySem.W.Frag} {te : TE} {g : TG} {tb : TS} {D : Ends} {σ : L2.St} {H : Hp} (h : te σ H fun x H1 => ∃ a, x = V.ref a ∧ (∃ xs, SqL K H1 a xs) ∧ ∃ W : Nat → Nat → L2.St → Hp → Prop, (∃ m, W 0 m σ H1) ∧ ∀ i m σ H, W i m σ H →
    ((Itl K a).stop i H ∧ D.nx σ H) ∨ ((Itl K a).go i H ∧ ∃ N : L2.St → Hp → Prop, (∀ σ' H', N σ' H' → ∃ m', m' < m ∧ W (i + 1) m' σ' H') ∧ ∀ x H', (Itl K a).yld i H x H' → g x σ H' fun σ2 H2 => tb { D with nx := N, ct := N, bk := D.nx } σ2 H2)) : tFor (iList K te) g tb D σ H := h
/-- no obstacle, so this is none -/
theorem obs_no {K : PySem.W.Frag} {C : Addr} {H : Hp} {cs hs : List (Int × Int)} {d n L : Int} {t : Addr} (b : Bool) (as : Asc cs) (h : obst cs hs d = none) (hL : 1 ≤ L) (ht : H t = some (.tup [.str (kindS b), .int L])) : ObsV K C H cs hs d n (.ref t) false := by
  by_cases hn : L ≤ n
  · obtain ⟨h1, h2⟩ := obst_none h
    have g : gob cs hs d (.str (kindS b)) L = false := by
      unfold gob
      cases b with
      | true =>
        rw [if_pos (by decide +kernel)]
        have e0 : (lk cs L).getD 0 % grI L d = 0 := by
          have di : DI cs (lk cs) := ⟨as.nd, fun _ => rfl⟩
          cases e : lk cs L with
          | none => exact Int.zero_emod _
          | some y =>
            unfold cyF at h1
            rw [Option.map_eq_none_iff, List.find?_eq_none] at h1
            have := h1 _ (di.mem.mpr e)
            simpa using this
        rw [decide_eq_true e0]
        rfl
      | false =>
        rw [if_neg (by decide +kernel), h2]
        simp
    have o : ObsV K C H cs hs d n (.ref t) (gob cs hs d (.str (kindS b)) L) := .good (dk := .str (kindS b)) ht hL hn (.str _) (by cases b <;> decide +kernel)
    rw [g] at o
    exact o
  · exact .snd ht trivial (by simp only [inR, Bool.and_eq_false_iff, decide_eq_false_iff_not]; omega)
theorem lc_rangePV {wi : TI} {i : Nat} {tv : TE} {vs : List Nat} {σ : L2.St} {H : Hp} {Q : VK} {n : Nat} {p : Addr} (pool : PoolAt H p) (Pk : Nat → V → Hp → Prop) (stab : ∀ k b H H' D, (∃ ys, H D = some (.lst ys)) → Off D H H' → Pk k b H → Pk k b H')
    (hwi : ∀ R : It → Hp → Prop, R (Itr 0 n) H → wi σ H R) (hw : ∀ a, wipe ((wipe σ vs).set i a) vs = wipe σ vs) (hn : n < sizeLine)
    (hb : ∀ k : Nat, k < n → ∀ H1, PoolAt H1 p → Off p H H1 → ∀ R : VK, (∀ b H2, PoolAt H2 p → Off p H1 H2 → Pk k b H2 → R b H2) → tv ((wipe σ vs).set i (some (.int (0 + (k : Nat))))) H1 R)
    (hq : ∀ (D : Addr) (bs : List V) (H' : Hp), PoolAt H' p → Off p H H' → H D = none → H' D = some (.lst bs) → bs.length = n → (∀ (k : Nat) (b : V), bs[k]? = some b → Pk k b H') → Q (.ref D) H') : tLc wi (gName i) tYes tv vs σ H Q := by
  refine hwi _ fun D hD => ?_
  have npD : p ≠ D := pool.ne hD
  refine lc_it (walk_range (lo := 0)) (fun k H' => PoolAt H' p ∧ Off p H H' ∧ ∃ bs : List V, H' D = some (.lst bs) ∧ bs.length = k ∧ ∀ (j : Nat) (b : V), bs[j]? = some b → Pk j b H') ⟨pool.put npD, Off.new hD, [], upd_same, rfl, fun j b e => by simp at e⟩ (fun _ _ _ _ => trivial) ?_ ?_
  · rintro k v H' H'' hk ⟨pool1, o1, bs, e1, hl, hbs⟩ ⟨rfl, rfl⟩
    refine ⟨hw _, yes_ ?_⟩
    refine hb k hk _ pool1 o1 _ fun b H2 pool2 o2 eb => ?_
    have e2 := o2 _ _ npD.symm e1
    refine ⟨_, e2, by rw [hl]; omega, pool2.put npD, (o1.tr o2).mut hD, bs ++ [b], by rw [upd_same], by simp [hl], fun j b' e => ?_⟩
    refine stab j b' H2 _ D ⟨_, e2⟩ Off.lock ?_
    by_cases hj : j < bs.length
    · rw [List.getElem?_append_left hj] at e
      exact stab _ _ _ _ p pool1.lst o2 (hbs j b' e)
    · have hl2 := (List.getElem?_eq_some_iff.mp e).1
      rw [List.length_append, List.length_singleton] at hl2
      have ej : j = k := by omega
      subst ej
      rw [List.getElem?_append_right (by omega), hl, Nat.sub_self] at e
      cases e
      exact eb
  · rintro H' ⟨pool1, o1, bs, e1, hl, hbs⟩
    exact hq D bs H' pool1 o1 hD e1 hl hbs
section
variable {P : Program} {w : World} {K : PySem.W.Frag} {mg : Str → Option Value} {base : Heap}
set_option pp.maxSteps 3000 in
theorem ok_law (T : Txt K mg) : FnG P w K mg base CX0 40 T.f_law (spLaw K) := by
  refine T.A_law.okG sc_law (fun vs H Q E h => ?_) (fun cdv A outer s H vs Q E gd hr h => ?_)
  · obtain ⟨a, ns, rfl, _⟩ := h
    rfl
  · obtain ⟨a, ns, rfl, hS, hl, q⟩ := h
    have hu := hu_of hr
    refine ⟨_, (pss_cons (ps_for PassesOwn.never rfl (pi_range1 rfl T.n_range (pa_cons (pe_callB (call_max2 rfl) (by rfl) T.n_max (by decide +kernel) (pa_cons pe_int (pa_cons (pe_callB (call_min2 rfl) (by rfl) T.n_min (by decide +kernel) (pa_cons (pe_callB call_len_seq (by rfl) T.n_len (by decide +kernel) (pa_cons (pv 0) pa_nil)) (pa_cons pe_int pa_nil))) pa_nil))) pa_nil)) (pg_name (i := 1) sc_law.nd rfl (Or.inl rfl))
        (pss_cons (ps_set (i := 2) sc_law.nd rfl (Or.inr rfl) (pe_callR (ok_hand T) (hr.mono (by decide)) T.A_l_hand.kp rfl T.g_l_hand pass0 (pa_cons (pv 0) (pa_cons (pv 1) pa_nil))))
      (pss_cons (ps_set (i := 3) sc_law.nd rfl (Or.inl rfl) (pe_op op_add pe_int (pe_callR (ok_draw T) (hr.mono (by decide)) T.A_l_draw.kp rfl T.g_l_draw pass0 (pa_cons (pv 2) (pa_cons pe_int pa_nil)))))
      (pss_cons (ps_par (i := 4) (j := 5) rfl sc_law.nd rfl rfl (by decide) rfl rfl (pa_cons (pe_callR (ok_l_map T) (hr.mono (by decide)) T.A_l_map.kp rfl T.g_l_map pass0 (pa_cons (pv 2) (pa_cons (pv 3) pa_nil))) (pa_cons (pe_ix ix_list (pe_lst (pa_cons pe_int (pa_cons pe_int (pa_cons pe_int (pa_cons pe_int (pa_cons pe_int (pa_cons pe_int (pa_cons pe_int (pa_cons (pe_op op_pow pe_int pe_int) pa_nil))))))))) (pe_callR (ok_draw T) (hr.mono (by decide)) T.A_l_draw.kp rfl T.g_l_draw pass0 (pa_cons (pv 2) (pa_cons pe_int pa_nil))) (fun _ _ => rfl)) pa_nil)) (by rfl))
      (pss_cons (ps_set (i := 6) sc_law.nd rfl (Or.inl rfl) (pe_methR (pv 4) T.o_Map.cl T.meth_Map_power (ok_power T) (hr.mono (by decide)) pass0 (pa_cons (pv 5) pa_nil)))
      (pss_cons (ps_set (i := 7) sc_law.nd rfl (Or.inr rfl) (pe_callR (ok_root T) (hr.mono (by decide)) T.A_root.kp rfl T.g_root pass0 (pa_cons (pv 6) (pa_cons (pv 5) pa_nil))))
      (pss_cons (ps_if (PW.pt (pw_or (pt_cmpR op_isN (pv 7) pe_non (nomark _)) (pw_or (pt_cmpR (op_neO T.o_Map T.ne_Map T.m_Map__eq T.i_Map__eq (ok_eq T) (hr.mono (by decide)) pass0) (pe_methR (pv 7) T.o_Map.cl T.meth_Map_power (ok_power T) (hr.mono (by decide)) pass0 (pa_cons (pv 5) pa_nil)) (pv 6) (nomark _)) (pw_or1 (pt_cmpR op_notBl (pe_callR (ok_is_root T) (hr.mono (by decide)) T.A_is_root.kp rfl T.g_is_root pass0 (pa_cons (pv 6) (pa_cons (pv 5) (pa_cons (pv 7) pa_nil)))) pe_bl (nomark _))))))
        (pss_one (ps_ret pe_bl)) pss_nil)
      (pss_cons (ps_if (PW.pt (pw_or (pt_cmpR op_notBl (pe_callR (ok_is_root T) (hr.mono (by decide)) T.A_is_root.kp rfl T.g_is_root pass0 (pa_cons (pv 6) (pa_cons (pv 5) (pa_cons (pv 4) pa_nil)))) pe_bl (nomark _)) (pw_or1 (pt_cmpR op_notBl (pe_callR (ok_has_root T) (hr.mono (by decide)) T.A_has_root.kp rfl T.g_has_root pass0 (pa_cons (pe_callR (ok_shape_of T) (hr.mono (by decide)) T.A_shape_of.kp rfl T.g_shape_of pass0 (pa_cons (pv 6) pa_nil)) (pa_cons (pv 5) pa_nil))) pe_bl (nomark _)))))
        (pss_one (ps_ret pe_bl)) pss_nil)
      (pss_cons (ps_if (pt_cmpR op_notN (pe_callR (ok_obstacle T) (hr.mono (by decide)) T.A_obstacle.kp rfl T.g_obstacle pass0 (pa_cons (pv 6) (pa_cons (pv 5) pa_nil))) pe_non (nomark _))
        (pss_one (ps_ret pe_bl)) pss_nil)
      (pss_cons (ps_for PassesOwn.never rfl (pi_range2 (by rfl) T.n_range (pa_cons pe_int (pa_cons pe_int pa_nil))) (pg_name (i := 8) sc_law.nd rfl (Or.inl rfl))
        (pss_one (ps_if (PW.pt (pw_or (pt_val (pe_callR (ok_is_obstacle T) (hr.mono (by decide)) T.A_is_obstacle.kp rfl T.g_is_obstacle pass0 (pa_cons (pv 6) (pa_cons (pv 5) (pa_cons (pe_tup (pa_cons pe_str (pa_cons (pv 8) pa_nil))) pa_nil))))) (pw_or1 (pt_val (pe_callR (ok_is_obstacle T) (hr.mono (by decide)) T.A_is_obstacle.kp rfl T.g_is_obstacle pass0 (pa_cons (pv 6) (pa_cons (pv 5) (pa_cons (pe_tup (pa_cons pe_str (pa_cons (pv 8) pa_nil))) pa_nil))))))))
        (pss_one (ps_ret pe_bl)) pss_nil)))
      (pss_one (ps_for PassesOwn.never rfl (pi_list (pe_lc (own := [("_law_turn", 11)]) (g := (gName 11)) (tt := tYes) rfl sc_law.nd (pi_range1 rfl T.n_range (pa_cons pe_int pa_nil)) (blkOk_by (own := [("_law_turn", 11)]) (N := n_law) (sc := defScope s_law) (by decide +kernel)) (fun _ _ _ _ _ => (pg_name (i := 11) sc_law.nd rfl (Or.inl rfl))) (fun _ _ _ _ _ => pts_nil) (fun _ _ _ _ _ => (pe_callG (ok_l_bent T) gd (hr.mono (by decide)) T.A_l_bent.kp rfl T.g_l_bent pass0 (pa_cons (pv 2) (pa_cons (pv 7) pa_nil)))))) (pg_name (i := 9) sc_law.nd rfl (Or.inl rfl))
        (pss_cons (ps_set (i := 10) sc_law.nd rfl (Or.inl rfl) (pe_and (pe_callB call_isi (by rfl) T.n_isinstance (by decide +kernel) (pa_cons (pv 9) (pa_cons (pe_glob (v := .ref T.C_Map) rfl T.g_Map rfl) pa_nil))) (pe_and (pe_cmpR op_eq (pe_propR (pv 9) T.o_Map.cl T.P_Map_size (ok_size T) (hr.mono (by decide))) (pv 3) (nomark _)) (pe_one (pe_cmpR (op_cmp (fun _ _ => rfl) T.m_Map__eq T.i_Map__eq (ok_eq T) (hr.mono (by decide)) pass0) (pe_methR (pv 9) T.o_Map.cl T.meth_Map_power (ok_power T) (hr.mono (by decide)) pass0 (pa_cons (pv 5) pa_nil)) (pv 6) (nomark _))))))
      (pss_one (ps_if (pt_cmpR op_ne (pe_callB call_repr0 (by rfl) T.n_repr (by decide +kernel) (pa_cons (pe_callR (ok_is_root T) (hr.mono (by decide)) T.A_is_root.kp rfl T.g_is_root pass0 (pa_cons (pv 6) (pa_cons (pv 5) (pa_cons (pv 9) pa_nil)))) pa_nil)) (pe_callB call_repr0 (by rfl) T.n_repr (by decide +kernel) (pa_cons (pv 10) pa_nil)) (nomark _))
        (pss_one (ps_ret pe_bl)) pss_nil)))))))))))))))
      (pss_one (ps_ret pe_bl))), ?_⟩
    refine ⟨_, rfl, a, _, rfl, .inl hS, _, _, rfl, _, _, rfl, _, rfl, ?_, ?_, ?_⟩
    · rw [List.length_map]; (repeat' split) <;> omega
    · rw [List.length_map]; (repeat' split) <;> omega
    refine for_it (walk_range (lo := 0)) (fun i σ H' => ∃ v1 v2 v3 v4 v5 v6 v7 v8 v9 v10 v11, σ = [some (.ref a), v1, v2, v3, v4, v5, v6, v7, v8, v9, v10, v11] ∧ Same H H')
      ⟨none, none, none, none, none, none, none, none, none, none, none, rfl, Same.refl H⟩ (fun _ _ _ _ _ => trivial) ?_ ?_
    · rintro k v σ H' H1 hk ⟨v1, v2, v3, v4, v5, v6, v7, v8, v9, v10, v11, rfl, p1⟩ ⟨rfl, rfl⟩
      refine ⟨_, rfl, _, rfl, a, ns, _, rfl, SqL.same hS p1, hl, fun p H2 x y np hp s2 hx hy hy2 => ?_⟩
      have p0 : H p = none := p1.free np
      have pool2 : PoolAt H2 p := ⟨x, y, hp, hx, hy, hy2⟩
      refine draw_R rfl (fun R r => r) pool2 (by decide) (by decide) fun r H3 r0 r1 pool3 off3 => ⟨_, _, rfl, rfl, ?_⟩
      obtain ⟨n, en⟩ : ∃ n, n = 1 + r := ⟨_, rfl⟩
      have n1 : 1 ≤ n := by omega
      have n6 : n ≤ 60 := by omega
      refine ⟨_, rfl, _, rfl, p, n, by rw [en], pool3, n1, n6, fun mb fb H4 pool4 off4 mb4 => ?_⟩
      refine ⟨_, _, rfl, rfl, ⟨by decide, by decide, by decide⟩, (by show 8 ≤ sizeLine; decide), ?_⟩
      refine fun b1 n_b1 => ?_
      generalize g_b1 : L2.upd _ b1 _ = H5
      obtain ⟨s_H5, e_b1⟩ := U.upd_facts g_b1 n_b1
      clear g_b1
      have pb1 : p ≠ b1 := pool4.ne n_b1
      refine draw_R rfl (fun R r => r) (pool4.same s_H5) (by decide) (by decide) fun rd H6 c0 c9 pool6 off6 => ?_
      have e6 := off6 _ _ pb1.symm e_b1
      have hx : ∃ d : Nat, atI [V.int 2, .int 3, .int 4, .int 6, .int 5, .int 12, .int 1, .int (10 ^ (20 : Int).toNat)] rd = some (.int (d : Int)) ∧ 1 ≤ d ∧ (d : Int) ≤ 1000000000000000000000000000000 := by
        have : rd = 0 ∨ rd = 1 ∨ rd = 2 ∨ rd = 3 ∨ rd = 4 ∨ rd = 5 ∨ rd = 6 ∨ rd = 7 := by omega
        rcases this with rfl | rfl | rfl | rfl | rfl | rfl | rfl | rfl
        · exact ⟨2, rfl, by decide, by decide⟩
        · exact ⟨3, rfl, by decide, by decide⟩
        · exact ⟨4, rfl, by decide, by decide⟩
        · exact ⟨6, rfl, by decide, by decide⟩
        · exact ⟨5, rfl, by decide, by decide⟩
        · exact ⟨12, rfl, by decide, by decide⟩
        · exact ⟨1, rfl, by decide, by decide⟩
        · exact ⟨100000000000000000000, by decide +kernel, by decide, by decide⟩
      obtain ⟨d, ed, hd1, hd9⟩ := hx
      refine ⟨b1, _, rd, .int (d : Int), rfl, rfl, SqL.of e6, ed, ?_⟩
      refine ⟨_, _, rfl, ?_⟩
      have mb6 := (mb4.same s_H5).off off6 (pool4.same s_H5).lst
      have sH6 : Same H H6 := Same.off ((Same.off (Same.off (p1.trans s2) off3 p0) off4 p0).trans s_H5) off6 p0
      obtain ⟨bx, bD, eb, _⟩ := id mb6.ob
      refine ⟨_, rfl, mb, bx, _, rfl, eb, rfl, _, rfl, mb, n, fb, (d : Int), rfl, mb6, fun gm H7 nG s7 mg => ?_⟩
      rw [pw_nat', pN_it _ _ hd1] at mg
      have wb := mb6.wf
      have kC : ∀ {cs : List (Int × Int)}, DI cs (cnt (lens (iter fb d) (cycS n (iter fb d)))) → ∀ p ∈ cs, 1 ≤ p.1 ∧ p.1 ≤ n := fun d1 => k9_lens mg.wf mg.hi (fun e he => cycS_dom he) d1
      have kH : ∀ {hs : List (Int × Int)}, DI hs (cnt (lens (iter fb d) (nons n (iter fb d)))) → ∀ p ∈ hs, 1 ≤ p.1 ∧ p.1 ≤ n := fun d1 => k9_lens mg.wf mg.hi (fun e he => ⟨(nons_dom he).1, (nons_dom he).2.1⟩) d1
      refine ⟨_, rfl, _, rfl, gm, n, iter fb d, d, rfl, mg, hd1, hd9, fun cs hs H8 vt a1 a2 d1 d2 s8 rt => ?_⟩
      have ob : obst cs hs (d : Int) = none := no_obst wb mg.hi hd1 a2 d1 d2
      rcases rt with ⟨h, _⟩ | ⟨_, tm, g, rfl, nT, mt, pg⟩
      · exact absurd ob h
      have pool8 := (pool6.same s7).same s8
      have sH8 := (sH6.trans s7).trans s8
      have mg8 := mg.same s8
      have mb8 := (mb6.same s7).same s8
      obtain ⟨tx, tD, et, _⟩ := id mt.ob
      obtain ⟨gx, gD, eg, _⟩ := id mg8.ob
      refine ⟨_, rfl, rfl, _, rfl, iteF' rfl ?_⟩
      refine ⟨_, rfl, tm, tx, _, rfl, et, rfl, _, rfl, tm, n, g, (d : Int), rfl, mt, fun r2 H9 nr2 s9 mr => ?_⟩
      rw [pw_nat', pg] at mr
      obtain ⟨rx, rD, er, _⟩ := id mr.ob
      have mg9 := mg8.same s9
      refine ⟨_, rfl, r2, rx, _, gm, gx, _, rfl, rfl, er, s9 _ _ eg, r2, gm, n, iter fb d, n, iter fb d, rfl, mr, mg9, _, rfl, _, rfl, iteF' (by rw [eqB_self mg.wf]; rfl) ?_⟩
      have e1b : true = (decide (n = n) && eqB n (pk n g d) n (iter fb d)) := by
        rw [decide_eq_true rfl, Bool.true_and, ← pw_pk, pw_nat', pg, eqB_self mg.wf]
      have e2b : true = (decide (n = n) && eqB n (pk n fb d) n (iter fb d)) := by
        rw [decide_eq_true rfl, Bool.true_and, pk_it _ _ hd1, eqB_self mg.wf]
      refine ⟨_, rfl, _, rfl, _, rfl, gm, n, iter fb d, d, .ref tm, true, rfl, mg9, hd1, hd9, .inl ⟨tm, n, g, rfl, mt.same s9, e1b⟩, fun H10 s10 => ⟨true, true, rfl, rfl, _, rfl, iteF' rfl (nt_of ?_)⟩⟩
      have mg10 := mg9.same s10
      refine ⟨_, rfl, _, rfl, _, rfl, gm, n, iter fb d, d, .ref mb, true, rfl, mg10, hd1, hd9, .inl ⟨mb, n, fb, rfl, (mb8.same s9).same s10, e2b⟩, fun H11 s11 => ⟨true, true, rfl, rfl, _, rfl, iteF' rfl ?_⟩⟩
      have mg11 := mg10.same s11
      refine ⟨_, rfl, gm, n, iter fb d, rfl, mg11, fun sh cs1 hs1 H12 s12 is1 f1 f2 => ?_⟩
      refine ⟨_, rfl, sh, cs1, hs1, d, rfl, is1, fun p hp => by have := kC f1 p hp; omega, fun p hp => by have := kH f2 p hp; omega, by omega, hd9, fun H13 s13 => ?_⟩
      rw [no_obst wb mg.hi hd1 is1.a2 f1 f2]
      refine ⟨true, true, rfl, rfl, _, rfl, iteF' rfl (nt_of ?_)⟩
      have mg13 := (mg11.same s12).same s13
      refine ⟨_, rfl, _, rfl, gm, n, iter fb d, d, rfl, mg13, by omega, hd9, fun cs2 hs2 H14 v4 b1 b2 f3 f4 s14 ov => ?_⟩
      have ob2 := no_obst wb mg.hi hd1 b2 f3 f4
      rw [ob2] at ov
      have ev : v4 = .non := ov
      subst ev
      refine ⟨rfl, _, rfl, iteF' rfl (nt_of ?_)⟩
      have s814 := ((((s9.trans s10).trans s11).trans s12).trans s13).trans s14
      have mg14 := mg13.same s14
      refine nx_of ?_
      refine ⟨1, 5, rfl, ⟨by decide, by decide, by decide, by decide⟩, ?_⟩
      refine for_it (walk_range (lo := 1)) (fun i σ H' => ∃ w1 v8, σ = [some (.ref a), w1, some (.ref p), some (.int n), some (.ref mb), some (.int (d : Int)), some (.ref gm), some (.ref tm), v8, v9, v10, v11] ∧ Same H14 H')
        ⟨_, _, by rw [en]; rfl, Same.refl _⟩ (fun _ _ _ _ _ => trivial) ?_ ?_
      · rintro i v σ Ha0 Ha hi ⟨w1, v8, rfl, sa⟩ ⟨rfl, rfl⟩
        have mga := mg14.same sa
        refine ⟨_, rfl, _, rfl, _, rfl, two_le, ?_⟩
        refine fun t1 n_t1 => ?_
        generalize g_t1 : L2.upd _ t1 _ = Hb
        obtain ⟨s_Hb, e_t1⟩ := U.upd_facts g_t1 n_t1
        clear g_t1
        have mgb := mga.same s_Hb
        refine ⟨gm, n, iter fb d, d, .ref t1, cs, hs, false, rfl, mgb, by omega, hd9, a1, a2, d1, d2, obs_no true a1 ob (by omega) e_t1, fun Hc sc => ⟨_, rfl, iteF' rfl ?_⟩⟩
        refine ⟨_, rfl, _, rfl, _, rfl, two_le, ?_⟩
        refine fun t2 n_t2 => ?_
        generalize g_t2 : L2.upd _ t2 _ = Hd
        obtain ⟨s_Hd, e_t2⟩ := U.upd_facts g_t2 n_t2
        clear g_t2
        have mgd := (mgb.same sc).same s_Hd
        refine ⟨gm, n, iter fb d, d, .ref t2, cs, hs, false, rfl, mgd, by omega, hd9, a1, a2, d1, d2, obs_no false a1 ob (by omega) e_t2, fun He se => ⟨_, rfl, iteF' rfl ?_⟩⟩
        exact ⟨_, _, rfl, (((sa.trans s_Hb).trans sc).trans s_Hd).trans se⟩
      · rintro σ H15 ⟨w1, v8, rfl, s15⟩
        have pool15 := (pool8.same s814).same s15
        have sH15 := (sH8.trans s814).trans s15
        have mt15 := (mt.same s814).same s15
        have mg15 := mg14.same s15
        refine nx_of ?_
        refine for_lst ?_
        refine lc_rangePV (n := 6) pool15 (fun _ b H => BV T.C_Map H b) (fun k b H H' D hD o h => h.off o hD) (fun R r => ⟨6, rfl, by decide, by decide, r⟩) (fun _ => rfl) (lt_line (by omega)) (fun j hj Ha pa oa R rr => ?_) (fun W bs H16 pool16 off16 nW eW hbl hbs => ?_)
        · exact ⟨_, rfl, _, rfl, p, tm, n, g, rfl, pa, mt15.off oa pool15.lst, n6, fun x Hb pb ob' bv => rr x Hb pb ob' bv⟩
        have mt16 := mt15.off off16 pool15.lst
        have mg16 := mg15.off off16 pool15.lst
        have p15 : H p = none := p0
        have sH16 := Same.off sH15 off16 p0
        refine ⟨W, rfl, ⟨_, SqL.of eW⟩, ?_⟩
        refine for_it (walk_list (xs := bs)) (fun j σ H' => ∃ w1 v8 v9 v10 v11, σ = [some (.ref a), w1, some (.ref p), some (.int n), some (.ref mb), some (.int (d : Int)), some (.ref gm), some (.ref tm), v8, v9, v10, v11] ∧ Same H16 H')
          ⟨_, _, _, _, _, rfl, Same.refl _⟩ (fun j σ H' _ ⟨_, _, _, _, _, _, z⟩ => SqL.of (z _ _ eW)) ?_ ?_
        · rintro j v σ Ha0 Ha hj ⟨w1, v8, v9, v10, v11, rfl, sa⟩ ⟨rfl, ev⟩
          have bv := (hbs j v ev).same sa
          have mga := mg16.same sa
          obtain ⟨gx2, gD2, eg2, _⟩ := id mga.ob
          rcases bv with ⟨tb, n', g', rfl, mb'⟩ | nm
          case' inl =>
            obtain ⟨xb, Db, exb, _⟩ := id mb'.ob
            refine ⟨_, rfl, _, _, _, _, true, rfl, .own _, tyx_ins T.o_Map exb, T.self_Map, _, rfl, iteT' rfl ?_⟩
            refine ⟨_, rfl, tb, xb, _, rfl, exb, tb, n', g', rfl, mb', _, rfl, rfl, _, rfl, ?_⟩
            by_cases hn : n' = n
            · refine iteT' (decide_eq_true (by rw [hn])) ?_
              refine ⟨_, rfl, tb, xb, _, rfl, exb, rfl, _, rfl, tb, n', g', (d : Int), rfl, mb', fun r Hb nr sb mr => ?_⟩
              rw [pw_pk] at mr
              obtain ⟨rx2, rD2, er2, _⟩ := id mr.ob
              have mgb := mga.same sb
              refine ⟨_, rfl, r, rx2, _, gm, gx2, _, rfl, rfl, er2, sb _ _ eg2, r, gm, n', pk n' g' d, n, iter fb d, rfl, mr, mgb, ?_⟩
              refine ⟨_, rfl, _, rfl, _, rfl, gm, n, iter fb d, d, .ref tb, _, rfl, mgb, hd1, hd9, .inl ⟨tb, n', g', rfl, mb'.same sb, rfl⟩, fun Hc sc => .inr (.inl ⟨_, rfl, _, rfl, .inr (.inl ⟨_, rfl, rfl, _, rfl, iteF' (by rw [decide_eq_true hn, Bool.true_and]; simp) ?_⟩)⟩)⟩
              exact ⟨_, _, _, _, _, rfl, (sa.trans sb).trans sc⟩
            · refine iteF' (decide_eq_false fun z => hn (V.int.inj z)) ?_
              refine ⟨_, rfl, _, rfl, _, rfl, gm, n, iter fb d, d, .ref tb, _, rfl, mga, hd1, hd9, .inl ⟨tb, n', g', rfl, mb', rfl⟩, fun Hc sc => .inr (.inl ⟨_, rfl, _, rfl, .inr (.inl ⟨_, rfl, rfl, _, rfl, iteF' (by rw [decide_eq_false hn, Bool.false_and]; simp) ?_⟩)⟩)⟩
              exact ⟨_, _, _, _, _, rfl, sa.trans sc⟩
          case' inr =>
            obtain ⟨t, ht, hk⟩ := ty_nonmap T nm.non
            refine ⟨_, rfl, _, _, _, _, false, rfl, .own _, ht, hk, _, rfl, iteF' rfl ?_⟩
            refine ⟨_, rfl, _, rfl, _, rfl, gm, n, iter fb d, d, v, false, rfl, mga, hd1, hd9, .inr ⟨nm.non, rfl⟩, fun Hc sc => .inr (.inl ⟨_, rfl, _, rfl, .inr (.inl ⟨_, rfl, rfl, _, rfl, iteF' (by simp) ?_⟩)⟩)⟩
            exact ⟨_, _, _, _, _, rfl, sa.trans sc⟩
        · rintro σ Ha ⟨w1, v8, v9, v10, v11, rfl, sa⟩
          exact ⟨_, _, _, _, _, _, _, _, _, _, _, rfl, sH16.trans sa⟩
    · rintro σ H' ⟨v1, v2, v3, v4, v5, v6, v7, v8, v9, v10, v11, rfl, p1⟩
      exact q H'
end
end My
namespace My
open PySem L2
theorem walk {l : PySem.W.OpenLaw} {q : Program} {loose : List Str} {XP : (Str → Option Value) → Heap → Prop} {YP : World → Heap → Prop} {d : DefRec} {K : Params → PySem.W.Frag} (hn : l.most = some 63) (hdf : d.params.defaults = []) (hnm : d.name = "law")
    (hY : ∀ (w : World) (h : Heap), YP w h → (K w.params).In h)
    (ok : ∀ (P : Program) (w : World) (K : PySem.W.Frag) (mg : Str → Option Value) (base : Heap) (T : Txt K mg), U.FnG P w K mg base CX0 40 T.f_law (spLaw K))
    (F : ∀ (w : World) (mg : Str → Option Value) (h : Heap), (K w.params).In h → h.Ns mainGlobals mg → Nonempty (Txt (K w.params) mg)) :
    PySem.W.WalkO q loose XP YP l.row.toRowW d [] (fun f vs => PySem.call f vs) := by
  refine U.walkG (n := 63) (k := 40) (sp := spLaw) hn (by decide) hdf ⟨rfl, by decide, by decide⟩ hY ?_ (fun K H a ns hl hS => ⟨a, ns, rfl, hS, hl, fun _ => rfl⟩)
  intro w mg fa h KX G hmg base
  obtain ⟨T⟩ := F w mg h KX G
  rw [hnm, T.g_law] at hmg
  cases hmg
  exact ok _ _ _ _ _ T
end My
local macro_rules | `(tactic| first | refine $t:term | fail $s:str) => do { let t2 ← t.raw.replaceM fun n => (do { if n.getKind == `Lean.Parser.Term.syntheticHole then { let nm := n[1].getId.eraseMacroScopes; if nm == `hl then { return some (Lean.mkIdent `My.hl) } else { return none } } else { return none } }); `(tactic| refine $(⟨t2⟩)) }
open PySem PySem.W PyProof.Rows
set_option maxRecDepth 100000 in
set_option maxHeartbeats 0 in
theorem PySem.Challenge.cw_chainmaps_k22_roots_of_powers_holds : PySem.Challenge.rw_chainmaps_k22_roots_of_powers.Holds := by
  w_on; o_law; k_headL; (case hw => w_witness2)
  k_fill
  refine My.walk (l := PySem.Challenge.rw_chainmaps_k22_roots_of_powers) rfl rfl rfl (fun w h Y => PySem.W.kIn_of Y) (fun _ _ _ _ _ T => My.ok_law T) ?F
  case F =>
    intro w mg h KX G
    refine' My.mk_txt KX G ?a_is_integer ?l_is_integer ?c_is_integer ?k_is_integer ?a_in_range ?l_in_range ?c_in_range ?k_in_range ?a_check_size ?l_check_size ?c_check_size ?k_check_size ?a_check_elements ?l_check_elements ?c_check_elements ?k_check_elements ?a_are_arrows ?l_are_arrows ?c_are_arrows ?k_are_arrows ?a_common_size ?l_common_size ?c_common_size ?k_common_size ?a_row_from ?l_row_from ?c_row_from ?k_row_from ?a_moved ?l_moved ?c_moved ?k_moved ?a_check_map ?l_check_map ?c_check_map ?k_check_map ?a_greatest_divisor ?l_greatest_divisor ?c_greatest_divisor ?k_greatest_divisor ?a_parts_of ?l_parts_of ?c_parts_of ?k_parts_of ?a_are_counts ?l_are_counts ?c_are_counts ?k_are_counts ?a_ordered ?l_ordered ?c_ordered ?k_ordered ?a_counts_of ?l_counts_of ?c_counts_of ?k_counts_of ?a_shape_of ?l_shape_of ?c_shape_of ?k_shape_of ?a_check_shape ?l_check_shape ?c_check_shape ?k_check_shape ?a_check_degree ?l_check_degree ?c_check_degree ?k_check_degree ?a_group_size ?l_group_size ?c_group_size ?k_group_size ?a_failing_chains ?l_failing_chains ?c_failing_chains ?k_failing_chains ?a_obstacle_of ?l_obstacle_of ?c_obstacle_of ?k_obstacle_of ?a_has_root ?l_has_root ?c_has_root ?k_has_root ?a_obstacle ?l_obstacle ?c_obstacle ?k_obstacle ?a_is_obstacle ?l_is_obstacle ?c_is_obstacle ?k_is_obstacle ?a_by_length ?l_by_length ?c_by_length ?k_by_length ?a_cycle_root ?l_cycle_root ?c_cycle_root ?k_cycle_root ?a_chain_root ?l_chain_root ?c_chain_root ?k_chain_root ?a_chain_groups ?l_chain_groups ?c_chain_groups ?k_chain_groups ?a_root ?l_root ?c_root ?k_root ?a_is_root ?l_is_root ?c_is_root ?k_is_root ?a_l_hand ?l_l_hand ?c_l_hand ?k_l_hand ?a_l_draw ?l_l_draw ?c_l_draw ?k_l_draw ?a_l_arrows ?l_l_arrows ?c_l_arrows ?k_l_arrows ?a_l_map ?l_l_map ?c_l_map ?k_l_map ?a_l_bent ?l_l_bent ?c_l_bent ?k_l_bent ?a_law ?l_law ?c_law ?k_law ?a_Shape ?pg_Shape ?hd_Shape ?po_Shape ?sa_Shape ?sf_Shape ?ca_Shape ?cn_Shape ?ct_Shape ?cm_Shape ?kc_Shape ?kit_int_Shape ?kit_bool_Shape ?kn_NoneType_Shape ?nf_NoneType_Shape ?kn_int_Shape ?nf_int_Shape ?kn_bool_Shape ?nf_bool_Shape ?kn_str_Shape ?nf_str_Shape ?kn_list_Shape ?nf_list_Shape ?kn_dict_Shape ?nf_dict_Shape ?kn_tuple_Shape ?nf_tuple_Shape ?self_Shape ?na_own_cycles_Shape ?na_own_chains_Shape ?m_Shape__init ?i_Shape__init ?l_Shape__init ?c_Shape__init ?k_Shape__init ?mk_Shape ?m_Shape_cycles ?s_get_Shape_cycles ?tk_Shape_cycles ?rc_Shape_cycles ?l_Shape_cycles ?c_Shape_cycles ?k_Shape_cycles ?m_Shape_chains ?s_get_Shape_chains ?tk_Shape_chains ?rc_Shape_chains ?l_Shape_chains ?c_Shape_chains ?k_Shape_chains ?a_Map ?pg_Map ?hd_Map ?po_Map ?sa_Map ?sf_Map ?ca_Map ?cn_Map ?ct_Map ?cm_Map ?kc_Map ?kit_int_Map ?kit_bool_Map ?kit_tuple_Map ?kn_NoneType_Map ?nf_NoneType_Map ?kn_int_Map ?nf_int_Map ?kn_bool_Map ?nf_bool_Map ?kn_str_Map ?nf_str_Map ?kn_list_Map ?nf_list_Map ?kn_dict_Map ?nf_dict_Map ?kn_tuple_Map ?nf_tuple_Map ?self_Map ?na_own_size_Map ?na_own_arrows_Map ?ne_Map ?m_Map__eq ?i_Map__eq ?l_Map__eq ?c_Map__eq ?k_Map__eq ?m_Map__init ?i_Map__init ?l_Map__init ?c_Map__init ?k_Map__init ?mk_Map ?rd_Map ?ga_Map ?at_Map_identity ?rc_Map_identity ?fi_Map_identity ?l_Map_identity ?c_Map_identity ?k_Map_identity ?at_Map_empty ?rc_Map_empty ?fi_Map_empty ?l_Map_empty ?c_Map_empty ?k_Map_empty ?at_Map_swap ?rc_Map_swap ?fi_Map_swap ?l_Map_swap ?c_Map_swap ?k_Map_swap ?m_Map_size ?s_get_Map_size ?tk_Map_size ?rc_Map_size ?l_Map_size ?c_Map_size ?k_Map_size ?m_Map_arrows ?s_get_Map_arrows ?tk_Map_arrows ?rc_Map_arrows ?l_Map_arrows ?c_Map_arrows ?k_Map_arrows ?m_Map__mul ?i_Map__mul ?l_Map__mul ?c_Map__mul ?k_Map__mul ?m_Map__invert ?i_Map__invert ?l_Map__invert ?c_Map__invert ?k_Map__invert ?m_Map__repr ?i_Map__repr ?l_Map__repr ?c_Map__repr ?k_Map__repr ?m_Map_power ?i_Map_power ?l_Map_power ?c_Map_power ?k_Map_power ?a_InvalidMap ?xl_InvalidMap ?sa_InvalidMap ?ex_InvalidMap ?ty_InvalidMap ?kc_InvalidMap ?hd_InvalidMap ?ga_InvalidMap ?gg_InvalidMap ?ss_InvalidMap ?ca_InvalidMap ?cn_InvalidMap ?ct_InvalidMap ?cm_InvalidMap ?kit_ValueError_InvalidMap ?na_part_InvalidMap ?m_InvalidMap__init ?ti_InvalidMap__init ?l_InvalidMap__init ?c_InvalidMap__init ?k_InvalidMap__init ?a_InvalidNumber ?xl_InvalidNumber ?sa_InvalidNumber ?ex_InvalidNumber ?ty_InvalidNumber ?kc_InvalidNumber ?hd_InvalidNumber ?ga_InvalidNumber ?gg_InvalidNumber ?ss_InvalidNumber ?ca_InvalidNumber ?cn_InvalidNumber ?ct_InvalidNumber ?cm_InvalidNumber ?kit_ValueError_InvalidNumber ?na_value_InvalidNumber ?m_InvalidNumber__init ?ti_InvalidNumber__init ?l_InvalidNumber__init ?c_InvalidNumber__init ?k_InvalidNumber__init ?a_InvalidSize ?xl_InvalidSize ?sa_InvalidSize ?ex_InvalidSize ?ty_InvalidSize ?kc_InvalidSize ?hd_InvalidSize ?ga_InvalidSize ?gg_InvalidSize ?ss_InvalidSize ?ca_InvalidSize ?cn_InvalidSize ?ct_InvalidSize ?cm_InvalidSize ?kit_ValueError_InvalidSize ?na_value_InvalidSize ?m_InvalidSize__init ?ti_InvalidSize__init ?l_InvalidSize__init ?c_InvalidSize__init ?k_InvalidSize__init ?a_InvalidElement ?xl_InvalidElement ?sa_InvalidElement ?ex_InvalidElement ?ty_InvalidElement ?kc_InvalidElement ?hd_InvalidElement ?ga_InvalidElement ?gg_InvalidElement ?ss_InvalidElement ?ca_InvalidElement ?cn_InvalidElement ?ct_InvalidElement ?cm_InvalidElement ?kit_ValueError_InvalidElement ?na_value_InvalidElement ?m_InvalidElement__init ?ti_InvalidElement__init ?l_InvalidElement__init ?c_InvalidElement__init ?k_InvalidElement__init ?a_InvalidShape ?xl_InvalidShape ?sa_InvalidShape ?ex_InvalidShape ?ty_InvalidShape ?kc_InvalidShape ?hd_InvalidShape ?ga_InvalidShape ?gg_InvalidShape ?ss_InvalidShape ?ca_InvalidShape ?cn_InvalidShape ?ct_InvalidShape ?cm_InvalidShape ?kit_ValueError_InvalidShape ?na_part_InvalidShape ?m_InvalidShape__init ?ti_InvalidShape__init ?l_InvalidShape__init ?c_InvalidShape__init ?k_InvalidShape__init ?a_SizeMismatch ?xl_SizeMismatch ?sa_SizeMismatch ?ex_SizeMismatch ?ty_SizeMismatch ?kc_SizeMismatch ?hd_SizeMismatch ?ga_SizeMismatch ?gg_SizeMismatch ?ss_SizeMismatch ?ca_SizeMismatch ?cn_SizeMismatch ?ct_SizeMismatch ?cm_SizeMismatch ?kit_ValueError_SizeMismatch ?na_first_SizeMismatch ?na_second_SizeMismatch ?m_SizeMismatch__init ?ti_SizeMismatch__init ?l_SizeMismatch__init ?c_SizeMismatch__init ?k_SizeMismatch__init ?z_isinstance ?z_int ?z_bool ?z_dict ?z_len ?z_range ?z_list ?z_tuple ?z_max ?z_min ?z_all ?z_sorted ?z_abs ?z_enumerate ?z_repr ?z_zip ?v_MAX_SIZE ?v_MAX_DEGREE ?kit_x_Shape_Map
    (case a_is_integer => as_aux_lemma => k_is)
    (case l_is_integer => as_aux_lemma => k_is)
    (case c_is_integer => as_aux_lemma => k_is)
    (case k_is_integer => as_aux_lemma => k_is)
    (case a_in_range => as_aux_lemma => k_is)
    (case l_in_range => as_aux_lemma => k_is)
    (case c_in_range => as_aux_lemma => k_is)
    (case k_in_range => as_aux_lemma => k_is)
    (case a_check_size => as_aux_lemma => k_is)
    (case l_check_size => as_aux_lemma => k_is)
    (case c_check_size => as_aux_lemma => k_is)
    (case k_check_size => as_aux_lemma => k_is)
    (case a_check_elements => as_aux_lemma => k_is)
    (case l_check_elements => as_aux_lemma => k_is)
    (case c_check_elements => as_aux_lemma => k_is)
    (case k_check_elements => as_aux_lemma => k_is)
    (case a_are_arrows => as_aux_lemma => k_is)
    (case l_are_arrows => as_aux_lemma => k_is)
    (case c_are_arrows => as_aux_lemma => k_is)
    (case k_are_arrows => as_aux_lemma => k_is)
    (case a_common_size => as_aux_lemma => k_is)
    (case l_common_size => as_aux_lemma => k_is)
    (case c_common_size => as_aux_lemma => k_is)
    (case k_common_size => as_aux_lemma => k_is)
    (case a_row_from => as_aux_lemma => k_is)
    (case l_row_from => as_aux_lemma => k_is)
    (case c_row_from => as_aux_lemma => k_is)
    (case k_row_from => as_aux_lemma => k_is)
    (case a_moved => as_aux_lemma => k_is)
    (case l_moved => as_aux_lemma => k_is)
    (case c_moved => as_aux_lemma => k_is)
    (case k_moved => as_aux_lemma => k_is)
    (case a_check_map => as_aux_lemma => k_is)
    (case l_check_map => as_aux_lemma => k_is)
    (case c_check_map => as_aux_lemma => k_is)
    (case k_check_map => as_aux_lemma => k_is)
    (case a_greatest_divisor => as_aux_lemma => k_is)
    (case l_greatest_divisor => as_aux_lemma => k_is)
    (case c_greatest_divisor => as_aux_lemma => k_is)
    (case k_greatest_divisor => as_aux_lemma => k_is)
    (case a_parts_of => as_aux_lemma => k_is)
    (case l_parts_of => as_aux_lemma => k_is)
    (case c_parts_of => as_aux_lemma => k_is)
    (case k_parts_of => as_aux_lemma => k_is)
    (case a_are_counts => as_aux_lemma => k_is)
    (case l_are_counts => as_aux_lemma => k_is)
    (case c_are_counts => as_aux_lemma => k_is)
    (case k_are_counts => as_aux_lemma => k_is)
    (case a_ordered => as_aux_lemma => k_is)
    (case l_ordered => as_aux_lemma => k_is)
    (case c_ordered => as_aux_lemma => k_is)
    (case k_ordered => as_aux_lemma => k_is)
    (case a_counts_of => as_aux_lemma => k_is)
    (case l_counts_of => as_aux_lemma => k_is)
    (case c_counts_of => as_aux_lemma => k_is)
    (case k_counts_of => as_aux_lemma => k_is)
    (case a_shape_of => as_aux_lemma => k_is)
    (case l_shape_of => as_aux_lemma => k_is)
    (case c_shape_of => as_aux_lemma => k_is)
    (case k_shape_of => as_aux_lemma => k_is)
    (case a_check_shape => as_aux_lemma => k_is)
    (case l_check_shape => as_aux_lemma => k_is)
    (case c_check_shape => as_aux_lemma => k_is)
    (case k_check_shape => as_aux_lemma => k_is)
    (case a_check_degree => as_aux_lemma => k_is)
    (case l_check_degree => as_aux_lemma => k_is)
    (case c_check_degree => as_aux_lemma => k_is)
    (case k_check_degree => as_aux_lemma => k_is)
    (case a_group_size => as_aux_lemma => k_is)
    (case l_group_size => as_aux_lemma => k_is)
    (case c_group_size => as_aux_lemma => k_is)
    (case k_group_size => as_aux_lemma => k_is)
    (case a_failing_chains => as_aux_lemma => k_is)
    (case l_failing_chains => as_aux_lemma => k_is)
    (case c_failing_chains => as_aux_lemma => k_is)
    (case k_failing_chains => as_aux_lemma => k_is)
    (case a_obstacle_of => as_aux_lemma => k_is)
    (case l_obstacle_of => as_aux_lemma => k_is)
    (case c_obstacle_of => as_aux_lemma => k_is)
    (case k_obstacle_of => as_aux_lemma => k_is)
    (case a_has_root => as_aux_lemma => k_is)
    (case l_has_root => as_aux_lemma => k_is)
    (case c_has_root => as_aux_lemma => k_is)
    (case k_has_root => as_aux_lemma => k_is)
    (case a_obstacle => as_aux_lemma => k_is)
    (case l_obstacle => as_aux_lemma => k_is)
    (case c_obstacle => as_aux_lemma => k_is)
    (case k_obstacle => as_aux_lemma => k_is)
    (case a_is_obstacle => as_aux_lemma => k_is)
    (case l_is_obstacle => as_aux_lemma => k_is)
    (case c_is_obstacle => as_aux_lemma => k_is)
    (case k_is_obstacle => as_aux_lemma => k_is)
    (case a_by_length => as_aux_lemma => k_is)
    (case l_by_length => as_aux_lemma => k_is)
    (case c_by_length => as_aux_lemma => k_is)
    (case k_by_length => as_aux_lemma => k_is)
    (case a_cycle_root => as_aux_lemma => k_is)
    (case l_cycle_root => as_aux_lemma => k_is)
    (case c_cycle_root => as_aux_lemma => k_is)
    (case k_cycle_root => as_aux_lemma => k_is)
    (case a_chain_root => as_aux_lemma => k_is)
    (case l_chain_root => as_aux_lemma => k_is)
    (case c_chain_root => as_aux_lemma => k_is)
    (case k_chain_root => as_aux_lemma => k_is)
    (case a_chain_groups => as_aux_lemma => k_is)
    (case l_chain_groups => as_aux_lemma => k_is)
    (case c_chain_groups => as_aux_lemma => k_is)
    (case k_chain_groups => as_aux_lemma => k_is)
    (case a_root => as_aux_lemma => k_is)
    (case l_root => as_aux_lemma => k_is)
    (case c_root => as_aux_lemma => k_is)
    (case k_root => as_aux_lemma => k_is)
    (case a_is_root => as_aux_lemma => k_is)
    (case l_is_root => as_aux_lemma => k_is)
    (case c_is_root => as_aux_lemma => k_is)
    (case k_is_root => as_aux_lemma => k_is)
    (case a_l_hand => as_aux_lemma => k_is)
    (case l_l_hand => as_aux_lemma => k_is)
    (case c_l_hand => as_aux_lemma => k_is)
    (case k_l_hand => as_aux_lemma => k_is)
    (case a_l_draw => as_aux_lemma => k_is)
    (case l_l_draw => as_aux_lemma => k_is)
    (case c_l_draw => as_aux_lemma => k_is)
    (case k_l_draw => as_aux_lemma => k_is)
    (case a_l_arrows => as_aux_lemma => k_is)
    (case l_l_arrows => as_aux_lemma => k_is)
    (case c_l_arrows => as_aux_lemma => k_is)
    (case k_l_arrows => as_aux_lemma => k_is)
    (case a_l_map => as_aux_lemma => k_is)
    (case l_l_map => as_aux_lemma => k_is)
    (case c_l_map => as_aux_lemma => k_is)
    (case k_l_map => as_aux_lemma => k_is)
    (case a_l_bent => as_aux_lemma => k_is)
    (case l_l_bent => as_aux_lemma => k_is)
    (case c_l_bent => as_aux_lemma => k_is)
    (case k_l_bent => as_aux_lemma => k_is)
    (case a_law => as_aux_lemma => k_is)
    (case l_law => as_aux_lemma => k_is)
    (case c_law => as_aux_lemma => k_is)
    (case k_law => as_aux_lemma => k_is)
    (case a_Shape => as_aux_lemma => k_is)
    (case pg_Shape => as_aux_lemma => k_is)
    (case hd_Shape => as_aux_lemma => k_is)
    (case po_Shape => as_aux_lemma => k_is)
    (case sa_Shape => as_aux_lemma => k_is)
    (case sf_Shape => as_aux_lemma => k_is)
    (case ca_Shape => as_aux_lemma => k_is)
    (case cn_Shape => as_aux_lemma => k_is)
    (case ct_Shape => as_aux_lemma => k_is)
    (case cm_Shape => as_aux_lemma => k_is)
    (case kc_Shape => as_aux_lemma => k_is)
    (case kit_int_Shape => as_aux_lemma => kernel_rfl)
    (case kit_bool_Shape => as_aux_lemma => kernel_rfl)
    (case kn_NoneType_Shape => as_aux_lemma => kernel_rfl)
    (case nf_NoneType_Shape => as_aux_lemma => kernel_rfl)
    (case kn_int_Shape => as_aux_lemma => kernel_rfl)
    (case nf_int_Shape => as_aux_lemma => kernel_rfl)
    (case kn_bool_Shape => as_aux_lemma => kernel_rfl)
    (case nf_bool_Shape => as_aux_lemma => kernel_rfl)
    (case kn_str_Shape => as_aux_lemma => kernel_rfl)
    (case nf_str_Shape => as_aux_lemma => kernel_rfl)
    (case kn_list_Shape => as_aux_lemma => kernel_rfl)
    (case nf_list_Shape => as_aux_lemma => kernel_rfl)
    (case kn_dict_Shape => as_aux_lemma => kernel_rfl)
    (case nf_dict_Shape => as_aux_lemma => kernel_rfl)
    (case kn_tuple_Shape => as_aux_lemma => kernel_rfl)
    (case nf_tuple_Shape => as_aux_lemma => kernel_rfl)
    (case self_Shape => as_aux_lemma => kernel_rfl)
    (case na_own_cycles_Shape => as_aux_lemma => k_is)
    (case na_own_chains_Shape => as_aux_lemma => k_is)
    (case m_Shape__init => as_aux_lemma => k_is)
    (case i_Shape__init => as_aux_lemma => k_is)
    (case l_Shape__init => as_aux_lemma => k_is)
    (case c_Shape__init => as_aux_lemma => k_is)
    (case k_Shape__init => as_aux_lemma => k_is)
    (case mk_Shape => as_aux_lemma => k_is)
    (case m_Shape_cycles => as_aux_lemma => k_is)
    (case s_get_Shape_cycles => as_aux_lemma => k_is)
    (case tk_Shape_cycles => as_aux_lemma => k_is)
    (case rc_Shape_cycles => as_aux_lemma => k_is)
    (case l_Shape_cycles => as_aux_lemma => k_is)
    (case c_Shape_cycles => as_aux_lemma => k_is)
    (case k_Shape_cycles => as_aux_lemma => k_is)
    (case m_Shape_chains => as_aux_lemma => k_is)
    (case s_get_Shape_chains => as_aux_lemma => k_is)
    (case tk_Shape_chains => as_aux_lemma => k_is)
    (case rc_Shape_chains => as_aux_lemma => k_is)
    (case l_Shape_chains => as_aux_lemma => k_is)
    (case c_Shape_chains => as_aux_lemma => k_is)
    (case k_Shape_chains => as_aux_lemma => k_is)
    (case a_Map => as_aux_lemma => k_is)
    (case pg_Map => as_aux_lemma => k_is)
    (case hd_Map => as_aux_lemma => k_is)
    (case po_Map => as_aux_lemma => k_is)
    (case sa_Map => as_aux_lemma => k_is)
    (case sf_Map => as_aux_lemma => k_is)
    (case ca_Map => as_aux_lemma => k_is)
    (case cn_Map => as_aux_lemma => k_is)
    (case ct_Map => as_aux_lemma => k_is)
    (case cm_Map => as_aux_lemma => k_is)
    (case kc_Map => as_aux_lemma => k_is)
    (case kit_int_Map => as_aux_lemma => kernel_rfl)
    (case kit_bool_Map => as_aux_lemma => kernel_rfl)
    (case kit_tuple_Map => as_aux_lemma => kernel_rfl)
    (case kn_NoneType_Map => as_aux_lemma => kernel_rfl)
    (case nf_NoneType_Map => as_aux_lemma => kernel_rfl)
    (case kn_int_Map => as_aux_lemma => kernel_rfl)
    (case nf_int_Map => as_aux_lemma => kernel_rfl)
    (case kn_bool_Map => as_aux_lemma => kernel_rfl)
    (case nf_bool_Map => as_aux_lemma => kernel_rfl)
    (case kn_str_Map => as_aux_lemma => kernel_rfl)
    (case nf_str_Map => as_aux_lemma => kernel_rfl)
    (case kn_list_Map => as_aux_lemma => kernel_rfl)
    (case nf_list_Map => as_aux_lemma => kernel_rfl)
    (case kn_dict_Map => as_aux_lemma => kernel_rfl)
    (case nf_dict_Map => as_aux_lemma => kernel_rfl)
    (case kn_tuple_Map => as_aux_lemma => kernel_rfl)
    (case nf_tuple_Map => as_aux_lemma => kernel_rfl)
    (case self_Map => as_aux_lemma => kernel_rfl)
    (case na_own_size_Map => as_aux_lemma => k_is)
    (case na_own_arrows_Map => as_aux_lemma => k_is)
    (case ne_Map => as_aux_lemma => k_is)
    (case m_Map__eq => as_aux_lemma => k_is)
    (case i_Map__eq => as_aux_lemma => k_is)
    (case l_Map__eq => as_aux_lemma => k_is)
    (case c_Map__eq => as_aux_lemma => k_is)
    (case k_Map__eq => as_aux_lemma => k_is)
    (case m_Map__init => as_aux_lemma => k_is)
    (case i_Map__init => as_aux_lemma => k_is)
    (case l_Map__init => as_aux_lemma => k_is)
    (case c_Map__init => as_aux_lemma => k_is)
    (case k_Map__init => as_aux_lemma => k_is)
    (case mk_Map => as_aux_lemma => k_is)
    (case rd_Map => as_aux_lemma => k_is)
    (case ga_Map => as_aux_lemma => k_is)
    (case at_Map_identity => as_aux_lemma => k_is)
    (case rc_Map_identity => as_aux_lemma => k_is)
    (case fi_Map_identity => as_aux_lemma => k_is)
    (case l_Map_identity => as_aux_lemma => k_is)
    (case c_Map_identity => as_aux_lemma => k_is)
    (case k_Map_identity => as_aux_lemma => k_is)
    (case at_Map_empty => as_aux_lemma => k_is)
    (case rc_Map_empty => as_aux_lemma => k_is)
    (case fi_Map_empty => as_aux_lemma => k_is)
    (case l_Map_empty => as_aux_lemma => k_is)
    (case c_Map_empty => as_aux_lemma => k_is)
    (case k_Map_empty => as_aux_lemma => k_is)
    (case at_Map_swap => as_aux_lemma => k_is)
    (case rc_Map_swap => as_aux_lemma => k_is)
    (case fi_Map_swap => as_aux_lemma => k_is)
    (case l_Map_swap => as_aux_lemma => k_is)
    (case c_Map_swap => as_aux_lemma => k_is)
    (case k_Map_swap => as_aux_lemma => k_is)
    (case m_Map_size => as_aux_lemma => k_is)
    (case s_get_Map_size => as_aux_lemma => k_is)
    (case tk_Map_size => as_aux_lemma => k_is)
    (case rc_Map_size => as_aux_lemma => k_is)
    (case l_Map_size => as_aux_lemma => k_is)
    (case c_Map_size => as_aux_lemma => k_is)
    (case k_Map_size => as_aux_lemma => k_is)
    (case m_Map_arrows => as_aux_lemma => k_is)
    (case s_get_Map_arrows => as_aux_lemma => k_is)
    (case tk_Map_arrows => as_aux_lemma => k_is)
    (case rc_Map_arrows => as_aux_lemma => k_is)
    (case l_Map_arrows => as_aux_lemma => k_is)
    (case c_Map_arrows => as_aux_lemma => k_is)
    (case k_Map_arrows => as_aux_lemma => k_is)
    (case m_Map__mul => as_aux_lemma => k_is)
    (case i_Map__mul => as_aux_lemma => k_is)
    (case l_Map__mul => as_aux_lemma => k_is)
    (case c_Map__mul => as_aux_lemma => k_is)
    (case k_Map__mul => as_aux_lemma => k_is)
    (case m_Map__invert => as_aux_lemma => k_is)
    (case i_Map__invert => as_aux_lemma => k_is)
    (case l_Map__invert => as_aux_lemma => k_is)
    (case c_Map__invert => as_aux_lemma => k_is)
    (case k_Map__invert => as_aux_lemma => k_is)
    (case m_Map__repr => as_aux_lemma => k_is)
    (case i_Map__repr => as_aux_lemma => k_is)
    (case l_Map__repr => as_aux_lemma => k_is)
    (case c_Map__repr => as_aux_lemma => k_is)
    (case k_Map__repr => as_aux_lemma => k_is)
    (case m_Map_power => as_aux_lemma => k_is)
    (case i_Map_power => as_aux_lemma => k_is)
    (case l_Map_power => as_aux_lemma => k_is)
    (case c_Map_power => as_aux_lemma => k_is)
    (case k_Map_power => as_aux_lemma => k_is)
    (case a_InvalidMap => as_aux_lemma => k_is)
    (case xl_InvalidMap => as_aux_lemma => k_is)
    (case sa_InvalidMap => as_aux_lemma => k_is)
    (case ex_InvalidMap => as_aux_lemma => k_is)
    (case ty_InvalidMap => as_aux_lemma => k_is)
    (case kc_InvalidMap => as_aux_lemma => k_is)
    (case hd_InvalidMap => as_aux_lemma => k_is)
    (case ga_InvalidMap => as_aux_lemma => k_is)
    (case gg_InvalidMap => as_aux_lemma => k_is)
    (case ss_InvalidMap => as_aux_lemma => k_is)
    (case ca_InvalidMap => as_aux_lemma => k_is)
    (case cn_InvalidMap => as_aux_lemma => k_is)
    (case ct_InvalidMap => as_aux_lemma => k_is)
    (case cm_InvalidMap => as_aux_lemma => k_is)
    (case kit_ValueError_InvalidMap => as_aux_lemma => kernel_rfl)
    (case na_part_InvalidMap => as_aux_lemma => k_is)
    (case m_InvalidMap__init => as_aux_lemma => k_is)
    (case ti_InvalidMap__init => as_aux_lemma => k_is)
    (case l_InvalidMap__init => as_aux_lemma => k_is)
    (case c_InvalidMap__init => as_aux_lemma => k_is)
    (case k_InvalidMap__init => as_aux_lemma => k_is)
    (case a_InvalidNumber => as_aux_lemma => k_is)
    (case xl_InvalidNumber => as_aux_lemma => k_is)
    (case sa_InvalidNumber => as_aux_lemma => k_is)
    (case ex_InvalidNumber => as_aux_lemma => k_is)
    (case ty_InvalidNumber => as_aux_lemma => k_is)
    (case kc_InvalidNumber => as_aux_lemma => k_is)
    (case hd_InvalidNumber => as_aux_lemma => k_is)
    (case ga_InvalidNumber => as_aux_lemma => k_is)
    (case gg_InvalidNumber => as_aux_lemma => k_is)
    (case ss_InvalidNumber => as_aux_lemma => k_is)
    (case ca_InvalidNumber => as_aux_lemma => k_is)
    (case cn_InvalidNumber => as_aux_lemma => k_is)
    (case ct_InvalidNumber => as_aux_lemma => k_is)
    (case cm_InvalidNumber => as_aux_lemma => k_is)
    (case kit_ValueError_InvalidNumber => as_aux_lemma => kernel_rfl)
    (case na_value_InvalidNumber => as_aux_lemma => k_is)
    (case m_InvalidNumber__init => as_aux_lemma => k_is)
    (case ti_InvalidNumber__init => as_aux_lemma => k_is)
    (case l_InvalidNumber__init => as_aux_lemma => k_is)
    (case c_InvalidNumber__init => as_aux_lemma => k_is)
    (case k_InvalidNumber__init => as_aux_lemma => k_is)
    (case a_InvalidSize => as_aux_lemma => k_is)
    (case xl_InvalidSize => as_aux_lemma => k_is)
    (case sa_InvalidSize => as_aux_lemma => k_is)
    (case ex_InvalidSize => as_aux_lemma => k_is)
    (case ty_InvalidSize => as_aux_lemma => k_is)
    (case kc_InvalidSize => as_aux_lemma => k_is)
    (case hd_InvalidSize => as_aux_lemma => k_is)
    (case ga_InvalidSize => as_aux_lemma => k_is)
    (case gg_InvalidSize => as_aux_lemma => k_is)
    (case ss_InvalidSize => as_aux_lemma => k_is)
    (case ca_InvalidSize => as_aux_lemma => k_is)
    (case cn_InvalidSize => as_aux_lemma => k_is)
    (case ct_InvalidSize => as_aux_lemma => k_is)
    (case cm_InvalidSize => as_aux_lemma => k_is)
    (case kit_ValueError_InvalidSize => as_aux_lemma => kernel_rfl)
    (case na_value_InvalidSize => as_aux_lemma => k_is)
    (case m_InvalidSize__init => as_aux_lemma => k_is)
    (case ti_InvalidSize__init => as_aux_lemma => k_is)
    (case l_InvalidSize__init => as_aux_lemma => k_is)
    (case c_InvalidSize__init => as_aux_lemma => k_is)
    (case k_InvalidSize__init => as_aux_lemma => k_is)
    (case a_InvalidElement => as_aux_lemma => k_is)
    (case xl_InvalidElement => as_aux_lemma => k_is)
    (case sa_InvalidElement => as_aux_lemma => k_is)
    (case ex_InvalidElement => as_aux_lemma => k_is)
    (case ty_InvalidElement => as_aux_lemma => k_is)
    (case kc_InvalidElement => as_aux_lemma => k_is)
    (case hd_InvalidElement => as_aux_lemma => k_is)
    (case ga_InvalidElement => as_aux_lemma => k_is)
    (case gg_InvalidElement => as_aux_lemma => k_is)
    (case ss_InvalidElement => as_aux_lemma => k_is)
    (case ca_InvalidElement => as_aux_lemma => k_is)
    (case cn_InvalidElement => as_aux_lemma => k_is)
    (case ct_InvalidElement => as_aux_lemma => k_is)
    (case cm_InvalidElement => as_aux_lemma => k_is)
    (case kit_ValueError_InvalidElement => as_aux_lemma => kernel_rfl)
    (case na_value_InvalidElement => as_aux_lemma => k_is)
    (case m_InvalidElement__init => as_aux_lemma => k_is)
    (case ti_InvalidElement__init => as_aux_lemma => k_is)
    (case l_InvalidElement__init => as_aux_lemma => k_is)
    (case c_InvalidElement__init => as_aux_lemma => k_is)
    (case k_InvalidElement__init => as_aux_lemma => k_is)
    (case a_InvalidShape => as_aux_lemma => k_is)
    (case xl_InvalidShape => as_aux_lemma => k_is)
    (case sa_InvalidShape => as_aux_lemma => k_is)
    (case ex_InvalidShape => as_aux_lemma => k_is)
    (case ty_InvalidShape => as_aux_lemma => k_is)
    (case kc_InvalidShape => as_aux_lemma => k_is)
    (case hd_InvalidShape => as_aux_lemma => k_is)
    (case ga_InvalidShape => as_aux_lemma => k_is)
    (case gg_InvalidShape => as_aux_lemma => k_is)
    (case ss_InvalidShape => as_aux_lemma => k_is)
    (case ca_InvalidShape => as_aux_lemma => k_is)
    (case cn_InvalidShape => as_aux_lemma => k_is)
    (case ct_InvalidShape => as_aux_lemma => k_is)
    (case cm_InvalidShape => as_aux_lemma => k_is)
    (case kit_ValueError_InvalidShape => as_aux_lemma => kernel_rfl)
    (case na_part_InvalidShape => as_aux_lemma => k_is)
    (case m_InvalidShape__init => as_aux_lemma => k_is)
    (case ti_InvalidShape__init => as_aux_lemma => k_is)
    (case l_InvalidShape__init => as_aux_lemma => k_is)
    (case c_InvalidShape__init => as_aux_lemma => k_is)
    (case k_InvalidShape__init => as_aux_lemma => k_is)
    (case a_SizeMismatch => as_aux_lemma => k_is)
    (case xl_SizeMismatch => as_aux_lemma => k_is)
    (case sa_SizeMismatch => as_aux_lemma => k_is)
    (case ex_SizeMismatch => as_aux_lemma => k_is)
    (case ty_SizeMismatch => as_aux_lemma => k_is)
    (case kc_SizeMismatch => as_aux_lemma => k_is)
    (case hd_SizeMismatch => as_aux_lemma => k_is)
    (case ga_SizeMismatch => as_aux_lemma => k_is)
    (case gg_SizeMismatch => as_aux_lemma => k_is)
    (case ss_SizeMismatch => as_aux_lemma => k_is)
    (case ca_SizeMismatch => as_aux_lemma => k_is)
    (case cn_SizeMismatch => as_aux_lemma => k_is)
    (case ct_SizeMismatch => as_aux_lemma => k_is)
    (case cm_SizeMismatch => as_aux_lemma => k_is)
    (case kit_ValueError_SizeMismatch => as_aux_lemma => kernel_rfl)
    (case na_first_SizeMismatch => as_aux_lemma => k_is)
    (case na_second_SizeMismatch => as_aux_lemma => k_is)
    (case m_SizeMismatch__init => as_aux_lemma => k_is)
    (case ti_SizeMismatch__init => as_aux_lemma => k_is)
    (case l_SizeMismatch__init => as_aux_lemma => k_is)
    (case c_SizeMismatch__init => as_aux_lemma => k_is)
    (case k_SizeMismatch__init => as_aux_lemma => k_is)
    (case z_isinstance => as_aux_lemma => k_is)
    (case z_int => as_aux_lemma => k_is)
    (case z_bool => as_aux_lemma => k_is)
    (case z_dict => as_aux_lemma => k_is)
    (case z_len => as_aux_lemma => k_is)
    (case z_range => as_aux_lemma => k_is)
    (case z_list => as_aux_lemma => k_is)
    (case z_tuple => as_aux_lemma => k_is)
    (case z_max => as_aux_lemma => k_is)
    (case z_min => as_aux_lemma => k_is)
    (case z_all => as_aux_lemma => k_is)
    (case z_sorted => as_aux_lemma => k_is)
    (case z_abs => as_aux_lemma => k_is)
    (case z_enumerate => as_aux_lemma => k_is)
    (case z_repr => as_aux_lemma => k_is)
    (case z_zip => as_aux_lemma => k_is)
    (case v_MAX_SIZE => as_aux_lemma => k_is)
    (case v_MAX_DEGREE => as_aux_lemma => k_is)
    (case kit_x_Shape_Map => as_aux_lemma => kernel_rfl)
