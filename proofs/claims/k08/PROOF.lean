import PyProof.Rows.All
import Wide.All
import OpenK.AllK
import Wide.FinOn
import HandS.ForMost
import HandS.ForExc
import HandS.IsInst
import HandS.More
import HandS.SlotsOwn
import HandS.Property
import HandS.ClsMeth
import HandS.DictComp
import HandS.Conv
import HandS.Walk
import HandS.NoneIn
import HandS.CallLocal
import HandS.Star
import PySem.Challenge.RW_chainmaps_k08_whole_rules_of_operators
set_option Elab.async false
set_option linter.all false
set_option maxRecDepth 100000
set_option maxHeartbeats 4000000
namespace PySem.W
open PySem PySem.Calls PyProof.Rows
section
variable {prog : Program} {w : World} {A : Around} {E : Value → Shared → Prop} {s : Shared} {K : Frag} {x C L f : Addr} {h₀ : Heap} {m : Str → Option Value} {ox : Obj} {od : Option Obj} {b tb : Value}
theorem my_ne_K {Q : Value → Shared → Prop} (hu : A.units + 1 < cLine) (F : Fr h₀ L s.heap m) (X₀ : K.In h₀) (I : InstAt s.heap x ox C od) (hb : Looks (model prog w) s.heap (typeOf b) tb) (hn : notFirst K C tb = true)
    (hne : findIn K (.ref C) "__ne__" = some (some (.builtin "object.__ne__"))) (hob : mroIn K C (.type "object") = some true)
    (hs : findIn K (.ref C) "__eq__" = some (some (.ref f))) (hf : isFn K (.ref f) = true)
    (h : wpAny (model prog w) A.in1 (call (.ref f) [.ref x, b]) (fun v s' => ∃ c, v = .bool c ∧ Q (.bool (!c)) s') E s) : wpAny (model prog w) A (richCompare .NotEq (.ref x) b) Q E s := by
  have X := X₀.keeps F.keep
  have one : wpAny (model prog w) A (tryCompare (.ref x) "__ne__" b) (fun r s' => ∃ v, r = some v ∧ Q v s') E s := by
    unfold tryCompare
    simp only [callSpecialIfBound?, bindSpecialIfBound?]
    have sub : Looks (model prog w) s.heap (isInstance (.ref x) (.type "object")) true := I.type.andThen (looks_mroIn X hob)
    have fin : wpAny (model prog w) A (call (.builtin "object.__ne__") ([.ref x] ++ [b]) >>= fun v => pure (some v)) (fun r s' => ∃ c, r = some (.bool c) ∧ Q (.bool c) s') E s := by
      refine wpAny_bind (wpAny_call (codeAny_call_builtin PySem.F.slot_tuple_iterator_ne.plain PySem.F.cmpEntry_ne ?_))
      refine @check_slot (model prog w) _ _ s "object.__ne__" "object" "__ne__" (.ref x) [b] [] _ PySem.F.cmpKind_ne PySem.F.cmpSplit_ne sub (PySem.F.cmpArgs_ne _ _) ?_
      unfold Builtin.«object.__ne__»
      refine wpAny_bind (wpAny_of_eq (a := ((Value.ref x : Value), [b])) (by first | rfl | (simp only [Builtin.slotArgs]; rfl)) ?_)
      refine wpAny_bind (wpAny_cRoomFor hu ?_)
      refine wpAny_bind (ifBound_K X I hs hf (wpAny_mono h (fun v s' hv => ?_) fun _ _ e => e))
      obtain ⟨c, rfl, q⟩ := hv
      refine wpAny_bind (wpAny_truthy_bool ?_)
      exact wpAny_pure (wpAny_pure ⟨_, rfl, q⟩)
    refine wpAny_bind (wpAny_holding (wpAny_bind (wpAny_bind (wpAny_bind (I.type.here ((looks_findIn X hne).here ?_))))))
    refine wpAny_bind (wpAny_askSetting (wpAny_ite ?_))
    split
    · rw [PySem.F.slot_tuple_iterator_ne.bind (.ref x)]
      exact wpAny_bind (wpAny_pure (wpAny_pure (wpAny_mono fin (fun r s' z => by obtain ⟨c, rfl, q⟩ := z; exact wpAny_pure ⟨_, rfl, q⟩) fun _ _ e => e)))
    · rw [PySem.F.slot_tuple_iterator_ne.bind (.ref x)]
      exact wpAny_tryCatch (wpAny_bind (wpAny_pure (wpAny_pure (wpAny_mono fin (fun r s' z => by obtain ⟨c, rfl, q⟩ := z; exact wpAny_pure ⟨_, rfl, q⟩) fun _ _ e => e))))
  unfold richCompare
  simp only [oneThing_ref]
  refine wpAny_holding (wpAny_bind (wpAny_cRoomFor (Nat.lt_of_succ_lt hu) ?_))
  refine wpAny_bind (I.type.here (wpAny_bind (hb.here ?_)))
  split
  · rename_i q
    have e : subIn K tb (.ref C) = some false := by
      rcases Bool.or_eq_true_iff.mp hn with e | e
      · rw [beq_iff_eq.mp e] at q; simp at q
      · exact beq_iff_eq.mp e
    refine wpAny_bind ((looks_subIn X e).here ?_)
    simp only [Bool.false_eq_true, if_false]
    refine wpAny_bind (wpAny_mono one (fun r s' z => ?_) fun _ _ e => e)
    obtain ⟨v, rfl, hq⟩ := z
    exact wpAny_pure hq
  · refine wpAny_bind (wpAny_pure ?_)
    simp only [Bool.false_eq_true, if_false]
    refine wpAny_bind (wpAny_mono one (fun r s' z => ?_) fun _ _ e => e)
    obtain ⟨v, rfl, hq⟩ := z
    exact wpAny_pure hq
end
end PySem.W
namespace U
open PySem PySem.Spec PyProof.Rows L2
/-- what is asked of a plain own class -/
structure OwnC (K : PySem.W.Frag) (C : Addr) : Prop where
  cl : Cls K C
  sf : PySem.W.selfFirst K C = true
  ca : PySem.W.findIn K (.ref C) "__class__" = some (some (.builtin "object.__class__"))
  cn : PySem.W.specialIn K (.builtin "object.__class__") "__get__" = some (some (.builtin "getset_descriptor.__get__"))
  ct : PySem.W.takesIn K (.builtin "object.__class__") = some true
  cm : PySem.W.mroIn K C (.type "object") = some true
section
variable {X : Cx} {CX : CXT} {pins : List (Addr × Obj)} {σ : L2.St} {H : Hp} {s : Shared} {a C dx p g : Addr} {f : Str} {n : Nat} {sp : Sp} {E : XK} {v : V} {u : Value}
theorem ins_inst (I : Inv X pins σ H s) {fs : List (Str × V)} (ea : H a = some (.ins C dx fs)) : ∃ ox od, PySem.W.InstAt s.heap a ox C (some od) := by
  obtain ⟨mA, O, _⟩ := ins_get I.hok ea
  obtain ⟨od, J, _⟩ := O.look
  exact ⟨_, od, J⟩
/-- x op y, both instances of C -/
def rBin (C : Addr) (sp : Sp) (E : XK) : R2 := fun x y H Q => ∃ a dx fs b dy gs, x = .ref a ∧ y = .ref b ∧ H a = some (.ins C dx fs) ∧ H b = some (.ins C dy gs) ∧ sp [x, y] H Q E
theorem op_bin {op : Operator} (hc : PySem.W.selfFirst X.K C = true) (hs : PySem.W.findIn X.K (.ref C) (PySem.dunder op.info.2) = some (some (.ref g))) (hf : PySem.W.isFn X.K (.ref g) = true) (F : FnR X.prog X.w X.K X.mg X.base CX n g sp)
    (hr : Room n X.A) (hx : Passes CX X E) : OpR X (binaryOp op) (rBin C sp E) := by
  intro pins s σ H x y v u Q I rx ry h
  obtain ⟨a, dx, vs, b, dy, ws, rfl, rfl, ha, hb, q⟩ := h
  cases (show v = Value.ref a from rx)
  cases (show u = Value.ref b from ry)
  obtain ⟨ox, od, J⟩ := ins_inst I ha
  obtain ⟨oy, od', J'⟩ := ins_inst I hb
  obtain ⟨m, hF⟩ := I.fr
  refine PySem.W.binop_K (op := op) hF I.ok.mod.kin J J'.type hc hs hf ?_
  refine wpAny_mono (wpAny_call (run_fnR (us := [.ref a, .ref b]) (vs := [.ref a, .ref b]) F hr hx I (.cons rfl (.cons rfl .nil)) q)) (fun w s' z => ?_) fun _ _ x => x
  obtain ⟨z', H', I', rz, qz⟩ := z
  exact SlX.cmpback rz ⟨z', H', I', rz, qz⟩
theorem notFirst_self (K : PySem.W.Frag) (C : Addr) : PySem.W.notFirst K C (.ref C) = true := by
  unfold PySem.W.notFirst; simp
theorem op_cmp {op : CmpOp} (hop : ∀ a b, compareOp op a b = richCompare op a b) (hs : PySem.W.findIn X.K (.ref C) (cmpInfo op).2.1 = some (some (.ref g))) (hf : PySem.W.isFn X.K (.ref g) = true) (F : FnR X.prog X.w X.K X.mg X.base CX n g sp)
    (hr : Room n X.A) (hx : Passes CX X E) : OpR X (compareOp op) (rBin C sp E) := by
  intro pins s σ H x y v u Q I rx ry h
  obtain ⟨a, dx, vs, b, dy, ws, rfl, rfl, ha, hb, q⟩ := h
  cases (show v = Value.ref a from rx)
  cases (show u = Value.ref b from ry)
  obtain ⟨ox, od, J⟩ := ins_inst I ha
  obtain ⟨oy, od', J'⟩ := ins_inst I hb
  obtain ⟨m, hF⟩ := I.fr
  rw [hop]
  refine PySem.W.cmp_K (op := op) (tb := .ref C) hr.units0 hF I.ok.mod.kin J J'.type (notFirst_self _ _) hs hf ?_
  refine wpAny_mono (wpAny_call (run_fnR (us := [.ref a, .ref b]) (vs := [.ref a, .ref b]) F hr hx I (.cons rfl (.cons rfl .nil)) q)) (fun w s' z => ?_) fun _ _ x => x
  obtain ⟨z', H', I', rz, qz⟩ := z
  exact SlX.cmpback rz ⟨z', H', I', rz, qz⟩
/-- x != y by the own __eq__ -/
def rNeO (C : Addr) (sp : Sp) (E : XK) : R2 := fun x y H Q => ∃ a dx fs b dy gs, x = .ref a ∧ y = .ref b ∧ H a = some (.ins C dx fs) ∧ H b = some (.ins C dy gs) ∧ sp [x, y] H (fun z H' => ∃ c, z = .bl c ∧ Q (.bl (!c)) H') E
theorem op_neO (oc : OwnC X.K C) (hne : PySem.W.findIn X.K (.ref C) "__ne__" = some (some (.builtin "object.__ne__"))) (hs : PySem.W.findIn X.K (.ref C) "__eq__" = some (some (.ref g))) (hf : PySem.W.isFn X.K (.ref g) = true) (F : FnR X.prog X.w X.K X.mg X.base CX n g sp)
    (hr : Room (n + 1) X.A) (hx : Passes CX X E) : OpR X (compareOp .NotEq) (rNeO C sp E) := by
  intro pins s σ H x y v u Q I rx ry h
  obtain ⟨a, dx, vs, b, dy, ws, rfl, rfl, ha, hb, q⟩ := h
  cases (show v = Value.ref a from rx)
  cases (show u = Value.ref b from ry)
  obtain ⟨ox, od, J⟩ := ins_inst I ha
  obtain ⟨oy, od', J'⟩ := ins_inst I hb
  obtain ⟨m, hF⟩ := I.fr
  have hr1 : Room n X.A.in1 := Room.in1 hr
  refine PySem.W.my_ne_K (tb := .ref C) (hu_of hr) hF I.ok.mod.kin J J'.type (notFirst_self _ _) hne oc.cm hs hf ?_
  refine wpAny_mono (wpAny_call (SlX.run_at (us := [.ref a, .ref b]) (ws := [.ref a, .ref b]) F hr1 I.env0.in1 hx I (.cons rfl (.cons rfl .nil)) q)) (fun w s' z => ?_) fun _ _ x => x
  obtain ⟨z', H', I', rz, c, ez, qz⟩ := z
  subst ez
  cases (show w = Value.bool c from rz)
  exact ⟨c, rfl, .bl (!c), H', I', rfl, qz⟩
/-- ~x -/
def rUnO (C : Addr) (sp : Sp) (E : XK) : V → Hp → VK → Prop := fun x H Q => ∃ a dx fs, x = .ref a ∧ H a = some (.ins C dx fs) ∧ sp [x] H Q E
theorem un_inv (hs : PySem.W.findIn X.K (.ref C) "__invert__" = some (some (.ref g))) (hf : PySem.W.isFn X.K (.ref g) = true) (F : FnR X.prog X.w X.K X.mg X.base CX n g sp)
    (hr : Room n X.A) (hx : Passes CX X E) : UnR X (unaryOp .Invert) (rUnO C sp E) := by
  intro pins s σ H x v Q I rx h
  obtain ⟨a, dx, vs, rfl, ha, q⟩ := h
  cases (show v = Value.ref a from rx)
  obtain ⟨ox, od, J⟩ := ins_inst I ha
  obtain ⟨m, hF⟩ := I.fr
  refine PySem.W.ksp_inv hF I.ok.mod.kin J hs hf ?_
  exact wpAny_call (run_fnR (us := [.ref a]) (vs := [.ref a]) F hr hx I (.cons rfl .nil) q)
end
end U
namespace U
open PySem PySem.Spec PyProof.Rows L2 StX
/-! ### a def of the text, with how its arguments bind -/
structure FnAt (K : PySem.W.Frag) (x qual : Str) (st : Stmt) (f : Addr) (ps : List Str) : Prop where
  ex : ∃ fd, Fun K x qual st f fd ∧ Binds K fd ps []
theorem FnAt.kp {K : PySem.W.Frag} {x qual : Str} {st : Stmt} {f : Addr} {ps : List Str} (A : FnAt K x qual st f ps) : PySem.W.keepIn K (.ref f) = true := by
  obtain ⟨fd, F, _⟩ := A.ex
  exact F.kp
section
variable {P : Program} {w : World} {K : PySem.W.Frag} {mg : Str → Option Value} {base : Heap}
theorem FnAt.ok {x qual : Str} {st : Stmt} {f : Addr} {N ps : List Str} {k : Nat} {sp : Sp} (A : FnAt K x qual st f ps) (S : FnScope N ps (defScope st)) (len : ∀ vs H Q E, sp vs H Q E → vs.length = ps.length)
    (hbody : ∀ (cdv : Value) (A : Around) (outer : List Env) (s : Shared) (H : Hp) (vs : List V) (Q : VK) (E : XK), Room k (A.deeper (envOfC qual (defScope st) s.heap.objs.size f cdv)) → sp vs H Q E →
      ∃ t, PSs (cxOf CX0 P w K mg base N qual (defScope st) f cdv A outer s H E).nox (defBody st) t ∧ t { nx := fun _ H' => Q .non H', rt := Q } (start N vs) H) : FnR P w K mg base CX0 (k + 1) f sp := by
  obtain ⟨fd, F, B⟩ := A.ex
  have R := (F.ok (P := P) (w := w) (mg := mg) (base := base) S len hbody).raw B .nil
  exact R.imp fun vs H Q E h => by rw [List.append_nil]; exact h
/-- a def that raises nothing, where exceptions are told -/
theorem fnR_any {CX : CXT} {k : Nat} {f : Addr} {sp : Sp} (F : FnR P w K mg base CX0 k f sp) : FnR P w K mg base CX k f sp := by
  intro A outer s H us vs Q E hr e0 r h
  refine codeAny_mono (F A outer s H us vs Q E hr e0 r h) fun r s' hq => ?_
  cases r with
  | error e => exact False.elim hq
  | ok fl => cases fl <;> exact hq
end
section
variable {X : Cx} {CX : CXT} {k i : Nat} {f C p g a dx : Addr} {sp : Sp} {E : XK} {x fl : Str} {e o : Expr} {es : List Expr} {ta te tf : TE} {t : TA} {pp pos : Pos} {fs : List (Str × V)}
/-- x(e, ..), x a def of the module -/
def tCallR (sp : Sp) (E : XK) (t : TA) : TE := fun σ H Q => t σ H fun vs H1 => sp vs H1 Q E
theorem pe_callR (F : FnR X.prog X.w X.K X.mg X.base CX k f sp) (hr : Room k X.A) (hk : PySem.W.keepIn X.K (.ref f) = true) (hg : Gl X x) (hm : X.mg x = some (.ref f)) (hx : Passes CX X E) (ha : PA X (e :: es) t) (hdb : (x == ("__debug__" : Str)) = false := by decide)
    (he : starEach (e :: es) X.env = (false, eval e X.env) :: starEach es X.env := by rfl) (hpl : (backTo pos (starEach es X.env)).any (·.1) = false := by rfl) : PE X (.Call (.Name x pp) (e :: es) [] pos) (tCallR sp E t) := by
  refine ⟨fun pins s σ H Q I h => ?_⟩
  refine wpAny_Call_Name_kw (ld_glob I hg hm ?_ hdb)
  refine PySem.W.callWith_K (h₀ := X.base) I.ok.mod.kin hk (thn (ha.run pos pins s σ H _ I h) fun us s1 ⟨vs, H1, I1, r, q⟩ => ⟨I1.kIn, ?_⟩) he hpl
  exact wpAny_call (run_fnR F hr hx I1 r q)
/-- e.f, a property -/
def tPropR (C : Addr) (sp : Sp) (ta : TE) : TE := fun σ H Q => ta σ H fun x H1 => ∃ a dx fs, x = .ref a ∧ H1 a = some (.ins C dx fs) ∧ sp [.ref a] H1 Q E0
theorem pe_propR (he : PE X e ta) (c : Cls X.K C) (hp : PropOf X.K C fl p g) (F : FnR X.prog X.w X.K X.mg X.base CX0 k g sp) (hr : Room (k + 1) X.A)
    (hab : attributeBase e fl X.env (eval e X.env) = eval e X.env := by rfl) : PE X (.Attribute e fl pos) (tPropR C sp ta) := by
  refine ⟨fun pins s σ H Q I h => ?_⟩
  refine attr_of hab (thn (he.run pins s σ H _ I h) fun u s1 ⟨x, H1, I1, rx, a, dx, fs, ex, ea, q⟩ => ?_)
  subst ex
  obtain rfl : u = Value.ref a := rx
  obtain ⟨mA, O, _, _, _, _⟩ := ins_get I1.hok ea
  obtain ⟨od, J, _⟩ := O.look
  obtain ⟨rest, hrec⟩ := hp.rec_
  have I2 := I1.tok (s1.toks + 1)
  have hc : (PySem.W.clsIn X.K C).isSome = true := by
    obtain ⟨cd, hc, _⟩ := PySem.W.any_some c.hd
    rw [hc]
    rfl
  refine PySem.W.get_bind I1.kIn J (PySem.W.plainGet_of (c.get fl)).1 (PySem.W.findObj_data hc hp.at_ hp.get hp.tak) (PySem.W.plainGet_of (c.get fl)).2 (wpAny_call (PySem.W.prop_get (s := { s1 with toks := s1.toks + 1 }) I1.kIn hrec ?_))
  refine codeAny_mono (F X.A.in1 X.stack { s1 with toks := s1.toks + 1 } H1 [.ref a] [.ref a] Q E0 hr.in1 I2.env0.in1 (.cons rfl .nil) q) fun r s' hq => ?_
  cases r with
  | error er => exact False.elim hq
  | ok fl =>
    cases fl with
    | ret u =>
      obtain ⟨v, H', I3, rv, q3⟩ := I2.after hq
      show wpAny _ _ (handedOut u) _ _ _
      rw [PySem.W.handedOut_of (handed_of rv)]
      exact wpAny_pure ⟨v, H', I3, rv, q3⟩
    | next => exact False.elim hq
    | brk => exact False.elim hq
    | cont => exact False.elim hq
/-- x(..), x a local that holds the class at C -/
def tMakeL (i : Nat) (C : Addr) (sp : Sp) (E : XK) (t : TA) : TE := fun σ H Q => σ[i]? = some (some (.ref C)) ∧ tMakeR C sp E t σ H Q
theorem pe_makeL (M : Mk X.K C f) (F : FnR X.prog X.w X.K X.mg X.base CX k f sp) (hr : Room (k + 1) X.A) (hN : X.N[i]? = some x) (hv : Vis X.env.scope x) (hx : Passes CX X E) (ha : PA X (e :: es) t) (hdb : (x == ("__debug__" : Str)) = false := by decide)
    (hcd : (x == ("__classdict__" : Str)) = false := by decide)
    (he : starEach (e :: es) X.env = (false, eval e X.env) :: starEach es X.env := by rfl) (hpl : (backTo pos (starEach es X.env)).any (·.1) = false := by rfl) : PE X (.Call (.Name x pp) (e :: es) [] pos) (tMakeL i C sp E t) := by
  refine ⟨fun pins s σ H Q I h => ?_⟩
  obtain ⟨hs, ht⟩ := h
  refine wpAny_Call_Name_kw (thn ((pe_var (pos := pp) hN hv hdb hcd).run pins s σ H (fun v H1 => v = .ref C ∧ H1 = H) I ⟨.ref C, hs, rfl, rfl⟩) fun u s1 ⟨v, H1, I1, r1, q1⟩ => ?_)
  obtain ⟨rfl, rfl⟩ := q1
  cases r1
  refine PySem.W.callWith_K (h₀ := X.base) I.ok.mod.kin M.kp (thn (ha.run pos pins s1 σ _ _ I1 ht) fun us s2 ⟨vs, H2, I2, r, q⟩ => ⟨I2.kIn, ?_⟩) he hpl
  exact run_makeR M F hr hx I2 r q
end
theorem ifD {c : Prop} [Decidable c] {A B : Prop} (h1 : c → A) (h2 : ¬ c → B) : if decide c = true then A else B := by
  by_cases h : c
  · rw [if_pos (decide_eq_true h)]; exact h1 h
  · rw [if_neg (by simp [h])]; exact h2 h
theorem ifN {c : Prop} [Decidable c] {A B : Prop} (h1 : ¬ c → A) (h2 : c → B) : if (!decide c) = true then A else B := by
  by_cases h : c
  · rw [if_neg (by simp [h])]; exact h2 h
  · rw [if_pos (by simp [h])]; exact h1 h
theorem ifB {c : Bool} {A B : Prop} (h1 : c = true → A) (h2 : c = false → B) : if c = true then A else B := by
  cases c with
  | true => rw [if_pos rfl]; exact h1 rfl
  | false => rw [if_neg Bool.false_ne_true]; exact h2 rfl
theorem ifNB {c : Bool} {A B : Prop} (h1 : c = false → A) (h2 : c = true → B) : if (!c) = true then A else B := by
  cases c with
  | true => exact iteF (h2 rfl)
  | false => exact iteT (h1 rfl)
end U
namespace U
open PySem PySem.Spec PyProof.Rows L2
/-- the ints' dicts compared -/
def dEq (ks ls : List (Key × V)) : Bool := ks.length == ls.length && ks.all fun p => decide (valV ls p.1 = some p.2)
def IntVals (ks : List (Key × V)) : Prop := ∀ p ∈ ks, ∃ i : Int, p.2 = .int i
theorem valV_mem {ls : List (Key × V)} {k : Key} {v : V} (h : valV ls k = some v) : ∃ p ∈ ls, p.2 = v := by
  unfold valV at h
  cases e : ls.find? (fun kv => decide (kv.1 = k)) with
  | none => rw [e] at h; cases h
  | some p =>
    rw [e] at h
    exact ⟨p, List.mem_of_find?_eq_some e, Option.some.inj h⟩
theorem hits_int {A : Around} {s : Shared} {ls : List (Key × V)} {vb : List (Key × Value)} (rb : KV ls vb) (il : IntVals ls) {ks : List (Key × V)} {va : List (Key × Value)} (ra : KV ks va) :
    IntVals ks → PySem.W.KeqHits A s vb va (ks.all fun p => decide (valV ls p.1 = some p.2)) := by
  unfold KV at ra
  induction ra with
  | nil => intro _; exact .nil
  | @cons p q ps qs h t ih =>
    intro hp
    obtain ⟨h1, h2⟩ := h
    obtain ⟨i, ei⟩ := hp p List.mem_cons_self
    obtain ⟨k, v⟩ := q
    have h1' : p.1 = k := h1
    subst h1'
    rw [ei] at h2
    obtain ⟨tk, ev⟩ := (show ∃ tk, v = Value.int i tk from h2)
    subst ev
    have rr : RelO (valV ls p.1) (valueAt vb p.1) := rb.val p.1
    rw [List.all_cons]
    cases e : valV ls p.1 with
    | none =>
      rw [e] at rr
      cases e2 : valueAt vb p.1 with
      | none => exact .miss e2
      | some y => rw [e2] at rr; exact rr.elim
    | some z =>
      rw [e] at rr
      obtain ⟨y, hy, ry⟩ := rr.some_of
      obtain ⟨p', hm, ep⟩ := valV_mem e
      obtain ⟨j, ej⟩ := il p' hm
      rw [ej] at ep
      subst ep
      obtain ⟨tk', ey⟩ := (show ∃ tk, y = Value.int j tk from ry)
      subst ey
      have b : decide (some (V.int j) = some p.2) = (i == j) := by
        rw [ei]
        by_cases h : i = j
        · subst h; simp
        · have h' : ¬ j = i := fun z => h z.symm
          simp [h, h']
      rw [b]
      exact .hit hy (SeqAt.EqAt.int_int i _ j _) (ih fun p' hm => hp p' (List.mem_cons_of_mem _ hm))
theorem my_copyOf {prog : Program} {w : World} {KK : Type} [DecidableEq KK] {knd : KeyKind prog w KK} {A : Around} {E : Value → Shared → Prop} {s : Shared} {id : String} {d : Addr} {kvs : List (KK × Value)} {Q : Value → Shared → Prop} (hd : (d == sysModules) = false)
    (hm : s.heap.DictOf knd d kvs) (hsz : kvs.length ≤ sizeLine)
    (h : ∀ h', h'.DictOf knd s.heap.objs.size kvs → (∀ b o, s.heap.get? b = some o → h'.get? b = some o) → Q (.ref s.heap.objs.size) { s with heap := h' }) :
    wpAny (model prog w) A (Builtin.Dict.copyOf id (.ref d)) Q E s := by
  obtain ⟨o, es, ep, ho, hc, hdat, hk, hp, hn⟩ := (_root_.id hm : s.heap.DictOf knd d kvs)
  have hes : es.size ≤ sizeLine + 1 := by
    have e1 := hp.length
    have e2 : es.toList.length = es.size := by simp
    omega
  have fin : ∀ es' : Array DictEntry, es' = es → Q (.ref s.heap.objs.size) { s with heap := s.heap.push { cls := .type "dict", data := .dict es' } } := by
    rintro es' rfl
    exact h _ ⟨_, es', 0, Heap.get?_push_size _ rfl, ⟨rfl, rfl, rfl⟩, rfl, hk, hp, hn⟩ fun b o' e => Heap.get?_push_of_some _ e
  unfold Builtin.Dict.copyOf
  refine wpAny_bind (wpAny_pure ?_)
  unfold Builtin.Dict.showsAll
  rw [if_neg (by rw [hd]; exact Bool.false_ne_true)]
  refine wpAny_bind (wpAny_pure (wpAny_bind (wpAny_dictEntries ho hdat ?_)))
  by_cases hemp : es.isEmpty = true
  · rw [if_pos hemp]
    exact wpAny_bind (wpAny_rule (wpAny_newObj_type (fin #[] (Array.isEmpty_iff.mp hemp).symm)))
  · rw [if_neg hemp]
    refine wpAny_bind ?_
    unfold Builtin.Dict.readDirectly
    refine wpAny_bind (wpAny_isInstance hm.typeIs isSubtype_dict_dict ?_)
    simp only [Bool.not_true, Bool.false_eq_true, if_false]
    refine wpAny_bind (wpAny_specialOf hm.typeIs F.slot_dict_iter.lookup (wpAny_pure ?_))
    simp only [beq_self_eq_true, if_true]
    exact wpAny_bind (wpAny_entriesForEmpty (knd := knd) ho hdat hk (wpAny_newObj_type (fin es rfl) hes))
section
variable {X : Cx}
def rEqD : R2 := fun x y H Q => ∃ a b ks ls, x = .ref a ∧ y = .ref b ∧ H a = some (.dK ks) ∧ H b = some (.dK ls) ∧ IntVals ks ∧ IntVals ls ∧ Q (.bl (dEq ks ls)) H
def rNeD : R2 := fun x y H Q => ∃ a b ks ls, x = .ref a ∧ y = .ref b ∧ H a = some (.dK ks) ∧ H b = some (.dK ls) ∧ IntVals ks ∧ IntVals ls ∧ Q (.bl (!dEq ks ls)) H
theorem op_eqDI (hu : X.A.units < cLine) : OpR X (compareOp .Eq) rEqD := by
  intro pins s σ H x y v u Q I rx ry h
  obtain ⟨a, b, ks, ls, rfl, rfl, ea, eb, i1, i2, q⟩ := h
  cases (show v = Value.ref a from rx)
  cases (show u = Value.ref b from ry)
  obtain ⟨_, ya, va, ra, da⟩ := (show ObjOk X.prog X.w H s.heap a (.dK ks) from I.hok a _ ea)
  obtain ⟨_, yb, vb, rb, db⟩ := (show ObjOk X.prog X.w H s.heap b (.dK ls) from I.hok b _ eb)
  refine PySem.W.keq_eq (knd := mixKind X.prog X.w) ya yb da db hu (fun _ => hits_int rb i2 ra i1) (fin_bl I q ?_)
  unfold dEq
  rw [ra.length, rb.length]
theorem op_neDI (hu : X.A.units < cLine) : OpR X (compareOp .NotEq) rNeD := by
  intro pins s σ H x y v u Q I rx ry h
  obtain ⟨a, b, ks, ls, rfl, rfl, ea, eb, i1, i2, q⟩ := h
  cases (show v = Value.ref a from rx)
  cases (show u = Value.ref b from ry)
  obtain ⟨_, ya, va, ra, da⟩ := (show ObjOk X.prog X.w H s.heap a (.dK ks) from I.hok a _ ea)
  obtain ⟨_, yb, vb, rb, db⟩ := (show ObjOk X.prog X.w H s.heap b (.dK ls) from I.hok b _ eb)
  refine PySem.W.keq_ne (knd := mixKind X.prog X.w) ya yb da db hu (fun _ => hits_int rb i2 ra i1) (fin_bl I q ?_)
  unfold dEq
  rw [ra.length, rb.length]
/-- d | e, two dicts -/
def rOrD : R2 := fun x y H Q => ∃ a b ks ls, x = .ref a ∧ y = .ref b ∧ H a = some (.dK ks) ∧ H b = some (.dK ls) ∧ ks.length + ls.length ≤ sizeLine ∧ ∀ p, H p = none → Q (.ref p) (upd H p (.dK (mergeK ks ls)))
theorem op_orD : OpR X (binaryOp .BitOr) rOrD := by
  intro pins s σ H x y v u Q I rx ry h
  obtain ⟨a, b, ks, ls, rfl, rfl, ea, eb, hz, q⟩ := h
  cases (show v = Value.ref a from rx)
  cases (show u = Value.ref b from ry)
  obtain ⟨z1, ya, va, ra, da⟩ := (show ObjOk X.prog X.w H s.heap a (.dK ks) from I.hok a _ ea)
  obtain ⟨z2, yb, vb, rb, db⟩ := (show ObjOk X.prog X.w H s.heap b (.dK ls) from I.hok b _ eb)
  refine wpAny_binaryOp_same (op := .BitOr) da.typeIs db.typeIs PySem.F.fills_dict_or PySem.F.slot_dict_or (wpAny_call_entry PySem.F.slot_dict_or da.typeIs PySem.F.entry_dict_or ?_ (PySem.F.args_dict_or_2 _ _))
  show wpAny _ _ (Builtin.Dict.dictSlotArgs "__or__" ⟨[.ref a, .ref b], []⟩ >>= _) _ _ s
  refine wpAny_bind ?_
  unfold Builtin.Dict.dictSlotArgs
  refine wpAny_bind (wpAny_notOrdered_dict da.typeIs ?_)
  show wpAny _ _ (pure (Value.ref a, Value.ref b)) _ _ s
  refine wpAny_pure ?_
  show wpAny _ _ (_ >>= _) _ _ s
  refine wpAny_bind ?_
  refine wpAny_bind (wpAny_isInstance (T := "dict") da.typeIs PySem.F.sub_dict_dict ?_)
  show wpAny _ _ (isInstance (Value.ref b) (Value.type "dict")) _ _ s
  refine wpAny_isInstance (T := "dict") db.typeIs PySem.F.sub_dict_dict ?_
  rw [show (!true) = false from rfl, if_neg Bool.false_ne_true]
  have lv : va.length ≤ sizeLine := by rw [← ra.length]; exact z1
  have hb0 : b ≠ s.heap.objs.size := Nat.ne_of_lt (I.hok.lt eb)
  refine wpAny_bind (my_copyOf ya da lv fun h1 d1 k1 => ?_)
  refine wpAny_bind (wpAny_pure (wpAny_holding ?_))
  have db1 : h1.DictOf (mixKind X.prog X.w) b vb := by
    obtain ⟨ob, es, ep, e, c⟩ := db
    exact ⟨ob, es, ep, k1 _ _ e, c⟩
  unfold Builtin.Dict.updateFrom
  refine wpAny_bind (wpAny_typeOf (s := { s with heap := h1 }) db1.typeIs ?_)
  rw [if_neg (by decide)]
  refine wpAny_bind ?_
  unfold Builtin.Dict.merge
  refine wpAny_bind ?_
  unfold Builtin.Dict.readDirectly
  refine wpAny_bind (wpAny_isInstance (s := { s with heap := h1 }) db1.typeIs isSubtype_dict_dict ?_)
  simp only [Bool.not_true, Bool.false_eq_true, if_false]
  refine wpAny_bind (wpAny_specialOf (s := { s with heap := h1 }) db1.typeIs F.slot_dict_iter.lookup (wpAny_pure ?_))
  simp only [beq_self_eq_true, if_true]
  refine wpAny_bind (wpAny_pure ?_)
  refine wpAny_mergeDict (s := { s with heap := h1 }) (knd := mixKind X.prog X.w) (hsz := by rw [← ra.length, ← rb.length]; exact hz) hb0.symm yb d1 db1 fun h2 d2 _ k2 => ?_
  refine wpAny_bind (wpAny_pure (wpAny_pure ⟨_, rfl, by simp, ?_⟩))
  refine ⟨.ref s.heap.objs.size, _, I.laid (t' := s.toks) (h' := h2) (o := .dK (mergeK ks ls)) (fun c o e => (k2.2 c (Nat.ne_of_lt (Heap.lt_size e))).trans (k1 c o e)) (Nat.le_refl _) ?_, rfl, q _ (I.hok.fresh (Nat.le_refl _))⟩
  refine dk_new (Nat.le_trans (length_mergeK ls ks) hz) ?_ (rb.merge ra) d2
  exact beq_eq_false_iff_ne.mpr (Nat.ne_of_gt I.big)
end
end U
namespace My
open PySem L2
def top (i : Nat) : Stmt := PySem.Challenge.pw_chainmaps_k08_whole_rules_of_operators.main.body.getD i (.Pass ⟨0, 0, 0, 0⟩)
abbrev s_is_integer : Stmt := top 10
abbrev n_is_integer : List Str := ["value"]
theorem sc_is_integer : FnScope n_is_integer ["value"] (defScope s_is_integer) := ⟨rfl, rfl, rfl, by decide +kernel, rfl, by decide +kernel, by decide +kernel⟩
abbrev s_in_range : Stmt := top 11
abbrev n_in_range : List Str := ["value", "least", "most"]
theorem sc_in_range : FnScope n_in_range ["value", "least", "most"] (defScope s_in_range) := ⟨rfl, rfl, rfl, by decide +kernel, rfl, by decide +kernel, by decide +kernel⟩
abbrev s_check_size : Stmt := top 12
abbrev n_check_size : List Str := ["size"]
theorem sc_check_size : FnScope n_check_size ["size"] (defScope s_check_size) := ⟨rfl, rfl, rfl, by decide +kernel, rfl, by decide +kernel, by decide +kernel⟩
abbrev s_are_arrows : Stmt := top 13
abbrev n_are_arrows : List Str := ["size", "arrows", "targets", "source", "target"]
theorem sc_are_arrows : FnScope n_are_arrows ["size", "arrows"] (defScope s_are_arrows) := ⟨rfl, rfl, rfl, by decide +kernel, rfl, by decide +kernel, by decide +kernel⟩
abbrev s_common_size : Stmt := top 14
abbrev n_common_size : List Str := ["one", "other"]
theorem sc_common_size : FnScope n_common_size ["one", "other"] (defScope s_common_size) := ⟨rfl, rfl, rfl, by decide +kernel, rfl, by decide +kernel, by decide +kernel⟩
abbrev s_row_from : Stmt := top 15
abbrev n_row_from : List Str := ["arrows", "element", "row"]
theorem sc_row_from : FnScope n_row_from ["arrows", "element"] (defScope s_row_from) := ⟨rfl, rfl, rfl, by decide +kernel, rfl, by decide +kernel, by decide +kernel⟩
abbrev s_moved : Stmt := top 16
abbrev n_moved : List Str := ["arrows", "steps", "found", "seen", "targets", "source", "row", "closed", "place", "element", "target"]
theorem sc_moved : FnScope n_moved ["arrows", "steps"] (defScope s_moved) := ⟨rfl, rfl, rfl, by decide +kernel, rfl, by decide +kernel, by decide +kernel⟩
abbrev s_Map__init : Stmt := inClass (top 17) 0
abbrev n_Map__init : List Str := ["self", "size", "arrows", "source"]
theorem sc_Map__init : FnScope n_Map__init ["self", "size", "arrows"] (defScope s_Map__init) := ⟨rfl, rfl, rfl, by decide +kernel, rfl, by decide +kernel, by decide +kernel⟩
abbrev s_Map_identity : Stmt := inClass (top 17) 1
abbrev n_Map_identity : List Str := ["cls", "size", "element"]
theorem sc_Map_identity : FnScope n_Map_identity ["cls", "size"] (defScope s_Map_identity) := ⟨rfl, rfl, rfl, by decide +kernel, rfl, by decide +kernel, by decide +kernel⟩
abbrev s_Map_empty : Stmt := inClass (top 17) 2
abbrev n_Map_empty : List Str := ["cls", "size"]
theorem sc_Map_empty : FnScope n_Map_empty ["cls", "size"] (defScope s_Map_empty) := ⟨rfl, rfl, rfl, by decide +kernel, rfl, by decide +kernel, by decide +kernel⟩
abbrev s_Map_size : Stmt := inClass (top 17) 6
abbrev n_Map_size : List Str := ["self"]
theorem sc_Map_size : FnScope n_Map_size ["self"] (defScope s_Map_size) := ⟨rfl, rfl, rfl, by decide +kernel, rfl, by decide +kernel, by decide +kernel⟩
abbrev s_Map_arrows : Stmt := inClass (top 17) 7
abbrev n_Map_arrows : List Str := ["self"]
theorem sc_Map_arrows : FnScope n_Map_arrows ["self"] (defScope s_Map_arrows) := ⟨rfl, rfl, rfl, by decide +kernel, rfl, by decide +kernel, by decide +kernel⟩
abbrev s_Map__mul : Stmt := inClass (top 17) 8
abbrev n_Map__mul : List Str := ["self", "other", "size", "later", "source", "target"]
theorem sc_Map__mul : FnScope n_Map__mul ["self", "other"] (defScope s_Map__mul) := ⟨rfl, rfl, rfl, by decide +kernel, rfl, by decide +kernel, by decide +kernel⟩
abbrev s_Map__invert : Stmt := inClass (top 17) 9
abbrev n_Map__invert : List Str := ["self", "source", "target"]
theorem sc_Map__invert : FnScope n_Map__invert ["self"] (defScope s_Map__invert) := ⟨rfl, rfl, rfl, by decide +kernel, rfl, by decide +kernel, by decide +kernel⟩
abbrev s_Map_power : Stmt := inClass (top 17) 10
abbrev n_Map_power : List Str := ["self", "exponent", "arrows", "source", "target"]
theorem sc_Map_power : FnScope n_Map_power ["self", "exponent"] (defScope s_Map_power) := ⟨rfl, rfl, rfl, by decide +kernel, rfl, by decide +kernel, by decide +kernel⟩
abbrev s_Map__and : Stmt := inClass (top 17) 12
abbrev n_Map__and : List Str := ["self", "other", "size", "later", "both", "source", "target"]
theorem sc_Map__and : FnScope n_Map__and ["self", "other"] (defScope s_Map__and) := ⟨rfl, rfl, rfl, by decide +kernel, rfl, by decide +kernel, by decide +kernel⟩
abbrev s_Map__sub : Stmt := inClass (top 17) 13
abbrev n_Map__sub : List Str := ["self", "other", "size", "later", "rest", "source", "target"]
theorem sc_Map__sub : FnScope n_Map__sub ["self", "other"] (defScope s_Map__sub) := ⟨rfl, rfl, rfl, by decide +kernel, rfl, by decide +kernel, by decide +kernel⟩
abbrev s_Map__or : Stmt := inClass (top 17) 14
abbrev n_Map__or : List Str := ["self", "other", "size", "clash"]
theorem sc_Map__or : FnScope n_Map__or ["self", "other"] (defScope s_Map__or) := ⟨rfl, rfl, rfl, by decide +kernel, rfl, by decide +kernel, by decide +kernel⟩
abbrev s_Map__le : Stmt := inClass (top 17) 15
abbrev n_Map__le : List Str := ["self", "other"]
theorem sc_Map__le : FnScope n_Map__le ["self", "other"] (defScope s_Map__le) := ⟨rfl, rfl, rfl, by decide +kernel, rfl, by decide +kernel, by decide +kernel⟩
abbrev s_Map__lt : Stmt := inClass (top 17) 16
abbrev n_Map__lt : List Str := ["self", "other"]
theorem sc_Map__lt : FnScope n_Map__lt ["self", "other"] (defScope s_Map__lt) := ⟨rfl, rfl, rfl, by decide +kernel, rfl, by decide +kernel, by decide +kernel⟩
abbrev s_Map__ge : Stmt := inClass (top 17) 17
abbrev n_Map__ge : List Str := ["self", "other"]
theorem sc_Map__ge : FnScope n_Map__ge ["self", "other"] (defScope s_Map__ge) := ⟨rfl, rfl, rfl, by decide +kernel, rfl, by decide +kernel, by decide +kernel⟩
abbrev s_Map__eq : Stmt := inClass (top 17) 25
abbrev n_Map__eq : List Str := ["self", "other"]
theorem sc_Map__eq : FnScope n_Map__eq ["self", "other"] (defScope s_Map__eq) := ⟨rfl, rfl, rfl, by decide +kernel, rfl, by decide +kernel, by decide +kernel⟩
abbrev s_is_part : Stmt := top 18
abbrev n_is_part : List Str := ["arrows", "others", "source", "target"]
theorem sc_is_part : FnScope n_is_part ["arrows", "others"] (defScope s_is_part) := ⟨rfl, rfl, rfl, by decide +kernel, rfl, by decide +kernel, by decide +kernel⟩
abbrev s_first_clash : Stmt := top 19
abbrev n_first_clash : List Str := ["arrows", "others", "source", "target", "other", "end"]
theorem sc_first_clash : FnScope n_first_clash ["arrows", "others"] (defScope s_first_clash) := ⟨rfl, rfl, rfl, by decide +kernel, rfl, by decide +kernel, by decide +kernel⟩
abbrev s_l_hand : Stmt := top 21
abbrev n_l_hand : List Str := ["_law_script", "_law_k", "_law_cell", "_law_seed"]
theorem sc_l_hand : FnScope n_l_hand ["_law_script", "_law_k"] (defScope s_l_hand) := ⟨rfl, rfl, rfl, by decide +kernel, rfl, by decide +kernel, by decide +kernel⟩
abbrev s_l_draw : Stmt := top 22
abbrev n_l_draw : List Str := ["_law_pool", "_law_size", "_law_found"]
theorem sc_l_draw : FnScope n_l_draw ["_law_pool", "_law_size"] (defScope s_l_draw) := ⟨rfl, rfl, rfl, by decide +kernel, rfl, by decide +kernel, by decide +kernel⟩
abbrev s_l_arrows : Stmt := top 23
abbrev n_l_arrows : List Str := ["_law_pool", "_law_size", "_law_way", "_law_left", "_law_found", "_law_source"]
theorem sc_l_arrows : FnScope n_l_arrows ["_law_pool", "_law_size", "_law_way"] (defScope s_l_arrows) := ⟨rfl, rfl, rfl, by decide +kernel, rfl, by decide +kernel, by decide +kernel⟩
abbrev s_l_products : Stmt := top 24
abbrev n_l_products : List Str := ["_law_one", "_law_other", "_law_last", "_law_source"]
theorem sc_l_products : FnScope n_l_products ["_law_one", "_law_other", "_law_last"] (defScope s_l_products) := ⟨rfl, rfl, rfl, by decide +kernel, rfl, by decide +kernel, by decide +kernel⟩
abbrev s_l_parts : Stmt := top 25
abbrev n_l_parts : List Str := ["_law_one", "_law_other", "_law_last", "_law_both"]
theorem sc_l_parts : FnScope n_l_parts ["_law_one", "_law_other", "_law_last"] (defScope s_l_parts) := ⟨rfl, rfl, rfl, by decide +kernel, rfl, by decide +kernel, by decide +kernel⟩
abbrev s_l_powers : Stmt := top 26
abbrev n_l_powers : List Str := ["_law_pool", "_law_one", "_law_first", "_law_second"]
theorem sc_l_powers : FnScope n_l_powers ["_law_pool", "_law_one"] (defScope s_l_powers) := ⟨rfl, rfl, rfl, by decide +kernel, rfl, by decide +kernel, by decide +kernel⟩
abbrev s_law : Stmt := top 27
abbrev n_law : List Str := ["_law_script", "_law_k", "_law_pool", "_law_size", "_law_some", "_law_rows", "_law_one", "_law_other", "_law_last", "_law_turn"]
theorem sc_law : FnScope n_law ["_law_script"] (defScope s_law) := ⟨rfl, rfl, rfl, by decide +kernel, rfl, by decide +kernel, by decide +kernel⟩
structure Txt (K : PySem.W.Frag) (mg : Str → Option Value) where
  f_is_integer : Addr
  f_in_range : Addr
  f_check_size : Addr
  f_are_arrows : Addr
  f_common_size : Addr
  f_row_from : Addr
  f_moved : Addr
  f_is_part : Addr
  f_first_clash : Addr
  f_l_hand : Addr
  f_l_draw : Addr
  f_l_arrows : Addr
  f_l_products : Addr
  f_l_parts : Addr
  f_l_powers : Addr
  f_law : Addr
  C_Map : Addr
  f_Map__init : Addr
  p_Map_identity : Addr
  f_Map_identity : Addr
  p_Map_empty : Addr
  f_Map_empty : Addr
  p_Map_size : Addr
  f_Map_size : Addr
  p_Map_arrows : Addr
  f_Map_arrows : Addr
  f_Map__mul : Addr
  f_Map__invert : Addr
  f_Map_power : Addr
  f_Map__and : Addr
  f_Map__sub : Addr
  f_Map__or : Addr
  f_Map__le : Addr
  f_Map__lt : Addr
  f_Map__ge : Addr
  f_Map__eq : Addr
  A_is_integer : U.FnAt K "is_integer" "is_integer" s_is_integer f_is_integer ["value"]
  g_is_integer : mg "is_integer" = some (.ref f_is_integer)
  A_in_range : U.FnAt K "in_range" "in_range" s_in_range f_in_range ["value", "least", "most"]
  g_in_range : mg "in_range" = some (.ref f_in_range)
  A_check_size : U.FnAt K "check_size" "check_size" s_check_size f_check_size ["size"]
  g_check_size : mg "check_size" = some (.ref f_check_size)
  A_are_arrows : U.FnAt K "are_arrows" "are_arrows" s_are_arrows f_are_arrows ["size", "arrows"]
  g_are_arrows : mg "are_arrows" = some (.ref f_are_arrows)
  A_common_size : U.FnAt K "common_size" "common_size" s_common_size f_common_size ["one", "other"]
  g_common_size : mg "common_size" = some (.ref f_common_size)
  A_row_from : U.FnAt K "row_from" "row_from" s_row_from f_row_from ["arrows", "element"]
  g_row_from : mg "row_from" = some (.ref f_row_from)
  A_moved : U.FnAt K "moved" "moved" s_moved f_moved ["arrows", "steps"]
  g_moved : mg "moved" = some (.ref f_moved)
  A_is_part : U.FnAt K "is_part" "is_part" s_is_part f_is_part ["arrows", "others"]
  g_is_part : mg "is_part" = some (.ref f_is_part)
  A_first_clash : U.FnAt K "first_clash" "first_clash" s_first_clash f_first_clash ["arrows", "others"]
  g_first_clash : mg "first_clash" = some (.ref f_first_clash)
  A_l_hand : U.FnAt K "_law_hand" "_law_hand" s_l_hand f_l_hand ["_law_script", "_law_k"]
  g_l_hand : mg "_law_hand" = some (.ref f_l_hand)
  A_l_draw : U.FnAt K "_law_draw" "_law_draw" s_l_draw f_l_draw ["_law_pool", "_law_size"]
  g_l_draw : mg "_law_draw" = some (.ref f_l_draw)
  A_l_arrows : U.FnAt K "_law_arrows" "_law_arrows" s_l_arrows f_l_arrows ["_law_pool", "_law_size", "_law_way"]
  g_l_arrows : mg "_law_arrows" = some (.ref f_l_arrows)
  A_l_products : U.FnAt K "_law_products" "_law_products" s_l_products f_l_products ["_law_one", "_law_other", "_law_last"]
  g_l_products : mg "_law_products" = some (.ref f_l_products)
  A_l_parts : U.FnAt K "_law_parts" "_law_parts" s_l_parts f_l_parts ["_law_one", "_law_other", "_law_last"]
  g_l_parts : mg "_law_parts" = some (.ref f_l_parts)
  A_l_powers : U.FnAt K "_law_powers" "_law_powers" s_l_powers f_l_powers ["_law_pool", "_law_one"]
  g_l_powers : mg "_law_powers" = some (.ref f_l_powers)
  A_law : U.FnAt K "law" "law" s_law f_law ["_law_script"]
  L_law : ∃ fd, Fun K "law" "law" s_law f_law fd ∧ ∀ (s : Shared) (u : Value), BindsTo s fd ⟨[u], []⟩ [("_law_script", u)]
  g_law : mg "law" = some (.ref f_law)
  g_Map : mg "Map" = some (.ref C_Map)
  o_Map : U.OwnC K C_Map
  kit_int_Map : PySem.W.kitOne K (.ref C_Map) (.type "int") = some false
  kit_bool_Map : PySem.W.kitOne K (.ref C_Map) (.type "bool") = some false
  self_Map : PySem.W.kitOne K (.ref C_Map) (.ref C_Map) = some true
  na_own_size_Map : NoAttr K C_Map "own_size"
  na_own_arrows_Map : NoAttr K C_Map "own_arrows"
  ne_Map : PySem.W.findIn K (.ref C_Map) "__ne__" = some (some (.builtin "object.__ne__"))
  A_Map__init : U.FnAt K "__init__" "Map.__init__" s_Map__init f_Map__init ["self", "size", "arrows"]
  m_Map__init : PySem.W.findIn K (.ref C_Map) "__init__" = some (some (.ref f_Map__init))
  i_Map__init : PySem.W.isFn K (.ref f_Map__init) = true
  M_Map : Mk K C_Map f_Map__init
  R_Map : ClX.CRead K C_Map (.type "type")
  A_Map_identity : U.FnAt K "identity" "Map.identity" s_Map_identity f_Map_identity ["cls", "size"]
  cm_Map_identity : ClX.CMet K C_Map (.type "type") "identity" p_Map_identity f_Map_identity
  A_Map_empty : U.FnAt K "empty" "Map.empty" s_Map_empty f_Map_empty ["cls", "size"]
  cm_Map_empty : ClX.CMet K C_Map (.type "type") "empty" p_Map_empty f_Map_empty
  A_Map_size : U.FnAt K "size" "Map.size" s_Map_size f_Map_size ["self"]
  P_Map_size : PropOf K C_Map "size" p_Map_size f_Map_size
  A_Map_arrows : U.FnAt K "arrows" "Map.arrows" s_Map_arrows f_Map_arrows ["self"]
  P_Map_arrows : PropOf K C_Map "arrows" p_Map_arrows f_Map_arrows
  A_Map__mul : U.FnAt K "__mul__" "Map.__mul__" s_Map__mul f_Map__mul ["self", "other"]
  m_Map__mul : PySem.W.findIn K (.ref C_Map) "__mul__" = some (some (.ref f_Map__mul))
  i_Map__mul : PySem.W.isFn K (.ref f_Map__mul) = true
  A_Map__invert : U.FnAt K "__invert__" "Map.__invert__" s_Map__invert f_Map__invert ["self"]
  m_Map__invert : PySem.W.findIn K (.ref C_Map) "__invert__" = some (some (.ref f_Map__invert))
  i_Map__invert : PySem.W.isFn K (.ref f_Map__invert) = true
  A_Map_power : U.FnAt K "power" "Map.power" s_Map_power f_Map_power ["self", "exponent"]
  m_Map_power : PySem.W.findIn K (.ref C_Map) "power" = some (some (.ref f_Map_power))
  i_Map_power : PySem.W.isFn K (.ref f_Map_power) = true
  meth_Map_power : Meth K C_Map "power" f_Map_power
  A_Map__and : U.FnAt K "__and__" "Map.__and__" s_Map__and f_Map__and ["self", "other"]
  m_Map__and : PySem.W.findIn K (.ref C_Map) "__and__" = some (some (.ref f_Map__and))
  i_Map__and : PySem.W.isFn K (.ref f_Map__and) = true
  A_Map__sub : U.FnAt K "__sub__" "Map.__sub__" s_Map__sub f_Map__sub ["self", "other"]
  m_Map__sub : PySem.W.findIn K (.ref C_Map) "__sub__" = some (some (.ref f_Map__sub))
  i_Map__sub : PySem.W.isFn K (.ref f_Map__sub) = true
  A_Map__or : U.FnAt K "__or__" "Map.__or__" s_Map__or f_Map__or ["self", "other"]
  m_Map__or : PySem.W.findIn K (.ref C_Map) "__or__" = some (some (.ref f_Map__or))
  i_Map__or : PySem.W.isFn K (.ref f_Map__or) = true
  A_Map__le : U.FnAt K "__le__" "Map.__le__" s_Map__le f_Map__le ["self", "other"]
  m_Map__le : PySem.W.findIn K (.ref C_Map) "__le__" = some (some (.ref f_Map__le))
  i_Map__le : PySem.W.isFn K (.ref f_Map__le) = true
  A_Map__lt : U.FnAt K "__lt__" "Map.__lt__" s_Map__lt f_Map__lt ["self", "other"]
  m_Map__lt : PySem.W.findIn K (.ref C_Map) "__lt__" = some (some (.ref f_Map__lt))
  i_Map__lt : PySem.W.isFn K (.ref f_Map__lt) = true
  A_Map__ge : U.FnAt K "__ge__" "Map.__ge__" s_Map__ge f_Map__ge ["self", "other"]
  m_Map__ge : PySem.W.findIn K (.ref C_Map) "__ge__" = some (some (.ref f_Map__ge))
  i_Map__ge : PySem.W.isFn K (.ref f_Map__ge) = true
  A_Map__eq : U.FnAt K "__eq__" "Map.__eq__" s_Map__eq f_Map__eq ["self", "other"]
  m_Map__eq : PySem.W.findIn K (.ref C_Map) "__eq__" = some (some (.ref f_Map__eq))
  i_Map__eq : PySem.W.isFn K (.ref f_Map__eq) = true
  n_isinstance : mg "isinstance" = none
  n_int : mg "int" = none
  n_bool : mg "bool" = none
  n_dict : mg "dict" = none
  n_len : mg "len" = none
  n_range : mg "range" = none
  n_list : mg "list" = none
  n_enumerate : mg "enumerate" = none
  n_all : mg "all" = none
  n_max : mg "max" = none
  n_min : mg "min" = none
  n_abs : mg "abs" = none
  v_MAX_SIZE : ∃ t, mg "MAX_SIZE" = some (.int 300 t)
theorem mk_txt {K : PySem.W.Frag} {h : Heap} {mg : Str → Option Value} (X : K.In h) (G : h.Ns mainGlobals mg)
    {f_is_integer : Addr} {oc_is_integer kV_is_integer dc_is_integer pm_is_integer cd_is_integer ct_is_integer : Value} {od_is_integer an_is_integer : Option Addr} {sl_is_integer : Array (Option Value)}
    {f_in_range : Addr} {oc_in_range kV_in_range dc_in_range pm_in_range cd_in_range ct_in_range : Value} {od_in_range an_in_range : Option Addr} {sl_in_range : Array (Option Value)}
    {f_check_size : Addr} {oc_check_size kV_check_size dc_check_size pm_check_size cd_check_size ct_check_size : Value} {od_check_size an_check_size : Option Addr} {sl_check_size : Array (Option Value)}
    {f_are_arrows : Addr} {oc_are_arrows kV_are_arrows dc_are_arrows pm_are_arrows cd_are_arrows ct_are_arrows : Value} {od_are_arrows an_are_arrows : Option Addr} {sl_are_arrows : Array (Option Value)}
    {f_common_size : Addr} {oc_common_size kV_common_size dc_common_size pm_common_size cd_common_size ct_common_size : Value} {od_common_size an_common_size : Option Addr} {sl_common_size : Array (Option Value)}
    {f_row_from : Addr} {oc_row_from kV_row_from dc_row_from pm_row_from cd_row_from ct_row_from : Value} {od_row_from an_row_from : Option Addr} {sl_row_from : Array (Option Value)}
    {f_moved : Addr} {oc_moved kV_moved dc_moved pm_moved cd_moved ct_moved : Value} {od_moved an_moved : Option Addr} {sl_moved : Array (Option Value)}
    {f_is_part : Addr} {oc_is_part kV_is_part dc_is_part pm_is_part cd_is_part ct_is_part : Value} {od_is_part an_is_part : Option Addr} {sl_is_part : Array (Option Value)}
    {f_first_clash : Addr} {oc_first_clash kV_first_clash dc_first_clash pm_first_clash cd_first_clash ct_first_clash : Value} {od_first_clash an_first_clash : Option Addr} {sl_first_clash : Array (Option Value)}
    {f_l_hand : Addr} {oc_l_hand kV_l_hand dc_l_hand pm_l_hand cd_l_hand ct_l_hand : Value} {od_l_hand an_l_hand : Option Addr} {sl_l_hand : Array (Option Value)}
    {f_l_draw : Addr} {oc_l_draw kV_l_draw dc_l_draw pm_l_draw cd_l_draw ct_l_draw : Value} {od_l_draw an_l_draw : Option Addr} {sl_l_draw : Array (Option Value)}
    {f_l_arrows : Addr} {oc_l_arrows kV_l_arrows dc_l_arrows pm_l_arrows cd_l_arrows ct_l_arrows : Value} {od_l_arrows an_l_arrows : Option Addr} {sl_l_arrows : Array (Option Value)}
    {f_l_products : Addr} {oc_l_products kV_l_products dc_l_products pm_l_products cd_l_products ct_l_products : Value} {od_l_products an_l_products : Option Addr} {sl_l_products : Array (Option Value)}
    {f_l_parts : Addr} {oc_l_parts kV_l_parts dc_l_parts pm_l_parts cd_l_parts ct_l_parts : Value} {od_l_parts an_l_parts : Option Addr} {sl_l_parts : Array (Option Value)}
    {f_l_powers : Addr} {oc_l_powers kV_l_powers dc_l_powers pm_l_powers cd_l_powers ct_l_powers : Value} {od_l_powers an_l_powers : Option Addr} {sl_l_powers : Array (Option Value)}
    {f_law : Addr} {oc_law kV_law dc_law pm_law cd_law ct_law : Value} {od_law an_law : Option Addr} {sl_law : Array (Option Value)}
    {C_Map : Addr}
    {f_Map__init : Addr} {oc_Map__init kV_Map__init dc_Map__init pm_Map__init cd_Map__init ct_Map__init : Value} {od_Map__init an_Map__init : Option Addr} {sl_Map__init : Array (Option Value)}
    {p_Map_identity : Addr} {r_Map_identity : List Value}
    {f_Map_identity : Addr} {oc_Map_identity kV_Map_identity dc_Map_identity pm_Map_identity cd_Map_identity ct_Map_identity : Value} {od_Map_identity an_Map_identity : Option Addr} {sl_Map_identity : Array (Option Value)}
    {p_Map_empty : Addr} {r_Map_empty : List Value}
    {f_Map_empty : Addr} {oc_Map_empty kV_Map_empty dc_Map_empty pm_Map_empty cd_Map_empty ct_Map_empty : Value} {od_Map_empty an_Map_empty : Option Addr} {sl_Map_empty : Array (Option Value)}
    {p_Map_size : Addr} {r_Map_size : List Value}
    {f_Map_size : Addr} {oc_Map_size kV_Map_size dc_Map_size pm_Map_size cd_Map_size ct_Map_size : Value} {od_Map_size an_Map_size : Option Addr} {sl_Map_size : Array (Option Value)}
    {p_Map_arrows : Addr} {r_Map_arrows : List Value}
    {f_Map_arrows : Addr} {oc_Map_arrows kV_Map_arrows dc_Map_arrows pm_Map_arrows cd_Map_arrows ct_Map_arrows : Value} {od_Map_arrows an_Map_arrows : Option Addr} {sl_Map_arrows : Array (Option Value)}
    {f_Map__mul : Addr} {oc_Map__mul kV_Map__mul dc_Map__mul pm_Map__mul cd_Map__mul ct_Map__mul : Value} {od_Map__mul an_Map__mul : Option Addr} {sl_Map__mul : Array (Option Value)}
    {f_Map__invert : Addr} {oc_Map__invert kV_Map__invert dc_Map__invert pm_Map__invert cd_Map__invert ct_Map__invert : Value} {od_Map__invert an_Map__invert : Option Addr} {sl_Map__invert : Array (Option Value)}
    {f_Map_power : Addr} {oc_Map_power kV_Map_power dc_Map_power pm_Map_power cd_Map_power ct_Map_power : Value} {od_Map_power an_Map_power : Option Addr} {sl_Map_power : Array (Option Value)}
    {f_Map__and : Addr} {oc_Map__and kV_Map__and dc_Map__and pm_Map__and cd_Map__and ct_Map__and : Value} {od_Map__and an_Map__and : Option Addr} {sl_Map__and : Array (Option Value)}
    {f_Map__sub : Addr} {oc_Map__sub kV_Map__sub dc_Map__sub pm_Map__sub cd_Map__sub ct_Map__sub : Value} {od_Map__sub an_Map__sub : Option Addr} {sl_Map__sub : Array (Option Value)}
    {f_Map__or : Addr} {oc_Map__or kV_Map__or dc_Map__or pm_Map__or cd_Map__or ct_Map__or : Value} {od_Map__or an_Map__or : Option Addr} {sl_Map__or : Array (Option Value)}
    {f_Map__le : Addr} {oc_Map__le kV_Map__le dc_Map__le pm_Map__le cd_Map__le ct_Map__le : Value} {od_Map__le an_Map__le : Option Addr} {sl_Map__le : Array (Option Value)}
    {f_Map__lt : Addr} {oc_Map__lt kV_Map__lt dc_Map__lt pm_Map__lt cd_Map__lt ct_Map__lt : Value} {od_Map__lt an_Map__lt : Option Addr} {sl_Map__lt : Array (Option Value)}
    {f_Map__ge : Addr} {oc_Map__ge kV_Map__ge dc_Map__ge pm_Map__ge cd_Map__ge ct_Map__ge : Value} {od_Map__ge an_Map__ge : Option Addr} {sl_Map__ge : Array (Option Value)}
    {f_Map__eq : Addr} {oc_Map__eq kV_Map__eq dc_Map__eq pm_Map__eq cd_Map__eq ct_Map__eq : Value} {od_Map__eq an_Map__eq : Option Addr} {sl_Map__eq : Array (Option Value)}
    {t_MAX_SIZE : Tok}
    (a_is_integer : PySem.W.nsIn K mainGlobals "is_integer" = some (some (.ref f_is_integer)))
    (l_is_integer : K.lookup f_is_integer = some ⟨oc_is_integer, od_is_integer, .func (PySem.W.fnOf "is_integer" "is_integer" (defArgs s_is_integer) (defBody s_is_integer) (defScope s_is_integer) .none kV_is_integer dc_is_integer pm_is_integer an_is_integer cd_is_integer ct_is_integer), sl_is_integer⟩)
    (c_is_integer : PySem.W.codeIn K cd_is_integer "is_integer" = true)
    (k_is_integer : PySem.W.keepIn K (.ref f_is_integer) = true)
    (a_in_range : PySem.W.nsIn K mainGlobals "in_range" = some (some (.ref f_in_range)))
    (l_in_range : K.lookup f_in_range = some ⟨oc_in_range, od_in_range, .func (PySem.W.fnOf "in_range" "in_range" (defArgs s_in_range) (defBody s_in_range) (defScope s_in_range) .none kV_in_range dc_in_range pm_in_range an_in_range cd_in_range ct_in_range), sl_in_range⟩)
    (c_in_range : PySem.W.codeIn K cd_in_range "in_range" = true)
    (k_in_range : PySem.W.keepIn K (.ref f_in_range) = true)
    (a_check_size : PySem.W.nsIn K mainGlobals "check_size" = some (some (.ref f_check_size)))
    (l_check_size : K.lookup f_check_size = some ⟨oc_check_size, od_check_size, .func (PySem.W.fnOf "check_size" "check_size" (defArgs s_check_size) (defBody s_check_size) (defScope s_check_size) .none kV_check_size dc_check_size pm_check_size an_check_size cd_check_size ct_check_size), sl_check_size⟩)
    (c_check_size : PySem.W.codeIn K cd_check_size "check_size" = true)
    (k_check_size : PySem.W.keepIn K (.ref f_check_size) = true)
    (a_are_arrows : PySem.W.nsIn K mainGlobals "are_arrows" = some (some (.ref f_are_arrows)))
    (l_are_arrows : K.lookup f_are_arrows = some ⟨oc_are_arrows, od_are_arrows, .func (PySem.W.fnOf "are_arrows" "are_arrows" (defArgs s_are_arrows) (defBody s_are_arrows) (defScope s_are_arrows) .none kV_are_arrows dc_are_arrows pm_are_arrows an_are_arrows cd_are_arrows ct_are_arrows), sl_are_arrows⟩)
    (c_are_arrows : PySem.W.codeIn K cd_are_arrows "are_arrows" = true)
    (k_are_arrows : PySem.W.keepIn K (.ref f_are_arrows) = true)
    (a_common_size : PySem.W.nsIn K mainGlobals "common_size" = some (some (.ref f_common_size)))
    (l_common_size : K.lookup f_common_size = some ⟨oc_common_size, od_common_size, .func (PySem.W.fnOf "common_size" "common_size" (defArgs s_common_size) (defBody s_common_size) (defScope s_common_size) .none kV_common_size dc_common_size pm_common_size an_common_size cd_common_size ct_common_size), sl_common_size⟩)
    (c_common_size : PySem.W.codeIn K cd_common_size "common_size" = true)
    (k_common_size : PySem.W.keepIn K (.ref f_common_size) = true)
    (a_row_from : PySem.W.nsIn K mainGlobals "row_from" = some (some (.ref f_row_from)))
    (l_row_from : K.lookup f_row_from = some ⟨oc_row_from, od_row_from, .func (PySem.W.fnOf "row_from" "row_from" (defArgs s_row_from) (defBody s_row_from) (defScope s_row_from) .none kV_row_from dc_row_from pm_row_from an_row_from cd_row_from ct_row_from), sl_row_from⟩)
    (c_row_from : PySem.W.codeIn K cd_row_from "row_from" = true)
    (k_row_from : PySem.W.keepIn K (.ref f_row_from) = true)
    (a_moved : PySem.W.nsIn K mainGlobals "moved" = some (some (.ref f_moved)))
    (l_moved : K.lookup f_moved = some ⟨oc_moved, od_moved, .func (PySem.W.fnOf "moved" "moved" (defArgs s_moved) (defBody s_moved) (defScope s_moved) .none kV_moved dc_moved pm_moved an_moved cd_moved ct_moved), sl_moved⟩)
    (c_moved : PySem.W.codeIn K cd_moved "moved" = true)
    (k_moved : PySem.W.keepIn K (.ref f_moved) = true)
    (a_is_part : PySem.W.nsIn K mainGlobals "is_part" = some (some (.ref f_is_part)))
    (l_is_part : K.lookup f_is_part = some ⟨oc_is_part, od_is_part, .func (PySem.W.fnOf "is_part" "is_part" (defArgs s_is_part) (defBody s_is_part) (defScope s_is_part) .none kV_is_part dc_is_part pm_is_part an_is_part cd_is_part ct_is_part), sl_is_part⟩)
    (c_is_part : PySem.W.codeIn K cd_is_part "is_part" = true)
    (k_is_part : PySem.W.keepIn K (.ref f_is_part) = true)
    (a_first_clash : PySem.W.nsIn K mainGlobals "first_clash" = some (some (.ref f_first_clash)))
    (l_first_clash : K.lookup f_first_clash = some ⟨oc_first_clash, od_first_clash, .func (PySem.W.fnOf "first_clash" "first_clash" (defArgs s_first_clash) (defBody s_first_clash) (defScope s_first_clash) .none kV_first_clash dc_first_clash pm_first_clash an_first_clash cd_first_clash ct_first_clash), sl_first_clash⟩)
    (c_first_clash : PySem.W.codeIn K cd_first_clash "first_clash" = true)
    (k_first_clash : PySem.W.keepIn K (.ref f_first_clash) = true)
    (a_l_hand : PySem.W.nsIn K mainGlobals "_law_hand" = some (some (.ref f_l_hand)))
    (l_l_hand : K.lookup f_l_hand = some ⟨oc_l_hand, od_l_hand, .func (PySem.W.fnOf "_law_hand" "_law_hand" (defArgs s_l_hand) (defBody s_l_hand) (defScope s_l_hand) .none kV_l_hand dc_l_hand pm_l_hand an_l_hand cd_l_hand ct_l_hand), sl_l_hand⟩)
    (c_l_hand : PySem.W.codeIn K cd_l_hand "_law_hand" = true)
    (k_l_hand : PySem.W.keepIn K (.ref f_l_hand) = true)
    (a_l_draw : PySem.W.nsIn K mainGlobals "_law_draw" = some (some (.ref f_l_draw)))
    (l_l_draw : K.lookup f_l_draw = some ⟨oc_l_draw, od_l_draw, .func (PySem.W.fnOf "_law_draw" "_law_draw" (defArgs s_l_draw) (defBody s_l_draw) (defScope s_l_draw) .none kV_l_draw dc_l_draw pm_l_draw an_l_draw cd_l_draw ct_l_draw), sl_l_draw⟩)
    (c_l_draw : PySem.W.codeIn K cd_l_draw "_law_draw" = true)
    (k_l_draw : PySem.W.keepIn K (.ref f_l_draw) = true)
    (a_l_arrows : PySem.W.nsIn K mainGlobals "_law_arrows" = some (some (.ref f_l_arrows)))
    (l_l_arrows : K.lookup f_l_arrows = some ⟨oc_l_arrows, od_l_arrows, .func (PySem.W.fnOf "_law_arrows" "_law_arrows" (defArgs s_l_arrows) (defBody s_l_arrows) (defScope s_l_arrows) .none kV_l_arrows dc_l_arrows pm_l_arrows an_l_arrows cd_l_arrows ct_l_arrows), sl_l_arrows⟩)
    (c_l_arrows : PySem.W.codeIn K cd_l_arrows "_law_arrows" = true)
    (k_l_arrows : PySem.W.keepIn K (.ref f_l_arrows) = true)
    (a_l_products : PySem.W.nsIn K mainGlobals "_law_products" = some (some (.ref f_l_products)))
    (l_l_products : K.lookup f_l_products = some ⟨oc_l_products, od_l_products, .func (PySem.W.fnOf "_law_products" "_law_products" (defArgs s_l_products) (defBody s_l_products) (defScope s_l_products) .none kV_l_products dc_l_products pm_l_products an_l_products cd_l_products ct_l_products), sl_l_products⟩)
    (c_l_products : PySem.W.codeIn K cd_l_products "_law_products" = true)
    (k_l_products : PySem.W.keepIn K (.ref f_l_products) = true)
    (a_l_parts : PySem.W.nsIn K mainGlobals "_law_parts" = some (some (.ref f_l_parts)))
    (l_l_parts : K.lookup f_l_parts = some ⟨oc_l_parts, od_l_parts, .func (PySem.W.fnOf "_law_parts" "_law_parts" (defArgs s_l_parts) (defBody s_l_parts) (defScope s_l_parts) .none kV_l_parts dc_l_parts pm_l_parts an_l_parts cd_l_parts ct_l_parts), sl_l_parts⟩)
    (c_l_parts : PySem.W.codeIn K cd_l_parts "_law_parts" = true)
    (k_l_parts : PySem.W.keepIn K (.ref f_l_parts) = true)
    (a_l_powers : PySem.W.nsIn K mainGlobals "_law_powers" = some (some (.ref f_l_powers)))
    (l_l_powers : K.lookup f_l_powers = some ⟨oc_l_powers, od_l_powers, .func (PySem.W.fnOf "_law_powers" "_law_powers" (defArgs s_l_powers) (defBody s_l_powers) (defScope s_l_powers) .none kV_l_powers dc_l_powers pm_l_powers an_l_powers cd_l_powers ct_l_powers), sl_l_powers⟩)
    (c_l_powers : PySem.W.codeIn K cd_l_powers "_law_powers" = true)
    (k_l_powers : PySem.W.keepIn K (.ref f_l_powers) = true)
    (a_law : PySem.W.nsIn K mainGlobals "law" = some (some (.ref f_law)))
    (l_law : K.lookup f_law = some ⟨oc_law, od_law, .func (PySem.W.fnOf "law" "law" (defArgs s_law) (defBody s_law) (defScope s_law) .none kV_law dc_law pm_law an_law cd_law ct_law), sl_law⟩)
    (c_law : PySem.W.codeIn K cd_law "law" = true)
    (k_law : PySem.W.keepIn K (.ref f_law) = true)
    (a_Map : PySem.W.nsIn K mainGlobals "Map" = some (some (.ref C_Map)))
    (pg_Map : PySem.W.plainGet K C_Map Str.empty = true)
    (hd_Map : PySem.W.hasDictIn K C_Map = true)
    (po_Map : PySem.W.plainOver K C_Map = true)
    (sa_Map : PySem.W.findIn K (.ref C_Map) "__setattr__" = some (some (.builtin "object.__setattr__")))
    (sf_Map : PySem.W.selfFirst K C_Map = true)
    (ca_Map : PySem.W.findIn K (.ref C_Map) "__class__" = some (some (.builtin "object.__class__")))
    (cn_Map : PySem.W.specialIn K (.builtin "object.__class__") "__get__" = some (some (.builtin "getset_descriptor.__get__")))
    (ct_Map : PySem.W.takesIn K (.builtin "object.__class__") = some true)
    (cm_Map : PySem.W.mroIn K C_Map (.type "object") = some true)
    (kc_Map : PySem.W.keepIn K (.ref C_Map) = true)
    (kit_int_Map : PySem.W.kitOne K (.ref C_Map) (.type "int") = some false)
    (kit_bool_Map : PySem.W.kitOne K (.ref C_Map) (.type "bool") = some false)
    (self_Map : PySem.W.kitOne K (.ref C_Map) (.ref C_Map) = some true)
    (na_own_size_Map : PySem.W.findIn K (.ref C_Map) "own_size" = some none)
    (na_own_arrows_Map : PySem.W.findIn K (.ref C_Map) "own_arrows" = some none)
    (ne_Map : PySem.W.findIn K (.ref C_Map) "__ne__" = some (some (.builtin "object.__ne__")))
    (m_Map__init : PySem.W.findIn K (.ref C_Map) "__init__" = some (some (.ref f_Map__init)))
    (i_Map__init : PySem.W.isFn K (.ref f_Map__init) = true)
    (l_Map__init : K.lookup f_Map__init = some ⟨oc_Map__init, od_Map__init, .func (PySem.W.fnOf "__init__" "Map.__init__" (defArgs s_Map__init) (defBody s_Map__init) (defScope s_Map__init) .none kV_Map__init dc_Map__init pm_Map__init an_Map__init cd_Map__init ct_Map__init), sl_Map__init⟩)
    (c_Map__init : PySem.W.codeIn K cd_Map__init "Map.__init__" = true)
    (k_Map__init : PySem.W.keepIn K (.ref f_Map__init) = true)
    (mk_Map : PySem.W.makesIn K C_Map = true)
    (rd_Map : PySem.W.readsIn K C_Map (.type "type") = true)
    (ga_Map : PySem.W.specialIn K (.ref C_Map) "__getattribute__" = some (some (.builtin "type.__getattribute__")))
    (at_Map_identity : PySem.W.findCls K (.ref C_Map) (.type "type") "identity" = some (.get (.builtin "classmethod.__get__") (.ref p_Map_identity) .none (.ref C_Map)))
    (rc_Map_identity : PySem.W.recIn K p_Map_identity "classmethod" = some (.ref f_Map_identity :: r_Map_identity))
    (fi_Map_identity : PySem.W.fnIn K f_Map_identity = true)
    (l_Map_identity : K.lookup f_Map_identity = some ⟨oc_Map_identity, od_Map_identity, .func (PySem.W.fnOf "identity" "Map.identity" (defArgs s_Map_identity) (defBody s_Map_identity) (defScope s_Map_identity) .none kV_Map_identity dc_Map_identity pm_Map_identity an_Map_identity cd_Map_identity ct_Map_identity), sl_Map_identity⟩)
    (c_Map_identity : PySem.W.codeIn K cd_Map_identity "Map.identity" = true)
    (k_Map_identity : PySem.W.keepIn K (.ref f_Map_identity) = true)
    (at_Map_empty : PySem.W.findCls K (.ref C_Map) (.type "type") "empty" = some (.get (.builtin "classmethod.__get__") (.ref p_Map_empty) .none (.ref C_Map)))
    (rc_Map_empty : PySem.W.recIn K p_Map_empty "classmethod" = some (.ref f_Map_empty :: r_Map_empty))
    (fi_Map_empty : PySem.W.fnIn K f_Map_empty = true)
    (l_Map_empty : K.lookup f_Map_empty = some ⟨oc_Map_empty, od_Map_empty, .func (PySem.W.fnOf "empty" "Map.empty" (defArgs s_Map_empty) (defBody s_Map_empty) (defScope s_Map_empty) .none kV_Map_empty dc_Map_empty pm_Map_empty an_Map_empty cd_Map_empty ct_Map_empty), sl_Map_empty⟩)
    (c_Map_empty : PySem.W.codeIn K cd_Map_empty "Map.empty" = true)
    (k_Map_empty : PySem.W.keepIn K (.ref f_Map_empty) = true)
    (m_Map_size : PySem.W.findIn K (.ref C_Map) "size" = some (some (.ref p_Map_size)))
    (s_get_Map_size : PySem.W.specialIn K (.ref p_Map_size) "__get__" = some (some (.builtin "property.__get__")))
    (tk_Map_size : PySem.W.takesIn K (.ref p_Map_size) = some true)
    (rc_Map_size : PySem.W.recIn K p_Map_size "property" = some (.ref f_Map_size :: r_Map_size))
    (l_Map_size : K.lookup f_Map_size = some ⟨oc_Map_size, od_Map_size, .func (PySem.W.fnOf "size" "Map.size" (defArgs s_Map_size) (defBody s_Map_size) (defScope s_Map_size) .none kV_Map_size dc_Map_size pm_Map_size an_Map_size cd_Map_size ct_Map_size), sl_Map_size⟩)
    (c_Map_size : PySem.W.codeIn K cd_Map_size "Map.size" = true)
    (k_Map_size : PySem.W.keepIn K (.ref f_Map_size) = true)
    (m_Map_arrows : PySem.W.findIn K (.ref C_Map) "arrows" = some (some (.ref p_Map_arrows)))
    (s_get_Map_arrows : PySem.W.specialIn K (.ref p_Map_arrows) "__get__" = some (some (.builtin "property.__get__")))
    (tk_Map_arrows : PySem.W.takesIn K (.ref p_Map_arrows) = some true)
    (rc_Map_arrows : PySem.W.recIn K p_Map_arrows "property" = some (.ref f_Map_arrows :: r_Map_arrows))
    (l_Map_arrows : K.lookup f_Map_arrows = some ⟨oc_Map_arrows, od_Map_arrows, .func (PySem.W.fnOf "arrows" "Map.arrows" (defArgs s_Map_arrows) (defBody s_Map_arrows) (defScope s_Map_arrows) .none kV_Map_arrows dc_Map_arrows pm_Map_arrows an_Map_arrows cd_Map_arrows ct_Map_arrows), sl_Map_arrows⟩)
    (c_Map_arrows : PySem.W.codeIn K cd_Map_arrows "Map.arrows" = true)
    (k_Map_arrows : PySem.W.keepIn K (.ref f_Map_arrows) = true)
    (m_Map__mul : PySem.W.findIn K (.ref C_Map) "__mul__" = some (some (.ref f_Map__mul)))
    (i_Map__mul : PySem.W.isFn K (.ref f_Map__mul) = true)
    (l_Map__mul : K.lookup f_Map__mul = some ⟨oc_Map__mul, od_Map__mul, .func (PySem.W.fnOf "__mul__" "Map.__mul__" (defArgs s_Map__mul) (defBody s_Map__mul) (defScope s_Map__mul) .none kV_Map__mul dc_Map__mul pm_Map__mul an_Map__mul cd_Map__mul ct_Map__mul), sl_Map__mul⟩)
    (c_Map__mul : PySem.W.codeIn K cd_Map__mul "Map.__mul__" = true)
    (k_Map__mul : PySem.W.keepIn K (.ref f_Map__mul) = true)
    (m_Map__invert : PySem.W.findIn K (.ref C_Map) "__invert__" = some (some (.ref f_Map__invert)))
    (i_Map__invert : PySem.W.isFn K (.ref f_Map__invert) = true)
    (l_Map__invert : K.lookup f_Map__invert = some ⟨oc_Map__invert, od_Map__invert, .func (PySem.W.fnOf "__invert__" "Map.__invert__" (defArgs s_Map__invert) (defBody s_Map__invert) (defScope s_Map__invert) .none kV_Map__invert dc_Map__invert pm_Map__invert an_Map__invert cd_Map__invert ct_Map__invert), sl_Map__invert⟩)
    (c_Map__invert : PySem.W.codeIn K cd_Map__invert "Map.__invert__" = true)
    (k_Map__invert : PySem.W.keepIn K (.ref f_Map__invert) = true)
    (m_Map_power : PySem.W.findIn K (.ref C_Map) "power" = some (some (.ref f_Map_power)))
    (i_Map_power : PySem.W.isFn K (.ref f_Map_power) = true)
    (l_Map_power : K.lookup f_Map_power = some ⟨oc_Map_power, od_Map_power, .func (PySem.W.fnOf "power" "Map.power" (defArgs s_Map_power) (defBody s_Map_power) (defScope s_Map_power) .none kV_Map_power dc_Map_power pm_Map_power an_Map_power cd_Map_power ct_Map_power), sl_Map_power⟩)
    (c_Map_power : PySem.W.codeIn K cd_Map_power "Map.power" = true)
    (k_Map_power : PySem.W.keepIn K (.ref f_Map_power) = true)
    (m_Map__and : PySem.W.findIn K (.ref C_Map) "__and__" = some (some (.ref f_Map__and)))
    (i_Map__and : PySem.W.isFn K (.ref f_Map__and) = true)
    (l_Map__and : K.lookup f_Map__and = some ⟨oc_Map__and, od_Map__and, .func (PySem.W.fnOf "__and__" "Map.__and__" (defArgs s_Map__and) (defBody s_Map__and) (defScope s_Map__and) .none kV_Map__and dc_Map__and pm_Map__and an_Map__and cd_Map__and ct_Map__and), sl_Map__and⟩)
    (c_Map__and : PySem.W.codeIn K cd_Map__and "Map.__and__" = true)
    (k_Map__and : PySem.W.keepIn K (.ref f_Map__and) = true)
    (m_Map__sub : PySem.W.findIn K (.ref C_Map) "__sub__" = some (some (.ref f_Map__sub)))
    (i_Map__sub : PySem.W.isFn K (.ref f_Map__sub) = true)
    (l_Map__sub : K.lookup f_Map__sub = some ⟨oc_Map__sub, od_Map__sub, .func (PySem.W.fnOf "__sub__" "Map.__sub__" (defArgs s_Map__sub) (defBody s_Map__sub) (defScope s_Map__sub) .none kV_Map__sub dc_Map__sub pm_Map__sub an_Map__sub cd_Map__sub ct_Map__sub), sl_Map__sub⟩)
    (c_Map__sub : PySem.W.codeIn K cd_Map__sub "Map.__sub__" = true)
    (k_Map__sub : PySem.W.keepIn K (.ref f_Map__sub) = true)
    (m_Map__or : PySem.W.findIn K (.ref C_Map) "__or__" = some (some (.ref f_Map__or)))
    (i_Map__or : PySem.W.isFn K (.ref f_Map__or) = true)
    (l_Map__or : K.lookup f_Map__or = some ⟨oc_Map__or, od_Map__or, .func (PySem.W.fnOf "__or__" "Map.__or__" (defArgs s_Map__or) (defBody s_Map__or) (defScope s_Map__or) .none kV_Map__or dc_Map__or pm_Map__or an_Map__or cd_Map__or ct_Map__or), sl_Map__or⟩)
    (c_Map__or : PySem.W.codeIn K cd_Map__or "Map.__or__" = true)
    (k_Map__or : PySem.W.keepIn K (.ref f_Map__or) = true)
    (m_Map__le : PySem.W.findIn K (.ref C_Map) "__le__" = some (some (.ref f_Map__le)))
    (i_Map__le : PySem.W.isFn K (.ref f_Map__le) = true)
    (l_Map__le : K.lookup f_Map__le = some ⟨oc_Map__le, od_Map__le, .func (PySem.W.fnOf "__le__" "Map.__le__" (defArgs s_Map__le) (defBody s_Map__le) (defScope s_Map__le) .none kV_Map__le dc_Map__le pm_Map__le an_Map__le cd_Map__le ct_Map__le), sl_Map__le⟩)
    (c_Map__le : PySem.W.codeIn K cd_Map__le "Map.__le__" = true)
    (k_Map__le : PySem.W.keepIn K (.ref f_Map__le) = true)
    (m_Map__lt : PySem.W.findIn K (.ref C_Map) "__lt__" = some (some (.ref f_Map__lt)))
    (i_Map__lt : PySem.W.isFn K (.ref f_Map__lt) = true)
    (l_Map__lt : K.lookup f_Map__lt = some ⟨oc_Map__lt, od_Map__lt, .func (PySem.W.fnOf "__lt__" "Map.__lt__" (defArgs s_Map__lt) (defBody s_Map__lt) (defScope s_Map__lt) .none kV_Map__lt dc_Map__lt pm_Map__lt an_Map__lt cd_Map__lt ct_Map__lt), sl_Map__lt⟩)
    (c_Map__lt : PySem.W.codeIn K cd_Map__lt "Map.__lt__" = true)
    (k_Map__lt : PySem.W.keepIn K (.ref f_Map__lt) = true)
    (m_Map__ge : PySem.W.findIn K (.ref C_Map) "__ge__" = some (some (.ref f_Map__ge)))
    (i_Map__ge : PySem.W.isFn K (.ref f_Map__ge) = true)
    (l_Map__ge : K.lookup f_Map__ge = some ⟨oc_Map__ge, od_Map__ge, .func (PySem.W.fnOf "__ge__" "Map.__ge__" (defArgs s_Map__ge) (defBody s_Map__ge) (defScope s_Map__ge) .none kV_Map__ge dc_Map__ge pm_Map__ge an_Map__ge cd_Map__ge ct_Map__ge), sl_Map__ge⟩)
    (c_Map__ge : PySem.W.codeIn K cd_Map__ge "Map.__ge__" = true)
    (k_Map__ge : PySem.W.keepIn K (.ref f_Map__ge) = true)
    (m_Map__eq : PySem.W.findIn K (.ref C_Map) "__eq__" = some (some (.ref f_Map__eq)))
    (i_Map__eq : PySem.W.isFn K (.ref f_Map__eq) = true)
    (l_Map__eq : K.lookup f_Map__eq = some ⟨oc_Map__eq, od_Map__eq, .func (PySem.W.fnOf "__eq__" "Map.__eq__" (defArgs s_Map__eq) (defBody s_Map__eq) (defScope s_Map__eq) .none kV_Map__eq dc_Map__eq pm_Map__eq an_Map__eq cd_Map__eq ct_Map__eq), sl_Map__eq⟩)
    (c_Map__eq : PySem.W.codeIn K cd_Map__eq "Map.__eq__" = true)
    (k_Map__eq : PySem.W.keepIn K (.ref f_Map__eq) = true)
    (z_isinstance : PySem.W.nsIn K mainGlobals "isinstance" = some none)
    (z_int : PySem.W.nsIn K mainGlobals "int" = some none)
    (z_bool : PySem.W.nsIn K mainGlobals "bool" = some none)
    (z_dict : PySem.W.nsIn K mainGlobals "dict" = some none)
    (z_len : PySem.W.nsIn K mainGlobals "len" = some none)
    (z_range : PySem.W.nsIn K mainGlobals "range" = some none)
    (z_list : PySem.W.nsIn K mainGlobals "list" = some none)
    (z_enumerate : PySem.W.nsIn K mainGlobals "enumerate" = some none)
    (z_all : PySem.W.nsIn K mainGlobals "all" = some none)
    (z_max : PySem.W.nsIn K mainGlobals "max" = some none)
    (z_min : PySem.W.nsIn K mainGlobals "min" = some none)
    (z_abs : PySem.W.nsIn K mainGlobals "abs" = some none)
    (v_MAX_SIZE : PySem.W.nsIn K mainGlobals "MAX_SIZE" = some (some (.int 300 t_MAX_SIZE))) :
    Nonempty (Txt K mg) := ⟨{
    f_is_integer := f_is_integer,
    A_is_integer := ⟨_, fun_mk (st := s_is_integer) l_is_integer c_is_integer k_is_integer, (fun_mk (st := s_is_integer) l_is_integer c_is_integer k_is_integer).binds (ps := ["value"]) fun _ _ _ _ _ _ us hl => match us, hl with | [_], _ => rfl⟩,
    g_is_integer := PySem.W.mg_of X G a_is_integer,
    f_in_range := f_in_range,
    A_in_range := ⟨_, fun_mk (st := s_in_range) l_in_range c_in_range k_in_range, (fun_mk (st := s_in_range) l_in_range c_in_range k_in_range).binds (ps := ["value", "least", "most"]) fun _ _ _ _ _ _ us hl => match us, hl with | [_, _, _], _ => rfl⟩,
    g_in_range := PySem.W.mg_of X G a_in_range,
    f_check_size := f_check_size,
    A_check_size := ⟨_, fun_mk (st := s_check_size) l_check_size c_check_size k_check_size, (fun_mk (st := s_check_size) l_check_size c_check_size k_check_size).binds (ps := ["size"]) fun _ _ _ _ _ _ us hl => match us, hl with | [_], _ => rfl⟩,
    g_check_size := PySem.W.mg_of X G a_check_size,
    f_are_arrows := f_are_arrows,
    A_are_arrows := ⟨_, fun_mk (st := s_are_arrows) l_are_arrows c_are_arrows k_are_arrows, (fun_mk (st := s_are_arrows) l_are_arrows c_are_arrows k_are_arrows).binds (ps := ["size", "arrows"]) fun _ _ _ _ _ _ us hl => match us, hl with | [_, _], _ => rfl⟩,
    g_are_arrows := PySem.W.mg_of X G a_are_arrows,
    f_common_size := f_common_size,
    A_common_size := ⟨_, fun_mk (st := s_common_size) l_common_size c_common_size k_common_size, (fun_mk (st := s_common_size) l_common_size c_common_size k_common_size).binds (ps := ["one", "other"]) fun _ _ _ _ _ _ us hl => match us, hl with | [_, _], _ => rfl⟩,
    g_common_size := PySem.W.mg_of X G a_common_size,
    f_row_from := f_row_from,
    A_row_from := ⟨_, fun_mk (st := s_row_from) l_row_from c_row_from k_row_from, (fun_mk (st := s_row_from) l_row_from c_row_from k_row_from).binds (ps := ["arrows", "element"]) fun _ _ _ _ _ _ us hl => match us, hl with | [_, _], _ => rfl⟩,
    g_row_from := PySem.W.mg_of X G a_row_from,
    f_moved := f_moved,
    A_moved := ⟨_, fun_mk (st := s_moved) l_moved c_moved k_moved, (fun_mk (st := s_moved) l_moved c_moved k_moved).binds (ps := ["arrows", "steps"]) fun _ _ _ _ _ _ us hl => match us, hl with | [_, _], _ => rfl⟩,
    g_moved := PySem.W.mg_of X G a_moved,
    f_is_part := f_is_part,
    A_is_part := ⟨_, fun_mk (st := s_is_part) l_is_part c_is_part k_is_part, (fun_mk (st := s_is_part) l_is_part c_is_part k_is_part).binds (ps := ["arrows", "others"]) fun _ _ _ _ _ _ us hl => match us, hl with | [_, _], _ => rfl⟩,
    g_is_part := PySem.W.mg_of X G a_is_part,
    f_first_clash := f_first_clash,
    A_first_clash := ⟨_, fun_mk (st := s_first_clash) l_first_clash c_first_clash k_first_clash, (fun_mk (st := s_first_clash) l_first_clash c_first_clash k_first_clash).binds (ps := ["arrows", "others"]) fun _ _ _ _ _ _ us hl => match us, hl with | [_, _], _ => rfl⟩,
    g_first_clash := PySem.W.mg_of X G a_first_clash,
    f_l_hand := f_l_hand,
    A_l_hand := ⟨_, fun_mk (st := s_l_hand) l_l_hand c_l_hand k_l_hand, (fun_mk (st := s_l_hand) l_l_hand c_l_hand k_l_hand).binds (ps := ["_law_script", "_law_k"]) fun _ _ _ _ _ _ us hl => match us, hl with | [_, _], _ => rfl⟩,
    g_l_hand := PySem.W.mg_of X G a_l_hand,
    f_l_draw := f_l_draw,
    A_l_draw := ⟨_, fun_mk (st := s_l_draw) l_l_draw c_l_draw k_l_draw, (fun_mk (st := s_l_draw) l_l_draw c_l_draw k_l_draw).binds (ps := ["_law_pool", "_law_size"]) fun _ _ _ _ _ _ us hl => match us, hl with | [_, _], _ => rfl⟩,
    g_l_draw := PySem.W.mg_of X G a_l_draw,
    f_l_arrows := f_l_arrows,
    A_l_arrows := ⟨_, fun_mk (st := s_l_arrows) l_l_arrows c_l_arrows k_l_arrows, (fun_mk (st := s_l_arrows) l_l_arrows c_l_arrows k_l_arrows).binds (ps := ["_law_pool", "_law_size", "_law_way"]) fun _ _ _ _ _ _ us hl => match us, hl with | [_, _, _], _ => rfl⟩,
    g_l_arrows := PySem.W.mg_of X G a_l_arrows,
    f_l_products := f_l_products,
    A_l_products := ⟨_, fun_mk (st := s_l_products) l_l_products c_l_products k_l_products, (fun_mk (st := s_l_products) l_l_products c_l_products k_l_products).binds (ps := ["_law_one", "_law_other", "_law_last"]) fun _ _ _ _ _ _ us hl => match us, hl with | [_, _, _], _ => rfl⟩,
    g_l_products := PySem.W.mg_of X G a_l_products,
    f_l_parts := f_l_parts,
    A_l_parts := ⟨_, fun_mk (st := s_l_parts) l_l_parts c_l_parts k_l_parts, (fun_mk (st := s_l_parts) l_l_parts c_l_parts k_l_parts).binds (ps := ["_law_one", "_law_other", "_law_last"]) fun _ _ _ _ _ _ us hl => match us, hl with | [_, _, _], _ => rfl⟩,
    g_l_parts := PySem.W.mg_of X G a_l_parts,
    f_l_powers := f_l_powers,
    A_l_powers := ⟨_, fun_mk (st := s_l_powers) l_l_powers c_l_powers k_l_powers, (fun_mk (st := s_l_powers) l_l_powers c_l_powers k_l_powers).binds (ps := ["_law_pool", "_law_one"]) fun _ _ _ _ _ _ us hl => match us, hl with | [_, _], _ => rfl⟩,
    g_l_powers := PySem.W.mg_of X G a_l_powers,
    f_law := f_law,
    A_law := ⟨_, fun_mk (st := s_law) l_law c_law k_law, (fun_mk (st := s_law) l_law c_law k_law).binds (ps := ["_law_script"]) fun _ _ _ _ _ _ us hl => match us, hl with | [_], _ => rfl⟩,
    L_law := ⟨_, fun_mk (st := s_law) l_law c_law k_law, fun s v => .of_eq rfl⟩,
    g_law := PySem.W.mg_of X G a_law,
    C_Map := C_Map,
    g_Map := PySem.W.mg_of X G a_Map,
    o_Map := ⟨⟨pg_Map, hd_Map, po_Map, sa_Map⟩, sf_Map, ca_Map, cn_Map, ct_Map, cm_Map⟩,
    kit_int_Map := kit_int_Map,
    kit_bool_Map := kit_bool_Map,
    self_Map := self_Map,
    na_own_size_Map := na_own_size_Map,
    na_own_arrows_Map := na_own_arrows_Map,
    ne_Map := ne_Map,
    f_Map__init := f_Map__init,
    A_Map__init := ⟨_, fun_mk (st := s_Map__init) l_Map__init c_Map__init k_Map__init, (fun_mk (st := s_Map__init) l_Map__init c_Map__init k_Map__init).binds (ps := ["self", "size", "arrows"]) fun _ _ _ _ _ _ us hl => match us, hl with | [_, _, _], _ => rfl⟩,
    m_Map__init := m_Map__init,
    i_Map__init := i_Map__init,
    M_Map := ⟨mk_Map, m_Map__init, i_Map__init, kc_Map⟩,
    R_Map := ⟨rd_Map, ga_Map⟩,
    p_Map_identity := p_Map_identity,
    f_Map_identity := f_Map_identity,
    A_Map_identity := ⟨_, fun_mk (st := s_Map_identity) l_Map_identity c_Map_identity k_Map_identity, (fun_mk (st := s_Map_identity) l_Map_identity c_Map_identity k_Map_identity).binds (ps := ["cls", "size"]) fun _ _ _ _ _ _ us hl => match us, hl with | [_, _], _ => rfl⟩,
    cm_Map_identity := ⟨at_Map_identity, ⟨_, rc_Map_identity⟩, fi_Map_identity⟩,
    p_Map_empty := p_Map_empty,
    f_Map_empty := f_Map_empty,
    A_Map_empty := ⟨_, fun_mk (st := s_Map_empty) l_Map_empty c_Map_empty k_Map_empty, (fun_mk (st := s_Map_empty) l_Map_empty c_Map_empty k_Map_empty).binds (ps := ["cls", "size"]) fun _ _ _ _ _ _ us hl => match us, hl with | [_, _], _ => rfl⟩,
    cm_Map_empty := ⟨at_Map_empty, ⟨_, rc_Map_empty⟩, fi_Map_empty⟩,
    p_Map_size := p_Map_size,
    f_Map_size := f_Map_size,
    A_Map_size := ⟨_, fun_mk (st := s_Map_size) l_Map_size c_Map_size k_Map_size, (fun_mk (st := s_Map_size) l_Map_size c_Map_size k_Map_size).binds (ps := ["self"]) fun _ _ _ _ _ _ us hl => match us, hl with | [_], _ => rfl⟩,
    P_Map_size := ⟨m_Map_size, s_get_Map_size, tk_Map_size, _, rc_Map_size⟩,
    p_Map_arrows := p_Map_arrows,
    f_Map_arrows := f_Map_arrows,
    A_Map_arrows := ⟨_, fun_mk (st := s_Map_arrows) l_Map_arrows c_Map_arrows k_Map_arrows, (fun_mk (st := s_Map_arrows) l_Map_arrows c_Map_arrows k_Map_arrows).binds (ps := ["self"]) fun _ _ _ _ _ _ us hl => match us, hl with | [_], _ => rfl⟩,
    P_Map_arrows := ⟨m_Map_arrows, s_get_Map_arrows, tk_Map_arrows, _, rc_Map_arrows⟩,
    f_Map__mul := f_Map__mul,
    A_Map__mul := ⟨_, fun_mk (st := s_Map__mul) l_Map__mul c_Map__mul k_Map__mul, (fun_mk (st := s_Map__mul) l_Map__mul c_Map__mul k_Map__mul).binds (ps := ["self", "other"]) fun _ _ _ _ _ _ us hl => match us, hl with | [_, _], _ => rfl⟩,
    m_Map__mul := m_Map__mul,
    i_Map__mul := i_Map__mul,
    f_Map__invert := f_Map__invert,
    A_Map__invert := ⟨_, fun_mk (st := s_Map__invert) l_Map__invert c_Map__invert k_Map__invert, (fun_mk (st := s_Map__invert) l_Map__invert c_Map__invert k_Map__invert).binds (ps := ["self"]) fun _ _ _ _ _ _ us hl => match us, hl with | [_], _ => rfl⟩,
    m_Map__invert := m_Map__invert,
    i_Map__invert := i_Map__invert,
    f_Map_power := f_Map_power,
    A_Map_power := ⟨_, fun_mk (st := s_Map_power) l_Map_power c_Map_power k_Map_power, (fun_mk (st := s_Map_power) l_Map_power c_Map_power k_Map_power).binds (ps := ["self", "exponent"]) fun _ _ _ _ _ _ us hl => match us, hl with | [_, _], _ => rfl⟩,
    m_Map_power := m_Map_power,
    i_Map_power := i_Map_power,
    meth_Map_power := ⟨m_Map_power, i_Map_power, k_Map_power⟩,
    f_Map__and := f_Map__and,
    A_Map__and := ⟨_, fun_mk (st := s_Map__and) l_Map__and c_Map__and k_Map__and, (fun_mk (st := s_Map__and) l_Map__and c_Map__and k_Map__and).binds (ps := ["self", "other"]) fun _ _ _ _ _ _ us hl => match us, hl with | [_, _], _ => rfl⟩,
    m_Map__and := m_Map__and,
    i_Map__and := i_Map__and,
    f_Map__sub := f_Map__sub,
    A_Map__sub := ⟨_, fun_mk (st := s_Map__sub) l_Map__sub c_Map__sub k_Map__sub, (fun_mk (st := s_Map__sub) l_Map__sub c_Map__sub k_Map__sub).binds (ps := ["self", "other"]) fun _ _ _ _ _ _ us hl => match us, hl with | [_, _], _ => rfl⟩,
    m_Map__sub := m_Map__sub,
    i_Map__sub := i_Map__sub,
    f_Map__or := f_Map__or,
    A_Map__or := ⟨_, fun_mk (st := s_Map__or) l_Map__or c_Map__or k_Map__or, (fun_mk (st := s_Map__or) l_Map__or c_Map__or k_Map__or).binds (ps := ["self", "other"]) fun _ _ _ _ _ _ us hl => match us, hl with | [_, _], _ => rfl⟩,
    m_Map__or := m_Map__or,
    i_Map__or := i_Map__or,
    f_Map__le := f_Map__le,
    A_Map__le := ⟨_, fun_mk (st := s_Map__le) l_Map__le c_Map__le k_Map__le, (fun_mk (st := s_Map__le) l_Map__le c_Map__le k_Map__le).binds (ps := ["self", "other"]) fun _ _ _ _ _ _ us hl => match us, hl with | [_, _], _ => rfl⟩,
    m_Map__le := m_Map__le,
    i_Map__le := i_Map__le,
    f_Map__lt := f_Map__lt,
    A_Map__lt := ⟨_, fun_mk (st := s_Map__lt) l_Map__lt c_Map__lt k_Map__lt, (fun_mk (st := s_Map__lt) l_Map__lt c_Map__lt k_Map__lt).binds (ps := ["self", "other"]) fun _ _ _ _ _ _ us hl => match us, hl with | [_, _], _ => rfl⟩,
    m_Map__lt := m_Map__lt,
    i_Map__lt := i_Map__lt,
    f_Map__ge := f_Map__ge,
    A_Map__ge := ⟨_, fun_mk (st := s_Map__ge) l_Map__ge c_Map__ge k_Map__ge, (fun_mk (st := s_Map__ge) l_Map__ge c_Map__ge k_Map__ge).binds (ps := ["self", "other"]) fun _ _ _ _ _ _ us hl => match us, hl with | [_, _], _ => rfl⟩,
    m_Map__ge := m_Map__ge,
    i_Map__ge := i_Map__ge,
    f_Map__eq := f_Map__eq,
    A_Map__eq := ⟨_, fun_mk (st := s_Map__eq) l_Map__eq c_Map__eq k_Map__eq, (fun_mk (st := s_Map__eq) l_Map__eq c_Map__eq k_Map__eq).binds (ps := ["self", "other"]) fun _ _ _ _ _ _ us hl => match us, hl with | [_, _], _ => rfl⟩,
    m_Map__eq := m_Map__eq,
    i_Map__eq := i_Map__eq,
    n_isinstance := PySem.W.mg_none_of X G z_isinstance,
    n_int := PySem.W.mg_none_of X G z_int,
    n_bool := PySem.W.mg_none_of X G z_bool,
    n_dict := PySem.W.mg_none_of X G z_dict,
    n_len := PySem.W.mg_none_of X G z_len,
    n_range := PySem.W.mg_none_of X G z_range,
    n_list := PySem.W.mg_none_of X G z_list,
    n_enumerate := PySem.W.mg_none_of X G z_enumerate,
    n_all := PySem.W.mg_none_of X G z_all,
    n_max := PySem.W.mg_none_of X G z_max,
    n_min := PySem.W.mg_none_of X G z_min,
    n_abs := PySem.W.mg_none_of X G z_abs,
    v_MAX_SIZE := ⟨_, PySem.W.mg_of X G v_MAX_SIZE⟩ }⟩
end My
namespace U
open PySem PySem.Spec PyProof.Rows L2
/-! ### heaps -/
def Off (d : Addr) (H H' : Hp) : Prop := ∀ b o, b ≠ d → H b = some o → H' b = some o
theorem Same.new {H : Hp} {p : Addr} {o : HO} (h : H p = none) : L2.Same H (upd H p o) := fun b u e => by rw [upd_ne (ne_of_none e h)]; exact e
theorem Off.tr {d : Addr} {H H1 H2 : Hp} (a : Off d H H1) (b : Off d H1 H2) : Off d H H2 := fun c o hc e => b c o hc (a c o hc e)
theorem Off.lock {d : Addr} {H : Hp} {o : HO} : Off d H (upd H d o) := fun b u hb e => by rw [upd_ne hb]; exact e
theorem Off.new {d p : Addr} {H : Hp} {o : HO} (h : H p = none) : Off d H (upd H p o) := fun b u _ e => by rw [upd_ne (ne_of_none e h)]; exact e
theorem Off.free {d p : Addr} {H H' : Hp} {u : HO} (a : Off d H H') (hd : H' d = some u) (h : H' p = none) : H p = none := by
  cases e : H p with
  | none => rfl
  | some o =>
    by_cases hp : p = d
    · subst hp; rw [hd] at h; cases h
    · rw [a p o hp e] at h; cases h
theorem Off.back {d : Addr} {H H' : Hp} {u : HO} (a : Off d H H') (hd : H d = some u) : L2.Same H (upd H' d u) := fun b o e => by
  by_cases hb : b = d
  · subst hb; rw [hd] at e; cases e; exact upd_same
  · rw [upd_ne hb]; exact a b o hb e
/-- an object of the heap behind, that was not there ahead, may be changed -/
theorem Off.mut {d p : Addr} {H H' : Hp} {o : HO} (a : Off d H H') (h : H p = none) : Off d H (upd H' p o) := fun b u hb e => by rw [upd_ne (ne_of_none e h)]; exact a b u hb e
/-! ### a dict of ints -/
def kvI (l : List (Int × Int)) : List (Key × V) := l.map fun p => (Sum.inl p.1, V.int p.2)
theorem kvI_length (l : List (Int × Int)) : (kvI l).length = l.length := by simp [kvI]
theorem kvI_get {l : List (Int × Int)} {i : Nat} {k : Key} {v : V} (h : (kvI l)[i]? = some (k, v)) : ∃ x y, l[i]? = some (x, y) ∧ k = .inl x ∧ v = .int y := by
  unfold kvI at h
  rw [List.getElem?_map] at h
  cases e : l[i]? with
  | none => rw [e] at h; cases h
  | some p =>
    rw [e] at h
    obtain ⟨x, y⟩ := p
    cases h
    exact ⟨x, y, rfl, rfl, rfl⟩
def lk (l : List (Int × Int)) (x : Int) : Option Int := (l.find? fun p => decide (p.1 = x)).map (·.2)
theorem valV_kvI (l : List (Int × Int)) (x : Int) : valV (kvI l) (Sum.inl x : Key) = (lk l x).map V.int := by
  induction l with
  | nil => rfl
  | cons p r ih =>
    obtain ⟨a, b⟩ := p
    by_cases h : a = x
    · subst h
      rw [show kvI ((a, b) :: r) = (Sum.inl a, V.int b) :: kvI r from rfl, valV_pos rfl]
      simp [lk]
    · rw [show kvI ((a, b) :: r) = (Sum.inl a, V.int b) :: kvI r from rfl, valV_neg (fun z => h (Sum.inl.inj z)), ih]
      simp [lk, h]
theorem lk_none {l : List (Int × Int)} {x : Int} (h : x ∉ l.map (·.1)) : lk l x = none := by
  unfold lk
  rw [List.find?_eq_none.mpr]
  · rfl
  · intro p hp
    simp only [decide_eq_true_eq]
    exact fun e => h (List.mem_map.mpr ⟨p, hp, e⟩)
theorem lk_some {l : List (Int × Int)} (nd : (l.map (·.1)).Nodup) {x y : Int} (h : (x, y) ∈ l) : lk l x = some y := by
  induction l with
  | nil => cases h
  | cons p r ih =>
    obtain ⟨a, b⟩ := p
    rw [List.map_cons, List.nodup_cons] at nd
    rcases List.mem_cons.mp h with h | h
    · cases h; simp [lk]
    · have ne : ¬ a = x := fun z => nd.1 (by rw [z]; exact List.mem_map.mpr ⟨(x, y), h, rfl⟩)
      have := ih nd.2 h
      simpa [lk, ne] using this
theorem lk_mem {l : List (Int × Int)} {x y : Int} (h : lk l x = some y) : (x, y) ∈ l := by
  unfold lk at h
  cases e : l.find? (fun p => decide (p.1 = x)) with
  | none => rw [e] at h; cases h
  | some p =>
    rw [e] at h
    obtain ⟨a, b⟩ := p
    have h1 := List.find?_some e
    simp only [decide_eq_true_eq] at h1
    have h2 : b = y := Option.some.inj h
    subst h1 h2
    exact List.mem_of_find?_eq_some e
theorem intVals_kvI (l : List (Int × Int)) : IntVals (kvI l) := by
  intro p hp
  unfold kvI at hp
  obtain ⟨q, _, rfl⟩ := List.mem_map.mp hp
  exact ⟨q.2, rfl⟩
theorem putK_kvI {l : List (Int × Int)} {x y : Int} (h : x ∉ l.map (·.1)) : putK (kvI l) (Sum.inl x : Key) (V.int y) = kvI (l ++ [(x, y)]) := by
  have e : valV (kvI l) (Sum.inl x : Key) = none := by rw [valV_kvI, lk_none h]; rfl
  rw [putK_new _ e]
  simp [kvI]
theorem lk_append {l r : List (Int × Int)} {x : Int} : lk (l ++ r) x = (lk l x).or (lk r x) := by
  unfold lk
  rw [List.find?_append]
  cases l.find? (fun p => decide (p.1 = x)) <;> rfl
theorem lk_cons (a b : Int) (r : List (Int × Int)) (z : Int) : lk ((a, b) :: r) z = if a = z then some b else lk r z := by
  by_cases h : a = z <;> simp [lk, h]
theorem lk_mapOff (r : List (Int × Int)) (x y z : Int) (hz : ¬ z = x) : lk (r.map fun p => if p.1 = x then (p.1, y) else p) z = lk r z := by
  induction r with
  | nil => rfl
  | cons p r ih =>
    obtain ⟨a, b⟩ := p
    rw [List.map_cons]
    by_cases ha : a = x
    · subst ha
      have hz' : ¬ a = z := fun q => hz q.symm
      rw [if_pos rfl, lk_cons, lk_cons, if_neg hz', if_neg hz', ih]
    · rw [if_neg ha, lk_cons, lk_cons, ih]
theorem lk_mapPut {x y : Int} : ∀ (l : List (Int × Int)), x ∈ l.map (·.1) → ∀ z, lk (l.map fun p => if p.1 = x then (p.1, y) else p) z = if z = x then some y else lk l z
  | [], h, z => by cases h
  | (a, b) :: r, h, z => by
    by_cases hz : z = x
    · subst hz
      rw [if_pos rfl, List.map_cons]
      by_cases ha : a = z
      · subst ha
        rw [if_pos rfl, lk_cons, if_pos rfl]
      · rw [if_neg ha, lk_cons, if_neg ha]
        have h' : z ∈ r.map (·.1) := by
          rcases List.mem_cons.mp h with q | q
          · exact absurd q.symm ha
          · exact q
        rw [lk_mapPut r h' z, if_pos rfl]
    · rw [if_neg hz, lk_mapOff _ _ _ _ hz]
theorem putK_lk {l : List (Int × Int)} {x y : Int} : ∃ l', putK (kvI l) (Sum.inl x : Key) (V.int y) = kvI l' ∧ l'.length ≤ l.length + 1 ∧ ((l.map (·.1)).Nodup → (l'.map (·.1)).Nodup) ∧ ∀ z, lk l' z = if z = x then some y else lk l z := by
  by_cases h : x ∈ l.map (·.1)
  · refine ⟨l.map fun p => if p.1 = x then (p.1, y) else p, ?_, by simp, fun nd => ?_, fun z => ?_⟩
    · unfold putK
      rw [if_pos (by
        obtain ⟨p, hp, e⟩ := List.mem_map.mp h
        rw [List.any_eq_true]
        exact ⟨(Sum.inl p.1, V.int p.2), List.mem_map.mpr ⟨p, hp, rfl⟩, by simp [e]⟩)]
      unfold kvI
      rw [List.map_map, List.map_map]
      refine List.map_congr_left fun p _ => ?_
      by_cases e : p.1 = x
      · simp [e]
      · have e' : ¬ (Sum.inl p.1 : Key) = Sum.inl x := fun q => e (Sum.inl.inj q)
        simp [e]
    · have e : (l.map fun p => if p.1 = x then (p.1, y) else p).map (·.1) = l.map (·.1) := by
        rw [List.map_map]
        refine List.map_congr_left fun p _ => ?_
        by_cases e : p.1 = x <;> simp [e]
      rw [e]; exact nd
    · exact lk_mapPut l h z
  · refine ⟨l ++ [(x, y)], putK_kvI h, by simp, fun nd => ?_, fun z => ?_⟩
    · rw [List.map_append, List.nodup_append]
      refine ⟨nd, by simp, fun a ha b hb e => ?_⟩
      simp at hb
      subst hb
      exact h (e ▸ ha)
    · rw [lk_append]
      by_cases hz : z = x
      · subst hz; rw [lk_none h]; simp [lk]
      · have hz' : ¬ x = z := fun q => hz q.symm
        cases lk l z <;> simp [lk, hz, hz']
end U
namespace U
open PySem PySem.Spec PyProof.Rows L2
section
variable {J : It} {n : Nat} {G : Hp → Prop} {Y : Nat → Hp → V → Hp → Prop}
/-- a dict comprehension over a walk -/
theorem dc_it (w : Walk J n G Y) {g : TG} {tt : TT} {tk tv : TE} {vs : List Nat} {σ : L2.St} {H1 : Hp} {D : Addr} {Qd : Hp → Prop} (Pv : Nat → Hp → Prop) (h0 : Pv 0 (upd H1 D (.dK []))) (hG : ∀ i H, i ≤ n → Pv i H → G H)
    (hs : ∀ i x H H', i < n → Pv i H → Y i H x H' → g x (wipe σ vs) H' fun σ2 H2 => wipe σ2 vs = wipe σ vs ∧ tt σ2 H2 fun b H3 =>
      if b = true then tk σ2 H3 fun y H4 => tv σ2 H4 fun z H5 => ∃ kvs k, y = kV k ∧ H5 D = some (.dK kvs) ∧ kvs.length < sizeLine ∧ Pv (i + 1) (upd H5 D (.dK (putK kvs k z))) else Pv (i + 1) H3) (hd : ∀ H, Pv n H → Qd H) :
    ∃ W : Nat → Nat → Hp → Prop, (∃ m, W 0 m (upd H1 D (.dK []))) ∧ ∀ i m H, W i m H →
      (J.stop i H ∧ Qd H) ∨ (J.go i H ∧ ∃ Nx : Hp → Prop, (∀ H', Nx H' → ∃ m', m' < m ∧ W (i + 1) m' H') ∧ ∀ x H', J.yld i H x H' → g x (wipe σ vs) H' fun σ2 H2 => wipe σ2 vs = wipe σ vs ∧ tt σ2 H2 fun b H3 =>
        if b = true then tk σ2 H3 fun y H4 => tv σ2 H4 fun z H5 => ∃ kvs k, y = kV k ∧ H5 D = some (.dK kvs) ∧ kvs.length < sizeLine ∧ Nx (upd H5 D (.dK (putK kvs k z))) else Nx H3) := by
  refine ⟨fun i m H => m = n - i ∧ i ≤ n ∧ Pv i H, ⟨n, by simp, Nat.zero_le _, h0⟩, ?_⟩
  rintro i m H ⟨rfl, hi, p⟩
  have q := hG i H hi p
  by_cases hlt : i < n
  · exact .inr ⟨w.goes i H hlt q, Pv (i + 1), fun H' p' => ⟨n - (i + 1), by omega, rfl, hlt, p'⟩, fun x H' y => hs i x H H' hlt p (w.yields i H x H' hlt q y)⟩
  · have e : i = n := by omega
    subst e
    exact .inl ⟨w.stops H q, hd H p⟩
end
/-- what a comprehension over pairs makes -/
def madeD (c : Int → Int → Bool) (kf : Int → Int → Int) (vf : Int → Int → V) (l : List (Int × Int)) : List (Key × V) := (l.filter fun p => c p.1 p.2).map fun p => (Sum.inl (kf p.1 p.2), vf p.1 p.2)
theorem take_more {α : Type} {l : List α} {i : Nat} {x : α} (h : l[i]? = some x) : l.take (i + 1) = l.take i ++ [x] := by
  rw [List.take_add_one, h]; rfl
theorem valV_none {kvs : List (Key × V)} {k : Key} (h : k ∉ kvs.map (·.1)) : valV kvs k = none := by
  unfold valV
  rw [List.find?_eq_none.mpr]
  · rfl
  · intro p hp
    simp only [decide_eq_true_eq]
    exact fun e => h (List.mem_map.mpr ⟨p, hp, e⟩)
theorem madeD_step {c : Int → Int → Bool} {kf : Int → Int → Int} {vf : Int → Int → V} {l : List (Int × Int)} {i : Nat} {x y : Int} (h : l[i]? = some (x, y)) (nd : ((madeD c kf vf l).map (·.1)).Nodup) (hc : c x y = true) :
    putK (madeD c kf vf (l.take i)) (Sum.inl (kf x y)) (vf x y) = madeD c kf vf (l.take (i + 1)) := by
  have e : madeD c kf vf (l.take (i + 1)) = madeD c kf vf (l.take i) ++ [(Sum.inl (kf x y), vf x y)] := by
    rw [take_more h]
    unfold madeD
    rw [List.filter_append, List.map_append]
    simp [hc]
  have e2 : madeD c kf vf l = madeD c kf vf (l.take (i + 1)) ++ madeD c kf vf (l.drop (i + 1)) := by
    unfold madeD
    rw [← List.map_append, ← List.filter_append, List.take_append_drop]
  rw [e2, e, List.map_append, List.map_append] at nd
  have nd1 := (List.nodup_append.mp nd).1
  have nin : (Sum.inl (kf x y) : Key) ∉ (madeD c kf vf (l.take i)).map (·.1) := by
    intro hm
    exact (List.nodup_append.mp nd1).2.2 _ hm _ (by simp) rfl
  rw [putK_new _ (valV_none nin), e]
theorem madeD_skip {c : Int → Int → Bool} {kf : Int → Int → Int} {vf : Int → Int → V} {l : List (Int × Int)} {i : Nat} {x y : Int} (h : l[i]? = some (x, y)) (hc : c x y = false) :
    madeD c kf vf (l.take (i + 1)) = madeD c kf vf (l.take i) := by
  rw [take_more h]
  unfold madeD
  rw [List.filter_append, List.map_append]
  simp [hc]
theorem madeD_len (c : Int → Int → Bool) (kf : Int → Int → Int) (vf : Int → Int → V) (l : List (Int × Int)) (i : Nat) : (madeD c kf vf (l.take i)).length ≤ l.length := by
  unfold madeD
  rw [List.length_map]
  exact Nat.le_trans (List.length_filter_le _ _) (by rw [List.length_take]; omega)
/-- {k: v for x, y in d.items() if ..}, the tests and parts reading alone -/
theorem dc_items {K : PySem.W.Frag} {d : Addr} {l : List (Int × Int)} {te : TE} {i j : Nat} {tt : TT} {tk tv : TE} {vs : List Nat} {σ : L2.St} {H : Hp} {Q : VK} (c : Int → Int → Bool) (kf : Int → Int → Int) (vf : Int → Int → V)
    (hd : H d = some (.dK (kvI l))) (hte : ∀ H' (R : VK), R (.ref d) H' → Off d H H' → te σ H' R)
    (hw : ∀ a b, wipe (((wipe σ vs).set i a).set j b) vs = wipe σ vs)
    (hb : ∀ x y, (x, y) ∈ l → ∀ H1, Off d H H1 → (∀ R : Bool → Hp → Prop, R (c x y) H1 → tt (((wipe σ vs).set i (some (.int x))).set j (some (.int y))) H1 R) ∧
      (c x y = true → (∀ R : VK, R (.int (kf x y)) H1 → tk (((wipe σ vs).set i (some (.int x))).set j (some (.int y))) H1 R) ∧ ∀ R : VK, R (vf x y) H1 → tv (((wipe σ vs).set i (some (.int x))).set j (some (.int y))) H1 R))
    (nd : ((madeD c kf vf l).map (·.1)).Nodup) (hz : l.length < sizeLine)
    (hq : ∀ D H', H D = none → H' D = some (.dK (madeD c kf vf l)) → L2.Same H H' → Q (.ref D) H') :
    tLockE (tDc (iItems te) (gTup K 2 (gCons (gName i) (gCons (gName j) gNil))) tt tk tv vs) σ H Q := by
  refine ⟨d, _, hd, trivial, fun od => ?_⟩
  refine hte _ _ ⟨d, od, kvI l, rfl, upd_same, fun D hD => ?_⟩ Off.lock
  have hDd : D ≠ d := fun e => by rw [e, upd_same] at hD; cases hD
  have hD0 : H D = none := by rw [upd_ne hDd] at hD; exact hD
  refine dc_it walk_items (fun k H' => H' d = some (.frz od (.dK (kvI l))) ∧ Off d H H' ∧ H' D = some (.dK (madeD c kf vf (l.take k)))) ⟨?_, Off.lock.mut hD0, upd_same⟩ (fun k H' _ p => p.1) ?_ ?_
  · rw [upd_ne hDd.symm]; exact upd_same
  · rintro k v H' H'' hk ⟨p1, p2, p3⟩ ⟨T, a, b, rfl, hT, rfl, e1, e2⟩
    rw [kvI_length] at hk
    obtain ⟨⟨x, y⟩, exy⟩ : ∃ p, l[k]? = some p := ⟨_, List.getElem?_eq_getElem hk⟩
    have ek : (kvI l)[k]? = some (Sum.inl x, V.int y) := by unfold kvI; rw [List.getElem?_map, exy]; rfl
    dsimp only at e1 e2
    rw [ek] at e1 e2
    cases e1; cases e2
    have nTd : d ≠ T := ne_of_none p1 hT
    have nTD : D ≠ T := ne_of_none p3 hT
    refine ⟨T, [.int x, .int y], rfl, SqT.of upd_same, rfl, .int x, [.int y], rfl, .int y, [], rfl, rfl, ?_⟩
    refine ⟨hw _ _, ?_⟩
    have o2 : Off d H (upd H' T (.tup [.int x, .int y])) := p2.tr (Off.new hT)
    obtain ⟨b1, b2⟩ := hb x y (List.mem_of_getElem? exy) _ o2
    refine b1 _ ?_
    have d3 : (upd H' T (.tup [.int x, .int y])) d = some (.frz od (.dK (kvI l))) := by rw [upd_ne nTd]; exact p1
    have D3 : (upd H' T (.tup [.int x, .int y])) D = some (.dK (madeD c kf vf (l.take k))) := by rw [upd_ne nTD]; exact p3
    cases hc : c x y with
    | true =>
      refine iteT ?_
      obtain ⟨b3, b4⟩ := b2 hc
      refine b3 _ (b4 _ ⟨_, Sum.inl (kf x y), rfl, D3, Nat.lt_of_le_of_lt (madeD_len ..) hz, ?_⟩)
      refine ⟨?_, o2.mut hD0, ?_⟩
      · rw [upd_ne hDd.symm]; exact d3
      · rw [upd_same, madeD_step exy nd hc]
    | false =>
      refine iteF ⟨d3, o2, ?_⟩
      rw [madeD_skip exy hc]
      exact D3
  · rintro H' ⟨p1, p2, p3⟩
    rw [kvI_length, List.take_length] at p3
    refine ⟨p1, hq D _ hD0 ?_ (p2.back hd)⟩
    rw [upd_ne hDd]
    exact p3

/-- {k: v for x in range(lo, ..) if ..} -/
def madeR (c : Int → Bool) (kf : Int → Int) (vf : Int → V) (n : Nat) : List (Key × V) := ((List.range n).filter fun (i : Nat) => c (i : Int)).map fun (i : Nat) => ((Sum.inl (kf (i : Int)) : Key), vf (i : Int))
theorem madeR_succ (c : Int → Bool) (kf : Int → Int) (vf : Int → V) (n : Nat) : madeR c kf vf (n + 1) = madeR c kf vf n ++ (if c (n : Int) = true then [((Sum.inl (kf (n : Int)) : Key), vf (n : Int))] else []) := by
  unfold madeR
  rw [List.range_succ, List.filter_append, List.map_append]
  by_cases h : c (n : Int) = true
  · simp [h]
  · have h' : c (n : Int) = false := by simpa using h
    simp [h']
theorem madeR_len (c : Int → Bool) (kf : Int → Int) (vf : Int → V) (n : Nat) : (madeR c kf vf n).length ≤ n := by
  unfold madeR
  rw [List.length_map]
  exact Nat.le_trans (List.length_filter_le _ _) (by simp)
theorem madeR_keys {c : Int → Bool} {vf : Int → V} {n k : Nat} (h : (Sum.inl (k : Int) : Key) ∈ (madeR c (fun x => x) vf n).map (·.1)) : k < n := by
  unfold madeR at h
  rw [List.map_map] at h
  obtain ⟨i, hi, e⟩ := List.mem_map.mp h
  have h1 := (List.mem_filter.mp hi).1
  rw [List.mem_range] at h1
  have : (i : Int) = (k : Int) := Sum.inl.inj e
  omega
theorem dc_range {wi : TI} {i : Nat} {tt : TT} {tk tv : TE} {vs : List Nat} {σ : L2.St} {H0 H : Hp} {Q : VK} {n : Nat} (c : Int → Bool) (vf : Int → V) (hwi : ∀ R : It → Hp → Prop, R (Itr 0 n) H → wi σ H0 R)
    (hw : ∀ a, wipe ((wipe σ vs).set i a) vs = wipe σ vs)
    (hb : ∀ k : Nat, k < n → ∀ H1, L2.Same H H1 → (∀ R : Bool → Hp → Prop, R (c (k : Int)) H1 → tt ((wipe σ vs).set i (some (.int (0 + (k : Nat))))) H1 R) ∧
      (c (k : Int) = true → (∀ R : VK, R (.int (k : Int)) H1 → tk ((wipe σ vs).set i (some (.int (0 + (k : Nat))))) H1 R) ∧ ∀ R : VK, R (vf (k : Int)) H1 → tv ((wipe σ vs).set i (some (.int (0 + (k : Nat))))) H1 R))
    (hz : n < sizeLine) (hq : ∀ D H', H D = none → H' D = some (.dK (madeR c (fun x => x) vf n)) → L2.Same H H' → Q (.ref D) H') :
    tDc wi (gName i) tt tk tv vs σ H0 Q := by
  refine hwi _ ?_
  intro D hD
  refine dc_it walk_range (fun k H' => L2.Same H H' ∧ H' D = some (.dK (madeR c (fun x => x) vf k))) ⟨Same.new hD, upd_same⟩ (fun _ _ _ _ => trivial) ?_ ?_
  · rintro k v H' H'' hk ⟨p1, p2⟩ ⟨rfl, rfl⟩
    refine ⟨hw _, ?_⟩
    obtain ⟨b1, b2⟩ := hb k hk _ p1
    refine b1 _ ?_
    cases hc : c (k : Int) with
    | true =>
      refine iteT ?_
      obtain ⟨b3, b4⟩ := b2 hc
      refine b3 _ (b4 _ ⟨_, Sum.inl (k : Int), rfl, p2, Nat.lt_of_le_of_lt (madeR_len ..) (Nat.lt_trans hk hz), ?_, ?_⟩)
      · intro b o e
        rw [upd_ne (ne_of_none e hD)]
        exact p1 b o e
      · rw [upd_same, putK_new _ (valV_none fun z => Nat.lt_irrefl _ (madeR_keys z)), madeR_succ, if_pos hc]
    | false =>
      refine iteF ⟨p1, ?_⟩
      rw [madeR_succ, hc, p2]
      simp
  · rintro H' ⟨p1, p2⟩
    exact hq D _ hD p2 p1
end U
namespace PM
open U
/-! ### one-to-one maps between parts of 0 .. n - 1 -/
abbrev PF := Int → Option Int
structure WF (n : Int) (f : PF) : Prop where
  dom : ∀ x y, f x = some y → 0 ≤ x ∧ x < n ∧ 0 ≤ y ∧ y < n
  inj : ∀ x x' y, f x = some y → f x' = some y → x = x'
def tabN (f : PF) (n : Nat) : List (Int × Int) := (List.range n).filterMap fun (i : Nat) => (f (i : Int)).map fun y => ((i : Int), y)
def tab (n : Int) (f : PF) : List (Int × Int) := tabN f n.toNat
theorem mem_tabN {f : PF} {n : Nat} {x y : Int} : (x, y) ∈ tabN f n ↔ f x = some y ∧ ∃ i : Nat, i < n ∧ x = (i : Int) := by
  unfold tabN
  rw [List.mem_filterMap]
  constructor
  · rintro ⟨i, hi, e⟩
    rw [List.mem_range] at hi
    cases h : f (i : Int) with
    | none => rw [h] at e; cases e
    | some z => rw [h] at e; cases e; exact ⟨h, i, hi, rfl⟩
  · rintro ⟨h, i, hi, rfl⟩
    exact ⟨i, List.mem_range.mpr hi, by rw [h]; rfl⟩
theorem mem_tab {n : Int} {f : PF} (w : WF n f) {x y : Int} : (x, y) ∈ tab n f ↔ f x = some y := by
  unfold tab
  rw [mem_tabN]
  constructor
  · exact fun h => h.1
  · intro h
    have := w.dom x y h
    exact ⟨h, x.toNat, by omega, by omega⟩
theorem keys_tabN (f : PF) (n : Nat) : ((tabN f n).map (·.1)).Nodup := by
  induction n with
  | zero => exact List.nodup_nil
  | succ n ih =>
    have e : tabN f (n + 1) = tabN f n ++ ((f (n : Int)).map fun y => ((n : Int), y)).toList := by
      unfold tabN
      rw [List.range_succ, List.filterMap_append]
      cases h : f (n : Int) <;> simp [h]
    rw [e, List.map_append, List.nodup_append]
    refine ⟨ih, ?_, ?_⟩
    · cases f (n : Int) <;> simp
    · intro a ha b hb e
      subst e
      obtain ⟨p, hp, rfl⟩ := List.mem_map.mp ha
      obtain ⟨x, y⟩ := p
      obtain ⟨_, i, hi, ex⟩ := mem_tabN.mp hp
      cases h : f (n : Int) with
      | none => rw [h] at hb; simp at hb
      | some z =>
        rw [h] at hb
        simp at hb
        omega
theorem keys_tab (n : Int) (f : PF) : ((tab n f).map (·.1)).Nodup := keys_tabN f _
theorem lk_tab {n : Int} {f : PF} (w : WF n f) (x : Int) : lk (tab n f) x = f x := by
  cases h : f x with
  | some y => exact lk_some (keys_tab n f) ((mem_tab w).mpr h)
  | none =>
    cases e : lk (tab n f) x with
    | none => rfl
    | some y =>
      have := (mem_tab w).mp (lk_mem e)
      rw [h] at this; cases this
theorem tab_len (n : Int) (f : PF) : (tab n f).length ≤ n.toNat := by
  unfold tab tabN
  exact Nat.le_trans (List.length_filterMap_le _ _) (by simp)
theorem vals_tab {n : Int} {f : PF} (w : WF n f) : ((tab n f).map (·.2)).Nodup := by
  have k := keys_tab n f
  have key : ∀ l : List (Int × Int), (∀ p ∈ l, f p.1 = some p.2) → (l.map (·.1)).Nodup → (l.map (·.2)).Nodup := by
    intro l
    induction l with
    | nil => intro _ _; exact List.nodup_nil
    | cons p r ih =>
      intro h nd
      rw [List.map_cons, List.nodup_cons] at nd ⊢
      refine ⟨fun hm => ?_, ih (fun q hq => h q (List.mem_cons_of_mem _ hq)) nd.2⟩
      obtain ⟨q, hq, e⟩ := List.mem_map.mp hm
      have h1 := h p List.mem_cons_self
      have h2 := h q (List.mem_cons_of_mem _ hq)
      rw [e] at h2
      have := w.inj _ _ _ h1 h2
      exact nd.1 (by rw [this]; exact List.mem_map.mpr ⟨q, hq, rfl⟩)
  exact key _ (fun p hp => (mem_tab w).mp hp) k
theorem tab_inj {n : Int} {f g : PF} (wf : WF n f) (wg : WF n g) (h : tab n f = tab n g) : f = g := by
  funext x
  rw [← lk_tab wf, ← lk_tab wg, h]
/-! ### the operations -/
def mul (f g : PF) : PF := fun x => (f x).bind g
def idn (n : Int) : PF := fun x => if 0 ≤ x ∧ x < n then some x else none
def emp : PF := fun _ => none
def andf (f g : PF) : PF := fun x => if f x = g x then f x else none
def subf (f g : PF) : PF := fun x => if f x = g x then none else f x
def orf (f g : PF) : PF := fun x => (f x).or (g x)
def inv (n : Int) (f : PF) : PF := fun y => ((tab n f).find? fun p => decide (p.2 = y)).map (·.1)
def le (f g : PF) : Prop := ∀ x y, f x = some y → g x = some y
def Clash (f g : PF) : Prop := ∃ x y x' y', f x = some y ∧ g x' = some y' ∧ ¬ ((x = x') ↔ (y = y'))
theorem wf_mul {n : Int} {f g : PF} (wf : WF n f) (wg : WF n g) : WF n (mul f g) := by
  refine ⟨fun x y h => ?_, fun x x' y h h' => ?_⟩
  · unfold mul at h
    cases e : f x with
    | none => rw [e] at h; cases h
    | some z =>
      rw [e] at h
      have h1 := wf.dom x z e
      have h2 := wg.dom z y h
      omega
  · unfold mul at h h'
    cases e : f x with
    | none => rw [e] at h; cases h
    | some z =>
      cases e' : f x' with
      | none => rw [e'] at h'; cases h'
      | some z' =>
        rw [e] at h; rw [e'] at h'
        have := wg.inj z z' y h h'
        subst this
        exact wf.inj _ _ _ e e'
theorem wf_idn (n : Int) : WF n (idn n) := by
  refine ⟨fun x y h => ?_, fun x x' y h h' => ?_⟩
  · unfold idn at h
    split at h
    · cases h; omega
    · cases h
  · unfold idn at h h'
    split at h
    · split at h'
      · cases h; cases h'; rfl
      · cases h'
    · cases h
theorem wf_emp (n : Int) : WF n emp := ⟨fun _ _ h => (nomatch h), fun _ _ _ h => (nomatch h)⟩
theorem wf_le {n : Int} {f g : PF} (wg : WF n g) (h : le f g) : WF n f := ⟨fun x y e => wg.dom x y (h x y e), fun x x' y e e' => wg.inj _ _ _ (h _ _ e) (h _ _ e')⟩
theorem le_and1 (f g : PF) : le (andf f g) f := by
  intro x y h
  unfold andf at h
  split at h
  · exact h
  · cases h
theorem le_and2 (f g : PF) : le (andf f g) g := by
  intro x y h
  unfold andf at h
  split at h
  · rename_i e; rw [← e]; exact h
  · cases h
theorem le_sub (f g : PF) : le (subf f g) f := by
  intro x y h
  unfold subf at h
  split at h
  · cases h
  · exact h
theorem wf_and {n : Int} {f g : PF} (wf : WF n f) : WF n (andf f g) := wf_le wf (le_and1 f g)
theorem wf_sub {n : Int} {f g : PF} (wf : WF n f) : WF n (subf f g) := wf_le wf (le_sub f g)
theorem inv_iff {n : Int} {f : PF} (w : WF n f) {x y : Int} : inv n f y = some x ↔ f x = some y := by
  unfold inv
  constructor
  · intro h
    cases e : (tab n f).find? (fun p => decide (p.2 = y)) with
    | none => rw [e] at h; cases h
    | some p =>
      rw [e] at h
      obtain ⟨a, b⟩ := p
      have h1 := List.find?_some e
      simp only [decide_eq_true_eq] at h1
      have h2 : a = x := Option.some.inj h
      subst h1 h2
      exact (mem_tab w).mp (List.mem_of_find?_eq_some e)
  · intro h
    have hm := (mem_tab w).mpr h
    cases e : (tab n f).find? (fun p => decide (p.2 = y)) with
    | none =>
      have := List.find?_eq_none.mp e _ hm
      simp at this
    | some p =>
      obtain ⟨a, b⟩ := p
      have h1 := List.find?_some e
      simp only [decide_eq_true_eq] at h1
      subst h1
      have h3 := (mem_tab w).mp (List.mem_of_find?_eq_some e)
      show some a = some x
      rw [w.inj _ _ _ h3 h]
theorem wf_inv {n : Int} {f : PF} (w : WF n f) : WF n (inv n f) := by
  refine ⟨fun y x h => ?_, fun y y' x h h' => ?_⟩
  · have := w.dom x y ((inv_iff w).mp h)
    omega
  · have h1 := (inv_iff w).mp h
    have h2 := (inv_iff w).mp h'
    rw [h1] at h2
    exact Option.some.inj h2
theorem wf_or {n : Int} {f g : PF} (wf : WF n f) (wg : WF n g) (nc : ¬ Clash f g) : WF n (orf f g) := by
  refine ⟨fun x y h => ?_, fun x x' y h h' => ?_⟩
  · unfold orf at h
    cases e : f x with
    | none => rw [e] at h; exact wg.dom x y h
    | some z => rw [e] at h; cases h; exact wf.dom _ _ e
  · unfold orf at h h'
    cases e : f x with
    | none =>
      rw [e] at h
      cases e' : f x' with
      | none => rw [e'] at h'; exact wg.inj _ _ _ h h'
      | some z =>
        rw [e'] at h'
        cases h'
        exact Classical.byContradiction fun ne => nc ⟨x', y, x, y, e', h, fun i => ne (i.mpr rfl).symm⟩
    | some z =>
      rw [e] at h
      cases h
      cases e' : f x' with
      | none =>
        rw [e'] at h'
        exact Classical.byContradiction fun ne => nc ⟨x, y, x', y, e, h', fun i => ne (i.mpr rfl)⟩
      | some z =>
        rw [e'] at h'
        cases h'
        exact wf.inj _ _ _ e e'
/-- a dict of pairs tells f -/
structure DI (l : List (Int × Int)) (f : PF) : Prop where
  nd : (l.map (·.1)).Nodup
  at_ : ∀ x, lk l x = f x
theorem DI.mem {l : List (Int × Int)} {f : PF} (d : DI l f) {x y : Int} : (x, y) ∈ l ↔ f x = some y := by
  rw [← d.at_]
  exact ⟨lk_some d.nd, lk_mem⟩
theorem di_tab {n : Int} {f : PF} (w : WF n f) : DI (tab n f) f := ⟨keys_tab n f, lk_tab w⟩
theorem DI.vals {n : Int} {l : List (Int × Int)} {f : PF} (d : DI l f) (w : WF n f) : (l.map (·.2)).Nodup := by
  obtain ⟨nd, _⟩ := id d
  have key : ∀ r : List (Int × Int), (∀ p ∈ r, f p.1 = some p.2) → (r.map (·.1)).Nodup → (r.map (·.2)).Nodup := by
    intro r
    induction r with
    | nil => intro _ _; exact List.nodup_nil
    | cons p r ih =>
      intro h nd
      rw [List.map_cons, List.nodup_cons] at nd ⊢
      refine ⟨fun hm => ?_, ih (fun q hq => h q (List.mem_cons_of_mem _ hq)) nd.2⟩
      obtain ⟨q, hq, e⟩ := List.mem_map.mp hm
      have h1 := h p List.mem_cons_self
      have h2 := h q (List.mem_cons_of_mem _ hq)
      rw [e] at h2
      have := w.inj _ _ _ h1 h2
      exact nd.1 (by rw [this]; exact List.mem_map.mpr ⟨q, hq, rfl⟩)
  exact key l (fun p hp => d.mem.mp hp) nd
theorem di_of {l : List (Int × Int)} {f : PF} (nd : (l.map (·.1)).Nodup) (h : ∀ x y, (x, y) ∈ l ↔ f x = some y) : DI l f := by
  refine ⟨nd, fun x => ?_⟩
  cases e : f x with
  | some y => exact lk_some nd ((h x y).mpr e)
  | none =>
    cases e2 : lk l x with
    | none => rfl
    | some y =>
      have := (h x y).mp (lk_mem e2)
      rw [e] at this; cases this
end PM
namespace PM
open U
/-! ### powers -/
def iter (f : PF) : Nat → PF
  | 0 => fun x => some x
  | k + 1 => fun x => (iter f k x).bind f
theorem iter_add (f : PF) (a b : Nat) (x : Int) : iter f (a + b) x = (iter f a x).bind (iter f b) := by
  induction b with
  | zero => simp [iter]
  | succ b ih =>
    show (iter f (a + b) x).bind f = _
    rw [ih]
    cases iter f a x <;> rfl
theorem iter_one (f : PF) : iter f 1 = f := rfl
theorem iter_head (f : PF) (k : Nat) (x : Int) : iter f (k + 1) x = (f x).bind (iter f k) := by
  rw [Nat.add_comm, iter_add]; rfl
structure Row (f : PF) (e : Int) (r : List Int) : Prop where
  h0 : r[0]? = some e
  st : ∀ (i : Nat) (a b : Int), r[i]? = some a → r[i + 1]? = some b → f a = some b ∧ b ≠ e
theorem Row.ne {f : PF} {e : Int} {r : List Int} (w : ∀ x x' y, f x = some y → f x' = some y → x = x') (R : Row f e r) : ∀ (i k : Nat) (a : Int), r[i]? = some a → r[i + k + 1]? = some a → False
  | 0, k, a, h1, h2 => by
    rw [R.h0] at h1
    cases h1
    have hk : ∃ b, r[k]? = some b := by
      have : 0 + k + 1 < r.length := (List.getElem?_eq_some_iff.mp h2).1
      exact ⟨_, List.getElem?_eq_getElem (by omega)⟩
    obtain ⟨b, hb⟩ := hk
    have := R.st k b e hb (by rw [Nat.zero_add] at h2; exact h2)
    exact this.2 rfl
  | i + 1, k, a, h1, h2 => by
    have l1 : i + 1 < r.length := (List.getElem?_eq_some_iff.mp h1).1
    have l2 : i + 1 + k + 1 < r.length := (List.getElem?_eq_some_iff.mp h2).1
    obtain ⟨b, hb⟩ : ∃ b, r[i]? = some b := ⟨_, List.getElem?_eq_getElem (by omega)⟩
    obtain ⟨c, hc⟩ : ∃ c, r[i + k + 1]? = some c := ⟨_, List.getElem?_eq_getElem (by omega)⟩
    have e1 := (R.st i b a hb h1).1
    have h2' : r[i + k + 1 + 1]? = some a := by rw [show i + k + 1 + 1 = i + 1 + k + 1 by omega]; exact h2
    have e2 := (R.st (i + k + 1) c a hc h2').1
    have : b = c := w _ _ _ e1 e2
    subst this
    exact Row.ne w R i k b hb hc
theorem nodup_of_get {l : List Int} (h : ∀ (i k : Nat) (a : Int), l[i]? = some a → l[i + k + 1]? = some a → False) : l.Nodup := by
  induction l with
  | nil => exact List.nodup_nil
  | cons x r ih =>
    rw [List.nodup_cons]
    refine ⟨fun hm => ?_, ih fun i k a h1 h2 => ?_⟩
    · obtain ⟨j, hj⟩ := List.mem_iff_getElem?.mp hm
      exact h 0 j x rfl (by rw [Nat.zero_add]; exact hj)
    · refine h (i + 1) k a h1 ?_
      rw [show i + 1 + k + 1 = (i + k + 1) + 1 by omega]
      exact h2
theorem Row.nd {n : Int} {f : PF} {e : Int} {r : List Int} (w : WF n f) (R : Row f e r) : r.Nodup := nodup_of_get (R.ne w.inj)
theorem Row.dom {n : Int} {f : PF} {e : Int} {r : List Int} (w : WF n f) (R : Row f e r) (h1 : 0 ≤ e) (h2 : e < n) : ∀ x ∈ r, 0 ≤ x ∧ x < n := by
  intro x hx
  obtain ⟨i, hi⟩ := List.mem_iff_getElem?.mp hx
  cases i with
  | zero => rw [R.h0] at hi; cases hi; exact ⟨h1, h2⟩
  | succ i =>
    have l1 : i + 1 < r.length := (List.getElem?_eq_some_iff.mp hi).1
    obtain ⟨b, hb⟩ : ∃ b, r[i]? = some b := ⟨_, List.getElem?_eq_getElem (by omega)⟩
    have := w.dom _ _ (R.st i b x hb hi).1
    omega
theorem len_range {l : List Int} {n : Int} (nd : l.Nodup) (h : ∀ x ∈ l, 0 ≤ x ∧ x < n) : l.length ≤ n.toNat := by
  have : l.length ≤ ((List.range n.toNat).map fun (i : Nat) => (i : Int)).length := List.Nodup.length_le_of_subset nd (by
    intro x hx
    have := h x hx
    exact List.mem_map.mpr ⟨x.toNat, List.mem_range.mpr (by omega), Int.toNat_of_nonneg this.1⟩)
  simpa using this
theorem Row.more {f : PF} {e : Int} {pre : List Int} {z y : Int} (R : Row f e (pre ++ [z])) (h : f z = some y) (ne : y ≠ e) : Row f e (pre ++ [z] ++ [y]) := by
  refine ⟨?_, fun i a b h1 h2 => ?_⟩
  · rw [List.getElem?_append_left (by simp)]
    exact R.h0
  · by_cases hi : i + 1 < (pre ++ [z]).length
    · rw [List.getElem?_append_left hi] at h2
      rw [List.getElem?_append_left (by omega)] at h1
      exact R.st i a b h1 h2
    · have l2 : i + 1 < (pre ++ [z] ++ [y]).length := (List.getElem?_eq_some_iff.mp h2).1
      have e1 : i = pre.length := by simp at hi l2; omega
      subst e1
      rw [List.getElem?_append_left (by simp)] at h1
      have z1 : (pre ++ [z])[pre.length]? = some z := by simp
      rw [z1] at h1
      cases h1
      have z2 : (pre ++ [z] ++ [y])[pre.length + 1]? = some y := by simp
      rw [z2] at h2
      cases h2
      exact ⟨h, ne⟩
/-- f along an open row -/
theorem Row.openAt {f : PF} {e : Int} {r : List Int} (R : Row f e r) {z : Int} (hz : r[r.length - 1]? = some z) (hl : 0 < r.length) (ho : f z = none) (i : Nat) (a : Int) (hi : r[i]? = some a) : ∀ j : Nat, iter f j a = r[i + j]?
  | 0 => by rw [Nat.add_zero, hi]; rfl
  | j + 1 => by
    show (iter f j a).bind f = _
    rw [Row.openAt R hz hl ho i a hi j]
    cases e1 : r[i + j]? with
    | none =>
      have h1 := List.getElem?_eq_none_iff.mp e1
      exact (List.getElem?_eq_none_iff.mpr (by omega)).symm
    | some b =>
      show f b = _
      have l1 : i + j < r.length := (List.getElem?_eq_some_iff.mp e1).1
      cases e2 : r[i + (j + 1)]? with
      | some c => exact (R.st (i + j) b c e1 e2).1
      | none =>
        have h2 := List.getElem?_eq_none_iff.mp e2
        have : i + j = r.length - 1 := by omega
        rw [this, hz] at e1
        cases e1
        exact ho
/-- f along a closed row -/
theorem Row.closedAt {f : PF} {e : Int} {r : List Int} (R : Row f e r) {z : Int} (hz : r[r.length - 1]? = some z) (hl : 0 < r.length) (hc : f z = some e) (i : Nat) (a : Int) (hi : r[i]? = some a) : ∀ j : Nat, iter f j a = r[(i + j) % r.length]?
  | 0 => by
    have l1 : i < r.length := (List.getElem?_eq_some_iff.mp hi).1
    rw [Nat.add_zero, Nat.mod_eq_of_lt l1, hi]; rfl
  | j + 1 => by
    show (iter f j a).bind f = _
    rw [Row.closedAt R hz hl hc i a hi j]
    have l1 : (i + j) % r.length < r.length := Nat.mod_lt _ hl
    obtain ⟨b, e1⟩ : ∃ b, r[(i + j) % r.length]? = some b := ⟨_, List.getElem?_eq_getElem l1⟩
    rw [e1]
    show f b = _
    by_cases h : (i + j) % r.length = r.length - 1
    · rw [h, hz] at e1
      cases e1
      rw [hc]
      have : (i + (j + 1)) % r.length = 0 := by
        rw [show i + (j + 1) = (i + j) + 1 by omega, Nat.add_mod, h]
        by_cases h1 : r.length = 1
        · rw [h1]
        · rw [Nat.mod_eq_of_lt (show 1 < r.length by omega), show r.length - 1 + 1 = r.length by omega, Nat.mod_self]
      rw [this, R.h0]
    · have : (i + (j + 1)) % r.length = (i + j) % r.length + 1 := by
        rw [show i + (j + 1) = (i + j) + 1 by omega, Nat.add_mod]
        rw [Nat.mod_eq_of_lt (show 1 < r.length by omega), Nat.mod_eq_of_lt (by omega)]
      rw [this]
      obtain ⟨c, e2⟩ : ∃ c, r[(i + j) % r.length + 1]? = some c := ⟨_, List.getElem?_eq_getElem (by omega)⟩
      rw [e2]
      exact (R.st _ b c e1 e2).1
theorem wf_iter {n : Int} {f : PF} (w : WF n f) : ∀ k : Nat, WF n (iter f (k + 1))
  | 0 => w
  | k + 1 => wf_mul (wf_iter w k) w
end PM
namespace PM
open U
/-! ### the rules of the operators -/
theorem pf_ext {f g : PF} (h : ∀ x y, f x = some y ↔ g x = some y) : f = g := by
  funext x
  cases e : f x with
  | some y => exact ((h x y).mp e).symm
  | none =>
    cases e2 : g x with
    | none => rfl
    | some y => rw [(h x y).mpr e2] at e; cases e
theorem mul_iff {f g : PF} {x z : Int} : mul f g x = some z ↔ ∃ y, f x = some y ∧ g y = some z := by
  unfold mul
  cases e : f x with
  | none => simp
  | some y => simp
theorem idn_iff {n x y : Int} : idn n x = some y ↔ x = y ∧ 0 ≤ x ∧ x < n := by
  unfold idn
  split
  · rename_i h
    constructor
    · intro e; cases e; exact ⟨rfl, h⟩
    · rintro ⟨rfl, _⟩; rfl
  · rename_i h
    constructor
    · intro e; cases e
    · rintro ⟨_, q⟩; exact absurd q h
theorem and_iff {f g : PF} {x y : Int} : andf f g x = some y ↔ f x = some y ∧ g x = some y := by
  constructor
  · intro h; exact ⟨le_and1 f g x y h, le_and2 f g x y h⟩
  · rintro ⟨h1, h2⟩
    unfold andf
    rw [h1, h2, if_pos rfl]
theorem sub_iff {f g : PF} {x y : Int} : subf f g x = some y ↔ f x = some y ∧ ¬ g x = some y := by
  unfold subf
  by_cases h : f x = g x
  · rw [if_pos h, ← h]
    constructor
    · intro e; cases e
    · rintro ⟨h1, h2⟩; exact absurd h1 h2
  · rw [if_neg h]
    constructor
    · intro e; exact ⟨e, fun q => h (e.trans q.symm)⟩
    · exact fun q => q.1
theorem mul_assoc (f g h : PF) : mul (mul f g) h = mul f (mul g h) := by
  refine pf_ext fun x z => ?_
  rw [mul_iff, mul_iff]
  constructor
  · rintro ⟨y, h1, h2⟩
    obtain ⟨u, h3, h4⟩ := mul_iff.mp h1
    exact ⟨u, h3, mul_iff.mpr ⟨y, h4, h2⟩⟩
  · rintro ⟨y, h1, h2⟩
    obtain ⟨u, h3, h4⟩ := mul_iff.mp h2
    exact ⟨u, mul_iff.mpr ⟨y, h1, h3⟩, h4⟩
theorem inv_mul {n : Int} {f g : PF} (wf : WF n f) (wg : WF n g) : inv n (mul f g) = mul (inv n g) (inv n f) := by
  refine pf_ext fun z x => ?_
  rw [inv_iff (wf_mul wf wg), mul_iff, mul_iff]
  constructor
  · rintro ⟨y, h1, h2⟩
    exact ⟨y, (inv_iff wg).mpr h2, (inv_iff wf).mpr h1⟩
  · rintro ⟨y, h1, h2⟩
    exact ⟨y, (inv_iff wf).mp h2, (inv_iff wg).mp h1⟩
theorem inv_inv {n : Int} {f : PF} (wf : WF n f) : inv n (inv n f) = f := by
  refine pf_ext fun x y => ?_
  rw [inv_iff (wf_inv wf), inv_iff wf]
theorem mul_inv_mul {n : Int} {f : PF} (wf : WF n f) : mul (mul f (inv n f)) f = f := by
  refine pf_ext fun x z => ?_
  rw [mul_iff]
  constructor
  · rintro ⟨u, h1, h2⟩
    obtain ⟨y, h3, h4⟩ := mul_iff.mp h1
    have := (inv_iff wf).mp h4
    cases wf.inj _ _ _ h3 this
    exact h2
  · intro h
    exact ⟨x, mul_iff.mpr ⟨z, h, (inv_iff wf).mpr h⟩, h⟩
/-- f * ~f: the sources, each to itself -/
theorem mul_inv {n : Int} {f : PF} (wf : WF n f) {x u : Int} : mul f (inv n f) x = some u ↔ x = u ∧ ∃ y, f x = some y := by
  rw [mul_iff]
  constructor
  · rintro ⟨y, h1, h2⟩
    have := (inv_iff wf).mp h2
    exact ⟨wf.inj _ _ _ h1 this, y, h1⟩
  · rintro ⟨rfl, y, h⟩
    exact ⟨y, h, (inv_iff wf).mpr h⟩
theorem le_mulL {f g h : PF} (q : le f g) : le (mul f h) (mul g h) := by
  intro x z e
  obtain ⟨y, h1, h2⟩ := mul_iff.mp e
  exact mul_iff.mpr ⟨y, q _ _ h1, h2⟩
theorem le_mulR {f g h : PF} (q : le f g) : le (mul h f) (mul h g) := by
  intro x z e
  obtain ⟨y, h1, h2⟩ := mul_iff.mp e
  exact mul_iff.mpr ⟨y, h1, q _ _ h2⟩
theorem mul_idn {n : Int} {f : PF} (wf : WF n f) : mul f (idn n) = f := by
  refine pf_ext fun x z => ?_
  rw [mul_iff]
  constructor
  · rintro ⟨y, h1, h2⟩
    cases (idn_iff.mp h2).1
    exact h1
  · intro h
    have := wf.dom x z h
    exact ⟨z, h, idn_iff.mpr ⟨rfl, by omega, by omega⟩⟩
theorem idn_mul {n : Int} {f : PF} (wf : WF n f) : mul (idn n) f = f := by
  refine pf_ext fun x z => ?_
  rw [mul_iff]
  constructor
  · rintro ⟨y, h1, h2⟩
    cases (idn_iff.mp h1).1
    exact h2
  · intro h
    have := wf.dom x z h
    exact ⟨x, idn_iff.mpr ⟨rfl, by omega, by omega⟩, h⟩
theorem mul_emp (f : PF) : mul f emp = emp := by
  refine pf_ext fun x z => ?_
  rw [mul_iff]
  constructor
  · rintro ⟨y, _, h2⟩; cases h2
  · intro h; cases h
/-! ### parts -/
theorem noclash_sub {f g : PF} (wi : ∀ x x' y, f x = some y → f x' = some y → x = x') : ¬ Clash (subf f g) (andf f g) := by
  rintro ⟨x, y, x', y', h1, h2, h3⟩
  have e1 := (sub_iff.mp h1).1
  have e2 := (and_iff.mp h2).1
  refine h3 ⟨fun e => ?_, fun e => ?_⟩
  · subst e; rw [e1] at e2; exact Option.some.inj e2
  · subst e; exact wi _ _ _ e1 e2
theorem sub_or_and (f g : PF) : orf (subf f g) (andf f g) = f := by
  funext x
  unfold orf subf andf
  by_cases h : f x = g x
  · rw [if_pos h, if_pos h]; rfl
  · rw [if_neg h, if_neg h]; cases f x <;> rfl
theorem sub_and (f g : PF) : andf (subf f g) g = emp := by
  refine pf_ext fun x y => ?_
  rw [and_iff, sub_iff]
  constructor
  · rintro ⟨⟨_, h1⟩, h2⟩; exact absurd h2 h1
  · intro h; cases h
theorem nd_tab (n : Int) (f : PF) : (tab n f).Nodup := by
  have : ∀ l : List (Int × Int), (l.map (·.1)).Nodup → l.Nodup := by
    intro l
    induction l with
    | nil => intro _; exact List.nodup_nil
    | cons p r ih =>
      intro h
      rw [List.map_cons, List.nodup_cons] at h
      rw [List.nodup_cons]
      exact ⟨fun hm => h.1 (List.mem_map.mpr ⟨p, hm, rfl⟩), ih h.2⟩
  exact this _ (keys_tab n f)
theorem le_len {n : Int} {f g : PF} (wf : WF n f) (wg : WF n g) (h : le f g) : (tab n f).length ≤ (tab n g).length := by
  refine List.Nodup.length_le_of_subset (nd_tab n f) ?_
  rintro ⟨x, y⟩ hp
  exact (mem_tab wg).mpr (h _ _ ((mem_tab wf).mp hp))
theorem le_len_eq {n : Int} {f g : PF} (wf : WF n f) (wg : WF n g) (h : le f g) (hl : (tab n g).length ≤ (tab n f).length) : f = g := by
  refine pf_ext fun x y => ⟨h x y, fun e => ?_⟩
  refine Classical.byContradiction fun hn => ?_
  have h1 : ((x, y) :: tab n f).Nodup := List.nodup_cons.mpr ⟨fun hm => hn ((mem_tab wf).mp hm), nd_tab n f⟩
  have h2 : ((x, y) :: tab n f).length ≤ (tab n g).length := by
    refine List.Nodup.length_le_of_subset h1 ?_
    rintro ⟨a, b⟩ hp
    rcases List.mem_cons.mp hp with e1 | e1
    · cases e1; exact (mem_tab wg).mpr e
    · exact (mem_tab wg).mpr (h _ _ ((mem_tab wf).mp e1))
  rw [List.length_cons] at h2
  omega
/-! ### powers -/
def pN (n : Int) (f : PF) (k : Nat) : PF := if k = 0 then idn n else iter f k
theorem pN_zero (n : Int) (f : PF) : pN n f 0 = idn n := rfl
theorem pN_succ (n : Int) (f : PF) (k : Nat) : pN n f (k + 1) = iter f (k + 1) := rfl
theorem wf_pN {n : Int} {f : PF} (w : WF n f) : ∀ k, WF n (pN n f k)
  | 0 => wf_idn n
  | k + 1 => wf_iter w k
theorem pN_add {n : Int} {f : PF} (w : WF n f) (a b : Nat) : mul (pN n f a) (pN n f b) = pN n f (a + b) := by
  cases a with
  | zero => rw [pN_zero, idn_mul (wf_pN w b), Nat.zero_add]
  | succ a =>
    cases b with
    | zero => rw [pN_zero, mul_idn (wf_pN w (a + 1)), Nat.add_zero]
    | succ b =>
      rw [pN_succ, pN_succ, show a + 1 + (b + 1) = (a + 1 + b) + 1 by omega, pN_succ]
      funext x
      rw [show a + 1 + b + 1 = (a + 1) + (b + 1) by omega, iter_add]
      rfl
theorem pN_one {n : Int} {f : PF} : pN n f 1 = f := by
  rw [show (1 : Nat) = 0 + 1 from rfl, pN_succ]; rfl
theorem pN_mul {n : Int} {f : PF} (w : WF n f) (a : Nat) : ∀ b, pN n (pN n f a) b = pN n f (a * b)
  | 0 => rfl
  | b + 1 => by
    rw [← pN_add (wf_pN w a) b 1, pN_mul w a b, pN_one, pN_add w]
    rfl
theorem inv_idn (n : Int) : inv n (idn n) = idn n := by
  refine pf_ext fun x y => ?_
  rw [inv_iff (wf_idn n), idn_iff, idn_iff]
  constructor
  · rintro ⟨rfl, h⟩; exact ⟨rfl, h⟩
  · rintro ⟨rfl, h⟩; exact ⟨rfl, h⟩
theorem inv_pN {n : Int} {f : PF} (w : WF n f) : ∀ k, inv n (pN n f k) = pN n (inv n f) k
  | 0 => inv_idn n
  | k + 1 => by
    rw [← pN_add w k 1, inv_mul (wf_pN w k) (wf_pN w 1), inv_pN w k, pN_one, show k + 1 = 1 + k by omega, ← pN_add (wf_inv w) 1 k, pN_one]
theorem mul_inv_le {n : Int} {f : PF} (w : WF n f) : le (mul f (inv n f)) (idn n) := by
  intro x u h
  obtain ⟨rfl, y, e⟩ := (mul_inv w).mp h
  have := w.dom _ _ e
  exact idn_iff.mpr ⟨rfl, by omega, by omega⟩
def pwN (n : Int) (f : PF) (e : Int) : PF := if e < 0 then pN n (inv n f) e.natAbs else pN n f e.natAbs
theorem pN_sub {n : Int} {f : PF} (w : WF n f) (a b : Nat) : le (mul (pN n f a) (pN n (inv n f) b)) (pwN n f ((a : Int) - (b : Int))) := by
  unfold pwN
  by_cases h : ((a : Int) - (b : Int)) < 0
  · rw [if_pos h]
    obtain ⟨c, rfl⟩ : ∃ c, b = a + c := ⟨b - a, by omega⟩
    have e : ((a : Int) - ((a + c : Nat) : Int)).natAbs = c := by omega
    rw [e, ← pN_add (wf_inv w) a c, ← mul_assoc, ← inv_pN w a]
    have := le_mulL (h := pN n (inv n f) c) (mul_inv_le (wf_pN w a))
    rw [idn_mul (wf_pN (wf_inv w) c)] at this
    exact this
  · rw [if_neg h]
    obtain ⟨c, rfl⟩ : ∃ c, a = c + b := ⟨a - b, by omega⟩
    have e : (((c + b : Nat) : Int) - (b : Int)).natAbs = c := by omega
    rw [e, ← pN_add w c b, mul_assoc, ← inv_pN w b]
    have := le_mulR (h := pN n f c) (mul_inv_le (wf_pN w b))
    rw [mul_idn (wf_pN w c)] at this
    exact this
end PM
namespace U
open PySem PySem.Spec PyProof.Rows L2
section
variable {X : Cx}
theorem sw_dict {kx vx : Expr} {gs : List Comprehension} {scope : Scope} {pos py : Pos} {y : Str} {l : Nat} {env : Env} (hk : env.scope.kind = .function) (hy : env.scope.names.lookup y = some .local) (hl : (py.line == pos.line) = true)
    (ha : (scope.names.any fun (n, k) => n == y && (k == .local || k == .cell)) = false) : swapsWith (.DictComp kx vx gs scope pos) (some (.Name y py)) l env = pure true := by
  have ky : env.kindOf y = some .local := hy
  have hb : env.blockKind = .function := by unfold Env.blockKind; rw [hk]; rfl
  unfold swapsWith
  simp only [hb, ky, ha, Expr.pos, hl]
  rfl
/-- name = {..} on one line, the name a local -/
theorem ps_setDc {i : Nat} {y : Str} {py : Pos} {kx vx tg iter : Expr} {ifs : List Expr} {scope : Scope} {own : List (Str × Nat)} {pos spos : Pos} {wi : TI} {g : TG} {tt : TT} {tk tv : TE} (hc : X.calm = true) (hN : X.N.Nodup) (hy : X.N[i]? = some y) (hyl : X.env.scope.names.lookup y = some .local)
    (hsw : swapsWith (.DictComp kx vx [⟨tg, iter, ifs, 0⟩] scope pos) (some (.Name y py)) spos.line X.env = pure true) (hi : PI X tg iter wi) (ok : BlkOk X.N X.env.scope scope own)
    (hg : ∀ (s : Shared) (H : Hp) (C : Addr) (cl : List (Str × Addr)) (fp : List Addr), PG (X.blk s H scope (compEnvC scope cl C X.env) fp) tg g) (ht : ∀ (s : Shared) (H : Hp) (C : Addr) (cl : List (Str × Addr)) (fp : List Addr), PTs (X.blk s H scope (compEnvC scope cl C X.env) fp) ifs tt)
    (hk : ∀ (s : Shared) (H : Hp) (C : Addr) (cl : List (Str × Addr)) (fp : List Addr), PE (X.blk s H scope (compEnvC scope cl C X.env) fp) kx tk)
    (he : ∀ (s : Shared) (H : Hp) (C : Addr) (cl : List (Str × Addr)) (fp : List Addr), PE (X.blk s H scope (compEnvC scope cl C X.env) fp) vx tv) (hs : ∀ x, foldedSetIterable iter X.env x = pure x := by intro _; rfl) :
    PS X (.Assign [.Name y py] (.DictComp kx vx [⟨tg, iter, ifs, 0⟩] scope pos) spos) (tAsg (tDc wi g tt tk tv (own.map (·.2))) (gName i)) := by
  refine ⟨fun pins s σ H D I h => ?_⟩
  rw [exec_Assign_Name_used _ _ _ _ hsw]
  refine wpAny_bind (wpAny_standAt (wpAny_bind ?_))
  show wpAny _ X.A (do let _ ← comprehension (.DictComp kx vx [⟨tg, iter, ifs, 0⟩] scope pos) scope X.env (firstIterPos [⟨tg, iter, ifs, 0⟩] pos) newDict false (eval iter X.env) (some (assign (.Name y py) X.env))) _ _ s
  have h : tDc wi g tt tk tv (own.map (·.2)) σ H (fun x H1 => gName i x σ H1 D.nx) := h
  refine wpAny_bind (thn (dc_core (Qf := fun _ s' => SP X pins D .next s') hc hN I hi ok hg ht hk he hs h fun L C s' m H' I' q hn f => ?_) fun _ s' hq => wpAny_pure (wpAny_pure hq))
  show wpAny _ _ (assign (.Name y py) X.env (.ref L)) _ _ _
  refine wpAny_assign_Name (store_ok2 (v := V.ref L) I' hN hy (.inl hyl) rfl (fun s2 I2 ⟨a, sb, ha⟩ => ?_) (.inr hyl))
  obtain ⟨f0, f1, f2, f3, f4, f5⟩ := f
  have haC : C ≠ a := by
    rcases ha with z | z
    · rw [z]; exact f1
    · exact fun e => f4 y a z e.symm
  refine ⟨m, hn.sameBut sb haC, fun h3 sb3 => ?_⟩
  exact ⟨_, H', I2.turned (t' := s2.toks) (fun b o hb e => (sb3.2 b hb).trans e) f0 f1 f3 f4 f5, q⟩
end
/-- x = e under the lock -/
theorem lock_asg {t : TE} {D : Ends} {σ : L2.St} {H : Hp} {i : Nat} (h : tLockE t σ H (fun v H' => D.nx (σ.set i (some v)) H')) : tLock (tAsg t (gName i)) D σ H := h
/-- [v for x, y in d.items() if ..], the tests and parts reading alone -/
def madeL (c : Int → Int → Bool) (vf : Int → Int → V) (l : List (Int × Int)) : List V := (l.filter fun p => c p.1 p.2).map fun p => vf p.1 p.2
theorem madeL_step {c : Int → Int → Bool} {vf : Int → Int → V} {l : List (Int × Int)} {i : Nat} {x y : Int} (h : l[i]? = some (x, y)) :
    madeL c vf (l.take (i + 1)) = madeL c vf (l.take i) ++ (if c x y = true then [vf x y] else []) := by
  rw [take_more h]
  unfold madeL
  rw [List.filter_append, List.map_append]
  by_cases hc : c x y = true
  · simp [hc]
  · have hc' : c x y = false := by simpa using hc
    simp [hc']
theorem madeL_len (c : Int → Int → Bool) (vf : Int → Int → V) (l : List (Int × Int)) (i : Nat) : (madeL c vf (l.take i)).length ≤ l.length := by
  unfold madeL
  rw [List.length_map]
  exact Nat.le_trans (List.length_filter_le _ _) (by rw [List.length_take]; omega)
theorem lc_items {K : PySem.W.Frag} {d : Addr} {l : List (Int × Int)} {te : TE} {i j : Nat} {tt : TT} {tv : TE} {vs : List Nat} {σ : L2.St} {H : Hp} {Q : VK} (c : Int → Int → Bool) (vf : Int → Int → V)
    (hd : H d = some (.dK (kvI l))) (hte : ∀ H' (R : VK), R (.ref d) H' → Off d H H' → te σ H' R)
    (hw : ∀ a b, wipe (((wipe σ vs).set i a).set j b) vs = wipe σ vs)
    (hb : ∀ x y, (x, y) ∈ l → ∀ H1, Off d H H1 → (∀ R : Bool → Hp → Prop, R (c x y) H1 → tt (((wipe σ vs).set i (some (.int x))).set j (some (.int y))) H1 R) ∧
      (c x y = true → ∀ R : VK, R (vf x y) H1 → tv (((wipe σ vs).set i (some (.int x))).set j (some (.int y))) H1 R))
    (hz : l.length < sizeLine)
    (hq : ∀ D H', H D = none → H' D = some (.lst (madeL c vf l)) → L2.Same H H' → Q (.ref D) H') :
    tLockE (tLc (iItems te) (gTup K 2 (gCons (gName i) (gCons (gName j) gNil))) tt tv vs) σ H Q := by
  refine ⟨d, _, hd, trivial, fun od => ?_⟩
  refine hte _ _ ⟨d, od, kvI l, rfl, upd_same, fun D hD => ?_⟩ Off.lock
  have hDd : D ≠ d := fun e => by rw [e, upd_same] at hD; cases hD
  have hD0 : H D = none := by rw [upd_ne hDd] at hD; exact hD
  refine lc_it walk_items (fun k H' => H' d = some (.frz od (.dK (kvI l))) ∧ Off d H H' ∧ H' D = some (.lst (madeL c vf (l.take k)))) ⟨?_, Off.lock.mut hD0, upd_same⟩ (fun k H' _ p => p.1) ?_ ?_
  · rw [upd_ne hDd.symm]; exact upd_same
  · rintro k v H' H'' hk ⟨p1, p2, p3⟩ ⟨T, a, b, rfl, hT, rfl, e1, e2⟩
    rw [kvI_length] at hk
    obtain ⟨⟨x, y⟩, exy⟩ : ∃ p, l[k]? = some p := ⟨_, List.getElem?_eq_getElem hk⟩
    have ek : (kvI l)[k]? = some (Sum.inl x, V.int y) := by unfold kvI; rw [List.getElem?_map, exy]; rfl
    dsimp only at e1 e2
    rw [ek] at e1 e2
    cases e1; cases e2
    have nTd : d ≠ T := ne_of_none p1 hT
    have nTD : D ≠ T := ne_of_none p3 hT
    refine ⟨T, [.int x, .int y], rfl, SqT.of upd_same, rfl, .int x, [.int y], rfl, .int y, [], rfl, rfl, ?_⟩
    refine ⟨hw _ _, ?_⟩
    have o2 : Off d H (upd H' T (.tup [.int x, .int y])) := p2.tr (Off.new hT)
    obtain ⟨b1, b2⟩ := hb x y (List.mem_of_getElem? exy) _ o2
    refine b1 _ ?_
    have d3 : (upd H' T (.tup [.int x, .int y])) d = some (.frz od (.dK (kvI l))) := by rw [upd_ne nTd]; exact p1
    have D3 : (upd H' T (.tup [.int x, .int y])) D = some (.lst (madeL c vf (l.take k))) := by rw [upd_ne nTD]; exact p3
    have st := madeL_step (c := c) (vf := vf) exy
    cases hc : c x y with
    | true =>
      rw [hc, if_pos rfl] at st
      refine iteT (b2 hc _ ⟨_, D3, Nat.lt_of_le_of_lt (madeL_len ..) hz, ?_⟩)
      refine ⟨?_, o2.mut hD0, ?_⟩
      · rw [upd_ne hDd.symm]; exact d3
      · rw [upd_same, st]
    | false =>
      rw [hc, if_neg Bool.false_ne_true, List.append_nil] at st
      refine iteF ⟨d3, o2, ?_⟩
      rw [st]
      exact D3
  · rintro H' ⟨p1, p2, p3⟩
    rw [kvI_length, List.take_length] at p3
    refine ⟨p1, hq D _ hD0 ?_ (p2.back hd)⟩
    rw [upd_ne hDd]
    exact p3
end U
namespace My
open PySem L2 U StX
/-! ### values of any known form -/
def knownV (C : Addr) (H : Hp) : V → Prop
  | .non => True | .bl _ => True | .int _ => True | .str _ => True
  | .ref a => (∃ xs, H a = some (.lst xs)) ∨ (∃ xs, H a = some (.tup xs)) ∨ (∃ kvs, H a = some (.dK kvs)) ∨ ∃ dx fs, H a = some (.ins C dx fs)
  | _ => False
def isI : V → Bool | .int _ => true | _ => false
def isB : V → Bool | .bl _ => true | _ => false
def inR : V → Int → Int → Bool | .int i, a, b => decide (a ≤ i) && decide (i ≤ b) | _, _, _ => false
section
variable {P : Program} {w : World} {K : PySem.W.Frag} {mg : Str → Option Value} {base : Heap}
theorem tyx_ins {H : Hp} {a C dx : Addr} {fs : List (Str × V)} (o : OwnC K C) (e : H a = some (.ins C dx fs)) : TyX K H (.ref a) (.ref C) := .base (.ins e o.cl o.ca o.cn o.ct o.cm)
/-- the type of a known value, and what isinstance says of it -/
theorem ty_known (T : Txt K mg) {H : Hp} {x : V} (h : knownV T.C_Map H x) : ∃ t, TyX K H x t ∧ PySem.W.kitOne K t (.type "int") = some (isI x || isB x) ∧ PySem.W.kitOne K t (.type "bool") = some (isB x) := by
  cases x with
  | non => exact ⟨_, .base .non, kit_ty (r := false) (by decide +kernel), kit_ty (r := false) (by decide +kernel)⟩
  | bl b => exact ⟨_, .base (.bl b), kit_ty (r := true) (by decide +kernel), kit_ty (r := true) (by decide +kernel)⟩
  | int i => exact ⟨_, .base (.int i), kit_ty (r := true) (by decide +kernel), kit_ty (r := false) (by decide +kernel)⟩
  | str z => exact ⟨_, .base (.str z), kit_ty (r := false) (by decide +kernel), kit_ty (r := false) (by decide +kernel)⟩
  | ref a =>
    rcases h with ⟨xs, e⟩ | ⟨xs, e⟩ | ⟨xs, e⟩ | ⟨dx, fs, e⟩
    · exact ⟨_, .base (.lst e), kit_ty (r := false) (by decide +kernel), kit_ty (r := false) (by decide +kernel)⟩
    · exact ⟨_, .base (.tup e), kit_ty (r := false) (by decide +kernel), kit_ty (r := false) (by decide +kernel)⟩
    · exact ⟨_, .base (.dK e), kit_ty (r := false) (by decide +kernel), kit_ty (r := false) (by decide +kernel)⟩
    · exact ⟨_, tyx_ins T.o_Map e, T.kit_int_Map, T.kit_bool_Map⟩
  | byt b => exact h.elim
  | flt b => exact h.elim
  | ty b => exact h.elim
def spIsInt (C : Addr) : Sp := fun vs H Q _ => ∃ x, vs = [x] ∧ knownV C H x ∧ Q (.bl (isI x)) H
theorem ok_is_integer (T : Txt K mg) : FnR P w K mg base CX0 1 T.f_is_integer (spIsInt T.C_Map) := by
  refine T.A_is_integer.ok sc_is_integer (fun vs H Q E h => ?_) (fun cdv A outer s H vs Q E hr h => ?_)
  · obtain ⟨x, rfl, _⟩ := h
    rfl
  · obtain ⟨x, rfl, hx, q⟩ := h
    refine ⟨_, pss_one (ps_ret (pe_and (pe_callB call_isi (by rfl) T.n_isinstance (by decide +kernel) (pa_cons (pv 0) (pa_cons (pe_bltn (v := .ty "int") (u := .type "int") (by rfl) T.n_int (by decide +kernel) rfl) pa_nil)))
      (pe_one (pe_not (pe_callB call_isi (by rfl) T.n_isinstance (by decide +kernel) (pa_cons (pv 0) (pa_cons (pe_bltn (v := .ty "bool") (u := .type "bool") (by rfl) T.n_bool (by decide +kernel) rfl) pa_nil))))))), ?_⟩
    obtain ⟨t, ht, k1, k2⟩ := ty_known T hx
    refine ⟨_, rfl, x, _, t, _, _, rfl, .ty _, ht, k1, _, rfl, ?_⟩
    refine ifB (fun hc => ?_) (fun hc => ?_)
    · refine ⟨_, rfl, x, _, t, _, _, rfl, .ty _, ht, k2, _, rfl, ?_⟩
      have e : (!isB x) = isI x := by cases x <;> first | rfl | cases hc
      rw [e]
      exact q
    · have e : isI x = false := by cases x <;> first | rfl | cases hc
      rw [e] at q
      exact q
def spInR (C : Addr) : Sp := fun vs H Q _ => ∃ x a b, vs = [x, .int a, .int b] ∧ knownV C H x ∧ Q (.bl (inR x a b)) H
theorem ok_in_range (T : Txt K mg) : FnR P w K mg base CX0 2 T.f_in_range (spInR T.C_Map) := by
  refine T.A_in_range.ok sc_in_range (fun vs H Q E h => ?_) (fun cdv A outer s H vs Q E hr h => ?_)
  · obtain ⟨x, a, b, rfl, _⟩ := h
    rfl
  · obtain ⟨x, a, b, rfl, hx, q⟩ := h
    refine ⟨_, pss_one (ps_ret (pe_and (pe_callR (ok_is_integer T) hr T.A_is_integer.kp rfl T.g_is_integer pass0 (pa_cons (pv 0) pa_nil))
      (pe_one (pe_chain op_le op_le (pv 1) (pv 0) (pv 2))))), ?_⟩
    refine ⟨_, rfl, x, rfl, hx, _, rfl, ?_⟩
    cases x with
    | int i =>
      refine iteT ⟨_, rfl, _, rfl, _, _, rfl, rfl, _, rfl, ?_⟩
      refine ifD (fun h => ?_) (fun h => ?_)
      · refine ⟨_, rfl, _, _, rfl, rfl, ?_⟩
        have e : inR (.int i) a b = decide (i ≤ b) := by simp [inR, h]
        rw [e] at q
        exact q
      · have e : inR (.int i) a b = false := by simp [inR, h]
        rw [e] at q
        exact q
    | _ => exact iteF q
/-! ### the law's draws -/
def spDraw : Sp := fun vs H Q _ => ∃ (p : Addr) (a b n : Int), vs = [.ref p, .int n] ∧ H p = some (.lst [.int a, .int b]) ∧ 0 ≤ a ∧ 0 ≤ b ∧ b < 2147483647 ∧ 0 < n ∧ n < 1073741824 ∧
  ∀ a' b' r : Int, 0 ≤ a' → 0 ≤ b' → b' < 2147483647 → 0 ≤ r → r < n → Q (.int r) (upd H p (.lst [.int a', .int b']))
theorem ok_draw (T : Txt K mg) : FnR P w K mg base CX0 1 T.f_l_draw spDraw := by
  refine T.A_l_draw.ok sc_l_draw (fun vs H Q E h => ?_) (fun cdv A outer s H vs Q E hr h => ?_)
  · obtain ⟨p, a, b, n, rfl, _⟩ := h
    rfl
  · obtain ⟨p, a, b, n, rfl, hp, ha, hb, hb2, hn, hn2, k⟩ := h
    refine ⟨_, pss_cons (ps_if (pt_cmpR op_gt (pe_ix ix_list (pv 0) pe_int (fun _ _ => rfl)) pe_int (nomark _))
        (pss_cons (ps_set (i := 2) sc_l_draw.nd rfl (Or.inl rfl) (pe_op op_mod (pe_ix ix_list (pv 0) pe_int (fun _ _ => rfl)) (pv 1)))
        (pss_cons (ps_asg (pe_op op_fdiv (pe_ix ix_list (pv 0) pe_int (fun _ _ => rfl)) (pv 1)) (pg_sub (pv 0) pe_int set_list))
        (pss_one (ps_ret (pv 2))))) pss_nil)
      (pss_cons (ps_asg (pe_op op_mod (pe_op op_add (pe_op op_mul (pe_ix ix_list (pv 0) pe_int (fun _ _ => rfl)) pe_int) pe_int) pe_int) (pg_sub (pv 0) pe_int set_list))
      (pss_one (ps_ret (pe_op op_mod (pe_op op_fdiv (pe_op op_mod (pe_op op_mul (pe_ix ix_list (pv 0) pe_int (fun _ _ => rfl)) (pe_ix ix_list (pv 0) pe_int (fun _ _ => rfl))) pe_int) pe_int) (pv 1))))), ?_⟩
    refine ⟨_, rfl, p, _, 0, _, rfl, rfl, SqL.of hp, rfl, _, _, rfl, rfl, _, rfl, ?_⟩
    refine ifD (fun h => ?_) (fun h => ?_)
    · refine ⟨_, rfl, p, _, 0, _, rfl, rfl, SqL.of hp, rfl, _, rfl, _, _, rfl, rfl, hn, ?_⟩
      refine ⟨_, rfl, p, _, 0, _, rfl, rfl, SqL.of hp, rfl, _, rfl, _, _, rfl, rfl, ⟨hn, hn2⟩, _, rfl, p, _, 0, _, rfl, rfl, hp, rfl, ?_⟩
      refine ⟨_, rfl, ?_⟩
      exact k (a / n) b (a % n) (Int.ediv_nonneg ha (by omega)) hb hb2 (Int.emod_nonneg _ (by omega)) (Int.emod_lt_of_pos _ hn)
    · have m1 : 0 ≤ (b * 48271 + 11) % 2147483647 := Int.emod_nonneg _ (by decide)
      have m2 : (b * 48271 + 11) % 2147483647 < 2147483647 := Int.emod_lt_of_pos _ (by decide)
      refine ⟨_, rfl, p, _, 1, _, rfl, rfl, SqL.of hp, rfl, _, _, rfl, rfl, .inr ⟨by decide, by decide⟩, _, _, rfl, rfl, _, _, rfl, rfl, (by show (0 : Int) < 2147483647; decide), _, rfl, p, _, 1, _, rfl, rfl, hp, rfl, ?_⟩
      refine ⟨_, rfl, p, _, 1, _, rfl, rfl, SqL.of upd_same, rfl, _, rfl, p, _, 1, _, rfl, rfl, SqL.of upd_same, rfl, _, _, rfl, rfl, .inl ⟨by omega, by omega⟩, _, _, rfl, rfl, (by show (0 : Int) < 2147483629; decide), _, _, rfl, rfl, ⟨by decide, by decide⟩, _, rfl, _, _, rfl, rfl, hn, ?_⟩
      exact k a ((b * 48271 + 11) % 2147483647) _ ha m1 m2 (Int.emod_nonneg _ (by omega)) (Int.emod_lt_of_pos _ hn)
end
end My
namespace My
open PySem L2 U StX PM
section
variable {P : Program} {w : World} {K : PySem.W.Frag} {mg : Str → Option Value} {base : Heap}
theorem head_int (xs : List V) (h : ∀ v ∈ xs, ∃ i, v = V.int i) : ∃ c, atI (xs ++ [V.int 0]) 0 = some (V.int c) := by
  cases xs with
  | nil => exact ⟨0, rfl⟩
  | cons a r =>
    obtain ⟨i, rfl⟩ := h a List.mem_cons_self
    refine ⟨i, atI_nat (j := 0) ?_⟩
    rfl
theorem cut_int (ns : List Int) (lo hi : Option Int) : ∀ v ∈ cutV (ns.map V.int) lo hi, ∃ i, v = V.int i := by
  intro v hv
  unfold cutV at hv
  have h1 := List.mem_of_mem_drop (List.mem_of_mem_take hv)
  obtain ⟨i, _, rfl⟩ := List.mem_map.mp h1
  exact ⟨i, rfl⟩
def spHand (K : PySem.W.Frag) : Sp := fun vs H Q _ => ∃ (a : Addr) (ns : List Int) (k : Int), vs = [.ref a, .int k] ∧ SqL K H a (ns.map V.int) ∧ ns.length ≤ 63 ∧
  ∀ p H' x y, H p = none → H' p = some (.lst [.int x, .int y]) → Same H H' → 0 ≤ x → 0 ≤ y → y < 2147483647 → Q (.ref p) H'
theorem ok_hand (T : Txt K mg) : FnR P w K mg base CX0 1 T.f_l_hand (spHand K) := by
  refine T.A_l_hand.ok sc_l_hand (fun vs H Q E h => ?_) (fun cdv A outer s H vs Q E hr h => ?_)
  · obtain ⟨a, ns, k, rfl, _⟩ := h
    rfl
  · obtain ⟨a, ns, k, rfl, hS, hl, q⟩ := h
    refine ⟨_, pss_cons (ps_set (i := 2) sc_l_hand.nd rfl (Or.inl rfl) (pe_ix ix_list (pe_op op_cat (pe_slice sl_list (pv 0) (po_some (pv 1)) (po_some (pe_op op_add (pv 1) pe_int))) (pe_lst (pa_cons pe_int pa_nil))) pe_int (fun _ _ => rfl)))
      (pss_cons (ps_set (i := 3) sc_l_hand.nd rfl (Or.inl rfl) (pe_op op_mod (pe_op op_mul (pe_op op_add (pe_op op_add (pe_op op_mod (pv 2) pe_int) (pe_op op_mul pe_int (pv 1))) pe_int) pe_int) pe_int))
      (pss_one (ps_ret (pe_lst (pa_cons (pe_op op_mul (pe_callTy call_int1 (by rfl) T.n_int (by decide +kernel) (pa_cons (pe_cmpR op_ge (pv 2) (pe_op op_pow pe_int pe_int) (nomark _)) pa_nil)) (pv 2)) (pa_cons (pv 3) pa_nil)))))), ?_⟩
    refine ⟨_, rfl, _, rfl, _, rfl, _, rfl, _, _, rfl, rfl, _, rfl, a, _, rfl, hS, fun p1 n1 => ?_⟩
    refine ⟨(by show 1 ≤ sizeLine; decide), fun p2 n2 => ?_⟩
    have n12 : p1 ≠ p2 := ne_of_none upd_same n2
    have hcl := cutV_length (ns.map V.int) (some k) (some (k + 1))
    rw [List.length_map] at hcl
    refine ⟨p1, p2, cutV (ns.map V.int) (some k) (some (k + 1)), [.int 0], rfl, rfl, (by rw [upd_ne n12, upd_same]), upd_same, ?_, fun p3 n3 => ?_⟩
    · show _ + 1 ≤ sizeLine
      exact Nat.le_trans (by omega : _ ≤ 64) (by decide)
    obtain ⟨c, hc⟩ := head_int _ (cut_int ns (some k) (some (k + 1)))
    refine ⟨p3, _, 0, .int c, rfl, rfl, SqL.of upd_same, hc, ?_⟩
    refine ⟨_, rfl, _, _, rfl, rfl, (by show (0 : Int) < 2147483647; decide), _, rfl, _, _, rfl, rfl, .inl ⟨by decide, by decide⟩, _, _, rfl, rfl, _, _, rfl, rfl, _, _, rfl, rfl, .inr ⟨by decide, by decide⟩, _, _, rfl, rfl, (by show (0 : Int) < 2147483629; decide), ?_⟩
    refine ⟨_, rfl, _, _, rfl, rfl, ⟨by decide, by decide, by decide⟩, _, _, rfl, rfl, .inr ⟨_, rfl, _, rfl, _, _, rfl, rfl, .inl ?_, _, rfl, (by show 2 ≤ sizeLine; decide), fun p4 n4 => ?_⟩⟩
    · cases decide ((10 : Int) ^ (18 : Int).toNat ≤ c) <;> exact ⟨by decide, by decide⟩
    · have s3 := ((Same.new (o := .lst (cutV (ns.map V.int) (some k) (some (k + 1)))) n1).trans (Same.new (o := .lst [.int 0]) n2)).trans (Same.new (o := .lst (cutV (ns.map V.int) (some k) (some (k + 1)) ++ [.int 0])) n3)
      refine q p4 _ _ _ (s3.free n4) upd_same (s3.trans (Same.new n4)) ?_ (Int.emod_nonneg _ (by decide)) ?_
      · cases hd : decide ((10 : Int) ^ (18 : Int).toNat ≤ c) with
        | true =>
          have := of_decide_eq_true hd
          have h10 : (0 : Int) ≤ 10 ^ (18 : Int).toNat := by decide
          show 0 ≤ 1 * c
          omega
        | false => show 0 ≤ 0 * c; omega
      · have := Int.emod_lt_of_pos ((c % 2147483647 + 7919 * k + 1) * 48271) (show (0 : Int) < 2147483629 by decide)
        omega
end
end My
namespace My
open PySem L2 U StX PM
section
variable {P : Program} {w : World} {K : PySem.W.Frag} {mg : Str → Option Value} {base : Heap}
def rowOk (n : Int) (p : Int × Int) : Bool := inR (.int p.1) 0 (n - 1) && inR (.int p.2) 0 (n - 1)
def okArr (n : Int) (l : List (Int × Int)) : Bool := l.all (rowOk n) && decide (l.map (·.2)).Nodup
def tgt (l : List (Int × Int)) : List (Key × V) := l.map fun p => (Sum.inl p.2, V.bl true)
theorem tgt_key {l : List (Int × Int)} {y : Int} : (Sum.inl y : Key) ∈ (tgt l).map (·.1) ↔ y ∈ l.map (·.2) := by
  unfold tgt
  rw [List.map_map]
  constructor
  · intro h
    obtain ⟨p, hp, e⟩ := List.mem_map.mp h
    exact List.mem_map.mpr ⟨p, hp, Sum.inl.inj e⟩
  · intro h
    obtain ⟨p, hp, e⟩ := List.mem_map.mp h
    exact List.mem_map.mpr ⟨p, hp, congrArg Sum.inl e⟩
theorem tgt_val {l : List (Int × Int)} {y : Int} : (valV (tgt l) (Sum.inl y : Key)).isSome = decide (y ∈ l.map (·.2)) := by
  by_cases h : y ∈ l.map (·.2)
  · have h' := tgt_key.mpr h
    rw [decide_eq_true h]
    cases e : valV (tgt l) (Sum.inl y : Key) with
    | some v => rfl
    | none =>
      obtain ⟨p, hp, e2⟩ := List.mem_map.mp h'
      exfalso
      unfold valV at e
      rw [Option.map_eq_none_iff, List.find?_eq_none] at e
      exact e p hp (by simp [e2])
  · rw [decide_eq_false h, valV_none fun z => h (tgt_key.mp z)]
    rfl
theorem okArr_step {n : Int} {l : List (Int × Int)} {i : Nat} {p : Int × Int} (h : l[i]? = some p) : okArr n (l.take (i + 1)) = (okArr n (l.take i) && (rowOk n p && !decide (p.2 ∈ (l.take i).map (·.2)))) := by
  rw [take_more h]
  unfold okArr
  rw [List.all_append, List.map_append]
  have e : decide (((l.take i).map (·.2) ++ [p].map (·.2)).Nodup) = (decide ((l.take i).map (·.2)).Nodup && !decide (p.2 ∈ (l.take i).map (·.2))) := by
    rw [Bool.eq_iff_iff]
    simp only [decide_eq_true_eq, Bool.and_eq_true, Bool.not_eq_true', decide_eq_false_iff_not]
    rw [List.nodup_append]
    constructor
    · rintro ⟨h1, _, h2⟩
      exact ⟨h1, fun hm => h2 _ hm _ (by simp) rfl⟩
    · rintro ⟨h1, h2⟩
      refine ⟨h1, by simp, fun a ha b hb e => ?_⟩
      simp at hb
      subst hb
      exact h2 (e ▸ ha)
  rw [e]
  simp only [List.all_cons, List.all_nil, Bool.and_true]
  cases (l.take i).all (rowOk n) <;> cases rowOk n p <;> cases decide ((l.take i).map (·.2)).Nodup <;> simp
theorem okArr_cut {n : Int} {l : List (Int × Int)} {i : Nat} (h : okArr n (l.take i) = false) : okArr n l = false := by
  cases e : okArr n l with
  | false => rfl
  | true =>
    unfold okArr at e h
    rw [Bool.and_eq_true] at e
    have h1 : (l.take i).all (rowOk n) = true := by
      rw [List.all_eq_true] at e ⊢
      exact fun p hp => e.1 p (List.mem_of_mem_take hp)
    have h2 : ((l.take i).map (·.2)).Nodup := by
      have := of_decide_eq_true e.2
      rw [List.map_take]
      exact List.Sublist.nodup (List.take_sublist _ _) this
    rw [h1, decide_eq_true h2] at h
    cases h
def spArr : Sp := fun vs H Q _ => ∃ (n : Int) (d : Addr) (l : List (Int × Int)), vs = [.int n, .ref d] ∧ H d = some (.dK (kvI l)) ∧ l.length ≤ 1000 ∧ ∀ H', Same H H' → Q (.bl (okArr n l)) H'
theorem ok_are_arrows (T : Txt K mg) : FnR P w K mg base CX0 3 T.f_are_arrows spArr := by
  refine T.A_are_arrows.ok sc_are_arrows (fun vs H Q E h => ?_) (fun cdv A outer s H vs Q E hr h => ?_)
  · obtain ⟨n, d, l, rfl, _⟩ := h
    rfl
  · obtain ⟨n, d, l, rfl, hd, hl, q⟩ := h
    have hu := hu_of hr
    refine ⟨_, pss_cons (ps_if (pt_not (pt_val (pe_callB call_isi (by rfl) T.n_isinstance (by decide +kernel) (pa_cons (pv 1) (pa_cons (pe_bltn (v := .ty "dict") (u := .type "dict") (by rfl) T.n_dict (by decide +kernel) rfl) pa_nil))))) (pss_one (ps_ret pe_bl)) pss_nil)
      (pss_cons (ps_set (i := 2) sc_are_arrows.nd rfl (Or.inl rfl) pe_dnewK)
      (pss_cons (ps_lock (ps_for PassesOwn.never rfl (pi_items (pv 1)) (pg_tup rfl (pgs_cons (pg_name (i := 3) sc_are_arrows.nd rfl (Or.inl rfl)) (pgs_cons (pg_name (i := 4) sc_are_arrows.nd rfl (Or.inl rfl)) pgs_nil)))
        (pss_cons (ps_if (PW.pt (pw_or (pt_not (pt_val (pe_callR (ok_in_range T) hr T.A_in_range.kp rfl T.g_in_range pass0 (pa_cons (pv 3) (pa_cons pe_int (pa_cons (pe_op op_sub (pv 0) pe_int) pa_nil))))))
            (pw_or (pt_not (pt_val (pe_callR (ok_in_range T) hr T.A_in_range.kp rfl T.g_in_range pass0 (pa_cons (pv 4) (pa_cons pe_int (pa_cons (pe_op op_sub (pv 0) pe_int) pa_nil))))))
            (pw_or1 (pt_cmp (pc_din hu (pv 4) (pv 2))))))) (pss_one (ps_ret pe_bl)) pss_nil)
        (pss_one (ps_dput hu (pv 2) (pv 4) pe_bl rfl)))))
      (pss_one (ps_ret pe_bl)))), ?_⟩
    refine ⟨_, rfl, _, _, _, _, true, rfl, .ty _, .base (.dK hd), kit_ty (by decide +kernel), _, rfl, ?_⟩
    refine iteF ?_
    intro t ht
    have ntd : t ≠ d := fun e => by rw [e, hd] at ht; cases ht
    have hd1 : (upd H t (.dK [])) d = some (.dK (kvI l)) := by rw [upd_ne ntd.symm]; exact hd
    refine ⟨d, _, hd1, trivial, fun od => ?_⟩
    refine ⟨_, rfl, d, od, kvI l, rfl, upd_same, ?_⟩
    refine for_it walk_items (fun i σ H' => ∃ v3 v4, σ = [some (.int n), some (.ref d), some (.ref t), v3, v4] ∧ H' d = some (.frz od (.dK (kvI l))) ∧ Off d H H' ∧ H' t = some (.dK (tgt (l.take i))) ∧ okArr n (l.take i) = true)
      ⟨none, none, rfl, upd_same, (Off.new ht).tr Off.lock, (by rw [upd_ne ntd]; exact upd_same), rfl⟩ (fun i σ H' _ ⟨_, _, _, p, _⟩ => p) ?_ ?_
    · rintro i v σ H' H'' hi ⟨v3, v4, rfl, p1, p2, p3, p4⟩ ⟨U, a, b, rfl, hU, rfl, e1, e2⟩
      rw [kvI_length] at hi
      obtain ⟨⟨x, y⟩, exy⟩ : ∃ p, l[i]? = some p := ⟨_, List.getElem?_eq_getElem hi⟩
      have ek : (kvI l)[i]? = some (Sum.inl x, V.int y) := by unfold kvI; rw [List.getElem?_map, exy]; rfl
      dsimp only at e1 e2
      rw [ek] at e1 e2
      cases e1; cases e2
      have nUd : d ≠ U := ne_of_none p1 hU
      have nUt : t ≠ U := ne_of_none p3 hU
      have d3 : (upd H' U (.tup [kV (Sum.inl x), .int y])) d = some (.frz od (.dK (kvI l))) := by rw [upd_ne nUd]; exact p1
      have t3 : (upd H' U (.tup [kV (Sum.inl x), .int y])) t = some (.dK (tgt (l.take i))) := by rw [upd_ne nUt]; exact p3
      have o3 : Off d H (upd H' U (.tup [kV (Sum.inl x), .int y])) := p2.tr (Off.new hU)
      have bad : (rowOk n (x, y) && !decide (y ∈ (l.take i).map (·.2))) = false → Q (.bl false) (upd (upd H' U (.tup [kV (Sum.inl x), .int y])) d (.dK (kvI l))) := by
        intro hb
        have h1 := okArr_step (n := n) exy
        rw [p4, hb] at h1
        have := q _ (o3.back hd)
        rw [okArr_cut h1] at this
        exact this
      refine ⟨U, [.int x, .int y], rfl, SqT.of upd_same, rfl, .int x, [.int y], rfl, .int y, [], rfl, rfl, ?_⟩
      refine ⟨_, rfl, _, rfl, _, _, rfl, rfl, .int x, 0, n - 1, rfl, trivial, _, rfl, ?_⟩
      refine ifNB (fun hc => iteT ⟨d3, bad ?_⟩) (fun hc => ?_)
      · simp [rowOk, hc]
      refine ⟨_, rfl, _, rfl, _, _, rfl, rfl, .int y, 0, n - 1, rfl, trivial, _, rfl, ?_⟩
      refine ifNB (fun hc2 => iteT ⟨d3, bad ?_⟩) (fun hc2 => ?_)
      · simp [rowOk, hc2]
      refine ⟨_, rfl, _, rfl, t, _, rfl, DGet.k (k := Sum.inl y) t3, _, rfl, ?_⟩
      rw [tgt_val]
      refine ifD (fun hm => ⟨d3, bad ?_⟩) (fun hm => ?_)
      · rw [decide_eq_true hm]; simp
      have hlen : (tgt (l.take i)).length ≤ 1000 := by unfold tgt; rw [List.length_map, List.length_take]; omega
      refine ⟨_, rfl, _, rfl, t, _, rfl, DPut.k (k := Sum.inl y) t3 (small1000 hlen), ?_⟩
      refine ⟨_, _, rfl, ?_, o3.mut ht, ?_, ?_⟩
      · rw [upd_ne ntd.symm]; exact d3
      · rw [upd_same, putK_new _ (valV_none fun z => hm (tgt_key.mp z)), take_more exy]
        unfold tgt
        rw [List.map_append]
        rfl
      · rw [okArr_step exy, p4, decide_eq_false hm]
        simp [rowOk, hc, hc2]
    · rintro σ H' ⟨v3, v4, rfl, p1, p2, p3, p4⟩
      rw [kvI_length, List.take_length] at p4
      have := q _ (p2.back hd)
      rw [p4] at this
      exact ⟨p1, this⟩
end
end My
namespace My
open PySem L2 U StX PM
section
variable {P : Program} {w : World} {K : PySem.W.Frag} {mg : Str → Option Value} {base : Heap}
theorem ne_fld : ¬ (("own_size" : Str) = "own_arrows") := by decide +kernel
/-- a map's attributes -/
def flds (n : Int) (D : Addr) : List (Str × V) := putF "own_arrows" (.ref D) (putF "own_size" (.int n) [])
theorem flds_size (n : Int) (D : Addr) : (flds n D).lookup ("own_size" : Str) = some (.int n) := by
  unfold flds
  rw [lookup_putF, if_neg ne_fld, lookup_putF, if_pos rfl]
theorem flds_arrows (n : Int) (D : Addr) : (flds n D).lookup ("own_arrows" : Str) = some (.ref D) := by
  unfold flds
  rw [lookup_putF, if_pos rfl]
theorem flds_no (n : Int) (D : Addr) {m : Str} (h1 : ¬ m = "own_arrows") (h2 : ¬ m = "own_size") : (flds n D).lookup m = none := by
  unfold flds
  rw [lookup_putF, if_neg h1, lookup_putF, if_neg h2]
  all_goals rfl
/-- a Map of n elements stands at m: the map f -/
structure IsMap (C : Addr) (H : Hp) (m : Addr) (n : Int) (f : PF) : Prop where
  ob : ∃ dx D, H m = some (.ins C dx (flds n D)) ∧ H D = some (.dK (kvI (tab n f)))
  wf : WF n f
  lo : 1 ≤ n
  hi : n ≤ 300
theorem IsMap.same {C : Addr} {H H' : Hp} {m : Addr} {n : Int} {f : PF} (a : IsMap C H m n f) (s : Same H H') : IsMap C H' m n f := by
  obtain ⟨⟨dx, D, h1, h2⟩, wf, lo, hi⟩ := a
  exact ⟨⟨dx, D, s _ _ h1, s _ _ h2⟩, wf, lo, hi⟩
theorem okArr_of {n : Int} {l : List (Int × Int)} {f : PF} (d : DI l f) (w : WF n f) : okArr n l = true := by
  unfold okArr
  rw [Bool.and_eq_true]
  refine ⟨List.all_eq_true.mpr fun p hp => ?_, decide_eq_true (d.vals w)⟩
  obtain ⟨x, y⟩ := p
  have h := w.dom x y (d.mem.mp hp)
  simp only [rowOk, inR, Bool.and_eq_true, decide_eq_true_eq]
  omega
theorem madeR_tab {l : List (Int × Int)} {f : PF} (d : DI l f) (n : Nat) : madeR (fun k => (lk l k).isSome) (fun x => x) (fun k => ((lk l k).map V.int).getD .non) n = kvI (tabN f n) := by
  induction n with
  | zero => rfl
  | succ n ih =>
    rw [madeR_succ, ih]
    have e : tabN f (n + 1) = tabN f n ++ ((f (n : Int)).map fun y => ((n : Int), y)).toList := by
      unfold tabN
      rw [List.range_succ, List.filterMap_append]
      cases h : f (n : Int) <;> simp [h]
    rw [e, d.at_]
    cases h : f (n : Int) with
    | none => simp
    | some y => simp [kvI]
def spInit (C : Addr) : Sp := fun vs H Q _ => ∃ (p dx d : Addr) (n : Int) (l : List (Int × Int)) (f : PF), vs = [.ref p, .int n, .ref d] ∧ H p = some (.ins C dx []) ∧ H d = some (.dK (kvI l)) ∧ DI l f ∧ WF n f ∧ 1 ≤ n ∧ n ≤ 300 ∧ l.length ≤ 1000 ∧
  ∀ (H' : Hp) (D : Addr), Off p H H' → H D = none → H' p = some (.ins C dx (flds n D)) → H' D = some (.dK (kvI (tab n f))) → Q .non H'
theorem ok_init (T : Txt K mg) : FnR P w K mg base CX0 4 T.f_Map__init (spInit T.C_Map) := by
  refine T.A_Map__init.ok sc_Map__init (fun vs H Q E h => ?_) (fun cdv A outer s H vs Q E hr h => ?_)
  · obtain ⟨p, dx, d, n, l, f, rfl, _⟩ := h
    rfl
  · obtain ⟨p, dx, d, n, l, f, rfl, hp, hd, di, wf, h1, h3, hl, q⟩ := h
    have hu := hu_of hr
    obtain ⟨tk, hms⟩ := T.v_MAX_SIZE
    refine ⟨_, pss_cons (ps_if (pt_not (pt_val (pe_callR (ok_in_range T) (hr.mono (by decide)) T.A_in_range.kp rfl T.g_in_range pass0 (pa_cons (pv 1) (pa_cons pe_int (pa_cons (pe_glob (v := .int 300) rfl hms ⟨_, rfl⟩) pa_nil)))))) (pss_one ps_never) pss_nil)
      (pss_cons (ps_if (pt_not (pt_val (pe_callR (ok_are_arrows T) hr T.A_are_arrows.kp rfl T.g_are_arrows pass0 (pa_cons (pv 1) (pa_cons (pv 2) pa_nil))))) (pss_one ps_never) pss_nil)
      (pss_cons (ps_fld (pv 0) (pv 1) rfl)
      (pss_one (ps_fld (pv 0) (pe_dc (own := [("source", 3)]) (g := gName 3) rfl sc_Map__init.nd (pi_range1 rfl T.n_range (pa_cons (pv 1) pa_nil)) (blkOk_by (own := [("source", 3)]) (N := n_Map__init) (sc := defScope s_Map__init) (by decide +kernel))
        (fun _ _ _ _ _ => pg_name (i := 3) sc_Map__init.nd rfl (Or.inl rfl)) (fun _ _ _ _ _ => pts_one (pt_cmp (pc_din hu (pv 3) (pv 2)))) (fun _ _ _ _ _ => pv 3) (fun _ _ _ _ _ => pe_dget hu (pv 2) (pv 3) (fun _ _ => rfl))) rfl)))), ?_⟩
    refine ⟨_, rfl, .int n, 1, 300, rfl, trivial, _, rfl, ?_⟩
    have e1 : inR (.int n) 1 300 = true := by simp [inR, h1, h3]
    rw [e1]
    refine iteF ⟨_, rfl, _, rfl, n, d, l, rfl, hd, hl, fun H1 s1 => ⟨_, rfl, ?_⟩⟩
    rw [okArr_of di wf]
    refine iteF ?_
    have hp1 := s1 _ _ hp
    have npd : p ≠ d := ne_of hp hd (by intro z; cases z)
    refine ⟨_, rfl, _, rfl, p, T.C_Map, dx, [], rfl, hp1, T.o_Map.cl, T.na_own_size_Map, (by show 0 < 1000; decide), ?_⟩
    have hd1 : (upd H1 p (.ins T.C_Map dx (putF "own_size" (.int n) []))) d = some (.dK (kvI l)) := by rw [upd_ne npd.symm]; exact s1 _ _ hd
    dsimp only [sFld]
    refine dc_range (n := n.toNat) (fun k => (lk l k).isSome) (fun k => ((lk l k).map V.int).getD .non) (fun R r => ⟨_, rfl, n, rfl, by omega, by omega, r⟩) (fun _ => rfl) ?_ (small1000 (by omega)) ?_
    · intro k hk H2 s2
      have hd2 := s2 _ _ hd1
      refine ⟨fun R r => ?_, fun hc => ⟨fun R r => ?_, fun R r => ?_⟩⟩
      · refine ⟨_, rfl, _, rfl, d, _, rfl, DGet.k (k := Sum.inl (0 + (k : Int))) hd2, _, rfl, ?_⟩
        rw [valV_kvI, Option.isSome_map, Int.zero_add]
        exact r
      · refine ⟨_, rfl, ?_⟩
        rw [Int.zero_add]
        exact r
      · cases hv : lk l (k : Int) with
        | none => rw [hv] at hc; cases hc
        | some y =>
          rw [hv] at r
          refine ⟨_, rfl, _, rfl, d, .int y, rfl, ?_, r⟩
          have := DGet.k (k := Sum.inl (0 + (k : Int))) hd2
          rw [valV_kvI, Int.zero_add, hv] at this
          rw [Int.zero_add]
          exact this
    · intro D H2 nD hD s2
      rw [madeR_tab di] at hD
      have hp2 := s2 _ _ (upd_same : (upd H1 p (.ins T.C_Map dx (putF "own_size" (.int n) []))) p = _)
      refine ⟨_, rfl, p, T.C_Map, dx, _, rfl, hp2, T.o_Map.cl, T.na_own_arrows_Map, (by show 1 < 1000; decide), ?_⟩
      have nDp : D ≠ p := fun e => by rw [e, upd_same] at nD; cases nD
      have nD1 : H1 D = none := by rw [upd_ne nDp] at nD; exact nD
      refine q _ D (fun b o hb e => ?_) (s1.free nD1) upd_same ?_
      · rw [upd_ne hb]
        refine s2 _ _ ?_
        rw [upd_ne hb]
        exact s1 _ _ e
      · rw [upd_ne nDp]
        exact hD
end
end My
namespace My
open PySem L2 U StX PM
/-! ### what a comprehension over pairs of ints makes -/
def madeI (c : Int → Int → Bool) (kf vi : Int → Int → Int) (l : List (Int × Int)) : List (Int × Int) := (l.filter fun p => c p.1 p.2).map fun p => (kf p.1 p.2, vi p.1 p.2)
theorem madeD_I (c : Int → Int → Bool) (kf vi : Int → Int → Int) (l : List (Int × Int)) : madeD c kf (fun x y => .int (vi x y)) l = kvI (madeI c kf vi l) := by
  unfold madeD madeI kvI
  rw [List.map_map]
  rfl
theorem kvI_keys (l : List (Int × Int)) : (kvI l).map (·.1) = (l.map (·.1)).map Sum.inl := by
  unfold kvI
  rw [List.map_map, List.map_map]
  rfl
theorem nd_inl {l : List Int} (h : l.Nodup) : (l.map (Sum.inl : Int → Key)).Nodup := by
  induction l with
  | nil => exact List.nodup_nil
  | cons a r ih =>
    rw [List.nodup_cons] at h
    rw [List.map_cons, List.nodup_cons]
    refine ⟨fun hm => ?_, ih h.2⟩
    obtain ⟨b, hb, e⟩ := List.mem_map.mp hm
    exact h.1 (Sum.inl.inj e ▸ hb)
theorem mem_madeI {c : Int → Int → Bool} {kf vi : Int → Int → Int} {l : List (Int × Int)} {a b : Int} : (a, b) ∈ madeI c kf vi l ↔ ∃ x y, (x, y) ∈ l ∧ c x y = true ∧ kf x y = a ∧ vi x y = b := by
  unfold madeI
  rw [List.mem_map]
  constructor
  · rintro ⟨⟨x, y⟩, h, e⟩
    have h1 := List.mem_filter.mp h
    cases e
    exact ⟨x, y, h1.1, h1.2, rfl, rfl⟩
  · rintro ⟨x, y, h1, h2, rfl, rfl⟩
    exact ⟨(x, y), List.mem_filter.mpr ⟨h1, h2⟩, rfl⟩
theorem madeI_len (c : Int → Int → Bool) (kf vi : Int → Int → Int) (l : List (Int × Int)) : (madeI c kf vi l).length ≤ l.length := by
  unfold madeI
  rw [List.length_map]
  exact List.length_filter_le _ _
/-- the sources kept -/
theorem nd_src {c : Int → Int → Bool} {vi : Int → Int → Int} {l : List (Int × Int)} (h : (l.map (·.1)).Nodup) : ((madeI c (fun x _ => x) vi l).map (·.1)).Nodup := by
  unfold madeI
  rw [List.map_map]
  exact List.Sublist.nodup ((List.filter_sublist (p := fun p : Int × Int => c p.1 p.2)).map (·.1)) h
/-- the targets for sources -/
theorem nd_tgt {c : Int → Int → Bool} {vi : Int → Int → Int} {l : List (Int × Int)} (h : (l.map (·.2)).Nodup) : ((madeI c (fun _ y => y) vi l).map (·.1)).Nodup := by
  unfold madeI
  rw [List.map_map]
  exact List.Sublist.nodup ((List.filter_sublist (p := fun p : Int × Int => c p.1 p.2)).map (·.2)) h
section
variable {P : Program} {w : World} {K : PySem.W.Frag} {mg : Str → Option Value} {base : Heap}
theorem mk_map {C : Addr} {H : Hp} {d : Addr} {n : Int} {l : List (Int × Int)} {f : PF} {Q : VK} {E : XK} (hd : H d = some (.dK (kvI l))) (di : DI l f) (wf : WF n f) (h1 : 1 ≤ n) (h3 : n ≤ 300) (hl : l.length ≤ 1000)
    (q : ∀ r H', H r = none → Same H H' → IsMap C H' r n f → Q (.ref r) H') (x dx : Addr) (hx : H x = none) (hdx : H dx = none) (ne : dx ≠ x) :
    spInit C [.ref x, .int n, .ref d] (upd (upd H dx (.own x)) x (.ins C dx [])) (fun v H2 => v = .non ∧ Q (.ref x) H2) E := by
  have s0 : Same H (upd (upd H dx (.own x)) x (.ins C dx [])) := fun b o e => by
    rw [upd_ne (ne_of_none e hx), upd_ne (ne_of_none e hdx)]
    exact e
  refine ⟨x, dx, d, n, l, f, rfl, upd_same, s0 _ _ hd, di, wf, h1, h3, hl, fun H' D o nD hp hD => ⟨rfl, ?_⟩⟩
  refine q x H' hx (fun b u e => o b u (ne_of_none e hx) (s0 b u e)) ⟨⟨dx, D, hp, hD⟩, wf, h1, h3⟩
/-! ### size, arrows, common_size -/
def spSize (C : Addr) : Sp := fun vs H Q _ => ∃ m n f, vs = [.ref m] ∧ IsMap C H m n f ∧ Q (.int n) H
theorem ok_size (T : Txt K mg) : FnR P w K mg base CX0 1 T.f_Map_size (spSize T.C_Map) := by
  refine T.A_Map_size.ok sc_Map_size (fun vs H Q E h => ?_) (fun cdv A outer s H vs Q E hr h => ?_)
  · obtain ⟨m, n, f, rfl, _⟩ := h
    rfl
  · obtain ⟨m, n, f, rfl, ⟨⟨dx, D, h1, h2⟩, _⟩, q⟩ := h
    refine ⟨_, pss_one (ps_ret (pe_fld (pv 0) rfl)), ?_⟩
    exact ⟨_, rfl, m, _, dx, _, _, rfl, h1, T.o_Map.cl, T.na_own_size_Map, flds_size _ _, q⟩
def spArrows (C : Addr) : Sp := fun vs H Q _ => ∃ m n f, vs = [.ref m] ∧ IsMap C H m n f ∧ ∀ p, H p = none → Q (.ref p) (upd H p (.dK (kvI (tab n f))))
theorem ok_arrows (T : Txt K mg) : FnR P w K mg base CX0 1 T.f_Map_arrows (spArrows T.C_Map) := by
  refine T.A_Map_arrows.ok sc_Map_arrows (fun vs H Q E h => ?_) (fun cdv A outer s H vs Q E hr h => ?_)
  · obtain ⟨m, n, f, rfl, _⟩ := h
    rfl
  · obtain ⟨m, n, f, rfl, ⟨⟨dx, D, h1, h2⟩, _⟩, q⟩ := h
    refine ⟨_, pss_one (ps_ret (pe_callTy call_dictD (by rfl) T.n_dict (by decide +kernel) (pa_cons (pe_fld (pv 0) rfl) pa_nil))), ?_⟩
    exact ⟨_, rfl, m, _, dx, _, _, rfl, h1, T.o_Map.cl, T.na_own_arrows_Map, flds_arrows _ _, D, _, rfl, Rd.of h2, q⟩
theorem at_map {C : Addr} {H : Hp} {m : Addr} {n : Int} {f : PF} (h : IsMap C H m n f) : ∃ dx fs, H m = some (.ins C dx fs) := by
  obtain ⟨⟨dx, D, h1, _⟩, _⟩ := h
  exact ⟨dx, _, h1⟩
def spCommon (C : Addr) : Sp := fun vs H Q _ => ∃ a b n f g, vs = [.ref a, .ref b] ∧ IsMap C H a n f ∧ IsMap C H b n g ∧ Q (.int n) H
theorem ok_common (T : Txt K mg) : FnR P w K mg base CX0 3 T.f_common_size (spCommon T.C_Map) := by
  refine T.A_common_size.ok sc_common_size (fun vs H Q E h => ?_) (fun cdv A outer s H vs Q E hr h => ?_)
  · obtain ⟨a, b, n, f, g, rfl, _⟩ := h
    rfl
  · obtain ⟨a, b, n, f, g, rfl, ha, hb, q⟩ := h
    refine ⟨_, pss_cons (ps_if (pt_cmpR op_ne (pe_propR (pv 0) T.o_Map.cl T.P_Map_size (ok_size T) hr) (pe_propR (pv 1) T.o_Map.cl T.P_Map_size (ok_size T) hr) (nomark _)) (pss_one ps_never) pss_nil)
      (pss_one (ps_ret (pe_propR (pv 0) T.o_Map.cl T.P_Map_size (ok_size T) hr))), ?_⟩
    obtain ⟨dx, fs, h1⟩ := at_map ha
    obtain ⟨dy, gs, h2⟩ := at_map hb
    refine ⟨_, rfl, a, dx, fs, rfl, h1, a, n, f, rfl, ha, _, rfl, b, dy, gs, rfl, h2, b, n, g, rfl, hb, rfl, _, rfl, ?_⟩
    refine iteNS rfl ?_
    exact ⟨_, rfl, a, dx, fs, rfl, h1, a, n, f, rfl, ha, q⟩
/-! ### the operators -/
def spOp (C : Addr) (op : PF → PF → PF) : Sp := fun vs H Q _ => ∃ a b n f g, vs = [.ref a, .ref b] ∧ IsMap C H a n f ∧ IsMap C H b n g ∧ ∀ r H', H r = none → Same H H' → IsMap C H' r n (op f g) → Q (.ref r) H'
theorem mul_di {n : Int} {f g : PF} (wf : WF n f) (wg : WF n g) : DI (madeI (fun _ y => (g y).isSome) (fun x _ => x) (fun _ y => (g y).getD 0) (tab n f)) (mul f g) := by
  refine di_of (nd_src (keys_tab n f)) fun a b => ?_
  rw [mem_madeI]
  constructor
  · rintro ⟨x, y, h1, h2, rfl, rfl⟩
    have e := (mem_tab wf).mp h1
    unfold mul
    rw [e]
    cases hg : g y with
    | none => rw [hg] at h2; cases h2
    | some z => show g y = _; rw [hg]; rfl
  · intro h
    unfold mul at h
    cases e : f a with
    | none => rw [e] at h; cases h
    | some y =>
      rw [e] at h
      have h' : g y = some b := h
      exact ⟨a, y, (mem_tab wf).mpr e, by rw [h']; rfl, rfl, by rw [h']; rfl⟩
theorem ok_mul (T : Txt K mg) : FnR P w K mg base CX0 6 T.f_Map__mul (spOp T.C_Map mul) := by
  refine T.A_Map__mul.ok sc_Map__mul (fun vs H Q E h => ?_) (fun cdv A outer s H vs Q E hr h => ?_)
  · obtain ⟨a, b, n, f, g, rfl, _⟩ := h
    rfl
  · obtain ⟨a, b, n, f, g, rfl, ha, hb, q⟩ := h
    have hu := hu_of hr
    refine ⟨_, pss_cons (ps_if (pt_not (pt_val (pe_callB call_isi (by rfl) T.n_isinstance (by decide +kernel) (pa_cons (pv 1) (pa_cons (pe_glob (v := .ref T.C_Map) rfl T.g_Map rfl) pa_nil))))) (pss_one ps_never) pss_nil)
      (pss_cons (ps_set (i := 2) sc_Map__mul.nd rfl (Or.inl rfl) (pe_callR (ok_common T) (hr.mono (by decide)) T.A_common_size.kp rfl T.g_common_size pass0 (pa_cons (pv 0) (pa_cons (pv 1) pa_nil))))
      (pss_cons (ps_set (i := 3) sc_Map__mul.nd rfl (Or.inr rfl) (pe_propR (pv 1) T.o_Map.cl T.P_Map_arrows (ok_arrows T) (hr.mono (by decide))))
      (pss_one (ps_ret (pe_makeR T.M_Map (ok_init T) hr rfl T.g_Map pass0 (pa_cons (pv 2) (pa_cons (pe_lock (pe_dc (own := [("source", 4), ("target", 5)]) (g := gTup K 2 (gCons (gName 4) (gCons (gName 5) gNil))) rfl sc_Map__mul.nd (pi_items (pe_fld (pv 0) rfl))
        (blkOk_by (own := [("source", 4), ("target", 5)]) (N := n_Map__mul) (sc := defScope s_Map__mul) (by decide +kernel))
        (fun _ _ _ _ _ => pg_tup rfl (pgs_cons (pg_name (i := 4) sc_Map__mul.nd rfl (Or.inl rfl)) (pgs_cons (pg_name (i := 5) sc_Map__mul.nd rfl (Or.inl rfl)) pgs_nil)))
        (fun _ _ _ _ _ => pts_one (pt_cmp (pc_din hu (pv 5) (pv 3)))) (fun _ _ _ _ _ => pv 4) (fun _ _ _ _ _ => pe_dget hu (pv 3) (pv 5) (fun _ _ => rfl)))) pa_nil))))))), ?_⟩
    obtain ⟨dx, D, h1, h2⟩ := id ha.ob
    obtain ⟨dy, gs, h3⟩ := at_map hb
    refine ⟨_, rfl, _, _, _, _, true, rfl, .own _, tyx_ins T.o_Map h3, T.self_Map, _, rfl, iteF ?_⟩
    refine ⟨_, rfl, _, rfl, a, b, n, f, g, rfl, ha, hb, ?_⟩
    refine ⟨_, rfl, b, dy, gs, rfl, h3, b, n, g, rfl, hb, fun p hp => ?_⟩
    refine ⟨_, rfl, ?_⟩
    have s1 : Same H (upd H p (.dK (kvI (tab n g)))) := Same.new hp
    have npD : D ≠ p := ne_of_none h2 hp
    refine dc_items (fun _ y => (g y).isSome) (fun x _ => x) (fun _ y => .int ((g y).getD 0)) (s1 _ _ h2) (fun H' R r o => ?_) (fun _ _ => rfl) ?_ ?_ ?_ ?_
    · refine ⟨_, rfl, a, _, dx, _, _, rfl, o _ _ (ne_of h1 h2 (by intro z; cases z)) (s1 _ _ h1), T.o_Map.cl, T.na_own_arrows_Map, flds_arrows _ _, r⟩
    · intro x y hxy H1 o
      have hl1 : H1 p = some (.dK (kvI (tab n g))) := o _ _ npD.symm upd_same
      refine ⟨fun R r => ?_, fun hc => ⟨fun R r => ⟨_, rfl, r⟩, fun R r => ?_⟩⟩
      · refine ⟨_, rfl, _, rfl, p, _, rfl, DGet.k (k := Sum.inl y) hl1, _, rfl, ?_⟩
        rw [valV_kvI, Option.isSome_map, lk_tab hb.wf]
        exact r
      · cases hv : g y with
        | none => rw [hv] at hc; cases hc
        | some z =>
          rw [hv] at r
          refine ⟨_, rfl, _, rfl, p, .int z, rfl, ?_, r⟩
          have := DGet.k (k := Sum.inl y) hl1
          rw [valV_kvI, lk_tab hb.wf, hv] at this
          exact this
    · rw [madeD_I, kvI_keys]
      exact nd_inl (nd_src (keys_tab n f))
    · have h9 := ha.hi
      exact small1000 (Nat.le_trans (tab_len n f) (by omega))
    · intro D2 H2 nD2 hD2 s2
      rw [madeD_I] at hD2
      have h9 := ha.hi
      refine mk_map hD2 (mul_di ha.wf hb.wf) (wf_mul ha.wf hb.wf) ha.lo ha.hi (Nat.le_trans (madeI_len ..) (Nat.le_trans (tab_len n f) (by omega))) fun r H3 nr s3 hm => ?_
      exact q r H3 ((s1.trans s2).free nr) ((s1.trans s2).trans s3) hm
end
end My
namespace My
open PySem L2 U StX PM
section
variable {P : Program} {w : World} {K : PySem.W.Frag} {mg : Str → Option Value} {base : Heap}
/-! ### ~f -/
theorem inv_di {n : Int} {f : PF} (wf : WF n f) : DI (madeI (fun _ _ => true) (fun _ y => y) (fun x _ => x) (tab n f)) (inv n f) := by
  refine di_of (nd_tgt (vals_tab wf)) fun a b => ?_
  rw [mem_madeI, inv_iff wf]
  constructor
  · rintro ⟨x, y, h1, _, rfl, rfl⟩
    exact (mem_tab wf).mp h1
  · intro h
    exact ⟨b, a, (mem_tab wf).mpr h, rfl, rfl, rfl⟩
def spInv (C : Addr) : Sp := fun vs H Q _ => ∃ a n f, vs = [.ref a] ∧ IsMap C H a n f ∧ ∀ r H', H r = none → Same H H' → IsMap C H' r n (inv n f) → Q (.ref r) H'
theorem ok_invert (T : Txt K mg) : FnR P w K mg base CX0 6 T.f_Map__invert (spInv T.C_Map) := by
  refine T.A_Map__invert.ok sc_Map__invert (fun vs H Q E h => ?_) (fun cdv A outer s H vs Q E hr h => ?_)
  · obtain ⟨a, n, f, rfl, _⟩ := h
    rfl
  · obtain ⟨a, n, f, rfl, ha, q⟩ := h
    refine ⟨_, pss_one (ps_ret (pe_makeR T.M_Map (ok_init T) hr rfl T.g_Map pass0 (pa_cons (pe_fld (pv 0) rfl) (pa_cons (pe_lock (pe_dc (own := [("source", 1), ("target", 2)]) (g := gTup K 2 (gCons (gName 1) (gCons (gName 2) gNil))) (tt := tYes) rfl sc_Map__invert.nd (pi_items (pe_fld (pv 0) rfl))
        (blkOk_by (own := [("source", 1), ("target", 2)]) (N := n_Map__invert) (sc := defScope s_Map__invert) (by decide +kernel))
        (fun _ _ _ _ _ => pg_tup rfl (pgs_cons (pg_name (i := 1) sc_Map__invert.nd rfl (Or.inl rfl)) (pgs_cons (pg_name (i := 2) sc_Map__invert.nd rfl (Or.inl rfl)) pgs_nil)))
        (fun _ _ _ _ _ => pts_nil) (fun _ _ _ _ _ => pv 2) (fun _ _ _ _ _ => pv 1))) pa_nil)))), ?_⟩
    obtain ⟨dx, D, h1, h2⟩ := id ha.ob
    have h9 := ha.hi
    refine ⟨_, rfl, a, _, dx, _, _, rfl, h1, T.o_Map.cl, T.na_own_size_Map, flds_size _ _, ?_⟩
    refine dc_items (fun _ _ => true) (fun _ y => y) (fun x _ => .int x) h2 (fun H' R r o => ?_) (fun _ _ => rfl) ?_ ?_ ?_ ?_
    · refine ⟨_, rfl, a, _, dx, _, _, rfl, o _ _ (ne_of h1 h2 (by intro z; cases z)) h1, T.o_Map.cl, T.na_own_arrows_Map, flds_arrows _ _, r⟩
    · intro x y hxy H1 o
      exact ⟨fun R r => r, fun _ => ⟨fun R r => ⟨_, rfl, r⟩, fun R r => ⟨_, rfl, r⟩⟩⟩
    · rw [madeD_I, kvI_keys]
      exact nd_inl (nd_tgt (vals_tab ha.wf))
    · exact small1000 (Nat.le_trans (tab_len n f) (by omega))
    · intro D2 H2 nD2 hD2 s2
      rw [madeD_I] at hD2
      refine mk_map hD2 (inv_di ha.wf) (wf_inv ha.wf) ha.lo ha.hi (Nat.le_trans (madeI_len ..) (Nat.le_trans (tab_len n f) (by omega))) fun r H3 nr s3 hm => ?_
      exact q r H3 (s2.free nr) (s2.trans s3) hm
/-! ### f & g, f - g -/
theorem and_di {n : Int} {f g : PF} (wf : WF n f) : DI (madeI (fun x y => decide (g x = some y)) (fun x _ => x) (fun _ y => y) (tab n f)) (andf f g) := by
  refine di_of (nd_src (keys_tab n f)) fun a b => ?_
  rw [mem_madeI]
  constructor
  · rintro ⟨x, y, h1, h2, rfl, rfl⟩
    have e := (mem_tab wf).mp h1
    have e2 := of_decide_eq_true h2
    unfold andf
    rw [e, e2, if_pos rfl]
  · intro h
    have h1 := le_and1 f g a b h
    have h2 := le_and2 f g a b h
    exact ⟨a, b, (mem_tab wf).mpr h1, decide_eq_true h2, rfl, rfl⟩
theorem sub_di {n : Int} {f g : PF} (wf : WF n f) : DI (madeI (fun x y => !decide (g x = some y)) (fun x _ => x) (fun _ y => y) (tab n f)) (subf f g) := by
  refine di_of (nd_src (keys_tab n f)) fun a b => ?_
  rw [mem_madeI]
  constructor
  · rintro ⟨x, y, h1, h2, rfl, rfl⟩
    have e := (mem_tab wf).mp h1
    have e2 : ¬ g x = some y := by simpa using h2
    unfold subf
    rw [e, if_neg fun z => e2 z.symm]
  · intro h
    have h1 := le_sub f g a b h
    refine ⟨a, b, (mem_tab wf).mpr h1, ?_, rfl, rfl⟩
    unfold subf at h
    by_cases e : f a = g a
    · rw [if_pos e] at h; cases h
    · have : ¬ g a = some b := fun z => e (h1.trans z.symm)
      simp [this]
theorem isD_of {H : Hp} {a : Addr} {kvs : List (Key × V)} (h : H a = some (.dK kvs)) : IsD H a := by
  first | exact .inl ⟨_, .inl h⟩ | exact ⟨_, .inl h⟩ | exact .inl ⟨_, h⟩ | exact .inr (.inl ⟨_, h⟩)
theorem getD_int (o : Option Int) : (o.map V.int).getD .non = (match o with | some y => V.int y | none => V.non) := by cases o <;> rfl
theorem scal_get (o : Option Int) (y : Int) : scal ((o.map V.int).getD .non) (.int y) = true := by cases o <;> rfl
theorem eq_get (o : Option Int) (y : Int) : decide ((o.map V.int).getD .non = V.int y) = decide (o = some y) := by
  cases o with
  | none => rfl
  | some z =>
    by_cases h : z = y
    · subst h; simp
    · have h1 : ¬ V.int z = V.int y := fun e => h (V.int.inj e)
      simp [h]
end
end My
namespace My
open PySem L2 U StX PM
section
variable {P : Program} {w : World} {K : PySem.W.Frag} {mg : Str → Option Value} {base : Heap}

theorem ok_and (T : Txt K mg) : FnR P w K mg base CX0 6 T.f_Map__and (spOp T.C_Map andf) := by
  refine T.A_Map__and.ok sc_Map__and (fun vs H Q E h => ?_) (fun cdv A outer s H vs Q E hr h => ?_)
  · obtain ⟨a, b, n, f, g, rfl, _⟩ := h
    rfl
  · obtain ⟨a, b, n, f, g, rfl, ha, hb, q⟩ := h
    have hu := hu_of hr
    refine ⟨_, pss_cons (ps_if (pt_not (pt_val (pe_callB call_isi (by rfl) T.n_isinstance (by decide +kernel) (pa_cons (pv 1) (pa_cons (pe_glob (v := .ref T.C_Map) rfl T.g_Map rfl) pa_nil))))) (pss_one ps_never) pss_nil)
      (pss_cons (ps_set (i := 2) sc_Map__and.nd rfl (Or.inl rfl) (pe_callR (ok_common T) (hr.mono (by decide)) T.A_common_size.kp rfl T.g_common_size pass0 (pa_cons (pv 0) (pa_cons (pv 1) pa_nil))))
      (pss_cons (ps_set (i := 3) sc_Map__and.nd rfl (Or.inr rfl) (pe_propR (pv 1) T.o_Map.cl T.P_Map_arrows (ok_arrows T) (hr.mono (by decide))))
      (pss_cons (ps_lock (ps_setDc (i := 4) (own := [("source", 5), ("target", 6)]) (g := gTup K 2 (gCons (gName 5) (gCons (gName 6) gNil))) rfl sc_Map__and.nd rfl rfl (sw_dict rfl rfl rfl (by decide +kernel)) (pi_items (pe_fld (pv 0) rfl))
        (blkOk_by (own := [("source", 5), ("target", 6)]) (N := n_Map__and) (sc := defScope s_Map__and) (by decide +kernel))
        (fun _ _ _ _ _ => pg_tup rfl (pgs_cons (pg_name (i := 5) sc_Map__and.nd rfl (Or.inl rfl)) (pgs_cons (pg_name (i := 6) sc_Map__and.nd rfl (Or.inl rfl)) pgs_nil)))
        (fun _ _ _ _ _ => pts_one (pt_cmpR op_eq (pe_dget1 hu (pv 3) (pv 5) ⟨rfl, rfl, rfl, rfl⟩) (pv 6) (nomark _))) (fun _ _ _ _ _ => pv 5) (fun _ _ _ _ _ => pv 6)))
      (pss_one (ps_ret (pe_makeR T.M_Map (ok_init T) hr rfl T.g_Map pass0 (pa_cons (pv 2) (pa_cons (pv 4) pa_nil)))))))), ?_⟩
    obtain ⟨dx, D, h1, h2⟩ := id ha.ob
    obtain ⟨dy, gs, h3⟩ := at_map hb
    have h9 := ha.hi
    refine ⟨_, rfl, _, _, _, _, true, rfl, .own _, tyx_ins T.o_Map h3, T.self_Map, _, rfl, iteF ?_⟩
    refine ⟨_, rfl, _, rfl, a, b, n, f, g, rfl, ha, hb, ?_⟩
    refine ⟨_, rfl, b, dy, gs, rfl, h3, b, n, g, rfl, hb, fun p hp => ?_⟩
    have s1 : Same H (upd H p (.dK (kvI (tab n g)))) := Same.new hp
    have npD : D ≠ p := ne_of_none h2 hp
    refine lock_asg ?_
    refine dc_items (fun x y => decide (g x = some y)) (fun x _ => x) (fun _ y => .int y) (s1 _ _ h2) (fun H' R r o => ?_) (fun _ _ => rfl) ?_ ?_ ?_ ?_
    · refine ⟨_, rfl, a, _, dx, _, _, rfl, o _ _ (ne_of h1 h2 (by intro z; cases z)) (s1 _ _ h1), T.o_Map.cl, T.na_own_arrows_Map, flds_arrows _ _, r⟩
    · intro x y hxy H1 o
      have hl1 : H1 p = some (.dK (kvI (tab n g))) := o _ _ npD.symm upd_same
      refine ⟨fun R r => ?_, fun hc => ⟨fun R r => ⟨_, rfl, r⟩, fun R r => ⟨_, rfl, r⟩⟩⟩
      refine ⟨_, rfl, p, rfl, isD_of hl1, _, rfl, _, DGet.k (k := Sum.inl x) hl1, _, rfl, ?_⟩
      rw [valV_kvI, lk_tab hb.wf]
      refine ⟨scal_get _ _, _, rfl, ?_⟩
      rw [eq_get]
      exact r
    · rw [madeD_I, kvI_keys]
      exact nd_inl (nd_src (keys_tab n f))
    · exact small1000 (Nat.le_trans (tab_len n f) (by omega))
    · intro D2 H2 nD2 hD2 s2
      rw [madeD_I] at hD2
      refine ⟨_, rfl, _, rfl, ?_⟩
      refine mk_map hD2 (and_di ha.wf) (wf_and ha.wf) ha.lo ha.hi (Nat.le_trans (madeI_len ..) (Nat.le_trans (tab_len n f) (by omega))) fun r H3 nr s3 hm => ?_
      exact q r H3 ((s1.trans s2).free nr) ((s1.trans s2).trans s3) hm

theorem ok_sub (T : Txt K mg) : FnR P w K mg base CX0 6 T.f_Map__sub (spOp T.C_Map subf) := by
  refine T.A_Map__sub.ok sc_Map__sub (fun vs H Q E h => ?_) (fun cdv A outer s H vs Q E hr h => ?_)
  · obtain ⟨a, b, n, f, g, rfl, _⟩ := h
    rfl
  · obtain ⟨a, b, n, f, g, rfl, ha, hb, q⟩ := h
    have hu := hu_of hr
    refine ⟨_, pss_cons (ps_if (pt_not (pt_val (pe_callB call_isi (by rfl) T.n_isinstance (by decide +kernel) (pa_cons (pv 1) (pa_cons (pe_glob (v := .ref T.C_Map) rfl T.g_Map rfl) pa_nil))))) (pss_one ps_never) pss_nil)
      (pss_cons (ps_set (i := 2) sc_Map__sub.nd rfl (Or.inl rfl) (pe_callR (ok_common T) (hr.mono (by decide)) T.A_common_size.kp rfl T.g_common_size pass0 (pa_cons (pv 0) (pa_cons (pv 1) pa_nil))))
      (pss_cons (ps_set (i := 3) sc_Map__sub.nd rfl (Or.inr rfl) (pe_propR (pv 1) T.o_Map.cl T.P_Map_arrows (ok_arrows T) (hr.mono (by decide))))
      (pss_cons (ps_lock (ps_setDc (i := 4) (own := [("source", 5), ("target", 6)]) (g := gTup K 2 (gCons (gName 5) (gCons (gName 6) gNil))) rfl sc_Map__sub.nd rfl rfl (sw_dict rfl rfl rfl (by decide +kernel)) (pi_items (pe_fld (pv 0) rfl))
        (blkOk_by (own := [("source", 5), ("target", 6)]) (N := n_Map__sub) (sc := defScope s_Map__sub) (by decide +kernel))
        (fun _ _ _ _ _ => pg_tup rfl (pgs_cons (pg_name (i := 5) sc_Map__sub.nd rfl (Or.inl rfl)) (pgs_cons (pg_name (i := 6) sc_Map__sub.nd rfl (Or.inl rfl)) pgs_nil)))
        (fun _ _ _ _ _ => pts_one (pt_cmpR op_ne (pe_dget1 hu (pv 3) (pv 5) ⟨rfl, rfl, rfl, rfl⟩) (pv 6) (nomark _))) (fun _ _ _ _ _ => pv 5) (fun _ _ _ _ _ => pv 6)))
      (pss_one (ps_ret (pe_makeR T.M_Map (ok_init T) hr rfl T.g_Map pass0 (pa_cons (pv 2) (pa_cons (pv 4) pa_nil)))))))), ?_⟩
    obtain ⟨dx, D, h1, h2⟩ := id ha.ob
    obtain ⟨dy, gs, h3⟩ := at_map hb
    have h9 := ha.hi
    refine ⟨_, rfl, _, _, _, _, true, rfl, .own _, tyx_ins T.o_Map h3, T.self_Map, _, rfl, iteF ?_⟩
    refine ⟨_, rfl, _, rfl, a, b, n, f, g, rfl, ha, hb, ?_⟩
    refine ⟨_, rfl, b, dy, gs, rfl, h3, b, n, g, rfl, hb, fun p hp => ?_⟩
    have s1 : Same H (upd H p (.dK (kvI (tab n g)))) := Same.new hp
    have npD : D ≠ p := ne_of_none h2 hp
    refine lock_asg ?_
    refine dc_items (fun x y => !decide (g x = some y)) (fun x _ => x) (fun _ y => .int y) (s1 _ _ h2) (fun H' R r o => ?_) (fun _ _ => rfl) ?_ ?_ ?_ ?_
    · refine ⟨_, rfl, a, _, dx, _, _, rfl, o _ _ (ne_of h1 h2 (by intro z; cases z)) (s1 _ _ h1), T.o_Map.cl, T.na_own_arrows_Map, flds_arrows _ _, r⟩
    · intro x y hxy H1 o
      have hl1 : H1 p = some (.dK (kvI (tab n g))) := o _ _ npD.symm upd_same
      refine ⟨fun R r => ?_, fun hc => ⟨fun R r => ⟨_, rfl, r⟩, fun R r => ⟨_, rfl, r⟩⟩⟩
      refine ⟨_, rfl, p, rfl, isD_of hl1, _, rfl, _, DGet.k (k := Sum.inl x) hl1, _, rfl, ?_⟩
      rw [valV_kvI, lk_tab hb.wf]
      refine ⟨scal_get _ _, _, rfl, ?_⟩
      rw [eq_get]
      exact r
    · rw [madeD_I, kvI_keys]
      exact nd_inl (nd_src (keys_tab n f))
    · exact small1000 (Nat.le_trans (tab_len n f) (by omega))
    · intro D2 H2 nD2 hD2 s2
      rw [madeD_I] at hD2
      refine ⟨_, rfl, _, rfl, ?_⟩
      refine mk_map hD2 (sub_di ha.wf) (wf_sub ha.wf) ha.lo ha.hi (Nat.le_trans (madeI_len ..) (Nat.le_trans (tab_len n f) (by omega))) fun r H3 nr s3 hm => ?_
      exact q r H3 ((s1.trans s2).free nr) ((s1.trans s2).trans s3) hm
end
end My
namespace My
open PySem L2 U StX PM
section
variable {P : Program} {w : World} {K : PySem.W.Frag} {mg : Str → Option Value} {base : Heap}

/-! ### is_part, <=, <, >= -/
def leL (l r : List (Int × Int)) : Bool := l.all fun p => decide (lk r p.1 = some p.2)
def spPart : Sp := fun vs H Q _ => ∃ d e l r, vs = [.ref d, .ref e] ∧ H d = some (.dK (kvI l)) ∧ H e = some (.dK (kvI r)) ∧ d ≠ e ∧ l.length ≤ 1000 ∧ ∀ H', Same H H' → Q (.bl (leL l r)) H'
theorem all_made (l : List (Int × Int)) (p : Int → Int → Bool) : madeL (fun _ _ => true) (fun x y => .bl (p x y)) l = (l.map fun q => p q.1 q.2).map V.bl := by
  unfold madeL
  rw [List.map_map]
  congr 1
  induction l with
  | nil => rfl
  | cons a r ih => rw [List.filter_cons, if_pos rfl, ih]
theorem ok_is_part (T : Txt K mg) : FnR P w K mg base CX0 1 T.f_is_part spPart := by
  refine T.A_is_part.ok sc_is_part (fun vs H Q E h => ?_) (fun cdv A outer s H vs Q E hr h => ?_)
  · obtain ⟨d, e, l, r, rfl, _⟩ := h
    rfl
  · obtain ⟨d, e, l, r, rfl, hd, he, ne, hl, q⟩ := h
    have hu := hu_of hr
    refine ⟨_, pss_one (ps_ret (pe_callB (cr_all rfl) (by rfl) T.n_all (by decide +kernel) (pa_cons (pe_lock (pe_lc (own := [("source", 2), ("target", 3)]) (g := gTup K 2 (gCons (gName 2) (gCons (gName 3) gNil))) (tt := tYes) rfl sc_is_part.nd (pi_items (pv 0))
        (blkOk_by (own := [("source", 2), ("target", 3)]) (N := n_is_part) (sc := defScope s_is_part) (by decide +kernel))
        (fun _ _ _ _ _ => pg_tup rfl (pgs_cons (pg_name (i := 2) sc_is_part.nd rfl (Or.inl rfl)) (pgs_cons (pg_name (i := 3) sc_is_part.nd rfl (Or.inl rfl)) pgs_nil)))
        (fun _ _ _ _ _ => pts_nil) (fun _ _ _ _ _ => pe_cmpR op_eq (pe_dget1 hu (pv 1) (pv 2) ⟨rfl, rfl, rfl, rfl⟩) (pv 3) (nomark _)))) pa_nil))), ?_⟩
    refine lc_items (fun _ _ => true) (fun x y => .bl (decide (lk r x = some y))) hd (fun H' R r o => ⟨_, rfl, r⟩) (fun _ _ => rfl) ?_ (small1000 hl) ?_
    · intro x y hxy H1 o
      have he1 : H1 e = some (.dK (kvI r)) := o _ _ ne.symm he
      refine ⟨fun R k => k, fun _ R k => ?_⟩
      refine ⟨_, rfl, e, rfl, isD_of he1, _, rfl, _, DGet.k (k := Sum.inl x) he1, _, rfl, ?_⟩
      rw [valV_kvI]
      refine ⟨scal_get _ _, ?_⟩
      rw [eq_get]
      exact k
    · intro D H' nD hD s1
      rw [all_made l fun x y => decide (lk r x = some y)] at hD
      refine ⟨D, _, rfl, SqL.of hD, ?_⟩
      have := q H' s1
      unfold leL at this
      rw [List.all_map]
      exact this
def spCmp (C : Addr) (p : List (Int × Int) → List (Int × Int) → Bool) : Sp := fun vs H Q _ => ∃ a b n f g, vs = [.ref a, .ref b] ∧ IsMap C H a n f ∧ IsMap C H b n g ∧ ∀ H', Same H H' → Q (.bl (p (tab n f) (tab n g))) H'
theorem ok_le (T : Txt K mg) : FnR P w K mg base CX0 6 T.f_Map__le (spCmp T.C_Map leL) := by
  refine T.A_Map__le.ok sc_Map__le (fun vs H Q E h => ?_) (fun cdv A outer s H vs Q E hr h => ?_)
  · obtain ⟨a, b, n, f, g, rfl, _⟩ := h
    rfl
  · obtain ⟨a, b, n, f, g, rfl, ha, hb, q⟩ := h
    have hu := hu_of hr
    obtain ⟨dx, D, h1, h2⟩ := id ha.ob
    obtain ⟨dy, D', h3, h4⟩ := id hb.ob
    have h9 := ha.hi
    refine ⟨_, pss_cons (ps_if (pt_not (pt_val (pe_callB call_isi (by rfl) T.n_isinstance (by decide +kernel) (pa_cons (pv 1) (pa_cons (pe_glob (v := .ref T.C_Map) rfl T.g_Map rfl) pa_nil))))) (pss_one ps_never) pss_nil)
      (pss_cons (ps_expr (pe_callR (ok_common T) (hr.mono (by decide)) T.A_common_size.kp rfl T.g_common_size pass0 (pa_cons (pv 0) (pa_cons (pv 1) pa_nil))))
      (pss_one (ps_ret (pe_callR (ok_is_part T) (hr.mono (by decide)) T.A_is_part.kp rfl T.g_is_part pass0 (pa_cons (pe_fld (pv 0) rfl) (pa_cons (pe_propR (pv 1) T.o_Map.cl T.P_Map_arrows (ok_arrows T) (hr.mono (by decide))) pa_nil)))))), ?_⟩
    refine ⟨_, rfl, _, _, _, _, true, rfl, .own _, tyx_ins T.o_Map h3, T.self_Map, _, rfl, iteF ?_⟩
    refine ⟨_, rfl, _, rfl, a, b, n, f, g, rfl, ha, hb, ?_⟩
    refine ⟨_, rfl, a, _, dx, _, _, rfl, h1, T.o_Map.cl, T.na_own_arrows_Map, flds_arrows _ _, _, rfl, b, dy, _, rfl, h3, b, n, g, rfl, hb, fun p hp => ?_⟩
    have s1 : Same H (upd H p (.dK (kvI (tab n g)))) := Same.new hp
    refine ⟨D, p, tab n f, tab n g, rfl, s1 _ _ h2, upd_same, ne_of_none h2 hp, Nat.le_trans (tab_len n f) (by omega), fun H' s2 => ?_⟩
    exact q H' (s1.trans s2)
theorem ok_ge (T : Txt K mg) : FnR P w K mg base CX0 6 T.f_Map__ge (spCmp T.C_Map fun l r => leL r l) := by
  refine T.A_Map__ge.ok sc_Map__ge (fun vs H Q E h => ?_) (fun cdv A outer s H vs Q E hr h => ?_)
  · obtain ⟨a, b, n, f, g, rfl, _⟩ := h
    rfl
  · obtain ⟨a, b, n, f, g, rfl, ha, hb, q⟩ := h
    have hu := hu_of hr
    obtain ⟨dx, D, h1, h2⟩ := id ha.ob
    obtain ⟨dy, D', h3, h4⟩ := id hb.ob
    have h9 := ha.hi
    refine ⟨_, pss_cons (ps_if (pt_not (pt_val (pe_callB call_isi (by rfl) T.n_isinstance (by decide +kernel) (pa_cons (pv 1) (pa_cons (pe_glob (v := .ref T.C_Map) rfl T.g_Map rfl) pa_nil))))) (pss_one ps_never) pss_nil)
      (pss_cons (ps_expr (pe_callR (ok_common T) (hr.mono (by decide)) T.A_common_size.kp rfl T.g_common_size pass0 (pa_cons (pv 0) (pa_cons (pv 1) pa_nil))))
      (pss_one (ps_ret (pe_callR (ok_is_part T) (hr.mono (by decide)) T.A_is_part.kp rfl T.g_is_part pass0 (pa_cons (pe_propR (pv 1) T.o_Map.cl T.P_Map_arrows (ok_arrows T) (hr.mono (by decide))) (pa_cons (pe_fld (pv 0) rfl) pa_nil)))))), ?_⟩
    refine ⟨_, rfl, _, _, _, _, true, rfl, .own _, tyx_ins T.o_Map h3, T.self_Map, _, rfl, iteF ?_⟩
    refine ⟨_, rfl, _, rfl, a, b, n, f, g, rfl, ha, hb, ?_⟩
    refine ⟨_, rfl, b, dy, _, rfl, h3, b, n, g, rfl, hb, fun p hp => ?_⟩
    have s1 : Same H (upd H p (.dK (kvI (tab n g)))) := Same.new hp
    refine ⟨_, rfl, a, _, dx, _, _, rfl, s1 _ _ h1, T.o_Map.cl, T.na_own_arrows_Map, flds_arrows _ _, ?_⟩
    refine ⟨p, D, tab n g, tab n f, rfl, upd_same, s1 _ _ h2, (ne_of_none h2 hp).symm, Nat.le_trans (tab_len n g) (by omega), fun H' s2 => ?_⟩
    exact q H' (s1.trans s2)
theorem ok_lt (T : Txt K mg) : FnR P w K mg base CX0 6 T.f_Map__lt (spCmp T.C_Map fun l r => leL l r && decide (l.length < r.length)) := by
  refine T.A_Map__lt.ok sc_Map__lt (fun vs H Q E h => ?_) (fun cdv A outer s H vs Q E hr h => ?_)
  · obtain ⟨a, b, n, f, g, rfl, _⟩ := h
    rfl
  · obtain ⟨a, b, n, f, g, rfl, ha, hb, q⟩ := h
    have hu := hu_of hr
    obtain ⟨dx, D, h1, h2⟩ := id ha.ob
    obtain ⟨dy, D', h3, h4⟩ := id hb.ob
    have h9 := ha.hi
    refine ⟨_, pss_cons (ps_if (pt_not (pt_val (pe_callB call_isi (by rfl) T.n_isinstance (by decide +kernel) (pa_cons (pv 1) (pa_cons (pe_glob (v := .ref T.C_Map) rfl T.g_Map rfl) pa_nil))))) (pss_one ps_never) pss_nil)
      (pss_cons (ps_expr (pe_callR (ok_common T) (hr.mono (by decide)) T.A_common_size.kp rfl T.g_common_size pass0 (pa_cons (pv 0) (pa_cons (pv 1) pa_nil))))
      (pss_one (ps_ret (pe_and (pe_callR (ok_is_part T) (hr.mono (by decide)) T.A_is_part.kp rfl T.g_is_part pass0 (pa_cons (pe_fld (pv 0) rfl) (pa_cons (pe_propR (pv 1) T.o_Map.cl T.P_Map_arrows (ok_arrows T) (hr.mono (by decide))) pa_nil))) (pe_one (pe_cmpR op_lt (pe_callB call_lenD (by rfl) T.n_len PySem.boot_len (pa_cons (pe_fld (pv 0) rfl) pa_nil)) (pe_callB call_lenD (by rfl) T.n_len PySem.boot_len (pa_cons (pe_propR (pv 1) T.o_Map.cl T.P_Map_arrows (ok_arrows T) (hr.mono (by decide))) pa_nil)) (nomark _))))))), ?_⟩
    refine ⟨_, rfl, _, _, _, _, true, rfl, .own _, tyx_ins T.o_Map h3, T.self_Map, _, rfl, iteF ?_⟩
    refine ⟨_, rfl, _, rfl, a, b, n, f, g, rfl, ha, hb, ?_⟩
    refine ⟨_, rfl, a, _, dx, _, _, rfl, h1, T.o_Map.cl, T.na_own_arrows_Map, flds_arrows _ _, _, rfl, b, dy, _, rfl, h3, b, n, g, rfl, hb, fun p hp => ?_⟩
    have s1 : Same H (upd H p (.dK (kvI (tab n g)))) := Same.new hp
    refine ⟨D, p, tab n f, tab n g, rfl, s1 _ _ h2, upd_same, ne_of_none h2 hp, Nat.le_trans (tab_len n f) (by omega), fun H2 s2 => ⟨_, rfl, ?_⟩⟩
    have s3 := s1.trans s2
    refine ifB (fun hc => ?_) (fun hc => ?_)
    · refine ⟨_, rfl, a, _, dx, _, _, rfl, s3 _ _ h1, T.o_Map.cl, T.na_own_arrows_Map, flds_arrows _ _, D, _, rfl, s3 _ _ h2, ?_⟩
      refine ⟨_, rfl, b, dy, _, rfl, s3 _ _ h3, b, n, g, rfl, hb.same s3, fun p2 hp2 => ?_⟩
      refine ⟨p2, _, rfl, upd_same, _, _, rfl, rfl, ?_⟩
      have := q (upd H2 p2 (.dK (kvI (tab n g)))) (s3.trans (Same.new hp2))
      dsimp only at this
      rw [hc, Bool.true_and] at this
      rw [kvI_length, kvI_length]
      have e : decide ((tab n f).length < (tab n g).length) = decide (((tab n f).length : Int) < ((tab n g).length : Int)) := by simp
      rw [e] at this
      exact this
    · have := q H2 s3
      dsimp only at this
      rw [hc, Bool.false_and] at this
      exact this
/-! ### == -/
theorem nd_of_map {α β : Type} (h : α → β) : ∀ {l : List α}, (l.map h).Nodup → l.Nodup
  | [], _ => List.nodup_nil
  | a :: r, nd => by
    rw [List.map_cons, List.nodup_cons] at nd
    exact List.nodup_cons.mpr ⟨fun hm => nd.1 (List.mem_map.mpr ⟨a, hm, rfl⟩), nd_of_map h nd.2⟩
def eqB (n : Int) (f : PF) (n' : Int) (g : PF) : Bool := decide (n = n') && dEq (kvI (tab n f)) (kvI (tab n' g))
theorem eqB_self {n : Int} {f : PF} (w : WF n f) : eqB n f n f = true := by
  unfold eqB dEq
  rw [decide_eq_true rfl]
  simp only [Bool.true_and, beq_self_eq_true, List.all_eq_true, decide_eq_true_eq]
  intro p hp
  unfold kvI at hp
  obtain ⟨⟨x, y⟩, hq, rfl⟩ := List.mem_map.mp hp
  show valV (kvI (tab n f)) (Sum.inl x) = some (V.int y)
  rw [valV_kvI, lk_tab w, (mem_tab w).mp hq]
  rfl
theorem eqB_of {n : Int} {f g : PF} (wf : WF n f) (wg : WF n g) (h : eqB n f n g = true) : f = g := by
  unfold eqB dEq at h
  rw [Bool.and_eq_true, Bool.and_eq_true] at h
  obtain ⟨_, h1, h2⟩ := h
  have h1' : (tab n f).length = (tab n g).length := by simpa [kvI_length] using h1
  have key : ∀ x y, f x = some y → g x = some y := by
    intro x y e
    have hm : ((Sum.inl x : Key), V.int y) ∈ kvI (tab n f) := List.mem_map.mpr ⟨(x, y), (mem_tab wf).mpr e, rfl⟩
    have := List.all_eq_true.mp h2 _ hm
    have := of_decide_eq_true this
    rw [valV_kvI, lk_tab wg] at this
    cases hg : g x with
    | none => rw [hg] at this; cases this
    | some z => rw [hg] at this; cases this; rfl
  have sub : ∀ p ∈ tab n f, p ∈ tab n g := fun ⟨x, y⟩ hp => (mem_tab wg).mpr (key x y ((mem_tab wf).mp hp))
  have ndf : (tab n f).Nodup := by
    have := keys_tab n f
    exact nd_of_map _ this
  have perm : (tab n g) ⊆ (tab n f) := by
    intro p hp
    exact Classical.byContradiction fun hn => by
      have hlt : (tab n f).length < (tab n g).length := by
        have sp : (p :: tab n f).Nodup := List.nodup_cons.mpr ⟨hn, ndf⟩
        have : (p :: tab n f).length ≤ (tab n g).length := (List.Nodup.length_le_of_subset sp (by
          intro z hz
          rcases List.mem_cons.mp hz with e | e
          · rw [e]; exact hp
          · exact sub z e))
        exact this
      omega
  funext x
  cases e : f x with
  | some y => rw [key x y e]
  | none =>
    cases e2 : g x with
    | none => rfl
    | some y =>
      have := (mem_tab wf).mp (perm ((mem_tab wg).mpr e2))
      rw [e] at this
      cases this
def spEqM (C : Addr) : Sp := fun vs H Q _ => ∃ a b n f n' g, vs = [.ref a, .ref b] ∧ IsMap C H a n f ∧ IsMap C H b n' g ∧ Q (.bl (eqB n f n' g)) H
theorem ok_eq (T : Txt K mg) : FnR P w K mg base CX0 6 T.f_Map__eq (spEqM T.C_Map) := by
  refine T.A_Map__eq.ok sc_Map__eq (fun vs H Q E h => ?_) (fun cdv A outer s H vs Q E hr h => ?_)
  · obtain ⟨a, b, n, f, n', g, rfl, _⟩ := h
    rfl
  · obtain ⟨a, b, n, f, n', g, rfl, ha, hb, q⟩ := h
    have hu := hu_of hr
    obtain ⟨dx, D, h1, h2⟩ := id ha.ob
    obtain ⟨dy, D', h3, h4⟩ := id hb.ob
    refine ⟨_, pss_cons (ps_if (pt_not (pt_val (pe_callB call_isi (by rfl) T.n_isinstance (by decide +kernel) (pa_cons (pv 1) (pa_cons (pe_glob (v := .ref T.C_Map) rfl T.g_Map rfl) pa_nil))))) (pss_one (ps_ret pe_bl)) pss_nil)
      (pss_one (ps_ret (pe_and (pe_cmpR op_eq (pe_fld (pv 0) rfl) (pe_fld (pv 1) rfl) (nomark _)) (pe_one (pe_cmpR (op_eqDI (Nat.lt_of_succ_lt hu)) (pe_fld (pv 0) rfl) (pe_fld (pv 1) rfl) (nomark _)))))), ?_⟩
    refine ⟨_, rfl, _, _, _, _, true, rfl, .own _, tyx_ins T.o_Map h3, T.self_Map, _, rfl, iteF ?_⟩
    refine ⟨_, rfl, a, _, dx, _, _, rfl, h1, T.o_Map.cl, T.na_own_size_Map, flds_size _ _, _, rfl, b, _, dy, _, _, rfl, h3, T.o_Map.cl, T.na_own_size_Map, flds_size _ _, rfl, _, rfl, ?_⟩
    have e0 : decide (V.int n = V.int n') = decide (n = n') := by
      by_cases h : n = n'
      · subst h; simp
      · have : ¬ V.int n = V.int n' := fun z => h (V.int.inj z)
        simp [h]
    rw [e0]
    refine ifD (fun hn => ?_) (fun hn => ?_)
    · refine ⟨_, rfl, a, _, dx, _, _, rfl, h1, T.o_Map.cl, T.na_own_arrows_Map, flds_arrows _ _, _, rfl, b, _, dy, _, _, rfl, h3, T.o_Map.cl, T.na_own_arrows_Map, flds_arrows _ _, D, D', _, _, rfl, rfl, h2, h4, intVals_kvI _, intVals_kvI _, ?_⟩
      have := q
      unfold eqB at this
      rw [decide_eq_true hn, Bool.true_and] at this
      exact this
    · have := q
      unfold eqB at this
      rw [decide_eq_false hn, Bool.false_and] at this
      exact this
end
end My
namespace My
open PySem L2 U StX PM
section
variable {P : Program} {w : World} {K : PySem.W.Frag} {mg : Str → Option Value} {base : Heap}
def spChk : Sp := fun vs H Q _ => ∃ n : Int, vs = [.int n] ∧ 1 ≤ n ∧ n ≤ 300 ∧ Q .non H
theorem ok_check_size (T : Txt K mg) : FnR P w K mg base CX0 3 T.f_check_size spChk := by
  refine T.A_check_size.ok sc_check_size (fun vs H Q E h => ?_) (fun cdv A outer s H vs Q E hr h => ?_)
  · obtain ⟨n, rfl, _⟩ := h
    rfl
  · obtain ⟨n, rfl, h1, h3, q⟩ := h
    obtain ⟨tk, hms⟩ := T.v_MAX_SIZE
    refine ⟨_, pss_one (ps_if (pt_not (pt_val (pe_callR (ok_in_range T) hr T.A_in_range.kp rfl T.g_in_range pass0 (pa_cons (pv 0) (pa_cons pe_int (pa_cons (pe_glob (v := .int 300) rfl hms ⟨_, rfl⟩) pa_nil)))))) (pss_one ps_never) pss_nil), ?_⟩
    refine ⟨_, rfl, .int n, 1, 300, rfl, trivial, _, rfl, ?_⟩
    have e1 : inR (.int n) 1 300 = true := by simp [inR, h1, h3]
    rw [e1]
    exact iteF q
theorem di_id (N : Nat) : DI ((List.range N).map fun (i : Nat) => ((i : Int), (i : Int))) (idn (N : Int)) := by
  refine di_of ?_ fun a b => ?_
  · rw [List.map_map]
    have : ∀ n : Nat, ((List.range n).map ((fun p : Int × Int => p.1) ∘ fun (i : Nat) => ((i : Int), (i : Int)))).Nodup := by
      intro n
      induction n with
      | zero => exact List.nodup_nil
      | succ n ih =>
        rw [List.range_succ, List.map_append, List.nodup_append]
        refine ⟨ih, by simp, fun a ha b hb e => ?_⟩
        obtain ⟨i, hi, rfl⟩ := List.mem_map.mp ha
        rw [List.mem_range] at hi
        simp at hb
        have e' : (i : Int) = b := e
        omega
    exact this N
  · rw [List.mem_map]
    unfold idn
    constructor
    · rintro ⟨i, hi, e⟩
      rw [List.mem_range] at hi
      cases e
      rw [if_pos ⟨by omega, by omega⟩]
    · intro h
      split at h
      · rename_i hc
        cases h
        exact ⟨a.toNat, List.mem_range.mpr (by omega), by rw [Int.toNat_of_nonneg hc.1]⟩
      · cases h
theorem madeR_id (N : Nat) : madeR (fun _ => true) (fun x => x) (fun k => .int k) N = kvI ((List.range N).map fun (i : Nat) => ((i : Int), (i : Int))) := by
  unfold madeR kvI
  rw [List.map_map]
  congr 1
  exact List.filter_eq_self.mpr fun _ _ => rfl
def spNew (C : Addr) (op : Int → PF) : Sp := fun vs H Q _ => ∃ n : Int, vs = [.ref C, .int n] ∧ 1 ≤ n ∧ n ≤ 300 ∧ ∀ r H', H r = none → Same H H' → IsMap C H' r n (op n) → Q (.ref r) H'
theorem ok_identity (T : Txt K mg) : FnR P w K mg base CX0 6 T.f_Map_identity (spNew T.C_Map idn) := by
  refine T.A_Map_identity.ok sc_Map_identity (fun vs H Q E h => ?_) (fun cdv A outer s H vs Q E hr h => ?_)
  · obtain ⟨n, rfl, _⟩ := h
    rfl
  · obtain ⟨n, rfl, h1, h3, q⟩ := h
    refine ⟨_, pss_cons (ps_expr (pe_callR (ok_check_size T) (hr.mono (by decide)) T.A_check_size.kp rfl T.g_check_size pass0 (pa_cons (pv 1) pa_nil)))
      (pss_one (ps_ret (pe_makeL (i := 0) T.M_Map (ok_init T) hr rfl (Or.inl rfl) pass0 (pa_cons (pv 1) (pa_cons (pe_dc (own := [("element", 2)]) (g := gName 2) (tt := tYes) rfl sc_Map_identity.nd (pi_range1 rfl T.n_range (pa_cons (pv 1) pa_nil)) (blkOk_by (own := [("element", 2)]) (N := n_Map_identity) (sc := defScope s_Map_identity) (by decide +kernel))
        (fun _ _ _ _ _ => pg_name (i := 2) sc_Map_identity.nd rfl (Or.inl rfl)) (fun _ _ _ _ _ => pts_nil) (fun _ _ _ _ _ => pv 2) (fun _ _ _ _ _ => pv 2)) pa_nil))))), ?_⟩
    refine ⟨_, rfl, n, rfl, h1, h3, rfl, _, rfl, ?_⟩
    refine dc_range (n := n.toNat) (fun _ => true) (fun k => .int k) (fun R r => ⟨_, rfl, n, rfl, by omega, by omega, r⟩) (fun _ => rfl) ?_ (small1000 (by omega)) ?_
    · intro k hk H1 s1
      refine ⟨fun R r => r, fun _ => ⟨fun R r => ⟨_, rfl, ?_⟩, fun R r => ⟨_, rfl, ?_⟩⟩⟩
      · rw [Int.zero_add]; exact r
      · rw [Int.zero_add]; exact r
    · intro D H1 nD hD s1
      rw [madeR_id] at hD
      have e : ((n.toNat : Nat) : Int) = n := Int.toNat_of_nonneg (by omega)
      have di := di_id n.toNat
      rw [e] at di
      refine mk_map hD di (wf_idn n) h1 h3 (by simp; omega) fun r H3 nr s3 hm => ?_
      exact q r H3 (s1.free nr) (s1.trans s3) hm
theorem di_nil : DI [] emp := ⟨List.nodup_nil, fun _ => rfl⟩
theorem ok_empty (T : Txt K mg) : FnR P w K mg base CX0 6 T.f_Map_empty (spNew T.C_Map fun _ => emp) := by
  refine T.A_Map_empty.ok sc_Map_empty (fun vs H Q E h => ?_) (fun cdv A outer s H vs Q E hr h => ?_)
  · obtain ⟨n, rfl, _⟩ := h
    rfl
  · obtain ⟨n, rfl, h1, h3, q⟩ := h
    refine ⟨_, pss_cons (ps_expr (pe_callR (ok_check_size T) (hr.mono (by decide)) T.A_check_size.kp rfl T.g_check_size pass0 (pa_cons (pv 1) pa_nil)))
      (pss_one (ps_ret (pe_makeL (i := 0) T.M_Map (ok_init T) hr rfl (Or.inl rfl) pass0 (pa_cons (pv 1) (pa_cons pe_dnewK pa_nil))))), ?_⟩
    refine ⟨_, rfl, n, rfl, h1, h3, rfl, _, rfl, fun p hp => ?_⟩
    have s1 : Same H (upd H p (.dK [])) := Same.new hp
    refine mk_map (l := []) upd_same di_nil (wf_emp n) h1 h3 (by simp) fun r H3 nr s3 hm => ?_
    exact q r H3 (s1.free nr) (s1.trans s3) hm
/-! ### first_clash where there is none, | -/
def NoClash (l r : List (Int × Int)) : Prop := ∀ p ∈ l, ∀ q ∈ r, (decide (p.1 = q.1)) = (decide (p.2 = q.2))
def spClash0 : Sp := fun vs H Q _ => ∃ d e l r, vs = [.ref d, .ref e] ∧ H d = some (.dK (kvI l)) ∧ H e = some (.dK (kvI r)) ∧ d ≠ e ∧ NoClash l r ∧ ∀ H', Same H H' → Q .non H'
theorem ok_first_clash (T : Txt K mg) : FnR P w K mg base CX0 1 T.f_first_clash spClash0 := by
  refine T.A_first_clash.ok sc_first_clash (fun vs H Q E h => ?_) (fun cdv A outer s H vs Q E hr h => ?_)
  · obtain ⟨d, e, l, r, rfl, _⟩ := h
    rfl
  · obtain ⟨d, e, l, r, rfl, hd, he, ne, nc, q⟩ := h
    refine ⟨_, pss_cons (ps_lock (ps_for PassesOwn.never rfl (pi_items (pv 0)) (pg_tup rfl (pgs_cons (pg_name (i := 2) sc_first_clash.nd rfl (Or.inl rfl)) (pgs_cons (pg_name (i := 3) sc_first_clash.nd rfl (Or.inl rfl)) pgs_nil)))
        (pss_one (ps_lock (ps_for PassesOwn.never rfl (pi_items (pv 1)) (pg_tup rfl (pgs_cons (pg_name (i := 4) sc_first_clash.nd rfl (Or.inl rfl)) (pgs_cons (pg_name (i := 5) sc_first_clash.nd rfl (Or.inl rfl)) pgs_nil)))
          (pss_one (ps_if (pt_cmpR op_ne (pe_cmpR op_eq (pv 2) (pv 4) (nomark _)) (pe_cmpR op_eq (pv 3) (pv 5) (nomark _)) (nomark _)) (pss_one ps_never) pss_nil)))))))
      (pss_one (ps_ret pe_non)), ?_⟩
    refine ⟨d, _, hd, trivial, fun od => ⟨_, rfl, d, od, kvI l, rfl, upd_same, ?_⟩⟩
    refine for_it walk_items (fun i σ H' => ∃ v2 v3 v4 v5, σ = [some (.ref d), some (.ref e), v2, v3, v4, v5] ∧ H' d = some (.frz od (.dK (kvI l))) ∧ Off d H H')
      ⟨none, none, none, none, rfl, upd_same, Off.lock⟩ (fun i σ H' _ ⟨_, _, _, _, _, p, _⟩ => p) ?_ ?_
    · rintro i v σ H' H'' hi ⟨v2, v3, v4, v5, rfl, p1, p2⟩ ⟨U, a, b, rfl, hU, rfl, e1, e2⟩
      rw [kvI_length] at hi
      obtain ⟨⟨x, y⟩, exy⟩ : ∃ p, l[i]? = some p := ⟨_, List.getElem?_eq_getElem hi⟩
      have ek : (kvI l)[i]? = some (Sum.inl x, V.int y) := by unfold kvI; rw [List.getElem?_map, exy]; rfl
      dsimp only at e1 e2
      rw [ek] at e1 e2
      cases e1; cases e2
      refine ⟨U, [.int x, .int y], rfl, SqT.of upd_same, rfl, .int x, [.int y], rfl, .int y, [], rfl, rfl, ?_⟩
      have o2 : Off d H (upd H' U (.tup [.int x, .int y])) := p2.tr (Off.new hU)
      have d2 : (upd H' U (.tup [.int x, .int y])) d = some (.frz od (.dK (kvI l))) := by rw [upd_ne (ne_of_none p1 hU)]; exact p1
      have he2 := o2 _ _ ne.symm he
      refine ⟨e, _, he2, trivial, fun oe => ⟨_, rfl, e, oe, kvI r, rfl, upd_same, ?_⟩⟩
      refine for_it walk_items (fun j σ H3 => ∃ v4 v5, σ = [some (.ref d), some (.ref e), some (.int x), some (.int y), v4, v5] ∧ H3 e = some (.frz oe (.dK (kvI r))) ∧ Off e (upd H' U (.tup [.int x, .int y])) H3)
        ⟨v4, v5, rfl, upd_same, Off.lock⟩ (fun j σ H3 _ ⟨_, _, _, p, _⟩ => p) ?_ ?_
      · rintro j v σ H3 H4 hj ⟨w4, w5, rfl, q1, q2⟩ ⟨W, a, b, rfl, hW, rfl, g1, g2⟩
        rw [kvI_length] at hj
        obtain ⟨⟨x', y'⟩, exy'⟩ : ∃ p, r[j]? = some p := ⟨_, List.getElem?_eq_getElem hj⟩
        have ek' : (kvI r)[j]? = some (Sum.inl x', V.int y') := by unfold kvI; rw [List.getElem?_map, exy']; rfl
        dsimp only at g1 g2
        rw [ek'] at g1 g2
        cases g1; cases g2
        refine ⟨W, [.int x', .int y'], rfl, SqT.of upd_same, rfl, .int x', [.int y'], rfl, .int y', [], rfl, rfl, ?_⟩
        refine ⟨_, rfl, _, rfl, rfl, _, rfl, _, rfl, rfl, rfl, _, rfl, ?_⟩
        have c0 := nc _ (List.mem_of_getElem? exy) _ (List.mem_of_getElem? exy')
        dsimp only at c0
        have c1 : decide (V.int x = V.int x') = decide (x = x') := by
          by_cases h : x = x'
          · subst h; simp
          · have : ¬ V.int x = V.int x' := fun z => h (V.int.inj z)
            simp [h]
        have c2 : decide (V.int y = V.int y') = decide (y = y') := by
          by_cases h : y = y'
          · subst h; simp
          · have : ¬ V.int y = V.int y' := fun z => h (V.int.inj z)
            simp [h]
        rw [c1, c2, c0]
        refine iteNS rfl ?_
        refine ⟨_, _, rfl, ?_, q2.tr (Off.new hW)⟩
        rw [upd_ne (ne_of_none q1 hW)]
        exact q1
      · rintro σ H3 ⟨w4, w5, rfl, q1, q2⟩
        refine ⟨q1, _, _, _, _, rfl, ?_, ?_⟩
        · rw [upd_ne ne]
          exact q2 _ _ ne d2
        · intro c o hc ec
          exact q2.back he2 _ _ (o2 _ _ hc ec)
    · rintro σ H' ⟨v2, v3, v4, v5, rfl, p1, p2⟩
      exact ⟨p1, q _ (p2.back hd)⟩
theorem merge_lk : ∀ (r l : List (Int × Int)), (r.map (·.1)).Nodup → ∃ l', mergeK (kvI l) (kvI r) = kvI l' ∧ l'.length ≤ l.length + r.length ∧ ((l.map (·.1)).Nodup → (l'.map (·.1)).Nodup) ∧ ∀ z, lk l' z = (lk r z).or (lk l z)
  | [], l, _ => ⟨l, rfl, by simp, fun h => h, fun z => rfl⟩
  | (x, y) :: r, l, nd => by
    rw [List.map_cons, List.nodup_cons] at nd
    obtain ⟨l1, e1, n1, d1, k1⟩ := putK_lk (l := l) (x := x) (y := y)
    obtain ⟨l2, e2, n2, d2, k2⟩ := merge_lk r l1 nd.2
    refine ⟨l2, ?_, by simp; omega, fun h => d2 (d1 h), fun z => ?_⟩
    · show mergeK (putK (kvI l) (Sum.inl x) (V.int y)) (kvI r) = _
      rw [e1, e2]
    · rw [k2, k1, lk_cons]
      by_cases h : z = x
      · subst h
        rw [if_pos rfl, if_pos rfl, lk_none nd.1]
        rfl
      · have h' : ¬ x = z := fun q => h q.symm
        rw [if_neg h, if_neg h']
theorem ok_or (T : Txt K mg) : FnR P w K mg base CX0 6 T.f_Map__or (fun vs H Q E => ∃ a b n f g, vs = [.ref a, .ref b] ∧ IsMap T.C_Map H a n f ∧ IsMap T.C_Map H b n g ∧ ¬ PM.Clash f g ∧ ∀ r H', H r = none → Same H H' → IsMap T.C_Map H' r n (orf f g) → Q (.ref r) H') := by
  refine T.A_Map__or.ok sc_Map__or (fun vs H Q E h => ?_) (fun cdv A outer s H vs Q E hr h => ?_)
  · obtain ⟨a, b, n, f, g, rfl, _⟩ := h
    rfl
  · obtain ⟨a, b, n, f, g, rfl, ha, hb, nc, q⟩ := h
    obtain ⟨dx, D, h1, h2⟩ := id ha.ob
    obtain ⟨dy, gs, h3⟩ := at_map hb
    have h9 := ha.hi
    refine ⟨_, pss_cons (ps_if (pt_not (pt_val (pe_callB call_isi (by rfl) T.n_isinstance (by decide +kernel) (pa_cons (pv 1) (pa_cons (pe_glob (v := .ref T.C_Map) rfl T.g_Map rfl) pa_nil))))) (pss_one ps_never) pss_nil)
      (pss_cons (ps_set (i := 2) sc_Map__or.nd rfl (Or.inl rfl) (pe_callR (ok_common T) (hr.mono (by decide)) T.A_common_size.kp rfl T.g_common_size pass0 (pa_cons (pv 0) (pa_cons (pv 1) pa_nil))))
      (pss_cons (ps_set (i := 3) sc_Map__or.nd rfl (Or.inl rfl) (pe_callR (ok_first_clash T) (hr.mono (by decide)) T.A_first_clash.kp rfl T.g_first_clash pass0 (pa_cons (pe_fld (pv 0) rfl) (pa_cons (pe_propR (pv 1) T.o_Map.cl T.P_Map_arrows (ok_arrows T) (hr.mono (by decide))) pa_nil))))
      (pss_cons (ps_if (pt_cmpR op_notN (pv 3) pe_non (nomark _)) (pss_one ps_never) pss_nil)
      (pss_one (ps_ret (pe_makeR T.M_Map (ok_init T) hr rfl T.g_Map pass0 (pa_cons (pv 2) (pa_cons (pe_op op_orD (pe_fld (pv 0) rfl) (pe_propR (pv 1) T.o_Map.cl T.P_Map_arrows (ok_arrows T) (hr.mono (by decide)))) pa_nil)))))))), ?_⟩
    refine ⟨_, rfl, _, _, _, _, true, rfl, .own _, tyx_ins T.o_Map h3, T.self_Map, _, rfl, iteF ?_⟩
    refine ⟨_, rfl, _, rfl, a, b, n, f, g, rfl, ha, hb, ?_⟩
    refine ⟨_, rfl, a, _, dx, _, _, rfl, h1, T.o_Map.cl, T.na_own_arrows_Map, flds_arrows _ _, _, rfl, b, dy, _, rfl, h3, b, n, g, rfl, hb, fun p hp => ?_⟩
    have s1 : Same H (upd H p (.dK (kvI (tab n g)))) := Same.new hp
    have ncl : NoClash (tab n f) (tab n g) := by
      rintro ⟨x, y⟩ hx ⟨x', y'⟩ hy
      have e1 := (mem_tab ha.wf).mp hx
      have e2 := (mem_tab hb.wf).mp hy
      have : (x = x') ↔ (y = y') := Classical.byContradiction fun h => nc ⟨x, y, x', y', e1, e2, h⟩
      exact decide_eq_decide.mpr this
    refine ⟨D, p, _, _, rfl, s1 _ _ h2, upd_same, ne_of_none h2 hp, ncl, fun H2 s2 => ?_⟩
    have s3 := s1.trans s2
    refine ⟨_, rfl, rfl, _, rfl, ?_⟩
    refine iteF ⟨_, rfl, ?_⟩
    refine ⟨_, rfl, a, _, dx, _, _, rfl, s3 _ _ h1, T.o_Map.cl, T.na_own_arrows_Map, flds_arrows _ _, _, rfl, b, dy, _, rfl, s3 _ _ h3, b, n, g, rfl, hb.same s3, fun p2 hp2 => ?_⟩
    have s4 := s3.trans (Same.new (o := .dK (kvI (tab n g))) hp2)
    have lf := tab_len n f
    have lg := tab_len n g
    refine ⟨D, p2, _, _, rfl, rfl, s4 _ _ h2, upd_same, ?_, fun p5 hp5 => ?_⟩
    · rw [kvI_length, kvI_length]
      exact Nat.le_trans (by omega : _ ≤ 1000) (by decide)
    obtain ⟨l', e', n', d', k'⟩ := merge_lk (tab n g) (tab n f) (keys_tab n g)
    rw [e']
    have di : DI l' (orf f g) := by
      refine ⟨d' (keys_tab n f), fun z => ?_⟩
      rw [k', lk_tab ha.wf, lk_tab hb.wf]
      unfold orf
      cases e1 : f z with
      | none => cases g z <;> rfl
      | some y =>
        cases e2 : g z with
        | none => rfl
        | some y' =>
          have : y = y' := Classical.byContradiction fun h => nc ⟨z, y, z, y', e1, e2, fun i => h (i.mp rfl)⟩
          subst this
          rfl
    refine mk_map upd_same di (wf_or ha.wf hb.wf nc) ha.lo ha.hi (by omega) fun r H5 nr s5 hm => ?_
    have s6 := s4.trans (Same.new (o := .dK (kvI l')) hp5)
    exact q r H5 (s6.free nr) (s6.trans s5) hm
end
end My
namespace My
open PySem L2 U StX PM
section
variable {P : Program} {w : World} {K : PySem.W.Frag} {mg : Str → Option Value} {base : Heap}
theorem dgetI {H : Hp} {d : Addr} {l : List (Int × Int)} {f : PF} (h : H d = some (.dK (kvI l))) (di : DI l f) (x : Int) : DGet H d (.int x) ((f x).map V.int) := by
  have := DGet.k (k := Sum.inl x) h
  rw [valV_kvI, di.2] at this
  exact this
theorem lastI (pre : List Int) (z : Int) : atI ((pre ++ [z]).map V.int) (-1) = some (V.int z) := by
  rw [List.map_append]
  exact atI_last _ _
def spRow : Sp := fun vs H Q _ => ∃ d l n f e, vs = [.ref d, .int e] ∧ H d = some (.dK (kvI l)) ∧ DI l f ∧ WF n f ∧ n ≤ 300 ∧ 0 ≤ e ∧ e < n ∧
  ∀ r H' pre z, H r = none → Same H H' → H' r = some (.lst ((pre ++ [z]).map V.int)) → Row f e (pre ++ [z]) → (f z = none ∨ f z = some e) → Q (.ref r) H'
theorem ok_row_from (T : Txt K mg) : FnR P w K mg base CX0 1 T.f_row_from spRow := by
  refine T.A_row_from.ok sc_row_from (fun vs H Q E h => ?_) (fun cdv A outer s H vs Q E hr h => ?_)
  · obtain ⟨d, l, n, f, e, rfl, _⟩ := h
    rfl
  · obtain ⟨d, l, n, f, e, rfl, hd, di, wf, hn, e0, e1, q⟩ := h
    have hu := hu_of hr
    refine ⟨_, pss_cons (ps_set (i := 2) sc_row_from.nd rfl (Or.inl rfl) (pe_lst (pa_cons (pv 1) pa_nil)))
      (pss_cons (ps_while PassesOwn.never (PW.pt (pw_and (pt_cmp (pc_din hu (pe_ix ix_list (pv 2) (pe_un un_neg pe_int) (fun _ _ => rfl)) (pv 0)))
          (pw_and1 (pt_cmpR op_ne (pe_dget hu (pv 0) (pe_ix ix_list (pv 2) (pe_un un_neg pe_int) (fun _ _ => rfl)) (fun _ _ => rfl)) (pv 1) (nomark _)))))
        (pss_one (ps_expr (pe_bm PySem.F.plainAttrs_list PySem.F.slot_list_append PySem.F.type_list_append mt_append (pv 2) (pa_cons (pe_dget hu (pv 0) (pe_ix ix_list (pv 2) (pe_un un_neg pe_int) (fun _ _ => rfl)) (fun _ _ => rfl)) pa_nil)))))
      (pss_one (ps_ret (pv 2)))), ?_⟩
    refine ⟨_, rfl, (by show 1 ≤ sizeLine; decide), fun r hr0 => ?_⟩
    have row0 : Row f e ([] ++ [e]) := ⟨rfl, fun i a b h1 h2 => by simp at h2⟩
    refine ⟨fun m σ H' => ∃ pre z, σ = [some (.ref d), some (.int e), some (.ref r)] ∧ H' r = some (.lst ((pre ++ [z]).map V.int)) ∧ Same H H' ∧ Row f e (pre ++ [z]) ∧ m = 300 - pre.length, ⟨300, [], e, rfl, upd_same, Same.new hr0, row0, rfl⟩, ?_⟩
    rintro m σ H' ⟨pre, z, rfl, p1, p2, p3, rfl⟩
    have hd' := p2 _ _ hd
    have hlen := len_range (p3.nd wf) (p3.dom wf e0 e1)
    rw [List.length_append, List.length_singleton] at hlen
    refine ⟨_, rfl, 1, rfl, r, _, -1, .int z, rfl, rfl, SqL.of p1, lastI _ _, _, rfl, d, _, rfl, dgetI hd' di z, _, rfl, ?_⟩
    cases hz : f z with
    | none =>
      refine iteF ?_
      refine iteF ?_
      exact ⟨_, rfl, q r H' pre z hr0 p2 p1 p3 (.inl hz)⟩
    | some y =>
      refine iteT ?_
      refine ⟨_, rfl, _, rfl, 1, rfl, r, _, -1, .int z, rfl, rfl, SqL.of p1, lastI _ _, d, .int y, rfl, ?_, _, rfl, rfl, _, rfl, ?_⟩
      · have := dgetI hd' di z
        rw [hz] at this
        exact this
      have nr : d ≠ r := ne_of_none hd hr0
      refine ifN (fun hne => ?_) (fun heq => ?_)
      · have hne' : y ≠ e := fun z => hne (congrArg V.int z)
        have row' := p3.more hz hne'
        have hlen' := len_range (row'.nd wf) (row'.dom wf e0 e1)
        rw [List.length_append, List.length_append, List.length_singleton, List.length_singleton] at hlen'
        refine ⟨fun σ' H2 => ∃ m', m' < 300 - pre.length ∧ _, fun _ _ h => h, ?_⟩
        refine ⟨_, rfl, .inl ⟨rfl, _, SqL.of p1⟩, _, rfl, _, rfl, 1, rfl, r, _, -1, .int z, rfl, rfl, SqL.of p1, lastI _ _, d, .int y, rfl, ?_, r, _, .int y, rfl, rfl, p1, ?_, ?_⟩
        · have := dgetI hd' di z
          rw [hz] at this
          exact this
        · rw [List.length_map, List.length_append, List.length_singleton]
          exact small1000 (by omega)
        · refine ⟨300 - (pre ++ [z]).length, by rw [List.length_append, List.length_singleton]; omega, pre ++ [z], y, rfl, ?_, ?_, row', rfl⟩
          · rw [upd_same, List.map_append (l₁ := pre ++ [z])]
            rfl
          · intro b o h
            rw [upd_ne (ne_of_none h hr0)]
            exact p2 b o h
      · have : y = e := V.int.inj heq
        subst this
        exact ⟨_, rfl, q r H' pre z hr0 p2 p1 p3 (.inr hz)⟩
end
end My
namespace My
open PySem L2 U StX PM
/-! ### comprehensions over values and keys -/
theorem tgt_len (l : List (Int × Int)) (i : Nat) : (tgt (l.take i)).length ≤ l.length := by
  unfold tgt; rw [List.length_map, List.length_take]; omega
theorem dc_vals {d : Addr} {l : List (Int × Int)} {te : TE} {i : Nat} {tt : TT} {tk tv : TE} {vs : List Nat} {σ : L2.St} {H : Hp} {Q : VK}
    (hd : H d = some (.dK (kvI l))) (hte : ∀ H' (R : VK), R (.ref d) H' → Off d H H' → te σ H' R)
    (hw : ∀ a, wipe ((wipe σ vs).set i a) vs = wipe σ vs)
    (ht : ∀ (y : Int) (H1 : Hp) (R : Bool → Hp → Prop), R true H1 → tt ((wipe σ vs).set i (some (.int y))) H1 R) (hk : ∀ (y : Int) (H1 : Hp) (R : VK), R (.int y) H1 → tk ((wipe σ vs).set i (some (.int y))) H1 R) (hv : ∀ (y : Int) (H1 : Hp) (R : VK), R (.bl true) H1 → tv ((wipe σ vs).set i (some (.int y))) H1 R)
    (nd : (l.map (·.2)).Nodup) (hz : l.length < sizeLine)
    (hq : ∀ D H', H D = none → H' D = some (.dK (tgt l)) → L2.Same H H' → Q (.ref D) H') :
    tLockE (tDc (iVals te) (gName i) tt tk tv vs) σ H Q := by
  refine ⟨d, _, hd, trivial, fun od => ?_⟩
  refine hte _ _ ⟨d, od, kvI l, rfl, upd_same, fun D hD => ?_⟩ Off.lock
  have hDd : D ≠ d := fun e => by rw [e, upd_same] at hD; cases hD
  have hD0 : H D = none := by rw [upd_ne hDd] at hD; exact hD
  refine dc_it walk_values (fun k H' => H' d = some (.frz od (.dK (kvI l))) ∧ Off d H H' ∧ H' D = some (.dK (tgt (l.take k)))) ⟨?_, Off.lock.mut hD0, upd_same⟩ (fun k H' _ p => p.1) ?_ ?_
  · rw [upd_ne hDd.symm]; exact upd_same
  · rintro k v H' H'' hk1 ⟨p1, p2, p3⟩ ⟨rfl, kk, e1⟩
    obtain ⟨x, y, exy, rfl, rfl⟩ := kvI_get e1
    refine ⟨hw _, ?_⟩
    refine ht y _ _ ?_
    refine iteT ?_
    refine hk _ _ _ (hv _ _ _ ⟨_, Sum.inl y, rfl, p3, Nat.lt_of_le_of_lt (tgt_len ..) hz, ?_⟩)
    refine ⟨?_, p2.mut hD0, ?_⟩
    · rw [upd_ne hDd.symm]; exact p1
    · have nin : y ∉ (l.take k).map (·.2) := by
        intro hm
        have e2 : l.map (·.2) = (l.take k).map (·.2) ++ (l.drop k).map (·.2) := by rw [← List.map_append, List.take_append_drop]
        rw [e2, List.nodup_append] at nd
        refine nd.2.2 _ hm y (List.mem_map.mpr ⟨(x, y), ?_, rfl⟩) rfl
        refine List.mem_iff_getElem?.mpr ⟨0, ?_⟩
        rw [List.getElem?_drop]
        exact exy
      rw [upd_same, putK_new _ (valV_none fun z => nin (tgt_key.mp z)), take_more exy]
      unfold tgt
      rw [List.map_append]
      rfl
  · rintro H' ⟨p1, p2, p3⟩
    rw [kvI_length, List.take_length] at p3
    refine ⟨p1, hq D _ hD0 ?_ (p2.back hd)⟩
    rw [upd_ne hDd]
    exact p3
theorem lc_keys {d : Addr} {l : List (Int × Int)} {te : TE} {i : Nat} {tt : TT} {tv : TE} {vs : List Nat} {σ : L2.St} {H : Hp} {Q : VK} (c : Int → Bool) (vf : Int → V)
    (hd : H d = some (.dK (kvI l))) (hte : ∀ H' (R : VK), R (.ref d) H' → Off d H H' → te σ H' R)
    (hw : ∀ a, wipe ((wipe σ vs).set i a) vs = wipe σ vs)
    (hb : ∀ (x : Int) (H1 : Hp), Off d H H1 → (∀ R : Bool → Hp → Prop, R (c x) H1 → tt ((wipe σ vs).set i (some (.int x))) H1 R) ∧ (∀ R : VK, R (vf x) H1 → tv ((wipe σ vs).set i (some (.int x))) H1 R))
    (hz : l.length < sizeLine)
    (hq : ∀ D H', H D = none → H' D = some (.lst (madeL (fun x _ => c x) (fun x _ => vf x) l)) → L2.Same H H' → Q (.ref D) H') :
    tLockE (tLc (iKeys te) (gName i) tt tv vs) σ H Q := by
  refine ⟨d, _, hd, trivial, fun od => ?_⟩
  refine hte _ _ ⟨d, od, rfl, .inl ⟨kvI l, upd_same, fun D hD => ?_⟩⟩ Off.lock
  have hDd : D ≠ d := fun e => by rw [e, upd_same] at hD; cases hD
  have hD0 : H D = none := by rw [upd_ne hDd] at hD; exact hD
  refine lc_it walk_keys (fun k H' => H' d = some (.frz od (.dK (kvI l))) ∧ Off d H H' ∧ H' D = some (.lst (madeL (fun x _ => c x) (fun x _ => vf x) (l.take k)))) ⟨?_, Off.lock.mut hD0, upd_same⟩ (fun k H' _ p => p.1) ?_ ?_
  · rw [upd_ne hDd.symm]; exact upd_same
  · rintro k v H' H'' hk1 ⟨p1, p2, p3⟩ ⟨rfl, kk, vv, e1, rfl⟩
    obtain ⟨x, y, exy, rfl, rfl⟩ := kvI_get e1
    refine ⟨hw _, ?_⟩
    obtain ⟨b1, b2⟩ := hb x _ p2
    refine b1 _ ?_
    have st := madeL_step (c := fun x _ => c x) (vf := fun x _ => vf x) exy
    cases hc : c x with
    | true =>
      rw [hc, if_pos rfl] at st
      refine iteT (b2 _ ⟨_, p3, Nat.lt_of_le_of_lt (madeL_len ..) hz, ?_⟩)
      refine ⟨?_, p2.mut hD0, ?_⟩
      · rw [upd_ne hDd.symm]; exact p1
      · rw [upd_same, st]
    | false =>
      rw [hc, if_neg Bool.false_ne_true, List.append_nil] at st
      refine iteF ⟨p1, p2, ?_⟩
      rw [st]
      exact p3
  · rintro H' ⟨p1, p2, p3⟩
    rw [kvI_length, List.take_length] at p3
    refine ⟨p1, hq D _ hD0 ?_ (p2.back hd)⟩
    rw [upd_ne hDd]
    exact p3
/-! ### seen and found -/
def kvB (sl : List Int) : List (Key × V) := sl.map fun x => (Sum.inl x, V.bl true)
theorem kvB_key {sl : List Int} {x : Int} : (Sum.inl x : Key) ∈ (kvB sl).map (·.1) ↔ x ∈ sl := by
  unfold kvB
  rw [List.map_map]
  constructor
  · intro h
    obtain ⟨p, hp, e⟩ := List.mem_map.mp h
    cases Sum.inl.inj e
    exact hp
  · intro h
    exact List.mem_map.mpr ⟨x, h, rfl⟩
theorem kvB_val (sl : List Int) (x : Int) : (valV (kvB sl) (Sum.inl x : Key)).isSome = decide (x ∈ sl) := by
  by_cases h : x ∈ sl
  · rw [decide_eq_true h, ← valV_any, List.any_eq_true]
    exact ⟨(Sum.inl x, V.bl true), List.mem_map.mpr ⟨x, h, rfl⟩, by simp⟩
  · rw [decide_eq_false h, valV_none fun z => h (kvB_key.mp z)]
    rfl
theorem kvB_put (sl : List Int) (x : Int) : ∃ sl', putK (kvB sl) (Sum.inl x : Key) (V.bl true) = kvB sl' ∧ (∀ z, z ∈ sl' ↔ z ∈ sl ∨ z = x) ∧ (sl.Nodup → sl'.Nodup) := by
  by_cases h : x ∈ sl
  · refine ⟨sl, ?_, fun z => ⟨.inl, fun hz => ?_⟩, id⟩
    · unfold putK
      have e : ((kvB sl).any fun kv => decide (kv.1 = (Sum.inl x : Key))) = true := by
        rw [valV_any, kvB_val, decide_eq_true h]
      rw [if_pos e]
      unfold kvB
      rw [List.map_map]
      refine List.map_congr_left fun a _ => ?_
      show (if (Sum.inl a : Key) = Sum.inl x then ((Sum.inl a : Key), V.bl true) else (Sum.inl a, V.bl true)) = _
      split <;> rfl
    · rcases hz with hz | rfl
      · exact hz
      · exact h
  · refine ⟨sl ++ [x], ?_, fun z => by simp, fun nd => ?_⟩
    · rw [putK_new _ (valV_none fun z => h (kvB_key.mp z))]
      unfold kvB
      rw [List.map_append]
      rfl
    · rw [List.nodup_append]
      refine ⟨nd, by simp, fun a ha b hb e => ?_⟩
      simp at hb
      subst hb
      exact h (e ▸ ha)
structure Fnd (n : Int) (f : PF) (k : Nat) (fl : List (Int × Int)) (sl : List Int) : Prop where
  nd : (fl.map (·.1)).Nodup
  at_ : ∀ x, lk fl x = if x ∈ sl then iter f k x else none
  sn : sl.Nodup
  dm : ∀ x ∈ sl, 0 ≤ x ∧ x < n
theorem Fnd.len {n : Int} {f : PF} {k : Nat} {fl : List (Int × Int)} {sl : List Int} (h : Fnd n f k fl sl) : fl.length ≤ n.toNat := by
  have := len_range (n := n) h.nd (fun x hx => by
    obtain ⟨⟨a, b⟩, hp, rfl⟩ := List.mem_map.mp hx
    have e := lk_some h.nd hp
    rw [h.at_] at e
    by_cases hm : a ∈ sl
    · exact h.dm _ hm
    · rw [if_neg hm] at e; cases e)
  rw [List.length_map] at this
  exact this
theorem Fnd.slen {n : Int} {f : PF} {k : Nat} {fl : List (Int × Int)} {sl : List Int} (h : Fnd n f k fl sl) : sl.length ≤ n.toNat := len_range h.sn h.dm
theorem Fnd.put {n : Int} {f : PF} {k : Nat} {fl fl' : List (Int × Int)} {sl sl' : List Int} {x y : Int} (h : Fnd n f k fl sl) (h1 : ∀ z, z ∈ sl' ↔ z ∈ sl ∨ z = x) (h2 : sl.Nodup → sl'.Nodup) (hx : 0 ≤ x ∧ x < n)
    (e : iter f k x = some y) (n1 : (fl.map (·.1)).Nodup → (fl'.map (·.1)).Nodup) (a1 : ∀ z, lk fl' z = if z = x then some y else lk fl z) : Fnd n f k fl' sl' := by
  refine ⟨n1 h.nd, fun z => ?_, h2 h.sn, fun z hz => ?_⟩
  · rw [a1]
    by_cases hz : z = x
    · subst hz
      rw [if_pos rfl, if_pos ((h1 z).mpr (.inr rfl)), e]
    · rw [if_neg hz, h.at_]
      by_cases hs : z ∈ sl
      · rw [if_pos hs, if_pos ((h1 z).mpr (.inl hs))]
      · rw [if_neg hs, if_neg fun q => ((h1 z).mp q).elim hs hz]
  · rcases (h1 z).mp hz with q | rfl
    · exact h.dm z q
    · exact hx
theorem Fnd.skip {n : Int} {f : PF} {k : Nat} {fl : List (Int × Int)} {sl sl' : List Int} {x : Int} (h : Fnd n f k fl sl) (h1 : ∀ z, z ∈ sl' ↔ z ∈ sl ∨ z = x) (h2 : sl.Nodup → sl'.Nodup) (hx : 0 ≤ x ∧ x < n)
    (e : iter f k x = none) : Fnd n f k fl sl' := by
  refine ⟨h.nd, fun z => ?_, h2 h.sn, fun z hz => ?_⟩
  · rw [h.at_]
    by_cases hs : z ∈ sl
    · rw [if_pos hs, if_pos ((h1 z).mpr (.inl hs))]
    · rw [if_neg hs]
      by_cases hz : z = x
      · subst hz
        rw [if_pos ((h1 z).mpr (.inr rfl)), e]
      · rw [if_neg fun q => ((h1 z).mp q).elim hs hz]
  · rcases (h1 z).mp hz with q | rfl
    · exact h.dm z q
    · exact hx
theorem Fnd.di {n : Int} {f : PF} {k : Nat} {fl : List (Int × Int)} {sl : List Int} (h : Fnd n f (k + 1) fl sl) (all : ∀ x y, f x = some y → x ∈ sl) : DI fl (iter f (k + 1)) := by
  refine ⟨h.nd, fun x => ?_⟩
  rw [h.at_]
  by_cases hs : x ∈ sl
  · rw [if_pos hs]
  · rw [if_neg hs, iter_head]
    cases e : f x with
    | none => rfl
    | some y => exact absurd (all x y e) hs
end My
namespace My
open PySem L2 U StX PM
section
variable {P : Program} {w : World} {K : PySem.W.Frag} {mg : Str → Option Value} {base : Heap}
def spMoved : Sp := fun vs H Q _ => ∃ d l n f, ∃ k : Nat, vs = [.ref d, .int ((k + 1 : Nat) : Int)] ∧ H d = some (.dK (kvI l)) ∧ DI l f ∧ WF n f ∧ n ≤ 300 ∧ l.length ≤ 300 ∧
  ∀ r H' l', H r = none → Same H H' → H' r = some (.dK (kvI l')) → DI l' (iter f (k + 1)) → l'.length ≤ 300 → Q (.ref r) H'
theorem get_map {xs : List Int} {i : Nat} {a : Int} (h : xs[i]? = some a) : (xs.map V.int)[i]? = some (V.int a) := by
  rw [List.getElem?_map, h]; rfl
theorem for_cat {K : PySem.W.Frag} {t u : TE} {g : TG} {tb : TS} {D : Ends} {σ : L2.St} {H : Hp} (h : tLockE t σ H (fun x H1 => u σ H1 fun y H2 => rCat x y H2 fun z H3 => ∃ a, z = .ref a ∧ (∃ xs, SqL K H3 a xs) ∧ tFor (fun _ H R => R (Itl K a) H) g tb D σ H3)) :
    tFor (iList K (tOp rCat (tLockE t) u)) g tb D σ H := h
theorem Same.put {H H' : Hp} {p : Addr} {o : HO} (s : Same H H') (h : H p = none) : Same H (upd H' p o) := fun b u e => by rw [upd_ne (ne_of_none e h)]; exact s b u e
theorem at_mod {row : List Int} {j k : Nat} {y : Int} (h : row[(j + k) % row.length]? = some y) : atI (row.map V.int) ((((j : Nat) : Int) + ((k : Nat) : Int)) % (((row.map V.int).length : Nat) : Int)) = some (V.int y) := by
  have e : (((j : Nat) : Int) + ((k : Nat) : Int)) % (((row.map V.int).length : Nat) : Int) = (((j + k) % row.length : Nat) : Int) := by
    rw [List.length_map]
    push_cast
    rfl
  rw [e]
  exact atI_nat (get_map h)
theorem at_add {row : List Int} {j k : Nat} {y : Int} (h : row[j + k]? = some y) : atI (row.map V.int) (((j : Nat) : Int) + ((k : Nat) : Int)) = some (V.int y) := by
  have e : (((j : Nat) : Int) + ((k : Nat) : Int)) = ((j + k : Nat) : Int) := by
    push_cast
    rfl
  rw [e]
  exact atI_nat (get_map h)
theorem srcs {l : List (Int × Int)} {f : PF} (di : DI l f) {c : Int → Bool} {v : V} (h : v ∈ madeL (fun x _ => c x) (fun x _ => V.int x) l ++ (kvI l).map (fun kv => kV kv.1)) : ∃ x y, v = .int x ∧ f x = some y := by
  rcases List.mem_append.mp h with h | h
  · unfold madeL at h
    obtain ⟨⟨x, y⟩, hp, rfl⟩ := List.mem_map.mp h
    exact ⟨x, y, rfl, di.mem.mp (List.mem_filter.mp hp).1⟩
  · unfold kvI at h
    rw [List.map_map] at h
    obtain ⟨⟨x, y⟩, hp, rfl⟩ := List.mem_map.mp h
    exact ⟨x, y, rfl, di.mem.mp hp⟩
theorem srcs_all {l : List (Int × Int)} {f : PF} (di : DI l f) {c : Int → Bool} {x y : Int} (h : f x = some y) : V.int x ∈ madeL (fun x _ => c x) (fun x _ => V.int x) l ++ (kvI l).map (fun kv => kV kv.1) := by
  refine List.mem_append.mpr (.inr ?_)
  unfold kvI
  rw [List.map_map]
  exact List.mem_map.mpr ⟨(x, y), di.mem.mpr h, rfl⟩
theorem ok_moved (T : Txt K mg) : FnR P w K mg base CX0 2 T.f_moved spMoved := by
  refine T.A_moved.ok sc_moved (fun vs H Q E h => ?_) (fun cdv A outer s H vs Q E hr h => ?_)
  · obtain ⟨d, l, n, f, k, rfl, _⟩ := h
    rfl
  · obtain ⟨d, l, n, f, k, rfl, hd, di, wf, hn, hl, q⟩ := h
    have hu := hu_of hr
    refine ⟨_, pss_cons (ps_set (i := 2) sc_moved.nd rfl (Or.inl rfl) pe_dnewK)
      (pss_cons (ps_set (i := 3) sc_moved.nd rfl (Or.inl rfl) pe_dnewK)
      (pss_cons (ps_set (i := 4) sc_moved.nd rfl (Or.inr rfl) (pe_lock (pe_dc (own := [("target", 10)]) (g := gName 10) (tt := tYes) rfl sc_moved.nd (pi_values (pv 0))
          (blkOk_by (own := [("target", 10)]) (N := n_moved) (sc := defScope s_moved) (by decide +kernel))
          (fun _ _ _ _ _ => pg_name (i := 10) sc_moved.nd rfl (Or.inl rfl)) (fun _ _ _ _ _ => pts_nil) (fun _ _ _ _ _ => pv 10) (fun _ _ _ _ _ => pe_bl))))
      (pss_cons (ps_for PassesOwn.never rfl (pi_list (pe_op op_cat (pe_lock (pe_lc (own := [("element", 9)]) (g := gName 9) rfl sc_moved.nd (pi_keys (pv 0))
          (blkOk_by (own := [("element", 9)]) (N := n_moved) (sc := defScope s_moved) (by decide +kernel))
          (fun _ _ _ _ _ => pg_name (i := 9) sc_moved.nd rfl (Or.inl rfl)) (fun _ _ _ _ _ => pts_one (pt_cmp (pc_dnotin hu (pv 9) (pv 4)))) (fun _ _ _ _ _ => pv 9)))
          (pe_callTy (call_list_dK rfl) (by rfl) T.n_list (by decide +kernel) (pa_cons (pv 0) pa_nil)))) (pg_name (i := 5) sc_moved.nd rfl (Or.inl rfl))
        (pss_one (ps_if (pt_cmp (pc_dnotin hu (pv 5) (pv 3)))
          (pss_cons (ps_set (i := 6) sc_moved.nd rfl (Or.inl rfl) (pe_callR (ok_row_from T) hr T.A_row_from.kp rfl T.g_row_from pass0 (pa_cons (pv 0) (pa_cons (pv 5) pa_nil))))
          (pss_cons (ps_set (i := 7) sc_moved.nd rfl (Or.inl rfl) (pe_cmp (pc_din hu (pe_ix ix_list (pv 6) (pe_un un_neg pe_int) (fun _ _ => rfl)) (pv 0))))
          (pss_one (ps_for PassesOwn.never rfl (pi_enum rfl T.n_enumerate (pa_cons (pv 6) pa_nil)) (pg_tup rfl (pgs_cons (pg_name (i := 8) sc_moved.nd rfl (Or.inl rfl)) (pgs_cons (pg_name (i := 9) sc_moved.nd rfl (Or.inl rfl)) pgs_nil)))
            (pss_cons (ps_dput hu (pv 3) (pv 9) pe_bl rfl)
            (pss_one (ps_if (pt_val (pv 7))
              (pss_one (ps_dput hu (pv 2) (pv 9) (pe_ix ix_list (pv 6) (pe_op op_mod (pe_op op_add (pv 8) (pv 1)) (pe_callB call_len_seq (by rfl) T.n_len (by decide +kernel) (pa_cons (pv 6) pa_nil))) (fun _ _ => rfl)) rfl))
              (pss_one (ps_if (pt_cmpR op_lt (pe_op op_add (pv 8) (pv 1)) (pe_callB call_len_seq (by rfl) T.n_len (by decide +kernel) (pa_cons (pv 6) pa_nil)) (nomark _))
                (pss_one (ps_dput hu (pv 2) (pv 9) (pe_ix ix_list (pv 6) (pe_op op_add (pv 8) (pv 1)) (fun _ _ => rfl)) rfl)) pss_nil))))))))) pss_nil)))
      (pss_one (ps_ret (pv 2)))))), ?_⟩
    intro fo hfo
    intro se hse
    have nfs : fo ≠ se := ne_of_none upd_same hse
    have s1 : Same H (upd (upd H fo (.dK [])) se (.dK [])) := (Same.new hfo).trans (Same.new hse)
    have se0 : H se = none := (Same.new hfo).free hse
    have fo1 : (upd (upd H fo (.dK [])) se (.dK [])) fo = some (.dK (kvI [])) := by rw [upd_ne nfs, upd_same]; rfl
    have se1 : (upd (upd H fo (.dK [])) se (.dK [])) se = some (.dK (kvB [])) := upd_same
    have vnd := di.vals wf
    refine dc_vals (s1 _ _ hd) (fun H' R r o => ⟨_, rfl, r⟩) (fun _ => rfl) (fun _ _ _ r => r) (fun _ _ _ r => ⟨_, rfl, r⟩) (fun _ _ _ r => r) vnd (small1000 (by omega)) (fun tg H2 ntg htg s2 => ?_)
    have s12 := s1.trans s2
    have cd : ∀ (x : Int) (H1 : Hp), H1 tg = some (.dK (tgt l)) → DGet H1 tg (.int x) (valV (tgt l) (Sum.inl x)) := fun x H1 h => DGet.k (k := Sum.inl x) h
    have ntd : tg ≠ d := fun e => by rw [e, s1 _ _ hd] at ntg; cases ntg
    dsimp only [tSeq]
    refine for_cat ?_
    refine lc_keys (fun x => !decide (x ∈ l.map (·.2))) (fun x => .int x) (s12 _ _ hd) (fun H' R r o => ⟨_, rfl, r⟩) (fun _ => rfl) (fun x H1 o => ⟨fun R r => ?_, fun R r => ⟨_, rfl, r⟩⟩) (small1000 (by omega)) (fun L1 H3 nL1 hL1 s3 => ?_)
    · refine ⟨_, rfl, _, rfl, tg, _, rfl, cd x H1 (o _ _ ntd htg), _, rfl, ?_⟩
      rw [tgt_val]
      exact r
    have s13 := s12.trans s3
    refine ⟨_, rfl, d, _, rfl, s13 _ _ hd, fun L2 hL2 => ?_⟩
    have hlen1 := madeL_len (fun x _ => !decide (x ∈ l.map (·.2))) (fun x _ => V.int x) l l.length
    rw [List.take_length] at hlen1
    refine ⟨L1, L2, _, _, rfl, rfl, (by rw [upd_ne (ne_of_none hL1 hL2)]; exact hL1), upd_same, ?_, fun L3 hL3 => ?_⟩
    · rw [List.length_map, kvI_length]
      exact Nat.le_trans (by omega : _ ≤ 1000) (by decide)
    have s14 : Same H (upd H3 L2 (.lst ((kvI l).map fun kv => kV kv.1))) := s13.trans (Same.new hL2)
    have L30 : H L3 = none := s14.free hL3
    obtain ⟨S, eS⟩ : ∃ S, S = madeL (fun x _ => !decide (x ∈ l.map (·.2))) (fun x _ => V.int x) l ++ (kvI l).map (fun kv => kV kv.1) := ⟨_, rfl⟩
    have hS1 : ∀ v ∈ S, ∃ x y, v = .int x ∧ f x = some y := fun v hv => srcs di (eS ▸ hv)
    have hS2 : ∀ x y, f x = some y → V.int x ∈ S := fun x y h => eS ▸ srcs_all di h
    rw [← eS]
    refine ⟨L3, rfl, ⟨_, SqL.of upd_same⟩, ?_⟩
    have fo4 : (upd (upd H3 L2 (.lst ((kvI l).map fun kv => kV kv.1))) L3 (.lst S)) fo = some (.dK (kvI [])) := ((s2.trans s3).trans ((Same.new hL2).trans (Same.new hL3))) _ _ fo1
    have se4 : (upd (upd H3 L2 (.lst ((kvI l).map fun kv => kV kv.1))) L3 (.lst S)) se = some (.dK (kvB [])) := ((s2.trans s3).trans ((Same.new hL2).trans (Same.new hL3))) _ _ se1
    have nLf : L3 ≠ fo := fun e => by
      have := ((s2.trans s3).trans (Same.new (o := .lst ((kvI l).map fun kv => kV kv.1)) hL2)) _ _ fo1
      rw [← e, hL3] at this; cases this
    have nLs : L3 ≠ se := fun e => by
      have := ((s2.trans s3).trans (Same.new (o := .lst ((kvI l).map fun kv => kV kv.1)) hL2)) _ _ se1
      rw [← e, hL3] at this; cases this
    refine for_it (walk_list (xs := S)) (fun i σ H' => ∃ v5 v6 v7 v8 v9 v10 fl sl, σ = [some (.ref d), some (.int ((k + 1 : Nat) : Int)), some (.ref fo), some (.ref se), some (.ref tg), v5, v6, v7, v8, v9, v10] ∧ Same H H' ∧ H' L3 = some (.lst S) ∧ H' fo = some (.dK (kvI fl)) ∧ H' se = some (.dK (kvB sl)) ∧ Fnd n f (k + 1) fl sl ∧ ∀ x, V.int x ∈ S.take i → x ∈ sl)
      ⟨none, none, none, none, none, none, [], [], rfl, Same.put s14 L30, upd_same, fo4, se4, ⟨List.nodup_nil, fun _ => rfl, List.nodup_nil, fun _ h => nomatch h⟩, fun x h => by simp at h⟩ (fun i σ H' _ ⟨_, _, _, _, _, _, _, _, _, _, p, _⟩ => SqL.of p) ?_ ?_
    · rintro i v σ H' H'' hi ⟨v5, v6, v7, v8, v9, v10, fl, sl, rfl, p1, p2, p3, p4, p5, p6⟩ ⟨rfl, ev⟩
      obtain ⟨x, y, rfl, hxy⟩ := hS1 v (List.mem_of_getElem? ev)
      have hdx := wf.dom x y hxy
      have hd' := p1 _ _ hd
      refine ⟨_, rfl, _, rfl, se, _, rfl, DGet.k (k := Sum.inl x) p4, _, rfl, ?_⟩
      rw [kvB_val]
      refine ifNB (fun hc => ?_) (fun hc => ?_)
      · refine ⟨_, rfl, _, rfl, d, l, n, f, x, rfl, hd', di, wf, hn, hdx.1, hdx.2.1, fun r H2 pre z hr0 sr hr2 row ho => ?_⟩
        have q1 := p1.trans sr
        refine ⟨_, rfl, 1, rfl, r, _, -1, .int z, rfl, rfl, SqL.of hr2, lastI _ _, _, rfl, d, _, rfl, dgetI (q1 _ _ hd) di z, ?_⟩
        refine ⟨_, rfl, r, _, rfl, SqL.of hr2, ?_⟩
        have r0 : H r = none := p1.free hr0
        have nrL : r ≠ L3 := fun e => by rw [e, p2] at hr0; cases hr0
        have nrf : r ≠ fo := fun e => by rw [e, p3] at hr0; cases hr0
        have nrs : r ≠ se := fun e => by rw [e, p4] at hr0; cases hr0
        have hlast : (pre ++ [z])[(pre ++ [z]).length - 1]? = some z := by simp
        have hpos : 0 < (pre ++ [z]).length := by simp
        refine for_it (walk_enum (xs := (pre ++ [z]).map V.int)) (fun j σ H3 => ∃ v8 v9 fl' sl', σ = [some (.ref d), some (.int ((k + 1 : Nat) : Int)), some (.ref fo), some (.ref se), some (.ref tg), some (.int x), some (.ref r), some (.bl ((f z).map V.int).isSome), v8, v9, v10] ∧ Same H H3 ∧ H3 L3 = some (.lst S) ∧ H3 r = some (.lst ((pre ++ [z]).map V.int)) ∧ H3 fo = some (.dK (kvI fl')) ∧ H3 se = some (.dK (kvB sl')) ∧ Fnd n f (k + 1) fl' sl' ∧ (∀ a ∈ sl, a ∈ sl') ∧ ∀ a ∈ (pre ++ [z]).take j, a ∈ sl')
          ⟨v8, v9, fl, sl, rfl, q1, sr _ _ p2, hr2, sr _ _ p3, sr _ _ p4, p5, fun _ h => h, fun a h => by simp at h⟩ (fun j σ H3 _ ⟨_, _, _, _, _, _, _, p, _⟩ => SqL.of p) ?_ ?_
        · rintro j v σ H3 H4 hj ⟨w8, w9, fl', sl', rfl, t1, t2, t3, t4, t5, t6, t7, t8⟩ ⟨U, a, b, rfl, hU, rfl, e1, e2⟩
          rw [List.length_map] at hj
          obtain ⟨a0, ea⟩ : ∃ a, (pre ++ [z])[j]? = some a := ⟨_, List.getElem?_eq_getElem hj⟩
          dsimp only at e1 e2
          rw [get_map ea] at e2
          cases e1; cases e2
          have hda := row.dom wf hdx.1 hdx.2.1 a0 (List.mem_of_getElem? ea)
          refine ⟨U, [.int (j : Int), .int a0], rfl, SqT.of upd_same, rfl, .int (j : Int), [.int a0], rfl, .int a0, [], rfl, rfl, ?_⟩
          have u1 : Same H (upd H3 U (.tup [.int (j : Int), .int a0])) := t1.trans (Same.new hU)
          have u2 : (upd H3 U (.tup [.int (j : Int), .int a0])) L3 = _ := (Same.new hU) _ _ t2
          have u3 : (upd H3 U (.tup [.int (j : Int), .int a0])) r = _ := (Same.new hU) _ _ t3
          have u4 : (upd H3 U (.tup [.int (j : Int), .int a0])) fo = _ := (Same.new hU) _ _ t4
          have u5 : (upd H3 U (.tup [.int (j : Int), .int a0])) se = _ := (Same.new hU) _ _ t5
          have hsl := t6.slen
          have hfl := t6.len
          refine ⟨_, rfl, _, rfl, se, _, rfl, DPut.k (k := Sum.inl a0) u5 (small1000 (by unfold kvB; rw [List.length_map]; omega)), ?_⟩
          obtain ⟨sl2, es, hs1, hs2⟩ := kvB_put sl' a0
          rw [es]
          obtain ⟨H5, eH5⟩ : ∃ H5, H5 = upd (upd H3 U (.tup [.int (j : Int), .int a0])) se (.dK (kvB sl2)) := ⟨_, rfl⟩
          have w1 : Same H H5 := by rw [eH5]; exact Same.put u1 se0
          have w2 : H5 L3 = some (.lst S) := by rw [eH5, upd_ne nLs]; exact u2
          have w3 : H5 r = some (.lst ((pre ++ [z]).map V.int)) := by rw [eH5, upd_ne nrs]; exact u3
          have w4 : H5 fo = some (.dK (kvI fl')) := by rw [eH5, upd_ne nfs]; exact u4
          have w5 : H5 se = some (.dK (kvB sl2)) := by rw [eH5, upd_same]
          have m1 : ∀ a ∈ sl, a ∈ sl2 := fun a h => (hs1 a).mpr (.inl (t7 a h))
          have m2 : ∀ a ∈ (pre ++ [z]).take (j + 1), a ∈ sl2 := by
            intro a ha
            rw [take_more ea] at ha
            rcases List.mem_append.mp ha with h | h
            · exact (hs1 a).mpr (.inl (t8 a h))
            · simp at h
              exact (hs1 a).mpr (.inr h)
          rw [← eH5]
          refine ⟨_, rfl, _, rfl, ?_⟩
          rcases ho with ho | ho
          · rw [ho]
            refine iteF ?_
            have op := row.openAt hlast hpos ho j a0 ea (k + 1)
            refine ⟨_, rfl, _, rfl, _, _, rfl, rfl, _, rfl, r, _, rfl, .inl (SqL.of w3), _, _, rfl, rfl, _, rfl, ?_⟩
            refine ifD (fun hlt => ?_) (fun hge => ?_)
            · obtain ⟨y2, ey2⟩ : ∃ y2, (pre ++ [z])[j + (k + 1)]? = some y2 := ⟨_, List.getElem?_eq_getElem (by rw [List.length_map] at hlt; omega)⟩
              refine ⟨_, rfl, _, rfl, _, rfl, _, _, rfl, rfl, r, _, _, .int y2, rfl, rfl, SqL.of w3, at_add ey2, _, rfl, _, rfl, fo, _, rfl, DPut.k (k := Sum.inl a0) w4 (small1000 (by rw [kvI_length]; omega)), ?_⟩
              obtain ⟨fl2, ef, _, fn, fa⟩ := putK_lk (l := fl') (x := a0) (y := y2)
              rw [ef]
              rw [ey2] at op
              refine ⟨_, _, fl2, sl2, rfl, Same.put w1 hfo, ?_, ?_, upd_same, ?_, t6.put hs1 hs2 hda op fn fa, m1, m2⟩
              · rw [upd_ne nLf]; exact w2
              · rw [upd_ne nrf]; exact w3
              · rw [upd_ne nfs.symm]; exact w5
            · have : (pre ++ [z])[j + (k + 1)]? = none := List.getElem?_eq_none (by rw [List.length_map] at hge; omega)
              rw [this] at op
              exact ⟨_, _, fl', sl2, rfl, w1, w2, w3, w4, w5, t6.skip hs1 hs2 hda op, m1, m2⟩
          · rw [ho]
            refine iteT ?_
            have cl := row.closedAt hlast hpos ho j a0 ea (k + 1)
            obtain ⟨y2, ey2⟩ : ∃ y2, (pre ++ [z])[(j + (k + 1)) % (pre ++ [z]).length]? = some y2 := ⟨_, List.getElem?_eq_getElem (Nat.mod_lt _ hpos)⟩
            refine ⟨_, rfl, _, rfl, _, rfl, _, _, rfl, rfl, _, rfl, r, _, rfl, .inl (SqL.of w3), _, _, rfl, rfl, ?_, r, _, _, .int y2, rfl, rfl, SqL.of w3, at_mod ey2, _, rfl, _, rfl, fo, _, rfl, DPut.k (k := Sum.inl a0) w4 (small1000 (by rw [kvI_length]; omega)), ?_⟩
            · rw [List.length_map]
              omega
            obtain ⟨fl2, ef, _, fn, fa⟩ := putK_lk (l := fl') (x := a0) (y := y2)
            rw [ef]
            rw [ey2] at cl
            refine ⟨_, _, fl2, sl2, rfl, Same.put w1 hfo, ?_, ?_, upd_same, ?_, t6.put hs1 hs2 hda cl fn fa, m1, m2⟩
            · rw [upd_ne nLf]; exact w2
            · rw [upd_ne nrf]; exact w3
            · rw [upd_ne nfs.symm]; exact w5
        · rintro σ H3 ⟨w8, w9, fl', sl', rfl, t1, t2, t3, t4, t5, t6, t7, t8⟩
          rw [List.length_map, List.take_length] at t8
          refine ⟨_, _, _, _, _, _, fl', sl', rfl, t1, t2, t4, t5, t6, fun a ha => ?_⟩
          rw [take_more ev] at ha
          rcases List.mem_append.mp ha with h | h
          · exact t7 a (p6 a h)
          · simp at h
            subst h
            exact t8 a (List.mem_of_getElem? row.h0)
      · refine ⟨_, _, _, _, _, _, fl, sl, rfl, p1, p2, p3, p4, p5, fun a ha => ?_⟩
        rw [take_more ev] at ha
        rcases List.mem_append.mp ha with h | h
        · exact p6 a h
        · simp at h
          subst h
          exact of_decide_eq_true hc
    · rintro σ H' ⟨v5, v6, v7, v8, v9, v10, fl, sl, rfl, p1, p2, p3, p4, p5, p6⟩
      rw [List.take_length] at p6
      have hfl := p5.len
      exact ⟨_, rfl, q fo H' fl hfo p1 p3 (p5.di fun x y h => p6 x (hS2 x y h)) (by omega)⟩
end
end My
namespace My
open PySem L2 U StX PM
/-! ### f.power(e) -/
def pw (n : Int) (f : PF) (e : Int) : PF := if e = 0 then idn n else if e < 0 then iter (inv n f) e.natAbs else iter f e.natAbs
section
variable {P : Program} {w : World} {K : PySem.W.Frag} {mg : Str → Option Value} {base : Heap}
def spPow (C : Addr) : Sp := fun vs H Q _ => ∃ a n f e, vs = [.ref a, .int e] ∧ IsMap C H a n f ∧ ∀ r H', H r = none → Same H H' → IsMap C H' r n (pw n f e) → Q (.ref r) H'
theorem ok_power (T : Txt K mg) : FnR P w K mg base CX0 7 T.f_Map_power (spPow T.C_Map) := by
  refine T.A_Map_power.ok sc_Map_power (fun vs H Q E h => ?_) (fun cdv A outer s H vs Q E hr h => ?_)
  · obtain ⟨a, n, f, e, rfl, _⟩ := h
    rfl
  · obtain ⟨a, n, f, e, rfl, ha, q⟩ := h
    have hu := hu_of hr
    refine ⟨_, pss_cons (ps_if (pt_not (pt_val (pe_callR (ok_is_integer T) (hr.mono (by decide)) T.A_is_integer.kp rfl T.g_is_integer pass0 (pa_cons (pv 1) pa_nil)))) (pss_one ps_never) pss_nil)
      (pss_cons (ps_set (i := 2) sc_Map_power.nd rfl (Or.inl rfl) (pe_fld (pv 0) rfl))
      (pss_cons (ps_if (pt_cmpR op_lt (pv 1) pe_int (nomark _)) (pss_one (ps_lock (ps_setDc (i := 2) (own := [("source", 3), ("target", 4)]) (g := gTup K 2 (gCons (gName 3) (gCons (gName 4) gNil))) (tt := tYes) rfl sc_Map_power.nd rfl rfl (sw_dict rfl rfl rfl (by decide +kernel)) (pi_items (pe_fld (pv 0) rfl))
        (blkOk_by (own := [("source", 3), ("target", 4)]) (N := n_Map_power) (sc := defScope s_Map_power) (by decide +kernel))
        (fun _ _ _ _ _ => pg_tup rfl (pgs_cons (pg_name (i := 3) sc_Map_power.nd rfl (Or.inl rfl)) (pgs_cons (pg_name (i := 4) sc_Map_power.nd rfl (Or.inl rfl)) pgs_nil)))
        (fun _ _ _ _ _ => pts_nil) (fun _ _ _ _ _ => pv 4) (fun _ _ _ _ _ => pv 3)))) pss_nil)
      (pss_cons (ps_if (pt_cmpR op_eq (pv 1) pe_int (nomark _)) (pss_one (ps_ret (ClX.pe_cmeth (pe_glob (v := .ref T.C_Map) rfl T.g_Map rfl) T.R_Map T.cm_Map_identity (ok_identity T) hr pass0 (pa_cons (pe_fld (pv 0) rfl) pa_nil)))) pss_nil)
      (pss_one (ps_ret (pe_makeR T.M_Map (ok_init T) (hr.mono (by decide)) rfl T.g_Map pass0 (pa_cons (pe_fld (pv 0) rfl) (pa_cons (pe_callR (ok_moved T) (hr.mono (by decide)) T.A_moved.kp rfl T.g_moved pass0 (pa_cons (pv 2) (pa_cons (pe_callB call_abs (by rfl) T.n_abs (by decide +kernel) (pa_cons (pv 1) pa_nil)) pa_nil))) pa_nil)))))))), ?_⟩
    obtain ⟨dx, D, h1, h2⟩ := id ha.ob
    have h9 := ha.hi
    have ht := tab_len n f
    refine ⟨_, rfl, .int e, rfl, trivial, _, rfl, iteF ?_⟩
    refine ⟨_, rfl, a, _, dx, _, _, rfl, h1, T.o_Map.cl, T.na_own_arrows_Map, flds_arrows _ _, ?_⟩
    refine ⟨_, rfl, _, _, rfl, rfl, _, rfl, ?_⟩
    refine ifD (fun hneg => ?_) (fun hpos => ?_)
    · refine lock_asg ?_
      refine dc_items (fun _ _ => true) (fun _ y => y) (fun x _ => .int x) h2 (fun H' R r o => ?_) (fun _ _ => rfl) ?_ ?_ ?_ ?_
      · refine ⟨_, rfl, a, _, dx, _, _, rfl, o _ _ (ne_of h1 h2 (by intro z; cases z)) h1, T.o_Map.cl, T.na_own_arrows_Map, flds_arrows _ _, r⟩
      · intro x y hxy H1 o
        exact ⟨fun R r => r, fun _ => ⟨fun R r => ⟨_, rfl, r⟩, fun R r => ⟨_, rfl, r⟩⟩⟩
      · rw [madeD_I, kvI_keys]
        exact nd_inl (nd_tgt (vals_tab ha.wf))
      · exact small1000 (Nat.le_trans (tab_len n f) (by omega))
      · intro D2 H2 nD2 hD2 s2
        rw [madeD_I] at hD2
        refine ⟨_, rfl, rfl, _, rfl, ?_⟩
        refine ifD (fun h0 => ?_) (fun _ => ?_)
        · have : e = 0 := V.int.inj h0
          omega
        refine ⟨_, rfl, a, _, dx, _, _, rfl, s2 _ _ h1, T.o_Map.cl, T.na_own_size_Map, flds_size _ _, ?_⟩
        have ek : (if e < 0 then -e else e) = ((e.natAbs - 1 + 1 : Nat) : Int) := by rw [if_pos hneg]; omega
        refine ⟨_, rfl, _, rfl, _, rfl, ?_⟩
        rw [ek]
        refine ⟨D2, _, n, _, _, rfl, hD2, inv_di ha.wf, wf_inv ha.wf, ha.hi, Nat.le_trans (madeI_len ..) (by omega), fun r3 H3 l3 n3 s3 hr3 di3 hl3 => ?_⟩
        have ei : pw n f e = iter (inv n f) (e.natAbs - 1 + 1) := by
          unfold pw
          rw [if_neg (by omega), if_pos hneg, show e.natAbs - 1 + 1 = e.natAbs by omega]
        refine mk_map hr3 di3 (wf_iter (wf_inv ha.wf) _) ha.lo ha.hi (by omega) fun r H5 nr s5 hm => ?_
        rw [← ei] at hm
        exact q r H5 ((s2.trans s3).free nr) ((s2.trans s3).trans s5) hm
    · refine ⟨_, rfl, rfl, _, rfl, ?_⟩
      refine ifD (fun h0 => ?_) (fun hne => ?_)
      · have e0 : e = 0 := V.int.inj h0
        refine ⟨rfl, _, rfl, a, _, dx, _, _, rfl, h1, T.o_Map.cl, T.na_own_size_Map, flds_size _ _, n, rfl, ha.lo, ha.hi, fun r H' nr s1 hm => ?_⟩
        refine q r H' nr s1 ?_
        unfold pw
        rw [if_pos e0]
        exact hm
      · have hne' : e ≠ 0 := fun z => hne (congrArg V.int z)
        refine ⟨_, rfl, a, _, dx, _, _, rfl, h1, T.o_Map.cl, T.na_own_size_Map, flds_size _ _, ?_⟩
        have ek : (if e < 0 then -e else e) = ((e.natAbs - 1 + 1 : Nat) : Int) := by rw [if_neg hpos]; omega
        refine ⟨_, rfl, _, rfl, _, rfl, ?_⟩
        rw [ek]
        refine ⟨D, _, n, _, _, rfl, h2, di_tab ha.wf, ha.wf, ha.hi, by omega, fun r3 H3 l3 n3 s3 hr3 di3 hl3 => ?_⟩
        have ei : pw n f e = iter f (e.natAbs - 1 + 1) := by
          unfold pw
          rw [if_neg hne', if_neg hpos, show e.natAbs - 1 + 1 = e.natAbs by omega]
        refine mk_map hr3 di3 (wf_iter ha.wf _) ha.lo ha.hi (by omega) fun r H5 nr s5 hm => ?_
        rw [← ei] at hm
        exact q r H5 (s3.free nr) (s3.trans s5) hm
end
end My
namespace My
open PySem L2 U StX PM
/-! ### a drawn map -/
structure Drw (n : Int) (i : Nat) (l : List (Int × Int)) (ns : List Int) : Prop where
  kn : (l.map (·.1)).Nodup
  vn : (l.map (·.2)).Nodup
  nn : ns.Nodup
  lt : ∀ p ∈ l, 0 ≤ p.1 ∧ p.1 < i ∧ 0 ≤ p.2 ∧ p.2 < n
  nt : ∀ y ∈ ns, 0 ≤ y ∧ y < n ∧ y ∉ l.map (·.2)
  ln : l.length ≤ i
  le : l.length + ns.length = n.toNat
theorem Drw.more {n : Int} {i : Nat} {l : List (Int × Int)} {ns : List Int} (h : Drw n i l ns) : Drw n (i + 1) l ns := by
  refine ⟨h.kn, h.vn, h.nn, fun p hp => ?_, h.nt, Nat.le_succ_of_le h.ln, h.le⟩
  have := h.lt p hp
  omega
theorem not_erase {ns : List Int} {k : Nat} {y : Int} (nd : ns.Nodup) (h : ns[k]? = some y) : y ∉ ns.eraseIdx k := by
  obtain ⟨hk, e⟩ := List.getElem?_eq_some_iff.mp h
  have e1 : ns = ns.take k ++ y :: ns.drop (k + 1) := by
    rw [← e]
    simp
  rw [List.eraseIdx_eq_take_drop_succ]
  intro hm
  rw [e1, List.nodup_append, List.nodup_cons] at nd
  rcases List.mem_append.mp hm with h1 | h1
  · exact nd.2.2 y h1 y List.mem_cons_self rfl
  · exact nd.2.1.1 h1
theorem Drw.put {n : Int} {i : Nat} {l : List (Int × Int)} {ns : List Int} (h : Drw n i l ns) {k : Nat} {y : Int} (hy : ns[k]? = some y) : Drw n (i + 1) (l ++ [((i : Int), y)]) (ns.eraseIdx k) ∧ (i : Int) ∉ l.map (·.1) := by
  have hm := h.nt y (List.mem_of_getElem? hy)
  have hi : (i : Int) ∉ l.map (·.1) := by
    intro hm
    obtain ⟨p, hp, e⟩ := List.mem_map.mp hm
    have := h.lt p hp
    omega
  obtain ⟨hk, _⟩ := List.getElem?_eq_some_iff.mp hy
  refine ⟨⟨?_, ?_, ?_, ?_, ?_, ?_, ?_⟩, hi⟩
  · rw [List.map_append, List.nodup_append]
    refine ⟨h.kn, by simp, fun a ha b hb e => ?_⟩
    simp at hb
    subst hb
    exact hi (e ▸ ha)
  · rw [List.map_append, List.nodup_append]
    refine ⟨h.vn, by simp, fun a ha b hb e => ?_⟩
    simp at hb
    subst hb
    exact hm.2.2 (e ▸ ha)
  · exact List.Sublist.nodup (List.eraseIdx_sublist _ _) h.nn
  · intro p hp
    rcases List.mem_append.mp hp with hp | hp
    · have := h.lt p hp
      omega
    · simp at hp
      subst hp
      dsimp only
      omega
  · intro z hz
    have h1 := h.nt z (List.mem_of_mem_eraseIdx hz)
    refine ⟨h1.1, h1.2.1, fun hq => ?_⟩
    rw [List.map_append] at hq
    rcases List.mem_append.mp hq with hq | hq
    · exact h1.2.2 hq
    · simp at hq
      subst hq
      exact not_erase h.nn hy hz
  · have := h.ln
    simp
    omega
  · have := h.le
    rw [List.length_append, List.length_singleton, List.length_eraseIdx, if_pos hk]
    omega
theorem two_in {l : List (Int × Int)} (vn : (l.map (·.2)).Nodup) : ∀ {x x' y : Int}, (x, y) ∈ l → (x', y) ∈ l → x = x' := by
  induction l with
  | nil => intro _ _ _ h; cases h
  | cons p r ih =>
    intro x x' y h1 h2
    rw [List.map_cons, List.nodup_cons] at vn
    rcases List.mem_cons.mp h1 with e1 | e1 <;> rcases List.mem_cons.mp h2 with e2 | e2
    · subst e1; cases e2; rfl
    · subst e1; exact absurd (List.mem_map.mpr ⟨(x', y), e2, rfl⟩) vn.1
    · subst e2; exact absurd (List.mem_map.mpr ⟨(x, y), e1, rfl⟩) vn.1
    · exact ih vn.2 e1 e2
theorem Drw.wf {n : Int} {l : List (Int × Int)} {ns : List Int} (h0 : 0 ≤ n) (h : Drw n n.toNat l ns) : WF n (lk l) := by
  refine ⟨fun x y e => ?_, fun x x' y e e' => two_in h.vn (lk_mem e) (lk_mem e')⟩
  have := h.lt _ (lk_mem e)
  dsimp only at this
  omega
theorem rg0 (n : Int) : rgV 0 n = ((List.range n.toNat).map fun (i : Nat) => (i : Int)).map V.int := by
  unfold rgV
  rw [List.map_map, show (n - 0).toNat = n.toNat by omega]
  refine List.map_congr_left fun a _ => ?_
  show V.int (0 + (a : Int)) = V.int (a : Int)
  rw [Int.zero_add]
theorem drw0 (n : Int) : Drw n 0 [] ((List.range n.toNat).map fun (i : Nat) => (i : Int)) := by
  refine ⟨List.nodup_nil, List.nodup_nil, ?_, fun p h => (nomatch h), fun y hy => ?_, Nat.le_refl _, by simp⟩
  · have := (di_id n.toNat).nd
    rw [List.map_map] at this
    exact this
  · obtain ⟨i, hi, rfl⟩ := List.mem_map.mp hy
    rw [List.mem_range] at hi
    exact ⟨by omega, by omega, by simp⟩
section
variable {P : Program} {w : World} {K : PySem.W.Frag} {mg : Str → Option Value} {base : Heap}
def PoolAt (H : Hp) (p : Addr) : Prop := ∃ a b : Int, H p = some (.lst [.int a, .int b]) ∧ 0 ≤ a ∧ 0 ≤ b ∧ b < 2147483647
def spDrwn : Sp := fun vs H Q _ => ∃ (p : Addr) (n way : Int), vs = [.ref p, .int n, .int way] ∧ PoolAt H p ∧ 1 ≤ n ∧ n ≤ 300 ∧
  ∀ r H' l, H r = none → H' r = some (.dK (kvI l)) → DI l (lk l) → WF n (lk l) → l.length ≤ 1000 → PoolAt H' p → Off p H H' → Q (.ref r) H'
theorem Off.put {p q : Addr} {H H' : Hp} {o : HO} (a : Off p H H') (h : H q = none) : Off p H (upd H' q o) := a.mut h
theorem Off.at {p : Addr} {H H' : Hp} {o : HO} (a : Off p H H') : Off p H (upd H' p o) := fun b u hb e => by rw [upd_ne hb]; exact a b u hb e
theorem ok_l_arrows (T : Txt K mg) : FnR P w K mg base CX0 2 T.f_l_arrows spDrwn := by
  refine T.A_l_arrows.ok sc_l_arrows (fun vs H Q E h => ?_) (fun cdv A outer s H vs Q E hr h => ?_)
  · obtain ⟨p, n, way, rfl, _⟩ := h
    rfl
  · obtain ⟨p, n, way, rfl, ⟨a0, b0, hp, ha0, hb0, hb1⟩, h1, h3, q⟩ := h
    have hu := hu_of hr
    refine ⟨_, pss_cons (ps_par (i := 3) (j := 4) rfl sc_l_arrows.nd rfl rfl (by decide) rfl rfl (pa_cons (pe_listRg rfl rfl T.n_list (prg_1 rfl T.n_range (pv 1))) (pa_cons pe_dnewK pa_nil)) (by rfl))
      (pss_cons (ps_for PassesOwn.never rfl (pi_range1 rfl T.n_range (pa_cons (pv 1) pa_nil)) (pg_name (i := 5) sc_l_arrows.nd rfl (Or.inl rfl))
        (pss_one (ps_if (pt_cmpR op_lt (pe_callR (ok_draw T) hr T.A_l_draw.kp rfl T.g_l_draw pass0 (pa_cons (pv 0) (pa_cons pe_int pa_nil))) (pv 2) (nomark _))
          (pss_one (ps_dput hu (pv 4) (pv 5) (pe_bm PySem.F.plainAttrs_list PySem.F.slot_list_pop PySem.F.type_list_pop mt_popAt (pv 3) (pa_cons (pe_callR (ok_draw T) hr T.A_l_draw.kp rfl T.g_l_draw pass0 (pa_cons (pv 0) (pa_cons (pe_callB call_len_seq (by rfl) T.n_len (by decide +kernel) (pa_cons (pv 3) pa_nil)) pa_nil))) pa_nil)) rfl)) pss_nil)))
      (pss_one (ps_ret (pv 4)))), ?_⟩
    refine ⟨_, rfl, n, rfl, RgOk.of_le (by decide) (by omega) (by decide) (by omega), fun lf hlf => ?_⟩
    intro fo hfo
    refine ⟨_, _, rfl, ?_⟩
    have lf0 : H lf = none := hlf
    have fo0 : H fo = none := (Same.new hlf).free hfo
    have npl : p ≠ lf := ne_of_none hp lf0
    have npf : p ≠ fo := ne_of_none hp fo0
    have nlf : lf ≠ fo := ne_of_none upd_same hfo
    refine ⟨_, rfl, n, rfl, by omega, by omega, ?_⟩
    refine for_it (walk_range (lo := 0) (n := n.toNat)) (fun i σ H' => ∃ v5 l ns, σ = [some (.ref p), some (.int n), some (.int way), some (.ref lf), some (.ref fo), v5] ∧ PoolAt H' p ∧ Off p H H' ∧ H' lf = some (.lst (ns.map V.int)) ∧ H' fo = some (.dK (kvI l)) ∧ Drw n i l ns)
      ⟨none, [], _, rfl, ⟨a0, b0, ?_, ha0, hb0, hb1⟩, ?_, ?_, upd_same, drw0 n⟩ (fun _ _ _ _ _ => trivial) ?_ ?_
    · rw [upd_ne npf, upd_ne npl]; exact hp
    · exact (Off.new hlf).tr (Off.new hfo)
    · rw [upd_ne nlf, upd_same, rg0]
    · rintro i v σ H' H'' hi ⟨v5, l, ns, rfl, ⟨a1, b1, e1, ha1, hb1, hb2⟩, p2, p3, p4, p5⟩ ⟨rfl, rfl⟩
      refine ⟨_, rfl, p, a1, b1, 4, rfl, e1, ha1, hb1, hb2, by decide, by decide, fun a2 b2 r2 ha2 hb2 hb3 hr2 hr3 => ?_⟩
      refine ⟨_, rfl, _, _, rfl, rfl, _, rfl, ?_⟩
      have o2 : Off p H (upd H'' p (.lst [.int a2, .int b2])) := Off.at p2
      have l2 : (upd H'' p (.lst [.int a2, .int b2])) lf = some (.lst (ns.map V.int)) := by rw [upd_ne npl.symm]; exact p3
      have f2 : (upd H'' p (.lst [.int a2, .int b2])) fo = some (.dK (kvI l)) := by rw [upd_ne npf.symm]; exact p4
      refine ifD (fun hlt => ?_) (fun _ => ?_)
      · have hlen := p5.le
        have hln := p5.ln
        have hl0 : 0 < ns.length := by omega
        refine ⟨_, rfl, .inl ⟨rfl, _, SqL.of l2⟩, _, rfl, _, rfl, lf, _, rfl, .inl (SqL.of l2), ?_⟩
        rw [List.length_map]
        refine ⟨p, a2, b2, (ns.length : Int), rfl, upd_same, ha2, hb2, hb3, by omega, by omega, fun a4 b4 r4 ha4 hb4 hb5 hr4 hr5 => ?_⟩
        obtain ⟨y, ey⟩ : ∃ y, ns[r4.toNat]? = some y := ⟨_, List.getElem?_eq_getElem (by omega)⟩
        obtain ⟨d1, d2⟩ := p5.put ey
        refine ⟨lf, _, r4, r4.toNat, .int y, rfl, rfl, (by rw [upd_ne npl.symm]; exact l2), by omega, by omega, ?_, get_map ey, ?_⟩
        · rw [List.length_map]
          exact PySem.seqIndex_of hr4 (by omega)
        refine ⟨_, rfl, _, rfl, fo, _, rfl, DPut.k (k := Sum.inl (0 + (i : Nat) : Int)) (kvs := kvI l) (by rw [upd_ne nlf.symm, upd_ne npf.symm]; exact f2) (small1000 (by rw [kvI_length]; omega)), ?_⟩
        rw [Int.zero_add, putK_kvI d2]
        refine ⟨_, _, ns.eraseIdx r4.toNat, rfl, ⟨a4, b4, ?_, ha4, hb4, hb5⟩, ?_, ?_, upd_same, d1⟩
        · rw [upd_ne npf, upd_ne npl, upd_same]
        · exact Off.put (Off.put (Off.at o2) lf0) fo0
        · rw [upd_ne nlf, upd_same]
          congr 2
          apply List.ext_getElem?
          intro m
          simp [List.getElem?_eraseIdx]
          split <;> rfl
      · exact ⟨_, l, ns, rfl, ⟨a2, b2, upd_same, ha2, hb2, hb3⟩, o2, l2, f2, p5.more⟩
    · rintro σ H' ⟨v5, l, ns, rfl, p1, p2, p3, p4, p5⟩
      have := p5.ln
      exact ⟨_, rfl, q fo H' l fo0 p4 ⟨p5.kn, fun _ => rfl⟩ (p5.wf (by omega)) (by omega) p1 p2⟩
end
end My
namespace U
open PySem PySem.Spec PyProof.Rows L2
/-- e, and what it gives is locked for good -/
def tFrz (t : TE) : TE := fun σ H Q => t σ H fun x H1 => ∃ d u, x = .ref d ∧ H1 d = some u ∧ Mut (some u) ∧ ∀ od, Q x (upd H1 d (.frz od u))
theorem pe_frz {X : Cx} {e : Expr} {t : TE} (h : PE X e t) : PE X e (tFrz t) := by
  refine ⟨fun pins s σ H Q I hw => thn (h.run pins s σ H _ I hw) fun v s1 ⟨x, H1, I1, r, d, u, ex, hd, mu, q⟩ => ?_⟩
  obtain ⟨od, I2⟩ := I1.lock hd mu
  exact ⟨x, _, I2, r, q od⟩
end U
namespace My
open PySem L2 U StX PM
/-! ### expressions over maps: new objects alone -/
def EvM (C : Addr) (n : Int) (t : TE) (σ : L2.St) (H : Hp) (f : PF) : Prop := ∀ H', Same H H' → ∀ Q : VK, (∀ r H'', Same H' H'' → IsMap C H'' r n f → Q (.ref r) H'') → t σ H' Q
def EvV (t : TE) (σ : L2.St) (H : Hp) (v : V) : Prop := ∀ H', Same H H' → ∀ Q : VK, (∀ H'', Same H' H'' → Q v H'') → t σ H' Q
def EvT (t : TT) (σ : L2.St) (H : Hp) (b : Bool) : Prop := ∀ H', Same H H' → ∀ R : Bool → Hp → Prop, (∀ H'', Same H' H'' → R b H'') → t σ H' R
section
variable {C : Addr} {n : Int} {f g : PF} {ta tb : TE} {σ : L2.St} {H : Hp} {E : XK} {i : Nat} {a : Addr}
theorem em_var (h : σ[i]? = some (some (.ref a))) (m : IsMap C H a n f) : EvM C n (tVar i) σ H f := fun H' s Q q => ⟨_, h, q a H' (Same.refl _) (m.same s)⟩
theorem em_op {op : PF → PF → PF} (ha : EvM C n ta σ H f) (hb : EvM C n tb σ H g) : EvM C n (tOp (rBin C (spOp C op) E) ta tb) σ H (op f g) := by
  intro H' s Q q
  refine ha H' s _ fun r1 H1 s1 m1 => hb H1 (s.trans s1) _ fun r2 H2 s2 m2 => ?_
  obtain ⟨dx, fs, e1⟩ := at_map (m1.same s2)
  obtain ⟨dy, gs, e2⟩ := at_map m2
  exact ⟨r1, dx, fs, r2, dy, gs, rfl, rfl, e1, e2, r1, r2, n, f, g, rfl, m1.same s2, m2, fun r H3 nr s3 m3 => q r H3 ((s1.trans s2).trans s3) m3⟩
def spOr (C : Addr) : Sp := fun vs H Q E => ∃ a b n f g, vs = [.ref a, .ref b] ∧ IsMap C H a n f ∧ IsMap C H b n g ∧ ¬ PM.Clash f g ∧ ∀ r H', H r = none → Same H H' → IsMap C H' r n (orf f g) → Q (.ref r) H'
theorem em_or (ha : EvM C n ta σ H f) (hb : EvM C n tb σ H g) (nc : ¬ PM.Clash f g) : EvM C n (tOp (rBin C (spOr C) E) ta tb) σ H (orf f g) := by
  intro H' s Q q
  refine ha H' s _ fun r1 H1 s1 m1 => hb H1 (s.trans s1) _ fun r2 H2 s2 m2 => ?_
  obtain ⟨dx, fs, e1⟩ := at_map (m1.same s2)
  obtain ⟨dy, gs, e2⟩ := at_map m2
  exact ⟨r1, dx, fs, r2, dy, gs, rfl, rfl, e1, e2, r1, r2, n, f, g, rfl, m1.same s2, m2, nc, fun r H3 nr s3 m3 => q r H3 ((s1.trans s2).trans s3) m3⟩
theorem em_inv (ha : EvM C n ta σ H f) : EvM C n (tUn (rUnO C (spInv C) E) ta) σ H (inv n f) := by
  intro H' s Q q
  refine ha H' s _ fun r1 H1 s1 m1 => ?_
  obtain ⟨dx, fs, e1⟩ := at_map m1
  exact ⟨r1, dx, fs, rfl, e1, r1, n, f, rfl, m1, fun r H3 nr s3 m3 => q r H3 (s1.trans s3) m3⟩
theorem em_pow {te : TE} {e : Int} (ha : EvM C n ta σ H f) (he : EvV te σ H (.int e)) : EvM C n (tMethR C "power" (spPow C) E ta (tCons te tNil)) σ H (pw n f e) := by
  intro H' s Q q
  refine ha H' s _ fun r1 H1 s1 m1 => ?_
  obtain ⟨dx, D, e1, e2⟩ := id m1.ob
  refine ⟨r1, dx, _, rfl, e1, flds_no _ _ (by decide +kernel) (by decide +kernel), ?_⟩
  refine he H1 (s.trans s1) _ fun H2 s2 => ?_
  exact ⟨r1, n, f, e, rfl, m1.same s2, fun r H3 nr s3 m3 => q r H3 ((s1.trans s2).trans s3) m3⟩
theorem em_new {op : Int → PF} (ha : EvM C n ta σ H f) : EvM C n (ClX.tCMeth C (spNew C op) E (tC (.ref C)) (tCons (tPropR C (spSize C) ta) tNil)) σ H (op n) := by
  intro H' s Q q
  refine ⟨rfl, ?_⟩
  refine ha H' s _ fun r1 H1 s1 m1 => ?_
  obtain ⟨dx, fs, e1⟩ := at_map m1
  exact ⟨r1, dx, fs, rfl, e1, r1, n, f, rfl, m1, n, rfl, m1.lo, m1.hi, fun r H3 nr s3 m3 => q r H3 (s1.trans s3) m3⟩
theorem ev_ne (ha : EvM C n ta σ H f) (hb : EvM C n tb σ H g) : EvV (tOp (rNeO C (spEqM C) E) ta tb) σ H (.bl (!eqB n f n g)) := by
  intro H' s Q q
  refine ha H' s _ fun r1 H1 s1 m1 => hb H1 (s.trans s1) _ fun r2 H2 s2 m2 => ?_
  obtain ⟨dx, fs, e1⟩ := at_map (m1.same s2)
  obtain ⟨dy, gs, e2⟩ := at_map m2
  exact ⟨r1, dx, fs, r2, dy, gs, rfl, rfl, e1, e2, r1, r2, n, f, n, g, rfl, m1.same s2, m2, _, rfl, q _ (s1.trans s2)⟩
theorem ev_eq (ha : EvM C n ta σ H f) (hb : EvM C n tb σ H g) : EvV (tOp (rBin C (spEqM C) E) ta tb) σ H (.bl (eqB n f n g)) := by
  intro H' s Q q
  refine ha H' s _ fun r1 H1 s1 m1 => hb H1 (s.trans s1) _ fun r2 H2 s2 m2 => ?_
  obtain ⟨dx, fs, e1⟩ := at_map (m1.same s2)
  obtain ⟨dy, gs, e2⟩ := at_map m2
  exact ⟨r1, dx, fs, r2, dy, gs, rfl, rfl, e1, e2, r1, r2, n, f, n, g, rfl, m1.same s2, m2, q _ (s1.trans s2)⟩
theorem ev_cmp {p : List (Int × Int) → List (Int × Int) → Bool} (ha : EvM C n ta σ H f) (hb : EvM C n tb σ H g) : EvV (tOp (rBin C (spCmp C p) E) ta tb) σ H (.bl (p (tab n f) (tab n g))) := by
  intro H' s Q q
  refine ha H' s _ fun r1 H1 s1 m1 => hb H1 (s.trans s1) _ fun r2 H2 s2 m2 => ?_
  obtain ⟨dx, fs, e1⟩ := at_map (m1.same s2)
  obtain ⟨dy, gs, e2⟩ := at_map m2
  exact ⟨r1, dx, fs, r2, dy, gs, rfl, rfl, e1, e2, r1, r2, n, f, g, rfl, m1.same s2, m2, fun H3 s3 => q _ ((s1.trans s2).trans s3)⟩
theorem ev_var {v : V} (h : σ[i]? = some (some v)) : EvV (tVar i) σ H v := fun H' s Q q => ⟨_, h, q H' (Same.refl _)⟩
theorem ev_c {v : V} : EvV (tC v) σ H v := fun H' s Q q => q H' (Same.refl _)
theorem et_test {t : TE} {b : Bool} (h : EvV t σ H (.bl b)) : EvT (tTest t) σ H b := fun H' s R q => h H' s _ fun H2 s2 => ⟨b, rfl, q H2 s2⟩
theorem et_tB {t : TE} {b : Bool} (h : EvV t σ H (.bl b)) : EvT (tB t) σ H b := fun H' s R q => h H' s _ fun H2 s2 => ⟨b, rfl, q H2 s2⟩
theorem et_or {t u : TT} (h1 : EvT t σ H false) (h2 : EvT u σ H false) : EvT (tOr t u) σ H false := fun H' s R q => h1 H' s _ fun H2 s2 => iteF (h2 H2 (s.trans s2) _ fun H3 s3 => q H3 (s2.trans s3))
theorem et_and {t u : TT} (h1 : EvT t σ H true) (h2 : EvT u σ H true) : EvT (tAnd t u) σ H true := fun H' s R q => h1 H' s _ fun H2 s2 => iteT (h2 H2 (s.trans s2) _ fun H3 s3 => q H3 (s2.trans s3))
theorem et_not {t : TT} {b : Bool} (h1 : EvT t σ H b) : EvT (tNot t) σ H (!b) := fun H' s R q => h1 H' s _ fun H2 s2 => q H2 s2
theorem ev_and {t u : TE} (h1 : EvV t σ H (.bl true)) (h2 : EvV u σ H (.bl true)) : EvV (tAndV t u) σ H (.bl true) := fun H' s R q => h1 H' s _ fun H2 s2 => ⟨true, rfl, iteT (h2 H2 (s.trans s2) _ fun H3 s3 => q H3 (s2.trans s3))⟩
theorem ev_not {t : TE} {b : Bool} (h1 : EvV t σ H (.bl b)) : EvV (tNotV t) σ H (.bl (!b)) := fun H' s R q => h1 H' s _ fun H2 s2 => ⟨b, rfl, q H2 s2⟩
end
theorem leL_of {n : Int} {f g : PF} (wf : WF n f) (wg : WF n g) (h : le f g) : leL (tab n f) (tab n g) = true := by
  unfold leL
  rw [List.all_eq_true]
  rintro ⟨x, y⟩ hp
  rw [decide_eq_true_eq, lk_tab wg]
  exact h _ _ ((mem_tab wf).mp hp)
theorem leL_iff {n : Int} {f g : PF} (wf : WF n f) (wg : WF n g) : leL (tab n f) (tab n g) = true ↔ le f g := by
  refine ⟨fun h x y e => ?_, leL_of wf wg⟩
  unfold leL at h
  rw [List.all_eq_true] at h
  have := h (x, y) ((mem_tab wf).mpr e)
  rw [decide_eq_true_eq, lk_tab wg] at this
  exact this
theorem eqB_eq {n : Int} {f g : PF} (wf : WF n f) (h : f = g) : eqB n f n g = true := by
  subst h
  exact eqB_self wf
theorem dEq_di {l l' : List (Int × Int)} {f : PF} (d : DI l f) (d' : DI l' f) : dEq (kvI l) (kvI l') = true := by
  have n1 := nd_of_map _ d.nd
  have n2 := nd_of_map _ d'.nd
  have s1 : ∀ p ∈ l, p ∈ l' := by
    rintro ⟨x, y⟩ hp
    exact d'.mem.mpr (d.mem.mp hp)
  have s2 : ∀ p ∈ l', p ∈ l := by
    rintro ⟨x, y⟩ hp
    exact d.mem.mpr (d'.mem.mp hp)
  have l1 := List.Nodup.length_le_of_subset n1 s1
  have l2 := List.Nodup.length_le_of_subset n2 s2
  unfold dEq
  rw [kvI_length, kvI_length, Bool.and_eq_true]
  refine ⟨by rw [beq_iff_eq]; omega, List.all_eq_true.mpr fun p hp => ?_⟩
  unfold kvI at hp
  obtain ⟨⟨x, y⟩, hm, rfl⟩ := List.mem_map.mp hp
  rw [decide_eq_true_eq, valV_kvI, d'.at_, d.mem.mp hm]
  rfl
/-! ### dict([(x, x) for x in one.arrows]) -/
theorem ev_dom {C : Addr} {n : Int} {f : PF} {K : PySem.W.Frag} {te : TE} {σ : L2.St} {H : Hp} {i : Nat} {tt : TT} {tv : TE} {vs : List Nat} (he : EvM C n te σ H f) (hw : ∀ a, wipe ((wipe σ vs).set i a) vs = wipe σ vs)
    (ht : ∀ (y : Int) (H1 : Hp) (R : Bool → Hp → Prop), R true H1 → tt ((wipe σ vs).set i (some (.int y))) H1 R)
    (hv : ∀ (x : Int) (H1 : Hp) (R : VK), (∀ p, H1 p = none → R (.ref p) (upd H1 p (.tup [.int x, .int x]))) → tv ((wipe σ vs).set i (some (.int x))) H1 R) :
    ∀ H', Same H H' → ∀ Q : VK, (∀ p H'' l, Same H' H'' → H'' p = some (.dK (kvI l)) → (∀ x y, f x = some y → lk l x = some x) → (∀ x y, lk l x = some y → x = y ∧ ∃ z, f x = some z) → (l.map (·.1)).Nodup → Q (.ref p) H'') →
      tCB (fun xs H Q => ∃ (a : Addr) (ps : List Addr) (kvs : List (Key × V)), xs = [.ref a] ∧ SqL K H a (ps.map V.ref) ∧ Paired (fun p kv => SqT K H p [kV kv.1, kv.2]) ps kvs ∧ ∀ p, H p = none → Q (.ref p) (upd H p (.dK (mergeK [] kvs))))
        (tCons (tLc (iKeys (tFrz (tPropR C (spArrows C) te))) (gName i) tt tv vs) tNil) σ H' Q := by
  intro H' s Q q
  refine he H' s _ fun r1 H1 s1 m1 => ?_
  obtain ⟨dx, fs, e1⟩ := at_map m1
  have h9 := m1.hi
  have ht9 := tab_len n f
  refine ⟨r1, dx, fs, rfl, e1, r1, n, f, rfl, m1, fun d hd => ?_⟩
  refine ⟨d, _, rfl, upd_same, trivial, fun od => ?_⟩
  refine ⟨d, od, rfl, .inl ⟨kvI (tab n f), upd_same, fun D hD => ?_⟩⟩
  have hDd : D ≠ d := fun e => by rw [e, upd_same] at hD; cases hD
  have hD1 : H1 D = none := by rw [upd_ne hDd, upd_ne hDd] at hD; exact hD
  have hd1 : H1 d = none := hd
  refine lc_it walk_keys (fun k H2 => H2 d = some (.frz od (.dK (kvI (tab n f)))) ∧ Same H1 H2 ∧ ∃ ps : List Addr, H2 D = some (.lst (ps.map V.ref)) ∧ Paired (fun p kv => H2 p = some (.tup [kV kv.1, kv.2])) ps (kvI (((tab n f).take k).map fun p => (p.1, p.1))))
    ⟨?_, ?_, [], upd_same, .nil⟩ (fun k H2 _ p => p.1) ?_ ?_
  · rw [upd_ne hDd.symm]; exact upd_same
  · exact Same.put (Same.put (Same.put (Same.refl _) hd1) hd1) hD1
  · rintro k v H2 H3 hk ⟨p1, p2, ps, p3, p4⟩ ⟨rfl, kk, vv, e2, rfl⟩
    obtain ⟨x, y, exy, rfl, rfl⟩ := kvI_get e2
    refine ⟨hw _, ?_⟩
    refine ht x _ _ ?_
    refine iteT (hv x _ _ fun p hp => ?_)
    have npd : d ≠ p := ne_of_none p1 hp
    have npD : D ≠ p := ne_of_none p3 hp
    have hpl : ps.length = ((tab n f).take k).length := by
      have : ∀ {α β : Type} {F : α → β → Prop} {l1 : List α} {l2 : List β}, Paired F l1 l2 → l1.length = l2.length := by
        intro α β F l1 l2 h
        induction h with
        | nil => rfl
        | cons _ _ ih => rw [List.length_cons, List.length_cons, ih]
      rw [this p4, kvI_length, List.length_map]
    refine ⟨_, (by rw [upd_ne npD]; exact p3), ?_, ?_⟩
    · rw [List.length_map, hpl, List.length_take]
      exact small1000 (by omega)
    refine ⟨?_, Same.put (p2.trans (Same.new hp)) hD1, ps ++ [p], ?_, ?_⟩
    · rw [upd_ne hDd.symm, upd_ne npd]; exact p1
    · rw [upd_same, List.map_append]; rfl
    · rw [take_more exy, List.map_append]
      have ek : kvI (((tab n f).take k).map (fun p => (p.1, p.1)) ++ [(x, y)].map (fun p => (p.1, p.1))) = kvI (((tab n f).take k).map fun p => (p.1, p.1)) ++ [(Sum.inl x, V.int x)] := by
        unfold kvI
        rw [List.map_append]
        rfl
      rw [ek]
      have stay : ∀ {q : Addr} {o : List V}, H3 q = some (.tup o) → (upd (upd H3 p (.tup [.int x, .int x])) D (.lst (ps.map V.ref ++ [.ref p]))) q = some (.tup o) := by
        intro q o hq
        have n1 : q ≠ D := fun e => by rw [e, p3] at hq; cases hq
        rw [upd_ne n1, upd_ne (ne_of_none hq hp)]
        exact hq
      refine Paired.snoc ?_ ?_
      · have : ∀ {l1 : List Addr} {l2 : List (Key × V)}, Paired (fun p kv => H3 p = some (.tup [kV kv.1, kv.2])) l1 l2 → Paired (fun q kv => (upd (upd H3 p (.tup [.int x, .int x])) D (.lst (ps.map V.ref ++ [.ref p]))) q = some (.tup [kV kv.1, kv.2])) l1 l2 := by
          intro l1 l2 h
          induction h with
          | nil => exact .nil
          | cons h1 _ ih => exact .cons (stay h1) ih
        exact this p4
      · rw [upd_ne npD.symm, upd_same]
        rfl
  · rintro H2 ⟨p1, p2, ps, p3, p4⟩
    rw [kvI_length, List.take_length] at p4
    have toS : ∀ {l1 : List Addr} {l2 : List (Key × V)}, Paired (fun p kv => H2 p = some (.tup [kV kv.1, kv.2])) l1 l2 → Paired (fun p kv => SqT K H2 p [kV kv.1, kv.2]) l1 l2 := by
      intro l1 l2 h
      induction h with
      | nil => exact .nil
      | cons h1 _ ih => exact .cons (SqT.of h1) ih
    refine ⟨D, ps, _, rfl, SqL.of p3, toS p4, fun p hp => ?_⟩
    have knd : (((tab n f).map fun p => (p.1, p.1)).map (·.1)).Nodup := by
      rw [List.map_map]
      exact keys_tab n f
    obtain ⟨l', el, _, nd', k'⟩ := merge_lk ((tab n f).map fun p => (p.1, p.1)) [] knd
    have el' : mergeK [] (kvI ((tab n f).map fun p => (p.1, p.1))) = kvI l' := el
    rw [el']
    have kk : ∀ z, lk l' z = lk ((tab n f).map fun p => (p.1, p.1)) z := by
      intro z
      rw [k' z]
      cases lk ((tab n f).map fun p => (p.1, p.1)) z <;> rfl
    refine q p _ l' ((s1.trans p2).trans (Same.new hp)) upd_same (fun x y hxy => ?_) (fun x y hxy => ?_) (nd' List.nodup_nil)
    · rw [kk]
      exact lk_some knd (List.mem_map.mpr ⟨(x, y), (mem_tab m1.wf).mpr hxy, rfl⟩)
    · rw [kk] at hxy
      obtain ⟨⟨a, b⟩, hm, e⟩ := List.mem_map.mp (lk_mem hxy)
      cases e
      exact ⟨rfl, b, (mem_tab m1.wf).mp hm⟩
end My
namespace My
open PySem L2 U StX PM
section
variable {C : Addr} {n : Int} {f g : PF} {ta tb : TE} {σ : L2.St} {H : Hp} {E : XK} {i : Nat} {a : Addr}
theorem et_ne0 (ha : EvM C n ta σ H f) (hb : EvM C n tb σ H g) (h : f = g) : EvT (tTest (tOp (rNeO C (spEqM C) E) ta tb)) σ H false := by
  intro H' s Q q
  refine ha H' s _ fun r1 H1 s1 m1 => hb H1 (s.trans s1) _ fun r2 H2 s2 m2 => ?_
  obtain ⟨dx, fs, e1⟩ := at_map (m1.same s2)
  obtain ⟨dy, gs, e2⟩ := at_map m2
  refine ⟨r1, dx, fs, r2, dy, gs, rfl, rfl, e1, e2, r1, r2, n, f, n, g, rfl, m1.same s2, m2, _, rfl, _, rfl, ?_⟩
  rw [eqB_eq m1.wf h]
  exact q _ (s1.trans s2)
theorem ev_eq1 (ha : EvM C n ta σ H f) (hb : EvM C n tb σ H g) (h : f = g) : EvV (tOp (rBin C (spEqM C) E) ta tb) σ H (.bl true) := by
  intro H' s Q q
  refine ha H' s _ fun r1 H1 s1 m1 => hb H1 (s.trans s1) _ fun r2 H2 s2 m2 => ?_
  obtain ⟨dx, fs, e1⟩ := at_map (m1.same s2)
  obtain ⟨dy, gs, e2⟩ := at_map m2
  refine ⟨r1, dx, fs, r2, dy, gs, rfl, rfl, e1, e2, r1, r2, n, f, n, g, rfl, m1.same s2, m2, ?_⟩
  rw [eqB_eq m1.wf h]
  exact q _ (s1.trans s2)
theorem ev_le1 (ha : EvM C n ta σ H f) (hb : EvM C n tb σ H g) (h : le f g) : EvV (tOp (rBin C (spCmp C leL) E) ta tb) σ H (.bl true) := by
  intro H' s Q q
  refine ha H' s _ fun r1 H1 s1 m1 => hb H1 (s.trans s1) _ fun r2 H2 s2 m2 => ?_
  obtain ⟨dx, fs, e1⟩ := at_map (m1.same s2)
  obtain ⟨dy, gs, e2⟩ := at_map m2
  refine ⟨r1, dx, fs, r2, dy, gs, rfl, rfl, e1, e2, r1, r2, n, f, g, rfl, m1.same s2, m2, fun H3 s3 => ?_⟩
  rw [leL_of m1.wf m2.wf h]
  exact q _ ((s1.trans s2).trans s3)
theorem if_F {c : TT} {t rest : TS} {D : Ends} (h : EvT c σ H false) (k : ∀ H1, Same H H1 → rest D σ H1) : tSeq (tIfS c t tNext) rest D σ H := h H (Same.refl H) _ fun H1 s1 => iteF (k H1 s1)
theorem if_T {c : TT} {t u rest : TS} {D : Ends} (h : EvT c σ H true) (k : ∀ H1, Same H H1 → t { D with nx := rest D } σ H1) : tSeq (tIfS c t u) rest D σ H := h H (Same.refl H) _ fun H1 s1 => iteT (k H1 s1)
theorem ret_v {te : TE} {D : Ends} {v : V} (h : EvV te σ H v) (k : ∀ H1, Same H H1 → D.rt v H1) : tRet te D σ H := h H (Same.refl H) _ k
theorem et_domne {K : PySem.W.Frag} {te : TE} {tt : TT} {tv : TE} {vs : List Nat} (wf : WF n f) (ha : EvM C n ta σ H (mul f (inv n f))) (he : EvM C n te σ H f) (hw : ∀ a, wipe ((wipe σ vs).set i a) vs = wipe σ vs)
    (ht : ∀ (y : Int) (H1 : Hp) (R : Bool → Hp → Prop), R true H1 → tt ((wipe σ vs).set i (some (.int y))) H1 R)
    (hv : ∀ (x : Int) (H1 : Hp) (R : VK), (∀ p, H1 p = none → R (.ref p) (upd H1 p (.tup [.int x, .int x]))) → tv ((wipe σ vs).set i (some (.int x))) H1 R) :
    EvT (tTest (tOp rNeD (tPropR C (spArrows C) ta) (tCB (fun xs H Q => ∃ (a : Addr) (ps : List Addr) (kvs : List (Key × V)), xs = [.ref a] ∧ SqL K H a (ps.map V.ref) ∧ Paired (fun p kv => SqT K H p [kV kv.1, kv.2]) ps kvs ∧ ∀ p, H p = none → Q (.ref p) (upd H p (.dK (mergeK [] kvs))))
        (tCons (tLc (iKeys (tFrz (tPropR C (spArrows C) te))) (gName i) tt tv vs) tNil)))) σ H false := by
  intro H' s R q
  refine ha H' s _ fun r1 H1 s1 m1 => ?_
  obtain ⟨dx, fs, e1⟩ := at_map m1
  refine ⟨r1, dx, fs, rfl, e1, r1, n, _, rfl, m1, fun d hd => ?_⟩
  have s2 := s1.trans (Same.new (o := .dK (kvI (tab n (mul f (inv n f))))) hd)
  refine ev_dom he hw ht hv _ (s.trans s2) _ fun p H3 l s3 hp3 k1 k2 nd => ?_
  have dl : DI l (mul f (inv n f)) := by
    refine ⟨nd, fun x => ?_⟩
    have := pf_ext (f := lk l) (g := mul f (inv n f)) fun x y => by
      rw [mul_inv wf]
      constructor
      · exact k2 x y
      · rintro ⟨rfl, y, e⟩
        exact k1 _ _ e
    exact congrFun this x
  refine ⟨d, p, _, _, rfl, rfl, s3 _ _ upd_same, hp3, intVals_kvI _, intVals_kvI _, _, rfl, ?_⟩
  rw [dEq_di (di_tab m1.wf) dl]
  exact q _ (s2.trans s3)
end
section
variable {P : Program} {w : World} {K : PySem.W.Frag} {mg : Str → Option Value} {base : Heap}
theorem ok_or' (T : Txt K mg) : FnR P w K mg base CX0 6 T.f_Map__or (spOr T.C_Map) := ok_or T
def spThree (C : Addr) : Sp := fun vs H Q _ => ∃ a b c n f g h, vs = [.ref a, .ref b, .ref c] ∧ IsMap C H a n f ∧ IsMap C H b n g ∧ IsMap C H c n h ∧ ∀ H', Same H H' → Q (.bl true) H'
theorem ok_products (T : Txt K mg) : FnR P w K mg base CX0 8 T.f_l_products (spThree T.C_Map) := by
  refine T.A_l_products.ok sc_l_products (fun vs H Q E h => ?_) (fun cdv A outer s H vs Q E hr h => ?_)
  · obtain ⟨a, b, c, n, f, g, h, rfl, _⟩ := h
    rfl
  · obtain ⟨a, b, c, n, f, g, h, rfl, m0, m1, m2, q⟩ := h
    have hu := hu_of hr
    refine ⟨_, pss_cons (ps_if (PW.pt (pw_or (pt_cmpR (op_neO T.o_Map T.ne_Map T.m_Map__eq T.i_Map__eq (ok_eq T) (hr.mono (by decide)) pass0) (pe_op (op_bin T.o_Map.sf T.m_Map__mul T.i_Map__mul (ok_mul T) (hr.mono (by decide)) pass0) (pe_op (op_bin T.o_Map.sf T.m_Map__mul T.i_Map__mul (ok_mul T) (hr.mono (by decide)) pass0) (pv 0) (pv 1)) (pv 2)) (pe_op (op_bin T.o_Map.sf T.m_Map__mul T.i_Map__mul (ok_mul T) (hr.mono (by decide)) pass0) (pv 0) (pe_op (op_bin T.o_Map.sf T.m_Map__mul T.i_Map__mul (ok_mul T) (hr.mono (by decide)) pass0) (pv 1) (pv 2))) (nomark _)) (pw_or (pt_cmpR (op_neO T.o_Map T.ne_Map T.m_Map__eq T.i_Map__eq (ok_eq T) (hr.mono (by decide)) pass0) (pe_un (un_inv T.m_Map__invert T.i_Map__invert (ok_invert T) (hr.mono (by decide)) pass0) (pe_op (op_bin T.o_Map.sf T.m_Map__mul T.i_Map__mul (ok_mul T) (hr.mono (by decide)) pass0) (pv 0) (pv 1))) (pe_op (op_bin T.o_Map.sf T.m_Map__mul T.i_Map__mul (ok_mul T) (hr.mono (by decide)) pass0) (pe_un (un_inv T.m_Map__invert T.i_Map__invert (ok_invert T) (hr.mono (by decide)) pass0) (pv 1)) (pe_un (un_inv T.m_Map__invert T.i_Map__invert (ok_invert T) (hr.mono (by decide)) pass0) (pv 0))) (nomark _)) (pw_or1 (pt_cmpR (op_neO T.o_Map T.ne_Map T.m_Map__eq T.i_Map__eq (ok_eq T) (hr.mono (by decide)) pass0) (pe_un (un_inv T.m_Map__invert T.i_Map__invert (ok_invert T) (hr.mono (by decide)) pass0) (pe_un (un_inv T.m_Map__invert T.i_Map__invert (ok_invert T) (hr.mono (by decide)) pass0) (pv 0))) (pv 0) (nomark _)))))) (pss_one (ps_ret pe_bl)) pss_nil)
      (pss_cons (ps_if (PW.pt (pw_or (pt_cmpR (op_neO T.o_Map T.ne_Map T.m_Map__eq T.i_Map__eq (ok_eq T) (hr.mono (by decide)) pass0) (pe_op (op_bin T.o_Map.sf T.m_Map__mul T.i_Map__mul (ok_mul T) (hr.mono (by decide)) pass0) (pe_op (op_bin T.o_Map.sf T.m_Map__mul T.i_Map__mul (ok_mul T) (hr.mono (by decide)) pass0) (pv 0) (pe_un (un_inv T.m_Map__invert T.i_Map__invert (ok_invert T) (hr.mono (by decide)) pass0) (pv 0))) (pv 0)) (pv 0) (nomark _)) (pw_or1 (pt_cmpR (op_neDI (Nat.lt_of_succ_lt hu)) (pe_propR (pe_op (op_bin T.o_Map.sf T.m_Map__mul T.i_Map__mul (ok_mul T) (hr.mono (by decide)) pass0) (pv 0) (pe_un (un_inv T.m_Map__invert T.i_Map__invert (ok_invert T) (hr.mono (by decide)) pass0) (pv 0))) T.o_Map.cl T.P_Map_arrows (ok_arrows T) (hr.mono (by decide))) (pe_callTy (call_dictP rfl) (by rfl) T.n_dict (by decide +kernel) (pa_cons (pe_lc (own := [("_law_source", 3)]) (g := gName 3) (tt := tYes) rfl sc_l_products.nd (pi_keys (pe_frz (pe_propR (pv 0) T.o_Map.cl T.P_Map_arrows (ok_arrows T) (hr.mono (by decide)))))
          (blkOk_by (own := [("_law_source", 3)]) (N := n_l_products) (sc := defScope s_l_products) (by decide +kernel)) (fun _ _ _ _ _ => pg_name (i := 3) sc_l_products.nd rfl (Or.inl rfl)) (fun _ _ _ _ _ => pts_nil) (fun _ _ _ _ _ => pe_tup (pa_cons (pv 3) (pa_cons (pv 3) pa_nil)))) pa_nil)) (nomark _))))) (pss_one (ps_ret pe_bl)) pss_nil)
      (pss_cons (ps_if (PW.pt (pw_and (pt_cmpR (op_cmp (fun _ _ => rfl) T.m_Map__le T.i_Map__le (ok_le T) (hr.mono (by decide)) pass0) (pe_op (op_bin T.o_Map.sf T.m_Map__mul T.i_Map__mul (ok_mul T) (hr.mono (by decide)) pass0) (pe_op (op_bin T.o_Map.sf T.m_Map__and T.i_Map__and (ok_and T) (hr.mono (by decide)) pass0) (pv 0) (pv 1)) (pv 2)) (pe_op (op_bin T.o_Map.sf T.m_Map__mul T.i_Map__mul (ok_mul T) (hr.mono (by decide)) pass0) (pv 0) (pv 2)) (nomark _)) (pw_and1 (pt_cmpR (op_cmp (fun _ _ => rfl) T.m_Map__le T.i_Map__le (ok_le T) (hr.mono (by decide)) pass0) (pe_op (op_bin T.o_Map.sf T.m_Map__mul T.i_Map__mul (ok_mul T) (hr.mono (by decide)) pass0) (pv 2) (pe_op (op_bin T.o_Map.sf T.m_Map__and T.i_Map__and (ok_and T) (hr.mono (by decide)) pass0) (pv 0) (pv 1))) (pe_op (op_bin T.o_Map.sf T.m_Map__mul T.i_Map__mul (ok_mul T) (hr.mono (by decide)) pass0) (pv 2) (pv 1)) (nomark _))))) (pss_one (ps_ret (pe_and (pe_cmpR (op_cmp (fun _ _ => rfl) T.m_Map__eq T.i_Map__eq (ok_eq T) (hr.mono (by decide)) pass0) (pe_op (op_bin T.o_Map.sf T.m_Map__mul T.i_Map__mul (ok_mul T) (hr.mono (by decide)) pass0) (pv 0) (ClX.pe_cmeth (pe_glob (v := .ref T.C_Map) rfl T.g_Map rfl) T.R_Map T.cm_Map_identity (ok_identity T) (hr.mono (by decide)) pass0 (pa_cons (pe_propR (pv 0) T.o_Map.cl T.P_Map_size (ok_size T) (hr.mono (by decide))) pa_nil))) (pv 0) (nomark _)) (pe_one (pe_cmpR (op_cmp (fun _ _ => rfl) T.m_Map__eq T.i_Map__eq (ok_eq T) (hr.mono (by decide)) pass0) (pe_op (op_bin T.o_Map.sf T.m_Map__mul T.i_Map__mul (ok_mul T) (hr.mono (by decide)) pass0) (pv 0) (ClX.pe_cmeth (pe_glob (v := .ref T.C_Map) rfl T.g_Map rfl) T.R_Map T.cm_Map_empty (ok_empty T) (hr.mono (by decide)) pass0 (pa_cons (pe_propR (pv 0) T.o_Map.cl T.P_Map_size (ok_size T) (hr.mono (by decide))) pa_nil))) (ClX.pe_cmeth (pe_glob (v := .ref T.C_Map) rfl T.g_Map rfl) T.R_Map T.cm_Map_empty (ok_empty T) (hr.mono (by decide)) pass0 (pa_cons (pe_propR (pv 0) T.o_Map.cl T.P_Map_size (ok_size T) (hr.mono (by decide))) pa_nil)) (nomark _)))))) pss_nil)
      (pss_one (ps_ret pe_bl)))), ?_⟩
    refine if_F (et_or (et_ne0 (em_op (em_op (em_var rfl m0) (em_var rfl m1)) (em_var rfl m2)) (em_op (em_var rfl m0) (em_op (em_var rfl m1) (em_var rfl m2))) (mul_assoc f g h)) (et_or (et_ne0 (em_inv (em_op (em_var rfl m0) (em_var rfl m1))) (em_op (em_inv (em_var rfl m1)) (em_inv (em_var rfl m0))) (inv_mul m0.wf m1.wf)) (et_ne0 (em_inv (em_inv (em_var rfl m0))) (em_var rfl m0) (inv_inv m0.wf)))) fun H1 s1 => ?_
    replace m0 := m0.same s1
    replace m1 := m1.same s1
    replace m2 := m2.same s1
    refine if_F (et_or (et_ne0 (em_op (em_op (em_var rfl m0) (em_inv (em_var rfl m0))) (em_var rfl m0)) (em_var rfl m0) (mul_inv_mul m0.wf)) (et_domne m0.wf (em_op (em_var rfl m0) (em_inv (em_var rfl m0))) (em_var rfl m0) (fun _ => rfl) (fun _ _ _ r => r) (fun _ _ _ r => ⟨_, rfl, _, rfl, (by show 2 ≤ sizeLine; decide), r⟩))) fun H2 s2 => ?_
    replace m0 := m0.same s2
    replace m1 := m1.same s2
    replace m2 := m2.same s2
    refine if_T (et_and (et_test (ev_le1 (em_op (em_op (em_var rfl m0) (em_var rfl m1)) (em_var rfl m2)) (em_op (em_var rfl m0) (em_var rfl m2)) (le_mulL (le_and1 f g)))) (et_test (ev_le1 (em_op (em_var rfl m2) (em_op (em_var rfl m0) (em_var rfl m1))) (em_op (em_var rfl m2) (em_var rfl m1)) (le_mulR (le_and2 f g))))) fun H3 s3 => ?_
    replace m0 := m0.same s3
    replace m1 := m1.same s3
    replace m2 := m2.same s3
    refine ret_v (ev_and (ev_eq1 (em_op (em_var rfl m0) (em_new (em_var rfl m0))) (em_var rfl m0) (mul_idn m0.wf)) (ev_eq1 (em_op (em_var rfl m0) (em_new (em_var rfl m0))) (em_new (em_var rfl m0)) (mul_emp f))) fun H4 s4 => ?_
    exact q H4 (((s1.trans s2).trans s3).trans s4)
end
end My
namespace My
open PySem L2 U StX PM
section
variable {C : Addr} {n : Int} {f g : PF} {ta tb : TE} {σ : L2.St} {H : Hp} {E : XK} {i : Nat} {a : Addr}
theorem asg_m {te : TE} {rest : TS} {D : Ends} (h : EvM C n te σ H f) (k : ∀ r H1, Same H H1 → IsMap C H1 r n f → rest D (σ.set i (some (.ref r))) H1) : tSeq (tAsg te (gName i)) rest D σ H := h H (Same.refl H) _ fun r H1 s1 m => k r H1 s1 m
theorem ev_cast {t : TE} {v v' : V} (h : EvV t σ H v) (e : v = v') : EvV t σ H v' := e ▸ h
theorem et_neb {p p' : Bool} (ha : EvV ta σ H (.bl p)) (hb : EvV tb σ H (.bl p')) (e : p = p') : EvT (tTest (tOp rNe ta tb)) σ H false := by
  intro H' s R q
  refine ha H' s _ fun H1 s1 => hb H1 (s.trans s1) _ fun H2 s2 => ⟨rfl, _, rfl, ?_⟩
  subst e
  rw [decide_eq_true rfl]
  exact q _ (s1.trans s2)
theorem ev_eqb {p p' : Bool} (ha : EvV ta σ H (.bl p)) (hb : EvV tb σ H (.bl p')) (e : p = p') : EvV (tOp rEq ta tb) σ H (.bl true) := by
  intro H' s R q
  refine ha H' s _ fun H1 s1 => hb H1 (s.trans s1) _ fun H2 s2 => ⟨rfl, ?_⟩
  subst e
  rw [decide_eq_true rfl]
  exact q _ (s1.trans s2)
theorem ev_add {x y : Int} (ha : EvV ta σ H (.int x)) (hb : EvV tb σ H (.int y)) : EvV (tOp (rI0 fun i j => .int (i + j)) ta tb) σ H (.int (x + y)) := fun H' s R q => ha H' s _ fun H1 s1 => hb H1 (s.trans s1) _ fun H2 s2 => ⟨_, _, rfl, rfl, q _ (s1.trans s2)⟩
theorem ev_sub {x y : Int} (ha : EvV ta σ H (.int x)) (hb : EvV tb σ H (.int y)) : EvV (tOp (rI0 fun i j => .int (i - j)) ta tb) σ H (.int (x - y)) := fun H' s R q => ha H' s _ fun H1 s1 => hb H1 (s.trans s1) _ fun H2 s2 => ⟨_, _, rfl, rfl, q _ (s1.trans s2)⟩
theorem ev_mul {x y : Int} (c : CMul x y) (ha : EvV ta σ H (.int x)) (hb : EvV tb σ H (.int y)) : EvV (tOp (rI CMul fun i j => .int (i * j)) ta tb) σ H (.int (x * y)) := fun H' s R q => ha H' s _ fun H1 s1 => hb H1 (s.trans s1) _ fun H2 s2 => ⟨_, _, rfl, rfl, c, q _ (s1.trans s2)⟩
theorem ev_neg {x : Int} (ha : EvV ta σ H (.int x)) : EvV (tUn (rU fun i => .int (-i)) ta) σ H (.int (-x)) := fun H' s R q => ha H' s _ fun H1 s1 => ⟨_, rfl, q _ s1⟩
end
/-! ### plain -/
theorem part_iff {n : Int} {f g h : PF} (wf : WF n f) (wg : WF n g) : leL (tab n (andf f h)) (tab n (andf f g)) = leL (tab n (andf f h)) (tab n g) := by
  rw [Bool.eq_iff_iff, leL_iff (wf_and wf) (wf_and wf), leL_iff (wf_and wf) wg]
  constructor
  · intro q x y e
    exact le_and2 f g x y (q x y e)
  · intro q x y e
    exact and_iff.mpr ⟨le_and1 f h x y e, q x y e⟩
theorem lt_iff {n : Int} {f g : PF} (wf : WF n f) : (leL (tab n (andf f g)) (tab n f) && decide ((tab n (andf f g)).length < (tab n f).length)) = !eqB n (andf f g) n f := by
  rw [leL_of (wf_and wf) wf (le_and1 f g), Bool.true_and]
  cases e : eqB n (andf f g) n f with
  | true =>
    have := eqB_of (wf_and wf) wf e
    rw [this]
    simp
  | false =>
    show decide _ = true
    refine decide_eq_true (Nat.lt_of_not_le fun hl => ?_)
    have := le_len_eq (wf_and wf) wf (le_and1 f g) hl
    rw [eqB_eq (wf_and wf) this] at e
    cases e
theorem pw_pwN (n : Int) (f : PF) (e : Int) : pw n f e = pwN n f e := by
  unfold pw pwN pN
  by_cases h0 : e = 0
  · subst h0; rfl
  · rw [if_neg h0, if_neg (show ¬ e.natAbs = 0 by omega), if_neg (show ¬ e.natAbs = 0 by omega)]
theorem pw_nat (n : Int) (f : PF) (x : Nat) : pw n f (x : Int) = pN n f x := by
  rw [pw_pwN]
  unfold pwN
  rw [if_neg (by omega), Int.natAbs_natCast]
theorem pw_neg (n : Int) (f : PF) (x : Nat) : pw n f (-(x : Int)) = pN n (inv n f) x := by
  rw [pw_pwN]
  unfold pwN
  by_cases h : x = 0
  · subst h; rfl
  · rw [if_pos (by omega), Int.natAbs_neg, Int.natAbs_natCast]
theorem pw_1 {n : Int} {f : PF} (w : WF n f) (x y : Nat) : mul (pw n f x) (pw n f y) = pw n f ((x : Int) + (y : Int)) := by
  rw [pw_nat, pw_nat, ← Int.natCast_add, pw_nat, pN_add w]
theorem pw_2 {n : Int} {f : PF} (w : WF n f) (x y : Nat) : le (mul (pw n f x) (pw n f (-(y : Int)))) (pw n f ((x : Int) - (y : Int))) := by
  rw [pw_nat, pw_neg, pw_pwN]
  exact pN_sub w x y
theorem pw_3 {n : Int} {f : PF} (w : WF n f) (x y : Nat) : pw n (pw n f x) y = pw n f ((x : Int) * (y : Int)) := by
  rw [pw_nat, pw_nat, ← Int.natCast_mul, pw_nat, pN_mul w]
theorem pw_4 {n : Int} {f : PF} (w : WF n f) (x : Nat) : inv n (pw n f x) = pw n f (-(x : Int)) := by
  rw [pw_nat, pw_neg, inv_pN w]
theorem pw_5 {n : Int} {f : PF} (w : WF n f) (x y : Nat) : mul (pw n f (-(x : Int))) (pw n f (-(y : Int))) = pw n f (-(x : Int) - (y : Int)) := by
  rw [pw_neg, pw_neg, show -(x : Int) - (y : Int) = -((x + y : Nat) : Int) by omega, pw_neg, pN_add (wf_inv w)]
theorem IsMap.off {C p : Addr} {H H' : Hp} {m : Addr} {n : Int} {f : PF} (a : IsMap C H m n f) (o : Off p H H') (h : ∃ xs, H p = some (.lst xs)) : IsMap C H' m n f := by
  obtain ⟨⟨dx, D, h1, h2⟩, wf, lo, hi⟩ := a
  obtain ⟨xs, h⟩ := h
  exact ⟨⟨dx, D, o _ _ (fun e => by rw [e, h] at h1; cases h1) h1, o _ _ (fun e => by rw [e, h] at h2; cases h2) h2⟩, wf, lo, hi⟩
section
variable {P : Program} {w : World} {K : PySem.W.Frag} {mg : Str → Option Value} {base : Heap}
theorem ok_parts (T : Txt K mg) : FnR P w K mg base CX0 8 T.f_l_parts (spThree T.C_Map) := by
  refine T.A_l_parts.ok sc_l_parts (fun vs H Q E h => ?_) (fun cdv A outer s H vs Q E hr h => ?_)
  · obtain ⟨a, b, c, n, f, g, h, rfl, _⟩ := h
    rfl
  · obtain ⟨a, b, c, n, f, g, h, rfl, m0, m1, m2, q⟩ := h
    have hu := hu_of hr
    refine ⟨_, pss_cons (ps_set (i := 3) sc_l_parts.nd rfl (Or.inl rfl) (pe_op (op_bin T.o_Map.sf T.m_Map__and T.i_Map__and (ok_and T) (hr.mono (by decide)) pass0) (pv 0) (pv 1)))
      (pss_cons (ps_if (PW.pt (pw_or (pt_not (pt_cmpR (op_cmp (fun _ _ => rfl) T.m_Map__le T.i_Map__le (ok_le T) (hr.mono (by decide)) pass0) (pv 3) (pv 0) (nomark _))) (pw_or (pt_not (pt_cmpR (op_cmp (fun _ _ => rfl) T.m_Map__le T.i_Map__le (ok_le T) (hr.mono (by decide)) pass0) (pv 3) (pv 1) (nomark _))) (pw_or1 (pt_cmpR op_ne (pe_cmpR (op_cmp (fun _ _ => rfl) T.m_Map__le T.i_Map__le (ok_le T) (hr.mono (by decide)) pass0) (pe_op (op_bin T.o_Map.sf T.m_Map__and T.i_Map__and (ok_and T) (hr.mono (by decide)) pass0) (pv 0) (pv 2)) (pv 3) (nomark _)) (pe_cmpR (op_cmp (fun _ _ => rfl) T.m_Map__le T.i_Map__le (ok_le T) (hr.mono (by decide)) pass0) (pe_op (op_bin T.o_Map.sf T.m_Map__and T.i_Map__and (ok_and T) (hr.mono (by decide)) pass0) (pv 0) (pv 2)) (pv 1) (nomark _)) (nomark _)))))) (pss_one (ps_ret pe_bl)) pss_nil)
      (pss_cons (ps_if (PW.pt (pw_or (pt_cmpR (op_neO T.o_Map T.ne_Map T.m_Map__eq T.i_Map__eq (ok_eq T) (hr.mono (by decide)) pass0) (pe_op (op_bin T.o_Map.sf T.m_Map__or T.i_Map__or (ok_or' T) (hr.mono (by decide)) pass0) (pe_op (op_bin T.o_Map.sf T.m_Map__sub T.i_Map__sub (ok_sub T) (hr.mono (by decide)) pass0) (pv 0) (pv 1)) (pv 3)) (pv 0) (nomark _)) (pw_or1 (pt_cmpR (op_neO T.o_Map T.ne_Map T.m_Map__eq T.i_Map__eq (ok_eq T) (hr.mono (by decide)) pass0) (pe_op (op_bin T.o_Map.sf T.m_Map__and T.i_Map__and (ok_and T) (hr.mono (by decide)) pass0) (pe_op (op_bin T.o_Map.sf T.m_Map__sub T.i_Map__sub (ok_sub T) (hr.mono (by decide)) pass0) (pv 0) (pv 1)) (pv 1)) (ClX.pe_cmeth (pe_glob (v := .ref T.C_Map) rfl T.g_Map rfl) T.R_Map T.cm_Map_empty (ok_empty T) (hr.mono (by decide)) pass0 (pa_cons (pe_propR (pv 0) T.o_Map.cl T.P_Map_size (ok_size T) (hr.mono (by decide))) pa_nil)) (nomark _))))) (pss_one (ps_ret pe_bl)) pss_nil)
      (pss_one (ps_ret (pe_and (pe_cmpR (op_cmp (fun _ _ => rfl) T.m_Map__le T.i_Map__le (ok_le T) (hr.mono (by decide)) pass0) (pe_op (op_bin T.o_Map.sf T.m_Map__sub T.i_Map__sub (ok_sub T) (hr.mono (by decide)) pass0) (pv 0) (pv 1)) (pv 0) (nomark _)) (pe_and (pe_cmpR op_eq (pe_cmpR (op_cmp (fun _ _ => rfl) T.m_Map__lt T.i_Map__lt (ok_lt T) (hr.mono (by decide)) pass0) (pv 3) (pv 0) (nomark _)) (pe_cmpR (op_neO T.o_Map T.ne_Map T.m_Map__eq T.i_Map__eq (ok_eq T) (hr.mono (by decide)) pass0) (pv 3) (pv 0) (nomark _)) (nomark _)) (pe_and (pe_cmpR (op_cmp (fun _ _ => rfl) T.m_Map__ge T.i_Map__ge (ok_ge T) (hr.mono (by decide)) pass0) (pv 0) (pv 3) (nomark _)) (pe_one (pe_not (pe_cmpR (op_cmp (fun _ _ => rfl) T.m_Map__lt T.i_Map__lt (ok_lt T) (hr.mono (by decide)) pass0) (pv 0) (pv 0) (nomark _))))))))))), ?_⟩
    refine asg_m (em_op (em_var rfl m0) (em_var rfl m1)) fun r H0 s0 m3 => ?_
    replace m0 := m0.same s0
    replace m1 := m1.same s0
    replace m2 := m2.same s0
    refine if_F (et_or (et_not (et_test (ev_le1 (em_var rfl m3) (em_var rfl m0) (le_and1 f g)))) (et_or (et_not (et_test (ev_le1 (em_var rfl m3) (em_var rfl m1) (le_and2 f g)))) (et_neb (ev_cmp (em_op (em_var rfl m0) (em_var rfl m2)) (em_var rfl m3)) (ev_cmp (em_op (em_var rfl m0) (em_var rfl m2)) (em_var rfl m1)) (part_iff m0.wf m1.wf)))) fun H1 s1 => ?_
    replace m0 := m0.same s1
    replace m1 := m1.same s1
    replace m2 := m2.same s1
    replace m3 := m3.same s1
    refine if_F (et_or (et_ne0 (em_or (em_op (em_var rfl m0) (em_var rfl m1)) (em_var rfl m3) (noclash_sub m0.wf.inj)) (em_var rfl m0) (sub_or_and f g)) (et_ne0 (em_op (em_op (em_var rfl m0) (em_var rfl m1)) (em_var rfl m1)) (em_new (em_var rfl m0)) (sub_and f g))) fun H2 s2 => ?_
    replace m0 := m0.same s2
    replace m1 := m1.same s2
    replace m2 := m2.same s2
    replace m3 := m3.same s2
    refine ret_v (ev_and (ev_le1 (em_op (em_var rfl m0) (em_var rfl m1)) (em_var rfl m0) (le_sub f g)) (ev_and (ev_eqb (ev_cmp (em_var rfl m3) (em_var rfl m0)) (ev_ne (em_var rfl m3) (em_var rfl m0)) (lt_iff m0.wf)) (ev_and (ev_cast (ev_cmp (em_var rfl m0) (em_var rfl m3)) (congrArg V.bl (leL_of (wf_and m0.wf) m0.wf (le_and1 f g)))) (ev_cast (ev_not (ev_cmp (em_var rfl m0) (em_var rfl m0))) (congrArg V.bl (by simp)))))) fun H4 s4 => ?_
    exact q H4 (((s0.trans s1).trans s2).trans s4)
def spPows (C : Addr) : Sp := fun vs H Q _ => ∃ p a n f, vs = [.ref p, .ref a] ∧ PoolAt H p ∧ IsMap C H a n f ∧ ∀ H', PoolAt H' p → Off p H H' → Q (.bl true) H'
theorem ok_powers (T : Txt K mg) : FnR P w K mg base CX0 8 T.f_l_powers (spPows T.C_Map) := by
  refine T.A_l_powers.ok sc_l_powers (fun vs H Q E h => ?_) (fun cdv A outer s H vs Q E hr h => ?_)
  · obtain ⟨p, a, n, f, rfl, _⟩ := h
    rfl
  · obtain ⟨p, a, n, f, rfl, ⟨a0, b0, hp, ha0, hb0, hb1⟩, m1, q⟩ := h
    have hu := hu_of hr
    refine ⟨_, pss_cons (ps_par (i := 2) (j := 3) rfl sc_l_powers.nd rfl rfl (by decide) rfl rfl (pa_cons (pe_callR (ok_draw T) (hr.mono (by decide)) T.A_l_draw.kp rfl T.g_l_draw pass0 (pa_cons (pv 0) (pa_cons pe_int pa_nil))) (pa_cons (pe_callR (ok_draw T) (hr.mono (by decide)) T.A_l_draw.kp rfl T.g_l_draw pass0 (pa_cons (pv 0) (pa_cons pe_int pa_nil))) pa_nil)) (by rfl))
      (pss_cons (ps_if (pt_cmpR (op_neO T.o_Map T.ne_Map T.m_Map__eq T.i_Map__eq (ok_eq T) (hr.mono (by decide)) pass0) (pe_op (op_bin T.o_Map.sf T.m_Map__mul T.i_Map__mul (ok_mul T) (hr.mono (by decide)) pass0) (pe_methR (pv 1) T.o_Map.cl T.meth_Map_power (ok_power T) (hr.mono (by decide)) pass0 (pa_cons (pv 2) pa_nil)) (pe_methR (pv 1) T.o_Map.cl T.meth_Map_power (ok_power T) (hr.mono (by decide)) pass0 (pa_cons (pv 3) pa_nil))) (pe_methR (pv 1) T.o_Map.cl T.meth_Map_power (ok_power T) (hr.mono (by decide)) pass0 (pa_cons (pe_op op_add (pv 2) (pv 3)) pa_nil)) (nomark _)) (pss_one (ps_ret pe_bl)) pss_nil)
      (pss_cons (ps_if (pt_not (pt_cmpR (op_cmp (fun _ _ => rfl) T.m_Map__le T.i_Map__le (ok_le T) (hr.mono (by decide)) pass0) (pe_op (op_bin T.o_Map.sf T.m_Map__mul T.i_Map__mul (ok_mul T) (hr.mono (by decide)) pass0) (pe_methR (pv 1) T.o_Map.cl T.meth_Map_power (ok_power T) (hr.mono (by decide)) pass0 (pa_cons (pv 2) pa_nil)) (pe_methR (pv 1) T.o_Map.cl T.meth_Map_power (ok_power T) (hr.mono (by decide)) pass0 (pa_cons (pe_un un_neg (pv 3)) pa_nil))) (pe_methR (pv 1) T.o_Map.cl T.meth_Map_power (ok_power T) (hr.mono (by decide)) pass0 (pa_cons (pe_op op_sub (pv 2) (pv 3)) pa_nil)) (nomark _))) (pss_one (ps_ret pe_bl)) pss_nil)
      (pss_cons (ps_if (pt_cmpR (op_neO T.o_Map T.ne_Map T.m_Map__eq T.i_Map__eq (ok_eq T) (hr.mono (by decide)) pass0) (pe_methR (pe_methR (pv 1) T.o_Map.cl T.meth_Map_power (ok_power T) (hr.mono (by decide)) pass0 (pa_cons (pv 2) pa_nil)) T.o_Map.cl T.meth_Map_power (ok_power T) (hr.mono (by decide)) pass0 (pa_cons (pv 3) pa_nil)) (pe_methR (pv 1) T.o_Map.cl T.meth_Map_power (ok_power T) (hr.mono (by decide)) pass0 (pa_cons (pe_op op_mul (pv 2) (pv 3)) pa_nil)) (nomark _)) (pss_one (ps_ret pe_bl)) pss_nil)
      (pss_cons (ps_if (pt_cmpR (op_neO T.o_Map T.ne_Map T.m_Map__eq T.i_Map__eq (ok_eq T) (hr.mono (by decide)) pass0) (pe_un (un_inv T.m_Map__invert T.i_Map__invert (ok_invert T) (hr.mono (by decide)) pass0) (pe_methR (pv 1) T.o_Map.cl T.meth_Map_power (ok_power T) (hr.mono (by decide)) pass0 (pa_cons (pv 2) pa_nil))) (pe_methR (pv 1) T.o_Map.cl T.meth_Map_power (ok_power T) (hr.mono (by decide)) pass0 (pa_cons (pe_un un_neg (pv 2)) pa_nil)) (nomark _)) (pss_one (ps_ret pe_bl)) pss_nil)
      (pss_one (ps_ret (pe_cmpR (op_cmp (fun _ _ => rfl) T.m_Map__eq T.i_Map__eq (ok_eq T) (hr.mono (by decide)) pass0) (pe_op (op_bin T.o_Map.sf T.m_Map__mul T.i_Map__mul (ok_mul T) (hr.mono (by decide)) pass0) (pe_methR (pv 1) T.o_Map.cl T.meth_Map_power (ok_power T) (hr.mono (by decide)) pass0 (pa_cons (pe_un un_neg (pv 2)) pa_nil)) (pe_methR (pv 1) T.o_Map.cl T.meth_Map_power (ok_power T) (hr.mono (by decide)) pass0 (pa_cons (pe_un un_neg (pv 3)) pa_nil))) (pe_methR (pv 1) T.o_Map.cl T.meth_Map_power (ok_power T) (hr.mono (by decide)) pass0 (pa_cons (pe_op op_sub (pe_un un_neg (pv 2)) (pv 3)) pa_nil)) (nomark _)))))))), ?_⟩
    refine ⟨_, rfl, p, a0, b0, 9, rfl, hp, ha0, hb0, hb1, by decide, by decide, fun a2 b2 x ha2 hb2 hb3 hx0 hx1 => ?_⟩
    refine ⟨_, rfl, p, a2, b2, 9, rfl, upd_same, ha2, hb2, hb3, by decide, by decide, fun a3 b3 y ha3 hb4 hb5 hy0 hy1 => ?_⟩
    refine ⟨_, _, rfl, ?_⟩
    obtain ⟨x, rfl⟩ := Int.eq_ofNat_of_zero_le hx0
    obtain ⟨y, rfl⟩ := Int.eq_ofNat_of_zero_le hy0
    have o0 : Off p H (upd (upd H p (.lst [.int a2, .int b2])) p (.lst [.int a3, .int b3])) := Off.at (Off.lock)
    have pp0 : (upd (upd H p (.lst [.int a2, .int b2])) p (.lst [.int a3, .int b3])) p = some (.lst [.int a3, .int b3]) := upd_same
    replace m1 := m1.off o0 ⟨_, hp⟩
    refine if_F (et_ne0 (em_op (em_pow (em_var rfl m1) (ev_var rfl)) (em_pow (em_var rfl m1) (ev_var rfl))) (em_pow (em_var rfl m1) (ev_add (ev_var rfl) (ev_var rfl))) (pw_1 m1.wf x y)) fun H1 s1 => ?_
    replace m1 := m1.same s1
    refine if_F (et_not (et_test (ev_le1 (em_op (em_pow (em_var rfl m1) (ev_var rfl)) (em_pow (em_var rfl m1) (ev_neg (ev_var rfl)))) (em_pow (em_var rfl m1) (ev_sub (ev_var rfl) (ev_var rfl))) (pw_2 m1.wf x y)))) fun H2 s2 => ?_
    replace m1 := m1.same s2
    refine if_F (et_ne0 (em_pow (em_pow (em_var rfl m1) (ev_var rfl)) (ev_var rfl)) (em_pow (em_var rfl m1) (ev_mul (.inl ⟨by omega, by omega⟩) (ev_var rfl) (ev_var rfl))) (pw_3 m1.wf x y)) fun H3 s3 => ?_
    replace m1 := m1.same s3
    refine if_F (et_ne0 (em_inv (em_pow (em_var rfl m1) (ev_var rfl))) (em_pow (em_var rfl m1) (ev_neg (ev_var rfl))) (pw_4 m1.wf x)) fun H4 s4 => ?_
    replace m1 := m1.same s4
    refine ret_v (ev_eq1 (em_op (em_pow (em_var rfl m1) (ev_neg (ev_var rfl))) (em_pow (em_var rfl m1) (ev_neg (ev_var rfl)))) (em_pow (em_var rfl m1) (ev_sub (ev_neg (ev_var rfl)) (ev_var rfl))) (pw_5 m1.wf x y)) fun H5 s5 => ?_
    have ss := (((s1.trans s2).trans s3).trans s4).trans s5
    exact q H5 ⟨a3, b3, ss _ _ pp0, ha3, hb4, hb5⟩ (fun b o hb e => ss _ _ (o0 b o hb e))
end
end My
namespace My
open PySem L2 U StX PM
theorem SqL.same {K : PySem.W.Frag} {H H' : Hp} {a : Addr} {xs : List V} (h : SqL K H a xs) (s : Same H H') : SqL K H' a xs := by
  rcases h with (h | ⟨o, h⟩) | h
  · exact .inl (.inl (s _ _ h))
  · exact .inl (.inr ⟨o, s _ _ h⟩)
  · exact .inr h
theorem Same.off {H H1 H2 : Hp} {p : Addr} (s : Same H H1) (o : Off p H1 H2) (h : H p = none) : Same H H2 := fun b u e => o b u (ne_of_none e h) (s b u e)
theorem yes_ {σ : L2.St} {H : Hp} {A B : Hp → Prop} (h : A H) : tYes σ H (fun b H3 => if b = true then A H3 else B H3) := by
  show (if true = true then A H else B H)
  rw [if_pos rfl]
  exact h
theorem PoolAt.same {H H' : Hp} {p : Addr} (h : PoolAt H p) (s : Same H H') : PoolAt H' p := by
  obtain ⟨a, b, e, r⟩ := h
  exact ⟨a, b, s _ _ e, r⟩
theorem PoolAt.lst {H : Hp} {p : Addr} (h : PoolAt H p) : ∃ xs, H p = some (.lst xs) := by
  obtain ⟨a, b, e, r⟩ := h
  exact ⟨_, e⟩
def spLaw (K : PySem.W.Frag) : Sp := fun vs H Q _ => ∃ (a : Addr) (ns : List Int), vs = [.ref a] ∧ SqL K H a (ns.map V.int) ∧ ns.length ≤ 63 ∧ ∀ H', Q (.bl true) H'
section
variable {P : Program} {w : World} {K : PySem.W.Frag} {mg : Str → Option Value} {base : Heap}
theorem ok_law (T : Txt K mg) {fd : FuncData} (Fl : Fun K "law" "law" s_law T.f_law fd) : FnOk P w K mg base CX0 40 T.f_law fd ["_law_script"] (spLaw K) := by
  refine Fl.ok sc_law (fun vs H Q E h => ?_) (fun cdv A outer s H vs Q E hr h => ?_)
  · obtain ⟨a, ns, rfl, _⟩ := h
    rfl
  · obtain ⟨a, ns, rfl, hS, hl, q⟩ := h
    have hu := hu_of hr
    refine ⟨_, pss_cons (ps_for PassesOwn.never rfl (pi_range1 rfl T.n_range (pa_cons (pe_callB (call_max2 rfl) (by rfl) T.n_max (by decide +kernel) (pa_cons pe_int (pa_cons (pe_callB (call_min2 rfl) (by rfl) T.n_min (by decide +kernel) (pa_cons (pe_callB call_len_seq (by rfl) T.n_len (by decide +kernel) (pa_cons (pv 0) pa_nil)) (pa_cons pe_int pa_nil))) pa_nil))) pa_nil)) (pg_name (i := 1) sc_law.nd rfl (Or.inl rfl))
        (pss_cons (ps_set (i := 2) sc_law.nd rfl (Or.inr rfl) (pe_callR (ok_hand T) (hr.mono (by decide)) T.A_l_hand.kp rfl T.g_l_hand pass0 (pa_cons (pv 0) (pa_cons (pv 1) pa_nil))))
        (pss_cons (ps_set (i := 3) sc_law.nd rfl (Or.inr rfl) (pe_op op_add pe_int (pe_callR (ok_draw T) (hr.mono (by decide)) T.A_l_draw.kp rfl T.g_l_draw pass0 (pa_cons (pv 2) (pa_cons pe_int pa_nil)))))
        (pss_cons (ps_setLc (i := 4) (own := [("_law_turn", 9)]) (g := gName 9) (tt := tYes) rfl sc_law.nd rfl rfl (sw_true rfl rfl rfl (by decide +kernel)) (pi_range1 rfl T.n_range (pa_cons pe_int pa_nil)) (blkOk_by (own := [("_law_turn", 9)]) (N := n_law) (sc := defScope s_law) (by decide +kernel))
          (fun _ _ _ _ _ => pg_name (i := 9) sc_law.nd rfl (Or.inl rfl)) (fun _ _ _ _ _ => pts_nil) (fun _ _ _ _ _ => (pe_makeR T.M_Map (ok_init T) (hr.mono (by decide)) rfl T.g_Map pass0 (pa_cons (pv 3) (pa_cons (pe_callR (ok_l_arrows T) (hr.mono (by decide)) T.A_l_arrows.kp rfl T.g_l_arrows pass0 (pa_cons (pv 2) (pa_cons (pv 3) (pa_cons (pe_op op_add pe_int (pe_callR (ok_draw T) (hr.mono (by decide)) T.A_l_draw.kp rfl T.g_l_draw pass0 (pa_cons (pv 2) (pa_cons pe_int pa_nil)))) pa_nil)))) pa_nil)))))
        (pss_cons (ps_set (i := 5) sc_law.nd rfl (Or.inl rfl) (pe_lst (pa_cons (pe_tup (pa_cons (pe_ix ix_list (pv 4) pe_int (fun _ _ => rfl)) (pa_cons (pe_ix ix_list (pv 4) pe_int (fun _ _ => rfl)) (pa_cons (pe_ix ix_list (pv 4) pe_int (fun _ _ => rfl)) pa_nil)))) (pa_cons (pe_tup (pa_cons (pe_ix ix_list (pv 4) pe_int (fun _ _ => rfl)) (pa_cons (pe_ix ix_list (pv 4) pe_int (fun _ _ => rfl)) (pa_cons (pe_op (op_bin T.o_Map.sf T.m_Map__and T.i_Map__and (ok_and T) (hr.mono (by decide)) pass0) (pe_ix ix_list (pv 4) pe_int (fun _ _ => rfl)) (pe_ix ix_list (pv 4) pe_int (fun _ _ => rfl))) pa_nil)))) (pa_cons (pe_tup (pa_cons (pe_ix ix_list (pv 4) pe_int (fun _ _ => rfl)) (pa_cons (pe_ix ix_list (pv 4) pe_int (fun _ _ => rfl)) (pa_cons (pe_ix ix_list (pv 4) pe_int (fun _ _ => rfl)) pa_nil)))) pa_nil)))))
        (pss_cons (ps_for PassesOwn.never rfl (pi_list (pv 5)) (pg_tup rfl (pgs_cons (pg_name (i := 6) sc_law.nd rfl (Or.inl rfl)) (pgs_cons (pg_name (i := 7) sc_law.nd rfl (Or.inl rfl)) (pgs_cons (pg_name (i := 8) sc_law.nd rfl (Or.inl rfl)) pgs_nil))))
          (pss_one (ps_if (PW.pt (pw_or (pt_not (pt_val (pe_callR (ok_products T) (hr.mono (by decide)) T.A_l_products.kp rfl T.g_l_products pass0 (pa_cons (pv 6) (pa_cons (pv 7) (pa_cons (pv 8) pa_nil)))))) (pw_or1 (pt_not (pt_val (pe_callR (ok_parts T) (hr.mono (by decide)) T.A_l_parts.kp rfl T.g_l_parts pass0 (pa_cons (pv 6) (pa_cons (pv 7) (pa_cons (pv 8) pa_nil))))))))) (pss_one (ps_ret pe_bl)) pss_nil)))
        (pss_one (ps_if (PW.pt (pw_or (pt_not (pt_val (pe_callR (ok_powers T) (hr.mono (by decide)) T.A_l_powers.kp rfl T.g_l_powers pass0 (pa_cons (pv 2) (pa_cons (pe_ix ix_list (pv 4) pe_int (fun _ _ => rfl)) pa_nil))))) (pw_or1 (pt_not (pt_val (pe_callR (ok_powers T) (hr.mono (by decide)) T.A_l_powers.kp rfl T.g_l_powers pass0 (pa_cons (pv 2) (pa_cons (pe_op (op_bin T.o_Map.sf T.m_Map__sub T.i_Map__sub (ok_sub T) (hr.mono (by decide)) pass0) (pe_ix ix_list (pv 4) pe_int (fun _ _ => rfl)) (pe_ix ix_list (pv 4) pe_int (fun _ _ => rfl))) pa_nil)))))))) (pss_one (ps_ret pe_bl)) pss_nil))))))))
      (pss_one (ps_ret pe_bl)), ?_⟩
    refine ⟨_, rfl, a, _, rfl, .inl hS, _, _, rfl, _, _, rfl, _, rfl, ?_, ?_, ?_⟩
    · rw [List.length_map]; (repeat' split) <;> omega
    · rw [List.length_map]; (repeat' split) <;> omega
    refine for_it (walk_range (lo := 0)) (fun i σ H' => ∃ v1 v2 v3 v4 v5 v6 v7 v8 v9, σ = [some (.ref a), v1, v2, v3, v4, v5, v6, v7, v8, v9] ∧ Same H H')
      ⟨none, none, none, none, none, none, none, none, none, rfl, Same.refl H⟩ (fun _ _ _ _ _ => trivial) ?_ ?_
    · rintro k v σ H' H1 hk ⟨v1, v2, v3, v4, v5, v6, v7, v8, v9, rfl, p1⟩ ⟨rfl, rfl⟩
      refine ⟨_, rfl, _, rfl, a, ns, _, rfl, SqL.same hS p1, hl, fun p H2 x y np hp s2 hx hy hy2 => ?_⟩
      have p0 : H p = none := p1.free np
      refine ⟨_, rfl, p, x, y, 7, rfl, hp, hx, hy, hy2, by decide, by decide, fun a2 b2 r ha2 hb2 hb3 hr0 hr1 => ⟨_, _, rfl, rfl, ?_⟩⟩
      have sH3 : Same H (upd H2 p (.lst [.int a2, .int b2])) := Same.put (p1.trans s2) p0
      have pool3 : PoolAt (upd H2 p (.lst [.int a2, .int b2])) p := ⟨a2, b2, upd_same, ha2, hb2, hb3⟩
      generalize upd H2 p (.lst [.int a2, .int b2]) = H3 at sH3 pool3
      have n1 : 1 ≤ 1 + r := by omega
      have n2 : 1 + r ≤ 300 := by omega
      refine ⟨3, rfl, by decide, by decide, fun D hD => ?_⟩
      have npD : p ≠ D := by
        obtain ⟨xs, e⟩ := pool3.lst
        exact ne_of_none e hD
      have D0 : H D = none := sH3.free hD
      refine lc_it (walk_range (lo := 0)) (fun i H' => PoolAt H' p ∧ Same H H' ∧ ∃ rs : List Addr, H' D = some (.lst (rs.map V.ref)) ∧ rs.length = i ∧ ∀ m ∈ rs, ∃ f, IsMap T.C_Map H' m (1 + r) f)
        ⟨pool3.same (Same.new hD), Same.put sH3 D0, [], upd_same, rfl, fun m hm => nomatch hm⟩ (fun _ _ _ _ => trivial) ?_ ?_
      · rintro i v H4 H5 hi ⟨pool4, s4, rs, hD4, hlen, maps⟩ ⟨rfl, rfl⟩
        refine ⟨rfl, ?_⟩
        refine yes_ ?_
        obtain ⟨a4, b4, e4, ha4, hb4, hc4⟩ := id pool4
        refine ⟨_, rfl, _, rfl, _, rfl, _, rfl, p, a4, b4, 4, rfl, e4, ha4, hb4, hc4, by decide, by decide, fun a5 b5 w5 ha5 hb5 hc5 hw0 hw1 => ⟨_, _, rfl, rfl, ?_⟩⟩
        refine ⟨p, (1 + r), _, rfl, ⟨a5, b5, upd_same, ha5, hb5, hc5⟩, n1, n2, fun rr H6 l nr hr6 di wf hll pool6 off6 => ?_⟩
        refine mk_map (Q := fun y H4 => ∃ acc, H4 D = some (.lst acc) ∧ acc.length < sizeLine ∧ PoolAt (upd H4 D (.lst (acc ++ [y]))) p ∧ Same H (upd H4 D (.lst (acc ++ [y]))) ∧ ∃ rs : List Addr, upd H4 D (.lst (acc ++ [y])) D = some (.lst (rs.map V.ref)) ∧ rs.length = i + 1 ∧ ∀ m ∈ rs, ∃ f, IsMap T.C_Map (upd H4 D (.lst (acc ++ [y]))) m (1 + r) f) hr6 di wf n1 n2 hll fun m H7 nm s7 hm => ?_
        have hD7 : H7 D = some (.lst (rs.map V.ref)) := s7 _ _ (off6 _ _ npD.symm (by rw [upd_ne npD.symm]; exact hD4))
        refine ⟨_, hD7, ?_, ?_⟩
        · rw [List.length_map, hlen]
          have : i < 3 := hi
          exact Nat.lt_trans this (by decide)
        · have pool7 := pool6.same s7
          refine ⟨?_, Same.put ((Same.off (Same.put s4 p0) off6 p0).trans s7) D0, rs ++ [m], ?_, by simp [hlen], fun m' hm' => ?_⟩
          · obtain ⟨a7, b7, e7, r7⟩ := pool7
            exact ⟨a7, b7, by rw [upd_ne npD]; exact e7, r7⟩
          · rw [upd_same, List.map_append]; rfl
          · rcases List.mem_append.mp hm' with h | h
            · obtain ⟨f, mf⟩ := maps m' h
              exact ⟨f, ((((mf.off Off.lock pool4.lst).off off6 ⟨_, upd_same⟩).same s7).off Off.lock ⟨_, hD7⟩)⟩
            · simp at h
              subst h
              exact ⟨_, hm.off Off.lock ⟨_, hD7⟩⟩
      rintro H8 ⟨pool8, s8, rs, hD, hlen, maps⟩
      obtain ⟨m0, m1, m2, rfl⟩ : ∃ m0 m1 m2, rs = [m0, m1, m2] := by
        match rs, hlen with
        | [m0, m1, m2], _ => exact ⟨m0, m1, m2, rfl⟩
      obtain ⟨f0, M0⟩ := maps m0 (by simp)
      obtain ⟨f1, M1⟩ := maps m1 (by simp)
      obtain ⟨f2, M2⟩ := maps m2 (by simp)
      clear maps hlen
      have three : 3 ≤ sizeLine := by decide
      refine ⟨_, rfl, D, _, 0, .ref m0, rfl, rfl, SqL.of hD, rfl, _, rfl, D, _, 1, .ref m1, rfl, rfl, SqL.of hD, rfl, _, rfl, D, _, 2, .ref m2, rfl, rfl, SqL.of hD, rfl, three, fun t1 ht1 => ?_⟩
      have sa : Same H8 (upd H8 t1 (.tup [.ref m0, .ref m1, .ref m2])) := Same.new ht1
      have T1 : (upd H8 t1 (.tup [.ref m0, .ref m1, .ref m2])) t1 = some (.tup [.ref m0, .ref m1, .ref m2]) := upd_same
      generalize upd H8 t1 (.tup [.ref m0, .ref m1, .ref m2]) = H9 at sa T1
      replace hD := sa _ _ hD
      replace M0 := M0.same sa
      replace M1 := M1.same sa
      replace M2 := M2.same sa
      obtain ⟨dx0, fs0, e0⟩ := at_map M0
      obtain ⟨dx1, fs1, e1⟩ := at_map M1
      refine ⟨_, rfl, D, _, 1, .ref m1, rfl, rfl, SqL.of hD, rfl, _, rfl, D, _, 0, .ref m0, rfl, rfl, SqL.of hD, rfl, _, rfl, D, _, 0, .ref m0, rfl, rfl, SqL.of hD, rfl, _, rfl, D, _, 1, .ref m1, rfl, rfl, SqL.of hD, rfl, m0, dx0, fs0, m1, dx1, fs1, rfl, rfl, e0, e1, m0, m1, (1 + r), f0, f1, rfl, M0, M1, fun ma Ha nma sb Ma => ⟨three, fun t2 ht2 => ?_⟩⟩
      have sc : Same Ha (upd Ha t2 (.tup [.ref m1, .ref m0, .ref ma])) := Same.new ht2
      have T2 : (upd Ha t2 (.tup [.ref m1, .ref m0, .ref ma])) t2 = some (.tup [.ref m1, .ref m0, .ref ma]) := upd_same
      generalize upd Ha t2 (.tup [.ref m1, .ref m0, .ref ma]) = Hb at sc T2
      have sd := sb.trans sc
      replace hD := sd _ _ hD
      replace T1 := sd _ _ T1
      replace M0 := M0.same sd
      replace M1 := M1.same sd
      replace M2 := M2.same sd
      replace Ma := Ma.same sc
      refine ⟨_, rfl, D, _, 2, .ref m2, rfl, rfl, SqL.of hD, rfl, _, rfl, D, _, 2, .ref m2, rfl, rfl, SqL.of hD, rfl, _, rfl, D, _, 0, .ref m0, rfl, rfl, SqL.of hD, rfl, three, fun t3 ht3 => ⟨three, fun L hL => ?_⟩⟩
      have se : Same Hb (upd (upd Hb t3 (.tup [.ref m2, .ref m2, .ref m0])) L (.lst [.ref t1, .ref t2, .ref t3])) := (Same.new ht3).trans (Same.new hL)
      have T3 : (upd (upd Hb t3 (.tup [.ref m2, .ref m2, .ref m0])) L (.lst [.ref t1, .ref t2, .ref t3])) t3 = some (.tup [.ref m2, .ref m2, .ref m0]) := (Same.new hL) _ _ upd_same
      have LL : (upd (upd Hb t3 (.tup [.ref m2, .ref m2, .ref m0])) L (.lst [.ref t1, .ref t2, .ref t3])) L = some (.lst [.ref t1, .ref t2, .ref t3]) := upd_same
      generalize upd (upd Hb t3 (.tup [.ref m2, .ref m2, .ref m0])) L (.lst [.ref t1, .ref t2, .ref t3]) = Hc at se T3 LL
      replace hD := se _ _ hD
      replace T1 := se _ _ T1
      replace T2 := se _ _ T2
      replace M0 := M0.same se
      replace M1 := M1.same se
      replace M2 := M2.same se
      replace Ma := Ma.same se
      have sc8 : Same H8 Hc := (sa.trans sd).trans se
      have poolc := pool8.same sc8
      have sHc := s8.trans sc8
      have rows : ∀ v ∈ [V.ref t1, V.ref t2, V.ref t3], ∃ t b c d f g h, v = .ref t ∧ Hc t = some (.tup [.ref b, .ref c, .ref d]) ∧ IsMap T.C_Map Hc b (1 + r) f ∧ IsMap T.C_Map Hc c (1 + r) g ∧ IsMap T.C_Map Hc d (1 + r) h := by
        intro v hv
        simp at hv
        rcases hv with rfl | rfl | rfl
        · exact ⟨t1, _, _, _, _, _, _, rfl, T1, M0, M1, M2⟩
        · exact ⟨t2, _, _, _, _, _, _, rfl, T2, M1, M0, Ma⟩
        · exact ⟨t3, _, _, _, _, _, _, rfl, T3, M2, M2, M0⟩
      refine ⟨_, rfl, L, rfl, ⟨_, SqL.of LL⟩, ?_⟩
      refine for_it (walk_list (xs := [V.ref t1, V.ref t2, V.ref t3])) (fun i σ H'' => ∃ v6 v7 v8 v9, σ = [some (.ref a), some (.int (0 + (k : Nat))), some (.ref p), some (.int (1 + r)), some (.ref D), some (.ref L), v6, v7, v8, v9] ∧ Same Hc H'')
        ⟨v6, v7, v8, v9, rfl, Same.refl _⟩ (fun i σ H'' _ ⟨_, _, _, _, _, z⟩ => SqL.of (z _ _ LL)) ?_ ?_
      · rintro i v σ H9' H9'' hi ⟨w6, w7, w8, w9, rfl, sz⟩ ⟨rfl, ev⟩
        obtain ⟨t, b, c, d, f, g, h, rfl, ht, mb, mc, md⟩ := rows v (List.mem_of_getElem? ev)
        refine ⟨t, _, rfl, SqT.of (sz _ _ ht), rfl, .ref b, [.ref c, .ref d], rfl, .ref c, [.ref d], rfl, .ref d, [], rfl, rfl, ?_⟩
        refine ⟨_, rfl, _, rfl, _, rfl, b, c, d, (1 + r), f, g, h, rfl, mb.same sz, mc.same sz, md.same sz, fun Hx sx => ⟨true, rfl, iteF ?_⟩⟩
        have sy := sz.trans sx
        refine ⟨_, rfl, _, rfl, _, rfl, b, c, d, (1 + r), f, g, h, rfl, mb.same sy, mc.same sy, md.same sy, fun Hy sv => ⟨true, rfl, iteF ?_⟩⟩
        exact ⟨_, _, _, _, rfl, sy.trans sv⟩
      · rintro σ Hd ⟨w6, w7, w8, w9, rfl, sz⟩
        replace hD := sz _ _ hD
        replace M0 := M0.same sz
        replace M1 := M1.same sz
        replace M2 := M2.same sz
        have poold := poolc.same sz
        have sHd := sHc.trans sz
        refine ⟨_, rfl, _, rfl, D, _, 0, .ref m0, rfl, rfl, SqL.of hD, rfl, p, m0, (1 + r), f0, rfl, poold, M0, fun He poole offe => ⟨true, rfl, iteF ?_⟩⟩
        replace hD := offe _ _ npD.symm hD
        replace M1 := M1.off offe poold.lst
        replace M2 := M2.off offe poold.lst
        obtain ⟨dx1, fs1, e1⟩ := at_map M1
        obtain ⟨dx2, fs2, e2⟩ := at_map M2
        refine ⟨_, rfl, _, rfl, D, _, 1, .ref m1, rfl, rfl, SqL.of hD, rfl, _, rfl, D, _, 2, .ref m2, rfl, rfl, SqL.of hD, rfl, m1, dx1, fs1, m2, dx2, fs2, rfl, rfl, e1, e2, m1, m2, (1 + r), f1, f2, rfl, M1, M2, fun ms Hf nms sf Ms => ⟨p, ms, (1 + r), _, rfl, poole.same sf, Ms, fun Hg poolg offg => ⟨true, rfl, iteF ?_⟩⟩⟩
        exact ⟨_, _, _, _, _, _, _, _, _, rfl, Same.off ((Same.off sHd offe p0).trans sf) offg p0⟩
    · rintro σ H' ⟨v1, v2, v3, v4, v5, v6, v7, v8, v9, rfl, p1⟩
      exact q H'
end
end My
namespace My
open PySem L2
theorem walk {l : PySem.W.OpenLaw} {q : Program} {loose : List Str} {XP : (Str → Option Value) → Heap → Prop} {YP : World → Heap → Prop} {d : DefRec} {K : Params → PySem.W.Frag} (hn : l.most = some 63) (hdf : d.params.defaults = []) (hnm : d.name = "law")
    (hY : ∀ (w : World) (h : Heap), YP w h → (K w.params).In h)
    (ok : ∀ (P : Program) (w : World) (K : PySem.W.Frag) (mg : Str → Option Value) (base : Heap) (T : Txt K mg) (fd : FuncData), Fun K "law" "law" s_law T.f_law fd → FnOk P w K mg base CX0 40 T.f_law fd ["_law_script"] (spLaw K))
    (F : ∀ (w : World) (mg : Str → Option Value) (h : Heap), (K w.params).In h → h.Ns mainGlobals mg → Nonempty (Txt (K w.params) mg)) :
    PySem.W.WalkO q loose XP YP l.row.toRowW d [] (fun f vs => PySem.call f vs) := by
  refine L2.walk_of (n := 63) (k := 40) (x := "_law_script") (CX := fun _ => CX0) (sp := fun w => spLaw (K w.params)) hn (by decide) hdf ⟨rfl, by decide, by decide⟩ hY ?_ (fun _ _ a ns hl _ hS => ⟨a, ns, rfl, hS, hl, fun _ => rfl⟩) fun _ _ _ _ _ z => z
  intro w mg fa h KX G hmg
  obtain ⟨T⟩ := F w mg h KX G
  rw [hnm, T.g_law] at hmg
  cases hmg
  obtain ⟨fd, Fl, hb⟩ := T.L_law
  exact ⟨fd, hb, fun base _ _ => ok _ _ _ _ _ T fd Fl⟩
end My
open PySem PySem.W PyProof.Rows
set_option maxRecDepth 100000 in
set_option maxHeartbeats 0 in
theorem PySem.Challenge.cw_chainmaps_k08_whole_rules_of_operators_holds : PySem.Challenge.rw_chainmaps_k08_whole_rules_of_operators.Holds := by
  w_on; o_law; k_head; (case hw => w_witness2)
  k_fill
  refine My.walk (l := PySem.Challenge.rw_chainmaps_k08_whole_rules_of_operators) rfl rfl rfl (fun w h Y => PySem.W.kIn_of Y) (fun _ _ _ _ _ T fd Fl => My.ok_law T Fl) ?F
  case F =>
    intro w mg h KX G
    refine' My.mk_txt KX G ?a_is_integer ?l_is_integer ?c_is_integer ?k_is_integer ?a_in_range ?l_in_range ?c_in_range ?k_in_range ?a_check_size ?l_check_size ?c_check_size ?k_check_size ?a_are_arrows ?l_are_arrows ?c_are_arrows ?k_are_arrows ?a_common_size ?l_common_size ?c_common_size ?k_common_size ?a_row_from ?l_row_from ?c_row_from ?k_row_from ?a_moved ?l_moved ?c_moved ?k_moved ?a_is_part ?l_is_part ?c_is_part ?k_is_part ?a_first_clash ?l_first_clash ?c_first_clash ?k_first_clash ?a_l_hand ?l_l_hand ?c_l_hand ?k_l_hand ?a_l_draw ?l_l_draw ?c_l_draw ?k_l_draw ?a_l_arrows ?l_l_arrows ?c_l_arrows ?k_l_arrows ?a_l_products ?l_l_products ?c_l_products ?k_l_products ?a_l_parts ?l_l_parts ?c_l_parts ?k_l_parts ?a_l_powers ?l_l_powers ?c_l_powers ?k_l_powers ?a_law ?l_law ?c_law ?k_law ?a_Map ?pg_Map ?hd_Map ?po_Map ?sa_Map ?sf_Map ?ca_Map ?cn_Map ?ct_Map ?cm_Map ?kc_Map ?kit_int_Map ?kit_bool_Map ?self_Map ?na_own_size_Map ?na_own_arrows_Map ?ne_Map ?m_Map__init ?i_Map__init ?l_Map__init ?c_Map__init ?k_Map__init ?mk_Map ?rd_Map ?ga_Map ?at_Map_identity ?rc_Map_identity ?fi_Map_identity ?l_Map_identity ?c_Map_identity ?k_Map_identity ?at_Map_empty ?rc_Map_empty ?fi_Map_empty ?l_Map_empty ?c_Map_empty ?k_Map_empty ?m_Map_size ?s_get_Map_size ?tk_Map_size ?rc_Map_size ?l_Map_size ?c_Map_size ?k_Map_size ?m_Map_arrows ?s_get_Map_arrows ?tk_Map_arrows ?rc_Map_arrows ?l_Map_arrows ?c_Map_arrows ?k_Map_arrows ?m_Map__mul ?i_Map__mul ?l_Map__mul ?c_Map__mul ?k_Map__mul ?m_Map__invert ?i_Map__invert ?l_Map__invert ?c_Map__invert ?k_Map__invert ?m_Map_power ?i_Map_power ?l_Map_power ?c_Map_power ?k_Map_power ?m_Map__and ?i_Map__and ?l_Map__and ?c_Map__and ?k_Map__and ?m_Map__sub ?i_Map__sub ?l_Map__sub ?c_Map__sub ?k_Map__sub ?m_Map__or ?i_Map__or ?l_Map__or ?c_Map__or ?k_Map__or ?m_Map__le ?i_Map__le ?l_Map__le ?c_Map__le ?k_Map__le ?m_Map__lt ?i_Map__lt ?l_Map__lt ?c_Map__lt ?k_Map__lt ?m_Map__ge ?i_Map__ge ?l_Map__ge ?c_Map__ge ?k_Map__ge ?m_Map__eq ?i_Map__eq ?l_Map__eq ?c_Map__eq ?k_Map__eq ?z_isinstance ?z_int ?z_bool ?z_dict ?z_len ?z_range ?z_list ?z_enumerate ?z_all ?z_max ?z_min ?z_abs ?v_MAX_SIZE
    (case a_is_integer => k_is)
    (case l_is_integer => k_is)
    (case c_is_integer => k_is)
    (case k_is_integer => k_is)
    (case a_in_range => k_is)
    (case l_in_range => k_is)
    (case c_in_range => k_is)
    (case k_in_range => k_is)
    (case a_check_size => k_is)
    (case l_check_size => k_is)
    (case c_check_size => k_is)
    (case k_check_size => k_is)
    (case a_are_arrows => k_is)
    (case l_are_arrows => k_is)
    (case c_are_arrows => k_is)
    (case k_are_arrows => k_is)
    (case a_common_size => k_is)
    (case l_common_size => k_is)
    (case c_common_size => k_is)
    (case k_common_size => k_is)
    (case a_row_from => k_is)
    (case l_row_from => k_is)
    (case c_row_from => k_is)
    (case k_row_from => k_is)
    (case a_moved => k_is)
    (case l_moved => k_is)
    (case c_moved => k_is)
    (case k_moved => k_is)
    (case a_is_part => k_is)
    (case l_is_part => k_is)
    (case c_is_part => k_is)
    (case k_is_part => k_is)
    (case a_first_clash => k_is)
    (case l_first_clash => k_is)
    (case c_first_clash => k_is)
    (case k_first_clash => k_is)
    (case a_l_hand => k_is)
    (case l_l_hand => k_is)
    (case c_l_hand => k_is)
    (case k_l_hand => k_is)
    (case a_l_draw => k_is)
    (case l_l_draw => k_is)
    (case c_l_draw => k_is)
    (case k_l_draw => k_is)
    (case a_l_arrows => k_is)
    (case l_l_arrows => k_is)
    (case c_l_arrows => k_is)
    (case k_l_arrows => k_is)
    (case a_l_products => k_is)
    (case l_l_products => k_is)
    (case c_l_products => k_is)
    (case k_l_products => k_is)
    (case a_l_parts => k_is)
    (case l_l_parts => k_is)
    (case c_l_parts => k_is)
    (case k_l_parts => k_is)
    (case a_l_powers => k_is)
    (case l_l_powers => k_is)
    (case c_l_powers => k_is)
    (case k_l_powers => k_is)
    (case a_law => k_is)
    (case l_law => k_is)
    (case c_law => k_is)
    (case k_law => k_is)
    (case a_Map => k_is)
    (case pg_Map => k_is)
    (case hd_Map => k_is)
    (case po_Map => k_is)
    (case sa_Map => k_is)
    (case sf_Map => k_is)
    (case ca_Map => k_is)
    (case cn_Map => k_is)
    (case ct_Map => k_is)
    (case cm_Map => k_is)
    (case kc_Map => k_is)
    (case kit_int_Map => kernel_rfl)
    (case kit_bool_Map => kernel_rfl)
    (case self_Map => kernel_rfl)
    (case na_own_size_Map => k_is)
    (case na_own_arrows_Map => k_is)
    (case ne_Map => k_is)
    (case m_Map__init => k_is)
    (case i_Map__init => k_is)
    (case l_Map__init => k_is)
    (case c_Map__init => k_is)
    (case k_Map__init => k_is)
    (case mk_Map => k_is)
    (case rd_Map => k_is)
    (case ga_Map => k_is)
    (case at_Map_identity => k_is)
    (case rc_Map_identity => k_is)
    (case fi_Map_identity => k_is)
    (case l_Map_identity => k_is)
    (case c_Map_identity => k_is)
    (case k_Map_identity => k_is)
    (case at_Map_empty => k_is)
    (case rc_Map_empty => k_is)
    (case fi_Map_empty => k_is)
    (case l_Map_empty => k_is)
    (case c_Map_empty => k_is)
    (case k_Map_empty => k_is)
    (case m_Map_size => k_is)
    (case s_get_Map_size => k_is)
    (case tk_Map_size => k_is)
    (case rc_Map_size => k_is)
    (case l_Map_size => k_is)
    (case c_Map_size => k_is)
    (case k_Map_size => k_is)
    (case m_Map_arrows => k_is)
    (case s_get_Map_arrows => k_is)
    (case tk_Map_arrows => k_is)
    (case rc_Map_arrows => k_is)
    (case l_Map_arrows => k_is)
    (case c_Map_arrows => k_is)
    (case k_Map_arrows => k_is)
    (case m_Map__mul => k_is)
    (case i_Map__mul => k_is)
    (case l_Map__mul => k_is)
    (case c_Map__mul => k_is)
    (case k_Map__mul => k_is)
    (case m_Map__invert => k_is)
    (case i_Map__invert => k_is)
    (case l_Map__invert => k_is)
    (case c_Map__invert => k_is)
    (case k_Map__invert => k_is)
    (case m_Map_power => k_is)
    (case i_Map_power => k_is)
    (case l_Map_power => k_is)
    (case c_Map_power => k_is)
    (case k_Map_power => k_is)
    (case m_Map__and => k_is)
    (case i_Map__and => k_is)
    (case l_Map__and => k_is)
    (case c_Map__and => k_is)
    (case k_Map__and => k_is)
    (case m_Map__sub => k_is)
    (case i_Map__sub => k_is)
    (case l_Map__sub => k_is)
    (case c_Map__sub => k_is)
    (case k_Map__sub => k_is)
    (case m_Map__or => k_is)
    (case i_Map__or => k_is)
    (case l_Map__or => k_is)
    (case c_Map__or => k_is)
    (case k_Map__or => k_is)
    (case m_Map__le => k_is)
    (case i_Map__le => k_is)
    (case l_Map__le => k_is)
    (case c_Map__le => k_is)
    (case k_Map__le => k_is)
    (case m_Map__lt => k_is)
    (case i_Map__lt => k_is)
    (case l_Map__lt => k_is)
    (case c_Map__lt => k_is)
    (case k_Map__lt => k_is)
    (case m_Map__ge => k_is)
    (case i_Map__ge => k_is)
    (case l_Map__ge => k_is)
    (case c_Map__ge => k_is)
    (case k_Map__ge => k_is)
    (case m_Map__eq => k_is)
    (case i_Map__eq => k_is)
    (case l_Map__eq => k_is)
    (case c_Map__eq => k_is)
    (case k_Map__eq => k_is)
    (case z_isinstance => k_is)
    (case z_int => k_is)
    (case z_bool => k_is)
    (case z_dict => k_is)
    (case z_len => k_is)
    (case z_range => k_is)
    (case z_list => k_is)
    (case z_enumerate => k_is)
    (case z_all => k_is)
    (case z_max => k_is)
    (case z_min => k_is)
    (case z_abs => k_is)
    (case v_MAX_SIZE => k_is)
