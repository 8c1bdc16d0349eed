import PyProof.Rows.All
import Wide.All
import OpenK.AllK
import Wide.FinOn
import HandS.ForMost
import HandS.ForExc
import HandS.IsInst
import HandS.More
import HandS.SlotsOwn
import HandS.Property
import HandS.ClsMeth
import HandS.DictComp
import HandS.Conv
import HandS.Walk
import HandS.NoneIn
import HandS.CallLocal
import HandS.Star
import HandS.ExcInit
import HandS.ExcField
import HandS.ExcIs
import KE.KExcInit
import KE.KExcIs
import HandS.WordsExc
import HandS.ListItems
import HandS.Style
import HandS.TryMany
import HandS.RaiseMore
import HandS.FStr
import HandS.HotCalls
import KE.KItemsList
import KE.KOpsOwn
import HandS.OwnEq
import HandS.Lambda
import HandS.EndTab
import KE.KNestM
import HandS.Deep
import PySem.Challenge.RW_chainmaps_k20_great_map_errors
set_option Elab.async false
set_option linter.all false
set_option maxRecDepth 100000
set_option maxHeartbeats 4000000
namespace PySem.W
open PySem PySem.Calls PyProof.Rows
section
variable {prog : Program} {w : World} {A : Around} {E : Value → Shared → Prop} {s : Shared} {K : Frag} {x C L f : Addr} {h₀ : Heap} {m : Str → Option Value} {ox : Obj} {od : Option Obj} {b tb : Value}
theorem my_ne_K {Q : Value → Shared → Prop} (hu : A.units + 1 < cLine) (F : Fr h₀ L s.heap m) (X₀ : K.In h₀) (I : InstAt s.heap x ox C od) (hb : Looks (model prog w) s.heap (typeOf b) tb) (hn : notFirst K C tb = true)
    (hne : findIn K (.ref C) "__ne__" = some (some (.builtin "object.__ne__"))) (hob : mroIn K C (.type "object") = some true)
    (hs : findIn K (.ref C) "__eq__" = some (some (.ref f))) (hf : isFn K (.ref f) = true)
    (h : wpAny (model prog w) A.in1 (call (.ref f) [.ref x, b]) (fun v s' => ∃ c, v = .bool c ∧ Q (.bool (!c)) s') E s) : wpAny (model prog w) A (richCompare .NotEq (.ref x) b) Q E s := by
  have X := X₀.keeps F.keep
  have one : wpAny (model prog w) A (tryCompare (.ref x) "__ne__" b) (fun r s' => ∃ v, r = some v ∧ Q v s') E s := by
    unfold tryCompare
    simp only [callSpecialIfBound?, bindSpecialIfBound?]
    have sub : Looks (model prog w) s.heap (isInstance (.ref x) (.type "object")) true := I.type.andThen (looks_mroIn X hob)
    have fin : wpAny (model prog w) A (call (.builtin "object.__ne__") ([.ref x] ++ [b]) >>= fun v => pure (some v)) (fun r s' => ∃ c, r = some (.bool c) ∧ Q (.bool c) s') E s := by
      refine wpAny_bind (wpAny_call (codeAny_call_builtin PySem.F.slot_tuple_iterator_ne.plain PySem.F.cmpEntry_ne ?_))
      refine @check_slot (model prog w) _ _ s "object.__ne__" "object" "__ne__" (.ref x) [b] [] _ PySem.F.cmpKind_ne PySem.F.cmpSplit_ne sub (PySem.F.cmpArgs_ne _ _) ?_
      unfold Builtin.«object.__ne__»
      refine wpAny_bind (wpAny_of_eq (a := ((Value.ref x : Value), [b])) (by first | rfl | (simp only [Builtin.slotArgs]; rfl)) ?_)
      refine wpAny_bind (wpAny_cRoomFor hu ?_)
      refine wpAny_bind (ifBound_K X I hs hf (wpAny_mono h (fun v s' hv => ?_) fun _ _ e => e))
      obtain ⟨c, rfl, q⟩ := hv
      refine wpAny_bind (wpAny_truthy_bool ?_)
      exact wpAny_pure (wpAny_pure ⟨_, rfl, q⟩)
    refine wpAny_bind (wpAny_holding (wpAny_bind (wpAny_bind (wpAny_bind (I.type.here ((looks_findIn X hne).here ?_))))))
    refine wpAny_bind (wpAny_askSetting (wpAny_ite ?_))
    split
    · rw [PySem.F.slot_tuple_iterator_ne.bind (.ref x)]
      exact wpAny_bind (wpAny_pure (wpAny_pure (wpAny_mono fin (fun r s' z => by obtain ⟨c, rfl, q⟩ := z; exact wpAny_pure ⟨_, rfl, q⟩) fun _ _ e => e)))
    · rw [PySem.F.slot_tuple_iterator_ne.bind (.ref x)]
      exact wpAny_tryCatch (wpAny_bind (wpAny_pure (wpAny_pure (wpAny_mono fin (fun r s' z => by obtain ⟨c, rfl, q⟩ := z; exact wpAny_pure ⟨_, rfl, q⟩) fun _ _ e => e))))
  unfold richCompare
  simp only [oneThing_ref]
  refine wpAny_holding (wpAny_bind (wpAny_cRoomFor (Nat.lt_of_succ_lt hu) ?_))
  refine wpAny_bind (I.type.here (wpAny_bind (hb.here ?_)))
  split
  · rename_i q
    have e : subIn K tb (.ref C) = some false := by
      rcases Bool.or_eq_true_iff.mp hn with e | e
      · rw [beq_iff_eq.mp e] at q; simp at q
      · exact beq_iff_eq.mp e
    refine wpAny_bind ((looks_subIn X e).here ?_)
    simp only [Bool.false_eq_true, if_false]
    refine wpAny_bind (wpAny_mono one (fun r s' z => ?_) fun _ _ e => e)
    obtain ⟨v, rfl, hq⟩ := z
    exact wpAny_pure hq
  · refine wpAny_bind (wpAny_pure ?_)
    simp only [Bool.false_eq_true, if_false]
    refine wpAny_bind (wpAny_mono one (fun r s' z => ?_) fun _ _ e => e)
    obtain ⟨v, rfl, hq⟩ := z
    exact wpAny_pure hq
end
end PySem.W
namespace U
open PySem PySem.Spec PyProof.Rows L2
/-- what is asked of a plain own class -/
structure OwnC (K : PySem.W.Frag) (C : Addr) : Prop where
  cl : Cls K C
  sf : PySem.W.selfFirst K C = true
  ca : PySem.W.findIn K (.ref C) "__class__" = some (some (.builtin "object.__class__"))
  cn : PySem.W.specialIn K (.builtin "object.__class__") "__get__" = some (some (.builtin "getset_descriptor.__get__"))
  ct : PySem.W.takesIn K (.builtin "object.__class__") = some true
  cm : PySem.W.mroIn K C (.type "object") = some true
section
variable {X : Cx} {CX : CXT} {pins : List (Addr × Obj)} {σ : L2.St} {H : Hp} {s : Shared} {a C dx p g : Addr} {f : Str} {n : Nat} {sp : Sp} {E : XK} {v : V} {u : Value}
theorem ins_inst (I : Inv X pins σ H s) {fs : List (Str × V)} (ea : H a = some (.ins C dx fs)) : ∃ ox od, PySem.W.InstAt s.heap a ox C (some od) := by
  obtain ⟨mA, O, _⟩ := ins_get I.hok ea
  obtain ⟨od, J, _⟩ := O.look
  exact ⟨_, od, J⟩
/-- x op y, both instances of C -/
def rBin (C : Addr) (sp : Sp) (E : XK) : R2 := fun x y H Q => ∃ a dx fs b dy gs, x = .ref a ∧ y = .ref b ∧ H a = some (.ins C dx fs) ∧ H b = some (.ins C dy gs) ∧ sp [x, y] H Q E
theorem op_bin {op : Operator} (hc : PySem.W.selfFirst X.K C = true) (hs : PySem.W.findIn X.K (.ref C) (PySem.dunder op.info.2) = some (some (.ref g))) (hf : PySem.W.isFn X.K (.ref g) = true) (F : FnR X.prog X.w X.K X.mg X.base CX n g sp)
    (hr : Room n X.A) (hx : Passes CX X E) : OpR X (binaryOp op) (rBin C sp E) := by
  intro pins s σ H x y v u Q I rx ry h
  obtain ⟨a, dx, vs, b, dy, ws, rfl, rfl, ha, hb, q⟩ := h
  cases (show v = Value.ref a from rx)
  cases (show u = Value.ref b from ry)
  obtain ⟨ox, od, J⟩ := ins_inst I ha
  obtain ⟨oy, od', J'⟩ := ins_inst I hb
  obtain ⟨m, hF⟩ := I.fr
  refine PySem.W.binop_K (op := op) hF I.ok.mod.kin J J'.type hc hs hf ?_
  refine wpAny_mono (wpAny_call (run_fnR (us := [.ref a, .ref b]) (vs := [.ref a, .ref b]) F hr hx I (.cons rfl (.cons rfl .nil)) q)) (fun w s' z => ?_) fun _ _ x => x
  obtain ⟨z', H', I', rz, qz⟩ := z
  exact SlX.cmpback rz ⟨z', H', I', rz, qz⟩
theorem notFirst_self (K : PySem.W.Frag) (C : Addr) : PySem.W.notFirst K C (.ref C) = true := by
  unfold PySem.W.notFirst; simp
theorem op_cmp {op : CmpOp} (hop : ∀ a b, compareOp op a b = richCompare op a b) (hs : PySem.W.findIn X.K (.ref C) (cmpInfo op).2.1 = some (some (.ref g))) (hf : PySem.W.isFn X.K (.ref g) = true) (F : FnR X.prog X.w X.K X.mg X.base CX n g sp)
    (hr : Room n X.A) (hx : Passes CX X E) : OpR X (compareOp op) (rBin C sp E) := by
  intro pins s σ H x y v u Q I rx ry h
  obtain ⟨a, dx, vs, b, dy, ws, rfl, rfl, ha, hb, q⟩ := h
  cases (show v = Value.ref a from rx)
  cases (show u = Value.ref b from ry)
  obtain ⟨ox, od, J⟩ := ins_inst I ha
  obtain ⟨oy, od', J'⟩ := ins_inst I hb
  obtain ⟨m, hF⟩ := I.fr
  rw [hop]
  refine PySem.W.cmp_K (op := op) (tb := .ref C) hr.units0 hF I.ok.mod.kin J J'.type (notFirst_self _ _) hs hf ?_
  refine wpAny_mono (wpAny_call (run_fnR (us := [.ref a, .ref b]) (vs := [.ref a, .ref b]) F hr hx I (.cons rfl (.cons rfl .nil)) q)) (fun w s' z => ?_) fun _ _ x => x
  obtain ⟨z', H', I', rz, qz⟩ := z
  exact SlX.cmpback rz ⟨z', H', I', rz, qz⟩
/-- x != y by the own __eq__ -/
def rNeO (C : Addr) (sp : Sp) (E : XK) : R2 := fun x y H Q => ∃ a dx fs b dy gs, x = .ref a ∧ y = .ref b ∧ H a = some (.ins C dx fs) ∧ H b = some (.ins C dy gs) ∧ sp [x, y] H (fun z H' => ∃ c, z = .bl c ∧ Q (.bl (!c)) H') E
theorem op_neO (oc : OwnC X.K C) (hne : PySem.W.findIn X.K (.ref C) "__ne__" = some (some (.builtin "object.__ne__"))) (hs : PySem.W.findIn X.K (.ref C) "__eq__" = some (some (.ref g))) (hf : PySem.W.isFn X.K (.ref g) = true) (F : FnR X.prog X.w X.K X.mg X.base CX n g sp)
    (hr : Room (n + 1) X.A) (hx : Passes CX X E) : OpR X (compareOp .NotEq) (rNeO C sp E) := by
  intro pins s σ H x y v u Q I rx ry h
  obtain ⟨a, dx, vs, b, dy, ws, rfl, rfl, ha, hb, q⟩ := h
  cases (show v = Value.ref a from rx)
  cases (show u = Value.ref b from ry)
  obtain ⟨ox, od, J⟩ := ins_inst I ha
  obtain ⟨oy, od', J'⟩ := ins_inst I hb
  obtain ⟨m, hF⟩ := I.fr
  have hr1 : Room n X.A.in1 := Room.in1 hr
  refine PySem.W.my_ne_K (tb := .ref C) (hu_of hr) hF I.ok.mod.kin J J'.type (notFirst_self _ _) hne oc.cm hs hf ?_
  refine wpAny_mono (wpAny_call (SlX.run_at (us := [.ref a, .ref b]) (ws := [.ref a, .ref b]) F hr1 I.env0.in1 hx I (.cons rfl (.cons rfl .nil)) q)) (fun w s' z => ?_) fun _ _ x => x
  obtain ⟨z', H', I', rz, c, ez, qz⟩ := z
  subst ez
  cases (show w = Value.bool c from rz)
  exact ⟨c, rfl, .bl (!c), H', I', rfl, qz⟩
/-- ~x -/
def rUnO (C : Addr) (sp : Sp) (E : XK) : V → Hp → VK → Prop := fun x H Q => ∃ a dx fs, x = .ref a ∧ H a = some (.ins C dx fs) ∧ sp [x] H Q E
theorem un_inv (hs : PySem.W.findIn X.K (.ref C) "__invert__" = some (some (.ref g))) (hf : PySem.W.isFn X.K (.ref g) = true) (F : FnR X.prog X.w X.K X.mg X.base CX n g sp)
    (hr : Room n X.A) (hx : Passes CX X E) : UnR X (unaryOp .Invert) (rUnO C sp E) := by
  intro pins s σ H x v Q I rx h
  obtain ⟨a, dx, vs, rfl, ha, q⟩ := h
  cases (show v = Value.ref a from rx)
  obtain ⟨ox, od, J⟩ := ins_inst I ha
  obtain ⟨m, hF⟩ := I.fr
  refine PySem.W.ksp_inv hF I.ok.mod.kin J hs hf ?_
  exact wpAny_call (run_fnR (us := [.ref a]) (vs := [.ref a]) F hr hx I (.cons rfl .nil) q)
end
end U
namespace U
open PySem PySem.Spec PyProof.Rows L2 StX
/-! ### a def of the text, with how its arguments bind -/
structure FnAt (K : PySem.W.Frag) (x qual : Str) (st : Stmt) (f : Addr) (ps : List Str) : Prop where
  ex : ∃ fd, Fun K x qual st f fd ∧ Binds K fd ps []
theorem FnAt.kp {K : PySem.W.Frag} {x qual : Str} {st : Stmt} {f : Addr} {ps : List Str} (A : FnAt K x qual st f ps) : PySem.W.keepIn K (.ref f) = true := by
  obtain ⟨fd, F, _⟩ := A.ex
  exact F.kp
section
variable {P : Program} {w : World} {K : PySem.W.Frag} {mg : Str → Option Value} {base : Heap}
theorem FnAt.ok {x qual : Str} {st : Stmt} {f : Addr} {N ps : List Str} {k : Nat} {sp : Sp} (A : FnAt K x qual st f ps) (S : FnScope N ps (defScope st)) (len : ∀ vs H Q E, sp vs H Q E → vs.length = ps.length)
    (hbody : ∀ (cdv : Value) (A : Around) (outer : List Env) (s : Shared) (H : Hp) (vs : List V) (Q : VK) (E : XK), Room k (A.deeper (envOfC qual (defScope st) s.heap.objs.size f cdv)) → sp vs H Q E →
      ∃ t, PSs (cxOf CX0 P w K mg base N qual (defScope st) f cdv A outer s H E).nox (defBody st) t ∧ t { nx := fun _ H' => Q .non H', rt := Q } (start N vs) H) : FnR P w K mg base CX0 (k + 1) f sp := by
  obtain ⟨fd, F, B⟩ := A.ex
  have R := (F.ok (P := P) (w := w) (mg := mg) (base := base) S len hbody).raw B .nil
  exact R.imp fun vs H Q E h => by rw [List.append_nil]; exact h
/-- a def that raises nothing, where exceptions are told -/
theorem fnR_any {CX : CXT} {k : Nat} {f : Addr} {sp : Sp} (F : FnR P w K mg base CX0 k f sp) : FnR P w K mg base CX k f sp := by
  intro A outer s H us vs Q E hr e0 r h
  refine codeAny_mono (F A outer s H us vs Q E hr e0 r h) fun r s' hq => ?_
  cases r with
  | error e => exact False.elim hq
  | ok fl => cases fl <;> exact hq
end
section
variable {X : Cx} {CX : CXT} {k i : Nat} {f C p g a dx : Addr} {sp : Sp} {E : XK} {x fl : Str} {e o : Expr} {es : List Expr} {ta te tf : TE} {t : TA} {pp pos : Pos} {fs : List (Str × V)}
/-- x(e, ..), x a def of the module -/
def tCallR (sp : Sp) (E : XK) (t : TA) : TE := fun σ H Q => t σ H fun vs H1 => sp vs H1 Q E
theorem pe_callR (F : FnR X.prog X.w X.K X.mg X.base CX k f sp) (hr : Room k X.A) (hk : PySem.W.keepIn X.K (.ref f) = true) (hg : Gl X x) (hm : X.mg x = some (.ref f)) (hx : Passes CX X E) (ha : PA X (e :: es) t) (hdb : (x == ("__debug__" : Str)) = false := by decide)
    (he : starEach (e :: es) X.env = (false, eval e X.env) :: starEach es X.env := by rfl) (hpl : (backTo pos (starEach es X.env)).any (·.1) = false := by rfl) : PE X (.Call (.Name x pp) (e :: es) [] pos) (tCallR sp E t) := by
  refine ⟨fun pins s σ H Q I h => ?_⟩
  refine wpAny_Call_Name_kw (ld_glob I hg hm ?_ hdb)
  refine PySem.W.callWith_K (h₀ := X.base) I.ok.mod.kin hk (thn (ha.run pos pins s σ H _ I h) fun us s1 ⟨vs, H1, I1, r, q⟩ => ⟨I1.kIn, ?_⟩) he hpl
  exact wpAny_call (run_fnR F hr hx I1 r q)
/-- e.f, a property -/
def tPropR (C : Addr) (sp : Sp) (ta : TE) : TE := fun σ H Q => ta σ H fun x H1 => ∃ a dx fs, x = .ref a ∧ H1 a = some (.ins C dx fs) ∧ sp [.ref a] H1 Q E0
theorem pe_propR (he : PE X e ta) (c : Cls X.K C) (hp : PropOf X.K C fl p g) (F : FnR X.prog X.w X.K X.mg X.base CX0 k g sp) (hr : Room (k + 1) X.A)
    (hab : attributeBase e fl X.env (eval e X.env) = eval e X.env := by rfl) : PE X (.Attribute e fl pos) (tPropR C sp ta) := by
  refine ⟨fun pins s σ H Q I h => ?_⟩
  refine attr_of hab (thn (he.run pins s σ H _ I h) fun u s1 ⟨x, H1, I1, rx, a, dx, fs, ex, ea, q⟩ => ?_)
  subst ex
  obtain rfl : u = Value.ref a := rx
  obtain ⟨mA, O, _, _, _, _⟩ := ins_get I1.hok ea
  obtain ⟨od, J, _⟩ := O.look
  obtain ⟨rest, hrec⟩ := hp.rec_
  have I2 := I1.tok (s1.toks + 1)
  have hc : (PySem.W.clsIn X.K C).isSome = true := by
    obtain ⟨cd, hc, _⟩ := PySem.W.any_some c.hd
    rw [hc]
    rfl
  refine PySem.W.get_bind I1.kIn J (PySem.W.plainGet_of (c.get fl)).1 (PySem.W.findObj_data hc hp.at_ hp.get hp.tak) (PySem.W.plainGet_of (c.get fl)).2 (wpAny_call (PySem.W.prop_get (s := { s1 with toks := s1.toks + 1 }) I1.kIn hrec ?_))
  refine codeAny_mono (F X.A.in1 X.stack { s1 with toks := s1.toks + 1 } H1 [.ref a] [.ref a] Q E0 hr.in1 I2.env0.in1 (.cons rfl .nil) q) fun r s' hq => ?_
  cases r with
  | error er => exact False.elim hq
  | ok fl =>
    cases fl with
    | ret u =>
      obtain ⟨v, H', I3, rv, q3⟩ := I2.after hq
      show wpAny _ _ (handedOut u) _ _ _
      rw [PySem.W.handedOut_of (handed_of rv)]
      exact wpAny_pure ⟨v, H', I3, rv, q3⟩
    | next => exact False.elim hq
    | brk => exact False.elim hq
    | cont => exact False.elim hq
/-- x(..), x a local that holds the class at C -/
def tMakeL (i : Nat) (C : Addr) (sp : Sp) (E : XK) (t : TA) : TE := fun σ H Q => σ[i]? = some (some (.ref C)) ∧ tMakeR C sp E t σ H Q
theorem pe_makeL (M : Mk X.K C f) (F : FnR X.prog X.w X.K X.mg X.base CX k f sp) (hr : Room (k + 1) X.A) (hN : X.N[i]? = some x) (hv : Vis X.env.scope x) (hx : Passes CX X E) (ha : PA X (e :: es) t) (hdb : (x == ("__debug__" : Str)) = false := by decide)
    (hcd : (x == ("__classdict__" : Str)) = false := by decide)
    (he : starEach (e :: es) X.env = (false, eval e X.env) :: starEach es X.env := by rfl) (hpl : (backTo pos (starEach es X.env)).any (·.1) = false := by rfl) : PE X (.Call (.Name x pp) (e :: es) [] pos) (tMakeL i C sp E t) := by
  refine ⟨fun pins s σ H Q I h => ?_⟩
  obtain ⟨hs, ht⟩ := h
  refine wpAny_Call_Name_kw (thn ((pe_var (pos := pp) hN hv hdb hcd).run pins s σ H (fun v H1 => v = .ref C ∧ H1 = H) I ⟨.ref C, hs, rfl, rfl⟩) fun u s1 ⟨v, H1, I1, r1, q1⟩ => ?_)
  obtain ⟨rfl, rfl⟩ := q1
  cases r1
  refine PySem.W.callWith_K (h₀ := X.base) I.ok.mod.kin M.kp (thn (ha.run pos pins s1 σ _ _ I1 ht) fun us s2 ⟨vs, H2, I2, r, q⟩ => ⟨I2.kIn, ?_⟩) he hpl
  exact run_makeR M F hr hx I2 r q
end
theorem ifD {c : Prop} [Decidable c] {A B : Prop} (h1 : c → A) (h2 : ¬ c → B) : if decide c = true then A else B := by
  by_cases h : c
  · rw [if_pos (decide_eq_true h)]; exact h1 h
  · rw [if_neg (by simp [h])]; exact h2 h
theorem ifN {c : Prop} [Decidable c] {A B : Prop} (h1 : ¬ c → A) (h2 : c → B) : if (!decide c) = true then A else B := by
  by_cases h : c
  · rw [if_neg (by simp [h])]; exact h2 h
  · rw [if_pos (by simp [h])]; exact h1 h
theorem ifB {c : Bool} {A B : Prop} (h1 : c = true → A) (h2 : c = false → B) : if c = true then A else B := by
  cases c with
  | true => rw [if_pos rfl]; exact h1 rfl
  | false => rw [if_neg Bool.false_ne_true]; exact h2 rfl
theorem ifNB {c : Bool} {A B : Prop} (h1 : c = false → A) (h2 : c = true → B) : if (!c) = true then A else B := by
  cases c with
  | true => exact iteF (h2 rfl)
  | false => exact iteT (h1 rfl)
end U
namespace U
open PySem PySem.Spec PyProof.Rows L2
/-- the ints' dicts compared -/
def dEq (ks ls : List (Key × V)) : Bool := ks.length == ls.length && ks.all fun p => decide (valV ls p.1 = some p.2)
def IntVals (ks : List (Key × V)) : Prop := ∀ p ∈ ks, ∃ i : Int, p.2 = .int i
theorem valV_mem {ls : List (Key × V)} {k : Key} {v : V} (h : valV ls k = some v) : ∃ p ∈ ls, p.2 = v := by
  unfold valV at h
  cases e : ls.find? (fun kv => decide (kv.1 = k)) with
  | none => rw [e] at h; cases h
  | some p =>
    rw [e] at h
    exact ⟨p, List.mem_of_find?_eq_some e, Option.some.inj h⟩
theorem hits_int {A : Around} {s : Shared} {ls : List (Key × V)} {vb : List (Key × Value)} (rb : KV ls vb) (il : IntVals ls) {ks : List (Key × V)} {va : List (Key × Value)} (ra : KV ks va) :
    IntVals ks → PySem.W.KeqHits A s vb va (ks.all fun p => decide (valV ls p.1 = some p.2)) := by
  unfold KV at ra
  induction ra with
  | nil => intro _; exact .nil
  | @cons p q ps qs h t ih =>
    intro hp
    obtain ⟨h1, h2⟩ := h
    obtain ⟨i, ei⟩ := hp p List.mem_cons_self
    obtain ⟨k, v⟩ := q
    have h1' : p.1 = k := h1
    subst h1'
    rw [ei] at h2
    obtain ⟨tk, ev⟩ := (show ∃ tk, v = Value.int i tk from h2)
    subst ev
    have rr : RelO (valV ls p.1) (valueAt vb p.1) := rb.val p.1
    rw [List.all_cons]
    cases e : valV ls p.1 with
    | none =>
      rw [e] at rr
      cases e2 : valueAt vb p.1 with
      | none => exact .miss e2
      | some y => rw [e2] at rr; exact rr.elim
    | some z =>
      rw [e] at rr
      obtain ⟨y, hy, ry⟩ := rr.some_of
      obtain ⟨p', hm, ep⟩ := valV_mem e
      obtain ⟨j, ej⟩ := il p' hm
      rw [ej] at ep
      subst ep
      obtain ⟨tk', ey⟩ := (show ∃ tk, y = Value.int j tk from ry)
      subst ey
      have b : decide (some (V.int j) = some p.2) = (i == j) := by
        rw [ei]
        by_cases h : i = j
        · subst h; simp
        · have h' : ¬ j = i := fun z => h z.symm
          simp [h, h']
      rw [b]
      exact .hit hy (SeqAt.EqAt.int_int i _ j _) (ih fun p' hm => hp p' (List.mem_cons_of_mem _ hm))
theorem my_copyOf {prog : Program} {w : World} {KK : Type} [DecidableEq KK] {knd : KeyKind prog w KK} {A : Around} {E : Value → Shared → Prop} {s : Shared} {id : String} {d : Addr} {kvs : List (KK × Value)} {Q : Value → Shared → Prop} (hd : (d == sysModules) = false)
    (hm : s.heap.DictOf knd d kvs) (hsz : kvs.length ≤ sizeLine)
    (h : ∀ h', h'.DictOf knd s.heap.objs.size kvs → (∀ b o, s.heap.get? b = some o → h'.get? b = some o) → Q (.ref s.heap.objs.size) { s with heap := h' }) :
    wpAny (model prog w) A (Builtin.Dict.copyOf id (.ref d)) Q E s := by
  obtain ⟨o, es, ep, ho, hc, hdat, hk, hp, hn⟩ := (_root_.id hm : s.heap.DictOf knd d kvs)
  have hes : es.size ≤ sizeLine + 1 := by
    have e1 := hp.length
    have e2 : es.toList.length = es.size := by simp
    omega
  have fin : ∀ es' : Array DictEntry, es' = es → Q (.ref s.heap.objs.size) { s with heap := s.heap.push { cls := .type "dict", data := .dict es' } } := by
    rintro es' rfl
    exact h _ ⟨_, es', 0, Heap.get?_push_size _ rfl, ⟨rfl, rfl, rfl⟩, rfl, hk, hp, hn⟩ fun b o' e => Heap.get?_push_of_some _ e
  unfold Builtin.Dict.copyOf
  refine wpAny_bind (wpAny_pure ?_)
  unfold Builtin.Dict.showsAll
  rw [if_neg (by rw [hd]; exact Bool.false_ne_true)]
  refine wpAny_bind (wpAny_pure (wpAny_bind (wpAny_dictEntries ho hdat ?_)))
  by_cases hemp : es.isEmpty = true
  · rw [if_pos hemp]
    exact wpAny_bind (wpAny_rule (wpAny_newObj_type (fin #[] (Array.isEmpty_iff.mp hemp).symm)))
  · rw [if_neg hemp]
    refine wpAny_bind ?_
    unfold Builtin.Dict.readDirectly
    refine wpAny_bind (wpAny_isInstance hm.typeIs isSubtype_dict_dict ?_)
    simp only [Bool.not_true, Bool.false_eq_true, if_false]
    refine wpAny_bind (wpAny_specialOf hm.typeIs F.slot_dict_iter.lookup (wpAny_pure ?_))
    simp only [beq_self_eq_true, if_true]
    exact wpAny_bind (wpAny_entriesForEmpty (knd := knd) ho hdat hk (wpAny_newObj_type (fin es rfl) hes))
section
variable {X : Cx}
def rEqD : R2 := fun x y H Q => ∃ a b ks ls, x = .ref a ∧ y = .ref b ∧ H a = some (.dK ks) ∧ H b = some (.dK ls) ∧ IntVals ks ∧ IntVals ls ∧ Q (.bl (dEq ks ls)) H
def rNeD : R2 := fun x y H Q => ∃ a b ks ls, x = .ref a ∧ y = .ref b ∧ H a = some (.dK ks) ∧ H b = some (.dK ls) ∧ IntVals ks ∧ IntVals ls ∧ Q (.bl (!dEq ks ls)) H
theorem op_eqDI (hu : X.A.units < cLine) : OpR X (compareOp .Eq) rEqD := by
  intro pins s σ H x y v u Q I rx ry h
  obtain ⟨a, b, ks, ls, rfl, rfl, ea, eb, i1, i2, q⟩ := h
  cases (show v = Value.ref a from rx)
  cases (show u = Value.ref b from ry)
  obtain ⟨_, ya, va, ra, da⟩ := (show ObjOk X.prog X.w H s.heap a (.dK ks) from I.hok a _ ea)
  obtain ⟨_, yb, vb, rb, db⟩ := (show ObjOk X.prog X.w H s.heap b (.dK ls) from I.hok b _ eb)
  refine PySem.W.keq_eq (knd := mixKind X.prog X.w) ya yb da db hu (fun _ => hits_int rb i2 ra i1) (fin_bl I q ?_)
  unfold dEq
  rw [ra.length, rb.length]
theorem op_neDI (hu : X.A.units < cLine) : OpR X (compareOp .NotEq) rNeD := by
  intro pins s σ H x y v u Q I rx ry h
  obtain ⟨a, b, ks, ls, rfl, rfl, ea, eb, i1, i2, q⟩ := h
  cases (show v = Value.ref a from rx)
  cases (show u = Value.ref b from ry)
  obtain ⟨_, ya, va, ra, da⟩ := (show ObjOk X.prog X.w H s.heap a (.dK ks) from I.hok a _ ea)
  obtain ⟨_, yb, vb, rb, db⟩ := (show ObjOk X.prog X.w H s.heap b (.dK ls) from I.hok b _ eb)
  refine PySem.W.keq_ne (knd := mixKind X.prog X.w) ya yb da db hu (fun _ => hits_int rb i2 ra i1) (fin_bl I q ?_)
  unfold dEq
  rw [ra.length, rb.length]
/-- d | e, two dicts -/
def rOrD : R2 := fun x y H Q => ∃ a b ks ls, x = .ref a ∧ y = .ref b ∧ H a = some (.dK ks) ∧ H b = some (.dK ls) ∧ ks.length + ls.length ≤ sizeLine ∧ ∀ p, H p = none → Q (.ref p) (upd H p (.dK (mergeK ks ls)))
theorem op_orD : OpR X (binaryOp .BitOr) rOrD := by
  intro pins s σ H x y v u Q I rx ry h
  obtain ⟨a, b, ks, ls, rfl, rfl, ea, eb, hz, q⟩ := h
  cases (show v = Value.ref a from rx)
  cases (show u = Value.ref b from ry)
  obtain ⟨z1, ya, va, ra, da⟩ := (show ObjOk X.prog X.w H s.heap a (.dK ks) from I.hok a _ ea)
  obtain ⟨z2, yb, vb, rb, db⟩ := (show ObjOk X.prog X.w H s.heap b (.dK ls) from I.hok b _ eb)
  refine wpAny_binaryOp_same (op := .BitOr) da.typeIs db.typeIs PySem.F.fills_dict_or PySem.F.slot_dict_or (wpAny_call_entry PySem.F.slot_dict_or da.typeIs PySem.F.entry_dict_or ?_ (PySem.F.args_dict_or_2 _ _))
  show wpAny _ _ (Builtin.Dict.dictSlotArgs "__or__" ⟨[.ref a, .ref b], []⟩ >>= _) _ _ s
  refine wpAny_bind ?_
  unfold Builtin.Dict.dictSlotArgs
  refine wpAny_bind (wpAny_notOrdered_dict da.typeIs ?_)
  show wpAny _ _ (pure (Value.ref a, Value.ref b)) _ _ s
  refine wpAny_pure ?_
  show wpAny _ _ (_ >>= _) _ _ s
  refine wpAny_bind ?_
  refine wpAny_bind (wpAny_isInstance (T := "dict") da.typeIs PySem.F.sub_dict_dict ?_)
  show wpAny _ _ (isInstance (Value.ref b) (Value.type "dict")) _ _ s
  refine wpAny_isInstance (T := "dict") db.typeIs PySem.F.sub_dict_dict ?_
  rw [show (!true) = false from rfl, if_neg Bool.false_ne_true]
  have lv : va.length ≤ sizeLine := by rw [← ra.length]; exact z1
  have hb0 : b ≠ s.heap.objs.size := Nat.ne_of_lt (I.hok.lt eb)
  refine wpAny_bind (my_copyOf ya da lv fun h1 d1 k1 => ?_)
  refine wpAny_bind (wpAny_pure (wpAny_holding ?_))
  have db1 : h1.DictOf (mixKind X.prog X.w) b vb := by
    obtain ⟨ob, es, ep, e, c⟩ := db
    exact ⟨ob, es, ep, k1 _ _ e, c⟩
  unfold Builtin.Dict.updateFrom
  refine wpAny_bind (wpAny_typeOf (s := { s with heap := h1 }) db1.typeIs ?_)
  rw [if_neg (by decide)]
  refine wpAny_bind ?_
  unfold Builtin.Dict.merge
  refine wpAny_bind ?_
  unfold Builtin.Dict.readDirectly
  refine wpAny_bind (wpAny_isInstance (s := { s with heap := h1 }) db1.typeIs isSubtype_dict_dict ?_)
  simp only [Bool.not_true, Bool.false_eq_true, if_false]
  refine wpAny_bind (wpAny_specialOf (s := { s with heap := h1 }) db1.typeIs F.slot_dict_iter.lookup (wpAny_pure ?_))
  simp only [beq_self_eq_true, if_true]
  refine wpAny_bind (wpAny_pure ?_)
  refine wpAny_mergeDict (s := { s with heap := h1 }) (knd := mixKind X.prog X.w) (hsz := by rw [← ra.length, ← rb.length]; exact hz) hb0.symm yb d1 db1 fun h2 d2 _ k2 => ?_
  refine wpAny_bind (wpAny_pure (wpAny_pure ⟨_, rfl, by simp, ?_⟩))
  refine ⟨.ref s.heap.objs.size, _, I.laid (t' := s.toks) (h' := h2) (o := .dK (mergeK ks ls)) (fun c o e => (k2.2 c (Nat.ne_of_lt (Heap.lt_size e))).trans (k1 c o e)) (Nat.le_refl _) ?_, rfl, q _ (I.hok.fresh (Nat.le_refl _))⟩
  refine dk_new (Nat.le_trans (length_mergeK ls ks) hz) ?_ (rb.merge ra) d2
  exact beq_eq_false_iff_ne.mpr (Nat.ne_of_gt I.big)
end
end U
namespace U
open PySem PySem.Spec PyProof.Rows L2
/-! ### heaps -/
def Off (d : Addr) (H H' : Hp) : Prop := ∀ b o, b ≠ d → H b = some o → H' b = some o
theorem Same.new {H : Hp} {p : Addr} {o : HO} (h : H p = none) : L2.Same H (upd H p o) := fun b u e => by rw [upd_ne (ne_of_none e h)]; exact e
theorem Off.tr {d : Addr} {H H1 H2 : Hp} (a : Off d H H1) (b : Off d H1 H2) : Off d H H2 := fun c o hc e => b c o hc (a c o hc e)
theorem Off.lock {d : Addr} {H : Hp} {o : HO} : Off d H (upd H d o) := fun b u hb e => by rw [upd_ne hb]; exact e
theorem Off.new {d p : Addr} {H : Hp} {o : HO} (h : H p = none) : Off d H (upd H p o) := fun b u _ e => by rw [upd_ne (ne_of_none e h)]; exact e
theorem Off.free {d p : Addr} {H H' : Hp} {u : HO} (a : Off d H H') (hd : H' d = some u) (h : H' p = none) : H p = none := by
  cases e : H p with
  | none => rfl
  | some o =>
    by_cases hp : p = d
    · subst hp; rw [hd] at h; cases h
    · rw [a p o hp e] at h; cases h
theorem Off.back {d : Addr} {H H' : Hp} {u : HO} (a : Off d H H') (hd : H d = some u) : L2.Same H (upd H' d u) := fun b o e => by
  by_cases hb : b = d
  · subst hb; rw [hd] at e; cases e; exact upd_same
  · rw [upd_ne hb]; exact a b o hb e
/-- an object of the heap behind, that was not there ahead, may be changed -/
theorem Off.mut {d p : Addr} {H H' : Hp} {o : HO} (a : Off d H H') (h : H p = none) : Off d H (upd H' p o) := fun b u hb e => by rw [upd_ne (ne_of_none e h)]; exact a b u hb e
/-! ### a dict of ints -/
def kvI (l : List (Int × Int)) : List (Key × V) := l.map fun p => (Sum.inl p.1, V.int p.2)
theorem kvI_length (l : List (Int × Int)) : (kvI l).length = l.length := by simp [kvI]
theorem kvI_get {l : List (Int × Int)} {i : Nat} {k : Key} {v : V} (h : (kvI l)[i]? = some (k, v)) : ∃ x y, l[i]? = some (x, y) ∧ k = .inl x ∧ v = .int y := by
  unfold kvI at h
  rw [List.getElem?_map] at h
  cases e : l[i]? with
  | none => rw [e] at h; cases h
  | some p =>
    rw [e] at h
    obtain ⟨x, y⟩ := p
    cases h
    exact ⟨x, y, rfl, rfl, rfl⟩
def lk (l : List (Int × Int)) (x : Int) : Option Int := (l.find? fun p => decide (p.1 = x)).map (·.2)
theorem valV_kvI (l : List (Int × Int)) (x : Int) : valV (kvI l) (Sum.inl x : Key) = (lk l x).map V.int := by
  induction l with
  | nil => rfl
  | cons p r ih =>
    obtain ⟨a, b⟩ := p
    by_cases h : a = x
    · subst h
      rw [show kvI ((a, b) :: r) = (Sum.inl a, V.int b) :: kvI r from rfl, valV_pos rfl]
      simp [lk]
    · rw [show kvI ((a, b) :: r) = (Sum.inl a, V.int b) :: kvI r from rfl, valV_neg (fun z => h (Sum.inl.inj z)), ih]
      simp [lk, h]
theorem lk_none {l : List (Int × Int)} {x : Int} (h : x ∉ l.map (·.1)) : lk l x = none := by
  unfold lk
  rw [List.find?_eq_none.mpr]
  · rfl
  · intro p hp
    simp only [decide_eq_true_eq]
    exact fun e => h (List.mem_map.mpr ⟨p, hp, e⟩)
theorem lk_some {l : List (Int × Int)} (nd : (l.map (·.1)).Nodup) {x y : Int} (h : (x, y) ∈ l) : lk l x = some y := by
  induction l with
  | nil => cases h
  | cons p r ih =>
    obtain ⟨a, b⟩ := p
    rw [List.map_cons, List.nodup_cons] at nd
    rcases List.mem_cons.mp h with h | h
    · cases h; simp [lk]
    · have ne : ¬ a = x := fun z => nd.1 (by rw [z]; exact List.mem_map.mpr ⟨(x, y), h, rfl⟩)
      have := ih nd.2 h
      simpa [lk, ne] using this
theorem lk_mem {l : List (Int × Int)} {x y : Int} (h : lk l x = some y) : (x, y) ∈ l := by
  unfold lk at h
  cases e : l.find? (fun p => decide (p.1 = x)) with
  | none => rw [e] at h; cases h
  | some p =>
    rw [e] at h
    obtain ⟨a, b⟩ := p
    have h1 := List.find?_some e
    simp only [decide_eq_true_eq] at h1
    have h2 : b = y := Option.some.inj h
    subst h1 h2
    exact List.mem_of_find?_eq_some e
theorem intVals_kvI (l : List (Int × Int)) : IntVals (kvI l) := by
  intro p hp
  unfold kvI at hp
  obtain ⟨q, _, rfl⟩ := List.mem_map.mp hp
  exact ⟨q.2, rfl⟩
theorem putK_kvI {l : List (Int × Int)} {x y : Int} (h : x ∉ l.map (·.1)) : putK (kvI l) (Sum.inl x : Key) (V.int y) = kvI (l ++ [(x, y)]) := by
  have e : valV (kvI l) (Sum.inl x : Key) = none := by rw [valV_kvI, lk_none h]; rfl
  rw [putK_new _ e]
  simp [kvI]
theorem lk_append {l r : List (Int × Int)} {x : Int} : lk (l ++ r) x = (lk l x).or (lk r x) := by
  unfold lk
  rw [List.find?_append]
  cases l.find? (fun p => decide (p.1 = x)) <;> rfl
theorem lk_cons (a b : Int) (r : List (Int × Int)) (z : Int) : lk ((a, b) :: r) z = if a = z then some b else lk r z := by
  by_cases h : a = z <;> simp [lk, h]
theorem lk_mapOff (r : List (Int × Int)) (x y z : Int) (hz : ¬ z = x) : lk (r.map fun p => if p.1 = x then (p.1, y) else p) z = lk r z := by
  induction r with
  | nil => rfl
  | cons p r ih =>
    obtain ⟨a, b⟩ := p
    rw [List.map_cons]
    by_cases ha : a = x
    · subst ha
      have hz' : ¬ a = z := fun q => hz q.symm
      rw [if_pos rfl, lk_cons, lk_cons, if_neg hz', if_neg hz', ih]
    · rw [if_neg ha, lk_cons, lk_cons, ih]
theorem lk_mapPut {x y : Int} : ∀ (l : List (Int × Int)), x ∈ l.map (·.1) → ∀ z, lk (l.map fun p => if p.1 = x then (p.1, y) else p) z = if z = x then some y else lk l z
  | [], h, z => by cases h
  | (a, b) :: r, h, z => by
    by_cases hz : z = x
    · subst hz
      rw [if_pos rfl, List.map_cons]
      by_cases ha : a = z
      · subst ha
        rw [if_pos rfl, lk_cons, if_pos rfl]
      · rw [if_neg ha, lk_cons, if_neg ha]
        have h' : z ∈ r.map (·.1) := by
          rcases List.mem_cons.mp h with q | q
          · exact absurd q.symm ha
          · exact q
        rw [lk_mapPut r h' z, if_pos rfl]
    · rw [if_neg hz, lk_mapOff _ _ _ _ hz]
theorem putK_lk {l : List (Int × Int)} {x y : Int} : ∃ l', putK (kvI l) (Sum.inl x : Key) (V.int y) = kvI l' ∧ l'.length ≤ l.length + 1 ∧ ((l.map (·.1)).Nodup → (l'.map (·.1)).Nodup) ∧ ∀ z, lk l' z = if z = x then some y else lk l z := by
  by_cases h : x ∈ l.map (·.1)
  · refine ⟨l.map fun p => if p.1 = x then (p.1, y) else p, ?_, by simp, fun nd => ?_, fun z => ?_⟩
    · unfold putK
      rw [if_pos (by
        obtain ⟨p, hp, e⟩ := List.mem_map.mp h
        rw [List.any_eq_true]
        exact ⟨(Sum.inl p.1, V.int p.2), List.mem_map.mpr ⟨p, hp, rfl⟩, by simp [e]⟩)]
      unfold kvI
      rw [List.map_map, List.map_map]
      refine List.map_congr_left fun p _ => ?_
      by_cases e : p.1 = x
      · simp [e]
      · have e' : ¬ (Sum.inl p.1 : Key) = Sum.inl x := fun q => e (Sum.inl.inj q)
        simp [e]
    · have e : (l.map fun p => if p.1 = x then (p.1, y) else p).map (·.1) = l.map (·.1) := by
        rw [List.map_map]
        refine List.map_congr_left fun p _ => ?_
        by_cases e : p.1 = x <;> simp [e]
      rw [e]; exact nd
    · exact lk_mapPut l h z
  · refine ⟨l ++ [(x, y)], putK_kvI h, by simp, fun nd => ?_, fun z => ?_⟩
    · rw [List.map_append, List.nodup_append]
      refine ⟨nd, by simp, fun a ha b hb e => ?_⟩
      simp at hb
      subst hb
      exact h (e ▸ ha)
    · rw [lk_append]
      by_cases hz : z = x
      · subst hz; rw [lk_none h]; simp [lk]
      · have hz' : ¬ x = z := fun q => hz q.symm
        cases lk l z <;> simp [lk, hz, hz']
end U
namespace U
open PySem PySem.Spec PyProof.Rows L2
section
variable {J : It} {n : Nat} {G : Hp → Prop} {Y : Nat → Hp → V → Hp → Prop}
/-- a dict comprehension over a walk -/
theorem dc_it (w : Walk J n G Y) {g : TG} {tt : TT} {tk tv : TE} {vs : List Nat} {σ : L2.St} {H1 : Hp} {D : Addr} {Qd : Hp → Prop} (Pv : Nat → Hp → Prop) (h0 : Pv 0 (upd H1 D (.dK []))) (hG : ∀ i H, i ≤ n → Pv i H → G H)
    (hs : ∀ i x H H', i < n → Pv i H → Y i H x H' → g x (wipe σ vs) H' fun σ2 H2 => wipe σ2 vs = wipe σ vs ∧ tt σ2 H2 fun b H3 =>
      if b = true then tk σ2 H3 fun y H4 => tv σ2 H4 fun z H5 => ∃ kvs k, y = kV k ∧ H5 D = some (.dK kvs) ∧ kvs.length < sizeLine ∧ Pv (i + 1) (upd H5 D (.dK (putK kvs k z))) else Pv (i + 1) H3) (hd : ∀ H, Pv n H → Qd H) :
    ∃ W : Nat → Nat → Hp → Prop, (∃ m, W 0 m (upd H1 D (.dK []))) ∧ ∀ i m H, W i m H →
      (J.stop i H ∧ Qd H) ∨ (J.go i H ∧ ∃ Nx : Hp → Prop, (∀ H', Nx H' → ∃ m', m' < m ∧ W (i + 1) m' H') ∧ ∀ x H', J.yld i H x H' → g x (wipe σ vs) H' fun σ2 H2 => wipe σ2 vs = wipe σ vs ∧ tt σ2 H2 fun b H3 =>
        if b = true then tk σ2 H3 fun y H4 => tv σ2 H4 fun z H5 => ∃ kvs k, y = kV k ∧ H5 D = some (.dK kvs) ∧ kvs.length < sizeLine ∧ Nx (upd H5 D (.dK (putK kvs k z))) else Nx H3) := by
  refine ⟨fun i m H => m = n - i ∧ i ≤ n ∧ Pv i H, ⟨n, by simp, Nat.zero_le _, h0⟩, ?_⟩
  rintro i m H ⟨rfl, hi, p⟩
  have q := hG i H hi p
  by_cases hlt : i < n
  · exact .inr ⟨w.goes i H hlt q, Pv (i + 1), fun H' p' => ⟨n - (i + 1), by omega, rfl, hlt, p'⟩, fun x H' y => hs i x H H' hlt p (w.yields i H x H' hlt q y)⟩
  · have e : i = n := by omega
    subst e
    exact .inl ⟨w.stops H q, hd H p⟩
end
/-- what a comprehension over pairs makes -/
def madeD (c : Int → Int → Bool) (kf : Int → Int → Int) (vf : Int → Int → V) (l : List (Int × Int)) : List (Key × V) := (l.filter fun p => c p.1 p.2).map fun p => (Sum.inl (kf p.1 p.2), vf p.1 p.2)
theorem take_more {α : Type} {l : List α} {i : Nat} {x : α} (h : l[i]? = some x) : l.take (i + 1) = l.take i ++ [x] := by
  rw [List.take_add_one, h]; rfl
theorem valV_none {kvs : List (Key × V)} {k : Key} (h : k ∉ kvs.map (·.1)) : valV kvs k = none := by
  unfold valV
  rw [List.find?_eq_none.mpr]
  · rfl
  · intro p hp
    simp only [decide_eq_true_eq]
    exact fun e => h (List.mem_map.mpr ⟨p, hp, e⟩)
theorem madeD_step {c : Int → Int → Bool} {kf : Int → Int → Int} {vf : Int → Int → V} {l : List (Int × Int)} {i : Nat} {x y : Int} (h : l[i]? = some (x, y)) (nd : ((madeD c kf vf l).map (·.1)).Nodup) (hc : c x y = true) :
    putK (madeD c kf vf (l.take i)) (Sum.inl (kf x y)) (vf x y) = madeD c kf vf (l.take (i + 1)) := by
  have e : madeD c kf vf (l.take (i + 1)) = madeD c kf vf (l.take i) ++ [(Sum.inl (kf x y), vf x y)] := by
    rw [take_more h]
    unfold madeD
    rw [List.filter_append, List.map_append]
    simp [hc]
  have e2 : madeD c kf vf l = madeD c kf vf (l.take (i + 1)) ++ madeD c kf vf (l.drop (i + 1)) := by
    unfold madeD
    rw [← List.map_append, ← List.filter_append, List.take_append_drop]
  rw [e2, e, List.map_append, List.map_append] at nd
  have nd1 := (List.nodup_append.mp nd).1
  have nin : (Sum.inl (kf x y) : Key) ∉ (madeD c kf vf (l.take i)).map (·.1) := by
    intro hm
    exact (List.nodup_append.mp nd1).2.2 _ hm _ (by simp) rfl
  rw [putK_new _ (valV_none nin), e]
theorem madeD_skip {c : Int → Int → Bool} {kf : Int → Int → Int} {vf : Int → Int → V} {l : List (Int × Int)} {i : Nat} {x y : Int} (h : l[i]? = some (x, y)) (hc : c x y = false) :
    madeD c kf vf (l.take (i + 1)) = madeD c kf vf (l.take i) := by
  rw [take_more h]
  unfold madeD
  rw [List.filter_append, List.map_append]
  simp [hc]
theorem madeD_len (c : Int → Int → Bool) (kf : Int → Int → Int) (vf : Int → Int → V) (l : List (Int × Int)) (i : Nat) : (madeD c kf vf (l.take i)).length ≤ l.length := by
  unfold madeD
  rw [List.length_map]
  exact Nat.le_trans (List.length_filter_le _ _) (by rw [List.length_take]; omega)
/-- {k: v for x, y in d.items() if ..}, the tests and parts reading alone -/
theorem dc_items {K : PySem.W.Frag} {d : Addr} {l : List (Int × Int)} {te : TE} {i j : Nat} {tt : TT} {tk tv : TE} {vs : List Nat} {σ : L2.St} {H : Hp} {Q : VK} (c : Int → Int → Bool) (kf : Int → Int → Int) (vf : Int → Int → V)
    (hd : H d = some (.dK (kvI l))) (hte : ∀ H' (R : VK), R (.ref d) H' → Off d H H' → te σ H' R)
    (hw : ∀ a b, wipe (((wipe σ vs).set i a).set j b) vs = wipe σ vs)
    (hb : ∀ x y, (x, y) ∈ l → ∀ H1, Off d H H1 → (∀ R : Bool → Hp → Prop, R (c x y) H1 → tt (((wipe σ vs).set i (some (.int x))).set j (some (.int y))) H1 R) ∧
      (c x y = true → (∀ R : VK, R (.int (kf x y)) H1 → tk (((wipe σ vs).set i (some (.int x))).set j (some (.int y))) H1 R) ∧ ∀ R : VK, R (vf x y) H1 → tv (((wipe σ vs).set i (some (.int x))).set j (some (.int y))) H1 R))
    (nd : ((madeD c kf vf l).map (·.1)).Nodup) (hz : l.length < sizeLine)
    (hq : ∀ D H', H D = none → H' D = some (.dK (madeD c kf vf l)) → L2.Same H H' → Q (.ref D) H') :
    tLockE (tDc (iItems te) (gTup K 2 (gCons (gName i) (gCons (gName j) gNil))) tt tk tv vs) σ H Q := by
  refine ⟨d, _, hd, trivial, fun od => ?_⟩
  refine hte _ _ ⟨d, od, kvI l, rfl, upd_same, fun D hD => ?_⟩ Off.lock
  have hDd : D ≠ d := fun e => by rw [e, upd_same] at hD; cases hD
  have hD0 : H D = none := by rw [upd_ne hDd] at hD; exact hD
  refine dc_it walk_items (fun k H' => H' d = some (.frz od (.dK (kvI l))) ∧ Off d H H' ∧ H' D = some (.dK (madeD c kf vf (l.take k)))) ⟨?_, Off.lock.mut hD0, upd_same⟩ (fun k H' _ p => p.1) ?_ ?_
  · rw [upd_ne hDd.symm]; exact upd_same
  · rintro k v H' H'' hk ⟨p1, p2, p3⟩ ⟨T, a, b, rfl, hT, rfl, e1, e2⟩
    rw [kvI_length] at hk
    obtain ⟨⟨x, y⟩, exy⟩ : ∃ p, l[k]? = some p := ⟨_, List.getElem?_eq_getElem hk⟩
    have ek : (kvI l)[k]? = some (Sum.inl x, V.int y) := by unfold kvI; rw [List.getElem?_map, exy]; rfl
    dsimp only at e1 e2
    rw [ek] at e1 e2
    cases e1; cases e2
    have nTd : d ≠ T := ne_of_none p1 hT
    have nTD : D ≠ T := ne_of_none p3 hT
    refine ⟨T, [.int x, .int y], rfl, SqT.of upd_same, rfl, .int x, [.int y], rfl, .int y, [], rfl, rfl, ?_⟩
    refine ⟨hw _ _, ?_⟩
    have o2 : Off d H (upd H' T (.tup [.int x, .int y])) := p2.tr (Off.new hT)
    obtain ⟨b1, b2⟩ := hb x y (List.mem_of_getElem? exy) _ o2
    refine b1 _ ?_
    have d3 : (upd H' T (.tup [.int x, .int y])) d = some (.frz od (.dK (kvI l))) := by rw [upd_ne nTd]; exact p1
    have D3 : (upd H' T (.tup [.int x, .int y])) D = some (.dK (madeD c kf vf (l.take k))) := by rw [upd_ne nTD]; exact p3
    cases hc : c x y with
    | true =>
      refine iteT ?_
      obtain ⟨b3, b4⟩ := b2 hc
      refine b3 _ (b4 _ ⟨_, Sum.inl (kf x y), rfl, D3, Nat.lt_of_le_of_lt (madeD_len ..) hz, ?_⟩)
      refine ⟨?_, o2.mut hD0, ?_⟩
      · rw [upd_ne hDd.symm]; exact d3
      · rw [upd_same, madeD_step exy nd hc]
    | false =>
      refine iteF ⟨d3, o2, ?_⟩
      rw [madeD_skip exy hc]
      exact D3
  · rintro H' ⟨p1, p2, p3⟩
    rw [kvI_length, List.take_length] at p3
    refine ⟨p1, hq D _ hD0 ?_ (p2.back hd)⟩
    rw [upd_ne hDd]
    exact p3

/-- {k: v for x in range(lo, ..) if ..} -/
def madeR (c : Int → Bool) (kf : Int → Int) (vf : Int → V) (n : Nat) : List (Key × V) := ((List.range n).filter fun (i : Nat) => c (i : Int)).map fun (i : Nat) => ((Sum.inl (kf (i : Int)) : Key), vf (i : Int))
theorem madeR_succ (c : Int → Bool) (kf : Int → Int) (vf : Int → V) (n : Nat) : madeR c kf vf (n + 1) = madeR c kf vf n ++ (if c (n : Int) = true then [((Sum.inl (kf (n : Int)) : Key), vf (n : Int))] else []) := by
  unfold madeR
  rw [List.range_succ, List.filter_append, List.map_append]
  by_cases h : c (n : Int) = true
  · simp [h]
  · have h' : c (n : Int) = false := by simpa using h
    simp [h']
theorem madeR_len (c : Int → Bool) (kf : Int → Int) (vf : Int → V) (n : Nat) : (madeR c kf vf n).length ≤ n := by
  unfold madeR
  rw [List.length_map]
  exact Nat.le_trans (List.length_filter_le _ _) (by simp)
theorem madeR_keys {c : Int → Bool} {vf : Int → V} {n k : Nat} (h : (Sum.inl (k : Int) : Key) ∈ (madeR c (fun x => x) vf n).map (·.1)) : k < n := by
  unfold madeR at h
  rw [List.map_map] at h
  obtain ⟨i, hi, e⟩ := List.mem_map.mp h
  have h1 := (List.mem_filter.mp hi).1
  rw [List.mem_range] at h1
  have : (i : Int) = (k : Int) := Sum.inl.inj e
  omega
theorem dc_range {wi : TI} {i : Nat} {tt : TT} {tk tv : TE} {vs : List Nat} {σ : L2.St} {H0 H : Hp} {Q : VK} {n : Nat} (c : Int → Bool) (vf : Int → V) (hwi : ∀ R : It → Hp → Prop, R (Itr 0 n) H → wi σ H0 R)
    (hw : ∀ a, wipe ((wipe σ vs).set i a) vs = wipe σ vs)
    (hb : ∀ k : Nat, k < n → ∀ H1, L2.Same H H1 → (∀ R : Bool → Hp → Prop, R (c (k : Int)) H1 → tt ((wipe σ vs).set i (some (.int (0 + (k : Nat))))) H1 R) ∧
      (c (k : Int) = true → (∀ R : VK, R (.int (k : Int)) H1 → tk ((wipe σ vs).set i (some (.int (0 + (k : Nat))))) H1 R) ∧ ∀ R : VK, R (vf (k : Int)) H1 → tv ((wipe σ vs).set i (some (.int (0 + (k : Nat))))) H1 R))
    (hz : n < sizeLine) (hq : ∀ D H', H D = none → H' D = some (.dK (madeR c (fun x => x) vf n)) → L2.Same H H' → Q (.ref D) H') :
    tDc wi (gName i) tt tk tv vs σ H0 Q := by
  refine hwi _ ?_
  intro D hD
  refine dc_it walk_range (fun k H' => L2.Same H H' ∧ H' D = some (.dK (madeR c (fun x => x) vf k))) ⟨Same.new hD, upd_same⟩ (fun _ _ _ _ => trivial) ?_ ?_
  · rintro k v H' H'' hk ⟨p1, p2⟩ ⟨rfl, rfl⟩
    refine ⟨hw _, ?_⟩
    obtain ⟨b1, b2⟩ := hb k hk _ p1
    refine b1 _ ?_
    cases hc : c (k : Int) with
    | true =>
      refine iteT ?_
      obtain ⟨b3, b4⟩ := b2 hc
      refine b3 _ (b4 _ ⟨_, Sum.inl (k : Int), rfl, p2, Nat.lt_of_le_of_lt (madeR_len ..) (Nat.lt_trans hk hz), ?_, ?_⟩)
      · intro b o e
        rw [upd_ne (ne_of_none e hD)]
        exact p1 b o e
      · rw [upd_same, putK_new _ (valV_none fun z => Nat.lt_irrefl _ (madeR_keys z)), madeR_succ, if_pos hc]
    | false =>
      refine iteF ⟨p1, ?_⟩
      rw [madeR_succ, hc, p2]
      simp
  · rintro H' ⟨p1, p2⟩
    exact hq D _ hD p2 p1
end U
namespace U
open PySem PySem.Spec PyProof.Rows L2
section
variable {X : Cx}
theorem sw_dict {kx vx : Expr} {gs : List Comprehension} {scope : Scope} {pos py : Pos} {y : Str} {l : Nat} {env : Env} (hk : env.scope.kind = .function) (hy : env.scope.names.lookup y = some .local) (hl : (py.line == pos.line) = true)
    (ha : (scope.names.any fun (n, k) => n == y && (k == .local || k == .cell)) = false) : swapsWith (.DictComp kx vx gs scope pos) (some (.Name y py)) l env = pure true := by
  have ky : env.kindOf y = some .local := hy
  have hb : env.blockKind = .function := by unfold Env.blockKind; rw [hk]; rfl
  unfold swapsWith
  simp only [hb, ky, ha, Expr.pos, hl]
  rfl
/-- name = {..} on one line, the name a local -/
theorem ps_setDc {i : Nat} {y : Str} {py : Pos} {kx vx tg iter : Expr} {ifs : List Expr} {scope : Scope} {own : List (Str × Nat)} {pos spos : Pos} {wi : TI} {g : TG} {tt : TT} {tk tv : TE} (hc : X.calm = true) (hN : X.N.Nodup) (hy : X.N[i]? = some y) (hyl : X.env.scope.names.lookup y = some .local)
    (hsw : swapsWith (.DictComp kx vx [⟨tg, iter, ifs, 0⟩] scope pos) (some (.Name y py)) spos.line X.env = pure true) (hi : PI X tg iter wi) (ok : BlkOk X.N X.env.scope scope own)
    (hg : ∀ (s : Shared) (H : Hp) (C : Addr) (cl : List (Str × Addr)) (fp : List Addr), PG (X.blk s H scope (compEnvC scope cl C X.env) fp) tg g) (ht : ∀ (s : Shared) (H : Hp) (C : Addr) (cl : List (Str × Addr)) (fp : List Addr), PTs (X.blk s H scope (compEnvC scope cl C X.env) fp) ifs tt)
    (hk : ∀ (s : Shared) (H : Hp) (C : Addr) (cl : List (Str × Addr)) (fp : List Addr), PE (X.blk s H scope (compEnvC scope cl C X.env) fp) kx tk)
    (he : ∀ (s : Shared) (H : Hp) (C : Addr) (cl : List (Str × Addr)) (fp : List Addr), PE (X.blk s H scope (compEnvC scope cl C X.env) fp) vx tv) (hs : ∀ x, foldedSetIterable iter X.env x = pure x := by intro _; rfl) :
    PS X (.Assign [.Name y py] (.DictComp kx vx [⟨tg, iter, ifs, 0⟩] scope pos) spos) (tAsg (tDc wi g tt tk tv (own.map (·.2))) (gName i)) := by
  refine ⟨fun pins s σ H D I h => ?_⟩
  rw [exec_Assign_Name_used _ _ _ _ hsw]
  refine wpAny_bind (wpAny_standAt (wpAny_bind ?_))
  show wpAny _ X.A (do let _ ← comprehension (.DictComp kx vx [⟨tg, iter, ifs, 0⟩] scope pos) scope X.env (firstIterPos [⟨tg, iter, ifs, 0⟩] pos) newDict false (eval iter X.env) (some (assign (.Name y py) X.env))) _ _ s
  have h : tDc wi g tt tk tv (own.map (·.2)) σ H (fun x H1 => gName i x σ H1 D.nx) := h
  refine wpAny_bind (thn (dc_core (Qf := fun _ s' => SP X pins D .next s') hc hN I hi ok hg ht hk he hs h fun L C s' m H' I' q hn f => ?_) fun _ s' hq => wpAny_pure (wpAny_pure hq))
  show wpAny _ _ (assign (.Name y py) X.env (.ref L)) _ _ _
  refine wpAny_assign_Name (store_ok2 (v := V.ref L) I' hN hy (.inl hyl) rfl (fun s2 I2 ⟨a, sb, ha⟩ => ?_) (.inr hyl))
  obtain ⟨f0, f1, f2, f3, f4, f5⟩ := f
  have haC : C ≠ a := by
    rcases ha with z | z
    · rw [z]; exact f1
    · exact fun e => f4 y a z e.symm
  refine ⟨m, hn.sameBut sb haC, fun h3 sb3 => ?_⟩
  exact ⟨_, H', I2.turned (t' := s2.toks) (fun b o hb e => (sb3.2 b hb).trans e) f0 f1 f3 f4 f5, q⟩
end
/-- x = e under the lock -/
theorem lock_asg {t : TE} {D : Ends} {σ : L2.St} {H : Hp} {i : Nat} (h : tLockE t σ H (fun v H' => D.nx (σ.set i (some v)) H')) : tLock (tAsg t (gName i)) D σ H := h
/-- [v for x, y in d.items() if ..], the tests and parts reading alone -/
def madeL (c : Int → Int → Bool) (vf : Int → Int → V) (l : List (Int × Int)) : List V := (l.filter fun p => c p.1 p.2).map fun p => vf p.1 p.2
theorem madeL_step {c : Int → Int → Bool} {vf : Int → Int → V} {l : List (Int × Int)} {i : Nat} {x y : Int} (h : l[i]? = some (x, y)) :
    madeL c vf (l.take (i + 1)) = madeL c vf (l.take i) ++ (if c x y = true then [vf x y] else []) := by
  rw [take_more h]
  unfold madeL
  rw [List.filter_append, List.map_append]
  by_cases hc : c x y = true
  · simp [hc]
  · have hc' : c x y = false := by simpa using hc
    simp [hc']
theorem madeL_len (c : Int → Int → Bool) (vf : Int → Int → V) (l : List (Int × Int)) (i : Nat) : (madeL c vf (l.take i)).length ≤ l.length := by
  unfold madeL
  rw [List.length_map]
  exact Nat.le_trans (List.length_filter_le _ _) (by rw [List.length_take]; omega)
theorem lc_items {K : PySem.W.Frag} {d : Addr} {l : List (Int × Int)} {te : TE} {i j : Nat} {tt : TT} {tv : TE} {vs : List Nat} {σ : L2.St} {H : Hp} {Q : VK} (c : Int → Int → Bool) (vf : Int → Int → V)
    (hd : H d = some (.dK (kvI l))) (hte : ∀ H' (R : VK), R (.ref d) H' → Off d H H' → te σ H' R)
    (hw : ∀ a b, wipe (((wipe σ vs).set i a).set j b) vs = wipe σ vs)
    (hb : ∀ x y, (x, y) ∈ l → ∀ H1, Off d H H1 → (∀ R : Bool → Hp → Prop, R (c x y) H1 → tt (((wipe σ vs).set i (some (.int x))).set j (some (.int y))) H1 R) ∧
      (c x y = true → ∀ R : VK, R (vf x y) H1 → tv (((wipe σ vs).set i (some (.int x))).set j (some (.int y))) H1 R))
    (hz : l.length < sizeLine)
    (hq : ∀ D H', H D = none → H' D = some (.lst (madeL c vf l)) → L2.Same H H' → Q (.ref D) H') :
    tLockE (tLc (iItems te) (gTup K 2 (gCons (gName i) (gCons (gName j) gNil))) tt tv vs) σ H Q := by
  refine ⟨d, _, hd, trivial, fun od => ?_⟩
  refine hte _ _ ⟨d, od, kvI l, rfl, upd_same, fun D hD => ?_⟩ Off.lock
  have hDd : D ≠ d := fun e => by rw [e, upd_same] at hD; cases hD
  have hD0 : H D = none := by rw [upd_ne hDd] at hD; exact hD
  refine lc_it walk_items (fun k H' => H' d = some (.frz od (.dK (kvI l))) ∧ Off d H H' ∧ H' D = some (.lst (madeL c vf (l.take k)))) ⟨?_, Off.lock.mut hD0, upd_same⟩ (fun k H' _ p => p.1) ?_ ?_
  · rw [upd_ne hDd.symm]; exact upd_same
  · rintro k v H' H'' hk ⟨p1, p2, p3⟩ ⟨T, a, b, rfl, hT, rfl, e1, e2⟩
    rw [kvI_length] at hk
    obtain ⟨⟨x, y⟩, exy⟩ : ∃ p, l[k]? = some p := ⟨_, List.getElem?_eq_getElem hk⟩
    have ek : (kvI l)[k]? = some (Sum.inl x, V.int y) := by unfold kvI; rw [List.getElem?_map, exy]; rfl
    dsimp only at e1 e2
    rw [ek] at e1 e2
    cases e1; cases e2
    have nTd : d ≠ T := ne_of_none p1 hT
    have nTD : D ≠ T := ne_of_none p3 hT
    refine ⟨T, [.int x, .int y], rfl, SqT.of upd_same, rfl, .int x, [.int y], rfl, .int y, [], rfl, rfl, ?_⟩
    refine ⟨hw _ _, ?_⟩
    have o2 : Off d H (upd H' T (.tup [.int x, .int y])) := p2.tr (Off.new hT)
    obtain ⟨b1, b2⟩ := hb x y (List.mem_of_getElem? exy) _ o2
    refine b1 _ ?_
    have d3 : (upd H' T (.tup [.int x, .int y])) d = some (.frz od (.dK (kvI l))) := by rw [upd_ne nTd]; exact p1
    have D3 : (upd H' T (.tup [.int x, .int y])) D = some (.lst (madeL c vf (l.take k))) := by rw [upd_ne nTD]; exact p3
    have st := madeL_step (c := c) (vf := vf) exy
    cases hc : c x y with
    | true =>
      rw [hc, if_pos rfl] at st
      refine iteT (b2 hc _ ⟨_, D3, Nat.lt_of_le_of_lt (madeL_len ..) hz, ?_⟩)
      refine ⟨?_, o2.mut hD0, ?_⟩
      · rw [upd_ne hDd.symm]; exact d3
      · rw [upd_same, st]
    | false =>
      rw [hc, if_neg Bool.false_ne_true, List.append_nil] at st
      refine iteF ⟨d3, o2, ?_⟩
      rw [st]
      exact D3
  · rintro H' ⟨p1, p2, p3⟩
    rw [kvI_length, List.take_length] at p3
    refine ⟨p1, hq D _ hD0 ?_ (p2.back hd)⟩
    rw [upd_ne hDd]
    exact p3
end U
/-! ### own errors over any built-in error -/
namespace PySem
namespace GEX
open PySem.W PySem.Calls PyProof.Rows PySem.HandSPX Builtin Builtin.ObjectAttr
section
variable {prog : Program} {w : World} {A : Around} {E : Value → Shared → Prop} {R : Result → Shared → Prop} {hp : Heap} {gs : Array GenState} {dr : Drawn} {tn : Nat} {os : OsState}
/-- what is asked of the class's chain -/
structure Mro (m : List Value) : Prop where
  ob : m.contains (.type "object") = true
  ne : m.isEmpty = false
  ps : ∀ self : Value, refuseLoop self "__setattr__" m = pure ()
theorem mro_of {bmB bm : List Value} {B : String} (SF : StoreFacts B bmB "object.__setattr__" "object") (h : excTail bmB bm = true) (C : Addr) : Mro (.ref C :: bm) := by
  have h' : excTail bmB (.ref C :: bm) = true := h
  exact ⟨(excTail_contains "object" _ h').trans SF.hasOwner, rfl, fun self => excTail_pass self (SF.passes self) _ h'⟩
theorem osa_first {K : Frag} {nm : Str} {tk : Tok} {v : Value} {x C : Addr} {fv : Array Value} {cd : ClassData} (X : K.In hp) (hx : hp.get? x = some { cls := .ref C, data := .fields fv }) (hcd : clsIn K C = some cd) (hm : Mro cd.mro) (hh : cd.hasDict = true) (ha : findIn K (.ref C) nm = some none)
    (hq : ∀ h' tk' dx, (∀ b o, b ≠ x → hp.get? b = some o → h'.get? b = some o) → hp.objs.size ≤ dx → dx ≠ x → h'.get? x = some { cls := .ref C, dict := some dx, data := .fields fv } → h'.Ns1 dx (fun y => if y = nm then some v else none) → R (.ok (.ret .none)) ⟨h', gs, dr, tk', os⟩) :
    codeAny (model prog w) A (.call (.builtin "object.__setattr__") ⟨[.ref x, .str nm tk, v], []⟩) R ⟨hp, gs, dr, tn, os⟩ := by
  have I : InstAt hp x { cls := .ref C, data := .fields fv } C none := ⟨hx, rfl, rfl, trivial⟩
  have hxs : x ≠ hp.objs.size := Nat.ne_of_lt (Heap.lt_size hx)
  have S0 := F.store_object
  have l1 : Looks (model prog w) hp (isInstance (.ref x) (.type "object")) true := I.type.andThen (looks_mroIn X (by unfold mroIn; rw [hcd, Option.bind_some, if_neg (by rw [hm.ne]; decide), hm.ob]))
  refine codeAny_call_builtin S0.slot.plain S0.entry ?_
  refine @check_slot (model prog w) _ _ ⟨hp, gs, dr, tn, os⟩ "object.__setattr__" "object" "__setattr__" (.ref x) [.str nm tk, v] [] _ S0.kind S0.split l1 (S0.args (.ref x) (.str nm tk) v) ?_
  have l2 : Looks (model prog w) hp (mroOf (.ref C)) cd.mro := (looks_clsIn X hcd).andThen .now
  have l3 : Looks (model prog w) hp (storeTaker? none) none := .now
  have l4 : Looks (model prog w) hp (classData C) cd := looks_clsIn X hcd
  rw [osa_eq, refuse_eq]
  refine wpAny_bind (wpAny_bind (I.type.at (wpAny_bind (l2.at ?_)))); rw [hm.ps]
  refine wpAny_pure (wpAny_bind (I.type.at (wpAny_bind ((looks_findIn X ha).at (wpAny_bind (l3.at ?_))))))
  show wpAny _ _ (storeInOwnDict (.ref x) (.ref C) (.str nm tk) nm v false) _ _ _
  obtain ⟨c1, c2, c3, c4, c5, c6, c7, c8, c9, c10, c11⟩ := cd
  have hh' : c6 = true := hh
  subst hh'
  unfold storeInOwnDict ownDictForStores
  repeat (first | with_reducible refine HandSPX.store_in_new ?_ ?_ | with_reducible refine wpAny_loadPart_at hx ?_ | with_reducible refine l4.at ?_ | wp_step)
  · refine ⟨_, #[], _, (Heap.get?_update_ne _ _ _ _ hxs.symm).trans (Heap.get?_push_at rfl rfl), rfl, fun e he => ?_, fun _ => rfl⟩
    simp at he
  · intro h' tk' hn' hs
    have hx1 : (hp.push { cls := .type "dict", data := .dict #[] }).get? x = some { cls := .ref C, data := .fields fv } := Heap.get?_push_of_some _ hx
    exact hq h' tk' hp.objs.size (fun b o hb ho => (hs.2 b (Nat.ne_of_lt (Heap.lt_size ho))).trans ((Heap.get?_update_ne _ _ _ _ hb).trans (Heap.get?_push_of_some _ ho))) (Nat.le_refl _) hxs.symm ((hs.2 x hxs).trans (Heap.get?_update_self _ hx1 rfl)) hn'
theorem osa_more {K : Frag} {nm : Str} {tk : Tok} {v : Value} {x C dx : Addr} {fv : Array Value} {cd : ClassData} {m0 : Str → Option Value} {nl : List Str} (X : K.In hp) (hx : hp.get? x = some { cls := .ref C, dict := some dx, data := .fields fv }) (hns : hp.Ns1 dx m0) (hw : Within m0 nl) (hz : nl.length ≤ 1000) (hcd : clsIn K C = some cd) (hm : Mro cd.mro) (hh : cd.hasDict = true) (ha : findIn K (.ref C) nm = some none)
    (hq : ∀ h' tk', (∀ b o, b ≠ dx → hp.get? b = some o → h'.get? b = some o) → h'.Ns1 dx (fun y => if y = nm then some v else m0 y) → R (.ok (.ret .none)) ⟨h', gs, dr, tk', os⟩) :
    codeAny (model prog w) A (.call (.builtin "object.__setattr__") ⟨[.ref x, .str nm tk, v], []⟩) R ⟨hp, gs, dr, tn, os⟩ := by
  obtain ⟨oD, _, _, hoD, _, _⟩ := hns.count hw
  have I : InstAt hp x { cls := .ref C, dict := some dx, data := .fields fv } C (some oD) := ⟨hx, rfl, rfl, hoD⟩
  have S0 := F.store_object
  have l1 : Looks (model prog w) hp (isInstance (.ref x) (.type "object")) true := I.type.andThen (looks_mroIn X (by unfold mroIn; rw [hcd, Option.bind_some, if_neg (by rw [hm.ne]; decide), hm.ob]))
  refine codeAny_call_builtin S0.slot.plain S0.entry ?_
  refine @check_slot (model prog w) _ _ ⟨hp, gs, dr, tn, os⟩ "object.__setattr__" "object" "__setattr__" (.ref x) [.str nm tk, v] [] _ S0.kind S0.split l1 (S0.args (.ref x) (.str nm tk) v) ?_
  have l2 : Looks (model prog w) hp (mroOf (.ref C)) cd.mro := (looks_clsIn X hcd).andThen .now
  have l3 : Looks (model prog w) hp (storeTaker? none) none := .now
  have l4 : Looks (model prog w) hp (classData C) cd := looks_clsIn X hcd
  rw [osa_eq, refuse_eq]
  refine wpAny_bind (wpAny_bind (I.type.at (wpAny_bind (l2.at ?_)))); rw [hm.ps]
  refine wpAny_pure (wpAny_bind (I.type.at (wpAny_bind ((looks_findIn X ha).at (wpAny_bind (l3.at ?_))))))
  show wpAny _ _ (storeInOwnDict (.ref x) (.ref C) (.str nm tk) nm v false) _ _ _
  obtain ⟨c1, c2, c3, c4, c5, c6, c7, c8, c9, c10, c11⟩ := cd
  have hh' : c6 = true := hh
  subst hh'
  unfold storeInOwnDict ownDictForStores
  repeat (first | with_reducible refine OEX.store_in_old hns hw hz ?_ | with_reducible refine wpAny_loadPart_at hx ?_ | with_reducible refine l4.at ?_ | wp_step)
  intro h' tk' hn' hs
  exact hq h' tk' (fun b o hb ho => (hs.2 b hb).trans ho) hn'
end
end GEX
end PySem
namespace L2
open PySem PySem.Spec PyProof.Rows PySem.W
/-- what the written part says of an own error class -/
structure OexG (K : PySem.W.Frag) (C : Addr) : Prop where
  cls : ∃ B newId initId bmB nm q N bs bm sn sub ab col dd k0 k1 k2 k3 k5, PySem.StoreFacts B bmB "object.__setattr__" "object" ∧ ExcBaseFacts B newId initId bmB ∧ K.lookup C = some (excClassObj nm q C N bs bm true sn sub ab col dd k0 k1 k2 k3 k5 newId) ∧ PySem.W.excTail bmB bm = true
  sa : PySem.W.findIn K (.ref C) "__setattr__" = some (some (.builtin "object.__setattr__"))
  exC : PySem.W.subIn K (.ref C) (.type "BaseException") = some true
  tyC : PySem.W.typeIn K (.ref C) = some (.type "type")
  kC : PySem.W.keepIn K (.ref C) = true
section
variable {X : Cx} {pins : List (Addr × Obj)} {σ : St} {H : Hp} {s : Shared} {a C dx : Addr} {f : Str} {y : V} {u : Value} {fs : List (Str × V)} {Q : Unit → Shared → Prop} {E : Value → Shared → Prop} {A : Around}
theorem OexG.look {K : PySem.W.Frag} {C : Addr} (T : OexG K C) : ∃ cd, PySem.W.clsIn K C = some cd ∧ PySem.GEX.Mro cd.mro ∧ cd.hasDict = true := by
  obtain ⟨B, nI, iI, bmB, nm, q, N, bs, bm, sn, sub, ab, col, dd, k0, k1, k2, k3, k5, SF, _, hC, hb⟩ := T.cls
  refine ⟨{ name := nm, bases := bs, mro := .ref C :: bm, ns := N, qualname := q, hasDict := true, slotNames := sn, subclasses := sub, abstract := ab, collection := col, hasDel := false }, ?_, PySem.GEX.mro_of SF hb C, rfl⟩
  unfold PySem.W.clsIn
  rw [hC] <;> rfl
/-- self.f = y, none there as yet -/
theorem ostG_new (T : OexG X.K C) (I : Inv X pins σ H s) (e : H a = some (exo a C none)) (hno : PySem.W.findIn X.K (.ref C) f = some none) (ry : RelV y u)
    (k : ∀ dx s', H dx = none → dx ≠ a → Inv X pins σ (upd (upd H dx (exd dx [(f, y)])) a (exo a C (some dx))) s' → Q () s') : wpAny (model X.prog X.w) A (setAttr (.ref a) f u) Q E s := by
  obtain ⟨cd, hcd, hmr, hdc⟩ := T.look
  obtain ⟨t1, ho⟩ := exo_at I.hok e
  obtain ⟨h0, gs, dr, tn, os⟩ := s
  refine PySem.W.set_plain I.kIn (ox := ⟨.ref C, none, .fields #[.ref t1, .none, .none, .none, .bool false, .none], #[]⟩) (od := none) ⟨ho, rfl, rfl, trivial⟩ T.sa ?_
  refine PySem.GEX.osa_first I.kIn ho hcd hmr hdc hno fun h' tk' dx kp dn dne hx hn => ?_
  have dfree : H dx = none := I.hok.fresh dn
  have low : ∀ {b : Addr} {o : Obj}, h0.get? b = some o → b ≠ dx := fun q => Nat.ne_of_lt (Nat.lt_of_lt_of_le (Heap.lt_size q) dn)
  have apart : ∀ {b : Addr}, H b = none → b ≠ a := fun {b} n z => by subst z; rw [e] at n; cases n
  have U1 : Un X.fs [] H (upd (upd H dx (exd dx [(f, y)])) a (exo a C (some dx))) h0 h' := by
    refine ⟨fun b o q n _ _ => kp b o (apart n) q, fun b o q n _ _ => ⟨o.slots, kp b o (apart n) q⟩, fun b o q n _ => ?_, fun b o q _ => ?_, fun b xs q => ?_, fun b o v q => ?_, fun b ps q => ⟨#[], ?_⟩⟩
    · rw [upd_ne (apart n), upd_ne (low q)]; exact n
    · by_cases hb : b = a
      · subst hb; exact ⟨_, hx⟩
      · exact ⟨o, kp b o hb q⟩
    · rw [upd_ne (at_ne e q exo_tup), upd_ne (ne_of_none q dfree)]; exact q
    · rw [upd_ne (at_ne e q exo_frz), upd_ne (ne_of_none q dfree)]; exact q
    · rw [upd_ne (at_ne e q exo_tbl), upd_ne (ne_of_none q dfree), q]; simp
  refine k dx _ dfree dne (I.un (t' := tk') U1 fun b o q => ?_)
  by_cases hb : b = a
  · subst hb; rw [upd_same] at q; cases q
    exact exo_ok hx
  · rw [upd_ne hb] at q
    by_cases hd : b = dx
    · subst hd; rw [upd_same] at q; cases q
      exact exd_ok hn (relO_put (fs := []) ry fun _ => True.intro)
    · rw [upd_ne hd] at q
      refine (I.hok b o q).stay (fun c v hc z => kp c v ?_ z) (fun c hc => ?_) (fun c xs hc => ?_)
      · rcases hc with rfl | hc
        · exact hb
        · exact at_ne e hc exo_own
      · rw [upd_ne (at_ne e hc exo_own), upd_ne (ne_of_none hc dfree)]; exact hc
      · rw [upd_ne (at_ne e hc exo_tup), upd_ne (ne_of_none hc dfree)]; exact hc
theorem ostG_old (T : OexG X.K C) (I : Inv X pins σ H s) (e : H a = some (exo a C (some dx))) (ed : H dx = some (exd dx fs)) (hl : fs.length ≤ 900) (hno : PySem.W.findIn X.K (.ref C) f = some none) (ry : RelV y u)
    (k : ∀ s', Inv X pins σ (upd H dx (exd dx ((f, y) :: fs))) s' → Q () s') : wpAny (model X.prog X.w) A (setAttr (.ref a) f u) Q E s := by
  obtain ⟨cd, hcd, hmr, hdc⟩ := T.look
  obtain ⟨t1, ho⟩ := exo_at I.hok e
  obtain ⟨mA, hns, rel⟩ := exd_at I.hok ed
  have win := within_of rel
  obtain ⟨oD, _, _, hoD, _, _⟩ := hns.count win
  obtain ⟨h0, gs, dr, tn, os⟩ := s
  refine PySem.W.set_plain I.kIn (ox := ⟨.ref C, some dx, .fields #[.ref t1, .none, .none, .none, .bool false, .none], #[]⟩) (od := some oD) ⟨ho, rfl, rfl, hoD⟩ T.sa ?_
  refine PySem.GEX.osa_more I.kIn ho hns win (by rw [List.length_map]; omega) hcd hmr hdc hno fun h' tk' kp hn => ?_
  have there : ∃ o, h'.get? dx = some o := by
    obtain ⟨o, _, _, e', _⟩ := hn
    exact ⟨o, e'⟩
  exact k _ (I.write (t' := tk') (x := dx) (e := dx) (o := exd dx ((f, y) :: fs)) (by rw [ed]; exact True.intro) (.inl rfl) kp there (exd_ok hn (relO_put ry rel)))
end
/-- self.f = e, self an error being made -/
def tOstG (K : PySem.W.Frag) (f : Str) (to te : TE) : TS := fun D σ H => te σ H fun y H1 => to σ H1 fun x H2 => ∃ a C : Addr, x = .ref a ∧ OexG K C ∧ PySem.W.findIn K (.ref C) f = some none ∧
  ((H2 a = some (exo a C none) ∧ ∀ dx, H2 dx = none → dx ≠ a → D.nx σ (upd (upd H2 dx (exd dx [(f, y)])) a (exo a C (some dx)))) ∨
    ∃ (dx : Addr) (fs : List (Str × V)), H2 a = some (exo a C (some dx)) ∧ H2 dx = some (exd dx fs) ∧ fs.length ≤ 900 ∧ D.nx σ (upd H2 dx (exd dx ((f, y) :: fs))))
section
variable {X : Cx} {o e : Expr} {es : List Expr} {to te : TE} {ta : TA} {f : Str} {p p' pos : Pos}
theorem ps_ostG (ho : PE X o to) (he : PE X e te) (hs : swapsWith e (some (.Attribute o f p')) pos.line X.env = pure false := by rfl) : PS X (.Assign [.Attribute o f p'] e pos) (tOstG X.K f to te) := by
  refine ⟨fun pins s σ H D I h => plainObj_wpAny_Assign_Attribute (thn (he.run pins s σ H _ I h) fun v s1 ⟨y, H1, I1, r1, q1⟩ => thn (ho.run pins s1 σ H1 _ I1 q1) fun u s2 ⟨x, H2, I2, r2, a, C, ex, T, hno, q⟩ => ?_) hs⟩
  subst ex
  cases (show u = Value.ref a from r2)
  rcases q with ⟨ea, q⟩ | ⟨dx, fs, ea, ed, hl, q⟩
  · exact ostG_new T I2 ea hno r1 fun dx _ n ne J => ⟨σ, _, J, q dx n ne⟩
  · exact ostG_old T I2 ea ed hl hno r1 fun _ J => ⟨σ, _, J, q⟩
/-- C(e, ..) -/
theorem pmk_oexG {CX : CXT} {x : Str} {C fI : Addr} {k : Nat} {sp : Sp} (T : OexG X.K C) (iC : PySem.W.findIn X.K (.ref C) "__init__" = some (some (.ref fI))) (tI : PySem.W.typeIn X.K (.ref fI) = some (.type "function"))
    (F1 : FnR X.prog X.w X.K X.mg X.base CX k fI sp) (hr : Room (k + 1) X.A) (hx : Passes CX X (fun _ _ _ => False)) (hg : Gl X x) (hm : X.mg x = some (.ref C)) (ha : PA X (e :: es) ta)
    (hdb : (x == ("__debug__" : Str)) = false := by decide) (he : starEach (e :: es) X.env = (false, eval e X.env) :: starEach es X.env := by rfl) (hpl : (backTo pos (starEach es X.env)).any (·.1) = false := by rfl) :
    PMk X (.Call (.Name x p) (e :: es) [] pos) (tMkO C sp [] ta) := by
  intro pins s σ H Q I h
  obtain ⟨B, nI, iI, bmB, nm, q, N, bs, bm, sn, sub, ab, col, dd, k0, k1, k2, k3, k5, _, BF, hC, hbm⟩ := T.cls
  refine wpAny_Call_Name_kw (ld_glob I hg hm ?_ hdb)
  refine PySem.W.callWith_K (h₀ := X.base) I.ok.mod.kin T.kC (thn (ha.run pos pins s σ H _ I h) fun us s1 ⟨vs, H1, I1, r1, hz, q1⟩ => ⟨I1.kIn, ?_⟩) he hpl
  show wpAny _ _ (call (.ref C) us) _ _ _
  obtain ⟨h0, gs, dr, tn, os⟩ := s1
  have up : h0.objs.size ≤ h0.objs.size + 1 := Nat.le_succ _
  have hq := q1 (h0.objs.size + 1) (I1.hok.fresh up)
  rw [List.append_nil] at hq
  have kk : ∀ b o, h0.get? b = some o → ((h0.push (PySem.W.kdv_tup us)).push (PySem.HandSPX.excO C h0.objs.size)).get? b = some o := fun b o z => Heap.get?_push_of_some _ (Heap.get?_push_of_some _ z)
  have there : ((h0.push (PySem.W.kdv_tup us)).push (PySem.HandSPX.excO C h0.objs.size)).get? (h0.objs.size + 1) = some (PySem.HandSPX.excO C h0.objs.size) := by heap_get
  have I2 : Inv X pins σ (upd H1 (h0.objs.size + 1) (exo (h0.objs.size + 1) C none)) ⟨(h0.push (PySem.W.kdv_tup us)).push (PySem.HandSPX.excO C h0.objs.size), gs, dr, tn, os⟩ := I1.laid (t' := tn) kk up (exo_ok there)
  have r2 : Vals (V.ref (h0.objs.size + 1) :: vs) (Value.ref (h0.objs.size + 1) :: us) := .cons rfl r1
  have hus : us.length ≤ sizeLine := by rw [← Paired.length r1, sizeLine_eq]; omega
  refine wpAny_call (PySem.HandSPX.call_own BF (fun Y => PySem.W.excTail_contains Y bm hbm) (I1.kIn _ _ hC) (PySem.W.looks_findIn I1.kIn iC) (fun self => PySem.W.bind_fn I1.kIn self tI) hus ?_)
  refine codeAny_mono (F1 _ X.stack _ _ (Value.ref (h0.objs.size + 1) :: us) _ _ (fun _ _ _ => False) (hr.make C us []) (I2.env0.make C us []) r2 hq) fun r s' hq' => ?_
  cases r with
  | error er => exact hx pins σ _ _ er s' I2 hq'
  | ok fl =>
    cases fl with
    | ret u =>
      obtain ⟨v, H2, os2, bare2, un2, hok2, rv, ev, d, fs, ea, ed, hd1, q2⟩ := hq'
      subst ev
      obtain ⟨h2, g2, d2, t2, os'⟩ := s'
      exact ⟨rv, mk_end (raises_own T.exC T.tyC) I1 up kk un2 hok2 os2 bare2 ea ed hd1 q2⟩
    | next => exact False.elim hq'
    | brk => exact False.elim hq'
    | cont => exact False.elim hq'
end
end L2
namespace U
open PySem PySem.Spec PyProof.Rows L2 StX
section
variable {P : Program} {w : World} {K : PySem.W.Frag} {mg : Str → Option Value} {base : Heap}
/-- a def that may raise -/
theorem FnAt.okX {x qual : Str} {st : Stmt} {f : Addr} {N ps : List Str} {k : Nat} {sp : Sp} (A : FnAt K x qual st f ps) (S : FnScope N ps (defScope st)) (len : ∀ vs H Q E, sp vs H Q E → vs.length = ps.length)
    (hbody : ∀ (cdv : Value) (A : Around) (outer : List Env) (s : Shared) (H : Hp) (vs : List V) (Q : VK) (E : XK), Room k (A.deeper (envOfC qual (defScope st) s.heap.objs.size f cdv)) → sp vs H Q E →
      ∃ t, PSs (cxOf (L2.CX P w) P w K mg base N qual (defScope st) f cdv A outer s H E) (defBody st) t ∧ t { nx := fun _ H' => Q .non H', rt := Q } (start N vs) H) : FnR P w K mg base (L2.CX P w) (k + 1) f sp := by
  obtain ⟨fd, F, B⟩ := A.ex
  have R := (F.okX (P := P) (w := w) (mg := mg) (base := base) S len hbody).raw B .nil
  exact R.imp fun vs H Q E h => by rw [List.append_nil]; exact h
end
section
variable {X : Cx} {CX : CXT} {pins : List (Addr × Obj)} {σ : L2.St} {H : Hp} {s : Shared} {a C dx p g f : Addr} {n k : Nat} {sp : Sp} {E : L2.St → XK} {v : V} {u : Value} {x : Str} {e ea eb : Expr} {es : List Expr} {ta tb : TE} {t : TA} {pp pos : Pos}
theorem run_RS {Q : VK} {us : List Value} {vs : List V} {E : XK} (F : FnR X.prog X.w X.K X.mg X.base CX k f sp) (hr : Room k X.A) (hx : PassesAt CX X σ E) (I : Inv X pins σ H s) (r : Vals vs us) (h : sp vs H Q E) :
    codeAny (model X.prog X.w) X.A (.call (.ref f) ⟨us, []⟩) (fun r s' => match r with | .ok (.ret v) => EP X pins σ Q v s' | .ok _ => False | .error e => X.xe e s') s := by
  refine codeAny_mono (F X.A X.stack s H us vs Q E hr I.env0 r h) fun z s' hq => ?_
  match z, hq with
  | .error er, hq => exact hx pins H s er s' I hq
  | .ok (.ret w), hq => exact I.after hq
  | .ok .next, hq => exact hq.elim
  | .ok .brk, hq => exact hq.elim
  | .ok .cont, hq => exact hq.elim
/-- x(e, ..), what it raises told by the slots -/
def tCallRS (sp : Sp) (E : L2.St → XK) (t : TA) : TE := fun σ H Q => t σ H fun vs H1 => sp vs H1 Q (E σ)
theorem pe_callRS (F : FnR X.prog X.w X.K X.mg X.base CX k f sp) (hr : Room k X.A) (hk : PySem.W.keepIn X.K (.ref f) = true) (hg : Gl X x) (hm : X.mg x = some (.ref f)) (hx : ∀ σ, PassesAt CX X σ (E σ)) (ha : PA X (e :: es) t) (hdb : (x == ("__debug__" : Str)) = false := by decide)
    (he : starEach (e :: es) X.env = (false, eval e X.env) :: starEach es X.env := by rfl) (hpl : (backTo pos (starEach es X.env)).any (·.1) = false := by rfl) : PE X (.Call (.Name x pp) (e :: es) [] pos) (tCallRS sp E t) := by
  refine ⟨fun pins s σ H Q I h => wpAny_Call_Name_kw (ld_glob I hg hm ?_ hdb)⟩
  refine PySem.W.callWith_K (h₀ := X.base) I.ok.mod.kin hk (thn (ha.run pos pins s σ H _ I h) fun us s1 ⟨vs, H1, I1, r, q⟩ => ⟨I1.kIn, wpAny_call (run_RS F hr (hx σ) I1 r q)⟩) he hpl
/-- x op y of an own class, what it raises told by the slots -/
def tBinS (C : Addr) (sp : Sp) (E : L2.St → XK) (ta tb : TE) : TE := fun σ H Q => ta σ H fun x H1 => tb σ H1 fun y H2 => rBin C sp (E σ) x y H2 Q
theorem pe_binS {op : Operator} (hc : PySem.W.selfFirst X.K C = true) (hs : PySem.W.findIn X.K (.ref C) (PySem.dunder op.info.2) = some (some (.ref g))) (hf : PySem.W.isFn X.K (.ref g) = true) (F : FnR X.prog X.w X.K X.mg X.base CX n g sp)
    (hr : Room n X.A) (hx : ∀ σ, PassesAt CX X σ (E σ)) (ha : PE X ea ta) (hb : PE X eb tb) : PE X (.BinOp ea op eb pos) (tBinS C sp E ta tb) := by
  refine ⟨fun pins s σ H Q I h => wpAny_BinOp (binT ha hb I h fun v u s2 x y H2 I2 rx ry q => ?_)⟩
  obtain ⟨a, dx, vs, b, dy, ws, rfl, rfl, ea, eb, q⟩ := q
  cases (show v = Value.ref a from rx)
  cases (show u = Value.ref b from ry)
  obtain ⟨ox, od, J⟩ := ins_inst I2 ea
  obtain ⟨oy, od', J'⟩ := ins_inst I2 eb
  obtain ⟨m, hF⟩ := I2.fr
  refine PySem.W.binop_K (op := op) hF I2.ok.mod.kin J J'.type hc hs hf ?_
  refine wpAny_mono (wpAny_call (run_RS (us := [.ref a, .ref b]) (vs := [.ref a, .ref b]) F hr (hx σ) I2 (.cons rfl (.cons rfl .nil)) q)) (fun w s' z => ?_) fun _ _ x => x
  obtain ⟨z', H', I', rz, qz⟩ := z
  exact SlX.cmpback rz ⟨z', H', I', rz, qz⟩
end
/-- isinstance(e, c), e the error that the suite holds, with its dict -/
def rIsG (K : PySem.W.Frag) (D a dd : Addr) : List V → Hp → VK → Prop := fun xs H Q => ∃ (c : V) (cv : Value) (b : Bool) (fs : List (Str × V)), xs = [.ref a, c] ∧ (∀ u, RelV c u → u = cv) ∧ PySem.W.kitOne K (.ref D) cv = some b ∧ H dd = some (.xd fs) ∧ Q (.bl b) H
theorem call_isG {X : Cx} {a D dd : Addr} {oe : Obj} {pn : List (Addr × Obj)} (C : ExcC X.K D) (hz : Zc (.ref D) (some dd) oe) (hf : ∃ vs, oe.data = .fields vs) : CallR (X.suite a ((a, oe) :: pn)) (.builtin "isinstance") (rIsG X.K D a dd) := by
  intro pins s σ H xs us Q I r h
  obtain ⟨c, cv, b, fs, rfl, hcv, e, ed, q⟩ := h
  match us, r with
  | [_, _], .cons rx (.cons rt .nil) =>
    cases rx
    cases hcv _ rt
    obtain ⟨there, _⟩ := I.pin (a, oe) (List.mem_append.mpr (.inl List.mem_cons_self))
    obtain ⟨vs, hv⟩ := hf
    obtain ⟨mA, hns, _⟩ := I.hok dd _ ed
    obtain ⟨od, ho, _⟩ := lookIn_ns hns
    have J : PySem.W.InstAt s.heap a oe D (some od) := ⟨there, hz.1, by unfold PySem.W.notCls; rw [hv] <;> rfl, by rw [hz.2]; exact ho⟩
    have hcl : (PySem.W.clsIn X.K D).isSome = true := by
      obtain ⟨cd, hc, _⟩ := PySem.W.any_some C.hd
      rw [hc]; rfl
    exact PySem.W.kia_one (PySem.W.kitx_exc hcl C.hg C.hk C.hs C.ha C.hn C.ht C.hm) I.kIn J e (fun z => nomatch z) fun tk => ⟨.bl b, H, I.kept (t' := tk) fun _ _ z => z, rfl, q⟩
end U
namespace U
open PySem PySem.Spec PyProof.Rows L2 StX
section
variable {X : Cx} {CX : CXT} {e : Expr} {es : List Expr} {te : TE} {t : TA} {p apos cpos pos : Pos} {k i : Nat} {f : Addr} {sp : Sp} {x : Str}
/-- d.update(e), two dicts -/
def rUpdD : V → List V → Hp → VK → Prop := fun x vs H Q => ∃ a b ks ls, x = .ref a ∧ vs = [.ref b] ∧ a ≠ b ∧ H a = some (.dK ks) ∧ H b = some (.dK ls) ∧ ks.length + ls.length ≤ sizeLine ∧ Q .non (upd H a (.dK (mergeK ks ls)))
theorem mt_updD : MtR X "dict.update" rUpdD := by
  intro pins s σ H x vs v us Q I rx rv h
  obtain ⟨a, b, ks, ls, rfl, rfl, hab, ea, eb, hz, q⟩ := h
  cases (show v = Value.ref a from rx)
  obtain ⟨u, rfl, ru⟩ := rv.one
  cases (show u = Value.ref b from ru)
  obtain ⟨z1, ya, va, ra, da⟩ := (show ObjOk X.prog X.w H s.heap a (.dK ks) from I.hok a _ ea)
  obtain ⟨z2, yb, vb, rb, db⟩ := (show ObjOk X.prog X.w H s.heap b (.dK ls) from I.hok b _ eb)
  refine call_meetsIn PySem.F.slot_dict_update da.typeIs PySem.F.entry_dict_update (PySem.F.args_dict_update_2 _ _) (meets_dict_update (mixKind X.prog X.w) a b hab yb) ⟨va, vb, da, db, by rw [← ra.length, ← rb.length]; exact hz, fun h' d2 _ k2 => ?_⟩
  have there : ∃ o, h'.get? a = some o := by
    obtain ⟨o, _, _, e', _⟩ := id d2
    exact ⟨o, e'⟩
  refine ⟨.non, _, I.write (t' := s.toks) (x := a) (e := a) (o := .dK (mergeK ks ls)) (by rw [ea]; exact True.intro) (.inl rfl) (fun c o hc e => (k2.2 c hc).trans e) there ?_, rfl, q⟩
  exact ⟨Nat.le_trans (length_mergeK ls ks) hz, ya, _, rb.merge ra, d2⟩
/-- list(e.values()) -/
def tListVals (te : TE) : TE := fun σ H Q => te σ H fun x H1 => ∃ (d : Addr) (kvs : List (Key × V)), x = .ref d ∧ H1 d = some (.dK kvs) ∧ ∀ q, H1 q = none → Q (.ref q) (upd H1 q (.lst (kvs.map (·.2))))
theorem pe_listVals (hc : X.calm = true) (he : PE X e te) (hg : Gl X "list") (hm : X.mg "list" = none) (hv : bootBuiltins "list" = some (.type "list")) (hbase : attributeBase e "values" X.env (eval e X.env) = eval e X.env := by rfl) (hline : (apos.endLine == cpos.line) = true := by rfl)
    (hs : starEach [.Call (.Attribute e "values" apos) [] [] cpos] X.env = (false, eval (.Call (.Attribute e "values" apos) [] [] cpos) X.env) :: starEach [] X.env := by rfl) :
    PE X (.Call (.Name "list" p) [.Call (.Attribute e "values" apos) [] [] cpos] [] pos) (tListVals te) := by
  refine ⟨fun pins s σ H Q I hq => wpAny_Call_Name_kw (ld_blt I hg hm hv (PyProof.Rows.callWith_type1 ?_ hs rfl))⟩
  rw [hs]
  show wpAny _ _ (spliced ((false, eval (.Call (.Attribute e "values" apos) [] [] cpos) X.env) :: backTo pos (starEach [] X.env))) _ _ s
  refine Calls.spliced_cons (wpAny_Call_method (T := "dict") (id := "dict.values") hbase rfl hline F.plainAttrs_dict F.slot_dict_values F.type_dict_values (thn (he.run pins s σ H _ I hq) fun u s1 ⟨x, H1, I1, rx, d, kvs, ex, hd, q⟩ => ?_))
  subst ex
  cases (show u = Value.ref d from rx)
  obtain ⟨hz, hs0, vs, kv, hdo⟩ := I1.hok d _ hd
  obtain ⟨ep, hat⟩ := hdo.dictAt
  have lk : kvs.length = vs.length := Paired.length kv
  have I2 : Inv X pins σ H1 { s1 with heap := s1.heap.push { cls := .type "dict_values", data := .fields #[.ref d] } } := I1.kept (t' := s1.toks) fun b ob z => Heap.get?_push_of_some _ z
  refine ⟨hdo.typeIs, hdo.mapOf.noDict, ?_⟩
  show wpAny _ _ (callWith cpos (.builtin "dict.values") [.ref d] [] []) _ X.xe s1
  refine method_meetsIn F.slot_dict_values F.entry_dict_values rfl (PySem.evalArgs_none ⟨rfl, hdo.typeIs, F.args_dict_values_1 _, _, meets_dict_values (mixKind X.prog X.w) d hs0, ⟨vs, hdo⟩, Calls.spliced_nil ?_⟩)
  refine PySem.W.kdl_call (PySem.W.kdl_values (knd := mixKind X.prog X.w) (kvs := vs) (ep := ep)) (I1.ok.hd hc) ⟨⟨_, Heap.get?_push_size _ rfl, rfl, rfl⟩, hat.push _⟩ (by rw [← lk]; exact hz) fun h' tk acc c hk hS hacc => ?_
  refine ⟨.ref _, _, I2.laid (t' := tk) hk (Nat.le_refl _) (show ObjOk X.prog X.w _ _ _ (.lst (kvs.map (·.2))) from ⟨?_, acc.toList, c, ?_, ?_⟩), rfl, q _ (I2.hok.fresh (Nat.le_refl _))⟩
  · rw [List.length_map]; exact hz
  · have el : acc.toList.length = acc.size := by simp
    refine vals_of_at (by rw [List.length_map, el, hacc.1, lk]) fun j y w h1 h2 => ?_
    obtain ⟨kk, hky⟩ := hacc.2 j w (by rw [← Array.getElem?_toList]; exact h2)
    rw [List.getElem?_map] at h1
    cases e1 : kvs[j]? with
    | none => rw [e1] at h1; cases h1
    | some pr =>
      rw [e1] at h1
      obtain ⟨k1, v1⟩ := pr
      cases h1
      obtain ⟨u2, hu2, ru2⟩ := kv_get kv e1
      rw [hky] at hu2
      cases hu2
      exact ru2
  · rw [Array.toArray_toList]; exact hS
/-- x(e, ..), x a local that holds one of some defs -/
def tCallLS (S : Addr → Option Sp) (i : Nat) (E : L2.St → XK) (t : TA) : TE := fun σ H Q => ∃ f sp, σ[i]? = some (some (.ref f)) ∧ S f = some sp ∧ t σ H fun vs H1 => sp vs H1 Q (E σ)
theorem pe_callLS {S : Addr → Option Sp} {E : L2.St → XK} (A : ∀ f sp, S f = some sp → FnR X.prog X.w X.K X.mg X.base CX k f sp ∧ PySem.W.keepIn X.K (.ref f) = true) (hr : Room k X.A) (hN : X.N[i]? = some x) (hv : Vis X.env.scope x) (hx : ∀ σ, PassesAt CX X σ (E σ)) (ha : PA X (e :: es) t)
    (hdb : (x == ("__debug__" : Str)) = false := by decide) (hcd : (x == ("__classdict__" : Str)) = false := by decide) (he : starEach (e :: es) X.env = (false, eval e X.env) :: starEach es X.env := by rfl) (hpl : (backTo pos (starEach es X.env)).any (·.1) = false := by rfl) :
    PE X (.Call (.Name x p) (e :: es) [] pos) (tCallLS S i E t) := by
  refine ⟨fun pins s σ H Q I h => ?_⟩
  obtain ⟨f, sp, hs, hS, ht⟩ := h
  obtain ⟨F, hk⟩ := A f sp hS
  refine wpAny_Call_Name_kw (thn ((pe_var (pos := p) hN hv hdb hcd).run pins s σ H (fun v H1 => v = .ref f ∧ H1 = H) I ⟨.ref f, hs, rfl, rfl⟩) fun u s1 ⟨v, H1, I1, r1, q1⟩ => ?_)
  obtain ⟨rfl, rfl⟩ := q1
  cases r1
  exact PySem.W.callWith_K (h₀ := X.base) I.ok.mod.kin hk (thn (ha.run pos pins s1 σ _ _ I1 ht) fun us s2 ⟨vs, H2, I2, r, q⟩ => ⟨I2.kIn, wpAny_call (run_RS F hr (hx σ) I2 r q)⟩) he hpl
end
end U
namespace U
open PySem PySem.Spec PyProof.Rows L2
/-- e, and what it gives is locked for good -/
def tFrz (t : TE) : TE := fun σ H Q => t σ H fun x H1 => ∃ d u, x = .ref d ∧ H1 d = some u ∧ Mut (some u) ∧ ∀ od, Q x (upd H1 d (.frz od u))
theorem pe_frz {X : Cx} {e : Expr} {t : TE} (h : PE X e t) : PE X e (tFrz t) := by
  refine ⟨fun pins s σ H Q I hw => thn (h.run pins s σ H _ I hw) fun v s1 ⟨x, H1, I1, r, d, u, ex, hd, mu, q⟩ => ?_⟩
  obtain ⟨od, I2⟩ := I1.lock hd mu
  exact ⟨x, _, I2, r, q od⟩
section
variable {P : Program} {w : World} {K : PySem.W.Frag} {mg : Str → Option Value} {base : Heap}
/-- a def that may raise, called where it does not -/
theorem fnR_calm {k : Nat} {f : Addr} {sp : Sp} (F : FnR P w K mg base (L2.CX P w) k f sp) : FnR P w K mg base CX0 k f (fun vs H Q _ => sp vs H Q E0) := by
  intro A outer s H us vs Q E hr e0 r h
  refine codeAny_mono (F A outer s H us vs Q E0 hr e0 r h) fun r s' hq => ?_
  cases r with
  | error e =>
    obtain ⟨_, _, _, _, _, _, _, _, _, _, _, _, z⟩ := hq
    exact z.elim
  | ok fl => cases fl <;> exact hq
end
/-! ### own errors with one or two fields -/
def spIni1 (C : Addr) (f : Str) : Sp := fun vs H Q _ => ∃ (a : Addr) (v : V), vs = [.ref a, v] ∧ H a = some (exo a C none) ∧ ∀ dx, H dx = none → dx ≠ a → Q .non (upd (upd H dx (exd dx [(f, v)])) a (exo a C (some dx)))
def spIni2 (C : Addr) (f g : Str) : Sp := fun vs H Q _ => ∃ (a : Addr) (v u : V), vs = [.ref a, v, u] ∧ H a = some (exo a C none) ∧ ∀ dx, H dx = none → dx ≠ a → Q .non (upd (upd (upd H dx (exd dx [(f, v)])) a (exo a C (some dx))) dx (exd dx [(g, u), (f, v)]))
theorem mk_one {C : Addr} {f : Str} {v : V} {H : Hp} {Q : XK} (h : ∀ d, H d = none → Q (.ref C) (some d) (upd H d (.xd [(f, v)]))) :
    [v].length ≤ 1000 ∧ ∀ a, H a = none → spIni1 C f (.ref a :: ([v] ++ [])) (upd H a (exo a C none))
      (fun z H2 => z = .non ∧ ∃ (d : Addr) (fs : List (Str × V)), H2 a = some (exo a C (some d)) ∧ H2 d = some (exd d fs) ∧ H d = none ∧ Q (.ref C) (some d) (upd (del H2 a) d (.xd fs))) (fun _ _ _ => False) := by
  refine ⟨(by show 1 ≤ 1000; decide), fun a ha => ⟨a, v, rfl, upd_same, fun dx hd ne => ⟨rfl, dx, [(f, v)], upd_same, ?_, ?_, ?_⟩⟩⟩
  · rw [upd_ne ne, upd_same]
  · rw [upd_ne ne] at hd; exact hd
  · rw [upd_ne ne] at hd
    have e : upd (del (upd (upd (upd H a (exo a C none)) dx (exd dx [(f, v)])) a (exo a C (some dx))) a) dx (.xd [(f, v)]) = upd H dx (.xd [(f, v)]) := by
      funext b
      by_cases h1 : b = dx
      · subst h1; rw [upd_same, upd_same]
      · rw [upd_ne h1, upd_ne h1]
        by_cases h2 : b = a
        · subst h2
          rw [ha]
          unfold del
          simp
        · unfold del
          simp only [h2, if_false]
          rw [upd_ne h2, upd_ne h1, upd_ne h2]
    rw [e]
    exact h dx hd
theorem mk_two {C : Addr} {f g : Str} {v u : V} {H : Hp} {Q : XK} (h : ∀ d, H d = none → Q (.ref C) (some d) (upd H d (.xd [(g, u), (f, v)]))) :
    [v, u].length ≤ 1000 ∧ ∀ a, H a = none → spIni2 C f g (.ref a :: ([v, u] ++ [])) (upd H a (exo a C none))
      (fun z H2 => z = .non ∧ ∃ (d : Addr) (fs : List (Str × V)), H2 a = some (exo a C (some d)) ∧ H2 d = some (exd d fs) ∧ H d = none ∧ Q (.ref C) (some d) (upd (del H2 a) d (.xd fs))) (fun _ _ _ => False) := by
  refine ⟨(by show 2 ≤ 1000; decide), fun a ha => ⟨a, v, u, rfl, upd_same, fun dx hd ne => ⟨rfl, dx, [(g, u), (f, v)], ?_, upd_same, ?_, ?_⟩⟩⟩
  · rw [upd_ne ne.symm, upd_same]
  · rw [upd_ne ne] at hd; exact hd
  · rw [upd_ne ne] at hd
    have e : upd (del (upd (upd (upd (upd H a (exo a C none)) dx (exd dx [(f, v)])) a (exo a C (some dx))) dx (exd dx [(g, u), (f, v)])) a) dx (.xd [(g, u), (f, v)]) = upd H dx (.xd [(g, u), (f, v)]) := by
      funext b
      by_cases h1 : b = dx
      · subst h1; rw [upd_same, upd_same]
      · rw [upd_ne h1, upd_ne h1]
        by_cases h2 : b = a
        · subst h2
          rw [ha]
          unfold del
          simp
        · unfold del
          simp only [h2, if_false]
          rw [upd_ne h1, upd_ne h2, upd_ne h1, upd_ne h2]
    rw [e]
    exact h dx hd
end U
namespace U
open PySem PySem.Spec PyProof.Rows L2
/-- isinstance(e, c), e the error that the suite holds; its class told by the reading -/
def rIsH (K : PySem.W.Frag) (D a : Addr) (cls : Value) (d : Option Addr) : List V → Hp → VK → Prop := fun xs H Q => ∃ dd, cls = .ref D ∧ d = some dd ∧ rIsG K D a dd xs H Q
theorem call_isH {X : Cx} {a D : Addr} {cls : Value} {d : Option Addr} {oe : Obj} {pn : List (Addr × Obj)} (C : ExcC X.K D) (hz : Zc cls d oe) (hf : ∃ vs, oe.data = .fields vs) : CallR (X.suite a ((a, oe) :: pn)) (.builtin "isinstance") (rIsH X.K D a cls d) := by
  intro pins s σ H xs us Q I r h
  obtain ⟨dd, rfl, rfl, h⟩ := h
  exact call_isG C hz hf pins s σ H xs us Q I r h
end U
namespace U
open PySem PySem.Spec PyProof.Rows L2 StX
/-! ### defs that are called where no repr runs around them -/
def FnG (P : Program) (w : World) (K : PySem.W.Frag) (mg : Str → Option Value) (base : Heap) (CX : CXT) (k : Nat) (f : Addr) (sp : Sp) : Prop :=
  ∀ (A : Around) (outer : List Env) (s : Shared) (H : Hp) (us : List Value) (vs : List V) (Q : VK) (E : XK), A.guards = some [] → Room k A → Env0 P w K mg base A outer s H → Vals vs us → sp vs H Q E → codeAny (model P w) A (.call (.ref f) ⟨us, []⟩) (CR CX outer P w H s Q E) s
section
variable {P : Program} {w : World} {K : PySem.W.Frag} {mg : Str → Option Value} {base : Heap} {CX : CXT} {j k : Nat} {f : Addr} {sp sp' : Sp}
theorem fnG (F : FnR P w K mg base CX k f sp) : FnG P w K mg base CX k f sp := fun A outer s H us vs Q E _ => F A outer s H us vs Q E
theorem FnG.mono (F : FnG P w K mg base CX j f sp) (h : j ≤ k) : FnG P w K mg base CX k f sp := fun A outer s H us vs Q E g hr => F A outer s H us vs Q E g (hr.mono h)
theorem FnG.imp (F : FnG P w K mg base CX k f sp) (h : ∀ vs H Q E, sp' vs H Q E → sp vs H Q E) : FnG P w K mg base CX k f sp' := fun A outer s H us vs Q E g hr e0 r z => F A outer s H us vs Q E g hr e0 r (h _ _ _ _ z)
theorem fnG_calm (F : FnG P w K mg base (L2.CX P w) k f sp) : FnG P w K mg base CX0 k f (fun vs H Q _ => sp vs H Q E0) := by
  intro A outer s H us vs Q E g hr e0 r h
  refine codeAny_mono (F A outer s H us vs Q E0 g hr e0 r h) fun r s' hq => ?_
  cases r with
  | error e =>
    obtain ⟨_, _, _, _, _, _, _, _, _, _, _, _, z⟩ := hq
    exact z.elim
  | ok fl => cases fl <;> exact hq
/-- the body's walk, with what is around -/
theorem bodyG {x qual : Str} {st : Stmt} {fd : FuncData} {N ps : List Str} (F : Fun K x qual st f fd) (S : FnScope N ps (defScope st)) (len : ∀ vs H Q E, sp vs H Q E → vs.length = ps.length)
    (hbody : ∀ (cdv : Value) (A : Around) (outer : List Env) (s : Shared) (H : Hp) (vs : List V) (Q : VK) (E : XK), A.guards = some [] → Room k (A.deeper (envOfC qual (defScope st) s.heap.objs.size f cdv)) → sp vs H Q E →
      ∃ t, PSs (cxOf CX P w K mg base N qual (defScope st) f cdv A outer s H E) (defBody st) t ∧ t { nx := fun _ H' => Q .non H', rt := Q } (start N vs) H)
    (A : Around) (outer : List Env) (s : Shared) (H : Hp) (args : Args) (us : List Value) (vs : List V) (Q : VK) (E : XK) (g : A.guards = some []) (hr : Room (k + 1) A) (e0 : Env0 P w K mg base A outer s H) (hb : BindsTo s fd args (ps.zip us)) (r : Vals vs us) (hs : sp vs H Q E) :
    codeAny (model P w) A (.call (.ref f) args) (CR CX outer P w H s Q E) s := by
  obtain ⟨oc, od, kV, doc, pm, an, cdv, ct, osl, rfl, lk, hcd⟩ := F.ex
  have hl := len _ _ _ _ hs
  have kin : K.In s.heap := e0.mod.kin.keeps fun b o e => (e0.bs b o e).1
  have lim : s.heap.NoLimit := e0.mod.nolimit.keeps fun b o e => (e0.bs b o e).1
  have names : ∀ y ∈ ps.zip us, (defScope st).names.lookup y.1 = some .local ∨ ((defScope st).names.lookup y.1 = some .cell ∧ ((cellsFrom (s.heap.objs.size + 1) (defScope st).names []).lookup y.1).isSome = true) := by
    rintro ⟨n, v⟩ hy
    rcases S.par n (List.of_mem_zip hy).1 with q | q
    · exact .inl q
    · exact .inr ⟨q, PySem.W.cellsFrom_some _ _ _ (.inl q)⟩
  refine codeAny_call_function hr.depth (kin _ _ lk) rfl S.co S.gen rfl (PySem.W.codeRec_of kin hcd) (hb _ _ _ _ ?_)
  refine wpAny_newFunctionEnv_cells S.kind names fun env he s1 z => ?_
  subst he
  refine ⟨lim.keeps z.toInCall.keep, codeAny_func ?_⟩
  obtain ⟨t, ht, hq⟩ := hbody cdv A outer s H vs Q E g (hr.deeper _) hs
  have I : Inv (cxOf CX P w K mg base N qual (defScope st) f cdv A outer s H E) [] (start N vs) H s1 := inv_start S hr.hd e0 hl r z
  refine wpAny_mono (ht.run [] s1 (start N vs) H _ I hq) (fun fl s' h' => ?_) fun _ _ h' => h'
  match fl, h' with
  | .ret u, ⟨v, σ', H', J, rv, q⟩ => exact ⟨v, H', J.os, J.bare, J.base, J.hok, rv, q⟩
  | .next, ⟨σ', H', J, q⟩ => exact ⟨.non, H', J.os, J.bare, J.base, J.hok, rfl, q⟩
  | .brk, ⟨_, _, _, q⟩ => exact q.elim
  | .cont, ⟨_, _, _, q⟩ => exact q.elim
theorem FnAt.okG {x qual : Str} {st : Stmt} {N ps : List Str} (B : FnAt K x qual st f ps) (S : FnScope N ps (defScope st)) (len : ∀ vs H Q E, sp vs H Q E → vs.length = ps.length)
    (hbody : ∀ (cdv : Value) (A : Around) (outer : List Env) (s : Shared) (H : Hp) (vs : List V) (Q : VK) (E : XK), A.guards = some [] → Room k (A.deeper (envOfC qual (defScope st) s.heap.objs.size f cdv)) → sp vs H Q E →
      ∃ t, PSs (cxOf CX0 P w K mg base N qual (defScope st) f cdv A outer s H E).nox (defBody st) t ∧ t { nx := fun _ H' => Q .non H', rt := Q } (start N vs) H) : FnG P w K mg base CX0 (k + 1) f sp := by
  obtain ⟨fd, F, bi⟩ := B.ex
  intro A outer s H us vs Q E g hr e0 r hs
  have hl : (us ++ []).length = ps.length := by rw [List.append_nil, ← r.length]; exact len _ _ _ _ hs
  refine bodyG F S len (fun cdv A outer s H vs Q E g hr hs => ?_) A outer s H ⟨us, []⟩ us vs Q E g hr e0 ?_ r hs
  · obtain ⟨t, h, q⟩ := hbody cdv A outer s H vs Q E g hr hs
    exact ⟨t, h.nox, q⟩
  · have := bi s us (e0.mod.kin.keeps fun b o e => (e0.bs b o e).1) hl
    rw [List.append_nil] at this
    exact this
theorem FnAt.okXG {x qual : Str} {st : Stmt} {N ps : List Str} (B : FnAt K x qual st f ps) (S : FnScope N ps (defScope st)) (len : ∀ vs H Q E, sp vs H Q E → vs.length = ps.length)
    (hbody : ∀ (cdv : Value) (A : Around) (outer : List Env) (s : Shared) (H : Hp) (vs : List V) (Q : VK) (E : XK), A.guards = some [] → Room k (A.deeper (envOfC qual (defScope st) s.heap.objs.size f cdv)) → sp vs H Q E →
      ∃ t, PSs (cxOf (L2.CX P w) P w K mg base N qual (defScope st) f cdv A outer s H E) (defBody st) t ∧ t { nx := fun _ H' => Q .non H', rt := Q } (start N vs) H) : FnG P w K mg base (L2.CX P w) (k + 1) f sp := by
  obtain ⟨fd, F, bi⟩ := B.ex
  intro A outer s H us vs Q E g hr e0 r hs
  have hl : (us ++ []).length = ps.length := by rw [List.append_nil, ← r.length]; exact len _ _ _ _ hs
  refine bodyG F S len hbody A outer s H ⟨us, []⟩ us vs Q E g hr e0 ?_ r hs
  have := bi s us (e0.mod.kin.keeps fun b o e => (e0.bs b o e).1) hl
  rw [List.append_nil] at this
  exact this
end
section
variable {X : Cx} {CX : CXT} {pins : List (Addr × Obj)} {σ : L2.St} {H : Hp} {s : Shared} {f : Addr} {k : Nat} {sp : Sp} {x : Str} {e : Expr} {es : List Expr} {t : TA} {pp pos : Pos}
theorem run_G {Q : VK} {us : List Value} {vs : List V} {E : XK} (F : FnG X.prog X.w X.K X.mg X.base CX k f sp) (g : X.A.guards = some []) (hr : Room k X.A) (hx : PassesAt CX X σ E) (I : Inv X pins σ H s) (r : Vals vs us) (h : sp vs H Q E) :
    codeAny (model X.prog X.w) X.A (.call (.ref f) ⟨us, []⟩) (fun r s' => match r with | .ok (.ret v) => EP X pins σ Q v s' | .ok _ => False | .error e => X.xe e s') s := by
  refine codeAny_mono (F X.A X.stack s H us vs Q E g hr I.env0 r h) fun z s' hq => ?_
  match z, hq with
  | .error er, hq => exact hx pins H s er s' I hq
  | .ok (.ret w), hq => exact I.after hq
  | .ok .next, hq => exact hq.elim
  | .ok .brk, hq => exact hq.elim
  | .ok .cont, hq => exact hq.elim
/-- x(e, ..), x such a def -/
theorem pe_callG {E : XK} (F : FnG X.prog X.w X.K X.mg X.base CX k f sp) (g : X.A.guards = some []) (hr : Room k X.A) (hk : PySem.W.keepIn X.K (.ref f) = true) (hg : Gl X x) (hm : X.mg x = some (.ref f)) (hx : Passes CX X E) (ha : PA X (e :: es) t) (hdb : (x == ("__debug__" : Str)) = false := by decide)
    (he : starEach (e :: es) X.env = (false, eval e X.env) :: starEach es X.env := by rfl) (hpl : (backTo pos (starEach es X.env)).any (·.1) = false := by rfl) : PE X (.Call (.Name x pp) (e :: es) [] pos) (tCallR sp E t) := by
  refine ⟨fun pins s σ H Q I h => wpAny_Call_Name_kw (ld_glob I hg hm ?_ hdb)⟩
  exact PySem.W.callWith_K (h₀ := X.base) I.ok.mod.kin hk (thn (ha.run pos pins s σ H _ I h) fun us s1 ⟨vs, H1, I1, r, q⟩ => ⟨I1.kIn, wpAny_call (run_G F g hr (fun pins H s e s' => hx pins σ H s e s') I1 r q)⟩) he hpl
theorem pe_callGS {E : L2.St → XK} (F : FnG X.prog X.w X.K X.mg X.base CX k f sp) (g : X.A.guards = some []) (hr : Room k X.A) (hk : PySem.W.keepIn X.K (.ref f) = true) (hg : Gl X x) (hm : X.mg x = some (.ref f)) (hx : ∀ σ, PassesAt CX X σ (E σ)) (ha : PA X (e :: es) t) (hdb : (x == ("__debug__" : Str)) = false := by decide)
    (he : starEach (e :: es) X.env = (false, eval e X.env) :: starEach es X.env := by rfl) (hpl : (backTo pos (starEach es X.env)).any (·.1) = false := by rfl) : PE X (.Call (.Name x pp) (e :: es) [] pos) (tCallRS sp E t) := by
  refine ⟨fun pins s σ H Q I h => wpAny_Call_Name_kw (ld_glob I hg hm ?_ hdb)⟩
  exact PySem.W.callWith_K (h₀ := X.base) I.ok.mod.kin hk (thn (ha.run pos pins s σ H _ I h) fun us s1 ⟨vs, H1, I1, r, q⟩ => ⟨I1.kIn, wpAny_call (run_G F g hr (hx σ) I1 r q)⟩) he hpl
/-! ### repr -/
/-- repr(v), v a None, a bool, an int, a text, lists and tuples of them -/
def rRepr (K : PySem.W.Frag) : List V → Hp → VK → Prop := fun xs H Q => ∃ v d, xs = [v] ∧ Dp K H v d ∧ d.showable = true ∧ d.hasDict = false ∧ d.depth ≤ 60 ∧ d.shown.length ≤ sizeLine ∧ Q (.str d.shown) H
theorem call_repr (g : X.A.guards = some []) (hu : X.A.units + 64 < cLine) : CallR X (.builtin "repr") (rRepr X.K) := by
  intro pins s σ H xs us Q I r h
  obtain ⟨v, d, rfl, hd, hs, hn, hdp, hz, q⟩ := h
  obtain ⟨u, rfl, ru⟩ := r.one
  obtain ⟨as, rd⟩ := Dp.reads I d v u hd ru
  cases rd with
  | none =>
    simp only [PyData.shown] at q
    exact PySem.P.repr_of_none ⟨.str _, H, I.tok _, ⟨_, rfl⟩, q⟩
  | bool b =>
    simp only [PyData.shown] at q
    exact PySem.P.repr_of_bool ⟨.str _, H, I.tok _, ⟨_, rfl⟩, q⟩
  | int i t =>
    simp only [PyData.shown] at q
    exact PySem.P.repr_of_int (by simpa [PyData.showable] using hs) ⟨.str _, H, I.tok _, ⟨_, rfl⟩, q⟩
  | str x t =>
    simp only [PyData.shown] at q hz
    exact PySem.P.repr_of_str ⟨.str _, H, I.tok _, ⟨_, rfl⟩, q⟩ hz
  | list h1 h2 h3 h4 => exact repr_of_reads' (.list h1 h2 h3 h4) hs (PyData.noDict_hsm hn) g (by omega) (fun _ _ e => e) (fun h' u tk hk => ⟨.str _, H, I.kept (t' := tk) hk, ⟨_, rfl⟩, q⟩) hz
  | tuple h1 h2 h3 h4 => exact repr_of_reads' (.tuple h1 h2 h3 h4) hs (PyData.noDict_hsm hn) g (by omega) (fun _ _ e => e) (fun h' u tk hk => ⟨.str _, H, I.kept (t' := tk) hk, ⟨_, rfl⟩, q⟩) hz
  | dict h1 h2 h3 h4 h5 => simp [PyData.hasDict] at hn
/-- repr of a scalar, whatever runs around -/
def rRepr0 : List V → Hp → VK → Prop := fun xs H Q => (xs = [.non] ∧ Q (.str "None") H) ∨ (∃ b, xs = [.bl b] ∧ Q (.str (if b then "True" else "False")) H) ∨ ∃ i : Int, xs = [.int i] ∧ i.natAbs.log2 < 1920 ∧ Q (.str (toString i)) H
theorem call_repr0 : CallR X (.builtin "repr") rRepr0 := by
  intro pins s σ H xs us Q I r h
  rcases h with ⟨rfl, q⟩ | ⟨b, rfl, q⟩ | ⟨i, rfl, hz, q⟩
  · obtain ⟨u, rfl, ru⟩ := r.one
    cases ru
    exact PySem.P.repr_of_none ⟨.str _, H, I.tok _, ⟨_, rfl⟩, q⟩
  · obtain ⟨u, rfl, ru⟩ := r.one
    cases ru
    exact PySem.P.repr_of_bool ⟨.str _, H, I.tok _, ⟨_, rfl⟩, q⟩
  · obtain ⟨u, rfl, ru⟩ := r.one
    obtain ⟨t, rfl⟩ := ru
    exact PySem.P.repr_of_int hz ⟨.str _, H, I.tok _, ⟨_, rfl⟩, q⟩
/-! ### a dict of ints, shown -/
def dI (l : List (Int × Int)) : PyData := .dict (l.map fun p => (PyData.int p.1, PyData.int p.2))
theorem reads_ints {h : Heap} : ∀ {us : List Value} {ns : List Int}, Paired (fun (n : Int) (u : Value) => ∃ t, u = .int n t) ns us → ReadsAll h us (ns.map PyData.int) []
  | [], _, .nil => .nil
  | _ :: _, _, .cons ⟨t, e⟩ r => by
    subst e
    exact .cons (as := []) (.int _ t) (reads_ints r)
end
end U
namespace U
open PySem PySem.Spec PyProof.Rows L2 StX
/-- what holds no other object -/
inductive Sc : V → PyData → Prop
  | non : Sc .non .none
  | bl (b : Bool) : Sc (.bl b) (.bool b)
  | int (i : Int) : Sc (.int i) (.int i)
  | str (x : Str) : Sc (.str x) (.str x)
def keyD : Key → PyData
  | .inl i => .int i
  | .inr x => .str x
theorem Sc.reads {h : Heap} {v : V} {d : PyData} {u : Value} (s : Sc v d) (r : RelV v u) : Reads h u d [] := by
  cases s with
  | non => cases r; exact .none
  | bl b => cases r; exact .bool b
  | int i => obtain ⟨t, rfl⟩ := r; exact .int i t
  | str x => obtain ⟨t, rfl⟩ := r; exact .str x t
theorem flat_reads {prog : Program} {w : World} {h : Heap} : ∀ {es : List DictEntry} {va : List (Key × Value)} {kvs : List (Key × V)} {ds : List PyData}, Pairs (mixKind prog w) es va → KV kvs va → Paired (fun kv d => Sc kv.2 d) kvs ds →
    ReadsAll h (es.map (·.key)) (kvs.map fun kv => keyD kv.1) [] ∧ ReadsAll h (es.map (·.val)) ds []
  | [], _, _, _, .nil, r, z => by
    cases r
    cases z
    exact ⟨.nil, .nil⟩
  | e :: es, _, _, _, .cons h1 h2 h3, r, z => by
    unfold KV at r
    cases r with
    | cons q r =>
      cases z with
      | cons zc z =>
        obtain ⟨g1, g2⟩ := flat_reads (h := h) h3 r z
        obtain ⟨q1, q2⟩ := q
        refine ⟨.cons (as := []) ?_ g1, .cons (as := []) ?_ g2⟩
        · show Reads h e.key (keyD _) []
          rw [q1]
          rcases keyIs_shape h1 with ⟨i, t, e1, e2⟩ | ⟨x, t, e1, e2⟩
          · rw [e1, e2]; exact .int i t
          · rw [e1, e2]; exact .str x t
        · show Reads h e.val _ []
          rw [h2]
          exact zc.reads q2
def flatD (kvs : List (Key × V)) (ds : List PyData) : PyData := .dict ((kvs.map fun kv => keyD kv.1).zip ds)
theorem dict_reads {X : Cx} {pins : List (Addr × Obj)} {σ : L2.St} {H : Hp} {s : Shared} {a : Addr} {kvs : List (Key × V)} {ds : List PyData} (I : Inv X pins σ H s) (ea : H a = some (.dK kvs)) (z : Paired (fun kv d => Sc kv.2 d) kvs ds) :
    ∃ as, Reads s.heap (.ref a) (flatD kvs ds) as ∧ sysModules ∉ as := by
  obtain ⟨_, ya, va, ra, o, es, ep, ho, hc, hd, _, hp, _⟩ := (show ObjOk X.prog X.w H s.heap a (.dK kvs) from I.hok a _ ea)
  obtain ⟨g1, g2⟩ := flat_reads (h := s.heap) hp ra z
  have lz : kvs.length = ds.length := Paired.length z
  have e1 : (((kvs.map fun kv => keyD kv.1).zip ds).map (·.1)) = kvs.map fun kv => keyD kv.1 := List.map_fst_zip (by rw [List.length_map, lz]; exact Nat.le_refl _)
  have e2 : (((kvs.map fun kv => keyD kv.1).zip ds).map (·.2)) = ds := List.map_snd_zip (by rw [List.length_map, lz]; exact Nat.le_refl _)
  refine ⟨a :: [] ++ [], .dict ho hc.1 hd (by rw [e1]; exact g1) (by rw [e2]; exact g2), ?_⟩
  simp only [List.append_nil, List.mem_singleton]
  intro e
  rw [← e] at ya
  simp at ya
section
variable {X : Cx} {CX : CXT} {k : Nat} {f C : Addr} {sp : Sp} {E : XK} {n : Nat} {g : Addr}
/-- repr(d), a dict of scalars -/
def rReprF : List V → Hp → VK → Prop := fun xs H Q => ∃ a kvs ds, xs = [.ref a] ∧ H a = some (.dK kvs) ∧ Paired (fun kv d => Sc kv.2 d) kvs ds ∧ (flatD kvs ds).showable = true ∧ (flatD kvs ds).depth ≤ 60 ∧ (flatD kvs ds).shown.length ≤ sizeLine ∧ Q (.str (flatD kvs ds).shown) H
theorem call_reprF (g : X.A.guards = some []) (hu : X.A.units + 64 < cLine) : CallR X (.builtin "repr") rReprF := by
  intro pins s σ H xs us Q I r h
  obtain ⟨a, kvs, ds, rfl, ea, z, hs, hdp, hz, q⟩ := h
  obtain ⟨u, rfl, ru⟩ := r.one
  cases (show u = Value.ref a from ru)
  obtain ⟨as, rd, hn⟩ := dict_reads I ea z
  exact repr_of_reads' rd hs (fun _ => hn) g (by omega) (fun _ _ e => e) (fun h' u tk hk => ⟨.str _, H, I.kept (t' := tk) hk, ⟨_, rfl⟩, q⟩) hz
/-- {d!r}, a dict of scalars -/
def tFmtF (te : TE) : TE := fun σ H Q => te σ H fun x H1 => ∃ a kvs ds, x = .ref a ∧ H1 a = some (.dK kvs) ∧ Paired (fun kv d => Sc kv.2 d) kvs ds ∧ (flatD kvs ds).showable = true ∧ (flatD kvs ds).depth ≤ 60 ∧ (flatD kvs ds).shown.length ≤ sizeLine ∧ Q (.str (flatD kvs ds).shown) H1
theorem pe_fmtF {e : Expr} {te : TE} {pos : Pos} (g : X.A.guards = some []) (hu : X.A.units + 64 < cLine) (he : PE X e te) : PE X (.FormattedValue e 114 none pos) (tFmtF te) := by
  refine ⟨fun pins s σ H Q I h => ?_⟩
  refine wpAny_FormattedValue_repr (thn (he.run pins s σ H _ I h) fun v s1 hv => ?_)
  obtain ⟨x, H1, I1, r1, a, kvs, ds, rfl, ea, z, hs, hdp, hz, q⟩ := hv
  cases (show v = Value.ref a from r1)
  obtain ⟨as, rd, hn⟩ := dict_reads I1 ea z
  refine pyReprObj_of_reads rd hs (fun _ => hn) g (by omega) (fun _ _ e => e) (fun h' u tk hk => ?_) hz
  have I2 : Inv X pins σ H1 { s1 with heap := h', toks := tk } := I1.kept (t' := tk) hk
  exact wpAny_formatField_str ⟨.str _, H1, I2, ⟨_, rfl⟩, q⟩ ⟨.str _, H1, I2.tok _, ⟨_, rfl⟩, q⟩ hz
/-- repr(x), x an instance with its own __repr__ -/
def rReprO (C : Addr) (sp : Sp) (E : XK) : List V → Hp → VK → Prop := fun xs H Q => ∃ a dx fs, xs = [.ref a] ∧ H a = some (.ins C dx fs) ∧ sp [.ref a] H (fun v H' => ∃ z : Str, v = .str z ∧ Q (.str z) H') E
theorem call_reprO (gd : X.A.guards = some []) (hs : PySem.W.findIn X.K (.ref C) "__repr__" = some (some (.ref g))) (hf : PySem.W.isFn X.K (.ref g) = true) (F : FnG X.prog X.w X.K X.mg X.base CX n g sp) (hr : Room (n + 1) X.A) (hx : Passes CX X E) : CallR X (.builtin "repr") (rReprO C sp E) := by
  intro pins s σ H xs us Q I r h
  obtain ⟨a, dx, fs, rfl, ea, q⟩ := h
  obtain ⟨u, rfl, ru⟩ := r.one
  cases (show u = Value.ref a from ru)
  obtain ⟨ox, od, J⟩ := ins_inst I ea
  obtain ⟨m, hF⟩ := I.fr
  refine PySem.W.repr_K (by have := hr.un; show X.A.units + 1 < cLine; omega) hF I.ok.mod.kin J hs hf ?_
  refine wpAny_call ?_
  refine codeAny_mono (F X.A.in1 X.stack s H [.ref a] [.ref a] _ E gd (Room.in1 hr) I.env0.in1 (.cons rfl .nil) q) fun z s' hq => ?_
  match z, hq with
  | .error er, hq => exact hx pins σ H s er s' I hq
  | .ok (.ret w), hq =>
    obtain ⟨v, H', I', rv, zt, ev, qz⟩ := I.after hq
    subst ev
    obtain ⟨tk, rfl⟩ := rv
    exact ⟨.str zt, H', I', ⟨tk, rfl⟩, qz⟩
  | .ok .next, hq => exact hq.elim
  | .ok .brk, hq => exact hq.elim
  | .ok .cont, hq => exact hq.elim
/-- x == y, x an instance of C, y a value of any known kind -/
def rEqV (K : PySem.W.Frag) (C : Addr) (sp : Sp) (E : XK) : R2 := fun x y H Q => ∃ a dx fs t, x = .ref a ∧ H a = some (.ins C dx fs) ∧ TyX K H y t ∧ PySem.W.notFirst K C t = true ∧ sp [x, y] H Q E
theorem op_eqV (hs : PySem.W.findIn X.K (.ref C) "__eq__" = some (some (.ref g))) (hf : PySem.W.isFn X.K (.ref g) = true) (F : FnR X.prog X.w X.K X.mg X.base CX n g sp) (hr : Room n X.A) (hx : Passes CX X E) : OpR X (compareOp .Eq) (rEqV X.K C sp E) := by
  intro pins s σ H x y v u Q I rx ry h
  obtain ⟨a, dx, vs, t, rfl, ha, ty, nf, q⟩ := h
  cases (show v = Value.ref a from rx)
  obtain ⟨ox, od, J⟩ := ins_inst I ha
  obtain ⟨Pq, Z, pq, _⟩ := kit_of I ry ty
  obtain ⟨m, hF⟩ := I.fr
  show wpAny _ _ (richCompare .Eq (.ref a) u) _ _ _
  refine PySem.W.cmp_K (op := .Eq) (tb := t) hr.units0 hF I.ok.mod.kin J (Z.ty _ _ I.kIn pq) nf hs hf ?_
  refine wpAny_mono (wpAny_call (run_fnR (us := [.ref a, u]) (vs := [.ref a, y]) F hr hx I (.cons rfl (.cons ry .nil)) q)) (fun w s' z => ?_) fun _ _ x => x
  obtain ⟨z', H', I', rz, qz⟩ := z
  exact SlX.cmpback rz ⟨z', H', I', rz, qz⟩
def rNeV (K : PySem.W.Frag) (C : Addr) (sp : Sp) (E : XK) : R2 := fun x y H Q => ∃ a dx fs t, x = .ref a ∧ H a = some (.ins C dx fs) ∧ TyX K H y t ∧ PySem.W.notFirst K C t = true ∧ sp [x, y] H (fun z H' => ∃ c, z = .bl c ∧ Q (.bl (!c)) H') E
theorem op_neV (oc : OwnC X.K C) (hne : PySem.W.findIn X.K (.ref C) "__ne__" = some (some (.builtin "object.__ne__"))) (hs : PySem.W.findIn X.K (.ref C) "__eq__" = some (some (.ref g))) (hf : PySem.W.isFn X.K (.ref g) = true) (F : FnR X.prog X.w X.K X.mg X.base CX n g sp)
    (hr : Room (n + 1) X.A) (hx : Passes CX X E) : OpR X (compareOp .NotEq) (rNeV X.K C sp E) := by
  intro pins s σ H x y v u Q I rx ry h
  obtain ⟨a, dx, vs, t, rfl, ha, ty, nf, q⟩ := h
  cases (show v = Value.ref a from rx)
  obtain ⟨ox, od, J⟩ := ins_inst I ha
  obtain ⟨Pq, Z, pq, _⟩ := kit_of I ry ty
  obtain ⟨m, hF⟩ := I.fr
  have hr1 : Room n X.A.in1 := Room.in1 hr
  refine PySem.W.my_ne_K (tb := t) (hu_of hr) hF I.ok.mod.kin J (Z.ty _ _ I.kIn pq) nf hne oc.cm hs hf ?_
  refine wpAny_mono (wpAny_call (SlX.run_at (us := [.ref a, u]) (ws := [.ref a, y]) F hr1 I.env0.in1 hx I (.cons rfl (.cons ry .nil)) q)) (fun w s' z => ?_) fun _ _ x => x
  obtain ⟨z', H', I', rz, c, ez, qz⟩ := z
  subst ez
  cases (show w = Value.bool c from rz)
  exact ⟨c, rfl, .bl (!c), H', I', rfl, qz⟩
end
end U
namespace U
open PySem PySem.Spec PyProof.Rows L2 StX
/-! ### the law's call, where no repr runs around it -/
section
variable {P : Program} {w : World} {K : PySem.W.Frag} {mg mb : Str → Option Value} {k : Nat} {fa sc : Addr} {sp : Sp} {s1 : Shared} {us : List Value} {ns : List Int}
/-- from an abstract heap that tracks at most the script -/
theorem law_core (inK : K.In s1.heap) (glob : s1.heap.Ns mainGlobals mg) (blt : s1.heap.Ns builtinsNs mb) (blt2 : ∀ x : Str, x ≠ "__name__" → mb x = bootBuiltins x) (lim : s1.heap.NoLimit) (gens : s1.gens = #[])
    (there : s1.heap.get? sc = some { cls := .type "list", data := .seq us.toArray }) (room : Room k callerA)
    (F : ∀ base : Heap, FnG P w K mg base CX0 k fa sp)
    (H : Hp) (only : Only H) (hok : HOk P w H s1.heap) (just : ∀ b, H b ≠ none → b = sc) (offK : H sc ≠ none → K.lookup sc = none)
    (prom : sp [.ref sc] H (fun v _ => v = .bl true) E0) :
    codeAny (model P w) callerA (.call (.ref fa) ⟨[.ref sc], []⟩) (fun r s' => r = .ok (.ret (.bool true)) ∧ OldK s1.heap s'.heap ∧ s'.os = s1.os ∧ AllBare s'.gens) s1 := by
  have isSc : ∀ {b : Addr} {u : HO}, H b = some u → b = sc := fun {b u} e => just b fun z => by rw [z] at e; cases e
  have free : ∀ {b : Addr} {o : Obj} {es : Array DictEntry} {ep : Nat}, s1.heap.get? b = some o → o.data = .dict es ep → H b = none := by
    intro b o es ep e d
    cases hb : H b with
    | none => rfl
    | some u =>
      have := isSc hb
      subst this
      rw [there] at e
      cases e
      exact absurd (show Data.seq us.toArray _ = Data.dict es ep from d) (by intro z; cases z)
  have spaces : ∀ {b : Addr} {m : Str → Option Value}, s1.heap.Ns b m → (hidT s1.heap H).Ns b m := by
    rintro b m ⟨o, es, ep, e, d, r⟩
    exact ⟨o, es, ep, hidT_get e (free e d), d, r⟩
  have inB : K.In (hidT s1.heap H) := by
    intro b o e
    refine hidT_get (inK b o e) ?_
    cases hb : H b with
    | none => rfl
    | some u =>
      have := isSc hb
      subst this
      have z := offK (by rw [hb]; intro z; cases z)
      rw [e] at z
      cases z
  have md : Mod K mg (hidT s1.heap H) := by
    obtain ⟨mc, l1, l2⟩ := lim
    exact ⟨inB, spaces glob, ⟨mb, spaces blt, blt2⟩, ⟨mc, spaces l1, l2⟩⟩
  have env : Env0 P w K mg (hidT s1.heap H) callerA [] s1 H := by
    refine ⟨rfl, md, fun b o e => of_hidT e, Nat.le_of_eq (hidT_size _ _), trivial, fun b hb => ?_, hok, .of_eq gens⟩
    exact absurd hb List.not_mem_nil
  refine codeAny_mono (F (hidT s1.heap H) callerA [] s1 H [.ref sc] [.ref sc] (fun v _ => v = .bl true) E0 rfl room env (.cons rfl .nil) prom) fun r s' h => ?_
  match r, h with
  | .error e, h => exact h.elim
  | .ok .next, h => exact h.elim
  | .ok .brk, h => exact h.elim
  | .ok .cont, h => exact h.elim
  | .ok (.ret u), ⟨v, H', os, bare, un, hok', rv, q⟩ =>
    subst q
    cases (show u = Value.bool true from rv)
    refine ⟨rfl, OldK.of_keep fun b o e => ?_, os, bare⟩
    cases hb : H b with
    | none => exact un.keep b o e hb (fun z => absurd z List.not_mem_nil) (by simp)
    | some u =>
      rcases only b with z | ⟨ob, xs, z⟩
      · rw [hb] at z
        cases z
      · have a1 := (hok b _ z).1
        have a2 := (hok' b _ (un.frzs b ob _ z)).1
        rw [e] at a1
        cases a1
        exact a2
theorem law_callG (inK : K.In s1.heap) (glob : s1.heap.Ns mainGlobals mg) (blt : s1.heap.Ns builtinsNs mb) (blt2 : ∀ x : Str, x ≠ "__name__" → mb x = bootBuiltins x) (lim : s1.heap.NoLimit) (gens : s1.gens = #[])
    (there : s1.heap.get? sc = some { cls := .type "list", data := .seq us.toArray }) (inS : IntsAre us ns) (len : ns.length ≤ sizeLine) (room : Room k callerA)
    (F : ∀ base : Heap, FnG P w K mg base CX0 k fa sp)
    (prom : ∀ H : Hp, SqL K H sc (ns.map V.int) → sp [.ref sc] H (fun v _ => v = .bl true) E0) :
    codeAny (model P w) callerA (.call (.ref fa) ⟨[.ref sc], []⟩) (fun r s' => r = .ok (.ret (.bool true)) ∧ OldK s1.heap s'.heap ∧ s'.os = s1.os ∧ AllBare s'.gens) s1 := by
  have rv := vals_ints inS
  have go := law_core (P := P) (w := w) (k := k) (fa := fa) (sp := sp) inK glob blt blt2 lim gens there room F
  cases hk : K.lookup sc with
  | some o =>
    have e := inK sc o hk
    rw [there] at e
    cases e
    refine go (fun _ => none) (fun _ => .inl rfl) (fun b u z => by cases (show (none : Option HO) = some u from z)) (fun b z => absurd rfl z) (fun z => absurd rfl z) (prom _ ?_)
    refine .inr ⟨_, us.toArray, _, hk, rfl, rfl, rfl, ?_, by simpa using rv⟩
    rw [List.size_toArray, inS.length]
    exact len
  | none =>
    have at_ : (fun b => if b = sc then some (HO.frz { cls := .type "list", data := .seq us.toArray } (.lst (ns.map V.int))) else none) sc = some (.frz { cls := .type "list", data := .seq us.toArray } (.lst (ns.map V.int))) := if_pos rfl
    refine go (fun b => if b = sc then some (.frz { cls := .type "list", data := .seq us.toArray } (.lst (ns.map V.int))) else none) (fun b => ?_) (fun b u z => ?_) (fun b z => ?_) (fun _ => hk) (prom _ (.inl (.inr ⟨_, at_⟩)))
    · by_cases hb : b = sc
      · subst hb
        exact .inr ⟨_, _, at_⟩
      · exact .inl (if_neg hb)
    · by_cases hb : b = sc
      · subst hb
        rw [at_] at z
        cases z
        refine ⟨there, ?_, us, _, rv, there⟩
        rw [List.length_map]
        exact len
      · have no := (if_neg hb).symm.trans z
        cases no
    · refine Classical.byContradiction fun hb => z (if_neg hb)
end
/-- the goal that k_head leaves, from the law's promise -/
theorem walkG {l : PySem.W.OpenLaw} {n k : Nat} {q : Program} {loose : List Str} {XP : (Str → Option Value) → Heap → Prop} {YP : World → Heap → Prop} {d : DefRec} {K : Params → PySem.W.Frag} {sp : PySem.W.Frag → Sp}
    (hn : l.most = some n) (hn2 : n ≤ sizeLine) (hdf : d.params.defaults = []) (room : Room k callerA) (hY : ∀ (w : World) (h : Heap), YP w h → (K w.params).In h)
    (F : ∀ (w : World) (mg : Str → Option Value) (fa : Addr) (h : Heap), (K w.params).In h → h.Ns mainGlobals mg → mg d.name = some (.ref fa) → ∀ base : Heap, FnG l.prog w (K w.params) mg base CX0 k fa (sp (K w.params)))
    (prom : ∀ (K : PySem.W.Frag) (H : Hp) (a : Addr) (ns : List Int), ns.length ≤ n → SqL K H a (ns.map V.int) → sp K [.ref a] H (fun v _ => v = .bl true) E0) :
    PySem.W.WalkO q loose XP YP l.row.toRowW d [] (fun f vs => PySem.call f vs) := by
  refine Att.attach_call hn hdf fun w s0 s1 mg mb fa o pm cd doc a vs ns G Y ho hd hcd hmg hobj hints hlen hg => ?_
  have inK := hY w _ Y
  exact law_callG inK G.T.g G.T.b G.T.builtins G.T.nolimit hg hobj hints (Nat.le_trans hlen hn2) room (F w mg fa _ inK G.T.g hmg) fun H hS => prom _ H a ns hlen hS
end U
namespace U
open PySem PySem.Spec PyProof.Rows L2 StX
theorem callR_or {X : Cx} {f : Value} {r1 r2 : List V → Hp → VK → Prop} (h1 : CallR X f r1) (h2 : CallR X f r2) : CallR X f (fun xs H Q => r1 xs H Q ∨ r2 xs H Q) := by
  intro pins s σ H xs us Q I r h
  rcases h with h | h
  · exact h1 pins s σ H xs us Q I r h
  · exact h2 pins s σ H xs us Q I r h
theorem opR_or {X : Cx} {f : Value → Value → Sem Value} {r1 r2 : R2} (h1 : OpR X f r1) (h2 : OpR X f r2) : OpR X f (fun x y H Q => r1 x y H Q ∨ r2 x y H Q) := by
  intro pins s σ H x y v u Q I rx ry h
  rcases h with h | h
  · exact h1 pins s σ H x y v u Q I rx ry h
  · exact h2 pins s σ H x y v u Q I rx ry h
/-! ### defs called while an exception is handled -/
def FnHG (P : Program) (w : World) (K : PySem.W.Frag) (mg : Str → Option Value) (base : Heap) (CX : CXT) (k : Nat) (f : Addr) (sp : Sp) : Prop :=
  ∀ (A : Around) (outer : List Env) (s : Shared) (H : Hp) (us : List Value) (vs : List V) (Q : VK) (E : XK) (p : Addr × Obj), A.guards = some [] → L2H.RoomH k A → L2H.PinOk outer H s p → Env0 P w K mg base A outer s H → Vals vs us → sp vs H Q E → codeAny (model P w) A (.call (.ref f) ⟨us, []⟩) (CR CX outer P w H s Q E) s
section
variable {P : Program} {w : World} {K : PySem.W.Frag} {mg : Str → Option Value} {base : Heap} {CX : CXT} {k : Nat} {f : Addr} {sp : Sp}
theorem FnAt.okHG {x qual : Str} {st : Stmt} {N ps : List Str} (B : FnAt K x qual st f ps) (S : FnScope N ps (defScope st)) (len : ∀ vs H Q E, sp vs H Q E → vs.length = ps.length)
    (hbody : ∀ (cdv : Value) (A : Around) (outer : List Env) (s : Shared) (H : Hp) (vs : List V) (Q : VK) (E : XK) (p : Addr × Obj), A.guards = some [] → L2H.RoomH k (A.deeper (envOfC qual (defScope st) s.heap.objs.size f cdv)) → sp vs H Q E →
      ∃ t, PSs (L2H.cxH CX0 P w K mg base N qual (defScope st) f cdv A outer s H E p).nox (defBody st) t ∧ t { nx := fun _ H' => Q .non H', rt := Q } (start N vs) H) : FnHG P w K mg base CX0 (k + 1) f sp := by
  obtain ⟨fd, F, bi⟩ := B.ex
  intro A outer s H us vs Q E p g hr hp e0 r hs
  have hl := len _ _ _ _ hs
  have hb := bi s us (e0.mod.kin.keeps fun b o e => (e0.bs b o e).1) (by rw [List.append_nil, ← r.length]; exact hl)
  rw [List.append_nil] at hb
  obtain ⟨oc, od, kV, doc, pm, an, cdv, ct, osl, rfl, lk, hcd⟩ := F.ex
  have kin : K.In s.heap := e0.mod.kin.keeps fun b o e => (e0.bs b o e).1
  have lim : s.heap.NoLimit := e0.mod.nolimit.keeps fun b o e => (e0.bs b o e).1
  have names : ∀ y ∈ ps.zip us, (defScope st).names.lookup y.1 = some .local ∨ ((defScope st).names.lookup y.1 = some .cell ∧ ((cellsFrom (s.heap.objs.size + 1) (defScope st).names []).lookup y.1).isSome = true) := by
    rintro ⟨n, v⟩ hy
    rcases S.par n (List.of_mem_zip hy).1 with q | q
    · exact .inl q
    · exact .inr ⟨q, PySem.W.cellsFrom_some _ _ _ (.inl q)⟩
  refine codeAny_call_function hr.depth (kin _ _ lk) rfl S.co S.gen rfl (PySem.W.codeRec_of kin hcd) (hb _ _ _ _ ?_)
  refine wpAny_newFunctionEnv_cells S.kind names fun env he s1 z => ?_
  subst he
  refine ⟨lim.keeps z.toInCall.keep, codeAny_func ?_⟩
  obtain ⟨t, ht, hq⟩ := hbody cdv A outer s H vs Q E p g (hr.deeper _) hs
  have I : Inv (L2H.cxH CX0 P w K mg base N qual (defScope st) f cdv A outer s H E p) [] (start N vs) H s1 := L2H.inv_startH S hp e0 hl r z
  refine wpAny_mono (ht.nox.run [] s1 (start N vs) H _ I hq) (fun fl s' h' => ?_) fun _ _ h' => h'
  match fl, h' with
  | .ret u, ⟨v, σ', H', J, rv, q⟩ => exact ⟨v, H', J.os, J.bare, J.base, J.hok, rv, q⟩
  | .next, ⟨σ', H', J, q⟩ => exact ⟨.non, H', J.os, J.bare, J.base, J.hok, rfl, q⟩
  | .brk, ⟨_, _, _, q⟩ => exact q.elim
  | .cont, ⟨_, _, _, q⟩ => exact q.elim
end
/-- repr(x) in an except suite, x an instance with its own __repr__ -/
theorem call_reprOH {X : Cx} {CX : CXT} {n : Nat} {g C : Addr} {sp : Sp} {E : XK} {ea : Addr} {oe : Obj} {pn : List (Addr × Obj)} (gd : (X.suite ea ((ea, oe) :: pn)).A.guards = some []) (hs : PySem.W.findIn X.K (.ref C) "__repr__" = some (some (.ref g))) (hf : PySem.W.isFn X.K (.ref g) = true)
    (F : FnHG X.prog X.w X.K X.mg X.base CX n g sp) (hr : L2H.RoomH (n + 1) (X.suite ea ((ea, oe) :: pn)).A) (hx : Passes CX (X.suite ea ((ea, oe) :: pn)) E) : CallR (X.suite ea ((ea, oe) :: pn)) (.builtin "repr") (rReprO C sp E) := by
  intro pins s σ H xs us Q I r h
  obtain ⟨a, dx, fs, rfl, ha, q⟩ := h
  obtain ⟨u, rfl, ru⟩ := r.one
  cases (show u = Value.ref a from ru)
  obtain ⟨ox, od, J⟩ := ins_inst I ha
  obtain ⟨m, hF⟩ := I.fr
  have P1 := I.pin (ea, oe) (List.mem_append_left _ List.mem_cons_self)
  have hp : L2H.PinOk (X.suite ea ((ea, oe) :: pn)).stack H s (ea, oe) := ⟨P1.1, P1.2.1, fun hm => (List.mem_cons.mp (I.stkSub ea hm)).elim P1.2.2.1 P1.2.2.2.1, P1.2.2.2.2⟩
  have hun := hr.un
  have hr1 : L2H.RoomH n (X.suite ea ((ea, oe) :: pn)).A.in1 := ⟨by have := hr.dp; show (X.suite ea ((ea, oe) :: pn)).A.depth + 3 * n + 5 < _; omega, by show (X.suite ea ((ea, oe) :: pn)).A.units + 1 + 16 * n + 200 < _; omega⟩
  refine PySem.W.repr_K (by show (X.suite ea ((ea, oe) :: pn)).A.units + 1 < cLine; omega) hF I.ok.mod.kin J hs hf ?_
  refine wpAny_call ?_
  refine codeAny_mono (F (X.suite ea ((ea, oe) :: pn)).A.in1 (X.suite ea ((ea, oe) :: pn)).stack s H [.ref a] [.ref a] _ E (ea, oe) gd hr1 hp I.env0.in1 (.cons rfl .nil) q) fun z s' hq => ?_
  match z, hq with
  | .error er, hq => exact hx pins σ H s er s' I hq
  | .ok (.ret w), hq =>
    obtain ⟨v, H', I', rv, zt, ev, qz⟩ := I.after hq
    subst ev
    obtain ⟨tk, rfl⟩ := rv
    exact ⟨.str zt, H', I', ⟨tk, rfl⟩, qz⟩
  | .ok .next, hq => exact hq.elim
  | .ok .brk, hq => exact hq.elim
  | .ok .cont, hq => exact hq.elim
end U
namespace U
open PySem PySem.Spec PyProof.Rows L2 StX
theorem roomS {X : Cx} {a : Addr} {pn : List (Addr × Obj)} {k : Nat} (hr : Room k X.A) : L2H.RoomH k (X.suite a pn).A := ⟨hr.dp, hr.un⟩
/-- o.m(e, ..), what it raises told by the slots -/
def tMethRS (C : Addr) (m : Str) (sp : Sp) (E : L2.St → XK) (ta : TE) (t : TA) : TE := fun σ H Q => ta σ H fun x H1 => ∃ a dx fs, x = .ref a ∧ H1 a = some (.ins C dx fs) ∧ fs.lookup m = none ∧ t σ H1 fun vs H2 => sp (x :: vs) H2 Q (E σ)
theorem pe_methRS {X : Cx} {CX : CXT} {k : Nat} {C f : Addr} {m : Str} {sp : Sp} {E : L2.St → XK} {o e : Expr} {es : List Expr} {ta : TE} {t : TA} {apos pos : Pos} {pl : Sem Bool} (he : PE X o ta) (c : Cls X.K C) (hm : Meth X.K C m f)
    (F : FnR X.prog X.w X.K X.mg X.base CX k f sp) (hr : Room k X.A) (hx : ∀ σ, PassesAt CX X σ (E σ)) (ha : PA X (e :: es) t)
    (hst : starEach (e :: es) X.env = (false, eval e X.env) :: starEach es X.env := by rfl) (hpl : (backTo pos (starEach es X.env)).any (·.1) = false := by rfl)
    (ht : eval (.Call (.Attribute o m apos) (e :: es) [] pos) X.env = (do
        let ov ← eval o X.env
        standAt apos.atName
        let (f, first) ← holding [ov] (getMethod ov m pl)
        callWith pos f first (backTo pos (starEach (e :: es) X.env)) (backToKw pos (keywordEach [] X.env))) := by rfl) :
    PE X (.Call (.Attribute o m apos) (e :: es) [] pos) (tMethRS C m sp E ta t) := by
  refine ⟨fun pins s σ H Q I h => PySem.W.methodCall_KW (pl := pl) (thn (he.run pins s σ H _ I h) fun u s1 ⟨x, H1, I1, rx, a, dx, fs, ex, ea, l, q⟩ => ?_) ht⟩
  subst ex
  cases (show u = Value.ref a from rx)
  refine getmeth_ok I1 ea c hm l (PySem.W.callWith_K (first := [.ref a]) (h₀ := X.base) I.ok.mod.kin hm.kp (thn (ha.run pos pins s1 σ H1 _ I1 q) fun us s2 ⟨vs, H2, I2, r, q2⟩ => ⟨I2.kIn, ?_⟩) hst hpl)
  exact wpAny_call (run_RS (us := .ref a :: us) (vs := .ref a :: vs) F hr (hx σ) I2 (.cons rfl r) q2)
end U
namespace U
open PySem PySem.Spec PyProof.Rows L2 StX
section
variable {X : Cx} {CX : CXT} {C g : Addr} {n : Nat} {sp : Sp} {E : XK}
/-- x in o, by the own __contains__ -/
def rInO (C : Addr) (sp : Sp) (E : XK) : R2 := fun x y H Q => ∃ a dx fs, y = .ref a ∧ H a = some (.ins C dx fs) ∧ sp [y, x] H (fun z H' => ∃ c, z = .bl c ∧ Q (.bl c) H') E
theorem op_inO (hs : PySem.W.findIn X.K (.ref C) "__contains__" = some (some (.ref g))) (hf : PySem.W.isFn X.K (.ref g) = true) (F : FnR X.prog X.w X.K X.mg X.base CX n g sp)
    (hr : Room n X.A) (hx : Passes CX X E) : OpR X (compareOp .In) (rInO C sp E) := by
  intro pins s σ H x y v u Q I rx ry h
  obtain ⟨a, dx, vs, rfl, ha, q⟩ := h
  cases (show u = Value.ref a from ry)
  obtain ⟨ox, od, J⟩ := ins_inst I ha
  obtain ⟨m, hF⟩ := I.fr
  refine PySem.W.in_K hF I.ok.mod.kin J hs hf ?_
  refine wpAny_mono (wpAny_call (run_fnR (us := [.ref a, v]) (vs := [.ref a, x]) F hr hx I (.cons rfl (.cons rx .nil)) q)) (fun w s' z => ?_) fun _ _ x => x
  obtain ⟨z', H', I', rz, c, rfl, qz⟩ := z
  cases (show w = Value.bool c from rz)
  exact wpAny_pure ⟨.bl c, H', I', rfl, qz⟩
/-- o[x], by the own __getitem__, what it raises told by the slots -/
def tIxO (C : Addr) (sp : Sp) (E : L2.St → XK) (ta tb : TE) : TE := fun σ H Q => ta σ H fun x H1 => tb σ H1 fun y H2 => ∃ a dx fs, x = .ref a ∧ H2 a = some (.ins C dx fs) ∧ sp [x, y] H2 Q (E σ)
theorem pe_ixO {E : L2.St → XK} {ea eb : Expr} {ta tb : TE} {pos : Pos} (hs : PySem.W.findIn X.K (.ref C) "__getitem__" = some (some (.ref g))) (hfi : PySem.W.fnIn X.K g = true) (hf : PySem.W.isFn X.K (.ref g) = true) (F : FnR X.prog X.w X.K X.mg X.base CX n g sp)
    (hr : Room (n + 1) X.A) (hx : ∀ σ, PassesAt CX X σ (E σ)) (ha : PE X ea ta) (hb : PE X eb tb)
    (hsl : ∀ a i, subscripted eb true (.ref a) i = runValue (.builtin "lifetime.subscript" ⟨[.ref a, i], []⟩) := by intro a i; with_unfolding_all rfl) : PE X (.Subscript ea eb pos) (tIxO C sp E ta tb) := by
  refine ⟨fun pins s σ H Q I h => Subscript_ (binT ha hb I h fun v u s2 x y H2 I2 rx ry q => ?_)⟩
  obtain ⟨a, dx, vs, rfl, h1, q⟩ := q
  cases (show v = Value.ref a from rx)
  obtain ⟨ox, od, J⟩ := ins_inst I2 h1
  obtain ⟨m, hF⟩ := I2.fr
  refine PySem.W.sub_K hF I2.ok.mod.kin J hs hfi hf ?_ (hsl a u)
  refine wpAny_call (codeAny_mono (F X.A.in1 X.stack s2 H2 [.ref a, u] [.ref a, y] Q (E σ) (Room.in1 hr) I2.env0.in1 (.cons rfl (.cons ry .nil)) q) fun z s' hq => ?_)
  match z, hq with
  | .error er, hq => exact hx σ pins H2 s2 er s' I2 hq
  | .ok (.ret w), hq => exact I2.after hq
  | .ok .next, hq => exact hq.elim
  | .ok .brk, hq => exact hq.elim
  | .ok .cont, hq => exact hq.elim
end
end U
namespace U
open PySem PySem.Spec PyProof.Rows L2 StX PySem.W
section
variable {prog : Program} {w : World} {Ky : Type} [DecidableEq Ky] {knd : KeyKind prog w Ky} {A : Around} {E : Value → Shared → Prop} {s : Shared}
theorem alive_of {a : Addr} {Q : Option Obj → Shared → Prop} (h : Q (s.heap.get? a) s) : wpAny (model prog w) A (loadIfAlive a) Q E s := fun _ _ _ => h
/-- the next pair, whatever became of the tuple that was handed out first -/
theorem items_next1 {it d a : Addr} {f : Bool} {i ep : Nat} {kvs : List (Ky × Value)} {k : Ky} {v ok ov : Value} {Q : Option Value → Shared → Prop} (hit : KdxIt s.heap it d i kvs.length ep ok ov a f)
    (hm : s.heap.DictAt knd d kvs ep) (hx : kvs[i]? = some (k, v))
    (hQ : ∀ key h' ok' ov' a' f', knd.is k key = true → KdxIt h' it d (i + 1) kvs.length ep ok' ov' a' f' →
      h'.get? s.heap.objs.size = some { cls := .type "tuple", data := .seq #[key, v] } → h'.objs.size = s.heap.objs.size + 1 →
      (∀ b o, b ≠ it → s.heap.get? b = some o → h'.get? b = some o) → Q (some (.ref s.heap.objs.size)) { s with heap := h' }) :
    wpAny (model prog w) A (pyNext (.ref it)) Q E s := by
  obtain ⟨hp, g, dr, tk, os⟩ := s
  obtain ⟨od, es, hod, hcd, hdd, hk, hpr, hn⟩ := id hm
  have hT : Shared.TypeIs ⟨hp, g, dr, tk, os⟩ (.ref it) "dict_itemiterator" := ⟨_, hit, rfl⟩
  have hsz : es.size = kvs.length := by rw [← hpr.length]; simp
  have hlt : i < kvs.length := (List.getElem?_eq_some_iff.mp hx).1
  have hlt' : i < es.size := by rw [hsz]; exact hlt
  obtain ⟨hkey, hval⟩ := hpr.get? (e := es[i]) (by simp [hlt']) hx
  unfold pyNext
  refine wpAny_bind (wpAny_attempt (wpAny_callSpecial?_slot (name := Str.ofString "__next__") hT PySem.F.slot_dict_itemiterator_next
    (wpAny_call_entry PySem.F.slot_dict_itemiterator_next hT PySem.F.entry_dict_itemiterator_next ?_ (PySem.F.args_dict_itemiterator_next_1 _))))
  refine wpAny_bind (wpAny_pure (wpAny_bind (wpAny_bind ?_)))
  first | refine wpAny_bind (wpAny_typeNameOfWhole_itemiter hT (wpAny_pure ?_)) | refine wpAny_bind (wpAny_typeNameOf_itemiter hT (wpAny_pure ?_))
  refine wpAny_bind (wpAny_fieldsOf hit rfl ?_)
  simp only [show Builtin.Dict_items.ownsTuple "dict_itemiterator" = true by decide, if_true]
  show wpAny _ _ (if (Value.ref d == Value.none) = true then _ else _) _ _ _
  rw [if_neg (show ¬ ((Value.ref d == Value.none) = true) from Bool.false_ne_true)]
  refine wpAny_bind (wpAny_pure (wpAny_bind (wpAny_dictEntries hod hdd ?_)))
  rw [if_neg (by rw [hsz]; simp)]
  refine wpAny_bind (wpAny_pure (wpAny_bind (wpAny_dictEpoch hod hdd ?_)))
  rw [if_neg (by simp)]
  refine wpAny_pure ?_
  simp only [show ¬ ((i : Int) < 0) from by omega, if_false, Int.toNat_natCast, Array.getElem?_eq_getElem hlt']
  refine wpAny_bind ?_
  first | refine wpAny_bind (wpAny_typeNameOfWhole_itemiter hT (wpAny_pure ?_)) | refine wpAny_bind (wpAny_typeNameOf_itemiter hT (wpAny_pure ?_))
  refine wpAny_bind (wpAny_isOneOf_itemiter hT ?_)
  show wpAny _ _ (setField (.ref it) 3 (rawInt ((i : Int) + 1)) >>= _) _ _ ⟨hp, g, dr, tk, os⟩
  refine wpAny_bind (wpAny_setField_rec hit (by simp) fun h₁ he₁ hs₁ => ?_)
  replace hs₁ : Heap.SameBut it hp h₁ := hs₁
  replace he₁ : KdxIt h₁ it d (i + 1) kvs.length ep ok ov a f := by
    have e : ((i + 1 : Nat) : Int) = (i : Int) + 1 := by omega
    unfold KdxIt; rw [e]; simpa [rawInt] using he₁
  have hT₁ : Shared.TypeIs ⟨h₁, g, dr, tk, os⟩ (.ref it) "dict_itemiterator" := ⟨_, he₁, rfl⟩
  refine wpAny_bind (wpAny_holding (wpAny_bind (wpAny_isOneOf_itemiter hT₁ (wpAny_bind (wpAny_isOneOf_itemiter hT₁ ?_)))))
  show wpAny _ _ (Builtin.Dict_items.pairFromOwner (.ref it) 6 es[i].key es[i].val) _ _ ⟨h₁, g, dr, tk, os⟩
  unfold Builtin.Dict_items.pairFromOwner
  refine wpAny_bind (wpAny_newTuple ?_)
  have he₂ : KdxIt (h₁.push { cls := .type "tuple", data := .seq #[es[i].key, es[i].val] }) it d (i + 1) kvs.length ep ok ov a f := Heap.get?_push_of_some _ he₁
  generalize hh₂ : h₁.push { cls := .type "tuple", data := .seq #[es[i].key, es[i].val] } = h₂ at he₂
  have hz₁ : h₁.objs.size = hp.objs.size := hs₁.1
  have hil : it < hp.objs.size := Heap.lt_size hit
  have ht₂ : h₂.get? hp.objs.size = some { cls := .type "tuple", data := .seq #[es[i].key, es[i].val] } := by rw [← hh₂, ← hz₁]; exact Heap.get?_push_size _ rfl
  have hz₂ : h₂.objs.size = hp.objs.size + 1 := by rw [← hh₂, Heap.size_push, hz₁]
  have hk₂ : ∀ b o, b ≠ it → hp.get? b = some o → h₂.get? b = some o := fun b o hb e => by rw [← hh₂]; exact Heap.get?_push_of_some _ (hs₁.extBut b o hb e)
  show wpAny _ _ (Builtin.Dict_items.ownedTupleIsFree (.ref it) >>= _) _ _ ⟨h₂, g, dr, tk, os⟩
  rw [hz₁]
  clear hh₂ he₁ hs₁ hT₁ hz₁ h₁
  have fin : ∀ (h₃ : Heap) ok' ov' a' f', KdxIt h₃ it d (i + 1) kvs.length ep ok' ov' a' f' → Heap.SameBut it h₂ h₃ → Q (some (.ref hp.objs.size)) ⟨h₃, g, dr, tk, os⟩ := fun h₃ ok' ov' a' f' he₃ hs₃ =>
    hQ es[i].key h₃ ok' ov' a' f' hkey he₃ (by rw [← hval]; exact hs₃.extBut _ _ (Nat.ne_of_gt hil) ht₂) (by show h₃.objs.size = hp.objs.size + 1; rw [hs₃.1, hz₂]) fun b o hb e => hs₃.extBut b o hb (hk₂ b o hb e)
  refine wpAny_bind ?_
  unfold Builtin.Dict_items.ownedTupleIsFree
  refine wpAny_bind (wpAny_field he₂ rfl (x := rawInt a) rfl ?_)
  show wpAny _ _ (loadIfAlive ((a : Int).toNat) >>= _) _ _ _
  rw [Int.toNat_natCast]
  refine wpAny_bind (alive_of ?_)
  show wpAny _ _ (if (h₂.get? a).isNone = true then _ else _) _ _ _
  cases ha : h₂.get? a with
  | some oa =>
    simp only [Option.isNone_some, Bool.false_eq_true, if_false]
    refine wpAny_bind (wpAny_field he₂ rfl (x := .bool f) rfl ?_)
    cases f with
    | true =>
      rw [if_neg (show ¬ ((Value.bool true != Value.bool true) = true) from Bool.false_ne_true)]
      refine wpAny_pure ?_
      simp only [Bool.false_eq_true, if_false]
      exact wpAny_pure (wpAny_pure ⟨_, rfl, wpAny_pure (fin h₂ _ _ _ _ he₂ (Heap.SameBut.refl _ _))⟩)
    | false =>
      rw [if_pos (show (Value.bool false != Value.bool true) = true from rfl)]
      refine wpAny_bind (wpAny_setField_rec he₂ (by simp) fun h₃ he₃ hs₃ => ?_)
      replace hs₃ : Heap.SameBut it h₂ h₃ := hs₃
      replace he₃ : KdxIt h₃ it d (i + 1) kvs.length ep ok ov a true := he₃
      refine wpAny_pure ?_
      simp only [Bool.false_eq_true, if_false]
      exact wpAny_pure (wpAny_pure ⟨_, rfl, wpAny_pure (fin h₃ _ _ _ _ he₃ hs₃)⟩)
  | none =>
    simp only [Option.isNone_none, if_true]
    refine wpAny_pure ?_
    simp only [if_true]
    refine wpAny_bind (wpAny_field he₂ rfl (x := ok) rfl (wpAny_bind (wpAny_field he₂ rfl (x := ov) rfl ?_)))
    refine wpAny_bind (wpAny_setField_rec he₂ (by simp) fun h₃ he₃ hs₃ => ?_)
    replace hs₃ : Heap.SameBut it h₂ h₃ := hs₃
    replace he₃ : KdxIt h₃ it d (i + 1) kvs.length ep es[i].key ov a f := he₃
    refine wpAny_bind (wpAny_setField_rec he₃ (by simp) fun h₄ he₄ hs₄ => ?_)
    replace hs₄ : Heap.SameBut it h₃ h₄ := hs₄
    replace he₄ : KdxIt h₄ it d (i + 1) kvs.length ep es[i].key es[i].val a f := he₄
    refine wpAny_bind (wpAny_setField_rec he₄ (by simp) fun h₅ he₅ hs₅ => ?_)
    replace hs₅ : Heap.SameBut it h₄ h₅ := hs₅
    replace he₅ : KdxIt h₅ it d (i + 1) kvs.length ep es[i].key es[i].val hp.objs.size f := he₅
    refine wpAny_bind (wpAny_setField_rec he₅ (by simp) fun h₆ he₆ hs₆ => ?_)
    replace hs₆ : Heap.SameBut it h₅ h₆ := hs₆
    replace he₆ : KdxIt h₆ it d (i + 1) kvs.length ep es[i].key es[i].val hp.objs.size false := he₆
    exact wpAny_bind (wpAny_letGo (wpAny_pure (wpAny_pure ⟨_, rfl, wpAny_pure (fin h₆ _ _ _ _ he₆ ((hs₃.trans hs₄).trans (hs₅.trans hs₆)))⟩)))
end
section
variable {P : Program} {w : World} {K : PySem.W.Frag} {d : Addr} {o : Obj} {es : Array DictEntry} {ep : Nat}
def ItSt (h : Heap) (it d : Addr) (i n ep : Nat) : Prop := (∃ ok ov, IsItemIter h it d i n ep ok ov) ∨ ∃ ok ov a f, KdxIt h it d i n ep ok ov a f
theorem turn_items1 {kvs : List (Key × V)} {x : Str} {tpos : Pos} (it : Addr) (hod : o.data = .dict es ep) :
    Turn P w K (.Name x tpos) (Iti d o kvs) [it] it (fun i h => ItSt h it d i kvs.length ep) where
  mem := by simp
  obj := fun i h st b hb => by
    have e : b = it := by simpa using hb
    subst e
    rcases st with ⟨ok, ov, e⟩ | ⟨ok, ov, a, f, e⟩
    · exact ⟨_, e, fun v z => nomatch z⟩
    · exact ⟨_, e, fun v z => nomatch z⟩
  keep := fun i h h' st k => by
    rcases st with ⟨ok, ov, e⟩ | ⟨ok, ov, a, f, e⟩
    · exact .inl ⟨ok, ov, k it (by simp) _ e⟩
    · exact .inr ⟨ok, ov, a, f, k it (by simp) _ e⟩
  item := by
    intro X hP hw hK hc i pins s σ H E I hf st hg
    subst hP hw hK
    obtain ⟨hd, hi⟩ := hg
    obtain ⟨hs, hgd, hx, es', ep', vs, hdt, hsz, kv, hm⟩ := I.frzK hd
    obtain ⟨rfl, rfl⟩ := dict_ep hod hdt
    obtain ⟨⟨k, v⟩, hkv⟩ : ∃ p, kvs[i]? = some p := ⟨kvs[i], List.getElem?_eq_getElem hi⟩
    obtain ⟨u, hu, ru⟩ := kv_get kv hkv
    have hl : kvs.length = vs.length := Paired.length kv
    have fin : ∀ (key : Value) (h' : Heap), keyIs k key = true → ItSt h' it d (i + 1) kvs.length ep' → it < s.heap.objs.size → h'.get? s.heap.objs.size = some { cls := .type "tuple", data := .seq #[key, u] } →
        (∀ b o, b ≠ it → s.heap.get? b = some o → h'.get? b = some o) → ∃ x H', Inv X pins σ H' { s with heap := h' } ∧ RelV x (.ref s.heap.objs.size) ∧ (Iti d o kvs).yld i H x H' ∧ ItSt h' it d (i + 1) kvs.length ep' ∧ ∀ b ∈ [it], H' b = none := by
      intro key h' hkey st' hlt hT hk
      have new : ObjOk X.prog X.w (upd H s.heap.objs.size (.tup [kV k, v])) h' s.heap.objs.size (.tup [kV k, v]) :=
        ⟨by show 2 ≤ sizeLine; decide, [key, u], .cons (relV_key hkey) (.cons ru .nil), ⟨_, hT, rfl, _, rfl⟩⟩
      have I1 : Inv X pins σ (upd H s.heap.objs.size (.tup [kV k, v])) { s with heap := h' } :=
        I.turnedNew (t' := s.toks) (ch := [it]) (fun b ob hb e => hk b ob (by simpa using hb) e) hf (Nat.le_refl _) new
      refine ⟨.ref s.heap.objs.size, _, I1, rfl, ⟨_, k, v, hkv, rfl, I.hok.fresh (Nat.le_refl _), rfl⟩, st', fun b hb => ?_⟩
      have e : b = it := by simpa using hb
      rw [e, upd_ne (Nat.ne_of_lt hlt)]
      exact (hf it (by simp)).1
    rcases st with ⟨ok, ov, he⟩ | ⟨ok, ov, a, f, he⟩
    · have hlt : it < s.heap.objs.size := Heap.lt_size he
      rw [hl] at he
      refine wpAny_pyNext_items_item he hm hu fun key h' hkey ho hT hz hk => ⟨_, rfl, ?_⟩
      rw [← hl] at ho
      exact wpAny_pure (fin key h' hkey (.inr ⟨_, _, _, _, ho⟩) hlt hT hk)
    · have hlt : it < s.heap.objs.size := Heap.lt_size he
      rw [hl] at he
      refine items_next1 he hm hu fun key h' ok' ov' a' f' hkey ho hT hz hk => ⟨_, rfl, ?_⟩
      rw [← hl] at ho
      exact wpAny_pure (fin key h' hkey (.inr ⟨_, _, _, _, ho⟩) hlt hT hk)
  done := by
    intro X hP hw hK hc i pins s σ H E I hf st hg
    subst hP hw hK
    obtain ⟨hd, hi⟩ := hg
    obtain ⟨f0, f1, f2, f3, f4, f5⟩ := hf it (by simp)
    obtain ⟨hs, hgd, hx, es', ep', vs, hdt, hsz, kv, hm⟩ := I.frzK hd
    obtain ⟨rfl, rfl⟩ := dict_ep hod hdt
    have hl : kvs.length = vs.length := Paired.length kv
    rcases st with ⟨ok, ov, he⟩ | ⟨ok, ov, a, f, he⟩
    · rw [hl] at he
      exact wpAny_pyNext_items_end (I.ok.hd hc) he hm (List.getElem?_eq_none (by omega)) fun h' eb => ⟨rfl, I.turned (t' := s.toks) (fun b ob hb e => eb b ob hb e) f0 f1 f3 f4 f5⟩
    · rw [hl] at he
      exact kdx_end_out (I.ok.hd hc) he hm (List.getElem?_eq_none (by omega)) fun h' eb => ⟨rfl, I.turned (t' := s.toks) (fun b ob hb e => eb b ob hb e) f0 f1 f3 f4 f5⟩
  self := fun A i s Q E st h => by
    rcases st with ⟨_, _, e⟩ | ⟨_, _, _, _, e⟩
    · exact PySem.W.kcp_self e h
    · have hT : s.TypeIs (.ref it) "dict_itemiterator" := ⟨_, e, rfl⟩
      refine wpAny_pyIter_slot hT PySem.F.slot_dict_itemiterator_iter (wpAny_call_entry PySem.F.slot_dict_itemiterator_iter hT kcp_entry ?_ (PySem.F.args_dict_itemiterator_iter_1 _))
      show wpAny _ _ (ret (.ref it)) _ _ s
      exact wpAny_pure ⟨_, rfl, "dict_itemiterator", _, hT, PySem.F.slot_dict_itemiterator_next.lookup, h⟩
end
section
variable {X : Cx} {e : Expr} {td : TE} {apos cpos : Pos}
theorem pi_items1 {x : Str} {tpos : Pos} (he : PE X e td) (hbase : attributeBase e "items" X.env (eval e X.env) = eval e X.env := by rfl) (hline : (apos.endLine == cpos.line) = true := by rfl) :
    PI X (.Name x tpos) (.Call (.Attribute e "items" apos) [] [] cpos) (iItems td) := by
  refine ⟨fun pins s σ H R I h => ?_⟩
  refine wpAny_Call_method (T := "dict") (id := "dict.items") hbase rfl hline F.plainAttrs_dict F.slot_dict_items F.type_dict_items (thn (he.run pins s σ H _ I h) fun u s1 ⟨x, H1, I1, rx, d, o, kvs, ex, hd, q⟩ => ?_)
  subst ex
  obtain rfl : u = Value.ref d := rx
  obtain ⟨hs, hgd, hx, es, ep, vs, hdt, hsz, kv, hm⟩ := I1.frzK hd
  have hl : kvs.length = vs.length := Paired.length kv
  refine ⟨hm.dictOf.typeIs, hm.dictOf.mapOf.noDict, ?_⟩
  have I2 : Inv X pins σ H1 { s1 with heap := s1.heap.push { cls := .type "dict_items", data := .fields #[.ref d] } } := I1.kept (t' := s1.toks) fun b ob q => Heap.get?_push_of_some _ q
  show wpAny _ _ (callWith cpos (.builtin "dict.items") [.ref d] [] []) _ X.xe s1
  refine method_meetsIn F.slot_dict_items F.entry_dict_items rfl (PySem.evalArgs_none ⟨rfl, hm.dictOf.typeIs, F.args_dict_items_1 _, _, meets_dict_items (mixKind X.prog X.w) d hs, ⟨vs, hm.dictOf⟩, ?_⟩)
  refine wpAny_pyIter_items (d := d) (knd := mixKind X.prog X.w) ⟨_, Heap.get?_push_size _ rfl, rfl, rfl⟩ (hm.push _) (pi_one (tk := s1.toks) I2 _ (turn_items1 _ hdt) (.inl ⟨.none, .none, ?_⟩) q)
  rw [hl]
  exact Heap.get?_push_size _ rfl
end
end U
namespace U
open PySem PySem.Spec PyProof.Rows L2 StX
/-! ### x op i, the class's own, i an int -/
/-- what is asked of a class whose operator takes an int -/
structure BinT (K : PySem.W.Frag) (C : Addr) (op : Operator) : Prop where
  rc : ∃ r, PySem.W.findIn K (.ref C) (dunderR op.info.2) = some r ∧ (r = none ∨ ∃ g : Addr, r = some (.ref g))
  h1 : ∃ r, PySem.W.findIn K (.type "int") (PySem.dunder op.info.2) = some r
  h2 : ∃ r, PySem.W.findIn K (.type "int") (dunderR op.info.2) = some r
  sub : PySem.W.subIn K (.type "int") (.ref C) = some false
def rBinI (C : Addr) (sp : Sp) (E : XK) : R2 := fun x y H Q => ∃ a dx fs i, x = .ref a ∧ y = .int i ∧ H a = some (.ins C dx fs) ∧ sp [x, y] H Q E
section
variable {X : Cx} {CX : CXT} {C g : Addr} {n : Nat} {sp : Sp} {E : XK}
theorem op_binI {op : Operator} (hb : BinT X.K C op) (hc : PySem.W.selfFirst X.K C = true) (hs : PySem.W.findIn X.K (.ref C) (PySem.dunder op.info.2) = some (some (.ref g))) (hf : PySem.W.isFn X.K (.ref g) = true) (F : FnR X.prog X.w X.K X.mg X.base CX n g sp)
    (hr : Room n X.A) (hx : Passes CX X E) : OpR X (binaryOp op) (rBinI C sp E) := by
  intro pins s σ H x y v u Q I rx ry h
  obtain ⟨a, dx, vs, i, rfl, rfl, ha, q⟩ := h
  cases (show v = Value.ref a from rx)
  have ry' := ry
  obtain ⟨t, rfl⟩ := ry
  obtain ⟨ox, od, J⟩ := ins_inst I ha
  obtain ⟨m, hF⟩ := I.fr
  obtain ⟨rc, r1, r2⟩ := hb.rc
  obtain ⟨fo, r3⟩ := hb.h1
  obtain ⟨ro, r4⟩ := hb.h2
  refine PySem.W.ksp_binT (T := "int") hF I.ok.mod.kin J rfl hc hs hf r1 r2 r3 r4 hb.sub ?_
  refine wpAny_mono (wpAny_call (run_fnR (us := [.ref a, .int i t]) (vs := [.ref a, .int i]) F hr hx I (.cons rfl (.cons ry' .nil)) q)) (fun w s' z => ?_) fun _ _ x => x
  obtain ⟨z', H', I', rz, qz⟩ := z
  exact SlX.cmpback rz ⟨z', H', I', rz, qz⟩
end
/-! ### list(d.items()), the dict locked or not -/
def rItemsR : V → Hp → VK → Prop := fun x H Q => ∃ (d : Addr) (kvs : List (Key × V)), x = .ref d ∧ Rd H d (.dK kvs) ∧
  ∀ (H' : Hp) (p : Addr) (ts : List Addr), (∀ b o, H b = some o → H' b = some o) → H p = none → (∀ t ∈ ts, H t = none) → p ∉ ts → H' p = some (.lst (ts.map V.ref)) → Paired (fun (t : Addr) (q : Key × V) => H' t = some (.tup [kV q.1, q.2])) ts kvs → Q (.ref p) H'
def tItemsR (te : TE) : TE := fun σ H Q => te σ H fun x H1 => rItemsR x H1 Q
theorem pe_itemsR {X : Cx} {e : Expr} {te : TE} {p apos cpos pos : Pos} (hc : X.calm = true) (he : PE X e te) (hg : Gl X "list") (hm : X.mg "list" = none) (hv : bootBuiltins "list" = some (.type "list")) (hbase : attributeBase e "items" X.env (eval e X.env) = eval e X.env := by rfl) (hline : (apos.endLine == cpos.line) = true := by rfl)
    (hs : starEach [.Call (.Attribute e "items" apos) [] [] cpos] X.env = (false, eval (.Call (.Attribute e "items" apos) [] [] cpos) X.env) :: starEach [] X.env := by rfl) :
    PE X (.Call (.Name "list" p) [.Call (.Attribute e "items" apos) [] [] cpos] [] pos) (tItemsR te) := by
  refine ⟨fun pins s σ H Q I hq => wpAny_Call_Name_kw (ld_blt I hg hm hv (PyProof.Rows.callWith_type1 ?_ hs rfl))⟩
  rw [hs]
  show wpAny _ _ (spliced ((false, eval (.Call (.Attribute e "items" apos) [] [] cpos) X.env) :: backTo pos (starEach [] X.env))) _ _ s
  refine Calls.spliced_cons (wpAny_Call_method (T := "dict") (id := "dict.items") hbase rfl hline F.plainAttrs_dict F.slot_dict_items F.type_dict_items (thn (he.run pins s σ H _ I hq) fun u s1 ⟨x, H1, I1, rx, d, kvs, ex, hd, q⟩ => ?_))
  subst ex
  obtain rfl : u = Value.ref d := rx
  obtain ⟨hz, hs0, vs, kv, hdo⟩ := dk_rd I1.hok hd
  obtain ⟨ep, hat⟩ := hdo.dictAt
  have lk : kvs.length = vs.length := Paired.length kv
  have I2 : Inv X pins σ H1 { s1 with heap := s1.heap.push { cls := .type "dict_items", data := .fields #[.ref d] } } := I1.kept (t' := s1.toks) fun b ob q => Heap.get?_push_of_some _ q
  refine ⟨hdo.typeIs, hdo.mapOf.noDict, ?_⟩
  show wpAny _ _ (callWith cpos (.builtin "dict.items") [.ref d] [] []) _ X.xe s1
  refine method_meetsIn F.slot_dict_items F.entry_dict_items rfl (PySem.evalArgs_none ⟨rfl, hdo.typeIs, F.args_dict_items_1 _, _, meets_dict_items (mixKind X.prog X.w) d hs0, ⟨vs, hdo⟩, Calls.spliced_nil ?_⟩)
  refine PySem.W.kdx_call (knd := mixKind X.prog X.w) (kvs := vs) (ep := ep) (I1.ok.hd hc) ⟨_, Heap.get?_push_size _ rfl, rfl, rfl⟩ (hat.push _) (by omega) fun h' tk acc c as hk hS hl hG hacc => ?_
  obtain ⟨H', k1, k2, k3, k4, k5, k6, J⟩ := LiI.items_laid (tk := tk) I2 hz kv hk hS hl hG hacc
  exact ⟨.ref _, H', J, rfl, q H' _ as k1 k2 k3 k4 k5 k6⟩
end U
namespace U
open PySem PySem.Spec PyProof.Rows L2
/-! ### several clauses 'except x as n' -/
/-- what the clauses wish of an exception of the body, one after the other: class, slot of the name, suite -/
def wManyA (K : PySem.W.Frag) (Wout : WX) (D : Ends) : List (Value × Nat × (Addr → Value → Option Addr → TS)) → WX
  | [] => Wout
  | (c, i, ts) :: r => fun cls d σ H => ∃ b, PySem.W.exmOne K cls c = some b ∧
      (b = true → ∀ a, H a = none → ts a cls d { nx := fun σ' H' => D.nx (σ'.set i none) H', rt := D.rt, bk := fun σ' H' => D.bk (σ'.set i none) H', ct := fun σ' H' => D.ct (σ'.set i none) H' } (σ.set i (some (.ref a))) H) ∧
      (b = false → wManyA K Wout D r cls d σ H)
inductive HdsA (X : Cx) : List ExceptHandler → List (Value × Nat × (Addr → Value → Option Addr → TS)) → Prop
  | nil : HdsA X [] []
  | cons {x n : Str} {c : Value} {i : Nat} {ts : Addr → Value → Option Addr → TS} {b₀ : Stmt} {suite : List Stmt} {np pos' : Pos} {hds : List ExceptHandler} {l : List (Value × Nat × (Addr → Value → Option Addr → TS))} (hi : X.N[i]? = some n) (hln : X.env.kindOf n = some .local) (hc : Names X x c)
      (hsu : ∀ (a : Addr) (oe : Obj) (cls : Value) (d : Option Addr) (pn : List (Addr × Obj)), Zc cls d oe → (∃ vs, oe.data = .fields vs) → PSs (X.suite a ((a, oe) :: pn)) (b₀ :: suite) (ts a cls d)) (r : HdsA X hds l) :
      HdsA X (.ExceptHandler (some (.Name x np)) (some n) (b₀ :: suite) pos' :: hds) ((c, i, ts) :: l)
theorem ps_try_manyA {X : Cx} {body : List Stmt} {h₀ : ExceptHandler} {hds : List ExceptHandler} {l : List (Value × Nat × (Addr → Value → Option Addr → TS))} {pos : Pos} {tb : WX → TS} {Wout : WX}
    (hs : X.stack = X.env :: X.outer) (hf : X.env.frame = some X.env.locals) (hN : X.N.Nodup) (tk : Takes X Wout)
    (hb : ∀ (W : WX) (pn : List (Addr × Obj)) (xe : Value → Shared → Prop), Takes (X.tr pn xe) W → PassesOwn (model X.prog X.w) X.A X.env xe → PSs (X.tr pn xe) body (tb W))
    (hh : HdsA X (h₀ :: hds) l) : PS X (.Try body (h₀ :: hds) [] [] pos) (fun D σ H => tb (wManyA X.K Wout D l) D σ H) := by
  refine ⟨fun pins s σ H D I h => ?_⟩
  have ok := I.ok
  have hfr : X.A.frames = some (X.env :: X.outer) := by rw [ok.frames, hs]
  refine wpAny_Try_except ?_
  refine wpAny_mono ((hb (wManyA X.K Wout D l) (X.pn ++ pins) (fun e s₁ => wpAny (model X.prog X.w) X.A (noteFrame e X.env) (fun _ s₂ => wpAny (model X.prog X.w) X.A (setFlight e none) (fun _ s₃ =>
    wpAny (model X.prog X.w) X.A (handleBy e X.env (h₀ :: hds)) (SP X pins D) X.xe s₃) X.xe s₂) X.xe s₁) (fun u s' xx => ?_) PassesOwn.looking).run [] s σ H D (I.toTry _) h) (fun f s1 hsp => ?_) (fun e s1 he => he)
  · obtain ⟨a, B, sI, pins', σ', H', cls, d, rfl, J', nb, up, sky, na, os, ag, w⟩ := xx
    have J : Inv X pins σ' H' sI := J'.ofTry ok
    have sky' : Sky B (X.env :: X.outer) a (Zc cls d) X.env.locals s'.heap := by rw [← hs]; exact sky
    show wpAny (model X.prog X.w) X.A (noteFrame (.ref a) X.env) _ _ _
    refine Sky.land Zc.steady hfr hf sky' fun h3 fl3 up3 => ?_
    have J3 : Inv X pins σ' H' { s' with heap := h3 } := J.landed nb fl3.1 (up.trans up3) os ag
    obtain ⟨oe3, vs3, he3, hz3, hd3⟩ := fl3.there
    have notFr : ∀ {h : Heap} {o : Obj} {vs : Array Value}, h.FunFrames B (X.env :: X.outer) → h.get? a = some o → o.data = .fields vs → a ∉ frs (X.env :: X.outer) := fun {h o vs} ff e dd hm => by
      obtain ⟨_, o', e', hnf⟩ := ff.mem hm
      rw [e] at e'; cases e'
      exact hnf _ dd
    have nfr := notFr fl3.2.2.1 he3 hd3
    have nL : a ≠ X.env.locals := fun z => nfr (List.mem_filterMap.mpr ⟨X.env, List.mem_cons_self, by rw [hf, z]⟩)
    have nF : a ∉ X.fs := fun hm => by
      obtain ⟨e, he, q⟩ := List.mem_filterMap.mp hm
      exact nfr (List.mem_filterMap.mpr ⟨e, List.mem_cons_of_mem _ he, q⟩)
    have S3 := J3.suite he3 hd3 na nL nF
    have go : ∀ {hds' : List ExceptHandler} {l' : List (Value × Nat × (Addr → Value → Option Addr → TS))}, HdsA X hds' l' → wManyA X.K Wout D l' cls d σ' H' →
        wpAny (model X.prog X.w) X.A (handleBy (.ref a) X.env hds') (SP X pins D) X.xe { s' with heap := h3 } := by
      intro hds' l' hk
      induction hk with
      | nil =>
        intro w
        refine wpAny_handleBy_nil ?_
        obtain ⟨k1, k2, k3, oe, vs, T, oT, ts', he, hz, hd, h1, hr⟩ := id fl3
        unfold PySem.passOn
        refine wpAny_bind (wpAny_field he hd h1 ?_)
        rw [if_neg (show ¬ ((Value.ref T == Value.none) = true) from by simp)]
        have fin : wpAny (model X.prog X.w) X.A (setFlight (.ref a) X.env.frame) (fun _ s4 => wpAny (model X.prog X.w) X.A (throw (.ref a) : Sem Flow) (SP X pins D) X.xe s4) X.xe { s' with heap := h3 } := by
          rw [hf]
          refine HandSPX.setFlight_upZ fl3 fun h4 hh4 up4 => wpAny_throw (tk _ _ ?_)
          exact ⟨a, B, sI, pins, σ', H', cls, d, rfl, J, nb, (up.trans up3).trans up4, .inr (.inr (by rw [hs]; exact hh4)), na, os, ag, w⟩
        first
          | exact wpAny_bind (wpAny_pure (wpAny_bind fin))
          | exact wpAny_bind fin
      | @cons x n c i ts b₀ suite np pos' hds2 l2 hi hln hc hsu r ih =>
        intro w
        obtain ⟨b, hb1, hyes, hno⟩ := w
        have hloc : Loc X.env.scope n := .inl hln
        refine wpAny_handleBy_cons (codeAny_handlers_test ?_) (by intro q; cases q)
        have LT : PySem.W.Looks (model X.prog X.w) h3 (typeOf (.ref a)) cls := fun A Q E s k q => wpAny_typeOf_ref (k _ _ he3) (by rw [hz3.1]; exact q)
        have LM := PySem.W.exm_one (M := model X.prog X.w) (J3.kIn) LT hb1
        have test : ∀ {Q : Value → Shared → Prop} {E : Value → Shared → Prop}, Q c { s' with heap := h3 } → wpAny (model X.prog X.w) (X.A.mark (some (.ref a))) (eval (.Name x np) X.env) Q E { s' with heap := h3 } := fun {Q E} q => by
          obtain ⟨hg, hdbg, hm | ⟨hm, hv, hnn⟩⟩ := hc
          · exact ld_glob (X := X.suite a ((a, oe3) :: (X.pn ++ pins))) S3 hg hm q hdbg
          · exact ld_blt (X := X.suite a ((a, oe3) :: (X.pn ++ pins))) S3 hg hm hv q hnn hdbg
        refine test (LM.here ?_)
        cases b with
        | true =>
          refine codeAny_handlers_suite_as ?_
          refine HandSPX.lands_againZ fl3 fun h4 fl4 up4 => ?_
          have J4 : Inv X pins σ' H' { s' with heap := h4 } := J.landed nb fl4.1 ((up.trans up3).trans up4) os ag
          obtain ⟨oe4, vs4, he4, hz4, hd4⟩ := fl4.there
          have S4 := J4.suite he4 hd4 na nL nF
          refine store_ok (X := X.suite a ((a, oe4) :: (X.pn ++ pins))) (v := .ref a) S4 hN hi hloc rfl (fun s5 S5 => ?_) (.inr hln)
          refine wpAny_mono ((hsu a oe4 cls d (X.pn ++ pins) hz4 ⟨_, hd4⟩).run [] s5 _ H' _ S5 (hyes rfl a na)) (fun f s6 hsp => ?_) (fun _ _ z => False.elim z)
          have end_ : ∀ {σ6 : L2.St} {H6 : Hp} {Q : Shared → Prop}, Inv (X.suite a ((a, oe4) :: (X.pn ++ pins))) [] σ6 H6 s6 → (∀ s7, Inv X pins (σ6.set i none) H6 s7 → Q s7) →
              wpAny (model X.prog X.w) X.A (do bindName X.env n .none; unbindBehindTheSuite X.env n pos') (fun _ s7 => Q s7) X.xe s6 := fun {σ6 H6 Q} S6 hq => gone_ok (S6.unsuite ok) hN hi hln hq
          cases f with
          | next =>
            obtain ⟨σ6, H6, S6, q6⟩ := hsp
            exact end_ S6 fun s7 J7 => ⟨_, _, J7, q6⟩
          | brk =>
            obtain ⟨σ6, H6, S6, q6⟩ := hsp
            exact end_ S6 fun s7 J7 => ⟨_, _, J7, q6⟩
          | cont =>
            obtain ⟨σ6, H6, S6, q6⟩ := hsp
            exact end_ S6 fun s7 J7 => ⟨_, _, J7, q6⟩
          | ret u =>
            obtain ⟨v6, σ6, H6, S6, r6, q6⟩ := hsp
            exact end_ S6 fun s7 J7 => ⟨_, _, _, J7, r6, q6⟩
        | false =>
          show wpAny _ X.A (handleBy (.ref a) X.env hds2) _ _ _
          exact ih (hno rfl)
    exact go hh w
  · cases f with
    | next =>
      obtain ⟨σ', H', J', q⟩ := hsp
      exact wpAny_execs_nil ⟨σ', H', J'.ofTry ok, q⟩
    | brk =>
      obtain ⟨σ', H', J', q⟩ := hsp
      exact ⟨σ', H', J'.ofTry ok, q⟩
    | cont =>
      obtain ⟨σ', H', J', q⟩ := hsp
      exact ⟨σ', H', J'.ofTry ok, q⟩
    | ret u =>
      obtain ⟨v, σ', H', J', r, q⟩ := hsp
      exact ⟨v, σ', H', J'.ofTry ok, r, q⟩
end U
namespace U
open PySem L2
/-! ### facts of heaps, for the search -/
theorem carry {H H' : Hp} {a : Addr} {o : HO} (s : L2.Same H H') (h : H a = some o) : H' a = some o := s a o h
theorem carryNew {H : Hp} {p a : Addr} {o u : HO} (hp : H p = none) (h : H a = some u) : upd H p o a = some u := (Same.new hp) a u h
theorem freeUp {H : Hp} {p q : Addr} {o : HO} (h : upd H q o p = none) : H p = none := by
  by_cases e : p = q
  · subst e; rw [upd_same] at h; cases h
  · rw [upd_ne e] at h; exact h
theorem freeVia {H H' : Hp} {p : Addr} (s : L2.Same H H') (h : H' p = none) : H p = none := s.free h
theorem sameUp {H H1 : Hp} {p : Addr} {o : HO} (hp : H1 p = none) (s : L2.Same H H1) : L2.Same H (upd H1 p o) := s.trans (Same.new hp)
theorem sameVia {H H1 H2 : Hp} (b : L2.Same H1 H2) (a : L2.Same H H1) : L2.Same H H2 := a.trans b
theorem upd_facts {H H1 : Hp} {p : Addr} {o : HO} (h : upd H p o = H1) (n : H p = none) : L2.Same H H1 ∧ H1 p = some o := by
  subst h
  exact ⟨Same.new n, upd_same⟩
theorem nil_le : ([] : List V).length ≤ sizeLine := by decide
theorem one_le {a : V} : [a].length ≤ sizeLine := by show 1 ≤ sizeLine; decide
theorem two_le {a b : V} : [a, b].length ≤ sizeLine := by show 2 ≤ sizeLine; decide
theorem three_le {a b c : V} : [a, b, c].length ≤ sizeLine := by show 3 ≤ sizeLine; decide
theorem le_line {n : Nat} (h : n ≤ 100000) : n ≤ sizeLine := Nat.le_trans h (by decide)
theorem lt_line {n : Nat} (h : n ≤ 100000) : n < sizeLine := Nat.lt_of_le_of_lt h (by decide)
end U
namespace U
open PySem PySem.Spec PyProof.Rows L2 GQ PySem.SeqAt MeetsSeq MeetsSeq2 MeetsSeq3 SeqRoads2
open AutoSeq1 (wpAny_loadPart')
section
variable {prog : Program} {w : World} {A : Around} {R : Result → Shared → Prop}
/-- the two lists are equal item by item: != ends False -/
theorem ne_loop (l b : Addr) (N : Nat) (J : Nat → Shared → Prop) (step : ListI prog w A (fun e s' => R (.error e) s') l b N J) (done : ∀ s, J N s → R (.ok (.ret (.bool false))) s) :
    ∀ (left i : Nat), N - i = left → i ≤ N → ∀ s, J i s → wpAny (model prog w) A.in1 (Builtin.«list.__eq__.loop» ⟨[.ref l, .ref b, rawInt i, rawInt 3], []⟩) (FinOf prog w A R) (fun e s' => R (.error e) s') s := by
  intro left
  induction left with
  | zero =>
    intro i e1 e2 s j
    obtain ⟨its, its2, m, m2, g1, g2, z1, z2, _⟩ := step _ _ j
    have ei : i = N := by omega
    have out : R (.ok (.ret (.bool false))) s := done s (ei ▸ j)
    obtain ⟨hp, g, d, tk, os⟩ := s
    wp_walk using wpAny_loadPart' g1, wpAny_loadPart' g2
    have n1 : its[((i : Nat) : Int).toNat]? = none := by simp; omega
    have n2 : its2[((i : Nat) : Int).toNat]? = none := by simp; omega
    rw [n1, n2]
    wp_walk using wpAny_loadPart' g1, wpAny_loadPart' g2
    show R (.ok (.ret (.bool (its.size != its2.size)))) _
    rw [z1, z2]
    simpa using out
  | succ left ih =>
    intro i e1 e2 s j
    obtain ⟨its, its2, m, m2, g1, g2, z1, z2, turn⟩ := step _ _ j
    have l1 : i < its.size := by omega
    have l2 : i < its2.size := by omega
    have tn := turn l1 l2
    obtain ⟨hp, g, d, tk, os⟩ := s
    wp_walk using wpAny_loadPart' g1, wpAny_loadPart' g2
    have s1 : its[((i : Nat) : Int).toNat]? = some its[i] := by simp [l1]
    have s2 : its2[((i : Nat) : Int).toNat]? = some its2[i] := by simp [l2]
    have nx : ((i : Int) + 1) = ((i + 1 : Nat) : Int) := by omega
    rw [s1, s2]
    refine wpAny_bind (wpAny_mono tn (fun r s' h' => ?_) fun _ _ x => x)
    obtain ⟨rfl, j'⟩ := h'
    have again := ih (i + 1) (by omega) (by omega) s' j'
    obtain ⟨hp', g', d', tk', os'⟩ := s'
    wp_walk
    rw [nx]
    refine ⟨plainId_quiet plain_eq_loop _, codeAny_builtin entry_eq_loop ?_⟩
    rw [Around.under_plainId plain_eq_loop _]
    exact again
theorem ne_list (l b : Addr) (N : Nat) (J : Nat → Shared → Prop) (step : ListI prog w A (fun e s' => R (.error e) s') l b N J) (done : ∀ s, J N s → R (.ok (.ret (.bool false))) s) {s : Shared} (j : J 0 s) :
    wpAny (model prog w) A.in1 (Builtin.«list.__ne__» ⟨[.ref l, .ref b], []⟩) (FinOf prog w A R) (fun e s' => R (.error e) s') s := by
  obtain ⟨its, its2, m, m2, g1, g2, z1, z2, _⟩ := step _ _ j
  have loop := ne_loop (A := A) (R := R) l b N J step done _ 0 rfl (Nat.zero_le _) s j
  obtain ⟨hp, g, d, tk, os⟩ := s
  have sub := AutoSeq1.sub_list_list
  have same : ¬ (its.size != its2.size) = true := by simp [z1, z2]
  wp_walk using wpAny_loadPart' g1, wpAny_loadPart' g2
  refine ⟨plainId_quiet plain_eq_loop _, codeAny_builtin entry_eq_loop ?_⟩
  rw [Around.under_plainId plain_eq_loop _]
  exact loop
end
theorem rc_neL {prog : Program} {w : World} {A : Around} {E : Value → Shared → Prop} {s : Shared} {l b : Addr} {N : Nat} {Q : Value → Shared → Prop} (hu : A.units < cLine) (J : Nat → Shared → Prop) (step : ListI prog w A E l b N J)
    (done : ∀ s, J N s → Q (.bool false) s) (j : J 0 s) : wpAny (model prog w) A (richCompare .NotEq (.ref l) (.ref b)) Q E s := by
  obtain ⟨its, its2, m, m2, g1, g2, _⟩ := step _ _ j
  refine wpAny_richCompare_same_room (op := .NotEq) ⟨_, g1, rfl⟩ ⟨_, g2, rfl⟩ F.slot_list_ne (call_here F.slot_list_ne ⟨_, g1, rfl⟩ F.entry_list_ne (F.args_list_ne_2 _ _) ?_) hu
  refine ne_list (R := wants (fun v s' => v ≠ .notImplemented ∧ Q v s') E) l b N J step (fun s' q => ⟨?_, done s' q⟩) j
  intro z
  cases z
/-- x != y of two lists whose items are equal, one by one -/
def rNeL (D : Eqv) : R2 := fun x y H Q => DList D x y H ∧ ∀ H', L2.Same H H' → Q (.bl false) H'
theorem op_neL {X : Cx} {n : Nat} {D : Eqv} (mon : Mon D) (eq : EqG X n D) (room : Room (n + 1) X.A) : OpR X (compareOp .NotEq) (rNeL D) := by
  intro pins s σ H x y v u Q I rx ry h
  obtain ⟨⟨a, b, xs, ys, rfl, rfl, ha, hb, prs⟩, q⟩ := h
  cases (show v = Value.ref a from rx)
  cases (show u = Value.ref b from ry)
  have sub : Sub X (n + 1) X.A := ⟨room, rfl⟩
  show wpAny (model X.prog X.w) X.A (richCompare .NotEq (.ref a) (.ref b)) (EP X pins σ Q) X.xe s
  refine rc_neL (N := xs.length) room.units0 (fun _ s' => LoopI X pins σ H s') (fun i s' j => ?_) (fun s' j => ?_) ⟨H, I, Ext.rfl'⟩
  · obtain ⟨H1, I1, e1⟩ := id j
    obtain ⟨_, its, k, r, e⟩ := I1.hok a _ (e1 _ _ ha)
    obtain ⟨_, its2, k2, r2, e2⟩ := I1.hok b _ (e1 _ _ hb)
    refine ⟨its.toArray, its2.toArray, k, k2, e, e2, ?_, ?_, fun h1 h2 => turnG mon eq sub prs r r2 i h1 h2 s' j⟩
    · rw [List.size_toArray, ← r.length]
    · rw [List.size_toArray, ← r2.length, ← prs.1]
  · obtain ⟨H1, I1, e1⟩ := j
    exact ⟨.bl false, H1, I1, rfl, q H1 e1⟩
/-- len(o) by the own __len__ -/
def rLenO (C : Addr) (sp : Sp) (E : XK) : List V → Hp → VK → Prop := fun xs H Q => ∃ a dx fs, xs = [.ref a] ∧ H a = some (.ins C dx fs) ∧ sp [.ref a] H (fun v H' => ∃ i : Int, v = .int i ∧ 0 ≤ i ∧ i < 2 ^ 63 ∧ Q (.int i) H') E
theorem call_lenO {X : Cx} {CX : CXT} {n : Nat} {C g : Addr} {sp : Sp} {E : XK} (hs : PySem.W.findIn X.K (.ref C) "__len__" = some (some (.ref g))) (hf : PySem.W.isFn X.K (.ref g) = true) (F : FnR X.prog X.w X.K X.mg X.base CX n g sp) (hr : Room (n + 1) X.A) (hx : Passes CX X E) : CallR X (.builtin "len") (rLenO C sp E) := by
  intro pins s σ H xs us Q I r h
  obtain ⟨a, dx, fs, rfl, ha, q⟩ := h
  obtain rfl := Vals.ref1 r
  obtain ⟨ox, od, J⟩ := ins_inst I ha
  obtain ⟨m, hF⟩ := I.fr
  refine PySem.W.len_K hF I.ok.mod.kin J hs hf ?_
  refine wpAny_mono (wpAny_call (SlX.run_at (us := [.ref a]) (ws := [.ref a]) F (Room.in1 hr) I.env0.in1 hx I (.cons rfl .nil) q)) (fun w s' z => ?_) fun _ _ x => x
  obtain ⟨z', H', I', rz, i, ez, i0, i1, qz⟩ := z
  subst ez
  obtain ⟨t, ew⟩ : ∃ t, w = Value.int i t := rz
  subst ew
  exact ⟨⟨i0, i1⟩, .int i, H', I'.tok _, ⟨_, rfl⟩, qz⟩
/-! ### defs with a star parameter -/
structure StarAt (K : PySem.W.Frag) (x qual : Str) (st : Stmt) (f : Addr) (ps : List Str) (pv : Str) : Prop where
  ex : ∃ fd, Fun K x qual st f fd ∧ ∀ us rest : List Value, us.length = ps.length → bindArgs fd ⟨us ++ rest, []⟩ = (newTuple rest >>= fun t => pure (ps.zip us ++ [(pv, t)]))
theorem StarAt.kp {K : PySem.W.Frag} {x qual : Str} {st : Stmt} {f : Addr} {ps : List Str} {pv : Str} (A : StarAt K x qual st f ps pv) : PySem.W.keepIn K (.ref f) = true := by
  obtain ⟨_, F, _⟩ := A.ex
  exact F.kp
/-- what is asked of the arguments: the named ones, then a new tuple of the rest -/
def spStar (n : Nat) (sp : Sp) : Sp := fun vs H Q E => ∃ ws rest, vs = ws ++ rest ∧ ws.length = n ∧ rest.length ≤ sizeLine ∧ ∀ p, H p = none → sp (ws ++ [V.ref p]) (upd H p (.tup rest)) Q E
section
variable {P : Program} {w : World} {K : PySem.W.Frag} {mg : Str → Option Value} {base : Heap} {x qual pv : Str} {st : Stmt} {f : Addr} {N ps : List Str} {k : Nat} {sp : Sp}
theorem StarAt.okX (B : StarAt K x qual st f ps pv) (S : FnScope N (ps ++ [pv]) (defScope st))
    (walk : ∀ (cdv : Value) (A : Around) (outer : List Env) (s : Shared) (H : Hp) (vs : List V) (Q : VK) (E : XK), Room k (A.deeper (envOfC qual (defScope st) s.heap.objs.size f cdv)) → sp vs H Q E →
      ∃ t, PSs (cxOf (L2.CX P w) P w K mg base N qual (defScope st) f cdv A outer s H E) (defBody st) t ∧ t { nx := fun _ H' => Q .non H', rt := Q } (start N vs) H) : FnR P w K mg base (L2.CX P w) (k + 1) f (spStar ps.length sp) := by
  obtain ⟨fd, F, hb⟩ := B.ex
  obtain ⟨oc, od, kV, doc, pm, an, cdv, ct, osl, rfl, lk, hcd⟩ := F.ex
  exact StX.fn_star lk hcd S StX.cxUp hb fun A outer s H vs Q E hr h => walk cdv A outer s H vs Q E hr h
theorem StarAt.ok (B : StarAt K x qual st f ps pv) (S : FnScope N (ps ++ [pv]) (defScope st))
    (walk : ∀ (cdv : Value) (A : Around) (outer : List Env) (s : Shared) (H : Hp) (vs : List V) (Q : VK) (E : XK), Room k (A.deeper (envOfC qual (defScope st) s.heap.objs.size f cdv)) → sp vs H Q E →
      ∃ t, PSs (cxOf CX0 P w K mg base N qual (defScope st) f cdv A outer s H E).nox (defBody st) t ∧ t { nx := fun _ H' => Q .non H', rt := Q } (start N vs) H) : FnR P w K mg base CX0 (k + 1) f (spStar ps.length sp) := by
  obtain ⟨fd, F, hb⟩ := B.ex
  obtain ⟨oc, od, kV, doc, pm, an, cdv, ct, osl, rfl, lk, hcd⟩ := F.ex
  refine StX.fn_star lk hcd S StX.cxUp_none hb fun A outer s H vs Q E hr h => ?_
  obtain ⟨t, a, b⟩ := walk cdv A outer s H vs Q E hr h
  exact ⟨t, a.nox, b⟩
end
theorem bind_star0 {B : List Value → Sem (List (Str × Value))} {pv : Str} (h0 : B [] = (newTuple [] >>= fun t => pure [(pv, t)])) (h1 : ∀ r rs, B (r :: rs) = (newTuple (r :: rs) >>= fun t => pure [(pv, t)])) :
    ∀ us rest : List Value, us.length = ([] : List Str).length → B (us ++ rest) = (newTuple rest >>= fun t => pure (([] : List Str).zip us ++ [(pv, t)]))
  | [], [], _ => h0
  | [], r :: rs, _ => h1 r rs
/-! ### == by an own __eq__, inside lists and tuples -/
theorem rcG_own {X : Cx} {CX : CXT} {n : Nat} {C f : Addr} {R : Addr → Addr → Hp → Prop} {E : XK} (F : FnR X.prog X.w X.K X.mg X.base CX n f (spEq R))
    (hs : PySem.W.findIn X.K (.ref C) "__eq__" = some (some (.ref f))) (hf : PySem.W.isFn X.K (.ref f) = true) (hx : Passes CX X E) : RcG X n (DIns C R) := by
  intro A pins s σ H x y u v sub I rx ry d
  obtain ⟨a, b, dx, dy, fs, gs, rfl, rfl, ha, hb, r⟩ := d
  cases (show u = Value.ref a from rx)
  cases (show v = Value.ref b from ry)
  obtain ⟨ox, od, J⟩ := ins_inst I ha
  obtain ⟨oy, od', J'⟩ := ins_inst I hb
  obtain ⟨m, hF⟩ := I.fr
  have e := I.env0
  have e0 : Env0 X.prog X.w X.K X.mg X.base A X.stack s H := ⟨by rw [sub.fr]; exact e.frames, e.mod, e.bs, e.bsz, e.funs, e.frf, e.hok, e.bare⟩
  refine PySem.W.cmp_K (op := .Eq) (tb := .ref C) sub.room.units0 hF I.ok.mod.kin J J'.type (notFirst_self _ _) hs hf ?_
  refine wpAny_mono (wpAny_call (SlX.run_at (us := [.ref a, .ref b]) (ws := [.ref a, .ref b]) (Q := fun v H' => v = .bl true ∧ L2.Same H H') F sub.room e0 hx I (.cons rfl (.cons rfl .nil)) ⟨a, b, rfl, r, fun H' ex => ⟨rfl, ex⟩⟩)) (fun w s' z => ?_) fun _ _ x => x
  obtain ⟨z', H', I', rz, rfl, ex⟩ := z
  cases (show w = Value.bool true from rz)
  exact ⟨rfl, H', I', ex⟩
theorem eqG_own {X : Cx} {CX : CXT} {n : Nat} {C f : Addr} {R : Addr → Addr → Hp → Prop} {E : XK} (F : FnR X.prog X.w X.K X.mg X.base CX n f (spEq R))
    (hs : PySem.W.findIn X.K (.ref C) "__eq__" = some (some (.ref f))) (hf : PySem.W.isFn X.K (.ref f) = true) (hx : Passes CX X E) : EqG X n (DIns C R) :=
  (rcG_own F hs hf hx).eqG fun _ _ _ ⟨a, b, _, _, _, _, h1, h2, _⟩ => ⟨a, b, h1, h2⟩
end U
namespace U
open PySem PySem.Spec PyProof.Rows L2 StX LamX
/-! ### defs with lambdas: the code object's place is told -/
structure CodeAt (K : PySem.W.Frag) (x qual : Str) (st : Stmt) (f c : Addr) (ps : List Str) : Prop where
  ex : ∃ (oc : Value) (od : Option Addr) (kV doc pm : Value) (an : Option Addr) (ct : Value) (osl : Array (Option Value)),
    K.lookup f = some ⟨oc, od, .func (PySem.W.fnOf x qual (defArgs st) (defBody st) (defScope st) .none kV doc pm an (.ref c) ct), osl⟩ ∧ PySem.W.codeIn K (.ref c) qual = true ∧ Binds K (PySem.W.fnOf x qual (defArgs st) (defBody st) (defScope st) .none kV doc pm an (.ref c) ct) ps []
section
variable {P : Program} {w : World} {K : PySem.W.Frag} {mg : Str → Option Value} {base : Heap} {k : Nat} {f c : Addr} {sp : Sp} {x qual : Str} {st : Stmt} {N ps : List Str}
theorem CodeAt.okG (B : CodeAt K x qual st f c ps) (S : FnScope N ps (defScope st)) (len : ∀ vs H Q E, sp vs H Q E → vs.length = ps.length)
    (walk : ∀ (A : Around) (outer : List Env) (s : Shared) (H : Hp) (vs : List V) (Q : VK) (E : XK), A.guards = some [] → Room k (A.deeper (envOfC qual (defScope st) s.heap.objs.size f (.ref c))) → sp vs H Q E →
      ∃ t, PSs (cxOf CX0 P w K mg base N qual (defScope st) f (.ref c) A outer s H E).nox (defBody st) t ∧ t { nx := fun _ H' => Q .non H', rt := Q } (start N vs) H) : FnG P w K mg base CX0 (k + 1) f sp := by
  obtain ⟨oc, od, kV, doc, pm, an, ct, osl, lk, hcd, bi⟩ := B.ex
  intro A outer s H us vs Q E g hr e0 r hs
  have hl := len _ _ _ _ hs
  have kin : K.In s.heap := e0.mod.kin.keeps fun b o e => (e0.bs b o e).1
  have lim : s.heap.NoLimit := e0.mod.nolimit.keeps fun b o e => (e0.bs b o e).1
  have names : ∀ y ∈ ps.zip us, (defScope st).names.lookup y.1 = some .local ∨ ((defScope st).names.lookup y.1 = some .cell ∧ ((cellsFrom (s.heap.objs.size + 1) (defScope st).names []).lookup y.1).isSome = true) := by
    rintro ⟨n, v⟩ hy
    rcases S.par n (List.of_mem_zip hy).1 with q | q
    · exact .inl q
    · exact .inr ⟨q, PySem.W.cellsFrom_some _ _ _ (.inl q)⟩
  have hb : BindsTo s (PySem.W.fnOf x qual (defArgs st) (defBody st) (defScope st) .none kV doc pm an (.ref c) ct) ⟨us, []⟩ (ps.zip us) := by
    have := bi s us kin (by rw [List.append_nil, ← r.length]; exact hl)
    rw [List.append_nil] at this
    exact this
  refine codeAny_call_function hr.depth (kin _ _ lk) rfl S.co S.gen rfl (PySem.W.codeRec_of kin hcd) (hb _ _ _ _ ?_)
  refine wpAny_newFunctionEnv_cells S.kind names fun env he s1 z => ?_
  subst he
  refine ⟨lim.keeps z.toInCall.keep, codeAny_func ?_⟩
  obtain ⟨t, ht, hq⟩ := walk A outer s H vs Q E g (hr.deeper _) hs
  have I : Inv (cxOf CX0 P w K mg base N qual (defScope st) f (.ref c) A outer s H E) [] (start N vs) H s1 := inv_start S hr.hd e0 hl r z
  refine wpAny_mono (ht.nox.run [] s1 (start N vs) H _ I hq) (fun fl s' h' => ?_) fun _ _ h' => h'
  match fl, h' with
  | .ret u, ⟨v, σ', H', J, rv, q⟩ => exact ⟨v, H', J.os, J.bare, J.base, J.hok, rv, q⟩
  | .next, ⟨σ', H', J, q⟩ => exact ⟨.non, H', J.os, J.bare, J.base, J.hok, rfl, q⟩
  | .brk, ⟨_, _, _, q⟩ => exact q.elim
  | .cont, ⟨_, _, _, q⟩ => exact q.elim
end
/-! ### the law's call, tables tracked -/
section
variable {P : Program} {w : World} {K : PySem.W.Frag} {mg mb : Str → Option Value} {k : Nat} {fa sc : Addr} {sp : Sp} {s1 : Shared} {us : List Value} {ns : List Int} {cs : List (Addr × Addr)}
theorem law_coreT (inK : K.In s1.heap) (glob : s1.heap.Ns mainGlobals mg) (blt : s1.heap.Ns builtinsNs mb) (blt2 : ∀ x : Str, x ≠ "__name__" → mb x = bootBuiltins x) (lim : s1.heap.NoLimit) (gens : s1.gens = #[])
    (tabs : ∀ p ∈ cs, s1.heap.get? p.2 = some { cls := .none, data := .fields #[] }) (offT : ∀ p ∈ cs, K.lookup p.2 = none) (code : ∀ p ∈ cs, PySem.W.CodeHd s1.heap p.1 p.2)
    (bmod : ∃ (bm : Addr) (ob : Obj), mg "__builtins__" = some (.ref bm) ∧ bm ≠ builtinsNs ∧ s1.heap.get? bm = some ob ∧ ob.cls = .type "module" ∧ ob.dict = some builtinsNs ∧ ob.data = .plain)
    (there : s1.heap.get? sc = some { cls := .type "list", data := .seq us.toArray }) (room : Room k callerA)
    (F : ∀ base : Heap, (∀ p ∈ cs, TabB base mg p.1 p.2) → FnG P w K mg base CX0 k fa sp)
    (H : Hp) (tbl : ∀ p ∈ cs, H p.2 = some (.tbl #[])) (only : ∀ b, H b = none ∨ (∃ p ∈ cs, b = p.2) ∨ ∃ o xs, H b = some (.frz o (.lst xs))) (hok : HOk P w H s1.heap) (just : ∀ b, H b ≠ none → b = sc ∨ ∃ p ∈ cs, b = p.2) (offK : H sc ≠ none → K.lookup sc = none)
    (prom : sp [.ref sc] H (fun v _ => v = .bl true) E0) :
    codeAny (model P w) callerA (.call (.ref fa) ⟨[.ref sc], []⟩) (fun r s' => r = .ok (.ret (.bool true)) ∧ OldK s1.heap s'.heap ∧ s'.os = s1.os ∧ AllBare s'.gens) s1 := by
  -- what is neither a list nor a bare record is not tracked
  have free : ∀ {b : Addr} {o : Obj}, s1.heap.get? b = some o → (∀ vs n, o.data ≠ .seq vs n) → o.data ≠ .fields #[] → H b = none := by
    intro b o e h1 h2
    cases hb : H b with
    | none => rfl
    | some u =>
      rcases just b (by rw [hb]; intro z; cases z) with z | ⟨p, hp, z⟩
      · rw [z, there] at e; cases e; exact absurd rfl (h1 _ _)
      · rw [z, tabs p hp] at e; cases e; exact absurd rfl h2
  have spaces : ∀ {b : Addr} {m : Str → Option Value}, s1.heap.Ns b m → (hidT s1.heap H).Ns b m := by
    rintro b m ⟨o, es, ep, e, d, r⟩
    refine ⟨o, es, ep, hidT_get e (free e ?_ ?_), d, r⟩
    · intro vs n z; rw [d] at z; cases z
    · intro z; rw [d] at z; cases z
  have inB : K.In (hidT s1.heap H) := by
    intro b o e
    refine hidT_get (inK b o e) ?_
    cases hb : H b with
    | none => rfl
    | some u =>
      rcases just b (by rw [hb]; intro z; cases z) with z | ⟨p, hp, z⟩
      · subst z
        have q := offK (by rw [hb]; intro z; cases z)
        rw [e] at q; cases q
      · rw [z, offT p hp] at e; cases e
  have md : Mod K mg (hidT s1.heap H) := by
    obtain ⟨mc, l1, l2⟩ := lim
    exact ⟨inB, spaces glob, ⟨mb, spaces blt, blt2⟩, ⟨mc, spaces l1, l2⟩⟩
  have tb : ∀ p ∈ cs, TabB (hidT s1.heap H) mg p.1 p.2 := by
    intro p hp
    have hT := tabs p hp
    refine ⟨?_, ?_, ?_⟩
    · obtain ⟨o, vs, file, tf, flags, tg, inF, text, tt, e1, r1, r2, r3, r⟩ := code p hp
      refine ⟨o, vs, file, tf, flags, tg, inF, text, tt, hidT_get e1 (free e1 ?_ ?_), r1, r2, r3, r⟩
      · intro vs n z; rw [r2] at z; cases z
      · intro z; rw [r2] at z; cases z; simp at r3
    · obtain ⟨bm, ob, b1, b2, b3, b4, b5, b6⟩ := bmod
      have nG : bm ≠ mainGlobals := by
        rintro rfl
        obtain ⟨o, es, ep, e, d, _⟩ := glob
        rw [e] at b3; cases b3; rw [d] at b6; cases b6
      have nP : bm ≠ p.2 := by
        intro z
        rw [z, hT] at b3; cases b3; cases b6
      refine ⟨bm, ob, b1, b2, nG, nP, hidT_get b3 (free b3 ?_ ?_), b4, b5, b6⟩
      · intro vs n z; rw [b6] at z; cases z
      · intro z; rw [b6] at z; cases z
    · intro z
      obtain ⟨o, es, ep, e, d, _⟩ := glob
      rw [z, hT] at e; cases e; cases d
  have env : Env0 P w K mg (hidT s1.heap H) callerA [] s1 H := by
    refine ⟨rfl, md, fun b o e => of_hidT e, Nat.le_of_eq (hidT_size _ _), trivial, fun b hb => ?_, hok, .of_eq gens⟩
    exact absurd hb List.not_mem_nil
  refine codeAny_mono (F (hidT s1.heap H) tb callerA [] s1 H [.ref sc] [.ref sc] (fun v _ => v = .bl true) E0 rfl room env (.cons rfl .nil) prom) fun r s' h => ?_
  match r, h with
  | .error e, h => exact h.elim
  | .ok .next, h => exact h.elim
  | .ok .brk, h => exact h.elim
  | .ok .cont, h => exact h.elim
  | .ok (.ret u), ⟨v, H', os, bare, un, hok', rv, q⟩ =>
    subst q
    cases (show u = Value.bool true from rv)
    have rest : ∀ b o, (¬ ∃ p ∈ cs, b = p.2) → s1.heap.get? b = some o → s'.heap.get? b = some o := by
      intro b o nb e
      cases hb : H b with
      | none => exact un.keep b o e hb (fun z => absurd z List.not_mem_nil) (by simp)
      | some u =>
        rcases only b with z | z | ⟨ob, xs, z⟩
        · rw [hb] at z; cases z
        · exact absurd z nb
        · have a1 := (hok b _ z).1
          have a2 := (hok' b _ (un.frzs b ob _ z)).1
          rw [e] at a1
          cases a1
          exact a2
    have grown : ∀ p ∈ cs, ∃ more : Array Value, s'.heap.get? p.2 = some { cls := .none, data := .fields more } := by
      intro p hp
      obtain ⟨more, z⟩ := un.tbls p.2 #[] (tbl p hp)
      exact ⟨_, hok' p.2 _ z⟩
    refine ⟨rfl, ⟨fun b o e => ?_, fun b o e => ?_⟩, os, bare⟩
    · by_cases hb : ∃ p ∈ cs, b = p.2
      · obtain ⟨p, hp, rfl⟩ := hb
        obtain ⟨more, hm⟩ := grown p hp
        rw [tabs p hp] at e
        cases e
        refine .inr (.inl ⟨((code p hp).tab (tabs p hp)).isCodeTable, rfl, #[], more, rfl, ?_⟩)
        rw [Array.empty_append]
        exact hm
      · exact .inl (rest b o hb e)
    · by_cases hb : ∃ p ∈ cs, b = p.2
      · obtain ⟨p, hp, rfl⟩ := hb
        obtain ⟨more, hm⟩ := grown p hp
        exact ⟨_, hm⟩
      · exact ⟨o, rest b o hb e⟩
theorem law_callT (inK : K.In s1.heap) (glob : s1.heap.Ns mainGlobals mg) (blt : s1.heap.Ns builtinsNs mb) (blt2 : ∀ x : Str, x ≠ "__name__" → mb x = bootBuiltins x) (lim : s1.heap.NoLimit) (gens : s1.gens = #[])
    (tabs : ∀ p ∈ cs, s1.heap.get? p.2 = some { cls := .none, data := .fields #[] }) (offT : ∀ p ∈ cs, K.lookup p.2 = none) (code : ∀ p ∈ cs, PySem.W.CodeHd s1.heap p.1 p.2)
    (bmod : ∃ (bm : Addr) (ob : Obj), mg "__builtins__" = some (.ref bm) ∧ bm ≠ builtinsNs ∧ s1.heap.get? bm = some ob ∧ ob.cls = .type "module" ∧ ob.dict = some builtinsNs ∧ ob.data = .plain)
    (there : s1.heap.get? sc = some { cls := .type "list", data := .seq us.toArray }) (inS : IntsAre us ns) (len : ns.length ≤ sizeLine) (room : Room k callerA)
    (F : ∀ base : Heap, (∀ p ∈ cs, TabB base mg p.1 p.2) → FnG P w K mg base CX0 k fa sp)
    (prom : ∀ H : Hp, (∀ p ∈ cs, H p.2 = some (.tbl #[])) → SqL K H sc (ns.map V.int) → sp [.ref sc] H (fun v _ => v = .bl true) E0) :
    codeAny (model P w) callerA (.call (.ref fa) ⟨[.ref sc], []⟩) (fun r s' => r = .ok (.ret (.bool true)) ∧ OldK s1.heap s'.heap ∧ s'.os = s1.os ∧ AllBare s'.gens) s1 := by
  classical
  have rv := vals_ints inS
  have scT : ¬ ∃ p ∈ cs, sc = p.2 := by
    rintro ⟨p, hp, z⟩
    have q := tabs p hp
    rw [← z, there] at q
    have q' : Data.seq us.toArray _ = Data.fields #[] := congrArg Obj.data (Option.some.inj q)
    cases q'
  have go := law_coreT (P := P) (w := w) (k := k) (fa := fa) (sp := sp) inK glob blt blt2 lim gens tabs offT code bmod there room F
  cases hk : K.lookup sc with
  | some o =>
    have e := inK sc o hk
    rw [there] at e
    cases e
    have at_ : ∀ p ∈ cs, (fun b => if ∃ p ∈ cs, b = p.2 then some (HO.tbl #[]) else none) p.2 = some (.tbl #[]) := fun p hp => if_pos ⟨p, hp, rfl⟩
    refine go (fun b => if ∃ p ∈ cs, b = p.2 then some (.tbl #[]) else none) at_ (fun b => ?_) (fun b u z => ?_) (fun b z => ?_) (fun z => absurd (if_neg scT) z) (prom _ at_ ?_)
    · by_cases hb : ∃ p ∈ cs, b = p.2
      · exact .inr (.inl hb)
      · exact .inl (if_neg hb)
    · by_cases hb : ∃ p ∈ cs, b = p.2
      · have z' := (if_pos hb).symm.trans z
        cases z'
        obtain ⟨p, hp, rfl⟩ := hb
        exact tabs p hp
      · have z' := (if_neg hb).symm.trans z
        cases z'
    · by_cases hb : ∃ p ∈ cs, b = p.2
      · exact .inr hb
      · exact absurd (if_neg hb) z
    · refine .inr ⟨_, us.toArray, _, hk, rfl, rfl, rfl, ?_, by simpa using rv⟩
      rw [List.size_toArray, inS.length]
      exact len
  | none =>
    have at_ : ∀ p ∈ cs, (fun b => if b = sc then some (HO.frz { cls := .type "list", data := .seq us.toArray } (.lst (ns.map V.int))) else if ∃ p ∈ cs, b = p.2 then some (HO.tbl #[]) else none) p.2 = some (.tbl #[]) := fun p hp => (if_neg fun z => scT ⟨p, hp, z.symm⟩).trans (if_pos ⟨p, hp, rfl⟩)
    refine go (fun b => if b = sc then some (.frz { cls := .type "list", data := .seq us.toArray } (.lst (ns.map V.int))) else if ∃ p ∈ cs, b = p.2 then some (.tbl #[]) else none) at_ (fun b => ?_) (fun b u z => ?_) (fun b z => ?_) (fun _ => hk) (prom _ at_ (.inl (.inr ⟨_, if_pos rfl⟩)))
    · by_cases hs : b = sc
      · exact .inr (.inr ⟨_, _, if_pos hs⟩)
      · by_cases hb : ∃ p ∈ cs, b = p.2
        · exact .inr (.inl hb)
        · exact .inl ((if_neg hs).trans (if_neg hb))
    · by_cases hs : b = sc
      · have z' := (if_pos hs).symm.trans z
        cases z'
        subst hs
        refine ⟨there, ?_, us, _, rv, there⟩
        rw [List.length_map]
        exact len
      · have z1 := (if_neg hs).symm.trans z
        by_cases hb : ∃ p ∈ cs, b = p.2
        · have z' := (if_pos hb).symm.trans z1
          cases z'
          obtain ⟨p, hp, rfl⟩ := hb
          exact tabs p hp
        · have z' := (if_neg hb).symm.trans z1
          cases z'
    · by_cases hs : b = sc
      · exact .inl hs
      · by_cases hb : ∃ p ∈ cs, b = p.2
        · exact .inr hb
        · exact absurd ((if_neg hs).trans (if_neg hb)) z
end
/-- the goal that k_head leaves where the law has lambdas -/
theorem walkT {l : PySem.W.OpenLaw} {n k : Nat} {q : Program} {loose : List Str} {XP : (Str → Option Value) → Heap → Prop} {YP : World → Heap → Prop} {d : DefRec}
    (hn : l.most = some n) (hn2 : n ≤ sizeLine) (hdf : d.params.defaults = []) (room : Room k callerA)
    (F : ∀ (w : World) (mg : Str → Option Value) (fa : Addr) (h : Heap), YP w h → h.Ns mainGlobals mg → mg d.name = some (.ref fa) →
      ∃ (K : PySem.W.Frag) (cs : List (Addr × Addr)) (sp : Sp), K.In h ∧ (∀ p ∈ cs, h.get? p.2 = some { cls := .none, data := .fields #[] }) ∧ (∀ p ∈ cs, K.lookup p.2 = none) ∧ (∀ p ∈ cs, PySem.W.CodeHd h p.1 p.2) ∧
        (∀ base : Heap, (∀ p ∈ cs, TabB base mg p.1 p.2) → FnG l.prog w K mg base CX0 k fa sp) ∧
        ∀ (H : Hp) (a : Addr) (ns : List Int), ns.length ≤ n → (∀ p ∈ cs, H p.2 = some (.tbl #[])) → SqL K H a (ns.map V.int) → sp [.ref a] H (fun v _ => v = .bl true) E0) :
    PySem.W.WalkO q loose XP YP l.row.toRowW d [] (fun f vs => PySem.call f vs) := by
  refine Att.attach_call hn hdf fun w s0 s1 mg mb fa o pm cd doc a vs ns G Y ho hd hcd hmg hobj hints hlen hg => ?_
  obtain ⟨K, cs, sp, inK, tabs, offT, code, fn, prom⟩ := F w mg fa _ Y G.T.g hmg
  exact law_callT inK G.T.g G.T.b G.T.builtins G.T.nolimit hg tabs offT code G.T.bmain hobj hints (Nat.le_trans hlen hn2) room fn fun H hT hS => prom H a ns hlen hT hS
/-! ### what a lambda's caller makes of its exceptions -/
theorem takes_len {X : Cx} {W : WX} (t : Takes X W) : Takes X (fun c d σ H => σ.length = X.N.length → W c d σ H) := fun u s' ⟨a, B, sI, pins, σ, H, cls, d, e, I, nb, up, sky, na, os, ag, w⟩ => t u s' ⟨a, B, sI, pins, σ, H, cls, d, e, I, nb, up, sky, na, os, ag, w I.len⟩
theorem pe_actL {Z : Cx} {W : WX} {f c' : Addr} {q a : Str} {tl : XK → Hp → VK → Prop} {p1 p2 : Pos}
    (act : ∀ (W' : WX) (E : XK), Takes Z W' → (∀ cls d σ' H', E cls d H' → W' cls d σ' H') → PE Z (.Call (.Name a p1) [] [] p2) (fun σZ HZ Q => σZ[0]? = some (some (.ref f)) ∧ HZ c' = some (CodeO c' q) ∧ tl E HZ Q)) (tk : Takes Z W) :
    PE Z (.Call (.Name a p1) [] [] p2) (fun σZ HZ Q => σZ[0]? = some (some (.ref f)) ∧ HZ c' = some (CodeO c' q) ∧ tl (fun cls d H' => ∀ σ', σ'.length = Z.N.length → W cls d σ' H') HZ Q) :=
  act _ _ (takes_len tk) fun _ _ σ' _ h hl => h σ' hl
/-! ### heaps that grow but for the tables -/
theorem extN_at {H H' : Hp} {a : Addr} {o : HO} (x : ExtN H H') (h : H a = some o) (n : ∀ ps, o ≠ .tbl ps) : H' a = some o := x a o h n
end U
namespace U
open PySem PySem.Spec PyProof.Rows L2 StX LamX
section
variable {X : Cx} {CX : CXT} {k : Nat} {f C : Addr} {sp : Sp} {E : XK} {x : Str} {p pos : Pos} {e : Expr} {es : List Expr} {t : TA}
/-- x() -/
def tCall0 (sp : Sp) (E : XK) : TE := fun _ H Q => sp [] H Q E
theorem pe_call0R (F : FnR X.prog X.w X.K X.mg X.base CX k f sp) (hr : Room k X.A) (hk : PySem.W.keepIn X.K (.ref f) = true) (hg : Gl X x) (hm : X.mg x = some (.ref f)) (hx : Passes CX X E) (hdb : (x == ("__debug__" : Str)) = false := by decide) : PE X (.Call (.Name x p) [] [] pos) (tCall0 sp E) := by
  refine ⟨fun pins s σ H Q I h => ?_⟩
  refine wpAny_Call_Name_kw (ld_glob I hg hm ?_ hdb)
  exact PySem.W.callWith_K0 I.kIn hk (wpAny_call (run_fnR (us := []) F hr hx I .nil h))
theorem pe_call0G (F : FnG X.prog X.w X.K X.mg X.base CX k f sp) (g : X.A.guards = some []) (hr : Room k X.A) (hk : PySem.W.keepIn X.K (.ref f) = true) (hg : Gl X x) (hm : X.mg x = some (.ref f)) (hx : Passes CX X E) (hdb : (x == ("__debug__" : Str)) = false := by decide) : PE X (.Call (.Name x p) [] [] pos) (tCall0 sp E) := by
  refine ⟨fun pins s σ H Q I h => ?_⟩
  refine wpAny_Call_Name_kw (ld_glob I hg hm ?_ hdb)
  exact PySem.W.callWith_K0 I.kIn hk (wpAny_call (run_G (us := []) F g hr (fun pins H s e s' I c => hx pins σ H s e s' I c) I .nil h))
/-- C(e, ..) in a try: what __init__ raises is told by the slots -/
def tMakeRS (C : Addr) (sp : Sp) (E : L2.St → XK) (t : TA) : TE := fun σ H Q => t σ H fun vs H1 => ∀ x dx, H1 x = none → H1 dx = none → dx ≠ x →
  sp (V.ref x :: vs) (upd (upd H1 dx (.own x)) x (.ins C dx [])) (fun v H2 => v = .non ∧ Q (.ref x) H2) (E σ)
theorem pe_makeRS {E : L2.St → XK} (M : Mk X.K C f) (F : FnR X.prog X.w X.K X.mg X.base CX k f sp) (hr : Room (k + 1) X.A) (hg : Gl X x) (hm : X.mg x = some (.ref C)) (hx : ∀ σ, PassesAt CX X σ (E σ)) (ha : PA X (e :: es) t) (hdb : (x == ("__debug__" : Str)) = false := by decide)
    (he : starEach (e :: es) X.env = (false, eval e X.env) :: starEach es X.env := by rfl) (hpl : (backTo pos (starEach es X.env)).any (·.1) = false := by rfl) : PE X (.Call (.Name x p) (e :: es) [] pos) (tMakeRS C sp E t) := by
  refine ⟨fun pins s σ H Q I h => ?_⟩
  refine wpAny_Call_Name_kw (ld_glob I hg hm ?_ hdb)
  refine PySem.W.callWith_K (h₀ := X.base) I.ok.mod.kin M.kp (thn (ha.run pos pins s σ H _ I h) fun us s1 ⟨vs, H1, I1, r, q⟩ => ⟨I1.kIn, ?_⟩) he hpl
  have q2 := q (s1.heap.objs.size + 1) s1.heap.objs.size (I1.hok.fresh (Nat.le_succ _)) (I1.hok.fresh (Nat.le_refl _)) (Nat.ne_of_lt (Nat.lt_succ_self _))
  have J := Inv.made (C := C) I1
  have rr : Vals (V.ref (s1.heap.objs.size + 1) :: vs) (Value.ref (s1.heap.objs.size + 1) :: us) := .cons rfl r
  refine wpAny_call (make_map (f := f) I1.kIn M.makes M.init (beq_iff_eq.mp M.fn) (codeAny_mono (F _ X.stack _ _ (Value.ref (s1.heap.objs.size + 1) :: us) _ _ (E σ) (hr.make C us []) (J.env0.make C us []) rr q2) fun z s' hz => ?_))
  match z, hz with
  | .error er, hz => exact hx σ pins _ _ er s' J hz
  | .ok (.ret u), hz =>
    obtain ⟨v, H', J', rv, ev, q3⟩ := J.after hz
    subst ev
    exact ⟨rv, ⟨V.ref (s1.heap.objs.size + 1), H', J', rfl, q3⟩⟩
  | .ok .next, hz => exact False.elim hz
  | .ok .brk, hz => exact False.elim hz
  | .ok .cont, hz => exact False.elim hz
end
end U
namespace U
open PySem PySem.Spec PyProof.Rows L2
/-! ### x not in a tuple, data of any depth -/
def rNotInT (K : PySem.W.Frag) : R2 := fun x y H Q => ∃ (d : PyData) (p : Addr) (xs : List V) (ds : List PyData), y = .ref p ∧ Dp K H x d ∧ SqT K H p xs ∧ DpAll K H xs ds ∧ SeqAt.shaped d = true ∧ SeqAt.shaped (.list ds) = true ∧ Q (.bl (!ds.any fun z => PyData.eqv z d)) H
theorem op_notInT {X : Cx} (hu : X.A.units + 65 < cLine) : OpR X (compareOp .NotIn) (rNotInT X.K) := by
  intro pins s σ H x y v u Q I rx ry h
  obtain ⟨d, p, xs, ds, rfl, hd, hp, ha, sd, sl, q⟩ := h
  cases (show u = Value.ref p from ry)
  obtain ⟨as, r1⟩ := Dp.reads I d x v hd rx
  obtain ⟨its, rv, pl, hlen⟩ := I.tuple hp
  have lay : PyData.canLayAll0 ds = true := SeqAt.canLay_of_shaped sl
  have room : X.A.units + 1 + min (PyData.depthAll ds) d.depth < cLine := room_in_shaped sd hu
  obtain ⟨bs, r2⟩ := Dp.readsAll I ds _ its ha rv
  have hmap : its.map (SeqAt.readOf s.heap) = ds := SeqAt.readsAll_map ds its bs lay r2
  have items := SeqAt.items_eqAt (vs := its.toArray) (show ReadsAll s.heap its.toArray.toList ds bs from r2) r1 lay (SeqAt.canLay_of_shaped sd) room
  refine SeqAt.notIn_tupleAt (fun w => PyData.eqv (SeqAt.readOf s.heap w) d) pl items ⟨.bl _, H, I, rfl, ?_⟩
  have e : its.toArray.any (fun w => PyData.eqv (SeqAt.readOf s.heap w) d) = ds.any fun z => PyData.eqv z d := by
    rw [← hmap, List.any_map]
    simp
    rfl
  rw [e]
  exact q
end U
namespace PM
open U
/-! ### one-to-one maps between parts of 0 .. n - 1 -/
abbrev PF := Int → Option Int
structure WF (n : Int) (f : PF) : Prop where
  dom : ∀ x y, f x = some y → 0 ≤ x ∧ x < n ∧ 0 ≤ y ∧ y < n
  inj : ∀ x x' y, f x = some y → f x' = some y → x = x'
def tabN (f : PF) (n : Nat) : List (Int × Int) := (List.range n).filterMap fun (i : Nat) => (f (i : Int)).map fun y => ((i : Int), y)
def tab (n : Int) (f : PF) : List (Int × Int) := tabN f n.toNat
theorem mem_tabN {f : PF} {n : Nat} {x y : Int} : (x, y) ∈ tabN f n ↔ f x = some y ∧ ∃ i : Nat, i < n ∧ x = (i : Int) := by
  unfold tabN
  rw [List.mem_filterMap]
  constructor
  · rintro ⟨i, hi, e⟩
    rw [List.mem_range] at hi
    cases h : f (i : Int) with
    | none => rw [h] at e; cases e
    | some z => rw [h] at e; cases e; exact ⟨h, i, hi, rfl⟩
  · rintro ⟨h, i, hi, rfl⟩
    exact ⟨i, List.mem_range.mpr hi, by rw [h]; rfl⟩
theorem mem_tab {n : Int} {f : PF} (w : WF n f) {x y : Int} : (x, y) ∈ tab n f ↔ f x = some y := by
  unfold tab
  rw [mem_tabN]
  constructor
  · exact fun h => h.1
  · intro h
    have := w.dom x y h
    exact ⟨h, x.toNat, by omega, by omega⟩
theorem keys_tabN (f : PF) (n : Nat) : ((tabN f n).map (·.1)).Nodup := by
  induction n with
  | zero => exact List.nodup_nil
  | succ n ih =>
    have e : tabN f (n + 1) = tabN f n ++ ((f (n : Int)).map fun y => ((n : Int), y)).toList := by
      unfold tabN
      rw [List.range_succ, List.filterMap_append]
      cases h : f (n : Int) <;> simp [h]
    rw [e, List.map_append, List.nodup_append]
    refine ⟨ih, ?_, ?_⟩
    · cases f (n : Int) <;> simp
    · intro a ha b hb e
      subst e
      obtain ⟨p, hp, rfl⟩ := List.mem_map.mp ha
      obtain ⟨x, y⟩ := p
      obtain ⟨_, i, hi, ex⟩ := mem_tabN.mp hp
      cases h : f (n : Int) with
      | none => rw [h] at hb; simp at hb
      | some z =>
        rw [h] at hb
        simp at hb
        omega
theorem keys_tab (n : Int) (f : PF) : ((tab n f).map (·.1)).Nodup := keys_tabN f _
theorem lk_tab {n : Int} {f : PF} (w : WF n f) (x : Int) : lk (tab n f) x = f x := by
  cases h : f x with
  | some y => exact lk_some (keys_tab n f) ((mem_tab w).mpr h)
  | none =>
    cases e : lk (tab n f) x with
    | none => rfl
    | some y =>
      have := (mem_tab w).mp (lk_mem e)
      rw [h] at this; cases this
theorem tab_len (n : Int) (f : PF) : (tab n f).length ≤ n.toNat := by
  unfold tab tabN
  exact Nat.le_trans (List.length_filterMap_le _ _) (by simp)
theorem vals_tab {n : Int} {f : PF} (w : WF n f) : ((tab n f).map (·.2)).Nodup := by
  have k := keys_tab n f
  have key : ∀ l : List (Int × Int), (∀ p ∈ l, f p.1 = some p.2) → (l.map (·.1)).Nodup → (l.map (·.2)).Nodup := by
    intro l
    induction l with
    | nil => intro _ _; exact List.nodup_nil
    | cons p r ih =>
      intro h nd
      rw [List.map_cons, List.nodup_cons] at nd ⊢
      refine ⟨fun hm => ?_, ih (fun q hq => h q (List.mem_cons_of_mem _ hq)) nd.2⟩
      obtain ⟨q, hq, e⟩ := List.mem_map.mp hm
      have h1 := h p List.mem_cons_self
      have h2 := h q (List.mem_cons_of_mem _ hq)
      rw [e] at h2
      have := w.inj _ _ _ h1 h2
      exact nd.1 (by rw [this]; exact List.mem_map.mpr ⟨q, hq, rfl⟩)
  exact key _ (fun p hp => (mem_tab w).mp hp) k
theorem tab_inj {n : Int} {f g : PF} (wf : WF n f) (wg : WF n g) (h : tab n f = tab n g) : f = g := by
  funext x
  rw [← lk_tab wf, ← lk_tab wg, h]
/-! ### the operations -/
def mul (f g : PF) : PF := fun x => (f x).bind g
def idn (n : Int) : PF := fun x => if 0 ≤ x ∧ x < n then some x else none
def emp : PF := fun _ => none
def andf (f g : PF) : PF := fun x => if f x = g x then f x else none
def subf (f g : PF) : PF := fun x => if f x = g x then none else f x
def orf (f g : PF) : PF := fun x => (f x).or (g x)
def inv (n : Int) (f : PF) : PF := fun y => ((tab n f).find? fun p => decide (p.2 = y)).map (·.1)
def le (f g : PF) : Prop := ∀ x y, f x = some y → g x = some y
def Clash (f g : PF) : Prop := ∃ x y x' y', f x = some y ∧ g x' = some y' ∧ ¬ ((x = x') ↔ (y = y'))
theorem wf_mul {n : Int} {f g : PF} (wf : WF n f) (wg : WF n g) : WF n (mul f g) := by
  refine ⟨fun x y h => ?_, fun x x' y h h' => ?_⟩
  · unfold mul at h
    cases e : f x with
    | none => rw [e] at h; cases h
    | some z =>
      rw [e] at h
      have h1 := wf.dom x z e
      have h2 := wg.dom z y h
      omega
  · unfold mul at h h'
    cases e : f x with
    | none => rw [e] at h; cases h
    | some z =>
      cases e' : f x' with
      | none => rw [e'] at h'; cases h'
      | some z' =>
        rw [e] at h; rw [e'] at h'
        have := wg.inj z z' y h h'
        subst this
        exact wf.inj _ _ _ e e'
theorem wf_idn (n : Int) : WF n (idn n) := by
  refine ⟨fun x y h => ?_, fun x x' y h h' => ?_⟩
  · unfold idn at h
    split at h
    · cases h; omega
    · cases h
  · unfold idn at h h'
    split at h
    · split at h'
      · cases h; cases h'; rfl
      · cases h'
    · cases h
theorem wf_emp (n : Int) : WF n emp := ⟨fun _ _ h => (nomatch h), fun _ _ _ h => (nomatch h)⟩
theorem wf_le {n : Int} {f g : PF} (wg : WF n g) (h : le f g) : WF n f := ⟨fun x y e => wg.dom x y (h x y e), fun x x' y e e' => wg.inj _ _ _ (h _ _ e) (h _ _ e')⟩
theorem le_and1 (f g : PF) : le (andf f g) f := by
  intro x y h
  unfold andf at h
  split at h
  · exact h
  · cases h
theorem le_and2 (f g : PF) : le (andf f g) g := by
  intro x y h
  unfold andf at h
  split at h
  · rename_i e; rw [← e]; exact h
  · cases h
theorem le_sub (f g : PF) : le (subf f g) f := by
  intro x y h
  unfold subf at h
  split at h
  · cases h
  · exact h
theorem wf_and {n : Int} {f g : PF} (wf : WF n f) : WF n (andf f g) := wf_le wf (le_and1 f g)
theorem wf_sub {n : Int} {f g : PF} (wf : WF n f) : WF n (subf f g) := wf_le wf (le_sub f g)
theorem inv_iff {n : Int} {f : PF} (w : WF n f) {x y : Int} : inv n f y = some x ↔ f x = some y := by
  unfold inv
  constructor
  · intro h
    cases e : (tab n f).find? (fun p => decide (p.2 = y)) with
    | none => rw [e] at h; cases h
    | some p =>
      rw [e] at h
      obtain ⟨a, b⟩ := p
      have h1 := List.find?_some e
      simp only [decide_eq_true_eq] at h1
      have h2 : a = x := Option.some.inj h
      subst h1 h2
      exact (mem_tab w).mp (List.mem_of_find?_eq_some e)
  · intro h
    have hm := (mem_tab w).mpr h
    cases e : (tab n f).find? (fun p => decide (p.2 = y)) with
    | none =>
      have := List.find?_eq_none.mp e _ hm
      simp at this
    | some p =>
      obtain ⟨a, b⟩ := p
      have h1 := List.find?_some e
      simp only [decide_eq_true_eq] at h1
      subst h1
      have h3 := (mem_tab w).mp (List.mem_of_find?_eq_some e)
      show some a = some x
      rw [w.inj _ _ _ h3 h]
theorem wf_inv {n : Int} {f : PF} (w : WF n f) : WF n (inv n f) := by
  refine ⟨fun y x h => ?_, fun y y' x h h' => ?_⟩
  · have := w.dom x y ((inv_iff w).mp h)
    omega
  · have h1 := (inv_iff w).mp h
    have h2 := (inv_iff w).mp h'
    rw [h1] at h2
    exact Option.some.inj h2
theorem wf_or {n : Int} {f g : PF} (wf : WF n f) (wg : WF n g) (nc : ¬ Clash f g) : WF n (orf f g) := by
  refine ⟨fun x y h => ?_, fun x x' y h h' => ?_⟩
  · unfold orf at h
    cases e : f x with
    | none => rw [e] at h; exact wg.dom x y h
    | some z => rw [e] at h; cases h; exact wf.dom _ _ e
  · unfold orf at h h'
    cases e : f x with
    | none =>
      rw [e] at h
      cases e' : f x' with
      | none => rw [e'] at h'; exact wg.inj _ _ _ h h'
      | some z =>
        rw [e'] at h'
        cases h'
        exact Classical.byContradiction fun ne => nc ⟨x', y, x, y, e', h, fun i => ne (i.mpr rfl).symm⟩
    | some z =>
      rw [e] at h
      cases h
      cases e' : f x' with
      | none =>
        rw [e'] at h'
        exact Classical.byContradiction fun ne => nc ⟨x, y, x', y, e, h', fun i => ne (i.mpr rfl)⟩
      | some z =>
        rw [e'] at h'
        cases h'
        exact wf.inj _ _ _ e e'
/-- a dict of pairs tells f -/
structure DI (l : List (Int × Int)) (f : PF) : Prop where
  nd : (l.map (·.1)).Nodup
  at_ : ∀ x, lk l x = f x
theorem DI.mem {l : List (Int × Int)} {f : PF} (d : DI l f) {x y : Int} : (x, y) ∈ l ↔ f x = some y := by
  rw [← d.at_]
  exact ⟨lk_some d.nd, lk_mem⟩
theorem di_tab {n : Int} {f : PF} (w : WF n f) : DI (tab n f) f := ⟨keys_tab n f, lk_tab w⟩
theorem DI.vals {n : Int} {l : List (Int × Int)} {f : PF} (d : DI l f) (w : WF n f) : (l.map (·.2)).Nodup := by
  obtain ⟨nd, _⟩ := id d
  have key : ∀ r : List (Int × Int), (∀ p ∈ r, f p.1 = some p.2) → (r.map (·.1)).Nodup → (r.map (·.2)).Nodup := by
    intro r
    induction r with
    | nil => intro _ _; exact List.nodup_nil
    | cons p r ih =>
      intro h nd
      rw [List.map_cons, List.nodup_cons] at nd ⊢
      refine ⟨fun hm => ?_, ih (fun q hq => h q (List.mem_cons_of_mem _ hq)) nd.2⟩
      obtain ⟨q, hq, e⟩ := List.mem_map.mp hm
      have h1 := h p List.mem_cons_self
      have h2 := h q (List.mem_cons_of_mem _ hq)
      rw [e] at h2
      have := w.inj _ _ _ h1 h2
      exact nd.1 (by rw [this]; exact List.mem_map.mpr ⟨q, hq, rfl⟩)
  exact key l (fun p hp => d.mem.mp hp) nd
theorem di_of {l : List (Int × Int)} {f : PF} (nd : (l.map (·.1)).Nodup) (h : ∀ x y, (x, y) ∈ l ↔ f x = some y) : DI l f := by
  refine ⟨nd, fun x => ?_⟩
  cases e : f x with
  | some y => exact lk_some nd ((h x y).mpr e)
  | none =>
    cases e2 : lk l x with
    | none => rfl
    | some y =>
      have := (h x y).mp (lk_mem e2)
      rw [e] at this; cases this
end PM
namespace PM
open U
/-! ### powers -/
def iter (f : PF) : Nat → PF
  | 0 => fun x => some x
  | k + 1 => fun x => (iter f k x).bind f
theorem iter_add (f : PF) (a b : Nat) (x : Int) : iter f (a + b) x = (iter f a x).bind (iter f b) := by
  induction b with
  | zero => simp [iter]
  | succ b ih =>
    show (iter f (a + b) x).bind f = _
    rw [ih]
    cases iter f a x <;> rfl
theorem iter_one (f : PF) : iter f 1 = f := rfl
theorem iter_head (f : PF) (k : Nat) (x : Int) : iter f (k + 1) x = (f x).bind (iter f k) := by
  rw [Nat.add_comm, iter_add]; rfl
structure Row (f : PF) (e : Int) (r : List Int) : Prop where
  h0 : r[0]? = some e
  st : ∀ (i : Nat) (a b : Int), r[i]? = some a → r[i + 1]? = some b → f a = some b ∧ b ≠ e
theorem Row.ne {f : PF} {e : Int} {r : List Int} (w : ∀ x x' y, f x = some y → f x' = some y → x = x') (R : Row f e r) : ∀ (i k : Nat) (a : Int), r[i]? = some a → r[i + k + 1]? = some a → False
  | 0, k, a, h1, h2 => by
    rw [R.h0] at h1
    cases h1
    have hk : ∃ b, r[k]? = some b := by
      have : 0 + k + 1 < r.length := (List.getElem?_eq_some_iff.mp h2).1
      exact ⟨_, List.getElem?_eq_getElem (by omega)⟩
    obtain ⟨b, hb⟩ := hk
    have := R.st k b e hb (by rw [Nat.zero_add] at h2; exact h2)
    exact this.2 rfl
  | i + 1, k, a, h1, h2 => by
    have l1 : i + 1 < r.length := (List.getElem?_eq_some_iff.mp h1).1
    have l2 : i + 1 + k + 1 < r.length := (List.getElem?_eq_some_iff.mp h2).1
    obtain ⟨b, hb⟩ : ∃ b, r[i]? = some b := ⟨_, List.getElem?_eq_getElem (by omega)⟩
    obtain ⟨c, hc⟩ : ∃ c, r[i + k + 1]? = some c := ⟨_, List.getElem?_eq_getElem (by omega)⟩
    have e1 := (R.st i b a hb h1).1
    have h2' : r[i + k + 1 + 1]? = some a := by rw [show i + k + 1 + 1 = i + 1 + k + 1 by omega]; exact h2
    have e2 := (R.st (i + k + 1) c a hc h2').1
    have : b = c := w _ _ _ e1 e2
    subst this
    exact Row.ne w R i k b hb hc
theorem nodup_of_get {l : List Int} (h : ∀ (i k : Nat) (a : Int), l[i]? = some a → l[i + k + 1]? = some a → False) : l.Nodup := by
  induction l with
  | nil => exact List.nodup_nil
  | cons x r ih =>
    rw [List.nodup_cons]
    refine ⟨fun hm => ?_, ih fun i k a h1 h2 => ?_⟩
    · obtain ⟨j, hj⟩ := List.mem_iff_getElem?.mp hm
      exact h 0 j x rfl (by rw [Nat.zero_add]; exact hj)
    · refine h (i + 1) k a h1 ?_
      rw [show i + 1 + k + 1 = (i + k + 1) + 1 by omega]
      exact h2
theorem Row.nd {n : Int} {f : PF} {e : Int} {r : List Int} (w : WF n f) (R : Row f e r) : r.Nodup := nodup_of_get (R.ne w.inj)
theorem Row.dom {n : Int} {f : PF} {e : Int} {r : List Int} (w : WF n f) (R : Row f e r) (h1 : 0 ≤ e) (h2 : e < n) : ∀ x ∈ r, 0 ≤ x ∧ x < n := by
  intro x hx
  obtain ⟨i, hi⟩ := List.mem_iff_getElem?.mp hx
  cases i with
  | zero => rw [R.h0] at hi; cases hi; exact ⟨h1, h2⟩
  | succ i =>
    have l1 : i + 1 < r.length := (List.getElem?_eq_some_iff.mp hi).1
    obtain ⟨b, hb⟩ : ∃ b, r[i]? = some b := ⟨_, List.getElem?_eq_getElem (by omega)⟩
    have := w.dom _ _ (R.st i b x hb hi).1
    omega
theorem len_range {l : List Int} {n : Int} (nd : l.Nodup) (h : ∀ x ∈ l, 0 ≤ x ∧ x < n) : l.length ≤ n.toNat := by
  have : l.length ≤ ((List.range n.toNat).map fun (i : Nat) => (i : Int)).length := List.Nodup.length_le_of_subset nd (by
    intro x hx
    have := h x hx
    exact List.mem_map.mpr ⟨x.toNat, List.mem_range.mpr (by omega), Int.toNat_of_nonneg this.1⟩)
  simpa using this
theorem Row.more {f : PF} {e : Int} {pre : List Int} {z y : Int} (R : Row f e (pre ++ [z])) (h : f z = some y) (ne : y ≠ e) : Row f e (pre ++ [z] ++ [y]) := by
  refine ⟨?_, fun i a b h1 h2 => ?_⟩
  · rw [List.getElem?_append_left (by simp)]
    exact R.h0
  · by_cases hi : i + 1 < (pre ++ [z]).length
    · rw [List.getElem?_append_left hi] at h2
      rw [List.getElem?_append_left (by omega)] at h1
      exact R.st i a b h1 h2
    · have l2 : i + 1 < (pre ++ [z] ++ [y]).length := (List.getElem?_eq_some_iff.mp h2).1
      have e1 : i = pre.length := by simp at hi l2; omega
      subst e1
      rw [List.getElem?_append_left (by simp)] at h1
      have z1 : (pre ++ [z])[pre.length]? = some z := by simp
      rw [z1] at h1
      cases h1
      have z2 : (pre ++ [z] ++ [y])[pre.length + 1]? = some y := by simp
      rw [z2] at h2
      cases h2
      exact ⟨h, ne⟩
/-- f along an open row -/
theorem Row.openAt {f : PF} {e : Int} {r : List Int} (R : Row f e r) {z : Int} (hz : r[r.length - 1]? = some z) (hl : 0 < r.length) (ho : f z = none) (i : Nat) (a : Int) (hi : r[i]? = some a) : ∀ j : Nat, iter f j a = r[i + j]?
  | 0 => by rw [Nat.add_zero, hi]; rfl
  | j + 1 => by
    show (iter f j a).bind f = _
    rw [Row.openAt R hz hl ho i a hi j]
    cases e1 : r[i + j]? with
    | none =>
      have h1 := List.getElem?_eq_none_iff.mp e1
      exact (List.getElem?_eq_none_iff.mpr (by omega)).symm
    | some b =>
      show f b = _
      have l1 : i + j < r.length := (List.getElem?_eq_some_iff.mp e1).1
      cases e2 : r[i + (j + 1)]? with
      | some c => exact (R.st (i + j) b c e1 e2).1
      | none =>
        have h2 := List.getElem?_eq_none_iff.mp e2
        have : i + j = r.length - 1 := by omega
        rw [this, hz] at e1
        cases e1
        exact ho
/-- f along a closed row -/
theorem Row.closedAt {f : PF} {e : Int} {r : List Int} (R : Row f e r) {z : Int} (hz : r[r.length - 1]? = some z) (hl : 0 < r.length) (hc : f z = some e) (i : Nat) (a : Int) (hi : r[i]? = some a) : ∀ j : Nat, iter f j a = r[(i + j) % r.length]?
  | 0 => by
    have l1 : i < r.length := (List.getElem?_eq_some_iff.mp hi).1
    rw [Nat.add_zero, Nat.mod_eq_of_lt l1, hi]; rfl
  | j + 1 => by
    show (iter f j a).bind f = _
    rw [Row.closedAt R hz hl hc i a hi j]
    have l1 : (i + j) % r.length < r.length := Nat.mod_lt _ hl
    obtain ⟨b, e1⟩ : ∃ b, r[(i + j) % r.length]? = some b := ⟨_, List.getElem?_eq_getElem l1⟩
    rw [e1]
    show f b = _
    by_cases h : (i + j) % r.length = r.length - 1
    · rw [h, hz] at e1
      cases e1
      rw [hc]
      have : (i + (j + 1)) % r.length = 0 := by
        rw [show i + (j + 1) = (i + j) + 1 by omega, Nat.add_mod, h]
        by_cases h1 : r.length = 1
        · rw [h1]
        · rw [Nat.mod_eq_of_lt (show 1 < r.length by omega), show r.length - 1 + 1 = r.length by omega, Nat.mod_self]
      rw [this, R.h0]
    · have : (i + (j + 1)) % r.length = (i + j) % r.length + 1 := by
        rw [show i + (j + 1) = (i + j) + 1 by omega, Nat.add_mod]
        rw [Nat.mod_eq_of_lt (show 1 < r.length by omega), Nat.mod_eq_of_lt (by omega)]
      rw [this]
      obtain ⟨c, e2⟩ : ∃ c, r[(i + j) % r.length + 1]? = some c := ⟨_, List.getElem?_eq_getElem (by omega)⟩
      rw [e2]
      exact (R.st _ b c e1 e2).1
theorem wf_iter {n : Int} {f : PF} (w : WF n f) : ∀ k : Nat, WF n (iter f (k + 1))
  | 0 => w
  | k + 1 => wf_mul (wf_iter w k) w
end PM
namespace PM
open U
/-! ### the rules of the operators -/
theorem pf_ext {f g : PF} (h : ∀ x y, f x = some y ↔ g x = some y) : f = g := by
  funext x
  cases e : f x with
  | some y => exact ((h x y).mp e).symm
  | none =>
    cases e2 : g x with
    | none => rfl
    | some y => rw [(h x y).mpr e2] at e; cases e
theorem mul_iff {f g : PF} {x z : Int} : mul f g x = some z ↔ ∃ y, f x = some y ∧ g y = some z := by
  unfold mul
  cases e : f x with
  | none => simp
  | some y => simp
theorem idn_iff {n x y : Int} : idn n x = some y ↔ x = y ∧ 0 ≤ x ∧ x < n := by
  unfold idn
  split
  · rename_i h
    constructor
    · intro e; cases e; exact ⟨rfl, h⟩
    · rintro ⟨rfl, _⟩; rfl
  · rename_i h
    constructor
    · intro e; cases e
    · rintro ⟨_, q⟩; exact absurd q h
theorem and_iff {f g : PF} {x y : Int} : andf f g x = some y ↔ f x = some y ∧ g x = some y := by
  constructor
  · intro h; exact ⟨le_and1 f g x y h, le_and2 f g x y h⟩
  · rintro ⟨h1, h2⟩
    unfold andf
    rw [h1, h2, if_pos rfl]
theorem sub_iff {f g : PF} {x y : Int} : subf f g x = some y ↔ f x = some y ∧ ¬ g x = some y := by
  unfold subf
  by_cases h : f x = g x
  · rw [if_pos h, ← h]
    constructor
    · intro e; cases e
    · rintro ⟨h1, h2⟩; exact absurd h1 h2
  · rw [if_neg h]
    constructor
    · intro e; exact ⟨e, fun q => h (e.trans q.symm)⟩
    · exact fun q => q.1
theorem mul_assoc (f g h : PF) : mul (mul f g) h = mul f (mul g h) := by
  refine pf_ext fun x z => ?_
  rw [mul_iff, mul_iff]
  constructor
  · rintro ⟨y, h1, h2⟩
    obtain ⟨u, h3, h4⟩ := mul_iff.mp h1
    exact ⟨u, h3, mul_iff.mpr ⟨y, h4, h2⟩⟩
  · rintro ⟨y, h1, h2⟩
    obtain ⟨u, h3, h4⟩ := mul_iff.mp h2
    exact ⟨u, mul_iff.mpr ⟨y, h1, h3⟩, h4⟩
theorem inv_mul {n : Int} {f g : PF} (wf : WF n f) (wg : WF n g) : inv n (mul f g) = mul (inv n g) (inv n f) := by
  refine pf_ext fun z x => ?_
  rw [inv_iff (wf_mul wf wg), mul_iff, mul_iff]
  constructor
  · rintro ⟨y, h1, h2⟩
    exact ⟨y, (inv_iff wg).mpr h2, (inv_iff wf).mpr h1⟩
  · rintro ⟨y, h1, h2⟩
    exact ⟨y, (inv_iff wf).mp h2, (inv_iff wg).mp h1⟩
theorem inv_inv {n : Int} {f : PF} (wf : WF n f) : inv n (inv n f) = f := by
  refine pf_ext fun x y => ?_
  rw [inv_iff (wf_inv wf), inv_iff wf]
theorem mul_inv_mul {n : Int} {f : PF} (wf : WF n f) : mul (mul f (inv n f)) f = f := by
  refine pf_ext fun x z => ?_
  rw [mul_iff]
  constructor
  · rintro ⟨u, h1, h2⟩
    obtain ⟨y, h3, h4⟩ := mul_iff.mp h1
    have := (inv_iff wf).mp h4
    cases wf.inj _ _ _ h3 this
    exact h2
  · intro h
    exact ⟨x, mul_iff.mpr ⟨z, h, (inv_iff wf).mpr h⟩, h⟩
/-- f * ~f: the sources, each to itself -/
theorem mul_inv {n : Int} {f : PF} (wf : WF n f) {x u : Int} : mul f (inv n f) x = some u ↔ x = u ∧ ∃ y, f x = some y := by
  rw [mul_iff]
  constructor
  · rintro ⟨y, h1, h2⟩
    have := (inv_iff wf).mp h2
    exact ⟨wf.inj _ _ _ h1 this, y, h1⟩
  · rintro ⟨rfl, y, h⟩
    exact ⟨y, h, (inv_iff wf).mpr h⟩
theorem le_mulL {f g h : PF} (q : le f g) : le (mul f h) (mul g h) := by
  intro x z e
  obtain ⟨y, h1, h2⟩ := mul_iff.mp e
  exact mul_iff.mpr ⟨y, q _ _ h1, h2⟩
theorem le_mulR {f g h : PF} (q : le f g) : le (mul h f) (mul h g) := by
  intro x z e
  obtain ⟨y, h1, h2⟩ := mul_iff.mp e
  exact mul_iff.mpr ⟨y, h1, q _ _ h2⟩
theorem mul_idn {n : Int} {f : PF} (wf : WF n f) : mul f (idn n) = f := by
  refine pf_ext fun x z => ?_
  rw [mul_iff]
  constructor
  · rintro ⟨y, h1, h2⟩
    cases (idn_iff.mp h2).1
    exact h1
  · intro h
    have := wf.dom x z h
    exact ⟨z, h, idn_iff.mpr ⟨rfl, by omega, by omega⟩⟩
theorem idn_mul {n : Int} {f : PF} (wf : WF n f) : mul (idn n) f = f := by
  refine pf_ext fun x z => ?_
  rw [mul_iff]
  constructor
  · rintro ⟨y, h1, h2⟩
    cases (idn_iff.mp h1).1
    exact h2
  · intro h
    have := wf.dom x z h
    exact ⟨x, idn_iff.mpr ⟨rfl, by omega, by omega⟩, h⟩
theorem mul_emp (f : PF) : mul f emp = emp := by
  refine pf_ext fun x z => ?_
  rw [mul_iff]
  constructor
  · rintro ⟨y, _, h2⟩; cases h2
  · intro h; cases h
/-! ### parts -/
theorem noclash_sub {f g : PF} (wi : ∀ x x' y, f x = some y → f x' = some y → x = x') : ¬ Clash (subf f g) (andf f g) := by
  rintro ⟨x, y, x', y', h1, h2, h3⟩
  have e1 := (sub_iff.mp h1).1
  have e2 := (and_iff.mp h2).1
  refine h3 ⟨fun e => ?_, fun e => ?_⟩
  · subst e; rw [e1] at e2; exact Option.some.inj e2
  · subst e; exact wi _ _ _ e1 e2
theorem sub_or_and (f g : PF) : orf (subf f g) (andf f g) = f := by
  funext x
  unfold orf subf andf
  by_cases h : f x = g x
  · rw [if_pos h, if_pos h]; rfl
  · rw [if_neg h, if_neg h]; cases f x <;> rfl
theorem sub_and (f g : PF) : andf (subf f g) g = emp := by
  refine pf_ext fun x y => ?_
  rw [and_iff, sub_iff]
  constructor
  · rintro ⟨⟨_, h1⟩, h2⟩; exact absurd h2 h1
  · intro h; cases h
theorem nd_tab (n : Int) (f : PF) : (tab n f).Nodup := by
  have : ∀ l : List (Int × Int), (l.map (·.1)).Nodup → l.Nodup := by
    intro l
    induction l with
    | nil => intro _; exact List.nodup_nil
    | cons p r ih =>
      intro h
      rw [List.map_cons, List.nodup_cons] at h
      rw [List.nodup_cons]
      exact ⟨fun hm => h.1 (List.mem_map.mpr ⟨p, hm, rfl⟩), ih h.2⟩
  exact this _ (keys_tab n f)
theorem le_len {n : Int} {f g : PF} (wf : WF n f) (wg : WF n g) (h : le f g) : (tab n f).length ≤ (tab n g).length := by
  refine List.Nodup.length_le_of_subset (nd_tab n f) ?_
  rintro ⟨x, y⟩ hp
  exact (mem_tab wg).mpr (h _ _ ((mem_tab wf).mp hp))
theorem le_len_eq {n : Int} {f g : PF} (wf : WF n f) (wg : WF n g) (h : le f g) (hl : (tab n g).length ≤ (tab n f).length) : f = g := by
  refine pf_ext fun x y => ⟨h x y, fun e => ?_⟩
  refine Classical.byContradiction fun hn => ?_
  have h1 : ((x, y) :: tab n f).Nodup := List.nodup_cons.mpr ⟨fun hm => hn ((mem_tab wf).mp hm), nd_tab n f⟩
  have h2 : ((x, y) :: tab n f).length ≤ (tab n g).length := by
    refine List.Nodup.length_le_of_subset h1 ?_
    rintro ⟨a, b⟩ hp
    rcases List.mem_cons.mp hp with e1 | e1
    · cases e1; exact (mem_tab wg).mpr e
    · exact (mem_tab wg).mpr (h _ _ ((mem_tab wf).mp e1))
  rw [List.length_cons] at h2
  omega
/-! ### powers -/
def pN (n : Int) (f : PF) (k : Nat) : PF := if k = 0 then idn n else iter f k
theorem pN_zero (n : Int) (f : PF) : pN n f 0 = idn n := rfl
theorem pN_succ (n : Int) (f : PF) (k : Nat) : pN n f (k + 1) = iter f (k + 1) := rfl
theorem wf_pN {n : Int} {f : PF} (w : WF n f) : ∀ k, WF n (pN n f k)
  | 0 => wf_idn n
  | k + 1 => wf_iter w k
theorem pN_add {n : Int} {f : PF} (w : WF n f) (a b : Nat) : mul (pN n f a) (pN n f b) = pN n f (a + b) := by
  cases a with
  | zero => rw [pN_zero, idn_mul (wf_pN w b), Nat.zero_add]
  | succ a =>
    cases b with
    | zero => rw [pN_zero, mul_idn (wf_pN w (a + 1)), Nat.add_zero]
    | succ b =>
      rw [pN_succ, pN_succ, show a + 1 + (b + 1) = (a + 1 + b) + 1 by omega, pN_succ]
      funext x
      rw [show a + 1 + b + 1 = (a + 1) + (b + 1) by omega, iter_add]
      rfl
theorem pN_one {n : Int} {f : PF} : pN n f 1 = f := by
  rw [show (1 : Nat) = 0 + 1 from rfl, pN_succ]; rfl
theorem pN_mul {n : Int} {f : PF} (w : WF n f) (a : Nat) : ∀ b, pN n (pN n f a) b = pN n f (a * b)
  | 0 => rfl
  | b + 1 => by
    rw [← pN_add (wf_pN w a) b 1, pN_mul w a b, pN_one, pN_add w]
    rfl
theorem inv_idn (n : Int) : inv n (idn n) = idn n := by
  refine pf_ext fun x y => ?_
  rw [inv_iff (wf_idn n), idn_iff, idn_iff]
  constructor
  · rintro ⟨rfl, h⟩; exact ⟨rfl, h⟩
  · rintro ⟨rfl, h⟩; exact ⟨rfl, h⟩
theorem inv_pN {n : Int} {f : PF} (w : WF n f) : ∀ k, inv n (pN n f k) = pN n (inv n f) k
  | 0 => inv_idn n
  | k + 1 => by
    rw [← pN_add w k 1, inv_mul (wf_pN w k) (wf_pN w 1), inv_pN w k, pN_one, show k + 1 = 1 + k by omega, ← pN_add (wf_inv w) 1 k, pN_one]
theorem mul_inv_le {n : Int} {f : PF} (w : WF n f) : le (mul f (inv n f)) (idn n) := by
  intro x u h
  obtain ⟨rfl, y, e⟩ := (mul_inv w).mp h
  have := w.dom _ _ e
  exact idn_iff.mpr ⟨rfl, by omega, by omega⟩
def pwN (n : Int) (f : PF) (e : Int) : PF := if e < 0 then pN n (inv n f) e.natAbs else pN n f e.natAbs
theorem pN_sub {n : Int} {f : PF} (w : WF n f) (a b : Nat) : le (mul (pN n f a) (pN n (inv n f) b)) (pwN n f ((a : Int) - (b : Int))) := by
  unfold pwN
  by_cases h : ((a : Int) - (b : Int)) < 0
  · rw [if_pos h]
    obtain ⟨c, rfl⟩ : ∃ c, b = a + c := ⟨b - a, by omega⟩
    have e : ((a : Int) - ((a + c : Nat) : Int)).natAbs = c := by omega
    rw [e, ← pN_add (wf_inv w) a c, ← mul_assoc, ← inv_pN w a]
    have := le_mulL (h := pN n (inv n f) c) (mul_inv_le (wf_pN w a))
    rw [idn_mul (wf_pN (wf_inv w) c)] at this
    exact this
  · rw [if_neg h]
    obtain ⟨c, rfl⟩ : ∃ c, a = c + b := ⟨a - b, by omega⟩
    have e : (((c + b : Nat) : Int) - (b : Int)).natAbs = c := by omega
    rw [e, ← pN_add w c b, mul_assoc, ← inv_pN w b]
    have := le_mulR (h := pN n f c) (mul_inv_le (wf_pN w b))
    rw [mul_idn (wf_pN w c)] at this
    exact this
end PM
namespace PM
open U
/-! ### rows told by their first element -/
def IsRow (f : PF) (e : Int) (r : List Int) : Prop := ∃ pre z, r = pre ++ [z] ∧ Row f e r ∧ (f z = none ∨ f z = some e)
theorem IsRow.get {f : PF} {e : Int} {r r' : List Int} (h : IsRow f e r) (h' : IsRow f e r') : ∀ (i : Nat) (a : Int), r[i]? = some a → r'[i]? = some a
  | 0, a, e1 => by
    obtain ⟨_, _, _, R, _⟩ := h
    obtain ⟨_, _, _, R', _⟩ := h'
    rw [R.h0] at e1
    rw [R'.h0]
    exact e1
  | i + 1, a, e1 => by
    have ih := IsRow.get h h' i
    obtain ⟨_, _, _, R, _⟩ := h
    obtain ⟨pre', z', q', R', st'⟩ := h'
    have l1 : i + 1 < r.length := (List.getElem?_eq_some_iff.mp e1).1
    obtain ⟨b, hb⟩ : ∃ b, r[i]? = some b := ⟨_, List.getElem?_eq_getElem (by omega)⟩
    obtain ⟨f1, ne⟩ := R.st i b a hb e1
    have hb' := ih b hb
    cases e2 : r'[i + 1]? with
    | some c =>
      have := (R'.st i b c hb' e2).1
      rw [f1] at this
      exact this.symm
    | none =>
      exfalso
      have l2 : i < r'.length := (List.getElem?_eq_some_iff.mp hb').1
      have l3 := List.getElem?_eq_none_iff.mp e2
      subst q'
      rw [List.length_append, List.length_singleton] at l2 l3
      have ei : i = pre'.length := by omega
      subst ei
      have : (pre' ++ [z'])[pre'.length]? = some z' := by simp
      rw [this] at hb'
      cases hb'
      rcases st' with q | q
      · rw [f1] at q; cases q
      · rw [f1] at q; exact ne (Option.some.inj q)
theorem IsRow.uniq {f : PF} {e : Int} {r r' : List Int} (h : IsRow f e r) (h' : IsRow f e r') : r = r' := by
  apply List.ext_getElem?
  intro i
  cases e1 : r[i]? with
  | some a => exact (h.get h' i a e1).symm
  | none =>
    cases e2 : r'[i]? with
    | none => rfl
    | some a => rw [h'.get h i a e2] at e1; cases e1
theorem ex_row {n : Int} {f : PF} {e : Int} (w : WF n f) (h1 : 0 ≤ e) (h2 : e < n) : ∃ r, IsRow f e r := by
  refine Classical.byContradiction fun no => ?_
  have key : ∀ k : Nat, ∃ pre z, pre.length = k ∧ Row f e (pre ++ [z]) := by
    intro k
    induction k with
    | zero => exact ⟨[], e, rfl, rfl, fun i a b h1 h2 => by simp at h2⟩
    | succ k ih =>
      obtain ⟨pre, z, hl, R⟩ := ih
      cases hz : f z with
      | none => exact absurd ⟨_, pre, z, rfl, R, .inl hz⟩ no
      | some y =>
        by_cases hy : y = e
        · subst hy; exact absurd ⟨_, pre, z, rfl, R, .inr hz⟩ no
        · exact ⟨pre ++ [z], y, by simp [hl], R.more hz hy⟩
  obtain ⟨pre, z, hl, R⟩ := key n.toNat
  have := len_range (R.nd w) (R.dom w h1 h2)
  rw [List.length_append, List.length_singleton] at this
  omega
open Classical in
noncomputable def rowN (f : PF) (e : Int) : List Int := if h : ∃ r, IsRow f e r then h.choose else []
theorem rowN_eq {f : PF} {e : Int} {r : List Int} (h : IsRow f e r) : rowN f e = r := by
  have hx : ∃ r, IsRow f e r := ⟨r, h⟩
  unfold rowN
  rw [dif_pos hx]
  exact hx.choose_spec.uniq h
theorem rowN_is {n : Int} {f : PF} {e : Int} (w : WF n f) (h1 : 0 ≤ e) (h2 : e < n) : IsRow f e (rowN f e) := by
  obtain ⟨r, h⟩ := ex_row w h1 h2
  rw [rowN_eq h]
  exact h
theorem IsRow.head {f : PF} {e : Int} {r : List Int} (h : IsRow f e r) : r[0]? = some e := by
  obtain ⟨_, _, _, R, _⟩ := h
  exact R.h0
theorem IsRow.mem {f : PF} {e : Int} {r : List Int} (h : IsRow f e r) : e ∈ r := List.mem_of_getElem? h.head
theorem IsRow.dom {n : Int} {f : PF} {e : Int} {r : List Int} (w : WF n f) (h : IsRow f e r) (h1 : 0 ≤ e) (h2 : e < n) : ∀ x ∈ r, 0 ≤ x ∧ x < n := by
  obtain ⟨_, _, _, R, _⟩ := h
  exact R.dom w h1 h2
theorem IsRow.nd {n : Int} {f : PF} {e : Int} {r : List Int} (w : WF n f) (h : IsRow f e r) : r.Nodup := by
  obtain ⟨_, _, _, R, _⟩ := h
  exact R.nd w
/-- what is no target -/
def nonT (n : Int) (f : PF) (e : Int) : Bool := (inv n f e).isNone
theorem nonT_iff {n : Int} {f : PF} (w : WF n f) {e : Int} : nonT n f e = true ↔ ∀ x, f x ≠ some e := by
  unfold nonT
  rw [Option.isNone_iff_eq_none]
  constructor
  · intro h x hx
    rw [(inv_iff w).mpr hx] at h
    cases h
  · intro h
    cases q : inv n f e with
    | none => rfl
    | some x => exact absurd ((inv_iff w).mp q) (h x)
theorem nonT_in {n : Int} {f : PF} {e e' : Int} {r : List Int} (w : WF n f) (h : nonT n f e = true) (R : IsRow f e' r) (hm : e ∈ r) : e = e' := by
  obtain ⟨i, hi⟩ := List.mem_iff_getElem?.mp hm
  obtain ⟨_, _, _, R, _⟩ := R
  cases i with
  | zero => rw [R.h0] at hi; exact (Option.some.inj hi).symm
  | succ i =>
    have l1 : i + 1 < r.length := (List.getElem?_eq_some_iff.mp hi).1
    obtain ⟨b, hb⟩ : ∃ b, r[i]? = some b := ⟨_, List.getElem?_eq_getElem (by omega)⟩
    exact absurd (R.st i b e hb hi).1 ((nonT_iff w).mp h b)
/-! ### which rows are begun -/
noncomputable def seenL (f : PF) (s : List Int) : List Int := (s.map (rowN f)).flatten
theorem mem_seenL {f : PF} {s : List Int} {x : Int} : x ∈ seenL f s ↔ ∃ e ∈ s, x ∈ rowN f e := by
  unfold seenL
  rw [List.mem_flatten]
  constructor
  · rintro ⟨r, hr, hx⟩
    obtain ⟨e, he, rfl⟩ := List.mem_map.mp hr
    exact ⟨e, he, hx⟩
  · rintro ⟨e, he, hx⟩
    exact ⟨_, List.mem_map.mpr ⟨e, he, rfl⟩, hx⟩
noncomputable def stp (f : PF) (s : List Int) (x : Int) : List Int := if x ∈ seenL f s then s else s ++ [x]
noncomputable def selL (f : PF) (b l : List Int) : List Int := l.foldl (stp f) b
theorem selL_append (f : PF) (b l m : List Int) : selL f b (l ++ m) = selL f (selL f b l) m := by
  unfold selL
  rw [List.foldl_append]
theorem selL_one (f : PF) (b l : List Int) (x : Int) : selL f b (l ++ [x]) = stp f (selL f b l) x := by
  rw [selL_append]
  rfl
theorem selL_sub (f : PF) : ∀ (l b : List Int), ∃ c, selL f b l = b ++ c ∧ c.Sublist l ∧ ∀ x ∈ c, x ∉ seenL f b
  | [], b => ⟨[], by simp [selL], List.Sublist.slnil, fun x h => (nomatch h)⟩
  | x :: l, b => by
    by_cases h : x ∈ seenL f b
    · obtain ⟨c, h1, h2, h3⟩ := selL_sub f l b
      refine ⟨c, ?_, h2.cons x, h3⟩
      rw [← h1]
      show selL f (stp f b x) l = _
      unfold stp
      rw [if_pos h]
    · obtain ⟨c, h1, h2, h3⟩ := selL_sub f l (b ++ [x])
      refine ⟨x :: c, ?_, h2.cons_cons x, fun y hy => ?_⟩
      · rw [show b ++ x :: c = b ++ [x] ++ c by simp, ← h1]
        show selL f (stp f b x) l = _
        unfold stp
        rw [if_neg h]
      · rcases List.mem_cons.mp hy with rfl | hy
        · exact h
        · intro hs
          obtain ⟨e, he, hx⟩ := mem_seenL.mp hs
          exact h3 y hy (mem_seenL.mpr ⟨e, List.mem_append_left _ he, hx⟩)
def rgI (n : Nat) : List Int := (List.range n).map fun (i : Nat) => (i : Int)
theorem mem_rgI {n : Nat} {x : Int} : x ∈ rgI n ↔ 0 ≤ x ∧ x < (n : Int) := by
  unfold rgI
  rw [List.mem_map]
  constructor
  · rintro ⟨i, hi, rfl⟩
    rw [List.mem_range] at hi
    omega
  · rintro ⟨h1, h2⟩
    exact ⟨x.toNat, List.mem_range.mpr (by omega), by omega⟩
theorem rgI_succ (n : Nat) : rgI (n + 1) = rgI n ++ [(n : Int)] := by
  unfold rgI
  rw [List.range_succ, List.map_append]
  rfl
theorem rgI_lt (n : Nat) : (rgI n).Pairwise (· < ·) := by
  induction n with
  | zero => exact List.Pairwise.nil
  | succ n ih =>
    rw [rgI_succ, List.pairwise_append]
    refine ⟨ih, List.pairwise_singleton _ _, fun a ha b hb => ?_⟩
    have := mem_rgI.mp ha
    rw [List.mem_singleton] at hb
    omega
theorem nodup_of_lt {l : List Int} (h : l.Pairwise (· < ·)) : l.Nodup := List.Pairwise.imp (fun {a b} h => by omega) h
def nons (n : Int) (f : PF) : List Int := (rgI n.toNat).filter (nonT n f)
theorem nons_dom {n : Int} {f : PF} {e : Int} (h : e ∈ nons n f) : 0 ≤ e ∧ e < n ∧ nonT n f e = true := by
  obtain ⟨h1, h2⟩ := List.mem_filter.mp h
  have := mem_rgI.mp h1
  exact ⟨this.1, by omega, h2⟩
theorem sel_nons {n : Int} {f : PF} (w : WF n f) : ∀ (l b : List Int), (∀ e ∈ b ++ l, 0 ≤ e ∧ e < n ∧ nonT n f e = true) → (b ++ l).Nodup → selL f b l = b ++ l
  | [], b, _, _ => by simp [selL]
  | x :: l, b, h, nd => by
    have e1 : b ++ x :: l = b ++ [x] ++ l := by simp
    have hx : x ∉ seenL f b := by
      intro hs
      obtain ⟨e, he, hm⟩ := mem_seenL.mp hs
      have h1 := h e (List.mem_append_left _ he)
      have h2 := h x (List.mem_append_right _ List.mem_cons_self)
      have := nonT_in w h2.2.2 (rowN_is w h1.1 h1.2.1) hm
      subst this
      exact (List.nodup_append.mp nd).2.2 x he x List.mem_cons_self rfl
    have := sel_nons w l (b ++ [x]) (by rw [← e1]; exact h) (by rw [← e1]; exact nd)
    rw [e1, ← this]
    show selL f (stp f b x) l = _
    unfold stp
    rw [if_neg hx]
/-! ### closed rows -/
noncomputable def clo (f : PF) (e : Int) : Bool := match (rowN f e).getLast? with
  | some z => (f z).isSome
  | none => false
theorem clo_eq {f : PF} {e z : Int} {pre : List Int} (h : IsRow f e (pre ++ [z])) : clo f e = (f z).isSome := by
  unfold clo
  rw [rowN_eq h, List.getLast?_append]
  rfl
theorem clo_non {n : Int} {f : PF} {e : Int} (w : WF n f) (h1 : 0 ≤ e) (h2 : e < n) (h : nonT n f e = true) : clo f e = false := by
  obtain ⟨r, hr⟩ := ex_row w h1 h2
  obtain ⟨pre, z, q, R, st⟩ := id hr
  subst q
  rw [clo_eq hr]
  rcases st with st | st
  · rw [st]; rfl
  · exact absurd st ((nonT_iff w).mp h z)
theorem iter_inv {n : Int} {f : PF} (w : WF n f) : ∀ (k : Nat) (x y : Int), iter (inv n f) k x = some y → iter f k y = some x
  | 0, x, y, h => by
    have : x = y := Option.some.inj h
    subst this
    rfl
  | k + 1, x, y, h => by
    have h : (iter (inv n f) k x).bind (inv n f) = some y := h
    cases e : iter (inv n f) k x with
    | none => rw [e] at h; cases h
    | some z =>
      rw [e] at h
      have h1 := (inv_iff w).mp h
      rw [iter_head, h1]
      exact iter_inv w k x z e
theorem clo_of {n : Int} {f : PF} {e : Int} (w : WF n f) (h1 : 0 ≤ e) (h2 : e < n) (h : ∀ e', 0 ≤ e' → e' < n → nonT n f e' = true → e ∉ rowN f e') : clo f e = true := by
  obtain ⟨r, hr⟩ := ex_row w h1 h2
  obtain ⟨pre, z, q, R, st⟩ := id hr
  subst q
  rw [clo_eq hr]
  rcases st with st | st
  · exfalso
    have lz : (pre ++ [z])[(pre ++ [z]).length - 1]? = some z := by simp
    have op := R.openAt lz (by simp) st 0 e R.h0
    obtain ⟨r', hr'⟩ := ex_row (wf_inv w) h1 h2
    obtain ⟨pre', z', q', R', st'⟩ := id hr'
    subst q'
    have lz' : (pre' ++ [z'])[(pre' ++ [z']).length - 1]? = some z' := by simp
    rcases st' with st' | st'
    · have hz' : nonT n f z' = true := by unfold nonT; rw [st']; rfl
      have dz := hr'.dom (wf_inv w) h1 h2 z' (by simp)
      have op' := R'.openAt lz' (by simp) st' 0 e R'.h0 pre'.length
      have e1 : (pre' ++ [z'])[0 + pre'.length]? = some z' := by simp
      rw [e1] at op'
      have it := iter_inv w _ _ _ op'
      refine h z' dz.1 dz.2 hz' ?_
      obtain ⟨r0, hr0⟩ := ex_row w dz.1 dz.2
      rw [rowN_eq hr0]
      obtain ⟨p0, z0, q0, R0, st0⟩ := id hr0
      subst q0
      have l0 : (p0 ++ [z0])[(p0 ++ [z0]).length - 1]? = some z0 := by simp
      have o0 : f z0 = none := by
        rcases st0 with q | q
        · exact q
        · exact absurd q ((nonT_iff w).mp hz' z0)
      have := R0.openAt l0 (by simp) o0 0 z' R0.h0 pre'.length
      rw [it] at this
      exact List.mem_of_getElem? this.symm
    · have cl := R'.closedAt lz' (by simp) st' 0 e R'.h0 (pre' ++ [z']).length
      rw [Nat.zero_add, Nat.mod_self, R'.h0] at cl
      have it := iter_inv w _ _ _ cl
      rw [op (pre' ++ [z']).length] at it
      have l1 : (pre' ++ [z']).length = pre'.length + 1 := by simp
      rw [l1] at it
      exact R.ne w.inj 0 pre'.length e R.h0 (by rw [show 0 + pre'.length + 1 = 0 + (pre'.length + 1) by omega]; exact it)
  · rw [st]; rfl
/-! ### all parts -/
noncomputable def cycS (n : Int) (f : PF) : List Int := (selL f (nons n f) (rgI n.toNat)).drop (nons n f).length
theorem cycS_eq (n : Int) (f : PF) : selL f (nons n f) (rgI n.toNat) = nons n f ++ cycS n f := by
  obtain ⟨c, h, _, _⟩ := selL_sub f (rgI n.toNat) (nons n f)
  unfold cycS
  rw [h, List.drop_left]
theorem cycS_sub (n : Int) (f : PF) : (cycS n f).Sublist (rgI n.toNat) ∧ ∀ x ∈ cycS n f, x ∉ seenL f (nons n f) := by
  obtain ⟨c, h, h1, h2⟩ := selL_sub f (rgI n.toNat) (nons n f)
  rw [cycS_eq] at h
  have := List.append_cancel_left h
  rw [this]
  exact ⟨h1, h2⟩
theorem cycS_dom {n : Int} {f : PF} {e : Int} (h : e ∈ cycS n f) : 0 ≤ e ∧ e < n := by
  have := mem_rgI.mp ((cycS_sub n f).1.subset h)
  exact ⟨this.1, by omega⟩
theorem cycS_clo {n : Int} {f : PF} (w : WF n f) {e : Int} (h : e ∈ cycS n f) : clo f e = true := by
  have d := cycS_dom h
  refine clo_of w d.1 d.2 fun e' h1 h2 h3 hm => ?_
  refine (cycS_sub n f).2 e h (mem_seenL.mpr ⟨e', ?_, hm⟩)
  exact List.mem_filter.mpr ⟨mem_rgI.mpr ⟨h1, by omega⟩, h3⟩
theorem nons_lt (n : Int) (f : PF) : (nons n f).Pairwise (· < ·) := (rgI_lt _).sublist List.filter_sublist
theorem cycS_lt (n : Int) (f : PF) : (cycS n f).Pairwise (· < ·) := (rgI_lt _).sublist (cycS_sub n f).1
theorem sel_all {n : Int} {f : PF} (w : WF n f) : selL f [] (nons n f ++ rgI n.toNat) = nons n f ++ cycS n f := by
  rw [selL_append, sel_nons w (nons n f) [] (fun e h => nons_dom h) (by simpa using nodup_of_lt (nons_lt n f)), List.nil_append, cycS_eq]
/-! ### ordered by the first elements -/
def fstN (l : List Int) : Nat → List Int
  | 0 => []
  | k + 1 => fstN l k ++ l.filter fun x => decide (x = (k : Int))
theorem filt_lt {l : List Int} (k : Nat) (h : l.Pairwise (· < ·)) : (l.filter fun x => decide (x < (k : Int))) ++ (l.filter fun x => decide (x = (k : Int))) = l.filter fun x => decide (x < ((k + 1 : Nat) : Int)) := by
  induction l with
  | nil => rfl
  | cons a r ih =>
    rw [List.pairwise_cons] at h
    have ih := ih h.2
    by_cases h1 : a < (k : Int)
    · rw [List.filter_cons_of_pos (by simpa using h1), List.filter_cons_of_neg (by simp; omega), List.filter_cons_of_pos (by simp; omega), ← ih, List.cons_append]
    · by_cases h2 : a = (k : Int)
      · have z1 : r.filter (fun x => decide (x < (k : Int))) = [] := by
          rw [List.filter_eq_nil_iff]
          intro x hx
          have := h.1 x hx
          simp
          omega
        rw [z1] at ih
        rw [List.filter_cons_of_neg (by simpa using h1), z1, List.filter_cons_of_pos (by simpa using h2), List.filter_cons_of_pos (by simp; omega), ← ih]
        rfl
      · rw [List.filter_cons_of_neg (by simpa using h1), List.filter_cons_of_neg (by simpa using h2), List.filter_cons_of_neg (by simp; omega), ih]
theorem fstN_eq {l : List Int} (h : l.Pairwise (· < ·)) (h0 : ∀ x ∈ l, 0 ≤ x) (k : Nat) : fstN l k = l.filter fun x => decide (x < (k : Int)) := by
  induction k with
  | zero =>
    symm
    show _ = []
    rw [List.filter_eq_nil_iff]
    intro x hx
    have := h0 x hx
    simp
    omega
  | succ k ih =>
    show fstN l k ++ _ = _
    rw [ih]
    exact filt_lt k h
theorem fstN_all {l : List Int} {n : Nat} (h : l.Pairwise (· < ·)) (h0 : ∀ x ∈ l, 0 ≤ x ∧ x < (n : Int)) : fstN l n = l := by
  rw [fstN_eq h (fun x hx => (h0 x hx).1), List.filter_eq_self.mpr]
  intro x hx
  have := (h0 x hx).2
  simpa using this
end PM
namespace PM
open U
/-! ### powers by the law's own way; great exponents -/
theorem inv_inv' {n : Int} {f : PF} (w : WF n f) : inv n (inv n f) = f := by
  refine pf_ext fun x y => ?_
  rw [inv_iff (wf_inv w), inv_iff w]
theorem id_mul' {n : Int} {f : PF} (w : WF n f) : mul (idn n) f = f := by
  refine pf_ext fun x z => ?_
  rw [mul_iff]
  constructor
  · rintro ⟨y, h1, h2⟩
    obtain ⟨rfl, _⟩ := idn_iff.mp h1
    exact h2
  · intro h
    have := w.dom x z h
    exact ⟨x, idn_iff.mpr ⟨rfl, this.1, this.2.1⟩, h⟩
def pk (n : Int) (f : PF) : Nat → PF
  | 0 => idn n
  | k + 1 => iter f (k + 1)
theorem pk_succ {n : Int} {f : PF} (w : WF n f) (k : Nat) : mul (pk n f k) f = pk n f (k + 1) := by
  cases k with
  | zero => exact id_mul' w
  | succ k => rfl
theorem wf_pk {n : Int} {f : PF} (w : WF n f) : ∀ k : Nat, WF n (pk n f k)
  | 0 => wf_idn n
  | k + 1 => wf_iter w k
theorem mod_per {L g : Nat} (h1 : 1 ≤ L) (h9 : L ≤ 9) (hg : 9 ≤ g) : g % L = (9 + (g - 9) % 2520) % L := by
  have : L = 1 ∨ L = 2 ∨ L = 3 ∨ L = 4 ∨ L = 5 ∨ L = 6 ∨ L = 7 ∨ L = 8 ∨ L = 9 := by omega
  rcases this with rfl | rfl | rfl | rfl | rfl | rfl | rfl | rfl | rfl <;> omega
theorem iter_per {n : Int} {f : PF} (w : WF n f) (hn : n ≤ 9) {g : Nat} (hg : 9 ≤ g) : iter f g = iter f (9 + (g - 9) % 2520) := by
  obtain ⟨g', eg⟩ : ∃ g', g' = 9 + (g - 9) % 2520 := ⟨_, rfl⟩
  rw [← eg]
  have hg' : 9 ≤ g' := by omega
  funext x
  by_cases hx : 0 ≤ x ∧ x < n
  · obtain ⟨r, hr⟩ := ex_row w hx.1 hx.2
    obtain ⟨pre, z, q, R, st⟩ := id hr
    subst q
    have hlen := len_range (R.nd w) (R.dom w hx.1 hx.2)
    have lz : (pre ++ [z])[(pre ++ [z]).length - 1]? = some z := by simp
    have hpos : 0 < (pre ++ [z]).length := by simp
    rcases st with st | st
    · have a1 := R.openAt lz hpos st 0 x R.h0 g
      have a2 := R.openAt lz hpos st 0 x R.h0 g'
      rw [a1, a2, List.getElem?_eq_none_iff.mpr (by omega), List.getElem?_eq_none_iff.mpr (by omega)]
    · have a1 := R.closedAt lz hpos st 0 x R.h0 g
      have a2 := R.closedAt lz hpos st 0 x R.h0 g'
      rw [a1, a2, Nat.zero_add, Nat.zero_add, eg, ← mod_per (by omega) (by omega) hg]
  · have none_ : ∀ k : Nat, iter f (k + 1) x = none := fun k => by
      rw [iter_head]
      cases e : f x with
      | none => rfl
      | some y => exact absurd ⟨(w.dom x y e).1, (w.dom x y e).2.1⟩ hx
    rw [show g = g - 1 + 1 by omega, show g' = g' - 1 + 1 by omega, none_, none_]
end PM
namespace My
open PySem L2
def top (i : Nat) : Stmt := PySem.Challenge.pw_chainmaps_k20_great_map_errors.main.body.getD i (.Pass ⟨0, 0, 0, 0⟩)
abbrev s_is_integer : Stmt := top 6
abbrev n_is_integer : List Str := ["value"]
theorem sc_is_integer : FnScope n_is_integer ["value"] (defScope s_is_integer) := ⟨rfl, rfl, rfl, by decide +kernel, rfl, by decide +kernel, by decide +kernel⟩
abbrev s_in_range : Stmt := top 7
abbrev n_in_range : List Str := ["value", "least", "most"]
theorem sc_in_range : FnScope n_in_range ["value", "least", "most"] (defScope s_in_range) := ⟨rfl, rfl, rfl, by decide +kernel, rfl, by decide +kernel, by decide +kernel⟩
abbrev s_are_lengths : Stmt := top 19
abbrev n_are_lengths : List Str := ["value", "length"]
theorem sc_are_lengths : FnScope n_are_lengths ["value"] (defScope s_are_lengths) := ⟨rfl, rfl, rfl, by decide +kernel, rfl, by decide +kernel, by decide +kernel⟩
abbrev s_GreatMap__init : Stmt := inClass (top 21) 0
abbrev n_GreatMap__init : List Str := ["self", "cycles", "chains"]
theorem sc_GreatMap__init : FnScope n_GreatMap__init ["self", "cycles", "chains"] (defScope s_GreatMap__init) := ⟨rfl, rfl, rfl, by decide +kernel, rfl, by decide +kernel, by decide +kernel⟩
abbrev s_GreatMap_length_at : Stmt := inClass (top 21) 3
abbrev n_GreatMap_length_at : List Str := ["self", "place", "lengths"]
theorem sc_GreatMap_length_at : FnScope n_GreatMap_length_at ["self", "place"] (defScope s_GreatMap_length_at) := ⟨rfl, rfl, rfl, by decide +kernel, rfl, by decide +kernel, by decide +kernel⟩
abbrev s_GreatMap_after : Stmt := inClass (top 21) 4
abbrev n_GreatMap_after : List Str := ["self", "place", "exponent", "length", "kind", "index", "offset"]
theorem sc_GreatMap_after : FnScope n_GreatMap_after ["self", "place", "exponent"] (defScope s_GreatMap_after) := ⟨rfl, rfl, rfl, by decide +kernel, rfl, by decide +kernel, by decide +kernel⟩
abbrev s_GreatMap_fate : Stmt := inClass (top 21) 5
abbrev n_GreatMap_fate : List Str := ["self", "place", "length"]
theorem sc_GreatMap_fate : FnScope n_GreatMap_fate ["self", "place"] (defScope s_GreatMap_fate) := ⟨rfl, rfl, rfl, by decide +kernel, rfl, by decide +kernel, by decide +kernel⟩
abbrev s_InvalidShape__init : Stmt := inClass (top 3) 0
abbrev n_InvalidShape__init : List Str := ["self", "part"]
theorem sc_InvalidShape__init : FnScope n_InvalidShape__init ["self", "part"] (defScope s_InvalidShape__init) := ⟨rfl, rfl, rfl, by decide +kernel, rfl, by decide +kernel, by decide +kernel⟩
abbrev s_InvalidElement__init : Stmt := inClass (top 2) 0
abbrev n_InvalidElement__init : List Str := ["self", "value"]
theorem sc_InvalidElement__init : FnScope n_InvalidElement__init ["self", "value"] (defScope s_InvalidElement__init) := ⟨rfl, rfl, rfl, by decide +kernel, rfl, by decide +kernel, by decide +kernel⟩
abbrev s_InvalidNumber__init : Stmt := inClass (top 4) 0
abbrev n_InvalidNumber__init : List Str := ["self", "value"]
theorem sc_InvalidNumber__init : FnScope n_InvalidNumber__init ["self", "value"] (defScope s_InvalidNumber__init) := ⟨rfl, rfl, rfl, by decide +kernel, rfl, by decide +kernel, by decide +kernel⟩
abbrev s_l_hand : Stmt := top 23
abbrev n_l_hand : List Str := ["_law_script", "_law_k", "_law_cell", "_law_seed"]
theorem sc_l_hand : FnScope n_l_hand ["_law_script", "_law_k"] (defScope s_l_hand) := ⟨rfl, rfl, rfl, by decide +kernel, rfl, by decide +kernel, by decide +kernel⟩
abbrev s_l_draw : Stmt := top 24
abbrev n_l_draw : List Str := ["_law_pool", "_law_size", "_law_found"]
theorem sc_l_draw : FnScope n_l_draw ["_law_pool", "_law_size"] (defScope s_l_draw) := ⟨rfl, rfl, rfl, by decide +kernel, rfl, by decide +kernel, by decide +kernel⟩
abbrev s_l_made : Stmt := top 25
abbrev n_l_made : List Str := ["_law_cycles", "_law_chains", "e"]
theorem sc_l_made : FnScope n_l_made ["_law_cycles", "_law_chains"] (defScope s_l_made) := ⟨rfl, rfl, rfl, by decide +kernel, rfl, by decide +kernel, by decide +kernel⟩
abbrev s_l_refused : Stmt := top 26
abbrev n_l_refused : List Str := ["_law_call", "e"]
theorem sc_l_refused : FnScope n_l_refused ["_law_call"] (defScope s_l_refused) := ⟨rfl, rfl, rfl, by decide +kernel, rfl, by decide +kernel, by decide +kernel⟩
abbrev s_law : Stmt := top 27
abbrev n_law : List Str := ["_law_script", "_law_k", "_law_pool", "_law_lengths", "_law_odd", "_law_great", "_law_thing", "_law_due", "_law_turn"]
theorem sc_law : FnScope n_law ["_law_script"] (defScope s_law) := ⟨rfl, rfl, rfl, by decide +kernel, rfl, by decide +kernel, by decide +kernel⟩
structure Txt (K : PySem.W.Frag) (mg : Str → Option Value) where
  f_is_integer : Addr
  f_in_range : Addr
  f_are_lengths : Addr
  f_l_hand : Addr
  f_l_draw : Addr
  f_l_made : Addr
  f_l_refused : Addr
  f_law : Addr
  c_law : Addr
  P_law : Addr
  C_GreatMap : Addr
  f_GreatMap__init : Addr
  f_GreatMap_length_at : Addr
  f_GreatMap_after : Addr
  f_GreatMap_fate : Addr
  C_InvalidShape : Addr
  f_InvalidShape__init : Addr
  C_InvalidElement : Addr
  f_InvalidElement__init : Addr
  C_InvalidNumber : Addr
  f_InvalidNumber__init : Addr
  A_is_integer : U.FnAt K "is_integer" "is_integer" s_is_integer f_is_integer ["value"]
  g_is_integer : mg "is_integer" = some (.ref f_is_integer)
  A_in_range : U.FnAt K "in_range" "in_range" s_in_range f_in_range ["value", "least", "most"]
  g_in_range : mg "in_range" = some (.ref f_in_range)
  A_are_lengths : U.FnAt K "are_lengths" "are_lengths" s_are_lengths f_are_lengths ["value"]
  g_are_lengths : mg "are_lengths" = some (.ref f_are_lengths)
  A_l_hand : U.FnAt K "_law_hand" "_law_hand" s_l_hand f_l_hand ["_law_script", "_law_k"]
  g_l_hand : mg "_law_hand" = some (.ref f_l_hand)
  A_l_draw : U.FnAt K "_law_draw" "_law_draw" s_l_draw f_l_draw ["_law_pool", "_law_size"]
  g_l_draw : mg "_law_draw" = some (.ref f_l_draw)
  A_l_made : U.FnAt K "_law_made" "_law_made" s_l_made f_l_made ["_law_cycles", "_law_chains"]
  g_l_made : mg "_law_made" = some (.ref f_l_made)
  A_l_refused : U.FnAt K "_law_refused" "_law_refused" s_l_refused f_l_refused ["_law_call"]
  g_l_refused : mg "_law_refused" = some (.ref f_l_refused)
  tm_law : P_law = 339
  hd_law : PySem.W.codeHdIn K c_law P_law = true
  nt_law : K.lookup P_law = none
  B_law : U.CodeAt K "law" "law" s_law f_law c_law ["_law_script"]
  K_law : PySem.W.keepIn K (.ref f_law) = true
  L_law : ∃ fd, Fun K "law" "law" s_law f_law fd ∧ ∀ (s : Shared) (u : Value), BindsTo s fd ⟨[u], []⟩ [("_law_script", u)]
  g_law : mg "law" = some (.ref f_law)
  g_GreatMap : mg "GreatMap" = some (.ref C_GreatMap)
  o_GreatMap : U.OwnC K C_GreatMap
  kit_int_GreatMap : PySem.W.kitOne K (.ref C_GreatMap) (.type "int") = some false
  kit_bool_GreatMap : PySem.W.kitOne K (.ref C_GreatMap) (.type "bool") = some false
  kit_list_GreatMap : PySem.W.kitOne K (.ref C_GreatMap) (.type "list") = some false
  kit_tuple_GreatMap : PySem.W.kitOne K (.ref C_GreatMap) (.type "tuple") = some false
  self_GreatMap : PySem.W.kitOne K (.ref C_GreatMap) (.ref C_GreatMap) = some true
  na_own_cycles_GreatMap : NoAttr K C_GreatMap "own_cycles"
  na_own_chains_GreatMap : NoAttr K C_GreatMap "own_chains"
  A_GreatMap__init : U.FnAt K "__init__" "GreatMap.__init__" s_GreatMap__init f_GreatMap__init ["self", "cycles", "chains"]
  m_GreatMap__init : PySem.W.findIn K (.ref C_GreatMap) "__init__" = some (some (.ref f_GreatMap__init))
  i_GreatMap__init : PySem.W.isFn K (.ref f_GreatMap__init) = true
  M_GreatMap : Mk K C_GreatMap f_GreatMap__init
  A_GreatMap_length_at : U.FnAt K "length_at" "GreatMap.length_at" s_GreatMap_length_at f_GreatMap_length_at ["self", "place"]
  m_GreatMap_length_at : PySem.W.findIn K (.ref C_GreatMap) "length_at" = some (some (.ref f_GreatMap_length_at))
  i_GreatMap_length_at : PySem.W.isFn K (.ref f_GreatMap_length_at) = true
  meth_GreatMap_length_at : Meth K C_GreatMap "length_at" f_GreatMap_length_at
  A_GreatMap_after : U.FnAt K "after" "GreatMap.after" s_GreatMap_after f_GreatMap_after ["self", "place", "exponent"]
  m_GreatMap_after : PySem.W.findIn K (.ref C_GreatMap) "after" = some (some (.ref f_GreatMap_after))
  i_GreatMap_after : PySem.W.isFn K (.ref f_GreatMap_after) = true
  meth_GreatMap_after : Meth K C_GreatMap "after" f_GreatMap_after
  A_GreatMap_fate : U.FnAt K "fate" "GreatMap.fate" s_GreatMap_fate f_GreatMap_fate ["self", "place"]
  m_GreatMap_fate : PySem.W.findIn K (.ref C_GreatMap) "fate" = some (some (.ref f_GreatMap_fate))
  i_GreatMap_fate : PySem.W.isFn K (.ref f_GreatMap_fate) = true
  meth_GreatMap_fate : Meth K C_GreatMap "fate" f_GreatMap_fate
  g_InvalidShape : mg "InvalidShape" = some (.ref C_InvalidShape)
  x_InvalidShape : OexG K C_InvalidShape
  xf_InvalidShape : XfC K C_InvalidShape
  xe_InvalidShape : ExcC K C_InvalidShape
  te_InvalidShape : PySem.W.exmOne K (.ref C_InvalidShape) (.ref C_InvalidShape) = some true
  kit_ValueError_InvalidShape : PySem.W.kitOne K (.ref C_InvalidShape) (.type "ValueError") = some true
  na_part_InvalidShape : PySem.W.findIn K (.ref C_InvalidShape) "part" = some none
  A_InvalidShape__init : U.FnAt K "__init__" "InvalidShape.__init__" s_InvalidShape__init f_InvalidShape__init ["self", "part"]
  m_InvalidShape__init : PySem.W.findIn K (.ref C_InvalidShape) "__init__" = some (some (.ref f_InvalidShape__init))
  ti_InvalidShape__init : PySem.W.typeIn K (.ref f_InvalidShape__init) = some (.type "function")
  g_InvalidElement : mg "InvalidElement" = some (.ref C_InvalidElement)
  x_InvalidElement : OexG K C_InvalidElement
  xf_InvalidElement : XfC K C_InvalidElement
  xe_InvalidElement : ExcC K C_InvalidElement
  te_InvalidElement : PySem.W.exmOne K (.ref C_InvalidElement) (.ref C_InvalidElement) = some true
  kit_ValueError_InvalidElement : PySem.W.kitOne K (.ref C_InvalidElement) (.type "ValueError") = some true
  na_value_InvalidElement : PySem.W.findIn K (.ref C_InvalidElement) "value" = some none
  A_InvalidElement__init : U.FnAt K "__init__" "InvalidElement.__init__" s_InvalidElement__init f_InvalidElement__init ["self", "value"]
  m_InvalidElement__init : PySem.W.findIn K (.ref C_InvalidElement) "__init__" = some (some (.ref f_InvalidElement__init))
  ti_InvalidElement__init : PySem.W.typeIn K (.ref f_InvalidElement__init) = some (.type "function")
  g_InvalidNumber : mg "InvalidNumber" = some (.ref C_InvalidNumber)
  x_InvalidNumber : OexG K C_InvalidNumber
  xf_InvalidNumber : XfC K C_InvalidNumber
  xe_InvalidNumber : ExcC K C_InvalidNumber
  te_InvalidNumber : PySem.W.exmOne K (.ref C_InvalidNumber) (.ref C_InvalidNumber) = some true
  kit_ValueError_InvalidNumber : PySem.W.kitOne K (.ref C_InvalidNumber) (.type "ValueError") = some true
  te_InvalidNumber_InvalidElement : PySem.W.exmOne K (.ref C_InvalidNumber) (.ref C_InvalidElement) = some false
  na_value_InvalidNumber : PySem.W.findIn K (.ref C_InvalidNumber) "value" = some none
  A_InvalidNumber__init : U.FnAt K "__init__" "InvalidNumber.__init__" s_InvalidNumber__init f_InvalidNumber__init ["self", "value"]
  m_InvalidNumber__init : PySem.W.findIn K (.ref C_InvalidNumber) "__init__" = some (some (.ref f_InvalidNumber__init))
  ti_InvalidNumber__init : PySem.W.typeIn K (.ref f_InvalidNumber__init) = some (.type "function")
  n_isinstance : mg "isinstance" = none
  n_int : mg "int" = none
  n_bool : mg "bool" = none
  n_len : mg "len" = none
  n_range : mg "range" = none
  n_list : mg "list" = none
  n_tuple : mg "tuple" = none
  n_max : mg "max" = none
  n_min : mg "min" = none
  n_all : mg "all" = none
  n_repr : mg "repr" = none
  n_ValueError : mg "ValueError" = none
  v_MAX_PARTS : ∃ t, mg "MAX_PARTS" = some (.int 100 t)
  v_MAX_NUMBER : ∃ t, mg "MAX_NUMBER" = some (.int 1000000000000000000000000000000 t)
theorem mk_txt {K : PySem.W.Frag} {h : Heap} {mg : Str → Option Value} (X : K.In h) (G : h.Ns mainGlobals mg)
    {f_is_integer : Addr} {oc_is_integer kV_is_integer dc_is_integer pm_is_integer cd_is_integer ct_is_integer : Value} {od_is_integer an_is_integer : Option Addr} {sl_is_integer : Array (Option Value)}
    {f_in_range : Addr} {oc_in_range kV_in_range dc_in_range pm_in_range cd_in_range ct_in_range : Value} {od_in_range an_in_range : Option Addr} {sl_in_range : Array (Option Value)}
    {f_are_lengths : Addr} {oc_are_lengths kV_are_lengths dc_are_lengths pm_are_lengths cd_are_lengths ct_are_lengths : Value} {od_are_lengths an_are_lengths : Option Addr} {sl_are_lengths : Array (Option Value)}
    {f_l_hand : Addr} {oc_l_hand kV_l_hand dc_l_hand pm_l_hand cd_l_hand ct_l_hand : Value} {od_l_hand an_l_hand : Option Addr} {sl_l_hand : Array (Option Value)}
    {f_l_draw : Addr} {oc_l_draw kV_l_draw dc_l_draw pm_l_draw cd_l_draw ct_l_draw : Value} {od_l_draw an_l_draw : Option Addr} {sl_l_draw : Array (Option Value)}
    {f_l_made : Addr} {oc_l_made kV_l_made dc_l_made pm_l_made cd_l_made ct_l_made : Value} {od_l_made an_l_made : Option Addr} {sl_l_made : Array (Option Value)}
    {f_l_refused : Addr} {oc_l_refused kV_l_refused dc_l_refused pm_l_refused cd_l_refused ct_l_refused : Value} {od_l_refused an_l_refused : Option Addr} {sl_l_refused : Array (Option Value)}
    {f_law c_law P_law : Addr} {oc_law kV_law dc_law pm_law ct_law : Value} {od_law an_law : Option Addr} {sl_law : Array (Option Value)}
    {C_GreatMap : Addr}
    {f_GreatMap__init : Addr} {oc_GreatMap__init kV_GreatMap__init dc_GreatMap__init pm_GreatMap__init cd_GreatMap__init ct_GreatMap__init : Value} {od_GreatMap__init an_GreatMap__init : Option Addr} {sl_GreatMap__init : Array (Option Value)}
    {f_GreatMap_length_at : Addr} {oc_GreatMap_length_at kV_GreatMap_length_at dc_GreatMap_length_at pm_GreatMap_length_at cd_GreatMap_length_at ct_GreatMap_length_at : Value} {od_GreatMap_length_at an_GreatMap_length_at : Option Addr} {sl_GreatMap_length_at : Array (Option Value)}
    {f_GreatMap_after : Addr} {oc_GreatMap_after kV_GreatMap_after dc_GreatMap_after pm_GreatMap_after cd_GreatMap_after ct_GreatMap_after : Value} {od_GreatMap_after an_GreatMap_after : Option Addr} {sl_GreatMap_after : Array (Option Value)}
    {f_GreatMap_fate : Addr} {oc_GreatMap_fate kV_GreatMap_fate dc_GreatMap_fate pm_GreatMap_fate cd_GreatMap_fate ct_GreatMap_fate : Value} {od_GreatMap_fate an_GreatMap_fate : Option Addr} {sl_GreatMap_fate : Array (Option Value)}
    {C_InvalidShape : Addr} {nm_InvalidShape q_InvalidShape : Str} {N_InvalidShape : Addr} {bs_InvalidShape : List Value} {sn_InvalidShape : List Str} {sub_InvalidShape : List Value} {ab_InvalidShape : Bool} {col_InvalidShape : Option Bool} {dd_InvalidShape : Option Addr} {m0_InvalidShape m1_InvalidShape m2_InvalidShape m3_InvalidShape m5_InvalidShape : Option Value}
    {f_InvalidShape__init : Addr} {oc_InvalidShape__init kV_InvalidShape__init dc_InvalidShape__init pm_InvalidShape__init cd_InvalidShape__init ct_InvalidShape__init : Value} {od_InvalidShape__init an_InvalidShape__init : Option Addr} {sl_InvalidShape__init : Array (Option Value)}
    {C_InvalidElement : Addr} {nm_InvalidElement q_InvalidElement : Str} {N_InvalidElement : Addr} {bs_InvalidElement : List Value} {sn_InvalidElement : List Str} {sub_InvalidElement : List Value} {ab_InvalidElement : Bool} {col_InvalidElement : Option Bool} {dd_InvalidElement : Option Addr} {m0_InvalidElement m1_InvalidElement m2_InvalidElement m3_InvalidElement m5_InvalidElement : Option Value}
    {f_InvalidElement__init : Addr} {oc_InvalidElement__init kV_InvalidElement__init dc_InvalidElement__init pm_InvalidElement__init cd_InvalidElement__init ct_InvalidElement__init : Value} {od_InvalidElement__init an_InvalidElement__init : Option Addr} {sl_InvalidElement__init : Array (Option Value)}
    {C_InvalidNumber : Addr} {nm_InvalidNumber q_InvalidNumber : Str} {N_InvalidNumber : Addr} {bs_InvalidNumber : List Value} {sn_InvalidNumber : List Str} {sub_InvalidNumber : List Value} {ab_InvalidNumber : Bool} {col_InvalidNumber : Option Bool} {dd_InvalidNumber : Option Addr} {m0_InvalidNumber m1_InvalidNumber m2_InvalidNumber m3_InvalidNumber m5_InvalidNumber : Option Value}
    {f_InvalidNumber__init : Addr} {oc_InvalidNumber__init kV_InvalidNumber__init dc_InvalidNumber__init pm_InvalidNumber__init cd_InvalidNumber__init ct_InvalidNumber__init : Value} {od_InvalidNumber__init an_InvalidNumber__init : Option Addr} {sl_InvalidNumber__init : Array (Option Value)}
    {t_MAX_PARTS : Tok}
    {t_MAX_NUMBER : Tok}
    (a_is_integer : PySem.W.nsIn K mainGlobals "is_integer" = some (some (.ref f_is_integer)))
    (l_is_integer : K.lookup f_is_integer = some ⟨oc_is_integer, od_is_integer, .func (PySem.W.fnOf "is_integer" "is_integer" (defArgs s_is_integer) (defBody s_is_integer) (defScope s_is_integer) .none kV_is_integer dc_is_integer pm_is_integer an_is_integer cd_is_integer ct_is_integer), sl_is_integer⟩)
    (c_is_integer : PySem.W.codeIn K cd_is_integer "is_integer" = true)
    (k_is_integer : PySem.W.keepIn K (.ref f_is_integer) = true)
    (a_in_range : PySem.W.nsIn K mainGlobals "in_range" = some (some (.ref f_in_range)))
    (l_in_range : K.lookup f_in_range = some ⟨oc_in_range, od_in_range, .func (PySem.W.fnOf "in_range" "in_range" (defArgs s_in_range) (defBody s_in_range) (defScope s_in_range) .none kV_in_range dc_in_range pm_in_range an_in_range cd_in_range ct_in_range), sl_in_range⟩)
    (c_in_range : PySem.W.codeIn K cd_in_range "in_range" = true)
    (k_in_range : PySem.W.keepIn K (.ref f_in_range) = true)
    (a_are_lengths : PySem.W.nsIn K mainGlobals "are_lengths" = some (some (.ref f_are_lengths)))
    (l_are_lengths : K.lookup f_are_lengths = some ⟨oc_are_lengths, od_are_lengths, .func (PySem.W.fnOf "are_lengths" "are_lengths" (defArgs s_are_lengths) (defBody s_are_lengths) (defScope s_are_lengths) .none kV_are_lengths dc_are_lengths pm_are_lengths an_are_lengths cd_are_lengths ct_are_lengths), sl_are_lengths⟩)
    (c_are_lengths : PySem.W.codeIn K cd_are_lengths "are_lengths" = true)
    (k_are_lengths : PySem.W.keepIn K (.ref f_are_lengths) = true)
    (a_l_hand : PySem.W.nsIn K mainGlobals "_law_hand" = some (some (.ref f_l_hand)))
    (l_l_hand : K.lookup f_l_hand = some ⟨oc_l_hand, od_l_hand, .func (PySem.W.fnOf "_law_hand" "_law_hand" (defArgs s_l_hand) (defBody s_l_hand) (defScope s_l_hand) .none kV_l_hand dc_l_hand pm_l_hand an_l_hand cd_l_hand ct_l_hand), sl_l_hand⟩)
    (c_l_hand : PySem.W.codeIn K cd_l_hand "_law_hand" = true)
    (k_l_hand : PySem.W.keepIn K (.ref f_l_hand) = true)
    (a_l_draw : PySem.W.nsIn K mainGlobals "_law_draw" = some (some (.ref f_l_draw)))
    (l_l_draw : K.lookup f_l_draw = some ⟨oc_l_draw, od_l_draw, .func (PySem.W.fnOf "_law_draw" "_law_draw" (defArgs s_l_draw) (defBody s_l_draw) (defScope s_l_draw) .none kV_l_draw dc_l_draw pm_l_draw an_l_draw cd_l_draw ct_l_draw), sl_l_draw⟩)
    (c_l_draw : PySem.W.codeIn K cd_l_draw "_law_draw" = true)
    (k_l_draw : PySem.W.keepIn K (.ref f_l_draw) = true)
    (a_l_made : PySem.W.nsIn K mainGlobals "_law_made" = some (some (.ref f_l_made)))
    (l_l_made : K.lookup f_l_made = some ⟨oc_l_made, od_l_made, .func (PySem.W.fnOf "_law_made" "_law_made" (defArgs s_l_made) (defBody s_l_made) (defScope s_l_made) .none kV_l_made dc_l_made pm_l_made an_l_made cd_l_made ct_l_made), sl_l_made⟩)
    (c_l_made : PySem.W.codeIn K cd_l_made "_law_made" = true)
    (k_l_made : PySem.W.keepIn K (.ref f_l_made) = true)
    (a_l_refused : PySem.W.nsIn K mainGlobals "_law_refused" = some (some (.ref f_l_refused)))
    (l_l_refused : K.lookup f_l_refused = some ⟨oc_l_refused, od_l_refused, .func (PySem.W.fnOf "_law_refused" "_law_refused" (defArgs s_l_refused) (defBody s_l_refused) (defScope s_l_refused) .none kV_l_refused dc_l_refused pm_l_refused an_l_refused cd_l_refused ct_l_refused), sl_l_refused⟩)
    (c_l_refused : PySem.W.codeIn K cd_l_refused "_law_refused" = true)
    (k_l_refused : PySem.W.keepIn K (.ref f_l_refused) = true)
    (a_law : PySem.W.nsIn K mainGlobals "law" = some (some (.ref f_law)))
    (l_law : K.lookup f_law = some ⟨oc_law, od_law, .func (PySem.W.fnOf "law" "law" (defArgs s_law) (defBody s_law) (defScope s_law) .none kV_law dc_law pm_law an_law (.ref c_law) ct_law), sl_law⟩)
    (cd_law : PySem.W.codeIn K (.ref c_law) "law" = true)
    (k_law : PySem.W.keepIn K (.ref f_law) = true)
    (tm_law : P_law = 339)
    (hd_law : PySem.W.codeHdIn K c_law P_law = true)
    (nt_law : K.lookup P_law = none)
    (a_GreatMap : PySem.W.nsIn K mainGlobals "GreatMap" = some (some (.ref C_GreatMap)))
    (pg_GreatMap : PySem.W.plainGet K C_GreatMap Str.empty = true)
    (hd_GreatMap : PySem.W.hasDictIn K C_GreatMap = true)
    (po_GreatMap : PySem.W.plainOver K C_GreatMap = true)
    (sa_GreatMap : PySem.W.findIn K (.ref C_GreatMap) "__setattr__" = some (some (.builtin "object.__setattr__")))
    (sf_GreatMap : PySem.W.selfFirst K C_GreatMap = true)
    (ca_GreatMap : PySem.W.findIn K (.ref C_GreatMap) "__class__" = some (some (.builtin "object.__class__")))
    (cn_GreatMap : PySem.W.specialIn K (.builtin "object.__class__") "__get__" = some (some (.builtin "getset_descriptor.__get__")))
    (ct_GreatMap : PySem.W.takesIn K (.builtin "object.__class__") = some true)
    (cm_GreatMap : PySem.W.mroIn K C_GreatMap (.type "object") = some true)
    (kc_GreatMap : PySem.W.keepIn K (.ref C_GreatMap) = true)
    (kit_int_GreatMap : PySem.W.kitOne K (.ref C_GreatMap) (.type "int") = some false)
    (kit_bool_GreatMap : PySem.W.kitOne K (.ref C_GreatMap) (.type "bool") = some false)
    (kit_list_GreatMap : PySem.W.kitOne K (.ref C_GreatMap) (.type "list") = some false)
    (kit_tuple_GreatMap : PySem.W.kitOne K (.ref C_GreatMap) (.type "tuple") = some false)
    (self_GreatMap : PySem.W.kitOne K (.ref C_GreatMap) (.ref C_GreatMap) = some true)
    (na_own_cycles_GreatMap : PySem.W.findIn K (.ref C_GreatMap) "own_cycles" = some none)
    (na_own_chains_GreatMap : PySem.W.findIn K (.ref C_GreatMap) "own_chains" = some none)
    (m_GreatMap__init : PySem.W.findIn K (.ref C_GreatMap) "__init__" = some (some (.ref f_GreatMap__init)))
    (i_GreatMap__init : PySem.W.isFn K (.ref f_GreatMap__init) = true)
    (l_GreatMap__init : K.lookup f_GreatMap__init = some ⟨oc_GreatMap__init, od_GreatMap__init, .func (PySem.W.fnOf "__init__" "GreatMap.__init__" (defArgs s_GreatMap__init) (defBody s_GreatMap__init) (defScope s_GreatMap__init) .none kV_GreatMap__init dc_GreatMap__init pm_GreatMap__init an_GreatMap__init cd_GreatMap__init ct_GreatMap__init), sl_GreatMap__init⟩)
    (c_GreatMap__init : PySem.W.codeIn K cd_GreatMap__init "GreatMap.__init__" = true)
    (k_GreatMap__init : PySem.W.keepIn K (.ref f_GreatMap__init) = true)
    (mk_GreatMap : PySem.W.makesIn K C_GreatMap = true)
    (m_GreatMap_length_at : PySem.W.findIn K (.ref C_GreatMap) "length_at" = some (some (.ref f_GreatMap_length_at)))
    (i_GreatMap_length_at : PySem.W.isFn K (.ref f_GreatMap_length_at) = true)
    (l_GreatMap_length_at : K.lookup f_GreatMap_length_at = some ⟨oc_GreatMap_length_at, od_GreatMap_length_at, .func (PySem.W.fnOf "length_at" "GreatMap.length_at" (defArgs s_GreatMap_length_at) (defBody s_GreatMap_length_at) (defScope s_GreatMap_length_at) .none kV_GreatMap_length_at dc_GreatMap_length_at pm_GreatMap_length_at an_GreatMap_length_at cd_GreatMap_length_at ct_GreatMap_length_at), sl_GreatMap_length_at⟩)
    (c_GreatMap_length_at : PySem.W.codeIn K cd_GreatMap_length_at "GreatMap.length_at" = true)
    (k_GreatMap_length_at : PySem.W.keepIn K (.ref f_GreatMap_length_at) = true)
    (m_GreatMap_after : PySem.W.findIn K (.ref C_GreatMap) "after" = some (some (.ref f_GreatMap_after)))
    (i_GreatMap_after : PySem.W.isFn K (.ref f_GreatMap_after) = true)
    (l_GreatMap_after : K.lookup f_GreatMap_after = some ⟨oc_GreatMap_after, od_GreatMap_after, .func (PySem.W.fnOf "after" "GreatMap.after" (defArgs s_GreatMap_after) (defBody s_GreatMap_after) (defScope s_GreatMap_after) .none kV_GreatMap_after dc_GreatMap_after pm_GreatMap_after an_GreatMap_after cd_GreatMap_after ct_GreatMap_after), sl_GreatMap_after⟩)
    (c_GreatMap_after : PySem.W.codeIn K cd_GreatMap_after "GreatMap.after" = true)
    (k_GreatMap_after : PySem.W.keepIn K (.ref f_GreatMap_after) = true)
    (m_GreatMap_fate : PySem.W.findIn K (.ref C_GreatMap) "fate" = some (some (.ref f_GreatMap_fate)))
    (i_GreatMap_fate : PySem.W.isFn K (.ref f_GreatMap_fate) = true)
    (l_GreatMap_fate : K.lookup f_GreatMap_fate = some ⟨oc_GreatMap_fate, od_GreatMap_fate, .func (PySem.W.fnOf "fate" "GreatMap.fate" (defArgs s_GreatMap_fate) (defBody s_GreatMap_fate) (defScope s_GreatMap_fate) .none kV_GreatMap_fate dc_GreatMap_fate pm_GreatMap_fate an_GreatMap_fate cd_GreatMap_fate ct_GreatMap_fate), sl_GreatMap_fate⟩)
    (c_GreatMap_fate : PySem.W.codeIn K cd_GreatMap_fate "GreatMap.fate" = true)
    (k_GreatMap_fate : PySem.W.keepIn K (.ref f_GreatMap_fate) = true)
    (a_InvalidShape : PySem.W.nsIn K mainGlobals "InvalidShape" = some (some (.ref C_InvalidShape)))
    (xl_InvalidShape : K.lookup C_InvalidShape = some (excClassObj nm_InvalidShape q_InvalidShape C_InvalidShape N_InvalidShape bs_InvalidShape [.type "ValueError", .type "Exception", .type "BaseException", .type "object"] true sn_InvalidShape sub_InvalidShape ab_InvalidShape col_InvalidShape dd_InvalidShape m0_InvalidShape m1_InvalidShape m2_InvalidShape m3_InvalidShape m5_InvalidShape "ValueError.__new__"))
    (sa_InvalidShape : PySem.W.findIn K (.ref C_InvalidShape) "__setattr__" = some (some (.builtin "object.__setattr__")))
    (ex_InvalidShape : PySem.W.subIn K (.ref C_InvalidShape) (.type "BaseException") = some true)
    (ty_InvalidShape : PySem.W.typeIn K (.ref C_InvalidShape) = some (.type "type"))
    (kc_InvalidShape : PySem.W.keepIn K (.ref C_InvalidShape) = true)
    (hd_InvalidShape : PySem.W.hasDictIn K C_InvalidShape = true)
    (ga_InvalidShape : PySem.W.findIn K (.ref C_InvalidShape) "__getattribute__" = some (some (.builtin "BaseException.__getattribute__")))
    (gg_InvalidShape : PySem.W.findIn K (.ref C_InvalidShape) "__getattr__" = some none)
    (ss_InvalidShape : PySem.W.subIn K (.ref C_InvalidShape) (.ref C_InvalidShape) = some true)
    (ca_InvalidShape : PySem.W.findIn K (.ref C_InvalidShape) "__class__" = some (some (.builtin "object.__class__")))
    (cn_InvalidShape : PySem.W.specialIn K (.builtin "object.__class__") "__get__" = some (some (.builtin "getset_descriptor.__get__")))
    (ct_InvalidShape : PySem.W.takesIn K (.builtin "object.__class__") = some true)
    (cm_InvalidShape : PySem.W.mroIn K C_InvalidShape (.type "object") = some true)
    (kit_ValueError_InvalidShape : PySem.W.kitOne K (.ref C_InvalidShape) (.type "ValueError") = some true)
    (na_part_InvalidShape : PySem.W.findIn K (.ref C_InvalidShape) "part" = some none)
    (m_InvalidShape__init : PySem.W.findIn K (.ref C_InvalidShape) "__init__" = some (some (.ref f_InvalidShape__init)))
    (ti_InvalidShape__init : PySem.W.typeIn K (.ref f_InvalidShape__init) = some (.type "function"))
    (l_InvalidShape__init : K.lookup f_InvalidShape__init = some ⟨oc_InvalidShape__init, od_InvalidShape__init, .func (PySem.W.fnOf "__init__" "InvalidShape.__init__" (defArgs s_InvalidShape__init) (defBody s_InvalidShape__init) (defScope s_InvalidShape__init) .none kV_InvalidShape__init dc_InvalidShape__init pm_InvalidShape__init an_InvalidShape__init cd_InvalidShape__init ct_InvalidShape__init), sl_InvalidShape__init⟩)
    (c_InvalidShape__init : PySem.W.codeIn K cd_InvalidShape__init "InvalidShape.__init__" = true)
    (k_InvalidShape__init : PySem.W.keepIn K (.ref f_InvalidShape__init) = true)
    (a_InvalidElement : PySem.W.nsIn K mainGlobals "InvalidElement" = some (some (.ref C_InvalidElement)))
    (xl_InvalidElement : K.lookup C_InvalidElement = some (excClassObj nm_InvalidElement q_InvalidElement C_InvalidElement N_InvalidElement bs_InvalidElement [.type "ValueError", .type "Exception", .type "BaseException", .type "object"] true sn_InvalidElement sub_InvalidElement ab_InvalidElement col_InvalidElement dd_InvalidElement m0_InvalidElement m1_InvalidElement m2_InvalidElement m3_InvalidElement m5_InvalidElement "ValueError.__new__"))
    (sa_InvalidElement : PySem.W.findIn K (.ref C_InvalidElement) "__setattr__" = some (some (.builtin "object.__setattr__")))
    (ex_InvalidElement : PySem.W.subIn K (.ref C_InvalidElement) (.type "BaseException") = some true)
    (ty_InvalidElement : PySem.W.typeIn K (.ref C_InvalidElement) = some (.type "type"))
    (kc_InvalidElement : PySem.W.keepIn K (.ref C_InvalidElement) = true)
    (hd_InvalidElement : PySem.W.hasDictIn K C_InvalidElement = true)
    (ga_InvalidElement : PySem.W.findIn K (.ref C_InvalidElement) "__getattribute__" = some (some (.builtin "BaseException.__getattribute__")))
    (gg_InvalidElement : PySem.W.findIn K (.ref C_InvalidElement) "__getattr__" = some none)
    (ss_InvalidElement : PySem.W.subIn K (.ref C_InvalidElement) (.ref C_InvalidElement) = some true)
    (ca_InvalidElement : PySem.W.findIn K (.ref C_InvalidElement) "__class__" = some (some (.builtin "object.__class__")))
    (cn_InvalidElement : PySem.W.specialIn K (.builtin "object.__class__") "__get__" = some (some (.builtin "getset_descriptor.__get__")))
    (ct_InvalidElement : PySem.W.takesIn K (.builtin "object.__class__") = some true)
    (cm_InvalidElement : PySem.W.mroIn K C_InvalidElement (.type "object") = some true)
    (kit_ValueError_InvalidElement : PySem.W.kitOne K (.ref C_InvalidElement) (.type "ValueError") = some true)
    (na_value_InvalidElement : PySem.W.findIn K (.ref C_InvalidElement) "value" = some none)
    (m_InvalidElement__init : PySem.W.findIn K (.ref C_InvalidElement) "__init__" = some (some (.ref f_InvalidElement__init)))
    (ti_InvalidElement__init : PySem.W.typeIn K (.ref f_InvalidElement__init) = some (.type "function"))
    (l_InvalidElement__init : K.lookup f_InvalidElement__init = some ⟨oc_InvalidElement__init, od_InvalidElement__init, .func (PySem.W.fnOf "__init__" "InvalidElement.__init__" (defArgs s_InvalidElement__init) (defBody s_InvalidElement__init) (defScope s_InvalidElement__init) .none kV_InvalidElement__init dc_InvalidElement__init pm_InvalidElement__init an_InvalidElement__init cd_InvalidElement__init ct_InvalidElement__init), sl_InvalidElement__init⟩)
    (c_InvalidElement__init : PySem.W.codeIn K cd_InvalidElement__init "InvalidElement.__init__" = true)
    (k_InvalidElement__init : PySem.W.keepIn K (.ref f_InvalidElement__init) = true)
    (a_InvalidNumber : PySem.W.nsIn K mainGlobals "InvalidNumber" = some (some (.ref C_InvalidNumber)))
    (xl_InvalidNumber : K.lookup C_InvalidNumber = some (excClassObj nm_InvalidNumber q_InvalidNumber C_InvalidNumber N_InvalidNumber bs_InvalidNumber [.type "ValueError", .type "Exception", .type "BaseException", .type "object"] true sn_InvalidNumber sub_InvalidNumber ab_InvalidNumber col_InvalidNumber dd_InvalidNumber m0_InvalidNumber m1_InvalidNumber m2_InvalidNumber m3_InvalidNumber m5_InvalidNumber "ValueError.__new__"))
    (sa_InvalidNumber : PySem.W.findIn K (.ref C_InvalidNumber) "__setattr__" = some (some (.builtin "object.__setattr__")))
    (ex_InvalidNumber : PySem.W.subIn K (.ref C_InvalidNumber) (.type "BaseException") = some true)
    (ty_InvalidNumber : PySem.W.typeIn K (.ref C_InvalidNumber) = some (.type "type"))
    (kc_InvalidNumber : PySem.W.keepIn K (.ref C_InvalidNumber) = true)
    (hd_InvalidNumber : PySem.W.hasDictIn K C_InvalidNumber = true)
    (ga_InvalidNumber : PySem.W.findIn K (.ref C_InvalidNumber) "__getattribute__" = some (some (.builtin "BaseException.__getattribute__")))
    (gg_InvalidNumber : PySem.W.findIn K (.ref C_InvalidNumber) "__getattr__" = some none)
    (ss_InvalidNumber : PySem.W.subIn K (.ref C_InvalidNumber) (.ref C_InvalidNumber) = some true)
    (ca_InvalidNumber : PySem.W.findIn K (.ref C_InvalidNumber) "__class__" = some (some (.builtin "object.__class__")))
    (cn_InvalidNumber : PySem.W.specialIn K (.builtin "object.__class__") "__get__" = some (some (.builtin "getset_descriptor.__get__")))
    (ct_InvalidNumber : PySem.W.takesIn K (.builtin "object.__class__") = some true)
    (cm_InvalidNumber : PySem.W.mroIn K C_InvalidNumber (.type "object") = some true)
    (kit_ValueError_InvalidNumber : PySem.W.kitOne K (.ref C_InvalidNumber) (.type "ValueError") = some true)
    (te_InvalidElement_InvalidNumber : PySem.W.subIn K (.ref C_InvalidNumber) (.ref C_InvalidElement) = some false)
    (na_value_InvalidNumber : PySem.W.findIn K (.ref C_InvalidNumber) "value" = some none)
    (m_InvalidNumber__init : PySem.W.findIn K (.ref C_InvalidNumber) "__init__" = some (some (.ref f_InvalidNumber__init)))
    (ti_InvalidNumber__init : PySem.W.typeIn K (.ref f_InvalidNumber__init) = some (.type "function"))
    (l_InvalidNumber__init : K.lookup f_InvalidNumber__init = some ⟨oc_InvalidNumber__init, od_InvalidNumber__init, .func (PySem.W.fnOf "__init__" "InvalidNumber.__init__" (defArgs s_InvalidNumber__init) (defBody s_InvalidNumber__init) (defScope s_InvalidNumber__init) .none kV_InvalidNumber__init dc_InvalidNumber__init pm_InvalidNumber__init an_InvalidNumber__init cd_InvalidNumber__init ct_InvalidNumber__init), sl_InvalidNumber__init⟩)
    (c_InvalidNumber__init : PySem.W.codeIn K cd_InvalidNumber__init "InvalidNumber.__init__" = true)
    (k_InvalidNumber__init : PySem.W.keepIn K (.ref f_InvalidNumber__init) = true)
    (z_isinstance : PySem.W.nsIn K mainGlobals "isinstance" = some none)
    (z_int : PySem.W.nsIn K mainGlobals "int" = some none)
    (z_bool : PySem.W.nsIn K mainGlobals "bool" = some none)
    (z_len : PySem.W.nsIn K mainGlobals "len" = some none)
    (z_range : PySem.W.nsIn K mainGlobals "range" = some none)
    (z_list : PySem.W.nsIn K mainGlobals "list" = some none)
    (z_tuple : PySem.W.nsIn K mainGlobals "tuple" = some none)
    (z_max : PySem.W.nsIn K mainGlobals "max" = some none)
    (z_min : PySem.W.nsIn K mainGlobals "min" = some none)
    (z_all : PySem.W.nsIn K mainGlobals "all" = some none)
    (z_repr : PySem.W.nsIn K mainGlobals "repr" = some none)
    (z_ValueError : PySem.W.nsIn K mainGlobals "ValueError" = some none)
    (v_MAX_PARTS : PySem.W.nsIn K mainGlobals "MAX_PARTS" = some (some (.int 100 t_MAX_PARTS)))
    (v_MAX_NUMBER : PySem.W.nsIn K mainGlobals "MAX_NUMBER" = some (some (.int 1000000000000000000000000000000 t_MAX_NUMBER))) :
    Nonempty (Txt K mg) := ⟨{
    f_is_integer := f_is_integer,
    A_is_integer := ⟨_, fun_mk (st := s_is_integer) l_is_integer c_is_integer k_is_integer, (fun_mk (st := s_is_integer) l_is_integer c_is_integer k_is_integer).binds (ps := ["value"]) fun _ _ _ _ _ _ us hl => match us, hl with | [_], _ => rfl⟩,
    g_is_integer := PySem.W.mg_of X G a_is_integer,
    f_in_range := f_in_range,
    A_in_range := ⟨_, fun_mk (st := s_in_range) l_in_range c_in_range k_in_range, (fun_mk (st := s_in_range) l_in_range c_in_range k_in_range).binds (ps := ["value", "least", "most"]) fun _ _ _ _ _ _ us hl => match us, hl with | [_, _, _], _ => rfl⟩,
    g_in_range := PySem.W.mg_of X G a_in_range,
    f_are_lengths := f_are_lengths,
    A_are_lengths := ⟨_, fun_mk (st := s_are_lengths) l_are_lengths c_are_lengths k_are_lengths, (fun_mk (st := s_are_lengths) l_are_lengths c_are_lengths k_are_lengths).binds (ps := ["value"]) fun _ _ _ _ _ _ us hl => match us, hl with | [_], _ => rfl⟩,
    g_are_lengths := PySem.W.mg_of X G a_are_lengths,
    f_l_hand := f_l_hand,
    A_l_hand := ⟨_, fun_mk (st := s_l_hand) l_l_hand c_l_hand k_l_hand, (fun_mk (st := s_l_hand) l_l_hand c_l_hand k_l_hand).binds (ps := ["_law_script", "_law_k"]) fun _ _ _ _ _ _ us hl => match us, hl with | [_, _], _ => rfl⟩,
    g_l_hand := PySem.W.mg_of X G a_l_hand,
    f_l_draw := f_l_draw,
    A_l_draw := ⟨_, fun_mk (st := s_l_draw) l_l_draw c_l_draw k_l_draw, (fun_mk (st := s_l_draw) l_l_draw c_l_draw k_l_draw).binds (ps := ["_law_pool", "_law_size"]) fun _ _ _ _ _ _ us hl => match us, hl with | [_, _], _ => rfl⟩,
    g_l_draw := PySem.W.mg_of X G a_l_draw,
    f_l_made := f_l_made,
    A_l_made := ⟨_, fun_mk (st := s_l_made) l_l_made c_l_made k_l_made, (fun_mk (st := s_l_made) l_l_made c_l_made k_l_made).binds (ps := ["_law_cycles", "_law_chains"]) fun _ _ _ _ _ _ us hl => match us, hl with | [_, _], _ => rfl⟩,
    g_l_made := PySem.W.mg_of X G a_l_made,
    f_l_refused := f_l_refused,
    A_l_refused := ⟨_, fun_mk (st := s_l_refused) l_l_refused c_l_refused k_l_refused, (fun_mk (st := s_l_refused) l_l_refused c_l_refused k_l_refused).binds (ps := ["_law_call"]) fun _ _ _ _ _ _ us hl => match us, hl with | [_], _ => rfl⟩,
    g_l_refused := PySem.W.mg_of X G a_l_refused,
    c_law := c_law,
    P_law := P_law,
    f_law := f_law,
    tm_law := tm_law,
    hd_law := hd_law,
    nt_law := nt_law,
    B_law := ⟨_, _, _, _, _, _, _, _, l_law, cd_law, (fun_mk (st := s_law) l_law cd_law k_law).binds (ps := ["_law_script"]) fun _ _ _ _ _ _ us hl => match us, hl with | [_], _ => rfl⟩,
    K_law := k_law,
    L_law := ⟨_, fun_mk (st := s_law) l_law cd_law k_law, fun s v => .of_eq rfl⟩,
    g_law := PySem.W.mg_of X G a_law,
    C_GreatMap := C_GreatMap,
    g_GreatMap := PySem.W.mg_of X G a_GreatMap,
    o_GreatMap := ⟨⟨pg_GreatMap, hd_GreatMap, po_GreatMap, sa_GreatMap⟩, sf_GreatMap, ca_GreatMap, cn_GreatMap, ct_GreatMap, cm_GreatMap⟩,
    kit_int_GreatMap := kit_int_GreatMap,
    kit_bool_GreatMap := kit_bool_GreatMap,
    kit_list_GreatMap := kit_list_GreatMap,
    kit_tuple_GreatMap := kit_tuple_GreatMap,
    self_GreatMap := self_GreatMap,
    na_own_cycles_GreatMap := na_own_cycles_GreatMap,
    na_own_chains_GreatMap := na_own_chains_GreatMap,
    f_GreatMap__init := f_GreatMap__init,
    A_GreatMap__init := ⟨_, fun_mk (st := s_GreatMap__init) l_GreatMap__init c_GreatMap__init k_GreatMap__init, (fun_mk (st := s_GreatMap__init) l_GreatMap__init c_GreatMap__init k_GreatMap__init).binds (ps := ["self", "cycles", "chains"]) fun _ _ _ _ _ _ us hl => match us, hl with | [_, _, _], _ => rfl⟩,
    m_GreatMap__init := m_GreatMap__init,
    i_GreatMap__init := i_GreatMap__init,
    M_GreatMap := ⟨mk_GreatMap, m_GreatMap__init, i_GreatMap__init, kc_GreatMap⟩,
    f_GreatMap_length_at := f_GreatMap_length_at,
    A_GreatMap_length_at := ⟨_, fun_mk (st := s_GreatMap_length_at) l_GreatMap_length_at c_GreatMap_length_at k_GreatMap_length_at, (fun_mk (st := s_GreatMap_length_at) l_GreatMap_length_at c_GreatMap_length_at k_GreatMap_length_at).binds (ps := ["self", "place"]) fun _ _ _ _ _ _ us hl => match us, hl with | [_, _], _ => rfl⟩,
    m_GreatMap_length_at := m_GreatMap_length_at,
    i_GreatMap_length_at := i_GreatMap_length_at,
    meth_GreatMap_length_at := ⟨m_GreatMap_length_at, i_GreatMap_length_at, k_GreatMap_length_at⟩,
    f_GreatMap_after := f_GreatMap_after,
    A_GreatMap_after := ⟨_, fun_mk (st := s_GreatMap_after) l_GreatMap_after c_GreatMap_after k_GreatMap_after, (fun_mk (st := s_GreatMap_after) l_GreatMap_after c_GreatMap_after k_GreatMap_after).binds (ps := ["self", "place", "exponent"]) fun _ _ _ _ _ _ us hl => match us, hl with | [_, _, _], _ => rfl⟩,
    m_GreatMap_after := m_GreatMap_after,
    i_GreatMap_after := i_GreatMap_after,
    meth_GreatMap_after := ⟨m_GreatMap_after, i_GreatMap_after, k_GreatMap_after⟩,
    f_GreatMap_fate := f_GreatMap_fate,
    A_GreatMap_fate := ⟨_, fun_mk (st := s_GreatMap_fate) l_GreatMap_fate c_GreatMap_fate k_GreatMap_fate, (fun_mk (st := s_GreatMap_fate) l_GreatMap_fate c_GreatMap_fate k_GreatMap_fate).binds (ps := ["self", "place"]) fun _ _ _ _ _ _ us hl => match us, hl with | [_, _], _ => rfl⟩,
    m_GreatMap_fate := m_GreatMap_fate,
    i_GreatMap_fate := i_GreatMap_fate,
    meth_GreatMap_fate := ⟨m_GreatMap_fate, i_GreatMap_fate, k_GreatMap_fate⟩,
    C_InvalidShape := C_InvalidShape,
    g_InvalidShape := PySem.W.mg_of X G a_InvalidShape,
    x_InvalidShape := ⟨⟨"ValueError", _, _, _, _, _, _, _, _, _, _, _, _, _, _, _, _, _, _, PySem.F.store_ValueError, PySem.F.excBase_ValueError, xl_InvalidShape, by decide +kernel⟩, sa_InvalidShape, ex_InvalidShape, ty_InvalidShape, kc_InvalidShape⟩,
    xf_InvalidShape := ⟨ga_InvalidShape, gg_InvalidShape, ex_InvalidShape, hd_InvalidShape⟩,
    xe_InvalidShape := ⟨ga_InvalidShape, gg_InvalidShape, ex_InvalidShape, hd_InvalidShape, ca_InvalidShape, cn_InvalidShape, ct_InvalidShape, cm_InvalidShape⟩,
    te_InvalidShape := PySem.W.exm_ref ex_InvalidShape hd_InvalidShape ty_InvalidShape ss_InvalidShape,
    kit_ValueError_InvalidShape := kit_ValueError_InvalidShape,
    na_part_InvalidShape := na_part_InvalidShape,
    f_InvalidShape__init := f_InvalidShape__init,
    A_InvalidShape__init := ⟨_, fun_mk (st := s_InvalidShape__init) l_InvalidShape__init c_InvalidShape__init k_InvalidShape__init, (fun_mk (st := s_InvalidShape__init) l_InvalidShape__init c_InvalidShape__init k_InvalidShape__init).binds (ps := ["self", "part"]) fun _ _ _ _ _ _ us hl => match us, hl with | [_, _], _ => rfl⟩,
    m_InvalidShape__init := m_InvalidShape__init,
    ti_InvalidShape__init := ti_InvalidShape__init,
    C_InvalidElement := C_InvalidElement,
    g_InvalidElement := PySem.W.mg_of X G a_InvalidElement,
    x_InvalidElement := ⟨⟨"ValueError", _, _, _, _, _, _, _, _, _, _, _, _, _, _, _, _, _, _, PySem.F.store_ValueError, PySem.F.excBase_ValueError, xl_InvalidElement, by decide +kernel⟩, sa_InvalidElement, ex_InvalidElement, ty_InvalidElement, kc_InvalidElement⟩,
    xf_InvalidElement := ⟨ga_InvalidElement, gg_InvalidElement, ex_InvalidElement, hd_InvalidElement⟩,
    xe_InvalidElement := ⟨ga_InvalidElement, gg_InvalidElement, ex_InvalidElement, hd_InvalidElement, ca_InvalidElement, cn_InvalidElement, ct_InvalidElement, cm_InvalidElement⟩,
    te_InvalidElement := PySem.W.exm_ref ex_InvalidElement hd_InvalidElement ty_InvalidElement ss_InvalidElement,
    kit_ValueError_InvalidElement := kit_ValueError_InvalidElement,
    na_value_InvalidElement := na_value_InvalidElement,
    f_InvalidElement__init := f_InvalidElement__init,
    A_InvalidElement__init := ⟨_, fun_mk (st := s_InvalidElement__init) l_InvalidElement__init c_InvalidElement__init k_InvalidElement__init, (fun_mk (st := s_InvalidElement__init) l_InvalidElement__init c_InvalidElement__init k_InvalidElement__init).binds (ps := ["self", "value"]) fun _ _ _ _ _ _ us hl => match us, hl with | [_, _], _ => rfl⟩,
    m_InvalidElement__init := m_InvalidElement__init,
    ti_InvalidElement__init := ti_InvalidElement__init,
    C_InvalidNumber := C_InvalidNumber,
    g_InvalidNumber := PySem.W.mg_of X G a_InvalidNumber,
    x_InvalidNumber := ⟨⟨"ValueError", _, _, _, _, _, _, _, _, _, _, _, _, _, _, _, _, _, _, PySem.F.store_ValueError, PySem.F.excBase_ValueError, xl_InvalidNumber, by decide +kernel⟩, sa_InvalidNumber, ex_InvalidNumber, ty_InvalidNumber, kc_InvalidNumber⟩,
    xf_InvalidNumber := ⟨ga_InvalidNumber, gg_InvalidNumber, ex_InvalidNumber, hd_InvalidNumber⟩,
    xe_InvalidNumber := ⟨ga_InvalidNumber, gg_InvalidNumber, ex_InvalidNumber, hd_InvalidNumber, ca_InvalidNumber, cn_InvalidNumber, ct_InvalidNumber, cm_InvalidNumber⟩,
    te_InvalidNumber := PySem.W.exm_ref ex_InvalidNumber hd_InvalidNumber ty_InvalidNumber ss_InvalidNumber,
    kit_ValueError_InvalidNumber := kit_ValueError_InvalidNumber,
    te_InvalidNumber_InvalidElement := PySem.W.exm_ref ex_InvalidElement hd_InvalidElement ty_InvalidElement te_InvalidElement_InvalidNumber,
    na_value_InvalidNumber := na_value_InvalidNumber,
    f_InvalidNumber__init := f_InvalidNumber__init,
    A_InvalidNumber__init := ⟨_, fun_mk (st := s_InvalidNumber__init) l_InvalidNumber__init c_InvalidNumber__init k_InvalidNumber__init, (fun_mk (st := s_InvalidNumber__init) l_InvalidNumber__init c_InvalidNumber__init k_InvalidNumber__init).binds (ps := ["self", "value"]) fun _ _ _ _ _ _ us hl => match us, hl with | [_, _], _ => rfl⟩,
    m_InvalidNumber__init := m_InvalidNumber__init,
    ti_InvalidNumber__init := ti_InvalidNumber__init,
    n_isinstance := PySem.W.mg_none_of X G z_isinstance,
    n_int := PySem.W.mg_none_of X G z_int,
    n_bool := PySem.W.mg_none_of X G z_bool,
    n_len := PySem.W.mg_none_of X G z_len,
    n_range := PySem.W.mg_none_of X G z_range,
    n_list := PySem.W.mg_none_of X G z_list,
    n_tuple := PySem.W.mg_none_of X G z_tuple,
    n_max := PySem.W.mg_none_of X G z_max,
    n_min := PySem.W.mg_none_of X G z_min,
    n_all := PySem.W.mg_none_of X G z_all,
    n_repr := PySem.W.mg_none_of X G z_repr,
    n_ValueError := PySem.W.mg_none_of X G z_ValueError,
    v_MAX_PARTS := ⟨_, PySem.W.mg_of X G v_MAX_PARTS⟩,
    v_MAX_NUMBER := ⟨_, PySem.W.mg_of X G v_MAX_NUMBER⟩ }⟩
end My
namespace My
open PySem L2 U StX
/-! ### values of any known form -/
def knownV (C : Addr) (H : Hp) : V → Prop
  | .non => True | .bl _ => True | .int _ => True | .str _ => True
  | .ref a => (∃ xs, H a = some (.lst xs)) ∨ (∃ xs, H a = some (.tup xs)) ∨ (∃ kvs, H a = some (.dK kvs)) ∨ ∃ dx fs, H a = some (.ins C dx fs)
  | _ => False
def isI : V → Bool | .int _ => true | _ => false
def isB : V → Bool | .bl _ => true | _ => false
def inR : V → Int → Int → Bool | .int i, a, b => decide (a ≤ i) && decide (i ≤ b) | _, _, _ => false
section
variable {P : Program} {w : World} {K : PySem.W.Frag} {mg : Str → Option Value} {base : Heap}
theorem tyx_ins {H : Hp} {a C dx : Addr} {fs : List (Str × V)} (o : OwnC K C) (e : H a = some (.ins C dx fs)) : TyX K H (.ref a) (.ref C) := .base (.ins e o.cl o.ca o.cn o.ct o.cm)
/-- the type of a known value, and what isinstance says of it -/
theorem ty_known (T : Txt K mg) {H : Hp} {x : V} (h : knownV T.C_GreatMap H x) : ∃ t, TyX K H x t ∧ PySem.W.kitOne K t (.type "int") = some (isI x || isB x) ∧ PySem.W.kitOne K t (.type "bool") = some (isB x) := by
  cases x with
  | non => exact ⟨_, .base .non, kit_ty (r := false) (by decide +kernel), kit_ty (r := false) (by decide +kernel)⟩
  | bl b => exact ⟨_, .base (.bl b), kit_ty (r := true) (by decide +kernel), kit_ty (r := true) (by decide +kernel)⟩
  | int i => exact ⟨_, .base (.int i), kit_ty (r := true) (by decide +kernel), kit_ty (r := false) (by decide +kernel)⟩
  | str z => exact ⟨_, .base (.str z), kit_ty (r := false) (by decide +kernel), kit_ty (r := false) (by decide +kernel)⟩
  | ref a =>
    rcases h with ⟨xs, e⟩ | ⟨xs, e⟩ | ⟨xs, e⟩ | ⟨dx, fs, e⟩
    · exact ⟨_, .base (.lst e), kit_ty (r := false) (by decide +kernel), kit_ty (r := false) (by decide +kernel)⟩
    · exact ⟨_, .base (.tup e), kit_ty (r := false) (by decide +kernel), kit_ty (r := false) (by decide +kernel)⟩
    · exact ⟨_, .base (.dK e), kit_ty (r := false) (by decide +kernel), kit_ty (r := false) (by decide +kernel)⟩
    · exact ⟨_, tyx_ins T.o_GreatMap e, T.kit_int_GreatMap, T.kit_bool_GreatMap⟩
  | byt b => exact h.elim
  | flt b => exact h.elim
  | ty b => exact h.elim
def spIsInt (C : Addr) : Sp := fun vs H Q _ => ∃ x, vs = [x] ∧ knownV C H x ∧ Q (.bl (isI x)) H
theorem ok_is_integer (T : Txt K mg) : FnR P w K mg base CX0 1 T.f_is_integer (spIsInt T.C_GreatMap) := by
  refine T.A_is_integer.ok sc_is_integer (fun vs H Q E h => ?_) (fun cdv A outer s H vs Q E hr h => ?_)
  · obtain ⟨x, rfl, _⟩ := h
    rfl
  · obtain ⟨x, rfl, hx, q⟩ := h
    refine ⟨_, pss_one (ps_ret (pe_and (pe_callB call_isi (by rfl) T.n_isinstance (by decide +kernel) (pa_cons (pv 0) (pa_cons (pe_bltn (v := .ty "int") (u := .type "int") (by rfl) T.n_int (by decide +kernel) rfl) pa_nil)))
      (pe_one (pe_not (pe_callB call_isi (by rfl) T.n_isinstance (by decide +kernel) (pa_cons (pv 0) (pa_cons (pe_bltn (v := .ty "bool") (u := .type "bool") (by rfl) T.n_bool (by decide +kernel) rfl) pa_nil))))))), ?_⟩
    obtain ⟨t, ht, k1, k2⟩ := ty_known T hx
    refine ⟨_, rfl, x, _, t, _, _, rfl, .ty _, ht, k1, _, rfl, ?_⟩
    refine ifB (fun hc => ?_) (fun hc => ?_)
    · refine ⟨_, rfl, x, _, t, _, _, rfl, .ty _, ht, k2, _, rfl, ?_⟩
      have e : (!isB x) = isI x := by cases x <;> first | rfl | cases hc
      rw [e]
      exact q
    · have e : isI x = false := by cases x <;> first | rfl | cases hc
      rw [e] at q
      exact q
def spInR (C : Addr) : Sp := fun vs H Q _ => ∃ x a b, vs = [x, .int a, .int b] ∧ knownV C H x ∧ Q (.bl (inR x a b)) H
theorem ok_in_range (T : Txt K mg) : FnR P w K mg base CX0 2 T.f_in_range (spInR T.C_GreatMap) := by
  refine T.A_in_range.ok sc_in_range (fun vs H Q E h => ?_) (fun cdv A outer s H vs Q E hr h => ?_)
  · obtain ⟨x, a, b, rfl, _⟩ := h
    rfl
  · obtain ⟨x, a, b, rfl, hx, q⟩ := h
    refine ⟨_, pss_one (ps_ret (pe_and (pe_callR (ok_is_integer T) hr T.A_is_integer.kp rfl T.g_is_integer pass0 (pa_cons (pv 0) pa_nil))
      (pe_one (pe_chain op_le op_le (pv 1) (pv 0) (pv 2))))), ?_⟩
    refine ⟨_, rfl, x, rfl, hx, _, rfl, ?_⟩
    cases x with
    | int i =>
      refine iteT ⟨_, rfl, _, rfl, _, _, rfl, rfl, _, rfl, ?_⟩
      refine ifD (fun h => ?_) (fun h => ?_)
      · refine ⟨_, rfl, _, _, rfl, rfl, ?_⟩
        have e : inR (.int i) a b = decide (i ≤ b) := by simp [inR, h]
        rw [e] at q
        exact q
      · have e : inR (.int i) a b = false := by simp [inR, h]
        rw [e] at q
        exact q
    | _ => exact iteF q
/-! ### the law's draws -/
def spDraw : Sp := fun vs H Q _ => ∃ (p : Addr) (a b n : Int), vs = [.ref p, .int n] ∧ H p = some (.lst [.int a, .int b]) ∧ 0 ≤ a ∧ 0 ≤ b ∧ b < 2147483647 ∧ 0 < n ∧ n < 1073741824 ∧
  ∀ a' b' r : Int, 0 ≤ a' → 0 ≤ b' → b' < 2147483647 → 0 ≤ r → r < n → Q (.int r) (upd H p (.lst [.int a', .int b']))
theorem ok_draw (T : Txt K mg) : FnR P w K mg base CX0 1 T.f_l_draw spDraw := by
  refine T.A_l_draw.ok sc_l_draw (fun vs H Q E h => ?_) (fun cdv A outer s H vs Q E hr h => ?_)
  · obtain ⟨p, a, b, n, rfl, _⟩ := h
    rfl
  · obtain ⟨p, a, b, n, rfl, hp, ha, hb, hb2, hn, hn2, k⟩ := h
    refine ⟨_, pss_cons (ps_if (pt_cmpR op_gt (pe_ix ix_list (pv 0) pe_int (fun _ _ => rfl)) pe_int (nomark _))
        (pss_cons (ps_set (i := 2) sc_l_draw.nd rfl (Or.inl rfl) (pe_op op_mod (pe_ix ix_list (pv 0) pe_int (fun _ _ => rfl)) (pv 1)))
        (pss_cons (ps_asg (pe_op op_fdiv (pe_ix ix_list (pv 0) pe_int (fun _ _ => rfl)) (pv 1)) (pg_sub (pv 0) pe_int set_list))
        (pss_one (ps_ret (pv 2))))) pss_nil)
      (pss_cons (ps_asg (pe_op op_mod (pe_op op_add (pe_op op_mul (pe_ix ix_list (pv 0) pe_int (fun _ _ => rfl)) pe_int) pe_int) pe_int) (pg_sub (pv 0) pe_int set_list))
      (pss_one (ps_ret (pe_op op_mod (pe_op op_fdiv (pe_op op_mod (pe_op op_mul (pe_ix ix_list (pv 0) pe_int (fun _ _ => rfl)) (pe_ix ix_list (pv 0) pe_int (fun _ _ => rfl))) pe_int) pe_int) (pv 1))))), ?_⟩
    refine ⟨_, rfl, p, _, 0, _, rfl, rfl, SqL.of hp, rfl, _, _, rfl, rfl, _, rfl, ?_⟩
    refine ifD (fun h => ?_) (fun h => ?_)
    · refine ⟨_, rfl, p, _, 0, _, rfl, rfl, SqL.of hp, rfl, _, rfl, _, _, rfl, rfl, hn, ?_⟩
      refine ⟨_, rfl, p, _, 0, _, rfl, rfl, SqL.of hp, rfl, _, rfl, _, _, rfl, rfl, ⟨hn, hn2⟩, _, rfl, p, _, 0, _, rfl, rfl, hp, rfl, ?_⟩
      refine ⟨_, rfl, ?_⟩
      exact k (a / n) b (a % n) (Int.ediv_nonneg ha (by omega)) hb hb2 (Int.emod_nonneg _ (by omega)) (Int.emod_lt_of_pos _ hn)
    · have m1 : 0 ≤ (b * 48271 + 11) % 2147483647 := Int.emod_nonneg _ (by decide)
      have m2 : (b * 48271 + 11) % 2147483647 < 2147483647 := Int.emod_lt_of_pos _ (by decide)
      refine ⟨_, rfl, p, _, 1, _, rfl, rfl, SqL.of hp, rfl, _, _, rfl, rfl, .inr ⟨by decide, by decide⟩, _, _, rfl, rfl, _, _, rfl, rfl, (by show (0 : Int) < 2147483647; decide), _, rfl, p, _, 1, _, rfl, rfl, hp, rfl, ?_⟩
      refine ⟨_, rfl, p, _, 1, _, rfl, rfl, SqL.of upd_same, rfl, _, rfl, p, _, 1, _, rfl, rfl, SqL.of upd_same, rfl, _, _, rfl, rfl, .inl ⟨by omega, by omega⟩, _, _, rfl, rfl, (by show (0 : Int) < 2147483629; decide), _, _, rfl, rfl, ⟨by decide, by decide⟩, _, rfl, _, _, rfl, rfl, hn, ?_⟩
      exact k a ((b * 48271 + 11) % 2147483647) _ ha m1 m2 (Int.emod_nonneg _ (by omega)) (Int.emod_lt_of_pos _ hn)
end
end My
namespace My
open PySem L2 U StX PM
section
variable {P : Program} {w : World} {K : PySem.W.Frag} {mg : Str → Option Value} {base : Heap}
theorem head_int (xs : List V) (h : ∀ v ∈ xs, ∃ i, v = V.int i) : ∃ c, atI (xs ++ [V.int 0]) 0 = some (V.int c) := by
  cases xs with
  | nil => exact ⟨0, rfl⟩
  | cons a r =>
    obtain ⟨i, rfl⟩ := h a List.mem_cons_self
    refine ⟨i, atI_nat (j := 0) ?_⟩
    rfl
theorem cut_int (ns : List Int) (lo hi : Option Int) : ∀ v ∈ cutV (ns.map V.int) lo hi, ∃ i, v = V.int i := by
  intro v hv
  unfold cutV at hv
  have h1 := List.mem_of_mem_drop (List.mem_of_mem_take hv)
  obtain ⟨i, _, rfl⟩ := List.mem_map.mp h1
  exact ⟨i, rfl⟩
def spHand (K : PySem.W.Frag) : Sp := fun vs H Q _ => ∃ (a : Addr) (ns : List Int) (k : Int), vs = [.ref a, .int k] ∧ SqL K H a (ns.map V.int) ∧ ns.length ≤ 63 ∧
  ∀ p H' x y, H p = none → H' p = some (.lst [.int x, .int y]) → Same H H' → 0 ≤ x → 0 ≤ y → y < 2147483647 → Q (.ref p) H'
theorem ok_hand (T : Txt K mg) : FnR P w K mg base CX0 1 T.f_l_hand (spHand K) := by
  refine T.A_l_hand.ok sc_l_hand (fun vs H Q E h => ?_) (fun cdv A outer s H vs Q E hr h => ?_)
  · obtain ⟨a, ns, k, rfl, _⟩ := h
    rfl
  · obtain ⟨a, ns, k, rfl, hS, hl, q⟩ := h
    refine ⟨_, pss_cons (ps_set (i := 2) sc_l_hand.nd rfl (Or.inl rfl) (pe_ix ix_list (pe_op op_cat (pe_slice sl_list (pv 0) (po_some (pv 1)) (po_some (pe_op op_add (pv 1) pe_int))) (pe_lst (pa_cons pe_int pa_nil))) pe_int (fun _ _ => rfl)))
      (pss_cons (ps_set (i := 3) sc_l_hand.nd rfl (Or.inl rfl) (pe_op op_mod (pe_op op_mul (pe_op op_add (pe_op op_add (pe_op op_mod (pv 2) pe_int) (pe_op op_mul pe_int (pv 1))) pe_int) pe_int) pe_int))
      (pss_one (ps_ret (pe_lst (pa_cons (pe_op op_mul (pe_callTy call_int1 (by rfl) T.n_int (by decide +kernel) (pa_cons (pe_cmpR op_ge (pv 2) (pe_op op_pow pe_int pe_int) (nomark _)) pa_nil)) (pv 2)) (pa_cons (pv 3) pa_nil)))))), ?_⟩
    refine ⟨_, rfl, _, rfl, _, rfl, _, rfl, _, _, rfl, rfl, _, rfl, a, _, rfl, hS, fun p1 n1 => ?_⟩
    refine ⟨(by show 1 ≤ sizeLine; decide), fun p2 n2 => ?_⟩
    have n12 : p1 ≠ p2 := ne_of_none upd_same n2
    have hcl := cutV_length (ns.map V.int) (some k) (some (k + 1))
    rw [List.length_map] at hcl
    refine ⟨p1, p2, cutV (ns.map V.int) (some k) (some (k + 1)), [.int 0], rfl, rfl, (by rw [upd_ne n12, upd_same]), upd_same, ?_, fun p3 n3 => ?_⟩
    · show _ + 1 ≤ sizeLine
      exact Nat.le_trans (by omega : _ ≤ 64) (by decide)
    obtain ⟨c, hc⟩ := head_int _ (cut_int ns (some k) (some (k + 1)))
    refine ⟨p3, _, 0, .int c, rfl, rfl, SqL.of upd_same, hc, ?_⟩
    refine ⟨_, rfl, _, _, rfl, rfl, (by show (0 : Int) < 2147483647; decide), _, rfl, _, _, rfl, rfl, .inl ⟨by decide, by decide⟩, _, _, rfl, rfl, _, _, rfl, rfl, _, _, rfl, rfl, .inr ⟨by decide, by decide⟩, _, _, rfl, rfl, (by show (0 : Int) < 2147483629; decide), ?_⟩
    refine ⟨_, rfl, _, _, rfl, rfl, ⟨by decide, by decide, by decide⟩, _, _, rfl, rfl, .inr ⟨_, rfl, _, rfl, _, _, rfl, rfl, .inl ?_, _, rfl, (by show 2 ≤ sizeLine; decide), fun p4 n4 => ?_⟩⟩
    · cases decide ((10 : Int) ^ (18 : Int).toNat ≤ c) <;> exact ⟨by decide, by decide⟩
    · have s3 := ((Same.new (o := .lst (cutV (ns.map V.int) (some k) (some (k + 1)))) n1).trans (Same.new (o := .lst [.int 0]) n2)).trans (Same.new (o := .lst (cutV (ns.map V.int) (some k) (some (k + 1)) ++ [.int 0])) n3)
      refine q p4 _ _ _ (s3.free n4) upd_same (s3.trans (Same.new n4)) ?_ (Int.emod_nonneg _ (by decide)) ?_
      · cases hd : decide ((10 : Int) ^ (18 : Int).toNat ≤ c) with
        | true =>
          have := of_decide_eq_true hd
          have h10 : (0 : Int) ≤ 10 ^ (18 : Int).toNat := by decide
          show 0 ≤ 1 * c
          omega
        | false => show 0 ≤ 0 * c; omega
      · have := Int.emod_lt_of_pos ((c % 2147483647 + 7919 * k + 1) * 48271) (show (0 : Int) < 2147483629 by decide)
        omega
end
end My
namespace My
open PySem L2 U StX PM
section
variable {P : Program} {w : World} {K : PySem.W.Frag} {mg : Str → Option Value} {base : Heap}
def rowOk (n : Int) (p : Int × Int) : Bool := inR (.int p.1) 0 (n - 1) && inR (.int p.2) 0 (n - 1)
def okArr (n : Int) (l : List (Int × Int)) : Bool := l.all (rowOk n) && decide (l.map (·.2)).Nodup
def tgt (l : List (Int × Int)) : List (Key × V) := l.map fun p => (Sum.inl p.2, V.bl true)
theorem tgt_key {l : List (Int × Int)} {y : Int} : (Sum.inl y : Key) ∈ (tgt l).map (·.1) ↔ y ∈ l.map (·.2) := by
  unfold tgt
  rw [List.map_map]
  constructor
  · intro h
    obtain ⟨p, hp, e⟩ := List.mem_map.mp h
    exact List.mem_map.mpr ⟨p, hp, Sum.inl.inj e⟩
  · intro h
    obtain ⟨p, hp, e⟩ := List.mem_map.mp h
    exact List.mem_map.mpr ⟨p, hp, congrArg Sum.inl e⟩
theorem tgt_val {l : List (Int × Int)} {y : Int} : (valV (tgt l) (Sum.inl y : Key)).isSome = decide (y ∈ l.map (·.2)) := by
  by_cases h : y ∈ l.map (·.2)
  · have h' := tgt_key.mpr h
    rw [decide_eq_true h]
    cases e : valV (tgt l) (Sum.inl y : Key) with
    | some v => rfl
    | none =>
      obtain ⟨p, hp, e2⟩ := List.mem_map.mp h'
      exfalso
      unfold valV at e
      rw [Option.map_eq_none_iff, List.find?_eq_none] at e
      exact e p hp (by simp [e2])
  · rw [decide_eq_false h, valV_none fun z => h (tgt_key.mp z)]
    rfl
theorem okArr_step {n : Int} {l : List (Int × Int)} {i : Nat} {p : Int × Int} (h : l[i]? = some p) : okArr n (l.take (i + 1)) = (okArr n (l.take i) && (rowOk n p && !decide (p.2 ∈ (l.take i).map (·.2)))) := by
  rw [take_more h]
  unfold okArr
  rw [List.all_append, List.map_append]
  have e : decide (((l.take i).map (·.2) ++ [p].map (·.2)).Nodup) = (decide ((l.take i).map (·.2)).Nodup && !decide (p.2 ∈ (l.take i).map (·.2))) := by
    rw [Bool.eq_iff_iff]
    simp only [decide_eq_true_eq, Bool.and_eq_true, Bool.not_eq_true', decide_eq_false_iff_not]
    rw [List.nodup_append]
    constructor
    · rintro ⟨h1, _, h2⟩
      exact ⟨h1, fun hm => h2 _ hm _ (by simp) rfl⟩
    · rintro ⟨h1, h2⟩
      refine ⟨h1, by simp, fun a ha b hb e => ?_⟩
      simp at hb
      subst hb
      exact h2 (e ▸ ha)
  rw [e]
  simp only [List.all_cons, List.all_nil, Bool.and_true]
  cases (l.take i).all (rowOk n) <;> cases rowOk n p <;> cases decide ((l.take i).map (·.2)).Nodup <;> simp
theorem okArr_cut {n : Int} {l : List (Int × Int)} {i : Nat} (h : okArr n (l.take i) = false) : okArr n l = false := by
  cases e : okArr n l with
  | false => rfl
  | true =>
    unfold okArr at e h
    rw [Bool.and_eq_true] at e
    have h1 : (l.take i).all (rowOk n) = true := by
      rw [List.all_eq_true] at e ⊢
      exact fun p hp => e.1 p (List.mem_of_mem_take hp)
    have h2 : ((l.take i).map (·.2)).Nodup := by
      have := of_decide_eq_true e.2
      rw [List.map_take]
      exact List.Sublist.nodup (List.take_sublist _ _) this
    rw [h1, decide_eq_true h2] at h
    cases h
def spArr : Sp := fun vs H Q _ => ∃ (n : Int) (d : Addr) (l : List (Int × Int)), vs = [.int n, .ref d] ∧ H d = some (.dK (kvI l)) ∧ l.length ≤ 1000 ∧ ∀ H', Same H H' → Q (.bl (okArr n l)) H'
end
end My
namespace My
open PySem L2 U StX PM
section
variable {P : Program} {w : World} {K : PySem.W.Frag} {mg : Str → Option Value} {base : Heap}
theorem ne_fld : ¬ (("own_size" : Str) = "own_arrows") := by decide +kernel
/-- a map's attributes -/
def flds (n : Int) (D : Addr) : List (Str × V) := putF "own_arrows" (.ref D) (putF "own_size" (.int n) [])
theorem flds_size (n : Int) (D : Addr) : (flds n D).lookup ("own_size" : Str) = some (.int n) := by
  unfold flds
  rw [lookup_putF, if_neg ne_fld, lookup_putF, if_pos rfl]
theorem flds_arrows (n : Int) (D : Addr) : (flds n D).lookup ("own_arrows" : Str) = some (.ref D) := by
  unfold flds
  rw [lookup_putF, if_pos rfl]
theorem flds_no (n : Int) (D : Addr) {m : Str} (h1 : ¬ m = "own_arrows") (h2 : ¬ m = "own_size") : (flds n D).lookup m = none := by
  unfold flds
  rw [lookup_putF, if_neg h1, lookup_putF, if_neg h2]
  all_goals rfl
/-- a Map of n elements stands at m: the map f -/
structure IsMap (C : Addr) (H : Hp) (m : Addr) (n : Int) (f : PF) : Prop where
  ob : ∃ dx D, H m = some (.ins C dx (flds n D)) ∧ H D = some (.dK (kvI (tab n f)))
  wf : WF n f
  lo : 1 ≤ n
  hi : n ≤ 300
theorem IsMap.same {C : Addr} {H H' : Hp} {m : Addr} {n : Int} {f : PF} (a : IsMap C H m n f) (s : Same H H') : IsMap C H' m n f := by
  obtain ⟨⟨dx, D, h1, h2⟩, wf, lo, hi⟩ := a
  exact ⟨⟨dx, D, s _ _ h1, s _ _ h2⟩, wf, lo, hi⟩
theorem okArr_of {n : Int} {l : List (Int × Int)} {f : PF} (d : DI l f) (w : WF n f) : okArr n l = true := by
  unfold okArr
  rw [Bool.and_eq_true]
  refine ⟨List.all_eq_true.mpr fun p hp => ?_, decide_eq_true (d.vals w)⟩
  obtain ⟨x, y⟩ := p
  have h := w.dom x y (d.mem.mp hp)
  simp only [rowOk, inR, Bool.and_eq_true, decide_eq_true_eq]
  omega
theorem madeR_tab {l : List (Int × Int)} {f : PF} (d : DI l f) (n : Nat) : madeR (fun k => (lk l k).isSome) (fun x => x) (fun k => ((lk l k).map V.int).getD .non) n = kvI (tabN f n) := by
  induction n with
  | zero => rfl
  | succ n ih =>
    rw [madeR_succ, ih]
    have e : tabN f (n + 1) = tabN f n ++ ((f (n : Int)).map fun y => ((n : Int), y)).toList := by
      unfold tabN
      rw [List.range_succ, List.filterMap_append]
      cases h : f (n : Int) <;> simp [h]
    rw [e, d.at_]
    cases h : f (n : Int) with
    | none => simp
    | some y => simp [kvI]
def spInit (C : Addr) : Sp := fun vs H Q _ => ∃ (p dx d : Addr) (n : Int) (l : List (Int × Int)) (f : PF), vs = [.ref p, .int n, .ref d] ∧ H p = some (.ins C dx []) ∧ H d = some (.dK (kvI l)) ∧ DI l f ∧ WF n f ∧ 1 ≤ n ∧ n ≤ 300 ∧ l.length ≤ 1000 ∧
  ∀ (H' : Hp) (D : Addr), Off p H H' → H D = none → H' p = some (.ins C dx (flds n D)) → H' D = some (.dK (kvI (tab n f))) → Q .non H'
end
end My
namespace My
open PySem L2 U StX PM
/-! ### what a comprehension over pairs of ints makes -/
def madeI (c : Int → Int → Bool) (kf vi : Int → Int → Int) (l : List (Int × Int)) : List (Int × Int) := (l.filter fun p => c p.1 p.2).map fun p => (kf p.1 p.2, vi p.1 p.2)
theorem madeD_I (c : Int → Int → Bool) (kf vi : Int → Int → Int) (l : List (Int × Int)) : madeD c kf (fun x y => .int (vi x y)) l = kvI (madeI c kf vi l) := by
  unfold madeD madeI kvI
  rw [List.map_map]
  rfl
theorem kvI_keys (l : List (Int × Int)) : (kvI l).map (·.1) = (l.map (·.1)).map Sum.inl := by
  unfold kvI
  rw [List.map_map, List.map_map]
  rfl
theorem nd_inl {l : List Int} (h : l.Nodup) : (l.map (Sum.inl : Int → Key)).Nodup := by
  induction l with
  | nil => exact List.nodup_nil
  | cons a r ih =>
    rw [List.nodup_cons] at h
    rw [List.map_cons, List.nodup_cons]
    refine ⟨fun hm => ?_, ih h.2⟩
    obtain ⟨b, hb, e⟩ := List.mem_map.mp hm
    exact h.1 (Sum.inl.inj e ▸ hb)
theorem mem_madeI {c : Int → Int → Bool} {kf vi : Int → Int → Int} {l : List (Int × Int)} {a b : Int} : (a, b) ∈ madeI c kf vi l ↔ ∃ x y, (x, y) ∈ l ∧ c x y = true ∧ kf x y = a ∧ vi x y = b := by
  unfold madeI
  rw [List.mem_map]
  constructor
  · rintro ⟨⟨x, y⟩, h, e⟩
    have h1 := List.mem_filter.mp h
    cases e
    exact ⟨x, y, h1.1, h1.2, rfl, rfl⟩
  · rintro ⟨x, y, h1, h2, rfl, rfl⟩
    exact ⟨(x, y), List.mem_filter.mpr ⟨h1, h2⟩, rfl⟩
theorem madeI_len (c : Int → Int → Bool) (kf vi : Int → Int → Int) (l : List (Int × Int)) : (madeI c kf vi l).length ≤ l.length := by
  unfold madeI
  rw [List.length_map]
  exact List.length_filter_le _ _
/-- the sources kept -/
theorem nd_src {c : Int → Int → Bool} {vi : Int → Int → Int} {l : List (Int × Int)} (h : (l.map (·.1)).Nodup) : ((madeI c (fun x _ => x) vi l).map (·.1)).Nodup := by
  unfold madeI
  rw [List.map_map]
  exact List.Sublist.nodup ((List.filter_sublist (p := fun p : Int × Int => c p.1 p.2)).map (·.1)) h
/-- the targets for sources -/
theorem nd_tgt {c : Int → Int → Bool} {vi : Int → Int → Int} {l : List (Int × Int)} (h : (l.map (·.2)).Nodup) : ((madeI c (fun _ y => y) vi l).map (·.1)).Nodup := by
  unfold madeI
  rw [List.map_map]
  exact List.Sublist.nodup ((List.filter_sublist (p := fun p : Int × Int => c p.1 p.2)).map (·.2)) h
section
variable {P : Program} {w : World} {K : PySem.W.Frag} {mg : Str → Option Value} {base : Heap}
theorem mk_map {C : Addr} {H : Hp} {d : Addr} {n : Int} {l : List (Int × Int)} {f : PF} {Q : VK} {E : XK} (hd : H d = some (.dK (kvI l))) (di : DI l f) (wf : WF n f) (h1 : 1 ≤ n) (h3 : n ≤ 300) (hl : l.length ≤ 1000)
    (q : ∀ r H', H r = none → Same H H' → IsMap C H' r n f → Q (.ref r) H') (x dx : Addr) (hx : H x = none) (hdx : H dx = none) (ne : dx ≠ x) :
    spInit C [.ref x, .int n, .ref d] (upd (upd H dx (.own x)) x (.ins C dx [])) (fun v H2 => v = .non ∧ Q (.ref x) H2) E := by
  have s0 : Same H (upd (upd H dx (.own x)) x (.ins C dx [])) := fun b o e => by
    rw [upd_ne (ne_of_none e hx), upd_ne (ne_of_none e hdx)]
    exact e
  refine ⟨x, dx, d, n, l, f, rfl, upd_same, s0 _ _ hd, di, wf, h1, h3, hl, fun H' D o nD hp hD => ⟨rfl, ?_⟩⟩
  refine q x H' hx (fun b u e => o b u (ne_of_none e hx) (s0 b u e)) ⟨⟨dx, D, hp, hD⟩, wf, h1, h3⟩
/-! ### size, arrows, common_size -/
def spSize (C : Addr) : Sp := fun vs H Q _ => ∃ m n f, vs = [.ref m] ∧ IsMap C H m n f ∧ Q (.int n) H
def spArrows (C : Addr) : Sp := fun vs H Q _ => ∃ m n f, vs = [.ref m] ∧ IsMap C H m n f ∧ ∀ p, H p = none → Q (.ref p) (upd H p (.dK (kvI (tab n f))))
theorem at_map {C : Addr} {H : Hp} {m : Addr} {n : Int} {f : PF} (h : IsMap C H m n f) : ∃ dx fs, H m = some (.ins C dx fs) := by
  obtain ⟨⟨dx, D, h1, _⟩, _⟩ := h
  exact ⟨dx, _, h1⟩
def spCommon (C : Addr) : Sp := fun vs H Q _ => ∃ a b n f g, vs = [.ref a, .ref b] ∧ IsMap C H a n f ∧ IsMap C H b n g ∧ Q (.int n) H
/-! ### the operators -/
def spOp (C : Addr) (op : PF → PF → PF) : Sp := fun vs H Q _ => ∃ a b n f g, vs = [.ref a, .ref b] ∧ IsMap C H a n f ∧ IsMap C H b n g ∧ ∀ r H', H r = none → Same H H' → IsMap C H' r n (op f g) → Q (.ref r) H'
theorem mul_di {n : Int} {f g : PF} (wf : WF n f) (wg : WF n g) : DI (madeI (fun _ y => (g y).isSome) (fun x _ => x) (fun _ y => (g y).getD 0) (tab n f)) (mul f g) := by
  refine di_of (nd_src (keys_tab n f)) fun a b => ?_
  rw [mem_madeI]
  constructor
  · rintro ⟨x, y, h1, h2, rfl, rfl⟩
    have e := (mem_tab wf).mp h1
    unfold mul
    rw [e]
    cases hg : g y with
    | none => rw [hg] at h2; cases h2
    | some z => show g y = _; rw [hg]; rfl
  · intro h
    unfold mul at h
    cases e : f a with
    | none => rw [e] at h; cases h
    | some y =>
      rw [e] at h
      have h' : g y = some b := h
      exact ⟨a, y, (mem_tab wf).mpr e, by rw [h']; rfl, rfl, by rw [h']; rfl⟩
end
end My
namespace My
open PySem L2 U StX PM
section
variable {P : Program} {w : World} {K : PySem.W.Frag} {mg : Str → Option Value} {base : Heap}
/-! ### ~f -/
theorem inv_di {n : Int} {f : PF} (wf : WF n f) : DI (madeI (fun _ _ => true) (fun _ y => y) (fun x _ => x) (tab n f)) (inv n f) := by
  refine di_of (nd_tgt (vals_tab wf)) fun a b => ?_
  rw [mem_madeI, inv_iff wf]
  constructor
  · rintro ⟨x, y, h1, _, rfl, rfl⟩
    exact (mem_tab wf).mp h1
  · intro h
    exact ⟨b, a, (mem_tab wf).mpr h, rfl, rfl, rfl⟩
def spInv (C : Addr) : Sp := fun vs H Q _ => ∃ a n f, vs = [.ref a] ∧ IsMap C H a n f ∧ ∀ r H', H r = none → Same H H' → IsMap C H' r n (inv n f) → Q (.ref r) H'
/-! ### f & g, f - g -/
theorem and_di {n : Int} {f g : PF} (wf : WF n f) : DI (madeI (fun x y => decide (g x = some y)) (fun x _ => x) (fun _ y => y) (tab n f)) (andf f g) := by
  refine di_of (nd_src (keys_tab n f)) fun a b => ?_
  rw [mem_madeI]
  constructor
  · rintro ⟨x, y, h1, h2, rfl, rfl⟩
    have e := (mem_tab wf).mp h1
    have e2 := of_decide_eq_true h2
    unfold andf
    rw [e, e2, if_pos rfl]
  · intro h
    have h1 := le_and1 f g a b h
    have h2 := le_and2 f g a b h
    exact ⟨a, b, (mem_tab wf).mpr h1, decide_eq_true h2, rfl, rfl⟩
theorem sub_di {n : Int} {f g : PF} (wf : WF n f) : DI (madeI (fun x y => !decide (g x = some y)) (fun x _ => x) (fun _ y => y) (tab n f)) (subf f g) := by
  refine di_of (nd_src (keys_tab n f)) fun a b => ?_
  rw [mem_madeI]
  constructor
  · rintro ⟨x, y, h1, h2, rfl, rfl⟩
    have e := (mem_tab wf).mp h1
    have e2 : ¬ g x = some y := by simpa using h2
    unfold subf
    rw [e, if_neg fun z => e2 z.symm]
  · intro h
    have h1 := le_sub f g a b h
    refine ⟨a, b, (mem_tab wf).mpr h1, ?_, rfl, rfl⟩
    unfold subf at h
    by_cases e : f a = g a
    · rw [if_pos e] at h; cases h
    · have : ¬ g a = some b := fun z => e (h1.trans z.symm)
      simp [this]
theorem isD_of {H : Hp} {a : Addr} {kvs : List (Key × V)} (h : H a = some (.dK kvs)) : IsD H a := by
  first | exact .inl ⟨_, .inl h⟩ | exact ⟨_, .inl h⟩ | exact .inl ⟨_, h⟩ | exact .inr (.inl ⟨_, h⟩)
theorem getD_int (o : Option Int) : (o.map V.int).getD .non = (match o with | some y => V.int y | none => V.non) := by cases o <;> rfl
theorem scal_get (o : Option Int) (y : Int) : scal ((o.map V.int).getD .non) (.int y) = true := by cases o <;> rfl
theorem eq_get (o : Option Int) (y : Int) : decide ((o.map V.int).getD .non = V.int y) = decide (o = some y) := by
  cases o with
  | none => rfl
  | some z =>
    by_cases h : z = y
    · subst h; simp
    · have h1 : ¬ V.int z = V.int y := fun e => h (V.int.inj e)
      simp [h]
end
end My
namespace My
open PySem L2 U StX PM
section
variable {P : Program} {w : World} {K : PySem.W.Frag} {mg : Str → Option Value} {base : Heap}

end
end My
namespace My
open PySem L2 U StX PM
section
variable {P : Program} {w : World} {K : PySem.W.Frag} {mg : Str → Option Value} {base : Heap}

/-! ### is_part, <=, <, >= -/
def leL (l r : List (Int × Int)) : Bool := l.all fun p => decide (lk r p.1 = some p.2)
def spPart : Sp := fun vs H Q _ => ∃ d e l r, vs = [.ref d, .ref e] ∧ H d = some (.dK (kvI l)) ∧ H e = some (.dK (kvI r)) ∧ d ≠ e ∧ l.length ≤ 1000 ∧ ∀ H', Same H H' → Q (.bl (leL l r)) H'
theorem all_made (l : List (Int × Int)) (p : Int → Int → Bool) : madeL (fun _ _ => true) (fun x y => .bl (p x y)) l = (l.map fun q => p q.1 q.2).map V.bl := by
  unfold madeL
  rw [List.map_map]
  congr 1
  induction l with
  | nil => rfl
  | cons a r ih => rw [List.filter_cons, if_pos rfl, ih]
def spCmp (C : Addr) (p : List (Int × Int) → List (Int × Int) → Bool) : Sp := fun vs H Q _ => ∃ a b n f g, vs = [.ref a, .ref b] ∧ IsMap C H a n f ∧ IsMap C H b n g ∧ ∀ H', Same H H' → Q (.bl (p (tab n f) (tab n g))) H'
/-! ### == -/
theorem nd_of_map {α β : Type} (h : α → β) : ∀ {l : List α}, (l.map h).Nodup → l.Nodup
  | [], _ => List.nodup_nil
  | a :: r, nd => by
    rw [List.map_cons, List.nodup_cons] at nd
    exact List.nodup_cons.mpr ⟨fun hm => nd.1 (List.mem_map.mpr ⟨a, hm, rfl⟩), nd_of_map h nd.2⟩
def eqB (n : Int) (f : PF) (n' : Int) (g : PF) : Bool := decide (n = n') && dEq (kvI (tab n f)) (kvI (tab n' g))
theorem eqB_self {n : Int} {f : PF} (w : WF n f) : eqB n f n f = true := by
  unfold eqB dEq
  rw [decide_eq_true rfl]
  simp only [Bool.true_and, beq_self_eq_true, List.all_eq_true, decide_eq_true_eq]
  intro p hp
  unfold kvI at hp
  obtain ⟨⟨x, y⟩, hq, rfl⟩ := List.mem_map.mp hp
  show valV (kvI (tab n f)) (Sum.inl x) = some (V.int y)
  rw [valV_kvI, lk_tab w, (mem_tab w).mp hq]
  rfl
theorem eqB_of {n : Int} {f g : PF} (wf : WF n f) (wg : WF n g) (h : eqB n f n g = true) : f = g := by
  unfold eqB dEq at h
  rw [Bool.and_eq_true, Bool.and_eq_true] at h
  obtain ⟨_, h1, h2⟩ := h
  have h1' : (tab n f).length = (tab n g).length := by simpa [kvI_length] using h1
  have key : ∀ x y, f x = some y → g x = some y := by
    intro x y e
    have hm : ((Sum.inl x : Key), V.int y) ∈ kvI (tab n f) := List.mem_map.mpr ⟨(x, y), (mem_tab wf).mpr e, rfl⟩
    have := List.all_eq_true.mp h2 _ hm
    have := of_decide_eq_true this
    rw [valV_kvI, lk_tab wg] at this
    cases hg : g x with
    | none => rw [hg] at this; cases this
    | some z => rw [hg] at this; cases this; rfl
  have sub : ∀ p ∈ tab n f, p ∈ tab n g := fun ⟨x, y⟩ hp => (mem_tab wg).mpr (key x y ((mem_tab wf).mp hp))
  have ndf : (tab n f).Nodup := by
    have := keys_tab n f
    exact nd_of_map _ this
  have perm : (tab n g) ⊆ (tab n f) := by
    intro p hp
    exact Classical.byContradiction fun hn => by
      have hlt : (tab n f).length < (tab n g).length := by
        have sp : (p :: tab n f).Nodup := List.nodup_cons.mpr ⟨hn, ndf⟩
        have : (p :: tab n f).length ≤ (tab n g).length := (List.Nodup.length_le_of_subset sp (by
          intro z hz
          rcases List.mem_cons.mp hz with e | e
          · rw [e]; exact hp
          · exact sub z e))
        exact this
      omega
  funext x
  cases e : f x with
  | some y => rw [key x y e]
  | none =>
    cases e2 : g x with
    | none => rfl
    | some y =>
      have := (mem_tab wf).mp (perm ((mem_tab wg).mpr e2))
      rw [e] at this
      cases this
def spEqM (C : Addr) : Sp := fun vs H Q _ => ∃ a b n f n' g, vs = [.ref a, .ref b] ∧ IsMap C H a n f ∧ IsMap C H b n' g ∧ Q (.bl (eqB n f n' g)) H
end
end My
namespace My
open PySem L2 U StX PM
section
variable {P : Program} {w : World} {K : PySem.W.Frag} {mg : Str → Option Value} {base : Heap}
def spChk : Sp := fun vs H Q _ => ∃ n : Int, vs = [.int n] ∧ 1 ≤ n ∧ n ≤ 300 ∧ Q .non H
theorem di_id (N : Nat) : DI ((List.range N).map fun (i : Nat) => ((i : Int), (i : Int))) (idn (N : Int)) := by
  refine di_of ?_ fun a b => ?_
  · rw [List.map_map]
    have : ∀ n : Nat, ((List.range n).map ((fun p : Int × Int => p.1) ∘ fun (i : Nat) => ((i : Int), (i : Int)))).Nodup := by
      intro n
      induction n with
      | zero => exact List.nodup_nil
      | succ n ih =>
        rw [List.range_succ, List.map_append, List.nodup_append]
        refine ⟨ih, by simp, fun a ha b hb e => ?_⟩
        obtain ⟨i, hi, rfl⟩ := List.mem_map.mp ha
        rw [List.mem_range] at hi
        simp at hb
        have e' : (i : Int) = b := e
        omega
    exact this N
  · rw [List.mem_map]
    unfold idn
    constructor
    · rintro ⟨i, hi, e⟩
      rw [List.mem_range] at hi
      cases e
      rw [if_pos ⟨by omega, by omega⟩]
    · intro h
      split at h
      · rename_i hc
        cases h
        exact ⟨a.toNat, List.mem_range.mpr (by omega), by rw [Int.toNat_of_nonneg hc.1]⟩
      · cases h
theorem madeR_id (N : Nat) : madeR (fun _ => true) (fun x => x) (fun k => .int k) N = kvI ((List.range N).map fun (i : Nat) => ((i : Int), (i : Int))) := by
  unfold madeR kvI
  rw [List.map_map]
  congr 1
  exact List.filter_eq_self.mpr fun _ _ => rfl
def spNew (C : Addr) (op : Int → PF) : Sp := fun vs H Q _ => ∃ n : Int, vs = [.ref C, .int n] ∧ 1 ≤ n ∧ n ≤ 300 ∧ ∀ r H', H r = none → Same H H' → IsMap C H' r n (op n) → Q (.ref r) H'
theorem di_nil : DI [] emp := ⟨List.nodup_nil, fun _ => rfl⟩
/-! ### first_clash where there is none, | -/
def NoClash (l r : List (Int × Int)) : Prop := ∀ p ∈ l, ∀ q ∈ r, (decide (p.1 = q.1)) = (decide (p.2 = q.2))
def spClash0 : Sp := fun vs H Q _ => ∃ d e l r, vs = [.ref d, .ref e] ∧ H d = some (.dK (kvI l)) ∧ H e = some (.dK (kvI r)) ∧ d ≠ e ∧ NoClash l r ∧ ∀ H', Same H H' → Q .non H'
theorem merge_lk : ∀ (r l : List (Int × Int)), (r.map (·.1)).Nodup → ∃ l', mergeK (kvI l) (kvI r) = kvI l' ∧ l'.length ≤ l.length + r.length ∧ ((l.map (·.1)).Nodup → (l'.map (·.1)).Nodup) ∧ ∀ z, lk l' z = (lk r z).or (lk l z)
  | [], l, _ => ⟨l, rfl, by simp, fun h => h, fun z => rfl⟩
  | (x, y) :: r, l, nd => by
    rw [List.map_cons, List.nodup_cons] at nd
    obtain ⟨l1, e1, n1, d1, k1⟩ := putK_lk (l := l) (x := x) (y := y)
    obtain ⟨l2, e2, n2, d2, k2⟩ := merge_lk r l1 nd.2
    refine ⟨l2, ?_, by simp; omega, fun h => d2 (d1 h), fun z => ?_⟩
    · show mergeK (putK (kvI l) (Sum.inl x) (V.int y)) (kvI r) = _
      rw [e1, e2]
    · rw [k2, k1, lk_cons]
      by_cases h : z = x
      · subst h
        rw [if_pos rfl, if_pos rfl, lk_none nd.1]
        rfl
      · have h' : ¬ x = z := fun q => h q.symm
        rw [if_neg h, if_neg h']
end
end My
namespace My
open PySem L2 U StX PM
section
variable {P : Program} {w : World} {K : PySem.W.Frag} {mg : Str → Option Value} {base : Heap}
theorem dgetI {H : Hp} {d : Addr} {l : List (Int × Int)} {f : PF} (h : H d = some (.dK (kvI l))) (di : DI l f) (x : Int) : DGet H d (.int x) ((f x).map V.int) := by
  have := DGet.k (k := Sum.inl x) h
  rw [valV_kvI, di.2] at this
  exact this
theorem lastI (pre : List Int) (z : Int) : atI ((pre ++ [z]).map V.int) (-1) = some (V.int z) := by
  rw [List.map_append]
  exact atI_last _ _
def spRow : Sp := fun vs H Q _ => ∃ d l n f e, vs = [.ref d, .int e] ∧ H d = some (.dK (kvI l)) ∧ DI l f ∧ WF n f ∧ n ≤ 300 ∧ 0 ≤ e ∧ e < n ∧
  ∀ r H' pre z, H r = none → Same H H' → H' r = some (.lst ((pre ++ [z]).map V.int)) → Row f e (pre ++ [z]) → (f z = none ∨ f z = some e) → Q (.ref r) H'
end
end My
namespace My
open PySem L2 U StX PM
/-! ### comprehensions over values and keys -/
theorem tgt_len (l : List (Int × Int)) (i : Nat) : (tgt (l.take i)).length ≤ l.length := by
  unfold tgt; rw [List.length_map, List.length_take]; omega
theorem dc_vals {d : Addr} {l : List (Int × Int)} {te : TE} {i : Nat} {tt : TT} {tk tv : TE} {vs : List Nat} {σ : L2.St} {H : Hp} {Q : VK}
    (hd : H d = some (.dK (kvI l))) (hte : ∀ H' (R : VK), R (.ref d) H' → Off d H H' → te σ H' R)
    (hw : ∀ a, wipe ((wipe σ vs).set i a) vs = wipe σ vs)
    (ht : ∀ (y : Int) (H1 : Hp) (R : Bool → Hp → Prop), R true H1 → tt ((wipe σ vs).set i (some (.int y))) H1 R) (hk : ∀ (y : Int) (H1 : Hp) (R : VK), R (.int y) H1 → tk ((wipe σ vs).set i (some (.int y))) H1 R) (hv : ∀ (y : Int) (H1 : Hp) (R : VK), R (.bl true) H1 → tv ((wipe σ vs).set i (some (.int y))) H1 R)
    (nd : (l.map (·.2)).Nodup) (hz : l.length < sizeLine)
    (hq : ∀ D H', H D = none → H' D = some (.dK (tgt l)) → L2.Same H H' → Q (.ref D) H') :
    tLockE (tDc (iVals te) (gName i) tt tk tv vs) σ H Q := by
  refine ⟨d, _, hd, trivial, fun od => ?_⟩
  refine hte _ _ ⟨d, od, kvI l, rfl, upd_same, fun D hD => ?_⟩ Off.lock
  have hDd : D ≠ d := fun e => by rw [e, upd_same] at hD; cases hD
  have hD0 : H D = none := by rw [upd_ne hDd] at hD; exact hD
  refine dc_it walk_values (fun k H' => H' d = some (.frz od (.dK (kvI l))) ∧ Off d H H' ∧ H' D = some (.dK (tgt (l.take k)))) ⟨?_, Off.lock.mut hD0, upd_same⟩ (fun k H' _ p => p.1) ?_ ?_
  · rw [upd_ne hDd.symm]; exact upd_same
  · rintro k v H' H'' hk1 ⟨p1, p2, p3⟩ ⟨rfl, kk, e1⟩
    obtain ⟨x, y, exy, rfl, rfl⟩ := kvI_get e1
    refine ⟨hw _, ?_⟩
    refine ht y _ _ ?_
    refine iteT ?_
    refine hk _ _ _ (hv _ _ _ ⟨_, Sum.inl y, rfl, p3, Nat.lt_of_le_of_lt (tgt_len ..) hz, ?_⟩)
    refine ⟨?_, p2.mut hD0, ?_⟩
    · rw [upd_ne hDd.symm]; exact p1
    · have nin : y ∉ (l.take k).map (·.2) := by
        intro hm
        have e2 : l.map (·.2) = (l.take k).map (·.2) ++ (l.drop k).map (·.2) := by rw [← List.map_append, List.take_append_drop]
        rw [e2, List.nodup_append] at nd
        refine nd.2.2 _ hm y (List.mem_map.mpr ⟨(x, y), ?_, rfl⟩) rfl
        refine List.mem_iff_getElem?.mpr ⟨0, ?_⟩
        rw [List.getElem?_drop]
        exact exy
      rw [upd_same, putK_new _ (valV_none fun z => nin (tgt_key.mp z)), take_more exy]
      unfold tgt
      rw [List.map_append]
      rfl
  · rintro H' ⟨p1, p2, p3⟩
    rw [kvI_length, List.take_length] at p3
    refine ⟨p1, hq D _ hD0 ?_ (p2.back hd)⟩
    rw [upd_ne hDd]
    exact p3
theorem lc_keys {d : Addr} {l : List (Int × Int)} {te : TE} {i : Nat} {tt : TT} {tv : TE} {vs : List Nat} {σ : L2.St} {H : Hp} {Q : VK} (c : Int → Bool) (vf : Int → V)
    (hd : H d = some (.dK (kvI l))) (hte : ∀ H' (R : VK), R (.ref d) H' → Off d H H' → te σ H' R)
    (hw : ∀ a, wipe ((wipe σ vs).set i a) vs = wipe σ vs)
    (hb : ∀ (x : Int) (H1 : Hp), Off d H H1 → (∀ R : Bool → Hp → Prop, R (c x) H1 → tt ((wipe σ vs).set i (some (.int x))) H1 R) ∧ (∀ R : VK, R (vf x) H1 → tv ((wipe σ vs).set i (some (.int x))) H1 R))
    (hz : l.length < sizeLine)
    (hq : ∀ D H', H D = none → H' D = some (.lst (madeL (fun x _ => c x) (fun x _ => vf x) l)) → L2.Same H H' → Q (.ref D) H') :
    tLockE (tLc (iKeys te) (gName i) tt tv vs) σ H Q := by
  refine ⟨d, _, hd, trivial, fun od => ?_⟩
  refine hte _ _ ⟨d, od, rfl, .inl ⟨kvI l, upd_same, fun D hD => ?_⟩⟩ Off.lock
  have hDd : D ≠ d := fun e => by rw [e, upd_same] at hD; cases hD
  have hD0 : H D = none := by rw [upd_ne hDd] at hD; exact hD
  refine lc_it walk_keys (fun k H' => H' d = some (.frz od (.dK (kvI l))) ∧ Off d H H' ∧ H' D = some (.lst (madeL (fun x _ => c x) (fun x _ => vf x) (l.take k)))) ⟨?_, Off.lock.mut hD0, upd_same⟩ (fun k H' _ p => p.1) ?_ ?_
  · rw [upd_ne hDd.symm]; exact upd_same
  · rintro k v H' H'' hk1 ⟨p1, p2, p3⟩ ⟨rfl, kk, vv, e1, rfl⟩
    obtain ⟨x, y, exy, rfl, rfl⟩ := kvI_get e1
    refine ⟨hw _, ?_⟩
    obtain ⟨b1, b2⟩ := hb x _ p2
    refine b1 _ ?_
    have st := madeL_step (c := fun x _ => c x) (vf := fun x _ => vf x) exy
    cases hc : c x with
    | true =>
      rw [hc, if_pos rfl] at st
      refine iteT (b2 _ ⟨_, p3, Nat.lt_of_le_of_lt (madeL_len ..) hz, ?_⟩)
      refine ⟨?_, p2.mut hD0, ?_⟩
      · rw [upd_ne hDd.symm]; exact p1
      · rw [upd_same, st]
    | false =>
      rw [hc, if_neg Bool.false_ne_true, List.append_nil] at st
      refine iteF ⟨p1, p2, ?_⟩
      rw [st]
      exact p3
  · rintro H' ⟨p1, p2, p3⟩
    rw [kvI_length, List.take_length] at p3
    refine ⟨p1, hq D _ hD0 ?_ (p2.back hd)⟩
    rw [upd_ne hDd]
    exact p3
/-! ### seen and found -/
def kvB (sl : List Int) : List (Key × V) := sl.map fun x => (Sum.inl x, V.bl true)
theorem kvB_key {sl : List Int} {x : Int} : (Sum.inl x : Key) ∈ (kvB sl).map (·.1) ↔ x ∈ sl := by
  unfold kvB
  rw [List.map_map]
  constructor
  · intro h
    obtain ⟨p, hp, e⟩ := List.mem_map.mp h
    cases Sum.inl.inj e
    exact hp
  · intro h
    exact List.mem_map.mpr ⟨x, h, rfl⟩
theorem kvB_val (sl : List Int) (x : Int) : (valV (kvB sl) (Sum.inl x : Key)).isSome = decide (x ∈ sl) := by
  by_cases h : x ∈ sl
  · rw [decide_eq_true h, ← valV_any, List.any_eq_true]
    exact ⟨(Sum.inl x, V.bl true), List.mem_map.mpr ⟨x, h, rfl⟩, by simp⟩
  · rw [decide_eq_false h, valV_none fun z => h (kvB_key.mp z)]
    rfl
theorem kvB_put (sl : List Int) (x : Int) : ∃ sl', putK (kvB sl) (Sum.inl x : Key) (V.bl true) = kvB sl' ∧ (∀ z, z ∈ sl' ↔ z ∈ sl ∨ z = x) ∧ (sl.Nodup → sl'.Nodup) := by
  by_cases h : x ∈ sl
  · refine ⟨sl, ?_, fun z => ⟨.inl, fun hz => ?_⟩, id⟩
    · unfold putK
      have e : ((kvB sl).any fun kv => decide (kv.1 = (Sum.inl x : Key))) = true := by
        rw [valV_any, kvB_val, decide_eq_true h]
      rw [if_pos e]
      unfold kvB
      rw [List.map_map]
      refine List.map_congr_left fun a _ => ?_
      show (if (Sum.inl a : Key) = Sum.inl x then ((Sum.inl a : Key), V.bl true) else (Sum.inl a, V.bl true)) = _
      split <;> rfl
    · rcases hz with hz | rfl
      · exact hz
      · exact h
  · refine ⟨sl ++ [x], ?_, fun z => by simp, fun nd => ?_⟩
    · rw [putK_new _ (valV_none fun z => h (kvB_key.mp z))]
      unfold kvB
      rw [List.map_append]
      rfl
    · rw [List.nodup_append]
      refine ⟨nd, by simp, fun a ha b hb e => ?_⟩
      simp at hb
      subst hb
      exact h (e ▸ ha)
structure Fnd (n : Int) (f : PF) (k : Nat) (fl : List (Int × Int)) (sl : List Int) : Prop where
  nd : (fl.map (·.1)).Nodup
  at_ : ∀ x, lk fl x = if x ∈ sl then iter f k x else none
  sn : sl.Nodup
  dm : ∀ x ∈ sl, 0 ≤ x ∧ x < n
theorem Fnd.len {n : Int} {f : PF} {k : Nat} {fl : List (Int × Int)} {sl : List Int} (h : Fnd n f k fl sl) : fl.length ≤ n.toNat := by
  have := len_range (n := n) h.nd (fun x hx => by
    obtain ⟨⟨a, b⟩, hp, rfl⟩ := List.mem_map.mp hx
    have e := lk_some h.nd hp
    rw [h.at_] at e
    by_cases hm : a ∈ sl
    · exact h.dm _ hm
    · rw [if_neg hm] at e; cases e)
  rw [List.length_map] at this
  exact this
theorem Fnd.slen {n : Int} {f : PF} {k : Nat} {fl : List (Int × Int)} {sl : List Int} (h : Fnd n f k fl sl) : sl.length ≤ n.toNat := len_range h.sn h.dm
theorem Fnd.put {n : Int} {f : PF} {k : Nat} {fl fl' : List (Int × Int)} {sl sl' : List Int} {x y : Int} (h : Fnd n f k fl sl) (h1 : ∀ z, z ∈ sl' ↔ z ∈ sl ∨ z = x) (h2 : sl.Nodup → sl'.Nodup) (hx : 0 ≤ x ∧ x < n)
    (e : iter f k x = some y) (n1 : (fl.map (·.1)).Nodup → (fl'.map (·.1)).Nodup) (a1 : ∀ z, lk fl' z = if z = x then some y else lk fl z) : Fnd n f k fl' sl' := by
  refine ⟨n1 h.nd, fun z => ?_, h2 h.sn, fun z hz => ?_⟩
  · rw [a1]
    by_cases hz : z = x
    · subst hz
      rw [if_pos rfl, if_pos ((h1 z).mpr (.inr rfl)), e]
    · rw [if_neg hz, h.at_]
      by_cases hs : z ∈ sl
      · rw [if_pos hs, if_pos ((h1 z).mpr (.inl hs))]
      · rw [if_neg hs, if_neg fun q => ((h1 z).mp q).elim hs hz]
  · rcases (h1 z).mp hz with q | rfl
    · exact h.dm z q
    · exact hx
theorem Fnd.skip {n : Int} {f : PF} {k : Nat} {fl : List (Int × Int)} {sl sl' : List Int} {x : Int} (h : Fnd n f k fl sl) (h1 : ∀ z, z ∈ sl' ↔ z ∈ sl ∨ z = x) (h2 : sl.Nodup → sl'.Nodup) (hx : 0 ≤ x ∧ x < n)
    (e : iter f k x = none) : Fnd n f k fl sl' := by
  refine ⟨h.nd, fun z => ?_, h2 h.sn, fun z hz => ?_⟩
  · rw [h.at_]
    by_cases hs : z ∈ sl
    · rw [if_pos hs, if_pos ((h1 z).mpr (.inl hs))]
    · rw [if_neg hs]
      by_cases hz : z = x
      · subst hz
        rw [if_pos ((h1 z).mpr (.inr rfl)), e]
      · rw [if_neg fun q => ((h1 z).mp q).elim hs hz]
  · rcases (h1 z).mp hz with q | rfl
    · exact h.dm z q
    · exact hx
theorem Fnd.di {n : Int} {f : PF} {k : Nat} {fl : List (Int × Int)} {sl : List Int} (h : Fnd n f (k + 1) fl sl) (all : ∀ x y, f x = some y → x ∈ sl) : DI fl (iter f (k + 1)) := by
  refine ⟨h.nd, fun x => ?_⟩
  rw [h.at_]
  by_cases hs : x ∈ sl
  · rw [if_pos hs]
  · rw [if_neg hs, iter_head]
    cases e : f x with
    | none => rfl
    | some y => exact absurd (all x y e) hs
end My
namespace My
open PySem L2 U StX PM
section
variable {P : Program} {w : World} {K : PySem.W.Frag} {mg : Str → Option Value} {base : Heap}
def spMoved : Sp := fun vs H Q _ => ∃ d l n f, ∃ k : Nat, vs = [.ref d, .int ((k + 1 : Nat) : Int)] ∧ H d = some (.dK (kvI l)) ∧ DI l f ∧ WF n f ∧ n ≤ 300 ∧ l.length ≤ 300 ∧
  ∀ r H' l', H r = none → Same H H' → H' r = some (.dK (kvI l')) → DI l' (iter f (k + 1)) → l'.length ≤ 300 → Q (.ref r) H'
theorem get_map {xs : List Int} {i : Nat} {a : Int} (h : xs[i]? = some a) : (xs.map V.int)[i]? = some (V.int a) := by
  rw [List.getElem?_map, h]; rfl
theorem for_cat {K : PySem.W.Frag} {t u : TE} {g : TG} {tb : TS} {D : Ends} {σ : L2.St} {H : Hp} (h : tLockE t σ H (fun x H1 => u σ H1 fun y H2 => rCat x y H2 fun z H3 => ∃ a, z = .ref a ∧ (∃ xs, SqL K H3 a xs) ∧ tFor (fun _ H R => R (Itl K a) H) g tb D σ H3)) :
    tFor (iList K (tOp rCat (tLockE t) u)) g tb D σ H := h
theorem Same.put {H H' : Hp} {p : Addr} {o : HO} (s : Same H H') (h : H p = none) : Same H (upd H' p o) := fun b u e => by rw [upd_ne (ne_of_none e h)]; exact s b u e
theorem at_mod {row : List Int} {j k : Nat} {y : Int} (h : row[(j + k) % row.length]? = some y) : atI (row.map V.int) ((((j : Nat) : Int) + ((k : Nat) : Int)) % (((row.map V.int).length : Nat) : Int)) = some (V.int y) := by
  have e : (((j : Nat) : Int) + ((k : Nat) : Int)) % (((row.map V.int).length : Nat) : Int) = (((j + k) % row.length : Nat) : Int) := by
    rw [List.length_map]
    push_cast
    rfl
  rw [e]
  exact atI_nat (get_map h)
theorem at_add {row : List Int} {j k : Nat} {y : Int} (h : row[j + k]? = some y) : atI (row.map V.int) (((j : Nat) : Int) + ((k : Nat) : Int)) = some (V.int y) := by
  have e : (((j : Nat) : Int) + ((k : Nat) : Int)) = ((j + k : Nat) : Int) := by
    push_cast
    rfl
  rw [e]
  exact atI_nat (get_map h)
theorem srcs {l : List (Int × Int)} {f : PF} (di : DI l f) {c : Int → Bool} {v : V} (h : v ∈ madeL (fun x _ => c x) (fun x _ => V.int x) l ++ (kvI l).map (fun kv => kV kv.1)) : ∃ x y, v = .int x ∧ f x = some y := by
  rcases List.mem_append.mp h with h | h
  · unfold madeL at h
    obtain ⟨⟨x, y⟩, hp, rfl⟩ := List.mem_map.mp h
    exact ⟨x, y, rfl, di.mem.mp (List.mem_filter.mp hp).1⟩
  · unfold kvI at h
    rw [List.map_map] at h
    obtain ⟨⟨x, y⟩, hp, rfl⟩ := List.mem_map.mp h
    exact ⟨x, y, rfl, di.mem.mp hp⟩
theorem srcs_all {l : List (Int × Int)} {f : PF} (di : DI l f) {c : Int → Bool} {x y : Int} (h : f x = some y) : V.int x ∈ madeL (fun x _ => c x) (fun x _ => V.int x) l ++ (kvI l).map (fun kv => kV kv.1) := by
  refine List.mem_append.mpr (.inr ?_)
  unfold kvI
  rw [List.map_map]
  exact List.mem_map.mpr ⟨(x, y), di.mem.mpr h, rfl⟩
end
end My
namespace My
open PySem L2 U StX PM
/-! ### f.power(e) -/
def pw (n : Int) (f : PF) (e : Int) : PF := if e = 0 then idn n else if e < 0 then iter (inv n f) e.natAbs else iter f e.natAbs
section
variable {P : Program} {w : World} {K : PySem.W.Frag} {mg : Str → Option Value} {base : Heap}
def spPow (C : Addr) : Sp := fun vs H Q _ => ∃ a n f e, vs = [.ref a, .int e] ∧ IsMap C H a n f ∧ ∀ r H', H r = none → Same H H' → IsMap C H' r n (pw n f e) → Q (.ref r) H'
end
end My
namespace My
open PySem L2 U StX PM
/-! ### a drawn map -/
structure Drw (n : Int) (i : Nat) (l : List (Int × Int)) (ns : List Int) : Prop where
  kn : (l.map (·.1)).Nodup
  vn : (l.map (·.2)).Nodup
  nn : ns.Nodup
  lt : ∀ p ∈ l, 0 ≤ p.1 ∧ p.1 < i ∧ 0 ≤ p.2 ∧ p.2 < n
  nt : ∀ y ∈ ns, 0 ≤ y ∧ y < n ∧ y ∉ l.map (·.2)
  ln : l.length ≤ i
  le : l.length + ns.length = n.toNat
theorem Drw.more {n : Int} {i : Nat} {l : List (Int × Int)} {ns : List Int} (h : Drw n i l ns) : Drw n (i + 1) l ns := by
  refine ⟨h.kn, h.vn, h.nn, fun p hp => ?_, h.nt, Nat.le_succ_of_le h.ln, h.le⟩
  have := h.lt p hp
  omega
theorem not_erase {ns : List Int} {k : Nat} {y : Int} (nd : ns.Nodup) (h : ns[k]? = some y) : y ∉ ns.eraseIdx k := by
  obtain ⟨hk, e⟩ := List.getElem?_eq_some_iff.mp h
  have e1 : ns = ns.take k ++ y :: ns.drop (k + 1) := by
    rw [← e]
    simp
  rw [List.eraseIdx_eq_take_drop_succ]
  intro hm
  rw [e1, List.nodup_append, List.nodup_cons] at nd
  rcases List.mem_append.mp hm with h1 | h1
  · exact nd.2.2 y h1 y List.mem_cons_self rfl
  · exact nd.2.1.1 h1
theorem Drw.put {n : Int} {i : Nat} {l : List (Int × Int)} {ns : List Int} (h : Drw n i l ns) {k : Nat} {y : Int} (hy : ns[k]? = some y) : Drw n (i + 1) (l ++ [((i : Int), y)]) (ns.eraseIdx k) ∧ (i : Int) ∉ l.map (·.1) := by
  have hm := h.nt y (List.mem_of_getElem? hy)
  have hi : (i : Int) ∉ l.map (·.1) := by
    intro hm
    obtain ⟨p, hp, e⟩ := List.mem_map.mp hm
    have := h.lt p hp
    omega
  obtain ⟨hk, _⟩ := List.getElem?_eq_some_iff.mp hy
  refine ⟨⟨?_, ?_, ?_, ?_, ?_, ?_, ?_⟩, hi⟩
  · rw [List.map_append, List.nodup_append]
    refine ⟨h.kn, by simp, fun a ha b hb e => ?_⟩
    simp at hb
    subst hb
    exact hi (e ▸ ha)
  · rw [List.map_append, List.nodup_append]
    refine ⟨h.vn, by simp, fun a ha b hb e => ?_⟩
    simp at hb
    subst hb
    exact hm.2.2 (e ▸ ha)
  · exact List.Sublist.nodup (List.eraseIdx_sublist _ _) h.nn
  · intro p hp
    rcases List.mem_append.mp hp with hp | hp
    · have := h.lt p hp
      omega
    · simp at hp
      subst hp
      dsimp only
      omega
  · intro z hz
    have h1 := h.nt z (List.mem_of_mem_eraseIdx hz)
    refine ⟨h1.1, h1.2.1, fun hq => ?_⟩
    rw [List.map_append] at hq
    rcases List.mem_append.mp hq with hq | hq
    · exact h1.2.2 hq
    · simp at hq
      subst hq
      exact not_erase h.nn hy hz
  · have := h.ln
    simp
    omega
  · have := h.le
    rw [List.length_append, List.length_singleton, List.length_eraseIdx, if_pos hk]
    omega
theorem two_in {l : List (Int × Int)} (vn : (l.map (·.2)).Nodup) : ∀ {x x' y : Int}, (x, y) ∈ l → (x', y) ∈ l → x = x' := by
  induction l with
  | nil => intro _ _ _ h; cases h
  | cons p r ih =>
    intro x x' y h1 h2
    rw [List.map_cons, List.nodup_cons] at vn
    rcases List.mem_cons.mp h1 with e1 | e1 <;> rcases List.mem_cons.mp h2 with e2 | e2
    · subst e1; cases e2; rfl
    · subst e1; exact absurd (List.mem_map.mpr ⟨(x', y), e2, rfl⟩) vn.1
    · subst e2; exact absurd (List.mem_map.mpr ⟨(x, y), e1, rfl⟩) vn.1
    · exact ih vn.2 e1 e2
theorem Drw.wf {n : Int} {l : List (Int × Int)} {ns : List Int} (h0 : 0 ≤ n) (h : Drw n n.toNat l ns) : WF n (lk l) := by
  refine ⟨fun x y e => ?_, fun x x' y e e' => two_in h.vn (lk_mem e) (lk_mem e')⟩
  have := h.lt _ (lk_mem e)
  dsimp only at this
  omega
theorem rg0 (n : Int) : rgV 0 n = ((List.range n.toNat).map fun (i : Nat) => (i : Int)).map V.int := by
  unfold rgV
  rw [List.map_map, show (n - 0).toNat = n.toNat by omega]
  refine List.map_congr_left fun a _ => ?_
  show V.int (0 + (a : Int)) = V.int (a : Int)
  rw [Int.zero_add]
theorem drw0 (n : Int) : Drw n 0 [] ((List.range n.toNat).map fun (i : Nat) => (i : Int)) := by
  refine ⟨List.nodup_nil, List.nodup_nil, ?_, fun p h => (nomatch h), fun y hy => ?_, Nat.le_refl _, by simp⟩
  · have := (di_id n.toNat).nd
    rw [List.map_map] at this
    exact this
  · obtain ⟨i, hi, rfl⟩ := List.mem_map.mp hy
    rw [List.mem_range] at hi
    exact ⟨by omega, by omega, by simp⟩
section
variable {P : Program} {w : World} {K : PySem.W.Frag} {mg : Str → Option Value} {base : Heap}
def PoolAt (H : Hp) (p : Addr) : Prop := ∃ a b : Int, H p = some (.lst [.int a, .int b]) ∧ 0 ≤ a ∧ 0 ≤ b ∧ b < 2147483647
def spDrwn : Sp := fun vs H Q _ => ∃ (p : Addr) (n way : Int), vs = [.ref p, .int n, .int way] ∧ PoolAt H p ∧ 1 ≤ n ∧ n ≤ 300 ∧
  ∀ r H' l, H r = none → H' r = some (.dK (kvI l)) → DI l (lk l) → WF n (lk l) → l.length ≤ 1000 → PoolAt H' p → Off p H H' → Q (.ref r) H'
theorem Off.put {p q : Addr} {H H' : Hp} {o : HO} (a : Off p H H') (h : H q = none) : Off p H (upd H' q o) := a.mut h
theorem Off.at {p : Addr} {H H' : Hp} {o : HO} (a : Off p H H') : Off p H (upd H' p o) := fun b u hb e => by rw [upd_ne hb]; exact a b u hb e
end
end My
namespace My
open PySem L2 U StX PM
/-! ### expressions over maps: new objects alone -/
def EvM (C : Addr) (n : Int) (t : TE) (σ : L2.St) (H : Hp) (f : PF) : Prop := ∀ H', Same H H' → ∀ Q : VK, (∀ r H'', Same H' H'' → IsMap C H'' r n f → Q (.ref r) H'') → t σ H' Q
def EvV (t : TE) (σ : L2.St) (H : Hp) (v : V) : Prop := ∀ H', Same H H' → ∀ Q : VK, (∀ H'', Same H' H'' → Q v H'') → t σ H' Q
def EvT (t : TT) (σ : L2.St) (H : Hp) (b : Bool) : Prop := ∀ H', Same H H' → ∀ R : Bool → Hp → Prop, (∀ H'', Same H' H'' → R b H'') → t σ H' R
section
variable {C : Addr} {n : Int} {f g : PF} {ta tb : TE} {σ : L2.St} {H : Hp} {E : XK} {i : Nat} {a : Addr}
theorem em_var (h : σ[i]? = some (some (.ref a))) (m : IsMap C H a n f) : EvM C n (tVar i) σ H f := fun H' s Q q => ⟨_, h, q a H' (Same.refl _) (m.same s)⟩
theorem em_op {op : PF → PF → PF} (ha : EvM C n ta σ H f) (hb : EvM C n tb σ H g) : EvM C n (tOp (rBin C (spOp C op) E) ta tb) σ H (op f g) := by
  intro H' s Q q
  refine ha H' s _ fun r1 H1 s1 m1 => hb H1 (s.trans s1) _ fun r2 H2 s2 m2 => ?_
  obtain ⟨dx, fs, e1⟩ := at_map (m1.same s2)
  obtain ⟨dy, gs, e2⟩ := at_map m2
  exact ⟨r1, dx, fs, r2, dy, gs, rfl, rfl, e1, e2, r1, r2, n, f, g, rfl, m1.same s2, m2, fun r H3 nr s3 m3 => q r H3 ((s1.trans s2).trans s3) m3⟩
def spOr (C : Addr) : Sp := fun vs H Q E => ∃ a b n f g, vs = [.ref a, .ref b] ∧ IsMap C H a n f ∧ IsMap C H b n g ∧ ¬ PM.Clash f g ∧ ∀ r H', H r = none → Same H H' → IsMap C H' r n (orf f g) → Q (.ref r) H'
theorem em_or (ha : EvM C n ta σ H f) (hb : EvM C n tb σ H g) (nc : ¬ PM.Clash f g) : EvM C n (tOp (rBin C (spOr C) E) ta tb) σ H (orf f g) := by
  intro H' s Q q
  refine ha H' s _ fun r1 H1 s1 m1 => hb H1 (s.trans s1) _ fun r2 H2 s2 m2 => ?_
  obtain ⟨dx, fs, e1⟩ := at_map (m1.same s2)
  obtain ⟨dy, gs, e2⟩ := at_map m2
  exact ⟨r1, dx, fs, r2, dy, gs, rfl, rfl, e1, e2, r1, r2, n, f, g, rfl, m1.same s2, m2, nc, fun r H3 nr s3 m3 => q r H3 ((s1.trans s2).trans s3) m3⟩
theorem em_inv (ha : EvM C n ta σ H f) : EvM C n (tUn (rUnO C (spInv C) E) ta) σ H (inv n f) := by
  intro H' s Q q
  refine ha H' s _ fun r1 H1 s1 m1 => ?_
  obtain ⟨dx, fs, e1⟩ := at_map m1
  exact ⟨r1, dx, fs, rfl, e1, r1, n, f, rfl, m1, fun r H3 nr s3 m3 => q r H3 (s1.trans s3) m3⟩
theorem em_pow {te : TE} {e : Int} (ha : EvM C n ta σ H f) (he : EvV te σ H (.int e)) : EvM C n (tMethR C "power" (spPow C) E ta (tCons te tNil)) σ H (pw n f e) := by
  intro H' s Q q
  refine ha H' s _ fun r1 H1 s1 m1 => ?_
  obtain ⟨dx, D, e1, e2⟩ := id m1.ob
  refine ⟨r1, dx, _, rfl, e1, flds_no _ _ (by decide +kernel) (by decide +kernel), ?_⟩
  refine he H1 (s.trans s1) _ fun H2 s2 => ?_
  exact ⟨r1, n, f, e, rfl, m1.same s2, fun r H3 nr s3 m3 => q r H3 ((s1.trans s2).trans s3) m3⟩
theorem em_new {op : Int → PF} (ha : EvM C n ta σ H f) : EvM C n (ClX.tCMeth C (spNew C op) E (tC (.ref C)) (tCons (tPropR C (spSize C) ta) tNil)) σ H (op n) := by
  intro H' s Q q
  refine ⟨rfl, ?_⟩
  refine ha H' s _ fun r1 H1 s1 m1 => ?_
  obtain ⟨dx, fs, e1⟩ := at_map m1
  exact ⟨r1, dx, fs, rfl, e1, r1, n, f, rfl, m1, n, rfl, m1.lo, m1.hi, fun r H3 nr s3 m3 => q r H3 (s1.trans s3) m3⟩
theorem ev_ne (ha : EvM C n ta σ H f) (hb : EvM C n tb σ H g) : EvV (tOp (rNeO C (spEqM C) E) ta tb) σ H (.bl (!eqB n f n g)) := by
  intro H' s Q q
  refine ha H' s _ fun r1 H1 s1 m1 => hb H1 (s.trans s1) _ fun r2 H2 s2 m2 => ?_
  obtain ⟨dx, fs, e1⟩ := at_map (m1.same s2)
  obtain ⟨dy, gs, e2⟩ := at_map m2
  exact ⟨r1, dx, fs, r2, dy, gs, rfl, rfl, e1, e2, r1, r2, n, f, n, g, rfl, m1.same s2, m2, _, rfl, q _ (s1.trans s2)⟩
theorem ev_eq (ha : EvM C n ta σ H f) (hb : EvM C n tb σ H g) : EvV (tOp (rBin C (spEqM C) E) ta tb) σ H (.bl (eqB n f n g)) := by
  intro H' s Q q
  refine ha H' s _ fun r1 H1 s1 m1 => hb H1 (s.trans s1) _ fun r2 H2 s2 m2 => ?_
  obtain ⟨dx, fs, e1⟩ := at_map (m1.same s2)
  obtain ⟨dy, gs, e2⟩ := at_map m2
  exact ⟨r1, dx, fs, r2, dy, gs, rfl, rfl, e1, e2, r1, r2, n, f, n, g, rfl, m1.same s2, m2, q _ (s1.trans s2)⟩
theorem ev_cmp {p : List (Int × Int) → List (Int × Int) → Bool} (ha : EvM C n ta σ H f) (hb : EvM C n tb σ H g) : EvV (tOp (rBin C (spCmp C p) E) ta tb) σ H (.bl (p (tab n f) (tab n g))) := by
  intro H' s Q q
  refine ha H' s _ fun r1 H1 s1 m1 => hb H1 (s.trans s1) _ fun r2 H2 s2 m2 => ?_
  obtain ⟨dx, fs, e1⟩ := at_map (m1.same s2)
  obtain ⟨dy, gs, e2⟩ := at_map m2
  exact ⟨r1, dx, fs, r2, dy, gs, rfl, rfl, e1, e2, r1, r2, n, f, g, rfl, m1.same s2, m2, fun H3 s3 => q _ ((s1.trans s2).trans s3)⟩
theorem ev_var {v : V} (h : σ[i]? = some (some v)) : EvV (tVar i) σ H v := fun H' s Q q => ⟨_, h, q H' (Same.refl _)⟩
theorem ev_c {v : V} : EvV (tC v) σ H v := fun H' s Q q => q H' (Same.refl _)
theorem et_test {t : TE} {b : Bool} (h : EvV t σ H (.bl b)) : EvT (tTest t) σ H b := fun H' s R q => h H' s _ fun H2 s2 => ⟨b, rfl, q H2 s2⟩
theorem et_tB {t : TE} {b : Bool} (h : EvV t σ H (.bl b)) : EvT (tB t) σ H b := fun H' s R q => h H' s _ fun H2 s2 => ⟨b, rfl, q H2 s2⟩
theorem et_or {t u : TT} (h1 : EvT t σ H false) (h2 : EvT u σ H false) : EvT (tOr t u) σ H false := fun H' s R q => h1 H' s _ fun H2 s2 => iteF (h2 H2 (s.trans s2) _ fun H3 s3 => q H3 (s2.trans s3))
theorem et_and {t u : TT} (h1 : EvT t σ H true) (h2 : EvT u σ H true) : EvT (tAnd t u) σ H true := fun H' s R q => h1 H' s _ fun H2 s2 => iteT (h2 H2 (s.trans s2) _ fun H3 s3 => q H3 (s2.trans s3))
theorem et_not {t : TT} {b : Bool} (h1 : EvT t σ H b) : EvT (tNot t) σ H (!b) := fun H' s R q => h1 H' s _ fun H2 s2 => q H2 s2
theorem ev_and {t u : TE} (h1 : EvV t σ H (.bl true)) (h2 : EvV u σ H (.bl true)) : EvV (tAndV t u) σ H (.bl true) := fun H' s R q => h1 H' s _ fun H2 s2 => ⟨true, rfl, iteT (h2 H2 (s.trans s2) _ fun H3 s3 => q H3 (s2.trans s3))⟩
theorem ev_not {t : TE} {b : Bool} (h1 : EvV t σ H (.bl b)) : EvV (tNotV t) σ H (.bl (!b)) := fun H' s R q => h1 H' s _ fun H2 s2 => ⟨b, rfl, q H2 s2⟩
end
theorem leL_of {n : Int} {f g : PF} (wf : WF n f) (wg : WF n g) (h : le f g) : leL (tab n f) (tab n g) = true := by
  unfold leL
  rw [List.all_eq_true]
  rintro ⟨x, y⟩ hp
  rw [decide_eq_true_eq, lk_tab wg]
  exact h _ _ ((mem_tab wf).mp hp)
theorem leL_iff {n : Int} {f g : PF} (wf : WF n f) (wg : WF n g) : leL (tab n f) (tab n g) = true ↔ le f g := by
  refine ⟨fun h x y e => ?_, leL_of wf wg⟩
  unfold leL at h
  rw [List.all_eq_true] at h
  have := h (x, y) ((mem_tab wf).mpr e)
  rw [decide_eq_true_eq, lk_tab wg] at this
  exact this
theorem eqB_eq {n : Int} {f g : PF} (wf : WF n f) (h : f = g) : eqB n f n g = true := by
  subst h
  exact eqB_self wf
theorem dEq_di {l l' : List (Int × Int)} {f : PF} (d : DI l f) (d' : DI l' f) : dEq (kvI l) (kvI l') = true := by
  have n1 := nd_of_map _ d.nd
  have n2 := nd_of_map _ d'.nd
  have s1 : ∀ p ∈ l, p ∈ l' := by
    rintro ⟨x, y⟩ hp
    exact d'.mem.mpr (d.mem.mp hp)
  have s2 : ∀ p ∈ l', p ∈ l := by
    rintro ⟨x, y⟩ hp
    exact d.mem.mpr (d'.mem.mp hp)
  have l1 := List.Nodup.length_le_of_subset n1 s1
  have l2 := List.Nodup.length_le_of_subset n2 s2
  unfold dEq
  rw [kvI_length, kvI_length, Bool.and_eq_true]
  refine ⟨by rw [beq_iff_eq]; omega, List.all_eq_true.mpr fun p hp => ?_⟩
  unfold kvI at hp
  obtain ⟨⟨x, y⟩, hm, rfl⟩ := List.mem_map.mp hp
  rw [decide_eq_true_eq, valV_kvI, d'.at_, d.mem.mp hm]
  rfl
/-! ### dict([(x, x) for x in one.arrows]) -/
theorem ev_dom {C : Addr} {n : Int} {f : PF} {K : PySem.W.Frag} {te : TE} {σ : L2.St} {H : Hp} {i : Nat} {tt : TT} {tv : TE} {vs : List Nat} (he : EvM C n te σ H f) (hw : ∀ a, wipe ((wipe σ vs).set i a) vs = wipe σ vs)
    (ht : ∀ (y : Int) (H1 : Hp) (R : Bool → Hp → Prop), R true H1 → tt ((wipe σ vs).set i (some (.int y))) H1 R)
    (hv : ∀ (x : Int) (H1 : Hp) (R : VK), (∀ p, H1 p = none → R (.ref p) (upd H1 p (.tup [.int x, .int x]))) → tv ((wipe σ vs).set i (some (.int x))) H1 R) :
    ∀ H', Same H H' → ∀ Q : VK, (∀ p H'' l, Same H' H'' → H'' p = some (.dK (kvI l)) → (∀ x y, f x = some y → lk l x = some x) → (∀ x y, lk l x = some y → x = y ∧ ∃ z, f x = some z) → (l.map (·.1)).Nodup → Q (.ref p) H'') →
      tCB (fun xs H Q => ∃ (a : Addr) (ps : List Addr) (kvs : List (Key × V)), xs = [.ref a] ∧ SqL K H a (ps.map V.ref) ∧ Paired (fun p kv => SqT K H p [kV kv.1, kv.2]) ps kvs ∧ ∀ p, H p = none → Q (.ref p) (upd H p (.dK (mergeK [] kvs))))
        (tCons (tLc (iKeys (tFrz (tPropR C (spArrows C) te))) (gName i) tt tv vs) tNil) σ H' Q := by
  intro H' s Q q
  refine he H' s _ fun r1 H1 s1 m1 => ?_
  obtain ⟨dx, fs, e1⟩ := at_map m1
  have h9 := m1.hi
  have ht9 := tab_len n f
  refine ⟨r1, dx, fs, rfl, e1, r1, n, f, rfl, m1, fun d hd => ?_⟩
  refine ⟨d, _, rfl, upd_same, trivial, fun od => ?_⟩
  refine ⟨d, od, rfl, .inl ⟨kvI (tab n f), upd_same, fun D hD => ?_⟩⟩
  have hDd : D ≠ d := fun e => by rw [e, upd_same] at hD; cases hD
  have hD1 : H1 D = none := by rw [upd_ne hDd, upd_ne hDd] at hD; exact hD
  have hd1 : H1 d = none := hd
  refine lc_it walk_keys (fun k H2 => H2 d = some (.frz od (.dK (kvI (tab n f)))) ∧ Same H1 H2 ∧ ∃ ps : List Addr, H2 D = some (.lst (ps.map V.ref)) ∧ Paired (fun p kv => H2 p = some (.tup [kV kv.1, kv.2])) ps (kvI (((tab n f).take k).map fun p => (p.1, p.1))))
    ⟨?_, ?_, [], upd_same, .nil⟩ (fun k H2 _ p => p.1) ?_ ?_
  · rw [upd_ne hDd.symm]; exact upd_same
  · exact Same.put (Same.put (Same.put (Same.refl _) hd1) hd1) hD1
  · rintro k v H2 H3 hk ⟨p1, p2, ps, p3, p4⟩ ⟨rfl, kk, vv, e2, rfl⟩
    obtain ⟨x, y, exy, rfl, rfl⟩ := kvI_get e2
    refine ⟨hw _, ?_⟩
    refine ht x _ _ ?_
    refine iteT (hv x _ _ fun p hp => ?_)
    have npd : d ≠ p := ne_of_none p1 hp
    have npD : D ≠ p := ne_of_none p3 hp
    have hpl : ps.length = ((tab n f).take k).length := by
      have : ∀ {α β : Type} {F : α → β → Prop} {l1 : List α} {l2 : List β}, Paired F l1 l2 → l1.length = l2.length := by
        intro α β F l1 l2 h
        induction h with
        | nil => rfl
        | cons _ _ ih => rw [List.length_cons, List.length_cons, ih]
      rw [this p4, kvI_length, List.length_map]
    refine ⟨_, (by rw [upd_ne npD]; exact p3), ?_, ?_⟩
    · rw [List.length_map, hpl, List.length_take]
      exact small1000 (by omega)
    refine ⟨?_, Same.put (p2.trans (Same.new hp)) hD1, ps ++ [p], ?_, ?_⟩
    · rw [upd_ne hDd.symm, upd_ne npd]; exact p1
    · rw [upd_same, List.map_append]; rfl
    · rw [take_more exy, List.map_append]
      have ek : kvI (((tab n f).take k).map (fun p => (p.1, p.1)) ++ [(x, y)].map (fun p => (p.1, p.1))) = kvI (((tab n f).take k).map fun p => (p.1, p.1)) ++ [(Sum.inl x, V.int x)] := by
        unfold kvI
        rw [List.map_append]
        rfl
      rw [ek]
      have stay : ∀ {q : Addr} {o : List V}, H3 q = some (.tup o) → (upd (upd H3 p (.tup [.int x, .int x])) D (.lst (ps.map V.ref ++ [.ref p]))) q = some (.tup o) := by
        intro q o hq
        have n1 : q ≠ D := fun e => by rw [e, p3] at hq; cases hq
        rw [upd_ne n1, upd_ne (ne_of_none hq hp)]
        exact hq
      refine Paired.snoc ?_ ?_
      · have : ∀ {l1 : List Addr} {l2 : List (Key × V)}, Paired (fun p kv => H3 p = some (.tup [kV kv.1, kv.2])) l1 l2 → Paired (fun q kv => (upd (upd H3 p (.tup [.int x, .int x])) D (.lst (ps.map V.ref ++ [.ref p]))) q = some (.tup [kV kv.1, kv.2])) l1 l2 := by
          intro l1 l2 h
          induction h with
          | nil => exact .nil
          | cons h1 _ ih => exact .cons (stay h1) ih
        exact this p4
      · rw [upd_ne npD.symm, upd_same]
        rfl
  · rintro H2 ⟨p1, p2, ps, p3, p4⟩
    rw [kvI_length, List.take_length] at p4
    have toS : ∀ {l1 : List Addr} {l2 : List (Key × V)}, Paired (fun p kv => H2 p = some (.tup [kV kv.1, kv.2])) l1 l2 → Paired (fun p kv => SqT K H2 p [kV kv.1, kv.2]) l1 l2 := by
      intro l1 l2 h
      induction h with
      | nil => exact .nil
      | cons h1 _ ih => exact .cons (SqT.of h1) ih
    refine ⟨D, ps, _, rfl, SqL.of p3, toS p4, fun p hp => ?_⟩
    have knd : (((tab n f).map fun p => (p.1, p.1)).map (·.1)).Nodup := by
      rw [List.map_map]
      exact keys_tab n f
    obtain ⟨l', el, _, nd', k'⟩ := merge_lk ((tab n f).map fun p => (p.1, p.1)) [] knd
    have el' : mergeK [] (kvI ((tab n f).map fun p => (p.1, p.1))) = kvI l' := el
    rw [el']
    have kk : ∀ z, lk l' z = lk ((tab n f).map fun p => (p.1, p.1)) z := by
      intro z
      rw [k' z]
      cases lk ((tab n f).map fun p => (p.1, p.1)) z <;> rfl
    refine q p _ l' ((s1.trans p2).trans (Same.new hp)) upd_same (fun x y hxy => ?_) (fun x y hxy => ?_) (nd' List.nodup_nil)
    · rw [kk]
      exact lk_some knd (List.mem_map.mpr ⟨(x, y), (mem_tab m1.wf).mpr hxy, rfl⟩)
    · rw [kk] at hxy
      obtain ⟨⟨a, b⟩, hm, e⟩ := List.mem_map.mp (lk_mem hxy)
      cases e
      exact ⟨rfl, b, (mem_tab m1.wf).mp hm⟩
end My
namespace My
open PySem L2 U StX PM
/-! ### values that are no maps; check_map -/
def nonMapV (H : Hp) : V → Prop
  | .non => True | .bl _ => True | .int _ => True | .str _ => True
  | .ref a => (∃ xs, H a = some (.lst xs)) ∨ (∃ xs, H a = some (.tup xs)) ∨ (∃ kvs, H a = some (.dK kvs))
  | _ => False
def spChkM (C CE : Addr) : Sp := fun vs H Q E => ∃ x, vs = [x] ∧ ((∃ a n f, x = .ref a ∧ IsMap C H a n f ∧ Q .non H) ∨ (nonMapV H x ∧ ∀ d, H d = none → E (.ref CE) (some d) (upd H d (.xd [("part", .str "map")]))))
section
variable {P : Program} {w : World} {K : PySem.W.Frag} {mg : Str → Option Value} {base : Heap}
end
/-! ### lists of rows -/
def RowsAt (H : Hp) : List Addr → List (List Int) → Prop
  | [], [] => True
  | a :: as, r :: rs => H a = some (.lst (r.map V.int)) ∧ RowsAt H as rs
  | _, _ => False
theorem RowsAt.len {H : Hp} : ∀ {as : List Addr} {rs : List (List Int)}, RowsAt H as rs → as.length = rs.length
  | [], [], _ => rfl
  | _ :: as, _ :: rs, h => by rw [List.length_cons, List.length_cons, RowsAt.len h.2]
  | [], _ :: _, h => h.elim
  | _ :: _, [], h => h.elim
theorem RowsAt.map {H H' : Hp} : ∀ {as : List Addr} {rs : List (List Int)}, RowsAt H as rs → (∀ a ∈ as, ∀ xs, H a = some (.lst xs) → H' a = some (.lst xs)) → RowsAt H' as rs
  | [], [], _, _ => trivial
  | _ :: as, _ :: rs, h, k => ⟨k _ List.mem_cons_self _ h.1, RowsAt.map h.2 fun a ha => k a (List.mem_cons_of_mem _ ha)⟩
  | [], _ :: _, h, _ => h.elim
  | _ :: _, [], h, _ => h.elim
theorem RowsAt.same {H H' : Hp} {as : List Addr} {rs : List (List Int)} (h : RowsAt H as rs) (s : Same H H') : RowsAt H' as rs := h.map fun a _ xs e => s a _ e
theorem RowsAt.off {H : Hp} {as : List Addr} {rs : List (List Int)} {p : Addr} {o : HO} (h : RowsAt H as rs) (n : p ∉ as) : RowsAt (upd H p o) as rs := h.map fun a ha xs e => by
  have hne : a ≠ p := fun z => n (z ▸ ha)
  rw [upd_ne hne]; exact e
theorem RowsAt.snoc {H : Hp} {a : Addr} {r : List Int} : ∀ {as : List Addr} {rs : List (List Int)}, RowsAt H as rs → H a = some (.lst (r.map V.int)) → RowsAt H (as ++ [a]) (rs ++ [r])
  | [], [], _, e => ⟨e, trivial⟩
  | _ :: as, _ :: rs, h, e => ⟨h.1, RowsAt.snoc h.2 e⟩
  | [], _ :: _, h, _ => h.elim
  | _ :: _, [], h, _ => h.elim
theorem RowsAt.get {H : Hp} : ∀ {as : List Addr} {rs : List (List Int)}, RowsAt H as rs → ∀ (i : Nat) (a : Addr), as[i]? = some a → ∃ r, rs[i]? = some r ∧ H a = some (.lst (r.map V.int))
  | [], [], _, i, a, e => by simp at e
  | b :: as, r :: rs, h, 0, a, e => by cases e; exact ⟨r, rfl, h.1⟩
  | _ :: as, _ :: rs, h, i + 1, a, e => RowsAt.get h.2 i a e
  | [], _ :: _, h, _, _, _ => h.elim
  | _ :: _, [], h, _, _, _ => h.elim
theorem RowsAt.mem {H : Hp} {as : List Addr} {rs : List (List Int)} (h : RowsAt H as rs) {a : Addr} (ha : a ∈ as) : ∃ r ∈ rs, H a = some (.lst (r.map V.int)) := by
  obtain ⟨i, hi⟩ := List.mem_iff_getElem?.mp ha
  obtain ⟨r, e1, e2⟩ := h.get i a hi
  exact ⟨r, List.mem_of_getElem? e1, e2⟩
def dInts (r : List Int) : PyData := .list (r.map PyData.int)
theorem dp_ints {K : PySem.W.Frag} {H : Hp} : ∀ (r : List Int), DpAll K H (r.map V.int) (r.map PyData.int)
  | [] => .nil
  | x :: r => .cons (.int x) (dp_ints r)
theorem RowsAt.dp {K : PySem.W.Frag} {H : Hp} : ∀ {as : List Addr} {rs : List (List Int)}, RowsAt H as rs → DpAll K H (as.map V.ref) (rs.map dInts)
  | [], [], _ => .nil
  | _ :: as, r :: rs, h => .cons (.lst (SqL.of h.1) (dp_ints r)) (RowsAt.dp h.2)
  | [], _ :: _, h => h.elim
  | _ :: _, [], h => h.elim
/-- {x: True for x in xs}, a list of unlike ints -/
theorem dc_ints {K : PySem.W.Frag} {te : TE} {i : Nat} {tt : TT} {tk tv : TE} {vs : List Nat} {σ : L2.St} {H0 H : Hp} {Q : VK} {a : Addr} {xs : List Int} (hte : ∀ R : VK, R (.ref a) H → te σ H0 R) (ha : H a = some (.lst (xs.map V.int)))
    (hw : ∀ a, wipe ((wipe σ vs).set i a) vs = wipe σ vs)
    (ht : ∀ (y : Int) (H1 : Hp) (R : Bool → Hp → Prop), R true H1 → tt ((wipe σ vs).set i (some (.int y))) H1 R) (hk : ∀ (y : Int) (H1 : Hp) (R : VK), R (.int y) H1 → tk ((wipe σ vs).set i (some (.int y))) H1 R) (hv : ∀ (y : Int) (H1 : Hp) (R : VK), R (.bl true) H1 → tv ((wipe σ vs).set i (some (.int y))) H1 R)
    (nd : xs.Nodup) (hz : xs.length < sizeLine)
    (hq : ∀ D H', H D = none → H' D = some (.dK (kvB xs)) → L2.Same H H' → Q (.ref D) H') :
    tDc (iList K te) (gName i) tt tk tv vs σ H0 Q := by
  refine hte _ ⟨a, rfl, ⟨_, SqL.of ha⟩, fun D hD => ?_⟩
  have hDa : D ≠ a := fun e => by rw [e, ha] at hD; cases hD
  refine dc_it (walk_list (xs := xs.map V.int)) (fun k H' => L2.Same H H' ∧ H' D = some (.dK (kvB (xs.take k)))) ⟨Same.new hD, upd_same⟩ (fun k H' _ p => SqL.of (p.1 _ _ ha)) ?_ ?_
  · rintro k v H' H'' hk1 ⟨p1, p2⟩ ⟨rfl, ev⟩
    rw [List.length_map] at hk1
    obtain ⟨y, ey⟩ : ∃ y, xs[k]? = some y := ⟨_, List.getElem?_eq_getElem hk1⟩
    have ev' : v = .int y := by
      have := get_map ey
      rw [this] at ev
      exact (Option.some.inj ev).symm
    subst ev'
    refine ⟨hw _, ?_⟩
    refine ht y _ _ (iteT (hk y _ _ (hv y _ _ ⟨_, Sum.inl y, rfl, p2, ?_, ?_, ?_⟩)))
    · refine Nat.lt_of_le_of_lt ?_ hz
      unfold kvB
      rw [List.length_map, List.length_take]
      omega
    · exact Same.put p1 hD
    · have nin : y ∉ xs.take k := by
        intro hm
        have e2 : xs = xs.take k ++ xs.drop k := (List.take_append_drop k xs).symm
        rw [e2, List.nodup_append] at nd
        refine nd.2.2 y hm y (List.mem_iff_getElem?.mpr ⟨0, ?_⟩) rfl
        rw [List.getElem?_drop]
        exact ey
      rw [upd_same, putK_new _ (valV_none fun z => nin (kvB_key.mp z)), take_more ey]
      unfold kvB
      rw [List.map_append]
      rfl
  · rintro H' ⟨p1, p2⟩
    rw [List.length_map, List.take_length] at p2
    exact hq D _ hD p2 p1
/-- one dict of marks merged into another -/
theorem kvB_merge : ∀ (xs sl : List Int), ∃ sl', mergeK (kvB sl) (kvB xs) = kvB sl' ∧ (∀ z, z ∈ sl' ↔ z ∈ sl ∨ z ∈ xs) ∧ (sl.Nodup → sl'.Nodup)
  | [], sl => ⟨sl, rfl, fun z => by simp, id⟩
  | x :: xs, sl => by
    obtain ⟨s1, e1, m1, n1⟩ := kvB_put sl x
    obtain ⟨s2, e2, m2, n2⟩ := kvB_merge xs s1
    refine ⟨s2, ?_, fun z => ?_, fun nd => n2 (n1 nd)⟩
    · show mergeK (putK (kvB sl) (Sum.inl x) (V.bl true)) (kvB xs) = _
      rw [e1, e2]
    · rw [m2, m1, List.mem_cons]
      constructor
      · rintro ((h | h) | h)
        · exact .inl h
        · exact .inr (.inl h)
        · exact .inr (.inr h)
      · rintro (h | h | h)
        · exact .inl (.inl h)
        · exact .inl (.inr h)
        · exact .inr h
theorem kvB_len (sl : List Int) : (kvB sl).length = sl.length := by simp [kvB]
end My
namespace My
open PySem L2 U StX PM
section
variable {P : Program} {w : World} {K : PySem.W.Frag} {mg : Str → Option Value} {base : Heap}
theorem upd_upd {H : Hp} {p : Addr} {o o' : HO} : upd (upd H p o) p o' = upd H p o' := by
  funext b
  by_cases h : b = p
  · subst h; rw [upd_same, upd_same]
  · rw [upd_ne h, upd_ne h, upd_ne h]
theorem tgt_tab {n : Int} {f : PF} (wf : WF n f) (x : Int) : (valV (tgt (tab n f)) (Sum.inl x : Key)).isSome = !nonT n f x := by
  rw [tgt_val]
  cases h : nonT n f x with
  | true =>
    have := (nonT_iff wf).mp h
    refine decide_eq_false fun hm => ?_
    obtain ⟨⟨a, b⟩, hp, rfl⟩ := List.mem_map.mp hm
    exact this a ((mem_tab wf).mp hp)
  | false =>
    refine decide_eq_true ?_
    unfold nonT at h
    cases e : inv n f x with
    | none => rw [e] at h; cases h
    | some y => exact List.mem_map.mpr ⟨(y, x), (mem_tab wf).mpr ((inv_iff wf).mp e), rfl⟩
/-- {t: True for t in e.values()}, e a dict just made -/
theorem dc_valsF {l : List (Int × Int)} {te : TE} {i : Nat} {tt : TT} {tk tv : TE} {vs : List Nat} {σ : L2.St} {H0 H : Hp} {Q : VK}
    (hte : ∀ R : VK, (∀ d od, H d = none → R (.ref d) (upd H d (.frz od (.dK (kvI l))))) → te σ H0 R)
    (hw : ∀ a, wipe ((wipe σ vs).set i a) vs = wipe σ vs)
    (ht : ∀ (y : Int) (H1 : Hp) (R : Bool → Hp → Prop), R true H1 → tt ((wipe σ vs).set i (some (.int y))) H1 R) (hk : ∀ (y : Int) (H1 : Hp) (R : VK), R (.int y) H1 → tk ((wipe σ vs).set i (some (.int y))) H1 R) (hv : ∀ (y : Int) (H1 : Hp) (R : VK), R (.bl true) H1 → tv ((wipe σ vs).set i (some (.int y))) H1 R)
    (nd : (l.map (·.2)).Nodup) (hz : l.length < sizeLine)
    (hq : ∀ D H', H D = none → H' D = some (.dK (tgt l)) → L2.Same H H' → Q (.ref D) H') :
    tDc (iVals te) (gName i) tt tk tv vs σ H0 Q := by
  refine hte _ fun d od hd => ⟨d, od, kvI l, rfl, upd_same, fun D hD => ?_⟩
  have hDd : D ≠ d := fun e => by rw [e, upd_same] at hD; cases hD
  have hD0 : H D = none := by rw [upd_ne hDd] at hD; exact hD
  refine dc_it walk_values (fun k H' => H' d = some (.frz od (.dK (kvI l))) ∧ L2.Same H H' ∧ H' D = some (.dK (tgt (l.take k)))) ⟨?_, Same.put (Same.new hd) hD0, upd_same⟩ (fun k H' _ p => p.1) ?_ ?_
  · rw [upd_ne hDd.symm]; exact upd_same
  · rintro k v H' H'' hk1 ⟨p1, p2, p3⟩ ⟨rfl, kk, e1⟩
    obtain ⟨x, y, exy, rfl, rfl⟩ := kvI_get e1
    refine ⟨hw _, ?_⟩
    refine ht y _ _ ?_
    refine iteT ?_
    refine hk _ _ _ (hv _ _ _ ⟨_, Sum.inl y, rfl, p3, Nat.lt_of_le_of_lt (tgt_len ..) hz, ?_⟩)
    refine ⟨?_, Same.put p2 hD0, ?_⟩
    · rw [upd_ne hDd.symm]; exact p1
    · have nin : y ∉ (l.take k).map (·.2) := by
        intro hm
        have e2 : l.map (·.2) = (l.take k).map (·.2) ++ (l.drop k).map (·.2) := by rw [← List.map_append, List.take_append_drop]
        rw [e2, List.nodup_append] at nd
        refine nd.2.2 _ hm y (List.mem_map.mpr ⟨(x, y), ?_, rfl⟩) rfl
        refine List.mem_iff_getElem?.mpr ⟨0, ?_⟩
        rw [List.getElem?_drop]
        exact exy
      rw [upd_same, putK_new _ (valV_none fun z => nin (tgt_key.mp z)), take_more exy]
      unfold tgt
      rw [List.map_append]
      rfl
  · rintro H' ⟨p1, p2, p3⟩
    rw [kvI_length, List.take_length] at p3
    exact hq D _ hD0 p3 p2
structure Prt (n : Int) (f : PF) (H H' : Hp) (lh se : Addr) (ex : List Addr) (b : List Int) (hs : List Addr) (sl : List Int) (st : List Int) : Prop where
  sm : Same H H'
  l : H' lh = some (.lst (hs.map V.ref))
  s : H' se = some (.dK (kvB sl))
  r : RowsAt H' hs (st.map (rowN f))
  m : ∀ x, x ∈ sl ↔ x ∈ seenL f (b ++ st)
  nd : sl.Nodup
  nw : ∀ a ∈ hs, H a = none ∧ a ≠ lh ∧ a ≠ se ∧ a ∉ ex
theorem Prt.slen {n : Int} {f : PF} {H H' : Hp} {lh se : Addr} {ex hs : List Addr} {b sl st : List Int} (wf : WF n f) (p : Prt n f H H' lh se ex b hs sl st) (h : ∀ e ∈ b ++ st, 0 ≤ e ∧ e < n) : sl.length ≤ n.toNat := by
  refine len_range p.nd fun x hx => ?_
  obtain ⟨e, he, hm⟩ := mem_seenL.mp ((p.m x).mp hx)
  have := h e he
  exact (rowN_is wf this.1 this.2).dom wf this.1 this.2 x hm
/-- one row more, from a new list r, its marks merged -/
theorem Prt.more {n : Int} {f : PF} {H H1 H2 H3 : Hp} {lh se : Addr} {ex hs : List Addr} {b sl sl' st : List Int} {e : Int} {r : Addr} (p : Prt n f H H1 lh se ex b hs sl st) (hl0 : H lh = none) (hs0 : H se = none) (nls : lh ≠ se) (hex : ∀ a ∈ ex, H1 a ≠ none)
    (hr : H1 r = none) (s2 : Same H1 H2) (hr2 : H2 r = some (.lst ((rowN f e).map V.int))) (m1 : ∀ z, z ∈ sl' ↔ z ∈ sl ∨ z ∈ rowN f e) (n1 : sl.Nodup → sl'.Nodup) (s3 : Same (upd H2 lh (.lst (hs.map V.ref ++ [.ref r]))) H3) :
    Prt n f H (upd H3 se (.dK (kvB sl'))) lh se ex b (hs ++ [r]) sl' (st ++ [e]) := by
  have rl : r ≠ lh := fun z => by rw [z, p.l] at hr; cases hr
  have rs : r ≠ se := fun z => by rw [z, p.s] at hr; cases hr
  have r0 : H r = none := p.sm.free hr
  have rx : r ∉ ex := fun z => hex r z hr
  refine ⟨?_, ?_, upd_same, ?_, ?_, n1 p.nd, ?_⟩
  · refine Same.put ?_ hs0
    exact (Same.put (p.sm.trans s2) hl0).trans s3
  · rw [upd_ne nls, s3 _ _ upd_same, List.map_append]
    rfl
  · rw [List.map_append]
    refine RowsAt.snoc ?_ ?_
    · have h1 := (p.r.same s2).off (p := lh) (o := .lst (hs.map V.ref ++ [.ref r])) (fun z => (p.nw lh z).2.1 rfl)
      exact (h1.same s3).off fun z => (p.nw se z).2.2.1 rfl
    · rw [upd_ne rs]
      exact s3 _ _ (by rw [upd_ne rl]; exact hr2)
  · intro x
    rw [m1, p.m, mem_seenL, mem_seenL]
    constructor
    · rintro (⟨e', h1, h2⟩ | h)
      · exact ⟨e', by rw [← List.append_assoc]; exact List.mem_append_left _ h1, h2⟩
      · exact ⟨e, by simp, h⟩
    · rintro ⟨e', h1, h2⟩
      rw [← List.append_assoc] at h1
      rcases List.mem_append.mp h1 with h1 | h1
      · exact .inl ⟨e', h1, h2⟩
      · rw [List.mem_singleton] at h1
        subst h1
        exact .inr h2
  · intro a ha
    rcases List.mem_append.mp ha with ha | ha
    · exact p.nw a ha
    · rw [List.mem_singleton] at ha
      subst ha
      exact ⟨r0, rl, rs, rx⟩
def spParts (C : Addr) : Sp := fun vs H Q _ => ∃ a n f, vs = [.ref a] ∧ IsMap C H a n f ∧ ∀ t lc lh cs hs H', Same H H' → H' t = some (.tup [.ref lc, .ref lh]) → H' lc = some (.lst (cs.map V.ref)) → H' lh = some (.lst (hs.map V.ref)) →
  RowsAt H' cs ((cycS n f).map (rowN f)) → RowsAt H' hs ((nons n f).map (rowN f)) → H lc = none → H lh = none → lc ≠ lh → (∀ a ∈ cs, H a = none ∧ a ≠ lc ∧ a ≠ lh) → (∀ a ∈ hs, H a = none ∧ a ≠ lc ∧ a ≠ lh) → Q (.ref t) H'
/-! ### cycles_of, chains_of -/
def spRows (C CE : Addr) (sel : Int → PF → List Int) : Sp := fun vs H Q E => ∃ x, vs = [x] ∧ ((∃ a n f, x = .ref a ∧ IsMap C H a n f ∧ ∀ l as H', Same H H' → H' l = some (.lst (as.map V.ref)) → RowsAt H' as ((sel n f).map (rowN f)) → H l = none → (∀ a ∈ as, H a = none ∧ a ≠ l) → Q (.ref l) H') ∨
  (nonMapV H x ∧ ∀ d, H d = none → E (.ref CE) (some d) (upd H d (.xd [("part", .str "map")]))))
end
end My
namespace My
open PySem L2 U StX PM
/-- what holds between a statement and the rest -/
theorem seq_cut {a rest : TS} {D : Ends} {σ : L2.St} {H : Hp} (M : L2.St → Hp → Prop) (h : ∀ nx : L2.St → Hp → Prop, (∀ σ' H', M σ' H' → nx σ' H') → a { D with nx := nx } σ H) (hM : ∀ σ' H', M σ' H' → rest D σ' H') : tSeq a rest D σ H := h _ hM
theorem asg_of {t : TE} {D : Ends} {σ : L2.St} {H : Hp} {i : Nat} (h : t σ H (fun v H' => D.nx (σ.set i (some v)) H')) : tAsg t (gName i) D σ H := h
/-! ### lists of ints: in, comprehensions -/
theorem inV_ints (x : Int) (l : List Int) : inV (.int x) (l.map V.int) = decide (x ∈ l) := by
  unfold inV
  rw [Bool.eq_iff_iff, List.any_eq_true, decide_eq_true_eq]
  constructor
  · rintro ⟨v, hv, e⟩
    obtain ⟨y, hy, rfl⟩ := List.mem_map.mp hv
    have : y = x := by simpa [eqV] using e
    exact this ▸ hy
  · intro h
    exact ⟨.int x, List.mem_map.mpr ⟨x, h, rfl⟩, by simp [eqV]⟩
theorem flat_ints (l : List Int) : (l.map V.int).all flatV = true := by
  rw [List.all_eq_true]
  intro v hv
  obtain ⟨y, _, rfl⟩ := List.mem_map.mp hv
  rfl
/-- [v for x in xs if ..], a list of ints, the tests and parts reading alone -/
theorem lc_ints {K : PySem.W.Frag} {te : TE} {i : Nat} {tt : TT} {tv : TE} {vs : List Nat} {σ : L2.St} {H0 H : Hp} {Q : VK} {a : Addr} {xs : List Int} (c : Int → Bool) (vf : Int → V) (hte : ∀ R : VK, R (.ref a) H → te σ H0 R) (ha : H a = some (.lst (xs.map V.int)))
    (hw : ∀ a, wipe ((wipe σ vs).set i a) vs = wipe σ vs)
    (hb : ∀ (x : Int), x ∈ xs → ∀ (H1 : Hp), L2.Same H H1 → (∀ R : Bool → Hp → Prop, R (c x) H1 → tt ((wipe σ vs).set i (some (.int x))) H1 R) ∧ (c x = true → ∀ R : VK, R (vf x) H1 → tv ((wipe σ vs).set i (some (.int x))) H1 R))
    (hz : xs.length < sizeLine)
    (hq : ∀ D H', H D = none → H' D = some (.lst ((xs.filter c).map vf)) → L2.Same H H' → Q (.ref D) H') :
    tLc (iList K te) (gName i) tt tv vs σ H0 Q := by
  refine hte _ ⟨a, rfl, ⟨_, SqL.of ha⟩, fun D hD => ?_⟩
  refine lc_it (walk_list (xs := xs.map V.int)) (fun k H' => L2.Same H H' ∧ H' D = some (.lst (((xs.take k).filter c).map vf))) ⟨Same.new hD, upd_same⟩ (fun k H' _ p => SqL.of (p.1 _ _ ha)) ?_ ?_
  · rintro k v H' H'' hk1 ⟨p1, p2⟩ ⟨rfl, ev⟩
    rw [List.length_map] at hk1
    obtain ⟨y, ey⟩ : ∃ y, xs[k]? = some y := ⟨_, List.getElem?_eq_getElem hk1⟩
    have ev' : v = .int y := by
      have := get_map ey
      rw [this] at ev
      exact (Option.some.inj ev).symm
    subst ev'
    refine ⟨hw _, ?_⟩
    obtain ⟨b1, b2⟩ := hb y (List.mem_of_getElem? ey) _ p1
    refine b1 _ ?_
    have st : (xs.take (k + 1)).filter c = (xs.take k).filter c ++ (if c y = true then [y] else []) := by
      rw [take_more ey, List.filter_append]
      by_cases h : c y = true
      · simp [h]
      · have h' : c y = false := by simpa using h
        simp [h']
    cases hc : c y with
    | true =>
      refine iteT (b2 hc _ ⟨_, p2, ?_, Same.put p1 hD, ?_⟩)
      · refine Nat.lt_of_le_of_lt ?_ hz
        rw [List.length_map]
        exact Nat.le_trans (List.length_filter_le _ _) (by rw [List.length_take]; omega)
      · rw [upd_same, st, if_pos hc, List.map_append]
        rfl
    | false =>
      refine iteF ⟨p1, ?_⟩
      rw [st, hc, if_neg Bool.false_ne_true, List.append_nil]
      exact p2
  · rintro H' ⟨p1, p2⟩
    rw [List.length_map, List.take_length] at p2
    exact hq D _ hD p2 p1
/-! ### rows with marks -/
def PairsAt (H : Hp) : List Addr → List Addr → List Bool → Prop
  | [], [], [] => True
  | p :: ps, a :: as, b :: bs => H p = some (.tup [.ref a, .bl b]) ∧ PairsAt H ps as bs
  | _, _, _ => False
theorem PairsAt.map {H H' : Hp} : ∀ {ps as : List Addr} {bs : List Bool}, PairsAt H ps as bs → (∀ p ∈ ps, ∀ xs, H p = some (.tup xs) → H' p = some (.tup xs)) → PairsAt H' ps as bs
  | [], [], [], _, _ => trivial
  | _ :: ps, _ :: as, _ :: bs, h, k => ⟨k _ List.mem_cons_self _ h.1, PairsAt.map h.2 fun a ha => k a (List.mem_cons_of_mem _ ha)⟩
  | [], [], _ :: _, h, _ => h.elim
  | [], _ :: _, _, h, _ => h.elim
  | _ :: _, [], _, h, _ => h.elim
  | _ :: _, _ :: _, [], h, _ => h.elim
theorem PairsAt.same {H H' : Hp} {ps as : List Addr} {bs : List Bool} (h : PairsAt H ps as bs) (s : Same H H') : PairsAt H' ps as bs := h.map fun a _ xs e => s a _ e
theorem PairsAt.off {H : Hp} {ps as : List Addr} {bs : List Bool} {q : Addr} {o u : HO} (h : PairsAt H ps as bs) (hq : H q = some u) (nt : ∀ xs, u ≠ .tup xs) : PairsAt (upd H q o) ps as bs := h.map fun a ha xs e => by
  have hne : a ≠ q := fun z => by subst z; rw [hq] at e; exact nt _ (Option.some.inj e)
  rw [upd_ne hne]; exact e
theorem PairsAt.snoc {H : Hp} {p a : Addr} {b : Bool} : ∀ {ps as : List Addr} {bs : List Bool}, PairsAt H ps as bs → H p = some (.tup [.ref a, .bl b]) → PairsAt H (ps ++ [p]) (as ++ [a]) (bs ++ [b])
  | [], [], [], _, e => ⟨e, trivial⟩
  | _ :: ps, _ :: as, _ :: bs, h, e => ⟨h.1, PairsAt.snoc h.2 e⟩
  | [], [], _ :: _, h, _ => h.elim
  | [], _ :: _, _, h, _ => h.elim
  | _ :: _, [], _, h, _ => h.elim
  | _ :: _, _ :: _, [], h, _ => h.elim
theorem PairsAt.len {H : Hp} : ∀ {ps as : List Addr} {bs : List Bool}, PairsAt H ps as bs → ps.length = as.length ∧ ps.length = bs.length
  | [], [], [], _ => ⟨rfl, rfl⟩
  | _ :: ps, _ :: as, _ :: bs, h => by
    have := PairsAt.len h.2
    simp [this.1.symm, this.2.symm]
  | [], [], _ :: _, h => h.elim
  | [], _ :: _, _, h => h.elim
  | _ :: _, [], _, h => h.elim
  | _ :: _, _ :: _, [], h => h.elim
theorem PairsAt.get {H : Hp} : ∀ {ps as : List Addr} {bs : List Bool}, PairsAt H ps as bs → ∀ (i : Nat) (p : Addr), ps[i]? = some p → ∃ a b, as[i]? = some a ∧ bs[i]? = some b ∧ H p = some (.tup [.ref a, .bl b])
  | [], [], [], _, i, a, e => by simp at e
  | _ :: ps, a :: as, b :: bs, h, 0, p, e => by cases e; exact ⟨a, b, rfl, rfl, h.1⟩
  | _ :: ps, _ :: as, _ :: bs, h, i + 1, p, e => PairsAt.get h.2 i p e
  | [], [], _ :: _, h, _, _, _ => h.elim
  | [], _ :: _, _, h, _, _, _ => h.elim
  | _ :: _, [], _, h, _, _, _ => h.elim
  | _ :: _, _ :: _, [], h, _, _, _ => h.elim
end My
namespace My
open PySem L2 U StX PM
/-- [v for .. in xs if ..], any list, the tests and parts reading alone -/
theorem lc_lst {α : Type} {K : PySem.W.Frag} {te : TE} {g : TG} {tt : TT} {tv : TE} {vs : List Nat} {σ : L2.St} {H0 H : Hp} {Q : VK} {a : Addr} {xs : List α} (e : α → V) (sx : α → L2.St) (c : α → Bool) (vf : α → V) (hte : ∀ R : VK, R (.ref a) H → te σ H0 R) (ha : H a = some (.lst (xs.map e)))
    (hg : ∀ x ∈ xs, ∀ (H1 : Hp), L2.Same H H1 → ∀ R : L2.St → Hp → Prop, R (sx x) H1 → g (e x) (wipe σ vs) H1 R) (hw : ∀ x ∈ xs, wipe (sx x) vs = wipe σ vs)
    (hb : ∀ x ∈ xs, ∀ (H1 : Hp), L2.Same H H1 → (∀ R : Bool → Hp → Prop, R (c x) H1 → tt (sx x) H1 R) ∧ (c x = true → ∀ R : VK, R (vf x) H1 → tv (sx x) H1 R))
    (hz : xs.length < sizeLine)
    (hq : ∀ D H', H D = none → H' D = some (.lst ((xs.filter c).map vf)) → L2.Same H H' → Q (.ref D) H') :
    tLc (iList K te) g tt tv vs σ H0 Q := by
  refine hte _ ⟨a, rfl, ⟨_, SqL.of ha⟩, fun D hD => ?_⟩
  refine lc_it (walk_list (xs := xs.map e)) (fun k H' => L2.Same H H' ∧ H' D = some (.lst (((xs.take k).filter c).map vf))) ⟨Same.new hD, upd_same⟩ (fun k H' _ p => SqL.of (p.1 _ _ ha)) ?_ ?_
  · rintro k v H' H'' hk1 ⟨p1, p2⟩ ⟨rfl, ev⟩
    rw [List.length_map] at hk1
    obtain ⟨y, ey⟩ : ∃ y, xs[k]? = some y := ⟨_, List.getElem?_eq_getElem hk1⟩
    have ev' : v = e y := by
      rw [List.getElem?_map, ey] at ev
      exact (Option.some.inj ev).symm
    subst ev'
    have hy := List.mem_of_getElem? ey
    refine hg y hy _ p1 _ ⟨hw y hy, ?_⟩
    obtain ⟨b1, b2⟩ := hb y hy _ p1
    refine b1 _ ?_
    have st : (xs.take (k + 1)).filter c = (xs.take k).filter c ++ (if c y = true then [y] else []) := by
      rw [take_more ey, List.filter_append]
      by_cases h : c y = true
      · simp [h]
      · have h' : c y = false := by simpa using h
        simp [h']
    cases hc : c y with
    | true =>
      refine iteT (b2 hc _ ⟨_, p2, ?_, Same.put p1 hD, ?_⟩)
      · refine Nat.lt_of_le_of_lt ?_ hz
        rw [List.length_map]
        exact Nat.le_trans (List.length_filter_le _ _) (by rw [List.length_take]; omega)
      · rw [upd_same, st, if_pos hc, List.map_append]
        rfl
    | false =>
      refine iteF ⟨p1, ?_⟩
      rw [st, hc, if_neg Bool.false_ne_true, List.append_nil]
      exact p2
  · rintro H' ⟨p1, p2⟩
    rw [List.length_map, List.take_length] at p2
    exact hq D _ hD p2 p1
/-! ### rows by their first elements -/
def RowsZ (f : PF) (H : Hp) (zs : List (Addr × Int)) : Prop := ∀ z ∈ zs, H z.1 = some (.lst ((rowN f z.2).map V.int))
theorem RowsAt.zs {f : PF} {H : Hp} : ∀ {as : List Addr} {l : List Int}, RowsAt H as (l.map (rowN f)) → ∃ zs : List (Addr × Int), zs.map (·.1) = as ∧ zs.map (·.2) = l ∧ RowsZ f H zs
  | [], [], _ => ⟨[], rfl, rfl, fun z h => nomatch h⟩
  | a :: as, x :: l, h => by
    obtain ⟨zs, e1, e2, r⟩ := RowsAt.zs h.2
    refine ⟨(a, x) :: zs, by simp [e1], by simp [e2], fun z hz => ?_⟩
    rcases List.mem_cons.mp hz with rfl | hz
    · exact h.1
    · exact r z hz
  | [], _ :: _, h => h.elim
  | _ :: _, [], h => h.elim
theorem RowsZ.at {f : PF} {H : Hp} : ∀ {zs : List (Addr × Int)}, RowsZ f H zs → RowsAt H (zs.map (·.1)) ((zs.map (·.2)).map (rowN f))
  | [], _ => trivial
  | z :: zs, h => ⟨h z List.mem_cons_self, RowsZ.at fun x hx => h x (List.mem_cons_of_mem _ hx)⟩
def fstZ (zs : List (Addr × Int)) : Nat → List (Addr × Int)
  | 0 => []
  | k + 1 => fstZ zs k ++ zs.filter fun z => decide (z.2 = (k : Int))
theorem fstZ_snd (zs : List (Addr × Int)) : ∀ k : Nat, (fstZ zs k).map (·.2) = fstN (zs.map (·.2)) k
  | 0 => rfl
  | k + 1 => by
    show (fstZ zs k ++ zs.filter fun z => decide (z.2 = (k : Int))).map (·.2) = fstN (zs.map (·.2)) k ++ (zs.map (·.2)).filter _
    rw [List.map_append, fstZ_snd zs k, List.filter_map]
    rfl
theorem fstZ_sub (zs : List (Addr × Int)) : ∀ k : Nat, ∀ z ∈ fstZ zs k, z ∈ zs
  | 0, z, h => nomatch h
  | k + 1, z, h => by
    rcases List.mem_append.mp h with h | h
    · exact fstZ_sub zs k z h
    · exact (List.mem_filter.mp h).1
theorem fstZ_len (zs : List (Addr × Int)) : ∀ k : Nat, (fstZ zs k).length ≤ k * zs.length
  | 0 => Nat.zero_le _
  | k + 1 => by
    show (fstZ zs k ++ _).length ≤ _
    rw [List.length_append, Nat.succ_mul]
    exact Nat.add_le_add (fstZ_len zs k) (List.length_filter_le _ _)
/-! ### data that may be compared -/
theorem lay_ints : ∀ (r : List Int), PyData.canLayAll0 (r.map PyData.int) = true ∧ PyData.depthAll (r.map PyData.int) = 0
  | [] => ⟨rfl, rfl⟩
  | x :: r => by
    have := lay_ints r
    constructor
    · show (PyData.canLay0 (.int x) && PyData.canLayAll0 (r.map PyData.int)) = true
      rw [this.1]; rfl
    · show max (PyData.depth (.int x)) (PyData.depthAll (r.map PyData.int)) = 0
      rw [this.2]; rfl
theorem lay_rows : ∀ (rs : List (List Int)), PyData.canLayAll0 (rs.map dInts) = true ∧ PyData.depthAll (rs.map dInts) ≤ 1
  | [] => ⟨rfl, Nat.zero_le _⟩
  | r :: rs => by
    have h1 := lay_ints r
    have h2 := lay_rows rs
    constructor
    · show (PyData.canLay0 (dInts r) && PyData.canLayAll0 (rs.map dInts)) = true
      rw [h2.1, Bool.and_true]
      exact h1.1
    · show max (PyData.depth (dInts r)) (PyData.depthAll (rs.map dInts)) ≤ 1
      have : PyData.depth (dInts r) = 1 := by show PyData.depthAll (r.map PyData.int) + 1 = 1; rw [h1.2]
      omega
theorem shaped_rows (rs : List (List Int)) : SeqAt.shaped (.list (rs.map dInts)) = true := by
  have h := lay_rows rs
  unfold SeqAt.shaped
  have h1 : PyData.canLay0 (.list (rs.map dInts)) = true := h.1
  have h2 : PyData.depth (.list (rs.map dInts)) ≤ 64 := by
    show PyData.depthAll (rs.map dInts) + 1 ≤ 64
    omega
  rw [h1, decide_eq_true h2]
  rfl
end My
namespace My
open PySem L2 U StX PM
theorem SqL.same {K : PySem.W.Frag} {H H' : Hp} {a : Addr} {xs : List V} (h : SqL K H a xs) (s : Same H H') : SqL K H' a xs := by
  rcases h with (h | ⟨o, h⟩) | h
  · exact .inl (.inl (s _ _ h))
  · exact .inl (.inr ⟨o, s _ _ h⟩)
  · exact .inr h
theorem Same.off {H H1 H2 : Hp} {p : Addr} (s : Same H H1) (o : Off p H1 H2) (h : H p = none) : Same H H2 := fun b u e => o b u (ne_of_none e h) (s b u e)
theorem yes_ {σ : L2.St} {H : Hp} {A B : Hp → Prop} (h : A H) : tYes σ H (fun b H3 => if b = true then A H3 else B H3) := by
  show (if true = true then A H else B H)
  rw [if_pos rfl]
  exact h
theorem PoolAt.same {H H' : Hp} {p : Addr} (h : PoolAt H p) (s : Same H H') : PoolAt H' p := by
  obtain ⟨a, b, e, r⟩ := h
  exact ⟨a, b, s _ _ e, r⟩
theorem PoolAt.lst {H : Hp} {p : Addr} (h : PoolAt H p) : ∃ xs, H p = some (.lst xs) := by
  obtain ⟨a, b, e, r⟩ := h
  exact ⟨_, e⟩
theorem PoolAt.ne {H : Hp} {p q : Addr} (h : PoolAt H p) (hq : H q = none) : p ≠ q := by
  obtain ⟨xs, e⟩ := h.lst
  exact ne_of_none e hq
def spLaw (K : PySem.W.Frag) : Sp := fun vs H Q _ => ∃ (a : Addr) (ns : List Int), vs = [.ref a] ∧ SqL K H a (ns.map V.int) ∧ ns.length ≤ 63 ∧ ∀ H', Q (.bl true) H'
theorem IsMap.off {C p : Addr} {H H' : Hp} {m : Addr} {n : Int} {f : PF} (a : IsMap C H m n f) (o : Off p H H') (h : ∃ xs, H p = some (.lst xs)) : IsMap C H' m n f := by
  obtain ⟨⟨dx, D, h1, h2⟩, wf, lo, hi⟩ := a
  obtain ⟨xs, h⟩ := h
  exact ⟨⟨dx, D, o _ _ (fun e => by rw [e, h] at h1; cases h1) h1, o _ _ (fun e => by rw [e, h] at h2; cases h2) h2⟩, wf, lo, hi⟩
/-- Map(n, d) -/
theorem init_of {C : Addr} {H : Hp} {d : Addr} {n : Int} {l : List (Int × Int)} {f : PF} {R : VK} {E : XK} {x dx : Addr} (hd : H d = some (.dK (kvI l))) (di : DI l f) (wf : WF n f) (h1 : 1 ≤ n) (h3 : n ≤ 300) (hl : l.length ≤ 1000)
    (hx : H x = none) (hdx : H dx = none) (ne : dx ≠ x) (q : ∀ H', Same H H' → IsMap C H' x n f → R .non H') :
    spInit C [.ref x, .int n, .ref d] (upd (upd H dx (.own x)) x (.ins C dx [])) R E := by
  have s0 : Same H (upd (upd H dx (.own x)) x (.ins C dx [])) := fun b o e => by
    rw [upd_ne (ne_of_none e hx), upd_ne (ne_of_none e hdx)]
    exact e
  refine ⟨x, dx, d, n, l, f, rfl, upd_same, s0 _ _ hd, di, wf, h1, h3, hl, fun H' D o nD hp hD => ?_⟩
  exact q H' (fun b u e => o b u (ne_of_none e hx) (s0 b u e)) ⟨⟨dx, D, hp, hD⟩, wf, h1, h3⟩
/-- the law's draw, told by the pool alone -/
theorem draw_of {H : Hp} {p : Addr} {n : Int} {Q : VK} {E : XK} (h : PoolAt H p) (n0 : 0 < n) (n1 : n < 1073741824) (k : ∀ r H', 0 ≤ r → r < n → PoolAt H' p → Off p H H' → (∃ xs, H' = upd H p (.lst xs)) → Q (.int r) H') : spDraw [.ref p, .int n] H Q E := by
  obtain ⟨a, b, e, ha, hb, hc⟩ := h
  exact ⟨p, a, b, n, rfl, e, ha, hb, hc, n0, n1, fun a' b' r h1 h2 h3 h4 h5 => k r _ h4 h5 ⟨a', b', upd_same, h1, h2, h3⟩ Off.lock ⟨_, rfl⟩⟩
end My
namespace My
open PySem L2 U StX PM
theorem paired_at {α β : Type} {R : α → β → Prop} {xs : List α} {ys : List β} (h : Paired R xs ys) {i : Nat} {x : α} (e : xs[i]? = some x) : ∃ y, ys[i]? = some y ∧ R x y := by
  induction h generalizing i with
  | nil => cases e
  | cons r _ ih =>
    cases i with
    | zero => cases e; exact ⟨_, rfl, r⟩
    | succ i => exact ih e
theorem paired_len {α β : Type} {R : α → β → Prop} {xs : List α} {ys : List β} (h : Paired R xs ys) : xs.length = ys.length := by
  induction h with
  | nil => rfl
  | cons _ _ ih => rw [List.length_cons, List.length_cons, ih]
theorem PoolAt.put {H : Hp} {p q : Addr} {o : HO} (h : PoolAt H p) (n : p ≠ q) : PoolAt (upd H q o) p := by
  obtain ⟨a, b, e, r⟩ := h
  exact ⟨a, b, by rw [upd_ne n]; exact e, r⟩
theorem paired_snoc {α β : Type} {R : α → β → Prop} {xs : List α} {ys : List β} (h : Paired R xs ys) {x : α} {y : β} (r : R x y) : Paired R (xs ++ [x]) (ys ++ [y]) := by
  induction h with
  | nil => exact .cons r .nil
  | cons a _ ih => exact .cons a ih
theorem draw_R {i : Nat} {tb : TE} {σ : L2.St} {H : Hp} {Q : VK} {p : Addr} {n : Int} (hi : σ[i]? = some (some (.ref p))) (hb : ∀ R : VK, R (.int n) H → tb σ H R) (h : PoolAt H p) (n0 : 0 < n) (n1 : n < 1073741824)
    (k : ∀ r H', 0 ≤ r → r < n → PoolAt H' p → Off p H H' → Q (.int r) H') : tCallR spDraw E0 (tCons (tVar i) (tCons tb tNil)) σ H Q :=
  ⟨_, hi, hb _ (draw_of (E := E0) h n0 n1 fun r H' h1 h2 h3 h4 _ => k r H' h1 h2 h3 h4)⟩
theorem dgetL {H : Hp} {d : Addr} {l : List (Int × Int)} {f : PF} (h : H d = some (.dK (kvI l))) (di : DI l f) (i : Int) : DGet H d (.int i) ((f i).map V.int) := by
  have := DGet.k (k := Sum.inl i) h
  rw [valV_kvI, di.at_] at this
  exact this
theorem dp_of_paired {K : PySem.W.Frag} {α : Type} {H : Hp} {R : Addr → α → Prop} (dt : α → PyData) {ts : List Addr} {ss : List α} (h : Paired R ts ss) (k : ∀ t s, R t s → Dp K H (.ref t) (dt s)) : DpAll K H (ts.map V.ref) (ss.map dt) := by
  induction h with
  | nil => exact .nil
  | cons r _ ih => exact .cons (k _ _ r) ih
theorem lay_all {k : Nat} {ds : List PyData} (h : ∀ d ∈ ds, PyData.canLay0 d = true ∧ PyData.depth d ≤ k) : PyData.canLayAll0 ds = true ∧ PyData.depthAll ds ≤ k := by
  induction ds with
  | nil => exact ⟨rfl, Nat.zero_le _⟩
  | cons p l ih =>
    obtain ⟨h1, h2⟩ := h p List.mem_cons_self
    obtain ⟨i1, i2⟩ := ih fun d hd => h d (List.mem_cons_of_mem _ hd)
    refine ⟨?_, ?_⟩
    · show (PyData.canLay0 p && PyData.canLayAll0 l) = true
      rw [i1, h1]; rfl
    · show max (PyData.depth p) (PyData.depthAll l) ≤ k
      omega
theorem shaped_all {ds : List PyData} (h : ∀ d ∈ ds, PyData.canLay0 d = true ∧ PyData.depth d ≤ 60) : SeqAt.shaped (.list ds) = true := by
  unfold SeqAt.shaped
  have h := lay_all h
  rw [Bool.and_eq_true]
  refine ⟨h.1, decide_eq_true ?_⟩
  show PyData.depthAll ds + 1 ≤ 64
  omega
theorem mutF {H H' : Hp} {p a : Addr} {o u : HO} (g : upd H p o = H') (ne : a ≠ p) (h : H a = some u) : H' a = some u := by
  rw [← g, upd_ne ne]; exact h
theorem at_nat {xs : List V} {c : Int} (h0 : 0 ≤ c) (h1 : c.toNat < xs.length) : ∃ v, atI xs c = some v ∧ v ∈ xs := by
  obtain ⟨v, hv⟩ : ∃ v, xs[c.toNat]? = some v := ⟨_, List.getElem?_eq_getElem h1⟩
  have := atI_nat hv
  rw [show ((c.toNat : Nat) : Int) = c by omega] at this
  exact ⟨v, this, List.mem_of_getElem? hv⟩
theorem PoolAt.netup {H : Hp} {p t : Addr} {xs : List V} (h : PoolAt H p) (e : H t = some (.tup xs)) : t ≠ p := fun z => by
  obtain ⟨ys, e2⟩ := h.lst
  rw [z, e2] at e; cases e
theorem cut1 (v0 : V) (r : List V) : cutV (v0 :: r) (some 1) none = r ∧ ¬ (HT.sIx (v0 :: r).length 0 (some 1) = 0 ∧ HT.sIx (v0 :: r).length (v0 :: r).length none = (v0 :: r).length) := by
  have h : HT.sIx (v0 :: r).length 0 (some 1) = 1 := by
    show (if (1 : Int) < 0 then ((1 : Int) + (((v0 :: r).length : Nat) : Int)).toNat else min (1 : Int).toNat (v0 :: r).length) = 1
    rw [if_neg (by decide), List.length_cons]
    show min 1 _ = 1
    omega
  constructor
  · unfold cutV
    rw [h, HT.sIx_none]
    show r.take ((v0 :: r).length - 1) = r
    rw [List.length_cons, Nat.add_sub_cancel, List.take_length]
  · rintro ⟨h1, _⟩
    rw [h] at h1
    cases h1
theorem di_lenN {n : Int} {l : List (Int × Int)} {f : PF} (di : DI l f) (wf : WF n f) : l.length ≤ n.toNat := by
  have := len_range (l := l.map (·.1)) (n := n) di.nd fun x hx => by
    obtain ⟨⟨x', y'⟩, h1, rfl⟩ := List.mem_map.mp hx
    have := wf.dom x' y' (di.mem.mp h1)
    exact ⟨this.1, this.2.1⟩
  rwa [List.length_map] at this
end My
namespace My
open PySem L2 U StX PM
/-! ### the operators, with maps of unlike sizes -/
def mism (CE : Addr) (n n' : Int) (H : Hp) (E : XK) : Prop := ∀ d, H d = none → E (.ref CE) (some d) (upd H d (.xd [("second", .int n'), ("first", .int n)]))
def spCommonX (C CE : Addr) : Sp := fun vs H Q E => ∃ a b n f n' g, vs = [.ref a, .ref b] ∧ IsMap C H a n f ∧ IsMap C H b n' g ∧ (n ≠ n' → mism CE n n' H E) ∧ (n = n' → Q (.int n) H)
def spOpX (C CE : Addr) (op : PF → PF → PF) : Sp := fun vs H Q E => ∃ a b n f n' g, vs = [.ref a, .ref b] ∧ IsMap C H a n f ∧ IsMap C H b n' g ∧ (n ≠ n' → mism CE n n' H E) ∧ (n = n' → ∀ r H', H r = none → Same H H' → IsMap C H' r n (op f g) → Q (.ref r) H')
def spOrX (C CE : Addr) : Sp := fun vs H Q E => ∃ a b n f n' g, vs = [.ref a, .ref b] ∧ IsMap C H a n f ∧ IsMap C H b n' g ∧ (n ≠ n' → mism CE n n' H E) ∧ (n = n' → ¬ PM.Clash f g ∧ ∀ r H', H r = none → Same H H' → IsMap C H' r n (orf f g) → Q (.ref r) H')
def spCmpX (C CE : Addr) (p : List (Int × Int) → List (Int × Int) → Bool) : Sp := fun vs H Q E => ∃ a b n f n' g, vs = [.ref a, .ref b] ∧ IsMap C H a n f ∧ IsMap C H b n' g ∧ (n ≠ n' → mism CE n n' H E) ∧ (n = n' → ∀ H', Same H H' → Q (.bl (p (tab n f) (tab n g))) H')
section
variable {P : Program} {w : World} {K : PySem.W.Frag} {mg : Str → Option Value} {base : Heap}
end
end My
namespace My
open PySem L2 U StX PM
/-! ### a map as a text -/
def dI (l : List (Int × Int)) : PyData := flatD (kvI l) (l.map fun p => .int p.2)
theorem dI_eq (l : List (Int × Int)) : dI l = .dict (l.map fun p => (PyData.int p.1, PyData.int p.2)) := by
  unfold dI flatD kvI
  rw [List.map_map]
  congr 1
  induction l with
  | nil => rfl
  | cons p r ih =>
    rw [List.map_cons, List.map_cons, List.map_cons, List.zip_cons_cons, ih]
    rfl
theorem dI_sc : ∀ (l : List (Int × Int)), Paired (fun kv d => Sc kv.2 d) (kvI l) (l.map fun p => PyData.int p.2)
  | [] => .nil
  | p :: r => .cons (.int p.2) (dI_sc r)
def small (i : Int) : Prop := i.natAbs < 1000000000
theorem small_log {i : Int} (h : small i) : i.natAbs.log2 < 1920 := by
  unfold small at h
  by_cases h0 : i.natAbs = 0
  · rw [h0]; decide
  · rw [Nat.log2_lt h0]
    exact Nat.lt_of_lt_of_le h (by decide)
theorem small_len {i : Int} (h : small i) : (Str.ofString (toString i)).length ≤ 10 := by
  have := int_text_length_le10 (a := i) (k := 9) (by decide) h
  rw [ofString_length]
  omega
def rowT (p : Int × Int) : Str := PyData.shown (.int p.1) ++ ": " ++ PyData.shown (.int p.2)
theorem dI_shown (l : List (Int × Int)) : (dI l).shown = dictText (l.map rowT) := by
  rw [dI_eq]
  simp only [PyData.shown]
  congr 1
  induction l with
  | nil => rfl
  | cons p r ih =>
    rw [List.map_cons, List.map_cons]
    simp only [PyData.shownKv]
    rw [ih]
    rfl
theorem rowT_len {p : Int × Int} (h1 : small p.1) (h2 : small p.2) : (rowT p).length ≤ 22 := by
  have a := small_len h1
  have b := small_len h2
  unfold rowT
  simp only [PyData.shown]
  rw [strLen_append, strLen_append]
  show _ + 2 + _ ≤ 22
  omega
theorem sum_le {l : List Nat} {B : Nat} (h : ∀ x ∈ l, x ≤ B) : l.sum ≤ l.length * B := by
  induction l with
  | nil => exact Nat.zero_le _
  | cons a r ih =>
    rw [List.sum_cons, List.length_cons, Nat.succ_mul]
    have := ih fun x hx => h x (List.mem_cons_of_mem _ hx)
    have := h a List.mem_cons_self
    omega
theorem dI_len {l : List (Int × Int)} (h : ∀ p ∈ l, small p.1 ∧ small p.2) (hl : l.length ≤ 1000) : (dI l).shown.length ≤ 30000 := by
  rw [dI_shown]
  have h1 := dictText_len_le (l.map rowT)
  have h2 : ((l.map rowT).map (·.length)).sum ≤ ((l.map rowT).map (·.length)).length * 22 := sum_le fun x hx => by
    rw [List.map_map] at hx
    obtain ⟨p, hp, rfl⟩ := List.mem_map.mp hx
    exact rowT_len (h p hp).1 (h p hp).2
  rw [List.length_map, List.length_map] at h2
  rw [List.length_map] at h1
  omega
theorem dI_able {l : List (Int × Int)} (h : ∀ p ∈ l, small p.1 ∧ small p.2) : (dI l).showable = true := by
  rw [dI_eq]
  simp only [PyData.showable]
  induction l with
  | nil => rfl
  | cons p r ih =>
    rw [List.map_cons]
    simp only [PyData.showableKv, PyData.showable]
    have := h p List.mem_cons_self
    rw [ih fun q hq => h q (List.mem_cons_of_mem _ hq), decide_eq_true (small_log this.1), decide_eq_true (small_log this.2)]
    rfl
theorem dI_depth (l : List (Int × Int)) : (dI l).depth ≤ 60 := by
  rw [dI_eq]
  show PyData.depthKv (l.map fun p => (PyData.int p.1, PyData.int p.2)) + 1 ≤ 60
  have : PyData.depthKv (l.map fun p => (PyData.int p.1, PyData.int p.2)) = 0 := by
    induction l with
    | nil => rfl
    | cons p r ih =>
      rw [List.map_cons]
      show max (max 0 0) (PyData.depthKv (r.map fun p => (PyData.int p.1, PyData.int p.2))) = 0
      rw [ih]
      rfl
  omega
def reprM (n : Int) (l : List (Int × Int)) : Str := Str.empty ++ "Map(" ++ toString n ++ ", " ++ (dI l).shown ++ ")"
theorem tab_small {n : Int} {f : PF} (wf : WF n f) (h : n ≤ 300) : ∀ p ∈ tab n f, small p.1 ∧ small p.2 := by
  rintro ⟨x, y⟩ hp
  have := wf.dom x y ((mem_tab wf).mp hp)
  unfold small
  constructor <;> (dsimp only; omega)
def spRepr (C : Addr) : Sp := fun vs H Q _ => ∃ a n f, vs = [.ref a] ∧ IsMap C H a n f ∧ ((reprM n (tab n f)).length ≤ 40000 → Q (.str (reprM n (tab n f))) H)
section
variable {P : Program} {w : World} {K : PySem.W.Frag} {mg : Str → Option Value} {base : Heap}
/-! ### == with any value -/
def spEqV (C : Addr) : Sp := fun vs H Q _ => ∃ a y, vs = [.ref a, y] ∧ ((∃ b n f n' g, y = .ref b ∧ IsMap C H a n f ∧ IsMap C H b n' g ∧ Q (.bl (eqB n f n' g)) H) ∨ (nonMapV H y ∧ Q (.bl false) H))
end
end My
namespace My
open PySem L2 U StX PM
/-- [e for x in range(..)], each e a new object -/
theorem lc_refs {wi : TI} {i : Nat} {te : TE} {vs : List Nat} {σ : L2.St} {H0 H : Hp} {Q : VK} {n : Nat} (o : Nat → HO) (hwi : ∀ R : It → Hp → Prop, R (Itr 0 n) H → wi σ H0 R)
    (hw : ∀ a, wipe ((wipe σ vs).set i a) vs = wipe σ vs) (hn : n < sizeLine)
    (he : ∀ k : Nat, k < n → ∀ H1, L2.Same H H1 → ∀ R : VK, (∀ b H2, L2.Same H1 H2 → H1 b = none → H2 b = some (o k) → R (.ref b) H2) → te ((wipe σ vs).set i (some (.int (0 + (k : Nat))))) H1 R)
    (hq : ∀ (D : Addr) (bs : List Addr) (H' : Hp), L2.Same H H' → H D = none → H' D = some (.lst (bs.map V.ref)) → bs.length = n → (∀ (k : Nat) (b : Addr), bs[k]? = some b → H' b = some (o k) ∧ b ≠ D) → Q (.ref D) H') :
    tLc wi (gName i) tYes te vs σ H0 Q := by
  refine hwi _ fun D hD => ?_
  refine lc_it (walk_range (lo := 0)) (fun k H' => L2.Same H H' ∧ ∃ bs : List Addr, H' D = some (.lst (bs.map V.ref)) ∧ bs.length = k ∧ ∀ (j : Nat) (b : Addr), bs[j]? = some b → H' b = some (o j) ∧ b ≠ D)
    ⟨Same.new hD, [], upd_same, rfl, fun j b e => by simp at e⟩ (fun _ _ _ _ => trivial) ?_ ?_
  · rintro k v H' H'' hk ⟨s1, bs, e1, hl, hb⟩ ⟨rfl, rfl⟩
    refine ⟨hw _, yes_ ?_⟩
    refine he k hk _ s1 _ fun b H2 s2 nb eb => ?_
    have nbD : b ≠ D := fun z => by rw [z, e1] at nb; cases nb
    refine ⟨_, s2 _ _ e1, by rw [List.length_map, hl]; omega, Same.put (s1.trans s2) hD, bs ++ [b], by rw [upd_same, List.map_append]; rfl, by simp [hl], fun j b' e => ?_⟩
    by_cases hj : j < bs.length
    · rw [List.getElem?_append_left hj] at e
      have := hb j b' e
      exact ⟨by rw [upd_ne this.2]; exact s2 _ _ this.1, this.2⟩
    · have hl2 := (List.getElem?_eq_some_iff.mp e).1
      rw [List.length_append, List.length_singleton] at hl2
      have ej : j = k := by omega
      subst ej
      rw [List.getElem?_append_right (by omega), hl, Nat.sub_self] at e
      cases e
      exact ⟨by rw [upd_ne nbD]; exact eb, nbD⟩
  · rintro H' ⟨s1, bs, e1, hl, hb⟩
    exact hq D bs H' s1 hD e1 hl hb
/-- [e for x in range(..)], each e a value that stands alone -/
theorem lc_vals {wi : TI} {i : Nat} {te : TE} {vs : List Nat} {σ : L2.St} {H0 H : Hp} {Q : VK} {n : Nat} (v : Nat → V) (hwi : ∀ R : It → Hp → Prop, R (Itr 0 n) H → wi σ H0 R)
    (hw : ∀ a, wipe ((wipe σ vs).set i a) vs = wipe σ vs) (hn : n < sizeLine)
    (he : ∀ k : Nat, k < n → ∀ H1, L2.Same H H1 → ∀ R : VK, (∀ H2, L2.Same H1 H2 → R (v k) H2) → te ((wipe σ vs).set i (some (.int (0 + (k : Nat))))) H1 R)
    (hq : ∀ D H', L2.Same H H' → H D = none → H' D = some (.lst ((List.range n).map v)) → Q (.ref D) H') :
    tLc wi (gName i) tYes te vs σ H0 Q := by
  refine hwi _ fun D hD => ?_
  refine lc_it (walk_range (lo := 0)) (fun k H' => L2.Same H H' ∧ H' D = some (.lst ((List.range k).map v))) ⟨Same.new hD, upd_same⟩ (fun _ _ _ _ => trivial) ?_ ?_
  · rintro k x H' H'' hk ⟨s1, e1⟩ ⟨rfl, rfl⟩
    refine ⟨hw _, yes_ ?_⟩
    refine he k hk _ s1 _ fun H2 s2 => ?_
    refine ⟨_, s2 _ _ e1, by rw [List.length_map, List.length_range]; omega, Same.put (s1.trans s2) hD, ?_⟩
    rw [upd_same, List.range_succ, List.map_append]
    rfl
  · rintro H' ⟨s1, e1⟩
    exact hq D H' s1 hD e1
theorem nonMapV.same {H H' : Hp} {x : V} (h : nonMapV H x) (s : L2.Same H H') : nonMapV H' x := by
  cases x with
  | ref b =>
    rcases h with ⟨xs, e⟩ | ⟨xs, e⟩ | ⟨xs, e⟩
    · exact .inl ⟨_, s _ _ e⟩
    · exact .inr (.inl ⟨_, s _ _ e⟩)
    · exact .inr (.inr ⟨_, s _ _ e⟩)
  | _ => exact h
theorem dp_rep {K : PySem.W.Frag} {H : Hp} {d : PyData} : ∀ {vs : List V}, (∀ v ∈ vs, Dp K H v d) → DpAll K H vs (List.replicate vs.length d)
  | [], _ => .nil
  | v :: vs, h => .cons (h v List.mem_cons_self) (dp_rep fun u hu => h u (List.mem_cons_of_mem _ hu))
theorem rep_flat (n : Nat) (v : V) : (List.replicate n [v]).flatten = List.replicate n v := by
  induction n with
  | zero => rfl
  | succ n ih => rw [List.replicate_succ, List.flatten_cons, ih, List.replicate_succ]; rfl
end My
namespace My
open PySem L2 U StX PM
/-! ### dict([(a, b) for x, y in d.items() if ..]) -/
theorem _root_.PySem.Paired.map {α β : Type} {R S : α → β → Prop} : ∀ {xs : List α} {ys : List β}, Paired R xs ys → (∀ x ∈ xs, ∀ y, R x y → S x y) → Paired S xs ys
  | _, _, .nil, _ => .nil
  | _, _, .cons h r, k => .cons (k _ List.mem_cons_self _ h) (PySem.Paired.map r fun x hx => k x (List.mem_cons_of_mem _ hx))
theorem madeI_step {c : Int → Int → Bool} {kf vi : Int → Int → Int} {l : List (Int × Int)} {i : Nat} {x y : Int} (h : l[i]? = some (x, y)) :
    madeI c kf vi (l.take (i + 1)) = madeI c kf vi (l.take i) ++ (if c x y = true then [(kf x y, vi x y)] else []) := by
  rw [take_more h]
  unfold madeI
  rw [List.filter_append, List.map_append]
  by_cases hc : c x y = true
  · simp [hc]
  · have hc' : c x y = false := by simpa using hc
    simp [hc']
theorem lc_itemsT {K : PySem.W.Frag} {d : Addr} {l : List (Int × Int)} {te : TE} {i j : Nat} {tt : TT} {tv : TE} {vs : List Nat} {σ : L2.St} {H : Hp} {Q : VK} (c : Int → Int → Bool) (kf vi : Int → Int → Int)
    (hd : H d = some (.dK (kvI l))) (hte : ∀ H' (R : VK), R (.ref d) H' → Off d H H' → te σ H' R)
    (hw : ∀ a b, wipe (((wipe σ vs).set i a).set j b) vs = wipe σ vs)
    (hb : ∀ x y, (x, y) ∈ l → ∀ H1, Off d H H1 → Rd H1 d (.dK (kvI l)) → (∀ R : Bool → Hp → Prop, R (c x y) H1 → tt (((wipe σ vs).set i (some (.int x))).set j (some (.int y))) H1 R) ∧
      (c x y = true → ∀ R : VK, (∀ p, H1 p = none → R (.ref p) (upd H1 p (.tup [.int (kf x y), .int (vi x y)]))) → tv (((wipe σ vs).set i (some (.int x))).set j (some (.int y))) H1 R))
    (hz : l.length < sizeLine)
    (hq : ∀ (D : Addr) (ps : List Addr) (H' : Hp), H D = none → H' D = some (.lst (ps.map V.ref)) → Paired (fun p (kv : Key × V) => H' p = some (.tup [kV kv.1, kv.2])) ps (kvI (madeI c kf vi l)) → L2.Same H H' → Q (.ref D) H') :
    tLockE (tLc (iItems te) (gTup K 2 (gCons (gName i) (gCons (gName j) gNil))) tt tv vs) σ H Q := by
  refine ⟨d, _, hd, trivial, fun od => ?_⟩
  refine hte _ _ ⟨d, od, kvI l, rfl, upd_same, fun D hD => ?_⟩ Off.lock
  have hDd : D ≠ d := fun e => by rw [e, upd_same] at hD; cases hD
  have hD0 : H D = none := by rw [upd_ne hDd] at hD; exact hD
  refine lc_it walk_items (fun k H' => H' d = some (.frz od (.dK (kvI l))) ∧ Off d H H' ∧ ∃ ps : List Addr, H' D = some (.lst (ps.map V.ref)) ∧ ps.length ≤ k ∧ (∀ p ∈ ps, p ≠ D ∧ p ≠ d) ∧ Paired (fun p (kv : Key × V) => H' p = some (.tup [kV kv.1, kv.2])) ps (kvI (madeI c kf vi (l.take k)))) ⟨?_, Off.lock.mut hD0, [], upd_same, Nat.le_refl _, (fun p h => nomatch h), .nil⟩ (fun k H' _ p => p.1) ?_ ?_
  · rw [upd_ne hDd.symm]; exact upd_same
  · rintro k v H' H'' hk ⟨p1, p2, ps, p3, p4, p5, p6⟩ ⟨T, a, b, rfl, hT, rfl, e1, e2⟩
    rw [kvI_length] at hk
    obtain ⟨⟨x, y⟩, exy⟩ : ∃ p, l[k]? = some p := ⟨_, List.getElem?_eq_getElem hk⟩
    have ek : (kvI l)[k]? = some (Sum.inl x, V.int y) := by unfold kvI; rw [List.getElem?_map, exy]; rfl
    dsimp only at e1 e2
    rw [ek] at e1 e2
    cases e1; cases e2
    have nTd : d ≠ T := ne_of_none p1 hT
    have nTD : D ≠ T := ne_of_none p3 hT
    refine ⟨T, [.int x, .int y], rfl, SqT.of upd_same, rfl, .int x, [.int y], rfl, .int y, [], rfl, rfl, ?_⟩
    refine ⟨hw _ _, ?_⟩
    have o2 : Off d H (upd H' T (.tup [.int x, .int y])) := p2.tr (Off.new hT)
    obtain ⟨b1, b2⟩ := hb x y (List.mem_of_getElem? exy) _ o2 (.inr ⟨od, by rw [upd_ne nTd]; exact p1⟩)
    refine b1 _ ?_
    have d3 : (upd H' T (.tup [.int x, .int y])) d = some (.frz od (.dK (kvI l))) := by rw [upd_ne nTd]; exact p1
    have D3 : (upd H' T (.tup [.int x, .int y])) D = some (.lst (ps.map V.ref)) := by rw [upd_ne nTD]; exact p3
    have p6' : Paired (fun p (kv : Key × V) => (upd H' T (.tup [.int x, .int y])) p = some (.tup [kV kv.1, kv.2])) ps (kvI (madeI c kf vi (l.take k))) := p6.map fun p _ kv e => by
      have hne : p ≠ T := ne_of_none e hT
      rw [upd_ne hne]; exact e
    have st := madeI_step (c := c) (kf := kf) (vi := vi) exy
    cases hc : c x y with
    | true =>
      rw [hc, if_pos rfl] at st
      refine iteT (b2 hc _ fun p hp => ⟨_, by rw [upd_ne (ne_of_none D3 hp)]; exact D3, by rw [List.length_map]; omega, ?_⟩)
      have hpD : p ≠ D := (ne_of_none D3 hp).symm
      have hpd : p ≠ d := (ne_of_none d3 hp).symm
      refine ⟨?_, (o2.tr (Off.new hp)).mut hD0, ps ++ [p], ?_, ?_, ?_, ?_⟩
      · rw [upd_ne hDd.symm, upd_ne hpd.symm]; exact d3
      · rw [upd_same, List.map_append]; rfl
      · rw [List.length_append, List.length_singleton]; omega
      · intro q hq
        rcases List.mem_append.mp hq with h | h
        · exact p5 q h
        · rw [List.mem_singleton] at h
          subst h
          exact ⟨hpD, hpd⟩
      · rw [st, show kvI (madeI c kf vi (l.take k) ++ [(kf x y, vi x y)]) = kvI (madeI c kf vi (l.take k)) ++ [(Sum.inl (kf x y), V.int (vi x y))] from by unfold kvI; rw [List.map_append]; rfl]
        refine PySem.Paired.snoc (p6'.map fun q hq kv e => ?_) ?_
        · have hqp : q ≠ p := ne_of_none e hp
          rw [upd_ne (p5 q hq).1, upd_ne hqp]; exact e
        · rw [upd_ne hpD]; exact upd_same
    | false =>
      rw [hc, if_neg Bool.false_ne_true, List.append_nil] at st
      refine iteF ⟨d3, o2, ps, D3, by omega, p5, ?_⟩
      rw [st]
      exact p6'
  · rintro H' ⟨p1, p2, ps, p3, p4, p5, p6⟩
    rw [kvI_length, List.take_length] at p6
    refine ⟨p1, hq D ps _ hD0 ?_ (p6.map fun q hq kv e => ?_) (p2.back hd)⟩
    · rw [upd_ne hDd]
      exact p3
    · rw [upd_ne (p5 q hq).2]; exact e
theorem dict_of {m : List (Int × Int)} {g : PF} (di : DI m g) : ∃ l, mergeK [] (kvI m) = kvI l ∧ l.length ≤ m.length ∧ DI l g := by
  obtain ⟨l', e', n', d', k'⟩ := merge_lk m [] di.nd
  refine ⟨l', e', by simpa using n', d' (by simp), fun z => ?_⟩
  rw [k', ← di.at_]
  cases lk m z <;> rfl
/-- dict(..) of such a list -/
theorem dictP_of {K : PySem.W.Frag} {H : Hp} {D : Addr} {ps : List Addr} {m : List (Int × Int)} {Q : VK} {g : PF} (hD : H D = some (.lst (ps.map V.ref))) (hp : Paired (fun p (kv : Key × V) => H p = some (.tup [kV kv.1, kv.2])) ps (kvI m)) (di : DI m g)
    (hq : ∀ p l, H p = none → l.length ≤ m.length → DI l g → Q (.ref p) (upd H p (.dK (kvI l)))) :
    ∃ (a : Addr) (ps : List Addr) (kvs : List (Key × V)), [V.ref D] = [.ref a] ∧ SqL K H a (ps.map V.ref) ∧ Paired (fun p kv => SqT K H p [kV kv.1, kv.2]) ps kvs ∧ ∀ p, H p = none → Q (.ref p) (upd H p (.dK (mergeK [] kvs))) := by
  refine ⟨D, ps, _, rfl, SqL.of hD, hp.map fun p _ kv e => SqT.of e, fun p np => ?_⟩
  obtain ⟨l', e', n', d', k'⟩ := merge_lk m [] di.nd
  have e2 : mergeK [] (kvI m) = kvI l' := e'
  rw [e2]
  refine hq p l' np (by simpa using n') ⟨d' (by simp), fun z => ?_⟩
  rw [k', ← di.at_]
  cases lk m z <;> rfl
section
variable {P : Program} {w : World} {K : PySem.W.Frag} {mg : Str → Option Value} {base : Heap}
def spTimes : Sp := fun vs H Q _ => ∃ (d1 d2 : Addr) (l1 l2 : List (Int × Int)) (n : Int) (f g : PF), vs = [.ref d1, .ref d2] ∧ H d1 = some (.dK (kvI l1)) ∧ H d2 = some (.dK (kvI l2)) ∧ DI l1 f ∧ DI l2 g ∧ WF n f ∧ WF n g ∧ l1.length ≤ 1000 ∧
  ∀ p l H', Same H H' → H p = none → H' p = some (.dK (kvI l)) → DI l (mul f g) → l.length ≤ l1.length → Q (.ref p) H'
theorem mul_diL {l1 : List (Int × Int)} {f g : PF} (d1 : DI l1 f) : DI (madeI (fun _ y => (g y).isSome) (fun x _ => x) (fun _ y => (g y).getD 0) l1) (mul f g) := by
  refine di_of (nd_src d1.nd) fun a b => ?_
  rw [mem_madeI, mul_iff]
  constructor
  · rintro ⟨x, y, h1, h2, rfl, rfl⟩
    refine ⟨y, d1.mem.mp h1, ?_⟩
    cases hg : g y with
    | none => rw [hg] at h2; cases h2
    | some z => rfl
  · rintro ⟨y, h1, h2⟩
    exact ⟨a, y, d1.mem.mpr h1, by rw [h2]; rfl, rfl, by rw [h2]; rfl⟩
def spBack : Sp := fun vs H Q _ => ∃ (d : Addr) (l1 : List (Int × Int)) (n : Int) (f : PF), vs = [.ref d] ∧ H d = some (.dK (kvI l1)) ∧ DI l1 f ∧ WF n f ∧ l1.length ≤ 1000 ∧
  ∀ p l H', Same H H' → H p = none → H' p = some (.dK (kvI l)) → DI l (inv n f) → l.length ≤ l1.length → Q (.ref p) H'
theorem back_diL {n : Int} {l1 : List (Int × Int)} {f : PF} (wf : WF n f) (d1 : DI l1 f) : DI (madeI (fun _ _ => true) (fun _ y => y) (fun x _ => x) l1) (inv n f) := by
  refine di_of (nd_tgt (d1.vals wf)) fun a b => ?_
  rw [mem_madeI, inv_iff wf]
  constructor
  · rintro ⟨x, y, h1, _, rfl, rfl⟩
    exact d1.mem.mp h1
  · intro h
    exact ⟨b, a, d1.mem.mpr h, rfl, rfl, rfl⟩
end
end My
namespace My
open PySem L2 U StX PM
theorem pw_pk (n : Int) (f : PF) (k : Nat) : pw n f (k : Int) = pk n f k := by
  unfold pw
  cases k with
  | zero => rw [if_pos (by simp)]; rfl
  | succ k =>
    rw [if_neg (by omega), if_neg (by omega)]
    show iter f ((k + 1 : Nat) : Int).natAbs = iter f (k + 1)
    rw [show ((k + 1 : Nat) : Int).natAbs = k + 1 by omega]
theorem pw_neg {n : Int} {f : PF} (e : Int) (h : 0 ≤ e) : pw n f (-e) = pw n (inv n f) e := by
  unfold pw
  by_cases h0 : e = 0
  · rw [if_pos (by omega), if_pos h0]
  · rw [if_neg (by omega), if_pos (by omega), if_neg h0, if_neg (by omega), Int.natAbs_neg]
theorem pw_inv {n : Int} {f : PF} (w : WF n f) (e : Int) (h : 0 ≤ e) : pw n (inv n f) (-e) = pw n f e := by
  rw [pw_neg e h, inv_inv' w]
def spPowX (C CE : Addr) : Sp := fun vs H Q E => ∃ a n f x, vs = [.ref a, x] ∧ IsMap C H a n f ∧ ((∃ e, x = .int e ∧ ∀ r H', H r = none → Same H H' → IsMap C H' r n (pw n f e) → Q (.ref r) H') ∨
  (knownV C H x ∧ isI x = false ∧ ∀ d, H d = none → E (.ref CE) (some d) (upd H d (.xd [("value", x)]))))
section
variable {P : Program} {w : World} {K : PySem.W.Frag} {mg : Str → Option Value} {base : Heap}
theorem ok_ini_InvalidNumber (T : Txt K mg) : FnR P w K mg base CX0 1 T.f_InvalidNumber__init (spIni1 T.C_InvalidNumber "value") := by
  refine T.A_InvalidNumber__init.ok sc_InvalidNumber__init (fun vs H Q E h => ?_) (fun cdv A outer s H vs Q E hr h => ?_)
  · obtain ⟨a, v, rfl, _⟩ := h
    rfl
  · obtain ⟨a, v, rfl, ha, q⟩ := h
    refine ⟨_, pss_one (ps_ostG (pv 0) (pv 1)), ?_⟩
    exact ⟨_, rfl, _, rfl, a, T.C_InvalidNumber, rfl, T.x_InvalidNumber, T.na_value_InvalidNumber, .inl ⟨ha, fun dx h1 h2 => q dx h1 h2⟩⟩
/-! ### repr while an exception is handled -/
/-! ### what repr says of a value -/
def Rp (K : PySem.W.Frag) (C : Addr) (H : Hp) (x : V) (z : Str) : Prop := (∃ d, Dp K H x d ∧ d.showable = true ∧ d.hasDict = false ∧ d.depth ≤ 60 ∧ d.shown.length ≤ sizeLine ∧ z = d.shown) ∨ ∃ b n f, x = .ref b ∧ IsMap C H b n f ∧ z = reprM n (tab n f)
theorem rp_call {C : Addr} {H : Hp} {x : V} {z : Str} {Q : VK} {E : XK} (h : Rp K C H x z) (q : Q (.str z) H) : rRepr K [x] H Q ∨ rReprO C (spRepr C) E [x] H Q := by
  rcases h with ⟨d, h1, h2, h3, h4, h5, rfl⟩ | ⟨b, n, f, rfl, hm, rfl⟩
  · exact .inl ⟨x, d, rfl, h1, h2, h3, h4, h5, q⟩
  · obtain ⟨dx, fs, e⟩ := at_map hm
    exact .inr ⟨b, dx, fs, rfl, e, b, n, f, rfl, hm, fun _ => ⟨_, rfl, q⟩⟩
end
end My
namespace My
open PySem L2 U StX PM
/-- [(a, b) for x in range(n)] -/
theorem lc_rangeT {wi : TI} {i : Nat} {tv : TE} {vs : List Nat} {σ : L2.St} {H0 H : Hp} {Q : VK} {n : Nat} (kf vi : Nat → Int) (hwi : ∀ R : It → Hp → Prop, R (Itr 0 n) H → wi σ H0 R)
    (hw : ∀ a, wipe ((wipe σ vs).set i a) vs = wipe σ vs) (hn : n < sizeLine)
    (hb : ∀ k : Nat, k < n → ∀ H1, L2.Same H H1 → ∀ R : VK, (∀ p, H1 p = none → R (.ref p) (upd H1 p (.tup [.int (kf k), .int (vi k)]))) → tv ((wipe σ vs).set i (some (.int (0 + (k : Nat))))) H1 R)
    (hq : ∀ (D : Addr) (ps : List Addr) (H' : Hp), H D = none → H' D = some (.lst (ps.map V.ref)) → Paired (fun p (kv : Key × V) => H' p = some (.tup [kV kv.1, kv.2])) ps (kvI ((List.range n).map fun k => (kf k, vi k))) → L2.Same H H' → Q (.ref D) H') :
    tLc wi (gName i) tYes tv vs σ H0 Q := by
  refine hwi _ fun D hD => ?_
  refine lc_it (walk_range (lo := 0)) (fun k H' => L2.Same H H' ∧ ∃ ps : List Addr, H' D = some (.lst (ps.map V.ref)) ∧ ps.length = k ∧ (∀ p ∈ ps, p ≠ D) ∧ Paired (fun p (kv : Key × V) => H' p = some (.tup [kV kv.1, kv.2])) ps (kvI ((List.range k).map fun k => (kf k, vi k))))
    ⟨Same.new hD, [], upd_same, rfl, (fun p h => nomatch h), .nil⟩ (fun _ _ _ _ => trivial) ?_ ?_
  · rintro k v H' H'' hk ⟨s1, ps, e1, hl, hne, hp⟩ ⟨rfl, rfl⟩
    refine ⟨hw _, yes_ ?_⟩
    refine hb k hk _ s1 _ fun p np => ?_
    have hpD : p ≠ D := (ne_of_none e1 np).symm
    refine ⟨_, by rw [upd_ne hpD.symm]; exact e1, by rw [List.length_map, hl]; omega, Same.put (s1.trans (Same.new np)) hD, ps ++ [p], by rw [upd_same, List.map_append]; rfl, by simp [hl], fun q hq' => ?_, ?_⟩
    · rcases List.mem_append.mp hq' with h | h
      · exact hne q h
      · rw [List.mem_singleton] at h; subst h; exact hpD
    · rw [List.range_succ, List.map_append, show kvI ((List.range k).map (fun k => (kf k, vi k)) ++ [k].map fun k => (kf k, vi k)) = kvI ((List.range k).map fun k => (kf k, vi k)) ++ [(Sum.inl (kf k), V.int (vi k))] from by unfold kvI; rw [List.map_append]; rfl]
      refine PySem.Paired.snoc (hp.map fun q hq' kv e => ?_) ?_
      · rw [upd_ne (hne q hq'), upd_ne (ne_of_none e np)]; exact e
      · rw [upd_ne hpD]; exact upd_same
  · rintro H' ⟨s1, ps, e1, hl, hne, hp⟩
    exact hq D ps H' hD e1 hp s1
theorem id_di (n : Nat) : DI ((List.range n).map fun k => (((k : Nat) : Int), ((k : Nat) : Int))) (idn (n : Int)) := by
  refine di_of ?_ fun x y => ?_
  · rw [List.map_map]
    have := nodup_of_lt (rgI_lt n)
    exact this
  · rw [idn_iff]
    constructor
    · intro h
      obtain ⟨k, hk, e⟩ := List.mem_map.mp h
      rw [List.mem_range] at hk
      cases e
      omega
    · rintro ⟨rfl, h1, h2⟩
      exact List.mem_map.mpr ⟨x.toNat, List.mem_range.mpr (by omega), by simp; omega⟩
def spLPow : Sp := fun vs H Q _ => ∃ (d : Addr) (l : List (Int × Int)) (n : Int) (f : PF) (e : Int), vs = [.ref d, .int n, .int e] ∧ H d = some (.dK (kvI l)) ∧ DI l f ∧ WF n f ∧ 1 ≤ n ∧ n ≤ 300 ∧ 0 ≤ e ∧ e ≤ 100000 ∧
  ∀ p l' H', Same H H' → H p = none → H' p = some (.dK (kvI l')) → DI l' (pk n f e.toNat) → l'.length ≤ 300 → Q (.ref p) H'
section
variable {P : Program} {w : World} {K : PySem.W.Frag} {mg : Str → Option Value} {base : Heap}
end
end My
namespace My
open PySem L2 U StX PM
/-! ### texts of plain signs -/
def OkS (x : Str) : Prop := PyData.strOk x = true
theorem OkS.app {x y : Str} (hx : OkS x) (hy : OkS y) : OkS (x ++ y) := by
  unfold OkS PyData.strOk at *
  rw [Str.cps_append, Array.all_append, hx, hy]
  rfl
theorem okS_of (s : String) : OkS (Str.ofString s) := by
  unfold OkS PyData.strOk
  rw [Str.ofString_eq_toList, Array.all_eq_true]
  intro i hi
  simp only [List.getElem_toArray, List.getElem_map, decide_eq_true_eq]
  have := (s.toList[i]'(by simpa using hi)).valid
  rcases this with h | h
  · exact Nat.lt_trans h (by decide)
  · exact h.2
theorem okS_join (sep : Str) (hs : OkS sep) : ∀ (ts : List Str), (∀ t ∈ ts, OkS t) → OkS (Str.join sep ts)
  | [], _ => (by unfold OkS; decide +kernel : OkS Str.empty)
  | [x], h => h x List.mem_cons_self
  | x :: y :: r, h => by
    show OkS (x ++ sep ++ Str.join sep (y :: r))
    exact ((h x List.mem_cons_self).app hs).app (okS_join sep hs (y :: r) fun t ht => h t (List.mem_cons_of_mem _ ht))
theorem okS_dI (l : List (Int × Int)) : OkS (dI l).shown := by
  rw [dI_shown]
  unfold dictText
  refine ((okS_of _).app (okS_join _ (okS_of _) _ fun t ht => ?_)).app (okS_of _)
  obtain ⟨p, _, rfl⟩ := List.mem_map.mp ht
  unfold rowT
  simp only [PyData.shown]
  exact ((okS_of _).app (okS_of _)).app (okS_of _)
theorem okS_reprM (n : Int) (l : List (Int × Int)) : OkS (reprM n l) := by
  unfold reprM
  have e : OkS Str.empty := by unfold OkS; decide +kernel
  exact (((((e.app (okS_of _)).app (okS_of _)).app (okS_of _)).app (okS_dI l))).app (okS_of _)
end My
local macro_rules | `(tactic| array_get_dec) => `(tactic| first | assumption | exact L2.upd_same | (refine U.carryNew (by assumption) ?_; array_get_dec) | (refine U.carry (by assumption) ?_; array_get_dec))
local macro_rules | `(tactic| array_mem_dec) => `(tactic| first | exact L2.Same.refl _ | assumption | (refine U.sameUp (by assumption) ?_; array_mem_dec) | (refine U.sameVia (by assumption) ?_; array_mem_dec))
local macro_rules | `(tactic| sizeOf_list_dec) => `(tactic| first | assumption | (refine U.freeVia (by assumption) ?_; sizeOf_list_dec) | (refine U.freeUp (o := _) (q := _) ?_; assumption))
local macro_rules | `(tactic| deriving_LawfulEq_tactic_step) => `(tactic| first | exact rfl | exact U.nil_le | exact U.one_le | exact U.two_le | exact U.three_le | exact L2.SqL.of (by array_get_dec) | exact L2.SqT.of (by array_get_dec) | exact ⟨_, L2.SqL.of (by array_get_dec)⟩ | exact ⟨_, L2.SqT.of (by array_get_dec)⟩ | exact Or.inl (by array_get_dec) | array_get_dec)
local macro_rules | `(tactic| and_intros) => `(tactic| repeat (first | refine And.intro (by deriving_LawfulEq_tactic_step) ?_ | (apply Exists.intro; refine And.intro (by deriving_LawfulEq_tactic_step) ?_) | (apply Exists.intro; apply Exists.intro; refine And.intro (by deriving_LawfulEq_tactic_step) ?_) | (apply Exists.intro; apply Exists.intro; apply Exists.intro; refine And.intro (by deriving_LawfulEq_tactic_step) ?_) | (apply Exists.intro; apply Exists.intro; apply Exists.intro; apply Exists.intro; refine And.intro (by deriving_LawfulEq_tactic_step) ?_)))
namespace My
open PySem L2 U StX PM
/-! ### great maps -/
def isLsG (H : Hp) : V → Prop | .ref a => ∃ xs, H a = some (.lst xs) | _ => False
def isTpG (H : Hp) : V → Prop | .ref a => ∃ xs, H a = some (.tup xs) | _ => False
def big30 : Int := 1000000000000000000000000000000
def lenOk (xs : List V) : Bool := decide (xs.length ≤ 100) && xs.all fun y => inR y 1 big30
def gflds (D1 D2 : Addr) : List (Str × V) := putF "own_chains" (.ref D2) (putF "own_cycles" (.ref D1) [])
theorem ne_gfld : ¬ (("own_cycles" : Str) = "own_chains") := by decide +kernel
theorem gflds_cy (D1 D2 : Addr) : (gflds D1 D2).lookup ("own_cycles" : Str) = some (.ref D1) := by
  unfold gflds
  rw [lookup_putF, if_neg ne_gfld, lookup_putF, if_pos rfl]
theorem gflds_ch (D1 D2 : Addr) : (gflds D1 D2).lookup ("own_chains" : Str) = some (.ref D2) := by
  unfold gflds
  rw [lookup_putF, if_pos rfl]
theorem gflds_no (D1 D2 : Addr) {m : Str} (h1 : ¬ m = "own_chains") (h2 : ¬ m = "own_cycles") : (gflds D1 D2).lookup m = none := by
  unfold gflds
  rw [lookup_putF, if_neg h1, lookup_putF, if_neg h2]
  all_goals rfl
structure IsGreat (C : Addr) (H : Hp) (g : Addr) (cy ch : List Int) : Prop where
  ob : ∃ dx D1 D2, H g = some (.ins C dx (gflds D1 D2)) ∧ H D1 = some (.lst (cy.map V.int)) ∧ H D2 = some (.lst (ch.map V.int))
  l1 : cy.length ≤ 100
  l2 : ch.length ≤ 100
theorem IsGreat.same {C : Addr} {H H' : Hp} {g : Addr} {cy ch : List Int} (h : IsGreat C H g cy ch) (s : Same H H') : IsGreat C H' g cy ch := by
  obtain ⟨⟨dx, D1, D2, e1, e2, e3⟩, l1, l2⟩ := h
  exact ⟨⟨dx, D1, D2, s _ _ e1, s _ _ e2, s _ _ e3⟩, l1, l2⟩
/-- what are_lengths says -/
def LenV (C : Addr) (H : Hp) (x : V) (b : Bool) : Prop := knownV C H x ∧ ((¬ isLsG H x ∧ b = false) ∨ ∃ a xs, x = .ref a ∧ H a = some (.lst xs) ∧ (∀ y ∈ xs, knownV C H y) ∧ xs.length ≤ 1000 ∧ b = lenOk xs)
theorem knownG.same {C : Addr} {H H' : Hp} {x : V} (h : knownV C H x) (s : Same H H') : knownV C H' x := by
  cases x with
  | ref a =>
    rcases h with ⟨xs, e⟩ | ⟨xs, e⟩ | ⟨xs, e⟩ | ⟨dx, fs, e⟩
    · exact .inl ⟨_, s _ _ e⟩
    · exact .inr (.inl ⟨_, s _ _ e⟩)
    · exact .inr (.inr (.inl ⟨_, s _ _ e⟩))
    · exact .inr (.inr (.inr ⟨_, _, s _ _ e⟩))
  | _ => exact h
theorem notLs_same {C : Addr} {H H' : Hp} {x : V} (hk : knownV C H x) (s : Same H H') (hn : ¬ isLsG H x) : ¬ isLsG H' x := by
  cases x with
  | ref a =>
    rcases hk with ⟨ys, e1⟩ | ⟨ys, e1⟩ | ⟨ys, e1⟩ | ⟨dx, fs, e1⟩
    · exact absurd ⟨ys, e1⟩ hn
    · rintro ⟨zs, e2⟩; rw [s _ _ e1] at e2; cases e2
    · rintro ⟨zs, e2⟩; rw [s _ _ e1] at e2; cases e2
    · rintro ⟨zs, e2⟩; rw [s _ _ e1] at e2; cases e2
  | _ => exact id
theorem LenV.same {C : Addr} {H H' : Hp} {x : V} {b : Bool} (h : LenV C H x b) (s : Same H H') : LenV C H' x b := by
  obtain ⟨hk, h⟩ := h
  refine ⟨knownG.same hk s, ?_⟩
  rcases h with ⟨hn, e⟩ | ⟨a, xs, rfl, ha, hy, hl, e⟩
  · exact .inl ⟨notLs_same hk s hn, e⟩
  · exact .inr ⟨a, xs, rfl, s _ _ ha, fun y h => knownG.same (hy y h) s, hl, e⟩
theorem ints_of {xs : List V} (h : (xs.all fun y => inR y 1 big30) = true) : ∃ ns : List Int, xs = ns.map V.int ∧ ∀ n ∈ ns, 1 ≤ n ∧ n ≤ big30 := by
  induction xs with
  | nil => exact ⟨[], rfl, fun n h => nomatch h⟩
  | cons x r ih =>
    rw [List.all_cons, Bool.and_eq_true] at h
    obtain ⟨ns, e, hn⟩ := ih h.2
    cases x with
    | int i =>
      have h1 := h.1
      simp only [inR, Bool.and_eq_true, decide_eq_true_eq] at h1
      exact ⟨i :: ns, by rw [e]; rfl, fun n hm => by rcases List.mem_cons.mp hm with rfl | hm; exact h1; exact hn n hm⟩
    | _ => exact absurd h.1 Bool.false_ne_true
section
variable {P : Program} {w : World} {K : PySem.W.Frag} {mg : Str → Option Value} {base : Heap}
theorem tyG (T : Txt K mg) {H : Hp} {x : V} (h : knownV T.C_GreatMap H x) : ∃ t, TyX K H x t ∧ (∃ b, PySem.W.kitOne K t (.type "list") = some b ∧ (b = true ↔ isLsG H x)) ∧ ∃ b, PySem.W.kitOne K t (.type "tuple") = some b ∧ (b = true ↔ isTpG H x) := by
  cases x with
  | non => exact ⟨_, .base .non, ⟨false, kit_ty (r := false) (by decide +kernel), by simp [isLsG]⟩, false, kit_ty (r := false) (by decide +kernel), by simp [isTpG]⟩
  | bl b => exact ⟨_, .base (.bl b), ⟨false, kit_ty (r := false) (by decide +kernel), by simp [isLsG]⟩, false, kit_ty (r := false) (by decide +kernel), by simp [isTpG]⟩
  | int i => exact ⟨_, .base (.int i), ⟨false, kit_ty (r := false) (by decide +kernel), by simp [isLsG]⟩, false, kit_ty (r := false) (by decide +kernel), by simp [isTpG]⟩
  | str z => exact ⟨_, .base (.str z), ⟨false, kit_ty (r := false) (by decide +kernel), by simp [isLsG]⟩, false, kit_ty (r := false) (by decide +kernel), by simp [isTpG]⟩
  | ref a =>
    rcases h with ⟨xs, e⟩ | ⟨xs, e⟩ | ⟨xs, e⟩ | ⟨dx, fs, e⟩
    · exact ⟨_, .base (.lst e), ⟨true, kit_ty (r := true) (by decide +kernel), by simp [isLsG, e]⟩, false, kit_ty (r := false) (by decide +kernel), by simp [isTpG, e]⟩
    · exact ⟨_, .base (.tup e), ⟨false, kit_ty (r := false) (by decide +kernel), by simp [isLsG, e]⟩, true, kit_ty (r := true) (by decide +kernel), by simp [isTpG, e]⟩
    · exact ⟨_, .base (.dK e), ⟨false, kit_ty (r := false) (by decide +kernel), by simp [isLsG, e]⟩, false, kit_ty (r := false) (by decide +kernel), by simp [isTpG, e]⟩
    · exact ⟨_, tyx_ins T.o_GreatMap e, ⟨false, T.kit_list_GreatMap, by simp [isLsG, e]⟩, false, T.kit_tuple_GreatMap, by simp [isTpG, e]⟩
  | byt b => exact h.elim
  | flt b => exact h.elim
  | ty b => exact h.elim
def spAL (C : Addr) : Sp := fun vs H Q _ => ∃ x b, vs = [x] ∧ LenV C H x b ∧ ∀ H', Same H H' → Q (.bl b) H'
theorem ok_are_lengths (T : Txt K mg) : FnR P w K mg base CX0 3 T.f_are_lengths (spAL T.C_GreatMap) := by
  refine T.A_are_lengths.ok sc_are_lengths (fun vs H Q E h => ?_) (fun cdv A outer s H vs Q E hr h => ?_)
  · obtain ⟨x, b, rfl, _⟩ := h
    rfl
  · obtain ⟨x, b, rfl, ⟨hk, h⟩, q⟩ := h
    obtain ⟨_, h_MAX_PARTS⟩ := T.v_MAX_PARTS
    obtain ⟨_, h_MAX_NUMBER⟩ := T.v_MAX_NUMBER
    refine ⟨_, (pss_cons (ps_if (PW.pt (pw_or (pt_not (pt_val (pe_callB call_isi (by rfl) T.n_isinstance (by decide +kernel) (pa_cons (pv 0) (pa_cons (pe_bltn (v := .ty "list") (u := .type "list") (by rfl) T.n_list (by decide +kernel) rfl) pa_nil))))) (pw_or1 (pt_cmpR op_gt (pe_callB call_len_seq (by rfl) T.n_len (by decide +kernel) (pa_cons (pv 0) pa_nil)) (pe_glob (v := .int 100) rfl h_MAX_PARTS ⟨_, rfl⟩) (nomark _)))))
        (pss_one (ps_ret pe_bl)) pss_nil)
      (pss_one (ps_ret (pe_callB (cr_all rfl) (by rfl) T.n_all (by decide +kernel) (pa_cons (pe_lc (own := [("length", 1)]) (g := (gName 1)) (tt := tYes) rfl sc_are_lengths.nd (pi_list (pv 0)) (blkOk_by (own := [("length", 1)]) (N := n_are_lengths) (sc := defScope s_are_lengths) (by decide +kernel)) (fun _ _ _ _ _ => (pg_name (i := 1) sc_are_lengths.nd rfl (Or.inl rfl))) (fun _ _ _ _ _ => pts_nil) (fun _ _ _ _ _ => (pe_callR (ok_in_range T) (hr.mono (by decide)) T.A_in_range.kp rfl T.g_in_range pass0 (pa_cons (pv 1) (pa_cons pe_int (pa_cons (pe_glob (v := .int 1000000000000000000000000000000) rfl h_MAX_NUMBER ⟨_, rfl⟩) pa_nil)))))) pa_nil))))), ?_⟩
    obtain ⟨t, ht, ⟨b1, hb1, hbi⟩, _⟩ := tyG T hk
    rcases h with ⟨hn, rfl⟩ | ⟨a, xs, rfl, ha, hy, hl, rfl⟩
    · have : b1 = false := by
        cases b1 with
        | false => rfl
        | true => exact absurd (hbi.mp rfl) hn
      subst this
      exact ⟨_, rfl, x, _, t, _, _, rfl, .ty _, ht, hb1, _, rfl, iteT (iteT (q H (Same.refl _)))⟩
    · have : b1 = true := hbi.mpr ⟨xs, ha⟩
      subst this
      refine ⟨_, rfl, _, _, t, _, _, rfl, .ty _, ht, hb1, _, rfl, iteF ?_⟩
      refine ⟨_, rfl, a, _, rfl, .inl (SqL.of ha), _, _, rfl, rfl, _, rfl, ?_⟩
      unfold lenOk at q
      refine ifD (fun h => ?_) (fun h => ?_)
      · rw [decide_eq_false (by omega), Bool.false_and] at q
        exact q H (Same.refl _)
      · rw [decide_eq_true (by omega), Bool.true_and] at q
        dsimp only [tNext, tRet, tCB, tCons]
        refine lc_lst (xs := xs) (fun y => y) (fun y => [some (.ref a), some y]) (fun _ => true) (fun y => .bl (inR y 1 big30)) (fun R r => ⟨_, rfl, r⟩) (by rw [List.map_id']; exact ha) (fun y hy' H1 s1 R r => r) (fun y _ => rfl) (fun y hy' H1 s1 => ⟨fun R r => r, fun _ R r => ⟨_, rfl, y, 1, big30, rfl, knownG.same (hy y hy') s1, r⟩⟩) (lt_line (by omega)) (fun D H1 nD hD s1 => ?_)
        rw [List.filter_eq_self.mpr (fun _ _ => rfl)] at hD
        refine ⟨D, xs.map fun y => inR y 1 big30, rfl, SqL.of (by rw [List.map_map]; exact hD), ?_⟩
        have := q H1 s1
        rw [show ((xs.map fun y => inR y 1 big30).all id) = (xs.all fun y => inR y 1 big30) by rw [List.all_map]; rfl]
        exact this
/-- GreatMap(cycles, chains) -/
def spGI (C CE : Addr) : Sp := fun vs H Q E => ∃ (p dx : Addr) (x y : V) (b1 b2 : Bool), vs = [.ref p, x, y] ∧ H p = some (.ins C dx []) ∧ LenV C H x b1 ∧
  ((b1 = false ∧ ∀ H', Same H H' → ∀ d, H' d = none → E (.ref CE) (some d) (upd H' d (.xd [("part", .str "cycles")]))) ∨
   (b1 = true ∧ LenV C H y b2 ∧ ((b2 = false ∧ ∀ H', Same H H' → ∀ d, H' d = none → E (.ref CE) (some d) (upd H' d (.xd [("part", .str "chains")]))) ∨
     (b2 = true ∧ ∀ (cy ch : List Int) (a b : Addr) (H' : Hp) (D1 D2 : Addr), x = .ref a → y = .ref b → H a = some (.lst (cy.map V.int)) → H b = some (.lst (ch.map V.int)) → (∀ n ∈ cy, 1 ≤ n ∧ n ≤ big30) → cy.length ≤ 100 → ch.length ≤ 100 → Off p H H' → H D1 = none → H D2 = none → H' p = some (.ins C dx (gflds D1 D2)) → H' D1 = some (.lst (cy.map V.int)) → H' D2 = some (.lst (ch.map V.int)) → Q .non H'))))
theorem ok_ini_InvalidShape (T : Txt K mg) : FnR P w K mg base CX0 1 T.f_InvalidShape__init (spIni1 T.C_InvalidShape "part") := by
  refine T.A_InvalidShape__init.ok sc_InvalidShape__init (fun vs H Q E h => ?_) (fun cdv A outer s H vs Q E hr h => ?_)
  · obtain ⟨a, v, rfl, _⟩ := h
    rfl
  · obtain ⟨a, v, rfl, ha, q⟩ := h
    refine ⟨_, pss_one (ps_ostG (pv 0) (pv 1)), ?_⟩
    exact ⟨_, rfl, _, rfl, a, T.C_InvalidShape, rfl, T.x_InvalidShape, T.na_part_InvalidShape, .inl ⟨ha, fun dx h1 h2 => q dx h1 h2⟩⟩
theorem ok_ini_InvalidElement (T : Txt K mg) : FnR P w K mg base CX0 1 T.f_InvalidElement__init (spIni1 T.C_InvalidElement "value") := by
  refine T.A_InvalidElement__init.ok sc_InvalidElement__init (fun vs H Q E h => ?_) (fun cdv A outer s H vs Q E hr h => ?_)
  · obtain ⟨a, v, rfl, _⟩ := h
    rfl
  · obtain ⟨a, v, rfl, ha, q⟩ := h
    refine ⟨_, pss_one (ps_ostG (pv 0) (pv 1)), ?_⟩
    exact ⟨_, rfl, _, rfl, a, T.C_InvalidElement, rfl, T.x_InvalidElement, T.na_value_InvalidElement, .inl ⟨ha, fun dx h1 h2 => q dx h1 h2⟩⟩
theorem lenOk_ints {C : Addr} {H : Hp} {x : V} (h : LenV C H x true) : ∃ (a : Addr) (ns : List Int), x = .ref a ∧ H a = some (.lst (ns.map V.int)) ∧ ns.length ≤ 100 ∧ ∀ n ∈ ns, 1 ≤ n ∧ n ≤ big30 := by
  obtain ⟨_, h⟩ := h
  rcases h with ⟨_, h⟩ | ⟨a, xs, rfl, ha, _, _, h⟩
  · cases h
  · unfold lenOk at h
    have h := h.symm
    rw [Bool.and_eq_true, decide_eq_true_eq] at h
    obtain ⟨ns, rfl, hn⟩ := ints_of h.2
    exact ⟨a, ns, rfl, ha, by simpa using h.1, hn⟩
theorem okX_ginit (T : Txt K mg) : FnR P w K mg base (L2.CX P w) 5 T.f_GreatMap__init (spGI T.C_GreatMap T.C_InvalidShape) := by
  refine T.A_GreatMap__init.okX sc_GreatMap__init (fun vs H Q E h => ?_) (fun cdv A outer s H vs Q E hr h => ?_)
  · obtain ⟨p, dx, x, y, b1, b2, rfl, _⟩ := h
    rfl
  · obtain ⟨p, dx, x, y, b1, b2, rfl, hp, h1, h⟩ := h
    refine ⟨_, (pss_cons (ps_if (pt_not (pt_val (pe_callR (ok_are_lengths T) (hr.mono (by decide)) T.A_are_lengths.kp rfl T.g_are_lengths pass0 (pa_cons (pv 1) pa_nil))))
        (pss_one (ps_raise rfl (takes_of rfl rfl rfl rfl) (pmk_oexG T.x_InvalidShape T.m_InvalidShape__init T.ti_InvalidShape__init (ok_ini_InvalidShape T) (hr.mono (by decide)) pass0 rfl T.g_InvalidShape (pa_cons pe_str pa_nil)))) pss_nil)
      (pss_cons (ps_if (pt_not (pt_val (pe_callR (ok_are_lengths T) (hr.mono (by decide)) T.A_are_lengths.kp rfl T.g_are_lengths pass0 (pa_cons (pv 2) pa_nil))))
        (pss_one (ps_raise rfl (takes_of rfl rfl rfl rfl) (pmk_oexG T.x_InvalidShape T.m_InvalidShape__init T.ti_InvalidShape__init (ok_ini_InvalidShape T) (hr.mono (by decide)) pass0 rfl T.g_InvalidShape (pa_cons pe_str pa_nil)))) pss_nil)
      (pss_cons (ps_fld (pv 0) (pe_callTy call_list_of (by rfl) T.n_list (by decide +kernel) (pa_cons (pv 1) pa_nil)) rfl)
      (pss_one (ps_fld (pv 0) (pe_callTy call_list_of (by rfl) T.n_list (by decide +kernel) (pa_cons (pv 2) pa_nil)) rfl))))), ?_⟩
    refine ⟨_, rfl, x, b1, rfl, h1, fun H1 s1 => ⟨_, rfl, ?_⟩⟩
    rcases h with ⟨rfl, q⟩ | ⟨rfl, h2, h⟩
    · exact iteT (mk_one fun d hd => q H1 s1 d hd)
    refine iteF ⟨_, rfl, y, b2, rfl, h2.same s1, fun H2 s2 => ⟨_, rfl, ?_⟩⟩
    rcases h with ⟨rfl, q⟩ | ⟨rfl, q⟩
    · exact iteT (mk_one fun d hd => q H2 (s1.trans s2) d hd)
    refine iteF ?_
    obtain ⟨a, cy, rfl, ha, l1, hcy⟩ := lenOk_ints h1
    obtain ⟨b, ch, rfl, hb, l2, _⟩ := lenOk_ints h2
    have s12 := s1.trans s2
    refine ⟨_, rfl, a, _, rfl, .inl (SqL.of (s12 _ _ ha)), fun D1 n1 => ?_⟩
    have hp2 := s12 _ _ hp
    have nD1p : D1 ≠ p := (ne_of_none hp2 n1).symm
    refine ⟨_, rfl, p, T.C_GreatMap, dx, [], rfl, carryNew n1 hp2, T.o_GreatMap.cl, T.na_own_cycles_GreatMap, (by show 0 < 1000; decide), ?_⟩
    have nbp : b ≠ p := ne_of hb hp (by intro z; cases z)
    have hb3 : (upd (upd H2 D1 (.lst (cy.map V.int))) p (.ins T.C_GreatMap dx (putF "own_cycles" (.ref D1) []))) b = some (.lst (ch.map V.int)) := by
      rw [upd_ne nbp]; exact carryNew n1 (s12 _ _ hb)
    refine ⟨_, rfl, b, _, rfl, .inl (SqL.of hb3), fun D2 n2 => ?_⟩
    have nD2p : D2 ≠ p := fun z => by rw [z, upd_same] at n2; cases n2
    have n2' : (upd H2 D1 (.lst (cy.map V.int))) D2 = none := by rw [upd_ne nD2p] at n2; exact n2
    have nD21 : D2 ≠ D1 := fun z => by rw [z, upd_same] at n2'; cases n2'
    refine ⟨_, rfl, p, T.C_GreatMap, dx, _, rfl, (by rw [upd_ne nD2p.symm]; exact upd_same), T.o_GreatMap.cl, T.na_own_chains_GreatMap, (by show 1 < 1000; decide), ?_⟩
    refine q cy ch a b _ D1 D2 rfl rfl ha hb hcy l1 l2 (fun c o hc e => ?_) (s12.free n1) (s12.free (freeUp n2')) upd_same ?_ ?_
    · rw [upd_ne hc, upd_ne (fun z => by rw [z] at e; rw [carryNew n1 (s12 _ _ e)] at n2'; cases n2'), upd_ne hc]
      exact carryNew n1 (s12 _ _ e)
    · rw [upd_ne nD1p, upd_ne nD21.symm, upd_ne nD1p, upd_same]
    · rw [upd_ne nD2p, upd_same]
end
end My
namespace My
open PySem L2 U StX PM LamX
theorem sqL_extN {K : PySem.W.Frag} {H H' : Hp} {a : Addr} {xs : List V} (h : SqL K H a xs) (s : ExtN H H') : SqL K H' a xs := by
  rcases h with (h | ⟨o, h⟩) | h
  · exact .inl (.inl (s _ _ h (by intro ps z; cases z)))
  · exact .inl (.inr ⟨o, s _ _ h (by intro ps z; cases z)⟩)
  · exact .inr h
theorem sqT_extN {K : PySem.W.Frag} {H H' : Hp} {a : Addr} {xs : List V} (h : SqT K H a xs) (s : ExtN H H') : SqT K H' a xs := by
  rcases h with (h | ⟨o, h⟩) | h
  · exact .inl (.inl (s _ _ h (by intro ps z; cases z)))
  · exact .inl (.inr ⟨o, s _ _ h (by intro ps z; cases z)⟩)
  · exact .inr h
mutual
theorem dp_extN {K : PySem.W.Frag} {H H' : Hp} (s : ExtN H H') : ∀ (d : PyData) (v : V), Dp K H v d → Dp K H' v d
  | _, _, .non => .non
  | _, _, .bl b => .bl b
  | _, _, .int i => .int i
  | _, _, .str x => .str x
  | .list ds, _, .lst (xs := xs) h1 h2 => .lst (sqL_extN h1 s) (dps_extN s ds xs h2)
  | .tuple ds, _, .tup (xs := xs) h1 h2 => .tup (sqT_extN h1 s) (dps_extN s ds xs h2)
theorem dps_extN {K : PySem.W.Frag} {H H' : Hp} (s : ExtN H H') : ∀ (ds : List PyData) (vs : List V), DpAll K H vs ds → DpAll K H' vs ds
  | [], _, .nil => .nil
  | d :: ds, _, .cons (v := v) (vs := vs) h1 h2 => .cons (dp_extN s d v h1) (dps_extN s ds vs h2)
end
theorem units65 {k : Nat} {A : Around} (r : Room k A) : A.units + 65 < cLine := by have := r.un; omega
section
variable {P : Program} {w : World} {K : PySem.W.Frag} {mg : Str → Option Value} {base : Heap}
/-- what length_at says of a place: none for a place that is none -/
def kinds : List PyData := [.str "cycle", .str "chain"]
inductive PlaceV (K : PySem.W.Frag) (C : Addr) (H : Hp) (cy ch : List Int) : V → Option Int → Prop
  | notT {x} : knownV C H x → ¬ isTpG H x → PlaceV K C H cy ch x none
  | len {a xs} : H a = some (.tup xs) → xs.length ≠ 3 → xs.length ≤ 10 → PlaceV K C H cy ch (.ref a) none
  | kind {a x y z d} : H a = some (.tup [x, y, z]) → Dp K H x d → SeqAt.shaped d = true → (kinds.any fun z => PyData.eqv z d) = false → PlaceV K C H cy ch (.ref a) none
  | index {a k y z} {b : Bool} : H a = some (.tup [.str k, y, z]) → k = (if b then ("cycle" : Str) else "chain") → knownV C H y → knownV C H z → inR y 0 (((if b then cy else ch).length : Int) - 1) = false → PlaceV K C H cy ch (.ref a) none
  | offset {a k z} {b : Bool} {i : Nat} {n : Int} : H a = some (.tup [.str k, .int i, z]) → k = (if b then ("cycle" : Str) else "chain") → (if b then cy else ch)[i]? = some n → knownV C H z → inR z 0 (n - 1) = false → PlaceV K C H cy ch (.ref a) none
  | good {a k} {b : Bool} {i : Nat} {n m : Int} : H a = some (.tup [.str k, .int i, .int m]) → k = (if b then ("cycle" : Str) else "chain") → (if b then cy else ch)[i]? = some n → 0 ≤ m → m ≤ n - 1 → PlaceV K C H cy ch (.ref a) (some n)
theorem kshape (b : Bool) : SeqAt.shaped (.str (if b then ("cycle" : Str) else "chain")) = true := by
  cases b <;> decide +kernel
theorem kshapeL : SeqAt.shaped (.list kinds) = true := by decide +kernel
theorem kany (b : Bool) : (!kinds.any fun z => PyData.eqv z (.str (if b then ("cycle" : Str) else "chain"))) = false := by
  cases b <;> decide +kernel
def spLA (K : PySem.W.Frag) (C CE : Addr) : Sp := fun vs H Q E => ∃ (p : Addr) (cy ch : List Int) (x : V) (r : Option Int), vs = [.ref p, x] ∧ IsGreat C H p cy ch ∧ PlaceV K C H cy ch x r ∧
  match r with
  | none => ∀ H', Same H H' → ∀ d, H' d = none → E (.ref CE) (some d) (upd H' d (.xd [("value", x)]))
  | some n => ∀ H', Same H H' → Q (.int n) H'
theorem okX_length_at (T : Txt K mg) : FnR P w K mg base (L2.CX P w) 5 T.f_GreatMap_length_at (spLA K T.C_GreatMap T.C_InvalidElement) := by
  refine T.A_GreatMap_length_at.okX sc_GreatMap_length_at (fun vs H Q E h => ?_) (fun cdv A outer s H vs Q E hr h => ?_)
  · obtain ⟨p, cy, ch, x, r, rfl, _⟩ := h
    rfl
  · obtain ⟨p, cy, ch, x, r, rfl, hp, hx, q⟩ := h
    refine ⟨_, (pss_cons (ps_if (PW.pt (pw_or (pt_not (pt_val (pe_callB call_isi (by rfl) T.n_isinstance (by decide +kernel) (pa_cons (pv 1) (pa_cons (pe_bltn (v := .ty "tuple") (u := .type "tuple") (by rfl) T.n_tuple (by decide +kernel) rfl) pa_nil))))) (pw_or (pt_cmpR op_ne (pe_callB call_len_seq (by rfl) T.n_len (by decide +kernel) (pa_cons (pv 1) pa_nil)) pe_int (nomark _)) (pw_or1 (pt_cmpR (op_notInT (units65 hr)) (pe_ix ix_tup (pv 1) pe_int (fun _ _ => rfl)) (pe_tup (pa_cons pe_str (pa_cons pe_str pa_nil))) (by rfl))))))
        (pss_one (ps_raise rfl (takes_of rfl rfl rfl rfl) (pmk_oexG T.x_InvalidElement T.m_InvalidElement__init T.ti_InvalidElement__init (ok_ini_InvalidElement T) (hr.mono (by decide)) pass0 rfl T.g_InvalidElement (pa_cons (pv 1) pa_nil)))) pss_nil)
      (pss_cons (ps_set (i := 2) sc_GreatMap_length_at.nd rfl (Or.inl rfl) (pe_ifExp (pt_cmpR op_eq (pe_ix ix_tup (pv 1) pe_int (fun _ _ => rfl)) pe_str (nomark _)) (pe_fld (pv 0) rfl) (pe_fld (pv 0) rfl)))
      (pss_cons (ps_if (PW.pt (pw_or (pt_not (pt_val (pe_callR (ok_in_range T) (hr.mono (by decide)) T.A_in_range.kp rfl T.g_in_range pass0 (pa_cons (pe_ix ix_tup (pv 1) pe_int (fun _ _ => rfl)) (pa_cons pe_int (pa_cons (pe_op op_sub (pe_callB call_len_seq (by rfl) T.n_len (by decide +kernel) (pa_cons (pv 2) pa_nil)) pe_int) pa_nil)))))) (pw_or1 (pt_not (pt_val (pe_callR (ok_in_range T) (hr.mono (by decide)) T.A_in_range.kp rfl T.g_in_range pass0 (pa_cons (pe_ix ix_tup (pv 1) pe_int (fun _ _ => rfl)) (pa_cons pe_int (pa_cons (pe_op op_sub (pe_ix ix_list (pv 2) (pe_ix ix_tup (pv 1) pe_int (fun _ _ => rfl)) (fun _ _ => rfl)) pe_int) pa_nil)))))))))
        (pss_one (ps_raise rfl (takes_of rfl rfl rfl rfl) (pmk_oexG T.x_InvalidElement T.m_InvalidElement__init T.ti_InvalidElement__init (ok_ini_InvalidElement T) (hr.mono (by decide)) pass0 rfl T.g_InvalidElement (pa_cons (pv 1) pa_nil)))) pss_nil)
      (pss_one (ps_ret (pe_ix ix_list (pv 2) (pe_ix ix_tup (pv 1) pe_int (fun _ _ => rfl)) (fun _ _ => rfl))))))), ?_⟩
    have hk3 : (∃ a k y z, ∃ b : Bool, x = .ref a ∧ H a = some (.tup [.str k, y, z]) ∧ k = (if b then ("cycle" : Str) else "chain") ∧ knownV T.C_GreatMap H y ∧ knownV T.C_GreatMap H z ∧
        ((inR y 0 (((if b then cy else ch).length : Int) - 1) = false ∧ r = none) ∨ ∃ (i : Nat) (n : Int), y = .int i ∧ (if b then cy else ch)[i]? = some n ∧ ((inR z 0 (n - 1) = false ∧ r = none) ∨ ∃ m : Int, z = .int m ∧ 0 ≤ m ∧ m ≤ n - 1 ∧ r = some n))) ∨
        (r = none ∧ ((knownV T.C_GreatMap H x ∧ ¬ isTpG H x) ∨ ∃ a xs, x = .ref a ∧ H a = some (.tup xs) ∧ (xs.length ≠ 3 ∨ ∃ y z u d, xs = [u, y, z] ∧ Dp K H u d ∧ SeqAt.shaped d = true ∧ (kinds.any fun z => PyData.eqv z d) = false))) := by
      cases hx with
      | notT h1 h2 => exact .inr ⟨rfl, .inl ⟨h1, h2⟩⟩
      | len h1 h2 h3 => exact .inr ⟨rfl, .inr ⟨_, _, rfl, h1, .inl h2⟩⟩
      | kind h1 h2 h3 h4 => exact .inr ⟨rfl, .inr ⟨_, _, rfl, h1, .inr ⟨_, _, _, _, rfl, h2, h3, h4⟩⟩⟩
      | index h1 h2 h3 h4 h5 => exact .inl ⟨_, _, _, _, _, rfl, h1, h2, h3, h4, .inl ⟨h5, rfl⟩⟩
      | offset h1 h2 h3 h4 h5 => exact .inl ⟨_, _, _, _, _, rfl, h1, h2, trivial, h4, .inr ⟨_, _, rfl, h3, .inl ⟨h5, rfl⟩⟩⟩
      | good h1 h2 h3 h4 h5 => exact .inl ⟨_, _, _, _, _, rfl, h1, h2, trivial, trivial, .inr ⟨_, _, rfl, h3, .inr ⟨_, rfl, h4, h5, rfl⟩⟩⟩
    rcases hk3 with ⟨a, k, y, z, b, rfl, ha, rfl, ky, kz, h⟩ | ⟨rfl, h⟩
    · refine ⟨_, rfl, _, _, _, _, _, rfl, .ty _, .base (.tup ha), kit_ty (r := true) (by decide +kernel), _, rfl, iteF ?_⟩
      refine ⟨_, rfl, a, _, rfl, .inr (SqT.of ha), rfl, _, rfl, iteF ?_⟩
      refine ⟨_, rfl, a, _, 0, _, rfl, rfl, SqT.of ha, atI_nat (j := 0) rfl, two_le, ?_⟩
      refine fun t n_t => ?_
      generalize g_t : L2.upd _ t _ = H1
      obtain ⟨s_H1, e_t⟩ := U.upd_facts g_t n_t
      clear g_t
      refine ⟨.str (if b then ("cycle" : Str) else "chain"), t, _, kinds, rfl, .str _, SqT.of e_t, .cons (.str _) (.cons (.str _) .nil), kshape b, kshapeL, _, rfl, ?_⟩
      rw [kany b]
      refine iteF ?_
      have ha1 := s_H1 _ _ ha
      have hp1 := hp.same s_H1
      obtain ⟨⟨dx, D1, D2, g1, g2, g3⟩, l1, l2⟩ := hp1
      refine ⟨_, rfl, a, _, 0, _, rfl, rfl, SqT.of ha1, atI_nat (j := 0) rfl, rfl, _, rfl, ?_⟩
      cases b with
      | true =>
        rw [show decide (V.str (if true = true then ("cycle" : Str) else "chain") = V.str "cycle") = true by decide +kernel]
        replace h : (inR y 0 (((cy).length : Int) - 1) = false ∧ r = none) ∨ ∃ (i : Nat) (n : Int), y = .int i ∧ (cy)[i]? = some n ∧ ((inR z 0 (n - 1) = false ∧ r = none) ∨ ∃ m : Int, z = .int m ∧ 0 ≤ m ∧ m ≤ n - 1 ∧ r = some n) := h
        refine iteT ⟨_, rfl, _, _, _, _, _, rfl, g1, T.o_GreatMap.cl, T.na_own_cycles_GreatMap, gflds_cy D1 D2, ?_⟩
        refine ⟨_, rfl, a, _, 1, _, rfl, rfl, SqT.of ha1, atI_nat (j := 1) rfl, ?_⟩
        refine ⟨_, rfl, D1, _, rfl, .inl (SqL.of g2), _, _, rfl, rfl, ?_⟩
        rw [List.length_map]
        refine ⟨_, _, _, rfl, knownG.same ky s_H1, _, rfl, ?_⟩
        rcases h with ⟨h, rfl⟩ | ⟨i, n, rfl, hi, h⟩
        · rw [h]
          exact iteT (iteT ⟨_, rfl, mk_one fun d hd => q H1 s_H1 d hd⟩)
        have hil : i < (cy).length := by
          rw [List.getElem?_eq_some_iff] at hi
          exact hi.1
        rw [show inR (.int (i : Int)) 0 (((cy).length : Int) - 1) = true by simp only [inR, Bool.and_eq_true, decide_eq_true_eq]; omega]
        refine iteF ?_
        have hi' : (((cy).map V.int))[i]? = some (.int n) := by rw [List.getElem?_map, hi]; rfl
        refine ⟨_, rfl, a, _, 2, _, rfl, rfl, SqT.of ha1, atI_nat (j := 2) rfl, ?_⟩
        refine ⟨_, rfl, _, rfl, a, _, 1, _, rfl, rfl, SqT.of ha1, atI_nat (j := 1) rfl, D1, _, (i : Int), _, rfl, rfl, SqL.of g2, atI_nat (j := i) hi', _, _, rfl, rfl, ?_⟩
        refine ⟨_, _, _, rfl, knownG.same kz s_H1, _, rfl, ?_⟩
        rcases h with ⟨h, rfl⟩ | ⟨m, rfl, m0, m1, rfl⟩
        · rw [h]
          exact iteT ⟨_, rfl, mk_one fun d hd => q H1 s_H1 d hd⟩
        rw [show inR (.int m) 0 (n - 1) = true by simp only [inR, Bool.and_eq_true, decide_eq_true_eq]; omega]
        refine iteF ?_
        exact ⟨_, rfl, _, rfl, a, _, 1, _, rfl, rfl, SqT.of ha1, atI_nat (j := 1) rfl, D1, _, (i : Int), _, rfl, rfl, SqL.of g2, atI_nat (j := i) hi', q H1 s_H1⟩
      | false =>
        rw [show decide (V.str (if false = true then ("cycle" : Str) else "chain") = V.str "cycle") = false by decide +kernel]
        replace h : (inR y 0 (((ch).length : Int) - 1) = false ∧ r = none) ∨ ∃ (i : Nat) (n : Int), y = .int i ∧ (ch)[i]? = some n ∧ ((inR z 0 (n - 1) = false ∧ r = none) ∨ ∃ m : Int, z = .int m ∧ 0 ≤ m ∧ m ≤ n - 1 ∧ r = some n) := h
        refine iteF ⟨_, rfl, _, _, _, _, _, rfl, g1, T.o_GreatMap.cl, T.na_own_chains_GreatMap, gflds_ch D1 D2, ?_⟩
        refine ⟨_, rfl, a, _, 1, _, rfl, rfl, SqT.of ha1, atI_nat (j := 1) rfl, ?_⟩
        refine ⟨_, rfl, D2, _, rfl, .inl (SqL.of g3), _, _, rfl, rfl, ?_⟩
        rw [List.length_map]
        refine ⟨_, _, _, rfl, knownG.same ky s_H1, _, rfl, ?_⟩
        rcases h with ⟨h, rfl⟩ | ⟨i, n, rfl, hi, h⟩
        · rw [h]
          exact iteT (iteT ⟨_, rfl, mk_one fun d hd => q H1 s_H1 d hd⟩)
        have hil : i < (ch).length := by
          rw [List.getElem?_eq_some_iff] at hi
          exact hi.1
        rw [show inR (.int (i : Int)) 0 (((ch).length : Int) - 1) = true by simp only [inR, Bool.and_eq_true, decide_eq_true_eq]; omega]
        refine iteF ?_
        have hi' : (((ch).map V.int))[i]? = some (.int n) := by rw [List.getElem?_map, hi]; rfl
        refine ⟨_, rfl, a, _, 2, _, rfl, rfl, SqT.of ha1, atI_nat (j := 2) rfl, ?_⟩
        refine ⟨_, rfl, _, rfl, a, _, 1, _, rfl, rfl, SqT.of ha1, atI_nat (j := 1) rfl, D2, _, (i : Int), _, rfl, rfl, SqL.of g3, atI_nat (j := i) hi', _, _, rfl, rfl, ?_⟩
        refine ⟨_, _, _, rfl, knownG.same kz s_H1, _, rfl, ?_⟩
        rcases h with ⟨h, rfl⟩ | ⟨m, rfl, m0, m1, rfl⟩
        · rw [h]
          exact iteT ⟨_, rfl, mk_one fun d hd => q H1 s_H1 d hd⟩
        rw [show inR (.int m) 0 (n - 1) = true by simp only [inR, Bool.and_eq_true, decide_eq_true_eq]; omega]
        refine iteF ?_
        exact ⟨_, rfl, _, rfl, a, _, 1, _, rfl, rfl, SqT.of ha1, atI_nat (j := 1) rfl, D2, _, (i : Int), _, rfl, rfl, SqL.of g3, atI_nat (j := i) hi', q H1 s_H1⟩
    · rcases h with ⟨hk, hn⟩ | ⟨a, xs, rfl, ha, h⟩
      · obtain ⟨t, ht, _, b1, hb1, hbi⟩ := tyG T hk
        have : b1 = false := by
          cases b1 with
          | false => rfl
          | true => exact absurd (hbi.mp rfl) hn
        subst this
        refine ⟨_, rfl, x, _, t, _, _, rfl, .ty _, ht, hb1, _, rfl, iteT (iteT ?_)⟩
        exact ⟨_, rfl, mk_one fun d hd => q H (Same.refl _) d hd⟩
      · refine ⟨_, rfl, _, _, _, _, _, rfl, .ty _, .base (.tup ha), kit_ty (r := true) (by decide +kernel), _, rfl, iteF ?_⟩
        refine ⟨_, rfl, a, _, rfl, .inr (SqT.of ha), rfl, _, rfl, ?_⟩
        rcases h with h | ⟨y, z, u, d, rfl, hd, sd, hne⟩
        · rw [show (!decide (V.int (xs.length : Int) = V.int 3)) = true by simp; omega]
          exact iteT (iteT ⟨_, rfl, mk_one fun d hd => q H (Same.refl _) d hd⟩)
        · refine iteF ?_
          refine ⟨_, rfl, a, _, 0, _, rfl, rfl, SqT.of ha, atI_nat (j := 0) rfl, two_le, ?_⟩
          refine fun t n_t => ?_
          generalize g_t : L2.upd _ t _ = H1
          obtain ⟨s_H1, e_t⟩ := U.upd_facts g_t n_t
          clear g_t
          refine ⟨d, t, _, kinds, rfl, dp_extN (ExtN.of s_H1) _ _ hd, SqT.of e_t, .cons (.str _) (.cons (.str _) .nil), sd, kshapeL, _, rfl, ?_⟩
          rw [hne]
          exact iteT ⟨_, rfl, mk_one fun d hd => q H1 s_H1 d hd⟩
def spAft (K : PySem.W.Frag) (C CE CN : Addr) : Sp := fun vs H Q E => ∃ (p : Addr) (cy ch : List Int) (x e : V) (r : Option Int), vs = [.ref p, x, e] ∧ IsGreat C H p cy ch ∧ PlaceV K C H cy ch x r ∧
  match r with
  | none => ∀ H', Same H H' → ∀ d, H' d = none → E (.ref CE) (some d) (upd H' d (.xd [("value", x)]))
  | some _ => knownV C H e ∧ isI e = false ∧ ∀ H', Same H H' → ∀ d, H' d = none → E (.ref CN) (some d) (upd H' d (.xd [("value", e)]))
theorem okX_after (T : Txt K mg) : FnR P w K mg base (L2.CX P w) 7 T.f_GreatMap_after (spAft K T.C_GreatMap T.C_InvalidElement T.C_InvalidNumber) := by
  refine T.A_GreatMap_after.okX sc_GreatMap_after (fun vs H Q E h => ?_) (fun cdv A outer s H vs Q E hr h => ?_)
  · obtain ⟨p, cy, ch, x, e, r, rfl, _⟩ := h
    rfl
  · obtain ⟨p, cy, ch, x, e, r, rfl, hp, hx, q⟩ := h
    refine ⟨_, (pss_cons (ps_set (i := 3) sc_GreatMap_after.nd rfl (Or.inl rfl) (pe_methR (pv 0) T.o_GreatMap.cl T.meth_GreatMap_length_at (okX_length_at T) (hr.mono (by decide)) (passes_call (takes_of rfl rfl rfl rfl) (fun _ _ _ _ h => h)) (pa_cons (pv 1) pa_nil)))
      (pss_cons (ps_if (pt_not (pt_val (pe_callR (ok_is_integer T) (hr.mono (by decide)) T.A_is_integer.kp rfl T.g_is_integer pass0 (pa_cons (pv 2) pa_nil))))
        (pss_one (ps_raise rfl (takes_of rfl rfl rfl rfl) (pmk_oexG T.x_InvalidNumber T.m_InvalidNumber__init T.ti_InvalidNumber__init (ok_ini_InvalidNumber T) (hr.mono (by decide)) pass0 rfl T.g_InvalidNumber (pa_cons (pv 2) pa_nil)))) pss_nil)
      (pss_cons (ps_asg (pv 1) (pg_tup rfl (pgs_cons (pg_name (i := 4) sc_GreatMap_after.nd rfl (Or.inl rfl)) (pgs_cons (pg_name (i := 5) sc_GreatMap_after.nd rfl (Or.inl rfl)) (pgs_cons (pg_name (i := 6) sc_GreatMap_after.nd rfl (Or.inl rfl)) pgs_nil)))))
      (pss_cons ps_never
      (pss_one ps_never))))), ?_⟩
    obtain ⟨dx, D1, D2, g1, g2, g3⟩ := hp.ob
    refine ⟨_, rfl, p, _, _, rfl, g1, gflds_no _ _ (by decide +kernel) (by decide +kernel), _, rfl, p, cy, ch, x, r, rfl, hp, hx, ?_⟩
    cases r with
    | none => exact q
    | some n =>
      obtain ⟨ke, ie, q⟩ := q
      refine fun H1 s1 => ⟨_, rfl, e, rfl, knownG.same ke s1, _, rfl, ?_⟩
      rw [ie]
      exact iteT ⟨_, rfl, mk_one fun d hd => q H1 s1 d hd⟩
def spFat (K : PySem.W.Frag) (C CE : Addr) : Sp := fun vs H Q E => ∃ (p : Addr) (cy ch : List Int) (x : V), vs = [.ref p, x] ∧ IsGreat C H p cy ch ∧ PlaceV K C H cy ch x none ∧
  ∀ H', Same H H' → ∀ d, H' d = none → E (.ref CE) (some d) (upd H' d (.xd [("value", x)]))
theorem okX_fate (T : Txt K mg) : FnR P w K mg base (L2.CX P w) 7 T.f_GreatMap_fate (spFat K T.C_GreatMap T.C_InvalidElement) := by
  refine T.A_GreatMap_fate.okX sc_GreatMap_fate (fun vs H Q E h => ?_) (fun cdv A outer s H vs Q E hr h => ?_)
  · obtain ⟨p, cy, ch, x, rfl, _⟩ := h
    rfl
  · obtain ⟨p, cy, ch, x, rfl, hp, hx, q⟩ := h
    refine ⟨_, (pss_cons (ps_set (i := 2) sc_GreatMap_fate.nd rfl (Or.inl rfl) (pe_methR (pv 0) T.o_GreatMap.cl T.meth_GreatMap_length_at (okX_length_at T) (hr.mono (by decide)) (passes_call (takes_of rfl rfl rfl rfl) (fun _ _ _ _ h => h)) (pa_cons (pv 1) pa_nil)))
      (pss_one ps_never)), ?_⟩
    obtain ⟨dx, D1, D2, g1, g2, g3⟩ := hp.ob
    exact ⟨_, rfl, p, _, _, rfl, g1, gflds_no _ _ (by decide +kernel) (by decide +kernel), _, rfl, p, cy, ch, x, none, rfl, hp, hx, q⟩
end
end My
namespace My
open PySem L2 U StX PM LamX
theorem pe_actE {Z : Cx} {W : WX} {f c' : Addr} {q a : Str} {tl : XK → Hp → VK → Prop} {p1 p2 : Pos} (n : Nat) (hn : Z.N.length = n)
    (act : ∀ (W' : WX) (E : XK), Takes Z W' → (∀ cls d σ' H', E cls d H' → W' cls d σ' H') → PE Z (.Call (.Name a p1) [] [] p2) (fun σZ HZ Q => σZ[0]? = some (some (.ref f)) ∧ HZ c' = some (CodeO c' q) ∧ tl E HZ Q)) (tk : Takes Z W) :
    PE Z (.Call (.Name a p1) [] [] p2) (fun σZ HZ Q => ∃ E : XK, (∀ cls d σ' H', E cls d H' → σ'.length = n → W cls d σ' H') ∧ σZ[0]? = some (some (.ref f)) ∧ HZ c' = some (CodeO c' q) ∧ tl E HZ Q) :=
  ⟨fun pins s σ H Q I ⟨E, hE, h⟩ => (act _ E (takes_len tk) fun cls d σ' H' h hl => hE cls d σ' H' h (hl.trans hn)).run pins s σ H Q I h⟩
theorem call_reprAt {X : Cx} {K0 : PySem.W.Frag} (g : X.A.guards = some []) (hu : X.A.units + 64 < cLine) (hK : X.K = K0) : CallR X (.builtin "repr") (rRepr K0) := by
  subst hK
  exact call_repr g hu
/-- repr says d.shown of v -/
structure RpD (K : PySem.W.Frag) (H : Hp) (v : V) (d : PyData) : Prop where
  dp : Dp K H v d
  sh : d.showable = true
  nd : d.hasDict = false
  de : d.depth ≤ 60
  le : d.shown.length ≤ sizeLine
theorem RpD.extN {K : PySem.W.Frag} {H H' : Hp} {v : V} {d : PyData} (h : RpD K H v d) (x : ExtN H H') : RpD K H' v d := ⟨dp_extN x _ _ h.dp, h.sh, h.nd, h.de, h.le⟩
section
variable {P : Program} {w : World} {K : PySem.W.Frag} {mg : Str → Option Value} {base : Heap}
def spMade (C : Addr) : Sp := fun vs H Q _ => ∃ (x y : V) (b1 b2 : Bool), vs = [x, y] ∧ LenV C H x b1 ∧
  ((b1 = false ∧ ∀ p H', Same H H' → H p = none → H' p = some (.lst [.str "cycles", .bl true]) → Q (.ref p) H') ∨
   (b1 = true ∧ LenV C H y b2 ∧ ((b2 = false ∧ ∀ p H', Same H H' → H p = none → H' p = some (.lst [.str "chains", .bl true]) → Q (.ref p) H') ∨ (b2 = true ∧ ∀ H', Same H H' → Q (.str "made") H'))))
theorem ok_l_made (T : Txt K mg) : FnR P w K mg base CX0 9 T.f_l_made (spMade T.C_GreatMap) := by
  refine T.A_l_made.ok sc_l_made (fun vs H Q E h => ?_) (fun cdv A outer s H vs Q E hr h => ?_)
  · obtain ⟨x, y, b1, b2, rfl, _⟩ := h
    rfl
  · obtain ⟨x, y, b1, b2, rfl, h1, h⟩ := h
    refine ⟨_, (pss_cons (ps_try_as (i := 2) rfl rfl sc_l_made.nd rfl rfl ⟨rfl, by decide, .inl T.g_InvalidShape⟩ L2.takes0 (fun W pn xe tk _ => (pss_one (ps_expr (pe_makeRS T.M_GreatMap (okX_ginit T) (hr.mono (by decide)) rfl T.g_GreatMap (fun σ => passAt tk σ) (pa_cons (pv 0) (pa_cons (pv 1) pa_nil)))))) (fun a oe cls d pn hz hf => (pss_one (ps_ret (pe_lst (pa_cons (pe_xf T.xf_InvalidShape T.na_part_InvalidShape hz hf (pv 2)) (pa_cons (pe_callB (call_isH T.xe_InvalidShape hz hf) (by rfl) T.n_isinstance (by decide +kernel) (pa_cons (pv 2) (pa_cons (pe_bltn (v := .ty "ValueError") (u := .type "ValueError") (by rfl) T.n_ValueError (by decide +kernel) rfl) pa_nil))) pa_nil)))))))
      (pss_one (ps_ret pe_str))), ?_⟩
    refine ⟨_, rfl, _, rfl, fun p dx np nd nn => ?_⟩
    have s0 : Same H (upd (upd H dx (.own p)) p (.ins T.C_GreatMap dx [])) := (Same.new nd).trans (Same.new (by rw [upd_ne nn.symm]; exact np))
    generalize e0 : upd (upd H dx (.own p)) p (.ins T.C_GreatMap dx []) = H0 at s0 ⊢
    have ep : H0 p = some (.ins T.C_GreatMap dx []) := by rw [← e0]; exact upd_same
    refine ⟨p, dx, x, y, b1, b2, rfl, ep, h1.same s0, ?_⟩
    rcases h with ⟨rfl, q⟩ | ⟨rfl, h2, h⟩
    · refine .inl ⟨rfl, fun H' s' d nd' => ?_⟩
      refine ⟨true, T.te_InvalidShape, fun _ a na => ?_, fun z => nomatch z⟩
      refine ⟨_, rfl, rfl, rfl, d, _, _, rfl, upd_same, rfl, ?_⟩
      exact ⟨_, rfl, d, rfl, rfl, _, _, _, _, rfl, fun u r => r, T.kit_ValueError_InvalidShape, upd_same, two_le, fun p' np' => q p' _ (((s0.trans s').trans (Same.new nd')).trans (Same.new np')) (((s0.trans s').trans (Same.new nd')).free np') upd_same⟩
    refine .inr ⟨rfl, h2.same s0, ?_⟩
    rcases h with ⟨rfl, q⟩ | ⟨rfl, q⟩
    · refine .inl ⟨rfl, fun H' s' d nd' => ?_⟩
      refine ⟨true, T.te_InvalidShape, fun _ a na => ?_, fun z => nomatch z⟩
      refine ⟨_, rfl, rfl, rfl, d, _, _, rfl, upd_same, rfl, ?_⟩
      exact ⟨_, rfl, d, rfl, rfl, _, _, _, _, rfl, fun u r => r, T.kit_ValueError_InvalidShape, upd_same, two_le, fun p' np' => q p' _ (((s0.trans s').trans (Same.new nd')).trans (Same.new np')) (((s0.trans s').trans (Same.new nd')).free np') upd_same⟩
    refine .inr ⟨rfl, fun cy ch a b H' D1 D2 _ _ _ _ _ _ _ o _ _ _ _ _ => ⟨rfl, ?_⟩⟩
    exact q H' fun c o' hc => o c o' (fun z => by rw [z] at hc; rw [hc] at np; cases np) (s0 _ _ hc)
/-- what _law_refused makes of an exception -/
def ERef (T : Txt K mg) (Q : VK) : XK := fun cls d H' => ∃ dd v dt, d = some dd ∧ H' dd = some (.xd [("value", v)]) ∧ RpD K H' v dt ∧
  ((cls = .ref T.C_InvalidElement ∧ ∀ p H'', Same H' H'' → H' p = none → H'' p = some (.lst [.str "element", .bl true, .str dt.shown]) → Q (.ref p) H'') ∨
   (cls = .ref T.C_InvalidNumber ∧ ∀ p H'', Same H' H'' → H' p = none → H'' p = some (.lst [.str "number", .bl true, .str dt.shown]) → Q (.ref p) H''))
def TT_l_refused (T : Txt K mg) : (XK → Hp → VK → Prop) → Hp → VK → Prop := fun tl H Q => tl (ERef T Q) H (fun _ H' => Q (.str "told") H')
theorem gives_refused {X : Cx} (T : Txt X.K X.mg) {cdg : Value} {q : Str} (gd0 : X.A.guards = some []) (hr0 : Room 9 X.A) : GivesTo X n_l_refused "_law_refused" (defScope s_l_refused) T.f_l_refused cdg (defBody s_l_refused) "_law_call" q (TT_l_refused T) := by
  intro f c' s H Q tl act hc h
  rcases X with ⟨p0, w0, K0, mg0, base0, A0, N0, s00, H00, env0, outer0, stack0, ex0, fn0, calm0, pn0, xe0⟩
  dsimp only at gd0 hr0
  have hr := hr0.deeper (PyProof.Rows.envOfC "_law_refused" (defScope s_l_refused) s.heap.objs.size T.f_l_refused cdg)
  have gd := gd0
  refine ⟨_, (pss_cons (ps_try_manyA rfl rfl sc_l_refused.nd L2.takes0 (fun W pn xe tk _ => (pss_one (ps_expr (pe_actE 2 rfl (fun W' E t h => act W' pn xe E _ _ t h) tk)))) (.cons (i := 1) rfl rfl ⟨rfl, by decide, .inl T.g_InvalidElement⟩ (fun a oe cls d pn hz hf => (pss_one (ps_ret (pe_lst (pa_cons pe_str (pa_cons (pe_callB (call_isH T.xe_InvalidElement hz hf) (by rfl) T.n_isinstance (by decide +kernel) (pa_cons (pv 1) (pa_cons (pe_bltn (v := .ty "ValueError") (u := .type "ValueError") (by rfl) T.n_ValueError (by decide +kernel) rfl) pa_nil))) (pa_cons (pe_callB (call_reprAt (K0 := K0) gd hr.units (by rfl)) (by rfl) T.n_repr (by decide +kernel) (pa_cons (pe_xf T.xf_InvalidElement T.na_value_InvalidElement hz hf (pv 1)) pa_nil)) pa_nil))))))) (.cons (i := 1) rfl rfl ⟨rfl, by decide, .inl T.g_InvalidNumber⟩ (fun a oe cls d pn hz hf => (pss_one (ps_ret (pe_lst (pa_cons pe_str (pa_cons (pe_callB (call_isH T.xe_InvalidNumber hz hf) (by rfl) T.n_isinstance (by decide +kernel) (pa_cons (pv 1) (pa_cons (pe_bltn (v := .ty "ValueError") (u := .type "ValueError") (by rfl) T.n_ValueError (by decide +kernel) rfl) pa_nil))) (pa_cons (pe_callB (call_reprAt (K0 := K0) gd hr.units (by rfl)) (by rfl) T.n_repr (by decide +kernel) (pa_cons (pe_xf T.xf_InvalidNumber T.na_value_InvalidNumber hz hf (pv 1)) pa_nil)) pa_nil))))))) .nil)))
      (pss_one (ps_ret pe_str))), ?_⟩
  refine ⟨ERef T Q, fun cls d σ' H' hE hl => ?_, rfl, hc, h⟩
  match σ', hl with
  | [u0, u1], _ =>
    obtain ⟨dd, v, dt, rfl, e, rp, hE⟩ := hE
    rcases hE with ⟨rfl, q⟩ | ⟨rfl, q⟩
    · refine ⟨true, T.te_InvalidElement, fun _ a na => ?_, fun z => nomatch z⟩
      refine ⟨_, rfl, dd, rfl, rfl, _, _, _, _, rfl, fun u r => r, T.kit_ValueError_InvalidElement, e, ?_⟩
      refine ⟨_, rfl, rfl, rfl, dd, _, _, rfl, e, rfl, ?_⟩
      exact ⟨v, dt, rfl, rp.dp, rp.sh, rp.nd, rp.de, rp.le, three_le, fun p np => q p _ (Same.new np) np upd_same⟩
    · refine ⟨false, T.te_InvalidNumber_InvalidElement, (fun z => nomatch z), fun _ => ⟨true, T.te_InvalidNumber, fun _ a na => ?_, fun z => nomatch z⟩⟩
      refine ⟨_, rfl, dd, rfl, rfl, _, _, _, _, rfl, fun u r => r, T.kit_ValueError_InvalidNumber, e, ?_⟩
      refine ⟨_, rfl, rfl, rfl, dd, _, _, rfl, e, rfl, ?_⟩
      exact ⟨v, dt, rfl, rp.dp, rp.sh, rp.nd, rp.de, rp.le, three_le, fun p np => q p _ (Same.new np) np upd_same⟩
end
end My
namespace My
open PySem L2 U StX PM LamX
theorem lc_intsD {wi : TI} {i : Nat} {tv : TE} {vs : List Nat} {σ : L2.St} {H0 : Hp} {Q : VK} {p : Addr} (m : Int) (hm : m ≤ 100)
    (hwi : ∀ R : It → Hp → Prop, (∀ (r : Int) (H : Hp), 0 ≤ r → r < m → PoolAt H p → Off p H0 H → R (Itr 0 (1 + r).toNat) H) → wi σ H0 R) (hw : ∀ a, wipe ((wipe σ vs).set i a) vs = wipe σ vs)
    (hb : ∀ (k : Nat) H1, PoolAt H1 p → ∀ R : VK, (∀ (r : Int) H2, 0 ≤ r → r < 9 → PoolAt H2 p → Off p H1 H2 → R (.int (1 + r)) H2) → tv ((wipe σ vs).set i (some (.int (0 + (k : Nat))))) H1 R)
    (hq : ∀ (D : Addr) (ns : List Int) (H' : Hp), PoolAt H' p → Off p H0 H' → H0 D = none → H' D = some (.lst (ns.map V.int)) → 1 ≤ ns.length → (ns.length : Int) ≤ m → (∀ n ∈ ns, 1 ≤ n ∧ n ≤ 9) → Q (.ref D) H') : tLc wi (gName i) tYes tv vs σ H0 Q := by
  refine hwi _ fun r H r0 r1 pool o0 => fun D hD => ?_
  have npD : p ≠ D := pool.ne hD
  obtain ⟨px, ep⟩ := pool.lst
  refine lc_it (walk_range (lo := 0)) (fun k H' => PoolAt H' p ∧ Off p H H' ∧ ∃ ns : List Int, H' D = some (.lst (ns.map V.int)) ∧ ns.length = k ∧ ∀ n ∈ ns, 1 ≤ n ∧ n ≤ 9) ⟨pool.put npD, Off.new hD, [], upd_same, rfl, fun n h => nomatch h⟩ (fun _ _ _ _ => trivial) ?_ ?_
  · rintro k v H' H'' hk ⟨pool1, o1, ns, e1, hl, hns⟩ ⟨rfl, rfl⟩
    refine ⟨hw _, yes_ ?_⟩
    refine hb k _ pool1 _ fun b H2 b0 b1 pool2 o2 => ?_
    have e2 := o2 _ _ npD.symm e1
    refine ⟨_, e2, lt_line (by rw [List.length_map, hl]; omega), pool2.put npD, (o1.tr o2).mut hD, ns ++ [1 + b], by rw [upd_same, List.map_append]; rfl, by simp [hl], fun n hn => ?_⟩
    rcases List.mem_append.mp hn with hn | hn
    · exact hns n hn
    · rw [List.mem_singleton] at hn
      omega
  · rintro H' ⟨pool1, o1, ns, e1, hl, hns⟩
    exact hq D ns H' pool1 (o0.tr o1) (o0.free ep hD) e1 (by omega) (by omega) hns
theorem lenF_list {C : Addr} {H : Hp} {a : Addr} {xs : List V} {b : Bool} (ha : H a = some (.lst xs)) (hk : ∀ y ∈ xs, knownV C H y) (hl : xs.length ≤ 1000) (h : lenOk xs = b) : LenV C H (.ref a) b := ⟨.inl ⟨_, ha⟩, .inr ⟨a, xs, rfl, ha, hk, hl, h.symm⟩⟩
theorem lenF_tup {C : Addr} {H : Hp} {a : Addr} {xs : List V} (ha : H a = some (.tup xs)) : LenV C H (.ref a) false := ⟨.inr (.inl ⟨_, ha⟩), .inl ⟨(by rintro ⟨ys, e⟩; rw [ha] at e; cases e), rfl⟩⟩
theorem lenF_dict {C : Addr} {H : Hp} {a : Addr} {xs} (ha : H a = some (.dK xs)) : LenV C H (.ref a) false := ⟨.inr (.inr (.inl ⟨_, ha⟩)), .inl ⟨(by rintro ⟨ys, e⟩; rw [ha] at e; cases e), rfl⟩⟩
theorem lenOk_ns {ns : List Int} (h : ∀ n ∈ ns, 1 ≤ n ∧ n ≤ 9) (hl : ns.length ≤ 100) : lenOk (ns.map V.int) = true := by
  unfold lenOk
  rw [List.length_map, decide_eq_true hl, Bool.true_and, List.all_eq_true]
  intro v hv
  obtain ⟨n, hn, rfl⟩ := List.mem_map.mp hv
  have := h n hn
  simp only [inR, Bool.and_eq_true, decide_eq_true_eq]
  have : (9 : Int) ≤ big30 := by decide
  omega
theorem lenOk_non {xs : List V} : lenOk (xs ++ [.non]) = false := by
  unfold lenOk
  rw [List.all_append, List.all_cons]
  rw [show inR V.non 1 big30 = false from rfl, Bool.false_and, Bool.and_false, Bool.and_false]
theorem known_ns {C : Addr} {H : Hp} {ns : List Int} : ∀ y ∈ ns.map V.int, knownV C H y := by
  intro y hy
  obtain ⟨n, _, rfl⟩ := List.mem_map.mp hy
  trivial
theorem known_rep {C : Addr} {H : Hp} {k : Nat} {v : V} (h : knownV C H v) : ∀ y ∈ (List.replicate k [v]).flatten, knownV C H y := by
  intro y hy
  obtain ⟨l, hl, hy⟩ := List.mem_flatten.mp hy
  rw [List.eq_of_mem_replicate hl, List.mem_singleton] at hy
  rw [hy]
  exact h
/-! ### what repr says -/
def okD (d : PyData) : Bool := d.showable && !d.hasDict && decide (d.depth ≤ 60) && decide (d.shown.length ≤ sizeLine) && PyData.strOk d.shown
theorem rpd_of {K : PySem.W.Frag} {H : Hp} {v : V} {d : PyData} (h : okD d = true) (hd : Dp K H v d) : RpD K H v d := by
  unfold okD at h
  simp only [Bool.and_eq_true, decide_eq_true_eq, Bool.not_eq_true'] at h
  exact ⟨hd, h.1.1.1.1, h.1.1.1.2, h.1.1.2, h.1.2⟩
theorem okS_d {d : PyData} (h : okD d = true) : PyData.canLay0 (.str d.shown) = true := by
  unfold okD at h
  simp only [Bool.and_eq_true, decide_eq_true_eq, Bool.not_eq_true'] at h
  exact h.2
theorem okD_i1 : ∀ n : Nat, n < 10 → okD (.tuple [.str "cycle", .int (n : Int), .int 0]) = true := by
  intro n hn
  have : (List.range 10).all (fun n => okD (.tuple [.str "cycle", .int ((n : Nat) : Int), .int 0])) = true := by decide +kernel
  exact List.all_eq_true.mp this n (List.mem_range.mpr hn)
theorem okD_i2 : ∀ n : Nat, n < 10 → okD (.tuple [.str "cycle", .int 0, .int (n : Int)]) = true := by
  intro n hn
  have : (List.range 10).all (fun n => okD (.tuple [.str "cycle", .int 0, .int ((n : Nat) : Int)])) = true := by decide +kernel
  exact List.all_eq_true.mp this n (List.mem_range.mpr hn)
theorem okD_i3 : ∀ n : Nat, n < 10 → okD (.tuple [.str "chain", .int (n : Int), .int 0]) = true := by
  intro n hn
  have : (List.range 10).all (fun n => okD (.tuple [.str "chain", .int ((n : Nat) : Int), .int 0])) = true := by decide +kernel
  exact List.all_eq_true.mp this n (List.mem_range.mpr hn)
theorem shape3 {y : Str} {d : PyData} (hy : PyData.canLay0 (.str y) = true) (h : okD d = true) : SeqAt.shaped (.list [.str y, .bool true, .str d.shown]) = true := shaped_all fun d' hd => by
  simp only [List.mem_cons, List.not_mem_nil, or_false] at hd
  rcases hd with rfl | rfl | rfl
  · exact ⟨hy, by show 0 ≤ 60; decide⟩
  · exact ⟨rfl, by show 0 ≤ 60; decide⟩
  · exact ⟨okS_d h, by show 0 ≤ 60; decide⟩
/-- two equal lists -/
theorem eq3 {K : PySem.W.Frag} {H : Hp} {a b : Addr} {y : Str} {d : PyData} (ha : H a = some (.lst [.str y, .bl true, .str d.shown])) (hb : H b = some (.lst [.str y, .bl true, .str d.shown])) (hy : PyData.canLay0 (.str y) = true) (h : okD d = true) :
    ∃ d e, Dp K H (.ref a) d ∧ Dp K H (.ref b) e ∧ SeqAt.shaped d = true ∧ SeqAt.shaped e = true ∧ PyData.eqv d e = true :=
  ⟨_, _, .lst (SqL.of ha) (.cons (.str _) (.cons (.bl _) (.cons (.str _) .nil))), .lst (SqL.of hb) (.cons (.str _) (.cons (.bl _) (.cons (.str _) .nil))), shape3 hy h, shape3 hy h, SeqAt.eqv_refl _ (SeqAt.canLay_of_shaped (shape3 hy h))⟩
theorem eq2 {K : PySem.W.Frag} {H : Hp} {a b : Addr} {y : Str} (ha : H a = some (.lst [.str y, .bl true])) (hb : H b = some (.lst [.str y, .bl true])) (hy : SeqAt.shaped (.list [.str y, .bool true]) = true) :
    ∃ d e, Dp K H (.ref a) d ∧ Dp K H (.ref b) e ∧ SeqAt.shaped d = true ∧ SeqAt.shaped e = true ∧ PyData.eqv d e = true :=
  ⟨_, _, .lst (SqL.of ha) (.cons (.str _) (.cons (.bl _) .nil)), .lst (SqL.of hb) (.cons (.str _) (.cons (.bl _) .nil)), hy, hy, SeqAt.eqv_refl _ (SeqAt.canLay_of_shaped hy)⟩
theorem sh_cy : SeqAt.shaped (.list [.str "cycles", .bool true]) = true := by decide +kernel
theorem sh_ch : SeqAt.shaped (.list [.str "chains", .bool true]) = true := by decide +kernel
theorem ok_el : PyData.canLay0 (.str "element") = true := by decide +kernel
theorem ok_nu : PyData.canLay0 (.str "number") = true := by decide +kernel
theorem cut_drop1 (xs : List V) (h : 1 ≤ xs.length) : cutV xs (some 1) none = xs.drop 1 := by
  have h1 : HT.sIx xs.length 0 (some 1) = 1 := by
    show (if (1 : Int) < 0 then ((1 : Int) + ((xs.length : Nat) : Int)).toNat else min (1 : Int).toNat xs.length) = 1
    rw [if_neg (by decide)]
    show min 1 xs.length = 1
    omega
  unfold cutV
  rw [h1, HT.sIx_none]
  exact List.take_of_length_le (by rw [List.length_drop]; omega)
theorem tabs_off {T : List (Addr × Str)} {H H' : Hp} {p : Addr} (h : Tabs T H) (o : Off p H H') (e : ∃ ys, H p = some (.lst ys)) : Tabs T H' := by
  obtain ⟨ys, e⟩ := e
  intro q hq
  obtain ⟨ps, h1, h2, h3⟩ := h q hq
  refine ⟨ps, o _ _ (ne_of h1 e (by intro z; cases z)) h1, h2, fun pos cv hc => ?_⟩
  obtain ⟨c, e1, e2⟩ := h3 pos cv hc
  exact ⟨c, e1, o _ _ (ne_of e2 e (by intro z; unfold CodeO at z; cases z)) e2⟩
theorem IsGreat.extN {C : Addr} {H H' : Hp} {g : Addr} {cy ch : List Int} (h : IsGreat C H g cy ch) (s : ExtN H H') : IsGreat C H' g cy ch := by
  obtain ⟨⟨dx, D1, D2, e1, e2, e3⟩, l1, l2⟩ := h
  exact ⟨⟨dx, D1, D2, s _ _ e1 (by intro ps z; cases z), s _ _ e2 (by intro ps z; cases z), s _ _ e3 (by intro ps z; cases z)⟩, l1, l2⟩
theorem known_extN {C : Addr} {H H' : Hp} {x : V} (h : knownV C H x) (s : ExtN H H') : knownV C H' x := by
  cases x with
  | ref a =>
    rcases h with ⟨xs, e⟩ | ⟨xs, e⟩ | ⟨xs, e⟩ | ⟨dx, fs, e⟩
    · exact .inl ⟨_, s _ _ e (by intro ps z; cases z)⟩
    · exact .inr (.inl ⟨_, s _ _ e (by intro ps z; cases z)⟩)
    · exact .inr (.inr (.inl ⟨_, s _ _ e (by intro ps z; cases z)⟩))
    · exact .inr (.inr (.inr ⟨_, _, s _ _ e (by intro ps z; cases z)⟩))
  | _ => exact h
theorem PlaceV.extN {K : PySem.W.Frag} {C : Addr} {H H' : Hp} {cy ch : List Int} {x : V} {r : Option Int} (h : PlaceV K C H cy ch x r) (s : ExtN H H') : PlaceV K C H' cy ch x r := by
  cases h with
  | notT hk hn =>
    refine .notT (known_extN hk s) ?_
    cases x with
    | ref a =>
      rcases hk with ⟨ys, e1⟩ | ⟨ys, e1⟩ | ⟨ys, e1⟩ | ⟨dx, fs, e1⟩
      · rintro ⟨zs, e2⟩; rw [s _ _ e1 (by intro ps z; cases z)] at e2; cases e2
      · exact absurd ⟨ys, e1⟩ hn
      · rintro ⟨zs, e2⟩; rw [s _ _ e1 (by intro ps z; cases z)] at e2; cases e2
      · rintro ⟨zs, e2⟩; rw [s _ _ e1 (by intro ps z; cases z)] at e2; cases e2
    | _ => exact id
  | len h1 h2 h3 => exact .len (s _ _ h1 (by intro ps z; cases z)) h2 h3
  | kind h1 h2 h3 h4 => exact .kind (s _ _ h1 (by intro ps z; cases z)) (dp_extN s _ _ h2) h3 h4
  | index h1 h2 h3 h4 h5 => exact .index (s _ _ h1 (by intro ps z; cases z)) h2 (known_extN h3 s) (known_extN h4 s) h5
  | offset h1 h2 h3 h4 h5 => exact .offset (s _ _ h1 (by intro ps z; cases z)) h2 h3 (known_extN h4 s) h5
  | good h1 h2 h3 h4 h5 => exact .good (s _ _ h1 (by intro ps z; cases z)) h2 h3 h4 h5
theorem nx_lc {i j : Nat} {wi : TI} {g : TG} {tt : TT} {tv : TE} {vs : List Nat} {v : V} {u : TS} {D : Ends} {r b c} {σ : L2.St} {H : Hp} (h : tLc wi g tt tv vs (σ.set i (some v)) H fun x H1 => u D ((σ.set i (some v)).set j (some x)) H1) : gName i v σ H (Ends.nx { nx := tSeq (tAsg (tLc wi g tt tv vs) (gName j)) u D, rt := r, bk := b, ct := c }) := h
end My
namespace My
open PySem L2 U StX PM LamX
section
variable {P : Program} {w : World} {K : PySem.W.Frag} {mg : Str → Option Value} {base : Heap}
def lamTs (T : Txt K mg) : List (Addr × Str) := [(T.P_law, ("law" : Str) ++ ".<locals>." ++ "<lambda>")]
def spLawT (K : PySem.W.Frag) {mg : Str → Option Value} (T : Txt K mg) : Sp := fun vs H Q _ => ∃ (a : Addr) (ns : List Int), vs = [.ref a] ∧ SqL K H a (ns.map V.int) ∧ ns.length ≤ 63 ∧ (∀ p ∈ [(T.c_law, T.P_law)], H p.2 = some (.tbl #[])) ∧ ∀ H', Q (.bl true) H'
theorem ok_law (T : Txt K mg) (tb : ∀ p ∈ [(T.c_law, T.P_law)], TabB base mg p.1 p.2) : FnG P w K mg base CX0 40 T.f_law (spLawT K T) := by
  have TBx := tb _ (List.Mem.head _)
  have hmT : (T.P_law, ("law" : Str) ++ ".<locals>." ++ "<lambda>") ∈ lamTs T := (by unfold lamTs; exact (List.Mem.head _))
  have huT : ∀ p ∈ lamTs T, p.1 = T.P_law → p.2 = ("law" : Str) ++ ".<locals>." ++ "<lambda>" := (by
      intro p hp e
      unfold lamTs at hp
      rw [List.mem_singleton] at hp
      rw [hp])
  obtain ⟨fdT, FT, hb_l_refused⟩ := T.A_l_refused.ex
  obtain ⟨ocT, odT, kVT, docT, pmT, anT, cdT, ctT, oslT, rfl, lk_l_refused, hcg_l_refused⟩ := FT.ex
  refine T.B_law.okG sc_law (fun vs H Q E h => ?_) (fun A outer s H vs Q E gd hr h => ?_)
  · obtain ⟨a, ns, rfl, _⟩ := h
    rfl
  · obtain ⟨a, ns, rfl, hS, hl, hT, q⟩ := h
    have t0 : Tabs (lamTs T) H := by
      intro p hp
      unfold lamTs at hp
      rw [List.mem_singleton] at hp
      rw [hp]
      exact TabS.nil (hT _ (List.Mem.head _))
    have hG_l_refused := gives_refused (X := (cxOf CX0 P w K mg base n_law "law" (defScope s_law) T.f_law (.ref T.c_law) A outer s H E).nox) T (cdg := cdT) (q := ("law" : Str) ++ ".<locals>." ++ "<lambda>") gd (hr.mono (by decide))
    refine ⟨_, (pss_cons (ps_if (pt_cmpR (L2.op_neD hr.units) (pe_callR (ok_l_made T) (hr.mono (by decide)) T.A_l_made.kp rfl T.g_l_made pass0 (pa_cons (pe_op op_rep (pe_lst (pa_cons pe_int pa_nil)) pe_int) (pa_cons (pe_op op_rep (pe_lst (pa_cons (pe_op op_pow pe_int pe_int) pa_nil)) pe_int) pa_nil))) pe_str (nomark _))
        (pss_one (ps_ret pe_bl)) pss_nil)
      (pss_cons (ps_for PassesOwn.never rfl (pi_range1 rfl T.n_range (pa_cons (pe_callB (call_max2 rfl) (by rfl) T.n_max (by decide +kernel) (pa_cons pe_int (pa_cons (pe_callB (call_min2 rfl) (by rfl) T.n_min (by decide +kernel) (pa_cons (pe_callB call_len_seq (by rfl) T.n_len (by decide +kernel) (pa_cons (pv 0) pa_nil)) (pa_cons pe_int pa_nil))) pa_nil))) pa_nil)) (pg_name (i := 1) sc_law.nd rfl (Or.inl rfl))
        (pss_cons (ps_set (i := 2) sc_law.nd rfl (Or.inr rfl) (pe_callR (ok_hand T) (hr.mono (by decide)) T.A_l_hand.kp rfl T.g_l_hand pass0 (pa_cons (pv 0) (pa_cons (pv 1) pa_nil))))
      (pss_cons (ps_setLc (i := 3) (own := [("_law_turn", 8)]) (g := (gName 8)) (tt := tYes) rfl sc_law.nd rfl rfl (sw_true rfl rfl rfl (by decide +kernel)) (pi_range1 rfl T.n_range (pa_cons (pe_op op_add pe_int (pe_callR (ok_draw T) (hr.mono (by decide)) T.A_l_draw.kp rfl T.g_l_draw pass0 (pa_cons (pv 2) (pa_cons pe_int pa_nil)))) pa_nil)) (blkOk_by (own := [("_law_turn", 8)]) (N := n_law) (sc := defScope s_law) (by decide +kernel)) (fun _ _ _ _ _ => (pg_name (i := 8) sc_law.nd rfl (Or.inl rfl))) (fun _ _ _ _ _ => pts_nil) (fun _ _ _ _ _ => (pe_op op_add pe_int (pe_callR (ok_draw T) (hr.mono (by decide)) T.A_l_draw.kp rfl T.g_l_draw pass0 (pa_cons (pv 2) (pa_cons pe_int pa_nil))))))
      (pss_cons (ps_for PassesOwn.never rfl (pi_list (pe_lst (pa_cons pe_non (pa_cons (pe_tup (pa_cons pe_int pa_nil)) (pa_cons pe_dnewK (pa_cons pe_int (pa_cons (pe_lst (pa_cons pe_int pa_nil)) (pa_cons (pe_op op_rep (pe_lst (pa_cons pe_int pa_nil)) pe_int) (pa_cons (pe_lst (pa_cons pe_bl pa_nil)) (pa_cons (pe_lst (pa_cons pe_str pa_nil)) (pa_cons (pe_lst (pa_cons (pe_op op_add (pe_op op_pow pe_int pe_int) pe_int) pa_nil)) (pa_cons (pe_lst (pa_cons (pe_un un_neg pe_int) pa_nil)) (pa_cons (pe_op op_cat (pv 3) (pe_lst (pa_cons pe_non pa_nil))) (pa_cons (pe_lst (pa_cons pe_int (pa_cons pe_int pa_nil))) pa_nil)))))))))))))) (pg_name (i := 4) sc_law.nd rfl (Or.inl rfl))
        (pss_one (ps_if (PW.pt (pw_or (pt_cmpR (L2.op_neD hr.units) (pe_callR (ok_l_made T) (hr.mono (by decide)) T.A_l_made.kp rfl T.g_l_made pass0 (pa_cons (pv 4) (pa_cons pe_non pa_nil))) (pe_lst (pa_cons pe_str (pa_cons pe_bl pa_nil))) (nomark _)) (pw_or1 (pt_cmpR (L2.op_neD hr.units) (pe_callR (ok_l_made T) (hr.mono (by decide)) T.A_l_made.kp rfl T.g_l_made pass0 (pa_cons (pv 3) (pa_cons (pv 4) pa_nil))) (pe_lst (pa_cons pe_str (pa_cons pe_bl pa_nil))) (nomark _)))))
        (pss_one (ps_ret pe_bl)) pss_nil)))
      (pss_cons (ps_set (i := 5) sc_law.nd rfl (Or.inr rfl) (pe_makeR T.M_GreatMap (fnR_calm (okX_ginit T)) (hr.mono (by decide)) rfl T.g_GreatMap pass0 (pa_cons (pv 3) (pa_cons (pe_slice sl_list (pv 3) (po_some pe_int) po_none) pa_nil))))
      (pss_cons (ps_set (i := 4) sc_law.nd rfl (Or.inl rfl) (pe_lst (pa_cons pe_non (pa_cons (pe_tup (pa_cons pe_str pa_nil)) (pa_cons (pe_tup (pa_cons pe_str (pa_cons pe_int pa_nil))) (pa_cons (pe_lst (pa_cons pe_str (pa_cons pe_int (pa_cons pe_int pa_nil)))) (pa_cons (pe_tup (pa_cons pe_str (pa_cons pe_int (pa_cons pe_int pa_nil)))) (pa_cons (pe_tup (pa_cons pe_str (pa_cons (pe_callB call_len_seq (by rfl) T.n_len (by decide +kernel) (pa_cons (pv 3) pa_nil)) (pa_cons pe_int pa_nil)))) pa_nil))))))))
      (pss_cons (ps_set (i := 4) sc_law.nd rfl (Or.inl rfl) (pe_op op_cat (pv 4) (pe_lst (pa_cons (pe_tup (pa_cons pe_str (pa_cons pe_int (pa_cons (pe_ix ix_list (pv 3) pe_int (fun _ _ => rfl)) pa_nil)))) (pa_cons (pe_tup (pa_cons pe_str (pa_cons (pe_un un_neg pe_int) (pa_cons pe_int pa_nil)))) (pa_cons (pe_tup (pa_cons pe_str (pa_cons pe_int (pa_cons (pe_un un_neg pe_int) pa_nil)))) (pa_cons (pe_tup (pa_cons pe_str (pa_cons (pe_op op_sub (pe_callB call_len_seq (by rfl) T.n_len (by decide +kernel) (pa_cons (pv 3) pa_nil)) pe_int) (pa_cons pe_int pa_nil)))) pa_nil)))))))
      (pss_cons (ps_set (i := 4) sc_law.nd rfl (Or.inl rfl) (pe_op op_cat (pv 4) (pe_lst (pa_cons (pe_tup (pa_cons pe_str (pa_cons pe_bl (pa_cons pe_int pa_nil)))) (pa_cons (pe_tup (pa_cons pe_str (pa_cons pe_int (pa_cons pe_bl pa_nil)))) (pa_cons (pe_tup (pa_cons pe_str (pa_cons pe_int (pa_cons pe_str pa_nil)))) (pa_cons (pe_tup (pa_cons pe_non (pa_cons pe_int (pa_cons pe_int pa_nil)))) (pa_cons pe_int (pa_cons pe_str pa_nil)))))))))
      (pss_cons (ps_set (i := 4) sc_law.nd rfl (Or.inl rfl) (pe_op op_cat (pv 4) (pe_lst (pa_cons (pe_tup (pa_cons pe_str (pa_cons pe_int (pa_cons pe_int (pa_cons pe_int pa_nil))))) (pa_cons (pe_tup (pa_cons (pe_lst (pa_cons pe_str pa_nil)) (pa_cons pe_int (pa_cons pe_int pa_nil)))) (pa_cons (pe_tup (pa_cons pe_str (pa_cons (pe_lst (pa_cons pe_int pa_nil)) (pa_cons pe_int pa_nil)))) pa_nil))))))
      (pss_cons (ps_for PassesOwn.never rfl (pi_list (pv 4)) (pg_name (i := 6) sc_law.nd rfl (Or.inr rfl))
        (pss_cons (ps_set (i := 7) sc_law.nd rfl (Or.inl rfl) (pe_lst (pa_cons pe_str (pa_cons pe_bl (pa_cons (pe_callB (call_repr gd hr.units) (by rfl) T.n_repr (by decide +kernel) (pa_cons (pv 6) pa_nil)) pa_nil)))))
      (pss_cons (ps_if (pt_cmpR (L2.op_neD hr.units) (LamX.pe_lamcall (k := 12) (T := lamTs T) (TT := TT_l_refused T) rfl T.g_l_refused T.A_l_refused.kp lk_l_refused hcg_l_refused hb_l_refused sc_l_refused rfl (Or.inl rfl) hG_l_refused TBx rfl hmT huT (hr.mono (by decide)) (LamX.lamS_by (sc := defScope s_law) (by decide +kernel)) rfl (fun _ _ _ _ _ => rfl) (fun A' outer' s' H' E' f' c'' hr' => (pe_methR (pv 5) T.o_GreatMap.cl T.meth_GreatMap_after (okX_after T) (hr'.mono (by decide)) (passes_call (takes_of rfl rfl rfl rfl) (fun _ _ _ _ h => h)) (pa_cons (pv 6) (pa_cons pe_non pa_nil))))) (pv 7) (nomark _))
        (pss_one (ps_ret pe_bl)) pss_nil)
      (pss_one (ps_if (pt_cmpR (L2.op_neD hr.units) (LamX.pe_lamcall (k := 12) (T := lamTs T) (TT := TT_l_refused T) rfl T.g_l_refused T.A_l_refused.kp lk_l_refused hcg_l_refused hb_l_refused sc_l_refused rfl (Or.inl rfl) hG_l_refused TBx rfl hmT huT (hr.mono (by decide)) (LamX.lamS_by (sc := defScope s_law) (by decide +kernel)) rfl (fun _ _ _ _ _ => rfl) (fun A' outer' s' H' E' f' c'' hr' => (pe_methR (pv 5) T.o_GreatMap.cl T.meth_GreatMap_fate (okX_fate T) (hr'.mono (by decide)) (passes_call (takes_of rfl rfl rfl rfl) (fun _ _ _ _ h => h)) (pa_cons (pv 6) pa_nil)))) (pv 7) (nomark _))
        (pss_one (ps_ret pe_bl)) pss_nil)))))
      (pss_one (ps_for PassesOwn.never rfl (pi_list (pe_lst (pa_cons pe_non (pa_cons pe_bl (pa_cons pe_str (pa_cons (pe_tup (pa_cons pe_int pa_nil)) (pa_cons (pe_lst (pa_cons pe_int pa_nil)) pa_nil))))))) (pg_name (i := 6) sc_law.nd rfl (Or.inr rfl))
        (pss_one (ps_if (pt_cmpR (L2.op_neD hr.units) (LamX.pe_lamcall (k := 12) (T := lamTs T) (TT := TT_l_refused T) rfl T.g_l_refused T.A_l_refused.kp lk_l_refused hcg_l_refused hb_l_refused sc_l_refused rfl (Or.inl rfl) hG_l_refused TBx rfl hmT huT (hr.mono (by decide)) (LamX.lamS_by (sc := defScope s_law) (by decide +kernel)) rfl (fun _ _ _ _ _ => rfl) (fun A' outer' s' H' E' f' c'' hr' => (pe_methR (pv 5) T.o_GreatMap.cl T.meth_GreatMap_after (okX_after T) (hr'.mono (by decide)) (passes_call (takes_of rfl rfl rfl rfl) (fun _ _ _ _ h => h)) (pa_cons (pe_tup (pa_cons pe_str (pa_cons pe_int (pa_cons pe_int pa_nil)))) (pa_cons (pv 6) pa_nil))))) (pe_lst (pa_cons pe_str (pa_cons pe_bl (pa_cons (pe_callB (call_repr gd hr.units) (by rfl) T.n_repr (by decide +kernel) (pa_cons (pv 6) pa_nil)) pa_nil)))) (nomark _))
        (pss_one (ps_ret pe_bl)) pss_nil))))))))))))))
      (pss_one (ps_ret pe_bl)))), ?_⟩
    refine ⟨one_le, ?_⟩
    refine fun a1 n_a1 => ?_
    generalize g_a1 : L2.upd _ a1 _ = H1
    obtain ⟨s_H1, e_a1⟩ := U.upd_facts g_a1 n_a1
    clear g_a1
    refine ⟨a1, 100, _, rfl, rfl, e_a1, by decide, by decide, (by show 1 * 100 ≤ sizeLine; decide), ?_⟩
    refine fun a2 n_a2 => ?_
    generalize g_a2 : L2.upd _ a2 _ = H2
    obtain ⟨s_H2, e_a2⟩ := U.upd_facts g_a2 n_a2
    clear g_a2
    refine ⟨_, _, rfl, rfl, ⟨by decide, by decide, by decide⟩, one_le, ?_⟩
    refine fun a3 n_a3 => ?_
    generalize g_a3 : L2.upd _ a3 _ = H3
    obtain ⟨s_H3, e_a3⟩ := U.upd_facts g_a3 n_a3
    clear g_a3
    refine ⟨a3, 100, _, rfl, rfl, e_a3, by decide, by decide, (by show 1 * 100 ≤ sizeLine; decide), ?_⟩
    refine fun a4 n_a4 => ?_
    generalize g_a4 : L2.upd _ a4 _ = H4
    obtain ⟨s_H4, e_a4⟩ := U.upd_facts g_a4 n_a4
    clear g_a4
    refine ⟨_, _, true, true, rfl, lenF_list (U.carry (H' := H4) (by array_mem_dec) e_a2) (known_rep trivial) (by decide) (by decide +kernel), .inr ⟨rfl, lenF_list e_a4 (known_rep trivial) (by decide) (by decide +kernel), .inr ⟨rfl, fun H5 s5 => ?_⟩⟩⟩
    refine ⟨.str "made", .str "made", .str _, .str _, by decide +kernel, by decide +kernel, _, rfl, ?_⟩
    rw [show PyData.eqv (.str "made") (.str "made") = true by decide +kernel]
    refine iteF ?_
    have x5 : ExtN H H5 := ExtN.of (by array_mem_dec)
    have t5 : Tabs (lamTs T) H5 := t0.ext (by array_mem_dec)
    clear s5 s_H4 s_H3 s_H2 s_H1 e_a1 e_a2 e_a3 e_a4
    refine ⟨_, rfl, a, _, rfl, .inl (sqL_extN hS x5), _, _, rfl, _, _, rfl, _, rfl, ?_, ?_, ?_⟩
    · rw [List.length_map]; (repeat' split) <;> omega
    · rw [List.length_map]; (repeat' split) <;> omega
    refine for_it (walk_range (lo := 0)) (fun i σ H' => ∃ v1 v2 v3 v4 v5 v6 v7 v8, σ = [some (.ref a), v1, v2, v3, v4, v5, v6, v7, v8] ∧ ExtN H H' ∧ Tabs (lamTs T) H')
      ⟨_, _, _, _, _, _, _, _, rfl, x5, t5⟩ (fun _ _ _ _ _ => trivial) ?_ ?_
    · rintro k v σ Ha0 Ha hk ⟨v1, v2, v3, v4, v5, v6, v7, v8, rfl, xa, ta⟩ ⟨rfl, rfl⟩
      refine ⟨_, rfl, _, rfl, a, ns, _, rfl, sqL_extN hS xa, hl, fun p Hb x y np hp sb hx hy hy2 => ?_⟩
      have pool2 : PoolAt Hb p := ⟨x, y, hp, hx, hy, hy2⟩
      have npb : ∀ b o, H b = some o → (∀ ps, o ≠ .tbl ps) → b ≠ p := fun b o hb ho => ne_of_none (xa b o hb ho) np
      refine nx_lc ?_
      refine lc_intsD (p := p) 4 (by decide) (fun R rr => ?_) (fun _ => rfl) (fun k Hc pool3 R rr => ?_) (fun L ls Hc pool3 off3 nL eL l1 l4 hls => ?_)
      · exact draw_R rfl (fun R r => r) pool2 (by decide) (by decide) fun r Hc r0 r1 pool3 off3 => ⟨_, _, rfl, rfl, _, rfl, by omega, by omega, rr r Hc r0 r1 pool3 off3⟩
      · exact draw_R rfl (fun R r => r) pool3 (by decide) (by decide) fun r Hd r0 r1 pool4 off4 => ⟨_, _, rfl, rfl, rr r Hd r0 r1 pool4 off4⟩
      have xc : ExtN H Hc := fun b o hb ho => off3 _ _ (npb b o hb ho) (sb _ _ (xa b o hb ho))
      have tc : Tabs (lamTs T) Hc := tabs_off (ta.ext sb) off3 pool2.lst
      refine ⟨one_le, ?_⟩
      refine fun o1 n_o1 => ?_
      generalize g_o1 : L2.upd _ o1 _ = G1
      obtain ⟨s_G1, e_o1⟩ := U.upd_facts g_o1 n_o1
      clear g_o1
      refine fun o2 n_o2 => ?_
      generalize g_o2 : L2.upd _ o2 _ = G2
      obtain ⟨s_G2, e_o2⟩ := U.upd_facts g_o2 n_o2
      clear g_o2
      refine ⟨one_le, ?_⟩
      refine fun o3 n_o3 => ?_
      generalize g_o3 : L2.upd _ o3 _ = G3
      obtain ⟨s_G3, e_o3⟩ := U.upd_facts g_o3 n_o3
      clear g_o3
      refine ⟨one_le, ?_⟩
      refine fun o4 n_o4 => ?_
      generalize g_o4 : L2.upd _ o4 _ = G4
      obtain ⟨s_G4, e_o4⟩ := U.upd_facts g_o4 n_o4
      clear g_o4
      refine ⟨o4, 101, _, rfl, rfl, e_o4, by decide, by decide, (by show 1 * 101 ≤ sizeLine; decide), ?_⟩
      refine fun o5 n_o5 => ?_
      generalize g_o5 : L2.upd _ o5 _ = G5
      obtain ⟨s_G5, e_o5⟩ := U.upd_facts g_o5 n_o5
      clear g_o5
      refine ⟨one_le, ?_⟩
      refine fun o6 n_o6 => ?_
      generalize g_o6 : L2.upd _ o6 _ = G6
      obtain ⟨s_G6, e_o6⟩ := U.upd_facts g_o6 n_o6
      clear g_o6
      refine ⟨one_le, ?_⟩
      refine fun o7 n_o7 => ?_
      generalize g_o7 : L2.upd _ o7 _ = G7
      obtain ⟨s_G7, e_o7⟩ := U.upd_facts g_o7 n_o7
      clear g_o7
      refine ⟨_, _, rfl, rfl, ⟨by decide, by decide, by decide⟩, _, _, rfl, rfl, one_le, ?_⟩
      refine fun o8 n_o8 => ?_
      generalize g_o8 : L2.upd _ o8 _ = G8
      obtain ⟨s_G8, e_o8⟩ := U.upd_facts g_o8 n_o8
      clear g_o8
      refine ⟨_, rfl, one_le, ?_⟩
      refine fun o9 n_o9 => ?_
      generalize g_o9 : L2.upd _ o9 _ = G9
      obtain ⟨s_G9, e_o9⟩ := U.upd_facts g_o9 n_o9
      clear g_o9
      refine ⟨_, rfl, one_le, ?_⟩
      refine fun o10 n_o10 => ?_
      generalize g_o10 : L2.upd _ o10 _ = G10
      obtain ⟨s_G10, e_o10⟩ := U.upd_facts g_o10 n_o10
      clear g_o10
      refine ⟨L, o10, _, _, rfl, rfl, U.carry (H' := G10) (by array_mem_dec) eL, e_o10, le_line (by rw [List.length_map]; show ls.length + 1 ≤ 100000; omega), ?_⟩
      refine fun o11 n_o11 => ?_
      generalize g_o11 : L2.upd _ o11 _ = G11
      obtain ⟨s_G11, e_o11⟩ := U.upd_facts g_o11 n_o11
      clear g_o11
      refine ⟨two_le, ?_⟩
      refine fun o12 n_o12 => ?_
      generalize g_o12 : L2.upd _ o12 _ = G12
      obtain ⟨s_G12, e_o12⟩ := U.upd_facts g_o12 n_o12
      clear g_o12
      refine ⟨le_line (by show 12 ≤ 100000; decide), ?_⟩
      refine fun OD n_OD => ?_
      generalize g_OD : L2.upd _ OD _ = G13
      obtain ⟨s_G13, e_OD⟩ := U.upd_facts g_OD n_OD
      clear g_OD
      refine ⟨OD, rfl, ⟨_, SqL.of e_OD⟩, ?_⟩
      have odds : ∀ v ∈ [V.non, .ref o1, .ref o2, .int 5, .ref o3, .ref o5, .ref o6, .ref o7, .ref o8, .ref o9, .ref o11, .ref o12], LenV T.C_GreatMap G13 v false := by
        intro v hv
        simp only [List.mem_cons, List.not_mem_nil, or_false] at hv
        rcases hv with rfl | rfl | rfl | rfl | rfl | rfl | rfl | rfl | rfl | rfl | rfl | rfl
        · exact ⟨trivial, .inl ⟨id, rfl⟩⟩
        · exact lenF_tup (U.carry (H' := G13) (by array_mem_dec) e_o1)
        · exact lenF_dict (U.carry (H' := G13) (by array_mem_dec) e_o2)
        · exact ⟨trivial, .inl ⟨id, rfl⟩⟩
        · exact lenF_list (U.carry (H' := G13) (by array_mem_dec) e_o3) (fun y hy => by rw [List.mem_singleton] at hy; rw [hy]; trivial) (by decide) (by decide +kernel)
        · exact lenF_list (U.carry (H' := G13) (by array_mem_dec) e_o5) (known_rep trivial) (by decide) (by decide +kernel)
        · exact lenF_list (U.carry (H' := G13) (by array_mem_dec) e_o6) (fun y hy => by rw [List.mem_singleton] at hy; rw [hy]; trivial) (by decide) (by decide +kernel)
        · exact lenF_list (U.carry (H' := G13) (by array_mem_dec) e_o7) (fun y hy => by rw [List.mem_singleton] at hy; rw [hy]; trivial) (by decide) (by decide +kernel)
        · exact lenF_list (U.carry (H' := G13) (by array_mem_dec) e_o8) (fun y hy => by rw [List.mem_singleton] at hy; rw [hy]; trivial) (by decide) (by decide +kernel)
        · exact lenF_list (U.carry (H' := G13) (by array_mem_dec) e_o9) (fun y hy => by rw [List.mem_singleton] at hy; rw [hy]; trivial) (by decide) (by decide +kernel)
        · exact lenF_list (U.carry (H' := G13) (by array_mem_dec) e_o11) (fun y hy => by
            rcases List.mem_append.mp hy with hy | hy
            · exact known_ns y hy
            · rw [List.mem_singleton] at hy; rw [hy]; trivial) (by rw [List.length_append, List.length_map]; show ls.length + 1 ≤ 1000; omega) lenOk_non
        · exact lenF_list (U.carry (H' := G13) (by array_mem_dec) e_o12) (fun y hy => by
            simp only [List.mem_cons, List.not_mem_nil, or_false] at hy
            rcases hy with rfl | rfl <;> trivial) (by decide) (by decide +kernel)
      have lenL : LenV T.C_GreatMap G13 (.ref L) true := lenF_list (U.carry (H' := G13) (by array_mem_dec) eL) known_ns (by rw [List.length_map]; omega) (lenOk_ns hls (by omega))
      replace eL := U.carry (H' := G13) (by array_mem_dec) eL
      have xg : ExtN H G13 := xc.trans (ExtN.of (by array_mem_dec))
      have tg : Tabs (lamTs T) G13 := tc.ext (by array_mem_dec)
      have poolg : PoolAt G13 p := pool3.same (by array_mem_dec)
      clear s_G13 s_G12 s_G11 s_G10 s_G9 s_G8 s_G7 s_G6 s_G5 s_G4 s_G3 s_G2 s_G1 e_o1 e_o2 e_o3 e_o4 e_o5 e_o6 e_o7 e_o8 e_o9 e_o10 e_o11 e_o12 n_o1 n_o2 n_o3 n_o4 n_o5 n_o6 n_o7 n_o8 n_o9 n_o10 n_o11 n_o12 n_OD
      refine for_it (walk_list (xs := [V.non, .ref o1, .ref o2, .int 5, .ref o3, .ref o5, .ref o6, .ref o7, .ref o8, .ref o9, .ref o11, .ref o12])) (fun i σ H' => ∃ w4, σ = [some (.ref a), some (.int (0 + (k : Nat))), some (.ref p), some (.ref L), w4, v5, v6, v7, v8] ∧ Same G13 H')
        ⟨v4, rfl, Same.refl _⟩ (fun i σ H' _ ⟨_, _, z⟩ => SqL.of (z _ _ e_OD)) ?_ ?_
      · rintro i v σ He0 He hi ⟨w4, rfl, se⟩ ⟨rfl, ev⟩
        have lv := (odds v (List.mem_of_getElem? ev)).same se
        refine ⟨_, rfl, v, .non, false, false, rfl, lv, .inl ⟨rfl, fun q1 F1 sf1 nq1 eq1 => ⟨two_le, ?_⟩⟩⟩
        refine fun q2 n_q2 => ?_
        generalize g_q2 : L2.upd _ q2 _ = F2
        obtain ⟨s_F2, e_q2⟩ := U.upd_facts g_q2 n_q2
        clear g_q2
        obtain ⟨d1, d2, g1, g2, g3, g4, g5⟩ := eq2 (K := K) (s_F2 _ _ eq1) e_q2 sh_cy
        refine ⟨d1, d2, g1, g2, g3, g4, _, rfl, ?_⟩
        rw [g5]
        clear g1 g2 g3 g4 g5 d1 d2
        refine iteF ?_
        refine ⟨_, rfl, _, rfl, .ref L, v, true, false, rfl, lenL.same (by array_mem_dec), .inr ⟨rfl, lv.same (by array_mem_dec), .inl ⟨rfl, fun q3 F3 sf3 nq3 eq3 => ⟨two_le, ?_⟩⟩⟩⟩
        refine fun q4 n_q4 => ?_
        generalize g_q4 : L2.upd _ q4 _ = F4
        obtain ⟨s_F4, e_q4⟩ := U.upd_facts g_q4 n_q4
        clear g_q4
        obtain ⟨d1, d2, g1, g2, g3, g4, g5⟩ := eq2 (K := K) (s_F4 _ _ eq3) e_q4 sh_ch
        refine ⟨d1, d2, g1, g2, g3, g4, _, rfl, ?_⟩
        rw [g5]
        clear g1 g2 g3 g4 g5 d1 d2
        refine iteF ?_
        exact ⟨_, rfl, (by array_mem_dec)⟩
      · rintro σ Gx ⟨w4, rfl, sx⟩
        have eLx := sx _ _ eL
        refine ⟨_, rfl, _, rfl, _, rfl, L, _, rfl, SqL.of eLx, ?_⟩
        refine fun M n_M => ?_
        generalize g_M : L2.upd _ M _ = J1
        obtain ⟨s_J1, e_M⟩ := U.upd_facts g_M n_M
        clear g_M
        rw [cut_drop1 _ (by rw [List.length_map]; omega), ← List.map_drop] at e_M
        refine fun g dx ng ndx nn => ?_
        have s0 : Same J1 (upd (upd J1 dx (.own g)) g (.ins T.C_GreatMap dx [])) := (Same.new ndx).trans (Same.new (by rw [upd_ne nn.symm]; exact ng))
        generalize e0 : upd (upd J1 dx (.own g)) g (.ins T.C_GreatMap dx []) = J2 at s0 ⊢
        have ep : J2 g = some (.ins T.C_GreatMap dx []) := by rw [← e0]; exact upd_same
        have eL2 := s0 _ _ (s_J1 _ _ eLx)
        have eM2 := s0 _ _ e_M
        refine ⟨g, dx, .ref L, .ref M, true, true, rfl, ep, ((lenL.same sx).same s_J1).same s0, .inr ⟨rfl, lenF_list eM2 known_ns (by rw [List.length_map, List.length_drop]; omega) (lenOk_ns (fun n hn => hls n (List.mem_of_mem_drop hn)) (by rw [List.length_drop]; omega)), .inr ⟨rfl, fun cy ch a' b' J3 D1 D2 ea eb ha hb _ _ _ off n1 n2 eg e1 e2 => ⟨rfl, ?_⟩⟩⟩⟩
        cases ea
        cases eb
        have s3 : Same J1 J3 := fun c o hc => off c o (fun z => by rw [z] at hc; rw [hc] at ng; cases ng) (s0 _ _ hc)
        have hG : IsGreat T.C_GreatMap J3 g ls (ls.drop 1) := by
          rw [eL2] at ha
          rw [eM2] at hb
          have c1 : ls.map V.int = cy.map V.int := by injection Option.some.inj ha
          have c2 : (ls.drop 1).map V.int = ch.map V.int := by injection Option.some.inj hb
          exact ⟨⟨dx, D1, D2, eg, by rw [e1, c1], by rw [e2, c2]⟩, by omega, by rw [List.length_drop]; omega⟩
        have eL3 := s3 _ _ (s_J1 _ _ eLx)
        have xj : ExtN H J3 := (xg.trans (ExtN.of sx)).trans (ExtN.of (s_J1.trans s3))
        have tj : Tabs (lamTs T) J3 := (tg.ext sx).ext (s_J1.trans s3)
        clear s0 e0 ep eL2 eM2 ha hb off n1 n2 eg e1 e2 ng ndx nn eLx sx s3 s_J1 e_M n_M
        obtain ⟨n0, h0⟩ : ∃ n0, ls[0]? = some n0 := ⟨ls[0], List.getElem?_eq_getElem (by omega)⟩
        have h0' : (ls.map V.int)[0]? = some (.int n0) := by rw [List.getElem?_map, h0]; rfl
        have hn0 := hls n0 (List.mem_of_getElem? h0)
        refine ⟨one_le, ?_⟩
        refine fun u1 n_u1 => ?_
        generalize g_u1 : L2.upd _ u1 _ = J4
        obtain ⟨s_J4, e_u1⟩ := U.upd_facts g_u1 n_u1
        clear g_u1
        refine ⟨two_le, ?_⟩
        refine fun u2 n_u2 => ?_
        generalize g_u2 : L2.upd _ u2 _ = J5
        obtain ⟨s_J5, e_u2⟩ := U.upd_facts g_u2 n_u2
        clear g_u2
        refine ⟨three_le, ?_⟩
        refine fun u3 n_u3 => ?_
        generalize g_u3 : L2.upd _ u3 _ = J6
        obtain ⟨s_J6, e_u3⟩ := U.upd_facts g_u3 n_u3
        clear g_u3
        refine ⟨three_le, ?_⟩
        refine fun u4 n_u4 => ?_
        generalize g_u4 : L2.upd _ u4 _ = J7
        obtain ⟨s_J7, e_u4⟩ := U.upd_facts g_u4 n_u4
        clear g_u4
        refine ⟨_, rfl, L, _, rfl, .inl (SqL.of (U.carry (H' := J7) (by array_mem_dec) eL3)), three_le, ?_⟩
        refine fun u5 n_u5 => ?_
        generalize g_u5 : L2.upd _ u5 _ = J8
        obtain ⟨s_J8, e_u5⟩ := U.upd_facts g_u5 n_u5
        clear g_u5
        refine ⟨le_line (by show 6 ≤ 100000; decide), ?_⟩
        refine fun O1 n_O1 => ?_
        generalize g_O1 : L2.upd _ O1 _ = J9
        obtain ⟨s_J9, e_O1⟩ := U.upd_facts g_O1 n_O1
        clear g_O1
        refine ⟨_, rfl, _, rfl, L, _, 0, _, rfl, rfl, SqL.of (U.carry (H' := J9) (by array_mem_dec) eL3), atI_nat (j := 0) h0', three_le, ?_⟩
        refine fun u6 n_u6 => ?_
        generalize g_u6 : L2.upd _ u6 _ = J10
        obtain ⟨s_J10, e_u6⟩ := U.upd_facts g_u6 n_u6
        clear g_u6
        refine ⟨_, rfl, three_le, ?_⟩
        refine fun u7 n_u7 => ?_
        generalize g_u7 : L2.upd _ u7 _ = J11
        obtain ⟨s_J11, e_u7⟩ := U.upd_facts g_u7 n_u7
        clear g_u7
        refine ⟨_, rfl, three_le, ?_⟩
        refine fun u8 n_u8 => ?_
        generalize g_u8 : L2.upd _ u8 _ = J12
        obtain ⟨s_J12, e_u8⟩ := U.upd_facts g_u8 n_u8
        clear g_u8
        refine ⟨_, rfl, L, _, rfl, .inl (SqL.of (U.carry (H' := J12) (by array_mem_dec) eL3)), _, _, rfl, rfl, three_le, ?_⟩
        refine fun u9 n_u9 => ?_
        generalize g_u9 : L2.upd _ u9 _ = J13
        obtain ⟨s_J13, e_u9⟩ := U.upd_facts g_u9 n_u9
        clear g_u9
        refine ⟨le_line (by show 4 ≤ 100000; decide), ?_⟩
        refine fun O2 n_O2 => ?_
        generalize g_O2 : L2.upd _ O2 _ = J14
        obtain ⟨s_J14, e_O2⟩ := U.upd_facts g_O2 n_O2
        clear g_O2
        refine ⟨O1, O2, _, _, rfl, rfl, U.carry (H' := J14) (by array_mem_dec) e_O1, e_O2, le_line (by show 10 ≤ 100000; decide), ?_⟩
        refine fun O3 n_O3 => ?_
        generalize g_O3 : L2.upd _ O3 _ = J15
        obtain ⟨s_J15, e_O3⟩ := U.upd_facts g_O3 n_O3
        clear g_O3
        refine ⟨_, rfl, three_le, ?_⟩
        refine fun u10 n_u10 => ?_
        generalize g_u10 : L2.upd _ u10 _ = J16
        obtain ⟨s_J16, e_u10⟩ := U.upd_facts g_u10 n_u10
        clear g_u10
        refine ⟨three_le, ?_⟩
        refine fun u11 n_u11 => ?_
        generalize g_u11 : L2.upd _ u11 _ = J17
        obtain ⟨s_J17, e_u11⟩ := U.upd_facts g_u11 n_u11
        clear g_u11
        refine ⟨three_le, ?_⟩
        refine fun u12 n_u12 => ?_
        generalize g_u12 : L2.upd _ u12 _ = J18
        obtain ⟨s_J18, e_u12⟩ := U.upd_facts g_u12 n_u12
        clear g_u12
        refine ⟨three_le, ?_⟩
        refine fun u13 n_u13 => ?_
        generalize g_u13 : L2.upd _ u13 _ = J19
        obtain ⟨s_J19, e_u13⟩ := U.upd_facts g_u13 n_u13
        clear g_u13
        refine ⟨le_line (by show 6 ≤ 100000; decide), ?_⟩
        refine fun O4 n_O4 => ?_
        generalize g_O4 : L2.upd _ O4 _ = J20
        obtain ⟨s_J20, e_O4⟩ := U.upd_facts g_O4 n_O4
        clear g_O4
        refine ⟨O3, O4, _, _, rfl, rfl, U.carry (H' := J20) (by array_mem_dec) e_O3, e_O4, le_line (by show 16 ≤ 100000; decide), ?_⟩
        refine fun O5 n_O5 => ?_
        generalize g_O5 : L2.upd _ O5 _ = J21
        obtain ⟨s_J21, e_O5⟩ := U.upd_facts g_O5 n_O5
        clear g_O5
        refine ⟨_, rfl, le_line (by show 4 ≤ 100000; decide), ?_⟩
        refine fun u14 n_u14 => ?_
        generalize g_u14 : L2.upd _ u14 _ = J22
        obtain ⟨s_J22, e_u14⟩ := U.upd_facts g_u14 n_u14
        clear g_u14
        refine ⟨one_le, ?_⟩
        refine fun u15 n_u15 => ?_
        generalize g_u15 : L2.upd _ u15 _ = J23
        obtain ⟨s_J23, e_u15⟩ := U.upd_facts g_u15 n_u15
        clear g_u15
        refine ⟨three_le, ?_⟩
        refine fun u16 n_u16 => ?_
        generalize g_u16 : L2.upd _ u16 _ = J24
        obtain ⟨s_J24, e_u16⟩ := U.upd_facts g_u16 n_u16
        clear g_u16
        refine ⟨one_le, ?_⟩
        refine fun u17 n_u17 => ?_
        generalize g_u17 : L2.upd _ u17 _ = J25
        obtain ⟨s_J25, e_u17⟩ := U.upd_facts g_u17 n_u17
        clear g_u17
        refine ⟨three_le, ?_⟩
        refine fun u18 n_u18 => ?_
        generalize g_u18 : L2.upd _ u18 _ = J26
        obtain ⟨s_J26, e_u18⟩ := U.upd_facts g_u18 n_u18
        clear g_u18
        refine ⟨three_le, ?_⟩
        refine fun O6 n_O6 => ?_
        generalize g_O6 : L2.upd _ O6 _ = J27
        obtain ⟨s_J27, e_O6⟩ := U.upd_facts g_O6 n_O6
        clear g_O6
        refine ⟨O5, O6, _, _, rfl, rfl, U.carry (H' := J27) (by array_mem_dec) e_O5, e_O6, le_line (by show 19 ≤ 100000; decide), ?_⟩
        refine fun O7 n_O7 => ?_
        generalize g_O7 : L2.upd _ O7 _ = J28
        obtain ⟨s_J28, e_O7⟩ := U.upd_facts g_O7 n_O7
        clear g_O7
        replace e_O7 : J28 O7 = some (.lst [V.non, .ref u1, .ref u2, .ref u3, .ref u4, .ref u5, .ref u6, .ref u7, .ref u8, .ref u9, .ref u10, .ref u11, .ref u12, .ref u13, .int 5, .str "cycle", .ref u14, .ref u16, .ref u18]) := e_O7
        replace e_u1 := U.carry (H' := J28) (by array_mem_dec) e_u1
        replace e_u2 := U.carry (H' := J28) (by array_mem_dec) e_u2
        replace e_u3 := U.carry (H' := J28) (by array_mem_dec) e_u3
        replace e_u4 := U.carry (H' := J28) (by array_mem_dec) e_u4
        replace e_u5 := U.carry (H' := J28) (by array_mem_dec) e_u5
        replace e_u6 := U.carry (H' := J28) (by array_mem_dec) e_u6
        replace e_u7 := U.carry (H' := J28) (by array_mem_dec) e_u7
        replace e_u8 := U.carry (H' := J28) (by array_mem_dec) e_u8
        replace e_u9 := U.carry (H' := J28) (by array_mem_dec) e_u9
        replace e_u10 := U.carry (H' := J28) (by array_mem_dec) e_u10
        replace e_u11 := U.carry (H' := J28) (by array_mem_dec) e_u11
        replace e_u12 := U.carry (H' := J28) (by array_mem_dec) e_u12
        replace e_u13 := U.carry (H' := J28) (by array_mem_dec) e_u13
        replace e_u14 := U.carry (H' := J28) (by array_mem_dec) e_u14
        replace e_u15 := U.carry (H' := J28) (by array_mem_dec) e_u15
        replace e_u16 := U.carry (H' := J28) (by array_mem_dec) e_u16
        replace e_u17 := U.carry (H' := J28) (by array_mem_dec) e_u17
        replace e_u18 := U.carry (H' := J28) (by array_mem_dec) e_u18
        have things : ∀ v ∈ [V.non, .ref u1, .ref u2, .ref u3, .ref u4, .ref u5, .ref u6, .ref u7, .ref u8, .ref u9, .ref u10, .ref u11, .ref u12, .ref u13, .int 5, .str "cycle", .ref u14, .ref u16, .ref u18], ∃ d, okD d = true ∧ Dp K J28 v d ∧ PlaceV K T.C_GreatMap J28 ls (ls.drop 1) v none := by
          intro v hv
          simp only [List.mem_cons, List.not_mem_nil, or_false] at hv
          rcases hv with rfl | rfl | rfl | rfl | rfl | rfl | rfl | rfl | rfl | rfl | rfl | rfl | rfl | rfl | rfl | rfl | rfl | rfl | rfl
          · exact ⟨.none, by decide +kernel, .non, .notT trivial id⟩
          · exact ⟨.tuple [.str "cycle"], by decide +kernel, .tup (SqT.of e_u1) (.cons (.str _) .nil), .len e_u1 (by decide) (by decide)⟩
          · exact ⟨.tuple [.str "cycle", .int 0], by decide +kernel, .tup (SqT.of e_u2) (.cons (.str _) (.cons (.int _) .nil)), .len e_u2 (by decide) (by decide)⟩
          · exact ⟨.list [.str "cycle", .int 0, .int 0], by decide +kernel, .lst (SqL.of e_u3) (.cons (.str _) (.cons (.int _) (.cons (.int _) .nil))), .notT (.inl ⟨_, e_u3⟩) (by rintro ⟨ys, e2⟩; rw [e_u3] at e2; cases e2)⟩
          · exact ⟨.tuple [.str "ring", .int 0, .int 0], by decide +kernel, .tup (SqT.of e_u4) (.cons (.str _) (.cons (.int _) (.cons (.int _) .nil))), .kind e_u4 (.str _) (by decide +kernel) (by decide +kernel)⟩
          · refine ⟨_, okD_i1 ls.length (by omega), .tup (SqT.of e_u5) ?_, .index (b := true) e_u5 rfl trivial trivial ?_⟩
            · rw [List.length_map]; exact (.cons (.str _) (.cons (.int _) (.cons (.int _) .nil)))
            · rw [List.length_map]; simp only [inR, Bool.and_eq_false_iff, decide_eq_false_iff_not]; right; show ¬ ((ls.length : Int) ≤ (ls.length : Int) - 1); omega
          · refine ⟨_, okD_i2 n0.toNat (by omega), .tup (SqT.of e_u6) ?_, .offset (b := true) (i := 0) e_u6 rfl h0 trivial ?_⟩
            · rw [show ((n0.toNat : Nat) : Int) = n0 by omega]; exact (.cons (.str _) (.cons (.int _) (.cons (.int _) .nil)))
            · simp only [inR, Bool.and_eq_false_iff, decide_eq_false_iff_not]; right; omega
          · exact ⟨.tuple [.str "cycle", .int (-1), .int 0], by decide +kernel, .tup (SqT.of e_u7) (.cons (.str _) (.cons (.int _) (.cons (.int _) .nil))), .index (b := true) e_u7 rfl trivial trivial rfl⟩
          · exact ⟨.tuple [.str "cycle", .int 0, .int (-1)], by decide +kernel, .tup (SqT.of e_u8) (.cons (.str _) (.cons (.int _) (.cons (.int _) .nil))), .offset (b := true) (i := 0) e_u8 rfl h0 trivial rfl⟩
          · refine ⟨_, okD_i3 (ls.length - 1) (by omega), .tup (SqT.of e_u9) ?_, .index (b := false) e_u9 rfl trivial trivial ?_⟩
            · rw [List.length_map, show ((ls.length - 1 : Nat) : Int) = (ls.length : Int) - 1 by omega]; exact (.cons (.str _) (.cons (.int _) (.cons (.int _) .nil)))
            · rw [List.length_map]; simp only [inR, Bool.and_eq_false_iff, decide_eq_false_iff_not]; right; show ¬ ((ls.length : Int) - 1 ≤ ((ls.drop 1).length : Int) - 1); rw [List.length_drop]; omega
          · exact ⟨.tuple [.str "cycle", .bool true, .int 0], by decide +kernel, .tup (SqT.of e_u10) (.cons (.str _) (.cons (.bl _) (.cons (.int _) .nil))), .index (b := true) e_u10 rfl trivial trivial rfl⟩
          · exact ⟨.tuple [.str "cycle", .int 0, .bool false], by decide +kernel, .tup (SqT.of e_u11) (.cons (.str _) (.cons (.int _) (.cons (.bl _) .nil))), .offset (b := true) (i := 0) e_u11 rfl h0 trivial rfl⟩
          · exact ⟨.tuple [.str "cycle", .int 0, .str "0"], by decide +kernel, .tup (SqT.of e_u12) (.cons (.str _) (.cons (.int _) (.cons (.str _) .nil))), .offset (b := true) (i := 0) e_u12 rfl h0 trivial rfl⟩
          · exact ⟨.tuple [.none, .int 0, .int 0], by decide +kernel, .tup (SqT.of e_u13) (.cons (.non) (.cons (.int _) (.cons (.int _) .nil))), .kind e_u13 .non (by decide +kernel) (by decide +kernel)⟩
          · exact ⟨.int 5, by decide +kernel, .int _, .notT trivial id⟩
          · exact ⟨.str "cycle", by decide +kernel, .str _, .notT trivial id⟩
          · exact ⟨.tuple [.str "cycle", .int 0, .int 0, .int 0], by decide +kernel, .tup (SqT.of e_u14) (.cons (.str _) (.cons (.int _) (.cons (.int _) (.cons (.int _) .nil)))), .len e_u14 (by decide) (by decide)⟩
          · exact ⟨.tuple [.list [.str "cycle"], .int 0, .int 0], by decide +kernel, .tup (SqT.of e_u16) (.cons (.lst (SqL.of e_u15) (.cons (.str _) .nil)) (.cons (.int _) (.cons (.int _) .nil))), .kind e_u16 (.lst (SqL.of e_u15) (.cons (.str _) .nil)) (by decide +kernel) (by decide +kernel)⟩
          · exact ⟨.tuple [.str "cycle", .list [.int 0], .int 0], by decide +kernel, .tup (SqT.of e_u18) (.cons (.str _) (.cons (.lst (SqL.of e_u17) (.cons (.int _) .nil)) (.cons (.int _) .nil))), .index (b := true) e_u18 rfl (.inl ⟨_, e_u17⟩) trivial rfl⟩
        have xk : ExtN H J28 := xj.trans (ExtN.of (by array_mem_dec))
        have tk : Tabs (lamTs T) J28 := tj.ext (by array_mem_dec)
        replace hG : IsGreat T.C_GreatMap J28 g ls (ls.drop 1) := hG.same (by array_mem_dec)
        clear s_J4 s_J5 s_J6 s_J7 s_J8 s_J9 s_J10 s_J11 s_J12 s_J13 s_J14 s_J15 s_J16 s_J17 s_J18 s_J19 s_J20 s_J21 s_J22 s_J23 s_J24 s_J25 s_J26 s_J27 s_J28
        refine ⟨_, rfl, O7, rfl, ⟨_, SqL.of e_O7⟩, ?_⟩
        refine for_it (walk_list (xs := [V.non, .ref u1, .ref u2, .ref u3, .ref u4, .ref u5, .ref u6, .ref u7, .ref u8, .ref u9, .ref u10, .ref u11, .ref u12, .ref u13, .int 5, .str "cycle", .ref u14, .ref u16, .ref u18])) (fun i σ H' => ∃ w6 w7, σ = [some (.ref a), some (.int (0 + (k : Nat))), some (.ref p), some (.ref L), some (.ref O7), some (.ref g), w6, w7, v8] ∧ ExtN J28 H' ∧ Tabs (lamTs T) H')
          ⟨_, _, rfl, ExtN.refl _, tk⟩ (fun i σ H' _ ⟨_, _, _, z, _⟩ => SqL.of (z _ _ e_O7 (by intro ps z; cases z))) ?_ ?_
        · rintro i v σ N0 N hi ⟨w6, w7, rfl, xn, tn⟩ ⟨rfl, ev⟩
          obtain ⟨d, od, hd, hp'⟩ := things v (List.mem_of_getElem? ev)
          have rp := rpd_of od (dp_extN xn _ _ hd)
          refine ⟨_, rfl, v, d, rfl, rp.dp, rp.sh, rp.nd, rp.de, rp.le, three_le, ?_⟩
          refine fun du n_du => ?_
          generalize g_du : L2.upd _ du _ = N1
          obtain ⟨s_N1, e_du⟩ := U.upd_facts g_du n_du
          clear g_du
          refine ⟨tn.ext s_N1, fun Ra ya ra => ?_⟩
          have za : ExtN J28 Ra := (xn.trans (ExtN.of s_N1)).trans ya
          obtain ⟨dxa, Ea, Fa, g1a, _, _⟩ := (hG.extN za).ob
          refine ⟨_, rfl, g, _, _, rfl, g1a, gflds_no _ _ (by decide +kernel) (by decide +kernel), _, rfl, g, _, _, v, .non, none, rfl, hG.extN za, hp'.extN za, fun R1 q1 dd nd => ?_⟩
          refine ⟨dd, v, d, rfl, upd_same, (rpd_of od (dp_extN za _ _ hd)).extN (ExtN.of (q1.trans (Same.new nd))), .inl ⟨rfl, fun pp R2 q2 npp epp => ?_⟩⟩
          have z2 : ExtN N1 R2 := (ya.trans (ExtN.of (q1.trans (Same.new nd)))).trans (ExtN.of q2)
          have t2 : Tabs (lamTs T) R2 := (ra.ext (q1.trans (Same.new nd))).ext q2
          obtain ⟨d1, d2, g1, g2, g3, g4, g5⟩ := eq3 (K := K) epp (z2 _ _ e_du (by intro ps z; cases z)) ok_el od
          refine ⟨_, rfl, d1, d2, g1, g2, g3, g4, _, rfl, ?_⟩
          rw [g5]
          clear g1 g2 g3 g4 g5 d1 d2
          refine iteF ?_
          refine ⟨t2, fun Rb yb rb => ?_⟩
          have zb : ExtN J28 Rb := ((xn.trans (ExtN.of s_N1)).trans z2).trans yb
          obtain ⟨dxb, Eb, Fb, g1b, _, _⟩ := (hG.extN zb).ob
          refine ⟨_, rfl, g, _, _, rfl, g1b, gflds_no _ _ (by decide +kernel) (by decide +kernel), _, rfl, g, _, _, v, rfl, hG.extN zb, hp'.extN zb, fun R3 q3 de ne => ?_⟩
          refine ⟨de, v, d, rfl, upd_same, (rpd_of od (dp_extN zb _ _ hd)).extN (ExtN.of (q3.trans (Same.new ne))), .inl ⟨rfl, fun pq R4 q4 npq epq => ?_⟩⟩
          have z4 : ExtN R2 R4 := (yb.trans (ExtN.of (q3.trans (Same.new ne)))).trans (ExtN.of q4)
          have t4 : Tabs (lamTs T) R4 := (rb.ext (q3.trans (Same.new ne))).ext q4
          obtain ⟨d1, d2, g1, g2, g3, g4, g5⟩ := eq3 (K := K) epq ((z2.trans z4) _ _ e_du (by intro ps z; cases z)) ok_el od
          refine ⟨_, rfl, d1, d2, g1, g2, g3, g4, _, rfl, ?_⟩
          rw [g5]
          clear g1 g2 g3 g4 g5 d1 d2
          refine iteF ?_
          exact ⟨_, _, rfl, ((xn.trans (ExtN.of s_N1)).trans z2).trans z4, t4⟩
        · rintro σ N ⟨w6, w7, rfl, xn, tn⟩
          refine ⟨one_le, ?_⟩
          refine fun m1 n_m1 => ?_
          generalize g_m1 : L2.upd _ m1 _ = N1
          obtain ⟨s_N1, e_m1⟩ := U.upd_facts g_m1 n_m1
          clear g_m1
          refine ⟨one_le, ?_⟩
          refine fun m2 n_m2 => ?_
          generalize g_m2 : L2.upd _ m2 _ = N2
          obtain ⟨s_N2, e_m2⟩ := U.upd_facts g_m2 n_m2
          clear g_m2
          refine ⟨le_line (by show 5 ≤ 100000; decide), ?_⟩
          refine fun ML n_ML => ?_
          generalize g_ML : L2.upd _ ML _ = N3
          obtain ⟨s_N3, e_ML⟩ := U.upd_facts g_ML n_ML
          clear g_ML
          refine ⟨ML, rfl, ⟨_, SqL.of e_ML⟩, ?_⟩
          have nums : ∀ v ∈ [V.non, .bl true, .str "1", .ref m1, .ref m2], ∃ d, okD d = true ∧ Dp K N3 v d ∧ knownV T.C_GreatMap N3 v ∧ isI v = false := by
            have f1 := U.carry (H' := N3) (by array_mem_dec) e_m1
            have f2 := U.carry (H' := N3) (by array_mem_dec) e_m2
            intro v hv
            simp only [List.mem_cons, List.not_mem_nil, or_false] at hv
            rcases hv with rfl | rfl | rfl | rfl | rfl
            · exact ⟨.none, by decide +kernel, .non, trivial, rfl⟩
            · exact ⟨.bool true, by decide +kernel, .bl _, trivial, rfl⟩
            · exact ⟨.str "1", by decide +kernel, .str _, trivial, rfl⟩
            · exact ⟨.tuple [.int 1], by decide +kernel, .tup (SqT.of f1) (.cons (.int _) .nil), .inr (.inl ⟨_, f1⟩), rfl⟩
            · exact ⟨.list [.int 1], by decide +kernel, .lst (SqL.of f2) (.cons (.int _) .nil), .inl ⟨_, f2⟩, rfl⟩
          have x3 : ExtN J28 N3 := xn.trans (ExtN.of (by array_mem_dec))
          have t3 : Tabs (lamTs T) N3 := tn.ext (by array_mem_dec)
          clear s_N1 s_N2 s_N3 e_m1 e_m2 n_m1 n_m2 n_ML
          refine for_it (walk_list (xs := [V.non, .bl true, .str "1", .ref m1, .ref m2])) (fun i σ H' => ∃ w6, σ = [some (.ref a), some (.int (0 + (k : Nat))), some (.ref p), some (.ref L), some (.ref O7), some (.ref g), w6, w7, v8] ∧ ExtN N3 H' ∧ Tabs (lamTs T) H')
            ⟨_, rfl, ExtN.refl _, t3⟩ (fun i σ H' _ ⟨_, _, z, _⟩ => SqL.of (z _ _ e_ML (by intro ps z; cases z))) ?_ ?_
          · rintro i v σ W0 W hi ⟨w6, rfl, xw, tw⟩ ⟨rfl, ev⟩
            obtain ⟨d, od, hd, kv, iv⟩ := nums v (List.mem_of_getElem? ev)
            refine ⟨tw, fun Ra ya ra => ?_⟩
            have za : ExtN J28 Ra := (x3.trans xw).trans ya
            obtain ⟨dxa, Ea, Fa, g1a, _, _⟩ := (hG.extN za).ob
            refine ⟨_, rfl, g, _, _, rfl, g1a, gflds_no _ _ (by decide +kernel) (by decide +kernel), three_le, ?_⟩
            refine fun tu n_tu => ?_
            generalize g_tu : L2.upd _ tu _ = R1
            obtain ⟨s_R1, e_tu⟩ := U.upd_facts g_tu n_tu
            clear g_tu
            have zz : ExtN N3 R1 := (xw.trans ya).trans (ExtN.of s_R1)
            refine ⟨_, rfl, g, _, _, .ref tu, v, some n0, rfl, (hG.extN za).same s_R1, .good (b := true) (i := 0) e_tu rfl h0 (by omega) (by omega), known_extN kv zz, iv, fun R2 q2 dd nd => ?_⟩
            have rp := (rpd_of od (dp_extN zz _ _ hd)).extN (ExtN.of (q2.trans (Same.new (o := .xd [("value", v)]) nd)))
            refine ⟨dd, v, d, rfl, upd_same, rp, .inr ⟨rfl, fun pp R3 q3 npp epp => ?_⟩⟩
            replace rp := rp.extN (ExtN.of q3)
            refine ⟨_, rfl, v, d, rfl, rp.dp, rp.sh, rp.nd, rp.de, rp.le, three_le, ?_⟩
            refine fun du n_du => ?_
            generalize g_du : L2.upd _ du _ = R4
            obtain ⟨s_R4, e_du⟩ := U.upd_facts g_du n_du
            clear g_du
            obtain ⟨d1, d2, g1, g2, g3, g4, g5⟩ := eq3 (K := K) (s_R4 _ _ epp) e_du ok_nu od
            refine ⟨d1, d2, g1, g2, g3, g4, _, rfl, ?_⟩
            rw [g5]
            clear g1 g2 g3 g4 g5 d1 d2
            refine iteF ?_
            exact ⟨_, rfl, ((zz.trans (ExtN.of (q2.trans (Same.new nd)))).trans (ExtN.of q3)).trans (ExtN.of s_R4), ((((ra.ext s_R1).ext (q2.trans (Same.new nd))).ext q3).ext s_R4)⟩
          · rintro σ W ⟨w6, rfl, xw, tw⟩
            exact ⟨_, _, _, _, _, _, _, _, rfl, (xk.trans x3).trans xw, tw⟩
    · rintro σ H' ⟨v1, v2, v3, v4, v5, v6, v7, v8, rfl, _, _⟩
      exact q H'
end
end My
theorem My.use_txt {K : PySem.W.Frag} {h : PySem.Heap} {mg : PySem.Str → Option PySem.Value} {G : Prop} (_ : K.In h) (TT : Nonempty (My.Txt K mg)) (k : My.Txt K mg → G) : G := by
  obtain ⟨T⟩ := TT
  exact k T
open PySem PySem.W PyProof.Rows
set_option maxRecDepth 100000 in
set_option maxHeartbeats 0 in
theorem PySem.Challenge.cw_chainmaps_k20_great_map_errors_holds : PySem.Challenge.rw_chainmaps_k20_great_map_errors.Holds := by
  w_on; o_law; k_head; (case hw => w_witness2)
  k_fill
  refine U.walkT (l := PySem.Challenge.rw_chainmaps_k20_great_map_errors) (n := 63) (k := 40) rfl (by decide) rfl ⟨rfl, by decide, by decide⟩ ?F
  case F =>
    intro w mg fa h Y G hmg
    have KX := PySem.W.km_in_of Y
    have TX := PySem.W.km_tabs_of Y
    refine My.use_txt (mg := mg) KX ?TT (fun T => ?rest)
    case TT =>
      refine' My.mk_txt KX G ?a_is_integer ?l_is_integer ?c_is_integer ?k_is_integer ?a_in_range ?l_in_range ?c_in_range ?k_in_range ?a_are_lengths ?l_are_lengths ?c_are_lengths ?k_are_lengths ?a_l_hand ?l_l_hand ?c_l_hand ?k_l_hand ?a_l_draw ?l_l_draw ?c_l_draw ?k_l_draw ?a_l_made ?l_l_made ?c_l_made ?k_l_made ?a_l_refused ?l_l_refused ?c_l_refused ?k_l_refused ?a_law ?l_law ?cd_law ?k_law ?tm_law ?hd_law ?nt_law ?a_GreatMap ?pg_GreatMap ?hd_GreatMap ?po_GreatMap ?sa_GreatMap ?sf_GreatMap ?ca_GreatMap ?cn_GreatMap ?ct_GreatMap ?cm_GreatMap ?kc_GreatMap ?kit_int_GreatMap ?kit_bool_GreatMap ?kit_list_GreatMap ?kit_tuple_GreatMap ?self_GreatMap ?na_own_cycles_GreatMap ?na_own_chains_GreatMap ?m_GreatMap__init ?i_GreatMap__init ?l_GreatMap__init ?c_GreatMap__init ?k_GreatMap__init ?mk_GreatMap ?m_GreatMap_length_at ?i_GreatMap_length_at ?l_GreatMap_length_at ?c_GreatMap_length_at ?k_GreatMap_length_at ?m_GreatMap_after ?i_GreatMap_after ?l_GreatMap_after ?c_GreatMap_after ?k_GreatMap_after ?m_GreatMap_fate ?i_GreatMap_fate ?l_GreatMap_fate ?c_GreatMap_fate ?k_GreatMap_fate ?a_InvalidShape ?xl_InvalidShape ?sa_InvalidShape ?ex_InvalidShape ?ty_InvalidShape ?kc_InvalidShape ?hd_InvalidShape ?ga_InvalidShape ?gg_InvalidShape ?ss_InvalidShape ?ca_InvalidShape ?cn_InvalidShape ?ct_InvalidShape ?cm_InvalidShape ?kit_ValueError_InvalidShape ?na_part_InvalidShape ?m_InvalidShape__init ?ti_InvalidShape__init ?l_InvalidShape__init ?c_InvalidShape__init ?k_InvalidShape__init ?a_InvalidElement ?xl_InvalidElement ?sa_InvalidElement ?ex_InvalidElement ?ty_InvalidElement ?kc_InvalidElement ?hd_InvalidElement ?ga_InvalidElement ?gg_InvalidElement ?ss_InvalidElement ?ca_InvalidElement ?cn_InvalidElement ?ct_InvalidElement ?cm_InvalidElement ?kit_ValueError_InvalidElement ?na_value_InvalidElement ?m_InvalidElement__init ?ti_InvalidElement__init ?l_InvalidElement__init ?c_InvalidElement__init ?k_InvalidElement__init ?a_InvalidNumber ?xl_InvalidNumber ?sa_InvalidNumber ?ex_InvalidNumber ?ty_InvalidNumber ?kc_InvalidNumber ?hd_InvalidNumber ?ga_InvalidNumber ?gg_InvalidNumber ?ss_InvalidNumber ?ca_InvalidNumber ?cn_InvalidNumber ?ct_InvalidNumber ?cm_InvalidNumber ?kit_ValueError_InvalidNumber ?te_InvalidElement_InvalidNumber ?na_value_InvalidNumber ?m_InvalidNumber__init ?ti_InvalidNumber__init ?l_InvalidNumber__init ?c_InvalidNumber__init ?k_InvalidNumber__init ?z_isinstance ?z_int ?z_bool ?z_len ?z_range ?z_list ?z_tuple ?z_max ?z_min ?z_all ?z_repr ?z_ValueError ?v_MAX_PARTS ?v_MAX_NUMBER
      (case a_is_integer => k_is)
      (case l_is_integer => k_is)
      (case c_is_integer => k_is)
      (case k_is_integer => k_is)
      (case a_in_range => k_is)
      (case l_in_range => k_is)
      (case c_in_range => k_is)
      (case k_in_range => k_is)
      (case a_are_lengths => k_is)
      (case l_are_lengths => k_is)
      (case c_are_lengths => k_is)
      (case k_are_lengths => k_is)
      (case a_l_hand => k_is)
      (case l_l_hand => k_is)
      (case c_l_hand => k_is)
      (case k_l_hand => k_is)
      (case a_l_draw => k_is)
      (case l_l_draw => k_is)
      (case c_l_draw => k_is)
      (case k_l_draw => k_is)
      (case a_l_made => k_is)
      (case l_l_made => k_is)
      (case c_l_made => k_is)
      (case k_l_made => k_is)
      (case a_l_refused => k_is)
      (case l_l_refused => k_is)
      (case c_l_refused => k_is)
      (case k_l_refused => k_is)
      (case a_law => k_is)
      (case l_law => k_is)
      (case cd_law => k_is)
      (case k_law => k_is)
      (case tm_law => rfl)
      (case hd_law => kernel_rfl)
      (case nt_law => kernel_rfl)
      (case a_GreatMap => k_is)
      (case pg_GreatMap => k_is)
      (case hd_GreatMap => k_is)
      (case po_GreatMap => k_is)
      (case sa_GreatMap => k_is)
      (case sf_GreatMap => k_is)
      (case ca_GreatMap => k_is)
      (case cn_GreatMap => k_is)
      (case ct_GreatMap => k_is)
      (case cm_GreatMap => k_is)
      (case kc_GreatMap => k_is)
      (case kit_int_GreatMap => kernel_rfl)
      (case kit_bool_GreatMap => kernel_rfl)
      (case kit_list_GreatMap => kernel_rfl)
      (case kit_tuple_GreatMap => kernel_rfl)
      (case self_GreatMap => kernel_rfl)
      (case na_own_cycles_GreatMap => k_is)
      (case na_own_chains_GreatMap => k_is)
      (case m_GreatMap__init => k_is)
      (case i_GreatMap__init => k_is)
      (case l_GreatMap__init => k_is)
      (case c_GreatMap__init => k_is)
      (case k_GreatMap__init => k_is)
      (case mk_GreatMap => k_is)
      (case m_GreatMap_length_at => k_is)
      (case i_GreatMap_length_at => k_is)
      (case l_GreatMap_length_at => k_is)
      (case c_GreatMap_length_at => k_is)
      (case k_GreatMap_length_at => k_is)
      (case m_GreatMap_after => k_is)
      (case i_GreatMap_after => k_is)
      (case l_GreatMap_after => k_is)
      (case c_GreatMap_after => k_is)
      (case k_GreatMap_after => k_is)
      (case m_GreatMap_fate => k_is)
      (case i_GreatMap_fate => k_is)
      (case l_GreatMap_fate => k_is)
      (case c_GreatMap_fate => k_is)
      (case k_GreatMap_fate => k_is)
      (case a_InvalidShape => k_is)
      (case xl_InvalidShape => k_is)
      (case sa_InvalidShape => k_is)
      (case ex_InvalidShape => k_is)
      (case ty_InvalidShape => k_is)
      (case kc_InvalidShape => k_is)
      (case hd_InvalidShape => k_is)
      (case ga_InvalidShape => k_is)
      (case gg_InvalidShape => k_is)
      (case ss_InvalidShape => k_is)
      (case ca_InvalidShape => k_is)
      (case cn_InvalidShape => k_is)
      (case ct_InvalidShape => k_is)
      (case cm_InvalidShape => k_is)
      (case kit_ValueError_InvalidShape => kernel_rfl)
      (case na_part_InvalidShape => k_is)
      (case m_InvalidShape__init => k_is)
      (case ti_InvalidShape__init => k_is)
      (case l_InvalidShape__init => k_is)
      (case c_InvalidShape__init => k_is)
      (case k_InvalidShape__init => k_is)
      (case a_InvalidElement => k_is)
      (case xl_InvalidElement => k_is)
      (case sa_InvalidElement => k_is)
      (case ex_InvalidElement => k_is)
      (case ty_InvalidElement => k_is)
      (case kc_InvalidElement => k_is)
      (case hd_InvalidElement => k_is)
      (case ga_InvalidElement => k_is)
      (case gg_InvalidElement => k_is)
      (case ss_InvalidElement => k_is)
      (case ca_InvalidElement => k_is)
      (case cn_InvalidElement => k_is)
      (case ct_InvalidElement => k_is)
      (case cm_InvalidElement => k_is)
      (case kit_ValueError_InvalidElement => kernel_rfl)
      (case na_value_InvalidElement => k_is)
      (case m_InvalidElement__init => k_is)
      (case ti_InvalidElement__init => k_is)
      (case l_InvalidElement__init => k_is)
      (case c_InvalidElement__init => k_is)
      (case k_InvalidElement__init => k_is)
      (case a_InvalidNumber => k_is)
      (case xl_InvalidNumber => k_is)
      (case sa_InvalidNumber => k_is)
      (case ex_InvalidNumber => k_is)
      (case ty_InvalidNumber => k_is)
      (case kc_InvalidNumber => k_is)
      (case hd_InvalidNumber => k_is)
      (case ga_InvalidNumber => k_is)
      (case gg_InvalidNumber => k_is)
      (case ss_InvalidNumber => k_is)
      (case ca_InvalidNumber => k_is)
      (case cn_InvalidNumber => k_is)
      (case ct_InvalidNumber => k_is)
      (case cm_InvalidNumber => k_is)
      (case kit_ValueError_InvalidNumber => kernel_rfl)
      (case te_InvalidElement_InvalidNumber => k_is)
      (case na_value_InvalidNumber => k_is)
      (case m_InvalidNumber__init => k_is)
      (case ti_InvalidNumber__init => k_is)
      (case l_InvalidNumber__init => k_is)
      (case c_InvalidNumber__init => k_is)
      (case k_InvalidNumber__init => k_is)
      (case z_isinstance => k_is)
      (case z_int => k_is)
      (case z_bool => k_is)
      (case z_len => k_is)
      (case z_range => k_is)
      (case z_list => k_is)
      (case z_tuple => k_is)
      (case z_max => k_is)
      (case z_min => k_is)
      (case z_all => k_is)
      (case z_repr => k_is)
      (case z_ValueError => k_is)
      (case v_MAX_PARTS => k_is)
      (case v_MAX_NUMBER => k_is)
    have hmg' : mg "law" = some (.ref fa) := hmg
    rw [T.g_law] at hmg'
    cases hmg'
    refine ⟨_, [(T.c_law, T.P_law)], My.spLawT _ T, KX, ?t1, ?t2, ?t3, (fun base tb => My.ok_law T tb), fun H a ns hl hT hS => ⟨a, ns, rfl, hS, hl, hT, fun _ => rfl⟩⟩
    case t1 =>
      intro p hp
      simp only [List.mem_cons, List.not_mem_nil, or_false] at hp
      rcases hp with rfl
      · exact TX T.P_law (by rw [T.tm_law]; decide)
    case t2 =>
      intro p hp
      simp only [List.mem_cons, List.not_mem_nil, or_false] at hp
      rcases hp with rfl
      · exact T.nt_law
    case t3 =>
      intro p hp
      simp only [List.mem_cons, List.not_mem_nil, or_false] at hp
      rcases hp with rfl
      · exact PySem.W.codeHd_of_K KX T.hd_law
