import PyProof.Rows.All
import Wide.All
import OpenK.AllK
import Wide.FinOn
import KE.OsRunLaw
import PySem.Challenge.RW_chainmaps_k72_clones_and_equal_sessions
import HandS.ForMost
import HandS.ForExc
import HandS.IsInst
import HandS.More
import HandS.SlotsOwn
import HandS.Property
import HandS.ClsMeth
import HandS.DictComp
import HandS.Conv
import HandS.Walk
import HandS.NoneIn
import HandS.CallLocal
import HandS.Star
import HandS.ExcInit
import HandS.ExcField
import HandS.ExcIs
import KE.KExcInit
import KE.KExcIs
import HandS.WordsExc
import HandS.ListItems
import HandS.Style
import HandS.TryMany
import HandS.RaiseMore
import HandS.FStr
import HandS.HotCalls
import KE.KItemsList
import KE.KOpsOwn
import HandS.OwnEq
import HandS.Lambda
import HandS.EndTab
import KE.KNestM
import HandS.Deep
import HandS.Nested
import KE.KSuper
import HandS.Small
import HandS.Text
import HandS.Zip
import KE.KDictZip
import HandS.TupAny
set_option Elab.async false
set_option linter.all false
set_option maxRecDepth 100000
set_option maxHeartbeats 4000000
namespace My
open PySem PySem.W PySem.Calls PyProof.Rows
def withTabs (K : Params → Frag) (ts : List Addr) : Params → Frag := fun P => K P ++ ts.map fun a => (a, tabObj #[])
theorem in_left {K : Params → Frag} {as ts : List Addr} {e : ∀ P, as = (withTabs K ts P).map (·.1)} {w : World} {h : Heap} (Y : (kHook (withTabs K ts) as e).says w h) : (K w.params).In h := fun a o q => Y a o (by
  unfold withTabs
  rw [List.lookup_append, q]
  rfl)
theorem in_right {K : Params → Frag} {as ts : List Addr} {e : ∀ P, as = (withTabs K ts P).map (·.1)} {w : World} {h : Heap} (Y : (kHook (withTabs K ts) as e).says w h) (d : (ts.all fun a => ((K w.params).lookup a).isNone) = true) : ∀ P ∈ ts, h.get? P = some (tabObj #[]) := fun P hP => Y P _ (by
  unfold withTabs
  rw [List.lookup_append, Option.isNone_iff_eq_none.mp (List.all_eq_true.mp d P hP)]
  show (ts.map fun a => (a, tabObj #[])).lookup P = _
  clear Y d e
  induction ts with
  | nil => cases hP
  | cons t r ih =>
    show (match P == t with | true => some (tabObj #[]) | false => (r.map fun a => (a, tabObj #[])).lookup P) = _
    cases z : P == t with
    | true => rfl
    | false =>
      rcases List.mem_cons.mp hP with rfl | hP
      · rw [beq_self_eq_true] at z; cases z
      · exact ih hP)
end My
section
local macro_rules | `(tactic| first | refine $t:term | fail $s:str) => do { let t2 ← t.raw.replaceM fun n => (do { if n.getKind == `Lean.Parser.Term.syntheticHole then { let nm := n[1].getId.eraseMacroScopes; if nm == `hl then { return some (← `(by exact $(Lean.mkIdent `x))) } else { if nm == `hw || nm == `hc then { return some (← `(by contradiction)) } else { return none } } } else { return none } }); `(tactic| refine $(⟨t2⟩)) }
local macro_rules | `(tactic| o_headL ($h:ident $K $as $e)) => `(tactic| o_headL ((PySem.W.kHook (My.withTabs $K [828]) ($as ++ [828]) (fun _ => by kernel_rfl))))
open PySem PySem.W PyProof.Rows
set_option maxRecDepth 100000 in
set_option maxHeartbeats 0 in
def My.hlStmt : Prop := by
  refine' (fun (P : Prop) (_ : P → False → PySem.Challenge.rw_chainmaps_k72_clones_and_equal_sessions.Holds) => P) _ ?h
  rotate_left
  intro x f
  w_on; o_law; k_headL
set_option maxRecDepth 100000 in
set_option maxHeartbeats 0 in
theorem My.hl : My.hlStmt := by
  refine HeadRun.left_oneK (by kernel_rfl) (by rfl) (fun s => by kernel_rfl) (Nat.ble_eq_true_of_le (Nat.le_refl _)) ?_
  intro w os
  kernel_rfl
end
namespace PySem.W
open PySem PySem.Calls PyProof.Rows
section
variable {prog : Program} {w : World} {A : Around} {E : Value → Shared → Prop} {s : Shared} {K : Frag} {x C L f : Addr} {h₀ : Heap} {m : Str → Option Value} {ox : Obj} {od : Option Obj} {b tb : Value}
theorem my_ne_K {Q : Value → Shared → Prop} (hu : A.units + 1 < cLine) (F : Fr h₀ L s.heap m) (X₀ : K.In h₀) (I : InstAt s.heap x ox C od) (hb : Looks (model prog w) s.heap (typeOf b) tb) (hn : notFirst K C tb = true)
    (hne : findIn K (.ref C) "__ne__" = some (some (.builtin "object.__ne__"))) (hob : mroIn K C (.type "object") = some true)
    (hs : findIn K (.ref C) "__eq__" = some (some (.ref f))) (hf : isFn K (.ref f) = true)
    (h : wpAny (model prog w) A.in1 (call (.ref f) [.ref x, b]) (fun v s' => ∃ c, v = .bool c ∧ Q (.bool (!c)) s') E s) : wpAny (model prog w) A (richCompare .NotEq (.ref x) b) Q E s := by
  have X := X₀.keeps F.keep
  have one : wpAny (model prog w) A (tryCompare (.ref x) "__ne__" b) (fun r s' => ∃ v, r = some v ∧ Q v s') E s := by
    unfold tryCompare
    simp only [callSpecialIfBound?, bindSpecialIfBound?]
    have sub : Looks (model prog w) s.heap (isInstance (.ref x) (.type "object")) true := I.type.andThen (looks_mroIn X hob)
    have fin : wpAny (model prog w) A (call (.builtin "object.__ne__") ([.ref x] ++ [b]) >>= fun v => pure (some v)) (fun r s' => ∃ c, r = some (.bool c) ∧ Q (.bool c) s') E s := by
      refine wpAny_bind (wpAny_call (codeAny_call_builtin PySem.F.slot_tuple_iterator_ne.plain PySem.F.cmpEntry_ne ?_))
      refine @check_slot (model prog w) _ _ s "object.__ne__" "object" "__ne__" (.ref x) [b] [] _ PySem.F.cmpKind_ne PySem.F.cmpSplit_ne sub (PySem.F.cmpArgs_ne _ _) ?_
      unfold Builtin.«object.__ne__»
      refine wpAny_bind (wpAny_of_eq (a := ((Value.ref x : Value), [b])) (by first | rfl | (simp only [Builtin.slotArgs]; rfl)) ?_)
      refine wpAny_bind (wpAny_cRoomFor hu ?_)
      refine wpAny_bind (ifBound_K X I hs hf (wpAny_mono h (fun v s' hv => ?_) fun _ _ e => e))
      obtain ⟨c, rfl, q⟩ := hv
      refine wpAny_bind (wpAny_truthy_bool ?_)
      exact wpAny_pure (wpAny_pure ⟨_, rfl, q⟩)
    refine wpAny_bind (wpAny_holding (wpAny_bind (wpAny_bind (wpAny_bind (I.type.here ((looks_findIn X hne).here ?_))))))
    refine wpAny_bind (wpAny_askSetting (wpAny_ite ?_))
    split
    · rw [PySem.F.slot_tuple_iterator_ne.bind (.ref x)]
      exact wpAny_bind (wpAny_pure (wpAny_pure (wpAny_mono fin (fun r s' z => by obtain ⟨c, rfl, q⟩ := z; exact wpAny_pure ⟨_, rfl, q⟩) fun _ _ e => e)))
    · rw [PySem.F.slot_tuple_iterator_ne.bind (.ref x)]
      exact wpAny_tryCatch (wpAny_bind (wpAny_pure (wpAny_pure (wpAny_mono fin (fun r s' z => by obtain ⟨c, rfl, q⟩ := z; exact wpAny_pure ⟨_, rfl, q⟩) fun _ _ e => e))))
  unfold richCompare
  simp only [oneThing_ref]
  refine wpAny_holding (wpAny_bind (wpAny_cRoomFor (Nat.lt_of_succ_lt hu) ?_))
  refine wpAny_bind (I.type.here (wpAny_bind (hb.here ?_)))
  split
  · rename_i q
    have e : subIn K tb (.ref C) = some false := by
      rcases Bool.or_eq_true_iff.mp hn with e | e
      · rw [beq_iff_eq.mp e] at q; simp at q
      · exact beq_iff_eq.mp e
    refine wpAny_bind ((looks_subIn X e).here ?_)
    simp only [Bool.false_eq_true, if_false]
    refine wpAny_bind (wpAny_mono one (fun r s' z => ?_) fun _ _ e => e)
    obtain ⟨v, rfl, hq⟩ := z
    exact wpAny_pure hq
  · refine wpAny_bind (wpAny_pure ?_)
    simp only [Bool.false_eq_true, if_false]
    refine wpAny_bind (wpAny_mono one (fun r s' z => ?_) fun _ _ e => e)
    obtain ⟨v, rfl, hq⟩ := z
    exact wpAny_pure hq
end
end PySem.W
namespace U
open PySem PySem.Spec PyProof.Rows L2
/-- what is asked of a plain own class -/
structure OwnC (K : PySem.W.Frag) (C : Addr) : Prop where
  cl : Cls K C
  sf : PySem.W.selfFirst K C = true
  ca : PySem.W.findIn K (.ref C) "__class__" = some (some (.builtin "object.__class__"))
  cn : PySem.W.specialIn K (.builtin "object.__class__") "__get__" = some (some (.builtin "getset_descriptor.__get__"))
  ct : PySem.W.takesIn K (.builtin "object.__class__") = some true
  cm : PySem.W.mroIn K C (.type "object") = some true
section
variable {X : Cx} {CX : CXT} {pins : List (Addr × Obj)} {σ : L2.St} {H : Hp} {s : Shared} {a C dx p g : Addr} {f : Str} {n : Nat} {sp : Sp} {E : XK} {v : V} {u : Value}
theorem ins_inst (I : Inv X pins σ H s) {fs : List (Str × V)} (ea : H a = some (.ins C dx fs)) : ∃ ox od, PySem.W.InstAt s.heap a ox C (some od) := by
  obtain ⟨mA, O, _⟩ := ins_get I.hok ea
  obtain ⟨od, J, _⟩ := O.look
  exact ⟨_, od, J⟩
/-- x op y, both instances of C -/
def rBin (C : Addr) (sp : Sp) (E : XK) : R2 := fun x y H Q => ∃ a dx fs b dy gs, x = .ref a ∧ y = .ref b ∧ H a = some (.ins C dx fs) ∧ H b = some (.ins C dy gs) ∧ sp [x, y] H Q E
theorem op_bin {op : Operator} (hc : PySem.W.selfFirst X.K C = true) (hs : PySem.W.findIn X.K (.ref C) (PySem.dunder op.info.2) = some (some (.ref g))) (hf : PySem.W.isFn X.K (.ref g) = true) (F : FnR X.prog X.w X.K X.mg X.base CX n g sp)
    (hr : Room n X.A) (hx : Passes CX X E) : OpR X (binaryOp op) (rBin C sp E) := by
  intro pins s σ H x y v u Q I rx ry h
  obtain ⟨a, dx, vs, b, dy, ws, rfl, rfl, ha, hb, q⟩ := h
  cases (show v = Value.ref a from rx)
  cases (show u = Value.ref b from ry)
  obtain ⟨ox, od, J⟩ := ins_inst I ha
  obtain ⟨oy, od', J'⟩ := ins_inst I hb
  obtain ⟨m, hF⟩ := I.fr
  refine PySem.W.binop_K (op := op) hF I.ok.mod.kin J J'.type hc hs hf ?_
  refine wpAny_mono (wpAny_call (run_fnR (us := [.ref a, .ref b]) (vs := [.ref a, .ref b]) F hr hx I (.cons rfl (.cons rfl .nil)) q)) (fun w s' z => ?_) fun _ _ x => x
  obtain ⟨z', H', I', rz, qz⟩ := z
  exact SlX.cmpback rz ⟨z', H', I', rz, qz⟩
theorem notFirst_self (K : PySem.W.Frag) (C : Addr) : PySem.W.notFirst K C (.ref C) = true := by
  unfold PySem.W.notFirst; simp
theorem op_cmp {op : CmpOp} (hop : ∀ a b, compareOp op a b = richCompare op a b) (hs : PySem.W.findIn X.K (.ref C) (cmpInfo op).2.1 = some (some (.ref g))) (hf : PySem.W.isFn X.K (.ref g) = true) (F : FnR X.prog X.w X.K X.mg X.base CX n g sp)
    (hr : Room n X.A) (hx : Passes CX X E) : OpR X (compareOp op) (rBin C sp E) := by
  intro pins s σ H x y v u Q I rx ry h
  obtain ⟨a, dx, vs, b, dy, ws, rfl, rfl, ha, hb, q⟩ := h
  cases (show v = Value.ref a from rx)
  cases (show u = Value.ref b from ry)
  obtain ⟨ox, od, J⟩ := ins_inst I ha
  obtain ⟨oy, od', J'⟩ := ins_inst I hb
  obtain ⟨m, hF⟩ := I.fr
  rw [hop]
  refine PySem.W.cmp_K (op := op) (tb := .ref C) hr.units0 hF I.ok.mod.kin J J'.type (notFirst_self _ _) hs hf ?_
  refine wpAny_mono (wpAny_call (run_fnR (us := [.ref a, .ref b]) (vs := [.ref a, .ref b]) F hr hx I (.cons rfl (.cons rfl .nil)) q)) (fun w s' z => ?_) fun _ _ x => x
  obtain ⟨z', H', I', rz, qz⟩ := z
  exact SlX.cmpback rz ⟨z', H', I', rz, qz⟩
/-- x != y by the own __eq__ -/
def rNeO (C : Addr) (sp : Sp) (E : XK) : R2 := fun x y H Q => ∃ a dx fs b dy gs, x = .ref a ∧ y = .ref b ∧ H a = some (.ins C dx fs) ∧ H b = some (.ins C dy gs) ∧ sp [x, y] H (fun z H' => ∃ c, z = .bl c ∧ Q (.bl (!c)) H') E
theorem op_neO (oc : OwnC X.K C) (hne : PySem.W.findIn X.K (.ref C) "__ne__" = some (some (.builtin "object.__ne__"))) (hs : PySem.W.findIn X.K (.ref C) "__eq__" = some (some (.ref g))) (hf : PySem.W.isFn X.K (.ref g) = true) (F : FnR X.prog X.w X.K X.mg X.base CX n g sp)
    (hr : Room (n + 1) X.A) (hx : Passes CX X E) : OpR X (compareOp .NotEq) (rNeO C sp E) := by
  intro pins s σ H x y v u Q I rx ry h
  obtain ⟨a, dx, vs, b, dy, ws, rfl, rfl, ha, hb, q⟩ := h
  cases (show v = Value.ref a from rx)
  cases (show u = Value.ref b from ry)
  obtain ⟨ox, od, J⟩ := ins_inst I ha
  obtain ⟨oy, od', J'⟩ := ins_inst I hb
  obtain ⟨m, hF⟩ := I.fr
  have hr1 : Room n X.A.in1 := Room.in1 hr
  refine PySem.W.my_ne_K (tb := .ref C) (hu_of hr) hF I.ok.mod.kin J J'.type (notFirst_self _ _) hne oc.cm hs hf ?_
  refine wpAny_mono (wpAny_call (SlX.run_at (us := [.ref a, .ref b]) (ws := [.ref a, .ref b]) F hr1 I.env0.in1 hx I (.cons rfl (.cons rfl .nil)) q)) (fun w s' z => ?_) fun _ _ x => x
  obtain ⟨z', H', I', rz, c, ez, qz⟩ := z
  subst ez
  cases (show w = Value.bool c from rz)
  exact ⟨c, rfl, .bl (!c), H', I', rfl, qz⟩
/-- ~x -/
def rUnO (C : Addr) (sp : Sp) (E : XK) : V → Hp → VK → Prop := fun x H Q => ∃ a dx fs, x = .ref a ∧ H a = some (.ins C dx fs) ∧ sp [x] H Q E
theorem un_inv (hs : PySem.W.findIn X.K (.ref C) "__invert__" = some (some (.ref g))) (hf : PySem.W.isFn X.K (.ref g) = true) (F : FnR X.prog X.w X.K X.mg X.base CX n g sp)
    (hr : Room n X.A) (hx : Passes CX X E) : UnR X (unaryOp .Invert) (rUnO C sp E) := by
  intro pins s σ H x v Q I rx h
  obtain ⟨a, dx, vs, rfl, ha, q⟩ := h
  cases (show v = Value.ref a from rx)
  obtain ⟨ox, od, J⟩ := ins_inst I ha
  obtain ⟨m, hF⟩ := I.fr
  refine PySem.W.ksp_inv hF I.ok.mod.kin J hs hf ?_
  exact wpAny_call (run_fnR (us := [.ref a]) (vs := [.ref a]) F hr hx I (.cons rfl .nil) q)
end
end U
namespace U
open PySem PySem.Spec PyProof.Rows L2 StX
/-! ### a def of the text, with how its arguments bind -/
structure FnAt (K : PySem.W.Frag) (x qual : Str) (st : Stmt) (f : Addr) (ps : List Str) : Prop where
  ex : ∃ fd, Fun K x qual st f fd ∧ Binds K fd ps []
theorem FnAt.kp {K : PySem.W.Frag} {x qual : Str} {st : Stmt} {f : Addr} {ps : List Str} (A : FnAt K x qual st f ps) : PySem.W.keepIn K (.ref f) = true := by
  obtain ⟨fd, F, _⟩ := A.ex
  exact F.kp
section
variable {P : Program} {w : World} {K : PySem.W.Frag} {mg : Str → Option Value} {base : Heap}
theorem FnAt.ok {x qual : Str} {st : Stmt} {f : Addr} {N ps : List Str} {k : Nat} {sp : Sp} (A : FnAt K x qual st f ps) (S : FnScope N ps (defScope st)) (len : ∀ vs H Q E, sp vs H Q E → vs.length = ps.length)
    (hbody : ∀ (cdv : Value) (A : Around) (outer : List Env) (s : Shared) (H : Hp) (vs : List V) (Q : VK) (E : XK), Room k (A.deeper (envOfC qual (defScope st) s.heap.objs.size f cdv)) → sp vs H Q E →
      ∃ t, PSs (cxOf CX0 P w K mg base N qual (defScope st) f cdv A outer s H E).nox (defBody st) t ∧ t { nx := fun _ H' => Q .non H', rt := Q } (start N vs) H) : FnR P w K mg base CX0 (k + 1) f sp := by
  obtain ⟨fd, F, B⟩ := A.ex
  have R := (F.ok (P := P) (w := w) (mg := mg) (base := base) S len hbody).raw B .nil
  exact R.imp fun vs H Q E h => by rw [List.append_nil]; exact h
/-- a def that raises nothing, where exceptions are told -/
theorem fnR_any {CX : CXT} {k : Nat} {f : Addr} {sp : Sp} (F : FnR P w K mg base CX0 k f sp) : FnR P w K mg base CX k f sp := by
  intro A outer s H us vs Q E hr e0 r h
  refine codeAny_mono (F A outer s H us vs Q E hr e0 r h) fun r s' hq => ?_
  cases r with
  | error e => exact False.elim hq
  | ok fl => cases fl <;> exact hq
end
section
variable {X : Cx} {CX : CXT} {k i : Nat} {f C p g a dx : Addr} {sp : Sp} {E : XK} {x fl : Str} {e o : Expr} {es : List Expr} {ta te tf : TE} {t : TA} {pp pos : Pos} {fs : List (Str × V)}
/-- x(e, ..), x a def of the module -/
def tCallR (sp : Sp) (E : XK) (t : TA) : TE := fun σ H Q => t σ H fun vs H1 => sp vs H1 Q E
theorem pe_callR (F : FnR X.prog X.w X.K X.mg X.base CX k f sp) (hr : Room k X.A) (hk : PySem.W.keepIn X.K (.ref f) = true) (hg : Gl X x) (hm : X.mg x = some (.ref f)) (hx : Passes CX X E) (ha : PA X (e :: es) t) (hdb : (x == ("__debug__" : Str)) = false := by decide)
    (he : starEach (e :: es) X.env = (false, eval e X.env) :: starEach es X.env := by rfl) (hpl : (backTo pos (starEach es X.env)).any (·.1) = false := by rfl) : PE X (.Call (.Name x pp) (e :: es) [] pos) (tCallR sp E t) := by
  refine ⟨fun pins s σ H Q I h => ?_⟩
  refine wpAny_Call_Name_kw (ld_glob I hg hm ?_ hdb)
  refine PySem.W.callWith_K (h₀ := X.base) I.ok.mod.kin hk (thn (ha.run pos pins s σ H _ I h) fun us s1 ⟨vs, H1, I1, r, q⟩ => ⟨I1.kIn, ?_⟩) he hpl
  exact wpAny_call (run_fnR F hr hx I1 r q)
/-- e.f, a property -/
def tPropR (C : Addr) (sp : Sp) (ta : TE) : TE := fun σ H Q => ta σ H fun x H1 => ∃ a dx fs, x = .ref a ∧ H1 a = some (.ins C dx fs) ∧ sp [.ref a] H1 Q E0
theorem pe_propR (he : PE X e ta) (c : Cls X.K C) (hp : PropOf X.K C fl p g) (F : FnR X.prog X.w X.K X.mg X.base CX0 k g sp) (hr : Room (k + 1) X.A)
    (hab : attributeBase e fl X.env (eval e X.env) = eval e X.env := by rfl) : PE X (.Attribute e fl pos) (tPropR C sp ta) := by
  refine ⟨fun pins s σ H Q I h => ?_⟩
  refine attr_of hab (thn (he.run pins s σ H _ I h) fun u s1 ⟨x, H1, I1, rx, a, dx, fs, ex, ea, q⟩ => ?_)
  subst ex
  obtain rfl : u = Value.ref a := rx
  obtain ⟨mA, O, _, _, _, _⟩ := ins_get I1.hok ea
  obtain ⟨od, J, _⟩ := O.look
  obtain ⟨rest, hrec⟩ := hp.rec_
  have I2 := I1.tok (s1.toks + 1)
  have hc : (PySem.W.clsIn X.K C).isSome = true := by
    obtain ⟨cd, hc, _⟩ := PySem.W.any_some c.hd
    rw [hc]
    rfl
  refine PySem.W.get_bind I1.kIn J (PySem.W.plainGet_of (c.get fl)).1 (PySem.W.findObj_data hc hp.at_ hp.get hp.tak) (PySem.W.plainGet_of (c.get fl)).2 (wpAny_call (PySem.W.prop_get (s := { s1 with toks := s1.toks + 1 }) I1.kIn hrec ?_))
  refine codeAny_mono (F X.A.in1 X.stack { s1 with toks := s1.toks + 1 } H1 [.ref a] [.ref a] Q E0 hr.in1 I2.env0.in1 (.cons rfl .nil) q) fun r s' hq => ?_
  cases r with
  | error er => exact False.elim hq
  | ok fl =>
    cases fl with
    | ret u =>
      obtain ⟨v, H', I3, rv, q3⟩ := I2.after hq
      show wpAny _ _ (handedOut u) _ _ _
      rw [PySem.W.handedOut_of (handed_of rv)]
      exact wpAny_pure ⟨v, H', I3, rv, q3⟩
    | next => exact False.elim hq
    | brk => exact False.elim hq
    | cont => exact False.elim hq
/-- x(..), x a local that holds the class at C -/
def tMakeL (i : Nat) (C : Addr) (sp : Sp) (E : XK) (t : TA) : TE := fun σ H Q => σ[i]? = some (some (.ref C)) ∧ tMakeR C sp E t σ H Q
theorem pe_makeL (M : Mk X.K C f) (F : FnR X.prog X.w X.K X.mg X.base CX k f sp) (hr : Room (k + 1) X.A) (hN : X.N[i]? = some x) (hv : Vis X.env.scope x) (hx : Passes CX X E) (ha : PA X (e :: es) t) (hdb : (x == ("__debug__" : Str)) = false := by decide)
    (hcd : (x == ("__classdict__" : Str)) = false := by decide)
    (he : starEach (e :: es) X.env = (false, eval e X.env) :: starEach es X.env := by rfl) (hpl : (backTo pos (starEach es X.env)).any (·.1) = false := by rfl) : PE X (.Call (.Name x pp) (e :: es) [] pos) (tMakeL i C sp E t) := by
  refine ⟨fun pins s σ H Q I h => ?_⟩
  obtain ⟨hs, ht⟩ := h
  refine wpAny_Call_Name_kw (thn ((pe_var (pos := pp) hN hv hdb hcd).run pins s σ H (fun v H1 => v = .ref C ∧ H1 = H) I ⟨.ref C, hs, rfl, rfl⟩) fun u s1 ⟨v, H1, I1, r1, q1⟩ => ?_)
  obtain ⟨rfl, rfl⟩ := q1
  cases r1
  refine PySem.W.callWith_K (h₀ := X.base) I.ok.mod.kin M.kp (thn (ha.run pos pins s1 σ _ _ I1 ht) fun us s2 ⟨vs, H2, I2, r, q⟩ => ⟨I2.kIn, ?_⟩) he hpl
  exact run_makeR M F hr hx I2 r q
end
theorem ifD {c : Prop} [Decidable c] {A B : Prop} (h1 : c → A) (h2 : ¬ c → B) : if decide c = true then A else B := by
  by_cases h : c
  · rw [if_pos (decide_eq_true h)]; exact h1 h
  · rw [if_neg (by simp [h])]; exact h2 h
theorem ifN {c : Prop} [Decidable c] {A B : Prop} (h1 : ¬ c → A) (h2 : c → B) : if (!decide c) = true then A else B := by
  by_cases h : c
  · rw [if_neg (by simp [h])]; exact h2 h
  · rw [if_pos (by simp [h])]; exact h1 h
theorem ifB {c : Bool} {A B : Prop} (h1 : c = true → A) (h2 : c = false → B) : if c = true then A else B := by
  cases c with
  | true => rw [if_pos rfl]; exact h1 rfl
  | false => rw [if_neg Bool.false_ne_true]; exact h2 rfl
theorem ifNB {c : Bool} {A B : Prop} (h1 : c = false → A) (h2 : c = true → B) : if (!c) = true then A else B := by
  cases c with
  | true => exact iteF (h2 rfl)
  | false => exact iteT (h1 rfl)
end U
namespace U
open PySem PySem.Spec PyProof.Rows L2
/-- the ints' dicts compared -/
def dEq (ks ls : List (Key × V)) : Bool := ks.length == ls.length && ks.all fun p => decide (valV ls p.1 = some p.2)
def IntVals (ks : List (Key × V)) : Prop := ∀ p ∈ ks, ∃ i : Int, p.2 = .int i
theorem valV_mem {ls : List (Key × V)} {k : Key} {v : V} (h : valV ls k = some v) : ∃ p ∈ ls, p.2 = v := by
  unfold valV at h
  cases e : ls.find? (fun kv => decide (kv.1 = k)) with
  | none => rw [e] at h; cases h
  | some p =>
    rw [e] at h
    exact ⟨p, List.mem_of_find?_eq_some e, Option.some.inj h⟩
theorem hits_int {A : Around} {s : Shared} {ls : List (Key × V)} {vb : List (Key × Value)} (rb : KV ls vb) (il : IntVals ls) {ks : List (Key × V)} {va : List (Key × Value)} (ra : KV ks va) :
    IntVals ks → PySem.W.KeqHits A s vb va (ks.all fun p => decide (valV ls p.1 = some p.2)) := by
  unfold KV at ra
  induction ra with
  | nil => intro _; exact .nil
  | @cons p q ps qs h t ih =>
    intro hp
    obtain ⟨h1, h2⟩ := h
    obtain ⟨i, ei⟩ := hp p List.mem_cons_self
    obtain ⟨k, v⟩ := q
    have h1' : p.1 = k := h1
    subst h1'
    rw [ei] at h2
    obtain ⟨tk, ev⟩ := (show ∃ tk, v = Value.int i tk from h2)
    subst ev
    have rr : RelO (valV ls p.1) (valueAt vb p.1) := rb.val p.1
    rw [List.all_cons]
    cases e : valV ls p.1 with
    | none =>
      rw [e] at rr
      cases e2 : valueAt vb p.1 with
      | none => exact .miss e2
      | some y => rw [e2] at rr; exact rr.elim
    | some z =>
      rw [e] at rr
      obtain ⟨y, hy, ry⟩ := rr.some_of
      obtain ⟨p', hm, ep⟩ := valV_mem e
      obtain ⟨j, ej⟩ := il p' hm
      rw [ej] at ep
      subst ep
      obtain ⟨tk', ey⟩ := (show ∃ tk, y = Value.int j tk from ry)
      subst ey
      have b : decide (some (V.int j) = some p.2) = (i == j) := by
        rw [ei]
        by_cases h : i = j
        · subst h; simp
        · have h' : ¬ j = i := fun z => h z.symm
          simp [h, h']
      rw [b]
      exact .hit hy (SeqAt.EqAt.int_int i _ j _) (ih fun p' hm => hp p' (List.mem_cons_of_mem _ hm))
section
variable {X : Cx}
def rEqD : R2 := fun x y H Q => ∃ a b ks ls, x = .ref a ∧ y = .ref b ∧ H a = some (.dK ks) ∧ H b = some (.dK ls) ∧ IntVals ks ∧ IntVals ls ∧ Q (.bl (dEq ks ls)) H
theorem op_eqDI (hu : X.A.units < cLine) : OpR X (compareOp .Eq) rEqD := by
  intro pins s σ H x y v u Q I rx ry h
  obtain ⟨a, b, ks, ls, rfl, rfl, ea, eb, i1, i2, q⟩ := h
  cases (show v = Value.ref a from rx)
  cases (show u = Value.ref b from ry)
  obtain ⟨_, ya, va, ra, da⟩ := (show ObjOk X.prog X.w H s.heap a (.dK ks) from I.hok a _ ea)
  obtain ⟨_, yb, vb, rb, db⟩ := (show ObjOk X.prog X.w H s.heap b (.dK ls) from I.hok b _ eb)
  refine PySem.W.keq_eq (knd := mixKind X.prog X.w) ya yb da db hu (fun _ => hits_int rb i2 ra i1) (fin_bl I q ?_)
  unfold dEq
  rw [ra.length, rb.length]
end
end U
namespace U
open PySem PySem.Spec PyProof.Rows L2
/-! ### heaps -/
def Off (d : Addr) (H H' : Hp) : Prop := ∀ b o, b ≠ d → H b = some o → H' b = some o
theorem Same.new {H : Hp} {p : Addr} {o : HO} (h : H p = none) : L2.Same H (upd H p o) := fun b u e => by rw [upd_ne (ne_of_none e h)]; exact e
theorem Off.tr {d : Addr} {H H1 H2 : Hp} (a : Off d H H1) (b : Off d H1 H2) : Off d H H2 := fun c o hc e => b c o hc (a c o hc e)
theorem Off.lock {d : Addr} {H : Hp} {o : HO} : Off d H (upd H d o) := fun b u hb e => by rw [upd_ne hb]; exact e
theorem Off.new {d p : Addr} {H : Hp} {o : HO} (h : H p = none) : Off d H (upd H p o) := fun b u _ e => by rw [upd_ne (ne_of_none e h)]; exact e
theorem Off.free {d p : Addr} {H H' : Hp} {u : HO} (a : Off d H H') (hd : H' d = some u) (h : H' p = none) : H p = none := by
  cases e : H p with
  | none => rfl
  | some o =>
    by_cases hp : p = d
    · subst hp; rw [hd] at h; cases h
    · rw [a p o hp e] at h; cases h
theorem Off.back {d : Addr} {H H' : Hp} {u : HO} (a : Off d H H') (hd : H d = some u) : L2.Same H (upd H' d u) := fun b o e => by
  by_cases hb : b = d
  · subst hb; rw [hd] at e; cases e; exact upd_same
  · rw [upd_ne hb]; exact a b o hb e
/-- an object of the heap behind, that was not there ahead, may be changed -/
theorem Off.mut {d p : Addr} {H H' : Hp} {o : HO} (a : Off d H H') (h : H p = none) : Off d H (upd H' p o) := fun b u hb e => by rw [upd_ne (ne_of_none e h)]; exact a b u hb e
/-! ### a dict of ints -/
def kvI (l : List (Int × Int)) : List (Key × V) := l.map fun p => (Sum.inl p.1, V.int p.2)
theorem kvI_length (l : List (Int × Int)) : (kvI l).length = l.length := by simp [kvI]
theorem kvI_get {l : List (Int × Int)} {i : Nat} {k : Key} {v : V} (h : (kvI l)[i]? = some (k, v)) : ∃ x y, l[i]? = some (x, y) ∧ k = .inl x ∧ v = .int y := by
  unfold kvI at h
  rw [List.getElem?_map] at h
  cases e : l[i]? with
  | none => rw [e] at h; cases h
  | some p =>
    rw [e] at h
    obtain ⟨x, y⟩ := p
    cases h
    exact ⟨x, y, rfl, rfl, rfl⟩
def lk (l : List (Int × Int)) (x : Int) : Option Int := (l.find? fun p => decide (p.1 = x)).map (·.2)
theorem valV_kvI (l : List (Int × Int)) (x : Int) : valV (kvI l) (Sum.inl x : Key) = (lk l x).map V.int := by
  induction l with
  | nil => rfl
  | cons p r ih =>
    obtain ⟨a, b⟩ := p
    by_cases h : a = x
    · subst h
      rw [show kvI ((a, b) :: r) = (Sum.inl a, V.int b) :: kvI r from rfl, valV_pos rfl]
      simp [lk]
    · rw [show kvI ((a, b) :: r) = (Sum.inl a, V.int b) :: kvI r from rfl, valV_neg (fun z => h (Sum.inl.inj z)), ih]
      simp [lk, h]
theorem lk_none {l : List (Int × Int)} {x : Int} (h : x ∉ l.map (·.1)) : lk l x = none := by
  unfold lk
  rw [List.find?_eq_none.mpr]
  · rfl
  · intro p hp
    simp only [decide_eq_true_eq]
    exact fun e => h (List.mem_map.mpr ⟨p, hp, e⟩)
theorem lk_some {l : List (Int × Int)} (nd : (l.map (·.1)).Nodup) {x y : Int} (h : (x, y) ∈ l) : lk l x = some y := by
  induction l with
  | nil => cases h
  | cons p r ih =>
    obtain ⟨a, b⟩ := p
    rw [List.map_cons, List.nodup_cons] at nd
    rcases List.mem_cons.mp h with h | h
    · cases h; simp [lk]
    · have ne : ¬ a = x := fun z => nd.1 (by rw [z]; exact List.mem_map.mpr ⟨(x, y), h, rfl⟩)
      have := ih nd.2 h
      simpa [lk, ne] using this
theorem lk_mem {l : List (Int × Int)} {x y : Int} (h : lk l x = some y) : (x, y) ∈ l := by
  unfold lk at h
  cases e : l.find? (fun p => decide (p.1 = x)) with
  | none => rw [e] at h; cases h
  | some p =>
    rw [e] at h
    obtain ⟨a, b⟩ := p
    have h1 := List.find?_some e
    simp only [decide_eq_true_eq] at h1
    have h2 : b = y := Option.some.inj h
    subst h1 h2
    exact List.mem_of_find?_eq_some e
theorem intVals_kvI (l : List (Int × Int)) : IntVals (kvI l) := by
  intro p hp
  unfold kvI at hp
  obtain ⟨q, _, rfl⟩ := List.mem_map.mp hp
  exact ⟨q.2, rfl⟩
theorem putK_kvI {l : List (Int × Int)} {x y : Int} (h : x ∉ l.map (·.1)) : putK (kvI l) (Sum.inl x : Key) (V.int y) = kvI (l ++ [(x, y)]) := by
  have e : valV (kvI l) (Sum.inl x : Key) = none := by rw [valV_kvI, lk_none h]; rfl
  rw [putK_new _ e]
  simp [kvI]
theorem lk_append {l r : List (Int × Int)} {x : Int} : lk (l ++ r) x = (lk l x).or (lk r x) := by
  unfold lk
  rw [List.find?_append]
  cases l.find? (fun p => decide (p.1 = x)) <;> rfl
theorem lk_cons (a b : Int) (r : List (Int × Int)) (z : Int) : lk ((a, b) :: r) z = if a = z then some b else lk r z := by
  by_cases h : a = z <;> simp [lk, h]
theorem lk_mapOff (r : List (Int × Int)) (x y z : Int) (hz : ¬ z = x) : lk (r.map fun p => if p.1 = x then (p.1, y) else p) z = lk r z := by
  induction r with
  | nil => rfl
  | cons p r ih =>
    obtain ⟨a, b⟩ := p
    rw [List.map_cons]
    by_cases ha : a = x
    · subst ha
      have hz' : ¬ a = z := fun q => hz q.symm
      rw [if_pos rfl, lk_cons, lk_cons, if_neg hz', if_neg hz', ih]
    · rw [if_neg ha, lk_cons, lk_cons, ih]
theorem lk_mapPut {x y : Int} : ∀ (l : List (Int × Int)), x ∈ l.map (·.1) → ∀ z, lk (l.map fun p => if p.1 = x then (p.1, y) else p) z = if z = x then some y else lk l z
  | [], h, z => by cases h
  | (a, b) :: r, h, z => by
    by_cases hz : z = x
    · subst hz
      rw [if_pos rfl, List.map_cons]
      by_cases ha : a = z
      · subst ha
        rw [if_pos rfl, lk_cons, if_pos rfl]
      · rw [if_neg ha, lk_cons, if_neg ha]
        have h' : z ∈ r.map (·.1) := by
          rcases List.mem_cons.mp h with q | q
          · exact absurd q.symm ha
          · exact q
        rw [lk_mapPut r h' z, if_pos rfl]
    · rw [if_neg hz, lk_mapOff _ _ _ _ hz]
theorem putK_lk {l : List (Int × Int)} {x y : Int} : ∃ l', putK (kvI l) (Sum.inl x : Key) (V.int y) = kvI l' ∧ l'.length ≤ l.length + 1 ∧ ((l.map (·.1)).Nodup → (l'.map (·.1)).Nodup) ∧ ∀ z, lk l' z = if z = x then some y else lk l z := by
  by_cases h : x ∈ l.map (·.1)
  · refine ⟨l.map fun p => if p.1 = x then (p.1, y) else p, ?_, by simp, fun nd => ?_, fun z => ?_⟩
    · unfold putK
      rw [if_pos (by
        obtain ⟨p, hp, e⟩ := List.mem_map.mp h
        rw [List.any_eq_true]
        exact ⟨(Sum.inl p.1, V.int p.2), List.mem_map.mpr ⟨p, hp, rfl⟩, by simp [e]⟩)]
      unfold kvI
      rw [List.map_map, List.map_map]
      refine List.map_congr_left fun p _ => ?_
      by_cases e : p.1 = x
      · simp [e]
      · have e' : ¬ (Sum.inl p.1 : Key) = Sum.inl x := fun q => e (Sum.inl.inj q)
        simp [e]
    · have e : (l.map fun p => if p.1 = x then (p.1, y) else p).map (·.1) = l.map (·.1) := by
        rw [List.map_map]
        refine List.map_congr_left fun p _ => ?_
        by_cases e : p.1 = x <;> simp [e]
      rw [e]; exact nd
    · exact lk_mapPut l h z
  · refine ⟨l ++ [(x, y)], putK_kvI h, by simp, fun nd => ?_, fun z => ?_⟩
    · rw [List.map_append, List.nodup_append]
      refine ⟨nd, by simp, fun a ha b hb e => ?_⟩
      simp at hb
      subst hb
      exact h (e ▸ ha)
    · rw [lk_append]
      by_cases hz : z = x
      · subst hz; rw [lk_none h]; simp [lk]
      · have hz' : ¬ x = z := fun q => hz q.symm
        cases lk l z <;> simp [lk, hz, hz']
end U
namespace U
open PySem PySem.Spec PyProof.Rows L2
section
variable {J : It} {n : Nat} {G : Hp → Prop} {Y : Nat → Hp → V → Hp → Prop}
/-- a dict comprehension over a walk -/
theorem dc_it (w : Walk J n G Y) {g : TG} {tt : TT} {tk tv : TE} {vs : List Nat} {σ : L2.St} {H1 : Hp} {D : Addr} {Qd : Hp → Prop} (Pv : Nat → Hp → Prop) (h0 : Pv 0 (upd H1 D (.dK []))) (hG : ∀ i H, i ≤ n → Pv i H → G H)
    (hs : ∀ i x H H', i < n → Pv i H → Y i H x H' → g x (wipe σ vs) H' fun σ2 H2 => wipe σ2 vs = wipe σ vs ∧ tt σ2 H2 fun b H3 =>
      if b = true then tk σ2 H3 fun y H4 => tv σ2 H4 fun z H5 => ∃ kvs k, y = kV k ∧ H5 D = some (.dK kvs) ∧ kvs.length < sizeLine ∧ Pv (i + 1) (upd H5 D (.dK (putK kvs k z))) else Pv (i + 1) H3) (hd : ∀ H, Pv n H → Qd H) :
    ∃ W : Nat → Nat → Hp → Prop, (∃ m, W 0 m (upd H1 D (.dK []))) ∧ ∀ i m H, W i m H →
      (J.stop i H ∧ Qd H) ∨ (J.go i H ∧ ∃ Nx : Hp → Prop, (∀ H', Nx H' → ∃ m', m' < m ∧ W (i + 1) m' H') ∧ ∀ x H', J.yld i H x H' → g x (wipe σ vs) H' fun σ2 H2 => wipe σ2 vs = wipe σ vs ∧ tt σ2 H2 fun b H3 =>
        if b = true then tk σ2 H3 fun y H4 => tv σ2 H4 fun z H5 => ∃ kvs k, y = kV k ∧ H5 D = some (.dK kvs) ∧ kvs.length < sizeLine ∧ Nx (upd H5 D (.dK (putK kvs k z))) else Nx H3) := by
  refine ⟨fun i m H => m = n - i ∧ i ≤ n ∧ Pv i H, ⟨n, by simp, Nat.zero_le _, h0⟩, ?_⟩
  rintro i m H ⟨rfl, hi, p⟩
  have q := hG i H hi p
  by_cases hlt : i < n
  · exact .inr ⟨w.goes i H hlt q, Pv (i + 1), fun H' p' => ⟨n - (i + 1), by omega, rfl, hlt, p'⟩, fun x H' y => hs i x H H' hlt p (w.yields i H x H' hlt q y)⟩
  · have e : i = n := by omega
    subst e
    exact .inl ⟨w.stops H q, hd H p⟩
end
/-- what a comprehension over pairs makes -/
def madeD (c : Int → Int → Bool) (kf : Int → Int → Int) (vf : Int → Int → V) (l : List (Int × Int)) : List (Key × V) := (l.filter fun p => c p.1 p.2).map fun p => (Sum.inl (kf p.1 p.2), vf p.1 p.2)
theorem take_more {α : Type} {l : List α} {i : Nat} {x : α} (h : l[i]? = some x) : l.take (i + 1) = l.take i ++ [x] := by
  rw [List.take_add_one, h]; rfl
theorem valV_none {kvs : List (Key × V)} {k : Key} (h : k ∉ kvs.map (·.1)) : valV kvs k = none := by
  unfold valV
  rw [List.find?_eq_none.mpr]
  · rfl
  · intro p hp
    simp only [decide_eq_true_eq]
    exact fun e => h (List.mem_map.mpr ⟨p, hp, e⟩)
theorem madeD_step {c : Int → Int → Bool} {kf : Int → Int → Int} {vf : Int → Int → V} {l : List (Int × Int)} {i : Nat} {x y : Int} (h : l[i]? = some (x, y)) (nd : ((madeD c kf vf l).map (·.1)).Nodup) (hc : c x y = true) :
    putK (madeD c kf vf (l.take i)) (Sum.inl (kf x y)) (vf x y) = madeD c kf vf (l.take (i + 1)) := by
  have e : madeD c kf vf (l.take (i + 1)) = madeD c kf vf (l.take i) ++ [(Sum.inl (kf x y), vf x y)] := by
    rw [take_more h]
    unfold madeD
    rw [List.filter_append, List.map_append]
    simp [hc]
  have e2 : madeD c kf vf l = madeD c kf vf (l.take (i + 1)) ++ madeD c kf vf (l.drop (i + 1)) := by
    unfold madeD
    rw [← List.map_append, ← List.filter_append, List.take_append_drop]
  rw [e2, e, List.map_append, List.map_append] at nd
  have nd1 := (List.nodup_append.mp nd).1
  have nin : (Sum.inl (kf x y) : Key) ∉ (madeD c kf vf (l.take i)).map (·.1) := by
    intro hm
    exact (List.nodup_append.mp nd1).2.2 _ hm _ (by simp) rfl
  rw [putK_new _ (valV_none nin), e]
theorem madeD_skip {c : Int → Int → Bool} {kf : Int → Int → Int} {vf : Int → Int → V} {l : List (Int × Int)} {i : Nat} {x y : Int} (h : l[i]? = some (x, y)) (hc : c x y = false) :
    madeD c kf vf (l.take (i + 1)) = madeD c kf vf (l.take i) := by
  rw [take_more h]
  unfold madeD
  rw [List.filter_append, List.map_append]
  simp [hc]
theorem madeD_len (c : Int → Int → Bool) (kf : Int → Int → Int) (vf : Int → Int → V) (l : List (Int × Int)) (i : Nat) : (madeD c kf vf (l.take i)).length ≤ l.length := by
  unfold madeD
  rw [List.length_map]
  exact Nat.le_trans (List.length_filter_le _ _) (by rw [List.length_take]; omega)
/-- {k: v for x, y in d.items() if ..}, the tests and parts reading alone -/
theorem dc_items {K : PySem.W.Frag} {d : Addr} {l : List (Int × Int)} {te : TE} {i j : Nat} {tt : TT} {tk tv : TE} {vs : List Nat} {σ : L2.St} {H : Hp} {Q : VK} (c : Int → Int → Bool) (kf : Int → Int → Int) (vf : Int → Int → V)
    (hd : H d = some (.dK (kvI l))) (hte : ∀ H' (R : VK), R (.ref d) H' → Off d H H' → te σ H' R)
    (hw : ∀ a b, wipe (((wipe σ vs).set i a).set j b) vs = wipe σ vs)
    (hb : ∀ x y, (x, y) ∈ l → ∀ H1, Off d H H1 → (∀ R : Bool → Hp → Prop, R (c x y) H1 → tt (((wipe σ vs).set i (some (.int x))).set j (some (.int y))) H1 R) ∧
      (c x y = true → (∀ R : VK, R (.int (kf x y)) H1 → tk (((wipe σ vs).set i (some (.int x))).set j (some (.int y))) H1 R) ∧ ∀ R : VK, R (vf x y) H1 → tv (((wipe σ vs).set i (some (.int x))).set j (some (.int y))) H1 R))
    (nd : ((madeD c kf vf l).map (·.1)).Nodup) (hz : l.length < sizeLine)
    (hq : ∀ D H', H D = none → H' D = some (.dK (madeD c kf vf l)) → L2.Same H H' → Q (.ref D) H') :
    tLockE (tDc (iItems te) (gTup K 2 (gCons (gName i) (gCons (gName j) gNil))) tt tk tv vs) σ H Q := by
  refine ⟨d, _, hd, trivial, fun od => ?_⟩
  refine hte _ _ ⟨d, od, kvI l, rfl, upd_same, fun D hD => ?_⟩ Off.lock
  have hDd : D ≠ d := fun e => by rw [e, upd_same] at hD; cases hD
  have hD0 : H D = none := by rw [upd_ne hDd] at hD; exact hD
  refine dc_it walk_items (fun k H' => H' d = some (.frz od (.dK (kvI l))) ∧ Off d H H' ∧ H' D = some (.dK (madeD c kf vf (l.take k)))) ⟨?_, Off.lock.mut hD0, upd_same⟩ (fun k H' _ p => p.1) ?_ ?_
  · rw [upd_ne hDd.symm]; exact upd_same
  · rintro k v H' H'' hk ⟨p1, p2, p3⟩ ⟨T, a, b, rfl, hT, rfl, e1, e2⟩
    rw [kvI_length] at hk
    obtain ⟨⟨x, y⟩, exy⟩ : ∃ p, l[k]? = some p := ⟨_, List.getElem?_eq_getElem hk⟩
    have ek : (kvI l)[k]? = some (Sum.inl x, V.int y) := by unfold kvI; rw [List.getElem?_map, exy]; rfl
    dsimp only at e1 e2
    rw [ek] at e1 e2
    cases e1; cases e2
    have nTd : d ≠ T := ne_of_none p1 hT
    have nTD : D ≠ T := ne_of_none p3 hT
    refine ⟨T, [.int x, .int y], rfl, SqT.of upd_same, rfl, .int x, [.int y], rfl, .int y, [], rfl, rfl, ?_⟩
    refine ⟨hw _ _, ?_⟩
    have o2 : Off d H (upd H' T (.tup [.int x, .int y])) := p2.tr (Off.new hT)
    obtain ⟨b1, b2⟩ := hb x y (List.mem_of_getElem? exy) _ o2
    refine b1 _ ?_
    have d3 : (upd H' T (.tup [.int x, .int y])) d = some (.frz od (.dK (kvI l))) := by rw [upd_ne nTd]; exact p1
    have D3 : (upd H' T (.tup [.int x, .int y])) D = some (.dK (madeD c kf vf (l.take k))) := by rw [upd_ne nTD]; exact p3
    cases hc : c x y with
    | true =>
      refine iteT ?_
      obtain ⟨b3, b4⟩ := b2 hc
      refine b3 _ (b4 _ ⟨_, Sum.inl (kf x y), rfl, D3, Nat.lt_of_le_of_lt (madeD_len ..) hz, ?_⟩)
      refine ⟨?_, o2.mut hD0, ?_⟩
      · rw [upd_ne hDd.symm]; exact d3
      · rw [upd_same, madeD_step exy nd hc]
    | false =>
      refine iteF ⟨d3, o2, ?_⟩
      rw [madeD_skip exy hc]
      exact D3
  · rintro H' ⟨p1, p2, p3⟩
    rw [kvI_length, List.take_length] at p3
    refine ⟨p1, hq D _ hD0 ?_ (p2.back hd)⟩
    rw [upd_ne hDd]
    exact p3
/-- {k: v for x in range(lo, ..) if ..} -/
def madeR (c : Int → Bool) (kf : Int → Int) (vf : Int → V) (n : Nat) : List (Key × V) := ((List.range n).filter fun (i : Nat) => c (i : Int)).map fun (i : Nat) => ((Sum.inl (kf (i : Int)) : Key), vf (i : Int))
theorem madeR_succ (c : Int → Bool) (kf : Int → Int) (vf : Int → V) (n : Nat) : madeR c kf vf (n + 1) = madeR c kf vf n ++ (if c (n : Int) = true then [((Sum.inl (kf (n : Int)) : Key), vf (n : Int))] else []) := by
  unfold madeR
  rw [List.range_succ, List.filter_append, List.map_append]
  by_cases h : c (n : Int) = true
  · simp [h]
  · have h' : c (n : Int) = false := by simpa using h
    simp [h']
theorem madeR_len (c : Int → Bool) (kf : Int → Int) (vf : Int → V) (n : Nat) : (madeR c kf vf n).length ≤ n := by
  unfold madeR
  rw [List.length_map]
  exact Nat.le_trans (List.length_filter_le _ _) (by simp)
theorem madeR_keys {c : Int → Bool} {vf : Int → V} {n k : Nat} (h : (Sum.inl (k : Int) : Key) ∈ (madeR c (fun x => x) vf n).map (·.1)) : k < n := by
  unfold madeR at h
  rw [List.map_map] at h
  obtain ⟨i, hi, e⟩ := List.mem_map.mp h
  have h1 := (List.mem_filter.mp hi).1
  rw [List.mem_range] at h1
  have : (i : Int) = (k : Int) := Sum.inl.inj e
  omega
theorem dc_range {wi : TI} {i : Nat} {tt : TT} {tk tv : TE} {vs : List Nat} {σ : L2.St} {H0 H : Hp} {Q : VK} {n : Nat} (c : Int → Bool) (vf : Int → V) (hwi : ∀ R : It → Hp → Prop, R (Itr 0 n) H → wi σ H0 R)
    (hw : ∀ a, wipe ((wipe σ vs).set i a) vs = wipe σ vs)
    (hb : ∀ k : Nat, k < n → ∀ H1, L2.Same H H1 → (∀ R : Bool → Hp → Prop, R (c (k : Int)) H1 → tt ((wipe σ vs).set i (some (.int (0 + (k : Nat))))) H1 R) ∧
      (c (k : Int) = true → (∀ R : VK, R (.int (k : Int)) H1 → tk ((wipe σ vs).set i (some (.int (0 + (k : Nat))))) H1 R) ∧ ∀ R : VK, R (vf (k : Int)) H1 → tv ((wipe σ vs).set i (some (.int (0 + (k : Nat))))) H1 R))
    (hz : n < sizeLine) (hq : ∀ D H', H D = none → H' D = some (.dK (madeR c (fun x => x) vf n)) → L2.Same H H' → Q (.ref D) H') :
    tDc wi (gName i) tt tk tv vs σ H0 Q := by
  refine hwi _ ?_
  intro D hD
  refine dc_it walk_range (fun k H' => L2.Same H H' ∧ H' D = some (.dK (madeR c (fun x => x) vf k))) ⟨Same.new hD, upd_same⟩ (fun _ _ _ _ => trivial) ?_ ?_
  · rintro k v H' H'' hk ⟨p1, p2⟩ ⟨rfl, rfl⟩
    refine ⟨hw _, ?_⟩
    obtain ⟨b1, b2⟩ := hb k hk _ p1
    refine b1 _ ?_
    cases hc : c (k : Int) with
    | true =>
      refine iteT ?_
      obtain ⟨b3, b4⟩ := b2 hc
      refine b3 _ (b4 _ ⟨_, Sum.inl (k : Int), rfl, p2, Nat.lt_of_le_of_lt (madeR_len ..) (Nat.lt_trans hk hz), ?_, ?_⟩)
      · intro b o e
        rw [upd_ne (ne_of_none e hD)]
        exact p1 b o e
      · rw [upd_same, putK_new _ (valV_none fun z => Nat.lt_irrefl _ (madeR_keys z)), madeR_succ, if_pos hc]
    | false =>
      refine iteF ⟨p1, ?_⟩
      rw [madeR_succ, hc, p2]
      simp
  · rintro H' ⟨p1, p2⟩
    exact hq D _ hD p2 p1
end U
namespace U
open PySem PySem.Spec PyProof.Rows L2
section
variable {X : Cx}
theorem sw_dict {kx vx : Expr} {gs : List Comprehension} {scope : Scope} {pos py : Pos} {y : Str} {l : Nat} {env : Env} (hk : env.scope.kind = .function) (hy : env.scope.names.lookup y = some .local) (hl : (py.line == pos.line) = true)
    (ha : (scope.names.any fun (n, k) => n == y && (k == .local || k == .cell)) = false) : swapsWith (.DictComp kx vx gs scope pos) (some (.Name y py)) l env = pure true := by
  have ky : env.kindOf y = some .local := hy
  have hb : env.blockKind = .function := by unfold Env.blockKind; rw [hk]; rfl
  unfold swapsWith
  simp only [hb, ky, ha, Expr.pos, hl]
  rfl
/-- name = {..} on one line, the name a local -/
theorem ps_setDc {i : Nat} {y : Str} {py : Pos} {kx vx tg iter : Expr} {ifs : List Expr} {scope : Scope} {own : List (Str × Nat)} {pos spos : Pos} {wi : TI} {g : TG} {tt : TT} {tk tv : TE} (hc : X.calm = true) (hN : X.N.Nodup) (hy : X.N[i]? = some y) (hyl : X.env.scope.names.lookup y = some .local)
    (hsw : swapsWith (.DictComp kx vx [⟨tg, iter, ifs, 0⟩] scope pos) (some (.Name y py)) spos.line X.env = pure true) (hi : PI X tg iter wi) (ok : BlkOk X.N X.env.scope scope own)
    (hg : ∀ (s : Shared) (H : Hp) (C : Addr) (cl : List (Str × Addr)) (fp : List Addr), PG (X.blk s H scope (compEnvC scope cl C X.env) fp) tg g) (ht : ∀ (s : Shared) (H : Hp) (C : Addr) (cl : List (Str × Addr)) (fp : List Addr), PTs (X.blk s H scope (compEnvC scope cl C X.env) fp) ifs tt)
    (hk : ∀ (s : Shared) (H : Hp) (C : Addr) (cl : List (Str × Addr)) (fp : List Addr), PE (X.blk s H scope (compEnvC scope cl C X.env) fp) kx tk)
    (he : ∀ (s : Shared) (H : Hp) (C : Addr) (cl : List (Str × Addr)) (fp : List Addr), PE (X.blk s H scope (compEnvC scope cl C X.env) fp) vx tv) (hs : ∀ x, foldedSetIterable iter X.env x = pure x := by intro _; rfl) :
    PS X (.Assign [.Name y py] (.DictComp kx vx [⟨tg, iter, ifs, 0⟩] scope pos) spos) (tAsg (tDc wi g tt tk tv (own.map (·.2))) (gName i)) := by
  refine ⟨fun pins s σ H D I h => ?_⟩
  rw [exec_Assign_Name_used _ _ _ _ hsw]
  refine wpAny_bind (wpAny_standAt (wpAny_bind ?_))
  show wpAny _ X.A (do let _ ← comprehension (.DictComp kx vx [⟨tg, iter, ifs, 0⟩] scope pos) scope X.env (firstIterPos [⟨tg, iter, ifs, 0⟩] pos) newDict false (eval iter X.env) (some (assign (.Name y py) X.env))) _ _ s
  have h : tDc wi g tt tk tv (own.map (·.2)) σ H (fun x H1 => gName i x σ H1 D.nx) := h
  refine wpAny_bind (thn (dc_core (Qf := fun _ s' => SP X pins D .next s') hc hN I hi ok hg ht hk he hs h fun L C s' m H' I' q hn f => ?_) fun _ s' hq => wpAny_pure (wpAny_pure hq))
  show wpAny _ _ (assign (.Name y py) X.env (.ref L)) _ _ _
  refine wpAny_assign_Name (store_ok2 (v := V.ref L) I' hN hy (.inl hyl) rfl (fun s2 I2 ⟨a, sb, ha⟩ => ?_) (.inr hyl))
  obtain ⟨f0, f1, f2, f3, f4, f5⟩ := f
  have haC : C ≠ a := by
    rcases ha with z | z
    · rw [z]; exact f1
    · exact fun e => f4 y a z e.symm
  refine ⟨m, hn.sameBut sb haC, fun h3 sb3 => ?_⟩
  exact ⟨_, H', I2.turned (t' := s2.toks) (fun b o hb e => (sb3.2 b hb).trans e) f0 f1 f3 f4 f5, q⟩
end
/-- x = e under the lock -/
theorem lock_asg {t : TE} {D : Ends} {σ : L2.St} {H : Hp} {i : Nat} (h : tLockE t σ H (fun v H' => D.nx (σ.set i (some v)) H')) : tLock (tAsg t (gName i)) D σ H := h
/-- [v for x, y in d.items() if ..], the tests and parts reading alone -/
def madeL (c : Int → Int → Bool) (vf : Int → Int → V) (l : List (Int × Int)) : List V := (l.filter fun p => c p.1 p.2).map fun p => vf p.1 p.2
theorem madeL_step {c : Int → Int → Bool} {vf : Int → Int → V} {l : List (Int × Int)} {i : Nat} {x y : Int} (h : l[i]? = some (x, y)) :
    madeL c vf (l.take (i + 1)) = madeL c vf (l.take i) ++ (if c x y = true then [vf x y] else []) := by
  rw [take_more h]
  unfold madeL
  rw [List.filter_append, List.map_append]
  by_cases hc : c x y = true
  · simp [hc]
  · have hc' : c x y = false := by simpa using hc
    simp [hc']
theorem madeL_len (c : Int → Int → Bool) (vf : Int → Int → V) (l : List (Int × Int)) (i : Nat) : (madeL c vf (l.take i)).length ≤ l.length := by
  unfold madeL
  rw [List.length_map]
  exact Nat.le_trans (List.length_filter_le _ _) (by rw [List.length_take]; omega)
end U
/-! ### own errors over any built-in error -/
namespace PySem
namespace GEX
open PySem.W PySem.Calls PyProof.Rows PySem.HandSPX Builtin Builtin.ObjectAttr
section
variable {prog : Program} {w : World} {A : Around} {E : Value → Shared → Prop} {R : Result → Shared → Prop} {hp : Heap} {gs : Array GenState} {dr : Drawn} {tn : Nat} {os : OsState}
/-- what is asked of the class's chain -/
structure Mro (m : List Value) : Prop where
  ob : m.contains (.type "object") = true
  ne : m.isEmpty = false
  ps : ∀ self : Value, refuseLoop self "__setattr__" m = pure ()
theorem mro_of {bmB bm : List Value} {B : String} (SF : StoreFacts B bmB "object.__setattr__" "object") (h : excTail bmB bm = true) (C : Addr) : Mro (.ref C :: bm) := by
  have h' : excTail bmB (.ref C :: bm) = true := h
  exact ⟨(excTail_contains "object" _ h').trans SF.hasOwner, rfl, fun self => excTail_pass self (SF.passes self) _ h'⟩
theorem osa_first {K : Frag} {nm : Str} {tk : Tok} {v : Value} {x C : Addr} {fv : Array Value} {cd : ClassData} (X : K.In hp) (hx : hp.get? x = some { cls := .ref C, data := .fields fv }) (hcd : clsIn K C = some cd) (hm : Mro cd.mro) (hh : cd.hasDict = true) (ha : findIn K (.ref C) nm = some none)
    (hq : ∀ h' tk' dx, (∀ b o, b ≠ x → hp.get? b = some o → h'.get? b = some o) → hp.objs.size ≤ dx → dx ≠ x → h'.get? x = some { cls := .ref C, dict := some dx, data := .fields fv } → h'.Ns1 dx (fun y => if y = nm then some v else none) → R (.ok (.ret .none)) ⟨h', gs, dr, tk', os⟩) :
    codeAny (model prog w) A (.call (.builtin "object.__setattr__") ⟨[.ref x, .str nm tk, v], []⟩) R ⟨hp, gs, dr, tn, os⟩ := by
  have I : InstAt hp x { cls := .ref C, data := .fields fv } C none := ⟨hx, rfl, rfl, trivial⟩
  have hxs : x ≠ hp.objs.size := Nat.ne_of_lt (Heap.lt_size hx)
  have S0 := F.store_object
  have l1 : Looks (model prog w) hp (isInstance (.ref x) (.type "object")) true := I.type.andThen (looks_mroIn X (by unfold mroIn; rw [hcd, Option.bind_some, if_neg (by rw [hm.ne]; decide), hm.ob]))
  refine codeAny_call_builtin S0.slot.plain S0.entry ?_
  refine @check_slot (model prog w) _ _ ⟨hp, gs, dr, tn, os⟩ "object.__setattr__" "object" "__setattr__" (.ref x) [.str nm tk, v] [] _ S0.kind S0.split l1 (S0.args (.ref x) (.str nm tk) v) ?_
  have l2 : Looks (model prog w) hp (mroOf (.ref C)) cd.mro := (looks_clsIn X hcd).andThen .now
  have l3 : Looks (model prog w) hp (storeTaker? none) none := .now
  have l4 : Looks (model prog w) hp (classData C) cd := looks_clsIn X hcd
  rw [osa_eq, refuse_eq]
  refine wpAny_bind (wpAny_bind (I.type.at (wpAny_bind (l2.at ?_)))); rw [hm.ps]
  refine wpAny_pure (wpAny_bind (I.type.at (wpAny_bind ((looks_findIn X ha).at (wpAny_bind (l3.at ?_))))))
  show wpAny _ _ (storeInOwnDict (.ref x) (.ref C) (.str nm tk) nm v false) _ _ _
  obtain ⟨c1, c2, c3, c4, c5, c6, c7, c8, c9, c10, c11⟩ := cd
  have hh' : c6 = true := hh
  subst hh'
  unfold storeInOwnDict ownDictForStores
  repeat (first | with_reducible refine HandSPX.store_in_new ?_ ?_ | with_reducible refine wpAny_loadPart_at hx ?_ | with_reducible refine l4.at ?_ | wp_step)
  · refine ⟨_, #[], _, (Heap.get?_update_ne _ _ _ _ hxs.symm).trans (Heap.get?_push_at rfl rfl), rfl, fun e he => ?_, fun _ => rfl⟩
    simp at he
  · intro h' tk' hn' hs
    have hx1 : (hp.push { cls := .type "dict", data := .dict #[] }).get? x = some { cls := .ref C, data := .fields fv } := Heap.get?_push_of_some _ hx
    exact hq h' tk' hp.objs.size (fun b o hb ho => (hs.2 b (Nat.ne_of_lt (Heap.lt_size ho))).trans ((Heap.get?_update_ne _ _ _ _ hb).trans (Heap.get?_push_of_some _ ho))) (Nat.le_refl _) hxs.symm ((hs.2 x hxs).trans (Heap.get?_update_self _ hx1 rfl)) hn'
theorem osa_more {K : Frag} {nm : Str} {tk : Tok} {v : Value} {x C dx : Addr} {fv : Array Value} {cd : ClassData} {m0 : Str → Option Value} {nl : List Str} (X : K.In hp) (hx : hp.get? x = some { cls := .ref C, dict := some dx, data := .fields fv }) (hns : hp.Ns1 dx m0) (hw : Within m0 nl) (hz : nl.length ≤ 1000) (hcd : clsIn K C = some cd) (hm : Mro cd.mro) (hh : cd.hasDict = true) (ha : findIn K (.ref C) nm = some none)
    (hq : ∀ h' tk', (∀ b o, b ≠ dx → hp.get? b = some o → h'.get? b = some o) → h'.Ns1 dx (fun y => if y = nm then some v else m0 y) → R (.ok (.ret .none)) ⟨h', gs, dr, tk', os⟩) :
    codeAny (model prog w) A (.call (.builtin "object.__setattr__") ⟨[.ref x, .str nm tk, v], []⟩) R ⟨hp, gs, dr, tn, os⟩ := by
  obtain ⟨oD, _, _, hoD, _, _⟩ := hns.count hw
  have I : InstAt hp x { cls := .ref C, dict := some dx, data := .fields fv } C (some oD) := ⟨hx, rfl, rfl, hoD⟩
  have S0 := F.store_object
  have l1 : Looks (model prog w) hp (isInstance (.ref x) (.type "object")) true := I.type.andThen (looks_mroIn X (by unfold mroIn; rw [hcd, Option.bind_some, if_neg (by rw [hm.ne]; decide), hm.ob]))
  refine codeAny_call_builtin S0.slot.plain S0.entry ?_
  refine @check_slot (model prog w) _ _ ⟨hp, gs, dr, tn, os⟩ "object.__setattr__" "object" "__setattr__" (.ref x) [.str nm tk, v] [] _ S0.kind S0.split l1 (S0.args (.ref x) (.str nm tk) v) ?_
  have l2 : Looks (model prog w) hp (mroOf (.ref C)) cd.mro := (looks_clsIn X hcd).andThen .now
  have l3 : Looks (model prog w) hp (storeTaker? none) none := .now
  have l4 : Looks (model prog w) hp (classData C) cd := looks_clsIn X hcd
  rw [osa_eq, refuse_eq]
  refine wpAny_bind (wpAny_bind (I.type.at (wpAny_bind (l2.at ?_)))); rw [hm.ps]
  refine wpAny_pure (wpAny_bind (I.type.at (wpAny_bind ((looks_findIn X ha).at (wpAny_bind (l3.at ?_))))))
  show wpAny _ _ (storeInOwnDict (.ref x) (.ref C) (.str nm tk) nm v false) _ _ _
  obtain ⟨c1, c2, c3, c4, c5, c6, c7, c8, c9, c10, c11⟩ := cd
  have hh' : c6 = true := hh
  subst hh'
  unfold storeInOwnDict ownDictForStores
  repeat (first | with_reducible refine OEX.store_in_old hns hw hz ?_ | with_reducible refine wpAny_loadPart_at hx ?_ | with_reducible refine l4.at ?_ | wp_step)
  intro h' tk' hn' hs
  exact hq h' tk' (fun b o hb ho => (hs.2 b hb).trans ho) hn'
end
end GEX
end PySem
namespace L2
open PySem PySem.Spec PyProof.Rows PySem.W
/-- what the written part says of an own error class -/
structure OexG (K : PySem.W.Frag) (C : Addr) : Prop where
  cls : ∃ B newId initId bmB nm q N bs bm sn sub ab col dd k0 k1 k2 k3 k5, PySem.StoreFacts B bmB "object.__setattr__" "object" ∧ ExcBaseFacts B newId initId bmB ∧ K.lookup C = some (excClassObj nm q C N bs bm true sn sub ab col dd k0 k1 k2 k3 k5 newId) ∧ PySem.W.excTail bmB bm = true
  sa : PySem.W.findIn K (.ref C) "__setattr__" = some (some (.builtin "object.__setattr__"))
  exC : PySem.W.subIn K (.ref C) (.type "BaseException") = some true
  tyC : PySem.W.typeIn K (.ref C) = some (.type "type")
  kC : PySem.W.keepIn K (.ref C) = true
section
variable {X : Cx} {pins : List (Addr × Obj)} {σ : St} {H : Hp} {s : Shared} {a C dx : Addr} {f : Str} {y : V} {u : Value} {fs : List (Str × V)} {Q : Unit → Shared → Prop} {E : Value → Shared → Prop} {A : Around}
theorem OexG.look {K : PySem.W.Frag} {C : Addr} (T : OexG K C) : ∃ cd, PySem.W.clsIn K C = some cd ∧ PySem.GEX.Mro cd.mro ∧ cd.hasDict = true := by
  obtain ⟨B, nI, iI, bmB, nm, q, N, bs, bm, sn, sub, ab, col, dd, k0, k1, k2, k3, k5, SF, _, hC, hb⟩ := T.cls
  refine ⟨{ name := nm, bases := bs, mro := .ref C :: bm, ns := N, qualname := q, hasDict := true, slotNames := sn, subclasses := sub, abstract := ab, collection := col, hasDel := false }, ?_, PySem.GEX.mro_of SF hb C, rfl⟩
  unfold PySem.W.clsIn
  rw [hC] <;> rfl
/-- self.f = y, none there as yet -/
theorem ostG_new (T : OexG X.K C) (I : Inv X pins σ H s) (e : H a = some (exo a C none)) (hno : PySem.W.findIn X.K (.ref C) f = some none) (ry : RelV y u)
    (k : ∀ dx s', H dx = none → dx ≠ a → Inv X pins σ (upd (upd H dx (exd dx [(f, y)])) a (exo a C (some dx))) s' → Q () s') : wpAny (model X.prog X.w) A (setAttr (.ref a) f u) Q E s := by
  obtain ⟨cd, hcd, hmr, hdc⟩ := T.look
  obtain ⟨t1, ho⟩ := exo_at I.hok e
  obtain ⟨h0, gs, dr, tn, os⟩ := s
  refine PySem.W.set_plain I.kIn (ox := ⟨.ref C, none, .fields #[.ref t1, .none, .none, .none, .bool false, .none], #[]⟩) (od := none) ⟨ho, rfl, rfl, trivial⟩ T.sa ?_
  refine PySem.GEX.osa_first I.kIn ho hcd hmr hdc hno fun h' tk' dx kp dn dne hx hn => ?_
  have dfree : H dx = none := I.hok.fresh dn
  have low : ∀ {b : Addr} {o : Obj}, h0.get? b = some o → b ≠ dx := fun q => Nat.ne_of_lt (Nat.lt_of_lt_of_le (Heap.lt_size q) dn)
  have apart : ∀ {b : Addr}, H b = none → b ≠ a := fun {b} n z => by subst z; rw [e] at n; cases n
  have U1 : Un X.fs [] H (upd (upd H dx (exd dx [(f, y)])) a (exo a C (some dx))) h0 h' := by
    refine ⟨fun b o q n _ _ => kp b o (apart n) q, fun b o q n _ _ => ⟨o.slots, kp b o (apart n) q⟩, fun b o q n _ => ?_, fun b o q _ => ?_, fun b xs q => ?_, fun b o v q => ?_, fun b ps q => ⟨#[], ?_⟩⟩
    · rw [upd_ne (apart n), upd_ne (low q)]; exact n
    · by_cases hb : b = a
      · subst hb; exact ⟨_, hx⟩
      · exact ⟨o, kp b o hb q⟩
    · rw [upd_ne (at_ne e q exo_tup), upd_ne (ne_of_none q dfree)]; exact q
    · rw [upd_ne (at_ne e q exo_frz), upd_ne (ne_of_none q dfree)]; exact q
    · rw [upd_ne (at_ne e q exo_tbl), upd_ne (ne_of_none q dfree), q]; simp
  refine k dx _ dfree dne (I.un (t' := tk') U1 fun b o q => ?_)
  by_cases hb : b = a
  · subst hb; rw [upd_same] at q; cases q
    exact exo_ok hx
  · rw [upd_ne hb] at q
    by_cases hd : b = dx
    · subst hd; rw [upd_same] at q; cases q
      exact exd_ok hn (relO_put (fs := []) ry fun _ => True.intro)
    · rw [upd_ne hd] at q
      refine (I.hok b o q).stay (fun c v hc z => kp c v ?_ z) (fun c hc => ?_) (fun c xs hc => ?_)
      · rcases hc with rfl | hc
        · exact hb
        · exact at_ne e hc exo_own
      · rw [upd_ne (at_ne e hc exo_own), upd_ne (ne_of_none hc dfree)]; exact hc
      · rw [upd_ne (at_ne e hc exo_tup), upd_ne (ne_of_none hc dfree)]; exact hc
theorem ostG_old (T : OexG X.K C) (I : Inv X pins σ H s) (e : H a = some (exo a C (some dx))) (ed : H dx = some (exd dx fs)) (hl : fs.length ≤ 900) (hno : PySem.W.findIn X.K (.ref C) f = some none) (ry : RelV y u)
    (k : ∀ s', Inv X pins σ (upd H dx (exd dx ((f, y) :: fs))) s' → Q () s') : wpAny (model X.prog X.w) A (setAttr (.ref a) f u) Q E s := by
  obtain ⟨cd, hcd, hmr, hdc⟩ := T.look
  obtain ⟨t1, ho⟩ := exo_at I.hok e
  obtain ⟨mA, hns, rel⟩ := exd_at I.hok ed
  have win := within_of rel
  obtain ⟨oD, _, _, hoD, _, _⟩ := hns.count win
  obtain ⟨h0, gs, dr, tn, os⟩ := s
  refine PySem.W.set_plain I.kIn (ox := ⟨.ref C, some dx, .fields #[.ref t1, .none, .none, .none, .bool false, .none], #[]⟩) (od := some oD) ⟨ho, rfl, rfl, hoD⟩ T.sa ?_
  refine PySem.GEX.osa_more I.kIn ho hns win (by rw [List.length_map]; omega) hcd hmr hdc hno fun h' tk' kp hn => ?_
  have there : ∃ o, h'.get? dx = some o := by
    obtain ⟨o, _, _, e', _⟩ := hn
    exact ⟨o, e'⟩
  exact k _ (I.write (t' := tk') (x := dx) (e := dx) (o := exd dx ((f, y) :: fs)) (by rw [ed]; exact True.intro) (.inl rfl) kp there (exd_ok hn (relO_put ry rel)))
end
/-- self.f = e, self an error being made -/
def tOstG (K : PySem.W.Frag) (f : Str) (to te : TE) : TS := fun D σ H => te σ H fun y H1 => to σ H1 fun x H2 => ∃ a C : Addr, x = .ref a ∧ OexG K C ∧ PySem.W.findIn K (.ref C) f = some none ∧
  ((H2 a = some (exo a C none) ∧ ∀ dx, H2 dx = none → dx ≠ a → D.nx σ (upd (upd H2 dx (exd dx [(f, y)])) a (exo a C (some dx)))) ∨
    ∃ (dx : Addr) (fs : List (Str × V)), H2 a = some (exo a C (some dx)) ∧ H2 dx = some (exd dx fs) ∧ fs.length ≤ 900 ∧ D.nx σ (upd H2 dx (exd dx ((f, y) :: fs))))
section
variable {X : Cx} {o e : Expr} {es : List Expr} {to te : TE} {ta : TA} {f : Str} {p p' pos : Pos}
theorem ps_ostG (ho : PE X o to) (he : PE X e te) (hs : swapsWith e (some (.Attribute o f p')) pos.line X.env = pure false := by rfl) : PS X (.Assign [.Attribute o f p'] e pos) (tOstG X.K f to te) := by
  refine ⟨fun pins s σ H D I h => plainObj_wpAny_Assign_Attribute (thn (he.run pins s σ H _ I h) fun v s1 ⟨y, H1, I1, r1, q1⟩ => thn (ho.run pins s1 σ H1 _ I1 q1) fun u s2 ⟨x, H2, I2, r2, a, C, ex, T, hno, q⟩ => ?_) hs⟩
  subst ex
  cases (show u = Value.ref a from r2)
  rcases q with ⟨ea, q⟩ | ⟨dx, fs, ea, ed, hl, q⟩
  · exact ostG_new T I2 ea hno r1 fun dx _ n ne J => ⟨σ, _, J, q dx n ne⟩
  · exact ostG_old T I2 ea ed hl hno r1 fun _ J => ⟨σ, _, J, q⟩
/-- C(e, ..) -/
theorem pmk_oexG {CX : CXT} {x : Str} {C fI : Addr} {k : Nat} {sp : Sp} (T : OexG X.K C) (iC : PySem.W.findIn X.K (.ref C) "__init__" = some (some (.ref fI))) (tI : PySem.W.typeIn X.K (.ref fI) = some (.type "function"))
    (F1 : FnR X.prog X.w X.K X.mg X.base CX k fI sp) (hr : Room (k + 1) X.A) (hx : Passes CX X (fun _ _ _ => False)) (hg : Gl X x) (hm : X.mg x = some (.ref C)) (ha : PA X (e :: es) ta)
    (hdb : (x == ("__debug__" : Str)) = false := by decide) (he : starEach (e :: es) X.env = (false, eval e X.env) :: starEach es X.env := by rfl) (hpl : (backTo pos (starEach es X.env)).any (·.1) = false := by rfl) :
    PMk X (.Call (.Name x p) (e :: es) [] pos) (tMkO C sp [] ta) := by
  intro pins s σ H Q I h
  obtain ⟨B, nI, iI, bmB, nm, q, N, bs, bm, sn, sub, ab, col, dd, k0, k1, k2, k3, k5, _, BF, hC, hbm⟩ := T.cls
  refine wpAny_Call_Name_kw (ld_glob I hg hm ?_ hdb)
  refine PySem.W.callWith_K (h₀ := X.base) I.ok.mod.kin T.kC (thn (ha.run pos pins s σ H _ I h) fun us s1 ⟨vs, H1, I1, r1, hz, q1⟩ => ⟨I1.kIn, ?_⟩) he hpl
  show wpAny _ _ (call (.ref C) us) _ _ _
  obtain ⟨h0, gs, dr, tn, os⟩ := s1
  have up : h0.objs.size ≤ h0.objs.size + 1 := Nat.le_succ _
  have hq := q1 (h0.objs.size + 1) (I1.hok.fresh up)
  rw [List.append_nil] at hq
  have kk : ∀ b o, h0.get? b = some o → ((h0.push (PySem.W.kdv_tup us)).push (PySem.HandSPX.excO C h0.objs.size)).get? b = some o := fun b o z => Heap.get?_push_of_some _ (Heap.get?_push_of_some _ z)
  have there : ((h0.push (PySem.W.kdv_tup us)).push (PySem.HandSPX.excO C h0.objs.size)).get? (h0.objs.size + 1) = some (PySem.HandSPX.excO C h0.objs.size) := by heap_get
  have I2 : Inv X pins σ (upd H1 (h0.objs.size + 1) (exo (h0.objs.size + 1) C none)) ⟨(h0.push (PySem.W.kdv_tup us)).push (PySem.HandSPX.excO C h0.objs.size), gs, dr, tn, os⟩ := I1.laid (t' := tn) kk up (exo_ok there)
  have r2 : Vals (V.ref (h0.objs.size + 1) :: vs) (Value.ref (h0.objs.size + 1) :: us) := .cons rfl r1
  have hus : us.length ≤ sizeLine := by rw [← Paired.length r1, sizeLine_eq]; omega
  refine wpAny_call (PySem.HandSPX.call_own BF (fun Y => PySem.W.excTail_contains Y bm hbm) (I1.kIn _ _ hC) (PySem.W.looks_findIn I1.kIn iC) (fun self => PySem.W.bind_fn I1.kIn self tI) hus ?_)
  refine codeAny_mono (F1 _ X.stack _ _ (Value.ref (h0.objs.size + 1) :: us) _ _ (fun _ _ _ => False) (hr.make C us []) (I2.env0.make C us []) r2 hq) fun r s' hq' => ?_
  cases r with
  | error er => exact hx pins σ _ _ er s' I2 hq'
  | ok fl =>
    cases fl with
    | ret u =>
      obtain ⟨v, H2, os2, bare2, un2, hok2, rv, ev, d, fs, ea, ed, hd1, q2⟩ := hq'
      subst ev
      obtain ⟨h2, g2, d2, t2, os'⟩ := s'
      exact ⟨rv, mk_end (raises_own T.exC T.tyC) I1 up kk un2 hok2 os2 bare2 ea ed hd1 q2⟩
    | next => exact False.elim hq'
    | brk => exact False.elim hq'
    | cont => exact False.elim hq'
end
end L2
namespace U
open PySem PySem.Spec PyProof.Rows L2 StX
section
variable {P : Program} {w : World} {K : PySem.W.Frag} {mg : Str → Option Value} {base : Heap}
/-- a def that may raise -/
theorem FnAt.okX {x qual : Str} {st : Stmt} {f : Addr} {N ps : List Str} {k : Nat} {sp : Sp} (A : FnAt K x qual st f ps) (S : FnScope N ps (defScope st)) (len : ∀ vs H Q E, sp vs H Q E → vs.length = ps.length)
    (hbody : ∀ (cdv : Value) (A : Around) (outer : List Env) (s : Shared) (H : Hp) (vs : List V) (Q : VK) (E : XK), Room k (A.deeper (envOfC qual (defScope st) s.heap.objs.size f cdv)) → sp vs H Q E →
      ∃ t, PSs (cxOf (L2.CX P w) P w K mg base N qual (defScope st) f cdv A outer s H E) (defBody st) t ∧ t { nx := fun _ H' => Q .non H', rt := Q } (start N vs) H) : FnR P w K mg base (L2.CX P w) (k + 1) f sp := by
  obtain ⟨fd, F, B⟩ := A.ex
  have R := (F.okX (P := P) (w := w) (mg := mg) (base := base) S len hbody).raw B .nil
  exact R.imp fun vs H Q E h => by rw [List.append_nil]; exact h
end
section
variable {X : Cx} {CX : CXT} {pins : List (Addr × Obj)} {σ : L2.St} {H : Hp} {s : Shared} {a C dx p g f : Addr} {n k : Nat} {sp : Sp} {E : L2.St → XK} {v : V} {u : Value} {x : Str} {e ea eb : Expr} {es : List Expr} {ta tb : TE} {t : TA} {pp pos : Pos}
theorem run_RS {Q : VK} {us : List Value} {vs : List V} {E : XK} (F : FnR X.prog X.w X.K X.mg X.base CX k f sp) (hr : Room k X.A) (hx : PassesAt CX X σ E) (I : Inv X pins σ H s) (r : Vals vs us) (h : sp vs H Q E) :
    codeAny (model X.prog X.w) X.A (.call (.ref f) ⟨us, []⟩) (fun r s' => match r with | .ok (.ret v) => EP X pins σ Q v s' | .ok _ => False | .error e => X.xe e s') s := by
  refine codeAny_mono (F X.A X.stack s H us vs Q E hr I.env0 r h) fun z s' hq => ?_
  match z, hq with
  | .error er, hq => exact hx pins H s er s' I hq
  | .ok (.ret w), hq => exact I.after hq
  | .ok .next, hq => exact hq.elim
  | .ok .brk, hq => exact hq.elim
  | .ok .cont, hq => exact hq.elim
end
end U
namespace U
open PySem PySem.Spec PyProof.Rows L2 StX
end U
namespace U
open PySem PySem.Spec PyProof.Rows L2
section
variable {P : Program} {w : World} {K : PySem.W.Frag} {mg : Str → Option Value} {base : Heap}
/-- a def that may raise, called where it does not -/
theorem fnR_calm {k : Nat} {f : Addr} {sp : Sp} (F : FnR P w K mg base (L2.CX P w) k f sp) : FnR P w K mg base CX0 k f (fun vs H Q _ => sp vs H Q E0) := by
  intro A outer s H us vs Q E hr e0 r h
  refine codeAny_mono (F A outer s H us vs Q E0 hr e0 r h) fun r s' hq => ?_
  cases r with
  | error e =>
    obtain ⟨_, _, _, _, _, _, _, _, _, _, _, _, z⟩ := hq
    exact z.elim
  | ok fl => cases fl <;> exact hq
end
/-! ### own errors with one or two fields -/
def spIni1 (C : Addr) (f : Str) : Sp := fun vs H Q _ => ∃ (a : Addr) (v : V), vs = [.ref a, v] ∧ H a = some (exo a C none) ∧ ∀ dx, H dx = none → dx ≠ a → Q .non (upd (upd H dx (exd dx [(f, v)])) a (exo a C (some dx)))
theorem mk_one {C : Addr} {f : Str} {v : V} {H : Hp} {Q : XK} (h : ∀ d, H d = none → Q (.ref C) (some d) (upd H d (.xd [(f, v)]))) :
    [v].length ≤ 1000 ∧ ∀ a, H a = none → spIni1 C f (.ref a :: ([v] ++ [])) (upd H a (exo a C none))
      (fun z H2 => z = .non ∧ ∃ (d : Addr) (fs : List (Str × V)), H2 a = some (exo a C (some d)) ∧ H2 d = some (exd d fs) ∧ H d = none ∧ Q (.ref C) (some d) (upd (del H2 a) d (.xd fs))) (fun _ _ _ => False) := by
  refine ⟨(by show 1 ≤ 1000; decide), fun a ha => ⟨a, v, rfl, upd_same, fun dx hd ne => ⟨rfl, dx, [(f, v)], upd_same, ?_, ?_, ?_⟩⟩⟩
  · rw [upd_ne ne, upd_same]
  · rw [upd_ne ne] at hd; exact hd
  · rw [upd_ne ne] at hd
    have e : upd (del (upd (upd (upd H a (exo a C none)) dx (exd dx [(f, v)])) a (exo a C (some dx))) a) dx (.xd [(f, v)]) = upd H dx (.xd [(f, v)]) := by
      funext b
      by_cases h1 : b = dx
      · subst h1; rw [upd_same, upd_same]
      · rw [upd_ne h1, upd_ne h1]
        by_cases h2 : b = a
        · subst h2
          rw [ha]
          unfold del
          simp
        · unfold del
          simp only [h2, if_false]
          rw [upd_ne h2, upd_ne h1, upd_ne h2]
    rw [e]
    exact h dx hd
end U
namespace U
open PySem PySem.Spec PyProof.Rows L2
end U
namespace U
open PySem PySem.Spec PyProof.Rows L2 StX
/-! ### defs that are called where no repr runs around them -/
def FnG (P : Program) (w : World) (K : PySem.W.Frag) (mg : Str → Option Value) (base : Heap) (CX : CXT) (k : Nat) (f : Addr) (sp : Sp) : Prop :=
  ∀ (A : Around) (outer : List Env) (s : Shared) (H : Hp) (us : List Value) (vs : List V) (Q : VK) (E : XK), A.guards = some [] → Room k A → Env0 P w K mg base A outer s H → Vals vs us → sp vs H Q E → codeAny (model P w) A (.call (.ref f) ⟨us, []⟩) (CR CX outer P w H s Q E) s
section
variable {P : Program} {w : World} {K : PySem.W.Frag} {mg : Str → Option Value} {base : Heap} {CX : CXT} {j k : Nat} {f : Addr} {sp sp' : Sp}
theorem FnG.mono (F : FnG P w K mg base CX j f sp) (h : j ≤ k) : FnG P w K mg base CX k f sp := fun A outer s H us vs Q E g hr => F A outer s H us vs Q E g (hr.mono h)
theorem FnG.imp (F : FnG P w K mg base CX k f sp) (h : ∀ vs H Q E, sp' vs H Q E → sp vs H Q E) : FnG P w K mg base CX k f sp' := fun A outer s H us vs Q E g hr e0 r z => F A outer s H us vs Q E g hr e0 r (h _ _ _ _ z)
/-- the body's walk, with what is around -/
theorem bodyG {x qual : Str} {st : Stmt} {fd : FuncData} {N ps : List Str} (F : Fun K x qual st f fd) (S : FnScope N ps (defScope st)) (len : ∀ vs H Q E, sp vs H Q E → vs.length = ps.length)
    (hbody : ∀ (cdv : Value) (A : Around) (outer : List Env) (s : Shared) (H : Hp) (vs : List V) (Q : VK) (E : XK), A.guards = some [] → Room k (A.deeper (envOfC qual (defScope st) s.heap.objs.size f cdv)) → sp vs H Q E →
      ∃ t, PSs (cxOf CX P w K mg base N qual (defScope st) f cdv A outer s H E) (defBody st) t ∧ t { nx := fun _ H' => Q .non H', rt := Q } (start N vs) H)
    (A : Around) (outer : List Env) (s : Shared) (H : Hp) (args : Args) (us : List Value) (vs : List V) (Q : VK) (E : XK) (g : A.guards = some []) (hr : Room (k + 1) A) (e0 : Env0 P w K mg base A outer s H) (hb : BindsTo s fd args (ps.zip us)) (r : Vals vs us) (hs : sp vs H Q E) :
    codeAny (model P w) A (.call (.ref f) args) (CR CX outer P w H s Q E) s := by
  obtain ⟨oc, od, kV, doc, pm, an, cdv, ct, osl, rfl, lk, hcd⟩ := F.ex
  have hl := len _ _ _ _ hs
  have kin : K.In s.heap := e0.mod.kin.keeps fun b o e => (e0.bs b o e).1
  have lim : s.heap.NoLimit := e0.mod.nolimit.keeps fun b o e => (e0.bs b o e).1
  have names : ∀ y ∈ ps.zip us, (defScope st).names.lookup y.1 = some .local ∨ ((defScope st).names.lookup y.1 = some .cell ∧ ((cellsFrom (s.heap.objs.size + 1) (defScope st).names []).lookup y.1).isSome = true) := by
    rintro ⟨n, v⟩ hy
    rcases S.par n (List.of_mem_zip hy).1 with q | q
    · exact .inl q
    · exact .inr ⟨q, PySem.W.cellsFrom_some _ _ _ (.inl q)⟩
  refine codeAny_call_function hr.depth (kin _ _ lk) rfl S.co S.gen rfl (PySem.W.codeRec_of kin hcd) (hb _ _ _ _ ?_)
  refine wpAny_newFunctionEnv_cells S.kind names fun env he s1 z => ?_
  subst he
  refine ⟨lim.keeps z.toInCall.keep, codeAny_func ?_⟩
  obtain ⟨t, ht, hq⟩ := hbody cdv A outer s H vs Q E g (hr.deeper _) hs
  have I : Inv (cxOf CX P w K mg base N qual (defScope st) f cdv A outer s H E) [] (start N vs) H s1 := inv_start S hr.hd e0 hl r z
  refine wpAny_mono (ht.run [] s1 (start N vs) H _ I hq) (fun fl s' h' => ?_) fun _ _ h' => h'
  match fl, h' with
  | .ret u, ⟨v, σ', H', J, rv, q⟩ => exact ⟨v, H', J.os, J.bare, J.base, J.hok, rv, q⟩
  | .next, ⟨σ', H', J, q⟩ => exact ⟨.non, H', J.os, J.bare, J.base, J.hok, rfl, q⟩
  | .brk, ⟨_, _, _, q⟩ => exact q.elim
  | .cont, ⟨_, _, _, q⟩ => exact q.elim
theorem FnAt.okG {x qual : Str} {st : Stmt} {N ps : List Str} (B : FnAt K x qual st f ps) (S : FnScope N ps (defScope st)) (len : ∀ vs H Q E, sp vs H Q E → vs.length = ps.length)
    (hbody : ∀ (cdv : Value) (A : Around) (outer : List Env) (s : Shared) (H : Hp) (vs : List V) (Q : VK) (E : XK), A.guards = some [] → Room k (A.deeper (envOfC qual (defScope st) s.heap.objs.size f cdv)) → sp vs H Q E →
      ∃ t, PSs (cxOf CX0 P w K mg base N qual (defScope st) f cdv A outer s H E).nox (defBody st) t ∧ t { nx := fun _ H' => Q .non H', rt := Q } (start N vs) H) : FnG P w K mg base CX0 (k + 1) f sp := by
  obtain ⟨fd, F, bi⟩ := B.ex
  intro A outer s H us vs Q E g hr e0 r hs
  have hl : (us ++ []).length = ps.length := by rw [List.append_nil, ← r.length]; exact len _ _ _ _ hs
  refine bodyG F S len (fun cdv A outer s H vs Q E g hr hs => ?_) A outer s H ⟨us, []⟩ us vs Q E g hr e0 ?_ r hs
  · obtain ⟨t, h, q⟩ := hbody cdv A outer s H vs Q E g hr hs
    exact ⟨t, h.nox, q⟩
  · have := bi s us (e0.mod.kin.keeps fun b o e => (e0.bs b o e).1) hl
    rw [List.append_nil] at this
    exact this
end
section
variable {X : Cx} {CX : CXT} {pins : List (Addr × Obj)} {σ : L2.St} {H : Hp} {s : Shared} {f : Addr} {k : Nat} {sp : Sp} {x : Str} {e : Expr} {es : List Expr} {t : TA} {pp pos : Pos}
theorem run_G {Q : VK} {us : List Value} {vs : List V} {E : XK} (F : FnG X.prog X.w X.K X.mg X.base CX k f sp) (g : X.A.guards = some []) (hr : Room k X.A) (hx : PassesAt CX X σ E) (I : Inv X pins σ H s) (r : Vals vs us) (h : sp vs H Q E) :
    codeAny (model X.prog X.w) X.A (.call (.ref f) ⟨us, []⟩) (fun r s' => match r with | .ok (.ret v) => EP X pins σ Q v s' | .ok _ => False | .error e => X.xe e s') s := by
  refine codeAny_mono (F X.A X.stack s H us vs Q E g hr I.env0 r h) fun z s' hq => ?_
  match z, hq with
  | .error er, hq => exact hx pins H s er s' I hq
  | .ok (.ret w), hq => exact I.after hq
  | .ok .next, hq => exact hq.elim
  | .ok .brk, hq => exact hq.elim
  | .ok .cont, hq => exact hq.elim
/-- x(e, ..), x such a def -/
theorem pe_callG {E : XK} (F : FnG X.prog X.w X.K X.mg X.base CX k f sp) (g : X.A.guards = some []) (hr : Room k X.A) (hk : PySem.W.keepIn X.K (.ref f) = true) (hg : Gl X x) (hm : X.mg x = some (.ref f)) (hx : Passes CX X E) (ha : PA X (e :: es) t) (hdb : (x == ("__debug__" : Str)) = false := by decide)
    (he : starEach (e :: es) X.env = (false, eval e X.env) :: starEach es X.env := by rfl) (hpl : (backTo pos (starEach es X.env)).any (·.1) = false := by rfl) : PE X (.Call (.Name x pp) (e :: es) [] pos) (tCallR sp E t) := by
  refine ⟨fun pins s σ H Q I h => wpAny_Call_Name_kw (ld_glob I hg hm ?_ hdb)⟩
  exact PySem.W.callWith_K (h₀ := X.base) I.ok.mod.kin hk (thn (ha.run pos pins s σ H _ I h) fun us s1 ⟨vs, H1, I1, r, q⟩ => ⟨I1.kIn, wpAny_call (run_G F g hr (fun pins H s e s' => hx pins σ H s e s') I1 r q)⟩) he hpl
/-! ### repr -/
/-! ### a dict of ints, shown -/
def dI (l : List (Int × Int)) : PyData := .dict (l.map fun p => (PyData.int p.1, PyData.int p.2))
end
end U
namespace U
open PySem PySem.Spec PyProof.Rows L2 StX
/-- what holds no other object -/
inductive Sc : V → PyData → Prop
  | non : Sc .non .none
  | bl (b : Bool) : Sc (.bl b) (.bool b)
  | int (i : Int) : Sc (.int i) (.int i)
  | str (x : Str) : Sc (.str x) (.str x)
def keyD : Key → PyData
  | .inl i => .int i
  | .inr x => .str x
theorem Sc.reads {h : Heap} {v : V} {d : PyData} {u : Value} (s : Sc v d) (r : RelV v u) : Reads h u d [] := by
  cases s with
  | non => cases r; exact .none
  | bl b => cases r; exact .bool b
  | int i => obtain ⟨t, rfl⟩ := r; exact .int i t
  | str x => obtain ⟨t, rfl⟩ := r; exact .str x t
theorem flat_reads {prog : Program} {w : World} {h : Heap} : ∀ {es : List DictEntry} {va : List (Key × Value)} {kvs : List (Key × V)} {ds : List PyData}, Pairs (mixKind prog w) es va → KV kvs va → Paired (fun kv d => Sc kv.2 d) kvs ds →
    ReadsAll h (es.map (·.key)) (kvs.map fun kv => keyD kv.1) [] ∧ ReadsAll h (es.map (·.val)) ds []
  | [], _, _, _, .nil, r, z => by
    cases r
    cases z
    exact ⟨.nil, .nil⟩
  | e :: es, _, _, _, .cons h1 h2 h3, r, z => by
    unfold KV at r
    cases r with
    | cons q r =>
      cases z with
      | cons zc z =>
        obtain ⟨g1, g2⟩ := flat_reads (h := h) h3 r z
        obtain ⟨q1, q2⟩ := q
        refine ⟨.cons (as := []) ?_ g1, .cons (as := []) ?_ g2⟩
        · show Reads h e.key (keyD _) []
          rw [q1]
          rcases keyIs_shape h1 with ⟨i, t, e1, e2⟩ | ⟨x, t, e1, e2⟩
          · rw [e1, e2]; exact .int i t
          · rw [e1, e2]; exact .str x t
        · show Reads h e.val _ []
          rw [h2]
          exact zc.reads q2
def flatD (kvs : List (Key × V)) (ds : List PyData) : PyData := .dict ((kvs.map fun kv => keyD kv.1).zip ds)
theorem dict_reads {X : Cx} {pins : List (Addr × Obj)} {σ : L2.St} {H : Hp} {s : Shared} {a : Addr} {kvs : List (Key × V)} {ds : List PyData} (I : Inv X pins σ H s) (ea : H a = some (.dK kvs)) (z : Paired (fun kv d => Sc kv.2 d) kvs ds) :
    ∃ as, Reads s.heap (.ref a) (flatD kvs ds) as ∧ sysModules ∉ as := by
  obtain ⟨_, ya, va, ra, o, es, ep, ho, hc, hd, _, hp, _⟩ := (show ObjOk X.prog X.w H s.heap a (.dK kvs) from I.hok a _ ea)
  obtain ⟨g1, g2⟩ := flat_reads (h := s.heap) hp ra z
  have lz : kvs.length = ds.length := Paired.length z
  have e1 : (((kvs.map fun kv => keyD kv.1).zip ds).map (·.1)) = kvs.map fun kv => keyD kv.1 := List.map_fst_zip (by rw [List.length_map, lz]; exact Nat.le_refl _)
  have e2 : (((kvs.map fun kv => keyD kv.1).zip ds).map (·.2)) = ds := List.map_snd_zip (by rw [List.length_map, lz]; exact Nat.le_refl _)
  refine ⟨a :: [] ++ [], .dict ho hc.1 hd (by rw [e1]; exact g1) (by rw [e2]; exact g2), ?_⟩
  simp only [List.append_nil, List.mem_singleton]
  intro e
  rw [← e] at ya
  simp at ya
section
variable {X : Cx} {CX : CXT} {k : Nat} {f C : Addr} {sp : Sp} {E : XK} {n : Nat} {g : Addr}
/-- {d!r}, a dict of scalars -/
def tFmtF (te : TE) : TE := fun σ H Q => te σ H fun x H1 => ∃ a kvs ds, x = .ref a ∧ H1 a = some (.dK kvs) ∧ Paired (fun kv d => Sc kv.2 d) kvs ds ∧ (flatD kvs ds).showable = true ∧ (flatD kvs ds).depth ≤ 60 ∧ (flatD kvs ds).shown.length ≤ sizeLine ∧ Q (.str (flatD kvs ds).shown) H1
theorem pe_fmtF {e : Expr} {te : TE} {pos : Pos} (g : X.A.guards = some []) (hu : X.A.units + 64 < cLine) (he : PE X e te) : PE X (.FormattedValue e 114 none pos) (tFmtF te) := by
  refine ⟨fun pins s σ H Q I h => ?_⟩
  refine wpAny_FormattedValue_repr (thn (he.run pins s σ H _ I h) fun v s1 hv => ?_)
  obtain ⟨x, H1, I1, r1, a, kvs, ds, rfl, ea, z, hs, hdp, hz, q⟩ := hv
  cases (show v = Value.ref a from r1)
  obtain ⟨as, rd, hn⟩ := dict_reads I1 ea z
  refine pyReprObj_of_reads rd hs (fun _ => hn) g (by omega) (fun _ _ e => e) (fun h' u tk hk => ?_) hz
  have I2 : Inv X pins σ H1 { s1 with heap := h', toks := tk } := I1.kept (t' := tk) hk
  exact wpAny_formatField_str ⟨.str _, H1, I2, ⟨_, rfl⟩, q⟩ ⟨.str _, H1, I2.tok _, ⟨_, rfl⟩, q⟩ hz
/-- repr(x), x an instance with its own __repr__ -/
def rReprO (C : Addr) (sp : Sp) (E : XK) : List V → Hp → VK → Prop := fun xs H Q => ∃ a dx fs, xs = [.ref a] ∧ H a = some (.ins C dx fs) ∧ sp [.ref a] H (fun v H' => ∃ z : Str, v = .str z ∧ Q (.str z) H') E
theorem call_reprO (gd : X.A.guards = some []) (hs : PySem.W.findIn X.K (.ref C) "__repr__" = some (some (.ref g))) (hf : PySem.W.isFn X.K (.ref g) = true) (F : FnG X.prog X.w X.K X.mg X.base CX n g sp) (hr : Room (n + 1) X.A) (hx : Passes CX X E) : CallR X (.builtin "repr") (rReprO C sp E) := by
  intro pins s σ H xs us Q I r h
  obtain ⟨a, dx, fs, rfl, ea, q⟩ := h
  obtain ⟨u, rfl, ru⟩ := r.one
  cases (show u = Value.ref a from ru)
  obtain ⟨ox, od, J⟩ := ins_inst I ea
  obtain ⟨m, hF⟩ := I.fr
  refine PySem.W.repr_K (by have := hr.un; show X.A.units + 1 < cLine; omega) hF I.ok.mod.kin J hs hf ?_
  refine wpAny_call ?_
  refine codeAny_mono (F X.A.in1 X.stack s H [.ref a] [.ref a] _ E gd (Room.in1 hr) I.env0.in1 (.cons rfl .nil) q) fun z s' hq => ?_
  match z, hq with
  | .error er, hq => exact hx pins σ H s er s' I hq
  | .ok (.ret w), hq =>
    obtain ⟨v, H', I', rv, zt, ev, qz⟩ := I.after hq
    subst ev
    obtain ⟨tk, rfl⟩ := rv
    exact ⟨.str zt, H', I', ⟨tk, rfl⟩, qz⟩
  | .ok .next, hq => exact hq.elim
  | .ok .brk, hq => exact hq.elim
  | .ok .cont, hq => exact hq.elim
/-- x == y, x an instance of C, y a value of any known kind -/
def rEqV (K : PySem.W.Frag) (C : Addr) (sp : Sp) (E : XK) : R2 := fun x y H Q => ∃ a dx fs t, x = .ref a ∧ H a = some (.ins C dx fs) ∧ TyX K H y t ∧ PySem.W.notFirst K C t = true ∧ sp [x, y] H Q E
theorem op_eqV (hs : PySem.W.findIn X.K (.ref C) "__eq__" = some (some (.ref g))) (hf : PySem.W.isFn X.K (.ref g) = true) (F : FnR X.prog X.w X.K X.mg X.base CX n g sp) (hr : Room n X.A) (hx : Passes CX X E) : OpR X (compareOp .Eq) (rEqV X.K C sp E) := by
  intro pins s σ H x y v u Q I rx ry h
  obtain ⟨a, dx, vs, t, rfl, ha, ty, nf, q⟩ := h
  cases (show v = Value.ref a from rx)
  obtain ⟨ox, od, J⟩ := ins_inst I ha
  obtain ⟨Pq, Z, pq, _⟩ := kit_of I ry ty
  obtain ⟨m, hF⟩ := I.fr
  show wpAny _ _ (richCompare .Eq (.ref a) u) _ _ _
  refine PySem.W.cmp_K (op := .Eq) (tb := t) hr.units0 hF I.ok.mod.kin J (Z.ty _ _ I.kIn pq) nf hs hf ?_
  refine wpAny_mono (wpAny_call (run_fnR (us := [.ref a, u]) (vs := [.ref a, y]) F hr hx I (.cons rfl (.cons ry .nil)) q)) (fun w s' z => ?_) fun _ _ x => x
  obtain ⟨z', H', I', rz, qz⟩ := z
  exact SlX.cmpback rz ⟨z', H', I', rz, qz⟩
def rNeV (K : PySem.W.Frag) (C : Addr) (sp : Sp) (E : XK) : R2 := fun x y H Q => ∃ a dx fs t, x = .ref a ∧ H a = some (.ins C dx fs) ∧ TyX K H y t ∧ PySem.W.notFirst K C t = true ∧ sp [x, y] H (fun z H' => ∃ c, z = .bl c ∧ Q (.bl (!c)) H') E
theorem op_neV (oc : OwnC X.K C) (hne : PySem.W.findIn X.K (.ref C) "__ne__" = some (some (.builtin "object.__ne__"))) (hs : PySem.W.findIn X.K (.ref C) "__eq__" = some (some (.ref g))) (hf : PySem.W.isFn X.K (.ref g) = true) (F : FnR X.prog X.w X.K X.mg X.base CX n g sp)
    (hr : Room (n + 1) X.A) (hx : Passes CX X E) : OpR X (compareOp .NotEq) (rNeV X.K C sp E) := by
  intro pins s σ H x y v u Q I rx ry h
  obtain ⟨a, dx, vs, t, rfl, ha, ty, nf, q⟩ := h
  cases (show v = Value.ref a from rx)
  obtain ⟨ox, od, J⟩ := ins_inst I ha
  obtain ⟨Pq, Z, pq, _⟩ := kit_of I ry ty
  obtain ⟨m, hF⟩ := I.fr
  have hr1 : Room n X.A.in1 := Room.in1 hr
  refine PySem.W.my_ne_K (tb := t) (hu_of hr) hF I.ok.mod.kin J (Z.ty _ _ I.kIn pq) nf hne oc.cm hs hf ?_
  refine wpAny_mono (wpAny_call (SlX.run_at (us := [.ref a, u]) (ws := [.ref a, y]) F hr1 I.env0.in1 hx I (.cons rfl (.cons ry .nil)) q)) (fun w s' z => ?_) fun _ _ x => x
  obtain ⟨z', H', I', rz, c, ez, qz⟩ := z
  subst ez
  cases (show w = Value.bool c from rz)
  exact ⟨c, rfl, .bl (!c), H', I', rfl, qz⟩
end
end U
namespace U
open PySem PySem.Spec PyProof.Rows L2 StX
/-! ### the law's call, where no repr runs around it -/
end U
namespace U
open PySem PySem.Spec PyProof.Rows L2 StX
/-! ### defs called while an exception is handled -/
def FnHG (P : Program) (w : World) (K : PySem.W.Frag) (mg : Str → Option Value) (base : Heap) (CX : CXT) (k : Nat) (f : Addr) (sp : Sp) : Prop :=
  ∀ (A : Around) (outer : List Env) (s : Shared) (H : Hp) (us : List Value) (vs : List V) (Q : VK) (E : XK) (p : Addr × Obj), A.guards = some [] → L2H.RoomH k A → L2H.PinOk outer H s p → Env0 P w K mg base A outer s H → Vals vs us → sp vs H Q E → codeAny (model P w) A (.call (.ref f) ⟨us, []⟩) (CR CX outer P w H s Q E) s
section
variable {P : Program} {w : World} {K : PySem.W.Frag} {mg : Str → Option Value} {base : Heap} {CX : CXT} {k : Nat} {f : Addr} {sp : Sp}
theorem FnAt.okHG {x qual : Str} {st : Stmt} {N ps : List Str} (B : FnAt K x qual st f ps) (S : FnScope N ps (defScope st)) (len : ∀ vs H Q E, sp vs H Q E → vs.length = ps.length)
    (hbody : ∀ (cdv : Value) (A : Around) (outer : List Env) (s : Shared) (H : Hp) (vs : List V) (Q : VK) (E : XK) (p : Addr × Obj), A.guards = some [] → L2H.RoomH k (A.deeper (envOfC qual (defScope st) s.heap.objs.size f cdv)) → sp vs H Q E →
      ∃ t, PSs (L2H.cxH CX0 P w K mg base N qual (defScope st) f cdv A outer s H E p).nox (defBody st) t ∧ t { nx := fun _ H' => Q .non H', rt := Q } (start N vs) H) : FnHG P w K mg base CX0 (k + 1) f sp := by
  obtain ⟨fd, F, bi⟩ := B.ex
  intro A outer s H us vs Q E p g hr hp e0 r hs
  have hl := len _ _ _ _ hs
  have hb := bi s us (e0.mod.kin.keeps fun b o e => (e0.bs b o e).1) (by rw [List.append_nil, ← r.length]; exact hl)
  rw [List.append_nil] at hb
  obtain ⟨oc, od, kV, doc, pm, an, cdv, ct, osl, rfl, lk, hcd⟩ := F.ex
  have kin : K.In s.heap := e0.mod.kin.keeps fun b o e => (e0.bs b o e).1
  have lim : s.heap.NoLimit := e0.mod.nolimit.keeps fun b o e => (e0.bs b o e).1
  have names : ∀ y ∈ ps.zip us, (defScope st).names.lookup y.1 = some .local ∨ ((defScope st).names.lookup y.1 = some .cell ∧ ((cellsFrom (s.heap.objs.size + 1) (defScope st).names []).lookup y.1).isSome = true) := by
    rintro ⟨n, v⟩ hy
    rcases S.par n (List.of_mem_zip hy).1 with q | q
    · exact .inl q
    · exact .inr ⟨q, PySem.W.cellsFrom_some _ _ _ (.inl q)⟩
  refine codeAny_call_function hr.depth (kin _ _ lk) rfl S.co S.gen rfl (PySem.W.codeRec_of kin hcd) (hb _ _ _ _ ?_)
  refine wpAny_newFunctionEnv_cells S.kind names fun env he s1 z => ?_
  subst he
  refine ⟨lim.keeps z.toInCall.keep, codeAny_func ?_⟩
  obtain ⟨t, ht, hq⟩ := hbody cdv A outer s H vs Q E p g (hr.deeper _) hs
  have I : Inv (L2H.cxH CX0 P w K mg base N qual (defScope st) f cdv A outer s H E p) [] (start N vs) H s1 := L2H.inv_startH S hp e0 hl r z
  refine wpAny_mono (ht.nox.run [] s1 (start N vs) H _ I hq) (fun fl s' h' => ?_) fun _ _ h' => h'
  match fl, h' with
  | .ret u, ⟨v, σ', H', J, rv, q⟩ => exact ⟨v, H', J.os, J.bare, J.base, J.hok, rv, q⟩
  | .next, ⟨σ', H', J, q⟩ => exact ⟨.non, H', J.os, J.bare, J.base, J.hok, rfl, q⟩
  | .brk, ⟨_, _, _, q⟩ => exact q.elim
  | .cont, ⟨_, _, _, q⟩ => exact q.elim
end
end U
namespace U
open PySem PySem.Spec PyProof.Rows L2 StX
theorem roomS {X : Cx} {a : Addr} {pn : List (Addr × Obj)} {k : Nat} (hr : Room k X.A) : L2H.RoomH k (X.suite a pn).A := ⟨hr.dp, hr.un⟩
/-- o.m(e, ..), what it raises told by the slots -/
def tMethRS (C : Addr) (m : Str) (sp : Sp) (E : L2.St → XK) (ta : TE) (t : TA) : TE := fun σ H Q => ta σ H fun x H1 => ∃ a dx fs, x = .ref a ∧ H1 a = some (.ins C dx fs) ∧ fs.lookup m = none ∧ t σ H1 fun vs H2 => sp (x :: vs) H2 Q (E σ)
theorem pe_methRS {X : Cx} {CX : CXT} {k : Nat} {C f : Addr} {m : Str} {sp : Sp} {E : L2.St → XK} {o e : Expr} {es : List Expr} {ta : TE} {t : TA} {apos pos : Pos} {pl : Sem Bool} (he : PE X o ta) (c : Cls X.K C) (hm : Meth X.K C m f)
    (F : FnR X.prog X.w X.K X.mg X.base CX k f sp) (hr : Room k X.A) (hx : ∀ σ, PassesAt CX X σ (E σ)) (ha : PA X (e :: es) t)
    (hst : starEach (e :: es) X.env = (false, eval e X.env) :: starEach es X.env := by rfl) (hpl : (backTo pos (starEach es X.env)).any (·.1) = false := by rfl)
    (ht : eval (.Call (.Attribute o m apos) (e :: es) [] pos) X.env = (do
        let ov ← eval o X.env
        standAt apos.atName
        let (f, first) ← holding [ov] (getMethod ov m pl)
        callWith pos f first (backTo pos (starEach (e :: es) X.env)) (backToKw pos (keywordEach [] X.env))) := by rfl) :
    PE X (.Call (.Attribute o m apos) (e :: es) [] pos) (tMethRS C m sp E ta t) := by
  refine ⟨fun pins s σ H Q I h => PySem.W.methodCall_KW (pl := pl) (thn (he.run pins s σ H _ I h) fun u s1 ⟨x, H1, I1, rx, a, dx, fs, ex, ea, l, q⟩ => ?_) ht⟩
  subst ex
  cases (show u = Value.ref a from rx)
  refine getmeth_ok I1 ea c hm l (PySem.W.callWith_K (first := [.ref a]) (h₀ := X.base) I.ok.mod.kin hm.kp (thn (ha.run pos pins s1 σ H1 _ I1 q) fun us s2 ⟨vs, H2, I2, r, q2⟩ => ⟨I2.kIn, ?_⟩) hst hpl)
  exact wpAny_call (run_RS (us := .ref a :: us) (vs := .ref a :: vs) F hr (hx σ) I2 (.cons rfl r) q2)
end U
namespace U
open PySem PySem.Spec PyProof.Rows L2 StX
end U
namespace U
open PySem PySem.Spec PyProof.Rows L2 StX PySem.W
end U
namespace U
open PySem PySem.Spec PyProof.Rows L2 StX
/-! ### x op i, the class's own, i an int -/
/-! ### list(d.items()), the dict locked or not -/
end U
namespace U
open PySem PySem.Spec PyProof.Rows L2
/-! ### several clauses 'except x as n' -/
/-- what the clauses wish of an exception of the body, one after the other: class, slot of the name, suite -/
def wManyA (K : PySem.W.Frag) (Wout : WX) (D : Ends) : List (Value × Nat × (Addr → Value → Option Addr → TS)) → WX
  | [] => Wout
  | (c, i, ts) :: r => fun cls d σ H => ∃ b, PySem.W.exmOne K cls c = some b ∧
      (b = true → ∀ a, H a = none → ts a cls d { nx := fun σ' H' => D.nx (σ'.set i none) H', rt := D.rt, bk := fun σ' H' => D.bk (σ'.set i none) H', ct := fun σ' H' => D.ct (σ'.set i none) H' } (σ.set i (some (.ref a))) H) ∧
      (b = false → wManyA K Wout D r cls d σ H)
inductive HdsA (X : Cx) : List ExceptHandler → List (Value × Nat × (Addr → Value → Option Addr → TS)) → Prop
  | nil : HdsA X [] []
  | cons {x n : Str} {c : Value} {i : Nat} {ts : Addr → Value → Option Addr → TS} {b₀ : Stmt} {suite : List Stmt} {np pos' : Pos} {hds : List ExceptHandler} {l : List (Value × Nat × (Addr → Value → Option Addr → TS))} (hi : X.N[i]? = some n) (hln : X.env.kindOf n = some .local) (hc : Names X x c)
      (hsu : ∀ (a : Addr) (oe : Obj) (cls : Value) (d : Option Addr) (pn : List (Addr × Obj)), Zc cls d oe → (∃ vs, oe.data = .fields vs) → PSs (X.suite a ((a, oe) :: pn)) (b₀ :: suite) (ts a cls d)) (r : HdsA X hds l) :
      HdsA X (.ExceptHandler (some (.Name x np)) (some n) (b₀ :: suite) pos' :: hds) ((c, i, ts) :: l)
theorem ps_try_manyA {X : Cx} {body : List Stmt} {h₀ : ExceptHandler} {hds : List ExceptHandler} {l : List (Value × Nat × (Addr → Value → Option Addr → TS))} {pos : Pos} {tb : WX → TS} {Wout : WX}
    (hs : X.stack = X.env :: X.outer) (hf : X.env.frame = some X.env.locals) (hN : X.N.Nodup) (tk : Takes X Wout)
    (hb : ∀ (W : WX) (pn : List (Addr × Obj)) (xe : Value → Shared → Prop), Takes (X.tr pn xe) W → PassesOwn (model X.prog X.w) X.A X.env xe → PSs (X.tr pn xe) body (tb W))
    (hh : HdsA X (h₀ :: hds) l) : PS X (.Try body (h₀ :: hds) [] [] pos) (fun D σ H => tb (wManyA X.K Wout D l) D σ H) := by
  refine ⟨fun pins s σ H D I h => ?_⟩
  have ok := I.ok
  have hfr : X.A.frames = some (X.env :: X.outer) := by rw [ok.frames, hs]
  refine wpAny_Try_except ?_
  refine wpAny_mono ((hb (wManyA X.K Wout D l) (X.pn ++ pins) (fun e s₁ => wpAny (model X.prog X.w) X.A (noteFrame e X.env) (fun _ s₂ => wpAny (model X.prog X.w) X.A (setFlight e none) (fun _ s₃ =>
    wpAny (model X.prog X.w) X.A (handleBy e X.env (h₀ :: hds)) (SP X pins D) X.xe s₃) X.xe s₂) X.xe s₁) (fun u s' xx => ?_) PassesOwn.looking).run [] s σ H D (I.toTry _) h) (fun f s1 hsp => ?_) (fun e s1 he => he)
  · obtain ⟨a, B, sI, pins', σ', H', cls, d, rfl, J', nb, up, sky, na, os, ag, w⟩ := xx
    have J : Inv X pins σ' H' sI := J'.ofTry ok
    have sky' : Sky B (X.env :: X.outer) a (Zc cls d) X.env.locals s'.heap := by rw [← hs]; exact sky
    show wpAny (model X.prog X.w) X.A (noteFrame (.ref a) X.env) _ _ _
    refine Sky.land Zc.steady hfr hf sky' fun h3 fl3 up3 => ?_
    have J3 : Inv X pins σ' H' { s' with heap := h3 } := J.landed nb fl3.1 (up.trans up3) os ag
    obtain ⟨oe3, vs3, he3, hz3, hd3⟩ := fl3.there
    have notFr : ∀ {h : Heap} {o : Obj} {vs : Array Value}, h.FunFrames B (X.env :: X.outer) → h.get? a = some o → o.data = .fields vs → a ∉ frs (X.env :: X.outer) := fun {h o vs} ff e dd hm => by
      obtain ⟨_, o', e', hnf⟩ := ff.mem hm
      rw [e] at e'; cases e'
      exact hnf _ dd
    have nfr := notFr fl3.2.2.1 he3 hd3
    have nL : a ≠ X.env.locals := fun z => nfr (List.mem_filterMap.mpr ⟨X.env, List.mem_cons_self, by rw [hf, z]⟩)
    have nF : a ∉ X.fs := fun hm => by
      obtain ⟨e, he, q⟩ := List.mem_filterMap.mp hm
      exact nfr (List.mem_filterMap.mpr ⟨e, List.mem_cons_of_mem _ he, q⟩)
    have S3 := J3.suite he3 hd3 na nL nF
    have go : ∀ {hds' : List ExceptHandler} {l' : List (Value × Nat × (Addr → Value → Option Addr → TS))}, HdsA X hds' l' → wManyA X.K Wout D l' cls d σ' H' →
        wpAny (model X.prog X.w) X.A (handleBy (.ref a) X.env hds') (SP X pins D) X.xe { s' with heap := h3 } := by
      intro hds' l' hk
      induction hk with
      | nil =>
        intro w
        refine wpAny_handleBy_nil ?_
        obtain ⟨k1, k2, k3, oe, vs, T, oT, ts', he, hz, hd, h1, hr⟩ := id fl3
        unfold PySem.passOn
        refine wpAny_bind (wpAny_field he hd h1 ?_)
        rw [if_neg (show ¬ ((Value.ref T == Value.none) = true) from by simp)]
        have fin : wpAny (model X.prog X.w) X.A (setFlight (.ref a) X.env.frame) (fun _ s4 => wpAny (model X.prog X.w) X.A (throw (.ref a) : Sem Flow) (SP X pins D) X.xe s4) X.xe { s' with heap := h3 } := by
          rw [hf]
          refine HandSPX.setFlight_upZ fl3 fun h4 hh4 up4 => wpAny_throw (tk _ _ ?_)
          exact ⟨a, B, sI, pins, σ', H', cls, d, rfl, J, nb, (up.trans up3).trans up4, .inr (.inr (by rw [hs]; exact hh4)), na, os, ag, w⟩
        first
          | exact wpAny_bind (wpAny_pure (wpAny_bind fin))
          | exact wpAny_bind fin
      | @cons x n c i ts b₀ suite np pos' hds2 l2 hi hln hc hsu r ih =>
        intro w
        obtain ⟨b, hb1, hyes, hno⟩ := w
        have hloc : Loc X.env.scope n := .inl hln
        refine wpAny_handleBy_cons (codeAny_handlers_test ?_) (by intro q; cases q)
        have LT : PySem.W.Looks (model X.prog X.w) h3 (typeOf (.ref a)) cls := fun A Q E s k q => wpAny_typeOf_ref (k _ _ he3) (by rw [hz3.1]; exact q)
        have LM := PySem.W.exm_one (M := model X.prog X.w) (J3.kIn) LT hb1
        have test : ∀ {Q : Value → Shared → Prop} {E : Value → Shared → Prop}, Q c { s' with heap := h3 } → wpAny (model X.prog X.w) (X.A.mark (some (.ref a))) (eval (.Name x np) X.env) Q E { s' with heap := h3 } := fun {Q E} q => by
          obtain ⟨hg, hdbg, hm | ⟨hm, hv, hnn⟩⟩ := hc
          · exact ld_glob (X := X.suite a ((a, oe3) :: (X.pn ++ pins))) S3 hg hm q hdbg
          · exact ld_blt (X := X.suite a ((a, oe3) :: (X.pn ++ pins))) S3 hg hm hv q hnn hdbg
        refine test (LM.here ?_)
        cases b with
        | true =>
          refine codeAny_handlers_suite_as ?_
          refine HandSPX.lands_againZ fl3 fun h4 fl4 up4 => ?_
          have J4 : Inv X pins σ' H' { s' with heap := h4 } := J.landed nb fl4.1 ((up.trans up3).trans up4) os ag
          obtain ⟨oe4, vs4, he4, hz4, hd4⟩ := fl4.there
          have S4 := J4.suite he4 hd4 na nL nF
          refine store_ok (X := X.suite a ((a, oe4) :: (X.pn ++ pins))) (v := .ref a) S4 hN hi hloc rfl (fun s5 S5 => ?_) (.inr hln)
          refine wpAny_mono ((hsu a oe4 cls d (X.pn ++ pins) hz4 ⟨_, hd4⟩).run [] s5 _ H' _ S5 (hyes rfl a na)) (fun f s6 hsp => ?_) (fun _ _ z => False.elim z)
          have end_ : ∀ {σ6 : L2.St} {H6 : Hp} {Q : Shared → Prop}, Inv (X.suite a ((a, oe4) :: (X.pn ++ pins))) [] σ6 H6 s6 → (∀ s7, Inv X pins (σ6.set i none) H6 s7 → Q s7) →
              wpAny (model X.prog X.w) X.A (do bindName X.env n .none; unbindBehindTheSuite X.env n pos') (fun _ s7 => Q s7) X.xe s6 := fun {σ6 H6 Q} S6 hq => gone_ok (S6.unsuite ok) hN hi hln hq
          cases f with
          | next =>
            obtain ⟨σ6, H6, S6, q6⟩ := hsp
            exact end_ S6 fun s7 J7 => ⟨_, _, J7, q6⟩
          | brk =>
            obtain ⟨σ6, H6, S6, q6⟩ := hsp
            exact end_ S6 fun s7 J7 => ⟨_, _, J7, q6⟩
          | cont =>
            obtain ⟨σ6, H6, S6, q6⟩ := hsp
            exact end_ S6 fun s7 J7 => ⟨_, _, J7, q6⟩
          | ret u =>
            obtain ⟨v6, σ6, H6, S6, r6, q6⟩ := hsp
            exact end_ S6 fun s7 J7 => ⟨_, _, _, J7, r6, q6⟩
        | false =>
          show wpAny _ X.A (handleBy (.ref a) X.env hds2) _ _ _
          exact ih (hno rfl)
    exact go hh w
  · cases f with
    | next =>
      obtain ⟨σ', H', J', q⟩ := hsp
      exact wpAny_execs_nil ⟨σ', H', J'.ofTry ok, q⟩
    | brk =>
      obtain ⟨σ', H', J', q⟩ := hsp
      exact ⟨σ', H', J'.ofTry ok, q⟩
    | cont =>
      obtain ⟨σ', H', J', q⟩ := hsp
      exact ⟨σ', H', J'.ofTry ok, q⟩
    | ret u =>
      obtain ⟨v, σ', H', J', r, q⟩ := hsp
      exact ⟨v, σ', H', J'.ofTry ok, r, q⟩
end U
namespace U
open PySem L2
/-! ### facts of heaps, for the search -/
theorem carry {H H' : Hp} {a : Addr} {o : HO} (s : L2.Same H H') (h : H a = some o) : H' a = some o := s a o h
theorem carryNew {H : Hp} {p a : Addr} {o u : HO} (hp : H p = none) (h : H a = some u) : upd H p o a = some u := (Same.new hp) a u h
theorem freeUp {H : Hp} {p q : Addr} {o : HO} (h : upd H q o p = none) : H p = none := by
  by_cases e : p = q
  · subst e; rw [upd_same] at h; cases h
  · rw [upd_ne e] at h; exact h
theorem freeVia {H H' : Hp} {p : Addr} (s : L2.Same H H') (h : H' p = none) : H p = none := s.free h
theorem sameUp {H H1 : Hp} {p : Addr} {o : HO} (hp : H1 p = none) (s : L2.Same H H1) : L2.Same H (upd H1 p o) := s.trans (Same.new hp)
theorem sameVia {H H1 H2 : Hp} (b : L2.Same H1 H2) (a : L2.Same H H1) : L2.Same H H2 := a.trans b
theorem upd_facts {H H1 : Hp} {p : Addr} {o : HO} (h : upd H p o = H1) (n : H p = none) : L2.Same H H1 ∧ H1 p = some o := by
  subst h
  exact ⟨Same.new n, upd_same⟩
theorem nil_le : ([] : List V).length ≤ sizeLine := by decide
theorem one_le {a : V} : [a].length ≤ sizeLine := by show 1 ≤ sizeLine; decide
theorem two_le {a b : V} : [a, b].length ≤ sizeLine := by show 2 ≤ sizeLine; decide
theorem three_le {a b c : V} : [a, b, c].length ≤ sizeLine := by show 3 ≤ sizeLine; decide
theorem le_line {n : Nat} (h : n ≤ 100000) : n ≤ sizeLine := Nat.le_trans h (by decide)
theorem lt_line {n : Nat} (h : n ≤ 100000) : n < sizeLine := Nat.lt_of_le_of_lt h (by decide)
end U
namespace U
open PySem PySem.Spec PyProof.Rows L2 GQ PySem.SeqAt MeetsSeq MeetsSeq2 MeetsSeq3 SeqRoads2
open AutoSeq1 (wpAny_loadPart')
/-- len(o) by the own __len__ -/
def rLenO (C : Addr) (sp : Sp) (E : XK) : List V → Hp → VK → Prop := fun xs H Q => ∃ a dx fs, xs = [.ref a] ∧ H a = some (.ins C dx fs) ∧ sp [.ref a] H (fun v H' => ∃ i : Int, v = .int i ∧ 0 ≤ i ∧ i < 2 ^ 63 ∧ Q (.int i) H') E
theorem call_lenO {X : Cx} {CX : CXT} {n : Nat} {C g : Addr} {sp : Sp} {E : XK} (hs : PySem.W.findIn X.K (.ref C) "__len__" = some (some (.ref g))) (hf : PySem.W.isFn X.K (.ref g) = true) (F : FnR X.prog X.w X.K X.mg X.base CX n g sp) (hr : Room (n + 1) X.A) (hx : Passes CX X E) : CallR X (.builtin "len") (rLenO C sp E) := by
  intro pins s σ H xs us Q I r h
  obtain ⟨a, dx, fs, rfl, ha, q⟩ := h
  obtain rfl := Vals.ref1 r
  obtain ⟨ox, od, J⟩ := ins_inst I ha
  obtain ⟨m, hF⟩ := I.fr
  refine PySem.W.len_K hF I.ok.mod.kin J hs hf ?_
  refine wpAny_mono (wpAny_call (SlX.run_at (us := [.ref a]) (ws := [.ref a]) F (Room.in1 hr) I.env0.in1 hx I (.cons rfl .nil) q)) (fun w s' z => ?_) fun _ _ x => x
  obtain ⟨z', H', I', rz, i, ez, i0, i1, qz⟩ := z
  subst ez
  obtain ⟨t, ew⟩ : ∃ t, w = Value.int i t := rz
  subst ew
  exact ⟨⟨i0, i1⟩, .int i, H', I'.tok _, ⟨_, rfl⟩, qz⟩
/-! ### defs with a star parameter -/
structure StarAt (K : PySem.W.Frag) (x qual : Str) (st : Stmt) (f : Addr) (ps : List Str) (pv : Str) : Prop where
  ex : ∃ fd, Fun K x qual st f fd ∧ ∀ us rest : List Value, us.length = ps.length → bindArgs fd ⟨us ++ rest, []⟩ = (newTuple rest >>= fun t => pure (ps.zip us ++ [(pv, t)]))
theorem StarAt.kp {K : PySem.W.Frag} {x qual : Str} {st : Stmt} {f : Addr} {ps : List Str} {pv : Str} (A : StarAt K x qual st f ps pv) : PySem.W.keepIn K (.ref f) = true := by
  obtain ⟨_, F, _⟩ := A.ex
  exact F.kp
/-- what is asked of the arguments: the named ones, then a new tuple of the rest -/
def spStar (n : Nat) (sp : Sp) : Sp := fun vs H Q E => ∃ ws rest, vs = ws ++ rest ∧ ws.length = n ∧ rest.length ≤ sizeLine ∧ ∀ p, H p = none → sp (ws ++ [V.ref p]) (upd H p (.tup rest)) Q E
section
variable {P : Program} {w : World} {K : PySem.W.Frag} {mg : Str → Option Value} {base : Heap} {x qual pv : Str} {st : Stmt} {f : Addr} {N ps : List Str} {k : Nat} {sp : Sp}
theorem StarAt.okX (B : StarAt K x qual st f ps pv) (S : FnScope N (ps ++ [pv]) (defScope st))
    (walk : ∀ (cdv : Value) (A : Around) (outer : List Env) (s : Shared) (H : Hp) (vs : List V) (Q : VK) (E : XK), Room k (A.deeper (envOfC qual (defScope st) s.heap.objs.size f cdv)) → sp vs H Q E →
      ∃ t, PSs (cxOf (L2.CX P w) P w K mg base N qual (defScope st) f cdv A outer s H E) (defBody st) t ∧ t { nx := fun _ H' => Q .non H', rt := Q } (start N vs) H) : FnR P w K mg base (L2.CX P w) (k + 1) f (spStar ps.length sp) := by
  obtain ⟨fd, F, hb⟩ := B.ex
  obtain ⟨oc, od, kV, doc, pm, an, cdv, ct, osl, rfl, lk, hcd⟩ := F.ex
  exact StX.fn_star lk hcd S StX.cxUp hb fun A outer s H vs Q E hr h => walk cdv A outer s H vs Q E hr h
theorem StarAt.ok (B : StarAt K x qual st f ps pv) (S : FnScope N (ps ++ [pv]) (defScope st))
    (walk : ∀ (cdv : Value) (A : Around) (outer : List Env) (s : Shared) (H : Hp) (vs : List V) (Q : VK) (E : XK), Room k (A.deeper (envOfC qual (defScope st) s.heap.objs.size f cdv)) → sp vs H Q E →
      ∃ t, PSs (cxOf CX0 P w K mg base N qual (defScope st) f cdv A outer s H E).nox (defBody st) t ∧ t { nx := fun _ H' => Q .non H', rt := Q } (start N vs) H) : FnR P w K mg base CX0 (k + 1) f (spStar ps.length sp) := by
  obtain ⟨fd, F, hb⟩ := B.ex
  obtain ⟨oc, od, kV, doc, pm, an, cdv, ct, osl, rfl, lk, hcd⟩ := F.ex
  refine StX.fn_star lk hcd S StX.cxUp_none hb fun A outer s H vs Q E hr h => ?_
  obtain ⟨t, a, b⟩ := walk cdv A outer s H vs Q E hr h
  exact ⟨t, a.nox, b⟩
end
/-! ### == by an own __eq__, inside lists and tuples -/
end U
namespace U
open PySem PySem.Spec PyProof.Rows L2 StX LamX
/-! ### defs with lambdas: the code object's place is told -/
structure CodeAt (K : PySem.W.Frag) (x qual : Str) (st : Stmt) (f c : Addr) (ps : List Str) : Prop where
  ex : ∃ (oc : Value) (od : Option Addr) (kV doc pm : Value) (an : Option Addr) (ct : Value) (osl : Array (Option Value)),
    K.lookup f = some ⟨oc, od, .func (PySem.W.fnOf x qual (defArgs st) (defBody st) (defScope st) .none kV doc pm an (.ref c) ct), osl⟩ ∧ PySem.W.codeIn K (.ref c) qual = true ∧ Binds K (PySem.W.fnOf x qual (defArgs st) (defBody st) (defScope st) .none kV doc pm an (.ref c) ct) ps []
section
variable {P : Program} {w : World} {K : PySem.W.Frag} {mg : Str → Option Value} {base : Heap} {k : Nat} {f c : Addr} {sp : Sp} {x qual : Str} {st : Stmt} {N ps : List Str}
theorem CodeAt.okG (B : CodeAt K x qual st f c ps) (S : FnScope N ps (defScope st)) (len : ∀ vs H Q E, sp vs H Q E → vs.length = ps.length)
    (walk : ∀ (A : Around) (outer : List Env) (s : Shared) (H : Hp) (vs : List V) (Q : VK) (E : XK), A.guards = some [] → Room k (A.deeper (envOfC qual (defScope st) s.heap.objs.size f (.ref c))) → sp vs H Q E →
      ∃ t, PSs (cxOf CX0 P w K mg base N qual (defScope st) f (.ref c) A outer s H E).nox (defBody st) t ∧ t { nx := fun _ H' => Q .non H', rt := Q } (start N vs) H) : FnG P w K mg base CX0 (k + 1) f sp := by
  obtain ⟨oc, od, kV, doc, pm, an, ct, osl, lk, hcd, bi⟩ := B.ex
  intro A outer s H us vs Q E g hr e0 r hs
  have hl := len _ _ _ _ hs
  have kin : K.In s.heap := e0.mod.kin.keeps fun b o e => (e0.bs b o e).1
  have lim : s.heap.NoLimit := e0.mod.nolimit.keeps fun b o e => (e0.bs b o e).1
  have names : ∀ y ∈ ps.zip us, (defScope st).names.lookup y.1 = some .local ∨ ((defScope st).names.lookup y.1 = some .cell ∧ ((cellsFrom (s.heap.objs.size + 1) (defScope st).names []).lookup y.1).isSome = true) := by
    rintro ⟨n, v⟩ hy
    rcases S.par n (List.of_mem_zip hy).1 with q | q
    · exact .inl q
    · exact .inr ⟨q, PySem.W.cellsFrom_some _ _ _ (.inl q)⟩
  have hb : BindsTo s (PySem.W.fnOf x qual (defArgs st) (defBody st) (defScope st) .none kV doc pm an (.ref c) ct) ⟨us, []⟩ (ps.zip us) := by
    have := bi s us kin (by rw [List.append_nil, ← r.length]; exact hl)
    rw [List.append_nil] at this
    exact this
  refine codeAny_call_function hr.depth (kin _ _ lk) rfl S.co S.gen rfl (PySem.W.codeRec_of kin hcd) (hb _ _ _ _ ?_)
  refine wpAny_newFunctionEnv_cells S.kind names fun env he s1 z => ?_
  subst he
  refine ⟨lim.keeps z.toInCall.keep, codeAny_func ?_⟩
  obtain ⟨t, ht, hq⟩ := walk A outer s H vs Q E g (hr.deeper _) hs
  have I : Inv (cxOf CX0 P w K mg base N qual (defScope st) f (.ref c) A outer s H E) [] (start N vs) H s1 := inv_start S hr.hd e0 hl r z
  refine wpAny_mono (ht.nox.run [] s1 (start N vs) H _ I hq) (fun fl s' h' => ?_) fun _ _ h' => h'
  match fl, h' with
  | .ret u, ⟨v, σ', H', J, rv, q⟩ => exact ⟨v, H', J.os, J.bare, J.base, J.hok, rv, q⟩
  | .next, ⟨σ', H', J, q⟩ => exact ⟨.non, H', J.os, J.bare, J.base, J.hok, rfl, q⟩
  | .brk, ⟨_, _, _, q⟩ => exact q.elim
  | .cont, ⟨_, _, _, q⟩ => exact q.elim
end
/-! ### the law's call, tables tracked -/
section
variable {P : Program} {w : World} {K : PySem.W.Frag} {mg mb : Str → Option Value} {k : Nat} {fa sc : Addr} {sp : Sp} {s1 : Shared} {us : List Value} {ns : List Int} {cs : List (Addr × Addr)}
theorem law_coreT (inK : K.In s1.heap) (glob : s1.heap.Ns mainGlobals mg) (blt : s1.heap.Ns builtinsNs mb) (blt2 : ∀ x : Str, x ≠ "__name__" → mb x = bootBuiltins x) (lim : s1.heap.NoLimit) (gens : s1.gens = #[])
    (tabs : ∀ p ∈ cs, s1.heap.get? p.2 = some { cls := .none, data := .fields #[] }) (offT : ∀ p ∈ cs, K.lookup p.2 = none) (code : ∀ p ∈ cs, PySem.W.CodeHd s1.heap p.1 p.2)
    (bmod : ∃ (bm : Addr) (ob : Obj), mg "__builtins__" = some (.ref bm) ∧ bm ≠ builtinsNs ∧ s1.heap.get? bm = some ob ∧ ob.cls = .type "module" ∧ ob.dict = some builtinsNs ∧ ob.data = .plain)
    (there : s1.heap.get? sc = some { cls := .type "list", data := .seq us.toArray }) (room : Room k callerA)
    (F : ∀ base : Heap, (∀ p ∈ cs, TabB base mg p.1 p.2) → FnG P w K mg base CX0 k fa sp)
    (H : Hp) (tbl : ∀ p ∈ cs, H p.2 = some (.tbl #[])) (only : ∀ b, H b = none ∨ (∃ p ∈ cs, b = p.2) ∨ ∃ o xs, H b = some (.frz o (.lst xs))) (hok : HOk P w H s1.heap) (just : ∀ b, H b ≠ none → b = sc ∨ ∃ p ∈ cs, b = p.2) (offK : H sc ≠ none → K.lookup sc = none)
    (prom : sp [.ref sc] H (fun v _ => v = .bl true) E0) :
    codeAny (model P w) callerA (.call (.ref fa) ⟨[.ref sc], []⟩) (fun r s' => r = .ok (.ret (.bool true)) ∧ OldK s1.heap s'.heap ∧ s'.os = s1.os ∧ AllBare s'.gens) s1 := by
  -- what is neither a list nor a bare record is not tracked
  have free : ∀ {b : Addr} {o : Obj}, s1.heap.get? b = some o → (∀ vs n, o.data ≠ .seq vs n) → o.data ≠ .fields #[] → H b = none := by
    intro b o e h1 h2
    cases hb : H b with
    | none => rfl
    | some u =>
      rcases just b (by rw [hb]; intro z; cases z) with z | ⟨p, hp, z⟩
      · rw [z, there] at e; cases e; exact absurd rfl (h1 _ _)
      · rw [z, tabs p hp] at e; cases e; exact absurd rfl h2
  have spaces : ∀ {b : Addr} {m : Str → Option Value}, s1.heap.Ns b m → (hidT s1.heap H).Ns b m := by
    rintro b m ⟨o, es, ep, e, d, r⟩
    refine ⟨o, es, ep, hidT_get e (free e ?_ ?_), d, r⟩
    · intro vs n z; rw [d] at z; cases z
    · intro z; rw [d] at z; cases z
  have inB : K.In (hidT s1.heap H) := by
    intro b o e
    refine hidT_get (inK b o e) ?_
    cases hb : H b with
    | none => rfl
    | some u =>
      rcases just b (by rw [hb]; intro z; cases z) with z | ⟨p, hp, z⟩
      · subst z
        have q := offK (by rw [hb]; intro z; cases z)
        rw [e] at q; cases q
      · rw [z, offT p hp] at e; cases e
  have md : Mod K mg (hidT s1.heap H) := by
    obtain ⟨mc, l1, l2⟩ := lim
    exact ⟨inB, spaces glob, ⟨mb, spaces blt, blt2⟩, ⟨mc, spaces l1, l2⟩⟩
  have tb : ∀ p ∈ cs, TabB (hidT s1.heap H) mg p.1 p.2 := by
    intro p hp
    have hT := tabs p hp
    refine ⟨?_, ?_, ?_⟩
    · obtain ⟨o, vs, file, tf, flags, tg, inF, text, tt, e1, r1, r2, r3, r⟩ := code p hp
      refine ⟨o, vs, file, tf, flags, tg, inF, text, tt, hidT_get e1 (free e1 ?_ ?_), r1, r2, r3, r⟩
      · intro vs n z; rw [r2] at z; cases z
      · intro z; rw [r2] at z; cases z; simp at r3
    · obtain ⟨bm, ob, b1, b2, b3, b4, b5, b6⟩ := bmod
      have nG : bm ≠ mainGlobals := by
        rintro rfl
        obtain ⟨o, es, ep, e, d, _⟩ := glob
        rw [e] at b3; cases b3; rw [d] at b6; cases b6
      have nP : bm ≠ p.2 := by
        intro z
        rw [z, hT] at b3; cases b3; cases b6
      refine ⟨bm, ob, b1, b2, nG, nP, hidT_get b3 (free b3 ?_ ?_), b4, b5, b6⟩
      · intro vs n z; rw [b6] at z; cases z
      · intro z; rw [b6] at z; cases z
    · intro z
      obtain ⟨o, es, ep, e, d, _⟩ := glob
      rw [z, hT] at e; cases e; cases d
  have env : Env0 P w K mg (hidT s1.heap H) callerA [] s1 H := by
    refine ⟨rfl, md, fun b o e => of_hidT e, Nat.le_of_eq (hidT_size _ _), trivial, fun b hb => ?_, hok, .of_eq gens⟩
    exact absurd hb List.not_mem_nil
  refine codeAny_mono (F (hidT s1.heap H) tb callerA [] s1 H [.ref sc] [.ref sc] (fun v _ => v = .bl true) E0 rfl room env (.cons rfl .nil) prom) fun r s' h => ?_
  match r, h with
  | .error e, h => exact h.elim
  | .ok .next, h => exact h.elim
  | .ok .brk, h => exact h.elim
  | .ok .cont, h => exact h.elim
  | .ok (.ret u), ⟨v, H', os, bare, un, hok', rv, q⟩ =>
    subst q
    cases (show u = Value.bool true from rv)
    have rest : ∀ b o, (¬ ∃ p ∈ cs, b = p.2) → s1.heap.get? b = some o → s'.heap.get? b = some o := by
      intro b o nb e
      cases hb : H b with
      | none => exact un.keep b o e hb (fun z => absurd z List.not_mem_nil) (by simp)
      | some u =>
        rcases only b with z | z | ⟨ob, xs, z⟩
        · rw [hb] at z; cases z
        · exact absurd z nb
        · have a1 := (hok b _ z).1
          have a2 := (hok' b _ (un.frzs b ob _ z)).1
          rw [e] at a1
          cases a1
          exact a2
    have grown : ∀ p ∈ cs, ∃ more : Array Value, s'.heap.get? p.2 = some { cls := .none, data := .fields more } := by
      intro p hp
      obtain ⟨more, z⟩ := un.tbls p.2 #[] (tbl p hp)
      exact ⟨_, hok' p.2 _ z⟩
    refine ⟨rfl, ⟨fun b o e => ?_, fun b o e => ?_⟩, os, bare⟩
    · by_cases hb : ∃ p ∈ cs, b = p.2
      · obtain ⟨p, hp, rfl⟩ := hb
        obtain ⟨more, hm⟩ := grown p hp
        rw [tabs p hp] at e
        cases e
        refine .inr (.inl ⟨((code p hp).tab (tabs p hp)).isCodeTable, rfl, #[], more, rfl, ?_⟩)
        rw [Array.empty_append]
        exact hm
      · exact .inl (rest b o hb e)
    · by_cases hb : ∃ p ∈ cs, b = p.2
      · obtain ⟨p, hp, rfl⟩ := hb
        obtain ⟨more, hm⟩ := grown p hp
        exact ⟨_, hm⟩
      · exact ⟨o, rest b o hb e⟩
theorem law_callT (inK : K.In s1.heap) (glob : s1.heap.Ns mainGlobals mg) (blt : s1.heap.Ns builtinsNs mb) (blt2 : ∀ x : Str, x ≠ "__name__" → mb x = bootBuiltins x) (lim : s1.heap.NoLimit) (gens : s1.gens = #[])
    (tabs : ∀ p ∈ cs, s1.heap.get? p.2 = some { cls := .none, data := .fields #[] }) (offT : ∀ p ∈ cs, K.lookup p.2 = none) (code : ∀ p ∈ cs, PySem.W.CodeHd s1.heap p.1 p.2)
    (bmod : ∃ (bm : Addr) (ob : Obj), mg "__builtins__" = some (.ref bm) ∧ bm ≠ builtinsNs ∧ s1.heap.get? bm = some ob ∧ ob.cls = .type "module" ∧ ob.dict = some builtinsNs ∧ ob.data = .plain)
    (there : s1.heap.get? sc = some { cls := .type "list", data := .seq us.toArray }) (inS : IntsAre us ns) (len : ns.length ≤ sizeLine) (room : Room k callerA)
    (F : ∀ base : Heap, (∀ p ∈ cs, TabB base mg p.1 p.2) → FnG P w K mg base CX0 k fa sp)
    (prom : ∀ H : Hp, (∀ p ∈ cs, H p.2 = some (.tbl #[])) → SqL K H sc (ns.map V.int) → sp [.ref sc] H (fun v _ => v = .bl true) E0) :
    codeAny (model P w) callerA (.call (.ref fa) ⟨[.ref sc], []⟩) (fun r s' => r = .ok (.ret (.bool true)) ∧ OldK s1.heap s'.heap ∧ s'.os = s1.os ∧ AllBare s'.gens) s1 := by
  classical
  have rv := vals_ints inS
  have scT : ¬ ∃ p ∈ cs, sc = p.2 := by
    rintro ⟨p, hp, z⟩
    have q := tabs p hp
    rw [← z, there] at q
    have q' : Data.seq us.toArray _ = Data.fields #[] := congrArg Obj.data (Option.some.inj q)
    cases q'
  have go := law_coreT (P := P) (w := w) (k := k) (fa := fa) (sp := sp) inK glob blt blt2 lim gens tabs offT code bmod there room F
  cases hk : K.lookup sc with
  | some o =>
    have e := inK sc o hk
    rw [there] at e
    cases e
    have at_ : ∀ p ∈ cs, (fun b => if ∃ p ∈ cs, b = p.2 then some (HO.tbl #[]) else none) p.2 = some (.tbl #[]) := fun p hp => if_pos ⟨p, hp, rfl⟩
    refine go (fun b => if ∃ p ∈ cs, b = p.2 then some (.tbl #[]) else none) at_ (fun b => ?_) (fun b u z => ?_) (fun b z => ?_) (fun z => absurd (if_neg scT) z) (prom _ at_ ?_)
    · by_cases hb : ∃ p ∈ cs, b = p.2
      · exact .inr (.inl hb)
      · exact .inl (if_neg hb)
    · by_cases hb : ∃ p ∈ cs, b = p.2
      · have z' := (if_pos hb).symm.trans z
        cases z'
        obtain ⟨p, hp, rfl⟩ := hb
        exact tabs p hp
      · have z' := (if_neg hb).symm.trans z
        cases z'
    · by_cases hb : ∃ p ∈ cs, b = p.2
      · exact .inr hb
      · exact absurd (if_neg hb) z
    · refine .inr ⟨_, us.toArray, _, hk, rfl, rfl, rfl, ?_, by simpa using rv⟩
      rw [List.size_toArray, inS.length]
      exact len
  | none =>
    have at_ : ∀ p ∈ cs, (fun b => if b = sc then some (HO.frz { cls := .type "list", data := .seq us.toArray } (.lst (ns.map V.int))) else if ∃ p ∈ cs, b = p.2 then some (HO.tbl #[]) else none) p.2 = some (.tbl #[]) := fun p hp => (if_neg fun z => scT ⟨p, hp, z.symm⟩).trans (if_pos ⟨p, hp, rfl⟩)
    refine go (fun b => if b = sc then some (.frz { cls := .type "list", data := .seq us.toArray } (.lst (ns.map V.int))) else if ∃ p ∈ cs, b = p.2 then some (.tbl #[]) else none) at_ (fun b => ?_) (fun b u z => ?_) (fun b z => ?_) (fun _ => hk) (prom _ at_ (.inl (.inr ⟨_, if_pos rfl⟩)))
    · by_cases hs : b = sc
      · exact .inr (.inr ⟨_, _, if_pos hs⟩)
      · by_cases hb : ∃ p ∈ cs, b = p.2
        · exact .inr (.inl hb)
        · exact .inl ((if_neg hs).trans (if_neg hb))
    · by_cases hs : b = sc
      · have z' := (if_pos hs).symm.trans z
        cases z'
        subst hs
        refine ⟨there, ?_, us, _, rv, there⟩
        rw [List.length_map]
        exact len
      · have z1 := (if_neg hs).symm.trans z
        by_cases hb : ∃ p ∈ cs, b = p.2
        · have z' := (if_pos hb).symm.trans z1
          cases z'
          obtain ⟨p, hp, rfl⟩ := hb
          exact tabs p hp
        · have z' := (if_neg hb).symm.trans z1
          cases z'
    · by_cases hs : b = sc
      · exact .inl hs
      · by_cases hb : ∃ p ∈ cs, b = p.2
        · exact .inr hb
        · exact absurd ((if_neg hs).trans (if_neg hb)) z
end
/-- the goal that k_head leaves where the law has lambdas -/
theorem walkT {l : PySem.W.OpenLaw} {n k : Nat} {q : Program} {loose : List Str} {XP : (Str → Option Value) → Heap → Prop} {YP : World → Heap → Prop} {d : DefRec}
    (hn : l.most = some n) (hn2 : n ≤ sizeLine) (hdf : d.params.defaults = []) (room : Room k callerA)
    (F : ∀ (w : World) (mg : Str → Option Value) (fa : Addr) (h : Heap), YP w h → h.Ns mainGlobals mg → mg d.name = some (.ref fa) →
      ∃ (K : PySem.W.Frag) (cs : List (Addr × Addr)) (sp : Sp), K.In h ∧ (∀ p ∈ cs, h.get? p.2 = some { cls := .none, data := .fields #[] }) ∧ (∀ p ∈ cs, K.lookup p.2 = none) ∧ (∀ p ∈ cs, PySem.W.CodeHd h p.1 p.2) ∧
        (∀ base : Heap, (∀ p ∈ cs, TabB base mg p.1 p.2) → FnG l.prog w K mg base CX0 k fa sp) ∧
        ∀ (H : Hp) (a : Addr) (ns : List Int), ns.length ≤ n → (∀ p ∈ cs, H p.2 = some (.tbl #[])) → SqL K H a (ns.map V.int) → sp [.ref a] H (fun v _ => v = .bl true) E0) :
    PySem.W.WalkO q loose XP YP l.row.toRowW d [] (fun f vs => PySem.call f vs) := by
  refine Att.attach_call hn hdf fun w s0 s1 mg mb fa o pm cd doc a vs ns G Y ho hd hcd hmg hobj hints hlen hg => ?_
  obtain ⟨K, cs, sp, inK, tabs, offT, code, fn, prom⟩ := F w mg fa _ Y G.T.g hmg
  exact law_callT inK G.T.g G.T.b G.T.builtins G.T.nolimit hg tabs offT code G.T.bmain hobj hints (Nat.le_trans hlen hn2) room fn fun H hT hS => prom H a ns hlen hT hS
/-! ### what a lambda's caller makes of its exceptions -/
theorem takes_len {X : Cx} {W : WX} (t : Takes X W) : Takes X (fun c d σ H => σ.length = X.N.length → W c d σ H) := fun u s' ⟨a, B, sI, pins, σ, H, cls, d, e, I, nb, up, sky, na, os, ag, w⟩ => t u s' ⟨a, B, sI, pins, σ, H, cls, d, e, I, nb, up, sky, na, os, ag, w I.len⟩
/-! ### heaps that grow but for the tables -/
end U
namespace U
open PySem PySem.Spec PyProof.Rows L2 StX LamX
section
variable {X : Cx} {CX : CXT} {k : Nat} {f C : Addr} {sp : Sp} {E : XK} {x : Str} {p pos : Pos} {e : Expr} {es : List Expr} {t : TA}
/-- x() -/
def tCall0 (sp : Sp) (E : XK) : TE := fun _ H Q => sp [] H Q E
theorem pe_call0R (F : FnR X.prog X.w X.K X.mg X.base CX k f sp) (hr : Room k X.A) (hk : PySem.W.keepIn X.K (.ref f) = true) (hg : Gl X x) (hm : X.mg x = some (.ref f)) (hx : Passes CX X E) (hdb : (x == ("__debug__" : Str)) = false := by decide) : PE X (.Call (.Name x p) [] [] pos) (tCall0 sp E) := by
  refine ⟨fun pins s σ H Q I h => ?_⟩
  refine wpAny_Call_Name_kw (ld_glob I hg hm ?_ hdb)
  exact PySem.W.callWith_K0 I.kIn hk (wpAny_call (run_fnR (us := []) F hr hx I .nil h))
theorem pe_call0G (F : FnG X.prog X.w X.K X.mg X.base CX k f sp) (g : X.A.guards = some []) (hr : Room k X.A) (hk : PySem.W.keepIn X.K (.ref f) = true) (hg : Gl X x) (hm : X.mg x = some (.ref f)) (hx : Passes CX X E) (hdb : (x == ("__debug__" : Str)) = false := by decide) : PE X (.Call (.Name x p) [] [] pos) (tCall0 sp E) := by
  refine ⟨fun pins s σ H Q I h => ?_⟩
  refine wpAny_Call_Name_kw (ld_glob I hg hm ?_ hdb)
  exact PySem.W.callWith_K0 I.kIn hk (wpAny_call (run_G (us := []) F g hr (fun pins H s e s' I c => hx pins σ H s e s' I c) I .nil h))
end
end U
namespace U
open PySem PySem.Spec PyProof.Rows L2
/-! ### x not in a tuple, data of any depth -/
end U
namespace U
open PySem PySem.Spec PyProof.Rows L2
/-! ### dicts of ints in a list: in, not in, index -/
theorem dictOf_any {P P' : Program} {w w' : World} {h : Heap} {a : Addr} {kvs : List (Key × Value)} (hi : ∀ p ∈ kvs, ∃ i : Int, p.1 = Sum.inl i) (d : h.DictOf (mixKind P w) a kvs) : h.DictOf (mixKind P' w') a kvs := by
  obtain ⟨o, es, ep, h1, h2, h3, h4, h5, h6⟩ := d
  have key : ∀ (l : List DictEntry) (kvs : List (Key × Value)), Pairs (mixKind P w) l kvs → (∀ p ∈ kvs, ∃ i : Int, p.1 = Sum.inl i) → Pairs (mixKind P' w') l kvs ∧ ∀ e ∈ l, ∃ i : Int, keyIs (Sum.inl i) e.key = true := by
    intro l kvs hp
    induction hp with
    | nil => exact fun _ => ⟨.nil, fun e he => nomatch he⟩
    | @cons e kv es kvs e1 e2 _ ih =>
      intro hi
      obtain ⟨g1, g2⟩ := ih fun p hp => hi p (List.mem_cons_of_mem _ hp)
      obtain ⟨i, ei⟩ := hi kv List.mem_cons_self
      refine ⟨.cons e1 e2 g1, fun e' he => ?_⟩
      rcases List.mem_cons.mp he with rfl | he
      · exact ⟨i, by rw [← ei]; exact e1⟩
      · exact g2 e' he
  obtain ⟨g1, g2⟩ := key _ _ h5 hi
  refine ⟨o, es, ep, h1, h2, h3, fun e he => ?_, g1, h6⟩
  obtain ⟨k, k1, k2⟩ := h4 e he
  obtain ⟨i, hi'⟩ := g2 e (by simpa using he)
  have : k = Sum.inl i := (mixKind P w).inj e.key k (Sum.inl i) k1 hi'
  subst this
  exact ⟨Sum.inl i, k1, k2⟩
/-- what == says of two dicts of ints, the same one too -/
def sameD (a b : Addr) (ks ls : List (Key × V)) : Bool := decide (a = b) || dEq ks ls
def IntKeys (ks : List (Key × V)) : Prop := ∀ p ∈ ks, ∃ i : Int, p.1 = Sum.inl i
theorem kv_keys {ks : List (Key × V)} {va : List (Key × Value)} (r : KV ks va) (h : IntKeys ks) : ∀ p ∈ va, ∃ i : Int, p.1 = Sum.inl i := by
  unfold KV at r
  induction r with
  | nil => exact fun p hp => nomatch hp
  | cons h1 _ ih =>
    intro p hp
    rcases List.mem_cons.mp hp with rfl | hp
    · obtain ⟨i, e⟩ := h _ List.mem_cons_self
      exact ⟨i, by rw [← e]; exact h1.1.symm⟩
    · exact ih (fun q hq => h q (List.mem_cons_of_mem _ hq)) p hp
theorem eqAt_dI {X : Cx} {pins : List (Addr × Obj)} {σ : L2.St} {H : Hp} {s : Shared} (I : Inv X pins σ H s) {a b : Addr} {ks ls : List (Key × V)} (ea : H a = some (.dK ks)) (eb : H b = some (.dK ls)) (i1 : IntVals ks) (i2 : IntVals ls) (j1 : IntKeys ks) (j2 : IntKeys ls) {A : Around} (hu : A.units < cLine) :
    SeqAt.EqAt A s (.ref a) (.ref b) (sameD a b ks ls) := by
  by_cases hab : a = b
  · subst hab
    unfold sameD
    rw [decide_eq_true rfl, Bool.true_or]
    exact SeqAt.EqAt.same _
  · unfold sameD
    rw [decide_eq_false hab, Bool.false_or]
    refine SeqAt.EqAt.of_refs hab fun prog w E Q hq => ?_
    obtain ⟨_, ya, va, ra, da⟩ := (show ObjOk X.prog X.w H s.heap a (.dK ks) from I.hok a _ ea)
    obtain ⟨_, yb, vb, rb, db⟩ := (show ObjOk X.prog X.w H s.heap b (.dK ls) from I.hok b _ eb)
    refine PySem.W.keq_eq (knd := mixKind prog w) ya yb (dictOf_any (kv_keys ra j1) da) (dictOf_any (kv_keys rb j2) db) hu (fun _ => hits_int rb i2 ra i1) ?_
    unfold dEq at hq
    rw [ra.length, rb.length] at hq
    exact hq
end U
namespace U
open PySem PySem.Spec PyProof.Rows L2 StX
/-- a list == [], whatever it holds -/
def rEqNil (K : PySem.W.Frag) : R2 := fun x y H Q => ∃ (a b : Addr) (xs : List V), x = .ref a ∧ y = .ref b ∧ SqL K H a xs ∧ SqL K H b [] ∧ Q (.bl xs.isEmpty) H
theorem op_eqNil {X : Cx} (hu : X.A.units < cLine) : OpR X (compareOp .Eq) (rEqNil X.K) := by
  intro pins s σ H x y v u Q I rx ry h
  obtain ⟨a, b, xs, rfl, rfl, ha, hb, q⟩ := h
  cases (show v = Value.ref a from rx)
  cases (show u = Value.ref b from ry)
  obtain ⟨its, rv, pl, _⟩ := I.list ha
  obtain ⟨its2, rv2, pl2, _⟩ := I.list hb
  cases rv2
  have hl := rv.length
  cases xs with
  | nil =>
    cases rv
    exact SeqAt.eq_listAt (e := fun _ => true) pl.isList pl2.isList rfl hu (fun j h1 => absurd h1 (Nat.not_lt_zero _)) ⟨.bl true, H, I, rfl, q⟩
  | cons x xs =>
    refine SeqAt.eq_list_lengthsAt pl.isList pl2.isList ?_ hu ⟨.bl false, H, I, rfl, q⟩
    simp only [List.length_cons] at hl
    simp
    intro z
    rw [z] at hl
    cases hl
end U
namespace U
open PySem PySem.Spec PyProof.Rows L2 StX NdefX
/-! ### a def of a class whose first statement is super().m(..) -/
/-- what is asked of the program around: the file of its code objects, super not hidden at the top -/
structure SupP (P : Program) (file : Str) : Prop where
  file : ((P.main.file : Str) == file) = true
  top : (P.main.scope.names.lookup ("super" : Str)).isSome = false
structure SupAt (K : PySem.W.Frag) (x qual : Str) (st : Stmt) (f c cc D : Addr) (ps : List Str) (file : Str) : Prop where
  ex : ∃ (oc : Value) (od : Option Addr) (kV doc pm : Value) (an : Option Addr) (ct : Value) (osl : Array (Option Value)),
    K.lookup f = some ⟨oc, od, .func (PySem.W.fnX x qual (defArgs st) (defBody st) (defScope st) [("__class__", cc)] .none kV doc pm an (.ref c) ct), osl⟩ ∧ PySem.W.codeIn K (.ref c) qual = true ∧ Binds K (PySem.W.fnX x qual (defArgs st) (defBody st) (defScope st) [("__class__", cc)] .none kV doc pm an (.ref c) ct) ps []
  code : ∃ (ccl : Value) (cdd : Option Addr) (vs : Array Value) (ccs : Array (Option Value)) (tf : Tok), K.lookup c = some ⟨ccl, cdd, .fields vs, ccs⟩ ∧ vs[2]? = some (.str file tf)
  cell : ∃ (cl : Value) (cld : Option Addr) (csl : Array (Option Value)), K.lookup cc = some ⟨cl, cld, .cell (some (.ref D)), csl⟩
  cls : ∃ cd, PySem.W.clsIn K D = some cd
  pos : ((defArgs st).posonlyargs ++ (defArgs st).args).head?.map (·.arg) = ps[0]?
  nosuper : PySem.W.nsIn K mainGlobals "super" = some none
  noop : PySem.W.nsIn K cStatics "thirdparty.any" = some none
  scS : (defScope st).names.lookup ("super" : Str) = some .globalImplicit
  scC : (defScope st).names.lookup ("__class__" : Str) = some .free
/-- the method that super().m finds, for an instance of the class at C -/
structure SupM (K : PySem.W.Frag) (C D : Addr) (m : Str) (f2 : Addr) : Prop where
  sub : PySem.W.mroIn K C (.ref D) = some true
  at_ : PySem.W.ks_superIn K C D m = some (some (.ref f2))
  ty : PySem.W.typeIn K (.ref f2) = some (.type "function")
  fi : PySem.W.fnIn K f2 = true
  cl : (m == ("__class__" : Str)) = false
section
variable {X : Cx} {pins : List (Addr × Obj)} {σ : L2.St} {H : Hp} {s : Shared} {C D dx x f2 : Addr} {fs : List (Str × V)} {m : Str}
/-- super().m(..) run within the def's own code -/
theorem run_super {CX : CXT} {k2 : Nat} {sp2 : Sp} {Q : VK} {E : XK} {t : TA} {body : List Stmt} {p0 p1 apos pos epos : Pos} {e : Expr} {qual : Str} {st : Stmt} {name : Str} {f c cc : Addr} {ps : List Str} {file s0 : Str}
    (B : SupAt X.K name qual st f c cc D ps file) (hP : SupP X.prog file) (M : SupM X.K C D m f2) (F : FnR X.prog X.w X.K X.mg X.base CX k2 f2 sp2) (hr : Room k2 X.A) (hx : Passes CX X E)
    (hsc : X.env.scope = defScope st) (hfu : X.env.func = some f) (hco : X.env.code = .ref c) (hcl : X.env.cells.lookup ("__class__" : Str) = some cc) (hps : ps[0]? = some s0) (hN : X.N[0]? = some s0) (hloc : X.env.scope.names.lookup s0 = some .local)
    (I : Inv X pins σ H s) (hv : σ[0]? = some (some (.ref x))) (ea : H x = some (.ins C dx fs)) (ha : PA X [e] t)
    (h : t σ H fun vs H1 => sp2 (.ref x :: vs) H1 Q E)
    (hint : interactive X.env = false) (hsw : swapsWith (.Call (.Attribute (.Call (.Name "super" p0) [] [] p1) m apos) [e] [] pos) none epos.line X.env = pure false)
    (hst : starEach [e] X.env = [(false, eval e X.env)]) (pl : Sem Bool)
    (he : eval (.Call (.Attribute (.Call (.Name "super" p0) [] [] p1) m apos) [e] [] pos) X.env = (do
      let ov ← attributeBase (.Call (.Name "super" p0) [] [] p1) m X.env (eval (.Call (.Name "super" p0) [] [] p1) X.env)
      standAt apos.atName
      let (f, first) ← holding [ov] (getMethod ov m pl)
      callWith pos f first (backTo pos (starEach [e] X.env)) [])) :
    PySem.wpAt (model X.prog X.w) X.A (.func body X.env) (exec (.Expr (.Call (.Attribute (.Call (.Name "super" p0) [] [] p1) m apos) [e] [] pos) epos) X.env)
      (fun fl s' => fl = .next ∧ ∃ v H2, Inv X pins σ H2 s' ∧ Q v H2) X.xe s := by
  obtain ⟨oc, od, kV, doc, pm, an, ct, osl, lk, hcd, bi⟩ := B.ex
  obtain ⟨ccl, cdd, vs2, ccs, tf, hcode, hvs⟩ := B.code
  obtain ⟨cl0, cld, csl, hcell⟩ := B.cell
  obtain ⟨cdD, hD⟩ := B.cls
  have KX := I.kIn
  obtain ⟨oD, hD1, hD2⟩ : ∃ oD, s.heap.get? D = some oD ∧ oD.data = .cls cdD := by
    unfold PySem.W.clsIn at hD
    split at hD
    · rename_i c d cd' sl ho
      cases hD
      exact ⟨_, KX _ _ ho, rfl⟩
    · cases hD
  obtain ⟨ar, har, har2⟩ : ∃ ar : Arg, ((defArgs st).posonlyargs ++ (defArgs st).args).head? = some ar ∧ ar.arg = s0 := by
    have := B.pos
    rw [hps] at this
    cases z : ((defArgs st).posonlyargs ++ (defArgs st).args).head? with
    | none => rw [z] at this; cases this
    | some ar => rw [z] at this; exact ⟨ar, rfl, Option.some.inj this⟩
  obtain ⟨mA, O, _, _, _, _⟩ := ins_get I.hok ea
  obtain ⟨odx, J, _⟩ := O.look
  refine PySem.ks_wpAt_Expr_any ?_ hint hsw
  refine PySem.ks_wpAt_MethodCall (pl := pl) ?_ he
  refine PySem.ks_wpAt_super_base (env := X.env) (fd := PySem.W.fnX name qual (defArgs st) (defBody st) (defScope st) [("__class__", cc)] .none kV doc pm an (.ref c) ct) (by show X.env.scope.names.lookup _ = _; rw [hsc]; exact B.scS) (by show X.env.scope.names.lookup _ = _; rw [hsc]; exact B.scC) M.cl hfu (KX _ _ lk) rfl (ar := ar) har hco (KX _ _ hcode) rfl hvs hP.file hP.top ?_
  have hgs : X.env.kindOf ("super" : Str) = some .globalImplicit := by show X.env.scope.names.lookup _ = _; rw [hsc]; exact B.scS
  refine PySem.W.ks_loadName_global I.ok.kind hgs ?_
  obtain ⟨mb, h1, h2⟩ := I.mod.blt
  refine Calls.loadGlobal_builtin (by rw [I.ok.glob]; exact I.mod.glob.keeps I.bk) (PySem.W.mg_none_of I.mod.kin I.mod.glob B.nosuper) (by rw [I.ok.blt]; exact h1.keeps I.bk) ((h2 "super" (by decide +kernel)).trans (by rfl)) ⟨rfl, ?_⟩
  refine wpAny_loadName_free I.ok.kind (by show X.env.scope.names.lookup _ = _; rw [hsc]; exact B.scC) hcl ⟨_, KX _ _ hcell, rfl⟩ ?_
  obtain ⟨mL, hns, hal⟩ := I.loc
  obtain ⟨u, ru, hlook⟩ := hal 0 s0 (.ref x) hN hv (Or.inl hloc)
  obtain rfl : u = Value.ref x := ru
  have hmL : mL s0 = some (.ref x) := by
    rcases hlook with ⟨_, z⟩ | ⟨z, _⟩
    · exact z
    · rcases z with z | z
      · rw [show X.env.kindOf s0 = some .local from hloc] at z; cases z
      · rw [show X.env.kindOf s0 = some .local from hloc] at z; cases z
  rw [har2]
  refine wpAny_loadName_local I.ok.kind hloc hns hmL ?_
  obtain ⟨hh, g, d, t0, os⟩ := s
  refine PySem.ks_wpAny_isType_cls hD1 hD2 ⟨rfl, ?_⟩
  refine PySem.ks_wpAny_call_super hD1 hD2 J.at_ J.cls (fun c e => ?_) (PySem.W.looks_mroIn KX M.sub) (fun h' ee kk => ?_)
  · have := J.no
    unfold PySem.W.notCls at this
    rw [e] at this
    exact Bool.noConfusion this
  -- the super object stands; its method
  have I2 : Inv X pins σ H ⟨h', g, d, t0, os⟩ := I.kept (t' := t0) kk
  have KX2 := I2.kIn
  cases hc : PySem.W.clsIn X.K C with
  | none => have := M.at_; unfold PySem.W.ks_superIn at this; rw [hc] at this; cases this
  | some cd =>
    have hm := M.at_
    unfold PySem.W.ks_superIn at hm
    rw [hc] at hm
    obtain ⟨of, hof, hofc⟩ : ∃ of, h'.get? f2 = some of ∧ of.cls = .type "function" := by
      have ht' : (X.K.lookup f2).map (·.cls) = some (.type "function") := M.ty
      cases z : X.K.lookup f2 with
      | none => rw [z] at ht'; cases ht'
      | some of => rw [z] at ht'; exact ⟨of, KX2 _ _ z, Option.some.inj ht'⟩
    refine PySem.ks_wpAny_getMethod_super ee (PySem.W.looks_opaque KX2 B.noop) (l₀ := cd.mro) ?_ rfl KX2 hm hof hofc (PySem.W.ks_ne KX J hc) M.cl ?_
    · exact fun A Q E s k q => wpAny_bind ((PySem.W.looks_clsIn KX2 hc) A _ E s k (wpAny_pure q))
    · have I3 : Inv X ((h'.objs.size, PySem.W.methodObj (.ref f2) (.ref x)) :: pins) σ H ⟨h'.push (PySem.W.methodObj (.ref f2) (.ref x)), g, d, t0 + 1, os⟩ := ClX.met_new I2
      refine ClX.callwith_cm I3 (ClX.base_none I2 (Nat.le_refl _)) M.fi (thn (ha.run pos _ _ σ H _ I3 h) fun us s3 ⟨vs, H2, I4, rv, q2⟩ => ⟨⟨ClX.pin_at I4, I4.kIn⟩, ?_⟩) hst rfl
      exact thn (ClX.run_cm F hr hx I4 rv q2) fun v s4 ⟨z, H3, I5, _, q3⟩ => ⟨rfl, z, H3, I5, q3⟩
end
/-- the def, by its first statement super().m(e) and the rest -/
theorem SupAt.okX {P : Program} {w : World} {K : PySem.W.Frag} {mg : Str → Option Value} {base : Heap} {CX : CXT} {k k2 : Nat} {name qual : Str} {st : Stmt} {f c cc D C f2 : Addr} {N ps : List Str} {file s0 m : Str} {sp sp2 : Sp} {p0 p1 apos pos epos : Pos} {e : Expr} {rest : List Stmt}
    (B : SupAt K name qual st f c cc D ps file) (hP : SupP P file) (M : SupM K C D m f2) (F : FnR P w K mg base CX k2 f2 sp2) (hk : k2 ≤ k)
    (S : NScope N ps ["__class__"] (defScope st)) (hps : ps[0]? = some s0) (hb : defBody st = .Expr (.Call (.Attribute (.Call (.Name "super" p0) [] [] p1) m apos) [e] [] pos) epos :: rest)
    (len : ∀ vs H Q E, sp vs H Q E → vs.length = ps.length)
    (walk : ∀ (A : Around) (outer : List Env) (s : Shared) (H : Hp) (vs : List V) (Q : VK) (E : XK) (X : Cx), X = ncx CX P w K mg base N ⟨name, qual, defArgs st, defBody st, defScope st, [("__class__", cc)], c⟩ f A outer s H E → Room k X.A → sp vs H Q E →
      Passes CX X E ∧ interactive X.env = false ∧ swapsWith (.Call (.Attribute (.Call (.Name "super" p0) [] [] p1) m apos) [e] [] pos) none epos.line X.env = pure false ∧ starEach [e] X.env = [(false, eval e X.env)] ∧
      (∃ pl : Sem Bool, eval (.Call (.Attribute (.Call (.Name "super" p0) [] [] p1) m apos) [e] [] pos) X.env = (do
        let ov ← attributeBase (.Call (.Name "super" p0) [] [] p1) m X.env (eval (.Call (.Name "super" p0) [] [] p1) X.env)
        standAt apos.atName
        let (f, first) ← holding [ov] (getMethod ov m pl)
        callWith pos f first (backTo pos (starEach [e] X.env)) [])) ∧
      ∃ (x dx : Addr) (fs : List (Str × V)) (t : TA), vs[0]? = some (.ref x) ∧ H x = some (.ins C dx fs) ∧ PA X [e] t ∧
        t (startF N vs [none]) H fun us H1 => sp2 (.ref x :: us) H1 (fun _ H2 => ∃ tt, PSs X rest tt ∧ tt { nx := fun _ H' => Q .non H', rt := Q } (startF N vs [none]) H2) E) :
    FnR P w K mg base CX (k + 1) f sp := by
  obtain ⟨oc, od, kV, doc, pm, an, ct, osl, lk, hcd, bi⟩ := B.ex
  intro A outer s H us vs Q E hr e0 r hs
  have hl := len _ _ _ _ hs
  have kin : K.In s.heap := e0.mod.kin.keeps fun b o e => (e0.bs b o e).1
  have lim : s.heap.NoLimit := e0.mod.nolimit.keeps fun b o e => (e0.bs b o e).1
  have hbn : BindsTo s (PySem.W.fnX name qual (defArgs st) (defBody st) (defScope st) [("__class__", cc)] .none kV doc pm an (.ref c) ct) ⟨us, []⟩ (ps.zip us) := by
    have := bi s us kin (by rw [List.append_nil, ← r.length]; exact hl)
    rw [List.append_nil] at this
    exact this
  refine codeAny_call_function hr.depth (kin _ _ lk) rfl S.co S.gen rfl (PySem.W.codeRec_of kin hcd) (hbn _ _ _ _ ?_)
  refine wpAny_newFunctionEnv S.nocell (fun ⟨n, _⟩ hy => S.par n (List.of_mem_zip hy).1) (fun h₁ hns hsb => ⟨lim.fresh _ hsb, ?_⟩) S.kind
  generalize hF : (⟨name, qual, defArgs st, defBody st, defScope st, [(("__class__" : Str), cc)], c⟩ : NF) = FF at walk
  have hFc : FF.cl = [(("__class__" : Str), cc)] := by rw [← hF]
  have hFs : FF.scope = defScope st := by rw [← hF]
  have hFb : FF.body = defBody st := by rw [← hF]
  have hFcc : FF.c = c := by rw [← hF]
  have henv : envF FF f s.heap.objs.size = PySem.W.envX qual (defScope st) s.heap.objs.size f (.ref c) [(("__class__" : Str), cc)] := by rw [← hF]
  have kp : ∀ b o, s.heap.get? b = some o → h₁.get? b = some o := fun b o e => hsb.extBut b o (Nat.ne_of_lt (Heap.lt_size e)) (Heap.get?_push_of_some _ e)
  obtain ⟨cl0, cld, csl, hcell⟩ := B.cell
  have CA : CellsAt FF.cl ["__class__"] [none] s.heap H := by
    rw [hFc]
    refine ⟨rfl, fun y a hy => ?_, fun a b a' h1 h2 => ?_, fun i y hi => ?_⟩
    · have : a = cc := by
        have hm := PySem.mem_of_lookup hy
        simp only [List.mem_singleton] at hm
        exact (Prod.mk.inj hm).2
      subst this
      exact ⟨(e0.bs _ _ (e0.mod.kin _ _ hcell)).2, _, _, kin _ _ hcell, rfl⟩
    · have m1 := PySem.mem_of_lookup h1
      have m2 := PySem.mem_of_lookup h2
      simp only [List.mem_singleton] at m1 m2
      rw [(Prod.mk.inj m1).1, (Prod.mk.inj m2).1]
    · match i, hi with
      | 0, hi =>
        cases hi
        exact ⟨cc, by simp [List.lookup], fun v hv => by cases hv⟩
      | i + 1, hi => simp at hi
  have I : Inv (ncx CX P w K mg base N FF f A outer s H E) [] (startF N vs [none]) H { s with heap := h₁, toks := s.toks + (ps.zip us).length } := inv_startN (by rw [hFs]; exact S) hr.hd e0 hl r CA hns kp
  obtain ⟨hx, hint, hsw, hst, ⟨pl, he⟩, x, dx, fs, t, hv0, ea, ha, hq⟩ := walk A outer s H vs Q E _ rfl (hr.deeper _) hs
  show codeAny _ _ (.func (defBody st) (PySem.W.envX qual (defScope st) s.heap.objs.size f (.ref c) [(("__class__" : Str), cc)])) _ _
  rw [← henv]
  refine PySem.ks_codeAny_funcAt ?_
  rw [hb]
  refine PySem.ks_wpAt_execs_cons ?_
  have hps0 : ps.length ≠ 0 := by
    intro z
    cases ps with
    | nil => cases hps
    | cons a b => cases z
  have hv : (startF N vs [none])[0]? = some (some (.ref x)) := by
    unfold startF
    rw [List.getElem?_append_left (by rw [List.length_map]; omega), List.getElem?_map, hv0]
    rfl
  have hN0 : N[0]? = some s0 := by
    have : (ps ++ [("__class__" : Str)])[0]? = some s0 := by rw [List.getElem?_append_left (by omega)]; exact hps
    rw [← S.pre, List.getElem?_take_of_lt (by simp)] at this
    exact this
  have hloc0 : (defScope st).names.lookup s0 = some .local := S.par s0 (List.mem_of_getElem? hps)
  refine PySem.ks_wpAt_mono (run_super (X := ncx CX P w K mg base N FF f A outer s H E) (body := _) B hP M F ((hr.deeper _).mono hk) hx hFs rfl (by show Value.ref FF.c = _; rw [hFcc]) (by show FF.cl.lookup _ = _; rw [hFc]; simp [List.lookup]) hps hN0 (by show FF.scope.names.lookup s0 = _; rw [hFs]; exact hloc0) I hv ea ha hq hint hsw hst pl he) (fun fl s' hh => ?_) fun e s' hh => hh
  obtain ⟨rfl, _, H2, I2, tt, htt, hqq⟩ := hh
  refine wpAt_of_wpAny ?_
  have fin : ∀ {σ' : L2.St} {H' : Hp} {v : V} {u : Value} {s' : Shared}, Inv (ncx CX P w K mg base N FF f A outer s H E) [] σ' H' s' → L2.RelV v u → Q v H' → CE outer P w H s Q u s' :=
    fun {σ' H' v u s'} J rv q => ⟨v, H', J.os, J.bare, J.base, J.hok, rv, q⟩
  refine wpAny_mono (htt.run [] _ (startF N vs [none]) H2 _ I2 hqq) (fun fl s' hs => ?_) fun e s' hs => hs
  cases fl with
  | ret u =>
    obtain ⟨v, σ', H', J, rv, q⟩ := hs
    exact fin J rv q
  | next =>
    obtain ⟨σ', H', J, q⟩ := hs
    exact fin (v := V.non) (u := Value.none) J rfl q
  | brk =>
    obtain ⟨_, _, _, q⟩ := hs
    exact False.elim q
  | cont =>
    obtain ⟨_, _, _, q⟩ := hs
    exact False.elim q
end U
namespace U
open PySem PySem.Spec PyProof.Rows L2 StX
/-! ### {o!r}, o an instance with its own __repr__ -/
section
variable {X : Cx} {CX : CXT} {k : Nat} {C : Addr} {sp : Sp} {E : XK} {n : Nat} {g : Addr}
def tFmtO (C : Addr) (sp : Sp) (E : XK) (te : TE) : TE := fun σ H Q => te σ H fun x H1 => ∃ a dx fs, x = .ref a ∧ H1 a = some (.ins C dx fs) ∧ sp [.ref a] H1 (fun v H' => ∃ z : Str, v = .str z ∧ z.length ≤ sizeLine ∧ Q (.str z) H') E
theorem pe_fmtO {e : Expr} {te : TE} {pos : Pos} (gd : X.A.guards = some []) (hs : PySem.W.findIn X.K (.ref C) "__repr__" = some (some (.ref g))) (hf : PySem.W.isFn X.K (.ref g) = true) (F : FnG X.prog X.w X.K X.mg X.base CX n g sp) (hr : Room n X.A) (hx : Passes CX X E) (he : PE X e te) :
    PE X (.FormattedValue e 114 none pos) (tFmtO C sp E te) := by
  refine ⟨fun pins s σ H Q I h => ?_⟩
  refine wpAny_FormattedValue_repr (thn (he.run pins s σ H _ I h) fun v s1 hv => ?_)
  obtain ⟨x, H1, I1, r1, a, dx, fs, rfl, ea, q⟩ := hv
  cases (show v = Value.ref a from r1)
  obtain ⟨ox, od, J⟩ := ins_inst I1 ea
  obtain ⟨m, hF⟩ := I1.fr
  unfold pyReprObj
  refine wpAny_bind (wpAny_cRoomFor hr.units0 ?_)
  refine wpAny_bind (wpAny_bind (J.type.here ((PySem.W.looks_findIn (I1.ok.mod.kin.keeps hF.keep) hs).here ?_)))
  show wpAny _ _ (if (some (Value.ref g)).isNone = true then _ else _) _ _ _
  rw [if_neg (by simp)]
  refine wpAny_bind (m := callSpecialIfBound? (.ref a) (Str.ofString "__repr__") _) (PySem.W.ifBound_K (I1.ok.mod.kin.keeps hF.keep) J hs hf ?_)
  refine wpAny_call ?_
  refine codeAny_mono (F X.A X.stack s1 H1 [.ref a] [.ref a] _ E gd hr I1.env0 (.cons rfl .nil) q) fun z s' hq => ?_
  match z, hq with
  | .error er, hq => exact hx pins σ H1 s1 er s' I1 hq
  | .ok (.ret w), hq =>
    obtain ⟨v, H', I', rv, zt, ev, hz, qz⟩ := I1.after hq
    subst ev
    obtain ⟨tk, rfl⟩ := rv
    refine wpAny_bind (wpAny_isInstance (typeIs_str _ _ _) isSubtype_str_str ?_)
    rw [if_pos rfl]
    refine wpAny_pure ?_
    exact wpAny_formatField_str ⟨.str _, H', I', ⟨_, rfl⟩, qz⟩ ⟨.str _, H', I'.tok _, ⟨_, rfl⟩, qz⟩ hz
  | .ok .next, hq => exact hq.elim
  | .ok .brk, hq => exact hq.elim
  | .ok .cont, hq => exact hq.elim
end
end U
namespace U
open PySem PySem.Spec PyProof.Rows L2 GQ PySem.SeqAt MeetsSeq MeetsSeq2 MeetsSeq3 SeqRoads2
open AutoSeq1 (wpAny_loadPart')
/-! ### == of lists and tuples, with either result -/
section
variable {prog : Program} {w : World} {A : Around} {R : Result → Shared → Prop}
/-- at each turn the two lists are read anew; f i: what == says of the i-th items -/
def ListB (prog : Program) (w : World) (A : Around) (E : Value → Shared → Prop) (l b : Addr) (N : Nat) (f : Nat → Bool) (I : Shared → Prop) : Prop :=
  ∀ s, I s → ∃ (its its2 : Array Value) (n n2 : Nat), s.heap.get? l = some { cls := .type "list", data := .seq its n } ∧ s.heap.get? b = some { cls := .type "list", data := .seq its2 n2 } ∧ its.size = N ∧ its2.size = N ∧
    ∀ (i : Nat) (h1 : i < its.size) (h2 : i < its2.size), wpAny (model prog w) A.in1 (eqBool its[i] its2[i]) (fun r s' => r = f i ∧ I s') E s
theorem eq_loopB (l b : Addr) (N : Nat) (f : Nat → Bool) (c : Bool) (hT : (∀ j, j < N → f j = true) → c = true) (hF : ∀ j, j < N → f j = false → c = false) (I : Shared → Prop) (hl : ListB prog w A (fun e s' => R (.error e) s') l b N f I)
    (fin : ∀ s, I s → R (.ok (.ret (.bool c))) s) (k : Nat) :
    ∀ i : Nat, N - i = k → i ≤ N → (∀ j, j < i → f j = true) → ∀ s, I s →
      wpAny (model prog w) A.in1 (Builtin.«list.__eq__.loop» ⟨[.ref l, .ref b, rawInt i, rawInt 2], []⟩) (FinOf prog w A R) (fun e s' => R (.error e) s') s := by
  induction k with
  | zero =>
    intro i hk hi pre s h
    obtain ⟨items, items2, n, n2, hl1, hb1, hs1, hs2, _⟩ := hl _ h
    have hi' : i = N := by omega
    have hc : c = true := hT fun j hj => pre j (by omega)
    have hR : R (.ok (.ret (.bool c))) s := fin s h
    rw [hc] at hR
    obtain ⟨hp, g, d, tk, os⟩ := s
    wp_walk using wpAny_loadPart' hl1, wpAny_loadPart' hb1
    have hi1 : items[((i : Nat) : Int).toNat]? = none := by simp; omega
    have hi2 : items2[((i : Nat) : Int).toNat]? = none := by simp; omega
    rw [hi1, hi2]
    wp_walk using wpAny_loadPart' hl1, wpAny_loadPart' hb1
    show R (.ok (.ret (.bool (items.size == items2.size)))) _
    rw [hs1, hs2]
    simpa using hR
  | succ k ih =>
    intro i hk hi pre s h
    obtain ⟨items, items2, n, n2, hl1, hb1, hs1, hs2, turn⟩ := hl _ h
    have hlt : i < items.size := by omega
    have hlt2 : i < items2.size := by omega
    have ht := turn i hlt hlt2
    obtain ⟨hp, g, d, tk, os⟩ := s
    wp_walk using wpAny_loadPart' hl1, wpAny_loadPart' hb1
    have hi1 : items[((i : Nat) : Int).toNat]? = some items[i] := by simp [hlt]
    have hi2 : items2[((i : Nat) : Int).toNat]? = some items2[i] := by simp [hlt2]
    have hc : ((i : Int) + 1) = ((i + 1 : Nat) : Int) := by omega
    rw [hi1, hi2]
    refine wpAny_bind (wpAny_mono ht (fun r s2 h2 => ?_) fun _ _ x => x)
    obtain ⟨hr, h2⟩ := h2
    cases hfi : f i with
    | true =>
      rw [hfi] at hr
      subst hr
      have hrec := ih (i + 1) (by omega) (by omega) (fun j hj => by
        rcases Nat.lt_succ_iff_lt_or_eq.mp hj with h | h
        · exact pre j h
        · rw [h]; exact hfi) s2 h2
      obtain ⟨hp2, g2, d2, tk2, os2⟩ := s2
      wp_walk
      rw [hc]
      exact ⟨plainId_quiet plain_eq_loop _, codeAny_builtin entry_eq_loop (by
        rw [Around.under_plainId plain_eq_loop _]
        exact hrec)⟩
    | false =>
      rw [hfi] at hr
      subst hr
      have hR : R (.ok (.ret (.bool c))) s2 := fin s2 h2
      rw [hF i (by omega) hfi] at hR
      obtain ⟨items', items2', n', n2', hl1', hb1', hs1', hs2', _⟩ := hl _ h2
      have hi1' : items'[((i : Nat) : Int).toNat]? = some (items'[i]'(by omega)) := by simp
      have hi2' : items2'[((i : Nat) : Int).toNat]? = some (items2'[i]'(by omega)) := by simp
      obtain ⟨hp2, g2, d2, tk2, os2⟩ := s2
      wp_walk using wpAny_loadPart' hl1', wpAny_loadPart' hb1'
      rw [hi1', hi2']
      wp_walk
      exact hR
theorem list_eqB (l b : Addr) (N : Nat) (f : Nat → Bool) (c : Bool) (hT : (∀ j, j < N → f j = true) → c = true) (hF : ∀ j, j < N → f j = false → c = false) (I : Shared → Prop) (hl : ListB prog w A (fun e s' => R (.error e) s') l b N f I)
    (fin : ∀ s, I s → R (.ok (.ret (.bool c))) s) {s : Shared} (h : I s) :
    wpAny (model prog w) A.in1 (Builtin.«list.__eq__» ⟨[.ref l, .ref b], []⟩) (FinOf prog w A R) (fun e s' => R (.error e) s') s := by
  obtain ⟨items, items2, n, n2, hl1, hb1, hs1, hs2, _⟩ := hl _ h
  have hrec := eq_loopB (A := A) (R := R) l b N f c hT hF I hl fin _ 0 rfl (Nat.zero_le _) (fun j hj => absurd hj (Nat.not_lt_zero _)) s h
  obtain ⟨hp, g, d, tk, os⟩ := s
  have f3 := AutoSeq1.sub_list_list
  have hne : ¬ (items.size != items2.size) = true := by simp [hs1, hs2]
  wp_walk using wpAny_loadPart' hl1, wpAny_loadPart' hb1
  exact ⟨plainId_quiet plain_eq_loop _, codeAny_builtin entry_eq_loop (by
    rw [Around.under_plainId plain_eq_loop _]
    exact hrec)⟩
theorem list_eqN (l b : Addr) {its its2 : Array Value} {n n2 : Nat} (hne : its.size ≠ its2.size) {s : Shared} (hl1 : s.heap.get? l = some { cls := .type "list", data := .seq its n }) (hb1 : s.heap.get? b = some { cls := .type "list", data := .seq its2 n2 }) (q : R (.ok (.ret (.bool false))) s) :
    wpAny (model prog w) A.in1 (Builtin.«list.__eq__» ⟨[.ref l, .ref b], []⟩) (FinOf prog w A R) (fun e s' => R (.error e) s') s := by
  obtain ⟨hp, g, d, tk, os⟩ := s
  have f3 := AutoSeq1.sub_list_list
  have hne' : (its.size != its2.size) = true := by simp [hne]
  wp_walk using wpAny_loadPart' hl1, wpAny_loadPart' hb1
  exact q
theorem tuple_eqB (l b : Addr) (items items2 : Array Value) (n n2 : Nat) (dd dd2 : Option Addr) (sl sl2 : Array (Option Value)) (hsz : items.size = items2.size) (f : Nat → Bool) (c : Bool) (hT : (∀ j, j < items.size → f j = true) → c = true) (hF : ∀ j, j < items.size → f j = false → c = false) (I : Shared → Prop)
    (turn : ∀ i (h1 : i < items.size) (h2 : i < items2.size) s, I s → wpAny (model prog w) A.in1 (eqBool items[i] items2[i]) (fun r s' => r = f i ∧ I s') (fun e s' => R (.error e) s') s)
    (fin : ∀ s, I s → R (.ok (.ret (.bool c))) s) {s : Shared} (hl1 : s.heap.get? l = some { cls := .type "tuple", dict := dd, data := .seq items n, slots := sl }) (hb1 : s.heap.get? b = some { cls := .type "tuple", dict := dd2, data := .seq items2 n2, slots := sl2 }) (h : I s) :
    wpAny (model prog w) A.in1 (Builtin.«tuple.__eq__» ⟨[.ref l, .ref b], []⟩) (FinOf prog w A R) (fun e s' => R (.error e) s') s := by
  have f2 := AutoSeq1.sub_tuple_tuple
  have hZ : (items.toList.zip items2.toList).length = items.size := by simp [hsz]
  have h0 := h
  obtain ⟨hp, g, d, tk, os⟩ := s
  wp_walk using wpAny_loadPart' hl1, wpAny_loadPart' hb1, wpAny_forIn_list _ (fun rest b s' => b.1 = none ∧ ∃ i, rest = (items.toList.zip items2.toList).drop i ∧ i ≤ items.size ∧ (∀ j, j < i → f j = true) ∧ I s') _
  case turn =>
    rintro ⟨y, x⟩ rest b s' ⟨hb', i, hz, hi, pre, hI⟩
    have hlt : i < (items.toList.zip items2.toList).length := by
      rcases Nat.lt_or_ge i (items.toList.zip items2.toList).length with h' | h'
      · exact h'
      · rw [List.drop_of_length_le h'] at hz; cases hz
    have h1 : i < items.size := hZ ▸ hlt
    have h2 : i < items2.size := hsz ▸ h1
    rw [List.drop_eq_getElem_cons hlt] at hz
    injection hz with hyx hrest
    have hy : y = items[i] := by have := congrArg Prod.fst hyx; simpa using this
    have hx : x = items2[i] := by have := congrArg Prod.snd hyx; simpa using this
    subst hy hx
    refine wpAny_bind (wpAny_mono (turn i h1 h2 s' hI) (fun r s2 q2 => ?_) fun _ _ x => x)
    obtain ⟨hr, q2⟩ := q2
    cases hfi : f i with
    | true =>
      rw [hfi] at hr
      subst hr
      wp_walk
      refine ⟨rfl, i + 1, hrest, h1, fun j hj => ?_, q2⟩
      rcases Nat.lt_succ_iff_lt_or_eq.mp hj with h | h
      · exact pre j h
      · rw [h]; exact hfi
    | false =>
      rw [hfi] at hr
      subst hr
      have hR : R (.ok (.ret (.bool c))) s2 := fin s2 q2
      rw [hF i h1 hfi] at hR
      wp_walk
      exact hR
  case fin =>
    rintro ⟨b1, b2⟩ s' ⟨hb', i, hz, hi, pre, hI⟩
    simp only at hb'
    subst hb'
    have hge : items.size ≤ i := by
      rcases Nat.lt_or_ge i (items.toList.zip items2.toList).length with h' | h'
      · rw [List.drop_eq_getElem_cons h'] at hz; cases hz
      · exact hZ ▸ h'
    have hi' : i = items.size := by omega
    have hR : R (.ok (.ret (.bool c))) s' := fin s' hI
    rw [hT fun j hj => pre j (by omega)] at hR
    wp_walk
    simpa [Builtin.Tuple.tupleCompareSizes, hsz] using hR
  case h =>
    exact ⟨rfl, 0, rfl, Nat.zero_le _, fun j hj => absurd hj (Nat.not_lt_zero _), h0⟩
end
section
variable {prog : Program} {w : World} {A : Around} {E : Value → Shared → Prop} {s : Shared}
theorem rc_listB {l b : Addr} {N : Nat} {Q : Value → Shared → Prop} (hu : A.units < cLine) (f : Nat → Bool) (c : Bool) (hT : (∀ j, j < N → f j = true) → c = true) (hF : ∀ j, j < N → f j = false → c = false) (I : Shared → Prop) (hl : ListB prog w A E l b N f I)
    (fin : ∀ s, I s → Q (.bool c) s) (h : I s) : wpAny (model prog w) A (richCompare .Eq (.ref l) (.ref b)) Q E s := by
  obtain ⟨items, items2, n, n2, hl1, hb1, _, _, _⟩ := hl _ h
  refine wpAny_richCompare_same_room (op := .Eq) ⟨_, hl1, rfl⟩ ⟨_, hb1, rfl⟩ F.slot_list_eq (call_here F.slot_list_eq ⟨_, hl1, rfl⟩ F.entry_list_eq (F.args_list_eq_2 _ _) ?_) hu
  exact list_eqB (R := wants (fun v s' => v ≠ .notImplemented ∧ Q v s') E) l b N f c hT hF I hl (fun s' q => ⟨(fun x => nomatch x), fin s' q⟩) h
theorem rc_listN {l b : Addr} {its its2 : Array Value} {n n2 : Nat} {Q : Value → Shared → Prop} (hu : A.units < cLine) (hne : its.size ≠ its2.size) (hl1 : s.heap.get? l = some { cls := .type "list", data := .seq its n }) (hb1 : s.heap.get? b = some { cls := .type "list", data := .seq its2 n2 })
    (fin : Q (.bool false) s) : wpAny (model prog w) A (richCompare .Eq (.ref l) (.ref b)) Q E s := by
  refine wpAny_richCompare_same_room (op := .Eq) ⟨_, hl1, rfl⟩ ⟨_, hb1, rfl⟩ F.slot_list_eq (call_here F.slot_list_eq ⟨_, hl1, rfl⟩ F.entry_list_eq (F.args_list_eq_2 _ _) ?_) hu
  exact list_eqN (R := wants (fun v s' => v ≠ .notImplemented ∧ Q v s') E) l b hne hl1 hb1 ⟨(fun x => nomatch x), fin⟩
theorem rc_tupB {l b : Addr} {items items2 : Array Value} {Q : Value → Shared → Prop} (hsz : items.size = items2.size) (hu : A.units < cLine) (f : Nat → Bool) (c : Bool) (hT : (∀ j, j < items.size → f j = true) → c = true) (hF : ∀ j, j < items.size → f j = false → c = false) (I : Shared → Prop)
    (hl : s.heap.IsTuple l items) (hb : s.heap.IsTuple b items2)
    (turn : ∀ i (h1 : i < items.size) (h2 : i < items2.size) s, I s → wpAny (model prog w) A.in1 (eqBool items[i] items2[i]) (fun r s' => r = f i ∧ I s') E s)
    (fin : ∀ s, I s → Q (.bool c) s) (h : I s) : wpAny (model prog w) A (richCompare .Eq (.ref l) (.ref b)) Q E s := by
  obtain ⟨⟨cls, dd, data, sl⟩, ho, hc, n, hd⟩ := id hl
  obtain ⟨⟨cls2, dd2, data2, sl2⟩, ho2, hc2, n2, hd2⟩ := id hb
  simp only at hc hd hc2 hd2
  subst hc hd hc2 hd2
  refine wpAny_richCompare_same_room (op := .Eq) ⟨_, ho, rfl⟩ ⟨_, ho2, rfl⟩ F.slot_tuple_eq (call_here F.slot_tuple_eq ⟨_, ho, rfl⟩ F.entry_tuple_eq (F.args_tuple_eq_2 _ _) ?_) hu
  exact tuple_eqB (R := wants (fun v s' => v ≠ .notImplemented ∧ Q v s') E) l b items items2 n n2 dd dd2 sl sl2 hsz f c hT hF I turn (fun s' q => ⟨(fun x => nomatch x), fin s' q⟩) ho ho2 h
end
/-- D x y H c: == of the two gives c -/
abbrev EqvB := V → V → Hp → Bool → Prop
def MonB (D : EqvB) : Prop := ∀ x y H H' c, Ext H H' → D x y H c → D x y H' c
def SelfB (D : EqvB) : Prop := ∀ a H c, D (.ref a) (.ref a) H c → c = true
def EqH (X : Cx) (n : Nat) (D : EqvB) : Prop :=
  ∀ (A : Around) (pins : List (Addr × Obj)) (s : Shared) (σ : L2.St) (H : Hp) (x y : V) (u v : Value) (c : Bool), Sub X n A → Inv X pins σ H s → RelV x u → RelV y v → D x y H c →
    wpAny (model X.prog X.w) A (eqBool u v) (fun r s' => r = c ∧ ∃ H', Inv X pins σ H' s' ∧ Ext H H') X.xe s
def RcH (X : Cx) (n : Nat) (D : EqvB) : Prop :=
  ∀ (A : Around) (pins : List (Addr × Obj)) (s : Shared) (σ : L2.St) (H : Hp) (x y : V) (u v : Value) (c : Bool), Sub X n A → Inv X pins σ H s → RelV x u → RelV y v → D x y H c →
    wpAny (model X.prog X.w) A (richCompare .Eq u v) (fun r s' => r = .bool c ∧ ∃ H', Inv X pins σ H' s' ∧ Ext H H') X.xe s
section
variable {X : Cx} {n m : Nat} {D D' : EqvB}
theorem EqH.mono (h : EqH X n D) (hn : n ≤ m) : EqH X m D := fun A pins s σ H x y u v c sb => h A pins s σ H x y u v c (sb.mono hn)
theorem EqH.or (h : EqH X n D) (h' : EqH X n D') : EqH X n (fun x y H c => D x y H c ∨ D' x y H c) := fun A pins s σ H x y u v c sb I rx ry d => by
  rcases d with d | d
  · exact h A pins s σ H x y u v c sb I rx ry d
  · exact h' A pins s σ H x y u v c sb I rx ry d
theorem MonB.or (h : MonB D) (h' : MonB D') : MonB (fun x y H c => D x y H c ∨ D' x y H c) := fun x y H H' c e d => d.elim (fun d => .inl (h x y H H' c e d)) fun d => .inr (h' x y H H' c e d)
/-- two dicts of ints -/
def DDb : EqvB := fun x y H c => ∃ a b ks ls, x = .ref a ∧ y = .ref b ∧ H a = some (.dK ks) ∧ H b = some (.dK ls) ∧ IntVals ks ∧ IntVals ls ∧ IntKeys ks ∧ IntKeys ls ∧ c = sameD a b ks ls
theorem mon_DDb : MonB DDb := fun x y H H' c e ⟨a, b, ks, ls, h1, h2, h3, h4, h5⟩ => ⟨a, b, ks, ls, h1, h2, e _ _ h3, e _ _ h4, h5⟩
theorem eqH_DDb : EqH X 0 DDb := by
  intro A pins s σ H x y u v c sb I rx ry d
  obtain ⟨a, b, ks, ls, rfl, rfl, ha, hb, i1, i2, j1, j2, rfl⟩ := d
  cases (show u = Value.ref a from rx)
  cases (show v = Value.ref b from ry)
  exact eqAt_dI I ha hb i1 i2 j1 j2 (A := A) sb.room.units0 X.prog X.w X.xe _ ⟨rfl, H, I, Ext.rfl'⟩
/-- data: numbers, texts, lists and tuples of them -/
def DDat (K : PySem.W.Frag) : EqvB := fun x y H c => ∃ d e, Dp K H x d ∧ Dp K H y e ∧ SeqAt.shaped d = true ∧ SeqAt.shaped e = true ∧ c = PyData.eqv d e
theorem eqH_dat : EqH X 64 (DDat X.K) := by
  intro A pins s σ H x y u v c sb I rx ry d
  obtain ⟨d, e, hd, he, sd, se, rfl⟩ := d
  obtain ⟨as, r1⟩ := Dp.reads I d x u hd rx
  obtain ⟨bs, r2⟩ := Dp.reads I e y v he ry
  exact SeqAt.eqAt_reads d e A s u v as bs r1 r2 (SeqAt.canLay_of_shaped sd) (SeqAt.canLay_of_shaped se) (SeqAt.room_of_shaped sd sb.room.units) X.prog X.w X.xe _ ⟨rfl, H, I, Ext.rfl'⟩
/-- item by item -/
structure PrsB (D : EqvB) (xs ys : List V) (H : Hp) (f : Nat → Bool) (c : Bool) : Prop where
  len : xs.length = ys.length
  at_ : ∀ (i : Nat) x y, xs[i]? = some x → ys[i]? = some y → D x y H (f i)
  t : (∀ j, j < xs.length → f j = true) → c = true
  f : ∀ j, j < xs.length → f j = false → c = false
theorem turnB (hD : MonB D) (h : EqH X n D) {A : Around} (sb : Sub X (n + 1) A) {pins : List (Addr × Obj)} {σ : L2.St} {H : Hp} {xs ys : List V} {its its2 : List Value} {f : Nat → Bool} {c : Bool} (p : PrsB D xs ys H f c) (r : Vals xs its) (r2 : Vals ys its2)
    (i : Nat) (h1 : i < its.toArray.size) (h2 : i < its2.toArray.size) (s' : Shared) (l : LoopI X pins σ H s') :
    wpAny (model X.prog X.w) A.in1 (eqBool its.toArray[i] its2.toArray[i]) (fun r s2 => r = f i ∧ LoopI X pins σ H s2) X.xe s' := by
  obtain ⟨H1, I1, e1⟩ := l
  have g1 : its[i]? = some its.toArray[i] := by
    have h1' : i < its.length := by simpa using h1
    rw [List.getElem?_eq_getElem h1'] <;> simp
  have g2 : its2[i]? = some its2.toArray[i] := by
    have h2' : i < its2.length := by simpa using h2
    rw [List.getElem?_eq_getElem h2'] <;> simp
  have k1 : i < xs.length := by rw [r.length]; simpa using h1
  have k2 : i < ys.length := by rw [r2.length]; simpa using h2
  obtain ⟨u, hu, ru⟩ := r.get (List.getElem?_eq_getElem k1)
  obtain ⟨v, hv, rv⟩ := r2.get (List.getElem?_eq_getElem k2)
  rw [g1] at hu
  rw [g2] at hv
  rw [Option.some.inj hu, Option.some.inj hv]
  refine wpAny_mono (h A.in1 pins s' σ H1 _ _ u v _ sb.in1 I1 ru rv (hD _ _ _ _ _ e1 (p.at_ i _ _ (List.getElem?_eq_getElem k1) (List.getElem?_eq_getElem k2)))) (fun r s2 q => ?_) fun _ _ x => x
  obtain ⟨hr, H2, I2, e2⟩ := q
  exact ⟨hr, H2, I2, e1.trans e2⟩
def DListB (D : EqvB) : EqvB := fun x y H c => ∃ a b xs ys, x = .ref a ∧ y = .ref b ∧ H a = some (.lst xs) ∧ H b = some (.lst ys) ∧ ((xs.length ≠ ys.length ∧ c = false) ∨ ∃ f, PrsB D xs ys H f c)
def DTupB (K : PySem.W.Frag) (D : EqvB) : EqvB := fun x y H c => ∃ a b xs ys, x = .ref a ∧ y = .ref b ∧ SqT K H a xs ∧ SqT K H b ys ∧ ∃ f, PrsB D xs ys H f c
theorem PrsB.mon (hD : MonB D) {xs ys : List V} {H H' : Hp} {f : Nat → Bool} {c : Bool} (e : Ext H H') (p : PrsB D xs ys H f c) : PrsB D xs ys H' f c := ⟨p.len, fun i x y h1 h2 => hD x y H H' _ e (p.at_ i x y h1 h2), p.t, p.f⟩
theorem monB_list (hD : MonB D) : MonB (DListB D) := fun x y H H' c e d => by
  obtain ⟨a, b, xs, ys, hx, hy, h1, h2, p⟩ := d
  exact ⟨a, b, xs, ys, hx, hy, e _ _ h1, e _ _ h2, p.imp id fun ⟨f, p⟩ => ⟨f, p.mon hD e⟩⟩
theorem rcH_list (hD : MonB D) (h : EqH X n D) : RcH X (n + 1) (DListB D) := by
  intro A pins s σ H x y u v c sb I rx ry d
  obtain ⟨a, b, xs, ys, rfl, rfl, ha, hb, p⟩ := d
  cases rx
  cases ry
  rcases p with ⟨hne, rfl⟩ | ⟨f, p⟩
  · obtain ⟨z, its, k, r, e⟩ := I.hok a _ ha
    obtain ⟨z2, its2, k2, r2, e2⟩ := I.hok b _ hb
    exact rc_listN sb.room.units0 (by rw [List.size_toArray, List.size_toArray, ← r.length, ← r2.length]; exact hne) e e2 ⟨rfl, H, I, Ext.rfl'⟩
  · refine rc_listB (N := xs.length) sb.room.units0 f c p.t p.f (fun s' => LoopI X pins σ H s') (fun s' q => ?_) (fun s' q => ⟨rfl, q⟩) ⟨H, I, Ext.rfl'⟩
    obtain ⟨H1, I1, e1⟩ := id q
    obtain ⟨z, its, k, r, e⟩ := I1.hok a _ (e1 _ _ ha)
    obtain ⟨z2, its2, k2, r2, e2⟩ := I1.hok b _ (e1 _ _ hb)
    exact ⟨its.toArray, its2.toArray, k, k2, e, e2, by rw [List.size_toArray, ← r.length], by rw [List.size_toArray, ← r2.length, ← p.len], fun i h1 h2 => turnB hD h sb p r r2 i h1 h2 s' q⟩
theorem rcH_tup (hD : MonB D) (h : EqH X n D) : RcH X (n + 1) (DTupB X.K D) := by
  intro A pins s σ H x y u v c sb I rx ry d
  obtain ⟨a, b, xs, ys, rfl, rfl, ha, hb, f, p⟩ := d
  cases rx
  cases ry
  obtain ⟨its, r, e, z⟩ := I.tuple ha
  obtain ⟨its2, r2, e2, z2⟩ := I.tuple hb
  have hsz : its.toArray.size = its2.toArray.size := by rw [List.size_toArray, List.size_toArray, ← r.length, ← r2.length]; exact p.len
  have hN : its.toArray.size = xs.length := by rw [List.size_toArray, ← r.length]
  exact rc_tupB hsz sb.room.units0 f c (by rw [hN]; exact p.t) (by rw [hN]; exact p.f) (fun s' => LoopI X pins σ H s') e e2 (fun i h1 h2 s' q => turnB hD h sb p r r2 i h1 h2 s' q) (fun s' q => ⟨rfl, q⟩) ⟨H, I, Ext.rfl'⟩
theorem RcH.eqH (h : RcH X n D) (hs : SelfB D) (hr : ∀ x y H c, D x y H c → ∃ a b, x = .ref a ∧ y = .ref b) : EqH X n D := by
  intro A pins s σ H x y u v c sb I rx ry d
  obtain ⟨a, b, rfl, rfl⟩ := hr _ _ _ _ d
  cases rx
  cases ry
  by_cases hab : a = b
  · subst hab
    have hc := hs _ _ _ d
    subst hc
    exact SeqAt.EqAt.same (A := A) (s := s) (.ref a) X.prog X.w X.xe _ ⟨rfl, H, I, Ext.rfl'⟩
  · refine GQ.eqBool_refG hab (wpAny_mono (h A pins s σ H (.ref a) (.ref b) _ _ c sb I rfl rfl d) (fun r s' q => ?_) fun _ _ x => x)
    obtain ⟨hr', q⟩ := q
    exact ⟨c, hr', rfl, q⟩
/-- instances of C with the own == -/
def DInsB (C : Addr) (R : Addr → Addr → Hp → Bool → Prop) : EqvB := fun x y H c => ∃ a b dx dy fs gs, x = .ref a ∧ y = .ref b ∧ H a = some (.ins C dx fs) ∧ H b = some (.ins C dy gs) ∧ R a b H c
def spEqB (R : Addr → Addr → Hp → Bool → Prop) : Sp := fun vs H Q _ => ∃ a b c, vs = [.ref a, .ref b] ∧ R a b H c ∧ ∀ H', Ext H H' → Q (.bl c) H'
theorem rcH_own {CX : CXT} {C f : Addr} {R : Addr → Addr → Hp → Bool → Prop} {E : XK} (F : FnR X.prog X.w X.K X.mg X.base CX n f (spEqB R))
    (hs : PySem.W.findIn X.K (.ref C) "__eq__" = some (some (.ref f))) (hf : PySem.W.isFn X.K (.ref f) = true) (hx : Passes CX X E) : RcH X n (DInsB C R) := by
  intro A pins s σ H x y u v c sub I rx ry d
  obtain ⟨a, b, dx, dy, fs, gs, rfl, rfl, ha, hb, r⟩ := d
  cases (show u = Value.ref a from rx)
  cases (show v = Value.ref b from ry)
  obtain ⟨ox, od, J⟩ := ins_inst I ha
  obtain ⟨oy, od', J'⟩ := ins_inst I hb
  obtain ⟨m, hF⟩ := I.fr
  have e := I.env0
  have e0 : Env0 X.prog X.w X.K X.mg X.base A X.stack s H := ⟨by rw [sub.fr]; exact e.frames, e.mod, e.bs, e.bsz, e.funs, e.frf, e.hok, e.bare⟩
  refine PySem.W.cmp_K (op := .Eq) (tb := .ref C) sub.room.units0 hF I.ok.mod.kin J J'.type (notFirst_self _ _) hs hf ?_
  refine wpAny_mono (wpAny_call (SlX.run_at (us := [.ref a, .ref b]) (ws := [.ref a, .ref b]) (Q := fun v H' => v = .bl c ∧ L2.Same H H') F sub.room e0 hx I (.cons rfl (.cons rfl .nil)) ⟨a, b, c, rfl, r, fun H' ex => ⟨rfl, ex⟩⟩)) (fun w s' z => ?_) fun _ _ x => x
  obtain ⟨z', H', I', rz, rfl, ex⟩ := z
  cases (show w = Value.bool c from rz)
  exact ⟨rfl, H', I', ex⟩
/-- x == y as an expression -/
def rEqH (D : EqvB) : R2 := fun x y H Q => ∃ c, D x y H c ∧ ∀ H', Ext H H' → Q (.bl c) H'
theorem op_eqH (h : RcH X n D) (hr : Room n X.A) : OpR X (compareOp .Eq) (rEqH D) := by
  intro pins s σ H x y v u Q I rx ry hq
  obtain ⟨c, d, q⟩ := hq
  show wpAny (model X.prog X.w) X.A (richCompare .Eq v u) (EP X pins σ Q) X.xe s
  refine wpAny_mono (h X.A pins s σ H x y v u c ⟨hr, rfl⟩ I rx ry d) (fun r s' z => ?_) fun _ _ x => x
  obtain ⟨hr', H', I', e⟩ := z
  subst hr'
  exact ⟨.bl c, H', I', rfl, q H' e⟩
end
end U
namespace PySem.W
open PySem PySem.Calls PyProof.Rows
section
variable {prog : Program} {w : World} {A : Around} {E : Value → Shared → Prop} {s : Shared} {K : Frag} {x C L f : Addr} {h₀ : Heap} {m : Str → Option Value} {ox : Obj} {od : Option Obj} {a ta : Value}
/-- a != x, where x's class is one below a's: x's own __eq__ is asked first -/
theorem my_neR_K {Q : Value → Shared → Prop} {y : Addr} (hu : A.units + 1 < cLine) (F : Fr h₀ L s.heap m) (X₀ : K.In h₀) (I : InstAt s.heap x ox C od) (ha : Looks (model prog w) s.heap (typeOf (.ref y)) ta) (hd : ta ≠ .ref C) (hsub : subIn K (.ref C) ta = some true)
    (hne : findIn K (.ref C) "__ne__" = some (some (.builtin "object.__ne__"))) (hob : mroIn K C (.type "object") = some true)
    (hs : findIn K (.ref C) "__eq__" = some (some (.ref f))) (hf : isFn K (.ref f) = true)
    (h : wpAny (model prog w) A.in1 (call (.ref f) [.ref x, .ref y]) (fun v s' => ∃ c, v = .bool c ∧ Q (.bool (!c)) s') E s) : wpAny (model prog w) A (richCompare .NotEq (.ref y) (.ref x)) Q E s := by
  have X := X₀.keeps F.keep
  have one : wpAny (model prog w) A (tryCompare (.ref x) "__ne__" (.ref y)) (fun r s' => ∃ v, r = some v ∧ Q v s') E s := by
    unfold tryCompare
    simp only [callSpecialIfBound?, bindSpecialIfBound?]
    have sub : Looks (model prog w) s.heap (isInstance (.ref x) (.type "object")) true := I.type.andThen (looks_mroIn X hob)
    have fin : wpAny (model prog w) A (call (.builtin "object.__ne__") ([.ref x] ++ [.ref y]) >>= fun v => pure (some v)) (fun r s' => ∃ c, r = some (.bool c) ∧ Q (.bool c) s') E s := by
      refine wpAny_bind (wpAny_call (codeAny_call_builtin PySem.F.slot_tuple_iterator_ne.plain PySem.F.cmpEntry_ne ?_))
      refine @check_slot (model prog w) _ _ s "object.__ne__" "object" "__ne__" (.ref x) [.ref y] [] _ PySem.F.cmpKind_ne PySem.F.cmpSplit_ne sub (PySem.F.cmpArgs_ne _ _) ?_
      unfold Builtin.«object.__ne__»
      refine wpAny_bind (wpAny_of_eq (a := ((Value.ref x : Value), [.ref y])) (by first | rfl | (simp only [Builtin.slotArgs]; rfl)) ?_)
      refine wpAny_bind (wpAny_cRoomFor hu ?_)
      refine wpAny_bind (ifBound_K X I hs hf (wpAny_mono h (fun v s' hv => ?_) fun _ _ e => e))
      obtain ⟨c, rfl, q⟩ := hv
      refine wpAny_bind (wpAny_truthy_bool ?_)
      exact wpAny_pure (wpAny_pure ⟨_, rfl, q⟩)
    refine wpAny_bind (wpAny_holding (wpAny_bind (wpAny_bind (wpAny_bind (I.type.here ((looks_findIn X hne).here ?_))))))
    refine wpAny_bind (wpAny_askSetting (wpAny_ite ?_))
    split
    · rw [PySem.F.slot_tuple_iterator_ne.bind (.ref x)]
      exact wpAny_bind (wpAny_pure (wpAny_pure (wpAny_mono fin (fun r s' z => by obtain ⟨c, rfl, q⟩ := z; exact wpAny_pure ⟨_, rfl, q⟩) fun _ _ e => e)))
    · rw [PySem.F.slot_tuple_iterator_ne.bind (.ref x)]
      exact wpAny_tryCatch (wpAny_bind (wpAny_pure (wpAny_pure (wpAny_mono fin (fun r s' z => by obtain ⟨c, rfl, q⟩ := z; exact wpAny_pure ⟨_, rfl, q⟩) fun _ _ e => e))))
  unfold richCompare
  simp only [oneThing_ref]
  refine wpAny_holding (wpAny_bind (wpAny_cRoomFor (Nat.lt_of_succ_lt hu) ?_))
  refine wpAny_bind (ha.here (wpAny_bind (I.type.here ?_)))
  have hd' : (ta != Value.ref C) = true := by
    rw [bne_iff_ne]
    exact hd
  rw [if_pos hd']
  refine wpAny_bind ((looks_subIn X hsub).here ?_)
  simp only [if_true]
  refine wpAny_bind (wpAny_mono one (fun r s' z => ?_) fun _ _ e => e)
  obtain ⟨v, rfl, hq⟩ := z
  exact wpAny_bind (wpAny_rule (wpAny_pure hq))
end
end PySem.W
namespace U
open PySem PySem.Spec PyProof.Rows L2 StX
section
variable {X : Cx} {CX : CXT} {C D g : Addr} {n : Nat} {sp : Sp} {E : XK}
/-- x != y, y's class C one below x's class D -/
def rNeSub (D C : Addr) (sp : Sp) (E : XK) : R2 := fun x y H Q => ∃ a dx fs b dy gs, x = .ref a ∧ y = .ref b ∧ H a = some (.ins D dx fs) ∧ H b = some (.ins C dy gs) ∧ sp [y, x] H (fun z H' => ∃ c, z = .bl c ∧ Q (.bl (!c)) H') E
theorem op_neSub (oc : OwnC X.K C) (hd : D ≠ C) (hsub : PySem.W.subIn X.K (.ref C) (.ref D) = some true) (hne : PySem.W.findIn X.K (.ref C) "__ne__" = some (some (.builtin "object.__ne__"))) (hs : PySem.W.findIn X.K (.ref C) "__eq__" = some (some (.ref g))) (hf : PySem.W.isFn X.K (.ref g) = true) (F : FnR X.prog X.w X.K X.mg X.base CX n g sp)
    (hr : Room (n + 1) X.A) (hx : Passes CX X E) : OpR X (compareOp .NotEq) (rNeSub D C sp E) := by
  intro pins s σ H x y v u Q I rx ry h
  obtain ⟨a, dx, vs, b, dy, ws, rfl, rfl, ha, hb, q⟩ := h
  cases (show v = Value.ref a from rx)
  cases (show u = Value.ref b from ry)
  obtain ⟨ox, od, J⟩ := ins_inst I ha
  obtain ⟨oy, od', J'⟩ := ins_inst I hb
  obtain ⟨m, hF⟩ := I.fr
  have hr1 : Room n X.A.in1 := Room.in1 hr
  refine PySem.W.my_neR_K (ta := .ref D) (hu_of hr) hF I.ok.mod.kin J' J.type (fun z => hd (by injection z)) hsub hne oc.cm hs hf ?_
  refine wpAny_mono (wpAny_call (SlX.run_at (us := [.ref b, .ref a]) (ws := [.ref b, .ref a]) F hr1 I.env0.in1 hx I (.cons rfl (.cons rfl .nil)) q)) (fun w s' z => ?_) fun _ _ x => x
  obtain ⟨z', H', I', rz, c, ez, qz⟩ := z
  subst ez
  cases (show w = Value.bool c from rz)
  exact ⟨c, rfl, .bl (!c), H', I', rfl, qz⟩
end
end U
namespace PM
open U
/-! ### one-to-one maps between parts of 0 .. n - 1 -/
abbrev PF := Int → Option Int
structure WF (n : Int) (f : PF) : Prop where
  dom : ∀ x y, f x = some y → 0 ≤ x ∧ x < n ∧ 0 ≤ y ∧ y < n
  inj : ∀ x x' y, f x = some y → f x' = some y → x = x'
def tabN (f : PF) (n : Nat) : List (Int × Int) := (List.range n).filterMap fun (i : Nat) => (f (i : Int)).map fun y => ((i : Int), y)
def tab (n : Int) (f : PF) : List (Int × Int) := tabN f n.toNat
theorem mem_tabN {f : PF} {n : Nat} {x y : Int} : (x, y) ∈ tabN f n ↔ f x = some y ∧ ∃ i : Nat, i < n ∧ x = (i : Int) := by
  unfold tabN
  rw [List.mem_filterMap]
  constructor
  · rintro ⟨i, hi, e⟩
    rw [List.mem_range] at hi
    cases h : f (i : Int) with
    | none => rw [h] at e; cases e
    | some z => rw [h] at e; cases e; exact ⟨h, i, hi, rfl⟩
  · rintro ⟨h, i, hi, rfl⟩
    exact ⟨i, List.mem_range.mpr hi, by rw [h]; rfl⟩
theorem mem_tab {n : Int} {f : PF} (w : WF n f) {x y : Int} : (x, y) ∈ tab n f ↔ f x = some y := by
  unfold tab
  rw [mem_tabN]
  constructor
  · exact fun h => h.1
  · intro h
    have := w.dom x y h
    exact ⟨h, x.toNat, by omega, by omega⟩
theorem keys_tabN (f : PF) (n : Nat) : ((tabN f n).map (·.1)).Nodup := by
  induction n with
  | zero => exact List.nodup_nil
  | succ n ih =>
    have e : tabN f (n + 1) = tabN f n ++ ((f (n : Int)).map fun y => ((n : Int), y)).toList := by
      unfold tabN
      rw [List.range_succ, List.filterMap_append]
      cases h : f (n : Int) <;> simp [h]
    rw [e, List.map_append, List.nodup_append]
    refine ⟨ih, ?_, ?_⟩
    · cases f (n : Int) <;> simp
    · intro a ha b hb e
      subst e
      obtain ⟨p, hp, rfl⟩ := List.mem_map.mp ha
      obtain ⟨x, y⟩ := p
      obtain ⟨_, i, hi, ex⟩ := mem_tabN.mp hp
      cases h : f (n : Int) with
      | none => rw [h] at hb; simp at hb
      | some z =>
        rw [h] at hb
        simp at hb
        omega
theorem keys_tab (n : Int) (f : PF) : ((tab n f).map (·.1)).Nodup := keys_tabN f _
theorem lk_tab {n : Int} {f : PF} (w : WF n f) (x : Int) : lk (tab n f) x = f x := by
  cases h : f x with
  | some y => exact lk_some (keys_tab n f) ((mem_tab w).mpr h)
  | none =>
    cases e : lk (tab n f) x with
    | none => rfl
    | some y =>
      have := (mem_tab w).mp (lk_mem e)
      rw [h] at this; cases this
theorem tab_len (n : Int) (f : PF) : (tab n f).length ≤ n.toNat := by
  unfold tab tabN
  exact Nat.le_trans (List.length_filterMap_le _ _) (by simp)
theorem vals_tab {n : Int} {f : PF} (w : WF n f) : ((tab n f).map (·.2)).Nodup := by
  have k := keys_tab n f
  have key : ∀ l : List (Int × Int), (∀ p ∈ l, f p.1 = some p.2) → (l.map (·.1)).Nodup → (l.map (·.2)).Nodup := by
    intro l
    induction l with
    | nil => intro _ _; exact List.nodup_nil
    | cons p r ih =>
      intro h nd
      rw [List.map_cons, List.nodup_cons] at nd ⊢
      refine ⟨fun hm => ?_, ih (fun q hq => h q (List.mem_cons_of_mem _ hq)) nd.2⟩
      obtain ⟨q, hq, e⟩ := List.mem_map.mp hm
      have h1 := h p List.mem_cons_self
      have h2 := h q (List.mem_cons_of_mem _ hq)
      rw [e] at h2
      have := w.inj _ _ _ h1 h2
      exact nd.1 (by rw [this]; exact List.mem_map.mpr ⟨q, hq, rfl⟩)
  exact key _ (fun p hp => (mem_tab w).mp hp) k
/-! ### the operations -/
def mul (f g : PF) : PF := fun x => (f x).bind g
def idn (n : Int) : PF := fun x => if 0 ≤ x ∧ x < n then some x else none
def emp : PF := fun _ => none
def inv (n : Int) (f : PF) : PF := fun y => ((tab n f).find? fun p => decide (p.2 = y)).map (·.1)
def le (f g : PF) : Prop := ∀ x y, f x = some y → g x = some y
theorem wf_mul {n : Int} {f g : PF} (wf : WF n f) (wg : WF n g) : WF n (mul f g) := by
  refine ⟨fun x y h => ?_, fun x x' y h h' => ?_⟩
  · unfold mul at h
    cases e : f x with
    | none => rw [e] at h; cases h
    | some z =>
      rw [e] at h
      have h1 := wf.dom x z e
      have h2 := wg.dom z y h
      omega
  · unfold mul at h h'
    cases e : f x with
    | none => rw [e] at h; cases h
    | some z =>
      cases e' : f x' with
      | none => rw [e'] at h'; cases h'
      | some z' =>
        rw [e] at h; rw [e'] at h'
        have := wg.inj z z' y h h'
        subst this
        exact wf.inj _ _ _ e e'
theorem wf_idn (n : Int) : WF n (idn n) := by
  refine ⟨fun x y h => ?_, fun x x' y h h' => ?_⟩
  · unfold idn at h
    split at h
    · cases h; omega
    · cases h
  · unfold idn at h h'
    split at h
    · split at h'
      · cases h; cases h'; rfl
      · cases h'
    · cases h
theorem inv_iff {n : Int} {f : PF} (w : WF n f) {x y : Int} : inv n f y = some x ↔ f x = some y := by
  unfold inv
  constructor
  · intro h
    cases e : (tab n f).find? (fun p => decide (p.2 = y)) with
    | none => rw [e] at h; cases h
    | some p =>
      rw [e] at h
      obtain ⟨a, b⟩ := p
      have h1 := List.find?_some e
      simp only [decide_eq_true_eq] at h1
      have h2 : a = x := Option.some.inj h
      subst h1 h2
      exact (mem_tab w).mp (List.mem_of_find?_eq_some e)
  · intro h
    have hm := (mem_tab w).mpr h
    cases e : (tab n f).find? (fun p => decide (p.2 = y)) with
    | none =>
      have := List.find?_eq_none.mp e _ hm
      simp at this
    | some p =>
      obtain ⟨a, b⟩ := p
      have h1 := List.find?_some e
      simp only [decide_eq_true_eq] at h1
      subst h1
      have h3 := (mem_tab w).mp (List.mem_of_find?_eq_some e)
      show some a = some x
      rw [w.inj _ _ _ h3 h]
theorem wf_inv {n : Int} {f : PF} (w : WF n f) : WF n (inv n f) := by
  refine ⟨fun y x h => ?_, fun y y' x h h' => ?_⟩
  · have := w.dom x y ((inv_iff w).mp h)
    omega
  · have h1 := (inv_iff w).mp h
    have h2 := (inv_iff w).mp h'
    rw [h1] at h2
    exact Option.some.inj h2
/-- a dict of pairs tells f -/
structure DI (l : List (Int × Int)) (f : PF) : Prop where
  nd : (l.map (·.1)).Nodup
  at_ : ∀ x, lk l x = f x
theorem DI.mem {l : List (Int × Int)} {f : PF} (d : DI l f) {x y : Int} : (x, y) ∈ l ↔ f x = some y := by
  rw [← d.at_]
  exact ⟨lk_some d.nd, lk_mem⟩
theorem di_tab {n : Int} {f : PF} (w : WF n f) : DI (tab n f) f := ⟨keys_tab n f, lk_tab w⟩
theorem DI.vals {n : Int} {l : List (Int × Int)} {f : PF} (d : DI l f) (w : WF n f) : (l.map (·.2)).Nodup := by
  obtain ⟨nd, _⟩ := id d
  have key : ∀ r : List (Int × Int), (∀ p ∈ r, f p.1 = some p.2) → (r.map (·.1)).Nodup → (r.map (·.2)).Nodup := by
    intro r
    induction r with
    | nil => intro _ _; exact List.nodup_nil
    | cons p r ih =>
      intro h nd
      rw [List.map_cons, List.nodup_cons] at nd ⊢
      refine ⟨fun hm => ?_, ih (fun q hq => h q (List.mem_cons_of_mem _ hq)) nd.2⟩
      obtain ⟨q, hq, e⟩ := List.mem_map.mp hm
      have h1 := h p List.mem_cons_self
      have h2 := h q (List.mem_cons_of_mem _ hq)
      rw [e] at h2
      have := w.inj _ _ _ h1 h2
      exact nd.1 (by rw [this]; exact List.mem_map.mpr ⟨q, hq, rfl⟩)
  exact key l (fun p hp => d.mem.mp hp) nd
theorem di_of {l : List (Int × Int)} {f : PF} (nd : (l.map (·.1)).Nodup) (h : ∀ x y, (x, y) ∈ l ↔ f x = some y) : DI l f := by
  refine ⟨nd, fun x => ?_⟩
  cases e : f x with
  | some y => exact lk_some nd ((h x y).mpr e)
  | none =>
    cases e2 : lk l x with
    | none => rfl
    | some y =>
      have := (h x y).mp (lk_mem e2)
      rw [e] at this; cases this
end PM
namespace PM
open U
/-! ### powers -/
def iter (f : PF) : Nat → PF
  | 0 => fun x => some x
  | k + 1 => fun x => (iter f k x).bind f
theorem iter_add (f : PF) (a b : Nat) (x : Int) : iter f (a + b) x = (iter f a x).bind (iter f b) := by
  induction b with
  | zero => simp [iter]
  | succ b ih =>
    show (iter f (a + b) x).bind f = _
    rw [ih]
    cases iter f a x <;> rfl
theorem iter_head (f : PF) (k : Nat) (x : Int) : iter f (k + 1) x = (f x).bind (iter f k) := by
  rw [Nat.add_comm, iter_add]; rfl
structure Row (f : PF) (e : Int) (r : List Int) : Prop where
  h0 : r[0]? = some e
  st : ∀ (i : Nat) (a b : Int), r[i]? = some a → r[i + 1]? = some b → f a = some b ∧ b ≠ e
theorem Row.ne {f : PF} {e : Int} {r : List Int} (w : ∀ x x' y, f x = some y → f x' = some y → x = x') (R : Row f e r) : ∀ (i k : Nat) (a : Int), r[i]? = some a → r[i + k + 1]? = some a → False
  | 0, k, a, h1, h2 => by
    rw [R.h0] at h1
    cases h1
    have hk : ∃ b, r[k]? = some b := by
      have : 0 + k + 1 < r.length := (List.getElem?_eq_some_iff.mp h2).1
      exact ⟨_, List.getElem?_eq_getElem (by omega)⟩
    obtain ⟨b, hb⟩ := hk
    have := R.st k b e hb (by rw [Nat.zero_add] at h2; exact h2)
    exact this.2 rfl
  | i + 1, k, a, h1, h2 => by
    have l1 : i + 1 < r.length := (List.getElem?_eq_some_iff.mp h1).1
    have l2 : i + 1 + k + 1 < r.length := (List.getElem?_eq_some_iff.mp h2).1
    obtain ⟨b, hb⟩ : ∃ b, r[i]? = some b := ⟨_, List.getElem?_eq_getElem (by omega)⟩
    obtain ⟨c, hc⟩ : ∃ c, r[i + k + 1]? = some c := ⟨_, List.getElem?_eq_getElem (by omega)⟩
    have e1 := (R.st i b a hb h1).1
    have h2' : r[i + k + 1 + 1]? = some a := by rw [show i + k + 1 + 1 = i + 1 + k + 1 by omega]; exact h2
    have e2 := (R.st (i + k + 1) c a hc h2').1
    have : b = c := w _ _ _ e1 e2
    subst this
    exact Row.ne w R i k b hb hc
theorem nodup_of_get {l : List Int} (h : ∀ (i k : Nat) (a : Int), l[i]? = some a → l[i + k + 1]? = some a → False) : l.Nodup := by
  induction l with
  | nil => exact List.nodup_nil
  | cons x r ih =>
    rw [List.nodup_cons]
    refine ⟨fun hm => ?_, ih fun i k a h1 h2 => ?_⟩
    · obtain ⟨j, hj⟩ := List.mem_iff_getElem?.mp hm
      exact h 0 j x rfl (by rw [Nat.zero_add]; exact hj)
    · refine h (i + 1) k a h1 ?_
      rw [show i + 1 + k + 1 = (i + k + 1) + 1 by omega]
      exact h2
theorem Row.nd {n : Int} {f : PF} {e : Int} {r : List Int} (w : WF n f) (R : Row f e r) : r.Nodup := nodup_of_get (R.ne w.inj)
theorem Row.dom {n : Int} {f : PF} {e : Int} {r : List Int} (w : WF n f) (R : Row f e r) (h1 : 0 ≤ e) (h2 : e < n) : ∀ x ∈ r, 0 ≤ x ∧ x < n := by
  intro x hx
  obtain ⟨i, hi⟩ := List.mem_iff_getElem?.mp hx
  cases i with
  | zero => rw [R.h0] at hi; cases hi; exact ⟨h1, h2⟩
  | succ i =>
    have l1 : i + 1 < r.length := (List.getElem?_eq_some_iff.mp hi).1
    obtain ⟨b, hb⟩ : ∃ b, r[i]? = some b := ⟨_, List.getElem?_eq_getElem (by omega)⟩
    have := w.dom _ _ (R.st i b x hb hi).1
    omega
theorem len_range {l : List Int} {n : Int} (nd : l.Nodup) (h : ∀ x ∈ l, 0 ≤ x ∧ x < n) : l.length ≤ n.toNat := by
  have : l.length ≤ ((List.range n.toNat).map fun (i : Nat) => (i : Int)).length := List.Nodup.length_le_of_subset nd (by
    intro x hx
    have := h x hx
    exact List.mem_map.mpr ⟨x.toNat, List.mem_range.mpr (by omega), Int.toNat_of_nonneg this.1⟩)
  simpa using this
theorem Row.more {f : PF} {e : Int} {pre : List Int} {z y : Int} (R : Row f e (pre ++ [z])) (h : f z = some y) (ne : y ≠ e) : Row f e (pre ++ [z] ++ [y]) := by
  refine ⟨?_, fun i a b h1 h2 => ?_⟩
  · rw [List.getElem?_append_left (by simp)]
    exact R.h0
  · by_cases hi : i + 1 < (pre ++ [z]).length
    · rw [List.getElem?_append_left hi] at h2
      rw [List.getElem?_append_left (by omega)] at h1
      exact R.st i a b h1 h2
    · have l2 : i + 1 < (pre ++ [z] ++ [y]).length := (List.getElem?_eq_some_iff.mp h2).1
      have e1 : i = pre.length := by simp at hi l2; omega
      subst e1
      rw [List.getElem?_append_left (by simp)] at h1
      have z1 : (pre ++ [z])[pre.length]? = some z := by simp
      rw [z1] at h1
      cases h1
      have z2 : (pre ++ [z] ++ [y])[pre.length + 1]? = some y := by simp
      rw [z2] at h2
      cases h2
      exact ⟨h, ne⟩
/-- f along an open row -/
theorem Row.openAt {f : PF} {e : Int} {r : List Int} (R : Row f e r) {z : Int} (hz : r[r.length - 1]? = some z) (hl : 0 < r.length) (ho : f z = none) (i : Nat) (a : Int) (hi : r[i]? = some a) : ∀ j : Nat, iter f j a = r[i + j]?
  | 0 => by rw [Nat.add_zero, hi]; rfl
  | j + 1 => by
    show (iter f j a).bind f = _
    rw [Row.openAt R hz hl ho i a hi j]
    cases e1 : r[i + j]? with
    | none =>
      have h1 := List.getElem?_eq_none_iff.mp e1
      exact (List.getElem?_eq_none_iff.mpr (by omega)).symm
    | some b =>
      show f b = _
      have l1 : i + j < r.length := (List.getElem?_eq_some_iff.mp e1).1
      cases e2 : r[i + (j + 1)]? with
      | some c => exact (R.st (i + j) b c e1 e2).1
      | none =>
        have h2 := List.getElem?_eq_none_iff.mp e2
        have : i + j = r.length - 1 := by omega
        rw [this, hz] at e1
        cases e1
        exact ho
/-- f along a closed row -/
theorem Row.closedAt {f : PF} {e : Int} {r : List Int} (R : Row f e r) {z : Int} (hz : r[r.length - 1]? = some z) (hl : 0 < r.length) (hc : f z = some e) (i : Nat) (a : Int) (hi : r[i]? = some a) : ∀ j : Nat, iter f j a = r[(i + j) % r.length]?
  | 0 => by
    have l1 : i < r.length := (List.getElem?_eq_some_iff.mp hi).1
    rw [Nat.add_zero, Nat.mod_eq_of_lt l1, hi]; rfl
  | j + 1 => by
    show (iter f j a).bind f = _
    rw [Row.closedAt R hz hl hc i a hi j]
    have l1 : (i + j) % r.length < r.length := Nat.mod_lt _ hl
    obtain ⟨b, e1⟩ : ∃ b, r[(i + j) % r.length]? = some b := ⟨_, List.getElem?_eq_getElem l1⟩
    rw [e1]
    show f b = _
    by_cases h : (i + j) % r.length = r.length - 1
    · rw [h, hz] at e1
      cases e1
      rw [hc]
      have : (i + (j + 1)) % r.length = 0 := by
        rw [show i + (j + 1) = (i + j) + 1 by omega, Nat.add_mod, h]
        by_cases h1 : r.length = 1
        · rw [h1]
        · rw [Nat.mod_eq_of_lt (show 1 < r.length by omega), show r.length - 1 + 1 = r.length by omega, Nat.mod_self]
      rw [this, R.h0]
    · have : (i + (j + 1)) % r.length = (i + j) % r.length + 1 := by
        rw [show i + (j + 1) = (i + j) + 1 by omega, Nat.add_mod]
        rw [Nat.mod_eq_of_lt (show 1 < r.length by omega), Nat.mod_eq_of_lt (by omega)]
      rw [this]
      obtain ⟨c, e2⟩ : ∃ c, r[(i + j) % r.length + 1]? = some c := ⟨_, List.getElem?_eq_getElem (by omega)⟩
      rw [e2]
      exact (R.st _ b c e1 e2).1
theorem wf_iter {n : Int} {f : PF} (w : WF n f) : ∀ k : Nat, WF n (iter f (k + 1))
  | 0 => w
  | k + 1 => wf_mul (wf_iter w k) w
end PM
namespace PM
open U
/-! ### the rules of the operators -/
theorem pf_ext {f g : PF} (h : ∀ x y, f x = some y ↔ g x = some y) : f = g := by
  funext x
  cases e : f x with
  | some y => exact ((h x y).mp e).symm
  | none =>
    cases e2 : g x with
    | none => rfl
    | some y => rw [(h x y).mpr e2] at e; cases e
theorem mul_iff {f g : PF} {x z : Int} : mul f g x = some z ↔ ∃ y, f x = some y ∧ g y = some z := by
  unfold mul
  cases e : f x with
  | none => simp
  | some y => simp
theorem idn_iff {n x y : Int} : idn n x = some y ↔ x = y ∧ 0 ≤ x ∧ x < n := by
  unfold idn
  split
  · rename_i h
    constructor
    · intro e; cases e; exact ⟨rfl, h⟩
    · rintro ⟨rfl, _⟩; rfl
  · rename_i h
    constructor
    · intro e; cases e
    · rintro ⟨_, q⟩; exact absurd q h
/-! ### parts -/
/-! ### powers -/
end PM
namespace PM
open U
/-! ### rows told by their first element -/
def IsRow (f : PF) (e : Int) (r : List Int) : Prop := ∃ pre z, r = pre ++ [z] ∧ Row f e r ∧ (f z = none ∨ f z = some e)
theorem IsRow.get {f : PF} {e : Int} {r r' : List Int} (h : IsRow f e r) (h' : IsRow f e r') : ∀ (i : Nat) (a : Int), r[i]? = some a → r'[i]? = some a
  | 0, a, e1 => by
    obtain ⟨_, _, _, R, _⟩ := h
    obtain ⟨_, _, _, R', _⟩ := h'
    rw [R.h0] at e1
    rw [R'.h0]
    exact e1
  | i + 1, a, e1 => by
    have ih := IsRow.get h h' i
    obtain ⟨_, _, _, R, _⟩ := h
    obtain ⟨pre', z', q', R', st'⟩ := h'
    have l1 : i + 1 < r.length := (List.getElem?_eq_some_iff.mp e1).1
    obtain ⟨b, hb⟩ : ∃ b, r[i]? = some b := ⟨_, List.getElem?_eq_getElem (by omega)⟩
    obtain ⟨f1, ne⟩ := R.st i b a hb e1
    have hb' := ih b hb
    cases e2 : r'[i + 1]? with
    | some c =>
      have := (R'.st i b c hb' e2).1
      rw [f1] at this
      exact this.symm
    | none =>
      exfalso
      have l2 : i < r'.length := (List.getElem?_eq_some_iff.mp hb').1
      have l3 := List.getElem?_eq_none_iff.mp e2
      subst q'
      rw [List.length_append, List.length_singleton] at l2 l3
      have ei : i = pre'.length := by omega
      subst ei
      have : (pre' ++ [z'])[pre'.length]? = some z' := by simp
      rw [this] at hb'
      cases hb'
      rcases st' with q | q
      · rw [f1] at q; cases q
      · rw [f1] at q; exact ne (Option.some.inj q)
theorem IsRow.uniq {f : PF} {e : Int} {r r' : List Int} (h : IsRow f e r) (h' : IsRow f e r') : r = r' := by
  apply List.ext_getElem?
  intro i
  cases e1 : r[i]? with
  | some a => exact (h.get h' i a e1).symm
  | none =>
    cases e2 : r'[i]? with
    | none => rfl
    | some a => rw [h'.get h i a e2] at e1; cases e1
theorem ex_row {n : Int} {f : PF} {e : Int} (w : WF n f) (h1 : 0 ≤ e) (h2 : e < n) : ∃ r, IsRow f e r := by
  refine Classical.byContradiction fun no => ?_
  have key : ∀ k : Nat, ∃ pre z, pre.length = k ∧ Row f e (pre ++ [z]) := by
    intro k
    induction k with
    | zero => exact ⟨[], e, rfl, rfl, fun i a b h1 h2 => by simp at h2⟩
    | succ k ih =>
      obtain ⟨pre, z, hl, R⟩ := ih
      cases hz : f z with
      | none => exact absurd ⟨_, pre, z, rfl, R, .inl hz⟩ no
      | some y =>
        by_cases hy : y = e
        · subst hy; exact absurd ⟨_, pre, z, rfl, R, .inr hz⟩ no
        · exact ⟨pre ++ [z], y, by simp [hl], R.more hz hy⟩
  obtain ⟨pre, z, hl, R⟩ := key n.toNat
  have := len_range (R.nd w) (R.dom w h1 h2)
  rw [List.length_append, List.length_singleton] at this
  omega
open Classical in
noncomputable def rowN (f : PF) (e : Int) : List Int := if h : ∃ r, IsRow f e r then h.choose else []
theorem rowN_eq {f : PF} {e : Int} {r : List Int} (h : IsRow f e r) : rowN f e = r := by
  have hx : ∃ r, IsRow f e r := ⟨r, h⟩
  unfold rowN
  rw [dif_pos hx]
  exact hx.choose_spec.uniq h
theorem rowN_is {n : Int} {f : PF} {e : Int} (w : WF n f) (h1 : 0 ≤ e) (h2 : e < n) : IsRow f e (rowN f e) := by
  obtain ⟨r, h⟩ := ex_row w h1 h2
  rw [rowN_eq h]
  exact h
theorem IsRow.head {f : PF} {e : Int} {r : List Int} (h : IsRow f e r) : r[0]? = some e := by
  obtain ⟨_, _, _, R, _⟩ := h
  exact R.h0
theorem IsRow.mem {f : PF} {e : Int} {r : List Int} (h : IsRow f e r) : e ∈ r := List.mem_of_getElem? h.head
theorem IsRow.dom {n : Int} {f : PF} {e : Int} {r : List Int} (w : WF n f) (h : IsRow f e r) (h1 : 0 ≤ e) (h2 : e < n) : ∀ x ∈ r, 0 ≤ x ∧ x < n := by
  obtain ⟨_, _, _, R, _⟩ := h
  exact R.dom w h1 h2
theorem IsRow.nd {n : Int} {f : PF} {e : Int} {r : List Int} (w : WF n f) (h : IsRow f e r) : r.Nodup := by
  obtain ⟨_, _, _, R, _⟩ := h
  exact R.nd w
/-! ### which rows are begun -/
noncomputable def seenL (f : PF) (s : List Int) : List Int := (s.map (rowN f)).flatten
theorem mem_seenL {f : PF} {s : List Int} {x : Int} : x ∈ seenL f s ↔ ∃ e ∈ s, x ∈ rowN f e := by
  unfold seenL
  rw [List.mem_flatten]
  constructor
  · rintro ⟨r, hr, hx⟩
    obtain ⟨e, he, rfl⟩ := List.mem_map.mp hr
    exact ⟨e, he, hx⟩
  · rintro ⟨e, he, hx⟩
    exact ⟨_, List.mem_map.mpr ⟨e, he, rfl⟩, hx⟩
noncomputable def stp (f : PF) (s : List Int) (x : Int) : List Int := if x ∈ seenL f s then s else s ++ [x]
def rgI (n : Nat) : List Int := (List.range n).map fun (i : Nat) => (i : Int)
theorem mem_rgI {n : Nat} {x : Int} : x ∈ rgI n ↔ 0 ≤ x ∧ x < (n : Int) := by
  unfold rgI
  rw [List.mem_map]
  constructor
  · rintro ⟨i, hi, rfl⟩
    rw [List.mem_range] at hi
    omega
  · rintro ⟨h1, h2⟩
    exact ⟨x.toNat, List.mem_range.mpr (by omega), by omega⟩
theorem rgI_succ (n : Nat) : rgI (n + 1) = rgI n ++ [(n : Int)] := by
  unfold rgI
  rw [List.range_succ, List.map_append]
  rfl
theorem rgI_lt (n : Nat) : (rgI n).Pairwise (· < ·) := by
  induction n with
  | zero => exact List.Pairwise.nil
  | succ n ih =>
    rw [rgI_succ, List.pairwise_append]
    refine ⟨ih, List.pairwise_singleton _ _, fun a ha b hb => ?_⟩
    have := mem_rgI.mp ha
    rw [List.mem_singleton] at hb
    omega
theorem nodup_of_lt {l : List Int} (h : l.Pairwise (· < ·)) : l.Nodup := List.Pairwise.imp (fun {a b} h => by omega) h
/-! ### closed rows -/
/-! ### all parts -/
/-! ### ordered by the first elements -/
end PM
namespace PM
open U
/-! ### powers by the law's own way; great exponents -/
theorem id_mul' {n : Int} {f : PF} (w : WF n f) : mul (idn n) f = f := by
  refine pf_ext fun x z => ?_
  rw [mul_iff]
  constructor
  · rintro ⟨y, h1, h2⟩
    obtain ⟨rfl, _⟩ := idn_iff.mp h1
    exact h2
  · intro h
    have := w.dom x z h
    exact ⟨x, idn_iff.mpr ⟨rfl, this.1, this.2.1⟩, h⟩
def pk (n : Int) (f : PF) : Nat → PF
  | 0 => idn n
  | k + 1 => iter f (k + 1)
theorem pk_succ {n : Int} {f : PF} (w : WF n f) (k : Nat) : mul (pk n f k) f = pk n f (k + 1) := by
  cases k with
  | zero => exact id_mul' w
  | succ k => rfl
theorem wf_pk {n : Int} {f : PF} (w : WF n f) : ∀ k : Nat, WF n (pk n f k)
  | 0 => wf_idn n
  | k + 1 => wf_iter w k
end PM
namespace PM
open U
/-! ### where powers repeat -/
end PM
namespace My
open PySem L2
def top (i : Nat) : Stmt := PySem.Challenge.pw_chainmaps_k72_clones_and_equal_sessions.main.body.getD i (.Pass ⟨0, 0, 0, 0⟩)
abbrev s_is_integer : Stmt := top 16
abbrev n_is_integer : List Str := ["value"]
theorem sc_is_integer : FnScope n_is_integer ["value"] (defScope s_is_integer) := ⟨rfl, rfl, rfl, by decide +kernel, rfl, by decide +kernel, by decide +kernel⟩
abbrev s_in_range : Stmt := top 17
abbrev n_in_range : List Str := ["value", "least", "most"]
theorem sc_in_range : FnScope n_in_range ["value", "least", "most"] (defScope s_in_range) := ⟨rfl, rfl, rfl, by decide +kernel, rfl, by decide +kernel, by decide +kernel⟩
abbrev s_check_size : Stmt := top 18
abbrev n_check_size : List Str := ["size"]
theorem sc_check_size : FnScope n_check_size ["size"] (defScope s_check_size) := ⟨rfl, rfl, rfl, by decide +kernel, rfl, by decide +kernel, by decide +kernel⟩
abbrev s_check_elements : Stmt := top 19
abbrev n_check_elements : List Str := ["size", "points", "seen", "element"]
theorem sc_check_elements : FnScope n_check_elements ["size", "points"] (defScope s_check_elements) := ⟨rfl, rfl, rfl, by decide +kernel, rfl, by decide +kernel, by decide +kernel⟩
abbrev s_are_arrows : Stmt := top 20
abbrev n_are_arrows : List Str := ["size", "arrows", "targets", "source", "target"]
theorem sc_are_arrows : FnScope n_are_arrows ["size", "arrows"] (defScope s_are_arrows) := ⟨rfl, rfl, rfl, by decide +kernel, rfl, by decide +kernel, by decide +kernel⟩
abbrev s_common_size : Stmt := top 21
abbrev n_common_size : List Str := ["one", "other"]
theorem sc_common_size : FnScope n_common_size ["one", "other"] (defScope s_common_size) := ⟨rfl, rfl, rfl, by decide +kernel, rfl, by decide +kernel, by decide +kernel⟩
abbrev s_row_from : Stmt := top 22
abbrev n_row_from : List Str := ["arrows", "element", "row"]
theorem sc_row_from : FnScope n_row_from ["arrows", "element"] (defScope s_row_from) := ⟨rfl, rfl, rfl, by decide +kernel, rfl, by decide +kernel, by decide +kernel⟩
abbrev s_moved : Stmt := top 23
abbrev n_moved : List Str := ["arrows", "steps", "found", "seen", "targets", "source", "row", "closed", "place", "element", "target"]
theorem sc_moved : FnScope n_moved ["arrows", "steps"] (defScope s_moved) := ⟨rfl, rfl, rfl, by decide +kernel, rfl, by decide +kernel, by decide +kernel⟩
abbrev s_check_map : Stmt := top 27
abbrev n_check_map : List Str := ["value"]
theorem sc_check_map : FnScope n_check_map ["value"] (defScope s_check_map) := ⟨rfl, rfl, rfl, by decide +kernel, rfl, by decide +kernel, by decide +kernel⟩
abbrev s_check_maps : Stmt := top 28
abbrev n_check_maps : List Str := ["one", "other"]
theorem sc_check_maps : FnScope n_check_maps ["one", "other"] (defScope s_check_maps) := ⟨rfl, rfl, rfl, by decide +kernel, rfl, by decide +kernel, by decide +kernel⟩
abbrev s_is_step : Stmt := top 30
abbrev n_is_step : List Str := ["size", "value", "element"]
theorem sc_is_step : FnScope n_is_step ["size", "value"] (defScope s_is_step) := ⟨rfl, rfl, rfl, by decide +kernel, rfl, by decide +kernel, by decide +kernel⟩
abbrev s_first_invalid : Stmt := top 31
abbrev n_first_invalid : List Str := ["size", "value", "position", "step"]
theorem sc_first_invalid : FnScope n_first_invalid ["size", "value"] (defScope s_first_invalid) := ⟨rfl, rfl, rfl, by decide +kernel, rfl, by decide +kernel, by decide +kernel⟩
abbrev s_after_list : Stmt := top 32
abbrev n_after_list : List Str := ["arrows", "steps", "found", "places", "step", "one", "other", "source", "target"]
theorem sc_after_list : FnScope n_after_list ["arrows", "steps"] (defScope s_after_list) := ⟨rfl, rfl, rfl, by decide +kernel, rfl, by decide +kernel, by decide +kernel⟩
abbrev s_is_name : Stmt := top 35
abbrev n_is_name : List Str := ["value", "sign"]
theorem sc_is_name : FnScope n_is_name ["value"] (defScope s_is_name) := ⟨rfl, rfl, rfl, by decide +kernel, rfl, by decide +kernel, by decide +kernel⟩
abbrev s_check_user : Stmt := top 36
abbrev n_check_user : List Str := ["value"]
theorem sc_check_user : FnScope n_check_user ["value"] (defScope s_check_user) := ⟨rfl, rfl, rfl, by decide +kernel, rfl, by decide +kernel, by decide +kernel⟩
abbrev s_Map__init : Stmt := inClass (top 24) 0
abbrev n_Map__init : List Str := ["self", "size", "arrows", "source"]
theorem sc_Map__init : FnScope n_Map__init ["self", "size", "arrows"] (defScope s_Map__init) := ⟨rfl, rfl, rfl, by decide +kernel, rfl, by decide +kernel, by decide +kernel⟩
abbrev s_Map_identity : Stmt := inClass (top 24) 1
abbrev n_Map_identity : List Str := ["cls", "size", "element"]
theorem sc_Map_identity : FnScope n_Map_identity ["cls", "size"] (defScope s_Map_identity) := ⟨rfl, rfl, rfl, by decide +kernel, rfl, by decide +kernel, by decide +kernel⟩
abbrev s_Map_cycle : Stmt := inClass (top 24) 4
abbrev n_Map_cycle : List Str := ["cls", "size", "points"]
theorem sc_Map_cycle : FnScope n_Map_cycle ["cls", "size", "points"] (defScope s_Map_cycle) := ⟨rfl, rfl, rfl, by decide +kernel, rfl, by decide +kernel, by decide +kernel⟩
abbrev s_Map_size : Stmt := inClass (top 24) 6
abbrev n_Map_size : List Str := ["self"]
theorem sc_Map_size : FnScope n_Map_size ["self"] (defScope s_Map_size) := ⟨rfl, rfl, rfl, by decide +kernel, rfl, by decide +kernel, by decide +kernel⟩
abbrev s_Map_arrows : Stmt := inClass (top 24) 7
abbrev n_Map_arrows : List Str := ["self"]
theorem sc_Map_arrows : FnScope n_Map_arrows ["self"] (defScope s_Map_arrows) := ⟨rfl, rfl, rfl, by decide +kernel, rfl, by decide +kernel, by decide +kernel⟩
abbrev s_Map__mul : Stmt := inClass (top 24) 8
abbrev n_Map__mul : List Str := ["self", "other", "size", "later", "source", "target"]
theorem sc_Map__mul : FnScope n_Map__mul ["self", "other"] (defScope s_Map__mul) := ⟨rfl, rfl, rfl, by decide +kernel, rfl, by decide +kernel, by decide +kernel⟩
abbrev s_Map__invert : Stmt := inClass (top 24) 9
abbrev n_Map__invert : List Str := ["self", "source", "target"]
theorem sc_Map__invert : FnScope n_Map__invert ["self"] (defScope s_Map__invert) := ⟨rfl, rfl, rfl, by decide +kernel, rfl, by decide +kernel, by decide +kernel⟩
abbrev s_Map_power : Stmt := inClass (top 24) 10
abbrev n_Map_power : List Str := ["self", "exponent", "arrows", "source", "target"]
theorem sc_Map_power : FnScope n_Map_power ["self", "exponent"] (defScope s_Map_power) := ⟨rfl, rfl, rfl, by decide +kernel, rfl, by decide +kernel, by decide +kernel⟩
abbrev s_Map__eq : Stmt := inClass (top 24) 25
abbrev n_Map__eq : List Str := ["self", "other"]
theorem sc_Map__eq : FnScope n_Map__eq ["self", "other"] (defScope s_Map__eq) := ⟨rfl, rfl, rfl, by decide +kernel, rfl, by decide +kernel, by decide +kernel⟩
abbrev s_Map__len : Stmt := inClass (top 24) 24
abbrev n_Map__len : List Str := ["self"]
theorem sc_Map__len : FnScope n_Map__len ["self"] (defScope s_Map__len) := ⟨rfl, rfl, rfl, by decide +kernel, rfl, by decide +kernel, by decide +kernel⟩
abbrev s_Map__repr : Stmt := inClass (top 24) 26
abbrev n_Map__repr : List Str := ["self"]
theorem sc_Map__repr : FnScope n_Map__repr ["self"] (defScope s_Map__repr) := ⟨rfl, rfl, rfl, by decide +kernel, rfl, by decide +kernel, by decide +kernel⟩
abbrev s_Session__init : Stmt := inClass (top 37) 0
abbrev n_Session__init : List Str := ["self", "size"]
theorem sc_Session__init : FnScope n_Session__init ["self", "size"] (defScope s_Session__init) := ⟨rfl, rfl, rfl, by decide +kernel, rfl, by decide +kernel, by decide +kernel⟩
abbrev s_Session_present : Stmt := inClass (top 37) 1
abbrev n_Session_present : List Str := ["self"]
theorem sc_Session_present : FnScope n_Session_present ["self"] (defScope s_Session_present) := ⟨rfl, rfl, rfl, by decide +kernel, rfl, by decide +kernel, by decide +kernel⟩
abbrev s_Session_log : Stmt := inClass (top 37) 2
abbrev n_Session_log : List Str := ["self"]
theorem sc_Session_log : FnScope n_Session_log ["self"] (defScope s_Session_log) := ⟨rfl, rfl, rfl, by decide +kernel, rfl, by decide +kernel, by decide +kernel⟩
abbrev s_Session_check_next : Stmt := inClass (top 37) 3
abbrev n_Session_check_next : List Str := ["self", "later"]
theorem sc_Session_check_next : FnScope n_Session_check_next ["self", "later"] (defScope s_Session_check_next) := ⟨rfl, rfl, rfl, by decide +kernel, rfl, by decide +kernel, by decide +kernel⟩
abbrev s_Session_change_to : Stmt := inClass (top 37) 4
abbrev n_Session_change_to : List Str := ["self", "user", "action", "later"]
theorem sc_Session_change_to : FnScope n_Session_change_to ["self", "user", "action", "later"] (defScope s_Session_change_to) := ⟨rfl, rfl, rfl, by decide +kernel, rfl, by decide +kernel, by decide +kernel⟩
abbrev s_Session_apply : Stmt := inClass (top 37) 5
abbrev n_Session_apply : List Str := ["self", "user", "factor"]
theorem sc_Session_apply : FnScope n_Session_apply ["self", "user", "factor"] (defScope s_Session_apply) := ⟨rfl, rfl, rfl, by decide +kernel, rfl, by decide +kernel, by decide +kernel⟩
abbrev s_Session_raise_to : Stmt := inClass (top 37) 6
abbrev n_Session_raise_to : List Str := ["self", "user", "exponent"]
theorem sc_Session_raise_to : FnScope n_Session_raise_to ["self", "user", "exponent"] (defScope s_Session_raise_to) := ⟨rfl, rfl, rfl, by decide +kernel, rfl, by decide +kernel, by decide +kernel⟩
abbrev s_Session_do_steps : Stmt := inClass (top 37) 7
abbrev n_Session_do_steps : List Str := ["self", "user", "steps", "problem", "later"]
theorem sc_Session_do_steps : FnScope n_Session_do_steps ["self", "user", "steps"] (defScope s_Session_do_steps) := ⟨rfl, rfl, rfl, by decide +kernel, rfl, by decide +kernel, by decide +kernel⟩
abbrev s_Session_undo : Stmt := inClass (top 37) 8
abbrev n_Session_undo : List Str := ["self", "user"]
theorem sc_Session_undo : FnScope n_Session_undo ["self", "user"] (defScope s_Session_undo) := ⟨rfl, rfl, rfl, by decide +kernel, rfl, by decide +kernel, by decide +kernel⟩
abbrev s_Session_at : Stmt := inClass (top 37) 9
abbrev n_Session_at : List Str := ["self", "number"]
theorem sc_Session_at : FnScope n_Session_at ["self", "number"] (defScope s_Session_at) := ⟨rfl, rfl, rfl, by decide +kernel, rfl, by decide +kernel, by decide +kernel⟩
abbrev s_Session_fresh : Stmt := inClass (top 37) 11
abbrev n_Session_fresh : List Str := ["self"]
theorem sc_Session_fresh : FnScope n_Session_fresh ["self"] (defScope s_Session_fresh) := ⟨rfl, rfl, rfl, by decide +kernel, rfl, by decide +kernel, by decide +kernel⟩
abbrev s_Session_clone : Stmt := inClass (top 37) 12
abbrev n_Session_clone : List Str := ["self", "twin"]
theorem sc_Session_clone : FnScope n_Session_clone ["self"] (defScope s_Session_clone) := ⟨rfl, rfl, rfl, by decide +kernel, rfl, by decide +kernel, by decide +kernel⟩
abbrev s_Session__eq : Stmt := inClass (top 37) 13
abbrev n_Session__eq : List Str := ["self", "other"]
theorem sc_Session__eq : FnScope n_Session__eq ["self", "other"] (defScope s_Session__eq) := ⟨rfl, rfl, rfl, by decide +kernel, rfl, by decide +kernel, by decide +kernel⟩
abbrev s_Session__len : Stmt := inClass (top 37) 14
abbrev n_Session__len : List Str := ["self"]
theorem sc_Session__len : FnScope n_Session__len ["self"] (defScope s_Session__len) := ⟨rfl, rfl, rfl, by decide +kernel, rfl, by decide +kernel, by decide +kernel⟩
abbrev s_Session__repr : Stmt := inClass (top 37) 15
abbrev n_Session__repr : List Str := ["self"]
theorem sc_Session__repr : FnScope n_Session__repr ["self"] (defScope s_Session__repr) := ⟨rfl, rfl, rfl, by decide +kernel, rfl, by decide +kernel, by decide +kernel⟩
abbrev s_KeepingSession__init : Stmt := inClass (top 38) 0
abbrev n_KeepingSession__init : List Str := ["self", "size", "least", "__class__"]
theorem sc_KeepingSession__init : NdefX.NScope n_KeepingSession__init ["self", "size", "least"] ["__class__"] (defScope s_KeepingSession__init) := NdefX.nscope_by (by decide +kernel)
abbrev s_KeepingSession_least : Stmt := inClass (top 38) 1
abbrev n_KeepingSession_least : List Str := ["self"]
theorem sc_KeepingSession_least : FnScope n_KeepingSession_least ["self"] (defScope s_KeepingSession_least) := ⟨rfl, rfl, rfl, by decide +kernel, rfl, by decide +kernel, by decide +kernel⟩
abbrev s_KeepingSession_check_next : Stmt := inClass (top 38) 2
abbrev n_KeepingSession_check_next : List Str := ["self", "later", "__class__"]
theorem sc_KeepingSession_check_next : NdefX.NScope n_KeepingSession_check_next ["self", "later"] ["__class__"] (defScope s_KeepingSession_check_next) := NdefX.nscope_by (by decide +kernel)
abbrev s_KeepingSession_fresh : Stmt := inClass (top 38) 3
abbrev n_KeepingSession_fresh : List Str := ["self"]
theorem sc_KeepingSession_fresh : FnScope n_KeepingSession_fresh ["self"] (defScope s_KeepingSession_fresh) := ⟨rfl, rfl, rfl, by decide +kernel, rfl, by decide +kernel, by decide +kernel⟩
abbrev s_KeepingSession__repr : Stmt := inClass (top 38) 4
abbrev n_KeepingSession__repr : List Str := ["self"]
theorem sc_KeepingSession__repr : FnScope n_KeepingSession__repr ["self"] (defScope s_KeepingSession__repr) := ⟨rfl, rfl, rfl, by decide +kernel, rfl, by decide +kernel, by decide +kernel⟩
abbrev s_NothingToUndo__init : Stmt := inClass (top 12) 0
abbrev n_NothingToUndo__init : List Str := ["self", "user"]
theorem sc_NothingToUndo__init : FnScope n_NothingToUndo__init ["self", "user"] (defScope s_NothingToUndo__init) := ⟨rfl, rfl, rfl, by decide +kernel, rfl, by decide +kernel, by decide +kernel⟩
abbrev s_NotLast__init : Stmt := inClass (top 11) 0
abbrev n_NotLast__init : List Str := ["self", "user"]
theorem sc_NotLast__init : FnScope n_NotLast__init ["self", "user"] (defScope s_NotLast__init) := ⟨rfl, rfl, rfl, by decide +kernel, rfl, by decide +kernel, by decide +kernel⟩
abbrev s_TooFew__init : Stmt := inClass (top 13) 0
abbrev n_TooFew__init : List Str := ["self", "number"]
theorem sc_TooFew__init : FnScope n_TooFew__init ["self", "number"] (defScope s_TooFew__init) := ⟨rfl, rfl, rfl, by decide +kernel, rfl, by decide +kernel, by decide +kernel⟩
abbrev s_InvalidNumber__init : Stmt := inClass (top 5) 0
abbrev s_InvalidSize__init : Stmt := inClass (top 3) 0
abbrev n_InvalidSize__init : List Str := ["self", "value"]
theorem sc_InvalidSize__init : FnScope n_InvalidSize__init ["self", "value"] (defScope s_InvalidSize__init) := ⟨rfl, rfl, rfl, by decide +kernel, rfl, by decide +kernel, by decide +kernel⟩
abbrev s_InvalidElement__init : Stmt := inClass (top 4) 0
abbrev n_InvalidElement__init : List Str := ["self", "value"]
theorem sc_InvalidElement__init : FnScope n_InvalidElement__init ["self", "value"] (defScope s_InvalidElement__init) := ⟨rfl, rfl, rfl, by decide +kernel, rfl, by decide +kernel, by decide +kernel⟩
abbrev s_InvalidMap__init : Stmt := inClass (top 2) 0
abbrev n_InvalidMap__init : List Str := ["self", "part"]
theorem sc_InvalidMap__init : FnScope n_InvalidMap__init ["self", "part"] (defScope s_InvalidMap__init) := ⟨rfl, rfl, rfl, by decide +kernel, rfl, by decide +kernel, by decide +kernel⟩
abbrev s_SizeMismatch__init : Stmt := inClass (top 7) 0
abbrev s_l_hand : Stmt := top 40
abbrev n_l_hand : List Str := ["_law_script", "_law_k", "_law_cell", "_law_seed"]
theorem sc_l_hand : FnScope n_l_hand ["_law_script", "_law_k"] (defScope s_l_hand) := ⟨rfl, rfl, rfl, by decide +kernel, rfl, by decide +kernel, by decide +kernel⟩
abbrev s_l_draw : Stmt := top 41
abbrev n_l_draw : List Str := ["_law_pool", "_law_size", "_law_found"]
theorem sc_l_draw : FnScope n_l_draw ["_law_pool", "_law_size"] (defScope s_l_draw) := ⟨rfl, rfl, rfl, by decide +kernel, rfl, by decide +kernel, by decide +kernel⟩
abbrev s_l_arrows : Stmt := top 42
abbrev n_l_arrows : List Str := ["_law_pool", "_law_size", "_law_left", "_law_found", "_law_rare", "_law_source"]
theorem sc_l_arrows : FnScope n_l_arrows ["_law_pool", "_law_size"] (defScope s_l_arrows) := ⟨rfl, rfl, rfl, by decide +kernel, rfl, by decide +kernel, by decide +kernel⟩
abbrev s_l_product : Stmt := top 43
abbrev n_l_product : List Str := ["_law_one", "_law_other", "_law_source"]
theorem sc_l_product : FnScope n_l_product ["_law_one", "_law_other"] (defScope s_l_product) := ⟨rfl, rfl, rfl, by decide +kernel, rfl, by decide +kernel, by decide +kernel⟩
abbrev s_l_full : Stmt := top 44
abbrev n_l_full : List Str := ["_law_size", "_law_source"]
theorem sc_l_full : FnScope n_l_full ["_law_size"] (defScope s_l_full) := ⟨rfl, rfl, rfl, by decide +kernel, rfl, by decide +kernel, by decide +kernel⟩
abbrev s_l_inverse : Stmt := top 45
abbrev n_l_inverse : List Str := ["_law_table", "_law_source"]
theorem sc_l_inverse : FnScope n_l_inverse ["_law_table"] (defScope s_l_inverse) := ⟨rfl, rfl, rfl, by decide +kernel, rfl, by decide +kernel, by decide +kernel⟩
abbrev s_l_power : Stmt := top 46
abbrev n_l_power : List Str := ["_law_table", "_law_size", "_law_exponent", "_law_found", "_law_turn"]
theorem sc_l_power : FnScope n_l_power ["_law_table", "_law_size", "_law_exponent"] (defScope s_l_power) := ⟨rfl, rfl, rfl, by decide +kernel, rfl, by decide +kernel, by decide +kernel⟩
abbrev s_l_step : Stmt := top 47
abbrev n_l_step : List Str := ["_law_pool", "_law_size", "_law_one"]
theorem sc_l_step : FnScope n_l_step ["_law_pool", "_law_size"] (defScope s_l_step) := ⟨rfl, rfl, rfl, by decide +kernel, rfl, by decide +kernel, by decide +kernel⟩
abbrev s_l_stepped : Stmt := top 48
abbrev n_l_stepped : List Str := ["_law_table", "_law_step_here", "_law_found", "_law_names", "_law_source"]
theorem sc_l_stepped : FnScope n_l_stepped ["_law_table", "_law_step_here"] (defScope s_l_stepped) := ⟨rfl, rfl, rfl, by decide +kernel, rfl, by decide +kernel, by decide +kernel⟩
abbrev s_l_caught : Stmt := top 49
abbrev n_l_caught : List Str := ["_law_call", "e"]
theorem sc_l_caught : FnScope n_l_caught ["_law_call"] (defScope s_l_caught) := ⟨rfl, rfl, rfl, by decide +kernel, rfl, by decide +kernel, by decide +kernel⟩
abbrev s_l_act : Stmt := top 50
abbrev n_l_act : List Str := ["_law_pool", "_law_session", "_law_model_here", "_law_user_here", "_law_size", "_law_table", "_law_way", "_law_factor", "_law_later", "_law_told", "_law_exponent", "_law_moves", "_law_step_here", "_law_turn"]
theorem sc_l_act : FnScope n_l_act ["_law_pool", "_law_session", "_law_model_here", "_law_user_here"] (defScope s_l_act) := ⟨rfl, rfl, rfl, by decide +kernel, rfl, by decide +kernel, by decide +kernel⟩
abbrev s_l_undone : Stmt := top 51
abbrev n_l_undone : List Str := ["_law_session", "_law_model_here", "_law_user_here", "_law_told", "_law_last"]
theorem sc_l_undone : FnScope n_l_undone ["_law_session", "_law_model_here", "_law_user_here"] (defScope s_l_undone) := ⟨rfl, rfl, rfl, by decide +kernel, rfl, by decide +kernel, by decide +kernel⟩
abbrev s_l_shows : Stmt := top 52
abbrev n_l_shows : List Str := ["_law_session", "_law_model_here", "_law_present", "_law_number"]
theorem sc_l_shows : FnScope n_l_shows ["_law_session", "_law_model_here"] (defScope s_l_shows) := ⟨rfl, rfl, rfl, by decide +kernel, rfl, by decide +kernel, by decide +kernel⟩
abbrev s_l_model : Stmt := top 53
abbrev n_l_model : List Str := ["_law_size"]
theorem sc_l_model : FnScope n_l_model ["_law_size"] (defScope s_l_model) := ⟨rfl, rfl, rfl, by decide +kernel, rfl, by decide +kernel, by decide +kernel⟩
abbrev s_l_user : Stmt := top 54
abbrev n_l_user : List Str := ["_law_pool"]
theorem sc_l_user : FnScope n_l_user ["_law_pool"] (defScope s_l_user) := ⟨rfl, rfl, rfl, by decide +kernel, rfl, by decide +kernel, by decide +kernel⟩
abbrev s_l_same : Stmt := top 55
abbrev n_l_same : List Str := ["_law_one", "_law_other"]
theorem sc_l_same : FnScope n_l_same ["_law_one", "_law_other"] (defScope s_l_same) := ⟨rfl, rfl, rfl, by decide +kernel, rfl, by decide +kernel, by decide +kernel⟩
abbrev s_l_unlike : Stmt := top 56
abbrev n_l_unlike : List Str := ["_law_one", "_law_other", "_law_keeping_here", "_law_ring"]
theorem sc_l_unlike : FnScope n_l_unlike [] (defScope s_l_unlike) := ⟨rfl, rfl, rfl, by decide +kernel, rfl, by decide +kernel, by decide +kernel⟩
abbrev s_l_keeping : Stmt := top 57
abbrev n_l_keeping : List Str := ["_law_one", "_law_twin", "e"]
theorem sc_l_keeping : FnScope n_l_keeping [] (defScope s_l_keeping) := ⟨rfl, rfl, rfl, by decide +kernel, rfl, by decide +kernel, by decide +kernel⟩
abbrev s_law : Stmt := top 58
abbrev n_law : List Str := ["_law_script", "_law_k", "_law_pool", "_law_size", "_law_one", "_law_model_here", "_law_turn", "_law_some", "_law_models", "_law_at", "_law_user_here", "_law_text"]
theorem sc_law : FnScope n_law ["_law_script"] (defScope s_law) := ⟨rfl, rfl, rfl, by decide +kernel, rfl, by decide +kernel, by decide +kernel⟩
def fileOf (vs : Array Value) : Option Str := match (vs[2]? : Option Value) with | some (Value.str y _) => some y | _ => none
theorem file_of {vs : Array Value} {x : Str} (h : fileOf vs = some x) : ∃ t, vs[2]? = some (.str x t) := by
  unfold fileOf at h
  split at h
  · rename_i y t e
    cases h
    exact ⟨t, e⟩
  · cases h
set_option genInjectivity false
set_option genSizeOf false
structure Txt (K : PySem.W.Frag) (mg : Str → Option Value) where
  f_is_integer : Addr
  f_in_range : Addr
  f_check_size : Addr
  f_check_elements : Addr
  f_are_arrows : Addr
  f_common_size : Addr
  f_row_from : Addr
  f_moved : Addr
  f_check_map : Addr
  f_check_maps : Addr
  f_is_step : Addr
  f_first_invalid : Addr
  f_after_list : Addr
  f_is_name : Addr
  f_check_user : Addr
  f_l_hand : Addr
  f_l_draw : Addr
  f_l_arrows : Addr
  f_l_product : Addr
  f_l_full : Addr
  f_l_inverse : Addr
  f_l_power : Addr
  f_l_step : Addr
  f_l_stepped : Addr
  f_l_caught : Addr
  f_l_act : Addr
  f_l_undone : Addr
  c_l_undone : Addr
  P_l_undone : Addr
  f_l_shows : Addr
  f_l_model : Addr
  f_l_user : Addr
  f_l_same : Addr
  f_l_unlike : Addr
  f_l_keeping : Addr
  f_law : Addr
  C_Map : Addr
  f_Map__init : Addr
  p_Map_identity : Addr
  f_Map_identity : Addr
  p_Map_cycle : Addr
  f_Map_cycle : Addr
  p_Map_size : Addr
  f_Map_size : Addr
  p_Map_arrows : Addr
  f_Map_arrows : Addr
  f_Map__mul : Addr
  f_Map__invert : Addr
  f_Map_power : Addr
  f_Map__eq : Addr
  f_Map__len : Addr
  f_Map__repr : Addr
  C_Session : Addr
  f_Session__init : Addr
  p_Session_present : Addr
  f_Session_present : Addr
  f_Session_log : Addr
  f_Session_check_next : Addr
  f_Session_change_to : Addr
  f_Session_apply : Addr
  f_Session_raise_to : Addr
  f_Session_do_steps : Addr
  f_Session_undo : Addr
  f_Session_at : Addr
  f_Session_fresh : Addr
  f_Session_clone : Addr
  f_Session__eq : Addr
  f_Session__len : Addr
  f_Session__repr : Addr
  C_KeepingSession : Addr
  f_KeepingSession__init : Addr
  c_KeepingSession__init : Addr
  cc_KeepingSession__init : Addr
  p_KeepingSession_least : Addr
  f_KeepingSession_least : Addr
  f_KeepingSession_check_next : Addr
  c_KeepingSession_check_next : Addr
  cc_KeepingSession_check_next : Addr
  f_KeepingSession_fresh : Addr
  f_KeepingSession__repr : Addr
  C_NothingToUndo : Addr
  f_NothingToUndo__init : Addr
  C_NotLast : Addr
  f_NotLast__init : Addr
  C_TooFew : Addr
  f_TooFew__init : Addr
  C_InvalidNumber : Addr
  f_InvalidNumber__init : Addr
  C_InvalidSize : Addr
  f_InvalidSize__init : Addr
  C_InvalidElement : Addr
  f_InvalidElement__init : Addr
  C_InvalidMap : Addr
  f_InvalidMap__init : Addr
  C_SizeMismatch : Addr
  f_SizeMismatch__init : Addr
  A_is_integer : U.FnAt K "is_integer" "is_integer" s_is_integer f_is_integer ["value"]
  g_is_integer : mg "is_integer" = some (.ref f_is_integer)
  A_in_range : U.FnAt K "in_range" "in_range" s_in_range f_in_range ["value", "least", "most"]
  g_in_range : mg "in_range" = some (.ref f_in_range)
  A_check_size : U.FnAt K "check_size" "check_size" s_check_size f_check_size ["size"]
  g_check_size : mg "check_size" = some (.ref f_check_size)
  A_check_elements : U.FnAt K "check_elements" "check_elements" s_check_elements f_check_elements ["size", "points"]
  g_check_elements : mg "check_elements" = some (.ref f_check_elements)
  A_are_arrows : U.FnAt K "are_arrows" "are_arrows" s_are_arrows f_are_arrows ["size", "arrows"]
  g_are_arrows : mg "are_arrows" = some (.ref f_are_arrows)
  A_common_size : U.FnAt K "common_size" "common_size" s_common_size f_common_size ["one", "other"]
  g_common_size : mg "common_size" = some (.ref f_common_size)
  A_row_from : U.FnAt K "row_from" "row_from" s_row_from f_row_from ["arrows", "element"]
  g_row_from : mg "row_from" = some (.ref f_row_from)
  A_moved : U.FnAt K "moved" "moved" s_moved f_moved ["arrows", "steps"]
  g_moved : mg "moved" = some (.ref f_moved)
  A_check_map : U.FnAt K "check_map" "check_map" s_check_map f_check_map ["value"]
  g_check_map : mg "check_map" = some (.ref f_check_map)
  A_check_maps : U.FnAt K "check_maps" "check_maps" s_check_maps f_check_maps ["one", "other"]
  g_check_maps : mg "check_maps" = some (.ref f_check_maps)
  A_is_step : U.FnAt K "is_step" "is_step" s_is_step f_is_step ["size", "value"]
  g_is_step : mg "is_step" = some (.ref f_is_step)
  A_first_invalid : U.FnAt K "first_invalid" "first_invalid" s_first_invalid f_first_invalid ["size", "value"]
  g_first_invalid : mg "first_invalid" = some (.ref f_first_invalid)
  A_after_list : U.FnAt K "after_list" "after_list" s_after_list f_after_list ["arrows", "steps"]
  g_after_list : mg "after_list" = some (.ref f_after_list)
  A_is_name : U.FnAt K "is_name" "is_name" s_is_name f_is_name ["value"]
  g_is_name : mg "is_name" = some (.ref f_is_name)
  A_check_user : U.FnAt K "check_user" "check_user" s_check_user f_check_user ["value"]
  g_check_user : mg "check_user" = some (.ref f_check_user)
  A_l_hand : U.FnAt K "_law_hand" "_law_hand" s_l_hand f_l_hand ["_law_script", "_law_k"]
  g_l_hand : mg "_law_hand" = some (.ref f_l_hand)
  A_l_draw : U.FnAt K "_law_draw" "_law_draw" s_l_draw f_l_draw ["_law_pool", "_law_size"]
  g_l_draw : mg "_law_draw" = some (.ref f_l_draw)
  A_l_arrows : U.FnAt K "_law_arrows" "_law_arrows" s_l_arrows f_l_arrows ["_law_pool", "_law_size"]
  g_l_arrows : mg "_law_arrows" = some (.ref f_l_arrows)
  A_l_product : U.FnAt K "_law_product" "_law_product" s_l_product f_l_product ["_law_one", "_law_other"]
  g_l_product : mg "_law_product" = some (.ref f_l_product)
  A_l_full : U.FnAt K "_law_full" "_law_full" s_l_full f_l_full ["_law_size"]
  g_l_full : mg "_law_full" = some (.ref f_l_full)
  A_l_inverse : U.FnAt K "_law_inverse" "_law_inverse" s_l_inverse f_l_inverse ["_law_table"]
  g_l_inverse : mg "_law_inverse" = some (.ref f_l_inverse)
  A_l_power : U.FnAt K "_law_power" "_law_power" s_l_power f_l_power ["_law_table", "_law_size", "_law_exponent"]
  g_l_power : mg "_law_power" = some (.ref f_l_power)
  A_l_step : U.FnAt K "_law_step" "_law_step" s_l_step f_l_step ["_law_pool", "_law_size"]
  g_l_step : mg "_law_step" = some (.ref f_l_step)
  A_l_stepped : U.FnAt K "_law_stepped" "_law_stepped" s_l_stepped f_l_stepped ["_law_table", "_law_step_here"]
  g_l_stepped : mg "_law_stepped" = some (.ref f_l_stepped)
  A_l_caught : U.FnAt K "_law_caught" "_law_caught" s_l_caught f_l_caught ["_law_call"]
  g_l_caught : mg "_law_caught" = some (.ref f_l_caught)
  A_l_act : U.FnAt K "_law_act" "_law_act" s_l_act f_l_act ["_law_pool", "_law_session", "_law_model_here", "_law_user_here"]
  g_l_act : mg "_law_act" = some (.ref f_l_act)
  tm_l_undone : P_l_undone = 828
  hd_l_undone : PySem.W.codeHdIn K c_l_undone P_l_undone = true
  nt_l_undone : K.lookup P_l_undone = none
  B_l_undone : U.CodeAt K "_law_undone" "_law_undone" s_l_undone f_l_undone c_l_undone ["_law_session", "_law_model_here", "_law_user_here"]
  K_l_undone : PySem.W.keepIn K (.ref f_l_undone) = true
  g_l_undone : mg "_law_undone" = some (.ref f_l_undone)
  A_l_shows : U.FnAt K "_law_shows" "_law_shows" s_l_shows f_l_shows ["_law_session", "_law_model_here"]
  g_l_shows : mg "_law_shows" = some (.ref f_l_shows)
  A_l_model : U.FnAt K "_law_model" "_law_model" s_l_model f_l_model ["_law_size"]
  g_l_model : mg "_law_model" = some (.ref f_l_model)
  A_l_user : U.FnAt K "_law_user" "_law_user" s_l_user f_l_user ["_law_pool"]
  g_l_user : mg "_law_user" = some (.ref f_l_user)
  A_l_same : U.FnAt K "_law_same" "_law_same" s_l_same f_l_same ["_law_one", "_law_other"]
  g_l_same : mg "_law_same" = some (.ref f_l_same)
  A_l_unlike : U.FnAt K "_law_unlike" "_law_unlike" s_l_unlike f_l_unlike []
  g_l_unlike : mg "_law_unlike" = some (.ref f_l_unlike)
  A_l_keeping : U.FnAt K "_law_keeping" "_law_keeping" s_l_keeping f_l_keeping []
  g_l_keeping : mg "_law_keeping" = some (.ref f_l_keeping)
  A_law : U.FnAt K "law" "law" s_law f_law ["_law_script"]
  L_law : ∃ fd, Fun K "law" "law" s_law f_law fd ∧ ∀ (s : Shared) (u : Value), BindsTo s fd ⟨[u], []⟩ [("_law_script", u)]
  g_law : mg "law" = some (.ref f_law)
  g_Map : mg "Map" = some (.ref C_Map)
  o_Map : U.OwnC K C_Map
  kit_int_Map : PySem.W.kitOne K (.ref C_Map) (.type "int") = some false
  kit_bool_Map : PySem.W.kitOne K (.ref C_Map) (.type "bool") = some false
  kit_str_Map : PySem.W.kitOne K (.ref C_Map) (.type "str") = some false
  kit_tuple_Map : PySem.W.kitOne K (.ref C_Map) (.type "tuple") = some false
  kit_list_Map : PySem.W.kitOne K (.ref C_Map) (.type "list") = some false
  kn_NoneType_Map : PySem.W.kitOne K (.type "NoneType") (.ref C_Map) = some false
  nf_NoneType_Map : PySem.W.notFirst K C_Map (.type "NoneType") = true
  kn_int_Map : PySem.W.kitOne K (.type "int") (.ref C_Map) = some false
  nf_int_Map : PySem.W.notFirst K C_Map (.type "int") = true
  kn_bool_Map : PySem.W.kitOne K (.type "bool") (.ref C_Map) = some false
  nf_bool_Map : PySem.W.notFirst K C_Map (.type "bool") = true
  kn_str_Map : PySem.W.kitOne K (.type "str") (.ref C_Map) = some false
  nf_str_Map : PySem.W.notFirst K C_Map (.type "str") = true
  kn_list_Map : PySem.W.kitOne K (.type "list") (.ref C_Map) = some false
  nf_list_Map : PySem.W.notFirst K C_Map (.type "list") = true
  kn_dict_Map : PySem.W.kitOne K (.type "dict") (.ref C_Map) = some false
  nf_dict_Map : PySem.W.notFirst K C_Map (.type "dict") = true
  kn_tuple_Map : PySem.W.kitOne K (.type "tuple") (.ref C_Map) = some false
  nf_tuple_Map : PySem.W.notFirst K C_Map (.type "tuple") = true
  kx_Map_Session : PySem.W.kitOne K (.ref C_Map) (.ref C_Session) = some false
  nf_Map_Session : PySem.W.notFirst K C_Session (.ref C_Map) = true
  self_Map : PySem.W.kitOne K (.ref C_Map) (.ref C_Map) = some true
  na_own_size_Map : NoAttr K C_Map "own_size"
  na_own_arrows_Map : NoAttr K C_Map "own_arrows"
  ne_Map : PySem.W.findIn K (.ref C_Map) "__ne__" = some (some (.builtin "object.__ne__"))
  A_Map__init : U.FnAt K "__init__" "Map.__init__" s_Map__init f_Map__init ["self", "size", "arrows"]
  m_Map__init : PySem.W.findIn K (.ref C_Map) "__init__" = some (some (.ref f_Map__init))
  i_Map__init : PySem.W.isFn K (.ref f_Map__init) = true
  M_Map : Mk K C_Map f_Map__init
  R_Map : ClX.CRead K C_Map (.type "type")
  A_Map_identity : U.FnAt K "identity" "Map.identity" s_Map_identity f_Map_identity ["cls", "size"]
  cm_Map_identity : ClX.CMet K C_Map (.type "type") "identity" p_Map_identity f_Map_identity
  A_Map_cycle : U.StarAt K "cycle" "Map.cycle" s_Map_cycle f_Map_cycle ["cls", "size"] "points"
  cm_Map_cycle : ClX.CMet K C_Map (.type "type") "cycle" p_Map_cycle f_Map_cycle
  A_Map_size : U.FnAt K "size" "Map.size" s_Map_size f_Map_size ["self"]
  P_Map_size : PropOf K C_Map "size" p_Map_size f_Map_size
  A_Map_arrows : U.FnAt K "arrows" "Map.arrows" s_Map_arrows f_Map_arrows ["self"]
  P_Map_arrows : PropOf K C_Map "arrows" p_Map_arrows f_Map_arrows
  A_Map__mul : U.FnAt K "__mul__" "Map.__mul__" s_Map__mul f_Map__mul ["self", "other"]
  m_Map__mul : PySem.W.findIn K (.ref C_Map) "__mul__" = some (some (.ref f_Map__mul))
  i_Map__mul : PySem.W.isFn K (.ref f_Map__mul) = true
  A_Map__invert : U.FnAt K "__invert__" "Map.__invert__" s_Map__invert f_Map__invert ["self"]
  m_Map__invert : PySem.W.findIn K (.ref C_Map) "__invert__" = some (some (.ref f_Map__invert))
  i_Map__invert : PySem.W.isFn K (.ref f_Map__invert) = true
  A_Map_power : U.FnAt K "power" "Map.power" s_Map_power f_Map_power ["self", "exponent"]
  m_Map_power : PySem.W.findIn K (.ref C_Map) "power" = some (some (.ref f_Map_power))
  i_Map_power : PySem.W.isFn K (.ref f_Map_power) = true
  meth_Map_power : Meth K C_Map "power" f_Map_power
  A_Map__eq : U.FnAt K "__eq__" "Map.__eq__" s_Map__eq f_Map__eq ["self", "other"]
  m_Map__eq : PySem.W.findIn K (.ref C_Map) "__eq__" = some (some (.ref f_Map__eq))
  i_Map__eq : PySem.W.isFn K (.ref f_Map__eq) = true
  A_Map__len : U.FnAt K "__len__" "Map.__len__" s_Map__len f_Map__len ["self"]
  m_Map__len : PySem.W.findIn K (.ref C_Map) "__len__" = some (some (.ref f_Map__len))
  i_Map__len : PySem.W.isFn K (.ref f_Map__len) = true
  A_Map__repr : U.FnAt K "__repr__" "Map.__repr__" s_Map__repr f_Map__repr ["self"]
  m_Map__repr : PySem.W.findIn K (.ref C_Map) "__repr__" = some (some (.ref f_Map__repr))
  i_Map__repr : PySem.W.isFn K (.ref f_Map__repr) = true
  g_Session : mg "Session" = some (.ref C_Session)
  o_Session : U.OwnC K C_Session
  kit_int_Session : PySem.W.kitOne K (.ref C_Session) (.type "int") = some false
  kit_bool_Session : PySem.W.kitOne K (.ref C_Session) (.type "bool") = some false
  kn_list_Session : PySem.W.kitOne K (.type "list") (.ref C_Session) = some false
  nf_list_Session : PySem.W.notFirst K C_Session (.type "list") = true
  self_Session : PySem.W.kitOne K (.ref C_Session) (.ref C_Session) = some true
  na_own_present_Session : NoAttr K C_Session "own_present"
  na_own_log_Session : NoAttr K C_Session "own_log"
  na_own_earlier_Session : NoAttr K C_Session "own_earlier"
  ne_Session : PySem.W.findIn K (.ref C_Session) "__ne__" = some (some (.builtin "object.__ne__"))
  A_Session__init : U.FnAt K "__init__" "Session.__init__" s_Session__init f_Session__init ["self", "size"]
  m_Session__init : PySem.W.findIn K (.ref C_Session) "__init__" = some (some (.ref f_Session__init))
  i_Session__init : PySem.W.isFn K (.ref f_Session__init) = true
  M_Session : Mk K C_Session f_Session__init
  A_Session_present : U.FnAt K "present" "Session.present" s_Session_present f_Session_present ["self"]
  P_Session_present : PropOf K C_Session "present" p_Session_present f_Session_present
  A_Session_log : U.FnAt K "log" "Session.log" s_Session_log f_Session_log ["self"]
  m_Session_log : PySem.W.findIn K (.ref C_Session) "log" = some (some (.ref f_Session_log))
  i_Session_log : PySem.W.isFn K (.ref f_Session_log) = true
  meth_Session_log : Meth K C_Session "log" f_Session_log
  A_Session_check_next : U.FnAt K "check_next" "Session.check_next" s_Session_check_next f_Session_check_next ["self", "later"]
  m_Session_check_next : PySem.W.findIn K (.ref C_Session) "check_next" = some (some (.ref f_Session_check_next))
  i_Session_check_next : PySem.W.isFn K (.ref f_Session_check_next) = true
  meth_Session_check_next : Meth K C_Session "check_next" f_Session_check_next
  A_Session_change_to : U.FnAt K "change_to" "Session.change_to" s_Session_change_to f_Session_change_to ["self", "user", "action", "later"]
  m_Session_change_to : PySem.W.findIn K (.ref C_Session) "change_to" = some (some (.ref f_Session_change_to))
  i_Session_change_to : PySem.W.isFn K (.ref f_Session_change_to) = true
  meth_Session_change_to : Meth K C_Session "change_to" f_Session_change_to
  A_Session_apply : U.FnAt K "apply" "Session.apply" s_Session_apply f_Session_apply ["self", "user", "factor"]
  m_Session_apply : PySem.W.findIn K (.ref C_Session) "apply" = some (some (.ref f_Session_apply))
  i_Session_apply : PySem.W.isFn K (.ref f_Session_apply) = true
  meth_Session_apply : Meth K C_Session "apply" f_Session_apply
  A_Session_raise_to : U.FnAt K "raise_to" "Session.raise_to" s_Session_raise_to f_Session_raise_to ["self", "user", "exponent"]
  m_Session_raise_to : PySem.W.findIn K (.ref C_Session) "raise_to" = some (some (.ref f_Session_raise_to))
  i_Session_raise_to : PySem.W.isFn K (.ref f_Session_raise_to) = true
  meth_Session_raise_to : Meth K C_Session "raise_to" f_Session_raise_to
  A_Session_do_steps : U.FnAt K "do_steps" "Session.do_steps" s_Session_do_steps f_Session_do_steps ["self", "user", "steps"]
  m_Session_do_steps : PySem.W.findIn K (.ref C_Session) "do_steps" = some (some (.ref f_Session_do_steps))
  i_Session_do_steps : PySem.W.isFn K (.ref f_Session_do_steps) = true
  meth_Session_do_steps : Meth K C_Session "do_steps" f_Session_do_steps
  A_Session_undo : U.FnAt K "undo" "Session.undo" s_Session_undo f_Session_undo ["self", "user"]
  m_Session_undo : PySem.W.findIn K (.ref C_Session) "undo" = some (some (.ref f_Session_undo))
  i_Session_undo : PySem.W.isFn K (.ref f_Session_undo) = true
  meth_Session_undo : Meth K C_Session "undo" f_Session_undo
  A_Session_at : U.FnAt K "at" "Session.at" s_Session_at f_Session_at ["self", "number"]
  m_Session_at : PySem.W.findIn K (.ref C_Session) "at" = some (some (.ref f_Session_at))
  i_Session_at : PySem.W.isFn K (.ref f_Session_at) = true
  meth_Session_at : Meth K C_Session "at" f_Session_at
  A_Session_fresh : U.FnAt K "fresh" "Session.fresh" s_Session_fresh f_Session_fresh ["self"]
  m_Session_fresh : PySem.W.findIn K (.ref C_Session) "fresh" = some (some (.ref f_Session_fresh))
  i_Session_fresh : PySem.W.isFn K (.ref f_Session_fresh) = true
  meth_Session_fresh : Meth K C_Session "fresh" f_Session_fresh
  A_Session_clone : U.FnAt K "clone" "Session.clone" s_Session_clone f_Session_clone ["self"]
  m_Session_clone : PySem.W.findIn K (.ref C_Session) "clone" = some (some (.ref f_Session_clone))
  i_Session_clone : PySem.W.isFn K (.ref f_Session_clone) = true
  meth_Session_clone : Meth K C_Session "clone" f_Session_clone
  A_Session__eq : U.FnAt K "__eq__" "Session.__eq__" s_Session__eq f_Session__eq ["self", "other"]
  m_Session__eq : PySem.W.findIn K (.ref C_Session) "__eq__" = some (some (.ref f_Session__eq))
  i_Session__eq : PySem.W.isFn K (.ref f_Session__eq) = true
  A_Session__len : U.FnAt K "__len__" "Session.__len__" s_Session__len f_Session__len ["self"]
  m_Session__len : PySem.W.findIn K (.ref C_Session) "__len__" = some (some (.ref f_Session__len))
  i_Session__len : PySem.W.isFn K (.ref f_Session__len) = true
  A_Session__repr : U.FnAt K "__repr__" "Session.__repr__" s_Session__repr f_Session__repr ["self"]
  m_Session__repr : PySem.W.findIn K (.ref C_Session) "__repr__" = some (some (.ref f_Session__repr))
  i_Session__repr : PySem.W.isFn K (.ref f_Session__repr) = true
  g_KeepingSession : mg "KeepingSession" = some (.ref C_KeepingSession)
  o_KeepingSession : U.OwnC K C_KeepingSession
  kit_int_KeepingSession : PySem.W.kitOne K (.ref C_KeepingSession) (.type "int") = some false
  kit_bool_KeepingSession : PySem.W.kitOne K (.ref C_KeepingSession) (.type "bool") = some false
  ks_KeepingSession_Session : PySem.W.kitOne K (.ref C_KeepingSession) (.ref C_Session) = some true
  sb_KeepingSession_Session : PySem.W.subIn K (.ref C_KeepingSession) (.ref C_Session) = some true
  sbn_Session_KeepingSession : PySem.W.subIn K (.ref C_Session) (.ref C_KeepingSession) = some false
  nf_KeepingSession_Session : PySem.W.notFirst K C_KeepingSession (.ref C_Session) = true
  self_KeepingSession : PySem.W.kitOne K (.ref C_KeepingSession) (.ref C_KeepingSession) = some true
  na_own_present_KeepingSession : NoAttr K C_KeepingSession "own_present"
  na_own_log_KeepingSession : NoAttr K C_KeepingSession "own_log"
  na_own_earlier_KeepingSession : NoAttr K C_KeepingSession "own_earlier"
  na_own_least_KeepingSession : NoAttr K C_KeepingSession "own_least"
  ne_KeepingSession : PySem.W.findIn K (.ref C_KeepingSession) "__ne__" = some (some (.builtin "object.__ne__"))
  P_KeepingSession_present : PropOf K C_KeepingSession "present" p_Session_present f_Session_present
  meth_KeepingSession_log : Meth K C_KeepingSession "log" f_Session_log
  meth_KeepingSession_change_to : Meth K C_KeepingSession "change_to" f_Session_change_to
  meth_KeepingSession_apply : Meth K C_KeepingSession "apply" f_Session_apply
  meth_KeepingSession_raise_to : Meth K C_KeepingSession "raise_to" f_Session_raise_to
  meth_KeepingSession_do_steps : Meth K C_KeepingSession "do_steps" f_Session_do_steps
  meth_KeepingSession_undo : Meth K C_KeepingSession "undo" f_Session_undo
  meth_KeepingSession_at : Meth K C_KeepingSession "at" f_Session_at
  meth_KeepingSession_clone : Meth K C_KeepingSession "clone" f_Session_clone
  m_KeepingSession___eq : PySem.W.findIn K (.ref C_KeepingSession) "__eq__" = some (some (.ref f_Session__eq))
  i_KeepingSession___eq : PySem.W.isFn K (.ref f_Session__eq) = true
  m_KeepingSession___len : PySem.W.findIn K (.ref C_KeepingSession) "__len__" = some (some (.ref f_Session__len))
  i_KeepingSession___len : PySem.W.isFn K (.ref f_Session__len) = true
  sm_KeepingSession_init : U.SupM K C_KeepingSession C_KeepingSession "__init__" f_Session__init
  sm_KeepingSession_check_next : U.SupM K C_KeepingSession C_KeepingSession "check_next" f_Session_check_next
  A_KeepingSession__init : U.SupAt K "__init__" "KeepingSession.__init__" s_KeepingSession__init f_KeepingSession__init c_KeepingSession__init cc_KeepingSession__init C_KeepingSession ["self", "size", "least"] "/claim/cut.py"
  K_KeepingSession__init : PySem.W.keepIn K (.ref f_KeepingSession__init) = true
  m_KeepingSession__init : PySem.W.findIn K (.ref C_KeepingSession) "__init__" = some (some (.ref f_KeepingSession__init))
  i_KeepingSession__init : PySem.W.isFn K (.ref f_KeepingSession__init) = true
  M_KeepingSession : Mk K C_KeepingSession f_KeepingSession__init
  A_KeepingSession_least : U.FnAt K "least" "KeepingSession.least" s_KeepingSession_least f_KeepingSession_least ["self"]
  P_KeepingSession_least : PropOf K C_KeepingSession "least" p_KeepingSession_least f_KeepingSession_least
  A_KeepingSession_check_next : U.SupAt K "check_next" "KeepingSession.check_next" s_KeepingSession_check_next f_KeepingSession_check_next c_KeepingSession_check_next cc_KeepingSession_check_next C_KeepingSession ["self", "later"] "/claim/cut.py"
  K_KeepingSession_check_next : PySem.W.keepIn K (.ref f_KeepingSession_check_next) = true
  m_KeepingSession_check_next : PySem.W.findIn K (.ref C_KeepingSession) "check_next" = some (some (.ref f_KeepingSession_check_next))
  i_KeepingSession_check_next : PySem.W.isFn K (.ref f_KeepingSession_check_next) = true
  meth_KeepingSession_check_next : Meth K C_KeepingSession "check_next" f_KeepingSession_check_next
  A_KeepingSession_fresh : U.FnAt K "fresh" "KeepingSession.fresh" s_KeepingSession_fresh f_KeepingSession_fresh ["self"]
  m_KeepingSession_fresh : PySem.W.findIn K (.ref C_KeepingSession) "fresh" = some (some (.ref f_KeepingSession_fresh))
  i_KeepingSession_fresh : PySem.W.isFn K (.ref f_KeepingSession_fresh) = true
  meth_KeepingSession_fresh : Meth K C_KeepingSession "fresh" f_KeepingSession_fresh
  A_KeepingSession__repr : U.FnAt K "__repr__" "KeepingSession.__repr__" s_KeepingSession__repr f_KeepingSession__repr ["self"]
  m_KeepingSession__repr : PySem.W.findIn K (.ref C_KeepingSession) "__repr__" = some (some (.ref f_KeepingSession__repr))
  i_KeepingSession__repr : PySem.W.isFn K (.ref f_KeepingSession__repr) = true
  g_NothingToUndo : mg "NothingToUndo" = some (.ref C_NothingToUndo)
  x_NothingToUndo : OexG K C_NothingToUndo
  xf_NothingToUndo : XfC K C_NothingToUndo
  xe_NothingToUndo : ExcC K C_NothingToUndo
  te_NothingToUndo : PySem.W.exmOne K (.ref C_NothingToUndo) (.ref C_NothingToUndo) = some true
  kit_LookupError_NothingToUndo : PySem.W.kitOne K (.ref C_NothingToUndo) (.type "LookupError") = some true
  na_user_NothingToUndo : PySem.W.findIn K (.ref C_NothingToUndo) "user" = some none
  A_NothingToUndo__init : U.FnAt K "__init__" "NothingToUndo.__init__" s_NothingToUndo__init f_NothingToUndo__init ["self", "user"]
  m_NothingToUndo__init : PySem.W.findIn K (.ref C_NothingToUndo) "__init__" = some (some (.ref f_NothingToUndo__init))
  ti_NothingToUndo__init : PySem.W.typeIn K (.ref f_NothingToUndo__init) = some (.type "function")
  g_NotLast : mg "NotLast" = some (.ref C_NotLast)
  x_NotLast : OexG K C_NotLast
  xf_NotLast : XfC K C_NotLast
  xe_NotLast : ExcC K C_NotLast
  te_NotLast : PySem.W.exmOne K (.ref C_NotLast) (.ref C_NotLast) = some true
  kit_RuntimeError_NotLast : PySem.W.kitOne K (.ref C_NotLast) (.type "RuntimeError") = some true
  te_NotLast_NothingToUndo : PySem.W.exmOne K (.ref C_NotLast) (.ref C_NothingToUndo) = some false
  na_user_NotLast : PySem.W.findIn K (.ref C_NotLast) "user" = some none
  A_NotLast__init : U.FnAt K "__init__" "NotLast.__init__" s_NotLast__init f_NotLast__init ["self", "user"]
  m_NotLast__init : PySem.W.findIn K (.ref C_NotLast) "__init__" = some (some (.ref f_NotLast__init))
  ti_NotLast__init : PySem.W.typeIn K (.ref f_NotLast__init) = some (.type "function")
  g_TooFew : mg "TooFew" = some (.ref C_TooFew)
  x_TooFew : OexG K C_TooFew
  xf_TooFew : XfC K C_TooFew
  xe_TooFew : ExcC K C_TooFew
  te_TooFew : PySem.W.exmOne K (.ref C_TooFew) (.ref C_TooFew) = some true
  kit_RuntimeError_TooFew : PySem.W.kitOne K (.ref C_TooFew) (.type "RuntimeError") = some true
  na_number_TooFew : PySem.W.findIn K (.ref C_TooFew) "number" = some none
  A_TooFew__init : U.FnAt K "__init__" "TooFew.__init__" s_TooFew__init f_TooFew__init ["self", "number"]
  m_TooFew__init : PySem.W.findIn K (.ref C_TooFew) "__init__" = some (some (.ref f_TooFew__init))
  ti_TooFew__init : PySem.W.typeIn K (.ref f_TooFew__init) = some (.type "function")
  g_InvalidNumber : mg "InvalidNumber" = some (.ref C_InvalidNumber)
  x_InvalidNumber : OexG K C_InvalidNumber
  xf_InvalidNumber : XfC K C_InvalidNumber
  xe_InvalidNumber : ExcC K C_InvalidNumber
  te_InvalidNumber : PySem.W.exmOne K (.ref C_InvalidNumber) (.ref C_InvalidNumber) = some true
  kit_ValueError_InvalidNumber : PySem.W.kitOne K (.ref C_InvalidNumber) (.type "ValueError") = some true
  na_value_InvalidNumber : PySem.W.findIn K (.ref C_InvalidNumber) "value" = some none
  A_InvalidNumber__init : U.FnAt K "__init__" "InvalidNumber.__init__" s_InvalidNumber__init f_InvalidNumber__init ["self", "value"]
  m_InvalidNumber__init : PySem.W.findIn K (.ref C_InvalidNumber) "__init__" = some (some (.ref f_InvalidNumber__init))
  ti_InvalidNumber__init : PySem.W.typeIn K (.ref f_InvalidNumber__init) = some (.type "function")
  g_InvalidSize : mg "InvalidSize" = some (.ref C_InvalidSize)
  x_InvalidSize : OexG K C_InvalidSize
  xf_InvalidSize : XfC K C_InvalidSize
  xe_InvalidSize : ExcC K C_InvalidSize
  te_InvalidSize : PySem.W.exmOne K (.ref C_InvalidSize) (.ref C_InvalidSize) = some true
  kit_ValueError_InvalidSize : PySem.W.kitOne K (.ref C_InvalidSize) (.type "ValueError") = some true
  na_value_InvalidSize : PySem.W.findIn K (.ref C_InvalidSize) "value" = some none
  A_InvalidSize__init : U.FnAt K "__init__" "InvalidSize.__init__" s_InvalidSize__init f_InvalidSize__init ["self", "value"]
  m_InvalidSize__init : PySem.W.findIn K (.ref C_InvalidSize) "__init__" = some (some (.ref f_InvalidSize__init))
  ti_InvalidSize__init : PySem.W.typeIn K (.ref f_InvalidSize__init) = some (.type "function")
  g_InvalidElement : mg "InvalidElement" = some (.ref C_InvalidElement)
  x_InvalidElement : OexG K C_InvalidElement
  xf_InvalidElement : XfC K C_InvalidElement
  xe_InvalidElement : ExcC K C_InvalidElement
  te_InvalidElement : PySem.W.exmOne K (.ref C_InvalidElement) (.ref C_InvalidElement) = some true
  kit_ValueError_InvalidElement : PySem.W.kitOne K (.ref C_InvalidElement) (.type "ValueError") = some true
  na_value_InvalidElement : PySem.W.findIn K (.ref C_InvalidElement) "value" = some none
  A_InvalidElement__init : U.FnAt K "__init__" "InvalidElement.__init__" s_InvalidElement__init f_InvalidElement__init ["self", "value"]
  m_InvalidElement__init : PySem.W.findIn K (.ref C_InvalidElement) "__init__" = some (some (.ref f_InvalidElement__init))
  ti_InvalidElement__init : PySem.W.typeIn K (.ref f_InvalidElement__init) = some (.type "function")
  g_InvalidMap : mg "InvalidMap" = some (.ref C_InvalidMap)
  x_InvalidMap : OexG K C_InvalidMap
  xf_InvalidMap : XfC K C_InvalidMap
  xe_InvalidMap : ExcC K C_InvalidMap
  te_InvalidMap : PySem.W.exmOne K (.ref C_InvalidMap) (.ref C_InvalidMap) = some true
  kit_ValueError_InvalidMap : PySem.W.kitOne K (.ref C_InvalidMap) (.type "ValueError") = some true
  na_part_InvalidMap : PySem.W.findIn K (.ref C_InvalidMap) "part" = some none
  A_InvalidMap__init : U.FnAt K "__init__" "InvalidMap.__init__" s_InvalidMap__init f_InvalidMap__init ["self", "part"]
  m_InvalidMap__init : PySem.W.findIn K (.ref C_InvalidMap) "__init__" = some (some (.ref f_InvalidMap__init))
  ti_InvalidMap__init : PySem.W.typeIn K (.ref f_InvalidMap__init) = some (.type "function")
  g_SizeMismatch : mg "SizeMismatch" = some (.ref C_SizeMismatch)
  x_SizeMismatch : OexG K C_SizeMismatch
  xf_SizeMismatch : XfC K C_SizeMismatch
  xe_SizeMismatch : ExcC K C_SizeMismatch
  te_SizeMismatch : PySem.W.exmOne K (.ref C_SizeMismatch) (.ref C_SizeMismatch) = some true
  kit_ValueError_SizeMismatch : PySem.W.kitOne K (.ref C_SizeMismatch) (.type "ValueError") = some true
  na_first_SizeMismatch : PySem.W.findIn K (.ref C_SizeMismatch) "first" = some none
  na_second_SizeMismatch : PySem.W.findIn K (.ref C_SizeMismatch) "second" = some none
  A_SizeMismatch__init : U.FnAt K "__init__" "SizeMismatch.__init__" s_SizeMismatch__init f_SizeMismatch__init ["self", "first", "second"]
  m_SizeMismatch__init : PySem.W.findIn K (.ref C_SizeMismatch) "__init__" = some (some (.ref f_SizeMismatch__init))
  ti_SizeMismatch__init : PySem.W.typeIn K (.ref f_SizeMismatch__init) = some (.type "function")
  n_isinstance : mg "isinstance" = none
  n_int : mg "int" = none
  n_bool : mg "bool" = none
  n_dict : mg "dict" = none
  n_len : mg "len" = none
  n_range : mg "range" = none
  n_list : mg "list" = none
  n_max : mg "max" = none
  n_min : mg "min" = none
  n_repr : mg "repr" = none
  n_abs : mg "abs" = none
  n_str : mg "str" = none
  n_tuple : mg "tuple" = none
  n_all : mg "all" = none
  n_enumerate : mg "enumerate" = none
  n_zip : mg "zip" = none
  v_MAX_SIZE : ∃ t, mg "MAX_SIZE" = some (.int 300 t)
  v_MAX_NAME : ∃ t, mg "MAX_NAME" = some (.int 8 t)
theorem mk_txt {K : PySem.W.Frag} {h : Heap} {mg : Str → Option Value} (X : K.In h) (G : h.Ns mainGlobals mg)
    {f_is_integer : Addr} {oc_is_integer kV_is_integer dc_is_integer pm_is_integer cd_is_integer ct_is_integer : Value} {od_is_integer an_is_integer : Option Addr} {sl_is_integer : Array (Option Value)}
    {f_in_range : Addr} {oc_in_range kV_in_range dc_in_range pm_in_range cd_in_range ct_in_range : Value} {od_in_range an_in_range : Option Addr} {sl_in_range : Array (Option Value)}
    {f_check_size : Addr} {oc_check_size kV_check_size dc_check_size pm_check_size cd_check_size ct_check_size : Value} {od_check_size an_check_size : Option Addr} {sl_check_size : Array (Option Value)}
    {f_check_elements : Addr} {oc_check_elements kV_check_elements dc_check_elements pm_check_elements cd_check_elements ct_check_elements : Value} {od_check_elements an_check_elements : Option Addr} {sl_check_elements : Array (Option Value)}
    {f_are_arrows : Addr} {oc_are_arrows kV_are_arrows dc_are_arrows pm_are_arrows cd_are_arrows ct_are_arrows : Value} {od_are_arrows an_are_arrows : Option Addr} {sl_are_arrows : Array (Option Value)}
    {f_common_size : Addr} {oc_common_size kV_common_size dc_common_size pm_common_size cd_common_size ct_common_size : Value} {od_common_size an_common_size : Option Addr} {sl_common_size : Array (Option Value)}
    {f_row_from : Addr} {oc_row_from kV_row_from dc_row_from pm_row_from cd_row_from ct_row_from : Value} {od_row_from an_row_from : Option Addr} {sl_row_from : Array (Option Value)}
    {f_moved : Addr} {oc_moved kV_moved dc_moved pm_moved cd_moved ct_moved : Value} {od_moved an_moved : Option Addr} {sl_moved : Array (Option Value)}
    {f_check_map : Addr} {oc_check_map kV_check_map dc_check_map pm_check_map cd_check_map ct_check_map : Value} {od_check_map an_check_map : Option Addr} {sl_check_map : Array (Option Value)}
    {f_check_maps : Addr} {oc_check_maps kV_check_maps dc_check_maps pm_check_maps cd_check_maps ct_check_maps : Value} {od_check_maps an_check_maps : Option Addr} {sl_check_maps : Array (Option Value)}
    {f_is_step : Addr} {oc_is_step kV_is_step dc_is_step pm_is_step cd_is_step ct_is_step : Value} {od_is_step an_is_step : Option Addr} {sl_is_step : Array (Option Value)}
    {f_first_invalid : Addr} {oc_first_invalid kV_first_invalid dc_first_invalid pm_first_invalid cd_first_invalid ct_first_invalid : Value} {od_first_invalid an_first_invalid : Option Addr} {sl_first_invalid : Array (Option Value)}
    {f_after_list : Addr} {oc_after_list kV_after_list dc_after_list pm_after_list cd_after_list ct_after_list : Value} {od_after_list an_after_list : Option Addr} {sl_after_list : Array (Option Value)}
    {f_is_name : Addr} {oc_is_name kV_is_name dc_is_name pm_is_name cd_is_name ct_is_name : Value} {od_is_name an_is_name : Option Addr} {sl_is_name : Array (Option Value)}
    {f_check_user : Addr} {oc_check_user kV_check_user dc_check_user pm_check_user cd_check_user ct_check_user : Value} {od_check_user an_check_user : Option Addr} {sl_check_user : Array (Option Value)}
    {f_l_hand : Addr} {oc_l_hand kV_l_hand dc_l_hand pm_l_hand cd_l_hand ct_l_hand : Value} {od_l_hand an_l_hand : Option Addr} {sl_l_hand : Array (Option Value)}
    {f_l_draw : Addr} {oc_l_draw kV_l_draw dc_l_draw pm_l_draw cd_l_draw ct_l_draw : Value} {od_l_draw an_l_draw : Option Addr} {sl_l_draw : Array (Option Value)}
    {f_l_arrows : Addr} {oc_l_arrows kV_l_arrows dc_l_arrows pm_l_arrows cd_l_arrows ct_l_arrows : Value} {od_l_arrows an_l_arrows : Option Addr} {sl_l_arrows : Array (Option Value)}
    {f_l_product : Addr} {oc_l_product kV_l_product dc_l_product pm_l_product cd_l_product ct_l_product : Value} {od_l_product an_l_product : Option Addr} {sl_l_product : Array (Option Value)}
    {f_l_full : Addr} {oc_l_full kV_l_full dc_l_full pm_l_full cd_l_full ct_l_full : Value} {od_l_full an_l_full : Option Addr} {sl_l_full : Array (Option Value)}
    {f_l_inverse : Addr} {oc_l_inverse kV_l_inverse dc_l_inverse pm_l_inverse cd_l_inverse ct_l_inverse : Value} {od_l_inverse an_l_inverse : Option Addr} {sl_l_inverse : Array (Option Value)}
    {f_l_power : Addr} {oc_l_power kV_l_power dc_l_power pm_l_power cd_l_power ct_l_power : Value} {od_l_power an_l_power : Option Addr} {sl_l_power : Array (Option Value)}
    {f_l_step : Addr} {oc_l_step kV_l_step dc_l_step pm_l_step cd_l_step ct_l_step : Value} {od_l_step an_l_step : Option Addr} {sl_l_step : Array (Option Value)}
    {f_l_stepped : Addr} {oc_l_stepped kV_l_stepped dc_l_stepped pm_l_stepped cd_l_stepped ct_l_stepped : Value} {od_l_stepped an_l_stepped : Option Addr} {sl_l_stepped : Array (Option Value)}
    {f_l_caught : Addr} {oc_l_caught kV_l_caught dc_l_caught pm_l_caught cd_l_caught ct_l_caught : Value} {od_l_caught an_l_caught : Option Addr} {sl_l_caught : Array (Option Value)}
    {f_l_act : Addr} {oc_l_act kV_l_act dc_l_act pm_l_act cd_l_act ct_l_act : Value} {od_l_act an_l_act : Option Addr} {sl_l_act : Array (Option Value)}
    {f_l_undone c_l_undone P_l_undone : Addr} {oc_l_undone kV_l_undone dc_l_undone pm_l_undone ct_l_undone : Value} {od_l_undone an_l_undone : Option Addr} {sl_l_undone : Array (Option Value)}
    {f_l_shows : Addr} {oc_l_shows kV_l_shows dc_l_shows pm_l_shows cd_l_shows ct_l_shows : Value} {od_l_shows an_l_shows : Option Addr} {sl_l_shows : Array (Option Value)}
    {f_l_model : Addr} {oc_l_model kV_l_model dc_l_model pm_l_model cd_l_model ct_l_model : Value} {od_l_model an_l_model : Option Addr} {sl_l_model : Array (Option Value)}
    {f_l_user : Addr} {oc_l_user kV_l_user dc_l_user pm_l_user cd_l_user ct_l_user : Value} {od_l_user an_l_user : Option Addr} {sl_l_user : Array (Option Value)}
    {f_l_same : Addr} {oc_l_same kV_l_same dc_l_same pm_l_same cd_l_same ct_l_same : Value} {od_l_same an_l_same : Option Addr} {sl_l_same : Array (Option Value)}
    {f_l_unlike : Addr} {oc_l_unlike kV_l_unlike dc_l_unlike pm_l_unlike cd_l_unlike ct_l_unlike : Value} {od_l_unlike an_l_unlike : Option Addr} {sl_l_unlike : Array (Option Value)}
    {f_l_keeping : Addr} {oc_l_keeping kV_l_keeping dc_l_keeping pm_l_keeping cd_l_keeping ct_l_keeping : Value} {od_l_keeping an_l_keeping : Option Addr} {sl_l_keeping : Array (Option Value)}
    {f_law : Addr} {oc_law kV_law dc_law pm_law cd_law ct_law : Value} {od_law an_law : Option Addr} {sl_law : Array (Option Value)}
    {C_Map : Addr}
    {f_Map__init : Addr} {oc_Map__init kV_Map__init dc_Map__init pm_Map__init cd_Map__init ct_Map__init : Value} {od_Map__init an_Map__init : Option Addr} {sl_Map__init : Array (Option Value)}
    {p_Map_identity : Addr} {r_Map_identity : List Value}
    {f_Map_identity : Addr} {oc_Map_identity kV_Map_identity dc_Map_identity pm_Map_identity cd_Map_identity ct_Map_identity : Value} {od_Map_identity an_Map_identity : Option Addr} {sl_Map_identity : Array (Option Value)}
    {p_Map_cycle : Addr} {r_Map_cycle : List Value}
    {f_Map_cycle : Addr} {oc_Map_cycle kV_Map_cycle dc_Map_cycle pm_Map_cycle cd_Map_cycle ct_Map_cycle : Value} {od_Map_cycle an_Map_cycle : Option Addr} {sl_Map_cycle : Array (Option Value)}
    {p_Map_size : Addr} {r_Map_size : List Value}
    {f_Map_size : Addr} {oc_Map_size kV_Map_size dc_Map_size pm_Map_size cd_Map_size ct_Map_size : Value} {od_Map_size an_Map_size : Option Addr} {sl_Map_size : Array (Option Value)}
    {p_Map_arrows : Addr} {r_Map_arrows : List Value}
    {f_Map_arrows : Addr} {oc_Map_arrows kV_Map_arrows dc_Map_arrows pm_Map_arrows cd_Map_arrows ct_Map_arrows : Value} {od_Map_arrows an_Map_arrows : Option Addr} {sl_Map_arrows : Array (Option Value)}
    {f_Map__mul : Addr} {oc_Map__mul kV_Map__mul dc_Map__mul pm_Map__mul cd_Map__mul ct_Map__mul : Value} {od_Map__mul an_Map__mul : Option Addr} {sl_Map__mul : Array (Option Value)}
    {f_Map__invert : Addr} {oc_Map__invert kV_Map__invert dc_Map__invert pm_Map__invert cd_Map__invert ct_Map__invert : Value} {od_Map__invert an_Map__invert : Option Addr} {sl_Map__invert : Array (Option Value)}
    {f_Map_power : Addr} {oc_Map_power kV_Map_power dc_Map_power pm_Map_power cd_Map_power ct_Map_power : Value} {od_Map_power an_Map_power : Option Addr} {sl_Map_power : Array (Option Value)}
    {f_Map__eq : Addr} {oc_Map__eq kV_Map__eq dc_Map__eq pm_Map__eq cd_Map__eq ct_Map__eq : Value} {od_Map__eq an_Map__eq : Option Addr} {sl_Map__eq : Array (Option Value)}
    {f_Map__len : Addr} {oc_Map__len kV_Map__len dc_Map__len pm_Map__len cd_Map__len ct_Map__len : Value} {od_Map__len an_Map__len : Option Addr} {sl_Map__len : Array (Option Value)}
    {f_Map__repr : Addr} {oc_Map__repr kV_Map__repr dc_Map__repr pm_Map__repr cd_Map__repr ct_Map__repr : Value} {od_Map__repr an_Map__repr : Option Addr} {sl_Map__repr : Array (Option Value)}
    {C_Session : Addr}
    {f_Session__init : Addr} {oc_Session__init kV_Session__init dc_Session__init pm_Session__init cd_Session__init ct_Session__init : Value} {od_Session__init an_Session__init : Option Addr} {sl_Session__init : Array (Option Value)}
    {p_Session_present : Addr} {r_Session_present : List Value}
    {f_Session_present : Addr} {oc_Session_present kV_Session_present dc_Session_present pm_Session_present cd_Session_present ct_Session_present : Value} {od_Session_present an_Session_present : Option Addr} {sl_Session_present : Array (Option Value)}
    {f_Session_log : Addr} {oc_Session_log kV_Session_log dc_Session_log pm_Session_log cd_Session_log ct_Session_log : Value} {od_Session_log an_Session_log : Option Addr} {sl_Session_log : Array (Option Value)}
    {f_Session_check_next : Addr} {oc_Session_check_next kV_Session_check_next dc_Session_check_next pm_Session_check_next cd_Session_check_next ct_Session_check_next : Value} {od_Session_check_next an_Session_check_next : Option Addr} {sl_Session_check_next : Array (Option Value)}
    {f_Session_change_to : Addr} {oc_Session_change_to kV_Session_change_to dc_Session_change_to pm_Session_change_to cd_Session_change_to ct_Session_change_to : Value} {od_Session_change_to an_Session_change_to : Option Addr} {sl_Session_change_to : Array (Option Value)}
    {f_Session_apply : Addr} {oc_Session_apply kV_Session_apply dc_Session_apply pm_Session_apply cd_Session_apply ct_Session_apply : Value} {od_Session_apply an_Session_apply : Option Addr} {sl_Session_apply : Array (Option Value)}
    {f_Session_raise_to : Addr} {oc_Session_raise_to kV_Session_raise_to dc_Session_raise_to pm_Session_raise_to cd_Session_raise_to ct_Session_raise_to : Value} {od_Session_raise_to an_Session_raise_to : Option Addr} {sl_Session_raise_to : Array (Option Value)}
    {f_Session_do_steps : Addr} {oc_Session_do_steps kV_Session_do_steps dc_Session_do_steps pm_Session_do_steps cd_Session_do_steps ct_Session_do_steps : Value} {od_Session_do_steps an_Session_do_steps : Option Addr} {sl_Session_do_steps : Array (Option Value)}
    {f_Session_undo : Addr} {oc_Session_undo kV_Session_undo dc_Session_undo pm_Session_undo cd_Session_undo ct_Session_undo : Value} {od_Session_undo an_Session_undo : Option Addr} {sl_Session_undo : Array (Option Value)}
    {f_Session_at : Addr} {oc_Session_at kV_Session_at dc_Session_at pm_Session_at cd_Session_at ct_Session_at : Value} {od_Session_at an_Session_at : Option Addr} {sl_Session_at : Array (Option Value)}
    {f_Session_fresh : Addr} {oc_Session_fresh kV_Session_fresh dc_Session_fresh pm_Session_fresh cd_Session_fresh ct_Session_fresh : Value} {od_Session_fresh an_Session_fresh : Option Addr} {sl_Session_fresh : Array (Option Value)}
    {f_Session_clone : Addr} {oc_Session_clone kV_Session_clone dc_Session_clone pm_Session_clone cd_Session_clone ct_Session_clone : Value} {od_Session_clone an_Session_clone : Option Addr} {sl_Session_clone : Array (Option Value)}
    {f_Session__eq : Addr} {oc_Session__eq kV_Session__eq dc_Session__eq pm_Session__eq cd_Session__eq ct_Session__eq : Value} {od_Session__eq an_Session__eq : Option Addr} {sl_Session__eq : Array (Option Value)}
    {f_Session__len : Addr} {oc_Session__len kV_Session__len dc_Session__len pm_Session__len cd_Session__len ct_Session__len : Value} {od_Session__len an_Session__len : Option Addr} {sl_Session__len : Array (Option Value)}
    {f_Session__repr : Addr} {oc_Session__repr kV_Session__repr dc_Session__repr pm_Session__repr cd_Session__repr ct_Session__repr : Value} {od_Session__repr an_Session__repr : Option Addr} {sl_Session__repr : Array (Option Value)}
    {C_KeepingSession : Addr}
    {f_KeepingSession__init c_KeepingSession__init cc_KeepingSession__init : Addr} {oc_KeepingSession__init kV_KeepingSession__init dc_KeepingSession__init pm_KeepingSession__init ct_KeepingSession__init : Value} {od_KeepingSession__init an_KeepingSession__init : Option Addr} {sl_KeepingSession__init : Array (Option Value)}
    {ccl_KeepingSession__init ccc_KeepingSession__init : Value} {cdd_KeepingSession__init ccd_KeepingSession__init : Option Addr} {vs_KeepingSession__init : Array Value} {ccs_KeepingSession__init cso_KeepingSession__init : Array (Option Value)} {cdt_KeepingSession__init : PySem.ClassData}
    {p_KeepingSession_least : Addr} {r_KeepingSession_least : List Value}
    {f_KeepingSession_least : Addr} {oc_KeepingSession_least kV_KeepingSession_least dc_KeepingSession_least pm_KeepingSession_least cd_KeepingSession_least ct_KeepingSession_least : Value} {od_KeepingSession_least an_KeepingSession_least : Option Addr} {sl_KeepingSession_least : Array (Option Value)}
    {f_KeepingSession_check_next c_KeepingSession_check_next cc_KeepingSession_check_next : Addr} {oc_KeepingSession_check_next kV_KeepingSession_check_next dc_KeepingSession_check_next pm_KeepingSession_check_next ct_KeepingSession_check_next : Value} {od_KeepingSession_check_next an_KeepingSession_check_next : Option Addr} {sl_KeepingSession_check_next : Array (Option Value)}
    {ccl_KeepingSession_check_next ccc_KeepingSession_check_next : Value} {cdd_KeepingSession_check_next ccd_KeepingSession_check_next : Option Addr} {vs_KeepingSession_check_next : Array Value} {ccs_KeepingSession_check_next cso_KeepingSession_check_next : Array (Option Value)} {cdt_KeepingSession_check_next : PySem.ClassData}
    {f_KeepingSession_fresh : Addr} {oc_KeepingSession_fresh kV_KeepingSession_fresh dc_KeepingSession_fresh pm_KeepingSession_fresh cd_KeepingSession_fresh ct_KeepingSession_fresh : Value} {od_KeepingSession_fresh an_KeepingSession_fresh : Option Addr} {sl_KeepingSession_fresh : Array (Option Value)}
    {f_KeepingSession__repr : Addr} {oc_KeepingSession__repr kV_KeepingSession__repr dc_KeepingSession__repr pm_KeepingSession__repr cd_KeepingSession__repr ct_KeepingSession__repr : Value} {od_KeepingSession__repr an_KeepingSession__repr : Option Addr} {sl_KeepingSession__repr : Array (Option Value)}
    {C_NothingToUndo : Addr} {nm_NothingToUndo q_NothingToUndo : Str} {N_NothingToUndo : Addr} {bs_NothingToUndo : List Value} {sn_NothingToUndo : List Str} {sub_NothingToUndo : List Value} {ab_NothingToUndo : Bool} {col_NothingToUndo : Option Bool} {dd_NothingToUndo : Option Addr} {m0_NothingToUndo m1_NothingToUndo m2_NothingToUndo m3_NothingToUndo m5_NothingToUndo : Option Value}
    {f_NothingToUndo__init : Addr} {oc_NothingToUndo__init kV_NothingToUndo__init dc_NothingToUndo__init pm_NothingToUndo__init cd_NothingToUndo__init ct_NothingToUndo__init : Value} {od_NothingToUndo__init an_NothingToUndo__init : Option Addr} {sl_NothingToUndo__init : Array (Option Value)}
    {C_NotLast : Addr} {nm_NotLast q_NotLast : Str} {N_NotLast : Addr} {bs_NotLast : List Value} {sn_NotLast : List Str} {sub_NotLast : List Value} {ab_NotLast : Bool} {col_NotLast : Option Bool} {dd_NotLast : Option Addr} {m0_NotLast m1_NotLast m2_NotLast m3_NotLast m5_NotLast : Option Value}
    {f_NotLast__init : Addr} {oc_NotLast__init kV_NotLast__init dc_NotLast__init pm_NotLast__init cd_NotLast__init ct_NotLast__init : Value} {od_NotLast__init an_NotLast__init : Option Addr} {sl_NotLast__init : Array (Option Value)}
    {C_TooFew : Addr} {nm_TooFew q_TooFew : Str} {N_TooFew : Addr} {bs_TooFew : List Value} {sn_TooFew : List Str} {sub_TooFew : List Value} {ab_TooFew : Bool} {col_TooFew : Option Bool} {dd_TooFew : Option Addr} {m0_TooFew m1_TooFew m2_TooFew m3_TooFew m5_TooFew : Option Value}
    {f_TooFew__init : Addr} {oc_TooFew__init kV_TooFew__init dc_TooFew__init pm_TooFew__init cd_TooFew__init ct_TooFew__init : Value} {od_TooFew__init an_TooFew__init : Option Addr} {sl_TooFew__init : Array (Option Value)}
    {C_InvalidNumber : Addr} {nm_InvalidNumber q_InvalidNumber : Str} {N_InvalidNumber : Addr} {bs_InvalidNumber : List Value} {sn_InvalidNumber : List Str} {sub_InvalidNumber : List Value} {ab_InvalidNumber : Bool} {col_InvalidNumber : Option Bool} {dd_InvalidNumber : Option Addr} {m0_InvalidNumber m1_InvalidNumber m2_InvalidNumber m3_InvalidNumber m5_InvalidNumber : Option Value}
    {f_InvalidNumber__init : Addr} {oc_InvalidNumber__init kV_InvalidNumber__init dc_InvalidNumber__init pm_InvalidNumber__init cd_InvalidNumber__init ct_InvalidNumber__init : Value} {od_InvalidNumber__init an_InvalidNumber__init : Option Addr} {sl_InvalidNumber__init : Array (Option Value)}
    {C_InvalidSize : Addr} {nm_InvalidSize q_InvalidSize : Str} {N_InvalidSize : Addr} {bs_InvalidSize : List Value} {sn_InvalidSize : List Str} {sub_InvalidSize : List Value} {ab_InvalidSize : Bool} {col_InvalidSize : Option Bool} {dd_InvalidSize : Option Addr} {m0_InvalidSize m1_InvalidSize m2_InvalidSize m3_InvalidSize m5_InvalidSize : Option Value}
    {f_InvalidSize__init : Addr} {oc_InvalidSize__init kV_InvalidSize__init dc_InvalidSize__init pm_InvalidSize__init cd_InvalidSize__init ct_InvalidSize__init : Value} {od_InvalidSize__init an_InvalidSize__init : Option Addr} {sl_InvalidSize__init : Array (Option Value)}
    {C_InvalidElement : Addr} {nm_InvalidElement q_InvalidElement : Str} {N_InvalidElement : Addr} {bs_InvalidElement : List Value} {sn_InvalidElement : List Str} {sub_InvalidElement : List Value} {ab_InvalidElement : Bool} {col_InvalidElement : Option Bool} {dd_InvalidElement : Option Addr} {m0_InvalidElement m1_InvalidElement m2_InvalidElement m3_InvalidElement m5_InvalidElement : Option Value}
    {f_InvalidElement__init : Addr} {oc_InvalidElement__init kV_InvalidElement__init dc_InvalidElement__init pm_InvalidElement__init cd_InvalidElement__init ct_InvalidElement__init : Value} {od_InvalidElement__init an_InvalidElement__init : Option Addr} {sl_InvalidElement__init : Array (Option Value)}
    {C_InvalidMap : Addr} {nm_InvalidMap q_InvalidMap : Str} {N_InvalidMap : Addr} {bs_InvalidMap : List Value} {sn_InvalidMap : List Str} {sub_InvalidMap : List Value} {ab_InvalidMap : Bool} {col_InvalidMap : Option Bool} {dd_InvalidMap : Option Addr} {m0_InvalidMap m1_InvalidMap m2_InvalidMap m3_InvalidMap m5_InvalidMap : Option Value}
    {f_InvalidMap__init : Addr} {oc_InvalidMap__init kV_InvalidMap__init dc_InvalidMap__init pm_InvalidMap__init cd_InvalidMap__init ct_InvalidMap__init : Value} {od_InvalidMap__init an_InvalidMap__init : Option Addr} {sl_InvalidMap__init : Array (Option Value)}
    {C_SizeMismatch : Addr} {nm_SizeMismatch q_SizeMismatch : Str} {N_SizeMismatch : Addr} {bs_SizeMismatch : List Value} {sn_SizeMismatch : List Str} {sub_SizeMismatch : List Value} {ab_SizeMismatch : Bool} {col_SizeMismatch : Option Bool} {dd_SizeMismatch : Option Addr} {m0_SizeMismatch m1_SizeMismatch m2_SizeMismatch m3_SizeMismatch m5_SizeMismatch : Option Value}
    {f_SizeMismatch__init : Addr} {oc_SizeMismatch__init kV_SizeMismatch__init dc_SizeMismatch__init pm_SizeMismatch__init cd_SizeMismatch__init ct_SizeMismatch__init : Value} {od_SizeMismatch__init an_SizeMismatch__init : Option Addr} {sl_SizeMismatch__init : Array (Option Value)}
    {t_MAX_SIZE : Tok}
    {t_MAX_NAME : Tok}
    (a_is_integer : PySem.W.nsIn K mainGlobals "is_integer" = some (some (.ref f_is_integer)))
    (l_is_integer : K.lookup f_is_integer = some ⟨oc_is_integer, od_is_integer, .func (PySem.W.fnOf "is_integer" "is_integer" (defArgs s_is_integer) (defBody s_is_integer) (defScope s_is_integer) .none kV_is_integer dc_is_integer pm_is_integer an_is_integer cd_is_integer ct_is_integer), sl_is_integer⟩)
    (c_is_integer : PySem.W.codeIn K cd_is_integer "is_integer" = true)
    (k_is_integer : PySem.W.keepIn K (.ref f_is_integer) = true)
    (a_in_range : PySem.W.nsIn K mainGlobals "in_range" = some (some (.ref f_in_range)))
    (l_in_range : K.lookup f_in_range = some ⟨oc_in_range, od_in_range, .func (PySem.W.fnOf "in_range" "in_range" (defArgs s_in_range) (defBody s_in_range) (defScope s_in_range) .none kV_in_range dc_in_range pm_in_range an_in_range cd_in_range ct_in_range), sl_in_range⟩)
    (c_in_range : PySem.W.codeIn K cd_in_range "in_range" = true)
    (k_in_range : PySem.W.keepIn K (.ref f_in_range) = true)
    (a_check_size : PySem.W.nsIn K mainGlobals "check_size" = some (some (.ref f_check_size)))
    (l_check_size : K.lookup f_check_size = some ⟨oc_check_size, od_check_size, .func (PySem.W.fnOf "check_size" "check_size" (defArgs s_check_size) (defBody s_check_size) (defScope s_check_size) .none kV_check_size dc_check_size pm_check_size an_check_size cd_check_size ct_check_size), sl_check_size⟩)
    (c_check_size : PySem.W.codeIn K cd_check_size "check_size" = true)
    (k_check_size : PySem.W.keepIn K (.ref f_check_size) = true)
    (a_check_elements : PySem.W.nsIn K mainGlobals "check_elements" = some (some (.ref f_check_elements)))
    (l_check_elements : K.lookup f_check_elements = some ⟨oc_check_elements, od_check_elements, .func (PySem.W.fnOf "check_elements" "check_elements" (defArgs s_check_elements) (defBody s_check_elements) (defScope s_check_elements) .none kV_check_elements dc_check_elements pm_check_elements an_check_elements cd_check_elements ct_check_elements), sl_check_elements⟩)
    (c_check_elements : PySem.W.codeIn K cd_check_elements "check_elements" = true)
    (k_check_elements : PySem.W.keepIn K (.ref f_check_elements) = true)
    (a_are_arrows : PySem.W.nsIn K mainGlobals "are_arrows" = some (some (.ref f_are_arrows)))
    (l_are_arrows : K.lookup f_are_arrows = some ⟨oc_are_arrows, od_are_arrows, .func (PySem.W.fnOf "are_arrows" "are_arrows" (defArgs s_are_arrows) (defBody s_are_arrows) (defScope s_are_arrows) .none kV_are_arrows dc_are_arrows pm_are_arrows an_are_arrows cd_are_arrows ct_are_arrows), sl_are_arrows⟩)
    (c_are_arrows : PySem.W.codeIn K cd_are_arrows "are_arrows" = true)
    (k_are_arrows : PySem.W.keepIn K (.ref f_are_arrows) = true)
    (a_common_size : PySem.W.nsIn K mainGlobals "common_size" = some (some (.ref f_common_size)))
    (l_common_size : K.lookup f_common_size = some ⟨oc_common_size, od_common_size, .func (PySem.W.fnOf "common_size" "common_size" (defArgs s_common_size) (defBody s_common_size) (defScope s_common_size) .none kV_common_size dc_common_size pm_common_size an_common_size cd_common_size ct_common_size), sl_common_size⟩)
    (c_common_size : PySem.W.codeIn K cd_common_size "common_size" = true)
    (k_common_size : PySem.W.keepIn K (.ref f_common_size) = true)
    (a_row_from : PySem.W.nsIn K mainGlobals "row_from" = some (some (.ref f_row_from)))
    (l_row_from : K.lookup f_row_from = some ⟨oc_row_from, od_row_from, .func (PySem.W.fnOf "row_from" "row_from" (defArgs s_row_from) (defBody s_row_from) (defScope s_row_from) .none kV_row_from dc_row_from pm_row_from an_row_from cd_row_from ct_row_from), sl_row_from⟩)
    (c_row_from : PySem.W.codeIn K cd_row_from "row_from" = true)
    (k_row_from : PySem.W.keepIn K (.ref f_row_from) = true)
    (a_moved : PySem.W.nsIn K mainGlobals "moved" = some (some (.ref f_moved)))
    (l_moved : K.lookup f_moved = some ⟨oc_moved, od_moved, .func (PySem.W.fnOf "moved" "moved" (defArgs s_moved) (defBody s_moved) (defScope s_moved) .none kV_moved dc_moved pm_moved an_moved cd_moved ct_moved), sl_moved⟩)
    (c_moved : PySem.W.codeIn K cd_moved "moved" = true)
    (k_moved : PySem.W.keepIn K (.ref f_moved) = true)
    (a_check_map : PySem.W.nsIn K mainGlobals "check_map" = some (some (.ref f_check_map)))
    (l_check_map : K.lookup f_check_map = some ⟨oc_check_map, od_check_map, .func (PySem.W.fnOf "check_map" "check_map" (defArgs s_check_map) (defBody s_check_map) (defScope s_check_map) .none kV_check_map dc_check_map pm_check_map an_check_map cd_check_map ct_check_map), sl_check_map⟩)
    (c_check_map : PySem.W.codeIn K cd_check_map "check_map" = true)
    (k_check_map : PySem.W.keepIn K (.ref f_check_map) = true)
    (a_check_maps : PySem.W.nsIn K mainGlobals "check_maps" = some (some (.ref f_check_maps)))
    (l_check_maps : K.lookup f_check_maps = some ⟨oc_check_maps, od_check_maps, .func (PySem.W.fnOf "check_maps" "check_maps" (defArgs s_check_maps) (defBody s_check_maps) (defScope s_check_maps) .none kV_check_maps dc_check_maps pm_check_maps an_check_maps cd_check_maps ct_check_maps), sl_check_maps⟩)
    (c_check_maps : PySem.W.codeIn K cd_check_maps "check_maps" = true)
    (k_check_maps : PySem.W.keepIn K (.ref f_check_maps) = true)
    (a_is_step : PySem.W.nsIn K mainGlobals "is_step" = some (some (.ref f_is_step)))
    (l_is_step : K.lookup f_is_step = some ⟨oc_is_step, od_is_step, .func (PySem.W.fnOf "is_step" "is_step" (defArgs s_is_step) (defBody s_is_step) (defScope s_is_step) .none kV_is_step dc_is_step pm_is_step an_is_step cd_is_step ct_is_step), sl_is_step⟩)
    (c_is_step : PySem.W.codeIn K cd_is_step "is_step" = true)
    (k_is_step : PySem.W.keepIn K (.ref f_is_step) = true)
    (a_first_invalid : PySem.W.nsIn K mainGlobals "first_invalid" = some (some (.ref f_first_invalid)))
    (l_first_invalid : K.lookup f_first_invalid = some ⟨oc_first_invalid, od_first_invalid, .func (PySem.W.fnOf "first_invalid" "first_invalid" (defArgs s_first_invalid) (defBody s_first_invalid) (defScope s_first_invalid) .none kV_first_invalid dc_first_invalid pm_first_invalid an_first_invalid cd_first_invalid ct_first_invalid), sl_first_invalid⟩)
    (c_first_invalid : PySem.W.codeIn K cd_first_invalid "first_invalid" = true)
    (k_first_invalid : PySem.W.keepIn K (.ref f_first_invalid) = true)
    (a_after_list : PySem.W.nsIn K mainGlobals "after_list" = some (some (.ref f_after_list)))
    (l_after_list : K.lookup f_after_list = some ⟨oc_after_list, od_after_list, .func (PySem.W.fnOf "after_list" "after_list" (defArgs s_after_list) (defBody s_after_list) (defScope s_after_list) .none kV_after_list dc_after_list pm_after_list an_after_list cd_after_list ct_after_list), sl_after_list⟩)
    (c_after_list : PySem.W.codeIn K cd_after_list "after_list" = true)
    (k_after_list : PySem.W.keepIn K (.ref f_after_list) = true)
    (a_is_name : PySem.W.nsIn K mainGlobals "is_name" = some (some (.ref f_is_name)))
    (l_is_name : K.lookup f_is_name = some ⟨oc_is_name, od_is_name, .func (PySem.W.fnOf "is_name" "is_name" (defArgs s_is_name) (defBody s_is_name) (defScope s_is_name) .none kV_is_name dc_is_name pm_is_name an_is_name cd_is_name ct_is_name), sl_is_name⟩)
    (c_is_name : PySem.W.codeIn K cd_is_name "is_name" = true)
    (k_is_name : PySem.W.keepIn K (.ref f_is_name) = true)
    (a_check_user : PySem.W.nsIn K mainGlobals "check_user" = some (some (.ref f_check_user)))
    (l_check_user : K.lookup f_check_user = some ⟨oc_check_user, od_check_user, .func (PySem.W.fnOf "check_user" "check_user" (defArgs s_check_user) (defBody s_check_user) (defScope s_check_user) .none kV_check_user dc_check_user pm_check_user an_check_user cd_check_user ct_check_user), sl_check_user⟩)
    (c_check_user : PySem.W.codeIn K cd_check_user "check_user" = true)
    (k_check_user : PySem.W.keepIn K (.ref f_check_user) = true)
    (a_l_hand : PySem.W.nsIn K mainGlobals "_law_hand" = some (some (.ref f_l_hand)))
    (l_l_hand : K.lookup f_l_hand = some ⟨oc_l_hand, od_l_hand, .func (PySem.W.fnOf "_law_hand" "_law_hand" (defArgs s_l_hand) (defBody s_l_hand) (defScope s_l_hand) .none kV_l_hand dc_l_hand pm_l_hand an_l_hand cd_l_hand ct_l_hand), sl_l_hand⟩)
    (c_l_hand : PySem.W.codeIn K cd_l_hand "_law_hand" = true)
    (k_l_hand : PySem.W.keepIn K (.ref f_l_hand) = true)
    (a_l_draw : PySem.W.nsIn K mainGlobals "_law_draw" = some (some (.ref f_l_draw)))
    (l_l_draw : K.lookup f_l_draw = some ⟨oc_l_draw, od_l_draw, .func (PySem.W.fnOf "_law_draw" "_law_draw" (defArgs s_l_draw) (defBody s_l_draw) (defScope s_l_draw) .none kV_l_draw dc_l_draw pm_l_draw an_l_draw cd_l_draw ct_l_draw), sl_l_draw⟩)
    (c_l_draw : PySem.W.codeIn K cd_l_draw "_law_draw" = true)
    (k_l_draw : PySem.W.keepIn K (.ref f_l_draw) = true)
    (a_l_arrows : PySem.W.nsIn K mainGlobals "_law_arrows" = some (some (.ref f_l_arrows)))
    (l_l_arrows : K.lookup f_l_arrows = some ⟨oc_l_arrows, od_l_arrows, .func (PySem.W.fnOf "_law_arrows" "_law_arrows" (defArgs s_l_arrows) (defBody s_l_arrows) (defScope s_l_arrows) .none kV_l_arrows dc_l_arrows pm_l_arrows an_l_arrows cd_l_arrows ct_l_arrows), sl_l_arrows⟩)
    (c_l_arrows : PySem.W.codeIn K cd_l_arrows "_law_arrows" = true)
    (k_l_arrows : PySem.W.keepIn K (.ref f_l_arrows) = true)
    (a_l_product : PySem.W.nsIn K mainGlobals "_law_product" = some (some (.ref f_l_product)))
    (l_l_product : K.lookup f_l_product = some ⟨oc_l_product, od_l_product, .func (PySem.W.fnOf "_law_product" "_law_product" (defArgs s_l_product) (defBody s_l_product) (defScope s_l_product) .none kV_l_product dc_l_product pm_l_product an_l_product cd_l_product ct_l_product), sl_l_product⟩)
    (c_l_product : PySem.W.codeIn K cd_l_product "_law_product" = true)
    (k_l_product : PySem.W.keepIn K (.ref f_l_product) = true)
    (a_l_full : PySem.W.nsIn K mainGlobals "_law_full" = some (some (.ref f_l_full)))
    (l_l_full : K.lookup f_l_full = some ⟨oc_l_full, od_l_full, .func (PySem.W.fnOf "_law_full" "_law_full" (defArgs s_l_full) (defBody s_l_full) (defScope s_l_full) .none kV_l_full dc_l_full pm_l_full an_l_full cd_l_full ct_l_full), sl_l_full⟩)
    (c_l_full : PySem.W.codeIn K cd_l_full "_law_full" = true)
    (k_l_full : PySem.W.keepIn K (.ref f_l_full) = true)
    (a_l_inverse : PySem.W.nsIn K mainGlobals "_law_inverse" = some (some (.ref f_l_inverse)))
    (l_l_inverse : K.lookup f_l_inverse = some ⟨oc_l_inverse, od_l_inverse, .func (PySem.W.fnOf "_law_inverse" "_law_inverse" (defArgs s_l_inverse) (defBody s_l_inverse) (defScope s_l_inverse) .none kV_l_inverse dc_l_inverse pm_l_inverse an_l_inverse cd_l_inverse ct_l_inverse), sl_l_inverse⟩)
    (c_l_inverse : PySem.W.codeIn K cd_l_inverse "_law_inverse" = true)
    (k_l_inverse : PySem.W.keepIn K (.ref f_l_inverse) = true)
    (a_l_power : PySem.W.nsIn K mainGlobals "_law_power" = some (some (.ref f_l_power)))
    (l_l_power : K.lookup f_l_power = some ⟨oc_l_power, od_l_power, .func (PySem.W.fnOf "_law_power" "_law_power" (defArgs s_l_power) (defBody s_l_power) (defScope s_l_power) .none kV_l_power dc_l_power pm_l_power an_l_power cd_l_power ct_l_power), sl_l_power⟩)
    (c_l_power : PySem.W.codeIn K cd_l_power "_law_power" = true)
    (k_l_power : PySem.W.keepIn K (.ref f_l_power) = true)
    (a_l_step : PySem.W.nsIn K mainGlobals "_law_step" = some (some (.ref f_l_step)))
    (l_l_step : K.lookup f_l_step = some ⟨oc_l_step, od_l_step, .func (PySem.W.fnOf "_law_step" "_law_step" (defArgs s_l_step) (defBody s_l_step) (defScope s_l_step) .none kV_l_step dc_l_step pm_l_step an_l_step cd_l_step ct_l_step), sl_l_step⟩)
    (c_l_step : PySem.W.codeIn K cd_l_step "_law_step" = true)
    (k_l_step : PySem.W.keepIn K (.ref f_l_step) = true)
    (a_l_stepped : PySem.W.nsIn K mainGlobals "_law_stepped" = some (some (.ref f_l_stepped)))
    (l_l_stepped : K.lookup f_l_stepped = some ⟨oc_l_stepped, od_l_stepped, .func (PySem.W.fnOf "_law_stepped" "_law_stepped" (defArgs s_l_stepped) (defBody s_l_stepped) (defScope s_l_stepped) .none kV_l_stepped dc_l_stepped pm_l_stepped an_l_stepped cd_l_stepped ct_l_stepped), sl_l_stepped⟩)
    (c_l_stepped : PySem.W.codeIn K cd_l_stepped "_law_stepped" = true)
    (k_l_stepped : PySem.W.keepIn K (.ref f_l_stepped) = true)
    (a_l_caught : PySem.W.nsIn K mainGlobals "_law_caught" = some (some (.ref f_l_caught)))
    (l_l_caught : K.lookup f_l_caught = some ⟨oc_l_caught, od_l_caught, .func (PySem.W.fnOf "_law_caught" "_law_caught" (defArgs s_l_caught) (defBody s_l_caught) (defScope s_l_caught) .none kV_l_caught dc_l_caught pm_l_caught an_l_caught cd_l_caught ct_l_caught), sl_l_caught⟩)
    (c_l_caught : PySem.W.codeIn K cd_l_caught "_law_caught" = true)
    (k_l_caught : PySem.W.keepIn K (.ref f_l_caught) = true)
    (a_l_act : PySem.W.nsIn K mainGlobals "_law_act" = some (some (.ref f_l_act)))
    (l_l_act : K.lookup f_l_act = some ⟨oc_l_act, od_l_act, .func (PySem.W.fnOf "_law_act" "_law_act" (defArgs s_l_act) (defBody s_l_act) (defScope s_l_act) .none kV_l_act dc_l_act pm_l_act an_l_act cd_l_act ct_l_act), sl_l_act⟩)
    (c_l_act : PySem.W.codeIn K cd_l_act "_law_act" = true)
    (k_l_act : PySem.W.keepIn K (.ref f_l_act) = true)
    (a_l_undone : PySem.W.nsIn K mainGlobals "_law_undone" = some (some (.ref f_l_undone)))
    (l_l_undone : K.lookup f_l_undone = some ⟨oc_l_undone, od_l_undone, .func (PySem.W.fnOf "_law_undone" "_law_undone" (defArgs s_l_undone) (defBody s_l_undone) (defScope s_l_undone) .none kV_l_undone dc_l_undone pm_l_undone an_l_undone (.ref c_l_undone) ct_l_undone), sl_l_undone⟩)
    (cd_l_undone : PySem.W.codeIn K (.ref c_l_undone) "_law_undone" = true)
    (k_l_undone : PySem.W.keepIn K (.ref f_l_undone) = true)
    (tm_l_undone : P_l_undone = 828)
    (hd_l_undone : PySem.W.codeHdIn K c_l_undone P_l_undone = true)
    (nt_l_undone : K.lookup P_l_undone = none)
    (a_l_shows : PySem.W.nsIn K mainGlobals "_law_shows" = some (some (.ref f_l_shows)))
    (l_l_shows : K.lookup f_l_shows = some ⟨oc_l_shows, od_l_shows, .func (PySem.W.fnOf "_law_shows" "_law_shows" (defArgs s_l_shows) (defBody s_l_shows) (defScope s_l_shows) .none kV_l_shows dc_l_shows pm_l_shows an_l_shows cd_l_shows ct_l_shows), sl_l_shows⟩)
    (c_l_shows : PySem.W.codeIn K cd_l_shows "_law_shows" = true)
    (k_l_shows : PySem.W.keepIn K (.ref f_l_shows) = true)
    (a_l_model : PySem.W.nsIn K mainGlobals "_law_model" = some (some (.ref f_l_model)))
    (l_l_model : K.lookup f_l_model = some ⟨oc_l_model, od_l_model, .func (PySem.W.fnOf "_law_model" "_law_model" (defArgs s_l_model) (defBody s_l_model) (defScope s_l_model) .none kV_l_model dc_l_model pm_l_model an_l_model cd_l_model ct_l_model), sl_l_model⟩)
    (c_l_model : PySem.W.codeIn K cd_l_model "_law_model" = true)
    (k_l_model : PySem.W.keepIn K (.ref f_l_model) = true)
    (a_l_user : PySem.W.nsIn K mainGlobals "_law_user" = some (some (.ref f_l_user)))
    (l_l_user : K.lookup f_l_user = some ⟨oc_l_user, od_l_user, .func (PySem.W.fnOf "_law_user" "_law_user" (defArgs s_l_user) (defBody s_l_user) (defScope s_l_user) .none kV_l_user dc_l_user pm_l_user an_l_user cd_l_user ct_l_user), sl_l_user⟩)
    (c_l_user : PySem.W.codeIn K cd_l_user "_law_user" = true)
    (k_l_user : PySem.W.keepIn K (.ref f_l_user) = true)
    (a_l_same : PySem.W.nsIn K mainGlobals "_law_same" = some (some (.ref f_l_same)))
    (l_l_same : K.lookup f_l_same = some ⟨oc_l_same, od_l_same, .func (PySem.W.fnOf "_law_same" "_law_same" (defArgs s_l_same) (defBody s_l_same) (defScope s_l_same) .none kV_l_same dc_l_same pm_l_same an_l_same cd_l_same ct_l_same), sl_l_same⟩)
    (c_l_same : PySem.W.codeIn K cd_l_same "_law_same" = true)
    (k_l_same : PySem.W.keepIn K (.ref f_l_same) = true)
    (a_l_unlike : PySem.W.nsIn K mainGlobals "_law_unlike" = some (some (.ref f_l_unlike)))
    (l_l_unlike : K.lookup f_l_unlike = some ⟨oc_l_unlike, od_l_unlike, .func (PySem.W.fnOf "_law_unlike" "_law_unlike" (defArgs s_l_unlike) (defBody s_l_unlike) (defScope s_l_unlike) .none kV_l_unlike dc_l_unlike pm_l_unlike an_l_unlike cd_l_unlike ct_l_unlike), sl_l_unlike⟩)
    (c_l_unlike : PySem.W.codeIn K cd_l_unlike "_law_unlike" = true)
    (k_l_unlike : PySem.W.keepIn K (.ref f_l_unlike) = true)
    (a_l_keeping : PySem.W.nsIn K mainGlobals "_law_keeping" = some (some (.ref f_l_keeping)))
    (l_l_keeping : K.lookup f_l_keeping = some ⟨oc_l_keeping, od_l_keeping, .func (PySem.W.fnOf "_law_keeping" "_law_keeping" (defArgs s_l_keeping) (defBody s_l_keeping) (defScope s_l_keeping) .none kV_l_keeping dc_l_keeping pm_l_keeping an_l_keeping cd_l_keeping ct_l_keeping), sl_l_keeping⟩)
    (c_l_keeping : PySem.W.codeIn K cd_l_keeping "_law_keeping" = true)
    (k_l_keeping : PySem.W.keepIn K (.ref f_l_keeping) = true)
    (a_law : PySem.W.nsIn K mainGlobals "law" = some (some (.ref f_law)))
    (l_law : K.lookup f_law = some ⟨oc_law, od_law, .func (PySem.W.fnOf "law" "law" (defArgs s_law) (defBody s_law) (defScope s_law) .none kV_law dc_law pm_law an_law cd_law ct_law), sl_law⟩)
    (c_law : PySem.W.codeIn K cd_law "law" = true)
    (k_law : PySem.W.keepIn K (.ref f_law) = true)
    (a_Map : PySem.W.nsIn K mainGlobals "Map" = some (some (.ref C_Map)))
    (pg_Map : PySem.W.plainGet K C_Map Str.empty = true)
    (hd_Map : PySem.W.hasDictIn K C_Map = true)
    (po_Map : PySem.W.plainOver K C_Map = true)
    (sa_Map : PySem.W.findIn K (.ref C_Map) "__setattr__" = some (some (.builtin "object.__setattr__")))
    (sf_Map : PySem.W.selfFirst K C_Map = true)
    (ca_Map : PySem.W.findIn K (.ref C_Map) "__class__" = some (some (.builtin "object.__class__")))
    (cn_Map : PySem.W.specialIn K (.builtin "object.__class__") "__get__" = some (some (.builtin "getset_descriptor.__get__")))
    (ct_Map : PySem.W.takesIn K (.builtin "object.__class__") = some true)
    (cm_Map : PySem.W.mroIn K C_Map (.type "object") = some true)
    (kc_Map : PySem.W.keepIn K (.ref C_Map) = true)
    (kit_int_Map : PySem.W.kitOne K (.ref C_Map) (.type "int") = some false)
    (kit_bool_Map : PySem.W.kitOne K (.ref C_Map) (.type "bool") = some false)
    (kit_str_Map : PySem.W.kitOne K (.ref C_Map) (.type "str") = some false)
    (kit_tuple_Map : PySem.W.kitOne K (.ref C_Map) (.type "tuple") = some false)
    (kit_list_Map : PySem.W.kitOne K (.ref C_Map) (.type "list") = some false)
    (kn_NoneType_Map : PySem.W.kitOne K (.type "NoneType") (.ref C_Map) = some false)
    (nf_NoneType_Map : PySem.W.notFirst K C_Map (.type "NoneType") = true)
    (kn_int_Map : PySem.W.kitOne K (.type "int") (.ref C_Map) = some false)
    (nf_int_Map : PySem.W.notFirst K C_Map (.type "int") = true)
    (kn_bool_Map : PySem.W.kitOne K (.type "bool") (.ref C_Map) = some false)
    (nf_bool_Map : PySem.W.notFirst K C_Map (.type "bool") = true)
    (kn_str_Map : PySem.W.kitOne K (.type "str") (.ref C_Map) = some false)
    (nf_str_Map : PySem.W.notFirst K C_Map (.type "str") = true)
    (kn_list_Map : PySem.W.kitOne K (.type "list") (.ref C_Map) = some false)
    (nf_list_Map : PySem.W.notFirst K C_Map (.type "list") = true)
    (kn_dict_Map : PySem.W.kitOne K (.type "dict") (.ref C_Map) = some false)
    (nf_dict_Map : PySem.W.notFirst K C_Map (.type "dict") = true)
    (kn_tuple_Map : PySem.W.kitOne K (.type "tuple") (.ref C_Map) = some false)
    (nf_tuple_Map : PySem.W.notFirst K C_Map (.type "tuple") = true)
    (self_Map : PySem.W.kitOne K (.ref C_Map) (.ref C_Map) = some true)
    (na_own_size_Map : PySem.W.findIn K (.ref C_Map) "own_size" = some none)
    (na_own_arrows_Map : PySem.W.findIn K (.ref C_Map) "own_arrows" = some none)
    (ne_Map : PySem.W.findIn K (.ref C_Map) "__ne__" = some (some (.builtin "object.__ne__")))
    (m_Map__init : PySem.W.findIn K (.ref C_Map) "__init__" = some (some (.ref f_Map__init)))
    (i_Map__init : PySem.W.isFn K (.ref f_Map__init) = true)
    (l_Map__init : K.lookup f_Map__init = some ⟨oc_Map__init, od_Map__init, .func (PySem.W.fnOf "__init__" "Map.__init__" (defArgs s_Map__init) (defBody s_Map__init) (defScope s_Map__init) .none kV_Map__init dc_Map__init pm_Map__init an_Map__init cd_Map__init ct_Map__init), sl_Map__init⟩)
    (c_Map__init : PySem.W.codeIn K cd_Map__init "Map.__init__" = true)
    (k_Map__init : PySem.W.keepIn K (.ref f_Map__init) = true)
    (mk_Map : PySem.W.makesIn K C_Map = true)
    (rd_Map : PySem.W.readsIn K C_Map (.type "type") = true)
    (ga_Map : PySem.W.specialIn K (.ref C_Map) "__getattribute__" = some (some (.builtin "type.__getattribute__")))
    (at_Map_identity : PySem.W.findCls K (.ref C_Map) (.type "type") "identity" = some (.get (.builtin "classmethod.__get__") (.ref p_Map_identity) .none (.ref C_Map)))
    (rc_Map_identity : PySem.W.recIn K p_Map_identity "classmethod" = some (.ref f_Map_identity :: r_Map_identity))
    (fi_Map_identity : PySem.W.fnIn K f_Map_identity = true)
    (l_Map_identity : K.lookup f_Map_identity = some ⟨oc_Map_identity, od_Map_identity, .func (PySem.W.fnOf "identity" "Map.identity" (defArgs s_Map_identity) (defBody s_Map_identity) (defScope s_Map_identity) .none kV_Map_identity dc_Map_identity pm_Map_identity an_Map_identity cd_Map_identity ct_Map_identity), sl_Map_identity⟩)
    (c_Map_identity : PySem.W.codeIn K cd_Map_identity "Map.identity" = true)
    (k_Map_identity : PySem.W.keepIn K (.ref f_Map_identity) = true)
    (at_Map_cycle : PySem.W.findCls K (.ref C_Map) (.type "type") "cycle" = some (.get (.builtin "classmethod.__get__") (.ref p_Map_cycle) .none (.ref C_Map)))
    (rc_Map_cycle : PySem.W.recIn K p_Map_cycle "classmethod" = some (.ref f_Map_cycle :: r_Map_cycle))
    (fi_Map_cycle : PySem.W.fnIn K f_Map_cycle = true)
    (l_Map_cycle : K.lookup f_Map_cycle = some ⟨oc_Map_cycle, od_Map_cycle, .func (PySem.W.fnOf "cycle" "Map.cycle" (defArgs s_Map_cycle) (defBody s_Map_cycle) (defScope s_Map_cycle) .none kV_Map_cycle dc_Map_cycle pm_Map_cycle an_Map_cycle cd_Map_cycle ct_Map_cycle), sl_Map_cycle⟩)
    (c_Map_cycle : PySem.W.codeIn K cd_Map_cycle "Map.cycle" = true)
    (k_Map_cycle : PySem.W.keepIn K (.ref f_Map_cycle) = true)
    (m_Map_size : PySem.W.findIn K (.ref C_Map) "size" = some (some (.ref p_Map_size)))
    (s_get_Map_size : PySem.W.specialIn K (.ref p_Map_size) "__get__" = some (some (.builtin "property.__get__")))
    (tk_Map_size : PySem.W.takesIn K (.ref p_Map_size) = some true)
    (rc_Map_size : PySem.W.recIn K p_Map_size "property" = some (.ref f_Map_size :: r_Map_size))
    (l_Map_size : K.lookup f_Map_size = some ⟨oc_Map_size, od_Map_size, .func (PySem.W.fnOf "size" "Map.size" (defArgs s_Map_size) (defBody s_Map_size) (defScope s_Map_size) .none kV_Map_size dc_Map_size pm_Map_size an_Map_size cd_Map_size ct_Map_size), sl_Map_size⟩)
    (c_Map_size : PySem.W.codeIn K cd_Map_size "Map.size" = true)
    (k_Map_size : PySem.W.keepIn K (.ref f_Map_size) = true)
    (m_Map_arrows : PySem.W.findIn K (.ref C_Map) "arrows" = some (some (.ref p_Map_arrows)))
    (s_get_Map_arrows : PySem.W.specialIn K (.ref p_Map_arrows) "__get__" = some (some (.builtin "property.__get__")))
    (tk_Map_arrows : PySem.W.takesIn K (.ref p_Map_arrows) = some true)
    (rc_Map_arrows : PySem.W.recIn K p_Map_arrows "property" = some (.ref f_Map_arrows :: r_Map_arrows))
    (l_Map_arrows : K.lookup f_Map_arrows = some ⟨oc_Map_arrows, od_Map_arrows, .func (PySem.W.fnOf "arrows" "Map.arrows" (defArgs s_Map_arrows) (defBody s_Map_arrows) (defScope s_Map_arrows) .none kV_Map_arrows dc_Map_arrows pm_Map_arrows an_Map_arrows cd_Map_arrows ct_Map_arrows), sl_Map_arrows⟩)
    (c_Map_arrows : PySem.W.codeIn K cd_Map_arrows "Map.arrows" = true)
    (k_Map_arrows : PySem.W.keepIn K (.ref f_Map_arrows) = true)
    (m_Map__mul : PySem.W.findIn K (.ref C_Map) "__mul__" = some (some (.ref f_Map__mul)))
    (i_Map__mul : PySem.W.isFn K (.ref f_Map__mul) = true)
    (l_Map__mul : K.lookup f_Map__mul = some ⟨oc_Map__mul, od_Map__mul, .func (PySem.W.fnOf "__mul__" "Map.__mul__" (defArgs s_Map__mul) (defBody s_Map__mul) (defScope s_Map__mul) .none kV_Map__mul dc_Map__mul pm_Map__mul an_Map__mul cd_Map__mul ct_Map__mul), sl_Map__mul⟩)
    (c_Map__mul : PySem.W.codeIn K cd_Map__mul "Map.__mul__" = true)
    (k_Map__mul : PySem.W.keepIn K (.ref f_Map__mul) = true)
    (m_Map__invert : PySem.W.findIn K (.ref C_Map) "__invert__" = some (some (.ref f_Map__invert)))
    (i_Map__invert : PySem.W.isFn K (.ref f_Map__invert) = true)
    (l_Map__invert : K.lookup f_Map__invert = some ⟨oc_Map__invert, od_Map__invert, .func (PySem.W.fnOf "__invert__" "Map.__invert__" (defArgs s_Map__invert) (defBody s_Map__invert) (defScope s_Map__invert) .none kV_Map__invert dc_Map__invert pm_Map__invert an_Map__invert cd_Map__invert ct_Map__invert), sl_Map__invert⟩)
    (c_Map__invert : PySem.W.codeIn K cd_Map__invert "Map.__invert__" = true)
    (k_Map__invert : PySem.W.keepIn K (.ref f_Map__invert) = true)
    (m_Map_power : PySem.W.findIn K (.ref C_Map) "power" = some (some (.ref f_Map_power)))
    (i_Map_power : PySem.W.isFn K (.ref f_Map_power) = true)
    (l_Map_power : K.lookup f_Map_power = some ⟨oc_Map_power, od_Map_power, .func (PySem.W.fnOf "power" "Map.power" (defArgs s_Map_power) (defBody s_Map_power) (defScope s_Map_power) .none kV_Map_power dc_Map_power pm_Map_power an_Map_power cd_Map_power ct_Map_power), sl_Map_power⟩)
    (c_Map_power : PySem.W.codeIn K cd_Map_power "Map.power" = true)
    (k_Map_power : PySem.W.keepIn K (.ref f_Map_power) = true)
    (m_Map__eq : PySem.W.findIn K (.ref C_Map) "__eq__" = some (some (.ref f_Map__eq)))
    (i_Map__eq : PySem.W.isFn K (.ref f_Map__eq) = true)
    (l_Map__eq : K.lookup f_Map__eq = some ⟨oc_Map__eq, od_Map__eq, .func (PySem.W.fnOf "__eq__" "Map.__eq__" (defArgs s_Map__eq) (defBody s_Map__eq) (defScope s_Map__eq) .none kV_Map__eq dc_Map__eq pm_Map__eq an_Map__eq cd_Map__eq ct_Map__eq), sl_Map__eq⟩)
    (c_Map__eq : PySem.W.codeIn K cd_Map__eq "Map.__eq__" = true)
    (k_Map__eq : PySem.W.keepIn K (.ref f_Map__eq) = true)
    (m_Map__len : PySem.W.findIn K (.ref C_Map) "__len__" = some (some (.ref f_Map__len)))
    (i_Map__len : PySem.W.isFn K (.ref f_Map__len) = true)
    (l_Map__len : K.lookup f_Map__len = some ⟨oc_Map__len, od_Map__len, .func (PySem.W.fnOf "__len__" "Map.__len__" (defArgs s_Map__len) (defBody s_Map__len) (defScope s_Map__len) .none kV_Map__len dc_Map__len pm_Map__len an_Map__len cd_Map__len ct_Map__len), sl_Map__len⟩)
    (c_Map__len : PySem.W.codeIn K cd_Map__len "Map.__len__" = true)
    (k_Map__len : PySem.W.keepIn K (.ref f_Map__len) = true)
    (m_Map__repr : PySem.W.findIn K (.ref C_Map) "__repr__" = some (some (.ref f_Map__repr)))
    (i_Map__repr : PySem.W.isFn K (.ref f_Map__repr) = true)
    (l_Map__repr : K.lookup f_Map__repr = some ⟨oc_Map__repr, od_Map__repr, .func (PySem.W.fnOf "__repr__" "Map.__repr__" (defArgs s_Map__repr) (defBody s_Map__repr) (defScope s_Map__repr) .none kV_Map__repr dc_Map__repr pm_Map__repr an_Map__repr cd_Map__repr ct_Map__repr), sl_Map__repr⟩)
    (c_Map__repr : PySem.W.codeIn K cd_Map__repr "Map.__repr__" = true)
    (k_Map__repr : PySem.W.keepIn K (.ref f_Map__repr) = true)
    (a_Session : PySem.W.nsIn K mainGlobals "Session" = some (some (.ref C_Session)))
    (pg_Session : PySem.W.plainGet K C_Session Str.empty = true)
    (hd_Session : PySem.W.hasDictIn K C_Session = true)
    (po_Session : PySem.W.plainOver K C_Session = true)
    (sa_Session : PySem.W.findIn K (.ref C_Session) "__setattr__" = some (some (.builtin "object.__setattr__")))
    (sf_Session : PySem.W.selfFirst K C_Session = true)
    (ca_Session : PySem.W.findIn K (.ref C_Session) "__class__" = some (some (.builtin "object.__class__")))
    (cn_Session : PySem.W.specialIn K (.builtin "object.__class__") "__get__" = some (some (.builtin "getset_descriptor.__get__")))
    (ct_Session : PySem.W.takesIn K (.builtin "object.__class__") = some true)
    (cm_Session : PySem.W.mroIn K C_Session (.type "object") = some true)
    (kc_Session : PySem.W.keepIn K (.ref C_Session) = true)
    (kit_int_Session : PySem.W.kitOne K (.ref C_Session) (.type "int") = some false)
    (kit_bool_Session : PySem.W.kitOne K (.ref C_Session) (.type "bool") = some false)
    (kn_list_Session : PySem.W.kitOne K (.type "list") (.ref C_Session) = some false)
    (nf_list_Session : PySem.W.notFirst K C_Session (.type "list") = true)
    (self_Session : PySem.W.kitOne K (.ref C_Session) (.ref C_Session) = some true)
    (na_own_present_Session : PySem.W.findIn K (.ref C_Session) "own_present" = some none)
    (na_own_log_Session : PySem.W.findIn K (.ref C_Session) "own_log" = some none)
    (na_own_earlier_Session : PySem.W.findIn K (.ref C_Session) "own_earlier" = some none)
    (ne_Session : PySem.W.findIn K (.ref C_Session) "__ne__" = some (some (.builtin "object.__ne__")))
    (m_Session__init : PySem.W.findIn K (.ref C_Session) "__init__" = some (some (.ref f_Session__init)))
    (i_Session__init : PySem.W.isFn K (.ref f_Session__init) = true)
    (l_Session__init : K.lookup f_Session__init = some ⟨oc_Session__init, od_Session__init, .func (PySem.W.fnOf "__init__" "Session.__init__" (defArgs s_Session__init) (defBody s_Session__init) (defScope s_Session__init) .none kV_Session__init dc_Session__init pm_Session__init an_Session__init cd_Session__init ct_Session__init), sl_Session__init⟩)
    (c_Session__init : PySem.W.codeIn K cd_Session__init "Session.__init__" = true)
    (k_Session__init : PySem.W.keepIn K (.ref f_Session__init) = true)
    (mk_Session : PySem.W.makesIn K C_Session = true)
    (m_Session_present : PySem.W.findIn K (.ref C_Session) "present" = some (some (.ref p_Session_present)))
    (s_get_Session_present : PySem.W.specialIn K (.ref p_Session_present) "__get__" = some (some (.builtin "property.__get__")))
    (tk_Session_present : PySem.W.takesIn K (.ref p_Session_present) = some true)
    (rc_Session_present : PySem.W.recIn K p_Session_present "property" = some (.ref f_Session_present :: r_Session_present))
    (l_Session_present : K.lookup f_Session_present = some ⟨oc_Session_present, od_Session_present, .func (PySem.W.fnOf "present" "Session.present" (defArgs s_Session_present) (defBody s_Session_present) (defScope s_Session_present) .none kV_Session_present dc_Session_present pm_Session_present an_Session_present cd_Session_present ct_Session_present), sl_Session_present⟩)
    (c_Session_present : PySem.W.codeIn K cd_Session_present "Session.present" = true)
    (k_Session_present : PySem.W.keepIn K (.ref f_Session_present) = true)
    (m_Session_log : PySem.W.findIn K (.ref C_Session) "log" = some (some (.ref f_Session_log)))
    (i_Session_log : PySem.W.isFn K (.ref f_Session_log) = true)
    (l_Session_log : K.lookup f_Session_log = some ⟨oc_Session_log, od_Session_log, .func (PySem.W.fnOf "log" "Session.log" (defArgs s_Session_log) (defBody s_Session_log) (defScope s_Session_log) .none kV_Session_log dc_Session_log pm_Session_log an_Session_log cd_Session_log ct_Session_log), sl_Session_log⟩)
    (c_Session_log : PySem.W.codeIn K cd_Session_log "Session.log" = true)
    (k_Session_log : PySem.W.keepIn K (.ref f_Session_log) = true)
    (m_Session_check_next : PySem.W.findIn K (.ref C_Session) "check_next" = some (some (.ref f_Session_check_next)))
    (i_Session_check_next : PySem.W.isFn K (.ref f_Session_check_next) = true)
    (l_Session_check_next : K.lookup f_Session_check_next = some ⟨oc_Session_check_next, od_Session_check_next, .func (PySem.W.fnOf "check_next" "Session.check_next" (defArgs s_Session_check_next) (defBody s_Session_check_next) (defScope s_Session_check_next) .none kV_Session_check_next dc_Session_check_next pm_Session_check_next an_Session_check_next cd_Session_check_next ct_Session_check_next), sl_Session_check_next⟩)
    (c_Session_check_next : PySem.W.codeIn K cd_Session_check_next "Session.check_next" = true)
    (k_Session_check_next : PySem.W.keepIn K (.ref f_Session_check_next) = true)
    (m_Session_change_to : PySem.W.findIn K (.ref C_Session) "change_to" = some (some (.ref f_Session_change_to)))
    (i_Session_change_to : PySem.W.isFn K (.ref f_Session_change_to) = true)
    (l_Session_change_to : K.lookup f_Session_change_to = some ⟨oc_Session_change_to, od_Session_change_to, .func (PySem.W.fnOf "change_to" "Session.change_to" (defArgs s_Session_change_to) (defBody s_Session_change_to) (defScope s_Session_change_to) .none kV_Session_change_to dc_Session_change_to pm_Session_change_to an_Session_change_to cd_Session_change_to ct_Session_change_to), sl_Session_change_to⟩)
    (c_Session_change_to : PySem.W.codeIn K cd_Session_change_to "Session.change_to" = true)
    (k_Session_change_to : PySem.W.keepIn K (.ref f_Session_change_to) = true)
    (m_Session_apply : PySem.W.findIn K (.ref C_Session) "apply" = some (some (.ref f_Session_apply)))
    (i_Session_apply : PySem.W.isFn K (.ref f_Session_apply) = true)
    (l_Session_apply : K.lookup f_Session_apply = some ⟨oc_Session_apply, od_Session_apply, .func (PySem.W.fnOf "apply" "Session.apply" (defArgs s_Session_apply) (defBody s_Session_apply) (defScope s_Session_apply) .none kV_Session_apply dc_Session_apply pm_Session_apply an_Session_apply cd_Session_apply ct_Session_apply), sl_Session_apply⟩)
    (c_Session_apply : PySem.W.codeIn K cd_Session_apply "Session.apply" = true)
    (k_Session_apply : PySem.W.keepIn K (.ref f_Session_apply) = true)
    (m_Session_raise_to : PySem.W.findIn K (.ref C_Session) "raise_to" = some (some (.ref f_Session_raise_to)))
    (i_Session_raise_to : PySem.W.isFn K (.ref f_Session_raise_to) = true)
    (l_Session_raise_to : K.lookup f_Session_raise_to = some ⟨oc_Session_raise_to, od_Session_raise_to, .func (PySem.W.fnOf "raise_to" "Session.raise_to" (defArgs s_Session_raise_to) (defBody s_Session_raise_to) (defScope s_Session_raise_to) .none kV_Session_raise_to dc_Session_raise_to pm_Session_raise_to an_Session_raise_to cd_Session_raise_to ct_Session_raise_to), sl_Session_raise_to⟩)
    (c_Session_raise_to : PySem.W.codeIn K cd_Session_raise_to "Session.raise_to" = true)
    (k_Session_raise_to : PySem.W.keepIn K (.ref f_Session_raise_to) = true)
    (m_Session_do_steps : PySem.W.findIn K (.ref C_Session) "do_steps" = some (some (.ref f_Session_do_steps)))
    (i_Session_do_steps : PySem.W.isFn K (.ref f_Session_do_steps) = true)
    (l_Session_do_steps : K.lookup f_Session_do_steps = some ⟨oc_Session_do_steps, od_Session_do_steps, .func (PySem.W.fnOf "do_steps" "Session.do_steps" (defArgs s_Session_do_steps) (defBody s_Session_do_steps) (defScope s_Session_do_steps) .none kV_Session_do_steps dc_Session_do_steps pm_Session_do_steps an_Session_do_steps cd_Session_do_steps ct_Session_do_steps), sl_Session_do_steps⟩)
    (c_Session_do_steps : PySem.W.codeIn K cd_Session_do_steps "Session.do_steps" = true)
    (k_Session_do_steps : PySem.W.keepIn K (.ref f_Session_do_steps) = true)
    (m_Session_undo : PySem.W.findIn K (.ref C_Session) "undo" = some (some (.ref f_Session_undo)))
    (i_Session_undo : PySem.W.isFn K (.ref f_Session_undo) = true)
    (l_Session_undo : K.lookup f_Session_undo = some ⟨oc_Session_undo, od_Session_undo, .func (PySem.W.fnOf "undo" "Session.undo" (defArgs s_Session_undo) (defBody s_Session_undo) (defScope s_Session_undo) .none kV_Session_undo dc_Session_undo pm_Session_undo an_Session_undo cd_Session_undo ct_Session_undo), sl_Session_undo⟩)
    (c_Session_undo : PySem.W.codeIn K cd_Session_undo "Session.undo" = true)
    (k_Session_undo : PySem.W.keepIn K (.ref f_Session_undo) = true)
    (m_Session_at : PySem.W.findIn K (.ref C_Session) "at" = some (some (.ref f_Session_at)))
    (i_Session_at : PySem.W.isFn K (.ref f_Session_at) = true)
    (l_Session_at : K.lookup f_Session_at = some ⟨oc_Session_at, od_Session_at, .func (PySem.W.fnOf "at" "Session.at" (defArgs s_Session_at) (defBody s_Session_at) (defScope s_Session_at) .none kV_Session_at dc_Session_at pm_Session_at an_Session_at cd_Session_at ct_Session_at), sl_Session_at⟩)
    (c_Session_at : PySem.W.codeIn K cd_Session_at "Session.at" = true)
    (k_Session_at : PySem.W.keepIn K (.ref f_Session_at) = true)
    (m_Session_fresh : PySem.W.findIn K (.ref C_Session) "fresh" = some (some (.ref f_Session_fresh)))
    (i_Session_fresh : PySem.W.isFn K (.ref f_Session_fresh) = true)
    (l_Session_fresh : K.lookup f_Session_fresh = some ⟨oc_Session_fresh, od_Session_fresh, .func (PySem.W.fnOf "fresh" "Session.fresh" (defArgs s_Session_fresh) (defBody s_Session_fresh) (defScope s_Session_fresh) .none kV_Session_fresh dc_Session_fresh pm_Session_fresh an_Session_fresh cd_Session_fresh ct_Session_fresh), sl_Session_fresh⟩)
    (c_Session_fresh : PySem.W.codeIn K cd_Session_fresh "Session.fresh" = true)
    (k_Session_fresh : PySem.W.keepIn K (.ref f_Session_fresh) = true)
    (m_Session_clone : PySem.W.findIn K (.ref C_Session) "clone" = some (some (.ref f_Session_clone)))
    (i_Session_clone : PySem.W.isFn K (.ref f_Session_clone) = true)
    (l_Session_clone : K.lookup f_Session_clone = some ⟨oc_Session_clone, od_Session_clone, .func (PySem.W.fnOf "clone" "Session.clone" (defArgs s_Session_clone) (defBody s_Session_clone) (defScope s_Session_clone) .none kV_Session_clone dc_Session_clone pm_Session_clone an_Session_clone cd_Session_clone ct_Session_clone), sl_Session_clone⟩)
    (c_Session_clone : PySem.W.codeIn K cd_Session_clone "Session.clone" = true)
    (k_Session_clone : PySem.W.keepIn K (.ref f_Session_clone) = true)
    (m_Session__eq : PySem.W.findIn K (.ref C_Session) "__eq__" = some (some (.ref f_Session__eq)))
    (i_Session__eq : PySem.W.isFn K (.ref f_Session__eq) = true)
    (l_Session__eq : K.lookup f_Session__eq = some ⟨oc_Session__eq, od_Session__eq, .func (PySem.W.fnOf "__eq__" "Session.__eq__" (defArgs s_Session__eq) (defBody s_Session__eq) (defScope s_Session__eq) .none kV_Session__eq dc_Session__eq pm_Session__eq an_Session__eq cd_Session__eq ct_Session__eq), sl_Session__eq⟩)
    (c_Session__eq : PySem.W.codeIn K cd_Session__eq "Session.__eq__" = true)
    (k_Session__eq : PySem.W.keepIn K (.ref f_Session__eq) = true)
    (m_Session__len : PySem.W.findIn K (.ref C_Session) "__len__" = some (some (.ref f_Session__len)))
    (i_Session__len : PySem.W.isFn K (.ref f_Session__len) = true)
    (l_Session__len : K.lookup f_Session__len = some ⟨oc_Session__len, od_Session__len, .func (PySem.W.fnOf "__len__" "Session.__len__" (defArgs s_Session__len) (defBody s_Session__len) (defScope s_Session__len) .none kV_Session__len dc_Session__len pm_Session__len an_Session__len cd_Session__len ct_Session__len), sl_Session__len⟩)
    (c_Session__len : PySem.W.codeIn K cd_Session__len "Session.__len__" = true)
    (k_Session__len : PySem.W.keepIn K (.ref f_Session__len) = true)
    (m_Session__repr : PySem.W.findIn K (.ref C_Session) "__repr__" = some (some (.ref f_Session__repr)))
    (i_Session__repr : PySem.W.isFn K (.ref f_Session__repr) = true)
    (l_Session__repr : K.lookup f_Session__repr = some ⟨oc_Session__repr, od_Session__repr, .func (PySem.W.fnOf "__repr__" "Session.__repr__" (defArgs s_Session__repr) (defBody s_Session__repr) (defScope s_Session__repr) .none kV_Session__repr dc_Session__repr pm_Session__repr an_Session__repr cd_Session__repr ct_Session__repr), sl_Session__repr⟩)
    (c_Session__repr : PySem.W.codeIn K cd_Session__repr "Session.__repr__" = true)
    (k_Session__repr : PySem.W.keepIn K (.ref f_Session__repr) = true)
    (a_KeepingSession : PySem.W.nsIn K mainGlobals "KeepingSession" = some (some (.ref C_KeepingSession)))
    (pg_KeepingSession : PySem.W.plainGet K C_KeepingSession Str.empty = true)
    (hd_KeepingSession : PySem.W.hasDictIn K C_KeepingSession = true)
    (po_KeepingSession : PySem.W.plainOver K C_KeepingSession = true)
    (sa_KeepingSession : PySem.W.findIn K (.ref C_KeepingSession) "__setattr__" = some (some (.builtin "object.__setattr__")))
    (sf_KeepingSession : PySem.W.selfFirst K C_KeepingSession = true)
    (ca_KeepingSession : PySem.W.findIn K (.ref C_KeepingSession) "__class__" = some (some (.builtin "object.__class__")))
    (cn_KeepingSession : PySem.W.specialIn K (.builtin "object.__class__") "__get__" = some (some (.builtin "getset_descriptor.__get__")))
    (ct_KeepingSession : PySem.W.takesIn K (.builtin "object.__class__") = some true)
    (cm_KeepingSession : PySem.W.mroIn K C_KeepingSession (.type "object") = some true)
    (kc_KeepingSession : PySem.W.keepIn K (.ref C_KeepingSession) = true)
    (kit_int_KeepingSession : PySem.W.kitOne K (.ref C_KeepingSession) (.type "int") = some false)
    (kit_bool_KeepingSession : PySem.W.kitOne K (.ref C_KeepingSession) (.type "bool") = some false)
    (kit_s_Session_KeepingSession : PySem.W.kitOne K (.ref C_KeepingSession) (.ref C_Session) = some true)
    (sb_Session_KeepingSession : PySem.W.subIn K (.ref C_KeepingSession) (.ref C_Session) = some true)
    (nf_s_Session_KeepingSession : PySem.W.notFirst K C_KeepingSession (.ref C_Session) = true)
    (self_KeepingSession : PySem.W.kitOne K (.ref C_KeepingSession) (.ref C_KeepingSession) = some true)
    (na_own_present_KeepingSession : PySem.W.findIn K (.ref C_KeepingSession) "own_present" = some none)
    (na_own_log_KeepingSession : PySem.W.findIn K (.ref C_KeepingSession) "own_log" = some none)
    (na_own_earlier_KeepingSession : PySem.W.findIn K (.ref C_KeepingSession) "own_earlier" = some none)
    (na_own_least_KeepingSession : PySem.W.findIn K (.ref C_KeepingSession) "own_least" = some none)
    (ne_KeepingSession : PySem.W.findIn K (.ref C_KeepingSession) "__ne__" = some (some (.builtin "object.__ne__")))
    (ih_Session_present_KeepingSession : PySem.W.findIn K (.ref C_KeepingSession) "present" = some (some (.ref p_Session_present)))
    (ih_Session_log_KeepingSession : PySem.W.findIn K (.ref C_KeepingSession) "log" = some (some (.ref f_Session_log)))
    (ih_Session_change_to_KeepingSession : PySem.W.findIn K (.ref C_KeepingSession) "change_to" = some (some (.ref f_Session_change_to)))
    (ih_Session_apply_KeepingSession : PySem.W.findIn K (.ref C_KeepingSession) "apply" = some (some (.ref f_Session_apply)))
    (ih_Session_raise_to_KeepingSession : PySem.W.findIn K (.ref C_KeepingSession) "raise_to" = some (some (.ref f_Session_raise_to)))
    (ih_Session_do_steps_KeepingSession : PySem.W.findIn K (.ref C_KeepingSession) "do_steps" = some (some (.ref f_Session_do_steps)))
    (ih_Session_undo_KeepingSession : PySem.W.findIn K (.ref C_KeepingSession) "undo" = some (some (.ref f_Session_undo)))
    (ih_Session_at_KeepingSession : PySem.W.findIn K (.ref C_KeepingSession) "at" = some (some (.ref f_Session_at)))
    (ih_Session_clone_KeepingSession : PySem.W.findIn K (.ref C_KeepingSession) "clone" = some (some (.ref f_Session_clone)))
    (ih_Session__eq_KeepingSession : PySem.W.findIn K (.ref C_KeepingSession) "__eq__" = some (some (.ref f_Session__eq)))
    (ih_Session__len_KeepingSession : PySem.W.findIn K (.ref C_KeepingSession) "__len__" = some (some (.ref f_Session__len)))
    (su_Session__init_KeepingSession : PySem.W.mroIn K C_KeepingSession (.ref C_KeepingSession) = some true)
    (kq_Session__init_KeepingSession : PySem.W.ks_superIn K C_KeepingSession C_KeepingSession "__init__" = some (some (.ref f_Session__init)))
    (st_Session__init_KeepingSession : PySem.W.typeIn K (.ref f_Session__init) = some (.type "function"))
    (sn_Session__init_KeepingSession : PySem.W.fnIn K f_Session__init = true)
    (su_Session_check_next_KeepingSession : PySem.W.mroIn K C_KeepingSession (.ref C_KeepingSession) = some true)
    (kq_Session_check_next_KeepingSession : PySem.W.ks_superIn K C_KeepingSession C_KeepingSession "check_next" = some (some (.ref f_Session_check_next)))
    (st_Session_check_next_KeepingSession : PySem.W.typeIn K (.ref f_Session_check_next) = some (.type "function"))
    (sn_Session_check_next_KeepingSession : PySem.W.fnIn K f_Session_check_next = true)
    (m_KeepingSession__init : PySem.W.findIn K (.ref C_KeepingSession) "__init__" = some (some (.ref f_KeepingSession__init)))
    (i_KeepingSession__init : PySem.W.isFn K (.ref f_KeepingSession__init) = true)
    (l_KeepingSession__init : K.lookup f_KeepingSession__init = some ⟨oc_KeepingSession__init, od_KeepingSession__init, .func (PySem.W.fnX "__init__" "KeepingSession.__init__" (defArgs s_KeepingSession__init) (defBody s_KeepingSession__init) (defScope s_KeepingSession__init) [("__class__", cc_KeepingSession__init)] .none kV_KeepingSession__init dc_KeepingSession__init pm_KeepingSession__init an_KeepingSession__init (.ref c_KeepingSession__init) ct_KeepingSession__init), sl_KeepingSession__init⟩)
    (cd_KeepingSession__init : PySem.W.codeIn K (.ref c_KeepingSession__init) "KeepingSession.__init__" = true)
    (k_KeepingSession__init : PySem.W.keepIn K (.ref f_KeepingSession__init) = true)
    (co_KeepingSession__init : K.lookup c_KeepingSession__init = some ⟨ccl_KeepingSession__init, cdd_KeepingSession__init, .fields vs_KeepingSession__init, ccs_KeepingSession__init⟩)
    (fl_KeepingSession__init : fileOf vs_KeepingSession__init = some ("/claim/cut.py" : Str))
    (ce_KeepingSession__init : K.lookup cc_KeepingSession__init = some ⟨ccc_KeepingSession__init, ccd_KeepingSession__init, .cell (some (.ref C_KeepingSession)), cso_KeepingSession__init⟩)
    (kd_KeepingSession__init : PySem.W.clsIn K C_KeepingSession = some cdt_KeepingSession__init)
    (ns_KeepingSession__init : PySem.W.nsIn K mainGlobals "super" = some none)
    (no_KeepingSession__init : PySem.W.nsIn K cStatics "thirdparty.any" = some none)
    (mk_KeepingSession : PySem.W.makesIn K C_KeepingSession = true)
    (m_KeepingSession_least : PySem.W.findIn K (.ref C_KeepingSession) "least" = some (some (.ref p_KeepingSession_least)))
    (s_get_KeepingSession_least : PySem.W.specialIn K (.ref p_KeepingSession_least) "__get__" = some (some (.builtin "property.__get__")))
    (tk_KeepingSession_least : PySem.W.takesIn K (.ref p_KeepingSession_least) = some true)
    (rc_KeepingSession_least : PySem.W.recIn K p_KeepingSession_least "property" = some (.ref f_KeepingSession_least :: r_KeepingSession_least))
    (l_KeepingSession_least : K.lookup f_KeepingSession_least = some ⟨oc_KeepingSession_least, od_KeepingSession_least, .func (PySem.W.fnOf "least" "KeepingSession.least" (defArgs s_KeepingSession_least) (defBody s_KeepingSession_least) (defScope s_KeepingSession_least) .none kV_KeepingSession_least dc_KeepingSession_least pm_KeepingSession_least an_KeepingSession_least cd_KeepingSession_least ct_KeepingSession_least), sl_KeepingSession_least⟩)
    (c_KeepingSession_least : PySem.W.codeIn K cd_KeepingSession_least "KeepingSession.least" = true)
    (k_KeepingSession_least : PySem.W.keepIn K (.ref f_KeepingSession_least) = true)
    (m_KeepingSession_check_next : PySem.W.findIn K (.ref C_KeepingSession) "check_next" = some (some (.ref f_KeepingSession_check_next)))
    (i_KeepingSession_check_next : PySem.W.isFn K (.ref f_KeepingSession_check_next) = true)
    (l_KeepingSession_check_next : K.lookup f_KeepingSession_check_next = some ⟨oc_KeepingSession_check_next, od_KeepingSession_check_next, .func (PySem.W.fnX "check_next" "KeepingSession.check_next" (defArgs s_KeepingSession_check_next) (defBody s_KeepingSession_check_next) (defScope s_KeepingSession_check_next) [("__class__", cc_KeepingSession_check_next)] .none kV_KeepingSession_check_next dc_KeepingSession_check_next pm_KeepingSession_check_next an_KeepingSession_check_next (.ref c_KeepingSession_check_next) ct_KeepingSession_check_next), sl_KeepingSession_check_next⟩)
    (cd_KeepingSession_check_next : PySem.W.codeIn K (.ref c_KeepingSession_check_next) "KeepingSession.check_next" = true)
    (k_KeepingSession_check_next : PySem.W.keepIn K (.ref f_KeepingSession_check_next) = true)
    (co_KeepingSession_check_next : K.lookup c_KeepingSession_check_next = some ⟨ccl_KeepingSession_check_next, cdd_KeepingSession_check_next, .fields vs_KeepingSession_check_next, ccs_KeepingSession_check_next⟩)
    (fl_KeepingSession_check_next : fileOf vs_KeepingSession_check_next = some ("/claim/cut.py" : Str))
    (ce_KeepingSession_check_next : K.lookup cc_KeepingSession_check_next = some ⟨ccc_KeepingSession_check_next, ccd_KeepingSession_check_next, .cell (some (.ref C_KeepingSession)), cso_KeepingSession_check_next⟩)
    (kd_KeepingSession_check_next : PySem.W.clsIn K C_KeepingSession = some cdt_KeepingSession_check_next)
    (ns_KeepingSession_check_next : PySem.W.nsIn K mainGlobals "super" = some none)
    (no_KeepingSession_check_next : PySem.W.nsIn K cStatics "thirdparty.any" = some none)
    (m_KeepingSession_fresh : PySem.W.findIn K (.ref C_KeepingSession) "fresh" = some (some (.ref f_KeepingSession_fresh)))
    (i_KeepingSession_fresh : PySem.W.isFn K (.ref f_KeepingSession_fresh) = true)
    (l_KeepingSession_fresh : K.lookup f_KeepingSession_fresh = some ⟨oc_KeepingSession_fresh, od_KeepingSession_fresh, .func (PySem.W.fnOf "fresh" "KeepingSession.fresh" (defArgs s_KeepingSession_fresh) (defBody s_KeepingSession_fresh) (defScope s_KeepingSession_fresh) .none kV_KeepingSession_fresh dc_KeepingSession_fresh pm_KeepingSession_fresh an_KeepingSession_fresh cd_KeepingSession_fresh ct_KeepingSession_fresh), sl_KeepingSession_fresh⟩)
    (c_KeepingSession_fresh : PySem.W.codeIn K cd_KeepingSession_fresh "KeepingSession.fresh" = true)
    (k_KeepingSession_fresh : PySem.W.keepIn K (.ref f_KeepingSession_fresh) = true)
    (m_KeepingSession__repr : PySem.W.findIn K (.ref C_KeepingSession) "__repr__" = some (some (.ref f_KeepingSession__repr)))
    (i_KeepingSession__repr : PySem.W.isFn K (.ref f_KeepingSession__repr) = true)
    (l_KeepingSession__repr : K.lookup f_KeepingSession__repr = some ⟨oc_KeepingSession__repr, od_KeepingSession__repr, .func (PySem.W.fnOf "__repr__" "KeepingSession.__repr__" (defArgs s_KeepingSession__repr) (defBody s_KeepingSession__repr) (defScope s_KeepingSession__repr) .none kV_KeepingSession__repr dc_KeepingSession__repr pm_KeepingSession__repr an_KeepingSession__repr cd_KeepingSession__repr ct_KeepingSession__repr), sl_KeepingSession__repr⟩)
    (c_KeepingSession__repr : PySem.W.codeIn K cd_KeepingSession__repr "KeepingSession.__repr__" = true)
    (k_KeepingSession__repr : PySem.W.keepIn K (.ref f_KeepingSession__repr) = true)
    (a_NothingToUndo : PySem.W.nsIn K mainGlobals "NothingToUndo" = some (some (.ref C_NothingToUndo)))
    (xl_NothingToUndo : K.lookup C_NothingToUndo = some (excClassObj nm_NothingToUndo q_NothingToUndo C_NothingToUndo N_NothingToUndo bs_NothingToUndo [.type "LookupError", .type "Exception", .type "BaseException", .type "object"] true sn_NothingToUndo sub_NothingToUndo ab_NothingToUndo col_NothingToUndo dd_NothingToUndo m0_NothingToUndo m1_NothingToUndo m2_NothingToUndo m3_NothingToUndo m5_NothingToUndo "LookupError.__new__"))
    (sa_NothingToUndo : PySem.W.findIn K (.ref C_NothingToUndo) "__setattr__" = some (some (.builtin "object.__setattr__")))
    (ex_NothingToUndo : PySem.W.subIn K (.ref C_NothingToUndo) (.type "BaseException") = some true)
    (ty_NothingToUndo : PySem.W.typeIn K (.ref C_NothingToUndo) = some (.type "type"))
    (kc_NothingToUndo : PySem.W.keepIn K (.ref C_NothingToUndo) = true)
    (hd_NothingToUndo : PySem.W.hasDictIn K C_NothingToUndo = true)
    (ga_NothingToUndo : PySem.W.findIn K (.ref C_NothingToUndo) "__getattribute__" = some (some (.builtin "BaseException.__getattribute__")))
    (gg_NothingToUndo : PySem.W.findIn K (.ref C_NothingToUndo) "__getattr__" = some none)
    (ss_NothingToUndo : PySem.W.subIn K (.ref C_NothingToUndo) (.ref C_NothingToUndo) = some true)
    (ca_NothingToUndo : PySem.W.findIn K (.ref C_NothingToUndo) "__class__" = some (some (.builtin "object.__class__")))
    (cn_NothingToUndo : PySem.W.specialIn K (.builtin "object.__class__") "__get__" = some (some (.builtin "getset_descriptor.__get__")))
    (ct_NothingToUndo : PySem.W.takesIn K (.builtin "object.__class__") = some true)
    (cm_NothingToUndo : PySem.W.mroIn K C_NothingToUndo (.type "object") = some true)
    (kit_LookupError_NothingToUndo : PySem.W.kitOne K (.ref C_NothingToUndo) (.type "LookupError") = some true)
    (na_user_NothingToUndo : PySem.W.findIn K (.ref C_NothingToUndo) "user" = some none)
    (m_NothingToUndo__init : PySem.W.findIn K (.ref C_NothingToUndo) "__init__" = some (some (.ref f_NothingToUndo__init)))
    (ti_NothingToUndo__init : PySem.W.typeIn K (.ref f_NothingToUndo__init) = some (.type "function"))
    (l_NothingToUndo__init : K.lookup f_NothingToUndo__init = some ⟨oc_NothingToUndo__init, od_NothingToUndo__init, .func (PySem.W.fnOf "__init__" "NothingToUndo.__init__" (defArgs s_NothingToUndo__init) (defBody s_NothingToUndo__init) (defScope s_NothingToUndo__init) .none kV_NothingToUndo__init dc_NothingToUndo__init pm_NothingToUndo__init an_NothingToUndo__init cd_NothingToUndo__init ct_NothingToUndo__init), sl_NothingToUndo__init⟩)
    (c_NothingToUndo__init : PySem.W.codeIn K cd_NothingToUndo__init "NothingToUndo.__init__" = true)
    (k_NothingToUndo__init : PySem.W.keepIn K (.ref f_NothingToUndo__init) = true)
    (a_NotLast : PySem.W.nsIn K mainGlobals "NotLast" = some (some (.ref C_NotLast)))
    (xl_NotLast : K.lookup C_NotLast = some (excClassObj nm_NotLast q_NotLast C_NotLast N_NotLast bs_NotLast [.type "RuntimeError", .type "Exception", .type "BaseException", .type "object"] true sn_NotLast sub_NotLast ab_NotLast col_NotLast dd_NotLast m0_NotLast m1_NotLast m2_NotLast m3_NotLast m5_NotLast "RuntimeError.__new__"))
    (sa_NotLast : PySem.W.findIn K (.ref C_NotLast) "__setattr__" = some (some (.builtin "object.__setattr__")))
    (ex_NotLast : PySem.W.subIn K (.ref C_NotLast) (.type "BaseException") = some true)
    (ty_NotLast : PySem.W.typeIn K (.ref C_NotLast) = some (.type "type"))
    (kc_NotLast : PySem.W.keepIn K (.ref C_NotLast) = true)
    (hd_NotLast : PySem.W.hasDictIn K C_NotLast = true)
    (ga_NotLast : PySem.W.findIn K (.ref C_NotLast) "__getattribute__" = some (some (.builtin "BaseException.__getattribute__")))
    (gg_NotLast : PySem.W.findIn K (.ref C_NotLast) "__getattr__" = some none)
    (ss_NotLast : PySem.W.subIn K (.ref C_NotLast) (.ref C_NotLast) = some true)
    (ca_NotLast : PySem.W.findIn K (.ref C_NotLast) "__class__" = some (some (.builtin "object.__class__")))
    (cn_NotLast : PySem.W.specialIn K (.builtin "object.__class__") "__get__" = some (some (.builtin "getset_descriptor.__get__")))
    (ct_NotLast : PySem.W.takesIn K (.builtin "object.__class__") = some true)
    (cm_NotLast : PySem.W.mroIn K C_NotLast (.type "object") = some true)
    (kit_RuntimeError_NotLast : PySem.W.kitOne K (.ref C_NotLast) (.type "RuntimeError") = some true)
    (te_NothingToUndo_NotLast : PySem.W.subIn K (.ref C_NotLast) (.ref C_NothingToUndo) = some false)
    (na_user_NotLast : PySem.W.findIn K (.ref C_NotLast) "user" = some none)
    (m_NotLast__init : PySem.W.findIn K (.ref C_NotLast) "__init__" = some (some (.ref f_NotLast__init)))
    (ti_NotLast__init : PySem.W.typeIn K (.ref f_NotLast__init) = some (.type "function"))
    (l_NotLast__init : K.lookup f_NotLast__init = some ⟨oc_NotLast__init, od_NotLast__init, .func (PySem.W.fnOf "__init__" "NotLast.__init__" (defArgs s_NotLast__init) (defBody s_NotLast__init) (defScope s_NotLast__init) .none kV_NotLast__init dc_NotLast__init pm_NotLast__init an_NotLast__init cd_NotLast__init ct_NotLast__init), sl_NotLast__init⟩)
    (c_NotLast__init : PySem.W.codeIn K cd_NotLast__init "NotLast.__init__" = true)
    (k_NotLast__init : PySem.W.keepIn K (.ref f_NotLast__init) = true)
    (a_TooFew : PySem.W.nsIn K mainGlobals "TooFew" = some (some (.ref C_TooFew)))
    (xl_TooFew : K.lookup C_TooFew = some (excClassObj nm_TooFew q_TooFew C_TooFew N_TooFew bs_TooFew [.type "RuntimeError", .type "Exception", .type "BaseException", .type "object"] true sn_TooFew sub_TooFew ab_TooFew col_TooFew dd_TooFew m0_TooFew m1_TooFew m2_TooFew m3_TooFew m5_TooFew "RuntimeError.__new__"))
    (sa_TooFew : PySem.W.findIn K (.ref C_TooFew) "__setattr__" = some (some (.builtin "object.__setattr__")))
    (ex_TooFew : PySem.W.subIn K (.ref C_TooFew) (.type "BaseException") = some true)
    (ty_TooFew : PySem.W.typeIn K (.ref C_TooFew) = some (.type "type"))
    (kc_TooFew : PySem.W.keepIn K (.ref C_TooFew) = true)
    (hd_TooFew : PySem.W.hasDictIn K C_TooFew = true)
    (ga_TooFew : PySem.W.findIn K (.ref C_TooFew) "__getattribute__" = some (some (.builtin "BaseException.__getattribute__")))
    (gg_TooFew : PySem.W.findIn K (.ref C_TooFew) "__getattr__" = some none)
    (ss_TooFew : PySem.W.subIn K (.ref C_TooFew) (.ref C_TooFew) = some true)
    (ca_TooFew : PySem.W.findIn K (.ref C_TooFew) "__class__" = some (some (.builtin "object.__class__")))
    (cn_TooFew : PySem.W.specialIn K (.builtin "object.__class__") "__get__" = some (some (.builtin "getset_descriptor.__get__")))
    (ct_TooFew : PySem.W.takesIn K (.builtin "object.__class__") = some true)
    (cm_TooFew : PySem.W.mroIn K C_TooFew (.type "object") = some true)
    (kit_RuntimeError_TooFew : PySem.W.kitOne K (.ref C_TooFew) (.type "RuntimeError") = some true)
    (na_number_TooFew : PySem.W.findIn K (.ref C_TooFew) "number" = some none)
    (m_TooFew__init : PySem.W.findIn K (.ref C_TooFew) "__init__" = some (some (.ref f_TooFew__init)))
    (ti_TooFew__init : PySem.W.typeIn K (.ref f_TooFew__init) = some (.type "function"))
    (l_TooFew__init : K.lookup f_TooFew__init = some ⟨oc_TooFew__init, od_TooFew__init, .func (PySem.W.fnOf "__init__" "TooFew.__init__" (defArgs s_TooFew__init) (defBody s_TooFew__init) (defScope s_TooFew__init) .none kV_TooFew__init dc_TooFew__init pm_TooFew__init an_TooFew__init cd_TooFew__init ct_TooFew__init), sl_TooFew__init⟩)
    (c_TooFew__init : PySem.W.codeIn K cd_TooFew__init "TooFew.__init__" = true)
    (k_TooFew__init : PySem.W.keepIn K (.ref f_TooFew__init) = true)
    (a_InvalidNumber : PySem.W.nsIn K mainGlobals "InvalidNumber" = some (some (.ref C_InvalidNumber)))
    (xl_InvalidNumber : K.lookup C_InvalidNumber = some (excClassObj nm_InvalidNumber q_InvalidNumber C_InvalidNumber N_InvalidNumber bs_InvalidNumber [.type "ValueError", .type "Exception", .type "BaseException", .type "object"] true sn_InvalidNumber sub_InvalidNumber ab_InvalidNumber col_InvalidNumber dd_InvalidNumber m0_InvalidNumber m1_InvalidNumber m2_InvalidNumber m3_InvalidNumber m5_InvalidNumber "ValueError.__new__"))
    (sa_InvalidNumber : PySem.W.findIn K (.ref C_InvalidNumber) "__setattr__" = some (some (.builtin "object.__setattr__")))
    (ex_InvalidNumber : PySem.W.subIn K (.ref C_InvalidNumber) (.type "BaseException") = some true)
    (ty_InvalidNumber : PySem.W.typeIn K (.ref C_InvalidNumber) = some (.type "type"))
    (kc_InvalidNumber : PySem.W.keepIn K (.ref C_InvalidNumber) = true)
    (hd_InvalidNumber : PySem.W.hasDictIn K C_InvalidNumber = true)
    (ga_InvalidNumber : PySem.W.findIn K (.ref C_InvalidNumber) "__getattribute__" = some (some (.builtin "BaseException.__getattribute__")))
    (gg_InvalidNumber : PySem.W.findIn K (.ref C_InvalidNumber) "__getattr__" = some none)
    (ss_InvalidNumber : PySem.W.subIn K (.ref C_InvalidNumber) (.ref C_InvalidNumber) = some true)
    (ca_InvalidNumber : PySem.W.findIn K (.ref C_InvalidNumber) "__class__" = some (some (.builtin "object.__class__")))
    (cn_InvalidNumber : PySem.W.specialIn K (.builtin "object.__class__") "__get__" = some (some (.builtin "getset_descriptor.__get__")))
    (ct_InvalidNumber : PySem.W.takesIn K (.builtin "object.__class__") = some true)
    (cm_InvalidNumber : PySem.W.mroIn K C_InvalidNumber (.type "object") = some true)
    (kit_ValueError_InvalidNumber : PySem.W.kitOne K (.ref C_InvalidNumber) (.type "ValueError") = some true)
    (na_value_InvalidNumber : PySem.W.findIn K (.ref C_InvalidNumber) "value" = some none)
    (m_InvalidNumber__init : PySem.W.findIn K (.ref C_InvalidNumber) "__init__" = some (some (.ref f_InvalidNumber__init)))
    (ti_InvalidNumber__init : PySem.W.typeIn K (.ref f_InvalidNumber__init) = some (.type "function"))
    (l_InvalidNumber__init : K.lookup f_InvalidNumber__init = some ⟨oc_InvalidNumber__init, od_InvalidNumber__init, .func (PySem.W.fnOf "__init__" "InvalidNumber.__init__" (defArgs s_InvalidNumber__init) (defBody s_InvalidNumber__init) (defScope s_InvalidNumber__init) .none kV_InvalidNumber__init dc_InvalidNumber__init pm_InvalidNumber__init an_InvalidNumber__init cd_InvalidNumber__init ct_InvalidNumber__init), sl_InvalidNumber__init⟩)
    (c_InvalidNumber__init : PySem.W.codeIn K cd_InvalidNumber__init "InvalidNumber.__init__" = true)
    (k_InvalidNumber__init : PySem.W.keepIn K (.ref f_InvalidNumber__init) = true)
    (a_InvalidSize : PySem.W.nsIn K mainGlobals "InvalidSize" = some (some (.ref C_InvalidSize)))
    (xl_InvalidSize : K.lookup C_InvalidSize = some (excClassObj nm_InvalidSize q_InvalidSize C_InvalidSize N_InvalidSize bs_InvalidSize [.type "ValueError", .type "Exception", .type "BaseException", .type "object"] true sn_InvalidSize sub_InvalidSize ab_InvalidSize col_InvalidSize dd_InvalidSize m0_InvalidSize m1_InvalidSize m2_InvalidSize m3_InvalidSize m5_InvalidSize "ValueError.__new__"))
    (sa_InvalidSize : PySem.W.findIn K (.ref C_InvalidSize) "__setattr__" = some (some (.builtin "object.__setattr__")))
    (ex_InvalidSize : PySem.W.subIn K (.ref C_InvalidSize) (.type "BaseException") = some true)
    (ty_InvalidSize : PySem.W.typeIn K (.ref C_InvalidSize) = some (.type "type"))
    (kc_InvalidSize : PySem.W.keepIn K (.ref C_InvalidSize) = true)
    (hd_InvalidSize : PySem.W.hasDictIn K C_InvalidSize = true)
    (ga_InvalidSize : PySem.W.findIn K (.ref C_InvalidSize) "__getattribute__" = some (some (.builtin "BaseException.__getattribute__")))
    (gg_InvalidSize : PySem.W.findIn K (.ref C_InvalidSize) "__getattr__" = some none)
    (ss_InvalidSize : PySem.W.subIn K (.ref C_InvalidSize) (.ref C_InvalidSize) = some true)
    (ca_InvalidSize : PySem.W.findIn K (.ref C_InvalidSize) "__class__" = some (some (.builtin "object.__class__")))
    (cn_InvalidSize : PySem.W.specialIn K (.builtin "object.__class__") "__get__" = some (some (.builtin "getset_descriptor.__get__")))
    (ct_InvalidSize : PySem.W.takesIn K (.builtin "object.__class__") = some true)
    (cm_InvalidSize : PySem.W.mroIn K C_InvalidSize (.type "object") = some true)
    (kit_ValueError_InvalidSize : PySem.W.kitOne K (.ref C_InvalidSize) (.type "ValueError") = some true)
    (na_value_InvalidSize : PySem.W.findIn K (.ref C_InvalidSize) "value" = some none)
    (m_InvalidSize__init : PySem.W.findIn K (.ref C_InvalidSize) "__init__" = some (some (.ref f_InvalidSize__init)))
    (ti_InvalidSize__init : PySem.W.typeIn K (.ref f_InvalidSize__init) = some (.type "function"))
    (l_InvalidSize__init : K.lookup f_InvalidSize__init = some ⟨oc_InvalidSize__init, od_InvalidSize__init, .func (PySem.W.fnOf "__init__" "InvalidSize.__init__" (defArgs s_InvalidSize__init) (defBody s_InvalidSize__init) (defScope s_InvalidSize__init) .none kV_InvalidSize__init dc_InvalidSize__init pm_InvalidSize__init an_InvalidSize__init cd_InvalidSize__init ct_InvalidSize__init), sl_InvalidSize__init⟩)
    (c_InvalidSize__init : PySem.W.codeIn K cd_InvalidSize__init "InvalidSize.__init__" = true)
    (k_InvalidSize__init : PySem.W.keepIn K (.ref f_InvalidSize__init) = true)
    (a_InvalidElement : PySem.W.nsIn K mainGlobals "InvalidElement" = some (some (.ref C_InvalidElement)))
    (xl_InvalidElement : K.lookup C_InvalidElement = some (excClassObj nm_InvalidElement q_InvalidElement C_InvalidElement N_InvalidElement bs_InvalidElement [.type "ValueError", .type "Exception", .type "BaseException", .type "object"] true sn_InvalidElement sub_InvalidElement ab_InvalidElement col_InvalidElement dd_InvalidElement m0_InvalidElement m1_InvalidElement m2_InvalidElement m3_InvalidElement m5_InvalidElement "ValueError.__new__"))
    (sa_InvalidElement : PySem.W.findIn K (.ref C_InvalidElement) "__setattr__" = some (some (.builtin "object.__setattr__")))
    (ex_InvalidElement : PySem.W.subIn K (.ref C_InvalidElement) (.type "BaseException") = some true)
    (ty_InvalidElement : PySem.W.typeIn K (.ref C_InvalidElement) = some (.type "type"))
    (kc_InvalidElement : PySem.W.keepIn K (.ref C_InvalidElement) = true)
    (hd_InvalidElement : PySem.W.hasDictIn K C_InvalidElement = true)
    (ga_InvalidElement : PySem.W.findIn K (.ref C_InvalidElement) "__getattribute__" = some (some (.builtin "BaseException.__getattribute__")))
    (gg_InvalidElement : PySem.W.findIn K (.ref C_InvalidElement) "__getattr__" = some none)
    (ss_InvalidElement : PySem.W.subIn K (.ref C_InvalidElement) (.ref C_InvalidElement) = some true)
    (ca_InvalidElement : PySem.W.findIn K (.ref C_InvalidElement) "__class__" = some (some (.builtin "object.__class__")))
    (cn_InvalidElement : PySem.W.specialIn K (.builtin "object.__class__") "__get__" = some (some (.builtin "getset_descriptor.__get__")))
    (ct_InvalidElement : PySem.W.takesIn K (.builtin "object.__class__") = some true)
    (cm_InvalidElement : PySem.W.mroIn K C_InvalidElement (.type "object") = some true)
    (kit_ValueError_InvalidElement : PySem.W.kitOne K (.ref C_InvalidElement) (.type "ValueError") = some true)
    (na_value_InvalidElement : PySem.W.findIn K (.ref C_InvalidElement) "value" = some none)
    (m_InvalidElement__init : PySem.W.findIn K (.ref C_InvalidElement) "__init__" = some (some (.ref f_InvalidElement__init)))
    (ti_InvalidElement__init : PySem.W.typeIn K (.ref f_InvalidElement__init) = some (.type "function"))
    (l_InvalidElement__init : K.lookup f_InvalidElement__init = some ⟨oc_InvalidElement__init, od_InvalidElement__init, .func (PySem.W.fnOf "__init__" "InvalidElement.__init__" (defArgs s_InvalidElement__init) (defBody s_InvalidElement__init) (defScope s_InvalidElement__init) .none kV_InvalidElement__init dc_InvalidElement__init pm_InvalidElement__init an_InvalidElement__init cd_InvalidElement__init ct_InvalidElement__init), sl_InvalidElement__init⟩)
    (c_InvalidElement__init : PySem.W.codeIn K cd_InvalidElement__init "InvalidElement.__init__" = true)
    (k_InvalidElement__init : PySem.W.keepIn K (.ref f_InvalidElement__init) = true)
    (a_InvalidMap : PySem.W.nsIn K mainGlobals "InvalidMap" = some (some (.ref C_InvalidMap)))
    (xl_InvalidMap : K.lookup C_InvalidMap = some (excClassObj nm_InvalidMap q_InvalidMap C_InvalidMap N_InvalidMap bs_InvalidMap [.type "ValueError", .type "Exception", .type "BaseException", .type "object"] true sn_InvalidMap sub_InvalidMap ab_InvalidMap col_InvalidMap dd_InvalidMap m0_InvalidMap m1_InvalidMap m2_InvalidMap m3_InvalidMap m5_InvalidMap "ValueError.__new__"))
    (sa_InvalidMap : PySem.W.findIn K (.ref C_InvalidMap) "__setattr__" = some (some (.builtin "object.__setattr__")))
    (ex_InvalidMap : PySem.W.subIn K (.ref C_InvalidMap) (.type "BaseException") = some true)
    (ty_InvalidMap : PySem.W.typeIn K (.ref C_InvalidMap) = some (.type "type"))
    (kc_InvalidMap : PySem.W.keepIn K (.ref C_InvalidMap) = true)
    (hd_InvalidMap : PySem.W.hasDictIn K C_InvalidMap = true)
    (ga_InvalidMap : PySem.W.findIn K (.ref C_InvalidMap) "__getattribute__" = some (some (.builtin "BaseException.__getattribute__")))
    (gg_InvalidMap : PySem.W.findIn K (.ref C_InvalidMap) "__getattr__" = some none)
    (ss_InvalidMap : PySem.W.subIn K (.ref C_InvalidMap) (.ref C_InvalidMap) = some true)
    (ca_InvalidMap : PySem.W.findIn K (.ref C_InvalidMap) "__class__" = some (some (.builtin "object.__class__")))
    (cn_InvalidMap : PySem.W.specialIn K (.builtin "object.__class__") "__get__" = some (some (.builtin "getset_descriptor.__get__")))
    (ct_InvalidMap : PySem.W.takesIn K (.builtin "object.__class__") = some true)
    (cm_InvalidMap : PySem.W.mroIn K C_InvalidMap (.type "object") = some true)
    (kit_ValueError_InvalidMap : PySem.W.kitOne K (.ref C_InvalidMap) (.type "ValueError") = some true)
    (na_part_InvalidMap : PySem.W.findIn K (.ref C_InvalidMap) "part" = some none)
    (m_InvalidMap__init : PySem.W.findIn K (.ref C_InvalidMap) "__init__" = some (some (.ref f_InvalidMap__init)))
    (ti_InvalidMap__init : PySem.W.typeIn K (.ref f_InvalidMap__init) = some (.type "function"))
    (l_InvalidMap__init : K.lookup f_InvalidMap__init = some ⟨oc_InvalidMap__init, od_InvalidMap__init, .func (PySem.W.fnOf "__init__" "InvalidMap.__init__" (defArgs s_InvalidMap__init) (defBody s_InvalidMap__init) (defScope s_InvalidMap__init) .none kV_InvalidMap__init dc_InvalidMap__init pm_InvalidMap__init an_InvalidMap__init cd_InvalidMap__init ct_InvalidMap__init), sl_InvalidMap__init⟩)
    (c_InvalidMap__init : PySem.W.codeIn K cd_InvalidMap__init "InvalidMap.__init__" = true)
    (k_InvalidMap__init : PySem.W.keepIn K (.ref f_InvalidMap__init) = true)
    (a_SizeMismatch : PySem.W.nsIn K mainGlobals "SizeMismatch" = some (some (.ref C_SizeMismatch)))
    (xl_SizeMismatch : K.lookup C_SizeMismatch = some (excClassObj nm_SizeMismatch q_SizeMismatch C_SizeMismatch N_SizeMismatch bs_SizeMismatch [.type "ValueError", .type "Exception", .type "BaseException", .type "object"] true sn_SizeMismatch sub_SizeMismatch ab_SizeMismatch col_SizeMismatch dd_SizeMismatch m0_SizeMismatch m1_SizeMismatch m2_SizeMismatch m3_SizeMismatch m5_SizeMismatch "ValueError.__new__"))
    (sa_SizeMismatch : PySem.W.findIn K (.ref C_SizeMismatch) "__setattr__" = some (some (.builtin "object.__setattr__")))
    (ex_SizeMismatch : PySem.W.subIn K (.ref C_SizeMismatch) (.type "BaseException") = some true)
    (ty_SizeMismatch : PySem.W.typeIn K (.ref C_SizeMismatch) = some (.type "type"))
    (kc_SizeMismatch : PySem.W.keepIn K (.ref C_SizeMismatch) = true)
    (hd_SizeMismatch : PySem.W.hasDictIn K C_SizeMismatch = true)
    (ga_SizeMismatch : PySem.W.findIn K (.ref C_SizeMismatch) "__getattribute__" = some (some (.builtin "BaseException.__getattribute__")))
    (gg_SizeMismatch : PySem.W.findIn K (.ref C_SizeMismatch) "__getattr__" = some none)
    (ss_SizeMismatch : PySem.W.subIn K (.ref C_SizeMismatch) (.ref C_SizeMismatch) = some true)
    (ca_SizeMismatch : PySem.W.findIn K (.ref C_SizeMismatch) "__class__" = some (some (.builtin "object.__class__")))
    (cn_SizeMismatch : PySem.W.specialIn K (.builtin "object.__class__") "__get__" = some (some (.builtin "getset_descriptor.__get__")))
    (ct_SizeMismatch : PySem.W.takesIn K (.builtin "object.__class__") = some true)
    (cm_SizeMismatch : PySem.W.mroIn K C_SizeMismatch (.type "object") = some true)
    (kit_ValueError_SizeMismatch : PySem.W.kitOne K (.ref C_SizeMismatch) (.type "ValueError") = some true)
    (na_first_SizeMismatch : PySem.W.findIn K (.ref C_SizeMismatch) "first" = some none)
    (na_second_SizeMismatch : PySem.W.findIn K (.ref C_SizeMismatch) "second" = some none)
    (m_SizeMismatch__init : PySem.W.findIn K (.ref C_SizeMismatch) "__init__" = some (some (.ref f_SizeMismatch__init)))
    (ti_SizeMismatch__init : PySem.W.typeIn K (.ref f_SizeMismatch__init) = some (.type "function"))
    (l_SizeMismatch__init : K.lookup f_SizeMismatch__init = some ⟨oc_SizeMismatch__init, od_SizeMismatch__init, .func (PySem.W.fnOf "__init__" "SizeMismatch.__init__" (defArgs s_SizeMismatch__init) (defBody s_SizeMismatch__init) (defScope s_SizeMismatch__init) .none kV_SizeMismatch__init dc_SizeMismatch__init pm_SizeMismatch__init an_SizeMismatch__init cd_SizeMismatch__init ct_SizeMismatch__init), sl_SizeMismatch__init⟩)
    (c_SizeMismatch__init : PySem.W.codeIn K cd_SizeMismatch__init "SizeMismatch.__init__" = true)
    (k_SizeMismatch__init : PySem.W.keepIn K (.ref f_SizeMismatch__init) = true)
    (z_isinstance : PySem.W.nsIn K mainGlobals "isinstance" = some none)
    (z_int : PySem.W.nsIn K mainGlobals "int" = some none)
    (z_bool : PySem.W.nsIn K mainGlobals "bool" = some none)
    (z_dict : PySem.W.nsIn K mainGlobals "dict" = some none)
    (z_len : PySem.W.nsIn K mainGlobals "len" = some none)
    (z_range : PySem.W.nsIn K mainGlobals "range" = some none)
    (z_list : PySem.W.nsIn K mainGlobals "list" = some none)
    (z_max : PySem.W.nsIn K mainGlobals "max" = some none)
    (z_min : PySem.W.nsIn K mainGlobals "min" = some none)
    (z_repr : PySem.W.nsIn K mainGlobals "repr" = some none)
    (z_abs : PySem.W.nsIn K mainGlobals "abs" = some none)
    (z_str : PySem.W.nsIn K mainGlobals "str" = some none)
    (z_tuple : PySem.W.nsIn K mainGlobals "tuple" = some none)
    (z_all : PySem.W.nsIn K mainGlobals "all" = some none)
    (z_enumerate : PySem.W.nsIn K mainGlobals "enumerate" = some none)
    (z_zip : PySem.W.nsIn K mainGlobals "zip" = some none)
    (v_MAX_SIZE : PySem.W.nsIn K mainGlobals "MAX_SIZE" = some (some (.int 300 t_MAX_SIZE)))
    (v_MAX_NAME : PySem.W.nsIn K mainGlobals "MAX_NAME" = some (some (.int 8 t_MAX_NAME)))
    (kit_x_Session_Map : PySem.W.kitOne K (.ref C_Map) (.ref C_Session) = some false)
    (nf_x_Session_Map : PySem.W.notFirst K C_Session (.ref C_Map) = true)
    (kit_n_Session_KeepingSession : PySem.W.subIn K (.ref C_Session) (.ref C_KeepingSession) = some false) :
    Nonempty (Txt K mg) := ⟨{
    f_is_integer := f_is_integer,
    A_is_integer := ⟨_, fun_mk (st := s_is_integer) l_is_integer c_is_integer k_is_integer, (fun_mk (st := s_is_integer) l_is_integer c_is_integer k_is_integer).binds (ps := ["value"]) fun _ _ _ _ _ _ us hl => match us, hl with | [_], _ => rfl⟩,
    g_is_integer := PySem.W.mg_of X G a_is_integer,
    f_in_range := f_in_range,
    A_in_range := ⟨_, fun_mk (st := s_in_range) l_in_range c_in_range k_in_range, (fun_mk (st := s_in_range) l_in_range c_in_range k_in_range).binds (ps := ["value", "least", "most"]) fun _ _ _ _ _ _ us hl => match us, hl with | [_, _, _], _ => rfl⟩,
    g_in_range := PySem.W.mg_of X G a_in_range,
    f_check_size := f_check_size,
    A_check_size := ⟨_, fun_mk (st := s_check_size) l_check_size c_check_size k_check_size, (fun_mk (st := s_check_size) l_check_size c_check_size k_check_size).binds (ps := ["size"]) fun _ _ _ _ _ _ us hl => match us, hl with | [_], _ => rfl⟩,
    g_check_size := PySem.W.mg_of X G a_check_size,
    f_check_elements := f_check_elements,
    A_check_elements := ⟨_, fun_mk (st := s_check_elements) l_check_elements c_check_elements k_check_elements, (fun_mk (st := s_check_elements) l_check_elements c_check_elements k_check_elements).binds (ps := ["size", "points"]) fun _ _ _ _ _ _ us hl => match us, hl with | [_, _], _ => rfl⟩,
    g_check_elements := PySem.W.mg_of X G a_check_elements,
    f_are_arrows := f_are_arrows,
    A_are_arrows := ⟨_, fun_mk (st := s_are_arrows) l_are_arrows c_are_arrows k_are_arrows, (fun_mk (st := s_are_arrows) l_are_arrows c_are_arrows k_are_arrows).binds (ps := ["size", "arrows"]) fun _ _ _ _ _ _ us hl => match us, hl with | [_, _], _ => rfl⟩,
    g_are_arrows := PySem.W.mg_of X G a_are_arrows,
    f_common_size := f_common_size,
    A_common_size := ⟨_, fun_mk (st := s_common_size) l_common_size c_common_size k_common_size, (fun_mk (st := s_common_size) l_common_size c_common_size k_common_size).binds (ps := ["one", "other"]) fun _ _ _ _ _ _ us hl => match us, hl with | [_, _], _ => rfl⟩,
    g_common_size := PySem.W.mg_of X G a_common_size,
    f_row_from := f_row_from,
    A_row_from := ⟨_, fun_mk (st := s_row_from) l_row_from c_row_from k_row_from, (fun_mk (st := s_row_from) l_row_from c_row_from k_row_from).binds (ps := ["arrows", "element"]) fun _ _ _ _ _ _ us hl => match us, hl with | [_, _], _ => rfl⟩,
    g_row_from := PySem.W.mg_of X G a_row_from,
    f_moved := f_moved,
    A_moved := ⟨_, fun_mk (st := s_moved) l_moved c_moved k_moved, (fun_mk (st := s_moved) l_moved c_moved k_moved).binds (ps := ["arrows", "steps"]) fun _ _ _ _ _ _ us hl => match us, hl with | [_, _], _ => rfl⟩,
    g_moved := PySem.W.mg_of X G a_moved,
    f_check_map := f_check_map,
    A_check_map := ⟨_, fun_mk (st := s_check_map) l_check_map c_check_map k_check_map, (fun_mk (st := s_check_map) l_check_map c_check_map k_check_map).binds (ps := ["value"]) fun _ _ _ _ _ _ us hl => match us, hl with | [_], _ => rfl⟩,
    g_check_map := PySem.W.mg_of X G a_check_map,
    f_check_maps := f_check_maps,
    A_check_maps := ⟨_, fun_mk (st := s_check_maps) l_check_maps c_check_maps k_check_maps, (fun_mk (st := s_check_maps) l_check_maps c_check_maps k_check_maps).binds (ps := ["one", "other"]) fun _ _ _ _ _ _ us hl => match us, hl with | [_, _], _ => rfl⟩,
    g_check_maps := PySem.W.mg_of X G a_check_maps,
    f_is_step := f_is_step,
    A_is_step := ⟨_, fun_mk (st := s_is_step) l_is_step c_is_step k_is_step, (fun_mk (st := s_is_step) l_is_step c_is_step k_is_step).binds (ps := ["size", "value"]) fun _ _ _ _ _ _ us hl => match us, hl with | [_, _], _ => rfl⟩,
    g_is_step := PySem.W.mg_of X G a_is_step,
    f_first_invalid := f_first_invalid,
    A_first_invalid := ⟨_, fun_mk (st := s_first_invalid) l_first_invalid c_first_invalid k_first_invalid, (fun_mk (st := s_first_invalid) l_first_invalid c_first_invalid k_first_invalid).binds (ps := ["size", "value"]) fun _ _ _ _ _ _ us hl => match us, hl with | [_, _], _ => rfl⟩,
    g_first_invalid := PySem.W.mg_of X G a_first_invalid,
    f_after_list := f_after_list,
    A_after_list := ⟨_, fun_mk (st := s_after_list) l_after_list c_after_list k_after_list, (fun_mk (st := s_after_list) l_after_list c_after_list k_after_list).binds (ps := ["arrows", "steps"]) fun _ _ _ _ _ _ us hl => match us, hl with | [_, _], _ => rfl⟩,
    g_after_list := PySem.W.mg_of X G a_after_list,
    f_is_name := f_is_name,
    A_is_name := ⟨_, fun_mk (st := s_is_name) l_is_name c_is_name k_is_name, (fun_mk (st := s_is_name) l_is_name c_is_name k_is_name).binds (ps := ["value"]) fun _ _ _ _ _ _ us hl => match us, hl with | [_], _ => rfl⟩,
    g_is_name := PySem.W.mg_of X G a_is_name,
    f_check_user := f_check_user,
    A_check_user := ⟨_, fun_mk (st := s_check_user) l_check_user c_check_user k_check_user, (fun_mk (st := s_check_user) l_check_user c_check_user k_check_user).binds (ps := ["value"]) fun _ _ _ _ _ _ us hl => match us, hl with | [_], _ => rfl⟩,
    g_check_user := PySem.W.mg_of X G a_check_user,
    f_l_hand := f_l_hand,
    A_l_hand := ⟨_, fun_mk (st := s_l_hand) l_l_hand c_l_hand k_l_hand, (fun_mk (st := s_l_hand) l_l_hand c_l_hand k_l_hand).binds (ps := ["_law_script", "_law_k"]) fun _ _ _ _ _ _ us hl => match us, hl with | [_, _], _ => rfl⟩,
    g_l_hand := PySem.W.mg_of X G a_l_hand,
    f_l_draw := f_l_draw,
    A_l_draw := ⟨_, fun_mk (st := s_l_draw) l_l_draw c_l_draw k_l_draw, (fun_mk (st := s_l_draw) l_l_draw c_l_draw k_l_draw).binds (ps := ["_law_pool", "_law_size"]) fun _ _ _ _ _ _ us hl => match us, hl with | [_, _], _ => rfl⟩,
    g_l_draw := PySem.W.mg_of X G a_l_draw,
    f_l_arrows := f_l_arrows,
    A_l_arrows := ⟨_, fun_mk (st := s_l_arrows) l_l_arrows c_l_arrows k_l_arrows, (fun_mk (st := s_l_arrows) l_l_arrows c_l_arrows k_l_arrows).binds (ps := ["_law_pool", "_law_size"]) fun _ _ _ _ _ _ us hl => match us, hl with | [_, _], _ => rfl⟩,
    g_l_arrows := PySem.W.mg_of X G a_l_arrows,
    f_l_product := f_l_product,
    A_l_product := ⟨_, fun_mk (st := s_l_product) l_l_product c_l_product k_l_product, (fun_mk (st := s_l_product) l_l_product c_l_product k_l_product).binds (ps := ["_law_one", "_law_other"]) fun _ _ _ _ _ _ us hl => match us, hl with | [_, _], _ => rfl⟩,
    g_l_product := PySem.W.mg_of X G a_l_product,
    f_l_full := f_l_full,
    A_l_full := ⟨_, fun_mk (st := s_l_full) l_l_full c_l_full k_l_full, (fun_mk (st := s_l_full) l_l_full c_l_full k_l_full).binds (ps := ["_law_size"]) fun _ _ _ _ _ _ us hl => match us, hl with | [_], _ => rfl⟩,
    g_l_full := PySem.W.mg_of X G a_l_full,
    f_l_inverse := f_l_inverse,
    A_l_inverse := ⟨_, fun_mk (st := s_l_inverse) l_l_inverse c_l_inverse k_l_inverse, (fun_mk (st := s_l_inverse) l_l_inverse c_l_inverse k_l_inverse).binds (ps := ["_law_table"]) fun _ _ _ _ _ _ us hl => match us, hl with | [_], _ => rfl⟩,
    g_l_inverse := PySem.W.mg_of X G a_l_inverse,
    f_l_power := f_l_power,
    A_l_power := ⟨_, fun_mk (st := s_l_power) l_l_power c_l_power k_l_power, (fun_mk (st := s_l_power) l_l_power c_l_power k_l_power).binds (ps := ["_law_table", "_law_size", "_law_exponent"]) fun _ _ _ _ _ _ us hl => match us, hl with | [_, _, _], _ => rfl⟩,
    g_l_power := PySem.W.mg_of X G a_l_power,
    f_l_step := f_l_step,
    A_l_step := ⟨_, fun_mk (st := s_l_step) l_l_step c_l_step k_l_step, (fun_mk (st := s_l_step) l_l_step c_l_step k_l_step).binds (ps := ["_law_pool", "_law_size"]) fun _ _ _ _ _ _ us hl => match us, hl with | [_, _], _ => rfl⟩,
    g_l_step := PySem.W.mg_of X G a_l_step,
    f_l_stepped := f_l_stepped,
    A_l_stepped := ⟨_, fun_mk (st := s_l_stepped) l_l_stepped c_l_stepped k_l_stepped, (fun_mk (st := s_l_stepped) l_l_stepped c_l_stepped k_l_stepped).binds (ps := ["_law_table", "_law_step_here"]) fun _ _ _ _ _ _ us hl => match us, hl with | [_, _], _ => rfl⟩,
    g_l_stepped := PySem.W.mg_of X G a_l_stepped,
    f_l_caught := f_l_caught,
    A_l_caught := ⟨_, fun_mk (st := s_l_caught) l_l_caught c_l_caught k_l_caught, (fun_mk (st := s_l_caught) l_l_caught c_l_caught k_l_caught).binds (ps := ["_law_call"]) fun _ _ _ _ _ _ us hl => match us, hl with | [_], _ => rfl⟩,
    g_l_caught := PySem.W.mg_of X G a_l_caught,
    f_l_act := f_l_act,
    A_l_act := ⟨_, fun_mk (st := s_l_act) l_l_act c_l_act k_l_act, (fun_mk (st := s_l_act) l_l_act c_l_act k_l_act).binds (ps := ["_law_pool", "_law_session", "_law_model_here", "_law_user_here"]) fun _ _ _ _ _ _ us hl => match us, hl with | [_, _, _, _], _ => rfl⟩,
    g_l_act := PySem.W.mg_of X G a_l_act,
    c_l_undone := c_l_undone,
    P_l_undone := P_l_undone,
    f_l_undone := f_l_undone,
    tm_l_undone := tm_l_undone,
    hd_l_undone := hd_l_undone,
    nt_l_undone := nt_l_undone,
    B_l_undone := ⟨_, _, _, _, _, _, _, _, l_l_undone, cd_l_undone, (fun_mk (st := s_l_undone) l_l_undone cd_l_undone k_l_undone).binds (ps := ["_law_session", "_law_model_here", "_law_user_here"]) fun _ _ _ _ _ _ us hl => match us, hl with | [_, _, _], _ => rfl⟩,
    K_l_undone := k_l_undone,
    g_l_undone := PySem.W.mg_of X G a_l_undone,
    f_l_shows := f_l_shows,
    A_l_shows := ⟨_, fun_mk (st := s_l_shows) l_l_shows c_l_shows k_l_shows, (fun_mk (st := s_l_shows) l_l_shows c_l_shows k_l_shows).binds (ps := ["_law_session", "_law_model_here"]) fun _ _ _ _ _ _ us hl => match us, hl with | [_, _], _ => rfl⟩,
    g_l_shows := PySem.W.mg_of X G a_l_shows,
    f_l_model := f_l_model,
    A_l_model := ⟨_, fun_mk (st := s_l_model) l_l_model c_l_model k_l_model, (fun_mk (st := s_l_model) l_l_model c_l_model k_l_model).binds (ps := ["_law_size"]) fun _ _ _ _ _ _ us hl => match us, hl with | [_], _ => rfl⟩,
    g_l_model := PySem.W.mg_of X G a_l_model,
    f_l_user := f_l_user,
    A_l_user := ⟨_, fun_mk (st := s_l_user) l_l_user c_l_user k_l_user, (fun_mk (st := s_l_user) l_l_user c_l_user k_l_user).binds (ps := ["_law_pool"]) fun _ _ _ _ _ _ us hl => match us, hl with | [_], _ => rfl⟩,
    g_l_user := PySem.W.mg_of X G a_l_user,
    f_l_same := f_l_same,
    A_l_same := ⟨_, fun_mk (st := s_l_same) l_l_same c_l_same k_l_same, (fun_mk (st := s_l_same) l_l_same c_l_same k_l_same).binds (ps := ["_law_one", "_law_other"]) fun _ _ _ _ _ _ us hl => match us, hl with | [_, _], _ => rfl⟩,
    g_l_same := PySem.W.mg_of X G a_l_same,
    f_l_unlike := f_l_unlike,
    A_l_unlike := ⟨_, fun_mk (st := s_l_unlike) l_l_unlike c_l_unlike k_l_unlike, (fun_mk (st := s_l_unlike) l_l_unlike c_l_unlike k_l_unlike).binds (ps := []) fun _ _ _ _ _ _ us hl => match us, hl with | [], _ => rfl⟩,
    g_l_unlike := PySem.W.mg_of X G a_l_unlike,
    f_l_keeping := f_l_keeping,
    A_l_keeping := ⟨_, fun_mk (st := s_l_keeping) l_l_keeping c_l_keeping k_l_keeping, (fun_mk (st := s_l_keeping) l_l_keeping c_l_keeping k_l_keeping).binds (ps := []) fun _ _ _ _ _ _ us hl => match us, hl with | [], _ => rfl⟩,
    g_l_keeping := PySem.W.mg_of X G a_l_keeping,
    f_law := f_law,
    A_law := ⟨_, fun_mk (st := s_law) l_law c_law k_law, (fun_mk (st := s_law) l_law c_law k_law).binds (ps := ["_law_script"]) fun _ _ _ _ _ _ us hl => match us, hl with | [_], _ => rfl⟩,
    L_law := ⟨_, fun_mk (st := s_law) l_law c_law k_law, fun s v => .of_eq rfl⟩,
    g_law := PySem.W.mg_of X G a_law,
    C_Map := C_Map,
    g_Map := PySem.W.mg_of X G a_Map,
    o_Map := ⟨⟨pg_Map, hd_Map, po_Map, sa_Map⟩, sf_Map, ca_Map, cn_Map, ct_Map, cm_Map⟩,
    kit_int_Map := kit_int_Map,
    kit_bool_Map := kit_bool_Map,
    kit_str_Map := kit_str_Map,
    kit_tuple_Map := kit_tuple_Map,
    kit_list_Map := kit_list_Map,
    kn_NoneType_Map := kn_NoneType_Map,
    nf_NoneType_Map := nf_NoneType_Map,
    kn_int_Map := kn_int_Map,
    nf_int_Map := nf_int_Map,
    kn_bool_Map := kn_bool_Map,
    nf_bool_Map := nf_bool_Map,
    kn_str_Map := kn_str_Map,
    nf_str_Map := nf_str_Map,
    kn_list_Map := kn_list_Map,
    nf_list_Map := nf_list_Map,
    kn_dict_Map := kn_dict_Map,
    nf_dict_Map := nf_dict_Map,
    kn_tuple_Map := kn_tuple_Map,
    nf_tuple_Map := nf_tuple_Map,
    kx_Map_Session := kit_x_Session_Map,
    nf_Map_Session := nf_x_Session_Map,
    self_Map := self_Map,
    na_own_size_Map := na_own_size_Map,
    na_own_arrows_Map := na_own_arrows_Map,
    ne_Map := ne_Map,
    f_Map__init := f_Map__init,
    A_Map__init := ⟨_, fun_mk (st := s_Map__init) l_Map__init c_Map__init k_Map__init, (fun_mk (st := s_Map__init) l_Map__init c_Map__init k_Map__init).binds (ps := ["self", "size", "arrows"]) fun _ _ _ _ _ _ us hl => match us, hl with | [_, _, _], _ => rfl⟩,
    m_Map__init := m_Map__init,
    i_Map__init := i_Map__init,
    M_Map := ⟨mk_Map, m_Map__init, i_Map__init, kc_Map⟩,
    R_Map := ⟨rd_Map, ga_Map⟩,
    p_Map_identity := p_Map_identity,
    f_Map_identity := f_Map_identity,
    A_Map_identity := ⟨_, fun_mk (st := s_Map_identity) l_Map_identity c_Map_identity k_Map_identity, (fun_mk (st := s_Map_identity) l_Map_identity c_Map_identity k_Map_identity).binds (ps := ["cls", "size"]) fun _ _ _ _ _ _ us hl => match us, hl with | [_, _], _ => rfl⟩,
    cm_Map_identity := ⟨at_Map_identity, ⟨_, rc_Map_identity⟩, fi_Map_identity⟩,
    p_Map_cycle := p_Map_cycle,
    f_Map_cycle := f_Map_cycle,
    A_Map_cycle := ⟨_, fun_mk (st := s_Map_cycle) l_Map_cycle c_Map_cycle k_Map_cycle, StX.bind_star2 (B := fun us => bindArgs _ ⟨us, []⟩) (fun _ _ => rfl) (fun _ _ _ _ => rfl)⟩,
    cm_Map_cycle := ⟨at_Map_cycle, ⟨_, rc_Map_cycle⟩, fi_Map_cycle⟩,
    p_Map_size := p_Map_size,
    f_Map_size := f_Map_size,
    A_Map_size := ⟨_, fun_mk (st := s_Map_size) l_Map_size c_Map_size k_Map_size, (fun_mk (st := s_Map_size) l_Map_size c_Map_size k_Map_size).binds (ps := ["self"]) fun _ _ _ _ _ _ us hl => match us, hl with | [_], _ => rfl⟩,
    P_Map_size := ⟨m_Map_size, s_get_Map_size, tk_Map_size, _, rc_Map_size⟩,
    p_Map_arrows := p_Map_arrows,
    f_Map_arrows := f_Map_arrows,
    A_Map_arrows := ⟨_, fun_mk (st := s_Map_arrows) l_Map_arrows c_Map_arrows k_Map_arrows, (fun_mk (st := s_Map_arrows) l_Map_arrows c_Map_arrows k_Map_arrows).binds (ps := ["self"]) fun _ _ _ _ _ _ us hl => match us, hl with | [_], _ => rfl⟩,
    P_Map_arrows := ⟨m_Map_arrows, s_get_Map_arrows, tk_Map_arrows, _, rc_Map_arrows⟩,
    f_Map__mul := f_Map__mul,
    A_Map__mul := ⟨_, fun_mk (st := s_Map__mul) l_Map__mul c_Map__mul k_Map__mul, (fun_mk (st := s_Map__mul) l_Map__mul c_Map__mul k_Map__mul).binds (ps := ["self", "other"]) fun _ _ _ _ _ _ us hl => match us, hl with | [_, _], _ => rfl⟩,
    m_Map__mul := m_Map__mul,
    i_Map__mul := i_Map__mul,
    f_Map__invert := f_Map__invert,
    A_Map__invert := ⟨_, fun_mk (st := s_Map__invert) l_Map__invert c_Map__invert k_Map__invert, (fun_mk (st := s_Map__invert) l_Map__invert c_Map__invert k_Map__invert).binds (ps := ["self"]) fun _ _ _ _ _ _ us hl => match us, hl with | [_], _ => rfl⟩,
    m_Map__invert := m_Map__invert,
    i_Map__invert := i_Map__invert,
    f_Map_power := f_Map_power,
    A_Map_power := ⟨_, fun_mk (st := s_Map_power) l_Map_power c_Map_power k_Map_power, (fun_mk (st := s_Map_power) l_Map_power c_Map_power k_Map_power).binds (ps := ["self", "exponent"]) fun _ _ _ _ _ _ us hl => match us, hl with | [_, _], _ => rfl⟩,
    m_Map_power := m_Map_power,
    i_Map_power := i_Map_power,
    meth_Map_power := ⟨m_Map_power, i_Map_power, k_Map_power⟩,
    f_Map__eq := f_Map__eq,
    A_Map__eq := ⟨_, fun_mk (st := s_Map__eq) l_Map__eq c_Map__eq k_Map__eq, (fun_mk (st := s_Map__eq) l_Map__eq c_Map__eq k_Map__eq).binds (ps := ["self", "other"]) fun _ _ _ _ _ _ us hl => match us, hl with | [_, _], _ => rfl⟩,
    m_Map__eq := m_Map__eq,
    i_Map__eq := i_Map__eq,
    f_Map__len := f_Map__len,
    A_Map__len := ⟨_, fun_mk (st := s_Map__len) l_Map__len c_Map__len k_Map__len, (fun_mk (st := s_Map__len) l_Map__len c_Map__len k_Map__len).binds (ps := ["self"]) fun _ _ _ _ _ _ us hl => match us, hl with | [_], _ => rfl⟩,
    m_Map__len := m_Map__len,
    i_Map__len := i_Map__len,
    f_Map__repr := f_Map__repr,
    A_Map__repr := ⟨_, fun_mk (st := s_Map__repr) l_Map__repr c_Map__repr k_Map__repr, (fun_mk (st := s_Map__repr) l_Map__repr c_Map__repr k_Map__repr).binds (ps := ["self"]) fun _ _ _ _ _ _ us hl => match us, hl with | [_], _ => rfl⟩,
    m_Map__repr := m_Map__repr,
    i_Map__repr := i_Map__repr,
    C_Session := C_Session,
    g_Session := PySem.W.mg_of X G a_Session,
    o_Session := ⟨⟨pg_Session, hd_Session, po_Session, sa_Session⟩, sf_Session, ca_Session, cn_Session, ct_Session, cm_Session⟩,
    kit_int_Session := kit_int_Session,
    kit_bool_Session := kit_bool_Session,
    kn_list_Session := kn_list_Session,
    nf_list_Session := nf_list_Session,
    self_Session := self_Session,
    na_own_present_Session := na_own_present_Session,
    na_own_log_Session := na_own_log_Session,
    na_own_earlier_Session := na_own_earlier_Session,
    ne_Session := ne_Session,
    f_Session__init := f_Session__init,
    A_Session__init := ⟨_, fun_mk (st := s_Session__init) l_Session__init c_Session__init k_Session__init, (fun_mk (st := s_Session__init) l_Session__init c_Session__init k_Session__init).binds (ps := ["self", "size"]) fun _ _ _ _ _ _ us hl => match us, hl with | [_, _], _ => rfl⟩,
    m_Session__init := m_Session__init,
    i_Session__init := i_Session__init,
    M_Session := ⟨mk_Session, m_Session__init, i_Session__init, kc_Session⟩,
    p_Session_present := p_Session_present,
    f_Session_present := f_Session_present,
    A_Session_present := ⟨_, fun_mk (st := s_Session_present) l_Session_present c_Session_present k_Session_present, (fun_mk (st := s_Session_present) l_Session_present c_Session_present k_Session_present).binds (ps := ["self"]) fun _ _ _ _ _ _ us hl => match us, hl with | [_], _ => rfl⟩,
    P_Session_present := ⟨m_Session_present, s_get_Session_present, tk_Session_present, _, rc_Session_present⟩,
    f_Session_log := f_Session_log,
    A_Session_log := ⟨_, fun_mk (st := s_Session_log) l_Session_log c_Session_log k_Session_log, (fun_mk (st := s_Session_log) l_Session_log c_Session_log k_Session_log).binds (ps := ["self"]) fun _ _ _ _ _ _ us hl => match us, hl with | [_], _ => rfl⟩,
    m_Session_log := m_Session_log,
    i_Session_log := i_Session_log,
    meth_Session_log := ⟨m_Session_log, i_Session_log, k_Session_log⟩,
    f_Session_check_next := f_Session_check_next,
    A_Session_check_next := ⟨_, fun_mk (st := s_Session_check_next) l_Session_check_next c_Session_check_next k_Session_check_next, (fun_mk (st := s_Session_check_next) l_Session_check_next c_Session_check_next k_Session_check_next).binds (ps := ["self", "later"]) fun _ _ _ _ _ _ us hl => match us, hl with | [_, _], _ => rfl⟩,
    m_Session_check_next := m_Session_check_next,
    i_Session_check_next := i_Session_check_next,
    meth_Session_check_next := ⟨m_Session_check_next, i_Session_check_next, k_Session_check_next⟩,
    f_Session_change_to := f_Session_change_to,
    A_Session_change_to := ⟨_, fun_mk (st := s_Session_change_to) l_Session_change_to c_Session_change_to k_Session_change_to, (fun_mk (st := s_Session_change_to) l_Session_change_to c_Session_change_to k_Session_change_to).binds (ps := ["self", "user", "action", "later"]) fun _ _ _ _ _ _ us hl => match us, hl with | [_, _, _, _], _ => rfl⟩,
    m_Session_change_to := m_Session_change_to,
    i_Session_change_to := i_Session_change_to,
    meth_Session_change_to := ⟨m_Session_change_to, i_Session_change_to, k_Session_change_to⟩,
    f_Session_apply := f_Session_apply,
    A_Session_apply := ⟨_, fun_mk (st := s_Session_apply) l_Session_apply c_Session_apply k_Session_apply, (fun_mk (st := s_Session_apply) l_Session_apply c_Session_apply k_Session_apply).binds (ps := ["self", "user", "factor"]) fun _ _ _ _ _ _ us hl => match us, hl with | [_, _, _], _ => rfl⟩,
    m_Session_apply := m_Session_apply,
    i_Session_apply := i_Session_apply,
    meth_Session_apply := ⟨m_Session_apply, i_Session_apply, k_Session_apply⟩,
    f_Session_raise_to := f_Session_raise_to,
    A_Session_raise_to := ⟨_, fun_mk (st := s_Session_raise_to) l_Session_raise_to c_Session_raise_to k_Session_raise_to, (fun_mk (st := s_Session_raise_to) l_Session_raise_to c_Session_raise_to k_Session_raise_to).binds (ps := ["self", "user", "exponent"]) fun _ _ _ _ _ _ us hl => match us, hl with | [_, _, _], _ => rfl⟩,
    m_Session_raise_to := m_Session_raise_to,
    i_Session_raise_to := i_Session_raise_to,
    meth_Session_raise_to := ⟨m_Session_raise_to, i_Session_raise_to, k_Session_raise_to⟩,
    f_Session_do_steps := f_Session_do_steps,
    A_Session_do_steps := ⟨_, fun_mk (st := s_Session_do_steps) l_Session_do_steps c_Session_do_steps k_Session_do_steps, (fun_mk (st := s_Session_do_steps) l_Session_do_steps c_Session_do_steps k_Session_do_steps).binds (ps := ["self", "user", "steps"]) fun _ _ _ _ _ _ us hl => match us, hl with | [_, _, _], _ => rfl⟩,
    m_Session_do_steps := m_Session_do_steps,
    i_Session_do_steps := i_Session_do_steps,
    meth_Session_do_steps := ⟨m_Session_do_steps, i_Session_do_steps, k_Session_do_steps⟩,
    f_Session_undo := f_Session_undo,
    A_Session_undo := ⟨_, fun_mk (st := s_Session_undo) l_Session_undo c_Session_undo k_Session_undo, (fun_mk (st := s_Session_undo) l_Session_undo c_Session_undo k_Session_undo).binds (ps := ["self", "user"]) fun _ _ _ _ _ _ us hl => match us, hl with | [_, _], _ => rfl⟩,
    m_Session_undo := m_Session_undo,
    i_Session_undo := i_Session_undo,
    meth_Session_undo := ⟨m_Session_undo, i_Session_undo, k_Session_undo⟩,
    f_Session_at := f_Session_at,
    A_Session_at := ⟨_, fun_mk (st := s_Session_at) l_Session_at c_Session_at k_Session_at, (fun_mk (st := s_Session_at) l_Session_at c_Session_at k_Session_at).binds (ps := ["self", "number"]) fun _ _ _ _ _ _ us hl => match us, hl with | [_, _], _ => rfl⟩,
    m_Session_at := m_Session_at,
    i_Session_at := i_Session_at,
    meth_Session_at := ⟨m_Session_at, i_Session_at, k_Session_at⟩,
    f_Session_fresh := f_Session_fresh,
    A_Session_fresh := ⟨_, fun_mk (st := s_Session_fresh) l_Session_fresh c_Session_fresh k_Session_fresh, (fun_mk (st := s_Session_fresh) l_Session_fresh c_Session_fresh k_Session_fresh).binds (ps := ["self"]) fun _ _ _ _ _ _ us hl => match us, hl with | [_], _ => rfl⟩,
    m_Session_fresh := m_Session_fresh,
    i_Session_fresh := i_Session_fresh,
    meth_Session_fresh := ⟨m_Session_fresh, i_Session_fresh, k_Session_fresh⟩,
    f_Session_clone := f_Session_clone,
    A_Session_clone := ⟨_, fun_mk (st := s_Session_clone) l_Session_clone c_Session_clone k_Session_clone, (fun_mk (st := s_Session_clone) l_Session_clone c_Session_clone k_Session_clone).binds (ps := ["self"]) fun _ _ _ _ _ _ us hl => match us, hl with | [_], _ => rfl⟩,
    m_Session_clone := m_Session_clone,
    i_Session_clone := i_Session_clone,
    meth_Session_clone := ⟨m_Session_clone, i_Session_clone, k_Session_clone⟩,
    f_Session__eq := f_Session__eq,
    A_Session__eq := ⟨_, fun_mk (st := s_Session__eq) l_Session__eq c_Session__eq k_Session__eq, (fun_mk (st := s_Session__eq) l_Session__eq c_Session__eq k_Session__eq).binds (ps := ["self", "other"]) fun _ _ _ _ _ _ us hl => match us, hl with | [_, _], _ => rfl⟩,
    m_Session__eq := m_Session__eq,
    i_Session__eq := i_Session__eq,
    f_Session__len := f_Session__len,
    A_Session__len := ⟨_, fun_mk (st := s_Session__len) l_Session__len c_Session__len k_Session__len, (fun_mk (st := s_Session__len) l_Session__len c_Session__len k_Session__len).binds (ps := ["self"]) fun _ _ _ _ _ _ us hl => match us, hl with | [_], _ => rfl⟩,
    m_Session__len := m_Session__len,
    i_Session__len := i_Session__len,
    f_Session__repr := f_Session__repr,
    A_Session__repr := ⟨_, fun_mk (st := s_Session__repr) l_Session__repr c_Session__repr k_Session__repr, (fun_mk (st := s_Session__repr) l_Session__repr c_Session__repr k_Session__repr).binds (ps := ["self"]) fun _ _ _ _ _ _ us hl => match us, hl with | [_], _ => rfl⟩,
    m_Session__repr := m_Session__repr,
    i_Session__repr := i_Session__repr,
    C_KeepingSession := C_KeepingSession,
    g_KeepingSession := PySem.W.mg_of X G a_KeepingSession,
    o_KeepingSession := ⟨⟨pg_KeepingSession, hd_KeepingSession, po_KeepingSession, sa_KeepingSession⟩, sf_KeepingSession, ca_KeepingSession, cn_KeepingSession, ct_KeepingSession, cm_KeepingSession⟩,
    kit_int_KeepingSession := kit_int_KeepingSession,
    kit_bool_KeepingSession := kit_bool_KeepingSession,
    ks_KeepingSession_Session := kit_s_Session_KeepingSession,
    sb_KeepingSession_Session := sb_Session_KeepingSession,
    sbn_Session_KeepingSession := kit_n_Session_KeepingSession,
    nf_KeepingSession_Session := nf_s_Session_KeepingSession,
    self_KeepingSession := self_KeepingSession,
    na_own_present_KeepingSession := na_own_present_KeepingSession,
    na_own_log_KeepingSession := na_own_log_KeepingSession,
    na_own_earlier_KeepingSession := na_own_earlier_KeepingSession,
    na_own_least_KeepingSession := na_own_least_KeepingSession,
    ne_KeepingSession := ne_KeepingSession,
    P_KeepingSession_present := ⟨ih_Session_present_KeepingSession, s_get_Session_present, tk_Session_present, _, rc_Session_present⟩,
    meth_KeepingSession_log := ⟨ih_Session_log_KeepingSession, i_Session_log, k_Session_log⟩,
    meth_KeepingSession_change_to := ⟨ih_Session_change_to_KeepingSession, i_Session_change_to, k_Session_change_to⟩,
    meth_KeepingSession_apply := ⟨ih_Session_apply_KeepingSession, i_Session_apply, k_Session_apply⟩,
    meth_KeepingSession_raise_to := ⟨ih_Session_raise_to_KeepingSession, i_Session_raise_to, k_Session_raise_to⟩,
    meth_KeepingSession_do_steps := ⟨ih_Session_do_steps_KeepingSession, i_Session_do_steps, k_Session_do_steps⟩,
    meth_KeepingSession_undo := ⟨ih_Session_undo_KeepingSession, i_Session_undo, k_Session_undo⟩,
    meth_KeepingSession_at := ⟨ih_Session_at_KeepingSession, i_Session_at, k_Session_at⟩,
    meth_KeepingSession_clone := ⟨ih_Session_clone_KeepingSession, i_Session_clone, k_Session_clone⟩,
    m_KeepingSession___eq := ih_Session__eq_KeepingSession,
    i_KeepingSession___eq := i_Session__eq,
    m_KeepingSession___len := ih_Session__len_KeepingSession,
    i_KeepingSession___len := i_Session__len,
    sm_KeepingSession_init := ⟨su_Session__init_KeepingSession, kq_Session__init_KeepingSession, st_Session__init_KeepingSession, sn_Session__init_KeepingSession, by decide +kernel⟩,
    sm_KeepingSession_check_next := ⟨su_Session_check_next_KeepingSession, kq_Session_check_next_KeepingSession, st_Session_check_next_KeepingSession, sn_Session_check_next_KeepingSession, by decide +kernel⟩,
    f_KeepingSession__init := f_KeepingSession__init,
    c_KeepingSession__init := c_KeepingSession__init,
    cc_KeepingSession__init := cc_KeepingSession__init,
    A_KeepingSession__init := ⟨⟨_, _, _, _, _, _, _, _, l_KeepingSession__init, cd_KeepingSession__init, .all fun us hl => match us, hl with | [_, _, _], _ => rfl⟩, (match file_of fl_KeepingSession__init with | ⟨t, ht⟩ => ⟨_, _, _, _, t, co_KeepingSession__init, ht⟩), ⟨_, _, _, ce_KeepingSession__init⟩, ⟨_, kd_KeepingSession__init⟩, rfl, ns_KeepingSession__init, no_KeepingSession__init, by decide +kernel, by decide +kernel⟩,
    K_KeepingSession__init := k_KeepingSession__init,
    m_KeepingSession__init := m_KeepingSession__init,
    i_KeepingSession__init := i_KeepingSession__init,
    M_KeepingSession := ⟨mk_KeepingSession, m_KeepingSession__init, i_KeepingSession__init, kc_KeepingSession⟩,
    p_KeepingSession_least := p_KeepingSession_least,
    f_KeepingSession_least := f_KeepingSession_least,
    A_KeepingSession_least := ⟨_, fun_mk (st := s_KeepingSession_least) l_KeepingSession_least c_KeepingSession_least k_KeepingSession_least, (fun_mk (st := s_KeepingSession_least) l_KeepingSession_least c_KeepingSession_least k_KeepingSession_least).binds (ps := ["self"]) fun _ _ _ _ _ _ us hl => match us, hl with | [_], _ => rfl⟩,
    P_KeepingSession_least := ⟨m_KeepingSession_least, s_get_KeepingSession_least, tk_KeepingSession_least, _, rc_KeepingSession_least⟩,
    f_KeepingSession_check_next := f_KeepingSession_check_next,
    c_KeepingSession_check_next := c_KeepingSession_check_next,
    cc_KeepingSession_check_next := cc_KeepingSession_check_next,
    A_KeepingSession_check_next := ⟨⟨_, _, _, _, _, _, _, _, l_KeepingSession_check_next, cd_KeepingSession_check_next, .all fun us hl => match us, hl with | [_, _], _ => rfl⟩, (match file_of fl_KeepingSession_check_next with | ⟨t, ht⟩ => ⟨_, _, _, _, t, co_KeepingSession_check_next, ht⟩), ⟨_, _, _, ce_KeepingSession_check_next⟩, ⟨_, kd_KeepingSession_check_next⟩, rfl, ns_KeepingSession_check_next, no_KeepingSession_check_next, by decide +kernel, by decide +kernel⟩,
    K_KeepingSession_check_next := k_KeepingSession_check_next,
    m_KeepingSession_check_next := m_KeepingSession_check_next,
    i_KeepingSession_check_next := i_KeepingSession_check_next,
    meth_KeepingSession_check_next := ⟨m_KeepingSession_check_next, i_KeepingSession_check_next, k_KeepingSession_check_next⟩,
    f_KeepingSession_fresh := f_KeepingSession_fresh,
    A_KeepingSession_fresh := ⟨_, fun_mk (st := s_KeepingSession_fresh) l_KeepingSession_fresh c_KeepingSession_fresh k_KeepingSession_fresh, (fun_mk (st := s_KeepingSession_fresh) l_KeepingSession_fresh c_KeepingSession_fresh k_KeepingSession_fresh).binds (ps := ["self"]) fun _ _ _ _ _ _ us hl => match us, hl with | [_], _ => rfl⟩,
    m_KeepingSession_fresh := m_KeepingSession_fresh,
    i_KeepingSession_fresh := i_KeepingSession_fresh,
    meth_KeepingSession_fresh := ⟨m_KeepingSession_fresh, i_KeepingSession_fresh, k_KeepingSession_fresh⟩,
    f_KeepingSession__repr := f_KeepingSession__repr,
    A_KeepingSession__repr := ⟨_, fun_mk (st := s_KeepingSession__repr) l_KeepingSession__repr c_KeepingSession__repr k_KeepingSession__repr, (fun_mk (st := s_KeepingSession__repr) l_KeepingSession__repr c_KeepingSession__repr k_KeepingSession__repr).binds (ps := ["self"]) fun _ _ _ _ _ _ us hl => match us, hl with | [_], _ => rfl⟩,
    m_KeepingSession__repr := m_KeepingSession__repr,
    i_KeepingSession__repr := i_KeepingSession__repr,
    C_NothingToUndo := C_NothingToUndo,
    g_NothingToUndo := PySem.W.mg_of X G a_NothingToUndo,
    x_NothingToUndo := ⟨⟨"LookupError", _, _, _, _, _, _, _, _, _, _, _, _, _, _, _, _, _, _, PySem.F.store_LookupError, PySem.F.excBase_LookupError, xl_NothingToUndo, by decide +kernel⟩, sa_NothingToUndo, ex_NothingToUndo, ty_NothingToUndo, kc_NothingToUndo⟩,
    xf_NothingToUndo := ⟨ga_NothingToUndo, gg_NothingToUndo, ex_NothingToUndo, hd_NothingToUndo⟩,
    xe_NothingToUndo := ⟨ga_NothingToUndo, gg_NothingToUndo, ex_NothingToUndo, hd_NothingToUndo, ca_NothingToUndo, cn_NothingToUndo, ct_NothingToUndo, cm_NothingToUndo⟩,
    te_NothingToUndo := PySem.W.exm_ref ex_NothingToUndo hd_NothingToUndo ty_NothingToUndo ss_NothingToUndo,
    kit_LookupError_NothingToUndo := kit_LookupError_NothingToUndo,
    na_user_NothingToUndo := na_user_NothingToUndo,
    f_NothingToUndo__init := f_NothingToUndo__init,
    A_NothingToUndo__init := ⟨_, fun_mk (st := s_NothingToUndo__init) l_NothingToUndo__init c_NothingToUndo__init k_NothingToUndo__init, (fun_mk (st := s_NothingToUndo__init) l_NothingToUndo__init c_NothingToUndo__init k_NothingToUndo__init).binds (ps := ["self", "user"]) fun _ _ _ _ _ _ us hl => match us, hl with | [_, _], _ => rfl⟩,
    m_NothingToUndo__init := m_NothingToUndo__init,
    ti_NothingToUndo__init := ti_NothingToUndo__init,
    C_NotLast := C_NotLast,
    g_NotLast := PySem.W.mg_of X G a_NotLast,
    x_NotLast := ⟨⟨"RuntimeError", _, _, _, _, _, _, _, _, _, _, _, _, _, _, _, _, _, _, PySem.F.store_RuntimeError, PySem.F.excBase_RuntimeError, xl_NotLast, by decide +kernel⟩, sa_NotLast, ex_NotLast, ty_NotLast, kc_NotLast⟩,
    xf_NotLast := ⟨ga_NotLast, gg_NotLast, ex_NotLast, hd_NotLast⟩,
    xe_NotLast := ⟨ga_NotLast, gg_NotLast, ex_NotLast, hd_NotLast, ca_NotLast, cn_NotLast, ct_NotLast, cm_NotLast⟩,
    te_NotLast := PySem.W.exm_ref ex_NotLast hd_NotLast ty_NotLast ss_NotLast,
    kit_RuntimeError_NotLast := kit_RuntimeError_NotLast,
    te_NotLast_NothingToUndo := PySem.W.exm_ref ex_NothingToUndo hd_NothingToUndo ty_NothingToUndo te_NothingToUndo_NotLast,
    na_user_NotLast := na_user_NotLast,
    f_NotLast__init := f_NotLast__init,
    A_NotLast__init := ⟨_, fun_mk (st := s_NotLast__init) l_NotLast__init c_NotLast__init k_NotLast__init, (fun_mk (st := s_NotLast__init) l_NotLast__init c_NotLast__init k_NotLast__init).binds (ps := ["self", "user"]) fun _ _ _ _ _ _ us hl => match us, hl with | [_, _], _ => rfl⟩,
    m_NotLast__init := m_NotLast__init,
    ti_NotLast__init := ti_NotLast__init,
    C_TooFew := C_TooFew,
    g_TooFew := PySem.W.mg_of X G a_TooFew,
    x_TooFew := ⟨⟨"RuntimeError", _, _, _, _, _, _, _, _, _, _, _, _, _, _, _, _, _, _, PySem.F.store_RuntimeError, PySem.F.excBase_RuntimeError, xl_TooFew, by decide +kernel⟩, sa_TooFew, ex_TooFew, ty_TooFew, kc_TooFew⟩,
    xf_TooFew := ⟨ga_TooFew, gg_TooFew, ex_TooFew, hd_TooFew⟩,
    xe_TooFew := ⟨ga_TooFew, gg_TooFew, ex_TooFew, hd_TooFew, ca_TooFew, cn_TooFew, ct_TooFew, cm_TooFew⟩,
    te_TooFew := PySem.W.exm_ref ex_TooFew hd_TooFew ty_TooFew ss_TooFew,
    kit_RuntimeError_TooFew := kit_RuntimeError_TooFew,
    na_number_TooFew := na_number_TooFew,
    f_TooFew__init := f_TooFew__init,
    A_TooFew__init := ⟨_, fun_mk (st := s_TooFew__init) l_TooFew__init c_TooFew__init k_TooFew__init, (fun_mk (st := s_TooFew__init) l_TooFew__init c_TooFew__init k_TooFew__init).binds (ps := ["self", "number"]) fun _ _ _ _ _ _ us hl => match us, hl with | [_, _], _ => rfl⟩,
    m_TooFew__init := m_TooFew__init,
    ti_TooFew__init := ti_TooFew__init,
    C_InvalidNumber := C_InvalidNumber,
    g_InvalidNumber := PySem.W.mg_of X G a_InvalidNumber,
    x_InvalidNumber := ⟨⟨"ValueError", _, _, _, _, _, _, _, _, _, _, _, _, _, _, _, _, _, _, PySem.F.store_ValueError, PySem.F.excBase_ValueError, xl_InvalidNumber, by decide +kernel⟩, sa_InvalidNumber, ex_InvalidNumber, ty_InvalidNumber, kc_InvalidNumber⟩,
    xf_InvalidNumber := ⟨ga_InvalidNumber, gg_InvalidNumber, ex_InvalidNumber, hd_InvalidNumber⟩,
    xe_InvalidNumber := ⟨ga_InvalidNumber, gg_InvalidNumber, ex_InvalidNumber, hd_InvalidNumber, ca_InvalidNumber, cn_InvalidNumber, ct_InvalidNumber, cm_InvalidNumber⟩,
    te_InvalidNumber := PySem.W.exm_ref ex_InvalidNumber hd_InvalidNumber ty_InvalidNumber ss_InvalidNumber,
    kit_ValueError_InvalidNumber := kit_ValueError_InvalidNumber,
    na_value_InvalidNumber := na_value_InvalidNumber,
    f_InvalidNumber__init := f_InvalidNumber__init,
    A_InvalidNumber__init := ⟨_, fun_mk (st := s_InvalidNumber__init) l_InvalidNumber__init c_InvalidNumber__init k_InvalidNumber__init, (fun_mk (st := s_InvalidNumber__init) l_InvalidNumber__init c_InvalidNumber__init k_InvalidNumber__init).binds (ps := ["self", "value"]) fun _ _ _ _ _ _ us hl => match us, hl with | [_, _], _ => rfl⟩,
    m_InvalidNumber__init := m_InvalidNumber__init,
    ti_InvalidNumber__init := ti_InvalidNumber__init,
    C_InvalidSize := C_InvalidSize,
    g_InvalidSize := PySem.W.mg_of X G a_InvalidSize,
    x_InvalidSize := ⟨⟨"ValueError", _, _, _, _, _, _, _, _, _, _, _, _, _, _, _, _, _, _, PySem.F.store_ValueError, PySem.F.excBase_ValueError, xl_InvalidSize, by decide +kernel⟩, sa_InvalidSize, ex_InvalidSize, ty_InvalidSize, kc_InvalidSize⟩,
    xf_InvalidSize := ⟨ga_InvalidSize, gg_InvalidSize, ex_InvalidSize, hd_InvalidSize⟩,
    xe_InvalidSize := ⟨ga_InvalidSize, gg_InvalidSize, ex_InvalidSize, hd_InvalidSize, ca_InvalidSize, cn_InvalidSize, ct_InvalidSize, cm_InvalidSize⟩,
    te_InvalidSize := PySem.W.exm_ref ex_InvalidSize hd_InvalidSize ty_InvalidSize ss_InvalidSize,
    kit_ValueError_InvalidSize := kit_ValueError_InvalidSize,
    na_value_InvalidSize := na_value_InvalidSize,
    f_InvalidSize__init := f_InvalidSize__init,
    A_InvalidSize__init := ⟨_, fun_mk (st := s_InvalidSize__init) l_InvalidSize__init c_InvalidSize__init k_InvalidSize__init, (fun_mk (st := s_InvalidSize__init) l_InvalidSize__init c_InvalidSize__init k_InvalidSize__init).binds (ps := ["self", "value"]) fun _ _ _ _ _ _ us hl => match us, hl with | [_, _], _ => rfl⟩,
    m_InvalidSize__init := m_InvalidSize__init,
    ti_InvalidSize__init := ti_InvalidSize__init,
    C_InvalidElement := C_InvalidElement,
    g_InvalidElement := PySem.W.mg_of X G a_InvalidElement,
    x_InvalidElement := ⟨⟨"ValueError", _, _, _, _, _, _, _, _, _, _, _, _, _, _, _, _, _, _, PySem.F.store_ValueError, PySem.F.excBase_ValueError, xl_InvalidElement, by decide +kernel⟩, sa_InvalidElement, ex_InvalidElement, ty_InvalidElement, kc_InvalidElement⟩,
    xf_InvalidElement := ⟨ga_InvalidElement, gg_InvalidElement, ex_InvalidElement, hd_InvalidElement⟩,
    xe_InvalidElement := ⟨ga_InvalidElement, gg_InvalidElement, ex_InvalidElement, hd_InvalidElement, ca_InvalidElement, cn_InvalidElement, ct_InvalidElement, cm_InvalidElement⟩,
    te_InvalidElement := PySem.W.exm_ref ex_InvalidElement hd_InvalidElement ty_InvalidElement ss_InvalidElement,
    kit_ValueError_InvalidElement := kit_ValueError_InvalidElement,
    na_value_InvalidElement := na_value_InvalidElement,
    f_InvalidElement__init := f_InvalidElement__init,
    A_InvalidElement__init := ⟨_, fun_mk (st := s_InvalidElement__init) l_InvalidElement__init c_InvalidElement__init k_InvalidElement__init, (fun_mk (st := s_InvalidElement__init) l_InvalidElement__init c_InvalidElement__init k_InvalidElement__init).binds (ps := ["self", "value"]) fun _ _ _ _ _ _ us hl => match us, hl with | [_, _], _ => rfl⟩,
    m_InvalidElement__init := m_InvalidElement__init,
    ti_InvalidElement__init := ti_InvalidElement__init,
    C_InvalidMap := C_InvalidMap,
    g_InvalidMap := PySem.W.mg_of X G a_InvalidMap,
    x_InvalidMap := ⟨⟨"ValueError", _, _, _, _, _, _, _, _, _, _, _, _, _, _, _, _, _, _, PySem.F.store_ValueError, PySem.F.excBase_ValueError, xl_InvalidMap, by decide +kernel⟩, sa_InvalidMap, ex_InvalidMap, ty_InvalidMap, kc_InvalidMap⟩,
    xf_InvalidMap := ⟨ga_InvalidMap, gg_InvalidMap, ex_InvalidMap, hd_InvalidMap⟩,
    xe_InvalidMap := ⟨ga_InvalidMap, gg_InvalidMap, ex_InvalidMap, hd_InvalidMap, ca_InvalidMap, cn_InvalidMap, ct_InvalidMap, cm_InvalidMap⟩,
    te_InvalidMap := PySem.W.exm_ref ex_InvalidMap hd_InvalidMap ty_InvalidMap ss_InvalidMap,
    kit_ValueError_InvalidMap := kit_ValueError_InvalidMap,
    na_part_InvalidMap := na_part_InvalidMap,
    f_InvalidMap__init := f_InvalidMap__init,
    A_InvalidMap__init := ⟨_, fun_mk (st := s_InvalidMap__init) l_InvalidMap__init c_InvalidMap__init k_InvalidMap__init, (fun_mk (st := s_InvalidMap__init) l_InvalidMap__init c_InvalidMap__init k_InvalidMap__init).binds (ps := ["self", "part"]) fun _ _ _ _ _ _ us hl => match us, hl with | [_, _], _ => rfl⟩,
    m_InvalidMap__init := m_InvalidMap__init,
    ti_InvalidMap__init := ti_InvalidMap__init,
    C_SizeMismatch := C_SizeMismatch,
    g_SizeMismatch := PySem.W.mg_of X G a_SizeMismatch,
    x_SizeMismatch := ⟨⟨"ValueError", _, _, _, _, _, _, _, _, _, _, _, _, _, _, _, _, _, _, PySem.F.store_ValueError, PySem.F.excBase_ValueError, xl_SizeMismatch, by decide +kernel⟩, sa_SizeMismatch, ex_SizeMismatch, ty_SizeMismatch, kc_SizeMismatch⟩,
    xf_SizeMismatch := ⟨ga_SizeMismatch, gg_SizeMismatch, ex_SizeMismatch, hd_SizeMismatch⟩,
    xe_SizeMismatch := ⟨ga_SizeMismatch, gg_SizeMismatch, ex_SizeMismatch, hd_SizeMismatch, ca_SizeMismatch, cn_SizeMismatch, ct_SizeMismatch, cm_SizeMismatch⟩,
    te_SizeMismatch := PySem.W.exm_ref ex_SizeMismatch hd_SizeMismatch ty_SizeMismatch ss_SizeMismatch,
    kit_ValueError_SizeMismatch := kit_ValueError_SizeMismatch,
    na_first_SizeMismatch := na_first_SizeMismatch,
    na_second_SizeMismatch := na_second_SizeMismatch,
    f_SizeMismatch__init := f_SizeMismatch__init,
    A_SizeMismatch__init := ⟨_, fun_mk (st := s_SizeMismatch__init) l_SizeMismatch__init c_SizeMismatch__init k_SizeMismatch__init, (fun_mk (st := s_SizeMismatch__init) l_SizeMismatch__init c_SizeMismatch__init k_SizeMismatch__init).binds (ps := ["self", "first", "second"]) fun _ _ _ _ _ _ us hl => match us, hl with | [_, _, _], _ => rfl⟩,
    m_SizeMismatch__init := m_SizeMismatch__init,
    ti_SizeMismatch__init := ti_SizeMismatch__init,
    n_isinstance := PySem.W.mg_none_of X G z_isinstance,
    n_int := PySem.W.mg_none_of X G z_int,
    n_bool := PySem.W.mg_none_of X G z_bool,
    n_dict := PySem.W.mg_none_of X G z_dict,
    n_len := PySem.W.mg_none_of X G z_len,
    n_range := PySem.W.mg_none_of X G z_range,
    n_list := PySem.W.mg_none_of X G z_list,
    n_max := PySem.W.mg_none_of X G z_max,
    n_min := PySem.W.mg_none_of X G z_min,
    n_repr := PySem.W.mg_none_of X G z_repr,
    n_abs := PySem.W.mg_none_of X G z_abs,
    n_str := PySem.W.mg_none_of X G z_str,
    n_tuple := PySem.W.mg_none_of X G z_tuple,
    n_all := PySem.W.mg_none_of X G z_all,
    n_enumerate := PySem.W.mg_none_of X G z_enumerate,
    n_zip := PySem.W.mg_none_of X G z_zip,
    v_MAX_SIZE := ⟨_, PySem.W.mg_of X G v_MAX_SIZE⟩,
    v_MAX_NAME := ⟨_, PySem.W.mg_of X G v_MAX_NAME⟩ }⟩
end My
namespace My
open PySem L2 U StX
/-! ### values of any known form -/
def knownV (C : Addr) (H : Hp) : V → Prop
  | .non => True | .bl _ => True | .int _ => True | .str _ => True
  | .ref a => (∃ xs, H a = some (.lst xs)) ∨ (∃ xs, H a = some (.tup xs)) ∨ (∃ kvs, H a = some (.dK kvs)) ∨ ∃ dx fs, H a = some (.ins C dx fs)
  | _ => False
def isI : V → Bool | .int _ => true | _ => false
def isB : V → Bool | .bl _ => true | _ => false
def inR : V → Int → Int → Bool | .int i, a, b => decide (a ≤ i) && decide (i ≤ b) | _, _, _ => false
section
variable {P : Program} {w : World} {K : PySem.W.Frag} {mg : Str → Option Value} {base : Heap}
theorem tyx_ins {H : Hp} {a C dx : Addr} {fs : List (Str × V)} (o : OwnC K C) (e : H a = some (.ins C dx fs)) : TyX K H (.ref a) (.ref C) := .base (.ins e o.cl o.ca o.cn o.ct o.cm)
/-- the type of a known value, and what isinstance says of it -/
theorem ty_known (T : Txt K mg) {H : Hp} {x : V} (h : knownV T.C_Map H x) : ∃ t, TyX K H x t ∧ PySem.W.kitOne K t (.type "int") = some (isI x || isB x) ∧ PySem.W.kitOne K t (.type "bool") = some (isB x) := by
  cases x with
  | non => exact ⟨_, .base .non, kit_ty (r := false) (by decide +kernel), kit_ty (r := false) (by decide +kernel)⟩
  | bl b => exact ⟨_, .base (.bl b), kit_ty (r := true) (by decide +kernel), kit_ty (r := true) (by decide +kernel)⟩
  | int i => exact ⟨_, .base (.int i), kit_ty (r := true) (by decide +kernel), kit_ty (r := false) (by decide +kernel)⟩
  | str z => exact ⟨_, .base (.str z), kit_ty (r := false) (by decide +kernel), kit_ty (r := false) (by decide +kernel)⟩
  | ref a =>
    rcases h with ⟨xs, e⟩ | ⟨xs, e⟩ | ⟨xs, e⟩ | ⟨dx, fs, e⟩
    · exact ⟨_, .base (.lst e), kit_ty (r := false) (by decide +kernel), kit_ty (r := false) (by decide +kernel)⟩
    · exact ⟨_, .base (.tup e), kit_ty (r := false) (by decide +kernel), kit_ty (r := false) (by decide +kernel)⟩
    · exact ⟨_, .base (.dK e), kit_ty (r := false) (by decide +kernel), kit_ty (r := false) (by decide +kernel)⟩
    · exact ⟨_, tyx_ins T.o_Map e, T.kit_int_Map, T.kit_bool_Map⟩
  | byt b => exact h.elim
  | flt b => exact h.elim
  | ty b => exact h.elim
def spIsInt (C : Addr) : Sp := fun vs H Q _ => ∃ x, vs = [x] ∧ knownV C H x ∧ Q (.bl (isI x)) H
theorem ok_is_integer (T : Txt K mg) : FnR P w K mg base CX0 1 T.f_is_integer (spIsInt T.C_Map) := by
  refine T.A_is_integer.ok sc_is_integer (fun vs H Q E h => ?_) (fun cdv A outer s H vs Q E hr h => ?_)
  · obtain ⟨x, rfl, _⟩ := h
    rfl
  · obtain ⟨x, rfl, hx, q⟩ := h
    refine ⟨_, pss_one (ps_ret (pe_and (pe_callB call_isi (by rfl) T.n_isinstance (by decide +kernel) (pa_cons (pv 0) (pa_cons (pe_bltn (v := .ty "int") (u := .type "int") (by rfl) T.n_int (by decide +kernel) rfl) pa_nil)))
      (pe_one (pe_not (pe_callB call_isi (by rfl) T.n_isinstance (by decide +kernel) (pa_cons (pv 0) (pa_cons (pe_bltn (v := .ty "bool") (u := .type "bool") (by rfl) T.n_bool (by decide +kernel) rfl) pa_nil))))))), ?_⟩
    obtain ⟨t, ht, k1, k2⟩ := ty_known T hx
    refine ⟨_, rfl, x, _, t, _, _, rfl, .ty _, ht, k1, _, rfl, ?_⟩
    refine ifB (fun hc => ?_) (fun hc => ?_)
    · refine ⟨_, rfl, x, _, t, _, _, rfl, .ty _, ht, k2, _, rfl, ?_⟩
      have e : (!isB x) = isI x := by cases x <;> first | rfl | cases hc
      rw [e]
      exact q
    · have e : isI x = false := by cases x <;> first | rfl | cases hc
      rw [e] at q
      exact q
def spInR (C : Addr) : Sp := fun vs H Q _ => ∃ x a b, vs = [x, .int a, .int b] ∧ knownV C H x ∧ Q (.bl (inR x a b)) H
theorem ok_in_range (T : Txt K mg) : FnR P w K mg base CX0 2 T.f_in_range (spInR T.C_Map) := by
  refine T.A_in_range.ok sc_in_range (fun vs H Q E h => ?_) (fun cdv A outer s H vs Q E hr h => ?_)
  · obtain ⟨x, a, b, rfl, _⟩ := h
    rfl
  · obtain ⟨x, a, b, rfl, hx, q⟩ := h
    refine ⟨_, pss_one (ps_ret (pe_and (pe_callR (ok_is_integer T) hr T.A_is_integer.kp rfl T.g_is_integer pass0 (pa_cons (pv 0) pa_nil))
      (pe_one (pe_chain op_le op_le (pv 1) (pv 0) (pv 2))))), ?_⟩
    refine ⟨_, rfl, x, rfl, hx, _, rfl, ?_⟩
    cases x with
    | int i =>
      refine iteT ⟨_, rfl, _, rfl, _, _, rfl, rfl, _, rfl, ?_⟩
      refine ifD (fun h => ?_) (fun h => ?_)
      · refine ⟨_, rfl, _, _, rfl, rfl, ?_⟩
        have e : inR (.int i) a b = decide (i ≤ b) := by simp [inR, h]
        rw [e] at q
        exact q
      · have e : inR (.int i) a b = false := by simp [inR, h]
        rw [e] at q
        exact q
    | _ => exact iteF q
/-! ### the law's draws -/
def spDraw : Sp := fun vs H Q _ => ∃ (p : Addr) (a b n : Int), vs = [.ref p, .int n] ∧ H p = some (.lst [.int a, .int b]) ∧ 0 ≤ a ∧ 0 ≤ b ∧ b < 2147483647 ∧ 0 < n ∧ n < 1073741824 ∧
  ∀ a' b' r : Int, 0 ≤ a' → 0 ≤ b' → b' < 2147483647 → 0 ≤ r → r < n → Q (.int r) (upd H p (.lst [.int a', .int b']))
theorem ok_draw (T : Txt K mg) : FnR P w K mg base CX0 1 T.f_l_draw spDraw := by
  refine T.A_l_draw.ok sc_l_draw (fun vs H Q E h => ?_) (fun cdv A outer s H vs Q E hr h => ?_)
  · obtain ⟨p, a, b, n, rfl, _⟩ := h
    rfl
  · obtain ⟨p, a, b, n, rfl, hp, ha, hb, hb2, hn, hn2, k⟩ := h
    refine ⟨_, pss_cons (ps_if (pt_cmpR op_gt (pe_ix ix_list (pv 0) pe_int (fun _ _ => rfl)) pe_int (nomark _))
        (pss_cons (ps_set (i := 2) sc_l_draw.nd rfl (Or.inl rfl) (pe_op op_mod (pe_ix ix_list (pv 0) pe_int (fun _ _ => rfl)) (pv 1)))
        (pss_cons (ps_asg (pe_op op_fdiv (pe_ix ix_list (pv 0) pe_int (fun _ _ => rfl)) (pv 1)) (pg_sub (pv 0) pe_int set_list))
        (pss_one (ps_ret (pv 2))))) pss_nil)
      (pss_cons (ps_asg (pe_op op_mod (pe_op op_add (pe_op op_mul (pe_ix ix_list (pv 0) pe_int (fun _ _ => rfl)) pe_int) pe_int) pe_int) (pg_sub (pv 0) pe_int set_list))
      (pss_one (ps_ret (pe_op op_mod (pe_op op_fdiv (pe_op op_mod (pe_op op_mul (pe_ix ix_list (pv 0) pe_int (fun _ _ => rfl)) (pe_ix ix_list (pv 0) pe_int (fun _ _ => rfl))) pe_int) pe_int) (pv 1))))), ?_⟩
    refine ⟨_, rfl, p, _, 0, _, rfl, rfl, SqL.of hp, rfl, _, _, rfl, rfl, _, rfl, ?_⟩
    refine ifD (fun h => ?_) (fun h => ?_)
    · refine ⟨_, rfl, p, _, 0, _, rfl, rfl, SqL.of hp, rfl, _, rfl, _, _, rfl, rfl, hn, ?_⟩
      refine ⟨_, rfl, p, _, 0, _, rfl, rfl, SqL.of hp, rfl, _, rfl, _, _, rfl, rfl, ⟨hn, hn2⟩, _, rfl, p, _, 0, _, rfl, rfl, hp, rfl, ?_⟩
      refine ⟨_, rfl, ?_⟩
      exact k (a / n) b (a % n) (Int.ediv_nonneg ha (by omega)) hb hb2 (Int.emod_nonneg _ (by omega)) (Int.emod_lt_of_pos _ hn)
    · have m1 : 0 ≤ (b * 48271 + 11) % 2147483647 := Int.emod_nonneg _ (by decide)
      have m2 : (b * 48271 + 11) % 2147483647 < 2147483647 := Int.emod_lt_of_pos _ (by decide)
      refine ⟨_, rfl, p, _, 1, _, rfl, rfl, SqL.of hp, rfl, _, _, rfl, rfl, .inr ⟨by decide, by decide⟩, _, _, rfl, rfl, _, _, rfl, rfl, (by show (0 : Int) < 2147483647; decide), _, rfl, p, _, 1, _, rfl, rfl, hp, rfl, ?_⟩
      refine ⟨_, rfl, p, _, 1, _, rfl, rfl, SqL.of upd_same, rfl, _, rfl, p, _, 1, _, rfl, rfl, SqL.of upd_same, rfl, _, _, rfl, rfl, .inl ⟨by omega, by omega⟩, _, _, rfl, rfl, (by show (0 : Int) < 2147483629; decide), _, _, rfl, rfl, ⟨by decide, by decide⟩, _, rfl, _, _, rfl, rfl, hn, ?_⟩
      exact k a ((b * 48271 + 11) % 2147483647) _ ha m1 m2 (Int.emod_nonneg _ (by omega)) (Int.emod_lt_of_pos _ hn)
end
end My
namespace My
open PySem L2 U StX PM
section
variable {P : Program} {w : World} {K : PySem.W.Frag} {mg : Str → Option Value} {base : Heap}
theorem head_int (xs : List V) (h : ∀ v ∈ xs, ∃ i, v = V.int i) : ∃ c, atI (xs ++ [V.int 0]) 0 = some (V.int c) := by
  cases xs with
  | nil => exact ⟨0, rfl⟩
  | cons a r =>
    obtain ⟨i, rfl⟩ := h a List.mem_cons_self
    refine ⟨i, atI_nat (j := 0) ?_⟩
    rfl
theorem cut_int (ns : List Int) (lo hi : Option Int) : ∀ v ∈ cutV (ns.map V.int) lo hi, ∃ i, v = V.int i := by
  intro v hv
  unfold cutV at hv
  have h1 := List.mem_of_mem_drop (List.mem_of_mem_take hv)
  obtain ⟨i, _, rfl⟩ := List.mem_map.mp h1
  exact ⟨i, rfl⟩
def spHand (K : PySem.W.Frag) : Sp := fun vs H Q _ => ∃ (a : Addr) (ns : List Int) (k : Int), vs = [.ref a, .int k] ∧ SqL K H a (ns.map V.int) ∧ ns.length ≤ 63 ∧
  ∀ p H' x y, H p = none → H' p = some (.lst [.int x, .int y]) → Same H H' → 0 ≤ x → 0 ≤ y → y < 2147483647 → Q (.ref p) H'
theorem ok_hand (T : Txt K mg) : FnR P w K mg base CX0 1 T.f_l_hand (spHand K) := by
  refine T.A_l_hand.ok sc_l_hand (fun vs H Q E h => ?_) (fun cdv A outer s H vs Q E hr h => ?_)
  · obtain ⟨a, ns, k, rfl, _⟩ := h
    rfl
  · obtain ⟨a, ns, k, rfl, hS, hl, q⟩ := h
    refine ⟨_, pss_cons (ps_set (i := 2) sc_l_hand.nd rfl (Or.inl rfl) (pe_ix ix_list (pe_op op_cat (pe_slice sl_list (pv 0) (po_some (pv 1)) (po_some (pe_op op_add (pv 1) pe_int))) (pe_lst (pa_cons pe_int pa_nil))) pe_int (fun _ _ => rfl)))
      (pss_cons (ps_set (i := 3) sc_l_hand.nd rfl (Or.inl rfl) (pe_op op_mod (pe_op op_mul (pe_op op_add (pe_op op_add (pe_op op_mod (pv 2) pe_int) (pe_op op_mul pe_int (pv 1))) pe_int) pe_int) pe_int))
      (pss_one (ps_ret (pe_lst (pa_cons (pe_op op_mul (pe_callTy call_int1 (by rfl) T.n_int (by decide +kernel) (pa_cons (pe_cmpR op_ge (pv 2) (pe_op op_pow pe_int pe_int) (nomark _)) pa_nil)) (pv 2)) (pa_cons (pv 3) pa_nil)))))), ?_⟩
    refine ⟨_, rfl, _, rfl, _, rfl, _, rfl, _, _, rfl, rfl, _, rfl, a, _, rfl, hS, fun p1 n1 => ?_⟩
    refine ⟨(by show 1 ≤ sizeLine; decide), fun p2 n2 => ?_⟩
    have n12 : p1 ≠ p2 := ne_of_none upd_same n2
    have hcl := cutV_length (ns.map V.int) (some k) (some (k + 1))
    rw [List.length_map] at hcl
    refine ⟨p1, p2, cutV (ns.map V.int) (some k) (some (k + 1)), [.int 0], rfl, rfl, (by rw [upd_ne n12, upd_same]), upd_same, ?_, fun p3 n3 => ?_⟩
    · show _ + 1 ≤ sizeLine
      exact Nat.le_trans (by omega : _ ≤ 64) (by decide)
    obtain ⟨c, hc⟩ := head_int _ (cut_int ns (some k) (some (k + 1)))
    refine ⟨p3, _, 0, .int c, rfl, rfl, SqL.of upd_same, hc, ?_⟩
    refine ⟨_, rfl, _, _, rfl, rfl, (by show (0 : Int) < 2147483647; decide), _, rfl, _, _, rfl, rfl, .inl ⟨by decide, by decide⟩, _, _, rfl, rfl, _, _, rfl, rfl, _, _, rfl, rfl, .inr ⟨by decide, by decide⟩, _, _, rfl, rfl, (by show (0 : Int) < 2147483629; decide), ?_⟩
    refine ⟨_, rfl, _, _, rfl, rfl, ⟨by decide, by decide, by decide⟩, _, _, rfl, rfl, .inr ⟨_, rfl, _, rfl, _, _, rfl, rfl, .inl ?_, _, rfl, (by show 2 ≤ sizeLine; decide), fun p4 n4 => ?_⟩⟩
    · cases decide ((10 : Int) ^ (18 : Int).toNat ≤ c) <;> exact ⟨by decide, by decide⟩
    · have s3 := ((Same.new (o := .lst (cutV (ns.map V.int) (some k) (some (k + 1)))) n1).trans (Same.new (o := .lst [.int 0]) n2)).trans (Same.new (o := .lst (cutV (ns.map V.int) (some k) (some (k + 1)) ++ [.int 0])) n3)
      refine q p4 _ _ _ (s3.free n4) upd_same (s3.trans (Same.new n4)) ?_ (Int.emod_nonneg _ (by decide)) ?_
      · cases hd : decide ((10 : Int) ^ (18 : Int).toNat ≤ c) with
        | true =>
          have := of_decide_eq_true hd
          have h10 : (0 : Int) ≤ 10 ^ (18 : Int).toNat := by decide
          show 0 ≤ 1 * c
          omega
        | false => show 0 ≤ 0 * c; omega
      · have := Int.emod_lt_of_pos ((c % 2147483647 + 7919 * k + 1) * 48271) (show (0 : Int) < 2147483629 by decide)
        omega
end
end My
namespace My
open PySem L2 U StX PM
section
variable {P : Program} {w : World} {K : PySem.W.Frag} {mg : Str → Option Value} {base : Heap}
def rowOk (n : Int) (p : Int × Int) : Bool := inR (.int p.1) 0 (n - 1) && inR (.int p.2) 0 (n - 1)
def okArr (n : Int) (l : List (Int × Int)) : Bool := l.all (rowOk n) && decide (l.map (·.2)).Nodup
def tgt (l : List (Int × Int)) : List (Key × V) := l.map fun p => (Sum.inl p.2, V.bl true)
theorem tgt_key {l : List (Int × Int)} {y : Int} : (Sum.inl y : Key) ∈ (tgt l).map (·.1) ↔ y ∈ l.map (·.2) := by
  unfold tgt
  rw [List.map_map]
  constructor
  · intro h
    obtain ⟨p, hp, e⟩ := List.mem_map.mp h
    exact List.mem_map.mpr ⟨p, hp, Sum.inl.inj e⟩
  · intro h
    obtain ⟨p, hp, e⟩ := List.mem_map.mp h
    exact List.mem_map.mpr ⟨p, hp, congrArg Sum.inl e⟩
theorem tgt_val {l : List (Int × Int)} {y : Int} : (valV (tgt l) (Sum.inl y : Key)).isSome = decide (y ∈ l.map (·.2)) := by
  by_cases h : y ∈ l.map (·.2)
  · have h' := tgt_key.mpr h
    rw [decide_eq_true h]
    cases e : valV (tgt l) (Sum.inl y : Key) with
    | some v => rfl
    | none =>
      obtain ⟨p, hp, e2⟩ := List.mem_map.mp h'
      exfalso
      unfold valV at e
      rw [Option.map_eq_none_iff, List.find?_eq_none] at e
      exact e p hp (by simp [e2])
  · rw [decide_eq_false h, valV_none fun z => h (tgt_key.mp z)]
    rfl
theorem okArr_step {n : Int} {l : List (Int × Int)} {i : Nat} {p : Int × Int} (h : l[i]? = some p) : okArr n (l.take (i + 1)) = (okArr n (l.take i) && (rowOk n p && !decide (p.2 ∈ (l.take i).map (·.2)))) := by
  rw [take_more h]
  unfold okArr
  rw [List.all_append, List.map_append]
  have e : decide (((l.take i).map (·.2) ++ [p].map (·.2)).Nodup) = (decide ((l.take i).map (·.2)).Nodup && !decide (p.2 ∈ (l.take i).map (·.2))) := by
    rw [Bool.eq_iff_iff]
    simp only [decide_eq_true_eq, Bool.and_eq_true, Bool.not_eq_true', decide_eq_false_iff_not]
    rw [List.nodup_append]
    constructor
    · rintro ⟨h1, _, h2⟩
      exact ⟨h1, fun hm => h2 _ hm _ (by simp) rfl⟩
    · rintro ⟨h1, h2⟩
      refine ⟨h1, by simp, fun a ha b hb e => ?_⟩
      simp at hb
      subst hb
      exact h2 (e ▸ ha)
  rw [e]
  simp only [List.all_cons, List.all_nil, Bool.and_true]
  cases (l.take i).all (rowOk n) <;> cases rowOk n p <;> cases decide ((l.take i).map (·.2)).Nodup <;> simp
theorem okArr_cut {n : Int} {l : List (Int × Int)} {i : Nat} (h : okArr n (l.take i) = false) : okArr n l = false := by
  cases e : okArr n l with
  | false => rfl
  | true =>
    unfold okArr at e h
    rw [Bool.and_eq_true] at e
    have h1 : (l.take i).all (rowOk n) = true := by
      rw [List.all_eq_true] at e ⊢
      exact fun p hp => e.1 p (List.mem_of_mem_take hp)
    have h2 : ((l.take i).map (·.2)).Nodup := by
      have := of_decide_eq_true e.2
      rw [List.map_take]
      exact List.Sublist.nodup (List.take_sublist _ _) this
    rw [h1, decide_eq_true h2] at h
    cases h
def spArr : Sp := fun vs H Q _ => ∃ (n : Int) (d : Addr) (l : List (Int × Int)), vs = [.int n, .ref d] ∧ H d = some (.dK (kvI l)) ∧ l.length ≤ 1000 ∧ ∀ H', Same H H' → Q (.bl (okArr n l)) H'
theorem ok_are_arrows (T : Txt K mg) : FnR P w K mg base CX0 3 T.f_are_arrows spArr := by
  refine T.A_are_arrows.ok sc_are_arrows (fun vs H Q E h => ?_) (fun cdv A outer s H vs Q E hr h => ?_)
  · obtain ⟨n, d, l, rfl, _⟩ := h
    rfl
  · obtain ⟨n, d, l, rfl, hd, hl, q⟩ := h
    have hu := hu_of hr
    refine ⟨_, pss_cons (ps_if (pt_not (pt_val (pe_callB call_isi (by rfl) T.n_isinstance (by decide +kernel) (pa_cons (pv 1) (pa_cons (pe_bltn (v := .ty "dict") (u := .type "dict") (by rfl) T.n_dict (by decide +kernel) rfl) pa_nil))))) (pss_one (ps_ret pe_bl)) pss_nil)
      (pss_cons (ps_set (i := 2) sc_are_arrows.nd rfl (Or.inl rfl) pe_dnewK)
      (pss_cons (ps_lock (ps_for PassesOwn.never rfl (pi_items (pv 1)) (pg_tup rfl (pgs_cons (pg_name (i := 3) sc_are_arrows.nd rfl (Or.inl rfl)) (pgs_cons (pg_name (i := 4) sc_are_arrows.nd rfl (Or.inl rfl)) pgs_nil)))
        (pss_cons (ps_if (PW.pt (pw_or (pt_not (pt_val (pe_callR (ok_in_range T) hr T.A_in_range.kp rfl T.g_in_range pass0 (pa_cons (pv 3) (pa_cons pe_int (pa_cons (pe_op op_sub (pv 0) pe_int) pa_nil))))))
            (pw_or (pt_not (pt_val (pe_callR (ok_in_range T) hr T.A_in_range.kp rfl T.g_in_range pass0 (pa_cons (pv 4) (pa_cons pe_int (pa_cons (pe_op op_sub (pv 0) pe_int) pa_nil))))))
            (pw_or1 (pt_cmp (pc_din hu (pv 4) (pv 2))))))) (pss_one (ps_ret pe_bl)) pss_nil)
        (pss_one (ps_dput hu (pv 2) (pv 4) pe_bl rfl)))))
      (pss_one (ps_ret pe_bl)))), ?_⟩
    refine ⟨_, rfl, _, _, _, _, true, rfl, .ty _, .base (.dK hd), kit_ty (by decide +kernel), _, rfl, ?_⟩
    refine iteF ?_
    intro t ht
    have ntd : t ≠ d := fun e => by rw [e, hd] at ht; cases ht
    have hd1 : (upd H t (.dK [])) d = some (.dK (kvI l)) := by rw [upd_ne ntd.symm]; exact hd
    refine ⟨d, _, hd1, trivial, fun od => ?_⟩
    refine ⟨_, rfl, d, od, kvI l, rfl, upd_same, ?_⟩
    refine for_it walk_items (fun i σ H' => ∃ v3 v4, σ = [some (.int n), some (.ref d), some (.ref t), v3, v4] ∧ H' d = some (.frz od (.dK (kvI l))) ∧ Off d H H' ∧ H' t = some (.dK (tgt (l.take i))) ∧ okArr n (l.take i) = true)
      ⟨none, none, rfl, upd_same, (Off.new ht).tr Off.lock, (by rw [upd_ne ntd]; exact upd_same), rfl⟩ (fun i σ H' _ ⟨_, _, _, p, _⟩ => p) ?_ ?_
    · rintro i v σ H' H'' hi ⟨v3, v4, rfl, p1, p2, p3, p4⟩ ⟨U, a, b, rfl, hU, rfl, e1, e2⟩
      rw [kvI_length] at hi
      obtain ⟨⟨x, y⟩, exy⟩ : ∃ p, l[i]? = some p := ⟨_, List.getElem?_eq_getElem hi⟩
      have ek : (kvI l)[i]? = some (Sum.inl x, V.int y) := by unfold kvI; rw [List.getElem?_map, exy]; rfl
      dsimp only at e1 e2
      rw [ek] at e1 e2
      cases e1; cases e2
      have nUd : d ≠ U := ne_of_none p1 hU
      have nUt : t ≠ U := ne_of_none p3 hU
      have d3 : (upd H' U (.tup [kV (Sum.inl x), .int y])) d = some (.frz od (.dK (kvI l))) := by rw [upd_ne nUd]; exact p1
      have t3 : (upd H' U (.tup [kV (Sum.inl x), .int y])) t = some (.dK (tgt (l.take i))) := by rw [upd_ne nUt]; exact p3
      have o3 : Off d H (upd H' U (.tup [kV (Sum.inl x), .int y])) := p2.tr (Off.new hU)
      have bad : (rowOk n (x, y) && !decide (y ∈ (l.take i).map (·.2))) = false → Q (.bl false) (upd (upd H' U (.tup [kV (Sum.inl x), .int y])) d (.dK (kvI l))) := by
        intro hb
        have h1 := okArr_step (n := n) exy
        rw [p4, hb] at h1
        have := q _ (o3.back hd)
        rw [okArr_cut h1] at this
        exact this
      refine ⟨U, [.int x, .int y], rfl, SqT.of upd_same, rfl, .int x, [.int y], rfl, .int y, [], rfl, rfl, ?_⟩
      refine ⟨_, rfl, _, rfl, _, _, rfl, rfl, .int x, 0, n - 1, rfl, trivial, _, rfl, ?_⟩
      refine ifNB (fun hc => iteT ⟨d3, bad ?_⟩) (fun hc => ?_)
      · simp [rowOk, hc]
      refine ⟨_, rfl, _, rfl, _, _, rfl, rfl, .int y, 0, n - 1, rfl, trivial, _, rfl, ?_⟩
      refine ifNB (fun hc2 => iteT ⟨d3, bad ?_⟩) (fun hc2 => ?_)
      · simp [rowOk, hc2]
      refine ⟨_, rfl, _, rfl, t, _, rfl, DGet.k (k := Sum.inl y) t3, _, rfl, ?_⟩
      rw [tgt_val]
      refine ifD (fun hm => ⟨d3, bad ?_⟩) (fun hm => ?_)
      · rw [decide_eq_true hm]; simp
      have hlen : (tgt (l.take i)).length ≤ 1000 := by unfold tgt; rw [List.length_map, List.length_take]; omega
      refine ⟨_, rfl, _, rfl, t, _, rfl, DPut.k (k := Sum.inl y) t3 (small1000 hlen), ?_⟩
      refine ⟨_, _, rfl, ?_, o3.mut ht, ?_, ?_⟩
      · rw [upd_ne ntd.symm]; exact d3
      · rw [upd_same, putK_new _ (valV_none fun z => hm (tgt_key.mp z)), take_more exy]
        unfold tgt
        rw [List.map_append]
        rfl
      · rw [okArr_step exy, p4, decide_eq_false hm]
        simp [rowOk, hc, hc2]
    · rintro σ H' ⟨v3, v4, rfl, p1, p2, p3, p4⟩
      rw [kvI_length, List.take_length] at p4
      have := q _ (p2.back hd)
      rw [p4] at this
      exact ⟨p1, this⟩
end
end My
namespace My
open PySem L2 U StX PM
section
variable {P : Program} {w : World} {K : PySem.W.Frag} {mg : Str → Option Value} {base : Heap}
theorem ne_fld : ¬ (("own_size" : Str) = "own_arrows") := by decide +kernel
/-- a map's attributes -/
def flds (n : Int) (D : Addr) : List (Str × V) := putF "own_arrows" (.ref D) (putF "own_size" (.int n) [])
theorem flds_size (n : Int) (D : Addr) : (flds n D).lookup ("own_size" : Str) = some (.int n) := by
  unfold flds
  rw [lookup_putF, if_neg ne_fld, lookup_putF, if_pos rfl]
theorem flds_arrows (n : Int) (D : Addr) : (flds n D).lookup ("own_arrows" : Str) = some (.ref D) := by
  unfold flds
  rw [lookup_putF, if_pos rfl]
theorem flds_no (n : Int) (D : Addr) {m : Str} (h1 : ¬ m = "own_arrows") (h2 : ¬ m = "own_size") : (flds n D).lookup m = none := by
  unfold flds
  rw [lookup_putF, if_neg h1, lookup_putF, if_neg h2]
  all_goals rfl
/-- a Map of n elements stands at m: the map f -/
structure IsMap (C : Addr) (H : Hp) (m : Addr) (n : Int) (f : PF) : Prop where
  ob : ∃ dx D, H m = some (.ins C dx (flds n D)) ∧ H D = some (.dK (kvI (tab n f)))
  wf : WF n f
  lo : 1 ≤ n
  hi : n ≤ 300
theorem IsMap.same {C : Addr} {H H' : Hp} {m : Addr} {n : Int} {f : PF} (a : IsMap C H m n f) (s : Same H H') : IsMap C H' m n f := by
  obtain ⟨⟨dx, D, h1, h2⟩, wf, lo, hi⟩ := a
  exact ⟨⟨dx, D, s _ _ h1, s _ _ h2⟩, wf, lo, hi⟩
theorem okArr_of {n : Int} {l : List (Int × Int)} {f : PF} (d : DI l f) (w : WF n f) : okArr n l = true := by
  unfold okArr
  rw [Bool.and_eq_true]
  refine ⟨List.all_eq_true.mpr fun p hp => ?_, decide_eq_true (d.vals w)⟩
  obtain ⟨x, y⟩ := p
  have h := w.dom x y (d.mem.mp hp)
  simp only [rowOk, inR, Bool.and_eq_true, decide_eq_true_eq]
  omega
theorem madeR_tab {l : List (Int × Int)} {f : PF} (d : DI l f) (n : Nat) : madeR (fun k => (lk l k).isSome) (fun x => x) (fun k => ((lk l k).map V.int).getD .non) n = kvI (tabN f n) := by
  induction n with
  | zero => rfl
  | succ n ih =>
    rw [madeR_succ, ih]
    have e : tabN f (n + 1) = tabN f n ++ ((f (n : Int)).map fun y => ((n : Int), y)).toList := by
      unfold tabN
      rw [List.range_succ, List.filterMap_append]
      cases h : f (n : Int) <;> simp [h]
    rw [e, d.at_]
    cases h : f (n : Int) with
    | none => simp
    | some y => simp [kvI]
def spInit (C : Addr) : Sp := fun vs H Q _ => ∃ (p dx d : Addr) (n : Int) (l : List (Int × Int)) (f : PF), vs = [.ref p, .int n, .ref d] ∧ H p = some (.ins C dx []) ∧ H d = some (.dK (kvI l)) ∧ DI l f ∧ WF n f ∧ 1 ≤ n ∧ n ≤ 300 ∧ l.length ≤ 1000 ∧
  ∀ (H' : Hp) (D : Addr), Off p H H' → H D = none → H' p = some (.ins C dx (flds n D)) → H' D = some (.dK (kvI (tab n f))) → Q .non H'
theorem ok_init (T : Txt K mg) : FnR P w K mg base CX0 4 T.f_Map__init (spInit T.C_Map) := by
  refine T.A_Map__init.ok sc_Map__init (fun vs H Q E h => ?_) (fun cdv A outer s H vs Q E hr h => ?_)
  · obtain ⟨p, dx, d, n, l, f, rfl, _⟩ := h
    rfl
  · obtain ⟨p, dx, d, n, l, f, rfl, hp, hd, di, wf, h1, h3, hl, q⟩ := h
    have hu := hu_of hr
    obtain ⟨tk, hms⟩ := T.v_MAX_SIZE
    refine ⟨_, pss_cons (ps_if (pt_not (pt_val (pe_callR (ok_in_range T) (hr.mono (by decide)) T.A_in_range.kp rfl T.g_in_range pass0 (pa_cons (pv 1) (pa_cons pe_int (pa_cons (pe_glob (v := .int 300) rfl hms ⟨_, rfl⟩) pa_nil)))))) (pss_one ps_never) pss_nil)
      (pss_cons (ps_if (pt_not (pt_val (pe_callR (ok_are_arrows T) hr T.A_are_arrows.kp rfl T.g_are_arrows pass0 (pa_cons (pv 1) (pa_cons (pv 2) pa_nil))))) (pss_one ps_never) pss_nil)
      (pss_cons (ps_fld (pv 0) (pv 1) rfl)
      (pss_one (ps_fld (pv 0) (pe_dc (own := [("source", 3)]) (g := gName 3) rfl sc_Map__init.nd (pi_range1 rfl T.n_range (pa_cons (pv 1) pa_nil)) (blkOk_by (own := [("source", 3)]) (N := n_Map__init) (sc := defScope s_Map__init) (by decide +kernel))
        (fun _ _ _ _ _ => pg_name (i := 3) sc_Map__init.nd rfl (Or.inl rfl)) (fun _ _ _ _ _ => pts_one (pt_cmp (pc_din hu (pv 3) (pv 2)))) (fun _ _ _ _ _ => pv 3) (fun _ _ _ _ _ => pe_dget hu (pv 2) (pv 3) (fun _ _ => rfl))) rfl)))), ?_⟩
    refine ⟨_, rfl, .int n, 1, 300, rfl, trivial, _, rfl, ?_⟩
    have e1 : inR (.int n) 1 300 = true := by simp [inR, h1, h3]
    rw [e1]
    refine iteF ⟨_, rfl, _, rfl, n, d, l, rfl, hd, hl, fun H1 s1 => ⟨_, rfl, ?_⟩⟩
    rw [okArr_of di wf]
    refine iteF ?_
    have hp1 := s1 _ _ hp
    have npd : p ≠ d := ne_of hp hd (by intro z; cases z)
    refine ⟨_, rfl, _, rfl, p, T.C_Map, dx, [], rfl, hp1, T.o_Map.cl, T.na_own_size_Map, (by show 0 < 1000; decide), ?_⟩
    have hd1 : (upd H1 p (.ins T.C_Map dx (putF "own_size" (.int n) []))) d = some (.dK (kvI l)) := by rw [upd_ne npd.symm]; exact s1 _ _ hd
    dsimp only [sFld]
    refine dc_range (n := n.toNat) (fun k => (lk l k).isSome) (fun k => ((lk l k).map V.int).getD .non) (fun R r => ⟨_, rfl, n, rfl, by omega, by omega, r⟩) (fun _ => rfl) ?_ (small1000 (by omega)) ?_
    · intro k hk H2 s2
      have hd2 := s2 _ _ hd1
      refine ⟨fun R r => ?_, fun hc => ⟨fun R r => ?_, fun R r => ?_⟩⟩
      · refine ⟨_, rfl, _, rfl, d, _, rfl, DGet.k (k := Sum.inl (0 + (k : Int))) hd2, _, rfl, ?_⟩
        rw [valV_kvI, Option.isSome_map, Int.zero_add]
        exact r
      · refine ⟨_, rfl, ?_⟩
        rw [Int.zero_add]
        exact r
      · cases hv : lk l (k : Int) with
        | none => rw [hv] at hc; cases hc
        | some y =>
          rw [hv] at r
          refine ⟨_, rfl, _, rfl, d, .int y, rfl, ?_, r⟩
          have := DGet.k (k := Sum.inl (0 + (k : Int))) hd2
          rw [valV_kvI, Int.zero_add, hv] at this
          rw [Int.zero_add]
          exact this
    · intro D H2 nD hD s2
      rw [madeR_tab di] at hD
      have hp2 := s2 _ _ (upd_same : (upd H1 p (.ins T.C_Map dx (putF "own_size" (.int n) []))) p = _)
      refine ⟨_, rfl, p, T.C_Map, dx, _, rfl, hp2, T.o_Map.cl, T.na_own_arrows_Map, (by show 1 < 1000; decide), ?_⟩
      have nDp : D ≠ p := fun e => by rw [e, upd_same] at nD; cases nD
      have nD1 : H1 D = none := by rw [upd_ne nDp] at nD; exact nD
      refine q _ D (fun b o hb e => ?_) (s1.free nD1) upd_same ?_
      · rw [upd_ne hb]
        refine s2 _ _ ?_
        rw [upd_ne hb]
        exact s1 _ _ e
      · rw [upd_ne nDp]
        exact hD
end
end My
namespace My
open PySem L2 U StX PM
/-! ### what a comprehension over pairs of ints makes -/
def madeI (c : Int → Int → Bool) (kf vi : Int → Int → Int) (l : List (Int × Int)) : List (Int × Int) := (l.filter fun p => c p.1 p.2).map fun p => (kf p.1 p.2, vi p.1 p.2)
theorem madeD_I (c : Int → Int → Bool) (kf vi : Int → Int → Int) (l : List (Int × Int)) : madeD c kf (fun x y => .int (vi x y)) l = kvI (madeI c kf vi l) := by
  unfold madeD madeI kvI
  rw [List.map_map]
  rfl
theorem kvI_keys (l : List (Int × Int)) : (kvI l).map (·.1) = (l.map (·.1)).map Sum.inl := by
  unfold kvI
  rw [List.map_map, List.map_map]
  rfl
theorem nd_inl {l : List Int} (h : l.Nodup) : (l.map (Sum.inl : Int → Key)).Nodup := by
  induction l with
  | nil => exact List.nodup_nil
  | cons a r ih =>
    rw [List.nodup_cons] at h
    rw [List.map_cons, List.nodup_cons]
    refine ⟨fun hm => ?_, ih h.2⟩
    obtain ⟨b, hb, e⟩ := List.mem_map.mp hm
    exact h.1 (Sum.inl.inj e ▸ hb)
theorem mem_madeI {c : Int → Int → Bool} {kf vi : Int → Int → Int} {l : List (Int × Int)} {a b : Int} : (a, b) ∈ madeI c kf vi l ↔ ∃ x y, (x, y) ∈ l ∧ c x y = true ∧ kf x y = a ∧ vi x y = b := by
  unfold madeI
  rw [List.mem_map]
  constructor
  · rintro ⟨⟨x, y⟩, h, e⟩
    have h1 := List.mem_filter.mp h
    cases e
    exact ⟨x, y, h1.1, h1.2, rfl, rfl⟩
  · rintro ⟨x, y, h1, h2, rfl, rfl⟩
    exact ⟨(x, y), List.mem_filter.mpr ⟨h1, h2⟩, rfl⟩
theorem madeI_len (c : Int → Int → Bool) (kf vi : Int → Int → Int) (l : List (Int × Int)) : (madeI c kf vi l).length ≤ l.length := by
  unfold madeI
  rw [List.length_map]
  exact List.length_filter_le _ _
/-- the sources kept -/
theorem nd_src {c : Int → Int → Bool} {vi : Int → Int → Int} {l : List (Int × Int)} (h : (l.map (·.1)).Nodup) : ((madeI c (fun x _ => x) vi l).map (·.1)).Nodup := by
  unfold madeI
  rw [List.map_map]
  exact List.Sublist.nodup ((List.filter_sublist (p := fun p : Int × Int => c p.1 p.2)).map (·.1)) h
/-- the targets for sources -/
theorem nd_tgt {c : Int → Int → Bool} {vi : Int → Int → Int} {l : List (Int × Int)} (h : (l.map (·.2)).Nodup) : ((madeI c (fun _ y => y) vi l).map (·.1)).Nodup := by
  unfold madeI
  rw [List.map_map]
  exact List.Sublist.nodup ((List.filter_sublist (p := fun p : Int × Int => c p.1 p.2)).map (·.2)) h
section
variable {P : Program} {w : World} {K : PySem.W.Frag} {mg : Str → Option Value} {base : Heap}
theorem mk_map {C : Addr} {H : Hp} {d : Addr} {n : Int} {l : List (Int × Int)} {f : PF} {Q : VK} {E : XK} (hd : H d = some (.dK (kvI l))) (di : DI l f) (wf : WF n f) (h1 : 1 ≤ n) (h3 : n ≤ 300) (hl : l.length ≤ 1000)
    (q : ∀ r H', H r = none → Same H H' → IsMap C H' r n f → Q (.ref r) H') (x dx : Addr) (hx : H x = none) (hdx : H dx = none) (ne : dx ≠ x) :
    spInit C [.ref x, .int n, .ref d] (upd (upd H dx (.own x)) x (.ins C dx [])) (fun v H2 => v = .non ∧ Q (.ref x) H2) E := by
  have s0 : Same H (upd (upd H dx (.own x)) x (.ins C dx [])) := fun b o e => by
    rw [upd_ne (ne_of_none e hx), upd_ne (ne_of_none e hdx)]
    exact e
  refine ⟨x, dx, d, n, l, f, rfl, upd_same, s0 _ _ hd, di, wf, h1, h3, hl, fun H' D o nD hp hD => ⟨rfl, ?_⟩⟩
  refine q x H' hx (fun b u e => o b u (ne_of_none e hx) (s0 b u e)) ⟨⟨dx, D, hp, hD⟩, wf, h1, h3⟩
/-! ### size, arrows, common_size -/
def spSize (C : Addr) : Sp := fun vs H Q _ => ∃ m n f, vs = [.ref m] ∧ IsMap C H m n f ∧ Q (.int n) H
theorem ok_size (T : Txt K mg) : FnR P w K mg base CX0 1 T.f_Map_size (spSize T.C_Map) := by
  refine T.A_Map_size.ok sc_Map_size (fun vs H Q E h => ?_) (fun cdv A outer s H vs Q E hr h => ?_)
  · obtain ⟨m, n, f, rfl, _⟩ := h
    rfl
  · obtain ⟨m, n, f, rfl, ⟨⟨dx, D, h1, h2⟩, _⟩, q⟩ := h
    refine ⟨_, pss_one (ps_ret (pe_fld (pv 0) rfl)), ?_⟩
    exact ⟨_, rfl, m, _, dx, _, _, rfl, h1, T.o_Map.cl, T.na_own_size_Map, flds_size _ _, q⟩
def spArrows (C : Addr) : Sp := fun vs H Q _ => ∃ m n f, vs = [.ref m] ∧ IsMap C H m n f ∧ ∀ p, H p = none → Q (.ref p) (upd H p (.dK (kvI (tab n f))))
theorem ok_arrows (T : Txt K mg) : FnR P w K mg base CX0 1 T.f_Map_arrows (spArrows T.C_Map) := by
  refine T.A_Map_arrows.ok sc_Map_arrows (fun vs H Q E h => ?_) (fun cdv A outer s H vs Q E hr h => ?_)
  · obtain ⟨m, n, f, rfl, _⟩ := h
    rfl
  · obtain ⟨m, n, f, rfl, ⟨⟨dx, D, h1, h2⟩, _⟩, q⟩ := h
    refine ⟨_, pss_one (ps_ret (pe_callTy call_dictD (by rfl) T.n_dict (by decide +kernel) (pa_cons (pe_fld (pv 0) rfl) pa_nil))), ?_⟩
    exact ⟨_, rfl, m, _, dx, _, _, rfl, h1, T.o_Map.cl, T.na_own_arrows_Map, flds_arrows _ _, D, _, rfl, Rd.of h2, q⟩
theorem at_map {C : Addr} {H : Hp} {m : Addr} {n : Int} {f : PF} (h : IsMap C H m n f) : ∃ dx fs, H m = some (.ins C dx fs) := by
  obtain ⟨⟨dx, D, h1, _⟩, _⟩ := h
  exact ⟨dx, _, h1⟩
def spCommon (C : Addr) : Sp := fun vs H Q _ => ∃ a b n f g, vs = [.ref a, .ref b] ∧ IsMap C H a n f ∧ IsMap C H b n g ∧ Q (.int n) H
theorem ok_common (T : Txt K mg) : FnR P w K mg base CX0 3 T.f_common_size (spCommon T.C_Map) := by
  refine T.A_common_size.ok sc_common_size (fun vs H Q E h => ?_) (fun cdv A outer s H vs Q E hr h => ?_)
  · obtain ⟨a, b, n, f, g, rfl, _⟩ := h
    rfl
  · obtain ⟨a, b, n, f, g, rfl, ha, hb, q⟩ := h
    refine ⟨_, pss_cons (ps_if (pt_cmpR op_ne (pe_propR (pv 0) T.o_Map.cl T.P_Map_size (ok_size T) hr) (pe_propR (pv 1) T.o_Map.cl T.P_Map_size (ok_size T) hr) (nomark _)) (pss_one ps_never) pss_nil)
      (pss_one (ps_ret (pe_propR (pv 0) T.o_Map.cl T.P_Map_size (ok_size T) hr))), ?_⟩
    obtain ⟨dx, fs, h1⟩ := at_map ha
    obtain ⟨dy, gs, h2⟩ := at_map hb
    refine ⟨_, rfl, a, dx, fs, rfl, h1, a, n, f, rfl, ha, _, rfl, b, dy, gs, rfl, h2, b, n, g, rfl, hb, rfl, _, rfl, ?_⟩
    refine iteNS rfl ?_
    exact ⟨_, rfl, a, dx, fs, rfl, h1, a, n, f, rfl, ha, q⟩
/-! ### the operators -/
def spOp (C : Addr) (op : PF → PF → PF) : Sp := fun vs H Q _ => ∃ a b n f g, vs = [.ref a, .ref b] ∧ IsMap C H a n f ∧ IsMap C H b n g ∧ ∀ r H', H r = none → Same H H' → IsMap C H' r n (op f g) → Q (.ref r) H'
theorem mul_di {n : Int} {f g : PF} (wf : WF n f) (wg : WF n g) : DI (madeI (fun _ y => (g y).isSome) (fun x _ => x) (fun _ y => (g y).getD 0) (tab n f)) (mul f g) := by
  refine di_of (nd_src (keys_tab n f)) fun a b => ?_
  rw [mem_madeI]
  constructor
  · rintro ⟨x, y, h1, h2, rfl, rfl⟩
    have e := (mem_tab wf).mp h1
    unfold mul
    rw [e]
    cases hg : g y with
    | none => rw [hg] at h2; cases h2
    | some z => show g y = _; rw [hg]; rfl
  · intro h
    unfold mul at h
    cases e : f a with
    | none => rw [e] at h; cases h
    | some y =>
      rw [e] at h
      have h' : g y = some b := h
      exact ⟨a, y, (mem_tab wf).mpr e, by rw [h']; rfl, rfl, by rw [h']; rfl⟩
theorem ok_mul (T : Txt K mg) : FnR P w K mg base CX0 6 T.f_Map__mul (spOp T.C_Map mul) := by
  refine T.A_Map__mul.ok sc_Map__mul (fun vs H Q E h => ?_) (fun cdv A outer s H vs Q E hr h => ?_)
  · obtain ⟨a, b, n, f, g, rfl, _⟩ := h
    rfl
  · obtain ⟨a, b, n, f, g, rfl, ha, hb, q⟩ := h
    have hu := hu_of hr
    refine ⟨_, pss_cons (ps_if (pt_not (pt_val (pe_callB call_isi (by rfl) T.n_isinstance (by decide +kernel) (pa_cons (pv 1) (pa_cons (pe_glob (v := .ref T.C_Map) rfl T.g_Map rfl) pa_nil))))) (pss_one ps_never) pss_nil)
      (pss_cons (ps_set (i := 2) sc_Map__mul.nd rfl (Or.inl rfl) (pe_callR (ok_common T) (hr.mono (by decide)) T.A_common_size.kp rfl T.g_common_size pass0 (pa_cons (pv 0) (pa_cons (pv 1) pa_nil))))
      (pss_cons (ps_set (i := 3) sc_Map__mul.nd rfl (Or.inr rfl) (pe_propR (pv 1) T.o_Map.cl T.P_Map_arrows (ok_arrows T) (hr.mono (by decide))))
      (pss_one (ps_ret (pe_makeR T.M_Map (ok_init T) hr rfl T.g_Map pass0 (pa_cons (pv 2) (pa_cons (pe_lock (pe_dc (own := [("source", 4), ("target", 5)]) (g := gTup K 2 (gCons (gName 4) (gCons (gName 5) gNil))) rfl sc_Map__mul.nd (pi_items (pe_fld (pv 0) rfl))
        (blkOk_by (own := [("source", 4), ("target", 5)]) (N := n_Map__mul) (sc := defScope s_Map__mul) (by decide +kernel))
        (fun _ _ _ _ _ => pg_tup rfl (pgs_cons (pg_name (i := 4) sc_Map__mul.nd rfl (Or.inl rfl)) (pgs_cons (pg_name (i := 5) sc_Map__mul.nd rfl (Or.inl rfl)) pgs_nil)))
        (fun _ _ _ _ _ => pts_one (pt_cmp (pc_din hu (pv 5) (pv 3)))) (fun _ _ _ _ _ => pv 4) (fun _ _ _ _ _ => pe_dget hu (pv 3) (pv 5) (fun _ _ => rfl)))) pa_nil))))))), ?_⟩
    obtain ⟨dx, D, h1, h2⟩ := id ha.ob
    obtain ⟨dy, gs, h3⟩ := at_map hb
    refine ⟨_, rfl, _, _, _, _, true, rfl, .own _, tyx_ins T.o_Map h3, T.self_Map, _, rfl, iteF ?_⟩
    refine ⟨_, rfl, _, rfl, a, b, n, f, g, rfl, ha, hb, ?_⟩
    refine ⟨_, rfl, b, dy, gs, rfl, h3, b, n, g, rfl, hb, fun p hp => ?_⟩
    refine ⟨_, rfl, ?_⟩
    have s1 : Same H (upd H p (.dK (kvI (tab n g)))) := Same.new hp
    have npD : D ≠ p := ne_of_none h2 hp
    refine dc_items (fun _ y => (g y).isSome) (fun x _ => x) (fun _ y => .int ((g y).getD 0)) (s1 _ _ h2) (fun H' R r o => ?_) (fun _ _ => rfl) ?_ ?_ ?_ ?_
    · refine ⟨_, rfl, a, _, dx, _, _, rfl, o _ _ (ne_of h1 h2 (by intro z; cases z)) (s1 _ _ h1), T.o_Map.cl, T.na_own_arrows_Map, flds_arrows _ _, r⟩
    · intro x y hxy H1 o
      have hl1 : H1 p = some (.dK (kvI (tab n g))) := o _ _ npD.symm upd_same
      refine ⟨fun R r => ?_, fun hc => ⟨fun R r => ⟨_, rfl, r⟩, fun R r => ?_⟩⟩
      · refine ⟨_, rfl, _, rfl, p, _, rfl, DGet.k (k := Sum.inl y) hl1, _, rfl, ?_⟩
        rw [valV_kvI, Option.isSome_map, lk_tab hb.wf]
        exact r
      · cases hv : g y with
        | none => rw [hv] at hc; cases hc
        | some z =>
          rw [hv] at r
          refine ⟨_, rfl, _, rfl, p, .int z, rfl, ?_, r⟩
          have := DGet.k (k := Sum.inl y) hl1
          rw [valV_kvI, lk_tab hb.wf, hv] at this
          exact this
    · rw [madeD_I, kvI_keys]
      exact nd_inl (nd_src (keys_tab n f))
    · have h9 := ha.hi
      exact small1000 (Nat.le_trans (tab_len n f) (by omega))
    · intro D2 H2 nD2 hD2 s2
      rw [madeD_I] at hD2
      have h9 := ha.hi
      refine mk_map hD2 (mul_di ha.wf hb.wf) (wf_mul ha.wf hb.wf) ha.lo ha.hi (Nat.le_trans (madeI_len ..) (Nat.le_trans (tab_len n f) (by omega))) fun r H3 nr s3 hm => ?_
      exact q r H3 ((s1.trans s2).free nr) ((s1.trans s2).trans s3) hm
end
end My
namespace My
open PySem L2 U StX PM
section
variable {P : Program} {w : World} {K : PySem.W.Frag} {mg : Str → Option Value} {base : Heap}
/-! ### ~f -/
theorem inv_di {n : Int} {f : PF} (wf : WF n f) : DI (madeI (fun _ _ => true) (fun _ y => y) (fun x _ => x) (tab n f)) (inv n f) := by
  refine di_of (nd_tgt (vals_tab wf)) fun a b => ?_
  rw [mem_madeI, inv_iff wf]
  constructor
  · rintro ⟨x, y, h1, _, rfl, rfl⟩
    exact (mem_tab wf).mp h1
  · intro h
    exact ⟨b, a, (mem_tab wf).mpr h, rfl, rfl, rfl⟩
def spInv (C : Addr) : Sp := fun vs H Q _ => ∃ a n f, vs = [.ref a] ∧ IsMap C H a n f ∧ ∀ r H', H r = none → Same H H' → IsMap C H' r n (inv n f) → Q (.ref r) H'
theorem ok_invert (T : Txt K mg) : FnR P w K mg base CX0 6 T.f_Map__invert (spInv T.C_Map) := by
  refine T.A_Map__invert.ok sc_Map__invert (fun vs H Q E h => ?_) (fun cdv A outer s H vs Q E hr h => ?_)
  · obtain ⟨a, n, f, rfl, _⟩ := h
    rfl
  · obtain ⟨a, n, f, rfl, ha, q⟩ := h
    refine ⟨_, pss_one (ps_ret (pe_makeR T.M_Map (ok_init T) hr rfl T.g_Map pass0 (pa_cons (pe_fld (pv 0) rfl) (pa_cons (pe_lock (pe_dc (own := [("source", 1), ("target", 2)]) (g := gTup K 2 (gCons (gName 1) (gCons (gName 2) gNil))) (tt := tYes) rfl sc_Map__invert.nd (pi_items (pe_fld (pv 0) rfl))
        (blkOk_by (own := [("source", 1), ("target", 2)]) (N := n_Map__invert) (sc := defScope s_Map__invert) (by decide +kernel))
        (fun _ _ _ _ _ => pg_tup rfl (pgs_cons (pg_name (i := 1) sc_Map__invert.nd rfl (Or.inl rfl)) (pgs_cons (pg_name (i := 2) sc_Map__invert.nd rfl (Or.inl rfl)) pgs_nil)))
        (fun _ _ _ _ _ => pts_nil) (fun _ _ _ _ _ => pv 2) (fun _ _ _ _ _ => pv 1))) pa_nil)))), ?_⟩
    obtain ⟨dx, D, h1, h2⟩ := id ha.ob
    have h9 := ha.hi
    refine ⟨_, rfl, a, _, dx, _, _, rfl, h1, T.o_Map.cl, T.na_own_size_Map, flds_size _ _, ?_⟩
    refine dc_items (fun _ _ => true) (fun _ y => y) (fun x _ => .int x) h2 (fun H' R r o => ?_) (fun _ _ => rfl) ?_ ?_ ?_ ?_
    · refine ⟨_, rfl, a, _, dx, _, _, rfl, o _ _ (ne_of h1 h2 (by intro z; cases z)) h1, T.o_Map.cl, T.na_own_arrows_Map, flds_arrows _ _, r⟩
    · intro x y hxy H1 o
      exact ⟨fun R r => r, fun _ => ⟨fun R r => ⟨_, rfl, r⟩, fun R r => ⟨_, rfl, r⟩⟩⟩
    · rw [madeD_I, kvI_keys]
      exact nd_inl (nd_tgt (vals_tab ha.wf))
    · exact small1000 (Nat.le_trans (tab_len n f) (by omega))
    · intro D2 H2 nD2 hD2 s2
      rw [madeD_I] at hD2
      refine mk_map hD2 (inv_di ha.wf) (wf_inv ha.wf) ha.lo ha.hi (Nat.le_trans (madeI_len ..) (Nat.le_trans (tab_len n f) (by omega))) fun r H3 nr s3 hm => ?_
      exact q r H3 (s2.free nr) (s2.trans s3) hm
/-! ### f & g, f - g -/
theorem isD_of {H : Hp} {a : Addr} {kvs : List (Key × V)} (h : H a = some (.dK kvs)) : IsD H a := by
  first | exact .inl ⟨_, .inl h⟩ | exact ⟨_, .inl h⟩ | exact .inl ⟨_, h⟩ | exact .inr (.inl ⟨_, h⟩)
end
end My
namespace My
open PySem L2 U StX PM
section
variable {P : Program} {w : World} {K : PySem.W.Frag} {mg : Str → Option Value} {base : Heap}
/-! ### is_part, <=, <, >= -/
/-! ### == -/
theorem nd_of_map {α β : Type} (h : α → β) : ∀ {l : List α}, (l.map h).Nodup → l.Nodup
  | [], _ => List.nodup_nil
  | a :: r, nd => by
    rw [List.map_cons, List.nodup_cons] at nd
    exact List.nodup_cons.mpr ⟨fun hm => nd.1 (List.mem_map.mpr ⟨a, hm, rfl⟩), nd_of_map h nd.2⟩
def eqB (n : Int) (f : PF) (n' : Int) (g : PF) : Bool := decide (n = n') && dEq (kvI (tab n f)) (kvI (tab n' g))
theorem eqB_self {n : Int} {f : PF} (w : WF n f) : eqB n f n f = true := by
  unfold eqB dEq
  rw [decide_eq_true rfl]
  simp only [Bool.true_and, beq_self_eq_true, List.all_eq_true, decide_eq_true_eq]
  intro p hp
  unfold kvI at hp
  obtain ⟨⟨x, y⟩, hq, rfl⟩ := List.mem_map.mp hp
  show valV (kvI (tab n f)) (Sum.inl x) = some (V.int y)
  rw [valV_kvI, lk_tab w, (mem_tab w).mp hq]
  rfl
def spEqM (C : Addr) : Sp := fun vs H Q _ => ∃ a b n f n' g, vs = [.ref a, .ref b] ∧ IsMap C H a n f ∧ IsMap C H b n' g ∧ Q (.bl (eqB n f n' g)) H
theorem ok_eq (T : Txt K mg) : FnR P w K mg base CX0 6 T.f_Map__eq (spEqM T.C_Map) := by
  refine T.A_Map__eq.ok sc_Map__eq (fun vs H Q E h => ?_) (fun cdv A outer s H vs Q E hr h => ?_)
  · obtain ⟨a, b, n, f, n', g, rfl, _⟩ := h
    rfl
  · obtain ⟨a, b, n, f, n', g, rfl, ha, hb, q⟩ := h
    have hu := hu_of hr
    obtain ⟨dx, D, h1, h2⟩ := id ha.ob
    obtain ⟨dy, D', h3, h4⟩ := id hb.ob
    refine ⟨_, pss_cons (ps_if (pt_not (pt_val (pe_callB call_isi (by rfl) T.n_isinstance (by decide +kernel) (pa_cons (pv 1) (pa_cons (pe_glob (v := .ref T.C_Map) rfl T.g_Map rfl) pa_nil))))) (pss_one (ps_ret pe_bl)) pss_nil)
      (pss_one (ps_ret (pe_and (pe_cmpR op_eq (pe_fld (pv 0) rfl) (pe_fld (pv 1) rfl) (nomark _)) (pe_one (pe_cmpR (op_eqDI (Nat.lt_of_succ_lt hu)) (pe_fld (pv 0) rfl) (pe_fld (pv 1) rfl) (nomark _)))))), ?_⟩
    refine ⟨_, rfl, _, _, _, _, true, rfl, .own _, tyx_ins T.o_Map h3, T.self_Map, _, rfl, iteF ?_⟩
    refine ⟨_, rfl, a, _, dx, _, _, rfl, h1, T.o_Map.cl, T.na_own_size_Map, flds_size _ _, _, rfl, b, _, dy, _, _, rfl, h3, T.o_Map.cl, T.na_own_size_Map, flds_size _ _, rfl, _, rfl, ?_⟩
    have e0 : decide (V.int n = V.int n') = decide (n = n') := by
      by_cases h : n = n'
      · subst h; simp
      · have : ¬ V.int n = V.int n' := fun z => h (V.int.inj z)
        simp [h]
    rw [e0]
    refine ifD (fun hn => ?_) (fun hn => ?_)
    · refine ⟨_, rfl, a, _, dx, _, _, rfl, h1, T.o_Map.cl, T.na_own_arrows_Map, flds_arrows _ _, _, rfl, b, _, dy, _, _, rfl, h3, T.o_Map.cl, T.na_own_arrows_Map, flds_arrows _ _, D, D', _, _, rfl, rfl, h2, h4, intVals_kvI _, intVals_kvI _, ?_⟩
      have := q
      unfold eqB at this
      rw [decide_eq_true hn, Bool.true_and] at this
      exact this
    · have := q
      unfold eqB at this
      rw [decide_eq_false hn, Bool.false_and] at this
      exact this
end
end My
namespace My
open PySem L2 U StX PM
section
variable {P : Program} {w : World} {K : PySem.W.Frag} {mg : Str → Option Value} {base : Heap}
def spChk : Sp := fun vs H Q _ => ∃ n : Int, vs = [.int n] ∧ 1 ≤ n ∧ n ≤ 300 ∧ Q .non H
theorem ok_check_size (T : Txt K mg) : FnR P w K mg base CX0 3 T.f_check_size spChk := by
  refine T.A_check_size.ok sc_check_size (fun vs H Q E h => ?_) (fun cdv A outer s H vs Q E hr h => ?_)
  · obtain ⟨n, rfl, _⟩ := h
    rfl
  · obtain ⟨n, rfl, h1, h3, q⟩ := h
    obtain ⟨tk, hms⟩ := T.v_MAX_SIZE
    refine ⟨_, pss_one (ps_if (pt_not (pt_val (pe_callR (ok_in_range T) hr T.A_in_range.kp rfl T.g_in_range pass0 (pa_cons (pv 0) (pa_cons pe_int (pa_cons (pe_glob (v := .int 300) rfl hms ⟨_, rfl⟩) pa_nil)))))) (pss_one ps_never) pss_nil), ?_⟩
    refine ⟨_, rfl, .int n, 1, 300, rfl, trivial, _, rfl, ?_⟩
    have e1 : inR (.int n) 1 300 = true := by simp [inR, h1, h3]
    rw [e1]
    exact iteF q
theorem di_id (N : Nat) : DI ((List.range N).map fun (i : Nat) => ((i : Int), (i : Int))) (idn (N : Int)) := by
  refine di_of ?_ fun a b => ?_
  · rw [List.map_map]
    have : ∀ n : Nat, ((List.range n).map ((fun p : Int × Int => p.1) ∘ fun (i : Nat) => ((i : Int), (i : Int)))).Nodup := by
      intro n
      induction n with
      | zero => exact List.nodup_nil
      | succ n ih =>
        rw [List.range_succ, List.map_append, List.nodup_append]
        refine ⟨ih, by simp, fun a ha b hb e => ?_⟩
        obtain ⟨i, hi, rfl⟩ := List.mem_map.mp ha
        rw [List.mem_range] at hi
        simp at hb
        have e' : (i : Int) = b := e
        omega
    exact this N
  · rw [List.mem_map]
    unfold idn
    constructor
    · rintro ⟨i, hi, e⟩
      rw [List.mem_range] at hi
      cases e
      rw [if_pos ⟨by omega, by omega⟩]
    · intro h
      split at h
      · rename_i hc
        cases h
        exact ⟨a.toNat, List.mem_range.mpr (by omega), by rw [Int.toNat_of_nonneg hc.1]⟩
      · cases h
theorem madeR_id (N : Nat) : madeR (fun _ => true) (fun x => x) (fun k => .int k) N = kvI ((List.range N).map fun (i : Nat) => ((i : Int), (i : Int))) := by
  unfold madeR kvI
  rw [List.map_map]
  congr 1
  exact List.filter_eq_self.mpr fun _ _ => rfl
def spNew (C : Addr) (op : Int → PF) : Sp := fun vs H Q _ => ∃ n : Int, vs = [.ref C, .int n] ∧ 1 ≤ n ∧ n ≤ 300 ∧ ∀ r H', H r = none → Same H H' → IsMap C H' r n (op n) → Q (.ref r) H'
theorem ok_identity (T : Txt K mg) : FnR P w K mg base CX0 6 T.f_Map_identity (spNew T.C_Map idn) := by
  refine T.A_Map_identity.ok sc_Map_identity (fun vs H Q E h => ?_) (fun cdv A outer s H vs Q E hr h => ?_)
  · obtain ⟨n, rfl, _⟩ := h
    rfl
  · obtain ⟨n, rfl, h1, h3, q⟩ := h
    refine ⟨_, pss_cons (ps_expr (pe_callR (ok_check_size T) (hr.mono (by decide)) T.A_check_size.kp rfl T.g_check_size pass0 (pa_cons (pv 1) pa_nil)))
      (pss_one (ps_ret (pe_makeL (i := 0) T.M_Map (ok_init T) hr rfl (Or.inl rfl) pass0 (pa_cons (pv 1) (pa_cons (pe_dc (own := [("element", 2)]) (g := gName 2) (tt := tYes) rfl sc_Map_identity.nd (pi_range1 rfl T.n_range (pa_cons (pv 1) pa_nil)) (blkOk_by (own := [("element", 2)]) (N := n_Map_identity) (sc := defScope s_Map_identity) (by decide +kernel))
        (fun _ _ _ _ _ => pg_name (i := 2) sc_Map_identity.nd rfl (Or.inl rfl)) (fun _ _ _ _ _ => pts_nil) (fun _ _ _ _ _ => pv 2) (fun _ _ _ _ _ => pv 2)) pa_nil))))), ?_⟩
    refine ⟨_, rfl, n, rfl, h1, h3, rfl, _, rfl, ?_⟩
    refine dc_range (n := n.toNat) (fun _ => true) (fun k => .int k) (fun R r => ⟨_, rfl, n, rfl, by omega, by omega, r⟩) (fun _ => rfl) ?_ (small1000 (by omega)) ?_
    · intro k hk H1 s1
      refine ⟨fun R r => r, fun _ => ⟨fun R r => ⟨_, rfl, ?_⟩, fun R r => ⟨_, rfl, ?_⟩⟩⟩
      · rw [Int.zero_add]; exact r
      · rw [Int.zero_add]; exact r
    · intro D H1 nD hD s1
      rw [madeR_id] at hD
      have e : ((n.toNat : Nat) : Int) = n := Int.toNat_of_nonneg (by omega)
      have di := di_id n.toNat
      rw [e] at di
      refine mk_map hD di (wf_idn n) h1 h3 (by simp; omega) fun r H3 nr s3 hm => ?_
      exact q r H3 (s1.free nr) (s1.trans s3) hm
/-! ### first_clash where there is none, | -/
theorem merge_lk : ∀ (r l : List (Int × Int)), (r.map (·.1)).Nodup → ∃ l', mergeK (kvI l) (kvI r) = kvI l' ∧ l'.length ≤ l.length + r.length ∧ ((l.map (·.1)).Nodup → (l'.map (·.1)).Nodup) ∧ ∀ z, lk l' z = (lk r z).or (lk l z)
  | [], l, _ => ⟨l, rfl, by simp, fun h => h, fun z => rfl⟩
  | (x, y) :: r, l, nd => by
    rw [List.map_cons, List.nodup_cons] at nd
    obtain ⟨l1, e1, n1, d1, k1⟩ := putK_lk (l := l) (x := x) (y := y)
    obtain ⟨l2, e2, n2, d2, k2⟩ := merge_lk r l1 nd.2
    refine ⟨l2, ?_, by simp; omega, fun h => d2 (d1 h), fun z => ?_⟩
    · show mergeK (putK (kvI l) (Sum.inl x) (V.int y)) (kvI r) = _
      rw [e1, e2]
    · rw [k2, k1, lk_cons]
      by_cases h : z = x
      · subst h
        rw [if_pos rfl, if_pos rfl, lk_none nd.1]
        rfl
      · have h' : ¬ x = z := fun q => h q.symm
        rw [if_neg h, if_neg h']
end
end My
namespace My
open PySem L2 U StX PM
section
variable {P : Program} {w : World} {K : PySem.W.Frag} {mg : Str → Option Value} {base : Heap}
theorem dgetI {H : Hp} {d : Addr} {l : List (Int × Int)} {f : PF} (h : H d = some (.dK (kvI l))) (di : DI l f) (x : Int) : DGet H d (.int x) ((f x).map V.int) := by
  have := DGet.k (k := Sum.inl x) h
  rw [valV_kvI, di.2] at this
  exact this
theorem lastI (pre : List Int) (z : Int) : atI ((pre ++ [z]).map V.int) (-1) = some (V.int z) := by
  rw [List.map_append]
  exact atI_last _ _
def spRow : Sp := fun vs H Q _ => ∃ d l n f e, vs = [.ref d, .int e] ∧ H d = some (.dK (kvI l)) ∧ DI l f ∧ WF n f ∧ n ≤ 300 ∧ 0 ≤ e ∧ e < n ∧
  ∀ r H' pre z, H r = none → Same H H' → H' r = some (.lst ((pre ++ [z]).map V.int)) → Row f e (pre ++ [z]) → (f z = none ∨ f z = some e) → Q (.ref r) H'
theorem ok_row_from (T : Txt K mg) : FnR P w K mg base CX0 1 T.f_row_from spRow := by
  refine T.A_row_from.ok sc_row_from (fun vs H Q E h => ?_) (fun cdv A outer s H vs Q E hr h => ?_)
  · obtain ⟨d, l, n, f, e, rfl, _⟩ := h
    rfl
  · obtain ⟨d, l, n, f, e, rfl, hd, di, wf, hn, e0, e1, q⟩ := h
    have hu := hu_of hr
    refine ⟨_, pss_cons (ps_set (i := 2) sc_row_from.nd rfl (Or.inl rfl) (pe_lst (pa_cons (pv 1) pa_nil)))
      (pss_cons (ps_while PassesOwn.never (PW.pt (pw_and (pt_cmp (pc_din hu (pe_ix ix_list (pv 2) (pe_un un_neg pe_int) (fun _ _ => rfl)) (pv 0)))
          (pw_and1 (pt_cmpR op_ne (pe_dget hu (pv 0) (pe_ix ix_list (pv 2) (pe_un un_neg pe_int) (fun _ _ => rfl)) (fun _ _ => rfl)) (pv 1) (nomark _)))))
        (pss_one (ps_expr (pe_bm PySem.F.plainAttrs_list PySem.F.slot_list_append PySem.F.type_list_append mt_append (pv 2) (pa_cons (pe_dget hu (pv 0) (pe_ix ix_list (pv 2) (pe_un un_neg pe_int) (fun _ _ => rfl)) (fun _ _ => rfl)) pa_nil)))))
      (pss_one (ps_ret (pv 2)))), ?_⟩
    refine ⟨_, rfl, (by show 1 ≤ sizeLine; decide), fun r hr0 => ?_⟩
    have row0 : Row f e ([] ++ [e]) := ⟨rfl, fun i a b h1 h2 => by simp at h2⟩
    refine ⟨fun m σ H' => ∃ pre z, σ = [some (.ref d), some (.int e), some (.ref r)] ∧ H' r = some (.lst ((pre ++ [z]).map V.int)) ∧ Same H H' ∧ Row f e (pre ++ [z]) ∧ m = 300 - pre.length, ⟨300, [], e, rfl, upd_same, Same.new hr0, row0, rfl⟩, ?_⟩
    rintro m σ H' ⟨pre, z, rfl, p1, p2, p3, rfl⟩
    have hd' := p2 _ _ hd
    have hlen := len_range (p3.nd wf) (p3.dom wf e0 e1)
    rw [List.length_append, List.length_singleton] at hlen
    refine ⟨_, rfl, 1, rfl, r, _, -1, .int z, rfl, rfl, SqL.of p1, lastI _ _, _, rfl, d, _, rfl, dgetI hd' di z, _, rfl, ?_⟩
    cases hz : f z with
    | none =>
      refine iteF ?_
      refine iteF ?_
      exact ⟨_, rfl, q r H' pre z hr0 p2 p1 p3 (.inl hz)⟩
    | some y =>
      refine iteT ?_
      refine ⟨_, rfl, _, rfl, 1, rfl, r, _, -1, .int z, rfl, rfl, SqL.of p1, lastI _ _, d, .int y, rfl, ?_, _, rfl, rfl, _, rfl, ?_⟩
      · have := dgetI hd' di z
        rw [hz] at this
        exact this
      have nr : d ≠ r := ne_of_none hd hr0
      refine ifN (fun hne => ?_) (fun heq => ?_)
      · have hne' : y ≠ e := fun z => hne (congrArg V.int z)
        have row' := p3.more hz hne'
        have hlen' := len_range (row'.nd wf) (row'.dom wf e0 e1)
        rw [List.length_append, List.length_append, List.length_singleton, List.length_singleton] at hlen'
        refine ⟨fun σ' H2 => ∃ m', m' < 300 - pre.length ∧ _, fun _ _ h => h, ?_⟩
        refine ⟨_, rfl, .inl ⟨rfl, _, SqL.of p1⟩, _, rfl, _, rfl, 1, rfl, r, _, -1, .int z, rfl, rfl, SqL.of p1, lastI _ _, d, .int y, rfl, ?_, r, _, .int y, rfl, rfl, p1, ?_, ?_⟩
        · have := dgetI hd' di z
          rw [hz] at this
          exact this
        · rw [List.length_map, List.length_append, List.length_singleton]
          exact small1000 (by omega)
        · refine ⟨300 - (pre ++ [z]).length, by rw [List.length_append, List.length_singleton]; omega, pre ++ [z], y, rfl, ?_, ?_, row', rfl⟩
          · rw [upd_same, List.map_append (l₁ := pre ++ [z])]
            rfl
          · intro b o h
            rw [upd_ne (ne_of_none h hr0)]
            exact p2 b o h
      · have : y = e := V.int.inj heq
        subst this
        exact ⟨_, rfl, q r H' pre z hr0 p2 p1 p3 (.inr hz)⟩
end
end My
namespace My
open PySem L2 U StX PM
/-! ### comprehensions over values and keys -/
theorem tgt_len (l : List (Int × Int)) (i : Nat) : (tgt (l.take i)).length ≤ l.length := by
  unfold tgt; rw [List.length_map, List.length_take]; omega
theorem dc_vals {d : Addr} {l : List (Int × Int)} {te : TE} {i : Nat} {tt : TT} {tk tv : TE} {vs : List Nat} {σ : L2.St} {H : Hp} {Q : VK}
    (hd : H d = some (.dK (kvI l))) (hte : ∀ H' (R : VK), R (.ref d) H' → Off d H H' → te σ H' R)
    (hw : ∀ a, wipe ((wipe σ vs).set i a) vs = wipe σ vs)
    (ht : ∀ (y : Int) (H1 : Hp) (R : Bool → Hp → Prop), R true H1 → tt ((wipe σ vs).set i (some (.int y))) H1 R) (hk : ∀ (y : Int) (H1 : Hp) (R : VK), R (.int y) H1 → tk ((wipe σ vs).set i (some (.int y))) H1 R) (hv : ∀ (y : Int) (H1 : Hp) (R : VK), R (.bl true) H1 → tv ((wipe σ vs).set i (some (.int y))) H1 R)
    (nd : (l.map (·.2)).Nodup) (hz : l.length < sizeLine)
    (hq : ∀ D H', H D = none → H' D = some (.dK (tgt l)) → L2.Same H H' → Q (.ref D) H') :
    tLockE (tDc (iVals te) (gName i) tt tk tv vs) σ H Q := by
  refine ⟨d, _, hd, trivial, fun od => ?_⟩
  refine hte _ _ ⟨d, od, kvI l, rfl, upd_same, fun D hD => ?_⟩ Off.lock
  have hDd : D ≠ d := fun e => by rw [e, upd_same] at hD; cases hD
  have hD0 : H D = none := by rw [upd_ne hDd] at hD; exact hD
  refine dc_it walk_values (fun k H' => H' d = some (.frz od (.dK (kvI l))) ∧ Off d H H' ∧ H' D = some (.dK (tgt (l.take k)))) ⟨?_, Off.lock.mut hD0, upd_same⟩ (fun k H' _ p => p.1) ?_ ?_
  · rw [upd_ne hDd.symm]; exact upd_same
  · rintro k v H' H'' hk1 ⟨p1, p2, p3⟩ ⟨rfl, kk, e1⟩
    obtain ⟨x, y, exy, rfl, rfl⟩ := kvI_get e1
    refine ⟨hw _, ?_⟩
    refine ht y _ _ ?_
    refine iteT ?_
    refine hk _ _ _ (hv _ _ _ ⟨_, Sum.inl y, rfl, p3, Nat.lt_of_le_of_lt (tgt_len ..) hz, ?_⟩)
    refine ⟨?_, p2.mut hD0, ?_⟩
    · rw [upd_ne hDd.symm]; exact p1
    · have nin : y ∉ (l.take k).map (·.2) := by
        intro hm
        have e2 : l.map (·.2) = (l.take k).map (·.2) ++ (l.drop k).map (·.2) := by rw [← List.map_append, List.take_append_drop]
        rw [e2, List.nodup_append] at nd
        refine nd.2.2 _ hm y (List.mem_map.mpr ⟨(x, y), ?_, rfl⟩) rfl
        refine List.mem_iff_getElem?.mpr ⟨0, ?_⟩
        rw [List.getElem?_drop]
        exact exy
      rw [upd_same, putK_new _ (valV_none fun z => nin (tgt_key.mp z)), take_more exy]
      unfold tgt
      rw [List.map_append]
      rfl
  · rintro H' ⟨p1, p2, p3⟩
    rw [kvI_length, List.take_length] at p3
    refine ⟨p1, hq D _ hD0 ?_ (p2.back hd)⟩
    rw [upd_ne hDd]
    exact p3
theorem lc_keys {d : Addr} {l : List (Int × Int)} {te : TE} {i : Nat} {tt : TT} {tv : TE} {vs : List Nat} {σ : L2.St} {H : Hp} {Q : VK} (c : Int → Bool) (vf : Int → V)
    (hd : H d = some (.dK (kvI l))) (hte : ∀ H' (R : VK), R (.ref d) H' → Off d H H' → te σ H' R)
    (hw : ∀ a, wipe ((wipe σ vs).set i a) vs = wipe σ vs)
    (hb : ∀ (x : Int) (H1 : Hp), Off d H H1 → (∀ R : Bool → Hp → Prop, R (c x) H1 → tt ((wipe σ vs).set i (some (.int x))) H1 R) ∧ (∀ R : VK, R (vf x) H1 → tv ((wipe σ vs).set i (some (.int x))) H1 R))
    (hz : l.length < sizeLine)
    (hq : ∀ D H', H D = none → H' D = some (.lst (madeL (fun x _ => c x) (fun x _ => vf x) l)) → L2.Same H H' → Q (.ref D) H') :
    tLockE (tLc (iKeys te) (gName i) tt tv vs) σ H Q := by
  refine ⟨d, _, hd, trivial, fun od => ?_⟩
  refine hte _ _ ⟨d, od, rfl, .inl ⟨kvI l, upd_same, fun D hD => ?_⟩⟩ Off.lock
  have hDd : D ≠ d := fun e => by rw [e, upd_same] at hD; cases hD
  have hD0 : H D = none := by rw [upd_ne hDd] at hD; exact hD
  refine lc_it walk_keys (fun k H' => H' d = some (.frz od (.dK (kvI l))) ∧ Off d H H' ∧ H' D = some (.lst (madeL (fun x _ => c x) (fun x _ => vf x) (l.take k)))) ⟨?_, Off.lock.mut hD0, upd_same⟩ (fun k H' _ p => p.1) ?_ ?_
  · rw [upd_ne hDd.symm]; exact upd_same
  · rintro k v H' H'' hk1 ⟨p1, p2, p3⟩ ⟨rfl, kk, vv, e1, rfl⟩
    obtain ⟨x, y, exy, rfl, rfl⟩ := kvI_get e1
    refine ⟨hw _, ?_⟩
    obtain ⟨b1, b2⟩ := hb x _ p2
    refine b1 _ ?_
    have st := madeL_step (c := fun x _ => c x) (vf := fun x _ => vf x) exy
    cases hc : c x with
    | true =>
      rw [hc, if_pos rfl] at st
      refine iteT (b2 _ ⟨_, p3, Nat.lt_of_le_of_lt (madeL_len ..) hz, ?_⟩)
      refine ⟨?_, p2.mut hD0, ?_⟩
      · rw [upd_ne hDd.symm]; exact p1
      · rw [upd_same, st]
    | false =>
      rw [hc, if_neg Bool.false_ne_true, List.append_nil] at st
      refine iteF ⟨p1, p2, ?_⟩
      rw [st]
      exact p3
  · rintro H' ⟨p1, p2, p3⟩
    rw [kvI_length, List.take_length] at p3
    refine ⟨p1, hq D _ hD0 ?_ (p2.back hd)⟩
    rw [upd_ne hDd]
    exact p3
/-! ### seen and found -/
def kvB (sl : List Int) : List (Key × V) := sl.map fun x => (Sum.inl x, V.bl true)
theorem kvB_key {sl : List Int} {x : Int} : (Sum.inl x : Key) ∈ (kvB sl).map (·.1) ↔ x ∈ sl := by
  unfold kvB
  rw [List.map_map]
  constructor
  · intro h
    obtain ⟨p, hp, e⟩ := List.mem_map.mp h
    cases Sum.inl.inj e
    exact hp
  · intro h
    exact List.mem_map.mpr ⟨x, h, rfl⟩
theorem kvB_val (sl : List Int) (x : Int) : (valV (kvB sl) (Sum.inl x : Key)).isSome = decide (x ∈ sl) := by
  by_cases h : x ∈ sl
  · rw [decide_eq_true h, ← valV_any, List.any_eq_true]
    exact ⟨(Sum.inl x, V.bl true), List.mem_map.mpr ⟨x, h, rfl⟩, by simp⟩
  · rw [decide_eq_false h, valV_none fun z => h (kvB_key.mp z)]
    rfl
theorem kvB_put (sl : List Int) (x : Int) : ∃ sl', putK (kvB sl) (Sum.inl x : Key) (V.bl true) = kvB sl' ∧ (∀ z, z ∈ sl' ↔ z ∈ sl ∨ z = x) ∧ (sl.Nodup → sl'.Nodup) := by
  by_cases h : x ∈ sl
  · refine ⟨sl, ?_, fun z => ⟨.inl, fun hz => ?_⟩, id⟩
    · unfold putK
      have e : ((kvB sl).any fun kv => decide (kv.1 = (Sum.inl x : Key))) = true := by
        rw [valV_any, kvB_val, decide_eq_true h]
      rw [if_pos e]
      unfold kvB
      rw [List.map_map]
      refine List.map_congr_left fun a _ => ?_
      show (if (Sum.inl a : Key) = Sum.inl x then ((Sum.inl a : Key), V.bl true) else (Sum.inl a, V.bl true)) = _
      split <;> rfl
    · rcases hz with hz | rfl
      · exact hz
      · exact h
  · refine ⟨sl ++ [x], ?_, fun z => by simp, fun nd => ?_⟩
    · rw [putK_new _ (valV_none fun z => h (kvB_key.mp z))]
      unfold kvB
      rw [List.map_append]
      rfl
    · rw [List.nodup_append]
      refine ⟨nd, by simp, fun a ha b hb e => ?_⟩
      simp at hb
      subst hb
      exact h (e ▸ ha)
structure Fnd (n : Int) (f : PF) (k : Nat) (fl : List (Int × Int)) (sl : List Int) : Prop where
  nd : (fl.map (·.1)).Nodup
  at_ : ∀ x, lk fl x = if x ∈ sl then iter f k x else none
  sn : sl.Nodup
  dm : ∀ x ∈ sl, 0 ≤ x ∧ x < n
theorem Fnd.len {n : Int} {f : PF} {k : Nat} {fl : List (Int × Int)} {sl : List Int} (h : Fnd n f k fl sl) : fl.length ≤ n.toNat := by
  have := len_range (n := n) h.nd (fun x hx => by
    obtain ⟨⟨a, b⟩, hp, rfl⟩ := List.mem_map.mp hx
    have e := lk_some h.nd hp
    rw [h.at_] at e
    by_cases hm : a ∈ sl
    · exact h.dm _ hm
    · rw [if_neg hm] at e; cases e)
  rw [List.length_map] at this
  exact this
theorem Fnd.slen {n : Int} {f : PF} {k : Nat} {fl : List (Int × Int)} {sl : List Int} (h : Fnd n f k fl sl) : sl.length ≤ n.toNat := len_range h.sn h.dm
theorem Fnd.put {n : Int} {f : PF} {k : Nat} {fl fl' : List (Int × Int)} {sl sl' : List Int} {x y : Int} (h : Fnd n f k fl sl) (h1 : ∀ z, z ∈ sl' ↔ z ∈ sl ∨ z = x) (h2 : sl.Nodup → sl'.Nodup) (hx : 0 ≤ x ∧ x < n)
    (e : iter f k x = some y) (n1 : (fl.map (·.1)).Nodup → (fl'.map (·.1)).Nodup) (a1 : ∀ z, lk fl' z = if z = x then some y else lk fl z) : Fnd n f k fl' sl' := by
  refine ⟨n1 h.nd, fun z => ?_, h2 h.sn, fun z hz => ?_⟩
  · rw [a1]
    by_cases hz : z = x
    · subst hz
      rw [if_pos rfl, if_pos ((h1 z).mpr (.inr rfl)), e]
    · rw [if_neg hz, h.at_]
      by_cases hs : z ∈ sl
      · rw [if_pos hs, if_pos ((h1 z).mpr (.inl hs))]
      · rw [if_neg hs, if_neg fun q => ((h1 z).mp q).elim hs hz]
  · rcases (h1 z).mp hz with q | rfl
    · exact h.dm z q
    · exact hx
theorem Fnd.skip {n : Int} {f : PF} {k : Nat} {fl : List (Int × Int)} {sl sl' : List Int} {x : Int} (h : Fnd n f k fl sl) (h1 : ∀ z, z ∈ sl' ↔ z ∈ sl ∨ z = x) (h2 : sl.Nodup → sl'.Nodup) (hx : 0 ≤ x ∧ x < n)
    (e : iter f k x = none) : Fnd n f k fl sl' := by
  refine ⟨h.nd, fun z => ?_, h2 h.sn, fun z hz => ?_⟩
  · rw [h.at_]
    by_cases hs : z ∈ sl
    · rw [if_pos hs, if_pos ((h1 z).mpr (.inl hs))]
    · rw [if_neg hs]
      by_cases hz : z = x
      · subst hz
        rw [if_pos ((h1 z).mpr (.inr rfl)), e]
      · rw [if_neg fun q => ((h1 z).mp q).elim hs hz]
  · rcases (h1 z).mp hz with q | rfl
    · exact h.dm z q
    · exact hx
theorem Fnd.di {n : Int} {f : PF} {k : Nat} {fl : List (Int × Int)} {sl : List Int} (h : Fnd n f (k + 1) fl sl) (all : ∀ x y, f x = some y → x ∈ sl) : DI fl (iter f (k + 1)) := by
  refine ⟨h.nd, fun x => ?_⟩
  rw [h.at_]
  by_cases hs : x ∈ sl
  · rw [if_pos hs]
  · rw [if_neg hs, iter_head]
    cases e : f x with
    | none => rfl
    | some y => exact absurd (all x y e) hs
end My
namespace My
open PySem L2 U StX PM
section
variable {P : Program} {w : World} {K : PySem.W.Frag} {mg : Str → Option Value} {base : Heap}
def spMoved : Sp := fun vs H Q _ => ∃ d l n f, ∃ k : Nat, vs = [.ref d, .int ((k + 1 : Nat) : Int)] ∧ H d = some (.dK (kvI l)) ∧ DI l f ∧ WF n f ∧ n ≤ 300 ∧ l.length ≤ 300 ∧
  ∀ r H' l', H r = none → Same H H' → H' r = some (.dK (kvI l')) → DI l' (iter f (k + 1)) → l'.length ≤ 300 → Q (.ref r) H'
theorem get_map {xs : List Int} {i : Nat} {a : Int} (h : xs[i]? = some a) : (xs.map V.int)[i]? = some (V.int a) := by
  rw [List.getElem?_map, h]; rfl
theorem for_cat {K : PySem.W.Frag} {t u : TE} {g : TG} {tb : TS} {D : Ends} {σ : L2.St} {H : Hp} (h : tLockE t σ H (fun x H1 => u σ H1 fun y H2 => rCat x y H2 fun z H3 => ∃ a, z = .ref a ∧ (∃ xs, SqL K H3 a xs) ∧ tFor (fun _ H R => R (Itl K a) H) g tb D σ H3)) :
    tFor (iList K (tOp rCat (tLockE t) u)) g tb D σ H := h
theorem Same.put {H H' : Hp} {p : Addr} {o : HO} (s : Same H H') (h : H p = none) : Same H (upd H' p o) := fun b u e => by rw [upd_ne (ne_of_none e h)]; exact s b u e
theorem at_mod {row : List Int} {j k : Nat} {y : Int} (h : row[(j + k) % row.length]? = some y) : atI (row.map V.int) ((((j : Nat) : Int) + ((k : Nat) : Int)) % (((row.map V.int).length : Nat) : Int)) = some (V.int y) := by
  have e : (((j : Nat) : Int) + ((k : Nat) : Int)) % (((row.map V.int).length : Nat) : Int) = (((j + k) % row.length : Nat) : Int) := by
    rw [List.length_map]
    push_cast
    rfl
  rw [e]
  exact atI_nat (get_map h)
theorem at_add {row : List Int} {j k : Nat} {y : Int} (h : row[j + k]? = some y) : atI (row.map V.int) (((j : Nat) : Int) + ((k : Nat) : Int)) = some (V.int y) := by
  have e : (((j : Nat) : Int) + ((k : Nat) : Int)) = ((j + k : Nat) : Int) := by
    push_cast
    rfl
  rw [e]
  exact atI_nat (get_map h)
theorem srcs {l : List (Int × Int)} {f : PF} (di : DI l f) {c : Int → Bool} {v : V} (h : v ∈ madeL (fun x _ => c x) (fun x _ => V.int x) l ++ (kvI l).map (fun kv => kV kv.1)) : ∃ x y, v = .int x ∧ f x = some y := by
  rcases List.mem_append.mp h with h | h
  · unfold madeL at h
    obtain ⟨⟨x, y⟩, hp, rfl⟩ := List.mem_map.mp h
    exact ⟨x, y, rfl, di.mem.mp (List.mem_filter.mp hp).1⟩
  · unfold kvI at h
    rw [List.map_map] at h
    obtain ⟨⟨x, y⟩, hp, rfl⟩ := List.mem_map.mp h
    exact ⟨x, y, rfl, di.mem.mp hp⟩
theorem srcs_all {l : List (Int × Int)} {f : PF} (di : DI l f) {c : Int → Bool} {x y : Int} (h : f x = some y) : V.int x ∈ madeL (fun x _ => c x) (fun x _ => V.int x) l ++ (kvI l).map (fun kv => kV kv.1) := by
  refine List.mem_append.mpr (.inr ?_)
  unfold kvI
  rw [List.map_map]
  exact List.mem_map.mpr ⟨(x, y), di.mem.mpr h, rfl⟩
theorem ok_moved (T : Txt K mg) : FnR P w K mg base CX0 2 T.f_moved spMoved := by
  refine T.A_moved.ok sc_moved (fun vs H Q E h => ?_) (fun cdv A outer s H vs Q E hr h => ?_)
  · obtain ⟨d, l, n, f, k, rfl, _⟩ := h
    rfl
  · obtain ⟨d, l, n, f, k, rfl, hd, di, wf, hn, hl, q⟩ := h
    have hu := hu_of hr
    refine ⟨_, pss_cons (ps_set (i := 2) sc_moved.nd rfl (Or.inl rfl) pe_dnewK)
      (pss_cons (ps_set (i := 3) sc_moved.nd rfl (Or.inl rfl) pe_dnewK)
      (pss_cons (ps_set (i := 4) sc_moved.nd rfl (Or.inr rfl) (pe_lock (pe_dc (own := [("target", 10)]) (g := gName 10) (tt := tYes) rfl sc_moved.nd (pi_values (pv 0))
          (blkOk_by (own := [("target", 10)]) (N := n_moved) (sc := defScope s_moved) (by decide +kernel))
          (fun _ _ _ _ _ => pg_name (i := 10) sc_moved.nd rfl (Or.inl rfl)) (fun _ _ _ _ _ => pts_nil) (fun _ _ _ _ _ => pv 10) (fun _ _ _ _ _ => pe_bl))))
      (pss_cons (ps_for PassesOwn.never rfl (pi_list (pe_op op_cat (pe_lock (pe_lc (own := [("element", 9)]) (g := gName 9) rfl sc_moved.nd (pi_keys (pv 0))
          (blkOk_by (own := [("element", 9)]) (N := n_moved) (sc := defScope s_moved) (by decide +kernel))
          (fun _ _ _ _ _ => pg_name (i := 9) sc_moved.nd rfl (Or.inl rfl)) (fun _ _ _ _ _ => pts_one (pt_cmp (pc_dnotin hu (pv 9) (pv 4)))) (fun _ _ _ _ _ => pv 9)))
          (pe_callTy (call_list_dK rfl) (by rfl) T.n_list (by decide +kernel) (pa_cons (pv 0) pa_nil)))) (pg_name (i := 5) sc_moved.nd rfl (Or.inl rfl))
        (pss_one (ps_if (pt_cmp (pc_dnotin hu (pv 5) (pv 3)))
          (pss_cons (ps_set (i := 6) sc_moved.nd rfl (Or.inl rfl) (pe_callR (ok_row_from T) hr T.A_row_from.kp rfl T.g_row_from pass0 (pa_cons (pv 0) (pa_cons (pv 5) pa_nil))))
          (pss_cons (ps_set (i := 7) sc_moved.nd rfl (Or.inl rfl) (pe_cmp (pc_din hu (pe_ix ix_list (pv 6) (pe_un un_neg pe_int) (fun _ _ => rfl)) (pv 0))))
          (pss_one (ps_for PassesOwn.never rfl (pi_enum rfl T.n_enumerate (pa_cons (pv 6) pa_nil)) (pg_tup rfl (pgs_cons (pg_name (i := 8) sc_moved.nd rfl (Or.inl rfl)) (pgs_cons (pg_name (i := 9) sc_moved.nd rfl (Or.inl rfl)) pgs_nil)))
            (pss_cons (ps_dput hu (pv 3) (pv 9) pe_bl rfl)
            (pss_one (ps_if (pt_val (pv 7))
              (pss_one (ps_dput hu (pv 2) (pv 9) (pe_ix ix_list (pv 6) (pe_op op_mod (pe_op op_add (pv 8) (pv 1)) (pe_callB call_len_seq (by rfl) T.n_len (by decide +kernel) (pa_cons (pv 6) pa_nil))) (fun _ _ => rfl)) rfl))
              (pss_one (ps_if (pt_cmpR op_lt (pe_op op_add (pv 8) (pv 1)) (pe_callB call_len_seq (by rfl) T.n_len (by decide +kernel) (pa_cons (pv 6) pa_nil)) (nomark _))
                (pss_one (ps_dput hu (pv 2) (pv 9) (pe_ix ix_list (pv 6) (pe_op op_add (pv 8) (pv 1)) (fun _ _ => rfl)) rfl)) pss_nil))))))))) pss_nil)))
      (pss_one (ps_ret (pv 2)))))), ?_⟩
    intro fo hfo
    intro se hse
    have nfs : fo ≠ se := ne_of_none upd_same hse
    have s1 : Same H (upd (upd H fo (.dK [])) se (.dK [])) := (Same.new hfo).trans (Same.new hse)
    have se0 : H se = none := (Same.new hfo).free hse
    have fo1 : (upd (upd H fo (.dK [])) se (.dK [])) fo = some (.dK (kvI [])) := by rw [upd_ne nfs, upd_same]; rfl
    have se1 : (upd (upd H fo (.dK [])) se (.dK [])) se = some (.dK (kvB [])) := upd_same
    have vnd := di.vals wf
    refine dc_vals (s1 _ _ hd) (fun H' R r o => ⟨_, rfl, r⟩) (fun _ => rfl) (fun _ _ _ r => r) (fun _ _ _ r => ⟨_, rfl, r⟩) (fun _ _ _ r => r) vnd (small1000 (by omega)) (fun tg H2 ntg htg s2 => ?_)
    have s12 := s1.trans s2
    have cd : ∀ (x : Int) (H1 : Hp), H1 tg = some (.dK (tgt l)) → DGet H1 tg (.int x) (valV (tgt l) (Sum.inl x)) := fun x H1 h => DGet.k (k := Sum.inl x) h
    have ntd : tg ≠ d := fun e => by rw [e, s1 _ _ hd] at ntg; cases ntg
    dsimp only [tSeq]
    refine for_cat ?_
    refine lc_keys (fun x => !decide (x ∈ l.map (·.2))) (fun x => .int x) (s12 _ _ hd) (fun H' R r o => ⟨_, rfl, r⟩) (fun _ => rfl) (fun x H1 o => ⟨fun R r => ?_, fun R r => ⟨_, rfl, r⟩⟩) (small1000 (by omega)) (fun L1 H3 nL1 hL1 s3 => ?_)
    · refine ⟨_, rfl, _, rfl, tg, _, rfl, cd x H1 (o _ _ ntd htg), _, rfl, ?_⟩
      rw [tgt_val]
      exact r
    have s13 := s12.trans s3
    refine ⟨_, rfl, d, _, rfl, s13 _ _ hd, fun L2 hL2 => ?_⟩
    have hlen1 := madeL_len (fun x _ => !decide (x ∈ l.map (·.2))) (fun x _ => V.int x) l l.length
    rw [List.take_length] at hlen1
    refine ⟨L1, L2, _, _, rfl, rfl, (by rw [upd_ne (ne_of_none hL1 hL2)]; exact hL1), upd_same, ?_, fun L3 hL3 => ?_⟩
    · rw [List.length_map, kvI_length]
      exact Nat.le_trans (by omega : _ ≤ 1000) (by decide)
    have s14 : Same H (upd H3 L2 (.lst ((kvI l).map fun kv => kV kv.1))) := s13.trans (Same.new hL2)
    have L30 : H L3 = none := s14.free hL3
    obtain ⟨S, eS⟩ : ∃ S, S = madeL (fun x _ => !decide (x ∈ l.map (·.2))) (fun x _ => V.int x) l ++ (kvI l).map (fun kv => kV kv.1) := ⟨_, rfl⟩
    have hS1 : ∀ v ∈ S, ∃ x y, v = .int x ∧ f x = some y := fun v hv => srcs di (eS ▸ hv)
    have hS2 : ∀ x y, f x = some y → V.int x ∈ S := fun x y h => eS ▸ srcs_all di h
    rw [← eS]
    refine ⟨L3, rfl, ⟨_, SqL.of upd_same⟩, ?_⟩
    have fo4 : (upd (upd H3 L2 (.lst ((kvI l).map fun kv => kV kv.1))) L3 (.lst S)) fo = some (.dK (kvI [])) := ((s2.trans s3).trans ((Same.new hL2).trans (Same.new hL3))) _ _ fo1
    have se4 : (upd (upd H3 L2 (.lst ((kvI l).map fun kv => kV kv.1))) L3 (.lst S)) se = some (.dK (kvB [])) := ((s2.trans s3).trans ((Same.new hL2).trans (Same.new hL3))) _ _ se1
    have nLf : L3 ≠ fo := fun e => by
      have := ((s2.trans s3).trans (Same.new (o := .lst ((kvI l).map fun kv => kV kv.1)) hL2)) _ _ fo1
      rw [← e, hL3] at this; cases this
    have nLs : L3 ≠ se := fun e => by
      have := ((s2.trans s3).trans (Same.new (o := .lst ((kvI l).map fun kv => kV kv.1)) hL2)) _ _ se1
      rw [← e, hL3] at this; cases this
    refine for_it (walk_list (xs := S)) (fun i σ H' => ∃ v5 v6 v7 v8 v9 v10 fl sl, σ = [some (.ref d), some (.int ((k + 1 : Nat) : Int)), some (.ref fo), some (.ref se), some (.ref tg), v5, v6, v7, v8, v9, v10] ∧ Same H H' ∧ H' L3 = some (.lst S) ∧ H' fo = some (.dK (kvI fl)) ∧ H' se = some (.dK (kvB sl)) ∧ Fnd n f (k + 1) fl sl ∧ ∀ x, V.int x ∈ S.take i → x ∈ sl)
      ⟨none, none, none, none, none, none, [], [], rfl, Same.put s14 L30, upd_same, fo4, se4, ⟨List.nodup_nil, fun _ => rfl, List.nodup_nil, fun _ h => nomatch h⟩, fun x h => by simp at h⟩ (fun i σ H' _ ⟨_, _, _, _, _, _, _, _, _, _, p, _⟩ => SqL.of p) ?_ ?_
    · rintro i v σ H' H'' hi ⟨v5, v6, v7, v8, v9, v10, fl, sl, rfl, p1, p2, p3, p4, p5, p6⟩ ⟨rfl, ev⟩
      obtain ⟨x, y, rfl, hxy⟩ := hS1 v (List.mem_of_getElem? ev)
      have hdx := wf.dom x y hxy
      have hd' := p1 _ _ hd
      refine ⟨_, rfl, _, rfl, se, _, rfl, DGet.k (k := Sum.inl x) p4, _, rfl, ?_⟩
      rw [kvB_val]
      refine ifNB (fun hc => ?_) (fun hc => ?_)
      · refine ⟨_, rfl, _, rfl, d, l, n, f, x, rfl, hd', di, wf, hn, hdx.1, hdx.2.1, fun r H2 pre z hr0 sr hr2 row ho => ?_⟩
        have q1 := p1.trans sr
        refine ⟨_, rfl, 1, rfl, r, _, -1, .int z, rfl, rfl, SqL.of hr2, lastI _ _, _, rfl, d, _, rfl, dgetI (q1 _ _ hd) di z, ?_⟩
        refine ⟨_, rfl, r, _, rfl, SqL.of hr2, ?_⟩
        have r0 : H r = none := p1.free hr0
        have nrL : r ≠ L3 := fun e => by rw [e, p2] at hr0; cases hr0
        have nrf : r ≠ fo := fun e => by rw [e, p3] at hr0; cases hr0
        have nrs : r ≠ se := fun e => by rw [e, p4] at hr0; cases hr0
        have hlast : (pre ++ [z])[(pre ++ [z]).length - 1]? = some z := by simp
        have hpos : 0 < (pre ++ [z]).length := by simp
        refine for_it (walk_enum (xs := (pre ++ [z]).map V.int)) (fun j σ H3 => ∃ v8 v9 fl' sl', σ = [some (.ref d), some (.int ((k + 1 : Nat) : Int)), some (.ref fo), some (.ref se), some (.ref tg), some (.int x), some (.ref r), some (.bl ((f z).map V.int).isSome), v8, v9, v10] ∧ Same H H3 ∧ H3 L3 = some (.lst S) ∧ H3 r = some (.lst ((pre ++ [z]).map V.int)) ∧ H3 fo = some (.dK (kvI fl')) ∧ H3 se = some (.dK (kvB sl')) ∧ Fnd n f (k + 1) fl' sl' ∧ (∀ a ∈ sl, a ∈ sl') ∧ ∀ a ∈ (pre ++ [z]).take j, a ∈ sl')
          ⟨v8, v9, fl, sl, rfl, q1, sr _ _ p2, hr2, sr _ _ p3, sr _ _ p4, p5, fun _ h => h, fun a h => by simp at h⟩ (fun j σ H3 _ ⟨_, _, _, _, _, _, _, p, _⟩ => SqL.of p) ?_ ?_
        · rintro j v σ H3 H4 hj ⟨w8, w9, fl', sl', rfl, t1, t2, t3, t4, t5, t6, t7, t8⟩ ⟨U, a, b, rfl, hU, rfl, e1, e2⟩
          rw [List.length_map] at hj
          obtain ⟨a0, ea⟩ : ∃ a, (pre ++ [z])[j]? = some a := ⟨_, List.getElem?_eq_getElem hj⟩
          dsimp only at e1 e2
          rw [get_map ea] at e2
          cases e1; cases e2
          have hda := row.dom wf hdx.1 hdx.2.1 a0 (List.mem_of_getElem? ea)
          refine ⟨U, [.int (j : Int), .int a0], rfl, SqT.of upd_same, rfl, .int (j : Int), [.int a0], rfl, .int a0, [], rfl, rfl, ?_⟩
          have u1 : Same H (upd H3 U (.tup [.int (j : Int), .int a0])) := t1.trans (Same.new hU)
          have u2 : (upd H3 U (.tup [.int (j : Int), .int a0])) L3 = _ := (Same.new hU) _ _ t2
          have u3 : (upd H3 U (.tup [.int (j : Int), .int a0])) r = _ := (Same.new hU) _ _ t3
          have u4 : (upd H3 U (.tup [.int (j : Int), .int a0])) fo = _ := (Same.new hU) _ _ t4
          have u5 : (upd H3 U (.tup [.int (j : Int), .int a0])) se = _ := (Same.new hU) _ _ t5
          have hsl := t6.slen
          have hfl := t6.len
          refine ⟨_, rfl, _, rfl, se, _, rfl, DPut.k (k := Sum.inl a0) u5 (small1000 (by unfold kvB; rw [List.length_map]; omega)), ?_⟩
          obtain ⟨sl2, es, hs1, hs2⟩ := kvB_put sl' a0
          rw [es]
          obtain ⟨H5, eH5⟩ : ∃ H5, H5 = upd (upd H3 U (.tup [.int (j : Int), .int a0])) se (.dK (kvB sl2)) := ⟨_, rfl⟩
          have w1 : Same H H5 := by rw [eH5]; exact Same.put u1 se0
          have w2 : H5 L3 = some (.lst S) := by rw [eH5, upd_ne nLs]; exact u2
          have w3 : H5 r = some (.lst ((pre ++ [z]).map V.int)) := by rw [eH5, upd_ne nrs]; exact u3
          have w4 : H5 fo = some (.dK (kvI fl')) := by rw [eH5, upd_ne nfs]; exact u4
          have w5 : H5 se = some (.dK (kvB sl2)) := by rw [eH5, upd_same]
          have m1 : ∀ a ∈ sl, a ∈ sl2 := fun a h => (hs1 a).mpr (.inl (t7 a h))
          have m2 : ∀ a ∈ (pre ++ [z]).take (j + 1), a ∈ sl2 := by
            intro a ha
            rw [take_more ea] at ha
            rcases List.mem_append.mp ha with h | h
            · exact (hs1 a).mpr (.inl (t8 a h))
            · simp at h
              exact (hs1 a).mpr (.inr h)
          rw [← eH5]
          refine ⟨_, rfl, _, rfl, ?_⟩
          rcases ho with ho | ho
          · rw [ho]
            refine iteF ?_
            have op := row.openAt hlast hpos ho j a0 ea (k + 1)
            refine ⟨_, rfl, _, rfl, _, _, rfl, rfl, _, rfl, r, _, rfl, .inl (SqL.of w3), _, _, rfl, rfl, _, rfl, ?_⟩
            refine ifD (fun hlt => ?_) (fun hge => ?_)
            · obtain ⟨y2, ey2⟩ : ∃ y2, (pre ++ [z])[j + (k + 1)]? = some y2 := ⟨_, List.getElem?_eq_getElem (by rw [List.length_map] at hlt; omega)⟩
              refine ⟨_, rfl, _, rfl, _, rfl, _, _, rfl, rfl, r, _, _, .int y2, rfl, rfl, SqL.of w3, at_add ey2, _, rfl, _, rfl, fo, _, rfl, DPut.k (k := Sum.inl a0) w4 (small1000 (by rw [kvI_length]; omega)), ?_⟩
              obtain ⟨fl2, ef, _, fn, fa⟩ := putK_lk (l := fl') (x := a0) (y := y2)
              rw [ef]
              rw [ey2] at op
              refine ⟨_, _, fl2, sl2, rfl, Same.put w1 hfo, ?_, ?_, upd_same, ?_, t6.put hs1 hs2 hda op fn fa, m1, m2⟩
              · rw [upd_ne nLf]; exact w2
              · rw [upd_ne nrf]; exact w3
              · rw [upd_ne nfs.symm]; exact w5
            · have : (pre ++ [z])[j + (k + 1)]? = none := List.getElem?_eq_none (by rw [List.length_map] at hge; omega)
              rw [this] at op
              exact ⟨_, _, fl', sl2, rfl, w1, w2, w3, w4, w5, t6.skip hs1 hs2 hda op, m1, m2⟩
          · rw [ho]
            refine iteT ?_
            have cl := row.closedAt hlast hpos ho j a0 ea (k + 1)
            obtain ⟨y2, ey2⟩ : ∃ y2, (pre ++ [z])[(j + (k + 1)) % (pre ++ [z]).length]? = some y2 := ⟨_, List.getElem?_eq_getElem (Nat.mod_lt _ hpos)⟩
            refine ⟨_, rfl, _, rfl, _, rfl, _, _, rfl, rfl, _, rfl, r, _, rfl, .inl (SqL.of w3), _, _, rfl, rfl, ?_, r, _, _, .int y2, rfl, rfl, SqL.of w3, at_mod ey2, _, rfl, _, rfl, fo, _, rfl, DPut.k (k := Sum.inl a0) w4 (small1000 (by rw [kvI_length]; omega)), ?_⟩
            · rw [List.length_map]
              omega
            obtain ⟨fl2, ef, _, fn, fa⟩ := putK_lk (l := fl') (x := a0) (y := y2)
            rw [ef]
            rw [ey2] at cl
            refine ⟨_, _, fl2, sl2, rfl, Same.put w1 hfo, ?_, ?_, upd_same, ?_, t6.put hs1 hs2 hda cl fn fa, m1, m2⟩
            · rw [upd_ne nLf]; exact w2
            · rw [upd_ne nrf]; exact w3
            · rw [upd_ne nfs.symm]; exact w5
        · rintro σ H3 ⟨w8, w9, fl', sl', rfl, t1, t2, t3, t4, t5, t6, t7, t8⟩
          rw [List.length_map, List.take_length] at t8
          refine ⟨_, _, _, _, _, _, fl', sl', rfl, t1, t2, t4, t5, t6, fun a ha => ?_⟩
          rw [take_more ev] at ha
          rcases List.mem_append.mp ha with h | h
          · exact t7 a (p6 a h)
          · simp at h
            subst h
            exact t8 a (List.mem_of_getElem? row.h0)
      · refine ⟨_, _, _, _, _, _, fl, sl, rfl, p1, p2, p3, p4, p5, fun a ha => ?_⟩
        rw [take_more ev] at ha
        rcases List.mem_append.mp ha with h | h
        · exact p6 a h
        · simp at h
          subst h
          exact of_decide_eq_true hc
    · rintro σ H' ⟨v5, v6, v7, v8, v9, v10, fl, sl, rfl, p1, p2, p3, p4, p5, p6⟩
      rw [List.take_length] at p6
      have hfl := p5.len
      exact ⟨_, rfl, q fo H' fl hfo p1 p3 (p5.di fun x y h => p6 x (hS2 x y h)) (by omega)⟩
end
end My
namespace My
open PySem L2 U StX PM
/-! ### f.power(e) -/
def pw (n : Int) (f : PF) (e : Int) : PF := if e = 0 then idn n else if e < 0 then iter (inv n f) e.natAbs else iter f e.natAbs
section
variable {P : Program} {w : World} {K : PySem.W.Frag} {mg : Str → Option Value} {base : Heap}
def spPow (C : Addr) : Sp := fun vs H Q _ => ∃ a n f e, vs = [.ref a, .int e] ∧ IsMap C H a n f ∧ ∀ r H', H r = none → Same H H' → IsMap C H' r n (pw n f e) → Q (.ref r) H'
theorem ok_power (T : Txt K mg) : FnR P w K mg base CX0 7 T.f_Map_power (spPow T.C_Map) := by
  refine T.A_Map_power.ok sc_Map_power (fun vs H Q E h => ?_) (fun cdv A outer s H vs Q E hr h => ?_)
  · obtain ⟨a, n, f, e, rfl, _⟩ := h
    rfl
  · obtain ⟨a, n, f, e, rfl, ha, q⟩ := h
    have hu := hu_of hr
    refine ⟨_, pss_cons (ps_if (pt_not (pt_val (pe_callR (ok_is_integer T) (hr.mono (by decide)) T.A_is_integer.kp rfl T.g_is_integer pass0 (pa_cons (pv 1) pa_nil)))) (pss_one ps_never) pss_nil)
      (pss_cons (ps_set (i := 2) sc_Map_power.nd rfl (Or.inl rfl) (pe_fld (pv 0) rfl))
      (pss_cons (ps_if (pt_cmpR op_lt (pv 1) pe_int (nomark _)) (pss_one (ps_lock (ps_setDc (i := 2) (own := [("source", 3), ("target", 4)]) (g := gTup K 2 (gCons (gName 3) (gCons (gName 4) gNil))) (tt := tYes) rfl sc_Map_power.nd rfl rfl (sw_dict rfl rfl rfl (by decide +kernel)) (pi_items (pe_fld (pv 0) rfl))
        (blkOk_by (own := [("source", 3), ("target", 4)]) (N := n_Map_power) (sc := defScope s_Map_power) (by decide +kernel))
        (fun _ _ _ _ _ => pg_tup rfl (pgs_cons (pg_name (i := 3) sc_Map_power.nd rfl (Or.inl rfl)) (pgs_cons (pg_name (i := 4) sc_Map_power.nd rfl (Or.inl rfl)) pgs_nil)))
        (fun _ _ _ _ _ => pts_nil) (fun _ _ _ _ _ => pv 4) (fun _ _ _ _ _ => pv 3)))) pss_nil)
      (pss_cons (ps_if (pt_cmpR op_eq (pv 1) pe_int (nomark _)) (pss_one (ps_ret (ClX.pe_cmeth (pe_glob (v := .ref T.C_Map) rfl T.g_Map rfl) T.R_Map T.cm_Map_identity (ok_identity T) hr pass0 (pa_cons (pe_fld (pv 0) rfl) pa_nil)))) pss_nil)
      (pss_one (ps_ret (pe_makeR T.M_Map (ok_init T) (hr.mono (by decide)) rfl T.g_Map pass0 (pa_cons (pe_fld (pv 0) rfl) (pa_cons (pe_callR (ok_moved T) (hr.mono (by decide)) T.A_moved.kp rfl T.g_moved pass0 (pa_cons (pv 2) (pa_cons (pe_callB call_abs (by rfl) T.n_abs (by decide +kernel) (pa_cons (pv 1) pa_nil)) pa_nil))) pa_nil)))))))), ?_⟩
    obtain ⟨dx, D, h1, h2⟩ := id ha.ob
    have h9 := ha.hi
    have ht := tab_len n f
    refine ⟨_, rfl, .int e, rfl, trivial, _, rfl, iteF ?_⟩
    refine ⟨_, rfl, a, _, dx, _, _, rfl, h1, T.o_Map.cl, T.na_own_arrows_Map, flds_arrows _ _, ?_⟩
    refine ⟨_, rfl, _, _, rfl, rfl, _, rfl, ?_⟩
    refine ifD (fun hneg => ?_) (fun hpos => ?_)
    · refine lock_asg ?_
      refine dc_items (fun _ _ => true) (fun _ y => y) (fun x _ => .int x) h2 (fun H' R r o => ?_) (fun _ _ => rfl) ?_ ?_ ?_ ?_
      · refine ⟨_, rfl, a, _, dx, _, _, rfl, o _ _ (ne_of h1 h2 (by intro z; cases z)) h1, T.o_Map.cl, T.na_own_arrows_Map, flds_arrows _ _, r⟩
      · intro x y hxy H1 o
        exact ⟨fun R r => r, fun _ => ⟨fun R r => ⟨_, rfl, r⟩, fun R r => ⟨_, rfl, r⟩⟩⟩
      · rw [madeD_I, kvI_keys]
        exact nd_inl (nd_tgt (vals_tab ha.wf))
      · exact small1000 (Nat.le_trans (tab_len n f) (by omega))
      · intro D2 H2 nD2 hD2 s2
        rw [madeD_I] at hD2
        refine ⟨_, rfl, rfl, _, rfl, ?_⟩
        refine ifD (fun h0 => ?_) (fun _ => ?_)
        · have : e = 0 := V.int.inj h0
          omega
        refine ⟨_, rfl, a, _, dx, _, _, rfl, s2 _ _ h1, T.o_Map.cl, T.na_own_size_Map, flds_size _ _, ?_⟩
        have ek : (if e < 0 then -e else e) = ((e.natAbs - 1 + 1 : Nat) : Int) := by rw [if_pos hneg]; omega
        refine ⟨_, rfl, _, rfl, _, rfl, ?_⟩
        rw [ek]
        refine ⟨D2, _, n, _, _, rfl, hD2, inv_di ha.wf, wf_inv ha.wf, ha.hi, Nat.le_trans (madeI_len ..) (by omega), fun r3 H3 l3 n3 s3 hr3 di3 hl3 => ?_⟩
        have ei : pw n f e = iter (inv n f) (e.natAbs - 1 + 1) := by
          unfold pw
          rw [if_neg (by omega), if_pos hneg, show e.natAbs - 1 + 1 = e.natAbs by omega]
        refine mk_map hr3 di3 (wf_iter (wf_inv ha.wf) _) ha.lo ha.hi (by omega) fun r H5 nr s5 hm => ?_
        rw [← ei] at hm
        exact q r H5 ((s2.trans s3).free nr) ((s2.trans s3).trans s5) hm
    · refine ⟨_, rfl, rfl, _, rfl, ?_⟩
      refine ifD (fun h0 => ?_) (fun hne => ?_)
      · have e0 : e = 0 := V.int.inj h0
        refine ⟨rfl, _, rfl, a, _, dx, _, _, rfl, h1, T.o_Map.cl, T.na_own_size_Map, flds_size _ _, n, rfl, ha.lo, ha.hi, fun r H' nr s1 hm => ?_⟩
        refine q r H' nr s1 ?_
        unfold pw
        rw [if_pos e0]
        exact hm
      · have hne' : e ≠ 0 := fun z => hne (congrArg V.int z)
        refine ⟨_, rfl, a, _, dx, _, _, rfl, h1, T.o_Map.cl, T.na_own_size_Map, flds_size _ _, ?_⟩
        have ek : (if e < 0 then -e else e) = ((e.natAbs - 1 + 1 : Nat) : Int) := by rw [if_neg hpos]; omega
        refine ⟨_, rfl, _, rfl, _, rfl, ?_⟩
        rw [ek]
        refine ⟨D, _, n, _, _, rfl, h2, di_tab ha.wf, ha.wf, ha.hi, by omega, fun r3 H3 l3 n3 s3 hr3 di3 hl3 => ?_⟩
        have ei : pw n f e = iter f (e.natAbs - 1 + 1) := by
          unfold pw
          rw [if_neg hne', if_neg hpos, show e.natAbs - 1 + 1 = e.natAbs by omega]
        refine mk_map hr3 di3 (wf_iter ha.wf _) ha.lo ha.hi (by omega) fun r H5 nr s5 hm => ?_
        rw [← ei] at hm
        exact q r H5 (s3.free nr) (s3.trans s5) hm
end
end My
namespace My
open PySem L2 U StX PM
/-! ### a drawn map -/
structure Drw (n : Int) (i : Nat) (l : List (Int × Int)) (ns : List Int) : Prop where
  kn : (l.map (·.1)).Nodup
  vn : (l.map (·.2)).Nodup
  nn : ns.Nodup
  lt : ∀ p ∈ l, 0 ≤ p.1 ∧ p.1 < i ∧ 0 ≤ p.2 ∧ p.2 < n
  nt : ∀ y ∈ ns, 0 ≤ y ∧ y < n ∧ y ∉ l.map (·.2)
  ln : l.length ≤ i
  le : l.length + ns.length = n.toNat
theorem Drw.more {n : Int} {i : Nat} {l : List (Int × Int)} {ns : List Int} (h : Drw n i l ns) : Drw n (i + 1) l ns := by
  refine ⟨h.kn, h.vn, h.nn, fun p hp => ?_, h.nt, Nat.le_succ_of_le h.ln, h.le⟩
  have := h.lt p hp
  omega
theorem not_erase {ns : List Int} {k : Nat} {y : Int} (nd : ns.Nodup) (h : ns[k]? = some y) : y ∉ ns.eraseIdx k := by
  obtain ⟨hk, e⟩ := List.getElem?_eq_some_iff.mp h
  have e1 : ns = ns.take k ++ y :: ns.drop (k + 1) := by
    rw [← e]
    simp
  rw [List.eraseIdx_eq_take_drop_succ]
  intro hm
  rw [e1, List.nodup_append, List.nodup_cons] at nd
  rcases List.mem_append.mp hm with h1 | h1
  · exact nd.2.2 y h1 y List.mem_cons_self rfl
  · exact nd.2.1.1 h1
theorem Drw.put {n : Int} {i : Nat} {l : List (Int × Int)} {ns : List Int} (h : Drw n i l ns) {k : Nat} {y : Int} (hy : ns[k]? = some y) : Drw n (i + 1) (l ++ [((i : Int), y)]) (ns.eraseIdx k) ∧ (i : Int) ∉ l.map (·.1) := by
  have hm := h.nt y (List.mem_of_getElem? hy)
  have hi : (i : Int) ∉ l.map (·.1) := by
    intro hm
    obtain ⟨p, hp, e⟩ := List.mem_map.mp hm
    have := h.lt p hp
    omega
  obtain ⟨hk, _⟩ := List.getElem?_eq_some_iff.mp hy
  refine ⟨⟨?_, ?_, ?_, ?_, ?_, ?_, ?_⟩, hi⟩
  · rw [List.map_append, List.nodup_append]
    refine ⟨h.kn, by simp, fun a ha b hb e => ?_⟩
    simp at hb
    subst hb
    exact hi (e ▸ ha)
  · rw [List.map_append, List.nodup_append]
    refine ⟨h.vn, by simp, fun a ha b hb e => ?_⟩
    simp at hb
    subst hb
    exact hm.2.2 (e ▸ ha)
  · exact List.Sublist.nodup (List.eraseIdx_sublist _ _) h.nn
  · intro p hp
    rcases List.mem_append.mp hp with hp | hp
    · have := h.lt p hp
      omega
    · simp at hp
      subst hp
      dsimp only
      omega
  · intro z hz
    have h1 := h.nt z (List.mem_of_mem_eraseIdx hz)
    refine ⟨h1.1, h1.2.1, fun hq => ?_⟩
    rw [List.map_append] at hq
    rcases List.mem_append.mp hq with hq | hq
    · exact h1.2.2 hq
    · simp at hq
      subst hq
      exact not_erase h.nn hy hz
  · have := h.ln
    simp
    omega
  · have := h.le
    rw [List.length_append, List.length_singleton, List.length_eraseIdx, if_pos hk]
    omega
theorem two_in {l : List (Int × Int)} (vn : (l.map (·.2)).Nodup) : ∀ {x x' y : Int}, (x, y) ∈ l → (x', y) ∈ l → x = x' := by
  induction l with
  | nil => intro _ _ _ h; cases h
  | cons p r ih =>
    intro x x' y h1 h2
    rw [List.map_cons, List.nodup_cons] at vn
    rcases List.mem_cons.mp h1 with e1 | e1 <;> rcases List.mem_cons.mp h2 with e2 | e2
    · subst e1; cases e2; rfl
    · subst e1; exact absurd (List.mem_map.mpr ⟨(x', y), e2, rfl⟩) vn.1
    · subst e2; exact absurd (List.mem_map.mpr ⟨(x, y), e1, rfl⟩) vn.1
    · exact ih vn.2 e1 e2
theorem Drw.wf {n : Int} {l : List (Int × Int)} {ns : List Int} (h0 : 0 ≤ n) (h : Drw n n.toNat l ns) : WF n (lk l) := by
  refine ⟨fun x y e => ?_, fun x x' y e e' => two_in h.vn (lk_mem e) (lk_mem e')⟩
  have := h.lt _ (lk_mem e)
  dsimp only at this
  omega
theorem rg0 (n : Int) : rgV 0 n = ((List.range n.toNat).map fun (i : Nat) => (i : Int)).map V.int := by
  unfold rgV
  rw [List.map_map, show (n - 0).toNat = n.toNat by omega]
  refine List.map_congr_left fun a _ => ?_
  show V.int (0 + (a : Int)) = V.int (a : Int)
  rw [Int.zero_add]
theorem drw0 (n : Int) : Drw n 0 [] ((List.range n.toNat).map fun (i : Nat) => (i : Int)) := by
  refine ⟨List.nodup_nil, List.nodup_nil, ?_, fun p h => (nomatch h), fun y hy => ?_, Nat.le_refl _, by simp⟩
  · have := (di_id n.toNat).nd
    rw [List.map_map] at this
    exact this
  · obtain ⟨i, hi, rfl⟩ := List.mem_map.mp hy
    rw [List.mem_range] at hi
    exact ⟨by omega, by omega, by simp⟩
section
variable {P : Program} {w : World} {K : PySem.W.Frag} {mg : Str → Option Value} {base : Heap}
def PoolAt (H : Hp) (p : Addr) : Prop := ∃ a b : Int, H p = some (.lst [.int a, .int b]) ∧ 0 ≤ a ∧ 0 ≤ b ∧ b < 2147483647
theorem Off.put {p q : Addr} {H H' : Hp} {o : HO} (a : Off p H H') (h : H q = none) : Off p H (upd H' q o) := a.mut h
theorem Off.at {p : Addr} {H H' : Hp} {o : HO} (a : Off p H H') : Off p H (upd H' p o) := fun b u hb e => by rw [upd_ne hb]; exact a b u hb e
end
end My
namespace My
open PySem L2 U StX PM
/-! ### expressions over maps: new objects alone -/
theorem eqB_eq {n : Int} {f g : PF} (wf : WF n f) (h : f = g) : eqB n f n g = true := by
  subst h
  exact eqB_self wf
theorem dEq_di {l l' : List (Int × Int)} {f : PF} (d : DI l f) (d' : DI l' f) : dEq (kvI l) (kvI l') = true := by
  have n1 := nd_of_map _ d.nd
  have n2 := nd_of_map _ d'.nd
  have s1 : ∀ p ∈ l, p ∈ l' := by
    rintro ⟨x, y⟩ hp
    exact d'.mem.mpr (d.mem.mp hp)
  have s2 : ∀ p ∈ l', p ∈ l := by
    rintro ⟨x, y⟩ hp
    exact d.mem.mpr (d'.mem.mp hp)
  have l1 := List.Nodup.length_le_of_subset n1 s1
  have l2 := List.Nodup.length_le_of_subset n2 s2
  unfold dEq
  rw [kvI_length, kvI_length, Bool.and_eq_true]
  refine ⟨by rw [beq_iff_eq]; omega, List.all_eq_true.mpr fun p hp => ?_⟩
  unfold kvI at hp
  obtain ⟨⟨x, y⟩, hm, rfl⟩ := List.mem_map.mp hp
  rw [decide_eq_true_eq, valV_kvI, d'.at_, d.mem.mp hm]
  rfl
/-! ### dict([(x, x) for x in one.arrows]) -/
end My
namespace My
open PySem L2 U StX PM
/-! ### values that are no maps; check_map -/
def nonMapV (H : Hp) : V → Prop
  | .non => True | .bl _ => True | .int _ => True | .str _ => True
  | .ref a => (∃ xs, H a = some (.lst xs)) ∨ (∃ xs, H a = some (.tup xs)) ∨ (∃ kvs, H a = some (.dK kvs))
  | _ => False
def spChkM (C CE : Addr) : Sp := fun vs H Q E => ∃ x, vs = [x] ∧ ((∃ a n f, x = .ref a ∧ IsMap C H a n f ∧ Q .non H) ∨ (nonMapV H x ∧ ∀ d, H d = none → E (.ref CE) (some d) (upd H d (.xd [("part", .str "map")]))))
section
variable {P : Program} {w : World} {K : PySem.W.Frag} {mg : Str → Option Value} {base : Heap}
theorem ok_ini_InvalidMap (T : Txt K mg) : FnR P w K mg base CX0 1 T.f_InvalidMap__init (spIni1 T.C_InvalidMap "part") := by
  refine T.A_InvalidMap__init.ok sc_InvalidMap__init (fun vs H Q E h => ?_) (fun cdv A outer s H vs Q E hr h => ?_)
  · obtain ⟨a, v, rfl, _⟩ := h
    rfl
  · obtain ⟨a, v, rfl, ha, q⟩ := h
    refine ⟨_, pss_one (ps_ostG (pv 0) (pv 1)), ?_⟩
    exact ⟨_, rfl, _, rfl, a, T.C_InvalidMap, rfl, T.x_InvalidMap, T.na_part_InvalidMap, .inl ⟨ha, fun dx h1 h2 => q dx h1 h2⟩⟩
theorem ty_nonmap (T : Txt K mg) {H : Hp} {x : V} (h : nonMapV H x) : ∃ t, TyX K H x t ∧ PySem.W.kitOne K t (.ref T.C_Map) = some false := by
  cases x with
  | non => exact ⟨_, .base .non, T.kn_NoneType_Map⟩
  | bl b => exact ⟨_, .base (.bl b), T.kn_bool_Map⟩
  | int i => exact ⟨_, .base (.int i), T.kn_int_Map⟩
  | str z => exact ⟨_, .base (.str z), T.kn_str_Map⟩
  | ref a =>
    rcases h with ⟨xs, e⟩ | ⟨xs, e⟩ | ⟨xs, e⟩
    · exact ⟨_, .base (.lst e), T.kn_list_Map⟩
    · exact ⟨_, .base (.tup e), T.kn_tuple_Map⟩
    · exact ⟨_, .base (.dK e), T.kn_dict_Map⟩
  | byt b => exact h.elim
  | flt b => exact h.elim
  | ty b => exact h.elim
theorem ok_check_map (T : Txt K mg) : FnR P w K mg base (L2.CX P w) 3 T.f_check_map (spChkM T.C_Map T.C_InvalidMap) := by
  refine T.A_check_map.okX sc_check_map (fun vs H Q E h => ?_) (fun cdv A outer s H vs Q E hr h => ?_)
  · obtain ⟨x, rfl, _⟩ := h
    rfl
  · obtain ⟨x, rfl, hx⟩ := h
    refine ⟨_, pss_one (ps_if (pt_not (pt_val (pe_callB call_isi (by rfl) T.n_isinstance (by decide +kernel) (pa_cons (pv 0) (pa_cons (pe_glob (v := .ref T.C_Map) rfl T.g_Map rfl) pa_nil)))))
      (pss_one (ps_raise rfl (takes_of rfl rfl rfl rfl) (pmk_oexG T.x_InvalidMap T.m_InvalidMap__init T.ti_InvalidMap__init (ok_ini_InvalidMap T) (hr.mono (by decide)) pass0 rfl T.g_InvalidMap (pa_cons pe_str pa_nil)))) pss_nil), ?_⟩
    rcases hx with ⟨a, n, f, rfl, hm, q⟩ | ⟨hx, q⟩
    · obtain ⟨dx, fs, h1⟩ := at_map hm
      exact ⟨_, rfl, _, _, _, _, true, rfl, .own _, tyx_ins T.o_Map h1, T.self_Map, _, rfl, iteF q⟩
    · obtain ⟨t, ht, hk⟩ := ty_nonmap T hx
      exact ⟨_, rfl, _, _, _, _, false, rfl, .own _, ht, hk, _, rfl, iteT (mk_one fun d hd => q d hd)⟩
end
/-! ### lists of rows -/
def RowsAt (H : Hp) : List Addr → List (List Int) → Prop
  | [], [] => True
  | a :: as, r :: rs => H a = some (.lst (r.map V.int)) ∧ RowsAt H as rs
  | _, _ => False
theorem RowsAt.len {H : Hp} : ∀ {as : List Addr} {rs : List (List Int)}, RowsAt H as rs → as.length = rs.length
  | [], [], _ => rfl
  | _ :: as, _ :: rs, h => by rw [List.length_cons, List.length_cons, RowsAt.len h.2]
  | [], _ :: _, h => h.elim
  | _ :: _, [], h => h.elim
theorem RowsAt.map {H H' : Hp} : ∀ {as : List Addr} {rs : List (List Int)}, RowsAt H as rs → (∀ a ∈ as, ∀ xs, H a = some (.lst xs) → H' a = some (.lst xs)) → RowsAt H' as rs
  | [], [], _, _ => trivial
  | _ :: as, _ :: rs, h, k => ⟨k _ List.mem_cons_self _ h.1, RowsAt.map h.2 fun a ha => k a (List.mem_cons_of_mem _ ha)⟩
  | [], _ :: _, h, _ => h.elim
  | _ :: _, [], h, _ => h.elim
theorem RowsAt.same {H H' : Hp} {as : List Addr} {rs : List (List Int)} (h : RowsAt H as rs) (s : Same H H') : RowsAt H' as rs := h.map fun a _ xs e => s a _ e
theorem RowsAt.off {H : Hp} {as : List Addr} {rs : List (List Int)} {p : Addr} {o : HO} (h : RowsAt H as rs) (n : p ∉ as) : RowsAt (upd H p o) as rs := h.map fun a ha xs e => by
  have hne : a ≠ p := fun z => n (z ▸ ha)
  rw [upd_ne hne]; exact e
theorem RowsAt.snoc {H : Hp} {a : Addr} {r : List Int} : ∀ {as : List Addr} {rs : List (List Int)}, RowsAt H as rs → H a = some (.lst (r.map V.int)) → RowsAt H (as ++ [a]) (rs ++ [r])
  | [], [], _, e => ⟨e, trivial⟩
  | _ :: as, _ :: rs, h, e => ⟨h.1, RowsAt.snoc h.2 e⟩
  | [], _ :: _, h, _ => h.elim
  | _ :: _, [], h, _ => h.elim
theorem RowsAt.get {H : Hp} : ∀ {as : List Addr} {rs : List (List Int)}, RowsAt H as rs → ∀ (i : Nat) (a : Addr), as[i]? = some a → ∃ r, rs[i]? = some r ∧ H a = some (.lst (r.map V.int))
  | [], [], _, i, a, e => by simp at e
  | b :: as, r :: rs, h, 0, a, e => by cases e; exact ⟨r, rfl, h.1⟩
  | _ :: as, _ :: rs, h, i + 1, a, e => RowsAt.get h.2 i a e
  | [], _ :: _, h, _, _, _ => h.elim
  | _ :: _, [], h, _, _, _ => h.elim
theorem RowsAt.mem {H : Hp} {as : List Addr} {rs : List (List Int)} (h : RowsAt H as rs) {a : Addr} (ha : a ∈ as) : ∃ r ∈ rs, H a = some (.lst (r.map V.int)) := by
  obtain ⟨i, hi⟩ := List.mem_iff_getElem?.mp ha
  obtain ⟨r, e1, e2⟩ := h.get i a hi
  exact ⟨r, List.mem_of_getElem? e1, e2⟩
def dInts (r : List Int) : PyData := .list (r.map PyData.int)
theorem dp_ints {K : PySem.W.Frag} {H : Hp} : ∀ (r : List Int), DpAll K H (r.map V.int) (r.map PyData.int)
  | [] => .nil
  | x :: r => .cons (.int x) (dp_ints r)
theorem RowsAt.dp {K : PySem.W.Frag} {H : Hp} : ∀ {as : List Addr} {rs : List (List Int)}, RowsAt H as rs → DpAll K H (as.map V.ref) (rs.map dInts)
  | [], [], _ => .nil
  | _ :: as, r :: rs, h => .cons (.lst (SqL.of h.1) (dp_ints r)) (RowsAt.dp h.2)
  | [], _ :: _, h => h.elim
  | _ :: _, [], h => h.elim
end My
namespace My
open PySem L2 U StX PM
section
variable {P : Program} {w : World} {K : PySem.W.Frag} {mg : Str → Option Value} {base : Heap}
structure Prt (n : Int) (f : PF) (H H' : Hp) (lh se : Addr) (ex : List Addr) (b : List Int) (hs : List Addr) (sl : List Int) (st : List Int) : Prop where
  sm : Same H H'
  l : H' lh = some (.lst (hs.map V.ref))
  s : H' se = some (.dK (kvB sl))
  r : RowsAt H' hs (st.map (rowN f))
  m : ∀ x, x ∈ sl ↔ x ∈ seenL f (b ++ st)
  nd : sl.Nodup
  nw : ∀ a ∈ hs, H a = none ∧ a ≠ lh ∧ a ≠ se ∧ a ∉ ex
theorem Prt.slen {n : Int} {f : PF} {H H' : Hp} {lh se : Addr} {ex hs : List Addr} {b sl st : List Int} (wf : WF n f) (p : Prt n f H H' lh se ex b hs sl st) (h : ∀ e ∈ b ++ st, 0 ≤ e ∧ e < n) : sl.length ≤ n.toNat := by
  refine len_range p.nd fun x hx => ?_
  obtain ⟨e, he, hm⟩ := mem_seenL.mp ((p.m x).mp hx)
  have := h e he
  exact (rowN_is wf this.1 this.2).dom wf this.1 this.2 x hm
/-- one row more, from a new list r, its marks merged -/
theorem Prt.more {n : Int} {f : PF} {H H1 H2 H3 : Hp} {lh se : Addr} {ex hs : List Addr} {b sl sl' st : List Int} {e : Int} {r : Addr} (p : Prt n f H H1 lh se ex b hs sl st) (hl0 : H lh = none) (hs0 : H se = none) (nls : lh ≠ se) (hex : ∀ a ∈ ex, H1 a ≠ none)
    (hr : H1 r = none) (s2 : Same H1 H2) (hr2 : H2 r = some (.lst ((rowN f e).map V.int))) (m1 : ∀ z, z ∈ sl' ↔ z ∈ sl ∨ z ∈ rowN f e) (n1 : sl.Nodup → sl'.Nodup) (s3 : Same (upd H2 lh (.lst (hs.map V.ref ++ [.ref r]))) H3) :
    Prt n f H (upd H3 se (.dK (kvB sl'))) lh se ex b (hs ++ [r]) sl' (st ++ [e]) := by
  have rl : r ≠ lh := fun z => by rw [z, p.l] at hr; cases hr
  have rs : r ≠ se := fun z => by rw [z, p.s] at hr; cases hr
  have r0 : H r = none := p.sm.free hr
  have rx : r ∉ ex := fun z => hex r z hr
  refine ⟨?_, ?_, upd_same, ?_, ?_, n1 p.nd, ?_⟩
  · refine Same.put ?_ hs0
    exact (Same.put (p.sm.trans s2) hl0).trans s3
  · rw [upd_ne nls, s3 _ _ upd_same, List.map_append]
    rfl
  · rw [List.map_append]
    refine RowsAt.snoc ?_ ?_
    · have h1 := (p.r.same s2).off (p := lh) (o := .lst (hs.map V.ref ++ [.ref r])) (fun z => (p.nw lh z).2.1 rfl)
      exact (h1.same s3).off fun z => (p.nw se z).2.2.1 rfl
    · rw [upd_ne rs]
      exact s3 _ _ (by rw [upd_ne rl]; exact hr2)
  · intro x
    rw [m1, p.m, mem_seenL, mem_seenL]
    constructor
    · rintro (⟨e', h1, h2⟩ | h)
      · exact ⟨e', by rw [← List.append_assoc]; exact List.mem_append_left _ h1, h2⟩
      · exact ⟨e, by simp, h⟩
    · rintro ⟨e', h1, h2⟩
      rw [← List.append_assoc] at h1
      rcases List.mem_append.mp h1 with h1 | h1
      · exact .inl ⟨e', h1, h2⟩
      · rw [List.mem_singleton] at h1
        subst h1
        exact .inr h2
  · intro a ha
    rcases List.mem_append.mp ha with ha | ha
    · exact p.nw a ha
    · rw [List.mem_singleton] at ha
      subst ha
      exact ⟨r0, rl, rs, rx⟩
/-! ### cycles_of, chains_of -/
end
end My
namespace My
open PySem L2 U StX PM
/-- what holds between a statement and the rest -/
theorem seq_cut {a rest : TS} {D : Ends} {σ : L2.St} {H : Hp} (M : L2.St → Hp → Prop) (h : ∀ nx : L2.St → Hp → Prop, (∀ σ' H', M σ' H' → nx σ' H') → a { D with nx := nx } σ H) (hM : ∀ σ' H', M σ' H' → rest D σ' H') : tSeq a rest D σ H := h _ hM
/-! ### lists of ints: in, comprehensions -/
/-! ### rows with marks -/
def PairsAt (H : Hp) : List Addr → List Addr → List Bool → Prop
  | [], [], [] => True
  | p :: ps, a :: as, b :: bs => H p = some (.tup [.ref a, .bl b]) ∧ PairsAt H ps as bs
  | _, _, _ => False
theorem PairsAt.map {H H' : Hp} : ∀ {ps as : List Addr} {bs : List Bool}, PairsAt H ps as bs → (∀ p ∈ ps, ∀ xs, H p = some (.tup xs) → H' p = some (.tup xs)) → PairsAt H' ps as bs
  | [], [], [], _, _ => trivial
  | _ :: ps, _ :: as, _ :: bs, h, k => ⟨k _ List.mem_cons_self _ h.1, PairsAt.map h.2 fun a ha => k a (List.mem_cons_of_mem _ ha)⟩
  | [], [], _ :: _, h, _ => h.elim
  | [], _ :: _, _, h, _ => h.elim
  | _ :: _, [], _, h, _ => h.elim
  | _ :: _, _ :: _, [], h, _ => h.elim
theorem PairsAt.same {H H' : Hp} {ps as : List Addr} {bs : List Bool} (h : PairsAt H ps as bs) (s : Same H H') : PairsAt H' ps as bs := h.map fun a _ xs e => s a _ e
theorem PairsAt.off {H : Hp} {ps as : List Addr} {bs : List Bool} {q : Addr} {o u : HO} (h : PairsAt H ps as bs) (hq : H q = some u) (nt : ∀ xs, u ≠ .tup xs) : PairsAt (upd H q o) ps as bs := h.map fun a ha xs e => by
  have hne : a ≠ q := fun z => by subst z; rw [hq] at e; exact nt _ (Option.some.inj e)
  rw [upd_ne hne]; exact e
theorem PairsAt.snoc {H : Hp} {p a : Addr} {b : Bool} : ∀ {ps as : List Addr} {bs : List Bool}, PairsAt H ps as bs → H p = some (.tup [.ref a, .bl b]) → PairsAt H (ps ++ [p]) (as ++ [a]) (bs ++ [b])
  | [], [], [], _, e => ⟨e, trivial⟩
  | _ :: ps, _ :: as, _ :: bs, h, e => ⟨h.1, PairsAt.snoc h.2 e⟩
  | [], [], _ :: _, h, _ => h.elim
  | [], _ :: _, _, h, _ => h.elim
  | _ :: _, [], _, h, _ => h.elim
  | _ :: _, _ :: _, [], h, _ => h.elim
theorem PairsAt.len {H : Hp} : ∀ {ps as : List Addr} {bs : List Bool}, PairsAt H ps as bs → ps.length = as.length ∧ ps.length = bs.length
  | [], [], [], _ => ⟨rfl, rfl⟩
  | _ :: ps, _ :: as, _ :: bs, h => by
    have := PairsAt.len h.2
    simp [this.1.symm, this.2.symm]
  | [], [], _ :: _, h => h.elim
  | [], _ :: _, _, h => h.elim
  | _ :: _, [], _, h => h.elim
  | _ :: _, _ :: _, [], h => h.elim
theorem PairsAt.get {H : Hp} : ∀ {ps as : List Addr} {bs : List Bool}, PairsAt H ps as bs → ∀ (i : Nat) (p : Addr), ps[i]? = some p → ∃ a b, as[i]? = some a ∧ bs[i]? = some b ∧ H p = some (.tup [.ref a, .bl b])
  | [], [], [], _, i, a, e => by simp at e
  | _ :: ps, a :: as, b :: bs, h, 0, p, e => by cases e; exact ⟨a, b, rfl, rfl, h.1⟩
  | _ :: ps, _ :: as, _ :: bs, h, i + 1, p, e => PairsAt.get h.2 i p e
  | [], [], _ :: _, h, _, _, _ => h.elim
  | [], _ :: _, _, h, _, _, _ => h.elim
  | _ :: _, [], _, h, _, _, _ => h.elim
  | _ :: _, _ :: _, [], h, _, _, _ => h.elim
end My
namespace My
open PySem L2 U StX PM
/-! ### rows by their first elements -/
def RowsZ (f : PF) (H : Hp) (zs : List (Addr × Int)) : Prop := ∀ z ∈ zs, H z.1 = some (.lst ((rowN f z.2).map V.int))
theorem RowsZ.at {f : PF} {H : Hp} : ∀ {zs : List (Addr × Int)}, RowsZ f H zs → RowsAt H (zs.map (·.1)) ((zs.map (·.2)).map (rowN f))
  | [], _ => trivial
  | z :: zs, h => ⟨h z List.mem_cons_self, RowsZ.at fun x hx => h x (List.mem_cons_of_mem _ hx)⟩
/-! ### data that may be compared -/
end My
namespace My
open PySem L2 U StX PM
theorem SqL.same {K : PySem.W.Frag} {H H' : Hp} {a : Addr} {xs : List V} (h : SqL K H a xs) (s : Same H H') : SqL K H' a xs := by
  rcases h with (h | ⟨o, h⟩) | h
  · exact .inl (.inl (s _ _ h))
  · exact .inl (.inr ⟨o, s _ _ h⟩)
  · exact .inr h
theorem Same.off {H H1 H2 : Hp} {p : Addr} (s : Same H H1) (o : Off p H1 H2) (h : H p = none) : Same H H2 := fun b u e => o b u (ne_of_none e h) (s b u e)
theorem yes_ {σ : L2.St} {H : Hp} {A B : Hp → Prop} (h : A H) : tYes σ H (fun b H3 => if b = true then A H3 else B H3) := by
  show (if true = true then A H else B H)
  rw [if_pos rfl]
  exact h
theorem PoolAt.same {H H' : Hp} {p : Addr} (h : PoolAt H p) (s : Same H H') : PoolAt H' p := by
  obtain ⟨a, b, e, r⟩ := h
  exact ⟨a, b, s _ _ e, r⟩
theorem PoolAt.lst {H : Hp} {p : Addr} (h : PoolAt H p) : ∃ xs, H p = some (.lst xs) := by
  obtain ⟨a, b, e, r⟩ := h
  exact ⟨_, e⟩
theorem PoolAt.ne {H : Hp} {p q : Addr} (h : PoolAt H p) (hq : H q = none) : p ≠ q := by
  obtain ⟨xs, e⟩ := h.lst
  exact ne_of_none e hq
theorem IsMap.off {C p : Addr} {H H' : Hp} {m : Addr} {n : Int} {f : PF} (a : IsMap C H m n f) (o : Off p H H') (h : ∃ xs, H p = some (.lst xs)) : IsMap C H' m n f := by
  obtain ⟨⟨dx, D, h1, h2⟩, wf, lo, hi⟩ := a
  obtain ⟨xs, h⟩ := h
  exact ⟨⟨dx, D, o _ _ (fun e => by rw [e, h] at h1; cases h1) h1, o _ _ (fun e => by rw [e, h] at h2; cases h2) h2⟩, wf, lo, hi⟩
/-- Map(n, d) -/
theorem init_of {C : Addr} {H : Hp} {d : Addr} {n : Int} {l : List (Int × Int)} {f : PF} {R : VK} {E : XK} {x dx : Addr} (hd : H d = some (.dK (kvI l))) (di : DI l f) (wf : WF n f) (h1 : 1 ≤ n) (h3 : n ≤ 300) (hl : l.length ≤ 1000)
    (hx : H x = none) (hdx : H dx = none) (ne : dx ≠ x) (q : ∀ H', Same H H' → IsMap C H' x n f → R .non H') :
    spInit C [.ref x, .int n, .ref d] (upd (upd H dx (.own x)) x (.ins C dx [])) R E := by
  have s0 : Same H (upd (upd H dx (.own x)) x (.ins C dx [])) := fun b o e => by
    rw [upd_ne (ne_of_none e hx), upd_ne (ne_of_none e hdx)]
    exact e
  refine ⟨x, dx, d, n, l, f, rfl, upd_same, s0 _ _ hd, di, wf, h1, h3, hl, fun H' D o nD hp hD => ?_⟩
  exact q H' (fun b u e => o b u (ne_of_none e hx) (s0 b u e)) ⟨⟨dx, D, hp, hD⟩, wf, h1, h3⟩
/-- the law's draw, told by the pool alone -/
theorem draw_of {H : Hp} {p : Addr} {n : Int} {Q : VK} {E : XK} (h : PoolAt H p) (n0 : 0 < n) (n1 : n < 1073741824) (k : ∀ r H', 0 ≤ r → r < n → PoolAt H' p → Off p H H' → (∃ xs, H' = upd H p (.lst xs)) → Q (.int r) H') : spDraw [.ref p, .int n] H Q E := by
  obtain ⟨a, b, e, ha, hb, hc⟩ := h
  exact ⟨p, a, b, n, rfl, e, ha, hb, hc, n0, n1, fun a' b' r h1 h2 h3 h4 h5 => k r _ h4 h5 ⟨a', b', upd_same, h1, h2, h3⟩ Off.lock ⟨_, rfl⟩⟩
end My
namespace My
open PySem L2 U StX PM
theorem paired_at {α β : Type} {R : α → β → Prop} {xs : List α} {ys : List β} (h : Paired R xs ys) {i : Nat} {x : α} (e : xs[i]? = some x) : ∃ y, ys[i]? = some y ∧ R x y := by
  induction h generalizing i with
  | nil => cases e
  | cons r _ ih =>
    cases i with
    | zero => cases e; exact ⟨_, rfl, r⟩
    | succ i => exact ih e
theorem paired_len {α β : Type} {R : α → β → Prop} {xs : List α} {ys : List β} (h : Paired R xs ys) : xs.length = ys.length := by
  induction h with
  | nil => rfl
  | cons _ _ ih => rw [List.length_cons, List.length_cons, ih]
theorem PoolAt.put {H : Hp} {p q : Addr} {o : HO} (h : PoolAt H p) (n : p ≠ q) : PoolAt (upd H q o) p := by
  obtain ⟨a, b, e, r⟩ := h
  exact ⟨a, b, by rw [upd_ne n]; exact e, r⟩
theorem paired_snoc {α β : Type} {R : α → β → Prop} {xs : List α} {ys : List β} (h : Paired R xs ys) {x : α} {y : β} (r : R x y) : Paired R (xs ++ [x]) (ys ++ [y]) := by
  induction h with
  | nil => exact .cons r .nil
  | cons a _ ih => exact .cons a ih
theorem draw_R {i : Nat} {tb : TE} {σ : L2.St} {H : Hp} {Q : VK} {p : Addr} {n : Int} (hi : σ[i]? = some (some (.ref p))) (hb : ∀ R : VK, R (.int n) H → tb σ H R) (h : PoolAt H p) (n0 : 0 < n) (n1 : n < 1073741824)
    (k : ∀ r H', 0 ≤ r → r < n → PoolAt H' p → Off p H H' → Q (.int r) H') : tCallR spDraw E0 (tCons (tVar i) (tCons tb tNil)) σ H Q :=
  ⟨_, hi, hb _ (draw_of (E := E0) h n0 n1 fun r H' h1 h2 h3 h4 _ => k r H' h1 h2 h3 h4)⟩
theorem dgetL {H : Hp} {d : Addr} {l : List (Int × Int)} {f : PF} (h : H d = some (.dK (kvI l))) (di : DI l f) (i : Int) : DGet H d (.int i) ((f i).map V.int) := by
  have := DGet.k (k := Sum.inl i) h
  rw [valV_kvI, di.at_] at this
  exact this
theorem lay_all {k : Nat} {ds : List PyData} (h : ∀ d ∈ ds, PyData.canLay0 d = true ∧ PyData.depth d ≤ k) : PyData.canLayAll0 ds = true ∧ PyData.depthAll ds ≤ k := by
  induction ds with
  | nil => exact ⟨rfl, Nat.zero_le _⟩
  | cons p l ih =>
    obtain ⟨h1, h2⟩ := h p List.mem_cons_self
    obtain ⟨i1, i2⟩ := ih fun d hd => h d (List.mem_cons_of_mem _ hd)
    refine ⟨?_, ?_⟩
    · show (PyData.canLay0 p && PyData.canLayAll0 l) = true
      rw [i1, h1]; rfl
    · show max (PyData.depth p) (PyData.depthAll l) ≤ k
      omega
theorem shaped_all {ds : List PyData} (h : ∀ d ∈ ds, PyData.canLay0 d = true ∧ PyData.depth d ≤ 60) : SeqAt.shaped (.list ds) = true := by
  unfold SeqAt.shaped
  have h := lay_all h
  rw [Bool.and_eq_true]
  refine ⟨h.1, decide_eq_true ?_⟩
  show PyData.depthAll ds + 1 ≤ 64
  omega
theorem at_nat {xs : List V} {c : Int} (h0 : 0 ≤ c) (h1 : c.toNat < xs.length) : ∃ v, atI xs c = some v ∧ v ∈ xs := by
  obtain ⟨v, hv⟩ : ∃ v, xs[c.toNat]? = some v := ⟨_, List.getElem?_eq_getElem h1⟩
  have := atI_nat hv
  rw [show ((c.toNat : Nat) : Int) = c by omega] at this
  exact ⟨v, this, List.mem_of_getElem? hv⟩
theorem cut1 (v0 : V) (r : List V) : cutV (v0 :: r) (some 1) none = r ∧ ¬ (HT.sIx (v0 :: r).length 0 (some 1) = 0 ∧ HT.sIx (v0 :: r).length (v0 :: r).length none = (v0 :: r).length) := by
  have h : HT.sIx (v0 :: r).length 0 (some 1) = 1 := by
    show (if (1 : Int) < 0 then ((1 : Int) + (((v0 :: r).length : Nat) : Int)).toNat else min (1 : Int).toNat (v0 :: r).length) = 1
    rw [if_neg (by decide), List.length_cons]
    show min 1 _ = 1
    omega
  constructor
  · unfold cutV
    rw [h, HT.sIx_none]
    show r.take ((v0 :: r).length - 1) = r
    rw [List.length_cons, Nat.add_sub_cancel, List.take_length]
  · rintro ⟨h1, _⟩
    rw [h] at h1
    cases h1
theorem di_lenN {n : Int} {l : List (Int × Int)} {f : PF} (di : DI l f) (wf : WF n f) : l.length ≤ n.toNat := by
  have := len_range (l := l.map (·.1)) (n := n) di.nd fun x hx => by
    obtain ⟨⟨x', y'⟩, h1, rfl⟩ := List.mem_map.mp hx
    have := wf.dom x' y' (di.mem.mp h1)
    exact ⟨this.1, this.2.1⟩
  rwa [List.length_map] at this
end My
namespace My
open PySem L2 U StX PM
/-! ### a map as a text -/
def dI (l : List (Int × Int)) : PyData := flatD (kvI l) (l.map fun p => .int p.2)
theorem dI_eq (l : List (Int × Int)) : dI l = .dict (l.map fun p => (PyData.int p.1, PyData.int p.2)) := by
  unfold dI flatD kvI
  rw [List.map_map]
  congr 1
  induction l with
  | nil => rfl
  | cons p r ih =>
    rw [List.map_cons, List.map_cons, List.map_cons, List.zip_cons_cons, ih]
    rfl
theorem dI_sc : ∀ (l : List (Int × Int)), Paired (fun kv d => Sc kv.2 d) (kvI l) (l.map fun p => PyData.int p.2)
  | [] => .nil
  | p :: r => .cons (.int p.2) (dI_sc r)
def small (i : Int) : Prop := i.natAbs < 1000000000
theorem small_log {i : Int} (h : small i) : i.natAbs.log2 < 1920 := by
  unfold small at h
  by_cases h0 : i.natAbs = 0
  · rw [h0]; decide
  · rw [Nat.log2_lt h0]
    exact Nat.lt_of_lt_of_le h (by decide)
theorem small_len {i : Int} (h : small i) : (Str.ofString (toString i)).length ≤ 10 := by
  have := int_text_length_le10 (a := i) (k := 9) (by decide) h
  rw [ofString_length]
  omega
def rowT (p : Int × Int) : Str := PyData.shown (.int p.1) ++ ": " ++ PyData.shown (.int p.2)
theorem dI_shown (l : List (Int × Int)) : (dI l).shown = dictText (l.map rowT) := by
  rw [dI_eq]
  simp only [PyData.shown]
  congr 1
  induction l with
  | nil => rfl
  | cons p r ih =>
    rw [List.map_cons, List.map_cons]
    simp only [PyData.shownKv]
    rw [ih]
    rfl
theorem rowT_len {p : Int × Int} (h1 : small p.1) (h2 : small p.2) : (rowT p).length ≤ 22 := by
  have a := small_len h1
  have b := small_len h2
  unfold rowT
  simp only [PyData.shown]
  rw [strLen_append, strLen_append]
  show _ + 2 + _ ≤ 22
  omega
theorem sum_le {l : List Nat} {B : Nat} (h : ∀ x ∈ l, x ≤ B) : l.sum ≤ l.length * B := by
  induction l with
  | nil => exact Nat.zero_le _
  | cons a r ih =>
    rw [List.sum_cons, List.length_cons, Nat.succ_mul]
    have := ih fun x hx => h x (List.mem_cons_of_mem _ hx)
    have := h a List.mem_cons_self
    omega
theorem dI_len {l : List (Int × Int)} (h : ∀ p ∈ l, small p.1 ∧ small p.2) (hl : l.length ≤ 1000) : (dI l).shown.length ≤ 30000 := by
  rw [dI_shown]
  have h1 := dictText_len_le (l.map rowT)
  have h2 : ((l.map rowT).map (·.length)).sum ≤ ((l.map rowT).map (·.length)).length * 22 := sum_le fun x hx => by
    rw [List.map_map] at hx
    obtain ⟨p, hp, rfl⟩ := List.mem_map.mp hx
    exact rowT_len (h p hp).1 (h p hp).2
  rw [List.length_map, List.length_map] at h2
  rw [List.length_map] at h1
  omega
theorem dI_able {l : List (Int × Int)} (h : ∀ p ∈ l, small p.1 ∧ small p.2) : (dI l).showable = true := by
  rw [dI_eq]
  simp only [PyData.showable]
  induction l with
  | nil => rfl
  | cons p r ih =>
    rw [List.map_cons]
    simp only [PyData.showableKv, PyData.showable]
    have := h p List.mem_cons_self
    rw [ih fun q hq => h q (List.mem_cons_of_mem _ hq), decide_eq_true (small_log this.1), decide_eq_true (small_log this.2)]
    rfl
theorem dI_depth (l : List (Int × Int)) : (dI l).depth ≤ 60 := by
  rw [dI_eq]
  show PyData.depthKv (l.map fun p => (PyData.int p.1, PyData.int p.2)) + 1 ≤ 60
  have : PyData.depthKv (l.map fun p => (PyData.int p.1, PyData.int p.2)) = 0 := by
    induction l with
    | nil => rfl
    | cons p r ih =>
      rw [List.map_cons]
      show max (max 0 0) (PyData.depthKv (r.map fun p => (PyData.int p.1, PyData.int p.2))) = 0
      rw [ih]
      rfl
  omega
def reprM (n : Int) (l : List (Int × Int)) : Str := Str.empty ++ "Map(" ++ toString n ++ ", " ++ (dI l).shown ++ ")"
theorem tab_small {n : Int} {f : PF} (wf : WF n f) (h : n ≤ 300) : ∀ p ∈ tab n f, small p.1 ∧ small p.2 := by
  rintro ⟨x, y⟩ hp
  have := wf.dom x y ((mem_tab wf).mp hp)
  unfold small
  constructor <;> (dsimp only; omega)
def spRepr (C : Addr) : Sp := fun vs H Q _ => ∃ a n f, vs = [.ref a] ∧ IsMap C H a n f ∧ ((reprM n (tab n f)).length ≤ 40000 → Q (.str (reprM n (tab n f))) H)
section
variable {P : Program} {w : World} {K : PySem.W.Frag} {mg : Str → Option Value} {base : Heap}
theorem ok_repr (T : Txt K mg) : FnG P w K mg base CX0 5 T.f_Map__repr (spRepr T.C_Map) := by
  refine T.A_Map__repr.okG sc_Map__repr (fun vs H Q E h => ?_) (fun cdv A outer s H vs Q E gd hr h => ?_)
  · obtain ⟨a, n, f, rfl, _⟩ := h
    rfl
  · obtain ⟨a, n, f, rfl, ha, q⟩ := h
    refine ⟨_, pss_one (ps_ret (pe_joined (.cons pe_str (.cons (pe_fmt (pe_fld (pv 0) rfl)) (.cons pe_str (.cons (pe_fmtF gd hr.units (pe_fld (pv 0) rfl)) (.cons pe_str .nil))))))), ?_⟩
    obtain ⟨dx, D, h1, h2⟩ := id ha.ob
    have hn : small n := by have := ha.lo; have := ha.hi; unfold small; omega
    have hs := tab_small ha.wf ha.hi
    have tl := tab_len n f
    have h9 := ha.hi
    have l1 := small_len hn
    have l2 := dI_len hs (by omega)
    have e1 : (Str.empty ++ Str.ofString "Map(").length = 4 := rfl
    have e2 : (Str.empty ++ Str.ofString "Map(" ++ Str.ofString (toString n)).length = 4 + (Str.ofString (toString n)).length := by rw [strLen_append, e1]
    have e3 : (Str.empty ++ Str.ofString "Map(" ++ Str.ofString (toString n) ++ Str.ofString ", ").length = 4 + (Str.ofString (toString n)).length + 2 := by rw [strLen_append, e2]; rfl
    have e4 : (Str.empty ++ Str.ofString "Map(" ++ Str.ofString (toString n) ++ Str.ofString ", " ++ (dI (tab n f)).shown).length = 4 + (Str.ofString (toString n)).length + 2 + (dI (tab n f)).shown.length := by rw [strLen_append, e3]
    have e5 : (Str.empty ++ Str.ofString "Map(" ++ Str.ofString (toString n) ++ Str.ofString ", " ++ (dI (tab n f)).shown ++ Str.ofString ")").length = 4 + (Str.ofString (toString n)).length + 2 + (dI (tab n f)).shown.length + 1 := by rw [strLen_append, e4]; rfl
    have big : 50000 ≤ sizeLine := by decide
    refine ⟨_, rfl, by rw [e1]; omega, ?_⟩
    refine ⟨_, rfl, a, _, dx, _, _, rfl, h1, T.o_Map.cl, T.na_own_size_Map, flds_size _ _, .inr ⟨n, rfl, small_log hn, _, rfl, by rw [e2]; omega, ?_⟩⟩
    refine ⟨_, rfl, by rw [e3]; omega, ?_⟩
    refine ⟨_, rfl, a, _, dx, _, _, rfl, h1, T.o_Map.cl, T.na_own_arrows_Map, flds_arrows _ _, D, kvI (tab n f), _, rfl, h2, dI_sc _, dI_able hs, dI_depth _, Nat.le_trans l2 (by omega), _, rfl, by rw [show (flatD (kvI (tab n f)) ((tab n f).map fun p => PyData.int p.2)) = dI (tab n f) from rfl, e4]; omega, ?_⟩
    refine ⟨_, rfl, by rw [show (flatD (kvI (tab n f)) ((tab n f).map fun p => PyData.int p.2)) = dI (tab n f) from rfl, e5]; omega, ?_⟩
    exact q (by unfold reprM; rw [e5]; omega)
/-! ### == with any value -/
end
end My
namespace My
open PySem L2 U StX PM
theorem nonMapV.same {H H' : Hp} {x : V} (h : nonMapV H x) (s : L2.Same H H') : nonMapV H' x := by
  cases x with
  | ref b =>
    rcases h with ⟨xs, e⟩ | ⟨xs, e⟩ | ⟨xs, e⟩
    · exact .inl ⟨_, s _ _ e⟩
    · exact .inr (.inl ⟨_, s _ _ e⟩)
    · exact .inr (.inr ⟨_, s _ _ e⟩)
  | _ => exact h
end My
namespace My
open PySem L2 U StX PM
/-! ### dict([(a, b) for x, y in d.items() if ..]) -/
theorem _root_.PySem.Paired.map {α β : Type} {R S : α → β → Prop} : ∀ {xs : List α} {ys : List β}, Paired R xs ys → (∀ x ∈ xs, ∀ y, R x y → S x y) → Paired S xs ys
  | _, _, .nil, _ => .nil
  | _, _, .cons h r, k => .cons (k _ List.mem_cons_self _ h) (PySem.Paired.map r fun x hx => k x (List.mem_cons_of_mem _ hx))
theorem madeI_step {c : Int → Int → Bool} {kf vi : Int → Int → Int} {l : List (Int × Int)} {i : Nat} {x y : Int} (h : l[i]? = some (x, y)) :
    madeI c kf vi (l.take (i + 1)) = madeI c kf vi (l.take i) ++ (if c x y = true then [(kf x y, vi x y)] else []) := by
  rw [take_more h]
  unfold madeI
  rw [List.filter_append, List.map_append]
  by_cases hc : c x y = true
  · simp [hc]
  · have hc' : c x y = false := by simpa using hc
    simp [hc']
theorem dict_of {m : List (Int × Int)} {g : PF} (di : DI m g) : ∃ l, mergeK [] (kvI m) = kvI l ∧ l.length ≤ m.length ∧ DI l g := by
  obtain ⟨l', e', n', d', k'⟩ := merge_lk m [] di.nd
  refine ⟨l', e', by simpa using n', d' (by simp), fun z => ?_⟩
  rw [k', ← di.at_]
  cases lk m z <;> rfl
/-- dict(..) of such a list -/
theorem dictP_of {K : PySem.W.Frag} {H : Hp} {D : Addr} {ps : List Addr} {m : List (Int × Int)} {Q : VK} {g : PF} (hD : H D = some (.lst (ps.map V.ref))) (hp : Paired (fun p (kv : Key × V) => H p = some (.tup [kV kv.1, kv.2])) ps (kvI m)) (di : DI m g)
    (hq : ∀ p l, H p = none → l.length ≤ m.length → DI l g → Q (.ref p) (upd H p (.dK (kvI l)))) :
    ∃ (a : Addr) (ps : List Addr) (kvs : List (Key × V)), [V.ref D] = [.ref a] ∧ SqL K H a (ps.map V.ref) ∧ Paired (fun p kv => SqT K H p [kV kv.1, kv.2]) ps kvs ∧ ∀ p, H p = none → Q (.ref p) (upd H p (.dK (mergeK [] kvs))) := by
  refine ⟨D, ps, _, rfl, SqL.of hD, hp.map fun p _ kv e => SqT.of e, fun p np => ?_⟩
  obtain ⟨l', e', n', d', k'⟩ := merge_lk m [] di.nd
  have e2 : mergeK [] (kvI m) = kvI l' := e'
  rw [e2]
  refine hq p l' np (by simpa using n') ⟨d' (by simp), fun z => ?_⟩
  rw [k', ← di.at_]
  cases lk m z <;> rfl
section
variable {P : Program} {w : World} {K : PySem.W.Frag} {mg : Str → Option Value} {base : Heap}
def spTimes : Sp := fun vs H Q _ => ∃ (d1 d2 : Addr) (l1 l2 : List (Int × Int)) (n : Int) (f g : PF), vs = [.ref d1, .ref d2] ∧ H d1 = some (.dK (kvI l1)) ∧ H d2 = some (.dK (kvI l2)) ∧ DI l1 f ∧ DI l2 g ∧ WF n f ∧ WF n g ∧ l1.length ≤ 1000 ∧
  ∀ p l H', Same H H' → H p = none → H' p = some (.dK (kvI l)) → DI l (mul f g) → l.length ≤ l1.length → Q (.ref p) H'
theorem mul_diL {l1 : List (Int × Int)} {f g : PF} (d1 : DI l1 f) : DI (madeI (fun _ y => (g y).isSome) (fun x _ => x) (fun _ y => (g y).getD 0) l1) (mul f g) := by
  refine di_of (nd_src d1.nd) fun a b => ?_
  rw [mem_madeI, mul_iff]
  constructor
  · rintro ⟨x, y, h1, h2, rfl, rfl⟩
    refine ⟨y, d1.mem.mp h1, ?_⟩
    cases hg : g y with
    | none => rw [hg] at h2; cases h2
    | some z => rfl
  · rintro ⟨y, h1, h2⟩
    exact ⟨a, y, d1.mem.mpr h1, by rw [h2]; rfl, rfl, by rw [h2]; rfl⟩
def spBack : Sp := fun vs H Q _ => ∃ (d : Addr) (l1 : List (Int × Int)) (n : Int) (f : PF), vs = [.ref d] ∧ H d = some (.dK (kvI l1)) ∧ DI l1 f ∧ WF n f ∧ l1.length ≤ 1000 ∧
  ∀ p l H', Same H H' → H p = none → H' p = some (.dK (kvI l)) → DI l (inv n f) → l.length ≤ l1.length → Q (.ref p) H'
theorem back_diL {n : Int} {l1 : List (Int × Int)} {f : PF} (wf : WF n f) (d1 : DI l1 f) : DI (madeI (fun _ _ => true) (fun _ y => y) (fun x _ => x) l1) (inv n f) := by
  refine di_of (nd_tgt (d1.vals wf)) fun a b => ?_
  rw [mem_madeI, inv_iff wf]
  constructor
  · rintro ⟨x, y, h1, _, rfl, rfl⟩
    exact d1.mem.mp h1
  · intro h
    exact ⟨b, a, d1.mem.mpr h, rfl, rfl, rfl⟩
end
end My
namespace My
open PySem L2 U StX PM
/-- [(a, b) for x in range(n)] -/
theorem lc_rangeT {wi : TI} {i : Nat} {tv : TE} {vs : List Nat} {σ : L2.St} {H0 H : Hp} {Q : VK} {n : Nat} (kf vi : Nat → Int) (hwi : ∀ R : It → Hp → Prop, R (Itr 0 n) H → wi σ H0 R)
    (hw : ∀ a, wipe ((wipe σ vs).set i a) vs = wipe σ vs) (hn : n < sizeLine)
    (hb : ∀ k : Nat, k < n → ∀ H1, L2.Same H H1 → ∀ R : VK, (∀ p, H1 p = none → R (.ref p) (upd H1 p (.tup [.int (kf k), .int (vi k)]))) → tv ((wipe σ vs).set i (some (.int (0 + (k : Nat))))) H1 R)
    (hq : ∀ (D : Addr) (ps : List Addr) (H' : Hp), H D = none → H' D = some (.lst (ps.map V.ref)) → Paired (fun p (kv : Key × V) => H' p = some (.tup [kV kv.1, kv.2])) ps (kvI ((List.range n).map fun k => (kf k, vi k))) → L2.Same H H' → Q (.ref D) H') :
    tLc wi (gName i) tYes tv vs σ H0 Q := by
  refine hwi _ fun D hD => ?_
  refine lc_it (walk_range (lo := 0)) (fun k H' => L2.Same H H' ∧ ∃ ps : List Addr, H' D = some (.lst (ps.map V.ref)) ∧ ps.length = k ∧ (∀ p ∈ ps, p ≠ D) ∧ Paired (fun p (kv : Key × V) => H' p = some (.tup [kV kv.1, kv.2])) ps (kvI ((List.range k).map fun k => (kf k, vi k))))
    ⟨Same.new hD, [], upd_same, rfl, (fun p h => nomatch h), .nil⟩ (fun _ _ _ _ => trivial) ?_ ?_
  · rintro k v H' H'' hk ⟨s1, ps, e1, hl, hne, hp⟩ ⟨rfl, rfl⟩
    refine ⟨hw _, yes_ ?_⟩
    refine hb k hk _ s1 _ fun p np => ?_
    have hpD : p ≠ D := (ne_of_none e1 np).symm
    refine ⟨_, by rw [upd_ne hpD.symm]; exact e1, by rw [List.length_map, hl]; omega, Same.put (s1.trans (Same.new np)) hD, ps ++ [p], by rw [upd_same, List.map_append]; rfl, by simp [hl], fun q hq' => ?_, ?_⟩
    · rcases List.mem_append.mp hq' with h | h
      · exact hne q h
      · rw [List.mem_singleton] at h; subst h; exact hpD
    · rw [List.range_succ, List.map_append, show kvI ((List.range k).map (fun k => (kf k, vi k)) ++ [k].map fun k => (kf k, vi k)) = kvI ((List.range k).map fun k => (kf k, vi k)) ++ [(Sum.inl (kf k), V.int (vi k))] from by unfold kvI; rw [List.map_append]; rfl]
      refine PySem.Paired.snoc (hp.map fun q hq' kv e => ?_) ?_
      · rw [upd_ne (hne q hq'), upd_ne (ne_of_none e np)]; exact e
      · rw [upd_ne hpD]; exact upd_same
  · rintro H' ⟨s1, ps, e1, hl, hne, hp⟩
    exact hq D ps H' hD e1 hp s1
theorem id_di (n : Nat) : DI ((List.range n).map fun k => (((k : Nat) : Int), ((k : Nat) : Int))) (idn (n : Int)) := by
  refine di_of ?_ fun x y => ?_
  · rw [List.map_map]
    have := nodup_of_lt (rgI_lt n)
    exact this
  · rw [idn_iff]
    constructor
    · intro h
      obtain ⟨k, hk, e⟩ := List.mem_map.mp h
      rw [List.mem_range] at hk
      cases e
      omega
    · rintro ⟨rfl, h1, h2⟩
      exact List.mem_map.mpr ⟨x.toNat, List.mem_range.mpr (by omega), by simp; omega⟩
end My
namespace My
open PySem L2 U StX PM
/-! ### texts of plain signs -/
def OkS (x : Str) : Prop := PyData.strOk x = true
end My
namespace My
open PySem L2 U StX PM
/-! ### steps -/
def isTp (H : Hp) : V → Prop | .ref a => ∃ xs, H a = some (.tup xs) | _ => False
def isSt : V → Bool | .str _ => true | _ => false
def nth (xs : List V) (i : Nat) : V := (xs[i]?).getD .non
/-- what is_step says of a tuple -/
def stepB (n : Int) (xs : List V) : Bool :=
  decide (2 ≤ xs.length) && (isSt (nth xs 0) && ((xs.drop 1).all (fun y => inR y 0 (n - 1)) &&
    (if nth xs 0 = .str "swap" then decide (xs.length = 3) && !decide (nth xs 1 = nth xs 2) else decide (nth xs 0 = .str "forget") && decide (xs.length = 2))))
/-- [.. for x in a tuple] -/
theorem lc_tup {K : PySem.W.Frag} {te : TE} {i : Nat} {tv : TE} {vs : List Nat} {σ : L2.St} {H : Hp} {Q : VK} {xs : List V} (vf : V → V) (hte : ∀ R : VK, (∀ a H', H' a = some (.tup xs) → L2.Same H H' → R (.ref a) H') → te σ H R) (hw : ∀ a, wipe ((wipe σ vs).set i a) vs = wipe σ vs)
    (hb : ∀ x ∈ xs, ∀ H1, L2.Same H H1 → ∀ R : VK, R (vf x) H1 → tv ((wipe σ vs).set i (some x)) H1 R) (hz : xs.length < sizeLine)
    (hq : ∀ D H', H D = none → H' D = some (.lst (xs.map vf)) → L2.Same H H' → Q (.ref D) H') : tLc (iTup K te) (gName i) tYes tv vs σ H Q := by
  refine hte _ fun a H0 ha s0 => ⟨a, rfl, ⟨_, SqT.of ha⟩, fun D hD => ?_⟩
  refine lc_it (walk_tup (xs := xs)) (fun k H' => L2.Same H0 H' ∧ H' D = some (.lst ((xs.take k).map vf))) ⟨Same.new hD, upd_same⟩ (fun k H' _ p => SqT.of (p.1 _ _ ha)) ?_ ?_
  · rintro k v H' H'' hk ⟨s1, e1⟩ ⟨rfl, ev⟩
    refine ⟨hw _, yes_ ?_⟩
    refine hb v (List.mem_of_getElem? ev) _ (s0.trans s1) _ ⟨_, e1, ?_, Same.put s1 hD, ?_⟩
    · rw [List.length_map]
      exact Nat.lt_of_le_of_lt (by rw [List.length_take]; omega) hz
    · rw [upd_same, take_more ev, List.map_append]
      rfl
  · rintro H' ⟨s1, e1⟩
    rw [List.take_length] at e1
    exact hq D H' (s0.free hD) e1 (s0.trans s1)
theorem dec_len (l : Nat) (k : Nat) : decide (V.int (l : Int) = V.int (k : Int)) = decide (l = k) := by
  by_cases h : l = k
  · subst h; simp
  · have : ¬ V.int (l : Int) = V.int (k : Int) := fun z => h (by have := V.int.inj z; omega)
    simp [h, this]
theorem ifn_cb {r : List V → Hp → VK → Prop} {t : TE} {A B : TS} {D : Ends} {σ : L2.St} {H : Hp} (h : t σ H fun x H1 => r [x] H1 fun v H2 => ∃ c, v = .bl c ∧ if (!c) = true then A D σ H2 else B D σ H2) : tIfS (tNot (tB (tCB r (tCons t tNil)))) A B D σ H := h
section
variable {P : Program} {w : World} {K : PySem.W.Frag} {mg : Str → Option Value} {base : Heap}
/-- the type of a known value, and what isinstance says of it -/
theorem ty_step (T : Txt K mg) {H : Hp} {x : V} (h : knownV T.C_Map H x) : ∃ t, TyX K H x t ∧ PySem.W.kitOne K t (.type "str") = some (isSt x) ∧ (∃ b, PySem.W.kitOne K t (.type "tuple") = some b ∧ (b = true ↔ isTp H x)) := by
  cases x with
  | non => exact ⟨_, .base .non, kit_ty (r := false) (by decide +kernel), false, kit_ty (r := false) (by decide +kernel), by simp [isTp]⟩
  | bl b => exact ⟨_, .base (.bl b), kit_ty (r := false) (by decide +kernel), false, kit_ty (r := false) (by decide +kernel), by simp [isTp]⟩
  | int i => exact ⟨_, .base (.int i), kit_ty (r := false) (by decide +kernel), false, kit_ty (r := false) (by decide +kernel), by simp [isTp]⟩
  | str z => exact ⟨_, .base (.str z), kit_ty (r := true) (by decide +kernel), false, kit_ty (r := false) (by decide +kernel), by simp [isTp]⟩
  | ref a =>
    rcases h with ⟨xs, e⟩ | ⟨xs, e⟩ | ⟨xs, e⟩ | ⟨dx, fs, e⟩
    · exact ⟨_, .base (.lst e), kit_ty (r := false) (by decide +kernel), false, kit_ty (r := false) (by decide +kernel), by simp [isTp, e]⟩
    · exact ⟨_, .base (.tup e), kit_ty (r := false) (by decide +kernel), true, kit_ty (r := true) (by decide +kernel), by simp [isTp, e]⟩
    · exact ⟨_, .base (.dK e), kit_ty (r := false) (by decide +kernel), false, kit_ty (r := false) (by decide +kernel), by simp [isTp, e]⟩
    · exact ⟨_, tyx_ins T.o_Map e, T.kit_str_Map, false, T.kit_tuple_Map, by simp [isTp, e]⟩
  | byt b => exact h.elim
  | flt b => exact h.elim
  | ty b => exact h.elim
def spStep (C : Addr) : Sp := fun vs H Q _ => ∃ n x, vs = [.int n, x] ∧ knownV C H x ∧ ((¬ isTp H x ∧ Q (.bl false) H) ∨ ∃ a xs, x = .ref a ∧ H a = some (.tup xs) ∧ (∀ y ∈ xs, knownV C H y) ∧ xs.length ≤ 100 ∧ ∀ H', Same H H' → Q (.bl (stepB n xs)) H')
theorem knownV.same {C : Addr} {H H' : Hp} {x : V} (h : knownV C H x) (s : Same H H') : knownV C H' x := by
  cases x with
  | ref a =>
    rcases h with ⟨xs, e⟩ | ⟨xs, e⟩ | ⟨xs, e⟩ | ⟨dx, fs, e⟩
    · exact .inl ⟨_, s _ _ e⟩
    · exact .inr (.inl ⟨_, s _ _ e⟩)
    · exact .inr (.inr (.inl ⟨_, s _ _ e⟩))
    · exact .inr (.inr (.inr ⟨_, _, s _ _ e⟩))
  | _ => exact h
theorem ok_is_step (T : Txt K mg) : FnR P w K mg base CX0 3 T.f_is_step (spStep T.C_Map) := by
  refine T.A_is_step.ok sc_is_step (fun vs H Q E h => ?_) (fun cdv A outer s H vs Q E hr h => ?_)
  · obtain ⟨n, x, rfl, _⟩ := h
    rfl
  · obtain ⟨n, x, rfl, hk, h⟩ := h
    have hu := hu_of hr
    refine ⟨_, (pss_cons (ps_if (PW.pt (pw_or (pt_not (pt_val (pe_callB call_isi (by rfl) T.n_isinstance (by decide +kernel) (pa_cons (pv 1) (pa_cons (pe_bltn (v := .ty "tuple") (u := .type "tuple") (by rfl) T.n_tuple (by decide +kernel) rfl) pa_nil))))) (pw_or (pt_cmpR op_lt (pe_callB call_len_seq (by rfl) T.n_len (by decide +kernel) (pa_cons (pv 1) pa_nil)) pe_int (nomark _)) (pw_or1 (pt_not (pt_val (pe_callB call_isi (by rfl) T.n_isinstance (by decide +kernel) (pa_cons (pe_ix ix_tup (pv 1) pe_int (fun _ _ => rfl)) (pa_cons (pe_bltn (v := .ty "str") (u := .type "str") (by rfl) T.n_str (by decide +kernel) rfl) pa_nil)))))))))
        (pss_one (ps_ret pe_bl)) pss_nil)
      (pss_cons (ps_if (pt_not (pt_val (pe_callB (cr_all rfl) (by rfl) T.n_all (by decide +kernel) (pa_cons (pe_lc (own := [("element", 2)]) (g := (gName 2)) (tt := tYes) rfl sc_is_step.nd (pi_tup (pe_slice sl_tup (pv 1) (po_some pe_int) po_none)) (blkOk_by (own := [("element", 2)]) (N := n_is_step) (sc := defScope s_is_step) (by decide +kernel)) (fun _ _ _ _ _ => (pg_name (i := 2) sc_is_step.nd rfl (Or.inl rfl))) (fun _ _ _ _ _ => pts_nil) (fun _ _ _ _ _ => (pe_callR (ok_in_range T) (hr.mono (by decide)) T.A_in_range.kp rfl T.g_in_range pass0 (pa_cons (pv 2) (pa_cons pe_int (pa_cons (pe_op op_sub (pv 0) pe_int) pa_nil)))))) pa_nil))))
        (pss_one (ps_ret pe_bl)) pss_nil)
      (pss_cons (ps_if (pt_cmpR op_eq (pe_ix ix_tup (pv 1) pe_int (fun _ _ => rfl)) pe_str (nomark _))
        (pss_one (ps_ret (pe_and (pe_cmpR op_eq (pe_callB call_len_seq (by rfl) T.n_len (by decide +kernel) (pa_cons (pv 1) pa_nil)) pe_int (nomark _)) (pe_one (pe_cmpR op_ne (pe_ix ix_tup (pv 1) pe_int (fun _ _ => rfl)) (pe_ix ix_tup (pv 1) pe_int (fun _ _ => rfl)) (nomark _)))))) pss_nil)
      (pss_one (ps_ret (pe_and (pe_cmpR op_eq (pe_ix ix_tup (pv 1) pe_int (fun _ _ => rfl)) pe_str (nomark _)) (pe_one (pe_cmpR op_eq (pe_callB call_len_seq (by rfl) T.n_len (by decide +kernel) (pa_cons (pv 1) pa_nil)) pe_int (nomark _))))))))), ?_⟩
    obtain ⟨t, ht, _, b, hb, hbi⟩ := ty_step T hk
    rcases h with ⟨hn, q⟩ | ⟨a, xs, rfl, hx, hel, hlen, q⟩
    · have : b = false := by
        cases b with
        | false => rfl
        | true => exact absurd (hbi.mp rfl) hn
      subst this
      exact ⟨_, rfl, x, _, t, _, _, rfl, .ty _, ht, hb, _, rfl, iteT (iteT q)⟩
    have : b = true := hbi.mpr ⟨xs, hx⟩
    subst this
    refine ⟨_, rfl, _, _, t, _, _, rfl, .ty _, ht, hb, _, rfl, iteF ?_⟩
    match xs, hx, hel, hlen, q with
    | [], hx, hel, hlen, q => exact ⟨_, rfl, a, [], rfl, .inr (SqT.of hx), _, _, rfl, rfl, _, rfl, iteT (iteT (q H (Same.refl _)))⟩
    | [v0], hx, hel, hlen, q => exact ⟨_, rfl, a, [v0], rfl, .inr (SqT.of hx), _, _, rfl, rfl, _, rfl, iteT (iteT (q H (Same.refl _)))⟩
    | v0 :: v1 :: rest, hx, hel, hlen, q =>
      refine ⟨_, rfl, a, _, rfl, .inr (SqT.of hx), _, _, rfl, rfl, _, rfl, ?_⟩
      have h2 : decide ((((v0 :: v1 :: rest).length : Nat) : Int) < 2) = false := decide_eq_false (by rw [List.length_cons, List.length_cons]; omega)
      rw [h2]
      refine iteF ?_
      obtain ⟨t0, ht0, hs0, _⟩ := ty_step T (hel v0 List.mem_cons_self)
      refine ⟨_, rfl, a, _, 0, v0, rfl, rfl, SqT.of hx, atI_nat (j := 0) rfl, v0, _, t0, _, _, rfl, .ty _, ht0, hs0, _, rfl, ?_⟩
      cases hst : isSt v0 with
      | false =>
        have e : stepB n (v0 :: v1 :: rest) = false := by
          unfold stepB
          rw [show nth (v0 :: v1 :: rest) 0 = v0 from rfl, hst, Bool.false_and, Bool.and_false]
        rw [e] at q
        exact iteT (q H (Same.refl _))
      | true =>
        refine iteF ?_
        dsimp only [tNext, tSeq]
        refine ifn_cb ?_
        obtain ⟨c1, c2⟩ := cut1 v0 (v1 :: rest)
        refine lc_tup (xs := v1 :: rest) (fun y => .bl (inR y 0 (n - 1))) (fun R rr => ⟨_, rfl, 1, rfl, a, _, rfl, SqT.of hx, c2, fun p hp => rr p _ (by rw [upd_same, c1]) (Same.new hp)⟩) (fun _ => rfl) (fun y hy H1 s1 R rr => ⟨_, rfl, _, rfl, _, _, rfl, rfl, y, 0, n - 1, rfl, (hel y (List.mem_cons_of_mem _ hy)).same s1, rr⟩) (small1000 (by simp only [List.length_cons] at hlen ⊢; omega)) (fun D H1 nD hD s1 => ?_)
        refine ⟨D, (v1 :: rest).map fun y => inR y 0 (n - 1), rfl, SqL.of (by rw [List.map_map]; exact hD), _, rfl, ?_⟩
        have hx1 := s1 _ _ hx
        have eall : (((v1 :: rest).map fun y => inR y 0 (n - 1)).all id) = ((v0 :: v1 :: rest).drop 1).all (fun y => inR y 0 (n - 1)) := by
          rw [List.all_map]; rfl
        rw [eall]
        have qs := q H1 s1
        unfold stepB at qs
        rw [show nth (v0 :: v1 :: rest) 0 = v0 from rfl, hst, Bool.true_and, decide_eq_true (show 2 ≤ (v0 :: v1 :: rest).length by rw [List.length_cons, List.length_cons]; omega), Bool.true_and] at qs
        cases hall : ((v0 :: v1 :: rest).drop 1).all (fun y => inR y 0 (n - 1)) with
        | false =>
          rw [hall, Bool.false_and] at qs
          exact iteT qs
        | true =>
          rw [hall, Bool.true_and] at qs
          refine iteF ?_
          obtain ⟨z, rfl⟩ : ∃ z, v0 = .str z := by
            cases v0 with
            | str z => exact ⟨z, rfl⟩
            | _ => cases hst
          refine ⟨_, rfl, a, _, 0, .str z, rfl, rfl, SqT.of hx1, atI_nat (j := 0) rfl, rfl, _, rfl, ?_⟩
          by_cases hz : V.str z = V.str "swap"
          · rw [if_pos hz] at qs
            rw [decide_eq_true hz]
            refine iteT ⟨_, rfl, a, _, rfl, .inr (SqT.of hx1), rfl, _, rfl, ?_⟩
            rw [show decide (V.int (((V.str z :: v1 :: rest).length : Nat) : Int) = V.int 3) = decide ((V.str z :: v1 :: rest).length = 3) from dec_len _ 3]
            cases hl3 : decide ((V.str z :: v1 :: rest).length = 3) with
            | false =>
              rw [hl3, Bool.false_and] at qs
              exact iteF qs
            | true =>
              rw [hl3, Bool.true_and] at qs
              have e3 := of_decide_eq_true hl3
              match rest, e3, hall, qs, hx1 with
              | [v2], _, hall, qs, hx1 =>
                obtain ⟨i1, rfl⟩ : ∃ i, v1 = .int i := by
                  simp only [List.drop_succ_cons, List.drop_zero, List.all_cons, Bool.and_eq_true] at hall
                  cases v1 with
                  | int i => exact ⟨i, rfl⟩
                  | _ => exact absurd hall.1 Bool.false_ne_true
                obtain ⟨i2, rfl⟩ : ∃ i, v2 = .int i := by
                  simp only [List.drop_succ_cons, List.drop_zero, List.all_cons, Bool.and_eq_true] at hall
                  cases v2 with
                  | int i => exact ⟨i, rfl⟩
                  | _ => exact absurd hall.2.1 Bool.false_ne_true
                exact iteT ⟨_, rfl, a, _, 1, .int i1, rfl, rfl, SqT.of hx1, rfl, _, rfl, a, _, 2, .int i2, rfl, rfl, SqT.of hx1, rfl, rfl, qs⟩
          · rw [if_neg hz] at qs
            rw [decide_eq_false hz]
            refine iteF ⟨_, rfl, a, _, 0, .str z, rfl, rfl, SqT.of hx1, atI_nat (j := 0) rfl, rfl, _, rfl, ?_⟩
            cases hf : decide (V.str z = V.str "forget") with
            | false =>
              rw [hf, Bool.false_and] at qs
              exact iteF qs
            | true =>
              rw [hf, Bool.true_and] at qs
              refine iteT ⟨_, rfl, a, _, rfl, .inr (SqT.of hx1), rfl, ?_⟩
              rw [show decide (V.int (((V.str z :: v1 :: rest).length : Nat) : Int) = V.int 2) = decide ((V.str z :: v1 :: rest).length = 2) from dec_len _ 2]
              exact qs
end
end My
namespace My
open PySem L2 U StX PM
def isLs (H : Hp) : V → Prop | .ref a => ∃ xs, H a = some (.lst xs) | _ => False
/-- what is_step says of a value -/
def StB (C : Addr) (n : Int) (H : Hp) (y : V) (b : Bool) : Prop := knownV C H y ∧ ((¬ isTp H y ∧ b = false) ∨ ∃ a xs, y = .ref a ∧ H a = some (.tup xs) ∧ (∀ z ∈ xs, knownV C H z) ∧ xs.length ≤ 100 ∧ b = stepB n xs)
theorem StB.same {C : Addr} {n : Int} {H H' : Hp} {y : V} {b : Bool} (h : StB C n H y b) (s : Same H H') : StB C n H' y b := by
  obtain ⟨hk, h⟩ := h
  refine ⟨hk.same s, ?_⟩
  rcases h with ⟨hn, e⟩ | ⟨a, xs, rfl, ha, hz, hl, e⟩
  · left
    refine ⟨?_, e⟩
    cases y with
    | ref a =>
      rcases hk with ⟨ys, e1⟩ | ⟨ys, e1⟩ | ⟨ys, e1⟩ | ⟨dx, fs, e1⟩
      · rintro ⟨zs, e2⟩
        rw [s _ _ e1] at e2; cases e2
      · exact absurd ⟨ys, e1⟩ hn
      · rintro ⟨zs, e2⟩
        rw [s _ _ e1] at e2; cases e2
      · rintro ⟨zs, e2⟩
        rw [s _ _ e1] at e2; cases e2
    | _ => exact id
  · exact .inr ⟨a, xs, rfl, s _ _ ha, fun z hz' => (hz z hz').same s, hl, e⟩
section
variable {P : Program} {w : World} {K : PySem.W.Frag} {mg : Str → Option Value} {base : Heap}
theorem ty_ls (T : Txt K mg) {H : Hp} {x : V} (h : knownV T.C_Map H x) : ∃ t, TyX K H x t ∧ ∃ b, PySem.W.kitOne K t (.type "list") = some b ∧ (b = true ↔ isLs H x) := by
  cases x with
  | non => exact ⟨_, .base .non, false, kit_ty (r := false) (by decide +kernel), by simp [isLs]⟩
  | bl b => exact ⟨_, .base (.bl b), false, kit_ty (r := false) (by decide +kernel), by simp [isLs]⟩
  | int i => exact ⟨_, .base (.int i), false, kit_ty (r := false) (by decide +kernel), by simp [isLs]⟩
  | str z => exact ⟨_, .base (.str z), false, kit_ty (r := false) (by decide +kernel), by simp [isLs]⟩
  | ref a =>
    rcases h with ⟨xs, e⟩ | ⟨xs, e⟩ | ⟨xs, e⟩ | ⟨dx, fs, e⟩
    · exact ⟨_, .base (.lst e), true, kit_ty (r := true) (by decide +kernel), by simp [isLs, e]⟩
    · exact ⟨_, .base (.tup e), false, kit_ty (r := false) (by decide +kernel), by simp [isLs, e]⟩
    · exact ⟨_, .base (.dK e), false, kit_ty (r := false) (by decide +kernel), by simp [isLs, e]⟩
    · exact ⟨_, tyx_ins T.o_Map e, false, T.kit_list_Map, by simp [isLs, e]⟩
  | byt b => exact h.elim
  | flt b => exact h.elim
  | ty b => exact h.elim
def spFI (C : Addr) : Sp := fun vs H Q _ => ∃ n x, vs = [.int n, x] ∧ knownV C H x ∧ ((¬ isLs H x ∧ ∀ t H', Same H H' → H' t = some (.tup [.non]) → Q (.ref t) H') ∨
  ∃ a ys k, x = .ref a ∧ H a = some (.lst ys) ∧ k ≤ ys.length ∧ (∀ i y, i < k → ys[i]? = some y → StB C n H y true) ∧
    ((k = ys.length ∧ ∀ H', Same H H' → Q .non H') ∨ ∃ y, ys[k]? = some y ∧ StB C n H y false ∧ ∀ t H', Same H H' → H' t = some (.tup [.int (k : Int)]) → Q (.ref t) H'))
theorem ok_first_invalid (T : Txt K mg) : FnR P w K mg base CX0 4 T.f_first_invalid (spFI T.C_Map) := by
  refine T.A_first_invalid.ok sc_first_invalid (fun vs H Q E h => ?_) (fun cdv A outer s H vs Q E hr h => ?_)
  · obtain ⟨n, x, rfl, _⟩ := h
    rfl
  · obtain ⟨n, x, rfl, hk, h⟩ := h
    refine ⟨_, (pss_cons (ps_if (pt_not (pt_val (pe_callB call_isi (by rfl) T.n_isinstance (by decide +kernel) (pa_cons (pv 1) (pa_cons (pe_bltn (v := .ty "list") (u := .type "list") (by rfl) T.n_list (by decide +kernel) rfl) pa_nil)))))
        (pss_one (ps_ret (pe_tup (pa_cons pe_non pa_nil)))) pss_nil)
      (pss_cons (ps_for PassesOwn.never rfl (pi_enum rfl T.n_enumerate (pa_cons (pv 1) pa_nil)) (pg_tup rfl (pgs_cons (pg_name (i := 2) sc_first_invalid.nd rfl (Or.inl rfl)) (pgs_cons (pg_name (i := 3) sc_first_invalid.nd rfl (Or.inl rfl)) pgs_nil)))
        (pss_one (ps_if (pt_not (pt_val (pe_callR (ok_is_step T) (hr.mono (by decide)) T.A_is_step.kp rfl T.g_is_step pass0 (pa_cons (pv 0) (pa_cons (pv 3) pa_nil)))))
        (pss_one (ps_ret (pe_tup (pa_cons (pv 2) pa_nil)))) pss_nil)))
      (pss_one (ps_ret pe_non)))), ?_⟩
    obtain ⟨t, ht, b, hb, hbi⟩ := ty_ls T hk
    rcases h with ⟨hn, q⟩ | ⟨a, ys, k, rfl, hx, hkl, hok, h⟩
    · have : b = false := by
        cases b with
        | false => rfl
        | true => exact absurd (hbi.mp rfl) hn
      subst this
      exact ⟨_, rfl, x, _, t, _, _, rfl, .ty _, ht, hb, _, rfl, iteT ⟨(by show 1 ≤ sizeLine; decide), fun p hp => q p _ (Same.new hp) upd_same⟩⟩
    have : b = true := hbi.mpr ⟨ys, hx⟩
    subst this
    refine ⟨_, rfl, _, _, t, _, _, rfl, .ty _, ht, hb, _, rfl, iteF ?_⟩
    refine ⟨_, rfl, a, ys, rfl, SqL.of hx, ?_⟩
    refine for_it (walk_enum (xs := ys)) (fun i σ H' => i ≤ k ∧ ∃ v2 v3, σ = [some (.int n), some (.ref a), v2, v3] ∧ Same H H')
      ⟨Nat.zero_le _, none, none, rfl, Same.refl _⟩ (fun i σ H' _ ⟨_, _, _, _, z⟩ => SqL.of (z _ _ hx)) ?_ ?_
    · rintro i v σ H' H'' hi ⟨hik, v2, v3, rfl, s1⟩ ⟨U, p, y, rfl, hU, rfl, e1, e2⟩
      cases e1
      replace e2 : ys[i]? = some y := e2
      have s2 := s1.trans (Same.new (o := .tup [.int (i : Nat), y]) hU)
      refine ⟨U, _, rfl, SqT.of upd_same, rfl, _, [_], rfl, _, [], rfl, rfl, ?_⟩
      have stp : ∀ b, StB T.C_Map n H y b → ∀ (R : VK) H1, Same H H1 → (∀ H2, Same H1 H2 → R (.bl b) H2) → spStep T.C_Map [.int n, y] H1 R E0 := fun b hb R H1 sx rr => by
        obtain ⟨hk1, h1⟩ := hb.same sx
        refine ⟨n, y, rfl, hk1, ?_⟩
        rcases h1 with ⟨hn, rfl⟩ | ⟨c, xs, rfl, hc, hz, hl, rfl⟩
        · exact .inl ⟨hn, rr _ (Same.refl _)⟩
        · exact .inr ⟨c, xs, rfl, hc, hz, hl, fun H2 s2 => rr H2 s2⟩
      by_cases hlt : i < k
      · refine ⟨_, rfl, _, rfl, ?_⟩
        dsimp only [tNil]
        refine stp true (hok i y hlt e2) _ _ s2 fun H2 s3 => ⟨_, rfl, iteF ?_⟩
        exact ⟨hlt, _, _, rfl, s2.trans s3⟩
      · have hik' : i = k := by omega
        subst hik'
        rcases h with ⟨hkk, _⟩ | ⟨y', ey, hy, q⟩
        · rw [hkk] at hi; omega
        rw [ey] at e2
        cases e2
        refine ⟨_, rfl, _, rfl, ?_⟩
        dsimp only [tNil]
        refine stp false hy _ _ s2 fun H2 s3 => ⟨_, rfl, iteT ⟨_, rfl, (by show 1 ≤ sizeLine; decide), fun t ht => ?_⟩⟩
        exact q t _ ((s2.trans s3).trans (Same.new ht)) upd_same
    · rintro σ H' ⟨hik, v2, v3, rfl, s1⟩
      rcases h with ⟨hkk, q⟩ | ⟨y', ey, hy, q⟩
      · exact q _ s1
      · have := (List.getElem?_eq_some_iff.mp ey).1
        omega
end
end My
namespace My
open PySem L2 U StX PM
/-! ### steps, plain -/
inductive Stp
  | sw (a b : Int)
  | fg (a : Int)
def Stp.vs : Stp → List V
  | .sw a b => [.str "swap", .int a, .int b]
  | .fg a => [.str "forget", .int a]
def Stp.ok (n : Int) : Stp → Prop
  | .sw a b => 0 ≤ a ∧ a < n ∧ 0 ≤ b ∧ b < n ∧ a ≠ b
  | .fg a => 0 ≤ a ∧ a < n
def stp1 (f : PF) : Stp → PF
  | .sw a b => fun x => (f x).map fun y => if y = a then b else if y = b then a else y
  | .fg a => fun x => if x = a then none else f x
def stps (f : PF) (l : List Stp) : PF := l.foldl stp1 f
theorem sw_iff {f : PF} {a b x z : Int} (h : a ≠ b) : stp1 f (.sw a b) x = some z ↔ (z = b ∧ f x = some a) ∨ (z = a ∧ f x = some b) ∨ (z ≠ a ∧ z ≠ b ∧ f x = some z) := by
  show ((f x).map fun y => if y = a then b else if y = b then a else y) = some z ↔ _
  cases e : f x with
  | none => simp
  | some y =>
    rw [Option.map_some, Option.some.injEq]
    by_cases h1 : y = a
    · subst h1
      rw [if_pos rfl]
      constructor
      · rintro rfl; exact .inl ⟨rfl, rfl⟩
      · rintro (⟨rfl, _⟩ | ⟨rfl, h2⟩ | ⟨h2, _, h3⟩)
        · rfl
        · cases h2; exact absurd rfl h
        · cases h3; exact absurd rfl h2
    · rw [if_neg h1]
      by_cases h2 : y = b
      · subst h2
        rw [if_pos rfl]
        constructor
        · rintro rfl; exact .inr (.inl ⟨rfl, rfl⟩)
        · rintro (⟨rfl, h3⟩ | ⟨rfl, _⟩ | ⟨_, h2, h3⟩)
          · cases h3; exact absurd rfl h
          · rfl
          · cases h3; exact absurd rfl h2
      · rw [if_neg h2]
        constructor
        · rintro rfl; exact .inr (.inr ⟨h1, h2, rfl⟩)
        · rintro (⟨rfl, h3⟩ | ⟨rfl, h3⟩ | ⟨_, _, h3⟩)
          · cases h3; exact absurd rfl h1
          · cases h3; exact absurd rfl h2
          · cases h3; rfl
theorem fg_iff {f : PF} {a x z : Int} : stp1 f (.fg a) x = some z ↔ x ≠ a ∧ f x = some z := by
  show (if x = a then none else f x) = some z ↔ _
  by_cases h : x = a
  · rw [if_pos h]; simp [h]
  · rw [if_neg h]; simp [h]
theorem wf_stp1 {n : Int} {f : PF} (w : WF n f) {s : Stp} (h : s.ok n) : WF n (stp1 f s) := by
  cases s with
  | fg a =>
    exact ⟨fun x y e => w.dom x y (fg_iff.mp e).2, fun x x' y e e' => w.inj x x' y (fg_iff.mp e).2 (fg_iff.mp e').2⟩
  | sw a b =>
    obtain ⟨h1, h2, h3, h4, h5⟩ := h
    refine ⟨fun x y e => ?_, fun x x' y e e' => ?_⟩
    · rcases (sw_iff h5).mp e with ⟨q, k⟩ | ⟨q, k⟩ | ⟨_, _, k⟩
      · have := w.dom x _ k; rw [q]; exact ⟨this.1, this.2.1, h3, h4⟩
      · have := w.dom x _ k; rw [q]; exact ⟨this.1, this.2.1, h1, h2⟩
      · exact w.dom x _ k
    · rcases (sw_iff h5).mp e with ⟨q, k⟩ | ⟨q, k⟩ | ⟨g1, g2, k⟩ <;> rcases (sw_iff h5).mp e' with ⟨q', k'⟩ | ⟨q', k'⟩ | ⟨g1', g2', k'⟩
      · exact w.inj _ _ _ k k'
      · exact absurd (q'.symm.trans q) h5
      · exact absurd q g2'
      · exact absurd (q.symm.trans q') h5
      · exact w.inj _ _ _ k k'
      · exact absurd q g1'
      · exact absurd q' g2
      · exact absurd q' g1
      · exact w.inj _ _ _ k k'
theorem wf_stps {n : Int} {l : List Stp} : ∀ {f : PF}, WF n f → (∀ s ∈ l, Stp.ok n s) → WF n (stps f l) := by
  induction l with
  | nil => intro f w _; exact w
  | cons s l ih => intro f w h; exact ih (wf_stp1 w (h s List.mem_cons_self)) fun t ht => h t (List.mem_cons_of_mem _ ht)
theorem stps_snoc (f : PF) (l : List Stp) (s : Stp) : stps f (l ++ [s]) = stp1 (stps f l) s := by
  unfold stps
  rw [List.foldl_append]
  rfl
end My
namespace My
open PySem L2 U StX PM
/-! ### dicts changed -/
theorem drop_kvI (l : List (Int × Int)) (x : Int) : dropK (kvI l) (Sum.inl x : Key) = kvI (l.filter fun p => decide (p.1 ≠ x)) := by
  unfold dropK kvI
  rw [List.filter_map]
  congr 1
  refine List.filter_congr fun p _ => ?_
  show decide ((Sum.inl p.1 : Key) ≠ Sum.inl x) = decide (p.1 ≠ x)
  refine decide_eq_decide.mpr ⟨fun h e => h (by rw [e]), fun h e => h (Sum.inl.inj e)⟩
theorem di_drop {l : List (Int × Int)} {f : PF} (d : DI l f) (x : Int) : DI (l.filter fun p => decide (p.1 ≠ x)) (fun z => if z = x then none else f z) := by
  refine di_of ((List.filter_sublist.map _).nodup d.nd) fun a b => ?_
  rw [List.mem_filter, decide_eq_true_eq, d.mem]
  by_cases h : a = x
  · rw [if_pos h]; simp [h]
  · rw [if_neg h]; simp [h]
theorem di_put {l : List (Int × Int)} {f : PF} (d : DI l f) (x y : Int) : ∃ l', putK (kvI l) (Sum.inl x : Key) (V.int y) = kvI l' ∧ l'.length ≤ l.length + 1 ∧ DI l' (fun z => if z = x then some y else f z) := by
  obtain ⟨l', e, n, nd, k⟩ := putK_lk (l := l) (x := x) (y := y)
  exact ⟨l', e, n, nd d.nd, fun z => by rw [k, d.at_]⟩
theorem val_di {l : List (Int × Int)} {f : PF} (d : DI l f) (x : Int) : valV (kvI l) (Sum.inl x : Key) = (f x).map V.int := by rw [valV_kvI, d.at_]
def Inv2 (f g : PF) : Prop := ∀ x y, g y = some x ↔ f x = some y
theorem inv_fg {f g : PF} (h : Inv2 f g) {a y : Int} (e : f a = some y) : Inv2 (stp1 f (.fg a)) (fun z => if z = y then none else g z) := by
  intro x z
  rw [fg_iff]
  dsimp only
  by_cases hz : z = y
  · rw [if_pos hz, hz]
    constructor
    · intro q; cases q
    · rintro ⟨q1, q2⟩
      have := (h x y).mpr q2
      rw [(h a y).mpr e] at this
      exact absurd (Option.some.inj this).symm q1
  · rw [if_neg hz, h]
    constructor
    · intro q
      refine ⟨fun e2 => ?_, q⟩
      rw [e2, e] at q
      exact hz (Option.some.inj q).symm
    · exact fun q => q.2
theorem fg_same {f : PF} {a : Int} (e : f a = none) : stp1 f (.fg a) = f := by
  funext x
  show (if x = a then none else f x) = f x
  by_cases h : x = a
  · rw [if_pos h, h, e]
  · rw [if_neg h]
/-- the inverse behind a swap -/
def swI (g : PF) (a b : Int) : PF := fun y => if y = b then g a else if y = a then g b else g y
theorem inv_sw {f g : PF} (h : Inv2 f g) {a b : Int} (hab : a ≠ b) : Inv2 (stp1 f (.sw a b)) (swI g a b) := by
  intro x y
  rw [sw_iff hab]
  unfold swI
  by_cases h1 : y = b
  · rw [if_pos h1, h]
    constructor
    · exact fun q => .inl ⟨h1, q⟩
    · rintro (⟨_, q⟩ | ⟨q, _⟩ | ⟨_, q, _⟩)
      · exact q
      · exact absurd (q.symm.trans h1) hab
      · exact absurd h1 q
  · rw [if_neg h1]
    by_cases h2 : y = a
    · rw [if_pos h2, h]
      constructor
      · exact fun q => .inr (.inl ⟨h2, q⟩)
      · rintro (⟨q, _⟩ | ⟨_, q⟩ | ⟨q, _, _⟩)
        · exact absurd q h1
        · exact q
        · exact absurd h2 q
    · rw [if_neg h2, h]
      constructor
      · exact fun q => .inr (.inr ⟨h2, h1, q⟩)
      · rintro (⟨q, _⟩ | ⟨q, _⟩ | ⟨_, _, q⟩)
        · exact absurd q h1
        · exact absurd q h2
        · exact q
/-- what a swap makes of the map, by the inverse -/
theorem sw_by {f g : PF} (h : Inv2 f g) {a b : Int} (hab : a ≠ b) (z : Int) : stp1 f (.sw a b) z = (if g b = some z then some a else if g a = some z then some b else f z) := by
  by_cases h1 : g b = some z
  · rw [if_pos h1]
    exact (sw_iff hab).mpr (.inr (.inl ⟨rfl, (h z b).mp h1⟩))
  · rw [if_neg h1]
    by_cases h2 : g a = some z
    · rw [if_pos h2]
      exact (sw_iff hab).mpr (.inl ⟨rfl, (h z a).mp h2⟩)
    · rw [if_neg h2]
      cases e : f z with
      | none =>
        show ((f z).map fun y => if y = a then b else if y = b then a else y) = none
        rw [e]; rfl
      | some y =>
        refine (sw_iff hab).mpr (.inr (.inr ⟨fun q => ?_, fun q => ?_, e⟩))
        · subst q; exact h2 ((h z y).mpr e)
        · subst q; exact h1 ((h z y).mpr e)
end My
local macro_rules | `(tactic| array_get_dec) => `(tactic| first | assumption | exact L2.upd_same | (refine U.carryNew (by assumption) ?_; array_get_dec) | (refine U.carry (by assumption) ?_; array_get_dec))
local macro_rules | `(tactic| array_mem_dec) => `(tactic| first | exact L2.Same.refl _ | assumption | (refine U.sameUp (by assumption) ?_; array_mem_dec) | (refine U.sameVia (by assumption) ?_; array_mem_dec))
local macro_rules | `(tactic| sizeOf_list_dec) => `(tactic| first | assumption | (refine U.freeVia (by assumption) ?_; sizeOf_list_dec) | (refine U.freeUp (o := _) (q := _) ?_; assumption))
local macro_rules | `(tactic| deriving_LawfulEq_tactic_step) => `(tactic| first | exact rfl | exact U.nil_le | exact U.one_le | exact U.two_le | exact U.three_le | exact L2.SqL.of (by array_get_dec) | exact L2.SqT.of (by array_get_dec) | exact ⟨_, L2.SqL.of (by array_get_dec)⟩ | exact ⟨_, L2.SqT.of (by array_get_dec)⟩ | exact Or.inl (by array_get_dec) | array_get_dec)
local macro_rules | `(tactic| and_intros) => `(tactic| repeat (first | refine And.intro (by deriving_LawfulEq_tactic_step) ?_ | (apply Exists.intro; refine And.intro (by deriving_LawfulEq_tactic_step) ?_) | (apply Exists.intro; apply Exists.intro; refine And.intro (by deriving_LawfulEq_tactic_step) ?_) | (apply Exists.intro; apply Exists.intro; apply Exists.intro; refine And.intro (by deriving_LawfulEq_tactic_step) ?_) | (apply Exists.intro; apply Exists.intro; apply Exists.intro; apply Exists.intro; refine And.intro (by deriving_LawfulEq_tactic_step) ?_)))
namespace My
open PySem L2 U StX PM
def putO (f : PF) (o : Option Int) (y : Int) : PF := match o with | none => f | some x => fun z => if z = x then some y else f z
def putI (g : PF) (y : Int) (o : Option Int) : PF := match o with | none => g | some x => fun z => if z = y then some x else g z
theorem sw_found {f g : PF} (h : Inv2 f g) {a b : Int} (hab : a ≠ b) : putO (putO f (g a) b) (g b) a = stp1 f (.sw a b) := by
  funext z
  rw [sw_by h hab]
  unfold putO
  cases ea : g a with
  | none =>
    cases eb : g b with
    | none => simp
    | some s2 => simp [eq_comm]
  | some s1 =>
    cases eb : g b with
    | none => simp [eq_comm]
    | some s2 => simp [eq_comm]
theorem sw_places (g : PF) {a b : Int} (hab : a ≠ b) : putI (putI (fun z => if z = b then none else if z = a then none else g z) b (g a)) a (g b) = swI g a b := by
  funext z
  unfold putI swI
  cases ea : g a with
  | none =>
    cases eb : g b with
    | none => 
      by_cases h1 : z = b
      · simp [h1]
      · by_cases h2 : z = a
        · simp [h2, eb]
        · simp [h1, h2]
    | some s2 =>
      by_cases h1 : z = b
      · subst h1; simp [Ne.symm hab]
      · by_cases h2 : z = a
        · subst h2; simp [h1]
        · simp [h1, h2]
  | some s1 =>
    cases eb : g b with
    | none =>
      by_cases h1 : z = b
      · simp [h1]
      · by_cases h2 : z = a
        · subst h2; simp [h1, eb]
        · simp [h1, h2]
    | some s2 =>
      by_cases h1 : z = b
      · subst h1; simp [Ne.symm hab]
      · by_cases h2 : z = a
        · subst h2; simp [h1]
        · simp [h1, h2]
def ov (o : Option Int) : V := (o.map V.int).getD .non
theorem ov_some {o : Option Int} {y : Int} (h : o = some y) : ov o = .int y := by rw [h]; rfl
theorem ov_none {o : Option Int} (h : o = none) : ov o = .non := by rw [h]; rfl
theorem pop2 {H : Hp} {G : Addr} {l2 : List (Int × Int)} {g : PF} (hG : H G = some (.dK (kvI l2))) (d : DI l2 g) (x : Int) {Q : VK}
    (hq : ∀ l' H', H' G = some (.dK (kvI l')) → DI l' (fun z => if z = x then none else g z) → l'.length ≤ l2.length → Off G H H' → Q (ov (g x)) H') :
    ∃ kvs k, H G = some (.dK kvs) ∧ V.int x = kV k ∧ (∀ v, valV kvs k = some v → Q v (upd H G (.dK (dropK kvs k)))) ∧ (valV kvs k = none → Q .non H) := by
  refine ⟨_, Sum.inl x, hG, rfl, fun v hv => ?_, fun hv => ?_⟩
  · rw [val_di d] at hv
    cases e : g x with
    | none => rw [e] at hv; cases hv
    | some y =>
      rw [e] at hv
      cases hv
      have := hq (l2.filter fun p => decide (p.1 ≠ x)) (upd H G (.dK (dropK (kvI l2) (Sum.inl x)))) (by rw [upd_same, drop_kvI]) (di_drop d x) (List.length_filter_le ..) Off.lock
      rw [ov_some e] at this
      exact this
  · rw [val_di d] at hv
    cases e : g x with
    | some y => rw [e] at hv; cases hv
    | none =>
      have e2 : (fun z => if z = x then none else g z) = g := by
        funext z
        by_cases h : z = x
        · rw [if_pos h, h, e]
        · rw [if_neg h]
      have := hq l2 H hG (by rw [e2]; exact d) (Nat.le_refl _) (fun _ _ _ h => h)
      rw [ov_none e] at this
      exact this
theorem pop2R {i : Nat} {ty : TE} {σ : L2.St} {H : Hp} {Q : VK} {G : Addr} {l2 : List (Int × Int)} {g : PF} (hσ : σ[i]? = some (some (.ref G))) (hG : H G = some (.dK (kvI l2))) (d : DI l2 g) (x : Int) (hty : ∀ R : VK, R (.int x) H → ty σ H R)
    (hq : ∀ l' H', H' G = some (.dK (kvI l')) → DI l' (fun z => if z = x then none else g z) → l'.length ≤ l2.length → Off G H H' → Q (ov (g x)) H') : tDPop2 (tVar i) ty (tC .non) σ H Q :=
  ⟨_, hσ, G, rfl, isD_of hG, hty _ (pop2 hG d x hq)⟩
theorem inv_diL {n : Int} {l : List (Int × Int)} {f : PF} (d : DI l f) (wf : WF n f) : DI (madeI (fun _ _ => true) (fun _ y => y) (fun x _ => x) l) (inv n f) := by
  refine di_of (nd_tgt (d.vals wf)) fun a b => ?_
  rw [mem_madeI, inv_iff wf]
  constructor
  · rintro ⟨x, y, h1, _, rfl, rfl⟩
    exact d.mem.mp h1
  · intro h
    exact ⟨b, a, d.mem.mpr h, rfl, rfl, rfl⟩
def spAft : Sp := fun vs H Q _ => ∃ (d a : Addr) (l : List (Int × Int)) (n : Int) (f : PF) (ts : List Addr) (ss : List Stp), vs = [.ref d, .ref a] ∧ H d = some (.dK (kvI l)) ∧ DI l f ∧ WF n f ∧ l.length ≤ 300 ∧ H a = some (.lst (ts.map V.ref)) ∧ Paired (fun t s => H t = some (.tup (Stp.vs s))) ts ss ∧ (∀ s ∈ ss, Stp.ok n s) ∧ ss.length ≤ 100 ∧
  ∀ p l' H', Same H H' → H p = none → H' p = some (.dK (kvI l')) → DI l' (stps f ss) → l'.length ≤ 600 → Q (.ref p) H'
section
variable {P : Program} {w : World} {K : PySem.W.Frag} {mg : Str → Option Value} {base : Heap}
theorem ok_after_list (T : Txt K mg) : FnR P w K mg base CX0 2 T.f_after_list spAft := by
  refine T.A_after_list.ok sc_after_list (fun vs H Q E h => ?_) (fun cdv A outer s H vs Q E hr h => ?_)
  · obtain ⟨d, a, l, n, f, ts, ss, rfl, _⟩ := h
    rfl
  · obtain ⟨d, a, l, n, f, ts, ss, rfl, hd, di, wf, hl, ha, hp, hok, hls, q⟩ := h
    have hu := hu_of hr
    refine ⟨_, (pss_cons (ps_set (i := 2) sc_after_list.nd rfl (Or.inl rfl) (pe_callTy call_dictD (by rfl) T.n_dict (by decide +kernel) (pa_cons (pv 0) pa_nil)))
      (pss_cons (ps_lock (ps_setDc (i := 3) (own := [("source", 7), ("target", 8)]) (g := (gTup K 2 (gCons (gName 7) (gCons (gName 8) gNil)))) (tt := tYes) rfl sc_after_list.nd rfl rfl (sw_dict rfl rfl rfl (by decide +kernel)) (pi_items (pv 0)) (blkOk_by (own := [("source", 7), ("target", 8)]) (N := n_after_list) (sc := defScope s_after_list) (by decide +kernel)) (fun _ _ _ _ _ => (pg_tup rfl (pgs_cons (pg_name (i := 7) sc_after_list.nd rfl (Or.inl rfl)) (pgs_cons (pg_name (i := 8) sc_after_list.nd rfl (Or.inl rfl)) pgs_nil)))) (fun _ _ _ _ _ => pts_nil) (fun _ _ _ _ _ => (pv 8)) (fun _ _ _ _ _ => (pv 7))))
      (pss_cons (ps_for PassesOwn.never rfl (pi_list (pv 1)) (pg_name (i := 4) sc_after_list.nd rfl (Or.inl rfl))
        (pss_one (ps_if (pt_cmpR op_eq (pe_ix ix_tup (pv 4) pe_int (fun _ _ => rfl)) pe_str (nomark _))
        (pss_one (ps_if (pt_cmp (pc_din hu (pe_ix ix_tup (pv 4) pe_int (fun _ _ => rfl)) (pv 2)))
        (pss_one (ps_expr (pe_dpop1 (pv 3) (pe_dpop1 (pv 2) (pe_ix ix_tup (pv 4) pe_int (fun _ _ => rfl)) ⟨rfl, rfl, rfl, rfl⟩) ⟨rfl, rfl, rfl, rfl⟩))) pss_nil)) (pss_cons (ps_par (i := 5) (j := 6) rfl sc_after_list.nd rfl rfl (by decide) rfl rfl (pa_cons (pe_dpop2 (pv 3) (pe_ix ix_tup (pv 4) pe_int (fun _ _ => rfl)) pe_non ⟨rfl, rfl, rfl, rfl⟩) (pa_cons (pe_dpop2 (pv 3) (pe_ix ix_tup (pv 4) pe_int (fun _ _ => rfl)) pe_non ⟨rfl, rfl, rfl, rfl⟩) pa_nil)) (by rfl))
      (pss_one (ps_for PassesOwn.never rfl (pi_tup (pe_tup (pa_cons (pe_tup (pa_cons (pv 5) (pa_cons (pe_ix ix_tup (pv 4) pe_int (fun _ _ => rfl)) pa_nil))) (pa_cons (pe_tup (pa_cons (pv 6) (pa_cons (pe_ix ix_tup (pv 4) pe_int (fun _ _ => rfl)) pa_nil))) pa_nil)))) (pg_tup rfl (pgs_cons (pg_name (i := 7) sc_after_list.nd rfl (Or.inl rfl)) (pgs_cons (pg_name (i := 8) sc_after_list.nd rfl (Or.inl rfl)) pgs_nil)))
        (pss_one (ps_if (pt_cmpR op_notN (pv 7) pe_non (nomark _))
        (pss_one (ps_asg (pe_tup (pa_cons (pv 8) (pa_cons (pv 7) pa_nil))) (pg_tup rfl (pgs_cons (pg_sub (pv 2) (pv 7) (set_dict hu)) (pgs_cons (pg_sub (pv 3) (pv 8) (set_dict hu)) pgs_nil))))) pss_nil))))))))
      (pss_one (ps_ret (pv 2)))))), ?_⟩
    refine ⟨_, rfl, d, _, rfl, .inl hd, fun F nF => ?_⟩
    have hd1 := (Same.new (o := .dK (kvI l)) nF) _ _ hd
    refine lock_asg ?_
    refine dc_items (fun _ _ => true) (fun _ y => y) (fun x _ => .int x) hd1 (fun H' R r o => ⟨_, rfl, r⟩) (fun _ _ => rfl) ?_ ?_ ?_ ?_
    · intro x y hxy H1 o
      exact ⟨fun R r => r, fun _ => ⟨fun R r => ⟨_, rfl, r⟩, fun R r => ⟨_, rfl, r⟩⟩⟩
    · rw [madeD_I, kvI_keys]
      exact nd_inl (nd_tgt (di.vals wf))
    · exact small1000 (by omega)
    intro G H2 nG hG s2
    rw [madeD_I] at hG
    have nGF : F ≠ G := ne_of_none upd_same nG
    have s02 : Same H H2 := (Same.new nF).trans s2
    have nG0 : H G = none := (Same.new nF).free nG
    have hF2 := s2 _ _ (upd_same (H := H) (a := F) (o := .dK (kvI l)))
    dsimp only [tNext, tSeq]
    refine ⟨_, rfl, a, rfl, ⟨_, SqL.of (s02 _ _ ha)⟩, ?_⟩
    refine for_it (walk_list (xs := ts.map V.ref)) (fun i σ H' => ∃ v4 v5 v6 v7 v8 l1 l2 g, σ = [some (.ref d), some (.ref a), some (.ref F), some (.ref G), v4, v5, v6, v7, v8] ∧ Same H H' ∧ H' F = some (.dK (kvI l1)) ∧ H' G = some (.dK (kvI l2)) ∧ DI l1 (stps f (ss.take i)) ∧ DI l2 g ∧ Inv2 (stps f (ss.take i)) g ∧ l1.length ≤ 300 + 2 * i ∧ l2.length ≤ 300 + 2 * i)
      ⟨_, _, _, _, _, l, _, inv n f, rfl, s02, hF2, hG, di, inv_diL di wf, fun x y => inv_iff wf, by omega, Nat.le_trans (madeI_len ..) (by omega)⟩ (fun i σ H' _ ⟨_, _, _, _, _, _, _, _, _, z, _⟩ => SqL.of (z _ _ ha)) ?_ ?_
    · rintro i v σ Ha0 Ha hi ⟨v4, v5, v6, v7, v8, l1, l2, g, rfl, sa, hF, hG, d1, d2, iv, le1, le2⟩ ⟨rfl, ev⟩
      rw [List.getElem?_map] at ev
      obtain ⟨t, et, rfl⟩ : ∃ t, ts[i]? = some t ∧ v = .ref t := by
        cases e : ts[i]? with
        | none => rw [e] at ev; cases ev
        | some t => rw [e] at ev; cases ev; exact ⟨t, rfl, rfl⟩
      obtain ⟨sp, es, ht0⟩ := paired_at hp et
      have ht := sa _ _ ht0
      have hi2 : i < ss.length := (List.getElem?_eq_some_iff.mp es).1
      have hsk := hok sp (List.mem_of_getElem? es)
      have etk : stps f (ss.take (i + 1)) = stp1 (stps f (ss.take i)) sp := by rw [take_more es, stps_snoc]
      cases sp with
      | fg x =>
        refine ⟨_, rfl, t, _, 0, .str "forget", rfl, rfl, SqT.of ht, rfl, rfl, _, rfl, iteT ?_⟩
        refine ⟨_, rfl, t, _, 1, .int x, rfl, rfl, SqT.of ht, rfl, _, rfl, F, _, rfl, DGet.k (k := Sum.inl x) hF, _, rfl, ?_⟩
        rw [val_di d1, Option.isSome_map]
        cases ex : stps f (ss.take i) x with
        | none =>
          refine iteF ?_
          refine ⟨_, _, _, _, _, l1, l2, g, rfl, sa, hF, hG, ?_, d2, ?_, by omega, by omega⟩
          · rw [etk, fg_same ex]; exact d1
          · rw [etk, fg_same ex]; exact iv
        | some y =>
          refine iteT ?_
          have hG1 : (upd Ha F (.dK (dropK (kvI l1) (Sum.inl x)))) G = some (.dK (kvI l2)) := by rw [upd_ne nGF.symm]; exact hG
          refine ⟨_, rfl, G, rfl, isD_of hG, _, rfl, F, rfl, isD_of hF, _, rfl, t, _, 1, .int x, rfl, rfl, SqT.of ht, rfl, _, Sum.inl x, .int y, hF, rfl, (by rw [val_di d1, ex]; rfl), _, Sum.inl y, .int x, hG1, rfl, (by rw [val_di d2, (iv x y).mpr ex]; rfl), ?_⟩
          refine ⟨_, _, _, _, _, l1.filter fun p => decide (p.1 ≠ x), l2.filter fun p => decide (p.1 ≠ y), fun z => if z = y then none else g z, rfl, Same.put (Same.put sa nF) nG0, ?_, ?_, ?_, di_drop d2 y, ?_, ?_, ?_⟩
          · rw [upd_ne nGF, upd_same, drop_kvI]
          · rw [upd_same, drop_kvI]
          · rw [etk]; exact di_drop d1 x
          · rw [etk]; exact inv_fg iv ex
          · have := List.length_filter_le (fun p : Int × Int => decide (p.1 ≠ x)) l1
            omega
          · have := List.length_filter_le (fun p : Int × Int => decide (p.1 ≠ y)) l2
            omega
      | sw x y =>
        obtain ⟨_, _, _, _, hxy⟩ := hsk
        refine ⟨_, rfl, t, _, 0, .str "swap", rfl, rfl, SqT.of ht, rfl, rfl, _, rfl, iteF ?_⟩
        dsimp only [tSeq, tPar, tCons]
        refine pop2R rfl hG d2 x (fun R r => ⟨_, rfl, t, _, 1, .int x, rfl, rfl, SqT.of ht, rfl, r⟩) fun l3 H3 hG3 d3 le3 o3 => ?_
        have ht3 : H3 t = _ := o3 _ _ (ne_of ht hG (by intro z; cases z)) ht
        refine pop2R rfl hG3 d3 y (fun R r => ⟨_, rfl, t, _, 2, .int y, rfl, rfl, SqT.of ht3, rfl, r⟩) fun l4 H4 hG4 d4 le4 o4 => ?_
        have ht4 : H4 t = _ := o4 _ _ (ne_of ht3 hG3 (by intro z; cases z)) ht3
        have hF4 : H4 F = some (.dK (kvI l1)) := o4 _ _ nGF (o3 _ _ nGF hF)
        have e3 : (if y = x then none else g y) = g y := if_neg (Ne.symm hxy)
        rw [e3]
        have s4 : Same H H4 := fun b o e => by
          have nb : b ≠ G := fun z => by rw [z, nG0] at e; cases e
          exact o4 _ _ nb (o3 _ _ nb (sa _ _ e))
        refine ⟨_, _, rfl, _, rfl, _, rfl, t, _, 2, .int y, rfl, rfl, SqT.of ht4, rfl, two_le, fun t1 n1 => ⟨_, rfl, _, rfl, t, _, 1, .int x, rfl, rfl, SqT.of (carryNew n1 ht4), rfl, two_le, fun t2 n2 => ⟨two_le, fun t3 n3 => ⟨t3, rfl, ⟨_, SqT.of upd_same⟩, ?_⟩⟩⟩⟩
        have k1 : (upd (upd (upd H4 t1 (.tup [ov (g x), .int y])) t2 (.tup [ov (g y), .int x])) t3 (.tup [.ref t1, .ref t2])) t1 = some (.tup [ov (g x), .int y]) := by array_get_dec
        have k2 : (upd (upd (upd H4 t1 (.tup [ov (g x), .int y])) t2 (.tup [ov (g y), .int x])) t3 (.tup [.ref t1, .ref t2])) t2 = some (.tup [ov (g y), .int x]) := by array_get_dec
        have k3 : (upd (upd (upd H4 t1 (.tup [ov (g x), .int y])) t2 (.tup [ov (g y), .int x])) t3 (.tup [.ref t1, .ref t2])) t3 = some (.tup [.ref t1, .ref t2]) := upd_same
        have kF : (upd (upd (upd H4 t1 (.tup [ov (g x), .int y])) t2 (.tup [ov (g y), .int x])) t3 (.tup [.ref t1, .ref t2])) F = some (.dK (kvI l1)) := by array_get_dec
        have kG : (upd (upd (upd H4 t1 (.tup [ov (g x), .int y])) t2 (.tup [ov (g y), .int x])) t3 (.tup [.ref t1, .ref t2])) G = some (.dK (kvI l4)) := by array_get_dec
        have kS : Same H (upd (upd (upd H4 t1 (.tup [ov (g x), .int y])) t2 (.tup [ov (g y), .int x])) t3 (.tup [.ref t1, .ref t2])) := by array_mem_dec
        generalize upd (upd (upd H4 t1 (.tup [ov (g x), .int y])) t2 (.tup [ov (g y), .int x])) t3 (.tup [.ref t1, .ref t2]) = H7 at k1 k2 k3 kF kG kS
        refine for_it (walk_tup (xs := [.ref t1, .ref t2])) (fun j σ H' => ∃ v7 v8 m1 m2, σ = [some (.ref d), some (.ref a), some (.ref F), some (.ref G), some (.ref t), some (ov (g x)), some (ov (g y)), v7, v8] ∧ (∀ b o, b ≠ F → b ≠ G → H7 b = some o → H' b = some o) ∧ H' F = some (.dK (kvI m1)) ∧ H' G = some (.dK (kvI m2)) ∧
            DI m1 (if j = 0 then stps f (ss.take i) else if j = 1 then putO (stps f (ss.take i)) (g x) y else putO (putO (stps f (ss.take i)) (g x) y) (g y) x) ∧
            DI m2 (if j = 0 then (fun z => if z = y then none else if z = x then none else g z) else if j = 1 then putI (fun z => if z = y then none else if z = x then none else g z) y (g x) else putI (putI (fun z => if z = y then none else if z = x then none else g z) y (g x)) x (g y)) ∧ m1.length ≤ 300 + 2 * i + j ∧ m2.length ≤ 300 + 2 * i + j)
          ⟨v7, v8, l1, l4, rfl, (fun _ _ _ _ h => h), kF, kG, d1, d4, by omega, by omega⟩ (fun j σ H' _ ⟨_, _, _, _, _, z, _⟩ => SqT.of (z _ _ (ne_of k3 kF (by intro z; cases z)) (ne_of k3 kG (by intro z; cases z)) k3)) ?_ ?_
        · rintro j v σ Hb0 Hb hj ⟨w7, w8, m1, m2, rfl, sb, bF, bG, e1, e2, lm1, lm2⟩ ⟨rfl, ev⟩
          have hj2 : j < 2 := hj
          have key : ∃ (tt : Addr) (o : Option Int) (tg : Int), v = .ref tt ∧ H7 tt = some (.tup [ov o, .int tg]) ∧
              (if j + 1 = 0 then stps f (ss.take i) else if j + 1 = 1 then putO (stps f (ss.take i)) (g x) y else putO (putO (stps f (ss.take i)) (g x) y) (g y) x) = putO (if j = 0 then stps f (ss.take i) else if j = 1 then putO (stps f (ss.take i)) (g x) y else putO (putO (stps f (ss.take i)) (g x) y) (g y) x) o tg ∧
              (if j + 1 = 0 then (fun z => if z = y then none else if z = x then none else g z) else if j + 1 = 1 then putI (fun z => if z = y then none else if z = x then none else g z) y (g x) else putI (putI (fun z => if z = y then none else if z = x then none else g z) y (g x)) x (g y)) = putI (if j = 0 then (fun z => if z = y then none else if z = x then none else g z) else if j = 1 then putI (fun z => if z = y then none else if z = x then none else g z) y (g x) else putI (putI (fun z => if z = y then none else if z = x then none else g z) y (g x)) x (g y)) tg o := by
            match j, hj, ev with
            | 0, _, ev => cases ev; exact ⟨t1, g x, y, rfl, k1, by simp, by simp⟩
            | 1, _, ev => cases ev; exact ⟨t2, g y, x, rfl, k2, by simp, by simp⟩
            | j + 2, hj, _ => exact absurd hj (by simp)
          obtain ⟨tt, o, tg, rfl, ht7, eF, eG⟩ := key
          have htt := sb _ _ (ne_of ht7 kF (by intro z; cases z)) (ne_of ht7 kG (by intro z; cases z)) ht7
          refine ⟨tt, _, rfl, SqT.of htt, rfl, ov o, [.int tg], rfl, .int tg, [], rfl, rfl, ?_⟩
          refine ⟨_, rfl, rfl, _, rfl, ?_⟩
          cases o with
          | none =>
            refine iteF ⟨_, _, m1, m2, rfl, sb, bF, bG, ?_, ?_, by omega, by omega⟩
            · rw [eF]; exact e1
            · rw [eG]; exact e2
          | some sr =>
            refine iteT ⟨_, rfl, _, rfl, two_le, fun u nu => ?_⟩
            have cF : (upd Hb u (.tup [.int tg, .int sr])) F = some (.dK (kvI m1)) := carryNew nu bF
            have cG : (upd Hb u (.tup [.int tg, .int sr])) G = some (.dK (kvI m2)) := carryNew nu bG
            obtain ⟨p1, q1, q2, q3⟩ := di_put e1 sr tg
            obtain ⟨p2, r1, r2, r3⟩ := di_put e2 tg sr
            refine ⟨u, _, rfl, SqT.of upd_same, rfl, .int tg, [.int sr], rfl, _, rfl, _, rfl, F, _, rfl, DPut.k (k := Sum.inl sr) cF (small1000 (by rw [kvI_length]; omega)), .int sr, [], rfl, _, rfl, _, rfl, G, _, rfl, DPut.k (k := Sum.inl tg) (by rw [upd_ne nGF.symm]; exact cG) (small1000 (by rw [kvI_length]; omega)), rfl, ?_⟩
            refine ⟨_, _, p1, p2, rfl, fun b o h1 h2 e => ?_, ?_, ?_, ?_, ?_, by omega, by omega⟩
            · rw [upd_ne h2, upd_ne h1]
              exact carryNew nu (sb _ _ h1 h2 e)
            · rw [upd_ne nGF, upd_same, q1]
            · rw [upd_same, r1]
            · rw [eF]; exact q3
            · rw [eG]; exact r3
        · rintro σ Hb ⟨w7, w8, m1, m2, rfl, sb, bF, bG, e1, e2, lm1, lm2⟩
          refine ⟨_, _, _, _, _, m1, m2, _, rfl, fun b o e => sb _ _ (ne_of_none e nF) (ne_of_none e nG0) (kS _ _ e), bF, bG, ?_, e2, ?_, ?_, ?_⟩
          · rw [etk, ← sw_found iv hxy]; exact e1
          · rw [etk, show (if [V.ref t1, V.ref t2].length = 0 then (fun z => if z = y then none else if z = x then none else g z) else if [V.ref t1, V.ref t2].length = 1 then putI (fun z => if z = y then none else if z = x then none else g z) y (g x) else putI (putI (fun z => if z = y then none else if z = x then none else g z) y (g x)) x (g y)) = swI g x y from sw_places g hxy]
            exact inv_sw iv hxy
          · have : [V.ref t1, V.ref t2].length = 2 := rfl
            omega
          · have : [V.ref t1, V.ref t2].length = 2 := rfl
            omega
    · rintro σ H' ⟨v4, v5, v6, v7, v8, l1, l2, g, rfl, sa, hF, hG, d1, d2, iv, le1, le2⟩
      rw [List.length_map, paired_len hp, List.take_length] at d1
      rw [List.length_map, paired_len hp] at le1
      exact ⟨_, rfl, q F l1 H' sa nF hF d1 (by omega)⟩
end
end My
namespace My
open PySem L2 U StX PM
theorem stepB_of {n : Int} {s : Stp} (h : s.ok n) : stepB n s.vs = true := by
  cases s with
  | fg a =>
    obtain ⟨h1, h2⟩ := h
    have h3 : a ≤ n - 1 := by omega
    have hs : ¬ (Str.ofString "forget" = Str.ofString "swap") := by decide +kernel
    simp [stepB, Stp.vs, nth, isSt, inR, h1, h3, hs]
  | sw a b =>
    obtain ⟨h1, h2, h3, h4, h5⟩ := h
    have h6 : a ≤ n - 1 := by omega
    have h7 : b ≤ n - 1 := by omega
    simp [stepB, Stp.vs, nth, isSt, inR, h1, h3, h5, h6, h7]
theorem known_vs {C : Addr} {H : Hp} (s : Stp) : ∀ z ∈ s.vs, knownV C H z := by
  cases s <;> (intro z hz; simp only [Stp.vs, List.mem_cons, List.not_mem_nil, or_false] at hz)
  · rcases hz with rfl | rfl | rfl <;> trivial
  · rcases hz with rfl | rfl <;> trivial
end My
namespace My
open PySem L2 U StX PM
theorem sw_diL {l : List (Int × Int)} {f : PF} (d : DI l f) (a b : Int) : DI (madeI (fun _ _ => true) (fun x _ => x) (fun _ y => if y = a then b else if y = b then a else y) l) (stp1 f (.sw a b)) := by
  refine di_of (nd_src d.nd) fun x z => ?_
  rw [mem_madeI]
  show _ ↔ ((f x).map fun y => if y = a then b else if y = b then a else y) = some z
  constructor
  · rintro ⟨x', y, h1, _, rfl, rfl⟩
    rw [d.mem.mp h1]; rfl
  · intro h
    cases e : f x with
    | none => rw [e] at h; cases h
    | some y =>
      rw [e] at h
      exact ⟨x, y, d.mem.mpr e, rfl, rfl, Option.some.inj h⟩
theorem di_two {a b : Int} (h : a ≠ b) : DI [(a, b), (b, a)] (fun y => if y = a then some b else if y = b then some a else none) := by
  refine ⟨by simp [h], fun x => ?_⟩
  rw [lk_cons, lk_cons]
  show (if a = x then some b else if b = x then some a else none) = _
  simp only [eq_comm]
theorem get_two (a b y : Int) : (((if y = a then some b else if y = b then some a else none : Option Int).map V.int).getD (.int y)) = V.int (if y = a then b else if y = b then a else y) := by
  by_cases h1 : y = a
  · simp [h1]
  · by_cases h2 : y = b
    · rw [if_neg h1, if_pos h2, if_neg h1, if_pos h2]; rfl
    · simp [h1, h2]
end My
namespace My
open PySem L2 U StX PM
/-! ### several maps -/
def MapsAt (C : Addr) (H : Hp) (n : Int) (xs : List V) (fs : List PF) : Prop := Paired (fun v f => ∃ a, v = V.ref a ∧ IsMap C H a n f) xs fs
theorem MapsAt.same {C : Addr} {H H' : Hp} {n : Int} {xs : List V} {fs : List PF} (h : MapsAt C H n xs fs) (s : Same H H') : MapsAt C H' n xs fs := PySem.Paired.map h fun v _ f ⟨a, e, m⟩ => ⟨a, e, m.same s⟩
theorem MapsAt.get {C : Addr} {H : Hp} {n : Int} {xs : List V} {fs : List PF} (h : MapsAt C H n xs fs) {i : Nat} {v : V} (e : xs[i]? = some v) : ∃ a f, v = .ref a ∧ fs[i]? = some f ∧ IsMap C H a n f := by
  obtain ⟨f, e2, a, e3, m⟩ := paired_at h e
  exact ⟨a, f, e3, e2, m⟩
end My
namespace My
open PySem L2 U StX PM
/-! ### products of several maps -/
def prodL : List PF → PF
  | [] => emp
  | f :: r => r.foldl mul f
def lenF (n : Int) (f : PF) : Int := ((tab n f).length : Nat)
def srv (n : Int) (f0 : PF) (fr : List PF) (k : Nat) : List Int := (List.range (k + 1)).map fun i => lenF n ((fr.take i).foldl mul f0)
def lossL (n : Int) (fs : List PF) : List Int := fs.map fun f => n - lenF n f
def maxZ (ls : List Int) : Int := ls.foldl (fun m x => if m > x then m else x) 0
def spLen (C : Addr) : Sp := fun vs H Q _ => ∃ m n f, vs = [.ref m] ∧ IsMap C H m n f ∧ Q (.int (lenF n f)) H
section
variable {P : Program} {w : World} {K : PySem.W.Frag} {mg : Str → Option Value} {base : Heap}
theorem ok_len (T : Txt K mg) : FnR P w K mg base CX0 1 T.f_Map__len (spLen T.C_Map) := by
  refine T.A_Map__len.ok sc_Map__len (fun vs H Q E h => ?_) (fun cdv A outer s H vs Q E hr h => ?_)
  · obtain ⟨m, n, f, rfl, _⟩ := h
    rfl
  · obtain ⟨m, n, f, rfl, ⟨⟨dx, D, h1, h2⟩, _⟩, q⟩ := h
    refine ⟨_, (pss_one (ps_ret (pe_callB call_lenD (by rfl) T.n_len (by decide +kernel) (pa_cons (pe_fld (pv 0) rfl) pa_nil)))), ?_⟩
    have q' : Q (.int ((kvI (tab n f)).length : Nat)) H := by rw [kvI_length]; exact q
    exact ⟨_, rfl, m, _, dx, _, _, rfl, h1, T.o_Map.cl, T.na_own_arrows_Map, flds_arrows _ _, D, _, rfl, h2, q'⟩
end
end My
namespace My
open PySem L2 U StX PM
/-- [(x, ..) for x in d if ..] -/
theorem lc_keysT {d : Addr} {l : List (Int × Int)} {te : TE} {i : Nat} {tt : TT} {tv : TE} {vs : List Nat} {σ : L2.St} {H : Hp} {Q : VK} (c : Int → Int → Bool) (vi : Int → Int → Int)
    (hd : H d = some (.dK (kvI l))) (hte : ∀ H' (R : VK), R (.ref d) H' → Off d H H' → te σ H' R)
    (hw : ∀ a, wipe ((wipe σ vs).set i a) vs = wipe σ vs)
    (hb : ∀ x y, (x, y) ∈ l → ∀ H1, Off d H H1 → Rd H1 d (.dK (kvI l)) → (∀ R : Bool → Hp → Prop, R (c x y) H1 → tt ((wipe σ vs).set i (some (.int x))) H1 R) ∧
      (c x y = true → ∀ R : VK, (∀ p, H1 p = none → R (.ref p) (upd H1 p (.tup [.int x, .int (vi x y)]))) → tv ((wipe σ vs).set i (some (.int x))) H1 R))
    (hz : l.length < sizeLine)
    (hq : ∀ (D : Addr) (ps : List Addr) (H' : Hp), H D = none → H' D = some (.lst (ps.map V.ref)) → Paired (fun p (kv : Key × V) => H' p = some (.tup [kV kv.1, kv.2])) ps (kvI (madeI c (fun x _ => x) vi l)) → L2.Same H H' → Q (.ref D) H') :
    tLockE (tLc (iKeys te) (gName i) tt tv vs) σ H Q := by
  refine ⟨d, _, hd, trivial, fun od => ?_⟩
  refine hte _ _ ⟨d, od, rfl, .inl ⟨kvI l, upd_same, fun D hD => ?_⟩⟩ Off.lock
  have hDd : D ≠ d := fun e => by rw [e, upd_same] at hD; cases hD
  have hD0 : H D = none := by rw [upd_ne hDd] at hD; exact hD
  refine lc_it walk_keys (fun k H' => H' d = some (.frz od (.dK (kvI l))) ∧ Off d H H' ∧ ∃ ps : List Addr, H' D = some (.lst (ps.map V.ref)) ∧ ps.length ≤ k ∧ (∀ p ∈ ps, p ≠ D ∧ p ≠ d) ∧ Paired (fun p (kv : Key × V) => H' p = some (.tup [kV kv.1, kv.2])) ps (kvI (madeI c (fun x _ => x) vi (l.take k)))) ⟨?_, Off.lock.mut hD0, [], upd_same, Nat.le_refl _, (fun p h => nomatch h), .nil⟩ (fun k H' _ p => p.1) ?_ ?_
  · rw [upd_ne hDd.symm]; exact upd_same
  · rintro k v H' H'' hk ⟨p1, p2, ps, p3, p4, p5, p6⟩ ⟨rfl, kk, vv, e1, rfl⟩
    obtain ⟨x, y, exy, rfl, rfl⟩ := kvI_get e1
    rw [kvI_length] at hk
    refine ⟨hw _, ?_⟩
    obtain ⟨b1, b2⟩ := hb x y (List.mem_of_getElem? exy) _ p2 (.inr ⟨od, p1⟩)
    refine b1 _ ?_
    have st := madeI_step (c := c) (kf := fun x _ => x) (vi := vi) exy
    cases hc : c x y with
    | true =>
      rw [hc, if_pos rfl] at st
      refine iteT (b2 hc _ fun p hp => ⟨_, carryNew hp p3, by rw [List.length_map]; omega, ?_⟩)
      have hpD : p ≠ D := (ne_of_none p3 hp).symm
      have hpd : p ≠ d := (ne_of_none p1 hp).symm
      refine ⟨?_, (p2.tr (Off.new hp)).mut hD0, ps ++ [p], ?_, ?_, ?_, ?_⟩
      · rw [upd_ne hDd.symm, upd_ne hpd.symm]; exact p1
      · rw [upd_same, List.map_append]; rfl
      · rw [List.length_append, List.length_singleton]; omega
      · intro q hq
        rcases List.mem_append.mp hq with h | h
        · exact p5 q h
        · rw [List.mem_singleton] at h
          subst h
          exact ⟨hpD, hpd⟩
      · rw [st, show kvI (madeI c (fun x _ => x) vi (l.take k) ++ [(x, vi x y)]) = kvI (madeI c (fun x _ => x) vi (l.take k)) ++ [(Sum.inl x, V.int (vi x y))] from by unfold kvI; rw [List.map_append]; rfl]
        refine PySem.Paired.snoc (p6.map fun q hq kv e => ?_) ?_
        · rw [upd_ne (p5 q hq).1, upd_ne (ne_of_none e hp)]; exact e
        · rw [upd_ne hpD]; exact upd_same
    | false =>
      rw [hc, if_neg Bool.false_ne_true, List.append_nil] at st
      refine iteF ⟨p1, p2, ps, p3, by omega, p5, ?_⟩
      rw [st]
      exact p6
  · rintro H' ⟨p1, p2, ps, p3, p4, p5, p6⟩
    rw [kvI_length, List.take_length] at p6
    refine ⟨p1, hq D ps _ hD0 ?_ (p6.map fun q hq kv e => ?_) (p2.back hd)⟩
    · rw [upd_ne hDd]
      exact p3
    · rw [upd_ne (p5 q hq).2]; exact e
section
variable {P : Program} {w : World} {K : PySem.W.Frag} {mg : Str → Option Value} {base : Heap}
theorem rd_get {H : Hp} {d : Addr} {l : List (Int × Int)} {f : PF} (h : Rd H d (.dK (kvI l))) (di : DI l f) (i : Int) : DGet H d (.int i) ((f i).map V.int) := by
  have : DGet H d (.int i) _ := .inl ⟨_, Sum.inl i, h, rfl, rfl⟩
  rw [valV_kvI, di.at_] at this
  exact this
theorem ok_l_product (T : Txt K mg) : FnR P w K mg base CX0 2 T.f_l_product spTimes := by
  refine T.A_l_product.ok sc_l_product (fun vs H Q E h => ?_) (fun cdv A outer s H vs Q E hr h => ?_)
  · obtain ⟨d1, d2, l1, l2, n, f, g, rfl, _⟩ := h
    rfl
  · obtain ⟨d1, d2, l1, l2, n, f, g, rfl, h1, h2, di1, di2, wf, wg, hl, q⟩ := h
    have hu := hu_of hr
    refine ⟨_, (pss_one (ps_ret (pe_callTy (call_dictP rfl) (by rfl) T.n_dict (by decide +kernel) (pa_cons (pe_lock (pe_lc (own := [("_law_source", 2)]) (g := (gName 2)) rfl sc_l_product.nd (pi_keys (pv 0)) (blkOk_by (own := [("_law_source", 2)]) (N := n_l_product) (sc := defScope s_l_product) (by decide +kernel)) (fun _ _ _ _ _ => (pg_name (i := 2) sc_l_product.nd rfl (Or.inl rfl))) (fun _ _ _ _ _ => (pts_one (pt_cmp (pc_din hu (pe_dget hu (pv 0) (pv 2) (fun _ _ => rfl)) (pv 1))))) (fun _ _ _ _ _ => (pe_tup (pa_cons (pv 2) (pa_cons (pe_dget hu (pv 1) (pe_dget hu (pv 0) (pv 2) (fun _ _ => rfl)) (fun _ _ => rfl)) pa_nil)))))) pa_nil)))), ?_⟩
    refine lc_keysT (fun _ y => (g y).isSome) (fun _ y => (g y).getD 0) h1 (fun H' R r o => ⟨_, rfl, r⟩) (fun _ => rfl) (fun x y hxy H1 o ho => ?_) (small1000 hl) (fun D ps H' nD hD hp s1 => ?_)
    · have h2' : Rd H1 d2 (.dK (kvI l2)) := by
        by_cases e : d2 = d1
        · subst e
          rw [h1] at h2
          rw [← HO.dK.inj (Option.some.inj h2)]
          exact ho
        · exact .inl (o _ _ e h2)
      have g1 := rd_get ho di1 x
      rw [di1.mem.mp hxy] at g1
      have g2 := rd_get h2' di2 y
      refine ⟨fun R r => ?_, fun hc R r => ?_⟩
      · refine ⟨_, rfl, _, rfl, d1, .int y, rfl, g1, _, rfl, d2, _, rfl, g2, _, rfl, ?_⟩
        rw [Option.isSome_map]
        exact r
      · cases hv : g y with
        | none => rw [hv] at hc; cases hc
        | some z =>
          rw [hv] at r g2
          exact ⟨_, rfl, _, rfl, _, rfl, _, rfl, d1, .int y, rfl, g1, d2, .int z, rfl, g2, two_le, fun p hp => r p hp⟩
    · refine dictP_of hD hp (mul_diL di1) fun p l np hl' dl => ?_
      exact q p l _ (s1.trans (Same.new np)) (s1.free np) upd_same dl (Nat.le_trans hl' (madeI_len ..))
/-- the law's draw of a map, rare or not -/
def spDrw2 : Sp := fun vs H Q _ => ∃ (p : Addr) (n : Int), vs = [.ref p, .int n] ∧ PoolAt H p ∧ 1 ≤ n ∧ n ≤ 300 ∧
  ∀ r H' l, H r = none → H' r = some (.dK (kvI l)) → DI l (lk l) → WF n (lk l) → l.length ≤ 1000 → PoolAt H' p → Off p H H' → Q (.ref r) H'
theorem ok_l_arrR (T : Txt K mg) : FnR P w K mg base CX0 2 T.f_l_arrows spDrw2 := by
  refine T.A_l_arrows.ok sc_l_arrows (fun vs H Q E h => ?_) (fun cdv A outer s H vs Q E hr h => ?_)
  · obtain ⟨p, n, rfl, _⟩ := h
    rfl
  · obtain ⟨p, n, rfl, pool, h1, h3, q⟩ := h
    have hu := hu_of hr
    refine ⟨_, (pss_cons (ps_par3 (i := 2) (j := 3) (l := 4) rfl sc_l_arrows.nd rfl rfl rfl (by decide) (by decide) (by decide) rfl rfl rfl (pa_cons (pe_listRg rfl rfl T.n_list (prg_1 rfl T.n_range (pv 1))) (pa_cons pe_dnewK (pa_cons (pe_op op_add pe_int (pe_callR (ok_draw T) (hr.mono (by decide)) T.A_l_draw.kp rfl T.g_l_draw pass0 (pa_cons (pv 0) (pa_cons pe_int pa_nil)))) pa_nil))) (by rfl))
      (pss_cons (ps_for PassesOwn.never rfl (pi_range1 rfl T.n_range (pa_cons (pv 1) pa_nil)) (pg_name (i := 5) sc_l_arrows.nd rfl (Or.inl rfl))
        (pss_one (ps_if (PW.pt (pw_or (pt_cmpR op_gt (pe_callR (ok_draw T) (hr.mono (by decide)) T.A_l_draw.kp rfl T.g_l_draw pass0 (pa_cons (pv 0) (pa_cons (pv 4) pa_nil))) pe_int (nomark _)) (pw_or1 (pt_cmpR op_eq (pv 4) pe_int (nomark _)))))
        (pss_one (ps_dput hu (pv 3) (pv 5) (pe_bm PySem.F.plainAttrs_list PySem.F.slot_list_pop PySem.F.type_list_pop mt_popAt (pv 2) (pa_cons (pe_callR (ok_draw T) (hr.mono (by decide)) T.A_l_draw.kp rfl T.g_l_draw pass0 (pa_cons (pv 0) (pa_cons (pe_callB call_len_seq (by rfl) T.n_len (by decide +kernel) (pa_cons (pv 2) pa_nil)) pa_nil))) pa_nil)) rfl)) pss_nil)))
      (pss_one (ps_ret (pv 3))))), ?_⟩
    refine ⟨_, rfl, n, rfl, RgOk.of_le (by decide) (by omega) (by decide) (by omega), fun lf hlf => ?_⟩
    intro fo hfo
    have lf0 : H lf = none := hlf
    have fo0 : H fo = none := (Same.new hlf).free hfo
    have npl : p ≠ lf := pool.ne lf0
    have npf : p ≠ fo := pool.ne fo0
    have nlf : lf ≠ fo := ne_of_none upd_same hfo
    refine draw_R rfl (fun R r => r) ((pool.put npl).put npf) (by decide) (by decide) fun w5 H1 w0 w1 pool1 off1 => ⟨_, _, rfl, rfl, ?_⟩
    refine ⟨_, _, _, rfl, ?_⟩
    have lf1 : H1 lf = some (.lst (((List.range n.toNat).map fun (i : Nat) => (i : Int)).map V.int)) := by
      rw [← rg0]
      exact off1 _ _ npl.symm (carryNew hfo upd_same)
    have fo1 : H1 fo = some (.dK (kvI [])) := off1 _ _ npf.symm upd_same
    have offH : Off p H H1 := ((Off.new hlf).tr (Off.new hfo)).tr off1
    refine ⟨_, rfl, n, rfl, by omega, by omega, ?_⟩
    refine for_it (walk_range (lo := 0) (n := n.toNat)) (fun i σ H' => ∃ v5 l ns, σ = [some (.ref p), some (.int n), some (.ref lf), some (.ref fo), some (.int (1 + w5)), v5] ∧ PoolAt H' p ∧ Off p H H' ∧ H' lf = some (.lst (ns.map V.int)) ∧ H' fo = some (.dK (kvI l)) ∧ Drw n i l ns)
      ⟨none, [], _, rfl, pool1, offH, lf1, fo1, drw0 n⟩ (fun _ _ _ _ _ => trivial) ?_ ?_
    · rintro i v σ Ha0 Ha hi ⟨v5, l, ns, rfl, poola, offa, lfa, foa, drw⟩ ⟨rfl, rfl⟩
      refine draw_R rfl (fun R r => ⟨_, rfl, r⟩) poola (by omega) (by omega) fun r2 H2 r20 r21 pool2 off2 => ⟨_, _, rfl, rfl, _, rfl, ?_⟩
      have lf2 := off2 _ _ npl.symm lfa
      have fo2 := off2 _ _ npf.symm foa
      have o2 := offa.tr off2
      have hlen := drw.le
      have hln := drw.ln
      refine ifD (fun h => iteT ?_) (fun h => ⟨_, rfl, rfl, _, rfl, ifD (fun h' => ?_) (fun h' => ?_)⟩)
      rotate_left 2
      · exact ⟨_, l, ns, rfl, pool2, o2, lf2, fo2, drw.more⟩
      all_goals
        refine ⟨_, rfl, .inl ⟨rfl, _, SqL.of lf2⟩, ?_⟩
        refine draw_R (n := (ns.length : Int)) rfl (fun R r => ⟨_, rfl, lf, _, rfl, .inl (SqL.of lf2), by rw [List.length_map]; exact r⟩) pool2 (by omega) (by omega) fun r4 H4 r40 r41 pool4 off4 => ?_
        obtain ⟨y, ey⟩ : ∃ y, ns[r4.toNat]? = some y := ⟨_, List.getElem?_eq_getElem (by omega)⟩
        obtain ⟨d1, d2⟩ := drw.put ey
        have lf4 := off4 _ _ npl.symm lf2
        have fo4 := off4 _ _ npf.symm fo2
        refine ⟨lf, _, r4, r4.toNat, .int y, rfl, rfl, lf4, by omega, by omega, ?_, get_map ey, ?_⟩
        · rw [List.length_map]
          exact PySem.seqIndex_of r40 (by omega)
        refine ⟨_, rfl, _, rfl, fo, _, rfl, DPut.k (k := Sum.inl (0 + (i : Nat) : Int)) (kvs := kvI l) (by rw [upd_ne nlf.symm]; exact fo4) (small1000 (by rw [kvI_length]; omega)), ?_⟩
        rw [Int.zero_add, putK_kvI d2]
        refine ⟨_, _, ns.eraseIdx r4.toNat, rfl, (pool4.put npl).put npf, ?_, ?_, upd_same, d1⟩
        · exact Off.put (Off.put (o2.tr off4) lf0) fo0
        · rw [upd_ne nlf, upd_same]
          congr 2
          apply List.ext_getElem?
          intro m
          simp [List.getElem?_eraseIdx]
          split <;> rfl
    · rintro σ Ha ⟨v5, l, ns, rfl, p1, p2, p3, p4, p5⟩
      have := p5.ln
      exact ⟨_, rfl, q fo Ha l fo0 p4 ⟨p5.kn, fun _ => rfl⟩ (p5.wf (by omega)) (by omega) p1 p2⟩
end
end My
namespace My
open PySem L2 U StX PM
/-- what the four calls give -/
structure Res (C : Addr) (H : Hp) (R r sv tp : Addr) (n : Int) (f0 : PF) (fr : List PF) : Prop where
  l : H R = some (.lst [.ref r, .int (n - lenF n (prodL (f0 :: fr))), .ref sv, .ref tp])
  m : IsMap C H r n (prodL (f0 :: fr))
  s : H sv = some (.lst ((srv n f0 fr fr.length).map V.int))
  t : H tp = some (.tup [.int (maxZ (lossL n (f0 :: fr))), .int (if (lossL n (f0 :: fr)).sum < n then (lossL n (f0 :: fr)).sum else n)])
theorem Res.same {C : Addr} {H H' : Hp} {R r sv tp : Addr} {n : Int} {f0 : PF} {fr : List PF} (h : Res C H R r sv tp n f0 fr) (s : Same H H') : Res C H' R r sv tp n f0 fr := ⟨s _ _ h.l, h.m.same s, s _ _ h.s, s _ _ h.t⟩
end My
namespace My
open PySem L2 U StX PM
def TabsAt (H : Hp) (n : Int) (ds : List Addr) (fs : List PF) : Prop := Paired (fun d f => ∃ l, H d = some (.dK (kvI l)) ∧ DI l f ∧ WF n f) ds fs
theorem TabsAt.same {H H' : Hp} {n : Int} {ds : List Addr} {fs : List PF} (h : TabsAt H n ds fs) (s : Same H H') : TabsAt H' n ds fs := PySem.Paired.map h fun v _ f ⟨l, e, d, w⟩ => ⟨l, s _ _ e, d, w⟩
theorem TabsAt.get {H : Hp} {n : Int} {ds : List Addr} {fs : List PF} (h : TabsAt H n ds fs) {i : Nat} {d : Addr} (e : ds[i]? = some d) : ∃ l f, fs[i]? = some f ∧ H d = some (.dK (kvI l)) ∧ DI l f ∧ WF n f := by
  obtain ⟨f, e2, l, h1, h2, h3⟩ := paired_at h e
  exact ⟨l, f, e2, h1, h2, h3⟩
theorem pick2 (c : Bool) (x y : V) : atI [x, y] (if c = true then 1 else 0) = some (if c = true then y else x) := by
  cases c <;> rfl
end My
namespace My
open PySem L2 U StX PM
theorem MapsAt.off {C p : Addr} {H H' : Hp} {n : Int} {xs : List V} {fs : List PF} (h : MapsAt C H n xs fs) (o : Off p H H') (hp : ∃ ys, H p = some (.lst ys)) : MapsAt C H' n xs fs := PySem.Paired.map h fun v _ f ⟨a, e, m⟩ => ⟨a, e, m.off o hp⟩
/-! ### == of results -/
end My
namespace My
open PySem L2 U StX PM
theorem paired_ex {α β : Type} {R : α → β → Prop} : ∀ {xs : List α}, (∀ x ∈ xs, ∃ y, R x y) → ∃ ys, Paired R xs ys
  | [], _ => ⟨[], .nil⟩
  | x :: xs, h => by
    obtain ⟨y, hy⟩ := h x List.mem_cons_self
    obtain ⟨ys, hys⟩ := paired_ex (xs := xs) fun z hz => h z (List.mem_cons_of_mem _ hz)
    exact ⟨y :: ys, .cons hy hys⟩
/-- [.. for x in range(..)], each part a new object that draws make -/
theorem lc_rangeP {wi : TI} {i : Nat} {tv : TE} {vs : List Nat} {σ : L2.St} {H : Hp} {Q : VK} {n : Nat} {p : Addr} (pool : PoolAt H p) (Pk : Nat → Addr → Hp → Prop) (stab : ∀ k b H H' D, (∃ ys, H D = some (.lst ys)) → Off D H H' → Pk k b H → Pk k b H')
    (hwi : ∀ R : It → Hp → Prop, R (Itr 0 n) H → wi σ H R) (hw : ∀ a, wipe ((wipe σ vs).set i a) vs = wipe σ vs) (hn : n < sizeLine)
    (hb : ∀ k : Nat, k < n → ∀ H1, PoolAt H1 p → ∀ R : VK, (∀ b H2, PoolAt H2 p → Off p H1 H2 → H1 b = none → Pk k b H2 → R (.ref b) H2) → tv ((wipe σ vs).set i (some (.int (0 + (k : Nat))))) H1 R)
    (hq : ∀ (D : Addr) (bs : List Addr) (H' : Hp), PoolAt H' p → Off p H H' → H D = none → H' D = some (.lst (bs.map V.ref)) → bs.length = n → (∀ (k : Nat) (b : Addr), bs[k]? = some b → Pk k b H') → Q (.ref D) H') : tLc wi (gName i) tYes tv vs σ H Q := by
  refine hwi _ fun D hD => ?_
  have npD : p ≠ D := pool.ne hD
  refine lc_it (walk_range (lo := 0)) (fun k H' => PoolAt H' p ∧ Off p H H' ∧ ∃ bs : List Addr, H' D = some (.lst (bs.map V.ref)) ∧ bs.length = k ∧ ∀ (j : Nat) (b : Addr), bs[j]? = some b → Pk j b H') ⟨pool.put npD, Off.new hD, [], upd_same, rfl, fun j b e => by simp at e⟩ (fun _ _ _ _ => trivial) ?_ ?_
  · rintro k v H' H'' hk ⟨pool1, o1, bs, e1, hl, hbs⟩ ⟨rfl, rfl⟩
    refine ⟨hw _, yes_ ?_⟩
    refine hb k hk _ pool1 _ fun b H2 pool2 o2 nb eb => ?_
    have e2 := o2 _ _ npD.symm e1
    refine ⟨_, e2, by rw [List.length_map, hl]; omega, pool2.put npD, (o1.tr o2).mut hD, bs ++ [b], by rw [upd_same, List.map_append]; rfl, by simp [hl], fun j b' e => ?_⟩
    refine stab j b' H2 _ D ⟨_, e2⟩ Off.lock ?_
    by_cases hj : j < bs.length
    · rw [List.getElem?_append_left hj] at e
      exact stab _ _ _ _ p pool1.lst o2 (hbs j b' e)
    · have hl2 := (List.getElem?_eq_some_iff.mp e).1
      rw [List.length_append, List.length_singleton] at hl2
      have ej : j = k := by omega
      subst ej
      rw [List.getElem?_append_right (by omega), hl, Nat.sub_self] at e
      cases e
      exact eb
  · rintro H' ⟨pool1, o1, bs, e1, hl, hbs⟩
    exact hq D bs H' pool1 o1 hD e1 hl hbs
section
variable {P : Program} {w : World} {K : PySem.W.Frag} {mg : Str → Option Value} {base : Heap}
theorem TabsAt.off {p : Addr} {H H' : Hp} {n : Int} {ds : List Addr} {fs : List PF} (h : TabsAt H n ds fs) (o : Off p H H') (hp : ∃ ys, H p = some (.lst ys)) : TabsAt H' n ds fs := PySem.Paired.map h fun v _ f ⟨l, e, d, w⟩ => ⟨l, o _ _ (fun z => by obtain ⟨ys, e2⟩ := hp; rw [z, e2] at e; cases e) e, d, w⟩
end
end My
namespace My
open PySem L2 U StX PM
/-! ### names of users -/
def sgnOk (c : Str) : Bool := (!decide (c.cps.toList < ("a" : Str).cps.toList)) && (!decide (("z" : Str).cps.toList < c.cps.toList))
def nameS (z : Str) : Bool := decide (1 ≤ z.length) && decide (z.length ≤ 8) && z.cps.toList.all fun c => sgnOk ⟨#[c]⟩
def spNm : Sp := fun vs H Q _ => ∃ z : Str, vs = [.str z] ∧ nameS z = true ∧ ∀ H', Same H H' → Q (.bl true) H'
def spUsr : Sp := fun vs H Q _ => ∃ z : Str, vs = [.str z] ∧ nameS z = true ∧ ∀ H', Same H H' → Q .non H'
theorem cbS_of {r : List V → Hp → VK → Prop} {t : TE} {σ : L2.St} {H : Hp} {Q : VK} (h : t σ H fun x H1 => r [x] H1 Q) : tCB r (tCons t tNil) σ H Q := h
/-- [True for c in a text] -/
theorem lc_strT {te : TE} {i : Nat} {tv : TE} {vs : List Nat} {σ : L2.St} {H : Hp} {Q : VK} {z : Str} (hte : ∀ R : VK, R (.str z) H → te σ H R) (hw : ∀ a, wipe ((wipe σ vs).set i a) vs = wipe σ vs)
    (hb : ∀ c ∈ z.cps.toList, ∀ (H1 : Hp) (R : VK), R (.bl true) H1 → tv ((wipe σ vs).set i (some (.str ⟨#[c]⟩))) H1 R) (hz : z.cps.size < sizeLine)
    (hq : ∀ D H', H D = none → H' D = some (.lst ((List.replicate z.cps.size true).map V.bl)) → L2.Same H H' → Q (.ref D) H') : tLc (iStr te) (gName i) tYes tv vs σ H Q := by
  refine hte _ ⟨z, rfl, fun D hD => ?_⟩
  refine lc_it (walk_str (z := z)) (fun k H' => L2.Same H H' ∧ H' D = some (.lst ((List.replicate k true).map V.bl))) ⟨Same.new hD, upd_same⟩ (fun k H' _ p => trivial) ?_ ?_
  · rintro k v H' H'' hk ⟨s1, e1⟩ ⟨rfl, c, ec, rfl⟩
    refine ⟨hw _, yes_ ?_⟩
    have hm : c ∈ z.cps.toList := by
      have := Array.mem_of_getElem? ec
      simpa using this
    refine hb c hm _ _ ⟨_, e1, ?_, Same.put s1 hD, ?_⟩
    · rw [List.length_map, List.length_replicate]
      omega
    · rw [upd_same, List.replicate_succ', List.map_append]
      rfl
  · rintro H' ⟨s1, e1⟩
    exact hq D H' hD e1 s1
section
variable {P : Program} {w : World} {K : PySem.W.Frag} {mg : Str → Option Value} {base : Heap}
theorem ok_is_name (T : Txt K mg) : FnR P w K mg base CX0 2 T.f_is_name spNm := by
  refine T.A_is_name.ok sc_is_name (fun vs H Q E h => ?_) (fun cdv A outer s H vs Q E hr h => ?_)
  · obtain ⟨z, rfl, _⟩ := h
    rfl
  · obtain ⟨z, rfl, hz, q⟩ := h
    obtain ⟨_, h_MAX_NAME⟩ := T.v_MAX_NAME
    refine ⟨_, (pss_one (ps_ret (pe_and (pe_callB call_isi (by rfl) T.n_isinstance (by decide +kernel) (pa_cons (pv 0) (pa_cons (pe_bltn (v := .ty "str") (u := .type "str") (by rfl) T.n_str (by decide +kernel) rfl) pa_nil))) (pe_and (pe_chain op_le op_le pe_int (pe_callB call_len_str (by rfl) T.n_len (by decide +kernel) (pa_cons (pv 0) pa_nil)) (pe_glob (v := .int 8) rfl h_MAX_NAME ⟨_, rfl⟩)) (pe_one (pe_callB (cr_all rfl) (by rfl) T.n_all (by decide +kernel) (pa_cons (pe_lc (own := [("sign", 1)]) (g := (gName 1)) (tt := tYes) rfl sc_is_name.nd (pi_str (pv 0)) (blkOk_by (own := [("sign", 1)]) (N := n_is_name) (sc := defScope s_is_name) (by decide +kernel)) (fun _ _ _ _ _ => (pg_name (i := 1) sc_is_name.nd rfl (Or.inl rfl))) (fun _ _ _ _ _ => pts_nil) (fun _ _ _ _ _ => (pe_chain op_le_str op_le_str pe_str (pv 1) pe_str))) pa_nil))))))), ?_⟩
    unfold nameS at hz
    rw [Bool.and_eq_true, Bool.and_eq_true, decide_eq_true_eq, decide_eq_true_eq, List.all_eq_true] at hz
    obtain ⟨⟨z1, z2⟩, z3⟩ := hz
    refine ⟨_, rfl, _, _, _, _, true, rfl, .ty _, .base (.str _), kit_ty (by decide +kernel), _, rfl, iteT ?_⟩
    refine ⟨_, rfl, z, rfl, le_line (by omega), _, _, rfl, rfl, _, rfl, ?_⟩
    rw [decide_eq_true (show (1 : Int) ≤ ((z.length : Nat) : Int) by omega)]
    refine iteT ⟨_, _, rfl, rfl, _, rfl, ?_⟩
    rw [decide_eq_true (show ((z.length : Nat) : Int) ≤ (8 : Int) by omega)]
    refine iteT (cbS_of (lc_strT (z := z) (fun R r => ⟨_, rfl, r⟩) (fun _ => rfl) (fun c hc H1 R rr => ?_) (lt_line (by have : z.cps.size = z.length := rfl; omega)) (fun D H1 nD hD s1 => ?_)))
    · have h := z3 c hc
      unfold sgnOk at h
      rw [Bool.and_eq_true] at h
      refine ⟨_, rfl, _, _, rfl, rfl, _, rfl, ?_⟩
      rw [h.1]
      refine iteT ⟨_, _, rfl, rfl, ?_⟩
      rw [h.2]
      exact rr
    · refine ⟨D, _, rfl, SqL.of hD, ?_⟩
      have : (List.replicate z.cps.size true).all id = true := List.all_eq_true.mpr fun x hx => by rw [List.eq_of_mem_replicate hx]; rfl
      rw [this]
      exact q H1 s1
theorem ok_check_user (T : Txt K mg) : FnR P w K mg base CX0 3 T.f_check_user spUsr := by
  refine T.A_check_user.ok sc_check_user (fun vs H Q E h => ?_) (fun cdv A outer s H vs Q E hr h => ?_)
  · obtain ⟨z, rfl, _⟩ := h
    rfl
  · obtain ⟨z, rfl, hz, q⟩ := h
    refine ⟨_, (pss_one (ps_if (pt_not (pt_val (pe_callR (ok_is_name T) (hr.mono (by decide)) T.A_is_name.kp rfl T.g_is_name pass0 (pa_cons (pv 0) pa_nil))))
        (pss_one ps_never) pss_nil)), ?_⟩
    exact ⟨_, rfl, z, rfl, hz, fun H1 s1 => ⟨_, rfl, iteF (q H1 s1)⟩⟩
end
end My
namespace My
open PySem L2 U StX PM
/-! ### sessions -/
def sfl (m tl te : Addr) : List (Str × V) := [("own_present", .ref m), ("own_log", .ref tl), ("own_earlier", .ref te)]
theorem sfl_p (m tl te : Addr) : (sfl m tl te).lookup ("own_present" : Str) = some (.ref m) := rfl
theorem sfl_l (m tl te : Addr) : (sfl m tl te).lookup ("own_log" : Str) = some (.ref tl) := rfl
theorem sfl_e (m tl te : Addr) : (sfl m tl te).lookup ("own_earlier" : Str) = some (.ref te) := rfl
theorem put_p (m tl te m' : Addr) : putF "own_present" (.ref m') (sfl m tl te) = sfl m' tl te := rfl
theorem put_l (m tl te m' : Addr) : putF "own_log" (.ref m') (sfl m tl te) = sfl m m' te := rfl
theorem put_e (m tl te m' : Addr) : putF "own_earlier" (.ref m') (sfl m tl te) = sfl m tl m' := rfl
structure SessAt (C CM : Addr) (H : Hp) (s : Addr) (n : Int) (lg : List (Str × Str)) (gs : List PF) (f : PF) : Prop where
  ob : ∃ dx m tl te ts ms, H s = some (.ins C dx (sfl m tl te)) ∧ IsMap CM H m n f ∧ H tl = some (.tup (ts.map V.ref)) ∧ Paired (fun t (p : Str × Str) => H t = some (.tup [.str p.1, .str p.2])) ts lg ∧ H te = some (.tup ms) ∧ MapsAt CM H n ms gs
  len : gs.length = lg.length
  sm : lg.length ≤ 1000
  ok : ∀ p ∈ lg, OkS p.1 ∧ OkS p.2
theorem SessAt.same {C CM : Addr} {H H' : Hp} {s : Addr} {n : Int} {lg : List (Str × Str)} {gs : List PF} {f : PF} (h : SessAt C CM H s n lg gs f) (x : Same H H') : SessAt C CM H' s n lg gs f := by
  obtain ⟨⟨dx, m, tl, te, ts, ms, h1, h2, h3, h4, h5, h6⟩, l, sm, ok⟩ := h
  exact ⟨⟨dx, m, tl, te, ts, ms, x _ _ h1, h2.same x, x _ _ h3, h4.map fun _ _ _ e => x _ _ e, x _ _ h5, h6.same x⟩, l, sm, ok⟩
/-- what the session's object hides -/
def SOb (H : Hp) (s : Addr) : Prop := ∃ C dx fs, H s = some (.ins C dx fs) ∧ fs.lookup ("own_size" : Str) = none
theorem SessAt.sob {C CM : Addr} {H : Hp} {s : Addr} {n : Int} {lg : List (Str × Str)} {gs : List PF} {f : PF} (h : SessAt C CM H s n lg gs f) : SOb H s := by
  obtain ⟨dx, m, tl, te, ts, ms, h1, _⟩ := h.ob
  exact ⟨C, dx, _, h1, rfl⟩
theorem IsMap.offS {C s : Addr} {H H' : Hp} {m : Addr} {n : Int} {f : PF} (h : IsMap C H m n f) (o : Off s H H') (e : SOb H s) : IsMap C H' m n f := by
  obtain ⟨C', dx', fs, e, el⟩ := e
  obtain ⟨⟨dx, D, h1, h2⟩, wf, lo, hi⟩ := h
  refine ⟨⟨dx, D, o _ _ (fun z => ?_) h1, o _ _ (fun z => ?_) h2⟩, wf, lo, hi⟩
  · rw [z, e] at h1
    have h3 := flds_size n D
    rw [← (HO.ins.inj (Option.some.inj h1)).2.2, el] at h3
    cases h3
  · rw [z, e] at h2
    cases h2
theorem MapsAt.offS {C s : Addr} {H H' : Hp} {n : Int} {xs : List V} {fs : List PF} (h : MapsAt C H n xs fs) (o : Off s H H') (e : SOb H s) : MapsAt C H' n xs fs := PySem.Paired.map h fun v _ f ⟨a, ea, m⟩ => ⟨a, ea, m.offS o e⟩
theorem tupS {s t : Addr} {H H' : Hp} {xs : List V} (h : H t = some (.tup xs)) (o : Off s H H') (e : SOb H s) : H' t = some (.tup xs) := o _ _ (fun z => by obtain ⟨C', dx', fs, e, el⟩ := e; rw [z, e] at h; cases h) h
theorem logS {s : Addr} {H H' : Hp} {ts : List Addr} {lg : List (Str × Str)} (h : Paired (fun t (p : Str × Str) => H t = some (.tup [.str p.1, .str p.2])) ts lg) (o : Off s H H') (e : SOb H s) : Paired (fun t (p : Str × Str) => H' t = some (.tup [.str p.1, .str p.2])) ts lg := h.map fun _ _ _ z => tupS z o e
theorem Off.same {p : Addr} {H H' : Hp} (s : Same H H') : Off p H H' := fun _ _ _ h => s _ _ h
theorem Off.upd {p : Addr} {H : Hp} {o : HO} : Off p H (upd H p o) := fun b u hb e => by rw [upd_ne hb]; exact e
theorem st_facts {p : Addr} {H H' : Hp} {o : HO} (g : upd H p o = H') : Off p H H' ∧ H' p = some o := by
  subst g
  exact ⟨Off.upd, upd_same⟩
def spInitS (C CM : Addr) : Sp := fun vs H Q _ => ∃ (s : Addr) (dx : Addr) (n : Int), vs = [.ref s, .int n] ∧ H s = some (.ins C dx []) ∧ 1 ≤ n ∧ n ≤ 300 ∧ ∀ H', Off s H H' → SessAt C CM H' s n [] [] (idn n) → Q .non H'
def spChange (C CM : Addr) : Sp := fun vs H Q _ => ∃ (s m' : Addr) (u a : Str) (n : Int) (lg : List (Str × Str)) (gs : List PF) (f f' : PF), vs = [.ref s, .str u, .str a, .ref m'] ∧ SessAt C CM H s n lg gs f ∧ IsMap CM H m' n f' ∧ OkS u ∧ OkS a ∧ lg.length < 1000 ∧
  ∀ H', Off s H H' → SessAt C CM H' s n (lg ++ [(u, a)]) (gs ++ [f]) f' → IsMap CM H' m' n f' → Q (.ref m') H'
def spActed (C CM : Addr) (arg : Hp → Int → PF → V → PF → Prop) (a : Str) : Sp := fun vs H Q _ => ∃ (s : Addr) (u : Str) (x : V) (n : Int) (lg : List (Str × Str)) (gs : List PF) (f f' : PF), vs = [.ref s, .str u, x] ∧ SessAt C CM H s n lg gs f ∧ nameS u = true ∧ OkS u ∧ lg.length < 1000 ∧ arg H n f x f' ∧
  ∀ m' H', Off s H H' → SessAt C CM H' s n (lg ++ [(u, a)]) (gs ++ [f]) f' → IsMap CM H' m' n f' → Q (.ref m') H'
def spPresent (C CM : Addr) : Sp := fun vs H Q _ => ∃ (s : Addr) (n : Int) (lg : List (Str × Str)) (gs : List PF) (f : PF), vs = [.ref s] ∧ SessAt C CM H s n lg gs f ∧ ∀ m, IsMap CM H m n f → Q (.ref m) H
def spLogM (C CM : Addr) : Sp := fun vs H Q _ => ∃ (s : Addr) (n : Int) (lg : List (Str × Str)) (gs : List PF) (f : PF), vs = [.ref s] ∧ SessAt C CM H s n lg gs f ∧ ∀ r ts, H r = none → Paired (fun t (p : Str × Str) => H t = some (.tup [.str p.1, .str p.2])) ts lg → Q (.ref r) (upd H r (.lst (ts.map V.ref)))
def spLenS (C CM : Addr) : Sp := fun vs H Q _ => ∃ (s : Addr) (n : Int) (lg : List (Str × Str)) (gs : List PF) (f : PF), vs = [.ref s] ∧ SessAt C CM H s n lg gs f ∧ Q (.int (lg.length : Nat)) H
def spAtS (C CM : Addr) : Sp := fun vs H Q _ => ∃ (s : Addr) (n : Int) (lg : List (Str × Str)) (gs : List PF) (f : PF) (k : Nat) (g : PF), vs = [.ref s, .int (k : Nat)] ∧ SessAt C CM H s n lg gs f ∧ (gs ++ [f])[k]? = some g ∧ ∀ m H', Same H H' → IsMap CM H' m n g → Q (.ref m) H'
section
variable {P : Program} {w : World} {K : PySem.W.Frag} {mg : Str → Option Value} {base : Heap}
theorem ok_s_init (T : Txt K mg) : FnR P w K mg base CX0 9 T.f_Session__init (spInitS T.C_Session T.C_Map) := by
  refine T.A_Session__init.ok sc_Session__init (fun vs H Q E h => ?_) (fun cdv A outer s H vs Q E hr h => ?_)
  · obtain ⟨s, dx, n, rfl, _⟩ := h
    rfl
  · obtain ⟨s, dx, n, rfl, hs, n1, n3, q⟩ := h
    refine ⟨_, (pss_cons (ps_expr (pe_callR (ok_check_size T) (hr.mono (by decide)) T.A_check_size.kp rfl T.g_check_size pass0 (pa_cons (pv 1) pa_nil)))
      (pss_cons (ps_fld (pv 0) (ClX.pe_cmeth (pe_glob (v := .ref T.C_Map) rfl T.g_Map rfl) T.R_Map T.cm_Map_identity (ok_identity T) (hr.mono (by decide)) pass0 (pa_cons (pv 1) pa_nil)) rfl)
      (pss_cons (ps_fld (pv 0) (pe_tup pa_nil) rfl)
      (pss_one (ps_fld (pv 0) (pe_tup pa_nil) rfl))))), ?_⟩
    refine ⟨_, rfl, n, rfl, n1, n3, ?_⟩
    refine ⟨rfl, _, rfl, n, rfl, n1, n3, fun r H1 nr s1 mr => ?_⟩
    have hs1 := s1 _ _ hs
    refine ⟨_, rfl, s, _, dx, _, rfl, hs1, T.o_Session.cl, T.na_own_present_Session, (by show 0 < 1000; decide), ?_⟩
    generalize g_Ha : L2.upd _ s _ = Ha
    obtain ⟨o_Ha, e_Ha⟩ := st_facts g_Ha
    clear g_Ha
    refine ⟨nil_le, ?_⟩
    refine fun t1 n_t1 => ?_
    generalize g_t1 : L2.upd _ t1 _ = Hb
    obtain ⟨s_Hb, e_t1⟩ := U.upd_facts g_t1 n_t1
    clear g_t1
    refine ⟨_, rfl, s, _, dx, _, rfl, s_Hb _ _ e_Ha, T.o_Session.cl, T.na_own_log_Session, (by show 1 < 1000; decide), ?_⟩
    generalize g_Hc : L2.upd _ s _ = Hc
    obtain ⟨o_Hc, e_Hc⟩ := st_facts g_Hc
    clear g_Hc
    refine ⟨nil_le, ?_⟩
    refine fun t2 n_t2 => ?_
    generalize g_t2 : L2.upd _ t2 _ = Hd
    obtain ⟨s_Hd, e_t2⟩ := U.upd_facts g_t2 n_t2
    clear g_t2
    refine ⟨_, rfl, s, _, dx, _, rfl, s_Hd _ _ e_Hc, T.o_Session.cl, T.na_own_earlier_Session, (by show 2 < 1000; decide), ?_⟩
    generalize g_He : L2.upd _ s _ = He
    obtain ⟨o_He, e_He⟩ := st_facts g_He
    clear g_He
    have so1 : SOb H1 s := ⟨_, _, _, hs1, rfl⟩
    have so2 : SOb Hb s := ⟨_, _, _, s_Hb _ _ e_Ha, rfl⟩
    have so3 : SOb Hd s := ⟨_, _, _, s_Hd _ _ e_Hc, rfl⟩
    have m2 := (((((mr.offS o_Ha so1).same s_Hb).offS o_Hc so2).same s_Hd).offS o_He so3)
    have f1 := tupS (s_Hd _ _ (tupS e_t1 o_Hc so2)) o_He so3
    have f2 := tupS e_t2 o_He so3
    refine q He (((((Off.same s1).tr o_Ha).tr (Off.same s_Hb)).tr o_Hc).tr (Off.same s_Hd) |>.tr o_He) ⟨⟨dx, r, t1, t2, [], [], e_He, m2, f1, .nil, f2, .nil⟩, rfl, Nat.zero_le _, fun p hp => nomatch hp⟩
theorem ok_present (T : Txt K mg) : FnR P w K mg base CX0 1 T.f_Session_present (spPresent T.C_Session T.C_Map) := by
  refine T.A_Session_present.ok sc_Session_present (fun vs H Q E h => ?_) (fun cdv A outer s H vs Q E hr h => ?_)
  · obtain ⟨s, n, lg, gs, f, rfl, _⟩ := h
    rfl
  · obtain ⟨s, n, lg, gs, f, rfl, ⟨⟨dx, m, tl, te, ts, ms, h1, h2, h3, h4, h5, h6⟩, hl, sm, ok⟩, q⟩ := h
    refine ⟨_, (pss_one (ps_ret (pe_fld (pv 0) rfl))), ?_⟩
    exact ⟨_, rfl, s, _, dx, _, _, rfl, h1, T.o_Session.cl, T.na_own_present_Session, sfl_p _ _ _, q m h2⟩
theorem ok_s_log (T : Txt K mg) : FnR P w K mg base CX0 1 T.f_Session_log (spLogM T.C_Session T.C_Map) := by
  refine T.A_Session_log.ok sc_Session_log (fun vs H Q E h => ?_) (fun cdv A outer s H vs Q E hr h => ?_)
  · obtain ⟨s, n, lg, gs, f, rfl, _⟩ := h
    rfl
  · obtain ⟨s, n, lg, gs, f, rfl, ⟨⟨dx, m, tl, te, ts, ms, h1, h2, h3, h4, h5, h6⟩, hl, sm, ok⟩, q⟩ := h
    refine ⟨_, (pss_one (ps_ret (pe_callTy call_list_of (by rfl) T.n_list (by decide +kernel) (pa_cons (pe_fld (pv 0) rfl) pa_nil)))), ?_⟩
    exact ⟨_, rfl, s, _, dx, _, _, rfl, h1, T.o_Session.cl, T.na_own_log_Session, sfl_l _ _ _, tl, _, rfl, .inr (SqT.of h3), fun r nr => q r ts nr h4⟩
theorem ok_s_len (T : Txt K mg) : FnR P w K mg base CX0 1 T.f_Session__len (spLenS T.C_Session T.C_Map) := by
  refine T.A_Session__len.ok sc_Session__len (fun vs H Q E h => ?_) (fun cdv A outer s H vs Q E hr h => ?_)
  · obtain ⟨s, n, lg, gs, f, rfl, _⟩ := h
    rfl
  · obtain ⟨s, n, lg, gs, f, rfl, ⟨⟨dx, m, tl, te, ts, ms, h1, h2, h3, h4, h5, h6⟩, hl, sm, ok⟩, q⟩ := h
    refine ⟨_, (pss_one (ps_ret (pe_callB call_len_seq (by rfl) T.n_len (by decide +kernel) (pa_cons (pe_fld (pv 0) rfl) pa_nil)))), ?_⟩
    refine ⟨_, rfl, s, _, dx, _, _, rfl, h1, T.o_Session.cl, T.na_own_log_Session, sfl_l _ _ _, tl, _, rfl, .inr (SqT.of h3), ?_⟩
    rw [List.length_map, paired_len h4]
    exact q
theorem ok_check_next (T : Txt K mg) : FnR P w K mg base CX0 4 T.f_Session_check_next (fun vs H Q _ => ∃ (s m : Addr) (n : Int) (f : PF), vs = [.ref s, .ref m] ∧ IsMap T.C_Map H m n f ∧ Q .non H) := by
  refine T.A_Session_check_next.ok sc_Session_check_next (fun vs H Q E h => ?_) (fun cdv A outer s H vs Q E hr h => ?_)
  · obtain ⟨s, m, n, f, rfl, _⟩ := h
    rfl
  · obtain ⟨s, m, n, f, rfl, hm, q⟩ := h
    refine ⟨_, (pss_one (ps_expr (pe_callR (fnR_calm (ok_check_map T)) (hr.mono (by decide)) T.A_check_map.kp rfl T.g_check_map pass0 (pa_cons (pv 1) pa_nil)))), ?_⟩
    exact ⟨_, rfl, _, rfl, .inl ⟨m, n, f, rfl, hm, q⟩⟩
theorem ok_change_to (T : Txt K mg) : FnR P w K mg base CX0 6 T.f_Session_change_to (spChange T.C_Session T.C_Map) := by
  refine T.A_Session_change_to.ok sc_Session_change_to (fun vs H Q E h => ?_) (fun cdv A outer s H vs Q E hr h => ?_)
  · obtain ⟨s, m', u, a, n, lg, gs, f, f', rfl, _⟩ := h
    rfl
  · obtain ⟨s, m', u, a, n, lg, gs, f, f', rfl, ⟨⟨dx, m, tl, te, ts, ms, h1, h2, h3, h4, h5, h6⟩, hl, sm, ok⟩, hm', hu, ha, hlt, q⟩ := h
    refine ⟨_, (pss_cons (ps_expr (pe_methR (pv 0) T.o_Session.cl T.meth_Session_check_next (ok_check_next T) (hr.mono (by decide)) pass0 (pa_cons (pv 3) pa_nil)))
      (pss_cons (ps_fld (pv 0) (pe_tup (pa_star (pe_fld (pv 0) rfl) (pa_cons (pe_fld (pv 0) rfl) pa_nil))) rfl)
      (pss_cons (ps_fld (pv 0) (pe_tup (pa_star (pe_fld (pv 0) rfl) (pa_cons (pe_tup (pa_cons (pv 1) (pa_cons (pv 2) pa_nil))) pa_nil))) rfl)
      (pss_cons (ps_fld (pv 0) (pv 3) rfl)
      (pss_one (ps_ret (pv 3))))))), ?_⟩
    refine ⟨_, rfl, s, dx, _, rfl, h1, rfl, _, rfl, s, m', n, f', rfl, hm', ?_⟩
    have lms := paired_len h6
    have lts := paired_len h4
    refine ⟨_, rfl, s, _, dx, _, _, rfl, h1, T.o_Session.cl, T.na_own_earlier_Session, sfl_e _ _ _, te, ms, rfl, .inl (SqT.of h5), _, rfl, s, _, dx, _, _, rfl, h1, T.o_Session.cl, T.na_own_present_Session, sfl_p _ _ _, le_line (by simp only [List.length_append, List.length_cons, List.length_nil]; omega), ?_⟩
    refine fun t1 n_t1 => ?_
    generalize g_t1 : L2.upd _ t1 _ = Ha
    obtain ⟨s_Ha, e_t1⟩ := U.upd_facts g_t1 n_t1
    clear g_t1
    refine ⟨_, rfl, s, _, dx, _, rfl, s_Ha _ _ h1, T.o_Session.cl, T.na_own_earlier_Session, (by show 3 < 1000; decide), ?_⟩
    rw [put_e]
    generalize g_Hb : L2.upd _ s _ = Hb
    obtain ⟨o_Hb, e_Hb⟩ := st_facts g_Hb
    clear g_Hb
    have so1 : SOb Ha s := ⟨_, _, _, s_Ha _ _ h1, rfl⟩
    have f1 := tupS e_t1 o_Hb so1
    have g3 := tupS (s_Ha _ _ h3) o_Hb so1
    have g4 := logS (h4.map fun _ _ _ z => s_Ha _ _ z) o_Hb so1
    refine ⟨_, rfl, s, _, dx, _, _, rfl, e_Hb, T.o_Session.cl, T.na_own_log_Session, sfl_l _ _ _, tl, _, rfl, .inl (SqT.of g3), _, rfl, _, rfl, two_le, ?_⟩
    refine fun t2 n_t2 => ?_
    generalize g_t2 : L2.upd _ t2 _ = Hc
    obtain ⟨s_Hc, e_t2⟩ := U.upd_facts g_t2 n_t2
    clear g_t2
    refine ⟨le_line (by simp only [List.length_append, List.length_cons, List.length_nil, List.length_map]; omega), ?_⟩
    refine fun t3 n_t3 => ?_
    generalize g_t3 : L2.upd _ t3 _ = Hd
    obtain ⟨s_Hd, e_t3⟩ := U.upd_facts g_t3 n_t3
    clear g_t3
    have eD := s_Hd _ _ (s_Hc _ _ e_Hb)
    refine ⟨_, rfl, s, _, dx, _, rfl, eD, T.o_Session.cl, T.na_own_log_Session, (by show 3 < 1000; decide), ?_⟩
    rw [put_l]
    generalize g_He : L2.upd _ s _ = He
    obtain ⟨o_He, e_He⟩ := st_facts g_He
    clear g_He
    refine ⟨_, rfl, _, rfl, s, _, dx, _, rfl, e_He, T.o_Session.cl, T.na_own_present_Session, (by show 3 < 1000; decide), ?_⟩
    rw [put_p]
    generalize g_Hf : L2.upd _ s _ = Hf
    obtain ⟨o_Hf, e_Hf⟩ := st_facts g_Hf
    clear g_Hf
    have so2 : SOb Hd s := ⟨_, _, _, eD, rfl⟩
    have so3 : SOb He s := ⟨_, _, _, e_He, rfl⟩
    have sd : Same Hb Hd := s_Hc.trans s_Hd
    have mv : ∀ {x : Addr} {g : PF}, IsMap T.C_Map H x n g → IsMap T.C_Map Hf x n g := fun h => ((((h.same s_Ha).offS o_Hb so1).same sd).offS o_He so2).offS o_Hf so3
    have tv : ∀ {x : Addr} {xs : List V}, Hb x = some (.tup xs) → Hf x = some (.tup xs) := fun h => tupS (tupS (sd _ _ h) o_He so2) o_Hf so3
    have k3 : Hf t3 = _ := tupS (tupS e_t3 o_He so2) o_Hf so3
    have k2 : Hf t2 = _ := tupS (tupS (s_Hd _ _ e_t2) o_He so2) o_Hf so3
    refine ⟨_, rfl, q Hf ((((((Off.same s_Ha).tr o_Hb).tr (Off.same sd))).tr o_He).tr o_Hf) ⟨⟨dx, m', t3, t1, ts ++ [t2], ms ++ [.ref m], e_Hf, mv hm', ?_, paired_snoc (g4.map fun _ _ _ z => tv z) k2, tv f1, paired_snoc (PySem.Paired.map h6 fun v _ f ⟨a, ea, mm⟩ => ⟨a, ea, mv mm⟩) ⟨m, rfl, mv h2⟩⟩, by simp [hl], by simp; omega, ?_⟩ (mv hm')⟩
    · rw [k3, List.map_append]; rfl
    · intro p hp
      rcases List.mem_append.mp hp with hp | hp
      · exact ok p hp
      · rw [List.mem_singleton] at hp
        subst hp
        exact ⟨hu, ha⟩
end
end My
namespace My
open PySem L2 U StX PM
def spCMs (C : Addr) : Sp := fun vs H Q _ => ∃ a b n f g, vs = [.ref a, .ref b] ∧ IsMap C H a n f ∧ IsMap C H b n g ∧ Q .non H
def argA (C : Addr) : Hp → Int → PF → V → PF → Prop := fun H n f x f' => ∃ m g, x = .ref m ∧ IsMap C H m n g ∧ f' = mul f g
def argP : Hp → Int → PF → V → PF → Prop := fun _ n f x f' => ∃ e : Int, x = .int e ∧ f' = pw n f e
def argS : Hp → Int → PF → V → PF → Prop := fun H n f x f' => ∃ (a : Addr) (ts : List Addr) (ss : List Stp), x = .ref a ∧ H a = some (.lst (ts.map V.ref)) ∧ Paired (fun t s => H t = some (.tup (Stp.vs s))) ts ss ∧ (∀ s ∈ ss, Stp.ok n s) ∧ ss.length ≤ 100 ∧ f' = stps f ss
theorem oks_apply : OkS "apply" := by unfold OkS; decide +kernel
theorem oks_power : OkS "power" := by unfold OkS; decide +kernel
theorem oks_steps : OkS "steps" := by unfold OkS; decide +kernel
def spUndo (C CM CN CL : Addr) : Sp := fun vs H Q E => ∃ (s : Addr) (u : Str) (n : Int) (lg : List (Str × Str)) (gs : List PF) (f : PF), vs = [.ref s, .str u] ∧ SessAt C CM H s n lg gs f ∧ nameS u = true ∧
  ((lg = [] ∧ ∀ d H', Same H H' → H' d = none → E (.ref CN) (some d) (upd H' d (.xd [("user", .str u)]))) ∨
   (∃ lg0 v a, lg = lg0 ++ [(v, a)] ∧ v ≠ u ∧ ∀ d H', Same H H' → H' d = none → E (.ref CL) (some d) (upd H' d (.xd [("user", .str v)]))) ∨
   (∃ lg0 a gs0 g, lg = lg0 ++ [(u, a)] ∧ gs = gs0 ++ [g] ∧ ∀ m H', Off s H H' → SessAt C CM H' s n lg0 gs0 g → IsMap CM H' m n g → Q (.ref m) H'))
section
variable {P : Program} {w : World} {K : PySem.W.Frag} {mg : Str → Option Value} {base : Heap}
theorem ok_check_maps (T : Txt K mg) : FnR P w K mg base CX0 5 T.f_check_maps (spCMs T.C_Map) := by
  refine T.A_check_maps.ok sc_check_maps (fun vs H Q E h => ?_) (fun cdv A outer s H vs Q E hr h => ?_)
  · obtain ⟨a, b, n, f, g, rfl, _⟩ := h
    rfl
  · obtain ⟨a, b, n, f, g, rfl, ha, hb, q⟩ := h
    refine ⟨_, (pss_cons (ps_expr (pe_callR (fnR_calm (ok_check_map T)) (hr.mono (by decide)) T.A_check_map.kp rfl T.g_check_map pass0 (pa_cons (pv 0) pa_nil)))
      (pss_cons (ps_expr (pe_callR (fnR_calm (ok_check_map T)) (hr.mono (by decide)) T.A_check_map.kp rfl T.g_check_map pass0 (pa_cons (pv 1) pa_nil)))
      (pss_one (ps_expr (pe_callR (ok_common T) (hr.mono (by decide)) T.A_common_size.kp rfl T.g_common_size pass0 (pa_cons (pv 0) (pa_cons (pv 1) pa_nil))))))), ?_⟩
    refine ⟨_, rfl, _, rfl, .inl ⟨a, n, f, rfl, ha, ?_⟩⟩
    refine ⟨_, rfl, _, rfl, .inl ⟨b, n, g, rfl, hb, ?_⟩⟩
    exact ⟨_, rfl, _, rfl, a, b, n, f, g, rfl, ha, hb, q⟩
theorem ok_s_apply (T : Txt K mg) : FnR P w K mg base CX0 10 T.f_Session_apply (spActed T.C_Session T.C_Map (argA T.C_Map) "apply") := by
  refine T.A_Session_apply.ok sc_Session_apply (fun vs H Q E h => ?_) (fun cdv A outer s H vs Q E hr h => ?_)
  · obtain ⟨s, u, x, n, lg, gs, f, f', rfl, _⟩ := h
    rfl
  · obtain ⟨s, u, x, n, lg, gs, f, f', rfl, hs, hn, hu, hl, ⟨b, g, rfl, hb, rfl⟩, q⟩ := h
    refine ⟨_, (pss_cons (ps_expr (pe_callR (ok_check_user T) (hr.mono (by decide)) T.A_check_user.kp rfl T.g_check_user pass0 (pa_cons (pv 1) pa_nil)))
      (pss_cons (ps_expr (pe_callR (fnR_calm (ok_check_map T)) (hr.mono (by decide)) T.A_check_map.kp rfl T.g_check_map pass0 (pa_cons (pv 2) pa_nil)))
      (pss_cons (ps_expr (pe_callR (ok_check_maps T) (hr.mono (by decide)) T.A_check_maps.kp rfl T.g_check_maps pass0 (pa_cons (pe_fld (pv 0) rfl) (pa_cons (pv 2) pa_nil))))
      (pss_one (ps_ret (pe_methR (pv 0) T.o_Session.cl T.meth_Session_change_to (ok_change_to T) (hr.mono (by decide)) pass0 (pa_cons (pv 1) (pa_cons pe_str (pa_cons (pe_op (op_bin T.o_Map.sf T.m_Map__mul T.i_Map__mul (ok_mul T) (hr.mono (by decide)) pass0) (pe_fld (pv 0) rfl) (pv 2)) pa_nil))))))))), ?_⟩
    refine ⟨_, rfl, u, rfl, hn, fun H1 s1 => ?_⟩
    replace hs := hs.same s1
    replace hb := hb.same s1
    obtain ⟨dx, m, tl, te, ts, ms, h1, h2, h3, h4, h5, h6⟩ := id hs.ob
    refine ⟨_, rfl, _, rfl, .inl ⟨b, n, g, rfl, hb, ?_⟩⟩
    refine ⟨_, rfl, s, _, dx, _, _, rfl, h1, T.o_Session.cl, T.na_own_present_Session, sfl_p _ _ _, _, rfl, m, b, n, f, g, rfl, h2, hb, ?_⟩
    obtain ⟨ex, fx, e1⟩ := at_map h2
    obtain ⟨ey, fy, e2⟩ := at_map hb
    refine ⟨_, rfl, s, dx, _, rfl, h1, rfl, _, rfl, _, rfl, s, _, dx, _, _, rfl, h1, T.o_Session.cl, T.na_own_present_Session, sfl_p _ _ _, _, rfl, m, _, _, b, _, _, rfl, rfl, e1, e2, m, b, n, f, g, rfl, h2, hb, fun r H2 nr s2 hr2 => ?_⟩
    refine ⟨s, r, u, "apply", n, lg, gs, f, mul f g, rfl, hs.same s2, hr2, hu, oks_apply, hl, fun H3 o3 hs3 m3 => ?_⟩
    exact q r H3 ((Off.same (s1.trans s2)).tr o3) hs3 m3
theorem ok_s_raise (T : Txt K mg) : FnR P w K mg base CX0 10 T.f_Session_raise_to (spActed T.C_Session T.C_Map argP "power") := by
  refine T.A_Session_raise_to.ok sc_Session_raise_to (fun vs H Q E h => ?_) (fun cdv A outer s H vs Q E hr h => ?_)
  · obtain ⟨s, u, x, n, lg, gs, f, f', rfl, _⟩ := h
    rfl
  · obtain ⟨s, u, x, n, lg, gs, f, f', rfl, hs, hn, hu, hl, ⟨e, rfl, rfl⟩, q⟩ := h
    refine ⟨_, (pss_cons (ps_expr (pe_callR (ok_check_user T) (hr.mono (by decide)) T.A_check_user.kp rfl T.g_check_user pass0 (pa_cons (pv 1) pa_nil)))
      (pss_cons (ps_if (pt_not (pt_val (pe_callR (ok_is_integer T) (hr.mono (by decide)) T.A_is_integer.kp rfl T.g_is_integer pass0 (pa_cons (pv 2) pa_nil))))
        (pss_one ps_never) pss_nil)
      (pss_one (ps_ret (pe_methR (pv 0) T.o_Session.cl T.meth_Session_change_to (ok_change_to T) (hr.mono (by decide)) pass0 (pa_cons (pv 1) (pa_cons pe_str (pa_cons (pe_methR (pe_fld (pv 0) rfl) T.o_Map.cl T.meth_Map_power (ok_power T) (hr.mono (by decide)) pass0 (pa_cons (pv 2) pa_nil)) pa_nil)))))))), ?_⟩
    refine ⟨_, rfl, u, rfl, hn, fun H1 s1 => ?_⟩
    replace hs := hs.same s1
    obtain ⟨dx, m, tl, te, ts, ms, h1, h2, h3, h4, h5, h6⟩ := id hs.ob
    refine ⟨_, rfl, _, rfl, trivial, _, rfl, iteF ?_⟩
    obtain ⟨ex, D, e1, e2⟩ := id h2.ob
    refine ⟨_, rfl, s, dx, _, rfl, h1, rfl, _, rfl, _, rfl, s, _, dx, _, _, rfl, h1, T.o_Session.cl, T.na_own_present_Session, sfl_p _ _ _, m, ex, _, rfl, e1, flds_no _ _ (by decide +kernel) (by decide +kernel), _, rfl, m, n, f, e, rfl, h2, fun r H2 nr s2 hr2 => ?_⟩
    refine ⟨s, r, u, "power", n, lg, gs, f, pw n f e, rfl, hs.same s2, hr2, hu, oks_power, hl, fun H3 o3 hs3 m3 => ?_⟩
    exact q r H3 ((Off.same (s1.trans s2)).tr o3) hs3 m3
theorem ok_s_steps (T : Txt K mg) : FnR P w K mg base CX0 10 T.f_Session_do_steps (spActed T.C_Session T.C_Map argS "steps") := by
  refine T.A_Session_do_steps.ok sc_Session_do_steps (fun vs H Q E h => ?_) (fun cdv A outer s H vs Q E hr h => ?_)
  · obtain ⟨s, u, x, n, lg, gs, f, f', rfl, _⟩ := h
    rfl
  · obtain ⟨s, u, x, n, lg, gs, f, f', rfl, hs, hn, hu, hl, ⟨a, ss0, ss, rfl, ha, hp, hok, hls, rfl⟩, q⟩ := h
    refine ⟨_, (pss_cons (ps_expr (pe_callR (ok_check_user T) (hr.mono (by decide)) T.A_check_user.kp rfl T.g_check_user pass0 (pa_cons (pv 1) pa_nil)))
      (pss_cons (ps_set (i := 3) sc_Session_do_steps.nd rfl (Or.inl rfl) (pe_callR (ok_first_invalid T) (hr.mono (by decide)) T.A_first_invalid.kp rfl T.g_first_invalid pass0 (pa_cons (pe_propR (pe_fld (pv 0) rfl) T.o_Map.cl T.P_Map_size (ok_size T) (hr.mono (by decide))) (pa_cons (pv 2) pa_nil))))
      (pss_cons (ps_if (pt_cmpR op_notN (pv 3) pe_non (nomark _))
        (pss_one ps_never) pss_nil)
      (pss_cons (ps_set (i := 4) sc_Session_do_steps.nd rfl (Or.inl rfl) (pe_makeR T.M_Map (ok_init T) (hr.mono (by decide)) rfl T.g_Map pass0 (pa_cons (pe_propR (pe_fld (pv 0) rfl) T.o_Map.cl T.P_Map_size (ok_size T) (hr.mono (by decide))) (pa_cons (pe_callR (ok_after_list T) (hr.mono (by decide)) T.A_after_list.kp rfl T.g_after_list pass0 (pa_cons (pe_propR (pe_fld (pv 0) rfl) T.o_Map.cl T.P_Map_arrows (ok_arrows T) (hr.mono (by decide))) (pa_cons (pv 2) pa_nil))) pa_nil))))
      (pss_one (ps_ret (pe_methR (pv 0) T.o_Session.cl T.meth_Session_change_to (ok_change_to T) (hr.mono (by decide)) pass0 (pa_cons (pv 1) (pa_cons pe_str (pa_cons (pv 4) pa_nil)))))))))), ?_⟩
    refine ⟨_, rfl, u, rfl, hn, fun H1 s1 => ?_⟩
    replace hs := hs.same s1
    replace ha := s1 _ _ ha
    replace hp : Paired (fun t s => H1 t = some (.tup (Stp.vs s))) ss0 ss := hp.map fun t _ s e => s1 _ _ e
    obtain ⟨dx, m, tl, te, ts, ms, h1, h2, h3, h4, h5, h6⟩ := id hs.ob
    obtain ⟨ex, fx, e1⟩ := at_map h2
    have hlen := paired_len hp
    refine ⟨_, rfl, s, _, dx, _, _, rfl, h1, T.o_Session.cl, T.na_own_present_Session, sfl_p _ _ _, m, _, _, rfl, e1, m, n, f, rfl, h2, _, rfl, n, _, rfl, .inl ⟨_, ha⟩, .inr ⟨a, _, ss.length, rfl, ha, by rw [List.length_map, hlen]; exact Nat.le_refl _, fun i z hi ez => ?_, .inl ⟨by rw [List.length_map, hlen], fun H2 s2 => ⟨_, rfl, rfl, _, rfl, iteF ?_⟩⟩⟩⟩
    · rw [List.getElem?_map] at ez
      cases e : ss0[i]? with
      | none => rw [e] at ez; cases ez
      | some t =>
        rw [e] at ez
        cases ez
        obtain ⟨sp, es, ht⟩ := paired_at hp e
        exact ⟨.inr (.inl ⟨_, ht⟩), .inr ⟨t, _, rfl, ht, known_vs sp, by cases sp <;> simp [Stp.vs], (stepB_of (hok _ (List.mem_of_getElem? es))).symm⟩⟩
    · replace hs := hs.same s2
      replace h2 := h2.same s2
      replace h1 := s2 _ _ h1
      obtain ⟨ex, fx, e1⟩ := at_map h2
      refine ⟨_, rfl, s, _, dx, _, _, rfl, h1, T.o_Session.cl, T.na_own_present_Session, sfl_p _ _ _, m, _, _, rfl, e1, m, n, f, rfl, h2, ?_⟩
      refine ⟨_, rfl, s, _, dx, _, _, rfl, h1, T.o_Session.cl, T.na_own_present_Session, sfl_p _ _ _, m, _, _, rfl, e1, m, n, f, rfl, h2, fun D nD => ?_⟩
      have sD : Same H2 (upd H2 D (.dK (kvI (tab n f)))) := Same.new nD
      have tln := tab_len n f
      have h9 := h2.hi
      refine ⟨_, rfl, D, a, _, n, f, ss0, ss, rfl, upd_same, di_tab h2.wf, h2.wf, by omega, (s2.trans sD) _ _ ha, hp.map fun t _ s e => (s2.trans sD) _ _ e, hok, hls, fun p l' H3 s3 np hp3 di3 hl3 => ?_⟩
      refine fun r dr nr ndr ne => init_of hp3 di3 (wf_stps h2.wf hok) h2.lo h2.hi (by omega) nr ndr ne fun H4 s4 hr4 => ⟨rfl, ?_⟩
      have s24 := (sD.trans s3).trans s4
      refine ⟨_, rfl, s, dx, _, rfl, s24 _ _ h1, rfl, _, rfl, _, rfl, s, r, u, "steps", n, lg, gs, f, stps f ss, rfl, hs.same s24, hr4, hu, oks_steps, hl, fun H5 o5 hs5 m5 => ?_⟩
      exact q r H5 ((Off.same ((s1.trans s2).trans s24)).tr o5) hs5 m5
end
end My
namespace My
open PySem L2 U StX PM
theorem paired_unsnoc {α β : Type} {R : α → β → Prop} : ∀ {xs : List α} {ys : List β} {y : β}, Paired R xs (ys ++ [y]) → ∃ xs0 x, xs = xs0 ++ [x] ∧ Paired R xs0 ys ∧ R x y
  | [], ys, y, h => by cases ys <;> cases h
  | [x], [], y, .cons r .nil => ⟨[], x, rfl, .nil, r⟩
  | x :: x2 :: xs, [], y, h => by cases h with | cons r t => cases t
  | x :: xs, y0 :: ys, y, .cons r t => by
    obtain ⟨xs0, x', e, p, r'⟩ := paired_unsnoc t
    exact ⟨x :: xs0, x', by rw [e]; rfl, .cons r p, r'⟩
def dTup (p : Str × Str) : PyData := .tuple [.str p.1, .str p.2]
theorem lay_tup {p : Str × Str} (h : OkS p.1 ∧ OkS p.2) : PyData.canLay0 (dTup p) = true ∧ PyData.depth (dTup p) ≤ 1 := by
  refine ⟨?_, by show 0 + 1 ≤ 1; decide⟩
  have h1 : PyData.canLay0 (.str p.1) = true := h.1
  have h2 : PyData.canLay0 (.str p.2) = true := h.2
  show (PyData.canLay0 (.str p.1) && (PyData.canLay0 (.str p.2) && true)) = true
  rw [h1, h2]; rfl
theorem shaped_log {lg : List (Str × Str)} (h : ∀ p ∈ lg, OkS p.1 ∧ OkS p.2) : SeqAt.shaped (.tuple (lg.map dTup)) = true ∧ SeqAt.shaped (.list (lg.map dTup)) = true := by
  have hh : ∀ d ∈ lg.map dTup, PyData.canLay0 d = true ∧ PyData.depth d ≤ 1 := fun d hd => by
    obtain ⟨p, hp, rfl⟩ := List.mem_map.mp hd
    exact lay_tup (h p hp)
  obtain ⟨h1, h2⟩ := lay_all hh
  constructor <;>
  · unfold SeqAt.shaped
    rw [Bool.and_eq_true]
    refine ⟨h1, decide_eq_true ?_⟩
    show PyData.depthAll (lg.map dTup) + 1 ≤ 64
    omega
theorem dp_log {K : PySem.W.Frag} {H : Hp} : ∀ {ts : List Addr} {lg : List (Str × Str)}, Paired (fun t (p : Str × Str) => H t = some (.tup [.str p.1, .str p.2])) ts lg → DpAll K H (ts.map V.ref) (lg.map dTup)
  | [], [], _ => .nil
  | t :: ts, p :: l, h => by
    cases h with
    | cons a r => exact .cons (.tup (SqT.of a) (.cons (.str _) (.cons (.str _) .nil))) (dp_log r)
  | [], _ :: _, h => by cases h
  | _ :: _, [], h => by cases h
theorem cut_last (xs : List V) (x : V) : cutV (xs ++ [x]) none (some (-1)) = xs ∧ ¬ (HT.sIx (xs ++ [x]).length 0 none = 0 ∧ HT.sIx (xs ++ [x]).length (xs ++ [x]).length (some (-1)) = (xs ++ [x]).length) := by
  have hl : (xs ++ [x]).length = xs.length + 1 := by simp
  have h1 : HT.sIx (xs ++ [x]).length (xs ++ [x]).length (some (-1)) = xs.length := by
    show (if (-1 : Int) < 0 then ((-1 : Int) + (((xs ++ [x]).length : Nat) : Int)).toNat else min (-1 : Int).toNat (xs ++ [x]).length) = xs.length
    rw [if_pos (by decide), hl]
    omega
  constructor
  · unfold cutV
    rw [h1, HT.sIx_none]
    simp
  · rintro ⟨_, h2⟩
    rw [h1, hl] at h2
    omega
theorem log_ne (lg0 : List (Str × Str)) (p : Str × Str) : PyData.eqv (.tuple ((lg0 ++ [p]).map dTup)) (.tuple []) = false := by cases lg0 <;> rfl
section
variable {P : Program} {w : World} {K : PySem.W.Frag} {mg : Str → Option Value} {base : Heap}
theorem ok_ini_NothingToUndo (T : Txt K mg) : FnR P w K mg base CX0 1 T.f_NothingToUndo__init (spIni1 T.C_NothingToUndo "user") := by
  refine T.A_NothingToUndo__init.ok sc_NothingToUndo__init (fun vs H Q E h => ?_) (fun cdv A outer s H vs Q E hr h => ?_)
  · obtain ⟨a, v, rfl, _⟩ := h
    rfl
  · obtain ⟨a, v, rfl, ha, q⟩ := h
    refine ⟨_, pss_one (ps_ostG (pv 0) (pv 1)), ?_⟩
    exact ⟨_, rfl, _, rfl, a, T.C_NothingToUndo, rfl, T.x_NothingToUndo, T.na_user_NothingToUndo, .inl ⟨ha, fun dx h1 h2 => q dx h1 h2⟩⟩
theorem ok_ini_NotLast (T : Txt K mg) : FnR P w K mg base CX0 1 T.f_NotLast__init (spIni1 T.C_NotLast "user") := by
  refine T.A_NotLast__init.ok sc_NotLast__init (fun vs H Q E h => ?_) (fun cdv A outer s H vs Q E hr h => ?_)
  · obtain ⟨a, v, rfl, _⟩ := h
    rfl
  · obtain ⟨a, v, rfl, ha, q⟩ := h
    refine ⟨_, pss_one (ps_ostG (pv 0) (pv 1)), ?_⟩
    exact ⟨_, rfl, _, rfl, a, T.C_NotLast, rfl, T.x_NotLast, T.na_user_NotLast, .inl ⟨ha, fun dx h1 h2 => q dx h1 h2⟩⟩
theorem okX_undo (T : Txt K mg) : FnR P w K mg base (L2.CX P w) 8 T.f_Session_undo (spUndo T.C_Session T.C_Map T.C_NothingToUndo T.C_NotLast) := by
  refine T.A_Session_undo.okX sc_Session_undo (fun vs H Q E h => ?_) (fun cdv A outer s H vs Q E hr h => ?_)
  · obtain ⟨s, u, n, lg, gs, f, rfl, _⟩ := h
    rfl
  · obtain ⟨s, u, n, lg, gs, f, rfl, hs, hn, h⟩ := h
    refine ⟨_, (pss_cons (ps_expr (pe_callR (ok_check_user T) (hr.mono (by decide)) T.A_check_user.kp rfl T.g_check_user pass0 (pa_cons (pv 1) pa_nil)))
      (pss_cons (ps_if (pt_cmpR (L2.op_eqD hr.units) (pe_fld (pv 0) rfl) (pe_tup pa_nil) (nomark _))
        (pss_one (ps_raise rfl (takes_of rfl rfl rfl rfl) (pmk_oexG T.x_NothingToUndo T.m_NothingToUndo__init T.ti_NothingToUndo__init (ok_ini_NothingToUndo T) (hr.mono (by decide)) pass0 rfl T.g_NothingToUndo (pa_cons (pv 1) pa_nil)))) pss_nil)
      (pss_cons (ps_if (pt_cmpR op_ne (pe_ix ix_tup (pe_ix ix_tup (pe_fld (pv 0) rfl) (pe_un un_neg pe_int) (fun _ _ => rfl)) pe_int (fun _ _ => rfl)) (pv 1) (nomark _))
        (pss_one (ps_raise rfl (takes_of rfl rfl rfl rfl) (pmk_oexG T.x_NotLast T.m_NotLast__init T.ti_NotLast__init (ok_ini_NotLast T) (hr.mono (by decide)) pass0 rfl T.g_NotLast (pa_cons (pe_ix ix_tup (pe_ix ix_tup (pe_fld (pv 0) rfl) (pe_un un_neg pe_int) (fun _ _ => rfl)) pe_int (fun _ _ => rfl)) pa_nil)))) pss_nil)
      (pss_cons (ps_fld (pv 0) (pe_ix ix_tup (pe_fld (pv 0) rfl) (pe_un un_neg pe_int) (fun _ _ => rfl)) rfl)
      (pss_cons (ps_fld (pv 0) (pe_slice sl_tup (pe_fld (pv 0) rfl) po_none (po_some (pe_un un_neg pe_int))) rfl)
      (pss_cons (ps_fld (pv 0) (pe_slice sl_tup (pe_fld (pv 0) rfl) po_none (po_some (pe_un un_neg pe_int))) rfl)
      (pss_one (ps_ret (pe_fld (pv 0) rfl))))))))), ?_⟩
    refine ⟨_, rfl, u, rfl, hn, fun H1 s1 => ?_⟩
    replace hs := hs.same s1
    obtain ⟨⟨dx, m, tl, te, ts, ms, h1, h2, h3, h4, h5, h6⟩, hlen, hsm, hok⟩ := id hs
    refine ⟨_, rfl, s, _, dx, _, _, rfl, h1, T.o_Session.cl, T.na_own_log_Session, sfl_l _ _ _, nil_le, ?_⟩
    refine fun t0 n_t0 => ?_
    generalize g_t0 : L2.upd _ t0 _ = H2
    obtain ⟨s_H2, e_t0⟩ := U.upd_facts g_t0 n_t0
    clear g_t0
    have g3 := s_H2 _ _ h3
    have g4 : Paired (fun t (p : Str × Str) => H2 t = some (.tup [.str p.1, .str p.2])) ts lg := h4.map fun _ _ _ z => s_H2 _ _ z
    have g1 := s_H2 _ _ h1
    obtain ⟨sh, _⟩ := shaped_log hok
    refine ⟨.tuple (lg.map dTup), .tuple [], .tup (SqT.of g3) (dp_log g4), .tup (SqT.of e_t0) .nil, sh, rfl, _, rfl, ?_⟩
    rcases h with ⟨rfl, q⟩ | ⟨lg0, v, a, rfl, hv, q⟩ | ⟨lg0, a, gs0, g, rfl, rfl, q⟩
    · refine iteT ⟨_, rfl, ?_⟩
      exact mk_one fun d hd => q d H2 (s1.trans s_H2) hd
    · rw [log_ne]
      obtain ⟨ts0, t, rfl, p0, et⟩ := paired_unsnoc g4
      replace g3 : H2 tl = some (.tup (ts0.map V.ref ++ [.ref t])) := by rw [List.map_append] at g3; exact g3
      refine iteF ?_
      refine ⟨_, rfl, s, _, dx, _, _, rfl, g1, T.o_Session.cl, T.na_own_log_Session, sfl_l _ _ _, 1, rfl, tl, _, -1, .ref t, rfl, rfl, SqT.of g3, atI_last _ _, t, _, 0, .str v, rfl, rfl, SqT.of et, rfl, _, rfl, rfl, _, rfl, ?_⟩
      rw [decide_eq_false (show ¬ (V.str v = V.str u) from fun z => hv (V.str.inj z))]
      refine iteT ?_
      refine ⟨_, rfl, s, _, dx, _, _, rfl, g1, T.o_Session.cl, T.na_own_log_Session, sfl_l _ _ _, 1, rfl, tl, _, -1, .ref t, rfl, rfl, SqT.of g3, atI_last _ _, t, _, 0, .str v, rfl, rfl, SqT.of et, rfl, ?_⟩
      exact mk_one fun d hd => q d H2 (s1.trans s_H2) hd
    · rw [log_ne]
      obtain ⟨ts0, t, rfl, p0, et⟩ := paired_unsnoc g4
      replace g3 : H2 tl = some (.tup (ts0.map V.ref ++ [.ref t])) := by rw [List.map_append] at g3; exact g3
      refine iteF ?_
      refine ⟨_, rfl, s, _, dx, _, _, rfl, g1, T.o_Session.cl, T.na_own_log_Session, sfl_l _ _ _, 1, rfl, tl, _, -1, .ref t, rfl, rfl, SqT.of g3, atI_last _ _, t, _, 0, .str u, rfl, rfl, SqT.of et, rfl, _, rfl, rfl, _, rfl, ?_⟩
      rw [decide_eq_true (rfl : V.str u = V.str u)]
      refine iteF ?_
      obtain ⟨ms0, vm, rfl, pm, b, rfl, hb⟩ := paired_unsnoc (h6.same s_H2)
      have g5 := s_H2 _ _ h5
      refine ⟨_, rfl, s, _, dx, _, _, rfl, g1, T.o_Session.cl, T.na_own_earlier_Session, sfl_e _ _ _, 1, rfl, te, _, -1, .ref b, rfl, rfl, SqT.of g5, atI_last _ _, ?_⟩
      refine ⟨_, rfl, s, _, dx, _, rfl, g1, T.o_Session.cl, T.na_own_present_Session, (by show 3 < 1000; decide), ?_⟩
      rw [put_p]
      generalize g_H3 : L2.upd _ s _ = H3
      obtain ⟨o_H3, e_H3⟩ := st_facts g_H3
      clear g_H3
      have so2 : SOb H2 s := ⟨_, _, _, g1, rfl⟩
      have k3 := tupS g3 o_H3 so2
      have k5 := tupS g5 o_H3 so2
      refine ⟨_, rfl, s, _, dx, _, _, rfl, e_H3, T.o_Session.cl, T.na_own_log_Session, sfl_l _ _ _, 1, rfl, -1, rfl, tl, _, rfl, SqT.of k3, (cut_last _ _).2, ?_⟩
      rw [(cut_last (ts0.map V.ref) (.ref t)).1]
      refine fun t1 n_t1 => ?_
      generalize g_t1 : L2.upd _ t1 _ = H4
      obtain ⟨s_H4, e_t1⟩ := U.upd_facts g_t1 n_t1
      clear g_t1
      refine ⟨_, rfl, s, _, dx, _, rfl, s_H4 _ _ e_H3, T.o_Session.cl, T.na_own_log_Session, (by show 3 < 1000; decide), ?_⟩
      rw [put_l]
      generalize g_H5 : L2.upd _ s _ = H5
      obtain ⟨o_H5, e_H5⟩ := st_facts g_H5
      clear g_H5
      have so4 : SOb H4 s := ⟨_, _, _, s_H4 _ _ e_H3, rfl⟩
      have j5 := tupS (s_H4 _ _ k5) o_H5 so4
      refine ⟨_, rfl, s, _, dx, _, _, rfl, e_H5, T.o_Session.cl, T.na_own_earlier_Session, sfl_e _ _ _, 1, rfl, -1, rfl, te, _, rfl, SqT.of j5, (cut_last _ _).2, ?_⟩
      rw [(cut_last ms0 (.ref b)).1]
      refine fun t2 n_t2 => ?_
      generalize g_t2 : L2.upd _ t2 _ = H6
      obtain ⟨s_H6, e_t2⟩ := U.upd_facts g_t2 n_t2
      clear g_t2
      refine ⟨_, rfl, s, _, dx, _, rfl, s_H6 _ _ e_H5, T.o_Session.cl, T.na_own_earlier_Session, (by show 3 < 1000; decide), ?_⟩
      rw [put_e]
      generalize g_H7 : L2.upd _ s _ = H7
      obtain ⟨o_H7, e_H7⟩ := st_facts g_H7
      clear g_H7
      have so6 : SOb H6 s := ⟨_, _, _, s_H6 _ _ e_H5, rfl⟩
      have mv : ∀ {x : Addr} {g : PF}, IsMap T.C_Map H2 x n g → IsMap T.C_Map H7 x n g := fun h => ((((h.offS o_H3 so2).same s_H4).offS o_H5 so4).same s_H6).offS o_H7 so6
      have tv : ∀ {x : Addr} {xs : List V}, H2 x = some (.tup xs) → H7 x = some (.tup xs) := fun h => tupS (s_H6 _ _ (tupS (s_H4 _ _ (tupS h o_H3 so2)) o_H5 so4)) o_H7 so6
      have f1 : H7 t1 = _ := tupS (s_H6 _ _ (tupS e_t1 o_H5 so4)) o_H7 so6
      have f2 : H7 t2 = _ := tupS e_t2 o_H7 so6
      refine ⟨_, rfl, s, _, dx, _, _, rfl, e_H7, T.o_Session.cl, T.na_own_present_Session, sfl_p _ _ _, ?_⟩
      refine q b H7 (((((((Off.same (s1.trans s_H2)).tr o_H3).tr (Off.same s_H4)).tr o_H5).tr (Off.same s_H6)).tr o_H7)) ⟨⟨dx, b, t1, t2, ts0, ms0, e_H7, mv hb, f1, p0.map fun _ _ _ z => tv z, f2, PySem.Paired.map pm fun v _ f ⟨a, ea, mm⟩ => ⟨a, ea, mv mm⟩⟩, by simpa using hlen, by simp at hsm; omega, fun p hp => hok p (List.mem_append_left _ hp)⟩ (mv hb)
theorem ok_s_at (T : Txt K mg) : FnR P w K mg base CX0 4 T.f_Session_at (spAtS T.C_Session T.C_Map) := by
  refine T.A_Session_at.ok sc_Session_at (fun vs H Q E h => ?_) (fun cdv A outer s H vs Q E hr h => ?_)
  · obtain ⟨s, n, lg, gs, f, k, g, rfl, _⟩ := h
    rfl
  · obtain ⟨s, n, lg, gs, f, k, g, rfl, hs, hk, q⟩ := h
    obtain ⟨⟨dx, m, tl, te, ts, ms, h1, h2, h3, h4, h5, h6⟩, hlen, hsm, hok⟩ := id hs
    refine ⟨_, (pss_cons (ps_if (pt_not (pt_val (pe_callR (ok_in_range T) (hr.mono (by decide)) T.A_in_range.kp rfl T.g_in_range pass0 (pa_cons (pv 1) (pa_cons pe_int (pa_cons (pe_callB call_len_seq (by rfl) T.n_len (by decide +kernel) (pa_cons (pe_fld (pv 0) rfl) pa_nil)) pa_nil))))))
        (pss_one ps_never) pss_nil)
      (pss_one (ps_ret (pe_ix ix_tup (pe_tup (pa_star (pe_fld (pv 0) rfl) (pa_cons (pe_fld (pv 0) rfl) pa_nil))) (pv 1) (fun _ _ => rfl))))), ?_⟩
    have lk := (List.getElem?_eq_some_iff.mp hk).1
    rw [List.length_append, List.length_singleton] at lk
    have lts := paired_len h4
    have lms := paired_len h6
    refine ⟨_, rfl, _, rfl, s, _, dx, _, _, rfl, h1, T.o_Session.cl, T.na_own_log_Session, sfl_l _ _ _, tl, _, rfl, .inr (SqT.of h3), _, _, _, rfl, trivial, _, rfl, ?_⟩
    have hin : inR (V.int (k : Nat)) 0 (((ts.map V.ref).length : Nat) : Int) = true := by
      simp only [inR, Bool.and_eq_true, decide_eq_true_eq, List.length_map]
      omega
    rw [hin]
    refine iteF ?_
    refine ⟨_, rfl, s, _, dx, _, _, rfl, h1, T.o_Session.cl, T.na_own_earlier_Session, sfl_e _ _ _, te, ms, rfl, .inl (SqT.of h5), _, rfl, s, _, dx, _, _, rfl, h1, T.o_Session.cl, T.na_own_present_Session, sfl_p _ _ _, le_line (by simp only [List.length_append, List.length_cons, List.length_nil]; omega), ?_⟩
    refine fun t1 n_t1 => ?_
    generalize g_t1 : L2.upd _ t1 _ = H1
    obtain ⟨s_H1, e_t1⟩ := U.upd_facts g_t1 n_t1
    clear g_t1
    have hpm : MapsAt T.C_Map H n (ms ++ [.ref m]) (gs ++ [f]) := paired_snoc h6 ⟨m, rfl, h2⟩
    obtain ⟨v, ev⟩ : ∃ v, (ms ++ [V.ref m])[k]? = some v := ⟨_, List.getElem?_eq_getElem (by rw [List.length_append, List.length_singleton]; omega)⟩
    obtain ⟨b, g', rfl, eg', hb⟩ := hpm.get ev
    rw [hk] at eg'
    cases eg'
    exact ⟨_, rfl, t1, _, _, .ref b, rfl, rfl, SqT.of e_t1, atI_nat ev, q b H1 s_H1 (hb.same s_H1)⟩
end
end My
namespace My
open PySem L2 U StX PM
/-! ### plain: powers -/
def sgn (n : Int) (f : PF) (e : Int) : PF := if e < 0 then inv n f else f
theorem wf_sgn {n : Int} {f : PF} (w : WF n f) (e : Int) : WF n (sgn n f e) := by
  unfold sgn
  by_cases h : e < 0
  · rw [if_pos h]; exact wf_inv w
  · rw [if_neg h]; exact w
theorem pw_sgn (n : Int) (f : PF) (e : Int) : pw n f e = pk n (sgn n f e) e.natAbs := by
  unfold pw sgn
  by_cases h0 : e = 0
  · subst h0; rfl
  · rw [if_neg h0]
    have : e.natAbs = (e.natAbs - 1) + 1 := by omega
    by_cases h : e < 0
    · rw [if_pos h, if_pos h, this]; rfl
    · rw [if_neg h, if_neg h, this]; rfl
/-- [(.., ..) for x in d] -/
theorem lc_keysK {d : Addr} {l : List (Int × Int)} {te : TE} {i : Nat} {tv : TE} {vs : List Nat} {σ : L2.St} {H : Hp} {Q : VK} (kf vi : Int → Int → Int)
    (hd : H d = some (.dK (kvI l))) (hte : ∀ H' (R : VK), R (.ref d) H' → Off d H H' → te σ H' R)
    (hw : ∀ a, wipe ((wipe σ vs).set i a) vs = wipe σ vs)
    (hb : ∀ x y, (x, y) ∈ l → ∀ H1, Off d H H1 → Rd H1 d (.dK (kvI l)) → ∀ R : VK, (∀ p, H1 p = none → R (.ref p) (upd H1 p (.tup [.int (kf x y), .int (vi x y)]))) → tv ((wipe σ vs).set i (some (.int x))) H1 R)
    (hz : l.length < sizeLine)
    (hq : ∀ (D : Addr) (ps : List Addr) (H' : Hp), H D = none → H' D = some (.lst (ps.map V.ref)) → Paired (fun p (kv : Key × V) => H' p = some (.tup [kV kv.1, kv.2])) ps (kvI (madeI (fun _ _ => true) kf vi l)) → L2.Same H H' → Q (.ref D) H') :
    tLockE (tLc (iKeys te) (gName i) tYes tv vs) σ H Q := by
  refine ⟨d, _, hd, trivial, fun od => ?_⟩
  refine hte _ _ ⟨d, od, rfl, .inl ⟨kvI l, upd_same, fun D hD => ?_⟩⟩ Off.lock
  have hDd : D ≠ d := fun e => by rw [e, upd_same] at hD; cases hD
  have hD0 : H D = none := by rw [upd_ne hDd] at hD; exact hD
  refine lc_it walk_keys (fun k H' => H' d = some (.frz od (.dK (kvI l))) ∧ Off d H H' ∧ ∃ ps : List Addr, H' D = some (.lst (ps.map V.ref)) ∧ ps.length ≤ k ∧ (∀ p ∈ ps, p ≠ D ∧ p ≠ d) ∧ Paired (fun p (kv : Key × V) => H' p = some (.tup [kV kv.1, kv.2])) ps (kvI (madeI (fun _ _ => true) kf vi (l.take k)))) ⟨?_, Off.lock.mut hD0, [], upd_same, Nat.le_refl _, (fun p h => nomatch h), .nil⟩ (fun k H' _ p => p.1) ?_ ?_
  · rw [upd_ne hDd.symm]; exact upd_same
  · rintro k v H' H'' hk ⟨p1, p2, ps, p3, p4, p5, p6⟩ ⟨rfl, kk, vv, e1, rfl⟩
    obtain ⟨x, y, exy, rfl, rfl⟩ := kvI_get e1
    rw [kvI_length] at hk
    refine ⟨hw _, yes_ ?_⟩
    have st := madeI_step (c := fun _ _ => true) (kf := kf) (vi := vi) exy
    rw [if_pos rfl] at st
    refine hb x y (List.mem_of_getElem? exy) _ p2 (.inr ⟨od, p1⟩) _ fun p hp => ⟨_, carryNew hp p3, by rw [List.length_map]; omega, ?_⟩
    have hpD : p ≠ D := (ne_of_none p3 hp).symm
    have hpd : p ≠ d := (ne_of_none p1 hp).symm
    refine ⟨?_, (p2.tr (Off.new hp)).mut hD0, ps ++ [p], ?_, ?_, ?_, ?_⟩
    · rw [upd_ne hDd.symm, upd_ne hpd.symm]; exact p1
    · rw [upd_same, List.map_append]; rfl
    · rw [List.length_append, List.length_singleton]; omega
    · intro q hq
      rcases List.mem_append.mp hq with h | h
      · exact p5 q h
      · rw [List.mem_singleton] at h
        subst h
        exact ⟨hpD, hpd⟩
    · rw [st, show kvI (madeI (fun _ _ => true) kf vi (l.take k) ++ [(kf x y, vi x y)]) = kvI (madeI (fun _ _ => true) kf vi (l.take k)) ++ [(Sum.inl (kf x y), V.int (vi x y))] from by unfold kvI; rw [List.map_append]; rfl]
      refine PySem.Paired.snoc (p6.map fun q hq kv e => ?_) ?_
      · rw [upd_ne (p5 q hq).1, upd_ne (ne_of_none e hp)]; exact e
      · rw [upd_ne hpD]; exact upd_same
  · rintro H' ⟨p1, p2, ps, p3, p4, p5, p6⟩
    rw [kvI_length, List.take_length] at p6
    refine ⟨p1, hq D ps _ hD0 ?_ (p6.map fun q hq kv e => ?_) (p2.back hd)⟩
    · rw [upd_ne hDd]
      exact p3
    · rw [upd_ne (p5 q hq).2]; exact e
theorem off_free {p t : Addr} {H H1 : Hp} (p1 : PoolAt H1 p) (o : Off p H H1) (nt : H1 t = none) : H t = none := by
  cases e : H t with
  | none => rfl
  | some u =>
    have := o _ _ (p1.ne nt).symm e
    rw [nt] at this
    cases this
theorem off_put {p t : Addr} {H H1 : Hp} {u : HO} (p1 : PoolAt H1 p) (o : Off p H H1) (nt : H1 t = none) : Off p H (upd H1 t u) := Off.put o (off_free p1 o nt)
theorem if_cut {tt : TT} {t1 t2 : TS} {D : Ends} {σ : L2.St} {H : Hp} (Φ : Bool → Hp → Prop) (h : ∀ R : Bool → Hp → Prop, (∀ b H', Φ b H' → R b H') → tt σ H R) (ht : ∀ H', Φ true H' → t1 D σ H') (hf : ∀ H', Φ false H' → t2 D σ H') : tIfS tt t1 t2 D σ H := h _ fun b H' z => by
  cases b with
  | true => exact iteT (ht H' z)
  | false => exact iteF (hf H' z)
def spStepL : Sp := fun vs H Q _ => ∃ (p : Addr) (n : Int), vs = [.ref p, .int n] ∧ PoolAt H p ∧ 1 ≤ n ∧ n ≤ 300 ∧ ∀ t s H', PoolAt H' p → Off p H H' → H t = none → H' t = some (.tup (Stp.vs s)) → Stp.ok n s → Q (.ref t) H'
def spStpd : Sp := fun vs H Q _ => ∃ (d t : Addr) (l : List (Int × Int)) (n : Int) (f : PF) (s : Stp), vs = [.ref d, .ref t] ∧ H d = some (.dK (kvI l)) ∧ DI l f ∧ WF n f ∧ n ≤ 300 ∧ H t = some (.tup (Stp.vs s)) ∧ Stp.ok n s ∧
  ∀ p l' H', Same H H' → H p = none → H' p = some (.dK (kvI l')) → DI l' (stp1 f s) → Q (.ref p) H'
def spFull : Sp := fun vs H Q _ => ∃ n : Int, vs = [.int n] ∧ 1 ≤ n ∧ n ≤ 300 ∧ ∀ p l H', Same H H' → H p = none → H' p = some (.dK (kvI l)) → DI l (idn n) → l.length ≤ n.toNat → Q (.ref p) H'
def spLPw : Sp := fun vs H Q _ => ∃ (d : Addr) (l : List (Int × Int)) (n : Int) (f : PF) (e : Int), vs = [.ref d, .int n, .int e] ∧ H d = some (.dK (kvI l)) ∧ DI l f ∧ WF n f ∧ 1 ≤ n ∧ n ≤ 300 ∧ e.natAbs ≤ 1000 ∧
  ∀ p l' H', Same H H' → H p = none → H' p = some (.dK (kvI l')) → DI l' (pw n f e) → Q (.ref p) H'
section
variable {P : Program} {w : World} {K : PySem.W.Frag} {mg : Str → Option Value} {base : Heap}
theorem ok_l_full (T : Txt K mg) : FnR P w K mg base CX0 2 T.f_l_full spFull := by
  refine T.A_l_full.ok sc_l_full (fun vs H Q E h => ?_) (fun cdv A outer s H vs Q E hr h => ?_)
  · obtain ⟨n, rfl, _⟩ := h
    rfl
  · obtain ⟨n, rfl, n1, n2, q⟩ := h
    refine ⟨_, (pss_one (ps_ret (pe_callTy (call_dictP rfl) (by rfl) T.n_dict (by decide +kernel) (pa_cons (pe_lc (own := [("_law_source", 1)]) (g := (gName 1)) (tt := tYes) rfl sc_l_full.nd (pi_range1 rfl T.n_range (pa_cons (pv 0) pa_nil)) (blkOk_by (own := [("_law_source", 1)]) (N := n_l_full) (sc := defScope s_l_full) (by decide +kernel)) (fun _ _ _ _ _ => (pg_name (i := 1) sc_l_full.nd rfl (Or.inl rfl))) (fun _ _ _ _ _ => pts_nil) (fun _ _ _ _ _ => (pe_tup (pa_cons (pv 1) (pa_cons (pv 1) pa_nil))))) pa_nil)))), ?_⟩
    dsimp only [tRet, tSeq, tAsg, tCB, tCons, tNil]
    refine lc_rangeT (n := n.toNat) (H := H) (fun k => (k : Int)) (fun k => (k : Int)) (fun R rr => ⟨_, rfl, n, rfl, by omega, by omega, rr⟩) (fun _ => rfl) (small1000 (by omega)) (fun k hk H1 s1 R r => ⟨_, rfl, _, rfl, (by show 2 ≤ sizeLine; decide), fun p hp => by rw [Int.zero_add]; exact r p hp⟩) (fun D ps H2 nD hD hp s2 => ?_)
    have di0 := id_di n.toNat
    rw [show ((n.toNat : Nat) : Int) = n by omega] at di0
    obtain ⟨l0, e0', hl0, dl0⟩ := dict_of di0
    refine ⟨D, ps, _, rfl, SqL.of hD, hp.map fun p _ kv e => SqT.of e, fun p0 np0 => ?_⟩
    rw [e0']
    rw [List.length_map, List.length_range] at hl0
    exact q p0 l0 _ (s2.trans (Same.new np0)) (s2.free np0) upd_same dl0 hl0
theorem ok_l_inverse (T : Txt K mg) : FnR P w K mg base CX0 2 T.f_l_inverse spBack := by
  refine T.A_l_inverse.ok sc_l_inverse (fun vs H Q E h => ?_) (fun cdv A outer s H vs Q E hr h => ?_)
  · obtain ⟨d1, l1, n, f, rfl, _⟩ := h
    rfl
  · obtain ⟨d1, l1, n, f, rfl, h1, di1, wf, hl, q⟩ := h
    have hu := hu_of hr
    refine ⟨_, (pss_one (ps_ret (pe_callTy (call_dictP rfl) (by rfl) T.n_dict (by decide +kernel) (pa_cons (pe_lock (pe_lc (own := [("_law_source", 1)]) (g := (gName 1)) (tt := tYes) rfl sc_l_inverse.nd (pi_keys (pv 0)) (blkOk_by (own := [("_law_source", 1)]) (N := n_l_inverse) (sc := defScope s_l_inverse) (by decide +kernel)) (fun _ _ _ _ _ => (pg_name (i := 1) sc_l_inverse.nd rfl (Or.inl rfl))) (fun _ _ _ _ _ => pts_nil) (fun _ _ _ _ _ => (pe_tup (pa_cons (pe_dget hu (pv 0) (pv 1) (fun _ _ => rfl)) (pa_cons (pv 1) pa_nil)))))) pa_nil)))), ?_⟩
    refine lc_keysK (fun _ y => y) (fun x _ => x) h1 (fun H' R r o => ⟨_, rfl, r⟩) (fun _ => rfl) (fun x y hxy H1 o ho R r => ?_) (small1000 hl) (fun D ps H' nD hD hp s1 => ?_)
    · have g1 := rd_get ho di1 x
      rw [di1.mem.mp hxy] at g1
      exact ⟨_, rfl, _, rfl, d1, .int y, rfl, g1, _, rfl, two_le, fun p hp => r p hp⟩
    · refine dictP_of hD hp (back_diL wf di1) fun p l np hl' dl => ?_
      exact q p l _ (s1.trans (Same.new np)) (s1.free np) upd_same dl (Nat.le_trans hl' (madeI_len ..))
theorem ok_l_pwr (T : Txt K mg) : FnR P w K mg base CX0 4 T.f_l_power spLPw := by
  refine T.A_l_power.ok sc_l_power (fun vs H Q E h => ?_) (fun cdv A outer s H vs Q E hr h => ?_)
  · obtain ⟨d, l, n, f, e, rfl, _⟩ := h
    rfl
  · obtain ⟨d, l, n, f, e, rfl, hd, di, wf, n1, n2, e1, q⟩ := h
    refine ⟨_, (pss_cons (ps_set (i := 3) sc_l_power.nd rfl (Or.inl rfl) (pe_callR (ok_l_full T) (hr.mono (by decide)) T.A_l_full.kp rfl T.g_l_full pass0 (pa_cons (pv 1) pa_nil)))
      (pss_cons (ps_for PassesOwn.never rfl (pi_range1 rfl T.n_range (pa_cons (pe_callB call_abs (by rfl) T.n_abs (by decide +kernel) (pa_cons (pv 2) pa_nil)) pa_nil)) (pg_name (i := 4) sc_l_power.nd rfl (Or.inl rfl))
        (pss_one (ps_set (i := 3) sc_l_power.nd rfl (Or.inl rfl) (pe_callR (ok_l_product T) (hr.mono (by decide)) T.A_l_product.kp rfl T.g_l_product pass0 (pa_cons (pv 3) (pa_cons (pe_ix ix_list (pe_lst (pa_cons (pv 0) (pa_cons (pe_callR (ok_l_inverse T) (hr.mono (by decide)) T.A_l_inverse.kp rfl T.g_l_inverse pass0 (pa_cons (pv 0) pa_nil)) pa_nil))) (pe_callTy call_int1 (by rfl) T.n_int (by decide +kernel) (pa_cons (pe_cmpR op_lt (pv 2) pe_int (nomark _)) pa_nil)) (fun _ _ => rfl)) pa_nil))))))
      (pss_one (ps_ret (pv 3))))), ?_⟩
    refine ⟨_, rfl, n, rfl, n1, n2, fun p0 l0 H2 s2 np0 hp0 dl0 hl0 => ?_⟩
    have lln := di_lenN di wf
    have s3 : Same H H2 := s2
    refine ⟨_, rfl, _, rfl, _, rfl, by omega, by omega, ?_⟩
    have wg := wf_sgn wf e
    refine for_it (walk_range (lo := 0)) (fun i σ H' => ∃ v4 p l', σ = [some (.ref d), some (.int n), some (.int e), some (.ref p), v4] ∧ Same H H' ∧ H p = none ∧ H' p = some (.dK (kvI l')) ∧ DI l' (pk n (sgn n f e) i) ∧ l'.length ≤ n.toNat)
      ⟨_, p0, l0, rfl, s2, np0, hp0, dl0, by omega⟩ (fun _ _ _ _ _ => trivial) ?_ ?_
    · rintro i v σ H' H'' hi ⟨v4, p, l', rfl, t1, t2, t3, t4, t5⟩ ⟨rfl, rfl⟩
      refine ⟨_, rfl, _, rfl, _, rfl, d, l, n, f, rfl, t1 _ _ hd, di, wf, by omega, fun pb lb H4 s4 npb hpb dib hlb => ?_⟩
      refine ⟨two_le, ?_⟩
      refine fun tq n_tq => ?_
      generalize g_tq : L2.upd _ tq _ = H5
      obtain ⟨s_H5, e_tq⟩ := U.upd_facts g_tq n_tq
      clear g_tq
      refine ⟨_, rfl, _, _, rfl, rfl, .inr ⟨_, rfl, tq, _, _, _, rfl, rfl, SqL.of e_tq, pick2 _ _ _, ?_⟩⟩
      have s15 := t1.trans (s4.trans s_H5)
      obtain ⟨ds, ls, eds, hds, dis, hls⟩ : ∃ ds ls, (if decide (e < 0) = true then V.ref pb else V.ref d) = .ref ds ∧ H5 ds = some (.dK (kvI ls)) ∧ DI ls (sgn n f e) ∧ ls.length ≤ 1000 := by
        unfold sgn
        by_cases h : e < 0
        · rw [decide_eq_true h, if_pos rfl, if_pos h]
          exact ⟨pb, lb, rfl, s_H5 _ _ hpb, dib, by omega⟩
        · rw [decide_eq_false h, if_neg Bool.false_ne_true, if_neg h]
          exact ⟨d, l, rfl, s15 _ _ hd, di, by omega⟩
      rw [eds]
      refine ⟨p, ds, l', ls, n, _, sgn n f e, rfl, (s4.trans s_H5) _ _ t3, hds, t4, dis, wf_pk wg i, wg, by omega, fun p2 l2 H6 s6 np2 hp2 dl2 hl2 => ?_⟩
      rw [pk_succ wg] at dl2
      exact ⟨_, p2, l2, rfl, s15.trans s6, s15.free np2, hp2, dl2, by omega⟩
    · rintro σ H' ⟨v4, p, l', rfl, t1, t2, t3, t4, t5⟩
      rw [show (if e < 0 then -e else e).toNat = e.natAbs by split <;> omega, ← pw_sgn] at t4
      exact ⟨_, rfl, q p l' H' t1 t2 t3 t4⟩
theorem ok_l_step (T : Txt K mg) : FnR P w K mg base CX0 3 T.f_l_step spStepL := by
  refine T.A_l_step.ok sc_l_step (fun vs H Q E h => ?_) (fun cdv A outer s H vs Q E hr h => ?_)
  · obtain ⟨p, n, rfl, _⟩ := h
    rfl
  · obtain ⟨p, n, rfl, pool, n1, n2, q⟩ := h
    refine ⟨_, (pss_cons (ps_if (PW.pt (pw_or (pt_cmpR op_eq (pv 1) pe_int (nomark _)) (pw_or1 (pt_cmpR op_eq (pe_callR (ok_draw T) (hr.mono (by decide)) T.A_l_draw.kp rfl T.g_l_draw pass0 (pa_cons (pv 0) (pa_cons pe_int pa_nil))) pe_int (nomark _)))))
        (pss_one (ps_ret (pe_tup (pa_cons pe_str (pa_cons (pe_callR (ok_draw T) (hr.mono (by decide)) T.A_l_draw.kp rfl T.g_l_draw pass0 (pa_cons (pv 0) (pa_cons (pv 1) pa_nil))) pa_nil))))) pss_nil)
      (pss_cons (ps_set (i := 2) sc_l_step.nd rfl (Or.inl rfl) (pe_callR (ok_draw T) (hr.mono (by decide)) T.A_l_draw.kp rfl T.g_l_draw pass0 (pa_cons (pv 0) (pa_cons (pv 1) pa_nil))))
      (pss_one (ps_ret (pe_tup (pa_cons pe_str (pa_cons (pv 2) (pa_cons (pe_op op_mod (pe_op op_add (pe_op op_add (pv 2) pe_int) (pe_callR (ok_draw T) (hr.mono (by decide)) T.A_l_draw.kp rfl T.g_l_draw pass0 (pa_cons (pv 0) (pa_cons (pe_op op_sub (pv 1) pe_int) pa_nil)))) (pv 1)) pa_nil)))))))), ?_⟩
    have fin : ∀ (H1 : Hp), PoolAt H1 p → Off p H H1 → ∀ s : Stp, Stp.ok n s → ∀ t, H1 t = none → Q (.ref t) (upd H1 t (.tup (Stp.vs s))) := fun H1 p1 o1 s hs t nt => q t s _ (p1.put (p1.ne nt)) (off_put p1 o1 nt) (off_free p1 o1 nt) upd_same hs
    refine if_cut (fun b H1 => PoolAt H1 p ∧ Off p H H1 ∧ (b = false → 2 ≤ n)) (fun R rr => ?_) (fun H1 ⟨p1, o1, _⟩ => ?_) (fun H1 ⟨p1, o1, n3⟩ => ?_)
    · refine ⟨_, rfl, rfl, _, rfl, ?_⟩
      refine ifD (fun h => ?_) (fun h => ?_)
      · exact rr _ _ ⟨pool, Off.same (Same.refl _), fun z => nomatch z⟩
      · have hn : n ≠ 1 := fun z => h (by rw [z])
        refine draw_R rfl (fun R r => r) pool (by omega) (by decide) fun r H1 r0 r1 p1 o1 => ⟨rfl, _, rfl, rr _ _ ⟨p1, o1, fun _ => by omega⟩⟩
    · refine draw_R rfl (fun R r => ⟨_, rfl, r⟩) p1 (by omega) (by omega) fun r H2 r0 r1 p2 o2 => ?_
      exact ⟨two_le, fun t nt => fin H2 p2 (o1.tr o2) (.fg r) ⟨r0, r1⟩ t nt⟩
    · have n3 := n3 rfl
      refine draw_R rfl (fun R r => ⟨_, rfl, r⟩) p1 (by omega) (by omega) fun r H2 r0 r1 p2 o2 => ?_
      refine ⟨_, rfl, _, rfl, _, _, rfl, rfl, ?_⟩
      refine draw_R rfl (fun R r => ⟨_, rfl, _, _, rfl, rfl, r⟩) p2 (by omega) (by omega) fun r2 H3 r20 r21 p3 o3 => ?_
      refine ⟨_, _, rfl, rfl, _, rfl, _, _, rfl, rfl, by omega, three_le, fun t nt => ?_⟩
      refine fin H3 p3 ((o1.tr o2).tr o3) (.sw r ((r + 1 + r2) % n)) ?_ t nt
      have m0 := Int.emod_nonneg (r + 1 + r2) (show n ≠ 0 by omega)
      have m1 := Int.emod_lt_of_pos (r + 1 + r2) (show 0 < n by omega)
      refine ⟨r0, r1, m0, m1, fun z => ?_⟩
      by_cases hlt : r + 1 + r2 < n
      · rw [Int.emod_eq_of_lt (by omega) hlt] at z; omega
      · have e : (r + 1 + r2) % n = r + 1 + r2 - n := by
          have h1 : (r + 1 + r2 - n) % n = (r + 1 + r2) % n := Int.sub_emod_right _ _
          rw [← h1]
          exact Int.emod_eq_of_lt (by omega) (by omega)
        omega
end
end My
namespace My
open PySem L2 U StX PM
/-- the law's model -/
def mdl (n : Int) (L G : Addr) : List (Key × V) := [(Sum.inr "size", .int n), (Sum.inr "tables", .ref L), (Sum.inr "log", .ref G)]
structure ModAt (H : Hp) (md : Addr) (n : Int) (lg : List (Str × Str)) (fs : List PF) : Prop where
  ob : ∃ L G ds us, H md = some (.dK (mdl n L G)) ∧ H L = some (.lst (ds.map V.ref)) ∧ TabsAt H n ds fs ∧ H G = some (.lst (us.map V.ref)) ∧ Paired (fun t (p : Str × Str) => H t = some (.tup [.str p.1, .str p.2])) us lg
theorem ModAt.same {H H' : Hp} {md : Addr} {n : Int} {lg : List (Str × Str)} {fs : List PF} (h : ModAt H md n lg fs) (s : Same H H') : ModAt H' md n lg fs := by
  obtain ⟨L, G, ds, us, h1, h2, h3, h4, h5⟩ := h.ob
  exact ⟨L, G, ds, us, s _ _ h1, s _ _ h2, h3.same s, s _ _ h4, h5.map fun _ _ _ z => s _ _ z⟩
def spUserL : Sp := fun vs H Q _ => ∃ p : Addr, vs = [.ref p] ∧ PoolAt H p ∧ ∀ u H', PoolAt H' p → Off p H H' → nameS u = true → OkS u → u.length ≤ 8 → Q (.str u) H'
def spModel : Sp := fun vs H Q _ => ∃ n : Int, vs = [.int n] ∧ 1 ≤ n ∧ n ≤ 300 ∧ ∀ md H', Same H H' → H md = none → ModAt H' md n [] [idn n] → Q (.ref md) H'
section
variable {P : Program} {w : World} {K : PySem.W.Frag} {mg : Str → Option Value} {base : Heap}
theorem ok_l_stepped (T : Txt K mg) : FnR P w K mg base CX0 2 T.f_l_stepped spStpd := by
  refine T.A_l_stepped.ok sc_l_stepped (fun vs H Q E h => ?_) (fun cdv A outer s H vs Q E hr h => ?_)
  · obtain ⟨d, t, l, n, f, s, rfl, _⟩ := h
    rfl
  · obtain ⟨d, t, l, n, f, sp, rfl, hd, di, wf, n2, ht, hok, q⟩ := h
    have hu := hu_of hr
    have lln := di_lenN di wf
    refine ⟨_, (pss_cons (ps_set (i := 2) sc_l_stepped.nd rfl (Or.inr rfl) (pe_callTy call_dictD (by rfl) T.n_dict (by decide +kernel) (pa_cons (pv 0) pa_nil)))
      (pss_cons (ps_if (pt_cmpR op_eq (pe_ix ix_tup (pv 1) pe_int (fun _ _ => rfl)) pe_str (nomark _))
        (pss_cons (ps_expr (pe_dpop2 (pv 2) (pe_ix ix_tup (pv 1) pe_int (fun _ _ => rfl)) pe_non ⟨rfl, rfl, rfl, rfl⟩))
      (pss_one (ps_ret (pv 2)))) pss_nil)
      (pss_cons (ps_set (i := 3) sc_l_stepped.nd rfl (Or.inr rfl) (pe_callTy (call_dictP rfl) (by rfl) T.n_dict (by decide +kernel) (pa_cons (pe_lst (pa_cons (pe_tup (pa_cons (pe_ix ix_tup (pv 1) pe_int (fun _ _ => rfl)) (pa_cons (pe_ix ix_tup (pv 1) pe_int (fun _ _ => rfl)) pa_nil))) (pa_cons (pe_tup (pa_cons (pe_ix ix_tup (pv 1) pe_int (fun _ _ => rfl)) (pa_cons (pe_ix ix_tup (pv 1) pe_int (fun _ _ => rfl)) pa_nil))) pa_nil))) pa_nil)))
      (pss_one (ps_ret (pe_callTy (call_dictP rfl) (by rfl) T.n_dict (by decide +kernel) (pa_cons (pe_lock (pe_lc (own := [("_law_source", 4)]) (g := (gName 4)) (tt := tYes) rfl sc_l_stepped.nd (pi_keys (pv 2)) (blkOk_by (own := [("_law_source", 4)]) (N := n_l_stepped) (sc := defScope s_l_stepped) (by decide +kernel)) (fun _ _ _ _ _ => (pg_name (i := 4) sc_l_stepped.nd rfl (Or.inl rfl))) (fun _ _ _ _ _ => pts_nil) (fun _ _ _ _ _ => (pe_tup (pa_cons (pv 4) (pa_cons (pe_dget2 hu (pv 3) (pe_dget hu (pv 2) (pv 4) (fun _ _ => rfl)) (pe_dget hu (pv 2) (pv 4) (fun _ _ => rfl)) ⟨rfl, rfl, rfl, rfl⟩) pa_nil)))))) pa_nil))))))), ?_⟩
    refine ⟨_, rfl, d, _, rfl, .inl hd, ?_⟩
    refine fun N n_N => ?_
    generalize g_N : L2.upd _ N _ = H1
    obtain ⟨s_H1, e_N⟩ := U.upd_facts g_N n_N
    clear g_N
    have ht1 := s_H1 _ _ ht
    cases sp with
    | fg x =>
      refine ⟨_, rfl, t, _, 0, .str "forget", rfl, rfl, SqT.of ht1, rfl, rfl, _, rfl, iteT ?_⟩
      refine pop2R rfl e_N di x (fun R r => ⟨_, rfl, t, _, 1, .int x, rfl, rfl, SqT.of ht1, rfl, r⟩) fun l3 H3 hG3 d3 le3 o3 => ?_
      refine ⟨_, rfl, q N l3 H3 (fun c o e => o3 _ _ (ne_of_none e n_N) (s_H1 _ _ e)) n_N hG3 ?_⟩
      exact d3
    | sw x y =>
      obtain ⟨_, _, _, _, hxy⟩ := hok
      refine ⟨_, rfl, t, _, 0, .str "swap", rfl, rfl, SqT.of ht1, rfl, rfl, _, rfl, iteF ?_⟩
      refine ⟨_, rfl, t, _, 1, .int x, rfl, rfl, SqT.of ht1, rfl, _, rfl, t, _, 2, .int y, rfl, rfl, SqT.of ht1, rfl, two_le, ?_⟩
      refine fun p1 n_p1 => ?_
      generalize g_p1 : L2.upd _ p1 _ = H2
      obtain ⟨s_H2, e_p1⟩ := U.upd_facts g_p1 n_p1
      clear g_p1
      have ht2 := s_H2 _ _ ht1
      refine ⟨_, rfl, t, _, 2, .int y, rfl, rfl, SqT.of ht2, rfl, _, rfl, t, _, 1, .int x, rfl, rfl, SqT.of ht2, rfl, two_le, ?_⟩
      refine fun p2 n_p2 => ?_
      generalize g_p2 : L2.upd _ p2 _ = H3
      obtain ⟨s_H3, e_p2⟩ := U.upd_facts g_p2 n_p2
      clear g_p2
      refine ⟨two_le, ?_⟩
      refine fun D0 n_D0 => ?_
      generalize g_D0 : L2.upd _ D0 _ = H4
      obtain ⟨s_H4, e_D0⟩ := U.upd_facts g_D0 n_D0
      clear g_D0
      obtain ⟨l2, e2, _, d2⟩ := dict_of (di_two hxy)
      refine ⟨D0, [p1, p2], kvI [(x, y), (y, x)], rfl, SqL.of e_D0, .cons (SqT.of (by array_get_dec)) (.cons (SqT.of (by array_get_dec)) .nil), ?_⟩
      rw [e2]
      refine fun D n_D => ?_
      generalize g_D : L2.upd _ D _ = H5
      obtain ⟨s_H5, e_D⟩ := U.upd_facts g_D n_D
      clear g_D
      have hN2 : H5 N = some (.dK (kvI l)) := (by array_get_dec)
      have nDN : D ≠ N := (ne_of_none (U.carry (H' := H4) (by array_mem_dec) e_N) n_D).symm
      have s5 : Same H H5 := (by array_mem_dec)
      refine lc_keysK (fun x _ => x) (fun _ z => if z = x then y else if z = y then x else z) hN2 (fun H' R r o => ⟨_, rfl, r⟩) (fun _ => rfl) (fun z u hzu H6 o ho R r => ?_) (small1000 (by omega)) (fun D3 ps H' nD3 hD3 hp' s1 => ?_)
      · have h1 := o _ _ nDN e_D
        have g1 := rd_get ho di z
        rw [di.mem.mp hzu] at g1
        refine ⟨_, rfl, _, rfl, D, rfl, isD_of h1, _, rfl, _, rfl, N, .int u, rfl, g1, _, rfl, _, rfl, N, .int u, rfl, g1, _, dgetL h1 d2 u, ?_⟩
        rw [get_two]
        exact ⟨two_le, fun p hp => r p hp⟩
      · refine ⟨D3, ps, _, rfl, SqL.of hD3, hp'.map fun p _ kv e => SqT.of e, fun p np => ?_⟩
        obtain ⟨l9, e9, hl', dl⟩ := dict_of (sw_diL di x y)
        rw [e9]
        exact q p l9 _ ((s5.trans s1).trans (Same.new np)) ((s5.trans s1).free np) upd_same dl
theorem ok_l_model (T : Txt K mg) : FnR P w K mg base CX0 4 T.f_l_model spModel := by
  refine T.A_l_model.ok sc_l_model (fun vs H Q E h => ?_) (fun cdv A outer s H vs Q E hr h => ?_)
  · obtain ⟨n, rfl, _⟩ := h
    rfl
  · obtain ⟨n, rfl, n1, n2, q⟩ := h
    refine ⟨_, (pss_one (ps_ret (pe_disp (pps_cons pe_str (pv 0) (pps_cons pe_str (pe_lst (pa_cons (pe_callR (ok_l_full T) (hr.mono (by decide)) T.A_l_full.kp rfl T.g_l_full pass0 (pa_cons (pv 0) pa_nil)) pa_nil)) (pps_cons pe_str (pe_lst pa_nil) pps_nil))) (by rfl) (by rfl) (fun z => by cases z) (by decide)))), ?_⟩
    refine fun D n_D => ?_
    generalize g_D : L2.upd _ D _ = H1
    obtain ⟨s_H1, e_D⟩ := U.upd_facts g_D n_D
    clear g_D
    refine ⟨_, rfl, _, rfl, n, rfl, n1, n2, fun p l H2 s2 np hp dl hl => ⟨one_le, ?_⟩⟩
    refine fun L n_L => ?_
    generalize g_L : L2.upd _ L _ = H3
    obtain ⟨s_H3, e_L⟩ := U.upd_facts g_L n_L
    clear g_L
    refine ⟨nil_le, ?_⟩
    refine fun G n_G => ?_
    generalize g_G : L2.upd _ G _ = H4
    obtain ⟨s_H4, e_G⟩ := U.upd_facts g_G n_G
    clear g_G
    have eD : H4 D = some (.dK []) := (by array_get_dec)
    refine ⟨eD, mdl n L G, rfl, (by show 3 ≤ 15; decide), ?_⟩
    have em : mergeK [] (mdl n L G) = mdl n L G := rfl
    rw [em]
    have nD : H D = none := n_D
    have s4 : Same H H4 := (by array_mem_dec)
    have npD : p ≠ D := (ne_of_none e_D np).symm
    have nLD : L ≠ D := (ne_of_none (s2 _ _ e_D) n_L).symm
    have nGD : G ≠ D := (ne_of_none (s_H3 _ _ (s2 _ _ e_D)) n_G).symm
    refine q D _ (Same.put s4 nD) nD ⟨L, G, [p], [], upd_same, ?_, .cons ⟨l, ?_, dl, wf_idn n⟩ .nil, ?_, .nil⟩
    · rw [upd_ne nLD]; exact s_H4 _ _ e_L
    · rw [upd_ne npD]; exact s_H4 _ _ (s_H3 _ _ hp)
    · rw [upd_ne nGD]; exact e_G
theorem ok_l_user (T : Txt K mg) : FnR P w K mg base CX0 3 T.f_l_user spUserL := by
  refine T.A_l_user.ok sc_l_user (fun vs H Q E h => ?_) (fun cdv A outer s H vs Q E hr h => ?_)
  · obtain ⟨p, rfl, _⟩ := h
    rfl
  · obtain ⟨p, rfl, pool, q⟩ := h
    refine ⟨_, (pss_one (ps_ret (pe_ix ix_list (pe_lst (pa_cons pe_str (pa_cons pe_str (pa_cons pe_str pa_nil)))) (pe_callR (ok_draw T) (hr.mono (by decide)) T.A_l_draw.kp rfl T.g_l_draw pass0 (pa_cons (pv 0) (pa_cons pe_int pa_nil))) (fun _ _ => rfl)))), ?_⟩
    refine ⟨three_le, ?_⟩
    refine fun L n_L => ?_
    generalize g_L : L2.upd _ L _ = H1
    obtain ⟨s_H1, e_L⟩ := U.upd_facts g_L n_L
    clear g_L
    have npL := pool.ne n_L
    refine draw_R rfl (fun R r => r) (pool.same s_H1) (by decide) (by decide) fun r H2 r0 r1 p2 o2 => ?_
    obtain ⟨v, hv, hm⟩ := at_nat (xs := [V.str "ann", .str "bob", .str "abcdefgh"]) r0 (by simp; omega)
    refine ⟨L, _, _, v, rfl, rfl, SqL.of (o2 _ _ npL.symm e_L), hv, ?_⟩
    have oo : Off p H H2 := (Off.same s_H1).tr o2
    simp only [List.mem_cons, List.not_mem_nil, or_false] at hm
    rcases hm with rfl | rfl | rfl
    · exact q _ _ p2 oo (by decide +kernel) (by unfold OkS; decide +kernel) (by decide +kernel)
    · exact q _ _ p2 oo (by decide +kernel) (by unfold OkS; decide +kernel) (by decide +kernel)
    · exact q _ _ p2 oo (by decide +kernel) (by unfold OkS; decide +kernel) (by decide +kernel)
end
end My
namespace My
open PySem PySem.Spec PyProof.Rows L2 U StX PM
def tMeth0R (C : Addr) (m : Str) (sp : Sp) (E : XK) (ta : TE) : TE := fun σ H Q => ta σ H fun x H1 => ∃ a dx fs, x = .ref a ∧ H1 a = some (.ins C dx fs) ∧ fs.lookup m = none ∧ sp [x] H1 Q E
theorem pe_meth0R {X : Cx} {CX : CXT} {k : Nat} {C f : Addr} {m : Str} {sp : Sp} {E : XK} {o : Expr} {ta : TE} {apos pos : Pos} {pl : Sem Bool} (he : PE X o ta) (c : Cls X.K C) (hm : Meth X.K C m f)
    (F : FnR X.prog X.w X.K X.mg X.base CX k f sp) (hr : Room k X.A) (hx : Passes CX X E)
    (ht : eval (.Call (.Attribute o m apos) [] [] pos) X.env = (do
      let ov ← eval o X.env
      standAt apos.atName
      let (f, first) ← holding [ov] (getMethod ov m pl)
      callWith pos f first (backTo pos (starEach [] X.env)) (backToKw pos (keywordEach [] X.env))) := by rfl) :
    PE X (.Call (.Attribute o m apos) [] [] pos) (tMeth0R C m sp E ta) := by
  refine ⟨fun pins s σ H Q I h => ?_⟩
  refine PySem.W.methodCall_KW (pl := pl) (thn (he.run pins s σ H _ I h) fun u s1 ⟨x, H1, I1, rx, a, dx, fs, ex, ea, l, q⟩ => ?_) ht
  subst ex
  obtain rfl : u = Value.ref a := rx
  refine getmeth_ok I1 ea c hm l ?_
  exact PySem.W.callWith_K0 (first := [.ref a]) I1.kIn hm.kp (wpAny_call (run_fnR (us := [.ref a]) (vs := [.ref a]) F hr hx I1 (.cons rfl .nil) q))
theorem mdl_size {H : Hp} {md L G : Addr} {n : Int} (h : H md = some (.dK (mdl n L G))) : DGet H md (.str "size") (some (.int n)) := DGet.k (k := Sum.inr "size") h
theorem mdl_tables {H : Hp} {md L G : Addr} {n : Int} (h : H md = some (.dK (mdl n L G))) : DGet H md (.str "tables") (some (.ref L)) := DGet.k (k := Sum.inr "tables") h
theorem mdl_log {H : Hp} {md L G : Addr} {n : Int} (h : H md = some (.dK (mdl n L G))) : DGet H md (.str "log") (some (.ref G)) := DGet.k (k := Sum.inr "log") h
def spShows (C CM : Addr) : Sp := fun vs H Q _ => ∃ (s md : Addr) (n : Int) (lg : List (Str × Str)) (gs : List PF) (f : PF), vs = [.ref s, .ref md] ∧ SessAt C CM H s n lg gs f ∧ ModAt H md n lg (gs ++ [f]) ∧ 1 ≤ n ∧ n ≤ 300 ∧ ∀ H', Same H H' → Q (.bl true) H'
theorem log_eq {K : PySem.W.Frag} {H : Hp} {a b : Addr} {ts us : List Addr} {lg : List (Str × Str)} (h1 : H a = some (.lst (ts.map V.ref))) (p1 : Paired (fun t (p : Str × Str) => H t = some (.tup [.str p.1, .str p.2])) ts lg) (h2 : H b = some (.lst (us.map V.ref))) (p2 : Paired (fun t (p : Str × Str) => H t = some (.tup [.str p.1, .str p.2])) us lg) (ok : ∀ p ∈ lg, OkS p.1 ∧ OkS p.2) : ∃ d e, Dp K H (.ref a) d ∧ Dp K H (.ref b) e ∧ SeqAt.shaped d = true ∧ SeqAt.shaped e = true ∧ PyData.eqv d e = true := by
  obtain ⟨_, sh⟩ := shaped_log ok
  exact ⟨.list (lg.map dTup), .list (lg.map dTup), .lst (SqL.of h1) (dp_log p1), .lst (SqL.of h2) (dp_log p2), sh, sh, SeqAt.eqv_refl _ (SeqAt.canLay_of_shaped sh)⟩
section
variable {P : Program} {w : World} {K : PySem.W.Frag} {mg : Str → Option Value} {base : Heap}
theorem ok_l_shows (T : Txt K mg) : FnR P w K mg base CX0 12 T.f_l_shows (spShows T.C_Session T.C_Map) := by
  refine T.A_l_shows.ok sc_l_shows (fun vs H Q E h => ?_) (fun cdv A outer s H vs Q E hr h => ?_)
  · obtain ⟨s, md, n, lg, gs, f, rfl, _⟩ := h
    rfl
  · obtain ⟨s, md, n, lg, gs, f, rfl, hs, hm, n1, n2, q⟩ := h
    have hu := hu_of hr
    refine ⟨_, (pss_cons (ps_set (i := 2) sc_l_shows.nd rfl (Or.inl rfl) (pe_makeR T.M_Map (ok_init T) (hr.mono (by decide)) rfl T.g_Map pass0 (pa_cons (pe_dget hu (pv 1) pe_str (fun _ _ => rfl)) (pa_cons (pe_ix ix_list (pe_dget hu (pv 1) pe_str (fun _ _ => rfl)) (pe_un un_neg pe_int) (fun _ _ => rfl)) pa_nil))))
      (pss_cons (ps_if (PW.pt (pw_or (pt_cmpR (op_neO T.o_Map T.ne_Map T.m_Map__eq T.i_Map__eq (ok_eq T) (hr.mono (by decide)) pass0) (pe_propR (pv 0) T.o_Session.cl T.P_Session_present (ok_present T) (hr.mono (by decide))) (pv 2) (nomark _)) (pw_or (pt_cmpR (L2.op_neD hr.units) (pe_meth0R (pv 0) T.o_Session.cl T.meth_Session_log (ok_s_log T) (hr.mono (by decide)) pass0) (pe_dget hu (pv 1) pe_str (fun _ _ => rfl)) (nomark _)) (pw_or1 (pt_cmpR op_ne (pe_callB (call_lenO T.m_Session__len T.i_Session__len (ok_s_len T) (hr.mono (by decide)) pass0) (by rfl) T.n_len (by decide +kernel) (pa_cons (pv 0) pa_nil)) (pe_callB call_len_seq (by rfl) T.n_len (by decide +kernel) (pa_cons (pe_dget hu (pv 1) pe_str (fun _ _ => rfl)) pa_nil)) (nomark _))))))
        (pss_one (ps_ret pe_bl)) pss_nil)
      (pss_cons (ps_for PassesOwn.never rfl (pi_range1 rfl T.n_range (pa_cons (pe_op op_add (pe_callB call_len_seq (by rfl) T.n_len (by decide +kernel) (pa_cons (pe_dget hu (pv 1) pe_str (fun _ _ => rfl)) pa_nil)) pe_int) pa_nil)) (pg_name (i := 3) sc_l_shows.nd rfl (Or.inl rfl))
        (pss_one (ps_if (pt_cmpR (op_neO T.o_Map T.ne_Map T.m_Map__eq T.i_Map__eq (ok_eq T) (hr.mono (by decide)) pass0) (pe_methR (pv 0) T.o_Session.cl T.meth_Session_at (ok_s_at T) (hr.mono (by decide)) pass0 (pa_cons (pv 3) pa_nil)) (pe_makeR T.M_Map (ok_init T) (hr.mono (by decide)) rfl T.g_Map pass0 (pa_cons (pe_dget hu (pv 1) pe_str (fun _ _ => rfl)) (pa_cons (pe_ix ix_list (pe_dget hu (pv 1) pe_str (fun _ _ => rfl)) (pv 3) (fun _ _ => rfl)) pa_nil))) (nomark _))
        (pss_one (ps_ret pe_bl)) pss_nil)))
      (pss_one (ps_ret pe_bl))))), ?_⟩
    obtain ⟨L, G, ds, us, g1, g2, g3, g4, g5⟩ := id hm.ob
    obtain ⟨dx, m, tl, te, ts, ms, h1, h2, h3, h4, h5, h6⟩ := id hs.ob
    obtain ⟨ds0, dl, rfl, p3, l, hdl, dil, wfl⟩ := paired_unsnoc g3
    have g2' : H L = some (.lst (ds0.map V.ref ++ [.ref dl])) := by rw [List.map_append] at g2; exact g2
    have lln := di_lenN dil wfl
    refine ⟨_, rfl, md, .int n, rfl, mdl_size g1, _, rfl, md, .ref L, rfl, mdl_tables g1, 1, rfl, L, _, -1, .ref dl, rfl, rfl, SqL.of g2', atI_last _ _, fun mp dxp nmp ndxp ne => init_of hdl dil wfl n1 n2 (by omega) nmp ndxp ne fun H1 s1 mm => ⟨rfl, ?_⟩⟩
    have h1' := s1 _ _ h1
    refine ⟨_, rfl, s, dx, _, rfl, h1', s, n, lg, gs, f, rfl, hs.same s1, fun m' hm' => ?_⟩
    obtain ⟨ex1, fx1, em1⟩ := at_map hm'
    obtain ⟨ex2, fx2, em2⟩ := at_map mm
    refine ⟨_, rfl, m', ex1, fx1, mp, ex2, fx2, rfl, rfl, em1, em2, m', mp, _, _, _, _, rfl, hm', mm, _, rfl, _, rfl, ?_⟩
    rw [eqB_eq mm.wf rfl]
    refine iteF ?_
    refine ⟨_, rfl, s, dx, _, rfl, h1', rfl, s, n, lg, gs, f, rfl, hs.same s1, fun r ts' n_r pr => ?_⟩
    generalize g_r : L2.upd _ r _ = H2
    obtain ⟨s_H2, e_r⟩ := U.upd_facts g_r n_r
    clear g_r
    have s2 := s1.trans s_H2
    obtain ⟨d, e, a1, a2, a3, a4, a5⟩ := log_eq (K := K) e_r (pr.map fun _ _ _ z => s_H2 _ _ z) (s2 _ _ g4) (g5.map fun _ _ _ z => s2 _ _ z) hs.ok
    refine ⟨_, rfl, md, .ref G, rfl, mdl_log (s2 _ _ g1), d, e, a1, a2, a3, a4, _, rfl, ?_⟩
    rw [a5]
    refine iteF ?_
    have lus := paired_len g5
    have hsm := hs.sm
    refine ⟨_, rfl, s, dx, _, rfl, s2 _ _ h1, s, n, lg, gs, f, rfl, hs.same s2, _, rfl, by omega, by omega, ?_⟩
    refine ⟨_, rfl, md, .ref G, rfl, mdl_log (s2 _ _ g1), G, _, rfl, .inl (SqL.of (s2 _ _ g4)), rfl, _, rfl, ?_⟩
    rw [List.length_map, lus, decide_eq_true rfl]
    refine iteF ?_
    refine ⟨_, rfl, md, .ref G, rfl, mdl_log (s2 _ _ g1), G, _, rfl, .inl (SqL.of (s2 _ _ g4)), _, _, rfl, rfl, _, rfl, by rw [List.length_map]; omega, by rw [List.length_map]; omega, ?_⟩
    rw [List.length_map, lus]
    refine for_it (walk_range (lo := 0)) (fun i σ H' => ∃ v3, σ = [some (.ref s), some (.ref md), some (.ref mp), v3] ∧ Same H2 H')
      ⟨_, rfl, Same.refl _⟩ (fun _ _ _ _ _ => trivial) ?_ ?_
    · rintro i v σ Ha0 Ha hi ⟨v3, rfl, sa⟩ ⟨rfl, rfl⟩
      have s3 := s2.trans sa
      have hgl := hs.len
      obtain ⟨g, eg⟩ : ∃ g, (gs ++ [f])[i]? = some g := ⟨_, List.getElem?_eq_getElem (by rw [List.length_append, List.length_singleton]; omega)⟩
      have e0 : (0 + (i : Nat) : Int) = (i : Nat) := by omega
      refine ⟨_, rfl, s, dx, _, rfl, s3 _ _ h1, rfl, _, rfl, s, n, lg, gs, f, i, g, by rw [← e0], hs.same s3, eg, fun mg Hb sb hmg => ?_⟩
      have s4 := s3.trans sb
      have ltd := paired_len g3
      obtain ⟨dk, ek⟩ : ∃ dk, (ds0 ++ [dl])[i]? = some dk := ⟨_, List.getElem?_eq_getElem (by rw [ltd, List.length_append, List.length_singleton]; omega)⟩
      obtain ⟨lk', fk, efk, hdk, dik, wfk⟩ := TabsAt.get g3 ek
      rw [eg] at efk
      cases efk
      have llk := di_lenN dik wfk
      have evk : ((ds0 ++ [dl]).map V.ref)[i]? = some (.ref dk) := by rw [List.getElem?_map, ek]; rfl
      have hat := atI_nat evk
      rw [← e0] at hat
      refine ⟨_, rfl, md, .int n, rfl, mdl_size (s4 _ _ g1), _, rfl, md, .ref L, rfl, mdl_tables (s4 _ _ g1), _, rfl, L, _, _, .ref dk, rfl, rfl, SqL.of (s4 _ _ g2), hat, fun mq dxq nmq ndxq neq => init_of (s4 _ _ hdk) dik wfk n1 n2 (by omega) nmq ndxq neq fun Hc sc mm2 => ⟨rfl, ?_⟩⟩
      obtain ⟨ex1, fx1, em1⟩ := at_map (hmg.same sc)
      obtain ⟨ex2, fx2, em2⟩ := at_map mm2
      refine ⟨mg, ex1, fx1, mq, ex2, fx2, rfl, rfl, em1, em2, mg, mq, _, _, _, _, rfl, hmg.same sc, mm2, _, rfl, _, rfl, ?_⟩
      rw [eqB_eq mm2.wf rfl]
      exact iteF ⟨_, rfl, (sa.trans sb).trans sc⟩
    · rintro σ Ha ⟨v3, rfl, sa⟩
      exact q Ha (s2.trans sa)
end
end My
namespace My
open PySem L2 U StX PM
/-! ### what changes: the pool, the session, the model -/
def Sep (H : Hp) (p : Addr) : Prop := (∃ a b : Int, H p = some (.lst [.int a, .int b])) ∨ SOb H p ∨ (∃ n L G, H p = some (.dK (mdl n L G)))
theorem PoolAt.sep {H : Hp} {p : Addr} (h : PoolAt H p) : Sep H p := by
  obtain ⟨a, b, e, _⟩ := h
  exact .inl ⟨a, b, e⟩
theorem SessAt.sep {C CM : Addr} {H : Hp} {s : Addr} {n : Int} {lg : List (Str × Str)} {gs : List PF} {f : PF} (h : SessAt C CM H s n lg gs f) : Sep H s := .inr (.inl h.sob)
theorem ModAt.sep {H : Hp} {md : Addr} {n : Int} {lg : List (Str × Str)} {fs : List PF} (h : ModAt H md n lg fs) : Sep H md := by
  obtain ⟨L, G, ds, us, h1, _⟩ := h.ob
  exact .inr (.inr ⟨n, L, G, h1⟩)
theorem kvI_mdl {l : List (Int × Int)} {n : Int} {L G : Addr} (h : kvI l = mdl n L G) : False := by
  cases l with
  | nil => cases h
  | cons a b => cases h
theorem Sep.map {C : Addr} {H H' : Hp} {p m : Addr} {n : Int} {f : PF} (z : Sep H p) (o : Off p H H') (h : IsMap C H m n f) : IsMap C H' m n f := by
  rcases z with ⟨a, b, e⟩ | e | ⟨n', L, G, e⟩
  · exact h.off o ⟨_, e⟩
  · exact h.offS o e
  · obtain ⟨⟨dx, D, h1, h2⟩, wf, lo, hi⟩ := h
    refine ⟨⟨dx, D, o _ _ (fun z => ?_) h1, o _ _ (fun z => ?_) h2⟩, wf, lo, hi⟩
    · rw [z, e] at h1; cases h1
    · rw [z, e] at h2
      exact kvI_mdl (HO.dK.inj (Option.some.inj h2)).symm
theorem Sep.tup {H H' : Hp} {p t : Addr} {xs : List V} (z : Sep H p) (o : Off p H H') (h : H t = some (.tup xs)) : H' t = some (.tup xs) := o _ _ (fun e => by
  rcases z with ⟨a, b, z⟩ | ⟨_, _, _, z, _⟩ | ⟨n', L, G, z⟩ <;> (rw [e, z] at h; cases h)) h
theorem Sep.dk {H H' : Hp} {p t : Addr} {l : List (Int × Int)} (z : Sep H p) (o : Off p H H') (h : H t = some (.dK (kvI l))) : H' t = some (.dK (kvI l)) := o _ _ (fun e => by
  rcases z with ⟨a, b, z⟩ | ⟨_, _, _, z, _⟩ | ⟨n', L, G, z⟩
  · rw [e, z] at h; cases h
  · rw [e, z] at h; cases h
  · rw [e, z] at h
    exact kvI_mdl (HO.dK.inj (Option.some.inj h)).symm) h
theorem Sep.refs {H H' : Hp} {p t : Addr} {xs : List Addr} (z : Sep H p) (o : Off p H H') (h : H t = some (.lst (xs.map V.ref))) : H' t = some (.lst (xs.map V.ref)) := o _ _ (fun e => by
  rcases z with ⟨a, b, z⟩ | ⟨_, _, _, z, _⟩ | ⟨n', L, G, z⟩
  · rw [e, z] at h
    cases xs with
    | nil => cases h
    | cons x xs => cases h
  · rw [e, z] at h; cases h
  · rw [e, z] at h; cases h) h
theorem Sep.tups {H H' : Hp} {p : Addr} {ts : List Addr} {lg : List (Str × Str)} (z : Sep H p) (o : Off p H H') (h : Paired (fun t (p : Str × Str) => H t = some (.tup [.str p.1, .str p.2])) ts lg) : Paired (fun t (p : Str × Str) => H' t = some (.tup [.str p.1, .str p.2])) ts lg := h.map fun _ _ _ e => z.tup o e
theorem Sep.tabs {H H' : Hp} {p : Addr} {n : Int} {ds : List Addr} {fs : List PF} (z : Sep H p) (o : Off p H H') (h : TabsAt H n ds fs) : TabsAt H' n ds fs := PySem.Paired.map h fun _ _ _ ⟨l, e, d, w⟩ => ⟨l, z.dk o e, d, w⟩
theorem Sep.pool {H H' : Hp} {p q : Addr} (o : Off p H H') (ne : q ≠ p) (h : PoolAt H q) : PoolAt H' q := by
  obtain ⟨a, b, e, r⟩ := h
  exact ⟨a, b, o _ _ ne e, r⟩
theorem Sep.sess {C CM : Addr} {H H' : Hp} {p s : Addr} {n : Int} {lg : List (Str × Str)} {gs : List PF} {f : PF} (z : Sep H p) (o : Off p H H') (ne : s ≠ p) (h : SessAt C CM H s n lg gs f) : SessAt C CM H' s n lg gs f := by
  obtain ⟨⟨dx, m, tl, te, ts, ms, h1, h2, h3, h4, h5, h6⟩, l, sm, ok⟩ := h
  exact ⟨⟨dx, m, tl, te, ts, ms, o _ _ ne h1, z.map o h2, z.tup o h3, z.tups o h4, z.tup o h5, PySem.Paired.map h6 fun v _ f ⟨a, ea, mm⟩ => ⟨a, ea, z.map o mm⟩⟩, l, sm, ok⟩
theorem Sep.mod {H H' : Hp} {p md : Addr} {n : Int} {lg : List (Str × Str)} {fs : List PF} (z : Sep H p) (o : Off p H H') (ne : md ≠ p) (h : ModAt H md n lg fs) : ModAt H' md n lg fs := by
  obtain ⟨L, G, ds, us, h1, h2, h3, h4, h5⟩ := h.ob
  exact ⟨L, G, ds, us, o _ _ ne h1, z.refs o h2, z.tabs o h3, z.refs o h4, z.tups o h5⟩
/-- the three together -/
structure St3 (C CM : Addr) (H0 H : Hp) (p s md : Addr) (n : Int) (lg : List (Str × Str)) (gs : List PF) (f : PF) (lm : List (Str × Str)) (fm : List PF) : Prop where
  po : PoolAt H p
  se : SessAt C CM H s n lg gs f
  mo : ModAt H md n lm fm
  of : ∀ b o, b ≠ p → b ≠ s → b ≠ md → H0 b = some o → H b = some o
section
variable {C CM : Addr} {H0 H H' : Hp} {p s md : Addr} {n : Int} {lg lm lg' lm' : List (Str × Str)} {gs gs' fm fm' : List PF} {f f' : PF}
theorem St3.nps (z : St3 C CM H0 H p s md n lg gs f lm fm) : p ≠ s ∧ p ≠ md ∧ s ≠ md := by
  obtain ⟨a, b, e1, _⟩ := z.po
  obtain ⟨dx, m, tl, te, ts, ms, e2, _⟩ := z.se.ob
  obtain ⟨L, G, ds, us, e3, _⟩ := z.mo.ob
  exact ⟨ne_of e1 e2 (by intro w; cases w), ne_of e1 e3 (by intro w; cases w), ne_of e2 e3 (by intro w; cases w)⟩
theorem St3.same (z : St3 C CM H0 H p s md n lg gs f lm fm) (x : Same H H') : St3 C CM H0 H' p s md n lg gs f lm fm := ⟨z.po.same x, z.se.same x, z.mo.same x, fun b o h1 h2 h3 e => x _ _ (z.of b o h1 h2 h3 e)⟩
theorem St3.draw (z : St3 C CM H0 H p s md n lg gs f lm fm) (p' : PoolAt H' p) (o : Off p H H') : St3 C CM H0 H' p s md n lg gs f lm fm :=
  ⟨p', z.po.sep.sess o z.nps.1.symm z.se, z.po.sep.mod o z.nps.2.1.symm z.mo, fun b u h1 h2 h3 e => o _ _ h1 (z.of b u h1 h2 h3 e)⟩
theorem St3.act (z : St3 C CM H0 H p s md n lg gs f lm fm) (o : Off s H H') (h : SessAt C CM H' s n lg' gs' f') : St3 C CM H0 H' p s md n lg' gs' f' lm fm :=
  ⟨Sep.pool o z.nps.1 z.po, h, z.se.sep.mod o z.nps.2.2.symm z.mo, fun b u h1 h2 h3 e => o _ _ h2 (z.of b u h1 h2 h3 e)⟩
theorem St3.put (z : St3 C CM H0 H p s md n lg gs f lm fm) (o : Off md H H') (h : ModAt H' md n lm' fm') : St3 C CM H0 H' p s md n lg gs f lm' fm' :=
  ⟨Sep.pool o z.nps.2.1 z.po, z.mo.sep.sess o z.nps.2.2 z.se, h, fun b u h1 h2 h3 e => o _ _ h3 (z.of b u h1 h2 h3 e)⟩
end
/-- range(..) where the number is drawn -/
theorem lc_rangeQ {wi : TI} {i : Nat} {tv : TE} {vs : List Nat} {σ : L2.St} {H0 : Hp} {Q : VK} (Φ : Nat → Hp → Prop) (hwi : ∀ R : It → Hp → Prop, (∀ c H, Φ c H → R (Itr 0 c) H) → wi σ H0 R)
    (rest : ∀ c H, Φ c H → tLc (fun _ _ R => R (Itr 0 c) H) (gName i) tYes tv vs σ H Q) : tLc wi (gName i) tYes tv vs σ H0 Q := hwi _ fun c H φ => rest c H φ
theorem par_of {i j : Nat} {t1 t2 : TE} {D : Ends} {σ : L2.St} {H : Hp} (h : t1 σ H fun x H1 => t2 σ H1 fun y H2 => ∃ v w, [x, y] = [v, w] ∧ D.nx ((σ.set i (some v)).set j (some w)) H2) : tPar i j (tCons t1 (tCons t2 tNil)) D σ H := h
theorem nx_cut {a rest : TS} {D : Ends} {r : VK} {b c : L2.St → Hp → Prop} {σ : L2.St} {H : Hp} (M : L2.St → Hp → Prop) (h : ∀ nx : L2.St → Hp → Prop, (∀ σ' H', M σ' H' → nx σ' H') → a { D with nx := nx } σ H) (hM : ∀ σ' H', M σ' H' → rest D σ' H') : Ends.nx { nx := tSeq a rest D, rt := r, bk := b, ct := c } σ H := h _ hM
theorem TabsAt.snoc' {H : Hp} {n : Int} {ds : List Addr} {fs : List PF} {d : Addr} {f : PF} {l : List (Int × Int)} (h : TabsAt H n ds fs) (e : H d = some (.dK (kvI l))) (di : DI l f) (wf : WF n f) : TabsAt H n (ds ++ [d]) (fs ++ [f]) := paired_snoc h ⟨l, e, di, wf⟩
def actN (w : Nat) : Str := match w with | 0 => "apply" | 1 => "power" | _ => "steps"
theorem act_at : ∀ {w : Nat}, w < 3 → atI [V.str "apply", .str "power", .str "steps"] (w : Nat) = some (.str (actN w))
  | 0, _ => atI_nat (j := 0) rfl
  | 1, _ => atI_nat (j := 1) rfl
  | 2, _ => atI_nat (j := 2) rfl
/-- the model's log is the old list or a new one -/
def NewG (H H' : Hp) (md : Addr) (n : Int) : Prop := ∀ Lx Gx, H' md = some (.dK (mdl n Lx Gx)) → (∃ L0, H md = some (.dK (mdl n L0 Gx))) ∨ ∀ o, H Gx = some o → ∃ ps, o = .tbl ps
theorem mdl_inj {n : Int} {L G Lx Gx : Addr} {H : Hp} {md : Addr} (h : H md = some (.dK (mdl n L G))) (h' : H md = some (.dK (mdl n Lx Gx))) : L = Lx ∧ G = Gx := by
  rw [h] at h'
  have e : mdl n L G = mdl n Lx Gx := HO.dK.inj (Option.some.inj h')
  unfold mdl at e
  cases e
  exact ⟨rfl, rfl⟩
def spAct (C CM : Addr) : Sp := fun vs H Q _ => ∃ (p s md : Addr) (u : Str) (n : Int) (lg : List (Str × Str)) (gs : List PF) (f : PF), vs = [.ref p, .ref s, .ref md, .str u] ∧ St3 C CM H H p s md n lg gs f lg (gs ++ [f]) ∧ nameS u = true ∧ OkS u ∧ lg.length < 1000 ∧ 1 ≤ n ∧ n ≤ 6 ∧
  ∀ w f' H', w < 3 → St3 C CM H H' p s md n (lg ++ [(u, actN w)]) (gs ++ [f]) f' (lg ++ [(u, actN w)]) (gs ++ [f] ++ [f']) → NewG H H' md n → Q (.bl true) H'
end My
namespace My
open PySem L2 U StX PM
/-! ### sessions of any class, with or without a least number -/
def sfx (ex : Option Int) (m tl te : Addr) : List (Str × V) := ("own_present", .ref m) :: ("own_log", .ref tl) :: ("own_earlier", .ref te) :: (match ex with | none => [] | some l => [("own_least", .int l)])
theorem sfx_p (ex : Option Int) (m tl te : Addr) : (sfx ex m tl te).lookup ("own_present" : Str) = some (.ref m) := rfl
theorem sfx_l (ex : Option Int) (m tl te : Addr) : (sfx ex m tl te).lookup ("own_log" : Str) = some (.ref tl) := rfl
theorem sfx_e (ex : Option Int) (m tl te : Addr) : (sfx ex m tl te).lookup ("own_earlier" : Str) = some (.ref te) := rfl
theorem sfx_t (l : Int) (m tl te : Addr) : (sfx (some l) m tl te).lookup ("own_least" : Str) = some (.int l) := rfl
theorem sfx_put (l : Int) (m tl te : Addr) : putF "own_least" (.int l) (sfx none m tl te) = sfx (some l) m tl te := rfl
theorem sfx_pp (ex : Option Int) (m tl te m' : Addr) : putF "own_present" (.ref m') (sfx ex m tl te) = sfx ex m' tl te := by cases ex <;> rfl
theorem sfx_pl (ex : Option Int) (m tl te m' : Addr) : putF "own_log" (.ref m') (sfx ex m tl te) = sfx ex m m' te := by cases ex <;> rfl
theorem sfx_pe (ex : Option Int) (m tl te m' : Addr) : putF "own_earlier" (.ref m') (sfx ex m tl te) = sfx ex m tl m' := by cases ex <;> rfl
theorem sfx_len (ex : Option Int) (m tl te : Addr) : (sfx ex m tl te).length < 1000 := by
  cases ex
  · show 3 < 1000; decide
  · show 4 < 1000; decide
theorem sfx_no (ex : Option Int) (m tl te : Addr) : (sfx ex m tl te).lookup ("own_size" : Str) = none := by cases ex <;> rfl
theorem sfx_cn (ex : Option Int) (m tl te : Addr) : (sfx ex m tl te).lookup ("check_next" : Str) = none := by cases ex <;> rfl
theorem sfx_ct (ex : Option Int) (m tl te : Addr) : (sfx ex m tl te).lookup ("change_to" : Str) = none := by cases ex <;> rfl
/-- what a class of sessions has -/
structure SC (K : PySem.W.Frag) (C : Addr) : Prop where
  o : OwnC K C
  p : NoAttr K C "own_present"
  l : NoAttr K C "own_log"
  e : NoAttr K C "own_earlier"
structure SessX (ex : Option Int) (C CM : Addr) (H : Hp) (s : Addr) (n : Int) (lg : List (Str × Str)) (gs : List PF) (f : PF) : Prop where
  ob : ∃ dx m tl te ts ms, H s = some (.ins C dx (sfx ex m tl te)) ∧ IsMap CM H m n f ∧ H tl = some (.tup (ts.map V.ref)) ∧ Paired (fun t (p : Str × Str) => H t = some (.tup [.str p.1, .str p.2])) ts lg ∧ H te = some (.tup ms) ∧ MapsAt CM H n ms gs
  len : gs.length = lg.length
  sm : lg.length ≤ 1000
  ok : ∀ p ∈ lg, OkS p.1 ∧ OkS p.2
theorem SessX.same {ex : Option Int} {C CM : Addr} {H H' : Hp} {s : Addr} {n : Int} {lg : List (Str × Str)} {gs : List PF} {f : PF} (h : SessX ex C CM H s n lg gs f) (x : Same H H') : SessX ex C CM H' s n lg gs f := by
  obtain ⟨⟨dx, m, tl, te, ts, ms, h1, h2, h3, h4, h5, h6⟩, l, sm, ok⟩ := h
  exact ⟨⟨dx, m, tl, te, ts, ms, x _ _ h1, h2.same x, x _ _ h3, h4.map fun _ _ _ e => x _ _ e, x _ _ h5, h6.same x⟩, l, sm, ok⟩
theorem SessX.sob {ex : Option Int} {C CM : Addr} {H : Hp} {s : Addr} {n : Int} {lg : List (Str × Str)} {gs : List PF} {f : PF} (h : SessX ex C CM H s n lg gs f) : SOb H s := by
  obtain ⟨dx, m, tl, te, ts, ms, h1, _⟩ := h.ob
  exact ⟨C, dx, _, h1, sfx_no _ _ _ _⟩
def okx (ex : Option Int) (n : Int) (f : PF) : Prop := match ex with | none => True | some l => l ≤ ((tab n f).length : Nat)
def few (CT : Addr) (n : Int) (f : PF) (H : Hp) (E : XK) : Prop := ∀ H' d, Same H H' → H' d = none → E (.ref CT) (some d) (upd H' d (.xd [("number", .int ((tab n f).length : Nat))]))
theorem few.same {CT : Addr} {n : Int} {f : PF} {H H' : Hp} {E : XK} (h : few CT n f H E) (s : Same H H') : few CT n f H' E := fun H2 d s2 nd => h H2 d (s.trans s2) nd
def spNext (C CM CT : Addr) (ex : Option Int) : Sp := fun vs H Q E => ∃ (s m dx p tl te : Addr) (n : Int) (f : PF), vs = [.ref s, .ref m] ∧ H s = some (.ins C dx (sfx ex p tl te)) ∧ IsMap CM H m n f ∧ (okx ex n f → Q .non H) ∧ (¬ okx ex n f → few CT n f H E)
def spInitX (K : PySem.W.Frag) (CM : Addr) : Sp := fun vs H Q _ => ∃ (s dx C : Addr) (n : Int), vs = [.ref s, .int n] ∧ SC K C ∧ H s = some (.ins C dx []) ∧ 1 ≤ n ∧ n ≤ 300 ∧ ∀ H', Off s H H' → (∃ m tl te, H' s = some (.ins C dx (sfx none m tl te))) → SessX none C CM H' s n [] [] (idn n) → Q .non H'
def spChangeX (ex : Option Int) (C CM CT : Addr) : Sp := fun vs H Q E => ∃ (s m' : Addr) (u a : Str) (n : Int) (lg : List (Str × Str)) (gs : List PF) (f f' : PF), vs = [.ref s, .str u, .str a, .ref m'] ∧ SessX ex C CM H s n lg gs f ∧ IsMap CM H m' n f' ∧ OkS u ∧ OkS a ∧ lg.length < 1000 ∧
  (¬ okx ex n f' → few CT n f' H E) ∧ (okx ex n f' → ∀ H', Off s H H' → SessX ex C CM H' s n (lg ++ [(u, a)]) (gs ++ [f]) f' → IsMap CM H' m' n f' → Q (.ref m') H')
def spActX (ex : Option Int) (C CM CT : Addr) (arg : Hp → Int → PF → V → PF → Prop) (a : Str) : Sp := fun vs H Q E => ∃ (s : Addr) (u : Str) (x : V) (n : Int) (lg : List (Str × Str)) (gs : List PF) (f f' : PF), vs = [.ref s, .str u, x] ∧ SessX ex C CM H s n lg gs f ∧ nameS u = true ∧ OkS u ∧ lg.length < 1000 ∧ arg H n f x f' ∧
  (¬ okx ex n f' → few CT n f' H E) ∧ (okx ex n f' → ∀ m' H', Off s H H' → SessX ex C CM H' s n (lg ++ [(u, a)]) (gs ++ [f]) f' → IsMap CM H' m' n f' → Q (.ref m') H')
def spPresentX (ex : Option Int) (C CM : Addr) : Sp := fun vs H Q _ => ∃ (s : Addr) (n : Int) (lg : List (Str × Str)) (gs : List PF) (f : PF), vs = [.ref s] ∧ SessX ex C CM H s n lg gs f ∧ ∀ m, IsMap CM H m n f → Q (.ref m) H
def spLenX (ex : Option Int) (C CM : Addr) : Sp := fun vs H Q _ => ∃ (s : Addr) (n : Int) (lg : List (Str × Str)) (gs : List PF) (f : PF), vs = [.ref s] ∧ SessX ex C CM H s n lg gs f ∧ Q (.int (lg.length : Nat)) H
section
variable {P : Program} {w : World} {K : PySem.W.Frag} {mg : Str → Option Value} {base : Heap}
theorem okx_init (T : Txt K mg) : FnR P w K mg base CX0 9 T.f_Session__init (spInitX K T.C_Map) := by
  refine T.A_Session__init.ok sc_Session__init (fun vs H Q E h => ?_) (fun cdv A outer s H vs Q E hr h => ?_)
  · obtain ⟨s, dx, C, n, rfl, _⟩ := h
    rfl
  · obtain ⟨s, dx, C, n, rfl, sc, hs, n1, n3, q⟩ := h
    refine ⟨_, (pss_cons (ps_expr (pe_callR (ok_check_size T) (hr.mono (by decide)) T.A_check_size.kp rfl T.g_check_size pass0 (pa_cons (pv 1) pa_nil)))
      (pss_cons (ps_fld (pv 0) (ClX.pe_cmeth (pe_glob (v := .ref T.C_Map) rfl T.g_Map rfl) T.R_Map T.cm_Map_identity (ok_identity T) (hr.mono (by decide)) pass0 (pa_cons (pv 1) pa_nil)) rfl)
      (pss_cons (ps_fld (pv 0) (pe_tup pa_nil) rfl)
      (pss_one (ps_fld (pv 0) (pe_tup pa_nil) rfl))))), ?_⟩
    refine ⟨_, rfl, n, rfl, n1, n3, ?_⟩
    refine ⟨rfl, _, rfl, n, rfl, n1, n3, fun r H1 nr s1 mr => ?_⟩
    have hs1 := s1 _ _ hs
    refine ⟨_, rfl, s, _, dx, _, rfl, hs1, sc.o.cl, sc.p, (by show 0 < 1000; decide), ?_⟩
    generalize g_Ha : L2.upd _ s _ = Ha
    obtain ⟨o_Ha, e_Ha⟩ := st_facts g_Ha
    clear g_Ha
    refine ⟨nil_le, ?_⟩
    refine fun t1 n_t1 => ?_
    generalize g_t1 : L2.upd _ t1 _ = Hb
    obtain ⟨s_Hb, e_t1⟩ := U.upd_facts g_t1 n_t1
    clear g_t1
    refine ⟨_, rfl, s, _, dx, _, rfl, s_Hb _ _ e_Ha, sc.o.cl, sc.l, (by show 1 < 1000; decide), ?_⟩
    generalize g_Hc : L2.upd _ s _ = Hc
    obtain ⟨o_Hc, e_Hc⟩ := st_facts g_Hc
    clear g_Hc
    refine ⟨nil_le, ?_⟩
    refine fun t2 n_t2 => ?_
    generalize g_t2 : L2.upd _ t2 _ = Hd
    obtain ⟨s_Hd, e_t2⟩ := U.upd_facts g_t2 n_t2
    clear g_t2
    refine ⟨_, rfl, s, _, dx, _, rfl, s_Hd _ _ e_Hc, sc.o.cl, sc.e, (by show 2 < 1000; decide), ?_⟩
    generalize g_He : L2.upd _ s _ = He
    obtain ⟨o_He, e_He⟩ := st_facts g_He
    clear g_He
    have so1 : SOb H1 s := ⟨_, _, _, hs1, rfl⟩
    have so2 : SOb Hb s := ⟨_, _, _, s_Hb _ _ e_Ha, rfl⟩
    have so3 : SOb Hd s := ⟨_, _, _, s_Hd _ _ e_Hc, rfl⟩
    have m2 := (((((mr.offS o_Ha so1).same s_Hb).offS o_Hc so2).same s_Hd).offS o_He so3)
    have f1 := tupS (s_Hd _ _ (tupS e_t1 o_Hc so2)) o_He so3
    have f2 := tupS e_t2 o_He so3
    refine q He (((((Off.same s1).tr o_Ha).tr (Off.same s_Hb)).tr o_Hc).tr (Off.same s_Hd) |>.tr o_He) ⟨_, _, _, e_He⟩ ⟨⟨dx, r, t1, t2, [], [], e_He, m2, f1, .nil, f2, .nil⟩, rfl, Nat.zero_le _, fun p hp => nomatch hp⟩
theorem okx_present (T : Txt K mg) {C : Addr} {ex : Option Int} (sc : SC K C) : FnR P w K mg base CX0 1 T.f_Session_present (spPresentX ex C T.C_Map) := by
  refine T.A_Session_present.ok sc_Session_present (fun vs H Q E h => ?_) (fun cdv A outer s H vs Q E hr h => ?_)
  · obtain ⟨s, n, lg, gs, f, rfl, _⟩ := h
    rfl
  · obtain ⟨s, n, lg, gs, f, rfl, ⟨⟨dx, m, tl, te, ts, ms, h1, h2, h3, h4, h5, h6⟩, hl, sm, ok⟩, q⟩ := h
    refine ⟨_, (pss_one (ps_ret (pe_fld (pv 0) rfl))), ?_⟩
    exact ⟨_, rfl, s, _, dx, _, _, rfl, h1, sc.o.cl, sc.p, sfx_p _ _ _ _, q m h2⟩
theorem okx_len (T : Txt K mg) {C : Addr} {ex : Option Int} (sc : SC K C) : FnR P w K mg base CX0 1 T.f_Session__len (spLenX ex C T.C_Map) := by
  refine T.A_Session__len.ok sc_Session__len (fun vs H Q E h => ?_) (fun cdv A outer s H vs Q E hr h => ?_)
  · obtain ⟨s, n, lg, gs, f, rfl, _⟩ := h
    rfl
  · obtain ⟨s, n, lg, gs, f, rfl, ⟨⟨dx, m, tl, te, ts, ms, h1, h2, h3, h4, h5, h6⟩, hl, sm, ok⟩, q⟩ := h
    refine ⟨_, (pss_one (ps_ret (pe_callB call_len_seq (by rfl) T.n_len (by decide +kernel) (pa_cons (pe_fld (pv 0) rfl) pa_nil)))), ?_⟩
    refine ⟨_, rfl, s, _, dx, _, _, rfl, h1, sc.o.cl, sc.l, sfx_l _ _ _ _, tl, _, rfl, .inr (SqT.of h3), ?_⟩
    rw [List.length_map, paired_len h4]
    exact q
theorem okx_change_to (T : Txt K mg) {C CT g : Addr} {ex : Option Int} (sc : SC K C) (cn : Meth K C "check_next" g) (FN : FnR P w K mg base (L2.CX P w) 5 g (spNext C T.C_Map CT ex)) : FnR P w K mg base (L2.CX P w) 6 T.f_Session_change_to (spChangeX ex C T.C_Map CT) := by
  refine T.A_Session_change_to.okX sc_Session_change_to (fun vs H Q E h => ?_) (fun cdv A outer s H vs Q E hr h => ?_)
  · obtain ⟨s, m', u, a, n, lg, gs, f, f', rfl, _⟩ := h
    rfl
  · obtain ⟨s, m', u, a, n, lg, gs, f, f', rfl, ⟨⟨dx, m, tl, te, ts, ms, h1, h2, h3, h4, h5, h6⟩, hl, sm, ok⟩, hm', hu, ha, hlt, qf, q⟩ := h
    refine ⟨_, (pss_cons (ps_expr (pe_methR (pv 0) sc.o.cl cn (FN) (hr.mono (by decide)) (passes_call (takes_of rfl rfl rfl rfl) (fun _ _ _ _ h => h)) (pa_cons (pv 3) pa_nil)))
      (pss_cons (ps_fld (pv 0) (pe_tup (pa_star (pe_fld (pv 0) rfl) (pa_cons (pe_fld (pv 0) rfl) pa_nil))) rfl)
      (pss_cons (ps_fld (pv 0) (pe_tup (pa_star (pe_fld (pv 0) rfl) (pa_cons (pe_tup (pa_cons (pv 1) (pa_cons (pv 2) pa_nil))) pa_nil))) rfl)
      (pss_cons (ps_fld (pv 0) (pv 3) rfl)
      (pss_one (ps_ret (pv 3))))))), ?_⟩
    refine ⟨_, rfl, s, dx, _, rfl, h1, sfx_cn _ _ _ _, _, rfl, s, m', dx, m, tl, te, n, f', rfl, h1, hm', fun hk => ?_, qf⟩
    replace q := q hk
    have lms := paired_len h6
    have lts := paired_len h4
    refine ⟨_, rfl, s, _, dx, _, _, rfl, h1, sc.o.cl, sc.e, sfx_e _ _ _ _, te, ms, rfl, .inl (SqT.of h5), _, rfl, s, _, dx, _, _, rfl, h1, sc.o.cl, sc.p, sfx_p _ _ _ _, le_line (by simp only [List.length_append, List.length_cons, List.length_nil]; omega), ?_⟩
    refine fun t1 n_t1 => ?_
    generalize g_t1 : L2.upd _ t1 _ = Ha
    obtain ⟨s_Ha, e_t1⟩ := U.upd_facts g_t1 n_t1
    clear g_t1
    refine ⟨_, rfl, s, _, dx, _, rfl, s_Ha _ _ h1, sc.o.cl, sc.e, (sfx_len _ _ _ _), ?_⟩
    rw [sfx_pe]
    generalize g_Hb : L2.upd _ s _ = Hb
    obtain ⟨o_Hb, e_Hb⟩ := st_facts g_Hb
    clear g_Hb
    have so1 : SOb Ha s := ⟨_, _, _, s_Ha _ _ h1, sfx_no _ _ _ _⟩
    have f1 := tupS e_t1 o_Hb so1
    have g3 := tupS (s_Ha _ _ h3) o_Hb so1
    have g4 := logS (h4.map fun _ _ _ z => s_Ha _ _ z) o_Hb so1
    refine ⟨_, rfl, s, _, dx, _, _, rfl, e_Hb, sc.o.cl, sc.l, sfx_l _ _ _ _, tl, _, rfl, .inl (SqT.of g3), _, rfl, _, rfl, two_le, ?_⟩
    refine fun t2 n_t2 => ?_
    generalize g_t2 : L2.upd _ t2 _ = Hc
    obtain ⟨s_Hc, e_t2⟩ := U.upd_facts g_t2 n_t2
    clear g_t2
    refine ⟨le_line (by simp only [List.length_append, List.length_cons, List.length_nil, List.length_map]; omega), ?_⟩
    refine fun t3 n_t3 => ?_
    generalize g_t3 : L2.upd _ t3 _ = Hd
    obtain ⟨s_Hd, e_t3⟩ := U.upd_facts g_t3 n_t3
    clear g_t3
    have eD := s_Hd _ _ (s_Hc _ _ e_Hb)
    refine ⟨_, rfl, s, _, dx, _, rfl, eD, sc.o.cl, sc.l, (sfx_len _ _ _ _), ?_⟩
    rw [sfx_pl]
    generalize g_He : L2.upd _ s _ = He
    obtain ⟨o_He, e_He⟩ := st_facts g_He
    clear g_He
    refine ⟨_, rfl, _, rfl, s, _, dx, _, rfl, e_He, sc.o.cl, sc.p, (sfx_len _ _ _ _), ?_⟩
    rw [sfx_pp]
    generalize g_Hf : L2.upd _ s _ = Hf
    obtain ⟨o_Hf, e_Hf⟩ := st_facts g_Hf
    clear g_Hf
    have so2 : SOb Hd s := ⟨_, _, _, eD, sfx_no _ _ _ _⟩
    have so3 : SOb He s := ⟨_, _, _, e_He, sfx_no _ _ _ _⟩
    have sd : Same Hb Hd := s_Hc.trans s_Hd
    have mv : ∀ {x : Addr} {g : PF}, IsMap T.C_Map H x n g → IsMap T.C_Map Hf x n g := fun h => ((((h.same s_Ha).offS o_Hb so1).same sd).offS o_He so2).offS o_Hf so3
    have tv : ∀ {x : Addr} {xs : List V}, Hb x = some (.tup xs) → Hf x = some (.tup xs) := fun h => tupS (tupS (sd _ _ h) o_He so2) o_Hf so3
    have k3 : Hf t3 = _ := tupS (tupS e_t3 o_He so2) o_Hf so3
    have k2 : Hf t2 = _ := tupS (tupS (s_Hd _ _ e_t2) o_He so2) o_Hf so3
    refine ⟨_, rfl, q Hf ((((((Off.same s_Ha).tr o_Hb).tr (Off.same sd))).tr o_He).tr o_Hf) ⟨⟨dx, m', t3, t1, ts ++ [t2], ms ++ [.ref m], e_Hf, mv hm', ?_, paired_snoc (g4.map fun _ _ _ z => tv z) k2, tv f1, paired_snoc (PySem.Paired.map h6 fun v _ f ⟨a, ea, mm⟩ => ⟨a, ea, mv mm⟩) ⟨m, rfl, mv h2⟩⟩, by simp [hl], by simp; omega, ?_⟩ (mv hm')⟩
    · rw [k3, List.map_append]; rfl
    · intro p hp
      rcases List.mem_append.mp hp with hp | hp
      · exact ok p hp
      · rw [List.mem_singleton] at hp
        subst hp
        exact ⟨hu, ha⟩
end
end My
namespace My
open PySem L2 U StX PM
section
variable {P : Program} {w : World} {K : PySem.W.Frag} {mg : Str → Option Value} {base : Heap}
theorem okx_apply (T : Txt K mg) {C CT g : Addr} {ex : Option Int} (sc : SC K C) (ct : Meth K C "change_to" T.f_Session_change_to) (cn : Meth K C "check_next" g) (FN : FnR P w K mg base (L2.CX P w) 5 g (spNext C T.C_Map CT ex)) : FnR P w K mg base (L2.CX P w) 10 T.f_Session_apply (spActX ex C T.C_Map CT (argA T.C_Map) "apply") := by
  refine T.A_Session_apply.okX sc_Session_apply (fun vs H Q E h => ?_) (fun cdv A outer s H vs Q E hr h => ?_)
  · obtain ⟨s, u, x, n, lg, gs, f, f', rfl, _⟩ := h
    rfl
  · obtain ⟨s, u, x, n, lg, gs, f, f', rfl, hs, hn, hu, hl, ⟨b, g, rfl, hb, rfl⟩, qf, q⟩ := h
    refine ⟨_, (pss_cons (ps_expr (pe_callR (ok_check_user T) (hr.mono (by decide)) T.A_check_user.kp rfl T.g_check_user pass0 (pa_cons (pv 1) pa_nil)))
      (pss_cons (ps_expr (pe_callR (fnR_calm (ok_check_map T)) (hr.mono (by decide)) T.A_check_map.kp rfl T.g_check_map pass0 (pa_cons (pv 2) pa_nil)))
      (pss_cons (ps_expr (pe_callR (ok_check_maps T) (hr.mono (by decide)) T.A_check_maps.kp rfl T.g_check_maps pass0 (pa_cons (pe_fld (pv 0) rfl) (pa_cons (pv 2) pa_nil))))
      (pss_one (ps_ret (pe_methR (pv 0) sc.o.cl ct (okx_change_to T sc cn FN) (hr.mono (by decide)) (passes_call (takes_of rfl rfl rfl rfl) (fun _ _ _ _ h => h)) (pa_cons (pv 1) (pa_cons pe_str (pa_cons (pe_op (op_bin T.o_Map.sf T.m_Map__mul T.i_Map__mul (ok_mul T) (hr.mono (by decide)) pass0) (pe_fld (pv 0) rfl) (pv 2)) pa_nil))))))))), ?_⟩
    refine ⟨_, rfl, u, rfl, hn, fun H1 s1 => ?_⟩
    replace hs := hs.same s1
    replace hb := hb.same s1
    obtain ⟨dx, m, tl, te, ts, ms, h1, h2, h3, h4, h5, h6⟩ := id hs.ob
    refine ⟨_, rfl, _, rfl, .inl ⟨b, n, g, rfl, hb, ?_⟩⟩
    refine ⟨_, rfl, s, _, dx, _, _, rfl, h1, sc.o.cl, sc.p, sfx_p _ _ _ _, _, rfl, m, b, n, f, g, rfl, h2, hb, ?_⟩
    obtain ⟨ex, fx, e1⟩ := at_map h2
    obtain ⟨ey, fy, e2⟩ := at_map hb
    refine ⟨_, rfl, s, dx, _, rfl, h1, sfx_ct _ _ _ _, _, rfl, _, rfl, s, _, dx, _, _, rfl, h1, sc.o.cl, sc.p, sfx_p _ _ _ _, _, rfl, m, _, _, b, _, _, rfl, rfl, e1, e2, m, b, n, f, g, rfl, h2, hb, fun r H2 nr s2 hr2 => ?_⟩
    refine ⟨s, r, u, "apply", n, lg, gs, f, mul f g, rfl, hs.same s2, hr2, hu, oks_apply, hl, fun nk => (qf nk).same (by array_mem_dec), fun hk H3 o3 hs3 m3 => ?_⟩
    exact q hk r H3 ((Off.same (s1.trans s2)).tr o3) hs3 m3
theorem okx_raise (T : Txt K mg) {C CT g : Addr} {ex : Option Int} (sc : SC K C) (ct : Meth K C "change_to" T.f_Session_change_to) (cn : Meth K C "check_next" g) (FN : FnR P w K mg base (L2.CX P w) 5 g (spNext C T.C_Map CT ex)) : FnR P w K mg base (L2.CX P w) 10 T.f_Session_raise_to (spActX ex C T.C_Map CT argP "power") := by
  refine T.A_Session_raise_to.okX sc_Session_raise_to (fun vs H Q E h => ?_) (fun cdv A outer s H vs Q E hr h => ?_)
  · obtain ⟨s, u, x, n, lg, gs, f, f', rfl, _⟩ := h
    rfl
  · obtain ⟨s, u, x, n, lg, gs, f, f', rfl, hs, hn, hu, hl, ⟨e, rfl, rfl⟩, qf, q⟩ := h
    refine ⟨_, (pss_cons (ps_expr (pe_callR (ok_check_user T) (hr.mono (by decide)) T.A_check_user.kp rfl T.g_check_user pass0 (pa_cons (pv 1) pa_nil)))
      (pss_cons (ps_if (pt_not (pt_val (pe_callR (ok_is_integer T) (hr.mono (by decide)) T.A_is_integer.kp rfl T.g_is_integer pass0 (pa_cons (pv 2) pa_nil))))
        (pss_one ps_never) pss_nil)
      (pss_one (ps_ret (pe_methR (pv 0) sc.o.cl ct (okx_change_to T sc cn FN) (hr.mono (by decide)) (passes_call (takes_of rfl rfl rfl rfl) (fun _ _ _ _ h => h)) (pa_cons (pv 1) (pa_cons pe_str (pa_cons (pe_methR (pe_fld (pv 0) rfl) T.o_Map.cl T.meth_Map_power (ok_power T) (hr.mono (by decide)) pass0 (pa_cons (pv 2) pa_nil)) pa_nil)))))))), ?_⟩
    refine ⟨_, rfl, u, rfl, hn, fun H1 s1 => ?_⟩
    replace hs := hs.same s1
    obtain ⟨dx, m, tl, te, ts, ms, h1, h2, h3, h4, h5, h6⟩ := id hs.ob
    refine ⟨_, rfl, _, rfl, trivial, _, rfl, iteF ?_⟩
    obtain ⟨ex, D, e1, e2⟩ := id h2.ob
    refine ⟨_, rfl, s, dx, _, rfl, h1, sfx_ct _ _ _ _, _, rfl, _, rfl, s, _, dx, _, _, rfl, h1, sc.o.cl, sc.p, sfx_p _ _ _ _, m, ex, _, rfl, e1, flds_no _ _ (by decide +kernel) (by decide +kernel), _, rfl, m, n, f, e, rfl, h2, fun r H2 nr s2 hr2 => ?_⟩
    refine ⟨s, r, u, "power", n, lg, gs, f, pw n f e, rfl, hs.same s2, hr2, hu, oks_power, hl, fun nk => (qf nk).same (by array_mem_dec), fun hk H3 o3 hs3 m3 => ?_⟩
    exact q hk r H3 ((Off.same (s1.trans s2)).tr o3) hs3 m3
theorem okx_steps (T : Txt K mg) {C CT g : Addr} {ex : Option Int} (sc : SC K C) (ct : Meth K C "change_to" T.f_Session_change_to) (cn : Meth K C "check_next" g) (FN : FnR P w K mg base (L2.CX P w) 5 g (spNext C T.C_Map CT ex)) : FnR P w K mg base (L2.CX P w) 10 T.f_Session_do_steps (spActX ex C T.C_Map CT argS "steps") := by
  refine T.A_Session_do_steps.okX sc_Session_do_steps (fun vs H Q E h => ?_) (fun cdv A outer s H vs Q E hr h => ?_)
  · obtain ⟨s, u, x, n, lg, gs, f, f', rfl, _⟩ := h
    rfl
  · obtain ⟨s, u, x, n, lg, gs, f, f', rfl, hs, hn, hu, hl, ⟨a, ss0, ss, rfl, ha, hp, hok, hls, rfl⟩, qf, q⟩ := h
    refine ⟨_, (pss_cons (ps_expr (pe_callR (ok_check_user T) (hr.mono (by decide)) T.A_check_user.kp rfl T.g_check_user pass0 (pa_cons (pv 1) pa_nil)))
      (pss_cons (ps_set (i := 3) sc_Session_do_steps.nd rfl (Or.inl rfl) (pe_callR (ok_first_invalid T) (hr.mono (by decide)) T.A_first_invalid.kp rfl T.g_first_invalid pass0 (pa_cons (pe_propR (pe_fld (pv 0) rfl) T.o_Map.cl T.P_Map_size (ok_size T) (hr.mono (by decide))) (pa_cons (pv 2) pa_nil))))
      (pss_cons (ps_if (pt_cmpR op_notN (pv 3) pe_non (nomark _))
        (pss_one ps_never) pss_nil)
      (pss_cons (ps_set (i := 4) sc_Session_do_steps.nd rfl (Or.inl rfl) (pe_makeR T.M_Map (ok_init T) (hr.mono (by decide)) rfl T.g_Map pass0 (pa_cons (pe_propR (pe_fld (pv 0) rfl) T.o_Map.cl T.P_Map_size (ok_size T) (hr.mono (by decide))) (pa_cons (pe_callR (ok_after_list T) (hr.mono (by decide)) T.A_after_list.kp rfl T.g_after_list pass0 (pa_cons (pe_propR (pe_fld (pv 0) rfl) T.o_Map.cl T.P_Map_arrows (ok_arrows T) (hr.mono (by decide))) (pa_cons (pv 2) pa_nil))) pa_nil))))
      (pss_one (ps_ret (pe_methR (pv 0) sc.o.cl ct (okx_change_to T sc cn FN) (hr.mono (by decide)) (passes_call (takes_of rfl rfl rfl rfl) (fun _ _ _ _ h => h)) (pa_cons (pv 1) (pa_cons pe_str (pa_cons (pv 4) pa_nil)))))))))), ?_⟩
    refine ⟨_, rfl, u, rfl, hn, fun H1 s1 => ?_⟩
    replace hs := hs.same s1
    replace ha := s1 _ _ ha
    replace hp : Paired (fun t s => H1 t = some (.tup (Stp.vs s))) ss0 ss := hp.map fun t _ s e => s1 _ _ e
    obtain ⟨dx, m, tl, te, ts, ms, h1, h2, h3, h4, h5, h6⟩ := id hs.ob
    obtain ⟨ex, fx, e1⟩ := at_map h2
    have hlen := paired_len hp
    refine ⟨_, rfl, s, _, dx, _, _, rfl, h1, sc.o.cl, sc.p, sfx_p _ _ _ _, m, _, _, rfl, e1, m, n, f, rfl, h2, _, rfl, n, _, rfl, .inl ⟨_, ha⟩, .inr ⟨a, _, ss.length, rfl, ha, by rw [List.length_map, hlen]; exact Nat.le_refl _, fun i z hi ez => ?_, .inl ⟨by rw [List.length_map, hlen], fun H2 s2 => ⟨_, rfl, rfl, _, rfl, iteF ?_⟩⟩⟩⟩
    · rw [List.getElem?_map] at ez
      cases e : ss0[i]? with
      | none => rw [e] at ez; cases ez
      | some t =>
        rw [e] at ez
        cases ez
        obtain ⟨sp, es, ht⟩ := paired_at hp e
        exact ⟨.inr (.inl ⟨_, ht⟩), .inr ⟨t, _, rfl, ht, known_vs sp, by cases sp <;> simp [Stp.vs], (stepB_of (hok _ (List.mem_of_getElem? es))).symm⟩⟩
    · replace hs := hs.same s2
      replace h2 := h2.same s2
      replace h1 := s2 _ _ h1
      obtain ⟨ex, fx, e1⟩ := at_map h2
      refine ⟨_, rfl, s, _, dx, _, _, rfl, h1, sc.o.cl, sc.p, sfx_p _ _ _ _, m, _, _, rfl, e1, m, n, f, rfl, h2, ?_⟩
      refine ⟨_, rfl, s, _, dx, _, _, rfl, h1, sc.o.cl, sc.p, sfx_p _ _ _ _, m, _, _, rfl, e1, m, n, f, rfl, h2, fun D nD => ?_⟩
      have sD : Same H2 (upd H2 D (.dK (kvI (tab n f)))) := Same.new nD
      have tln := tab_len n f
      have h9 := h2.hi
      refine ⟨_, rfl, D, a, _, n, f, ss0, ss, rfl, upd_same, di_tab h2.wf, h2.wf, by omega, (s2.trans sD) _ _ ha, hp.map fun t _ s e => (s2.trans sD) _ _ e, hok, hls, fun p l' H3 s3 np hp3 di3 hl3 => ?_⟩
      refine fun r dr nr ndr ne => init_of hp3 di3 (wf_stps h2.wf hok) h2.lo h2.hi (by omega) nr ndr ne fun H4 s4 hr4 => ⟨rfl, ?_⟩
      have s24 := (sD.trans s3).trans s4
      refine ⟨_, rfl, s, dx, _, rfl, s24 _ _ h1, sfx_ct _ _ _ _, _, rfl, _, rfl, s, r, u, "steps", n, lg, gs, f, stps f ss, rfl, hs.same s24, hr4, hu, oks_steps, hl, fun nk => (qf nk).same (by array_mem_dec), fun hk H5 o5 hs5 m5 => ?_⟩
      exact q hk r H5 ((Off.same ((s1.trans s2).trans s24)).tr o5) hs5 m5
end
end My
namespace My
open PySem L2 U StX PM NdefX
/-! ### keeping sessions -/
theorem sc_keep {K : PySem.W.Frag} {mg : Str → Option Value} (T : Txt K mg) : SC K T.C_KeepingSession := ⟨T.o_KeepingSession, T.na_own_present_KeepingSession, T.na_own_log_KeepingSession, T.na_own_earlier_KeepingSession⟩
theorem sc_sess {K : PySem.W.Frag} {mg : Str → Option Value} (T : Txt K mg) : SC K T.C_Session := ⟨T.o_Session, T.na_own_present_Session, T.na_own_log_Session, T.na_own_earlier_Session⟩
def spInitK (C CM : Addr) : Sp := fun vs H Q _ => ∃ (s dx : Addr) (n l : Int), vs = [.ref s, .int n, .int l] ∧ H s = some (.ins C dx []) ∧ 1 ≤ n ∧ n ≤ 300 ∧ 0 ≤ l ∧ l ≤ n ∧ ∀ H', Off s H H' → SessX (some l) C CM H' s n [] [] (idn n) → Q .non H'
def spLeast (C CM : Addr) : Sp := fun vs H Q _ => ∃ (s : Addr) (n l : Int) (lg : List (Str × Str)) (gs : List PF) (f : PF), vs = [.ref s] ∧ SessX (some l) C CM H s n lg gs f ∧ Q (.int l) H
section
variable {P : Program} {w : World} {K : PySem.W.Frag} {mg : Str → Option Value} {base : Heap}
theorem ok_ini_TooFew (T : Txt K mg) : FnR P w K mg base CX0 1 T.f_TooFew__init (spIni1 T.C_TooFew "number") := by
  refine T.A_TooFew__init.ok sc_TooFew__init (fun vs H Q E h => ?_) (fun cdv A outer s H vs Q E hr h => ?_)
  · obtain ⟨a, v, rfl, _⟩ := h
    rfl
  · obtain ⟨a, v, rfl, ha, q⟩ := h
    refine ⟨_, pss_one (ps_ostG (pv 0) (pv 1)), ?_⟩
    exact ⟨_, rfl, _, rfl, a, T.C_TooFew, rfl, T.x_TooFew, T.na_number_TooFew, .inl ⟨ha, fun dx h1 h2 => q dx h1 h2⟩⟩
theorem ok_least (T : Txt K mg) : FnR P w K mg base CX0 1 T.f_KeepingSession_least (spLeast T.C_KeepingSession T.C_Map) := by
  refine T.A_KeepingSession_least.ok sc_KeepingSession_least (fun vs H Q E h => ?_) (fun cdv A outer s H vs Q E hr h => ?_)
  · obtain ⟨s, n, l, lg, gs, f, rfl, _⟩ := h
    rfl
  · obtain ⟨s, n, l, lg, gs, f, rfl, hs, q⟩ := h
    obtain ⟨dx, m, tl, te, ts, ms, h1, _⟩ := hs.ob
    refine ⟨_, (pss_one (ps_ret (pe_fld (pv 0) rfl))), ?_⟩
    exact ⟨_, rfl, s, _, dx, _, _, rfl, h1, T.o_KeepingSession.cl, T.na_own_least_KeepingSession, sfx_t _ _ _ _, q⟩
theorem ok_k_next (hP : U.SupP P "/claim/cut.py") (T : Txt K mg) (l : Int) : FnR P w K mg base (L2.CX P w) 5 T.f_KeepingSession_check_next (spNext T.C_KeepingSession T.C_Map T.C_TooFew (some l)) := by
  refine T.A_KeepingSession_check_next.okX hP T.sm_KeepingSession_check_next (k2 := 4) (fnR_any (ok_check_next T)) (by decide) sc_KeepingSession_check_next rfl rfl (fun vs H Q E h => ?_) (fun A outer s0 H vs Q E X hX hr h => ?_)
  · obtain ⟨s, m, dx, p, tl, te, n, f, rfl, _⟩ := h
    rfl
  · obtain ⟨s, m, dx, p, tl, te, n, f, rfl, hs, hm, q, qf⟩ := h
    subst hX
    refine ⟨passes_call (takes_of rfl rfl rfl rfl) (fun _ _ _ _ h => h), rfl, rfl, rfl, ⟨_, rfl⟩, s, dx, _, _, rfl, hs, pa_cons (pv 1) pa_nil, ?_⟩
    refine ⟨_, rfl, s, m, n, f, rfl, hm, ?_⟩
    refine ⟨_, (pss_one (ps_if (pt_cmpR op_lt (pe_callB (call_lenO T.m_Map__len T.i_Map__len (ok_len T) (hr.mono (by decide)) pass0) (by rfl) T.n_len (by decide +kernel) (pa_cons (pv 1) pa_nil)) (pe_fld (pv 0) rfl) (nomark _))
        (pss_one (ps_raise rfl (takes_of rfl rfl rfl rfl) (pmk_oexG T.x_TooFew T.m_TooFew__init T.ti_TooFew__init (ok_ini_TooFew T) (hr.mono (by decide)) pass0 rfl T.g_TooFew (pa_cons (pe_callB (call_lenO T.m_Map__len T.i_Map__len (ok_len T) (hr.mono (by decide)) pass0) (by rfl) T.n_len (by decide +kernel) (pa_cons (pv 1) pa_nil)) pa_nil)))) pss_nil)), ?_⟩
    obtain ⟨ex, fx, e1⟩ := at_map hm
    have hlt := tab_len n f
    have hhi := hm.hi
    have elen : lenF n f = ((tab n f).length : Nat) := rfl
    refine ⟨_, rfl, m, ex, fx, rfl, e1, m, n, f, rfl, hm, _, rfl, by omega, by omega, _, rfl, s, _, dx, _, _, rfl, hs, T.o_KeepingSession.cl, T.na_own_least_KeepingSession, sfx_t _ _ _ _, _, _, rfl, rfl, _, rfl, ?_⟩
    refine ifD (fun hlt2 => ?_) (fun hlt2 => q (by show l ≤ _; omega))
    refine ⟨_, rfl, m, ex, fx, rfl, e1, m, n, f, rfl, hm, _, rfl, by omega, by omega, ?_⟩
    exact mk_one fun d hd => qf (show ¬ (l ≤ _) by omega) H d (Same.refl _) hd
theorem ok_k_init (hP : U.SupP P "/claim/cut.py") (T : Txt K mg) : FnR P w K mg base (L2.CX P w) 10 T.f_KeepingSession__init (spInitK T.C_KeepingSession T.C_Map) := by
  refine T.A_KeepingSession__init.okX hP T.sm_KeepingSession_init (k2 := 9) (fnR_any (okx_init T)) (by decide) sc_KeepingSession__init rfl rfl (fun vs H Q E h => ?_) (fun A outer s0 H vs Q E X hX hr h => ?_)
  · obtain ⟨s, dx, n, l, rfl, _⟩ := h
    rfl
  · obtain ⟨s, dx, n, l, rfl, hs, n1, n2, l0, l1, q⟩ := h
    subst hX
    refine ⟨passes_call (takes_of rfl rfl rfl rfl) (fun _ _ _ _ h => h), rfl, rfl, rfl, ⟨_, rfl⟩, s, dx, _, _, rfl, hs, pa_cons (pv 1) pa_nil, ?_⟩
    refine ⟨_, rfl, s, dx, _, n, rfl, sc_keep T, hs, n1, n2, fun H1 o1 ⟨m0, tl0, te0, e1⟩ se1 => ?_⟩
    refine ⟨_, (pss_cons (ps_if (pt_not (pt_val (pe_callR (ok_in_range T) (hr.mono (by decide)) T.A_in_range.kp rfl T.g_in_range pass0 (pa_cons (pv 2) (pa_cons pe_int (pa_cons (pv 1) pa_nil))))))
        (pss_one ps_never) pss_nil)
      (pss_one (ps_fld (pv 0) (pv 2) rfl))), ?_⟩
    refine ⟨_, rfl, _, rfl, _, _, _, rfl, trivial, _, rfl, ?_⟩
    have hin : inR (V.int l) 0 n = true := by simp [inR, l0, l1]
    rw [hin]
    refine iteF ?_
    refine ⟨_, rfl, _, rfl, s, _, dx, _, rfl, e1, T.o_KeepingSession.cl, T.na_own_least_KeepingSession, (sfx_len _ _ _ _), ?_⟩
    rw [sfx_put]
    generalize g_H2 : L2.upd _ s _ = H2
    obtain ⟨o_H2, e_H2⟩ := st_facts g_H2
    clear g_H2
    have so1 : SOb H1 s := ⟨_, _, _, e1, sfx_no _ _ _ _⟩
    obtain ⟨⟨dx', m, tl, te, ts, ms, h1, h2, h3, h4, h5, h6⟩, hl, sm, ok⟩ := se1
    rw [e1] at h1
    cases h1
    exact q H2 (o1.tr o_H2) ⟨⟨dx, m0, tl0, te0, ts, ms, e_H2, h2.offS o_H2 so1, tupS h3 o_H2 so1, logS h4 o_H2 so1, tupS h5 o_H2 so1, h6.offS o_H2 so1⟩, hl, sm, ok⟩
end
end My
namespace U
open PySem PySem.Spec PyProof.Rows L2
/-! ### dict(zip(a, b, strict=True)), dict(zip(a, b)): lists or tuples -/
/-- one draw, strict or not -/
def drw (st : Bool) (it : Value) : Sem (Option Value) := do
  if st then Builtin.SmallTypes.nextOrEnd it else return some (← Builtin.SmallTypes.nextOf it)
def SIt (tup : Bool) (g : Heap) (it l : Addr) (k : Nat) : Prop := match tup with | true => g.IsTupleIter it l k | false => g.IsListIter it l k
def SSq (tup : Bool) (g : Heap) (l : Addr) (xs : Array Value) : Prop := match tup with | true => g.IsTuple l xs | false => g.IsList l xs
theorem SIt.mv {tup : Bool} {g g' : Heap} {it l : Addr} {k : Nat} (x : SIt tup g it l k) (e : ∀ o, g.get? it = some o → g'.get? it = some o) : SIt tup g' it l k := by
  cases tup
  · exact Heap.IsListIter.at x e
  · exact Heap.IsTupleIter.at x e
theorem SSq.mv {tup : Bool} {g g' : Heap} {l : Addr} {xs : Array Value} (x : SSq tup g l xs) (e : ∀ o, g.get? l = some o → g'.get? l = some o) : SSq tup g' l xs := by
  cases tup
  · exact Heap.IsList.at x e
  · exact Heap.IsTuple.at x e
theorem SIt.ob {tup : Bool} {g : Heap} {it l : Addr} {k : Nat} (x : SIt tup g it l k) : ∃ o, g.get? it = some o := by
  cases tup
  · obtain ⟨o, e, _⟩ := x
    exact ⟨o, e⟩
  · obtain ⟨o, e, _⟩ := x
    exact ⟨o, e⟩
theorem SSq.ob {tup : Bool} {g : Heap} {l : Addr} {xs : Array Value} (x : SSq tup g l xs) : ∃ o, g.get? l = some o := by
  cases tup
  · obtain ⟨o, e, _⟩ := x
    exact ⟨o, e⟩
  · obtain ⟨o, e, _⟩ := x
    exact ⟨o, e⟩
/-- the zip object: held, that its tuple is out -/
def IsZ (st : Bool) (g : Heap) (z TI TO : Addr) (v : Value) (hd : Bool) : Prop :=
  g.get? z = some { cls := .type "zip", dict := none, data := .fields #[v, .bool hd, .bool st, .ref TI, .ref TO], slots := #[] }
section
variable {prog : Program} {w : World} {A : Around} {E : Value → Shared → Prop} {s : Shared} {st tup : Bool} {it l : Addr} {i : Nat} {items : Array Value}
theorem stop_it {Q : PySem.Fin → Shared → Prop} (hn : A.handled = none) (q : ∀ g e, (∀ c o, s.heap.get? c = some o → g.get? c = some o) → (∃ o, g.get? e = some o ∧ o.cls = .type "StopIteration") → E (.ref e) { s with heap := g }) :
    wpAny (model prog w) A (Builtin.SmallTypes.stopIteration) Q E s := by
  show wpAny _ _ (newExc (.type "StopIteration") [] >>= _) _ _ s
  refine wpAny_bind ?_
  simp only [newExc, newTuple]; refine wpAny_bind (wpAny_newObj_type ?_ (by size_fits))
  refine wpAny_bind (m := firstArgMember _ _) (wpAny_of_eq (a := Value.none) (by first | (simp only [firstArgMember]; rfl) | rfl) ?_)
  refine wpAny_newObj_type ?_ (by size_fits); simp only [raiseNew]
  refine wpAny_bind (wpAny_handled ?_); rw [hn]
  refine wpAny_bind (wpAny_pure (wpAny_throw (q _ _ (fun c o e => Heap.get?_push_of_some _ (Heap.get?_push_of_some _ e)) ⟨_, Heap.get?_push_size _ rfl, rfl⟩)))
theorem sit_item {x : Value} {Q : Value → Shared → Prop} (a : SIt tup s.heap it l i) (b : SSq tup s.heap l items) (c : items[i]? = some x)
    (q : ∀ g, SIt tup g it l (i + 1) → Heap.SameBut it s.heap g → Q x { s with heap := g }) : wpAny (model prog w) A (Builtin.SmallTypes.nextOf (.ref it)) Q E s := by
  cases tup
  · exact wpAny_nextOf_list_item a b c q
  · exact RZ.nextOf_tuple_item a b c q
theorem sit_end {Q : Value → Shared → Prop} (hn : A.handled = none) (a : SIt tup s.heap it l i) (b : SSq tup s.heap l items) (c : items[i]? = none)
    (q : ∀ g e, Heap.ExtBut it s.heap g → (∃ o, g.get? e = some o ∧ o.cls = .type "StopIteration") → E (.ref e) { s with heap := g }) : wpAny (model prog w) A (Builtin.SmallTypes.nextOf (.ref it)) Q E s := by
  cases tup
  · exact wpAny_nextOf_list_end hn a b c q
  · exact RZ.nextOf_tuple_end hn a b c q
theorem drw_item {x : Value} {Q : Option Value → Shared → Prop} (a : SIt tup s.heap it l i) (b : SSq tup s.heap l items) (c : items[i]? = some x)
    (q : ∀ g, SIt tup g it l (i + 1) → Heap.SameBut it s.heap g → Q (some x) { s with heap := g }) : wpAny (model prog w) A (drw st (.ref it)) Q E s := by
  cases st
  · exact wpAny_bind (sit_item a b c fun g g1 g2 => wpAny_pure (q g g1 g2))
  · exact wpAny_bind (wpAny_attempt (sit_item a b c fun g g1 g2 => wpAny_pure (q g g1 g2)))
theorem drw_end {Q : Option Value → Shared → Prop} (hn : A.handled = none) (a : SIt tup s.heap it l i) (b : SSq tup s.heap l items) (c : items[i]? = none)
    (q : ∀ g, Heap.ExtBut it s.heap g → Q none { s with heap := g }) : wpAny (model prog w) A (Builtin.SmallTypes.nextOrEnd (.ref it)) Q E s := by
  refine wpAny_bind (wpAny_attempt (sit_end hn a b c fun g e g1 ⟨o, ho, hc⟩ => ?_))
  show wpAny _ _ (isInstance (.ref e) (.type "StopIteration") >>= _) _ _ _
  refine wpAny_bind (wpAny_isInstance (T := "StopIteration") (b := true) ⟨o, ho, hc⟩ isSubtype_stop ?_)
  exact wpAny_pure (q g g1)
variable {Z J O a1 a2 b1 b2 : Addr} {k1 k2 : Nat} {xs ys : Array Value} {x y u v : Value}
/-- what is reached by one more item -/
def ZGot (st tup : Bool) (h : Heap) (Z J O a1 a2 b1 b2 : Addr) (k1 k2 : Nat) (x y T : Value) (f : Bool) (g : Heap) : Prop :=
  IsZ st g Z J O T f ∧ SIt tup g a1 b1 (k1 + 1) ∧ SIt tup g a2 b2 (k2 + 1) ∧ IsPair g h.objs.size x y ∧ g.objs.size = h.objs.size + 1
theorem zz_item {Q : Value → Shared → Prop} (D : ZipApart Z J O a1 a2 b1 b2) (ez : IsZ st s.heap Z J O .none false) (eJ : IsPair s.heap J (.ref a1) (.ref a2)) (eO : IsPair s.heap O u v)
    (p1 : SIt tup s.heap a1 b1 k1) (p2 : SIt tup s.heap a2 b2 k2) (q1 : SSq tup s.heap b1 xs) (q2 : SSq tup s.heap b2 ys) (ex : xs[k1]? = some x) (ey : ys[k2]? = some y)
    (q : ∀ g, ZGot st tup s.heap Z J O a1 a2 b1 b2 k1 k2 x y (rawInt s.heap.objs.size) false g → (∀ c o, c ≠ Z → c ≠ O → c ≠ a1 → c ≠ a2 → s.heap.get? c = some o → g.get? c = some o) → Q (.ref s.heap.objs.size) { s with heap := g }) :
    wpAny (model prog w) A (Builtin.«zip.__next__» ⟨[.ref Z], []⟩) (fun fin s' => ∃ v, fin = .done (.ret v) ∧ Q v s') E s := by
  show wpAny _ _ (field (.ref Z) 2 >>= _) _ _ _
  refine wpAny_bind (wpAny_field ez rfl (x := .bool st) rfl ?_)
  show wpAny _ _ (field (.ref Z) 3 >>= _) _ _ _
  refine wpAny_bind (wpAny_field ez rfl (x := .ref J) rfl ?_)
  refine wpAny_bind (wpAny_seqItems eJ rfl ?_)
  show wpAny _ _ (Builtin.SmallTypes.ownedTupleIsFree (.ref Z) >>= _) _ _ _
  refine wpAny_bind ?_
  unfold Builtin.SmallTypes.ownedTupleIsFree
  refine wpAny_bind (wpAny_field ez rfl (x := .none) rfl (wpAny_pure ?_))
  simp only [if_true]
  refine wpAny_bind (wpAny_rule ?_)
  refine wpAny_bind (wpAny_field ez rfl (x := .ref O) rfl ?_)
  refine wpAny_bind (wpAny_setField_rec ez (by simp) fun g1 ez1 c1 => ?_)
  replace ez1 : IsZ st g1 Z J O .ellipsis false := ez1
  refine wpAny_bind ?_
  simp only [List.zipIdx_cons, List.zipIdx_nil, List.forIn_cons, List.forIn_nil]
  have hs : (Value.bool st == Value.bool true) = st := by cases st <;> rfl
  rw [hs]
  refine wpAny_bind (wpAny_bind (wpAny_onRaise ?_))
  show wpAny _ _ (drw st (.ref a1)) _ _ _
  refine drw_item (p1.mv fun o e => c1.extBut _ _ D.i1z e) (q1.mv fun o e => c1.extBut _ _ D.l1z e) ex fun g2 p1' c2 => ?_
  have eO2 : IsPair g2 O u v := c2.extBut _ _ D.TOi1 (c1.extBut _ _ D.TOz eO)
  refine wpAny_bind (wpAny_seqItems eO2 rfl ?_)
  refine wpAny_bind (wpAny_updateSeq_pair eO2 fun g3 eO3 c3 => ?_)
  replace eO3 : IsPair g3 O x v := eO3
  refine wpAny_bind (wpAny_letGo (wpAny_pure ?_))
  refine wpAny_bind (wpAny_bind (wpAny_onRaise ?_))
  show wpAny _ _ (drw st (.ref a2)) _ _ _
  refine drw_item (p2.mv fun o e => c3.extBut _ _ D.TOi2.symm (c2.extBut _ _ D.i12.symm (c1.extBut _ _ D.i2z e))) (q2.mv fun o e => c3.extBut _ _ D.l2TO (c2.extBut _ _ D.l2i1 (c1.extBut _ _ D.l2z e))) ey fun g4 p2' c4 => ?_
  have eO4 : IsPair g4 O x v := c4.extBut _ _ D.TOi2 eO3
  refine wpAny_bind (wpAny_seqItems eO4 rfl ?_)
  refine wpAny_bind (wpAny_updateSeq_pair eO4 fun g5 eO5 c5 => ?_)
  replace eO5 : IsPair g5 O x y := eO5
  refine wpAny_bind (wpAny_letGo (wpAny_pure (wpAny_pure ?_)))
  refine wpAny_bind (wpAny_seqItems eO5 rfl ?_)
  refine wpAny_bind (wpAny_newTuple ?_)
  have hsz : g5.objs.size = s.heap.objs.size := by rw [c5.1, c4.1, c3.1, c2.1, c1.1]
  have kp : ∀ c o, c ≠ Z → c ≠ O → c ≠ a1 → c ≠ a2 → s.heap.get? c = some o → g5.get? c = some o := fun c o n1 n2 n3 n4 e =>
    c5.extBut _ _ n2 (c4.extBut _ _ n4 (c3.extBut _ _ n2 (c2.extBut _ _ n3 (c1.extBut _ _ n1 e))))
  have ez5 : IsZ st g5 Z J O .ellipsis false := c5.extBut _ _ D.TOz.symm (c4.extBut _ _ D.i2z.symm (c3.extBut _ _ D.TOz.symm (c2.extBut _ _ D.i1z.symm ez1)))
  have r1 : SIt tup g5 a1 b1 (k1 + 1) := p1'.mv fun o e => c5.extBut _ _ D.TOi1.symm (c4.extBut _ _ D.i12 (c3.extBut _ _ D.TOi1.symm e))
  have r2 : SIt tup g5 a2 b2 (k2 + 1) := p2'.mv fun o e => c5.extBut _ _ D.TOi2.symm e
  have zl : Z < g5.objs.size := Heap.lt_size ez5
  show wpAny _ _ (Builtin.SmallTypes.ownedTupleHandOut (.ref Z) (.ref g5.objs.size) >>= _) _ _ _
  refine wpAny_bind ?_
  unfold Builtin.SmallTypes.ownedTupleHandOut
  have ez6 : IsZ st (g5.push { cls := .type "tuple", data := .seq #[x, y] }) Z J O .ellipsis false := Heap.get?_push_of_some _ ez5
  refine wpAny_bind (wpAny_setField_rec ez6 (by simp) fun g7 ez7 c7 => ?_)
  replace ez7 : IsZ st g7 Z J O (rawInt g5.objs.size) false := ez7
  refine wpAny_setField_rec ez7 (by simp) fun g8 ez8 c8 => ?_
  replace ez8 : IsZ st g8 Z J O (rawInt g5.objs.size) false := ez8
  have up : ∀ c o, c ≠ Z → g5.get? c = some o → g8.get? c = some o := fun c o n1 e => c8.extBut _ _ n1 (c7.extBut _ _ n1 (Heap.get?_push_of_some _ e))
  have t8 : IsPair g8 g5.objs.size x y := c8.extBut _ _ (Nat.ne_of_gt zl) (c7.extBut _ _ (Nat.ne_of_gt zl) (Heap.get?_push_size _ rfl))
  have s8 : g8.objs.size = g5.objs.size + 1 := by rw [c8.1, c7.1, Heap.size_push]
  rw [hsz] at ez8 t8 s8
  refine wpAny_pure ⟨_, rfl, ?_⟩
  show Q (.ref g5.objs.size) _
  rw [hsz]
  exact q g8 ⟨ez8, r1.mv fun o e => up _ o D.i1z e, r2.mv fun o e => up _ o D.i2z e, t8, s8⟩ fun c o n1 n2 n3 n4 e => up c o n1 (kp c o n1 n2 n3 n4 e)
theorem tup_held {T : Addr} {f : Bool} {oT : Obj} {Q : Bool → Shared → Prop} (ez : IsZ st s.heap Z J O (rawInt T) f) (eT : s.heap.get? T = some oT)
    (q : ∀ g, IsZ st g Z J O (rawInt T) true → Heap.SameBut Z s.heap g → Q false { s with heap := g }) : wpAny (model prog w) A (Builtin.SmallTypes.ownedTupleIsFree (.ref Z)) Q E s := by
  unfold Builtin.SmallTypes.ownedTupleIsFree
  refine wpAny_bind (wpAny_field ez rfl (x := rawInt T) rfl ?_)
  show wpAny _ _ (loadIfAlive ((T : Int).toNat) >>= _) _ _ s
  rw [Int.toNat_natCast]
  refine wpAny_bind (PySem.W.kdx_alive eT ?_)
  simp only [Option.isNone_some, Bool.false_eq_true, if_false]
  refine wpAny_bind (wpAny_field ez rfl (x := .bool f) rfl ?_)
  cases f
  · rw [if_pos (show (Value.bool false != Value.bool true) = true from rfl)]
    exact wpAny_bind (wpAny_setField_rec ez (by simp) fun g eg cg => wpAny_pure (q g eg cg))
  · rw [if_neg (show ¬ ((Value.bool true != Value.bool true) = true) from Bool.false_ne_true)]
    exact wpAny_pure (q s.heap ez (Heap.SameBut.refl _ _))
theorem zz_item_held {T : Addr} {f : Bool} {oT : Obj} {Q : Value → Shared → Prop} (D : ZipApart Z J O a1 a2 b1 b2) (ez : IsZ st s.heap Z J O (rawInt T) f) (eT : s.heap.get? T = some oT) (eJ : IsPair s.heap J (.ref a1) (.ref a2))
    (p1 : SIt tup s.heap a1 b1 k1) (p2 : SIt tup s.heap a2 b2 k2) (q1 : SSq tup s.heap b1 xs) (q2 : SSq tup s.heap b2 ys) (ex : xs[k1]? = some x) (ey : ys[k2]? = some y)
    (q : ∀ g, ZGot st tup s.heap Z J O a1 a2 b1 b2 k1 k2 x y (rawInt T) true g → (∀ c o, c ≠ Z → c ≠ a1 → c ≠ a2 → s.heap.get? c = some o → g.get? c = some o) → Q (.ref s.heap.objs.size) { s with heap := g }) :
    wpAny (model prog w) A (Builtin.«zip.__next__» ⟨[.ref Z], []⟩) (fun fin s' => ∃ v, fin = .done (.ret v) ∧ Q v s') E s := by
  show wpAny _ _ (field (.ref Z) 2 >>= _) _ _ _
  refine wpAny_bind (wpAny_field ez rfl (x := .bool st) rfl ?_)
  show wpAny _ _ (field (.ref Z) 3 >>= _) _ _ _
  refine wpAny_bind (wpAny_field ez rfl (x := .ref J) rfl ?_)
  refine wpAny_bind (wpAny_seqItems eJ rfl ?_)
  show wpAny _ _ (Builtin.SmallTypes.ownedTupleIsFree (.ref Z) >>= _) _ _ _
  refine wpAny_bind (tup_held ez eT fun g1 ez1 c1 => ?_)
  simp only [Bool.false_eq_true, if_false]
  refine wpAny_bind ?_
  rw [← Array.forIn_toList]
  simp only [List.forIn_cons, List.forIn_nil]
  have hs : (Value.bool st == Value.bool true) = st := by cases st <;> rfl
  rw [hs]
  refine wpAny_bind (wpAny_bind (wpAny_holding ?_))
  show wpAny _ _ (drw st (.ref a1)) _ _ _
  refine drw_item (s := { s with heap := g1 }) (p1.mv fun o e => c1.extBut _ _ D.i1z e) (q1.mv fun o e => c1.extBut _ _ D.l1z e) ex fun g2 p1' c2 => ?_
  refine wpAny_pure ?_
  refine wpAny_bind (wpAny_bind (wpAny_holding ?_))
  show wpAny _ _ (drw st (.ref a2)) _ _ _
  refine drw_item (s := { s with heap := g2 }) (p2.mv fun o e => c2.extBut _ _ D.i12.symm (c1.extBut _ _ D.i2z e)) (q2.mv fun o e => c2.extBut _ _ D.l2i1 (c1.extBut _ _ D.l2z e)) ey fun g3 p2' c3 => ?_
  refine wpAny_pure (wpAny_pure ?_)
  show wpAny _ _ (newTuple [x, y] >>= _) _ _ { s with heap := g3 }
  refine wpAny_bind (wpAny_newTuple ?_)
  have hsz : g3.objs.size = s.heap.objs.size := by rw [c3.1, c2.1, c1.1]
  have ez3 : IsZ st g3 Z J O (rawInt T) true := c3.extBut _ _ D.i2z.symm (c2.extBut _ _ D.i1z.symm ez1)
  have kp : ∀ c o, c ≠ Z → c ≠ a1 → c ≠ a2 → s.heap.get? c = some o → g3.get? c = some o := fun c o n1 n2 n3 e => c3.extBut _ _ n3 (c2.extBut _ _ n2 (c1.extBut _ _ n1 e))
  have r1 : SIt tup g3 a1 b1 (k1 + 1) := p1'.mv fun o e => c3.extBut _ _ D.i12 e
  refine wpAny_pure ⟨_, rfl, ?_⟩
  show Q (.ref g3.objs.size) _
  have hp : IsPair (g3.push { cls := .type "tuple", data := .seq #[x, y] }) g3.objs.size x y := Heap.get?_push_size _ rfl
  have hz4 : (g3.push { cls := .type "tuple", data := .seq #[x, y] }).objs.size = g3.objs.size + 1 := Heap.size_push ..
  rw [hsz] at hp hz4 ⊢
  exact q _ ⟨Heap.get?_push_of_some _ ez3, r1.mv fun o e => Heap.get?_push_of_some _ e, p2'.mv fun o e => Heap.get?_push_of_some _ e, hp, hz4⟩ fun c o n1 n2 n3 e => Heap.get?_push_of_some _ (kp c o n1 n2 n3 e)
/-- where a zip ends: at once for both where it is strict -/
def ZEnd (st : Bool) (xs ys : Array Value) (k1 k2 : Nat) : Prop := (st = true ∧ xs[k1]? = none ∧ ys[k2]? = none) ∨ (st = false ∧ (xs[k1]? = none ∨ ys[k2]? = none))
theorem zz_end {Q : Fin → Shared → Prop} (hn : A.handled = none) (D : ZipApart Z J O a1 a2 b1 b2) (ez : IsZ st s.heap Z J O .none false) (eJ : IsPair s.heap J (.ref a1) (.ref a2)) (eO : IsPair s.heap O u v)
    (p1 : SIt tup s.heap a1 b1 k1) (p2 : SIt tup s.heap a2 b2 k2) (q1 : SSq tup s.heap b1 xs) (q2 : SSq tup s.heap b2 ys) (he : ZEnd st xs ys k1 k2)
    (q : ∀ g e, (∀ c o, c ≠ Z → c ≠ O → c ≠ a1 → c ≠ a2 → s.heap.get? c = some o → g.get? c = some o) → (∃ o, g.get? e = some o ∧ o.cls = .type "StopIteration") → E (.ref e) { s with heap := g }) :
    wpAny (model prog w) A (Builtin.«zip.__next__» ⟨[.ref Z], []⟩) Q E s := by
  show wpAny _ _ (field (.ref Z) 2 >>= _) _ _ _
  refine wpAny_bind (wpAny_field ez rfl (x := .bool st) rfl ?_)
  show wpAny _ _ (field (.ref Z) 3 >>= _) _ _ _
  refine wpAny_bind (wpAny_field ez rfl (x := .ref J) rfl ?_)
  refine wpAny_bind (wpAny_seqItems eJ rfl ?_)
  show wpAny _ _ (Builtin.SmallTypes.ownedTupleIsFree (.ref Z) >>= _) _ _ _
  refine wpAny_bind ?_
  unfold Builtin.SmallTypes.ownedTupleIsFree
  refine wpAny_bind (wpAny_field ez rfl (x := .none) rfl (wpAny_pure ?_))
  simp only [if_true]
  refine wpAny_bind (wpAny_rule ?_)
  refine wpAny_bind (wpAny_field ez rfl (x := .ref O) rfl ?_)
  refine wpAny_bind (wpAny_setField_rec ez (by simp) fun g1 ez1 c1 => ?_)
  replace ez1 : IsZ st g1 Z J O .ellipsis false := ez1
  refine wpAny_bind ?_
  simp only [List.zipIdx_cons, List.zipIdx_nil, List.forIn_cons, List.forIn_nil]
  have hs : (Value.bool st == Value.bool true) = st := by cases st <;> rfl
  rw [hs]
  refine wpAny_bind (wpAny_bind (wpAny_onRaise ?_))
  rcases he with ⟨rfl, ex, ey⟩ | ⟨rfl, he⟩
  · show wpAny _ _ (Builtin.SmallTypes.nextOrEnd (.ref a1)) _ _ _
    refine drw_end hn (p1.mv fun o e => c1.extBut _ _ D.i1z e) (q1.mv fun o e => c1.extBut _ _ D.l1z e) ex fun g2 c2 => ?_
    have ez2 : IsZ true g2 Z J O .ellipsis false := c2 _ _ D.i1z.symm ez1
    show wpAny _ _ (setField (.ref Z) 0 .none >>= _) _ _ _
    refine wpAny_bind (wpAny_setField_rec ez2 (by simp) fun g3 ez3 c3 => ?_)
    refine wpAny_bind ?_
    show wpAny _ _ (forIn [(Value.ref a2, 1)] PUnit.unit _ >>= _) _ _ _
    simp only [List.forIn_cons, List.forIn_nil]
    refine wpAny_bind (wpAny_bind (wpAny_bind ?_))
    refine drw_end (tup := tup) hn (p2.mv fun o e => c3.extBut _ _ D.i2z (c2 _ _ D.i12.symm (c1.extBut _ _ D.i2z e))) (q2.mv fun o e => c3.extBut _ _ D.l2z (c2 _ _ D.l2i1 (c1.extBut _ _ D.l2z e))) ey fun g4 c4 => ?_
    show wpAny _ _ (pure (ForInStep.yield PUnit.unit)) _ _ _
    refine wpAny_pure (wpAny_pure (wpAny_bind (wpAny_rule (stop_it hn fun g5 e c5 ⟨oe, e1, e2⟩ => ?_))))
    exact q g5 e (fun c o n1 _ n3 n4 r => c5 _ _ (c4 _ _ n4 (c3.extBut _ _ n1 (c2 _ _ n3 (c1.extBut _ _ n1 r))))) ⟨oe, e1, e2⟩
  · show wpAny _ _ (Builtin.SmallTypes.nextOf (.ref a1) >>= _) _ _ _
    cases hx : xs[k1]? with
    | none =>
      refine wpAny_bind (sit_end hn (p1.mv fun o e => c1.extBut _ _ D.i1z e) (q1.mv fun o e => c1.extBut _ _ D.l1z e) hx fun g2 e c2 ⟨oe, e1, e2⟩ => ?_)
      have ez2 : IsZ false g2 Z J O .ellipsis false := c2 _ _ D.i1z.symm ez1
      have nez : e ≠ Z := fun z => by subst z; rw [ez2] at e1; cases e1; simp at e2
      refine wpAny_setField_rec ez2 (by simp) fun g3 _ c3 => q g3 e (fun c o n1 _ n3 _ r => c3.extBut _ _ n1 (c2 _ _ n3 (c1.extBut _ _ n1 r))) ⟨oe, c3.extBut _ _ nez e1, e2⟩
    | some x =>
      have hy : ys[k2]? = none := by rcases he with h | h; rw [hx] at h; cases h; exact h
      refine wpAny_bind (sit_item (p1.mv fun o e => c1.extBut _ _ D.i1z e) (q1.mv fun o e => c1.extBut _ _ D.l1z e) hx fun g2 p1' c2 => wpAny_pure ?_)
      have eO2 : IsPair g2 O u v := c2.extBut _ _ D.TOi1 (c1.extBut _ _ D.TOz eO)
      refine wpAny_bind (wpAny_seqItems eO2 rfl ?_)
      refine wpAny_bind (wpAny_updateSeq_pair eO2 fun g3 eO3 c3 => ?_)
      refine wpAny_bind (wpAny_letGo (wpAny_pure ?_))
      refine wpAny_bind (wpAny_bind (wpAny_onRaise ?_))
      show wpAny _ _ (Builtin.SmallTypes.nextOf (.ref a2) >>= _) _ _ _
      refine wpAny_bind (sit_end hn (p2.mv fun o e => c3.extBut _ _ D.TOi2.symm (c2.extBut _ _ D.i12.symm (c1.extBut _ _ D.i2z e))) (q2.mv fun o e => c3.extBut _ _ D.l2TO (c2.extBut _ _ D.l2i1 (c1.extBut _ _ D.l2z e))) hy fun g4 e c4 ⟨oe, e1, e2⟩ => ?_)
      have ez4 : IsZ false g4 Z J O .ellipsis false := c4 _ _ D.i2z.symm (c3.extBut _ _ D.TOz.symm (c2.extBut _ _ D.i1z.symm ez1))
      have nez : e ≠ Z := fun z => by subst z; rw [ez4] at e1; cases e1; simp at e2
      refine wpAny_setField_rec ez4 (by simp) fun g5 _ c5 => q g5 e (fun c o n1 n2 n3 n4 r => c5.extBut _ _ n1 (c4 _ _ n4 (c3.extBut _ _ n2 (c2.extBut _ _ n3 (c1.extBut _ _ n1 r))))) ⟨oe, c5.extBut _ _ nez e1, e2⟩
theorem zz_end_held {Q : PySem.Fin → Shared → Prop} {T : Addr} {f : Bool} {oT : Obj} (hn : A.handled = none) (D : ZipApart Z J O a1 a2 b1 b2) (ez : IsZ st s.heap Z J O (rawInt T) f) (eT : s.heap.get? T = some oT) (eJ : IsPair s.heap J (.ref a1) (.ref a2))
    (p1 : SIt tup s.heap a1 b1 k1) (p2 : SIt tup s.heap a2 b2 k2) (q1 : SSq tup s.heap b1 xs) (q2 : SSq tup s.heap b2 ys) (he : ZEnd st xs ys k1 k2)
    (q : ∀ g e, (∀ c o, c ≠ Z → c ≠ a1 → c ≠ a2 → s.heap.get? c = some o → g.get? c = some o) → (∃ o, g.get? e = some o ∧ o.cls = .type "StopIteration") → E (.ref e) { s with heap := g }) :
    wpAny (model prog w) A (Builtin.«zip.__next__» ⟨[.ref Z], []⟩) Q E s := by
  show wpAny _ _ (field (.ref Z) 2 >>= _) _ _ _
  refine wpAny_bind (wpAny_field ez rfl (x := .bool st) rfl ?_)
  show wpAny _ _ (field (.ref Z) 3 >>= _) _ _ _
  refine wpAny_bind (wpAny_field ez rfl (x := .ref J) rfl ?_)
  refine wpAny_bind (wpAny_seqItems eJ rfl ?_)
  show wpAny _ _ (Builtin.SmallTypes.ownedTupleIsFree (.ref Z) >>= _) _ _ _
  refine wpAny_bind (tup_held ez eT fun g1 ez1 c1 => ?_)
  simp only [Bool.false_eq_true, if_false]
  refine wpAny_bind ?_
  rw [← Array.forIn_toList]
  simp only [List.forIn_cons, List.forIn_nil]
  have hs : (Value.bool st == Value.bool true) = st := by cases st <;> rfl
  rw [hs]
  refine wpAny_bind (wpAny_bind (wpAny_holding ?_))
  rcases he with ⟨rfl, ex, ey⟩ | ⟨rfl, he⟩
  · show wpAny _ _ (Builtin.SmallTypes.nextOrEnd (.ref a1)) _ _ _
    refine drw_end (s := { s with heap := g1 }) hn (p1.mv fun o e => c1.extBut _ _ D.i1z e) (q1.mv fun o e => c1.extBut _ _ D.l1z e) ex fun g2 c2 => ?_
    refine wpAny_bind ?_
    show wpAny _ _ (forIn [(Value.ref a2, 1)] PUnit.unit _ >>= _) _ _ _
    simp only [List.forIn_cons, List.forIn_nil]
    refine wpAny_bind (wpAny_bind (wpAny_bind ?_))
    refine drw_end (tup := tup) (s := { s with heap := g2 }) hn (p2.mv fun o e => c2 _ _ D.i12.symm (c1.extBut _ _ D.i2z e)) (q2.mv fun o e => c2 _ _ D.l2i1 (c1.extBut _ _ D.l2z e)) ey fun g4 c4 => ?_
    show wpAny _ _ (pure (ForInStep.yield PUnit.unit)) _ _ _
    refine wpAny_pure (wpAny_pure (wpAny_bind (wpAny_rule (stop_it (s := { s with heap := g4 }) hn fun g5 e c5 ⟨oe, e1, e2⟩ => ?_))))
    exact q g5 e (fun c o n1 n3 n4 r => c5 _ _ (c4 _ _ n4 (c2 _ _ n3 (c1.extBut _ _ n1 r)))) ⟨oe, e1, e2⟩
  · show wpAny _ _ (Builtin.SmallTypes.nextOf (.ref a1) >>= _) _ _ _
    cases hx : xs[k1]? with
    | none =>
      refine wpAny_bind (sit_end (s := { s with heap := g1 }) hn (p1.mv fun o e => c1.extBut _ _ D.i1z e) (q1.mv fun o e => c1.extBut _ _ D.l1z e) hx fun g2 e c2 he' => ?_)
      exact q g2 e (fun c o n1 n3 _ r => c2 _ _ n3 (c1.extBut _ _ n1 r)) he'
    | some x =>
      have hy : ys[k2]? = none := by rcases he with h | h; rw [hx] at h; cases h; exact h
      refine wpAny_bind (sit_item (s := { s with heap := g1 }) (p1.mv fun o e => c1.extBut _ _ D.i1z e) (q1.mv fun o e => c1.extBut _ _ D.l1z e) hx fun g2 p1' c2 => wpAny_pure ?_)
      refine wpAny_pure ?_
      refine wpAny_bind (wpAny_bind (wpAny_holding ?_))
      show wpAny _ _ (Builtin.SmallTypes.nextOf (.ref a2) >>= _) _ _ _
      refine wpAny_bind (sit_end (s := { s with heap := g2 }) hn (p2.mv fun o e => c2.extBut _ _ D.i12.symm (c1.extBut _ _ D.i2z e)) (q2.mv fun o e => c2.extBut _ _ D.l2i1 (c1.extBut _ _ D.l2z e)) hy fun g3 e c3 he' => ?_)
      exact q g3 e (fun c o n1 n2 n3 r => c3 _ _ n3 (c2.extBut _ _ n2 (c1.extBut _ _ n1 r))) he'
/-! ### next -/
theorem nx_item {Q : Option Value → Shared → Prop} (ty : s.TypeIs (.ref Z) "zip") (h : ∀ F, wpAny (model prog w) A.in1 (Builtin.«zip.__next__» ⟨[.ref Z], []⟩) (fun fin s' => ∃ v, fin = .done (.ret v) ∧ Q (some v) s') F s) : wpAny (model prog w) A (pyNext (.ref Z)) Q E s := by
  unfold pyNext
  exact wpAny_bind (wpAny_attempt (wpAny_callSpecial?_slot (name := Str.ofString "__next__") ty F.slot_zip_next (wpAny_call_entry F.slot_zip_next ty F.entry_zip_next (wpAny_mono (h _) (fun fin s' ⟨v, e, q⟩ => ⟨v, e, wpAny_pure q⟩) fun _ _ z => z) (F.args_zip_next_1 _))))
theorem nx_end {Q : Option Value → Shared → Prop} (G : Heap → Prop) (ty : s.TypeIs (.ref Z) "zip") (h : ∀ (F : Value → Shared → Prop) (Q' : PySem.Fin → Shared → Prop), (∀ g e, G g → (∃ o, g.get? e = some o ∧ o.cls = .type "StopIteration") → F (.ref e) { s with heap := g }) → wpAny (model prog w) A.in1 (Builtin.«zip.__next__» ⟨[.ref Z], []⟩) Q' F s)
    (q : ∀ g, G g → Q none { s with heap := g }) : wpAny (model prog w) A (pyNext (.ref Z)) Q E s := by
  unfold pyNext
  refine wpAny_bind (wpAny_attempt (wpAny_callSpecial?_slot (name := Str.ofString "__next__") ty F.slot_zip_next (wpAny_call_entry F.slot_zip_next ty F.entry_zip_next (h _ _ fun g e hg ⟨o, h1, h2⟩ => ?_) (F.args_zip_next_1 _))))
  refine wpAny_bind (wpAny_isInstance (T := "StopIteration") (b := true) ⟨o, h1, h2⟩ isSubtype_stop (wpAny_pure (q g hg)))
end
/-! ### the zip as what a dict is made of -/
section
variable {prog : Program} {w : World}
/-- a zip as it was made -/
def ZNew (st tup : Bool) (Z J O a1 a2 b1 b2 : Addr) (xs ys : Array Value) (h : Heap) : Prop :=
  IsZ st h Z J O .none false ∧ IsPair h J (.ref a1) (.ref a2) ∧ (∃ u v, IsPair h O u v) ∧ SIt tup h a1 b1 0 ∧ SIt tup h a2 b2 0 ∧ SSq tup h b1 xs ∧ SSq tup h b2 ys
def ZAt (st tup : Bool) (Z J O a1 a2 b1 b2 d : Addr) (xs ys : Array Value) (i : Nat) (h : Heap) : Prop :=
  IsPair h J (.ref a1) (.ref a2) ∧ SIt tup h a1 b1 i ∧ SIt tup h a2 b2 i ∧ SSq tup h b1 xs ∧ SSq tup h b2 ys ∧
    ((IsZ st h Z J O .none false ∧ ∃ u v, IsPair h O u v) ∨ ∃ (T : Addr) (f : Bool) (oT : Obj), IsZ st h Z J O (rawInt T) f ∧ h.get? T = some oT ∧ T ≠ Z ∧ T ≠ a1 ∧ T ≠ a2 ∧ T ≠ d)
theorem zarg (st tup : Bool) (Z J O a1 a2 b1 b2 : Addr) (D : ZipApart Z J O a1 a2 b1 b2) (xs ys : Array Value) (hst : st = true → xs.size = ys.size) :
    PairArg prog w "zip" Z [Z, J, O, a1, a2, b1, b2] [Z, O, a1, a2] (min xs.size ys.size) (fun i k v => xs[i]? = some k ∧ ys[i]? = some v) (ZNew st tup Z J O a1 a2 b1 b2 xs ys) where
  type := fun s ok => ⟨_, ok.1, rfl⟩
  notDict := by decide
  keep := fun h h' ⟨e1, e2, ⟨u, v, e3⟩, e4, e5, e6, e7⟩ k => ⟨k _ _ e1, k _ _ e2, ⟨u, v, k _ _ e3⟩, e4.mv fun o e => k _ o e, e5.mv fun o e => k _ o e, e6.mv fun o e => k _ o e, e7.mv fun o e => k _ o e⟩
  there := fun h ⟨e1, e2, ⟨u, v, e3⟩, e4, e5, e6, e7⟩ b hb => by
    simp only [List.mem_cons, List.not_mem_nil, or_false] at hb
    rcases hb with rfl | rfl | rfl | rfl | rfl | rfl | rfl
    · exact ⟨_, e1⟩
    · exact ⟨_, e2⟩
    · exact ⟨_, e3⟩
    · exact e4.ob
    · exact e5.ob
    · exact e6.ob
    · exact e7.ob
  sub := fun b hb => by
    simp only [List.mem_cons, List.not_mem_nil, or_false] at hb ⊢
    rcases hb with rfl | rfl | rfl | rfl <;> simp
  noKeys := fun A s Q E hn ok q => getAttrOr_miss_zip ok.1 rfl rfl rfl zip_no_keys (by decide +kernel) hn q
  iter := fun A s d Q E hn ⟨e1, e2, ⟨u, v, e3⟩, e4, e5, e6, e7⟩ hd hdf q => by
    simp only [List.mem_cons, List.not_mem_nil, or_false, not_or] at hdf
    obtain ⟨dZ, dJ, dO, d1, d2, dl1, dl2⟩ := hdf
    have tyz : s.TypeIs (.ref Z) "zip" := ⟨_, e1, rfl⟩
    refine wpAny_pyIter_slot tyz F.slot_zip_iter (wpAny_call_entry F.slot_zip_iter tyz F.entry_zip_iter ?_ (F.args_zip_iter_1 _))
    show wpAny _ _ (ret (.ref Z)) _ _ s
    refine wpAny_pure ⟨_, rfl, "zip", _, tyz, F.slot_zip_next.lookup, ?_⟩
    refine q Z [Z, O, a1, a2] (ZAt st tup Z J O a1 a2 b1 b2 d xs ys) s.heap s.toks ?_ ⟨e2, e4, e5, e6, e7, .inl ⟨e1, u, v, e3⟩⟩ (fun _ _ e => e) fun b hb => .inl hb
    exact {
      off := fun hm => by
        simp only [List.mem_cons, List.not_mem_nil, or_false] at hm
        rcases hm with e | e | e | e
        · exact dZ e
        · exact dO e
        · exact d1 e
        · exact d2 e
      frame := fun i h h' ⟨f1, f2, f3, f4, f5, f6⟩ k => by
        refine ⟨k _ _ (Ne.symm dJ) f1, f2.mv fun o e => k _ o (Ne.symm d1) e, f3.mv fun o e => k _ o (Ne.symm d2) e, f4.mv fun o e => k _ o (Ne.symm dl1) e, f5.mv fun o e => k _ o (Ne.symm dl2) e, ?_⟩
        rcases f6 with ⟨g1, u, v, g2⟩ | ⟨T, f, oT, g1, g2, r1, r2, r3, r4⟩
        · exact .inl ⟨k _ _ (Ne.symm dZ) g1, u, v, k _ _ (Ne.symm dO) g2⟩
        · exact .inr ⟨T, f, oT, k _ _ (Ne.symm dZ) g1, k _ _ r4 g2, r1, r2, r3, r4⟩
      item := fun i s₁ Q₁ E₁ hi ⟨f1, f2, f3, f4, f5, f6⟩ hds hQ => by
        have ex := Array.getElem?_eq_getElem (Nat.lt_of_lt_of_le hi (Nat.min_le_left ..))
        have ey := Array.getElem?_eq_getElem (Nat.lt_of_lt_of_le hi (Nat.min_le_right ..))
        have n1 : s₁.heap.objs.size ≠ a1 := let ⟨_, e⟩ := f2.ob; Nat.ne_of_gt (Heap.lt_size e)
        have n2 : s₁.heap.objs.size ≠ a2 := let ⟨_, e⟩ := f3.ob; Nat.ne_of_gt (Heap.lt_size e)
        rcases f6 with ⟨g1, u, v, g2⟩ | ⟨T, f, oT, g1, g2, r1, r2, r3, r4⟩
        · refine nx_item ⟨_, g1, rfl⟩ fun F => zz_item D g1 f1 g2 f2 f3 f4 f5 ex ey fun g ⟨c1, c2, c3, c4, c5⟩ k => ?_
          exact hQ s₁.heap.objs.size _ _ g s₁.toks ⟨ex, ey⟩ (.inl ⟨_, c4, rfl, _, rfl⟩)
            ⟨k _ _ D.TIz D.TITO D.TIi1 D.TIi2 f1, c2, c3, f4.mv fun o e => k _ o D.l1z D.l1TO D.l1i1 D.l1i2 e, f5.mv fun o e => k _ o D.l2z D.l2TO D.l2i1 D.l2i2 e,
              .inr ⟨s₁.heap.objs.size, false, _, c1, c4, Nat.ne_of_gt (Heap.lt_size g1), n1, n2, Nat.ne_of_gt hds⟩⟩
            fun c o hc e => k c o (fun z => hc (by simp [z])) (fun z => hc (by simp [z])) (fun z => hc (by simp [z])) (fun z => hc (by simp [z])) e
        · refine nx_item ⟨_, g1, rfl⟩ fun F => zz_item_held D g1 g2 f1 f2 f3 f4 f5 ex ey fun g ⟨c1, c2, c3, c4, c5⟩ k => ?_
          exact hQ s₁.heap.objs.size _ _ g s₁.toks ⟨ex, ey⟩ (.inl ⟨_, c4, rfl, _, rfl⟩)
            ⟨k _ _ D.TIz D.TIi1 D.TIi2 f1, c2, c3, f4.mv fun o e => k _ o D.l1z D.l1i1 D.l1i2 e, f5.mv fun o e => k _ o D.l2z D.l2i1 D.l2i2 e, .inr ⟨T, true, oT, c1, k _ _ r1 r2 r3 g2, r1, r2, r3, r4⟩⟩
            fun c o hc e => k c o (fun z => hc (by simp [z])) (fun z => hc (by simp [z])) (fun z => hc (by simp [z])) e
      done := fun s₁ Q₁ E₁ ⟨f1, f2, f3, f4, f5, f6⟩ hQ => by
        have he : ZEnd st xs ys (min xs.size ys.size) (min xs.size ys.size) := by
          cases st
          · refine .inr ⟨rfl, ?_⟩
            rcases Nat.le_total xs.size ys.size with h | h
            · exact .inl (Array.getElem?_eq_none (by rw [Nat.min_eq_left h]; exact Nat.le_refl _))
            · exact .inr (Array.getElem?_eq_none (by rw [Nat.min_eq_right h]; exact Nat.le_refl _))
          · have e := hst rfl
            exact .inl ⟨rfl, Array.getElem?_eq_none (by omega), Array.getElem?_eq_none (by omega)⟩
        rcases f6 with ⟨g1, u, v, g2⟩ | ⟨T, f, oT, g1, g2, r1, r2, r3, r4⟩
        · exact nx_end (fun g => ∀ c o, c ≠ Z → c ≠ O → c ≠ a1 → c ≠ a2 → s₁.heap.get? c = some o → g.get? c = some o) ⟨_, g1, rfl⟩ (fun F Q' q => zz_end hn D g1 f1 g2 f2 f3 f4 f5 he q)
            fun g k => hQ g s₁.toks fun c o hc e => k c o (fun z => hc (by simp [z])) (fun z => hc (by simp [z])) (fun z => hc (by simp [z])) (fun z => hc (by simp [z])) e
        · exact nx_end (fun g => ∀ c o, c ≠ Z → c ≠ a1 → c ≠ a2 → s₁.heap.get? c = some o → g.get? c = some o) ⟨_, g1, rfl⟩ (fun F Q' q => zz_end_held hn D g1 g2 f1 f2 f3 f4 f5 he q)
            fun g k => hQ g s₁.toks fun c o hc e => k c o (fun z => hc (by simp [z])) (fun z => hc (by simp [z])) (fun z => hc (by simp [z])) e }
end
/-! ### zip(a, b, strict=True) -/
def zo (tup : Bool) (l : Addr) : Obj := match tup with | true => { cls := .type "tuple_iterator", data := .fields #[.ref l, .int 0 0] } | false => { cls := .type "list_iterator", data := .fields #[.ref l, .int 0 0] }
abbrev zh1 (tup : Bool) (h : Heap) (b1 : Addr) : Heap := h.push (zo tup b1)
abbrev zh2 (tup : Bool) (h : Heap) (b1 b2 : Addr) : Heap := (zh1 tup h b1).push (zo tup b2)
abbrev zh3 (tup : Bool) (h : Heap) (b1 b2 : Addr) : Heap := (zh2 tup h b1 b2).push { cls := .type "tuple", data := .seq #[.ref h.objs.size, .ref (zh1 tup h b1).objs.size] }
abbrev zh4 (tup : Bool) (h : Heap) (b1 b2 : Addr) : Heap := (zh3 tup h b1 b2).push { cls := .type "tuple", data := .seq #[.none, .none] }
abbrev zh5 (tup : Bool) (h : Heap) (b1 b2 : Addr) : Heap := (zh4 tup h b1 b2).push { cls := .type "zip", data := .fields #[.none, .bool false, .bool true, .ref (zh2 tup h b1 b2).objs.size, .ref (zh3 tup h b1 b2).objs.size] }
theorem meets_zipS (tup : Bool) (b1 b2 : Addr) (xs ys : Array Value) :
    Meets (Builtin.«zip.__new__» ⟨[.type "zip", .ref b1, .ref b2], [("strict", .bool true)]⟩) (fun _ R s => SSq tup s.heap b1 xs ∧ SSq tup s.heap b2 ys ∧
      R (.ok (.ret (.ref (zh4 tup s.heap b1 b2).objs.size))) { s with heap := zh5 tup s.heap b1 b2 }) :=
  .of_wp fun prog w A R s h => by
    obtain ⟨hp, g, d, tk, os⟩ := s
    obtain ⟨h1, h2, h⟩ := h
    have hsub := sub_zip
    cases tup
    · have k1 : Heap.IsList (Shared.heap ⟨hp, g, d, tk, os⟩) b1 xs := h1
      have k2 : Heap.IsList (Shared.heap ⟨hp.push { cls := .type "list_iterator", data := .fields #[.ref b1, .int 0 0] }, g, d, tk, os⟩) b2 ys := Heap.IsList.push h2 _
      wp_walk using wpAny_pyIter_list k1, wpAny_pyIter_list k2
      exact ⟨_, rfl, h⟩
    · have k1 : Heap.IsTuple (Shared.heap ⟨hp, g, d, tk, os⟩) b1 xs := h1
      have k2 : Heap.IsTuple (Shared.heap ⟨hp.push { cls := .type "tuple_iterator", data := .fields #[.ref b1, .int 0 0] }, g, d, tk, os⟩) b2 ys := Heap.IsTuple.push h2 _
      wp_walk using wpAny_pyIter_tuple k1, wpAny_pyIter_tuple k2
      exact ⟨_, rfl, h⟩
theorem typeCall_zipS (a b c : Value) : checkTypeCall "zip" ⟨[a, b], [("strict", c)]⟩ = pure () := by kernel_rfl
theorem newCall_zipS (a b c : Value) : checkBuiltinCall "zip.__new__" ⟨[.type "zip", a, b], [("strict", c)]⟩ = pure () := by kernel_rfl
theorem args_initS (a b c d : Value) : argsOk "object.__init__" ⟨[a, b, c], [("strict", d)]⟩ := by
  unfold argsOk; rw [signature?_of (id := "object.__init__") (n := ['_', '_', 't', 'i', 'n', 'i', '_', '_']) (o := ['t', 'c', 'e', 'j', 'b', 'o']) (by kernel_rfl) F.owner_object] <;> kernel_rfl
theorem initS_meets {T nid : String} {self a : Value} {rest : List Value} {kw : List (Str × Value)} (hl : typeLookup (.type T) "__init__" = pure (some (.builtin "object.__init__")))
    (hm : Bind.madeBy (.type T) = pure (some nid)) (hne : (some nid != some "object.__new__") = true) :
    Meets (Builtin.«object.__init__» ⟨self :: a :: rest, kw⟩) (fun _ R s => s.TypeIs self T ∧ R (.ok (.ret .none)) s) := by
  refine Meets.of_wp fun prog w A R s ⟨tys, hq⟩ => ?_
  repeat (any_goals (first | assumption | wp_step))
  exact ⟨_, rfl, hq⟩
section
variable {prog : Program} {w : World} {A : Around} {E : Value → Shared → Prop} {s : Shared}
theorem callTypeK {T nid iid : String} {Bn Bi : Builtin} {xs : List Value} {kw : List (Str × Value)} {S : PySem.Spec} {Q Q₁ : Value → Shared → Prop} (ft : TypeCalled T nid iid)
    (hct : checkTypeCall T ⟨xs, kw⟩ = pure ()) (hcn : checkBuiltinCall nid ⟨.type T :: xs, kw⟩ = pure ()) (en : entryFor table nid = some Bn) (ei : entryFor table iid = some Bi)
    (g : Meets (Bn ⟨.type T :: xs, kw⟩) S) (h : S A.in1 (wants Q₁ E) s)
    (hnext : ∀ obj s₁, Q₁ obj s₁ → s₁.TypeIs obj T ∧ argsOk iid ⟨obj :: xs, kw⟩ ∧ ∃ Si, Meets (Bi ⟨obj :: xs, kw⟩) Si ∧ Si A.in1 (wants (fun r s₂ => r = .none ∧ Q obj s₂) E) s₁) :
    wpAny (model prog w) A (call (.type T) xs kw) Q E s := by
  obtain ⟨mc, mtl, hmro⟩ := ft.mro
  have hmade := ft.made
  have hsub := ft.sub
  refine wpAny_call (codeAny_of_tree ?_)
  show wpAny _ _ (callAny (.type T) _) _ _ s
  refine wpAny_pure ⟨Code.quiet_builtin _ (by decide +kernel), codeAny_builtin F.entry_type_call ?_⟩
  rw [Around.under_plain (weight_type_call_type T xs kw) (units_type_call_type T xs kw)]
  have hn1 := ft.notType
  have hn2 := ft.canCreate
  repeat (any_goals (first | assumption | wp_step))
  refine codeAny_mono (codeAny_call_builtin ft.plain en (wpAny_of_eq hcn (g prog w A.in1 _ s h))) fun r s₁ hr => ?_
  cases r with
  | error e => exact hr
  | ok fl =>
    cases fl with
    | ret obj =>
      obtain ⟨hT, hok, Si, gi, hsi⟩ := hnext _ _ hr
      have hli := ft.init.lookup
      have hbi := ft.init.bind obj
      repeat (any_goals (first | assumption | wp_step))
      refine codeAny_mono (codeAny_call_builtin ft.init.plain ei (ft.init.check _ _ _ _ _ _ _ _ hT hok (gi prog w A.in1 _ s₁ hsi))) fun r₂ s₂ hr₂ => ?_
      cases r₂ with
      | error e => exact hr₂
      | ok fl₂ =>
        cases fl₂ with
        | ret r =>
          obtain ⟨rfl, hq⟩ := hr₂
          repeat (any_goals (first | assumption | wp_step))
        | _ => exact hr₂.elim
    | _ => exact hr.elim
theorem zarg_call (tup : Bool) {b1 b2 : Addr} {xs ys : Array Value} {Q : Value → Shared → Prop} (h1 : SSq tup s.heap b1 xs) (h2 : SSq tup s.heap b2 ys)
    (q : ∀ g, ZNew true tup (s.heap.objs.size + 4) (s.heap.objs.size + 2) (s.heap.objs.size + 3) s.heap.objs.size (s.heap.objs.size + 1) b1 b2 xs ys g → (∀ c o, s.heap.get? c = some o → g.get? c = some o) → Q (.ref (s.heap.objs.size + 4)) { s with heap := g }) :
    wpAny (model prog w) A (call (.type "zip") [.ref b1, .ref b2] [("strict", .bool true)]) Q E s := by
  refine callTypeK (Q₁ := fun obj s₁ => s₁.TypeIs obj "zip" ∧ Q obj s₁) F.called_zip (typeCall_zipS _ _ _) (newCall_zipS _ _ _) F.entry_zip_new F.entry_object_init (meets_zipS tup b1 b2 xs ys) ⟨h1, h2, ?_⟩ fun obj s₁ ⟨ty, hq⟩ =>
    ⟨ty, args_initS _ _ _ _, _, initS_meets F.called_zip.init.lookup F.called_zip.made (by decide), ty, rfl, hq⟩
  have z1 : (zh1 tup s.heap b1).objs.size = s.heap.objs.size + 1 := Heap.size_push ..
  have z2 : (zh2 tup s.heap b1 b2).objs.size = s.heap.objs.size + 2 := by rw [Heap.size_push, z1]
  have z3 : (zh3 tup s.heap b1 b2).objs.size = s.heap.objs.size + 3 := by rw [Heap.size_push, z2]
  have z4 : (zh4 tup s.heap b1 b2).objs.size = s.heap.objs.size + 4 := by rw [Heap.size_push, z3]
  have up : ∀ {h : Heap} {o : Obj} {c : Addr} {v : Obj}, h.get? c = some v → (h.push o).get? c = some v := fun e => Heap.get?_push_of_some _ e
  have f5 : (zh5 tup s.heap b1 b2).get? (zh4 tup s.heap b1 b2).objs.size = some _ := Heap.get?_push_size _ rfl
  have f4 : (zh5 tup s.heap b1 b2).get? (zh3 tup s.heap b1 b2).objs.size = some _ := up (Heap.get?_push_size _ rfl)
  have f3 : (zh5 tup s.heap b1 b2).get? (zh2 tup s.heap b1 b2).objs.size = some _ := up (up (Heap.get?_push_size _ rfl))
  have zf : (zo tup b1).isFreed = false ∧ (zo tup b2).isFreed = false := by cases tup <;> exact ⟨rfl, rfl⟩
  have f2 : (zh5 tup s.heap b1 b2).get? (zh1 tup s.heap b1).objs.size = some (zo tup b2) := up (up (up (Heap.get?_push_size _ zf.2)))
  have f1 : (zh5 tup s.heap b1 b2).get? s.heap.objs.size = some (zo tup b1) := up (up (up (up (Heap.get?_push_size _ zf.1))))
  have k : ∀ c o, s.heap.get? c = some o → (zh5 tup s.heap b1 b2).get? c = some o := fun c o e => up (up (up (up (up e))))
  show _ ∧ _
  rw [z2, z3, z4] at f5
  rw [z1, z2] at f3
  rw [z3] at f4
  rw [z1] at f2
  rw [z4]
  have si : ∀ {a b : Addr}, (zh5 tup s.heap b1 b2).get? a = some (zo tup b) → SIt tup (zh5 tup s.heap b1 b2) a b 0 := fun e => by
    cases tup
    · exact ⟨_, e, rfl, rfl⟩
    · exact ⟨_, e, rfl, rfl⟩
  exact ⟨⟨_, f5, rfl⟩, q _ ⟨f5, f3, ⟨_, _, f4⟩, si f1, si f2, h1.mv fun o e => k _ o e, h2.mv fun o e => k _ o e⟩ k⟩
end
end U
namespace U
open PySem PySem.Spec PyProof.Rows L2
/-! ### dict(zip(a, b, strict=True)) as an expression -/
section
variable {M : Model} {A : Around} {E : Value → Shared → Prop} {s : Shared}
theorem callWith_typeK {pos : Pos} {T : String} {first : List Value} {args : List (Bool × Sem Value)} {kws : List (Option Str × Sem Value)} {Q : Value → Shared → Prop} (h1 : args.any (·.1) = false) (h2 : kws.any (·.1.isNone) = false)
    (h : wpAny M A (evalArgs (.type T) true args kws) (fun a s₁ => wpAny M A (call (.type T) (first ++ a.pos) a.kw) Q E s₁) E s) : wpAny M A (callWith pos (.type T) first args kws) Q E s := by
  unfold callWith
  refine wpAny_bind (wpAny_holding (wpAny_mono h (fun a s₁ q => wpAny_bind (wpAny_standAt ?_)) fun _ _ z => z))
  simp only [h1, h2, Bool.or_false]
  refine wpAny_bind (wpAny_pure ?_)
  exact wpAny_bind (wpAny_mono q (fun r s₂ hr => wpAny_bind (wpAny_holding (wpAny_point (wpAny_pure hr)))) fun _ _ z => z)
end
theorem kv_zip : ∀ {ks : List Key} {ys : List V} {us : List Value}, Vals ys us → KV (ks.zip ys) (ks.zip us)
  | [], _, _, _ => .nil
  | _ :: _, _, _, .nil => .nil
  | k :: ks, _, _, .cons h t => .cons ⟨rfl, h⟩ (kv_zip t)
theorem dict_zip {X : Cx} {pins : List (Addr × Obj)} {σ : L2.St} {H1 : Hp} {s1 : Shared} {Q : VK} {a b : Addr} {ks : List Key} {ys : List V} (hcalm : X.calm = true) (I1 : Inv X pins σ H1 s1) (st tup : Bool) (kx ky : List Value) (rk : Vals (ks.map kV) kx) (ry : Vals ys ky) (h1 : SSq tup s1.heap a kx.toArray) (h2 : SSq tup s1.heap b ky.toArray) (hz : kx.length ≤ sizeLine) (hst : st = true → ks.length = ys.length)
    (q : ∀ p, H1 p = none → Q (.ref p) (upd H1 p (.dK (mergeK [] (ks.zip ys))))) (g : Heap) (ok : ZNew st tup (s1.heap.objs.size + 4) (s1.heap.objs.size + 2) (s1.heap.objs.size + 3) s1.heap.objs.size (s1.heap.objs.size + 1) a b kx.toArray ky.toArray g) (k : ∀ c o, s1.heap.get? c = some o → g.get? c = some o) :
    wpAny (model X.prog X.w) X.A (call (.type "dict") [.ref (s1.heap.objs.size + 4)]) (EP X pins σ Q) X.xe { s1 with heap := g } := by
  have lk : ks.length = kx.length := by rw [← rk.length, List.length_map]
  have ly : ys.length = ky.length := ry.length
  obtain ⟨o1, e1⟩ := h1.ob
  obtain ⟨o2, e2⟩ := h2.ob
  have hsz : st = true → kx.toArray.size = ky.toArray.size := fun e => by have := hst e; rw [List.size_toArray, List.size_toArray]; omega
  refine PySem.call_dict_pairs (s := { s1 with heap := g }) (knd := mixKind X.prog X.w) (kvs := ks.zip ky) (zarg st tup _ _ _ _ _ a b (PySem.W.ktu_apart s1.heap.objs.size a b (Heap.lt_size e1) (Heap.lt_size e2)) kx.toArray ky.toArray hsz) (I1.ok.hd hcalm) ok ⟨?_, fun i key v ⟨g1, g2⟩ => ?_⟩ ?_ fun h' tk hd' k' => ?_
  · rw [List.length_zip, List.size_toArray, List.size_toArray, lk]
  · have g1' : kx[i]? = some key := by simpa using g1
    have g2' : ky[i]? = some v := by simpa using g2
    have hi := (List.getElem?_eq_some_iff.mp g1').1
    obtain ⟨kk, ek⟩ : ∃ kk, ks[i]? = some kk := ⟨_, List.getElem?_eq_getElem (by omega)⟩
    obtain ⟨u, eu, ru⟩ := rk.get (show (ks.map kV)[i]? = some (kV kk) by rw [List.getElem?_map, ek]; rfl)
    rw [g1'] at eu
    cases eu
    exact ⟨kk, by rw [List.getElem?_zip_eq_some]; exact ⟨ek, g2'⟩, kV_is (P := X.prog) (w := X.w) ru⟩
  · rw [List.size_toArray]; exact Nat.le_trans (Nat.min_le_left ..) hz
  · have kk : ∀ c o, s1.heap.get? c = some o → h'.get? c = some o := fun c o e => k' c o (fun hm => by
      have hlt := Heap.lt_size e
      simp only [List.mem_cons, List.not_mem_nil, or_false] at hm
      rcases hm with z | z | z | z <;> (rw [z] at hlt; exact absurd hlt (Nat.not_lt.mpr (by first | exact Nat.le_refl _ | exact Nat.le_add_right _ _)))) (k c o e)
    have big : s1.heap.objs.size ≤ g.objs.size := Nat.le_of_lt (Nat.lt_of_le_of_lt (Nat.le_add_right _ 4) (Heap.lt_size ok.1))
    have hm : (g.objs.size == sysModules) = false := beq_eq_false_iff_ne.mpr (Nat.ne_of_gt (Nat.lt_of_lt_of_le I1.big big))
    have rel : KV (ks.zip ys) (ks.zip ky) := kv_zip ry
    have hlen : (mergeK [] (ks.zip ys)).length ≤ sizeLine := by
      refine Nat.le_trans (length_mergeK (ks.zip ys) []) ?_
      rw [List.length_nil, Nat.zero_add, List.length_zip, lk]
      exact Nat.le_trans (Nat.min_le_left ..) hz
    exact ⟨.ref g.objs.size, upd H1 g.objs.size (.dK (mergeK [] (ks.zip ys))), I1.laid (t' := tk) kk big (show ObjOk X.prog X.w _ _ _ (.dK (mergeK [] (ks.zip ys))) from ⟨hlen, hm, merged [] (ks.zip ky), KV.merge rel .nil, hd'⟩), rfl, q _ (I1.hok.fresh big)⟩
def rDictZip (K : PySem.W.Frag) : List V → Hp → VK → Prop := fun vs H Q => ∃ (a b : Addr) (ks : List Key) (ys : List V), vs = [.ref a, .ref b] ∧ ((SqL K H a (ks.map kV) ∧ SqL K H b ys) ∨ (SqT K H a (ks.map kV) ∧ SqT K H b ys)) ∧ ks.length = ys.length ∧ ∀ p, H p = none → Q (.ref p) (upd H p (.dK (mergeK [] (ks.zip ys))))
def tDictZip (K : PySem.W.Frag) (ta : TA) : TE := fun σ H Q => ta σ H fun vs H1 => rDictZip K vs H1 Q
theorem pe_dictZip {X : Cx} {e e2 : Expr} {ta : TA} {p p2 kp cp cpos pos : Pos} {cj : Nat} (hcalm : X.calm = true) (ha : PA X [e, e2] ta) (hg : Gl X "dict") (hm : X.mg "dict" = none) (hv : bootBuiltins "dict" = some (.type "dict")) (hgz : Gl X "zip") (hmz : X.mg "zip" = none)
    (hs : starEach [.Call (.Name "zip" p2) [e, e2] [⟨some "strict", .Constant (.bool true) cj cp, kp⟩] cpos] X.env = (false, eval (.Call (.Name "zip" p2) [e, e2] [⟨some "strict", .Constant (.bool true) cj cp, kp⟩] cpos) X.env) :: starEach [] X.env := by rfl)
    (hs2 : starEach [e, e2] X.env = (false, eval e X.env) :: starEach [e2] X.env := by rfl) (hpl : (backTo cpos (starEach [e, e2] X.env)).any (·.1) = false := by rfl) :
    PE X (.Call (.Name "dict" p) [.Call (.Name "zip" p2) [e, e2] [⟨some "strict", .Constant (.bool true) cj cp, kp⟩] cpos] [] pos) (tDictZip X.K ta) := by
  refine ⟨fun pins s σ H Q I hq => wpAny_Call_Name_kw (ld_blt I hg hm hv (PyProof.Rows.callWith_type1 ?_ hs rfl))⟩
  rw [hs]
  show wpAny _ _ (spliced ((false, eval (.Call (.Name "zip" p2) [e, e2] _ cpos) X.env) :: backTo pos (starEach [] X.env))) _ _ s
  refine Calls.spliced_cons (wpAny_Call_Name_kw (ld_blt I hgz hmz PyProof.Rows.boot_zip (callWith_typeK hpl rfl ?_)))
  rw [hs2]
  refine PyProof.Rows.evalArgs_kwB (by rfl) ?_
  have h0 := ha.run cpos pins s σ H _ I hq
  rw [hs2] at h0
  refine thn h0 fun us s1 ⟨vs, H1, I1, r, a, b, ks, ys, ex, hab, hl, q⟩ => ?_
  subst ex
  cases r with
  | cons r rr =>
    cases rr with
    | cons r' rr =>
      cases rr
      cases r
      cases r'
      show wpAny _ _ (evalAll ((do let v ← eval (.Constant (.bool true) cj cp) X.env; standAt cpos; pure v) :: [])) _ _ s1
      refine PyProof.Rows.evalAll_cons (wpAny_bind (PySem.wpAny_Constant_bool (wpAny_bind (wpAny_standAt (wpAny_pure (PyProof.Rows.evalAll_nil ?_))))))
      show wpAny _ _ (call (.type "zip") [.ref a, .ref b] [("strict", .bool true)]) _ _ s1
      have main : ∀ (tup : Bool) (kx ky : List Value), Vals (ks.map kV) kx → Vals ys ky → SSq tup s1.heap a kx.toArray → SSq tup s1.heap b ky.toArray → kx.length ≤ sizeLine → wpAny (model X.prog X.w) X.A (call (.type "zip") [.ref a, .ref b] [("strict", .bool true)]) (fun v s2 => wpAny (model X.prog X.w) X.A (call (.type "dict") [v]) (EP X pins σ Q) X.xe s2) X.xe s1 := fun tup kx ky rk ry h1 h2 hz =>
        zarg_call tup h1 h2 fun g ok k => dict_zip hcalm I1 true tup kx ky rk ry h1 h2 hz (fun _ => hl) q g ok k
      refine wpAny_mono ?_ (fun v s2 z => Calls.spliced_nil z) fun _ _ z => z
      rcases hab with ⟨ha', hb'⟩ | ⟨ha', hb'⟩
      · obtain ⟨kx, rk, p1, z1⟩ := I1.list ha'
        obtain ⟨ky, ry, p2, _⟩ := I1.list hb'
        exact main false kx ky rk ry p1.isList p2.isList (by rw [← rk.length]; exact z1)
      · obtain ⟨kx, rk, p1, z1⟩ := I1.tuple ha'
        obtain ⟨ky, ry, p2, _⟩ := I1.tuple hb'
        exact main true kx ky rk ry p1 p2 (by rw [← rk.length]; exact z1)
/-! ### dict(zip(a, b)) -/
end U
namespace My
open PySem L2 U StX PM
/-! ### elements checked; cycles -/
def tld (CE : Addr) (fld : Str) (x : V) (H : Hp) (E : XK) : Prop := ∀ d H', Same H H' → H' d = none → E (.ref CE) (some d) (upd H' d (.xd [(fld, x)]))
def firstBad (n : Int) : List Int → List V → Option V
  | _, [] => none
  | sn, .int i :: r => if inR (.int i) 0 (n - 1) = true ∧ i ∉ sn then firstBad n (i :: sn) r else some (.int i)
  | _, x :: _ => some x
theorem firstBad_int {n : Int} {sn : List Int} {i : Int} {r : List V} : firstBad n sn (.int i :: r) = if inR (.int i) 0 (n - 1) = true ∧ i ∉ sn then firstBad n (i :: sn) r else some (.int i) := rfl
theorem firstBad_out {n : Int} {sn : List Int} {x : V} {r : List V} (h : inR x 0 (n - 1) = false) : firstBad n sn (x :: r) = some x := by
  cases x with
  | int i => rw [firstBad_int, if_neg (by rw [h]; simp)]
  | _ => rfl
theorem firstBad_rep {n : Int} {sn : List Int} {i : Int} {r : List V} (h : i ∈ sn) : firstBad n sn (.int i :: r) = some (.int i) := by rw [firstBad_int, if_neg (fun z => z.2 h)]
theorem firstBad_next {n : Int} {sn : List Int} {i : Int} {r : List V} (h1 : inR (.int i) 0 (n - 1) = true) (h : i ∉ sn) : firstBad n sn (.int i :: r) = firstBad n (i :: sn) r := by rw [firstBad_int, if_pos ⟨h1, h⟩]
theorem firstBad_ok {n : Int} : ∀ {is sn : List Int}, (∀ i ∈ is, 0 ≤ i ∧ i < n) → is.Nodup → (∀ i ∈ is, i ∉ sn) → firstBad n sn (is.map V.int) = none
  | [], _, _, _, _ => rfl
  | i :: is, sn, h1, h2, h3 => by
    rw [List.map_cons, firstBad_next (by have := h1 i (List.mem_cons_self ..); simp only [inR, Bool.and_eq_true, decide_eq_true_eq]; omega) (h3 i (List.mem_cons_self ..))]
    refine firstBad_ok (fun j hj => h1 j (List.mem_cons_of_mem _ hj)) (List.nodup_cons.mp h2).2 fun j hj hm => ?_
    rcases List.mem_cons.mp hm with rfl | hm
    · exact (List.nodup_cons.mp h2).1 hj
    · exact h3 j (List.mem_cons_of_mem _ hj) hm
theorem kvB_new {sl : List Int} {x : Int} (h : x ∉ sl) : putK (kvB sl) (Sum.inl x : Key) (V.bl true) = kvB (sl ++ [x]) := by
  rw [putK_new _ (valV_none fun z => h (kvB_key.mp z))]
  unfold kvB
  rw [List.map_append]
  rfl
theorem knownV.mv {C : Addr} {H H' : Hp} {x : V} (h : knownV C H x) (s : Same H H') : knownV C H' x := by
  cases x with
  | ref a =>
    rcases h with ⟨xs, e⟩ | ⟨xs, e⟩ | ⟨xs, e⟩ | ⟨dx, fs, e⟩
    · exact .inl ⟨_, s _ _ e⟩
    · exact .inr (.inl ⟨_, s _ _ e⟩)
    · exact .inr (.inr (.inl ⟨_, s _ _ e⟩))
    · exact .inr (.inr (.inr ⟨_, _, s _ _ e⟩))
  | _ => exact h
def spChkL (sq : Addr → List V → HO → Prop) (C CE : Addr) : Sp := fun vs H Q E => ∃ (n : Int) (l : Addr) (xs : List V) (o : HO), vs = [.int n, .ref l] ∧ H l = some o ∧ sq l xs o ∧ xs.length ≤ 1000 ∧ (∀ x ∈ xs, knownV C H x) ∧
  ((firstBad n [] xs = none ∧ ∀ H', Same H H' → Q .non H') ∨ ∃ x, firstBad n [] xs = some x ∧ tld CE "value" x H E)
def sqT : Addr → List V → HO → Prop := fun _ xs o => o = .tup xs
theorem drop_at {xs : List V} {i : Nat} {v : V} (h : xs[i]? = some v) : xs.drop i = v :: xs.drop (i + 1) := by
  obtain ⟨hi, e⟩ := List.getElem?_eq_some_iff.mp h
  rw [List.drop_eq_getElem_cons hi, e]
theorem slA_R {K : PySem.W.Frag} {H : Hp} {a : Addr} {xs : List V} {lo hi : Option Int} {Q : VK} (h : SqT K H a xs) (q : ∀ p H', Same H H' → SqT K H' p (cutV xs lo hi) → Q (.ref p) H') : rSlA K (.ref a) lo hi H Q := by
  refine ⟨a, xs, rfl, h, fun hw => q a H (Same.refl _) ?_, fun _ p np => q p _ (Same.new np) (SqT.of upd_same)⟩
  unfold cutV
  rw [hw.1, hw.2, List.drop_zero, Nat.sub_zero, List.take_length]
  exact h
theorem catA_R {K : PySem.W.Frag} {H : Hp} {a b : Addr} {xs ys : List V} {Q : VK} (h : SqT K H a xs) (g : SqT K H b ys) (hl : xs.length + ys.length ≤ 100000) (q : ∀ p H', Same H H' → SqT K H' p (xs ++ ys) → Q (.ref p) H') : rCatA K (.ref a) (.ref b) H Q := by
  refine ⟨a, b, xs, ys, rfl, rfl, h, g, le_line hl, fun e => ?_, fun _ e => ?_, fun _ _ p np => q p _ (Same.new np) (SqT.of upd_same)⟩
  · subst e
    exact q b H (Same.refl _) g
  · subst e
    exact q a H (Same.refl _) (by rw [List.append_nil]; exact h)
def rot (is : List Int) : List (Int × Int) := is.zip (is.drop 1 ++ is.take 1)
def cyc (is : List Int) : PF := lk (rot is)
theorem rot_len (is : List Int) : (is.drop 1 ++ is.take 1).length = is.length := by
  rw [List.length_append, List.length_drop, List.length_take]; omega
theorem rot_keys (is : List Int) : (rot is).map (·.1) = is := by
  unfold rot
  rw [List.map_fst_zip]
  rw [rot_len]
  exact Nat.le_refl _
theorem di_rot {is : List Int} (nd : is.Nodup) : DI (rot is) (cyc is) := ⟨by rw [rot_keys]; exact nd, fun _ => rfl⟩
theorem zip_inj {α β : Type} : ∀ {xs : List α} {ys : List β} {a b : α} {y : β}, ys.Nodup → (a, y) ∈ xs.zip ys → (b, y) ∈ xs.zip ys → a = b
  | [], _, _, _, _, _, h, _ => nomatch h
  | _ :: _, [], _, _, _, _, h, _ => nomatch h
  | x :: xs, z :: ys, a, b, y, nd, h1, h2 => by
    rw [List.zip_cons_cons] at h1 h2
    have n1 := (List.nodup_cons.mp nd).1
    rcases List.mem_cons.mp h1 with e1 | e1 <;> rcases List.mem_cons.mp h2 with e2 | e2
    · cases e1; cases e2; rfl
    · cases e1
      exact absurd (List.of_mem_zip e2).2 n1
    · cases e2
      exact absurd (List.of_mem_zip e1).2 n1
    · exact zip_inj (List.nodup_cons.mp nd).2 e1 e2
theorem rot_nd {is : List Int} (nd : is.Nodup) : (is.drop 1 ++ is.take 1).Nodup := by
  have e : (is.take 1 ++ is.drop 1).Nodup := by rw [List.take_append_drop]; exact nd
  exact (List.perm_append_comm.nodup_iff).mp e
theorem wf_cyc {n : Int} {is : List Int} (h : ∀ i ∈ is, 0 ≤ i ∧ i < n) (nd : is.Nodup) : WF n (cyc is) := by
  have key : ∀ x y, cyc is x = some y → (x, y) ∈ rot is := fun x y e => (di_rot nd).mem.mpr e
  refine ⟨fun x y e => ?_, fun x x' y e1 e2 => zip_inj (rot_nd nd) (key _ _ e1) (key _ _ e2)⟩
  have hm := List.of_mem_zip (key _ _ e)
  have hx := h x hm.1
  have hy : y ∈ is := by
    rcases List.mem_append.mp hm.2 with z | z
    · exact List.mem_of_mem_drop z
    · exact List.mem_of_mem_take z
  have := h y hy
  omega
theorem kvI_zip (as bs : List Int) : (as.map (Sum.inl : Int → Key)).zip (bs.map V.int) = kvI (as.zip bs) := by
  unfold kvI
  rw [List.zip_map]
  rfl
theorem map_kV (as : List Int) : (as.map (Sum.inl : Int → Key)).map kV = as.map V.int := by
  rw [List.map_map]
  rfl
theorem cut_1 (xs : List V) : cutV xs (some 1) none = xs.drop 1 := by
  unfold cutV
  rw [HT.sIx_none, show (some (1 : Int)) = some ((1 : Nat) : Int) from rfl, HT.sIx_nat]
  cases xs with
  | nil => rfl
  | cons x r =>
    rw [List.length_cons, Nat.min_eq_left (by omega)]
    rw [List.drop_succ_cons, List.drop_zero]
    exact List.take_of_length_le (by omega)
theorem cut_0 (xs : List V) : cutV xs none (some 1) = xs.take 1 := by
  unfold cutV
  rw [HT.sIx_none, show (some (1 : Int)) = some ((1 : Nat) : Int) from rfl, HT.sIx_nat]
  cases xs with
  | nil => rfl
  | cons x r =>
    rw [List.length_cons, Nat.min_eq_left (by omega)]
    rfl
section
variable {P : Program} {w : World} {K : PySem.W.Frag} {mg : Str → Option Value} {base : Heap}
theorem okN_ini_InvalidElement (T : Txt K mg) : FnR P w K mg base CX0 1 T.f_InvalidElement__init (spIni1 T.C_InvalidElement "value") := by
  refine T.A_InvalidElement__init.ok sc_InvalidElement__init (fun vs H Q E h => ?_) (fun cdv A outer s H vs Q E hr h => ?_)
  · obtain ⟨a, v, rfl, _⟩ := h
    rfl
  · obtain ⟨a, v, rfl, ha, q⟩ := h
    refine ⟨_, pss_one (ps_ostG (pv 0) (pv 1)), ?_⟩
    exact ⟨_, rfl, _, rfl, a, T.C_InvalidElement, rfl, T.x_InvalidElement, T.na_value_InvalidElement, .inl ⟨ha, fun dx h1 h2 => q dx h1 h2⟩⟩
theorem okX_checkET (T : Txt K mg) : FnR P w K mg base (L2.CX P w) 4 T.f_check_elements (spChkL sqT T.C_Map T.C_InvalidElement) := by
  refine T.A_check_elements.okX sc_check_elements (fun vs H Q E h => ?_) (fun cdv A outer s H vs Q E hr h => ?_)
  · obtain ⟨n, l, xs, o, rfl, _⟩ := h
    rfl
  · obtain ⟨n, l, xs, o, rfl, hl, rfl, hz, hk, h⟩ := h
    have hu := hu_of hr
    have ok_ini_InvalidElement := fun (T : Txt K mg) => okN_ini_InvalidElement (P := P) (w := w) (base := base) T
    refine ⟨_, (pss_cons (ps_set (i := 2) sc_check_elements.nd rfl (Or.inl rfl) pe_dnewK)
      (pss_one (ps_for (passes_of rfl) rfl (pi_tup (pv 1)) (pg_name (i := 3) sc_check_elements.nd rfl (Or.inl rfl))
        (pss_cons (ps_if (PW.pt (pw_or (pt_not (pt_val (pe_callR (ok_in_range T) (hr.mono (by decide)) T.A_in_range.kp rfl T.g_in_range pass0 (pa_cons (pv 3) (pa_cons pe_int (pa_cons (pe_op op_sub (pv 0) pe_int) pa_nil)))))) (pw_or1 (pt_cmp (pc_din hu (pv 3) (pv 2))))))
        (pss_one (ps_raise rfl (takes_of rfl rfl rfl rfl) (pmk_oexG T.x_InvalidElement T.m_InvalidElement__init T.ti_InvalidElement__init (ok_ini_InvalidElement T) (hr.mono (by decide)) pass0 rfl T.g_InvalidElement (pa_cons (pv 3) pa_nil)))) pss_nil)
      (pss_one (ps_dput hu (pv 2) (pv 3) pe_bl rfl)))))), ?_⟩
    refine fun se n_se => ?_
    generalize g_se : L2.upd _ se _ = H1
    obtain ⟨s_H1, e_se⟩ := U.upd_facts g_se n_se
    clear g_se
    have hl1 := s_H1 _ _ hl
    refine ⟨_, rfl, l, rfl, ⟨_, SqT.of hl1⟩, ?_⟩
    refine for_it (walk_tup (xs := xs)) (fun i σ H' => ∃ v3 sn sl, σ = [some (.int n), some (.ref l), some (.ref se), v3] ∧ Same H H' ∧ H' se = some (.dK (kvB sl)) ∧ (∀ z, z ∈ sl ↔ z ∈ sn) ∧ sl.length ≤ i ∧ firstBad n [] xs = firstBad n sn (xs.drop i)) ⟨_, [], [], rfl, s_H1, e_se, fun _ => Iff.rfl, Nat.le_refl _, rfl⟩ (fun i σ H' _ ⟨_, _, _, _, z, _⟩ => SqT.of (z _ _ hl)) ?_ ?_
    · rintro i v σ H0 H' hi ⟨v3, sn, sl, rfl, sh, hse, hm, hsl, hf⟩ ⟨rfl, ev⟩
      have hil : i < xs.length := (List.getElem?_eq_some_iff.mp ev).1
      rw [drop_at ev] at hf
      have raise : firstBad n [] xs = some v → tld T.C_InvalidElement "value" v H E := fun e => by
        rcases h with ⟨e2, _⟩ | ⟨x, e2, q⟩
        · rw [e] at e2; cases e2
        · rw [e] at e2; cases e2; exact q
      refine ⟨_, rfl, _, rfl, _, _, rfl, rfl, v, 0, n - 1, rfl, (hk v (List.mem_of_getElem? ev)).mv sh, _, rfl, ?_⟩
      cases hr1 : inR v 0 (n - 1) with
      | false =>
        rw [firstBad_out hr1] at hf
        exact iteT (iteT ⟨_, rfl, mk_one fun d hd => raise hf d _ sh hd⟩)
      | true =>
        refine iteF ?_
        obtain ⟨j, rfl⟩ : ∃ j, v = .int j := by cases v <;> first | exact ⟨_, rfl⟩ | cases hr1
        refine ⟨_, rfl, _, rfl, se, _, rfl, DGet.k (k := Sum.inl j) hse, _, rfl, ?_⟩
        rw [kvB_val]
        refine ifB (fun hc => ?_) (fun hc => ?_)
        · rw [firstBad_rep ((hm j).mp (of_decide_eq_true hc))] at hf
          exact ⟨_, rfl, mk_one fun d hd => raise hf d _ sh hd⟩
        · have hj : j ∉ sl := of_decide_eq_false hc
          rw [firstBad_next hr1 (fun z => hj ((hm j).mpr z))] at hf
          refine ⟨_, rfl, _, rfl, se, _, rfl, .k (k := Sum.inl j) hse (lt_line (by unfold kvB; rw [List.length_map]; omega)), ?_⟩
          rw [kvB_new hj]
          exact ⟨_, j :: sn, sl ++ [j], rfl, Same.put sh n_se, upd_same, fun z => by rw [List.mem_append, List.mem_singleton, List.mem_cons, hm]; exact Or.comm, by rw [List.length_append, List.length_singleton]; omega, hf⟩
    · rintro σ H' ⟨v3, sn, sl, rfl, sh, hse, hm, hsl, hf⟩
      rw [List.drop_length] at hf
      rcases h with ⟨_, q⟩ | ⟨x, e2, q⟩
      · exact q _ sh
      · rw [e2] at hf; cases hf
theorem okN_ini_InvalidSize (T : Txt K mg) : FnR P w K mg base CX0 1 T.f_InvalidSize__init (spIni1 T.C_InvalidSize "value") := by
  refine T.A_InvalidSize__init.ok sc_InvalidSize__init (fun vs H Q E h => ?_) (fun cdv A outer s H vs Q E hr h => ?_)
  · obtain ⟨a, v, rfl, _⟩ := h
    rfl
  · obtain ⟨a, v, rfl, ha, q⟩ := h
    refine ⟨_, pss_one (ps_ostG (pv 0) (pv 1)), ?_⟩
    exact ⟨_, rfl, _, rfl, a, T.C_InvalidSize, rfl, T.x_InvalidSize, T.na_value_InvalidSize, .inl ⟨ha, fun dx h1 h2 => q dx h1 h2⟩⟩
def spChkZ (C CS : Addr) : Sp := fun vs H Q E => ∃ v, vs = [v] ∧ knownV C H v ∧ ((inR v 1 300 = true ∧ Q .non H) ∨ (inR v 1 300 = false ∧ tld CS "value" v H E))
theorem okX_checkZ (T : Txt K mg) : FnR P w K mg base (L2.CX P w) 3 T.f_check_size (spChkZ T.C_Map T.C_InvalidSize) := by
  refine T.A_check_size.okX sc_check_size (fun vs H Q E h => ?_) (fun cdv A outer s H vs Q E hr h => ?_)
  · obtain ⟨v, rfl, _⟩ := h
    rfl
  · obtain ⟨v, rfl, hk, h⟩ := h
    have ok_ini_InvalidSize := fun (T : Txt K mg) => okN_ini_InvalidSize (P := P) (w := w) (base := base) T
    obtain ⟨_, h_MAX_SIZE⟩ := T.v_MAX_SIZE
    refine ⟨_, (pss_one (ps_if (pt_not (pt_val (pe_callR (ok_in_range T) (hr.mono (by decide)) T.A_in_range.kp rfl T.g_in_range pass0 (pa_cons (pv 0) (pa_cons pe_int (pa_cons (pe_glob (v := .int 300) rfl h_MAX_SIZE ⟨_, rfl⟩) pa_nil))))))
        (pss_one (ps_raise rfl (takes_of rfl rfl rfl rfl) (pmk_oexG T.x_InvalidSize T.m_InvalidSize__init T.ti_InvalidSize__init (ok_ini_InvalidSize T) (hr.mono (by decide)) pass0 rfl T.g_InvalidSize (pa_cons (pv 0) pa_nil)))) pss_nil)), ?_⟩
    refine ⟨_, rfl, v, 1, 300, rfl, hk, _, rfl, ?_⟩
    rcases h with ⟨e, q⟩ | ⟨e, q⟩
    · rw [e]
      exact iteF q
    · rw [e]
      exact iteT ⟨_, rfl, mk_one fun d hd => q d H (Same.refl _) hd⟩
def spCyc (C CS CE : Addr) (op : List Int → PF) : Sp := fun vs H Q E => ∃ (v : V) (p : Addr) (xs : List V), vs = [.ref C, v, .ref p] ∧ H p = some (.tup xs) ∧ xs.length ≤ 100 ∧ knownV C H v ∧ (∀ x ∈ xs, knownV C H x) ∧
  ((inR v 1 300 = false ∧ tld CS "value" v H E) ∨ ∃ n, v = .int n ∧ 1 ≤ n ∧ n ≤ 300 ∧ ((∃ x, firstBad n [] xs = some x ∧ tld CE "value" x H E) ∨ ∃ is : List Int, xs = is.map V.int ∧ (∀ i ∈ is, 0 ≤ i ∧ i < n) ∧ is.Nodup ∧ ∀ r H', H r = none → Same H H' → IsMap C H' r n (op is) → Q (.ref r) H'))
theorem inR_13 {n : Int} (h1 : 1 ≤ n) (h3 : n ≤ 300) : inR (.int n) 1 300 = true := by simp only [inR, Bool.and_eq_true, decide_eq_true_eq]; omega
theorem okX_cycle (T : Txt K mg) : FnR P w K mg base (L2.CX P w) 8 T.f_Map_cycle (spStar 2 (spCyc T.C_Map T.C_InvalidSize T.C_InvalidElement cyc)) := by
  refine T.A_Map_cycle.okX sc_Map_cycle (fun cdv A outer s H vs Q E hr h => ?_)
  · obtain ⟨v, p, xs, rfl, hp, hz, hkv, hkx, h⟩ := h
    have hu := hu_of hr
    refine ⟨_, (pss_cons (ps_expr (pe_callR (okX_checkZ T) (hr.mono (by decide)) T.A_check_size.kp rfl T.g_check_size (passes_call (takes_of rfl rfl rfl rfl) (fun _ _ _ _ h => h)) (pa_cons (pv 1) pa_nil)))
      (pss_cons (ps_expr (pe_callR (okX_checkET T) (hr.mono (by decide)) T.A_check_elements.kp rfl T.g_check_elements (passes_call (takes_of rfl rfl rfl rfl) (fun _ _ _ _ h => h)) (pa_cons (pv 1) (pa_cons (pv 2) pa_nil))))
      (pss_one (ps_ret (pe_makeL (i := 0) T.M_Map (ok_init T) (hr.mono (by decide)) rfl (Or.inl rfl) pass0 (pa_cons (pv 1) (pa_cons (pe_dictZip rfl (pa_cons (pv 2) (pa_cons (pe_op op_catA (pe_slice sl_tupA (pv 2) (po_some pe_int) po_none) (pe_slice sl_tupA (pv 2) po_none (po_some pe_int))) pa_nil)) rfl T.n_dict (by decide +kernel) rfl T.n_zip) pa_nil))))))), ?_⟩
    rcases h with ⟨e, q⟩ | ⟨n, rfl, n1, n3, h⟩
    · exact ⟨_, rfl, v, rfl, hkv, .inr ⟨e, q⟩⟩
    refine ⟨_, rfl, .int n, rfl, trivial, .inl ⟨inR_13 n1 n3, ?_⟩⟩
    rcases h with ⟨x, e, q⟩ | ⟨is, rfl, hb, nd, q⟩
    · exact ⟨_, rfl, _, rfl, n, p, xs, _, rfl, hp, rfl, by omega, hkx, .inr ⟨x, e, q⟩⟩
    refine ⟨_, rfl, _, rfl, n, p, _, _, rfl, hp, rfl, by omega, hkx, .inl ⟨firstBad_ok hb nd (fun _ _ z => nomatch z), fun H1 s1 => ?_⟩⟩
    have hp1 : SqT K H1 p (is.map V.int) := SqT.of (s1 _ _ hp)
    rw [List.length_map] at hz
    refine ⟨rfl, _, rfl, _, rfl, _, rfl, 1, rfl, ?_⟩
    dsimp only [tNoPart]
    refine slA_R hp1 fun q1 H2 s2 h2 => ?_
    refine ⟨_, rfl, 1, rfl, ?_⟩
    show rSlA K (.ref p) none (some 1) H2 _
    refine slA_R (SqT.of (s2 _ _ (s1 _ _ hp))) fun q2 H3 s3 h3 => ?_
    rw [cut_1] at h2
    rw [cut_0] at h3
    refine catA_R (h2.ext s3) h3 (by simp only [List.length_drop, List.length_take, List.length_map]; omega) fun q3 H4 s4 h4 => ?_
    have s14 := (s2.trans s3).trans s4
    have s04 := s1.trans s14
    have eq4 : (is.map V.int).drop 1 ++ (is.map V.int).take 1 = (is.drop 1 ++ is.take 1).map V.int := by rw [List.map_append, List.map_drop, List.map_take]
    rw [eq4] at h4
    refine ⟨p, q3, is.map Sum.inl, _, rfl, .inr ⟨by rw [map_kV]; exact SqT.of (s04 _ _ hp), h4⟩, by simp only [List.length_map]; exact (rot_len is).symm, fun D n_D => ?_⟩
    rw [kvI_zip]
    obtain ⟨l9, e9, hl9, d9⟩ := dict_of (di_rot nd)
    rw [show is.zip (is.drop 1 ++ is.take 1) = rot is from rfl, e9]
    generalize g_D : L2.upd _ D _ = H5
    obtain ⟨s_H5, e_D⟩ := U.upd_facts g_D n_D
    clear g_D
    have hlr : (rot is).length ≤ 100 := by unfold rot; rw [List.length_zip]; omega
    exact fun r dr nr ndr ne => init_of e_D d9 (wf_cyc hb nd) n1 n3 (by omega) nr ndr ne fun H6 s6 m6 => ⟨rfl, q r H6 ((s04.trans s_H5).free nr) (s04.trans (s_H5.trans s6)) m6⟩
end
end My
namespace My
open PySem L2 U StX PM NdefX
/-! ### clones; == of sessions -/
def lbo : Option Int → Int → Prop | none, _ => True | some l, n => 0 ≤ l ∧ l ≤ n
theorem sfx_fr (ex : Option Int) (m tl te : Addr) : (sfx ex m tl te).lookup ("fresh" : Str) = none := by cases ex <;> rfl
def spFresh (ex : Option Int) (C CM : Addr) : Sp := fun vs H Q _ => ∃ (s : Addr) (n : Int) (lg : List (Str × Str)) (gs : List PF) (f : PF), vs = [.ref s] ∧ SessX ex C CM H s n lg gs f ∧ lbo ex n ∧ ∀ (t dt m tl te : Addr) (H' : Hp), H t = none → Same H H' → H' t = some (.ins C dt (sfx ex m tl te)) → Q (.ref t) H'
def spClone (ex : Option Int) (C CM : Addr) : Sp := fun vs H Q _ => ∃ (s : Addr) (n : Int) (lg : List (Str × Str)) (gs : List PF) (f : PF), vs = [.ref s] ∧ SessX ex C CM H s n lg gs f ∧ lbo ex n ∧ ∀ (t : Addr) (H' : Hp), H t = none → Same H H' → SessX ex C CM H' t n lg gs f → Q (.ref t) H'
theorem mk_same {H H' : Hp} {s dx : Addr} {o1 o2 : HO} (ns : H s = none) (nd : H dx = none) (o : Off s (upd (upd H dx o1) s o2) H') : Same H H' := fun c u e => o _ _ (ne_of_none e ns) (by rw [upd_ne (ne_of_none e ns), upd_ne (ne_of_none e nd)]; exact e)
/-- maps, by their own == -/
def RB (C : Addr) : Addr → Addr → Hp → Bool → Prop := fun a b H c => ∃ n f n' g, IsMap C H a n f ∧ IsMap C H b n' g ∧ c = eqB n f n' g
theorem isMap_fun {C : Addr} {H : Hp} {a : Addr} {n n' : Int} {f g : PF} (h1 : IsMap C H a n f) (h2 : IsMap C H a n' g) : eqB n f n' g = true := by
  obtain ⟨dx, D, a1, a2⟩ := h1.ob
  obtain ⟨dy, D', b1, b2⟩ := h2.ob
  rw [a1] at b1
  have e := (HO.ins.inj (Option.some.inj b1)).2.2
  have e1 : some (V.int n) = some (V.int n') := by rw [← flds_size n D, e, flds_size]
  have e2 : some (V.ref D) = some (V.ref D') := by rw [← flds_arrows n D, e, flds_arrows]
  cases e1
  cases e2
  rw [a2] at b2
  have e3 := HO.dK.inj (Option.some.inj b2)
  have := eqB_self h1.wf
  unfold eqB at this ⊢
  rw [← e3]
  exact this
theorem selfB_map {C : Addr} : SelfB (DInsB C (RB C)) := fun a H c ⟨x, y, dx, dy, fs, gs, h1, h2, e1, e2, n, f, n', g, m1, m2, hc⟩ => by
  cases h1
  cases h2
  rw [hc]
  exact isMap_fun m1 m2
theorem monB_map {C : Addr} : MonB (DInsB C (RB C)) := fun x y H H' c e ⟨a, b, dx, dy, fs, gs, h1, h2, e1, e2, n, f, n', g, m1, m2, hc⟩ => ⟨a, b, dx, dy, fs, gs, h1, h2, e _ _ e1, e _ _ e2, n, f, n', g, m1.same e, m2.same e, hc⟩
/-! ### logs and lists of maps, compared -/
theorem eqv_str (x y : Str) : PyData.eqv (.str x) (.str y) = decide (x = y) := by
  show (x == y) = decide (x = y)
  by_cases h : x = y
  · subst h; simp
  · rw [decide_eq_false h, beq_eq_false_iff_ne]; exact h
theorem eqv_log : ∀ (l l' : List (Str × Str)), PyData.eqv (.tuple (l.map dTup)) (.tuple (l'.map dTup)) = decide (l = l')
  | [], [] => rfl
  | [], _ :: _ => by rw [decide_eq_false (by intro z; cases z)]; rfl
  | _ :: _, [] => by rw [decide_eq_false (by intro z; cases z)]; rfl
  | p :: l, q :: l' => by
    have ih := eqv_log l l'
    have e : PyData.eqv (.tuple ((p :: l).map dTup)) (.tuple ((q :: l').map dTup)) = ((PyData.eqv (.str p.1) (.str q.1) && (PyData.eqv (.str p.2) (.str q.2) && true)) && PyData.eqv (.tuple (l.map dTup)) (.tuple (l'.map dTup))) := rfl
    rw [e, ih, eqv_str, eqv_str, Bool.and_true]
    obtain ⟨p1, p2⟩ := p
    obtain ⟨q1, q2⟩ := q
    by_cases h1 : p1 = q1 <;> by_cases h2 : p2 = q2 <;> by_cases h3 : l = l' <;> simp [h1, h2, h3]
def mapsEq (n n' : Int) : List PF → List PF → Bool
  | [], [] => true
  | f :: fs, g :: gs => eqB n f n' g && mapsEq n n' fs gs
  | _, _ => false
theorem mapsEq_t {n n' : Int} : ∀ {fs gs : List PF}, fs.length = gs.length → (∀ (j : Nat) f g, fs[j]? = some f → gs[j]? = some g → eqB n f n' g = true) → mapsEq n n' fs gs = true
  | [], [], _, _ => rfl
  | f :: fs, g :: gs, hl, h => by
    show (eqB n f n' g && mapsEq n n' fs gs) = true
    rw [h 0 f g rfl rfl, mapsEq_t (by simpa using hl) fun j a b h1 h2 => h (j + 1) a b h1 h2]
    rfl
  | [], _ :: _, hl, _ => by simp at hl
  | _ :: _, [], hl, _ => by simp at hl
theorem mapsEq_f {n n' : Int} : ∀ {fs gs : List PF} (j : Nat) (f g : PF), fs[j]? = some f → gs[j]? = some g → eqB n f n' g = false → mapsEq n n' fs gs = false
  | [], _, j, f, g, h, _, _ => by simp at h
  | _ :: _, [], _, _, _, _, h, _ => by simp at h
  | f0 :: fs, g0 :: gs, 0, f, g, h1, h2, h => by
    cases h1
    cases h2
    show (eqB n f0 n' g0 && mapsEq n n' fs gs) = false
    rw [h]
    rfl
  | f0 :: fs, g0 :: gs, j + 1, f, g, h1, h2, h => by
    show (eqB n f0 n' g0 && mapsEq n n' fs gs) = false
    rw [mapsEq_f j f g h1 h2 h, Bool.and_false]
def spSEq (CS CK CM : Addr) : Sp := fun vs H Q _ => ∃ (s C : Addr) (ex : Option Int) (n : Int) (lg : List (Str × Str)) (gs : List PF) (f : PF) (y : V), vs = [.ref s, y] ∧ (C = CS ∨ C = CK) ∧ SessX ex C CM H s n lg gs f ∧
  ((∃ (s' C' : Addr) (ex' : Option Int) (n' : Int) (lg' : List (Str × Str)) (gs' : List PF) (f' : PF), y = .ref s' ∧ (C' = CS ∨ C' = CK) ∧ SessX ex' C' CM H s' n' lg' gs' f' ∧ ∀ H', Same H H' → Q (.bl (decide (lg = lg') && mapsEq n n' (gs ++ [f]) (gs' ++ [f']))) H') ∨
   (((∃ a xs, y = .ref a ∧ H a = some (.lst xs)) ∨ ∃ a dx fs, y = .ref a ∧ H a = some (.ins CM dx fs)) ∧ ∀ H', Same H H' → Q (.bl false) H'))
section
variable {P : Program} {w : World} {K : PySem.W.Frag} {mg : Str → Option Value} {base : Heap}
theorem ok_fresh (T : Txt K mg) : FnR P w K mg base CX0 11 T.f_Session_fresh (spFresh none T.C_Session T.C_Map) := by
  refine T.A_Session_fresh.ok sc_Session_fresh (fun vs H Q E h => ?_) (fun cdv A outer s H vs Q E hr h => ?_)
  · obtain ⟨s, n, lg, gs, f, rfl, _⟩ := h
    rfl
  · obtain ⟨s, n, lg, gs, f, rfl, hs, _, q⟩ := h
    refine ⟨_, (pss_one (ps_ret (pe_makeR T.M_Session (okx_init T) (hr.mono (by decide)) rfl T.g_Session pass0 (pa_cons (pe_propR (pe_fld (pv 0) rfl) T.o_Map.cl T.P_Map_size (ok_size T) (hr.mono (by decide))) pa_nil)))), ?_⟩
    obtain ⟨dx, m, tl, te, ts, ms, h1, h2, h3, h4, h5, h6⟩ := id hs.ob
    obtain ⟨ex, fx, e1⟩ := at_map h2
    refine ⟨_, rfl, s, _, dx, _, _, rfl, h1, T.o_Session.cl, T.na_own_present_Session, sfx_p _ _ _ _, m, _, _, rfl, e1, m, n, f, rfl, h2, ?_⟩
    refine fun t dt nt ndt net => ⟨t, dt, _, n, rfl, sc_sess T, upd_same, h2.lo, h2.hi, fun H' o' ⟨m0, tl0, te0, e'⟩ se' => ⟨rfl, q t dt m0 tl0 te0 H' nt (mk_same nt ndt o') e'⟩⟩
theorem ok_k_fresh (hP : U.SupP P "/claim/cut.py") (T : Txt K mg) (l : Int) : FnR P w K mg base CX0 12 T.f_KeepingSession_fresh (spFresh (some l) T.C_KeepingSession T.C_Map) := by
  refine T.A_KeepingSession_fresh.ok sc_KeepingSession_fresh (fun vs H Q E h => ?_) (fun cdv A outer s H vs Q E hr h => ?_)
  · obtain ⟨s, n, lg, gs, f, rfl, _⟩ := h
    rfl
  · obtain ⟨s, n, lg, gs, f, rfl, hs, hlb, q⟩ := h
    refine ⟨_, (pss_one (ps_ret (pe_makeR T.M_KeepingSession (fnR_calm (ok_k_init hP T)) (hr.mono (by decide)) rfl T.g_KeepingSession pass0 (pa_cons (pe_propR (pe_fld (pv 0) rfl) T.o_Map.cl T.P_Map_size (ok_size T) (hr.mono (by decide))) (pa_cons (pe_fld (pv 0) rfl) pa_nil))))), ?_⟩
    obtain ⟨dx, m, tl, te, ts, ms, h1, h2, h3, h4, h5, h6⟩ := id hs.ob
    obtain ⟨ex, fx, e1⟩ := at_map h2
    refine ⟨_, rfl, s, _, dx, _, _, rfl, h1, T.o_KeepingSession.cl, T.na_own_present_KeepingSession, sfx_p _ _ _ _, m, _, _, rfl, e1, m, n, f, rfl, h2, ?_⟩
    refine ⟨_, rfl, s, _, dx, _, _, rfl, h1, T.o_KeepingSession.cl, T.na_own_least_KeepingSession, sfx_t _ _ _ _, ?_⟩
    refine fun t dt nt ndt net => ⟨t, dt, n, l, rfl, upd_same, h2.lo, h2.hi, hlb.1, hlb.2, fun H' o' se' => ⟨rfl, ?_⟩⟩
    obtain ⟨dt', m0, tl0, te0, _, _, e', _⟩ := se'.ob
    exact q t dt' m0 tl0 te0 H' nt (mk_same nt ndt o') e'
theorem okx_clone (T : Txt K mg) {C g : Addr} {ex : Option Int} (sc : SC K C) (fr : Meth K C "fresh" g) (FN : FnR P w K mg base CX0 12 g (spFresh ex C T.C_Map)) : FnR P w K mg base CX0 13 T.f_Session_clone (spClone ex C T.C_Map) := by
  refine T.A_Session_clone.ok sc_Session_clone (fun vs H Q E h => ?_) (fun cdv A outer s H vs Q E hr h => ?_)
  · obtain ⟨s, n, lg, gs, f, rfl, _⟩ := h
    rfl
  · obtain ⟨s, n, lg, gs, f, rfl, hs, hlb, q⟩ := h
    refine ⟨_, (pss_cons (ps_set (i := 1) sc_Session_clone.nd rfl (Or.inl rfl) (pe_meth0R (pv 0) sc.o.cl fr (FN) (hr.mono (by decide)) pass0))
      (pss_cons (ps_fld (pv 1) (pe_fld (pv 0) rfl) rfl)
      (pss_cons (ps_fld (pv 1) (pe_fld (pv 0) rfl) rfl)
      (pss_cons (ps_fld (pv 1) (pe_fld (pv 0) rfl) rfl)
      (pss_one (ps_ret (pv 1))))))), ?_⟩
    obtain ⟨⟨dx, m, tl, te, ts, ms, h1, h2, h3, h4, h5, h6⟩, hl, sm, ok⟩ := id hs
    refine ⟨_, rfl, s, dx, _, rfl, h1, sfx_fr _ _ _ _, s, n, lg, gs, f, rfl, hs, hlb, fun t dt m0 tl0 te0 H1 nt s1 e1 => ?_⟩
    have ne : s ≠ t := ne_of_none h1 nt
    have h1a := s1 _ _ h1
    refine ⟨_, rfl, s, _, dx, _, _, rfl, h1a, sc.o.cl, sc.p, sfx_p _ _ _ _, _, rfl, t, _, dt, _, rfl, e1, sc.o.cl, sc.p, sfx_len _ _ _ _, ?_⟩
    rw [sfx_pp]
    generalize g_H2 : L2.upd _ t _ = H2
    obtain ⟨o_H2, e_H2⟩ := st_facts g_H2
    clear g_H2
    have so1 : SOb H1 t := ⟨_, _, _, e1, sfx_no _ _ _ _⟩
    have h1b := o_H2 _ _ ne h1a
    refine ⟨_, rfl, s, _, dx, _, _, rfl, h1b, sc.o.cl, sc.l, sfx_l _ _ _ _, _, rfl, t, _, dt, _, rfl, e_H2, sc.o.cl, sc.l, sfx_len _ _ _ _, ?_⟩
    rw [sfx_pl]
    generalize g_H3 : L2.upd _ t _ = H3
    obtain ⟨o_H3, e_H3⟩ := st_facts g_H3
    clear g_H3
    have so2 : SOb H2 t := ⟨_, _, _, e_H2, sfx_no _ _ _ _⟩
    have h1c := o_H3 _ _ ne h1b
    refine ⟨_, rfl, s, _, dx, _, _, rfl, h1c, sc.o.cl, sc.e, sfx_e _ _ _ _, _, rfl, t, _, dt, _, rfl, e_H3, sc.o.cl, sc.e, sfx_len _ _ _ _, ?_⟩
    rw [sfx_pe]
    generalize g_H4 : L2.upd _ t _ = H4
    obtain ⟨o_H4, e_H4⟩ := st_facts g_H4
    clear g_H4
    have so3 : SOb H3 t := ⟨_, _, _, e_H3, sfx_no _ _ _ _⟩
    have s14 : Same H H4 := fun b o e => o_H4 _ _ (ne_of_none e nt) (o_H3 _ _ (ne_of_none e nt) (o_H2 _ _ (ne_of_none e nt) (s1 _ _ e)))
    refine ⟨_, rfl, q t H4 nt s14 ⟨⟨dt, m, tl, te, ts, ms, e_H4, h2.same s14, s14 _ _ h3, h4.map fun _ _ _ z => s14 _ _ z, s14 _ _ h5, h6.same s14⟩, hl, sm, ok⟩⟩
theorem eqH_map {X : Cx} (T : Txt X.K X.mg) : EqH X 6 (DInsB T.C_Map (RB T.C_Map)) := (rcH_own ((ok_eq T).imp (by
  rintro vs H Q E ⟨a, b, c, rfl, ⟨n, f, n', g, m1, m2, rfl⟩, q⟩
  exact ⟨a, b, n, f, n', g, rfl, m1, m2, q H fun _ _ h => h⟩)) T.m_Map__eq T.i_Map__eq pass0).eqH selfB_map fun x y H c ⟨a, b, _, _, _, _, h1, h2, _⟩ => ⟨a, b, h1, h2⟩
theorem prs_maps {CM : Addr} {H : Hp} {n n' : Int} {xs ys : List V} {fs gs : List PF} (h : MapsAt CM H n xs fs) (h' : MapsAt CM H n' ys gs) (hl : fs.length = gs.length) : ∃ f, PrsB (DInsB CM (RB CM)) xs ys H f (mapsEq n n' fs gs) := by
  have l1 := paired_len h
  have l2 := paired_len h'
  refine ⟨fun j => match fs[j]?, gs[j]? with | some f, some g => eqB n f n' g | _, _ => false, by omega, fun i x y e1 e2 => ?_, fun hall => mapsEq_t hl fun j f g e1 e2 => ?_, fun j hj hf => ?_⟩
  · obtain ⟨a, f, rfl, ef, ma⟩ := h.get e1
    obtain ⟨b, g, rfl, eg, mb⟩ := h'.get e2
    obtain ⟨dx, fx, ea⟩ := at_map ma
    obtain ⟨dy, fy, eb⟩ := at_map mb
    refine ⟨a, b, dx, dy, fx, fy, rfl, rfl, ea, eb, n, f, n', g, ma, mb, ?_⟩
    simp only [ef, eg]
  · have := hall j (by rw [l1]; exact (List.getElem?_eq_some_iff.mp e1).1)
    simp only [e1, e2] at this
    exact this
  · obtain ⟨f, ef⟩ : ∃ f, fs[j]? = some f := ⟨_, List.getElem?_eq_getElem (by omega)⟩
    obtain ⟨g, eg⟩ : ∃ g, gs[j]? = some g := ⟨_, List.getElem?_eq_getElem (by omega)⟩
    simp only [ef, eg] at hf
    exact mapsEq_f j f g ef eg hf
theorem ok_s_eq (T : Txt K mg) : FnR P w K mg base CX0 9 T.f_Session__eq (spSEq T.C_Session T.C_KeepingSession T.C_Map) := by
  refine T.A_Session__eq.ok sc_Session__eq (fun vs H Q E h => ?_) (fun cdv A outer s0 H vs Q E hr h => ?_)
  · obtain ⟨s, C, ex, n, lg, gs, f, y, rfl, _⟩ := h
    rfl
  · obtain ⟨s, C, ex, n, lg, gs, f, y, rfl, hC, hs, h⟩ := h
    have scs : ∀ {C}, (C = T.C_Session ∨ C = T.C_KeepingSession) → SC K C := fun h => by rcases h with rfl | rfl; exact sc_sess T; exact sc_keep T
    refine ⟨_, (pss_cons (ps_if (PW.pt (pw_or (pt_not (pt_val (pe_callB call_isi (by rfl) T.n_isinstance (by decide +kernel) (pa_cons (pv 1) (pa_cons (pe_glob (v := .ref T.C_Session) rfl T.g_Session rfl) pa_nil))))) (pw_or1 (pt_cmpR (L2.op_neD hr.units) (pe_fld (pv 0) rfl) (pe_fld (pv 1) rfl) (nomark _)))))
        (pss_one (ps_ret pe_bl)) pss_nil)
      (pss_one (ps_ret (pe_cmpR (op_eqH (rcH_tup monB_map (eqH_map T)) (hr.mono (by decide))) (pe_tup (pa_star (pe_fld (pv 0) rfl) (pa_cons (pe_fld (pv 0) rfl) pa_nil))) (pe_tup (pa_star (pe_fld (pv 1) rfl) (pa_cons (pe_fld (pv 1) rfl) pa_nil))) (nomark _))))), ?_⟩
    have sc := scs hC
    obtain ⟨⟨dx, m, tl, te, ts, ms, h1, h2, h3, h4, h5, h6⟩, hl, sm, ok⟩ := id hs
    rcases h with ⟨s', C', ex', n', lg', gs', f', rfl, hC', hs', q⟩ | ⟨hy, q⟩
    · have sc' := scs hC'
      obtain ⟨⟨dx', m', tl', te', ts', ms', g1, g2, g3, g4, g5, g6⟩, hl', sm', ok'⟩ := id hs'
      have kit : PySem.W.kitOne K (.ref C') (.ref T.C_Session) = some true := by
        rcases hC' with rfl | rfl
        · exact T.self_Session
        · exact T.ks_KeepingSession_Session
      refine ⟨_, rfl, _, _, _, _, true, rfl, .own _, tyx_ins sc'.o g1, kit, _, rfl, iteF ?_⟩
      refine ⟨_, rfl, s, _, dx, _, _, rfl, h1, sc.o.cl, sc.l, sfx_l _ _ _ _, _, rfl, s', _, dx', _, _, rfl, g1, sc'.o.cl, sc'.l, sfx_l _ _ _ _, .tuple (lg.map dTup), .tuple (lg'.map dTup), .tup (SqT.of h3) (dp_log h4), .tup (SqT.of g3) (dp_log g4), (shaped_log ok).1, (shaped_log ok').1, _, rfl, ?_⟩
      rw [eqv_log]
      by_cases hlg : lg = lg'
      · rw [decide_eq_true hlg]
        rw [decide_eq_true hlg, Bool.true_and] at q
        refine iteF ?_
        have lms := paired_len h6
        have lms' := paired_len g6
        refine ⟨_, rfl, s, _, dx, _, _, rfl, h1, sc.o.cl, sc.e, sfx_e _ _ _ _, te, ms, rfl, .inl (SqT.of h5), _, rfl, s, _, dx, _, _, rfl, h1, sc.o.cl, sc.p, sfx_p _ _ _ _, le_line (by simp only [List.length_append, List.length_cons, List.length_nil]; omega), ?_⟩
        refine fun t1 n_t1 => ?_
        generalize g_t1 : L2.upd _ t1 _ = H1
        obtain ⟨s_H1, e_t1⟩ := U.upd_facts g_t1 n_t1
        clear g_t1
        refine ⟨_, rfl, s', _, dx', _, _, rfl, s_H1 _ _ g1, sc'.o.cl, sc'.e, sfx_e _ _ _ _, te', ms', rfl, .inl (SqT.of (s_H1 _ _ g5)), _, rfl, s', _, dx', _, _, rfl, s_H1 _ _ g1, sc'.o.cl, sc'.p, sfx_p _ _ _ _, le_line (by simp only [List.length_append, List.length_cons, List.length_nil]; omega), ?_⟩
        refine fun t2 n_t2 => ?_
        generalize g_t2 : L2.upd _ t2 _ = H2
        obtain ⟨s_H2, e_t2⟩ := U.upd_facts g_t2 n_t2
        clear g_t2
        have s02 := s_H1.trans s_H2
        have a1 : MapsAt T.C_Map H2 n (ms ++ [.ref m]) (gs ++ [f]) := paired_snoc (h6.same s02) ⟨m, rfl, h2.same s02⟩
        have a2 : MapsAt T.C_Map H2 n' (ms' ++ [.ref m']) (gs' ++ [f']) := paired_snoc (g6.same s02) ⟨m', rfl, g2.same s02⟩
        exact ⟨_, ⟨t1, t2, _, _, rfl, rfl, SqT.of (s_H2 _ _ e_t1), SqT.of e_t2, prs_maps a1 a2 (by rw [List.length_append, List.length_append, hl, hl', hlg]; rfl)⟩, fun H' s' => q H' (s02.trans s')⟩
      · rw [decide_eq_false hlg]
        rw [decide_eq_false hlg, Bool.false_and] at q
        exact iteT (q H (Same.refl _))
    · have kit : ∃ t, TyX K H y t ∧ PySem.W.kitOne K t (.ref T.C_Session) = some false := by
        rcases hy with ⟨a, xs, rfl, e⟩ | ⟨a, dz, fs, rfl, e⟩
        · exact ⟨_, .base (.lst e), T.kn_list_Session⟩
        · exact ⟨_, tyx_ins T.o_Map e, T.kx_Map_Session⟩
      obtain ⟨t, ht, hk⟩ := kit
      exact ⟨_, rfl, _, _, t, _, false, rfl, .own _, ht, hk, _, rfl, iteT (q H (Same.refl _))⟩
end
end My
namespace My
open PySem L2 U StX PM
section
variable {P : Program} {w : World} {K : PySem.W.Frag} {mg : Str → Option Value} {base : Heap}
theorem ok_l_act (T : Txt K mg) : FnR P w K mg base CX0 14 T.f_l_act (spAct T.C_Session T.C_Map) := by
  refine T.A_l_act.ok sc_l_act (fun vs H Q E h => ?_) (fun cdv A outer s H vs Q E hr h => ?_)
  · obtain ⟨p, s, md, u, n, lg, gs, f, rfl, _⟩ := h
    rfl
  · obtain ⟨p, s, md, u, n, lg, gs, f, rfl, z, hn, hok, hl, n1, n6, q⟩ := h
    have hu := hu_of hr
    refine ⟨_, (pss_cons (ps_asg (pe_tup (pa_cons (pe_dget hu (pv 2) pe_str (fun _ _ => rfl)) (pa_cons (pe_ix ix_list (pe_dget hu (pv 2) pe_str (fun _ _ => rfl)) (pe_un un_neg pe_int) (fun _ _ => rfl)) pa_nil))) (pg_tup rfl (pgs_cons (pg_name (i := 4) sc_l_act.nd rfl (Or.inr rfl)) (pgs_cons (pg_name (i := 5) sc_l_act.nd rfl (Or.inl rfl)) pgs_nil))))
      (pss_cons (ps_set (i := 6) sc_l_act.nd rfl (Or.inl rfl) (pe_callR (ok_draw T) (hr.mono (by decide)) T.A_l_draw.kp rfl T.g_l_draw pass0 (pa_cons (pv 0) (pa_cons pe_int pa_nil))))
      (pss_cons (ps_if (pt_cmpR op_eq (pv 6) pe_int (nomark _))
        (pss_cons (ps_set (i := 7) sc_l_act.nd rfl (Or.inl rfl) (pe_callR (ok_l_arrR T) (hr.mono (by decide)) T.A_l_arrows.kp rfl T.g_l_arrows pass0 (pa_cons (pv 0) (pa_cons (pv 4) pa_nil))))
      (pss_one (ps_par (i := 8) (j := 9) rfl sc_l_act.nd rfl rfl (by decide) rfl rfl (pa_cons (pe_callR (ok_l_product T) (hr.mono (by decide)) T.A_l_product.kp rfl T.g_l_product pass0 (pa_cons (pv 5) (pa_cons (pv 7) pa_nil))) (pa_cons (pe_methR (pv 1) T.o_Session.cl T.meth_Session_apply (ok_s_apply T) (hr.mono (by decide)) pass0 (pa_cons (pv 3) (pa_cons (pe_makeR T.M_Map (ok_init T) (hr.mono (by decide)) rfl T.g_Map pass0 (pa_cons (pv 4) (pa_cons (pv 7) pa_nil))) pa_nil))) pa_nil)) (by rfl)))) (pss_one (ps_if (pt_cmpR op_eq (pv 6) pe_int (nomark _))
        (pss_cons (ps_set (i := 10) sc_l_act.nd rfl (Or.inl rfl) (pe_op op_sub (pe_callR (ok_draw T) (hr.mono (by decide)) T.A_l_draw.kp rfl T.g_l_draw pass0 (pa_cons (pv 0) (pa_cons pe_int pa_nil))) pe_int))
      (pss_one (ps_par (i := 8) (j := 9) rfl sc_l_act.nd rfl rfl (by decide) rfl rfl (pa_cons (pe_callR (ok_l_pwr T) (hr.mono (by decide)) T.A_l_power.kp rfl T.g_l_power pass0 (pa_cons (pv 5) (pa_cons (pv 4) (pa_cons (pv 10) pa_nil)))) (pa_cons (pe_methR (pv 1) T.o_Session.cl T.meth_Session_raise_to (ok_s_raise T) (hr.mono (by decide)) pass0 (pa_cons (pv 3) (pa_cons (pv 10) pa_nil))) pa_nil)) (by rfl)))) (pss_cons (ps_par (i := 11) (j := 8) rfl sc_l_act.nd rfl rfl (by decide) rfl rfl (pa_cons (pe_lc (own := [("_law_turn", 13)]) (g := (gName 13)) (tt := tYes) rfl sc_l_act.nd (pi_range1 rfl T.n_range (pa_cons (pe_callR (ok_draw T) (hr.mono (by decide)) T.A_l_draw.kp rfl T.g_l_draw pass0 (pa_cons (pv 0) (pa_cons pe_int pa_nil))) pa_nil)) (blkOk_by (own := [("_law_turn", 13)]) (N := n_l_act) (sc := defScope s_l_act) (by decide +kernel)) (fun _ _ _ _ _ => (pg_name (i := 13) sc_l_act.nd rfl (Or.inl rfl))) (fun _ _ _ _ _ => pts_nil) (fun _ _ _ _ _ => (pe_callR (ok_l_step T) (hr.mono (by decide)) T.A_l_step.kp rfl T.g_l_step pass0 (pa_cons (pv 0) (pa_cons (pv 4) pa_nil))))) (pa_cons (pv 5) pa_nil)) (by rfl))
      (pss_cons (ps_for PassesOwn.never rfl (pi_list (pv 11)) (pg_name (i := 12) sc_l_act.nd rfl (Or.inl rfl))
        (pss_one (ps_set (i := 8) sc_l_act.nd rfl (Or.inl rfl) (pe_callR (ok_l_stepped T) (hr.mono (by decide)) T.A_l_stepped.kp rfl T.g_l_stepped pass0 (pa_cons (pv 8) (pa_cons (pv 12) pa_nil))))))
      (pss_one (ps_set (i := 9) sc_l_act.nd rfl (Or.inl rfl) (pe_methR (pv 1) T.o_Session.cl T.meth_Session_do_steps (ok_s_steps T) (hr.mono (by decide)) pass0 (pa_cons (pv 3) (pa_cons (pv 11) pa_nil))))))))))
      (pss_cons (ps_dput hu (pv 2) pe_str (pe_op op_cat (pe_dget hu (pv 2) pe_str (fun _ _ => rfl)) (pe_lst (pa_cons (pv 8) pa_nil))) rfl)
      (pss_cons (ps_dput hu (pv 2) pe_str (pe_op op_cat (pe_dget hu (pv 2) pe_str (fun _ _ => rfl)) (pe_lst (pa_cons (pe_tup (pa_cons (pv 3) (pa_cons (pe_ix ix_list (pe_lst (pa_cons pe_str (pa_cons pe_str (pa_cons pe_str pa_nil)))) (pv 6) (fun _ _ => rfl)) pa_nil))) pa_nil))) rfl)
      (pss_one (ps_ret (pe_cmpR (op_cmp (fun _ _ => rfl) T.m_Map__eq T.i_Map__eq (ok_eq T) (hr.mono (by decide)) pass0) (pv 9) (pe_makeR T.M_Map (ok_init T) (hr.mono (by decide)) rfl T.g_Map pass0 (pa_cons (pv 4) (pa_cons (pv 8) pa_nil))) (nomark _))))))))), ?_⟩
    obtain ⟨L, G, ds, us, g1, g2, g3, g4, g5⟩ := id z.mo.ob
    obtain ⟨ds0, dl, rfl, p3, l, hdl, dil, wfl⟩ := paired_unsnoc g3
    have g2' : H L = some (.lst (ds0.map V.ref ++ [.ref dl])) := by rw [List.map_append] at g2; exact g2
    have lln := di_lenN dil wfl
    refine ⟨_, rfl, md, .int n, rfl, mdl_size g1, _, rfl, md, .ref L, rfl, mdl_tables g1, 1, rfl, L, _, -1, .ref dl, rfl, rfl, SqL.of g2', atI_last _ _, two_le, ?_⟩
    refine fun tq n_tq => ?_
    generalize g_tq : L2.upd _ tq _ = H1
    obtain ⟨s_H1, e_tq⟩ := U.upd_facts g_tq n_tq
    clear g_tq
    refine ⟨tq, _, rfl, SqT.of e_tq, rfl, _, _, rfl, _, _, rfl, rfl, ?_⟩
    have z1 := z.same s_H1
    have hdl1 := s_H1 _ _ hdl
    refine draw_R rfl (fun R r => r) z1.po (by decide) (by decide) fun wy H2 w0 w1 p2 o2 => ?_
    have z2 := z1.draw p2 o2
    have hdl2 := z1.po.sep.dk o2 hdl1
    clear z z1 hdl1 g1 g2 g2' g3 g4 g5 p3 hdl p2 o2 s_H1 e_tq
    refine nx_cut (fun σ H' => ∃ (wn : Nat) (v7 v10 v11 v12 v13 : Option V) (dn tm : Addr) (l' : List (Int × Int)) (f' : PF), wn < 3 ∧ σ = [some (.ref p), some (.ref s), some (.ref md), some (.str u), some (.int n), some (.ref dl), some (.int (wn : Nat)), v7, some (.ref dn), some (.ref tm), v10, v11, v12, v13] ∧ St3 T.C_Session T.C_Map H H' p s md n (lg ++ [(u, actN wn)]) (gs ++ [f]) f' lg (gs ++ [f]) ∧ H' dn = some (.dK (kvI l')) ∧ DI l' f' ∧ WF n f' ∧ IsMap T.C_Map H' tm n f') (fun nx fin => ?_) ?_
    · refine ⟨_, rfl, rfl, _, rfl, ?_⟩
      refine ifD (fun h0 => ?_) (fun h0 => ?_)
      · -- apply
        have e0 : wy = 0 := V.int.inj h0
        subst e0
        refine ⟨_, rfl, _, rfl, p, n, rfl, z2.po, n1, by omega, fun df H3 lf nd3 hd3 di3 wf3 hl3 p3 o3 => ?_⟩
        have z3 := z2.draw p3 o3
        have hdl3 := z2.po.sep.dk o3 hdl2
        refine ⟨_, rfl, _, rfl, dl, df, l, lf, n, f, lk lf, rfl, hdl3, hd3, dil, di3, wfl, wf3, by omega, fun dn l' H4 s4 ndn hdn dln hln => ?_⟩
        have z4 := z3.same s4
        obtain ⟨dx, m, tl, te, ts, ms, h1, _⟩ := id z4.se.ob
        refine ⟨_, rfl, s, dx, _, rfl, h1, rfl, _, rfl, _, rfl, _, rfl, fun mf dxf nmf ndxf nef => init_of (s4 _ _ hd3) di3 wf3 n1 (by omega) hl3 nmf ndxf nef fun H5 s5 m5 => ⟨rfl, ?_⟩⟩
        have z5 := z4.same s5
        refine ⟨s, u, _, n, lg, gs, f, _, rfl, z5.se, hn, hok, hl, ⟨mf, _, rfl, m5, rfl⟩, fun tm H6 o6 se6 m6 => ?_⟩
        have z6 := z5.act o6 se6
        refine ⟨_, _, rfl, fin _ _ ⟨0, _, _, _, _, _, dn, tm, l', _, by decide, rfl, z6, z5.se.sep.dk o6 (s5 _ _ hdn), dln, wf_mul wfl wf3, m6⟩⟩
      · refine ⟨_, rfl, rfl, _, rfl, ?_⟩
        refine ifD (fun h1 => ?_) (fun h1 => ?_)
        · -- power
          have e1 : wy = 1 := V.int.inj h1
          subst e1
          refine draw_R rfl (fun R r => r) z2.po (by decide) (by decide) fun r H3 r0 r1 p3 o3 => ⟨_, _, rfl, rfl, ?_⟩
          have z3 := z2.draw p3 o3
          have hdl3 := z2.po.sep.dk o3 hdl2
          have he : (r - 4).natAbs ≤ 100 := by omega
          refine ⟨_, rfl, _, rfl, _, rfl, dl, l, n, f, (r - 4), rfl, hdl3, dil, wfl, n1, by omega, Nat.le_trans he (by decide), fun dn l' H6 s6 ndn hdn dln => ?_⟩
          have z6 := z3.same s6
          obtain ⟨dx, m, tl, te, ts, ms, hs1, _⟩ := id z6.se.ob
          refine ⟨_, rfl, s, dx, _, rfl, hs1, rfl, _, rfl, _, rfl, ?_⟩
          refine ⟨s, u, _, n, lg, gs, f, _, rfl, z6.se, hn, hok, hl, ⟨_, rfl, rfl⟩, fun tm H7 o7 se7 m7 => ?_⟩
          have z7 := z6.act o7 se7
          exact ⟨_, _, rfl, fin _ _ ⟨1, _, _, _, _, _, dn, tm, l', _, by decide, rfl, z7, z6.se.sep.dk o7 hdn, dln, m7.wf, m7⟩⟩
        · -- steps
          have e2 : wy = 2 := by
            have h0' : wy ≠ 0 := fun e => h0 (by rw [e])
            have h1' : wy ≠ 1 := fun e => h1 (by rw [e])
            omega
          subst e2
          refine seq_cut (fun σ H' => ∃ (Mv : Addr) (bs : List Addr) (ss : List Stp), σ = [some (.ref p), some (.ref s), some (.ref md), some (.str u), some (.int n), some (.ref dl), some (.int 2), none, some (.ref dl), none, none, some (.ref Mv), none, none] ∧ St3 T.C_Session T.C_Map H H' p s md n lg gs f lg (gs ++ [f]) ∧ H' dl = some (.dK (kvI l)) ∧ H' Mv = some (.lst (bs.map V.ref)) ∧ Paired (fun t s => H' t = some (.tup (Stp.vs s))) bs ss ∧ (∀ s ∈ ss, Stp.ok n s) ∧ ss.length ≤ 3) (fun nx2 fin2 => ?_) ?_
          · refine par_of (lc_rangeQ (fun c H3 => c ≤ 3 ∧ PoolAt H3 p ∧ Off p H2 H3) (fun R rr => ?_) (fun c H3 ⟨c3, p3, o3⟩ => ?_))
            · refine draw_R rfl (fun R r => r) z2.po (by decide) (by decide) fun c H3 c0 c1 p3 o3 => ⟨_, rfl, by omega, by omega, rr c.toNat H3 ⟨by omega, p3, o3⟩⟩
            · refine lc_rangeP (n := c) p3 (fun _ b H => ∃ s, H b = some (.tup (Stp.vs s)) ∧ Stp.ok n s) (fun k b H H' D hD o ⟨s, e, h⟩ => ⟨s, o _ _ (fun z => by obtain ⟨ys, e2⟩ := hD; rw [z, e2] at e; cases e) e, h⟩) (fun R r => r) (fun _ => rfl) (lt_line (by omega)) (fun k hk Hb poolb R rr => ?_) (fun Mv bs Hc poolc offc nD hD hbl hbs => ?_)
              · exact ⟨_, rfl, _, rfl, p, n, rfl, poolb, n1, by omega, fun t s H' p' o' nt ht hs => rr t H' p' o' nt ⟨s, ht, hs⟩⟩
              · obtain ⟨ss, hss⟩ : ∃ ss, Paired (fun b s => Hc b = some (.tup (Stp.vs s)) ∧ Stp.ok n s) bs ss := paired_ex fun b hb => by
                  obtain ⟨j, hj⟩ := List.mem_iff_getElem?.mp hb
                  exact hbs j b hj
                have lss := paired_len hss
                have z3 := z2.draw p3 o3
                refine ⟨_, rfl, _, _, rfl, fin2 _ _ ⟨Mv, bs, ss, rfl, z3.draw poolc offc, z3.po.sep.dk offc (z2.po.sep.dk o3 hdl2), hD, hss.map fun _ _ _ e => e.1, fun s hs => ?_, by omega⟩⟩
                obtain ⟨j, hj⟩ := List.mem_iff_getElem?.mp hs
                obtain ⟨b, hb⟩ : ∃ b, bs[j]? = some b := ⟨_, List.getElem?_eq_getElem (by have := (List.getElem?_eq_some_iff.mp hj).1; omega)⟩
                obtain ⟨s', es, _, hk⟩ := paired_at hss hb
                rw [hj] at es
                cases es
                exact hk
          rintro _ H3 ⟨Mv, bs, ss, rfl, z3, hdl3, hMv, hps, hoks, hls⟩
          have lss := paired_len hps
          refine ⟨_, rfl, Mv, rfl, ⟨_, SqL.of hMv⟩, ?_⟩
          refine for_it (walk_list (xs := bs.map V.ref)) (fun i σ H' => ∃ v13 dk lk', σ = [some (.ref p), some (.ref s), some (.ref md), some (.str u), some (.int n), some (.ref dl), some (.int 2), none, some (.ref dk), none, none, some (.ref Mv), v13, none] ∧ Same H3 H' ∧ H' dk = some (.dK (kvI lk')) ∧ DI lk' (stps f (ss.take i)) ∧ WF n (stps f (ss.take i)))
            ⟨_, dl, l, rfl, Same.refl _, hdl3, dil, wfl⟩ (fun i σ H' _ ⟨_, _, _, _, z, _⟩ => SqL.of (z _ _ hMv)) ?_ ?_
          · rintro i v σ Ha0 Ha hi ⟨v13, dk, lk', rfl, sa, hdk, dik, wfk⟩ ⟨rfl, ev⟩
            rw [List.getElem?_map] at ev
            cases e : bs[i]? with
            | none => rw [e] at ev; cases ev
            | some b =>
              rw [e] at ev
              cases ev
              obtain ⟨sp, es, ht⟩ := paired_at hps e
              have hsk := hoks sp (List.mem_of_getElem? es)
              have etk : stps f (ss.take (i + 1)) = stp1 (stps f (ss.take i)) sp := by rw [take_more es, stps_snoc]
              refine ⟨_, rfl, _, rfl, dk, b, lk', n, _, sp, rfl, hdk, dik, wfk, by omega, sa _ _ ht, hsk, fun p' l2 Hb sb np' hp' dl2 => ?_⟩
              exact ⟨_, p', l2, rfl, sa.trans sb, hp', by rw [etk]; exact dl2, by rw [etk]; exact wf_stp1 wfk hsk⟩
          · rintro σ Ha ⟨v13, dk, lk', rfl, sa, hdk, dik, wfk⟩
            rw [List.length_map, lss, List.take_length] at dik wfk
            have z4 := z3.same sa
            obtain ⟨dx, m, tl, te, ts, ms, hs1, _⟩ := id z4.se.ob
            refine ⟨_, rfl, s, dx, _, rfl, hs1, rfl, _, rfl, _, rfl, s, u, _, n, lg, gs, f, _, rfl, z4.se, hn, hok, hl, ⟨Mv, bs, ss, rfl, sa _ _ hMv, hps.map fun _ _ _ e => sa _ _ e, hoks, by omega, rfl⟩, fun tm H7 o7 se7 m7 => ?_⟩
            exact fin _ _ ⟨2, _, _, _, _, _, dk, tm, lk', _, by decide, rfl, z4.act o7 se7, z4.se.sep.dk o7 hdk, dik, m7.wf, m7⟩
    · rintro _ H3 ⟨wn, v7, v10, v11, v12, v13, dn, tm, l', f', hw3, rfl, z3, hdn, din, wfn, htm⟩
      obtain ⟨L, G, ds, us, g1, g2, g3, g4, g5⟩ := id z3.mo.ob
      have lds := paired_len g3
      have lus := paired_len g5
      have hlg := z3.se.len
      refine ⟨_, rfl, md, .ref L, rfl, mdl_tables g1, _, rfl, one_le, ?_⟩
      refine fun q1 n_q1 => ?_
      generalize g_q1 : L2.upd _ q1 _ = H4
      obtain ⟨s_H4, e_q1⟩ := U.upd_facts g_q1 n_q1
      clear g_q1
      have hgl : gs.length < 1000 := by
        simp only [List.length_append, List.length_cons, List.length_nil] at hlg
        omega
      refine ⟨L, q1, _, _, rfl, rfl, s_H4 _ _ g2, e_q1, le_line (by simp only [List.length_append, List.length_map, List.length_cons, List.length_nil] at lds ⊢; omega), ?_⟩
      refine fun Ln n_Ln => ?_
      generalize g_Ln : L2.upd _ Ln _ = H5
      obtain ⟨s_H5, e_Ln⟩ := U.upd_facts g_Ln n_Ln
      clear g_Ln
      have s5 : Same H3 H5 := s_H4.trans s_H5
      refine ⟨_, rfl, md, _, rfl, DPut.k (k := Sum.inr "tables") (s5 _ _ g1) (lt_line (by show 3 ≤ 100000; decide)), ?_⟩
      have ep : putK (mdl n L G) (Sum.inr "tables") (.ref Ln) = mdl n Ln G := rfl
      rw [ep]
      generalize g_H6 : L2.upd _ md _ = H6
      obtain ⟨o_H6, e_H6⟩ := st_facts g_H6
      clear g_H6
      have sp5 : Sep H5 md := .inr (.inr ⟨n, L, G, s5 _ _ g1⟩)
      have eLn : H5 Ln = some (.lst ((ds ++ [dn]).map V.ref)) := by rw [e_Ln, List.map_append]; rfl
      have m6 : ModAt H6 md n lg (gs ++ [f] ++ [f']) := ⟨Ln, G, ds ++ [dn], us, e_H6, sp5.refs o_H6 eLn, sp5.tabs o_H6 (TabsAt.snoc' (g3.same s5) (s5 _ _ hdn) din wfn), sp5.refs o_H6 (s5 _ _ g4), sp5.tups o_H6 (g5.map fun _ _ _ e => s5 _ _ e)⟩
      have z6 := (z3.same s5).put o_H6 m6
      have hdn6 := sp5.dk o_H6 (s5 _ _ hdn)
      have htm6 := sp5.map o_H6 (htm.same s5)
      have g46 := sp5.refs o_H6 (s5 _ _ g4)
      have g56 := sp5.tups o_H6 (g5.map fun _ _ _ e => s5 _ _ e)
      have hat : atI [V.str "apply", .str "power", .str "steps"] (wn : Nat) = some (.str (actN wn)) := act_at hw3
      refine ⟨_, rfl, md, .ref G, rfl, mdl_log e_H6, _, rfl, three_le, ?_⟩
      refine fun qa n_qa => ?_
      generalize g_qa : L2.upd _ qa _ = H7
      obtain ⟨s_H7, e_qa⟩ := U.upd_facts g_qa n_qa
      clear g_qa
      refine ⟨_, rfl, qa, _, _, _, rfl, rfl, SqL.of e_qa, hat, two_le, ?_⟩
      refine fun qb n_qb => ?_
      generalize g_qb : L2.upd _ qb _ = H8
      obtain ⟨s_H8, e_qb⟩ := U.upd_facts g_qb n_qb
      clear g_qb
      refine ⟨one_le, ?_⟩
      refine fun qc n_qc => ?_
      generalize g_qc : L2.upd _ qc _ = H9
      obtain ⟨s_H9, e_qc⟩ := U.upd_facts g_qc n_qc
      clear g_qc
      refine ⟨G, qc, _, _, rfl, rfl, (by array_get_dec), e_qc, le_line (by simp only [List.length_append, List.length_map, List.length_cons, List.length_nil]; omega), ?_⟩
      refine fun Gn n_Gn => ?_
      generalize g_Gn : L2.upd _ Gn _ = Ha
      obtain ⟨s_Ha, e_Gn⟩ := U.upd_facts g_Gn n_Gn
      clear g_Gn
      have s7 : Same H6 Ha := (by array_mem_dec)
      refine ⟨_, rfl, md, _, rfl, DPut.k (k := Sum.inr "log") (s7 _ _ e_H6) (lt_line (by show 3 ≤ 100000; decide)), ?_⟩
      have ep2 : putK (mdl n Ln G) (Sum.inr "log") (.ref Gn) = mdl n Ln Gn := rfl
      rw [ep2]
      generalize g_Hb : L2.upd _ md _ = Hb
      obtain ⟨o_Hb, e_Hb⟩ := st_facts g_Hb
      clear g_Hb
      have spa : Sep Ha md := .inr (.inr ⟨n, Ln, G, s7 _ _ e_H6⟩)
      have eGn : Ha Gn = some (.lst ((us ++ [qb]).map V.ref)) := by rw [e_Gn, List.map_append]; rfl
      have eqb : Ha qb = some (.tup [.str u, .str (actN wn)]) := s_Ha _ _ (s_H9 _ _ e_qb)
      obtain ⟨L3, G3, ds3, us3, k1, k2, k3, k4, k5⟩ := id z6.mo.ob
      have eL : mdl n L3 G3 = mdl n Ln G := by
        rw [e_H6] at k1
        exact (HO.dK.inj (Option.some.inj k1)).symm
      cases eL
      have mb : ModAt Hb md n (lg ++ [(u, actN wn)]) (gs ++ [f] ++ [f']) := ⟨Ln, Gn, ds3, us ++ [qb], e_Hb, spa.refs o_Hb (s7 _ _ k2), spa.tabs o_Hb (k3.same s7), spa.refs o_Hb eGn, paired_snoc (spa.tups o_Hb (g56.map fun _ _ _ e => s7 _ _ e)) (spa.tup o_Hb eqb)⟩
      have zb := (z6.same s7).put o_Hb mb
      have hdnb := spa.dk o_Hb (s7 _ _ hdn6)
      have htmb := spa.map o_Hb (htm6.same s7)
      have lln' := di_lenN din wfn
      refine ⟨_, rfl, _, rfl, _, rfl, fun mq dxq nmq ndxq neq => init_of hdnb din wfn n1 (by omega) (by omega) nmq ndxq neq fun Hc sc mm2 => ⟨rfl, ?_⟩⟩
      obtain ⟨ex1, fx1, em1⟩ := at_map (htmb.same sc)
      obtain ⟨ex2, fx2, em2⟩ := at_map mm2
      refine ⟨tm, ex1, fx1, mq, ex2, fx2, rfl, rfl, em1, em2, tm, mq, _, _, _, _, rfl, htmb.same sc, mm2, ?_⟩
      rw [eqB_eq mm2.wf rfl]
      refine q wn f' Hc hw3 (zb.same sc) fun Lx Gx e => .inr fun o ho => ?_
      obtain ⟨rfl, rfl⟩ := mdl_inj (sc _ _ e_Hb) e
      have z9 := z6.same ((s_H7.trans s_H8).trans s_H9)
      have hx : ∀ b, H9 b ≠ none → Gn ≠ b := fun b hb z => hb (by rw [← z]; exact n_Gn)
      obtain ⟨dx9, m9, tl9, te9, ts9, ms9, hs9, _⟩ := z9.se.ob
      obtain ⟨xs9, hp9⟩ := z9.po.lst
      obtain ⟨L9, G9, ds9, us9, hm9, _⟩ := z9.mo.ob
      have := z9.of Gn o (hx p (by rw [hp9]; intro z; cases z)) (hx s (by rw [hs9]; intro z; cases z)) (hx md (by rw [hm9]; intro z; cases z)) ho
      rw [n_Gn] at this
      cases this
end
end My
namespace My
open PySem L2 U StX PM LamX
theorem pe_actE {Z : Cx} {W : WX} {f c' : Addr} {q a : Str} {tl : XK → Hp → VK → Prop} {p1 p2 : Pos} (n : Nat) (hn : Z.N.length = n)
    (act : ∀ (W' : WX) (E : XK), Takes Z W' → (∀ cls d σ' H', E cls d H' → W' cls d σ' H') → PE Z (.Call (.Name a p1) [] [] p2) (fun σZ HZ Q => σZ[0]? = some (some (.ref f)) ∧ HZ c' = some (CodeO c' q) ∧ tl E HZ Q)) (tk : Takes Z W) :
    PE Z (.Call (.Name a p1) [] [] p2) (fun σZ HZ Q => ∃ E : XK, (∀ cls d σ' H', E cls d H' → σ'.length = n → W cls d σ' H') ∧ σZ[0]? = some (some (.ref f)) ∧ HZ c' = some (CodeO c' q) ∧ tl E HZ Q) :=
  ⟨fun pins s σ H Q I ⟨E, hE, h⟩ => (act _ E (takes_len tk) fun cls d σ' H' h hl => hE cls d σ' H' h (hl.trans hn)).run pins s σ H Q I h⟩
/-! ### what a new lambda leaves -/
theorem IsMap.extN {C : Addr} {H H' : Hp} {m : Addr} {n : Int} {f : PF} (h : IsMap C H m n f) (x : ExtN H H') : IsMap C H' m n f := by
  obtain ⟨⟨dx, D, h1, h2⟩, wf, lo, hi⟩ := h
  exact ⟨⟨dx, D, x _ _ h1 (by intro ps z; cases z), x _ _ h2 (by intro ps z; cases z)⟩, wf, lo, hi⟩
theorem SqL.extN {K : PySem.W.Frag} {H H' : Hp} {a : Addr} {xs : List V} (h : SqL K H a xs) (s : ExtN H H') : SqL K H' a xs := by
  rcases h with (h | ⟨o, h⟩) | h
  · exact .inl (.inl (s _ _ h (by intro ps z; cases z)))
  · exact .inl (.inr ⟨o, s _ _ h (by intro ps z; cases z)⟩)
  · exact .inr h
theorem tups_extN {H H' : Hp} {ts : List Addr} {lg : List (Str × Str)} (x : ExtN H H') (h : Paired (fun t (p : Str × Str) => H t = some (.tup [.str p.1, .str p.2])) ts lg) : Paired (fun t (p : Str × Str) => H' t = some (.tup [.str p.1, .str p.2])) ts lg := h.map fun _ _ _ e => x _ _ e (by intro ps z; cases z)
theorem SessAt.extN {C CM : Addr} {H H' : Hp} {s : Addr} {n : Int} {lg : List (Str × Str)} {gs : List PF} {f : PF} (h : SessAt C CM H s n lg gs f) (x : ExtN H H') : SessAt C CM H' s n lg gs f := by
  obtain ⟨⟨dx, m, tl, te, ts, ms, h1, h2, h3, h4, h5, h6⟩, l, sm, ok⟩ := h
  exact ⟨⟨dx, m, tl, te, ts, ms, x _ _ h1 (by intro ps z; cases z), h2.extN x, x _ _ h3 (by intro ps z; cases z), tups_extN x h4, x _ _ h5 (by intro ps z; cases z), PySem.Paired.map h6 fun v _ f ⟨a, ea, mm⟩ => ⟨a, ea, mm.extN x⟩⟩, l, sm, ok⟩
theorem ModAt.extN {H H' : Hp} {md : Addr} {n : Int} {lg : List (Str × Str)} {fs : List PF} (h : ModAt H md n lg fs) (x : ExtN H H') : ModAt H' md n lg fs := by
  obtain ⟨L, G, ds, us, h1, h2, h3, h4, h5⟩ := h.ob
  exact ⟨L, G, ds, us, x _ _ h1 (by intro ps z; cases z), x _ _ h2 (by intro ps z; cases z), PySem.Paired.map h3 fun _ _ _ ⟨l, e, d, w⟩ => ⟨l, x _ _ e (by intro ps z; cases z), d, w⟩, x _ _ h4 (by intro ps z; cases z), tups_extN x h5⟩
theorem PoolAt.extN {H H' : Hp} {p : Addr} (h : PoolAt H p) (x : ExtN H H') : PoolAt H' p := by
  obtain ⟨a, b, e, r⟩ := h
  exact ⟨a, b, x _ _ e (by intro ps z; cases z), r⟩
theorem Sep.ex {H : Hp} {p : Addr} (z : Sep H p) : ∃ o, H p = some o ∧ (∀ ps, o ≠ .tbl ps) ∧ ∀ c q, o ≠ CodeO c q := by
  rcases z with ⟨a, b, z⟩ | ⟨_, _, _, z, _⟩ | ⟨n', L, G, z⟩
  · exact ⟨_, z, (fun ps w => by cases w), fun c q w => by unfold CodeO at w; cases w⟩
  · exact ⟨_, z, (fun ps w => by cases w), fun c q w => by unfold CodeO at w; cases w⟩
  · exact ⟨_, z, (fun ps w => by cases w), fun c q w => by unfold CodeO at w; cases w⟩
theorem Sep.tbs {T : List (Addr × Str)} {H H' : Hp} {p : Addr} (z : Sep H p) (h : Tabs T H) (o : Off p H H') : Tabs T H' := by
  obtain ⟨u, e, h1, h2⟩ := z.ex
  intro q hq
  obtain ⟨ps, g1, g2, g3⟩ := h q hq
  refine ⟨ps, o _ _ (fun w => ?_) g1, g2, fun pos cv hc => ?_⟩
  · rw [w, e] at g1
    exact h1 _ (Option.some.inj g1)
  · obtain ⟨c, e1, e2⟩ := g3 pos cv hc
    exact ⟨c, e1, o _ _ (fun w => by rw [w, e] at e2; exact h2 _ _ (Option.some.inj e2)) e2⟩
section
variable {P : Program} {w : World} {K : PySem.W.Frag} {mg : Str → Option Value} {base : Heap}
def lamTs (T : Txt K mg) : List (Addr × Str) := [(T.P_l_undone, ("_law_undone" : Str) ++ ".<locals>." ++ "<lambda>")]
/-- what _law_caught makes of an exception -/
def ECau (T : Txt K mg) (Q : VK) : XK := fun cls d H' => ∃ dd, d = some dd ∧ ∃ u : Str, H' dd = some (.xd [("user", .str u)]) ∧
  ((cls = .ref T.C_NothingToUndo ∧ ∀ p H'', Same H' H'' → H' p = none → H'' p = some (.lst [.str "nothing", .str u]) → Q (.ref p) H'') ∨
   (cls = .ref T.C_NotLast ∧ ∀ p H'', Same H' H'' → H' p = none → H'' p = some (.lst [.str "last", .str u]) → Q (.ref p) H''))
def TT_l_caught (T : Txt K mg) : (XK → Hp → VK → Prop) → Hp → VK → Prop := fun tl H Q => tl (ECau T Q) H Q
theorem gives_caught {X : Cx} (T : Txt X.K X.mg) {cdg : Value} {q : Str} : GivesTo X n_l_caught "_law_caught" (defScope s_l_caught) T.f_l_caught cdg (defBody s_l_caught) "_law_call" q (TT_l_caught T) := by
  intro f c' s H Q tl act hc h
  refine ⟨_, (pss_one (ps_try_manyA rfl rfl sc_l_caught.nd L2.takes0 (fun W pn xe tk _ => (pss_one (ps_ret (pe_actE 2 rfl (fun W' E t h => act W' pn xe E _ _ t h) tk)))) (.cons (i := 1) rfl rfl ⟨rfl, by decide, .inl T.g_NothingToUndo⟩ (fun a oe cls d pn hz hf => (pss_one (ps_ret (pe_lst (pa_cons pe_str (pa_cons (pe_xf T.xf_NothingToUndo T.na_user_NothingToUndo hz hf (pv 1)) pa_nil)))))) (.cons (i := 1) rfl rfl ⟨rfl, by decide, .inl T.g_NotLast⟩ (fun a oe cls d pn hz hf => (pss_one (ps_ret (pe_lst (pa_cons pe_str (pa_cons (pe_xf T.xf_NotLast T.na_user_NotLast hz hf (pv 1)) pa_nil)))))) .nil)))), ?_⟩
  refine ⟨ECau T Q, fun cls d σ' H' hE hl => ?_, rfl, hc, h⟩
  match σ', hl with
  | [u0, u1], _ =>
    obtain ⟨dd, rfl, u, e, hE⟩ := hE
    rcases hE with ⟨rfl, q⟩ | ⟨rfl, q⟩
    · refine ⟨true, T.te_NothingToUndo, fun _ a na => ?_, fun z => nomatch z⟩
      exact ⟨_, rfl, rfl, rfl, dd, _, _, rfl, e, rfl, two_le, fun p np => q p _ (Same.new np) np upd_same⟩
    · refine ⟨false, T.te_NotLast_NothingToUndo, (fun z => nomatch z), fun _ => ⟨true, T.te_NotLast, fun _ a na => ?_, fun z => nomatch z⟩⟩
      exact ⟨_, rfl, rfl, rfl, dd, _, _, rfl, e, rfl, two_le, fun p np => q p _ (Same.new np) np upd_same⟩
def OffN (s md : Addr) (H H' : Hp) : Prop := ∀ b o, b ≠ s → b ≠ md → (∀ ps, o ≠ .tbl ps) → H b = some o → H' b = some o
def spUndone (T : Txt K mg) : Sp := fun vs H Q _ => ∃ (s md : Addr) (u : Str) (n : Int) (lg : List (Str × Str)) (gs : List PF) (f : PF), vs = [.ref s, .ref md, .str u] ∧ SessAt T.C_Session T.C_Map H s n lg gs f ∧ ModAt H md n lg (gs ++ [f]) ∧ nameS u = true ∧ OkS u ∧ 1 ≤ n ∧ n ≤ 300 ∧ Tabs (lamTs T) H ∧
  ∀ lg' gs' f' H', SessAt T.C_Session T.C_Map H' s n lg' gs' f' → ModAt H' md n lg' (gs' ++ [f']) → Tabs (lamTs T) H' → OffN s md H H' → lg'.length ≤ lg.length → (∀ p ∈ lg', p ∈ lg) → NewG H H' md n → Q (.bl true) H'
theorem ok_l_undone (T : Txt K mg) (TBx : TabB base mg T.c_l_undone T.P_l_undone) : FnG P w K mg base CX0 20 T.f_l_undone (spUndone T) := by
  have hmT : (T.P_l_undone, ("_law_undone" : Str) ++ ".<locals>." ++ "<lambda>") ∈ lamTs T := (by unfold lamTs; exact (List.Mem.head _))
  have huT : ∀ p ∈ lamTs T, p.1 = T.P_l_undone → p.2 = ("_law_undone" : Str) ++ ".<locals>." ++ "<lambda>" := (by
      intro p hp e
      unfold lamTs at hp
      simp only [List.mem_cons, List.not_mem_nil, or_false] at hp
      subst hp
      rfl)
  obtain ⟨fdT, FT, hb_l_caught⟩ := T.A_l_caught.ex
  obtain ⟨ocT, odT, kVT, docT, pmT, anT, cdT, ctT, oslT, rfl, lk_l_caught, hcg_l_caught⟩ := FT.ex
  refine T.B_l_undone.okG sc_l_undone (fun vs H Q E h => ?_) (fun A outer s0 H vs Q E gd hr h => ?_)
  · obtain ⟨s, md, u, n, lg, gs, f, rfl, _⟩ := h
    rfl
  · obtain ⟨s, md, u, n, lg, gs, f, rfl, se, mo, hn, hok, n1, n2, ht, q⟩ := h
    have hu := hu_of hr
    have hG_l_caught := gives_caught (X := (cxOf CX0 P w K mg base n_l_undone "_law_undone" (defScope s_l_undone) T.f_l_undone (.ref T.c_l_undone) A outer s0 H E).nox) T (cdg := cdT) (q := ("_law_undone" : Str) ++ ".<locals>." ++ "<lambda>")
    refine ⟨_, (pss_cons (ps_set (i := 3) sc_l_undone.nd rfl (Or.inl rfl) (LamX.pe_lamcall (k := 12) (T := lamTs T) (TT := TT_l_caught T) rfl T.g_l_caught T.A_l_caught.kp lk_l_caught hcg_l_caught hb_l_caught sc_l_caught rfl (Or.inl rfl) hG_l_caught TBx rfl hmT huT (hr.mono (by decide)) (LamX.lamS_by (sc := defScope s_l_undone) (by decide +kernel)) rfl (fun _ _ _ _ _ => rfl) (fun A' outer' s' H' E' f' c'' hr' => (pe_methR (pv 0) T.o_Session.cl T.meth_Session_undo (okX_undo T) (hr'.mono (by decide)) (passes_call (takes_of rfl rfl rfl rfl) (fun _ _ _ _ h => h)) (pa_cons (pv 2) pa_nil)))))
      (pss_cons (ps_if (pt_cmpR (op_eqNil hr.units0) (pe_dget hu (pv 1) pe_str (fun _ _ => rfl)) (pe_lst pa_nil) (nomark _))
        (pss_one (ps_ret (pe_cmpR (L2.op_eqD hr.units) (pv 3) (pe_lst (pa_cons pe_str (pa_cons (pv 2) pa_nil))) (nomark _)))) pss_nil)
      (pss_cons (ps_set (i := 4) sc_l_undone.nd rfl (Or.inl rfl) (pe_ix ix_tup (pe_ix ix_list (pe_dget hu (pv 1) pe_str (fun _ _ => rfl)) (pe_un un_neg pe_int) (fun _ _ => rfl)) pe_int (fun _ _ => rfl)))
      (pss_cons (ps_if (pt_cmpR op_ne (pv 4) (pv 2) (nomark _))
        (pss_one (ps_ret (pe_cmpR (L2.op_eqD hr.units) (pv 3) (pe_lst (pa_cons pe_str (pa_cons (pv 4) pa_nil))) (nomark _)))) pss_nil)
      (pss_cons (ps_dput hu (pv 1) pe_str (pe_slice sl_list (pe_dget hu (pv 1) pe_str (fun _ _ => rfl)) po_none (po_some (pe_un un_neg pe_int))) rfl)
      (pss_cons (ps_dput hu (pv 1) pe_str (pe_slice sl_list (pe_dget hu (pv 1) pe_str (fun _ _ => rfl)) po_none (po_some (pe_un un_neg pe_int))) rfl)
      (pss_one (ps_ret (pe_cmpR (op_cmp (fun _ _ => rfl) T.m_Map__eq T.i_Map__eq (ok_eq T) (hr.mono (by decide)) pass0) (pv 3) (pe_makeR T.M_Map (ok_init T) (hr.mono (by decide)) rfl T.g_Map pass0 (pa_cons (pe_dget hu (pv 1) pe_str (fun _ _ => rfl)) (pa_cons (pe_ix ix_list (pe_dget hu (pv 1) pe_str (fun _ _ => rfl)) (pe_un un_neg pe_int) (fun _ _ => rfl)) pa_nil))) (nomark _)))))))))), ?_⟩
    refine ⟨ht, fun H1 x1 t1 => ?_⟩
    have se1 := se.extN x1
    have mo1 := mo.extN x1
    obtain ⟨L, G, ds, us, g1, g2, g3, g4, g5⟩ := id mo1.ob
    obtain ⟨dx, m, tl, te, ts, ms, h1, h2, h3, h4, h5, h6⟩ := id se1.ob
    have offx : ∀ H', Same H1 H' → OffN s md H H' := fun H' s' b o _ _ hp e => s' _ _ (x1 _ _ e hp)
    have newx : ∀ H', Same H1 H' → NewG H H' md n := fun H' s' Lx Gx e => by
      obtain ⟨L0, G0, ds0, us0, g0, _⟩ := mo.ob
      obtain ⟨rfl, rfl⟩ := mdl_inj (s' _ _ (x1 _ _ g0 (by intro ps z; cases z))) e
      exact .inl ⟨_, g0⟩
    have str2 : ∀ (x y : Str), OkS x → OkS y → SeqAt.shaped (.list [.str x, .str y]) = true := fun x y hx hy => shaped_all fun d hd => by
      simp only [List.mem_cons, List.not_mem_nil, or_false] at hd
      rcases hd with rfl | rfl
      · exact ⟨hx, by show 0 ≤ 60; decide⟩
      · exact ⟨hy, by show 0 ≤ 60; decide⟩
    have eqs : ∀ (x y : Str) (Hz : Hp) (a b : Addr), OkS x → OkS y → Hz a = some (.lst [.str x, .str y]) → Hz b = some (.lst [.str x, .str y]) → ∃ d e, Dp K Hz (.ref a) d ∧ Dp K Hz (.ref b) e ∧ SeqAt.shaped d = true ∧ SeqAt.shaped e = true ∧ PyData.eqv d e = true := fun x y Hz a b hx hy ha hb =>
      ⟨.list [.str x, .str y], .list [.str x, .str y], .lst (SqL.of ha) (.cons (.str _) (.cons (.str _) .nil)), .lst (SqL.of hb) (.cons (.str _) (.cons (.str _) .nil)), str2 x y hx hy, str2 x y hx hy, SeqAt.eqv_refl _ (SeqAt.canLay_of_shaped (str2 x y hx hy))⟩
    refine ⟨_, rfl, s, dx, _, rfl, h1, rfl, _, rfl, s, u, n, lg, gs, f, rfl, se1, hn, ?_⟩
    rcases List.eq_nil_or_concat lg with rfl | ⟨lg0, ⟨v, a⟩, elg⟩
    · refine .inl ⟨rfl, fun d H2 s2 hd => ⟨d, rfl, u, upd_same, .inl ⟨rfl, fun p H3 s3 np e3 => ?_⟩⟩⟩
      have s13 : Same H1 H3 := (s2.trans (Same.new hd)).trans s3
      cases g5
      refine ⟨_, rfl, md, .ref G, rfl, mdl_log (s13 _ _ g1), nil_le, ?_⟩
      refine fun e0 n_e0 => ?_
      generalize g_e0 : L2.upd _ e0 _ = H4
      obtain ⟨s_H4, e_e0⟩ := U.upd_facts g_e0 n_e0
      clear g_e0
      refine ⟨G, e0, _, rfl, rfl, SqL.of (s_H4 _ _ (s13 _ _ g4)), SqL.of e_e0, _, rfl, iteT ?_⟩
      refine ⟨_, rfl, _, rfl, two_le, ?_⟩
      refine fun e1 n_e1 => ?_
      generalize g_e1 : L2.upd _ e1 _ = H5
      obtain ⟨s_H5, e_e1⟩ := U.upd_facts g_e1 n_e1
      clear g_e1
      have s15 : Same H1 H5 := s13.trans (s_H4.trans s_H5)
      obtain ⟨d1, d2, a1, a2, a3, a4, a5⟩ := eqs "nothing" u H5 p e1 (by unfold OkS; decide +kernel) hok (s_H5 _ _ (s_H4 _ _ e3)) e_e1
      refine ⟨d1, d2, a1, a2, a3, a4, ?_⟩
      rw [a5]
      exact q [] gs f H5 (se1.same s15) (mo1.same s15) (t1.ext s15) (offx _ s15) (Nat.le_refl _) (fun p hp => hp) (newx _ s15)
    · rw [List.concat_eq_append] at elg
      subst elg
      obtain ⟨us0, t, rfl, pu, et⟩ := paired_unsnoc g5
      have g4' : H1 G = some (.lst (us0.map V.ref ++ [.ref t])) := by rw [List.map_append] at g4; exact g4
      have emp' : ((us0 ++ [t]).map V.ref).isEmpty = false := by simp
      by_cases hv : v = u
      · subst hv
        obtain ⟨gs0, g, rfl⟩ : ∃ gs0 g, gs = gs0 ++ [g] := by
          rcases List.eq_nil_or_concat gs with rfl | ⟨gs0, g, e⟩
          · have := se.len
            simp at this
          · exact ⟨gs0, g, by rw [e, List.concat_eq_append]⟩
        refine .inr (.inr ⟨lg0, a, gs0, g, rfl, rfl, fun mt H2 o2 se2 m2 => ?_⟩)
        have sp1 := se1.sep
        have nms : md ≠ s := ne_of g1 h1 (by intro z; cases z)
        obtain ⟨ds0, dl, rfl, p3, _⟩ := paired_unsnoc g3
        obtain ⟨ds00, dk, rfl, p30, lk', hdk, dik, wfk⟩ := paired_unsnoc p3
        have k1 := o2 _ _ nms g1
        have k2 : H2 L = some (.lst ((ds00 ++ [dk]).map V.ref ++ [.ref dl])) := by
          have := sp1.refs o2 g2
          rw [List.map_append] at this
          exact this
        have k3 := sp1.tabs o2 p3
        have k4' : H2 G = some (.lst (us0.map V.ref ++ [.ref t])) := by
          have := sp1.refs o2 g4
          rw [List.map_append] at this
          exact this
        have k5 := sp1.tups o2 pu
        have ket := sp1.tup o2 et
        have t2 := sp1.tbs t1 o2
        refine ⟨_, rfl, md, .ref G, rfl, mdl_log k1, nil_le, ?_⟩
        refine fun e0 n_e0 => ?_
        generalize g_e0 : L2.upd _ e0 _ = H3
        obtain ⟨s_H3, e_e0⟩ := U.upd_facts g_e0 n_e0
        clear g_e0
        refine ⟨G, e0, _, rfl, rfl, SqL.of (s_H3 _ _ k4'), SqL.of e_e0, _, rfl, ?_⟩
        rw [show (us0.map V.ref ++ [V.ref t]).isEmpty = false from by simp]
        refine iteF ?_
        refine ⟨_, rfl, md, .ref G, rfl, mdl_log (s_H3 _ _ k1), 1, rfl, G, _, -1, .ref t, rfl, rfl, SqL.of (s_H3 _ _ k4'), atI_last _ _, t, _, 0, .str v, rfl, rfl, SqT.of (s_H3 _ _ ket), rfl, ?_⟩
        refine ⟨_, rfl, _, rfl, rfl, _, rfl, ?_⟩
        rw [decide_eq_true (rfl : V.str v = V.str v)]
        refine iteF ?_
        refine ⟨_, rfl, md, .ref L, rfl, mdl_tables (s_H3 _ _ k1), 1, rfl, -1, rfl, L, _, rfl, SqL.of (s_H3 _ _ k2), ?_⟩
        rw [(cut_last _ _).1]
        refine fun Ln n_Ln => ?_
        generalize g_Ln : L2.upd _ Ln _ = H4
        obtain ⟨s_H4, e_Ln⟩ := U.upd_facts g_Ln n_Ln
        clear g_Ln
        have s34 : Same H2 H4 := s_H3.trans s_H4
        refine ⟨_, rfl, md, _, rfl, DPut.k (k := Sum.inr "tables") (s34 _ _ k1) (lt_line (by show 3 ≤ 100000; decide)), ?_⟩
        have ep : putK (mdl n L G) (Sum.inr "tables") (.ref Ln) = mdl n Ln G := rfl
        rw [ep]
        generalize g_H5 : L2.upd _ md _ = H5
        obtain ⟨o_H5, e_H5⟩ := st_facts g_H5
        clear g_H5
        have sp4 : Sep H4 md := .inr (.inr ⟨n, L, G, s34 _ _ k1⟩)
        have j4 : H5 G = _ := o_H5 _ _ (ne_of (s34 _ _ k4') (s34 _ _ k1) (by intro z; cases z)) (s34 _ _ k4')
        refine ⟨_, rfl, md, .ref G, rfl, mdl_log e_H5, 1, rfl, -1, rfl, G, _, rfl, SqL.of j4, ?_⟩
        rw [(cut_last _ _).1]
        refine fun Gn n_Gn => ?_
        generalize g_Gn : L2.upd _ Gn _ = H6
        obtain ⟨s_H6, e_Gn⟩ := U.upd_facts g_Gn n_Gn
        clear g_Gn
        refine ⟨_, rfl, md, _, rfl, DPut.k (k := Sum.inr "log") (s_H6 _ _ e_H5) (lt_line (by show 3 ≤ 100000; decide)), ?_⟩
        have ep2 : putK (mdl n Ln G) (Sum.inr "log") (.ref Gn) = mdl n Ln Gn := rfl
        rw [ep2]
        generalize g_H7 : L2.upd _ md _ = H7
        obtain ⟨o_H7, e_H7⟩ := st_facts g_H7
        clear g_H7
        have sp6 : Sep H6 md := .inr (.inr ⟨n, Ln, G, s_H6 _ _ e_H5⟩)
        have nsm : s ≠ md := nms.symm
        have se7 := sp6.sess o_H7 nsm ((sp4.sess o_H5 nsm (se2.same s34)).same s_H6)
        have m7 := sp6.map o_H7 ((sp4.map o_H5 (m2.same s34)).same s_H6)
        have b1 := sp6.refs o_H7 (s_H6 _ _ (sp4.refs o_H5 e_Ln))
        have b2 := sp6.tabs o_H7 ((sp4.tabs o_H5 (k3.same s34)).same s_H6)
        have b3 := sp6.refs o_H7 e_Gn
        have b4 := sp6.tups o_H7 ((sp4.tups o_H5 (k5.map fun _ _ _ e => s34 _ _ e)).map fun _ _ _ e => s_H6 _ _ e)
        have mo7 : ModAt H7 md n lg0 (gs0 ++ [g]) := ⟨Ln, Gn, ds00 ++ [dk], us0, e_H7, b1, b2, b3, b4⟩
        have t7 := sp6.tbs ((sp4.tbs (t2.ext s34) o_H5).ext s_H6) o_H7
        have hdk7 := sp6.dk o_H7 (s_H6 _ _ (sp4.dk o_H5 (s34 _ _ (sp1.dk o2 hdk))))
        have b1' : H7 Ln = some (.lst (ds00.map V.ref ++ [.ref dk])) := by rw [List.map_append] at b1; exact b1
        have llk := di_lenN dik wfk
        refine ⟨_, rfl, _, rfl, md, .int n, rfl, mdl_size e_H7, _, rfl, md, .ref Ln, rfl, mdl_tables e_H7, 1, rfl, Ln, _, -1, .ref dk, rfl, rfl, SqL.of b1', atI_last _ _, fun mq dxq nmq ndxq neq => init_of hdk7 dik wfk n1 n2 (by omega) nmq ndxq neq fun H8 s8 mm2 => ⟨rfl, ?_⟩⟩
        obtain ⟨ex1, fx1, em1⟩ := at_map (m7.same s8)
        obtain ⟨ex2, fx2, em2⟩ := at_map mm2
        refine ⟨mt, ex1, fx1, mq, ex2, fx2, rfl, rfl, em1, em2, mt, mq, _, _, _, _, rfl, m7.same s8, mm2, ?_⟩
        rw [eqB_eq mm2.wf rfl]
        refine q lg0 gs0 g H8 (se7.same s8) (mo7.same s8) (t7.ext s8) (fun b o hb1 hb2 hp e => ?_) (by simp) (fun p hp => List.mem_append_left _ hp) (fun Lx Gx e => .inr fun o ho => ?_)
        rotate_left
        · obtain ⟨rfl, rfl⟩ := mdl_inj (s8 _ _ e_H7) e
          refine Classical.byContradiction fun hno => ?_
          have hp : ∀ ps, o ≠ .tbl ps := fun ps z => hno ⟨ps, z⟩
          have hx : ∀ b, H5 b ≠ none → Gn ≠ b := fun b hb z => hb (by rw [← z]; exact n_Gn)
          have hs5 := sp4.sess o_H5 nsm (se2.same s34)
          obtain ⟨dx5, m5, tl5, te5, ts5, ms5, e5, _⟩ := hs5.ob
          have := o_H5 _ _ (hx md (by rw [e_H5]; intro z; cases z)) (s34 _ _ (o2 _ _ (hx s (by rw [e5]; intro z; cases z)) (x1 _ _ ho hp)))
          rw [n_Gn] at this
          cases this
        exact s8 _ _ (o_H7 _ _ hb2 (s_H6 _ _ (o_H5 _ _ hb2 (s34 _ _ (o2 _ _ hb1 (x1 _ _ e hp))))))
      · refine .inr (.inl ⟨lg0, v, a, rfl, hv, fun d H2 s2 hd => ⟨d, rfl, v, upd_same, .inr ⟨rfl, fun p H3 s3 np e3 => ?_⟩⟩⟩)
        have s13 : Same H1 H3 := (s2.trans (Same.new hd)).trans s3
        refine ⟨_, rfl, md, .ref G, rfl, mdl_log (s13 _ _ g1), nil_le, ?_⟩
        refine fun e0 n_e0 => ?_
        generalize g_e0 : L2.upd _ e0 _ = H4
        obtain ⟨s_H4, e_e0⟩ := U.upd_facts g_e0 n_e0
        clear g_e0
        have s14 := s13.trans s_H4
        refine ⟨G, e0, _, rfl, rfl, SqL.of (s14 _ _ g4), SqL.of e_e0, _, rfl, ?_⟩
        rw [emp']
        refine iteF ?_
        refine ⟨_, rfl, md, .ref G, rfl, mdl_log (s14 _ _ g1), 1, rfl, G, _, -1, .ref t, rfl, rfl, SqL.of (s14 _ _ g4'), atI_last _ _, t, _, 0, .str v, rfl, rfl, SqT.of (s14 _ _ et), rfl, ?_⟩
        refine ⟨_, rfl, _, rfl, rfl, _, rfl, ?_⟩
        rw [decide_eq_false (show ¬ (V.str v = V.str u) from fun z => hv (V.str.inj z))]
        refine iteT ?_
        refine ⟨_, rfl, _, rfl, two_le, ?_⟩
        refine fun e1 n_e1 => ?_
        generalize g_e1 : L2.upd _ e1 _ = H5
        obtain ⟨s_H5, e_e1⟩ := U.upd_facts g_e1 n_e1
        clear g_e1
        have s15 : Same H1 H5 := s14.trans s_H5
        obtain ⟨d1, d2, a1, a2, a3, a4, a5⟩ := eqs "last" v H5 p e1 (by unfold OkS; decide +kernel) (se.ok _ (List.mem_append_right _ (List.mem_singleton.mpr rfl))).1 (s_H5 _ _ (s_H4 _ _ e3)) e_e1
        refine ⟨d1, d2, a1, a2, a3, a4, ?_⟩
        rw [a5]
        exact q _ gs f H5 (se1.same s15) (mo1.same s15) (t1.ext s15) (offx _ s15) (Nat.le_refl _) (fun p hp => hp) (newx _ s15)
end
end My
namespace My
open PySem L2 U StX PM
/-! ### repr of a session -/
def reprS (n : Int) (f : PF) (k : Nat) : Str := Str.empty ++ "Session(" ++ reprM n (tab n f) ++ ", " ++ toString ((k : Nat) : Int) ++ ")"
def spReprS (C CM : Addr) : Sp := fun vs H Q _ => ∃ (s : Addr) (n : Int) (lg : List (Str × Str)) (gs : List PF) (f : PF), vs = [.ref s] ∧ SessX none C CM H s n lg gs f ∧ Q (.str (reprS n f lg.length)) H
theorem nd_prs {l : List (Int × Int)} (h : (l.map (·.1)).Nodup) : l.Nodup := by
  rw [List.nodup_iff_pairwise_ne] at h ⊢
  rw [List.pairwise_map] at h
  exact h.imp fun h z => h (congrArg _ z)
theorem dEq_f {l l' : List (Int × Int)} {f g : PF} (d : DI l f) (d' : DI l' g) (h : dEq (kvI l) (kvI l') = true) : f = g := by
  unfold dEq at h
  rw [Bool.and_eq_true, kvI_length, kvI_length, beq_iff_eq, List.all_eq_true] at h
  have sub : ∀ p ∈ l, p ∈ l' := by
    intro p hp
    have := h.2 (Sum.inl p.1, V.int p.2) (List.mem_map.mpr ⟨p, hp, rfl⟩)
    rw [decide_eq_true_eq, valV_kvI, d'.at_] at this
    obtain ⟨y, hy, ey⟩ := Option.map_eq_some_iff.mp this
    cases ey
    exact d'.mem.mpr hy
  have nd := nd_prs d.nd
  refine pf_ext fun x y => ⟨fun hx => d'.mem.mp (sub _ (d.mem.mpr hx)), fun hx => ?_⟩
  refine d.mem.mp (Classical.byContradiction fun hn => ?_)
  have := List.Nodup.length_le_of_subset (l₁ := (x, y) :: l) (l₂ := l') (List.nodup_cons.mpr ⟨hn, nd⟩) (fun p hp => by
    rcases List.mem_cons.mp hp with rfl | hp
    · exact d'.mem.mpr hx
    · exact sub p hp)
  rw [List.length_cons] at this
  omega
theorem dEq_eqB {n : Int} {l l' : List (Int × Int)} {f g : PF} (d : DI l f) (d' : DI l' g) (wf : WF n f) (wg : WF n g) : dEq (kvI l) (kvI l') = eqB n f n g := by
  unfold eqB
  rw [decide_eq_true rfl, Bool.true_and]
  by_cases h : f = g
  · subst h
    rw [dEq_di d d', dEq_di (di_tab wf) (di_tab wg)]
  · have h1 : dEq (kvI l) (kvI l') = false := by
      cases z : dEq (kvI l) (kvI l') with
      | false => rfl
      | true => exact absurd (dEq_f d d' z) h
    have h2 : dEq (kvI (tab n f)) (kvI (tab n g)) = false := by
      cases z : dEq (kvI (tab n f)) (kvI (tab n g)) with
      | false => rfl
      | true => exact absurd (dEq_f (di_tab wf) (di_tab wg) z) h
    rw [h1, h2]
theorem intKeys_kvI (l : List (Int × Int)) : IntKeys (kvI l) := fun p hp => by
  unfold kvI at hp
  obtain ⟨⟨x, y⟩, _, rfl⟩ := List.mem_map.mp hp
  exact ⟨x, rfl⟩
theorem dDb_of {H : Hp} {n : Int} {a b : Addr} {l l' : List (Int × Int)} {f g : PF} (ha : H a = some (.dK (kvI l))) (hb : H b = some (.dK (kvI l'))) (d : DI l f) (d' : DI l' g) (wf : WF n f) (wg : WF n g) : DDb (.ref a) (.ref b) H (eqB n f n g) := by
  refine ⟨a, b, _, _, rfl, rfl, ha, hb, intVals_kvI _, intVals_kvI _, intKeys_kvI _, intKeys_kvI _, ?_⟩
  unfold sameD
  by_cases h : a = b
  · subst h
    rw [decide_eq_true rfl, Bool.true_or]
    rw [ha] at hb
    have e : kvI l = kvI l' := HO.dK.inj (Option.some.inj hb)
    have z := dEq_eqB d d' wf wg
    rw [← z, ← e]
    exact dEq_di d d
  · rw [decide_eq_false h, Bool.false_or, dEq_eqB d d' wf wg]
theorem prs_tabs {H : Hp} {n : Int} {ds es : List Addr} {fs gs : List PF} (h : TabsAt H n ds fs) (h' : TabsAt H n es gs) (hl : fs.length = gs.length) : ∃ f, PrsB DDb (ds.map V.ref) (es.map V.ref) H f (mapsEq n n fs gs) := by
  have l1 := paired_len h
  have l2 := paired_len h'
  refine ⟨fun j => match fs[j]?, gs[j]? with | some f, some g => eqB n f n g | _, _ => false, by rw [List.length_map, List.length_map]; omega, fun i x y e1 e2 => ?_, fun hall => mapsEq_t hl fun j f g e1 e2 => ?_, fun j hj hf => ?_⟩
  · rw [List.getElem?_map] at e1 e2
    obtain ⟨a, ea, rfl⟩ := Option.map_eq_some_iff.mp e1
    obtain ⟨b, eb, rfl⟩ := Option.map_eq_some_iff.mp e2
    obtain ⟨l, f, ef, ha, df, wf⟩ := TabsAt.get h ea
    obtain ⟨l', g, eg, hb, dg, wg⟩ := TabsAt.get h' eb
    simp only [ef, eg]
    exact dDb_of ha hb df dg wf wg
  · have := hall j (by rw [List.length_map, l1]; exact (List.getElem?_eq_some_iff.mp e1).1)
    simp only [e1, e2] at this
    exact this
  · rw [List.length_map] at hj
    obtain ⟨f, ef⟩ : ∃ f, fs[j]? = some f := ⟨_, List.getElem?_eq_getElem (by omega)⟩
    obtain ⟨g, eg⟩ : ∃ g, gs[j]? = some g := ⟨_, List.getElem?_eq_getElem (by omega)⟩
    simp only [ef, eg] at hf
    exact mapsEq_f j f g ef eg hf
theorem mapsEq_len {n n' : Int} : ∀ {fs gs : List PF}, fs.length ≠ gs.length → mapsEq n n' fs gs = false
  | [], [], h => absurd rfl h
  | [], _ :: _, _ => rfl
  | _ :: _, [], _ => rfl
  | f :: fs, g :: gs, h => by
    show (eqB n f n' g && mapsEq n n' fs gs) = false
    rw [mapsEq_len (fs := fs) (gs := gs) (fun z => h (by simp [z])), Bool.and_false]
theorem selfB_tabs : SelfB (DListB DDb) := fun a H c ⟨x, y, xs, ys, h1, h2, e1, e2, p⟩ => by
  cases h1
  cases h2
  rw [e1] at e2
  have e : xs = ys := HO.lst.inj (Option.some.inj e2)
  subst e
  rcases p with ⟨hne, _⟩ | ⟨f, p⟩
  · exact absurd rfl hne
  · refine p.t fun j hj => ?_
    obtain ⟨b, b', ks, ls, q1, q2, _, _, _, _, _, _, hc⟩ := p.at_ j _ _ (List.getElem?_eq_getElem hj) (List.getElem?_eq_getElem hj)
    rw [q1] at q2
    cases q2
    rw [hc]
    unfold sameD
    rw [decide_eq_true rfl, Bool.true_or]
abbrev DPart (K : PySem.W.Frag) : EqvB := fun x y H c => DDat K x y H c ∨ DListB DDb x y H c
theorem sqT_ext {K : PySem.W.Frag} {H H' : Hp} {a : Addr} {xs : List V} (h : SqT K H a xs) (s : Ext H H') : SqT K H' a xs := by
  rcases h with (h | ⟨o, h⟩) | h
  · exact .inl (.inl (s _ _ h))
  · exact .inl (.inr ⟨o, s _ _ h⟩)
  · exact .inr h
mutual
theorem dp_ext {K : PySem.W.Frag} {H H' : Hp} (s : Ext H H') : ∀ (d : PyData) (v : V), Dp K H v d → Dp K H' v d
  | _, _, .non => .non
  | _, _, .bl b => .bl b
  | _, _, .int i => .int i
  | _, _, .str x => .str x
  | .list ds, _, .lst (xs := xs) h1 h2 => .lst (SqL.same h1 s) (dps_ext s ds xs h2)
  | .tuple ds, _, .tup (xs := xs) h1 h2 => .tup (sqT_ext h1 s) (dps_ext s ds xs h2)
theorem dps_ext {K : PySem.W.Frag} {H H' : Hp} (s : Ext H H') : ∀ (ds : List PyData) (vs : List V), DpAll K H vs ds → DpAll K H' vs ds
  | [], _, .nil => .nil
  | d :: ds, _, .cons (v := v) (vs := vs) h1 h2 => .cons (dp_ext s d v h1) (dps_ext s ds vs h2)
end
theorem mon_dat {K : PySem.W.Frag} : MonB (DDat K) := fun x y H H' c e ⟨d, d', h1, h2, r⟩ => ⟨d, d', dp_ext e _ _ h1, dp_ext e _ _ h2, r⟩
theorem rc_part {X : Cx} : RcH X 65 (DListB (DPart X.K)) := rcH_list (mon_dat.or (monB_list mon_DDb)) (eqH_dat.or (((rcH_list mon_DDb eqH_DDb).eqH selfB_tabs fun x y H c ⟨a, b, _, _, h1, h2, _⟩ => ⟨a, b, h1, h2⟩).mono (by decide)))
theorem eqv_logL (l l' : List (Str × Str)) : PyData.eqv (.list (l.map dTup)) (.list (l'.map dTup)) = decide (l = l') := eqv_log l l'
def spSameM : Sp := fun vs H Q _ => ∃ (a b : Addr) (n : Int) (lg lg' : List (Str × Str)) (fs fs' : List PF), vs = [.ref a, .ref b] ∧ ModAt H a n lg fs ∧ ModAt H b n lg' fs' ∧ (∀ p ∈ lg, OkS p.1 ∧ OkS p.2) ∧ (∀ p ∈ lg', OkS p.1 ∧ OkS p.2) ∧ ∀ H', Same H H' → Q (.bl (decide (lg = lg') && mapsEq n n fs fs')) H'
section
variable {P : Program} {w : World} {K : PySem.W.Frag} {mg : Str → Option Value} {base : Heap}
theorem ok_s_repr (T : Txt K mg) : FnG P w K mg base CX0 6 T.f_Session__repr (spReprS T.C_Session T.C_Map) := by
  refine T.A_Session__repr.okG sc_Session__repr (fun vs H Q E h => ?_) (fun cdv A outer s0 H vs Q E gd hr h => ?_)
  · obtain ⟨s, n, lg, gs, f, rfl, _⟩ := h
    rfl
  · obtain ⟨s, n, lg, gs, f, rfl, hs, q⟩ := h
    refine ⟨_, pss_one (ps_ret (pe_joined (.cons pe_str (.cons (pe_fmtO gd T.m_Map__repr T.i_Map__repr (ok_repr T) (hr.mono (by decide)) pass0 (pe_fld (pv 0) rfl)) (.cons pe_str (.cons (pe_fmt (pe_callB call_len_seq (by rfl) T.n_len (by decide +kernel) (pa_cons (pe_fld (pv 0) rfl) pa_nil))) (.cons pe_str .nil))))))), ?_⟩
    obtain ⟨⟨dx, m, tl, te, ts, ms, h1, h2, h3, h4, h5, h6⟩, hlen, hsm, hok⟩ := id hs
    obtain ⟨ex, fx, e1⟩ := at_map h2
    have lts := paired_len h4
    have hn : small ((lg.length : Nat) : Int) := by unfold small; omega
    have l1 := small_len hn
    have big : 50000 ≤ sizeLine := by decide
    have a1 : (Str.empty ++ Str.ofString "Session(").length = 8 := rfl
    refine ⟨_, rfl, by rw [a1]; omega, ?_⟩
    refine ⟨_, rfl, s, _, dx, _, _, rfl, h1, T.o_Session.cl, T.na_own_present_Session, sfx_p _ _ _ _, m, ex, fx, rfl, e1, m, n, f, rfl, h2, fun hl => ⟨_, rfl, by omega, ?_⟩⟩
    have a2 : (Str.empty ++ Str.ofString "Session(" ++ reprM n (tab n f)).length = 8 + (reprM n (tab n f)).length := by rw [strLen_append, a1]
    have a3 : (Str.empty ++ Str.ofString "Session(" ++ reprM n (tab n f) ++ Str.ofString ", ").length = 8 + (reprM n (tab n f)).length + 2 := by rw [strLen_append, a2]; rfl
    have a4 : (Str.empty ++ Str.ofString "Session(" ++ reprM n (tab n f) ++ Str.ofString ", " ++ Str.ofString (toString ((lg.length : Nat) : Int))).length = 8 + (reprM n (tab n f)).length + 2 + (Str.ofString (toString ((lg.length : Nat) : Int))).length := by rw [strLen_append, a3]
    have a5 : (Str.empty ++ Str.ofString "Session(" ++ reprM n (tab n f) ++ Str.ofString ", " ++ Str.ofString (toString ((lg.length : Nat) : Int)) ++ Str.ofString ")").length = 8 + (reprM n (tab n f)).length + 2 + (Str.ofString (toString ((lg.length : Nat) : Int))).length + 1 := by rw [strLen_append, a4]; rfl
    refine ⟨_, rfl, by rw [a2]; omega, ?_⟩
    refine ⟨_, rfl, by rw [a3]; omega, ?_⟩
    refine ⟨_, rfl, s, _, dx, _, _, rfl, h1, T.o_Session.cl, T.na_own_log_Session, sfx_l _ _ _ _, tl, _, rfl, .inr (SqT.of h3), .inr ⟨_, rfl, ?_, _, rfl, ?_, ?_⟩⟩
    · rw [List.length_map, lts]; exact small_log hn
    · rw [List.length_map, lts, a4]; omega
    · rw [List.length_map, lts]
      exact ⟨_, rfl, by rw [a5]; omega, q⟩
theorem ok_l_same (T : Txt K mg) : FnR P w K mg base CX0 66 T.f_l_same spSameM := by
  refine T.A_l_same.ok sc_l_same (fun vs H Q E h => ?_) (fun cdv A outer s0 H vs Q E hr h => ?_)
  · obtain ⟨a, b, n, lg, lg', fs, fs', rfl, _⟩ := h
    rfl
  · obtain ⟨a, b, n, lg, lg', fs, fs', rfl, ma, mb, ok, ok', q⟩ := h
    have hu := hu_of hr
    refine ⟨_, (pss_one (ps_ret (pe_cmpR (op_eqH rc_part (hr.mono (by decide))) (pe_lst (pa_cons (pe_dget hu (pv 0) pe_str (fun _ _ => rfl)) (pa_cons (pe_dget hu (pv 0) pe_str (fun _ _ => rfl)) (pa_cons (pe_dget hu (pv 0) pe_str (fun _ _ => rfl)) pa_nil)))) (pe_lst (pa_cons (pe_dget hu (pv 1) pe_str (fun _ _ => rfl)) (pa_cons (pe_dget hu (pv 1) pe_str (fun _ _ => rfl)) (pa_cons (pe_dget hu (pv 1) pe_str (fun _ _ => rfl)) pa_nil)))) (nomark _)))), ?_⟩
    obtain ⟨L, G, ds, us, g1, g2, g3, g4, g5⟩ := id ma.ob
    obtain ⟨L', G', ds', us', k1, k2, k3, k4, k5⟩ := id mb.ob
    refine ⟨_, rfl, a, .int n, rfl, mdl_size g1, _, rfl, a, .ref L, rfl, mdl_tables g1, _, rfl, a, .ref G, rfl, mdl_log g1, three_le, ?_⟩
    refine fun x1 n_x1 => ?_
    generalize g_x1 : L2.upd _ x1 _ = H1
    obtain ⟨s_H1, e_x1⟩ := U.upd_facts g_x1 n_x1
    clear g_x1
    refine ⟨_, rfl, b, .int n, rfl, mdl_size (s_H1 _ _ k1), _, rfl, b, .ref L', rfl, mdl_tables (s_H1 _ _ k1), _, rfl, b, .ref G', rfl, mdl_log (s_H1 _ _ k1), three_le, ?_⟩
    refine fun x2 n_x2 => ?_
    generalize g_x2 : L2.upd _ x2 _ = H2
    obtain ⟨s_H2, e_x2⟩ := U.upd_facts g_x2 n_x2
    clear g_x2
    have s2 := s_H1.trans s_H2
    have d1 : DPart K (.int n) (.int n) H2 true := .inl ⟨.int n, .int n, .int _, .int _, by show (true && _) = true; rfl, by show (true && _) = true; rfl, by show true = (n == n); simp⟩
    have d3 : DPart K (.ref G) (.ref G') H2 (decide (lg = lg')) := .inl ⟨.list (lg.map dTup), .list (lg'.map dTup), .lst (SqL.of (s2 _ _ g4)) (dp_log (g5.map fun _ _ _ z => s2 _ _ z)), .lst (SqL.of (s2 _ _ k4)) (dp_log (k5.map fun _ _ _ z => s2 _ _ z)), (shaped_log ok).2, (shaped_log ok').2, (eqv_logL _ _).symm⟩
    have d2 : DPart K (.ref L) (.ref L') H2 (mapsEq n n fs fs') := .inr ⟨L, L', _, _, rfl, rfl, s2 _ _ g2, s2 _ _ k2, by
      have l1 := paired_len g3
      have l2 := paired_len k3
      by_cases hl : fs.length = fs'.length
      · exact .inr (prs_tabs (g3.same s2) (k3.same s2) hl)
      · exact .inl ⟨by rw [List.length_map, List.length_map]; omega, mapsEq_len hl⟩⟩
    refine ⟨decide (lg = lg') && mapsEq n n fs fs', ⟨x1, x2, _, _, rfl, rfl, s_H2 _ _ e_x1, e_x2, .inr ⟨fun j => match j with | 0 => true | 1 => mapsEq n n fs fs' | _ => decide (lg = lg'), rfl, fun i x y e1 e2 => ?_, fun hall => ?_, fun j hj hf => ?_⟩⟩, fun H' e => q H' (s2.trans e)⟩
    · match i, e1, e2 with
      | 0, e1, e2 => cases e1; cases e2; exact d1
      | 1, e1, e2 => cases e1; cases e2; exact d2
      | 2, e1, e2 => cases e1; cases e2; exact d3
    · have h1 := hall 1 (by show 1 < 3; omega)
      have h2 := hall 2 (by show 2 < 3; omega)
      simp only at h1 h2
      rw [h1, h2]
      rfl
    · match j, hj, hf with
      | 0, _, hf => cases hf
      | 1, _, hf => simp only at hf; rw [hf, Bool.and_false]
      | 2, _, hf => simp only at hf; rw [hf, Bool.false_and]
end
end My
namespace My
open PySem L2 U StX PM
/-! ### repr of a keeping session -/
def reprK (n : Int) (f : PF) (k : Nat) (l : Int) : Str := Str.empty ++ "KeepingSession(" ++ reprM n (tab n f) ++ ", " ++ toString ((k : Nat) : Int) ++ ", " ++ toString l ++ ")"
def spReprK (C CM : Addr) : Sp := fun vs H Q _ => ∃ (s : Addr) (n l : Int) (lg : List (Str × Str)) (gs : List PF) (f : PF), vs = [.ref s] ∧ SessX (some l) C CM H s n lg gs f ∧ small l ∧ Q (.str (reprK n f lg.length l)) H
theorem SessAt.toX {C CM : Addr} {H : Hp} {s : Addr} {n : Int} {lg : List (Str × Str)} {gs : List PF} {f : PF} (h : SessAt C CM H s n lg gs f) : SessX none C CM H s n lg gs f := ⟨h.ob, h.len, h.sm, h.ok⟩
theorem SessX.toAt {C CM : Addr} {H : Hp} {s : Addr} {n : Int} {lg : List (Str × Str)} {gs : List PF} {f : PF} (h : SessX none C CM H s n lg gs f) : SessAt C CM H s n lg gs f := ⟨h.ob, h.len, h.sm, h.ok⟩
def spFre : Sp := fun vs H Q _ => vs = [] ∧ ∀ H', Same H H' → Q (.bl true) H'
theorem off_new {s : Addr} {H H1 H2 : Hp} (ns : H s = none) (s1 : Same H H1) (o : Off s H1 H2) : Same H H2 := fun b u e => o _ _ (ne_of_none e ns) (s1 _ _ e)
theorem SessX.offS {ex : Option Int} {C CM : Addr} {H H' : Hp} {s k : Addr} {n : Int} {lg : List (Str × Str)} {gs : List PF} {f : PF} (h : SessX ex C CM H k n lg gs f) (o : Off s H H') (e : SOb H s) (ne : k ≠ s) : SessX ex C CM H' k n lg gs f := by
  obtain ⟨⟨dx, m, tl, te, ts, ms, h1, h2, h3, h4, h5, h6⟩, l, sm, ok⟩ := h
  exact ⟨⟨dx, m, tl, te, ts, ms, o _ _ ne h1, h2.offS o e, tupS h3 o e, logS h4 o e, tupS h5 o e, h6.offS o e⟩, l, sm, ok⟩
theorem SessX.at_ {ex : Option Int} {C CM : Addr} {H : Hp} {s : Addr} {n : Int} {lg : List (Str × Str)} {gs : List PF} {f : PF} (h : SessX ex C CM H s n lg gs f) : ∃ dx m tl te, H s = some (.ins C dx (sfx ex m tl te)) := by
  obtain ⟨dx, m, tl, te, ts, ms, h1, _⟩ := h.ob
  exact ⟨dx, m, tl, te, h1⟩
theorem ann_ok : nameS "ann" = true ∧ OkS "ann" := ⟨by decide +kernel, by unfold OkS; decide +kernel⟩
theorem bob_ok : nameS "bob" = true ∧ OkS "bob" := ⟨by decide +kernel, by unfold OkS; decide +kernel⟩
section
variable {P : Program} {w : World} {K : PySem.W.Frag} {mg : Str → Option Value} {base : Heap}
theorem ok_k_repr (T : Txt K mg) : FnG P w K mg base CX0 6 T.f_KeepingSession__repr (spReprK T.C_KeepingSession T.C_Map) := by
  refine T.A_KeepingSession__repr.okG sc_KeepingSession__repr (fun vs H Q E h => ?_) (fun cdv A outer s0 H vs Q E gd hr h => ?_)
  · obtain ⟨s, n, l, lg, gs, f, rfl, _⟩ := h
    rfl
  · obtain ⟨s, n, l, lg, gs, f, rfl, hs, sl, q⟩ := h
    refine ⟨_, pss_one (ps_ret (pe_joined (.cons pe_str (.cons (pe_fmtO gd T.m_Map__repr T.i_Map__repr (ok_repr T) (hr.mono (by decide)) pass0 (pe_fld (pv 0) rfl)) (.cons pe_str (.cons (pe_fmt (pe_callB call_len_seq (by rfl) T.n_len (by decide +kernel) (pa_cons (pe_fld (pv 0) rfl) pa_nil))) (.cons pe_str (.cons (pe_fmt (pe_fld (pv 0) rfl)) (.cons pe_str .nil))))))))), ?_⟩
    obtain ⟨⟨dx, m, tl, te, ts, ms, h1, h2, h3, h4, h5, h6⟩, hlen, hsm, hok⟩ := id hs
    obtain ⟨ex, fx, e1⟩ := at_map h2
    have lts := paired_len h4
    have hn : small ((lg.length : Nat) : Int) := by unfold small; omega
    have l1 := small_len hn
    have l2 := small_len sl
    have big : 50000 ≤ sizeLine := by decide
    have a1 : (Str.empty ++ Str.ofString "KeepingSession(").length = 15 := rfl
    refine ⟨_, rfl, by rw [a1]; omega, ?_⟩
    refine ⟨_, rfl, s, _, dx, _, _, rfl, h1, T.o_KeepingSession.cl, T.na_own_present_KeepingSession, sfx_p _ _ _ _, m, ex, fx, rfl, e1, m, n, f, rfl, h2, fun hl => ⟨_, rfl, by omega, ?_⟩⟩
    have a2 : (Str.empty ++ Str.ofString "KeepingSession(" ++ reprM n (tab n f)).length = 15 + (reprM n (tab n f)).length := by rw [strLen_append, a1]
    have a3 : (Str.empty ++ Str.ofString "KeepingSession(" ++ reprM n (tab n f) ++ Str.ofString ", ").length = 15 + (reprM n (tab n f)).length + 2 := by rw [strLen_append, a2]; rfl
    have a4 : (Str.empty ++ Str.ofString "KeepingSession(" ++ reprM n (tab n f) ++ Str.ofString ", " ++ Str.ofString (toString ((lg.length : Nat) : Int))).length = 15 + (reprM n (tab n f)).length + 2 + (Str.ofString (toString ((lg.length : Nat) : Int))).length := by rw [strLen_append, a3]
    have a5 : (Str.empty ++ Str.ofString "KeepingSession(" ++ reprM n (tab n f) ++ Str.ofString ", " ++ Str.ofString (toString ((lg.length : Nat) : Int)) ++ Str.ofString ", ").length = 15 + (reprM n (tab n f)).length + 2 + (Str.ofString (toString ((lg.length : Nat) : Int))).length + 2 := by rw [strLen_append, a4]; rfl
    have a6 : (Str.empty ++ Str.ofString "KeepingSession(" ++ reprM n (tab n f) ++ Str.ofString ", " ++ Str.ofString (toString ((lg.length : Nat) : Int)) ++ Str.ofString ", " ++ Str.ofString (toString l)).length = 15 + (reprM n (tab n f)).length + 2 + (Str.ofString (toString ((lg.length : Nat) : Int))).length + 2 + (Str.ofString (toString l)).length := by rw [strLen_append, a5]
    have a7 : (Str.empty ++ Str.ofString "KeepingSession(" ++ reprM n (tab n f) ++ Str.ofString ", " ++ Str.ofString (toString ((lg.length : Nat) : Int)) ++ Str.ofString ", " ++ Str.ofString (toString l) ++ Str.ofString ")").length = 15 + (reprM n (tab n f)).length + 2 + (Str.ofString (toString ((lg.length : Nat) : Int))).length + 2 + (Str.ofString (toString l)).length + 1 := by rw [strLen_append, a6]; rfl
    refine ⟨_, rfl, by rw [a2]; omega, ?_⟩
    refine ⟨_, rfl, by rw [a3]; omega, ?_⟩
    refine ⟨_, rfl, s, _, dx, _, _, rfl, h1, T.o_KeepingSession.cl, T.na_own_log_KeepingSession, sfx_l _ _ _ _, tl, _, rfl, .inr (SqT.of h3), .inr ⟨_, rfl, ?_, _, rfl, ?_, ?_⟩⟩
    · rw [List.length_map, lts]; exact small_log hn
    · rw [List.length_map, lts, a4]; omega
    · rw [List.length_map, lts]
      refine ⟨_, rfl, by rw [a5]; omega, ?_⟩
      refine ⟨_, rfl, s, _, dx, _, _, rfl, h1, T.o_KeepingSession.cl, T.na_own_least_KeepingSession, sfx_t _ _ _ _, .inr ⟨_, rfl, small_log sl, _, rfl, ?_, ?_⟩⟩
      · rw [a6]; omega
      · exact ⟨_, rfl, by rw [a7]; omega, q⟩
theorem ok_l_unlike (hP : U.SupP P "/claim/cut.py") (T : Txt K mg) : FnR P w K mg base CX0 14 T.f_l_unlike spFre := by
  refine T.A_l_unlike.ok sc_l_unlike (fun vs H Q E h => ?_) (fun cdv A outer s0 H vs Q E hr h => ?_)
  · obtain ⟨rfl, _⟩ := h
    rfl
  · obtain ⟨rfl, q⟩ := h
    have hu := hu_of hr
    refine ⟨_, (pss_cons (ps_par3 (i := 0) (j := 1) (l := 2) rfl sc_l_unlike.nd rfl rfl rfl (by decide) (by decide) (by decide) rfl rfl rfl (pa_cons (pe_makeR T.M_Session (ok_s_init T) (hr.mono (by decide)) rfl T.g_Session pass0 (pa_cons pe_int pa_nil)) (pa_cons (pe_makeR T.M_Session (ok_s_init T) (hr.mono (by decide)) rfl T.g_Session pass0 (pa_cons pe_int pa_nil)) (pa_cons (pe_makeR T.M_KeepingSession (fnR_calm (ok_k_init hP T)) (hr.mono (by decide)) rfl T.g_KeepingSession pass0 (pa_cons pe_int (pa_cons pe_int pa_nil))) pa_nil))) (by rfl))
      (pss_cons (ps_set (i := 3) sc_l_unlike.nd rfl (Or.inl rfl) (ClX.pe_cmeth (pe_glob (v := .ref T.C_Map) rfl T.g_Map rfl) T.R_Map T.cm_Map_cycle (fnR_calm (okX_cycle T)) (hr.mono (by decide)) pass0 (pa_cons pe_int (pa_cons pe_int (pa_cons pe_int (pa_cons pe_int pa_nil))))))
      (pss_cons (ps_expr (pe_methR (pv 0) T.o_Session.cl T.meth_Session_apply (ok_s_apply T) (hr.mono (by decide)) pass0 (pa_cons pe_str (pa_cons (pv 3) pa_nil))))
      (pss_cons (ps_expr (pe_methR (pv 1) T.o_Session.cl T.meth_Session_apply (ok_s_apply T) (hr.mono (by decide)) pass0 (pa_cons pe_str (pa_cons (pe_un (un_inv T.m_Map__invert T.i_Map__invert (ok_invert T) (hr.mono (by decide)) pass0) (pv 3)) pa_nil))))
      (pss_cons (ps_expr (pe_methR (pv 2) (sc_keep T).o.cl T.meth_KeepingSession_apply (fnR_calm (okx_apply T (sc_keep T) T.meth_KeepingSession_change_to T.meth_KeepingSession_check_next (ok_k_next hP T 1))) (hr.mono (by decide)) pass0 (pa_cons pe_str (pa_cons (pv 3) pa_nil))))
      (pss_cons (ps_if (PW.pt (pw_or (pt_cmpR (op_eqV T.m_Session__eq T.i_Session__eq (ok_s_eq T) (hr.mono (by decide)) pass0) (pv 0) (pv 1) (nomark _)) (pw_or (pt_cmpR (op_neSub T.o_KeepingSession (fun z => by have a := T.sb_KeepingSession_Session; have b := T.sbn_Session_KeepingSession; rw [z] at b; rw [z, b] at a; cases a) T.sb_KeepingSession_Session T.ne_KeepingSession T.m_KeepingSession___eq T.i_KeepingSession___eq (ok_s_eq T) (hr.mono (by decide)) pass0) (pv 0) (pv 2) (nomark _)) (pw_or (pt_cmpR (op_neV T.o_KeepingSession T.ne_KeepingSession T.m_KeepingSession___eq T.i_KeepingSession___eq (ok_s_eq T) (hr.mono (by decide)) pass0) (pv 2) (pv 0) (nomark _)) (pw_or1 (pt_cmpR (L2.op_neD hr.units) (pe_meth0R (pv 0) T.o_Session.cl T.meth_Session_log (ok_s_log T) (hr.mono (by decide)) pass0) (pe_meth0R (pv 1) T.o_Session.cl T.meth_Session_log (ok_s_log T) (hr.mono (by decide)) pass0) (nomark _)))))))
        (pss_one (ps_ret pe_bl)) pss_nil)
      (pss_cons (ps_expr (pe_methR (pv 0) T.o_Session.cl T.meth_Session_raise_to (ok_s_raise T) (hr.mono (by decide)) pass0 (pa_cons pe_str (pa_cons pe_int pa_nil))))
      (pss_cons (ps_expr (pe_methR (pv 1) T.o_Session.cl T.meth_Session_raise_to (ok_s_raise T) (hr.mono (by decide)) pass0 (pa_cons pe_str (pa_cons pe_int pa_nil))))
      (pss_cons (ps_if (PW.pt (pw_or (pt_cmpR (op_neO T.o_Map T.ne_Map T.m_Map__eq T.i_Map__eq (ok_eq T) (hr.mono (by decide)) pass0) (pe_propR (pv 0) T.o_Session.cl T.P_Session_present (ok_present T) (hr.mono (by decide))) (pe_propR (pv 1) T.o_Session.cl T.P_Session_present (ok_present T) (hr.mono (by decide))) (nomark _)) (pw_or1 (pt_cmpR (op_eqV T.m_Session__eq T.i_Session__eq (ok_s_eq T) (hr.mono (by decide)) pass0) (pv 0) (pv 1) (nomark _)))))
        (pss_one (ps_ret pe_bl)) pss_nil)
      (pss_one (ps_ret (pe_and (pe_cmpR (op_neV T.o_Session T.ne_Session T.m_Session__eq T.i_Session__eq (ok_s_eq T) (hr.mono (by decide)) pass0) (pe_makeR T.M_Session (ok_s_init T) (hr.mono (by decide)) rfl T.g_Session pass0 (pa_cons pe_int pa_nil)) (pe_makeR T.M_Session (ok_s_init T) (hr.mono (by decide)) rfl T.g_Session pass0 (pa_cons pe_int pa_nil)) (nomark _)) (pe_one (pe_cmpR (op_neV T.o_Session T.ne_Session T.m_Session__eq T.i_Session__eq (ok_s_eq T) (hr.mono (by decide)) pass0) (pe_makeR T.M_Session (ok_s_init T) (hr.mono (by decide)) rfl T.g_Session pass0 (pa_cons pe_int pa_nil)) (ClX.pe_cmeth (pe_glob (v := .ref T.C_Map) rfl T.g_Map rfl) T.R_Map T.cm_Map_identity (ok_identity T) (hr.mono (by decide)) pass0 (pa_cons pe_int pa_nil)) (nomark _))))))))))))))), ?_⟩
    refine fun a dA nA ndA neA => ⟨a, dA, 3, rfl, upd_same, by decide, by decide, fun H1 o1 sA1 => ⟨rfl, ?_⟩⟩
    have s1 := mk_same nA ndA o1
    refine fun b dB nB ndB neB => ⟨b, dB, 3, rfl, upd_same, by decide, by decide, fun H2 o2 sB2 => ⟨rfl, ?_⟩⟩
    have s2 := mk_same nB ndB o2
    refine fun c dC nC ndC neC => ⟨c, dC, 3, 1, rfl, upd_same, by decide, by decide, by decide, by decide, fun H3 o3 sC3 => ⟨rfl, ?_⟩⟩
    have s3 := mk_same nC ndC o3
    refine ⟨_, _, _, rfl, ?_⟩
    refine ⟨rfl, [.ref T.C_Map, .int 3], [.int 0, .int 1, .int 2], rfl, rfl, three_le, fun p np => ⟨.int 3, p, _, rfl, upd_same, by simp, trivial, fun x hx => ?_, .inr ⟨3, rfl, by decide, by decide, .inr ⟨[0, 1, 2], rfl, by decide, by decide, fun r H4 nr s4 mr => ?_⟩⟩⟩⟩
    · simp only [List.mem_cons, List.not_mem_nil, or_false] at hx
      rcases hx with rfl | rfl | rfl <;> trivial
    replace s4 := (Same.new np).trans s4
    have s34 := s3.trans s4
    have A4 : SessX none T.C_Session T.C_Map H4 a 3 [] [] (idn 3) := (sA1.toX.same s2).same s34
    have B4 : SessX none T.C_Session T.C_Map H4 b 3 [] [] (idn 3) := sB2.toX.same s34
    have C4 := sC3.same s4
    have hab : a ≠ b := by obtain ⟨_, _, _, _, e⟩ := sA1.toX.at_; exact ne_of_none e nB
    have hac : a ≠ c := by obtain ⟨_, _, _, _, e⟩ := (sA1.toX.same s2).at_; exact ne_of_none e nC
    have hbc : b ≠ c := by obtain ⟨_, _, _, _, e⟩ := sB2.toX.at_; exact ne_of_none e nC
    have S4 : Same H H4 := (s1.trans s2).trans s34
    clear sA1 sB2 sC3
    obtain ⟨_, _, _, _, ea4⟩ := A4.at_
    refine ⟨_, rfl, a, _, _, rfl, ea4, rfl, _, rfl, a, "ann", _, 3, [], [], _, _, rfl, A4.toAt, ann_ok.1, ann_ok.2, by decide, ⟨r, _, rfl, mr, rfl⟩, fun ma H5 o5 A5 ma5 => ?_⟩
    have B5 := B4.offS o5 A4.sob hab.symm
    have C5 := C4.offS o5 A4.sob hac.symm
    have mr5 := mr.offS o5 A4.sob
    have S5 : Same H H5 := off_new nA S4 o5
    obtain ⟨_, _, _, _, eb5⟩ := B5.at_
    obtain ⟨dr, fr, er⟩ := at_map mr5
    refine ⟨_, rfl, b, _, _, rfl, eb5, rfl, _, rfl, r, dr, fr, rfl, er, r, 3, _, rfl, mr5, fun r2 H6 nr2 s6 mr6 => ?_⟩
    have B6 := B5.same s6
    refine ⟨b, "ann", _, 3, [], [], _, _, rfl, B6.toAt, ann_ok.1, ann_ok.2, by decide, ⟨r2, _, rfl, mr6, rfl⟩, fun mb H7 o7 B7 mb7 => ?_⟩
    have A7 := (A5.toX.same s6).offS o7 B6.sob hab
    have C7 := (C5.same s6).offS o7 B6.sob hbc.symm
    have mr7 := (mr5.same s6).offS o7 B6.sob
    have S7 : Same H H7 := off_new (s1.free nB) (S5.trans s6) o7
    obtain ⟨_, _, _, _, ec7⟩ := C7.at_
    refine ⟨_, rfl, c, _, _, rfl, ec7, rfl, _, rfl, c, "ann", _, 3, [], [], _, _, rfl, C7, ann_ok.1, ann_ok.2, by decide, ⟨r, _, rfl, mr7, rfl⟩, fun z => absurd (show okx (some 1) 3 (mul (idn 3) (cyc [0, 1, 2])) from by unfold okx; decide +kernel) z, fun _ mc H8 o8 C8 mc8 => ?_⟩
    have A8 := A7.offS o8 C7.sob hac
    have B8 := B7.toX.offS o8 C7.sob hbc
    have S8 : Same H H8 := off_new ((s1.trans s2).free nC) S7 o8
    obtain ⟨_, _, _, _, ea8⟩ := A8.at_
    obtain ⟨_, _, _, _, eb8⟩ := B8.at_
    obtain ⟨_, _, _, _, ec8⟩ := C8.at_
    refine ⟨_, rfl, _, rfl, a, _, _, _, rfl, ea8, tyx_ins T.o_Session eb8, notFirst_self _ _, a, T.C_Session, none, 3, _, _, _, _, rfl, .inl rfl, A8, .inl ⟨b, T.C_Session, none, 3, _, _, _, rfl, .inl rfl, B8, fun H9 s9 => ⟨_, rfl, ?_⟩⟩⟩
    rw [show (decide ((([] : List (Str × Str)) ++ [(Str.ofString "ann", Str.ofString "apply")]) = [] ++ [(Str.ofString "ann", Str.ofString "apply")]) && mapsEq 3 3 ([] ++ [idn 3] ++ [mul (idn 3) (cyc [0, 1, 2])]) ([] ++ [idn 3] ++ [mul (idn 3) (inv 3 (cyc [0, 1, 2]))])) = false from by decide +kernel]
    refine iteF ?_
    have A9 := A8.same s9
    have B9 := B8.same s9
    have C9 := C8.same s9
    have S9 := S8.trans s9
    have keyT : ∀ (lg : List (Str × Str)) (f : PF), WF 3 f → (decide (lg = lg) && mapsEq 3 3 ([] ++ [idn 3] ++ [f]) ([] ++ [idn 3] ++ [f])) = true := fun lg f wf => by
      rw [decide_eq_true rfl, Bool.true_and]
      show (eqB 3 (idn 3) 3 (idn 3) && (eqB 3 f 3 f && true)) = true
      rw [eqB_self wf, show eqB 3 (idn 3) 3 (idn 3) = true from by decide +kernel]
      rfl
    refine ⟨_, rfl, _, rfl, a, _, _, c, _, _, rfl, rfl, s9 _ _ ea8, s9 _ _ ec8, c, T.C_KeepingSession, some 1, 3, _, _, _, _, rfl, .inr rfl, C9, .inl ⟨a, T.C_Session, none, 3, _, _, _, rfl, .inl rfl, A9, fun H10 s10 => ⟨_, rfl, _, rfl, ?_⟩⟩⟩
    rw [keyT _ _ ma5.wf]
    refine iteF ?_
    have A10 := A9.same s10
    have B10 := B9.same s10
    have C10 := C9.same s10
    refine ⟨_, rfl, _, rfl, c, _, _, _, rfl, s10 _ _ (s9 _ _ ec8), tyx_ins T.o_Session (s10 _ _ (s9 _ _ ea8)), T.nf_KeepingSession_Session, c, T.C_KeepingSession, some 1, 3, _, _, _, _, rfl, .inr rfl, C10, .inl ⟨a, T.C_Session, none, 3, _, _, _, rfl, .inl rfl, A10, fun H11 s11 => ⟨_, rfl, _, rfl, ?_⟩⟩⟩
    rw [keyT _ _ ma5.wf]
    refine iteF ?_
    have A11 := A10.same s11
    have B11 := B10.same s11
    have S11 := (S9.trans s10).trans s11
    have s811 := (s9.trans s10).trans s11
    refine ⟨_, rfl, a, _, _, rfl, s811 _ _ ea8, rfl, a, 3, _, _, _, rfl, A11.toAt, fun r1 ts1 n_r1 pr1 => ?_⟩
    generalize g_r1 : L2.upd _ r1 _ = H12
    obtain ⟨s_H12, e_r1⟩ := U.upd_facts g_r1 n_r1
    clear g_r1
    have s812 := s811.trans s_H12
    refine ⟨_, rfl, b, _, _, rfl, s812 _ _ eb8, rfl, b, 3, _, _, _, rfl, (B11.same s_H12).toAt, fun r3 ts3 n_r3 pr3 => ?_⟩
    generalize g_r3 : L2.upd _ r3 _ = H13
    obtain ⟨s_H13, e_r3⟩ := U.upd_facts g_r3 n_r3
    clear g_r3
    obtain ⟨d, e, a1, a2, a3, a4, a5⟩ := log_eq (K := K) (s_H13 _ _ e_r1) (pr1.map fun _ _ _ z => s_H13 _ _ (s_H12 _ _ z)) e_r3 (pr3.map fun _ _ _ z => s_H13 _ _ z) A11.ok
    refine ⟨d, e, a1, a2, a3, a4, _, rfl, ?_⟩
    rw [a5]
    refine iteF ?_
    have s813 := s812.trans s_H13
    have A13 := A8.same s813
    have B13 := B8.same s813
    have S13 := S8.trans s813
    refine ⟨_, rfl, a, _, _, rfl, s813 _ _ ea8, rfl, a, "bob", _, 3, _, _, _, _, rfl, A13.toAt, bob_ok.1, bob_ok.2, by decide, ⟨3, rfl, rfl⟩, fun ma14 H14 o14 A14 ma14' => ?_⟩
    have B14 := B13.offS o14 A13.sob hab.symm
    have S14 := off_new nA S13 o14
    obtain ⟨_, _, _, _, eb14⟩ := B14.at_
    refine ⟨_, rfl, b, _, _, rfl, eb14, rfl, b, "bob", _, 3, _, _, _, _, rfl, B14.toAt, bob_ok.1, bob_ok.2, by decide, ⟨3, rfl, rfl⟩, fun mb15 H15 o15 B15 mb15' => ?_⟩
    have A15 := A14.toX.offS o15 B14.sob hab
    have S15 := off_new (s1.free nB) (off_new nA S13 o14) o15
    obtain ⟨_, _, _, _, ea15⟩ := A15.at_
    obtain ⟨_, _, _, _, eb15⟩ := B15.toX.at_
    refine ⟨_, rfl, a, _, _, rfl, ea15, a, 3, _, _, _, rfl, A15.toAt, fun mp hmp => ⟨_, rfl, b, _, _, rfl, eb15, b, 3, _, _, _, rfl, B15, fun mq hmq => ?_⟩⟩
    obtain ⟨ex1, fx1, em1⟩ := at_map hmp
    obtain ⟨ex2, fx2, em2⟩ := at_map hmq
    refine ⟨mp, ex1, fx1, mq, ex2, fx2, rfl, rfl, em1, em2, mp, mq, _, _, _, _, rfl, hmp, hmq, _, rfl, _, rfl, ?_⟩
    rw [show eqB 3 (pw 3 (mul (idn 3) (cyc [0, 1, 2])) 3) 3 (pw 3 (mul (idn 3) (inv 3 (cyc [0, 1, 2]))) 3) = true from by decide +kernel]
    refine iteF ?_
    refine ⟨_, rfl, _, rfl, a, _, _, _, rfl, ea15, tyx_ins T.o_Session eb15, notFirst_self _ _, a, T.C_Session, none, 3, _, _, _, _, rfl, .inl rfl, A15, .inl ⟨b, T.C_Session, none, 3, _, _, _, rfl, .inl rfl, B15.toX, fun H16 s16 => ⟨_, rfl, ?_⟩⟩⟩
    rw [show (decide ((([] : List (Str × Str)) ++ [(Str.ofString "ann", Str.ofString "apply")] ++ [(Str.ofString "bob", Str.ofString "power")]) = [] ++ [(Str.ofString "ann", Str.ofString "apply")] ++ [(Str.ofString "bob", Str.ofString "power")]) && mapsEq 3 3 ([] ++ [idn 3] ++ [mul (idn 3) (cyc [0, 1, 2])] ++ [pw 3 (mul (idn 3) (cyc [0, 1, 2])) 3]) ([] ++ [idn 3] ++ [mul (idn 3) (inv 3 (cyc [0, 1, 2]))] ++ [pw 3 (mul (idn 3) (inv 3 (cyc [0, 1, 2]))) 3])) = false from by decide +kernel]
    refine iteF ?_
    have S16 := S15.trans s16
    refine fun d dD nD ndD neD => ⟨d, dD, 3, rfl, upd_same, by decide, by decide, fun H17 o17 sD => ⟨rfl, ?_⟩⟩
    have s17 := mk_same nD ndD o17
    refine fun g dG nG ndG neG => ⟨g, dG, 4, rfl, upd_same, by decide, by decide, fun H18 o18 sG => ⟨rfl, ?_⟩⟩
    have s18 := mk_same nG ndG o18
    have D18 := sD.toX.same s18
    obtain ⟨_, _, _, _, ed18⟩ := D18.at_
    obtain ⟨_, _, _, _, eg18⟩ := sG.toX.at_
    refine ⟨d, _, _, _, rfl, ed18, tyx_ins T.o_Session eg18, notFirst_self _ _, d, T.C_Session, none, 3, _, _, _, _, rfl, .inl rfl, D18, .inl ⟨g, T.C_Session, none, 4, _, _, _, rfl, .inl rfl, sG.toX, fun H19 s19 => ⟨_, rfl, ?_⟩⟩⟩
    rw [show (decide (([] : List (Str × Str)) = []) && mapsEq 3 4 ([] ++ [idn 3]) ([] ++ [idn 4])) = false from by decide +kernel]
    refine ⟨_, rfl, iteT ?_⟩
    have S19 := ((S16.trans s17).trans s18).trans s19
    refine fun x dX nX ndX neX => ⟨x, dX, 3, rfl, upd_same, by decide, by decide, fun H20 o20 sX => ⟨rfl, ?_⟩⟩
    have s20 := mk_same nX ndX o20
    refine ⟨rfl, 3, rfl, by decide, by decide, fun y H21 nY s21 mY => ?_⟩
    obtain ⟨_, _, _, _, ex21⟩ := (sX.toX.same s21).at_
    obtain ⟨dy, fy, ey⟩ := at_map mY
    refine ⟨x, _, _, _, rfl, ex21, tyx_ins T.o_Map ey, T.nf_Map_Session, x, T.C_Session, none, 3, _, _, _, _, rfl, .inl rfl, sX.toX.same s21, .inr ⟨.inr ⟨y, _, _, rfl, ey⟩, fun H22 s22 => ⟨_, rfl, q _ (((S19.trans s20).trans s21).trans s22)⟩⟩⟩
end
end My
namespace U
open PySem L2 StX
/-- len(o) while an exception is handled -/
theorem call_lenOH {X : Cx} {CX : CXT} {n : Nat} {g C : Addr} {sp : Sp} {E : XK} {ea : Addr} {oe : Obj} {pn : List (Addr × Obj)} (gd : (X.suite ea ((ea, oe) :: pn)).A.guards = some []) (hs : PySem.W.findIn X.K (.ref C) "__len__" = some (some (.ref g))) (hf : PySem.W.isFn X.K (.ref g) = true)
    (F : FnHG X.prog X.w X.K X.mg X.base CX n g sp) (hr : L2H.RoomH (n + 1) (X.suite ea ((ea, oe) :: pn)).A) (hx : Passes CX (X.suite ea ((ea, oe) :: pn)) E) : CallR (X.suite ea ((ea, oe) :: pn)) (.builtin "len") (rLenO C sp E) := by
  intro pins s σ H xs us Q I r h
  obtain ⟨a, dx, fs, rfl, ha, q⟩ := h
  obtain ⟨u, rfl, ru⟩ := r.one
  cases (show u = Value.ref a from ru)
  obtain ⟨ox, od, J⟩ := ins_inst I ha
  obtain ⟨m, hF⟩ := I.fr
  have P1 := I.pin (ea, oe) (List.mem_append_left _ List.mem_cons_self)
  have hp : L2H.PinOk (X.suite ea ((ea, oe) :: pn)).stack H s (ea, oe) := ⟨P1.1, P1.2.1, fun hm => (List.mem_cons.mp (I.stkSub ea hm)).elim P1.2.2.1 P1.2.2.2.1, P1.2.2.2.2⟩
  have hun := hr.un
  have hr1 : L2H.RoomH n (X.suite ea ((ea, oe) :: pn)).A.in1 := ⟨by have := hr.dp; show (X.suite ea ((ea, oe) :: pn)).A.depth + 3 * n + 5 < _; omega, by show (X.suite ea ((ea, oe) :: pn)).A.units + 1 + 16 * n + 200 < _; omega⟩
  refine PySem.W.len_K hF I.ok.mod.kin J hs hf ?_
  refine wpAny_call ?_
  refine codeAny_mono (F (X.suite ea ((ea, oe) :: pn)).A.in1 (X.suite ea ((ea, oe) :: pn)).stack s H [.ref a] [.ref a] _ E (ea, oe) gd hr1 hp I.env0.in1 (.cons rfl .nil) q) fun z s' hq => ?_
  match z, hq with
  | .error er, hq => exact hx pins σ H s er s' I hq
  | .ok (.ret w), hq =>
    obtain ⟨v, H', I', rv, i, ev, i0, i1, qz⟩ := I.after hq
    subst ev
    obtain ⟨t, rfl⟩ := rv
    exact ⟨⟨i0, i1⟩, .int i, H', I'.tok _, ⟨_, rfl⟩, qz⟩
  | .ok .next, hq => exact hq.elim
  | .ok .brk, hq => exact hq.elim
  | .ok .cont, hq => exact hq.elim
end U
namespace My
open PySem L2 U StX PM
section
variable {P : Program} {w : World} {K : PySem.W.Frag} {mg : Str → Option Value} {base : Heap}
theorem okx_lenH (T : Txt K mg) {C : Addr} {ex : Option Int} (sc : SC K C) : FnHG P w K mg base CX0 1 T.f_Session__len (spLenX ex C T.C_Map) := by
  refine T.A_Session__len.okHG sc_Session__len (fun vs H Q E h => ?_) (fun cdv A outer s0 H vs Q E p gd hr h => ?_)
  · obtain ⟨s, n, lg, gs, f, rfl, _⟩ := h
    rfl
  · obtain ⟨s, n, lg, gs, f, rfl, hs, q⟩ := h
    refine ⟨_, (pss_one (ps_ret (pe_callB call_len_seq (by rfl) T.n_len (by decide +kernel) (pa_cons (pe_fld (pv 0) rfl) pa_nil)))), ?_⟩
    obtain ⟨dx, m, tl, te, ts, ms, h1, h2, h3, h4, h5, h6⟩ := id hs.ob
    refine ⟨_, rfl, s, _, dx, _, _, rfl, h1, sc.o.cl, sc.l, sfx_l _ _ _ _, tl, _, rfl, .inr (SqT.of h3), ?_⟩
    rw [List.length_map, paired_len h4]
    exact q
theorem ok_l_keeping (hP : U.SupP P "/claim/cut.py") (T : Txt K mg) : FnG P w K mg base CX0 16 T.f_l_keeping spFre := by
  refine T.A_l_keeping.okG sc_l_keeping (fun vs H Q E h => ?_) (fun cdv A outer s0 H vs Q E gd hr h => ?_)
  · obtain ⟨rfl, _⟩ := h
    rfl
  · obtain ⟨rfl, q⟩ := h
    have hu := hu_of hr
    refine ⟨_, (pss_cons (ps_set (i := 0) sc_l_keeping.nd rfl (Or.inl rfl) (pe_makeR T.M_KeepingSession (fnR_calm (ok_k_init hP T)) (hr.mono (by decide)) rfl T.g_KeepingSession pass0 (pa_cons pe_int (pa_cons pe_int pa_nil))))
      (pss_cons (ps_expr (pe_methR (pv 0) (sc_keep T).o.cl T.meth_KeepingSession_do_steps (fnR_calm (okx_steps T (sc_keep T) T.meth_KeepingSession_change_to T.meth_KeepingSession_check_next (ok_k_next hP T 2))) (hr.mono (by decide)) pass0 (pa_cons pe_str (pa_cons (pe_lst (pa_cons (pe_tup (pa_cons pe_str (pa_cons pe_int pa_nil))) pa_nil)) pa_nil))))
      (pss_cons (ps_set (i := 1) sc_l_keeping.nd rfl (Or.inl rfl) (pe_meth0R (pv 0) (sc_keep T).o.cl T.meth_KeepingSession_clone (okx_clone T (sc_keep T) T.meth_KeepingSession_fresh (ok_k_fresh hP T 2)) (hr.mono (by decide)) pass0))
      (pss_cons (ps_if (PW.pt (pw_or (pt_cmpR op_ne (pe_callB (call_reprO gd T.m_KeepingSession__repr T.i_KeepingSession__repr (ok_k_repr T) (hr.mono (by decide)) pass0) (by rfl) T.n_repr (by decide +kernel) (pa_cons (pv 1) pa_nil)) (pe_op op_add_str (pe_op op_add_str pe_str (pe_callB (call_reprO gd T.m_Map__repr T.i_Map__repr (ok_repr T) (hr.mono (by decide)) pass0) (by rfl) T.n_repr (by decide +kernel) (pa_cons (pe_propR (pv 0) T.o_KeepingSession.cl T.P_KeepingSession_present (okx_present T (ex := some 2) (sc_keep T)) (hr.mono (by decide))) pa_nil))) pe_str) (nomark _)) (pw_or (pt_cmpR op_ne (pe_propR (pv 1) T.o_KeepingSession.cl T.P_KeepingSession_least (ok_least T) (hr.mono (by decide))) pe_int (nomark _)) (pw_or1 (pt_cmpR (op_neV T.o_KeepingSession T.ne_KeepingSession T.m_KeepingSession___eq T.i_KeepingSession___eq (ok_s_eq T) (hr.mono (by decide)) pass0) (pv 1) (pv 0) (nomark _))))))
        (pss_one (ps_ret pe_bl)) pss_nil)
      (pss_cons (ps_try_as (i := 2) rfl rfl sc_l_keeping.nd rfl rfl ⟨rfl, by decide, .inl T.g_TooFew⟩ L2.takes0 (fun W pn xe tk _ => (pss_cons (ps_expr (pe_methRS (pv 1) (sc_keep T).o.cl T.meth_KeepingSession_do_steps (okx_steps T (sc_keep T) T.meth_KeepingSession_change_to T.meth_KeepingSession_check_next (ok_k_next hP T 2)) (hr.mono (by decide)) (fun σ => passAt tk σ) (pa_cons pe_str (pa_cons (pe_lst (pa_cons (pe_tup (pa_cons pe_str (pa_cons pe_int pa_nil))) (pa_cons (pe_tup (pa_cons pe_str (pa_cons pe_int pa_nil))) pa_nil))) pa_nil))))
      (pss_one (ps_ret pe_bl)))) (fun a oe cls d pn hz hf => (pss_one (ps_if (PW.pt (pw_or (pt_cmpR op_ne (pe_xf T.xf_TooFew T.na_number_TooFew hz hf (pv 2)) pe_int (nomark _)) (pw_or1 (pt_cmpR op_ne (pe_callB (call_lenOH gd T.m_KeepingSession___len T.i_KeepingSession___len (okx_lenH T (ex := some 2) (sc_keep T)) (roomS (k := 2) (hr.mono (by decide))) pass0) (by rfl) T.n_len (by decide +kernel) (pa_cons (pv 1) pa_nil)) pe_int (nomark _)))))
        (pss_one (ps_ret pe_bl)) pss_nil))))
      (pss_cons (ps_expr (pe_methR (pv 1) (sc_keep T).o.cl T.meth_KeepingSession_raise_to (fnR_calm (okx_raise T (sc_keep T) T.meth_KeepingSession_change_to T.meth_KeepingSession_check_next (ok_k_next hP T 2))) (hr.mono (by decide)) pass0 (pa_cons pe_str (pa_cons pe_int pa_nil))))
      (pss_one (ps_ret (pe_and (pe_cmpR op_eq (pe_callB (call_lenO T.m_KeepingSession___len T.i_KeepingSession___len (okx_len T (ex := some 2) (sc_keep T)) (hr.mono (by decide)) pass0) (by rfl) T.n_len (by decide +kernel) (pa_cons (pv 0) pa_nil)) pe_int (nomark _)) (pe_and (pe_cmpR op_eq (pe_callB (call_lenO T.m_KeepingSession___len T.i_KeepingSession___len (okx_len T (ex := some 2) (sc_keep T)) (hr.mono (by decide)) pass0) (by rfl) T.n_len (by decide +kernel) (pa_cons (pv 1) pa_nil)) pe_int (nomark _)) (pe_one (pe_cmpR (op_neV T.o_KeepingSession T.ne_KeepingSession T.m_KeepingSession___eq T.i_KeepingSession___eq (ok_s_eq T) (hr.mono (by decide)) pass0) (pv 1) (pv 0) (nomark _))))))))))))), ?_⟩
    refine fun a dA nA ndA neA => ⟨a, dA, 4, 2, rfl, upd_same, by decide, by decide, by decide, by decide, fun H1 o1 A1 => ⟨rfl, ?_⟩⟩
    have s1 := mk_same nA ndA o1
    obtain ⟨_, _, _, _, ea1⟩ := A1.at_
    refine ⟨_, rfl, a, _, _, rfl, ea1, rfl, two_le, ?_⟩
    refine fun t0 n_t0 => ?_
    generalize g_t0 : L2.upd _ t0 _ = H2
    obtain ⟨s_H2, e_t0⟩ := U.upd_facts g_t0 n_t0
    clear g_t0
    refine ⟨one_le, ?_⟩
    refine fun L0 n_L0 => ?_
    generalize g_L0 : L2.upd _ L0 _ = H3
    obtain ⟨s_H3, e_L0⟩ := U.upd_facts g_L0 n_L0
    clear g_L0
    have s13 := s_H2.trans s_H3
    have A3 := A1.same s13
    refine ⟨a, "ann", _, 4, [], [], _, _, rfl, A3, ann_ok.1, ann_ok.2, by decide, ⟨L0, [t0], [.fg 0], rfl, e_L0, .cons (s_H3 _ _ e_t0) .nil, fun s hs => (by rw [List.mem_singleton.mp hs]; exact ⟨by decide, by decide⟩), by decide, rfl⟩, fun z => absurd (show okx (some 2) 4 (stps (idn 4) [.fg 0]) from by unfold okx; decide +kernel) z, fun _ ma H4 o4 A4 ma4 => ?_⟩
    have S4 : Same H H4 := off_new nA (s1.trans s13) o4
    obtain ⟨_, _, _, _, ea4⟩ := A4.at_
    refine ⟨_, rfl, a, _, _, rfl, ea4, rfl, a, 4, _, _, _, rfl, A4, ⟨by decide, by decide⟩, fun b H5 nB s5 B5 => ?_⟩
    have A5 := A4.same s5
    have hab : a ≠ b := ne_of_none ea4 nB
    obtain ⟨_, _, _, _, ea5⟩ := A5.at_
    obtain ⟨_, _, _, _, eb5⟩ := B5.at_
    refine ⟨_, rfl, b, _, _, rfl, eb5, b, 4, 2, _, _, _, rfl, B5, by unfold small; decide, _, rfl, ?_⟩
    refine ⟨_, rfl, a, _, _, rfl, ea5, a, 4, _, _, _, rfl, A5, fun m hm => ?_⟩
    obtain ⟨dm, fm, em⟩ := at_map hm
    refine ⟨m, dm, fm, rfl, em, m, 4, _, rfl, hm, fun hlen => ⟨_, rfl, ?_⟩⟩
    have big : 50000 ≤ sizeLine := by decide
    have k15 : (Str.ofString "KeepingSession(").length = 15 := rfl
    have k7 : (Str.ofString ", 1, 2)").length = 7 := rfl
    refine ⟨_, _, rfl, rfl, by omega, _, _, rfl, rfl, by rw [strLen_append]; omega, rfl, _, rfl, ?_⟩
    rw [decide_eq_true (congrArg V.str (show reprK 4 (stps (idn 4) [Stp.fg 0]) (([] : List (Str × Str)) ++ [(Str.ofString "ann", Str.ofString "steps")]).length 2 = Str.ofString "KeepingSession(" ++ reprM 4 (tab 4 (stps (idn 4) [Stp.fg 0])) ++ Str.ofString ", 1, 2)" from by decide +kernel))]
    refine iteF ?_
    refine ⟨_, rfl, b, _, _, rfl, eb5, b, 4, 2, _, _, _, rfl, B5, rfl, _, rfl, ?_⟩
    rw [decide_eq_true rfl]
    refine iteF ?_
    refine ⟨_, rfl, _, rfl, b, _, _, _, rfl, eb5, tyx_ins T.o_KeepingSession ea5, notFirst_self _ _, b, T.C_KeepingSession, some 2, 4, _, _, _, _, rfl, .inr rfl, B5, .inl ⟨a, T.C_KeepingSession, some 2, 4, _, _, _, rfl, .inr rfl, A5, fun H6 s6 => ⟨_, rfl, _, rfl, ?_⟩⟩⟩
    rw [show (decide ((([] : List (Str × Str)) ++ [(Str.ofString "ann", Str.ofString "steps")]) = [] ++ [(Str.ofString "ann", Str.ofString "steps")]) && mapsEq 4 4 ([] ++ [idn 4] ++ [stps (idn 4) [Stp.fg 0]]) ([] ++ [idn 4] ++ [stps (idn 4) [Stp.fg 0]])) = true from by decide +kernel]
    refine iteF ?_
    have A6 := A5.same s6
    have B6 := B5.same s6
    have S6 := (S4.trans s5).trans s6
    refine ⟨_, rfl, b, _, _, rfl, s6 _ _ eb5, rfl, two_le, ?_⟩
    refine fun t1 n_t1 => ?_
    generalize g_t1 : L2.upd _ t1 _ = H7
    obtain ⟨s_H7, e_t1⟩ := U.upd_facts g_t1 n_t1
    clear g_t1
    refine ⟨two_le, ?_⟩
    refine fun t2 n_t2 => ?_
    generalize g_t2 : L2.upd _ t2 _ = H8
    obtain ⟨s_H8, e_t2⟩ := U.upd_facts g_t2 n_t2
    clear g_t2
    refine ⟨two_le, ?_⟩
    refine fun L1 n_L1 => ?_
    generalize g_L1 : L2.upd _ L1 _ = H9
    obtain ⟨s_H9, e_L1⟩ := U.upd_facts g_L1 n_L1
    clear g_L1
    have s69 := (s_H7.trans s_H8).trans s_H9
    have A9 := A6.same s69
    have B9 := B6.same s69
    have S9 := S6.trans s69
    refine ⟨b, "bob", _, 4, _, _, _, _, rfl, B9, bob_ok.1, bob_ok.2, by decide, ⟨L1, [t1, t2], [.fg 1, .fg 3], rfl, e_L1, .cons (s_H9 _ _ (s_H8 _ _ e_t1)) (.cons (s_H9 _ _ e_t2) .nil), fun s hs => (by
      simp only [List.mem_cons, List.not_mem_nil, or_false] at hs
      rcases hs with rfl | rfl <;> exact ⟨by decide, by decide⟩), by decide, rfl⟩, fun _ H10 dd s10 n_dd => ⟨true, T.te_TooFew, fun _ x nx => ?_, fun z => nomatch z⟩, fun z => absurd z (show ¬ okx (some 2) 4 (stps (stps (idn 4) [.fg 0]) [.fg 1, .fg 3]) from by unfold okx; decide +kernel)⟩
    refine ⟨_, rfl, rfl, rfl, dd, _, _, rfl, upd_same, rfl, rfl, _, rfl, ?_⟩
    rw [decide_eq_true (congrArg V.int (show (((tab 4 (stps (stps (idn 4) [.fg 0]) [.fg 1, .fg 3])).length : Nat) : Int) = 1 from by decide +kernel))]
    refine iteF ?_
    generalize g_dd : L2.upd _ dd _ = H11
    obtain ⟨s_H11, e_dd⟩ := U.upd_facts g_dd n_dd
    clear g_dd
    have s9d := s10.trans s_H11
    have A11 := A9.same s9d
    have B11 := B9.same s9d
    have S11 := S9.trans s9d
    obtain ⟨_, _, _, _, eb11⟩ := B11.at_
    refine ⟨_, rfl, b, _, _, rfl, eb11, b, 4, _, _, _, rfl, B11, _, rfl, by decide, by decide, rfl, _, rfl, ?_⟩
    rw [decide_eq_true (congrArg V.int (show (((([] : List (Str × Str)) ++ [(Str.ofString "ann", Str.ofString "steps")]).length : Nat) : Int) = 1 from rfl))]
    refine iteF ?_
    obtain ⟨_, _, _, _, ea11⟩ := A11.at_
    refine ⟨_, rfl, b, _, _, rfl, eb11, rfl, b, "bob", _, 4, _, _, _, _, rfl, B11, bob_ok.1, bob_ok.2, by decide, ⟨2, rfl, rfl⟩, fun z => absurd (show okx (some 2) 4 (pw 4 (stps (idn 4) [.fg 0]) 2) from by unfold okx; decide +kernel) z, fun _ mb H12 o12 B12 mb12 => ?_⟩
    have A12 := A11.offS o12 B11.sob hab
    have nB0 : H b = none := S4.free nB
    have S12 : Same H H12 := off_new nB0 S11 o12
    obtain ⟨_, _, _, _, ea12⟩ := A12.at_
    obtain ⟨_, _, _, _, eb12⟩ := B12.at_
    refine ⟨_, rfl, a, _, _, rfl, ea12, a, 4, _, _, _, rfl, A12, _, rfl, by decide, by decide, rfl, ?_⟩
    rw [decide_eq_true (congrArg V.int (show (((([] : List (Str × Str)) ++ [(Str.ofString "ann", Str.ofString "steps")]).length : Nat) : Int) = 1 from rfl))]
    refine ⟨_, rfl, iteT ?_⟩
    refine ⟨_, rfl, b, _, _, rfl, eb12, b, 4, _, _, _, rfl, B12, _, rfl, by decide, by decide, rfl, ?_⟩
    rw [decide_eq_true (congrArg V.int (show (((([] : List (Str × Str)) ++ [(Str.ofString "ann", Str.ofString "steps")] ++ [(Str.ofString "bob", Str.ofString "power")]).length : Nat) : Int) = 2 from rfl))]
    refine ⟨_, rfl, iteT ?_⟩
    refine ⟨_, rfl, _, rfl, b, _, _, _, rfl, eb12, tyx_ins T.o_KeepingSession ea12, notFirst_self _ _, b, T.C_KeepingSession, some 2, 4, _, _, _, _, rfl, .inr rfl, B12, .inl ⟨a, T.C_KeepingSession, some 2, 4, _, _, _, rfl, .inr rfl, A12, fun H13 s13' => ⟨_, rfl, ?_⟩⟩⟩
    rw [show (decide ((([] : List (Str × Str)) ++ [(Str.ofString "ann", Str.ofString "steps")] ++ [(Str.ofString "bob", Str.ofString "power")]) = [] ++ [(Str.ofString "ann", Str.ofString "steps")]) && mapsEq 4 4 ([] ++ [idn 4] ++ [stps (idn 4) [Stp.fg 0]] ++ [pw 4 (stps (idn 4) [Stp.fg 0]) 2]) ([] ++ [idn 4] ++ [stps (idn 4) [Stp.fg 0]])) = false from by decide +kernel]
    exact q _ (S12.trans s13')
end
end My
namespace My
open PySem L2 U StX PM LamX
/-! ### all but some objects (and tables) is kept -/
def KpN (ss : List Addr) (H H' : Hp) : Prop := ∀ b o, b ∉ ss → (∀ ps, o ≠ .tbl ps) → H b = some o → H' b = some o
section
variable {ss : List Addr} {H H' : Hp} (k : KpN ss H H') (hn : ∀ a ∈ ss, Sep H a)
include k hn
theorem KpN.tup {t : Addr} {xs : List V} (h : H t = some (.tup xs)) : H' t = some (.tup xs) := k _ _ (fun m => by
  rcases hn _ m with ⟨_, _, z⟩ | ⟨_, _, _, z, _⟩ | ⟨_, _, _, z⟩ <;> (rw [z] at h; cases h)) (fun ps z => by cases z) h
theorem KpN.dk {t : Addr} {l : List (Int × Int)} (h : H t = some (.dK (kvI l))) : H' t = some (.dK (kvI l)) := k _ _ (fun m => by
  rcases hn _ m with ⟨_, _, z⟩ | ⟨_, _, _, z, _⟩ | ⟨_, _, _, z⟩
  · rw [z] at h; cases h
  · rw [z] at h; cases h
  · rw [z] at h
    exact kvI_mdl (HO.dK.inj (Option.some.inj h)).symm) (fun ps z => by cases z) h
theorem KpN.refs {t : Addr} {xs : List Addr} (h : H t = some (.lst (xs.map V.ref))) : H' t = some (.lst (xs.map V.ref)) := k _ _ (fun m => by
  rcases hn _ m with ⟨_, _, z⟩ | ⟨_, _, _, z, _⟩ | ⟨_, _, _, z⟩
  · rw [z] at h
    cases xs with
    | nil => cases h
    | cons x xs => cases h
  · rw [z] at h; cases h
  · rw [z] at h; cases h) (fun ps z => by cases z) h
theorem KpN.map {C m : Addr} {n : Int} {f : PF} (h : IsMap C H m n f) : IsMap C H' m n f := by
  obtain ⟨⟨dx, D, h1, h2⟩, wf, lo, hi⟩ := h
  refine ⟨⟨dx, D, k _ _ (fun z => ?_) (fun ps z => by cases z) h1, KpN.dk k hn h2⟩, wf, lo, hi⟩
  rcases hn _ z with ⟨_, _, z⟩ | ⟨_, _, _, z, el⟩ | ⟨_, _, _, z⟩
  · rw [z] at h1; cases h1
  · rw [z] at h1
    have h3 := flds_size n D
    rw [← (HO.ins.inj (Option.some.inj h1)).2.2, el] at h3
    cases h3
  · rw [z] at h1; cases h1
theorem KpN.tups {ts : List Addr} {lg : List (Str × Str)} (h : Paired (fun t (p : Str × Str) => H t = some (.tup [.str p.1, .str p.2])) ts lg) : Paired (fun t (p : Str × Str) => H' t = some (.tup [.str p.1, .str p.2])) ts lg := h.map fun _ _ _ z => KpN.tup k hn z
theorem KpN.sess {C CM : Addr} {s : Addr} {n : Int} {lg : List (Str × Str)} {gs : List PF} {f : PF} (ne : s ∉ ss) (h : SessAt C CM H s n lg gs f) : SessAt C CM H' s n lg gs f := by
  obtain ⟨⟨dx, m, tl, te, ts, ms, h1, h2, h3, h4, h5, h6⟩, l, sm, ok⟩ := h
  exact ⟨⟨dx, m, tl, te, ts, ms, k _ _ ne (fun ps z => by cases z) h1, KpN.map k hn h2, KpN.tup k hn h3, KpN.tups k hn h4, KpN.tup k hn h5, PySem.Paired.map h6 fun v _ f ⟨a, ea, mm⟩ => ⟨a, ea, KpN.map k hn mm⟩⟩, l, sm, ok⟩
theorem KpN.mod {md : Addr} {n : Int} {lg : List (Str × Str)} {fs : List PF} (ne : md ∉ ss) (h : ModAt H md n lg fs) : ModAt H' md n lg fs := by
  obtain ⟨L, G, ds, us, h1, h2, h3, h4, h5⟩ := h.ob
  exact ⟨L, G, ds, us, k _ _ ne (fun ps z => by cases z) h1, KpN.refs k hn h2, PySem.Paired.map h3 fun _ _ _ ⟨l, e, d, w⟩ => ⟨l, KpN.dk k hn e, d, w⟩, KpN.refs k hn h4, KpN.tups k hn h5⟩
end
/-! ### two sessions, two models, one pool -/
structure Two (C CM : Addr) (Ts : List (Addr × Str)) (H0 H : Hp) (p : Addr) (s md : Bool → Addr) (A B : Addr) (n : Int) (N : Nat) (lg : Bool → List (Str × Str)) (gs : Bool → List PF) (f : Bool → PF) : Prop where
  po : PoolAt H p
  se : ∀ i, SessAt C CM H (s i) n (lg i) (gs i) (f i)
  mo : ∀ i, ModAt H (md i) n (lg i) (gs i ++ [f i])
  ta : Tabs Ts H
  ex : ExtN H0 H
  la : H A = some (.lst ([s false, s true].map V.ref))
  lb : H B = some (.lst ([md false, md true].map V.ref))
  sh : ∀ i, (lg i).length ≤ N
def setB {α : Type} (g : Bool → α) (i : Bool) (x : α) : Bool → α := fun j => if j = i then x else g j
theorem setB_same {α : Type} {g : Bool → α} {i : Bool} {x : α} : setB g i x i = x := if_pos rfl
theorem setB_ne {α : Type} {g : Bool → α} {i j : Bool} {x : α} (h : j ≠ i) : setB g i x j = g j := if_neg h
section
variable {C CM : Addr} {Ts : List (Addr × Str)} {H0 H H' : Hp} {p : Addr} {s md : Bool → Addr} {A B : Addr} {n : Int} {N : Nat} {lg : Bool → List (Str × Str)} {gs : Bool → List PF} {f : Bool → PF}
theorem Two.nps (z : Two C CM Ts H0 H p s md A B n N lg gs f) (i j : Bool) : p ≠ s i ∧ p ≠ md i ∧ s i ≠ md j := by
  obtain ⟨a, b, e1, _⟩ := z.po
  obtain ⟨dx, m, tl, te, ts, ms, e2, _⟩ := (z.se i).ob
  obtain ⟨L, G, ds, us, e3, _⟩ := (z.mo i).ob
  obtain ⟨L', G', ds', us', e4, _⟩ := (z.mo j).ob
  exact ⟨ne_of e1 e2 (by intro w; cases w), ne_of e1 e3 (by intro w; cases w), ne_of e2 e4 (by intro w; cases w)⟩
/-- a change of one side leaves the other -/
theorem Two.step (z : Two C CM Ts H0 H p s md A B n N lg gs f) (ds : s false ≠ s true) (dm : md false ≠ md true) (i : Bool) (k : KpN [p, s i, md i] H H') (old : ∀ b o, H0 b = some o → (∀ ps, o ≠ .tbl ps) → b ≠ p ∧ b ≠ s i ∧ b ≠ md i)
    (po : PoolAt H' p) {lg' : List (Str × Str)} {gs' : List PF} {f' : PF} (se : SessAt C CM H' (s i) n lg' gs' f') (mo : ModAt H' (md i) n lg' (gs' ++ [f'])) (ta : Tabs Ts H') (hl : lg'.length ≤ N + 1) :
    Two C CM Ts H0 H' p s md A B n (N + 1) (setB lg i lg') (setB gs i gs') (setB f i f') := by
  have hn : ∀ a ∈ [p, s i, md i], Sep H a := fun a ha => by
    simp only [List.mem_cons, List.not_mem_nil, or_false] at ha
    rcases ha with rfl | rfl | rfl
    · exact z.po.sep
    · exact (z.se i).sep
    · exact (z.mo i).sep
  have dsx : ∀ j, j ≠ i → s j ≠ s i := fun j h => by cases i <;> cases j <;> first | exact absurd rfl h | exact ds | exact ds.symm
  have dmx : ∀ j, j ≠ i → md j ≠ md i := fun j h => by cases i <;> cases j <;> first | exact absurd rfl h | exact dm | exact dm.symm
  refine ⟨po, fun j => ?_, fun j => ?_, ta, fun b o e hp => ?_, KpN.refs k hn z.la, KpN.refs k hn z.lb, fun j => ?_⟩
  · by_cases h : j = i
    · subst h
      rw [setB_same, setB_same, setB_same]
      exact se
    · rw [setB_ne h, setB_ne h, setB_ne h]
      refine KpN.sess k hn (fun m => ?_) (z.se j)
      simp only [List.mem_cons, List.not_mem_nil, or_false] at m
      rcases m with m | m | m
      · exact (z.nps j j).1 m.symm
      · exact dsx j h m
      · exact (z.nps j i).2.2 m
  · by_cases h : j = i
    · subst h
      rw [setB_same, setB_same, setB_same]
      exact mo
    · rw [setB_ne h, setB_ne h, setB_ne h]
      refine KpN.mod k hn (fun m => ?_) (z.mo j)
      simp only [List.mem_cons, List.not_mem_nil, or_false] at m
      rcases m with m | m | m
      · exact (z.nps j j).2.1 m.symm
      · exact (z.nps i j).2.2 m.symm
      · exact dmx j h m
  · obtain ⟨o1, o2, o3⟩ := old b o e hp
    exact k _ _ (by simp only [List.mem_cons, List.not_mem_nil, or_false]; rintro (h | h | h); exact o1 h; exact o2 h; exact o3 h) hp (z.ex _ _ e hp)
  · by_cases h : j = i
    · subst h
      rw [setB_same]
      exact hl
    · rw [setB_ne h]
      exact Nat.le_succ_of_le (z.sh j)
theorem Two.same (z : Two C CM Ts H0 H p s md A B n N lg gs f) (x : Same H H') : Two C CM Ts H0 H' p s md A B n N lg gs f :=
  ⟨z.po.same x, fun i => (z.se i).same x, fun i => (z.mo i).same x, z.ta.ext x, z.ex.trans (ExtN.of x), x _ _ z.la, x _ _ z.lb, z.sh⟩
theorem Two.draw (z : Two C CM Ts H0 H p s md A B n N lg gs f) (po : PoolAt H' p) (o : Off p H H') (old : ∀ b o, H0 b = some o → (∀ ps, o ≠ .tbl ps) → b ≠ p) : Two C CM Ts H0 H' p s md A B n N lg gs f :=
  ⟨po, fun i => z.po.sep.sess o (z.nps i i).1.symm (z.se i), fun i => z.po.sep.mod o (z.nps i i).2.1.symm (z.mo i), z.po.sep.tbs z.ta o, fun b u e hp => o _ _ (old b u e hp) (z.ex _ _ e hp), z.po.sep.refs o z.la, z.po.sep.refs o z.lb, z.sh⟩
end
end My
namespace My
open PySem L2 U StX PM LamX
section
variable {P : Program} {w : World} {K : PySem.W.Frag} {mg : Str → Option Value} {base : Heap}
def spLawT (K : PySem.W.Frag) {mg : Str → Option Value} (T : Txt K mg) : Sp := fun vs H Q _ => ∃ (a : Addr) (ns : List Int), vs = [.ref a] ∧ SqL K H a (ns.map V.int) ∧ ns.length ≤ 63 ∧ (∀ p ∈ [(T.c_l_undone, T.P_l_undone)], H p.2 = some (.tbl #[])) ∧ ∀ H', Q (.bl true) H'
theorem St3.tbs {T : List (Addr × Str)} {C CM : Addr} {H0 H' : Hp} {p s md : Addr} {n : Int} {lg lm lg' lm' : List (Str × Str)} {gs gs' fm fm' : List PF} {f f' : PF} (z0 : St3 C CM H0 H0 p s md n lg gs f lm fm) (z : St3 C CM H0 H' p s md n lg' gs' f' lm' fm') (h : Tabs T H0) : Tabs T H' := by
  have key : ∀ b o, H0 b = some o → ((∃ ps, o = .tbl ps) ∨ ∃ c q, o = CodeO c q) → H' b = some o := fun b o e ho => by
    have ne : ∀ a, Sep H0 a → b ≠ a := fun a sa w => by
      obtain ⟨u, eu, h1, h2⟩ := sa.ex
      rw [w, eu] at e
      rcases ho with ⟨ps, rfl⟩ | ⟨c, q, rfl⟩
      · exact h1 _ (Option.some.inj e)
      · exact h2 _ _ (Option.some.inj e)
    exact z.of b o (ne p z0.po.sep) (ne s z0.se.sep) (ne md z0.mo.sep) e
  intro q hq
  obtain ⟨ps, g1, g2, g3⟩ := h q hq
  refine ⟨ps, key _ _ g1 (.inl ⟨_, rfl⟩), g2, fun pos cv hc => ?_⟩
  obtain ⟨c, e1, e2⟩ := g3 pos cv hc
  exact ⟨c, e1, key _ _ e2 (.inr ⟨_, _, rfl⟩)⟩
theorem ok_law (hP : U.SupP P "/claim/cut.py") (T : Txt K mg) (tb : ∀ p ∈ [(T.c_l_undone, T.P_l_undone)], TabB base mg p.1 p.2) : FnG P w K mg base CX0 90 T.f_law (spLawT K T) := by
  have tb0 := tb _ (List.Mem.head _)
  refine T.A_law.okG sc_law (fun vs H Q E h => ?_) (fun cdv A outer s0 H vs Q E gd hr h => ?_)
  · obtain ⟨a, ns, rfl, _⟩ := h
    rfl
  · obtain ⟨a, ns, rfl, hS, hl, hT, q⟩ := h
    have hu := hu_of hr
    have t0 : Tabs (lamTs T) H := by
      intro p hp
      unfold lamTs at hp
      simp only [List.mem_cons, List.not_mem_nil, or_false] at hp
      subst hp
      exact TabS.nil (hT _ (List.Mem.head _))
    refine ⟨_, (pss_cons (ps_if (PW.pt (pw_or (pt_not (pt_val (pe_call0R (ok_l_unlike hP T) (hr.mono (by decide)) T.A_l_unlike.kp rfl T.g_l_unlike pass0))) (pw_or1 (pt_not (pt_val (pe_call0G (ok_l_keeping hP T) gd (hr.mono (by decide)) T.A_l_keeping.kp rfl T.g_l_keeping pass0))))))
        (pss_one (ps_ret pe_bl)) pss_nil)
      (pss_cons (ps_for PassesOwn.never rfl (pi_range1 rfl T.n_range (pa_cons (pe_callB (call_max2 rfl) (by rfl) T.n_max (by decide +kernel) (pa_cons pe_int (pa_cons (pe_callB (call_min2 rfl) (by rfl) T.n_min (by decide +kernel) (pa_cons (pe_callB call_len_seq (by rfl) T.n_len (by decide +kernel) (pa_cons (pv 0) pa_nil)) (pa_cons pe_int pa_nil))) pa_nil))) pa_nil)) (pg_name (i := 1) sc_law.nd rfl (Or.inl rfl))
        (pss_cons (ps_set (i := 2) sc_law.nd rfl (Or.inl rfl) (pe_callR (ok_hand T) (hr.mono (by decide)) T.A_l_hand.kp rfl T.g_l_hand pass0 (pa_cons (pv 0) (pa_cons (pv 1) pa_nil))))
      (pss_cons (ps_set (i := 3) sc_law.nd rfl (Or.inl rfl) (pe_op op_add pe_int (pe_callR (ok_draw T) (hr.mono (by decide)) T.A_l_draw.kp rfl T.g_l_draw pass0 (pa_cons (pv 2) (pa_cons pe_int pa_nil)))))
      (pss_cons (ps_par (i := 4) (j := 5) rfl sc_law.nd rfl rfl (by decide) rfl rfl (pa_cons (pe_makeR T.M_Session (ok_s_init T) (hr.mono (by decide)) rfl T.g_Session pass0 (pa_cons (pv 3) pa_nil)) (pa_cons (pe_callR (ok_l_model T) (hr.mono (by decide)) T.A_l_model.kp rfl T.g_l_model pass0 (pa_cons (pv 3) pa_nil)) pa_nil)) (by rfl))
      (pss_cons (ps_for PassesOwn.never rfl (pi_range1 rfl T.n_range (pa_cons pe_int pa_nil)) (pg_name (i := 6) sc_law.nd rfl (Or.inl rfl))
        (pss_one (ps_if (pt_not (pt_val (pe_callR (ok_l_act T) (hr.mono (by decide)) T.A_l_act.kp rfl T.g_l_act pass0 (pa_cons (pv 2) (pa_cons (pv 4) (pa_cons (pv 5) (pa_cons (pe_callR (ok_l_user T) (hr.mono (by decide)) T.A_l_user.kp rfl T.g_l_user pass0 (pa_cons (pv 2) pa_nil)) pa_nil)))))))
        (pss_one (ps_ret pe_bl)) pss_nil)))
      (pss_cons (ps_par (i := 7) (j := 8) rfl sc_law.nd rfl rfl (by decide) rfl rfl (pa_cons (pe_lst (pa_cons (pv 4) (pa_cons (pe_meth0R (pv 4) (sc_sess T).o.cl T.meth_Session_clone (okx_clone T (ex := none) (sc_sess T) T.meth_Session_fresh ((ok_fresh T).mono (by decide))) (hr.mono (by decide)) pass0) pa_nil))) (pa_cons (pe_lst (pa_cons (pv 5) (pa_cons (pe_callTy call_dictD (by rfl) T.n_dict (by decide +kernel) (pa_cons (pv 5) pa_nil)) pa_nil))) pa_nil)) (by rfl))
      (pss_one (ps_for PassesOwn.never rfl (pi_range1 rfl T.n_range (pa_cons pe_int pa_nil)) (pg_name (i := 6) sc_law.nd rfl (Or.inl rfl))
        (pss_cons (ps_par (i := 9) (j := 10) rfl sc_law.nd rfl rfl (by decide) rfl rfl (pa_cons (pe_callR (ok_draw T) (hr.mono (by decide)) T.A_l_draw.kp rfl T.g_l_draw pass0 (pa_cons (pv 2) (pa_cons pe_int pa_nil))) (pa_cons (pe_callR (ok_l_user T) (hr.mono (by decide)) T.A_l_user.kp rfl T.g_l_user pass0 (pa_cons (pv 2) pa_nil)) pa_nil)) (by rfl))
      (pss_cons (ps_if (pt_cmpR op_eq (pe_callR (ok_draw T) (hr.mono (by decide)) T.A_l_draw.kp rfl T.g_l_draw pass0 (pa_cons (pv 2) (pa_cons pe_int pa_nil))) pe_int (nomark _))
        (pss_one (ps_if (pt_not (pt_val (pe_callG (ok_l_undone T tb0) gd (hr.mono (by decide)) T.K_l_undone rfl T.g_l_undone pass0 (pa_cons (pe_ix ix_list (pv 7) (pv 9) (fun _ _ => rfl)) (pa_cons (pe_ix ix_list (pv 8) (pv 9) (fun _ _ => rfl)) (pa_cons (pv 10) pa_nil))))))
        (pss_one (ps_ret pe_bl)) pss_nil)) (pss_one (ps_if (pt_not (pt_val (pe_callR (ok_l_act T) (hr.mono (by decide)) T.A_l_act.kp rfl T.g_l_act pass0 (pa_cons (pv 2) (pa_cons (pe_ix ix_list (pv 7) (pv 9) (fun _ _ => rfl)) (pa_cons (pe_ix ix_list (pv 8) (pv 9) (fun _ _ => rfl)) (pa_cons (pv 10) pa_nil)))))))
        (pss_one (ps_ret pe_bl)) pss_nil)))
      (pss_cons (ps_if (PW.pt (pw_or (pt_not (pt_val (pe_callR (ok_l_shows T) (hr.mono (by decide)) T.A_l_shows.kp rfl T.g_l_shows pass0 (pa_cons (pe_ix ix_list (pv 7) pe_int (fun _ _ => rfl)) (pa_cons (pe_ix ix_list (pv 8) pe_int (fun _ _ => rfl)) pa_nil))))) (pw_or1 (pt_not (pt_val (pe_callR (ok_l_shows T) (hr.mono (by decide)) T.A_l_shows.kp rfl T.g_l_shows pass0 (pa_cons (pe_ix ix_list (pv 7) pe_int (fun _ _ => rfl)) (pa_cons (pe_ix ix_list (pv 8) pe_int (fun _ _ => rfl)) pa_nil))))))))
        (pss_one (ps_ret pe_bl)) pss_nil)
      (pss_cons (ps_if (PW.pt (pw_or (pt_cmpR op_ne (pe_cmpR (op_eqV T.m_Session__eq T.i_Session__eq (ok_s_eq T) (hr.mono (by decide)) pass0) (pe_ix ix_list (pv 7) pe_int (fun _ _ => rfl)) (pe_ix ix_list (pv 7) pe_int (fun _ _ => rfl)) (nomark _)) (pe_callR (ok_l_same T) (hr.mono (by decide)) T.A_l_same.kp rfl T.g_l_same pass0 (pa_cons (pe_ix ix_list (pv 8) pe_int (fun _ _ => rfl)) (pa_cons (pe_ix ix_list (pv 8) pe_int (fun _ _ => rfl)) pa_nil))) (nomark _)) (pw_or1 (pt_cmpR (op_eqV T.m_Session__eq T.i_Session__eq (ok_s_eq T) (hr.mono (by decide)) pass0) (pe_ix ix_list (pv 7) pe_int (fun _ _ => rfl)) (pe_dget hu (pe_ix ix_list (pv 8) pe_int (fun _ _ => rfl)) pe_str (fun _ _ => rfl)) (nomark _)))))
        (pss_one (ps_ret pe_bl)) pss_nil)
      (pss_cons (ps_set (i := 11) sc_law.nd rfl (Or.inl rfl) (pe_op op_add_str (pe_op op_add_str (pe_op op_add_str (pe_op op_add_str pe_str (pe_callB (call_reprO gd T.m_Map__repr T.i_Map__repr (ok_repr T) (hr.mono (by decide)) pass0) (by rfl) T.n_repr (by decide +kernel) (pa_cons (pe_propR (pe_ix ix_list (pv 7) (pv 9) (fun _ _ => rfl)) T.o_Session.cl T.P_Session_present (ok_present T) (hr.mono (by decide))) pa_nil))) pe_str) (pe_callTy call_str_int (by rfl) T.n_str (by decide +kernel) (pa_cons (pe_callB (call_lenO T.m_Session__len T.i_Session__len (ok_s_len T) (hr.mono (by decide)) pass0) (by rfl) T.n_len (by decide +kernel) (pa_cons (pe_ix ix_list (pv 7) (pv 9) (fun _ _ => rfl)) pa_nil)) pa_nil))) pe_str))
      (pss_one (ps_if (pt_cmpR op_ne (pe_callB (call_reprO gd T.m_Session__repr T.i_Session__repr (ok_s_repr T) (hr.mono (by decide)) pass0) (by rfl) T.n_repr (by decide +kernel) (pa_cons (pe_ix ix_list (pv 7) (pv 9) (fun _ _ => rfl)) pa_nil)) (pv 11) (nomark _))
        (pss_one (ps_ret pe_bl)) pss_nil)))))))))))))))
      (pss_one (ps_ret pe_bl)))), ?_⟩
    refine ⟨rfl, fun Hp1 sp1 => ⟨_, rfl, iteF ⟨rfl, fun Hp2 sp2 => ⟨_, rfl, iteF ?_⟩⟩⟩⟩
    have sp := sp1.trans sp2
    refine ⟨_, rfl, a, _, rfl, .inl (SqL.same hS sp), _, _, rfl, _, _, rfl, _, rfl, ?_, ?_, ?_⟩
    · rw [List.length_map]; (repeat' split) <;> omega
    · rw [List.length_map]; (repeat' split) <;> omega
    refine for_it (walk_range (lo := 0)) (fun i σ H' => ∃ v1 v2 v3 v4 v5 v6 v7 v8 v9 v10 v11, σ = [some (.ref a), v1, v2, v3, v4, v5, v6, v7, v8, v9, v10, v11] ∧ ExtN H H' ∧ Tabs (lamTs T) H')
      ⟨_, _, _, _, _, _, _, _, _, _, _, rfl, ExtN.of sp, t0.ext sp⟩ (fun _ _ _ _ _ => trivial) ?_ ?_
    · rintro k v σ H' H1 hk ⟨v1, v2, v3, v4, v5, v6, v7, v8, v9, v10, v11, rfl, x1, t1⟩ ⟨rfl, rfl⟩
      refine ⟨_, rfl, _, rfl, a, ns, _, rfl, SqL.extN hS x1, hl, fun p H2 x y np hp s2 hx hy hy2 => ?_⟩
      have pool2 : PoolAt H2 p := ⟨x, y, hp, hx, hy, hy2⟩
      refine draw_R rfl (fun R r => r) pool2 (by decide) (by decide) fun r H3 r0 r1 pool3 off3 => ⟨_, _, rfl, rfl, ?_⟩
      have n1 : 1 ≤ 1 + r := by omega
      have n6 : 1 + r ≤ 6 := by omega
      have n2 : 1 + r ≤ 300 := by omega
      obtain ⟨n, en⟩ : ∃ n, n = 1 + r := ⟨_, rfl⟩
      dsimp only [gName]
      rw [← en] at n1 n6 n2 ⊢
      clear en r0 r1
      have old_p : ∀ b o, H b = some o → (∀ ps, o ≠ .tbl ps) → b ≠ p := fun b o e hp' z => by
        have := x1 _ _ e hp'
        rw [z, np] at this
        cases this
      have x3 : ExtN H H3 := fun b o e hp' => off3 _ _ (old_p b o e hp') (s2 _ _ (x1 _ _ e hp'))
      have t3 : Tabs (lamTs T) H3 := pool2.sep.tbs (t1.ext s2) off3
      refine ⟨_, rfl, fun s dx ns ndx nesd => ⟨s, dx, n, rfl, upd_same, n1, n2, fun H4 o4 se4 => ⟨rfl, ?_⟩⟩⟩
      have s4 : Same H3 H4 := mk_same ns ndx o4
      refine ⟨_, rfl, n, rfl, n1, n2, fun md H5 s5 nmd mo5 => ⟨_, _, rfl, ?_⟩⟩
      have s35 := s4.trans s5
      have old_s : ∀ b o, H b = some o → (∀ ps, o ≠ .tbl ps) → b ≠ s := fun b o e hp' => ne_of_none (x3 _ _ e hp') ns
      have old_m : ∀ b o, H b = some o → (∀ ps, o ≠ .tbl ps) → b ≠ md := fun b o e hp' => ne_of_none (s4 _ _ (x3 _ _ e hp')) nmd
      have se5 := se4.same s5
      have pool5 := pool3.same s35
      have x5 : ExtN H H5 := x3.trans (ExtN.of s35)
      have t5 := t3.ext s35
      clear pool2 pool3 off3 se4 x3 t3 hp s2
      refine ⟨10, rfl, by decide, by decide, ?_⟩
      refine for_it (walk_range (lo := 0)) (fun i σ H' => ∃ lg gs f v6 v7 v8 v9 v10 v11, σ = [some (.ref a), some (.int (0 + (k : Nat))), some (.ref p), some (.int n), some (.ref s), some (.ref md), v6, v7, v8, v9, v10, v11] ∧ PoolAt H' p ∧ SessAt T.C_Session T.C_Map H' s n lg gs f ∧ ModAt H' md n lg (gs ++ [f]) ∧ Tabs (lamTs T) H' ∧ ExtN H H' ∧ lg.length ≤ i)
        ⟨[], [], idn n, _, _, _, _, _, _, rfl, pool5, se5, mo5, t5, x5, Nat.le_refl _⟩ (fun _ _ _ _ _ => trivial) ?_ ?_
      · rintro i v σ Ha0 Ha hi ⟨lg, gs, f, w6, w7, w8, w9, w10, w11, rfl, po, se, mo, ta, xa, hli⟩ ⟨rfl, rfl⟩
        have hi10 : i < 10 := hi
        refine ⟨_, rfl, _, rfl, _, rfl, _, rfl, p, rfl, po, fun u Hc poC oC hn hok hu8 => ?_⟩
        have spB := po.sep
        obtain ⟨nsp, nmp⟩ : s ≠ p ∧ md ≠ p := by
          obtain ⟨aa, bb, e1, _⟩ := po
          obtain ⟨dxs, m, tl, te, ts0, ms, h1, _⟩ := id se.ob
          obtain ⟨L, G, ds, us, e3, _⟩ := mo.ob
          exact ⟨ne_of h1 e1 (by intro w; cases w), ne_of e3 e1 (by intro w; cases w)⟩
        have z0 : St3 T.C_Session T.C_Map Hc Hc p s md n lg gs f lg (gs ++ [f]) := ⟨poC, spB.sess oC nsp se, spB.mod oC nmp mo, fun b o _ _ _ e => e⟩
        refine ⟨p, s, md, u, n, lg, gs, f, rfl, z0, hn, hok, by omega, n1, n6, fun w9 f' He hw9 zE hnew => ⟨_, rfl, iteF ?_⟩⟩
        exact ⟨_, _, f', _, _, _, _, _, _, rfl, zE.po, zE.se, zE.mo, z0.tbs zE (spB.tbs ta oC), fun b o e hp' => zE.of _ _ (old_p b o e hp') (old_s b o e hp') (old_m b o e hp') (oC _ _ (old_p b o e hp') (xa _ _ e hp')), by simp; omega⟩
      · rintro σ H6 ⟨lg, gs, f, w6, w7, w8, w9, w10, w11, rfl, po, se, mo, ta, xa, hli⟩
        obtain ⟨dxs, m0, tl0, te0, ts0, ms0, h1, _⟩ := id se.ob
        have se' : SessX none T.C_Session T.C_Map H6 s n lg gs f := se.toX
        refine ⟨_, rfl, _, rfl, s, _, _, rfl, h1, rfl, s, n, lg, gs, f, rfl, se', trivial, fun c H7 nc s7 sc7 => ⟨two_le, ?_⟩⟩
        refine fun A n_A => ?_
        generalize g_A : L2.upd _ A _ = H8
        obtain ⟨s_H8, e_A⟩ := U.upd_facts g_A n_A
        clear g_A
        obtain ⟨L, G, ds, us, g1, g2, g3, g4, g5⟩ := id mo.ob
        have g8 := s_H8 _ _ (s7 _ _ g1)
        refine ⟨_, rfl, _, rfl, md, _, rfl, .inl g8, ?_⟩
        refine fun me n_me => ?_
        generalize g_me : L2.upd _ me _ = H9
        obtain ⟨s_H9, e_me⟩ := U.upd_facts g_me n_me
        clear g_me
        refine ⟨two_le, ?_⟩
        refine fun B n_B => ?_
        generalize g_B : L2.upd _ B _ = Hb
        obtain ⟨s_Hb, e_B⟩ := U.upd_facts g_B n_B
        clear g_B
        have s69 := (s7.trans s_H8).trans s_H9
        have s6b := s69.trans s_Hb
        have s79 := (s_H8.trans s_H9).trans s_Hb
        refine ⟨_, _, rfl, ?_⟩
        have hsc : s ≠ c := ne_of_none h1 nc
        have hmm : md ≠ me := ne_of_none g8 n_me
        have mo9 : ModAt Hb me n lg (gs ++ [f]) := ⟨L, G, ds, us, s_Hb _ _ e_me, s6b _ _ g2, g3.same s6b, s6b _ _ g4, g5.map fun _ _ _ z => s6b _ _ z⟩
        obtain ⟨sB, eS0, eS1⟩ : ∃ sB : Bool → Addr, sB false = s ∧ sB true = c := ⟨fun b => bif b then c else s, rfl, rfl⟩
        obtain ⟨mB, eM0, eM1⟩ : ∃ mB : Bool → Addr, mB false = md ∧ mB true = me := ⟨fun b => bif b then me else md, rfl, rfl⟩
        have z0 : Two T.C_Session T.C_Map (lamTs T) H Hb p sB mB A B n 10 (fun _ => lg) (fun _ => gs) (fun _ => f) := by
          refine ⟨po.same s6b, fun i => ?_, fun i => ?_, ta.ext s6b, xa.trans (ExtN.of s6b), ?_, ?_, fun _ => hli⟩
          · cases i
            · rw [eS0]; exact se.same s6b
            · rw [eS1]; exact (sc7.same s79).toAt
          · cases i
            · rw [eM0]; exact mo.same s6b
            · rw [eM1]; exact mo9
          · rw [eS0, eS1]; exact s_Hb _ _ (s_H9 _ _ e_A)
          · rw [eM0, eM1]; exact e_B
        have dS : sB false ≠ sB true := by rw [eS0, eS1]; exact hsc
        have dM : mB false ≠ mB true := by rw [eM0, eM1]; exact hmm
        have oldS : ∀ i b o, H b = some o → (∀ ps, o ≠ .tbl ps) → b ≠ sB i := fun i b o e hp' => by
          cases i
          · rw [eS0]; exact old_s b o e hp'
          · rw [eS1]; exact ne_of_none (xa _ _ e hp') nc
        have oldM : ∀ i b o, H b = some o → (∀ ps, o ≠ .tbl ps) → b ≠ mB i := fun i b o e hp' => by
          cases i
          · rw [eM0]; exact old_m b o e hp'
          · rw [eM1]; exact ne_of_none (s_H8 _ _ (s7 _ _ (xa _ _ e hp'))) n_me
        clear eS0 eS1 eM0 eM1 hsc hmm mo9 g1 g2 g3 g4 g5 g8 h1 se' sc7 po se mo ta xa
        refine ⟨10, rfl, by decide, by decide, ?_⟩
        refine for_it (walk_range (lo := 0)) (fun i σ H' => ∃ lg gs f v6 v9 v10 v11, σ = [some (.ref a), some (.int (0 + (k : Nat))), some (.ref p), some (.int n), some (.ref s), some (.ref md), v6, some (.ref A), some (.ref B), v9, v10, v11] ∧ Two T.C_Session T.C_Map (lamTs T) H H' p sB mB A B n (10 + i) lg gs f)
          ⟨_, _, _, _, _, _, _, rfl, z0⟩ (fun _ _ _ _ _ => trivial) ?_ ?_
        · rintro i v σ Ha0 Ha hi ⟨lg, gs, f, w6, w9, w10, w11, rfl, z⟩ ⟨rfl, rfl⟩
          have hi10 : i < 10 := hi
          refine draw_R rfl (fun R r => r) z.po (by decide) (by decide) fun r Hc r0 r1 poc oc => ?_
          have zc := z.draw poc oc old_p
          refine ⟨_, rfl, p, rfl, zc.po, fun u Hd poD oD hn hok hu8 => ⟨_, _, rfl, ?_⟩⟩
          have zd := zc.draw poD oD old_p
          obtain ⟨ib, eib⟩ : ∃ ib : Bool, r = if ib then 1 else 0 := by
            have : r = 0 ∨ r = 1 := by omega
            rcases this with h | h
            · exact ⟨false, h⟩
            · exact ⟨true, h⟩
          have atS : ([sB false, sB true].map V.ref)[(if ib then 1 else 0 : Nat)]? = some (.ref (sB ib)) := by cases ib <;> rfl
          have atM : ([mB false, mB true].map V.ref)[(if ib then 1 else 0 : Nat)]? = some (.ref (mB ib)) := by cases ib <;> rfl
          have er : (((if ib then 1 else 0 : Nat)) : Int) = r := by rw [eib]; cases ib <;> rfl
          have aS := atI_nat atS
          have aM := atI_nat atM
          rw [er] at aS aM
          clear atS atM er eib
          refine nx_cut (fun σ H' => ∃ lg gs f, σ = [some (.ref a), some (.int (0 + (k : Nat))), some (.ref p), some (.int n), some (.ref s), some (.ref md), some (.int (0 + (i : Nat))), some (.ref A), some (.ref B), some (.int r), some (.str u), w11] ∧ Two T.C_Session T.C_Map (lamTs T) H H' p sB mB A B n (10 + i + 1) lg gs f) (fun nx fin => ?_) ?_
          · refine draw_R rfl (fun R r => r) zd.po (by decide) (by decide) fun r8 He r80 r81 poE oE => ⟨rfl, _, rfl, ?_⟩
            have ze := zd.draw poE oE old_p
            have hsh := ze.sh ib
            refine ifD (fun h8 => ?_) (fun h8 => ?_)
            · refine ⟨_, rfl, _, rfl, A, _, r, .ref (sB ib), rfl, rfl, SqL.of ze.la, aS, _, rfl, _, rfl, B, _, r, .ref (mB ib), rfl, rfl, SqL.of ze.lb, aM, _, rfl, sB ib, mB ib, u, n, lg ib, gs ib, f ib, rfl, ze.se ib, ze.mo ib, hn, hok, n1, n2, ze.ta, fun lg' gs' f' Hf seF moF taF oF hle hsub hnew => ⟨_, rfl, iteF ?_⟩⟩
              have poF : PoolAt Hf p := by
                obtain ⟨aa, bb, e1, e2⟩ := ze.po
                exact ⟨aa, bb, oF _ _ (ze.nps ib ib).1 (ze.nps ib ib).2.1 (by intro ps z; cases z) e1, e2⟩
              exact fin _ _ ⟨_, _, _, rfl, ze.step dS dM ib (fun b o hb ht e => oF b o (fun h => hb (by simp [h])) (fun h => hb (by simp [h])) ht e) (fun b o e ht => ⟨old_p b o e ht, oldS ib b o e ht, oldM ib b o e ht⟩) poF seF moF taF (by omega)⟩
            · have z0 : St3 T.C_Session T.C_Map He He p (sB ib) (mB ib) n (lg ib) (gs ib) (f ib) (lg ib) (gs ib ++ [f ib]) := ⟨ze.po, ze.se ib, ze.mo ib, fun b o _ _ _ e => e⟩
              refine ⟨_, rfl, _, rfl, _, rfl, A, _, r, .ref (sB ib), rfl, rfl, SqL.of ze.la, aS, _, rfl, _, rfl, B, _, r, .ref (mB ib), rfl, rfl, SqL.of ze.lb, aM, _, rfl, p, sB ib, mB ib, u, n, lg ib, gs ib, f ib, rfl, z0, hn, hok, by omega, n1, n6, fun w9 f' Hf hw9 zE hnew => ⟨_, rfl, iteF ?_⟩⟩
              exact fin _ _ ⟨_, _, _, rfl, ze.step dS dM ib (fun b o hb ht e => zE.of b o (fun h => hb (by simp [h])) (fun h => hb (by simp [h])) (fun h => hb (by simp [h])) e) (fun b o e ht => ⟨old_p b o e ht, oldS ib b o e ht, oldM ib b o e ht⟩) zE.po zE.se zE.mo (z0.tbs zE ze.ta) (by simp; omega)⟩
          clear zd zc z lg gs f
          rintro _ Hg ⟨lg, gs, f, rfl, zg⟩
          refine ⟨_, rfl, A, _, 0, .ref (sB false), rfl, rfl, SqL.of zg.la, atI_nat (j := 0) rfl, _, rfl, B, _, 0, .ref (mB false), rfl, rfl, SqL.of zg.lb, atI_nat (j := 0) rfl, sB false, mB false, n, lg false, gs false, f false, rfl, zg.se false, zg.mo false, n1, n2, fun Hh sh => ⟨_, rfl, iteF ?_⟩⟩
          have zh := zg.same sh
          refine ⟨_, rfl, A, _, 1, .ref (sB true), rfl, rfl, SqL.of zh.la, atI_nat (j := 1) rfl, _, rfl, B, _, 1, .ref (mB true), rfl, rfl, SqL.of zh.lb, atI_nat (j := 1) rfl, sB true, mB true, n, lg true, gs true, f true, rfl, zh.se true, zh.mo true, n1, n2, fun Hi si => ⟨_, rfl, iteF ?_⟩⟩
          have zi := zh.same si
          clear zg zh
          obtain ⟨_, _, _, _, e0⟩ := (zi.se false).toX.at_
          obtain ⟨_, _, _, _, e1⟩ := (zi.se true).toX.at_
          refine ⟨_, rfl, A, _, 0, .ref (sB false), rfl, rfl, SqL.of zi.la, atI_nat (j := 0) rfl, _, rfl, A, _, 1, .ref (sB true), rfl, rfl, SqL.of zi.la, atI_nat (j := 1) rfl, sB false, _, _, _, rfl, e0, tyx_ins T.o_Session e1, notFirst_self _ _, sB false, T.C_Session, none, n, lg false, gs false, f false, _, rfl, .inl rfl, (zi.se false).toX, .inl ⟨sB true, T.C_Session, none, n, lg true, gs true, f true, rfl, .inl rfl, (zi.se true).toX, fun Hj sj => ?_⟩⟩
          have zj := zi.same sj
          refine ⟨_, rfl, B, _, 0, .ref (mB false), rfl, rfl, SqL.of zj.lb, atI_nat (j := 0) rfl, _, rfl, B, _, 1, .ref (mB true), rfl, rfl, SqL.of zj.lb, atI_nat (j := 1) rfl, mB false, mB true, n, lg false, lg true, _, _, rfl, zj.mo false, zj.mo true, (zj.se false).ok, (zj.se true).ok, fun Hk sk => ⟨rfl, _, rfl, ?_⟩⟩
          rw [decide_eq_true rfl]
          refine iteF ?_
          have zk := zj.same sk
          clear zi zj
          obtain ⟨L, G, ds, us, g1, g2, g3, g4, g5⟩ := (zk.mo false).ob
          obtain ⟨_, _, _, _, e0'⟩ := (zk.se false).toX.at_
          refine ⟨_, rfl, A, _, 0, .ref (sB false), rfl, rfl, SqL.of zk.la, atI_nat (j := 0) rfl, _, rfl, B, _, 0, .ref (mB false), rfl, rfl, SqL.of zk.lb, atI_nat (j := 0) rfl, mB false, .ref G, rfl, mdl_log g1, sB false, _, _, _, rfl, e0', .base (.lst g4), T.nf_list_Session, sB false, T.C_Session, none, n, lg false, gs false, f false, _, rfl, .inl rfl, (zk.se false).toX, .inr ⟨.inl ⟨G, _, rfl, g4⟩, fun Hl sl => ⟨_, rfl, iteF ?_⟩⟩⟩
          have zl := zk.same sl
          clear zk
          have big : 50000 ≤ sizeLine := by decide
          have hn : small (((lg ib).length : Nat) : Int) := by have := zl.sh ib; unfold small; omega
          have l1 := small_len hn
          have k8 : (Str.ofString "Session(").length = 8 := rfl
          have k2 : (Str.ofString ", ").length = 2 := rfl
          have k1 : (Str.ofString ")").length = 1 := rfl
          obtain ⟨_, _, _, _, eb⟩ := (zl.se ib).toX.at_
          refine ⟨_, rfl, _, rfl, A, _, r, .ref (sB ib), rfl, rfl, SqL.of zl.la, aS, sB ib, _, _, rfl, eb, sB ib, n, lg ib, gs ib, f ib, rfl, zl.se ib, fun m hm => ?_⟩
          obtain ⟨dm, fm, em⟩ := at_map hm
          refine ⟨m, dm, fm, rfl, em, m, n, _, rfl, hm, fun hlen => ⟨_, rfl, _, _, rfl, rfl, by omega, _, _, rfl, rfl, by rw [strLen_append]; omega, ?_⟩⟩
          have a2 : (Str.ofString "Session(" ++ reprM n (tab n (f ib))).length = 8 + (reprM n (tab n (f ib))).length := by rw [strLen_append, k8]
          have a3 : (Str.ofString "Session(" ++ reprM n (tab n (f ib)) ++ Str.ofString ", ").length = 8 + (reprM n (tab n (f ib))).length + 2 := by rw [strLen_append, a2, k2]
          have a4 : (Str.ofString "Session(" ++ reprM n (tab n (f ib)) ++ Str.ofString ", " ++ Str.ofString (toString (((lg ib).length : Nat) : Int))).length = 8 + (reprM n (tab n (f ib))).length + 2 + (Str.ofString (toString (((lg ib).length : Nat) : Int))).length := by rw [strLen_append, a3]
          have hsm := zl.sh ib
          refine ⟨_, rfl, _, rfl, A, _, r, .ref (sB ib), rfl, rfl, SqL.of zl.la, aS, sB ib, _, _, rfl, eb, sB ib, n, lg ib, gs ib, f ib, rfl, zl.se ib, _, rfl, by omega, by omega, _, rfl, small_log hn, _, _, rfl, rfl, by rw [a3]; omega, _, _, rfl, rfl, by rw [a4]; omega, ?_⟩
          refine ⟨_, rfl, _, rfl, A, _, r, .ref (sB ib), rfl, rfl, SqL.of zl.la, aS, sB ib, _, _, rfl, eb, sB ib, n, lg ib, gs ib, f ib, rfl, (zl.se ib).toX, _, rfl, _, rfl, rfl, _, rfl, ?_⟩
          rw [decide_eq_true (congrArg V.str (show reprS n (f ib) (lg ib).length = Str.ofString "Session(" ++ reprM n (tab n (f ib)) ++ Str.ofString ", " ++ Str.ofString (toString (((lg ib).length : Nat) : Int)) ++ Str.ofString ")" from by
            unfold reprS
            rw [show Str.empty ++ Str.ofString "Session(" = Str.ofString "Session(" from by decide +kernel]))]
          exact iteF ⟨_, _, _, _, _, _, _, rfl, zl⟩
        · rintro σ Ha ⟨lg, gs, f, w6, w9, w10, w11, rfl, z⟩
          exact ⟨_, _, _, _, _, _, _, _, _, _, _, rfl, z.ex, z.ta⟩
    · rintro σ H' ⟨v1, v2, v3, v4, v5, v6, v7, v8, v9, v10, v11, rfl, x1, t1⟩
      exact q H'
end
end My
theorem My.use_txt {K : PySem.W.Frag} {h : PySem.Heap} {mg : PySem.Str → Option PySem.Value} {G : Prop} (_ : K.In h) (TT : Nonempty (My.Txt K mg)) (k : My.Txt K mg → G) : G := by
  obtain ⟨T⟩ := TT
  exact k T
local macro_rules | `(tactic| o_headL ($h:ident $K $as $e)) => `(tactic| o_headL ((PySem.W.kHook (My.withTabs $K [828]) ($as ++ [828]) (fun _ => by kernel_rfl))))
local macro_rules | `(tactic| first | refine $t:term | fail $s:str) => do { let t2 ← t.raw.replaceM fun n => (do { if n.getKind == `Lean.Parser.Term.syntheticHole then { let nm := n[1].getId.eraseMacroScopes; if nm == `hl then { return some (Lean.mkIdent `My.hl) } else { return none } } else { return none } }); `(tactic| refine $(⟨t2⟩)) }
open PySem PySem.W PyProof.Rows
set_option maxRecDepth 100000 in
set_option maxHeartbeats 0 in
theorem PySem.Challenge.cw_chainmaps_k72_clones_and_equal_sessions_holds : PySem.Challenge.rw_chainmaps_k72_clones_and_equal_sessions.Holds := by
  w_on; o_law; k_headL; (case hw => w_witness2)
  k_fill
  refine U.walkT (l := PySem.Challenge.rw_chainmaps_k72_clones_and_equal_sessions) (n := 63) (k := 90) rfl (by decide) rfl ⟨rfl, by decide, by decide⟩ ?F
  case F =>
    intro w mg fa h Y G hmg
    have KX := My.in_left Y
    have TX := My.in_right Y (by kernel_rfl)
    refine My.use_txt (mg := mg) KX ?TT (fun T => ?rest)
    case TT =>
      refine' My.mk_txt KX G ?a_is_integer ?l_is_integer ?c_is_integer ?k_is_integer ?a_in_range ?l_in_range ?c_in_range ?k_in_range ?a_check_size ?l_check_size ?c_check_size ?k_check_size ?a_check_elements ?l_check_elements ?c_check_elements ?k_check_elements ?a_are_arrows ?l_are_arrows ?c_are_arrows ?k_are_arrows ?a_common_size ?l_common_size ?c_common_size ?k_common_size ?a_row_from ?l_row_from ?c_row_from ?k_row_from ?a_moved ?l_moved ?c_moved ?k_moved ?a_check_map ?l_check_map ?c_check_map ?k_check_map ?a_check_maps ?l_check_maps ?c_check_maps ?k_check_maps ?a_is_step ?l_is_step ?c_is_step ?k_is_step ?a_first_invalid ?l_first_invalid ?c_first_invalid ?k_first_invalid ?a_after_list ?l_after_list ?c_after_list ?k_after_list ?a_is_name ?l_is_name ?c_is_name ?k_is_name ?a_check_user ?l_check_user ?c_check_user ?k_check_user ?a_l_hand ?l_l_hand ?c_l_hand ?k_l_hand ?a_l_draw ?l_l_draw ?c_l_draw ?k_l_draw ?a_l_arrows ?l_l_arrows ?c_l_arrows ?k_l_arrows ?a_l_product ?l_l_product ?c_l_product ?k_l_product ?a_l_full ?l_l_full ?c_l_full ?k_l_full ?a_l_inverse ?l_l_inverse ?c_l_inverse ?k_l_inverse ?a_l_power ?l_l_power ?c_l_power ?k_l_power ?a_l_step ?l_l_step ?c_l_step ?k_l_step ?a_l_stepped ?l_l_stepped ?c_l_stepped ?k_l_stepped ?a_l_caught ?l_l_caught ?c_l_caught ?k_l_caught ?a_l_act ?l_l_act ?c_l_act ?k_l_act ?a_l_undone ?l_l_undone ?cd_l_undone ?k_l_undone ?tm_l_undone ?hd_l_undone ?nt_l_undone ?a_l_shows ?l_l_shows ?c_l_shows ?k_l_shows ?a_l_model ?l_l_model ?c_l_model ?k_l_model ?a_l_user ?l_l_user ?c_l_user ?k_l_user ?a_l_same ?l_l_same ?c_l_same ?k_l_same ?a_l_unlike ?l_l_unlike ?c_l_unlike ?k_l_unlike ?a_l_keeping ?l_l_keeping ?c_l_keeping ?k_l_keeping ?a_law ?l_law ?c_law ?k_law ?a_Map ?pg_Map ?hd_Map ?po_Map ?sa_Map ?sf_Map ?ca_Map ?cn_Map ?ct_Map ?cm_Map ?kc_Map ?kit_int_Map ?kit_bool_Map ?kit_str_Map ?kit_tuple_Map ?kit_list_Map ?kn_NoneType_Map ?nf_NoneType_Map ?kn_int_Map ?nf_int_Map ?kn_bool_Map ?nf_bool_Map ?kn_str_Map ?nf_str_Map ?kn_list_Map ?nf_list_Map ?kn_dict_Map ?nf_dict_Map ?kn_tuple_Map ?nf_tuple_Map ?self_Map ?na_own_size_Map ?na_own_arrows_Map ?ne_Map ?m_Map__init ?i_Map__init ?l_Map__init ?c_Map__init ?k_Map__init ?mk_Map ?rd_Map ?ga_Map ?at_Map_identity ?rc_Map_identity ?fi_Map_identity ?l_Map_identity ?c_Map_identity ?k_Map_identity ?at_Map_cycle ?rc_Map_cycle ?fi_Map_cycle ?l_Map_cycle ?c_Map_cycle ?k_Map_cycle ?m_Map_size ?s_get_Map_size ?tk_Map_size ?rc_Map_size ?l_Map_size ?c_Map_size ?k_Map_size ?m_Map_arrows ?s_get_Map_arrows ?tk_Map_arrows ?rc_Map_arrows ?l_Map_arrows ?c_Map_arrows ?k_Map_arrows ?m_Map__mul ?i_Map__mul ?l_Map__mul ?c_Map__mul ?k_Map__mul ?m_Map__invert ?i_Map__invert ?l_Map__invert ?c_Map__invert ?k_Map__invert ?m_Map_power ?i_Map_power ?l_Map_power ?c_Map_power ?k_Map_power ?m_Map__eq ?i_Map__eq ?l_Map__eq ?c_Map__eq ?k_Map__eq ?m_Map__len ?i_Map__len ?l_Map__len ?c_Map__len ?k_Map__len ?m_Map__repr ?i_Map__repr ?l_Map__repr ?c_Map__repr ?k_Map__repr ?a_Session ?pg_Session ?hd_Session ?po_Session ?sa_Session ?sf_Session ?ca_Session ?cn_Session ?ct_Session ?cm_Session ?kc_Session ?kit_int_Session ?kit_bool_Session ?kn_list_Session ?nf_list_Session ?self_Session ?na_own_present_Session ?na_own_log_Session ?na_own_earlier_Session ?ne_Session ?m_Session__init ?i_Session__init ?l_Session__init ?c_Session__init ?k_Session__init ?mk_Session ?m_Session_present ?s_get_Session_present ?tk_Session_present ?rc_Session_present ?l_Session_present ?c_Session_present ?k_Session_present ?m_Session_log ?i_Session_log ?l_Session_log ?c_Session_log ?k_Session_log ?m_Session_check_next ?i_Session_check_next ?l_Session_check_next ?c_Session_check_next ?k_Session_check_next ?m_Session_change_to ?i_Session_change_to ?l_Session_change_to ?c_Session_change_to ?k_Session_change_to ?m_Session_apply ?i_Session_apply ?l_Session_apply ?c_Session_apply ?k_Session_apply ?m_Session_raise_to ?i_Session_raise_to ?l_Session_raise_to ?c_Session_raise_to ?k_Session_raise_to ?m_Session_do_steps ?i_Session_do_steps ?l_Session_do_steps ?c_Session_do_steps ?k_Session_do_steps ?m_Session_undo ?i_Session_undo ?l_Session_undo ?c_Session_undo ?k_Session_undo ?m_Session_at ?i_Session_at ?l_Session_at ?c_Session_at ?k_Session_at ?m_Session_fresh ?i_Session_fresh ?l_Session_fresh ?c_Session_fresh ?k_Session_fresh ?m_Session_clone ?i_Session_clone ?l_Session_clone ?c_Session_clone ?k_Session_clone ?m_Session__eq ?i_Session__eq ?l_Session__eq ?c_Session__eq ?k_Session__eq ?m_Session__len ?i_Session__len ?l_Session__len ?c_Session__len ?k_Session__len ?m_Session__repr ?i_Session__repr ?l_Session__repr ?c_Session__repr ?k_Session__repr ?a_KeepingSession ?pg_KeepingSession ?hd_KeepingSession ?po_KeepingSession ?sa_KeepingSession ?sf_KeepingSession ?ca_KeepingSession ?cn_KeepingSession ?ct_KeepingSession ?cm_KeepingSession ?kc_KeepingSession ?kit_int_KeepingSession ?kit_bool_KeepingSession ?kit_s_Session_KeepingSession ?sb_Session_KeepingSession ?nf_s_Session_KeepingSession ?self_KeepingSession ?na_own_present_KeepingSession ?na_own_log_KeepingSession ?na_own_earlier_KeepingSession ?na_own_least_KeepingSession ?ne_KeepingSession ?ih_Session_present_KeepingSession ?ih_Session_log_KeepingSession ?ih_Session_change_to_KeepingSession ?ih_Session_apply_KeepingSession ?ih_Session_raise_to_KeepingSession ?ih_Session_do_steps_KeepingSession ?ih_Session_undo_KeepingSession ?ih_Session_at_KeepingSession ?ih_Session_clone_KeepingSession ?ih_Session__eq_KeepingSession ?ih_Session__len_KeepingSession ?su_Session__init_KeepingSession ?kq_Session__init_KeepingSession ?st_Session__init_KeepingSession ?sn_Session__init_KeepingSession ?su_Session_check_next_KeepingSession ?kq_Session_check_next_KeepingSession ?st_Session_check_next_KeepingSession ?sn_Session_check_next_KeepingSession ?m_KeepingSession__init ?i_KeepingSession__init ?l_KeepingSession__init ?cd_KeepingSession__init ?k_KeepingSession__init ?co_KeepingSession__init ?fl_KeepingSession__init ?ce_KeepingSession__init ?kd_KeepingSession__init ?ns_KeepingSession__init ?no_KeepingSession__init ?mk_KeepingSession ?m_KeepingSession_least ?s_get_KeepingSession_least ?tk_KeepingSession_least ?rc_KeepingSession_least ?l_KeepingSession_least ?c_KeepingSession_least ?k_KeepingSession_least ?m_KeepingSession_check_next ?i_KeepingSession_check_next ?l_KeepingSession_check_next ?cd_KeepingSession_check_next ?k_KeepingSession_check_next ?co_KeepingSession_check_next ?fl_KeepingSession_check_next ?ce_KeepingSession_check_next ?kd_KeepingSession_check_next ?ns_KeepingSession_check_next ?no_KeepingSession_check_next ?m_KeepingSession_fresh ?i_KeepingSession_fresh ?l_KeepingSession_fresh ?c_KeepingSession_fresh ?k_KeepingSession_fresh ?m_KeepingSession__repr ?i_KeepingSession__repr ?l_KeepingSession__repr ?c_KeepingSession__repr ?k_KeepingSession__repr ?a_NothingToUndo ?xl_NothingToUndo ?sa_NothingToUndo ?ex_NothingToUndo ?ty_NothingToUndo ?kc_NothingToUndo ?hd_NothingToUndo ?ga_NothingToUndo ?gg_NothingToUndo ?ss_NothingToUndo ?ca_NothingToUndo ?cn_NothingToUndo ?ct_NothingToUndo ?cm_NothingToUndo ?kit_LookupError_NothingToUndo ?na_user_NothingToUndo ?m_NothingToUndo__init ?ti_NothingToUndo__init ?l_NothingToUndo__init ?c_NothingToUndo__init ?k_NothingToUndo__init ?a_NotLast ?xl_NotLast ?sa_NotLast ?ex_NotLast ?ty_NotLast ?kc_NotLast ?hd_NotLast ?ga_NotLast ?gg_NotLast ?ss_NotLast ?ca_NotLast ?cn_NotLast ?ct_NotLast ?cm_NotLast ?kit_RuntimeError_NotLast ?te_NothingToUndo_NotLast ?na_user_NotLast ?m_NotLast__init ?ti_NotLast__init ?l_NotLast__init ?c_NotLast__init ?k_NotLast__init ?a_TooFew ?xl_TooFew ?sa_TooFew ?ex_TooFew ?ty_TooFew ?kc_TooFew ?hd_TooFew ?ga_TooFew ?gg_TooFew ?ss_TooFew ?ca_TooFew ?cn_TooFew ?ct_TooFew ?cm_TooFew ?kit_RuntimeError_TooFew ?na_number_TooFew ?m_TooFew__init ?ti_TooFew__init ?l_TooFew__init ?c_TooFew__init ?k_TooFew__init ?a_InvalidNumber ?xl_InvalidNumber ?sa_InvalidNumber ?ex_InvalidNumber ?ty_InvalidNumber ?kc_InvalidNumber ?hd_InvalidNumber ?ga_InvalidNumber ?gg_InvalidNumber ?ss_InvalidNumber ?ca_InvalidNumber ?cn_InvalidNumber ?ct_InvalidNumber ?cm_InvalidNumber ?kit_ValueError_InvalidNumber ?na_value_InvalidNumber ?m_InvalidNumber__init ?ti_InvalidNumber__init ?l_InvalidNumber__init ?c_InvalidNumber__init ?k_InvalidNumber__init ?a_InvalidSize ?xl_InvalidSize ?sa_InvalidSize ?ex_InvalidSize ?ty_InvalidSize ?kc_InvalidSize ?hd_InvalidSize ?ga_InvalidSize ?gg_InvalidSize ?ss_InvalidSize ?ca_InvalidSize ?cn_InvalidSize ?ct_InvalidSize ?cm_InvalidSize ?kit_ValueError_InvalidSize ?na_value_InvalidSize ?m_InvalidSize__init ?ti_InvalidSize__init ?l_InvalidSize__init ?c_InvalidSize__init ?k_InvalidSize__init ?a_InvalidElement ?xl_InvalidElement ?sa_InvalidElement ?ex_InvalidElement ?ty_InvalidElement ?kc_InvalidElement ?hd_InvalidElement ?ga_InvalidElement ?gg_InvalidElement ?ss_InvalidElement ?ca_InvalidElement ?cn_InvalidElement ?ct_InvalidElement ?cm_InvalidElement ?kit_ValueError_InvalidElement ?na_value_InvalidElement ?m_InvalidElement__init ?ti_InvalidElement__init ?l_InvalidElement__init ?c_InvalidElement__init ?k_InvalidElement__init ?a_InvalidMap ?xl_InvalidMap ?sa_InvalidMap ?ex_InvalidMap ?ty_InvalidMap ?kc_InvalidMap ?hd_InvalidMap ?ga_InvalidMap ?gg_InvalidMap ?ss_InvalidMap ?ca_InvalidMap ?cn_InvalidMap ?ct_InvalidMap ?cm_InvalidMap ?kit_ValueError_InvalidMap ?na_part_InvalidMap ?m_InvalidMap__init ?ti_InvalidMap__init ?l_InvalidMap__init ?c_InvalidMap__init ?k_InvalidMap__init ?a_SizeMismatch ?xl_SizeMismatch ?sa_SizeMismatch ?ex_SizeMismatch ?ty_SizeMismatch ?kc_SizeMismatch ?hd_SizeMismatch ?ga_SizeMismatch ?gg_SizeMismatch ?ss_SizeMismatch ?ca_SizeMismatch ?cn_SizeMismatch ?ct_SizeMismatch ?cm_SizeMismatch ?kit_ValueError_SizeMismatch ?na_first_SizeMismatch ?na_second_SizeMismatch ?m_SizeMismatch__init ?ti_SizeMismatch__init ?l_SizeMismatch__init ?c_SizeMismatch__init ?k_SizeMismatch__init ?z_isinstance ?z_int ?z_bool ?z_dict ?z_len ?z_range ?z_list ?z_max ?z_min ?z_repr ?z_abs ?z_str ?z_tuple ?z_all ?z_enumerate ?z_zip ?v_MAX_SIZE ?v_MAX_NAME ?kit_x_Session_Map ?nf_x_Session_Map ?kit_n_Session_KeepingSession
      (case a_is_integer => as_aux_lemma => k_is)
      (case l_is_integer => as_aux_lemma => k_is)
      (case c_is_integer => as_aux_lemma => k_is)
      (case k_is_integer => as_aux_lemma => k_is)
      (case a_in_range => as_aux_lemma => k_is)
      (case l_in_range => as_aux_lemma => k_is)
      (case c_in_range => as_aux_lemma => k_is)
      (case k_in_range => as_aux_lemma => k_is)
      (case a_check_size => as_aux_lemma => k_is)
      (case l_check_size => as_aux_lemma => k_is)
      (case c_check_size => as_aux_lemma => k_is)
      (case k_check_size => as_aux_lemma => k_is)
      (case a_check_elements => as_aux_lemma => k_is)
      (case l_check_elements => as_aux_lemma => k_is)
      (case c_check_elements => as_aux_lemma => k_is)
      (case k_check_elements => as_aux_lemma => k_is)
      (case a_are_arrows => as_aux_lemma => k_is)
      (case l_are_arrows => as_aux_lemma => k_is)
      (case c_are_arrows => as_aux_lemma => k_is)
      (case k_are_arrows => as_aux_lemma => k_is)
      (case a_common_size => as_aux_lemma => k_is)
      (case l_common_size => as_aux_lemma => k_is)
      (case c_common_size => as_aux_lemma => k_is)
      (case k_common_size => as_aux_lemma => k_is)
      (case a_row_from => as_aux_lemma => k_is)
      (case l_row_from => as_aux_lemma => k_is)
      (case c_row_from => as_aux_lemma => k_is)
      (case k_row_from => as_aux_lemma => k_is)
      (case a_moved => as_aux_lemma => k_is)
      (case l_moved => as_aux_lemma => k_is)
      (case c_moved => as_aux_lemma => k_is)
      (case k_moved => as_aux_lemma => k_is)
      (case a_check_map => as_aux_lemma => k_is)
      (case l_check_map => as_aux_lemma => k_is)
      (case c_check_map => as_aux_lemma => k_is)
      (case k_check_map => as_aux_lemma => k_is)
      (case a_check_maps => as_aux_lemma => k_is)
      (case l_check_maps => as_aux_lemma => k_is)
      (case c_check_maps => as_aux_lemma => k_is)
      (case k_check_maps => as_aux_lemma => k_is)
      (case a_is_step => as_aux_lemma => k_is)
      (case l_is_step => as_aux_lemma => k_is)
      (case c_is_step => as_aux_lemma => k_is)
      (case k_is_step => as_aux_lemma => k_is)
      (case a_first_invalid => as_aux_lemma => k_is)
      (case l_first_invalid => as_aux_lemma => k_is)
      (case c_first_invalid => as_aux_lemma => k_is)
      (case k_first_invalid => as_aux_lemma => k_is)
      (case a_after_list => as_aux_lemma => k_is)
      (case l_after_list => as_aux_lemma => k_is)
      (case c_after_list => as_aux_lemma => k_is)
      (case k_after_list => as_aux_lemma => k_is)
      (case a_is_name => as_aux_lemma => k_is)
      (case l_is_name => as_aux_lemma => k_is)
      (case c_is_name => as_aux_lemma => k_is)
      (case k_is_name => as_aux_lemma => k_is)
      (case a_check_user => as_aux_lemma => k_is)
      (case l_check_user => as_aux_lemma => k_is)
      (case c_check_user => as_aux_lemma => k_is)
      (case k_check_user => as_aux_lemma => k_is)
      (case a_l_hand => as_aux_lemma => k_is)
      (case l_l_hand => as_aux_lemma => k_is)
      (case c_l_hand => as_aux_lemma => k_is)
      (case k_l_hand => as_aux_lemma => k_is)
      (case a_l_draw => as_aux_lemma => k_is)
      (case l_l_draw => as_aux_lemma => k_is)
      (case c_l_draw => as_aux_lemma => k_is)
      (case k_l_draw => as_aux_lemma => k_is)
      (case a_l_arrows => as_aux_lemma => k_is)
      (case l_l_arrows => as_aux_lemma => k_is)
      (case c_l_arrows => as_aux_lemma => k_is)
      (case k_l_arrows => as_aux_lemma => k_is)
      (case a_l_product => as_aux_lemma => k_is)
      (case l_l_product => as_aux_lemma => k_is)
      (case c_l_product => as_aux_lemma => k_is)
      (case k_l_product => as_aux_lemma => k_is)
      (case a_l_full => as_aux_lemma => k_is)
      (case l_l_full => as_aux_lemma => k_is)
      (case c_l_full => as_aux_lemma => k_is)
      (case k_l_full => as_aux_lemma => k_is)
      (case a_l_inverse => as_aux_lemma => k_is)
      (case l_l_inverse => as_aux_lemma => k_is)
      (case c_l_inverse => as_aux_lemma => k_is)
      (case k_l_inverse => as_aux_lemma => k_is)
      (case a_l_power => as_aux_lemma => k_is)
      (case l_l_power => as_aux_lemma => k_is)
      (case c_l_power => as_aux_lemma => k_is)
      (case k_l_power => as_aux_lemma => k_is)
      (case a_l_step => as_aux_lemma => k_is)
      (case l_l_step => as_aux_lemma => k_is)
      (case c_l_step => as_aux_lemma => k_is)
      (case k_l_step => as_aux_lemma => k_is)
      (case a_l_stepped => as_aux_lemma => k_is)
      (case l_l_stepped => as_aux_lemma => k_is)
      (case c_l_stepped => as_aux_lemma => k_is)
      (case k_l_stepped => as_aux_lemma => k_is)
      (case a_l_caught => as_aux_lemma => k_is)
      (case l_l_caught => as_aux_lemma => k_is)
      (case c_l_caught => as_aux_lemma => k_is)
      (case k_l_caught => as_aux_lemma => k_is)
      (case a_l_act => as_aux_lemma => k_is)
      (case l_l_act => as_aux_lemma => k_is)
      (case c_l_act => as_aux_lemma => k_is)
      (case k_l_act => as_aux_lemma => k_is)
      (case a_l_undone => as_aux_lemma => k_is)
      (case l_l_undone => as_aux_lemma => k_is)
      (case cd_l_undone => as_aux_lemma => k_is)
      (case k_l_undone => as_aux_lemma => k_is)
      (case tm_l_undone => rfl)
      (case hd_l_undone => as_aux_lemma => kernel_rfl)
      (case nt_l_undone => as_aux_lemma => kernel_rfl)
      (case a_l_shows => as_aux_lemma => k_is)
      (case l_l_shows => as_aux_lemma => k_is)
      (case c_l_shows => as_aux_lemma => k_is)
      (case k_l_shows => as_aux_lemma => k_is)
      (case a_l_model => as_aux_lemma => k_is)
      (case l_l_model => as_aux_lemma => k_is)
      (case c_l_model => as_aux_lemma => k_is)
      (case k_l_model => as_aux_lemma => k_is)
      (case a_l_user => as_aux_lemma => k_is)
      (case l_l_user => as_aux_lemma => k_is)
      (case c_l_user => as_aux_lemma => k_is)
      (case k_l_user => as_aux_lemma => k_is)
      (case a_l_same => as_aux_lemma => k_is)
      (case l_l_same => as_aux_lemma => k_is)
      (case c_l_same => as_aux_lemma => k_is)
      (case k_l_same => as_aux_lemma => k_is)
      (case a_l_unlike => as_aux_lemma => k_is)
      (case l_l_unlike => as_aux_lemma => k_is)
      (case c_l_unlike => as_aux_lemma => k_is)
      (case k_l_unlike => as_aux_lemma => k_is)
      (case a_l_keeping => as_aux_lemma => k_is)
      (case l_l_keeping => as_aux_lemma => k_is)
      (case c_l_keeping => as_aux_lemma => k_is)
      (case k_l_keeping => as_aux_lemma => k_is)
      (case a_law => as_aux_lemma => k_is)
      (case l_law => as_aux_lemma => k_is)
      (case c_law => as_aux_lemma => k_is)
      (case k_law => as_aux_lemma => k_is)
      (case a_Map => as_aux_lemma => k_is)
      (case pg_Map => as_aux_lemma => k_is)
      (case hd_Map => as_aux_lemma => k_is)
      (case po_Map => as_aux_lemma => k_is)
      (case sa_Map => as_aux_lemma => k_is)
      (case sf_Map => as_aux_lemma => k_is)
      (case ca_Map => as_aux_lemma => k_is)
      (case cn_Map => as_aux_lemma => k_is)
      (case ct_Map => as_aux_lemma => k_is)
      (case cm_Map => as_aux_lemma => k_is)
      (case kc_Map => as_aux_lemma => k_is)
      (case kit_int_Map => as_aux_lemma => kernel_rfl)
      (case kit_bool_Map => as_aux_lemma => kernel_rfl)
      (case kit_str_Map => as_aux_lemma => kernel_rfl)
      (case kit_tuple_Map => as_aux_lemma => kernel_rfl)
      (case kit_list_Map => as_aux_lemma => kernel_rfl)
      (case kn_NoneType_Map => as_aux_lemma => kernel_rfl)
      (case nf_NoneType_Map => as_aux_lemma => kernel_rfl)
      (case kn_int_Map => as_aux_lemma => kernel_rfl)
      (case nf_int_Map => as_aux_lemma => kernel_rfl)
      (case kn_bool_Map => as_aux_lemma => kernel_rfl)
      (case nf_bool_Map => as_aux_lemma => kernel_rfl)
      (case kn_str_Map => as_aux_lemma => kernel_rfl)
      (case nf_str_Map => as_aux_lemma => kernel_rfl)
      (case kn_list_Map => as_aux_lemma => kernel_rfl)
      (case nf_list_Map => as_aux_lemma => kernel_rfl)
      (case kn_dict_Map => as_aux_lemma => kernel_rfl)
      (case nf_dict_Map => as_aux_lemma => kernel_rfl)
      (case kn_tuple_Map => as_aux_lemma => kernel_rfl)
      (case nf_tuple_Map => as_aux_lemma => kernel_rfl)
      (case self_Map => as_aux_lemma => kernel_rfl)
      (case na_own_size_Map => as_aux_lemma => k_is)
      (case na_own_arrows_Map => as_aux_lemma => k_is)
      (case ne_Map => as_aux_lemma => k_is)
      (case m_Map__init => as_aux_lemma => k_is)
      (case i_Map__init => as_aux_lemma => k_is)
      (case l_Map__init => as_aux_lemma => k_is)
      (case c_Map__init => as_aux_lemma => k_is)
      (case k_Map__init => as_aux_lemma => k_is)
      (case mk_Map => as_aux_lemma => k_is)
      (case rd_Map => as_aux_lemma => k_is)
      (case ga_Map => as_aux_lemma => k_is)
      (case at_Map_identity => as_aux_lemma => k_is)
      (case rc_Map_identity => as_aux_lemma => k_is)
      (case fi_Map_identity => as_aux_lemma => k_is)
      (case l_Map_identity => as_aux_lemma => k_is)
      (case c_Map_identity => as_aux_lemma => k_is)
      (case k_Map_identity => as_aux_lemma => k_is)
      (case at_Map_cycle => as_aux_lemma => k_is)
      (case rc_Map_cycle => as_aux_lemma => k_is)
      (case fi_Map_cycle => as_aux_lemma => k_is)
      (case l_Map_cycle => as_aux_lemma => k_is)
      (case c_Map_cycle => as_aux_lemma => k_is)
      (case k_Map_cycle => as_aux_lemma => k_is)
      (case m_Map_size => as_aux_lemma => k_is)
      (case s_get_Map_size => as_aux_lemma => k_is)
      (case tk_Map_size => as_aux_lemma => k_is)
      (case rc_Map_size => as_aux_lemma => k_is)
      (case l_Map_size => as_aux_lemma => k_is)
      (case c_Map_size => as_aux_lemma => k_is)
      (case k_Map_size => as_aux_lemma => k_is)
      (case m_Map_arrows => as_aux_lemma => k_is)
      (case s_get_Map_arrows => as_aux_lemma => k_is)
      (case tk_Map_arrows => as_aux_lemma => k_is)
      (case rc_Map_arrows => as_aux_lemma => k_is)
      (case l_Map_arrows => as_aux_lemma => k_is)
      (case c_Map_arrows => as_aux_lemma => k_is)
      (case k_Map_arrows => as_aux_lemma => k_is)
      (case m_Map__mul => as_aux_lemma => k_is)
      (case i_Map__mul => as_aux_lemma => k_is)
      (case l_Map__mul => as_aux_lemma => k_is)
      (case c_Map__mul => as_aux_lemma => k_is)
      (case k_Map__mul => as_aux_lemma => k_is)
      (case m_Map__invert => as_aux_lemma => k_is)
      (case i_Map__invert => as_aux_lemma => k_is)
      (case l_Map__invert => as_aux_lemma => k_is)
      (case c_Map__invert => as_aux_lemma => k_is)
      (case k_Map__invert => as_aux_lemma => k_is)
      (case m_Map_power => as_aux_lemma => k_is)
      (case i_Map_power => as_aux_lemma => k_is)
      (case l_Map_power => as_aux_lemma => k_is)
      (case c_Map_power => as_aux_lemma => k_is)
      (case k_Map_power => as_aux_lemma => k_is)
      (case m_Map__eq => as_aux_lemma => k_is)
      (case i_Map__eq => as_aux_lemma => k_is)
      (case l_Map__eq => as_aux_lemma => k_is)
      (case c_Map__eq => as_aux_lemma => k_is)
      (case k_Map__eq => as_aux_lemma => k_is)
      (case m_Map__len => as_aux_lemma => k_is)
      (case i_Map__len => as_aux_lemma => k_is)
      (case l_Map__len => as_aux_lemma => k_is)
      (case c_Map__len => as_aux_lemma => k_is)
      (case k_Map__len => as_aux_lemma => k_is)
      (case m_Map__repr => as_aux_lemma => k_is)
      (case i_Map__repr => as_aux_lemma => k_is)
      (case l_Map__repr => as_aux_lemma => k_is)
      (case c_Map__repr => as_aux_lemma => k_is)
      (case k_Map__repr => as_aux_lemma => k_is)
      (case a_Session => as_aux_lemma => k_is)
      (case pg_Session => as_aux_lemma => k_is)
      (case hd_Session => as_aux_lemma => k_is)
      (case po_Session => as_aux_lemma => k_is)
      (case sa_Session => as_aux_lemma => k_is)
      (case sf_Session => as_aux_lemma => k_is)
      (case ca_Session => as_aux_lemma => k_is)
      (case cn_Session => as_aux_lemma => k_is)
      (case ct_Session => as_aux_lemma => k_is)
      (case cm_Session => as_aux_lemma => k_is)
      (case kc_Session => as_aux_lemma => k_is)
      (case kit_int_Session => as_aux_lemma => kernel_rfl)
      (case kit_bool_Session => as_aux_lemma => kernel_rfl)
      (case kn_list_Session => as_aux_lemma => kernel_rfl)
      (case nf_list_Session => as_aux_lemma => kernel_rfl)
      (case self_Session => as_aux_lemma => kernel_rfl)
      (case na_own_present_Session => as_aux_lemma => k_is)
      (case na_own_log_Session => as_aux_lemma => k_is)
      (case na_own_earlier_Session => as_aux_lemma => k_is)
      (case ne_Session => as_aux_lemma => k_is)
      (case m_Session__init => as_aux_lemma => k_is)
      (case i_Session__init => as_aux_lemma => k_is)
      (case l_Session__init => as_aux_lemma => k_is)
      (case c_Session__init => as_aux_lemma => k_is)
      (case k_Session__init => as_aux_lemma => k_is)
      (case mk_Session => as_aux_lemma => k_is)
      (case m_Session_present => as_aux_lemma => k_is)
      (case s_get_Session_present => as_aux_lemma => k_is)
      (case tk_Session_present => as_aux_lemma => k_is)
      (case rc_Session_present => as_aux_lemma => k_is)
      (case l_Session_present => as_aux_lemma => k_is)
      (case c_Session_present => as_aux_lemma => k_is)
      (case k_Session_present => as_aux_lemma => k_is)
      (case m_Session_log => as_aux_lemma => k_is)
      (case i_Session_log => as_aux_lemma => k_is)
      (case l_Session_log => as_aux_lemma => k_is)
      (case c_Session_log => as_aux_lemma => k_is)
      (case k_Session_log => as_aux_lemma => k_is)
      (case m_Session_check_next => as_aux_lemma => k_is)
      (case i_Session_check_next => as_aux_lemma => k_is)
      (case l_Session_check_next => as_aux_lemma => k_is)
      (case c_Session_check_next => as_aux_lemma => k_is)
      (case k_Session_check_next => as_aux_lemma => k_is)
      (case m_Session_change_to => as_aux_lemma => k_is)
      (case i_Session_change_to => as_aux_lemma => k_is)
      (case l_Session_change_to => as_aux_lemma => k_is)
      (case c_Session_change_to => as_aux_lemma => k_is)
      (case k_Session_change_to => as_aux_lemma => k_is)
      (case m_Session_apply => as_aux_lemma => k_is)
      (case i_Session_apply => as_aux_lemma => k_is)
      (case l_Session_apply => as_aux_lemma => k_is)
      (case c_Session_apply => as_aux_lemma => k_is)
      (case k_Session_apply => as_aux_lemma => k_is)
      (case m_Session_raise_to => as_aux_lemma => k_is)
      (case i_Session_raise_to => as_aux_lemma => k_is)
      (case l_Session_raise_to => as_aux_lemma => k_is)
      (case c_Session_raise_to => as_aux_lemma => k_is)
      (case k_Session_raise_to => as_aux_lemma => k_is)
      (case m_Session_do_steps => as_aux_lemma => k_is)
      (case i_Session_do_steps => as_aux_lemma => k_is)
      (case l_Session_do_steps => as_aux_lemma => k_is)
      (case c_Session_do_steps => as_aux_lemma => k_is)
      (case k_Session_do_steps => as_aux_lemma => k_is)
      (case m_Session_undo => as_aux_lemma => k_is)
      (case i_Session_undo => as_aux_lemma => k_is)
      (case l_Session_undo => as_aux_lemma => k_is)
      (case c_Session_undo => as_aux_lemma => k_is)
      (case k_Session_undo => as_aux_lemma => k_is)
      (case m_Session_at => as_aux_lemma => k_is)
      (case i_Session_at => as_aux_lemma => k_is)
      (case l_Session_at => as_aux_lemma => k_is)
      (case c_Session_at => as_aux_lemma => k_is)
      (case k_Session_at => as_aux_lemma => k_is)
      (case m_Session_fresh => as_aux_lemma => k_is)
      (case i_Session_fresh => as_aux_lemma => k_is)
      (case l_Session_fresh => as_aux_lemma => k_is)
      (case c_Session_fresh => as_aux_lemma => k_is)
      (case k_Session_fresh => as_aux_lemma => k_is)
      (case m_Session_clone => as_aux_lemma => k_is)
      (case i_Session_clone => as_aux_lemma => k_is)
      (case l_Session_clone => as_aux_lemma => k_is)
      (case c_Session_clone => as_aux_lemma => k_is)
      (case k_Session_clone => as_aux_lemma => k_is)
      (case m_Session__eq => as_aux_lemma => k_is)
      (case i_Session__eq => as_aux_lemma => k_is)
      (case l_Session__eq => as_aux_lemma => k_is)
      (case c_Session__eq => as_aux_lemma => k_is)
      (case k_Session__eq => as_aux_lemma => k_is)
      (case m_Session__len => as_aux_lemma => k_is)
      (case i_Session__len => as_aux_lemma => k_is)
      (case l_Session__len => as_aux_lemma => k_is)
      (case c_Session__len => as_aux_lemma => k_is)
      (case k_Session__len => as_aux_lemma => k_is)
      (case m_Session__repr => as_aux_lemma => k_is)
      (case i_Session__repr => as_aux_lemma => k_is)
      (case l_Session__repr => as_aux_lemma => k_is)
      (case c_Session__repr => as_aux_lemma => k_is)
      (case k_Session__repr => as_aux_lemma => k_is)
      (case a_KeepingSession => as_aux_lemma => k_is)
      (case pg_KeepingSession => as_aux_lemma => k_is)
      (case hd_KeepingSession => as_aux_lemma => k_is)
      (case po_KeepingSession => as_aux_lemma => k_is)
      (case sa_KeepingSession => as_aux_lemma => k_is)
      (case sf_KeepingSession => as_aux_lemma => k_is)
      (case ca_KeepingSession => as_aux_lemma => k_is)
      (case cn_KeepingSession => as_aux_lemma => k_is)
      (case ct_KeepingSession => as_aux_lemma => k_is)
      (case cm_KeepingSession => as_aux_lemma => k_is)
      (case kc_KeepingSession => as_aux_lemma => k_is)
      (case kit_int_KeepingSession => as_aux_lemma => kernel_rfl)
      (case kit_bool_KeepingSession => as_aux_lemma => kernel_rfl)
      (case kit_s_Session_KeepingSession => as_aux_lemma => kernel_rfl)
      (case sb_Session_KeepingSession => as_aux_lemma => k_is)
      (case nf_s_Session_KeepingSession => as_aux_lemma => kernel_rfl)
      (case self_KeepingSession => as_aux_lemma => kernel_rfl)
      (case na_own_present_KeepingSession => as_aux_lemma => k_is)
      (case na_own_log_KeepingSession => as_aux_lemma => k_is)
      (case na_own_earlier_KeepingSession => as_aux_lemma => k_is)
      (case na_own_least_KeepingSession => as_aux_lemma => k_is)
      (case ne_KeepingSession => as_aux_lemma => k_is)
      (case ih_Session_present_KeepingSession => as_aux_lemma => k_is)
      (case ih_Session_log_KeepingSession => as_aux_lemma => k_is)
      (case ih_Session_change_to_KeepingSession => as_aux_lemma => k_is)
      (case ih_Session_apply_KeepingSession => as_aux_lemma => k_is)
      (case ih_Session_raise_to_KeepingSession => as_aux_lemma => k_is)
      (case ih_Session_do_steps_KeepingSession => as_aux_lemma => k_is)
      (case ih_Session_undo_KeepingSession => as_aux_lemma => k_is)
      (case ih_Session_at_KeepingSession => as_aux_lemma => k_is)
      (case ih_Session_clone_KeepingSession => as_aux_lemma => k_is)
      (case ih_Session__eq_KeepingSession => as_aux_lemma => k_is)
      (case ih_Session__len_KeepingSession => as_aux_lemma => k_is)
      (case su_Session__init_KeepingSession => as_aux_lemma => k_is)
      (case kq_Session__init_KeepingSession => as_aux_lemma => kernel_rfl)
      (case st_Session__init_KeepingSession => as_aux_lemma => k_is)
      (case sn_Session__init_KeepingSession => as_aux_lemma => k_is)
      (case su_Session_check_next_KeepingSession => as_aux_lemma => k_is)
      (case kq_Session_check_next_KeepingSession => as_aux_lemma => kernel_rfl)
      (case st_Session_check_next_KeepingSession => as_aux_lemma => k_is)
      (case sn_Session_check_next_KeepingSession => as_aux_lemma => k_is)
      (case m_KeepingSession__init => as_aux_lemma => k_is)
      (case i_KeepingSession__init => as_aux_lemma => k_is)
      (case l_KeepingSession__init => as_aux_lemma => k_is)
      (case cd_KeepingSession__init => as_aux_lemma => k_is)
      (case k_KeepingSession__init => as_aux_lemma => k_is)
      (case co_KeepingSession__init => as_aux_lemma => k_is)
      (case fl_KeepingSession__init => as_aux_lemma => kernel_rfl)
      (case ce_KeepingSession__init => as_aux_lemma => k_is)
      (case kd_KeepingSession__init => as_aux_lemma => k_is)
      (case ns_KeepingSession__init => as_aux_lemma => k_is)
      (case no_KeepingSession__init => as_aux_lemma => k_is)
      (case mk_KeepingSession => as_aux_lemma => k_is)
      (case m_KeepingSession_least => as_aux_lemma => k_is)
      (case s_get_KeepingSession_least => as_aux_lemma => k_is)
      (case tk_KeepingSession_least => as_aux_lemma => k_is)
      (case rc_KeepingSession_least => as_aux_lemma => k_is)
      (case l_KeepingSession_least => as_aux_lemma => k_is)
      (case c_KeepingSession_least => as_aux_lemma => k_is)
      (case k_KeepingSession_least => as_aux_lemma => k_is)
      (case m_KeepingSession_check_next => as_aux_lemma => k_is)
      (case i_KeepingSession_check_next => as_aux_lemma => k_is)
      (case l_KeepingSession_check_next => as_aux_lemma => k_is)
      (case cd_KeepingSession_check_next => as_aux_lemma => k_is)
      (case k_KeepingSession_check_next => as_aux_lemma => k_is)
      (case co_KeepingSession_check_next => as_aux_lemma => k_is)
      (case fl_KeepingSession_check_next => as_aux_lemma => kernel_rfl)
      (case ce_KeepingSession_check_next => as_aux_lemma => k_is)
      (case kd_KeepingSession_check_next => as_aux_lemma => k_is)
      (case ns_KeepingSession_check_next => as_aux_lemma => k_is)
      (case no_KeepingSession_check_next => as_aux_lemma => k_is)
      (case m_KeepingSession_fresh => as_aux_lemma => k_is)
      (case i_KeepingSession_fresh => as_aux_lemma => k_is)
      (case l_KeepingSession_fresh => as_aux_lemma => k_is)
      (case c_KeepingSession_fresh => as_aux_lemma => k_is)
      (case k_KeepingSession_fresh => as_aux_lemma => k_is)
      (case m_KeepingSession__repr => as_aux_lemma => k_is)
      (case i_KeepingSession__repr => as_aux_lemma => k_is)
      (case l_KeepingSession__repr => as_aux_lemma => k_is)
      (case c_KeepingSession__repr => as_aux_lemma => k_is)
      (case k_KeepingSession__repr => as_aux_lemma => k_is)
      (case a_NothingToUndo => as_aux_lemma => k_is)
      (case xl_NothingToUndo => as_aux_lemma => k_is)
      (case sa_NothingToUndo => as_aux_lemma => k_is)
      (case ex_NothingToUndo => as_aux_lemma => k_is)
      (case ty_NothingToUndo => as_aux_lemma => k_is)
      (case kc_NothingToUndo => as_aux_lemma => k_is)
      (case hd_NothingToUndo => as_aux_lemma => k_is)
      (case ga_NothingToUndo => as_aux_lemma => k_is)
      (case gg_NothingToUndo => as_aux_lemma => k_is)
      (case ss_NothingToUndo => as_aux_lemma => k_is)
      (case ca_NothingToUndo => as_aux_lemma => k_is)
      (case cn_NothingToUndo => as_aux_lemma => k_is)
      (case ct_NothingToUndo => as_aux_lemma => k_is)
      (case cm_NothingToUndo => as_aux_lemma => k_is)
      (case kit_LookupError_NothingToUndo => as_aux_lemma => kernel_rfl)
      (case na_user_NothingToUndo => as_aux_lemma => k_is)
      (case m_NothingToUndo__init => as_aux_lemma => k_is)
      (case ti_NothingToUndo__init => as_aux_lemma => k_is)
      (case l_NothingToUndo__init => as_aux_lemma => k_is)
      (case c_NothingToUndo__init => as_aux_lemma => k_is)
      (case k_NothingToUndo__init => as_aux_lemma => k_is)
      (case a_NotLast => as_aux_lemma => k_is)
      (case xl_NotLast => as_aux_lemma => k_is)
      (case sa_NotLast => as_aux_lemma => k_is)
      (case ex_NotLast => as_aux_lemma => k_is)
      (case ty_NotLast => as_aux_lemma => k_is)
      (case kc_NotLast => as_aux_lemma => k_is)
      (case hd_NotLast => as_aux_lemma => k_is)
      (case ga_NotLast => as_aux_lemma => k_is)
      (case gg_NotLast => as_aux_lemma => k_is)
      (case ss_NotLast => as_aux_lemma => k_is)
      (case ca_NotLast => as_aux_lemma => k_is)
      (case cn_NotLast => as_aux_lemma => k_is)
      (case ct_NotLast => as_aux_lemma => k_is)
      (case cm_NotLast => as_aux_lemma => k_is)
      (case kit_RuntimeError_NotLast => as_aux_lemma => kernel_rfl)
      (case te_NothingToUndo_NotLast => as_aux_lemma => k_is)
      (case na_user_NotLast => as_aux_lemma => k_is)
      (case m_NotLast__init => as_aux_lemma => k_is)
      (case ti_NotLast__init => as_aux_lemma => k_is)
      (case l_NotLast__init => as_aux_lemma => k_is)
      (case c_NotLast__init => as_aux_lemma => k_is)
      (case k_NotLast__init => as_aux_lemma => k_is)
      (case a_TooFew => as_aux_lemma => k_is)
      (case xl_TooFew => as_aux_lemma => k_is)
      (case sa_TooFew => as_aux_lemma => k_is)
      (case ex_TooFew => as_aux_lemma => k_is)
      (case ty_TooFew => as_aux_lemma => k_is)
      (case kc_TooFew => as_aux_lemma => k_is)
      (case hd_TooFew => as_aux_lemma => k_is)
      (case ga_TooFew => as_aux_lemma => k_is)
      (case gg_TooFew => as_aux_lemma => k_is)
      (case ss_TooFew => as_aux_lemma => k_is)
      (case ca_TooFew => as_aux_lemma => k_is)
      (case cn_TooFew => as_aux_lemma => k_is)
      (case ct_TooFew => as_aux_lemma => k_is)
      (case cm_TooFew => as_aux_lemma => k_is)
      (case kit_RuntimeError_TooFew => as_aux_lemma => kernel_rfl)
      (case na_number_TooFew => as_aux_lemma => k_is)
      (case m_TooFew__init => as_aux_lemma => k_is)
      (case ti_TooFew__init => as_aux_lemma => k_is)
      (case l_TooFew__init => as_aux_lemma => k_is)
      (case c_TooFew__init => as_aux_lemma => k_is)
      (case k_TooFew__init => as_aux_lemma => k_is)
      (case a_InvalidNumber => as_aux_lemma => k_is)
      (case xl_InvalidNumber => as_aux_lemma => k_is)
      (case sa_InvalidNumber => as_aux_lemma => k_is)
      (case ex_InvalidNumber => as_aux_lemma => k_is)
      (case ty_InvalidNumber => as_aux_lemma => k_is)
      (case kc_InvalidNumber => as_aux_lemma => k_is)
      (case hd_InvalidNumber => as_aux_lemma => k_is)
      (case ga_InvalidNumber => as_aux_lemma => k_is)
      (case gg_InvalidNumber => as_aux_lemma => k_is)
      (case ss_InvalidNumber => as_aux_lemma => k_is)
      (case ca_InvalidNumber => as_aux_lemma => k_is)
      (case cn_InvalidNumber => as_aux_lemma => k_is)
      (case ct_InvalidNumber => as_aux_lemma => k_is)
      (case cm_InvalidNumber => as_aux_lemma => k_is)
      (case kit_ValueError_InvalidNumber => as_aux_lemma => kernel_rfl)
      (case na_value_InvalidNumber => as_aux_lemma => k_is)
      (case m_InvalidNumber__init => as_aux_lemma => k_is)
      (case ti_InvalidNumber__init => as_aux_lemma => k_is)
      (case l_InvalidNumber__init => as_aux_lemma => k_is)
      (case c_InvalidNumber__init => as_aux_lemma => k_is)
      (case k_InvalidNumber__init => as_aux_lemma => k_is)
      (case a_InvalidSize => as_aux_lemma => k_is)
      (case xl_InvalidSize => as_aux_lemma => k_is)
      (case sa_InvalidSize => as_aux_lemma => k_is)
      (case ex_InvalidSize => as_aux_lemma => k_is)
      (case ty_InvalidSize => as_aux_lemma => k_is)
      (case kc_InvalidSize => as_aux_lemma => k_is)
      (case hd_InvalidSize => as_aux_lemma => k_is)
      (case ga_InvalidSize => as_aux_lemma => k_is)
      (case gg_InvalidSize => as_aux_lemma => k_is)
      (case ss_InvalidSize => as_aux_lemma => k_is)
      (case ca_InvalidSize => as_aux_lemma => k_is)
      (case cn_InvalidSize => as_aux_lemma => k_is)
      (case ct_InvalidSize => as_aux_lemma => k_is)
      (case cm_InvalidSize => as_aux_lemma => k_is)
      (case kit_ValueError_InvalidSize => as_aux_lemma => kernel_rfl)
      (case na_value_InvalidSize => as_aux_lemma => k_is)
      (case m_InvalidSize__init => as_aux_lemma => k_is)
      (case ti_InvalidSize__init => as_aux_lemma => k_is)
      (case l_InvalidSize__init => as_aux_lemma => k_is)
      (case c_InvalidSize__init => as_aux_lemma => k_is)
      (case k_InvalidSize__init => as_aux_lemma => k_is)
      (case a_InvalidElement => as_aux_lemma => k_is)
      (case xl_InvalidElement => as_aux_lemma => k_is)
      (case sa_InvalidElement => as_aux_lemma => k_is)
      (case ex_InvalidElement => as_aux_lemma => k_is)
      (case ty_InvalidElement => as_aux_lemma => k_is)
      (case kc_InvalidElement => as_aux_lemma => k_is)
      (case hd_InvalidElement => as_aux_lemma => k_is)
      (case ga_InvalidElement => as_aux_lemma => k_is)
      (case gg_InvalidElement => as_aux_lemma => k_is)
      (case ss_InvalidElement => as_aux_lemma => k_is)
      (case ca_InvalidElement => as_aux_lemma => k_is)
      (case cn_InvalidElement => as_aux_lemma => k_is)
      (case ct_InvalidElement => as_aux_lemma => k_is)
      (case cm_InvalidElement => as_aux_lemma => k_is)
      (case kit_ValueError_InvalidElement => as_aux_lemma => kernel_rfl)
      (case na_value_InvalidElement => as_aux_lemma => k_is)
      (case m_InvalidElement__init => as_aux_lemma => k_is)
      (case ti_InvalidElement__init => as_aux_lemma => k_is)
      (case l_InvalidElement__init => as_aux_lemma => k_is)
      (case c_InvalidElement__init => as_aux_lemma => k_is)
      (case k_InvalidElement__init => as_aux_lemma => k_is)
      (case a_InvalidMap => as_aux_lemma => k_is)
      (case xl_InvalidMap => as_aux_lemma => k_is)
      (case sa_InvalidMap => as_aux_lemma => k_is)
      (case ex_InvalidMap => as_aux_lemma => k_is)
      (case ty_InvalidMap => as_aux_lemma => k_is)
      (case kc_InvalidMap => as_aux_lemma => k_is)
      (case hd_InvalidMap => as_aux_lemma => k_is)
      (case ga_InvalidMap => as_aux_lemma => k_is)
      (case gg_InvalidMap => as_aux_lemma => k_is)
      (case ss_InvalidMap => as_aux_lemma => k_is)
      (case ca_InvalidMap => as_aux_lemma => k_is)
      (case cn_InvalidMap => as_aux_lemma => k_is)
      (case ct_InvalidMap => as_aux_lemma => k_is)
      (case cm_InvalidMap => as_aux_lemma => k_is)
      (case kit_ValueError_InvalidMap => as_aux_lemma => kernel_rfl)
      (case na_part_InvalidMap => as_aux_lemma => k_is)
      (case m_InvalidMap__init => as_aux_lemma => k_is)
      (case ti_InvalidMap__init => as_aux_lemma => k_is)
      (case l_InvalidMap__init => as_aux_lemma => k_is)
      (case c_InvalidMap__init => as_aux_lemma => k_is)
      (case k_InvalidMap__init => as_aux_lemma => k_is)
      (case a_SizeMismatch => as_aux_lemma => k_is)
      (case xl_SizeMismatch => as_aux_lemma => k_is)
      (case sa_SizeMismatch => as_aux_lemma => k_is)
      (case ex_SizeMismatch => as_aux_lemma => k_is)
      (case ty_SizeMismatch => as_aux_lemma => k_is)
      (case kc_SizeMismatch => as_aux_lemma => k_is)
      (case hd_SizeMismatch => as_aux_lemma => k_is)
      (case ga_SizeMismatch => as_aux_lemma => k_is)
      (case gg_SizeMismatch => as_aux_lemma => k_is)
      (case ss_SizeMismatch => as_aux_lemma => k_is)
      (case ca_SizeMismatch => as_aux_lemma => k_is)
      (case cn_SizeMismatch => as_aux_lemma => k_is)
      (case ct_SizeMismatch => as_aux_lemma => k_is)
      (case cm_SizeMismatch => as_aux_lemma => k_is)
      (case kit_ValueError_SizeMismatch => as_aux_lemma => kernel_rfl)
      (case na_first_SizeMismatch => as_aux_lemma => k_is)
      (case na_second_SizeMismatch => as_aux_lemma => k_is)
      (case m_SizeMismatch__init => as_aux_lemma => k_is)
      (case ti_SizeMismatch__init => as_aux_lemma => k_is)
      (case l_SizeMismatch__init => as_aux_lemma => k_is)
      (case c_SizeMismatch__init => as_aux_lemma => k_is)
      (case k_SizeMismatch__init => as_aux_lemma => k_is)
      (case z_isinstance => as_aux_lemma => k_is)
      (case z_int => as_aux_lemma => k_is)
      (case z_bool => as_aux_lemma => k_is)
      (case z_dict => as_aux_lemma => k_is)
      (case z_len => as_aux_lemma => k_is)
      (case z_range => as_aux_lemma => k_is)
      (case z_list => as_aux_lemma => k_is)
      (case z_max => as_aux_lemma => k_is)
      (case z_min => as_aux_lemma => k_is)
      (case z_repr => as_aux_lemma => k_is)
      (case z_abs => as_aux_lemma => k_is)
      (case z_str => as_aux_lemma => k_is)
      (case z_tuple => as_aux_lemma => k_is)
      (case z_all => as_aux_lemma => k_is)
      (case z_enumerate => as_aux_lemma => k_is)
      (case z_zip => as_aux_lemma => k_is)
      (case v_MAX_SIZE => as_aux_lemma => k_is)
      (case v_MAX_NAME => as_aux_lemma => k_is)
      (case kit_x_Session_Map => as_aux_lemma => kernel_rfl)
      (case nf_x_Session_Map => as_aux_lemma => kernel_rfl)
      (case kit_n_Session_KeepingSession => as_aux_lemma => kernel_rfl)
    have hmg' : mg "law" = some (.ref fa) := hmg
    rw [T.g_law] at hmg'
    cases hmg'
    refine ⟨_, [(T.c_l_undone, T.P_l_undone)], My.spLawT _ T, KX, ?t1, ?t2, ?t3, (fun base tb => My.ok_law ⟨by kernel_rfl, by kernel_rfl⟩ T tb), fun H a ns hl hT hS => ⟨a, ns, rfl, hS, hl, hT, fun _ => rfl⟩⟩
    case t1 =>
      intro p hp
      simp only [List.mem_cons, List.not_mem_nil, or_false] at hp
      rcases hp with rfl
      · exact TX T.P_l_undone (by rw [T.tm_l_undone]; decide)
    case t2 =>
      intro p hp
      simp only [List.mem_cons, List.not_mem_nil, or_false] at hp
      rcases hp with rfl
      · exact T.nt_l_undone
    case t3 =>
      intro p hp
      simp only [List.mem_cons, List.not_mem_nil, or_false] at hp
      rcases hp with rfl
      · exact PySem.W.codeHd_of_K KX T.hd_l_undone
