import PyProof.Rows.All
import Wide.All
import OpenK.AllK
import Wide.FinOn
import KE.OsRunLaw
import PySem.Challenge.RW_chainmaps_k11_shapes
import HandS.ForMost
import HandS.ForExc
import HandS.IsInst
import HandS.More
import HandS.SlotsOwn
import HandS.Property
import HandS.ClsMeth
import HandS.DictComp
import HandS.Conv
import HandS.Walk
import HandS.NoneIn
import HandS.CallLocal
import HandS.Star
import HandS.ExcInit
import HandS.ExcField
import HandS.ExcIs
import KE.KExcInit
import KE.KExcIs
import HandS.WordsExc
import HandS.ListItems
import HandS.Style
import HandS.TryMany
import HandS.RaiseMore
import HandS.FStr
import HandS.HotCalls
import KE.KItemsList
import KE.KOpsOwn
import HandS.OwnEq
import HandS.Lambda
import HandS.EndTab
import KE.KNestM
import HandS.Deep
import HandS.Nested
import KE.KSuper
import HandS.TupMul
import KE.GoesMore
import HandS.SortInts
import HandS.Wide
import HandS.WideBits
import HandS.SetBool
import KE.KeyNested
import HandS.Finally
set_option Elab.async false
set_option linter.all false
set_option maxRecDepth 100000
set_option maxHeartbeats 4000000
section
local macro_rules | `(tactic| first | refine $t:term | fail $s:str) => do { let t2 ← t.raw.replaceM fun n => (do { if n.getKind == `Lean.Parser.Term.syntheticHole then { let nm := n[1].getId.eraseMacroScopes; if nm == `hl then { return some (← `(by exact $(Lean.mkIdent `x))) } else { if nm == `hw || nm == `hc then { return some (← `(by contradiction)) } else { return none } } } else { return none } }); `(tactic| refine $(⟨t2⟩)) }
open PySem PySem.W PyProof.Rows
set_option maxRecDepth 100000 in
set_option maxHeartbeats 0 in
def My.hlStmt : Prop := by
  refine' (fun (P : Prop) (_ : P → False → PySem.Challenge.rw_chainmaps_k11_shapes.Holds) => P) _ ?h
  rotate_left
  intro x f
  w_on; o_law; k_headL
set_option maxRecDepth 100000 in
set_option maxHeartbeats 0 in
theorem My.hl : My.hlStmt := by
  refine HeadRun.left_oneK (by kernel_rfl) (by rfl) (fun s => by kernel_rfl) (Nat.ble_eq_true_of_le (Nat.le_refl _)) ?_
  intro w os
  kernel_rfl
end
namespace PySem.W
open PySem PySem.Calls PyProof.Rows
section
variable {prog : Program} {w : World} {A : Around} {E : Value → Shared → Prop} {s : Shared} {K : Frag} {x C L f : Addr} {h₀ : Heap} {m : Str → Option Value} {ox : Obj} {od : Option Obj} {b tb : Value}
theorem my_ne_K {Q : Value → Shared → Prop} (hu : A.units + 1 < cLine) (F : Fr h₀ L s.heap m) (X₀ : K.In h₀) (I : InstAt s.heap x ox C od) (hb : Looks (model prog w) s.heap (typeOf b) tb) (hn : notFirst K C tb = true)
    (hne : findIn K (.ref C) "__ne__" = some (some (.builtin "object.__ne__"))) (hob : mroIn K C (.type "object") = some true)
    (hs : findIn K (.ref C) "__eq__" = some (some (.ref f))) (hf : isFn K (.ref f) = true)
    (h : wpAny (model prog w) A.in1 (call (.ref f) [.ref x, b]) (fun v s' => ∃ c, v = .bool c ∧ Q (.bool (!c)) s') E s) : wpAny (model prog w) A (richCompare .NotEq (.ref x) b) Q E s := by
  have X := X₀.keeps F.keep
  have one : wpAny (model prog w) A (tryCompare (.ref x) "__ne__" b) (fun r s' => ∃ v, r = some v ∧ Q v s') E s := by
    unfold tryCompare
    simp only [callSpecialIfBound?, bindSpecialIfBound?]
    have sub : Looks (model prog w) s.heap (isInstance (.ref x) (.type "object")) true := I.type.andThen (looks_mroIn X hob)
    have fin : wpAny (model prog w) A (call (.builtin "object.__ne__") ([.ref x] ++ [b]) >>= fun v => pure (some v)) (fun r s' => ∃ c, r = some (.bool c) ∧ Q (.bool c) s') E s := by
      refine wpAny_bind (wpAny_call (codeAny_call_builtin PySem.F.slot_tuple_iterator_ne.plain PySem.F.cmpEntry_ne ?_))
      refine @check_slot (model prog w) _ _ s "object.__ne__" "object" "__ne__" (.ref x) [b] [] _ PySem.F.cmpKind_ne PySem.F.cmpSplit_ne sub (PySem.F.cmpArgs_ne _ _) ?_
      unfold Builtin.«object.__ne__»
      refine wpAny_bind (wpAny_of_eq (a := ((Value.ref x : Value), [b])) (by first | rfl | (simp only [Builtin.slotArgs]; rfl)) ?_)
      refine wpAny_bind (wpAny_cRoomFor hu ?_)
      refine wpAny_bind (ifBound_K X I hs hf (wpAny_mono h (fun v s' hv => ?_) fun _ _ e => e))
      obtain ⟨c, rfl, q⟩ := hv
      refine wpAny_bind (wpAny_truthy_bool ?_)
      exact wpAny_pure (wpAny_pure ⟨_, rfl, q⟩)
    refine wpAny_bind (wpAny_holding (wpAny_bind (wpAny_bind (wpAny_bind (I.type.here ((looks_findIn X hne).here ?_))))))
    refine wpAny_bind (wpAny_askSetting (wpAny_ite ?_))
    split
    · rw [PySem.F.slot_tuple_iterator_ne.bind (.ref x)]
      exact wpAny_bind (wpAny_pure (wpAny_pure (wpAny_mono fin (fun r s' z => by obtain ⟨c, rfl, q⟩ := z; exact wpAny_pure ⟨_, rfl, q⟩) fun _ _ e => e)))
    · rw [PySem.F.slot_tuple_iterator_ne.bind (.ref x)]
      exact wpAny_tryCatch (wpAny_bind (wpAny_pure (wpAny_pure (wpAny_mono fin (fun r s' z => by obtain ⟨c, rfl, q⟩ := z; exact wpAny_pure ⟨_, rfl, q⟩) fun _ _ e => e))))
  unfold richCompare
  simp only [oneThing_ref]
  refine wpAny_holding (wpAny_bind (wpAny_cRoomFor (Nat.lt_of_succ_lt hu) ?_))
  refine wpAny_bind (I.type.here (wpAny_bind (hb.here ?_)))
  split
  · rename_i q
    have e : subIn K tb (.ref C) = some false := by
      rcases Bool.or_eq_true_iff.mp hn with e | e
      · rw [beq_iff_eq.mp e] at q; simp at q
      · exact beq_iff_eq.mp e
    refine wpAny_bind ((looks_subIn X e).here ?_)
    simp only [Bool.false_eq_true, if_false]
    refine wpAny_bind (wpAny_mono one (fun r s' z => ?_) fun _ _ e => e)
    obtain ⟨v, rfl, hq⟩ := z
    exact wpAny_pure hq
  · refine wpAny_bind (wpAny_pure ?_)
    simp only [Bool.false_eq_true, if_false]
    refine wpAny_bind (wpAny_mono one (fun r s' z => ?_) fun _ _ e => e)
    obtain ⟨v, rfl, hq⟩ := z
    exact wpAny_pure hq
end
end PySem.W
namespace U
open PySem PySem.Spec PyProof.Rows L2
/-- what is asked of a plain own class -/
structure OwnC (K : PySem.W.Frag) (C : Addr) : Prop where
  cl : Cls K C
  sf : PySem.W.selfFirst K C = true
  ca : PySem.W.findIn K (.ref C) "__class__" = some (some (.builtin "object.__class__"))
  cn : PySem.W.specialIn K (.builtin "object.__class__") "__get__" = some (some (.builtin "getset_descriptor.__get__"))
  ct : PySem.W.takesIn K (.builtin "object.__class__") = some true
  cm : PySem.W.mroIn K C (.type "object") = some true
section
variable {X : Cx} {CX : CXT} {pins : List (Addr × Obj)} {σ : L2.St} {H : Hp} {s : Shared} {a C dx p g : Addr} {f : Str} {n : Nat} {sp : Sp} {E : XK} {v : V} {u : Value}
theorem ins_inst (I : Inv X pins σ H s) {fs : List (Str × V)} (ea : H a = some (.ins C dx fs)) : ∃ ox od, PySem.W.InstAt s.heap a ox C (some od) := by
  obtain ⟨mA, O, _⟩ := ins_get I.hok ea
  obtain ⟨od, J, _⟩ := O.look
  exact ⟨_, od, J⟩
/-- x op y, both instances of C -/
def rBin (C : Addr) (sp : Sp) (E : XK) : R2 := fun x y H Q => ∃ a dx fs b dy gs, x = .ref a ∧ y = .ref b ∧ H a = some (.ins C dx fs) ∧ H b = some (.ins C dy gs) ∧ sp [x, y] H Q E
theorem op_bin {op : Operator} (hc : PySem.W.selfFirst X.K C = true) (hs : PySem.W.findIn X.K (.ref C) (PySem.dunder op.info.2) = some (some (.ref g))) (hf : PySem.W.isFn X.K (.ref g) = true) (F : FnR X.prog X.w X.K X.mg X.base CX n g sp)
    (hr : Room n X.A) (hx : Passes CX X E) : OpR X (binaryOp op) (rBin C sp E) := by
  intro pins s σ H x y v u Q I rx ry h
  obtain ⟨a, dx, vs, b, dy, ws, rfl, rfl, ha, hb, q⟩ := h
  cases (show v = Value.ref a from rx)
  cases (show u = Value.ref b from ry)
  obtain ⟨ox, od, J⟩ := ins_inst I ha
  obtain ⟨oy, od', J'⟩ := ins_inst I hb
  obtain ⟨m, hF⟩ := I.fr
  refine PySem.W.binop_K (op := op) hF I.ok.mod.kin J J'.type hc hs hf ?_
  refine wpAny_mono (wpAny_call (run_fnR (us := [.ref a, .ref b]) (vs := [.ref a, .ref b]) F hr hx I (.cons rfl (.cons rfl .nil)) q)) (fun w s' z => ?_) fun _ _ x => x
  obtain ⟨z', H', I', rz, qz⟩ := z
  exact SlX.cmpback rz ⟨z', H', I', rz, qz⟩
theorem notFirst_self (K : PySem.W.Frag) (C : Addr) : PySem.W.notFirst K C (.ref C) = true := by
  unfold PySem.W.notFirst; simp
theorem op_cmp {op : CmpOp} (hop : ∀ a b, compareOp op a b = richCompare op a b) (hs : PySem.W.findIn X.K (.ref C) (cmpInfo op).2.1 = some (some (.ref g))) (hf : PySem.W.isFn X.K (.ref g) = true) (F : FnR X.prog X.w X.K X.mg X.base CX n g sp)
    (hr : Room n X.A) (hx : Passes CX X E) : OpR X (compareOp op) (rBin C sp E) := by
  intro pins s σ H x y v u Q I rx ry h
  obtain ⟨a, dx, vs, b, dy, ws, rfl, rfl, ha, hb, q⟩ := h
  cases (show v = Value.ref a from rx)
  cases (show u = Value.ref b from ry)
  obtain ⟨ox, od, J⟩ := ins_inst I ha
  obtain ⟨oy, od', J'⟩ := ins_inst I hb
  obtain ⟨m, hF⟩ := I.fr
  rw [hop]
  refine PySem.W.cmp_K (op := op) (tb := .ref C) hr.units0 hF I.ok.mod.kin J J'.type (notFirst_self _ _) hs hf ?_
  refine wpAny_mono (wpAny_call (run_fnR (us := [.ref a, .ref b]) (vs := [.ref a, .ref b]) F hr hx I (.cons rfl (.cons rfl .nil)) q)) (fun w s' z => ?_) fun _ _ x => x
  obtain ⟨z', H', I', rz, qz⟩ := z
  exact SlX.cmpback rz ⟨z', H', I', rz, qz⟩
/-- x != y by the own __eq__ -/
def rNeO (C : Addr) (sp : Sp) (E : XK) : R2 := fun x y H Q => ∃ a dx fs b dy gs, x = .ref a ∧ y = .ref b ∧ H a = some (.ins C dx fs) ∧ H b = some (.ins C dy gs) ∧ sp [x, y] H (fun z H' => ∃ c, z = .bl c ∧ Q (.bl (!c)) H') E
theorem op_neO (oc : OwnC X.K C) (hne : PySem.W.findIn X.K (.ref C) "__ne__" = some (some (.builtin "object.__ne__"))) (hs : PySem.W.findIn X.K (.ref C) "__eq__" = some (some (.ref g))) (hf : PySem.W.isFn X.K (.ref g) = true) (F : FnR X.prog X.w X.K X.mg X.base CX n g sp)
    (hr : Room (n + 1) X.A) (hx : Passes CX X E) : OpR X (compareOp .NotEq) (rNeO C sp E) := by
  intro pins s σ H x y v u Q I rx ry h
  obtain ⟨a, dx, vs, b, dy, ws, rfl, rfl, ha, hb, q⟩ := h
  cases (show v = Value.ref a from rx)
  cases (show u = Value.ref b from ry)
  obtain ⟨ox, od, J⟩ := ins_inst I ha
  obtain ⟨oy, od', J'⟩ := ins_inst I hb
  obtain ⟨m, hF⟩ := I.fr
  have hr1 : Room n X.A.in1 := Room.in1 hr
  refine PySem.W.my_ne_K (tb := .ref C) (hu_of hr) hF I.ok.mod.kin J J'.type (notFirst_self _ _) hne oc.cm hs hf ?_
  refine wpAny_mono (wpAny_call (SlX.run_at (us := [.ref a, .ref b]) (ws := [.ref a, .ref b]) F hr1 I.env0.in1 hx I (.cons rfl (.cons rfl .nil)) q)) (fun w s' z => ?_) fun _ _ x => x
  obtain ⟨z', H', I', rz, c, ez, qz⟩ := z
  subst ez
  cases (show w = Value.bool c from rz)
  exact ⟨c, rfl, .bl (!c), H', I', rfl, qz⟩
end
end U
namespace U
open PySem PySem.Spec PyProof.Rows L2 StX
/-! ### a def of the text, with how its arguments bind -/
structure FnAt (K : PySem.W.Frag) (x qual : Str) (st : Stmt) (f : Addr) (ps : List Str) : Prop where
  ex : ∃ fd, Fun K x qual st f fd ∧ Binds K fd ps []
theorem FnAt.kp {K : PySem.W.Frag} {x qual : Str} {st : Stmt} {f : Addr} {ps : List Str} (A : FnAt K x qual st f ps) : PySem.W.keepIn K (.ref f) = true := by
  obtain ⟨fd, F, _⟩ := A.ex
  exact F.kp
section
variable {P : Program} {w : World} {K : PySem.W.Frag} {mg : Str → Option Value} {base : Heap}
theorem FnAt.ok {x qual : Str} {st : Stmt} {f : Addr} {N ps : List Str} {k : Nat} {sp : Sp} (A : FnAt K x qual st f ps) (S : FnScope N ps (defScope st)) (len : ∀ vs H Q E, sp vs H Q E → vs.length = ps.length)
    (hbody : ∀ (cdv : Value) (A : Around) (outer : List Env) (s : Shared) (H : Hp) (vs : List V) (Q : VK) (E : XK), Room k (A.deeper (envOfC qual (defScope st) s.heap.objs.size f cdv)) → sp vs H Q E →
      ∃ t, PSs (cxOf CX0 P w K mg base N qual (defScope st) f cdv A outer s H E).nox (defBody st) t ∧ t { nx := fun _ H' => Q .non H', rt := Q } (start N vs) H) : FnR P w K mg base CX0 (k + 1) f sp := by
  obtain ⟨fd, F, B⟩ := A.ex
  have R := (F.ok (P := P) (w := w) (mg := mg) (base := base) S len hbody).raw B .nil
  exact R.imp fun vs H Q E h => by rw [List.append_nil]; exact h
end
section
variable {X : Cx} {CX : CXT} {k i : Nat} {f C p g a dx : Addr} {sp : Sp} {E : XK} {x fl : Str} {e o : Expr} {es : List Expr} {ta te tf : TE} {t : TA} {pp pos : Pos} {fs : List (Str × V)}
/-- x(e, ..), x a def of the module -/
def tCallR (sp : Sp) (E : XK) (t : TA) : TE := fun σ H Q => t σ H fun vs H1 => sp vs H1 Q E
theorem pe_callR (F : FnR X.prog X.w X.K X.mg X.base CX k f sp) (hr : Room k X.A) (hk : PySem.W.keepIn X.K (.ref f) = true) (hg : Gl X x) (hm : X.mg x = some (.ref f)) (hx : Passes CX X E) (ha : PA X (e :: es) t) (hdb : (x == ("__debug__" : Str)) = false := by decide)
    (he : starEach (e :: es) X.env = (false, eval e X.env) :: starEach es X.env := by rfl) (hpl : (backTo pos (starEach es X.env)).any (·.1) = false := by rfl) : PE X (.Call (.Name x pp) (e :: es) [] pos) (tCallR sp E t) := by
  refine ⟨fun pins s σ H Q I h => ?_⟩
  refine wpAny_Call_Name_kw (ld_glob I hg hm ?_ hdb)
  refine PySem.W.callWith_K (h₀ := X.base) I.ok.mod.kin hk (thn (ha.run pos pins s σ H _ I h) fun us s1 ⟨vs, H1, I1, r, q⟩ => ⟨I1.kIn, ?_⟩) he hpl
  exact wpAny_call (run_fnR F hr hx I1 r q)
/-- e.f, a property -/
def tPropR (C : Addr) (sp : Sp) (ta : TE) : TE := fun σ H Q => ta σ H fun x H1 => ∃ a dx fs, x = .ref a ∧ H1 a = some (.ins C dx fs) ∧ sp [.ref a] H1 Q E0
theorem pe_propR (he : PE X e ta) (c : Cls X.K C) (hp : PropOf X.K C fl p g) (F : FnR X.prog X.w X.K X.mg X.base CX0 k g sp) (hr : Room (k + 1) X.A)
    (hab : attributeBase e fl X.env (eval e X.env) = eval e X.env := by rfl) : PE X (.Attribute e fl pos) (tPropR C sp ta) := by
  refine ⟨fun pins s σ H Q I h => ?_⟩
  refine attr_of hab (thn (he.run pins s σ H _ I h) fun u s1 ⟨x, H1, I1, rx, a, dx, fs, ex, ea, q⟩ => ?_)
  subst ex
  obtain rfl : u = Value.ref a := rx
  obtain ⟨mA, O, _, _, _, _⟩ := ins_get I1.hok ea
  obtain ⟨od, J, _⟩ := O.look
  obtain ⟨rest, hrec⟩ := hp.rec_
  have I2 := I1.tok (s1.toks + 1)
  have hc : (PySem.W.clsIn X.K C).isSome = true := by
    obtain ⟨cd, hc, _⟩ := PySem.W.any_some c.hd
    rw [hc]
    rfl
  refine PySem.W.get_bind I1.kIn J (PySem.W.plainGet_of (c.get fl)).1 (PySem.W.findObj_data hc hp.at_ hp.get hp.tak) (PySem.W.plainGet_of (c.get fl)).2 (wpAny_call (PySem.W.prop_get (s := { s1 with toks := s1.toks + 1 }) I1.kIn hrec ?_))
  refine codeAny_mono (F X.A.in1 X.stack { s1 with toks := s1.toks + 1 } H1 [.ref a] [.ref a] Q E0 hr.in1 I2.env0.in1 (.cons rfl .nil) q) fun r s' hq => ?_
  cases r with
  | error er => exact False.elim hq
  | ok fl =>
    cases fl with
    | ret u =>
      obtain ⟨v, H', I3, rv, q3⟩ := I2.after hq
      show wpAny _ _ (handedOut u) _ _ _
      rw [PySem.W.handedOut_of (handed_of rv)]
      exact wpAny_pure ⟨v, H', I3, rv, q3⟩
    | next => exact False.elim hq
    | brk => exact False.elim hq
    | cont => exact False.elim hq
end
theorem ifD {c : Prop} [Decidable c] {A B : Prop} (h1 : c → A) (h2 : ¬ c → B) : if decide c = true then A else B := by
  by_cases h : c
  · rw [if_pos (decide_eq_true h)]; exact h1 h
  · rw [if_neg (by simp [h])]; exact h2 h
theorem ifN {c : Prop} [Decidable c] {A B : Prop} (h1 : ¬ c → A) (h2 : c → B) : if (!decide c) = true then A else B := by
  by_cases h : c
  · rw [if_neg (by simp [h])]; exact h2 h
  · rw [if_pos (by simp [h])]; exact h1 h
theorem ifB {c : Bool} {A B : Prop} (h1 : c = true → A) (h2 : c = false → B) : if c = true then A else B := by
  cases c with
  | true => rw [if_pos rfl]; exact h1 rfl
  | false => rw [if_neg Bool.false_ne_true]; exact h2 rfl
theorem ifNB {c : Bool} {A B : Prop} (h1 : c = false → A) (h2 : c = true → B) : if (!c) = true then A else B := by
  cases c with
  | true => exact iteF (h2 rfl)
  | false => exact iteT (h1 rfl)
end U
namespace U
open PySem PySem.Spec PyProof.Rows L2
/-- the ints' dicts compared -/
def dEq (ks ls : List (Key × V)) : Bool := ks.length == ls.length && ks.all fun p => decide (valV ls p.1 = some p.2)
def IntVals (ks : List (Key × V)) : Prop := ∀ p ∈ ks, ∃ i : Int, p.2 = .int i
theorem valV_mem {ls : List (Key × V)} {k : Key} {v : V} (h : valV ls k = some v) : ∃ p ∈ ls, p.2 = v := by
  unfold valV at h
  cases e : ls.find? (fun kv => decide (kv.1 = k)) with
  | none => rw [e] at h; cases h
  | some p =>
    rw [e] at h
    exact ⟨p, List.mem_of_find?_eq_some e, Option.some.inj h⟩
theorem hits_int {A : Around} {s : Shared} {ls : List (Key × V)} {vb : List (Key × Value)} (rb : KV ls vb) (il : IntVals ls) {ks : List (Key × V)} {va : List (Key × Value)} (ra : KV ks va) :
    IntVals ks → PySem.W.KeqHits A s vb va (ks.all fun p => decide (valV ls p.1 = some p.2)) := by
  unfold KV at ra
  induction ra with
  | nil => intro _; exact .nil
  | @cons p q ps qs h t ih =>
    intro hp
    obtain ⟨h1, h2⟩ := h
    obtain ⟨i, ei⟩ := hp p List.mem_cons_self
    obtain ⟨k, v⟩ := q
    have h1' : p.1 = k := h1
    subst h1'
    rw [ei] at h2
    obtain ⟨tk, ev⟩ := (show ∃ tk, v = Value.int i tk from h2)
    subst ev
    have rr : RelO (valV ls p.1) (valueAt vb p.1) := rb.val p.1
    rw [List.all_cons]
    cases e : valV ls p.1 with
    | none =>
      rw [e] at rr
      cases e2 : valueAt vb p.1 with
      | none => exact .miss e2
      | some y => rw [e2] at rr; exact rr.elim
    | some z =>
      rw [e] at rr
      obtain ⟨y, hy, ry⟩ := rr.some_of
      obtain ⟨p', hm, ep⟩ := valV_mem e
      obtain ⟨j, ej⟩ := il p' hm
      rw [ej] at ep
      subst ep
      obtain ⟨tk', ey⟩ := (show ∃ tk, y = Value.int j tk from ry)
      subst ey
      have b : decide (some (V.int j) = some p.2) = (i == j) := by
        rw [ei]
        by_cases h : i = j
        · subst h; simp
        · have h' : ¬ j = i := fun z => h z.symm
          simp [h, h']
      rw [b]
      exact .hit hy (SeqAt.EqAt.int_int i _ j _) (ih fun p' hm => hp p' (List.mem_cons_of_mem _ hm))
section
variable {X : Cx}
def rEqD : R2 := fun x y H Q => ∃ a b ks ls, x = .ref a ∧ y = .ref b ∧ H a = some (.dK ks) ∧ H b = some (.dK ls) ∧ IntVals ks ∧ IntVals ls ∧ Q (.bl (dEq ks ls)) H
def rNeD : R2 := fun x y H Q => ∃ a b ks ls, x = .ref a ∧ y = .ref b ∧ H a = some (.dK ks) ∧ H b = some (.dK ls) ∧ IntVals ks ∧ IntVals ls ∧ Q (.bl (!dEq ks ls)) H
theorem op_eqDI (hu : X.A.units < cLine) : OpR X (compareOp .Eq) rEqD := by
  intro pins s σ H x y v u Q I rx ry h
  obtain ⟨a, b, ks, ls, rfl, rfl, ea, eb, i1, i2, q⟩ := h
  cases (show v = Value.ref a from rx)
  cases (show u = Value.ref b from ry)
  obtain ⟨_, ya, va, ra, da⟩ := (show ObjOk X.prog X.w H s.heap a (.dK ks) from I.hok a _ ea)
  obtain ⟨_, yb, vb, rb, db⟩ := (show ObjOk X.prog X.w H s.heap b (.dK ls) from I.hok b _ eb)
  refine PySem.W.keq_eq (knd := mixKind X.prog X.w) ya yb da db hu (fun _ => hits_int rb i2 ra i1) (fin_bl I q ?_)
  unfold dEq
  rw [ra.length, rb.length]
theorem op_neDI (hu : X.A.units < cLine) : OpR X (compareOp .NotEq) rNeD := by
  intro pins s σ H x y v u Q I rx ry h
  obtain ⟨a, b, ks, ls, rfl, rfl, ea, eb, i1, i2, q⟩ := h
  cases (show v = Value.ref a from rx)
  cases (show u = Value.ref b from ry)
  obtain ⟨_, ya, va, ra, da⟩ := (show ObjOk X.prog X.w H s.heap a (.dK ks) from I.hok a _ ea)
  obtain ⟨_, yb, vb, rb, db⟩ := (show ObjOk X.prog X.w H s.heap b (.dK ls) from I.hok b _ eb)
  refine PySem.W.keq_ne (knd := mixKind X.prog X.w) ya yb da db hu (fun _ => hits_int rb i2 ra i1) (fin_bl I q ?_)
  unfold dEq
  rw [ra.length, rb.length]
end
end U
namespace U
open PySem PySem.Spec PyProof.Rows L2
/-! ### heaps -/
def Off (d : Addr) (H H' : Hp) : Prop := ∀ b o, b ≠ d → H b = some o → H' b = some o
theorem Same.new {H : Hp} {p : Addr} {o : HO} (h : H p = none) : L2.Same H (upd H p o) := fun b u e => by rw [upd_ne (ne_of_none e h)]; exact e
theorem Off.tr {d : Addr} {H H1 H2 : Hp} (a : Off d H H1) (b : Off d H1 H2) : Off d H H2 := fun c o hc e => b c o hc (a c o hc e)
theorem Off.lock {d : Addr} {H : Hp} {o : HO} : Off d H (upd H d o) := fun b u hb e => by rw [upd_ne hb]; exact e
theorem Off.new {d p : Addr} {H : Hp} {o : HO} (h : H p = none) : Off d H (upd H p o) := fun b u _ e => by rw [upd_ne (ne_of_none e h)]; exact e
theorem Off.free {d p : Addr} {H H' : Hp} {u : HO} (a : Off d H H') (hd : H' d = some u) (h : H' p = none) : H p = none := by
  cases e : H p with
  | none => rfl
  | some o =>
    by_cases hp : p = d
    · subst hp; rw [hd] at h; cases h
    · rw [a p o hp e] at h; cases h
theorem Off.back {d : Addr} {H H' : Hp} {u : HO} (a : Off d H H') (hd : H d = some u) : L2.Same H (upd H' d u) := fun b o e => by
  by_cases hb : b = d
  · subst hb; rw [hd] at e; cases e; exact upd_same
  · rw [upd_ne hb]; exact a b o hb e
/-- an object of the heap behind, that was not there ahead, may be changed -/
theorem Off.mut {d p : Addr} {H H' : Hp} {o : HO} (a : Off d H H') (h : H p = none) : Off d H (upd H' p o) := fun b u hb e => by rw [upd_ne (ne_of_none e h)]; exact a b u hb e
/-! ### a dict of ints -/
def kvI (l : List (Int × Int)) : List (Key × V) := l.map fun p => (Sum.inl p.1, V.int p.2)
theorem kvI_length (l : List (Int × Int)) : (kvI l).length = l.length := by simp [kvI]
theorem kvI_get {l : List (Int × Int)} {i : Nat} {k : Key} {v : V} (h : (kvI l)[i]? = some (k, v)) : ∃ x y, l[i]? = some (x, y) ∧ k = .inl x ∧ v = .int y := by
  unfold kvI at h
  rw [List.getElem?_map] at h
  cases e : l[i]? with
  | none => rw [e] at h; cases h
  | some p =>
    rw [e] at h
    obtain ⟨x, y⟩ := p
    cases h
    exact ⟨x, y, rfl, rfl, rfl⟩
def lk (l : List (Int × Int)) (x : Int) : Option Int := (l.find? fun p => decide (p.1 = x)).map (·.2)
theorem valV_kvI (l : List (Int × Int)) (x : Int) : valV (kvI l) (Sum.inl x : Key) = (lk l x).map V.int := by
  induction l with
  | nil => rfl
  | cons p r ih =>
    obtain ⟨a, b⟩ := p
    by_cases h : a = x
    · subst h
      rw [show kvI ((a, b) :: r) = (Sum.inl a, V.int b) :: kvI r from rfl, valV_pos rfl]
      simp [lk]
    · rw [show kvI ((a, b) :: r) = (Sum.inl a, V.int b) :: kvI r from rfl, valV_neg (fun z => h (Sum.inl.inj z)), ih]
      simp [lk, h]
theorem lk_none {l : List (Int × Int)} {x : Int} (h : x ∉ l.map (·.1)) : lk l x = none := by
  unfold lk
  rw [List.find?_eq_none.mpr]
  · rfl
  · intro p hp
    simp only [decide_eq_true_eq]
    exact fun e => h (List.mem_map.mpr ⟨p, hp, e⟩)
theorem lk_some {l : List (Int × Int)} (nd : (l.map (·.1)).Nodup) {x y : Int} (h : (x, y) ∈ l) : lk l x = some y := by
  induction l with
  | nil => cases h
  | cons p r ih =>
    obtain ⟨a, b⟩ := p
    rw [List.map_cons, List.nodup_cons] at nd
    rcases List.mem_cons.mp h with h | h
    · cases h; simp [lk]
    · have ne : ¬ a = x := fun z => nd.1 (by rw [z]; exact List.mem_map.mpr ⟨(x, y), h, rfl⟩)
      have := ih nd.2 h
      simpa [lk, ne] using this
theorem lk_mem {l : List (Int × Int)} {x y : Int} (h : lk l x = some y) : (x, y) ∈ l := by
  unfold lk at h
  cases e : l.find? (fun p => decide (p.1 = x)) with
  | none => rw [e] at h; cases h
  | some p =>
    rw [e] at h
    obtain ⟨a, b⟩ := p
    have h1 := List.find?_some e
    simp only [decide_eq_true_eq] at h1
    have h2 : b = y := Option.some.inj h
    subst h1 h2
    exact List.mem_of_find?_eq_some e
theorem intVals_kvI (l : List (Int × Int)) : IntVals (kvI l) := by
  intro p hp
  unfold kvI at hp
  obtain ⟨q, _, rfl⟩ := List.mem_map.mp hp
  exact ⟨q.2, rfl⟩
theorem putK_kvI {l : List (Int × Int)} {x y : Int} (h : x ∉ l.map (·.1)) : putK (kvI l) (Sum.inl x : Key) (V.int y) = kvI (l ++ [(x, y)]) := by
  have e : valV (kvI l) (Sum.inl x : Key) = none := by rw [valV_kvI, lk_none h]; rfl
  rw [putK_new _ e]
  simp [kvI]
theorem lk_append {l r : List (Int × Int)} {x : Int} : lk (l ++ r) x = (lk l x).or (lk r x) := by
  unfold lk
  rw [List.find?_append]
  cases l.find? (fun p => decide (p.1 = x)) <;> rfl
theorem lk_cons (a b : Int) (r : List (Int × Int)) (z : Int) : lk ((a, b) :: r) z = if a = z then some b else lk r z := by
  by_cases h : a = z <;> simp [lk, h]
theorem lk_mapOff (r : List (Int × Int)) (x y z : Int) (hz : ¬ z = x) : lk (r.map fun p => if p.1 = x then (p.1, y) else p) z = lk r z := by
  induction r with
  | nil => rfl
  | cons p r ih =>
    obtain ⟨a, b⟩ := p
    rw [List.map_cons]
    by_cases ha : a = x
    · subst ha
      have hz' : ¬ a = z := fun q => hz q.symm
      rw [if_pos rfl, lk_cons, lk_cons, if_neg hz', if_neg hz', ih]
    · rw [if_neg ha, lk_cons, lk_cons, ih]
theorem lk_mapPut {x y : Int} : ∀ (l : List (Int × Int)), x ∈ l.map (·.1) → ∀ z, lk (l.map fun p => if p.1 = x then (p.1, y) else p) z = if z = x then some y else lk l z
  | [], h, z => by cases h
  | (a, b) :: r, h, z => by
    by_cases hz : z = x
    · subst hz
      rw [if_pos rfl, List.map_cons]
      by_cases ha : a = z
      · subst ha
        rw [if_pos rfl, lk_cons, if_pos rfl]
      · rw [if_neg ha, lk_cons, if_neg ha]
        have h' : z ∈ r.map (·.1) := by
          rcases List.mem_cons.mp h with q | q
          · exact absurd q.symm ha
          · exact q
        rw [lk_mapPut r h' z, if_pos rfl]
    · rw [if_neg hz, lk_mapOff _ _ _ _ hz]
theorem putK_lk {l : List (Int × Int)} {x y : Int} : ∃ l', putK (kvI l) (Sum.inl x : Key) (V.int y) = kvI l' ∧ l'.length ≤ l.length + 1 ∧ ((l.map (·.1)).Nodup → (l'.map (·.1)).Nodup) ∧ ∀ z, lk l' z = if z = x then some y else lk l z := by
  by_cases h : x ∈ l.map (·.1)
  · refine ⟨l.map fun p => if p.1 = x then (p.1, y) else p, ?_, by simp, fun nd => ?_, fun z => ?_⟩
    · unfold putK
      rw [if_pos (by
        obtain ⟨p, hp, e⟩ := List.mem_map.mp h
        rw [List.any_eq_true]
        exact ⟨(Sum.inl p.1, V.int p.2), List.mem_map.mpr ⟨p, hp, rfl⟩, by simp [e]⟩)]
      unfold kvI
      rw [List.map_map, List.map_map]
      refine List.map_congr_left fun p _ => ?_
      by_cases e : p.1 = x
      · simp [e]
      · have e' : ¬ (Sum.inl p.1 : Key) = Sum.inl x := fun q => e (Sum.inl.inj q)
        simp [e]
    · have e : (l.map fun p => if p.1 = x then (p.1, y) else p).map (·.1) = l.map (·.1) := by
        rw [List.map_map]
        refine List.map_congr_left fun p _ => ?_
        by_cases e : p.1 = x <;> simp [e]
      rw [e]; exact nd
    · exact lk_mapPut l h z
  · refine ⟨l ++ [(x, y)], putK_kvI h, by simp, fun nd => ?_, fun z => ?_⟩
    · rw [List.map_append, List.nodup_append]
      refine ⟨nd, by simp, fun a ha b hb e => ?_⟩
      simp at hb
      subst hb
      exact h (e ▸ ha)
    · rw [lk_append]
      by_cases hz : z = x
      · subst hz; rw [lk_none h]; simp [lk]
      · have hz' : ¬ x = z := fun q => hz q.symm
        cases lk l z <;> simp [lk, hz, hz']
end U
namespace U
open PySem PySem.Spec PyProof.Rows L2
section
variable {J : It} {n : Nat} {G : Hp → Prop} {Y : Nat → Hp → V → Hp → Prop}
/-- a dict comprehension over a walk -/
theorem dc_it (w : Walk J n G Y) {g : TG} {tt : TT} {tk tv : TE} {vs : List Nat} {σ : L2.St} {H1 : Hp} {D : Addr} {Qd : Hp → Prop} (Pv : Nat → Hp → Prop) (h0 : Pv 0 (upd H1 D (.dK []))) (hG : ∀ i H, i ≤ n → Pv i H → G H)
    (hs : ∀ i x H H', i < n → Pv i H → Y i H x H' → g x (wipe σ vs) H' fun σ2 H2 => wipe σ2 vs = wipe σ vs ∧ tt σ2 H2 fun b H3 =>
      if b = true then tk σ2 H3 fun y H4 => tv σ2 H4 fun z H5 => ∃ kvs k, y = kV k ∧ H5 D = some (.dK kvs) ∧ kvs.length < sizeLine ∧ Pv (i + 1) (upd H5 D (.dK (putK kvs k z))) else Pv (i + 1) H3) (hd : ∀ H, Pv n H → Qd H) :
    ∃ W : Nat → Nat → Hp → Prop, (∃ m, W 0 m (upd H1 D (.dK []))) ∧ ∀ i m H, W i m H →
      (J.stop i H ∧ Qd H) ∨ (J.go i H ∧ ∃ Nx : Hp → Prop, (∀ H', Nx H' → ∃ m', m' < m ∧ W (i + 1) m' H') ∧ ∀ x H', J.yld i H x H' → g x (wipe σ vs) H' fun σ2 H2 => wipe σ2 vs = wipe σ vs ∧ tt σ2 H2 fun b H3 =>
        if b = true then tk σ2 H3 fun y H4 => tv σ2 H4 fun z H5 => ∃ kvs k, y = kV k ∧ H5 D = some (.dK kvs) ∧ kvs.length < sizeLine ∧ Nx (upd H5 D (.dK (putK kvs k z))) else Nx H3) := by
  refine ⟨fun i m H => m = n - i ∧ i ≤ n ∧ Pv i H, ⟨n, by simp, Nat.zero_le _, h0⟩, ?_⟩
  rintro i m H ⟨rfl, hi, p⟩
  have q := hG i H hi p
  by_cases hlt : i < n
  · exact .inr ⟨w.goes i H hlt q, Pv (i + 1), fun H' p' => ⟨n - (i + 1), by omega, rfl, hlt, p'⟩, fun x H' y => hs i x H H' hlt p (w.yields i H x H' hlt q y)⟩
  · have e : i = n := by omega
    subst e
    exact .inl ⟨w.stops H q, hd H p⟩
end
theorem take_more {α : Type} {l : List α} {i : Nat} {x : α} (h : l[i]? = some x) : l.take (i + 1) = l.take i ++ [x] := by
  rw [List.take_add_one, h]; rfl
theorem valV_none {kvs : List (Key × V)} {k : Key} (h : k ∉ kvs.map (·.1)) : valV kvs k = none := by
  unfold valV
  rw [List.find?_eq_none.mpr]
  · rfl
  · intro p hp
    simp only [decide_eq_true_eq]
    exact fun e => h (List.mem_map.mpr ⟨p, hp, e⟩)
/-- {k: v for x in range(lo, ..) if ..} -/
def madeR (c : Int → Bool) (kf : Int → Int) (vf : Int → V) (n : Nat) : List (Key × V) := ((List.range n).filter fun (i : Nat) => c (i : Int)).map fun (i : Nat) => ((Sum.inl (kf (i : Int)) : Key), vf (i : Int))
theorem madeR_succ (c : Int → Bool) (kf : Int → Int) (vf : Int → V) (n : Nat) : madeR c kf vf (n + 1) = madeR c kf vf n ++ (if c (n : Int) = true then [((Sum.inl (kf (n : Int)) : Key), vf (n : Int))] else []) := by
  unfold madeR
  rw [List.range_succ, List.filter_append, List.map_append]
  by_cases h : c (n : Int) = true
  · simp [h]
  · have h' : c (n : Int) = false := by simpa using h
    simp [h']
theorem madeR_len (c : Int → Bool) (kf : Int → Int) (vf : Int → V) (n : Nat) : (madeR c kf vf n).length ≤ n := by
  unfold madeR
  rw [List.length_map]
  exact Nat.le_trans (List.length_filter_le _ _) (by simp)
theorem madeR_keys {c : Int → Bool} {vf : Int → V} {n k : Nat} (h : (Sum.inl (k : Int) : Key) ∈ (madeR c (fun x => x) vf n).map (·.1)) : k < n := by
  unfold madeR at h
  rw [List.map_map] at h
  obtain ⟨i, hi, e⟩ := List.mem_map.mp h
  have h1 := (List.mem_filter.mp hi).1
  rw [List.mem_range] at h1
  have : (i : Int) = (k : Int) := Sum.inl.inj e
  omega
theorem dc_range {wi : TI} {i : Nat} {tt : TT} {tk tv : TE} {vs : List Nat} {σ : L2.St} {H0 H : Hp} {Q : VK} {n : Nat} (c : Int → Bool) (vf : Int → V) (hwi : ∀ R : It → Hp → Prop, R (Itr 0 n) H → wi σ H0 R)
    (hw : ∀ a, wipe ((wipe σ vs).set i a) vs = wipe σ vs)
    (hb : ∀ k : Nat, k < n → ∀ H1, L2.Same H H1 → (∀ R : Bool → Hp → Prop, R (c (k : Int)) H1 → tt ((wipe σ vs).set i (some (.int (0 + (k : Nat))))) H1 R) ∧
      (c (k : Int) = true → (∀ R : VK, R (.int (k : Int)) H1 → tk ((wipe σ vs).set i (some (.int (0 + (k : Nat))))) H1 R) ∧ ∀ R : VK, R (vf (k : Int)) H1 → tv ((wipe σ vs).set i (some (.int (0 + (k : Nat))))) H1 R))
    (hz : n < sizeLine) (hq : ∀ D H', H D = none → H' D = some (.dK (madeR c (fun x => x) vf n)) → L2.Same H H' → Q (.ref D) H') :
    tDc wi (gName i) tt tk tv vs σ H0 Q := by
  refine hwi _ ?_
  intro D hD
  refine dc_it walk_range (fun k H' => L2.Same H H' ∧ H' D = some (.dK (madeR c (fun x => x) vf k))) ⟨Same.new hD, upd_same⟩ (fun _ _ _ _ => trivial) ?_ ?_
  · rintro k v H' H'' hk ⟨p1, p2⟩ ⟨rfl, rfl⟩
    refine ⟨hw _, ?_⟩
    obtain ⟨b1, b2⟩ := hb k hk _ p1
    refine b1 _ ?_
    cases hc : c (k : Int) with
    | true =>
      refine iteT ?_
      obtain ⟨b3, b4⟩ := b2 hc
      refine b3 _ (b4 _ ⟨_, Sum.inl (k : Int), rfl, p2, Nat.lt_of_le_of_lt (madeR_len ..) (Nat.lt_trans hk hz), ?_, ?_⟩)
      · intro b o e
        rw [upd_ne (ne_of_none e hD)]
        exact p1 b o e
      · rw [upd_same, putK_new _ (valV_none fun z => Nat.lt_irrefl _ (madeR_keys z)), madeR_succ, if_pos hc]
    | false =>
      refine iteF ⟨p1, ?_⟩
      rw [madeR_succ, hc, p2]
      simp
  · rintro H' ⟨p1, p2⟩
    exact hq D _ hD p2 p1
end U
namespace U
open PySem PySem.Spec PyProof.Rows L2
/-- [v for x, y in d.items() if ..], the tests and parts reading alone -/
def madeL (c : Int → Int → Bool) (vf : Int → Int → V) (l : List (Int × Int)) : List V := (l.filter fun p => c p.1 p.2).map fun p => vf p.1 p.2
theorem madeL_step {c : Int → Int → Bool} {vf : Int → Int → V} {l : List (Int × Int)} {i : Nat} {x y : Int} (h : l[i]? = some (x, y)) :
    madeL c vf (l.take (i + 1)) = madeL c vf (l.take i) ++ (if c x y = true then [vf x y] else []) := by
  rw [take_more h]
  unfold madeL
  rw [List.filter_append, List.map_append]
  by_cases hc : c x y = true
  · simp [hc]
  · have hc' : c x y = false := by simpa using hc
    simp [hc']
theorem madeL_len (c : Int → Int → Bool) (vf : Int → Int → V) (l : List (Int × Int)) (i : Nat) : (madeL c vf (l.take i)).length ≤ l.length := by
  unfold madeL
  rw [List.length_map]
  exact Nat.le_trans (List.length_filter_le _ _) (by rw [List.length_take]; omega)
theorem lc_items {K : PySem.W.Frag} {d : Addr} {l : List (Int × Int)} {te : TE} {i j : Nat} {tt : TT} {tv : TE} {vs : List Nat} {σ : L2.St} {H : Hp} {Q : VK} (c : Int → Int → Bool) (vf : Int → Int → V)
    (hd : H d = some (.dK (kvI l))) (hte : ∀ H' (R : VK), R (.ref d) H' → Off d H H' → te σ H' R)
    (hw : ∀ a b, wipe (((wipe σ vs).set i a).set j b) vs = wipe σ vs)
    (hb : ∀ x y, (x, y) ∈ l → ∀ H1, Off d H H1 → (∀ R : Bool → Hp → Prop, R (c x y) H1 → tt (((wipe σ vs).set i (some (.int x))).set j (some (.int y))) H1 R) ∧
      (c x y = true → ∀ R : VK, R (vf x y) H1 → tv (((wipe σ vs).set i (some (.int x))).set j (some (.int y))) H1 R))
    (hz : l.length < sizeLine)
    (hq : ∀ D H', H D = none → H' D = some (.lst (madeL c vf l)) → L2.Same H H' → Q (.ref D) H') :
    tLockE (tLc (iItems te) (gTup K 2 (gCons (gName i) (gCons (gName j) gNil))) tt tv vs) σ H Q := by
  refine ⟨d, _, hd, trivial, fun od => ?_⟩
  refine hte _ _ ⟨d, od, kvI l, rfl, upd_same, fun D hD => ?_⟩ Off.lock
  have hDd : D ≠ d := fun e => by rw [e, upd_same] at hD; cases hD
  have hD0 : H D = none := by rw [upd_ne hDd] at hD; exact hD
  refine lc_it walk_items (fun k H' => H' d = some (.frz od (.dK (kvI l))) ∧ Off d H H' ∧ H' D = some (.lst (madeL c vf (l.take k)))) ⟨?_, Off.lock.mut hD0, upd_same⟩ (fun k H' _ p => p.1) ?_ ?_
  · rw [upd_ne hDd.symm]; exact upd_same
  · rintro k v H' H'' hk ⟨p1, p2, p3⟩ ⟨T, a, b, rfl, hT, rfl, e1, e2⟩
    rw [kvI_length] at hk
    obtain ⟨⟨x, y⟩, exy⟩ : ∃ p, l[k]? = some p := ⟨_, List.getElem?_eq_getElem hk⟩
    have ek : (kvI l)[k]? = some (Sum.inl x, V.int y) := by unfold kvI; rw [List.getElem?_map, exy]; rfl
    dsimp only at e1 e2
    rw [ek] at e1 e2
    cases e1; cases e2
    have nTd : d ≠ T := ne_of_none p1 hT
    have nTD : D ≠ T := ne_of_none p3 hT
    refine ⟨T, [.int x, .int y], rfl, SqT.of upd_same, rfl, .int x, [.int y], rfl, .int y, [], rfl, rfl, ?_⟩
    refine ⟨hw _ _, ?_⟩
    have o2 : Off d H (upd H' T (.tup [.int x, .int y])) := p2.tr (Off.new hT)
    obtain ⟨b1, b2⟩ := hb x y (List.mem_of_getElem? exy) _ o2
    refine b1 _ ?_
    have d3 : (upd H' T (.tup [.int x, .int y])) d = some (.frz od (.dK (kvI l))) := by rw [upd_ne nTd]; exact p1
    have D3 : (upd H' T (.tup [.int x, .int y])) D = some (.lst (madeL c vf (l.take k))) := by rw [upd_ne nTD]; exact p3
    have st := madeL_step (c := c) (vf := vf) exy
    cases hc : c x y with
    | true =>
      rw [hc, if_pos rfl] at st
      refine iteT (b2 hc _ ⟨_, D3, Nat.lt_of_le_of_lt (madeL_len ..) hz, ?_⟩)
      refine ⟨?_, o2.mut hD0, ?_⟩
      · rw [upd_ne hDd.symm]; exact d3
      · rw [upd_same, st]
    | false =>
      rw [hc, if_neg Bool.false_ne_true, List.append_nil] at st
      refine iteF ⟨d3, o2, ?_⟩
      rw [st]
      exact D3
  · rintro H' ⟨p1, p2, p3⟩
    rw [kvI_length, List.take_length] at p3
    refine ⟨p1, hq D _ hD0 ?_ (p2.back hd)⟩
    rw [upd_ne hDd]
    exact p3
end U
/-! ### own errors over any built-in error -/
namespace PySem
namespace GEX
open PySem.W PySem.Calls PyProof.Rows PySem.HandSPX Builtin Builtin.ObjectAttr
section
variable {prog : Program} {w : World} {A : Around} {E : Value → Shared → Prop} {R : Result → Shared → Prop} {hp : Heap} {gs : Array GenState} {dr : Drawn} {tn : Nat} {os : OsState}
/-- what is asked of the class's chain -/
structure Mro (m : List Value) : Prop where
  ob : m.contains (.type "object") = true
  ne : m.isEmpty = false
  ps : ∀ self : Value, refuseLoop self "__setattr__" m = pure ()
theorem mro_of {bmB bm : List Value} {B : String} (SF : StoreFacts B bmB "object.__setattr__" "object") (h : excTail bmB bm = true) (C : Addr) : Mro (.ref C :: bm) := by
  have h' : excTail bmB (.ref C :: bm) = true := h
  exact ⟨(excTail_contains "object" _ h').trans SF.hasOwner, rfl, fun self => excTail_pass self (SF.passes self) _ h'⟩
theorem osa_first {K : Frag} {nm : Str} {tk : Tok} {v : Value} {x C : Addr} {fv : Array Value} {cd : ClassData} (X : K.In hp) (hx : hp.get? x = some { cls := .ref C, data := .fields fv }) (hcd : clsIn K C = some cd) (hm : Mro cd.mro) (hh : cd.hasDict = true) (ha : findIn K (.ref C) nm = some none)
    (hq : ∀ h' tk' dx, (∀ b o, b ≠ x → hp.get? b = some o → h'.get? b = some o) → hp.objs.size ≤ dx → dx ≠ x → h'.get? x = some { cls := .ref C, dict := some dx, data := .fields fv } → h'.Ns1 dx (fun y => if y = nm then some v else none) → R (.ok (.ret .none)) ⟨h', gs, dr, tk', os⟩) :
    codeAny (model prog w) A (.call (.builtin "object.__setattr__") ⟨[.ref x, .str nm tk, v], []⟩) R ⟨hp, gs, dr, tn, os⟩ := by
  have I : InstAt hp x { cls := .ref C, data := .fields fv } C none := ⟨hx, rfl, rfl, trivial⟩
  have hxs : x ≠ hp.objs.size := Nat.ne_of_lt (Heap.lt_size hx)
  have S0 := F.store_object
  have l1 : Looks (model prog w) hp (isInstance (.ref x) (.type "object")) true := I.type.andThen (looks_mroIn X (by unfold mroIn; rw [hcd, Option.bind_some, if_neg (by rw [hm.ne]; decide), hm.ob]))
  refine codeAny_call_builtin S0.slot.plain S0.entry ?_
  refine @check_slot (model prog w) _ _ ⟨hp, gs, dr, tn, os⟩ "object.__setattr__" "object" "__setattr__" (.ref x) [.str nm tk, v] [] _ S0.kind S0.split l1 (S0.args (.ref x) (.str nm tk) v) ?_
  have l2 : Looks (model prog w) hp (mroOf (.ref C)) cd.mro := (looks_clsIn X hcd).andThen .now
  have l3 : Looks (model prog w) hp (storeTaker? none) none := .now
  have l4 : Looks (model prog w) hp (classData C) cd := looks_clsIn X hcd
  rw [osa_eq, refuse_eq]
  refine wpAny_bind (wpAny_bind (I.type.at (wpAny_bind (l2.at ?_)))); rw [hm.ps]
  refine wpAny_pure (wpAny_bind (I.type.at (wpAny_bind ((looks_findIn X ha).at (wpAny_bind (l3.at ?_))))))
  show wpAny _ _ (storeInOwnDict (.ref x) (.ref C) (.str nm tk) nm v false) _ _ _
  obtain ⟨c1, c2, c3, c4, c5, c6, c7, c8, c9, c10, c11⟩ := cd
  have hh' : c6 = true := hh
  subst hh'
  unfold storeInOwnDict ownDictForStores
  repeat (first | with_reducible refine HandSPX.store_in_new ?_ ?_ | with_reducible refine wpAny_loadPart_at hx ?_ | with_reducible refine l4.at ?_ | wp_step)
  · refine ⟨_, #[], _, (Heap.get?_update_ne _ _ _ _ hxs.symm).trans (Heap.get?_push_at rfl rfl), rfl, fun e he => ?_, fun _ => rfl⟩
    simp at he
  · intro h' tk' hn' hs
    have hx1 : (hp.push { cls := .type "dict", data := .dict #[] }).get? x = some { cls := .ref C, data := .fields fv } := Heap.get?_push_of_some _ hx
    exact hq h' tk' hp.objs.size (fun b o hb ho => (hs.2 b (Nat.ne_of_lt (Heap.lt_size ho))).trans ((Heap.get?_update_ne _ _ _ _ hb).trans (Heap.get?_push_of_some _ ho))) (Nat.le_refl _) hxs.symm ((hs.2 x hxs).trans (Heap.get?_update_self _ hx1 rfl)) hn'
theorem osa_more {K : Frag} {nm : Str} {tk : Tok} {v : Value} {x C dx : Addr} {fv : Array Value} {cd : ClassData} {m0 : Str → Option Value} {nl : List Str} (X : K.In hp) (hx : hp.get? x = some { cls := .ref C, dict := some dx, data := .fields fv }) (hns : hp.Ns1 dx m0) (hw : Within m0 nl) (hz : nl.length ≤ 1000) (hcd : clsIn K C = some cd) (hm : Mro cd.mro) (hh : cd.hasDict = true) (ha : findIn K (.ref C) nm = some none)
    (hq : ∀ h' tk', (∀ b o, b ≠ dx → hp.get? b = some o → h'.get? b = some o) → h'.Ns1 dx (fun y => if y = nm then some v else m0 y) → R (.ok (.ret .none)) ⟨h', gs, dr, tk', os⟩) :
    codeAny (model prog w) A (.call (.builtin "object.__setattr__") ⟨[.ref x, .str nm tk, v], []⟩) R ⟨hp, gs, dr, tn, os⟩ := by
  obtain ⟨oD, _, _, hoD, _, _⟩ := hns.count hw
  have I : InstAt hp x { cls := .ref C, dict := some dx, data := .fields fv } C (some oD) := ⟨hx, rfl, rfl, hoD⟩
  have S0 := F.store_object
  have l1 : Looks (model prog w) hp (isInstance (.ref x) (.type "object")) true := I.type.andThen (looks_mroIn X (by unfold mroIn; rw [hcd, Option.bind_some, if_neg (by rw [hm.ne]; decide), hm.ob]))
  refine codeAny_call_builtin S0.slot.plain S0.entry ?_
  refine @check_slot (model prog w) _ _ ⟨hp, gs, dr, tn, os⟩ "object.__setattr__" "object" "__setattr__" (.ref x) [.str nm tk, v] [] _ S0.kind S0.split l1 (S0.args (.ref x) (.str nm tk) v) ?_
  have l2 : Looks (model prog w) hp (mroOf (.ref C)) cd.mro := (looks_clsIn X hcd).andThen .now
  have l3 : Looks (model prog w) hp (storeTaker? none) none := .now
  have l4 : Looks (model prog w) hp (classData C) cd := looks_clsIn X hcd
  rw [osa_eq, refuse_eq]
  refine wpAny_bind (wpAny_bind (I.type.at (wpAny_bind (l2.at ?_)))); rw [hm.ps]
  refine wpAny_pure (wpAny_bind (I.type.at (wpAny_bind ((looks_findIn X ha).at (wpAny_bind (l3.at ?_))))))
  show wpAny _ _ (storeInOwnDict (.ref x) (.ref C) (.str nm tk) nm v false) _ _ _
  obtain ⟨c1, c2, c3, c4, c5, c6, c7, c8, c9, c10, c11⟩ := cd
  have hh' : c6 = true := hh
  subst hh'
  unfold storeInOwnDict ownDictForStores
  repeat (first | with_reducible refine OEX.store_in_old hns hw hz ?_ | with_reducible refine wpAny_loadPart_at hx ?_ | with_reducible refine l4.at ?_ | wp_step)
  intro h' tk' hn' hs
  exact hq h' tk' (fun b o hb ho => (hs.2 b hb).trans ho) hn'
end
end GEX
end PySem
namespace L2
open PySem PySem.Spec PyProof.Rows PySem.W
/-- what the written part says of an own error class -/
structure OexG (K : PySem.W.Frag) (C : Addr) : Prop where
  cls : ∃ B newId initId bmB nm q N bs bm sn sub ab col dd k0 k1 k2 k3 k5, PySem.StoreFacts B bmB "object.__setattr__" "object" ∧ ExcBaseFacts B newId initId bmB ∧ K.lookup C = some (excClassObj nm q C N bs bm true sn sub ab col dd k0 k1 k2 k3 k5 newId) ∧ PySem.W.excTail bmB bm = true
  sa : PySem.W.findIn K (.ref C) "__setattr__" = some (some (.builtin "object.__setattr__"))
  exC : PySem.W.subIn K (.ref C) (.type "BaseException") = some true
  tyC : PySem.W.typeIn K (.ref C) = some (.type "type")
  kC : PySem.W.keepIn K (.ref C) = true
section
variable {X : Cx} {pins : List (Addr × Obj)} {σ : St} {H : Hp} {s : Shared} {a C dx : Addr} {f : Str} {y : V} {u : Value} {fs : List (Str × V)} {Q : Unit → Shared → Prop} {E : Value → Shared → Prop} {A : Around}
theorem OexG.look {K : PySem.W.Frag} {C : Addr} (T : OexG K C) : ∃ cd, PySem.W.clsIn K C = some cd ∧ PySem.GEX.Mro cd.mro ∧ cd.hasDict = true := by
  obtain ⟨B, nI, iI, bmB, nm, q, N, bs, bm, sn, sub, ab, col, dd, k0, k1, k2, k3, k5, SF, _, hC, hb⟩ := T.cls
  refine ⟨{ name := nm, bases := bs, mro := .ref C :: bm, ns := N, qualname := q, hasDict := true, slotNames := sn, subclasses := sub, abstract := ab, collection := col, hasDel := false }, ?_, PySem.GEX.mro_of SF hb C, rfl⟩
  unfold PySem.W.clsIn
  rw [hC] <;> rfl
/-- self.f = y, none there as yet -/
theorem ostG_new (T : OexG X.K C) (I : Inv X pins σ H s) (e : H a = some (exo a C none)) (hno : PySem.W.findIn X.K (.ref C) f = some none) (ry : RelV y u)
    (k : ∀ dx s', H dx = none → dx ≠ a → Inv X pins σ (upd (upd H dx (exd dx [(f, y)])) a (exo a C (some dx))) s' → Q () s') : wpAny (model X.prog X.w) A (setAttr (.ref a) f u) Q E s := by
  obtain ⟨cd, hcd, hmr, hdc⟩ := T.look
  obtain ⟨t1, ho⟩ := exo_at I.hok e
  obtain ⟨h0, gs, dr, tn, os⟩ := s
  refine PySem.W.set_plain I.kIn (ox := ⟨.ref C, none, .fields #[.ref t1, .none, .none, .none, .bool false, .none], #[]⟩) (od := none) ⟨ho, rfl, rfl, trivial⟩ T.sa ?_
  refine PySem.GEX.osa_first I.kIn ho hcd hmr hdc hno fun h' tk' dx kp dn dne hx hn => ?_
  have dfree : H dx = none := I.hok.fresh dn
  have low : ∀ {b : Addr} {o : Obj}, h0.get? b = some o → b ≠ dx := fun q => Nat.ne_of_lt (Nat.lt_of_lt_of_le (Heap.lt_size q) dn)
  have apart : ∀ {b : Addr}, H b = none → b ≠ a := fun {b} n z => by subst z; rw [e] at n; cases n
  have U1 : Un X.fs [] H (upd (upd H dx (exd dx [(f, y)])) a (exo a C (some dx))) h0 h' := by
    refine ⟨fun b o q n _ _ => kp b o (apart n) q, fun b o q n _ _ => ⟨o.slots, kp b o (apart n) q⟩, fun b o q n _ => ?_, fun b o q _ => ?_, fun b xs q => ?_, fun b o v q => ?_, fun b ps q => ⟨#[], ?_⟩⟩
    · rw [upd_ne (apart n), upd_ne (low q)]; exact n
    · by_cases hb : b = a
      · subst hb; exact ⟨_, hx⟩
      · exact ⟨o, kp b o hb q⟩
    · rw [upd_ne (at_ne e q exo_tup), upd_ne (ne_of_none q dfree)]; exact q
    · rw [upd_ne (at_ne e q exo_frz), upd_ne (ne_of_none q dfree)]; exact q
    · rw [upd_ne (at_ne e q exo_tbl), upd_ne (ne_of_none q dfree), q]; simp
  refine k dx _ dfree dne (I.un (t' := tk') U1 fun b o q => ?_)
  by_cases hb : b = a
  · subst hb; rw [upd_same] at q; cases q
    exact exo_ok hx
  · rw [upd_ne hb] at q
    by_cases hd : b = dx
    · subst hd; rw [upd_same] at q; cases q
      exact exd_ok hn (relO_put (fs := []) ry fun _ => True.intro)
    · rw [upd_ne hd] at q
      refine (I.hok b o q).stay (fun c v hc z => kp c v ?_ z) (fun c hc => ?_) (fun c xs hc => ?_)
      · rcases hc with rfl | hc
        · exact hb
        · exact at_ne e hc exo_own
      · rw [upd_ne (at_ne e hc exo_own), upd_ne (ne_of_none hc dfree)]; exact hc
      · rw [upd_ne (at_ne e hc exo_tup), upd_ne (ne_of_none hc dfree)]; exact hc
theorem ostG_old (T : OexG X.K C) (I : Inv X pins σ H s) (e : H a = some (exo a C (some dx))) (ed : H dx = some (exd dx fs)) (hl : fs.length ≤ 900) (hno : PySem.W.findIn X.K (.ref C) f = some none) (ry : RelV y u)
    (k : ∀ s', Inv X pins σ (upd H dx (exd dx ((f, y) :: fs))) s' → Q () s') : wpAny (model X.prog X.w) A (setAttr (.ref a) f u) Q E s := by
  obtain ⟨cd, hcd, hmr, hdc⟩ := T.look
  obtain ⟨t1, ho⟩ := exo_at I.hok e
  obtain ⟨mA, hns, rel⟩ := exd_at I.hok ed
  have win := within_of rel
  obtain ⟨oD, _, _, hoD, _, _⟩ := hns.count win
  obtain ⟨h0, gs, dr, tn, os⟩ := s
  refine PySem.W.set_plain I.kIn (ox := ⟨.ref C, some dx, .fields #[.ref t1, .none, .none, .none, .bool false, .none], #[]⟩) (od := some oD) ⟨ho, rfl, rfl, hoD⟩ T.sa ?_
  refine PySem.GEX.osa_more I.kIn ho hns win (by rw [List.length_map]; omega) hcd hmr hdc hno fun h' tk' kp hn => ?_
  have there : ∃ o, h'.get? dx = some o := by
    obtain ⟨o, _, _, e', _⟩ := hn
    exact ⟨o, e'⟩
  exact k _ (I.write (t' := tk') (x := dx) (e := dx) (o := exd dx ((f, y) :: fs)) (by rw [ed]; exact True.intro) (.inl rfl) kp there (exd_ok hn (relO_put ry rel)))
end
/-- self.f = e, self an error being made -/
def tOstG (K : PySem.W.Frag) (f : Str) (to te : TE) : TS := fun D σ H => te σ H fun y H1 => to σ H1 fun x H2 => ∃ a C : Addr, x = .ref a ∧ OexG K C ∧ PySem.W.findIn K (.ref C) f = some none ∧
  ((H2 a = some (exo a C none) ∧ ∀ dx, H2 dx = none → dx ≠ a → D.nx σ (upd (upd H2 dx (exd dx [(f, y)])) a (exo a C (some dx)))) ∨
    ∃ (dx : Addr) (fs : List (Str × V)), H2 a = some (exo a C (some dx)) ∧ H2 dx = some (exd dx fs) ∧ fs.length ≤ 900 ∧ D.nx σ (upd H2 dx (exd dx ((f, y) :: fs))))
section
variable {X : Cx} {o e : Expr} {es : List Expr} {to te : TE} {ta : TA} {f : Str} {p p' pos : Pos}
theorem ps_ostG (ho : PE X o to) (he : PE X e te) (hs : swapsWith e (some (.Attribute o f p')) pos.line X.env = pure false := by rfl) : PS X (.Assign [.Attribute o f p'] e pos) (tOstG X.K f to te) := by
  refine ⟨fun pins s σ H D I h => plainObj_wpAny_Assign_Attribute (thn (he.run pins s σ H _ I h) fun v s1 ⟨y, H1, I1, r1, q1⟩ => thn (ho.run pins s1 σ H1 _ I1 q1) fun u s2 ⟨x, H2, I2, r2, a, C, ex, T, hno, q⟩ => ?_) hs⟩
  subst ex
  cases (show u = Value.ref a from r2)
  rcases q with ⟨ea, q⟩ | ⟨dx, fs, ea, ed, hl, q⟩
  · exact ostG_new T I2 ea hno r1 fun dx _ n ne J => ⟨σ, _, J, q dx n ne⟩
  · exact ostG_old T I2 ea ed hl hno r1 fun _ J => ⟨σ, _, J, q⟩
/-- C(e, ..) -/
theorem pmk_oexG {CX : CXT} {x : Str} {C fI : Addr} {k : Nat} {sp : Sp} (T : OexG X.K C) (iC : PySem.W.findIn X.K (.ref C) "__init__" = some (some (.ref fI))) (tI : PySem.W.typeIn X.K (.ref fI) = some (.type "function"))
    (F1 : FnR X.prog X.w X.K X.mg X.base CX k fI sp) (hr : Room (k + 1) X.A) (hx : Passes CX X (fun _ _ _ => False)) (hg : Gl X x) (hm : X.mg x = some (.ref C)) (ha : PA X (e :: es) ta)
    (hdb : (x == ("__debug__" : Str)) = false := by decide) (he : starEach (e :: es) X.env = (false, eval e X.env) :: starEach es X.env := by rfl) (hpl : (backTo pos (starEach es X.env)).any (·.1) = false := by rfl) :
    PMk X (.Call (.Name x p) (e :: es) [] pos) (tMkO C sp [] ta) := by
  intro pins s σ H Q I h
  obtain ⟨B, nI, iI, bmB, nm, q, N, bs, bm, sn, sub, ab, col, dd, k0, k1, k2, k3, k5, _, BF, hC, hbm⟩ := T.cls
  refine wpAny_Call_Name_kw (ld_glob I hg hm ?_ hdb)
  refine PySem.W.callWith_K (h₀ := X.base) I.ok.mod.kin T.kC (thn (ha.run pos pins s σ H _ I h) fun us s1 ⟨vs, H1, I1, r1, hz, q1⟩ => ⟨I1.kIn, ?_⟩) he hpl
  show wpAny _ _ (call (.ref C) us) _ _ _
  obtain ⟨h0, gs, dr, tn, os⟩ := s1
  have up : h0.objs.size ≤ h0.objs.size + 1 := Nat.le_succ _
  have hq := q1 (h0.objs.size + 1) (I1.hok.fresh up)
  rw [List.append_nil] at hq
  have kk : ∀ b o, h0.get? b = some o → ((h0.push (PySem.W.kdv_tup us)).push (PySem.HandSPX.excO C h0.objs.size)).get? b = some o := fun b o z => Heap.get?_push_of_some _ (Heap.get?_push_of_some _ z)
  have there : ((h0.push (PySem.W.kdv_tup us)).push (PySem.HandSPX.excO C h0.objs.size)).get? (h0.objs.size + 1) = some (PySem.HandSPX.excO C h0.objs.size) := by heap_get
  have I2 : Inv X pins σ (upd H1 (h0.objs.size + 1) (exo (h0.objs.size + 1) C none)) ⟨(h0.push (PySem.W.kdv_tup us)).push (PySem.HandSPX.excO C h0.objs.size), gs, dr, tn, os⟩ := I1.laid (t' := tn) kk up (exo_ok there)
  have r2 : Vals (V.ref (h0.objs.size + 1) :: vs) (Value.ref (h0.objs.size + 1) :: us) := .cons rfl r1
  have hus : us.length ≤ sizeLine := by rw [← Paired.length r1, sizeLine_eq]; omega
  refine wpAny_call (PySem.HandSPX.call_own BF (fun Y => PySem.W.excTail_contains Y bm hbm) (I1.kIn _ _ hC) (PySem.W.looks_findIn I1.kIn iC) (fun self => PySem.W.bind_fn I1.kIn self tI) hus ?_)
  refine codeAny_mono (F1 _ X.stack _ _ (Value.ref (h0.objs.size + 1) :: us) _ _ (fun _ _ _ => False) (hr.make C us []) (I2.env0.make C us []) r2 hq) fun r s' hq' => ?_
  cases r with
  | error er => exact hx pins σ _ _ er s' I2 hq'
  | ok fl =>
    cases fl with
    | ret u =>
      obtain ⟨v, H2, os2, bare2, un2, hok2, rv, ev, d, fs, ea, ed, hd1, q2⟩ := hq'
      subst ev
      obtain ⟨h2, g2, d2, t2, os'⟩ := s'
      exact ⟨rv, mk_end (raises_own T.exC T.tyC) I1 up kk un2 hok2 os2 bare2 ea ed hd1 q2⟩
    | next => exact False.elim hq'
    | brk => exact False.elim hq'
    | cont => exact False.elim hq'
end
end L2
namespace U
open PySem PySem.Spec PyProof.Rows L2 StX
section
variable {P : Program} {w : World} {K : PySem.W.Frag} {mg : Str → Option Value} {base : Heap}
/-- a def that may raise -/
theorem FnAt.okX {x qual : Str} {st : Stmt} {f : Addr} {N ps : List Str} {k : Nat} {sp : Sp} (A : FnAt K x qual st f ps) (S : FnScope N ps (defScope st)) (len : ∀ vs H Q E, sp vs H Q E → vs.length = ps.length)
    (hbody : ∀ (cdv : Value) (A : Around) (outer : List Env) (s : Shared) (H : Hp) (vs : List V) (Q : VK) (E : XK), Room k (A.deeper (envOfC qual (defScope st) s.heap.objs.size f cdv)) → sp vs H Q E →
      ∃ t, PSs (cxOf (L2.CX P w) P w K mg base N qual (defScope st) f cdv A outer s H E) (defBody st) t ∧ t { nx := fun _ H' => Q .non H', rt := Q } (start N vs) H) : FnR P w K mg base (L2.CX P w) (k + 1) f sp := by
  obtain ⟨fd, F, B⟩ := A.ex
  have R := (F.okX (P := P) (w := w) (mg := mg) (base := base) S len hbody).raw B .nil
  exact R.imp fun vs H Q E h => by rw [List.append_nil]; exact h
end
section
variable {X : Cx} {CX : CXT} {pins : List (Addr × Obj)} {σ : L2.St} {H : Hp} {s : Shared} {a C dx p g f : Addr} {n k : Nat} {sp : Sp} {E : L2.St → XK} {v : V} {u : Value} {x : Str} {e ea eb : Expr} {es : List Expr} {ta tb : TE} {t : TA} {pp pos : Pos}
theorem run_RS {Q : VK} {us : List Value} {vs : List V} {E : XK} (F : FnR X.prog X.w X.K X.mg X.base CX k f sp) (hr : Room k X.A) (hx : PassesAt CX X σ E) (I : Inv X pins σ H s) (r : Vals vs us) (h : sp vs H Q E) :
    codeAny (model X.prog X.w) X.A (.call (.ref f) ⟨us, []⟩) (fun r s' => match r with | .ok (.ret v) => EP X pins σ Q v s' | .ok _ => False | .error e => X.xe e s') s := by
  refine codeAny_mono (F X.A X.stack s H us vs Q E hr I.env0 r h) fun z s' hq => ?_
  match z, hq with
  | .error er, hq => exact hx pins H s er s' I hq
  | .ok (.ret w), hq => exact I.after hq
  | .ok .next, hq => exact hq.elim
  | .ok .brk, hq => exact hq.elim
  | .ok .cont, hq => exact hq.elim
/-- x(e, ..), what it raises told by the slots -/
def tCallRS (sp : Sp) (E : L2.St → XK) (t : TA) : TE := fun σ H Q => t σ H fun vs H1 => sp vs H1 Q (E σ)
theorem pe_callRS (F : FnR X.prog X.w X.K X.mg X.base CX k f sp) (hr : Room k X.A) (hk : PySem.W.keepIn X.K (.ref f) = true) (hg : Gl X x) (hm : X.mg x = some (.ref f)) (hx : ∀ σ, PassesAt CX X σ (E σ)) (ha : PA X (e :: es) t) (hdb : (x == ("__debug__" : Str)) = false := by decide)
    (he : starEach (e :: es) X.env = (false, eval e X.env) :: starEach es X.env := by rfl) (hpl : (backTo pos (starEach es X.env)).any (·.1) = false := by rfl) : PE X (.Call (.Name x pp) (e :: es) [] pos) (tCallRS sp E t) := by
  refine ⟨fun pins s σ H Q I h => wpAny_Call_Name_kw (ld_glob I hg hm ?_ hdb)⟩
  refine PySem.W.callWith_K (h₀ := X.base) I.ok.mod.kin hk (thn (ha.run pos pins s σ H _ I h) fun us s1 ⟨vs, H1, I1, r, q⟩ => ⟨I1.kIn, wpAny_call (run_RS F hr (hx σ) I1 r q)⟩) he hpl
end
/-- isinstance(e, c), e the error that the suite holds, with its dict -/
def rIsG (K : PySem.W.Frag) (D a dd : Addr) : List V → Hp → VK → Prop := fun xs H Q => ∃ (c : V) (cv : Value) (b : Bool) (fs : List (Str × V)), xs = [.ref a, c] ∧ (∀ u, RelV c u → u = cv) ∧ PySem.W.kitOne K (.ref D) cv = some b ∧ H dd = some (.xd fs) ∧ Q (.bl b) H
theorem call_isG {X : Cx} {a D dd : Addr} {oe : Obj} {pn : List (Addr × Obj)} (C : ExcC X.K D) (hz : Zc (.ref D) (some dd) oe) (hf : ∃ vs, oe.data = .fields vs) : CallR (X.suite a ((a, oe) :: pn)) (.builtin "isinstance") (rIsG X.K D a dd) := by
  intro pins s σ H xs us Q I r h
  obtain ⟨c, cv, b, fs, rfl, hcv, e, ed, q⟩ := h
  match us, r with
  | [_, _], .cons rx (.cons rt .nil) =>
    cases rx
    cases hcv _ rt
    obtain ⟨there, _⟩ := I.pin (a, oe) (List.mem_append.mpr (.inl List.mem_cons_self))
    obtain ⟨vs, hv⟩ := hf
    obtain ⟨mA, hns, _⟩ := I.hok dd _ ed
    obtain ⟨od, ho, _⟩ := lookIn_ns hns
    have J : PySem.W.InstAt s.heap a oe D (some od) := ⟨there, hz.1, by unfold PySem.W.notCls; rw [hv] <;> rfl, by rw [hz.2]; exact ho⟩
    have hcl : (PySem.W.clsIn X.K D).isSome = true := by
      obtain ⟨cd, hc, _⟩ := PySem.W.any_some C.hd
      rw [hc]; rfl
    exact PySem.W.kia_one (PySem.W.kitx_exc hcl C.hg C.hk C.hs C.ha C.hn C.ht C.hm) I.kIn J e (fun z => nomatch z) fun tk => ⟨.bl b, H, I.kept (t' := tk) fun _ _ z => z, rfl, q⟩
end U
namespace U
open PySem PySem.Spec PyProof.Rows L2 StX
section
variable {X : Cx} {CX : CXT} {e : Expr} {es : List Expr} {te : TE} {t : TA} {p apos cpos pos : Pos} {k i : Nat} {f : Addr} {sp : Sp} {x : Str}
/-- d.update(e), two dicts -/
def rUpdD : V → List V → Hp → VK → Prop := fun x vs H Q => ∃ a b ks ls, x = .ref a ∧ vs = [.ref b] ∧ a ≠ b ∧ H a = some (.dK ks) ∧ H b = some (.dK ls) ∧ ks.length + ls.length ≤ sizeLine ∧ Q .non (upd H a (.dK (mergeK ks ls)))
theorem mt_updD : MtR X "dict.update" rUpdD := by
  intro pins s σ H x vs v us Q I rx rv h
  obtain ⟨a, b, ks, ls, rfl, rfl, hab, ea, eb, hz, q⟩ := h
  cases (show v = Value.ref a from rx)
  obtain ⟨u, rfl, ru⟩ := rv.one
  cases (show u = Value.ref b from ru)
  obtain ⟨z1, ya, va, ra, da⟩ := (show ObjOk X.prog X.w H s.heap a (.dK ks) from I.hok a _ ea)
  obtain ⟨z2, yb, vb, rb, db⟩ := (show ObjOk X.prog X.w H s.heap b (.dK ls) from I.hok b _ eb)
  refine call_meetsIn PySem.F.slot_dict_update da.typeIs PySem.F.entry_dict_update (PySem.F.args_dict_update_2 _ _) (meets_dict_update (mixKind X.prog X.w) a b hab yb) ⟨va, vb, da, db, by rw [← ra.length, ← rb.length]; exact hz, fun h' d2 _ k2 => ?_⟩
  have there : ∃ o, h'.get? a = some o := by
    obtain ⟨o, _, _, e', _⟩ := id d2
    exact ⟨o, e'⟩
  refine ⟨.non, _, I.write (t' := s.toks) (x := a) (e := a) (o := .dK (mergeK ks ls)) (by rw [ea]; exact True.intro) (.inl rfl) (fun c o hc e => (k2.2 c hc).trans e) there ?_, rfl, q⟩
  exact ⟨Nat.le_trans (length_mergeK ls ks) hz, ya, _, rb.merge ra, d2⟩
/-- list(e.values()) -/
def tListVals (te : TE) : TE := fun σ H Q => te σ H fun x H1 => ∃ (d : Addr) (kvs : List (Key × V)), x = .ref d ∧ H1 d = some (.dK kvs) ∧ ∀ q, H1 q = none → Q (.ref q) (upd H1 q (.lst (kvs.map (·.2))))
theorem pe_listVals (hc : X.calm = true) (he : PE X e te) (hg : Gl X "list") (hm : X.mg "list" = none) (hv : bootBuiltins "list" = some (.type "list")) (hbase : attributeBase e "values" X.env (eval e X.env) = eval e X.env := by rfl) (hline : (apos.endLine == cpos.line) = true := by rfl)
    (hs : starEach [.Call (.Attribute e "values" apos) [] [] cpos] X.env = (false, eval (.Call (.Attribute e "values" apos) [] [] cpos) X.env) :: starEach [] X.env := by rfl) :
    PE X (.Call (.Name "list" p) [.Call (.Attribute e "values" apos) [] [] cpos] [] pos) (tListVals te) := by
  refine ⟨fun pins s σ H Q I hq => wpAny_Call_Name_kw (ld_blt I hg hm hv (PyProof.Rows.callWith_type1 ?_ hs rfl))⟩
  rw [hs]
  show wpAny _ _ (spliced ((false, eval (.Call (.Attribute e "values" apos) [] [] cpos) X.env) :: backTo pos (starEach [] X.env))) _ _ s
  refine Calls.spliced_cons (wpAny_Call_method (T := "dict") (id := "dict.values") hbase rfl hline F.plainAttrs_dict F.slot_dict_values F.type_dict_values (thn (he.run pins s σ H _ I hq) fun u s1 ⟨x, H1, I1, rx, d, kvs, ex, hd, q⟩ => ?_))
  subst ex
  cases (show u = Value.ref d from rx)
  obtain ⟨hz, hs0, vs, kv, hdo⟩ := I1.hok d _ hd
  obtain ⟨ep, hat⟩ := hdo.dictAt
  have lk : kvs.length = vs.length := Paired.length kv
  have I2 : Inv X pins σ H1 { s1 with heap := s1.heap.push { cls := .type "dict_values", data := .fields #[.ref d] } } := I1.kept (t' := s1.toks) fun b ob z => Heap.get?_push_of_some _ z
  refine ⟨hdo.typeIs, hdo.mapOf.noDict, ?_⟩
  show wpAny _ _ (callWith cpos (.builtin "dict.values") [.ref d] [] []) _ X.xe s1
  refine method_meetsIn F.slot_dict_values F.entry_dict_values rfl (PySem.evalArgs_none ⟨rfl, hdo.typeIs, F.args_dict_values_1 _, _, meets_dict_values (mixKind X.prog X.w) d hs0, ⟨vs, hdo⟩, Calls.spliced_nil ?_⟩)
  refine PySem.W.kdl_call (PySem.W.kdl_values (knd := mixKind X.prog X.w) (kvs := vs) (ep := ep)) (I1.ok.hd hc) ⟨⟨_, Heap.get?_push_size _ rfl, rfl, rfl⟩, hat.push _⟩ (by rw [← lk]; exact hz) fun h' tk acc c hk hS hacc => ?_
  refine ⟨.ref _, _, I2.laid (t' := tk) hk (Nat.le_refl _) (show ObjOk X.prog X.w _ _ _ (.lst (kvs.map (·.2))) from ⟨?_, acc.toList, c, ?_, ?_⟩), rfl, q _ (I2.hok.fresh (Nat.le_refl _))⟩
  · rw [List.length_map]; exact hz
  · have el : acc.toList.length = acc.size := by simp
    refine vals_of_at (by rw [List.length_map, el, hacc.1, lk]) fun j y w h1 h2 => ?_
    obtain ⟨kk, hky⟩ := hacc.2 j w (by rw [← Array.getElem?_toList]; exact h2)
    rw [List.getElem?_map] at h1
    cases e1 : kvs[j]? with
    | none => rw [e1] at h1; cases h1
    | some pr =>
      rw [e1] at h1
      obtain ⟨k1, v1⟩ := pr
      cases h1
      obtain ⟨u2, hu2, ru2⟩ := kv_get kv e1
      rw [hky] at hu2
      cases hu2
      exact ru2
  · rw [Array.toArray_toList]; exact hS
end
end U
namespace U
open PySem PySem.Spec PyProof.Rows L2
/-- e, and what it gives is locked for good -/
def tFrz (t : TE) : TE := fun σ H Q => t σ H fun x H1 => ∃ d u, x = .ref d ∧ H1 d = some u ∧ Mut (some u) ∧ ∀ od, Q x (upd H1 d (.frz od u))
theorem pe_frz {X : Cx} {e : Expr} {t : TE} (h : PE X e t) : PE X e (tFrz t) := by
  refine ⟨fun pins s σ H Q I hw => thn (h.run pins s σ H _ I hw) fun v s1 ⟨x, H1, I1, r, d, u, ex, hd, mu, q⟩ => ?_⟩
  obtain ⟨od, I2⟩ := I1.lock hd mu
  exact ⟨x, _, I2, r, q od⟩
section
variable {P : Program} {w : World} {K : PySem.W.Frag} {mg : Str → Option Value} {base : Heap}
/-- a def that may raise, called where it does not -/
theorem fnR_calm {k : Nat} {f : Addr} {sp : Sp} (F : FnR P w K mg base (L2.CX P w) k f sp) : FnR P w K mg base CX0 k f (fun vs H Q _ => sp vs H Q E0) := by
  intro A outer s H us vs Q E hr e0 r h
  refine codeAny_mono (F A outer s H us vs Q E0 hr e0 r h) fun r s' hq => ?_
  cases r with
  | error e =>
    obtain ⟨_, _, _, _, _, _, _, _, _, _, _, _, z⟩ := hq
    exact z.elim
  | ok fl => cases fl <;> exact hq
end
/-! ### own errors with one or two fields -/
def spIni1 (C : Addr) (f : Str) : Sp := fun vs H Q _ => ∃ (a : Addr) (v : V), vs = [.ref a, v] ∧ H a = some (exo a C none) ∧ ∀ dx, H dx = none → dx ≠ a → Q .non (upd (upd H dx (exd dx [(f, v)])) a (exo a C (some dx)))
theorem mk_one {C : Addr} {f : Str} {v : V} {H : Hp} {Q : XK} (h : ∀ d, H d = none → Q (.ref C) (some d) (upd H d (.xd [(f, v)]))) :
    [v].length ≤ 1000 ∧ ∀ a, H a = none → spIni1 C f (.ref a :: ([v] ++ [])) (upd H a (exo a C none))
      (fun z H2 => z = .non ∧ ∃ (d : Addr) (fs : List (Str × V)), H2 a = some (exo a C (some d)) ∧ H2 d = some (exd d fs) ∧ H d = none ∧ Q (.ref C) (some d) (upd (del H2 a) d (.xd fs))) (fun _ _ _ => False) := by
  refine ⟨(by show 1 ≤ 1000; decide), fun a ha => ⟨a, v, rfl, upd_same, fun dx hd ne => ⟨rfl, dx, [(f, v)], upd_same, ?_, ?_, ?_⟩⟩⟩
  · rw [upd_ne ne, upd_same]
  · rw [upd_ne ne] at hd; exact hd
  · rw [upd_ne ne] at hd
    have e : upd (del (upd (upd (upd H a (exo a C none)) dx (exd dx [(f, v)])) a (exo a C (some dx))) a) dx (.xd [(f, v)]) = upd H dx (.xd [(f, v)]) := by
      funext b
      by_cases h1 : b = dx
      · subst h1; rw [upd_same, upd_same]
      · rw [upd_ne h1, upd_ne h1]
        by_cases h2 : b = a
        · subst h2
          rw [ha]
          unfold del
          simp
        · unfold del
          simp only [h2, if_false]
          rw [upd_ne h2, upd_ne h1, upd_ne h2]
    rw [e]
    exact h dx hd
end U
namespace U
open PySem PySem.Spec PyProof.Rows L2
/-- isinstance(e, c), e the error that the suite holds; its class told by the reading -/
def rIsH (K : PySem.W.Frag) (D a : Addr) (cls : Value) (d : Option Addr) : List V → Hp → VK → Prop := fun xs H Q => ∃ dd, cls = .ref D ∧ d = some dd ∧ rIsG K D a dd xs H Q
theorem call_isH {X : Cx} {a D : Addr} {cls : Value} {d : Option Addr} {oe : Obj} {pn : List (Addr × Obj)} (C : ExcC X.K D) (hz : Zc cls d oe) (hf : ∃ vs, oe.data = .fields vs) : CallR (X.suite a ((a, oe) :: pn)) (.builtin "isinstance") (rIsH X.K D a cls d) := by
  intro pins s σ H xs us Q I r h
  obtain ⟨dd, rfl, rfl, h⟩ := h
  exact call_isG C hz hf pins s σ H xs us Q I r h
end U
namespace U
open PySem PySem.Spec PyProof.Rows L2 StX
/-! ### defs that are called where no repr runs around them -/
def FnG (P : Program) (w : World) (K : PySem.W.Frag) (mg : Str → Option Value) (base : Heap) (CX : CXT) (k : Nat) (f : Addr) (sp : Sp) : Prop :=
  ∀ (A : Around) (outer : List Env) (s : Shared) (H : Hp) (us : List Value) (vs : List V) (Q : VK) (E : XK), A.guards = some [] → Room k A → Env0 P w K mg base A outer s H → Vals vs us → sp vs H Q E → codeAny (model P w) A (.call (.ref f) ⟨us, []⟩) (CR CX outer P w H s Q E) s
section
variable {P : Program} {w : World} {K : PySem.W.Frag} {mg : Str → Option Value} {base : Heap} {CX : CXT} {j k : Nat} {f : Addr} {sp sp' : Sp}
theorem FnG.mono (F : FnG P w K mg base CX j f sp) (h : j ≤ k) : FnG P w K mg base CX k f sp := fun A outer s H us vs Q E g hr => F A outer s H us vs Q E g (hr.mono h)
theorem FnG.imp (F : FnG P w K mg base CX k f sp) (h : ∀ vs H Q E, sp' vs H Q E → sp vs H Q E) : FnG P w K mg base CX k f sp' := fun A outer s H us vs Q E g hr e0 r z => F A outer s H us vs Q E g hr e0 r (h _ _ _ _ z)
/-- the body's walk, with what is around -/
theorem bodyG {x qual : Str} {st : Stmt} {fd : FuncData} {N ps : List Str} (F : Fun K x qual st f fd) (S : FnScope N ps (defScope st)) (len : ∀ vs H Q E, sp vs H Q E → vs.length = ps.length)
    (hbody : ∀ (cdv : Value) (A : Around) (outer : List Env) (s : Shared) (H : Hp) (vs : List V) (Q : VK) (E : XK), A.guards = some [] → Room k (A.deeper (envOfC qual (defScope st) s.heap.objs.size f cdv)) → sp vs H Q E →
      ∃ t, PSs (cxOf CX P w K mg base N qual (defScope st) f cdv A outer s H E) (defBody st) t ∧ t { nx := fun _ H' => Q .non H', rt := Q } (start N vs) H)
    (A : Around) (outer : List Env) (s : Shared) (H : Hp) (args : Args) (us : List Value) (vs : List V) (Q : VK) (E : XK) (g : A.guards = some []) (hr : Room (k + 1) A) (e0 : Env0 P w K mg base A outer s H) (hb : BindsTo s fd args (ps.zip us)) (r : Vals vs us) (hs : sp vs H Q E) :
    codeAny (model P w) A (.call (.ref f) args) (CR CX outer P w H s Q E) s := by
  obtain ⟨oc, od, kV, doc, pm, an, cdv, ct, osl, rfl, lk, hcd⟩ := F.ex
  have hl := len _ _ _ _ hs
  have kin : K.In s.heap := e0.mod.kin.keeps fun b o e => (e0.bs b o e).1
  have lim : s.heap.NoLimit := e0.mod.nolimit.keeps fun b o e => (e0.bs b o e).1
  have names : ∀ y ∈ ps.zip us, (defScope st).names.lookup y.1 = some .local ∨ ((defScope st).names.lookup y.1 = some .cell ∧ ((cellsFrom (s.heap.objs.size + 1) (defScope st).names []).lookup y.1).isSome = true) := by
    rintro ⟨n, v⟩ hy
    rcases S.par n (List.of_mem_zip hy).1 with q | q
    · exact .inl q
    · exact .inr ⟨q, PySem.W.cellsFrom_some _ _ _ (.inl q)⟩
  refine codeAny_call_function hr.depth (kin _ _ lk) rfl S.co S.gen rfl (PySem.W.codeRec_of kin hcd) (hb _ _ _ _ ?_)
  refine wpAny_newFunctionEnv_cells S.kind names fun env he s1 z => ?_
  subst he
  refine ⟨lim.keeps z.toInCall.keep, codeAny_func ?_⟩
  obtain ⟨t, ht, hq⟩ := hbody cdv A outer s H vs Q E g (hr.deeper _) hs
  have I : Inv (cxOf CX P w K mg base N qual (defScope st) f cdv A outer s H E) [] (start N vs) H s1 := inv_start S hr.hd e0 hl r z
  refine wpAny_mono (ht.run [] s1 (start N vs) H _ I hq) (fun fl s' h' => ?_) fun _ _ h' => h'
  match fl, h' with
  | .ret u, ⟨v, σ', H', J, rv, q⟩ => exact ⟨v, H', J.os, J.bare, J.base, J.hok, rv, q⟩
  | .next, ⟨σ', H', J, q⟩ => exact ⟨.non, H', J.os, J.bare, J.base, J.hok, rfl, q⟩
  | .brk, ⟨_, _, _, q⟩ => exact q.elim
  | .cont, ⟨_, _, _, q⟩ => exact q.elim
theorem FnAt.okG {x qual : Str} {st : Stmt} {N ps : List Str} (B : FnAt K x qual st f ps) (S : FnScope N ps (defScope st)) (len : ∀ vs H Q E, sp vs H Q E → vs.length = ps.length)
    (hbody : ∀ (cdv : Value) (A : Around) (outer : List Env) (s : Shared) (H : Hp) (vs : List V) (Q : VK) (E : XK), A.guards = some [] → Room k (A.deeper (envOfC qual (defScope st) s.heap.objs.size f cdv)) → sp vs H Q E →
      ∃ t, PSs (cxOf CX0 P w K mg base N qual (defScope st) f cdv A outer s H E).nox (defBody st) t ∧ t { nx := fun _ H' => Q .non H', rt := Q } (start N vs) H) : FnG P w K mg base CX0 (k + 1) f sp := by
  obtain ⟨fd, F, bi⟩ := B.ex
  intro A outer s H us vs Q E g hr e0 r hs
  have hl : (us ++ []).length = ps.length := by rw [List.append_nil, ← r.length]; exact len _ _ _ _ hs
  refine bodyG F S len (fun cdv A outer s H vs Q E g hr hs => ?_) A outer s H ⟨us, []⟩ us vs Q E g hr e0 ?_ r hs
  · obtain ⟨t, h, q⟩ := hbody cdv A outer s H vs Q E g hr hs
    exact ⟨t, h.nox, q⟩
  · have := bi s us (e0.mod.kin.keeps fun b o e => (e0.bs b o e).1) hl
    rw [List.append_nil] at this
    exact this
end
section
variable {X : Cx} {CX : CXT} {pins : List (Addr × Obj)} {σ : L2.St} {H : Hp} {s : Shared} {f : Addr} {k : Nat} {sp : Sp} {x : Str} {e : Expr} {es : List Expr} {t : TA} {pp pos : Pos}
theorem run_G {Q : VK} {us : List Value} {vs : List V} {E : XK} (F : FnG X.prog X.w X.K X.mg X.base CX k f sp) (g : X.A.guards = some []) (hr : Room k X.A) (hx : PassesAt CX X σ E) (I : Inv X pins σ H s) (r : Vals vs us) (h : sp vs H Q E) :
    codeAny (model X.prog X.w) X.A (.call (.ref f) ⟨us, []⟩) (fun r s' => match r with | .ok (.ret v) => EP X pins σ Q v s' | .ok _ => False | .error e => X.xe e s') s := by
  refine codeAny_mono (F X.A X.stack s H us vs Q E g hr I.env0 r h) fun z s' hq => ?_
  match z, hq with
  | .error er, hq => exact hx pins H s er s' I hq
  | .ok (.ret w), hq => exact I.after hq
  | .ok .next, hq => exact hq.elim
  | .ok .brk, hq => exact hq.elim
  | .ok .cont, hq => exact hq.elim
/-- x(e, ..), x such a def -/
theorem pe_callG {E : XK} (F : FnG X.prog X.w X.K X.mg X.base CX k f sp) (g : X.A.guards = some []) (hr : Room k X.A) (hk : PySem.W.keepIn X.K (.ref f) = true) (hg : Gl X x) (hm : X.mg x = some (.ref f)) (hx : Passes CX X E) (ha : PA X (e :: es) t) (hdb : (x == ("__debug__" : Str)) = false := by decide)
    (he : starEach (e :: es) X.env = (false, eval e X.env) :: starEach es X.env := by rfl) (hpl : (backTo pos (starEach es X.env)).any (·.1) = false := by rfl) : PE X (.Call (.Name x pp) (e :: es) [] pos) (tCallR sp E t) := by
  refine ⟨fun pins s σ H Q I h => wpAny_Call_Name_kw (ld_glob I hg hm ?_ hdb)⟩
  exact PySem.W.callWith_K (h₀ := X.base) I.ok.mod.kin hk (thn (ha.run pos pins s σ H _ I h) fun us s1 ⟨vs, H1, I1, r, q⟩ => ⟨I1.kIn, wpAny_call (run_G F g hr (fun pins H s e s' => hx pins σ H s e s') I1 r q)⟩) he hpl
/-! ### repr -/
/-! ### a dict of ints, shown -/
def dI (l : List (Int × Int)) : PyData := .dict (l.map fun p => (PyData.int p.1, PyData.int p.2))
end
end U
namespace U
open PySem PySem.Spec PyProof.Rows L2 StX
/-- what holds no other object -/
inductive Sc : V → PyData → Prop
  | non : Sc .non .none
  | bl (b : Bool) : Sc (.bl b) (.bool b)
  | int (i : Int) : Sc (.int i) (.int i)
  | str (x : Str) : Sc (.str x) (.str x)
def keyD : Key → PyData
  | .inl i => .int i
  | .inr x => .str x
theorem Sc.reads {h : Heap} {v : V} {d : PyData} {u : Value} (s : Sc v d) (r : RelV v u) : Reads h u d [] := by
  cases s with
  | non => cases r; exact .none
  | bl b => cases r; exact .bool b
  | int i => obtain ⟨t, rfl⟩ := r; exact .int i t
  | str x => obtain ⟨t, rfl⟩ := r; exact .str x t
theorem flat_reads {prog : Program} {w : World} {h : Heap} : ∀ {es : List DictEntry} {va : List (Key × Value)} {kvs : List (Key × V)} {ds : List PyData}, Pairs (mixKind prog w) es va → KV kvs va → Paired (fun kv d => Sc kv.2 d) kvs ds →
    ReadsAll h (es.map (·.key)) (kvs.map fun kv => keyD kv.1) [] ∧ ReadsAll h (es.map (·.val)) ds []
  | [], _, _, _, .nil, r, z => by
    cases r
    cases z
    exact ⟨.nil, .nil⟩
  | e :: es, _, _, _, .cons h1 h2 h3, r, z => by
    unfold KV at r
    cases r with
    | cons q r =>
      cases z with
      | cons zc z =>
        obtain ⟨g1, g2⟩ := flat_reads (h := h) h3 r z
        obtain ⟨q1, q2⟩ := q
        refine ⟨.cons (as := []) ?_ g1, .cons (as := []) ?_ g2⟩
        · show Reads h e.key (keyD _) []
          rw [q1]
          rcases keyIs_shape h1 with ⟨i, t, e1, e2⟩ | ⟨x, t, e1, e2⟩
          · rw [e1, e2]; exact .int i t
          · rw [e1, e2]; exact .str x t
        · show Reads h e.val _ []
          rw [h2]
          exact zc.reads q2
def flatD (kvs : List (Key × V)) (ds : List PyData) : PyData := .dict ((kvs.map fun kv => keyD kv.1).zip ds)
theorem dict_reads {X : Cx} {pins : List (Addr × Obj)} {σ : L2.St} {H : Hp} {s : Shared} {a : Addr} {kvs : List (Key × V)} {ds : List PyData} (I : Inv X pins σ H s) (ea : H a = some (.dK kvs)) (z : Paired (fun kv d => Sc kv.2 d) kvs ds) :
    ∃ as, Reads s.heap (.ref a) (flatD kvs ds) as ∧ sysModules ∉ as := by
  obtain ⟨_, ya, va, ra, o, es, ep, ho, hc, hd, _, hp, _⟩ := (show ObjOk X.prog X.w H s.heap a (.dK kvs) from I.hok a _ ea)
  obtain ⟨g1, g2⟩ := flat_reads (h := s.heap) hp ra z
  have lz : kvs.length = ds.length := Paired.length z
  have e1 : (((kvs.map fun kv => keyD kv.1).zip ds).map (·.1)) = kvs.map fun kv => keyD kv.1 := List.map_fst_zip (by rw [List.length_map, lz]; exact Nat.le_refl _)
  have e2 : (((kvs.map fun kv => keyD kv.1).zip ds).map (·.2)) = ds := List.map_snd_zip (by rw [List.length_map, lz]; exact Nat.le_refl _)
  refine ⟨a :: [] ++ [], .dict ho hc.1 hd (by rw [e1]; exact g1) (by rw [e2]; exact g2), ?_⟩
  simp only [List.append_nil, List.mem_singleton]
  intro e
  rw [← e] at ya
  simp at ya
section
variable {X : Cx} {CX : CXT} {k : Nat} {f C : Addr} {sp : Sp} {E : XK} {n : Nat} {g : Addr}
/-- repr(d), a dict of scalars -/
def rReprF : List V → Hp → VK → Prop := fun xs H Q => ∃ a kvs ds, xs = [.ref a] ∧ H a = some (.dK kvs) ∧ Paired (fun kv d => Sc kv.2 d) kvs ds ∧ (flatD kvs ds).showable = true ∧ (flatD kvs ds).depth ≤ 60 ∧ (flatD kvs ds).shown.length ≤ sizeLine ∧ Q (.str (flatD kvs ds).shown) H
theorem call_reprF (g : X.A.guards = some []) (hu : X.A.units + 64 < cLine) : CallR X (.builtin "repr") rReprF := by
  intro pins s σ H xs us Q I r h
  obtain ⟨a, kvs, ds, rfl, ea, z, hs, hdp, hz, q⟩ := h
  obtain ⟨u, rfl, ru⟩ := r.one
  cases (show u = Value.ref a from ru)
  obtain ⟨as, rd, hn⟩ := dict_reads I ea z
  exact repr_of_reads' rd hs (fun _ => hn) g (by omega) (fun _ _ e => e) (fun h' u tk hk => ⟨.str _, H, I.kept (t' := tk) hk, ⟨_, rfl⟩, q⟩) hz
/-- {d!r}, a dict of scalars -/
def tFmtF (te : TE) : TE := fun σ H Q => te σ H fun x H1 => ∃ a kvs ds, x = .ref a ∧ H1 a = some (.dK kvs) ∧ Paired (fun kv d => Sc kv.2 d) kvs ds ∧ (flatD kvs ds).showable = true ∧ (flatD kvs ds).depth ≤ 60 ∧ (flatD kvs ds).shown.length ≤ sizeLine ∧ Q (.str (flatD kvs ds).shown) H1
theorem pe_fmtF {e : Expr} {te : TE} {pos : Pos} (g : X.A.guards = some []) (hu : X.A.units + 64 < cLine) (he : PE X e te) : PE X (.FormattedValue e 114 none pos) (tFmtF te) := by
  refine ⟨fun pins s σ H Q I h => ?_⟩
  refine wpAny_FormattedValue_repr (thn (he.run pins s σ H _ I h) fun v s1 hv => ?_)
  obtain ⟨x, H1, I1, r1, a, kvs, ds, rfl, ea, z, hs, hdp, hz, q⟩ := hv
  cases (show v = Value.ref a from r1)
  obtain ⟨as, rd, hn⟩ := dict_reads I1 ea z
  refine pyReprObj_of_reads rd hs (fun _ => hn) g (by omega) (fun _ _ e => e) (fun h' u tk hk => ?_) hz
  have I2 : Inv X pins σ H1 { s1 with heap := h', toks := tk } := I1.kept (t' := tk) hk
  exact wpAny_formatField_str ⟨.str _, H1, I2, ⟨_, rfl⟩, q⟩ ⟨.str _, H1, I2.tok _, ⟨_, rfl⟩, q⟩ hz
/-- repr(x), x an instance with its own __repr__ -/
def rReprO (C : Addr) (sp : Sp) (E : XK) : List V → Hp → VK → Prop := fun xs H Q => ∃ a dx fs, xs = [.ref a] ∧ H a = some (.ins C dx fs) ∧ sp [.ref a] H (fun v H' => ∃ z : Str, v = .str z ∧ Q (.str z) H') E
theorem call_reprO (gd : X.A.guards = some []) (hs : PySem.W.findIn X.K (.ref C) "__repr__" = some (some (.ref g))) (hf : PySem.W.isFn X.K (.ref g) = true) (F : FnG X.prog X.w X.K X.mg X.base CX n g sp) (hr : Room (n + 1) X.A) (hx : Passes CX X E) : CallR X (.builtin "repr") (rReprO C sp E) := by
  intro pins s σ H xs us Q I r h
  obtain ⟨a, dx, fs, rfl, ea, q⟩ := h
  obtain ⟨u, rfl, ru⟩ := r.one
  cases (show u = Value.ref a from ru)
  obtain ⟨ox, od, J⟩ := ins_inst I ea
  obtain ⟨m, hF⟩ := I.fr
  refine PySem.W.repr_K (by have := hr.un; show X.A.units + 1 < cLine; omega) hF I.ok.mod.kin J hs hf ?_
  refine wpAny_call ?_
  refine codeAny_mono (F X.A.in1 X.stack s H [.ref a] [.ref a] _ E gd (Room.in1 hr) I.env0.in1 (.cons rfl .nil) q) fun z s' hq => ?_
  match z, hq with
  | .error er, hq => exact hx pins σ H s er s' I hq
  | .ok (.ret w), hq =>
    obtain ⟨v, H', I', rv, zt, ev, qz⟩ := I.after hq
    subst ev
    obtain ⟨tk, rfl⟩ := rv
    exact ⟨.str zt, H', I', ⟨tk, rfl⟩, qz⟩
  | .ok .next, hq => exact hq.elim
  | .ok .brk, hq => exact hq.elim
  | .ok .cont, hq => exact hq.elim
def rNeV (K : PySem.W.Frag) (C : Addr) (sp : Sp) (E : XK) : R2 := fun x y H Q => ∃ a dx fs t, x = .ref a ∧ H a = some (.ins C dx fs) ∧ TyX K H y t ∧ PySem.W.notFirst K C t = true ∧ sp [x, y] H (fun z H' => ∃ c, z = .bl c ∧ Q (.bl (!c)) H') E
theorem op_neV (oc : OwnC X.K C) (hne : PySem.W.findIn X.K (.ref C) "__ne__" = some (some (.builtin "object.__ne__"))) (hs : PySem.W.findIn X.K (.ref C) "__eq__" = some (some (.ref g))) (hf : PySem.W.isFn X.K (.ref g) = true) (F : FnR X.prog X.w X.K X.mg X.base CX n g sp)
    (hr : Room (n + 1) X.A) (hx : Passes CX X E) : OpR X (compareOp .NotEq) (rNeV X.K C sp E) := by
  intro pins s σ H x y v u Q I rx ry h
  obtain ⟨a, dx, vs, t, rfl, ha, ty, nf, q⟩ := h
  cases (show v = Value.ref a from rx)
  obtain ⟨ox, od, J⟩ := ins_inst I ha
  obtain ⟨Pq, Z, pq, _⟩ := kit_of I ry ty
  obtain ⟨m, hF⟩ := I.fr
  have hr1 : Room n X.A.in1 := Room.in1 hr
  refine PySem.W.my_ne_K (tb := t) (hu_of hr) hF I.ok.mod.kin J (Z.ty _ _ I.kIn pq) nf hne oc.cm hs hf ?_
  refine wpAny_mono (wpAny_call (SlX.run_at (us := [.ref a, u]) (ws := [.ref a, y]) F hr1 I.env0.in1 hx I (.cons rfl (.cons ry .nil)) q)) (fun w s' z => ?_) fun _ _ x => x
  obtain ⟨z', H', I', rz, c, ez, qz⟩ := z
  subst ez
  cases (show w = Value.bool c from rz)
  exact ⟨c, rfl, .bl (!c), H', I', rfl, qz⟩
end
end U
namespace U
open PySem PySem.Spec PyProof.Rows L2 StX
/-! ### the law's call, where no repr runs around it -/
section
variable {P : Program} {w : World} {K : PySem.W.Frag} {mg mb : Str → Option Value} {k : Nat} {fa sc : Addr} {sp : Sp} {s1 : Shared} {us : List Value} {ns : List Int}
/-- from an abstract heap that tracks at most the script -/
theorem law_core (inK : K.In s1.heap) (glob : s1.heap.Ns mainGlobals mg) (blt : s1.heap.Ns builtinsNs mb) (blt2 : ∀ x : Str, x ≠ "__name__" → mb x = bootBuiltins x) (lim : s1.heap.NoLimit) (gens : s1.gens = #[])
    (there : s1.heap.get? sc = some { cls := .type "list", data := .seq us.toArray }) (room : Room k callerA)
    (F : ∀ base : Heap, FnG P w K mg base CX0 k fa sp)
    (H : Hp) (only : Only H) (hok : HOk P w H s1.heap) (just : ∀ b, H b ≠ none → b = sc) (offK : H sc ≠ none → K.lookup sc = none)
    (prom : sp [.ref sc] H (fun v _ => v = .bl true) E0) :
    codeAny (model P w) callerA (.call (.ref fa) ⟨[.ref sc], []⟩) (fun r s' => r = .ok (.ret (.bool true)) ∧ OldK s1.heap s'.heap ∧ s'.os = s1.os ∧ AllBare s'.gens) s1 := by
  have isSc : ∀ {b : Addr} {u : HO}, H b = some u → b = sc := fun {b u} e => just b fun z => by rw [z] at e; cases e
  have free : ∀ {b : Addr} {o : Obj} {es : Array DictEntry} {ep : Nat}, s1.heap.get? b = some o → o.data = .dict es ep → H b = none := by
    intro b o es ep e d
    cases hb : H b with
    | none => rfl
    | some u =>
      have := isSc hb
      subst this
      rw [there] at e
      cases e
      exact absurd (show Data.seq us.toArray _ = Data.dict es ep from d) (by intro z; cases z)
  have spaces : ∀ {b : Addr} {m : Str → Option Value}, s1.heap.Ns b m → (hidT s1.heap H).Ns b m := by
    rintro b m ⟨o, es, ep, e, d, r⟩
    exact ⟨o, es, ep, hidT_get e (free e d), d, r⟩
  have inB : K.In (hidT s1.heap H) := by
    intro b o e
    refine hidT_get (inK b o e) ?_
    cases hb : H b with
    | none => rfl
    | some u =>
      have := isSc hb
      subst this
      have z := offK (by rw [hb]; intro z; cases z)
      rw [e] at z
      cases z
  have md : Mod K mg (hidT s1.heap H) := by
    obtain ⟨mc, l1, l2⟩ := lim
    exact ⟨inB, spaces glob, ⟨mb, spaces blt, blt2⟩, ⟨mc, spaces l1, l2⟩⟩
  have env : Env0 P w K mg (hidT s1.heap H) callerA [] s1 H := by
    refine ⟨rfl, md, fun b o e => of_hidT e, Nat.le_of_eq (hidT_size _ _), trivial, fun b hb => ?_, hok, .of_eq gens⟩
    exact absurd hb List.not_mem_nil
  refine codeAny_mono (F (hidT s1.heap H) callerA [] s1 H [.ref sc] [.ref sc] (fun v _ => v = .bl true) E0 rfl room env (.cons rfl .nil) prom) fun r s' h => ?_
  match r, h with
  | .error e, h => exact h.elim
  | .ok .next, h => exact h.elim
  | .ok .brk, h => exact h.elim
  | .ok .cont, h => exact h.elim
  | .ok (.ret u), ⟨v, H', os, bare, un, hok', rv, q⟩ =>
    subst q
    cases (show u = Value.bool true from rv)
    refine ⟨rfl, OldK.of_keep fun b o e => ?_, os, bare⟩
    cases hb : H b with
    | none => exact un.keep b o e hb (fun z => absurd z List.not_mem_nil) (by simp)
    | some u =>
      rcases only b with z | ⟨ob, xs, z⟩
      · rw [hb] at z
        cases z
      · have a1 := (hok b _ z).1
        have a2 := (hok' b _ (un.frzs b ob _ z)).1
        rw [e] at a1
        cases a1
        exact a2
theorem law_callG (inK : K.In s1.heap) (glob : s1.heap.Ns mainGlobals mg) (blt : s1.heap.Ns builtinsNs mb) (blt2 : ∀ x : Str, x ≠ "__name__" → mb x = bootBuiltins x) (lim : s1.heap.NoLimit) (gens : s1.gens = #[])
    (there : s1.heap.get? sc = some { cls := .type "list", data := .seq us.toArray }) (inS : IntsAre us ns) (len : ns.length ≤ sizeLine) (room : Room k callerA)
    (F : ∀ base : Heap, FnG P w K mg base CX0 k fa sp)
    (prom : ∀ H : Hp, SqL K H sc (ns.map V.int) → sp [.ref sc] H (fun v _ => v = .bl true) E0) :
    codeAny (model P w) callerA (.call (.ref fa) ⟨[.ref sc], []⟩) (fun r s' => r = .ok (.ret (.bool true)) ∧ OldK s1.heap s'.heap ∧ s'.os = s1.os ∧ AllBare s'.gens) s1 := by
  have rv := vals_ints inS
  have go := law_core (P := P) (w := w) (k := k) (fa := fa) (sp := sp) inK glob blt blt2 lim gens there room F
  cases hk : K.lookup sc with
  | some o =>
    have e := inK sc o hk
    rw [there] at e
    cases e
    refine go (fun _ => none) (fun _ => .inl rfl) (fun b u z => by cases (show (none : Option HO) = some u from z)) (fun b z => absurd rfl z) (fun z => absurd rfl z) (prom _ ?_)
    refine .inr ⟨_, us.toArray, _, hk, rfl, rfl, rfl, ?_, by simpa using rv⟩
    rw [List.size_toArray, inS.length]
    exact len
  | none =>
    have at_ : (fun b => if b = sc then some (HO.frz { cls := .type "list", data := .seq us.toArray } (.lst (ns.map V.int))) else none) sc = some (.frz { cls := .type "list", data := .seq us.toArray } (.lst (ns.map V.int))) := if_pos rfl
    refine go (fun b => if b = sc then some (.frz { cls := .type "list", data := .seq us.toArray } (.lst (ns.map V.int))) else none) (fun b => ?_) (fun b u z => ?_) (fun b z => ?_) (fun _ => hk) (prom _ (.inl (.inr ⟨_, at_⟩)))
    · by_cases hb : b = sc
      · subst hb
        exact .inr ⟨_, _, at_⟩
      · exact .inl (if_neg hb)
    · by_cases hb : b = sc
      · subst hb
        rw [at_] at z
        cases z
        refine ⟨there, ?_, us, _, rv, there⟩
        rw [List.length_map]
        exact len
      · have no := (if_neg hb).symm.trans z
        cases no
    · refine Classical.byContradiction fun hb => z (if_neg hb)
end
/-- the goal that k_head leaves, from the law's promise -/
theorem walkG {l : PySem.W.OpenLaw} {n k : Nat} {q : Program} {loose : List Str} {XP : (Str → Option Value) → Heap → Prop} {YP : World → Heap → Prop} {d : DefRec} {K : Params → PySem.W.Frag} {sp : PySem.W.Frag → Sp}
    (hn : l.most = some n) (hn2 : n ≤ sizeLine) (hdf : d.params.defaults = []) (room : Room k callerA) (hY : ∀ (w : World) (h : Heap), YP w h → (K w.params).In h)
    (F : ∀ (w : World) (mg : Str → Option Value) (fa : Addr) (h : Heap), (K w.params).In h → h.Ns mainGlobals mg → mg d.name = some (.ref fa) → ∀ base : Heap, FnG l.prog w (K w.params) mg base CX0 k fa (sp (K w.params)))
    (prom : ∀ (K : PySem.W.Frag) (H : Hp) (a : Addr) (ns : List Int), ns.length ≤ n → SqL K H a (ns.map V.int) → sp K [.ref a] H (fun v _ => v = .bl true) E0) :
    PySem.W.WalkO q loose XP YP l.row.toRowW d [] (fun f vs => PySem.call f vs) := by
  refine Att.attach_call hn hdf fun w s0 s1 mg mb fa o pm cd doc a vs ns G Y ho hd hcd hmg hobj hints hlen hg => ?_
  have inK := hY w _ Y
  exact law_callG inK G.T.g G.T.b G.T.builtins G.T.nolimit hg hobj hints (Nat.le_trans hlen hn2) room (F w mg fa _ inK G.T.g hmg) fun H hS => prom _ H a ns hlen hS
end U
namespace U
open PySem PySem.Spec PyProof.Rows L2 StX
/-! ### defs called while an exception is handled -/
end U
namespace U
open PySem PySem.Spec PyProof.Rows L2 StX
end U
namespace U
open PySem PySem.Spec PyProof.Rows L2 StX
end U
namespace U
open PySem PySem.Spec PyProof.Rows L2 StX PySem.W
end U
namespace U
open PySem PySem.Spec PyProof.Rows L2 StX
/-! ### x op i, the class's own, i an int -/
/-! ### list(d.items()), the dict locked or not -/
def rItemsR : V → Hp → VK → Prop := fun x H Q => ∃ (d : Addr) (kvs : List (Key × V)), x = .ref d ∧ Rd H d (.dK kvs) ∧
  ∀ (H' : Hp) (p : Addr) (ts : List Addr), (∀ b o, H b = some o → H' b = some o) → H p = none → (∀ t ∈ ts, H t = none) → p ∉ ts → H' p = some (.lst (ts.map V.ref)) → Paired (fun (t : Addr) (q : Key × V) => H' t = some (.tup [kV q.1, q.2])) ts kvs → Q (.ref p) H'
def tItemsR (te : TE) : TE := fun σ H Q => te σ H fun x H1 => rItemsR x H1 Q
theorem pe_itemsR {X : Cx} {e : Expr} {te : TE} {p apos cpos pos : Pos} (hc : X.calm = true) (he : PE X e te) (hg : Gl X "list") (hm : X.mg "list" = none) (hv : bootBuiltins "list" = some (.type "list")) (hbase : attributeBase e "items" X.env (eval e X.env) = eval e X.env := by rfl) (hline : (apos.endLine == cpos.line) = true := by rfl)
    (hs : starEach [.Call (.Attribute e "items" apos) [] [] cpos] X.env = (false, eval (.Call (.Attribute e "items" apos) [] [] cpos) X.env) :: starEach [] X.env := by rfl) :
    PE X (.Call (.Name "list" p) [.Call (.Attribute e "items" apos) [] [] cpos] [] pos) (tItemsR te) := by
  refine ⟨fun pins s σ H Q I hq => wpAny_Call_Name_kw (ld_blt I hg hm hv (PyProof.Rows.callWith_type1 ?_ hs rfl))⟩
  rw [hs]
  show wpAny _ _ (spliced ((false, eval (.Call (.Attribute e "items" apos) [] [] cpos) X.env) :: backTo pos (starEach [] X.env))) _ _ s
  refine Calls.spliced_cons (wpAny_Call_method (T := "dict") (id := "dict.items") hbase rfl hline F.plainAttrs_dict F.slot_dict_items F.type_dict_items (thn (he.run pins s σ H _ I hq) fun u s1 ⟨x, H1, I1, rx, d, kvs, ex, hd, q⟩ => ?_))
  subst ex
  obtain rfl : u = Value.ref d := rx
  obtain ⟨hz, hs0, vs, kv, hdo⟩ := dk_rd I1.hok hd
  obtain ⟨ep, hat⟩ := hdo.dictAt
  have lk : kvs.length = vs.length := Paired.length kv
  have I2 : Inv X pins σ H1 { s1 with heap := s1.heap.push { cls := .type "dict_items", data := .fields #[.ref d] } } := I1.kept (t' := s1.toks) fun b ob q => Heap.get?_push_of_some _ q
  refine ⟨hdo.typeIs, hdo.mapOf.noDict, ?_⟩
  show wpAny _ _ (callWith cpos (.builtin "dict.items") [.ref d] [] []) _ X.xe s1
  refine method_meetsIn F.slot_dict_items F.entry_dict_items rfl (PySem.evalArgs_none ⟨rfl, hdo.typeIs, F.args_dict_items_1 _, _, meets_dict_items (mixKind X.prog X.w) d hs0, ⟨vs, hdo⟩, Calls.spliced_nil ?_⟩)
  refine PySem.W.kdx_call (knd := mixKind X.prog X.w) (kvs := vs) (ep := ep) (I1.ok.hd hc) ⟨_, Heap.get?_push_size _ rfl, rfl, rfl⟩ (hat.push _) (by omega) fun h' tk acc c as hk hS hl hG hacc => ?_
  obtain ⟨H', k1, k2, k3, k4, k5, k6, J⟩ := LiI.items_laid (tk := tk) I2 hz kv hk hS hl hG hacc
  exact ⟨.ref _, H', J, rfl, q H' _ as k1 k2 k3 k4 k5 k6⟩
end U
namespace U
open PySem PySem.Spec PyProof.Rows L2
/-! ### several clauses 'except x as n' -/
end U
namespace U
open PySem L2
/-! ### facts of heaps, for the search -/
theorem carry {H H' : Hp} {a : Addr} {o : HO} (s : L2.Same H H') (h : H a = some o) : H' a = some o := s a o h
theorem carryNew {H : Hp} {p a : Addr} {o u : HO} (hp : H p = none) (h : H a = some u) : upd H p o a = some u := (Same.new hp) a u h
theorem freeUp {H : Hp} {p q : Addr} {o : HO} (h : upd H q o p = none) : H p = none := by
  by_cases e : p = q
  · subst e; rw [upd_same] at h; cases h
  · rw [upd_ne e] at h; exact h
theorem freeVia {H H' : Hp} {p : Addr} (s : L2.Same H H') (h : H' p = none) : H p = none := s.free h
theorem sameUp {H H1 : Hp} {p : Addr} {o : HO} (hp : H1 p = none) (s : L2.Same H H1) : L2.Same H (upd H1 p o) := s.trans (Same.new hp)
theorem sameVia {H H1 H2 : Hp} (b : L2.Same H1 H2) (a : L2.Same H H1) : L2.Same H H2 := a.trans b
theorem upd_facts {H H1 : Hp} {p : Addr} {o : HO} (h : upd H p o = H1) (n : H p = none) : L2.Same H H1 ∧ H1 p = some o := by
  subst h
  exact ⟨Same.new n, upd_same⟩
theorem nil_le : ([] : List V).length ≤ sizeLine := by decide
theorem one_le {a : V} : [a].length ≤ sizeLine := by show 1 ≤ sizeLine; decide
theorem two_le {a b : V} : [a, b].length ≤ sizeLine := by show 2 ≤ sizeLine; decide
theorem three_le {a b c : V} : [a, b, c].length ≤ sizeLine := by show 3 ≤ sizeLine; decide
theorem le_line {n : Nat} (h : n ≤ 100000) : n ≤ sizeLine := Nat.le_trans h (by decide)
theorem lt_line {n : Nat} (h : n ≤ 100000) : n < sizeLine := Nat.lt_of_le_of_lt h (by decide)
end U
namespace U
open PySem PySem.Spec PyProof.Rows L2 GQ PySem.SeqAt MeetsSeq MeetsSeq2 MeetsSeq3 SeqRoads2
open AutoSeq1 (wpAny_loadPart')
/-! ### defs with a star parameter -/
structure StarAt (K : PySem.W.Frag) (x qual : Str) (st : Stmt) (f : Addr) (ps : List Str) (pv : Str) : Prop where
  ex : ∃ fd, Fun K x qual st f fd ∧ ∀ us rest : List Value, us.length = ps.length → bindArgs fd ⟨us ++ rest, []⟩ = (newTuple rest >>= fun t => pure (ps.zip us ++ [(pv, t)]))
theorem StarAt.kp {K : PySem.W.Frag} {x qual : Str} {st : Stmt} {f : Addr} {ps : List Str} {pv : Str} (A : StarAt K x qual st f ps pv) : PySem.W.keepIn K (.ref f) = true := by
  obtain ⟨_, F, _⟩ := A.ex
  exact F.kp
/-- what is asked of the arguments: the named ones, then a new tuple of the rest -/
def spStar (n : Nat) (sp : Sp) : Sp := fun vs H Q E => ∃ ws rest, vs = ws ++ rest ∧ ws.length = n ∧ rest.length ≤ sizeLine ∧ ∀ p, H p = none → sp (ws ++ [V.ref p]) (upd H p (.tup rest)) Q E
section
variable {P : Program} {w : World} {K : PySem.W.Frag} {mg : Str → Option Value} {base : Heap} {x qual pv : Str} {st : Stmt} {f : Addr} {N ps : List Str} {k : Nat} {sp : Sp}
theorem StarAt.okX (B : StarAt K x qual st f ps pv) (S : FnScope N (ps ++ [pv]) (defScope st))
    (walk : ∀ (cdv : Value) (A : Around) (outer : List Env) (s : Shared) (H : Hp) (vs : List V) (Q : VK) (E : XK), Room k (A.deeper (envOfC qual (defScope st) s.heap.objs.size f cdv)) → sp vs H Q E →
      ∃ t, PSs (cxOf (L2.CX P w) P w K mg base N qual (defScope st) f cdv A outer s H E) (defBody st) t ∧ t { nx := fun _ H' => Q .non H', rt := Q } (start N vs) H) : FnR P w K mg base (L2.CX P w) (k + 1) f (spStar ps.length sp) := by
  obtain ⟨fd, F, hb⟩ := B.ex
  obtain ⟨oc, od, kV, doc, pm, an, cdv, ct, osl, rfl, lk, hcd⟩ := F.ex
  exact StX.fn_star lk hcd S StX.cxUp hb fun A outer s H vs Q E hr h => walk cdv A outer s H vs Q E hr h
theorem StarAt.ok (B : StarAt K x qual st f ps pv) (S : FnScope N (ps ++ [pv]) (defScope st))
    (walk : ∀ (cdv : Value) (A : Around) (outer : List Env) (s : Shared) (H : Hp) (vs : List V) (Q : VK) (E : XK), Room k (A.deeper (envOfC qual (defScope st) s.heap.objs.size f cdv)) → sp vs H Q E →
      ∃ t, PSs (cxOf CX0 P w K mg base N qual (defScope st) f cdv A outer s H E).nox (defBody st) t ∧ t { nx := fun _ H' => Q .non H', rt := Q } (start N vs) H) : FnR P w K mg base CX0 (k + 1) f (spStar ps.length sp) := by
  obtain ⟨fd, F, hb⟩ := B.ex
  obtain ⟨oc, od, kV, doc, pm, an, cdv, ct, osl, rfl, lk, hcd⟩ := F.ex
  refine StX.fn_star lk hcd S StX.cxUp_none hb fun A outer s H vs Q E hr h => ?_
  obtain ⟨t, a, b⟩ := walk cdv A outer s H vs Q E hr h
  exact ⟨t, a.nox, b⟩
end
/-! ### == by an own __eq__, inside lists and tuples -/
end U
namespace U
open PySem PySem.Spec PyProof.Rows L2 StX LamX
/-! ### defs with lambdas: the code object's place is told -/
structure CodeAt (K : PySem.W.Frag) (x qual : Str) (st : Stmt) (f c : Addr) (ps : List Str) : Prop where
  ex : ∃ (oc : Value) (od : Option Addr) (kV doc pm : Value) (an : Option Addr) (ct : Value) (osl : Array (Option Value)),
    K.lookup f = some ⟨oc, od, .func (PySem.W.fnOf x qual (defArgs st) (defBody st) (defScope st) .none kV doc pm an (.ref c) ct), osl⟩ ∧ PySem.W.codeIn K (.ref c) qual = true ∧ Binds K (PySem.W.fnOf x qual (defArgs st) (defBody st) (defScope st) .none kV doc pm an (.ref c) ct) ps []
section
variable {P : Program} {w : World} {K : PySem.W.Frag} {mg : Str → Option Value} {base : Heap} {k : Nat} {f c : Addr} {sp : Sp} {x qual : Str} {st : Stmt} {N ps : List Str}
theorem CodeAt.okG (B : CodeAt K x qual st f c ps) (S : FnScope N ps (defScope st)) (len : ∀ vs H Q E, sp vs H Q E → vs.length = ps.length)
    (walk : ∀ (A : Around) (outer : List Env) (s : Shared) (H : Hp) (vs : List V) (Q : VK) (E : XK), A.guards = some [] → Room k (A.deeper (envOfC qual (defScope st) s.heap.objs.size f (.ref c))) → sp vs H Q E →
      ∃ t, PSs (cxOf CX0 P w K mg base N qual (defScope st) f (.ref c) A outer s H E).nox (defBody st) t ∧ t { nx := fun _ H' => Q .non H', rt := Q } (start N vs) H) : FnG P w K mg base CX0 (k + 1) f sp := by
  obtain ⟨oc, od, kV, doc, pm, an, ct, osl, lk, hcd, bi⟩ := B.ex
  intro A outer s H us vs Q E g hr e0 r hs
  have hl := len _ _ _ _ hs
  have kin : K.In s.heap := e0.mod.kin.keeps fun b o e => (e0.bs b o e).1
  have lim : s.heap.NoLimit := e0.mod.nolimit.keeps fun b o e => (e0.bs b o e).1
  have names : ∀ y ∈ ps.zip us, (defScope st).names.lookup y.1 = some .local ∨ ((defScope st).names.lookup y.1 = some .cell ∧ ((cellsFrom (s.heap.objs.size + 1) (defScope st).names []).lookup y.1).isSome = true) := by
    rintro ⟨n, v⟩ hy
    rcases S.par n (List.of_mem_zip hy).1 with q | q
    · exact .inl q
    · exact .inr ⟨q, PySem.W.cellsFrom_some _ _ _ (.inl q)⟩
  have hb : BindsTo s (PySem.W.fnOf x qual (defArgs st) (defBody st) (defScope st) .none kV doc pm an (.ref c) ct) ⟨us, []⟩ (ps.zip us) := by
    have := bi s us kin (by rw [List.append_nil, ← r.length]; exact hl)
    rw [List.append_nil] at this
    exact this
  refine codeAny_call_function hr.depth (kin _ _ lk) rfl S.co S.gen rfl (PySem.W.codeRec_of kin hcd) (hb _ _ _ _ ?_)
  refine wpAny_newFunctionEnv_cells S.kind names fun env he s1 z => ?_
  subst he
  refine ⟨lim.keeps z.toInCall.keep, codeAny_func ?_⟩
  obtain ⟨t, ht, hq⟩ := walk A outer s H vs Q E g (hr.deeper _) hs
  have I : Inv (cxOf CX0 P w K mg base N qual (defScope st) f (.ref c) A outer s H E) [] (start N vs) H s1 := inv_start S hr.hd e0 hl r z
  refine wpAny_mono (ht.nox.run [] s1 (start N vs) H _ I hq) (fun fl s' h' => ?_) fun _ _ h' => h'
  match fl, h' with
  | .ret u, ⟨v, σ', H', J, rv, q⟩ => exact ⟨v, H', J.os, J.bare, J.base, J.hok, rv, q⟩
  | .next, ⟨σ', H', J, q⟩ => exact ⟨.non, H', J.os, J.bare, J.base, J.hok, rfl, q⟩
  | .brk, ⟨_, _, _, q⟩ => exact q.elim
  | .cont, ⟨_, _, _, q⟩ => exact q.elim
end
/-! ### the law's call, tables tracked -/
/-! ### what a lambda's caller makes of its exceptions -/
/-! ### heaps that grow but for the tables -/
end U
namespace U
open PySem PySem.Spec PyProof.Rows L2 StX LamX
section
variable {X : Cx} {CX : CXT} {k : Nat} {f C : Addr} {sp : Sp} {E : XK} {x : Str} {p pos : Pos} {e : Expr} {es : List Expr} {t : TA}
/-- C(e, ..) in a try: what __init__ raises is told by the slots -/
def tMakeRS (C : Addr) (sp : Sp) (E : L2.St → XK) (t : TA) : TE := fun σ H Q => t σ H fun vs H1 => ∀ x dx, H1 x = none → H1 dx = none → dx ≠ x →
  sp (V.ref x :: vs) (upd (upd H1 dx (.own x)) x (.ins C dx [])) (fun v H2 => v = .non ∧ Q (.ref x) H2) (E σ)
theorem pe_makeRS {E : L2.St → XK} (M : Mk X.K C f) (F : FnR X.prog X.w X.K X.mg X.base CX k f sp) (hr : Room (k + 1) X.A) (hg : Gl X x) (hm : X.mg x = some (.ref C)) (hx : ∀ σ, PassesAt CX X σ (E σ)) (ha : PA X (e :: es) t) (hdb : (x == ("__debug__" : Str)) = false := by decide)
    (he : starEach (e :: es) X.env = (false, eval e X.env) :: starEach es X.env := by rfl) (hpl : (backTo pos (starEach es X.env)).any (·.1) = false := by rfl) : PE X (.Call (.Name x p) (e :: es) [] pos) (tMakeRS C sp E t) := by
  refine ⟨fun pins s σ H Q I h => ?_⟩
  refine wpAny_Call_Name_kw (ld_glob I hg hm ?_ hdb)
  refine PySem.W.callWith_K (h₀ := X.base) I.ok.mod.kin M.kp (thn (ha.run pos pins s σ H _ I h) fun us s1 ⟨vs, H1, I1, r, q⟩ => ⟨I1.kIn, ?_⟩) he hpl
  have q2 := q (s1.heap.objs.size + 1) s1.heap.objs.size (I1.hok.fresh (Nat.le_succ _)) (I1.hok.fresh (Nat.le_refl _)) (Nat.ne_of_lt (Nat.lt_succ_self _))
  have J := Inv.made (C := C) I1
  have rr : Vals (V.ref (s1.heap.objs.size + 1) :: vs) (Value.ref (s1.heap.objs.size + 1) :: us) := .cons rfl r
  refine wpAny_call (make_map (f := f) I1.kIn M.makes M.init (beq_iff_eq.mp M.fn) (codeAny_mono (F _ X.stack _ _ (Value.ref (s1.heap.objs.size + 1) :: us) _ _ (E σ) (hr.make C us []) (J.env0.make C us []) rr q2) fun z s' hz => ?_))
  match z, hz with
  | .error er, hz => exact hx σ pins _ _ er s' J hz
  | .ok (.ret u), hz =>
    obtain ⟨v, H', J', rv, ev, q3⟩ := J.after hz
    subst ev
    exact ⟨rv, ⟨V.ref (s1.heap.objs.size + 1), H', J', rfl, q3⟩⟩
  | .ok .next, hz => exact False.elim hz
  | .ok .brk, hz => exact False.elim hz
  | .ok .cont, hz => exact False.elim hz
end
end U
namespace U
open PySem PySem.Spec PyProof.Rows L2
/-! ### x not in a tuple, data of any depth -/
end U
namespace U
open PySem PySem.Spec PyProof.Rows L2
/-! ### dicts of ints in a list: in, not in, index -/
end U
namespace U
open PySem PySem.Spec PyProof.Rows L2 StX
end U
namespace U
open PySem PySem.Spec PyProof.Rows L2 StX NdefX
/-! ### a def of a class whose first statement is super().m(..) -/
/-- what is asked of the program around: the file of its code objects, super not hidden at the top -/
structure SupP (P : Program) (file : Str) : Prop where
  file : ((P.main.file : Str) == file) = true
  top : (P.main.scope.names.lookup ("super" : Str)).isSome = false
structure SupAt (K : PySem.W.Frag) (x qual : Str) (st : Stmt) (f c cc D : Addr) (ps : List Str) (file : Str) : Prop where
  ex : ∃ (oc : Value) (od : Option Addr) (kV doc pm : Value) (an : Option Addr) (ct : Value) (osl : Array (Option Value)),
    K.lookup f = some ⟨oc, od, .func (PySem.W.fnX x qual (defArgs st) (defBody st) (defScope st) [("__class__", cc)] .none kV doc pm an (.ref c) ct), osl⟩ ∧ PySem.W.codeIn K (.ref c) qual = true ∧ Binds K (PySem.W.fnX x qual (defArgs st) (defBody st) (defScope st) [("__class__", cc)] .none kV doc pm an (.ref c) ct) ps []
  code : ∃ (ccl : Value) (cdd : Option Addr) (vs : Array Value) (ccs : Array (Option Value)) (tf : Tok), K.lookup c = some ⟨ccl, cdd, .fields vs, ccs⟩ ∧ vs[2]? = some (.str file tf)
  cell : ∃ (cl : Value) (cld : Option Addr) (csl : Array (Option Value)), K.lookup cc = some ⟨cl, cld, .cell (some (.ref D)), csl⟩
  cls : ∃ cd, PySem.W.clsIn K D = some cd
  pos : ((defArgs st).posonlyargs ++ (defArgs st).args).head?.map (·.arg) = ps[0]?
  nosuper : PySem.W.nsIn K mainGlobals "super" = some none
  noop : PySem.W.nsIn K cStatics "thirdparty.any" = some none
  scS : (defScope st).names.lookup ("super" : Str) = some .globalImplicit
  scC : (defScope st).names.lookup ("__class__" : Str) = some .free
/-- the method that super().m finds, for an instance of the class at C -/
structure SupM (K : PySem.W.Frag) (C D : Addr) (m : Str) (f2 : Addr) : Prop where
  sub : PySem.W.mroIn K C (.ref D) = some true
  at_ : PySem.W.ks_superIn K C D m = some (some (.ref f2))
  ty : PySem.W.typeIn K (.ref f2) = some (.type "function")
  fi : PySem.W.fnIn K f2 = true
  cl : (m == ("__class__" : Str)) = false
section
variable {X : Cx} {pins : List (Addr × Obj)} {σ : L2.St} {H : Hp} {s : Shared} {C D dx x f2 : Addr} {fs : List (Str × V)} {m : Str}
/-- super().m(..) run within the def's own code -/
theorem run_super {CX : CXT} {k2 : Nat} {sp2 : Sp} {Q : VK} {E : XK} {t : TA} {body : List Stmt} {p0 p1 apos pos epos : Pos} {e : Expr} {qual : Str} {st : Stmt} {name : Str} {f c cc : Addr} {ps : List Str} {file s0 : Str}
    (B : SupAt X.K name qual st f c cc D ps file) (hP : SupP X.prog file) (M : SupM X.K C D m f2) (F : FnR X.prog X.w X.K X.mg X.base CX k2 f2 sp2) (hr : Room k2 X.A) (hx : Passes CX X E)
    (hsc : X.env.scope = defScope st) (hfu : X.env.func = some f) (hco : X.env.code = .ref c) (hcl : X.env.cells.lookup ("__class__" : Str) = some cc) (hps : ps[0]? = some s0) (hN : X.N[0]? = some s0) (hloc : X.env.scope.names.lookup s0 = some .local)
    (I : Inv X pins σ H s) (hv : σ[0]? = some (some (.ref x))) (ea : H x = some (.ins C dx fs)) (ha : PA X [e] t)
    (h : t σ H fun vs H1 => sp2 (.ref x :: vs) H1 Q E)
    (hint : interactive X.env = false) (hsw : swapsWith (.Call (.Attribute (.Call (.Name "super" p0) [] [] p1) m apos) [e] [] pos) none epos.line X.env = pure false)
    (hst : starEach [e] X.env = [(false, eval e X.env)]) (pl : Sem Bool)
    (he : eval (.Call (.Attribute (.Call (.Name "super" p0) [] [] p1) m apos) [e] [] pos) X.env = (do
      let ov ← attributeBase (.Call (.Name "super" p0) [] [] p1) m X.env (eval (.Call (.Name "super" p0) [] [] p1) X.env)
      standAt apos.atName
      let (f, first) ← holding [ov] (getMethod ov m pl)
      callWith pos f first (backTo pos (starEach [e] X.env)) [])) :
    PySem.wpAt (model X.prog X.w) X.A (.func body X.env) (exec (.Expr (.Call (.Attribute (.Call (.Name "super" p0) [] [] p1) m apos) [e] [] pos) epos) X.env)
      (fun fl s' => fl = .next ∧ ∃ v H2, Inv X pins σ H2 s' ∧ Q v H2) X.xe s := by
  obtain ⟨oc, od, kV, doc, pm, an, ct, osl, lk, hcd, bi⟩ := B.ex
  obtain ⟨ccl, cdd, vs2, ccs, tf, hcode, hvs⟩ := B.code
  obtain ⟨cl0, cld, csl, hcell⟩ := B.cell
  obtain ⟨cdD, hD⟩ := B.cls
  have KX := I.kIn
  obtain ⟨oD, hD1, hD2⟩ : ∃ oD, s.heap.get? D = some oD ∧ oD.data = .cls cdD := by
    unfold PySem.W.clsIn at hD
    split at hD
    · rename_i c d cd' sl ho
      cases hD
      exact ⟨_, KX _ _ ho, rfl⟩
    · cases hD
  obtain ⟨ar, har, har2⟩ : ∃ ar : Arg, ((defArgs st).posonlyargs ++ (defArgs st).args).head? = some ar ∧ ar.arg = s0 := by
    have := B.pos
    rw [hps] at this
    cases z : ((defArgs st).posonlyargs ++ (defArgs st).args).head? with
    | none => rw [z] at this; cases this
    | some ar => rw [z] at this; exact ⟨ar, rfl, Option.some.inj this⟩
  obtain ⟨mA, O, _, _, _, _⟩ := ins_get I.hok ea
  obtain ⟨odx, J, _⟩ := O.look
  refine PySem.ks_wpAt_Expr_any ?_ hint hsw
  refine PySem.ks_wpAt_MethodCall (pl := pl) ?_ he
  refine PySem.ks_wpAt_super_base (env := X.env) (fd := PySem.W.fnX name qual (defArgs st) (defBody st) (defScope st) [("__class__", cc)] .none kV doc pm an (.ref c) ct) (by show X.env.scope.names.lookup _ = _; rw [hsc]; exact B.scS) (by show X.env.scope.names.lookup _ = _; rw [hsc]; exact B.scC) M.cl hfu (KX _ _ lk) rfl (ar := ar) har hco (KX _ _ hcode) rfl hvs hP.file hP.top ?_
  have hgs : X.env.kindOf ("super" : Str) = some .globalImplicit := by show X.env.scope.names.lookup _ = _; rw [hsc]; exact B.scS
  refine PySem.W.ks_loadName_global I.ok.kind hgs ?_
  obtain ⟨mb, h1, h2⟩ := I.mod.blt
  refine Calls.loadGlobal_builtin (by rw [I.ok.glob]; exact I.mod.glob.keeps I.bk) (PySem.W.mg_none_of I.mod.kin I.mod.glob B.nosuper) (by rw [I.ok.blt]; exact h1.keeps I.bk) ((h2 "super" (by decide +kernel)).trans (by rfl)) ⟨rfl, ?_⟩
  refine wpAny_loadName_free I.ok.kind (by show X.env.scope.names.lookup _ = _; rw [hsc]; exact B.scC) hcl ⟨_, KX _ _ hcell, rfl⟩ ?_
  obtain ⟨mL, hns, hal⟩ := I.loc
  obtain ⟨u, ru, hlook⟩ := hal 0 s0 (.ref x) hN hv (Or.inl hloc)
  obtain rfl : u = Value.ref x := ru
  have hmL : mL s0 = some (.ref x) := by
    rcases hlook with ⟨_, z⟩ | ⟨z, _⟩
    · exact z
    · rcases z with z | z
      · rw [show X.env.kindOf s0 = some .local from hloc] at z; cases z
      · rw [show X.env.kindOf s0 = some .local from hloc] at z; cases z
  rw [har2]
  refine wpAny_loadName_local I.ok.kind hloc hns hmL ?_
  obtain ⟨hh, g, d, t0, os⟩ := s
  refine PySem.ks_wpAny_isType_cls hD1 hD2 ⟨rfl, ?_⟩
  refine PySem.ks_wpAny_call_super hD1 hD2 J.at_ J.cls (fun c e => ?_) (PySem.W.looks_mroIn KX M.sub) (fun h' ee kk => ?_)
  · have := J.no
    unfold PySem.W.notCls at this
    rw [e] at this
    exact Bool.noConfusion this
  -- the super object stands; its method
  have I2 : Inv X pins σ H ⟨h', g, d, t0, os⟩ := I.kept (t' := t0) kk
  have KX2 := I2.kIn
  cases hc : PySem.W.clsIn X.K C with
  | none => have := M.at_; unfold PySem.W.ks_superIn at this; rw [hc] at this; cases this
  | some cd =>
    have hm := M.at_
    unfold PySem.W.ks_superIn at hm
    rw [hc] at hm
    obtain ⟨of, hof, hofc⟩ : ∃ of, h'.get? f2 = some of ∧ of.cls = .type "function" := by
      have ht' : (X.K.lookup f2).map (·.cls) = some (.type "function") := M.ty
      cases z : X.K.lookup f2 with
      | none => rw [z] at ht'; cases ht'
      | some of => rw [z] at ht'; exact ⟨of, KX2 _ _ z, Option.some.inj ht'⟩
    refine PySem.ks_wpAny_getMethod_super ee (PySem.W.looks_opaque KX2 B.noop) (l₀ := cd.mro) ?_ rfl KX2 hm hof hofc (PySem.W.ks_ne KX J hc) M.cl ?_
    · exact fun A Q E s k q => wpAny_bind ((PySem.W.looks_clsIn KX2 hc) A _ E s k (wpAny_pure q))
    · have I3 : Inv X ((h'.objs.size, PySem.W.methodObj (.ref f2) (.ref x)) :: pins) σ H ⟨h'.push (PySem.W.methodObj (.ref f2) (.ref x)), g, d, t0 + 1, os⟩ := ClX.met_new I2
      refine ClX.callwith_cm I3 (ClX.base_none I2 (Nat.le_refl _)) M.fi (thn (ha.run pos _ _ σ H _ I3 h) fun us s3 ⟨vs, H2, I4, rv, q2⟩ => ⟨⟨ClX.pin_at I4, I4.kIn⟩, ?_⟩) hst rfl
      exact thn (ClX.run_cm F hr hx I4 rv q2) fun v s4 ⟨z, H3, I5, _, q3⟩ => ⟨rfl, z, H3, I5, q3⟩
end
/-- the def, by its first statement super().m(e) and the rest -/
theorem SupAt.okX {P : Program} {w : World} {K : PySem.W.Frag} {mg : Str → Option Value} {base : Heap} {CX : CXT} {k k2 : Nat} {name qual : Str} {st : Stmt} {f c cc D C f2 : Addr} {N ps : List Str} {file s0 m : Str} {sp sp2 : Sp} {p0 p1 apos pos epos : Pos} {e : Expr} {rest : List Stmt}
    (B : SupAt K name qual st f c cc D ps file) (hP : SupP P file) (M : SupM K C D m f2) (F : FnR P w K mg base CX k2 f2 sp2) (hk : k2 ≤ k)
    (S : NScope N ps ["__class__"] (defScope st)) (hps : ps[0]? = some s0) (hb : defBody st = .Expr (.Call (.Attribute (.Call (.Name "super" p0) [] [] p1) m apos) [e] [] pos) epos :: rest)
    (len : ∀ vs H Q E, sp vs H Q E → vs.length = ps.length)
    (walk : ∀ (A : Around) (outer : List Env) (s : Shared) (H : Hp) (vs : List V) (Q : VK) (E : XK) (X : Cx), X = ncx CX P w K mg base N ⟨name, qual, defArgs st, defBody st, defScope st, [("__class__", cc)], c⟩ f A outer s H E → Room k X.A → sp vs H Q E →
      Passes CX X E ∧ interactive X.env = false ∧ swapsWith (.Call (.Attribute (.Call (.Name "super" p0) [] [] p1) m apos) [e] [] pos) none epos.line X.env = pure false ∧ starEach [e] X.env = [(false, eval e X.env)] ∧
      (∃ pl : Sem Bool, eval (.Call (.Attribute (.Call (.Name "super" p0) [] [] p1) m apos) [e] [] pos) X.env = (do
        let ov ← attributeBase (.Call (.Name "super" p0) [] [] p1) m X.env (eval (.Call (.Name "super" p0) [] [] p1) X.env)
        standAt apos.atName
        let (f, first) ← holding [ov] (getMethod ov m pl)
        callWith pos f first (backTo pos (starEach [e] X.env)) [])) ∧
      ∃ (x dx : Addr) (fs : List (Str × V)) (t : TA), vs[0]? = some (.ref x) ∧ H x = some (.ins C dx fs) ∧ PA X [e] t ∧
        t (startF N vs [none]) H fun us H1 => sp2 (.ref x :: us) H1 (fun _ H2 => ∃ tt, PSs X rest tt ∧ tt { nx := fun _ H' => Q .non H', rt := Q } (startF N vs [none]) H2) E) :
    FnR P w K mg base CX (k + 1) f sp := by
  obtain ⟨oc, od, kV, doc, pm, an, ct, osl, lk, hcd, bi⟩ := B.ex
  intro A outer s H us vs Q E hr e0 r hs
  have hl := len _ _ _ _ hs
  have kin : K.In s.heap := e0.mod.kin.keeps fun b o e => (e0.bs b o e).1
  have lim : s.heap.NoLimit := e0.mod.nolimit.keeps fun b o e => (e0.bs b o e).1
  have hbn : BindsTo s (PySem.W.fnX name qual (defArgs st) (defBody st) (defScope st) [("__class__", cc)] .none kV doc pm an (.ref c) ct) ⟨us, []⟩ (ps.zip us) := by
    have := bi s us kin (by rw [List.append_nil, ← r.length]; exact hl)
    rw [List.append_nil] at this
    exact this
  refine codeAny_call_function hr.depth (kin _ _ lk) rfl S.co S.gen rfl (PySem.W.codeRec_of kin hcd) (hbn _ _ _ _ ?_)
  refine wpAny_newFunctionEnv S.nocell (fun ⟨n, _⟩ hy => S.par n (List.of_mem_zip hy).1) (fun h₁ hns hsb => ⟨lim.fresh _ hsb, ?_⟩) S.kind
  generalize hF : (⟨name, qual, defArgs st, defBody st, defScope st, [(("__class__" : Str), cc)], c⟩ : NF) = FF at walk
  have hFc : FF.cl = [(("__class__" : Str), cc)] := by rw [← hF]
  have hFs : FF.scope = defScope st := by rw [← hF]
  have hFb : FF.body = defBody st := by rw [← hF]
  have hFcc : FF.c = c := by rw [← hF]
  have henv : envF FF f s.heap.objs.size = PySem.W.envX qual (defScope st) s.heap.objs.size f (.ref c) [(("__class__" : Str), cc)] := by rw [← hF]
  have kp : ∀ b o, s.heap.get? b = some o → h₁.get? b = some o := fun b o e => hsb.extBut b o (Nat.ne_of_lt (Heap.lt_size e)) (Heap.get?_push_of_some _ e)
  obtain ⟨cl0, cld, csl, hcell⟩ := B.cell
  have CA : CellsAt FF.cl ["__class__"] [none] s.heap H := by
    rw [hFc]
    refine ⟨rfl, fun y a hy => ?_, fun a b a' h1 h2 => ?_, fun i y hi => ?_⟩
    · have : a = cc := by
        have hm := PySem.mem_of_lookup hy
        simp only [List.mem_singleton] at hm
        exact (Prod.mk.inj hm).2
      subst this
      exact ⟨(e0.bs _ _ (e0.mod.kin _ _ hcell)).2, _, _, kin _ _ hcell, rfl⟩
    · have m1 := PySem.mem_of_lookup h1
      have m2 := PySem.mem_of_lookup h2
      simp only [List.mem_singleton] at m1 m2
      rw [(Prod.mk.inj m1).1, (Prod.mk.inj m2).1]
    · match i, hi with
      | 0, hi =>
        cases hi
        exact ⟨cc, by simp [List.lookup], fun v hv => by cases hv⟩
      | i + 1, hi => simp at hi
  have I : Inv (ncx CX P w K mg base N FF f A outer s H E) [] (startF N vs [none]) H { s with heap := h₁, toks := s.toks + (ps.zip us).length } := inv_startN (by rw [hFs]; exact S) hr.hd e0 hl r CA hns kp
  obtain ⟨hx, hint, hsw, hst, ⟨pl, he⟩, x, dx, fs, t, hv0, ea, ha, hq⟩ := walk A outer s H vs Q E _ rfl (hr.deeper _) hs
  show codeAny _ _ (.func (defBody st) (PySem.W.envX qual (defScope st) s.heap.objs.size f (.ref c) [(("__class__" : Str), cc)])) _ _
  rw [← henv]
  refine PySem.ks_codeAny_funcAt ?_
  rw [hb]
  refine PySem.ks_wpAt_execs_cons ?_
  have hps0 : ps.length ≠ 0 := by
    intro z
    cases ps with
    | nil => cases hps
    | cons a b => cases z
  have hv : (startF N vs [none])[0]? = some (some (.ref x)) := by
    unfold startF
    rw [List.getElem?_append_left (by rw [List.length_map]; omega), List.getElem?_map, hv0]
    rfl
  have hN0 : N[0]? = some s0 := by
    have : (ps ++ [("__class__" : Str)])[0]? = some s0 := by rw [List.getElem?_append_left (by omega)]; exact hps
    rw [← S.pre, List.getElem?_take_of_lt (by simp)] at this
    exact this
  have hloc0 : (defScope st).names.lookup s0 = some .local := S.par s0 (List.mem_of_getElem? hps)
  refine PySem.ks_wpAt_mono (run_super (X := ncx CX P w K mg base N FF f A outer s H E) (body := _) B hP M F ((hr.deeper _).mono hk) hx hFs rfl (by show Value.ref FF.c = _; rw [hFcc]) (by show FF.cl.lookup _ = _; rw [hFc]; simp [List.lookup]) hps hN0 (by show FF.scope.names.lookup s0 = _; rw [hFs]; exact hloc0) I hv ea ha hq hint hsw hst pl he) (fun fl s' hh => ?_) fun e s' hh => hh
  obtain ⟨rfl, _, H2, I2, tt, htt, hqq⟩ := hh
  refine wpAt_of_wpAny ?_
  have fin : ∀ {σ' : L2.St} {H' : Hp} {v : V} {u : Value} {s' : Shared}, Inv (ncx CX P w K mg base N FF f A outer s H E) [] σ' H' s' → L2.RelV v u → Q v H' → CE outer P w H s Q u s' :=
    fun {σ' H' v u s'} J rv q => ⟨v, H', J.os, J.bare, J.base, J.hok, rv, q⟩
  refine wpAny_mono (htt.run [] _ (startF N vs [none]) H2 _ I2 hqq) (fun fl s' hs => ?_) fun e s' hs => hs
  cases fl with
  | ret u =>
    obtain ⟨v, σ', H', J, rv, q⟩ := hs
    exact fin J rv q
  | next =>
    obtain ⟨σ', H', J, q⟩ := hs
    exact fin (v := V.non) (u := Value.none) J rfl q
  | brk =>
    obtain ⟨_, _, _, q⟩ := hs
    exact False.elim q
  | cont =>
    obtain ⟨_, _, _, q⟩ := hs
    exact False.elim q
end U
namespace U
open PySem PySem.Spec PyProof.Rows L2 StX
/-! ### {o!r}, o an instance with its own __repr__ -/
end U
namespace U
open PySem PySem.Spec PyProof.Rows L2 GQ PySem.SeqAt MeetsSeq MeetsSeq2 MeetsSeq3 SeqRoads2
open AutoSeq1 (wpAny_loadPart')
/-! ### == of lists and tuples, with either result -/
/-- D x y H c: == of the two gives c -/
abbrev EqvB := V → V → Hp → Bool → Prop
def MonB (D : EqvB) : Prop := ∀ x y H H' c, Ext H H' → D x y H c → D x y H' c
def EqH (X : Cx) (n : Nat) (D : EqvB) : Prop :=
  ∀ (A : Around) (pins : List (Addr × Obj)) (s : Shared) (σ : L2.St) (H : Hp) (x y : V) (u v : Value) (c : Bool), Sub X n A → Inv X pins σ H s → RelV x u → RelV y v → D x y H c →
    wpAny (model X.prog X.w) A (eqBool u v) (fun r s' => r = c ∧ ∃ H', Inv X pins σ H' s' ∧ Ext H H') X.xe s
section
variable {X : Cx} {n m : Nat} {D D' : EqvB}
theorem EqH.mono (h : EqH X n D) (hn : n ≤ m) : EqH X m D := fun A pins s σ H x y u v c sb => h A pins s σ H x y u v c (sb.mono hn)
theorem EqH.or (h : EqH X n D) (h' : EqH X n D') : EqH X n (fun x y H c => D x y H c ∨ D' x y H c) := fun A pins s σ H x y u v c sb I rx ry d => by
  rcases d with d | d
  · exact h A pins s σ H x y u v c sb I rx ry d
  · exact h' A pins s σ H x y u v c sb I rx ry d
theorem MonB.or (h : MonB D) (h' : MonB D') : MonB (fun x y H c => D x y H c ∨ D' x y H c) := fun x y H H' c e d => d.elim (fun d => .inl (h x y H H' c e d)) fun d => .inr (h' x y H H' c e d)
end
end U
namespace PySem.W
open PySem PySem.Calls PyProof.Rows
end PySem.W
namespace U
open PySem PySem.Spec PyProof.Rows L2 StX
end U
namespace U
open PySem PySem.Spec PyProof.Rows L2 StX
/-! ### C(*xs) -/
end U
namespace U
open PySem PySem.Spec PyProof.Rows L2 GQ PySem.SeqAt MeetsSeq MeetsSeq2 MeetsSeq3 SeqRoads2
open AutoSeq1 (wpAny_loadPart')
/-! ### != of lists, == and != of tuples of any lengths, in: with either result -/
/-- what != says, by what == says -/
def NeH (X : Cx) (n : Nat) (D : EqvB) : Prop :=
  ∀ (A : Around) (pins : List (Addr × Obj)) (s : Shared) (σ : L2.St) (H : Hp) (x y : V) (u v : Value) (c : Bool), Sub X n A → Inv X pins σ H s → RelV x u → RelV y v → D x y H c →
    wpAny (model X.prog X.w) A (richCompare .NotEq u v) (fun r s' => r = .bool (!c) ∧ ∃ H', Inv X pins σ H' s' ∧ Ext H H') X.xe s
section
variable {X : Cx} {n m : Nat} {D D' : EqvB}
theorem NeH.or (h : NeH X n D) (h' : NeH X n D') : NeH X n (fun x y H c => D x y H c ∨ D' x y H c) := fun A pins s σ H x y u v c sb I rx ry d => by
  rcases d with d | d
  · exact h A pins s σ H x y u v c sb I rx ry d
  · exact h' A pins s σ H x y u v c sb I rx ry d
end
end U
namespace U
open PySem PySem.Spec PyProof.Rows L2 StX
open PySem.AutoSeq1 (wpAny_loadPart')
/-! ### enumerate(a tuple) -/
/-! ### a tuple of one item, many times -/
end U
namespace PM
open U
/-! ### one-to-one maps between parts of 0 .. n - 1 -/
abbrev PF := Int → Option Int
structure WF (n : Int) (f : PF) : Prop where
  dom : ∀ x y, f x = some y → 0 ≤ x ∧ x < n ∧ 0 ≤ y ∧ y < n
  inj : ∀ x x' y, f x = some y → f x' = some y → x = x'
def tabN (f : PF) (n : Nat) : List (Int × Int) := (List.range n).filterMap fun (i : Nat) => (f (i : Int)).map fun y => ((i : Int), y)
def tab (n : Int) (f : PF) : List (Int × Int) := tabN f n.toNat
theorem mem_tabN {f : PF} {n : Nat} {x y : Int} : (x, y) ∈ tabN f n ↔ f x = some y ∧ ∃ i : Nat, i < n ∧ x = (i : Int) := by
  unfold tabN
  rw [List.mem_filterMap]
  constructor
  · rintro ⟨i, hi, e⟩
    rw [List.mem_range] at hi
    cases h : f (i : Int) with
    | none => rw [h] at e; cases e
    | some z => rw [h] at e; cases e; exact ⟨h, i, hi, rfl⟩
  · rintro ⟨h, i, hi, rfl⟩
    exact ⟨i, List.mem_range.mpr hi, by rw [h]; rfl⟩
theorem mem_tab {n : Int} {f : PF} (w : WF n f) {x y : Int} : (x, y) ∈ tab n f ↔ f x = some y := by
  unfold tab
  rw [mem_tabN]
  constructor
  · exact fun h => h.1
  · intro h
    have := w.dom x y h
    exact ⟨h, x.toNat, by omega, by omega⟩
theorem keys_tabN (f : PF) (n : Nat) : ((tabN f n).map (·.1)).Nodup := by
  induction n with
  | zero => exact List.nodup_nil
  | succ n ih =>
    have e : tabN f (n + 1) = tabN f n ++ ((f (n : Int)).map fun y => ((n : Int), y)).toList := by
      unfold tabN
      rw [List.range_succ, List.filterMap_append]
      cases h : f (n : Int) <;> simp [h]
    rw [e, List.map_append, List.nodup_append]
    refine ⟨ih, ?_, ?_⟩
    · cases f (n : Int) <;> simp
    · intro a ha b hb e
      subst e
      obtain ⟨p, hp, rfl⟩ := List.mem_map.mp ha
      obtain ⟨x, y⟩ := p
      obtain ⟨_, i, hi, ex⟩ := mem_tabN.mp hp
      cases h : f (n : Int) with
      | none => rw [h] at hb; simp at hb
      | some z =>
        rw [h] at hb
        simp at hb
        omega
theorem keys_tab (n : Int) (f : PF) : ((tab n f).map (·.1)).Nodup := keys_tabN f _
theorem lk_tab {n : Int} {f : PF} (w : WF n f) (x : Int) : lk (tab n f) x = f x := by
  cases h : f x with
  | some y => exact lk_some (keys_tab n f) ((mem_tab w).mpr h)
  | none =>
    cases e : lk (tab n f) x with
    | none => rfl
    | some y =>
      have := (mem_tab w).mp (lk_mem e)
      rw [h] at this; cases this
theorem tab_len (n : Int) (f : PF) : (tab n f).length ≤ n.toNat := by
  unfold tab tabN
  exact Nat.le_trans (List.length_filterMap_le _ _) (by simp)
theorem vals_tab {n : Int} {f : PF} (w : WF n f) : ((tab n f).map (·.2)).Nodup := by
  have k := keys_tab n f
  have key : ∀ l : List (Int × Int), (∀ p ∈ l, f p.1 = some p.2) → (l.map (·.1)).Nodup → (l.map (·.2)).Nodup := by
    intro l
    induction l with
    | nil => intro _ _; exact List.nodup_nil
    | cons p r ih =>
      intro h nd
      rw [List.map_cons, List.nodup_cons] at nd ⊢
      refine ⟨fun hm => ?_, ih (fun q hq => h q (List.mem_cons_of_mem _ hq)) nd.2⟩
      obtain ⟨q, hq, e⟩ := List.mem_map.mp hm
      have h1 := h p List.mem_cons_self
      have h2 := h q (List.mem_cons_of_mem _ hq)
      rw [e] at h2
      have := w.inj _ _ _ h1 h2
      exact nd.1 (by rw [this]; exact List.mem_map.mpr ⟨q, hq, rfl⟩)
  exact key _ (fun p hp => (mem_tab w).mp hp) k
/-! ### the operations -/
def idn (n : Int) : PF := fun x => if 0 ≤ x ∧ x < n then some x else none
def inv (n : Int) (f : PF) : PF := fun y => ((tab n f).find? fun p => decide (p.2 = y)).map (·.1)
def le (f g : PF) : Prop := ∀ x y, f x = some y → g x = some y
theorem inv_iff {n : Int} {f : PF} (w : WF n f) {x y : Int} : inv n f y = some x ↔ f x = some y := by
  unfold inv
  constructor
  · intro h
    cases e : (tab n f).find? (fun p => decide (p.2 = y)) with
    | none => rw [e] at h; cases h
    | some p =>
      rw [e] at h
      obtain ⟨a, b⟩ := p
      have h1 := List.find?_some e
      simp only [decide_eq_true_eq] at h1
      have h2 : a = x := Option.some.inj h
      subst h1 h2
      exact (mem_tab w).mp (List.mem_of_find?_eq_some e)
  · intro h
    have hm := (mem_tab w).mpr h
    cases e : (tab n f).find? (fun p => decide (p.2 = y)) with
    | none =>
      have := List.find?_eq_none.mp e _ hm
      simp at this
    | some p =>
      obtain ⟨a, b⟩ := p
      have h1 := List.find?_some e
      simp only [decide_eq_true_eq] at h1
      subst h1
      have h3 := (mem_tab w).mp (List.mem_of_find?_eq_some e)
      show some a = some x
      rw [w.inj _ _ _ h3 h]
theorem wf_inv {n : Int} {f : PF} (w : WF n f) : WF n (inv n f) := by
  refine ⟨fun y x h => ?_, fun y y' x h h' => ?_⟩
  · have := w.dom x y ((inv_iff w).mp h)
    omega
  · have h1 := (inv_iff w).mp h
    have h2 := (inv_iff w).mp h'
    rw [h1] at h2
    exact Option.some.inj h2
/-- a dict of pairs tells f -/
structure DI (l : List (Int × Int)) (f : PF) : Prop where
  nd : (l.map (·.1)).Nodup
  at_ : ∀ x, lk l x = f x
theorem DI.mem {l : List (Int × Int)} {f : PF} (d : DI l f) {x y : Int} : (x, y) ∈ l ↔ f x = some y := by
  rw [← d.at_]
  exact ⟨lk_some d.nd, lk_mem⟩
theorem di_tab {n : Int} {f : PF} (w : WF n f) : DI (tab n f) f := ⟨keys_tab n f, lk_tab w⟩
theorem DI.vals {n : Int} {l : List (Int × Int)} {f : PF} (d : DI l f) (w : WF n f) : (l.map (·.2)).Nodup := by
  obtain ⟨nd, _⟩ := id d
  have key : ∀ r : List (Int × Int), (∀ p ∈ r, f p.1 = some p.2) → (r.map (·.1)).Nodup → (r.map (·.2)).Nodup := by
    intro r
    induction r with
    | nil => intro _ _; exact List.nodup_nil
    | cons p r ih =>
      intro h nd
      rw [List.map_cons, List.nodup_cons] at nd ⊢
      refine ⟨fun hm => ?_, ih (fun q hq => h q (List.mem_cons_of_mem _ hq)) nd.2⟩
      obtain ⟨q, hq, e⟩ := List.mem_map.mp hm
      have h1 := h p List.mem_cons_self
      have h2 := h q (List.mem_cons_of_mem _ hq)
      rw [e] at h2
      have := w.inj _ _ _ h1 h2
      exact nd.1 (by rw [this]; exact List.mem_map.mpr ⟨q, hq, rfl⟩)
  exact key l (fun p hp => d.mem.mp hp) nd
theorem di_of {l : List (Int × Int)} {f : PF} (nd : (l.map (·.1)).Nodup) (h : ∀ x y, (x, y) ∈ l ↔ f x = some y) : DI l f := by
  refine ⟨nd, fun x => ?_⟩
  cases e : f x with
  | some y => exact lk_some nd ((h x y).mpr e)
  | none =>
    cases e2 : lk l x with
    | none => rfl
    | some y =>
      have := (h x y).mp (lk_mem e2)
      rw [e] at this; cases this
end PM
namespace PM
open U
/-! ### powers -/
def iter (f : PF) : Nat → PF
  | 0 => fun x => some x
  | k + 1 => fun x => (iter f k x).bind f
theorem iter_add (f : PF) (a b : Nat) (x : Int) : iter f (a + b) x = (iter f a x).bind (iter f b) := by
  induction b with
  | zero => simp [iter]
  | succ b ih =>
    show (iter f (a + b) x).bind f = _
    rw [ih]
    cases iter f a x <;> rfl
theorem iter_head (f : PF) (k : Nat) (x : Int) : iter f (k + 1) x = (f x).bind (iter f k) := by
  rw [Nat.add_comm, iter_add]; rfl
structure Row (f : PF) (e : Int) (r : List Int) : Prop where
  h0 : r[0]? = some e
  st : ∀ (i : Nat) (a b : Int), r[i]? = some a → r[i + 1]? = some b → f a = some b ∧ b ≠ e
theorem Row.ne {f : PF} {e : Int} {r : List Int} (w : ∀ x x' y, f x = some y → f x' = some y → x = x') (R : Row f e r) : ∀ (i k : Nat) (a : Int), r[i]? = some a → r[i + k + 1]? = some a → False
  | 0, k, a, h1, h2 => by
    rw [R.h0] at h1
    cases h1
    have hk : ∃ b, r[k]? = some b := by
      have : 0 + k + 1 < r.length := (List.getElem?_eq_some_iff.mp h2).1
      exact ⟨_, List.getElem?_eq_getElem (by omega)⟩
    obtain ⟨b, hb⟩ := hk
    have := R.st k b e hb (by rw [Nat.zero_add] at h2; exact h2)
    exact this.2 rfl
  | i + 1, k, a, h1, h2 => by
    have l1 : i + 1 < r.length := (List.getElem?_eq_some_iff.mp h1).1
    have l2 : i + 1 + k + 1 < r.length := (List.getElem?_eq_some_iff.mp h2).1
    obtain ⟨b, hb⟩ : ∃ b, r[i]? = some b := ⟨_, List.getElem?_eq_getElem (by omega)⟩
    obtain ⟨c, hc⟩ : ∃ c, r[i + k + 1]? = some c := ⟨_, List.getElem?_eq_getElem (by omega)⟩
    have e1 := (R.st i b a hb h1).1
    have h2' : r[i + k + 1 + 1]? = some a := by rw [show i + k + 1 + 1 = i + 1 + k + 1 by omega]; exact h2
    have e2 := (R.st (i + k + 1) c a hc h2').1
    have : b = c := w _ _ _ e1 e2
    subst this
    exact Row.ne w R i k b hb hc
theorem nodup_of_get {l : List Int} (h : ∀ (i k : Nat) (a : Int), l[i]? = some a → l[i + k + 1]? = some a → False) : l.Nodup := by
  induction l with
  | nil => exact List.nodup_nil
  | cons x r ih =>
    rw [List.nodup_cons]
    refine ⟨fun hm => ?_, ih fun i k a h1 h2 => ?_⟩
    · obtain ⟨j, hj⟩ := List.mem_iff_getElem?.mp hm
      exact h 0 j x rfl (by rw [Nat.zero_add]; exact hj)
    · refine h (i + 1) k a h1 ?_
      rw [show i + 1 + k + 1 = (i + k + 1) + 1 by omega]
      exact h2
theorem Row.nd {n : Int} {f : PF} {e : Int} {r : List Int} (w : WF n f) (R : Row f e r) : r.Nodup := nodup_of_get (R.ne w.inj)
theorem Row.dom {n : Int} {f : PF} {e : Int} {r : List Int} (w : WF n f) (R : Row f e r) (h1 : 0 ≤ e) (h2 : e < n) : ∀ x ∈ r, 0 ≤ x ∧ x < n := by
  intro x hx
  obtain ⟨i, hi⟩ := List.mem_iff_getElem?.mp hx
  cases i with
  | zero => rw [R.h0] at hi; cases hi; exact ⟨h1, h2⟩
  | succ i =>
    have l1 : i + 1 < r.length := (List.getElem?_eq_some_iff.mp hi).1
    obtain ⟨b, hb⟩ : ∃ b, r[i]? = some b := ⟨_, List.getElem?_eq_getElem (by omega)⟩
    have := w.dom _ _ (R.st i b x hb hi).1
    omega
theorem len_range {l : List Int} {n : Int} (nd : l.Nodup) (h : ∀ x ∈ l, 0 ≤ x ∧ x < n) : l.length ≤ n.toNat := by
  have : l.length ≤ ((List.range n.toNat).map fun (i : Nat) => (i : Int)).length := List.Nodup.length_le_of_subset nd (by
    intro x hx
    have := h x hx
    exact List.mem_map.mpr ⟨x.toNat, List.mem_range.mpr (by omega), Int.toNat_of_nonneg this.1⟩)
  simpa using this
theorem Row.more {f : PF} {e : Int} {pre : List Int} {z y : Int} (R : Row f e (pre ++ [z])) (h : f z = some y) (ne : y ≠ e) : Row f e (pre ++ [z] ++ [y]) := by
  refine ⟨?_, fun i a b h1 h2 => ?_⟩
  · rw [List.getElem?_append_left (by simp)]
    exact R.h0
  · by_cases hi : i + 1 < (pre ++ [z]).length
    · rw [List.getElem?_append_left hi] at h2
      rw [List.getElem?_append_left (by omega)] at h1
      exact R.st i a b h1 h2
    · have l2 : i + 1 < (pre ++ [z] ++ [y]).length := (List.getElem?_eq_some_iff.mp h2).1
      have e1 : i = pre.length := by simp at hi l2; omega
      subst e1
      rw [List.getElem?_append_left (by simp)] at h1
      have z1 : (pre ++ [z])[pre.length]? = some z := by simp
      rw [z1] at h1
      cases h1
      have z2 : (pre ++ [z] ++ [y])[pre.length + 1]? = some y := by simp
      rw [z2] at h2
      cases h2
      exact ⟨h, ne⟩
/-- f along an open row -/
theorem Row.openAt {f : PF} {e : Int} {r : List Int} (R : Row f e r) {z : Int} (hz : r[r.length - 1]? = some z) (hl : 0 < r.length) (ho : f z = none) (i : Nat) (a : Int) (hi : r[i]? = some a) : ∀ j : Nat, iter f j a = r[i + j]?
  | 0 => by rw [Nat.add_zero, hi]; rfl
  | j + 1 => by
    show (iter f j a).bind f = _
    rw [Row.openAt R hz hl ho i a hi j]
    cases e1 : r[i + j]? with
    | none =>
      have h1 := List.getElem?_eq_none_iff.mp e1
      exact (List.getElem?_eq_none_iff.mpr (by omega)).symm
    | some b =>
      show f b = _
      have l1 : i + j < r.length := (List.getElem?_eq_some_iff.mp e1).1
      cases e2 : r[i + (j + 1)]? with
      | some c => exact (R.st (i + j) b c e1 e2).1
      | none =>
        have h2 := List.getElem?_eq_none_iff.mp e2
        have : i + j = r.length - 1 := by omega
        rw [this, hz] at e1
        cases e1
        exact ho
/-- f along a closed row -/
theorem Row.closedAt {f : PF} {e : Int} {r : List Int} (R : Row f e r) {z : Int} (hz : r[r.length - 1]? = some z) (hl : 0 < r.length) (hc : f z = some e) (i : Nat) (a : Int) (hi : r[i]? = some a) : ∀ j : Nat, iter f j a = r[(i + j) % r.length]?
  | 0 => by
    have l1 : i < r.length := (List.getElem?_eq_some_iff.mp hi).1
    rw [Nat.add_zero, Nat.mod_eq_of_lt l1, hi]; rfl
  | j + 1 => by
    show (iter f j a).bind f = _
    rw [Row.closedAt R hz hl hc i a hi j]
    have l1 : (i + j) % r.length < r.length := Nat.mod_lt _ hl
    obtain ⟨b, e1⟩ : ∃ b, r[(i + j) % r.length]? = some b := ⟨_, List.getElem?_eq_getElem l1⟩
    rw [e1]
    show f b = _
    by_cases h : (i + j) % r.length = r.length - 1
    · rw [h, hz] at e1
      cases e1
      rw [hc]
      have : (i + (j + 1)) % r.length = 0 := by
        rw [show i + (j + 1) = (i + j) + 1 by omega, Nat.add_mod, h]
        by_cases h1 : r.length = 1
        · rw [h1]
        · rw [Nat.mod_eq_of_lt (show 1 < r.length by omega), show r.length - 1 + 1 = r.length by omega, Nat.mod_self]
      rw [this, R.h0]
    · have : (i + (j + 1)) % r.length = (i + j) % r.length + 1 := by
        rw [show i + (j + 1) = (i + j) + 1 by omega, Nat.add_mod]
        rw [Nat.mod_eq_of_lt (show 1 < r.length by omega), Nat.mod_eq_of_lt (by omega)]
      rw [this]
      obtain ⟨c, e2⟩ : ∃ c, r[(i + j) % r.length + 1]? = some c := ⟨_, List.getElem?_eq_getElem (by omega)⟩
      rw [e2]
      exact (R.st _ b c e1 e2).1
end PM
namespace PM
open U
/-! ### the rules of the operators -/
theorem pf_ext {f g : PF} (h : ∀ x y, f x = some y ↔ g x = some y) : f = g := by
  funext x
  cases e : f x with
  | some y => exact ((h x y).mp e).symm
  | none =>
    cases e2 : g x with
    | none => rfl
    | some y => rw [(h x y).mpr e2] at e; cases e
/-! ### parts -/
/-! ### powers -/
end PM
namespace PM
open U
/-! ### rows told by their first element -/
def IsRow (f : PF) (e : Int) (r : List Int) : Prop := ∃ pre z, r = pre ++ [z] ∧ Row f e r ∧ (f z = none ∨ f z = some e)
theorem IsRow.get {f : PF} {e : Int} {r r' : List Int} (h : IsRow f e r) (h' : IsRow f e r') : ∀ (i : Nat) (a : Int), r[i]? = some a → r'[i]? = some a
  | 0, a, e1 => by
    obtain ⟨_, _, _, R, _⟩ := h
    obtain ⟨_, _, _, R', _⟩ := h'
    rw [R.h0] at e1
    rw [R'.h0]
    exact e1
  | i + 1, a, e1 => by
    have ih := IsRow.get h h' i
    obtain ⟨_, _, _, R, _⟩ := h
    obtain ⟨pre', z', q', R', st'⟩ := h'
    have l1 : i + 1 < r.length := (List.getElem?_eq_some_iff.mp e1).1
    obtain ⟨b, hb⟩ : ∃ b, r[i]? = some b := ⟨_, List.getElem?_eq_getElem (by omega)⟩
    obtain ⟨f1, ne⟩ := R.st i b a hb e1
    have hb' := ih b hb
    cases e2 : r'[i + 1]? with
    | some c =>
      have := (R'.st i b c hb' e2).1
      rw [f1] at this
      exact this.symm
    | none =>
      exfalso
      have l2 : i < r'.length := (List.getElem?_eq_some_iff.mp hb').1
      have l3 := List.getElem?_eq_none_iff.mp e2
      subst q'
      rw [List.length_append, List.length_singleton] at l2 l3
      have ei : i = pre'.length := by omega
      subst ei
      have : (pre' ++ [z'])[pre'.length]? = some z' := by simp
      rw [this] at hb'
      cases hb'
      rcases st' with q | q
      · rw [f1] at q; cases q
      · rw [f1] at q; exact ne (Option.some.inj q)
theorem IsRow.uniq {f : PF} {e : Int} {r r' : List Int} (h : IsRow f e r) (h' : IsRow f e r') : r = r' := by
  apply List.ext_getElem?
  intro i
  cases e1 : r[i]? with
  | some a => exact (h.get h' i a e1).symm
  | none =>
    cases e2 : r'[i]? with
    | none => rfl
    | some a => rw [h'.get h i a e2] at e1; cases e1
theorem ex_row {n : Int} {f : PF} {e : Int} (w : WF n f) (h1 : 0 ≤ e) (h2 : e < n) : ∃ r, IsRow f e r := by
  refine Classical.byContradiction fun no => ?_
  have key : ∀ k : Nat, ∃ pre z, pre.length = k ∧ Row f e (pre ++ [z]) := by
    intro k
    induction k with
    | zero => exact ⟨[], e, rfl, rfl, fun i a b h1 h2 => by simp at h2⟩
    | succ k ih =>
      obtain ⟨pre, z, hl, R⟩ := ih
      cases hz : f z with
      | none => exact absurd ⟨_, pre, z, rfl, R, .inl hz⟩ no
      | some y =>
        by_cases hy : y = e
        · subst hy; exact absurd ⟨_, pre, z, rfl, R, .inr hz⟩ no
        · exact ⟨pre ++ [z], y, by simp [hl], R.more hz hy⟩
  obtain ⟨pre, z, hl, R⟩ := key n.toNat
  have := len_range (R.nd w) (R.dom w h1 h2)
  rw [List.length_append, List.length_singleton] at this
  omega
open Classical in
noncomputable def rowN (f : PF) (e : Int) : List Int := if h : ∃ r, IsRow f e r then h.choose else []
theorem rowN_eq {f : PF} {e : Int} {r : List Int} (h : IsRow f e r) : rowN f e = r := by
  have hx : ∃ r, IsRow f e r := ⟨r, h⟩
  unfold rowN
  rw [dif_pos hx]
  exact hx.choose_spec.uniq h
theorem rowN_is {n : Int} {f : PF} {e : Int} (w : WF n f) (h1 : 0 ≤ e) (h2 : e < n) : IsRow f e (rowN f e) := by
  obtain ⟨r, h⟩ := ex_row w h1 h2
  rw [rowN_eq h]
  exact h
theorem IsRow.head {f : PF} {e : Int} {r : List Int} (h : IsRow f e r) : r[0]? = some e := by
  obtain ⟨_, _, _, R, _⟩ := h
  exact R.h0
theorem IsRow.mem {f : PF} {e : Int} {r : List Int} (h : IsRow f e r) : e ∈ r := List.mem_of_getElem? h.head
theorem IsRow.dom {n : Int} {f : PF} {e : Int} {r : List Int} (w : WF n f) (h : IsRow f e r) (h1 : 0 ≤ e) (h2 : e < n) : ∀ x ∈ r, 0 ≤ x ∧ x < n := by
  obtain ⟨_, _, _, R, _⟩ := h
  exact R.dom w h1 h2
theorem IsRow.nd {n : Int} {f : PF} {e : Int} {r : List Int} (w : WF n f) (h : IsRow f e r) : r.Nodup := by
  obtain ⟨_, _, _, R, _⟩ := h
  exact R.nd w
/-- what is no target -/
def nonT (n : Int) (f : PF) (e : Int) : Bool := (inv n f e).isNone
theorem nonT_iff {n : Int} {f : PF} (w : WF n f) {e : Int} : nonT n f e = true ↔ ∀ x, f x ≠ some e := by
  unfold nonT
  rw [Option.isNone_iff_eq_none]
  constructor
  · intro h x hx
    rw [(inv_iff w).mpr hx] at h
    cases h
  · intro h
    cases q : inv n f e with
    | none => rfl
    | some x => exact absurd ((inv_iff w).mp q) (h x)
theorem nonT_in {n : Int} {f : PF} {e e' : Int} {r : List Int} (w : WF n f) (h : nonT n f e = true) (R : IsRow f e' r) (hm : e ∈ r) : e = e' := by
  obtain ⟨i, hi⟩ := List.mem_iff_getElem?.mp hm
  obtain ⟨_, _, _, R, _⟩ := R
  cases i with
  | zero => rw [R.h0] at hi; exact (Option.some.inj hi).symm
  | succ i =>
    have l1 : i + 1 < r.length := (List.getElem?_eq_some_iff.mp hi).1
    obtain ⟨b, hb⟩ : ∃ b, r[i]? = some b := ⟨_, List.getElem?_eq_getElem (by omega)⟩
    exact absurd (R.st i b e hb hi).1 ((nonT_iff w).mp h b)
/-! ### which rows are begun -/
noncomputable def seenL (f : PF) (s : List Int) : List Int := (s.map (rowN f)).flatten
theorem mem_seenL {f : PF} {s : List Int} {x : Int} : x ∈ seenL f s ↔ ∃ e ∈ s, x ∈ rowN f e := by
  unfold seenL
  rw [List.mem_flatten]
  constructor
  · rintro ⟨r, hr, hx⟩
    obtain ⟨e, he, rfl⟩ := List.mem_map.mp hr
    exact ⟨e, he, hx⟩
  · rintro ⟨e, he, hx⟩
    exact ⟨_, List.mem_map.mpr ⟨e, he, rfl⟩, hx⟩
noncomputable def stp (f : PF) (s : List Int) (x : Int) : List Int := if x ∈ seenL f s then s else s ++ [x]
noncomputable def selL (f : PF) (b l : List Int) : List Int := l.foldl (stp f) b
theorem selL_append (f : PF) (b l m : List Int) : selL f b (l ++ m) = selL f (selL f b l) m := by
  unfold selL
  rw [List.foldl_append]
theorem selL_one (f : PF) (b l : List Int) (x : Int) : selL f b (l ++ [x]) = stp f (selL f b l) x := by
  rw [selL_append]
  rfl
theorem selL_sub (f : PF) : ∀ (l b : List Int), ∃ c, selL f b l = b ++ c ∧ c.Sublist l ∧ ∀ x ∈ c, x ∉ seenL f b
  | [], b => ⟨[], by simp [selL], List.Sublist.slnil, fun x h => (nomatch h)⟩
  | x :: l, b => by
    by_cases h : x ∈ seenL f b
    · obtain ⟨c, h1, h2, h3⟩ := selL_sub f l b
      refine ⟨c, ?_, h2.cons x, h3⟩
      rw [← h1]
      show selL f (stp f b x) l = _
      unfold stp
      rw [if_pos h]
    · obtain ⟨c, h1, h2, h3⟩ := selL_sub f l (b ++ [x])
      refine ⟨x :: c, ?_, h2.cons_cons x, fun y hy => ?_⟩
      · rw [show b ++ x :: c = b ++ [x] ++ c by simp, ← h1]
        show selL f (stp f b x) l = _
        unfold stp
        rw [if_neg h]
      · rcases List.mem_cons.mp hy with rfl | hy
        · exact h
        · intro hs
          obtain ⟨e, he, hx⟩ := mem_seenL.mp hs
          exact h3 y hy (mem_seenL.mpr ⟨e, List.mem_append_left _ he, hx⟩)
def rgI (n : Nat) : List Int := (List.range n).map fun (i : Nat) => (i : Int)
theorem mem_rgI {n : Nat} {x : Int} : x ∈ rgI n ↔ 0 ≤ x ∧ x < (n : Int) := by
  unfold rgI
  rw [List.mem_map]
  constructor
  · rintro ⟨i, hi, rfl⟩
    rw [List.mem_range] at hi
    omega
  · rintro ⟨h1, h2⟩
    exact ⟨x.toNat, List.mem_range.mpr (by omega), by omega⟩
theorem rgI_succ (n : Nat) : rgI (n + 1) = rgI n ++ [(n : Int)] := by
  unfold rgI
  rw [List.range_succ, List.map_append]
  rfl
theorem rgI_lt (n : Nat) : (rgI n).Pairwise (· < ·) := by
  induction n with
  | zero => exact List.Pairwise.nil
  | succ n ih =>
    rw [rgI_succ, List.pairwise_append]
    refine ⟨ih, List.pairwise_singleton _ _, fun a ha b hb => ?_⟩
    have := mem_rgI.mp ha
    rw [List.mem_singleton] at hb
    omega
theorem nodup_of_lt {l : List Int} (h : l.Pairwise (· < ·)) : l.Nodup := List.Pairwise.imp (fun {a b} h => by omega) h
def nons (n : Int) (f : PF) : List Int := (rgI n.toNat).filter (nonT n f)
theorem nons_dom {n : Int} {f : PF} {e : Int} (h : e ∈ nons n f) : 0 ≤ e ∧ e < n ∧ nonT n f e = true := by
  obtain ⟨h1, h2⟩ := List.mem_filter.mp h
  have := mem_rgI.mp h1
  exact ⟨this.1, by omega, h2⟩
theorem sel_nons {n : Int} {f : PF} (w : WF n f) : ∀ (l b : List Int), (∀ e ∈ b ++ l, 0 ≤ e ∧ e < n ∧ nonT n f e = true) → (b ++ l).Nodup → selL f b l = b ++ l
  | [], b, _, _ => by simp [selL]
  | x :: l, b, h, nd => by
    have e1 : b ++ x :: l = b ++ [x] ++ l := by simp
    have hx : x ∉ seenL f b := by
      intro hs
      obtain ⟨e, he, hm⟩ := mem_seenL.mp hs
      have h1 := h e (List.mem_append_left _ he)
      have h2 := h x (List.mem_append_right _ List.mem_cons_self)
      have := nonT_in w h2.2.2 (rowN_is w h1.1 h1.2.1) hm
      subst this
      exact (List.nodup_append.mp nd).2.2 x he x List.mem_cons_self rfl
    have := sel_nons w l (b ++ [x]) (by rw [← e1]; exact h) (by rw [← e1]; exact nd)
    rw [e1, ← this]
    show selL f (stp f b x) l = _
    unfold stp
    rw [if_neg hx]
/-! ### closed rows -/
noncomputable def clo (f : PF) (e : Int) : Bool := match (rowN f e).getLast? with
  | some z => (f z).isSome
  | none => false
theorem clo_eq {f : PF} {e z : Int} {pre : List Int} (h : IsRow f e (pre ++ [z])) : clo f e = (f z).isSome := by
  unfold clo
  rw [rowN_eq h, List.getLast?_append]
  rfl
theorem clo_non {n : Int} {f : PF} {e : Int} (w : WF n f) (h1 : 0 ≤ e) (h2 : e < n) (h : nonT n f e = true) : clo f e = false := by
  obtain ⟨r, hr⟩ := ex_row w h1 h2
  obtain ⟨pre, z, q, R, st⟩ := id hr
  subst q
  rw [clo_eq hr]
  rcases st with st | st
  · rw [st]; rfl
  · exact absurd st ((nonT_iff w).mp h z)
theorem iter_inv {n : Int} {f : PF} (w : WF n f) : ∀ (k : Nat) (x y : Int), iter (inv n f) k x = some y → iter f k y = some x
  | 0, x, y, h => by
    have : x = y := Option.some.inj h
    subst this
    rfl
  | k + 1, x, y, h => by
    have h : (iter (inv n f) k x).bind (inv n f) = some y := h
    cases e : iter (inv n f) k x with
    | none => rw [e] at h; cases h
    | some z =>
      rw [e] at h
      have h1 := (inv_iff w).mp h
      rw [iter_head, h1]
      exact iter_inv w k x z e
theorem clo_of {n : Int} {f : PF} {e : Int} (w : WF n f) (h1 : 0 ≤ e) (h2 : e < n) (h : ∀ e', 0 ≤ e' → e' < n → nonT n f e' = true → e ∉ rowN f e') : clo f e = true := by
  obtain ⟨r, hr⟩ := ex_row w h1 h2
  obtain ⟨pre, z, q, R, st⟩ := id hr
  subst q
  rw [clo_eq hr]
  rcases st with st | st
  · exfalso
    have lz : (pre ++ [z])[(pre ++ [z]).length - 1]? = some z := by simp
    have op := R.openAt lz (by simp) st 0 e R.h0
    obtain ⟨r', hr'⟩ := ex_row (wf_inv w) h1 h2
    obtain ⟨pre', z', q', R', st'⟩ := id hr'
    subst q'
    have lz' : (pre' ++ [z'])[(pre' ++ [z']).length - 1]? = some z' := by simp
    rcases st' with st' | st'
    · have hz' : nonT n f z' = true := by unfold nonT; rw [st']; rfl
      have dz := hr'.dom (wf_inv w) h1 h2 z' (by simp)
      have op' := R'.openAt lz' (by simp) st' 0 e R'.h0 pre'.length
      have e1 : (pre' ++ [z'])[0 + pre'.length]? = some z' := by simp
      rw [e1] at op'
      have it := iter_inv w _ _ _ op'
      refine h z' dz.1 dz.2 hz' ?_
      obtain ⟨r0, hr0⟩ := ex_row w dz.1 dz.2
      rw [rowN_eq hr0]
      obtain ⟨p0, z0, q0, R0, st0⟩ := id hr0
      subst q0
      have l0 : (p0 ++ [z0])[(p0 ++ [z0]).length - 1]? = some z0 := by simp
      have o0 : f z0 = none := by
        rcases st0 with q | q
        · exact q
        · exact absurd q ((nonT_iff w).mp hz' z0)
      have := R0.openAt l0 (by simp) o0 0 z' R0.h0 pre'.length
      rw [it] at this
      exact List.mem_of_getElem? this.symm
    · have cl := R'.closedAt lz' (by simp) st' 0 e R'.h0 (pre' ++ [z']).length
      rw [Nat.zero_add, Nat.mod_self, R'.h0] at cl
      have it := iter_inv w _ _ _ cl
      rw [op (pre' ++ [z']).length] at it
      have l1 : (pre' ++ [z']).length = pre'.length + 1 := by simp
      rw [l1] at it
      exact R.ne w.inj 0 pre'.length e R.h0 (by rw [show 0 + pre'.length + 1 = 0 + (pre'.length + 1) by omega]; exact it)
  · rw [st]; rfl
/-! ### all parts -/
noncomputable def cycS (n : Int) (f : PF) : List Int := (selL f (nons n f) (rgI n.toNat)).drop (nons n f).length
theorem cycS_eq (n : Int) (f : PF) : selL f (nons n f) (rgI n.toNat) = nons n f ++ cycS n f := by
  obtain ⟨c, h, _, _⟩ := selL_sub f (rgI n.toNat) (nons n f)
  unfold cycS
  rw [h, List.drop_left]
theorem cycS_sub (n : Int) (f : PF) : (cycS n f).Sublist (rgI n.toNat) ∧ ∀ x ∈ cycS n f, x ∉ seenL f (nons n f) := by
  obtain ⟨c, h, h1, h2⟩ := selL_sub f (rgI n.toNat) (nons n f)
  rw [cycS_eq] at h
  have := List.append_cancel_left h
  rw [this]
  exact ⟨h1, h2⟩
theorem cycS_dom {n : Int} {f : PF} {e : Int} (h : e ∈ cycS n f) : 0 ≤ e ∧ e < n := by
  have := mem_rgI.mp ((cycS_sub n f).1.subset h)
  exact ⟨this.1, by omega⟩
theorem cycS_clo {n : Int} {f : PF} (w : WF n f) {e : Int} (h : e ∈ cycS n f) : clo f e = true := by
  have d := cycS_dom h
  refine clo_of w d.1 d.2 fun e' h1 h2 h3 hm => ?_
  refine (cycS_sub n f).2 e h (mem_seenL.mpr ⟨e', ?_, hm⟩)
  exact List.mem_filter.mpr ⟨mem_rgI.mpr ⟨h1, by omega⟩, h3⟩
theorem nons_lt (n : Int) (f : PF) : (nons n f).Pairwise (· < ·) := (rgI_lt _).sublist List.filter_sublist
theorem sel_all {n : Int} {f : PF} (w : WF n f) : selL f [] (nons n f ++ rgI n.toNat) = nons n f ++ cycS n f := by
  rw [selL_append, sel_nons w (nons n f) [] (fun e h => nons_dom h) (by simpa using nodup_of_lt (nons_lt n f)), List.nil_append, cycS_eq]
/-! ### ordered by the first elements -/
end PM
namespace PM
open U
/-! ### powers by the law's own way; great exponents -/
end PM
namespace PM
open U
/-! ### where powers repeat -/
noncomputable def lens (f : PF) (s : List Int) : List Nat := s.map fun e => (rowN f e).length
theorem row_pos {n : Int} {f : PF} (w : WF n f) {e : Int} (h1 : 0 ≤ e) (h2 : e < n) : 0 < (rowN f e).length := by
  obtain ⟨pre, z, q, _, _⟩ := rowN_is w h1 h2
  rw [q]
  simp
theorem row_le {n : Int} {f : PF} (w : WF n f) {e : Int} (h1 : 0 ≤ e) (h2 : e < n) : (rowN f e).length ≤ n.toNat := len_range ((rowN_is w h1 h2).nd w) ((rowN_is w h1 h2).dom w h1 h2)
end PM
namespace My
open PySem L2
def top (i : Nat) : Stmt := PySem.Challenge.pw_chainmaps_k11_shapes.main.body.getD i (.Pass ⟨0, 0, 0, 0⟩)
abbrev s_is_integer : Stmt := top 11
abbrev n_is_integer : List Str := ["value"]
theorem sc_is_integer : FnScope n_is_integer ["value"] (defScope s_is_integer) := ⟨rfl, rfl, rfl, by decide +kernel, rfl, by decide +kernel, by decide +kernel⟩
abbrev s_in_range : Stmt := top 12
abbrev n_in_range : List Str := ["value", "least", "most"]
theorem sc_in_range : FnScope n_in_range ["value", "least", "most"] (defScope s_in_range) := ⟨rfl, rfl, rfl, by decide +kernel, rfl, by decide +kernel, by decide +kernel⟩
abbrev s_are_arrows : Stmt := top 14
abbrev n_are_arrows : List Str := ["size", "arrows", "targets", "source", "target"]
theorem sc_are_arrows : FnScope n_are_arrows ["size", "arrows"] (defScope s_are_arrows) := ⟨rfl, rfl, rfl, by decide +kernel, rfl, by decide +kernel, by decide +kernel⟩
abbrev s_row_from : Stmt := top 16
abbrev n_row_from : List Str := ["arrows", "element", "row"]
theorem sc_row_from : FnScope n_row_from ["arrows", "element"] (defScope s_row_from) := ⟨rfl, rfl, rfl, by decide +kernel, rfl, by decide +kernel, by decide +kernel⟩
abbrev s_check_map : Stmt := top 21
abbrev n_check_map : List Str := ["value"]
theorem sc_check_map : FnScope n_check_map ["value"] (defScope s_check_map) := ⟨rfl, rfl, rfl, by decide +kernel, rfl, by decide +kernel, by decide +kernel⟩
abbrev s_parts_of : Stmt := top 24
abbrev n_parts_of : List Str := ["given", "arrows", "targets", "cycles", "chains", "seen", "element", "target", "one"]
theorem sc_parts_of : FnScope n_parts_of ["given"] (defScope s_parts_of) := ⟨rfl, rfl, rfl, by decide +kernel, rfl, by decide +kernel, by decide +kernel⟩
abbrev s_are_counts : Stmt := top 25
abbrev n_are_counts : List Str := ["value", "one", "number"]
theorem sc_are_counts : FnScope n_are_counts ["value"] (defScope s_are_counts) := ⟨rfl, rfl, rfl, by decide +kernel, rfl, by decide +kernel, by decide +kernel⟩
abbrev s_ordered : Stmt := top 26
abbrev n_ordered : List Str := ["counts", "length"]
theorem sc_ordered : FnScope n_ordered ["counts"] (defScope s_ordered) := ⟨rfl, rfl, rfl, by decide +kernel, rfl, by decide +kernel, by decide +kernel⟩
abbrev s_merged : Stmt := top 27
abbrev n_merged : List Str := ["one", "other", "found", "length", "number"]
theorem sc_merged : FnScope n_merged ["one", "other"] (defScope s_merged) := ⟨rfl, rfl, rfl, by decide +kernel, rfl, by decide +kernel, by decide +kernel⟩
abbrev s_counts_of : Stmt := top 31
abbrev n_counts_of : List Str := ["parts", "found", "part"]
theorem sc_counts_of : FnScope n_counts_of ["parts"] (defScope s_counts_of) := ⟨rfl, rfl, rfl, by decide +kernel, rfl, by decide +kernel, by decide +kernel⟩
abbrev s_shape_of : Stmt := top 32
abbrev n_shape_of : List Str := ["given", "cycles", "chains"]
theorem sc_shape_of : FnScope n_shape_of ["given"] (defScope s_shape_of) := ⟨rfl, rfl, rfl, by decide +kernel, rfl, by decide +kernel, by decide +kernel⟩
abbrev s_Map__init : Stmt := inClass (top 18) 0
abbrev n_Map__init : List Str := ["self", "size", "arrows", "source"]
theorem sc_Map__init : FnScope n_Map__init ["self", "size", "arrows"] (defScope s_Map__init) := ⟨rfl, rfl, rfl, by decide +kernel, rfl, by decide +kernel, by decide +kernel⟩
abbrev s_Map_size : Stmt := inClass (top 18) 6
abbrev n_Map_size : List Str := ["self"]
theorem sc_Map_size : FnScope n_Map_size ["self"] (defScope s_Map_size) := ⟨rfl, rfl, rfl, by decide +kernel, rfl, by decide +kernel, by decide +kernel⟩
abbrev s_Map_arrows : Stmt := inClass (top 18) 7
abbrev n_Map_arrows : List Str := ["self"]
theorem sc_Map_arrows : FnScope n_Map_arrows ["self"] (defScope s_Map_arrows) := ⟨rfl, rfl, rfl, by decide +kernel, rfl, by decide +kernel, by decide +kernel⟩
abbrev s_Shape__init : Stmt := inClass (top 30) 0
abbrev n_Shape__init : List Str := ["self", "cycles", "chains"]
theorem sc_Shape__init : FnScope n_Shape__init ["self", "cycles", "chains"] (defScope s_Shape__init) := ⟨rfl, rfl, rfl, by decide +kernel, rfl, by decide +kernel, by decide +kernel⟩
abbrev s_Shape_cycles : Stmt := inClass (top 30) 1
abbrev n_Shape_cycles : List Str := ["self"]
theorem sc_Shape_cycles : FnScope n_Shape_cycles ["self"] (defScope s_Shape_cycles) := ⟨rfl, rfl, rfl, by decide +kernel, rfl, by decide +kernel, by decide +kernel⟩
abbrev s_Shape_chains : Stmt := inClass (top 30) 2
abbrev n_Shape_chains : List Str := ["self"]
theorem sc_Shape_chains : FnScope n_Shape_chains ["self"] (defScope s_Shape_chains) := ⟨rfl, rfl, rfl, by decide +kernel, rfl, by decide +kernel, by decide +kernel⟩
abbrev s_Shape_size : Stmt := inClass (top 30) 3
abbrev n_Shape_size : List Str := ["self", "lengths", "length", "number"]
theorem sc_Shape_size : FnScope n_Shape_size ["self"] (defScope s_Shape_size) := ⟨rfl, rfl, rfl, by decide +kernel, rfl, by decide +kernel, by decide +kernel⟩
abbrev s_Shape__add : Stmt := inClass (top 30) 4
abbrev n_Shape__add : List Str := ["self", "other"]
theorem sc_Shape__add : FnScope n_Shape__add ["self", "other"] (defScope s_Shape__add) := ⟨rfl, rfl, rfl, by decide +kernel, rfl, by decide +kernel, by decide +kernel⟩
abbrev s_Shape__eq : Stmt := inClass (top 30) 7
abbrev n_Shape__eq : List Str := ["self", "other"]
theorem sc_Shape__eq : FnScope n_Shape__eq ["self", "other"] (defScope s_Shape__eq) := ⟨rfl, rfl, rfl, by decide +kernel, rfl, by decide +kernel, by decide +kernel⟩
abbrev s_Shape__repr : Stmt := inClass (top 30) 8
abbrev n_Shape__repr : List Str := ["self"]
theorem sc_Shape__repr : FnScope n_Shape__repr ["self"] (defScope s_Shape__repr) := ⟨rfl, rfl, rfl, by decide +kernel, rfl, by decide +kernel, by decide +kernel⟩
abbrev s_InvalidMap__init : Stmt := inClass (top 2) 0
abbrev n_InvalidMap__init : List Str := ["self", "part"]
theorem sc_InvalidMap__init : FnScope n_InvalidMap__init ["self", "part"] (defScope s_InvalidMap__init) := ⟨rfl, rfl, rfl, by decide +kernel, rfl, by decide +kernel, by decide +kernel⟩
abbrev s_InvalidShape__init : Stmt := inClass (top 4) 0
abbrev n_InvalidShape__init : List Str := ["self", "part"]
theorem sc_InvalidShape__init : FnScope n_InvalidShape__init ["self", "part"] (defScope s_InvalidShape__init) := ⟨rfl, rfl, rfl, by decide +kernel, rfl, by decide +kernel, by decide +kernel⟩
abbrev s_l_hand : Stmt := top 34
abbrev n_l_hand : List Str := ["_law_script", "_law_k", "_law_cell", "_law_seed"]
theorem sc_l_hand : FnScope n_l_hand ["_law_script", "_law_k"] (defScope s_l_hand) := ⟨rfl, rfl, rfl, by decide +kernel, rfl, by decide +kernel, by decide +kernel⟩
abbrev s_l_draw : Stmt := top 35
abbrev n_l_draw : List Str := ["_law_pool", "_law_size", "_law_found"]
theorem sc_l_draw : FnScope n_l_draw ["_law_pool", "_law_size"] (defScope s_l_draw) := ⟨rfl, rfl, rfl, by decide +kernel, rfl, by decide +kernel, by decide +kernel⟩
abbrev s_l_arrows : Stmt := top 36
abbrev n_l_arrows : List Str := ["_law_pool", "_law_size", "_law_way", "_law_left", "_law_found", "_law_source"]
theorem sc_l_arrows : FnScope n_l_arrows ["_law_pool", "_law_size", "_law_way"] (defScope s_l_arrows) := ⟨rfl, rfl, rfl, by decide +kernel, rfl, by decide +kernel, by decide +kernel⟩
abbrev s_l_parts : Stmt := top 37
abbrev n_l_parts : List Str := ["_law_arrows_here", "_law_size", "_law_ends", "_law_rows", "_law_left", "_law_first", "_law_row", "_law_element"]
theorem sc_l_parts : FnScope n_l_parts ["_law_arrows_here", "_law_size"] (defScope s_l_parts) := ⟨rfl, rfl, rfl, by decide +kernel, rfl, by decide +kernel, by decide +kernel⟩
abbrev s_l_counts : Stmt := top 38
abbrev n_l_counts : List Str := ["_law_pool", "_law_found", "_law_turn", "_law_length"]
theorem sc_l_counts : FnScope n_l_counts ["_law_pool"] (defScope s_l_counts) := ⟨rfl, rfl, rfl, by decide +kernel, rfl, by decide +kernel, by decide +kernel⟩
abbrev s_l_raised : Stmt := top 39
abbrev n_l_raised : List Str := ["_law_counts_here", "_law_left", "_law_found", "_law_least", "_law_length"]
theorem sc_l_raised : FnScope n_l_raised ["_law_counts_here"] (defScope s_l_raised) := ⟨rfl, rfl, rfl, by decide +kernel, rfl, by decide +kernel, by decide +kernel⟩
abbrev s_l_made : Stmt := top 40
abbrev n_l_made : List Str := ["_law_cycles", "_law_chains", "e"]
theorem sc_l_made : FnScope n_l_made ["_law_cycles", "_law_chains"] (defScope s_l_made) := ⟨rfl, rfl, rfl, by decide +kernel, rfl, by decide +kernel, by decide +kernel⟩
abbrev s_l_shown : Stmt := top 41
abbrev n_l_shown : List Str := ["_law_shape", "_law_cycles", "_law_chains", "_law_due", "_law_other", "_law_size", "_law_one", "_law_two"]
theorem sc_l_shown : FnScope n_l_shown ["_law_shape", "_law_cycles", "_law_chains"] (defScope s_l_shown) := ⟨rfl, rfl, rfl, by decide +kernel, rfl, by decide +kernel, by decide +kernel⟩
abbrev s_l_bad : Stmt := top 42
abbrev n_l_bad : List Str := ["_law_pool", "_law_cycles", "_law_chains", "_law_odd", "e"]
theorem sc_l_bad : FnScope n_l_bad ["_law_pool", "_law_cycles", "_law_chains"] (defScope s_l_bad) := ⟨rfl, rfl, rfl, by decide +kernel, rfl, by decide +kernel, by decide +kernel⟩
abbrev s_law : Stmt := top 43
abbrev n_law : List Str := ["_law_script", "_law_k", "_law_pool", "_law_cycles", "_law_chains", "_law_more", "_law_formed", "_law_both", "_law_length", "_law_number", "_law_rings", "_law_extra", "_law_size", "_law_arrows_here", "_law_found", "_law_row", "_law_closed", "_law_some"]
theorem sc_law : FnScope n_law ["_law_script"] (defScope s_law) := ⟨rfl, rfl, rfl, by decide +kernel, rfl, by decide +kernel, by decide +kernel⟩
set_option genInjectivity false
set_option genSizeOf false
structure Txt (K : PySem.W.Frag) (mg : Str → Option Value) where
  f_is_integer : Addr
  f_in_range : Addr
  f_are_arrows : Addr
  f_row_from : Addr
  f_check_map : Addr
  f_parts_of : Addr
  f_are_counts : Addr
  f_ordered : Addr
  f_merged : Addr
  f_counts_of : Addr
  f_shape_of : Addr
  f_l_hand : Addr
  f_l_draw : Addr
  f_l_arrows : Addr
  f_l_parts : Addr
  f_l_counts : Addr
  f_l_raised : Addr
  f_l_made : Addr
  f_l_shown : Addr
  f_l_bad : Addr
  f_law : Addr
  C_Shape : Addr
  f_Shape__init : Addr
  p_Shape_cycles : Addr
  f_Shape_cycles : Addr
  p_Shape_chains : Addr
  f_Shape_chains : Addr
  p_Shape_size : Addr
  f_Shape_size : Addr
  f_Shape__add : Addr
  f_Shape__eq : Addr
  f_Shape__repr : Addr
  C_Map : Addr
  f_Map__init : Addr
  p_Map_size : Addr
  f_Map_size : Addr
  p_Map_arrows : Addr
  f_Map_arrows : Addr
  C_InvalidMap : Addr
  f_InvalidMap__init : Addr
  C_InvalidShape : Addr
  f_InvalidShape__init : Addr
  A_is_integer : U.FnAt K "is_integer" "is_integer" s_is_integer f_is_integer ["value"]
  g_is_integer : mg "is_integer" = some (.ref f_is_integer)
  A_in_range : U.FnAt K "in_range" "in_range" s_in_range f_in_range ["value", "least", "most"]
  g_in_range : mg "in_range" = some (.ref f_in_range)
  A_are_arrows : U.FnAt K "are_arrows" "are_arrows" s_are_arrows f_are_arrows ["size", "arrows"]
  g_are_arrows : mg "are_arrows" = some (.ref f_are_arrows)
  A_row_from : U.FnAt K "row_from" "row_from" s_row_from f_row_from ["arrows", "element"]
  g_row_from : mg "row_from" = some (.ref f_row_from)
  A_check_map : U.FnAt K "check_map" "check_map" s_check_map f_check_map ["value"]
  g_check_map : mg "check_map" = some (.ref f_check_map)
  A_parts_of : U.FnAt K "parts_of" "parts_of" s_parts_of f_parts_of ["given"]
  g_parts_of : mg "parts_of" = some (.ref f_parts_of)
  A_are_counts : U.FnAt K "are_counts" "are_counts" s_are_counts f_are_counts ["value"]
  g_are_counts : mg "are_counts" = some (.ref f_are_counts)
  A_ordered : U.FnAt K "ordered" "ordered" s_ordered f_ordered ["counts"]
  g_ordered : mg "ordered" = some (.ref f_ordered)
  A_merged : U.FnAt K "merged" "merged" s_merged f_merged ["one", "other"]
  g_merged : mg "merged" = some (.ref f_merged)
  A_counts_of : U.FnAt K "counts_of" "counts_of" s_counts_of f_counts_of ["parts"]
  g_counts_of : mg "counts_of" = some (.ref f_counts_of)
  A_shape_of : U.FnAt K "shape_of" "shape_of" s_shape_of f_shape_of ["given"]
  g_shape_of : mg "shape_of" = some (.ref f_shape_of)
  A_l_hand : U.FnAt K "_law_hand" "_law_hand" s_l_hand f_l_hand ["_law_script", "_law_k"]
  g_l_hand : mg "_law_hand" = some (.ref f_l_hand)
  A_l_draw : U.FnAt K "_law_draw" "_law_draw" s_l_draw f_l_draw ["_law_pool", "_law_size"]
  g_l_draw : mg "_law_draw" = some (.ref f_l_draw)
  A_l_arrows : U.FnAt K "_law_arrows" "_law_arrows" s_l_arrows f_l_arrows ["_law_pool", "_law_size", "_law_way"]
  g_l_arrows : mg "_law_arrows" = some (.ref f_l_arrows)
  A_l_parts : U.FnAt K "_law_parts" "_law_parts" s_l_parts f_l_parts ["_law_arrows_here", "_law_size"]
  g_l_parts : mg "_law_parts" = some (.ref f_l_parts)
  A_l_counts : U.FnAt K "_law_counts" "_law_counts" s_l_counts f_l_counts ["_law_pool"]
  g_l_counts : mg "_law_counts" = some (.ref f_l_counts)
  A_l_raised : U.FnAt K "_law_raised" "_law_raised" s_l_raised f_l_raised ["_law_counts_here"]
  g_l_raised : mg "_law_raised" = some (.ref f_l_raised)
  A_l_made : U.FnAt K "_law_made" "_law_made" s_l_made f_l_made ["_law_cycles", "_law_chains"]
  g_l_made : mg "_law_made" = some (.ref f_l_made)
  A_l_shown : U.FnAt K "_law_shown" "_law_shown" s_l_shown f_l_shown ["_law_shape", "_law_cycles", "_law_chains"]
  g_l_shown : mg "_law_shown" = some (.ref f_l_shown)
  A_l_bad : U.FnAt K "_law_bad" "_law_bad" s_l_bad f_l_bad ["_law_pool", "_law_cycles", "_law_chains"]
  g_l_bad : mg "_law_bad" = some (.ref f_l_bad)
  A_law : U.FnAt K "law" "law" s_law f_law ["_law_script"]
  L_law : ∃ fd, Fun K "law" "law" s_law f_law fd ∧ ∀ (s : Shared) (u : Value), BindsTo s fd ⟨[u], []⟩ [("_law_script", u)]
  g_law : mg "law" = some (.ref f_law)
  g_Shape : mg "Shape" = some (.ref C_Shape)
  o_Shape : U.OwnC K C_Shape
  kit_int_Shape : PySem.W.kitOne K (.ref C_Shape) (.type "int") = some false
  kit_bool_Shape : PySem.W.kitOne K (.ref C_Shape) (.type "bool") = some false
  kn_NoneType_Shape : PySem.W.kitOne K (.type "NoneType") (.ref C_Shape) = some false
  nf_NoneType_Shape : PySem.W.notFirst K C_Shape (.type "NoneType") = true
  kn_int_Shape : PySem.W.kitOne K (.type "int") (.ref C_Shape) = some false
  nf_int_Shape : PySem.W.notFirst K C_Shape (.type "int") = true
  kn_bool_Shape : PySem.W.kitOne K (.type "bool") (.ref C_Shape) = some false
  nf_bool_Shape : PySem.W.notFirst K C_Shape (.type "bool") = true
  kn_str_Shape : PySem.W.kitOne K (.type "str") (.ref C_Shape) = some false
  nf_str_Shape : PySem.W.notFirst K C_Shape (.type "str") = true
  kn_list_Shape : PySem.W.kitOne K (.type "list") (.ref C_Shape) = some false
  nf_list_Shape : PySem.W.notFirst K C_Shape (.type "list") = true
  kn_dict_Shape : PySem.W.kitOne K (.type "dict") (.ref C_Shape) = some false
  nf_dict_Shape : PySem.W.notFirst K C_Shape (.type "dict") = true
  kn_tuple_Shape : PySem.W.kitOne K (.type "tuple") (.ref C_Shape) = some false
  nf_tuple_Shape : PySem.W.notFirst K C_Shape (.type "tuple") = true
  self_Shape : PySem.W.kitOne K (.ref C_Shape) (.ref C_Shape) = some true
  na_own_cycles_Shape : NoAttr K C_Shape "own_cycles"
  na_own_chains_Shape : NoAttr K C_Shape "own_chains"
  ne_Shape : PySem.W.findIn K (.ref C_Shape) "__ne__" = some (some (.builtin "object.__ne__"))
  A_Shape__init : U.FnAt K "__init__" "Shape.__init__" s_Shape__init f_Shape__init ["self", "cycles", "chains"]
  m_Shape__init : PySem.W.findIn K (.ref C_Shape) "__init__" = some (some (.ref f_Shape__init))
  i_Shape__init : PySem.W.isFn K (.ref f_Shape__init) = true
  M_Shape : Mk K C_Shape f_Shape__init
  A_Shape_cycles : U.FnAt K "cycles" "Shape.cycles" s_Shape_cycles f_Shape_cycles ["self"]
  P_Shape_cycles : PropOf K C_Shape "cycles" p_Shape_cycles f_Shape_cycles
  A_Shape_chains : U.FnAt K "chains" "Shape.chains" s_Shape_chains f_Shape_chains ["self"]
  P_Shape_chains : PropOf K C_Shape "chains" p_Shape_chains f_Shape_chains
  A_Shape_size : U.FnAt K "size" "Shape.size" s_Shape_size f_Shape_size ["self"]
  P_Shape_size : PropOf K C_Shape "size" p_Shape_size f_Shape_size
  A_Shape__add : U.FnAt K "__add__" "Shape.__add__" s_Shape__add f_Shape__add ["self", "other"]
  m_Shape__add : PySem.W.findIn K (.ref C_Shape) "__add__" = some (some (.ref f_Shape__add))
  i_Shape__add : PySem.W.isFn K (.ref f_Shape__add) = true
  A_Shape__eq : U.FnAt K "__eq__" "Shape.__eq__" s_Shape__eq f_Shape__eq ["self", "other"]
  m_Shape__eq : PySem.W.findIn K (.ref C_Shape) "__eq__" = some (some (.ref f_Shape__eq))
  i_Shape__eq : PySem.W.isFn K (.ref f_Shape__eq) = true
  A_Shape__repr : U.FnAt K "__repr__" "Shape.__repr__" s_Shape__repr f_Shape__repr ["self"]
  m_Shape__repr : PySem.W.findIn K (.ref C_Shape) "__repr__" = some (some (.ref f_Shape__repr))
  i_Shape__repr : PySem.W.isFn K (.ref f_Shape__repr) = true
  g_Map : mg "Map" = some (.ref C_Map)
  o_Map : U.OwnC K C_Map
  kit_int_Map : PySem.W.kitOne K (.ref C_Map) (.type "int") = some false
  kit_bool_Map : PySem.W.kitOne K (.ref C_Map) (.type "bool") = some false
  kn_NoneType_Map : PySem.W.kitOne K (.type "NoneType") (.ref C_Map) = some false
  nf_NoneType_Map : PySem.W.notFirst K C_Map (.type "NoneType") = true
  kn_int_Map : PySem.W.kitOne K (.type "int") (.ref C_Map) = some false
  nf_int_Map : PySem.W.notFirst K C_Map (.type "int") = true
  kn_bool_Map : PySem.W.kitOne K (.type "bool") (.ref C_Map) = some false
  nf_bool_Map : PySem.W.notFirst K C_Map (.type "bool") = true
  kn_str_Map : PySem.W.kitOne K (.type "str") (.ref C_Map) = some false
  nf_str_Map : PySem.W.notFirst K C_Map (.type "str") = true
  kn_list_Map : PySem.W.kitOne K (.type "list") (.ref C_Map) = some false
  nf_list_Map : PySem.W.notFirst K C_Map (.type "list") = true
  kn_dict_Map : PySem.W.kitOne K (.type "dict") (.ref C_Map) = some false
  nf_dict_Map : PySem.W.notFirst K C_Map (.type "dict") = true
  kn_tuple_Map : PySem.W.kitOne K (.type "tuple") (.ref C_Map) = some false
  nf_tuple_Map : PySem.W.notFirst K C_Map (.type "tuple") = true
  kx_Map_Shape : PySem.W.kitOne K (.ref C_Map) (.ref C_Shape) = some false
  nf_Map_Shape : PySem.W.notFirst K C_Shape (.ref C_Map) = true
  self_Map : PySem.W.kitOne K (.ref C_Map) (.ref C_Map) = some true
  na_own_size_Map : NoAttr K C_Map "own_size"
  na_own_arrows_Map : NoAttr K C_Map "own_arrows"
  A_Map__init : U.FnAt K "__init__" "Map.__init__" s_Map__init f_Map__init ["self", "size", "arrows"]
  m_Map__init : PySem.W.findIn K (.ref C_Map) "__init__" = some (some (.ref f_Map__init))
  i_Map__init : PySem.W.isFn K (.ref f_Map__init) = true
  M_Map : Mk K C_Map f_Map__init
  A_Map_size : U.FnAt K "size" "Map.size" s_Map_size f_Map_size ["self"]
  P_Map_size : PropOf K C_Map "size" p_Map_size f_Map_size
  A_Map_arrows : U.FnAt K "arrows" "Map.arrows" s_Map_arrows f_Map_arrows ["self"]
  P_Map_arrows : PropOf K C_Map "arrows" p_Map_arrows f_Map_arrows
  g_InvalidMap : mg "InvalidMap" = some (.ref C_InvalidMap)
  x_InvalidMap : OexG K C_InvalidMap
  xf_InvalidMap : XfC K C_InvalidMap
  xe_InvalidMap : ExcC K C_InvalidMap
  te_InvalidMap : PySem.W.exmOne K (.ref C_InvalidMap) (.ref C_InvalidMap) = some true
  kit_ValueError_InvalidMap : PySem.W.kitOne K (.ref C_InvalidMap) (.type "ValueError") = some true
  na_part_InvalidMap : PySem.W.findIn K (.ref C_InvalidMap) "part" = some none
  A_InvalidMap__init : U.FnAt K "__init__" "InvalidMap.__init__" s_InvalidMap__init f_InvalidMap__init ["self", "part"]
  m_InvalidMap__init : PySem.W.findIn K (.ref C_InvalidMap) "__init__" = some (some (.ref f_InvalidMap__init))
  ti_InvalidMap__init : PySem.W.typeIn K (.ref f_InvalidMap__init) = some (.type "function")
  g_InvalidShape : mg "InvalidShape" = some (.ref C_InvalidShape)
  x_InvalidShape : OexG K C_InvalidShape
  xf_InvalidShape : XfC K C_InvalidShape
  xe_InvalidShape : ExcC K C_InvalidShape
  te_InvalidShape : PySem.W.exmOne K (.ref C_InvalidShape) (.ref C_InvalidShape) = some true
  kit_ValueError_InvalidShape : PySem.W.kitOne K (.ref C_InvalidShape) (.type "ValueError") = some true
  te_InvalidShape_InvalidMap : PySem.W.exmOne K (.ref C_InvalidShape) (.ref C_InvalidMap) = some false
  na_part_InvalidShape : PySem.W.findIn K (.ref C_InvalidShape) "part" = some none
  A_InvalidShape__init : U.FnAt K "__init__" "InvalidShape.__init__" s_InvalidShape__init f_InvalidShape__init ["self", "part"]
  m_InvalidShape__init : PySem.W.findIn K (.ref C_InvalidShape) "__init__" = some (some (.ref f_InvalidShape__init))
  ti_InvalidShape__init : PySem.W.typeIn K (.ref f_InvalidShape__init) = some (.type "function")
  n_isinstance : mg "isinstance" = none
  n_int : mg "int" = none
  n_bool : mg "bool" = none
  n_dict : mg "dict" = none
  n_len : mg "len" = none
  n_range : mg "range" = none
  n_list : mg "list" = none
  n_max : mg "max" = none
  n_min : mg "min" = none
  n_sum : mg "sum" = none
  n_all : mg "all" = none
  n_sorted : mg "sorted" = none
  n_repr : mg "repr" = none
  n_ValueError : mg "ValueError" = none
  v_MAX_SIZE : ∃ t, mg "MAX_SIZE" = some (.int 300 t)
theorem mk_txt {K : PySem.W.Frag} {h : Heap} {mg : Str → Option Value} (X : K.In h) (G : h.Ns mainGlobals mg)
    {f_is_integer : Addr} {oc_is_integer kV_is_integer dc_is_integer pm_is_integer cd_is_integer ct_is_integer : Value} {od_is_integer an_is_integer : Option Addr} {sl_is_integer : Array (Option Value)}
    {f_in_range : Addr} {oc_in_range kV_in_range dc_in_range pm_in_range cd_in_range ct_in_range : Value} {od_in_range an_in_range : Option Addr} {sl_in_range : Array (Option Value)}
    {f_are_arrows : Addr} {oc_are_arrows kV_are_arrows dc_are_arrows pm_are_arrows cd_are_arrows ct_are_arrows : Value} {od_are_arrows an_are_arrows : Option Addr} {sl_are_arrows : Array (Option Value)}
    {f_row_from : Addr} {oc_row_from kV_row_from dc_row_from pm_row_from cd_row_from ct_row_from : Value} {od_row_from an_row_from : Option Addr} {sl_row_from : Array (Option Value)}
    {f_check_map : Addr} {oc_check_map kV_check_map dc_check_map pm_check_map cd_check_map ct_check_map : Value} {od_check_map an_check_map : Option Addr} {sl_check_map : Array (Option Value)}
    {f_parts_of : Addr} {oc_parts_of kV_parts_of dc_parts_of pm_parts_of cd_parts_of ct_parts_of : Value} {od_parts_of an_parts_of : Option Addr} {sl_parts_of : Array (Option Value)}
    {f_are_counts : Addr} {oc_are_counts kV_are_counts dc_are_counts pm_are_counts cd_are_counts ct_are_counts : Value} {od_are_counts an_are_counts : Option Addr} {sl_are_counts : Array (Option Value)}
    {f_ordered : Addr} {oc_ordered kV_ordered dc_ordered pm_ordered cd_ordered ct_ordered : Value} {od_ordered an_ordered : Option Addr} {sl_ordered : Array (Option Value)}
    {f_merged : Addr} {oc_merged kV_merged dc_merged pm_merged cd_merged ct_merged : Value} {od_merged an_merged : Option Addr} {sl_merged : Array (Option Value)}
    {f_counts_of : Addr} {oc_counts_of kV_counts_of dc_counts_of pm_counts_of cd_counts_of ct_counts_of : Value} {od_counts_of an_counts_of : Option Addr} {sl_counts_of : Array (Option Value)}
    {f_shape_of : Addr} {oc_shape_of kV_shape_of dc_shape_of pm_shape_of cd_shape_of ct_shape_of : Value} {od_shape_of an_shape_of : Option Addr} {sl_shape_of : Array (Option Value)}
    {f_l_hand : Addr} {oc_l_hand kV_l_hand dc_l_hand pm_l_hand cd_l_hand ct_l_hand : Value} {od_l_hand an_l_hand : Option Addr} {sl_l_hand : Array (Option Value)}
    {f_l_draw : Addr} {oc_l_draw kV_l_draw dc_l_draw pm_l_draw cd_l_draw ct_l_draw : Value} {od_l_draw an_l_draw : Option Addr} {sl_l_draw : Array (Option Value)}
    {f_l_arrows : Addr} {oc_l_arrows kV_l_arrows dc_l_arrows pm_l_arrows cd_l_arrows ct_l_arrows : Value} {od_l_arrows an_l_arrows : Option Addr} {sl_l_arrows : Array (Option Value)}
    {f_l_parts : Addr} {oc_l_parts kV_l_parts dc_l_parts pm_l_parts cd_l_parts ct_l_parts : Value} {od_l_parts an_l_parts : Option Addr} {sl_l_parts : Array (Option Value)}
    {f_l_counts : Addr} {oc_l_counts kV_l_counts dc_l_counts pm_l_counts cd_l_counts ct_l_counts : Value} {od_l_counts an_l_counts : Option Addr} {sl_l_counts : Array (Option Value)}
    {f_l_raised : Addr} {oc_l_raised kV_l_raised dc_l_raised pm_l_raised cd_l_raised ct_l_raised : Value} {od_l_raised an_l_raised : Option Addr} {sl_l_raised : Array (Option Value)}
    {f_l_made : Addr} {oc_l_made kV_l_made dc_l_made pm_l_made cd_l_made ct_l_made : Value} {od_l_made an_l_made : Option Addr} {sl_l_made : Array (Option Value)}
    {f_l_shown : Addr} {oc_l_shown kV_l_shown dc_l_shown pm_l_shown cd_l_shown ct_l_shown : Value} {od_l_shown an_l_shown : Option Addr} {sl_l_shown : Array (Option Value)}
    {f_l_bad : Addr} {oc_l_bad kV_l_bad dc_l_bad pm_l_bad cd_l_bad ct_l_bad : Value} {od_l_bad an_l_bad : Option Addr} {sl_l_bad : Array (Option Value)}
    {f_law : Addr} {oc_law kV_law dc_law pm_law cd_law ct_law : Value} {od_law an_law : Option Addr} {sl_law : Array (Option Value)}
    {C_Shape : Addr}
    {f_Shape__init : Addr} {oc_Shape__init kV_Shape__init dc_Shape__init pm_Shape__init cd_Shape__init ct_Shape__init : Value} {od_Shape__init an_Shape__init : Option Addr} {sl_Shape__init : Array (Option Value)}
    {p_Shape_cycles : Addr} {r_Shape_cycles : List Value}
    {f_Shape_cycles : Addr} {oc_Shape_cycles kV_Shape_cycles dc_Shape_cycles pm_Shape_cycles cd_Shape_cycles ct_Shape_cycles : Value} {od_Shape_cycles an_Shape_cycles : Option Addr} {sl_Shape_cycles : Array (Option Value)}
    {p_Shape_chains : Addr} {r_Shape_chains : List Value}
    {f_Shape_chains : Addr} {oc_Shape_chains kV_Shape_chains dc_Shape_chains pm_Shape_chains cd_Shape_chains ct_Shape_chains : Value} {od_Shape_chains an_Shape_chains : Option Addr} {sl_Shape_chains : Array (Option Value)}
    {p_Shape_size : Addr} {r_Shape_size : List Value}
    {f_Shape_size : Addr} {oc_Shape_size kV_Shape_size dc_Shape_size pm_Shape_size cd_Shape_size ct_Shape_size : Value} {od_Shape_size an_Shape_size : Option Addr} {sl_Shape_size : Array (Option Value)}
    {f_Shape__add : Addr} {oc_Shape__add kV_Shape__add dc_Shape__add pm_Shape__add cd_Shape__add ct_Shape__add : Value} {od_Shape__add an_Shape__add : Option Addr} {sl_Shape__add : Array (Option Value)}
    {f_Shape__eq : Addr} {oc_Shape__eq kV_Shape__eq dc_Shape__eq pm_Shape__eq cd_Shape__eq ct_Shape__eq : Value} {od_Shape__eq an_Shape__eq : Option Addr} {sl_Shape__eq : Array (Option Value)}
    {f_Shape__repr : Addr} {oc_Shape__repr kV_Shape__repr dc_Shape__repr pm_Shape__repr cd_Shape__repr ct_Shape__repr : Value} {od_Shape__repr an_Shape__repr : Option Addr} {sl_Shape__repr : Array (Option Value)}
    {C_Map : Addr}
    {f_Map__init : Addr} {oc_Map__init kV_Map__init dc_Map__init pm_Map__init cd_Map__init ct_Map__init : Value} {od_Map__init an_Map__init : Option Addr} {sl_Map__init : Array (Option Value)}
    {p_Map_size : Addr} {r_Map_size : List Value}
    {f_Map_size : Addr} {oc_Map_size kV_Map_size dc_Map_size pm_Map_size cd_Map_size ct_Map_size : Value} {od_Map_size an_Map_size : Option Addr} {sl_Map_size : Array (Option Value)}
    {p_Map_arrows : Addr} {r_Map_arrows : List Value}
    {f_Map_arrows : Addr} {oc_Map_arrows kV_Map_arrows dc_Map_arrows pm_Map_arrows cd_Map_arrows ct_Map_arrows : Value} {od_Map_arrows an_Map_arrows : Option Addr} {sl_Map_arrows : Array (Option Value)}
    {C_InvalidMap : Addr} {nm_InvalidMap q_InvalidMap : Str} {N_InvalidMap : Addr} {bs_InvalidMap : List Value} {sn_InvalidMap : List Str} {sub_InvalidMap : List Value} {ab_InvalidMap : Bool} {col_InvalidMap : Option Bool} {dd_InvalidMap : Option Addr} {m0_InvalidMap m1_InvalidMap m2_InvalidMap m3_InvalidMap m5_InvalidMap : Option Value}
    {f_InvalidMap__init : Addr} {oc_InvalidMap__init kV_InvalidMap__init dc_InvalidMap__init pm_InvalidMap__init cd_InvalidMap__init ct_InvalidMap__init : Value} {od_InvalidMap__init an_InvalidMap__init : Option Addr} {sl_InvalidMap__init : Array (Option Value)}
    {C_InvalidShape : Addr} {nm_InvalidShape q_InvalidShape : Str} {N_InvalidShape : Addr} {bs_InvalidShape : List Value} {sn_InvalidShape : List Str} {sub_InvalidShape : List Value} {ab_InvalidShape : Bool} {col_InvalidShape : Option Bool} {dd_InvalidShape : Option Addr} {m0_InvalidShape m1_InvalidShape m2_InvalidShape m3_InvalidShape m5_InvalidShape : Option Value}
    {f_InvalidShape__init : Addr} {oc_InvalidShape__init kV_InvalidShape__init dc_InvalidShape__init pm_InvalidShape__init cd_InvalidShape__init ct_InvalidShape__init : Value} {od_InvalidShape__init an_InvalidShape__init : Option Addr} {sl_InvalidShape__init : Array (Option Value)}
    {t_MAX_SIZE : Tok}
    (a_is_integer : PySem.W.nsIn K mainGlobals "is_integer" = some (some (.ref f_is_integer)))
    (l_is_integer : K.lookup f_is_integer = some ⟨oc_is_integer, od_is_integer, .func (PySem.W.fnOf "is_integer" "is_integer" (defArgs s_is_integer) (defBody s_is_integer) (defScope s_is_integer) .none kV_is_integer dc_is_integer pm_is_integer an_is_integer cd_is_integer ct_is_integer), sl_is_integer⟩)
    (c_is_integer : PySem.W.codeIn K cd_is_integer "is_integer" = true)
    (k_is_integer : PySem.W.keepIn K (.ref f_is_integer) = true)
    (a_in_range : PySem.W.nsIn K mainGlobals "in_range" = some (some (.ref f_in_range)))
    (l_in_range : K.lookup f_in_range = some ⟨oc_in_range, od_in_range, .func (PySem.W.fnOf "in_range" "in_range" (defArgs s_in_range) (defBody s_in_range) (defScope s_in_range) .none kV_in_range dc_in_range pm_in_range an_in_range cd_in_range ct_in_range), sl_in_range⟩)
    (c_in_range : PySem.W.codeIn K cd_in_range "in_range" = true)
    (k_in_range : PySem.W.keepIn K (.ref f_in_range) = true)
    (a_are_arrows : PySem.W.nsIn K mainGlobals "are_arrows" = some (some (.ref f_are_arrows)))
    (l_are_arrows : K.lookup f_are_arrows = some ⟨oc_are_arrows, od_are_arrows, .func (PySem.W.fnOf "are_arrows" "are_arrows" (defArgs s_are_arrows) (defBody s_are_arrows) (defScope s_are_arrows) .none kV_are_arrows dc_are_arrows pm_are_arrows an_are_arrows cd_are_arrows ct_are_arrows), sl_are_arrows⟩)
    (c_are_arrows : PySem.W.codeIn K cd_are_arrows "are_arrows" = true)
    (k_are_arrows : PySem.W.keepIn K (.ref f_are_arrows) = true)
    (a_row_from : PySem.W.nsIn K mainGlobals "row_from" = some (some (.ref f_row_from)))
    (l_row_from : K.lookup f_row_from = some ⟨oc_row_from, od_row_from, .func (PySem.W.fnOf "row_from" "row_from" (defArgs s_row_from) (defBody s_row_from) (defScope s_row_from) .none kV_row_from dc_row_from pm_row_from an_row_from cd_row_from ct_row_from), sl_row_from⟩)
    (c_row_from : PySem.W.codeIn K cd_row_from "row_from" = true)
    (k_row_from : PySem.W.keepIn K (.ref f_row_from) = true)
    (a_check_map : PySem.W.nsIn K mainGlobals "check_map" = some (some (.ref f_check_map)))
    (l_check_map : K.lookup f_check_map = some ⟨oc_check_map, od_check_map, .func (PySem.W.fnOf "check_map" "check_map" (defArgs s_check_map) (defBody s_check_map) (defScope s_check_map) .none kV_check_map dc_check_map pm_check_map an_check_map cd_check_map ct_check_map), sl_check_map⟩)
    (c_check_map : PySem.W.codeIn K cd_check_map "check_map" = true)
    (k_check_map : PySem.W.keepIn K (.ref f_check_map) = true)
    (a_parts_of : PySem.W.nsIn K mainGlobals "parts_of" = some (some (.ref f_parts_of)))
    (l_parts_of : K.lookup f_parts_of = some ⟨oc_parts_of, od_parts_of, .func (PySem.W.fnOf "parts_of" "parts_of" (defArgs s_parts_of) (defBody s_parts_of) (defScope s_parts_of) .none kV_parts_of dc_parts_of pm_parts_of an_parts_of cd_parts_of ct_parts_of), sl_parts_of⟩)
    (c_parts_of : PySem.W.codeIn K cd_parts_of "parts_of" = true)
    (k_parts_of : PySem.W.keepIn K (.ref f_parts_of) = true)
    (a_are_counts : PySem.W.nsIn K mainGlobals "are_counts" = some (some (.ref f_are_counts)))
    (l_are_counts : K.lookup f_are_counts = some ⟨oc_are_counts, od_are_counts, .func (PySem.W.fnOf "are_counts" "are_counts" (defArgs s_are_counts) (defBody s_are_counts) (defScope s_are_counts) .none kV_are_counts dc_are_counts pm_are_counts an_are_counts cd_are_counts ct_are_counts), sl_are_counts⟩)
    (c_are_counts : PySem.W.codeIn K cd_are_counts "are_counts" = true)
    (k_are_counts : PySem.W.keepIn K (.ref f_are_counts) = true)
    (a_ordered : PySem.W.nsIn K mainGlobals "ordered" = some (some (.ref f_ordered)))
    (l_ordered : K.lookup f_ordered = some ⟨oc_ordered, od_ordered, .func (PySem.W.fnOf "ordered" "ordered" (defArgs s_ordered) (defBody s_ordered) (defScope s_ordered) .none kV_ordered dc_ordered pm_ordered an_ordered cd_ordered ct_ordered), sl_ordered⟩)
    (c_ordered : PySem.W.codeIn K cd_ordered "ordered" = true)
    (k_ordered : PySem.W.keepIn K (.ref f_ordered) = true)
    (a_merged : PySem.W.nsIn K mainGlobals "merged" = some (some (.ref f_merged)))
    (l_merged : K.lookup f_merged = some ⟨oc_merged, od_merged, .func (PySem.W.fnOf "merged" "merged" (defArgs s_merged) (defBody s_merged) (defScope s_merged) .none kV_merged dc_merged pm_merged an_merged cd_merged ct_merged), sl_merged⟩)
    (c_merged : PySem.W.codeIn K cd_merged "merged" = true)
    (k_merged : PySem.W.keepIn K (.ref f_merged) = true)
    (a_counts_of : PySem.W.nsIn K mainGlobals "counts_of" = some (some (.ref f_counts_of)))
    (l_counts_of : K.lookup f_counts_of = some ⟨oc_counts_of, od_counts_of, .func (PySem.W.fnOf "counts_of" "counts_of" (defArgs s_counts_of) (defBody s_counts_of) (defScope s_counts_of) .none kV_counts_of dc_counts_of pm_counts_of an_counts_of cd_counts_of ct_counts_of), sl_counts_of⟩)
    (c_counts_of : PySem.W.codeIn K cd_counts_of "counts_of" = true)
    (k_counts_of : PySem.W.keepIn K (.ref f_counts_of) = true)
    (a_shape_of : PySem.W.nsIn K mainGlobals "shape_of" = some (some (.ref f_shape_of)))
    (l_shape_of : K.lookup f_shape_of = some ⟨oc_shape_of, od_shape_of, .func (PySem.W.fnOf "shape_of" "shape_of" (defArgs s_shape_of) (defBody s_shape_of) (defScope s_shape_of) .none kV_shape_of dc_shape_of pm_shape_of an_shape_of cd_shape_of ct_shape_of), sl_shape_of⟩)
    (c_shape_of : PySem.W.codeIn K cd_shape_of "shape_of" = true)
    (k_shape_of : PySem.W.keepIn K (.ref f_shape_of) = true)
    (a_l_hand : PySem.W.nsIn K mainGlobals "_law_hand" = some (some (.ref f_l_hand)))
    (l_l_hand : K.lookup f_l_hand = some ⟨oc_l_hand, od_l_hand, .func (PySem.W.fnOf "_law_hand" "_law_hand" (defArgs s_l_hand) (defBody s_l_hand) (defScope s_l_hand) .none kV_l_hand dc_l_hand pm_l_hand an_l_hand cd_l_hand ct_l_hand), sl_l_hand⟩)
    (c_l_hand : PySem.W.codeIn K cd_l_hand "_law_hand" = true)
    (k_l_hand : PySem.W.keepIn K (.ref f_l_hand) = true)
    (a_l_draw : PySem.W.nsIn K mainGlobals "_law_draw" = some (some (.ref f_l_draw)))
    (l_l_draw : K.lookup f_l_draw = some ⟨oc_l_draw, od_l_draw, .func (PySem.W.fnOf "_law_draw" "_law_draw" (defArgs s_l_draw) (defBody s_l_draw) (defScope s_l_draw) .none kV_l_draw dc_l_draw pm_l_draw an_l_draw cd_l_draw ct_l_draw), sl_l_draw⟩)
    (c_l_draw : PySem.W.codeIn K cd_l_draw "_law_draw" = true)
    (k_l_draw : PySem.W.keepIn K (.ref f_l_draw) = true)
    (a_l_arrows : PySem.W.nsIn K mainGlobals "_law_arrows" = some (some (.ref f_l_arrows)))
    (l_l_arrows : K.lookup f_l_arrows = some ⟨oc_l_arrows, od_l_arrows, .func (PySem.W.fnOf "_law_arrows" "_law_arrows" (defArgs s_l_arrows) (defBody s_l_arrows) (defScope s_l_arrows) .none kV_l_arrows dc_l_arrows pm_l_arrows an_l_arrows cd_l_arrows ct_l_arrows), sl_l_arrows⟩)
    (c_l_arrows : PySem.W.codeIn K cd_l_arrows "_law_arrows" = true)
    (k_l_arrows : PySem.W.keepIn K (.ref f_l_arrows) = true)
    (a_l_parts : PySem.W.nsIn K mainGlobals "_law_parts" = some (some (.ref f_l_parts)))
    (l_l_parts : K.lookup f_l_parts = some ⟨oc_l_parts, od_l_parts, .func (PySem.W.fnOf "_law_parts" "_law_parts" (defArgs s_l_parts) (defBody s_l_parts) (defScope s_l_parts) .none kV_l_parts dc_l_parts pm_l_parts an_l_parts cd_l_parts ct_l_parts), sl_l_parts⟩)
    (c_l_parts : PySem.W.codeIn K cd_l_parts "_law_parts" = true)
    (k_l_parts : PySem.W.keepIn K (.ref f_l_parts) = true)
    (a_l_counts : PySem.W.nsIn K mainGlobals "_law_counts" = some (some (.ref f_l_counts)))
    (l_l_counts : K.lookup f_l_counts = some ⟨oc_l_counts, od_l_counts, .func (PySem.W.fnOf "_law_counts" "_law_counts" (defArgs s_l_counts) (defBody s_l_counts) (defScope s_l_counts) .none kV_l_counts dc_l_counts pm_l_counts an_l_counts cd_l_counts ct_l_counts), sl_l_counts⟩)
    (c_l_counts : PySem.W.codeIn K cd_l_counts "_law_counts" = true)
    (k_l_counts : PySem.W.keepIn K (.ref f_l_counts) = true)
    (a_l_raised : PySem.W.nsIn K mainGlobals "_law_raised" = some (some (.ref f_l_raised)))
    (l_l_raised : K.lookup f_l_raised = some ⟨oc_l_raised, od_l_raised, .func (PySem.W.fnOf "_law_raised" "_law_raised" (defArgs s_l_raised) (defBody s_l_raised) (defScope s_l_raised) .none kV_l_raised dc_l_raised pm_l_raised an_l_raised cd_l_raised ct_l_raised), sl_l_raised⟩)
    (c_l_raised : PySem.W.codeIn K cd_l_raised "_law_raised" = true)
    (k_l_raised : PySem.W.keepIn K (.ref f_l_raised) = true)
    (a_l_made : PySem.W.nsIn K mainGlobals "_law_made" = some (some (.ref f_l_made)))
    (l_l_made : K.lookup f_l_made = some ⟨oc_l_made, od_l_made, .func (PySem.W.fnOf "_law_made" "_law_made" (defArgs s_l_made) (defBody s_l_made) (defScope s_l_made) .none kV_l_made dc_l_made pm_l_made an_l_made cd_l_made ct_l_made), sl_l_made⟩)
    (c_l_made : PySem.W.codeIn K cd_l_made "_law_made" = true)
    (k_l_made : PySem.W.keepIn K (.ref f_l_made) = true)
    (a_l_shown : PySem.W.nsIn K mainGlobals "_law_shown" = some (some (.ref f_l_shown)))
    (l_l_shown : K.lookup f_l_shown = some ⟨oc_l_shown, od_l_shown, .func (PySem.W.fnOf "_law_shown" "_law_shown" (defArgs s_l_shown) (defBody s_l_shown) (defScope s_l_shown) .none kV_l_shown dc_l_shown pm_l_shown an_l_shown cd_l_shown ct_l_shown), sl_l_shown⟩)
    (c_l_shown : PySem.W.codeIn K cd_l_shown "_law_shown" = true)
    (k_l_shown : PySem.W.keepIn K (.ref f_l_shown) = true)
    (a_l_bad : PySem.W.nsIn K mainGlobals "_law_bad" = some (some (.ref f_l_bad)))
    (l_l_bad : K.lookup f_l_bad = some ⟨oc_l_bad, od_l_bad, .func (PySem.W.fnOf "_law_bad" "_law_bad" (defArgs s_l_bad) (defBody s_l_bad) (defScope s_l_bad) .none kV_l_bad dc_l_bad pm_l_bad an_l_bad cd_l_bad ct_l_bad), sl_l_bad⟩)
    (c_l_bad : PySem.W.codeIn K cd_l_bad "_law_bad" = true)
    (k_l_bad : PySem.W.keepIn K (.ref f_l_bad) = true)
    (a_law : PySem.W.nsIn K mainGlobals "law" = some (some (.ref f_law)))
    (l_law : K.lookup f_law = some ⟨oc_law, od_law, .func (PySem.W.fnOf "law" "law" (defArgs s_law) (defBody s_law) (defScope s_law) .none kV_law dc_law pm_law an_law cd_law ct_law), sl_law⟩)
    (c_law : PySem.W.codeIn K cd_law "law" = true)
    (k_law : PySem.W.keepIn K (.ref f_law) = true)
    (a_Shape : PySem.W.nsIn K mainGlobals "Shape" = some (some (.ref C_Shape)))
    (pg_Shape : PySem.W.plainGet K C_Shape Str.empty = true)
    (hd_Shape : PySem.W.hasDictIn K C_Shape = true)
    (po_Shape : PySem.W.plainOver K C_Shape = true)
    (sa_Shape : PySem.W.findIn K (.ref C_Shape) "__setattr__" = some (some (.builtin "object.__setattr__")))
    (sf_Shape : PySem.W.selfFirst K C_Shape = true)
    (ca_Shape : PySem.W.findIn K (.ref C_Shape) "__class__" = some (some (.builtin "object.__class__")))
    (cn_Shape : PySem.W.specialIn K (.builtin "object.__class__") "__get__" = some (some (.builtin "getset_descriptor.__get__")))
    (ct_Shape : PySem.W.takesIn K (.builtin "object.__class__") = some true)
    (cm_Shape : PySem.W.mroIn K C_Shape (.type "object") = some true)
    (kc_Shape : PySem.W.keepIn K (.ref C_Shape) = true)
    (kit_int_Shape : PySem.W.kitOne K (.ref C_Shape) (.type "int") = some false)
    (kit_bool_Shape : PySem.W.kitOne K (.ref C_Shape) (.type "bool") = some false)
    (kn_NoneType_Shape : PySem.W.kitOne K (.type "NoneType") (.ref C_Shape) = some false)
    (nf_NoneType_Shape : PySem.W.notFirst K C_Shape (.type "NoneType") = true)
    (kn_int_Shape : PySem.W.kitOne K (.type "int") (.ref C_Shape) = some false)
    (nf_int_Shape : PySem.W.notFirst K C_Shape (.type "int") = true)
    (kn_bool_Shape : PySem.W.kitOne K (.type "bool") (.ref C_Shape) = some false)
    (nf_bool_Shape : PySem.W.notFirst K C_Shape (.type "bool") = true)
    (kn_str_Shape : PySem.W.kitOne K (.type "str") (.ref C_Shape) = some false)
    (nf_str_Shape : PySem.W.notFirst K C_Shape (.type "str") = true)
    (kn_list_Shape : PySem.W.kitOne K (.type "list") (.ref C_Shape) = some false)
    (nf_list_Shape : PySem.W.notFirst K C_Shape (.type "list") = true)
    (kn_dict_Shape : PySem.W.kitOne K (.type "dict") (.ref C_Shape) = some false)
    (nf_dict_Shape : PySem.W.notFirst K C_Shape (.type "dict") = true)
    (kn_tuple_Shape : PySem.W.kitOne K (.type "tuple") (.ref C_Shape) = some false)
    (nf_tuple_Shape : PySem.W.notFirst K C_Shape (.type "tuple") = true)
    (self_Shape : PySem.W.kitOne K (.ref C_Shape) (.ref C_Shape) = some true)
    (na_own_cycles_Shape : PySem.W.findIn K (.ref C_Shape) "own_cycles" = some none)
    (na_own_chains_Shape : PySem.W.findIn K (.ref C_Shape) "own_chains" = some none)
    (ne_Shape : PySem.W.findIn K (.ref C_Shape) "__ne__" = some (some (.builtin "object.__ne__")))
    (m_Shape__init : PySem.W.findIn K (.ref C_Shape) "__init__" = some (some (.ref f_Shape__init)))
    (i_Shape__init : PySem.W.isFn K (.ref f_Shape__init) = true)
    (l_Shape__init : K.lookup f_Shape__init = some ⟨oc_Shape__init, od_Shape__init, .func (PySem.W.fnOf "__init__" "Shape.__init__" (defArgs s_Shape__init) (defBody s_Shape__init) (defScope s_Shape__init) .none kV_Shape__init dc_Shape__init pm_Shape__init an_Shape__init cd_Shape__init ct_Shape__init), sl_Shape__init⟩)
    (c_Shape__init : PySem.W.codeIn K cd_Shape__init "Shape.__init__" = true)
    (k_Shape__init : PySem.W.keepIn K (.ref f_Shape__init) = true)
    (mk_Shape : PySem.W.makesIn K C_Shape = true)
    (m_Shape_cycles : PySem.W.findIn K (.ref C_Shape) "cycles" = some (some (.ref p_Shape_cycles)))
    (s_get_Shape_cycles : PySem.W.specialIn K (.ref p_Shape_cycles) "__get__" = some (some (.builtin "property.__get__")))
    (tk_Shape_cycles : PySem.W.takesIn K (.ref p_Shape_cycles) = some true)
    (rc_Shape_cycles : PySem.W.recIn K p_Shape_cycles "property" = some (.ref f_Shape_cycles :: r_Shape_cycles))
    (l_Shape_cycles : K.lookup f_Shape_cycles = some ⟨oc_Shape_cycles, od_Shape_cycles, .func (PySem.W.fnOf "cycles" "Shape.cycles" (defArgs s_Shape_cycles) (defBody s_Shape_cycles) (defScope s_Shape_cycles) .none kV_Shape_cycles dc_Shape_cycles pm_Shape_cycles an_Shape_cycles cd_Shape_cycles ct_Shape_cycles), sl_Shape_cycles⟩)
    (c_Shape_cycles : PySem.W.codeIn K cd_Shape_cycles "Shape.cycles" = true)
    (k_Shape_cycles : PySem.W.keepIn K (.ref f_Shape_cycles) = true)
    (m_Shape_chains : PySem.W.findIn K (.ref C_Shape) "chains" = some (some (.ref p_Shape_chains)))
    (s_get_Shape_chains : PySem.W.specialIn K (.ref p_Shape_chains) "__get__" = some (some (.builtin "property.__get__")))
    (tk_Shape_chains : PySem.W.takesIn K (.ref p_Shape_chains) = some true)
    (rc_Shape_chains : PySem.W.recIn K p_Shape_chains "property" = some (.ref f_Shape_chains :: r_Shape_chains))
    (l_Shape_chains : K.lookup f_Shape_chains = some ⟨oc_Shape_chains, od_Shape_chains, .func (PySem.W.fnOf "chains" "Shape.chains" (defArgs s_Shape_chains) (defBody s_Shape_chains) (defScope s_Shape_chains) .none kV_Shape_chains dc_Shape_chains pm_Shape_chains an_Shape_chains cd_Shape_chains ct_Shape_chains), sl_Shape_chains⟩)
    (c_Shape_chains : PySem.W.codeIn K cd_Shape_chains "Shape.chains" = true)
    (k_Shape_chains : PySem.W.keepIn K (.ref f_Shape_chains) = true)
    (m_Shape_size : PySem.W.findIn K (.ref C_Shape) "size" = some (some (.ref p_Shape_size)))
    (s_get_Shape_size : PySem.W.specialIn K (.ref p_Shape_size) "__get__" = some (some (.builtin "property.__get__")))
    (tk_Shape_size : PySem.W.takesIn K (.ref p_Shape_size) = some true)
    (rc_Shape_size : PySem.W.recIn K p_Shape_size "property" = some (.ref f_Shape_size :: r_Shape_size))
    (l_Shape_size : K.lookup f_Shape_size = some ⟨oc_Shape_size, od_Shape_size, .func (PySem.W.fnOf "size" "Shape.size" (defArgs s_Shape_size) (defBody s_Shape_size) (defScope s_Shape_size) .none kV_Shape_size dc_Shape_size pm_Shape_size an_Shape_size cd_Shape_size ct_Shape_size), sl_Shape_size⟩)
    (c_Shape_size : PySem.W.codeIn K cd_Shape_size "Shape.size" = true)
    (k_Shape_size : PySem.W.keepIn K (.ref f_Shape_size) = true)
    (m_Shape__add : PySem.W.findIn K (.ref C_Shape) "__add__" = some (some (.ref f_Shape__add)))
    (i_Shape__add : PySem.W.isFn K (.ref f_Shape__add) = true)
    (l_Shape__add : K.lookup f_Shape__add = some ⟨oc_Shape__add, od_Shape__add, .func (PySem.W.fnOf "__add__" "Shape.__add__" (defArgs s_Shape__add) (defBody s_Shape__add) (defScope s_Shape__add) .none kV_Shape__add dc_Shape__add pm_Shape__add an_Shape__add cd_Shape__add ct_Shape__add), sl_Shape__add⟩)
    (c_Shape__add : PySem.W.codeIn K cd_Shape__add "Shape.__add__" = true)
    (k_Shape__add : PySem.W.keepIn K (.ref f_Shape__add) = true)
    (m_Shape__eq : PySem.W.findIn K (.ref C_Shape) "__eq__" = some (some (.ref f_Shape__eq)))
    (i_Shape__eq : PySem.W.isFn K (.ref f_Shape__eq) = true)
    (l_Shape__eq : K.lookup f_Shape__eq = some ⟨oc_Shape__eq, od_Shape__eq, .func (PySem.W.fnOf "__eq__" "Shape.__eq__" (defArgs s_Shape__eq) (defBody s_Shape__eq) (defScope s_Shape__eq) .none kV_Shape__eq dc_Shape__eq pm_Shape__eq an_Shape__eq cd_Shape__eq ct_Shape__eq), sl_Shape__eq⟩)
    (c_Shape__eq : PySem.W.codeIn K cd_Shape__eq "Shape.__eq__" = true)
    (k_Shape__eq : PySem.W.keepIn K (.ref f_Shape__eq) = true)
    (m_Shape__repr : PySem.W.findIn K (.ref C_Shape) "__repr__" = some (some (.ref f_Shape__repr)))
    (i_Shape__repr : PySem.W.isFn K (.ref f_Shape__repr) = true)
    (l_Shape__repr : K.lookup f_Shape__repr = some ⟨oc_Shape__repr, od_Shape__repr, .func (PySem.W.fnOf "__repr__" "Shape.__repr__" (defArgs s_Shape__repr) (defBody s_Shape__repr) (defScope s_Shape__repr) .none kV_Shape__repr dc_Shape__repr pm_Shape__repr an_Shape__repr cd_Shape__repr ct_Shape__repr), sl_Shape__repr⟩)
    (c_Shape__repr : PySem.W.codeIn K cd_Shape__repr "Shape.__repr__" = true)
    (k_Shape__repr : PySem.W.keepIn K (.ref f_Shape__repr) = true)
    (a_Map : PySem.W.nsIn K mainGlobals "Map" = some (some (.ref C_Map)))
    (pg_Map : PySem.W.plainGet K C_Map Str.empty = true)
    (hd_Map : PySem.W.hasDictIn K C_Map = true)
    (po_Map : PySem.W.plainOver K C_Map = true)
    (sa_Map : PySem.W.findIn K (.ref C_Map) "__setattr__" = some (some (.builtin "object.__setattr__")))
    (sf_Map : PySem.W.selfFirst K C_Map = true)
    (ca_Map : PySem.W.findIn K (.ref C_Map) "__class__" = some (some (.builtin "object.__class__")))
    (cn_Map : PySem.W.specialIn K (.builtin "object.__class__") "__get__" = some (some (.builtin "getset_descriptor.__get__")))
    (ct_Map : PySem.W.takesIn K (.builtin "object.__class__") = some true)
    (cm_Map : PySem.W.mroIn K C_Map (.type "object") = some true)
    (kc_Map : PySem.W.keepIn K (.ref C_Map) = true)
    (kit_int_Map : PySem.W.kitOne K (.ref C_Map) (.type "int") = some false)
    (kit_bool_Map : PySem.W.kitOne K (.ref C_Map) (.type "bool") = some false)
    (kn_NoneType_Map : PySem.W.kitOne K (.type "NoneType") (.ref C_Map) = some false)
    (nf_NoneType_Map : PySem.W.notFirst K C_Map (.type "NoneType") = true)
    (kn_int_Map : PySem.W.kitOne K (.type "int") (.ref C_Map) = some false)
    (nf_int_Map : PySem.W.notFirst K C_Map (.type "int") = true)
    (kn_bool_Map : PySem.W.kitOne K (.type "bool") (.ref C_Map) = some false)
    (nf_bool_Map : PySem.W.notFirst K C_Map (.type "bool") = true)
    (kn_str_Map : PySem.W.kitOne K (.type "str") (.ref C_Map) = some false)
    (nf_str_Map : PySem.W.notFirst K C_Map (.type "str") = true)
    (kn_list_Map : PySem.W.kitOne K (.type "list") (.ref C_Map) = some false)
    (nf_list_Map : PySem.W.notFirst K C_Map (.type "list") = true)
    (kn_dict_Map : PySem.W.kitOne K (.type "dict") (.ref C_Map) = some false)
    (nf_dict_Map : PySem.W.notFirst K C_Map (.type "dict") = true)
    (kn_tuple_Map : PySem.W.kitOne K (.type "tuple") (.ref C_Map) = some false)
    (nf_tuple_Map : PySem.W.notFirst K C_Map (.type "tuple") = true)
    (self_Map : PySem.W.kitOne K (.ref C_Map) (.ref C_Map) = some true)
    (na_own_size_Map : PySem.W.findIn K (.ref C_Map) "own_size" = some none)
    (na_own_arrows_Map : PySem.W.findIn K (.ref C_Map) "own_arrows" = some none)
    (m_Map__init : PySem.W.findIn K (.ref C_Map) "__init__" = some (some (.ref f_Map__init)))
    (i_Map__init : PySem.W.isFn K (.ref f_Map__init) = true)
    (l_Map__init : K.lookup f_Map__init = some ⟨oc_Map__init, od_Map__init, .func (PySem.W.fnOf "__init__" "Map.__init__" (defArgs s_Map__init) (defBody s_Map__init) (defScope s_Map__init) .none kV_Map__init dc_Map__init pm_Map__init an_Map__init cd_Map__init ct_Map__init), sl_Map__init⟩)
    (c_Map__init : PySem.W.codeIn K cd_Map__init "Map.__init__" = true)
    (k_Map__init : PySem.W.keepIn K (.ref f_Map__init) = true)
    (mk_Map : PySem.W.makesIn K C_Map = true)
    (m_Map_size : PySem.W.findIn K (.ref C_Map) "size" = some (some (.ref p_Map_size)))
    (s_get_Map_size : PySem.W.specialIn K (.ref p_Map_size) "__get__" = some (some (.builtin "property.__get__")))
    (tk_Map_size : PySem.W.takesIn K (.ref p_Map_size) = some true)
    (rc_Map_size : PySem.W.recIn K p_Map_size "property" = some (.ref f_Map_size :: r_Map_size))
    (l_Map_size : K.lookup f_Map_size = some ⟨oc_Map_size, od_Map_size, .func (PySem.W.fnOf "size" "Map.size" (defArgs s_Map_size) (defBody s_Map_size) (defScope s_Map_size) .none kV_Map_size dc_Map_size pm_Map_size an_Map_size cd_Map_size ct_Map_size), sl_Map_size⟩)
    (c_Map_size : PySem.W.codeIn K cd_Map_size "Map.size" = true)
    (k_Map_size : PySem.W.keepIn K (.ref f_Map_size) = true)
    (m_Map_arrows : PySem.W.findIn K (.ref C_Map) "arrows" = some (some (.ref p_Map_arrows)))
    (s_get_Map_arrows : PySem.W.specialIn K (.ref p_Map_arrows) "__get__" = some (some (.builtin "property.__get__")))
    (tk_Map_arrows : PySem.W.takesIn K (.ref p_Map_arrows) = some true)
    (rc_Map_arrows : PySem.W.recIn K p_Map_arrows "property" = some (.ref f_Map_arrows :: r_Map_arrows))
    (l_Map_arrows : K.lookup f_Map_arrows = some ⟨oc_Map_arrows, od_Map_arrows, .func (PySem.W.fnOf "arrows" "Map.arrows" (defArgs s_Map_arrows) (defBody s_Map_arrows) (defScope s_Map_arrows) .none kV_Map_arrows dc_Map_arrows pm_Map_arrows an_Map_arrows cd_Map_arrows ct_Map_arrows), sl_Map_arrows⟩)
    (c_Map_arrows : PySem.W.codeIn K cd_Map_arrows "Map.arrows" = true)
    (k_Map_arrows : PySem.W.keepIn K (.ref f_Map_arrows) = true)
    (a_InvalidMap : PySem.W.nsIn K mainGlobals "InvalidMap" = some (some (.ref C_InvalidMap)))
    (xl_InvalidMap : K.lookup C_InvalidMap = some (excClassObj nm_InvalidMap q_InvalidMap C_InvalidMap N_InvalidMap bs_InvalidMap [.type "ValueError", .type "Exception", .type "BaseException", .type "object"] true sn_InvalidMap sub_InvalidMap ab_InvalidMap col_InvalidMap dd_InvalidMap m0_InvalidMap m1_InvalidMap m2_InvalidMap m3_InvalidMap m5_InvalidMap "ValueError.__new__"))
    (sa_InvalidMap : PySem.W.findIn K (.ref C_InvalidMap) "__setattr__" = some (some (.builtin "object.__setattr__")))
    (ex_InvalidMap : PySem.W.subIn K (.ref C_InvalidMap) (.type "BaseException") = some true)
    (ty_InvalidMap : PySem.W.typeIn K (.ref C_InvalidMap) = some (.type "type"))
    (kc_InvalidMap : PySem.W.keepIn K (.ref C_InvalidMap) = true)
    (hd_InvalidMap : PySem.W.hasDictIn K C_InvalidMap = true)
    (ga_InvalidMap : PySem.W.findIn K (.ref C_InvalidMap) "__getattribute__" = some (some (.builtin "BaseException.__getattribute__")))
    (gg_InvalidMap : PySem.W.findIn K (.ref C_InvalidMap) "__getattr__" = some none)
    (ss_InvalidMap : PySem.W.subIn K (.ref C_InvalidMap) (.ref C_InvalidMap) = some true)
    (ca_InvalidMap : PySem.W.findIn K (.ref C_InvalidMap) "__class__" = some (some (.builtin "object.__class__")))
    (cn_InvalidMap : PySem.W.specialIn K (.builtin "object.__class__") "__get__" = some (some (.builtin "getset_descriptor.__get__")))
    (ct_InvalidMap : PySem.W.takesIn K (.builtin "object.__class__") = some true)
    (cm_InvalidMap : PySem.W.mroIn K C_InvalidMap (.type "object") = some true)
    (kit_ValueError_InvalidMap : PySem.W.kitOne K (.ref C_InvalidMap) (.type "ValueError") = some true)
    (na_part_InvalidMap : PySem.W.findIn K (.ref C_InvalidMap) "part" = some none)
    (m_InvalidMap__init : PySem.W.findIn K (.ref C_InvalidMap) "__init__" = some (some (.ref f_InvalidMap__init)))
    (ti_InvalidMap__init : PySem.W.typeIn K (.ref f_InvalidMap__init) = some (.type "function"))
    (l_InvalidMap__init : K.lookup f_InvalidMap__init = some ⟨oc_InvalidMap__init, od_InvalidMap__init, .func (PySem.W.fnOf "__init__" "InvalidMap.__init__" (defArgs s_InvalidMap__init) (defBody s_InvalidMap__init) (defScope s_InvalidMap__init) .none kV_InvalidMap__init dc_InvalidMap__init pm_InvalidMap__init an_InvalidMap__init cd_InvalidMap__init ct_InvalidMap__init), sl_InvalidMap__init⟩)
    (c_InvalidMap__init : PySem.W.codeIn K cd_InvalidMap__init "InvalidMap.__init__" = true)
    (k_InvalidMap__init : PySem.W.keepIn K (.ref f_InvalidMap__init) = true)
    (a_InvalidShape : PySem.W.nsIn K mainGlobals "InvalidShape" = some (some (.ref C_InvalidShape)))
    (xl_InvalidShape : K.lookup C_InvalidShape = some (excClassObj nm_InvalidShape q_InvalidShape C_InvalidShape N_InvalidShape bs_InvalidShape [.type "ValueError", .type "Exception", .type "BaseException", .type "object"] true sn_InvalidShape sub_InvalidShape ab_InvalidShape col_InvalidShape dd_InvalidShape m0_InvalidShape m1_InvalidShape m2_InvalidShape m3_InvalidShape m5_InvalidShape "ValueError.__new__"))
    (sa_InvalidShape : PySem.W.findIn K (.ref C_InvalidShape) "__setattr__" = some (some (.builtin "object.__setattr__")))
    (ex_InvalidShape : PySem.W.subIn K (.ref C_InvalidShape) (.type "BaseException") = some true)
    (ty_InvalidShape : PySem.W.typeIn K (.ref C_InvalidShape) = some (.type "type"))
    (kc_InvalidShape : PySem.W.keepIn K (.ref C_InvalidShape) = true)
    (hd_InvalidShape : PySem.W.hasDictIn K C_InvalidShape = true)
    (ga_InvalidShape : PySem.W.findIn K (.ref C_InvalidShape) "__getattribute__" = some (some (.builtin "BaseException.__getattribute__")))
    (gg_InvalidShape : PySem.W.findIn K (.ref C_InvalidShape) "__getattr__" = some none)
    (ss_InvalidShape : PySem.W.subIn K (.ref C_InvalidShape) (.ref C_InvalidShape) = some true)
    (ca_InvalidShape : PySem.W.findIn K (.ref C_InvalidShape) "__class__" = some (some (.builtin "object.__class__")))
    (cn_InvalidShape : PySem.W.specialIn K (.builtin "object.__class__") "__get__" = some (some (.builtin "getset_descriptor.__get__")))
    (ct_InvalidShape : PySem.W.takesIn K (.builtin "object.__class__") = some true)
    (cm_InvalidShape : PySem.W.mroIn K C_InvalidShape (.type "object") = some true)
    (kit_ValueError_InvalidShape : PySem.W.kitOne K (.ref C_InvalidShape) (.type "ValueError") = some true)
    (te_InvalidMap_InvalidShape : PySem.W.subIn K (.ref C_InvalidShape) (.ref C_InvalidMap) = some false)
    (na_part_InvalidShape : PySem.W.findIn K (.ref C_InvalidShape) "part" = some none)
    (m_InvalidShape__init : PySem.W.findIn K (.ref C_InvalidShape) "__init__" = some (some (.ref f_InvalidShape__init)))
    (ti_InvalidShape__init : PySem.W.typeIn K (.ref f_InvalidShape__init) = some (.type "function"))
    (l_InvalidShape__init : K.lookup f_InvalidShape__init = some ⟨oc_InvalidShape__init, od_InvalidShape__init, .func (PySem.W.fnOf "__init__" "InvalidShape.__init__" (defArgs s_InvalidShape__init) (defBody s_InvalidShape__init) (defScope s_InvalidShape__init) .none kV_InvalidShape__init dc_InvalidShape__init pm_InvalidShape__init an_InvalidShape__init cd_InvalidShape__init ct_InvalidShape__init), sl_InvalidShape__init⟩)
    (c_InvalidShape__init : PySem.W.codeIn K cd_InvalidShape__init "InvalidShape.__init__" = true)
    (k_InvalidShape__init : PySem.W.keepIn K (.ref f_InvalidShape__init) = true)
    (z_isinstance : PySem.W.nsIn K mainGlobals "isinstance" = some none)
    (z_int : PySem.W.nsIn K mainGlobals "int" = some none)
    (z_bool : PySem.W.nsIn K mainGlobals "bool" = some none)
    (z_dict : PySem.W.nsIn K mainGlobals "dict" = some none)
    (z_len : PySem.W.nsIn K mainGlobals "len" = some none)
    (z_range : PySem.W.nsIn K mainGlobals "range" = some none)
    (z_list : PySem.W.nsIn K mainGlobals "list" = some none)
    (z_max : PySem.W.nsIn K mainGlobals "max" = some none)
    (z_min : PySem.W.nsIn K mainGlobals "min" = some none)
    (z_sum : PySem.W.nsIn K mainGlobals "sum" = some none)
    (z_all : PySem.W.nsIn K mainGlobals "all" = some none)
    (z_sorted : PySem.W.nsIn K mainGlobals "sorted" = some none)
    (z_repr : PySem.W.nsIn K mainGlobals "repr" = some none)
    (z_ValueError : PySem.W.nsIn K mainGlobals "ValueError" = some none)
    (v_MAX_SIZE : PySem.W.nsIn K mainGlobals "MAX_SIZE" = some (some (.int 300 t_MAX_SIZE)))
    (kit_x_Shape_Map : PySem.W.kitOne K (.ref C_Map) (.ref C_Shape) = some false)
    (nf_x_Shape_Map : PySem.W.notFirst K C_Shape (.ref C_Map) = true) :
    Nonempty (Txt K mg) := ⟨{
    f_is_integer := f_is_integer,
    A_is_integer := ⟨_, fun_mk (st := s_is_integer) l_is_integer c_is_integer k_is_integer, (fun_mk (st := s_is_integer) l_is_integer c_is_integer k_is_integer).binds (ps := ["value"]) fun _ _ _ _ _ _ us hl => match us, hl with | [_], _ => rfl⟩,
    g_is_integer := PySem.W.mg_of X G a_is_integer,
    f_in_range := f_in_range,
    A_in_range := ⟨_, fun_mk (st := s_in_range) l_in_range c_in_range k_in_range, (fun_mk (st := s_in_range) l_in_range c_in_range k_in_range).binds (ps := ["value", "least", "most"]) fun _ _ _ _ _ _ us hl => match us, hl with | [_, _, _], _ => rfl⟩,
    g_in_range := PySem.W.mg_of X G a_in_range,
    f_are_arrows := f_are_arrows,
    A_are_arrows := ⟨_, fun_mk (st := s_are_arrows) l_are_arrows c_are_arrows k_are_arrows, (fun_mk (st := s_are_arrows) l_are_arrows c_are_arrows k_are_arrows).binds (ps := ["size", "arrows"]) fun _ _ _ _ _ _ us hl => match us, hl with | [_, _], _ => rfl⟩,
    g_are_arrows := PySem.W.mg_of X G a_are_arrows,
    f_row_from := f_row_from,
    A_row_from := ⟨_, fun_mk (st := s_row_from) l_row_from c_row_from k_row_from, (fun_mk (st := s_row_from) l_row_from c_row_from k_row_from).binds (ps := ["arrows", "element"]) fun _ _ _ _ _ _ us hl => match us, hl with | [_, _], _ => rfl⟩,
    g_row_from := PySem.W.mg_of X G a_row_from,
    f_check_map := f_check_map,
    A_check_map := ⟨_, fun_mk (st := s_check_map) l_check_map c_check_map k_check_map, (fun_mk (st := s_check_map) l_check_map c_check_map k_check_map).binds (ps := ["value"]) fun _ _ _ _ _ _ us hl => match us, hl with | [_], _ => rfl⟩,
    g_check_map := PySem.W.mg_of X G a_check_map,
    f_parts_of := f_parts_of,
    A_parts_of := ⟨_, fun_mk (st := s_parts_of) l_parts_of c_parts_of k_parts_of, (fun_mk (st := s_parts_of) l_parts_of c_parts_of k_parts_of).binds (ps := ["given"]) fun _ _ _ _ _ _ us hl => match us, hl with | [_], _ => rfl⟩,
    g_parts_of := PySem.W.mg_of X G a_parts_of,
    f_are_counts := f_are_counts,
    A_are_counts := ⟨_, fun_mk (st := s_are_counts) l_are_counts c_are_counts k_are_counts, (fun_mk (st := s_are_counts) l_are_counts c_are_counts k_are_counts).binds (ps := ["value"]) fun _ _ _ _ _ _ us hl => match us, hl with | [_], _ => rfl⟩,
    g_are_counts := PySem.W.mg_of X G a_are_counts,
    f_ordered := f_ordered,
    A_ordered := ⟨_, fun_mk (st := s_ordered) l_ordered c_ordered k_ordered, (fun_mk (st := s_ordered) l_ordered c_ordered k_ordered).binds (ps := ["counts"]) fun _ _ _ _ _ _ us hl => match us, hl with | [_], _ => rfl⟩,
    g_ordered := PySem.W.mg_of X G a_ordered,
    f_merged := f_merged,
    A_merged := ⟨_, fun_mk (st := s_merged) l_merged c_merged k_merged, (fun_mk (st := s_merged) l_merged c_merged k_merged).binds (ps := ["one", "other"]) fun _ _ _ _ _ _ us hl => match us, hl with | [_, _], _ => rfl⟩,
    g_merged := PySem.W.mg_of X G a_merged,
    f_counts_of := f_counts_of,
    A_counts_of := ⟨_, fun_mk (st := s_counts_of) l_counts_of c_counts_of k_counts_of, (fun_mk (st := s_counts_of) l_counts_of c_counts_of k_counts_of).binds (ps := ["parts"]) fun _ _ _ _ _ _ us hl => match us, hl with | [_], _ => rfl⟩,
    g_counts_of := PySem.W.mg_of X G a_counts_of,
    f_shape_of := f_shape_of,
    A_shape_of := ⟨_, fun_mk (st := s_shape_of) l_shape_of c_shape_of k_shape_of, (fun_mk (st := s_shape_of) l_shape_of c_shape_of k_shape_of).binds (ps := ["given"]) fun _ _ _ _ _ _ us hl => match us, hl with | [_], _ => rfl⟩,
    g_shape_of := PySem.W.mg_of X G a_shape_of,
    f_l_hand := f_l_hand,
    A_l_hand := ⟨_, fun_mk (st := s_l_hand) l_l_hand c_l_hand k_l_hand, (fun_mk (st := s_l_hand) l_l_hand c_l_hand k_l_hand).binds (ps := ["_law_script", "_law_k"]) fun _ _ _ _ _ _ us hl => match us, hl with | [_, _], _ => rfl⟩,
    g_l_hand := PySem.W.mg_of X G a_l_hand,
    f_l_draw := f_l_draw,
    A_l_draw := ⟨_, fun_mk (st := s_l_draw) l_l_draw c_l_draw k_l_draw, (fun_mk (st := s_l_draw) l_l_draw c_l_draw k_l_draw).binds (ps := ["_law_pool", "_law_size"]) fun _ _ _ _ _ _ us hl => match us, hl with | [_, _], _ => rfl⟩,
    g_l_draw := PySem.W.mg_of X G a_l_draw,
    f_l_arrows := f_l_arrows,
    A_l_arrows := ⟨_, fun_mk (st := s_l_arrows) l_l_arrows c_l_arrows k_l_arrows, (fun_mk (st := s_l_arrows) l_l_arrows c_l_arrows k_l_arrows).binds (ps := ["_law_pool", "_law_size", "_law_way"]) fun _ _ _ _ _ _ us hl => match us, hl with | [_, _, _], _ => rfl⟩,
    g_l_arrows := PySem.W.mg_of X G a_l_arrows,
    f_l_parts := f_l_parts,
    A_l_parts := ⟨_, fun_mk (st := s_l_parts) l_l_parts c_l_parts k_l_parts, (fun_mk (st := s_l_parts) l_l_parts c_l_parts k_l_parts).binds (ps := ["_law_arrows_here", "_law_size"]) fun _ _ _ _ _ _ us hl => match us, hl with | [_, _], _ => rfl⟩,
    g_l_parts := PySem.W.mg_of X G a_l_parts,
    f_l_counts := f_l_counts,
    A_l_counts := ⟨_, fun_mk (st := s_l_counts) l_l_counts c_l_counts k_l_counts, (fun_mk (st := s_l_counts) l_l_counts c_l_counts k_l_counts).binds (ps := ["_law_pool"]) fun _ _ _ _ _ _ us hl => match us, hl with | [_], _ => rfl⟩,
    g_l_counts := PySem.W.mg_of X G a_l_counts,
    f_l_raised := f_l_raised,
    A_l_raised := ⟨_, fun_mk (st := s_l_raised) l_l_raised c_l_raised k_l_raised, (fun_mk (st := s_l_raised) l_l_raised c_l_raised k_l_raised).binds (ps := ["_law_counts_here"]) fun _ _ _ _ _ _ us hl => match us, hl with | [_], _ => rfl⟩,
    g_l_raised := PySem.W.mg_of X G a_l_raised,
    f_l_made := f_l_made,
    A_l_made := ⟨_, fun_mk (st := s_l_made) l_l_made c_l_made k_l_made, (fun_mk (st := s_l_made) l_l_made c_l_made k_l_made).binds (ps := ["_law_cycles", "_law_chains"]) fun _ _ _ _ _ _ us hl => match us, hl with | [_, _], _ => rfl⟩,
    g_l_made := PySem.W.mg_of X G a_l_made,
    f_l_shown := f_l_shown,
    A_l_shown := ⟨_, fun_mk (st := s_l_shown) l_l_shown c_l_shown k_l_shown, (fun_mk (st := s_l_shown) l_l_shown c_l_shown k_l_shown).binds (ps := ["_law_shape", "_law_cycles", "_law_chains"]) fun _ _ _ _ _ _ us hl => match us, hl with | [_, _, _], _ => rfl⟩,
    g_l_shown := PySem.W.mg_of X G a_l_shown,
    f_l_bad := f_l_bad,
    A_l_bad := ⟨_, fun_mk (st := s_l_bad) l_l_bad c_l_bad k_l_bad, (fun_mk (st := s_l_bad) l_l_bad c_l_bad k_l_bad).binds (ps := ["_law_pool", "_law_cycles", "_law_chains"]) fun _ _ _ _ _ _ us hl => match us, hl with | [_, _, _], _ => rfl⟩,
    g_l_bad := PySem.W.mg_of X G a_l_bad,
    f_law := f_law,
    A_law := ⟨_, fun_mk (st := s_law) l_law c_law k_law, (fun_mk (st := s_law) l_law c_law k_law).binds (ps := ["_law_script"]) fun _ _ _ _ _ _ us hl => match us, hl with | [_], _ => rfl⟩,
    L_law := ⟨_, fun_mk (st := s_law) l_law c_law k_law, fun s v => .of_eq rfl⟩,
    g_law := PySem.W.mg_of X G a_law,
    C_Shape := C_Shape,
    g_Shape := PySem.W.mg_of X G a_Shape,
    o_Shape := ⟨⟨pg_Shape, hd_Shape, po_Shape, sa_Shape⟩, sf_Shape, ca_Shape, cn_Shape, ct_Shape, cm_Shape⟩,
    kit_int_Shape := kit_int_Shape,
    kit_bool_Shape := kit_bool_Shape,
    kn_NoneType_Shape := kn_NoneType_Shape,
    nf_NoneType_Shape := nf_NoneType_Shape,
    kn_int_Shape := kn_int_Shape,
    nf_int_Shape := nf_int_Shape,
    kn_bool_Shape := kn_bool_Shape,
    nf_bool_Shape := nf_bool_Shape,
    kn_str_Shape := kn_str_Shape,
    nf_str_Shape := nf_str_Shape,
    kn_list_Shape := kn_list_Shape,
    nf_list_Shape := nf_list_Shape,
    kn_dict_Shape := kn_dict_Shape,
    nf_dict_Shape := nf_dict_Shape,
    kn_tuple_Shape := kn_tuple_Shape,
    nf_tuple_Shape := nf_tuple_Shape,
    self_Shape := self_Shape,
    na_own_cycles_Shape := na_own_cycles_Shape,
    na_own_chains_Shape := na_own_chains_Shape,
    ne_Shape := ne_Shape,
    f_Shape__init := f_Shape__init,
    A_Shape__init := ⟨_, fun_mk (st := s_Shape__init) l_Shape__init c_Shape__init k_Shape__init, (fun_mk (st := s_Shape__init) l_Shape__init c_Shape__init k_Shape__init).binds (ps := ["self", "cycles", "chains"]) fun _ _ _ _ _ _ us hl => match us, hl with | [_, _, _], _ => rfl⟩,
    m_Shape__init := m_Shape__init,
    i_Shape__init := i_Shape__init,
    M_Shape := ⟨mk_Shape, m_Shape__init, i_Shape__init, kc_Shape⟩,
    p_Shape_cycles := p_Shape_cycles,
    f_Shape_cycles := f_Shape_cycles,
    A_Shape_cycles := ⟨_, fun_mk (st := s_Shape_cycles) l_Shape_cycles c_Shape_cycles k_Shape_cycles, (fun_mk (st := s_Shape_cycles) l_Shape_cycles c_Shape_cycles k_Shape_cycles).binds (ps := ["self"]) fun _ _ _ _ _ _ us hl => match us, hl with | [_], _ => rfl⟩,
    P_Shape_cycles := ⟨m_Shape_cycles, s_get_Shape_cycles, tk_Shape_cycles, _, rc_Shape_cycles⟩,
    p_Shape_chains := p_Shape_chains,
    f_Shape_chains := f_Shape_chains,
    A_Shape_chains := ⟨_, fun_mk (st := s_Shape_chains) l_Shape_chains c_Shape_chains k_Shape_chains, (fun_mk (st := s_Shape_chains) l_Shape_chains c_Shape_chains k_Shape_chains).binds (ps := ["self"]) fun _ _ _ _ _ _ us hl => match us, hl with | [_], _ => rfl⟩,
    P_Shape_chains := ⟨m_Shape_chains, s_get_Shape_chains, tk_Shape_chains, _, rc_Shape_chains⟩,
    p_Shape_size := p_Shape_size,
    f_Shape_size := f_Shape_size,
    A_Shape_size := ⟨_, fun_mk (st := s_Shape_size) l_Shape_size c_Shape_size k_Shape_size, (fun_mk (st := s_Shape_size) l_Shape_size c_Shape_size k_Shape_size).binds (ps := ["self"]) fun _ _ _ _ _ _ us hl => match us, hl with | [_], _ => rfl⟩,
    P_Shape_size := ⟨m_Shape_size, s_get_Shape_size, tk_Shape_size, _, rc_Shape_size⟩,
    f_Shape__add := f_Shape__add,
    A_Shape__add := ⟨_, fun_mk (st := s_Shape__add) l_Shape__add c_Shape__add k_Shape__add, (fun_mk (st := s_Shape__add) l_Shape__add c_Shape__add k_Shape__add).binds (ps := ["self", "other"]) fun _ _ _ _ _ _ us hl => match us, hl with | [_, _], _ => rfl⟩,
    m_Shape__add := m_Shape__add,
    i_Shape__add := i_Shape__add,
    f_Shape__eq := f_Shape__eq,
    A_Shape__eq := ⟨_, fun_mk (st := s_Shape__eq) l_Shape__eq c_Shape__eq k_Shape__eq, (fun_mk (st := s_Shape__eq) l_Shape__eq c_Shape__eq k_Shape__eq).binds (ps := ["self", "other"]) fun _ _ _ _ _ _ us hl => match us, hl with | [_, _], _ => rfl⟩,
    m_Shape__eq := m_Shape__eq,
    i_Shape__eq := i_Shape__eq,
    f_Shape__repr := f_Shape__repr,
    A_Shape__repr := ⟨_, fun_mk (st := s_Shape__repr) l_Shape__repr c_Shape__repr k_Shape__repr, (fun_mk (st := s_Shape__repr) l_Shape__repr c_Shape__repr k_Shape__repr).binds (ps := ["self"]) fun _ _ _ _ _ _ us hl => match us, hl with | [_], _ => rfl⟩,
    m_Shape__repr := m_Shape__repr,
    i_Shape__repr := i_Shape__repr,
    C_Map := C_Map,
    g_Map := PySem.W.mg_of X G a_Map,
    o_Map := ⟨⟨pg_Map, hd_Map, po_Map, sa_Map⟩, sf_Map, ca_Map, cn_Map, ct_Map, cm_Map⟩,
    kit_int_Map := kit_int_Map,
    kit_bool_Map := kit_bool_Map,
    kn_NoneType_Map := kn_NoneType_Map,
    nf_NoneType_Map := nf_NoneType_Map,
    kn_int_Map := kn_int_Map,
    nf_int_Map := nf_int_Map,
    kn_bool_Map := kn_bool_Map,
    nf_bool_Map := nf_bool_Map,
    kn_str_Map := kn_str_Map,
    nf_str_Map := nf_str_Map,
    kn_list_Map := kn_list_Map,
    nf_list_Map := nf_list_Map,
    kn_dict_Map := kn_dict_Map,
    nf_dict_Map := nf_dict_Map,
    kn_tuple_Map := kn_tuple_Map,
    nf_tuple_Map := nf_tuple_Map,
    kx_Map_Shape := kit_x_Shape_Map,
    nf_Map_Shape := nf_x_Shape_Map,
    self_Map := self_Map,
    na_own_size_Map := na_own_size_Map,
    na_own_arrows_Map := na_own_arrows_Map,
    f_Map__init := f_Map__init,
    A_Map__init := ⟨_, fun_mk (st := s_Map__init) l_Map__init c_Map__init k_Map__init, (fun_mk (st := s_Map__init) l_Map__init c_Map__init k_Map__init).binds (ps := ["self", "size", "arrows"]) fun _ _ _ _ _ _ us hl => match us, hl with | [_, _, _], _ => rfl⟩,
    m_Map__init := m_Map__init,
    i_Map__init := i_Map__init,
    M_Map := ⟨mk_Map, m_Map__init, i_Map__init, kc_Map⟩,
    p_Map_size := p_Map_size,
    f_Map_size := f_Map_size,
    A_Map_size := ⟨_, fun_mk (st := s_Map_size) l_Map_size c_Map_size k_Map_size, (fun_mk (st := s_Map_size) l_Map_size c_Map_size k_Map_size).binds (ps := ["self"]) fun _ _ _ _ _ _ us hl => match us, hl with | [_], _ => rfl⟩,
    P_Map_size := ⟨m_Map_size, s_get_Map_size, tk_Map_size, _, rc_Map_size⟩,
    p_Map_arrows := p_Map_arrows,
    f_Map_arrows := f_Map_arrows,
    A_Map_arrows := ⟨_, fun_mk (st := s_Map_arrows) l_Map_arrows c_Map_arrows k_Map_arrows, (fun_mk (st := s_Map_arrows) l_Map_arrows c_Map_arrows k_Map_arrows).binds (ps := ["self"]) fun _ _ _ _ _ _ us hl => match us, hl with | [_], _ => rfl⟩,
    P_Map_arrows := ⟨m_Map_arrows, s_get_Map_arrows, tk_Map_arrows, _, rc_Map_arrows⟩,
    C_InvalidMap := C_InvalidMap,
    g_InvalidMap := PySem.W.mg_of X G a_InvalidMap,
    x_InvalidMap := ⟨⟨"ValueError", _, _, _, _, _, _, _, _, _, _, _, _, _, _, _, _, _, _, PySem.F.store_ValueError, PySem.F.excBase_ValueError, xl_InvalidMap, by decide +kernel⟩, sa_InvalidMap, ex_InvalidMap, ty_InvalidMap, kc_InvalidMap⟩,
    xf_InvalidMap := ⟨ga_InvalidMap, gg_InvalidMap, ex_InvalidMap, hd_InvalidMap⟩,
    xe_InvalidMap := ⟨ga_InvalidMap, gg_InvalidMap, ex_InvalidMap, hd_InvalidMap, ca_InvalidMap, cn_InvalidMap, ct_InvalidMap, cm_InvalidMap⟩,
    te_InvalidMap := PySem.W.exm_ref ex_InvalidMap hd_InvalidMap ty_InvalidMap ss_InvalidMap,
    kit_ValueError_InvalidMap := kit_ValueError_InvalidMap,
    na_part_InvalidMap := na_part_InvalidMap,
    f_InvalidMap__init := f_InvalidMap__init,
    A_InvalidMap__init := ⟨_, fun_mk (st := s_InvalidMap__init) l_InvalidMap__init c_InvalidMap__init k_InvalidMap__init, (fun_mk (st := s_InvalidMap__init) l_InvalidMap__init c_InvalidMap__init k_InvalidMap__init).binds (ps := ["self", "part"]) fun _ _ _ _ _ _ us hl => match us, hl with | [_, _], _ => rfl⟩,
    m_InvalidMap__init := m_InvalidMap__init,
    ti_InvalidMap__init := ti_InvalidMap__init,
    C_InvalidShape := C_InvalidShape,
    g_InvalidShape := PySem.W.mg_of X G a_InvalidShape,
    x_InvalidShape := ⟨⟨"ValueError", _, _, _, _, _, _, _, _, _, _, _, _, _, _, _, _, _, _, PySem.F.store_ValueError, PySem.F.excBase_ValueError, xl_InvalidShape, by decide +kernel⟩, sa_InvalidShape, ex_InvalidShape, ty_InvalidShape, kc_InvalidShape⟩,
    xf_InvalidShape := ⟨ga_InvalidShape, gg_InvalidShape, ex_InvalidShape, hd_InvalidShape⟩,
    xe_InvalidShape := ⟨ga_InvalidShape, gg_InvalidShape, ex_InvalidShape, hd_InvalidShape, ca_InvalidShape, cn_InvalidShape, ct_InvalidShape, cm_InvalidShape⟩,
    te_InvalidShape := PySem.W.exm_ref ex_InvalidShape hd_InvalidShape ty_InvalidShape ss_InvalidShape,
    kit_ValueError_InvalidShape := kit_ValueError_InvalidShape,
    te_InvalidShape_InvalidMap := PySem.W.exm_ref ex_InvalidMap hd_InvalidMap ty_InvalidMap te_InvalidMap_InvalidShape,
    na_part_InvalidShape := na_part_InvalidShape,
    f_InvalidShape__init := f_InvalidShape__init,
    A_InvalidShape__init := ⟨_, fun_mk (st := s_InvalidShape__init) l_InvalidShape__init c_InvalidShape__init k_InvalidShape__init, (fun_mk (st := s_InvalidShape__init) l_InvalidShape__init c_InvalidShape__init k_InvalidShape__init).binds (ps := ["self", "part"]) fun _ _ _ _ _ _ us hl => match us, hl with | [_, _], _ => rfl⟩,
    m_InvalidShape__init := m_InvalidShape__init,
    ti_InvalidShape__init := ti_InvalidShape__init,
    n_isinstance := PySem.W.mg_none_of X G z_isinstance,
    n_int := PySem.W.mg_none_of X G z_int,
    n_bool := PySem.W.mg_none_of X G z_bool,
    n_dict := PySem.W.mg_none_of X G z_dict,
    n_len := PySem.W.mg_none_of X G z_len,
    n_range := PySem.W.mg_none_of X G z_range,
    n_list := PySem.W.mg_none_of X G z_list,
    n_max := PySem.W.mg_none_of X G z_max,
    n_min := PySem.W.mg_none_of X G z_min,
    n_sum := PySem.W.mg_none_of X G z_sum,
    n_all := PySem.W.mg_none_of X G z_all,
    n_sorted := PySem.W.mg_none_of X G z_sorted,
    n_repr := PySem.W.mg_none_of X G z_repr,
    n_ValueError := PySem.W.mg_none_of X G z_ValueError,
    v_MAX_SIZE := ⟨_, PySem.W.mg_of X G v_MAX_SIZE⟩ }⟩
end My
namespace My
open PySem L2 U StX
/-! ### values of any known form -/
def knownV (C : Addr) (H : Hp) : V → Prop
  | .non => True | .bl _ => True | .int _ => True | .str _ => True
  | .ref a => (∃ xs, H a = some (.lst xs)) ∨ (∃ xs, H a = some (.tup xs)) ∨ (∃ kvs, H a = some (.dK kvs)) ∨ ∃ dx fs, H a = some (.ins C dx fs)
  | _ => False
def isI : V → Bool | .int _ => true | _ => false
def isB : V → Bool | .bl _ => true | _ => false
def inR : V → Int → Int → Bool | .int i, a, b => decide (a ≤ i) && decide (i ≤ b) | _, _, _ => false
section
variable {P : Program} {w : World} {K : PySem.W.Frag} {mg : Str → Option Value} {base : Heap}
theorem tyx_ins {H : Hp} {a C dx : Addr} {fs : List (Str × V)} (o : OwnC K C) (e : H a = some (.ins C dx fs)) : TyX K H (.ref a) (.ref C) := .base (.ins e o.cl o.ca o.cn o.ct o.cm)
/-- the type of a known value, and what isinstance says of it -/
theorem ty_known (T : Txt K mg) {H : Hp} {x : V} (h : knownV T.C_Map H x) : ∃ t, TyX K H x t ∧ PySem.W.kitOne K t (.type "int") = some (isI x || isB x) ∧ PySem.W.kitOne K t (.type "bool") = some (isB x) := by
  cases x with
  | non => exact ⟨_, .base .non, kit_ty (r := false) (by decide +kernel), kit_ty (r := false) (by decide +kernel)⟩
  | bl b => exact ⟨_, .base (.bl b), kit_ty (r := true) (by decide +kernel), kit_ty (r := true) (by decide +kernel)⟩
  | int i => exact ⟨_, .base (.int i), kit_ty (r := true) (by decide +kernel), kit_ty (r := false) (by decide +kernel)⟩
  | str z => exact ⟨_, .base (.str z), kit_ty (r := false) (by decide +kernel), kit_ty (r := false) (by decide +kernel)⟩
  | ref a =>
    rcases h with ⟨xs, e⟩ | ⟨xs, e⟩ | ⟨xs, e⟩ | ⟨dx, fs, e⟩
    · exact ⟨_, .base (.lst e), kit_ty (r := false) (by decide +kernel), kit_ty (r := false) (by decide +kernel)⟩
    · exact ⟨_, .base (.tup e), kit_ty (r := false) (by decide +kernel), kit_ty (r := false) (by decide +kernel)⟩
    · exact ⟨_, .base (.dK e), kit_ty (r := false) (by decide +kernel), kit_ty (r := false) (by decide +kernel)⟩
    · exact ⟨_, tyx_ins T.o_Map e, T.kit_int_Map, T.kit_bool_Map⟩
  | byt b => exact h.elim
  | flt b => exact h.elim
  | ty b => exact h.elim
def spIsInt (C : Addr) : Sp := fun vs H Q _ => ∃ x, vs = [x] ∧ knownV C H x ∧ Q (.bl (isI x)) H
theorem ok_is_integer (T : Txt K mg) : FnR P w K mg base CX0 1 T.f_is_integer (spIsInt T.C_Map) := by
  refine T.A_is_integer.ok sc_is_integer (fun vs H Q E h => ?_) (fun cdv A outer s H vs Q E hr h => ?_)
  · obtain ⟨x, rfl, _⟩ := h
    rfl
  · obtain ⟨x, rfl, hx, q⟩ := h
    refine ⟨_, pss_one (ps_ret (pe_and (pe_callB call_isi (by rfl) T.n_isinstance (by decide +kernel) (pa_cons (pv 0) (pa_cons (pe_bltn (v := .ty "int") (u := .type "int") (by rfl) T.n_int (by decide +kernel) rfl) pa_nil)))
      (pe_one (pe_not (pe_callB call_isi (by rfl) T.n_isinstance (by decide +kernel) (pa_cons (pv 0) (pa_cons (pe_bltn (v := .ty "bool") (u := .type "bool") (by rfl) T.n_bool (by decide +kernel) rfl) pa_nil))))))), ?_⟩
    obtain ⟨t, ht, k1, k2⟩ := ty_known T hx
    refine ⟨_, rfl, x, _, t, _, _, rfl, .ty _, ht, k1, _, rfl, ?_⟩
    refine ifB (fun hc => ?_) (fun hc => ?_)
    · refine ⟨_, rfl, x, _, t, _, _, rfl, .ty _, ht, k2, _, rfl, ?_⟩
      have e : (!isB x) = isI x := by cases x <;> first | rfl | cases hc
      rw [e]
      exact q
    · have e : isI x = false := by cases x <;> first | rfl | cases hc
      rw [e] at q
      exact q
def spInR (C : Addr) : Sp := fun vs H Q _ => ∃ x a b, vs = [x, .int a, .int b] ∧ knownV C H x ∧ Q (.bl (inR x a b)) H
theorem ok_in_range (T : Txt K mg) : FnR P w K mg base CX0 2 T.f_in_range (spInR T.C_Map) := by
  refine T.A_in_range.ok sc_in_range (fun vs H Q E h => ?_) (fun cdv A outer s H vs Q E hr h => ?_)
  · obtain ⟨x, a, b, rfl, _⟩ := h
    rfl
  · obtain ⟨x, a, b, rfl, hx, q⟩ := h
    refine ⟨_, pss_one (ps_ret (pe_and (pe_callR (ok_is_integer T) hr T.A_is_integer.kp rfl T.g_is_integer pass0 (pa_cons (pv 0) pa_nil))
      (pe_one (pe_chain op_le op_le (pv 1) (pv 0) (pv 2))))), ?_⟩
    refine ⟨_, rfl, x, rfl, hx, _, rfl, ?_⟩
    cases x with
    | int i =>
      refine iteT ⟨_, rfl, _, rfl, _, _, rfl, rfl, _, rfl, ?_⟩
      refine ifD (fun h => ?_) (fun h => ?_)
      · refine ⟨_, rfl, _, _, rfl, rfl, ?_⟩
        have e : inR (.int i) a b = decide (i ≤ b) := by simp [inR, h]
        rw [e] at q
        exact q
      · have e : inR (.int i) a b = false := by simp [inR, h]
        rw [e] at q
        exact q
    | _ => exact iteF q
/-! ### the law's draws -/
def spDraw : Sp := fun vs H Q _ => ∃ (p : Addr) (a b n : Int), vs = [.ref p, .int n] ∧ H p = some (.lst [.int a, .int b]) ∧ 0 ≤ a ∧ 0 ≤ b ∧ b < 2147483647 ∧ 0 < n ∧ n < 1073741824 ∧
  ∀ a' b' r : Int, 0 ≤ a' → 0 ≤ b' → b' < 2147483647 → 0 ≤ r → r < n → Q (.int r) (upd H p (.lst [.int a', .int b']))
theorem ok_draw (T : Txt K mg) : FnR P w K mg base CX0 1 T.f_l_draw spDraw := by
  refine T.A_l_draw.ok sc_l_draw (fun vs H Q E h => ?_) (fun cdv A outer s H vs Q E hr h => ?_)
  · obtain ⟨p, a, b, n, rfl, _⟩ := h
    rfl
  · obtain ⟨p, a, b, n, rfl, hp, ha, hb, hb2, hn, hn2, k⟩ := h
    refine ⟨_, pss_cons (ps_if (pt_cmpR op_gt (pe_ix ix_list (pv 0) pe_int (fun _ _ => rfl)) pe_int (nomark _))
        (pss_cons (ps_set (i := 2) sc_l_draw.nd rfl (Or.inl rfl) (pe_op op_mod (pe_ix ix_list (pv 0) pe_int (fun _ _ => rfl)) (pv 1)))
        (pss_cons (ps_asg (pe_op op_fdiv (pe_ix ix_list (pv 0) pe_int (fun _ _ => rfl)) (pv 1)) (pg_sub (pv 0) pe_int set_list))
        (pss_one (ps_ret (pv 2))))) pss_nil)
      (pss_cons (ps_asg (pe_op op_mod (pe_op op_add (pe_op op_mul (pe_ix ix_list (pv 0) pe_int (fun _ _ => rfl)) pe_int) pe_int) pe_int) (pg_sub (pv 0) pe_int set_list))
      (pss_one (ps_ret (pe_op op_mod (pe_op op_fdiv (pe_op op_mod (pe_op op_mul (pe_ix ix_list (pv 0) pe_int (fun _ _ => rfl)) (pe_ix ix_list (pv 0) pe_int (fun _ _ => rfl))) pe_int) pe_int) (pv 1))))), ?_⟩
    refine ⟨_, rfl, p, _, 0, _, rfl, rfl, SqL.of hp, rfl, _, _, rfl, rfl, _, rfl, ?_⟩
    refine ifD (fun h => ?_) (fun h => ?_)
    · refine ⟨_, rfl, p, _, 0, _, rfl, rfl, SqL.of hp, rfl, _, rfl, _, _, rfl, rfl, hn, ?_⟩
      refine ⟨_, rfl, p, _, 0, _, rfl, rfl, SqL.of hp, rfl, _, rfl, _, _, rfl, rfl, ⟨hn, hn2⟩, _, rfl, p, _, 0, _, rfl, rfl, hp, rfl, ?_⟩
      refine ⟨_, rfl, ?_⟩
      exact k (a / n) b (a % n) (Int.ediv_nonneg ha (by omega)) hb hb2 (Int.emod_nonneg _ (by omega)) (Int.emod_lt_of_pos _ hn)
    · have m1 : 0 ≤ (b * 48271 + 11) % 2147483647 := Int.emod_nonneg _ (by decide)
      have m2 : (b * 48271 + 11) % 2147483647 < 2147483647 := Int.emod_lt_of_pos _ (by decide)
      refine ⟨_, rfl, p, _, 1, _, rfl, rfl, SqL.of hp, rfl, _, _, rfl, rfl, .inr ⟨by decide, by decide⟩, _, _, rfl, rfl, _, _, rfl, rfl, (by show (0 : Int) < 2147483647; decide), _, rfl, p, _, 1, _, rfl, rfl, hp, rfl, ?_⟩
      refine ⟨_, rfl, p, _, 1, _, rfl, rfl, SqL.of upd_same, rfl, _, rfl, p, _, 1, _, rfl, rfl, SqL.of upd_same, rfl, _, _, rfl, rfl, .inl ⟨by omega, by omega⟩, _, _, rfl, rfl, (by show (0 : Int) < 2147483629; decide), _, _, rfl, rfl, ⟨by decide, by decide⟩, _, rfl, _, _, rfl, rfl, hn, ?_⟩
      exact k a ((b * 48271 + 11) % 2147483647) _ ha m1 m2 (Int.emod_nonneg _ (by omega)) (Int.emod_lt_of_pos _ hn)
end
end My
namespace My
open PySem L2 U StX PM
section
variable {P : Program} {w : World} {K : PySem.W.Frag} {mg : Str → Option Value} {base : Heap}
theorem head_int (xs : List V) (h : ∀ v ∈ xs, ∃ i, v = V.int i) : ∃ c, atI (xs ++ [V.int 0]) 0 = some (V.int c) := by
  cases xs with
  | nil => exact ⟨0, rfl⟩
  | cons a r =>
    obtain ⟨i, rfl⟩ := h a List.mem_cons_self
    refine ⟨i, atI_nat (j := 0) ?_⟩
    rfl
theorem cut_int (ns : List Int) (lo hi : Option Int) : ∀ v ∈ cutV (ns.map V.int) lo hi, ∃ i, v = V.int i := by
  intro v hv
  unfold cutV at hv
  have h1 := List.mem_of_mem_drop (List.mem_of_mem_take hv)
  obtain ⟨i, _, rfl⟩ := List.mem_map.mp h1
  exact ⟨i, rfl⟩
def spHand (K : PySem.W.Frag) : Sp := fun vs H Q _ => ∃ (a : Addr) (ns : List Int) (k : Int), vs = [.ref a, .int k] ∧ SqL K H a (ns.map V.int) ∧ ns.length ≤ 63 ∧
  ∀ p H' x y, H p = none → H' p = some (.lst [.int x, .int y]) → Same H H' → 0 ≤ x → 0 ≤ y → y < 2147483647 → Q (.ref p) H'
theorem ok_hand (T : Txt K mg) : FnR P w K mg base CX0 1 T.f_l_hand (spHand K) := by
  refine T.A_l_hand.ok sc_l_hand (fun vs H Q E h => ?_) (fun cdv A outer s H vs Q E hr h => ?_)
  · obtain ⟨a, ns, k, rfl, _⟩ := h
    rfl
  · obtain ⟨a, ns, k, rfl, hS, hl, q⟩ := h
    refine ⟨_, pss_cons (ps_set (i := 2) sc_l_hand.nd rfl (Or.inl rfl) (pe_ix ix_list (pe_op op_cat (pe_slice sl_list (pv 0) (po_some (pv 1)) (po_some (pe_op op_add (pv 1) pe_int))) (pe_lst (pa_cons pe_int pa_nil))) pe_int (fun _ _ => rfl)))
      (pss_cons (ps_set (i := 3) sc_l_hand.nd rfl (Or.inl rfl) (pe_op op_mod (pe_op op_mul (pe_op op_add (pe_op op_add (pe_op op_mod (pv 2) pe_int) (pe_op op_mul pe_int (pv 1))) pe_int) pe_int) pe_int))
      (pss_one (ps_ret (pe_lst (pa_cons (pe_op op_mul (pe_callTy call_int1 (by rfl) T.n_int (by decide +kernel) (pa_cons (pe_cmpR op_ge (pv 2) (pe_op op_pow pe_int pe_int) (nomark _)) pa_nil)) (pv 2)) (pa_cons (pv 3) pa_nil)))))), ?_⟩
    refine ⟨_, rfl, _, rfl, _, rfl, _, rfl, _, _, rfl, rfl, _, rfl, a, _, rfl, hS, fun p1 n1 => ?_⟩
    refine ⟨(by show 1 ≤ sizeLine; decide), fun p2 n2 => ?_⟩
    have n12 : p1 ≠ p2 := ne_of_none upd_same n2
    have hcl := cutV_length (ns.map V.int) (some k) (some (k + 1))
    rw [List.length_map] at hcl
    refine ⟨p1, p2, cutV (ns.map V.int) (some k) (some (k + 1)), [.int 0], rfl, rfl, (by rw [upd_ne n12, upd_same]), upd_same, ?_, fun p3 n3 => ?_⟩
    · show _ + 1 ≤ sizeLine
      exact Nat.le_trans (by omega : _ ≤ 64) (by decide)
    obtain ⟨c, hc⟩ := head_int _ (cut_int ns (some k) (some (k + 1)))
    refine ⟨p3, _, 0, .int c, rfl, rfl, SqL.of upd_same, hc, ?_⟩
    refine ⟨_, rfl, _, _, rfl, rfl, (by show (0 : Int) < 2147483647; decide), _, rfl, _, _, rfl, rfl, .inl ⟨by decide, by decide⟩, _, _, rfl, rfl, _, _, rfl, rfl, _, _, rfl, rfl, .inr ⟨by decide, by decide⟩, _, _, rfl, rfl, (by show (0 : Int) < 2147483629; decide), ?_⟩
    refine ⟨_, rfl, _, _, rfl, rfl, ⟨by decide, by decide, by decide⟩, _, _, rfl, rfl, .inr ⟨_, rfl, _, rfl, _, _, rfl, rfl, .inl ?_, _, rfl, (by show 2 ≤ sizeLine; decide), fun p4 n4 => ?_⟩⟩
    · cases decide ((10 : Int) ^ (18 : Int).toNat ≤ c) <;> exact ⟨by decide, by decide⟩
    · have s3 := ((Same.new (o := .lst (cutV (ns.map V.int) (some k) (some (k + 1)))) n1).trans (Same.new (o := .lst [.int 0]) n2)).trans (Same.new (o := .lst (cutV (ns.map V.int) (some k) (some (k + 1)) ++ [.int 0])) n3)
      refine q p4 _ _ _ (s3.free n4) upd_same (s3.trans (Same.new n4)) ?_ (Int.emod_nonneg _ (by decide)) ?_
      · cases hd : decide ((10 : Int) ^ (18 : Int).toNat ≤ c) with
        | true =>
          have := of_decide_eq_true hd
          have h10 : (0 : Int) ≤ 10 ^ (18 : Int).toNat := by decide
          show 0 ≤ 1 * c
          omega
        | false => show 0 ≤ 0 * c; omega
      · have := Int.emod_lt_of_pos ((c % 2147483647 + 7919 * k + 1) * 48271) (show (0 : Int) < 2147483629 by decide)
        omega
end
end My
namespace My
open PySem L2 U StX PM
section
variable {P : Program} {w : World} {K : PySem.W.Frag} {mg : Str → Option Value} {base : Heap}
def rowOk (n : Int) (p : Int × Int) : Bool := inR (.int p.1) 0 (n - 1) && inR (.int p.2) 0 (n - 1)
def okArr (n : Int) (l : List (Int × Int)) : Bool := l.all (rowOk n) && decide (l.map (·.2)).Nodup
def tgt (l : List (Int × Int)) : List (Key × V) := l.map fun p => (Sum.inl p.2, V.bl true)
theorem tgt_key {l : List (Int × Int)} {y : Int} : (Sum.inl y : Key) ∈ (tgt l).map (·.1) ↔ y ∈ l.map (·.2) := by
  unfold tgt
  rw [List.map_map]
  constructor
  · intro h
    obtain ⟨p, hp, e⟩ := List.mem_map.mp h
    exact List.mem_map.mpr ⟨p, hp, Sum.inl.inj e⟩
  · intro h
    obtain ⟨p, hp, e⟩ := List.mem_map.mp h
    exact List.mem_map.mpr ⟨p, hp, congrArg Sum.inl e⟩
theorem tgt_val {l : List (Int × Int)} {y : Int} : (valV (tgt l) (Sum.inl y : Key)).isSome = decide (y ∈ l.map (·.2)) := by
  by_cases h : y ∈ l.map (·.2)
  · have h' := tgt_key.mpr h
    rw [decide_eq_true h]
    cases e : valV (tgt l) (Sum.inl y : Key) with
    | some v => rfl
    | none =>
      obtain ⟨p, hp, e2⟩ := List.mem_map.mp h'
      exfalso
      unfold valV at e
      rw [Option.map_eq_none_iff, List.find?_eq_none] at e
      exact e p hp (by simp [e2])
  · rw [decide_eq_false h, valV_none fun z => h (tgt_key.mp z)]
    rfl
theorem okArr_step {n : Int} {l : List (Int × Int)} {i : Nat} {p : Int × Int} (h : l[i]? = some p) : okArr n (l.take (i + 1)) = (okArr n (l.take i) && (rowOk n p && !decide (p.2 ∈ (l.take i).map (·.2)))) := by
  rw [take_more h]
  unfold okArr
  rw [List.all_append, List.map_append]
  have e : decide (((l.take i).map (·.2) ++ [p].map (·.2)).Nodup) = (decide ((l.take i).map (·.2)).Nodup && !decide (p.2 ∈ (l.take i).map (·.2))) := by
    rw [Bool.eq_iff_iff]
    simp only [decide_eq_true_eq, Bool.and_eq_true, Bool.not_eq_true', decide_eq_false_iff_not]
    rw [List.nodup_append]
    constructor
    · rintro ⟨h1, _, h2⟩
      exact ⟨h1, fun hm => h2 _ hm _ (by simp) rfl⟩
    · rintro ⟨h1, h2⟩
      refine ⟨h1, by simp, fun a ha b hb e => ?_⟩
      simp at hb
      subst hb
      exact h2 (e ▸ ha)
  rw [e]
  simp only [List.all_cons, List.all_nil, Bool.and_true]
  cases (l.take i).all (rowOk n) <;> cases rowOk n p <;> cases decide ((l.take i).map (·.2)).Nodup <;> simp
theorem okArr_cut {n : Int} {l : List (Int × Int)} {i : Nat} (h : okArr n (l.take i) = false) : okArr n l = false := by
  cases e : okArr n l with
  | false => rfl
  | true =>
    unfold okArr at e h
    rw [Bool.and_eq_true] at e
    have h1 : (l.take i).all (rowOk n) = true := by
      rw [List.all_eq_true] at e ⊢
      exact fun p hp => e.1 p (List.mem_of_mem_take hp)
    have h2 : ((l.take i).map (·.2)).Nodup := by
      have := of_decide_eq_true e.2
      rw [List.map_take]
      exact List.Sublist.nodup (List.take_sublist _ _) this
    rw [h1, decide_eq_true h2] at h
    cases h
def spArr : Sp := fun vs H Q _ => ∃ (n : Int) (d : Addr) (l : List (Int × Int)), vs = [.int n, .ref d] ∧ H d = some (.dK (kvI l)) ∧ l.length ≤ 1000 ∧ ∀ H', Same H H' → Q (.bl (okArr n l)) H'
theorem ok_are_arrows (T : Txt K mg) : FnR P w K mg base CX0 3 T.f_are_arrows spArr := by
  refine T.A_are_arrows.ok sc_are_arrows (fun vs H Q E h => ?_) (fun cdv A outer s H vs Q E hr h => ?_)
  · obtain ⟨n, d, l, rfl, _⟩ := h
    rfl
  · obtain ⟨n, d, l, rfl, hd, hl, q⟩ := h
    have hu := hu_of hr
    refine ⟨_, pss_cons (ps_if (pt_not (pt_val (pe_callB call_isi (by rfl) T.n_isinstance (by decide +kernel) (pa_cons (pv 1) (pa_cons (pe_bltn (v := .ty "dict") (u := .type "dict") (by rfl) T.n_dict (by decide +kernel) rfl) pa_nil))))) (pss_one (ps_ret pe_bl)) pss_nil)
      (pss_cons (ps_set (i := 2) sc_are_arrows.nd rfl (Or.inl rfl) pe_dnewK)
      (pss_cons (ps_lock (ps_for PassesOwn.never rfl (pi_items (pv 1)) (pg_tup rfl (pgs_cons (pg_name (i := 3) sc_are_arrows.nd rfl (Or.inl rfl)) (pgs_cons (pg_name (i := 4) sc_are_arrows.nd rfl (Or.inl rfl)) pgs_nil)))
        (pss_cons (ps_if (PW.pt (pw_or (pt_not (pt_val (pe_callR (ok_in_range T) hr T.A_in_range.kp rfl T.g_in_range pass0 (pa_cons (pv 3) (pa_cons pe_int (pa_cons (pe_op op_sub (pv 0) pe_int) pa_nil))))))
            (pw_or (pt_not (pt_val (pe_callR (ok_in_range T) hr T.A_in_range.kp rfl T.g_in_range pass0 (pa_cons (pv 4) (pa_cons pe_int (pa_cons (pe_op op_sub (pv 0) pe_int) pa_nil))))))
            (pw_or1 (pt_cmp (pc_din hu (pv 4) (pv 2))))))) (pss_one (ps_ret pe_bl)) pss_nil)
        (pss_one (ps_dput hu (pv 2) (pv 4) pe_bl rfl)))))
      (pss_one (ps_ret pe_bl)))), ?_⟩
    refine ⟨_, rfl, _, _, _, _, true, rfl, .ty _, .base (.dK hd), kit_ty (by decide +kernel), _, rfl, ?_⟩
    refine iteF ?_
    intro t ht
    have ntd : t ≠ d := fun e => by rw [e, hd] at ht; cases ht
    have hd1 : (upd H t (.dK [])) d = some (.dK (kvI l)) := by rw [upd_ne ntd.symm]; exact hd
    refine ⟨d, _, hd1, trivial, fun od => ?_⟩
    refine ⟨_, rfl, d, od, kvI l, rfl, upd_same, ?_⟩
    refine for_it walk_items (fun i σ H' => ∃ v3 v4, σ = [some (.int n), some (.ref d), some (.ref t), v3, v4] ∧ H' d = some (.frz od (.dK (kvI l))) ∧ Off d H H' ∧ H' t = some (.dK (tgt (l.take i))) ∧ okArr n (l.take i) = true)
      ⟨none, none, rfl, upd_same, (Off.new ht).tr Off.lock, (by rw [upd_ne ntd]; exact upd_same), rfl⟩ (fun i σ H' _ ⟨_, _, _, p, _⟩ => p) ?_ ?_
    · rintro i v σ H' H'' hi ⟨v3, v4, rfl, p1, p2, p3, p4⟩ ⟨U, a, b, rfl, hU, rfl, e1, e2⟩
      rw [kvI_length] at hi
      obtain ⟨⟨x, y⟩, exy⟩ : ∃ p, l[i]? = some p := ⟨_, List.getElem?_eq_getElem hi⟩
      have ek : (kvI l)[i]? = some (Sum.inl x, V.int y) := by unfold kvI; rw [List.getElem?_map, exy]; rfl
      dsimp only at e1 e2
      rw [ek] at e1 e2
      cases e1; cases e2
      have nUd : d ≠ U := ne_of_none p1 hU
      have nUt : t ≠ U := ne_of_none p3 hU
      have d3 : (upd H' U (.tup [kV (Sum.inl x), .int y])) d = some (.frz od (.dK (kvI l))) := by rw [upd_ne nUd]; exact p1
      have t3 : (upd H' U (.tup [kV (Sum.inl x), .int y])) t = some (.dK (tgt (l.take i))) := by rw [upd_ne nUt]; exact p3
      have o3 : Off d H (upd H' U (.tup [kV (Sum.inl x), .int y])) := p2.tr (Off.new hU)
      have bad : (rowOk n (x, y) && !decide (y ∈ (l.take i).map (·.2))) = false → Q (.bl false) (upd (upd H' U (.tup [kV (Sum.inl x), .int y])) d (.dK (kvI l))) := by
        intro hb
        have h1 := okArr_step (n := n) exy
        rw [p4, hb] at h1
        have := q _ (o3.back hd)
        rw [okArr_cut h1] at this
        exact this
      refine ⟨U, [.int x, .int y], rfl, SqT.of upd_same, rfl, .int x, [.int y], rfl, .int y, [], rfl, rfl, ?_⟩
      refine ⟨_, rfl, _, rfl, _, _, rfl, rfl, .int x, 0, n - 1, rfl, trivial, _, rfl, ?_⟩
      refine ifNB (fun hc => iteT ⟨d3, bad ?_⟩) (fun hc => ?_)
      · simp [rowOk, hc]
      refine ⟨_, rfl, _, rfl, _, _, rfl, rfl, .int y, 0, n - 1, rfl, trivial, _, rfl, ?_⟩
      refine ifNB (fun hc2 => iteT ⟨d3, bad ?_⟩) (fun hc2 => ?_)
      · simp [rowOk, hc2]
      refine ⟨_, rfl, _, rfl, t, _, rfl, DGet.k (k := Sum.inl y) t3, _, rfl, ?_⟩
      rw [tgt_val]
      refine ifD (fun hm => ⟨d3, bad ?_⟩) (fun hm => ?_)
      · rw [decide_eq_true hm]; simp
      have hlen : (tgt (l.take i)).length ≤ 1000 := by unfold tgt; rw [List.length_map, List.length_take]; omega
      refine ⟨_, rfl, _, rfl, t, _, rfl, DPut.k (k := Sum.inl y) t3 (small1000 hlen), ?_⟩
      refine ⟨_, _, rfl, ?_, o3.mut ht, ?_, ?_⟩
      · rw [upd_ne ntd.symm]; exact d3
      · rw [upd_same, putK_new _ (valV_none fun z => hm (tgt_key.mp z)), take_more exy]
        unfold tgt
        rw [List.map_append]
        rfl
      · rw [okArr_step exy, p4, decide_eq_false hm]
        simp [rowOk, hc, hc2]
    · rintro σ H' ⟨v3, v4, rfl, p1, p2, p3, p4⟩
      rw [kvI_length, List.take_length] at p4
      have := q _ (p2.back hd)
      rw [p4] at this
      exact ⟨p1, this⟩
end
end My
namespace My
open PySem L2 U StX PM
section
variable {P : Program} {w : World} {K : PySem.W.Frag} {mg : Str → Option Value} {base : Heap}
theorem ne_fld : ¬ (("own_size" : Str) = "own_arrows") := by decide +kernel
/-- a map's attributes -/
def flds (n : Int) (D : Addr) : List (Str × V) := putF "own_arrows" (.ref D) (putF "own_size" (.int n) [])
theorem flds_size (n : Int) (D : Addr) : (flds n D).lookup ("own_size" : Str) = some (.int n) := by
  unfold flds
  rw [lookup_putF, if_neg ne_fld, lookup_putF, if_pos rfl]
theorem flds_arrows (n : Int) (D : Addr) : (flds n D).lookup ("own_arrows" : Str) = some (.ref D) := by
  unfold flds
  rw [lookup_putF, if_pos rfl]
/-- a Map of n elements stands at m: the map f -/
structure IsMap (C : Addr) (H : Hp) (m : Addr) (n : Int) (f : PF) : Prop where
  ob : ∃ dx D, H m = some (.ins C dx (flds n D)) ∧ H D = some (.dK (kvI (tab n f)))
  wf : WF n f
  lo : 1 ≤ n
  hi : n ≤ 300
theorem IsMap.same {C : Addr} {H H' : Hp} {m : Addr} {n : Int} {f : PF} (a : IsMap C H m n f) (s : Same H H') : IsMap C H' m n f := by
  obtain ⟨⟨dx, D, h1, h2⟩, wf, lo, hi⟩ := a
  exact ⟨⟨dx, D, s _ _ h1, s _ _ h2⟩, wf, lo, hi⟩
theorem okArr_of {n : Int} {l : List (Int × Int)} {f : PF} (d : DI l f) (w : WF n f) : okArr n l = true := by
  unfold okArr
  rw [Bool.and_eq_true]
  refine ⟨List.all_eq_true.mpr fun p hp => ?_, decide_eq_true (d.vals w)⟩
  obtain ⟨x, y⟩ := p
  have h := w.dom x y (d.mem.mp hp)
  simp only [rowOk, inR, Bool.and_eq_true, decide_eq_true_eq]
  omega
theorem madeR_tab {l : List (Int × Int)} {f : PF} (d : DI l f) (n : Nat) : madeR (fun k => (lk l k).isSome) (fun x => x) (fun k => ((lk l k).map V.int).getD .non) n = kvI (tabN f n) := by
  induction n with
  | zero => rfl
  | succ n ih =>
    rw [madeR_succ, ih]
    have e : tabN f (n + 1) = tabN f n ++ ((f (n : Int)).map fun y => ((n : Int), y)).toList := by
      unfold tabN
      rw [List.range_succ, List.filterMap_append]
      cases h : f (n : Int) <;> simp [h]
    rw [e, d.at_]
    cases h : f (n : Int) with
    | none => simp
    | some y => simp [kvI]
def spInit (C : Addr) : Sp := fun vs H Q _ => ∃ (p dx d : Addr) (n : Int) (l : List (Int × Int)) (f : PF), vs = [.ref p, .int n, .ref d] ∧ H p = some (.ins C dx []) ∧ H d = some (.dK (kvI l)) ∧ DI l f ∧ WF n f ∧ 1 ≤ n ∧ n ≤ 300 ∧ l.length ≤ 1000 ∧
  ∀ (H' : Hp) (D : Addr), Off p H H' → H D = none → H' p = some (.ins C dx (flds n D)) → H' D = some (.dK (kvI (tab n f))) → Q .non H'
theorem ok_init (T : Txt K mg) : FnR P w K mg base CX0 4 T.f_Map__init (spInit T.C_Map) := by
  refine T.A_Map__init.ok sc_Map__init (fun vs H Q E h => ?_) (fun cdv A outer s H vs Q E hr h => ?_)
  · obtain ⟨p, dx, d, n, l, f, rfl, _⟩ := h
    rfl
  · obtain ⟨p, dx, d, n, l, f, rfl, hp, hd, di, wf, h1, h3, hl, q⟩ := h
    have hu := hu_of hr
    obtain ⟨tk, hms⟩ := T.v_MAX_SIZE
    refine ⟨_, pss_cons (ps_if (pt_not (pt_val (pe_callR (ok_in_range T) (hr.mono (by decide)) T.A_in_range.kp rfl T.g_in_range pass0 (pa_cons (pv 1) (pa_cons pe_int (pa_cons (pe_glob (v := .int 300) rfl hms ⟨_, rfl⟩) pa_nil)))))) (pss_one ps_never) pss_nil)
      (pss_cons (ps_if (pt_not (pt_val (pe_callR (ok_are_arrows T) hr T.A_are_arrows.kp rfl T.g_are_arrows pass0 (pa_cons (pv 1) (pa_cons (pv 2) pa_nil))))) (pss_one ps_never) pss_nil)
      (pss_cons (ps_fld (pv 0) (pv 1) rfl)
      (pss_one (ps_fld (pv 0) (pe_dc (own := [("source", 3)]) (g := gName 3) rfl sc_Map__init.nd (pi_range1 rfl T.n_range (pa_cons (pv 1) pa_nil)) (blkOk_by (own := [("source", 3)]) (N := n_Map__init) (sc := defScope s_Map__init) (by decide +kernel))
        (fun _ _ _ _ _ => pg_name (i := 3) sc_Map__init.nd rfl (Or.inl rfl)) (fun _ _ _ _ _ => pts_one (pt_cmp (pc_din hu (pv 3) (pv 2)))) (fun _ _ _ _ _ => pv 3) (fun _ _ _ _ _ => pe_dget hu (pv 2) (pv 3) (fun _ _ => rfl))) rfl)))), ?_⟩
    refine ⟨_, rfl, .int n, 1, 300, rfl, trivial, _, rfl, ?_⟩
    have e1 : inR (.int n) 1 300 = true := by simp [inR, h1, h3]
    rw [e1]
    refine iteF ⟨_, rfl, _, rfl, n, d, l, rfl, hd, hl, fun H1 s1 => ⟨_, rfl, ?_⟩⟩
    rw [okArr_of di wf]
    refine iteF ?_
    have hp1 := s1 _ _ hp
    have npd : p ≠ d := ne_of hp hd (by intro z; cases z)
    refine ⟨_, rfl, _, rfl, p, T.C_Map, dx, [], rfl, hp1, T.o_Map.cl, T.na_own_size_Map, (by show 0 < 1000; decide), ?_⟩
    have hd1 : (upd H1 p (.ins T.C_Map dx (putF "own_size" (.int n) []))) d = some (.dK (kvI l)) := by rw [upd_ne npd.symm]; exact s1 _ _ hd
    dsimp only [sFld]
    refine dc_range (n := n.toNat) (fun k => (lk l k).isSome) (fun k => ((lk l k).map V.int).getD .non) (fun R r => ⟨_, rfl, n, rfl, by omega, by omega, r⟩) (fun _ => rfl) ?_ (small1000 (by omega)) ?_
    · intro k hk H2 s2
      have hd2 := s2 _ _ hd1
      refine ⟨fun R r => ?_, fun hc => ⟨fun R r => ?_, fun R r => ?_⟩⟩
      · refine ⟨_, rfl, _, rfl, d, _, rfl, DGet.k (k := Sum.inl (0 + (k : Int))) hd2, _, rfl, ?_⟩
        rw [valV_kvI, Option.isSome_map, Int.zero_add]
        exact r
      · refine ⟨_, rfl, ?_⟩
        rw [Int.zero_add]
        exact r
      · cases hv : lk l (k : Int) with
        | none => rw [hv] at hc; cases hc
        | some y =>
          rw [hv] at r
          refine ⟨_, rfl, _, rfl, d, .int y, rfl, ?_, r⟩
          have := DGet.k (k := Sum.inl (0 + (k : Int))) hd2
          rw [valV_kvI, Int.zero_add, hv] at this
          rw [Int.zero_add]
          exact this
    · intro D H2 nD hD s2
      rw [madeR_tab di] at hD
      have hp2 := s2 _ _ (upd_same : (upd H1 p (.ins T.C_Map dx (putF "own_size" (.int n) []))) p = _)
      refine ⟨_, rfl, p, T.C_Map, dx, _, rfl, hp2, T.o_Map.cl, T.na_own_arrows_Map, (by show 1 < 1000; decide), ?_⟩
      have nDp : D ≠ p := fun e => by rw [e, upd_same] at nD; cases nD
      have nD1 : H1 D = none := by rw [upd_ne nDp] at nD; exact nD
      refine q _ D (fun b o hb e => ?_) (s1.free nD1) upd_same ?_
      · rw [upd_ne hb]
        refine s2 _ _ ?_
        rw [upd_ne hb]
        exact s1 _ _ e
      · rw [upd_ne nDp]
        exact hD
end
end My
namespace My
open PySem L2 U StX PM
/-! ### what a comprehension over pairs of ints makes -/
section
variable {P : Program} {w : World} {K : PySem.W.Frag} {mg : Str → Option Value} {base : Heap}
/-! ### size, arrows, common_size -/
def spSize (C : Addr) : Sp := fun vs H Q _ => ∃ m n f, vs = [.ref m] ∧ IsMap C H m n f ∧ Q (.int n) H
theorem ok_size (T : Txt K mg) : FnR P w K mg base CX0 1 T.f_Map_size (spSize T.C_Map) := by
  refine T.A_Map_size.ok sc_Map_size (fun vs H Q E h => ?_) (fun cdv A outer s H vs Q E hr h => ?_)
  · obtain ⟨m, n, f, rfl, _⟩ := h
    rfl
  · obtain ⟨m, n, f, rfl, ⟨⟨dx, D, h1, h2⟩, _⟩, q⟩ := h
    refine ⟨_, pss_one (ps_ret (pe_fld (pv 0) rfl)), ?_⟩
    exact ⟨_, rfl, m, _, dx, _, _, rfl, h1, T.o_Map.cl, T.na_own_size_Map, flds_size _ _, q⟩
def spArrows (C : Addr) : Sp := fun vs H Q _ => ∃ m n f, vs = [.ref m] ∧ IsMap C H m n f ∧ ∀ p, H p = none → Q (.ref p) (upd H p (.dK (kvI (tab n f))))
theorem ok_arrows (T : Txt K mg) : FnR P w K mg base CX0 1 T.f_Map_arrows (spArrows T.C_Map) := by
  refine T.A_Map_arrows.ok sc_Map_arrows (fun vs H Q E h => ?_) (fun cdv A outer s H vs Q E hr h => ?_)
  · obtain ⟨m, n, f, rfl, _⟩ := h
    rfl
  · obtain ⟨m, n, f, rfl, ⟨⟨dx, D, h1, h2⟩, _⟩, q⟩ := h
    refine ⟨_, pss_one (ps_ret (pe_callTy call_dictD (by rfl) T.n_dict (by decide +kernel) (pa_cons (pe_fld (pv 0) rfl) pa_nil))), ?_⟩
    exact ⟨_, rfl, m, _, dx, _, _, rfl, h1, T.o_Map.cl, T.na_own_arrows_Map, flds_arrows _ _, D, _, rfl, Rd.of h2, q⟩
theorem at_map {C : Addr} {H : Hp} {m : Addr} {n : Int} {f : PF} (h : IsMap C H m n f) : ∃ dx fs, H m = some (.ins C dx fs) := by
  obtain ⟨⟨dx, D, h1, _⟩, _⟩ := h
  exact ⟨dx, _, h1⟩
/-! ### the operators -/
end
end My
namespace My
open PySem L2 U StX PM
section
variable {P : Program} {w : World} {K : PySem.W.Frag} {mg : Str → Option Value} {base : Heap}
/-! ### ~f -/
/-! ### f & g, f - g -/
theorem isD_of {H : Hp} {a : Addr} {kvs : List (Key × V)} (h : H a = some (.dK kvs)) : IsD H a := by
  first | exact .inl ⟨_, .inl h⟩ | exact ⟨_, .inl h⟩ | exact .inl ⟨_, h⟩ | exact .inr (.inl ⟨_, h⟩)
end
end My
namespace My
open PySem L2 U StX PM
section
variable {P : Program} {w : World} {K : PySem.W.Frag} {mg : Str → Option Value} {base : Heap}
/-! ### is_part, <=, <, >= -/
/-! ### == -/
theorem nd_of_map {α β : Type} (h : α → β) : ∀ {l : List α}, (l.map h).Nodup → l.Nodup
  | [], _ => List.nodup_nil
  | a :: r, nd => by
    rw [List.map_cons, List.nodup_cons] at nd
    exact List.nodup_cons.mpr ⟨fun hm => nd.1 (List.mem_map.mpr ⟨a, hm, rfl⟩), nd_of_map h nd.2⟩
end
end My
namespace My
open PySem L2 U StX PM
section
variable {P : Program} {w : World} {K : PySem.W.Frag} {mg : Str → Option Value} {base : Heap}
theorem di_id (N : Nat) : DI ((List.range N).map fun (i : Nat) => ((i : Int), (i : Int))) (idn (N : Int)) := by
  refine di_of ?_ fun a b => ?_
  · rw [List.map_map]
    have : ∀ n : Nat, ((List.range n).map ((fun p : Int × Int => p.1) ∘ fun (i : Nat) => ((i : Int), (i : Int)))).Nodup := by
      intro n
      induction n with
      | zero => exact List.nodup_nil
      | succ n ih =>
        rw [List.range_succ, List.map_append, List.nodup_append]
        refine ⟨ih, by simp, fun a ha b hb e => ?_⟩
        obtain ⟨i, hi, rfl⟩ := List.mem_map.mp ha
        rw [List.mem_range] at hi
        simp at hb
        have e' : (i : Int) = b := e
        omega
    exact this N
  · rw [List.mem_map]
    unfold idn
    constructor
    · rintro ⟨i, hi, e⟩
      rw [List.mem_range] at hi
      cases e
      rw [if_pos ⟨by omega, by omega⟩]
    · intro h
      split at h
      · rename_i hc
        cases h
        exact ⟨a.toNat, List.mem_range.mpr (by omega), by rw [Int.toNat_of_nonneg hc.1]⟩
      · cases h
/-! ### first_clash where there is none, | -/
end
end My
namespace My
open PySem L2 U StX PM
section
variable {P : Program} {w : World} {K : PySem.W.Frag} {mg : Str → Option Value} {base : Heap}
theorem dgetI {H : Hp} {d : Addr} {l : List (Int × Int)} {f : PF} (h : H d = some (.dK (kvI l))) (di : DI l f) (x : Int) : DGet H d (.int x) ((f x).map V.int) := by
  have := DGet.k (k := Sum.inl x) h
  rw [valV_kvI, di.2] at this
  exact this
theorem lastI (pre : List Int) (z : Int) : atI ((pre ++ [z]).map V.int) (-1) = some (V.int z) := by
  rw [List.map_append]
  exact atI_last _ _
def spRow : Sp := fun vs H Q _ => ∃ d l n f e, vs = [.ref d, .int e] ∧ H d = some (.dK (kvI l)) ∧ DI l f ∧ WF n f ∧ n ≤ 300 ∧ 0 ≤ e ∧ e < n ∧
  ∀ r H' pre z, H r = none → Same H H' → H' r = some (.lst ((pre ++ [z]).map V.int)) → Row f e (pre ++ [z]) → (f z = none ∨ f z = some e) → Q (.ref r) H'
theorem ok_row_from (T : Txt K mg) : FnR P w K mg base CX0 1 T.f_row_from spRow := by
  refine T.A_row_from.ok sc_row_from (fun vs H Q E h => ?_) (fun cdv A outer s H vs Q E hr h => ?_)
  · obtain ⟨d, l, n, f, e, rfl, _⟩ := h
    rfl
  · obtain ⟨d, l, n, f, e, rfl, hd, di, wf, hn, e0, e1, q⟩ := h
    have hu := hu_of hr
    refine ⟨_, pss_cons (ps_set (i := 2) sc_row_from.nd rfl (Or.inl rfl) (pe_lst (pa_cons (pv 1) pa_nil)))
      (pss_cons (ps_while PassesOwn.never (PW.pt (pw_and (pt_cmp (pc_din hu (pe_ix ix_list (pv 2) (pe_un un_neg pe_int) (fun _ _ => rfl)) (pv 0)))
          (pw_and1 (pt_cmpR op_ne (pe_dget hu (pv 0) (pe_ix ix_list (pv 2) (pe_un un_neg pe_int) (fun _ _ => rfl)) (fun _ _ => rfl)) (pv 1) (nomark _)))))
        (pss_one (ps_expr (pe_bm PySem.F.plainAttrs_list PySem.F.slot_list_append PySem.F.type_list_append mt_append (pv 2) (pa_cons (pe_dget hu (pv 0) (pe_ix ix_list (pv 2) (pe_un un_neg pe_int) (fun _ _ => rfl)) (fun _ _ => rfl)) pa_nil)))))
      (pss_one (ps_ret (pv 2)))), ?_⟩
    refine ⟨_, rfl, (by show 1 ≤ sizeLine; decide), fun r hr0 => ?_⟩
    have row0 : Row f e ([] ++ [e]) := ⟨rfl, fun i a b h1 h2 => by simp at h2⟩
    refine ⟨fun m σ H' => ∃ pre z, σ = [some (.ref d), some (.int e), some (.ref r)] ∧ H' r = some (.lst ((pre ++ [z]).map V.int)) ∧ Same H H' ∧ Row f e (pre ++ [z]) ∧ m = 300 - pre.length, ⟨300, [], e, rfl, upd_same, Same.new hr0, row0, rfl⟩, ?_⟩
    rintro m σ H' ⟨pre, z, rfl, p1, p2, p3, rfl⟩
    have hd' := p2 _ _ hd
    have hlen := len_range (p3.nd wf) (p3.dom wf e0 e1)
    rw [List.length_append, List.length_singleton] at hlen
    refine ⟨_, rfl, 1, rfl, r, _, -1, .int z, rfl, rfl, SqL.of p1, lastI _ _, _, rfl, d, _, rfl, dgetI hd' di z, _, rfl, ?_⟩
    cases hz : f z with
    | none =>
      refine iteF ?_
      refine iteF ?_
      exact ⟨_, rfl, q r H' pre z hr0 p2 p1 p3 (.inl hz)⟩
    | some y =>
      refine iteT ?_
      refine ⟨_, rfl, _, rfl, 1, rfl, r, _, -1, .int z, rfl, rfl, SqL.of p1, lastI _ _, d, .int y, rfl, ?_, _, rfl, rfl, _, rfl, ?_⟩
      · have := dgetI hd' di z
        rw [hz] at this
        exact this
      have nr : d ≠ r := ne_of_none hd hr0
      refine ifN (fun hne => ?_) (fun heq => ?_)
      · have hne' : y ≠ e := fun z => hne (congrArg V.int z)
        have row' := p3.more hz hne'
        have hlen' := len_range (row'.nd wf) (row'.dom wf e0 e1)
        rw [List.length_append, List.length_append, List.length_singleton, List.length_singleton] at hlen'
        refine ⟨fun σ' H2 => ∃ m', m' < 300 - pre.length ∧ _, fun _ _ h => h, ?_⟩
        refine ⟨_, rfl, .inl ⟨rfl, _, SqL.of p1⟩, _, rfl, _, rfl, 1, rfl, r, _, -1, .int z, rfl, rfl, SqL.of p1, lastI _ _, d, .int y, rfl, ?_, r, _, .int y, rfl, rfl, p1, ?_, ?_⟩
        · have := dgetI hd' di z
          rw [hz] at this
          exact this
        · rw [List.length_map, List.length_append, List.length_singleton]
          exact small1000 (by omega)
        · refine ⟨300 - (pre ++ [z]).length, by rw [List.length_append, List.length_singleton]; omega, pre ++ [z], y, rfl, ?_, ?_, row', rfl⟩
          · rw [upd_same, List.map_append (l₁ := pre ++ [z])]
            rfl
          · intro b o h
            rw [upd_ne (ne_of_none h hr0)]
            exact p2 b o h
      · have : y = e := V.int.inj heq
        subst this
        exact ⟨_, rfl, q r H' pre z hr0 p2 p1 p3 (.inr hz)⟩
end
end My
namespace My
open PySem L2 U StX PM
/-! ### comprehensions over values and keys -/
theorem tgt_len (l : List (Int × Int)) (i : Nat) : (tgt (l.take i)).length ≤ l.length := by
  unfold tgt; rw [List.length_map, List.length_take]; omega
theorem lc_keys {d : Addr} {l : List (Int × Int)} {te : TE} {i : Nat} {tt : TT} {tv : TE} {vs : List Nat} {σ : L2.St} {H : Hp} {Q : VK} (c : Int → Bool) (vf : Int → V)
    (hd : H d = some (.dK (kvI l))) (hte : ∀ H' (R : VK), R (.ref d) H' → Off d H H' → te σ H' R)
    (hw : ∀ a, wipe ((wipe σ vs).set i a) vs = wipe σ vs)
    (hb : ∀ (x : Int) (H1 : Hp), Off d H H1 → (∀ R : Bool → Hp → Prop, R (c x) H1 → tt ((wipe σ vs).set i (some (.int x))) H1 R) ∧ (∀ R : VK, R (vf x) H1 → tv ((wipe σ vs).set i (some (.int x))) H1 R))
    (hz : l.length < sizeLine)
    (hq : ∀ D H', H D = none → H' D = some (.lst (madeL (fun x _ => c x) (fun x _ => vf x) l)) → L2.Same H H' → Q (.ref D) H') :
    tLockE (tLc (iKeys te) (gName i) tt tv vs) σ H Q := by
  refine ⟨d, _, hd, trivial, fun od => ?_⟩
  refine hte _ _ ⟨d, od, rfl, .inl ⟨kvI l, upd_same, fun D hD => ?_⟩⟩ Off.lock
  have hDd : D ≠ d := fun e => by rw [e, upd_same] at hD; cases hD
  have hD0 : H D = none := by rw [upd_ne hDd] at hD; exact hD
  refine lc_it walk_keys (fun k H' => H' d = some (.frz od (.dK (kvI l))) ∧ Off d H H' ∧ H' D = some (.lst (madeL (fun x _ => c x) (fun x _ => vf x) (l.take k)))) ⟨?_, Off.lock.mut hD0, upd_same⟩ (fun k H' _ p => p.1) ?_ ?_
  · rw [upd_ne hDd.symm]; exact upd_same
  · rintro k v H' H'' hk1 ⟨p1, p2, p3⟩ ⟨rfl, kk, vv, e1, rfl⟩
    obtain ⟨x, y, exy, rfl, rfl⟩ := kvI_get e1
    refine ⟨hw _, ?_⟩
    obtain ⟨b1, b2⟩ := hb x _ p2
    refine b1 _ ?_
    have st := madeL_step (c := fun x _ => c x) (vf := fun x _ => vf x) exy
    cases hc : c x with
    | true =>
      rw [hc, if_pos rfl] at st
      refine iteT (b2 _ ⟨_, p3, Nat.lt_of_le_of_lt (madeL_len ..) hz, ?_⟩)
      refine ⟨?_, p2.mut hD0, ?_⟩
      · rw [upd_ne hDd.symm]; exact p1
      · rw [upd_same, st]
    | false =>
      rw [hc, if_neg Bool.false_ne_true, List.append_nil] at st
      refine iteF ⟨p1, p2, ?_⟩
      rw [st]
      exact p3
  · rintro H' ⟨p1, p2, p3⟩
    rw [kvI_length, List.take_length] at p3
    refine ⟨p1, hq D _ hD0 ?_ (p2.back hd)⟩
    rw [upd_ne hDd]
    exact p3
/-! ### seen and found -/
def kvB (sl : List Int) : List (Key × V) := sl.map fun x => (Sum.inl x, V.bl true)
theorem kvB_key {sl : List Int} {x : Int} : (Sum.inl x : Key) ∈ (kvB sl).map (·.1) ↔ x ∈ sl := by
  unfold kvB
  rw [List.map_map]
  constructor
  · intro h
    obtain ⟨p, hp, e⟩ := List.mem_map.mp h
    cases Sum.inl.inj e
    exact hp
  · intro h
    exact List.mem_map.mpr ⟨x, h, rfl⟩
theorem kvB_val (sl : List Int) (x : Int) : (valV (kvB sl) (Sum.inl x : Key)).isSome = decide (x ∈ sl) := by
  by_cases h : x ∈ sl
  · rw [decide_eq_true h, ← valV_any, List.any_eq_true]
    exact ⟨(Sum.inl x, V.bl true), List.mem_map.mpr ⟨x, h, rfl⟩, by simp⟩
  · rw [decide_eq_false h, valV_none fun z => h (kvB_key.mp z)]
    rfl
theorem kvB_put (sl : List Int) (x : Int) : ∃ sl', putK (kvB sl) (Sum.inl x : Key) (V.bl true) = kvB sl' ∧ (∀ z, z ∈ sl' ↔ z ∈ sl ∨ z = x) ∧ (sl.Nodup → sl'.Nodup) := by
  by_cases h : x ∈ sl
  · refine ⟨sl, ?_, fun z => ⟨.inl, fun hz => ?_⟩, id⟩
    · unfold putK
      have e : ((kvB sl).any fun kv => decide (kv.1 = (Sum.inl x : Key))) = true := by
        rw [valV_any, kvB_val, decide_eq_true h]
      rw [if_pos e]
      unfold kvB
      rw [List.map_map]
      refine List.map_congr_left fun a _ => ?_
      show (if (Sum.inl a : Key) = Sum.inl x then ((Sum.inl a : Key), V.bl true) else (Sum.inl a, V.bl true)) = _
      split <;> rfl
    · rcases hz with hz | rfl
      · exact hz
      · exact h
  · refine ⟨sl ++ [x], ?_, fun z => by simp, fun nd => ?_⟩
    · rw [putK_new _ (valV_none fun z => h (kvB_key.mp z))]
      unfold kvB
      rw [List.map_append]
      rfl
    · rw [List.nodup_append]
      refine ⟨nd, by simp, fun a ha b hb e => ?_⟩
      simp at hb
      subst hb
      exact h (e ▸ ha)
structure Fnd (n : Int) (f : PF) (k : Nat) (fl : List (Int × Int)) (sl : List Int) : Prop where
  nd : (fl.map (·.1)).Nodup
  at_ : ∀ x, lk fl x = if x ∈ sl then iter f k x else none
  sn : sl.Nodup
  dm : ∀ x ∈ sl, 0 ≤ x ∧ x < n
theorem Fnd.len {n : Int} {f : PF} {k : Nat} {fl : List (Int × Int)} {sl : List Int} (h : Fnd n f k fl sl) : fl.length ≤ n.toNat := by
  have := len_range (n := n) h.nd (fun x hx => by
    obtain ⟨⟨a, b⟩, hp, rfl⟩ := List.mem_map.mp hx
    have e := lk_some h.nd hp
    rw [h.at_] at e
    by_cases hm : a ∈ sl
    · exact h.dm _ hm
    · rw [if_neg hm] at e; cases e)
  rw [List.length_map] at this
  exact this
theorem Fnd.slen {n : Int} {f : PF} {k : Nat} {fl : List (Int × Int)} {sl : List Int} (h : Fnd n f k fl sl) : sl.length ≤ n.toNat := len_range h.sn h.dm
theorem Fnd.put {n : Int} {f : PF} {k : Nat} {fl fl' : List (Int × Int)} {sl sl' : List Int} {x y : Int} (h : Fnd n f k fl sl) (h1 : ∀ z, z ∈ sl' ↔ z ∈ sl ∨ z = x) (h2 : sl.Nodup → sl'.Nodup) (hx : 0 ≤ x ∧ x < n)
    (e : iter f k x = some y) (n1 : (fl.map (·.1)).Nodup → (fl'.map (·.1)).Nodup) (a1 : ∀ z, lk fl' z = if z = x then some y else lk fl z) : Fnd n f k fl' sl' := by
  refine ⟨n1 h.nd, fun z => ?_, h2 h.sn, fun z hz => ?_⟩
  · rw [a1]
    by_cases hz : z = x
    · subst hz
      rw [if_pos rfl, if_pos ((h1 z).mpr (.inr rfl)), e]
    · rw [if_neg hz, h.at_]
      by_cases hs : z ∈ sl
      · rw [if_pos hs, if_pos ((h1 z).mpr (.inl hs))]
      · rw [if_neg hs, if_neg fun q => ((h1 z).mp q).elim hs hz]
  · rcases (h1 z).mp hz with q | rfl
    · exact h.dm z q
    · exact hx
theorem Fnd.di {n : Int} {f : PF} {k : Nat} {fl : List (Int × Int)} {sl : List Int} (h : Fnd n f (k + 1) fl sl) (all : ∀ x y, f x = some y → x ∈ sl) : DI fl (iter f (k + 1)) := by
  refine ⟨h.nd, fun x => ?_⟩
  rw [h.at_]
  by_cases hs : x ∈ sl
  · rw [if_pos hs]
  · rw [if_neg hs, iter_head]
    cases e : f x with
    | none => rfl
    | some y => exact absurd (all x y e) hs
end My
namespace My
open PySem L2 U StX PM
section
variable {P : Program} {w : World} {K : PySem.W.Frag} {mg : Str → Option Value} {base : Heap}
theorem get_map {xs : List Int} {i : Nat} {a : Int} (h : xs[i]? = some a) : (xs.map V.int)[i]? = some (V.int a) := by
  rw [List.getElem?_map, h]; rfl
theorem Same.put {H H' : Hp} {p : Addr} {o : HO} (s : Same H H') (h : H p = none) : Same H (upd H' p o) := fun b u e => by rw [upd_ne (ne_of_none e h)]; exact s b u e
end
end My
namespace My
open PySem L2 U StX PM
/-! ### a drawn map -/
structure Drw (n : Int) (i : Nat) (l : List (Int × Int)) (ns : List Int) : Prop where
  kn : (l.map (·.1)).Nodup
  vn : (l.map (·.2)).Nodup
  nn : ns.Nodup
  lt : ∀ p ∈ l, 0 ≤ p.1 ∧ p.1 < i ∧ 0 ≤ p.2 ∧ p.2 < n
  nt : ∀ y ∈ ns, 0 ≤ y ∧ y < n ∧ y ∉ l.map (·.2)
  ln : l.length ≤ i
  le : l.length + ns.length = n.toNat
theorem Drw.more {n : Int} {i : Nat} {l : List (Int × Int)} {ns : List Int} (h : Drw n i l ns) : Drw n (i + 1) l ns := by
  refine ⟨h.kn, h.vn, h.nn, fun p hp => ?_, h.nt, Nat.le_succ_of_le h.ln, h.le⟩
  have := h.lt p hp
  omega
theorem not_erase {ns : List Int} {k : Nat} {y : Int} (nd : ns.Nodup) (h : ns[k]? = some y) : y ∉ ns.eraseIdx k := by
  obtain ⟨hk, e⟩ := List.getElem?_eq_some_iff.mp h
  have e1 : ns = ns.take k ++ y :: ns.drop (k + 1) := by
    rw [← e]
    simp
  rw [List.eraseIdx_eq_take_drop_succ]
  intro hm
  rw [e1, List.nodup_append, List.nodup_cons] at nd
  rcases List.mem_append.mp hm with h1 | h1
  · exact nd.2.2 y h1 y List.mem_cons_self rfl
  · exact nd.2.1.1 h1
theorem Drw.put {n : Int} {i : Nat} {l : List (Int × Int)} {ns : List Int} (h : Drw n i l ns) {k : Nat} {y : Int} (hy : ns[k]? = some y) : Drw n (i + 1) (l ++ [((i : Int), y)]) (ns.eraseIdx k) ∧ (i : Int) ∉ l.map (·.1) := by
  have hm := h.nt y (List.mem_of_getElem? hy)
  have hi : (i : Int) ∉ l.map (·.1) := by
    intro hm
    obtain ⟨p, hp, e⟩ := List.mem_map.mp hm
    have := h.lt p hp
    omega
  obtain ⟨hk, _⟩ := List.getElem?_eq_some_iff.mp hy
  refine ⟨⟨?_, ?_, ?_, ?_, ?_, ?_, ?_⟩, hi⟩
  · rw [List.map_append, List.nodup_append]
    refine ⟨h.kn, by simp, fun a ha b hb e => ?_⟩
    simp at hb
    subst hb
    exact hi (e ▸ ha)
  · rw [List.map_append, List.nodup_append]
    refine ⟨h.vn, by simp, fun a ha b hb e => ?_⟩
    simp at hb
    subst hb
    exact hm.2.2 (e ▸ ha)
  · exact List.Sublist.nodup (List.eraseIdx_sublist _ _) h.nn
  · intro p hp
    rcases List.mem_append.mp hp with hp | hp
    · have := h.lt p hp
      omega
    · simp at hp
      subst hp
      dsimp only
      omega
  · intro z hz
    have h1 := h.nt z (List.mem_of_mem_eraseIdx hz)
    refine ⟨h1.1, h1.2.1, fun hq => ?_⟩
    rw [List.map_append] at hq
    rcases List.mem_append.mp hq with hq | hq
    · exact h1.2.2 hq
    · simp at hq
      subst hq
      exact not_erase h.nn hy hz
  · have := h.ln
    simp
    omega
  · have := h.le
    rw [List.length_append, List.length_singleton, List.length_eraseIdx, if_pos hk]
    omega
theorem two_in {l : List (Int × Int)} (vn : (l.map (·.2)).Nodup) : ∀ {x x' y : Int}, (x, y) ∈ l → (x', y) ∈ l → x = x' := by
  induction l with
  | nil => intro _ _ _ h; cases h
  | cons p r ih =>
    intro x x' y h1 h2
    rw [List.map_cons, List.nodup_cons] at vn
    rcases List.mem_cons.mp h1 with e1 | e1 <;> rcases List.mem_cons.mp h2 with e2 | e2
    · subst e1; cases e2; rfl
    · subst e1; exact absurd (List.mem_map.mpr ⟨(x', y), e2, rfl⟩) vn.1
    · subst e2; exact absurd (List.mem_map.mpr ⟨(x, y), e1, rfl⟩) vn.1
    · exact ih vn.2 e1 e2
theorem Drw.wf {n : Int} {l : List (Int × Int)} {ns : List Int} (h0 : 0 ≤ n) (h : Drw n n.toNat l ns) : WF n (lk l) := by
  refine ⟨fun x y e => ?_, fun x x' y e e' => two_in h.vn (lk_mem e) (lk_mem e')⟩
  have := h.lt _ (lk_mem e)
  dsimp only at this
  omega
theorem rg0 (n : Int) : rgV 0 n = ((List.range n.toNat).map fun (i : Nat) => (i : Int)).map V.int := by
  unfold rgV
  rw [List.map_map, show (n - 0).toNat = n.toNat by omega]
  refine List.map_congr_left fun a _ => ?_
  show V.int (0 + (a : Int)) = V.int (a : Int)
  rw [Int.zero_add]
theorem drw0 (n : Int) : Drw n 0 [] ((List.range n.toNat).map fun (i : Nat) => (i : Int)) := by
  refine ⟨List.nodup_nil, List.nodup_nil, ?_, fun p h => (nomatch h), fun y hy => ?_, Nat.le_refl _, by simp⟩
  · have := (di_id n.toNat).nd
    rw [List.map_map] at this
    exact this
  · obtain ⟨i, hi, rfl⟩ := List.mem_map.mp hy
    rw [List.mem_range] at hi
    exact ⟨by omega, by omega, by simp⟩
section
variable {P : Program} {w : World} {K : PySem.W.Frag} {mg : Str → Option Value} {base : Heap}
def PoolAt (H : Hp) (p : Addr) : Prop := ∃ a b : Int, H p = some (.lst [.int a, .int b]) ∧ 0 ≤ a ∧ 0 ≤ b ∧ b < 2147483647
def spDrwn : Sp := fun vs H Q _ => ∃ (p : Addr) (n way : Int), vs = [.ref p, .int n, .int way] ∧ PoolAt H p ∧ 1 ≤ n ∧ n ≤ 300 ∧
  ∀ r H' l, H r = none → H' r = some (.dK (kvI l)) → DI l (lk l) → WF n (lk l) → l.length ≤ 1000 → PoolAt H' p → Off p H H' → Q (.ref r) H'
theorem Off.put {p q : Addr} {H H' : Hp} {o : HO} (a : Off p H H') (h : H q = none) : Off p H (upd H' q o) := a.mut h
theorem Off.at {p : Addr} {H H' : Hp} {o : HO} (a : Off p H H') : Off p H (upd H' p o) := fun b u hb e => by rw [upd_ne hb]; exact a b u hb e
theorem ok_l_arrows (T : Txt K mg) : FnR P w K mg base CX0 2 T.f_l_arrows spDrwn := by
  refine T.A_l_arrows.ok sc_l_arrows (fun vs H Q E h => ?_) (fun cdv A outer s H vs Q E hr h => ?_)
  · obtain ⟨p, n, way, rfl, _⟩ := h
    rfl
  · obtain ⟨p, n, way, rfl, ⟨a0, b0, hp, ha0, hb0, hb1⟩, h1, h3, q⟩ := h
    have hu := hu_of hr
    refine ⟨_, pss_cons (ps_par (i := 3) (j := 4) rfl sc_l_arrows.nd rfl rfl (by decide) rfl rfl (pa_cons (pe_listRg rfl rfl T.n_list (prg_1 rfl T.n_range (pv 1))) (pa_cons pe_dnewK pa_nil)) (by rfl))
      (pss_cons (ps_for PassesOwn.never rfl (pi_range1 rfl T.n_range (pa_cons (pv 1) pa_nil)) (pg_name (i := 5) sc_l_arrows.nd rfl (Or.inl rfl))
        (pss_one (ps_if (pt_cmpR op_lt (pe_callR (ok_draw T) hr T.A_l_draw.kp rfl T.g_l_draw pass0 (pa_cons (pv 0) (pa_cons pe_int pa_nil))) (pv 2) (nomark _))
          (pss_one (ps_dput hu (pv 4) (pv 5) (pe_bm PySem.F.plainAttrs_list PySem.F.slot_list_pop PySem.F.type_list_pop mt_popAt (pv 3) (pa_cons (pe_callR (ok_draw T) hr T.A_l_draw.kp rfl T.g_l_draw pass0 (pa_cons (pv 0) (pa_cons (pe_callB call_len_seq (by rfl) T.n_len (by decide +kernel) (pa_cons (pv 3) pa_nil)) pa_nil))) pa_nil)) rfl)) pss_nil)))
      (pss_one (ps_ret (pv 4)))), ?_⟩
    refine ⟨_, rfl, n, rfl, RgOk.of_le (by decide) (by omega) (by decide) (by omega), fun lf hlf => ?_⟩
    intro fo hfo
    refine ⟨_, _, rfl, ?_⟩
    have lf0 : H lf = none := hlf
    have fo0 : H fo = none := (Same.new hlf).free hfo
    have npl : p ≠ lf := ne_of_none hp lf0
    have npf : p ≠ fo := ne_of_none hp fo0
    have nlf : lf ≠ fo := ne_of_none upd_same hfo
    refine ⟨_, rfl, n, rfl, by omega, by omega, ?_⟩
    refine for_it (walk_range (lo := 0) (n := n.toNat)) (fun i σ H' => ∃ v5 l ns, σ = [some (.ref p), some (.int n), some (.int way), some (.ref lf), some (.ref fo), v5] ∧ PoolAt H' p ∧ Off p H H' ∧ H' lf = some (.lst (ns.map V.int)) ∧ H' fo = some (.dK (kvI l)) ∧ Drw n i l ns)
      ⟨none, [], _, rfl, ⟨a0, b0, ?_, ha0, hb0, hb1⟩, ?_, ?_, upd_same, drw0 n⟩ (fun _ _ _ _ _ => trivial) ?_ ?_
    · rw [upd_ne npf, upd_ne npl]; exact hp
    · exact (Off.new hlf).tr (Off.new hfo)
    · rw [upd_ne nlf, upd_same, rg0]
    · rintro i v σ H' H'' hi ⟨v5, l, ns, rfl, ⟨a1, b1, e1, ha1, hb1, hb2⟩, p2, p3, p4, p5⟩ ⟨rfl, rfl⟩
      refine ⟨_, rfl, p, a1, b1, 4, rfl, e1, ha1, hb1, hb2, by decide, by decide, fun a2 b2 r2 ha2 hb2 hb3 hr2 hr3 => ?_⟩
      refine ⟨_, rfl, _, _, rfl, rfl, _, rfl, ?_⟩
      have o2 : Off p H (upd H'' p (.lst [.int a2, .int b2])) := Off.at p2
      have l2 : (upd H'' p (.lst [.int a2, .int b2])) lf = some (.lst (ns.map V.int)) := by rw [upd_ne npl.symm]; exact p3
      have f2 : (upd H'' p (.lst [.int a2, .int b2])) fo = some (.dK (kvI l)) := by rw [upd_ne npf.symm]; exact p4
      refine ifD (fun hlt => ?_) (fun _ => ?_)
      · have hlen := p5.le
        have hln := p5.ln
        have hl0 : 0 < ns.length := by omega
        refine ⟨_, rfl, .inl ⟨rfl, _, SqL.of l2⟩, _, rfl, _, rfl, lf, _, rfl, .inl (SqL.of l2), ?_⟩
        rw [List.length_map]
        refine ⟨p, a2, b2, (ns.length : Int), rfl, upd_same, ha2, hb2, hb3, by omega, by omega, fun a4 b4 r4 ha4 hb4 hb5 hr4 hr5 => ?_⟩
        obtain ⟨y, ey⟩ : ∃ y, ns[r4.toNat]? = some y := ⟨_, List.getElem?_eq_getElem (by omega)⟩
        obtain ⟨d1, d2⟩ := p5.put ey
        refine ⟨lf, _, r4, r4.toNat, .int y, rfl, rfl, (by rw [upd_ne npl.symm]; exact l2), by omega, by omega, ?_, get_map ey, ?_⟩
        · rw [List.length_map]
          exact PySem.seqIndex_of hr4 (by omega)
        refine ⟨_, rfl, _, rfl, fo, _, rfl, DPut.k (k := Sum.inl (0 + (i : Nat) : Int)) (kvs := kvI l) (by rw [upd_ne nlf.symm, upd_ne npf.symm]; exact f2) (small1000 (by rw [kvI_length]; omega)), ?_⟩
        rw [Int.zero_add, putK_kvI d2]
        refine ⟨_, _, ns.eraseIdx r4.toNat, rfl, ⟨a4, b4, ?_, ha4, hb4, hb5⟩, ?_, ?_, upd_same, d1⟩
        · rw [upd_ne npf, upd_ne npl, upd_same]
        · exact Off.put (Off.put (Off.at o2) lf0) fo0
        · rw [upd_ne nlf, upd_same]
          congr 2
          apply List.ext_getElem?
          intro m
          simp [List.getElem?_eraseIdx]
          split <;> rfl
      · exact ⟨_, l, ns, rfl, ⟨a2, b2, upd_same, ha2, hb2, hb3⟩, o2, l2, f2, p5.more⟩
    · rintro σ H' ⟨v5, l, ns, rfl, p1, p2, p3, p4, p5⟩
      have := p5.ln
      exact ⟨_, rfl, q fo H' l fo0 p4 ⟨p5.kn, fun _ => rfl⟩ (p5.wf (by omega)) (by omega) p1 p2⟩
end
end My
namespace My
open PySem L2 U StX PM
/-! ### expressions over maps: new objects alone -/
theorem dEq_di {l l' : List (Int × Int)} {f : PF} (d : DI l f) (d' : DI l' f) : dEq (kvI l) (kvI l') = true := by
  have n1 := nd_of_map _ d.nd
  have n2 := nd_of_map _ d'.nd
  have s1 : ∀ p ∈ l, p ∈ l' := by
    rintro ⟨x, y⟩ hp
    exact d'.mem.mpr (d.mem.mp hp)
  have s2 : ∀ p ∈ l', p ∈ l := by
    rintro ⟨x, y⟩ hp
    exact d.mem.mpr (d'.mem.mp hp)
  have l1 := List.Nodup.length_le_of_subset n1 s1
  have l2 := List.Nodup.length_le_of_subset n2 s2
  unfold dEq
  rw [kvI_length, kvI_length, Bool.and_eq_true]
  refine ⟨by rw [beq_iff_eq]; omega, List.all_eq_true.mpr fun p hp => ?_⟩
  unfold kvI at hp
  obtain ⟨⟨x, y⟩, hm, rfl⟩ := List.mem_map.mp hp
  rw [decide_eq_true_eq, valV_kvI, d'.at_, d.mem.mp hm]
  rfl
/-! ### dict([(x, x) for x in one.arrows]) -/
end My
namespace My
open PySem L2 U StX PM
/-! ### values that are no maps; check_map -/
def nonMapV (H : Hp) : V → Prop
  | .non => True | .bl _ => True | .int _ => True | .str _ => True
  | .ref a => (∃ xs, H a = some (.lst xs)) ∨ (∃ xs, H a = some (.tup xs)) ∨ (∃ kvs, H a = some (.dK kvs))
  | _ => False
def spChkM (C CE : Addr) : Sp := fun vs H Q E => ∃ x, vs = [x] ∧ ((∃ a n f, x = .ref a ∧ IsMap C H a n f ∧ Q .non H) ∨ (nonMapV H x ∧ ∀ d, H d = none → E (.ref CE) (some d) (upd H d (.xd [("part", .str "map")]))))
section
variable {P : Program} {w : World} {K : PySem.W.Frag} {mg : Str → Option Value} {base : Heap}
theorem ok_ini_InvalidMap (T : Txt K mg) : FnR P w K mg base CX0 1 T.f_InvalidMap__init (spIni1 T.C_InvalidMap "part") := by
  refine T.A_InvalidMap__init.ok sc_InvalidMap__init (fun vs H Q E h => ?_) (fun cdv A outer s H vs Q E hr h => ?_)
  · obtain ⟨a, v, rfl, _⟩ := h
    rfl
  · obtain ⟨a, v, rfl, ha, q⟩ := h
    refine ⟨_, pss_one (ps_ostG (pv 0) (pv 1)), ?_⟩
    exact ⟨_, rfl, _, rfl, a, T.C_InvalidMap, rfl, T.x_InvalidMap, T.na_part_InvalidMap, .inl ⟨ha, fun dx h1 h2 => q dx h1 h2⟩⟩
theorem ty_nonmap (T : Txt K mg) {H : Hp} {x : V} (h : nonMapV H x) : ∃ t, TyX K H x t ∧ PySem.W.kitOne K t (.ref T.C_Map) = some false := by
  cases x with
  | non => exact ⟨_, .base .non, T.kn_NoneType_Map⟩
  | bl b => exact ⟨_, .base (.bl b), T.kn_bool_Map⟩
  | int i => exact ⟨_, .base (.int i), T.kn_int_Map⟩
  | str z => exact ⟨_, .base (.str z), T.kn_str_Map⟩
  | ref a =>
    rcases h with ⟨xs, e⟩ | ⟨xs, e⟩ | ⟨xs, e⟩
    · exact ⟨_, .base (.lst e), T.kn_list_Map⟩
    · exact ⟨_, .base (.tup e), T.kn_tuple_Map⟩
    · exact ⟨_, .base (.dK e), T.kn_dict_Map⟩
  | byt b => exact h.elim
  | flt b => exact h.elim
  | ty b => exact h.elim
theorem ok_check_map (T : Txt K mg) : FnR P w K mg base (L2.CX P w) 3 T.f_check_map (spChkM T.C_Map T.C_InvalidMap) := by
  refine T.A_check_map.okX sc_check_map (fun vs H Q E h => ?_) (fun cdv A outer s H vs Q E hr h => ?_)
  · obtain ⟨x, rfl, _⟩ := h
    rfl
  · obtain ⟨x, rfl, hx⟩ := h
    refine ⟨_, pss_one (ps_if (pt_not (pt_val (pe_callB call_isi (by rfl) T.n_isinstance (by decide +kernel) (pa_cons (pv 0) (pa_cons (pe_glob (v := .ref T.C_Map) rfl T.g_Map rfl) pa_nil)))))
      (pss_one (ps_raise rfl (takes_of rfl rfl rfl rfl) (pmk_oexG T.x_InvalidMap T.m_InvalidMap__init T.ti_InvalidMap__init (ok_ini_InvalidMap T) (hr.mono (by decide)) pass0 rfl T.g_InvalidMap (pa_cons pe_str pa_nil)))) pss_nil), ?_⟩
    rcases hx with ⟨a, n, f, rfl, hm, q⟩ | ⟨hx, q⟩
    · obtain ⟨dx, fs, h1⟩ := at_map hm
      exact ⟨_, rfl, _, _, _, _, true, rfl, .own _, tyx_ins T.o_Map h1, T.self_Map, _, rfl, iteF q⟩
    · obtain ⟨t, ht, hk⟩ := ty_nonmap T hx
      exact ⟨_, rfl, _, _, _, _, false, rfl, .own _, ht, hk, _, rfl, iteT (mk_one fun d hd => q d hd)⟩
end
/-! ### lists of rows -/
def RowsAt (H : Hp) : List Addr → List (List Int) → Prop
  | [], [] => True
  | a :: as, r :: rs => H a = some (.lst (r.map V.int)) ∧ RowsAt H as rs
  | _, _ => False
theorem RowsAt.len {H : Hp} : ∀ {as : List Addr} {rs : List (List Int)}, RowsAt H as rs → as.length = rs.length
  | [], [], _ => rfl
  | _ :: as, _ :: rs, h => by rw [List.length_cons, List.length_cons, RowsAt.len h.2]
  | [], _ :: _, h => h.elim
  | _ :: _, [], h => h.elim
theorem RowsAt.map {H H' : Hp} : ∀ {as : List Addr} {rs : List (List Int)}, RowsAt H as rs → (∀ a ∈ as, ∀ xs, H a = some (.lst xs) → H' a = some (.lst xs)) → RowsAt H' as rs
  | [], [], _, _ => trivial
  | _ :: as, _ :: rs, h, k => ⟨k _ List.mem_cons_self _ h.1, RowsAt.map h.2 fun a ha => k a (List.mem_cons_of_mem _ ha)⟩
  | [], _ :: _, h, _ => h.elim
  | _ :: _, [], h, _ => h.elim
theorem RowsAt.same {H H' : Hp} {as : List Addr} {rs : List (List Int)} (h : RowsAt H as rs) (s : Same H H') : RowsAt H' as rs := h.map fun a _ xs e => s a _ e
theorem RowsAt.off {H : Hp} {as : List Addr} {rs : List (List Int)} {p : Addr} {o : HO} (h : RowsAt H as rs) (n : p ∉ as) : RowsAt (upd H p o) as rs := h.map fun a ha xs e => by
  have hne : a ≠ p := fun z => n (z ▸ ha)
  rw [upd_ne hne]; exact e
theorem RowsAt.snoc {H : Hp} {a : Addr} {r : List Int} : ∀ {as : List Addr} {rs : List (List Int)}, RowsAt H as rs → H a = some (.lst (r.map V.int)) → RowsAt H (as ++ [a]) (rs ++ [r])
  | [], [], _, e => ⟨e, trivial⟩
  | _ :: as, _ :: rs, h, e => ⟨h.1, RowsAt.snoc h.2 e⟩
  | [], _ :: _, h, _ => h.elim
  | _ :: _, [], h, _ => h.elim
theorem RowsAt.get {H : Hp} : ∀ {as : List Addr} {rs : List (List Int)}, RowsAt H as rs → ∀ (i : Nat) (a : Addr), as[i]? = some a → ∃ r, rs[i]? = some r ∧ H a = some (.lst (r.map V.int))
  | [], [], _, i, a, e => by simp at e
  | b :: as, r :: rs, h, 0, a, e => by cases e; exact ⟨r, rfl, h.1⟩
  | _ :: as, _ :: rs, h, i + 1, a, e => RowsAt.get h.2 i a e
  | [], _ :: _, h, _, _, _ => h.elim
  | _ :: _, [], h, _, _, _ => h.elim
theorem RowsAt.mem {H : Hp} {as : List Addr} {rs : List (List Int)} (h : RowsAt H as rs) {a : Addr} (ha : a ∈ as) : ∃ r ∈ rs, H a = some (.lst (r.map V.int)) := by
  obtain ⟨i, hi⟩ := List.mem_iff_getElem?.mp ha
  obtain ⟨r, e1, e2⟩ := h.get i a hi
  exact ⟨r, List.mem_of_getElem? e1, e2⟩
/-- {x: True for x in xs}, a list of unlike ints -/
theorem dc_ints {K : PySem.W.Frag} {te : TE} {i : Nat} {tt : TT} {tk tv : TE} {vs : List Nat} {σ : L2.St} {H0 H : Hp} {Q : VK} {a : Addr} {xs : List Int} (hte : ∀ R : VK, R (.ref a) H → te σ H0 R) (ha : H a = some (.lst (xs.map V.int)))
    (hw : ∀ a, wipe ((wipe σ vs).set i a) vs = wipe σ vs)
    (ht : ∀ (y : Int) (H1 : Hp) (R : Bool → Hp → Prop), R true H1 → tt ((wipe σ vs).set i (some (.int y))) H1 R) (hk : ∀ (y : Int) (H1 : Hp) (R : VK), R (.int y) H1 → tk ((wipe σ vs).set i (some (.int y))) H1 R) (hv : ∀ (y : Int) (H1 : Hp) (R : VK), R (.bl true) H1 → tv ((wipe σ vs).set i (some (.int y))) H1 R)
    (nd : xs.Nodup) (hz : xs.length < sizeLine)
    (hq : ∀ D H', H D = none → H' D = some (.dK (kvB xs)) → L2.Same H H' → Q (.ref D) H') :
    tDc (iList K te) (gName i) tt tk tv vs σ H0 Q := by
  refine hte _ ⟨a, rfl, ⟨_, SqL.of ha⟩, fun D hD => ?_⟩
  have hDa : D ≠ a := fun e => by rw [e, ha] at hD; cases hD
  refine dc_it (walk_list (xs := xs.map V.int)) (fun k H' => L2.Same H H' ∧ H' D = some (.dK (kvB (xs.take k)))) ⟨Same.new hD, upd_same⟩ (fun k H' _ p => SqL.of (p.1 _ _ ha)) ?_ ?_
  · rintro k v H' H'' hk1 ⟨p1, p2⟩ ⟨rfl, ev⟩
    rw [List.length_map] at hk1
    obtain ⟨y, ey⟩ : ∃ y, xs[k]? = some y := ⟨_, List.getElem?_eq_getElem hk1⟩
    have ev' : v = .int y := by
      have := get_map ey
      rw [this] at ev
      exact (Option.some.inj ev).symm
    subst ev'
    refine ⟨hw _, ?_⟩
    refine ht y _ _ (iteT (hk y _ _ (hv y _ _ ⟨_, Sum.inl y, rfl, p2, ?_, ?_, ?_⟩)))
    · refine Nat.lt_of_le_of_lt ?_ hz
      unfold kvB
      rw [List.length_map, List.length_take]
      omega
    · exact Same.put p1 hD
    · have nin : y ∉ xs.take k := by
        intro hm
        have e2 : xs = xs.take k ++ xs.drop k := (List.take_append_drop k xs).symm
        rw [e2, List.nodup_append] at nd
        refine nd.2.2 y hm y (List.mem_iff_getElem?.mpr ⟨0, ?_⟩) rfl
        rw [List.getElem?_drop]
        exact ey
      rw [upd_same, putK_new _ (valV_none fun z => nin (kvB_key.mp z)), take_more ey]
      unfold kvB
      rw [List.map_append]
      rfl
  · rintro H' ⟨p1, p2⟩
    rw [List.length_map, List.take_length] at p2
    exact hq D _ hD p2 p1
/-- one dict of marks merged into another -/
theorem kvB_merge : ∀ (xs sl : List Int), ∃ sl', mergeK (kvB sl) (kvB xs) = kvB sl' ∧ (∀ z, z ∈ sl' ↔ z ∈ sl ∨ z ∈ xs) ∧ (sl.Nodup → sl'.Nodup)
  | [], sl => ⟨sl, rfl, fun z => by simp, id⟩
  | x :: xs, sl => by
    obtain ⟨s1, e1, m1, n1⟩ := kvB_put sl x
    obtain ⟨s2, e2, m2, n2⟩ := kvB_merge xs s1
    refine ⟨s2, ?_, fun z => ?_, fun nd => n2 (n1 nd)⟩
    · show mergeK (putK (kvB sl) (Sum.inl x) (V.bl true)) (kvB xs) = _
      rw [e1, e2]
    · rw [m2, m1, List.mem_cons]
      constructor
      · rintro ((h | h) | h)
        · exact .inl h
        · exact .inr (.inl h)
        · exact .inr (.inr h)
      · rintro (h | h | h)
        · exact .inl (.inl h)
        · exact .inl (.inr h)
        · exact .inr h
theorem kvB_len (sl : List Int) : (kvB sl).length = sl.length := by simp [kvB]
end My
namespace My
open PySem L2 U StX PM
section
variable {P : Program} {w : World} {K : PySem.W.Frag} {mg : Str → Option Value} {base : Heap}
theorem upd_upd {H : Hp} {p : Addr} {o o' : HO} : upd (upd H p o) p o' = upd H p o' := by
  funext b
  by_cases h : b = p
  · subst h; rw [upd_same, upd_same]
  · rw [upd_ne h, upd_ne h, upd_ne h]
theorem tgt_tab {n : Int} {f : PF} (wf : WF n f) (x : Int) : (valV (tgt (tab n f)) (Sum.inl x : Key)).isSome = !nonT n f x := by
  rw [tgt_val]
  cases h : nonT n f x with
  | true =>
    have := (nonT_iff wf).mp h
    refine decide_eq_false fun hm => ?_
    obtain ⟨⟨a, b⟩, hp, rfl⟩ := List.mem_map.mp hm
    exact this a ((mem_tab wf).mp hp)
  | false =>
    refine decide_eq_true ?_
    unfold nonT at h
    cases e : inv n f x with
    | none => rw [e] at h; cases h
    | some y => exact List.mem_map.mpr ⟨(y, x), (mem_tab wf).mpr ((inv_iff wf).mp e), rfl⟩
/-- {t: True for t in e.values()}, e a dict just made -/
theorem dc_valsF {l : List (Int × Int)} {te : TE} {i : Nat} {tt : TT} {tk tv : TE} {vs : List Nat} {σ : L2.St} {H0 H : Hp} {Q : VK}
    (hte : ∀ R : VK, (∀ d od, H d = none → R (.ref d) (upd H d (.frz od (.dK (kvI l))))) → te σ H0 R)
    (hw : ∀ a, wipe ((wipe σ vs).set i a) vs = wipe σ vs)
    (ht : ∀ (y : Int) (H1 : Hp) (R : Bool → Hp → Prop), R true H1 → tt ((wipe σ vs).set i (some (.int y))) H1 R) (hk : ∀ (y : Int) (H1 : Hp) (R : VK), R (.int y) H1 → tk ((wipe σ vs).set i (some (.int y))) H1 R) (hv : ∀ (y : Int) (H1 : Hp) (R : VK), R (.bl true) H1 → tv ((wipe σ vs).set i (some (.int y))) H1 R)
    (nd : (l.map (·.2)).Nodup) (hz : l.length < sizeLine)
    (hq : ∀ D H', H D = none → H' D = some (.dK (tgt l)) → L2.Same H H' → Q (.ref D) H') :
    tDc (iVals te) (gName i) tt tk tv vs σ H0 Q := by
  refine hte _ fun d od hd => ⟨d, od, kvI l, rfl, upd_same, fun D hD => ?_⟩
  have hDd : D ≠ d := fun e => by rw [e, upd_same] at hD; cases hD
  have hD0 : H D = none := by rw [upd_ne hDd] at hD; exact hD
  refine dc_it walk_values (fun k H' => H' d = some (.frz od (.dK (kvI l))) ∧ L2.Same H H' ∧ H' D = some (.dK (tgt (l.take k)))) ⟨?_, Same.put (Same.new hd) hD0, upd_same⟩ (fun k H' _ p => p.1) ?_ ?_
  · rw [upd_ne hDd.symm]; exact upd_same
  · rintro k v H' H'' hk1 ⟨p1, p2, p3⟩ ⟨rfl, kk, e1⟩
    obtain ⟨x, y, exy, rfl, rfl⟩ := kvI_get e1
    refine ⟨hw _, ?_⟩
    refine ht y _ _ ?_
    refine iteT ?_
    refine hk _ _ _ (hv _ _ _ ⟨_, Sum.inl y, rfl, p3, Nat.lt_of_le_of_lt (tgt_len ..) hz, ?_⟩)
    refine ⟨?_, Same.put p2 hD0, ?_⟩
    · rw [upd_ne hDd.symm]; exact p1
    · have nin : y ∉ (l.take k).map (·.2) := by
        intro hm
        have e2 : l.map (·.2) = (l.take k).map (·.2) ++ (l.drop k).map (·.2) := by rw [← List.map_append, List.take_append_drop]
        rw [e2, List.nodup_append] at nd
        refine nd.2.2 _ hm y (List.mem_map.mpr ⟨(x, y), ?_, rfl⟩) rfl
        refine List.mem_iff_getElem?.mpr ⟨0, ?_⟩
        rw [List.getElem?_drop]
        exact exy
      rw [upd_same, putK_new _ (valV_none fun z => nin (tgt_key.mp z)), take_more exy]
      unfold tgt
      rw [List.map_append]
      rfl
  · rintro H' ⟨p1, p2, p3⟩
    rw [kvI_length, List.take_length] at p3
    exact hq D _ hD0 p3 p2
structure Prt (n : Int) (f : PF) (H H' : Hp) (lh se : Addr) (ex : List Addr) (b : List Int) (hs : List Addr) (sl : List Int) (st : List Int) : Prop where
  sm : Same H H'
  l : H' lh = some (.lst (hs.map V.ref))
  s : H' se = some (.dK (kvB sl))
  r : RowsAt H' hs (st.map (rowN f))
  m : ∀ x, x ∈ sl ↔ x ∈ seenL f (b ++ st)
  nd : sl.Nodup
  nw : ∀ a ∈ hs, H a = none ∧ a ≠ lh ∧ a ≠ se ∧ a ∉ ex
theorem Prt.slen {n : Int} {f : PF} {H H' : Hp} {lh se : Addr} {ex hs : List Addr} {b sl st : List Int} (wf : WF n f) (p : Prt n f H H' lh se ex b hs sl st) (h : ∀ e ∈ b ++ st, 0 ≤ e ∧ e < n) : sl.length ≤ n.toNat := by
  refine len_range p.nd fun x hx => ?_
  obtain ⟨e, he, hm⟩ := mem_seenL.mp ((p.m x).mp hx)
  have := h e he
  exact (rowN_is wf this.1 this.2).dom wf this.1 this.2 x hm
/-- one row more, from a new list r, its marks merged -/
theorem Prt.more {n : Int} {f : PF} {H H1 H2 H3 : Hp} {lh se : Addr} {ex hs : List Addr} {b sl sl' st : List Int} {e : Int} {r : Addr} (p : Prt n f H H1 lh se ex b hs sl st) (hl0 : H lh = none) (hs0 : H se = none) (nls : lh ≠ se) (hex : ∀ a ∈ ex, H1 a ≠ none)
    (hr : H1 r = none) (s2 : Same H1 H2) (hr2 : H2 r = some (.lst ((rowN f e).map V.int))) (m1 : ∀ z, z ∈ sl' ↔ z ∈ sl ∨ z ∈ rowN f e) (n1 : sl.Nodup → sl'.Nodup) (s3 : Same (upd H2 lh (.lst (hs.map V.ref ++ [.ref r]))) H3) :
    Prt n f H (upd H3 se (.dK (kvB sl'))) lh se ex b (hs ++ [r]) sl' (st ++ [e]) := by
  have rl : r ≠ lh := fun z => by rw [z, p.l] at hr; cases hr
  have rs : r ≠ se := fun z => by rw [z, p.s] at hr; cases hr
  have r0 : H r = none := p.sm.free hr
  have rx : r ∉ ex := fun z => hex r z hr
  refine ⟨?_, ?_, upd_same, ?_, ?_, n1 p.nd, ?_⟩
  · refine Same.put ?_ hs0
    exact (Same.put (p.sm.trans s2) hl0).trans s3
  · rw [upd_ne nls, s3 _ _ upd_same, List.map_append]
    rfl
  · rw [List.map_append]
    refine RowsAt.snoc ?_ ?_
    · have h1 := (p.r.same s2).off (p := lh) (o := .lst (hs.map V.ref ++ [.ref r])) (fun z => (p.nw lh z).2.1 rfl)
      exact (h1.same s3).off fun z => (p.nw se z).2.2.1 rfl
    · rw [upd_ne rs]
      exact s3 _ _ (by rw [upd_ne rl]; exact hr2)
  · intro x
    rw [m1, p.m, mem_seenL, mem_seenL]
    constructor
    · rintro (⟨e', h1, h2⟩ | h)
      · exact ⟨e', by rw [← List.append_assoc]; exact List.mem_append_left _ h1, h2⟩
      · exact ⟨e, by simp, h⟩
    · rintro ⟨e', h1, h2⟩
      rw [← List.append_assoc] at h1
      rcases List.mem_append.mp h1 with h1 | h1
      · exact .inl ⟨e', h1, h2⟩
      · rw [List.mem_singleton] at h1
        subst h1
        exact .inr h2
  · intro a ha
    rcases List.mem_append.mp ha with ha | ha
    · exact p.nw a ha
    · rw [List.mem_singleton] at ha
      subst ha
      exact ⟨r0, rl, rs, rx⟩
def spParts (C : Addr) : Sp := fun vs H Q _ => ∃ a n f, vs = [.ref a] ∧ IsMap C H a n f ∧ ∀ t lc lh cs hs H', Same H H' → H' t = some (.tup [.ref lc, .ref lh]) → H' lc = some (.lst (cs.map V.ref)) → H' lh = some (.lst (hs.map V.ref)) →
  RowsAt H' cs ((cycS n f).map (rowN f)) → RowsAt H' hs ((nons n f).map (rowN f)) → H lc = none → H lh = none → lc ≠ lh → (∀ a ∈ cs, H a = none ∧ a ≠ lc ∧ a ≠ lh) → (∀ a ∈ hs, H a = none ∧ a ≠ lc ∧ a ≠ lh) → Q (.ref t) H'
theorem ok_parts_of (T : Txt K mg) : FnR P w K mg base CX0 3 T.f_parts_of (spParts T.C_Map) := by
  refine T.A_parts_of.ok sc_parts_of (fun vs H Q E h => ?_) (fun cdv A outer s H vs Q E hr h => ?_)
  · obtain ⟨a, n, f, rfl, _⟩ := h
    rfl
  · obtain ⟨a, n, f, rfl, hm, q⟩ := h
    have hu := hu_of hr
    refine ⟨_, pss_cons (ps_par (i := 1) (j := 2) rfl sc_parts_of.nd rfl rfl (by decide) rfl rfl (pa_cons (pe_propR (pv 0) T.o_Map.cl T.P_Map_arrows (ok_arrows T) (hr.mono (by decide)))
          (pa_cons (pe_dc (own := [("target", 7)]) (g := gName 7) (tt := tYes) rfl sc_parts_of.nd (pi_values (pe_frz (pe_propR (pv 0) T.o_Map.cl T.P_Map_arrows (ok_arrows T) (hr.mono (by decide)))))
            (blkOk_by (own := [("target", 7)]) (N := n_parts_of) (sc := defScope s_parts_of) (by decide +kernel))
            (fun _ _ _ _ _ => pg_name (i := 7) sc_parts_of.nd rfl (Or.inl rfl)) (fun _ _ _ _ _ => pts_nil) (fun _ _ _ _ _ => pv 7) (fun _ _ _ _ _ => pe_bl)) pa_nil)) (by rfl))
      (pss_cons (ps_par3 (i := 3) (j := 4) (l := 5) rfl sc_parts_of.nd rfl rfl rfl (by decide) (by decide) (by decide) rfl rfl rfl (pa_cons (pe_lst pa_nil) (pa_cons (pe_lst pa_nil) (pa_cons pe_dnewK pa_nil))) (by rfl))
      (pss_cons (ps_for PassesOwn.never rfl (pi_range1 rfl T.n_range (pa_cons (pe_propR (pv 0) T.o_Map.cl T.P_Map_size (ok_size T) (hr.mono (by decide))) pa_nil)) (pg_name (i := 6) sc_parts_of.nd rfl (Or.inl rfl))
        (pss_one (ps_if (pt_cmp (pc_dnotin hu (pv 6) (pv 2)))
          (pss_cons (ps_expr (pe_bm PySem.F.plainAttrs_list PySem.F.slot_list_append PySem.F.type_list_append mt_append (pv 4) (pa_cons (pe_callR (ok_row_from T) (hr.mono (by decide)) T.A_row_from.kp rfl T.g_row_from pass0 (pa_cons (pv 1) (pa_cons (pv 6) pa_nil))) pa_nil)))
          (pss_one (ps_expr (pe_bm PySem.F.plainAttrs_dict PySem.F.slot_dict_update PySem.F.type_dict_update mt_updD (pv 5) (pa_cons (pe_dc (own := [("one", 8)]) (g := gName 8) (tt := tYes) rfl sc_parts_of.nd (pi_list (pe_ix ix_list (pv 4) (pe_un un_neg pe_int) (fun _ _ => rfl)))
            (blkOk_by (own := [("one", 8)]) (N := n_parts_of) (sc := defScope s_parts_of) (by decide +kernel))
            (fun _ _ _ _ _ => pg_name (i := 8) sc_parts_of.nd rfl (Or.inl rfl)) (fun _ _ _ _ _ => pts_nil) (fun _ _ _ _ _ => pv 8) (fun _ _ _ _ _ => pe_bl)) pa_nil))))) pss_nil)))
      (pss_cons (ps_for PassesOwn.never rfl (pi_range1 rfl T.n_range (pa_cons (pe_propR (pv 0) T.o_Map.cl T.P_Map_size (ok_size T) (hr.mono (by decide))) pa_nil)) (pg_name (i := 6) sc_parts_of.nd rfl (Or.inl rfl))
        (pss_one (ps_if (pt_cmp (pc_dnotin hu (pv 6) (pv 5)))
          (pss_cons (ps_expr (pe_bm PySem.F.plainAttrs_list PySem.F.slot_list_append PySem.F.type_list_append mt_append (pv 3) (pa_cons (pe_callR (ok_row_from T) (hr.mono (by decide)) T.A_row_from.kp rfl T.g_row_from pass0 (pa_cons (pv 1) (pa_cons (pv 6) pa_nil))) pa_nil)))
          (pss_one (ps_expr (pe_bm PySem.F.plainAttrs_dict PySem.F.slot_dict_update PySem.F.type_dict_update mt_updD (pv 5) (pa_cons (pe_dc (own := [("one", 8)]) (g := gName 8) (tt := tYes) rfl sc_parts_of.nd (pi_list (pe_ix ix_list (pv 3) (pe_un un_neg pe_int) (fun _ _ => rfl)))
            (blkOk_by (own := [("one", 8)]) (N := n_parts_of) (sc := defScope s_parts_of) (by decide +kernel))
            (fun _ _ _ _ _ => pg_name (i := 8) sc_parts_of.nd rfl (Or.inl rfl)) (fun _ _ _ _ _ => pts_nil) (fun _ _ _ _ _ => pv 8) (fun _ _ _ _ _ => pe_bl)) pa_nil))))) pss_nil)))
      (pss_one (ps_ret (pe_tup (pa_cons (pv 3) (pa_cons (pv 4) pa_nil)))))))), ?_⟩
    obtain ⟨dx, fs, h1⟩ := at_map hm
    have wf := hm.wf
    have hn3 := hm.hi
    have hn1 := hm.lo
    have tl := tab_len n f
    refine ⟨_, rfl, a, dx, fs, rfl, h1, a, n, f, rfl, hm, fun d hd => ?_⟩
    have s1 : Same H (upd H d (.dK (kvI (tab n f)))) := Same.new hd
    refine dc_valsF (H := upd H d (.dK (kvI (tab n f)))) (l := tab n f) (fun R r => ?_) (fun _ => rfl) (fun _ _ _ r => r) (fun _ _ _ r => ⟨_, rfl, r⟩) (fun _ _ _ r => r) (vals_tab wf) (small1000 (by omega)) (fun tg H2 ntg htg s2 => ?_)
    · refine ⟨_, rfl, a, dx, fs, rfl, s1 _ _ h1, a, n, f, rfl, hm.same s1, fun p hp => ⟨p, _, rfl, upd_same, trivial, fun od => ?_⟩⟩
      rw [upd_upd]
      exact r p od hp
    refine ⟨_, _, rfl, ?_⟩
    have s12 := s1.trans s2
    have hd2 : H2 d = some (.dK (kvI (tab n f))) := s2 _ _ upd_same
    refine ⟨(by show 0 ≤ sizeLine; decide), fun lc hlc => ⟨(by show 0 ≤ sizeLine; decide), fun lh hlh => fun se hse => ⟨_, _, _, rfl, ?_⟩⟩⟩
    have nlc : lc ≠ lh := ne_of_none upd_same hlh
    have ncs : lc ≠ se := ne_of_none (by rw [upd_ne nlc]; exact upd_same) hse
    have nhs : lh ≠ se := ne_of_none upd_same hse
    have s3 : Same H2 (upd (upd (upd H2 lc (.lst [])) lh (.lst [])) se (.dK [])) := ((Same.new hlc).trans (Same.new hlh)).trans (Same.new hse)
    have hlh2 : H2 lh = none := (Same.new hlc).free hlh
    have hse2 : H2 se = none := ((Same.new hlc).trans (Same.new hlh)).free hse
    refine ⟨_, rfl, a, dx, fs, rfl, (s12.trans s3) _ _ h1, a, n, f, rfl, hm.same (s12.trans s3), n, rfl, by omega, by omega, ?_⟩
    refine for_it (walk_range (lo := 0) (n := n.toNat)) (fun i σ H' => ∃ v6 v7 v8 hs sl, σ = [some (.ref a), some (.ref d), some (.ref tg), some (.ref lc), some (.ref lh), some (.ref se), v6, v7, v8] ∧ H' lc = some (.lst []) ∧ Prt n f H2 H' lh se [lc] [] hs sl ((rgI i).filter (nonT n f)))
      ⟨none, none, none, [], [], rfl, ?_, s3, ?_, upd_same, trivial, fun x => ?_, List.nodup_nil, fun a h => nomatch h⟩ (fun _ _ _ _ _ => trivial) ?_ ?_
    · rw [upd_ne ncs, upd_ne nlc, upd_same]
    · rw [upd_ne nhs, upd_same]; rfl
    · exact ⟨fun h => (nomatch h), fun h => (nomatch h)⟩
    · rintro i v σ H' H'' hi ⟨v6, v7, v8, hs, sl, rfl, c1, p⟩ ⟨rfl, rfl⟩
      have x0 : (0 : Int) ≤ 0 + (i : Nat) := by omega
      have x1 : (0 : Int) + (i : Nat) < n := by omega
      refine ⟨_, rfl, _, rfl, tg, _, rfl, DGet.k (k := Sum.inl (0 + (i : Nat) : Int)) (p.sm _ _ htg), _, rfl, ?_⟩
      rw [tgt_tab wf]
      have hst : ∀ e ∈ [] ++ (rgI i).filter (nonT n f), 0 ≤ e ∧ e < n := fun e he => by
        have := mem_rgI.mp (List.mem_filter.mp he).1
        omega
      have hsl := p.slen wf hst
      have hlen := p.r.len
      rw [List.length_map] at hlen
      have hfl : ((rgI i).filter (nonT n f)).length ≤ i := Nat.le_trans (List.length_filter_le _ _) (by simp [rgI])
      refine ifNB (fun hc => ?_) (fun hc => ?_)
      · have hnt : nonT n f (0 + (i : Nat)) = true := by simpa using hc
        refine ⟨_, rfl, .inl ⟨rfl, _, SqL.of p.l⟩, _, rfl, _, rfl, d, tab n f, n, f, 0 + (i : Nat), rfl, p.sm _ _ hd2, di_tab wf, wf, hn3, x0, x1, fun r H3 pre z hr0 sr hr2 row ho => ?_⟩
        have hrow : IsRow f (0 + (i : Nat)) (pre ++ [z]) := ⟨pre, z, rfl, row, ho⟩
        rw [← rowN_eq hrow] at hr2
        refine ⟨lh, _, .ref r, rfl, rfl, sr _ _ p.l, ?_, ?_⟩
        · rw [List.length_map]; exact small1000 (by omega)
        have rl : r ≠ lh := fun z => by rw [z, p.l] at hr0; cases hr0
        have rs : r ≠ se := fun z => by rw [z, p.s] at hr0; cases hr0
        have hs4 : (upd H3 lh (.lst (hs.map V.ref ++ [.ref r]))) se = some (.dK (kvB sl)) := by rw [upd_ne nhs.symm]; exact sr _ _ p.s
        have nrow := (rowN_is wf x0 x1).nd wf
        have drow := (rowN_is wf x0 x1).dom wf x0 x1
        have lrow := len_range nrow drow
        refine ⟨_, rfl, .inr (.inr (.inl ⟨rfl, .inl ⟨_, hs4⟩⟩)), ?_⟩
        refine dc_ints (a := r) (xs := rowN f (0 + (i : Nat))) (H := upd H3 lh (.lst (hs.map V.ref ++ [.ref r]))) (fun R rr => ?_) (by rw [upd_ne rl]; exact hr2) (fun _ => rfl) (fun _ _ _ r => r) (fun _ _ _ r => ⟨_, rfl, r⟩) (fun _ _ _ r => r) nrow (small1000 (by omega)) (fun D H5 nD hD s5 => ?_)
        · exact ⟨_, rfl, 1, rfl, lh, _, -1, _, rfl, rfl, SqL.of upd_same, atI_last _ _, rr⟩
        obtain ⟨sl', em, m1, n1⟩ := kvB_merge (rowN f (0 + (i : Nat))) sl
        refine ⟨se, D, _, _, rfl, rfl, ?_, s5 _ _ hs4, hD, ?_, ?_⟩
        · exact ne_of_none hs4 nD
        · rw [kvB_len, kvB_len]; exact Nat.le_trans (by omega : _ ≤ 1000) (by decide)
        rw [em]
        have pm := p.more hlh2 hse2 nhs (fun a ha => by rw [List.mem_singleton] at ha; rw [ha, c1]; simp) hr0 sr hr2 m1 n1 s5
        refine ⟨_, _, _, hs ++ [r], sl', rfl, ?_, ?_⟩
        · rw [upd_ne ncs]; exact s5 _ _ (by rw [upd_ne nlc]; exact sr _ _ c1)
        · rw [rgI_succ, List.filter_append, List.filter_cons_of_pos (by rw [Int.zero_add] at hnt; exact hnt), List.filter_nil]
          rw [Int.zero_add] at pm
          exact pm
      · have hnt : nonT n f ((i : Nat) : Int) = false := by rw [Int.zero_add] at hc; simpa using hc
        refine ⟨_, _, _, hs, sl, rfl, c1, ?_⟩
        rw [rgI_succ, List.filter_append, List.filter_cons_of_neg (by rw [hnt]; exact Bool.false_ne_true), List.filter_nil, List.append_nil]
        exact p
    · rintro σ H3 ⟨v6, v7, v8, hs, sl, rfl, c1, p⟩
      have s13 : Same H H3 := s12.trans p.sm
      refine ⟨_, rfl, a, dx, fs, rfl, s13 _ _ h1, a, n, f, rfl, hm.same s13, n, rfl, by omega, by omega, ?_⟩
      refine for_it (walk_range (lo := 0) (n := n.toNat)) (fun i σ H' => ∃ v6 v7 v8 cs sl st, σ = [some (.ref a), some (.ref d), some (.ref tg), some (.ref lc), some (.ref lh), some (.ref se), v6, v7, v8] ∧ Prt n f H2 H' lc se [lh] (nons n f) cs sl st ∧ selL f (nons n f) (rgI i) = nons n f ++ st ∧ H' lh = some (.lst (hs.map V.ref)) ∧ RowsAt H' hs ((nons n f).map (rowN f)))
        ⟨_, _, _, [], sl, [], rfl, ⟨p.sm, c1, p.s, trivial, fun x => ?_, p.nd, fun a h => nomatch h⟩, by simp [selL, rgI], p.l, p.r⟩ (fun _ _ _ _ _ => trivial) ?_ ?_
      · rw [List.append_nil]; exact p.m x
      · rintro i v σ H' H'' hi ⟨v6, v7, v8, cs, sl, st, rfl, p', est, e1, e2⟩ ⟨rfl, rfl⟩
        have x0 : (0 : Int) ≤ 0 + (i : Nat) := by omega
        have x1 : (0 : Int) + (i : Nat) < n := by omega
        obtain ⟨c, ec, hc1, hc2⟩ := selL_sub f (rgI i) (nons n f)
        rw [est] at ec
        have ec := List.append_cancel_left ec
        subst ec
        have hst : ∀ e ∈ nons n f ++ st, 0 ≤ e ∧ e < n := fun e he => by
          rcases List.mem_append.mp he with he | he
          · have := nons_dom he
            exact ⟨this.1, this.2.1⟩
          · have := mem_rgI.mp (hc1.subset he)
            omega
        have hsl := p'.slen wf hst
        have hlen := p'.r.len
        rw [List.length_map] at hlen
        have hfl : st.length ≤ i := Nat.le_trans hc1.length_le (by simp [rgI])
        refine ⟨_, rfl, _, rfl, se, _, rfl, DGet.k (k := Sum.inl (0 + (i : Nat) : Int)) p'.s, _, rfl, ?_⟩
        rw [kvB_val]
        refine ifN (fun hc => ?_) (fun hc => ?_)
        · have hns : ((i : Nat) : Int) ∉ seenL f (nons n f ++ st) := fun h => hc (by rw [Int.zero_add]; exact (p'.m _).mpr h)
          refine ⟨_, rfl, .inl ⟨rfl, _, SqL.of p'.l⟩, _, rfl, _, rfl, d, tab n f, n, f, 0 + (i : Nat), rfl, p'.sm _ _ hd2, di_tab wf, wf, hn3, x0, x1, fun r H3 pre z hr0 sr hr2 row ho => ?_⟩
          have hrow : IsRow f (0 + (i : Nat)) (pre ++ [z]) := ⟨pre, z, rfl, row, ho⟩
          rw [← rowN_eq hrow] at hr2
          refine ⟨lc, _, .ref r, rfl, rfl, sr _ _ p'.l, ?_, ?_⟩
          · rw [List.length_map]; exact small1000 (by omega)
          have rl : r ≠ lc := fun z => by rw [z, p'.l] at hr0; cases hr0
          have hs4 : (upd H3 lc (.lst (cs.map V.ref ++ [.ref r]))) se = some (.dK (kvB sl)) := by rw [upd_ne ncs.symm]; exact sr _ _ p'.s
          have nrow := (rowN_is wf x0 x1).nd wf
          have drow := (rowN_is wf x0 x1).dom wf x0 x1
          have lrow := len_range nrow drow
          refine ⟨_, rfl, .inr (.inr (.inl ⟨rfl, .inl ⟨_, hs4⟩⟩)), ?_⟩
          refine dc_ints (a := r) (xs := rowN f (0 + (i : Nat))) (H := upd H3 lc (.lst (cs.map V.ref ++ [.ref r]))) (fun R rr => ?_) (by rw [upd_ne rl]; exact hr2) (fun _ => rfl) (fun _ _ _ r => r) (fun _ _ _ r => ⟨_, rfl, r⟩) (fun _ _ _ r => r) nrow (small1000 (by omega)) (fun D H5 nD hD s5 => ?_)
          · exact ⟨_, rfl, 1, rfl, lc, _, -1, _, rfl, rfl, SqL.of upd_same, atI_last _ _, rr⟩
          obtain ⟨sl', em, m1, n1⟩ := kvB_merge (rowN f (0 + (i : Nat))) sl
          refine ⟨se, D, _, _, rfl, rfl, ?_, s5 _ _ hs4, hD, ?_, ?_⟩
          · exact ne_of_none hs4 nD
          · rw [kvB_len, kvB_len]; exact Nat.le_trans (by omega : _ ≤ 1000) (by decide)
          rw [em]
          have pm := p'.more hlc hse2 ncs (fun a ha => by rw [List.mem_singleton] at ha; rw [ha, e1]; simp) hr0 sr hr2 m1 n1 s5
          refine ⟨_, _, _, cs ++ [r], sl', st ++ [((i : Nat) : Int)], rfl, ?_, ?_, ?_, ?_⟩
          · rw [Int.zero_add] at pm
            exact pm
          · rw [rgI_succ, selL_one, est]
            unfold stp
            rw [if_neg hns, List.append_assoc]
          · rw [upd_ne nhs]; exact s5 _ _ (by rw [upd_ne nlc.symm]; exact sr _ _ e1)
          · have g1 := (e2.same sr).off (p := lc) (o := .lst (cs.map V.ref ++ [.ref r])) (fun z => (p.nw lc z).2.2.2 (by simp))
            exact (g1.same s5).off fun z => (p.nw se z).2.2.1 rfl
        · have hns : ((i : Nat) : Int) ∈ seenL f (nons n f ++ st) := (p'.m _).mp (by rw [Int.zero_add] at hc; exact hc)
          refine ⟨_, _, _, cs, sl, st, rfl, p', ?_, e1, e2⟩
          rw [rgI_succ, selL_one, est]
          unfold stp
          rw [if_pos hns]
      · rintro σ H4 ⟨v6, v7, v8, cs, sl', st, rfl, p', est, e1, e2⟩
        rw [cycS_eq] at est
        have est := List.append_cancel_left est
        subst est
        refine ⟨_, rfl, _, rfl, (by show 2 ≤ sizeLine; decide), fun t ht => ?_⟩
        have s5 : Same H4 (upd H4 t (.tup [.ref lc, .ref lh])) := Same.new ht
        refine q t lc lh cs hs _ ((s12.trans p'.sm).trans s5) upd_same (s5 _ _ p'.l) (s5 _ _ e1) (p'.r.same s5) (e2.same s5) (s12.free hlc) (s12.free hlh2) nlc (fun a ha => ?_) (fun a ha => ?_)
        · have := p'.nw a ha
          exact ⟨s12.free this.1, this.2.1, by simpa using this.2.2.2⟩
        · have := p.nw a ha
          exact ⟨s12.free this.1, by simpa using this.2.2.2, this.2.1⟩
/-! ### cycles_of, chains_of -/
end
end My
namespace My
open PySem L2 U StX PM
/-- what holds between a statement and the rest -/
theorem seq_cut {a rest : TS} {D : Ends} {σ : L2.St} {H : Hp} (M : L2.St → Hp → Prop) (h : ∀ nx : L2.St → Hp → Prop, (∀ σ' H', M σ' H' → nx σ' H') → a { D with nx := nx } σ H) (hM : ∀ σ' H', M σ' H' → rest D σ' H') : tSeq a rest D σ H := h _ hM
theorem asg_of {t : TE} {D : Ends} {σ : L2.St} {H : Hp} {i : Nat} (h : t σ H (fun v H' => D.nx (σ.set i (some v)) H')) : tAsg t (gName i) D σ H := h
/-! ### lists of ints: in, comprehensions -/
theorem inV_ints (x : Int) (l : List Int) : inV (.int x) (l.map V.int) = decide (x ∈ l) := by
  unfold inV
  rw [Bool.eq_iff_iff, List.any_eq_true, decide_eq_true_eq]
  constructor
  · rintro ⟨v, hv, e⟩
    obtain ⟨y, hy, rfl⟩ := List.mem_map.mp hv
    have : y = x := by simpa [eqV] using e
    exact this ▸ hy
  · intro h
    exact ⟨.int x, List.mem_map.mpr ⟨x, h, rfl⟩, by simp [eqV]⟩
theorem flat_ints (l : List Int) : (l.map V.int).all flatV = true := by
  rw [List.all_eq_true]
  intro v hv
  obtain ⟨y, _, rfl⟩ := List.mem_map.mp hv
  rfl
/-- [v for x in xs if ..], a list of ints, the tests and parts reading alone -/
theorem lc_ints {K : PySem.W.Frag} {te : TE} {i : Nat} {tt : TT} {tv : TE} {vs : List Nat} {σ : L2.St} {H0 H : Hp} {Q : VK} {a : Addr} {xs : List Int} (c : Int → Bool) (vf : Int → V) (hte : ∀ R : VK, R (.ref a) H → te σ H0 R) (ha : H a = some (.lst (xs.map V.int)))
    (hw : ∀ a, wipe ((wipe σ vs).set i a) vs = wipe σ vs)
    (hb : ∀ (x : Int), x ∈ xs → ∀ (H1 : Hp), L2.Same H H1 → (∀ R : Bool → Hp → Prop, R (c x) H1 → tt ((wipe σ vs).set i (some (.int x))) H1 R) ∧ (c x = true → ∀ R : VK, R (vf x) H1 → tv ((wipe σ vs).set i (some (.int x))) H1 R))
    (hz : xs.length < sizeLine)
    (hq : ∀ D H', H D = none → H' D = some (.lst ((xs.filter c).map vf)) → L2.Same H H' → Q (.ref D) H') :
    tLc (iList K te) (gName i) tt tv vs σ H0 Q := by
  refine hte _ ⟨a, rfl, ⟨_, SqL.of ha⟩, fun D hD => ?_⟩
  refine lc_it (walk_list (xs := xs.map V.int)) (fun k H' => L2.Same H H' ∧ H' D = some (.lst (((xs.take k).filter c).map vf))) ⟨Same.new hD, upd_same⟩ (fun k H' _ p => SqL.of (p.1 _ _ ha)) ?_ ?_
  · rintro k v H' H'' hk1 ⟨p1, p2⟩ ⟨rfl, ev⟩
    rw [List.length_map] at hk1
    obtain ⟨y, ey⟩ : ∃ y, xs[k]? = some y := ⟨_, List.getElem?_eq_getElem hk1⟩
    have ev' : v = .int y := by
      have := get_map ey
      rw [this] at ev
      exact (Option.some.inj ev).symm
    subst ev'
    refine ⟨hw _, ?_⟩
    obtain ⟨b1, b2⟩ := hb y (List.mem_of_getElem? ey) _ p1
    refine b1 _ ?_
    have st : (xs.take (k + 1)).filter c = (xs.take k).filter c ++ (if c y = true then [y] else []) := by
      rw [take_more ey, List.filter_append]
      by_cases h : c y = true
      · simp [h]
      · have h' : c y = false := by simpa using h
        simp [h']
    cases hc : c y with
    | true =>
      refine iteT (b2 hc _ ⟨_, p2, ?_, Same.put p1 hD, ?_⟩)
      · refine Nat.lt_of_le_of_lt ?_ hz
        rw [List.length_map]
        exact Nat.le_trans (List.length_filter_le _ _) (by rw [List.length_take]; omega)
      · rw [upd_same, st, if_pos hc, List.map_append]
        rfl
    | false =>
      refine iteF ⟨p1, ?_⟩
      rw [st, hc, if_neg Bool.false_ne_true, List.append_nil]
      exact p2
  · rintro H' ⟨p1, p2⟩
    rw [List.length_map, List.take_length] at p2
    exact hq D _ hD p2 p1
/-! ### rows with marks -/
def PairsAt (H : Hp) : List Addr → List Addr → List Bool → Prop
  | [], [], [] => True
  | p :: ps, a :: as, b :: bs => H p = some (.tup [.ref a, .bl b]) ∧ PairsAt H ps as bs
  | _, _, _ => False
theorem PairsAt.map {H H' : Hp} : ∀ {ps as : List Addr} {bs : List Bool}, PairsAt H ps as bs → (∀ p ∈ ps, ∀ xs, H p = some (.tup xs) → H' p = some (.tup xs)) → PairsAt H' ps as bs
  | [], [], [], _, _ => trivial
  | _ :: ps, _ :: as, _ :: bs, h, k => ⟨k _ List.mem_cons_self _ h.1, PairsAt.map h.2 fun a ha => k a (List.mem_cons_of_mem _ ha)⟩
  | [], [], _ :: _, h, _ => h.elim
  | [], _ :: _, _, h, _ => h.elim
  | _ :: _, [], _, h, _ => h.elim
  | _ :: _, _ :: _, [], h, _ => h.elim
theorem PairsAt.same {H H' : Hp} {ps as : List Addr} {bs : List Bool} (h : PairsAt H ps as bs) (s : Same H H') : PairsAt H' ps as bs := h.map fun a _ xs e => s a _ e
theorem PairsAt.off {H : Hp} {ps as : List Addr} {bs : List Bool} {q : Addr} {o u : HO} (h : PairsAt H ps as bs) (hq : H q = some u) (nt : ∀ xs, u ≠ .tup xs) : PairsAt (upd H q o) ps as bs := h.map fun a ha xs e => by
  have hne : a ≠ q := fun z => by subst z; rw [hq] at e; exact nt _ (Option.some.inj e)
  rw [upd_ne hne]; exact e
theorem PairsAt.snoc {H : Hp} {p a : Addr} {b : Bool} : ∀ {ps as : List Addr} {bs : List Bool}, PairsAt H ps as bs → H p = some (.tup [.ref a, .bl b]) → PairsAt H (ps ++ [p]) (as ++ [a]) (bs ++ [b])
  | [], [], [], _, e => ⟨e, trivial⟩
  | _ :: ps, _ :: as, _ :: bs, h, e => ⟨h.1, PairsAt.snoc h.2 e⟩
  | [], [], _ :: _, h, _ => h.elim
  | [], _ :: _, _, h, _ => h.elim
  | _ :: _, [], _, h, _ => h.elim
  | _ :: _, _ :: _, [], h, _ => h.elim
theorem PairsAt.len {H : Hp} : ∀ {ps as : List Addr} {bs : List Bool}, PairsAt H ps as bs → ps.length = as.length ∧ ps.length = bs.length
  | [], [], [], _ => ⟨rfl, rfl⟩
  | _ :: ps, _ :: as, _ :: bs, h => by
    have := PairsAt.len h.2
    simp [this.1.symm, this.2.symm]
  | [], [], _ :: _, h => h.elim
  | [], _ :: _, _, h => h.elim
  | _ :: _, [], _, h => h.elim
  | _ :: _, _ :: _, [], h => h.elim
theorem PairsAt.get {H : Hp} : ∀ {ps as : List Addr} {bs : List Bool}, PairsAt H ps as bs → ∀ (i : Nat) (p : Addr), ps[i]? = some p → ∃ a b, as[i]? = some a ∧ bs[i]? = some b ∧ H p = some (.tup [.ref a, .bl b])
  | [], [], [], _, i, a, e => by simp at e
  | _ :: ps, a :: as, b :: bs, h, 0, p, e => by cases e; exact ⟨a, b, rfl, rfl, h.1⟩
  | _ :: ps, _ :: as, _ :: bs, h, i + 1, p, e => PairsAt.get h.2 i p e
  | [], [], _ :: _, h, _, _, _ => h.elim
  | [], _ :: _, _, h, _, _, _ => h.elim
  | _ :: _, [], _, h, _, _, _ => h.elim
  | _ :: _, _ :: _, [], h, _, _, _ => h.elim
end My
namespace My
open PySem L2 U StX PM
/-! ### rows by their first elements -/
def RowsZ (f : PF) (H : Hp) (zs : List (Addr × Int)) : Prop := ∀ z ∈ zs, H z.1 = some (.lst ((rowN f z.2).map V.int))
theorem RowsZ.at {f : PF} {H : Hp} : ∀ {zs : List (Addr × Int)}, RowsZ f H zs → RowsAt H (zs.map (·.1)) ((zs.map (·.2)).map (rowN f))
  | [], _ => trivial
  | z :: zs, h => ⟨h z List.mem_cons_self, RowsZ.at fun x hx => h x (List.mem_cons_of_mem _ hx)⟩
/-! ### data that may be compared -/
end My
namespace My
open PySem L2 U StX PM
theorem SqL.same {K : PySem.W.Frag} {H H' : Hp} {a : Addr} {xs : List V} (h : SqL K H a xs) (s : Same H H') : SqL K H' a xs := by
  rcases h with (h | ⟨o, h⟩) | h
  · exact .inl (.inl (s _ _ h))
  · exact .inl (.inr ⟨o, s _ _ h⟩)
  · exact .inr h
theorem Same.off {H H1 H2 : Hp} {p : Addr} (s : Same H H1) (o : Off p H1 H2) (h : H p = none) : Same H H2 := fun b u e => o b u (ne_of_none e h) (s b u e)
theorem yes_ {σ : L2.St} {H : Hp} {A B : Hp → Prop} (h : A H) : tYes σ H (fun b H3 => if b = true then A H3 else B H3) := by
  show (if true = true then A H else B H)
  rw [if_pos rfl]
  exact h
theorem PoolAt.same {H H' : Hp} {p : Addr} (h : PoolAt H p) (s : Same H H') : PoolAt H' p := by
  obtain ⟨a, b, e, r⟩ := h
  exact ⟨a, b, s _ _ e, r⟩
theorem PoolAt.lst {H : Hp} {p : Addr} (h : PoolAt H p) : ∃ xs, H p = some (.lst xs) := by
  obtain ⟨a, b, e, r⟩ := h
  exact ⟨_, e⟩
theorem PoolAt.ne {H : Hp} {p q : Addr} (h : PoolAt H p) (hq : H q = none) : p ≠ q := by
  obtain ⟨xs, e⟩ := h.lst
  exact ne_of_none e hq
def spLaw (K : PySem.W.Frag) : Sp := fun vs H Q _ => ∃ (a : Addr) (ns : List Int), vs = [.ref a] ∧ SqL K H a (ns.map V.int) ∧ ns.length ≤ 63 ∧ ∀ H', Q (.bl true) H'
theorem IsMap.off {C p : Addr} {H H' : Hp} {m : Addr} {n : Int} {f : PF} (a : IsMap C H m n f) (o : Off p H H') (h : ∃ xs, H p = some (.lst xs)) : IsMap C H' m n f := by
  obtain ⟨⟨dx, D, h1, h2⟩, wf, lo, hi⟩ := a
  obtain ⟨xs, h⟩ := h
  exact ⟨⟨dx, D, o _ _ (fun e => by rw [e, h] at h1; cases h1) h1, o _ _ (fun e => by rw [e, h] at h2; cases h2) h2⟩, wf, lo, hi⟩
/-- Map(n, d) -/
theorem init_of {C : Addr} {H : Hp} {d : Addr} {n : Int} {l : List (Int × Int)} {f : PF} {R : VK} {E : XK} {x dx : Addr} (hd : H d = some (.dK (kvI l))) (di : DI l f) (wf : WF n f) (h1 : 1 ≤ n) (h3 : n ≤ 300) (hl : l.length ≤ 1000)
    (hx : H x = none) (hdx : H dx = none) (ne : dx ≠ x) (q : ∀ H', Same H H' → IsMap C H' x n f → R .non H') :
    spInit C [.ref x, .int n, .ref d] (upd (upd H dx (.own x)) x (.ins C dx [])) R E := by
  have s0 : Same H (upd (upd H dx (.own x)) x (.ins C dx [])) := fun b o e => by
    rw [upd_ne (ne_of_none e hx), upd_ne (ne_of_none e hdx)]
    exact e
  refine ⟨x, dx, d, n, l, f, rfl, upd_same, s0 _ _ hd, di, wf, h1, h3, hl, fun H' D o nD hp hD => ?_⟩
  exact q H' (fun b u e => o b u (ne_of_none e hx) (s0 b u e)) ⟨⟨dx, D, hp, hD⟩, wf, h1, h3⟩
/-- the law's draw, told by the pool alone -/
theorem draw_of {H : Hp} {p : Addr} {n : Int} {Q : VK} {E : XK} (h : PoolAt H p) (n0 : 0 < n) (n1 : n < 1073741824) (k : ∀ r H', 0 ≤ r → r < n → PoolAt H' p → Off p H H' → (∃ xs, H' = upd H p (.lst xs)) → Q (.int r) H') : spDraw [.ref p, .int n] H Q E := by
  obtain ⟨a, b, e, ha, hb, hc⟩ := h
  exact ⟨p, a, b, n, rfl, e, ha, hb, hc, n0, n1, fun a' b' r h1 h2 h3 h4 h5 => k r _ h4 h5 ⟨a', b', upd_same, h1, h2, h3⟩ Off.lock ⟨_, rfl⟩⟩
end My
namespace My
open PySem L2 U StX PM
theorem paired_at {α β : Type} {R : α → β → Prop} {xs : List α} {ys : List β} (h : Paired R xs ys) {i : Nat} {x : α} (e : xs[i]? = some x) : ∃ y, ys[i]? = some y ∧ R x y := by
  induction h generalizing i with
  | nil => cases e
  | cons r _ ih =>
    cases i with
    | zero => cases e; exact ⟨_, rfl, r⟩
    | succ i => exact ih e
theorem paired_len {α β : Type} {R : α → β → Prop} {xs : List α} {ys : List β} (h : Paired R xs ys) : xs.length = ys.length := by
  induction h with
  | nil => rfl
  | cons _ _ ih => rw [List.length_cons, List.length_cons, ih]
theorem PoolAt.put {H : Hp} {p q : Addr} {o : HO} (h : PoolAt H p) (n : p ≠ q) : PoolAt (upd H q o) p := by
  obtain ⟨a, b, e, r⟩ := h
  exact ⟨a, b, by rw [upd_ne n]; exact e, r⟩
theorem draw_R {i : Nat} {tb : TE} {σ : L2.St} {H : Hp} {Q : VK} {p : Addr} {n : Int} (hi : σ[i]? = some (some (.ref p))) (hb : ∀ R : VK, R (.int n) H → tb σ H R) (h : PoolAt H p) (n0 : 0 < n) (n1 : n < 1073741824)
    (k : ∀ r H', 0 ≤ r → r < n → PoolAt H' p → Off p H H' → Q (.int r) H') : tCallR spDraw E0 (tCons (tVar i) (tCons tb tNil)) σ H Q :=
  ⟨_, hi, hb _ (draw_of (E := E0) h n0 n1 fun r H' h1 h2 h3 h4 _ => k r H' h1 h2 h3 h4)⟩
theorem dgetL {H : Hp} {d : Addr} {l : List (Int × Int)} {f : PF} (h : H d = some (.dK (kvI l))) (di : DI l f) (i : Int) : DGet H d (.int i) ((f i).map V.int) := by
  have := DGet.k (k := Sum.inl i) h
  rw [valV_kvI, di.at_] at this
  exact this
theorem at_nat {xs : List V} {c : Int} (h0 : 0 ≤ c) (h1 : c.toNat < xs.length) : ∃ v, atI xs c = some v ∧ v ∈ xs := by
  obtain ⟨v, hv⟩ : ∃ v, xs[c.toNat]? = some v := ⟨_, List.getElem?_eq_getElem h1⟩
  have := atI_nat hv
  rw [show ((c.toNat : Nat) : Int) = c by omega] at this
  exact ⟨v, this, List.mem_of_getElem? hv⟩
end My
namespace My
open PySem L2 U StX PM
/-! ### a map as a text -/
def dI (l : List (Int × Int)) : PyData := flatD (kvI l) (l.map fun p => .int p.2)
theorem dI_eq (l : List (Int × Int)) : dI l = .dict (l.map fun p => (PyData.int p.1, PyData.int p.2)) := by
  unfold dI flatD kvI
  rw [List.map_map]
  congr 1
  induction l with
  | nil => rfl
  | cons p r ih =>
    rw [List.map_cons, List.map_cons, List.map_cons, List.zip_cons_cons, ih]
    rfl
theorem dI_sc : ∀ (l : List (Int × Int)), Paired (fun kv d => Sc kv.2 d) (kvI l) (l.map fun p => PyData.int p.2)
  | [] => .nil
  | p :: r => .cons (.int p.2) (dI_sc r)
def rowT (p : Int × Int) : Str := PyData.shown (.int p.1) ++ ": " ++ PyData.shown (.int p.2)
theorem dI_shown (l : List (Int × Int)) : (dI l).shown = dictText (l.map rowT) := by
  rw [dI_eq]
  simp only [PyData.shown]
  congr 1
  induction l with
  | nil => rfl
  | cons p r ih =>
    rw [List.map_cons, List.map_cons]
    simp only [PyData.shownKv]
    rw [ih]
    rfl
theorem sum_le {l : List Nat} {B : Nat} (h : ∀ x ∈ l, x ≤ B) : l.sum ≤ l.length * B := by
  induction l with
  | nil => exact Nat.zero_le _
  | cons a r ih =>
    rw [List.sum_cons, List.length_cons, Nat.succ_mul]
    have := ih fun x hx => h x (List.mem_cons_of_mem _ hx)
    have := h a List.mem_cons_self
    omega
theorem dI_depth (l : List (Int × Int)) : (dI l).depth ≤ 60 := by
  rw [dI_eq]
  show PyData.depthKv (l.map fun p => (PyData.int p.1, PyData.int p.2)) + 1 ≤ 60
  have : PyData.depthKv (l.map fun p => (PyData.int p.1, PyData.int p.2)) = 0 := by
    induction l with
    | nil => rfl
    | cons p r ih =>
      rw [List.map_cons]
      show max (max 0 0) (PyData.depthKv (r.map fun p => (PyData.int p.1, PyData.int p.2))) = 0
      rw [ih]
      rfl
  omega
end My
namespace My
open PySem L2 U StX PM
theorem nonMapV.same {H H' : Hp} {x : V} (h : nonMapV H x) (s : L2.Same H H') : nonMapV H' x := by
  cases x with
  | ref b =>
    rcases h with ⟨xs, e⟩ | ⟨xs, e⟩ | ⟨xs, e⟩
    · exact .inl ⟨_, s _ _ e⟩
    · exact .inr (.inl ⟨_, s _ _ e⟩)
    · exact .inr (.inr ⟨_, s _ _ e⟩)
  | _ => exact h
end My
namespace My
open PySem L2 U StX PM
/-! ### dict([(a, b) for x, y in d.items() if ..]) -/
theorem _root_.PySem.Paired.map {α β : Type} {R S : α → β → Prop} : ∀ {xs : List α} {ys : List β}, Paired R xs ys → (∀ x ∈ xs, ∀ y, R x y → S x y) → Paired S xs ys
  | _, _, .nil, _ => .nil
  | _, _, .cons h r, k => .cons (k _ List.mem_cons_self _ h) (PySem.Paired.map r fun x hx => k x (List.mem_cons_of_mem _ hx))
end My
local macro_rules | `(tactic| array_get_dec) => `(tactic| first | assumption | exact L2.upd_same | (refine U.carryNew (by assumption) ?_; array_get_dec) | (refine U.carry (by assumption) ?_; array_get_dec))
local macro_rules | `(tactic| array_mem_dec) => `(tactic| first | exact L2.Same.refl _ | assumption | (refine U.sameUp (by assumption) ?_; array_mem_dec) | (refine U.sameVia (by assumption) ?_; array_mem_dec))
local macro_rules | `(tactic| sizeOf_list_dec) => `(tactic| first | assumption | (refine U.freeVia (by assumption) ?_; sizeOf_list_dec) | (refine U.freeUp (o := _) (q := _) ?_; assumption))
local macro_rules | `(tactic| deriving_LawfulEq_tactic_step) => `(tactic| first | exact rfl | exact U.nil_le | exact U.one_le | exact U.two_le | exact U.three_le | exact L2.SqL.of (by array_get_dec) | exact L2.SqT.of (by array_get_dec) | exact ⟨_, L2.SqL.of (by array_get_dec)⟩ | exact ⟨_, L2.SqT.of (by array_get_dec)⟩ | exact Or.inl (by array_get_dec) | array_get_dec)
local macro_rules | `(tactic| and_intros) => `(tactic| repeat (first | refine And.intro (by deriving_LawfulEq_tactic_step) ?_ | (apply Exists.intro; refine And.intro (by deriving_LawfulEq_tactic_step) ?_) | (apply Exists.intro; apply Exists.intro; refine And.intro (by deriving_LawfulEq_tactic_step) ?_) | (apply Exists.intro; apply Exists.intro; apply Exists.intro; refine And.intro (by deriving_LawfulEq_tactic_step) ?_) | (apply Exists.intro; apply Exists.intro; apply Exists.intro; apply Exists.intro; refine And.intro (by deriving_LawfulEq_tactic_step) ?_)))
namespace My
open PySem L2 U StX PM
/-! ### several maps -/
def MapsAt (C : Addr) (H : Hp) (n : Int) (xs : List V) (fs : List PF) : Prop := Paired (fun v f => ∃ a, v = V.ref a ∧ IsMap C H a n f) xs fs
theorem MapsAt.same {C : Addr} {H H' : Hp} {n : Int} {xs : List V} {fs : List PF} (h : MapsAt C H n xs fs) (s : Same H H') : MapsAt C H' n xs fs := PySem.Paired.map h fun v _ f ⟨a, e, m⟩ => ⟨a, e, m.same s⟩
theorem MapsAt.get {C : Addr} {H : Hp} {n : Int} {xs : List V} {fs : List PF} (h : MapsAt C H n xs fs) {i : Nat} {v : V} (e : xs[i]? = some v) : ∃ a f, v = .ref a ∧ fs[i]? = some f ∧ IsMap C H a n f := by
  obtain ⟨f, e2, a, e3, m⟩ := paired_at h e
  exact ⟨a, f, e3, e2, m⟩
end My
namespace My
open PM
/-! ### maps made of blocks, one behind the other -/
/-! ### its rows -/
theorem asc_eq : ∀ {l m : List Int}, l.Pairwise (· < ·) → m.Pairwise (· < ·) → (∀ x, x ∈ l ↔ x ∈ m) → l = m
  | [], [], _, _, _ => rfl
  | [], b :: m, _, _, h => absurd ((h b).mpr List.mem_cons_self) (by simp)
  | a :: l, [], _, _, h => absurd ((h a).mp List.mem_cons_self) (by simp)
  | a :: l, b :: m, h1, h2, h => by
    rw [List.pairwise_cons] at h1 h2
    have e : a = b := by
      have ha := (h a).mp List.mem_cons_self
      have hb := (h b).mpr List.mem_cons_self
      rcases List.mem_cons.mp ha with ha | ha
      · exact ha
      · rcases List.mem_cons.mp hb with hb | hb
        · exact hb.symm
        · have := h1.1 _ hb
          have := h2.1 _ ha
          omega
    subst e
    rw [asc_eq h1.2 h2.2 fun x => ?_]
    constructor
    · intro hx
      rcases List.mem_cons.mp ((h x).mp (List.mem_cons_of_mem _ hx)) with e | e
      · have := h1.1 _ hx; omega
      · exact e
    · intro hx
      rcases List.mem_cons.mp ((h x).mpr (List.mem_cons_of_mem _ hx)) with e | e
      · have := h2.1 _ hx; omega
      · exact e
end My
namespace My
open PySem L2 U StX PM
/-! ### counts -/
def Bg : Int := ((2 ^ 1000 : Nat) : Int)
theorem Bg_ge : (10 ^ 60 : Int) ≤ Bg := by decide +kernel
theorem Bg_nat {x : Int} (h0 : 0 ≤ x) (h : x < Bg) : x.natAbs < 2 ^ 1000 := by
  unfold Bg at h
  omega
theorem Bg_mul {x y : Int} (h0 : 0 ≤ x) (h : x < Bg) (h1 : 0 ≤ y) (h2 : y < Bg) : CMulW x y := wide_mul (Bg_nat h0 h) (Bg_nat h1 h2) (by decide) (by decide) (by decide)
def Pos (l : List (Int × Int)) : Prop := ∀ p ∈ l, 0 < p.1 ∧ 0 < p.2 ∧ (p.1 < Bg ∧ p.2 < Bg)
def Asc (l : List (Int × Int)) : Prop := (l.map (·.1)).Pairwise (· < ·) ∧ Pos l
theorem Asc.nd {l : List (Int × Int)} (h : Asc l) : (l.map (·.1)).Nodup := nodup_of_lt h.1
theorem asc_uniq {l m : List (Int × Int)} (h1 : Asc l) (h2 : Asc m) (h : ∀ p, p ∈ l ↔ p ∈ m) : l = m := by
  have e := asc_eq h1.1 h2.1 fun x => by
    rw [List.mem_map, List.mem_map]
    constructor <;> rintro ⟨p, hp, rfl⟩
    · exact ⟨p, (h p).mp hp, rfl⟩
    · exact ⟨p, (h p).mpr hp, rfl⟩
  have d1 : DI l (lk l) := ⟨h1.nd, fun _ => rfl⟩
  have d2 : DI m (lk m) := ⟨h2.nd, fun _ => rfl⟩
  apply List.ext_getElem?
  intro i
  cases e1 : l[i]? with
  | none =>
    have : l.length = m.length := by have := congrArg List.length e; simpa using this
    rw [List.getElem?_eq_none_iff] at e1
    rw [List.getElem?_eq_none (by omega)]
  | some p =>
    have e2 : (l.map (·.1))[i]? = some p.1 := by rw [List.getElem?_map, e1]; rfl
    rw [e, List.getElem?_map] at e2
    cases e3 : m[i]? with
    | none => rw [e3] at e2; cases e2
    | some p' =>
      rw [e3] at e2
      have e4 : p'.1 = p.1 := Option.some.inj e2
      have a1 := d2.mem.mp ((h p).mp (List.mem_of_getElem? e1))
      have a2 := d2.mem.mp (List.mem_of_getElem? e3)
      rw [e4, a1] at a2
      have e5 := Option.some.inj a2
      congr 1
      exact Prod.ext e4.symm e5
def spAreC : Sp := fun vs H Q _ => ∃ (d : Addr) (l : List (Int × Int)), vs = [.ref d] ∧ H d = some (.dK (kvI l)) ∧ Pos l ∧ l.length ≤ 1000 ∧ ∀ H', Same H H' → Q (.bl true) H'
def spOrd : Sp := fun vs H Q _ => ∃ (d : Addr) (l : List (Int × Int)), vs = [.ref d] ∧ H d = some (.dK (kvI l)) ∧ (l.map (·.1)).Nodup ∧ Pos l ∧ l.length ≤ 1000 ∧ ∀ p cs H', Same H H' → H p = none → H' p = some (.dK (kvI cs)) → cs.Perm l → Asc cs → Q (.ref p) H'
/-- {x: .. for x in a list of ints that is made here} -/
theorem dc_intsX {K : PySem.W.Frag} {te : TE} {i : Nat} {tk tv : TE} {vs : List Nat} {σ : L2.St} {H0 : Hp} {Q : VK} (vf : Int → Int) (Φ : Addr → List Int → Hp → Prop) (hte : ∀ R : VK, (∀ a xs H, Φ a xs H → R (.ref a) H) → te σ H0 R) (ha : ∀ a xs H, Φ a xs H → H a = some (.lst (xs.map V.int)) ∧ xs.Nodup ∧ xs.length < sizeLine)
    (hw : ∀ a, wipe ((wipe σ vs).set i a) vs = wipe σ vs)
    (hk : ∀ (y : Int) (H1 : Hp) (R : VK), R (.int y) H1 → tk ((wipe σ vs).set i (some (.int y))) H1 R) (hv : ∀ a xs H, Φ a xs H → ∀ y ∈ xs, ∀ (H1 : Hp), L2.Same H H1 → ∀ (R : VK), R (.int (vf y)) H1 → tv ((wipe σ vs).set i (some (.int y))) H1 R)
    (hq : ∀ a xs H, Φ a xs H → ∀ D H', H D = none → H' D = some (.dK (kvI (xs.map fun x => (x, vf x)))) → L2.Same H H' → Q (.ref D) H') :
    tDc (iList K te) (gName i) tYes tk tv vs σ H0 Q := by
  refine hte _ fun a xs H φ => ?_
  obtain ⟨hx, nd, hz⟩ := ha a xs H φ
  refine ⟨a, rfl, ⟨_, SqL.of hx⟩, fun D hD => ?_⟩
  refine dc_it (walk_list (xs := xs.map V.int)) (fun k H' => L2.Same H H' ∧ H' D = some (.dK (kvI ((xs.take k).map fun x => (x, vf x))))) ⟨Same.new hD, upd_same⟩ (fun k H' _ p => SqL.of (p.1 _ _ hx)) ?_ ?_
  · rintro k v H' H'' hk1 ⟨p1, p2⟩ ⟨rfl, ev⟩
    rw [List.length_map] at hk1
    obtain ⟨y, ey⟩ : ∃ y, xs[k]? = some y := ⟨_, List.getElem?_eq_getElem hk1⟩
    have ev' : v = .int y := by
      have := get_map ey
      rw [this] at ev
      exact (Option.some.inj ev).symm
    subst ev'
    refine ⟨hw _, yes_ ?_⟩
    refine hk y _ _ (hv a xs H φ y (List.mem_of_getElem? ey) _ p1 _ ⟨_, Sum.inl y, rfl, p2, ?_, ?_, ?_⟩)
    · refine Nat.lt_of_le_of_lt ?_ hz
      rw [kvI_length, List.length_map, List.length_take]
      omega
    · exact Same.put p1 hD
    · have nin : y ∉ ((xs.take k).map fun x => (x, vf x)).map (·.1) := by
        rw [List.map_map]
        have : ((xs.take k).map ((fun p : Int × Int => p.1) ∘ fun x => (x, vf x))) = xs.take k := by
          rw [show ((fun p : Int × Int => p.1) ∘ fun x => (x, vf x)) = id from rfl, List.map_id]
        rw [this]
        intro hm
        have e2 : xs = xs.take k ++ xs.drop k := (List.take_append_drop k xs).symm
        rw [e2, List.nodup_append] at nd
        refine nd.2.2 y hm y (List.mem_iff_getElem?.mpr ⟨0, ?_⟩) rfl
        rw [List.getElem?_drop]
        exact ey
      rw [upd_same, putK_kvI nin, take_more ey, List.map_append]
      rfl
  · rintro H' ⟨p1, p2⟩
    rw [List.length_map, List.take_length] at p2
    exact hq a xs H φ D H' hD p2 p1
theorem keys_madeL (l : List (Int × Int)) : madeL (fun _ _ => true) (fun x _ => V.int x) l = (l.map (·.1)).map V.int := by
  unfold madeL
  rw [List.map_map, List.filter_eq_self.mpr fun _ _ => rfl]
  rfl
theorem ord_perm {l : List (Int × Int)} (nd : (l.map (·.1)).Nodup) {ns : List Int} (hp : ns.Perm (l.map (·.1))) (hs : ns.Pairwise (· ≤ ·)) : (ns.map fun x => (x, (lk l x).getD 0)).Perm l ∧ ((ns.map fun x => (x, (lk l x).getD 0)).map (·.1)).Pairwise (· < ·) := by
  have di : DI l (lk l) := ⟨nd, fun _ => rfl⟩
  have hnd : ns.Nodup := hp.nodup_iff.mpr nd
  constructor
  · have h1 := hp.map (fun x => (x, (lk l x).getD 0))
    refine h1.trans ?_
    rw [List.map_map]
    have : l.map ((fun x => (x, (lk l x).getD 0)) ∘ fun p : Int × Int => p.1) = l := by
      conv => rhs; rw [← List.map_id l]
      refine List.map_congr_left fun p hp' => ?_
      have := di.mem.mp (show (p.1, p.2) ∈ l from hp')
      show (p.1, (lk l p.1).getD 0) = p
      rw [this]
      rfl
    rw [this]
  · rw [List.map_map, show ((fun p : Int × Int => p.1) ∘ fun x => (x, (lk l x).getD 0)) = id from rfl, List.map_id]
    have := List.Pairwise.and hs hnd
    exact this.imp fun {a b} h => by omega
section
variable {P : Program} {w : World} {K : PySem.W.Frag} {mg : Str → Option Value} {base : Heap}
theorem ok_are_counts (T : Txt K mg) : FnR P w K mg base CX0 3 T.f_are_counts spAreC := by
  refine T.A_are_counts.ok sc_are_counts (fun vs H Q E h => ?_) (fun cdv A outer s H vs Q E hr h => ?_)
  · obtain ⟨d, l, rfl, _⟩ := h
    rfl
  · obtain ⟨d, l, rfl, hd, hp, hl, q⟩ := h
    refine ⟨_, (pss_cons (ps_if (pt_not (pt_val (pe_callB call_isi (by rfl) T.n_isinstance (by decide +kernel) (pa_cons (pv 0) (pa_cons (pe_bltn (v := .ty "dict") (u := .type "dict") (by rfl) T.n_dict (by decide +kernel) rfl) pa_nil)))))
        (pss_one (ps_ret pe_bl)) pss_nil)
      (pss_one (ps_ret (pe_callB (cr_all rfl) (by rfl) T.n_all (by decide +kernel) (pa_cons (pe_lock (pe_lc (own := [("one", 1), ("number", 2)]) (g := (gTup K 2 (gCons (gName 1) (gCons (gName 2) gNil)))) (tt := tYes) rfl sc_are_counts.nd (pi_items (pv 0)) (blkOk_by (own := [("one", 1), ("number", 2)]) (N := n_are_counts) (sc := defScope s_are_counts) (by decide +kernel)) (fun _ _ _ _ _ => (pg_tup rfl (pgs_cons (pg_name (i := 1) sc_are_counts.nd rfl (Or.inl rfl)) (pgs_cons (pg_name (i := 2) sc_are_counts.nd rfl (Or.inl rfl)) pgs_nil)))) (fun _ _ _ _ _ => pts_nil) (fun _ _ _ _ _ => (pe_and (pe_callR (ok_is_integer T) (hr.mono (by decide)) T.A_is_integer.kp rfl T.g_is_integer pass0 (pa_cons (pv 1) pa_nil)) (pe_and (pe_callR (ok_is_integer T) (hr.mono (by decide)) T.A_is_integer.kp rfl T.g_is_integer pass0 (pa_cons (pv 2) pa_nil)) (pe_and (pe_cmpR op_gt (pv 1) pe_int (nomark _)) (pe_one (pe_cmpR op_gt (pv 2) pe_int (nomark _))))))))) pa_nil))))), ?_⟩
    refine ⟨_, rfl, _, _, _, _, true, rfl, .ty _, .base (.dK hd), kit_ty (by decide +kernel), _, rfl, iteF ?_⟩
    refine lc_items (fun _ _ => true) (fun x y => .bl true) hd (fun H' R r o => ⟨_, rfl, r⟩) (fun _ _ => rfl) (fun x y hxy H1 o => ⟨fun R r => r, fun _ R r => ?_⟩) (small1000 hl) (fun D H1 nD hD s1 => ?_)
    · obtain ⟨h1, h2, _⟩ := hp _ hxy
      dsimp only at h1 h2
      refine ⟨_, rfl, _, rfl, trivial, _, rfl, iteT ⟨_, rfl, _, rfl, trivial, _, rfl, iteT ⟨_, rfl, _, _, rfl, rfl, _, rfl, ?_⟩⟩⟩
      rw [decide_eq_true h1]
      refine iteT ⟨_, rfl, _, _, rfl, rfl, ?_⟩
      show R (.bl (decide (0 < y))) H1
      rw [decide_eq_true h2]
      exact r
    · refine ⟨D, List.replicate l.length true, rfl, SqL.of ?_, ?_⟩
      · rw [hD]
        congr 2
        unfold madeL
        simp [List.map_const']
      · have : (List.replicate l.length true).all id = true := List.all_eq_true.mpr fun x hx => by rw [List.eq_of_mem_replicate hx]; rfl
        rw [this]
        exact q H1 s1
theorem ok_ordered (T : Txt K mg) : FnR P w K mg base CX0 3 T.f_ordered spOrd := by
  refine T.A_ordered.ok sc_ordered (fun vs H Q E h => ?_) (fun cdv A outer s H vs Q E hr h => ?_)
  · obtain ⟨d, l, rfl, _⟩ := h
    rfl
  · obtain ⟨d, l, rfl, hd, nd, hp, hl, q⟩ := h
    have hu := hu_of hr
    refine ⟨_, (pss_one (ps_ret (pe_dc (own := [("length", 1)]) (g := (gName 1)) (tt := tYes) rfl sc_ordered.nd (pi_list (pe_callB cr_sortedI (by rfl) T.n_sorted (by decide +kernel) (pa_cons (pe_lock (pe_lc (own := [("length", 1)]) (g := (gName 1)) (tt := tYes) rfl sc_ordered.nd (pi_keys (pv 0)) (blkOk_by (own := [("length", 1)]) (N := n_ordered) (sc := defScope s_ordered) (by decide +kernel)) (fun _ _ _ _ _ => (pg_name (i := 1) sc_ordered.nd rfl (Or.inl rfl))) (fun _ _ _ _ _ => pts_nil) (fun _ _ _ _ _ => (pe_callTy call_int1 (by rfl) T.n_int (by decide +kernel) (pa_cons (pv 1) pa_nil))))) pa_nil))) (blkOk_by (own := [("length", 1)]) (N := n_ordered) (sc := defScope s_ordered) (by decide +kernel)) (fun _ _ _ _ _ => (pg_name (i := 1) sc_ordered.nd rfl (Or.inl rfl))) (fun _ _ _ _ _ => pts_nil) (fun _ _ _ _ _ => (pv 1)) (fun _ _ _ _ _ => (pe_dget hu (pv 0) (pv 1) (fun _ _ => rfl)))))), ?_⟩
    refine dc_intsX (fun x => (lk l x).getD 0) (fun a xs H' => H' a = some (.lst (xs.map V.int)) ∧ xs.Perm (l.map (·.1)) ∧ xs.Pairwise (· ≤ ·) ∧ Same H H') (fun R rr => ?_) (fun a xs H' ⟨e, hp', _, _⟩ => ⟨e, hp'.nodup_iff.mpr nd, ?_⟩) (fun _ => rfl) (fun y H1 R r => ⟨_, rfl, r⟩) (fun a xs H' ⟨e, hp', _, s'⟩ y hy H1 s1 R r => ?_) (fun a xs H' ⟨e, hp', hs', s'⟩ D H1 nD hD s1 => ?_)
    · refine lc_keys (fun _ => true) (fun x => .int x) hd (fun H' R r o => ⟨_, rfl, r⟩) (fun _ => rfl) (fun x H1 o => ⟨fun R r => r, fun R r => ?_⟩) (small1000 hl) (fun D H1 nD hD s1 => ?_)
      · exact ⟨_, rfl, .inl ⟨_, rfl, r⟩⟩
      · rw [keys_madeL] at hD
        exact ⟨D, _, rfl, SqL.of hD, fun ns' p hp' hs' np => rr p ns' _ ⟨upd_same, hp', hs', s1.trans (Same.new np)⟩⟩
    · have := hp'.length_eq
      rw [List.length_map] at this
      exact small1000 (by omega)
    · have hm : y ∈ l.map (·.1) := hp'.mem_iff.mp hy
      obtain ⟨⟨y', z⟩, hz, rfl⟩ := List.mem_map.mp hm
      have di : DI l (lk l) := ⟨nd, fun _ => rfl⟩
      have e1 := di.mem.mp hz
      have g := dgetL (s1 _ _ (s' _ _ hd)) di y'
      dsimp only at r ⊢
      rw [e1] at g r
      exact ⟨_, rfl, _, rfl, d, .int z, rfl, g, r⟩
    · obtain ⟨o1, o2⟩ := ord_perm nd hp' hs'
      exact q D _ H1 (s'.trans s1) (s'.free nD) hD o1 ⟨o2, fun p hp2 => hp p (o1.mem_iff.mp hp2)⟩
end
end My
namespace My
open PySem L2 U StX PM
/-! ### shapes -/
def shf (D1 D2 : Addr) : List (Str × V) := [("own_cycles", .ref D1), ("own_chains", .ref D2)]
structure IsShape (C : Addr) (H : Hp) (s : Addr) (cs hs : List (Int × Int)) : Prop where
  ob : ∃ dx D1 D2, H s = some (.ins C dx (shf D1 D2)) ∧ H D1 = some (.dK (kvI cs)) ∧ H D2 = some (.dK (kvI hs))
  a1 : Asc cs
  a2 : Asc hs
  l1 : cs.length ≤ 1000
  l2 : hs.length ≤ 1000
theorem IsShape.same {C : Addr} {H H' : Hp} {s : Addr} {cs hs : List (Int × Int)} (h : IsShape C H s cs hs) (x : Same H H') : IsShape C H' s cs hs := by
  obtain ⟨⟨dx, D1, D2, h1, h2, h3⟩, a1, a2, l1, l2⟩ := h
  exact ⟨⟨dx, D1, D2, x _ _ h1, x _ _ h2, x _ _ h3⟩, a1, a2, l1, l2⟩
theorem Off.ofS {p : Addr} {H H' : Hp} (s : Same H H') : Off p H H' := fun _ _ _ h => s _ _ h
theorem stF {p : Addr} {H H' : Hp} {o : HO} (g : upd H p o = H') : Off p H H' ∧ H' p = some o := by
  subst g
  exact ⟨Off.lock, upd_same⟩
def spInitSh (C : Addr) : Sp := fun vs H Q _ => ∃ (s dx d1 d2 : Addr) (l1 l2 : List (Int × Int)), vs = [.ref s, .ref d1, .ref d2] ∧ H s = some (.ins C dx []) ∧ H d1 = some (.dK (kvI l1)) ∧ H d2 = some (.dK (kvI l2)) ∧ (l1.map (·.1)).Nodup ∧ (l2.map (·.1)).Nodup ∧ Pos l1 ∧ Pos l2 ∧ l1.length ≤ 1000 ∧ l2.length ≤ 1000 ∧
  ∀ cs hs H', Off s H H' → cs.Perm l1 → hs.Perm l2 → IsShape C H' s cs hs → Q .non H'
def spShD (C : Addr) (pick : List (Int × Int) → List (Int × Int) → List (Int × Int)) : Sp := fun vs H Q _ => ∃ (s : Addr) (cs hs : List (Int × Int)), vs = [.ref s] ∧ IsShape C H s cs hs ∧ ∀ p, H p = none → Q (.ref p) (upd H p (.dK (kvI (pick cs hs))))
def szL (l : List (Int × Int)) : Int := (l.map fun p => p.1 * p.2).sum
def spShSz (C : Addr) : Sp := fun vs H Q _ => ∃ (s : Addr) (cs hs : List (Int × Int)), vs = [.ref s] ∧ IsShape C H s cs hs ∧ ∀ H', Same H H' → Q (.int (szL cs + szL hs)) H'
theorem small1000' {k : Nat} (h : k ≤ 2000) : k < sizeLine := lt_line (by omega)
/-- [.. for a, b in a list of pairs] -/
theorem lc_prs {K : PySem.W.Frag} {te : TE} {i j : Nat} {tv : TE} {vs : List Nat} {σ : L2.St} {H : Hp} {Q : VK} {ts : List Addr} {l : List (Int × Int)} {a : Addr} (vf : Int → Int → Int) (hte : ∀ R : VK, R (.ref a) H → te σ H R) (ha : H a = some (.lst (ts.map V.ref))) (hp : Paired (fun t (p : Int × Int) => H t = some (.tup [.int p.1, .int p.2])) ts l) (hw : ∀ a b, wipe (((wipe σ vs).set i a).set j b) vs = wipe σ vs)
    (hb : ∀ x y, (x, y) ∈ l → ∀ H1, L2.Same H H1 → ∀ R : VK, R (.int (vf x y)) H1 → tv (((wipe σ vs).set i (some (.int x))).set j (some (.int y))) H1 R) (hz : l.length < sizeLine)
    (hq : ∀ D H', H D = none → H' D = some (.lst ((l.map fun p => vf p.1 p.2).map V.int)) → L2.Same H H' → Q (.ref D) H') : tLc (iList K te) (gTup K 2 (gCons (gName i) (gCons (gName j) gNil))) tYes tv vs σ H Q := by
  refine hte _ ⟨a, rfl, ⟨_, SqL.of ha⟩, fun D hD => ?_⟩
  have hln := paired_len hp
  refine lc_it (walk_list (xs := ts.map V.ref)) (fun k H' => L2.Same H H' ∧ H' D = some (.lst (((l.take k).map fun p => vf p.1 p.2).map V.int))) ⟨Same.new hD, upd_same⟩ (fun k H' _ p => SqL.of (p.1 _ _ ha)) ?_ ?_
  · rintro k v H' H'' hk ⟨s1, e1⟩ ⟨rfl, ev⟩
    rw [List.length_map] at hk
    rw [List.getElem?_map] at ev
    cases e : ts[k]? with
    | none => rw [e] at ev; cases ev
    | some t =>
      rw [e] at ev
      cases ev
      obtain ⟨⟨x, y⟩, ep, ht⟩ := paired_at hp e
      refine ⟨t, [.int x, .int y], rfl, SqT.of (s1 _ _ ht), rfl, .int x, [.int y], rfl, .int y, [], rfl, rfl, ?_⟩
      refine ⟨hw _ _, yes_ ?_⟩
      refine hb x y (List.mem_of_getElem? ep) _ s1 _ ⟨_, e1, ?_, Same.put s1 hD, ?_⟩
      · rw [List.length_map, List.length_map, List.length_take]
        omega
      · rw [upd_same, take_more ep, List.map_append, List.map_append]
        rfl
  · rintro H' ⟨s1, e1⟩
    rw [List.length_map, hln, List.take_length] at e1
    exact hq D H' hD e1 s1
theorem paired_kvI {H : Hp} : ∀ {ts : List Addr} {l : List (Int × Int)}, Paired (fun (t : Addr) (q : Key × V) => H t = some (.tup [kV q.1, q.2])) ts (kvI l) → Paired (fun t (p : Int × Int) => H t = some (.tup [.int p.1, .int p.2])) ts l
  | [], [], _ => .nil
  | t :: ts, p :: l, h => by
    cases h with
    | cons a r => exact .cons a (paired_kvI r)
  | [], _ :: _, h => by cases h
  | _ :: _, [], h => by cases h
theorem paired_app2 {α β : Type} {R : α → β → Prop} : ∀ {xs : List α} {ys : List β} {xs' : List α} {ys' : List β}, Paired R xs ys → Paired R xs' ys' → Paired R (xs ++ xs') (ys ++ ys')
  | [], [], _, _, _, h => h
  | _ :: _, _ :: _, _, _, .cons a r, h => .cons a (paired_app2 r h)
section
variable {P : Program} {w : World} {K : PySem.W.Frag} {mg : Str → Option Value} {base : Heap}
theorem ok_sh_init (T : Txt K mg) : FnR P w K mg base CX0 5 T.f_Shape__init (spInitSh T.C_Shape) := by
  refine T.A_Shape__init.ok sc_Shape__init (fun vs H Q E h => ?_) (fun cdv A outer s H vs Q E hr h => ?_)
  · obtain ⟨s, dx, d1, d2, l1, l2, rfl, _⟩ := h
    rfl
  · obtain ⟨s, dx, d1, d2, l1, l2, rfl, hs, hd1, hd2, n1, n2, p1, p2, b1, b2, q⟩ := h
    refine ⟨_, (pss_cons (ps_if (pt_not (pt_val (pe_callR (ok_are_counts T) (hr.mono (by decide)) T.A_are_counts.kp rfl T.g_are_counts pass0 (pa_cons (pv 1) pa_nil))))
        (pss_one ps_never) pss_nil)
      (pss_cons (ps_if (pt_not (pt_val (pe_callR (ok_are_counts T) (hr.mono (by decide)) T.A_are_counts.kp rfl T.g_are_counts pass0 (pa_cons (pv 2) pa_nil))))
        (pss_one ps_never) pss_nil)
      (pss_cons (ps_fld (pv 0) (pe_callR (ok_ordered T) (hr.mono (by decide)) T.A_ordered.kp rfl T.g_ordered pass0 (pa_cons (pv 1) pa_nil)) rfl)
      (pss_one (ps_fld (pv 0) (pe_callR (ok_ordered T) (hr.mono (by decide)) T.A_ordered.kp rfl T.g_ordered pass0 (pa_cons (pv 2) pa_nil)) rfl))))), ?_⟩
    refine ⟨_, rfl, d1, l1, rfl, hd1, p1, b1, fun H1 s1 => ⟨_, rfl, iteF ?_⟩⟩
    refine ⟨_, rfl, d2, l2, rfl, s1 _ _ hd2, p2, b2, fun H2 s2 => ⟨_, rfl, iteF ?_⟩⟩
    have s12 := s1.trans s2
    refine ⟨_, rfl, d1, l1, rfl, s12 _ _ hd1, n1, p1, b1, fun D1 cs H3 s3 nD1 hD1 pm1 as1 => ?_⟩
    have s13 := s12.trans s3
    have hs3 := s13 _ _ hs
    refine ⟨_, rfl, s, _, dx, _, rfl, hs3, T.o_Shape.cl, T.na_own_cycles_Shape, (by show 0 < 1000; decide), ?_⟩
    generalize g4 : upd _ s _ = H4
    obtain ⟨o4, e4⟩ := stF g4
    clear g4
    have nd2 : d2 ≠ s := ne_of hd2 hs (by intro z; cases z)
    have hd24 := o4 _ _ nd2 (s13 _ _ hd2)
    have nD1s : D1 ≠ s := (ne_of_none (s12 _ _ hs) nD1).symm
    have hD14 := o4 _ _ nD1s hD1
    refine ⟨_, rfl, d2, l2, rfl, hd24, n2, p2, b2, fun D2 hs' H5 s5 nD2 hD2 pm2 as2 => ?_⟩
    refine ⟨_, rfl, s, _, dx, _, rfl, s5 _ _ e4, T.o_Shape.cl, T.na_own_chains_Shape, (by show 1 < 1000; decide), ?_⟩
    generalize g6 : upd _ s _ = H6
    obtain ⟨o6, e6⟩ := stF g6
    clear g6
    have nD2s : D2 ≠ s := (ne_of_none e4 nD2).symm
    refine q cs hs' H6 ((((Off.ofS s13).tr o4).tr (Off.ofS s5)).tr o6) pm1 pm2 ⟨⟨dx, D1, D2, e6, o6 _ _ nD1s (s5 _ _ hD14), o6 _ _ nD2s hD2⟩, as1, as2, by rw [pm1.length_eq]; exact b1, by rw [pm2.length_eq]; exact b2⟩
theorem ok_sh_cycles (T : Txt K mg) : FnR P w K mg base CX0 1 T.f_Shape_cycles (spShD T.C_Shape fun cs _ => cs) := by
  refine T.A_Shape_cycles.ok sc_Shape_cycles (fun vs H Q E h => ?_) (fun cdv A outer s H vs Q E hr h => ?_)
  · obtain ⟨s, cs, hs, rfl, _⟩ := h
    rfl
  · obtain ⟨s, cs, hs, rfl, ⟨⟨dx, D1, D2, h1, h2, h3⟩, _⟩, q⟩ := h
    refine ⟨_, (pss_one (ps_ret (pe_callTy call_dictD (by rfl) T.n_dict (by decide +kernel) (pa_cons (pe_fld (pv 0) rfl) pa_nil)))), ?_⟩
    exact ⟨_, rfl, s, _, dx, _, _, rfl, h1, T.o_Shape.cl, T.na_own_cycles_Shape, rfl, D1, _, rfl, .inl h2, fun p np => q p np⟩
theorem ok_sh_chains (T : Txt K mg) : FnR P w K mg base CX0 1 T.f_Shape_chains (spShD T.C_Shape fun _ hs => hs) := by
  refine T.A_Shape_chains.ok sc_Shape_chains (fun vs H Q E h => ?_) (fun cdv A outer s H vs Q E hr h => ?_)
  · obtain ⟨s, cs, hs, rfl, _⟩ := h
    rfl
  · obtain ⟨s, cs, hs, rfl, ⟨⟨dx, D1, D2, h1, h2, h3⟩, _⟩, q⟩ := h
    refine ⟨_, (pss_one (ps_ret (pe_callTy call_dictD (by rfl) T.n_dict (by decide +kernel) (pa_cons (pe_fld (pv 0) rfl) pa_nil)))), ?_⟩
    exact ⟨_, rfl, s, _, dx, _, _, rfl, h1, T.o_Shape.cl, T.na_own_chains_Shape, rfl, D2, _, rfl, .inl h3, fun p np => q p np⟩
theorem ok_sh_size (T : Txt K mg) : FnR P w K mg base CX0 2 T.f_Shape_size (spShSz T.C_Shape) := by
  refine T.A_Shape_size.ok sc_Shape_size (fun vs H Q E h => ?_) (fun cdv A outer s H vs Q E hr h => ?_)
  · obtain ⟨s, cs, hs, rfl, _⟩ := h
    rfl
  · obtain ⟨s, cs, hs, rfl, ⟨⟨dx, D1, D2, h1, h2, h3⟩, as1, as2, b1, b2⟩, q⟩ := h
    refine ⟨_, (pss_cons (ps_set (i := 1) sc_Shape_size.nd rfl (Or.inl rfl) (pe_op op_cat (pe_itemsR rfl (pe_fld (pv 0) rfl) rfl T.n_list (by decide +kernel)) (pe_itemsR rfl (pe_fld (pv 0) rfl) rfl T.n_list (by decide +kernel))))
      (pss_one (ps_ret (pe_callB (cr_sum rfl) (by rfl) T.n_sum (by decide +kernel) (pa_cons (pe_lc (own := [("length", 2), ("number", 3)]) (g := (gTup K 2 (gCons (gName 2) (gCons (gName 3) gNil)))) (tt := tYes) rfl sc_Shape_size.nd (pi_list (pv 1)) (blkOk_by (own := [("length", 2), ("number", 3)]) (N := n_Shape_size) (sc := defScope s_Shape_size) (by decide +kernel)) (fun _ _ _ _ _ => (pg_tup rfl (pgs_cons (pg_name (i := 2) sc_Shape_size.nd rfl (Or.inl rfl)) (pgs_cons (pg_name (i := 3) sc_Shape_size.nd rfl (Or.inl rfl)) pgs_nil)))) (fun _ _ _ _ _ => pts_nil) (fun _ _ _ _ _ => (pe_op L2.op_mulW (pv 2) (pv 3)))) pa_nil))))), ?_⟩
    refine ⟨_, rfl, s, _, dx, _, _, rfl, h1, T.o_Shape.cl, T.na_own_cycles_Shape, rfl, D1, _, rfl, .inl h2, fun H1 p1 ts1 x1 np1 _ _ hp1 pr1 => ?_⟩
    refine ⟨_, rfl, s, _, dx, _, _, rfl, x1 _ _ h1, T.o_Shape.cl, T.na_own_chains_Shape, rfl, D2, _, rfl, .inl (x1 _ _ h3), fun H2 p2 ts2 x2 np2 _ _ hp2 pr2 => ?_⟩
    have lt1 := paired_len pr1
    have lt2 := paired_len pr2
    rw [kvI_length] at lt1 lt2
    refine ⟨p1, p2, _, _, rfl, rfl, x2 _ _ hp1, hp2, le_line (by simp only [List.length_append, List.length_map]; omega), ?_⟩
    refine fun p3 n_p3 => ?_
    generalize g_p3 : L2.upd _ p3 _ = H3
    obtain ⟨s_H3, e_p3⟩ := U.upd_facts g_p3 n_p3
    clear g_p3
    have e3 : H3 p3 = some (.lst ((ts1 ++ ts2).map V.ref)) := by rw [e_p3, List.map_append]
    have pr : Paired (fun t (p : Int × Int) => H3 t = some (.tup [.int p.1, .int p.2])) (ts1 ++ ts2) (cs ++ hs) := paired_app2 ((paired_kvI pr1).map fun _ _ _ e => s_H3 _ _ (x2 _ _ e)) ((paired_kvI pr2).map fun _ _ _ e => s_H3 _ _ e)
    dsimp only [gName, tRet, tCB, tCons, tNil]
    refine lc_prs (fun x y => x * y) (fun R r => ⟨_, rfl, r⟩) e3 pr (fun _ _ => rfl) (fun x y hxy H4 s4 R r => ?_) (small1000' (by rw [List.length_append]; omega)) (fun D H4 nD hD s4 => ?_)
    · have hb : CMulW x y := by
        rcases List.mem_append.mp hxy with h | h
        · obtain ⟨h1, h2, h3, h4⟩ := as1.2 _ h; exact Bg_mul (Int.le_of_lt h1) h3 (Int.le_of_lt h2) h4
        · obtain ⟨h1, h2, h3, h4⟩ := as2.2 _ h; exact Bg_mul (Int.le_of_lt h1) h3 (Int.le_of_lt h2) h4
      exact ⟨_, rfl, _, rfl, _, _, rfl, rfl, hb, r⟩
    · refine ⟨D, _, rfl, SqL.of hD, ?_⟩
      have : ((cs ++ hs).map fun p => p.1 * p.2).sum = szL cs + szL hs := by
        rw [List.map_append, List.sum_append]
        rfl
      rw [this]
      exact q H4 (((show Same H H1 from x1).trans x2).trans (s_H3.trans s4))
end
end My
namespace My
open PySem L2 U StX PM
/-! ### counts of lengths -/
def cN (Ls : List Nat) (x : Int) : Nat := (Ls.filter fun L : Nat => decide ((L : Int) = x)).length
def cnt (Ls : List Nat) : PF := fun x => if cN Ls x = 0 then none else some (cN Ls x : Nat)
theorem cN_snoc (Ls : List Nat) (L : Nat) (x : Int) : cN (Ls ++ [L]) x = cN Ls x + if (L : Int) = x then 1 else 0 := by
  unfold cN
  rw [List.filter_append, List.length_append]
  by_cases h : (L : Int) = x
  · simp [h]
  · simp [h]
theorem cnt_get (Ls : List Nat) (x : Int) : (cnt Ls x).getD 0 = (cN Ls x : Nat) := by
  unfold cnt
  by_cases h : cN Ls x = 0
  · rw [if_pos h, h]; rfl
  · rw [if_neg h]; rfl
theorem cnt_snoc (Ls : List Nat) (L : Nat) : cnt (Ls ++ [L]) = fun z => if z = (L : Int) then some ((cnt Ls z).getD 0 + 1) else cnt Ls z := by
  funext z
  rw [cnt_get]
  unfold cnt
  rw [cN_snoc]
  by_cases h : z = (L : Int)
  · rw [if_pos h, if_pos h.symm, if_neg (by omega)]
    congr 1
  · have h' : ¬ ((L : Int) = z) := fun e => h e.symm
    simp only [if_neg h, if_neg h', Nat.add_zero]
theorem di_putZ {l : List (Int × Int)} {f : PF} (d : DI l f) (x y : Int) : ∃ l', putK (kvI l) (Sum.inl x : Key) (V.int y) = kvI l' ∧ l'.length ≤ l.length + 1 ∧ DI l' (fun z => if z = x then some y else f z) := by
  obtain ⟨l', e, hl, hn, hk⟩ := putK_lk (l := l) (x := x) (y := y)
  exact ⟨l', e, hl, hn d.nd, fun z => by rw [hk, d.at_]⟩
theorem getDI0 (o : Option Int) : ((o.map V.int).getD (V.int 0)) = V.int (o.getD 0) := by cases o <;> rfl
def spCnt : Sp := fun vs H Q _ => ∃ (a : Addr) (ps : List Addr) (rs : List (List Int)), vs = [.ref a] ∧ H a = some (.lst (ps.map V.ref)) ∧ RowsAt H ps rs ∧ ps.length ≤ 1000 ∧ ∀ p l H', Same H H' → H p = none → H' p = some (.dK (kvI l)) → DI l (cnt (rs.map (·.length))) → l.length ≤ 1000 → Q (.ref p) H'
theorem cnt_pos {Ls : List Nat} (h : ∀ L ∈ Ls, 1 ≤ L) (hx : ∀ L ∈ Ls, L ≤ 1000) (hl : Ls.length ≤ 1000) {l : List (Int × Int)} (d : DI l (cnt Ls)) : Pos l := by
  rintro ⟨x, y⟩ hp
  have e := d.mem.mp hp
  unfold cnt at e
  by_cases h0 : cN Ls x = 0
  · rw [if_pos h0] at e; cases e
  · rw [if_neg h0] at e
    have ey := Option.some.inj e
    have hle : cN Ls x ≤ Ls.length := List.length_filter_le _ _
    have : ∃ L ∈ Ls, (L : Int) = x := by
      unfold cN at h0
      obtain ⟨L, hL⟩ : ∃ L, L ∈ Ls.filter fun L : Nat => decide ((L : Int) = x) := List.exists_mem_of_length_pos (by omega)
      rw [List.mem_filter, decide_eq_true_eq] at hL
      exact ⟨L, hL⟩
    obtain ⟨L, hL, rfl⟩ := this
    have := h L hL
    dsimp only
    refine ⟨by omega, by omega, ?_⟩
    have := Bg_ge
    have := hx L hL
    omega
def spShape (C CS : Addr) : Sp := fun vs H Q _ => ∃ (m : Addr) (n : Int) (f : PF), vs = [.ref m] ∧ IsMap C H m n f ∧ ∀ s cs hs H', Same H H' → IsShape CS H' s cs hs → DI cs (cnt (lens f (cycS n f))) → DI hs (cnt (lens f (nons n f))) → Q (.ref s) H'
theorem di_perm {l m : List (Int × Int)} {f : PF} (d : DI l f) (h : m.Perm l) : DI m f := by
  refine di_of ((h.map _).nodup_iff.mpr d.nd) fun x y => ?_
  rw [h.mem_iff]
  exact d.mem
theorem rows_lens {f : PF} {s : List Int} : (s.map (rowN f)).map (·.length) = lens f s := by
  unfold lens
  rw [List.map_map]
  rfl
section
variable {P : Program} {w : World} {K : PySem.W.Frag} {mg : Str → Option Value} {base : Heap}
theorem ok_counts_of (T : Txt K mg) : FnR P w K mg base CX0 2 T.f_counts_of spCnt := by
  refine T.A_counts_of.ok sc_counts_of (fun vs H Q E h => ?_) (fun cdv A outer s H vs Q E hr h => ?_)
  · obtain ⟨a, ps, rs, rfl, _⟩ := h
    rfl
  · obtain ⟨a, ps, rs, rfl, ha, hr0, hl, q⟩ := h
    have hu := hu_of hr
    refine ⟨_, (pss_cons (ps_set (i := 1) sc_counts_of.nd rfl (Or.inl rfl) pe_dnewK)
      (pss_cons (ps_for PassesOwn.never rfl (pi_list (pv 0)) (pg_name (i := 2) sc_counts_of.nd rfl (Or.inl rfl))
        (pss_one (ps_dput hu (pv 1) (pe_callB call_len_seq (by rfl) T.n_len (by decide +kernel) (pa_cons (pv 2) pa_nil)) (pe_op op_add (pe_dget2 hu (pv 1) (pe_callB call_len_seq (by rfl) T.n_len (by decide +kernel) (pa_cons (pv 2) pa_nil)) pe_int ⟨rfl, rfl, rfl, rfl⟩) pe_int) rfl)))
      (pss_one (ps_ret (pv 1))))), ?_⟩
    refine fun D n_D => ?_
    generalize g_D : L2.upd _ D _ = H1
    obtain ⟨s_H1, e_D⟩ := U.upd_facts g_D n_D
    clear g_D
    have hln := hr0.len
    refine ⟨_, rfl, a, rfl, ⟨_, SqL.of (s_H1 _ _ ha)⟩, ?_⟩
    refine for_it (walk_list (xs := ps.map V.ref)) (fun i σ H' => ∃ v2 l, σ = [some (.ref a), some (.ref D), v2] ∧ Same H H' ∧ H' D = some (.dK (kvI l)) ∧ DI l (cnt ((rs.take i).map (·.length))) ∧ l.length ≤ i)
      ⟨_, [], rfl, s_H1, e_D, ⟨List.nodup_nil, fun _ => rfl⟩, Nat.le_refl _⟩ (fun i σ H' _ ⟨_, _, _, z, _⟩ => SqL.of (z _ _ ha)) ?_ ?_
    · rintro i v σ Ha0 Ha hi ⟨v2, l, rfl, sa, eD, di, hli⟩ ⟨rfl, ev⟩
      rw [List.length_map] at hi
      rw [List.getElem?_map] at ev
      cases e : ps[i]? with
      | none => rw [e] at ev; cases ev
      | some b =>
        rw [e] at ev
        cases ev
        obtain ⟨r, er, hb0⟩ := hr0.get i b e
        have hb := sa _ _ hb0
        have g := dgetL eD di (((r.map V.int).length : Nat) : Int)
        refine ⟨_, rfl, D, rfl, isD_of eD, _, rfl, b, _, rfl, .inl (SqL.of hb), _, g, ?_⟩
        rw [getDI0]
        refine ⟨_, _, rfl, rfl, _, rfl, _, rfl, b, _, rfl, .inl (SqL.of hb), D, _, rfl, DPut.k (k := Sum.inl _) eD (small1000 (by rw [kvI_length]; omega)), ?_⟩
        obtain ⟨l', e', hl', di'⟩ := di_putZ di (((r.map V.int).length : Nat) : Int) ((cnt ((rs.take i).map (·.length)) (((r.map V.int).length : Nat) : Int)).getD 0 + 1)
        rw [e']
        refine ⟨_, l', rfl, Same.put sa n_D, upd_same, ?_, by omega⟩
        rw [take_more er, List.map_append]
        have := cnt_snoc ((rs.take i).map (·.length)) r.length
        rw [show [r].map (·.length) = [r.length] from rfl, this]
        rw [List.length_map] at di'
        refine ⟨di'.nd, fun z => ?_⟩
        rw [di'.at_]
        by_cases hz : z = (r.length : Int)
        · subst hz; rfl
        · rw [if_neg hz, if_neg hz]
    · rintro σ Ha ⟨v2, l, rfl, sa, eD, di, hli⟩
      rw [List.length_map, hln, List.take_length] at di
      rw [List.length_map] at hli
      exact ⟨_, rfl, q D l Ha sa n_D eD di (by omega)⟩
end
end My
namespace My
open PySem L2 U PM
/-! ### one block more; lists of blocks off counts -/
def szN (l : List (Int × Int)) : Int := (l.map fun p => p.1 * p.2).sum
/-! ### blocks off a map of counts with keys 1 .. 11 -/
end My
namespace My
open PySem L2 U StX PM
/-! ### check_shape, shape_of, map_of -/
def nonShapeV (C : Addr) (H : Hp) (x : V) : Prop := nonMapV H x ∨ ∃ a n f, x = .ref a ∧ IsMap C H a n f
theorem Asc.pos {l : List (Int × Int)} (h : Asc l) : ∀ p ∈ l, 0 < p.1 ∧ 0 < p.2 := fun p hp => ⟨(h.2 p hp).1, (h.2 p hp).2.1⟩
theorem initS_of {C : Addr} {H : Hp} {d1 d2 : Addr} {l1 l2 : List (Int × Int)} {R : VK} {E : XK} {x dx : Addr} (hd1 : H d1 = some (.dK (kvI l1))) (hd2 : H d2 = some (.dK (kvI l2))) (n1 : (l1.map (·.1)).Nodup) (n2 : (l2.map (·.1)).Nodup) (p1 : Pos l1) (p2 : Pos l2) (b1 : l1.length ≤ 1000) (b2 : l2.length ≤ 1000)
    (nx : H x = none) (ndx : H dx = none) (ne : dx ≠ x) (q : ∀ cs hs H', Same H H' → cs.Perm l1 → hs.Perm l2 → IsShape C H' x cs hs → R .non H') : spInitSh C [.ref x, .ref d1, .ref d2] (upd (upd H dx (.own x)) x (.ins C dx [])) R E := by
  have s0 : Same H (upd (upd H dx (.own x)) x (.ins C dx [])) := (Same.new ndx).trans (Same.new (by rw [upd_ne ne.symm]; exact nx))
  refine ⟨x, dx, d1, d2, l1, l2, rfl, upd_same, s0 _ _ hd1, s0 _ _ hd2, n1, n2, p1, p2, b1, b2, fun cs hs H' o pm1 pm2 sh => q cs hs H' (fun b u e => ?_) pm1 pm2 sh⟩
  exact o _ _ (ne_of_none e nx) (s0 _ _ e)
section
variable {P : Program} {w : World} {K : PySem.W.Frag} {mg : Str → Option Value} {base : Heap}
theorem ok_ini_InvalidShape (T : Txt K mg) : FnR P w K mg base CX0 1 T.f_InvalidShape__init (spIni1 T.C_InvalidShape "part") := by
  refine T.A_InvalidShape__init.ok sc_InvalidShape__init (fun vs H Q E h => ?_) (fun cdv A outer s H vs Q E hr h => ?_)
  · obtain ⟨a, v, rfl, _⟩ := h
    rfl
  · obtain ⟨a, v, rfl, ha, q⟩ := h
    refine ⟨_, pss_one (ps_ostG (pv 0) (pv 1)), ?_⟩
    exact ⟨_, rfl, _, rfl, a, T.C_InvalidShape, rfl, T.x_InvalidShape, T.na_part_InvalidShape, .inl ⟨ha, fun dx h1 h2 => q dx h1 h2⟩⟩
theorem ty_nonshape (T : Txt K mg) {H : Hp} {x : V} (h : nonShapeV T.C_Map H x) : ∃ t, TyX K H x t ∧ PySem.W.kitOne K t (.ref T.C_Shape) = some false := by
  rcases h with h | ⟨a, n, f, rfl, hm⟩
  · cases x with
    | non => exact ⟨_, .base .non, T.kn_NoneType_Shape⟩
    | bl b => exact ⟨_, .base (.bl b), T.kn_bool_Shape⟩
    | int i => exact ⟨_, .base (.int i), T.kn_int_Shape⟩
    | str z => exact ⟨_, .base (.str z), T.kn_str_Shape⟩
    | ref a =>
      rcases h with ⟨xs, e⟩ | ⟨xs, e⟩ | ⟨xs, e⟩
      · exact ⟨_, .base (.lst e), T.kn_list_Shape⟩
      · exact ⟨_, .base (.tup e), T.kn_tuple_Shape⟩
      · exact ⟨_, .base (.dK e), T.kn_dict_Shape⟩
    | byt b => exact h.elim
    | flt b => exact h.elim
    | ty b => exact h.elim
  · obtain ⟨dx, fs, h1⟩ := at_map hm
    exact ⟨_, tyx_ins T.o_Map h1, T.kx_Map_Shape⟩
theorem ok_shape_of (T : Txt K mg) : FnR P w K mg base CX0 7 T.f_shape_of (spShape T.C_Map T.C_Shape) := by
  refine T.A_shape_of.ok sc_shape_of (fun vs H Q E h => ?_) (fun cdv A outer s H vs Q E hr h => ?_)
  · obtain ⟨a, n, f, rfl, _⟩ := h
    rfl
  · obtain ⟨a, n, f, rfl, hm, q⟩ := h
    refine ⟨_, (pss_cons (ps_expr (pe_callR (fnR_calm (ok_check_map T)) (hr.mono (by decide)) T.A_check_map.kp rfl T.g_check_map pass0 (pa_cons (pv 0) pa_nil)))
      (pss_cons (ps_asg (pe_callR (ok_parts_of T) (hr.mono (by decide)) T.A_parts_of.kp rfl T.g_parts_of pass0 (pa_cons (pv 0) pa_nil)) (pg_tup rfl (pgs_cons (pg_name (i := 1) sc_shape_of.nd rfl (Or.inl rfl)) (pgs_cons (pg_name (i := 2) sc_shape_of.nd rfl (Or.inl rfl)) pgs_nil))))
      (pss_one (ps_ret (pe_makeR T.M_Shape (ok_sh_init T) (hr.mono (by decide)) rfl T.g_Shape pass0 (pa_cons (pe_callR (ok_counts_of T) (hr.mono (by decide)) T.A_counts_of.kp rfl T.g_counts_of pass0 (pa_cons (pv 1) pa_nil)) (pa_cons (pe_callR (ok_counts_of T) (hr.mono (by decide)) T.A_counts_of.kp rfl T.g_counts_of pass0 (pa_cons (pv 2) pa_nil)) pa_nil))))))), ?_⟩
    refine ⟨_, rfl, _, rfl, .inl ⟨a, n, f, rfl, hm, ?_⟩⟩
    refine ⟨_, rfl, a, n, f, rfl, hm, fun t lc lh cs hs H1 s1 e1 e2 e3 r1 r2 n1 n2 n3 w1 w2 => ?_⟩
    have lc1 := r1.len
    have lc2 := r2.len
    rw [List.length_map] at lc1 lc2
    have hn := hm.hi
    have b1 : (cycS n f).length ≤ 300 := by
      have := (cycS_sub n f).1.length_le
      have e : (rgI n.toNat).length = n.toNat := by simp [rgI]
      omega
    have b2 : (nons n f).length ≤ 300 := by
      have := List.length_filter_le (nonT n f) (rgI n.toNat)
      have e : (rgI n.toNat).length = n.toNat := by simp [rgI]
      unfold nons
      omega
    refine ⟨t, _, rfl, SqT.of e1, rfl, .ref lc, [.ref lh], rfl, .ref lh, [], rfl, rfl, ?_⟩
    refine ⟨_, rfl, lc, cs, _, rfl, e2, r1, by omega, fun d1 l1 H2 s2 nd1 hd1 di1 hl1 => ?_⟩
    refine ⟨_, rfl, lh, hs, _, rfl, s2 _ _ e3, r2.same s2, by omega, fun d2 l2 H3 s3 nd2 hd2 di2 hl2 => ?_⟩
    rw [rows_lens] at di1 di2
    have pos : ∀ st : List Int, (∀ e ∈ st, 0 ≤ e ∧ e < n) → ∀ L ∈ lens f st, 1 ≤ L := fun st hst L hL => by
      unfold lens at hL
      obtain ⟨e, he, rfl⟩ := List.mem_map.mp hL
      exact row_pos hm.wf (hst e he).1 (hst e he).2
    have mx : ∀ st : List Int, (∀ e ∈ st, 0 ≤ e ∧ e < n) → ∀ L ∈ lens f st, L ≤ 1000 := fun st hst L hL => by
      unfold lens at hL
      obtain ⟨e, he, rfl⟩ := List.mem_map.mp hL
      have := row_le hm.wf (hst e he).1 (hst e he).2
      omega
    refine fun x dx nx ndx ne => initS_of (s3 _ _ hd1) hd2 di1.nd di2.nd (cnt_pos (pos _ fun e he => cycS_dom he) (mx _ fun e he => cycS_dom he) (by unfold lens; rw [List.length_map]; omega) di1) (cnt_pos (pos _ fun e he => ⟨(nons_dom he).1, (nons_dom he).2.1⟩) (mx _ fun e he => ⟨(nons_dom he).1, (nons_dom he).2.1⟩) (by unfold lens; rw [List.length_map]; omega) di2) hl1 hl2 nx ndx ne fun cs' hs' H4 s4 pm1 pm2 sh => ⟨rfl, ?_⟩
    exact q x cs' hs' H4 (((s1.trans s2).trans s3).trans s4) sh (di_perm di1 pm1) (di_perm di2 pm2)
end
end My
namespace My
open PM
/-! ### bags of lengths -/
def bag (qs : List (Int × Int)) (x : Int) : Int := (qs.map fun q => if q.1 = x then q.2 else 0).sum
def toPF (N : Int → Int) : PF := fun x => if N x = 0 then none else some (N x)
theorem toPF_get (N : Int → Int) (x : Int) : (toPF N x).getD 0 = N x := by
  unfold toPF
  by_cases h : N x = 0
  · rw [if_pos h, h]; rfl
  · rw [if_neg h]; rfl
theorem bag_cons (q : Int × Int) (qs : List (Int × Int)) (x : Int) : bag (q :: qs) x = (if q.1 = x then q.2 else 0) + bag qs x := by
  unfold bag
  rw [List.map_cons, List.sum_cons]
theorem bag_append (a b : List (Int × Int)) (x : Int) : bag (a ++ b) x = bag a x + bag b x := by
  unfold bag
  rw [List.map_append, List.sum_append]
theorem bag_nn {qs : List (Int × Int)} (h : ∀ q ∈ qs, 0 ≤ q.2) (x : Int) : 0 ≤ bag qs x := by
  induction qs with
  | nil => exact Int.le_refl 0
  | cons q r ih =>
    rw [bag_cons]
    have h1 := h q (List.mem_cons_self ..)
    have h2 := ih fun q hq => h q (List.mem_cons_of_mem _ hq)
    by_cases e : q.1 = x
    · rw [if_pos e]; omega
    · rw [if_neg e]; omega
theorem one_key (q : Int × Int) (φ : Int → Int) : ∀ (l : List (Int × Int)), (l.map (·.1)).Nodup → (l.map fun p => (if q.1 = p.1 then q.2 else 0) * φ p.1).sum = if q.1 ∈ l.map (·.1) then q.2 * φ q.1 else 0
  | [], _ => by simp
  | p :: r, nd => by
    rw [List.map_cons, List.nodup_cons] at nd
    rw [List.map_cons, List.sum_cons, one_key q φ r nd.2, List.map_cons]
    by_cases h : q.1 = p.1
    · have hr : ¬ q.1 ∈ r.map (·.1) := by rw [h]; exact nd.1
      rw [if_pos h, if_neg hr, if_pos (by rw [h]; exact List.mem_cons_self ..), h]
      omega
    · rw [if_neg h]
      by_cases hr : q.1 ∈ r.map (·.1)
      · rw [if_pos hr, if_pos (List.mem_cons_of_mem _ hr)]; omega
      · rw [if_neg hr, if_neg (by simp only [List.mem_cons, not_or]; exact ⟨h, hr⟩)]; omega
theorem bag_self {l : List (Int × Int)} {f : PF} (d : DI l f) (h : ∀ p ∈ l, 0 < p.2) : toPF (bag l) = f := by
  have e : ∀ x, bag l x = (f x).getD 0 := by
    intro x
    have k := one_key (x, 1) (fun y => (f y).getD 0) l d.nd
    have k2 : bag l x = (l.map fun p => (if x = p.1 then 1 else 0) * (f p.1).getD 0).sum := by
      unfold bag
      congr 1
      refine List.map_congr_left fun p hp => ?_
      have := d.mem.mp (show (p.1, p.2) ∈ l from hp)
      rw [this]
      by_cases e : p.1 = x
      · rw [if_pos e, if_pos e.symm, Int.one_mul]; rfl
      · rw [if_neg e, if_neg (fun z => e z.symm), Int.zero_mul]
    rw [k2]
    refine k.trans ?_
    by_cases hx : x ∈ l.map (·.1)
    · rw [if_pos hx, Int.one_mul]
    · rw [if_neg hx]
      cases q : f x with
      | none => rfl
      | some y => exact absurd (List.mem_map.mpr ⟨(x, y), d.mem.mpr q, rfl⟩) hx
  funext x
  unfold toPF
  rw [e]
  cases q : f x with
  | none => rfl
  | some y =>
    have := h _ (d.mem.mpr q)
    rw [if_neg (by show ¬ y = 0; dsimp only at this; omega)]
    rfl
/-! ### powers of counts -/
def hp1 (e : Int) (p : Int × Int) : Int × Int := (p.1 / e + 1, p.2 * (p.1 % e))
def hp2 (e : Int) (p : Int × Int) : Int × Int := (p.1 / e, p.2 * (if 0 < p.1 / e then e - p.1 % e else 0))
def hq (cs : List (Int × Int)) (e : Int) : List (Int × Int) := cs.flatMap fun p => [hp1 e p, hp2 e p]
end My
namespace My
open PySem L2 U StX PM
/-! ### powers of shapes -/
theorem toPF_add {qs : List (Int × Int)} {x y : Int} (h : bag qs x + y ≠ 0) : (fun z => if z = x then some ((toPF (bag qs) x).getD 0 + y) else toPF (bag qs) z) = toPF (bag (qs ++ [(x, y)])) := by
  funext z
  rw [toPF_get]
  unfold toPF
  have e : bag (qs ++ [(x, y)]) z = bag qs z + if x = z then y else 0 := by
    rw [bag_append]
    unfold bag
    simp
  rw [e]
  by_cases hz : z = x
  · subst hz
    rw [if_pos rfl, if_pos rfl, if_neg h]
  · rw [if_neg hz, if_neg (show ¬ x = z from fun w => hz w.symm), Int.add_zero]
def spMerged : Sp := fun vs H Q _ => ∃ (d1 d2 : Addr) (l1 l2 : List (Int × Int)), vs = [.ref d1, .ref d2] ∧ H d1 = some (.dK (kvI l1)) ∧ H d2 = some (.dK (kvI l2)) ∧ (l1.map (·.1)).Nodup ∧ (∀ p ∈ l1, 0 < p.2) ∧ (∀ p ∈ l2, 0 < p.2) ∧ l1.length ≤ 100 ∧ l2.length ≤ 100 ∧
  ∀ p l H', Same H H' → H p = none → H' p = some (.dK (kvI l)) → DI l (toPF (bag (l1 ++ l2))) → l.length ≤ l1.length + l2.length → Q (.ref p) H'
section
variable {P : Program} {w : World} {K : PySem.W.Frag} {mg : Str → Option Value} {base : Heap}
theorem ok_merged (T : Txt K mg) : FnR P w K mg base CX0 2 T.f_merged spMerged := by
  refine T.A_merged.ok sc_merged (fun vs H Q E h => ?_) (fun cdv A outer s H vs Q E hr h => ?_)
  · obtain ⟨d1, d2, l1, l2, rfl, _⟩ := h
    rfl
  · obtain ⟨d1, d2, l1, l2, rfl, h1, h2, nd1, p1, p2, b1, b2, q⟩ := h
    have hu := hu_of hr
    refine ⟨_, (pss_cons (ps_set (i := 2) sc_merged.nd rfl (Or.inl rfl) (pe_callTy call_dictD (by rfl) T.n_dict (by decide +kernel) (pa_cons (pv 0) pa_nil)))
      (pss_cons (ps_lock (ps_for PassesOwn.never rfl (pi_items (pv 1)) (pg_tup rfl (pgs_cons (pg_name (i := 3) sc_merged.nd rfl (Or.inl rfl)) (pgs_cons (pg_name (i := 4) sc_merged.nd rfl (Or.inl rfl)) pgs_nil)))
        (pss_one (ps_dput hu (pv 2) (pv 3) (pe_op op_add (pe_dget2 hu (pv 2) (pv 3) pe_int ⟨rfl, rfl, rfl, rfl⟩) (pv 4)) rfl))))
      (pss_one (ps_ret (pv 2))))), ?_⟩
    refine ⟨_, rfl, d1, _, rfl, .inl h1, ?_⟩
    refine fun D n_D => ?_
    generalize g_D : L2.upd _ D _ = H1
    obtain ⟨s_H1, e_D⟩ := U.upd_facts g_D n_D
    clear g_D
    have h2' := s_H1 _ _ h2
    have nd2 : d2 ≠ D := (ne_of_none h2 n_D)
    refine ⟨d2, _, h2', trivial, fun od => ?_⟩
    refine ⟨_, rfl, d2, od, kvI l2, rfl, upd_same, ?_⟩
    refine for_it walk_items (fun i σ H' => ∃ v3 v4 l, σ = [some (.ref d1), some (.ref d2), some (.ref D), v3, v4] ∧ H' d2 = some (.frz od (.dK (kvI l2))) ∧ (∀ b o, b ≠ D → b ≠ d2 → H1 b = some o → H' b = some o) ∧ H' D = some (.dK (kvI l)) ∧ DI l (toPF (bag (l1 ++ l2.take i))) ∧ l.length ≤ l1.length + i)
      ⟨_, _, l1, rfl, upd_same, fun b o _ hb e => by rw [upd_ne hb]; exact e, by rw [upd_ne nd2.symm]; exact e_D, by rw [List.take_zero, List.append_nil, bag_self ⟨nd1, fun _ => rfl⟩ p1]; exact ⟨nd1, fun _ => rfl⟩, Nat.le_refl _⟩ (fun i σ H' _ ⟨_, _, _, _, p, _⟩ => p) ?_ ?_
    · rintro i v σ Hb0 Hb hi ⟨v3, v4, l, rfl, ddb, ob, eDb, dib, hlb⟩ ⟨q0, a, b, rfl, n_q0, rfl, e1, e2⟩
      rw [kvI_length] at hi
      obtain ⟨⟨x, y⟩, exy⟩ : ∃ p, l2[i]? = some p := ⟨_, List.getElem?_eq_getElem hi⟩
      have ek : (kvI l2)[i]? = some (Sum.inl x, V.int y) := by unfold kvI; rw [List.getElem?_map, exy]; rfl
      dsimp only at e1 e2
      rw [ek] at e1 e2
      cases e1; cases e2
      have hy := p2 _ (List.mem_of_getElem? exy)
      dsimp only at hy
      generalize g_q0 : L2.upd _ q0 _ = Hc
      obtain ⟨s_Hc, e_q0⟩ := U.upd_facts g_q0 n_q0
      clear g_q0
      have eDc := s_Hc _ _ eDb
      have ddc := s_Hc _ _ ddb
      refine ⟨q0, [.int x, .int y], rfl, SqT.of e_q0, rfl, .int x, [.int y], rfl, .int y, [], rfl, rfl, ?_⟩
      have g := dgetL eDc dib x
      refine ⟨_, rfl, D, rfl, isD_of eDc, _, rfl, _, g, ?_⟩
      rw [getDI0]
      refine ⟨_, rfl, _, _, rfl, rfl, _, rfl, _, rfl, D, _, rfl, DPut.k (k := Sum.inl _) eDc (small1000 (by rw [kvI_length]; omega)), ?_⟩
      obtain ⟨l', e', hl', di'⟩ := di_putZ dib x ((toPF (bag (l1 ++ l2.take i)) x).getD 0 + y)
      rw [e']
      have nn : 0 ≤ bag (l1 ++ l2.take i) x := bag_nn (fun q hq => by
        rcases List.mem_append.mp hq with h | h
        · exact Int.le_of_lt (p1 _ h)
        · exact Int.le_of_lt (p2 _ (List.mem_of_mem_take h))) x
      rw [toPF_add (by omega)] at di'
      refine ⟨_, _, l', rfl, ?_, ?_, upd_same, ?_, by omega⟩
      · rw [upd_ne nd2]; exact ddc
      · exact fun b o h1 h2 e => by rw [upd_ne h1]; exact s_Hc _ _ (ob b o h1 h2 e)
      · rw [take_more exy, ← List.append_assoc]; exact di'
    · rintro σ Hb ⟨v3, v4, l, rfl, ddb, ob, eDb, dib, hlb⟩
      rw [kvI_length, List.take_length] at dib
      rw [kvI_length] at hlb
      refine ⟨ddb, _, rfl, q D l _ (fun b o e => ?_) n_D ?_ dib hlb⟩
      · by_cases h : b = d2
        · subst h
          rw [upd_same]
          rw [h2] at e
          exact e
        · rw [upd_ne h]
          exact ob b o (ne_of_none e n_D) h (s_H1 _ _ e)
      · rw [upd_ne nd2.symm]; exact eDb
end
end My
namespace My
open PySem L2 U StX PM
section
variable {P : Program} {w : World} {K : PySem.W.Frag} {mg : Str → Option Value} {base : Heap}
noncomputable def leftL (n : Int) (f : PF) (st : List Int) : List Int := (rgI n.toNat).filter fun x => !decide (x ∈ seenL f st)
structure LPrt (n : Int) (f : PF) (H H' : Hp) (rw Lw lf : Addr) (S : List Int) (ps as : List Addr) (st : List Int) : Prop where
  sm : Same H H'
  hl : H' rw = some (.lst (ps.map V.ref))
  hw : H' Lw = some (.lst (S.map V.int))
  hf : H' lf = some (.lst ((leftL n f st).map V.int))
  nf : lf ≠ rw
  hp : PairsAt H' ps as (st.map (clo f))
  hr : RowsAt H' as (st.map (rowN f))
  nr : rw ∉ as
def spLParts : Sp := fun vs H Q _ => ∃ d l n f, vs = [.ref d, .int n] ∧ H d = some (.dK (kvI l)) ∧ DI l f ∧ WF n f ∧ 1 ≤ n ∧ n ≤ 300 ∧ l.length ≤ 1000 ∧
  ∀ r ps as H', Same H H' → H' r = some (.lst (ps.map V.ref)) → PairsAt H' ps as ((nons n f ++ cycS n f).map (clo f)) → RowsAt H' as ((nons n f ++ cycS n f).map (rowN f)) → Q (.ref r) H'
theorem vals_nonT {n : Int} {l : List (Int × Int)} {f : PF} (di : DI l f) (wf : WF n f) (x : Int) : decide (x ∈ l.map (·.2)) = !nonT n f x := by
  cases h : nonT n f x with
  | true =>
    have := (nonT_iff wf).mp h
    refine decide_eq_false fun hm => ?_
    obtain ⟨⟨a, b⟩, hp, rfl⟩ := List.mem_map.mp hm
    exact this a (di.mem.mp hp)
  | false =>
    refine decide_eq_true ?_
    unfold nonT at h
    cases e : inv n f x with
    | none => rw [e] at h; cases h
    | some y => exact List.mem_map.mpr ⟨(y, x), di.mem.mpr ((inv_iff wf).mp e), rfl⟩
theorem kvI_vals (l : List (Int × Int)) : (kvI l).map (·.2) = (l.map (·.2)).map V.int := by
  unfold kvI
  rw [List.map_map, List.map_map]
  rfl
theorem leftL_more (n : Int) (f : PF) (st : List Int) (x : Int) : (leftL n f st).filter (fun y => !decide (y ∈ rowN f x)) = leftL n f (st ++ [x]) := by
  unfold leftL
  rw [List.filter_filter]
  refine List.filter_congr fun y _ => ?_
  have : y ∈ seenL f (st ++ [x]) ↔ y ∈ seenL f st ∨ y ∈ rowN f x := by
    rw [mem_seenL, mem_seenL]
    constructor
    · rintro ⟨e, h1, h2⟩
      rcases List.mem_append.mp h1 with h1 | h1
      · exact .inl ⟨e, h1, h2⟩
      · rw [List.mem_singleton] at h1; subst h1; exact .inr h2
    · rintro (⟨e, h1, h2⟩ | h)
      · exact ⟨e, List.mem_append_left _ h1, h2⟩
      · exact ⟨x, by simp, h⟩
  by_cases h1 : y ∈ seenL f st <;> by_cases h2 : y ∈ rowN f x <;> simp [this, h1, h2]
theorem for_catL {K : PySem.W.Frag} {t u : TE} {g : TG} {tb : TS} {D : Ends} {σ : L2.St} {H : Hp} (h : t σ H (fun x H1 => u σ H1 fun y H2 => rCat x y H2 fun z H3 => ∃ a, z = .ref a ∧ (∃ xs, SqL K H3 a xs) ∧ tFor (fun _ H R => R (Itl K a) H) g tb D σ H3)) :
    tFor (iList K (tOp rCat t u)) g tb D σ H := h
theorem leftL_nil (n : Int) (f : PF) : leftL n f [] = rgI n.toNat := by
  unfold leftL
  refine List.filter_eq_self.mpr fun x _ => ?_
  simp [seenL]
theorem mem_leftL {n : Int} {f : PF} {st : List Int} {x : Int} : x ∈ leftL n f st ↔ (0 ≤ x ∧ x < ((n.toNat : Nat) : Int)) ∧ x ∉ seenL f st := by
  unfold leftL
  rw [List.mem_filter, mem_rgI]
  simp
theorem ok_l_parts (T : Txt K mg) : FnR P w K mg base CX0 1 T.f_l_parts spLParts := by
  refine T.A_l_parts.ok sc_l_parts (fun vs H Q E h => ?_) (fun cdv A outer s H vs Q E hr h => ?_)
  · obtain ⟨d, l, n, f, rfl, _⟩ := h
    rfl
  · obtain ⟨d, l, n, f, rfl, hd, di, wf, n1, n3, hl, q⟩ := h
    have hu := hu_of hr
    refine ⟨_, pss_cons (ps_set (i := 2) sc_l_parts.nd rfl (Or.inr rfl) (pe_listVals rfl (pv 0) rfl T.n_list (by decide +kernel)))
      (pss_cons (ps_par (i := 3) (j := 4) rfl sc_l_parts.nd rfl rfl (by decide) rfl rfl (pa_cons (pe_lst pa_nil) (pa_cons (pe_listRg rfl rfl T.n_list (prg_1 rfl T.n_range (pv 1))) pa_nil)) (by rfl))
      (pss_cons (ps_for PassesOwn.never rfl (pi_list (pe_op op_cat (pe_lc (own := [("_law_element", 7)]) (g := gName 7) (tt := tTest (tOp (rIn K true) (tVar 7) (tVar 2))) rfl sc_l_parts.nd (pi_list (pv 4))
          (blkOk_by (own := [("_law_element", 7)]) (N := n_l_parts) (sc := defScope s_l_parts) (by decide +kernel))
          (fun _ _ _ _ _ => pg_name (i := 7) sc_l_parts.nd rfl (Or.inl rfl)) (fun _ _ _ _ _ => pts_one (pt_cmpR op_notIn_seq (pv 7) (pv 2) (by rfl))) (fun _ _ _ _ _ => pv 7)) (pv 4))) (pg_name (i := 5) sc_l_parts.nd rfl (Or.inl rfl))
        (pss_one (ps_if (pt_cmpR op_in_seq (pv 5) (pv 4) (by rfl))
          (pss_cons (ps_set (i := 6) sc_l_parts.nd rfl (Or.inr rfl) (pe_lst (pa_cons (pv 5) pa_nil)))
          (pss_cons (ps_while PassesOwn.never (PW.pt (pw_and (pt_cmp (pc_din hu (pe_ix ix_list (pv 6) (pe_un un_neg pe_int) (fun _ _ => rfl)) (pv 0)))
            (pw_and1 (pt_cmpR op_ne (pe_dget hu (pv 0) (pe_ix ix_list (pv 6) (pe_un un_neg pe_int) (fun _ _ => rfl)) (fun _ _ => rfl)) (pv 5) (nomark _)))))
            (pss_one (ps_expr (pe_bm PySem.F.plainAttrs_list PySem.F.slot_list_append PySem.F.type_list_append mt_append (pv 6) (pa_cons (pe_dget hu (pv 0) (pe_ix ix_list (pv 6) (pe_un un_neg pe_int) (fun _ _ => rfl)) (fun _ _ => rfl)) pa_nil)))))
          (pss_cons (ps_expr (pe_bm PySem.F.plainAttrs_list PySem.F.slot_list_append PySem.F.type_list_append mt_append (pv 3) (pa_cons (pe_tup (pa_cons (pv 6) (pa_cons (pe_cmp (pc_din hu (pe_ix ix_list (pv 6) (pe_un un_neg pe_int) (fun _ _ => rfl)) (pv 0))) pa_nil))) pa_nil)))
          (pss_one (ps_setLc (i := 4) (own := [("_law_element", 7)]) (g := gName 7) (tt := tTest (tOp (rIn K true) (tVar 7) (tVar 6))) rfl sc_l_parts.nd rfl rfl (sw_true rfl rfl rfl (by decide +kernel)) (pi_list (pv 4))
            (blkOk_by (own := [("_law_element", 7)]) (N := n_l_parts) (sc := defScope s_l_parts) (by decide +kernel))
            (fun _ _ _ _ _ => pg_name (i := 7) sc_l_parts.nd rfl (Or.inl rfl)) (fun _ _ _ _ _ => pts_one (pt_cmpR op_notIn_seq (pv 7) (pv 6) (by rfl))) (fun _ _ _ _ _ => pv 7)))))) pss_nil)))
      (pss_one (ps_ret (pv 3))))), ?_⟩
    refine ⟨_, rfl, d, _, rfl, hd, fun en hen => ?_⟩
    rw [kvI_vals]
    have s1 : Same H (upd H en (.lst ((l.map (·.2)).map V.int))) := Same.new hen
    refine ⟨(by show 0 ≤ sizeLine; decide), fun rw0 hrw => ?_⟩
    refine ⟨_, rfl, n, rfl, RgOk.of_le (by decide) (by omega) (by decide) (by omega), fun lf hlf => ?_⟩
    refine ⟨_, _, rfl, ?_⟩
    rw [rg0]
    have nlr : lf ≠ rw0 := fun e => by rw [e, upd_same] at hlf; cases hlf
    have hlf0 : H lf = none := s1.free ((Same.new hrw).free hlf)
    have hrw0 : H rw0 = none := s1.free hrw
    have s3 := ((Same.new (o := .lst []) hrw).trans (Same.new (o := .lst (((List.range n.toNat).map fun (i : Nat) => (i : Int)).map V.int)) hlf))
    have hen3 := s3 _ _ (upd_same (H := H) (a := en) (o := .lst ((l.map (·.2)).map V.int)))
    dsimp only [tSeq]
    refine for_catL ?_
    refine lc_ints (a := lf) (xs := rgI n.toNat) (H := upd (upd (upd H en (.lst ((l.map (·.2)).map V.int))) rw0 (.lst [])) lf (.lst (((List.range n.toNat).map fun (i : Nat) => (i : Int)).map V.int))) (fun x => nonT n f x) (fun x => .int x) (fun R r => ⟨_, rfl, r⟩) upd_same (fun _ => rfl)
      (fun x hx H1 s1' => ⟨fun R r => ?_, fun _ R r => ⟨_, rfl, r⟩⟩) (small1000 (by simp [rgI]; omega)) (fun L1 H3 nL1 hL1 s4 => ?_)
    · refine ⟨_, rfl, _, rfl, en, _, rfl, .inl (SqL.of (s1' _ _ hen3)), rfl, flat_ints _, _, rfl, ?_⟩
      rw [if_pos rfl, inV_ints, vals_nonT di wf, Bool.not_not]
      exact r
    have hlf3 : H3 lf = some (.lst ((rgI n.toNat).map V.int)) := s4 _ _ upd_same
    have lln : (nons n f).length ≤ n.toNat := Nat.le_trans (List.length_filter_le _ _) (by simp [rgI])
    refine ⟨_, rfl, L1, lf, _, _, rfl, rfl, hL1, hlf3, ?_, fun Lw hLw => ?_⟩
    · rw [List.length_map, List.length_map]
      show (nons n f).length + (rgI n.toNat).length ≤ _
      have lrg : (rgI n.toNat).length = n.toNat := by simp [rgI]
      exact Nat.le_trans (by omega : _ ≤ 1000) (by decide)
    rw [← List.map_append]
    refine ⟨Lw, rfl, ⟨_, SqL.of upd_same⟩, ?_⟩
    obtain ⟨S, eS⟩ : ∃ S, S = nons n f ++ rgI n.toNat := ⟨_, rfl⟩
    have hS : ∀ x ∈ S, 0 ≤ x ∧ x < n := fun x hx => by
      rw [eS] at hx
      rcases List.mem_append.mp hx with h | h
      · have := nons_dom h; exact ⟨this.1, this.2.1⟩
      · have := mem_rgI.mp h; omega
    rw [show (rgI n.toNat).filter (fun x => nonT n f x) ++ rgI n.toNat = S from eS.symm]
    have s5 := s4.trans (Same.new (o := .lst (S.map V.int)) hLw)
    have nrl : rw0 ≠ lf := nlr.symm
    have rw3 : H3 rw0 = some (.lst []) := s4 _ _ (by rw [upd_ne nrl]; exact upd_same)
    have nLr : Lw ≠ rw0 := fun e => by rw [e, rw3] at hLw; cases hLw
    have nLf : Lw ≠ lf := fun e => by rw [e, hlf3] at hLw; cases hLw
    refine for_it (walk_list (xs := S.map V.int)) (fun i σ H' => ∃ v5 v6 v7 lf ps as, σ = [some (.ref d), some (.int n), some (.ref en), some (.ref rw0), some (.ref lf), v5, v6, v7] ∧ LPrt n f (upd H en (.lst ((l.map (·.2)).map V.int))) H' rw0 Lw lf S ps as (selL f [] (S.take i)))
      ⟨none, none, none, lf, [], [], rfl, s3.trans s5, ?_, upd_same, ?_, nlr, trivial, trivial, fun h => nomatch h⟩ (fun i σ H' _ ⟨_, _, _, _, _, _, _, p⟩ => SqL.of p.hw) ?_ ?_
    · rw [upd_ne nLr.symm]; exact rw3
    · rw [upd_ne nLf.symm, show selL f [] (S.take 0) = [] from rfl, leftL_nil]; exact hlf3
    · rintro i v σ H' H'' hi ⟨v5, v6, v7, lf, ps, as, rfl, p⟩ ⟨rfl, ev⟩
      rw [List.length_map] at hi
      obtain ⟨x, ex⟩ : ∃ y, S[i]? = some y := ⟨_, List.getElem?_eq_getElem hi⟩
      have ev' : v = .int x := by
        have := get_map ex
        rw [this] at ev
        exact (Option.some.inj ev).symm
      subst ev'
      obtain ⟨x0, x1⟩ := hS x (List.mem_of_getElem? ex)
      obtain ⟨st, est⟩ : ∃ st, st = selL f [] (S.take i) := ⟨_, rfl⟩
      have est1 : selL f [] (S.take (i + 1)) = stp f st x := by rw [take_more ex, selL_one, ← est]
      rw [← est] at p
      refine ⟨_, rfl, _, rfl, lf, _, rfl, .inl (SqL.of p.hf), rfl, flat_ints _, _, rfl, ?_⟩
      rw [if_neg Bool.false_ne_true, inV_ints]
      obtain ⟨c, ec, hc1, hc2⟩ := selL_sub f (S.take i) []
      rw [← est, List.nil_append] at ec
      subst ec
      have lst : st.length ≤ i := Nat.le_trans hc1.length_le (by rw [List.length_take]; omega)
      have lS : S.length ≤ 600 := by rw [eS, List.length_append]; simp [rgI]; omega
      have lps := p.hp.len.2
      rw [List.length_map] at lps
      refine ifD (fun hin => ?_) (fun hin => ?_)
      · have hns := (mem_leftL.mp hin).2
        refine ⟨_, rfl, (by show 1 ≤ sizeLine; decide), fun r hr0 => ?_⟩
        have row0 : Row f x ([] ++ [x]) := ⟨rfl, fun i a b h1 h2 => by simp at h2⟩
        have nrr : r ≠ rw0 := fun e => by rw [e, p.hl] at hr0; cases hr0
        show tSeq (tWhile _ _) (tSeq _ _) _ _ _
        refine seq_cut (fun σ H2 => ∃ pre z, σ = [some (.ref d), some (.int n), some (.ref en), some (.ref rw0), some (.ref lf), some (.int x), some (.ref r), v7] ∧ H2 r = some (.lst ((pre ++ [z]).map V.int)) ∧ Same H'' H2 ∧ Row f x (pre ++ [z]) ∧ (f z = none ∨ f z = some x)) (fun nx fin => ?_) ?_
        refine ⟨fun m σ H2 => ∃ pre z, σ = [some (.ref d), some (.int n), some (.ref en), some (.ref rw0), some (.ref lf), some (.int x), some (.ref r), v7] ∧ H2 r = some (.lst ((pre ++ [z]).map V.int)) ∧ Same H'' H2 ∧ Row f x (pre ++ [z]) ∧ m = 300 - pre.length, ⟨300, [], x, rfl, upd_same, Same.new hr0, row0, rfl⟩, ?_⟩
        rintro m σ H2 ⟨pre, z, rfl, p1, p2, p3, rfl⟩
        have hd' := (s1.trans (p.sm.trans p2)) _ _ hd
        have hlen := len_range (p3.nd wf) (p3.dom wf x0 x1)
        rw [List.length_append, List.length_singleton] at hlen
        refine ⟨_, rfl, 1, rfl, r, _, -1, .int z, rfl, rfl, SqL.of p1, lastI _ _, _, rfl, d, _, rfl, dgetI hd' di z, _, rfl, ?_⟩
        cases hz : f z with
        | none => exact iteF (iteF (fin _ _ ⟨pre, z, rfl, p1, p2, p3, .inl hz⟩))
        | some y =>
          refine iteT ?_
          refine ⟨_, rfl, _, rfl, 1, rfl, r, _, -1, .int z, rfl, rfl, SqL.of p1, lastI _ _, d, .int y, rfl, ?_, _, rfl, rfl, _, rfl, ?_⟩
          · have := dgetI hd' di z
            rw [hz] at this
            exact this
          have nr : d ≠ r := ne_of_none ((s1.trans p.sm) _ _ hd) hr0
          refine ifN (fun hne => ?_) (fun heq => ?_)
          · have hne' : y ≠ x := fun z => hne (congrArg V.int z)
            have row' := p3.more hz hne'
            have hlen' := len_range (row'.nd wf) (row'.dom wf x0 x1)
            rw [List.length_append, List.length_append, List.length_singleton, List.length_singleton] at hlen'
            refine ⟨fun σ' H2 => ∃ m', m' < 300 - pre.length ∧ _, fun _ _ h => h, ?_⟩
            refine ⟨_, rfl, .inl ⟨rfl, _, SqL.of p1⟩, _, rfl, _, rfl, 1, rfl, r, _, -1, .int z, rfl, rfl, SqL.of p1, lastI _ _, d, .int y, rfl, ?_, r, _, .int y, rfl, rfl, p1, ?_, ?_⟩
            · have := dgetI hd' di z
              rw [hz] at this
              exact this
            · rw [List.length_map, List.length_append, List.length_singleton]
              exact small1000 (by omega)
            · refine ⟨300 - (pre ++ [z]).length, by rw [List.length_append, List.length_singleton]; omega, pre ++ [z], y, rfl, ?_, ?_, row', rfl⟩
              · rw [upd_same, List.map_append (l₁ := pre ++ [z])]
                rfl
              · exact Same.put p2 hr0
          · have : y = x := V.int.inj heq
            subst this
            exact fin _ _ ⟨pre, z, rfl, p1, p2, p3, .inr hz⟩
        rintro σ H2 ⟨pre, z, rfl, p1, p2, p3, ho⟩
        have hd' := (s1.trans (p.sm.trans p2)) _ _ hd
        have hrow : IsRow f x (pre ++ [z]) := ⟨pre, z, rfl, p3, ho⟩
        have hclo := clo_eq hrow
        have p1' : H2 r = some (.lst ((rowN f x).map V.int)) := by rw [rowN_eq hrow]; exact p1
        refine ⟨_, rfl, .inl ⟨rfl, _, SqL.of (p2 _ _ p.hl)⟩, _, rfl, _, rfl, 1, rfl, r, _, -1, .int z, rfl, rfl, SqL.of p1, lastI _ _, _, rfl, d, _, rfl, dgetI hd' di z, (by show 2 ≤ sizeLine; decide), fun tp htp => ?_⟩
        rw [Option.isSome_map, ← hclo]
        have s6 : Same H2 (upd H2 tp (.tup [.ref r, .bl (clo f x)])) := Same.new htp
        have hrl := (p2.trans s6) _ _ p.hl
        refine ⟨rw0, _, .ref tp, rfl, rfl, hrl, by rw [List.length_map]; exact small1000 (by omega), ?_⟩
        have s7 : Same (upd H en (.lst ((l.map (·.2)).map V.int))) (upd (upd H2 tp (.tup [.ref r, .bl (clo f x)])) rw0 (.lst (ps.map V.ref ++ [.ref tp]))) := Same.put ((p.sm.trans p2).trans s6) hrw
        have hf7 : (upd (upd H2 tp (.tup [.ref r, .bl (clo f x)])) rw0 (.lst (ps.map V.ref ++ [.ref tp]))) lf = some (.lst ((leftL n f st).map V.int)) := by rw [upd_ne p.nf]; exact (p2.trans s6) _ _ p.hf
        have hr7 : (upd (upd H2 tp (.tup [.ref r, .bl (clo f x)])) rw0 (.lst (ps.map V.ref ++ [.ref tp]))) r = some (.lst ((rowN f x).map V.int)) := by rw [upd_ne nrr]; exact s6 _ _ p1'
        have lfl : (leftL n f st).length ≤ 300 := by
          unfold leftL
          exact Nat.le_trans (List.length_filter_le _ _) (by simp [rgI]; omega)
        dsimp only
        refine asg_of ?_
        refine lc_ints (a := lf) (xs := leftL n f st) (H := upd (upd H2 tp (.tup [.ref r, .bl (clo f x)])) rw0 (.lst (ps.map V.ref ++ [.ref tp]))) (fun y => !decide (y ∈ rowN f x)) (fun y => .int y) (fun R r => ⟨_, rfl, r⟩) hf7 (fun _ => rfl)
          (fun y hy H1 s1' => ⟨fun R rr => ?_, fun _ R rr => ⟨_, rfl, rr⟩⟩) (small1000 (by omega)) (fun lf2 H8 nlf2 hlf2 s8 => ?_)
        · refine ⟨_, rfl, _, rfl, r, _, rfl, .inl (SqL.of (s1' _ _ hr7)), rfl, flat_ints _, _, rfl, ?_⟩
          rw [if_pos rfl, inV_ints]
          exact rr
        refine ⟨_, _, _, lf2, ps ++ [tp], as ++ [r], rfl, ?_⟩
        rw [est1, show stp f st x = st ++ [x] from by unfold stp; rw [if_neg hns]]
        have hpp : PairsAt (upd H2 tp (.tup [.ref r, .bl (clo f x)])) (ps ++ [tp]) (as ++ [r]) ((st ++ [x]).map (clo f)) := by
          rw [List.map_append]
          exact ((p.hp.same p2).same s6).snoc upd_same
        refine ⟨s7.trans s8, s8 _ _ (by rw [upd_same, List.map_append]; rfl), ?_, ?_, ?_, ?_, ?_, ?_⟩
        · exact s8 _ _ (by rw [upd_ne nLr]; exact (p2.trans s6) _ _ p.hw)
        · rw [leftL_more] at hlf2; exact hlf2
        · exact fun e => by rw [e, upd_same] at nlf2; cases nlf2
        · exact (hpp.off hrl (fun xs z => by cases z)).same s8
        · rw [List.map_append]
          exact ((((p.hr.same p2).same s6).off p.nr).snoc hr7).same s8
        · intro hm
          rcases List.mem_append.mp hm with hm | hm
          · exact p.nr hm
          · rw [List.mem_singleton] at hm; exact nrr hm.symm
      · have hs : x ∈ seenL f st := Classical.byContradiction fun h => hin (mem_leftL.mpr ⟨⟨x0, by omega⟩, h⟩)
        refine ⟨_, v6, v7, lf, ps, as, rfl, ?_⟩
        rw [est1]
        unfold stp
        rw [if_pos hs]
        exact p
    · rintro σ H' ⟨v5, v6, v7, lf, ps, as, rfl, p⟩
      rw [List.length_map, List.take_length, eS, sel_all wf] at p
      exact ⟨_, rfl, q rw0 ps as H' (s1.trans p.sm) p.hl p.hp p.hr⟩
end
end My
set_option maxHeartbeats 600000
namespace U
open PySem PySem.Spec PyProof.Rows L2
/-! ### dicts whose keys are None and truth values -/
def oV : Option Bool → V
  | none => .non
  | some b => .bl b
def oVal : Option Bool → Value
  | none => .none
  | some b => .bool b
theorem oV_rel (k : Option Bool) : RelV (oV k) (oVal k) := by cases k <;> exact rfl
theorem oV_val {k : Option Bool} {u : Value} (h : RelV (oV k) u) : u = oVal k := by cases k <;> exact h
def isO : Option Bool → Value → Bool
  | none, .none => true
  | some k, .bool b => b == k
  | _, _ => false
theorem isO_shape {k : Option Bool} {v : Value} (h : isO k v = true) : v = oVal k := by
  cases k <;> cases v <;> first
    | rfl
    | exact congrArg Value.bool (eq_of_beq h)
    | exact absurd h Bool.false_ne_true
theorem isO_self (k : Option Bool) : isO k (oVal k) = true := by
  cases k with
  | none => rfl
  | some b => exact beq_self_eq_true b
def hO : Option Bool → Int
  | none => reduceHash 0xFCA86420
  | some b => PpSet.hB b
theorem pyHash_non {prog : Program} {w : World} {A : Around} {E : Value → Shared → Prop} {s : Shared} {Q : Int → Shared → Prop} (h : Q (hO none) { s with toks := s.toks + 1 }) :
    wpAny (model prog w) A (pyHash .none) Q E s :=
  W.pyHash_slot (T := "NoneType") rfl F.slot_NoneType_hash F.entry_NoneType_hash (F.args_NoneType_hash_1 _) (beq_builtin_none _) (.inl rfl) (wpAny_bind (wpAny_pure (wpAny_bind (wpAny_mkInt (wpAny_pure ⟨_, _, rfl, h⟩)))))
theorem oeq (a b : Option Bool) {A : Around} {s : Shared} : SeqAt.EqAt A s (oVal a) (oVal b) (decide (a = b)) := by
  cases a with
  | none =>
    cases b with
    | none => exact SeqAt.EqAt.same _
    | some b => exact SeqAt.EqAt.none_bool b
  | some a =>
    cases b with
    | none => exact SeqAt.EqAt.bool_none a
    | some b =>
      have := SeqAt.EqAt.bool_bool (A := A) (s := s) a b
      rw [show decide (some a = some b) = (a == b) by cases a <;> cases b <;> rfl]
      exact this
def oddK (prog : Program) (w : World) : PySem.KeyKind prog w (Option Bool) where
  is := isO
  hash := hO
  inj := fun v a b ha hb => by
    have e1 := isO_shape ha
    have e2 := isO_shape hb
    rw [e1] at e2
    cases a with
    | none =>
      cases b with
      | none => rfl
      | some b => exact nomatch e2
    | some a =>
      cases b with
      | none => exact nomatch e2
      | some b => rw [Value.bool.inj e2]
  byValue := fun k v h => by rw [isO_shape h]; cases k <;> rfl
  pyHash := fun {A E s k v Q} hv h => by
    rw [isO_shape hv]
    cases k with
    | none => exact pyHash_non h
    | some b => exact PpSet.pyHash_bool h
  eqBool := fun {A E s a b u v Q} hu hv h => by
    rw [isO_shape hu, isO_shape hv]
    exact oeq a b _ _ _ _ h
  «strs» := fun k x t v h => by cases k <;> exact absurd h Bool.false_ne_true
def OddO (P : Program) (w : World) (a : Addr) (ep : Nat) (kvs : List (Option Bool × V)) : HO := .ext fun h => (a == sysModules) = false ∧ ∃ vs, KV kvs vs ∧ h.DictAt (oddK P w) a vs ep
def OddD (P : Program) (w : World) (H : Hp) (a : Addr) (kvs : List (Option Bool × V)) : Prop := ∃ ep, H a = some (OddO P w a ep kvs)
section
variable {P : Program} {w : World} {H H' : Hp} {h : Heap} {a : Addr} {ep : Nat} {kvs : List (Option Bool × V)}
theorem OddD.same (x : OddD P w H a kvs) (s : Same H H') : OddD P w H' a kvs := by
  obtain ⟨ep, e⟩ := x
  exact ⟨ep, s _ _ e⟩
theorem oddO_ok {vs : List (Option Bool × Value)} (hs : (a == sysModules) = false) (k : KV kvs vs) (d : h.DictAt (oddK P w) a vs ep) : ObjOk P w H h a (OddO P w a ep kvs) :=
  ⟨⟨hs, vs, k, d⟩, (let ⟨o, _, ho, _⟩ := d; ⟨o, ho⟩), fun _ _ ⟨z, vs, k, d⟩ e => ⟨z, vs, k, d.at e⟩⟩
theorem odd_at (ok : HOk P w H h) (e : H a = some (OddO P w a ep kvs)) : (a == sysModules) = false ∧ ∃ vs, KV kvs vs ∧ h.DictAt (oddK P w) a vs ep := (ok a _ e).1
theorem kvO_get : ∀ {κ : Type} {kvs : List (κ × V)} {vs : List (κ × Value)} {i : Nat} {k : κ} {v : V}, KV kvs vs → kvs[i]? = some (k, v) → ∃ u, vs[i]? = some (k, u) ∧ RelV v u
  | _, _, _, i, k, v, .nil, e => by simp at e
  | _, (p :: ps), (q :: qs), 0, k, v, .cons r t, e => by
    simp only [List.getElem?_cons_zero, Option.some.injEq] at e
    subst e
    obtain ⟨q1, q2⟩ := q
    obtain ⟨r1, r2⟩ := r
    cases (show k = q1 from r1)
    exact ⟨q2, rfl, r2⟩
  | _, (p :: ps), (q :: qs), i + 1, k, v, .cons r t, e => by
    obtain ⟨u, h1, h2⟩ := kvO_get (i := i) t (by simpa using e)
    exact ⟨u, by simpa using h1, h2⟩
end
/-- isinstance(d, c) -/
def rIsD (P : Program) (w : World) (K : PySem.W.Frag) : List V → Hp → VK → Prop := fun xs H Q => ∃ (a : Addr) (c : V) (u : Value) (b : Bool) (kvs : List (Option Bool × V)), xs = [.ref a, c] ∧ ClsV c u ∧ OddD P w H a kvs ∧ PySem.W.kitOne K (.type "dict") u = some b ∧ Q (.bl b) H
theorem call_isD {X : Cx} : CallR X (.builtin "isinstance") (rIsD X.prog X.w X.K) := by
  intro pins s σ H xs us Q I r h
  obtain ⟨a, c, u, b, kvs, rfl, k, ⟨ep, e0⟩, e, q⟩ := h
  obtain ⟨u1, u2, rfl, r1, r2⟩ := vals2 r
  have e2 := k.eq r2
  subst e2
  cases (show u1 = Value.ref a from r1)
  obtain ⟨_, vs, _, o, es, h1, h2, _⟩ := odd_at I.hok e0
  have Z : PySem.W.KitX X.K (.ref a) (.type "dict") (PySem.W.KitAt a "dict") := PySem.W.kitx_dict
  have p : PySem.W.KitAt a "dict" s.heap := ⟨o, h1, h2.1⟩
  have hx : Value.ref a ≠ .builtin "__main__.__loader__#opaque" := Value.noConfusion
  exact PySem.W.kia_one Z I.kIn p e hx fun tk => ⟨.bl b, H, I.tok tk, rfl, q⟩
theorem vv_one {x y : V} {ws : List (Value × Value)} (h : VV [(x, y)] ws) : ∃ u1 u2, ws = [(u1, u2)] ∧ RelV x u1 ∧ RelV y u2 := by
  cases h with
  | cons g t =>
    cases t
    exact ⟨_, _, rfl, g.1, g.2⟩
theorem carO {P : Program} {w : World} (k : Option Bool) (u : Value) : Carries (oddK P w) [(oVal k, u)] [(k, u)] := ⟨isO_self k, rfl, True.intro⟩
theorem dict_nilO {P : Program} {w : World} {h : Heap} {a : Addr} (dd : h.DictOf (mixKind P w) a []) : h.DictOf (oddK P w) a [] := by
  obtain ⟨o, es, ep0, ho, hx, hdt, hk, hp, hnd⟩ := dd
  have hes : es.toList = [] := by
    cases z : es.toList with
    | nil => rfl
    | cons y ys =>
      rw [z] at hp
      cases hp
  refine ⟨o, es, ep0, ho, hx, hdt, fun e he => ?_, ?_, List.nodup_nil⟩
  · have : e ∈ es.toList := Array.mem_toList_iff.mpr he
    rw [hes] at this
    cases this
  · rw [hes]
    exact .nil
/-- {k: v} with one such key -/
def tDispO (P : Program) (w : World) (trs : List (TE × TE)) : TE := fun σ H Q => ∀ p, H p = none → tPairs trs σ (upd H p (.dK [])) fun ps H2 => H2 p = some (.dK []) ∧ ∃ (k : Option Bool) (v : V), ps = [(oV k, v)] ∧ ∀ ep, Q (.ref p) (upd H2 p (OddO P w p ep [(k, v)]))
theorem pe_dispO {X : Cx} {pos : Pos} {keys : List (Option Expr)} {values : List Expr} {trs : List (TE × TE)} (h : PPs X pos keys values trs) (hall : keys.all (·.isSome) = true) (hl : keys.length = values.length) (h0 : keys ≠ [])
    (h15 : keys.length ≤ 15) : PE X (.Dict keys values pos) (tDispO X.prog X.w trs) := by
  refine ⟨fun pins s σ H Q I q => ?_⟩
  have hn := I.hok.fresh (Nat.le_refl s.heap.objs.size)
  have I1 := I.laid (a := s.heap.objs.size) (o := .dK []) (h' := s.heap.push { cls := .type "dict", data := .dict #[] }) (t' := s.toks) (fun _ _ q => Heap.get?_push_of_some _ q) (Nat.le_refl _) (dk_empty s.heap I.big)
  refine wpAny_Dict_walk (knd := oddK X.prog X.w) hall hl h0 h15 (thn (h.run pins _ σ _ _ I1 (q _ hn)) fun ws s2 ⟨ps, H2, I2, rel, e, k, v, ep, q2⟩ => ?_)
  subst ep
  obtain ⟨z, hd, vs0, r0, dd⟩ := dk_of I2.hok e
  cases r0
  obtain ⟨u1, u2, rfl, g1, g2⟩ := vv_one rel
  have e1 := oV_val g1
  subst e1
  refine ⟨[(k, u2)], carO k u2, dict_nilO dd, fun h' dd' hs => ?_⟩
  obtain ⟨ep, da⟩ := dd'.dictAt
  have he : ∃ q, h'.get? s.heap.objs.size = some q := let ⟨q, _, hq, _⟩ := da; ⟨q, hq⟩
  have new : ObjOk X.prog X.w (upd H2 s.heap.objs.size (OddO X.prog X.w s.heap.objs.size ep [(k, v)])) h' s.heap.objs.size (OddO X.prog X.w s.heap.objs.size ep [(k, v)]) := oddO_ok hd (.cons ⟨rfl, g2⟩ .nil) da
  have I3 := d_write (t' := s2.toks + [(oVal k, u2)].length) I2 (by rw [e]; exact True.intro) hs he new
  exact ⟨.ref s.heap.objs.size, _, I3, rfl, q2 ep⟩
/-! ### for k, v in d.items() -/
def ItO (P : Program) (w : World) (d : Addr) (ep : Nat) (kvs : List (Option Bool × V)) : It :=
  ⟨fun i H => H d = some (OddO P w d ep kvs) ∧ i < kvs.length, fun i H x H' => ∃ T k v, kvs[i]? = some (k, v) ∧ x = .ref T ∧ H T = none ∧ H' = upd H T (.tup [oV k, v]), fun i H => H d = some (OddO P w d ep kvs) ∧ kvs.length ≤ i⟩
theorem walk_itemsO {P : Program} {w : World} {d : Addr} {ep : Nat} {kvs : List (Option Bool × V)} : Walk (ItO P w d ep kvs) kvs.length (fun H => H d = some (OddO P w d ep kvs)) (YPair (fun i => kvs[i]?.map fun kv => oV kv.1) (fun i => kvs[i]?.map Prod.snd)) := by
  refine ⟨fun _ _ hi q => ⟨q, hi⟩, fun _ q => ⟨q, Nat.le_refl _⟩, fun i H x H' _ _ y => ?_⟩
  obtain ⟨T, k, v, h1, h2, h3, h4⟩ := y
  exact ⟨T, oV k, v, h2, h3, h4, by simp [h1], by simp [h1]⟩
section
variable {P : Program} {w : World} {K : PySem.W.Frag} {d : Addr} {ep : Nat}
theorem turn_itemsO {kvs : List (Option Bool × V)} {elts : List Expr} {kk : Nat} {tpos : Pos} (it : Addr) :
    Turn P w K (.Tuple elts kk tpos) (ItO P w d ep kvs) [it] it (fun i h => ∃ ok ov, IsItemIter h it d i kvs.length ep ok ov) where
  mem := by simp
  obj := fun i h st b hb => by
    have e : b = it := by simpa using hb
    subst e
    obtain ⟨ok, ov, e⟩ := st
    exact ⟨_, e, fun v z => nomatch z⟩
  keep := fun i h h' st k => let ⟨ok, ov, e⟩ := st; ⟨ok, ov, k it (by simp) _ e⟩
  item := by
    intro X hP hw hK hc i pins s σ H E I hf st hg
    subst hP hw hK
    obtain ⟨hd, hi⟩ := hg
    obtain ⟨_, vs, kv, hm⟩ := odd_at I.hok hd
    obtain ⟨⟨k, v⟩, hkv⟩ : ∃ p, kvs[i]? = some p := ⟨kvs[i], List.getElem?_eq_getElem hi⟩
    obtain ⟨u, hu, ru⟩ := kvO_get kv hkv
    have hl : kvs.length = vs.length := Paired.length kv
    obtain ⟨ok, ov, he⟩ := st
    rw [hl] at he
    have hlt : it < s.heap.objs.size := Heap.lt_size he
    refine wpAny_pyNext_items_item he hm hu fun key h' hkey ho hT hz hk => ?_
    refine ⟨_, rfl, wpAny_letOwnedTupleGo_items (s := { s with heap := h' }) ho fun h'' he' sb => ?_⟩
    have hT2 : h''.get? s.heap.objs.size = some { cls := .type "tuple", data := .seq #[key, u] } := (sb.2 _ (Nat.ne_of_gt hlt)).trans hT
    have rk : RelV (oV k) key := by rw [isO_shape hkey]; exact oV_rel k
    have new : ObjOk X.prog X.w (upd H s.heap.objs.size (.tup [oV k, v])) h'' s.heap.objs.size (.tup [oV k, v]) :=
      ⟨by show 2 ≤ sizeLine; decide, [key, u], .cons rk (.cons ru .nil), ⟨_, hT2, rfl, _, rfl⟩⟩
    have I1 : Inv X pins σ (upd H s.heap.objs.size (.tup [oV k, v])) { s with heap := h'' } :=
      I.turnedNew (t' := s.toks) (ch := [it]) (fun b ob hb e => (sb.2 b (by simpa using hb)).trans (hk b ob (by simpa using hb) e)) hf (Nat.le_refl _) new
    refine ⟨.ref s.heap.objs.size, _, I1, rfl, ⟨_, k, v, hkv, rfl, I.hok.fresh (Nat.le_refl _), rfl⟩, ⟨key, u, ?_⟩, fun b hb => ?_⟩
    · rw [hl]; exact he'
    · have e : b = it := by simpa using hb
      rw [e, upd_ne (Nat.ne_of_lt hlt)]
      exact (hf it (by simp)).1
  done := by
    intro X hP hw hK hc i pins s σ H E I hf st hg
    subst hP hw hK
    obtain ⟨hd, hi⟩ := hg
    obtain ⟨f0, f1, f2, f3, f4, f5⟩ := hf it (by simp)
    obtain ⟨_, vs, kv, hm⟩ := odd_at I.hok hd
    have hl : kvs.length = vs.length := Paired.length kv
    obtain ⟨ok, ov, he⟩ := st
    rw [hl] at he
    exact wpAny_pyNext_items_end (I.ok.hd hc) he hm (List.getElem?_eq_none (by omega)) fun h' eb => ⟨rfl, I.turned (t' := s.toks) (fun b ob hb e => eb b ob hb e) f0 f1 f3 f4 f5⟩
  self := fun A i s Q E st h => let ⟨_, _, e⟩ := st; PySem.W.kcp_self e h
end
def iItemsO (P : Program) (w : World) (td : TE) : TI := fun σ H R => td σ H fun x H1 => ∃ d ep kvs, x = .ref d ∧ H1 d = some (OddO P w d ep kvs) ∧ R (ItO P w d ep kvs) H1
theorem pi_itemsO {X : Cx} {e : Expr} {td : TE} {apos cpos : Pos} {elts : List Expr} {kk : Nat} {tpos : Pos} (he : PE X e td) (hbase : attributeBase e "items" X.env (eval e X.env) = eval e X.env := by rfl) (hline : (apos.endLine == cpos.line) = true := by rfl) :
    PI X (.Tuple elts kk tpos) (.Call (.Attribute e "items" apos) [] [] cpos) (iItemsO X.prog X.w td) := by
  refine ⟨fun pins s σ H R I h => ?_⟩
  refine wpAny_Call_method (T := "dict") (id := "dict.items") hbase rfl hline F.plainAttrs_dict F.slot_dict_items F.type_dict_items (thn (he.run pins s σ H _ I h) fun u s1 ⟨x, H1, I1, rx, d, ep, kvs, ex, hd, q⟩ => ?_)
  subst ex
  obtain rfl : u = Value.ref d := rx
  obtain ⟨hs, vs, kv, hm⟩ := odd_at I1.hok hd
  have hl : kvs.length = vs.length := Paired.length kv
  refine ⟨hm.dictOf.typeIs, hm.dictOf.mapOf.noDict, ?_⟩
  have I2 : Inv X pins σ H1 { s1 with heap := s1.heap.push { cls := .type "dict_items", data := .fields #[.ref d] } } := I1.kept (t' := s1.toks) fun b ob q => Heap.get?_push_of_some _ q
  have fin : wpAny (model X.prog X.w) X.A (pyIter (.ref s1.heap.objs.size)) (PIE X pins σ (.Tuple elts kk tpos) R) X.xe { s1 with heap := s1.heap.push { cls := .type "dict_items", data := .fields #[.ref d] } } := by
    refine wpAny_pyIter_items (d := d) (knd := oddK X.prog X.w) ⟨_, Heap.get?_push_size _ rfl, rfl, rfl⟩ (hm.push _) (pi_one (tk := s1.toks) I2 _ (turn_itemsO _) ⟨.none, .none, ?_⟩ q)
    rw [hl]
    exact Heap.get?_push_size _ rfl
  show wpAny _ _ (callWith cpos (.builtin "dict.items") [.ref d] [] []) _ X.xe s1
  exact method_meetsIn F.slot_dict_items F.entry_dict_items rfl (PySem.evalArgs_none ⟨rfl, hm.dictOf.typeIs, F.args_dict_items_1 _, _, meets_dict_items (oddK X.prog X.w) d hs, ⟨vs, hm.dictOf⟩, fin⟩)
end U
set_option maxHeartbeats 1000000
namespace My
open PySem L2 U StX PM
/-! ### what counts are, any value -/
theorem fnR_or {P : Program} {w : World} {K : PySem.W.Frag} {mg : Str → Option Value} {base : Heap} {CX : CXT} {k : Nat} {f : Addr} {sp1 sp2 : Sp} (F1 : FnR P w K mg base CX k f sp1) (F2 : FnR P w K mg base CX k f sp2) : FnR P w K mg base CX k f (fun vs H Q E => sp1 vs H Q E ∨ sp2 vs H Q E) := fun A outer s H us vs Q E hr e0 r h => h.elim (fun h => F1 A outer s H us vs Q E hr e0 r h) (fun h => F2 A outer s H us vs Q E hr e0 r h)
def nonDV (H : Hp) : V → Prop
  | .non => True | .int _ => True | .ref a => ∃ xs, H a = some (.lst xs) | _ => False
def gc : Key × V → Bool
  | (.inl k, .int n) => decide (0 < k) && decide (0 < n)
  | _ => false
def scV : V → Prop
  | .non => True | .bl _ => True | .int _ => True | .str _ => True | _ => False
theorem scV.known {C : Addr} {H : Hp} {v : V} (h : scV v) : knownV C H v := by
  cases v <;> first | exact trivial | exact h.elim
theorem kV_known {C : Addr} {H : Hp} (k : Key) : knownV C H (kV k) := by cases k <;> exact trivial
theorem oV_known {C : Addr} {H : Hp} (k : Option Bool) : knownV C H (oV k) := by cases k <;> exact trivial
theorem oV_isI (k : Option Bool) : isI (oV k) = false := by cases k <;> rfl
inductive CntV (P : Program) (w : World) (H : Hp) : V → Bool → Prop
  | good {d : Addr} {l : List (Int × Int)} (h : H d = some (.dK (kvI l))) (p : Pos l) (nd : (l.map (·.1)).Nodup) (le : l.length ≤ 1000) : CntV P w H (.ref d) true
  | bad {d : Addr} {kv : Key × V} (h : H d = some (.dK [kv])) (s : scV kv.2) (g : gc kv = false) : CntV P w H (.ref d) false
  | odd {d : Addr} {k : Option Bool} {v : V} (h : OddD P w H d [(k, v)]) (s : scV v) : CntV P w H (.ref d) false
  | non {x : V} (h : nonDV H x) : CntV P w H x false
theorem nonDV.same {H H' : Hp} {x : V} (h : nonDV H x) (s : Same H H') : nonDV H' x := by
  cases x <;> first | exact h | (obtain ⟨xs, e⟩ := h; exact ⟨xs, s _ _ e⟩)
theorem CntV.same {P : Program} {w : World} {H H' : Hp} {x : V} {b : Bool} (h : CntV P w H x b) (s : Same H H') : CntV P w H' x b := by
  cases h with
  | good h p nd le => exact .good (s _ _ h) p nd le
  | bad h z g => exact .bad (s _ _ h) z g
  | odd h z => exact .odd (h.same s) z
  | non h => exact .non (h.same s)
def spArG (P : Program) (w : World) : Sp := fun vs H Q _ => ∃ x b, vs = [x] ∧ CntV P w H x b ∧ ∀ H', Same H H' → Q (.bl b) H'
def spAr2 : Sp := fun vs H Q _ => ∃ x, vs = [x] ∧ ((∃ d kv, x = .ref d ∧ H d = some (.dK [kv]) ∧ scV kv.2 ∧ gc kv = false) ∨ nonDV H x) ∧ ∀ H', Same H H' → Q (.bl false) H'
def spAr3 (P : Program) (w : World) : Sp := fun vs H Q _ => ∃ d k v, vs = [.ref d] ∧ OddD P w H d [(k, v)] ∧ scV v ∧ ∀ H', Same H H' → Q (.bl false) H'
section
variable {P : Program} {w : World} {K : PySem.W.Frag} {mg : Str → Option Value} {base : Heap}
theorem ok_ar2 (T : Txt K mg) : FnR P w K mg base CX0 3 T.f_are_counts spAr2 := by
  refine T.A_are_counts.ok sc_are_counts (fun vs H Q E h => ?_) (fun cdv A outer s H vs Q E hr h => ?_)
  · obtain ⟨d, rfl, _⟩ := h
    rfl
  · obtain ⟨x, rfl, hx, q⟩ := h
    refine ⟨_, (pss_cons (ps_if (pt_not (pt_val (pe_callB call_isi (by rfl) T.n_isinstance (by decide +kernel) (pa_cons (pv 0) (pa_cons (pe_bltn (v := .ty "dict") (u := .type "dict") (by rfl) T.n_dict (by decide +kernel) rfl) pa_nil)))))
        (pss_one (ps_ret pe_bl)) pss_nil)
      (pss_one (ps_ret (pe_callB (cr_all rfl) (by rfl) T.n_all (by decide +kernel) (pa_cons (pe_lock (pe_lc (own := [("one", 1), ("number", 2)]) (g := (gTup K 2 (gCons (gName 1) (gCons (gName 2) gNil)))) (tt := tYes) rfl sc_are_counts.nd (pi_items (pv 0)) (blkOk_by (own := [("one", 1), ("number", 2)]) (N := n_are_counts) (sc := defScope s_are_counts) (by decide +kernel)) (fun _ _ _ _ _ => (pg_tup rfl (pgs_cons (pg_name (i := 1) sc_are_counts.nd rfl (Or.inl rfl)) (pgs_cons (pg_name (i := 2) sc_are_counts.nd rfl (Or.inl rfl)) pgs_nil)))) (fun _ _ _ _ _ => pts_nil) (fun _ _ _ _ _ => (pe_and (pe_callR (ok_is_integer T) (hr.mono (by decide)) T.A_is_integer.kp rfl T.g_is_integer pass0 (pa_cons (pv 1) pa_nil)) (pe_and (pe_callR (ok_is_integer T) (hr.mono (by decide)) T.A_is_integer.kp rfl T.g_is_integer pass0 (pa_cons (pv 2) pa_nil)) (pe_and (pe_cmpR op_gt (pv 1) pe_int (nomark _)) (pe_one (pe_cmpR op_gt (pv 2) pe_int (nomark _))))))))) pa_nil))))), ?_⟩
    rcases hx with ⟨d, kv, rfl, hd, hs, hg⟩ | hx
    · refine ⟨_, rfl, _, _, _, _, true, rfl, .ty _, .base (.dK hd), kit_ty (by decide +kernel), _, rfl, iteF ?_⟩
      refine ⟨d, _, hd, trivial, fun od => ?_⟩
      refine ⟨_, rfl, d, od, _, rfl, upd_same, fun D hD => ?_⟩
      refine lc_it walk_items (fun k H' => H' d = some (.frz od (.dK [kv])) ∧ (∀ b o, b ≠ d → b ≠ D → H b = some o → H' b = some o) ∧ H' D = some (.lst (if k = 0 then [] else [.bl false])) ∧ D ≠ d) ⟨?_, ?_, upd_same, ?_⟩ (fun k H' _ p => p.1) ?_ ?_
      · rw [upd_ne (fun z => by rw [← z, upd_same] at hD; cases hD)]; exact upd_same
      · intro b o h1 h2 e
        rw [upd_ne h2, upd_ne h1]
        exact e
      · intro z
        rw [z, upd_same] at hD
        cases hD
      · rintro k v Ha0 Ha hk ⟨p1, p2, p3, p4⟩ ⟨q0, a, b, rfl, n_q0, rfl, e1, e2⟩
        have hk0 : k = 0 := by simpa using hk
        subst hk0
        cases e1; cases e2
        generalize g_q0 : L2.upd _ q0 _ = Hc
        obtain ⟨s_Hc, e_q0⟩ := U.upd_facts g_q0 n_q0
        clear g_q0
        refine ⟨q0, [kV kv.1, kv.2], rfl, SqT.of e_q0, rfl, kV kv.1, [kv.2], rfl, kv.2, [], rfl, rfl, ?_⟩
        refine ⟨rfl, yes_ ?_⟩
        have fin : ∃ acc : List V, Hc D = some (.lst acc) ∧ acc.length < sizeLine ∧ (upd Hc D (.lst (acc ++ [.bl false]))) d = some (.frz od (.dK [kv])) ∧ (∀ b o, b ≠ d → b ≠ D → H b = some o → (upd Hc D (.lst (acc ++ [.bl false]))) b = some o) ∧ (upd Hc D (.lst (acc ++ [.bl false]))) D = some (.lst (if 0 + 1 = 0 then [] else [.bl false])) ∧ D ≠ d := by
          refine ⟨[], s_Hc _ _ p3, by decide, ?_, fun b o h1 h2 e => ?_, upd_same, p4⟩
          · rw [upd_ne p4.symm]; exact s_Hc _ _ p1
          · rw [upd_ne h2]; exact s_Hc _ _ (p2 b o h1 h2 e)
        obtain ⟨k, v⟩ := kv
        refine ⟨_, rfl, _, rfl, kV_known k, _, rfl, ?_⟩
        cases k with
        | inr z => exact iteF fin
        | inl k =>
          refine iteT ⟨_, rfl, _, rfl, scV.known hs, _, rfl, ?_⟩
          cases v with
          | int n =>
            refine iteT ⟨_, rfl, _, _, rfl, rfl, _, rfl, ?_⟩
            refine ifD (fun h => ?_) (fun h => ?_)
            · refine ⟨_, rfl, _, _, rfl, rfl, ?_⟩
              have : decide (0 < n) = false := by
                simp only [gc, Bool.and_eq_false_iff, decide_eq_false_iff_not] at hg
                rcases hg with z | z
                · exact absurd h z
                · exact decide_eq_false z
              rw [show (fun i j => V.bl (decide (j < i))) n 0 = V.bl false by show V.bl (decide (0 < n)) = _; rw [this]]
              exact fin
            · exact fin
          | non => exact iteF fin
          | bl b => exact iteF fin
          | str z => exact iteF fin
          | ref a => exact hs.elim
          | byt a => exact hs.elim
          | flt a => exact hs.elim
          | ty a => exact hs.elim
      · rintro H' ⟨p1, p2, p3, p4⟩
        refine ⟨p1, ?_⟩
        have hl : (upd H' d (.dK [kv])) D = some (.lst ([false].map V.bl)) := by rw [upd_ne p4]; exact p3
        refine ⟨D, [false], rfl, SqL.of hl, q _ fun b o e => ?_⟩
        by_cases h : b = d
        · subst h
          rw [upd_same, ← hd]
          exact e
        · rw [upd_ne h]
          refine p2 b o h (fun z => ?_) e
          rw [z] at e
          rw [upd_ne p4, e] at hD
          cases hD
    · have hty : ∃ t, TyX K H x t ∧ PySem.W.kitOne K t (.type "dict") = some false := by
        cases x with
        | non => exact ⟨_, .base .non, kit_ty (r := false) (by decide +kernel)⟩
        | int i => exact ⟨_, .base (.int i), kit_ty (r := false) (by decide +kernel)⟩
        | ref a =>
          obtain ⟨xs, e⟩ := hx
          exact ⟨_, .base (.lst e), kit_ty (r := false) (by decide +kernel)⟩
        | _ => exact hx.elim
      obtain ⟨t, h1, h2⟩ := hty
      exact ⟨_, rfl, _, _, _, _, false, rfl, .ty _, h1, h2, _, rfl, iteT (q H (Same.refl _))⟩
theorem ok_ar3 (T : Txt K mg) : FnR P w K mg base CX0 3 T.f_are_counts (spAr3 P w) := by
  refine T.A_are_counts.ok sc_are_counts (fun vs H Q E h => ?_) (fun cdv A outer s H vs Q E hr h => ?_)
  · obtain ⟨d, k, v, rfl, _⟩ := h
    rfl
  · obtain ⟨d, k, v, rfl, ⟨ep, hd⟩, hs, q⟩ := h
    refine ⟨_, (pss_cons (ps_if (pt_not (pt_val (pe_callB call_isD (by rfl) T.n_isinstance (by decide +kernel) (pa_cons (pv 0) (pa_cons (pe_bltn (v := .ty "dict") (u := .type "dict") (by rfl) T.n_dict (by decide +kernel) rfl) pa_nil)))))
        (pss_one (ps_ret pe_bl)) pss_nil)
      (pss_one (ps_ret (pe_callB (cr_all rfl) (by rfl) T.n_all (by decide +kernel) (pa_cons (pe_lc (own := [("one", 1), ("number", 2)]) (g := (gTup K 2 (gCons (gName 1) (gCons (gName 2) gNil)))) (tt := tYes) rfl sc_are_counts.nd (pi_itemsO (pv 0)) (blkOk_by (own := [("one", 1), ("number", 2)]) (N := n_are_counts) (sc := defScope s_are_counts) (by decide +kernel)) (fun _ _ _ _ _ => (pg_tup rfl (pgs_cons (pg_name (i := 1) sc_are_counts.nd rfl (Or.inl rfl)) (pgs_cons (pg_name (i := 2) sc_are_counts.nd rfl (Or.inl rfl)) pgs_nil)))) (fun _ _ _ _ _ => pts_nil) (fun _ _ _ _ _ => (pe_and (pe_callR (ok_is_integer T) (hr.mono (by decide)) T.A_is_integer.kp rfl T.g_is_integer pass0 (pa_cons (pv 1) pa_nil)) (pe_and (pe_callR (ok_is_integer T) (hr.mono (by decide)) T.A_is_integer.kp rfl T.g_is_integer pass0 (pa_cons (pv 2) pa_nil)) (pe_and (pe_cmpR op_gt (pv 1) pe_int (nomark _)) (pe_one (pe_cmpR op_gt (pv 2) pe_int (nomark _)))))))) pa_nil))))), ?_⟩
    refine ⟨_, rfl, d, _, _, true, [(k, v)], rfl, .ty _, ⟨ep, hd⟩, kit_ty (by decide +kernel), _, rfl, iteF ?_⟩
    refine ⟨_, rfl, d, ep, _, rfl, hd, fun D hD => ?_⟩
    refine lc_it walk_itemsO (fun k H' => Same H H' ∧ H' D = some (.lst (if k = 0 then [] else [.bl false]))) ⟨Same.new hD, upd_same⟩ (fun k H' _ p => p.1 _ _ hd) ?_ ?_
    · rintro i v' Ha0 Ha hk ⟨p1, p2⟩ ⟨q0, a, b, rfl, n_q0, rfl, e1, e2⟩
      have hk0 : i = 0 := by simpa using hk
      subst hk0
      cases e1; cases e2
      generalize g_q0 : L2.upd _ q0 _ = Hc
      obtain ⟨s_Hc, e_q0⟩ := U.upd_facts g_q0 n_q0
      clear g_q0
      refine ⟨q0, [oV k, v], rfl, SqT.of e_q0, rfl, oV k, [v], rfl, v, [], rfl, rfl, ?_⟩
      refine ⟨rfl, yes_ ?_⟩
      refine ⟨_, rfl, _, rfl, oV_known k, _, rfl, ?_⟩
      rw [oV_isI]
      refine iteF ⟨[], s_Hc _ _ p2, by decide, Same.put (p1.trans s_Hc) hD, upd_same⟩
    · rintro H' ⟨p1, p2⟩
      exact ⟨D, [false], rfl, SqL.of p2, q _ p1⟩
theorem ok_arG (T : Txt K mg) : FnR P w K mg base CX0 3 T.f_are_counts (spArG P w) := by
  intro A outer s H us vs Q E hr e0 r h
  obtain ⟨x, b, rfl, hx, q⟩ := h
  refine fnR_or (ok_are_counts T) (fnR_or (ok_ar2 T) (ok_ar3 T)) A outer s H us [x] Q E hr e0 r ?_
  cases hx with
  | good h p nd le => exact .inl ⟨_, _, rfl, h, p, le, q⟩
  | bad h z g => exact .inr (.inl ⟨_, rfl, .inl ⟨_, _, rfl, h, z, g⟩, q⟩)
  | odd h z => exact .inr (.inr ⟨_, _, _, rfl, h, z, q⟩)
  | non h => exact .inr (.inl ⟨_, rfl, .inr h, q⟩)
end
end My
set_option maxHeartbeats 1000000
namespace My
open PySem L2 U StX PM
/-! ### shapes: errors, ==, repr, + -/
def partE (CE : Addr) (E : XK) (H : Hp) (z : Str) : Prop := ∀ H' d, Same H H' → H' d = none → E (.ref CE) (some d) (upd H' d (.xd [("part", .str z)]))
def spShX (P : Program) (w : World) (C CE : Addr) : Sp := fun vs H Q E => ∃ (s dx : Addr) (x y : V), vs = [.ref s, x, y] ∧ H s = some (.ins C dx []) ∧ ((CntV P w H x false ∧ partE CE E H "cycles") ∨ (CntV P w H x true ∧ CntV P w H y false ∧ partE CE E H "chains"))
def mid (i : Int) : Prop := i.natAbs < 10 ^ 40
theorem mid_log {i : Int} (h : mid i) : i.natAbs.log2 < 1920 := by
  unfold mid at h
  by_cases h0 : i.natAbs = 0
  · rw [h0]; decide
  · rw [Nat.log2_lt h0]
    exact Nat.lt_of_lt_of_le h (by decide +kernel)
theorem mid_len {i : Int} (h : mid i) : (Str.ofString (toString i)).length ≤ 41 := by
  have := int_text_length_le10 (a := i) (k := 40) (by decide) h
  rw [ofString_length]
  omega
theorem rowT_len' {p : Int × Int} (h1 : mid p.1) (h2 : mid p.2) : (rowT p).length ≤ 90 := by
  have a := mid_len h1
  have b := mid_len h2
  unfold rowT
  simp only [PyData.shown]
  rw [strLen_append, strLen_append]
  show _ + 2 + _ ≤ 90
  omega
theorem dI_len' {l : List (Int × Int)} (h : ∀ p ∈ l, mid p.1 ∧ mid p.2) (hl : l.length ≤ 100) : (dI l).shown.length ≤ 10000 := by
  rw [dI_shown]
  have h1 := dictText_len_le (l.map rowT)
  have h2 : ((l.map rowT).map (·.length)).sum ≤ ((l.map rowT).map (·.length)).length * 90 := sum_le fun x hx => by
    rw [List.map_map] at hx
    obtain ⟨p, hp, rfl⟩ := List.mem_map.mp hx
    exact rowT_len' (h p hp).1 (h p hp).2
  rw [List.length_map, List.length_map] at h2
  rw [List.length_map] at h1
  omega
theorem dI_able' {l : List (Int × Int)} (h : ∀ p ∈ l, mid p.1 ∧ mid p.2) : (dI l).showable = true := by
  rw [dI_eq]
  simp only [PyData.showable]
  induction l with
  | nil => rfl
  | cons p r ih =>
    rw [List.map_cons]
    simp only [PyData.showableKv, PyData.showable]
    have := h p List.mem_cons_self
    rw [ih fun q hq => h q (List.mem_cons_of_mem _ hq), decide_eq_true (mid_log this.1), decide_eq_true (mid_log this.2)]
    rfl
def reprS (cs hs : List (Int × Int)) : Str := Str.empty ++ "Shape(" ++ (dI cs).shown ++ ", " ++ (dI hs).shown ++ ")"
/-- bounds of what is counted here -/
def Sz (B : Int) (l : List (Int × Int)) : Prop := ∀ p ∈ l, 0 < p.1 ∧ p.1 < 10 ^ 31 ∧ 0 < p.2 ∧ p.2 ≤ B
theorem big10 : (10 ^ 31 : Int) ≤ Bg := by decide +kernel
theorem Sz.pos {B : Int} {l : List (Int × Int)} (h : Sz B l) (hB : B ≤ 1000000) : Pos l := fun p hp => by
  have := h p hp
  have := big10
  have e : (1000000 : Int) < 10 ^ 31 := by decide +kernel
  refine ⟨by omega, by omega, by omega, by omega⟩
theorem Sz.mids {B : Int} {l : List (Int × Int)} (h : Sz B l) (hB : B ≤ 1000000) : ∀ p ∈ l, mid p.1 ∧ mid p.2 := fun p hp => by
  have := h p hp
  have e : (10 ^ 31 : Int) = ((10 ^ 31 : Nat) : Int) := by decide +kernel
  have e2 : (10 ^ 31 : Nat) ≤ 10 ^ 40 := by decide +kernel
  have e3 : (1000000 : Nat) ≤ 10 ^ 40 := by decide +kernel
  unfold mid
  constructor
  · refine Nat.lt_of_lt_of_le ?_ e2
    omega
  · refine Nat.lt_of_lt_of_le (m := 1000001) ?_ (by decide +kernel)
    omega
theorem Sz.mono {B B' : Int} {l : List (Int × Int)} (h : Sz B l) (hb : B ≤ B') : Sz B' l := fun p hp => by
  have := h p hp
  refine ⟨this.1, this.2.1, this.2.2.1, by omega⟩
theorem Sz.perm {B : Int} {l m : List (Int × Int)} (h : Sz B l) (p : m.Perm l) : Sz B m := fun q hq => h q (p.mem_iff.mp hq)
theorem bag_lk {l : List (Int × Int)} {f : PF} (d : DI l f) (h : ∀ p ∈ l, 0 < p.2) (x : Int) : bag l x = (f x).getD 0 := by
  rw [← toPF_get (bag l) x, bag_self d h]
theorem Sz.bag {B C : Int} {a b l : List (Int × Int)} (ha : Sz B a) (hb : Sz C b) {f g : PF} (da : DI a f) (db : DI b g) (d : DI l (toPF (bag (a ++ b)))) (hB : 0 ≤ B) (hC : 0 ≤ C) : Sz (B + C) l := by
  rintro ⟨x, y⟩ hp
  have e := d.mem.mp hp
  unfold toPF at e
  split at e
  · cases e
  rename_i hne
  have ey := Option.some.inj e
  rw [bag_append, bag_lk da (fun p hp => (ha p hp).2.2.1), bag_lk db (fun p hp => (hb p hp).2.2.1)] at hne ey
  cases e1 : f x with
  | some u =>
    have h1 := ha _ (da.mem.mpr e1)
    dsimp only at h1
    rw [e1] at ey hne
    cases e2 : g x with
    | some v =>
      have h2 := hb _ (db.mem.mpr e2)
      dsimp only at h2
      rw [e2] at ey hne
      dsimp only [Option.getD_some] at ey hne
      refine ⟨h1.1, h1.2.1, ?_, ?_⟩ <;> dsimp only <;> omega
    | none =>
      rw [e2] at ey hne
      dsimp only [Option.getD_some, Option.getD_none] at ey hne
      refine ⟨h1.1, h1.2.1, ?_, ?_⟩ <;> dsimp only <;> omega
  | none =>
    rw [e1] at ey hne
    cases e2 : g x with
    | some v =>
      have h2 := hb _ (db.mem.mpr e2)
      dsimp only at h2
      rw [e2] at ey hne
      dsimp only [Option.getD_some, Option.getD_none] at ey hne
      refine ⟨h2.1, h2.2.1, ?_, ?_⟩ <;> dsimp only <;> omega
    | none =>
      rw [e2] at ey hne
      dsimp only [Option.getD_none] at ey hne
      exact absurd rfl hne
def spShAdd (C : Addr) : Sp := fun vs H Q _ => ∃ (a b : Addr) (cs hs cs' hs' : List (Int × Int)), vs = [.ref a, .ref b] ∧ IsShape C H a cs hs ∧ IsShape C H b cs' hs' ∧ Sz 1000 cs ∧ Sz 1000 hs ∧ Sz 1000 cs' ∧ Sz 1000 hs' ∧ cs.length + cs'.length ≤ 100 ∧ hs.length + hs'.length ≤ 100 ∧
  ∀ r c2 h2 H', H r = none → Same H H' → IsShape C H' r c2 h2 → DI c2 (toPF (bag (cs ++ cs'))) → DI h2 (toPF (bag (hs ++ hs'))) → c2.length ≤ 100 → h2.length ≤ 100 → Q (.ref r) H'
def spShEqV (CM C : Addr) : Sp := fun vs H Q _ => ∃ a y cs hs, vs = [.ref a, y] ∧ IsShape C H a cs hs ∧ ((∃ b cs' hs', y = .ref b ∧ IsShape C H b cs' hs' ∧ Q (.bl (decide (cs = cs') && decide (hs = hs'))) H) ∨ (nonShapeV CM H y ∧ Q (.bl false) H))
def spShRep (C : Addr) : Sp := fun vs H Q _ => ∃ a cs hs, vs = [.ref a] ∧ IsShape C H a cs hs ∧ Sz 1000000 cs ∧ Sz 1000000 hs ∧ cs.length ≤ 100 ∧ hs.length ≤ 100 ∧ ((reprS cs hs).length ≤ 40000 → Q (.str (reprS cs hs)) H)
theorem nd_prs {l : List (Int × Int)} (h : (l.map (·.1)).Nodup) : l.Nodup := by
  rw [List.nodup_iff_pairwise_ne] at h ⊢
  rw [List.pairwise_map] at h
  exact h.imp fun h z => h (congrArg _ z)
theorem dEq_f {l l' : List (Int × Int)} {f g : PF} (d : DI l f) (d' : DI l' g) (h : dEq (kvI l) (kvI l') = true) : f = g := by
  unfold dEq at h
  rw [Bool.and_eq_true, kvI_length, kvI_length, beq_iff_eq, List.all_eq_true] at h
  have sub : ∀ p ∈ l, p ∈ l' := by
    intro p hp
    have := h.2 (Sum.inl p.1, V.int p.2) (List.mem_map.mpr ⟨p, hp, rfl⟩)
    rw [decide_eq_true_eq, valV_kvI, d'.at_] at this
    obtain ⟨y, hy, ey⟩ := Option.map_eq_some_iff.mp this
    cases ey
    exact d'.mem.mpr hy
  have nd := nd_prs d.nd
  refine pf_ext fun x y => ⟨fun hx => d'.mem.mp (sub _ (d.mem.mpr hx)), fun hx => ?_⟩
  refine d.mem.mp (Classical.byContradiction fun hn => ?_)
  have := List.Nodup.length_le_of_subset (l₁ := (x, y) :: l) (l₂ := l') (List.nodup_cons.mpr ⟨hn, nd⟩) (fun p hp => by
    rcases List.mem_cons.mp hp with rfl | hp
    · exact d'.mem.mpr hx
    · exact sub p hp)
  rw [List.length_cons] at this
  omega
theorem asc_dEq {cs cs' : List (Int × Int)} (h : Asc cs) (h' : Asc cs') : dEq (kvI cs) (kvI cs') = decide (cs = cs') := by
  by_cases e : cs = cs'
  · subst e
    rw [dEq_di ⟨h.nd, fun _ => rfl⟩ ⟨h.nd, fun _ => rfl⟩, decide_eq_true rfl]
  · rw [decide_eq_false e]
    cases z : dEq (kvI cs) (kvI cs') with
    | false => rfl
    | true =>
      have d : DI cs (lk cs) := ⟨h.nd, fun _ => rfl⟩
      have d' : DI cs' (lk cs') := ⟨h'.nd, fun _ => rfl⟩
      exact absurd (asc_uniq h h' fun ⟨x, y⟩ => by rw [d.mem, d'.mem, dEq_f d d' z]) e
section
variable {P : Program} {w : World} {K : PySem.W.Frag} {mg : Str → Option Value} {base : Heap}
theorem okX_sh_init (T : Txt K mg) : FnR P w K mg base (L2.CX P w) 5 T.f_Shape__init (spShX P w T.C_Shape T.C_InvalidShape) := by
  refine T.A_Shape__init.okX sc_Shape__init (fun vs H Q E h => ?_) (fun cdv A outer s H vs Q E hr h => ?_)
  · obtain ⟨s, dx, x, y, rfl, _⟩ := h
    rfl
  · obtain ⟨s, dx, x, y, rfl, hs, h⟩ := h
    refine ⟨_, (pss_cons (ps_if (pt_not (pt_val (pe_callR (ok_arG (P := P) (w := w) T) (hr.mono (by decide)) T.A_are_counts.kp rfl T.g_are_counts pass0 (pa_cons (pv 1) pa_nil))))
        (pss_one (ps_raise rfl (takes_of rfl rfl rfl rfl) (pmk_oexG T.x_InvalidShape T.m_InvalidShape__init T.ti_InvalidShape__init (ok_ini_InvalidShape T) (hr.mono (by decide)) pass0 rfl T.g_InvalidShape (pa_cons pe_str pa_nil)))) pss_nil)
      (pss_cons (ps_if (pt_not (pt_val (pe_callR (ok_arG (P := P) (w := w) T) (hr.mono (by decide)) T.A_are_counts.kp rfl T.g_are_counts pass0 (pa_cons (pv 2) pa_nil))))
        (pss_one (ps_raise rfl (takes_of rfl rfl rfl rfl) (pmk_oexG T.x_InvalidShape T.m_InvalidShape__init T.ti_InvalidShape__init (ok_ini_InvalidShape T) (hr.mono (by decide)) pass0 rfl T.g_InvalidShape (pa_cons pe_str pa_nil)))) pss_nil)
      (pss_cons (ps_fld (pv 0) (pe_callR (ok_ordered T) (hr.mono (by decide)) T.A_ordered.kp rfl T.g_ordered pass0 (pa_cons (pv 1) pa_nil)) rfl)
      (pss_one (ps_fld (pv 0) (pe_callR (ok_ordered T) (hr.mono (by decide)) T.A_ordered.kp rfl T.g_ordered pass0 (pa_cons (pv 2) pa_nil)) rfl))))), ?_⟩
    rcases h with ⟨hx, e⟩ | ⟨hx, hy, e⟩
    · exact ⟨_, rfl, x, false, rfl, hx, fun H1 s1 => ⟨_, rfl, iteT (mk_one fun d hd => e H1 d s1 hd)⟩⟩
    · exact ⟨_, rfl, x, true, rfl, hx, fun H1 s1 => ⟨_, rfl, iteF ⟨_, rfl, y, false, rfl, hy.same s1, fun H2 s2 => ⟨_, rfl, iteT (mk_one fun d hd => e H2 d (s1.trans s2) hd)⟩⟩⟩⟩
theorem ok_sh_eqV (T : Txt K mg) : FnR P w K mg base CX0 2 T.f_Shape__eq (spShEqV T.C_Map T.C_Shape) := by
  refine T.A_Shape__eq.ok sc_Shape__eq (fun vs H Q E h => ?_) (fun cdv A outer s H vs Q E hr h => ?_)
  · obtain ⟨a, y, cs, hs, rfl, _⟩ := h
    rfl
  · obtain ⟨a, y, cs, hs, rfl, ⟨⟨dx, D1, D2, h1, h2, h3⟩, as1, as2, _⟩, h⟩ := h
    refine ⟨_, (pss_cons (ps_if (pt_not (pt_val (pe_callB call_isi (by rfl) T.n_isinstance (by decide +kernel) (pa_cons (pv 1) (pa_cons (pe_glob (v := .ref T.C_Shape) rfl T.g_Shape rfl) pa_nil)))))
        (pss_one (ps_ret pe_bl)) pss_nil)
      (pss_one (ps_ret (pe_and (pe_cmpR (U.op_eqDI hr.units0) (pe_fld (pv 0) rfl) (pe_fld (pv 1) rfl) (nomark _)) (pe_one (pe_cmpR (U.op_eqDI hr.units0) (pe_fld (pv 0) rfl) (pe_fld (pv 1) rfl) (nomark _))))))), ?_⟩
    rcases h with ⟨b, cs', hs', rfl, ⟨⟨dx', D1', D2', h1', h2', h3'⟩, as1', as2', _⟩, q⟩ | ⟨hy, q⟩
    · refine ⟨_, rfl, _, _, _, _, true, rfl, .own _, tyx_ins T.o_Shape h1', T.self_Shape, _, rfl, iteF ?_⟩
      refine ⟨_, rfl, a, _, dx, _, _, rfl, h1, T.o_Shape.cl, T.na_own_cycles_Shape, rfl, _, rfl, b, _, dx', _, _, rfl, h1', T.o_Shape.cl, T.na_own_cycles_Shape, rfl, D1, D1', _, _, rfl, rfl, h2, h2', intVals_kvI _, intVals_kvI _, _, rfl, ?_⟩
      rw [asc_dEq as1 as1']
      refine ifD (fun e => ?_) (fun e => ?_)
      · refine ⟨_, rfl, a, _, dx, _, _, rfl, h1, T.o_Shape.cl, T.na_own_chains_Shape, rfl, _, rfl, b, _, dx', _, _, rfl, h1', T.o_Shape.cl, T.na_own_chains_Shape, rfl, D2, D2', _, _, rfl, rfl, h3, h3', intVals_kvI _, intVals_kvI _, ?_⟩
        rw [asc_dEq as2 as2']
        rw [decide_eq_true e, Bool.true_and] at q
        exact q
      · rw [decide_eq_false e, Bool.false_and] at q
        exact q
    · obtain ⟨t, ht, hk⟩ := ty_nonshape T hy
      exact ⟨_, rfl, _, _, _, _, false, rfl, .own _, ht, hk, _, rfl, iteT q⟩
theorem ok_sh_repr (T : Txt K mg) : FnG P w K mg base CX0 5 T.f_Shape__repr (spShRep T.C_Shape) := by
  refine T.A_Shape__repr.okG sc_Shape__repr (fun vs H Q E h => ?_) (fun cdv A outer s H vs Q E gd hr h => ?_)
  · obtain ⟨a, cs, hs, rfl, _⟩ := h
    rfl
  · obtain ⟨a, cs, hs, rfl, ⟨⟨dx, D1, D2, h1, h2, h3⟩, _⟩, z1, z2, b1, b2, q⟩ := h
    refine ⟨_, pss_one (ps_ret (pe_joined (.cons pe_str (.cons (pe_fmtF gd hr.units (pe_fld (pv 0) rfl)) (.cons pe_str (.cons (pe_fmtF gd hr.units (pe_fld (pv 0) rfl)) (.cons pe_str .nil))))))), ?_⟩
    have m1 := z1.mids (by decide)
    have m2 := z2.mids (by decide)
    have l1 := dI_len' m1 b1
    have l2 := dI_len' m2 b2
    have e1 : (Str.empty ++ Str.ofString "Shape(").length = 6 := rfl
    have e2 : (Str.empty ++ Str.ofString "Shape(" ++ (dI cs).shown).length = 6 + (dI cs).shown.length := by rw [strLen_append, e1]
    have e3 : (Str.empty ++ Str.ofString "Shape(" ++ (dI cs).shown ++ Str.ofString ", ").length = 6 + (dI cs).shown.length + 2 := by rw [strLen_append, e2]; rfl
    have e4 : (Str.empty ++ Str.ofString "Shape(" ++ (dI cs).shown ++ Str.ofString ", " ++ (dI hs).shown).length = 6 + (dI cs).shown.length + 2 + (dI hs).shown.length := by rw [strLen_append, e3]
    have e5 : (Str.empty ++ Str.ofString "Shape(" ++ (dI cs).shown ++ Str.ofString ", " ++ (dI hs).shown ++ Str.ofString ")").length = 6 + (dI cs).shown.length + 2 + (dI hs).shown.length + 1 := by rw [strLen_append, e4]; rfl
    have big : 50000 ≤ sizeLine := by decide
    have f1 : (flatD (kvI cs) (cs.map fun p => PyData.int p.2)) = dI cs := rfl
    have f2 : (flatD (kvI hs) (hs.map fun p => PyData.int p.2)) = dI hs := rfl
    refine ⟨_, rfl, by rw [e1]; omega, ?_⟩
    refine ⟨_, rfl, a, _, dx, _, _, rfl, h1, T.o_Shape.cl, T.na_own_cycles_Shape, rfl, D1, kvI cs, _, rfl, h2, dI_sc _, dI_able' m1, dI_depth _, Nat.le_trans l1 (by omega), _, rfl, by rw [f1, e2]; omega, ?_⟩
    refine ⟨_, rfl, by rw [f1, e3]; omega, ?_⟩
    refine ⟨_, rfl, a, _, dx, _, _, rfl, h1, T.o_Shape.cl, T.na_own_chains_Shape, rfl, D2, kvI hs, _, rfl, h3, dI_sc _, dI_able' m2, dI_depth _, Nat.le_trans l2 (by omega), _, rfl, by rw [f1, f2, e4]; omega, ?_⟩
    refine ⟨_, rfl, by rw [f1, f2, e5]; omega, ?_⟩
    exact q (by unfold reprS; rw [e5]; omega)
theorem ok_sh_add (T : Txt K mg) : FnR P w K mg base CX0 7 T.f_Shape__add (spShAdd T.C_Shape) := by
  refine T.A_Shape__add.ok sc_Shape__add (fun vs H Q E h => ?_) (fun cdv A outer s H vs Q E hr h => ?_)
  · obtain ⟨a, b, cs, hs, cs', hs', rfl, _⟩ := h
    rfl
  · obtain ⟨a, b, cs, hs, cs', hs', rfl, ⟨⟨dx, D1, D2, h1, h2, h3⟩, as1, as2, _, _⟩, is', z1, z2, z3, z4, b1, b2, q⟩ := h
    obtain ⟨⟨dx', D1', D2', h1', h2', h3'⟩, as1', as2', _⟩ := id is'
    refine ⟨_, (pss_cons (ps_if (pt_not (pt_val (pe_callB call_isi (by rfl) T.n_isinstance (by decide +kernel) (pa_cons (pv 1) (pa_cons (pe_glob (v := .ref T.C_Shape) rfl T.g_Shape rfl) pa_nil)))))
        (pss_one ps_never) pss_nil)
      (pss_one (ps_ret (pe_makeR T.M_Shape (ok_sh_init T) (hr.mono (by decide)) rfl T.g_Shape pass0 (pa_cons (pe_callR (ok_merged T) (hr.mono (by decide)) T.A_merged.kp rfl T.g_merged pass0 (pa_cons (pe_fld (pv 0) rfl) (pa_cons (pe_propR (pv 1) T.o_Shape.cl T.P_Shape_cycles (ok_sh_cycles T) (hr.mono (by decide))) pa_nil))) (pa_cons (pe_callR (ok_merged T) (hr.mono (by decide)) T.A_merged.kp rfl T.g_merged pass0 (pa_cons (pe_fld (pv 0) rfl) (pa_cons (pe_propR (pv 1) T.o_Shape.cl T.P_Shape_chains (ok_sh_chains T) (hr.mono (by decide))) pa_nil))) pa_nil)))))), ?_⟩
    refine ⟨_, rfl, _, _, _, _, true, rfl, .own _, tyx_ins T.o_Shape h1', T.self_Shape, _, rfl, iteF ?_⟩
    refine ⟨_, rfl, a, _, dx, _, _, rfl, h1, T.o_Shape.cl, T.na_own_cycles_Shape, rfl, _, rfl, b, dx', _, rfl, h1', b, cs', hs', rfl, is', ?_⟩
    refine fun d1 n_d1 => ?_
    generalize g_d1 : L2.upd _ d1 _ = H1
    obtain ⟨s_H1, e_d1⟩ := U.upd_facts g_d1 n_d1
    clear g_d1
    refine ⟨D1, d1, cs, cs', rfl, s_H1 _ _ h2, e_d1, as1.nd, fun p hp => (z1 p hp).2.2.1, fun p hp => (z3 p hp).2.2.1, by omega, by omega, fun p1 l1 H2 s2 np1 hp1 di1 ll1 => ?_⟩
    have s12 := s_H1.trans s2
    refine ⟨_, rfl, a, _, dx, _, _, rfl, s12 _ _ h1, T.o_Shape.cl, T.na_own_chains_Shape, rfl, _, rfl, b, dx', _, rfl, s12 _ _ h1', b, cs', hs', rfl, is'.same s12, ?_⟩
    refine fun d2 n_d2 => ?_
    generalize g_d2 : L2.upd _ d2 _ = H3
    obtain ⟨s_H3, e_d2⟩ := U.upd_facts g_d2 n_d2
    clear g_d2
    have s13 := s12.trans s_H3
    refine ⟨D2, d2, hs, hs', rfl, s13 _ _ h3, e_d2, as2.nd, fun p hp => (z2 p hp).2.2.1, fun p hp => (z4 p hp).2.2.1, by omega, by omega, fun p2 l2 H4 s4 np2 hp2 di2 ll2 => ?_⟩
    have s14 := s13.trans s4
    have y1 := (z1.bag z3 ⟨as1.nd, fun _ => rfl⟩ ⟨as1'.nd, fun _ => rfl⟩ di1 (by decide) (by decide)).pos (by decide)
    have y2 := (z2.bag z4 ⟨as2.nd, fun _ => rfl⟩ ⟨as2'.nd, fun _ => rfl⟩ di2 (by decide) (by decide)).pos (by decide)
    refine fun x dx2 nx ndx ne => initS_of (s4 _ _ (s_H3 _ _ hp1)) hp2 di1.nd di2.nd y1 y2 (by omega) (by omega) nx ndx ne fun c3 h3 H5 s5 pm1 pm2 sh => ⟨rfl, ?_⟩
    exact q x c3 h3 H5 (s14.free nx) (s14.trans s5) sh (di_perm di1 pm1) (di_perm di2 pm2) (by rw [pm1.length_eq]; omega) (by rw [pm2.length_eq]; omega)
/-! ### _law_made -/
def spMade (P : Program) (w : World) (C : Addr) : Sp := fun vs H Q _ => ∃ (x y : V), vs = [x, y] ∧
  ((CntV P w H x false ∧ ∀ p H', Same H H' → H' p = some (.lst [.str "cycles", .bl true]) → Q (.ref p) H') ∨
   (CntV P w H x true ∧ CntV P w H y false ∧ ∀ p H', Same H H' → H' p = some (.lst [.str "chains", .bl true]) → Q (.ref p) H'))
theorem ok_l_made (T : Txt K mg) : FnR P w K mg base CX0 9 T.f_l_made (spMade P w T.C_Shape) := by
  refine T.A_l_made.ok sc_l_made (fun vs H Q E h => ?_) (fun cdv A outer s H vs Q E hr h => ?_)
  · obtain ⟨x, y, rfl, _⟩ := h
    rfl
  · obtain ⟨x, y, rfl, h⟩ := h
    refine ⟨_, (pss_one (ps_try_as (i := 2) rfl rfl sc_l_made.nd rfl rfl ⟨rfl, by decide, .inl T.g_InvalidShape⟩ L2.takes0 (fun W pn xe tk _ => (pss_one (ps_ret (pe_lst (pa_cons pe_str (pa_cons (pe_makeRS T.M_Shape (okX_sh_init (P := P) (w := w) T) (hr.mono (by decide)) rfl T.g_Shape (fun σ => passAt tk σ) (pa_cons (pv 0) (pa_cons (pv 1) pa_nil))) pa_nil)))))) (fun a oe cls d pn hz hf => (pss_one (ps_ret (pe_lst (pa_cons (pe_xf T.xf_InvalidShape T.na_part_InvalidShape hz hf (pv 2)) (pa_cons (pe_callB (call_isH T.xe_InvalidShape hz hf) (by rfl) T.n_isinstance (by decide +kernel) (pa_cons (pv 2) (pa_cons (pe_bltn (v := .ty "ValueError") (u := .type "ValueError") (by rfl) T.n_ValueError (by decide +kernel) rfl) pa_nil))) pa_nil)))))))), ?_⟩
    refine ⟨_, rfl, _, rfl, fun p dx np nd nn => ?_⟩
    have s0 : Same H (upd (upd H dx (.own p)) p (.ins T.C_Shape dx [])) := (Same.new nd).trans (Same.new (by rw [upd_ne nn.symm]; exact np))
    generalize e0 : upd (upd H dx (.own p)) p (.ins T.C_Shape dx []) = H0 at s0 ⊢
    have ep : H0 p = some (.ins T.C_Shape dx []) := by rw [← e0]; exact upd_same
    refine ⟨p, dx, x, y, rfl, ep, ?_⟩
    rcases h with ⟨hx, q⟩ | ⟨hx, hy, q⟩
    · refine .inl ⟨hx.same s0, fun H' d s' nd' => ?_⟩
      refine ⟨true, T.te_InvalidShape, fun _ a na => ?_, fun z => nomatch z⟩
      refine ⟨_, rfl, rfl, rfl, d, _, _, rfl, upd_same, rfl, ?_⟩
      exact ⟨_, rfl, d, rfl, rfl, _, _, _, _, rfl, fun u r => r, T.kit_ValueError_InvalidShape, upd_same, two_le, fun p' np' => q p' _ (((s0.trans s').trans (Same.new nd')).trans (Same.new np')) upd_same⟩
    · refine .inr ⟨hx.same s0, hy.same s0, fun H' d s' nd' => ?_⟩
      refine ⟨true, T.te_InvalidShape, fun _ a na => ?_, fun z => nomatch z⟩
      refine ⟨_, rfl, rfl, rfl, d, _, _, rfl, upd_same, rfl, ?_⟩
      exact ⟨_, rfl, d, rfl, rfl, _, _, _, _, rfl, fun u r => r, T.kit_ValueError_InvalidShape, upd_same, two_le, fun p' np' => q p' _ (((s0.trans s').trans (Same.new nd')).trans (Same.new np')) upd_same⟩
end
end My
set_option maxHeartbeats 1000000
namespace My
open PySem L2 U StX PM
/-! ### _law_counts, _law_raised -/
theorem drop_kvI (l : List (Int × Int)) (x : Int) : dropK (kvI l) (Sum.inl x : Key) = kvI (l.filter fun p => decide (p.1 ≠ x)) := by
  unfold dropK kvI
  rw [List.filter_map]
  congr 1
  refine List.filter_congr fun p _ => ?_
  show decide ((Sum.inl p.1 : Key) ≠ Sum.inl x) = decide (p.1 ≠ x)
  refine decide_eq_decide.mpr ⟨fun h e => h (by rw [e]), fun h e => h (Sum.inl.inj e)⟩
structure Rsd (l0 l m : List (Int × Int)) : Prop where
  mem : ∀ p, p ∈ l0 ↔ p ∈ m ∨ p ∈ l
  nm : (m.map (·.1)).Pairwise (· < ·)
  nl : (l.map (·.1)).Nodup
  lt : ∀ p ∈ m, ∀ q ∈ l, p.1 < q.1
  le : m.length + l.length = l0.length
theorem filt_ne {l : List (Int × Int)} (nl : (l.map (·.1)).Nodup) {x y : Int} (h : (x, y) ∈ l) : (l.filter fun p => decide (p.1 ≠ x)).length + 1 = l.length := by
  induction l with
  | nil => cases h
  | cons p r ih =>
    rw [List.map_cons, List.nodup_cons] at nl
    by_cases e : p.1 = x
    · have : r.filter (fun p => decide (p.1 ≠ x)) = r := List.filter_eq_self.mpr fun q hq => by
        refine decide_eq_true fun z => nl.1 (List.mem_map.mpr ⟨q, hq, by rw [z, e]⟩)
      rw [List.filter_cons_of_neg (by simp [e]), this, List.length_cons]
    · rw [List.filter_cons_of_pos (by simp [e]), List.length_cons, List.length_cons]
      rcases List.mem_cons.mp h with z | z
      · exact absurd (congrArg Prod.fst z).symm e
      · have := ih nl.2 z
        omega
theorem Rsd.step {l0 l m : List (Int × Int)} (h : Rsd l0 l m) {x y : Int} (hx : (x, y) ∈ l) (hl : ∀ q ∈ l, x ≤ q.1) : Rsd l0 (l.filter fun p => decide (p.1 ≠ x)) (m ++ [(x, y)]) := by
  refine ⟨fun p => ?_, ?_, ?_, ?_, ?_⟩
  · rw [h.mem, List.mem_append, List.mem_filter, List.mem_singleton, decide_eq_true_eq]
    constructor
    · rintro (z | z)
      · exact .inl (.inl z)
      · by_cases e : p.1 = x
        · refine .inl (.inr ?_)
          obtain ⟨a, b⟩ := p
          dsimp only at e
          subst e
          have d : DI l (lk l) := ⟨h.nl, fun _ => rfl⟩
          have e1 := d.mem.mp z
          have e2 := d.mem.mp hx
          rw [e1] at e2
          rw [Option.some.inj e2]
        · exact .inr ⟨z, e⟩
    · rintro ((z | z) | z)
      · exact .inl z
      · rw [z]; exact .inr hx
      · exact .inr z.1
  · rw [List.map_append, List.pairwise_append]
    refine ⟨h.nm, by simp, fun a ha b hb => ?_⟩
    obtain ⟨p, hp, rfl⟩ := List.mem_map.mp ha
    simp at hb
    subst hb
    exact h.lt p hp _ hx
  · exact (List.filter_sublist.map _).nodup h.nl
  · intro p hp q hq
    rw [List.mem_filter, decide_eq_true_eq] at hq
    rcases List.mem_append.mp hp with z | z
    · exact h.lt p z q hq.1
    · rw [List.mem_singleton] at z
      subst z
      have := hl q hq.1
      dsimp only
      omega
  · have := filt_ne h.nl hx
    have := h.le
    rw [List.length_append, List.length_singleton]
    omega
def spRsd : Sp := fun vs H Q _ => ∃ (d : Addr) (l : List (Int × Int)) (f : PF), vs = [.ref d] ∧ H d = some (.dK (kvI l)) ∧ DI l f ∧ Pos l ∧ l.length ≤ 1000 ∧ ∀ p cs H', Same H H' → H p = none → H' p = some (.dK (kvI cs)) → DI cs f → Asc cs → cs.length = l.length → Q (.ref p) H'
def spCts : Sp := fun vs H Q _ => ∃ p, vs = [.ref p] ∧ PoolAt H p ∧ ∀ D l H', H D = none → H' D = some (.dK (kvI l)) → (l.map (·.1)).Nodup → Sz 9 l → l.length ≤ 3 → PoolAt H' p → Off p H H' → Q (.ref D) H'
theorem dEq_nil (l : List (Int × Int)) : dEq (kvI l) [] = decide (l = []) := by
  cases l <;> rfl
section
variable {P : Program} {w : World} {K : PySem.W.Frag} {mg : Str → Option Value} {base : Heap}
theorem ok_l_raised (T : Txt K mg) : FnR P w K mg base CX0 3 T.f_l_raised spRsd := by
  refine T.A_l_raised.ok sc_l_raised (fun vs H Q E h => ?_) (fun cdv A outer s H vs Q E hr h => ?_)
  · obtain ⟨d, l, f, rfl, _⟩ := h
    rfl
  · obtain ⟨d, l, f, rfl, hd, di, hp, hl, q⟩ := h
    have hu := hu_of hr
    refine ⟨_, (pss_cons (ps_par (i := 1) (j := 2) rfl sc_l_raised.nd rfl rfl (by decide) rfl rfl (pa_cons (pe_callTy call_dictD (by rfl) T.n_dict (by decide +kernel) (pa_cons (pv 0) pa_nil)) (pa_cons pe_dnewK pa_nil)) (by rfl))
      (pss_cons (ps_while PassesOwn.never (pt_cmpR (U.op_neDI hr.units0) (pv 1) pe_dnewK (nomark _))
        (pss_cons (ps_set (i := 3) sc_l_raised.nd rfl (Or.inl rfl) (pe_callB (cr_min rfl) (by rfl) T.n_min (by decide +kernel) (pa_cons (pe_lock (pe_lc (own := [("_law_length", 4)]) (g := (gName 4)) (tt := tYes) rfl sc_l_raised.nd (pi_keys (pv 1)) (blkOk_by (own := [("_law_length", 4)]) (N := n_l_raised) (sc := defScope s_l_raised) (by decide +kernel)) (fun _ _ _ _ _ => (pg_name (i := 4) sc_l_raised.nd rfl (Or.inl rfl))) (fun _ _ _ _ _ => pts_nil) (fun _ _ _ _ _ => (pe_callTy call_int1 (by rfl) T.n_int (by decide +kernel) (pa_cons (pv 4) pa_nil))))) pa_nil)))
      (pss_one (ps_dput hu (pv 2) (pv 3) (pe_dpop1 (pv 1) (pv 3) ⟨rfl, rfl, rfl, rfl⟩) rfl))))
      (pss_one (ps_ret (pv 2))))), ?_⟩
    refine ⟨_, rfl, d, _, rfl, .inl hd, ?_⟩
    refine fun D1 n_D1 => ?_
    generalize g_D1 : L2.upd _ D1 _ = H1
    obtain ⟨s_H1, e_D1⟩ := U.upd_facts g_D1 n_D1
    clear g_D1
    refine fun D2 n_D2 => ?_
    generalize g_D2 : L2.upd _ D2 _ = H2
    obtain ⟨s_H2, e_D2⟩ := U.upd_facts g_D2 n_D2
    clear g_D2
    refine ⟨_, _, rfl, ?_⟩
    have n12 : D1 ≠ D2 := ne_of_none e_D1 n_D2
    refine ⟨fun m σ H' => ∃ v3 v4 l1 l2, σ = [some (.ref d), some (.ref D1), some (.ref D2), v3, v4] ∧ m = l1.length ∧ Same H H' ∧ H' D1 = some (.dK (kvI l1)) ∧ H' D2 = some (.dK (kvI l2)) ∧ Rsd l l1 l2, ⟨l.length, _, _, l, [], rfl, rfl, s_H1.trans s_H2, s_H2 _ _ e_D1, e_D2, ⟨fun p => by simp, by simp, di.nd, (fun p h => nomatch h), by simp⟩⟩, ?_⟩
    rintro m σ H' ⟨v3, v4, l1, l2, rfl, rfl, p1, p2, p3, p4⟩
    refine ⟨_, rfl, ?_⟩
    refine fun e1 n_e1 => ?_
    generalize g_e1 : L2.upd _ e1 _ = H3
    obtain ⟨s_H3, e_e1⟩ := U.upd_facts g_e1 n_e1
    clear g_e1
    refine ⟨D1, e1, _, _, rfl, rfl, s_H3 _ _ p2, e_e1, intVals_kvI _, intVals_kvI [], _, rfl, ?_⟩
    rw [dEq_nil]
    have hle := p4.le
    refine ifB (fun z => ?_) (fun z => ?_)
    · have hne : l1 ≠ [] := by simpa using z
      refine ⟨fun σ' H2 => ∃ m', m' < l1.length ∧ _, fun _ _ h => h, ?_⟩
      dsimp only [tNext, tSeq, tAsg, tCB, tCons, tNil, gName]
      refine lc_keys (fun _ => true) (fun x => .int x) (s_H3 _ _ p2) (fun H' R r o => ⟨_, rfl, r⟩) (fun _ => rfl) (fun x Hx o => ⟨fun R r => r, fun R r => ⟨_, rfl, .inl ⟨_, rfl, r⟩⟩⟩) (small1000 (by omega)) (fun D Hd nD hD sd => ?_)
      rw [keys_madeL] at hD
      refine ⟨D, _, rfl, SqL.of hD, by rw [List.length_map]; exact List.length_pos_iff.mpr hne, fun x hx hmin => ?_⟩
      obtain ⟨⟨x', y⟩, hxy, rfl⟩ := List.mem_map.mp hx
      have dl : DI l1 (lk l1) := ⟨p4.nl, fun _ => rfl⟩
      have h1 := sd _ _ (s_H3 _ _ p2)
      have h2 := sd _ _ (s_H3 _ _ p3)
      refine ⟨_, rfl, D1, rfl, isD_of h1, _, rfl, _, Sum.inl x', .int y, h1, rfl, by rw [valV_kvI, dl.at_, dl.mem.mp hxy]; rfl, ?_⟩
      rw [drop_kvI]
      have h3 : (upd Hd D1 (.dK (kvI (l1.filter fun p => decide (p.1 ≠ x'))))) D2 = some (.dK (kvI l2)) := by rw [upd_ne n12.symm]; exact h2
      refine ⟨_, rfl, _, rfl, D2, _, rfl, DPut.k (k := Sum.inl _) h3 (small1000 (by rw [kvI_length]; omega)), ?_⟩
      have nin : x' ∉ l2.map (·.1) := fun hm => by
        obtain ⟨p, hp, e⟩ := List.mem_map.mp hm
        have := p4.lt p hp _ hxy
        dsimp only at this
        omega
      rw [putK_kvI nin]
      have hlt := filt_ne p4.nl hxy
      refine ⟨_, by omega, _, _, _, _, rfl, rfl, ?_, ?_, upd_same, p4.step hxy fun q hq => hmin _ (List.mem_map.mpr ⟨q, hq, rfl⟩)⟩
      · intro b o e
        rw [upd_ne (ne_of_none (s_H1 _ _ e) n_D2), upd_ne (ne_of_none e n_D1)]
        exact sd _ _ (s_H3 _ _ (p1 _ _ e))
      · rw [upd_ne n12]
        exact upd_same
    · have hnil : l1 = [] := by simpa using z
      subst hnil
      have np : H D2 = none := s_H1.free n_D2
      refine ⟨_, rfl, q D2 l2 H3 (p1.trans s_H3) np (s_H3 _ _ p3) (di_of (nodup_of_lt p4.nm) fun x y => ?_) ⟨p4.nm, fun p hp2 => hp p ((p4.mem p).mpr (.inl hp2))⟩ (by have := p4.le; rw [List.length_nil] at this; omega)⟩
      rw [← di.mem, p4.mem]
      simp
theorem ok_l_counts (T : Txt K mg) : FnR P w K mg base CX0 3 T.f_l_counts spCts := by
  refine T.A_l_counts.ok sc_l_counts (fun vs H Q E h => ?_) (fun cdv A outer s H vs Q E hr h => ?_)
  · obtain ⟨p, rfl, _⟩ := h
    rfl
  · obtain ⟨p, rfl, hp, q⟩ := h
    have hu := hu_of hr
    refine ⟨_, (pss_cons (ps_set (i := 1) sc_l_counts.nd rfl (Or.inl rfl) pe_dnewK)
      (pss_cons (ps_for PassesOwn.never rfl (pi_range1 rfl T.n_range (pa_cons (pe_callR (ok_draw T) (hr.mono (by decide)) T.A_l_draw.kp rfl T.g_l_draw pass0 (pa_cons (pv 0) (pa_cons pe_int pa_nil))) pa_nil)) (pg_name (i := 2) sc_l_counts.nd rfl (Or.inl rfl))
        (pss_cons (ps_set (i := 3) sc_l_counts.nd rfl (Or.inl rfl) (pe_op op_add pe_int (pe_ix ix_list (pe_lst (pa_cons (pe_callR (ok_draw T) (hr.mono (by decide)) T.A_l_draw.kp rfl T.g_l_draw pass0 (pa_cons (pv 0) (pa_cons pe_int pa_nil))) (pa_cons (pe_op op_add (pe_op op_pow pe_int pe_int) (pe_callR (ok_draw T) (hr.mono (by decide)) T.A_l_draw.kp rfl T.g_l_draw pass0 (pa_cons (pv 0) (pa_cons pe_int pa_nil)))) pa_nil))) (pe_callTy call_int1 (by rfl) T.n_int (by decide +kernel) (pa_cons (pe_cmpR op_eq (pe_callR (ok_draw T) (hr.mono (by decide)) T.A_l_draw.kp rfl T.g_l_draw pass0 (pa_cons (pv 0) (pa_cons pe_int pa_nil))) pe_int (nomark _)) pa_nil)) (fun _ _ => rfl))))
      (pss_one (ps_dput hu (pv 1) (pv 3) (pe_op op_add pe_int (pe_callR (ok_draw T) (hr.mono (by decide)) T.A_l_draw.kp rfl T.g_l_draw pass0 (pa_cons (pv 0) (pa_cons pe_int pa_nil)))) rfl))))
      (pss_one (ps_ret (pv 1))))), ?_⟩
    refine fun D n_D => ?_
    generalize g_D : L2.upd _ D _ = H1
    obtain ⟨s_H1, e_D⟩ := U.upd_facts g_D n_D
    clear g_D
    have pl1 := hp.same s_H1
    have npD : D ≠ p := fun z => by obtain ⟨a, b, e, _⟩ := hp; rw [z, e] at n_D; cases n_D
    refine draw_R rfl (fun R r => r) pl1 (by decide) (by decide) fun t H2 t0 t1 pl2 off2 => ?_
    refine ⟨t, rfl, by omega, by omega, ?_⟩
    refine for_it (walk_range (lo := 0) (n := t.toNat)) (fun i σ H' => ∃ v2 v3 l, σ = [some (.ref p), some (.ref D), v2, v3] ∧ Off p H H' ∧ PoolAt H' p ∧ H' D = some (.dK (kvI l)) ∧ (l.map (·.1)).Nodup ∧ Sz 9 l ∧ l.length ≤ i)
      ⟨_, _, [], rfl, (Off.ofS s_H1).tr off2, pl2, off2 _ _ npD e_D, List.nodup_nil, (fun p hp => nomatch hp), Nat.le_refl _⟩ (fun _ _ _ _ _ => trivial) ?_ ?_
    · rintro i v σ Ha0 Ha hi ⟨v2, v3, l, rfl, o1, pla, eD, nd, sz, le⟩ ⟨rfl, ev⟩
      subst ev
      refine draw_R rfl (fun R r => r) pla (by decide) (by decide) fun a Hb a0 a1 plb ofb => ?_
      refine ⟨_, _, rfl, rfl, ⟨by decide, by decide, by decide⟩, ?_⟩
      refine draw_R rfl (fun R r => r) plb (by decide) (by decide) fun b Hc b0 b1 plc ofc => ?_
      refine ⟨_, _, rfl, rfl, two_le, ?_⟩
      refine fun L n_L => ?_
      generalize g_L : L2.upd _ L _ = Hd
      obtain ⟨s_Hd, e_L⟩ := U.upd_facts g_L n_L
      clear g_L
      refine draw_R rfl (fun R r => r) (plc.same s_Hd) (by decide) (by decide) fun c He c0 c1 ple ofe => ?_
      refine ⟨rfl, .inr ⟨_, rfl, ?_⟩⟩
      have npL : L ≠ p := fun z => by obtain ⟨a, b, e, _⟩ := plc; rw [z, e] at n_L; cases n_L
      have eL := ofe _ _ npL e_L
      have oo : Off p H He := (((o1.tr ofb).tr ofc).tr (Off.ofS s_Hd)).tr ofe
      have eDe : He D = some (.dK (kvI l)) := ofe _ _ npD (s_Hd _ _ (ofc _ _ npD (ofb _ _ npD eD)))
      have e29 : (10 : Int) ^ (29 : Int).toNat = 100000000000000000000000000000 := by decide +kernel
      have e31 : (10 : Int) ^ 31 = 10000000000000000000000000000000 := by decide +kernel
      have hat : ∀ k : Bool, ∃ it, atI [V.int a, V.int ((10 : Int) ^ (29 : Int).toNat + b)] (if k = true then 1 else 0) = some (.int it) ∧ 0 ≤ it ∧ it < 1000000000000000000000000000000 := fun k => by
        cases k
        · exact ⟨a, atI_nat (j := 0) rfl, a0, by omega⟩
        · exact ⟨_, atI_nat (j := 1) rfl, by rw [e29]; omega, by rw [e29]; omega⟩
      obtain ⟨it, hit, i0, i1⟩ := hat (decide (V.int c = V.int 0))
      refine ⟨L, _, _, .int it, rfl, rfl, SqL.of eL, hit, ?_⟩
      refine ⟨_, _, rfl, rfl, ?_⟩
      refine draw_R rfl (fun R r => r) ple (by decide) (by decide) fun y Hf y0 y1 plf off => ?_
      refine ⟨_, _, rfl, rfl, _, rfl, _, rfl, D, _, rfl, DPut.k (k := Sum.inl _) (off _ _ npD eDe) (small1000 (by rw [kvI_length]; omega)), ?_⟩
      have hk31 : 0 < 1 + it ∧ 1 + it < 10 ^ 31 := ⟨by omega, by rw [e31]; omega⟩
      obtain ⟨l', e', hl', di'⟩ := di_putZ (f := lk l) ⟨nd, fun _ => rfl⟩ (1 + it) (1 + y)
      rw [e']
      refine ⟨_, _, l', rfl, Off.put (oo.tr off) n_D, plf.put npD.symm, upd_same, di'.nd, ?_, by omega⟩
      · rintro ⟨x', y'⟩ hp'
        have h1 := di'.mem.mp hp'
        split at h1
        · rename_i ex
          have := Option.some.inj h1
          dsimp only
          omega
        · have dl : DI l (lk l) := ⟨nd, fun _ => rfl⟩
          exact sz _ (dl.mem.mpr h1)
    · rintro σ Ha ⟨v2, v3, l, rfl, o1, pla, eD, nd, sz, le⟩
      exact ⟨_, rfl, q D l Ha n_D eD nd sz (by omega) pla o1⟩
end
end My
set_option maxHeartbeats 1000000
namespace My
open PySem L2 U StX PM
/-! ### _law_shown -/
def dPair (p : Int × Int) : PyData := .tuple [.int p.1, .int p.2]
theorem dp_pairs {K : PySem.W.Frag} {H : Hp} : ∀ {ts : List Addr} {l : List (Int × Int)}, Paired (fun (t : Addr) (q : Key × V) => H t = some (.tup [kV q.1, q.2])) ts (kvI l) → DpAll K H (ts.map V.ref) (l.map dPair)
  | [], [], _ => .nil
  | t :: ts, p :: l, h => by
    cases h with
    | cons a r => exact .cons (.tup (SqT.of a) (.cons (.int _) (.cons (.int _) .nil))) (dp_pairs r)
  | [], _ :: _, h => by cases h
  | _ :: _, [], h => by cases h
theorem lay_pairs (l : List (Int × Int)) : PyData.canLayAll0 (l.map dPair) = true ∧ PyData.depthAll (l.map dPair) ≤ 1 := by
  induction l with
  | nil => exact ⟨rfl, Nat.zero_le _⟩
  | cons p l ih =>
    refine ⟨?_, ?_⟩
    · show (PyData.canLay0 (dPair p) && PyData.canLayAll0 (l.map dPair)) = true
      rw [ih.1]; rfl
    · show max (PyData.depth (dPair p)) (PyData.depthAll (l.map dPair)) ≤ 1
      have : PyData.depth (dPair p) = 1 := rfl
      omega
theorem shaped_pairs (l : List (Int × Int)) : SeqAt.shaped (.list (l.map dPair)) = true := by
  unfold SeqAt.shaped
  have h := lay_pairs l
  rw [Bool.and_eq_true]
  refine ⟨h.1, decide_eq_true ?_⟩
  show PyData.depthAll (l.map dPair) + 1 ≤ 64
  omega
def spShn (CM C : Addr) : Sp := fun vs H Q _ => ∃ (s d1 d2 : Addr) (cs hs l1 l2 : List (Int × Int)) (f g : PF), vs = [.ref s, .ref d1, .ref d2] ∧ IsShape C H s cs hs ∧ DI cs f ∧ DI hs g ∧ H d1 = some (.dK (kvI l1)) ∧ H d2 = some (.dK (kvI l2)) ∧ DI l1 f ∧ DI l2 g ∧ Sz 1000 cs ∧ Sz 1000 hs ∧ cs.length ≤ 100 ∧ hs.length ≤ 100 ∧ ∀ H', Same H H' → Q (.bl true) H'
theorem asc_eqD {l m : List (Int × Int)} {f : PF} (h1 : Asc l) (h2 : Asc m) (d1 : DI l f) (d2 : DI m f) : l = m := asc_uniq h1 h2 fun ⟨x, y⟩ => by rw [d1.mem, d2.mem]
theorem Sz.di {B : Int} {l m : List (Int × Int)} {f : PF} (h : Sz B l) (d1 : DI l f) (d2 : DI m f) : Sz B m := fun ⟨x, y⟩ hp => h (x, y) (d1.mem.mpr (d2.mem.mp hp))
theorem di_len' {l r : List (Int × Int)} {f : PF} (a : DI l f) (b : DI r f) : l.length = r.length := by
  have n1 : l.Nodup := nd_prs a.nd
  have n2 : r.Nodup := nd_prs b.nd
  refine Nat.le_antisymm (List.Nodup.length_le_of_subset n1 fun p hp => ?_) (List.Nodup.length_le_of_subset n2 fun p hp => ?_)
  · exact b.mem.mpr (a.mem.mp hp)
  · exact a.mem.mpr (b.mem.mp hp)
/-- [.. for a, b in a list of pairs that is made here] -/
theorem lc_prsX {K : PySem.W.Frag} {te : TE} {i j : Nat} {tv : TE} {vs : List Nat} {σ : L2.St} {H0 : Hp} {Q : VK} {l : List (Int × Int)} (vf : Int → Int → Int) (Φ : Addr → List Addr → Hp → Prop) (hte : ∀ R : VK, (∀ a ts H, Φ a ts H → R (.ref a) H) → te σ H0 R)
    (ha : ∀ a ts H, Φ a ts H → H a = some (.lst (ts.map V.ref)) ∧ Paired (fun t (p : Int × Int) => H t = some (.tup [.int p.1, .int p.2])) ts l) (hw : ∀ a b, wipe (((wipe σ vs).set i a).set j b) vs = wipe σ vs)
    (hb : ∀ x y, (x, y) ∈ l → ∀ H1, ∀ R : VK, R (.int (vf x y)) H1 → tv (((wipe σ vs).set i (some (.int x))).set j (some (.int y))) H1 R) (hz : l.length < sizeLine)
    (hq : ∀ a ts H, Φ a ts H → ∀ D H', H D = none → H' D = some (.lst ((l.map fun p => vf p.1 p.2).map V.int)) → L2.Same H H' → Q (.ref D) H') : tLc (iList K te) (gTup K 2 (gCons (gName i) (gCons (gName j) gNil))) tYes tv vs σ H0 Q := by
  refine hte _ fun a ts H φ => ?_
  obtain ⟨hx, hp⟩ := ha a ts H φ
  refine ⟨a, rfl, ⟨_, SqL.of hx⟩, fun D hD => ?_⟩
  have hln := paired_len hp
  refine lc_it (walk_list (xs := ts.map V.ref)) (fun k H' => L2.Same H H' ∧ H' D = some (.lst (((l.take k).map fun p => vf p.1 p.2).map V.int))) ⟨Same.new hD, upd_same⟩ (fun k H' _ p => SqL.of (p.1 _ _ hx)) ?_ ?_
  · rintro k v H' H'' hk ⟨s1, e1⟩ ⟨rfl, ev⟩
    rw [List.length_map] at hk
    rw [List.getElem?_map] at ev
    cases e : ts[k]? with
    | none => rw [e] at ev; cases ev
    | some t =>
      rw [e] at ev
      cases ev
      obtain ⟨⟨x, y⟩, ep, ht⟩ := paired_at hp e
      refine ⟨t, [.int x, .int y], rfl, SqT.of (s1 _ _ ht), rfl, .int x, [.int y], rfl, .int y, [], rfl, rfl, ?_⟩
      refine ⟨hw _ _, yes_ ?_⟩
      refine hb x y (List.mem_of_getElem? ep) _ _ ⟨_, e1, ?_, Same.put s1 hD, ?_⟩
      · rw [List.length_map, List.length_map, List.length_take]
        omega
      · rw [upd_same, take_more ep, List.map_append, List.map_append]
        rfl
  · rintro H' ⟨s1, e1⟩
    rw [List.length_map, hln, List.take_length] at e1
    exact hq a ts H φ D H' hD e1 s1
section
variable {P : Program} {w : World} {K : PySem.W.Frag} {mg : Str → Option Value} {base : Heap}
theorem ok_repr (T : Txt K mg) : FnG P w K mg base CX0 5 T.f_Shape__repr (spShRep T.C_Shape) := ok_sh_repr T
theorem ok_eqV (T : Txt K mg) : FnR P w K mg base CX0 2 T.f_Shape__eq (spShEqV T.C_Map T.C_Shape) := ok_sh_eqV T
theorem ok_l_shown (T : Txt K mg) : FnG P w K mg base CX0 9 T.f_l_shown (spShn T.C_Map T.C_Shape) := by
  refine T.A_l_shown.okG sc_l_shown (fun vs H Q E h => ?_) (fun cdv A outer s H vs Q E gd hr h => ?_)
  · obtain ⟨s, d1, d2, cs, hs, l1, l2, f, g, rfl, _⟩ := h
    rfl
  · obtain ⟨s, d1, d2, cs, hs, l1, l2, f, g, rfl, sh, dc, dh, h1, h2, di1, di2, z1, z2, b1, b2, q⟩ := h
    have hu := hu_of hr
    refine ⟨_, (pss_cons (ps_par (i := 3) (j := 4) rfl sc_l_shown.nd rfl rfl (by decide) rfl rfl (pa_cons (pe_callR (ok_l_raised T) (hr.mono (by decide)) T.A_l_raised.kp rfl T.g_l_raised pass0 (pa_cons (pv 1) pa_nil)) (pa_cons (pe_callR (ok_l_raised T) (hr.mono (by decide)) T.A_l_raised.kp rfl T.g_l_raised pass0 (pa_cons (pv 2) pa_nil)) pa_nil)) (by rfl))
      (pss_cons (ps_if (PW.pt (pw_or (pt_cmpR (L2.op_neD hr.units) (pe_itemsR rfl (pe_propR (pv 0) T.o_Shape.cl T.P_Shape_cycles (ok_sh_cycles T) (hr.mono (by decide))) rfl T.n_list (by decide +kernel)) (pe_itemsR rfl (pv 3) rfl T.n_list (by decide +kernel)) (nomark _)) (pw_or1 (pt_cmpR (L2.op_neD hr.units) (pe_itemsR rfl (pe_propR (pv 0) T.o_Shape.cl T.P_Shape_chains (ok_sh_chains T) (hr.mono (by decide))) rfl T.n_list (by decide +kernel)) (pe_itemsR rfl (pv 4) rfl T.n_list (by decide +kernel)) (nomark _)))))
        (pss_one (ps_ret pe_bl)) pss_nil)
      (pss_cons (ps_set (i := 5) sc_l_shown.nd rfl (Or.inl rfl) (pe_callB (cr_sum rfl) (by rfl) T.n_sum (by decide +kernel) (pa_cons (pe_lc (own := [("_law_one", 6), ("_law_two", 7)]) (g := (gTup K 2 (gCons (gName 6) (gCons (gName 7) gNil)))) (tt := tYes) rfl sc_l_shown.nd (pi_list (pe_op op_cat (pe_itemsR rfl (pv 3) rfl T.n_list (by decide +kernel)) (pe_itemsR rfl (pv 4) rfl T.n_list (by decide +kernel)))) (blkOk_by (own := [("_law_one", 6), ("_law_two", 7)]) (N := n_l_shown) (sc := defScope s_l_shown) (by decide +kernel)) (fun _ _ _ _ _ => (pg_tup rfl (pgs_cons (pg_name (i := 6) sc_l_shown.nd rfl (Or.inl rfl)) (pgs_cons (pg_name (i := 7) sc_l_shown.nd rfl (Or.inl rfl)) pgs_nil)))) (fun _ _ _ _ _ => pts_nil) (fun _ _ _ _ _ => (pe_op op_mul (pv 6) (pv 7)))) pa_nil)))
      (pss_cons (ps_if (PW.pt (pw_or (pt_cmpR op_ne (pe_propR (pv 0) T.o_Shape.cl T.P_Shape_size (ok_sh_size T) (hr.mono (by decide))) (pv 5) (nomark _)) (pw_or1 (pt_cmpR op_ne (pe_callB (call_reprO gd T.m_Shape__repr T.i_Shape__repr (ok_repr T) (hr.mono (by decide)) pass0) (by rfl) T.n_repr (by decide +kernel) (pa_cons (pv 0) pa_nil)) (pe_op op_add_str (pe_op op_add_str (pe_op op_add_str (pe_op op_add_str pe_str (pe_callB (call_reprF gd hr.units) (by rfl) T.n_repr (by decide +kernel) (pa_cons (pv 3) pa_nil))) pe_str) (pe_callB (call_reprF gd hr.units) (by rfl) T.n_repr (by decide +kernel) (pa_cons (pv 4) pa_nil))) pe_str) (nomark _)))))
        (pss_one (ps_ret pe_bl)) pss_nil)
      (pss_cons (ps_expr (pe_dclear (pe_propR (pv 0) T.o_Shape.cl T.P_Shape_cycles (ok_sh_cycles T) (hr.mono (by decide)))))
      (pss_cons (ps_expr (pe_dclear (pe_propR (pv 0) T.o_Shape.cl T.P_Shape_chains (ok_sh_chains T) (hr.mono (by decide)))))
      (pss_one (ps_ret (pe_and (pe_cmpR (op_cmp (fun _ _ => rfl) T.m_Shape__eq T.i_Shape__eq (ok_eqV T) (hr.mono (by decide)) pass0) (pv 0) (pe_makeR T.M_Shape (ok_sh_init T) (hr.mono (by decide)) rfl T.g_Shape pass0 (pa_cons (pv 3) (pa_cons (pv 4) pa_nil))) (nomark _)) (pe_and (pe_cmpR (op_neV T.o_Shape T.ne_Shape T.m_Shape__eq T.i_Shape__eq (ok_eqV T) (hr.mono (by decide)) pass0) (pv 0) (pv 3) (nomark _)) (pe_one (pe_cmpR op_eq (pe_cmpR (op_cmp (fun _ _ => rfl) T.m_Shape__eq T.i_Shape__eq (ok_eqV T) (hr.mono (by decide)) pass0) (pv 0) (pe_makeR T.M_Shape (ok_sh_init T) (hr.mono (by decide)) rfl T.g_Shape pass0 (pa_cons (pv 4) (pa_cons (pv 3) pa_nil))) (nomark _)) (pe_cmpR (U.op_eqDI hr.units0) (pv 3) (pv 4) (nomark _)) (nomark _))))))))))))), ?_⟩
    obtain ⟨⟨dx, D1, D2, e1, e2, e3⟩, as1, as2, lc, lh⟩ := id sh
    have q1 : Pos l1 := (z1.di dc di1).pos (by decide)
    have q2 : Pos l2 := (z2.di dh di2).pos (by decide)
    have le1 := di_len' dc di1
    have le2 := di_len' dh di2
    refine ⟨_, rfl, d1, l1, f, rfl, h1, di1, q1, by omega, fun D3 cs3 H1 s1 n3 e3' dc3 as3 l3 => ?_⟩
    refine ⟨_, rfl, d2, l2, g, rfl, s1 _ _ h2, di2, q2, by omega, fun D4 hs4 H2 s2 n4 e4 dh4 as4 l4 => ?_⟩
    obtain rfl : cs3 = cs := asc_eqD as3 as1 dc3 dc
    obtain rfl : hs4 = hs := asc_eqD as4 as2 dh4 dh
    refine ⟨_, _, rfl, ?_⟩
    have s12 := s1.trans s2
    have e32 := s2 _ _ e3'
    refine ⟨_, rfl, s, dx, _, rfl, s12 _ _ e1, s, cs3, hs4, rfl, sh.same s12, ?_⟩
    refine fun a1 n_a1 => ?_
    generalize g_a1 : L2.upd _ a1 _ = H3
    obtain ⟨s_H3, e_a1⟩ := U.upd_facts g_a1 n_a1
    clear g_a1
    refine ⟨a1, _, rfl, .inl e_a1, fun H4 r1 ts1 x1 nr1 _ _ hr1 pr1 => ?_⟩
    refine ⟨_, rfl, D3, _, rfl, .inl (x1 _ _ (s_H3 _ _ e32)), fun H5 r2 ts2 x2 nr2 _ _ hr2 pr2 => ?_⟩
    refine ⟨.list (cs3.map dPair), .list (cs3.map dPair), .lst (SqL.of (x2 _ _ hr1)) (dp_pairs (pr1.map fun _ _ _ e => x2 _ _ e)), .lst (SqL.of hr2) (dp_pairs pr2), shaped_pairs _, shaped_pairs _, _, rfl, ?_⟩
    rw [SeqAt.eqv_refl _ (SeqAt.canLay_of_shaped (shaped_pairs _))]
    refine iteF ?_
    have s25 : Same H2 H5 := s_H3.trans ((show Same H3 H4 from x1).trans x2)
    have s15 := s12.trans s25
    refine ⟨_, rfl, s, dx, _, rfl, s15 _ _ e1, s, cs3, hs4, rfl, sh.same s15, ?_⟩
    refine fun a2 n_a2 => ?_
    generalize g_a2 : L2.upd _ a2 _ = H6
    obtain ⟨s_H6, e_a2⟩ := U.upd_facts g_a2 n_a2
    clear g_a2
    refine ⟨a2, _, rfl, .inl e_a2, fun H7 r3 ts3 x3 nr3 _ _ hr3 pr3 => ?_⟩
    refine ⟨_, rfl, D4, _, rfl, .inl (x3 _ _ (s_H6 _ _ (s25 _ _ e4))), fun H8 r4 ts4 x4 nr4 _ _ hr4 pr4 => ?_⟩
    refine ⟨.list (hs4.map dPair), .list (hs4.map dPair), .lst (SqL.of (x4 _ _ hr3)) (dp_pairs (pr3.map fun _ _ _ e => x4 _ _ e)), .lst (SqL.of hr4) (dp_pairs pr4), shaped_pairs _, shaped_pairs _, _, rfl, ?_⟩
    rw [SeqAt.eqv_refl _ (SeqAt.canLay_of_shaped (shaped_pairs _))]
    refine iteF ?_
    have s58 : Same H5 H8 := s_H6.trans ((show Same H6 H7 from x3).trans x4)
    have s28 := s25.trans s58
    have s18 := s15.trans s58
    have e38 := s28 _ _ e32
    have e48 := s28 _ _ e4
    clear pr1 pr2 pr3 pr4 hr1 hr2 hr3 hr4 e_a1 e_a2
    dsimp only [tSeq, tNext, tAsg, tCB, tCons, tNil, gName]
    refine lc_prsX (l := cs3 ++ hs4) (fun x y => x * y) (fun a ts H' => H' a = some (.lst (ts.map V.ref)) ∧ Paired (fun t (p : Int × Int) => H' t = some (.tup [.int p.1, .int p.2])) ts (cs3 ++ hs4) ∧ Same H8 H') (fun R r => ?_) (fun a ts H' z => ⟨z.1, z.2.1⟩) (fun _ _ => rfl) (fun x y hxy H' R r => ?_) (small1000' (by rw [List.length_append]; omega)) (fun a ts H' z D Hd nD hD sd => ?_)
    · refine ⟨_, rfl, D3, _, rfl, .inl e38, fun Ha p1 ts1 x1 np1 _ _ hp1 pr1 => ?_⟩
      refine ⟨_, rfl, D4, _, rfl, .inl (x1 _ _ e48), fun Hb p2 ts2 x2 np2 _ _ hp2 pr2 => ?_⟩
      have lt1 := paired_len pr1
      have lt2 := paired_len pr2
      rw [kvI_length] at lt1 lt2
      refine ⟨p1, p2, _, _, rfl, rfl, x2 _ _ hp1, hp2, le_line (by simp only [List.length_append, List.length_map]; omega), ?_⟩
      refine fun p3 n_p3 => ?_
      generalize g_p3 : L2.upd _ p3 _ = Hc
      obtain ⟨s_Hc, e_p3⟩ := U.upd_facts g_p3 n_p3
      clear g_p3
      refine r p3 (ts1 ++ ts2) Hc ⟨by rw [e_p3, List.map_append], paired_app2 ((paired_kvI pr1).map fun _ _ _ e => s_Hc _ _ (x2 _ _ e)) ((paired_kvI pr2).map fun _ _ _ e => s_Hc _ _ e), ?_⟩
      exact (show Same H8 Ha from x1).trans ((show Same Ha Hb from x2).trans s_Hc)
    · have hb : -(2 ^ 64) < y ∧ y < 2 ^ 64 := by
        rcases List.mem_append.mp hxy with h | h
        · have := z1 _ h; dsimp only at this; omega
        · have := z2 _ h; dsimp only at this; omega
      exact ⟨_, rfl, _, rfl, _, _, rfl, rfl, .inr hb, r⟩
    obtain ⟨_, _, s8'⟩ := z
    refine ⟨D, _, rfl, SqL.of hD, ?_⟩
    have esum : ((cs3 ++ hs4).map fun p => p.1 * p.2).sum = szL cs3 + szL hs4 := by
      rw [List.map_append, List.sum_append]
      rfl
    rw [esum]
    have s8d := s8'.trans sd
    have s1d := s18.trans s8d
    refine ⟨_, rfl, s, dx, _, rfl, s1d _ _ e1, s, cs3, hs4, rfl, sh.same s1d, fun H9 s9 => ?_⟩
    refine ⟨_, rfl, rfl, _, rfl, ?_⟩
    rw [decide_eq_true rfl]
    refine iteF ?_
    have s19 := s1d.trans s9
    have e39 := (s8d.trans s9) _ _ e38
    have e49 := (s8d.trans s9) _ _ e48
    have sh9 := sh.same s19
    have zz1 := z1.mono (show (1000 : Int) ≤ 1000000 by decide)
    have zz2 := z2.mono (show (1000 : Int) ≤ 1000000 by decide)
    refine ⟨_, rfl, s, dx, _, rfl, s19 _ _ e1, s, cs3, hs4, rfl, sh9, zz1, zz2, b1, b2, fun hle => ⟨_, rfl, ?_⟩⟩
    have m1 := zz1.mids (by decide)
    have m2 := zz2.mids (by decide)
    have le1' := dI_len' m1 b1
    have le2' := dI_len' m2 b2
    have big : 50000 ≤ sizeLine := by decide
    have f1 : (flatD (kvI cs3) (cs3.map fun p => PyData.int p.2)) = dI cs3 := rfl
    have f2 : (flatD (kvI hs4) (hs4.map fun p => PyData.int p.2)) = dI hs4 := rfl
    have k6 : (Str.ofString "Shape(").length = 6 := rfl
    have k2 : (Str.ofString ", ").length = 2 := rfl
    have k1 : (Str.ofString ")").length = 1 := rfl
    refine ⟨_, rfl, D3, kvI cs3, _, rfl, e39, dI_sc _, dI_able' m1, dI_depth _, Nat.le_trans le1' (by omega), ?_⟩
    rw [f1]
    refine ⟨_, _, rfl, rfl, by simp only [strLen_append, k6, k2, k1]; omega, ?_⟩
    refine ⟨_, _, rfl, rfl, by simp only [strLen_append, k6, k2, k1]; omega, ?_⟩
    refine ⟨_, rfl, D4, kvI hs4, _, rfl, e49, dI_sc _, dI_able' m2, dI_depth _, Nat.le_trans le2' (by omega), ?_⟩
    rw [f2]
    refine ⟨_, _, rfl, rfl, by simp only [strLen_append, k6, k2, k1]; omega, ?_⟩
    refine ⟨_, _, rfl, rfl, by simp only [strLen_append, k6, k2, k1]; omega, ?_⟩
    refine ⟨rfl, _, rfl, ?_⟩
    have et : reprS cs3 hs4 = Str.ofString "Shape(" ++ (dI cs3).shown ++ Str.ofString ", " ++ (dI hs4).shown ++ Str.ofString ")" := by
      unfold reprS
      rw [show Str.empty ++ Str.ofString "Shape(" = Str.ofString "Shape(" from rfl]
    rw [decide_eq_true (congrArg V.str et)]
    refine iteF ?_
    clear hle k6 k2 k1 f1 f2 le1' le2' et
    have ob9 := s19 _ _ e1
    refine ⟨_, rfl, s, dx, _, rfl, ob9, s, cs3, hs4, rfl, sh9, fun b nb => ?_⟩
    refine ⟨.inr (.inr (.inl ⟨rfl, .inl ⟨_, upd_same⟩⟩)), b, _, rfl, rfl, upd_same, ?_⟩
    generalize ga : upd (upd H9 b _) b _ = Ha
    have sa : Same H9 Ha := by rw [← ga]; exact Same.put (Same.new nb) nb
    clear ga
    refine ⟨_, rfl, s, dx, _, rfl, sa _ _ ob9, s, cs3, hs4, rfl, sh9.same sa, fun b nb => ?_⟩
    refine ⟨.inr (.inr (.inl ⟨rfl, .inl ⟨_, upd_same⟩⟩)), b, _, rfl, rfl, upd_same, ?_⟩
    generalize gb : upd (upd Ha b _) b _ = Hb
    have sb : Same Ha Hb := by rw [← gb]; exact Same.put (Same.new nb) nb
    clear gb
    have s9b := sa.trans sb
    have sh10 := sh9.same s9b
    have ob10 := s9b _ _ ob9
    have e310 := s9b _ _ e39
    have e410 := s9b _ _ e49
    have n1 := as3.nd
    have n2 := as4.nd
    have p1 := as3.2
    have p2 := as4.2
    refine ⟨_, rfl, _, rfl, _, rfl, fun x1 dx1 nx ndx ne => initS_of e310 e410 n1 n2 p1 p2 (by omega) (by omega) nx ndx ne fun c1 h1 Hc sc pm1 pm2 sh1 => ⟨rfl, ?_⟩⟩
    obtain rfl : cs3 = c1 := asc_eqD as3 sh1.a1 dc3 (di_perm dc3 pm1)
    obtain rfl : hs4 = h1 := asc_eqD as4 sh1.a2 dh4 (di_perm dh4 pm2)
    obtain ⟨dx1', A1, A2, o1, _⟩ := id sh1.ob
    refine ⟨s, dx, _, x1, dx1', _, rfl, rfl, sc _ _ ob10, o1, s, .ref x1, cs3, hs4, rfl, sh10.same sc, .inl ⟨x1, cs3, hs4, rfl, sh1, ?_⟩⟩
    rw [decide_eq_true rfl, decide_eq_true rfl]
    refine ⟨_, rfl, iteT ?_⟩
    have s9c := s9b.trans sc
    have e311 := sc _ _ e310
    have e411 := sc _ _ e410
    have ob11 := sc _ _ ob10
    refine ⟨_, rfl, _, rfl, s, dx, _, _, rfl, ob11, .base (.dK e311), T.nf_dict_Shape, s, .ref D3, cs3, hs4, rfl, sh10.same sc, .inr ⟨.inl (.inr (.inr ⟨_, e311⟩)), _, rfl, ?_⟩⟩
    refine ⟨_, rfl, iteT ?_⟩
    refine ⟨_, rfl, _, rfl, _, rfl, fun x2 dx2 nx ndx ne => initS_of e411 e311 n2 n1 p2 p1 (by omega) (by omega) nx ndx ne fun c2 h2 Hd sd' pm1 pm2 sh2 => ⟨rfl, ?_⟩⟩
    obtain rfl : hs4 = c2 := asc_eqD as4 sh2.a1 dh4 (di_perm dh4 pm1)
    obtain rfl : cs3 = h2 := asc_eqD as3 sh2.a2 dc3 (di_perm dc3 pm2)
    obtain ⟨dx2', B1, B2, o2, _⟩ := id sh2.ob
    refine ⟨s, dx, _, x2, dx2', _, rfl, rfl, sd' _ _ ob11, o2, s, .ref x2, cs3, hs4, rfl, (sh10.same sc).same sd', .inl ⟨x2, hs4, cs3, rfl, sh2, ?_⟩⟩
    refine ⟨_, rfl, _, rfl, D3, D4, _, _, rfl, rfl, sd' _ _ e311, sd' _ _ e411, intVals_kvI _, intVals_kvI _, rfl, ?_⟩
    rw [asc_dEq as3 as4]
    rw [show decide (V.bl (decide (cs3 = hs4) && decide (hs4 = cs3)) = V.bl (decide (cs3 = hs4))) = true by
      by_cases h : cs3 = hs4
      · subst h; simp
      · simp [h]]
    exact q Hd ((s19.trans s9c).trans sd')
end
end My
set_option maxHeartbeats 1000000
namespace My
open PySem L2 U StX PM
/-! ### _law_bad -/
def partM (CE : Addr) (E : XK) (H : Hp) : Prop := ∀ d, H d = none → E (.ref CE) (some d) (upd H d (.xd [("part", .str "map")]))
def spChkO (P : Program) (w : World) (CE : Addr) : Sp := fun vs H Q E => ∃ d k v, vs = [.ref d] ∧ OddD P w H d [(k, v)] ∧ partM CE E H
def NMap (P : Program) (w : World) (H : Hp) (x : V) : Prop := nonMapV H x ∨ ∃ d k v, x = .ref d ∧ OddD P w H d [(k, v)]
theorem NMap.same {P : Program} {w : World} {H H' : Hp} {x : V} (h : NMap P w H x) (s : Same H H') : NMap P w H' x := by
  rcases h with h | ⟨d, k, v, e, h⟩
  · refine .inl ?_
    cases x with
    | ref a =>
      rcases h with ⟨xs, e⟩ | ⟨xs, e⟩ | ⟨xs, e⟩
      · exact .inl ⟨xs, s _ _ e⟩
      · exact .inr (.inl ⟨xs, s _ _ e⟩)
      · exact .inr (.inr ⟨xs, s _ _ e⟩)
    | _ => exact h
  · exact .inr ⟨d, k, v, e, h.same s⟩
def spShapeX (P : Program) (w : World) (CE : Addr) : Sp := fun vs H Q E => ∃ x, vs = [x] ∧ NMap P w H x ∧ partM CE E H
theorem put_facts {H G : Hp} {p : Addr} {a b : HO} (g : upd (upd H p a) p b = G) (n : H p = none) : Same H G ∧ G p = some b := by
  subst g
  exact ⟨Same.put (Same.new n) n, upd_same⟩
def spBad : Sp := fun vs H Q _ => ∃ (p c : Addr) (x : V) (lc : List (Int × Int)), vs = [.ref p, .ref c, x] ∧ PoolAt H p ∧ H c = some (.dK (kvI lc)) ∧ (lc.map (·.1)).Nodup ∧ Pos lc ∧ lc.length ≤ 1000 ∧ ∀ H', Off p H H' → PoolAt H' p → Q (.bl true) H'
section
variable {P : Program} {w : World} {K : PySem.W.Frag} {mg : Str → Option Value} {base : Heap}
theorem ok_check_mapO (T : Txt K mg) : FnR P w K mg base (L2.CX P w) 3 T.f_check_map (spChkO P w T.C_InvalidMap) := by
  refine T.A_check_map.okX sc_check_map (fun vs H Q E h => ?_) (fun cdv A outer s H vs Q E hr h => ?_)
  · obtain ⟨d, k, v, rfl, _⟩ := h
    rfl
  · obtain ⟨d, k, v, rfl, hd, q⟩ := h
    refine ⟨_, (pss_one (ps_if (pt_not (pt_val (pe_callB call_isD (by rfl) T.n_isinstance (by decide +kernel) (pa_cons (pv 0) (pa_cons (pe_glob (v := .ref T.C_Map) rfl T.g_Map rfl) pa_nil)))))
        (pss_one (ps_raise rfl (takes_of rfl rfl rfl rfl) (pmk_oexG T.x_InvalidMap T.m_InvalidMap__init T.ti_InvalidMap__init (ok_ini_InvalidMap T) (hr.mono (by decide)) pass0 rfl T.g_InvalidMap (pa_cons pe_str pa_nil)))) pss_nil)), ?_⟩
    exact ⟨_, rfl, d, _, _, false, _, rfl, .own _, hd, T.kn_dict_Map, _, rfl, iteT (mk_one fun d hd => q d hd)⟩
theorem okX_shape_of (T : Txt K mg) : FnR P w K mg base (L2.CX P w) 7 T.f_shape_of (spShapeX P w T.C_InvalidMap) := by
  refine T.A_shape_of.okX sc_shape_of (fun vs H Q E h => ?_) (fun cdv A outer s H vs Q E hr h => ?_)
  · obtain ⟨x, rfl, _⟩ := h
    rfl
  · obtain ⟨x, rfl, hx, q⟩ := h
    refine ⟨_, (pss_cons (ps_expr (pe_callR (fnR_or (ok_check_map T) (ok_check_mapO (P := P) (w := w) T)) (hr.mono (by decide)) T.A_check_map.kp rfl T.g_check_map (passes_call (takes_of rfl rfl rfl rfl) (fun _ _ _ _ h => h)) (pa_cons (pv 0) pa_nil)))
      (pss_cons (ps_asg (pe_callR (ok_parts_of T) (hr.mono (by decide)) T.A_parts_of.kp rfl T.g_parts_of pass0 (pa_cons (pv 0) pa_nil)) (pg_tup rfl (pgs_cons (pg_name (i := 1) sc_shape_of.nd rfl (Or.inl rfl)) (pgs_cons (pg_name (i := 2) sc_shape_of.nd rfl (Or.inl rfl)) pgs_nil))))
      (pss_one (ps_ret (pe_makeR T.M_Shape (ok_sh_init T) (hr.mono (by decide)) rfl T.g_Shape pass0 (pa_cons (pe_callR (ok_counts_of T) (hr.mono (by decide)) T.A_counts_of.kp rfl T.g_counts_of pass0 (pa_cons (pv 1) pa_nil)) (pa_cons (pe_callR (ok_counts_of T) (hr.mono (by decide)) T.A_counts_of.kp rfl T.g_counts_of pass0 (pa_cons (pv 2) pa_nil)) pa_nil))))))), ?_⟩
    rcases hx with hx | ⟨d, k, v, rfl, hd⟩
    · exact ⟨_, rfl, .inl ⟨x, rfl, .inr ⟨hx, q⟩⟩⟩
    · exact ⟨_, rfl, .inr ⟨d, k, v, rfl, hd, q⟩⟩
theorem ok_l_bad (T : Txt K mg) : FnR P w K mg base CX0 10 T.f_l_bad spBad := by
  refine T.A_l_bad.ok sc_l_bad (fun vs H Q E h => ?_) (fun cdv A outer s H vs Q E hr h => ?_)
  · obtain ⟨p, c, x, lc, rfl, _⟩ := h
    rfl
  · obtain ⟨p, c, x, lc, rfl, hp, hc, nd, pos, hl, q⟩ := h
    have hu := hu_of hr
    refine ⟨_, (pss_cons (ps_set (i := 3) sc_l_bad.nd rfl (Or.inl rfl) (pe_lst (pa_cons (pe_disp (pps_cons pe_int pe_int pps_nil) (by rfl) (by rfl) (fun z => by cases z) (by decide)) (pa_cons (pe_disp (pps_cons pe_int pe_int pps_nil) (by rfl) (by rfl) (fun z => by cases z) (by decide)) (pa_cons (pe_dispO (pps_cons pe_bl pe_int pps_nil) (by rfl) (by rfl) (fun z => by cases z) (by decide)) (pa_cons (pe_disp (pps_cons pe_int pe_bl pps_nil) (by rfl) (by rfl) (fun z => by cases z) (by decide)) (pa_cons (pe_disp (pps_cons (pe_un un_neg pe_int) pe_int pps_nil) (by rfl) (by rfl) (fun z => by cases z) (by decide)) (pa_cons (pe_disp (pps_cons pe_str pe_int pps_nil) (by rfl) (by rfl) (fun z => by cases z) (by decide)) (pa_cons (pe_disp (pps_cons pe_int pe_str pps_nil) (by rfl) (by rfl) (fun z => by cases z) (by decide)) (pa_cons pe_non (pa_cons (pe_lst pa_nil) (pa_cons (pe_lst (pa_cons (pe_tup (pa_cons pe_int (pa_cons pe_int pa_nil))) pa_nil)) (pa_cons pe_int (pa_cons (pe_disp (pps_cons pe_int pe_non pps_nil) (by rfl) (by rfl) (fun z => by cases z) (by decide)) pa_nil))))))))))))))
      (pss_cons (ps_set (i := 3) sc_l_bad.nd rfl (Or.inl rfl) (pe_ix ix_list (pv 3) (pe_callR (ok_draw T) (hr.mono (by decide)) T.A_l_draw.kp rfl T.g_l_draw pass0 (pa_cons (pv 0) (pa_cons pe_int pa_nil))) (fun _ _ => rfl)))
      (pss_cons (ps_if (PW.pt (pw_or (pt_cmpR (L2.op_neD hr.units) (pe_callR (ok_l_made (P := P) (w := w) T) (hr.mono (by decide)) T.A_l_made.kp rfl T.g_l_made pass0 (pa_cons (pv 3) (pa_cons pe_non pa_nil))) (pe_lst (pa_cons pe_str (pa_cons pe_bl pa_nil))) (nomark _)) (pw_or1 (pt_cmpR (L2.op_neD hr.units) (pe_callR (ok_l_made (P := P) (w := w) T) (hr.mono (by decide)) T.A_l_made.kp rfl T.g_l_made pass0 (pa_cons (pv 1) (pa_cons (pv 3) pa_nil))) (pe_lst (pa_cons pe_str (pa_cons pe_bl pa_nil))) (nomark _)))))
        (pss_one (ps_ret pe_bl)) pss_nil)
      (pss_cons (ps_try_as (i := 4) rfl rfl sc_l_bad.nd rfl rfl ⟨rfl, by decide, .inl T.g_InvalidMap⟩ L2.takes0 (fun W pn xe tk _ => (pss_one (ps_expr (pe_callRS (okX_shape_of (P := P) (w := w) T) (hr.mono (by decide)) T.A_shape_of.kp rfl T.g_shape_of (fun σ => passAt tk σ) (pa_cons (pv 3) pa_nil))))) (fun a oe cls d pn hz hf => (pss_one (ps_ret (pe_cmpR op_eq (pe_xf T.xf_InvalidMap T.na_part_InvalidMap hz hf (pv 4)) pe_str (nomark _))))))
      (pss_one (ps_ret pe_bl)))))), ?_⟩
    refine fun d1 n1 => ⟨upd_same, [(Sum.inl 0, .int 1)], rfl, by show 1 ≤ 15; decide, ?_⟩
    generalize g1 : upd (upd _ d1 _) d1 _ = G1
    obtain ⟨s1, e1⟩ := put_facts g1 n1
    clear g1
    refine fun d2 n2 => ⟨upd_same, [(Sum.inl 1, .int 0)], rfl, by show 1 ≤ 15; decide, ?_⟩
    generalize g1 : upd (upd _ d2 _) d2 _ = G2
    obtain ⟨s2, e2⟩ := put_facts g1 n2
    clear g1
    refine fun d3 n3 => ⟨upd_same, some true, .int 2, rfl, fun ep3 => ?_⟩
    generalize g1 : upd (upd _ d3 _) d3 _ = G3
    obtain ⟨s3, e3⟩ := put_facts g1 n3
    clear g1
    refine fun d4 n4 => ⟨upd_same, [(Sum.inl 2, .bl true)], rfl, by show 1 ≤ 15; decide, ?_⟩
    generalize g1 : upd (upd _ d4 _) d4 _ = G4
    obtain ⟨s4, e4⟩ := put_facts g1 n4
    clear g1
    refine fun d5 n5 => ⟨_, rfl, upd_same, [(Sum.inl (-1), .int 1)], rfl, by show 1 ≤ 15; decide, ?_⟩
    generalize g1 : upd (upd _ d5 _) d5 _ = G5
    obtain ⟨s5, e5⟩ := put_facts g1 n5
    clear g1
    refine fun d6 n6 => ⟨upd_same, [(Sum.inr "1", .int 1)], rfl, by show 1 ≤ 15; decide, ?_⟩
    generalize g1 : upd (upd _ d6 _) d6 _ = G6
    obtain ⟨s6, e6⟩ := put_facts g1 n6
    clear g1
    refine fun d7 n7 => ⟨upd_same, [(Sum.inl 1, .str "1")], rfl, by show 1 ≤ 15; decide, ?_⟩
    generalize g1 : upd (upd _ d7 _) d7 _ = G7
    obtain ⟨s7, e7⟩ := put_facts g1 n7
    clear g1
    refine ⟨nil_le, ?_⟩
    refine fun d8 n_d8 => ?_
    generalize g_d8 : L2.upd _ d8 _ = G8
    obtain ⟨s_G8, e_d8⟩ := U.upd_facts g_d8 n_d8
    clear g_d8
    refine ⟨two_le, ?_⟩
    refine fun t9 n_t9 => ?_
    generalize g_t9 : L2.upd _ t9 _ = Gt
    obtain ⟨s_Gt, e_t9⟩ := U.upd_facts g_t9 n_t9
    clear g_t9
    refine ⟨one_le, ?_⟩
    refine fun d9 n_d9 => ?_
    generalize g_d9 : L2.upd _ d9 _ = G9
    obtain ⟨s_G9, e_d9⟩ := U.upd_facts g_d9 n_d9
    clear g_d9
    refine fun d10 n10 => ⟨upd_same, [(Sum.inl 1, .non)], rfl, by show 1 ≤ 15; decide, ?_⟩
    generalize g1 : upd (upd _ d10 _) d10 _ = G10
    obtain ⟨s10, e10⟩ := put_facts g1 n10
    clear g1
    refine ⟨le_line (by show 12 ≤ 100000; decide), ?_⟩
    refine fun L n_L => ?_
    generalize g_L : L2.upd _ L _ = G11
    obtain ⟨s_G11, e_L⟩ := U.upd_facts g_L n_L
    clear g_L
    obtain ⟨pa, pb, pe, pc⟩ := id hp
    have m1 : d1 ≠ p := (ne_of_none (pe) n1).symm
    have m2 : d2 ≠ p := (ne_of_none (s1 _ _ (pe)) n2).symm
    have m3 : d3 ≠ p := (ne_of_none (s2 _ _ (s1 _ _ (pe))) n3).symm
    have m4 : d4 ≠ p := (ne_of_none (s3 _ _ (s2 _ _ (s1 _ _ (pe)))) n4).symm
    have m5 : d5 ≠ p := (ne_of_none (s4 _ _ (s3 _ _ (s2 _ _ (s1 _ _ (pe))))) n5).symm
    have m6 : d6 ≠ p := (ne_of_none (s5 _ _ (s4 _ _ (s3 _ _ (s2 _ _ (s1 _ _ (pe)))))) n6).symm
    have m7 : d7 ≠ p := (ne_of_none (s6 _ _ (s5 _ _ (s4 _ _ (s3 _ _ (s2 _ _ (s1 _ _ (pe))))))) n7).symm
    have m8 : d8 ≠ p := (ne_of_none (s7 _ _ (s6 _ _ (s5 _ _ (s4 _ _ (s3 _ _ (s2 _ _ (s1 _ _ (pe)))))))) n_d8).symm
    have m9 : d9 ≠ p := (ne_of_none (s_Gt _ _ (s_G8 _ _ (s7 _ _ (s6 _ _ (s5 _ _ (s4 _ _ (s3 _ _ (s2 _ _ (s1 _ _ (pe)))))))))) n_d9).symm
    have m10 : d10 ≠ p := (ne_of_none (s_G9 _ _ (s_Gt _ _ (s_G8 _ _ (s7 _ _ (s6 _ _ (s5 _ _ (s4 _ _ (s3 _ _ (s2 _ _ (s1 _ _ (pe))))))))))) n10).symm
    have mL : L ≠ p := (ne_of_none (s10 _ _ (s_G9 _ _ (s_Gt _ _ (s_G8 _ _ (s7 _ _ (s6 _ _ (s5 _ _ (s4 _ _ (s3 _ _ (s2 _ _ (s1 _ _ (pe)))))))))))) n_L).symm
    have SS : Same H G11 := s1.trans (s2.trans (s3.trans (s4.trans (s5.trans (s6.trans (s7.trans (s_G8.trans (s_Gt.trans (s_G9.trans (s10.trans (s_G11)))))))))))
    have k1 : G11 d1 = some (.dK [(Sum.inl 0, .int 1)]) := s_G11 _ _ (s10 _ _ (s_G9 _ _ (s_Gt _ _ (s_G8 _ _ (s7 _ _ (s6 _ _ (s5 _ _ (s4 _ _ (s3 _ _ (s2 _ _ (e1)))))))))))
    have k2 : G11 d2 = some (.dK [(Sum.inl 1, .int 0)]) := s_G11 _ _ (s10 _ _ (s_G9 _ _ (s_Gt _ _ (s_G8 _ _ (s7 _ _ (s6 _ _ (s5 _ _ (s4 _ _ (s3 _ _ (e2))))))))))
    have k4 : G11 d4 = some (.dK [(Sum.inl 2, .bl true)]) := s_G11 _ _ (s10 _ _ (s_G9 _ _ (s_Gt _ _ (s_G8 _ _ (s7 _ _ (s6 _ _ (s5 _ _ (e4))))))))
    have k5 : G11 d5 = some (.dK [(Sum.inl (-1), .int 1)]) := s_G11 _ _ (s10 _ _ (s_G9 _ _ (s_Gt _ _ (s_G8 _ _ (s7 _ _ (s6 _ _ (e5)))))))
    have k6 : G11 d6 = some (.dK [(Sum.inr "1", .int 1)]) := s_G11 _ _ (s10 _ _ (s_G9 _ _ (s_Gt _ _ (s_G8 _ _ (s7 _ _ (e6))))))
    have k7 : G11 d7 = some (.dK [(Sum.inl 1, .str "1")]) := s_G11 _ _ (s10 _ _ (s_G9 _ _ (s_Gt _ _ (s_G8 _ _ (e7)))))
    have k10 : G11 d10 = some (.dK [(Sum.inl 1, .non)]) := s_G11 _ _ (e10)
    have k8 : G11 d8 = some (.lst []) := s_G11 _ _ (s10 _ _ (s_G9 _ _ (s_Gt _ _ (e_d8))))
    have k9 : G11 d9 = some (.lst _) := s_G11 _ _ (s10 _ _ (e_d9))
    have k3 : G11 d3 = some (OddO P w d3 ep3 [(some true, .int 2)]) := s_G11 _ _ (s10 _ _ (s_G9 _ _ (s_Gt _ _ (s_G8 _ _ (s7 _ _ (s6 _ _ (s5 _ _ (s4 _ _ (e3)))))))))
    have plG := hp.same SS
    refine ⟨_, rfl, ?_⟩
    refine draw_R rfl (fun R r => r) plG (by decide) (by decide) fun b G12 b0 b1 pl12 off12 => ?_
    obtain ⟨vv, hat, hmem⟩ := at_nat (xs := [V.ref d1, .ref d2, .ref d3, .ref d4, .ref d5, .ref d6, .ref d7, .non, .ref d8, .ref d9, .int 5, .ref d10]) b0 (by simp; omega)
    refine ⟨L, _, b, vv, rfl, rfl, SqL.of (off12 _ _ mL e_L), hat, ?_⟩
    have hv : CntV P w G12 vv false ∧ NMap P w G12 vv := by
      clear hat q
      simp only [List.mem_cons, List.not_mem_nil, or_false] at hmem
      rcases hmem with rfl | rfl | rfl | rfl | rfl | rfl | rfl | rfl | rfl | rfl | rfl | rfl
      · exact ⟨.bad (off12 _ _ m1 k1) trivial (by decide), .inl (.inr (.inr ⟨_, off12 _ _ m1 k1⟩))⟩
      · exact ⟨.bad (off12 _ _ m2 k2) trivial (by decide), .inl (.inr (.inr ⟨_, off12 _ _ m2 k2⟩))⟩
      · exact ⟨.odd ⟨ep3, off12 _ _ m3 k3⟩ trivial, .inr ⟨d3, _, _, rfl, ep3, off12 _ _ m3 k3⟩⟩
      · exact ⟨.bad (off12 _ _ m4 k4) trivial (by decide), .inl (.inr (.inr ⟨_, off12 _ _ m4 k4⟩))⟩
      · exact ⟨.bad (off12 _ _ m5 k5) trivial (by decide), .inl (.inr (.inr ⟨_, off12 _ _ m5 k5⟩))⟩
      · exact ⟨.bad (off12 _ _ m6 k6) trivial (by decide), .inl (.inr (.inr ⟨_, off12 _ _ m6 k6⟩))⟩
      · exact ⟨.bad (off12 _ _ m7 k7) trivial (by decide), .inl (.inr (.inr ⟨_, off12 _ _ m7 k7⟩))⟩
      · exact ⟨.non trivial, .inl trivial⟩
      · exact ⟨.non ⟨_, off12 _ _ m8 k8⟩, .inl (.inl ⟨_, off12 _ _ m8 k8⟩)⟩
      · exact ⟨.non ⟨_, off12 _ _ m9 k9⟩, .inl (.inl ⟨_, off12 _ _ m9 k9⟩)⟩
      · exact ⟨.non trivial, .inl trivial⟩
      · exact ⟨.bad (off12 _ _ m10 k10) trivial (by decide), .inl (.inr (.inr ⟨_, off12 _ _ m10 k10⟩))⟩
    obtain ⟨hv1, hv2⟩ := hv
    clear hat hmem
    have nc : c ≠ p := ne_of hc pe (by intro z; cases z)
    have hc12 := off12 _ _ nc (SS _ _ hc)
    refine ⟨_, rfl, vv, .non, rfl, .inl ⟨hv1, fun r1 H1 x1 er1 => ?_⟩⟩
    refine ⟨two_le, ?_⟩
    refine fun r2 n_r2 => ?_
    generalize g_r2 : L2.upd _ r2 _ = H2
    obtain ⟨s_H2, e_r2⟩ := U.upd_facts g_r2 n_r2
    clear g_r2
    have dsh : ∀ {Hz : Hp} {z : Addr} {t : Str}, Hz z = some (.lst [.str t, .bl true]) → Dp K Hz (.ref z) (.list [.str t, .bool true]) := fun e => .lst (SqL.of e) (.cons (.str _) (.cons (.bl _) .nil))
    refine ⟨.list [.str "cycles", .bool true], .list [.str "cycles", .bool true], dsh (s_H2 _ _ er1), dsh e_r2, by decide +kernel, by decide +kernel, _, rfl, ?_⟩
    rw [show PyData.eqv (.list [.str "cycles", .bool true]) (.list [.str "cycles", .bool true]) = true by decide +kernel]
    refine iteF ?_
    have x2 := x1.trans s_H2
    refine ⟨_, rfl, _, rfl, .ref c, vv, rfl, .inr ⟨.good (x2 _ _ hc12) pos nd hl, hv1.same x2, fun r3 H3 x3 er3 => ?_⟩⟩
    refine ⟨two_le, ?_⟩
    refine fun r4 n_r4 => ?_
    generalize g_r4 : L2.upd _ r4 _ = H4
    obtain ⟨s_H4, e_r4⟩ := U.upd_facts g_r4 n_r4
    clear g_r4
    refine ⟨.list [.str "chains", .bool true], .list [.str "chains", .bool true], dsh (s_H4 _ _ er3), dsh e_r4, by decide +kernel, by decide +kernel, _, rfl, ?_⟩
    rw [show PyData.eqv (.list [.str "chains", .bool true]) (.list [.str "chains", .bool true]) = true by decide +kernel]
    refine iteF ?_
    have x4 := x2.trans (x3.trans s_H4)
    refine ⟨_, rfl, vv, rfl, hv2.same x4, fun dd hdd => ?_⟩
    refine ⟨true, T.te_InvalidMap, fun _ a na => ?_, fun z => nomatch z⟩
    refine ⟨_, rfl, rfl, rfl, dd, _, _, rfl, upd_same, rfl, rfl, ?_⟩
    refine q _ (fun b o hb e => ?_) ?_
    · exact (Same.new hdd) _ _ (x4 _ _ (off12 _ _ hb (SS _ _ e)))
    · exact (pl12.same x4).same (Same.new hdd)
end
end My
set_option maxHeartbeats 1000000
namespace My
open PySem L2 U StX PM
/-! ### the law -/
theorem filt_clo {n : Int} {f : PF} (wf : WF n f) : (nons n f ++ cycS n f).filter (clo f) = cycS n f := by
  rw [List.filter_append, List.filter_eq_nil_iff.mpr, List.nil_append, List.filter_eq_self.mpr]
  · exact fun e he => cycS_clo wf he
  · intro e he
    have := nons_dom he
    rw [clo_non wf this.1 this.2.1 this.2.2]
    exact Bool.false_ne_true
theorem filt_non {n : Int} {f : PF} (wf : WF n f) : (nons n f ++ cycS n f).filter (fun e => !clo f e) = nons n f := by
  rw [List.filter_append, List.filter_eq_self.mpr, List.filter_eq_nil_iff.mpr, List.append_nil]
  · intro e he
    rw [cycS_clo wf he]
    exact Bool.false_ne_true
  · intro e he
    have := nons_dom he
    rw [clo_non wf this.1 this.2.1 this.2.2]
    rfl
theorem cN_le (Ls : List Nat) (x : Int) : cN Ls x ≤ Ls.length := List.length_filter_le _ _
theorem cnt_some {Ls : List Nat} {x y : Int} (h : cnt Ls x = some y) : y = (cN Ls x : Nat) ∧ 0 < cN Ls x ∧ ∃ L ∈ Ls, (L : Int) = x := by
  unfold cnt at h
  split at h
  · cases h
  · rename_i hne
    refine ⟨(Option.some.inj h).symm, Nat.pos_of_ne_zero hne, ?_⟩
    have : 0 < (Ls.filter fun L : Nat => decide ((L : Int) = x)).length := Nat.pos_of_ne_zero hne
    obtain ⟨L, hL⟩ := List.exists_mem_of_length_pos this
    rw [List.mem_filter, decide_eq_true_eq] at hL
    exact ⟨L, hL.1, hL.2⟩
theorem cnt_more (Ls : List Nat) (L : Nat) : (fun z => if z = (L : Int) then some ((cnt Ls (L : Int)).getD 0 + 1) else cnt Ls z) = cnt (Ls ++ [L]) := by
  rw [cnt_snoc]
  funext z
  by_cases h : z = (L : Int)
  · rw [if_pos h, if_pos h, h]
  · rw [if_neg h, if_neg h]
theorem cnt_sz {Ls : List Nat} {l : List (Int × Int)} (h : ∀ L ∈ Ls, 1 ≤ L ∧ L ≤ 12) (hl : Ls.length ≤ 600) (d : DI l (cnt Ls)) : Sz 1000 l ∧ l.length ≤ 100 := by
  have e31 : (13 : Int) < 10 ^ 31 := by decide +kernel
  have hk : ∀ p ∈ l, 1 ≤ p.1 ∧ p.1 ≤ 12 ∧ 0 < p.2 ∧ p.2 ≤ 600 := fun ⟨x, y⟩ hp => by
    obtain ⟨rfl, h0, L, hL, rfl⟩ := cnt_some (d.mem.mp hp)
    have := h L hL
    have := cN_le Ls (L : Int)
    dsimp only
    omega
  refine ⟨fun p hp => ?_, ?_⟩
  · have := hk p hp
    exact ⟨by omega, by omega, by omega, by omega⟩
  · have := len_range (n := 13) d.nd fun x hx => by
      obtain ⟨p, hp, rfl⟩ := List.mem_map.mp hx
      have := hk p hp
      omega
    rw [List.length_map] at this
    have e : (13 : Int).toNat = 13 := rfl
    omega
theorem bag_di2 {a a' b b' : List (Int × Int)} {f g : PF} (da : DI a f) (da' : DI a' f) (db : DI b g) (db' : DI b' g) (p : ∀ q ∈ a, 0 < q.2) (p' : ∀ q ∈ a', 0 < q.2) (q : ∀ q ∈ b, 0 < q.2) (q' : ∀ q ∈ b', 0 < q.2) : bag (a ++ b) = bag (a' ++ b') := by
  funext x
  rw [bag_append, bag_append, bag_lk da p, bag_lk da' p', bag_lk db q, bag_lk db' q']
theorem bag_swap (a b : List (Int × Int)) : bag (a ++ b) = bag (b ++ a) := by
  funext x
  rw [bag_append, bag_append, Int.add_comm]
theorem Sz.pp {B : Int} {l : List (Int × Int)} (h : Sz B l) : ∀ q ∈ l, 0 < q.2 := fun q hq => (h q hq).2.2.1
theorem shape_ob {C : Addr} {H : Hp} {s : Addr} {cs hs : List (Int × Int)} (h : IsShape C H s cs hs) : ∃ dx fs, H s = some (.ins C dx fs) := by
  obtain ⟨⟨dx, D1, D2, h1, _⟩, _⟩ := h
  exact ⟨_, _, h1⟩
theorem shape_off {C p : Addr} {H H' : Hp} {s : Addr} {cs hs : List (Int × Int)} (h : IsShape C H s cs hs) (o : Off p H H') (hp : PoolAt H p) : IsShape C H' s cs hs := by
  obtain ⟨⟨dx, D1, D2, h1, h2, h3⟩, r1, r2, r3, r4⟩ := h
  obtain ⟨_, _, e, _⟩ := hp
  have k : ∀ {z : Addr} {o : HO}, (∀ ys, o ≠ .lst ys) → H z = some o → z ≠ p := fun ho e' z => by
    rw [z, e] at e'
    exact ho _ (Option.some.inj e').symm
  exact ⟨⟨dx, D1, D2, o _ _ (k (fun _ z => by cases z) h1) h1, o _ _ (k (fun _ z => by cases z) h2) h2, o _ _ (k (fun _ z => by cases z) h3) h3⟩, r1, r2, r3, r4⟩
section
variable {P : Program} {w : World} {K : PySem.W.Frag} {mg : Str → Option Value} {base : Heap}
theorem ok_add (T : Txt K mg) : FnR P w K mg base CX0 7 T.f_Shape__add (spShAdd T.C_Shape) := ok_sh_add T
theorem ok_law (T : Txt K mg) : FnG P w K mg base CX0 40 T.f_law (spLaw K) := by
  refine T.A_law.okG sc_law (fun vs H Q E h => ?_) (fun cdv A outer s H vs Q E gd hr h => ?_)
  · obtain ⟨a, ns, rfl, _⟩ := h
    rfl
  · obtain ⟨a, ns, rfl, hS, hl, q⟩ := h
    have hu := hu_of hr
    refine ⟨_, (pss_cons (ps_for PassesOwn.never rfl (pi_range1 rfl T.n_range (pa_cons (pe_callB (call_max2 rfl) (by rfl) T.n_max (by decide +kernel) (pa_cons pe_int (pa_cons (pe_callB (call_min2 rfl) (by rfl) T.n_min (by decide +kernel) (pa_cons (pe_callB call_len_seq (by rfl) T.n_len (by decide +kernel) (pa_cons (pv 0) pa_nil)) (pa_cons pe_int pa_nil))) pa_nil))) pa_nil)) (pg_name (i := 1) sc_law.nd rfl (Or.inl rfl))
        (pss_cons (ps_set (i := 2) sc_law.nd rfl (Or.inl rfl) (pe_callR (ok_hand T) (hr.mono (by decide)) T.A_l_hand.kp rfl T.g_l_hand pass0 (pa_cons (pv 0) (pa_cons (pv 1) pa_nil))))
      (pss_cons (ps_par3 (i := 3) (j := 4) (l := 5) rfl sc_law.nd rfl rfl rfl (by decide) (by decide) (by decide) rfl rfl rfl (pa_cons (pe_callR (ok_l_counts T) (hr.mono (by decide)) T.A_l_counts.kp rfl T.g_l_counts pass0 (pa_cons (pv 2) pa_nil)) (pa_cons (pe_callR (ok_l_counts T) (hr.mono (by decide)) T.A_l_counts.kp rfl T.g_l_counts pass0 (pa_cons (pv 2) pa_nil)) (pa_cons (pe_callR (ok_l_counts T) (hr.mono (by decide)) T.A_l_counts.kp rfl T.g_l_counts pass0 (pa_cons (pv 2) pa_nil)) pa_nil))) (by rfl))
      (pss_cons (ps_set (i := 6) sc_law.nd rfl (Or.inl rfl) (pe_makeR T.M_Shape (ok_sh_init T) (hr.mono (by decide)) rfl T.g_Shape pass0 (pa_cons (pv 3) (pa_cons (pv 4) pa_nil))))
      (pss_cons (ps_if (PW.pt (pw_or (pt_not (pt_val (pe_callG (ok_l_shown T) gd (hr.mono (by decide)) T.A_l_shown.kp rfl T.g_l_shown pass0 (pa_cons (pv 6) (pa_cons (pv 3) (pa_cons (pv 4) pa_nil)))))) (pw_or1 (pt_not (pt_val (pe_callR (ok_l_bad T) (hr.mono (by decide)) T.A_l_bad.kp rfl T.g_l_bad pass0 (pa_cons (pv 2) (pa_cons (pv 3) (pa_cons (pv 4) pa_nil)))))))))
        (pss_one (ps_ret pe_bl)) pss_nil)
      (pss_cons (ps_set (i := 7) sc_law.nd rfl (Or.inl rfl) (pe_callTy call_dictD (by rfl) T.n_dict (by decide +kernel) (pa_cons (pv 4) pa_nil)))
      (pss_cons (ps_lock (ps_for PassesOwn.never rfl (pi_items (pv 5)) (pg_tup rfl (pgs_cons (pg_name (i := 8) sc_law.nd rfl (Or.inl rfl)) (pgs_cons (pg_name (i := 9) sc_law.nd rfl (Or.inl rfl)) pgs_nil)))
        (pss_one (ps_dput hu (pv 7) (pv 8) (pe_op op_add (pe_dget2 hu (pv 7) (pv 8) pe_int ⟨rfl, rfl, rfl, rfl⟩) (pv 9)) rfl))))
      (pss_cons (ps_set (i := 10) sc_law.nd rfl (Or.inl rfl) (pe_callTy call_dictD (by rfl) T.n_dict (by decide +kernel) (pa_cons (pv 3) pa_nil)))
      (pss_cons (ps_lock (ps_for PassesOwn.never rfl (pi_items (pv 5)) (pg_tup rfl (pgs_cons (pg_name (i := 8) sc_law.nd rfl (Or.inl rfl)) (pgs_cons (pg_name (i := 9) sc_law.nd rfl (Or.inl rfl)) pgs_nil)))
        (pss_one (ps_dput hu (pv 10) (pv 8) (pe_op op_add (pe_dget2 hu (pv 10) (pv 8) pe_int ⟨rfl, rfl, rfl, rfl⟩) (pv 9)) rfl))))
      (pss_cons (ps_set (i := 11) sc_law.nd rfl (Or.inl rfl) (pe_makeR T.M_Shape (ok_sh_init T) (hr.mono (by decide)) rfl T.g_Shape pass0 (pa_cons (pv 5) (pa_cons (pv 5) pa_nil))))
      (pss_cons (ps_if (PW.pt (pw_or (pt_not (pt_val (pe_callG (ok_l_shown T) gd (hr.mono (by decide)) T.A_l_shown.kp rfl T.g_l_shown pass0 (pa_cons (pe_op (op_bin T.o_Shape.sf T.m_Shape__add T.i_Shape__add (ok_add T) (hr.mono (by decide)) pass0) (pv 6) (pv 11)) (pa_cons (pv 10) (pa_cons (pv 7) pa_nil)))))) (pw_or1 (pt_cmpR (op_neO T.o_Shape T.ne_Shape T.m_Shape__eq T.i_Shape__eq (ok_eqV T) (hr.mono (by decide)) pass0) (pe_op (op_bin T.o_Shape.sf T.m_Shape__add T.i_Shape__add (ok_add T) (hr.mono (by decide)) pass0) (pv 11) (pv 6)) (pe_op (op_bin T.o_Shape.sf T.m_Shape__add T.i_Shape__add (ok_add T) (hr.mono (by decide)) pass0) (pv 6) (pv 11)) (nomark _)))))
        (pss_one (ps_ret pe_bl)) pss_nil)
      (pss_cons (ps_set (i := 12) sc_law.nd rfl (Or.inl rfl) (pe_op op_add pe_int (pe_callR (ok_draw T) (hr.mono (by decide)) T.A_l_draw.kp rfl T.g_l_draw pass0 (pa_cons (pv 2) (pa_cons pe_int pa_nil)))))
      (pss_cons (ps_set (i := 13) sc_law.nd rfl (Or.inl rfl) (pe_callR (ok_l_arrows T) (hr.mono (by decide)) T.A_l_arrows.kp rfl T.g_l_arrows pass0 (pa_cons (pv 2) (pa_cons (pv 12) (pa_cons (pe_op op_add pe_int (pe_callR (ok_draw T) (hr.mono (by decide)) T.A_l_draw.kp rfl T.g_l_draw pass0 (pa_cons (pv 2) (pa_cons pe_int pa_nil)))) pa_nil)))))
      (pss_cons (ps_set (i := 14) sc_law.nd rfl (Or.inl rfl) (pe_lst (pa_cons pe_dnewK (pa_cons pe_dnewK pa_nil))))
      (pss_cons (ps_for PassesOwn.never rfl (pi_list (pe_callR (ok_l_parts T) (hr.mono (by decide)) T.A_l_parts.kp rfl T.g_l_parts pass0 (pa_cons (pv 13) (pa_cons (pv 12) pa_nil)))) (pg_tup rfl (pgs_cons (pg_name (i := 15) sc_law.nd rfl (Or.inl rfl)) (pgs_cons (pg_name (i := 16) sc_law.nd rfl (Or.inl rfl)) pgs_nil)))
        (pss_cons (ps_set (i := 17) sc_law.nd rfl (Or.inl rfl) (pe_ix ix_list (pv 14) (pe_callTy call_int1 (by rfl) T.n_int (by decide +kernel) (pa_cons (pe_not (pv 16)) pa_nil)) (fun _ _ => rfl)))
      (pss_one (ps_dput hu (pv 17) (pe_callB call_len_seq (by rfl) T.n_len (by decide +kernel) (pa_cons (pv 15) pa_nil)) (pe_op op_add (pe_dget2 hu (pv 17) (pe_callB call_len_seq (by rfl) T.n_len (by decide +kernel) (pa_cons (pv 15) pa_nil)) pe_int ⟨rfl, rfl, rfl, rfl⟩) pe_int) rfl))))
      (pss_one (ps_if (PW.pt (pw_or (pt_not (pt_val (pe_callG (ok_l_shown T) gd (hr.mono (by decide)) T.A_l_shown.kp rfl T.g_l_shown pass0 (pa_cons (pe_callR (ok_shape_of T) (hr.mono (by decide)) T.A_shape_of.kp rfl T.g_shape_of pass0 (pa_cons (pe_makeR T.M_Map (ok_init T) (hr.mono (by decide)) rfl T.g_Map pass0 (pa_cons (pv 12) (pa_cons (pv 13) pa_nil))) pa_nil)) (pa_cons (pe_ix ix_list (pv 14) pe_int (fun _ _ => rfl)) (pa_cons (pe_ix ix_list (pv 14) pe_int (fun _ _ => rfl)) pa_nil)))))) (pw_or1 (pt_not (pt_val (pe_callG (ok_l_shown T) gd (hr.mono (by decide)) T.A_l_shown.kp rfl T.g_l_shown pass0 (pa_cons (pv 6) (pa_cons (pv 3) (pa_cons (pv 4) pa_nil)))))))))
        (pss_one (ps_ret pe_bl)) pss_nil)))))))))))))))))
      (pss_one (ps_ret pe_bl))), ?_⟩
    refine ⟨_, rfl, a, _, rfl, .inl hS, _, _, rfl, _, _, rfl, _, rfl, ?_, ?_, ?_⟩
    · rw [List.length_map]; (repeat' split) <;> omega
    · rw [List.length_map]; (repeat' split) <;> omega
    refine for_it (walk_range (lo := 0)) (fun i σ H' => ∃ v1 v2 v3 v4 v5 v6 v7 v8 v9 v10 v11 v12 v13 v14 v15 v16 v17, σ = [some (.ref a), v1, v2, v3, v4, v5, v6, v7, v8, v9, v10, v11, v12, v13, v14, v15, v16, v17] ∧ Same H H')
      ⟨none, none, none, none, none, none, none, none, none, none, none, none, none, none, none, none, none, rfl, Same.refl H⟩ (fun _ _ _ _ _ => trivial) ?_ ?_
    · rintro k v σ H' H1 hk ⟨v1, v2, v3, v4, v5, v6, v7, v8, v9, v10, v11, v12, v13, v14, v15, v16, v17, rfl, p1⟩ ⟨rfl, rfl⟩
      refine ⟨_, rfl, _, rfl, a, ns, _, rfl, SqL.same hS p1, hl, fun p H2 x y np hp s2 hx hy hy2 => ?_⟩
      have p0 : H p = none := p1.free np
      have pool2 : PoolAt H2 p := ⟨x, y, hp, hx, hy, hy2⟩
      have s02 : Same H H2 := p1.trans s2
      refine ⟨_, rfl, p, rfl, pool2, fun dc lc H3 nc hc ndc szc lec pool3 off3 => ?_⟩
      refine ⟨_, rfl, p, rfl, pool3, fun dh lh H4 nh hh ndh szh leh pool4 off4 => ?_⟩
      refine ⟨_, rfl, p, rfl, pool4, fun dm lm H5 nm hm ndm szm lem pool5 off5 => ?_⟩
      have nep : ∀ {H' : Hp} {d : Addr}, PoolAt H' p → H' d = none → d ≠ p := fun ⟨_, _, e, _⟩ n z => by rw [z, e] at n; cases n
      have npc := nep pool2 nc
      have nph := nep pool3 nh
      have npm := nep pool4 nm
      have hc5 := off5 _ _ npc (off4 _ _ npc hc)
      have hh5 := off5 _ _ nph hh
      have x5 : Same H H5 := Same.off (Same.off (Same.off s02 off3 p0) off4 p0) off5 p0
      have dl_lc : DI lc (lk lc) := ⟨ndc, fun _ => rfl⟩
      have dl_lh : DI lh (lk lh) := ⟨ndh, fun _ => rfl⟩
      have dl_lm : DI lm (lk lm) := ⟨ndm, fun _ => rfl⟩
      have sz_lc := szc
      have sz_lh := szh
      have sz_lm := szm
      have n9 : (9 : Int) ≤ 1000 := by decide
      have n9' : (9 : Int) ≤ 1000000 := by decide
      refine ⟨_, _, _, rfl, ?_⟩
      refine ⟨_, rfl, _, rfl, fun fs dx nx ndx ne => initS_of hc5 hh5 ndc ndh (szc.pos n9') (szh.pos n9') (by omega) (by omega) nx ndx ne fun cs hs H6 s6 pm1 pm2 shF => ⟨rfl, ?_⟩⟩
      have pool6 := pool5.same s6
      have dcs := di_perm dl_lc pm1
      have dhs := di_perm dl_lh pm2
      have zcs := (szc.perm pm1).mono n9
      have zhs := (szh.perm pm2).mono n9
      have lcs := pm1.length_eq
      have lhs := pm2.length_eq
      refine ⟨_, rfl, _, rfl, _, rfl, fs, dc, dh, cs, hs, lc, lh, _, _, rfl, shF, dcs, dhs, s6 _ _ hc5, s6 _ _ hh5, dl_lc, dl_lh, zcs, zhs, by omega, by omega, fun H7 s7 => ⟨_, rfl, iteF ?_⟩⟩
      have pool7 := pool6.same s7
      have hc7 := s7 _ _ (s6 _ _ hc5)
      refine ⟨_, rfl, _, rfl, _, rfl, p, dc, .ref dh, lc, rfl, pool7, hc7, ndc, szc.pos n9', by omega, fun H8 off8 pool8 => ⟨_, rfl, iteF ?_⟩⟩
      have dc_H8 := off8 _ _ npc hc7
      have dh_H8 := off8 _ _ nph (s7 _ _ (s6 _ _ hh5))
      have dm_H8 := off8 _ _ npm (s7 _ _ (s6 _ _ hm))
      have x8 : Same H H8 := Same.off (x5.trans (s6.trans s7)) off8 p0
      have shF8 : IsShape T.C_Shape H8 fs cs hs := shape_off (shF.same s7) off8 pool7

      refine ⟨_, rfl, dh, _, rfl, .inl dh_H8, ?_⟩
      refine fun B7 n_B7 => ?_
      generalize g_B7 : L2.upd _ B7 _ = J7
      obtain ⟨s_J7, e_B7⟩ := U.upd_facts g_B7 n_B7
      clear g_B7
      have nm7 : dm ≠ B7 := ne_of_none dm_H8 n_B7
      refine ⟨dm, _, s_J7 _ _ dm_H8, trivial, fun od => ?_⟩
      refine ⟨_, rfl, dm, od, kvI lm, rfl, upd_same, ?_⟩
      refine for_it walk_items (fun i σ H' => ∃ u8 u9 l, σ = [some (.ref a), some (.int (0 + (k : Int))), some (.ref p), some (.ref dc), some (.ref dh), some (.ref dm), some (.ref fs), some (.ref B7), u8, u9, v10, v11, v12, v13, v14, v15, v16, v17] ∧ H' dm = some (.frz od (.dK (kvI lm))) ∧ (∀ b o, b ≠ B7 → b ≠ dm → J7 b = some o → H' b = some o) ∧ H' B7 = some (.dK (kvI l)) ∧ DI l (toPF (bag (lh ++ lm.take i))) ∧ l.length ≤ lh.length + i)
        ⟨_, _, lh, rfl, upd_same, fun b o _ hb e => by rw [upd_ne hb]; exact e, by rw [upd_ne nm7.symm]; exact e_B7, by rw [List.take_zero, List.append_nil, bag_self dl_lh (fun p hp => (sz_lh p hp).2.2.1)]; exact dl_lh, Nat.le_refl _⟩ (fun i σ H' _ ⟨_, _, _, _, p, _⟩ => p) ?_ ?_
      · rintro i v σ Hb0 Hb hi ⟨u8, u9, l, rfl, ddb, ob, eDb, dib, hlb⟩ ⟨q0, a0, b0, rfl, n_q0, rfl, e1, e2⟩
        rw [kvI_length] at hi
        obtain ⟨⟨x, y⟩, exy⟩ : ∃ p, lm[i]? = some p := ⟨_, List.getElem?_eq_getElem hi⟩
        have ek : (kvI lm)[i]? = some (Sum.inl x, V.int y) := by unfold kvI; rw [List.getElem?_map, exy]; rfl
        dsimp only at e1 e2
        rw [ek] at e1 e2
        cases e1; cases e2
        have hy := (sz_lm _ (List.mem_of_getElem? exy)).2.2.1
        dsimp only at hy
        generalize g_q0 : L2.upd _ q0 _ = Hc
        obtain ⟨s_Hc, e_q0⟩ := U.upd_facts g_q0 n_q0
        clear g_q0
        have eDc := s_Hc _ _ eDb
        have ddc := s_Hc _ _ ddb
        refine ⟨q0, [.int x, .int y], rfl, SqT.of e_q0, rfl, .int x, [.int y], rfl, .int y, [], rfl, rfl, ?_⟩
        have g := dgetL eDc dib x
        refine ⟨_, rfl, B7, rfl, isD_of eDc, _, rfl, _, g, ?_⟩
        rw [getDI0]
        refine ⟨_, rfl, _, _, rfl, rfl, _, rfl, _, rfl, B7, _, rfl, DPut.k (k := Sum.inl _) eDc (small1000 (by rw [kvI_length]; omega)), ?_⟩
        obtain ⟨l', e', hl', di'⟩ := di_putZ dib x ((toPF (bag (lh ++ lm.take i)) x).getD 0 + y)
        rw [e']
        have nn : 0 ≤ bag (lh ++ lm.take i) x := bag_nn (fun q hq => by
          rcases List.mem_append.mp hq with h | h
          · exact Int.le_of_lt (sz_lh _ h).2.2.1
          · exact Int.le_of_lt (sz_lm _ (List.mem_of_mem_take h)).2.2.1) x
        rw [toPF_add (by omega)] at di'
        refine ⟨_, _, l', rfl, ?_, ?_, upd_same, ?_, by omega⟩
        · rw [upd_ne nm7]; exact ddc
        · exact fun b o h1 h2 e => by rw [upd_ne h1]; exact s_Hc _ _ (ob b o h1 h2 e)
        · rw [take_more exy, ← List.append_assoc]; exact di'
      rintro σ H90 ⟨u810, u910, l7, rfl, ddb, ob, eDb, di7, hl7⟩
      rw [kvI_length, List.take_length] at di7
      rw [kvI_length] at hl7
      refine ⟨ddb, ?_⟩
      generalize go7 : upd H90 dm (.dK (kvI lm)) = H9
      have so7 : Same H8 H9 := fun b o e => by
        rw [← go7]
        by_cases h : b = dm
        · subst h
          rw [upd_same, ← dm_H8]
          exact e
        · rw [upd_ne h]
          exact ob b o (ne_of_none e n_B7) h (s_J7 _ _ e)
      have e7_H9 : H9 B7 = some (.dK (kvI l7)) := by rw [← go7, upd_ne nm7.symm]; exact eDb
      clear go7 ddb ob eDb
      have dc_H9 := so7 _ _ dc_H8
      have dm_H9 := so7 _ _ dm_H8

      refine ⟨_, rfl, dc, _, rfl, .inl dc_H9, ?_⟩
      refine fun B10 n_B10 => ?_
      generalize g_B10 : L2.upd _ B10 _ = J10
      obtain ⟨s_J10, e_B10⟩ := U.upd_facts g_B10 n_B10
      clear g_B10
      have nm10 : dm ≠ B10 := ne_of_none dm_H9 n_B10
      refine ⟨dm, _, s_J10 _ _ dm_H9, trivial, fun od => ?_⟩
      refine ⟨_, rfl, dm, od, kvI lm, rfl, upd_same, ?_⟩
      refine for_it walk_items (fun i σ H' => ∃ u8 u9 l, σ = [some (.ref a), some (.int (0 + (k : Int))), some (.ref p), some (.ref dc), some (.ref dh), some (.ref dm), some (.ref fs), some (.ref B7), u8, u9, some (.ref B10), v11, v12, v13, v14, v15, v16, v17] ∧ H' dm = some (.frz od (.dK (kvI lm))) ∧ (∀ b o, b ≠ B10 → b ≠ dm → J10 b = some o → H' b = some o) ∧ H' B10 = some (.dK (kvI l)) ∧ DI l (toPF (bag (lc ++ lm.take i))) ∧ l.length ≤ lc.length + i)
        ⟨_, _, lc, rfl, upd_same, fun b o _ hb e => by rw [upd_ne hb]; exact e, by rw [upd_ne nm10.symm]; exact e_B10, by rw [List.take_zero, List.append_nil, bag_self dl_lc (fun p hp => (sz_lc p hp).2.2.1)]; exact dl_lc, Nat.le_refl _⟩ (fun i σ H' _ ⟨_, _, _, _, p, _⟩ => p) ?_ ?_
      · rintro i v σ Hb0 Hb hi ⟨u8, u9, l, rfl, ddb, ob, eDb, dib, hlb⟩ ⟨q0, a0, b0, rfl, n_q0, rfl, e1, e2⟩
        rw [kvI_length] at hi
        obtain ⟨⟨x, y⟩, exy⟩ : ∃ p, lm[i]? = some p := ⟨_, List.getElem?_eq_getElem hi⟩
        have ek : (kvI lm)[i]? = some (Sum.inl x, V.int y) := by unfold kvI; rw [List.getElem?_map, exy]; rfl
        dsimp only at e1 e2
        rw [ek] at e1 e2
        cases e1; cases e2
        have hy := (sz_lm _ (List.mem_of_getElem? exy)).2.2.1
        dsimp only at hy
        generalize g_q0 : L2.upd _ q0 _ = Hc
        obtain ⟨s_Hc, e_q0⟩ := U.upd_facts g_q0 n_q0
        clear g_q0
        have eDc := s_Hc _ _ eDb
        have ddc := s_Hc _ _ ddb
        refine ⟨q0, [.int x, .int y], rfl, SqT.of e_q0, rfl, .int x, [.int y], rfl, .int y, [], rfl, rfl, ?_⟩
        have g := dgetL eDc dib x
        refine ⟨_, rfl, B10, rfl, isD_of eDc, _, rfl, _, g, ?_⟩
        rw [getDI0]
        refine ⟨_, rfl, _, _, rfl, rfl, _, rfl, _, rfl, B10, _, rfl, DPut.k (k := Sum.inl _) eDc (small1000 (by rw [kvI_length]; omega)), ?_⟩
        obtain ⟨l', e', hl', di'⟩ := di_putZ dib x ((toPF (bag (lc ++ lm.take i)) x).getD 0 + y)
        rw [e']
        have nn : 0 ≤ bag (lc ++ lm.take i) x := bag_nn (fun q hq => by
          rcases List.mem_append.mp hq with h | h
          · exact Int.le_of_lt (sz_lc _ h).2.2.1
          · exact Int.le_of_lt (sz_lm _ (List.mem_of_mem_take h)).2.2.1) x
        rw [toPF_add (by omega)] at di'
        refine ⟨_, _, l', rfl, ?_, ?_, upd_same, ?_, by omega⟩
        · rw [upd_ne nm10]; exact ddc
        · exact fun b o h1 h2 e => by rw [upd_ne h1]; exact s_Hc _ _ (ob b o h1 h2 e)
        · rw [take_more exy, ← List.append_assoc]; exact di'
      rintro σ Ha0 ⟨u810, u910, l10, rfl, ddb, ob, eDb, di10, hl10⟩
      rw [kvI_length, List.take_length] at di10
      rw [kvI_length] at hl10
      refine ⟨ddb, ?_⟩
      generalize go10 : upd Ha0 dm (.dK (kvI lm)) = Ha
      have so10 : Same H9 Ha := fun b o e => by
        rw [← go10]
        by_cases h : b = dm
        · subst h
          rw [upd_same, ← dm_H9]
          exact e
        · rw [upd_ne h]
          exact ob b o (ne_of_none e n_B10) h (s_J10 _ _ e)
      have e10_Ha : Ha B10 = some (.dK (kvI l10)) := by rw [← go10, upd_ne nm10.symm]; exact eDb
      clear go10 ddb ob eDb
      have s8a : Same H8 Ha := so7.trans so10
      have dm_Ha := so10 _ _ dm_H9
      have dc_Ha := s8a _ _ dc_H8
      have dh_Ha := s8a _ _ dh_H8
      have b7_Ha := so10 _ _ e7_H9
      have poola := pool8.same s8a
      have xa : Same H Ha := x8.trans s8a
      have shFa := shF8.same s8a
      clear dm_H9 dc_H9 e7_H9 nm7 nm10
      refine ⟨_, rfl, _, rfl, fun xs dx2 nx ndx ne => initS_of dm_Ha dm_Ha ndm ndm (szm.pos n9') (szm.pos n9') (by omega) (by omega) nx ndx ne fun xc xh Hb sb pmx1 pmx2 shX => ⟨rfl, ?_⟩⟩
      have dxc := di_perm dl_lm pmx1
      have dxh := di_perm dl_lm pmx2
      have zxc := szm.perm pmx1
      have zxh := szm.perm pmx2
      have z9c := szc.perm pm1
      have z9h := szh.perm pm2
      have lxc := pmx1.length_eq
      have lxh := pmx2.length_eq
      have poolb := poola.same sb
      have shFb := shFa.same sb
      obtain ⟨dF, gF, obF⟩ := shape_ob shFb
      obtain ⟨dX, gX, obX⟩ := shape_ob shX
      refine ⟨_, rfl, _, rfl, fs, _, _, xs, _, _, rfl, rfl, obF, obX, fs, xs, cs, hs, xc, xh, rfl, shFb, shX, zcs, zhs, zxc.mono n9, zxh.mono n9, by omega, by omega, fun r1 c2 h2 Hc nr1 sc shR d2 e2 l2 l2' => ?_⟩
      have q1 := (z9c.bag zxc dcs dxc d2 (by decide) (by decide)).mono (show (9 : Int) + 9 ≤ 1000 by decide)
      have q2 := (z9h.bag zxh dhs dxh e2 (by decide) (by decide)).mono (show (9 : Int) + 9 ≤ 1000 by decide)
      rw [bag_di2 dcs dl_lc dxc dl_lm z9c.pp szc.pp zxc.pp szm.pp] at d2
      rw [bag_di2 dhs dl_lh dxh dl_lm z9h.pp szh.pp zxh.pp szm.pp] at e2
      refine ⟨_, rfl, _, rfl, r1, B10, B7, c2, h2, l10, l7, _, _, rfl, shR, d2, e2, sc _ _ (sb _ _ e10_Ha), sc _ _ (sb _ _ b7_Ha), di10, di7, q1, q2, l2, l2', fun Hd sd => ⟨_, rfl, iteF ?_⟩⟩
      have sbd := sc.trans sd
      have shFd := shFb.same sbd
      have shXd := shX.same sbd
      refine ⟨_, rfl, _, rfl, xs, _, _, fs, _, _, rfl, rfl, sbd _ _ obX, sbd _ _ obF, xs, fs, xc, xh, cs, hs, rfl, shXd, shFd, zxc.mono n9, zxh.mono n9, zcs, zhs, by omega, by omega, fun r2 c3 h3 He nr2 se shS d3 e3 l3 l3' => ?_⟩
      have sbe := sbd.trans se
      refine ⟨_, rfl, _, rfl, fs, _, _, xs, _, _, rfl, rfl, sbe _ _ obF, sbe _ _ obX, fs, xs, cs, hs, xc, xh, rfl, shFb.same sbe, shX.same sbe, zcs, zhs, zxc.mono n9, zxh.mono n9, by omega, by omega, fun r3 c4 h4 Hf nr3 sf shU d4 e4 l4 l4' => ?_⟩
      rw [bag_swap] at d3 e3
      have ec4 : c3 = c4 := asc_eqD shS.a1 shU.a1 d3 d4
      have eh4 : h3 = h4 := asc_eqD shS.a2 shU.a2 e3 e4
      subst ec4; subst eh4
      obtain ⟨dS, gS, obS⟩ := shape_ob (shS.same sf)
      obtain ⟨dU, gU, obU⟩ := shape_ob shU
      refine ⟨r2, dS, _, r3, dU, _, rfl, rfl, obS, obU, r2, .ref r3, c3, h3, rfl, shS.same sf, .inl ⟨r3, c3, h3, rfl, shU, _, rfl, _, rfl, ?_⟩⟩
      rw [decide_eq_true rfl, decide_eq_true rfl]
      refine iteF ?_
      have saf : Same Ha Hf := (sb.trans sbe).trans sf
      have poolf := poola.same saf
      have xf : Same H Hf := xa.trans saf
      have shFf := shFa.same saf
      have dcf := saf _ _ dc_Ha
      have dhf := saf _ _ dh_Ha
      clear shU shS shR obS obU shXd shFd shX shFb obF obX d3 e3 d4 e4 q1 q2 d2 e2 di7 di10 e10_Ha b7_Ha
      refine draw_R rfl (fun R r => r) poolf (by decide) (by decide) fun r Hg r0 r1' poolg offg => ⟨_, _, rfl, rfl, ?_⟩
      have n1 : 1 ≤ 1 + r := by omega
      have n2 : 1 + r ≤ 300 := by omega
      refine ⟨_, rfl, _, rfl, ?_⟩
      refine draw_R rfl (fun R r => r) poolg (by decide) (by decide) fun w4 Hh w0 w1 poolh offh => ⟨_, _, rfl, rfl, ?_⟩
      refine ⟨p, 1 + r, _, rfl, poolh, n1, n2, fun d Hi l nd5 hd5 di wf hll pooli offi => ?_⟩
      obtain ⟨f, ef⟩ : ∃ f, f = lk l := ⟨_, rfl⟩
      rw [← ef] at di wf
      have dcI := offi _ _ npc (offh _ _ npc (offg _ _ npc dcf))
      have dhI := offi _ _ nph (offh _ _ nph (offg _ _ nph dhf))
      have shFI := shape_off (shape_off (shape_off shFf offg poolf) offh poolg) offi poolh
      have xi : Same H Hi := Same.off (Same.off (Same.off xf offg p0) offh p0) offi p0
      refine fun E1 n_E1 => ?_
      generalize g_E1 : L2.upd _ E1 _ = Hj
      obtain ⟨s_Hj, e_E1⟩ := U.upd_facts g_E1 n_E1
      clear g_E1
      refine fun E2 n_E2 => ?_
      generalize g_E2 : L2.upd _ E2 _ = Hk
      obtain ⟨s_Hk, e_E2⟩ := U.upd_facts g_E2 n_E2
      clear g_E2
      refine ⟨two_le, ?_⟩
      refine fun Lf n_Lf => ?_
      generalize g_Lf : L2.upd _ Lf _ = Hl
      obtain ⟨s_Hl, e_Lf⟩ := U.upd_facts g_Lf n_Lf
      clear g_Lf
      have sil : Same Hi Hl := (s_Hj.trans s_Hk).trans s_Hl
      have eE1 : Hl E1 = some (.dK (kvI [])) := s_Hl _ _ (s_Hk _ _ e_E1)
      have eE2 : Hl E2 = some (.dK (kvI [])) := s_Hl _ _ e_E2
      have nE : E1 ≠ E2 := ne_of_none e_E1 n_E2
      refine ⟨_, rfl, _, rfl, d, l, 1 + r, f, rfl, sil _ _ hd5, di, wf, n1, n2, hll, fun rw0 ps as Hm sm hrw hpp hrr => ?_⟩
      obtain ⟨Es, eEs⟩ : ∃ Es, Es = nons (1 + r) f ++ cycS (1 + r) f := ⟨_, rfl⟩
      rw [← eEs] at hpp hrr
      have lps := hpp.len.2
      rw [List.length_map] at lps
      have hEs : ∀ e ∈ Es, 0 ≤ e ∧ e < 1 + r := fun e he => by
        rw [eEs] at he
        rcases List.mem_append.mp he with h | h
        · exact ⟨(nons_dom h).1, (nons_dom h).2.1⟩
        · exact cycS_dom h
      have hLn : ∀ e ∈ Es, 1 ≤ (rowN f e).length ∧ (rowN f e).length ≤ 12 := fun e he => by
        have h1 := row_pos wf (hEs e he).1 (hEs e he).2
        have h2 := row_le wf (hEs e he).1 (hEs e he).2
        omega
      have lEs : Es.length ≤ 600 := by
        rw [eEs, List.length_append]
        have e2 := List.length_filter_le (nonT (1 + r) f) (rgI (1 + r).toNat)
        have e3 := (cycS_sub (1 + r) f).1.length_le
        have e4 : (rgI (1 + r).toNat).length = (1 + r).toNat := by simp [rgI]
        unfold nons
        omega
      refine ⟨rw0, rfl, ⟨_, SqL.of hrw⟩, ?_⟩
      refine for_it (walk_list (xs := ps.map V.ref)) (fun i σ H' => ∃ w15 w16 w17 m0 m1, σ = [some (.ref a), some (.int (0 + (k : Int))), some (.ref p), some (.ref dc), some (.ref dh), some (.ref dm), some (.ref fs), some (.ref B7), u810, u910, some (.ref B10), some (.ref xs), some (.int (1 + r)), some (.ref d), some (.ref Lf), w15, w16, w17] ∧ (∀ b o, b ≠ E1 → b ≠ E2 → Hm b = some o → H' b = some o) ∧ H' E1 = some (.dK (kvI m0)) ∧ H' E2 = some (.dK (kvI m1)) ∧ DI m0 (cnt (lens f ((Es.take i).filter (clo f)))) ∧ DI m1 (cnt (lens f ((Es.take i).filter fun e => !clo f e))) ∧ m0.length ≤ i ∧ m1.length ≤ i)
        ⟨_, _, _, [], [], rfl, fun b o _ _ e => e, sm _ _ eE1, sm _ _ eE2, ⟨List.nodup_nil, fun _ => rfl⟩, ⟨List.nodup_nil, fun _ => rfl⟩, Nat.le_refl _, Nat.le_refl _⟩ (fun i σ H' _ ⟨_, _, _, _, _, _, z, _⟩ => SqL.of (z _ _ (fun y => by rw [y, sm _ _ eE1] at hrw; cases hrw) (fun y => by rw [y, sm _ _ eE2] at hrw; cases hrw) hrw)) ?_ ?_
      · rintro i v σ Hb0 Hb hi ⟨w15, w16, w17, m0, m1, rfl, ob, h0, h1, di0, di1, l0, l1⟩ ⟨rfl, ev⟩
        rw [List.length_map] at hi
        have hi' : i < Es.length := by omega
        rw [List.getElem?_map] at ev
        obtain ⟨q0, eq0, rfl⟩ := Option.map_eq_some_iff.mp ev
        obtain ⟨a0, b0, ea0, eb0, hq0⟩ := hpp.get i q0 eq0
        obtain ⟨rr, err, hrow⟩ := hrr.get i a0 ea0
        obtain ⟨e, eE⟩ : ∃ e, Es[i]? = some e := ⟨_, List.getElem?_eq_getElem hi'⟩
        rw [List.getElem?_map, eE] at eb0 err
        cases eb0; cases err
        have nq : ∀ {z : Addr} {o : HO}, (∀ kvs, o ≠ .dK kvs) → Hm z = some o → z ≠ E1 ∧ z ≠ E2 := fun ho e => ⟨fun y => by rw [y, sm _ _ eE1] at e; exact ho _ (Option.some.inj e).symm, fun y => by rw [y, sm _ _ eE2] at e; exact ho _ (Option.some.inj e).symm⟩
        have kq := nq (fun _ z => by cases z) hq0
        have kr := nq (fun _ z => by cases z) hrow
        have kl := nq (fun _ z => by cases z) (sm _ _ e_Lf)
        have hqb := ob _ _ kq.1 kq.2 hq0
        have hrb := ob _ _ kr.1 kr.2 hrow
        have hlb := ob _ _ kl.1 kl.2 (sm _ _ e_Lf)
        have tk : Es.take (i + 1) = Es.take i ++ [e] := take_more eE
        have hle := hLn e (List.mem_of_getElem? eE)
        refine ⟨q0, [.ref a0, .bl (clo f e)], rfl, SqT.of hqb, rfl, .ref a0, [.bl (clo f e)], rfl, .bl (clo f e), [], rfl, rfl, ?_⟩
        rcases Bool.eq_false_or_eq_true (clo f e) with hc | hc <;> rw [hc]
        · have g := dgetL h0 di0 (((rowN f e).map V.int).length : Int)
          refine ⟨_, rfl, _, rfl, _, rfl, .inr ⟨_, rfl, Lf, _, _, .ref E1, rfl, rfl, SqL.of hlb, atI_nat (j := 0) rfl, ?_⟩⟩
          refine ⟨_, rfl, E1, rfl, isD_of h0, _, rfl, a0, _, rfl, .inl (SqL.of hrb), _, g, ?_⟩
          rw [getDI0]
          refine ⟨_, _, rfl, rfl, _, rfl, _, rfl, a0, _, rfl, .inl (SqL.of hrb), E1, _, rfl, DPut.k (k := Sum.inl _) h0 (small1000 (by rw [kvI_length]; omega)), ?_⟩
          obtain ⟨m', e', hm', di'⟩ := di_putZ di0 (((rowN f e).map V.int).length : Int) (((cnt (lens f ((Es.take i).filter (clo f)))) (((rowN f e).map V.int).length : Int)).getD 0 + 1)
          rw [e']
          rw [List.length_map, cnt_more] at di'
          have f1 : (Es.take (i + 1)).filter (clo f) = (Es.take i).filter (clo f) ++ [e] := by rw [tk, List.filter_append]; simp [hc]
          have f2 : (Es.take (i + 1)).filter (fun e => !clo f e) = (Es.take i).filter (fun e => !clo f e) ++ [] := by rw [tk, List.filter_append]; simp [hc]
          have ll : ∀ s : List Int, lens f (s ++ [e]) = lens f s ++ [(rowN f e).length] := fun s => by unfold lens; rw [List.map_append]; rfl
          refine ⟨_, _, _, m', m1, rfl, fun b o h1 h2 e => by rw [upd_ne h1]; exact ob b o h1 h2 e, upd_same, by rw [upd_ne nE.symm]; exact h1, by rw [f1, ll]; exact di', by rw [f2, List.append_nil]; exact di1, by omega, by omega⟩
        · have g := dgetL h1 di1 (((rowN f e).map V.int).length : Int)
          refine ⟨_, rfl, _, rfl, _, rfl, .inr ⟨_, rfl, Lf, _, _, .ref E2, rfl, rfl, SqL.of hlb, atI_nat (j := 1) rfl, ?_⟩⟩
          refine ⟨_, rfl, E2, rfl, isD_of h1, _, rfl, a0, _, rfl, .inl (SqL.of hrb), _, g, ?_⟩
          rw [getDI0]
          refine ⟨_, _, rfl, rfl, _, rfl, _, rfl, a0, _, rfl, .inl (SqL.of hrb), E2, _, rfl, DPut.k (k := Sum.inl _) h1 (small1000 (by rw [kvI_length]; omega)), ?_⟩
          obtain ⟨m', e', hm', di'⟩ := di_putZ di1 (((rowN f e).map V.int).length : Int) (((cnt (lens f ((Es.take i).filter fun e => !clo f e))) (((rowN f e).map V.int).length : Int)).getD 0 + 1)
          rw [e']
          rw [List.length_map, cnt_more] at di'
          have f1 : (Es.take (i + 1)).filter (clo f) = (Es.take i).filter (clo f) ++ [] := by rw [tk, List.filter_append]; simp [hc]
          have f2 : (Es.take (i + 1)).filter (fun e => !clo f e) = (Es.take i).filter (fun e => !clo f e) ++ [e] := by rw [tk, List.filter_append]; simp [hc]
          have ll : ∀ s : List Int, lens f (s ++ [e]) = lens f s ++ [(rowN f e).length] := fun s => by unfold lens; rw [List.map_append]; rfl
          refine ⟨_, _, _, m0, m', rfl, fun b o h1 h2 e => by rw [upd_ne h2]; exact ob b o h1 h2 e, by rw [upd_ne nE]; exact h0, upd_same, by rw [f1, List.append_nil]; exact di0, by rw [f2, ll]; exact di', by omega, by omega⟩
      · rintro σ Hn ⟨w15, w16, w17, m0, m1, rfl, ob, h0, h1, di0, di1, l0, l1⟩
        rw [List.length_map, lps, List.take_length, eEs] at di0 di1
        rw [filt_clo wf] at di0
        rw [filt_non wf] at di1
        have szN : ∀ s : List Int, (∀ e ∈ s, e ∈ Es) → s.length ≤ 600 → (∀ L ∈ lens f s, 1 ≤ L ∧ L ≤ 12) ∧ (lens f s).length ≤ 600 := fun s hs hl => by
          unfold lens
          refine ⟨fun L hL => ?_, by rw [List.length_map]; exact hl⟩
          obtain ⟨e, he, rfl⟩ := List.mem_map.mp hL
          exact hLn e (hs e he)
        have sub1 : ∀ e ∈ cycS (1 + r) f, e ∈ Es := fun e he => by rw [eEs]; exact List.mem_append_right _ he
        have sub2 : ∀ e ∈ nons (1 + r) f, e ∈ Es := fun e he => by rw [eEs]; exact List.mem_append_left _ he
        rw [eEs, List.length_append] at lEs
        obtain ⟨w1, w2⟩ := szN _ sub1 (by omega)
        obtain ⟨w3, w4⟩ := szN _ sub2 (by omega)
        have nq : ∀ {z : Addr} {o : HO}, Hi z = some o → Hn z = some o := fun e => by
          have h1 : _ ≠ E1 := ne_of_none e n_E1
          have h2 : _ ≠ E2 := ne_of_none (s_Hj _ _ e) n_E2
          exact ob _ _ h1 h2 (sm _ _ (sil _ _ e))
        have sin : Same Hi Hn := fun b o e => nq e
        have hlf : Hn Lf = some (.lst [.ref E1, .ref E2]) := by
          have e9 := sm _ _ e_Lf
          exact ob _ _ (ne_of e9 (sm _ _ eE1) (by intro z; cases z)) (ne_of e9 (sm _ _ eE2) (by intro z; cases z)) e9
        refine ⟨_, rfl, _, rfl, fun mq dxq nmq ndxq neq => init_of (nq hd5) di wf (by omega) (by omega) (by omega) nmq ndxq neq fun Ho so mm => ⟨rfl, ?_⟩⟩
        refine ⟨mq, 1 + r, f, rfl, mm, fun s9 c9 h9 Hp sp sh9 dc9 dh9 => ?_⟩
        have sop := so.trans sp
        obtain ⟨z1, z1'⟩ := cnt_sz w1 w2 dc9
        obtain ⟨z2, z2'⟩ := cnt_sz w3 w4 dh9
        refine ⟨_, rfl, Lf, _, _, .ref E1, rfl, rfl, SqL.of (sop _ _ hlf), atI_nat (j := 0) rfl, ?_⟩
        refine ⟨_, rfl, Lf, _, _, .ref E2, rfl, rfl, SqL.of (sop _ _ hlf), atI_nat (j := 1) rfl, ?_⟩
        refine ⟨s9, E1, E2, c9, h9, m0, m1, _, _, rfl, sh9, dc9, dh9, sop _ _ h0, sop _ _ h1, di0, di1, z1, z2, z1', z2', fun Hq sq => ⟨_, rfl, iteF ?_⟩⟩
        have siq := sin.trans (sop.trans sq)
        refine ⟨_, rfl, _, rfl, _, rfl, fs, dc, dh, cs, hs, lc, lh, _, _, rfl, shFI.same siq, dcs, dhs, siq _ _ dcI, siq _ _ dhI, dl_lc, dl_lh, zcs, zhs, by omega, by omega, fun Hr sr => ⟨_, rfl, iteF ?_⟩⟩
        exact ⟨_, _, _, _, _, _, _, _, _, _, _, _, _, _, _, _, _, rfl, xi.trans (siq.trans sr)⟩
    · rintro σ H' ⟨_, _, _, _, _, _, _, _, _, _, _, _, _, _, _, _, _, rfl, p1⟩
      exact q H'
end
end My
namespace My
open PySem L2
theorem walk {l : PySem.W.OpenLaw} {q : Program} {loose : List Str} {XP : (Str → Option Value) → Heap → Prop} {YP : World → Heap → Prop} {d : DefRec} {K : Params → PySem.W.Frag} (hn : l.most = some 63) (hdf : d.params.defaults = []) (hnm : d.name = "law")
    (hY : ∀ (w : World) (h : Heap), YP w h → (K w.params).In h)
    (ok : ∀ (P : Program) (w : World) (K : PySem.W.Frag) (mg : Str → Option Value) (base : Heap) (T : Txt K mg), U.FnG P w K mg base CX0 40 T.f_law (spLaw K))
    (F : ∀ (w : World) (mg : Str → Option Value) (h : Heap), (K w.params).In h → h.Ns mainGlobals mg → Nonempty (Txt (K w.params) mg)) :
    PySem.W.WalkO q loose XP YP l.row.toRowW d [] (fun f vs => PySem.call f vs) := by
  refine U.walkG (n := 63) (k := 40) (sp := spLaw) hn (by decide) hdf ⟨rfl, by decide, by decide⟩ hY ?_ (fun K H a ns hl hS => ⟨a, ns, rfl, hS, hl, fun _ => rfl⟩)
  intro w mg fa h KX G hmg base
  obtain ⟨T⟩ := F w mg h KX G
  rw [hnm, T.g_law] at hmg
  cases hmg
  exact ok _ _ _ _ _ T
end My
local macro_rules | `(tactic| first | refine $t:term | fail $s:str) => do { let t2 ← t.raw.replaceM fun n => (do { if n.getKind == `Lean.Parser.Term.syntheticHole then { let nm := n[1].getId.eraseMacroScopes; if nm == `hl then { return some (Lean.mkIdent `My.hl) } else { return none } } else { return none } }); `(tactic| refine $(⟨t2⟩)) }
open PySem PySem.W PyProof.Rows
set_option maxRecDepth 100000 in
set_option maxHeartbeats 0 in
theorem PySem.Challenge.cw_chainmaps_k11_shapes_holds : PySem.Challenge.rw_chainmaps_k11_shapes.Holds := by
  w_on; o_law; k_headL; (case hw => w_witness2)
  k_fill
  refine My.walk (l := PySem.Challenge.rw_chainmaps_k11_shapes) rfl rfl rfl (fun w h Y => PySem.W.kIn_of Y) (fun _ _ _ _ _ T => My.ok_law T) ?F
  case F =>
    intro w mg h KX G
    refine' My.mk_txt KX G ?a_is_integer ?l_is_integer ?c_is_integer ?k_is_integer ?a_in_range ?l_in_range ?c_in_range ?k_in_range ?a_are_arrows ?l_are_arrows ?c_are_arrows ?k_are_arrows ?a_row_from ?l_row_from ?c_row_from ?k_row_from ?a_check_map ?l_check_map ?c_check_map ?k_check_map ?a_parts_of ?l_parts_of ?c_parts_of ?k_parts_of ?a_are_counts ?l_are_counts ?c_are_counts ?k_are_counts ?a_ordered ?l_ordered ?c_ordered ?k_ordered ?a_merged ?l_merged ?c_merged ?k_merged ?a_counts_of ?l_counts_of ?c_counts_of ?k_counts_of ?a_shape_of ?l_shape_of ?c_shape_of ?k_shape_of ?a_l_hand ?l_l_hand ?c_l_hand ?k_l_hand ?a_l_draw ?l_l_draw ?c_l_draw ?k_l_draw ?a_l_arrows ?l_l_arrows ?c_l_arrows ?k_l_arrows ?a_l_parts ?l_l_parts ?c_l_parts ?k_l_parts ?a_l_counts ?l_l_counts ?c_l_counts ?k_l_counts ?a_l_raised ?l_l_raised ?c_l_raised ?k_l_raised ?a_l_made ?l_l_made ?c_l_made ?k_l_made ?a_l_shown ?l_l_shown ?c_l_shown ?k_l_shown ?a_l_bad ?l_l_bad ?c_l_bad ?k_l_bad ?a_law ?l_law ?c_law ?k_law ?a_Shape ?pg_Shape ?hd_Shape ?po_Shape ?sa_Shape ?sf_Shape ?ca_Shape ?cn_Shape ?ct_Shape ?cm_Shape ?kc_Shape ?kit_int_Shape ?kit_bool_Shape ?kn_NoneType_Shape ?nf_NoneType_Shape ?kn_int_Shape ?nf_int_Shape ?kn_bool_Shape ?nf_bool_Shape ?kn_str_Shape ?nf_str_Shape ?kn_list_Shape ?nf_list_Shape ?kn_dict_Shape ?nf_dict_Shape ?kn_tuple_Shape ?nf_tuple_Shape ?self_Shape ?na_own_cycles_Shape ?na_own_chains_Shape ?ne_Shape ?m_Shape__init ?i_Shape__init ?l_Shape__init ?c_Shape__init ?k_Shape__init ?mk_Shape ?m_Shape_cycles ?s_get_Shape_cycles ?tk_Shape_cycles ?rc_Shape_cycles ?l_Shape_cycles ?c_Shape_cycles ?k_Shape_cycles ?m_Shape_chains ?s_get_Shape_chains ?tk_Shape_chains ?rc_Shape_chains ?l_Shape_chains ?c_Shape_chains ?k_Shape_chains ?m_Shape_size ?s_get_Shape_size ?tk_Shape_size ?rc_Shape_size ?l_Shape_size ?c_Shape_size ?k_Shape_size ?m_Shape__add ?i_Shape__add ?l_Shape__add ?c_Shape__add ?k_Shape__add ?m_Shape__eq ?i_Shape__eq ?l_Shape__eq ?c_Shape__eq ?k_Shape__eq ?m_Shape__repr ?i_Shape__repr ?l_Shape__repr ?c_Shape__repr ?k_Shape__repr ?a_Map ?pg_Map ?hd_Map ?po_Map ?sa_Map ?sf_Map ?ca_Map ?cn_Map ?ct_Map ?cm_Map ?kc_Map ?kit_int_Map ?kit_bool_Map ?kn_NoneType_Map ?nf_NoneType_Map ?kn_int_Map ?nf_int_Map ?kn_bool_Map ?nf_bool_Map ?kn_str_Map ?nf_str_Map ?kn_list_Map ?nf_list_Map ?kn_dict_Map ?nf_dict_Map ?kn_tuple_Map ?nf_tuple_Map ?self_Map ?na_own_size_Map ?na_own_arrows_Map ?m_Map__init ?i_Map__init ?l_Map__init ?c_Map__init ?k_Map__init ?mk_Map ?m_Map_size ?s_get_Map_size ?tk_Map_size ?rc_Map_size ?l_Map_size ?c_Map_size ?k_Map_size ?m_Map_arrows ?s_get_Map_arrows ?tk_Map_arrows ?rc_Map_arrows ?l_Map_arrows ?c_Map_arrows ?k_Map_arrows ?a_InvalidMap ?xl_InvalidMap ?sa_InvalidMap ?ex_InvalidMap ?ty_InvalidMap ?kc_InvalidMap ?hd_InvalidMap ?ga_InvalidMap ?gg_InvalidMap ?ss_InvalidMap ?ca_InvalidMap ?cn_InvalidMap ?ct_InvalidMap ?cm_InvalidMap ?kit_ValueError_InvalidMap ?na_part_InvalidMap ?m_InvalidMap__init ?ti_InvalidMap__init ?l_InvalidMap__init ?c_InvalidMap__init ?k_InvalidMap__init ?a_InvalidShape ?xl_InvalidShape ?sa_InvalidShape ?ex_InvalidShape ?ty_InvalidShape ?kc_InvalidShape ?hd_InvalidShape ?ga_InvalidShape ?gg_InvalidShape ?ss_InvalidShape ?ca_InvalidShape ?cn_InvalidShape ?ct_InvalidShape ?cm_InvalidShape ?kit_ValueError_InvalidShape ?te_InvalidMap_InvalidShape ?na_part_InvalidShape ?m_InvalidShape__init ?ti_InvalidShape__init ?l_InvalidShape__init ?c_InvalidShape__init ?k_InvalidShape__init ?z_isinstance ?z_int ?z_bool ?z_dict ?z_len ?z_range ?z_list ?z_max ?z_min ?z_sum ?z_all ?z_sorted ?z_repr ?z_ValueError ?v_MAX_SIZE ?kit_x_Shape_Map ?nf_x_Shape_Map
    (case a_is_integer => as_aux_lemma => k_is)
    (case l_is_integer => as_aux_lemma => k_is)
    (case c_is_integer => as_aux_lemma => k_is)
    (case k_is_integer => as_aux_lemma => k_is)
    (case a_in_range => as_aux_lemma => k_is)
    (case l_in_range => as_aux_lemma => k_is)
    (case c_in_range => as_aux_lemma => k_is)
    (case k_in_range => as_aux_lemma => k_is)
    (case a_are_arrows => as_aux_lemma => k_is)
    (case l_are_arrows => as_aux_lemma => k_is)
    (case c_are_arrows => as_aux_lemma => k_is)
    (case k_are_arrows => as_aux_lemma => k_is)
    (case a_row_from => as_aux_lemma => k_is)
    (case l_row_from => as_aux_lemma => k_is)
    (case c_row_from => as_aux_lemma => k_is)
    (case k_row_from => as_aux_lemma => k_is)
    (case a_check_map => as_aux_lemma => k_is)
    (case l_check_map => as_aux_lemma => k_is)
    (case c_check_map => as_aux_lemma => k_is)
    (case k_check_map => as_aux_lemma => k_is)
    (case a_parts_of => as_aux_lemma => k_is)
    (case l_parts_of => as_aux_lemma => k_is)
    (case c_parts_of => as_aux_lemma => k_is)
    (case k_parts_of => as_aux_lemma => k_is)
    (case a_are_counts => as_aux_lemma => k_is)
    (case l_are_counts => as_aux_lemma => k_is)
    (case c_are_counts => as_aux_lemma => k_is)
    (case k_are_counts => as_aux_lemma => k_is)
    (case a_ordered => as_aux_lemma => k_is)
    (case l_ordered => as_aux_lemma => k_is)
    (case c_ordered => as_aux_lemma => k_is)
    (case k_ordered => as_aux_lemma => k_is)
    (case a_merged => as_aux_lemma => k_is)
    (case l_merged => as_aux_lemma => k_is)
    (case c_merged => as_aux_lemma => k_is)
    (case k_merged => as_aux_lemma => k_is)
    (case a_counts_of => as_aux_lemma => k_is)
    (case l_counts_of => as_aux_lemma => k_is)
    (case c_counts_of => as_aux_lemma => k_is)
    (case k_counts_of => as_aux_lemma => k_is)
    (case a_shape_of => as_aux_lemma => k_is)
    (case l_shape_of => as_aux_lemma => k_is)
    (case c_shape_of => as_aux_lemma => k_is)
    (case k_shape_of => as_aux_lemma => k_is)
    (case a_l_hand => as_aux_lemma => k_is)
    (case l_l_hand => as_aux_lemma => k_is)
    (case c_l_hand => as_aux_lemma => k_is)
    (case k_l_hand => as_aux_lemma => k_is)
    (case a_l_draw => as_aux_lemma => k_is)
    (case l_l_draw => as_aux_lemma => k_is)
    (case c_l_draw => as_aux_lemma => k_is)
    (case k_l_draw => as_aux_lemma => k_is)
    (case a_l_arrows => as_aux_lemma => k_is)
    (case l_l_arrows => as_aux_lemma => k_is)
    (case c_l_arrows => as_aux_lemma => k_is)
    (case k_l_arrows => as_aux_lemma => k_is)
    (case a_l_parts => as_aux_lemma => k_is)
    (case l_l_parts => as_aux_lemma => k_is)
    (case c_l_parts => as_aux_lemma => k_is)
    (case k_l_parts => as_aux_lemma => k_is)
    (case a_l_counts => as_aux_lemma => k_is)
    (case l_l_counts => as_aux_lemma => k_is)
    (case c_l_counts => as_aux_lemma => k_is)
    (case k_l_counts => as_aux_lemma => k_is)
    (case a_l_raised => as_aux_lemma => k_is)
    (case l_l_raised => as_aux_lemma => k_is)
    (case c_l_raised => as_aux_lemma => k_is)
    (case k_l_raised => as_aux_lemma => k_is)
    (case a_l_made => as_aux_lemma => k_is)
    (case l_l_made => as_aux_lemma => k_is)
    (case c_l_made => as_aux_lemma => k_is)
    (case k_l_made => as_aux_lemma => k_is)
    (case a_l_shown => as_aux_lemma => k_is)
    (case l_l_shown => as_aux_lemma => k_is)
    (case c_l_shown => as_aux_lemma => k_is)
    (case k_l_shown => as_aux_lemma => k_is)
    (case a_l_bad => as_aux_lemma => k_is)
    (case l_l_bad => as_aux_lemma => k_is)
    (case c_l_bad => as_aux_lemma => k_is)
    (case k_l_bad => as_aux_lemma => k_is)
    (case a_law => as_aux_lemma => k_is)
    (case l_law => as_aux_lemma => k_is)
    (case c_law => as_aux_lemma => k_is)
    (case k_law => as_aux_lemma => k_is)
    (case a_Shape => as_aux_lemma => k_is)
    (case pg_Shape => as_aux_lemma => k_is)
    (case hd_Shape => as_aux_lemma => k_is)
    (case po_Shape => as_aux_lemma => k_is)
    (case sa_Shape => as_aux_lemma => k_is)
    (case sf_Shape => as_aux_lemma => k_is)
    (case ca_Shape => as_aux_lemma => k_is)
    (case cn_Shape => as_aux_lemma => k_is)
    (case ct_Shape => as_aux_lemma => k_is)
    (case cm_Shape => as_aux_lemma => k_is)
    (case kc_Shape => as_aux_lemma => k_is)
    (case kit_int_Shape => as_aux_lemma => kernel_rfl)
    (case kit_bool_Shape => as_aux_lemma => kernel_rfl)
    (case kn_NoneType_Shape => as_aux_lemma => kernel_rfl)
    (case nf_NoneType_Shape => as_aux_lemma => kernel_rfl)
    (case kn_int_Shape => as_aux_lemma => kernel_rfl)
    (case nf_int_Shape => as_aux_lemma => kernel_rfl)
    (case kn_bool_Shape => as_aux_lemma => kernel_rfl)
    (case nf_bool_Shape => as_aux_lemma => kernel_rfl)
    (case kn_str_Shape => as_aux_lemma => kernel_rfl)
    (case nf_str_Shape => as_aux_lemma => kernel_rfl)
    (case kn_list_Shape => as_aux_lemma => kernel_rfl)
    (case nf_list_Shape => as_aux_lemma => kernel_rfl)
    (case kn_dict_Shape => as_aux_lemma => kernel_rfl)
    (case nf_dict_Shape => as_aux_lemma => kernel_rfl)
    (case kn_tuple_Shape => as_aux_lemma => kernel_rfl)
    (case nf_tuple_Shape => as_aux_lemma => kernel_rfl)
    (case self_Shape => as_aux_lemma => kernel_rfl)
    (case na_own_cycles_Shape => as_aux_lemma => k_is)
    (case na_own_chains_Shape => as_aux_lemma => k_is)
    (case ne_Shape => as_aux_lemma => k_is)
    (case m_Shape__init => as_aux_lemma => k_is)
    (case i_Shape__init => as_aux_lemma => k_is)
    (case l_Shape__init => as_aux_lemma => k_is)
    (case c_Shape__init => as_aux_lemma => k_is)
    (case k_Shape__init => as_aux_lemma => k_is)
    (case mk_Shape => as_aux_lemma => k_is)
    (case m_Shape_cycles => as_aux_lemma => k_is)
    (case s_get_Shape_cycles => as_aux_lemma => k_is)
    (case tk_Shape_cycles => as_aux_lemma => k_is)
    (case rc_Shape_cycles => as_aux_lemma => k_is)
    (case l_Shape_cycles => as_aux_lemma => k_is)
    (case c_Shape_cycles => as_aux_lemma => k_is)
    (case k_Shape_cycles => as_aux_lemma => k_is)
    (case m_Shape_chains => as_aux_lemma => k_is)
    (case s_get_Shape_chains => as_aux_lemma => k_is)
    (case tk_Shape_chains => as_aux_lemma => k_is)
    (case rc_Shape_chains => as_aux_lemma => k_is)
    (case l_Shape_chains => as_aux_lemma => k_is)
    (case c_Shape_chains => as_aux_lemma => k_is)
    (case k_Shape_chains => as_aux_lemma => k_is)
    (case m_Shape_size => as_aux_lemma => k_is)
    (case s_get_Shape_size => as_aux_lemma => k_is)
    (case tk_Shape_size => as_aux_lemma => k_is)
    (case rc_Shape_size => as_aux_lemma => k_is)
    (case l_Shape_size => as_aux_lemma => k_is)
    (case c_Shape_size => as_aux_lemma => k_is)
    (case k_Shape_size => as_aux_lemma => k_is)
    (case m_Shape__add => as_aux_lemma => k_is)
    (case i_Shape__add => as_aux_lemma => k_is)
    (case l_Shape__add => as_aux_lemma => k_is)
    (case c_Shape__add => as_aux_lemma => k_is)
    (case k_Shape__add => as_aux_lemma => k_is)
    (case m_Shape__eq => as_aux_lemma => k_is)
    (case i_Shape__eq => as_aux_lemma => k_is)
    (case l_Shape__eq => as_aux_lemma => k_is)
    (case c_Shape__eq => as_aux_lemma => k_is)
    (case k_Shape__eq => as_aux_lemma => k_is)
    (case m_Shape__repr => as_aux_lemma => k_is)
    (case i_Shape__repr => as_aux_lemma => k_is)
    (case l_Shape__repr => as_aux_lemma => k_is)
    (case c_Shape__repr => as_aux_lemma => k_is)
    (case k_Shape__repr => as_aux_lemma => k_is)
    (case a_Map => as_aux_lemma => k_is)
    (case pg_Map => as_aux_lemma => k_is)
    (case hd_Map => as_aux_lemma => k_is)
    (case po_Map => as_aux_lemma => k_is)
    (case sa_Map => as_aux_lemma => k_is)
    (case sf_Map => as_aux_lemma => k_is)
    (case ca_Map => as_aux_lemma => k_is)
    (case cn_Map => as_aux_lemma => k_is)
    (case ct_Map => as_aux_lemma => k_is)
    (case cm_Map => as_aux_lemma => k_is)
    (case kc_Map => as_aux_lemma => k_is)
    (case kit_int_Map => as_aux_lemma => kernel_rfl)
    (case kit_bool_Map => as_aux_lemma => kernel_rfl)
    (case kn_NoneType_Map => as_aux_lemma => kernel_rfl)
    (case nf_NoneType_Map => as_aux_lemma => kernel_rfl)
    (case kn_int_Map => as_aux_lemma => kernel_rfl)
    (case nf_int_Map => as_aux_lemma => kernel_rfl)
    (case kn_bool_Map => as_aux_lemma => kernel_rfl)
    (case nf_bool_Map => as_aux_lemma => kernel_rfl)
    (case kn_str_Map => as_aux_lemma => kernel_rfl)
    (case nf_str_Map => as_aux_lemma => kernel_rfl)
    (case kn_list_Map => as_aux_lemma => kernel_rfl)
    (case nf_list_Map => as_aux_lemma => kernel_rfl)
    (case kn_dict_Map => as_aux_lemma => kernel_rfl)
    (case nf_dict_Map => as_aux_lemma => kernel_rfl)
    (case kn_tuple_Map => as_aux_lemma => kernel_rfl)
    (case nf_tuple_Map => as_aux_lemma => kernel_rfl)
    (case self_Map => as_aux_lemma => kernel_rfl)
    (case na_own_size_Map => as_aux_lemma => k_is)
    (case na_own_arrows_Map => as_aux_lemma => k_is)
    (case m_Map__init => as_aux_lemma => k_is)
    (case i_Map__init => as_aux_lemma => k_is)
    (case l_Map__init => as_aux_lemma => k_is)
    (case c_Map__init => as_aux_lemma => k_is)
    (case k_Map__init => as_aux_lemma => k_is)
    (case mk_Map => as_aux_lemma => k_is)
    (case m_Map_size => as_aux_lemma => k_is)
    (case s_get_Map_size => as_aux_lemma => k_is)
    (case tk_Map_size => as_aux_lemma => k_is)
    (case rc_Map_size => as_aux_lemma => k_is)
    (case l_Map_size => as_aux_lemma => k_is)
    (case c_Map_size => as_aux_lemma => k_is)
    (case k_Map_size => as_aux_lemma => k_is)
    (case m_Map_arrows => as_aux_lemma => k_is)
    (case s_get_Map_arrows => as_aux_lemma => k_is)
    (case tk_Map_arrows => as_aux_lemma => k_is)
    (case rc_Map_arrows => as_aux_lemma => k_is)
    (case l_Map_arrows => as_aux_lemma => k_is)
    (case c_Map_arrows => as_aux_lemma => k_is)
    (case k_Map_arrows => as_aux_lemma => k_is)
    (case a_InvalidMap => as_aux_lemma => k_is)
    (case xl_InvalidMap => as_aux_lemma => k_is)
    (case sa_InvalidMap => as_aux_lemma => k_is)
    (case ex_InvalidMap => as_aux_lemma => k_is)
    (case ty_InvalidMap => as_aux_lemma => k_is)
    (case kc_InvalidMap => as_aux_lemma => k_is)
    (case hd_InvalidMap => as_aux_lemma => k_is)
    (case ga_InvalidMap => as_aux_lemma => k_is)
    (case gg_InvalidMap => as_aux_lemma => k_is)
    (case ss_InvalidMap => as_aux_lemma => k_is)
    (case ca_InvalidMap => as_aux_lemma => k_is)
    (case cn_InvalidMap => as_aux_lemma => k_is)
    (case ct_InvalidMap => as_aux_lemma => k_is)
    (case cm_InvalidMap => as_aux_lemma => k_is)
    (case kit_ValueError_InvalidMap => as_aux_lemma => kernel_rfl)
    (case na_part_InvalidMap => as_aux_lemma => k_is)
    (case m_InvalidMap__init => as_aux_lemma => k_is)
    (case ti_InvalidMap__init => as_aux_lemma => k_is)
    (case l_InvalidMap__init => as_aux_lemma => k_is)
    (case c_InvalidMap__init => as_aux_lemma => k_is)
    (case k_InvalidMap__init => as_aux_lemma => k_is)
    (case a_InvalidShape => as_aux_lemma => k_is)
    (case xl_InvalidShape => as_aux_lemma => k_is)
    (case sa_InvalidShape => as_aux_lemma => k_is)
    (case ex_InvalidShape => as_aux_lemma => k_is)
    (case ty_InvalidShape => as_aux_lemma => k_is)
    (case kc_InvalidShape => as_aux_lemma => k_is)
    (case hd_InvalidShape => as_aux_lemma => k_is)
    (case ga_InvalidShape => as_aux_lemma => k_is)
    (case gg_InvalidShape => as_aux_lemma => k_is)
    (case ss_InvalidShape => as_aux_lemma => k_is)
    (case ca_InvalidShape => as_aux_lemma => k_is)
    (case cn_InvalidShape => as_aux_lemma => k_is)
    (case ct_InvalidShape => as_aux_lemma => k_is)
    (case cm_InvalidShape => as_aux_lemma => k_is)
    (case kit_ValueError_InvalidShape => as_aux_lemma => kernel_rfl)
    (case te_InvalidMap_InvalidShape => as_aux_lemma => k_is)
    (case na_part_InvalidShape => as_aux_lemma => k_is)
    (case m_InvalidShape__init => as_aux_lemma => k_is)
    (case ti_InvalidShape__init => as_aux_lemma => k_is)
    (case l_InvalidShape__init => as_aux_lemma => k_is)
    (case c_InvalidShape__init => as_aux_lemma => k_is)
    (case k_InvalidShape__init => as_aux_lemma => k_is)
    (case z_isinstance => as_aux_lemma => k_is)
    (case z_int => as_aux_lemma => k_is)
    (case z_bool => as_aux_lemma => k_is)
    (case z_dict => as_aux_lemma => k_is)
    (case z_len => as_aux_lemma => k_is)
    (case z_range => as_aux_lemma => k_is)
    (case z_list => as_aux_lemma => k_is)
    (case z_max => as_aux_lemma => k_is)
    (case z_min => as_aux_lemma => k_is)
    (case z_sum => as_aux_lemma => k_is)
    (case z_all => as_aux_lemma => k_is)
    (case z_sorted => as_aux_lemma => k_is)
    (case z_repr => as_aux_lemma => k_is)
    (case z_ValueError => as_aux_lemma => k_is)
    (case v_MAX_SIZE => as_aux_lemma => k_is)
    (case kit_x_Shape_Map => as_aux_lemma => kernel_rfl)
    (case nf_x_Shape_Map => as_aux_lemma => kernel_rfl)
