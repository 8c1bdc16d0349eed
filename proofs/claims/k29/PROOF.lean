import PyProof.Rows.All
import Wide.All
import OpenK.AllK
import Wide.FinOn
import KE.OsRunLaw
import PySem.Challenge.RW_chainmaps_k29_greater_distances
import HandS.ForMost
import HandS.ForExc
import HandS.IsInst
import HandS.More
import HandS.SlotsOwn
import HandS.Property
import HandS.ClsMeth
import HandS.DictComp
import HandS.Conv
import HandS.Walk
import HandS.NoneIn
import HandS.CallLocal
import HandS.Star
import HandS.ExcInit
import HandS.ExcField
import HandS.ExcIs
import KE.KExcInit
import KE.KExcIs
import HandS.WordsExc
import HandS.ListItems
import HandS.Style
import HandS.TryMany
import HandS.RaiseMore
import HandS.FStr
import HandS.HotCalls
import KE.KItemsList
import KE.KOpsOwn
import HandS.OwnEq
import HandS.Lambda
import HandS.EndTab
import KE.KNestM
import HandS.Deep
import HandS.Nested
import KE.KSuper
import HandS.TupMul
import KE.GoesMore
import HandS.Small
import HandS.WideBits
import HandS.Wide
import HandS.TryOnly
set_option Elab.async false
set_option linter.all false
set_option maxRecDepth 100000
set_option maxHeartbeats 4000000
section
local macro_rules | `(tactic| first | refine $t:term | fail $s:str) => do { let t2 ← t.raw.replaceM fun n => (do { if n.getKind == `Lean.Parser.Term.syntheticHole then { let nm := n[1].getId.eraseMacroScopes; if nm == `hl then { return some (← `(by exact $(Lean.mkIdent `x))) } else { if nm == `hw || nm == `hc then { return some (← `(by contradiction)) } else { return none } } } else { return none } }); `(tactic| refine $(⟨t2⟩)) }
open PySem PySem.W PyProof.Rows
set_option maxRecDepth 100000 in
set_option maxHeartbeats 0 in
def My.hlStmt : Prop := by
  refine' (fun (P : Prop) (_ : P → False → PySem.Challenge.rw_chainmaps_k29_greater_distances.Holds) => P) _ ?h
  rotate_left
  intro x f
  w_on; o_law; k_headL
set_option maxRecDepth 100000 in
set_option maxHeartbeats 0 in
theorem My.hl : My.hlStmt := by
  refine HeadRun.left_oneK (by kernel_rfl) (by rfl) (fun s => by kernel_rfl) (Nat.ble_eq_true_of_le (Nat.le_refl _)) ?_
  intro w os
  kernel_rfl
end
namespace PySem.W
open PySem PySem.Calls PyProof.Rows
section
variable {prog : Program} {w : World} {A : Around} {E : Value → Shared → Prop} {s : Shared} {K : Frag} {x C L f : Addr} {h₀ : Heap} {m : Str → Option Value} {ox : Obj} {od : Option Obj} {b tb : Value}
theorem my_ne_K {Q : Value → Shared → Prop} (hu : A.units + 1 < cLine) (F : Fr h₀ L s.heap m) (X₀ : K.In h₀) (I : InstAt s.heap x ox C od) (hb : Looks (model prog w) s.heap (typeOf b) tb) (hn : notFirst K C tb = true)
    (hne : findIn K (.ref C) "__ne__" = some (some (.builtin "object.__ne__"))) (hob : mroIn K C (.type "object") = some true)
    (hs : findIn K (.ref C) "__eq__" = some (some (.ref f))) (hf : isFn K (.ref f) = true)
    (h : wpAny (model prog w) A.in1 (call (.ref f) [.ref x, b]) (fun v s' => ∃ c, v = .bool c ∧ Q (.bool (!c)) s') E s) : wpAny (model prog w) A (richCompare .NotEq (.ref x) b) Q E s := by
  have X := X₀.keeps F.keep
  have one : wpAny (model prog w) A (tryCompare (.ref x) "__ne__" b) (fun r s' => ∃ v, r = some v ∧ Q v s') E s := by
    unfold tryCompare
    simp only [callSpecialIfBound?, bindSpecialIfBound?]
    have sub : Looks (model prog w) s.heap (isInstance (.ref x) (.type "object")) true := I.type.andThen (looks_mroIn X hob)
    have fin : wpAny (model prog w) A (call (.builtin "object.__ne__") ([.ref x] ++ [b]) >>= fun v => pure (some v)) (fun r s' => ∃ c, r = some (.bool c) ∧ Q (.bool c) s') E s := by
      refine wpAny_bind (wpAny_call (codeAny_call_builtin PySem.F.slot_tuple_iterator_ne.plain PySem.F.cmpEntry_ne ?_))
      refine @check_slot (model prog w) _ _ s "object.__ne__" "object" "__ne__" (.ref x) [b] [] _ PySem.F.cmpKind_ne PySem.F.cmpSplit_ne sub (PySem.F.cmpArgs_ne _ _) ?_
      unfold Builtin.«object.__ne__»
      refine wpAny_bind (wpAny_of_eq (a := ((Value.ref x : Value), [b])) (by first | rfl | (simp only [Builtin.slotArgs]; rfl)) ?_)
      refine wpAny_bind (wpAny_cRoomFor hu ?_)
      refine wpAny_bind (ifBound_K X I hs hf (wpAny_mono h (fun v s' hv => ?_) fun _ _ e => e))
      obtain ⟨c, rfl, q⟩ := hv
      refine wpAny_bind (wpAny_truthy_bool ?_)
      exact wpAny_pure (wpAny_pure ⟨_, rfl, q⟩)
    refine wpAny_bind (wpAny_holding (wpAny_bind (wpAny_bind (wpAny_bind (I.type.here ((looks_findIn X hne).here ?_))))))
    refine wpAny_bind (wpAny_askSetting (wpAny_ite ?_))
    split
    · rw [PySem.F.slot_tuple_iterator_ne.bind (.ref x)]
      exact wpAny_bind (wpAny_pure (wpAny_pure (wpAny_mono fin (fun r s' z => by obtain ⟨c, rfl, q⟩ := z; exact wpAny_pure ⟨_, rfl, q⟩) fun _ _ e => e)))
    · rw [PySem.F.slot_tuple_iterator_ne.bind (.ref x)]
      exact wpAny_tryCatch (wpAny_bind (wpAny_pure (wpAny_pure (wpAny_mono fin (fun r s' z => by obtain ⟨c, rfl, q⟩ := z; exact wpAny_pure ⟨_, rfl, q⟩) fun _ _ e => e))))
  unfold richCompare
  simp only [oneThing_ref]
  refine wpAny_holding (wpAny_bind (wpAny_cRoomFor (Nat.lt_of_succ_lt hu) ?_))
  refine wpAny_bind (I.type.here (wpAny_bind (hb.here ?_)))
  split
  · rename_i q
    have e : subIn K tb (.ref C) = some false := by
      rcases Bool.or_eq_true_iff.mp hn with e | e
      · rw [beq_iff_eq.mp e] at q; simp at q
      · exact beq_iff_eq.mp e
    refine wpAny_bind ((looks_subIn X e).here ?_)
    simp only [Bool.false_eq_true, if_false]
    refine wpAny_bind (wpAny_mono one (fun r s' z => ?_) fun _ _ e => e)
    obtain ⟨v, rfl, hq⟩ := z
    exact wpAny_pure hq
  · refine wpAny_bind (wpAny_pure ?_)
    simp only [Bool.false_eq_true, if_false]
    refine wpAny_bind (wpAny_mono one (fun r s' z => ?_) fun _ _ e => e)
    obtain ⟨v, rfl, hq⟩ := z
    exact wpAny_pure hq
end
end PySem.W
namespace U
open PySem PySem.Spec PyProof.Rows L2
/-- what is asked of a plain own class -/
structure OwnC (K : PySem.W.Frag) (C : Addr) : Prop where
  cl : Cls K C
  sf : PySem.W.selfFirst K C = true
  ca : PySem.W.findIn K (.ref C) "__class__" = some (some (.builtin "object.__class__"))
  cn : PySem.W.specialIn K (.builtin "object.__class__") "__get__" = some (some (.builtin "getset_descriptor.__get__"))
  ct : PySem.W.takesIn K (.builtin "object.__class__") = some true
  cm : PySem.W.mroIn K C (.type "object") = some true
section
variable {X : Cx} {CX : CXT} {pins : List (Addr × Obj)} {σ : L2.St} {H : Hp} {s : Shared} {a C dx p g : Addr} {f : Str} {n : Nat} {sp : Sp} {E : XK} {v : V} {u : Value}
theorem ins_inst (I : Inv X pins σ H s) {fs : List (Str × V)} (ea : H a = some (.ins C dx fs)) : ∃ ox od, PySem.W.InstAt s.heap a ox C (some od) := by
  obtain ⟨mA, O, _⟩ := ins_get I.hok ea
  obtain ⟨od, J, _⟩ := O.look
  exact ⟨_, od, J⟩
/-- x op y, both instances of C -/
def rBin (C : Addr) (sp : Sp) (E : XK) : R2 := fun x y H Q => ∃ a dx fs b dy gs, x = .ref a ∧ y = .ref b ∧ H a = some (.ins C dx fs) ∧ H b = some (.ins C dy gs) ∧ sp [x, y] H Q E
theorem notFirst_self (K : PySem.W.Frag) (C : Addr) : PySem.W.notFirst K C (.ref C) = true := by
  unfold PySem.W.notFirst; simp
theorem op_cmp {op : CmpOp} (hop : ∀ a b, compareOp op a b = richCompare op a b) (hs : PySem.W.findIn X.K (.ref C) (cmpInfo op).2.1 = some (some (.ref g))) (hf : PySem.W.isFn X.K (.ref g) = true) (F : FnR X.prog X.w X.K X.mg X.base CX n g sp)
    (hr : Room n X.A) (hx : Passes CX X E) : OpR X (compareOp op) (rBin C sp E) := by
  intro pins s σ H x y v u Q I rx ry h
  obtain ⟨a, dx, vs, b, dy, ws, rfl, rfl, ha, hb, q⟩ := h
  cases (show v = Value.ref a from rx)
  cases (show u = Value.ref b from ry)
  obtain ⟨ox, od, J⟩ := ins_inst I ha
  obtain ⟨oy, od', J'⟩ := ins_inst I hb
  obtain ⟨m, hF⟩ := I.fr
  rw [hop]
  refine PySem.W.cmp_K (op := op) (tb := .ref C) hr.units0 hF I.ok.mod.kin J J'.type (notFirst_self _ _) hs hf ?_
  refine wpAny_mono (wpAny_call (run_fnR (us := [.ref a, .ref b]) (vs := [.ref a, .ref b]) F hr hx I (.cons rfl (.cons rfl .nil)) q)) (fun w s' z => ?_) fun _ _ x => x
  obtain ⟨z', H', I', rz, qz⟩ := z
  exact SlX.cmpback rz ⟨z', H', I', rz, qz⟩
/-- x != y by the own __eq__ -/
def rNeO (C : Addr) (sp : Sp) (E : XK) : R2 := fun x y H Q => ∃ a dx fs b dy gs, x = .ref a ∧ y = .ref b ∧ H a = some (.ins C dx fs) ∧ H b = some (.ins C dy gs) ∧ sp [x, y] H (fun z H' => ∃ c, z = .bl c ∧ Q (.bl (!c)) H') E
theorem op_neO (oc : OwnC X.K C) (hne : PySem.W.findIn X.K (.ref C) "__ne__" = some (some (.builtin "object.__ne__"))) (hs : PySem.W.findIn X.K (.ref C) "__eq__" = some (some (.ref g))) (hf : PySem.W.isFn X.K (.ref g) = true) (F : FnR X.prog X.w X.K X.mg X.base CX n g sp)
    (hr : Room (n + 1) X.A) (hx : Passes CX X E) : OpR X (compareOp .NotEq) (rNeO C sp E) := by
  intro pins s σ H x y v u Q I rx ry h
  obtain ⟨a, dx, vs, b, dy, ws, rfl, rfl, ha, hb, q⟩ := h
  cases (show v = Value.ref a from rx)
  cases (show u = Value.ref b from ry)
  obtain ⟨ox, od, J⟩ := ins_inst I ha
  obtain ⟨oy, od', J'⟩ := ins_inst I hb
  obtain ⟨m, hF⟩ := I.fr
  have hr1 : Room n X.A.in1 := Room.in1 hr
  refine PySem.W.my_ne_K (tb := .ref C) (hu_of hr) hF I.ok.mod.kin J J'.type (notFirst_self _ _) hne oc.cm hs hf ?_
  refine wpAny_mono (wpAny_call (SlX.run_at (us := [.ref a, .ref b]) (ws := [.ref a, .ref b]) F hr1 I.env0.in1 hx I (.cons rfl (.cons rfl .nil)) q)) (fun w s' z => ?_) fun _ _ x => x
  obtain ⟨z', H', I', rz, c, ez, qz⟩ := z
  subst ez
  cases (show w = Value.bool c from rz)
  exact ⟨c, rfl, .bl (!c), H', I', rfl, qz⟩
end
end U
namespace U
open PySem PySem.Spec PyProof.Rows L2 StX
/-! ### a def of the text, with how its arguments bind -/
structure FnAt (K : PySem.W.Frag) (x qual : Str) (st : Stmt) (f : Addr) (ps : List Str) : Prop where
  ex : ∃ fd, Fun K x qual st f fd ∧ Binds K fd ps []
theorem FnAt.kp {K : PySem.W.Frag} {x qual : Str} {st : Stmt} {f : Addr} {ps : List Str} (A : FnAt K x qual st f ps) : PySem.W.keepIn K (.ref f) = true := by
  obtain ⟨fd, F, _⟩ := A.ex
  exact F.kp
section
variable {P : Program} {w : World} {K : PySem.W.Frag} {mg : Str → Option Value} {base : Heap}
theorem FnAt.ok {x qual : Str} {st : Stmt} {f : Addr} {N ps : List Str} {k : Nat} {sp : Sp} (A : FnAt K x qual st f ps) (S : FnScope N ps (defScope st)) (len : ∀ vs H Q E, sp vs H Q E → vs.length = ps.length)
    (hbody : ∀ (cdv : Value) (A : Around) (outer : List Env) (s : Shared) (H : Hp) (vs : List V) (Q : VK) (E : XK), Room k (A.deeper (envOfC qual (defScope st) s.heap.objs.size f cdv)) → sp vs H Q E →
      ∃ t, PSs (cxOf CX0 P w K mg base N qual (defScope st) f cdv A outer s H E).nox (defBody st) t ∧ t { nx := fun _ H' => Q .non H', rt := Q } (start N vs) H) : FnR P w K mg base CX0 (k + 1) f sp := by
  obtain ⟨fd, F, B⟩ := A.ex
  have R := (F.ok (P := P) (w := w) (mg := mg) (base := base) S len hbody).raw B .nil
  exact R.imp fun vs H Q E h => by rw [List.append_nil]; exact h
end
section
variable {X : Cx} {CX : CXT} {k i : Nat} {f C p g a dx : Addr} {sp : Sp} {E : XK} {x fl : Str} {e o : Expr} {es : List Expr} {ta te tf : TE} {t : TA} {pp pos : Pos} {fs : List (Str × V)}
/-- x(e, ..), x a def of the module -/
def tCallR (sp : Sp) (E : XK) (t : TA) : TE := fun σ H Q => t σ H fun vs H1 => sp vs H1 Q E
theorem pe_callR (F : FnR X.prog X.w X.K X.mg X.base CX k f sp) (hr : Room k X.A) (hk : PySem.W.keepIn X.K (.ref f) = true) (hg : Gl X x) (hm : X.mg x = some (.ref f)) (hx : Passes CX X E) (ha : PA X (e :: es) t) (hdb : (x == ("__debug__" : Str)) = false := by decide)
    (he : starEach (e :: es) X.env = (false, eval e X.env) :: starEach es X.env := by rfl) (hpl : (backTo pos (starEach es X.env)).any (·.1) = false := by rfl) : PE X (.Call (.Name x pp) (e :: es) [] pos) (tCallR sp E t) := by
  refine ⟨fun pins s σ H Q I h => ?_⟩
  refine wpAny_Call_Name_kw (ld_glob I hg hm ?_ hdb)
  refine PySem.W.callWith_K (h₀ := X.base) I.ok.mod.kin hk (thn (ha.run pos pins s σ H _ I h) fun us s1 ⟨vs, H1, I1, r, q⟩ => ⟨I1.kIn, ?_⟩) he hpl
  exact wpAny_call (run_fnR F hr hx I1 r q)
/-- e.f, a property -/
def tPropR (C : Addr) (sp : Sp) (ta : TE) : TE := fun σ H Q => ta σ H fun x H1 => ∃ a dx fs, x = .ref a ∧ H1 a = some (.ins C dx fs) ∧ sp [.ref a] H1 Q E0
theorem pe_propR (he : PE X e ta) (c : Cls X.K C) (hp : PropOf X.K C fl p g) (F : FnR X.prog X.w X.K X.mg X.base CX0 k g sp) (hr : Room (k + 1) X.A)
    (hab : attributeBase e fl X.env (eval e X.env) = eval e X.env := by rfl) : PE X (.Attribute e fl pos) (tPropR C sp ta) := by
  refine ⟨fun pins s σ H Q I h => ?_⟩
  refine attr_of hab (thn (he.run pins s σ H _ I h) fun u s1 ⟨x, H1, I1, rx, a, dx, fs, ex, ea, q⟩ => ?_)
  subst ex
  obtain rfl : u = Value.ref a := rx
  obtain ⟨mA, O, _, _, _, _⟩ := ins_get I1.hok ea
  obtain ⟨od, J, _⟩ := O.look
  obtain ⟨rest, hrec⟩ := hp.rec_
  have I2 := I1.tok (s1.toks + 1)
  have hc : (PySem.W.clsIn X.K C).isSome = true := by
    obtain ⟨cd, hc, _⟩ := PySem.W.any_some c.hd
    rw [hc]
    rfl
  refine PySem.W.get_bind I1.kIn J (PySem.W.plainGet_of (c.get fl)).1 (PySem.W.findObj_data hc hp.at_ hp.get hp.tak) (PySem.W.plainGet_of (c.get fl)).2 (wpAny_call (PySem.W.prop_get (s := { s1 with toks := s1.toks + 1 }) I1.kIn hrec ?_))
  refine codeAny_mono (F X.A.in1 X.stack { s1 with toks := s1.toks + 1 } H1 [.ref a] [.ref a] Q E0 hr.in1 I2.env0.in1 (.cons rfl .nil) q) fun r s' hq => ?_
  cases r with
  | error er => exact False.elim hq
  | ok fl =>
    cases fl with
    | ret u =>
      obtain ⟨v, H', I3, rv, q3⟩ := I2.after hq
      show wpAny _ _ (handedOut u) _ _ _
      rw [PySem.W.handedOut_of (handed_of rv)]
      exact wpAny_pure ⟨v, H', I3, rv, q3⟩
    | next => exact False.elim hq
    | brk => exact False.elim hq
    | cont => exact False.elim hq
/-- x(..), x a local that holds the class at C -/
def tMakeL (i : Nat) (C : Addr) (sp : Sp) (E : XK) (t : TA) : TE := fun σ H Q => σ[i]? = some (some (.ref C)) ∧ tMakeR C sp E t σ H Q
theorem pe_makeL (M : Mk X.K C f) (F : FnR X.prog X.w X.K X.mg X.base CX k f sp) (hr : Room (k + 1) X.A) (hN : X.N[i]? = some x) (hv : Vis X.env.scope x) (hx : Passes CX X E) (ha : PA X (e :: es) t) (hdb : (x == ("__debug__" : Str)) = false := by decide)
    (hcd : (x == ("__classdict__" : Str)) = false := by decide)
    (he : starEach (e :: es) X.env = (false, eval e X.env) :: starEach es X.env := by rfl) (hpl : (backTo pos (starEach es X.env)).any (·.1) = false := by rfl) : PE X (.Call (.Name x pp) (e :: es) [] pos) (tMakeL i C sp E t) := by
  refine ⟨fun pins s σ H Q I h => ?_⟩
  obtain ⟨hs, ht⟩ := h
  refine wpAny_Call_Name_kw (thn ((pe_var (pos := pp) hN hv hdb hcd).run pins s σ H (fun v H1 => v = .ref C ∧ H1 = H) I ⟨.ref C, hs, rfl, rfl⟩) fun u s1 ⟨v, H1, I1, r1, q1⟩ => ?_)
  obtain ⟨rfl, rfl⟩ := q1
  cases r1
  refine PySem.W.callWith_K (h₀ := X.base) I.ok.mod.kin M.kp (thn (ha.run pos pins s1 σ _ _ I1 ht) fun us s2 ⟨vs, H2, I2, r, q⟩ => ⟨I2.kIn, ?_⟩) he hpl
  exact run_makeR M F hr hx I2 r q
end
theorem ifD {c : Prop} [Decidable c] {A B : Prop} (h1 : c → A) (h2 : ¬ c → B) : if decide c = true then A else B := by
  by_cases h : c
  · rw [if_pos (decide_eq_true h)]; exact h1 h
  · rw [if_neg (by simp [h])]; exact h2 h
theorem ifN {c : Prop} [Decidable c] {A B : Prop} (h1 : ¬ c → A) (h2 : c → B) : if (!decide c) = true then A else B := by
  by_cases h : c
  · rw [if_neg (by simp [h])]; exact h2 h
  · rw [if_pos (by simp [h])]; exact h1 h
theorem ifB {c : Bool} {A B : Prop} (h1 : c = true → A) (h2 : c = false → B) : if c = true then A else B := by
  cases c with
  | true => rw [if_pos rfl]; exact h1 rfl
  | false => rw [if_neg Bool.false_ne_true]; exact h2 rfl
theorem ifNB {c : Bool} {A B : Prop} (h1 : c = false → A) (h2 : c = true → B) : if (!c) = true then A else B := by
  cases c with
  | true => exact iteF (h2 rfl)
  | false => exact iteT (h1 rfl)
end U
namespace U
open PySem PySem.Spec PyProof.Rows L2
/-- the ints' dicts compared -/
def dEq (ks ls : List (Key × V)) : Bool := ks.length == ls.length && ks.all fun p => decide (valV ls p.1 = some p.2)
def IntVals (ks : List (Key × V)) : Prop := ∀ p ∈ ks, ∃ i : Int, p.2 = .int i
theorem valV_mem {ls : List (Key × V)} {k : Key} {v : V} (h : valV ls k = some v) : ∃ p ∈ ls, p.2 = v := by
  unfold valV at h
  cases e : ls.find? (fun kv => decide (kv.1 = k)) with
  | none => rw [e] at h; cases h
  | some p =>
    rw [e] at h
    exact ⟨p, List.mem_of_find?_eq_some e, Option.some.inj h⟩
theorem hits_int {A : Around} {s : Shared} {ls : List (Key × V)} {vb : List (Key × Value)} (rb : KV ls vb) (il : IntVals ls) {ks : List (Key × V)} {va : List (Key × Value)} (ra : KV ks va) :
    IntVals ks → PySem.W.KeqHits A s vb va (ks.all fun p => decide (valV ls p.1 = some p.2)) := by
  unfold KV at ra
  induction ra with
  | nil => intro _; exact .nil
  | @cons p q ps qs h t ih =>
    intro hp
    obtain ⟨h1, h2⟩ := h
    obtain ⟨i, ei⟩ := hp p List.mem_cons_self
    obtain ⟨k, v⟩ := q
    have h1' : p.1 = k := h1
    subst h1'
    rw [ei] at h2
    obtain ⟨tk, ev⟩ := (show ∃ tk, v = Value.int i tk from h2)
    subst ev
    have rr : RelO (valV ls p.1) (valueAt vb p.1) := rb.val p.1
    rw [List.all_cons]
    cases e : valV ls p.1 with
    | none =>
      rw [e] at rr
      cases e2 : valueAt vb p.1 with
      | none => exact .miss e2
      | some y => rw [e2] at rr; exact rr.elim
    | some z =>
      rw [e] at rr
      obtain ⟨y, hy, ry⟩ := rr.some_of
      obtain ⟨p', hm, ep⟩ := valV_mem e
      obtain ⟨j, ej⟩ := il p' hm
      rw [ej] at ep
      subst ep
      obtain ⟨tk', ey⟩ := (show ∃ tk, y = Value.int j tk from ry)
      subst ey
      have b : decide (some (V.int j) = some p.2) = (i == j) := by
        rw [ei]
        by_cases h : i = j
        · subst h; simp
        · have h' : ¬ j = i := fun z => h z.symm
          simp [h, h']
      rw [b]
      exact .hit hy (SeqAt.EqAt.int_int i _ j _) (ih fun p' hm => hp p' (List.mem_cons_of_mem _ hm))
section
variable {X : Cx}
def rEqD : R2 := fun x y H Q => ∃ a b ks ls, x = .ref a ∧ y = .ref b ∧ H a = some (.dK ks) ∧ H b = some (.dK ls) ∧ IntVals ks ∧ IntVals ls ∧ Q (.bl (dEq ks ls)) H
theorem op_eqDI (hu : X.A.units < cLine) : OpR X (compareOp .Eq) rEqD := by
  intro pins s σ H x y v u Q I rx ry h
  obtain ⟨a, b, ks, ls, rfl, rfl, ea, eb, i1, i2, q⟩ := h
  cases (show v = Value.ref a from rx)
  cases (show u = Value.ref b from ry)
  obtain ⟨_, ya, va, ra, da⟩ := (show ObjOk X.prog X.w H s.heap a (.dK ks) from I.hok a _ ea)
  obtain ⟨_, yb, vb, rb, db⟩ := (show ObjOk X.prog X.w H s.heap b (.dK ls) from I.hok b _ eb)
  refine PySem.W.keq_eq (knd := mixKind X.prog X.w) ya yb da db hu (fun _ => hits_int rb i2 ra i1) (fin_bl I q ?_)
  unfold dEq
  rw [ra.length, rb.length]
end
end U
namespace U
open PySem PySem.Spec PyProof.Rows L2
/-! ### heaps -/
def Off (d : Addr) (H H' : Hp) : Prop := ∀ b o, b ≠ d → H b = some o → H' b = some o
theorem Same.new {H : Hp} {p : Addr} {o : HO} (h : H p = none) : L2.Same H (upd H p o) := fun b u e => by rw [upd_ne (ne_of_none e h)]; exact e
theorem Off.tr {d : Addr} {H H1 H2 : Hp} (a : Off d H H1) (b : Off d H1 H2) : Off d H H2 := fun c o hc e => b c o hc (a c o hc e)
theorem Off.lock {d : Addr} {H : Hp} {o : HO} : Off d H (upd H d o) := fun b u hb e => by rw [upd_ne hb]; exact e
theorem Off.new {d p : Addr} {H : Hp} {o : HO} (h : H p = none) : Off d H (upd H p o) := fun b u _ e => by rw [upd_ne (ne_of_none e h)]; exact e
theorem Off.free {d p : Addr} {H H' : Hp} {u : HO} (a : Off d H H') (hd : H' d = some u) (h : H' p = none) : H p = none := by
  cases e : H p with
  | none => rfl
  | some o =>
    by_cases hp : p = d
    · subst hp; rw [hd] at h; cases h
    · rw [a p o hp e] at h; cases h
theorem Off.back {d : Addr} {H H' : Hp} {u : HO} (a : Off d H H') (hd : H d = some u) : L2.Same H (upd H' d u) := fun b o e => by
  by_cases hb : b = d
  · subst hb; rw [hd] at e; cases e; exact upd_same
  · rw [upd_ne hb]; exact a b o hb e
/-- an object of the heap behind, that was not there ahead, may be changed -/
theorem Off.mut {d p : Addr} {H H' : Hp} {o : HO} (a : Off d H H') (h : H p = none) : Off d H (upd H' p o) := fun b u hb e => by rw [upd_ne (ne_of_none e h)]; exact a b u hb e
/-! ### a dict of ints -/
def kvI (l : List (Int × Int)) : List (Key × V) := l.map fun p => (Sum.inl p.1, V.int p.2)
theorem kvI_length (l : List (Int × Int)) : (kvI l).length = l.length := by simp [kvI]
theorem kvI_get {l : List (Int × Int)} {i : Nat} {k : Key} {v : V} (h : (kvI l)[i]? = some (k, v)) : ∃ x y, l[i]? = some (x, y) ∧ k = .inl x ∧ v = .int y := by
  unfold kvI at h
  rw [List.getElem?_map] at h
  cases e : l[i]? with
  | none => rw [e] at h; cases h
  | some p =>
    rw [e] at h
    obtain ⟨x, y⟩ := p
    cases h
    exact ⟨x, y, rfl, rfl, rfl⟩
def lk (l : List (Int × Int)) (x : Int) : Option Int := (l.find? fun p => decide (p.1 = x)).map (·.2)
theorem valV_kvI (l : List (Int × Int)) (x : Int) : valV (kvI l) (Sum.inl x : Key) = (lk l x).map V.int := by
  induction l with
  | nil => rfl
  | cons p r ih =>
    obtain ⟨a, b⟩ := p
    by_cases h : a = x
    · subst h
      rw [show kvI ((a, b) :: r) = (Sum.inl a, V.int b) :: kvI r from rfl, valV_pos rfl]
      simp [lk]
    · rw [show kvI ((a, b) :: r) = (Sum.inl a, V.int b) :: kvI r from rfl, valV_neg (fun z => h (Sum.inl.inj z)), ih]
      simp [lk, h]
theorem lk_none {l : List (Int × Int)} {x : Int} (h : x ∉ l.map (·.1)) : lk l x = none := by
  unfold lk
  rw [List.find?_eq_none.mpr]
  · rfl
  · intro p hp
    simp only [decide_eq_true_eq]
    exact fun e => h (List.mem_map.mpr ⟨p, hp, e⟩)
theorem lk_some {l : List (Int × Int)} (nd : (l.map (·.1)).Nodup) {x y : Int} (h : (x, y) ∈ l) : lk l x = some y := by
  induction l with
  | nil => cases h
  | cons p r ih =>
    obtain ⟨a, b⟩ := p
    rw [List.map_cons, List.nodup_cons] at nd
    rcases List.mem_cons.mp h with h | h
    · cases h; simp [lk]
    · have ne : ¬ a = x := fun z => nd.1 (by rw [z]; exact List.mem_map.mpr ⟨(x, y), h, rfl⟩)
      have := ih nd.2 h
      simpa [lk, ne] using this
theorem lk_mem {l : List (Int × Int)} {x y : Int} (h : lk l x = some y) : (x, y) ∈ l := by
  unfold lk at h
  cases e : l.find? (fun p => decide (p.1 = x)) with
  | none => rw [e] at h; cases h
  | some p =>
    rw [e] at h
    obtain ⟨a, b⟩ := p
    have h1 := List.find?_some e
    simp only [decide_eq_true_eq] at h1
    have h2 : b = y := Option.some.inj h
    subst h1 h2
    exact List.mem_of_find?_eq_some e
theorem intVals_kvI (l : List (Int × Int)) : IntVals (kvI l) := by
  intro p hp
  unfold kvI at hp
  obtain ⟨q, _, rfl⟩ := List.mem_map.mp hp
  exact ⟨q.2, rfl⟩
theorem putK_kvI {l : List (Int × Int)} {x y : Int} (h : x ∉ l.map (·.1)) : putK (kvI l) (Sum.inl x : Key) (V.int y) = kvI (l ++ [(x, y)]) := by
  have e : valV (kvI l) (Sum.inl x : Key) = none := by rw [valV_kvI, lk_none h]; rfl
  rw [putK_new _ e]
  simp [kvI]
theorem lk_append {l r : List (Int × Int)} {x : Int} : lk (l ++ r) x = (lk l x).or (lk r x) := by
  unfold lk
  rw [List.find?_append]
  cases l.find? (fun p => decide (p.1 = x)) <;> rfl
theorem lk_cons (a b : Int) (r : List (Int × Int)) (z : Int) : lk ((a, b) :: r) z = if a = z then some b else lk r z := by
  by_cases h : a = z <;> simp [lk, h]
theorem lk_mapOff (r : List (Int × Int)) (x y z : Int) (hz : ¬ z = x) : lk (r.map fun p => if p.1 = x then (p.1, y) else p) z = lk r z := by
  induction r with
  | nil => rfl
  | cons p r ih =>
    obtain ⟨a, b⟩ := p
    rw [List.map_cons]
    by_cases ha : a = x
    · subst ha
      have hz' : ¬ a = z := fun q => hz q.symm
      rw [if_pos rfl, lk_cons, lk_cons, if_neg hz', if_neg hz', ih]
    · rw [if_neg ha, lk_cons, lk_cons, ih]
theorem lk_mapPut {x y : Int} : ∀ (l : List (Int × Int)), x ∈ l.map (·.1) → ∀ z, lk (l.map fun p => if p.1 = x then (p.1, y) else p) z = if z = x then some y else lk l z
  | [], h, z => by cases h
  | (a, b) :: r, h, z => by
    by_cases hz : z = x
    · subst hz
      rw [if_pos rfl, List.map_cons]
      by_cases ha : a = z
      · subst ha
        rw [if_pos rfl, lk_cons, if_pos rfl]
      · rw [if_neg ha, lk_cons, if_neg ha]
        have h' : z ∈ r.map (·.1) := by
          rcases List.mem_cons.mp h with q | q
          · exact absurd q.symm ha
          · exact q
        rw [lk_mapPut r h' z, if_pos rfl]
    · rw [if_neg hz, lk_mapOff _ _ _ _ hz]
theorem putK_lk {l : List (Int × Int)} {x y : Int} : ∃ l', putK (kvI l) (Sum.inl x : Key) (V.int y) = kvI l' ∧ l'.length ≤ l.length + 1 ∧ ((l.map (·.1)).Nodup → (l'.map (·.1)).Nodup) ∧ ∀ z, lk l' z = if z = x then some y else lk l z := by
  by_cases h : x ∈ l.map (·.1)
  · refine ⟨l.map fun p => if p.1 = x then (p.1, y) else p, ?_, by simp, fun nd => ?_, fun z => ?_⟩
    · unfold putK
      rw [if_pos (by
        obtain ⟨p, hp, e⟩ := List.mem_map.mp h
        rw [List.any_eq_true]
        exact ⟨(Sum.inl p.1, V.int p.2), List.mem_map.mpr ⟨p, hp, rfl⟩, by simp [e]⟩)]
      unfold kvI
      rw [List.map_map, List.map_map]
      refine List.map_congr_left fun p _ => ?_
      by_cases e : p.1 = x
      · simp [e]
      · have e' : ¬ (Sum.inl p.1 : Key) = Sum.inl x := fun q => e (Sum.inl.inj q)
        simp [e]
    · have e : (l.map fun p => if p.1 = x then (p.1, y) else p).map (·.1) = l.map (·.1) := by
        rw [List.map_map]
        refine List.map_congr_left fun p _ => ?_
        by_cases e : p.1 = x <;> simp [e]
      rw [e]; exact nd
    · exact lk_mapPut l h z
  · refine ⟨l ++ [(x, y)], putK_kvI h, by simp, fun nd => ?_, fun z => ?_⟩
    · rw [List.map_append, List.nodup_append]
      refine ⟨nd, by simp, fun a ha b hb e => ?_⟩
      simp at hb
      subst hb
      exact h (e ▸ ha)
    · rw [lk_append]
      by_cases hz : z = x
      · subst hz; rw [lk_none h]; simp [lk]
      · have hz' : ¬ x = z := fun q => hz q.symm
        cases lk l z <;> simp [lk, hz, hz']
end U
namespace U
open PySem PySem.Spec PyProof.Rows L2
section
variable {J : It} {n : Nat} {G : Hp → Prop} {Y : Nat → Hp → V → Hp → Prop}
/-- a dict comprehension over a walk -/
theorem dc_it (w : Walk J n G Y) {g : TG} {tt : TT} {tk tv : TE} {vs : List Nat} {σ : L2.St} {H1 : Hp} {D : Addr} {Qd : Hp → Prop} (Pv : Nat → Hp → Prop) (h0 : Pv 0 (upd H1 D (.dK []))) (hG : ∀ i H, i ≤ n → Pv i H → G H)
    (hs : ∀ i x H H', i < n → Pv i H → Y i H x H' → g x (wipe σ vs) H' fun σ2 H2 => wipe σ2 vs = wipe σ vs ∧ tt σ2 H2 fun b H3 =>
      if b = true then tk σ2 H3 fun y H4 => tv σ2 H4 fun z H5 => ∃ kvs k, y = kV k ∧ H5 D = some (.dK kvs) ∧ kvs.length < sizeLine ∧ Pv (i + 1) (upd H5 D (.dK (putK kvs k z))) else Pv (i + 1) H3) (hd : ∀ H, Pv n H → Qd H) :
    ∃ W : Nat → Nat → Hp → Prop, (∃ m, W 0 m (upd H1 D (.dK []))) ∧ ∀ i m H, W i m H →
      (J.stop i H ∧ Qd H) ∨ (J.go i H ∧ ∃ Nx : Hp → Prop, (∀ H', Nx H' → ∃ m', m' < m ∧ W (i + 1) m' H') ∧ ∀ x H', J.yld i H x H' → g x (wipe σ vs) H' fun σ2 H2 => wipe σ2 vs = wipe σ vs ∧ tt σ2 H2 fun b H3 =>
        if b = true then tk σ2 H3 fun y H4 => tv σ2 H4 fun z H5 => ∃ kvs k, y = kV k ∧ H5 D = some (.dK kvs) ∧ kvs.length < sizeLine ∧ Nx (upd H5 D (.dK (putK kvs k z))) else Nx H3) := by
  refine ⟨fun i m H => m = n - i ∧ i ≤ n ∧ Pv i H, ⟨n, by simp, Nat.zero_le _, h0⟩, ?_⟩
  rintro i m H ⟨rfl, hi, p⟩
  have q := hG i H hi p
  by_cases hlt : i < n
  · exact .inr ⟨w.goes i H hlt q, Pv (i + 1), fun H' p' => ⟨n - (i + 1), by omega, rfl, hlt, p'⟩, fun x H' y => hs i x H H' hlt p (w.yields i H x H' hlt q y)⟩
  · have e : i = n := by omega
    subst e
    exact .inl ⟨w.stops H q, hd H p⟩
end
/-- what a comprehension over pairs makes -/
def madeD (c : Int → Int → Bool) (kf : Int → Int → Int) (vf : Int → Int → V) (l : List (Int × Int)) : List (Key × V) := (l.filter fun p => c p.1 p.2).map fun p => (Sum.inl (kf p.1 p.2), vf p.1 p.2)
theorem take_more {α : Type} {l : List α} {i : Nat} {x : α} (h : l[i]? = some x) : l.take (i + 1) = l.take i ++ [x] := by
  rw [List.take_add_one, h]; rfl
theorem valV_none {kvs : List (Key × V)} {k : Key} (h : k ∉ kvs.map (·.1)) : valV kvs k = none := by
  unfold valV
  rw [List.find?_eq_none.mpr]
  · rfl
  · intro p hp
    simp only [decide_eq_true_eq]
    exact fun e => h (List.mem_map.mpr ⟨p, hp, e⟩)
theorem madeD_step {c : Int → Int → Bool} {kf : Int → Int → Int} {vf : Int → Int → V} {l : List (Int × Int)} {i : Nat} {x y : Int} (h : l[i]? = some (x, y)) (nd : ((madeD c kf vf l).map (·.1)).Nodup) (hc : c x y = true) :
    putK (madeD c kf vf (l.take i)) (Sum.inl (kf x y)) (vf x y) = madeD c kf vf (l.take (i + 1)) := by
  have e : madeD c kf vf (l.take (i + 1)) = madeD c kf vf (l.take i) ++ [(Sum.inl (kf x y), vf x y)] := by
    rw [take_more h]
    unfold madeD
    rw [List.filter_append, List.map_append]
    simp [hc]
  have e2 : madeD c kf vf l = madeD c kf vf (l.take (i + 1)) ++ madeD c kf vf (l.drop (i + 1)) := by
    unfold madeD
    rw [← List.map_append, ← List.filter_append, List.take_append_drop]
  rw [e2, e, List.map_append, List.map_append] at nd
  have nd1 := (List.nodup_append.mp nd).1
  have nin : (Sum.inl (kf x y) : Key) ∉ (madeD c kf vf (l.take i)).map (·.1) := by
    intro hm
    exact (List.nodup_append.mp nd1).2.2 _ hm _ (by simp) rfl
  rw [putK_new _ (valV_none nin), e]
theorem madeD_skip {c : Int → Int → Bool} {kf : Int → Int → Int} {vf : Int → Int → V} {l : List (Int × Int)} {i : Nat} {x y : Int} (h : l[i]? = some (x, y)) (hc : c x y = false) :
    madeD c kf vf (l.take (i + 1)) = madeD c kf vf (l.take i) := by
  rw [take_more h]
  unfold madeD
  rw [List.filter_append, List.map_append]
  simp [hc]
theorem madeD_len (c : Int → Int → Bool) (kf : Int → Int → Int) (vf : Int → Int → V) (l : List (Int × Int)) (i : Nat) : (madeD c kf vf (l.take i)).length ≤ l.length := by
  unfold madeD
  rw [List.length_map]
  exact Nat.le_trans (List.length_filter_le _ _) (by rw [List.length_take]; omega)
/-- {k: v for x, y in d.items() if ..}, the tests and parts reading alone -/
theorem dc_items {K : PySem.W.Frag} {d : Addr} {l : List (Int × Int)} {te : TE} {i j : Nat} {tt : TT} {tk tv : TE} {vs : List Nat} {σ : L2.St} {H : Hp} {Q : VK} (c : Int → Int → Bool) (kf : Int → Int → Int) (vf : Int → Int → V)
    (hd : H d = some (.dK (kvI l))) (hte : ∀ H' (R : VK), R (.ref d) H' → Off d H H' → te σ H' R)
    (hw : ∀ a b, wipe (((wipe σ vs).set i a).set j b) vs = wipe σ vs)
    (hb : ∀ x y, (x, y) ∈ l → ∀ H1, Off d H H1 → (∀ R : Bool → Hp → Prop, R (c x y) H1 → tt (((wipe σ vs).set i (some (.int x))).set j (some (.int y))) H1 R) ∧
      (c x y = true → (∀ R : VK, R (.int (kf x y)) H1 → tk (((wipe σ vs).set i (some (.int x))).set j (some (.int y))) H1 R) ∧ ∀ R : VK, R (vf x y) H1 → tv (((wipe σ vs).set i (some (.int x))).set j (some (.int y))) H1 R))
    (nd : ((madeD c kf vf l).map (·.1)).Nodup) (hz : l.length < sizeLine)
    (hq : ∀ D H', H D = none → H' D = some (.dK (madeD c kf vf l)) → L2.Same H H' → Q (.ref D) H') :
    tLockE (tDc (iItems te) (gTup K 2 (gCons (gName i) (gCons (gName j) gNil))) tt tk tv vs) σ H Q := by
  refine ⟨d, _, hd, trivial, fun od => ?_⟩
  refine hte _ _ ⟨d, od, kvI l, rfl, upd_same, fun D hD => ?_⟩ Off.lock
  have hDd : D ≠ d := fun e => by rw [e, upd_same] at hD; cases hD
  have hD0 : H D = none := by rw [upd_ne hDd] at hD; exact hD
  refine dc_it walk_items (fun k H' => H' d = some (.frz od (.dK (kvI l))) ∧ Off d H H' ∧ H' D = some (.dK (madeD c kf vf (l.take k)))) ⟨?_, Off.lock.mut hD0, upd_same⟩ (fun k H' _ p => p.1) ?_ ?_
  · rw [upd_ne hDd.symm]; exact upd_same
  · rintro k v H' H'' hk ⟨p1, p2, p3⟩ ⟨T, a, b, rfl, hT, rfl, e1, e2⟩
    rw [kvI_length] at hk
    obtain ⟨⟨x, y⟩, exy⟩ : ∃ p, l[k]? = some p := ⟨_, List.getElem?_eq_getElem hk⟩
    have ek : (kvI l)[k]? = some (Sum.inl x, V.int y) := by unfold kvI; rw [List.getElem?_map, exy]; rfl
    dsimp only at e1 e2
    rw [ek] at e1 e2
    cases e1; cases e2
    have nTd : d ≠ T := ne_of_none p1 hT
    have nTD : D ≠ T := ne_of_none p3 hT
    refine ⟨T, [.int x, .int y], rfl, SqT.of upd_same, rfl, .int x, [.int y], rfl, .int y, [], rfl, rfl, ?_⟩
    refine ⟨hw _ _, ?_⟩
    have o2 : Off d H (upd H' T (.tup [.int x, .int y])) := p2.tr (Off.new hT)
    obtain ⟨b1, b2⟩ := hb x y (List.mem_of_getElem? exy) _ o2
    refine b1 _ ?_
    have d3 : (upd H' T (.tup [.int x, .int y])) d = some (.frz od (.dK (kvI l))) := by rw [upd_ne nTd]; exact p1
    have D3 : (upd H' T (.tup [.int x, .int y])) D = some (.dK (madeD c kf vf (l.take k))) := by rw [upd_ne nTD]; exact p3
    cases hc : c x y with
    | true =>
      refine iteT ?_
      obtain ⟨b3, b4⟩ := b2 hc
      refine b3 _ (b4 _ ⟨_, Sum.inl (kf x y), rfl, D3, Nat.lt_of_le_of_lt (madeD_len ..) hz, ?_⟩)
      refine ⟨?_, o2.mut hD0, ?_⟩
      · rw [upd_ne hDd.symm]; exact d3
      · rw [upd_same, madeD_step exy nd hc]
    | false =>
      refine iteF ⟨d3, o2, ?_⟩
      rw [madeD_skip exy hc]
      exact D3
  · rintro H' ⟨p1, p2, p3⟩
    rw [kvI_length, List.take_length] at p3
    refine ⟨p1, hq D _ hD0 ?_ (p2.back hd)⟩
    rw [upd_ne hDd]
    exact p3
/-- {k: v for x in range(lo, ..) if ..} -/
def madeR (c : Int → Bool) (kf : Int → Int) (vf : Int → V) (n : Nat) : List (Key × V) := ((List.range n).filter fun (i : Nat) => c (i : Int)).map fun (i : Nat) => ((Sum.inl (kf (i : Int)) : Key), vf (i : Int))
theorem madeR_succ (c : Int → Bool) (kf : Int → Int) (vf : Int → V) (n : Nat) : madeR c kf vf (n + 1) = madeR c kf vf n ++ (if c (n : Int) = true then [((Sum.inl (kf (n : Int)) : Key), vf (n : Int))] else []) := by
  unfold madeR
  rw [List.range_succ, List.filter_append, List.map_append]
  by_cases h : c (n : Int) = true
  · simp [h]
  · have h' : c (n : Int) = false := by simpa using h
    simp [h']
theorem madeR_len (c : Int → Bool) (kf : Int → Int) (vf : Int → V) (n : Nat) : (madeR c kf vf n).length ≤ n := by
  unfold madeR
  rw [List.length_map]
  exact Nat.le_trans (List.length_filter_le _ _) (by simp)
theorem madeR_keys {c : Int → Bool} {vf : Int → V} {n k : Nat} (h : (Sum.inl (k : Int) : Key) ∈ (madeR c (fun x => x) vf n).map (·.1)) : k < n := by
  unfold madeR at h
  rw [List.map_map] at h
  obtain ⟨i, hi, e⟩ := List.mem_map.mp h
  have h1 := (List.mem_filter.mp hi).1
  rw [List.mem_range] at h1
  have : (i : Int) = (k : Int) := Sum.inl.inj e
  omega
theorem dc_range {wi : TI} {i : Nat} {tt : TT} {tk tv : TE} {vs : List Nat} {σ : L2.St} {H0 H : Hp} {Q : VK} {n : Nat} (c : Int → Bool) (vf : Int → V) (hwi : ∀ R : It → Hp → Prop, R (Itr 0 n) H → wi σ H0 R)
    (hw : ∀ a, wipe ((wipe σ vs).set i a) vs = wipe σ vs)
    (hb : ∀ k : Nat, k < n → ∀ H1, L2.Same H H1 → (∀ R : Bool → Hp → Prop, R (c (k : Int)) H1 → tt ((wipe σ vs).set i (some (.int (0 + (k : Nat))))) H1 R) ∧
      (c (k : Int) = true → (∀ R : VK, R (.int (k : Int)) H1 → tk ((wipe σ vs).set i (some (.int (0 + (k : Nat))))) H1 R) ∧ ∀ R : VK, R (vf (k : Int)) H1 → tv ((wipe σ vs).set i (some (.int (0 + (k : Nat))))) H1 R))
    (hz : n < sizeLine) (hq : ∀ D H', H D = none → H' D = some (.dK (madeR c (fun x => x) vf n)) → L2.Same H H' → Q (.ref D) H') :
    tDc wi (gName i) tt tk tv vs σ H0 Q := by
  refine hwi _ ?_
  intro D hD
  refine dc_it walk_range (fun k H' => L2.Same H H' ∧ H' D = some (.dK (madeR c (fun x => x) vf k))) ⟨Same.new hD, upd_same⟩ (fun _ _ _ _ => trivial) ?_ ?_
  · rintro k v H' H'' hk ⟨p1, p2⟩ ⟨rfl, rfl⟩
    refine ⟨hw _, ?_⟩
    obtain ⟨b1, b2⟩ := hb k hk _ p1
    refine b1 _ ?_
    cases hc : c (k : Int) with
    | true =>
      refine iteT ?_
      obtain ⟨b3, b4⟩ := b2 hc
      refine b3 _ (b4 _ ⟨_, Sum.inl (k : Int), rfl, p2, Nat.lt_of_le_of_lt (madeR_len ..) (Nat.lt_trans hk hz), ?_, ?_⟩)
      · intro b o e
        rw [upd_ne (ne_of_none e hD)]
        exact p1 b o e
      · rw [upd_same, putK_new _ (valV_none fun z => Nat.lt_irrefl _ (madeR_keys z)), madeR_succ, if_pos hc]
    | false =>
      refine iteF ⟨p1, ?_⟩
      rw [madeR_succ, hc, p2]
      simp
  · rintro H' ⟨p1, p2⟩
    exact hq D _ hD p2 p1
end U
namespace U
open PySem PySem.Spec PyProof.Rows L2
section
variable {X : Cx}
theorem sw_dict {kx vx : Expr} {gs : List Comprehension} {scope : Scope} {pos py : Pos} {y : Str} {l : Nat} {env : Env} (hk : env.scope.kind = .function) (hy : env.scope.names.lookup y = some .local) (hl : (py.line == pos.line) = true)
    (ha : (scope.names.any fun (n, k) => n == y && (k == .local || k == .cell)) = false) : swapsWith (.DictComp kx vx gs scope pos) (some (.Name y py)) l env = pure true := by
  have ky : env.kindOf y = some .local := hy
  have hb : env.blockKind = .function := by unfold Env.blockKind; rw [hk]; rfl
  unfold swapsWith
  simp only [hb, ky, ha, Expr.pos, hl]
  rfl
/-- name = {..} on one line, the name a local -/
theorem ps_setDc {i : Nat} {y : Str} {py : Pos} {kx vx tg iter : Expr} {ifs : List Expr} {scope : Scope} {own : List (Str × Nat)} {pos spos : Pos} {wi : TI} {g : TG} {tt : TT} {tk tv : TE} (hc : X.calm = true) (hN : X.N.Nodup) (hy : X.N[i]? = some y) (hyl : X.env.scope.names.lookup y = some .local)
    (hsw : swapsWith (.DictComp kx vx [⟨tg, iter, ifs, 0⟩] scope pos) (some (.Name y py)) spos.line X.env = pure true) (hi : PI X tg iter wi) (ok : BlkOk X.N X.env.scope scope own)
    (hg : ∀ (s : Shared) (H : Hp) (C : Addr) (cl : List (Str × Addr)) (fp : List Addr), PG (X.blk s H scope (compEnvC scope cl C X.env) fp) tg g) (ht : ∀ (s : Shared) (H : Hp) (C : Addr) (cl : List (Str × Addr)) (fp : List Addr), PTs (X.blk s H scope (compEnvC scope cl C X.env) fp) ifs tt)
    (hk : ∀ (s : Shared) (H : Hp) (C : Addr) (cl : List (Str × Addr)) (fp : List Addr), PE (X.blk s H scope (compEnvC scope cl C X.env) fp) kx tk)
    (he : ∀ (s : Shared) (H : Hp) (C : Addr) (cl : List (Str × Addr)) (fp : List Addr), PE (X.blk s H scope (compEnvC scope cl C X.env) fp) vx tv) (hs : ∀ x, foldedSetIterable iter X.env x = pure x := by intro _; rfl) :
    PS X (.Assign [.Name y py] (.DictComp kx vx [⟨tg, iter, ifs, 0⟩] scope pos) spos) (tAsg (tDc wi g tt tk tv (own.map (·.2))) (gName i)) := by
  refine ⟨fun pins s σ H D I h => ?_⟩
  rw [exec_Assign_Name_used _ _ _ _ hsw]
  refine wpAny_bind (wpAny_standAt (wpAny_bind ?_))
  show wpAny _ X.A (do let _ ← comprehension (.DictComp kx vx [⟨tg, iter, ifs, 0⟩] scope pos) scope X.env (firstIterPos [⟨tg, iter, ifs, 0⟩] pos) newDict false (eval iter X.env) (some (assign (.Name y py) X.env))) _ _ s
  have h : tDc wi g tt tk tv (own.map (·.2)) σ H (fun x H1 => gName i x σ H1 D.nx) := h
  refine wpAny_bind (thn (dc_core (Qf := fun _ s' => SP X pins D .next s') hc hN I hi ok hg ht hk he hs h fun L C s' m H' I' q hn f => ?_) fun _ s' hq => wpAny_pure (wpAny_pure hq))
  show wpAny _ _ (assign (.Name y py) X.env (.ref L)) _ _ _
  refine wpAny_assign_Name (store_ok2 (v := V.ref L) I' hN hy (.inl hyl) rfl (fun s2 I2 ⟨a, sb, ha⟩ => ?_) (.inr hyl))
  obtain ⟨f0, f1, f2, f3, f4, f5⟩ := f
  have haC : C ≠ a := by
    rcases ha with z | z
    · rw [z]; exact f1
    · exact fun e => f4 y a z e.symm
  refine ⟨m, hn.sameBut sb haC, fun h3 sb3 => ?_⟩
  exact ⟨_, H', I2.turned (t' := s2.toks) (fun b o hb e => (sb3.2 b hb).trans e) f0 f1 f3 f4 f5, q⟩
end
/-- x = e under the lock -/
theorem lock_asg {t : TE} {D : Ends} {σ : L2.St} {H : Hp} {i : Nat} (h : tLockE t σ H (fun v H' => D.nx (σ.set i (some v)) H')) : tLock (tAsg t (gName i)) D σ H := h
/-- [v for x, y in d.items() if ..], the tests and parts reading alone -/
def madeL (c : Int → Int → Bool) (vf : Int → Int → V) (l : List (Int × Int)) : List V := (l.filter fun p => c p.1 p.2).map fun p => vf p.1 p.2
theorem madeL_step {c : Int → Int → Bool} {vf : Int → Int → V} {l : List (Int × Int)} {i : Nat} {x y : Int} (h : l[i]? = some (x, y)) :
    madeL c vf (l.take (i + 1)) = madeL c vf (l.take i) ++ (if c x y = true then [vf x y] else []) := by
  rw [take_more h]
  unfold madeL
  rw [List.filter_append, List.map_append]
  by_cases hc : c x y = true
  · simp [hc]
  · have hc' : c x y = false := by simpa using hc
    simp [hc']
theorem madeL_len (c : Int → Int → Bool) (vf : Int → Int → V) (l : List (Int × Int)) (i : Nat) : (madeL c vf (l.take i)).length ≤ l.length := by
  unfold madeL
  rw [List.length_map]
  exact Nat.le_trans (List.length_filter_le _ _) (by rw [List.length_take]; omega)
end U
/-! ### own errors over any built-in error -/
namespace PySem
namespace GEX
open PySem.W PySem.Calls PyProof.Rows PySem.HandSPX Builtin Builtin.ObjectAttr
section
variable {prog : Program} {w : World} {A : Around} {E : Value → Shared → Prop} {R : Result → Shared → Prop} {hp : Heap} {gs : Array GenState} {dr : Drawn} {tn : Nat} {os : OsState}
/-- what is asked of the class's chain -/
structure Mro (m : List Value) : Prop where
  ob : m.contains (.type "object") = true
  ne : m.isEmpty = false
  ps : ∀ self : Value, refuseLoop self "__setattr__" m = pure ()
theorem mro_of {bmB bm : List Value} {B : String} (SF : StoreFacts B bmB "object.__setattr__" "object") (h : excTail bmB bm = true) (C : Addr) : Mro (.ref C :: bm) := by
  have h' : excTail bmB (.ref C :: bm) = true := h
  exact ⟨(excTail_contains "object" _ h').trans SF.hasOwner, rfl, fun self => excTail_pass self (SF.passes self) _ h'⟩
theorem osa_first {K : Frag} {nm : Str} {tk : Tok} {v : Value} {x C : Addr} {fv : Array Value} {cd : ClassData} (X : K.In hp) (hx : hp.get? x = some { cls := .ref C, data := .fields fv }) (hcd : clsIn K C = some cd) (hm : Mro cd.mro) (hh : cd.hasDict = true) (ha : findIn K (.ref C) nm = some none)
    (hq : ∀ h' tk' dx, (∀ b o, b ≠ x → hp.get? b = some o → h'.get? b = some o) → hp.objs.size ≤ dx → dx ≠ x → h'.get? x = some { cls := .ref C, dict := some dx, data := .fields fv } → h'.Ns1 dx (fun y => if y = nm then some v else none) → R (.ok (.ret .none)) ⟨h', gs, dr, tk', os⟩) :
    codeAny (model prog w) A (.call (.builtin "object.__setattr__") ⟨[.ref x, .str nm tk, v], []⟩) R ⟨hp, gs, dr, tn, os⟩ := by
  have I : InstAt hp x { cls := .ref C, data := .fields fv } C none := ⟨hx, rfl, rfl, trivial⟩
  have hxs : x ≠ hp.objs.size := Nat.ne_of_lt (Heap.lt_size hx)
  have S0 := F.store_object
  have l1 : Looks (model prog w) hp (isInstance (.ref x) (.type "object")) true := I.type.andThen (looks_mroIn X (by unfold mroIn; rw [hcd, Option.bind_some, if_neg (by rw [hm.ne]; decide), hm.ob]))
  refine codeAny_call_builtin S0.slot.plain S0.entry ?_
  refine @check_slot (model prog w) _ _ ⟨hp, gs, dr, tn, os⟩ "object.__setattr__" "object" "__setattr__" (.ref x) [.str nm tk, v] [] _ S0.kind S0.split l1 (S0.args (.ref x) (.str nm tk) v) ?_
  have l2 : Looks (model prog w) hp (mroOf (.ref C)) cd.mro := (looks_clsIn X hcd).andThen .now
  have l3 : Looks (model prog w) hp (storeTaker? none) none := .now
  have l4 : Looks (model prog w) hp (classData C) cd := looks_clsIn X hcd
  rw [osa_eq, refuse_eq]
  refine wpAny_bind (wpAny_bind (I.type.at (wpAny_bind (l2.at ?_)))); rw [hm.ps]
  refine wpAny_pure (wpAny_bind (I.type.at (wpAny_bind ((looks_findIn X ha).at (wpAny_bind (l3.at ?_))))))
  show wpAny _ _ (storeInOwnDict (.ref x) (.ref C) (.str nm tk) nm v false) _ _ _
  obtain ⟨c1, c2, c3, c4, c5, c6, c7, c8, c9, c10, c11⟩ := cd
  have hh' : c6 = true := hh
  subst hh'
  unfold storeInOwnDict ownDictForStores
  repeat (first | with_reducible refine HandSPX.store_in_new ?_ ?_ | with_reducible refine wpAny_loadPart_at hx ?_ | with_reducible refine l4.at ?_ | wp_step)
  · refine ⟨_, #[], _, (Heap.get?_update_ne _ _ _ _ hxs.symm).trans (Heap.get?_push_at rfl rfl), rfl, fun e he => ?_, fun _ => rfl⟩
    simp at he
  · intro h' tk' hn' hs
    have hx1 : (hp.push { cls := .type "dict", data := .dict #[] }).get? x = some { cls := .ref C, data := .fields fv } := Heap.get?_push_of_some _ hx
    exact hq h' tk' hp.objs.size (fun b o hb ho => (hs.2 b (Nat.ne_of_lt (Heap.lt_size ho))).trans ((Heap.get?_update_ne _ _ _ _ hb).trans (Heap.get?_push_of_some _ ho))) (Nat.le_refl _) hxs.symm ((hs.2 x hxs).trans (Heap.get?_update_self _ hx1 rfl)) hn'
theorem osa_more {K : Frag} {nm : Str} {tk : Tok} {v : Value} {x C dx : Addr} {fv : Array Value} {cd : ClassData} {m0 : Str → Option Value} {nl : List Str} (X : K.In hp) (hx : hp.get? x = some { cls := .ref C, dict := some dx, data := .fields fv }) (hns : hp.Ns1 dx m0) (hw : Within m0 nl) (hz : nl.length ≤ 1000) (hcd : clsIn K C = some cd) (hm : Mro cd.mro) (hh : cd.hasDict = true) (ha : findIn K (.ref C) nm = some none)
    (hq : ∀ h' tk', (∀ b o, b ≠ dx → hp.get? b = some o → h'.get? b = some o) → h'.Ns1 dx (fun y => if y = nm then some v else m0 y) → R (.ok (.ret .none)) ⟨h', gs, dr, tk', os⟩) :
    codeAny (model prog w) A (.call (.builtin "object.__setattr__") ⟨[.ref x, .str nm tk, v], []⟩) R ⟨hp, gs, dr, tn, os⟩ := by
  obtain ⟨oD, _, _, hoD, _, _⟩ := hns.count hw
  have I : InstAt hp x { cls := .ref C, dict := some dx, data := .fields fv } C (some oD) := ⟨hx, rfl, rfl, hoD⟩
  have S0 := F.store_object
  have l1 : Looks (model prog w) hp (isInstance (.ref x) (.type "object")) true := I.type.andThen (looks_mroIn X (by unfold mroIn; rw [hcd, Option.bind_some, if_neg (by rw [hm.ne]; decide), hm.ob]))
  refine codeAny_call_builtin S0.slot.plain S0.entry ?_
  refine @check_slot (model prog w) _ _ ⟨hp, gs, dr, tn, os⟩ "object.__setattr__" "object" "__setattr__" (.ref x) [.str nm tk, v] [] _ S0.kind S0.split l1 (S0.args (.ref x) (.str nm tk) v) ?_
  have l2 : Looks (model prog w) hp (mroOf (.ref C)) cd.mro := (looks_clsIn X hcd).andThen .now
  have l3 : Looks (model prog w) hp (storeTaker? none) none := .now
  have l4 : Looks (model prog w) hp (classData C) cd := looks_clsIn X hcd
  rw [osa_eq, refuse_eq]
  refine wpAny_bind (wpAny_bind (I.type.at (wpAny_bind (l2.at ?_)))); rw [hm.ps]
  refine wpAny_pure (wpAny_bind (I.type.at (wpAny_bind ((looks_findIn X ha).at (wpAny_bind (l3.at ?_))))))
  show wpAny _ _ (storeInOwnDict (.ref x) (.ref C) (.str nm tk) nm v false) _ _ _
  obtain ⟨c1, c2, c3, c4, c5, c6, c7, c8, c9, c10, c11⟩ := cd
  have hh' : c6 = true := hh
  subst hh'
  unfold storeInOwnDict ownDictForStores
  repeat (first | with_reducible refine OEX.store_in_old hns hw hz ?_ | with_reducible refine wpAny_loadPart_at hx ?_ | with_reducible refine l4.at ?_ | wp_step)
  intro h' tk' hn' hs
  exact hq h' tk' (fun b o hb ho => (hs.2 b hb).trans ho) hn'
end
end GEX
end PySem
namespace L2
open PySem PySem.Spec PyProof.Rows PySem.W
/-- what the written part says of an own error class -/
structure OexG (K : PySem.W.Frag) (C : Addr) : Prop where
  cls : ∃ B newId initId bmB nm q N bs bm sn sub ab col dd k0 k1 k2 k3 k5, PySem.StoreFacts B bmB "object.__setattr__" "object" ∧ ExcBaseFacts B newId initId bmB ∧ K.lookup C = some (excClassObj nm q C N bs bm true sn sub ab col dd k0 k1 k2 k3 k5 newId) ∧ PySem.W.excTail bmB bm = true
  sa : PySem.W.findIn K (.ref C) "__setattr__" = some (some (.builtin "object.__setattr__"))
  exC : PySem.W.subIn K (.ref C) (.type "BaseException") = some true
  tyC : PySem.W.typeIn K (.ref C) = some (.type "type")
  kC : PySem.W.keepIn K (.ref C) = true
section
variable {X : Cx} {pins : List (Addr × Obj)} {σ : St} {H : Hp} {s : Shared} {a C dx : Addr} {f : Str} {y : V} {u : Value} {fs : List (Str × V)} {Q : Unit → Shared → Prop} {E : Value → Shared → Prop} {A : Around}
theorem OexG.look {K : PySem.W.Frag} {C : Addr} (T : OexG K C) : ∃ cd, PySem.W.clsIn K C = some cd ∧ PySem.GEX.Mro cd.mro ∧ cd.hasDict = true := by
  obtain ⟨B, nI, iI, bmB, nm, q, N, bs, bm, sn, sub, ab, col, dd, k0, k1, k2, k3, k5, SF, _, hC, hb⟩ := T.cls
  refine ⟨{ name := nm, bases := bs, mro := .ref C :: bm, ns := N, qualname := q, hasDict := true, slotNames := sn, subclasses := sub, abstract := ab, collection := col, hasDel := false }, ?_, PySem.GEX.mro_of SF hb C, rfl⟩
  unfold PySem.W.clsIn
  rw [hC] <;> rfl
/-- self.f = y, none there as yet -/
theorem ostG_new (T : OexG X.K C) (I : Inv X pins σ H s) (e : H a = some (exo a C none)) (hno : PySem.W.findIn X.K (.ref C) f = some none) (ry : RelV y u)
    (k : ∀ dx s', H dx = none → dx ≠ a → Inv X pins σ (upd (upd H dx (exd dx [(f, y)])) a (exo a C (some dx))) s' → Q () s') : wpAny (model X.prog X.w) A (setAttr (.ref a) f u) Q E s := by
  obtain ⟨cd, hcd, hmr, hdc⟩ := T.look
  obtain ⟨t1, ho⟩ := exo_at I.hok e
  obtain ⟨h0, gs, dr, tn, os⟩ := s
  refine PySem.W.set_plain I.kIn (ox := ⟨.ref C, none, .fields #[.ref t1, .none, .none, .none, .bool false, .none], #[]⟩) (od := none) ⟨ho, rfl, rfl, trivial⟩ T.sa ?_
  refine PySem.GEX.osa_first I.kIn ho hcd hmr hdc hno fun h' tk' dx kp dn dne hx hn => ?_
  have dfree : H dx = none := I.hok.fresh dn
  have low : ∀ {b : Addr} {o : Obj}, h0.get? b = some o → b ≠ dx := fun q => Nat.ne_of_lt (Nat.lt_of_lt_of_le (Heap.lt_size q) dn)
  have apart : ∀ {b : Addr}, H b = none → b ≠ a := fun {b} n z => by subst z; rw [e] at n; cases n
  have U1 : Un X.fs [] H (upd (upd H dx (exd dx [(f, y)])) a (exo a C (some dx))) h0 h' := by
    refine ⟨fun b o q n _ _ => kp b o (apart n) q, fun b o q n _ _ => ⟨o.slots, kp b o (apart n) q⟩, fun b o q n _ => ?_, fun b o q _ => ?_, fun b xs q => ?_, fun b o v q => ?_, fun b ps q => ⟨#[], ?_⟩⟩
    · rw [upd_ne (apart n), upd_ne (low q)]; exact n
    · by_cases hb : b = a
      · subst hb; exact ⟨_, hx⟩
      · exact ⟨o, kp b o hb q⟩
    · rw [upd_ne (at_ne e q exo_tup), upd_ne (ne_of_none q dfree)]; exact q
    · rw [upd_ne (at_ne e q exo_frz), upd_ne (ne_of_none q dfree)]; exact q
    · rw [upd_ne (at_ne e q exo_tbl), upd_ne (ne_of_none q dfree), q]; simp
  refine k dx _ dfree dne (I.un (t' := tk') U1 fun b o q => ?_)
  by_cases hb : b = a
  · subst hb; rw [upd_same] at q; cases q
    exact exo_ok hx
  · rw [upd_ne hb] at q
    by_cases hd : b = dx
    · subst hd; rw [upd_same] at q; cases q
      exact exd_ok hn (relO_put (fs := []) ry fun _ => True.intro)
    · rw [upd_ne hd] at q
      refine (I.hok b o q).stay (fun c v hc z => kp c v ?_ z) (fun c hc => ?_) (fun c xs hc => ?_)
      · rcases hc with rfl | hc
        · exact hb
        · exact at_ne e hc exo_own
      · rw [upd_ne (at_ne e hc exo_own), upd_ne (ne_of_none hc dfree)]; exact hc
      · rw [upd_ne (at_ne e hc exo_tup), upd_ne (ne_of_none hc dfree)]; exact hc
theorem ostG_old (T : OexG X.K C) (I : Inv X pins σ H s) (e : H a = some (exo a C (some dx))) (ed : H dx = some (exd dx fs)) (hl : fs.length ≤ 900) (hno : PySem.W.findIn X.K (.ref C) f = some none) (ry : RelV y u)
    (k : ∀ s', Inv X pins σ (upd H dx (exd dx ((f, y) :: fs))) s' → Q () s') : wpAny (model X.prog X.w) A (setAttr (.ref a) f u) Q E s := by
  obtain ⟨cd, hcd, hmr, hdc⟩ := T.look
  obtain ⟨t1, ho⟩ := exo_at I.hok e
  obtain ⟨mA, hns, rel⟩ := exd_at I.hok ed
  have win := within_of rel
  obtain ⟨oD, _, _, hoD, _, _⟩ := hns.count win
  obtain ⟨h0, gs, dr, tn, os⟩ := s
  refine PySem.W.set_plain I.kIn (ox := ⟨.ref C, some dx, .fields #[.ref t1, .none, .none, .none, .bool false, .none], #[]⟩) (od := some oD) ⟨ho, rfl, rfl, hoD⟩ T.sa ?_
  refine PySem.GEX.osa_more I.kIn ho hns win (by rw [List.length_map]; omega) hcd hmr hdc hno fun h' tk' kp hn => ?_
  have there : ∃ o, h'.get? dx = some o := by
    obtain ⟨o, _, _, e', _⟩ := hn
    exact ⟨o, e'⟩
  exact k _ (I.write (t' := tk') (x := dx) (e := dx) (o := exd dx ((f, y) :: fs)) (by rw [ed]; exact True.intro) (.inl rfl) kp there (exd_ok hn (relO_put ry rel)))
end
/-- self.f = e, self an error being made -/
def tOstG (K : PySem.W.Frag) (f : Str) (to te : TE) : TS := fun D σ H => te σ H fun y H1 => to σ H1 fun x H2 => ∃ a C : Addr, x = .ref a ∧ OexG K C ∧ PySem.W.findIn K (.ref C) f = some none ∧
  ((H2 a = some (exo a C none) ∧ ∀ dx, H2 dx = none → dx ≠ a → D.nx σ (upd (upd H2 dx (exd dx [(f, y)])) a (exo a C (some dx)))) ∨
    ∃ (dx : Addr) (fs : List (Str × V)), H2 a = some (exo a C (some dx)) ∧ H2 dx = some (exd dx fs) ∧ fs.length ≤ 900 ∧ D.nx σ (upd H2 dx (exd dx ((f, y) :: fs))))
section
variable {X : Cx} {o e : Expr} {es : List Expr} {to te : TE} {ta : TA} {f : Str} {p p' pos : Pos}
theorem ps_ostG (ho : PE X o to) (he : PE X e te) (hs : swapsWith e (some (.Attribute o f p')) pos.line X.env = pure false := by rfl) : PS X (.Assign [.Attribute o f p'] e pos) (tOstG X.K f to te) := by
  refine ⟨fun pins s σ H D I h => plainObj_wpAny_Assign_Attribute (thn (he.run pins s σ H _ I h) fun v s1 ⟨y, H1, I1, r1, q1⟩ => thn (ho.run pins s1 σ H1 _ I1 q1) fun u s2 ⟨x, H2, I2, r2, a, C, ex, T, hno, q⟩ => ?_) hs⟩
  subst ex
  cases (show u = Value.ref a from r2)
  rcases q with ⟨ea, q⟩ | ⟨dx, fs, ea, ed, hl, q⟩
  · exact ostG_new T I2 ea hno r1 fun dx _ n ne J => ⟨σ, _, J, q dx n ne⟩
  · exact ostG_old T I2 ea ed hl hno r1 fun _ J => ⟨σ, _, J, q⟩
/-- C(e, ..) -/
theorem pmk_oexG {CX : CXT} {x : Str} {C fI : Addr} {k : Nat} {sp : Sp} (T : OexG X.K C) (iC : PySem.W.findIn X.K (.ref C) "__init__" = some (some (.ref fI))) (tI : PySem.W.typeIn X.K (.ref fI) = some (.type "function"))
    (F1 : FnR X.prog X.w X.K X.mg X.base CX k fI sp) (hr : Room (k + 1) X.A) (hx : Passes CX X (fun _ _ _ => False)) (hg : Gl X x) (hm : X.mg x = some (.ref C)) (ha : PA X (e :: es) ta)
    (hdb : (x == ("__debug__" : Str)) = false := by decide) (he : starEach (e :: es) X.env = (false, eval e X.env) :: starEach es X.env := by rfl) (hpl : (backTo pos (starEach es X.env)).any (·.1) = false := by rfl) :
    PMk X (.Call (.Name x p) (e :: es) [] pos) (tMkO C sp [] ta) := by
  intro pins s σ H Q I h
  obtain ⟨B, nI, iI, bmB, nm, q, N, bs, bm, sn, sub, ab, col, dd, k0, k1, k2, k3, k5, _, BF, hC, hbm⟩ := T.cls
  refine wpAny_Call_Name_kw (ld_glob I hg hm ?_ hdb)
  refine PySem.W.callWith_K (h₀ := X.base) I.ok.mod.kin T.kC (thn (ha.run pos pins s σ H _ I h) fun us s1 ⟨vs, H1, I1, r1, hz, q1⟩ => ⟨I1.kIn, ?_⟩) he hpl
  show wpAny _ _ (call (.ref C) us) _ _ _
  obtain ⟨h0, gs, dr, tn, os⟩ := s1
  have up : h0.objs.size ≤ h0.objs.size + 1 := Nat.le_succ _
  have hq := q1 (h0.objs.size + 1) (I1.hok.fresh up)
  rw [List.append_nil] at hq
  have kk : ∀ b o, h0.get? b = some o → ((h0.push (PySem.W.kdv_tup us)).push (PySem.HandSPX.excO C h0.objs.size)).get? b = some o := fun b o z => Heap.get?_push_of_some _ (Heap.get?_push_of_some _ z)
  have there : ((h0.push (PySem.W.kdv_tup us)).push (PySem.HandSPX.excO C h0.objs.size)).get? (h0.objs.size + 1) = some (PySem.HandSPX.excO C h0.objs.size) := by heap_get
  have I2 : Inv X pins σ (upd H1 (h0.objs.size + 1) (exo (h0.objs.size + 1) C none)) ⟨(h0.push (PySem.W.kdv_tup us)).push (PySem.HandSPX.excO C h0.objs.size), gs, dr, tn, os⟩ := I1.laid (t' := tn) kk up (exo_ok there)
  have r2 : Vals (V.ref (h0.objs.size + 1) :: vs) (Value.ref (h0.objs.size + 1) :: us) := .cons rfl r1
  have hus : us.length ≤ sizeLine := by rw [← Paired.length r1, sizeLine_eq]; omega
  refine wpAny_call (PySem.HandSPX.call_own BF (fun Y => PySem.W.excTail_contains Y bm hbm) (I1.kIn _ _ hC) (PySem.W.looks_findIn I1.kIn iC) (fun self => PySem.W.bind_fn I1.kIn self tI) hus ?_)
  refine codeAny_mono (F1 _ X.stack _ _ (Value.ref (h0.objs.size + 1) :: us) _ _ (fun _ _ _ => False) (hr.make C us []) (I2.env0.make C us []) r2 hq) fun r s' hq' => ?_
  cases r with
  | error er => exact hx pins σ _ _ er s' I2 hq'
  | ok fl =>
    cases fl with
    | ret u =>
      obtain ⟨v, H2, os2, bare2, un2, hok2, rv, ev, d, fs, ea, ed, hd1, q2⟩ := hq'
      subst ev
      obtain ⟨h2, g2, d2, t2, os'⟩ := s'
      exact ⟨rv, mk_end (raises_own T.exC T.tyC) I1 up kk un2 hok2 os2 bare2 ea ed hd1 q2⟩
    | next => exact False.elim hq'
    | brk => exact False.elim hq'
    | cont => exact False.elim hq'
end
end L2
namespace U
open PySem PySem.Spec PyProof.Rows L2 StX
section
variable {P : Program} {w : World} {K : PySem.W.Frag} {mg : Str → Option Value} {base : Heap}
/-- a def that may raise -/
theorem FnAt.okX {x qual : Str} {st : Stmt} {f : Addr} {N ps : List Str} {k : Nat} {sp : Sp} (A : FnAt K x qual st f ps) (S : FnScope N ps (defScope st)) (len : ∀ vs H Q E, sp vs H Q E → vs.length = ps.length)
    (hbody : ∀ (cdv : Value) (A : Around) (outer : List Env) (s : Shared) (H : Hp) (vs : List V) (Q : VK) (E : XK), Room k (A.deeper (envOfC qual (defScope st) s.heap.objs.size f cdv)) → sp vs H Q E →
      ∃ t, PSs (cxOf (L2.CX P w) P w K mg base N qual (defScope st) f cdv A outer s H E) (defBody st) t ∧ t { nx := fun _ H' => Q .non H', rt := Q } (start N vs) H) : FnR P w K mg base (L2.CX P w) (k + 1) f sp := by
  obtain ⟨fd, F, B⟩ := A.ex
  have R := (F.okX (P := P) (w := w) (mg := mg) (base := base) S len hbody).raw B .nil
  exact R.imp fun vs H Q E h => by rw [List.append_nil]; exact h
end
section
variable {X : Cx} {CX : CXT} {pins : List (Addr × Obj)} {σ : L2.St} {H : Hp} {s : Shared} {a C dx p g f : Addr} {n k : Nat} {sp : Sp} {E : L2.St → XK} {v : V} {u : Value} {x : Str} {e ea eb : Expr} {es : List Expr} {ta tb : TE} {t : TA} {pp pos : Pos}
theorem run_RS {Q : VK} {us : List Value} {vs : List V} {E : XK} (F : FnR X.prog X.w X.K X.mg X.base CX k f sp) (hr : Room k X.A) (hx : PassesAt CX X σ E) (I : Inv X pins σ H s) (r : Vals vs us) (h : sp vs H Q E) :
    codeAny (model X.prog X.w) X.A (.call (.ref f) ⟨us, []⟩) (fun r s' => match r with | .ok (.ret v) => EP X pins σ Q v s' | .ok _ => False | .error e => X.xe e s') s := by
  refine codeAny_mono (F X.A X.stack s H us vs Q E hr I.env0 r h) fun z s' hq => ?_
  match z, hq with
  | .error er, hq => exact hx pins H s er s' I hq
  | .ok (.ret w), hq => exact I.after hq
  | .ok .next, hq => exact hq.elim
  | .ok .brk, hq => exact hq.elim
  | .ok .cont, hq => exact hq.elim
/-- x(e, ..), what it raises told by the slots -/
def tCallRS (sp : Sp) (E : L2.St → XK) (t : TA) : TE := fun σ H Q => t σ H fun vs H1 => sp vs H1 Q (E σ)
theorem pe_callRS (F : FnR X.prog X.w X.K X.mg X.base CX k f sp) (hr : Room k X.A) (hk : PySem.W.keepIn X.K (.ref f) = true) (hg : Gl X x) (hm : X.mg x = some (.ref f)) (hx : ∀ σ, PassesAt CX X σ (E σ)) (ha : PA X (e :: es) t) (hdb : (x == ("__debug__" : Str)) = false := by decide)
    (he : starEach (e :: es) X.env = (false, eval e X.env) :: starEach es X.env := by rfl) (hpl : (backTo pos (starEach es X.env)).any (·.1) = false := by rfl) : PE X (.Call (.Name x pp) (e :: es) [] pos) (tCallRS sp E t) := by
  refine ⟨fun pins s σ H Q I h => wpAny_Call_Name_kw (ld_glob I hg hm ?_ hdb)⟩
  refine PySem.W.callWith_K (h₀ := X.base) I.ok.mod.kin hk (thn (ha.run pos pins s σ H _ I h) fun us s1 ⟨vs, H1, I1, r, q⟩ => ⟨I1.kIn, wpAny_call (run_RS F hr (hx σ) I1 r q)⟩) he hpl
end
end U
namespace U
open PySem PySem.Spec PyProof.Rows L2 StX
section
variable {X : Cx} {CX : CXT} {e : Expr} {es : List Expr} {te : TE} {t : TA} {p apos cpos pos : Pos} {k i : Nat} {f : Addr} {sp : Sp} {x : Str}
/-- d.update(e), two dicts -/
def rUpdD : V → List V → Hp → VK → Prop := fun x vs H Q => ∃ a b ks ls, x = .ref a ∧ vs = [.ref b] ∧ a ≠ b ∧ H a = some (.dK ks) ∧ H b = some (.dK ls) ∧ ks.length + ls.length ≤ sizeLine ∧ Q .non (upd H a (.dK (mergeK ks ls)))
theorem mt_updD : MtR X "dict.update" rUpdD := by
  intro pins s σ H x vs v us Q I rx rv h
  obtain ⟨a, b, ks, ls, rfl, rfl, hab, ea, eb, hz, q⟩ := h
  cases (show v = Value.ref a from rx)
  obtain ⟨u, rfl, ru⟩ := rv.one
  cases (show u = Value.ref b from ru)
  obtain ⟨z1, ya, va, ra, da⟩ := (show ObjOk X.prog X.w H s.heap a (.dK ks) from I.hok a _ ea)
  obtain ⟨z2, yb, vb, rb, db⟩ := (show ObjOk X.prog X.w H s.heap b (.dK ls) from I.hok b _ eb)
  refine call_meetsIn PySem.F.slot_dict_update da.typeIs PySem.F.entry_dict_update (PySem.F.args_dict_update_2 _ _) (meets_dict_update (mixKind X.prog X.w) a b hab yb) ⟨va, vb, da, db, by rw [← ra.length, ← rb.length]; exact hz, fun h' d2 _ k2 => ?_⟩
  have there : ∃ o, h'.get? a = some o := by
    obtain ⟨o, _, _, e', _⟩ := id d2
    exact ⟨o, e'⟩
  refine ⟨.non, _, I.write (t' := s.toks) (x := a) (e := a) (o := .dK (mergeK ks ls)) (by rw [ea]; exact True.intro) (.inl rfl) (fun c o hc e => (k2.2 c hc).trans e) there ?_, rfl, q⟩
  exact ⟨Nat.le_trans (length_mergeK ls ks) hz, ya, _, rb.merge ra, d2⟩
/-- list(e.values()) -/
def tListVals (te : TE) : TE := fun σ H Q => te σ H fun x H1 => ∃ (d : Addr) (kvs : List (Key × V)), x = .ref d ∧ H1 d = some (.dK kvs) ∧ ∀ q, H1 q = none → Q (.ref q) (upd H1 q (.lst (kvs.map (·.2))))
theorem pe_listVals (hc : X.calm = true) (he : PE X e te) (hg : Gl X "list") (hm : X.mg "list" = none) (hv : bootBuiltins "list" = some (.type "list")) (hbase : attributeBase e "values" X.env (eval e X.env) = eval e X.env := by rfl) (hline : (apos.endLine == cpos.line) = true := by rfl)
    (hs : starEach [.Call (.Attribute e "values" apos) [] [] cpos] X.env = (false, eval (.Call (.Attribute e "values" apos) [] [] cpos) X.env) :: starEach [] X.env := by rfl) :
    PE X (.Call (.Name "list" p) [.Call (.Attribute e "values" apos) [] [] cpos] [] pos) (tListVals te) := by
  refine ⟨fun pins s σ H Q I hq => wpAny_Call_Name_kw (ld_blt I hg hm hv (PyProof.Rows.callWith_type1 ?_ hs rfl))⟩
  rw [hs]
  show wpAny _ _ (spliced ((false, eval (.Call (.Attribute e "values" apos) [] [] cpos) X.env) :: backTo pos (starEach [] X.env))) _ _ s
  refine Calls.spliced_cons (wpAny_Call_method (T := "dict") (id := "dict.values") hbase rfl hline F.plainAttrs_dict F.slot_dict_values F.type_dict_values (thn (he.run pins s σ H _ I hq) fun u s1 ⟨x, H1, I1, rx, d, kvs, ex, hd, q⟩ => ?_))
  subst ex
  cases (show u = Value.ref d from rx)
  obtain ⟨hz, hs0, vs, kv, hdo⟩ := I1.hok d _ hd
  obtain ⟨ep, hat⟩ := hdo.dictAt
  have lk : kvs.length = vs.length := Paired.length kv
  have I2 : Inv X pins σ H1 { s1 with heap := s1.heap.push { cls := .type "dict_values", data := .fields #[.ref d] } } := I1.kept (t' := s1.toks) fun b ob z => Heap.get?_push_of_some _ z
  refine ⟨hdo.typeIs, hdo.mapOf.noDict, ?_⟩
  show wpAny _ _ (callWith cpos (.builtin "dict.values") [.ref d] [] []) _ X.xe s1
  refine method_meetsIn F.slot_dict_values F.entry_dict_values rfl (PySem.evalArgs_none ⟨rfl, hdo.typeIs, F.args_dict_values_1 _, _, meets_dict_values (mixKind X.prog X.w) d hs0, ⟨vs, hdo⟩, Calls.spliced_nil ?_⟩)
  refine PySem.W.kdl_call (PySem.W.kdl_values (knd := mixKind X.prog X.w) (kvs := vs) (ep := ep)) (I1.ok.hd hc) ⟨⟨_, Heap.get?_push_size _ rfl, rfl, rfl⟩, hat.push _⟩ (by rw [← lk]; exact hz) fun h' tk acc c hk hS hacc => ?_
  refine ⟨.ref _, _, I2.laid (t' := tk) hk (Nat.le_refl _) (show ObjOk X.prog X.w _ _ _ (.lst (kvs.map (·.2))) from ⟨?_, acc.toList, c, ?_, ?_⟩), rfl, q _ (I2.hok.fresh (Nat.le_refl _))⟩
  · rw [List.length_map]; exact hz
  · have el : acc.toList.length = acc.size := by simp
    refine vals_of_at (by rw [List.length_map, el, hacc.1, lk]) fun j y w h1 h2 => ?_
    obtain ⟨kk, hky⟩ := hacc.2 j w (by rw [← Array.getElem?_toList]; exact h2)
    rw [List.getElem?_map] at h1
    cases e1 : kvs[j]? with
    | none => rw [e1] at h1; cases h1
    | some pr =>
      rw [e1] at h1
      obtain ⟨k1, v1⟩ := pr
      cases h1
      obtain ⟨u2, hu2, ru2⟩ := kv_get kv e1
      rw [hky] at hu2
      cases hu2
      exact ru2
  · rw [Array.toArray_toList]; exact hS
/-- x(e, ..), x a local that holds one of some defs -/
def tCallLS (S : Addr → Option Sp) (i : Nat) (E : L2.St → XK) (t : TA) : TE := fun σ H Q => ∃ f sp, σ[i]? = some (some (.ref f)) ∧ S f = some sp ∧ t σ H fun vs H1 => sp vs H1 Q (E σ)
theorem pe_callLS {S : Addr → Option Sp} {E : L2.St → XK} (A : ∀ f sp, S f = some sp → FnR X.prog X.w X.K X.mg X.base CX k f sp ∧ PySem.W.keepIn X.K (.ref f) = true) (hr : Room k X.A) (hN : X.N[i]? = some x) (hv : Vis X.env.scope x) (hx : ∀ σ, PassesAt CX X σ (E σ)) (ha : PA X (e :: es) t)
    (hdb : (x == ("__debug__" : Str)) = false := by decide) (hcd : (x == ("__classdict__" : Str)) = false := by decide) (he : starEach (e :: es) X.env = (false, eval e X.env) :: starEach es X.env := by rfl) (hpl : (backTo pos (starEach es X.env)).any (·.1) = false := by rfl) :
    PE X (.Call (.Name x p) (e :: es) [] pos) (tCallLS S i E t) := by
  refine ⟨fun pins s σ H Q I h => ?_⟩
  obtain ⟨f, sp, hs, hS, ht⟩ := h
  obtain ⟨F, hk⟩ := A f sp hS
  refine wpAny_Call_Name_kw (thn ((pe_var (pos := p) hN hv hdb hcd).run pins s σ H (fun v H1 => v = .ref f ∧ H1 = H) I ⟨.ref f, hs, rfl, rfl⟩) fun u s1 ⟨v, H1, I1, r1, q1⟩ => ?_)
  obtain ⟨rfl, rfl⟩ := q1
  cases r1
  exact PySem.W.callWith_K (h₀ := X.base) I.ok.mod.kin hk (thn (ha.run pos pins s1 σ _ _ I1 ht) fun us s2 ⟨vs, H2, I2, r, q⟩ => ⟨I2.kIn, wpAny_call (run_RS F hr (hx σ) I2 r q)⟩) he hpl
end
end U
namespace U
open PySem PySem.Spec PyProof.Rows L2
/-- e, and what it gives is locked for good -/
def tFrz (t : TE) : TE := fun σ H Q => t σ H fun x H1 => ∃ d u, x = .ref d ∧ H1 d = some u ∧ Mut (some u) ∧ ∀ od, Q x (upd H1 d (.frz od u))
theorem pe_frz {X : Cx} {e : Expr} {t : TE} (h : PE X e t) : PE X e (tFrz t) := by
  refine ⟨fun pins s σ H Q I hw => thn (h.run pins s σ H _ I hw) fun v s1 ⟨x, H1, I1, r, d, u, ex, hd, mu, q⟩ => ?_⟩
  obtain ⟨od, I2⟩ := I1.lock hd mu
  exact ⟨x, _, I2, r, q od⟩
section
variable {P : Program} {w : World} {K : PySem.W.Frag} {mg : Str → Option Value} {base : Heap}
/-- a def that may raise, called where it does not -/
theorem fnR_calm {k : Nat} {f : Addr} {sp : Sp} (F : FnR P w K mg base (L2.CX P w) k f sp) : FnR P w K mg base CX0 k f (fun vs H Q _ => sp vs H Q E0) := by
  intro A outer s H us vs Q E hr e0 r h
  refine codeAny_mono (F A outer s H us vs Q E0 hr e0 r h) fun r s' hq => ?_
  cases r with
  | error e =>
    obtain ⟨_, _, _, _, _, _, _, _, _, _, _, _, z⟩ := hq
    exact z.elim
  | ok fl => cases fl <;> exact hq
end
/-! ### own errors with one or two fields -/
def spIni1 (C : Addr) (f : Str) : Sp := fun vs H Q _ => ∃ (a : Addr) (v : V), vs = [.ref a, v] ∧ H a = some (exo a C none) ∧ ∀ dx, H dx = none → dx ≠ a → Q .non (upd (upd H dx (exd dx [(f, v)])) a (exo a C (some dx)))
def spIni2 (C : Addr) (f g : Str) : Sp := fun vs H Q _ => ∃ (a : Addr) (v u : V), vs = [.ref a, v, u] ∧ H a = some (exo a C none) ∧ ∀ dx, H dx = none → dx ≠ a → Q .non (upd (upd (upd H dx (exd dx [(f, v)])) a (exo a C (some dx))) dx (exd dx [(g, u), (f, v)]))
theorem mk_one {C : Addr} {f : Str} {v : V} {H : Hp} {Q : XK} (h : ∀ d, H d = none → Q (.ref C) (some d) (upd H d (.xd [(f, v)]))) :
    [v].length ≤ 1000 ∧ ∀ a, H a = none → spIni1 C f (.ref a :: ([v] ++ [])) (upd H a (exo a C none))
      (fun z H2 => z = .non ∧ ∃ (d : Addr) (fs : List (Str × V)), H2 a = some (exo a C (some d)) ∧ H2 d = some (exd d fs) ∧ H d = none ∧ Q (.ref C) (some d) (upd (del H2 a) d (.xd fs))) (fun _ _ _ => False) := by
  refine ⟨(by show 1 ≤ 1000; decide), fun a ha => ⟨a, v, rfl, upd_same, fun dx hd ne => ⟨rfl, dx, [(f, v)], upd_same, ?_, ?_, ?_⟩⟩⟩
  · rw [upd_ne ne, upd_same]
  · rw [upd_ne ne] at hd; exact hd
  · rw [upd_ne ne] at hd
    have e : upd (del (upd (upd (upd H a (exo a C none)) dx (exd dx [(f, v)])) a (exo a C (some dx))) a) dx (.xd [(f, v)]) = upd H dx (.xd [(f, v)]) := by
      funext b
      by_cases h1 : b = dx
      · subst h1; rw [upd_same, upd_same]
      · rw [upd_ne h1, upd_ne h1]
        by_cases h2 : b = a
        · subst h2
          rw [ha]
          unfold del
          simp
        · unfold del
          simp only [h2, if_false]
          rw [upd_ne h2, upd_ne h1, upd_ne h2]
    rw [e]
    exact h dx hd
theorem mk_two {C : Addr} {f g : Str} {v u : V} {H : Hp} {Q : XK} (h : ∀ d, H d = none → Q (.ref C) (some d) (upd H d (.xd [(g, u), (f, v)]))) :
    [v, u].length ≤ 1000 ∧ ∀ a, H a = none → spIni2 C f g (.ref a :: ([v, u] ++ [])) (upd H a (exo a C none))
      (fun z H2 => z = .non ∧ ∃ (d : Addr) (fs : List (Str × V)), H2 a = some (exo a C (some d)) ∧ H2 d = some (exd d fs) ∧ H d = none ∧ Q (.ref C) (some d) (upd (del H2 a) d (.xd fs))) (fun _ _ _ => False) := by
  refine ⟨(by show 2 ≤ 1000; decide), fun a ha => ⟨a, v, u, rfl, upd_same, fun dx hd ne => ⟨rfl, dx, [(g, u), (f, v)], ?_, upd_same, ?_, ?_⟩⟩⟩
  · rw [upd_ne ne.symm, upd_same]
  · rw [upd_ne ne] at hd; exact hd
  · rw [upd_ne ne] at hd
    have e : upd (del (upd (upd (upd (upd H a (exo a C none)) dx (exd dx [(f, v)])) a (exo a C (some dx))) dx (exd dx [(g, u), (f, v)])) a) dx (.xd [(g, u), (f, v)]) = upd H dx (.xd [(g, u), (f, v)]) := by
      funext b
      by_cases h1 : b = dx
      · subst h1; rw [upd_same, upd_same]
      · rw [upd_ne h1, upd_ne h1]
        by_cases h2 : b = a
        · subst h2
          rw [ha]
          unfold del
          simp
        · unfold del
          simp only [h2, if_false]
          rw [upd_ne h1, upd_ne h2, upd_ne h1, upd_ne h2]
    rw [e]
    exact h dx hd
end U
namespace U
open PySem PySem.Spec PyProof.Rows L2
end U
namespace U
open PySem PySem.Spec PyProof.Rows L2 StX
/-! ### defs that are called where no repr runs around them -/
def FnG (P : Program) (w : World) (K : PySem.W.Frag) (mg : Str → Option Value) (base : Heap) (CX : CXT) (k : Nat) (f : Addr) (sp : Sp) : Prop :=
  ∀ (A : Around) (outer : List Env) (s : Shared) (H : Hp) (us : List Value) (vs : List V) (Q : VK) (E : XK), A.guards = some [] → Room k A → Env0 P w K mg base A outer s H → Vals vs us → sp vs H Q E → codeAny (model P w) A (.call (.ref f) ⟨us, []⟩) (CR CX outer P w H s Q E) s
section
variable {P : Program} {w : World} {K : PySem.W.Frag} {mg : Str → Option Value} {base : Heap} {CX : CXT} {j k : Nat} {f : Addr} {sp sp' : Sp}
theorem FnG.mono (F : FnG P w K mg base CX j f sp) (h : j ≤ k) : FnG P w K mg base CX k f sp := fun A outer s H us vs Q E g hr => F A outer s H us vs Q E g (hr.mono h)
theorem FnG.imp (F : FnG P w K mg base CX k f sp) (h : ∀ vs H Q E, sp' vs H Q E → sp vs H Q E) : FnG P w K mg base CX k f sp' := fun A outer s H us vs Q E g hr e0 r z => F A outer s H us vs Q E g hr e0 r (h _ _ _ _ z)
/-- the body's walk, with what is around -/
theorem bodyG {x qual : Str} {st : Stmt} {fd : FuncData} {N ps : List Str} (F : Fun K x qual st f fd) (S : FnScope N ps (defScope st)) (len : ∀ vs H Q E, sp vs H Q E → vs.length = ps.length)
    (hbody : ∀ (cdv : Value) (A : Around) (outer : List Env) (s : Shared) (H : Hp) (vs : List V) (Q : VK) (E : XK), A.guards = some [] → Room k (A.deeper (envOfC qual (defScope st) s.heap.objs.size f cdv)) → sp vs H Q E →
      ∃ t, PSs (cxOf CX P w K mg base N qual (defScope st) f cdv A outer s H E) (defBody st) t ∧ t { nx := fun _ H' => Q .non H', rt := Q } (start N vs) H)
    (A : Around) (outer : List Env) (s : Shared) (H : Hp) (args : Args) (us : List Value) (vs : List V) (Q : VK) (E : XK) (g : A.guards = some []) (hr : Room (k + 1) A) (e0 : Env0 P w K mg base A outer s H) (hb : BindsTo s fd args (ps.zip us)) (r : Vals vs us) (hs : sp vs H Q E) :
    codeAny (model P w) A (.call (.ref f) args) (CR CX outer P w H s Q E) s := by
  obtain ⟨oc, od, kV, doc, pm, an, cdv, ct, osl, rfl, lk, hcd⟩ := F.ex
  have hl := len _ _ _ _ hs
  have kin : K.In s.heap := e0.mod.kin.keeps fun b o e => (e0.bs b o e).1
  have lim : s.heap.NoLimit := e0.mod.nolimit.keeps fun b o e => (e0.bs b o e).1
  have names : ∀ y ∈ ps.zip us, (defScope st).names.lookup y.1 = some .local ∨ ((defScope st).names.lookup y.1 = some .cell ∧ ((cellsFrom (s.heap.objs.size + 1) (defScope st).names []).lookup y.1).isSome = true) := by
    rintro ⟨n, v⟩ hy
    rcases S.par n (List.of_mem_zip hy).1 with q | q
    · exact .inl q
    · exact .inr ⟨q, PySem.W.cellsFrom_some _ _ _ (.inl q)⟩
  refine codeAny_call_function hr.depth (kin _ _ lk) rfl S.co S.gen rfl (PySem.W.codeRec_of kin hcd) (hb _ _ _ _ ?_)
  refine wpAny_newFunctionEnv_cells S.kind names fun env he s1 z => ?_
  subst he
  refine ⟨lim.keeps z.toInCall.keep, codeAny_func ?_⟩
  obtain ⟨t, ht, hq⟩ := hbody cdv A outer s H vs Q E g (hr.deeper _) hs
  have I : Inv (cxOf CX P w K mg base N qual (defScope st) f cdv A outer s H E) [] (start N vs) H s1 := inv_start S hr.hd e0 hl r z
  refine wpAny_mono (ht.run [] s1 (start N vs) H _ I hq) (fun fl s' h' => ?_) fun _ _ h' => h'
  match fl, h' with
  | .ret u, ⟨v, σ', H', J, rv, q⟩ => exact ⟨v, H', J.os, J.bare, J.base, J.hok, rv, q⟩
  | .next, ⟨σ', H', J, q⟩ => exact ⟨.non, H', J.os, J.bare, J.base, J.hok, rfl, q⟩
  | .brk, ⟨_, _, _, q⟩ => exact q.elim
  | .cont, ⟨_, _, _, q⟩ => exact q.elim
theorem FnAt.okG {x qual : Str} {st : Stmt} {N ps : List Str} (B : FnAt K x qual st f ps) (S : FnScope N ps (defScope st)) (len : ∀ vs H Q E, sp vs H Q E → vs.length = ps.length)
    (hbody : ∀ (cdv : Value) (A : Around) (outer : List Env) (s : Shared) (H : Hp) (vs : List V) (Q : VK) (E : XK), A.guards = some [] → Room k (A.deeper (envOfC qual (defScope st) s.heap.objs.size f cdv)) → sp vs H Q E →
      ∃ t, PSs (cxOf CX0 P w K mg base N qual (defScope st) f cdv A outer s H E).nox (defBody st) t ∧ t { nx := fun _ H' => Q .non H', rt := Q } (start N vs) H) : FnG P w K mg base CX0 (k + 1) f sp := by
  obtain ⟨fd, F, bi⟩ := B.ex
  intro A outer s H us vs Q E g hr e0 r hs
  have hl : (us ++ []).length = ps.length := by rw [List.append_nil, ← r.length]; exact len _ _ _ _ hs
  refine bodyG F S len (fun cdv A outer s H vs Q E g hr hs => ?_) A outer s H ⟨us, []⟩ us vs Q E g hr e0 ?_ r hs
  · obtain ⟨t, h, q⟩ := hbody cdv A outer s H vs Q E g hr hs
    exact ⟨t, h.nox, q⟩
  · have := bi s us (e0.mod.kin.keeps fun b o e => (e0.bs b o e).1) hl
    rw [List.append_nil] at this
    exact this
end
section
variable {X : Cx} {CX : CXT} {pins : List (Addr × Obj)} {σ : L2.St} {H : Hp} {s : Shared} {f : Addr} {k : Nat} {sp : Sp} {x : Str} {e : Expr} {es : List Expr} {t : TA} {pp pos : Pos}
/-! ### repr -/
/-- repr(v), v a None, a bool, an int, a text, lists and tuples of them -/
def rRepr (K : PySem.W.Frag) : List V → Hp → VK → Prop := fun xs H Q => ∃ v d, xs = [v] ∧ Dp K H v d ∧ d.showable = true ∧ d.hasDict = false ∧ d.depth ≤ 60 ∧ d.shown.length ≤ sizeLine ∧ Q (.str d.shown) H
theorem call_repr (g : X.A.guards = some []) (hu : X.A.units + 64 < cLine) : CallR X (.builtin "repr") (rRepr X.K) := by
  intro pins s σ H xs us Q I r h
  obtain ⟨v, d, rfl, hd, hs, hn, hdp, hz, q⟩ := h
  obtain ⟨u, rfl, ru⟩ := r.one
  obtain ⟨as, rd⟩ := Dp.reads I d v u hd ru
  cases rd with
  | none =>
    simp only [PyData.shown] at q
    exact PySem.P.repr_of_none ⟨.str _, H, I.tok _, ⟨_, rfl⟩, q⟩
  | bool b =>
    simp only [PyData.shown] at q
    exact PySem.P.repr_of_bool ⟨.str _, H, I.tok _, ⟨_, rfl⟩, q⟩
  | int i t =>
    simp only [PyData.shown] at q
    exact PySem.P.repr_of_int (by simpa [PyData.showable] using hs) ⟨.str _, H, I.tok _, ⟨_, rfl⟩, q⟩
  | str x t =>
    simp only [PyData.shown] at q hz
    exact PySem.P.repr_of_str ⟨.str _, H, I.tok _, ⟨_, rfl⟩, q⟩ hz
  | list h1 h2 h3 h4 => exact repr_of_reads' (.list h1 h2 h3 h4) hs (PyData.noDict_hsm hn) g (by omega) (fun _ _ e => e) (fun h' u tk hk => ⟨.str _, H, I.kept (t' := tk) hk, ⟨_, rfl⟩, q⟩) hz
  | tuple h1 h2 h3 h4 => exact repr_of_reads' (.tuple h1 h2 h3 h4) hs (PyData.noDict_hsm hn) g (by omega) (fun _ _ e => e) (fun h' u tk hk => ⟨.str _, H, I.kept (t' := tk) hk, ⟨_, rfl⟩, q⟩) hz
  | dict h1 h2 h3 h4 h5 => simp [PyData.hasDict] at hn
/-- repr of a scalar, whatever runs around -/
def rRepr0 : List V → Hp → VK → Prop := fun xs H Q => (xs = [.non] ∧ Q (.str "None") H) ∨ (∃ b, xs = [.bl b] ∧ Q (.str (if b then "True" else "False")) H) ∨ ∃ i : Int, xs = [.int i] ∧ i.natAbs.log2 < 1920 ∧ Q (.str (toString i)) H
theorem call_repr0 : CallR X (.builtin "repr") rRepr0 := by
  intro pins s σ H xs us Q I r h
  rcases h with ⟨rfl, q⟩ | ⟨b, rfl, q⟩ | ⟨i, rfl, hz, q⟩
  · obtain ⟨u, rfl, ru⟩ := r.one
    cases ru
    exact PySem.P.repr_of_none ⟨.str _, H, I.tok _, ⟨_, rfl⟩, q⟩
  · obtain ⟨u, rfl, ru⟩ := r.one
    cases ru
    exact PySem.P.repr_of_bool ⟨.str _, H, I.tok _, ⟨_, rfl⟩, q⟩
  · obtain ⟨u, rfl, ru⟩ := r.one
    obtain ⟨t, rfl⟩ := ru
    exact PySem.P.repr_of_int hz ⟨.str _, H, I.tok _, ⟨_, rfl⟩, q⟩
/-! ### a dict of ints, shown -/
end
end U
namespace U
open PySem PySem.Spec PyProof.Rows L2 StX
/-- what holds no other object -/
inductive Sc : V → PyData → Prop
  | non : Sc .non .none
  | bl (b : Bool) : Sc (.bl b) (.bool b)
  | int (i : Int) : Sc (.int i) (.int i)
  | str (x : Str) : Sc (.str x) (.str x)
theorem Sc.reads {h : Heap} {v : V} {d : PyData} {u : Value} (s : Sc v d) (r : RelV v u) : Reads h u d [] := by
  cases s with
  | non => cases r; exact .none
  | bl b => cases r; exact .bool b
  | int i => obtain ⟨t, rfl⟩ := r; exact .int i t
  | str x => obtain ⟨t, rfl⟩ := r; exact .str x t
end U
namespace U
open PySem PySem.Spec PyProof.Rows L2 StX
/-! ### the law's call, where no repr runs around it -/
section
variable {P : Program} {w : World} {K : PySem.W.Frag} {mg mb : Str → Option Value} {k : Nat} {fa sc : Addr} {sp : Sp} {s1 : Shared} {us : List Value} {ns : List Int}
/-- from an abstract heap that tracks at most the script -/
theorem law_core (inK : K.In s1.heap) (glob : s1.heap.Ns mainGlobals mg) (blt : s1.heap.Ns builtinsNs mb) (blt2 : ∀ x : Str, x ≠ "__name__" → mb x = bootBuiltins x) (lim : s1.heap.NoLimit) (gens : s1.gens = #[])
    (there : s1.heap.get? sc = some { cls := .type "list", data := .seq us.toArray }) (room : Room k callerA)
    (F : ∀ base : Heap, FnG P w K mg base CX0 k fa sp)
    (H : Hp) (only : Only H) (hok : HOk P w H s1.heap) (just : ∀ b, H b ≠ none → b = sc) (offK : H sc ≠ none → K.lookup sc = none)
    (prom : sp [.ref sc] H (fun v _ => v = .bl true) E0) :
    codeAny (model P w) callerA (.call (.ref fa) ⟨[.ref sc], []⟩) (fun r s' => r = .ok (.ret (.bool true)) ∧ OldK s1.heap s'.heap ∧ s'.os = s1.os ∧ AllBare s'.gens) s1 := by
  have isSc : ∀ {b : Addr} {u : HO}, H b = some u → b = sc := fun {b u} e => just b fun z => by rw [z] at e; cases e
  have free : ∀ {b : Addr} {o : Obj} {es : Array DictEntry} {ep : Nat}, s1.heap.get? b = some o → o.data = .dict es ep → H b = none := by
    intro b o es ep e d
    cases hb : H b with
    | none => rfl
    | some u =>
      have := isSc hb
      subst this
      rw [there] at e
      cases e
      exact absurd (show Data.seq us.toArray _ = Data.dict es ep from d) (by intro z; cases z)
  have spaces : ∀ {b : Addr} {m : Str → Option Value}, s1.heap.Ns b m → (hidT s1.heap H).Ns b m := by
    rintro b m ⟨o, es, ep, e, d, r⟩
    exact ⟨o, es, ep, hidT_get e (free e d), d, r⟩
  have inB : K.In (hidT s1.heap H) := by
    intro b o e
    refine hidT_get (inK b o e) ?_
    cases hb : H b with
    | none => rfl
    | some u =>
      have := isSc hb
      subst this
      have z := offK (by rw [hb]; intro z; cases z)
      rw [e] at z
      cases z
  have md : Mod K mg (hidT s1.heap H) := by
    obtain ⟨mc, l1, l2⟩ := lim
    exact ⟨inB, spaces glob, ⟨mb, spaces blt, blt2⟩, ⟨mc, spaces l1, l2⟩⟩
  have env : Env0 P w K mg (hidT s1.heap H) callerA [] s1 H := by
    refine ⟨rfl, md, fun b o e => of_hidT e, Nat.le_of_eq (hidT_size _ _), trivial, fun b hb => ?_, hok, .of_eq gens⟩
    exact absurd hb List.not_mem_nil
  refine codeAny_mono (F (hidT s1.heap H) callerA [] s1 H [.ref sc] [.ref sc] (fun v _ => v = .bl true) E0 rfl room env (.cons rfl .nil) prom) fun r s' h => ?_
  match r, h with
  | .error e, h => exact h.elim
  | .ok .next, h => exact h.elim
  | .ok .brk, h => exact h.elim
  | .ok .cont, h => exact h.elim
  | .ok (.ret u), ⟨v, H', os, bare, un, hok', rv, q⟩ =>
    subst q
    cases (show u = Value.bool true from rv)
    refine ⟨rfl, OldK.of_keep fun b o e => ?_, os, bare⟩
    cases hb : H b with
    | none => exact un.keep b o e hb (fun z => absurd z List.not_mem_nil) (by simp)
    | some u =>
      rcases only b with z | ⟨ob, xs, z⟩
      · rw [hb] at z
        cases z
      · have a1 := (hok b _ z).1
        have a2 := (hok' b _ (un.frzs b ob _ z)).1
        rw [e] at a1
        cases a1
        exact a2
theorem law_callG (inK : K.In s1.heap) (glob : s1.heap.Ns mainGlobals mg) (blt : s1.heap.Ns builtinsNs mb) (blt2 : ∀ x : Str, x ≠ "__name__" → mb x = bootBuiltins x) (lim : s1.heap.NoLimit) (gens : s1.gens = #[])
    (there : s1.heap.get? sc = some { cls := .type "list", data := .seq us.toArray }) (inS : IntsAre us ns) (len : ns.length ≤ sizeLine) (room : Room k callerA)
    (F : ∀ base : Heap, FnG P w K mg base CX0 k fa sp)
    (prom : ∀ H : Hp, SqL K H sc (ns.map V.int) → sp [.ref sc] H (fun v _ => v = .bl true) E0) :
    codeAny (model P w) callerA (.call (.ref fa) ⟨[.ref sc], []⟩) (fun r s' => r = .ok (.ret (.bool true)) ∧ OldK s1.heap s'.heap ∧ s'.os = s1.os ∧ AllBare s'.gens) s1 := by
  have rv := vals_ints inS
  have go := law_core (P := P) (w := w) (k := k) (fa := fa) (sp := sp) inK glob blt blt2 lim gens there room F
  cases hk : K.lookup sc with
  | some o =>
    have e := inK sc o hk
    rw [there] at e
    cases e
    refine go (fun _ => none) (fun _ => .inl rfl) (fun b u z => by cases (show (none : Option HO) = some u from z)) (fun b z => absurd rfl z) (fun z => absurd rfl z) (prom _ ?_)
    refine .inr ⟨_, us.toArray, _, hk, rfl, rfl, rfl, ?_, by simpa using rv⟩
    rw [List.size_toArray, inS.length]
    exact len
  | none =>
    have at_ : (fun b => if b = sc then some (HO.frz { cls := .type "list", data := .seq us.toArray } (.lst (ns.map V.int))) else none) sc = some (.frz { cls := .type "list", data := .seq us.toArray } (.lst (ns.map V.int))) := if_pos rfl
    refine go (fun b => if b = sc then some (.frz { cls := .type "list", data := .seq us.toArray } (.lst (ns.map V.int))) else none) (fun b => ?_) (fun b u z => ?_) (fun b z => ?_) (fun _ => hk) (prom _ (.inl (.inr ⟨_, at_⟩)))
    · by_cases hb : b = sc
      · subst hb
        exact .inr ⟨_, _, at_⟩
      · exact .inl (if_neg hb)
    · by_cases hb : b = sc
      · subst hb
        rw [at_] at z
        cases z
        refine ⟨there, ?_, us, _, rv, there⟩
        rw [List.length_map]
        exact len
      · have no := (if_neg hb).symm.trans z
        cases no
    · refine Classical.byContradiction fun hb => z (if_neg hb)
end
/-- the goal that k_head leaves, from the law's promise -/
theorem walkG {l : PySem.W.OpenLaw} {n k : Nat} {q : Program} {loose : List Str} {XP : (Str → Option Value) → Heap → Prop} {YP : World → Heap → Prop} {d : DefRec} {K : Params → PySem.W.Frag} {sp : PySem.W.Frag → Sp}
    (hn : l.most = some n) (hn2 : n ≤ sizeLine) (hdf : d.params.defaults = []) (room : Room k callerA) (hY : ∀ (w : World) (h : Heap), YP w h → (K w.params).In h)
    (F : ∀ (w : World) (mg : Str → Option Value) (fa : Addr) (h : Heap), (K w.params).In h → h.Ns mainGlobals mg → mg d.name = some (.ref fa) → ∀ base : Heap, FnG l.prog w (K w.params) mg base CX0 k fa (sp (K w.params)))
    (prom : ∀ (K : PySem.W.Frag) (H : Hp) (a : Addr) (ns : List Int), ns.length ≤ n → SqL K H a (ns.map V.int) → sp K [.ref a] H (fun v _ => v = .bl true) E0) :
    PySem.W.WalkO q loose XP YP l.row.toRowW d [] (fun f vs => PySem.call f vs) := by
  refine Att.attach_call hn hdf fun w s0 s1 mg mb fa o pm cd doc a vs ns G Y ho hd hcd hmg hobj hints hlen hg => ?_
  have inK := hY w _ Y
  exact law_callG inK G.T.g G.T.b G.T.builtins G.T.nolimit hg hobj hints (Nat.le_trans hlen hn2) room (F w mg fa _ inK G.T.g hmg) fun H hS => prom _ H a ns hlen hS
end U
namespace U
open PySem PySem.Spec PyProof.Rows L2 StX
/-! ### defs called while an exception is handled -/
end U
namespace U
open PySem PySem.Spec PyProof.Rows L2 StX
end U
namespace U
open PySem PySem.Spec PyProof.Rows L2 StX
end U
namespace U
open PySem PySem.Spec PyProof.Rows L2 StX PySem.W
section
variable {prog : Program} {w : World} {Ky : Type} [DecidableEq Ky] {knd : KeyKind prog w Ky} {A : Around} {E : Value → Shared → Prop} {s : Shared}
theorem alive_of {a : Addr} {Q : Option Obj → Shared → Prop} (h : Q (s.heap.get? a) s) : wpAny (model prog w) A (loadIfAlive a) Q E s := fun _ _ _ => h
/-- the next pair, whatever became of the tuple that was handed out first -/
theorem items_next1 {it d a : Addr} {f : Bool} {i ep : Nat} {kvs : List (Ky × Value)} {k : Ky} {v ok ov : Value} {Q : Option Value → Shared → Prop} (hit : KdxIt s.heap it d i kvs.length ep ok ov a f)
    (hm : s.heap.DictAt knd d kvs ep) (hx : kvs[i]? = some (k, v))
    (hQ : ∀ key h' ok' ov' a' f', knd.is k key = true → KdxIt h' it d (i + 1) kvs.length ep ok' ov' a' f' →
      h'.get? s.heap.objs.size = some { cls := .type "tuple", data := .seq #[key, v] } → h'.objs.size = s.heap.objs.size + 1 →
      (∀ b o, b ≠ it → s.heap.get? b = some o → h'.get? b = some o) → Q (some (.ref s.heap.objs.size)) { s with heap := h' }) :
    wpAny (model prog w) A (pyNext (.ref it)) Q E s := by
  obtain ⟨hp, g, dr, tk, os⟩ := s
  obtain ⟨od, es, hod, hcd, hdd, hk, hpr, hn⟩ := id hm
  have hT : Shared.TypeIs ⟨hp, g, dr, tk, os⟩ (.ref it) "dict_itemiterator" := ⟨_, hit, rfl⟩
  have hsz : es.size = kvs.length := by rw [← hpr.length]; simp
  have hlt : i < kvs.length := (List.getElem?_eq_some_iff.mp hx).1
  have hlt' : i < es.size := by rw [hsz]; exact hlt
  obtain ⟨hkey, hval⟩ := hpr.get? (e := es[i]) (by simp [hlt']) hx
  unfold pyNext
  refine wpAny_bind (wpAny_attempt (wpAny_callSpecial?_slot (name := Str.ofString "__next__") hT PySem.F.slot_dict_itemiterator_next
    (wpAny_call_entry PySem.F.slot_dict_itemiterator_next hT PySem.F.entry_dict_itemiterator_next ?_ (PySem.F.args_dict_itemiterator_next_1 _))))
  refine wpAny_bind (wpAny_pure (wpAny_bind (wpAny_bind ?_)))
  first | refine wpAny_bind (wpAny_typeNameOfWhole_itemiter hT (wpAny_pure ?_)) | refine wpAny_bind (wpAny_typeNameOf_itemiter hT (wpAny_pure ?_))
  refine wpAny_bind (wpAny_fieldsOf hit rfl ?_)
  simp only [show Builtin.Dict_items.ownsTuple "dict_itemiterator" = true by decide, if_true]
  show wpAny _ _ (if (Value.ref d == Value.none) = true then _ else _) _ _ _
  rw [if_neg (show ¬ ((Value.ref d == Value.none) = true) from Bool.false_ne_true)]
  refine wpAny_bind (wpAny_pure (wpAny_bind (wpAny_dictEntries hod hdd ?_)))
  rw [if_neg (by rw [hsz]; simp)]
  refine wpAny_bind (wpAny_pure (wpAny_bind (wpAny_dictEpoch hod hdd ?_)))
  rw [if_neg (by simp)]
  refine wpAny_pure ?_
  simp only [show ¬ ((i : Int) < 0) from by omega, if_false, Int.toNat_natCast, Array.getElem?_eq_getElem hlt']
  refine wpAny_bind ?_
  first | refine wpAny_bind (wpAny_typeNameOfWhole_itemiter hT (wpAny_pure ?_)) | refine wpAny_bind (wpAny_typeNameOf_itemiter hT (wpAny_pure ?_))
  refine wpAny_bind (wpAny_isOneOf_itemiter hT ?_)
  show wpAny _ _ (setField (.ref it) 3 (rawInt ((i : Int) + 1)) >>= _) _ _ ⟨hp, g, dr, tk, os⟩
  refine wpAny_bind (wpAny_setField_rec hit (by simp) fun h₁ he₁ hs₁ => ?_)
  replace hs₁ : Heap.SameBut it hp h₁ := hs₁
  replace he₁ : KdxIt h₁ it d (i + 1) kvs.length ep ok ov a f := by
    have e : ((i + 1 : Nat) : Int) = (i : Int) + 1 := by omega
    unfold KdxIt; rw [e]; simpa [rawInt] using he₁
  have hT₁ : Shared.TypeIs ⟨h₁, g, dr, tk, os⟩ (.ref it) "dict_itemiterator" := ⟨_, he₁, rfl⟩
  refine wpAny_bind (wpAny_holding (wpAny_bind (wpAny_isOneOf_itemiter hT₁ (wpAny_bind (wpAny_isOneOf_itemiter hT₁ ?_)))))
  show wpAny _ _ (Builtin.Dict_items.pairFromOwner (.ref it) 6 es[i].key es[i].val) _ _ ⟨h₁, g, dr, tk, os⟩
  unfold Builtin.Dict_items.pairFromOwner
  refine wpAny_bind (wpAny_newTuple ?_)
  have he₂ : KdxIt (h₁.push { cls := .type "tuple", data := .seq #[es[i].key, es[i].val] }) it d (i + 1) kvs.length ep ok ov a f := Heap.get?_push_of_some _ he₁
  generalize hh₂ : h₁.push { cls := .type "tuple", data := .seq #[es[i].key, es[i].val] } = h₂ at he₂
  have hz₁ : h₁.objs.size = hp.objs.size := hs₁.1
  have hil : it < hp.objs.size := Heap.lt_size hit
  have ht₂ : h₂.get? hp.objs.size = some { cls := .type "tuple", data := .seq #[es[i].key, es[i].val] } := by rw [← hh₂, ← hz₁]; exact Heap.get?_push_size _ rfl
  have hz₂ : h₂.objs.size = hp.objs.size + 1 := by rw [← hh₂, Heap.size_push, hz₁]
  have hk₂ : ∀ b o, b ≠ it → hp.get? b = some o → h₂.get? b = some o := fun b o hb e => by rw [← hh₂]; exact Heap.get?_push_of_some _ (hs₁.extBut b o hb e)
  show wpAny _ _ (Builtin.Dict_items.ownedTupleIsFree (.ref it) >>= _) _ _ ⟨h₂, g, dr, tk, os⟩
  rw [hz₁]
  clear hh₂ he₁ hs₁ hT₁ hz₁ h₁
  have fin : ∀ (h₃ : Heap) ok' ov' a' f', KdxIt h₃ it d (i + 1) kvs.length ep ok' ov' a' f' → Heap.SameBut it h₂ h₃ → Q (some (.ref hp.objs.size)) ⟨h₃, g, dr, tk, os⟩ := fun h₃ ok' ov' a' f' he₃ hs₃ =>
    hQ es[i].key h₃ ok' ov' a' f' hkey he₃ (by rw [← hval]; exact hs₃.extBut _ _ (Nat.ne_of_gt hil) ht₂) (by show h₃.objs.size = hp.objs.size + 1; rw [hs₃.1, hz₂]) fun b o hb e => hs₃.extBut b o hb (hk₂ b o hb e)
  refine wpAny_bind ?_
  unfold Builtin.Dict_items.ownedTupleIsFree
  refine wpAny_bind (wpAny_field he₂ rfl (x := rawInt a) rfl ?_)
  show wpAny _ _ (loadIfAlive ((a : Int).toNat) >>= _) _ _ _
  rw [Int.toNat_natCast]
  refine wpAny_bind (alive_of ?_)
  show wpAny _ _ (if (h₂.get? a).isNone = true then _ else _) _ _ _
  cases ha : h₂.get? a with
  | some oa =>
    simp only [Option.isNone_some, Bool.false_eq_true, if_false]
    refine wpAny_bind (wpAny_field he₂ rfl (x := .bool f) rfl ?_)
    cases f with
    | true =>
      rw [if_neg (show ¬ ((Value.bool true != Value.bool true) = true) from Bool.false_ne_true)]
      refine wpAny_pure ?_
      simp only [Bool.false_eq_true, if_false]
      exact wpAny_pure (wpAny_pure ⟨_, rfl, wpAny_pure (fin h₂ _ _ _ _ he₂ (Heap.SameBut.refl _ _))⟩)
    | false =>
      rw [if_pos (show (Value.bool false != Value.bool true) = true from rfl)]
      refine wpAny_bind (wpAny_setField_rec he₂ (by simp) fun h₃ he₃ hs₃ => ?_)
      replace hs₃ : Heap.SameBut it h₂ h₃ := hs₃
      replace he₃ : KdxIt h₃ it d (i + 1) kvs.length ep ok ov a true := he₃
      refine wpAny_pure ?_
      simp only [Bool.false_eq_true, if_false]
      exact wpAny_pure (wpAny_pure ⟨_, rfl, wpAny_pure (fin h₃ _ _ _ _ he₃ hs₃)⟩)
  | none =>
    simp only [Option.isNone_none, if_true]
    refine wpAny_pure ?_
    simp only [if_true]
    refine wpAny_bind (wpAny_field he₂ rfl (x := ok) rfl (wpAny_bind (wpAny_field he₂ rfl (x := ov) rfl ?_)))
    refine wpAny_bind (wpAny_setField_rec he₂ (by simp) fun h₃ he₃ hs₃ => ?_)
    replace hs₃ : Heap.SameBut it h₂ h₃ := hs₃
    replace he₃ : KdxIt h₃ it d (i + 1) kvs.length ep es[i].key ov a f := he₃
    refine wpAny_bind (wpAny_setField_rec he₃ (by simp) fun h₄ he₄ hs₄ => ?_)
    replace hs₄ : Heap.SameBut it h₃ h₄ := hs₄
    replace he₄ : KdxIt h₄ it d (i + 1) kvs.length ep es[i].key es[i].val a f := he₄
    refine wpAny_bind (wpAny_setField_rec he₄ (by simp) fun h₅ he₅ hs₅ => ?_)
    replace hs₅ : Heap.SameBut it h₄ h₅ := hs₅
    replace he₅ : KdxIt h₅ it d (i + 1) kvs.length ep es[i].key es[i].val hp.objs.size f := he₅
    refine wpAny_bind (wpAny_setField_rec he₅ (by simp) fun h₆ he₆ hs₆ => ?_)
    replace hs₆ : Heap.SameBut it h₅ h₆ := hs₆
    replace he₆ : KdxIt h₆ it d (i + 1) kvs.length ep es[i].key es[i].val hp.objs.size false := he₆
    exact wpAny_bind (wpAny_letGo (wpAny_pure (wpAny_pure ⟨_, rfl, wpAny_pure (fin h₆ _ _ _ _ he₆ ((hs₃.trans hs₄).trans (hs₅.trans hs₆)))⟩)))
end
section
variable {P : Program} {w : World} {K : PySem.W.Frag} {d : Addr} {o : Obj} {es : Array DictEntry} {ep : Nat}
def ItSt (h : Heap) (it d : Addr) (i n ep : Nat) : Prop := (∃ ok ov, IsItemIter h it d i n ep ok ov) ∨ ∃ ok ov a f, KdxIt h it d i n ep ok ov a f
theorem turn_items1 {kvs : List (Key × V)} {x : Str} {tpos : Pos} (it : Addr) (hod : o.data = .dict es ep) :
    Turn P w K (.Name x tpos) (Iti d o kvs) [it] it (fun i h => ItSt h it d i kvs.length ep) where
  mem := by simp
  obj := fun i h st b hb => by
    have e : b = it := by simpa using hb
    subst e
    rcases st with ⟨ok, ov, e⟩ | ⟨ok, ov, a, f, e⟩
    · exact ⟨_, e, fun v z => nomatch z⟩
    · exact ⟨_, e, fun v z => nomatch z⟩
  keep := fun i h h' st k => by
    rcases st with ⟨ok, ov, e⟩ | ⟨ok, ov, a, f, e⟩
    · exact .inl ⟨ok, ov, k it (by simp) _ e⟩
    · exact .inr ⟨ok, ov, a, f, k it (by simp) _ e⟩
  item := by
    intro X hP hw hK hc i pins s σ H E I hf st hg
    subst hP hw hK
    obtain ⟨hd, hi⟩ := hg
    obtain ⟨hs, hgd, hx, es', ep', vs, hdt, hsz, kv, hm⟩ := I.frzK hd
    obtain ⟨rfl, rfl⟩ := dict_ep hod hdt
    obtain ⟨⟨k, v⟩, hkv⟩ : ∃ p, kvs[i]? = some p := ⟨kvs[i], List.getElem?_eq_getElem hi⟩
    obtain ⟨u, hu, ru⟩ := kv_get kv hkv
    have hl : kvs.length = vs.length := Paired.length kv
    have fin : ∀ (key : Value) (h' : Heap), keyIs k key = true → ItSt h' it d (i + 1) kvs.length ep' → it < s.heap.objs.size → h'.get? s.heap.objs.size = some { cls := .type "tuple", data := .seq #[key, u] } →
        (∀ b o, b ≠ it → s.heap.get? b = some o → h'.get? b = some o) → ∃ x H', Inv X pins σ H' { s with heap := h' } ∧ RelV x (.ref s.heap.objs.size) ∧ (Iti d o kvs).yld i H x H' ∧ ItSt h' it d (i + 1) kvs.length ep' ∧ ∀ b ∈ [it], H' b = none := by
      intro key h' hkey st' hlt hT hk
      have new : ObjOk X.prog X.w (upd H s.heap.objs.size (.tup [kV k, v])) h' s.heap.objs.size (.tup [kV k, v]) :=
        ⟨by show 2 ≤ sizeLine; decide, [key, u], .cons (relV_key hkey) (.cons ru .nil), ⟨_, hT, rfl, _, rfl⟩⟩
      have I1 : Inv X pins σ (upd H s.heap.objs.size (.tup [kV k, v])) { s with heap := h' } :=
        I.turnedNew (t' := s.toks) (ch := [it]) (fun b ob hb e => hk b ob (by simpa using hb) e) hf (Nat.le_refl _) new
      refine ⟨.ref s.heap.objs.size, _, I1, rfl, ⟨_, k, v, hkv, rfl, I.hok.fresh (Nat.le_refl _), rfl⟩, st', fun b hb => ?_⟩
      have e : b = it := by simpa using hb
      rw [e, upd_ne (Nat.ne_of_lt hlt)]
      exact (hf it (by simp)).1
    rcases st with ⟨ok, ov, he⟩ | ⟨ok, ov, a, f, he⟩
    · have hlt : it < s.heap.objs.size := Heap.lt_size he
      rw [hl] at he
      refine wpAny_pyNext_items_item he hm hu fun key h' hkey ho hT hz hk => ⟨_, rfl, ?_⟩
      rw [← hl] at ho
      exact wpAny_pure (fin key h' hkey (.inr ⟨_, _, _, _, ho⟩) hlt hT hk)
    · have hlt : it < s.heap.objs.size := Heap.lt_size he
      rw [hl] at he
      refine items_next1 he hm hu fun key h' ok' ov' a' f' hkey ho hT hz hk => ⟨_, rfl, ?_⟩
      rw [← hl] at ho
      exact wpAny_pure (fin key h' hkey (.inr ⟨_, _, _, _, ho⟩) hlt hT hk)
  done := by
    intro X hP hw hK hc i pins s σ H E I hf st hg
    subst hP hw hK
    obtain ⟨hd, hi⟩ := hg
    obtain ⟨f0, f1, f2, f3, f4, f5⟩ := hf it (by simp)
    obtain ⟨hs, hgd, hx, es', ep', vs, hdt, hsz, kv, hm⟩ := I.frzK hd
    obtain ⟨rfl, rfl⟩ := dict_ep hod hdt
    have hl : kvs.length = vs.length := Paired.length kv
    rcases st with ⟨ok, ov, he⟩ | ⟨ok, ov, a, f, he⟩
    · rw [hl] at he
      exact wpAny_pyNext_items_end (I.ok.hd hc) he hm (List.getElem?_eq_none (by omega)) fun h' eb => ⟨rfl, I.turned (t' := s.toks) (fun b ob hb e => eb b ob hb e) f0 f1 f3 f4 f5⟩
    · rw [hl] at he
      exact kdx_end_out (I.ok.hd hc) he hm (List.getElem?_eq_none (by omega)) fun h' eb => ⟨rfl, I.turned (t' := s.toks) (fun b ob hb e => eb b ob hb e) f0 f1 f3 f4 f5⟩
  self := fun A i s Q E st h => by
    rcases st with ⟨_, _, e⟩ | ⟨_, _, _, _, e⟩
    · exact PySem.W.kcp_self e h
    · have hT : s.TypeIs (.ref it) "dict_itemiterator" := ⟨_, e, rfl⟩
      refine wpAny_pyIter_slot hT PySem.F.slot_dict_itemiterator_iter (wpAny_call_entry PySem.F.slot_dict_itemiterator_iter hT kcp_entry ?_ (PySem.F.args_dict_itemiterator_iter_1 _))
      show wpAny _ _ (ret (.ref it)) _ _ s
      exact wpAny_pure ⟨_, rfl, "dict_itemiterator", _, hT, PySem.F.slot_dict_itemiterator_next.lookup, h⟩
end
section
variable {X : Cx} {e : Expr} {td : TE} {apos cpos : Pos}
theorem pi_items1 {x : Str} {tpos : Pos} (he : PE X e td) (hbase : attributeBase e "items" X.env (eval e X.env) = eval e X.env := by rfl) (hline : (apos.endLine == cpos.line) = true := by rfl) :
    PI X (.Name x tpos) (.Call (.Attribute e "items" apos) [] [] cpos) (iItems td) := by
  refine ⟨fun pins s σ H R I h => ?_⟩
  refine wpAny_Call_method (T := "dict") (id := "dict.items") hbase rfl hline F.plainAttrs_dict F.slot_dict_items F.type_dict_items (thn (he.run pins s σ H _ I h) fun u s1 ⟨x, H1, I1, rx, d, o, kvs, ex, hd, q⟩ => ?_)
  subst ex
  obtain rfl : u = Value.ref d := rx
  obtain ⟨hs, hgd, hx, es, ep, vs, hdt, hsz, kv, hm⟩ := I1.frzK hd
  have hl : kvs.length = vs.length := Paired.length kv
  refine ⟨hm.dictOf.typeIs, hm.dictOf.mapOf.noDict, ?_⟩
  have I2 : Inv X pins σ H1 { s1 with heap := s1.heap.push { cls := .type "dict_items", data := .fields #[.ref d] } } := I1.kept (t' := s1.toks) fun b ob q => Heap.get?_push_of_some _ q
  show wpAny _ _ (callWith cpos (.builtin "dict.items") [.ref d] [] []) _ X.xe s1
  refine method_meetsIn F.slot_dict_items F.entry_dict_items rfl (PySem.evalArgs_none ⟨rfl, hm.dictOf.typeIs, F.args_dict_items_1 _, _, meets_dict_items (mixKind X.prog X.w) d hs, ⟨vs, hm.dictOf⟩, ?_⟩)
  refine wpAny_pyIter_items (d := d) (knd := mixKind X.prog X.w) ⟨_, Heap.get?_push_size _ rfl, rfl, rfl⟩ (hm.push _) (pi_one (tk := s1.toks) I2 _ (turn_items1 _ hdt) (.inl ⟨.none, .none, ?_⟩) q)
  rw [hl]
  exact Heap.get?_push_size _ rfl
end
end U
namespace U
open PySem PySem.Spec PyProof.Rows L2 StX
/-! ### x op i, the class's own, i an int -/
/-! ### list(d.items()), the dict locked or not -/
end U
namespace U
open PySem PySem.Spec PyProof.Rows L2
/-! ### several clauses 'except x as n' -/
/-- what the clauses wish of an exception of the body, one after the other: class, slot of the name, suite -/
def wManyA (K : PySem.W.Frag) (Wout : WX) (D : Ends) : List (Value × Nat × (Addr → Value → Option Addr → TS)) → WX
  | [] => Wout
  | (c, i, ts) :: r => fun cls d σ H => ∃ b, PySem.W.exmOne K cls c = some b ∧
      (b = true → ∀ a, H a = none → ts a cls d { nx := fun σ' H' => D.nx (σ'.set i none) H', rt := D.rt, bk := fun σ' H' => D.bk (σ'.set i none) H', ct := fun σ' H' => D.ct (σ'.set i none) H' } (σ.set i (some (.ref a))) H) ∧
      (b = false → wManyA K Wout D r cls d σ H)
inductive HdsA (X : Cx) : List ExceptHandler → List (Value × Nat × (Addr → Value → Option Addr → TS)) → Prop
  | nil : HdsA X [] []
  | cons {x n : Str} {c : Value} {i : Nat} {ts : Addr → Value → Option Addr → TS} {b₀ : Stmt} {suite : List Stmt} {np pos' : Pos} {hds : List ExceptHandler} {l : List (Value × Nat × (Addr → Value → Option Addr → TS))} (hi : X.N[i]? = some n) (hln : X.env.kindOf n = some .local) (hc : Names X x c)
      (hsu : ∀ (a : Addr) (oe : Obj) (cls : Value) (d : Option Addr) (pn : List (Addr × Obj)), Zc cls d oe → (∃ vs, oe.data = .fields vs) → PSs (X.suite a ((a, oe) :: pn)) (b₀ :: suite) (ts a cls d)) (r : HdsA X hds l) :
      HdsA X (.ExceptHandler (some (.Name x np)) (some n) (b₀ :: suite) pos' :: hds) ((c, i, ts) :: l)
theorem ps_try_manyA {X : Cx} {body : List Stmt} {h₀ : ExceptHandler} {hds : List ExceptHandler} {l : List (Value × Nat × (Addr → Value → Option Addr → TS))} {pos : Pos} {tb : WX → TS} {Wout : WX}
    (hs : X.stack = X.env :: X.outer) (hf : X.env.frame = some X.env.locals) (hN : X.N.Nodup) (tk : Takes X Wout)
    (hb : ∀ (W : WX) (pn : List (Addr × Obj)) (xe : Value → Shared → Prop), Takes (X.tr pn xe) W → PassesOwn (model X.prog X.w) X.A X.env xe → PSs (X.tr pn xe) body (tb W))
    (hh : HdsA X (h₀ :: hds) l) : PS X (.Try body (h₀ :: hds) [] [] pos) (fun D σ H => tb (wManyA X.K Wout D l) D σ H) := by
  refine ⟨fun pins s σ H D I h => ?_⟩
  have ok := I.ok
  have hfr : X.A.frames = some (X.env :: X.outer) := by rw [ok.frames, hs]
  refine wpAny_Try_except ?_
  refine wpAny_mono ((hb (wManyA X.K Wout D l) (X.pn ++ pins) (fun e s₁ => wpAny (model X.prog X.w) X.A (noteFrame e X.env) (fun _ s₂ => wpAny (model X.prog X.w) X.A (setFlight e none) (fun _ s₃ =>
    wpAny (model X.prog X.w) X.A (handleBy e X.env (h₀ :: hds)) (SP X pins D) X.xe s₃) X.xe s₂) X.xe s₁) (fun u s' xx => ?_) PassesOwn.looking).run [] s σ H D (I.toTry _) h) (fun f s1 hsp => ?_) (fun e s1 he => he)
  · obtain ⟨a, B, sI, pins', σ', H', cls, d, rfl, J', nb, up, sky, na, os, ag, w⟩ := xx
    have J : Inv X pins σ' H' sI := J'.ofTry ok
    have sky' : Sky B (X.env :: X.outer) a (Zc cls d) X.env.locals s'.heap := by rw [← hs]; exact sky
    show wpAny (model X.prog X.w) X.A (noteFrame (.ref a) X.env) _ _ _
    refine Sky.land Zc.steady hfr hf sky' fun h3 fl3 up3 => ?_
    have J3 : Inv X pins σ' H' { s' with heap := h3 } := J.landed nb fl3.1 (up.trans up3) os ag
    obtain ⟨oe3, vs3, he3, hz3, hd3⟩ := fl3.there
    have notFr : ∀ {h : Heap} {o : Obj} {vs : Array Value}, h.FunFrames B (X.env :: X.outer) → h.get? a = some o → o.data = .fields vs → a ∉ frs (X.env :: X.outer) := fun {h o vs} ff e dd hm => by
      obtain ⟨_, o', e', hnf⟩ := ff.mem hm
      rw [e] at e'; cases e'
      exact hnf _ dd
    have nfr := notFr fl3.2.2.1 he3 hd3
    have nL : a ≠ X.env.locals := fun z => nfr (List.mem_filterMap.mpr ⟨X.env, List.mem_cons_self, by rw [hf, z]⟩)
    have nF : a ∉ X.fs := fun hm => by
      obtain ⟨e, he, q⟩ := List.mem_filterMap.mp hm
      exact nfr (List.mem_filterMap.mpr ⟨e, List.mem_cons_of_mem _ he, q⟩)
    have S3 := J3.suite he3 hd3 na nL nF
    have go : ∀ {hds' : List ExceptHandler} {l' : List (Value × Nat × (Addr → Value → Option Addr → TS))}, HdsA X hds' l' → wManyA X.K Wout D l' cls d σ' H' →
        wpAny (model X.prog X.w) X.A (handleBy (.ref a) X.env hds') (SP X pins D) X.xe { s' with heap := h3 } := by
      intro hds' l' hk
      induction hk with
      | nil =>
        intro w
        refine wpAny_handleBy_nil ?_
        obtain ⟨k1, k2, k3, oe, vs, T, oT, ts', he, hz, hd, h1, hr⟩ := id fl3
        unfold PySem.passOn
        refine wpAny_bind (wpAny_field he hd h1 ?_)
        rw [if_neg (show ¬ ((Value.ref T == Value.none) = true) from by simp)]
        have fin : wpAny (model X.prog X.w) X.A (setFlight (.ref a) X.env.frame) (fun _ s4 => wpAny (model X.prog X.w) X.A (throw (.ref a) : Sem Flow) (SP X pins D) X.xe s4) X.xe { s' with heap := h3 } := by
          rw [hf]
          refine HandSPX.setFlight_upZ fl3 fun h4 hh4 up4 => wpAny_throw (tk _ _ ?_)
          exact ⟨a, B, sI, pins, σ', H', cls, d, rfl, J, nb, (up.trans up3).trans up4, .inr (.inr (by rw [hs]; exact hh4)), na, os, ag, w⟩
        first
          | exact wpAny_bind (wpAny_pure (wpAny_bind fin))
          | exact wpAny_bind fin
      | @cons x n c i ts b₀ suite np pos' hds2 l2 hi hln hc hsu r ih =>
        intro w
        obtain ⟨b, hb1, hyes, hno⟩ := w
        have hloc : Loc X.env.scope n := .inl hln
        refine wpAny_handleBy_cons (codeAny_handlers_test ?_) (by intro q; cases q)
        have LT : PySem.W.Looks (model X.prog X.w) h3 (typeOf (.ref a)) cls := fun A Q E s k q => wpAny_typeOf_ref (k _ _ he3) (by rw [hz3.1]; exact q)
        have LM := PySem.W.exm_one (M := model X.prog X.w) (J3.kIn) LT hb1
        have test : ∀ {Q : Value → Shared → Prop} {E : Value → Shared → Prop}, Q c { s' with heap := h3 } → wpAny (model X.prog X.w) (X.A.mark (some (.ref a))) (eval (.Name x np) X.env) Q E { s' with heap := h3 } := fun {Q E} q => by
          obtain ⟨hg, hdbg, hm | ⟨hm, hv, hnn⟩⟩ := hc
          · exact ld_glob (X := X.suite a ((a, oe3) :: (X.pn ++ pins))) S3 hg hm q hdbg
          · exact ld_blt (X := X.suite a ((a, oe3) :: (X.pn ++ pins))) S3 hg hm hv q hnn hdbg
        refine test (LM.here ?_)
        cases b with
        | true =>
          refine codeAny_handlers_suite_as ?_
          refine HandSPX.lands_againZ fl3 fun h4 fl4 up4 => ?_
          have J4 : Inv X pins σ' H' { s' with heap := h4 } := J.landed nb fl4.1 ((up.trans up3).trans up4) os ag
          obtain ⟨oe4, vs4, he4, hz4, hd4⟩ := fl4.there
          have S4 := J4.suite he4 hd4 na nL nF
          refine store_ok (X := X.suite a ((a, oe4) :: (X.pn ++ pins))) (v := .ref a) S4 hN hi hloc rfl (fun s5 S5 => ?_) (.inr hln)
          refine wpAny_mono ((hsu a oe4 cls d (X.pn ++ pins) hz4 ⟨_, hd4⟩).run [] s5 _ H' _ S5 (hyes rfl a na)) (fun f s6 hsp => ?_) (fun _ _ z => False.elim z)
          have end_ : ∀ {σ6 : L2.St} {H6 : Hp} {Q : Shared → Prop}, Inv (X.suite a ((a, oe4) :: (X.pn ++ pins))) [] σ6 H6 s6 → (∀ s7, Inv X pins (σ6.set i none) H6 s7 → Q s7) →
              wpAny (model X.prog X.w) X.A (do bindName X.env n .none; unbindBehindTheSuite X.env n pos') (fun _ s7 => Q s7) X.xe s6 := fun {σ6 H6 Q} S6 hq => gone_ok (S6.unsuite ok) hN hi hln hq
          cases f with
          | next =>
            obtain ⟨σ6, H6, S6, q6⟩ := hsp
            exact end_ S6 fun s7 J7 => ⟨_, _, J7, q6⟩
          | brk =>
            obtain ⟨σ6, H6, S6, q6⟩ := hsp
            exact end_ S6 fun s7 J7 => ⟨_, _, J7, q6⟩
          | cont =>
            obtain ⟨σ6, H6, S6, q6⟩ := hsp
            exact end_ S6 fun s7 J7 => ⟨_, _, J7, q6⟩
          | ret u =>
            obtain ⟨v6, σ6, H6, S6, r6, q6⟩ := hsp
            exact end_ S6 fun s7 J7 => ⟨_, _, _, J7, r6, q6⟩
        | false =>
          show wpAny _ X.A (handleBy (.ref a) X.env hds2) _ _ _
          exact ih (hno rfl)
    exact go hh w
  · cases f with
    | next =>
      obtain ⟨σ', H', J', q⟩ := hsp
      exact wpAny_execs_nil ⟨σ', H', J'.ofTry ok, q⟩
    | brk =>
      obtain ⟨σ', H', J', q⟩ := hsp
      exact ⟨σ', H', J'.ofTry ok, q⟩
    | cont =>
      obtain ⟨σ', H', J', q⟩ := hsp
      exact ⟨σ', H', J'.ofTry ok, q⟩
    | ret u =>
      obtain ⟨v, σ', H', J', r, q⟩ := hsp
      exact ⟨v, σ', H', J'.ofTry ok, r, q⟩
end U
namespace U
open PySem L2
/-! ### facts of heaps, for the search -/
theorem carry {H H' : Hp} {a : Addr} {o : HO} (s : L2.Same H H') (h : H a = some o) : H' a = some o := s a o h
theorem carryNew {H : Hp} {p a : Addr} {o u : HO} (hp : H p = none) (h : H a = some u) : upd H p o a = some u := (Same.new hp) a u h
theorem freeUp {H : Hp} {p q : Addr} {o : HO} (h : upd H q o p = none) : H p = none := by
  by_cases e : p = q
  · subst e; rw [upd_same] at h; cases h
  · rw [upd_ne e] at h; exact h
theorem freeVia {H H' : Hp} {p : Addr} (s : L2.Same H H') (h : H' p = none) : H p = none := s.free h
theorem sameUp {H H1 : Hp} {p : Addr} {o : HO} (hp : H1 p = none) (s : L2.Same H H1) : L2.Same H (upd H1 p o) := s.trans (Same.new hp)
theorem sameVia {H H1 H2 : Hp} (b : L2.Same H1 H2) (a : L2.Same H H1) : L2.Same H H2 := a.trans b
theorem upd_facts {H H1 : Hp} {p : Addr} {o : HO} (h : upd H p o = H1) (n : H p = none) : L2.Same H H1 ∧ H1 p = some o := by
  subst h
  exact ⟨Same.new n, upd_same⟩
theorem nil_le : ([] : List V).length ≤ sizeLine := by decide
theorem one_le {a : V} : [a].length ≤ sizeLine := by show 1 ≤ sizeLine; decide
theorem two_le {a b : V} : [a, b].length ≤ sizeLine := by show 2 ≤ sizeLine; decide
theorem three_le {a b c : V} : [a, b, c].length ≤ sizeLine := by show 3 ≤ sizeLine; decide
end U
namespace U
open PySem PySem.Spec PyProof.Rows L2 GQ PySem.SeqAt MeetsSeq MeetsSeq2 MeetsSeq3 SeqRoads2
open AutoSeq1 (wpAny_loadPart')
/-- len(o) by the own __len__ -/
def rLenO (C : Addr) (sp : Sp) (E : XK) : List V → Hp → VK → Prop := fun xs H Q => ∃ a dx fs, xs = [.ref a] ∧ H a = some (.ins C dx fs) ∧ sp [.ref a] H (fun v H' => ∃ i : Int, v = .int i ∧ 0 ≤ i ∧ i < 2 ^ 63 ∧ Q (.int i) H') E
theorem call_lenO {X : Cx} {CX : CXT} {n : Nat} {C g : Addr} {sp : Sp} {E : XK} (hs : PySem.W.findIn X.K (.ref C) "__len__" = some (some (.ref g))) (hf : PySem.W.isFn X.K (.ref g) = true) (F : FnR X.prog X.w X.K X.mg X.base CX n g sp) (hr : Room (n + 1) X.A) (hx : Passes CX X E) : CallR X (.builtin "len") (rLenO C sp E) := by
  intro pins s σ H xs us Q I r h
  obtain ⟨a, dx, fs, rfl, ha, q⟩ := h
  obtain rfl := Vals.ref1 r
  obtain ⟨ox, od, J⟩ := ins_inst I ha
  obtain ⟨m, hF⟩ := I.fr
  refine PySem.W.len_K hF I.ok.mod.kin J hs hf ?_
  refine wpAny_mono (wpAny_call (SlX.run_at (us := [.ref a]) (ws := [.ref a]) F (Room.in1 hr) I.env0.in1 hx I (.cons rfl .nil) q)) (fun w s' z => ?_) fun _ _ x => x
  obtain ⟨z', H', I', rz, i, ez, i0, i1, qz⟩ := z
  subst ez
  obtain ⟨t, ew⟩ : ∃ t, w = Value.int i t := rz
  subst ew
  exact ⟨⟨i0, i1⟩, .int i, H', I'.tok _, ⟨_, rfl⟩, qz⟩
/-! ### defs with a star parameter -/
structure StarAt (K : PySem.W.Frag) (x qual : Str) (st : Stmt) (f : Addr) (ps : List Str) (pv : Str) : Prop where
  ex : ∃ fd, Fun K x qual st f fd ∧ ∀ us rest : List Value, us.length = ps.length → bindArgs fd ⟨us ++ rest, []⟩ = (newTuple rest >>= fun t => pure (ps.zip us ++ [(pv, t)]))
theorem StarAt.kp {K : PySem.W.Frag} {x qual : Str} {st : Stmt} {f : Addr} {ps : List Str} {pv : Str} (A : StarAt K x qual st f ps pv) : PySem.W.keepIn K (.ref f) = true := by
  obtain ⟨_, F, _⟩ := A.ex
  exact F.kp
/-- what is asked of the arguments: the named ones, then a new tuple of the rest -/
def spStar (n : Nat) (sp : Sp) : Sp := fun vs H Q E => ∃ ws rest, vs = ws ++ rest ∧ ws.length = n ∧ rest.length ≤ sizeLine ∧ ∀ p, H p = none → sp (ws ++ [V.ref p]) (upd H p (.tup rest)) Q E
section
variable {P : Program} {w : World} {K : PySem.W.Frag} {mg : Str → Option Value} {base : Heap} {x qual pv : Str} {st : Stmt} {f : Addr} {N ps : List Str} {k : Nat} {sp : Sp}
theorem StarAt.okX (B : StarAt K x qual st f ps pv) (S : FnScope N (ps ++ [pv]) (defScope st))
    (walk : ∀ (cdv : Value) (A : Around) (outer : List Env) (s : Shared) (H : Hp) (vs : List V) (Q : VK) (E : XK), Room k (A.deeper (envOfC qual (defScope st) s.heap.objs.size f cdv)) → sp vs H Q E →
      ∃ t, PSs (cxOf (L2.CX P w) P w K mg base N qual (defScope st) f cdv A outer s H E) (defBody st) t ∧ t { nx := fun _ H' => Q .non H', rt := Q } (start N vs) H) : FnR P w K mg base (L2.CX P w) (k + 1) f (spStar ps.length sp) := by
  obtain ⟨fd, F, hb⟩ := B.ex
  obtain ⟨oc, od, kV, doc, pm, an, cdv, ct, osl, rfl, lk, hcd⟩ := F.ex
  exact StX.fn_star lk hcd S StX.cxUp hb fun A outer s H vs Q E hr h => walk cdv A outer s H vs Q E hr h
theorem StarAt.ok (B : StarAt K x qual st f ps pv) (S : FnScope N (ps ++ [pv]) (defScope st))
    (walk : ∀ (cdv : Value) (A : Around) (outer : List Env) (s : Shared) (H : Hp) (vs : List V) (Q : VK) (E : XK), Room k (A.deeper (envOfC qual (defScope st) s.heap.objs.size f cdv)) → sp vs H Q E →
      ∃ t, PSs (cxOf CX0 P w K mg base N qual (defScope st) f cdv A outer s H E).nox (defBody st) t ∧ t { nx := fun _ H' => Q .non H', rt := Q } (start N vs) H) : FnR P w K mg base CX0 (k + 1) f (spStar ps.length sp) := by
  obtain ⟨fd, F, hb⟩ := B.ex
  obtain ⟨oc, od, kV, doc, pm, an, cdv, ct, osl, rfl, lk, hcd⟩ := F.ex
  refine StX.fn_star lk hcd S StX.cxUp_none hb fun A outer s H vs Q E hr h => ?_
  obtain ⟨t, a, b⟩ := walk cdv A outer s H vs Q E hr h
  exact ⟨t, a.nox, b⟩
end
/-! ### == by an own __eq__, inside lists and tuples -/
end U
namespace U
open PySem PySem.Spec PyProof.Rows L2 StX LamX
/-! ### defs with lambdas: the code object's place is told -/
structure CodeAt (K : PySem.W.Frag) (x qual : Str) (st : Stmt) (f c : Addr) (ps : List Str) : Prop where
  ex : ∃ (oc : Value) (od : Option Addr) (kV doc pm : Value) (an : Option Addr) (ct : Value) (osl : Array (Option Value)),
    K.lookup f = some ⟨oc, od, .func (PySem.W.fnOf x qual (defArgs st) (defBody st) (defScope st) .none kV doc pm an (.ref c) ct), osl⟩ ∧ PySem.W.codeIn K (.ref c) qual = true ∧ Binds K (PySem.W.fnOf x qual (defArgs st) (defBody st) (defScope st) .none kV doc pm an (.ref c) ct) ps []
section
variable {P : Program} {w : World} {K : PySem.W.Frag} {mg : Str → Option Value} {base : Heap} {k : Nat} {f c : Addr} {sp : Sp} {x qual : Str} {st : Stmt} {N ps : List Str}
theorem CodeAt.okG (B : CodeAt K x qual st f c ps) (S : FnScope N ps (defScope st)) (len : ∀ vs H Q E, sp vs H Q E → vs.length = ps.length)
    (walk : ∀ (A : Around) (outer : List Env) (s : Shared) (H : Hp) (vs : List V) (Q : VK) (E : XK), A.guards = some [] → Room k (A.deeper (envOfC qual (defScope st) s.heap.objs.size f (.ref c))) → sp vs H Q E →
      ∃ t, PSs (cxOf CX0 P w K mg base N qual (defScope st) f (.ref c) A outer s H E).nox (defBody st) t ∧ t { nx := fun _ H' => Q .non H', rt := Q } (start N vs) H) : FnG P w K mg base CX0 (k + 1) f sp := by
  obtain ⟨oc, od, kV, doc, pm, an, ct, osl, lk, hcd, bi⟩ := B.ex
  intro A outer s H us vs Q E g hr e0 r hs
  have hl := len _ _ _ _ hs
  have kin : K.In s.heap := e0.mod.kin.keeps fun b o e => (e0.bs b o e).1
  have lim : s.heap.NoLimit := e0.mod.nolimit.keeps fun b o e => (e0.bs b o e).1
  have names : ∀ y ∈ ps.zip us, (defScope st).names.lookup y.1 = some .local ∨ ((defScope st).names.lookup y.1 = some .cell ∧ ((cellsFrom (s.heap.objs.size + 1) (defScope st).names []).lookup y.1).isSome = true) := by
    rintro ⟨n, v⟩ hy
    rcases S.par n (List.of_mem_zip hy).1 with q | q
    · exact .inl q
    · exact .inr ⟨q, PySem.W.cellsFrom_some _ _ _ (.inl q)⟩
  have hb : BindsTo s (PySem.W.fnOf x qual (defArgs st) (defBody st) (defScope st) .none kV doc pm an (.ref c) ct) ⟨us, []⟩ (ps.zip us) := by
    have := bi s us kin (by rw [List.append_nil, ← r.length]; exact hl)
    rw [List.append_nil] at this
    exact this
  refine codeAny_call_function hr.depth (kin _ _ lk) rfl S.co S.gen rfl (PySem.W.codeRec_of kin hcd) (hb _ _ _ _ ?_)
  refine wpAny_newFunctionEnv_cells S.kind names fun env he s1 z => ?_
  subst he
  refine ⟨lim.keeps z.toInCall.keep, codeAny_func ?_⟩
  obtain ⟨t, ht, hq⟩ := walk A outer s H vs Q E g (hr.deeper _) hs
  have I : Inv (cxOf CX0 P w K mg base N qual (defScope st) f (.ref c) A outer s H E) [] (start N vs) H s1 := inv_start S hr.hd e0 hl r z
  refine wpAny_mono (ht.nox.run [] s1 (start N vs) H _ I hq) (fun fl s' h' => ?_) fun _ _ h' => h'
  match fl, h' with
  | .ret u, ⟨v, σ', H', J, rv, q⟩ => exact ⟨v, H', J.os, J.bare, J.base, J.hok, rv, q⟩
  | .next, ⟨σ', H', J, q⟩ => exact ⟨.non, H', J.os, J.bare, J.base, J.hok, rfl, q⟩
  | .brk, ⟨_, _, _, q⟩ => exact q.elim
  | .cont, ⟨_, _, _, q⟩ => exact q.elim
end
/-! ### the law's call, tables tracked -/
/-! ### what a lambda's caller makes of its exceptions -/
/-! ### heaps that grow but for the tables -/
end U
namespace U
open PySem PySem.Spec PyProof.Rows L2 StX LamX
end U
namespace U
open PySem PySem.Spec PyProof.Rows L2
/-! ### x not in a tuple, data of any depth -/
end U
namespace U
open PySem PySem.Spec PyProof.Rows L2
/-! ### dicts of ints in a list: in, not in, index -/
end U
namespace U
open PySem PySem.Spec PyProof.Rows L2 StX
end U
namespace U
open PySem PySem.Spec PyProof.Rows L2 StX NdefX
/-! ### a def of a class whose first statement is super().m(..) -/
/-- what is asked of the program around: the file of its code objects, super not hidden at the top -/
structure SupP (P : Program) (file : Str) : Prop where
  file : ((P.main.file : Str) == file) = true
  top : (P.main.scope.names.lookup ("super" : Str)).isSome = false
structure SupAt (K : PySem.W.Frag) (x qual : Str) (st : Stmt) (f c cc D : Addr) (ps : List Str) (file : Str) : Prop where
  ex : ∃ (oc : Value) (od : Option Addr) (kV doc pm : Value) (an : Option Addr) (ct : Value) (osl : Array (Option Value)),
    K.lookup f = some ⟨oc, od, .func (PySem.W.fnX x qual (defArgs st) (defBody st) (defScope st) [("__class__", cc)] .none kV doc pm an (.ref c) ct), osl⟩ ∧ PySem.W.codeIn K (.ref c) qual = true ∧ Binds K (PySem.W.fnX x qual (defArgs st) (defBody st) (defScope st) [("__class__", cc)] .none kV doc pm an (.ref c) ct) ps []
  code : ∃ (ccl : Value) (cdd : Option Addr) (vs : Array Value) (ccs : Array (Option Value)) (tf : Tok), K.lookup c = some ⟨ccl, cdd, .fields vs, ccs⟩ ∧ vs[2]? = some (.str file tf)
  cell : ∃ (cl : Value) (cld : Option Addr) (csl : Array (Option Value)), K.lookup cc = some ⟨cl, cld, .cell (some (.ref D)), csl⟩
  cls : ∃ cd, PySem.W.clsIn K D = some cd
  pos : ((defArgs st).posonlyargs ++ (defArgs st).args).head?.map (·.arg) = ps[0]?
  nosuper : PySem.W.nsIn K mainGlobals "super" = some none
  noop : PySem.W.nsIn K cStatics "thirdparty.any" = some none
  scS : (defScope st).names.lookup ("super" : Str) = some .globalImplicit
  scC : (defScope st).names.lookup ("__class__" : Str) = some .free
/-- the method that super().m finds, for an instance of the class at C -/
structure SupM (K : PySem.W.Frag) (C D : Addr) (m : Str) (f2 : Addr) : Prop where
  sub : PySem.W.mroIn K C (.ref D) = some true
  at_ : PySem.W.ks_superIn K C D m = some (some (.ref f2))
  ty : PySem.W.typeIn K (.ref f2) = some (.type "function")
  fi : PySem.W.fnIn K f2 = true
  cl : (m == ("__class__" : Str)) = false
section
variable {X : Cx} {pins : List (Addr × Obj)} {σ : L2.St} {H : Hp} {s : Shared} {C D dx x f2 : Addr} {fs : List (Str × V)} {m : Str}
/-- super().m(..) run within the def's own code -/
theorem run_super {CX : CXT} {k2 : Nat} {sp2 : Sp} {Q : VK} {E : XK} {t : TA} {body : List Stmt} {p0 p1 apos pos epos : Pos} {e : Expr} {qual : Str} {st : Stmt} {name : Str} {f c cc : Addr} {ps : List Str} {file s0 : Str}
    (B : SupAt X.K name qual st f c cc D ps file) (hP : SupP X.prog file) (M : SupM X.K C D m f2) (F : FnR X.prog X.w X.K X.mg X.base CX k2 f2 sp2) (hr : Room k2 X.A) (hx : Passes CX X E)
    (hsc : X.env.scope = defScope st) (hfu : X.env.func = some f) (hco : X.env.code = .ref c) (hcl : X.env.cells.lookup ("__class__" : Str) = some cc) (hps : ps[0]? = some s0) (hN : X.N[0]? = some s0) (hloc : X.env.scope.names.lookup s0 = some .local)
    (I : Inv X pins σ H s) (hv : σ[0]? = some (some (.ref x))) (ea : H x = some (.ins C dx fs)) (ha : PA X [e] t)
    (h : t σ H fun vs H1 => sp2 (.ref x :: vs) H1 Q E)
    (hint : interactive X.env = false) (hsw : swapsWith (.Call (.Attribute (.Call (.Name "super" p0) [] [] p1) m apos) [e] [] pos) none epos.line X.env = pure false)
    (hst : starEach [e] X.env = [(false, eval e X.env)]) (pl : Sem Bool)
    (he : eval (.Call (.Attribute (.Call (.Name "super" p0) [] [] p1) m apos) [e] [] pos) X.env = (do
      let ov ← attributeBase (.Call (.Name "super" p0) [] [] p1) m X.env (eval (.Call (.Name "super" p0) [] [] p1) X.env)
      standAt apos.atName
      let (f, first) ← holding [ov] (getMethod ov m pl)
      callWith pos f first (backTo pos (starEach [e] X.env)) [])) :
    PySem.wpAt (model X.prog X.w) X.A (.func body X.env) (exec (.Expr (.Call (.Attribute (.Call (.Name "super" p0) [] [] p1) m apos) [e] [] pos) epos) X.env)
      (fun fl s' => fl = .next ∧ ∃ v H2, Inv X pins σ H2 s' ∧ Q v H2) X.xe s := by
  obtain ⟨oc, od, kV, doc, pm, an, ct, osl, lk, hcd, bi⟩ := B.ex
  obtain ⟨ccl, cdd, vs2, ccs, tf, hcode, hvs⟩ := B.code
  obtain ⟨cl0, cld, csl, hcell⟩ := B.cell
  obtain ⟨cdD, hD⟩ := B.cls
  have KX := I.kIn
  obtain ⟨oD, hD1, hD2⟩ : ∃ oD, s.heap.get? D = some oD ∧ oD.data = .cls cdD := by
    unfold PySem.W.clsIn at hD
    split at hD
    · rename_i c d cd' sl ho
      cases hD
      exact ⟨_, KX _ _ ho, rfl⟩
    · cases hD
  obtain ⟨ar, har, har2⟩ : ∃ ar : Arg, ((defArgs st).posonlyargs ++ (defArgs st).args).head? = some ar ∧ ar.arg = s0 := by
    have := B.pos
    rw [hps] at this
    cases z : ((defArgs st).posonlyargs ++ (defArgs st).args).head? with
    | none => rw [z] at this; cases this
    | some ar => rw [z] at this; exact ⟨ar, rfl, Option.some.inj this⟩
  obtain ⟨mA, O, _, _, _, _⟩ := ins_get I.hok ea
  obtain ⟨odx, J, _⟩ := O.look
  refine PySem.ks_wpAt_Expr_any ?_ hint hsw
  refine PySem.ks_wpAt_MethodCall (pl := pl) ?_ he
  refine PySem.ks_wpAt_super_base (env := X.env) (fd := PySem.W.fnX name qual (defArgs st) (defBody st) (defScope st) [("__class__", cc)] .none kV doc pm an (.ref c) ct) (by show X.env.scope.names.lookup _ = _; rw [hsc]; exact B.scS) (by show X.env.scope.names.lookup _ = _; rw [hsc]; exact B.scC) M.cl hfu (KX _ _ lk) rfl (ar := ar) har hco (KX _ _ hcode) rfl hvs hP.file hP.top ?_
  have hgs : X.env.kindOf ("super" : Str) = some .globalImplicit := by show X.env.scope.names.lookup _ = _; rw [hsc]; exact B.scS
  refine PySem.W.ks_loadName_global I.ok.kind hgs ?_
  obtain ⟨mb, h1, h2⟩ := I.mod.blt
  refine Calls.loadGlobal_builtin (by rw [I.ok.glob]; exact I.mod.glob.keeps I.bk) (PySem.W.mg_none_of I.mod.kin I.mod.glob B.nosuper) (by rw [I.ok.blt]; exact h1.keeps I.bk) ((h2 "super" (by decide +kernel)).trans (by rfl)) ⟨rfl, ?_⟩
  refine wpAny_loadName_free I.ok.kind (by show X.env.scope.names.lookup _ = _; rw [hsc]; exact B.scC) hcl ⟨_, KX _ _ hcell, rfl⟩ ?_
  obtain ⟨mL, hns, hal⟩ := I.loc
  obtain ⟨u, ru, hlook⟩ := hal 0 s0 (.ref x) hN hv (Or.inl hloc)
  obtain rfl : u = Value.ref x := ru
  have hmL : mL s0 = some (.ref x) := by
    rcases hlook with ⟨_, z⟩ | ⟨z, _⟩
    · exact z
    · rcases z with z | z
      · rw [show X.env.kindOf s0 = some .local from hloc] at z; cases z
      · rw [show X.env.kindOf s0 = some .local from hloc] at z; cases z
  rw [har2]
  refine wpAny_loadName_local I.ok.kind hloc hns hmL ?_
  obtain ⟨hh, g, d, t0, os⟩ := s
  refine PySem.ks_wpAny_isType_cls hD1 hD2 ⟨rfl, ?_⟩
  refine PySem.ks_wpAny_call_super hD1 hD2 J.at_ J.cls (fun c e => ?_) (PySem.W.looks_mroIn KX M.sub) (fun h' ee kk => ?_)
  · have := J.no
    unfold PySem.W.notCls at this
    rw [e] at this
    exact Bool.noConfusion this
  -- the super object stands; its method
  have I2 : Inv X pins σ H ⟨h', g, d, t0, os⟩ := I.kept (t' := t0) kk
  have KX2 := I2.kIn
  cases hc : PySem.W.clsIn X.K C with
  | none => have := M.at_; unfold PySem.W.ks_superIn at this; rw [hc] at this; cases this
  | some cd =>
    have hm := M.at_
    unfold PySem.W.ks_superIn at hm
    rw [hc] at hm
    obtain ⟨of, hof, hofc⟩ : ∃ of, h'.get? f2 = some of ∧ of.cls = .type "function" := by
      have ht' : (X.K.lookup f2).map (·.cls) = some (.type "function") := M.ty
      cases z : X.K.lookup f2 with
      | none => rw [z] at ht'; cases ht'
      | some of => rw [z] at ht'; exact ⟨of, KX2 _ _ z, Option.some.inj ht'⟩
    refine PySem.ks_wpAny_getMethod_super ee (PySem.W.looks_opaque KX2 B.noop) (l₀ := cd.mro) ?_ rfl KX2 hm hof hofc (PySem.W.ks_ne KX J hc) M.cl ?_
    · exact fun A Q E s k q => wpAny_bind ((PySem.W.looks_clsIn KX2 hc) A _ E s k (wpAny_pure q))
    · have I3 : Inv X ((h'.objs.size, PySem.W.methodObj (.ref f2) (.ref x)) :: pins) σ H ⟨h'.push (PySem.W.methodObj (.ref f2) (.ref x)), g, d, t0 + 1, os⟩ := ClX.met_new I2
      refine ClX.callwith_cm I3 (ClX.base_none I2 (Nat.le_refl _)) M.fi (thn (ha.run pos _ _ σ H _ I3 h) fun us s3 ⟨vs, H2, I4, rv, q2⟩ => ⟨⟨ClX.pin_at I4, I4.kIn⟩, ?_⟩) hst rfl
      exact thn (ClX.run_cm F hr hx I4 rv q2) fun v s4 ⟨z, H3, I5, _, q3⟩ => ⟨rfl, z, H3, I5, q3⟩
end
/-- the def, by its first statement super().m(e) and the rest -/
theorem SupAt.okX {P : Program} {w : World} {K : PySem.W.Frag} {mg : Str → Option Value} {base : Heap} {CX : CXT} {k k2 : Nat} {name qual : Str} {st : Stmt} {f c cc D C f2 : Addr} {N ps : List Str} {file s0 m : Str} {sp sp2 : Sp} {p0 p1 apos pos epos : Pos} {e : Expr} {rest : List Stmt}
    (B : SupAt K name qual st f c cc D ps file) (hP : SupP P file) (M : SupM K C D m f2) (F : FnR P w K mg base CX k2 f2 sp2) (hk : k2 ≤ k)
    (S : NScope N ps ["__class__"] (defScope st)) (hps : ps[0]? = some s0) (hb : defBody st = .Expr (.Call (.Attribute (.Call (.Name "super" p0) [] [] p1) m apos) [e] [] pos) epos :: rest)
    (len : ∀ vs H Q E, sp vs H Q E → vs.length = ps.length)
    (walk : ∀ (A : Around) (outer : List Env) (s : Shared) (H : Hp) (vs : List V) (Q : VK) (E : XK) (X : Cx), X = ncx CX P w K mg base N ⟨name, qual, defArgs st, defBody st, defScope st, [("__class__", cc)], c⟩ f A outer s H E → Room k X.A → sp vs H Q E →
      Passes CX X E ∧ interactive X.env = false ∧ swapsWith (.Call (.Attribute (.Call (.Name "super" p0) [] [] p1) m apos) [e] [] pos) none epos.line X.env = pure false ∧ starEach [e] X.env = [(false, eval e X.env)] ∧
      (∃ pl : Sem Bool, eval (.Call (.Attribute (.Call (.Name "super" p0) [] [] p1) m apos) [e] [] pos) X.env = (do
        let ov ← attributeBase (.Call (.Name "super" p0) [] [] p1) m X.env (eval (.Call (.Name "super" p0) [] [] p1) X.env)
        standAt apos.atName
        let (f, first) ← holding [ov] (getMethod ov m pl)
        callWith pos f first (backTo pos (starEach [e] X.env)) [])) ∧
      ∃ (x dx : Addr) (fs : List (Str × V)) (t : TA), vs[0]? = some (.ref x) ∧ H x = some (.ins C dx fs) ∧ PA X [e] t ∧
        t (startF N vs [none]) H fun us H1 => sp2 (.ref x :: us) H1 (fun _ H2 => ∃ tt, PSs X rest tt ∧ tt { nx := fun _ H' => Q .non H', rt := Q } (startF N vs [none]) H2) E) :
    FnR P w K mg base CX (k + 1) f sp := by
  obtain ⟨oc, od, kV, doc, pm, an, ct, osl, lk, hcd, bi⟩ := B.ex
  intro A outer s H us vs Q E hr e0 r hs
  have hl := len _ _ _ _ hs
  have kin : K.In s.heap := e0.mod.kin.keeps fun b o e => (e0.bs b o e).1
  have lim : s.heap.NoLimit := e0.mod.nolimit.keeps fun b o e => (e0.bs b o e).1
  have hbn : BindsTo s (PySem.W.fnX name qual (defArgs st) (defBody st) (defScope st) [("__class__", cc)] .none kV doc pm an (.ref c) ct) ⟨us, []⟩ (ps.zip us) := by
    have := bi s us kin (by rw [List.append_nil, ← r.length]; exact hl)
    rw [List.append_nil] at this
    exact this
  refine codeAny_call_function hr.depth (kin _ _ lk) rfl S.co S.gen rfl (PySem.W.codeRec_of kin hcd) (hbn _ _ _ _ ?_)
  refine wpAny_newFunctionEnv S.nocell (fun ⟨n, _⟩ hy => S.par n (List.of_mem_zip hy).1) (fun h₁ hns hsb => ⟨lim.fresh _ hsb, ?_⟩) S.kind
  generalize hF : (⟨name, qual, defArgs st, defBody st, defScope st, [(("__class__" : Str), cc)], c⟩ : NF) = FF at walk
  have hFc : FF.cl = [(("__class__" : Str), cc)] := by rw [← hF]
  have hFs : FF.scope = defScope st := by rw [← hF]
  have hFb : FF.body = defBody st := by rw [← hF]
  have hFcc : FF.c = c := by rw [← hF]
  have henv : envF FF f s.heap.objs.size = PySem.W.envX qual (defScope st) s.heap.objs.size f (.ref c) [(("__class__" : Str), cc)] := by rw [← hF]
  have kp : ∀ b o, s.heap.get? b = some o → h₁.get? b = some o := fun b o e => hsb.extBut b o (Nat.ne_of_lt (Heap.lt_size e)) (Heap.get?_push_of_some _ e)
  obtain ⟨cl0, cld, csl, hcell⟩ := B.cell
  have CA : CellsAt FF.cl ["__class__"] [none] s.heap H := by
    rw [hFc]
    refine ⟨rfl, fun y a hy => ?_, fun a b a' h1 h2 => ?_, fun i y hi => ?_⟩
    · have : a = cc := by
        have hm := PySem.mem_of_lookup hy
        simp only [List.mem_singleton] at hm
        exact (Prod.mk.inj hm).2
      subst this
      exact ⟨(e0.bs _ _ (e0.mod.kin _ _ hcell)).2, _, _, kin _ _ hcell, rfl⟩
    · have m1 := PySem.mem_of_lookup h1
      have m2 := PySem.mem_of_lookup h2
      simp only [List.mem_singleton] at m1 m2
      rw [(Prod.mk.inj m1).1, (Prod.mk.inj m2).1]
    · match i, hi with
      | 0, hi =>
        cases hi
        exact ⟨cc, by simp [List.lookup], fun v hv => by cases hv⟩
      | i + 1, hi => simp at hi
  have I : Inv (ncx CX P w K mg base N FF f A outer s H E) [] (startF N vs [none]) H { s with heap := h₁, toks := s.toks + (ps.zip us).length } := inv_startN (by rw [hFs]; exact S) hr.hd e0 hl r CA hns kp
  obtain ⟨hx, hint, hsw, hst, ⟨pl, he⟩, x, dx, fs, t, hv0, ea, ha, hq⟩ := walk A outer s H vs Q E _ rfl (hr.deeper _) hs
  show codeAny _ _ (.func (defBody st) (PySem.W.envX qual (defScope st) s.heap.objs.size f (.ref c) [(("__class__" : Str), cc)])) _ _
  rw [← henv]
  refine PySem.ks_codeAny_funcAt ?_
  rw [hb]
  refine PySem.ks_wpAt_execs_cons ?_
  have hps0 : ps.length ≠ 0 := by
    intro z
    cases ps with
    | nil => cases hps
    | cons a b => cases z
  have hv : (startF N vs [none])[0]? = some (some (.ref x)) := by
    unfold startF
    rw [List.getElem?_append_left (by rw [List.length_map]; omega), List.getElem?_map, hv0]
    rfl
  have hN0 : N[0]? = some s0 := by
    have : (ps ++ [("__class__" : Str)])[0]? = some s0 := by rw [List.getElem?_append_left (by omega)]; exact hps
    rw [← S.pre, List.getElem?_take_of_lt (by simp)] at this
    exact this
  have hloc0 : (defScope st).names.lookup s0 = some .local := S.par s0 (List.mem_of_getElem? hps)
  refine PySem.ks_wpAt_mono (run_super (X := ncx CX P w K mg base N FF f A outer s H E) (body := _) B hP M F ((hr.deeper _).mono hk) hx hFs rfl (by show Value.ref FF.c = _; rw [hFcc]) (by show FF.cl.lookup _ = _; rw [hFc]; simp [List.lookup]) hps hN0 (by show FF.scope.names.lookup s0 = _; rw [hFs]; exact hloc0) I hv ea ha hq hint hsw hst pl he) (fun fl s' hh => ?_) fun e s' hh => hh
  obtain ⟨rfl, _, H2, I2, tt, htt, hqq⟩ := hh
  refine wpAt_of_wpAny ?_
  have fin : ∀ {σ' : L2.St} {H' : Hp} {v : V} {u : Value} {s' : Shared}, Inv (ncx CX P w K mg base N FF f A outer s H E) [] σ' H' s' → L2.RelV v u → Q v H' → CE outer P w H s Q u s' :=
    fun {σ' H' v u s'} J rv q => ⟨v, H', J.os, J.bare, J.base, J.hok, rv, q⟩
  refine wpAny_mono (htt.run [] _ (startF N vs [none]) H2 _ I2 hqq) (fun fl s' hs => ?_) fun e s' hs => hs
  cases fl with
  | ret u =>
    obtain ⟨v, σ', H', J, rv, q⟩ := hs
    exact fin J rv q
  | next =>
    obtain ⟨σ', H', J, q⟩ := hs
    exact fin (v := V.non) (u := Value.none) J rfl q
  | brk =>
    obtain ⟨_, _, _, q⟩ := hs
    exact False.elim q
  | cont =>
    obtain ⟨_, _, _, q⟩ := hs
    exact False.elim q
end U
namespace U
open PySem PySem.Spec PyProof.Rows L2 StX
/-! ### {o!r}, o an instance with its own __repr__ -/
end U
namespace U
open PySem PySem.Spec PyProof.Rows L2 GQ PySem.SeqAt MeetsSeq MeetsSeq2 MeetsSeq3 SeqRoads2
open AutoSeq1 (wpAny_loadPart')
/-! ### == of lists and tuples, with either result -/
/-- D x y H c: == of the two gives c -/
abbrev EqvB := V → V → Hp → Bool → Prop
def MonB (D : EqvB) : Prop := ∀ x y H H' c, Ext H H' → D x y H c → D x y H' c
def EqH (X : Cx) (n : Nat) (D : EqvB) : Prop :=
  ∀ (A : Around) (pins : List (Addr × Obj)) (s : Shared) (σ : L2.St) (H : Hp) (x y : V) (u v : Value) (c : Bool), Sub X n A → Inv X pins σ H s → RelV x u → RelV y v → D x y H c →
    wpAny (model X.prog X.w) A (eqBool u v) (fun r s' => r = c ∧ ∃ H', Inv X pins σ H' s' ∧ Ext H H') X.xe s
section
variable {X : Cx} {n m : Nat} {D D' : EqvB}
theorem EqH.mono (h : EqH X n D) (hn : n ≤ m) : EqH X m D := fun A pins s σ H x y u v c sb => h A pins s σ H x y u v c (sb.mono hn)
theorem EqH.or (h : EqH X n D) (h' : EqH X n D') : EqH X n (fun x y H c => D x y H c ∨ D' x y H c) := fun A pins s σ H x y u v c sb I rx ry d => by
  rcases d with d | d
  · exact h A pins s σ H x y u v c sb I rx ry d
  · exact h' A pins s σ H x y u v c sb I rx ry d
theorem MonB.or (h : MonB D) (h' : MonB D') : MonB (fun x y H c => D x y H c ∨ D' x y H c) := fun x y H H' c e d => d.elim (fun d => .inl (h x y H H' c e d)) fun d => .inr (h' x y H H' c e d)
end
end U
namespace PySem.W
open PySem PySem.Calls PyProof.Rows
end PySem.W
namespace U
open PySem PySem.Spec PyProof.Rows L2 StX
end U
namespace U
open PySem PySem.Spec PyProof.Rows L2 StX
/-! ### C(*xs) -/
end U
namespace U
open PySem PySem.Spec PyProof.Rows L2 GQ PySem.SeqAt MeetsSeq MeetsSeq2 MeetsSeq3 SeqRoads2
open AutoSeq1 (wpAny_loadPart')
/-! ### != of lists, == and != of tuples of any lengths, in: with either result -/
/-- what != says, by what == says -/
def NeH (X : Cx) (n : Nat) (D : EqvB) : Prop :=
  ∀ (A : Around) (pins : List (Addr × Obj)) (s : Shared) (σ : L2.St) (H : Hp) (x y : V) (u v : Value) (c : Bool), Sub X n A → Inv X pins σ H s → RelV x u → RelV y v → D x y H c →
    wpAny (model X.prog X.w) A (richCompare .NotEq u v) (fun r s' => r = .bool (!c) ∧ ∃ H', Inv X pins σ H' s' ∧ Ext H H') X.xe s
section
variable {X : Cx} {n m : Nat} {D D' : EqvB}
theorem NeH.or (h : NeH X n D) (h' : NeH X n D') : NeH X n (fun x y H c => D x y H c ∨ D' x y H c) := fun A pins s σ H x y u v c sb I rx ry d => by
  rcases d with d | d
  · exact h A pins s σ H x y u v c sb I rx ry d
  · exact h' A pins s σ H x y u v c sb I rx ry d
end
end U
namespace U
open PySem PySem.Spec PyProof.Rows L2 StX
open PySem.AutoSeq1 (wpAny_loadPart')
/-! ### enumerate(a tuple) -/
/-! ### a tuple of one item, many times -/
end U
namespace PM
open U
/-! ### one-to-one maps between parts of 0 .. n - 1 -/
abbrev PF := Int → Option Int
structure WF (n : Int) (f : PF) : Prop where
  dom : ∀ x y, f x = some y → 0 ≤ x ∧ x < n ∧ 0 ≤ y ∧ y < n
  inj : ∀ x x' y, f x = some y → f x' = some y → x = x'
def tabN (f : PF) (n : Nat) : List (Int × Int) := (List.range n).filterMap fun (i : Nat) => (f (i : Int)).map fun y => ((i : Int), y)
def tab (n : Int) (f : PF) : List (Int × Int) := tabN f n.toNat
theorem mem_tabN {f : PF} {n : Nat} {x y : Int} : (x, y) ∈ tabN f n ↔ f x = some y ∧ ∃ i : Nat, i < n ∧ x = (i : Int) := by
  unfold tabN
  rw [List.mem_filterMap]
  constructor
  · rintro ⟨i, hi, e⟩
    rw [List.mem_range] at hi
    cases h : f (i : Int) with
    | none => rw [h] at e; cases e
    | some z => rw [h] at e; cases e; exact ⟨h, i, hi, rfl⟩
  · rintro ⟨h, i, hi, rfl⟩
    exact ⟨i, List.mem_range.mpr hi, by rw [h]; rfl⟩
theorem mem_tab {n : Int} {f : PF} (w : WF n f) {x y : Int} : (x, y) ∈ tab n f ↔ f x = some y := by
  unfold tab
  rw [mem_tabN]
  constructor
  · exact fun h => h.1
  · intro h
    have := w.dom x y h
    exact ⟨h, x.toNat, by omega, by omega⟩
theorem keys_tabN (f : PF) (n : Nat) : ((tabN f n).map (·.1)).Nodup := by
  induction n with
  | zero => exact List.nodup_nil
  | succ n ih =>
    have e : tabN f (n + 1) = tabN f n ++ ((f (n : Int)).map fun y => ((n : Int), y)).toList := by
      unfold tabN
      rw [List.range_succ, List.filterMap_append]
      cases h : f (n : Int) <;> simp [h]
    rw [e, List.map_append, List.nodup_append]
    refine ⟨ih, ?_, ?_⟩
    · cases f (n : Int) <;> simp
    · intro a ha b hb e
      subst e
      obtain ⟨p, hp, rfl⟩ := List.mem_map.mp ha
      obtain ⟨x, y⟩ := p
      obtain ⟨_, i, hi, ex⟩ := mem_tabN.mp hp
      cases h : f (n : Int) with
      | none => rw [h] at hb; simp at hb
      | some z =>
        rw [h] at hb
        simp at hb
        omega
theorem keys_tab (n : Int) (f : PF) : ((tab n f).map (·.1)).Nodup := keys_tabN f _
theorem lk_tab {n : Int} {f : PF} (w : WF n f) (x : Int) : lk (tab n f) x = f x := by
  cases h : f x with
  | some y => exact lk_some (keys_tab n f) ((mem_tab w).mpr h)
  | none =>
    cases e : lk (tab n f) x with
    | none => rfl
    | some y =>
      have := (mem_tab w).mp (lk_mem e)
      rw [h] at this; cases this
theorem tab_len (n : Int) (f : PF) : (tab n f).length ≤ n.toNat := by
  unfold tab tabN
  exact Nat.le_trans (List.length_filterMap_le _ _) (by simp)
theorem vals_tab {n : Int} {f : PF} (w : WF n f) : ((tab n f).map (·.2)).Nodup := by
  have k := keys_tab n f
  have key : ∀ l : List (Int × Int), (∀ p ∈ l, f p.1 = some p.2) → (l.map (·.1)).Nodup → (l.map (·.2)).Nodup := by
    intro l
    induction l with
    | nil => intro _ _; exact List.nodup_nil
    | cons p r ih =>
      intro h nd
      rw [List.map_cons, List.nodup_cons] at nd ⊢
      refine ⟨fun hm => ?_, ih (fun q hq => h q (List.mem_cons_of_mem _ hq)) nd.2⟩
      obtain ⟨q, hq, e⟩ := List.mem_map.mp hm
      have h1 := h p List.mem_cons_self
      have h2 := h q (List.mem_cons_of_mem _ hq)
      rw [e] at h2
      have := w.inj _ _ _ h1 h2
      exact nd.1 (by rw [this]; exact List.mem_map.mpr ⟨q, hq, rfl⟩)
  exact key _ (fun p hp => (mem_tab w).mp hp) k
/-! ### the operations -/
def mul (f g : PF) : PF := fun x => (f x).bind g
def idn (n : Int) : PF := fun x => if 0 ≤ x ∧ x < n then some x else none
def emp : PF := fun _ => none
def inv (n : Int) (f : PF) : PF := fun y => ((tab n f).find? fun p => decide (p.2 = y)).map (·.1)
def le (f g : PF) : Prop := ∀ x y, f x = some y → g x = some y
theorem wf_mul {n : Int} {f g : PF} (wf : WF n f) (wg : WF n g) : WF n (mul f g) := by
  refine ⟨fun x y h => ?_, fun x x' y h h' => ?_⟩
  · unfold mul at h
    cases e : f x with
    | none => rw [e] at h; cases h
    | some z =>
      rw [e] at h
      have h1 := wf.dom x z e
      have h2 := wg.dom z y h
      omega
  · unfold mul at h h'
    cases e : f x with
    | none => rw [e] at h; cases h
    | some z =>
      cases e' : f x' with
      | none => rw [e'] at h'; cases h'
      | some z' =>
        rw [e] at h; rw [e'] at h'
        have := wg.inj z z' y h h'
        subst this
        exact wf.inj _ _ _ e e'
theorem wf_emp (n : Int) : WF n emp := ⟨fun _ _ h => (nomatch h), fun _ _ _ h => (nomatch h)⟩
theorem wf_le {n : Int} {f g : PF} (wg : WF n g) (h : le f g) : WF n f := ⟨fun x y e => wg.dom x y (h x y e), fun x x' y e e' => wg.inj _ _ _ (h _ _ e) (h _ _ e')⟩
theorem inv_iff {n : Int} {f : PF} (w : WF n f) {x y : Int} : inv n f y = some x ↔ f x = some y := by
  unfold inv
  constructor
  · intro h
    cases e : (tab n f).find? (fun p => decide (p.2 = y)) with
    | none => rw [e] at h; cases h
    | some p =>
      rw [e] at h
      obtain ⟨a, b⟩ := p
      have h1 := List.find?_some e
      simp only [decide_eq_true_eq] at h1
      have h2 : a = x := Option.some.inj h
      subst h1 h2
      exact (mem_tab w).mp (List.mem_of_find?_eq_some e)
  · intro h
    have hm := (mem_tab w).mpr h
    cases e : (tab n f).find? (fun p => decide (p.2 = y)) with
    | none =>
      have := List.find?_eq_none.mp e _ hm
      simp at this
    | some p =>
      obtain ⟨a, b⟩ := p
      have h1 := List.find?_some e
      simp only [decide_eq_true_eq] at h1
      subst h1
      have h3 := (mem_tab w).mp (List.mem_of_find?_eq_some e)
      show some a = some x
      rw [w.inj _ _ _ h3 h]
theorem wf_inv {n : Int} {f : PF} (w : WF n f) : WF n (inv n f) := by
  refine ⟨fun y x h => ?_, fun y y' x h h' => ?_⟩
  · have := w.dom x y ((inv_iff w).mp h)
    omega
  · have h1 := (inv_iff w).mp h
    have h2 := (inv_iff w).mp h'
    rw [h1] at h2
    exact Option.some.inj h2
/-- a dict of pairs tells f -/
structure DI (l : List (Int × Int)) (f : PF) : Prop where
  nd : (l.map (·.1)).Nodup
  at_ : ∀ x, lk l x = f x
theorem DI.mem {l : List (Int × Int)} {f : PF} (d : DI l f) {x y : Int} : (x, y) ∈ l ↔ f x = some y := by
  rw [← d.at_]
  exact ⟨lk_some d.nd, lk_mem⟩
theorem di_tab {n : Int} {f : PF} (w : WF n f) : DI (tab n f) f := ⟨keys_tab n f, lk_tab w⟩
theorem DI.vals {n : Int} {l : List (Int × Int)} {f : PF} (d : DI l f) (w : WF n f) : (l.map (·.2)).Nodup := by
  obtain ⟨nd, _⟩ := id d
  have key : ∀ r : List (Int × Int), (∀ p ∈ r, f p.1 = some p.2) → (r.map (·.1)).Nodup → (r.map (·.2)).Nodup := by
    intro r
    induction r with
    | nil => intro _ _; exact List.nodup_nil
    | cons p r ih =>
      intro h nd
      rw [List.map_cons, List.nodup_cons] at nd ⊢
      refine ⟨fun hm => ?_, ih (fun q hq => h q (List.mem_cons_of_mem _ hq)) nd.2⟩
      obtain ⟨q, hq, e⟩ := List.mem_map.mp hm
      have h1 := h p List.mem_cons_self
      have h2 := h q (List.mem_cons_of_mem _ hq)
      rw [e] at h2
      have := w.inj _ _ _ h1 h2
      exact nd.1 (by rw [this]; exact List.mem_map.mpr ⟨q, hq, rfl⟩)
  exact key l (fun p hp => d.mem.mp hp) nd
theorem di_of {l : List (Int × Int)} {f : PF} (nd : (l.map (·.1)).Nodup) (h : ∀ x y, (x, y) ∈ l ↔ f x = some y) : DI l f := by
  refine ⟨nd, fun x => ?_⟩
  cases e : f x with
  | some y => exact lk_some nd ((h x y).mpr e)
  | none =>
    cases e2 : lk l x with
    | none => rfl
    | some y =>
      have := (h x y).mp (lk_mem e2)
      rw [e] at this; cases this
end PM
namespace PM
open U
/-! ### powers -/
def iter (f : PF) : Nat → PF
  | 0 => fun x => some x
  | k + 1 => fun x => (iter f k x).bind f
theorem iter_add (f : PF) (a b : Nat) (x : Int) : iter f (a + b) x = (iter f a x).bind (iter f b) := by
  induction b with
  | zero => simp [iter]
  | succ b ih =>
    show (iter f (a + b) x).bind f = _
    rw [ih]
    cases iter f a x <;> rfl
theorem iter_head (f : PF) (k : Nat) (x : Int) : iter f (k + 1) x = (f x).bind (iter f k) := by
  rw [Nat.add_comm, iter_add]; rfl
structure Row (f : PF) (e : Int) (r : List Int) : Prop where
  h0 : r[0]? = some e
  st : ∀ (i : Nat) (a b : Int), r[i]? = some a → r[i + 1]? = some b → f a = some b ∧ b ≠ e
theorem Row.ne {f : PF} {e : Int} {r : List Int} (w : ∀ x x' y, f x = some y → f x' = some y → x = x') (R : Row f e r) : ∀ (i k : Nat) (a : Int), r[i]? = some a → r[i + k + 1]? = some a → False
  | 0, k, a, h1, h2 => by
    rw [R.h0] at h1
    cases h1
    have hk : ∃ b, r[k]? = some b := by
      have : 0 + k + 1 < r.length := (List.getElem?_eq_some_iff.mp h2).1
      exact ⟨_, List.getElem?_eq_getElem (by omega)⟩
    obtain ⟨b, hb⟩ := hk
    have := R.st k b e hb (by rw [Nat.zero_add] at h2; exact h2)
    exact this.2 rfl
  | i + 1, k, a, h1, h2 => by
    have l1 : i + 1 < r.length := (List.getElem?_eq_some_iff.mp h1).1
    have l2 : i + 1 + k + 1 < r.length := (List.getElem?_eq_some_iff.mp h2).1
    obtain ⟨b, hb⟩ : ∃ b, r[i]? = some b := ⟨_, List.getElem?_eq_getElem (by omega)⟩
    obtain ⟨c, hc⟩ : ∃ c, r[i + k + 1]? = some c := ⟨_, List.getElem?_eq_getElem (by omega)⟩
    have e1 := (R.st i b a hb h1).1
    have h2' : r[i + k + 1 + 1]? = some a := by rw [show i + k + 1 + 1 = i + 1 + k + 1 by omega]; exact h2
    have e2 := (R.st (i + k + 1) c a hc h2').1
    have : b = c := w _ _ _ e1 e2
    subst this
    exact Row.ne w R i k b hb hc
theorem nodup_of_get {l : List Int} (h : ∀ (i k : Nat) (a : Int), l[i]? = some a → l[i + k + 1]? = some a → False) : l.Nodup := by
  induction l with
  | nil => exact List.nodup_nil
  | cons x r ih =>
    rw [List.nodup_cons]
    refine ⟨fun hm => ?_, ih fun i k a h1 h2 => ?_⟩
    · obtain ⟨j, hj⟩ := List.mem_iff_getElem?.mp hm
      exact h 0 j x rfl (by rw [Nat.zero_add]; exact hj)
    · refine h (i + 1) k a h1 ?_
      rw [show i + 1 + k + 1 = (i + k + 1) + 1 by omega]
      exact h2
theorem Row.nd {n : Int} {f : PF} {e : Int} {r : List Int} (w : WF n f) (R : Row f e r) : r.Nodup := nodup_of_get (R.ne w.inj)
theorem Row.dom {n : Int} {f : PF} {e : Int} {r : List Int} (w : WF n f) (R : Row f e r) (h1 : 0 ≤ e) (h2 : e < n) : ∀ x ∈ r, 0 ≤ x ∧ x < n := by
  intro x hx
  obtain ⟨i, hi⟩ := List.mem_iff_getElem?.mp hx
  cases i with
  | zero => rw [R.h0] at hi; cases hi; exact ⟨h1, h2⟩
  | succ i =>
    have l1 : i + 1 < r.length := (List.getElem?_eq_some_iff.mp hi).1
    obtain ⟨b, hb⟩ : ∃ b, r[i]? = some b := ⟨_, List.getElem?_eq_getElem (by omega)⟩
    have := w.dom _ _ (R.st i b x hb hi).1
    omega
theorem len_range {l : List Int} {n : Int} (nd : l.Nodup) (h : ∀ x ∈ l, 0 ≤ x ∧ x < n) : l.length ≤ n.toNat := by
  have : l.length ≤ ((List.range n.toNat).map fun (i : Nat) => (i : Int)).length := List.Nodup.length_le_of_subset nd (by
    intro x hx
    have := h x hx
    exact List.mem_map.mpr ⟨x.toNat, List.mem_range.mpr (by omega), Int.toNat_of_nonneg this.1⟩)
  simpa using this
theorem Row.more {f : PF} {e : Int} {pre : List Int} {z y : Int} (R : Row f e (pre ++ [z])) (h : f z = some y) (ne : y ≠ e) : Row f e (pre ++ [z] ++ [y]) := by
  refine ⟨?_, fun i a b h1 h2 => ?_⟩
  · rw [List.getElem?_append_left (by simp)]
    exact R.h0
  · by_cases hi : i + 1 < (pre ++ [z]).length
    · rw [List.getElem?_append_left hi] at h2
      rw [List.getElem?_append_left (by omega)] at h1
      exact R.st i a b h1 h2
    · have l2 : i + 1 < (pre ++ [z] ++ [y]).length := (List.getElem?_eq_some_iff.mp h2).1
      have e1 : i = pre.length := by simp at hi l2; omega
      subst e1
      rw [List.getElem?_append_left (by simp)] at h1
      have z1 : (pre ++ [z])[pre.length]? = some z := by simp
      rw [z1] at h1
      cases h1
      have z2 : (pre ++ [z] ++ [y])[pre.length + 1]? = some y := by simp
      rw [z2] at h2
      cases h2
      exact ⟨h, ne⟩
/-- f along an open row -/
theorem Row.openAt {f : PF} {e : Int} {r : List Int} (R : Row f e r) {z : Int} (hz : r[r.length - 1]? = some z) (hl : 0 < r.length) (ho : f z = none) (i : Nat) (a : Int) (hi : r[i]? = some a) : ∀ j : Nat, iter f j a = r[i + j]?
  | 0 => by rw [Nat.add_zero, hi]; rfl
  | j + 1 => by
    show (iter f j a).bind f = _
    rw [Row.openAt R hz hl ho i a hi j]
    cases e1 : r[i + j]? with
    | none =>
      have h1 := List.getElem?_eq_none_iff.mp e1
      exact (List.getElem?_eq_none_iff.mpr (by omega)).symm
    | some b =>
      show f b = _
      have l1 : i + j < r.length := (List.getElem?_eq_some_iff.mp e1).1
      cases e2 : r[i + (j + 1)]? with
      | some c => exact (R.st (i + j) b c e1 e2).1
      | none =>
        have h2 := List.getElem?_eq_none_iff.mp e2
        have : i + j = r.length - 1 := by omega
        rw [this, hz] at e1
        cases e1
        exact ho
/-- f along a closed row -/
theorem Row.closedAt {f : PF} {e : Int} {r : List Int} (R : Row f e r) {z : Int} (hz : r[r.length - 1]? = some z) (hl : 0 < r.length) (hc : f z = some e) (i : Nat) (a : Int) (hi : r[i]? = some a) : ∀ j : Nat, iter f j a = r[(i + j) % r.length]?
  | 0 => by
    have l1 : i < r.length := (List.getElem?_eq_some_iff.mp hi).1
    rw [Nat.add_zero, Nat.mod_eq_of_lt l1, hi]; rfl
  | j + 1 => by
    show (iter f j a).bind f = _
    rw [Row.closedAt R hz hl hc i a hi j]
    have l1 : (i + j) % r.length < r.length := Nat.mod_lt _ hl
    obtain ⟨b, e1⟩ : ∃ b, r[(i + j) % r.length]? = some b := ⟨_, List.getElem?_eq_getElem l1⟩
    rw [e1]
    show f b = _
    by_cases h : (i + j) % r.length = r.length - 1
    · rw [h, hz] at e1
      cases e1
      rw [hc]
      have : (i + (j + 1)) % r.length = 0 := by
        rw [show i + (j + 1) = (i + j) + 1 by omega, Nat.add_mod, h]
        by_cases h1 : r.length = 1
        · rw [h1]
        · rw [Nat.mod_eq_of_lt (show 1 < r.length by omega), show r.length - 1 + 1 = r.length by omega, Nat.mod_self]
      rw [this, R.h0]
    · have : (i + (j + 1)) % r.length = (i + j) % r.length + 1 := by
        rw [show i + (j + 1) = (i + j) + 1 by omega, Nat.add_mod]
        rw [Nat.mod_eq_of_lt (show 1 < r.length by omega), Nat.mod_eq_of_lt (by omega)]
      rw [this]
      obtain ⟨c, e2⟩ : ∃ c, r[(i + j) % r.length + 1]? = some c := ⟨_, List.getElem?_eq_getElem (by omega)⟩
      rw [e2]
      exact (R.st _ b c e1 e2).1
theorem wf_iter {n : Int} {f : PF} (w : WF n f) : ∀ k : Nat, WF n (iter f (k + 1))
  | 0 => w
  | k + 1 => wf_mul (wf_iter w k) w
end PM
namespace PM
open U
/-! ### the rules of the operators -/
theorem pf_ext {f g : PF} (h : ∀ x y, f x = some y ↔ g x = some y) : f = g := by
  funext x
  cases e : f x with
  | some y => exact ((h x y).mp e).symm
  | none =>
    cases e2 : g x with
    | none => rfl
    | some y => rw [(h x y).mpr e2] at e; cases e
theorem mul_iff {f g : PF} {x z : Int} : mul f g x = some z ↔ ∃ y, f x = some y ∧ g y = some z := by
  unfold mul
  cases e : f x with
  | none => simp
  | some y => simp
theorem mul_assoc (f g h : PF) : mul (mul f g) h = mul f (mul g h) := by
  refine pf_ext fun x z => ?_
  rw [mul_iff, mul_iff]
  constructor
  · rintro ⟨y, h1, h2⟩
    obtain ⟨u, h3, h4⟩ := mul_iff.mp h1
    exact ⟨u, h3, mul_iff.mpr ⟨y, h4, h2⟩⟩
  · rintro ⟨y, h1, h2⟩
    obtain ⟨u, h3, h4⟩ := mul_iff.mp h2
    exact ⟨u, mul_iff.mpr ⟨y, h1, h3⟩, h4⟩
/-! ### parts -/
/-! ### powers -/
end PM
namespace PM
open U
/-! ### rows told by their first element -/
def IsRow (f : PF) (e : Int) (r : List Int) : Prop := ∃ pre z, r = pre ++ [z] ∧ Row f e r ∧ (f z = none ∨ f z = some e)
theorem IsRow.get {f : PF} {e : Int} {r r' : List Int} (h : IsRow f e r) (h' : IsRow f e r') : ∀ (i : Nat) (a : Int), r[i]? = some a → r'[i]? = some a
  | 0, a, e1 => by
    obtain ⟨_, _, _, R, _⟩ := h
    obtain ⟨_, _, _, R', _⟩ := h'
    rw [R.h0] at e1
    rw [R'.h0]
    exact e1
  | i + 1, a, e1 => by
    have ih := IsRow.get h h' i
    obtain ⟨_, _, _, R, _⟩ := h
    obtain ⟨pre', z', q', R', st'⟩ := h'
    have l1 : i + 1 < r.length := (List.getElem?_eq_some_iff.mp e1).1
    obtain ⟨b, hb⟩ : ∃ b, r[i]? = some b := ⟨_, List.getElem?_eq_getElem (by omega)⟩
    obtain ⟨f1, ne⟩ := R.st i b a hb e1
    have hb' := ih b hb
    cases e2 : r'[i + 1]? with
    | some c =>
      have := (R'.st i b c hb' e2).1
      rw [f1] at this
      exact this.symm
    | none =>
      exfalso
      have l2 : i < r'.length := (List.getElem?_eq_some_iff.mp hb').1
      have l3 := List.getElem?_eq_none_iff.mp e2
      subst q'
      rw [List.length_append, List.length_singleton] at l2 l3
      have ei : i = pre'.length := by omega
      subst ei
      have : (pre' ++ [z'])[pre'.length]? = some z' := by simp
      rw [this] at hb'
      cases hb'
      rcases st' with q | q
      · rw [f1] at q; cases q
      · rw [f1] at q; exact ne (Option.some.inj q)
theorem IsRow.uniq {f : PF} {e : Int} {r r' : List Int} (h : IsRow f e r) (h' : IsRow f e r') : r = r' := by
  apply List.ext_getElem?
  intro i
  cases e1 : r[i]? with
  | some a => exact (h.get h' i a e1).symm
  | none =>
    cases e2 : r'[i]? with
    | none => rfl
    | some a => rw [h'.get h i a e2] at e1; cases e1
theorem ex_row {n : Int} {f : PF} {e : Int} (w : WF n f) (h1 : 0 ≤ e) (h2 : e < n) : ∃ r, IsRow f e r := by
  refine Classical.byContradiction fun no => ?_
  have key : ∀ k : Nat, ∃ pre z, pre.length = k ∧ Row f e (pre ++ [z]) := by
    intro k
    induction k with
    | zero => exact ⟨[], e, rfl, rfl, fun i a b h1 h2 => by simp at h2⟩
    | succ k ih =>
      obtain ⟨pre, z, hl, R⟩ := ih
      cases hz : f z with
      | none => exact absurd ⟨_, pre, z, rfl, R, .inl hz⟩ no
      | some y =>
        by_cases hy : y = e
        · subst hy; exact absurd ⟨_, pre, z, rfl, R, .inr hz⟩ no
        · exact ⟨pre ++ [z], y, by simp [hl], R.more hz hy⟩
  obtain ⟨pre, z, hl, R⟩ := key n.toNat
  have := len_range (R.nd w) (R.dom w h1 h2)
  rw [List.length_append, List.length_singleton] at this
  omega
open Classical in
noncomputable def rowN (f : PF) (e : Int) : List Int := if h : ∃ r, IsRow f e r then h.choose else []
theorem rowN_eq {f : PF} {e : Int} {r : List Int} (h : IsRow f e r) : rowN f e = r := by
  have hx : ∃ r, IsRow f e r := ⟨r, h⟩
  unfold rowN
  rw [dif_pos hx]
  exact hx.choose_spec.uniq h
theorem rowN_is {n : Int} {f : PF} {e : Int} (w : WF n f) (h1 : 0 ≤ e) (h2 : e < n) : IsRow f e (rowN f e) := by
  obtain ⟨r, h⟩ := ex_row w h1 h2
  rw [rowN_eq h]
  exact h
theorem IsRow.head {f : PF} {e : Int} {r : List Int} (h : IsRow f e r) : r[0]? = some e := by
  obtain ⟨_, _, _, R, _⟩ := h
  exact R.h0
theorem IsRow.mem {f : PF} {e : Int} {r : List Int} (h : IsRow f e r) : e ∈ r := List.mem_of_getElem? h.head
theorem IsRow.dom {n : Int} {f : PF} {e : Int} {r : List Int} (w : WF n f) (h : IsRow f e r) (h1 : 0 ≤ e) (h2 : e < n) : ∀ x ∈ r, 0 ≤ x ∧ x < n := by
  obtain ⟨_, _, _, R, _⟩ := h
  exact R.dom w h1 h2
theorem IsRow.nd {n : Int} {f : PF} {e : Int} {r : List Int} (w : WF n f) (h : IsRow f e r) : r.Nodup := by
  obtain ⟨_, _, _, R, _⟩ := h
  exact R.nd w
/-- what is no target -/
def nonT (n : Int) (f : PF) (e : Int) : Bool := (inv n f e).isNone
theorem nonT_iff {n : Int} {f : PF} (w : WF n f) {e : Int} : nonT n f e = true ↔ ∀ x, f x ≠ some e := by
  unfold nonT
  rw [Option.isNone_iff_eq_none]
  constructor
  · intro h x hx
    rw [(inv_iff w).mpr hx] at h
    cases h
  · intro h
    cases q : inv n f e with
    | none => rfl
    | some x => exact absurd ((inv_iff w).mp q) (h x)
theorem nonT_in {n : Int} {f : PF} {e e' : Int} {r : List Int} (w : WF n f) (h : nonT n f e = true) (R : IsRow f e' r) (hm : e ∈ r) : e = e' := by
  obtain ⟨i, hi⟩ := List.mem_iff_getElem?.mp hm
  obtain ⟨_, _, _, R, _⟩ := R
  cases i with
  | zero => rw [R.h0] at hi; exact (Option.some.inj hi).symm
  | succ i =>
    have l1 : i + 1 < r.length := (List.getElem?_eq_some_iff.mp hi).1
    obtain ⟨b, hb⟩ : ∃ b, r[i]? = some b := ⟨_, List.getElem?_eq_getElem (by omega)⟩
    exact absurd (R.st i b e hb hi).1 ((nonT_iff w).mp h b)
/-! ### which rows are begun -/
noncomputable def seenL (f : PF) (s : List Int) : List Int := (s.map (rowN f)).flatten
theorem mem_seenL {f : PF} {s : List Int} {x : Int} : x ∈ seenL f s ↔ ∃ e ∈ s, x ∈ rowN f e := by
  unfold seenL
  rw [List.mem_flatten]
  constructor
  · rintro ⟨r, hr, hx⟩
    obtain ⟨e, he, rfl⟩ := List.mem_map.mp hr
    exact ⟨e, he, hx⟩
  · rintro ⟨e, he, hx⟩
    exact ⟨_, List.mem_map.mpr ⟨e, he, rfl⟩, hx⟩
noncomputable def stp (f : PF) (s : List Int) (x : Int) : List Int := if x ∈ seenL f s then s else s ++ [x]
noncomputable def selL (f : PF) (b l : List Int) : List Int := l.foldl (stp f) b
theorem selL_append (f : PF) (b l m : List Int) : selL f b (l ++ m) = selL f (selL f b l) m := by
  unfold selL
  rw [List.foldl_append]
theorem selL_one (f : PF) (b l : List Int) (x : Int) : selL f b (l ++ [x]) = stp f (selL f b l) x := by
  rw [selL_append]
  rfl
theorem selL_sub (f : PF) : ∀ (l b : List Int), ∃ c, selL f b l = b ++ c ∧ c.Sublist l ∧ ∀ x ∈ c, x ∉ seenL f b
  | [], b => ⟨[], by simp [selL], List.Sublist.slnil, fun x h => (nomatch h)⟩
  | x :: l, b => by
    by_cases h : x ∈ seenL f b
    · obtain ⟨c, h1, h2, h3⟩ := selL_sub f l b
      refine ⟨c, ?_, h2.cons x, h3⟩
      rw [← h1]
      show selL f (stp f b x) l = _
      unfold stp
      rw [if_pos h]
    · obtain ⟨c, h1, h2, h3⟩ := selL_sub f l (b ++ [x])
      refine ⟨x :: c, ?_, h2.cons_cons x, fun y hy => ?_⟩
      · rw [show b ++ x :: c = b ++ [x] ++ c by simp, ← h1]
        show selL f (stp f b x) l = _
        unfold stp
        rw [if_neg h]
      · rcases List.mem_cons.mp hy with rfl | hy
        · exact h
        · intro hs
          obtain ⟨e, he, hx⟩ := mem_seenL.mp hs
          exact h3 y hy (mem_seenL.mpr ⟨e, List.mem_append_left _ he, hx⟩)
def rgI (n : Nat) : List Int := (List.range n).map fun (i : Nat) => (i : Int)
theorem mem_rgI {n : Nat} {x : Int} : x ∈ rgI n ↔ 0 ≤ x ∧ x < (n : Int) := by
  unfold rgI
  rw [List.mem_map]
  constructor
  · rintro ⟨i, hi, rfl⟩
    rw [List.mem_range] at hi
    omega
  · rintro ⟨h1, h2⟩
    exact ⟨x.toNat, List.mem_range.mpr (by omega), by omega⟩
theorem rgI_succ (n : Nat) : rgI (n + 1) = rgI n ++ [(n : Int)] := by
  unfold rgI
  rw [List.range_succ, List.map_append]
  rfl
theorem rgI_lt (n : Nat) : (rgI n).Pairwise (· < ·) := by
  induction n with
  | zero => exact List.Pairwise.nil
  | succ n ih =>
    rw [rgI_succ, List.pairwise_append]
    refine ⟨ih, List.pairwise_singleton _ _, fun a ha b hb => ?_⟩
    have := mem_rgI.mp ha
    rw [List.mem_singleton] at hb
    omega
theorem nodup_of_lt {l : List Int} (h : l.Pairwise (· < ·)) : l.Nodup := List.Pairwise.imp (fun {a b} h => by omega) h
def nons (n : Int) (f : PF) : List Int := (rgI n.toNat).filter (nonT n f)
theorem nons_dom {n : Int} {f : PF} {e : Int} (h : e ∈ nons n f) : 0 ≤ e ∧ e < n ∧ nonT n f e = true := by
  obtain ⟨h1, h2⟩ := List.mem_filter.mp h
  have := mem_rgI.mp h1
  exact ⟨this.1, by omega, h2⟩
theorem sel_nons {n : Int} {f : PF} (w : WF n f) : ∀ (l b : List Int), (∀ e ∈ b ++ l, 0 ≤ e ∧ e < n ∧ nonT n f e = true) → (b ++ l).Nodup → selL f b l = b ++ l
  | [], b, _, _ => by simp [selL]
  | x :: l, b, h, nd => by
    have e1 : b ++ x :: l = b ++ [x] ++ l := by simp
    have hx : x ∉ seenL f b := by
      intro hs
      obtain ⟨e, he, hm⟩ := mem_seenL.mp hs
      have h1 := h e (List.mem_append_left _ he)
      have h2 := h x (List.mem_append_right _ List.mem_cons_self)
      have := nonT_in w h2.2.2 (rowN_is w h1.1 h1.2.1) hm
      subst this
      exact (List.nodup_append.mp nd).2.2 x he x List.mem_cons_self rfl
    have := sel_nons w l (b ++ [x]) (by rw [← e1]; exact h) (by rw [← e1]; exact nd)
    rw [e1, ← this]
    show selL f (stp f b x) l = _
    unfold stp
    rw [if_neg hx]
/-! ### closed rows -/
noncomputable def clo (f : PF) (e : Int) : Bool := match (rowN f e).getLast? with
  | some z => (f z).isSome
  | none => false
theorem clo_eq {f : PF} {e z : Int} {pre : List Int} (h : IsRow f e (pre ++ [z])) : clo f e = (f z).isSome := by
  unfold clo
  rw [rowN_eq h, List.getLast?_append]
  rfl
theorem clo_non {n : Int} {f : PF} {e : Int} (w : WF n f) (h1 : 0 ≤ e) (h2 : e < n) (h : nonT n f e = true) : clo f e = false := by
  obtain ⟨r, hr⟩ := ex_row w h1 h2
  obtain ⟨pre, z, q, R, st⟩ := id hr
  subst q
  rw [clo_eq hr]
  rcases st with st | st
  · rw [st]; rfl
  · exact absurd st ((nonT_iff w).mp h z)
theorem iter_inv {n : Int} {f : PF} (w : WF n f) : ∀ (k : Nat) (x y : Int), iter (inv n f) k x = some y → iter f k y = some x
  | 0, x, y, h => by
    have : x = y := Option.some.inj h
    subst this
    rfl
  | k + 1, x, y, h => by
    have h : (iter (inv n f) k x).bind (inv n f) = some y := h
    cases e : iter (inv n f) k x with
    | none => rw [e] at h; cases h
    | some z =>
      rw [e] at h
      have h1 := (inv_iff w).mp h
      rw [iter_head, h1]
      exact iter_inv w k x z e
theorem clo_of {n : Int} {f : PF} {e : Int} (w : WF n f) (h1 : 0 ≤ e) (h2 : e < n) (h : ∀ e', 0 ≤ e' → e' < n → nonT n f e' = true → e ∉ rowN f e') : clo f e = true := by
  obtain ⟨r, hr⟩ := ex_row w h1 h2
  obtain ⟨pre, z, q, R, st⟩ := id hr
  subst q
  rw [clo_eq hr]
  rcases st with st | st
  · exfalso
    have lz : (pre ++ [z])[(pre ++ [z]).length - 1]? = some z := by simp
    have op := R.openAt lz (by simp) st 0 e R.h0
    obtain ⟨r', hr'⟩ := ex_row (wf_inv w) h1 h2
    obtain ⟨pre', z', q', R', st'⟩ := id hr'
    subst q'
    have lz' : (pre' ++ [z'])[(pre' ++ [z']).length - 1]? = some z' := by simp
    rcases st' with st' | st'
    · have hz' : nonT n f z' = true := by unfold nonT; rw [st']; rfl
      have dz := hr'.dom (wf_inv w) h1 h2 z' (by simp)
      have op' := R'.openAt lz' (by simp) st' 0 e R'.h0 pre'.length
      have e1 : (pre' ++ [z'])[0 + pre'.length]? = some z' := by simp
      rw [e1] at op'
      have it := iter_inv w _ _ _ op'
      refine h z' dz.1 dz.2 hz' ?_
      obtain ⟨r0, hr0⟩ := ex_row w dz.1 dz.2
      rw [rowN_eq hr0]
      obtain ⟨p0, z0, q0, R0, st0⟩ := id hr0
      subst q0
      have l0 : (p0 ++ [z0])[(p0 ++ [z0]).length - 1]? = some z0 := by simp
      have o0 : f z0 = none := by
        rcases st0 with q | q
        · exact q
        · exact absurd q ((nonT_iff w).mp hz' z0)
      have := R0.openAt l0 (by simp) o0 0 z' R0.h0 pre'.length
      rw [it] at this
      exact List.mem_of_getElem? this.symm
    · have cl := R'.closedAt lz' (by simp) st' 0 e R'.h0 (pre' ++ [z']).length
      rw [Nat.zero_add, Nat.mod_self, R'.h0] at cl
      have it := iter_inv w _ _ _ cl
      rw [op (pre' ++ [z']).length] at it
      have l1 : (pre' ++ [z']).length = pre'.length + 1 := by simp
      rw [l1] at it
      exact R.ne w.inj 0 pre'.length e R.h0 (by rw [show 0 + pre'.length + 1 = 0 + (pre'.length + 1) by omega]; exact it)
  · rw [st]; rfl
/-! ### all parts -/
noncomputable def cycS (n : Int) (f : PF) : List Int := (selL f (nons n f) (rgI n.toNat)).drop (nons n f).length
theorem cycS_eq (n : Int) (f : PF) : selL f (nons n f) (rgI n.toNat) = nons n f ++ cycS n f := by
  obtain ⟨c, h, _, _⟩ := selL_sub f (rgI n.toNat) (nons n f)
  unfold cycS
  rw [h, List.drop_left]
theorem cycS_sub (n : Int) (f : PF) : (cycS n f).Sublist (rgI n.toNat) ∧ ∀ x ∈ cycS n f, x ∉ seenL f (nons n f) := by
  obtain ⟨c, h, h1, h2⟩ := selL_sub f (rgI n.toNat) (nons n f)
  rw [cycS_eq] at h
  have := List.append_cancel_left h
  rw [this]
  exact ⟨h1, h2⟩
theorem cycS_dom {n : Int} {f : PF} {e : Int} (h : e ∈ cycS n f) : 0 ≤ e ∧ e < n := by
  have := mem_rgI.mp ((cycS_sub n f).1.subset h)
  exact ⟨this.1, by omega⟩
theorem cycS_clo {n : Int} {f : PF} (w : WF n f) {e : Int} (h : e ∈ cycS n f) : clo f e = true := by
  have d := cycS_dom h
  refine clo_of w d.1 d.2 fun e' h1 h2 h3 hm => ?_
  refine (cycS_sub n f).2 e h (mem_seenL.mpr ⟨e', ?_, hm⟩)
  exact List.mem_filter.mpr ⟨mem_rgI.mpr ⟨h1, by omega⟩, h3⟩
theorem nons_lt (n : Int) (f : PF) : (nons n f).Pairwise (· < ·) := (rgI_lt _).sublist List.filter_sublist
theorem cycS_lt (n : Int) (f : PF) : (cycS n f).Pairwise (· < ·) := (rgI_lt _).sublist (cycS_sub n f).1
theorem sel_all {n : Int} {f : PF} (w : WF n f) : selL f [] (nons n f ++ rgI n.toNat) = nons n f ++ cycS n f := by
  rw [selL_append, sel_nons w (nons n f) [] (fun e h => nons_dom h) (by simpa using nodup_of_lt (nons_lt n f)), List.nil_append, cycS_eq]
/-! ### ordered by the first elements -/
end PM
namespace PM
open U
/-! ### powers by the law's own way; great exponents -/
def pk (n : Int) (f : PF) : Nat → PF
  | 0 => idn n
  | k + 1 => iter f (k + 1)
end PM
namespace PM
open U
/-! ### where powers repeat -/
noncomputable def lens (f : PF) (s : List Int) : List Nat := s.map fun e => (rowN f e).length
theorem sel_cov {n : Int} {f : PF} (w : WF n f) : ∀ (l b : List Int) (x : Int), x ∈ l → 0 ≤ x → x < n → x ∈ seenL f (selL f b l)
  | [], b, x, h, _, _ => nomatch h
  | y :: l, b, x, h, h1, h2 => by
    show x ∈ seenL f (selL f (stp f b y) l)
    rcases List.mem_cons.mp h with rfl | h
    · have hx : x ∈ seenL f (stp f b x) := by
        unfold stp
        by_cases hs : x ∈ seenL f b
        · rw [if_pos hs]; exact hs
        · rw [if_neg hs]
          exact mem_seenL.mpr ⟨x, by simp, (rowN_is w h1 h2).mem⟩
      obtain ⟨c, hc, _, _⟩ := selL_sub f l (stp f b x)
      obtain ⟨e, he, hm⟩ := mem_seenL.mp hx
      rw [hc]
      exact mem_seenL.mpr ⟨e, List.mem_append_left _ he, hm⟩
    · exact sel_cov w l _ x h h1 h2
theorem cover {n : Int} {f : PF} (w : WF n f) {x : Int} (h1 : 0 ≤ x) (h2 : x < n) : ∃ e ∈ nons n f ++ cycS n f, x ∈ rowN f e := by
  have := sel_cov w (rgI n.toNat) (nons n f) x (mem_rgI.mpr ⟨h1, by omega⟩) h1 h2
  rw [cycS_eq] at this
  exact mem_seenL.mp this
theorem iter_out {n : Int} {f : PF} (w : WF n f) {x : Int} (hx : ¬ (0 ≤ x ∧ x < n)) {k : Nat} (hk : 1 ≤ k) : iter f k x = none := by
  rw [show k = k - 1 + 1 by omega, iter_head]
  cases e : f x with
  | none => rfl
  | some y => exact absurd ⟨(w.dom x y e).1, (w.dom x y e).2.1⟩ hx
/-- f along a chain -/
theorem chain_at {n : Int} {f : PF} (w : WF n f) {e : Int} (he : e ∈ nons n f) {i : Nat} {a : Int} (hi : (rowN f e)[i]? = some a) (j : Nat) : iter f j a = (rowN f e)[i + j]? := by
  obtain ⟨h1, h2, h3⟩ := nons_dom he
  obtain ⟨pre, z, q, R, st⟩ := rowN_is w h1 h2
  have hr := rowN_is w h1 h2
  have hc := clo_non w h1 h2 h3
  rw [q] at hr
  rw [clo_eq hr] at hc
  rw [q] at R hi ⊢
  refine R.openAt (z := z) (by simp) (by simp) ?_ i a hi j
  cases e : f z with
  | none => rfl
  | some y => rw [e] at hc; cases hc
/-- f along a cycle -/
theorem cycle_at {n : Int} {f : PF} (w : WF n f) {e : Int} (he : e ∈ cycS n f) {i : Nat} {a : Int} (hi : (rowN f e)[i]? = some a) (j : Nat) : iter f j a = (rowN f e)[(i + j) % (rowN f e).length]? := by
  obtain ⟨h1, h2⟩ := cycS_dom he
  obtain ⟨pre, z, q, R, st⟩ := rowN_is w h1 h2
  have hr := rowN_is w h1 h2
  have hc := cycS_clo w he
  rw [q] at hr
  rw [clo_eq hr] at hc
  rw [q] at R hi ⊢
  refine R.closedAt (z := z) (by simp) (by simp) ?_ i a hi j
  rcases st with st | st
  · rw [st] at hc; cases hc
  · exact st
theorem row_pos {n : Int} {f : PF} (w : WF n f) {e : Int} (h1 : 0 ≤ e) (h2 : e < n) : 0 < (rowN f e).length := by
  obtain ⟨pre, z, q, _, _⟩ := rowN_is w h1 h2
  rw [q]
  simp
theorem row_head {n : Int} {f : PF} (w : WF n f) {e : Int} (h1 : 0 ≤ e) (h2 : e < n) : (rowN f e)[0]? = some e := (rowN_is w h1 h2).head
theorem row_inj {n : Int} {f : PF} (w : WF n f) {e : Int} (h1 : 0 ≤ e) (h2 : e < n) {i j : Nat} (hi : i < (rowN f e).length) (h : (rowN f e)[i]? = (rowN f e)[j]?) : i = j := by
  have nd := (rowN_is w h1 h2).nd w
  rw [List.getElem?_eq_getElem hi] at h
  have hj := (List.getElem?_eq_some_iff.mp h.symm).1
  rw [List.getElem?_eq_getElem hj] at h
  have h := Option.some.inj h
  have pw := List.pairwise_iff_getElem.mp nd
  rcases Nat.lt_trichotomy i j with hl | hl | hl
  · exact absurd h (pw i j hi hj hl)
  · exact hl
  · exact absurd h.symm (pw j i hj hi hl)
end PM
/-! a dict comprehension with two clauses: {k: v for a in x for b in y} -/
namespace DC2
open PySem PySem.Spec PyProof.Rows L2
/-- the expression -/
abbrev ex2 (kx vx a0 x0 a1 x1 : Expr) (sc : Scope) (ps : Pos) : Expr := .DictComp kx vx [⟨a0, x0, [], 0⟩, ⟨a1, x1, [], 0⟩] sc ps
section
variable {kx vx a0 x0 a1 x1 : Expr} {sc : Scope} {ps : Pos} {env : Env} {itv : Value} {D : Addr}
theorem turn_out (acc : Value) : compTurn (ex2 kx vx a0 x0 a1 x1 sc ps) 0 itv acc env = (do
      standAt x0.pos
      match ← pyNext itv with
      | none => pure (.done .next)
      | some u =>
        letOwnedTupleGo a0 itv u
        assign a0 env u
        let y ← eval x1 env
        standAt x1.pos
        let y ← foldedSetIterable x1 env y
        let _ ← runOwn (.compStart (ex2 kx vx a0 x0 a1 x1 sc ps) 1 (← holding [y] (pyIter y)) acc env) env
        again (.compLoop (ex2 kx vx a0 x0 a1 x1 sc ps) 0 itv acc env)) := by rfl
theorem turn_in : compTurn (ex2 kx vx a0 x0 a1 x1 sc ps) 1 itv (.ref D) env = (do
      standAt x1.pos
      match ← pyNext itv with
      | none => pure (.done .next)
      | some u =>
        letOwnedTupleGo a1 itv u
        assign a1 env u
        (do
          let kw ← eval kx env
          let vw ← holding [kw] (eval vx env)
          standAt { kx.pos with endLine := vx.pos.endLine, endCol := vx.pos.endCol }
          holding [kw, vw] (dictSet D kw vw))
        again (.compLoop (ex2 kx vx a0 x0 a1 x1 sc ps) 1 itv (.ref D) env)) := by rfl
variable {pr : Program} {wo : World} {A : Around} {R : Result → Shared → Prop}
/-- what an error in the loop leaves -/
abbrev ErrL (pr : Program) (wo : World) (A : Around) (env : Env) (R : Result → Shared → Prop) : Value → Shared → Prop := notedBy (model pr wo) A env fun x z => R (.error x) z
theorem loop_out {acc : Value} (hs : ∀ y, foldedSetIterable x1 env y = pure y) (I : Nat → Shared → Prop)
    (step : ∀ n z, I n z → wpAny (model pr wo) A (pyNext itv) (fun r z1 => match r with
      | none => R (.ok .next) z1
      | some u => wpAny (model pr wo) A (letOwnedTupleGo a0 itv u) (fun _ z2 => wpAny (model pr wo) A (assign a0 env u) (fun _ z3 =>
          wpAny (model pr wo) A (eval x1 env) (fun y z4 => wpAny (model pr wo) A (pyIter y) (fun it1 z5 =>
            codeAny (model pr wo) A (.compStart (ex2 kx vx a0 x0 a1 x1 sc ps) 1 it1 acc env) (fun r z6 => match r with
              | .ok _ => ∃ m, m < n ∧ I m z6
              | .error _ => False) z5) (ErrL pr wo A env R) z4) (ErrL pr wo A env R) z3) (ErrL pr wo A env R) z2) (ErrL pr wo A env R) z1) (ErrL pr wo A env R) z)
    (n : Nat) {z : Shared} (h : I n z) : codeAny (model pr wo) A (.compLoop (ex2 kx vx a0 x0 a1 x1 sc ps) 0 itv acc env) R z := by
  refine codeAny_loop rfl I (fun n z hI => ?_) n h
  show wpAny _ A ((compTurn (ex2 kx vx a0 x0 a1 x1 sc ps) 0 itv acc env).onRaise (fun x => do noteFrame x env; theTreesLotGoes x)) _ _ z
  refine wpAny_noted ?_
  rw [turn_out]
  refine wpAny_bind (wpAny_standAt (wpAny_bind (wpAny_mono (step n z hI) (fun r z1 g1 => ?_) fun _ _ q => q)))
  cases r with
  | none => exact wpAny_pure g1
  | some u =>
    refine wpAny_bind (wpAny_mono g1 (fun _ z2 g2 => ?_) fun _ _ q => q)
    refine wpAny_bind (wpAny_mono g2 (fun _ z3 g3 => ?_) fun _ _ q => q)
    refine wpAny_bind (wpAny_mono g3 (fun y z4 g4 => ?_) fun _ _ q => q)
    refine wpAny_bind (wpAny_standAt (wpAny_bind (wpAny_of_eq (hs y) (wpAny_bind (wpAny_holding (wpAny_mono g4 (fun it1 z5 g5 => ?_) fun _ _ q => q))))))
    refine wpAny_bind (wpAny_runOwn ?_)
    rw [Around.mark_none]
    refine codeAny_mono g5 fun r z6 hr => ?_
    cases r with
    | ok f =>
      first
        | exact wpAny_pure ⟨rfl, hr⟩
        | exact wpAny_bind (wpAny_pure (wpAny_pure ⟨rfl, hr⟩))
    | error e => exact hr.elim
theorem loop_in (I : Nat → Shared → Prop)
    (step : ∀ n z, I n z → wpAny (model pr wo) A (pyNext itv) (fun r z1 => match r with
      | none => R (.ok .next) z1
      | some u => wpAny (model pr wo) A (letOwnedTupleGo a1 itv u) (fun _ z2 => wpAny (model pr wo) A (assign a1 env u) (fun _ z3 =>
          wpAny (model pr wo) A (eval kx env) (fun kw z4 => wpAny (model pr wo) A (eval vx env) (fun vw z5 =>
            wpAny (model pr wo) A (dictSet D kw vw) (fun _ z6 => ∃ m, m < n ∧ I m z6) (ErrL pr wo A env R) z5) (ErrL pr wo A env R) z4) (ErrL pr wo A env R) z3) (ErrL pr wo A env R) z2) (ErrL pr wo A env R) z1) (ErrL pr wo A env R) z)
    (n : Nat) {z : Shared} (h : I n z) : codeAny (model pr wo) A (.compLoop (ex2 kx vx a0 x0 a1 x1 sc ps) 1 itv (.ref D) env) R z := by
  refine codeAny_loop rfl I (fun n z hI => ?_) n h
  show wpAny _ A ((compTurn (ex2 kx vx a0 x0 a1 x1 sc ps) 1 itv (.ref D) env).onRaise (fun x => do noteFrame x env; theTreesLotGoes x)) _ _ z
  refine wpAny_noted ?_
  rw [turn_in]
  refine wpAny_bind (wpAny_standAt (wpAny_bind (wpAny_mono (step n z hI) (fun r z1 g1 => ?_) fun _ _ q => q)))
  cases r with
  | none => exact wpAny_pure g1
  | some u =>
    refine wpAny_bind (wpAny_mono g1 (fun _ z2 g2 => ?_) fun _ _ q => q)
    refine wpAny_bind (wpAny_mono g2 (fun _ z3 g3 => ?_) fun _ _ q => q)
    exact wpAny_bind (wpAny_bind (wpAny_mono g3 (fun kw z4 g4 => wpAny_bind (wpAny_holding (wpAny_mono g4 (fun vw z5 g5 => wpAny_bind (wpAny_standAt (wpAny_holding (wpAny_mono g5 (fun _ z6 g6 => wpAny_pure ⟨rfl, g6⟩) fun _ _ q => q)))) fun _ _ q => q))) fun _ _ q => q))
theorem start_in {acc : Value} {z : Shared} (h0 : codeAny (model pr wo) A (.compLoop (ex2 kx vx a0 x0 a1 x1 sc ps) 1 itv acc env) R z)
    (h : wpAny (model pr wo) A (pyIter itv) (fun it' z' => codeAny (model pr wo) A (.compLoop (ex2 kx vx a0 x0 a1 x1 sc ps) 1 it' acc env) R z') (ErrL pr wo A env R) z) :
    codeAny (model pr wo) A (.compStart (ex2 kx vx a0 x0 a1 x1 sc ps) 1 itv acc env) R z := by
  refine codeAny_of_tree ?_
  show wpAny _ _ ((compStart (ex2 kx vx a0 x0 a1 x1 sc ps) 1 itv acc env).onRaise (fun x => do noteFrame x env; standAt theWindowsPlace)) _ _ z
  refine wpAny_notedAt ?_
  unfold compStart
  show wpAny _ _ (ask >>= _) _ _ z
  refine wpAny_bind (wpAny_askSetting (wpAny_ite ?_))
  split
  · first
      | exact wpAny_bind (wpAny_pure (wpAny_pure ⟨rfl, h0⟩))
      | exact wpAny_pure ⟨rfl, h0⟩
  · first
      | exact wpAny_bind (wpAny_rule (wpAny_bind (wpAny_standAt (wpAny_bind (wpAny_mono h (fun _ _ q => wpAny_pure ⟨rfl, q⟩) fun _ _ x => x)))))
      | (refine wpAny_bind (wpAny_rule ?_); show wpAny _ _ (standAt x1.pos >>= _) _ _ z; exact wpAny_bind (wpAny_standAt (wpAny_bind (wpAny_mono h (fun _ _ q => wpAny_pure ⟨rfl, q⟩) fun _ _ x => x))))
end
section
variable {X : Cx}
/-- D the new dict; behind the first clause's store the second source's own loop, from which Nx is reached. vs: the block's names, vs1: the second target's -/
def tDc2 (wi : TI) (g : TG) (wi1 : TI) (g1 : TG) (tk tv : TE) (vs vs1 : List Nat) : TE := fun σ H Q => wi σ H fun J H1 => ∀ D, H1 D = none → ∃ W : Nat → Nat → Hp → Prop, (∃ m, W 0 m (upd H1 D (.dK []))) ∧ ∀ i m H, W i m H →
  (J.stop i H ∧ Q (.ref D) H) ∨ (J.go i H ∧ ∃ Nx : Hp → Prop, (∀ H', Nx H' → ∃ m', m' < m ∧ W (i + 1) m' H') ∧ ∀ x H', J.yld i H x H' → g x (wipe σ vs) H' fun σ2 H2 => wipe σ2 vs = wipe σ vs ∧
    wi1 σ2 H2 fun J1 H4 => ∃ W1 : Nat → Nat → Hp → Prop, (∃ m, W1 0 m H4) ∧ ∀ j k H, W1 j k H →
      (J1.stop j H ∧ Nx H) ∨ (J1.go j H ∧ ∃ Nx1 : Hp → Prop, (∀ H', Nx1 H' → ∃ k', k' < k ∧ W1 (j + 1) k' H') ∧ ∀ x H', J1.yld j H x H' → g1 x (wipe σ2 vs1) H' fun σ3 H5 => wipe σ3 vs1 = wipe σ2 vs1 ∧
        tk σ3 H5 fun y H6 => tv σ3 H6 fun v H7 => ∃ kvs k, y = kV k ∧ H7 D = some (.dK kvs) ∧ kvs.length < sizeLine ∧ Nx1 (upd H7 D (.dK (putK kvs k v)))))
/-- the block's context -/
abbrev bX (X : Cx) (sc : Scope) (s : Shared) (H : Hp) (C : Addr) (cl : List (Str × Addr)) (fp : List Addr) : Cx := X.blk s H sc (compEnvC sc cl C X.env) fp
theorem pe_dc2 {kx vx a0 x0 a1 x1 : Expr} {sc : Scope} {own : List (Str × Nat)} {vs1 : List Nat} {ps : Pos} {wi wi1 : TI} {g g1 : TG} {tk tv : TE} (hc : X.calm = true) (hN : X.N.Nodup) (hi : PI X a0 x0 wi) (ok : BlkOk X.N X.env.scope sc own) (hv : ∀ i ∈ vs1, i ∈ own.map (·.2))
    (hg : ∀ s H C cl fp, PG (bX X sc s H C cl fp) a0 g) (hi1 : ∀ s H C cl fp, PI (bX X sc s H C cl fp) a1 x1 wi1) (hg1 : ∀ s H C cl fp, PG (bX X sc s H C cl fp) a1 g1)
    (hk : ∀ s H C cl fp, PE (bX X sc s H C cl fp) kx tk) (he : ∀ s H C cl fp, PE (bX X sc s H C cl fp) vx tv)
    (hs : ∀ x, foldedSetIterable x0 X.env x = pure x := by intro _; rfl) (hs1 : ∀ env x, foldedSetIterable x1 env x = pure x := by intro _ _; rfl) :
    PE X (ex2 kx vx a0 x0 a1 x1 sc ps) (tDc2 wi g wi1 g1 tk tv (own.map (·.2)) vs1) := by
  refine ⟨fun pins s σ H Q I h => ?_⟩
  rw [arm_eval_DictComp]
  have hfree : ∀ y ∈ sc.names, y.2 = .free → ∃ c, X.env.cells.lookup y.1 = some c := fun y hy e => (ok.free y hy e).elim (fun k => I.ok.has _ (.inl k)) fun k => I.ok.has _ (.inr k)
  refine wpAny_comprehension_free (use := none) rfl hs (closure_ok hfree) ok.kind (fun y hy e => by rw [ok.uniq y hy, e])
    (thn (hi.run pins s σ H _ I h) fun xv s1 hx => thn hx fun itv s2 h2 => ?_)
  obtain ⟨it, fp, tn, J, H2, e, I2, T, st2, f2, q⟩ := h2
  subst e
  refine wpAny_newObj_type (newEnv_comp ?_)
  generalize hD : s2.heap.objs.size = D
  have hDn : H2 D = none := I2.hok.fresh (Nat.le_of_eq hD)
  obtain ⟨W, ⟨m0, w0⟩, turn⟩ := q D hDn
  generalize hs3 : ({ s2 with heap := s2.heap.push { cls := .type "dict", data := .dict #[] } } : Shared) = s3
  have I3 : Inv X pins σ (upd H2 D (.dK [])) s3 := by
    subst hs3
    refine I2.laid (t' := s2.toks) (fun b o z => Heap.get?_push_of_some _ z) (Nat.le_of_eq hD) ?_
    subst hD
    exact dk_empty s2.heap I2.big
  have h3 : s3.heap = s2.heap.push { cls := .type "dict", data := .dict #[] } := by subst hs3; rfl
  have f3 : ∀ b ∈ fp, FpOk X pins (upd H2 D (.dK [])) b ∧ b < s3.heap.objs.size := fun b hb => by
    obtain ⟨o, eo, _⟩ := T.obj _ _ st2 b hb
    have hlt := Heap.lt_size eo
    refine ⟨⟨?_, (f2 b hb).2⟩, by rw [h3, Heap.size_push]; exact Nat.lt_succ_of_lt hlt⟩
    rw [upd_ne (Nat.ne_of_lt (hD ▸ hlt))]
    exact (f2 b hb).1
  have st3 : tn 0 s3.heap := T.keep _ _ _ st2 fun b _ o z => by rw [h3]; exact Heap.get?_push_of_some _ z
  have I4 := block_start I3 ok hN f3
  generalize hcl : cellsFrom (s3.heap.objs.size + 1) sc.names (cloFrom X.env.cells sc.names []) = cl at I4
  have pg := hg s3 (upd H2 D (.dK [])) s3.heap.objs.size cl fp
  have pk := hk s3 (upd H2 D (.dK [])) s3.heap.objs.size cl fp
  have pe := he s3 (upd H2 D (.dK [])) s3.heap.objs.size cl fp
  have qi := hi1 s3 (upd H2 D (.dK [])) s3.heap.objs.size cl fp
  have qg := hg1 s3 (upd H2 D (.dK [])) s3.heap.objs.size cl fp
  show codeAny _ _ (.compStart (ex2 kx vx a0 x0 a1 x1 sc ps) 0 (.ref it) (.ref D) (compEnvC sc cl s3.heap.objs.size X.env)) (compPost (model X.prog X.w) X.A X.xe none _ (.ref D) s3.heap.objs.size) { s3 with heap := pushCells (s3.heap.push { cls := .type "dict", data := .dict #[] }) sc.names }
  have nfp : ∀ b ∈ fp, (upd H2 D (.dK [])) b = none := fun b hb => (f3 b hb).1.1
  unfold bX at pg pk pe qi qg
  generalize hce : compEnvC sc cl s3.heap.objs.size X.env = ce at I4 pg pk pe qi qg ⊢
  have cL : ce.locals = s3.heap.objs.size := by subst hce; rfl
  generalize hH3 : upd H2 D (.dK []) = H3 at I3 I4 pg pk pe qi qg w0 nfp f3
  generalize hs4 : ({ s3 with heap := pushCells (s3.heap.push { cls := .type "dict", data := .dict #[] }) sc.names } : Shared) = s4 at I4 ⊢
  have st4 : tn 0 s4.heap := T.keep _ _ _ st3 fun b _ o z => by rw [← hs4]; exact pushCells_keeps _ _ _ _ (Heap.get?_push_of_some _ z)
  generalize hB : X.blk s3 H3 sc ce fp = B at I4 pg pk pe qi qg
  have bA : B.A = X.A := by subst hB; rfl
  have bK : B.K = X.K := by subst hB; rfl
  have stat : ∀ {σ' : L2.St} {H' : Hp} {z : Shared}, Inv B [] σ' H' z → (∀ b ∈ fp, H' b = none) → ∀ b ∈ fp, FpOk B [] H' b := fun {σ' H' z} I' hn b hb => by
    subst hB
    exact ⟨hn b hb, (I'.ok.exf b hb).1, I'.ok.exfs b hb, .inl hb, fun x c e => (I'.ok.exf b hb).2 x c e, fun p hp => absurd hp (by show p ∉ ([] : List (Addr × Obj)) ++ []; simp)⟩
  generalize hwl : wipe σ (own.map (·.2)) = σ0 at I4 turn
  have back : ∀ {H5 : Hp} {s6 : Shared}, Inv B [] σ0 H5 s6 → Q (.ref D) H5 → compPost (model X.prog X.w) X.A X.xe none (EP X pins σ Q) (.ref D) s3.heap.objs.size (.ok .next) s6 := fun {H5 s6} I6 qq => by
    subst hB
    have I7 : Inv X pins σ H5 s6 := I3.call' (ch := fp) I6.os I6.base I6.hok I6.bare fun b hb => ⟨(f3 b hb).1.2.2.2.1, (f3 b hb).1.2.1, (f3 b hb).1.2.2.2.2.1, (f3 b hb).1.2.2.2.2.2⟩
    have nC : H5 s3.heap.objs.size = none := by
      have z : H5 ce.locals = none := I6.free
      rwa [cL] at z
    obtain ⟨m, hn, _⟩ := I6.loc
    have hn : s6.heap.Ns ce.locals m := hn
    rw [cL] at hn
    refine ⟨m, hn, fun h'' sb => ?_⟩
    obtain ⟨f0, f1, f2, f3, f4, f5⟩ := I3.fpOk (Nat.le_refl _) nC
    exact ⟨.ref D, H5, I7.turned (t' := s6.toks) (fun b o hb z => (sb.2 b hb).trans z) f0 f1 f3 f4 f5, rfl, qq⟩
  have bprog : B.prog = X.prog := by subst hB; rfl
  have bw : B.w = X.w := by subst hB; rfl
  have benv : B.env = ce := by subst hB; rfl
  have bxe : B.xe = fun _ _ => False := by subst hB; rfl
  have bcalm : B.calm = true := by subst hB; exact hc
  -- the turn's end, from any slots that know what the block knew at its start
  have fin : ∀ {n i : Nat} {Nx : Hp → Prop} {s7 : Shared} {σ9 : L2.St} {z : Shared} {H' : Hp}, (∀ H', Nx H' → ∃ m', m' < n ∧ W (i + 1) m' H') → tn (i + 1) s7.heap → Inv B ([] ++ pinsAt fp s7.heap) σ9 H' z → σ0.length = σ9.length → (∀ (j : Nat) v, σ0[j]? = some (some v) → σ9[j]? = some (some v)) → Nx H' →
      ∃ m, m < n ∧ ∃ i H', Inv B [] σ0 H' z ∧ tn i z.heap ∧ (∀ b ∈ fp, H' b = none) ∧ W i m H' := fun {n i Nx s7 σ9 z H'} hNx st7 I' hl hk' nx => by
    obtain ⟨m', hm, w'⟩ := hNx H' nx
    have pin' : ∀ b ∈ fp, ∀ o, s7.heap.get? b = some o → z.heap.get? b = some o ∧ H' b = none := fun b hb o eo =>
      have y := I'.pin (b, o) (List.mem_append_right _ (List.mem_append_right _ (mem_pinsAt hb eo)))
      ⟨y.1, y.2.1⟩
    refine ⟨m', hm, i + 1, H', (I'.unpinned (pins := [])).weak hl hk', T.keep _ _ _ st7 fun b hb o eo => (pin' b hb o eo).1, fun b hb => ?_, w'⟩
    obtain ⟨o, eo, _⟩ := T.obj _ _ st7 b hb
    exact (pin' b hb o eo).2
  have main : codeAny (model X.prog X.w) X.A (.compLoop (ex2 kx vx a0 x0 a1 x1 sc ps) 0 (.ref it) (.ref D) ce) (compPost (model X.prog X.w) X.A X.xe none (EP X pins σ Q) (.ref D) s3.heap.objs.size) s4 := by
    refine loop_out (hs1 ce) (fun n z => ∃ i H', Inv B [] σ0 H' z ∧ tn i z.heap ∧ (∀ b ∈ fp, H' b = none) ∧ W i n H') ?_ m0 ⟨0, H3, I4, st4, nfp, w0⟩
    rintro n s5 ⟨i, H5, I5, st5, n5, w5⟩
    rcases turn i n H5 w5 with ⟨stop, qq⟩ | ⟨go, Nx, hNx, step⟩
    · have td := T.done B bprog bw bK bcalm i [] s5 _ H5 (fun _ _ => False) I5 (stat I5 n5) st5 stop
      rw [bA] at td
      refine thnF td fun r s6 ⟨hr, I6⟩ => ?_
      subst hr
      exact back I6 qq
    · have ti := T.item B bprog bw bK bcalm i [] s5 _ H5 (fun _ _ => False) I5 (stat I5 n5) st5 go
      rw [bA] at ti
      refine thnF ti fun r s6 ⟨u, hr, h6⟩ => ?_
      subst hr
      refine thnF h6 fun _ s7 ⟨x, H7, I7, r7, y7, st7, n7⟩ => ?_
      have J7 := I7.pinned (stat I7 n7) (T.obj _ _ st7)
      have run0 := pg.run _ s7 _ H7 x u _ J7 r7 (step x H7 y7)
      rw [bprog, bw, bA, benv, bxe] at run0
      refine thnF run0 fun _ s8 ⟨σ8, H8, I8, hw8, q8⟩ => ?_
      have l8 : σ0.length = σ8.length := by rw [← hw8, wipe_length]
      have k9 : ∀ (j : Nat) v, σ0[j]? = some (some v) → (wipe σ8 vs1)[j]? = some (some v) := fun j v ej => by
        rw [← hw8] at ej
        obtain ⟨e1, e2⟩ := wipe_some ej
        rw [wipe_out fun y => e2 (hv j y)]
        exact e1
      have run1 := qi.run _ s8 σ8 H8 _ I8 q8
      rw [bprog, bw, bA, benv, bxe] at run1
      refine thnF run1 fun xv s10 hx => thnF hx fun itv s11 h11 => ?_
      obtain ⟨it1, fp1, tn1, J1, H11, e1, I11, T1, st11, f11, W1, ⟨m1, w1⟩, turn1⟩ := h11
      subst e1
      rw [bprog, bw, bK] at T1
      have stat1 : ∀ {H' : Hp}, (∀ b ∈ fp1, H' b = none) → ∀ b ∈ fp1, FpOk B ([] ++ pinsAt fp s7.heap) H' b := fun hn b hb => ⟨hn b hb, (f11 b hb).2⟩
      have sub : codeAny (model X.prog X.w) X.A (.compLoop (ex2 kx vx a0 x0 a1 x1 sc ps) 1 (.ref it1) (.ref D) ce)
          (fun r z => match r with
            | .ok _ => ∃ m, m < n ∧ ∃ i H', Inv B [] σ0 H' z ∧ tn i z.heap ∧ (∀ b ∈ fp, H' b = none) ∧ W i m H'
            | .error _ => False) s11 := by
        refine loop_in (fun k z => ∃ j H', Inv B ([] ++ pinsAt fp s7.heap) (wipe σ8 vs1) H' z ∧ tn1 j z.heap ∧ (∀ b ∈ fp1, H' b = none) ∧ W1 j k H') ?_ m1 ⟨0, H11, I11.weak (wipe_length _ _) (fun j v ej => (wipe_some ej).1), st11, fun b hb => (f11 b hb).1, w1⟩
        rintro k s12 ⟨j, H12, I12, st12, n12, w12⟩
        rcases turn1 j k H12 w12 with ⟨stop1, nx1⟩ | ⟨go1, Nx1, hNx1, step1⟩
        · have td1 := T1.done B bprog bw bK bcalm j _ s12 (wipe σ8 vs1) H12 (fun _ _ => False) I12 (stat1 n12) st12 stop1
          rw [bA] at td1
          refine thnF td1 fun r s13 ⟨hr, I13⟩ => ?_
          subst hr
          exact fin hNx st7 I13 (l8.trans (wipe_length σ8 vs1).symm) k9 nx1
        · have ti1 := T1.item B bprog bw bK bcalm j _ s12 (wipe σ8 vs1) H12 (fun _ _ => False) I12 (stat1 n12) st12 go1
          rw [bA] at ti1
          refine thnF ti1 fun r s13 ⟨u1, hr, h13⟩ => ?_
          subst hr
          refine thnF h13 fun _ s14 ⟨y1, H14, I14, r14, y14, st14, n14⟩ => ?_
          have J14 := I14.pinned (stat1 n14) (T1.obj _ _ st14)
          have run2 := qg.run _ s14 (wipe σ8 vs1) H14 y1 u1 _ J14 r14 (step1 y1 H14 y14)
          rw [bprog, bw, bA, benv, bxe] at run2
          refine thnF run2 fun _ s15 ⟨σ15, H15, I15, hw15, q15⟩ => ?_
          have last : ∀ {z : Shared} {H' : Hp}, Inv B (([] ++ pinsAt fp s7.heap) ++ pinsAt fp1 s14.heap) σ15 H' z → Nx1 H' → ∃ m, m < k ∧ ∃ j H', Inv B ([] ++ pinsAt fp s7.heap) (wipe σ8 vs1) H' z ∧ tn1 j z.heap ∧ (∀ b ∈ fp1, H' b = none) ∧ W1 j m H' := fun {z H'} I' nx => by
            obtain ⟨m', hm, w'⟩ := hNx1 H' nx
            have pin' : ∀ b ∈ fp1, ∀ o, s14.heap.get? b = some o → z.heap.get? b = some o ∧ H' b = none := fun b hb o eo =>
              have y := I'.pin (b, o) (List.mem_append_right _ (List.mem_append_right _ (mem_pinsAt hb eo)))
              ⟨y.1, y.2.1⟩
            refine ⟨m', hm, j + 1, H', I'.unpinned.weak (by rw [← hw15, wipe_length]) (fun j v ej => by rw [← hw15] at ej; exact (wipe_some ej).1), T1.keep _ _ _ st14 fun b hb o eo => (pin' b hb o eo).1, fun b hb => ?_, w'⟩
            obtain ⟨o, eo, _⟩ := T1.obj _ _ st14 b hb
            exact (pin' b hb o eo).2
          have run3 := pk.run _ s15 σ15 H15 _ I15 q15
          rw [bprog, bw, bA, benv, bxe] at run3
          refine thnF run3 fun kw s16 ⟨yk, H16, I16, r16, q16⟩ => ?_
          have run4 := pe.run _ s16 σ15 H16 _ I16 q16
          rw [bprog, bw, bA, benv, bxe] at run4
          refine thnF run4 fun vw s17 ⟨yv, H17, I17, r17, kvs, key, ek, hD17, hz17, nx⟩ => ?_
          subst ek
          have run5 := d_dictSet (X := B) (E := fun _ _ => False) (Q := fun _ z => ∃ m, m < k ∧ ∃ j H', Inv B ([] ++ pinsAt fp s7.heap) (wipe σ8 vs1) H' z ∧ tn1 j z.heap ∧ (∀ b ∈ fp1, H' b = none) ∧ W1 j m H') I17 hD17 hz17 r16 r17 fun s18 I18 => last I18 nx
          rw [bprog, bw, bA] at run5
          exact thnF run5 fun _ _ y => y
      exact start_in sub (T1.self X.A 0 _ _ _ st11 sub)
  exact codeAny_compStart_dict main (T.self X.A 0 _ _ _ st4 main)
end
end DC2
namespace My
open PySem L2
def top (i : Nat) : Stmt := PySem.Challenge.pw_chainmaps_k29_greater_distances.main.body.getD i (.Pass ⟨0, 0, 0, 0⟩)
abbrev s_is_integer : Stmt := top 12
abbrev n_is_integer : List Str := ["value"]
theorem sc_is_integer : FnScope n_is_integer ["value"] (defScope s_is_integer) := ⟨rfl, rfl, rfl, by decide +kernel, rfl, by decide +kernel, by decide +kernel⟩
abbrev s_in_range : Stmt := top 13
abbrev n_in_range : List Str := ["value", "least", "most"]
theorem sc_in_range : FnScope n_in_range ["value", "least", "most"] (defScope s_in_range) := ⟨rfl, rfl, rfl, by decide +kernel, rfl, by decide +kernel, by decide +kernel⟩
abbrev s_check_size : Stmt := top 14
abbrev n_check_size : List Str := ["size"]
theorem sc_check_size : FnScope n_check_size ["size"] (defScope s_check_size) := ⟨rfl, rfl, rfl, by decide +kernel, rfl, by decide +kernel, by decide +kernel⟩
abbrev s_are_arrows : Stmt := top 16
abbrev n_are_arrows : List Str := ["size", "arrows", "targets", "source", "target"]
theorem sc_are_arrows : FnScope n_are_arrows ["size", "arrows"] (defScope s_are_arrows) := ⟨rfl, rfl, rfl, by decide +kernel, rfl, by decide +kernel, by decide +kernel⟩
abbrev s_common_size : Stmt := top 17
abbrev n_common_size : List Str := ["one", "other"]
theorem sc_common_size : FnScope n_common_size ["one", "other"] (defScope s_common_size) := ⟨rfl, rfl, rfl, by decide +kernel, rfl, by decide +kernel, by decide +kernel⟩
abbrev s_row_from : Stmt := top 18
abbrev n_row_from : List Str := ["arrows", "element", "row"]
theorem sc_row_from : FnScope n_row_from ["arrows", "element"] (defScope s_row_from) := ⟨rfl, rfl, rfl, by decide +kernel, rfl, by decide +kernel, by decide +kernel⟩
abbrev s_check_map : Stmt := top 23
abbrev n_check_map : List Str := ["value"]
theorem sc_check_map : FnScope n_check_map ["value"] (defScope s_check_map) := ⟨rfl, rfl, rfl, by decide +kernel, rfl, by decide +kernel, by decide +kernel⟩
abbrev s_check_maps : Stmt := top 24
abbrev n_check_maps : List Str := ["one", "other"]
theorem sc_check_maps : FnScope n_check_maps ["one", "other"] (defScope s_check_maps) := ⟨rfl, rfl, rfl, by decide +kernel, rfl, by decide +kernel, by decide +kernel⟩
abbrev s_factorial : Stmt := top 26
abbrev n_factorial : List Str := ["number", "found", "factor"]
theorem sc_factorial : FnScope n_factorial ["number"] (defScope s_factorial) := ⟨rfl, rfl, rfl, by decide +kernel, rfl, by decide +kernel, by decide +kernel⟩
abbrev s_power_of : Stmt := top 27
abbrev n_power_of : List Str := ["base", "exponent", "found", "turn"]
theorem sc_power_of : FnScope n_power_of ["base", "exponent"] (defScope s_power_of) := ⟨rfl, rfl, rfl, by decide +kernel, rfl, by decide +kernel, by decide +kernel⟩
abbrev s_parts_of : Stmt := top 28
abbrev n_parts_of : List Str := ["given", "arrows", "targets", "cycles", "chains", "seen", "element", "target", "one"]
theorem sc_parts_of : FnScope n_parts_of ["given"] (defScope s_parts_of) := ⟨rfl, rfl, rfl, by decide +kernel, rfl, by decide +kernel, by decide +kernel⟩
abbrev s_is_step : Stmt := top 30
abbrev n_is_step : List Str := ["size", "value", "element"]
theorem sc_is_step : FnScope n_is_step ["size", "value"] (defScope s_is_step) := ⟨rfl, rfl, rfl, by decide +kernel, rfl, by decide +kernel, by decide +kernel⟩
abbrev s_first_invalid : Stmt := top 31
abbrev n_first_invalid : List Str := ["size", "value", "position", "step"]
theorem sc_first_invalid : FnScope n_first_invalid ["size", "value"] (defScope s_first_invalid) := ⟨rfl, rfl, rfl, by decide +kernel, rfl, by decide +kernel, by decide +kernel⟩
abbrev s_after_list : Stmt := top 32
abbrev n_after_list : List Str := ["arrows", "steps", "found", "places", "step", "one", "other", "source", "target"]
theorem sc_after_list : FnScope n_after_list ["arrows", "steps"] (defScope s_after_list) := ⟨rfl, rfl, rfl, by decide +kernel, rfl, by decide +kernel, by decide +kernel⟩
abbrev s_applied : Stmt := top 33
abbrev n_applied : List Str := ["given", "steps", "problem"]
theorem sc_applied : FnScope n_applied ["given", "steps"] (defScope s_applied) := ⟨rfl, rfl, rfl, by decide +kernel, rfl, by decide +kernel, by decide +kernel⟩
abbrev s_link_of : Stmt := top 34
abbrev n_link_of : List Str := ["start", "goal", "arrows", "ends", "source", "target"]
theorem sc_link_of : FnScope n_link_of ["start", "goal"] (defScope s_link_of) := ⟨rfl, rfl, rfl, by decide +kernel, rfl, by decide +kernel, by decide +kernel⟩
abbrev s_parts_between : Stmt := top 35
abbrev n_parts_between : List Str := ["start", "goal", "link", "cycles", "chains"]
theorem sc_parts_between : FnScope n_parts_between ["start", "goal"] (defScope s_parts_between) := ⟨rfl, rfl, rfl, by decide +kernel, rfl, by decide +kernel, by decide +kernel⟩
abbrev s_distance : Stmt := top 36
abbrev n_distance : List Str := ["start", "goal", "parts"]
theorem sc_distance : FnScope n_distance ["start", "goal"] (defScope s_distance) := ⟨rfl, rfl, rfl, by decide +kernel, rfl, by decide +kernel, by decide +kernel⟩
abbrev s_forgotten : Stmt := top 37
abbrev n_forgotten : List Str := ["start", "goal", "ends", "source"]
theorem sc_forgotten : FnScope n_forgotten ["start", "goal"] (defScope s_forgotten) := ⟨rfl, rfl, rfl, by decide +kernel, rfl, by decide +kernel, by decide +kernel⟩
abbrev s_swap_of : Stmt := top 38
abbrev n_swap_of : List Str := ["one", "other"]
theorem sc_swap_of : FnScope n_swap_of ["one", "other"] (defScope s_swap_of) := ⟨rfl, rfl, rfl, by decide +kernel, rfl, by decide +kernel, by decide +kernel⟩
abbrev s_steps : Stmt := top 39
abbrev n_steps : List Str := ["start", "goal", "parts", "found", "part", "element"]
theorem sc_steps : FnScope n_steps ["start", "goal"] (defScope s_steps) := ⟨rfl, rfl, rfl, by decide +kernel, rfl, by decide +kernel, by decide +kernel⟩
abbrev s_is_making : Stmt := top 40
abbrev n_is_making : List Str := ["start", "goal", "value"]
theorem sc_is_making : FnScope n_is_making ["start", "goal", "value"] (defScope s_is_making) := ⟨rfl, rfl, rfl, by decide +kernel, rfl, by decide +kernel, by decide +kernel⟩
abbrev s_next_steps : Stmt := top 41
abbrev n_next_steps : List Str := ["start", "goal", "parts", "home", "found", "one", "later", "number", "part", "element", "other"]
theorem sc_next_steps : FnScope n_next_steps ["start", "goal"] (defScope s_next_steps) := ⟨rfl, rfl, rfl, by decide +kernel, rfl, by decide +kernel, by decide +kernel⟩
abbrev s_count_shortest : Stmt := top 42
abbrev n_count_shortest : List Str := ["start", "goal", "parts", "found", "part"]
theorem sc_count_shortest : FnScope n_count_shortest ["start", "goal"] (defScope s_count_shortest) := ⟨rfl, rfl, rfl, by decide +kernel, rfl, by decide +kernel, by decide +kernel⟩
abbrev s_Map__init : Stmt := inClass (top 20) 0
abbrev n_Map__init : List Str := ["self", "size", "arrows", "source"]
theorem sc_Map__init : FnScope n_Map__init ["self", "size", "arrows"] (defScope s_Map__init) := ⟨rfl, rfl, rfl, by decide +kernel, rfl, by decide +kernel, by decide +kernel⟩
abbrev s_Map_empty : Stmt := inClass (top 20) 2
abbrev n_Map_empty : List Str := ["cls", "size"]
theorem sc_Map_empty : FnScope n_Map_empty ["cls", "size"] (defScope s_Map_empty) := ⟨rfl, rfl, rfl, by decide +kernel, rfl, by decide +kernel, by decide +kernel⟩
abbrev s_Map_size : Stmt := inClass (top 20) 6
abbrev n_Map_size : List Str := ["self"]
theorem sc_Map_size : FnScope n_Map_size ["self"] (defScope s_Map_size) := ⟨rfl, rfl, rfl, by decide +kernel, rfl, by decide +kernel, by decide +kernel⟩
abbrev s_Map_arrows : Stmt := inClass (top 20) 7
abbrev n_Map_arrows : List Str := ["self"]
theorem sc_Map_arrows : FnScope n_Map_arrows ["self"] (defScope s_Map_arrows) := ⟨rfl, rfl, rfl, by decide +kernel, rfl, by decide +kernel, by decide +kernel⟩
abbrev s_Map__eq : Stmt := inClass (top 20) 25
abbrev n_Map__eq : List Str := ["self", "other"]
theorem sc_Map__eq : FnScope n_Map__eq ["self", "other"] (defScope s_Map__eq) := ⟨rfl, rfl, rfl, by decide +kernel, rfl, by decide +kernel, by decide +kernel⟩
abbrev s_Map__len : Stmt := inClass (top 20) 24
abbrev n_Map__len : List Str := ["self"]
theorem sc_Map__len : FnScope n_Map__len ["self"] (defScope s_Map__len) := ⟨rfl, rfl, rfl, by decide +kernel, rfl, by decide +kernel, by decide +kernel⟩
abbrev s_InvalidMap__init : Stmt := inClass (top 2) 0
abbrev n_InvalidMap__init : List Str := ["self", "part"]
theorem sc_InvalidMap__init : FnScope n_InvalidMap__init ["self", "part"] (defScope s_InvalidMap__init) := ⟨rfl, rfl, rfl, by decide +kernel, rfl, by decide +kernel, by decide +kernel⟩
abbrev s_InvalidSize__init : Stmt := inClass (top 3) 0
abbrev s_InvalidSteps__init : Stmt := inClass (top 6) 0
abbrev n_InvalidSteps__init : List Str := ["self", "position"]
theorem sc_InvalidSteps__init : FnScope n_InvalidSteps__init ["self", "position"] (defScope s_InvalidSteps__init) := ⟨rfl, rfl, rfl, by decide +kernel, rfl, by decide +kernel, by decide +kernel⟩
abbrev s_SizeMismatch__init : Stmt := inClass (top 7) 0
abbrev n_SizeMismatch__init : List Str := ["self", "first", "second"]
theorem sc_SizeMismatch__init : FnScope n_SizeMismatch__init ["self", "first", "second"] (defScope s_SizeMismatch__init) := ⟨rfl, rfl, rfl, by decide +kernel, rfl, by decide +kernel, by decide +kernel⟩
abbrev s_l_hand : Stmt := top 44
abbrev n_l_hand : List Str := ["_law_script", "_law_k", "_law_cell", "_law_seed"]
theorem sc_l_hand : FnScope n_l_hand ["_law_script", "_law_k"] (defScope s_l_hand) := ⟨rfl, rfl, rfl, by decide +kernel, rfl, by decide +kernel, by decide +kernel⟩
abbrev s_l_draw : Stmt := top 45
abbrev n_l_draw : List Str := ["_law_pool", "_law_size", "_law_found"]
theorem sc_l_draw : FnScope n_l_draw ["_law_pool", "_law_size"] (defScope s_l_draw) := ⟨rfl, rfl, rfl, by decide +kernel, rfl, by decide +kernel, by decide +kernel⟩
abbrev s_l_arrows : Stmt := top 46
abbrev n_l_arrows : List Str := ["_law_pool", "_law_size", "_law_way", "_law_left", "_law_found", "_law_source"]
theorem sc_l_arrows : FnScope n_l_arrows ["_law_pool", "_law_size", "_law_way"] (defScope s_l_arrows) := ⟨rfl, rfl, rfl, by decide +kernel, rfl, by decide +kernel, by decide +kernel⟩
abbrev s_l_parts : Stmt := top 47
abbrev n_l_parts : List Str := ["_law_arrows_here", "_law_size", "_law_ends", "_law_rows", "_law_left", "_law_first", "_law_row", "_law_element"]
theorem sc_l_parts : FnScope n_l_parts ["_law_arrows_here", "_law_size"] (defScope s_l_parts) := ⟨rfl, rfl, rfl, by decide +kernel, rfl, by decide +kernel, by decide +kernel⟩
abbrev s_l_due : Stmt := top 48
abbrev n_l_due : List Str := ["_law_one", "_law_other", "_law_size", "_law_link", "_law_source", "_law_target"]
theorem sc_l_due : FnScope n_l_due ["_law_one", "_law_other", "_law_size"] (defScope s_l_due) := ⟨rfl, rfl, rfl, by decide +kernel, rfl, by decide +kernel, by decide +kernel⟩
abbrev s_l_bent : Stmt := top 49
abbrev n_l_bent : List Str := ["_law_pool", "_law_row", "_law_size", "_law_at", "_law_one", "_law_other", "_law_odd", "_law_some"]
theorem sc_l_bent : FnScope n_l_bent ["_law_pool", "_law_row", "_law_size"] (defScope s_l_bent) := ⟨rfl, rfl, rfl, by decide +kernel, rfl, by decide +kernel, by decide +kernel⟩
abbrev s_l_leads : Stmt := top 50
abbrev n_l_leads : List Str := ["_law_start", "_law_goal", "_law_thing"]
theorem sc_l_leads : FnScope n_l_leads ["_law_start", "_law_goal", "_law_thing"] (defScope s_l_leads) := ⟨rfl, rfl, rfl, by decide +kernel, rfl, by decide +kernel, by decide +kernel⟩
abbrev s_l_refused : Stmt := top 51
abbrev n_l_refused : List Str := ["_law_one", "_law_other", "_law_found", "_law_asked", "e"]
theorem sc_l_refused : FnScope n_l_refused ["_law_one", "_law_other"] (defScope s_l_refused) := ⟨rfl, rfl, rfl, by decide +kernel, rfl, by decide +kernel, by decide +kernel⟩
abbrev s_l_nearer : Stmt := top 52
abbrev n_l_nearer : List Str := ["_law_pool", "_law_start", "_law_goal", "_law_far", "_law_menu", "_law_turn", "_law_step", "_law_near"]
theorem sc_l_nearer : FnScope n_l_nearer ["_law_pool", "_law_start", "_law_goal", "_law_far"] (defScope s_l_nearer) := ⟨rfl, rfl, rfl, by decide +kernel, rfl, by decide +kernel, by decide +kernel⟩
abbrev s_law : Stmt := top 53
abbrev n_law : List Str := ["_law_script", "_law_k", "_law_pool", "_law_size", "_law_one", "_law_other", "_law_part", "_law_start", "_law_target", "_law_goal", "_law_due_here", "_law_row", "_law_thing", "_law_odd", "_law_pair", "_law_turn"]
theorem sc_law : FnScope n_law ["_law_script"] (defScope s_law) := ⟨rfl, rfl, rfl, by decide +kernel, rfl, by decide +kernel, by decide +kernel⟩
set_option genInjectivity false
set_option genSizeOf false
structure Txt (K : PySem.W.Frag) (mg : Str → Option Value) where
  f_is_integer : Addr
  f_in_range : Addr
  f_check_size : Addr
  f_are_arrows : Addr
  f_common_size : Addr
  f_row_from : Addr
  f_check_map : Addr
  f_check_maps : Addr
  f_factorial : Addr
  f_power_of : Addr
  f_parts_of : Addr
  f_is_step : Addr
  f_first_invalid : Addr
  f_after_list : Addr
  f_applied : Addr
  f_link_of : Addr
  f_parts_between : Addr
  f_distance : Addr
  f_forgotten : Addr
  f_swap_of : Addr
  f_steps : Addr
  f_is_making : Addr
  f_next_steps : Addr
  f_count_shortest : Addr
  f_l_hand : Addr
  f_l_draw : Addr
  f_l_arrows : Addr
  f_l_parts : Addr
  f_l_due : Addr
  f_l_bent : Addr
  f_l_leads : Addr
  f_l_refused : Addr
  f_l_nearer : Addr
  f_law : Addr
  C_Map : Addr
  f_Map__init : Addr
  p_Map_empty : Addr
  f_Map_empty : Addr
  p_Map_size : Addr
  f_Map_size : Addr
  p_Map_arrows : Addr
  f_Map_arrows : Addr
  f_Map__eq : Addr
  f_Map__len : Addr
  C_InvalidMap : Addr
  f_InvalidMap__init : Addr
  C_SizeMismatch : Addr
  f_SizeMismatch__init : Addr
  C_InvalidSize : Addr
  f_InvalidSize__init : Addr
  C_InvalidSteps : Addr
  f_InvalidSteps__init : Addr
  A_is_integer : U.FnAt K "is_integer" "is_integer" s_is_integer f_is_integer ["value"]
  g_is_integer : mg "is_integer" = some (.ref f_is_integer)
  A_in_range : U.FnAt K "in_range" "in_range" s_in_range f_in_range ["value", "least", "most"]
  g_in_range : mg "in_range" = some (.ref f_in_range)
  A_check_size : U.FnAt K "check_size" "check_size" s_check_size f_check_size ["size"]
  g_check_size : mg "check_size" = some (.ref f_check_size)
  A_are_arrows : U.FnAt K "are_arrows" "are_arrows" s_are_arrows f_are_arrows ["size", "arrows"]
  g_are_arrows : mg "are_arrows" = some (.ref f_are_arrows)
  A_common_size : U.FnAt K "common_size" "common_size" s_common_size f_common_size ["one", "other"]
  g_common_size : mg "common_size" = some (.ref f_common_size)
  A_row_from : U.FnAt K "row_from" "row_from" s_row_from f_row_from ["arrows", "element"]
  g_row_from : mg "row_from" = some (.ref f_row_from)
  A_check_map : U.FnAt K "check_map" "check_map" s_check_map f_check_map ["value"]
  g_check_map : mg "check_map" = some (.ref f_check_map)
  A_check_maps : U.FnAt K "check_maps" "check_maps" s_check_maps f_check_maps ["one", "other"]
  g_check_maps : mg "check_maps" = some (.ref f_check_maps)
  A_factorial : U.FnAt K "factorial" "factorial" s_factorial f_factorial ["number"]
  g_factorial : mg "factorial" = some (.ref f_factorial)
  A_power_of : U.FnAt K "power_of" "power_of" s_power_of f_power_of ["base", "exponent"]
  g_power_of : mg "power_of" = some (.ref f_power_of)
  A_parts_of : U.FnAt K "parts_of" "parts_of" s_parts_of f_parts_of ["given"]
  g_parts_of : mg "parts_of" = some (.ref f_parts_of)
  A_is_step : U.FnAt K "is_step" "is_step" s_is_step f_is_step ["size", "value"]
  g_is_step : mg "is_step" = some (.ref f_is_step)
  A_first_invalid : U.FnAt K "first_invalid" "first_invalid" s_first_invalid f_first_invalid ["size", "value"]
  g_first_invalid : mg "first_invalid" = some (.ref f_first_invalid)
  A_after_list : U.FnAt K "after_list" "after_list" s_after_list f_after_list ["arrows", "steps"]
  g_after_list : mg "after_list" = some (.ref f_after_list)
  A_applied : U.FnAt K "applied" "applied" s_applied f_applied ["given", "steps"]
  g_applied : mg "applied" = some (.ref f_applied)
  A_link_of : U.FnAt K "link_of" "link_of" s_link_of f_link_of ["start", "goal"]
  g_link_of : mg "link_of" = some (.ref f_link_of)
  A_parts_between : U.FnAt K "parts_between" "parts_between" s_parts_between f_parts_between ["start", "goal"]
  g_parts_between : mg "parts_between" = some (.ref f_parts_between)
  A_distance : U.FnAt K "distance" "distance" s_distance f_distance ["start", "goal"]
  g_distance : mg "distance" = some (.ref f_distance)
  A_forgotten : U.FnAt K "forgotten" "forgotten" s_forgotten f_forgotten ["start", "goal"]
  g_forgotten : mg "forgotten" = some (.ref f_forgotten)
  A_swap_of : U.FnAt K "swap_of" "swap_of" s_swap_of f_swap_of ["one", "other"]
  g_swap_of : mg "swap_of" = some (.ref f_swap_of)
  A_steps : U.FnAt K "steps" "steps" s_steps f_steps ["start", "goal"]
  g_steps : mg "steps" = some (.ref f_steps)
  A_is_making : U.FnAt K "is_making" "is_making" s_is_making f_is_making ["start", "goal", "value"]
  g_is_making : mg "is_making" = some (.ref f_is_making)
  A_next_steps : U.FnAt K "next_steps" "next_steps" s_next_steps f_next_steps ["start", "goal"]
  g_next_steps : mg "next_steps" = some (.ref f_next_steps)
  A_count_shortest : U.FnAt K "count_shortest" "count_shortest" s_count_shortest f_count_shortest ["start", "goal"]
  g_count_shortest : mg "count_shortest" = some (.ref f_count_shortest)
  A_l_hand : U.FnAt K "_law_hand" "_law_hand" s_l_hand f_l_hand ["_law_script", "_law_k"]
  g_l_hand : mg "_law_hand" = some (.ref f_l_hand)
  A_l_draw : U.FnAt K "_law_draw" "_law_draw" s_l_draw f_l_draw ["_law_pool", "_law_size"]
  g_l_draw : mg "_law_draw" = some (.ref f_l_draw)
  A_l_arrows : U.FnAt K "_law_arrows" "_law_arrows" s_l_arrows f_l_arrows ["_law_pool", "_law_size", "_law_way"]
  g_l_arrows : mg "_law_arrows" = some (.ref f_l_arrows)
  A_l_parts : U.FnAt K "_law_parts" "_law_parts" s_l_parts f_l_parts ["_law_arrows_here", "_law_size"]
  g_l_parts : mg "_law_parts" = some (.ref f_l_parts)
  A_l_due : U.FnAt K "_law_due" "_law_due" s_l_due f_l_due ["_law_one", "_law_other", "_law_size"]
  g_l_due : mg "_law_due" = some (.ref f_l_due)
  A_l_bent : U.FnAt K "_law_bent" "_law_bent" s_l_bent f_l_bent ["_law_pool", "_law_row", "_law_size"]
  g_l_bent : mg "_law_bent" = some (.ref f_l_bent)
  A_l_leads : U.FnAt K "_law_leads" "_law_leads" s_l_leads f_l_leads ["_law_start", "_law_goal", "_law_thing"]
  g_l_leads : mg "_law_leads" = some (.ref f_l_leads)
  A_l_refused : U.FnAt K "_law_refused" "_law_refused" s_l_refused f_l_refused ["_law_one", "_law_other"]
  g_l_refused : mg "_law_refused" = some (.ref f_l_refused)
  A_l_nearer : U.FnAt K "_law_nearer" "_law_nearer" s_l_nearer f_l_nearer ["_law_pool", "_law_start", "_law_goal", "_law_far"]
  g_l_nearer : mg "_law_nearer" = some (.ref f_l_nearer)
  A_law : U.FnAt K "law" "law" s_law f_law ["_law_script"]
  L_law : ∃ fd, Fun K "law" "law" s_law f_law fd ∧ ∀ (s : Shared) (u : Value), BindsTo s fd ⟨[u], []⟩ [("_law_script", u)]
  g_law : mg "law" = some (.ref f_law)
  g_Map : mg "Map" = some (.ref C_Map)
  o_Map : U.OwnC K C_Map
  kit_int_Map : PySem.W.kitOne K (.ref C_Map) (.type "int") = some false
  kit_bool_Map : PySem.W.kitOne K (.ref C_Map) (.type "bool") = some false
  kit_str_Map : PySem.W.kitOne K (.ref C_Map) (.type "str") = some false
  kit_tuple_Map : PySem.W.kitOne K (.ref C_Map) (.type "tuple") = some false
  kit_list_Map : PySem.W.kitOne K (.ref C_Map) (.type "list") = some false
  kn_NoneType_Map : PySem.W.kitOne K (.type "NoneType") (.ref C_Map) = some false
  nf_NoneType_Map : PySem.W.notFirst K C_Map (.type "NoneType") = true
  kn_int_Map : PySem.W.kitOne K (.type "int") (.ref C_Map) = some false
  nf_int_Map : PySem.W.notFirst K C_Map (.type "int") = true
  kn_bool_Map : PySem.W.kitOne K (.type "bool") (.ref C_Map) = some false
  nf_bool_Map : PySem.W.notFirst K C_Map (.type "bool") = true
  kn_str_Map : PySem.W.kitOne K (.type "str") (.ref C_Map) = some false
  nf_str_Map : PySem.W.notFirst K C_Map (.type "str") = true
  kn_list_Map : PySem.W.kitOne K (.type "list") (.ref C_Map) = some false
  nf_list_Map : PySem.W.notFirst K C_Map (.type "list") = true
  kn_dict_Map : PySem.W.kitOne K (.type "dict") (.ref C_Map) = some false
  nf_dict_Map : PySem.W.notFirst K C_Map (.type "dict") = true
  kn_tuple_Map : PySem.W.kitOne K (.type "tuple") (.ref C_Map) = some false
  nf_tuple_Map : PySem.W.notFirst K C_Map (.type "tuple") = true
  self_Map : PySem.W.kitOne K (.ref C_Map) (.ref C_Map) = some true
  na_own_size_Map : NoAttr K C_Map "own_size"
  na_own_arrows_Map : NoAttr K C_Map "own_arrows"
  ne_Map : PySem.W.findIn K (.ref C_Map) "__ne__" = some (some (.builtin "object.__ne__"))
  A_Map__init : U.FnAt K "__init__" "Map.__init__" s_Map__init f_Map__init ["self", "size", "arrows"]
  m_Map__init : PySem.W.findIn K (.ref C_Map) "__init__" = some (some (.ref f_Map__init))
  i_Map__init : PySem.W.isFn K (.ref f_Map__init) = true
  M_Map : Mk K C_Map f_Map__init
  R_Map : ClX.CRead K C_Map (.type "type")
  A_Map_empty : U.FnAt K "empty" "Map.empty" s_Map_empty f_Map_empty ["cls", "size"]
  cm_Map_empty : ClX.CMet K C_Map (.type "type") "empty" p_Map_empty f_Map_empty
  A_Map_size : U.FnAt K "size" "Map.size" s_Map_size f_Map_size ["self"]
  P_Map_size : PropOf K C_Map "size" p_Map_size f_Map_size
  A_Map_arrows : U.FnAt K "arrows" "Map.arrows" s_Map_arrows f_Map_arrows ["self"]
  P_Map_arrows : PropOf K C_Map "arrows" p_Map_arrows f_Map_arrows
  A_Map__eq : U.FnAt K "__eq__" "Map.__eq__" s_Map__eq f_Map__eq ["self", "other"]
  m_Map__eq : PySem.W.findIn K (.ref C_Map) "__eq__" = some (some (.ref f_Map__eq))
  i_Map__eq : PySem.W.isFn K (.ref f_Map__eq) = true
  A_Map__len : U.FnAt K "__len__" "Map.__len__" s_Map__len f_Map__len ["self"]
  m_Map__len : PySem.W.findIn K (.ref C_Map) "__len__" = some (some (.ref f_Map__len))
  i_Map__len : PySem.W.isFn K (.ref f_Map__len) = true
  g_InvalidMap : mg "InvalidMap" = some (.ref C_InvalidMap)
  x_InvalidMap : OexG K C_InvalidMap
  xf_InvalidMap : XfC K C_InvalidMap
  xe_InvalidMap : ExcC K C_InvalidMap
  te_InvalidMap : PySem.W.exmOne K (.ref C_InvalidMap) (.ref C_InvalidMap) = some true
  kit_ValueError_InvalidMap : PySem.W.kitOne K (.ref C_InvalidMap) (.type "ValueError") = some true
  na_part_InvalidMap : PySem.W.findIn K (.ref C_InvalidMap) "part" = some none
  A_InvalidMap__init : U.FnAt K "__init__" "InvalidMap.__init__" s_InvalidMap__init f_InvalidMap__init ["self", "part"]
  m_InvalidMap__init : PySem.W.findIn K (.ref C_InvalidMap) "__init__" = some (some (.ref f_InvalidMap__init))
  ti_InvalidMap__init : PySem.W.typeIn K (.ref f_InvalidMap__init) = some (.type "function")
  g_SizeMismatch : mg "SizeMismatch" = some (.ref C_SizeMismatch)
  x_SizeMismatch : OexG K C_SizeMismatch
  xf_SizeMismatch : XfC K C_SizeMismatch
  xe_SizeMismatch : ExcC K C_SizeMismatch
  te_SizeMismatch : PySem.W.exmOne K (.ref C_SizeMismatch) (.ref C_SizeMismatch) = some true
  kit_ValueError_SizeMismatch : PySem.W.kitOne K (.ref C_SizeMismatch) (.type "ValueError") = some true
  te_SizeMismatch_InvalidMap : PySem.W.exmOne K (.ref C_SizeMismatch) (.ref C_InvalidMap) = some false
  na_first_SizeMismatch : PySem.W.findIn K (.ref C_SizeMismatch) "first" = some none
  na_second_SizeMismatch : PySem.W.findIn K (.ref C_SizeMismatch) "second" = some none
  A_SizeMismatch__init : U.FnAt K "__init__" "SizeMismatch.__init__" s_SizeMismatch__init f_SizeMismatch__init ["self", "first", "second"]
  m_SizeMismatch__init : PySem.W.findIn K (.ref C_SizeMismatch) "__init__" = some (some (.ref f_SizeMismatch__init))
  ti_SizeMismatch__init : PySem.W.typeIn K (.ref f_SizeMismatch__init) = some (.type "function")
  g_InvalidSize : mg "InvalidSize" = some (.ref C_InvalidSize)
  x_InvalidSize : OexG K C_InvalidSize
  xf_InvalidSize : XfC K C_InvalidSize
  xe_InvalidSize : ExcC K C_InvalidSize
  te_InvalidSize : PySem.W.exmOne K (.ref C_InvalidSize) (.ref C_InvalidSize) = some true
  kit_ValueError_InvalidSize : PySem.W.kitOne K (.ref C_InvalidSize) (.type "ValueError") = some true
  na_value_InvalidSize : PySem.W.findIn K (.ref C_InvalidSize) "value" = some none
  A_InvalidSize__init : U.FnAt K "__init__" "InvalidSize.__init__" s_InvalidSize__init f_InvalidSize__init ["self", "value"]
  m_InvalidSize__init : PySem.W.findIn K (.ref C_InvalidSize) "__init__" = some (some (.ref f_InvalidSize__init))
  ti_InvalidSize__init : PySem.W.typeIn K (.ref f_InvalidSize__init) = some (.type "function")
  g_InvalidSteps : mg "InvalidSteps" = some (.ref C_InvalidSteps)
  x_InvalidSteps : OexG K C_InvalidSteps
  xf_InvalidSteps : XfC K C_InvalidSteps
  xe_InvalidSteps : ExcC K C_InvalidSteps
  te_InvalidSteps : PySem.W.exmOne K (.ref C_InvalidSteps) (.ref C_InvalidSteps) = some true
  kit_ValueError_InvalidSteps : PySem.W.kitOne K (.ref C_InvalidSteps) (.type "ValueError") = some true
  na_position_InvalidSteps : PySem.W.findIn K (.ref C_InvalidSteps) "position" = some none
  A_InvalidSteps__init : U.FnAt K "__init__" "InvalidSteps.__init__" s_InvalidSteps__init f_InvalidSteps__init ["self", "position"]
  m_InvalidSteps__init : PySem.W.findIn K (.ref C_InvalidSteps) "__init__" = some (some (.ref f_InvalidSteps__init))
  ti_InvalidSteps__init : PySem.W.typeIn K (.ref f_InvalidSteps__init) = some (.type "function")
  n_isinstance : mg "isinstance" = none
  n_int : mg "int" = none
  n_bool : mg "bool" = none
  n_dict : mg "dict" = none
  n_len : mg "len" = none
  n_range : mg "range" = none
  n_list : mg "list" = none
  n_tuple : mg "tuple" = none
  n_str : mg "str" = none
  n_enumerate : mg "enumerate" = none
  n_all : mg "all" = none
  n_max : mg "max" = none
  n_min : mg "min" = none
  n_sum : mg "sum" = none
  n_repr : mg "repr" = none
  n_ValueError : mg "ValueError" = none
  v_MAX_SIZE : ∃ t, mg "MAX_SIZE" = some (.int 300 t)
theorem mk_txt {K : PySem.W.Frag} {h : Heap} {mg : Str → Option Value} (X : K.In h) (G : h.Ns mainGlobals mg)
    {f_is_integer : Addr} {oc_is_integer kV_is_integer dc_is_integer pm_is_integer cd_is_integer ct_is_integer : Value} {od_is_integer an_is_integer : Option Addr} {sl_is_integer : Array (Option Value)}
    {f_in_range : Addr} {oc_in_range kV_in_range dc_in_range pm_in_range cd_in_range ct_in_range : Value} {od_in_range an_in_range : Option Addr} {sl_in_range : Array (Option Value)}
    {f_check_size : Addr} {oc_check_size kV_check_size dc_check_size pm_check_size cd_check_size ct_check_size : Value} {od_check_size an_check_size : Option Addr} {sl_check_size : Array (Option Value)}
    {f_are_arrows : Addr} {oc_are_arrows kV_are_arrows dc_are_arrows pm_are_arrows cd_are_arrows ct_are_arrows : Value} {od_are_arrows an_are_arrows : Option Addr} {sl_are_arrows : Array (Option Value)}
    {f_common_size : Addr} {oc_common_size kV_common_size dc_common_size pm_common_size cd_common_size ct_common_size : Value} {od_common_size an_common_size : Option Addr} {sl_common_size : Array (Option Value)}
    {f_row_from : Addr} {oc_row_from kV_row_from dc_row_from pm_row_from cd_row_from ct_row_from : Value} {od_row_from an_row_from : Option Addr} {sl_row_from : Array (Option Value)}
    {f_check_map : Addr} {oc_check_map kV_check_map dc_check_map pm_check_map cd_check_map ct_check_map : Value} {od_check_map an_check_map : Option Addr} {sl_check_map : Array (Option Value)}
    {f_check_maps : Addr} {oc_check_maps kV_check_maps dc_check_maps pm_check_maps cd_check_maps ct_check_maps : Value} {od_check_maps an_check_maps : Option Addr} {sl_check_maps : Array (Option Value)}
    {f_factorial : Addr} {oc_factorial kV_factorial dc_factorial pm_factorial cd_factorial ct_factorial : Value} {od_factorial an_factorial : Option Addr} {sl_factorial : Array (Option Value)}
    {f_power_of : Addr} {oc_power_of kV_power_of dc_power_of pm_power_of cd_power_of ct_power_of : Value} {od_power_of an_power_of : Option Addr} {sl_power_of : Array (Option Value)}
    {f_parts_of : Addr} {oc_parts_of kV_parts_of dc_parts_of pm_parts_of cd_parts_of ct_parts_of : Value} {od_parts_of an_parts_of : Option Addr} {sl_parts_of : Array (Option Value)}
    {f_is_step : Addr} {oc_is_step kV_is_step dc_is_step pm_is_step cd_is_step ct_is_step : Value} {od_is_step an_is_step : Option Addr} {sl_is_step : Array (Option Value)}
    {f_first_invalid : Addr} {oc_first_invalid kV_first_invalid dc_first_invalid pm_first_invalid cd_first_invalid ct_first_invalid : Value} {od_first_invalid an_first_invalid : Option Addr} {sl_first_invalid : Array (Option Value)}
    {f_after_list : Addr} {oc_after_list kV_after_list dc_after_list pm_after_list cd_after_list ct_after_list : Value} {od_after_list an_after_list : Option Addr} {sl_after_list : Array (Option Value)}
    {f_applied : Addr} {oc_applied kV_applied dc_applied pm_applied cd_applied ct_applied : Value} {od_applied an_applied : Option Addr} {sl_applied : Array (Option Value)}
    {f_link_of : Addr} {oc_link_of kV_link_of dc_link_of pm_link_of cd_link_of ct_link_of : Value} {od_link_of an_link_of : Option Addr} {sl_link_of : Array (Option Value)}
    {f_parts_between : Addr} {oc_parts_between kV_parts_between dc_parts_between pm_parts_between cd_parts_between ct_parts_between : Value} {od_parts_between an_parts_between : Option Addr} {sl_parts_between : Array (Option Value)}
    {f_distance : Addr} {oc_distance kV_distance dc_distance pm_distance cd_distance ct_distance : Value} {od_distance an_distance : Option Addr} {sl_distance : Array (Option Value)}
    {f_forgotten : Addr} {oc_forgotten kV_forgotten dc_forgotten pm_forgotten cd_forgotten ct_forgotten : Value} {od_forgotten an_forgotten : Option Addr} {sl_forgotten : Array (Option Value)}
    {f_swap_of : Addr} {oc_swap_of kV_swap_of dc_swap_of pm_swap_of cd_swap_of ct_swap_of : Value} {od_swap_of an_swap_of : Option Addr} {sl_swap_of : Array (Option Value)}
    {f_steps : Addr} {oc_steps kV_steps dc_steps pm_steps cd_steps ct_steps : Value} {od_steps an_steps : Option Addr} {sl_steps : Array (Option Value)}
    {f_is_making : Addr} {oc_is_making kV_is_making dc_is_making pm_is_making cd_is_making ct_is_making : Value} {od_is_making an_is_making : Option Addr} {sl_is_making : Array (Option Value)}
    {f_next_steps : Addr} {oc_next_steps kV_next_steps dc_next_steps pm_next_steps cd_next_steps ct_next_steps : Value} {od_next_steps an_next_steps : Option Addr} {sl_next_steps : Array (Option Value)}
    {f_count_shortest : Addr} {oc_count_shortest kV_count_shortest dc_count_shortest pm_count_shortest cd_count_shortest ct_count_shortest : Value} {od_count_shortest an_count_shortest : Option Addr} {sl_count_shortest : Array (Option Value)}
    {f_l_hand : Addr} {oc_l_hand kV_l_hand dc_l_hand pm_l_hand cd_l_hand ct_l_hand : Value} {od_l_hand an_l_hand : Option Addr} {sl_l_hand : Array (Option Value)}
    {f_l_draw : Addr} {oc_l_draw kV_l_draw dc_l_draw pm_l_draw cd_l_draw ct_l_draw : Value} {od_l_draw an_l_draw : Option Addr} {sl_l_draw : Array (Option Value)}
    {f_l_arrows : Addr} {oc_l_arrows kV_l_arrows dc_l_arrows pm_l_arrows cd_l_arrows ct_l_arrows : Value} {od_l_arrows an_l_arrows : Option Addr} {sl_l_arrows : Array (Option Value)}
    {f_l_parts : Addr} {oc_l_parts kV_l_parts dc_l_parts pm_l_parts cd_l_parts ct_l_parts : Value} {od_l_parts an_l_parts : Option Addr} {sl_l_parts : Array (Option Value)}
    {f_l_due : Addr} {oc_l_due kV_l_due dc_l_due pm_l_due cd_l_due ct_l_due : Value} {od_l_due an_l_due : Option Addr} {sl_l_due : Array (Option Value)}
    {f_l_bent : Addr} {oc_l_bent kV_l_bent dc_l_bent pm_l_bent cd_l_bent ct_l_bent : Value} {od_l_bent an_l_bent : Option Addr} {sl_l_bent : Array (Option Value)}
    {f_l_leads : Addr} {oc_l_leads kV_l_leads dc_l_leads pm_l_leads cd_l_leads ct_l_leads : Value} {od_l_leads an_l_leads : Option Addr} {sl_l_leads : Array (Option Value)}
    {f_l_refused : Addr} {oc_l_refused kV_l_refused dc_l_refused pm_l_refused cd_l_refused ct_l_refused : Value} {od_l_refused an_l_refused : Option Addr} {sl_l_refused : Array (Option Value)}
    {f_l_nearer : Addr} {oc_l_nearer kV_l_nearer dc_l_nearer pm_l_nearer cd_l_nearer ct_l_nearer : Value} {od_l_nearer an_l_nearer : Option Addr} {sl_l_nearer : Array (Option Value)}
    {f_law : Addr} {oc_law kV_law dc_law pm_law cd_law ct_law : Value} {od_law an_law : Option Addr} {sl_law : Array (Option Value)}
    {C_Map : Addr}
    {f_Map__init : Addr} {oc_Map__init kV_Map__init dc_Map__init pm_Map__init cd_Map__init ct_Map__init : Value} {od_Map__init an_Map__init : Option Addr} {sl_Map__init : Array (Option Value)}
    {p_Map_empty : Addr} {r_Map_empty : List Value}
    {f_Map_empty : Addr} {oc_Map_empty kV_Map_empty dc_Map_empty pm_Map_empty cd_Map_empty ct_Map_empty : Value} {od_Map_empty an_Map_empty : Option Addr} {sl_Map_empty : Array (Option Value)}
    {p_Map_size : Addr} {r_Map_size : List Value}
    {f_Map_size : Addr} {oc_Map_size kV_Map_size dc_Map_size pm_Map_size cd_Map_size ct_Map_size : Value} {od_Map_size an_Map_size : Option Addr} {sl_Map_size : Array (Option Value)}
    {p_Map_arrows : Addr} {r_Map_arrows : List Value}
    {f_Map_arrows : Addr} {oc_Map_arrows kV_Map_arrows dc_Map_arrows pm_Map_arrows cd_Map_arrows ct_Map_arrows : Value} {od_Map_arrows an_Map_arrows : Option Addr} {sl_Map_arrows : Array (Option Value)}
    {f_Map__eq : Addr} {oc_Map__eq kV_Map__eq dc_Map__eq pm_Map__eq cd_Map__eq ct_Map__eq : Value} {od_Map__eq an_Map__eq : Option Addr} {sl_Map__eq : Array (Option Value)}
    {f_Map__len : Addr} {oc_Map__len kV_Map__len dc_Map__len pm_Map__len cd_Map__len ct_Map__len : Value} {od_Map__len an_Map__len : Option Addr} {sl_Map__len : Array (Option Value)}
    {C_InvalidMap : Addr} {nm_InvalidMap q_InvalidMap : Str} {N_InvalidMap : Addr} {bs_InvalidMap : List Value} {sn_InvalidMap : List Str} {sub_InvalidMap : List Value} {ab_InvalidMap : Bool} {col_InvalidMap : Option Bool} {dd_InvalidMap : Option Addr} {m0_InvalidMap m1_InvalidMap m2_InvalidMap m3_InvalidMap m5_InvalidMap : Option Value}
    {f_InvalidMap__init : Addr} {oc_InvalidMap__init kV_InvalidMap__init dc_InvalidMap__init pm_InvalidMap__init cd_InvalidMap__init ct_InvalidMap__init : Value} {od_InvalidMap__init an_InvalidMap__init : Option Addr} {sl_InvalidMap__init : Array (Option Value)}
    {C_SizeMismatch : Addr} {nm_SizeMismatch q_SizeMismatch : Str} {N_SizeMismatch : Addr} {bs_SizeMismatch : List Value} {sn_SizeMismatch : List Str} {sub_SizeMismatch : List Value} {ab_SizeMismatch : Bool} {col_SizeMismatch : Option Bool} {dd_SizeMismatch : Option Addr} {m0_SizeMismatch m1_SizeMismatch m2_SizeMismatch m3_SizeMismatch m5_SizeMismatch : Option Value}
    {f_SizeMismatch__init : Addr} {oc_SizeMismatch__init kV_SizeMismatch__init dc_SizeMismatch__init pm_SizeMismatch__init cd_SizeMismatch__init ct_SizeMismatch__init : Value} {od_SizeMismatch__init an_SizeMismatch__init : Option Addr} {sl_SizeMismatch__init : Array (Option Value)}
    {C_InvalidSize : Addr} {nm_InvalidSize q_InvalidSize : Str} {N_InvalidSize : Addr} {bs_InvalidSize : List Value} {sn_InvalidSize : List Str} {sub_InvalidSize : List Value} {ab_InvalidSize : Bool} {col_InvalidSize : Option Bool} {dd_InvalidSize : Option Addr} {m0_InvalidSize m1_InvalidSize m2_InvalidSize m3_InvalidSize m5_InvalidSize : Option Value}
    {f_InvalidSize__init : Addr} {oc_InvalidSize__init kV_InvalidSize__init dc_InvalidSize__init pm_InvalidSize__init cd_InvalidSize__init ct_InvalidSize__init : Value} {od_InvalidSize__init an_InvalidSize__init : Option Addr} {sl_InvalidSize__init : Array (Option Value)}
    {C_InvalidSteps : Addr} {nm_InvalidSteps q_InvalidSteps : Str} {N_InvalidSteps : Addr} {bs_InvalidSteps : List Value} {sn_InvalidSteps : List Str} {sub_InvalidSteps : List Value} {ab_InvalidSteps : Bool} {col_InvalidSteps : Option Bool} {dd_InvalidSteps : Option Addr} {m0_InvalidSteps m1_InvalidSteps m2_InvalidSteps m3_InvalidSteps m5_InvalidSteps : Option Value}
    {f_InvalidSteps__init : Addr} {oc_InvalidSteps__init kV_InvalidSteps__init dc_InvalidSteps__init pm_InvalidSteps__init cd_InvalidSteps__init ct_InvalidSteps__init : Value} {od_InvalidSteps__init an_InvalidSteps__init : Option Addr} {sl_InvalidSteps__init : Array (Option Value)}
    {t_MAX_SIZE : Tok}
    (a_is_integer : PySem.W.nsIn K mainGlobals "is_integer" = some (some (.ref f_is_integer)))
    (l_is_integer : K.lookup f_is_integer = some ⟨oc_is_integer, od_is_integer, .func (PySem.W.fnOf "is_integer" "is_integer" (defArgs s_is_integer) (defBody s_is_integer) (defScope s_is_integer) .none kV_is_integer dc_is_integer pm_is_integer an_is_integer cd_is_integer ct_is_integer), sl_is_integer⟩)
    (c_is_integer : PySem.W.codeIn K cd_is_integer "is_integer" = true)
    (k_is_integer : PySem.W.keepIn K (.ref f_is_integer) = true)
    (a_in_range : PySem.W.nsIn K mainGlobals "in_range" = some (some (.ref f_in_range)))
    (l_in_range : K.lookup f_in_range = some ⟨oc_in_range, od_in_range, .func (PySem.W.fnOf "in_range" "in_range" (defArgs s_in_range) (defBody s_in_range) (defScope s_in_range) .none kV_in_range dc_in_range pm_in_range an_in_range cd_in_range ct_in_range), sl_in_range⟩)
    (c_in_range : PySem.W.codeIn K cd_in_range "in_range" = true)
    (k_in_range : PySem.W.keepIn K (.ref f_in_range) = true)
    (a_check_size : PySem.W.nsIn K mainGlobals "check_size" = some (some (.ref f_check_size)))
    (l_check_size : K.lookup f_check_size = some ⟨oc_check_size, od_check_size, .func (PySem.W.fnOf "check_size" "check_size" (defArgs s_check_size) (defBody s_check_size) (defScope s_check_size) .none kV_check_size dc_check_size pm_check_size an_check_size cd_check_size ct_check_size), sl_check_size⟩)
    (c_check_size : PySem.W.codeIn K cd_check_size "check_size" = true)
    (k_check_size : PySem.W.keepIn K (.ref f_check_size) = true)
    (a_are_arrows : PySem.W.nsIn K mainGlobals "are_arrows" = some (some (.ref f_are_arrows)))
    (l_are_arrows : K.lookup f_are_arrows = some ⟨oc_are_arrows, od_are_arrows, .func (PySem.W.fnOf "are_arrows" "are_arrows" (defArgs s_are_arrows) (defBody s_are_arrows) (defScope s_are_arrows) .none kV_are_arrows dc_are_arrows pm_are_arrows an_are_arrows cd_are_arrows ct_are_arrows), sl_are_arrows⟩)
    (c_are_arrows : PySem.W.codeIn K cd_are_arrows "are_arrows" = true)
    (k_are_arrows : PySem.W.keepIn K (.ref f_are_arrows) = true)
    (a_common_size : PySem.W.nsIn K mainGlobals "common_size" = some (some (.ref f_common_size)))
    (l_common_size : K.lookup f_common_size = some ⟨oc_common_size, od_common_size, .func (PySem.W.fnOf "common_size" "common_size" (defArgs s_common_size) (defBody s_common_size) (defScope s_common_size) .none kV_common_size dc_common_size pm_common_size an_common_size cd_common_size ct_common_size), sl_common_size⟩)
    (c_common_size : PySem.W.codeIn K cd_common_size "common_size" = true)
    (k_common_size : PySem.W.keepIn K (.ref f_common_size) = true)
    (a_row_from : PySem.W.nsIn K mainGlobals "row_from" = some (some (.ref f_row_from)))
    (l_row_from : K.lookup f_row_from = some ⟨oc_row_from, od_row_from, .func (PySem.W.fnOf "row_from" "row_from" (defArgs s_row_from) (defBody s_row_from) (defScope s_row_from) .none kV_row_from dc_row_from pm_row_from an_row_from cd_row_from ct_row_from), sl_row_from⟩)
    (c_row_from : PySem.W.codeIn K cd_row_from "row_from" = true)
    (k_row_from : PySem.W.keepIn K (.ref f_row_from) = true)
    (a_check_map : PySem.W.nsIn K mainGlobals "check_map" = some (some (.ref f_check_map)))
    (l_check_map : K.lookup f_check_map = some ⟨oc_check_map, od_check_map, .func (PySem.W.fnOf "check_map" "check_map" (defArgs s_check_map) (defBody s_check_map) (defScope s_check_map) .none kV_check_map dc_check_map pm_check_map an_check_map cd_check_map ct_check_map), sl_check_map⟩)
    (c_check_map : PySem.W.codeIn K cd_check_map "check_map" = true)
    (k_check_map : PySem.W.keepIn K (.ref f_check_map) = true)
    (a_check_maps : PySem.W.nsIn K mainGlobals "check_maps" = some (some (.ref f_check_maps)))
    (l_check_maps : K.lookup f_check_maps = some ⟨oc_check_maps, od_check_maps, .func (PySem.W.fnOf "check_maps" "check_maps" (defArgs s_check_maps) (defBody s_check_maps) (defScope s_check_maps) .none kV_check_maps dc_check_maps pm_check_maps an_check_maps cd_check_maps ct_check_maps), sl_check_maps⟩)
    (c_check_maps : PySem.W.codeIn K cd_check_maps "check_maps" = true)
    (k_check_maps : PySem.W.keepIn K (.ref f_check_maps) = true)
    (a_factorial : PySem.W.nsIn K mainGlobals "factorial" = some (some (.ref f_factorial)))
    (l_factorial : K.lookup f_factorial = some ⟨oc_factorial, od_factorial, .func (PySem.W.fnOf "factorial" "factorial" (defArgs s_factorial) (defBody s_factorial) (defScope s_factorial) .none kV_factorial dc_factorial pm_factorial an_factorial cd_factorial ct_factorial), sl_factorial⟩)
    (c_factorial : PySem.W.codeIn K cd_factorial "factorial" = true)
    (k_factorial : PySem.W.keepIn K (.ref f_factorial) = true)
    (a_power_of : PySem.W.nsIn K mainGlobals "power_of" = some (some (.ref f_power_of)))
    (l_power_of : K.lookup f_power_of = some ⟨oc_power_of, od_power_of, .func (PySem.W.fnOf "power_of" "power_of" (defArgs s_power_of) (defBody s_power_of) (defScope s_power_of) .none kV_power_of dc_power_of pm_power_of an_power_of cd_power_of ct_power_of), sl_power_of⟩)
    (c_power_of : PySem.W.codeIn K cd_power_of "power_of" = true)
    (k_power_of : PySem.W.keepIn K (.ref f_power_of) = true)
    (a_parts_of : PySem.W.nsIn K mainGlobals "parts_of" = some (some (.ref f_parts_of)))
    (l_parts_of : K.lookup f_parts_of = some ⟨oc_parts_of, od_parts_of, .func (PySem.W.fnOf "parts_of" "parts_of" (defArgs s_parts_of) (defBody s_parts_of) (defScope s_parts_of) .none kV_parts_of dc_parts_of pm_parts_of an_parts_of cd_parts_of ct_parts_of), sl_parts_of⟩)
    (c_parts_of : PySem.W.codeIn K cd_parts_of "parts_of" = true)
    (k_parts_of : PySem.W.keepIn K (.ref f_parts_of) = true)
    (a_is_step : PySem.W.nsIn K mainGlobals "is_step" = some (some (.ref f_is_step)))
    (l_is_step : K.lookup f_is_step = some ⟨oc_is_step, od_is_step, .func (PySem.W.fnOf "is_step" "is_step" (defArgs s_is_step) (defBody s_is_step) (defScope s_is_step) .none kV_is_step dc_is_step pm_is_step an_is_step cd_is_step ct_is_step), sl_is_step⟩)
    (c_is_step : PySem.W.codeIn K cd_is_step "is_step" = true)
    (k_is_step : PySem.W.keepIn K (.ref f_is_step) = true)
    (a_first_invalid : PySem.W.nsIn K mainGlobals "first_invalid" = some (some (.ref f_first_invalid)))
    (l_first_invalid : K.lookup f_first_invalid = some ⟨oc_first_invalid, od_first_invalid, .func (PySem.W.fnOf "first_invalid" "first_invalid" (defArgs s_first_invalid) (defBody s_first_invalid) (defScope s_first_invalid) .none kV_first_invalid dc_first_invalid pm_first_invalid an_first_invalid cd_first_invalid ct_first_invalid), sl_first_invalid⟩)
    (c_first_invalid : PySem.W.codeIn K cd_first_invalid "first_invalid" = true)
    (k_first_invalid : PySem.W.keepIn K (.ref f_first_invalid) = true)
    (a_after_list : PySem.W.nsIn K mainGlobals "after_list" = some (some (.ref f_after_list)))
    (l_after_list : K.lookup f_after_list = some ⟨oc_after_list, od_after_list, .func (PySem.W.fnOf "after_list" "after_list" (defArgs s_after_list) (defBody s_after_list) (defScope s_after_list) .none kV_after_list dc_after_list pm_after_list an_after_list cd_after_list ct_after_list), sl_after_list⟩)
    (c_after_list : PySem.W.codeIn K cd_after_list "after_list" = true)
    (k_after_list : PySem.W.keepIn K (.ref f_after_list) = true)
    (a_applied : PySem.W.nsIn K mainGlobals "applied" = some (some (.ref f_applied)))
    (l_applied : K.lookup f_applied = some ⟨oc_applied, od_applied, .func (PySem.W.fnOf "applied" "applied" (defArgs s_applied) (defBody s_applied) (defScope s_applied) .none kV_applied dc_applied pm_applied an_applied cd_applied ct_applied), sl_applied⟩)
    (c_applied : PySem.W.codeIn K cd_applied "applied" = true)
    (k_applied : PySem.W.keepIn K (.ref f_applied) = true)
    (a_link_of : PySem.W.nsIn K mainGlobals "link_of" = some (some (.ref f_link_of)))
    (l_link_of : K.lookup f_link_of = some ⟨oc_link_of, od_link_of, .func (PySem.W.fnOf "link_of" "link_of" (defArgs s_link_of) (defBody s_link_of) (defScope s_link_of) .none kV_link_of dc_link_of pm_link_of an_link_of cd_link_of ct_link_of), sl_link_of⟩)
    (c_link_of : PySem.W.codeIn K cd_link_of "link_of" = true)
    (k_link_of : PySem.W.keepIn K (.ref f_link_of) = true)
    (a_parts_between : PySem.W.nsIn K mainGlobals "parts_between" = some (some (.ref f_parts_between)))
    (l_parts_between : K.lookup f_parts_between = some ⟨oc_parts_between, od_parts_between, .func (PySem.W.fnOf "parts_between" "parts_between" (defArgs s_parts_between) (defBody s_parts_between) (defScope s_parts_between) .none kV_parts_between dc_parts_between pm_parts_between an_parts_between cd_parts_between ct_parts_between), sl_parts_between⟩)
    (c_parts_between : PySem.W.codeIn K cd_parts_between "parts_between" = true)
    (k_parts_between : PySem.W.keepIn K (.ref f_parts_between) = true)
    (a_distance : PySem.W.nsIn K mainGlobals "distance" = some (some (.ref f_distance)))
    (l_distance : K.lookup f_distance = some ⟨oc_distance, od_distance, .func (PySem.W.fnOf "distance" "distance" (defArgs s_distance) (defBody s_distance) (defScope s_distance) .none kV_distance dc_distance pm_distance an_distance cd_distance ct_distance), sl_distance⟩)
    (c_distance : PySem.W.codeIn K cd_distance "distance" = true)
    (k_distance : PySem.W.keepIn K (.ref f_distance) = true)
    (a_forgotten : PySem.W.nsIn K mainGlobals "forgotten" = some (some (.ref f_forgotten)))
    (l_forgotten : K.lookup f_forgotten = some ⟨oc_forgotten, od_forgotten, .func (PySem.W.fnOf "forgotten" "forgotten" (defArgs s_forgotten) (defBody s_forgotten) (defScope s_forgotten) .none kV_forgotten dc_forgotten pm_forgotten an_forgotten cd_forgotten ct_forgotten), sl_forgotten⟩)
    (c_forgotten : PySem.W.codeIn K cd_forgotten "forgotten" = true)
    (k_forgotten : PySem.W.keepIn K (.ref f_forgotten) = true)
    (a_swap_of : PySem.W.nsIn K mainGlobals "swap_of" = some (some (.ref f_swap_of)))
    (l_swap_of : K.lookup f_swap_of = some ⟨oc_swap_of, od_swap_of, .func (PySem.W.fnOf "swap_of" "swap_of" (defArgs s_swap_of) (defBody s_swap_of) (defScope s_swap_of) .none kV_swap_of dc_swap_of pm_swap_of an_swap_of cd_swap_of ct_swap_of), sl_swap_of⟩)
    (c_swap_of : PySem.W.codeIn K cd_swap_of "swap_of" = true)
    (k_swap_of : PySem.W.keepIn K (.ref f_swap_of) = true)
    (a_steps : PySem.W.nsIn K mainGlobals "steps" = some (some (.ref f_steps)))
    (l_steps : K.lookup f_steps = some ⟨oc_steps, od_steps, .func (PySem.W.fnOf "steps" "steps" (defArgs s_steps) (defBody s_steps) (defScope s_steps) .none kV_steps dc_steps pm_steps an_steps cd_steps ct_steps), sl_steps⟩)
    (c_steps : PySem.W.codeIn K cd_steps "steps" = true)
    (k_steps : PySem.W.keepIn K (.ref f_steps) = true)
    (a_is_making : PySem.W.nsIn K mainGlobals "is_making" = some (some (.ref f_is_making)))
    (l_is_making : K.lookup f_is_making = some ⟨oc_is_making, od_is_making, .func (PySem.W.fnOf "is_making" "is_making" (defArgs s_is_making) (defBody s_is_making) (defScope s_is_making) .none kV_is_making dc_is_making pm_is_making an_is_making cd_is_making ct_is_making), sl_is_making⟩)
    (c_is_making : PySem.W.codeIn K cd_is_making "is_making" = true)
    (k_is_making : PySem.W.keepIn K (.ref f_is_making) = true)
    (a_next_steps : PySem.W.nsIn K mainGlobals "next_steps" = some (some (.ref f_next_steps)))
    (l_next_steps : K.lookup f_next_steps = some ⟨oc_next_steps, od_next_steps, .func (PySem.W.fnOf "next_steps" "next_steps" (defArgs s_next_steps) (defBody s_next_steps) (defScope s_next_steps) .none kV_next_steps dc_next_steps pm_next_steps an_next_steps cd_next_steps ct_next_steps), sl_next_steps⟩)
    (c_next_steps : PySem.W.codeIn K cd_next_steps "next_steps" = true)
    (k_next_steps : PySem.W.keepIn K (.ref f_next_steps) = true)
    (a_count_shortest : PySem.W.nsIn K mainGlobals "count_shortest" = some (some (.ref f_count_shortest)))
    (l_count_shortest : K.lookup f_count_shortest = some ⟨oc_count_shortest, od_count_shortest, .func (PySem.W.fnOf "count_shortest" "count_shortest" (defArgs s_count_shortest) (defBody s_count_shortest) (defScope s_count_shortest) .none kV_count_shortest dc_count_shortest pm_count_shortest an_count_shortest cd_count_shortest ct_count_shortest), sl_count_shortest⟩)
    (c_count_shortest : PySem.W.codeIn K cd_count_shortest "count_shortest" = true)
    (k_count_shortest : PySem.W.keepIn K (.ref f_count_shortest) = true)
    (a_l_hand : PySem.W.nsIn K mainGlobals "_law_hand" = some (some (.ref f_l_hand)))
    (l_l_hand : K.lookup f_l_hand = some ⟨oc_l_hand, od_l_hand, .func (PySem.W.fnOf "_law_hand" "_law_hand" (defArgs s_l_hand) (defBody s_l_hand) (defScope s_l_hand) .none kV_l_hand dc_l_hand pm_l_hand an_l_hand cd_l_hand ct_l_hand), sl_l_hand⟩)
    (c_l_hand : PySem.W.codeIn K cd_l_hand "_law_hand" = true)
    (k_l_hand : PySem.W.keepIn K (.ref f_l_hand) = true)
    (a_l_draw : PySem.W.nsIn K mainGlobals "_law_draw" = some (some (.ref f_l_draw)))
    (l_l_draw : K.lookup f_l_draw = some ⟨oc_l_draw, od_l_draw, .func (PySem.W.fnOf "_law_draw" "_law_draw" (defArgs s_l_draw) (defBody s_l_draw) (defScope s_l_draw) .none kV_l_draw dc_l_draw pm_l_draw an_l_draw cd_l_draw ct_l_draw), sl_l_draw⟩)
    (c_l_draw : PySem.W.codeIn K cd_l_draw "_law_draw" = true)
    (k_l_draw : PySem.W.keepIn K (.ref f_l_draw) = true)
    (a_l_arrows : PySem.W.nsIn K mainGlobals "_law_arrows" = some (some (.ref f_l_arrows)))
    (l_l_arrows : K.lookup f_l_arrows = some ⟨oc_l_arrows, od_l_arrows, .func (PySem.W.fnOf "_law_arrows" "_law_arrows" (defArgs s_l_arrows) (defBody s_l_arrows) (defScope s_l_arrows) .none kV_l_arrows dc_l_arrows pm_l_arrows an_l_arrows cd_l_arrows ct_l_arrows), sl_l_arrows⟩)
    (c_l_arrows : PySem.W.codeIn K cd_l_arrows "_law_arrows" = true)
    (k_l_arrows : PySem.W.keepIn K (.ref f_l_arrows) = true)
    (a_l_parts : PySem.W.nsIn K mainGlobals "_law_parts" = some (some (.ref f_l_parts)))
    (l_l_parts : K.lookup f_l_parts = some ⟨oc_l_parts, od_l_parts, .func (PySem.W.fnOf "_law_parts" "_law_parts" (defArgs s_l_parts) (defBody s_l_parts) (defScope s_l_parts) .none kV_l_parts dc_l_parts pm_l_parts an_l_parts cd_l_parts ct_l_parts), sl_l_parts⟩)
    (c_l_parts : PySem.W.codeIn K cd_l_parts "_law_parts" = true)
    (k_l_parts : PySem.W.keepIn K (.ref f_l_parts) = true)
    (a_l_due : PySem.W.nsIn K mainGlobals "_law_due" = some (some (.ref f_l_due)))
    (l_l_due : K.lookup f_l_due = some ⟨oc_l_due, od_l_due, .func (PySem.W.fnOf "_law_due" "_law_due" (defArgs s_l_due) (defBody s_l_due) (defScope s_l_due) .none kV_l_due dc_l_due pm_l_due an_l_due cd_l_due ct_l_due), sl_l_due⟩)
    (c_l_due : PySem.W.codeIn K cd_l_due "_law_due" = true)
    (k_l_due : PySem.W.keepIn K (.ref f_l_due) = true)
    (a_l_bent : PySem.W.nsIn K mainGlobals "_law_bent" = some (some (.ref f_l_bent)))
    (l_l_bent : K.lookup f_l_bent = some ⟨oc_l_bent, od_l_bent, .func (PySem.W.fnOf "_law_bent" "_law_bent" (defArgs s_l_bent) (defBody s_l_bent) (defScope s_l_bent) .none kV_l_bent dc_l_bent pm_l_bent an_l_bent cd_l_bent ct_l_bent), sl_l_bent⟩)
    (c_l_bent : PySem.W.codeIn K cd_l_bent "_law_bent" = true)
    (k_l_bent : PySem.W.keepIn K (.ref f_l_bent) = true)
    (a_l_leads : PySem.W.nsIn K mainGlobals "_law_leads" = some (some (.ref f_l_leads)))
    (l_l_leads : K.lookup f_l_leads = some ⟨oc_l_leads, od_l_leads, .func (PySem.W.fnOf "_law_leads" "_law_leads" (defArgs s_l_leads) (defBody s_l_leads) (defScope s_l_leads) .none kV_l_leads dc_l_leads pm_l_leads an_l_leads cd_l_leads ct_l_leads), sl_l_leads⟩)
    (c_l_leads : PySem.W.codeIn K cd_l_leads "_law_leads" = true)
    (k_l_leads : PySem.W.keepIn K (.ref f_l_leads) = true)
    (a_l_refused : PySem.W.nsIn K mainGlobals "_law_refused" = some (some (.ref f_l_refused)))
    (l_l_refused : K.lookup f_l_refused = some ⟨oc_l_refused, od_l_refused, .func (PySem.W.fnOf "_law_refused" "_law_refused" (defArgs s_l_refused) (defBody s_l_refused) (defScope s_l_refused) .none kV_l_refused dc_l_refused pm_l_refused an_l_refused cd_l_refused ct_l_refused), sl_l_refused⟩)
    (c_l_refused : PySem.W.codeIn K cd_l_refused "_law_refused" = true)
    (k_l_refused : PySem.W.keepIn K (.ref f_l_refused) = true)
    (a_l_nearer : PySem.W.nsIn K mainGlobals "_law_nearer" = some (some (.ref f_l_nearer)))
    (l_l_nearer : K.lookup f_l_nearer = some ⟨oc_l_nearer, od_l_nearer, .func (PySem.W.fnOf "_law_nearer" "_law_nearer" (defArgs s_l_nearer) (defBody s_l_nearer) (defScope s_l_nearer) .none kV_l_nearer dc_l_nearer pm_l_nearer an_l_nearer cd_l_nearer ct_l_nearer), sl_l_nearer⟩)
    (c_l_nearer : PySem.W.codeIn K cd_l_nearer "_law_nearer" = true)
    (k_l_nearer : PySem.W.keepIn K (.ref f_l_nearer) = true)
    (a_law : PySem.W.nsIn K mainGlobals "law" = some (some (.ref f_law)))
    (l_law : K.lookup f_law = some ⟨oc_law, od_law, .func (PySem.W.fnOf "law" "law" (defArgs s_law) (defBody s_law) (defScope s_law) .none kV_law dc_law pm_law an_law cd_law ct_law), sl_law⟩)
    (c_law : PySem.W.codeIn K cd_law "law" = true)
    (k_law : PySem.W.keepIn K (.ref f_law) = true)
    (a_Map : PySem.W.nsIn K mainGlobals "Map" = some (some (.ref C_Map)))
    (pg_Map : PySem.W.plainGet K C_Map Str.empty = true)
    (hd_Map : PySem.W.hasDictIn K C_Map = true)
    (po_Map : PySem.W.plainOver K C_Map = true)
    (sa_Map : PySem.W.findIn K (.ref C_Map) "__setattr__" = some (some (.builtin "object.__setattr__")))
    (sf_Map : PySem.W.selfFirst K C_Map = true)
    (ca_Map : PySem.W.findIn K (.ref C_Map) "__class__" = some (some (.builtin "object.__class__")))
    (cn_Map : PySem.W.specialIn K (.builtin "object.__class__") "__get__" = some (some (.builtin "getset_descriptor.__get__")))
    (ct_Map : PySem.W.takesIn K (.builtin "object.__class__") = some true)
    (cm_Map : PySem.W.mroIn K C_Map (.type "object") = some true)
    (kc_Map : PySem.W.keepIn K (.ref C_Map) = true)
    (kit_int_Map : PySem.W.kitOne K (.ref C_Map) (.type "int") = some false)
    (kit_bool_Map : PySem.W.kitOne K (.ref C_Map) (.type "bool") = some false)
    (kit_str_Map : PySem.W.kitOne K (.ref C_Map) (.type "str") = some false)
    (kit_tuple_Map : PySem.W.kitOne K (.ref C_Map) (.type "tuple") = some false)
    (kit_list_Map : PySem.W.kitOne K (.ref C_Map) (.type "list") = some false)
    (kn_NoneType_Map : PySem.W.kitOne K (.type "NoneType") (.ref C_Map) = some false)
    (nf_NoneType_Map : PySem.W.notFirst K C_Map (.type "NoneType") = true)
    (kn_int_Map : PySem.W.kitOne K (.type "int") (.ref C_Map) = some false)
    (nf_int_Map : PySem.W.notFirst K C_Map (.type "int") = true)
    (kn_bool_Map : PySem.W.kitOne K (.type "bool") (.ref C_Map) = some false)
    (nf_bool_Map : PySem.W.notFirst K C_Map (.type "bool") = true)
    (kn_str_Map : PySem.W.kitOne K (.type "str") (.ref C_Map) = some false)
    (nf_str_Map : PySem.W.notFirst K C_Map (.type "str") = true)
    (kn_list_Map : PySem.W.kitOne K (.type "list") (.ref C_Map) = some false)
    (nf_list_Map : PySem.W.notFirst K C_Map (.type "list") = true)
    (kn_dict_Map : PySem.W.kitOne K (.type "dict") (.ref C_Map) = some false)
    (nf_dict_Map : PySem.W.notFirst K C_Map (.type "dict") = true)
    (kn_tuple_Map : PySem.W.kitOne K (.type "tuple") (.ref C_Map) = some false)
    (nf_tuple_Map : PySem.W.notFirst K C_Map (.type "tuple") = true)
    (self_Map : PySem.W.kitOne K (.ref C_Map) (.ref C_Map) = some true)
    (na_own_size_Map : PySem.W.findIn K (.ref C_Map) "own_size" = some none)
    (na_own_arrows_Map : PySem.W.findIn K (.ref C_Map) "own_arrows" = some none)
    (ne_Map : PySem.W.findIn K (.ref C_Map) "__ne__" = some (some (.builtin "object.__ne__")))
    (m_Map__init : PySem.W.findIn K (.ref C_Map) "__init__" = some (some (.ref f_Map__init)))
    (i_Map__init : PySem.W.isFn K (.ref f_Map__init) = true)
    (l_Map__init : K.lookup f_Map__init = some ⟨oc_Map__init, od_Map__init, .func (PySem.W.fnOf "__init__" "Map.__init__" (defArgs s_Map__init) (defBody s_Map__init) (defScope s_Map__init) .none kV_Map__init dc_Map__init pm_Map__init an_Map__init cd_Map__init ct_Map__init), sl_Map__init⟩)
    (c_Map__init : PySem.W.codeIn K cd_Map__init "Map.__init__" = true)
    (k_Map__init : PySem.W.keepIn K (.ref f_Map__init) = true)
    (mk_Map : PySem.W.makesIn K C_Map = true)
    (rd_Map : PySem.W.readsIn K C_Map (.type "type") = true)
    (ga_Map : PySem.W.specialIn K (.ref C_Map) "__getattribute__" = some (some (.builtin "type.__getattribute__")))
    (at_Map_empty : PySem.W.findCls K (.ref C_Map) (.type "type") "empty" = some (.get (.builtin "classmethod.__get__") (.ref p_Map_empty) .none (.ref C_Map)))
    (rc_Map_empty : PySem.W.recIn K p_Map_empty "classmethod" = some (.ref f_Map_empty :: r_Map_empty))
    (fi_Map_empty : PySem.W.fnIn K f_Map_empty = true)
    (l_Map_empty : K.lookup f_Map_empty = some ⟨oc_Map_empty, od_Map_empty, .func (PySem.W.fnOf "empty" "Map.empty" (defArgs s_Map_empty) (defBody s_Map_empty) (defScope s_Map_empty) .none kV_Map_empty dc_Map_empty pm_Map_empty an_Map_empty cd_Map_empty ct_Map_empty), sl_Map_empty⟩)
    (c_Map_empty : PySem.W.codeIn K cd_Map_empty "Map.empty" = true)
    (k_Map_empty : PySem.W.keepIn K (.ref f_Map_empty) = true)
    (m_Map_size : PySem.W.findIn K (.ref C_Map) "size" = some (some (.ref p_Map_size)))
    (s_get_Map_size : PySem.W.specialIn K (.ref p_Map_size) "__get__" = some (some (.builtin "property.__get__")))
    (tk_Map_size : PySem.W.takesIn K (.ref p_Map_size) = some true)
    (rc_Map_size : PySem.W.recIn K p_Map_size "property" = some (.ref f_Map_size :: r_Map_size))
    (l_Map_size : K.lookup f_Map_size = some ⟨oc_Map_size, od_Map_size, .func (PySem.W.fnOf "size" "Map.size" (defArgs s_Map_size) (defBody s_Map_size) (defScope s_Map_size) .none kV_Map_size dc_Map_size pm_Map_size an_Map_size cd_Map_size ct_Map_size), sl_Map_size⟩)
    (c_Map_size : PySem.W.codeIn K cd_Map_size "Map.size" = true)
    (k_Map_size : PySem.W.keepIn K (.ref f_Map_size) = true)
    (m_Map_arrows : PySem.W.findIn K (.ref C_Map) "arrows" = some (some (.ref p_Map_arrows)))
    (s_get_Map_arrows : PySem.W.specialIn K (.ref p_Map_arrows) "__get__" = some (some (.builtin "property.__get__")))
    (tk_Map_arrows : PySem.W.takesIn K (.ref p_Map_arrows) = some true)
    (rc_Map_arrows : PySem.W.recIn K p_Map_arrows "property" = some (.ref f_Map_arrows :: r_Map_arrows))
    (l_Map_arrows : K.lookup f_Map_arrows = some ⟨oc_Map_arrows, od_Map_arrows, .func (PySem.W.fnOf "arrows" "Map.arrows" (defArgs s_Map_arrows) (defBody s_Map_arrows) (defScope s_Map_arrows) .none kV_Map_arrows dc_Map_arrows pm_Map_arrows an_Map_arrows cd_Map_arrows ct_Map_arrows), sl_Map_arrows⟩)
    (c_Map_arrows : PySem.W.codeIn K cd_Map_arrows "Map.arrows" = true)
    (k_Map_arrows : PySem.W.keepIn K (.ref f_Map_arrows) = true)
    (m_Map__eq : PySem.W.findIn K (.ref C_Map) "__eq__" = some (some (.ref f_Map__eq)))
    (i_Map__eq : PySem.W.isFn K (.ref f_Map__eq) = true)
    (l_Map__eq : K.lookup f_Map__eq = some ⟨oc_Map__eq, od_Map__eq, .func (PySem.W.fnOf "__eq__" "Map.__eq__" (defArgs s_Map__eq) (defBody s_Map__eq) (defScope s_Map__eq) .none kV_Map__eq dc_Map__eq pm_Map__eq an_Map__eq cd_Map__eq ct_Map__eq), sl_Map__eq⟩)
    (c_Map__eq : PySem.W.codeIn K cd_Map__eq "Map.__eq__" = true)
    (k_Map__eq : PySem.W.keepIn K (.ref f_Map__eq) = true)
    (m_Map__len : PySem.W.findIn K (.ref C_Map) "__len__" = some (some (.ref f_Map__len)))
    (i_Map__len : PySem.W.isFn K (.ref f_Map__len) = true)
    (l_Map__len : K.lookup f_Map__len = some ⟨oc_Map__len, od_Map__len, .func (PySem.W.fnOf "__len__" "Map.__len__" (defArgs s_Map__len) (defBody s_Map__len) (defScope s_Map__len) .none kV_Map__len dc_Map__len pm_Map__len an_Map__len cd_Map__len ct_Map__len), sl_Map__len⟩)
    (c_Map__len : PySem.W.codeIn K cd_Map__len "Map.__len__" = true)
    (k_Map__len : PySem.W.keepIn K (.ref f_Map__len) = true)
    (a_InvalidMap : PySem.W.nsIn K mainGlobals "InvalidMap" = some (some (.ref C_InvalidMap)))
    (xl_InvalidMap : K.lookup C_InvalidMap = some (excClassObj nm_InvalidMap q_InvalidMap C_InvalidMap N_InvalidMap bs_InvalidMap [.type "ValueError", .type "Exception", .type "BaseException", .type "object"] true sn_InvalidMap sub_InvalidMap ab_InvalidMap col_InvalidMap dd_InvalidMap m0_InvalidMap m1_InvalidMap m2_InvalidMap m3_InvalidMap m5_InvalidMap "ValueError.__new__"))
    (sa_InvalidMap : PySem.W.findIn K (.ref C_InvalidMap) "__setattr__" = some (some (.builtin "object.__setattr__")))
    (ex_InvalidMap : PySem.W.subIn K (.ref C_InvalidMap) (.type "BaseException") = some true)
    (ty_InvalidMap : PySem.W.typeIn K (.ref C_InvalidMap) = some (.type "type"))
    (kc_InvalidMap : PySem.W.keepIn K (.ref C_InvalidMap) = true)
    (hd_InvalidMap : PySem.W.hasDictIn K C_InvalidMap = true)
    (ga_InvalidMap : PySem.W.findIn K (.ref C_InvalidMap) "__getattribute__" = some (some (.builtin "BaseException.__getattribute__")))
    (gg_InvalidMap : PySem.W.findIn K (.ref C_InvalidMap) "__getattr__" = some none)
    (ss_InvalidMap : PySem.W.subIn K (.ref C_InvalidMap) (.ref C_InvalidMap) = some true)
    (ca_InvalidMap : PySem.W.findIn K (.ref C_InvalidMap) "__class__" = some (some (.builtin "object.__class__")))
    (cn_InvalidMap : PySem.W.specialIn K (.builtin "object.__class__") "__get__" = some (some (.builtin "getset_descriptor.__get__")))
    (ct_InvalidMap : PySem.W.takesIn K (.builtin "object.__class__") = some true)
    (cm_InvalidMap : PySem.W.mroIn K C_InvalidMap (.type "object") = some true)
    (kit_ValueError_InvalidMap : PySem.W.kitOne K (.ref C_InvalidMap) (.type "ValueError") = some true)
    (na_part_InvalidMap : PySem.W.findIn K (.ref C_InvalidMap) "part" = some none)
    (m_InvalidMap__init : PySem.W.findIn K (.ref C_InvalidMap) "__init__" = some (some (.ref f_InvalidMap__init)))
    (ti_InvalidMap__init : PySem.W.typeIn K (.ref f_InvalidMap__init) = some (.type "function"))
    (l_InvalidMap__init : K.lookup f_InvalidMap__init = some ⟨oc_InvalidMap__init, od_InvalidMap__init, .func (PySem.W.fnOf "__init__" "InvalidMap.__init__" (defArgs s_InvalidMap__init) (defBody s_InvalidMap__init) (defScope s_InvalidMap__init) .none kV_InvalidMap__init dc_InvalidMap__init pm_InvalidMap__init an_InvalidMap__init cd_InvalidMap__init ct_InvalidMap__init), sl_InvalidMap__init⟩)
    (c_InvalidMap__init : PySem.W.codeIn K cd_InvalidMap__init "InvalidMap.__init__" = true)
    (k_InvalidMap__init : PySem.W.keepIn K (.ref f_InvalidMap__init) = true)
    (a_SizeMismatch : PySem.W.nsIn K mainGlobals "SizeMismatch" = some (some (.ref C_SizeMismatch)))
    (xl_SizeMismatch : K.lookup C_SizeMismatch = some (excClassObj nm_SizeMismatch q_SizeMismatch C_SizeMismatch N_SizeMismatch bs_SizeMismatch [.type "ValueError", .type "Exception", .type "BaseException", .type "object"] true sn_SizeMismatch sub_SizeMismatch ab_SizeMismatch col_SizeMismatch dd_SizeMismatch m0_SizeMismatch m1_SizeMismatch m2_SizeMismatch m3_SizeMismatch m5_SizeMismatch "ValueError.__new__"))
    (sa_SizeMismatch : PySem.W.findIn K (.ref C_SizeMismatch) "__setattr__" = some (some (.builtin "object.__setattr__")))
    (ex_SizeMismatch : PySem.W.subIn K (.ref C_SizeMismatch) (.type "BaseException") = some true)
    (ty_SizeMismatch : PySem.W.typeIn K (.ref C_SizeMismatch) = some (.type "type"))
    (kc_SizeMismatch : PySem.W.keepIn K (.ref C_SizeMismatch) = true)
    (hd_SizeMismatch : PySem.W.hasDictIn K C_SizeMismatch = true)
    (ga_SizeMismatch : PySem.W.findIn K (.ref C_SizeMismatch) "__getattribute__" = some (some (.builtin "BaseException.__getattribute__")))
    (gg_SizeMismatch : PySem.W.findIn K (.ref C_SizeMismatch) "__getattr__" = some none)
    (ss_SizeMismatch : PySem.W.subIn K (.ref C_SizeMismatch) (.ref C_SizeMismatch) = some true)
    (ca_SizeMismatch : PySem.W.findIn K (.ref C_SizeMismatch) "__class__" = some (some (.builtin "object.__class__")))
    (cn_SizeMismatch : PySem.W.specialIn K (.builtin "object.__class__") "__get__" = some (some (.builtin "getset_descriptor.__get__")))
    (ct_SizeMismatch : PySem.W.takesIn K (.builtin "object.__class__") = some true)
    (cm_SizeMismatch : PySem.W.mroIn K C_SizeMismatch (.type "object") = some true)
    (kit_ValueError_SizeMismatch : PySem.W.kitOne K (.ref C_SizeMismatch) (.type "ValueError") = some true)
    (te_InvalidMap_SizeMismatch : PySem.W.subIn K (.ref C_SizeMismatch) (.ref C_InvalidMap) = some false)
    (na_first_SizeMismatch : PySem.W.findIn K (.ref C_SizeMismatch) "first" = some none)
    (na_second_SizeMismatch : PySem.W.findIn K (.ref C_SizeMismatch) "second" = some none)
    (m_SizeMismatch__init : PySem.W.findIn K (.ref C_SizeMismatch) "__init__" = some (some (.ref f_SizeMismatch__init)))
    (ti_SizeMismatch__init : PySem.W.typeIn K (.ref f_SizeMismatch__init) = some (.type "function"))
    (l_SizeMismatch__init : K.lookup f_SizeMismatch__init = some ⟨oc_SizeMismatch__init, od_SizeMismatch__init, .func (PySem.W.fnOf "__init__" "SizeMismatch.__init__" (defArgs s_SizeMismatch__init) (defBody s_SizeMismatch__init) (defScope s_SizeMismatch__init) .none kV_SizeMismatch__init dc_SizeMismatch__init pm_SizeMismatch__init an_SizeMismatch__init cd_SizeMismatch__init ct_SizeMismatch__init), sl_SizeMismatch__init⟩)
    (c_SizeMismatch__init : PySem.W.codeIn K cd_SizeMismatch__init "SizeMismatch.__init__" = true)
    (k_SizeMismatch__init : PySem.W.keepIn K (.ref f_SizeMismatch__init) = true)
    (a_InvalidSize : PySem.W.nsIn K mainGlobals "InvalidSize" = some (some (.ref C_InvalidSize)))
    (xl_InvalidSize : K.lookup C_InvalidSize = some (excClassObj nm_InvalidSize q_InvalidSize C_InvalidSize N_InvalidSize bs_InvalidSize [.type "ValueError", .type "Exception", .type "BaseException", .type "object"] true sn_InvalidSize sub_InvalidSize ab_InvalidSize col_InvalidSize dd_InvalidSize m0_InvalidSize m1_InvalidSize m2_InvalidSize m3_InvalidSize m5_InvalidSize "ValueError.__new__"))
    (sa_InvalidSize : PySem.W.findIn K (.ref C_InvalidSize) "__setattr__" = some (some (.builtin "object.__setattr__")))
    (ex_InvalidSize : PySem.W.subIn K (.ref C_InvalidSize) (.type "BaseException") = some true)
    (ty_InvalidSize : PySem.W.typeIn K (.ref C_InvalidSize) = some (.type "type"))
    (kc_InvalidSize : PySem.W.keepIn K (.ref C_InvalidSize) = true)
    (hd_InvalidSize : PySem.W.hasDictIn K C_InvalidSize = true)
    (ga_InvalidSize : PySem.W.findIn K (.ref C_InvalidSize) "__getattribute__" = some (some (.builtin "BaseException.__getattribute__")))
    (gg_InvalidSize : PySem.W.findIn K (.ref C_InvalidSize) "__getattr__" = some none)
    (ss_InvalidSize : PySem.W.subIn K (.ref C_InvalidSize) (.ref C_InvalidSize) = some true)
    (ca_InvalidSize : PySem.W.findIn K (.ref C_InvalidSize) "__class__" = some (some (.builtin "object.__class__")))
    (cn_InvalidSize : PySem.W.specialIn K (.builtin "object.__class__") "__get__" = some (some (.builtin "getset_descriptor.__get__")))
    (ct_InvalidSize : PySem.W.takesIn K (.builtin "object.__class__") = some true)
    (cm_InvalidSize : PySem.W.mroIn K C_InvalidSize (.type "object") = some true)
    (kit_ValueError_InvalidSize : PySem.W.kitOne K (.ref C_InvalidSize) (.type "ValueError") = some true)
    (na_value_InvalidSize : PySem.W.findIn K (.ref C_InvalidSize) "value" = some none)
    (m_InvalidSize__init : PySem.W.findIn K (.ref C_InvalidSize) "__init__" = some (some (.ref f_InvalidSize__init)))
    (ti_InvalidSize__init : PySem.W.typeIn K (.ref f_InvalidSize__init) = some (.type "function"))
    (l_InvalidSize__init : K.lookup f_InvalidSize__init = some ⟨oc_InvalidSize__init, od_InvalidSize__init, .func (PySem.W.fnOf "__init__" "InvalidSize.__init__" (defArgs s_InvalidSize__init) (defBody s_InvalidSize__init) (defScope s_InvalidSize__init) .none kV_InvalidSize__init dc_InvalidSize__init pm_InvalidSize__init an_InvalidSize__init cd_InvalidSize__init ct_InvalidSize__init), sl_InvalidSize__init⟩)
    (c_InvalidSize__init : PySem.W.codeIn K cd_InvalidSize__init "InvalidSize.__init__" = true)
    (k_InvalidSize__init : PySem.W.keepIn K (.ref f_InvalidSize__init) = true)
    (a_InvalidSteps : PySem.W.nsIn K mainGlobals "InvalidSteps" = some (some (.ref C_InvalidSteps)))
    (xl_InvalidSteps : K.lookup C_InvalidSteps = some (excClassObj nm_InvalidSteps q_InvalidSteps C_InvalidSteps N_InvalidSteps bs_InvalidSteps [.type "ValueError", .type "Exception", .type "BaseException", .type "object"] true sn_InvalidSteps sub_InvalidSteps ab_InvalidSteps col_InvalidSteps dd_InvalidSteps m0_InvalidSteps m1_InvalidSteps m2_InvalidSteps m3_InvalidSteps m5_InvalidSteps "ValueError.__new__"))
    (sa_InvalidSteps : PySem.W.findIn K (.ref C_InvalidSteps) "__setattr__" = some (some (.builtin "object.__setattr__")))
    (ex_InvalidSteps : PySem.W.subIn K (.ref C_InvalidSteps) (.type "BaseException") = some true)
    (ty_InvalidSteps : PySem.W.typeIn K (.ref C_InvalidSteps) = some (.type "type"))
    (kc_InvalidSteps : PySem.W.keepIn K (.ref C_InvalidSteps) = true)
    (hd_InvalidSteps : PySem.W.hasDictIn K C_InvalidSteps = true)
    (ga_InvalidSteps : PySem.W.findIn K (.ref C_InvalidSteps) "__getattribute__" = some (some (.builtin "BaseException.__getattribute__")))
    (gg_InvalidSteps : PySem.W.findIn K (.ref C_InvalidSteps) "__getattr__" = some none)
    (ss_InvalidSteps : PySem.W.subIn K (.ref C_InvalidSteps) (.ref C_InvalidSteps) = some true)
    (ca_InvalidSteps : PySem.W.findIn K (.ref C_InvalidSteps) "__class__" = some (some (.builtin "object.__class__")))
    (cn_InvalidSteps : PySem.W.specialIn K (.builtin "object.__class__") "__get__" = some (some (.builtin "getset_descriptor.__get__")))
    (ct_InvalidSteps : PySem.W.takesIn K (.builtin "object.__class__") = some true)
    (cm_InvalidSteps : PySem.W.mroIn K C_InvalidSteps (.type "object") = some true)
    (kit_ValueError_InvalidSteps : PySem.W.kitOne K (.ref C_InvalidSteps) (.type "ValueError") = some true)
    (na_position_InvalidSteps : PySem.W.findIn K (.ref C_InvalidSteps) "position" = some none)
    (m_InvalidSteps__init : PySem.W.findIn K (.ref C_InvalidSteps) "__init__" = some (some (.ref f_InvalidSteps__init)))
    (ti_InvalidSteps__init : PySem.W.typeIn K (.ref f_InvalidSteps__init) = some (.type "function"))
    (l_InvalidSteps__init : K.lookup f_InvalidSteps__init = some ⟨oc_InvalidSteps__init, od_InvalidSteps__init, .func (PySem.W.fnOf "__init__" "InvalidSteps.__init__" (defArgs s_InvalidSteps__init) (defBody s_InvalidSteps__init) (defScope s_InvalidSteps__init) .none kV_InvalidSteps__init dc_InvalidSteps__init pm_InvalidSteps__init an_InvalidSteps__init cd_InvalidSteps__init ct_InvalidSteps__init), sl_InvalidSteps__init⟩)
    (c_InvalidSteps__init : PySem.W.codeIn K cd_InvalidSteps__init "InvalidSteps.__init__" = true)
    (k_InvalidSteps__init : PySem.W.keepIn K (.ref f_InvalidSteps__init) = true)
    (z_isinstance : PySem.W.nsIn K mainGlobals "isinstance" = some none)
    (z_int : PySem.W.nsIn K mainGlobals "int" = some none)
    (z_bool : PySem.W.nsIn K mainGlobals "bool" = some none)
    (z_dict : PySem.W.nsIn K mainGlobals "dict" = some none)
    (z_len : PySem.W.nsIn K mainGlobals "len" = some none)
    (z_range : PySem.W.nsIn K mainGlobals "range" = some none)
    (z_list : PySem.W.nsIn K mainGlobals "list" = some none)
    (z_tuple : PySem.W.nsIn K mainGlobals "tuple" = some none)
    (z_str : PySem.W.nsIn K mainGlobals "str" = some none)
    (z_enumerate : PySem.W.nsIn K mainGlobals "enumerate" = some none)
    (z_all : PySem.W.nsIn K mainGlobals "all" = some none)
    (z_max : PySem.W.nsIn K mainGlobals "max" = some none)
    (z_min : PySem.W.nsIn K mainGlobals "min" = some none)
    (z_sum : PySem.W.nsIn K mainGlobals "sum" = some none)
    (z_repr : PySem.W.nsIn K mainGlobals "repr" = some none)
    (z_ValueError : PySem.W.nsIn K mainGlobals "ValueError" = some none)
    (v_MAX_SIZE : PySem.W.nsIn K mainGlobals "MAX_SIZE" = some (some (.int 300 t_MAX_SIZE))) :
    Nonempty (Txt K mg) := ⟨{
    f_is_integer := f_is_integer,
    A_is_integer := ⟨_, fun_mk (st := s_is_integer) l_is_integer c_is_integer k_is_integer, (fun_mk (st := s_is_integer) l_is_integer c_is_integer k_is_integer).binds (ps := ["value"]) fun _ _ _ _ _ _ us hl => match us, hl with | [_], _ => rfl⟩,
    g_is_integer := PySem.W.mg_of X G a_is_integer,
    f_in_range := f_in_range,
    A_in_range := ⟨_, fun_mk (st := s_in_range) l_in_range c_in_range k_in_range, (fun_mk (st := s_in_range) l_in_range c_in_range k_in_range).binds (ps := ["value", "least", "most"]) fun _ _ _ _ _ _ us hl => match us, hl with | [_, _, _], _ => rfl⟩,
    g_in_range := PySem.W.mg_of X G a_in_range,
    f_check_size := f_check_size,
    A_check_size := ⟨_, fun_mk (st := s_check_size) l_check_size c_check_size k_check_size, (fun_mk (st := s_check_size) l_check_size c_check_size k_check_size).binds (ps := ["size"]) fun _ _ _ _ _ _ us hl => match us, hl with | [_], _ => rfl⟩,
    g_check_size := PySem.W.mg_of X G a_check_size,
    f_are_arrows := f_are_arrows,
    A_are_arrows := ⟨_, fun_mk (st := s_are_arrows) l_are_arrows c_are_arrows k_are_arrows, (fun_mk (st := s_are_arrows) l_are_arrows c_are_arrows k_are_arrows).binds (ps := ["size", "arrows"]) fun _ _ _ _ _ _ us hl => match us, hl with | [_, _], _ => rfl⟩,
    g_are_arrows := PySem.W.mg_of X G a_are_arrows,
    f_common_size := f_common_size,
    A_common_size := ⟨_, fun_mk (st := s_common_size) l_common_size c_common_size k_common_size, (fun_mk (st := s_common_size) l_common_size c_common_size k_common_size).binds (ps := ["one", "other"]) fun _ _ _ _ _ _ us hl => match us, hl with | [_, _], _ => rfl⟩,
    g_common_size := PySem.W.mg_of X G a_common_size,
    f_row_from := f_row_from,
    A_row_from := ⟨_, fun_mk (st := s_row_from) l_row_from c_row_from k_row_from, (fun_mk (st := s_row_from) l_row_from c_row_from k_row_from).binds (ps := ["arrows", "element"]) fun _ _ _ _ _ _ us hl => match us, hl with | [_, _], _ => rfl⟩,
    g_row_from := PySem.W.mg_of X G a_row_from,
    f_check_map := f_check_map,
    A_check_map := ⟨_, fun_mk (st := s_check_map) l_check_map c_check_map k_check_map, (fun_mk (st := s_check_map) l_check_map c_check_map k_check_map).binds (ps := ["value"]) fun _ _ _ _ _ _ us hl => match us, hl with | [_], _ => rfl⟩,
    g_check_map := PySem.W.mg_of X G a_check_map,
    f_check_maps := f_check_maps,
    A_check_maps := ⟨_, fun_mk (st := s_check_maps) l_check_maps c_check_maps k_check_maps, (fun_mk (st := s_check_maps) l_check_maps c_check_maps k_check_maps).binds (ps := ["one", "other"]) fun _ _ _ _ _ _ us hl => match us, hl with | [_, _], _ => rfl⟩,
    g_check_maps := PySem.W.mg_of X G a_check_maps,
    f_factorial := f_factorial,
    A_factorial := ⟨_, fun_mk (st := s_factorial) l_factorial c_factorial k_factorial, (fun_mk (st := s_factorial) l_factorial c_factorial k_factorial).binds (ps := ["number"]) fun _ _ _ _ _ _ us hl => match us, hl with | [_], _ => rfl⟩,
    g_factorial := PySem.W.mg_of X G a_factorial,
    f_power_of := f_power_of,
    A_power_of := ⟨_, fun_mk (st := s_power_of) l_power_of c_power_of k_power_of, (fun_mk (st := s_power_of) l_power_of c_power_of k_power_of).binds (ps := ["base", "exponent"]) fun _ _ _ _ _ _ us hl => match us, hl with | [_, _], _ => rfl⟩,
    g_power_of := PySem.W.mg_of X G a_power_of,
    f_parts_of := f_parts_of,
    A_parts_of := ⟨_, fun_mk (st := s_parts_of) l_parts_of c_parts_of k_parts_of, (fun_mk (st := s_parts_of) l_parts_of c_parts_of k_parts_of).binds (ps := ["given"]) fun _ _ _ _ _ _ us hl => match us, hl with | [_], _ => rfl⟩,
    g_parts_of := PySem.W.mg_of X G a_parts_of,
    f_is_step := f_is_step,
    A_is_step := ⟨_, fun_mk (st := s_is_step) l_is_step c_is_step k_is_step, (fun_mk (st := s_is_step) l_is_step c_is_step k_is_step).binds (ps := ["size", "value"]) fun _ _ _ _ _ _ us hl => match us, hl with | [_, _], _ => rfl⟩,
    g_is_step := PySem.W.mg_of X G a_is_step,
    f_first_invalid := f_first_invalid,
    A_first_invalid := ⟨_, fun_mk (st := s_first_invalid) l_first_invalid c_first_invalid k_first_invalid, (fun_mk (st := s_first_invalid) l_first_invalid c_first_invalid k_first_invalid).binds (ps := ["size", "value"]) fun _ _ _ _ _ _ us hl => match us, hl with | [_, _], _ => rfl⟩,
    g_first_invalid := PySem.W.mg_of X G a_first_invalid,
    f_after_list := f_after_list,
    A_after_list := ⟨_, fun_mk (st := s_after_list) l_after_list c_after_list k_after_list, (fun_mk (st := s_after_list) l_after_list c_after_list k_after_list).binds (ps := ["arrows", "steps"]) fun _ _ _ _ _ _ us hl => match us, hl with | [_, _], _ => rfl⟩,
    g_after_list := PySem.W.mg_of X G a_after_list,
    f_applied := f_applied,
    A_applied := ⟨_, fun_mk (st := s_applied) l_applied c_applied k_applied, (fun_mk (st := s_applied) l_applied c_applied k_applied).binds (ps := ["given", "steps"]) fun _ _ _ _ _ _ us hl => match us, hl with | [_, _], _ => rfl⟩,
    g_applied := PySem.W.mg_of X G a_applied,
    f_link_of := f_link_of,
    A_link_of := ⟨_, fun_mk (st := s_link_of) l_link_of c_link_of k_link_of, (fun_mk (st := s_link_of) l_link_of c_link_of k_link_of).binds (ps := ["start", "goal"]) fun _ _ _ _ _ _ us hl => match us, hl with | [_, _], _ => rfl⟩,
    g_link_of := PySem.W.mg_of X G a_link_of,
    f_parts_between := f_parts_between,
    A_parts_between := ⟨_, fun_mk (st := s_parts_between) l_parts_between c_parts_between k_parts_between, (fun_mk (st := s_parts_between) l_parts_between c_parts_between k_parts_between).binds (ps := ["start", "goal"]) fun _ _ _ _ _ _ us hl => match us, hl with | [_, _], _ => rfl⟩,
    g_parts_between := PySem.W.mg_of X G a_parts_between,
    f_distance := f_distance,
    A_distance := ⟨_, fun_mk (st := s_distance) l_distance c_distance k_distance, (fun_mk (st := s_distance) l_distance c_distance k_distance).binds (ps := ["start", "goal"]) fun _ _ _ _ _ _ us hl => match us, hl with | [_, _], _ => rfl⟩,
    g_distance := PySem.W.mg_of X G a_distance,
    f_forgotten := f_forgotten,
    A_forgotten := ⟨_, fun_mk (st := s_forgotten) l_forgotten c_forgotten k_forgotten, (fun_mk (st := s_forgotten) l_forgotten c_forgotten k_forgotten).binds (ps := ["start", "goal"]) fun _ _ _ _ _ _ us hl => match us, hl with | [_, _], _ => rfl⟩,
    g_forgotten := PySem.W.mg_of X G a_forgotten,
    f_swap_of := f_swap_of,
    A_swap_of := ⟨_, fun_mk (st := s_swap_of) l_swap_of c_swap_of k_swap_of, (fun_mk (st := s_swap_of) l_swap_of c_swap_of k_swap_of).binds (ps := ["one", "other"]) fun _ _ _ _ _ _ us hl => match us, hl with | [_, _], _ => rfl⟩,
    g_swap_of := PySem.W.mg_of X G a_swap_of,
    f_steps := f_steps,
    A_steps := ⟨_, fun_mk (st := s_steps) l_steps c_steps k_steps, (fun_mk (st := s_steps) l_steps c_steps k_steps).binds (ps := ["start", "goal"]) fun _ _ _ _ _ _ us hl => match us, hl with | [_, _], _ => rfl⟩,
    g_steps := PySem.W.mg_of X G a_steps,
    f_is_making := f_is_making,
    A_is_making := ⟨_, fun_mk (st := s_is_making) l_is_making c_is_making k_is_making, (fun_mk (st := s_is_making) l_is_making c_is_making k_is_making).binds (ps := ["start", "goal", "value"]) fun _ _ _ _ _ _ us hl => match us, hl with | [_, _, _], _ => rfl⟩,
    g_is_making := PySem.W.mg_of X G a_is_making,
    f_next_steps := f_next_steps,
    A_next_steps := ⟨_, fun_mk (st := s_next_steps) l_next_steps c_next_steps k_next_steps, (fun_mk (st := s_next_steps) l_next_steps c_next_steps k_next_steps).binds (ps := ["start", "goal"]) fun _ _ _ _ _ _ us hl => match us, hl with | [_, _], _ => rfl⟩,
    g_next_steps := PySem.W.mg_of X G a_next_steps,
    f_count_shortest := f_count_shortest,
    A_count_shortest := ⟨_, fun_mk (st := s_count_shortest) l_count_shortest c_count_shortest k_count_shortest, (fun_mk (st := s_count_shortest) l_count_shortest c_count_shortest k_count_shortest).binds (ps := ["start", "goal"]) fun _ _ _ _ _ _ us hl => match us, hl with | [_, _], _ => rfl⟩,
    g_count_shortest := PySem.W.mg_of X G a_count_shortest,
    f_l_hand := f_l_hand,
    A_l_hand := ⟨_, fun_mk (st := s_l_hand) l_l_hand c_l_hand k_l_hand, (fun_mk (st := s_l_hand) l_l_hand c_l_hand k_l_hand).binds (ps := ["_law_script", "_law_k"]) fun _ _ _ _ _ _ us hl => match us, hl with | [_, _], _ => rfl⟩,
    g_l_hand := PySem.W.mg_of X G a_l_hand,
    f_l_draw := f_l_draw,
    A_l_draw := ⟨_, fun_mk (st := s_l_draw) l_l_draw c_l_draw k_l_draw, (fun_mk (st := s_l_draw) l_l_draw c_l_draw k_l_draw).binds (ps := ["_law_pool", "_law_size"]) fun _ _ _ _ _ _ us hl => match us, hl with | [_, _], _ => rfl⟩,
    g_l_draw := PySem.W.mg_of X G a_l_draw,
    f_l_arrows := f_l_arrows,
    A_l_arrows := ⟨_, fun_mk (st := s_l_arrows) l_l_arrows c_l_arrows k_l_arrows, (fun_mk (st := s_l_arrows) l_l_arrows c_l_arrows k_l_arrows).binds (ps := ["_law_pool", "_law_size", "_law_way"]) fun _ _ _ _ _ _ us hl => match us, hl with | [_, _, _], _ => rfl⟩,
    g_l_arrows := PySem.W.mg_of X G a_l_arrows,
    f_l_parts := f_l_parts,
    A_l_parts := ⟨_, fun_mk (st := s_l_parts) l_l_parts c_l_parts k_l_parts, (fun_mk (st := s_l_parts) l_l_parts c_l_parts k_l_parts).binds (ps := ["_law_arrows_here", "_law_size"]) fun _ _ _ _ _ _ us hl => match us, hl with | [_, _], _ => rfl⟩,
    g_l_parts := PySem.W.mg_of X G a_l_parts,
    f_l_due := f_l_due,
    A_l_due := ⟨_, fun_mk (st := s_l_due) l_l_due c_l_due k_l_due, (fun_mk (st := s_l_due) l_l_due c_l_due k_l_due).binds (ps := ["_law_one", "_law_other", "_law_size"]) fun _ _ _ _ _ _ us hl => match us, hl with | [_, _, _], _ => rfl⟩,
    g_l_due := PySem.W.mg_of X G a_l_due,
    f_l_bent := f_l_bent,
    A_l_bent := ⟨_, fun_mk (st := s_l_bent) l_l_bent c_l_bent k_l_bent, (fun_mk (st := s_l_bent) l_l_bent c_l_bent k_l_bent).binds (ps := ["_law_pool", "_law_row", "_law_size"]) fun _ _ _ _ _ _ us hl => match us, hl with | [_, _, _], _ => rfl⟩,
    g_l_bent := PySem.W.mg_of X G a_l_bent,
    f_l_leads := f_l_leads,
    A_l_leads := ⟨_, fun_mk (st := s_l_leads) l_l_leads c_l_leads k_l_leads, (fun_mk (st := s_l_leads) l_l_leads c_l_leads k_l_leads).binds (ps := ["_law_start", "_law_goal", "_law_thing"]) fun _ _ _ _ _ _ us hl => match us, hl with | [_, _, _], _ => rfl⟩,
    g_l_leads := PySem.W.mg_of X G a_l_leads,
    f_l_refused := f_l_refused,
    A_l_refused := ⟨_, fun_mk (st := s_l_refused) l_l_refused c_l_refused k_l_refused, (fun_mk (st := s_l_refused) l_l_refused c_l_refused k_l_refused).binds (ps := ["_law_one", "_law_other"]) fun _ _ _ _ _ _ us hl => match us, hl with | [_, _], _ => rfl⟩,
    g_l_refused := PySem.W.mg_of X G a_l_refused,
    f_l_nearer := f_l_nearer,
    A_l_nearer := ⟨_, fun_mk (st := s_l_nearer) l_l_nearer c_l_nearer k_l_nearer, (fun_mk (st := s_l_nearer) l_l_nearer c_l_nearer k_l_nearer).binds (ps := ["_law_pool", "_law_start", "_law_goal", "_law_far"]) fun _ _ _ _ _ _ us hl => match us, hl with | [_, _, _, _], _ => rfl⟩,
    g_l_nearer := PySem.W.mg_of X G a_l_nearer,
    f_law := f_law,
    A_law := ⟨_, fun_mk (st := s_law) l_law c_law k_law, (fun_mk (st := s_law) l_law c_law k_law).binds (ps := ["_law_script"]) fun _ _ _ _ _ _ us hl => match us, hl with | [_], _ => rfl⟩,
    L_law := ⟨_, fun_mk (st := s_law) l_law c_law k_law, fun s v => .of_eq rfl⟩,
    g_law := PySem.W.mg_of X G a_law,
    C_Map := C_Map,
    g_Map := PySem.W.mg_of X G a_Map,
    o_Map := ⟨⟨pg_Map, hd_Map, po_Map, sa_Map⟩, sf_Map, ca_Map, cn_Map, ct_Map, cm_Map⟩,
    kit_int_Map := kit_int_Map,
    kit_bool_Map := kit_bool_Map,
    kit_str_Map := kit_str_Map,
    kit_tuple_Map := kit_tuple_Map,
    kit_list_Map := kit_list_Map,
    kn_NoneType_Map := kn_NoneType_Map,
    nf_NoneType_Map := nf_NoneType_Map,
    kn_int_Map := kn_int_Map,
    nf_int_Map := nf_int_Map,
    kn_bool_Map := kn_bool_Map,
    nf_bool_Map := nf_bool_Map,
    kn_str_Map := kn_str_Map,
    nf_str_Map := nf_str_Map,
    kn_list_Map := kn_list_Map,
    nf_list_Map := nf_list_Map,
    kn_dict_Map := kn_dict_Map,
    nf_dict_Map := nf_dict_Map,
    kn_tuple_Map := kn_tuple_Map,
    nf_tuple_Map := nf_tuple_Map,
    self_Map := self_Map,
    na_own_size_Map := na_own_size_Map,
    na_own_arrows_Map := na_own_arrows_Map,
    ne_Map := ne_Map,
    f_Map__init := f_Map__init,
    A_Map__init := ⟨_, fun_mk (st := s_Map__init) l_Map__init c_Map__init k_Map__init, (fun_mk (st := s_Map__init) l_Map__init c_Map__init k_Map__init).binds (ps := ["self", "size", "arrows"]) fun _ _ _ _ _ _ us hl => match us, hl with | [_, _, _], _ => rfl⟩,
    m_Map__init := m_Map__init,
    i_Map__init := i_Map__init,
    M_Map := ⟨mk_Map, m_Map__init, i_Map__init, kc_Map⟩,
    R_Map := ⟨rd_Map, ga_Map⟩,
    p_Map_empty := p_Map_empty,
    f_Map_empty := f_Map_empty,
    A_Map_empty := ⟨_, fun_mk (st := s_Map_empty) l_Map_empty c_Map_empty k_Map_empty, (fun_mk (st := s_Map_empty) l_Map_empty c_Map_empty k_Map_empty).binds (ps := ["cls", "size"]) fun _ _ _ _ _ _ us hl => match us, hl with | [_, _], _ => rfl⟩,
    cm_Map_empty := ⟨at_Map_empty, ⟨_, rc_Map_empty⟩, fi_Map_empty⟩,
    p_Map_size := p_Map_size,
    f_Map_size := f_Map_size,
    A_Map_size := ⟨_, fun_mk (st := s_Map_size) l_Map_size c_Map_size k_Map_size, (fun_mk (st := s_Map_size) l_Map_size c_Map_size k_Map_size).binds (ps := ["self"]) fun _ _ _ _ _ _ us hl => match us, hl with | [_], _ => rfl⟩,
    P_Map_size := ⟨m_Map_size, s_get_Map_size, tk_Map_size, _, rc_Map_size⟩,
    p_Map_arrows := p_Map_arrows,
    f_Map_arrows := f_Map_arrows,
    A_Map_arrows := ⟨_, fun_mk (st := s_Map_arrows) l_Map_arrows c_Map_arrows k_Map_arrows, (fun_mk (st := s_Map_arrows) l_Map_arrows c_Map_arrows k_Map_arrows).binds (ps := ["self"]) fun _ _ _ _ _ _ us hl => match us, hl with | [_], _ => rfl⟩,
    P_Map_arrows := ⟨m_Map_arrows, s_get_Map_arrows, tk_Map_arrows, _, rc_Map_arrows⟩,
    f_Map__eq := f_Map__eq,
    A_Map__eq := ⟨_, fun_mk (st := s_Map__eq) l_Map__eq c_Map__eq k_Map__eq, (fun_mk (st := s_Map__eq) l_Map__eq c_Map__eq k_Map__eq).binds (ps := ["self", "other"]) fun _ _ _ _ _ _ us hl => match us, hl with | [_, _], _ => rfl⟩,
    m_Map__eq := m_Map__eq,
    i_Map__eq := i_Map__eq,
    f_Map__len := f_Map__len,
    A_Map__len := ⟨_, fun_mk (st := s_Map__len) l_Map__len c_Map__len k_Map__len, (fun_mk (st := s_Map__len) l_Map__len c_Map__len k_Map__len).binds (ps := ["self"]) fun _ _ _ _ _ _ us hl => match us, hl with | [_], _ => rfl⟩,
    m_Map__len := m_Map__len,
    i_Map__len := i_Map__len,
    C_InvalidMap := C_InvalidMap,
    g_InvalidMap := PySem.W.mg_of X G a_InvalidMap,
    x_InvalidMap := ⟨⟨"ValueError", _, _, _, _, _, _, _, _, _, _, _, _, _, _, _, _, _, _, PySem.F.store_ValueError, PySem.F.excBase_ValueError, xl_InvalidMap, by decide +kernel⟩, sa_InvalidMap, ex_InvalidMap, ty_InvalidMap, kc_InvalidMap⟩,
    xf_InvalidMap := ⟨ga_InvalidMap, gg_InvalidMap, ex_InvalidMap, hd_InvalidMap⟩,
    xe_InvalidMap := ⟨ga_InvalidMap, gg_InvalidMap, ex_InvalidMap, hd_InvalidMap, ca_InvalidMap, cn_InvalidMap, ct_InvalidMap, cm_InvalidMap⟩,
    te_InvalidMap := PySem.W.exm_ref ex_InvalidMap hd_InvalidMap ty_InvalidMap ss_InvalidMap,
    kit_ValueError_InvalidMap := kit_ValueError_InvalidMap,
    na_part_InvalidMap := na_part_InvalidMap,
    f_InvalidMap__init := f_InvalidMap__init,
    A_InvalidMap__init := ⟨_, fun_mk (st := s_InvalidMap__init) l_InvalidMap__init c_InvalidMap__init k_InvalidMap__init, (fun_mk (st := s_InvalidMap__init) l_InvalidMap__init c_InvalidMap__init k_InvalidMap__init).binds (ps := ["self", "part"]) fun _ _ _ _ _ _ us hl => match us, hl with | [_, _], _ => rfl⟩,
    m_InvalidMap__init := m_InvalidMap__init,
    ti_InvalidMap__init := ti_InvalidMap__init,
    C_SizeMismatch := C_SizeMismatch,
    g_SizeMismatch := PySem.W.mg_of X G a_SizeMismatch,
    x_SizeMismatch := ⟨⟨"ValueError", _, _, _, _, _, _, _, _, _, _, _, _, _, _, _, _, _, _, PySem.F.store_ValueError, PySem.F.excBase_ValueError, xl_SizeMismatch, by decide +kernel⟩, sa_SizeMismatch, ex_SizeMismatch, ty_SizeMismatch, kc_SizeMismatch⟩,
    xf_SizeMismatch := ⟨ga_SizeMismatch, gg_SizeMismatch, ex_SizeMismatch, hd_SizeMismatch⟩,
    xe_SizeMismatch := ⟨ga_SizeMismatch, gg_SizeMismatch, ex_SizeMismatch, hd_SizeMismatch, ca_SizeMismatch, cn_SizeMismatch, ct_SizeMismatch, cm_SizeMismatch⟩,
    te_SizeMismatch := PySem.W.exm_ref ex_SizeMismatch hd_SizeMismatch ty_SizeMismatch ss_SizeMismatch,
    kit_ValueError_SizeMismatch := kit_ValueError_SizeMismatch,
    te_SizeMismatch_InvalidMap := PySem.W.exm_ref ex_InvalidMap hd_InvalidMap ty_InvalidMap te_InvalidMap_SizeMismatch,
    na_first_SizeMismatch := na_first_SizeMismatch,
    na_second_SizeMismatch := na_second_SizeMismatch,
    f_SizeMismatch__init := f_SizeMismatch__init,
    A_SizeMismatch__init := ⟨_, fun_mk (st := s_SizeMismatch__init) l_SizeMismatch__init c_SizeMismatch__init k_SizeMismatch__init, (fun_mk (st := s_SizeMismatch__init) l_SizeMismatch__init c_SizeMismatch__init k_SizeMismatch__init).binds (ps := ["self", "first", "second"]) fun _ _ _ _ _ _ us hl => match us, hl with | [_, _, _], _ => rfl⟩,
    m_SizeMismatch__init := m_SizeMismatch__init,
    ti_SizeMismatch__init := ti_SizeMismatch__init,
    C_InvalidSize := C_InvalidSize,
    g_InvalidSize := PySem.W.mg_of X G a_InvalidSize,
    x_InvalidSize := ⟨⟨"ValueError", _, _, _, _, _, _, _, _, _, _, _, _, _, _, _, _, _, _, PySem.F.store_ValueError, PySem.F.excBase_ValueError, xl_InvalidSize, by decide +kernel⟩, sa_InvalidSize, ex_InvalidSize, ty_InvalidSize, kc_InvalidSize⟩,
    xf_InvalidSize := ⟨ga_InvalidSize, gg_InvalidSize, ex_InvalidSize, hd_InvalidSize⟩,
    xe_InvalidSize := ⟨ga_InvalidSize, gg_InvalidSize, ex_InvalidSize, hd_InvalidSize, ca_InvalidSize, cn_InvalidSize, ct_InvalidSize, cm_InvalidSize⟩,
    te_InvalidSize := PySem.W.exm_ref ex_InvalidSize hd_InvalidSize ty_InvalidSize ss_InvalidSize,
    kit_ValueError_InvalidSize := kit_ValueError_InvalidSize,
    na_value_InvalidSize := na_value_InvalidSize,
    f_InvalidSize__init := f_InvalidSize__init,
    A_InvalidSize__init := ⟨_, fun_mk (st := s_InvalidSize__init) l_InvalidSize__init c_InvalidSize__init k_InvalidSize__init, (fun_mk (st := s_InvalidSize__init) l_InvalidSize__init c_InvalidSize__init k_InvalidSize__init).binds (ps := ["self", "value"]) fun _ _ _ _ _ _ us hl => match us, hl with | [_, _], _ => rfl⟩,
    m_InvalidSize__init := m_InvalidSize__init,
    ti_InvalidSize__init := ti_InvalidSize__init,
    C_InvalidSteps := C_InvalidSteps,
    g_InvalidSteps := PySem.W.mg_of X G a_InvalidSteps,
    x_InvalidSteps := ⟨⟨"ValueError", _, _, _, _, _, _, _, _, _, _, _, _, _, _, _, _, _, _, PySem.F.store_ValueError, PySem.F.excBase_ValueError, xl_InvalidSteps, by decide +kernel⟩, sa_InvalidSteps, ex_InvalidSteps, ty_InvalidSteps, kc_InvalidSteps⟩,
    xf_InvalidSteps := ⟨ga_InvalidSteps, gg_InvalidSteps, ex_InvalidSteps, hd_InvalidSteps⟩,
    xe_InvalidSteps := ⟨ga_InvalidSteps, gg_InvalidSteps, ex_InvalidSteps, hd_InvalidSteps, ca_InvalidSteps, cn_InvalidSteps, ct_InvalidSteps, cm_InvalidSteps⟩,
    te_InvalidSteps := PySem.W.exm_ref ex_InvalidSteps hd_InvalidSteps ty_InvalidSteps ss_InvalidSteps,
    kit_ValueError_InvalidSteps := kit_ValueError_InvalidSteps,
    na_position_InvalidSteps := na_position_InvalidSteps,
    f_InvalidSteps__init := f_InvalidSteps__init,
    A_InvalidSteps__init := ⟨_, fun_mk (st := s_InvalidSteps__init) l_InvalidSteps__init c_InvalidSteps__init k_InvalidSteps__init, (fun_mk (st := s_InvalidSteps__init) l_InvalidSteps__init c_InvalidSteps__init k_InvalidSteps__init).binds (ps := ["self", "position"]) fun _ _ _ _ _ _ us hl => match us, hl with | [_, _], _ => rfl⟩,
    m_InvalidSteps__init := m_InvalidSteps__init,
    ti_InvalidSteps__init := ti_InvalidSteps__init,
    n_isinstance := PySem.W.mg_none_of X G z_isinstance,
    n_int := PySem.W.mg_none_of X G z_int,
    n_bool := PySem.W.mg_none_of X G z_bool,
    n_dict := PySem.W.mg_none_of X G z_dict,
    n_len := PySem.W.mg_none_of X G z_len,
    n_range := PySem.W.mg_none_of X G z_range,
    n_list := PySem.W.mg_none_of X G z_list,
    n_tuple := PySem.W.mg_none_of X G z_tuple,
    n_str := PySem.W.mg_none_of X G z_str,
    n_enumerate := PySem.W.mg_none_of X G z_enumerate,
    n_all := PySem.W.mg_none_of X G z_all,
    n_max := PySem.W.mg_none_of X G z_max,
    n_min := PySem.W.mg_none_of X G z_min,
    n_sum := PySem.W.mg_none_of X G z_sum,
    n_repr := PySem.W.mg_none_of X G z_repr,
    n_ValueError := PySem.W.mg_none_of X G z_ValueError,
    v_MAX_SIZE := ⟨_, PySem.W.mg_of X G v_MAX_SIZE⟩ }⟩
end My
namespace My
open PySem L2 U StX
/-! ### values of any known form -/
def knownV (C : Addr) (H : Hp) : V → Prop
  | .non => True | .bl _ => True | .int _ => True | .str _ => True
  | .ref a => (∃ xs, H a = some (.lst xs)) ∨ (∃ xs, H a = some (.tup xs)) ∨ (∃ kvs, H a = some (.dK kvs)) ∨ ∃ dx fs, H a = some (.ins C dx fs)
  | _ => False
def isI : V → Bool | .int _ => true | _ => false
def isB : V → Bool | .bl _ => true | _ => false
def inR : V → Int → Int → Bool | .int i, a, b => decide (a ≤ i) && decide (i ≤ b) | _, _, _ => false
section
variable {P : Program} {w : World} {K : PySem.W.Frag} {mg : Str → Option Value} {base : Heap}
theorem tyx_ins {H : Hp} {a C dx : Addr} {fs : List (Str × V)} (o : OwnC K C) (e : H a = some (.ins C dx fs)) : TyX K H (.ref a) (.ref C) := .base (.ins e o.cl o.ca o.cn o.ct o.cm)
/-- the type of a known value, and what isinstance says of it -/
theorem ty_known (T : Txt K mg) {H : Hp} {x : V} (h : knownV T.C_Map H x) : ∃ t, TyX K H x t ∧ PySem.W.kitOne K t (.type "int") = some (isI x || isB x) ∧ PySem.W.kitOne K t (.type "bool") = some (isB x) := by
  cases x with
  | non => exact ⟨_, .base .non, kit_ty (r := false) (by decide +kernel), kit_ty (r := false) (by decide +kernel)⟩
  | bl b => exact ⟨_, .base (.bl b), kit_ty (r := true) (by decide +kernel), kit_ty (r := true) (by decide +kernel)⟩
  | int i => exact ⟨_, .base (.int i), kit_ty (r := true) (by decide +kernel), kit_ty (r := false) (by decide +kernel)⟩
  | str z => exact ⟨_, .base (.str z), kit_ty (r := false) (by decide +kernel), kit_ty (r := false) (by decide +kernel)⟩
  | ref a =>
    rcases h with ⟨xs, e⟩ | ⟨xs, e⟩ | ⟨xs, e⟩ | ⟨dx, fs, e⟩
    · exact ⟨_, .base (.lst e), kit_ty (r := false) (by decide +kernel), kit_ty (r := false) (by decide +kernel)⟩
    · exact ⟨_, .base (.tup e), kit_ty (r := false) (by decide +kernel), kit_ty (r := false) (by decide +kernel)⟩
    · exact ⟨_, .base (.dK e), kit_ty (r := false) (by decide +kernel), kit_ty (r := false) (by decide +kernel)⟩
    · exact ⟨_, tyx_ins T.o_Map e, T.kit_int_Map, T.kit_bool_Map⟩
  | byt b => exact h.elim
  | flt b => exact h.elim
  | ty b => exact h.elim
def spIsInt (C : Addr) : Sp := fun vs H Q _ => ∃ x, vs = [x] ∧ knownV C H x ∧ Q (.bl (isI x)) H
theorem ok_is_integer (T : Txt K mg) : FnR P w K mg base CX0 1 T.f_is_integer (spIsInt T.C_Map) := by
  refine T.A_is_integer.ok sc_is_integer (fun vs H Q E h => ?_) (fun cdv A outer s H vs Q E hr h => ?_)
  · obtain ⟨x, rfl, _⟩ := h
    rfl
  · obtain ⟨x, rfl, hx, q⟩ := h
    refine ⟨_, pss_one (ps_ret (pe_and (pe_callB call_isi (by rfl) T.n_isinstance (by decide +kernel) (pa_cons (pv 0) (pa_cons (pe_bltn (v := .ty "int") (u := .type "int") (by rfl) T.n_int (by decide +kernel) rfl) pa_nil)))
      (pe_one (pe_not (pe_callB call_isi (by rfl) T.n_isinstance (by decide +kernel) (pa_cons (pv 0) (pa_cons (pe_bltn (v := .ty "bool") (u := .type "bool") (by rfl) T.n_bool (by decide +kernel) rfl) pa_nil))))))), ?_⟩
    obtain ⟨t, ht, k1, k2⟩ := ty_known T hx
    refine ⟨_, rfl, x, _, t, _, _, rfl, .ty _, ht, k1, _, rfl, ?_⟩
    refine ifB (fun hc => ?_) (fun hc => ?_)
    · refine ⟨_, rfl, x, _, t, _, _, rfl, .ty _, ht, k2, _, rfl, ?_⟩
      have e : (!isB x) = isI x := by cases x <;> first | rfl | cases hc
      rw [e]
      exact q
    · have e : isI x = false := by cases x <;> first | rfl | cases hc
      rw [e] at q
      exact q
def spInR (C : Addr) : Sp := fun vs H Q _ => ∃ x a b, vs = [x, .int a, .int b] ∧ knownV C H x ∧ Q (.bl (inR x a b)) H
theorem ok_in_range (T : Txt K mg) : FnR P w K mg base CX0 2 T.f_in_range (spInR T.C_Map) := by
  refine T.A_in_range.ok sc_in_range (fun vs H Q E h => ?_) (fun cdv A outer s H vs Q E hr h => ?_)
  · obtain ⟨x, a, b, rfl, _⟩ := h
    rfl
  · obtain ⟨x, a, b, rfl, hx, q⟩ := h
    refine ⟨_, pss_one (ps_ret (pe_and (pe_callR (ok_is_integer T) hr T.A_is_integer.kp rfl T.g_is_integer pass0 (pa_cons (pv 0) pa_nil))
      (pe_one (pe_chain op_le op_le (pv 1) (pv 0) (pv 2))))), ?_⟩
    refine ⟨_, rfl, x, rfl, hx, _, rfl, ?_⟩
    cases x with
    | int i =>
      refine iteT ⟨_, rfl, _, rfl, _, _, rfl, rfl, _, rfl, ?_⟩
      refine ifD (fun h => ?_) (fun h => ?_)
      · refine ⟨_, rfl, _, _, rfl, rfl, ?_⟩
        have e : inR (.int i) a b = decide (i ≤ b) := by simp [inR, h]
        rw [e] at q
        exact q
      · have e : inR (.int i) a b = false := by simp [inR, h]
        rw [e] at q
        exact q
    | _ => exact iteF q
/-! ### the law's draws -/
def spDraw : Sp := fun vs H Q _ => ∃ (p : Addr) (a b n : Int), vs = [.ref p, .int n] ∧ H p = some (.lst [.int a, .int b]) ∧ 0 ≤ a ∧ 0 ≤ b ∧ b < 2147483647 ∧ 0 < n ∧ n < 1073741824 ∧
  ∀ a' b' r : Int, 0 ≤ a' → 0 ≤ b' → b' < 2147483647 → 0 ≤ r → r < n → Q (.int r) (upd H p (.lst [.int a', .int b']))
theorem ok_draw (T : Txt K mg) : FnR P w K mg base CX0 1 T.f_l_draw spDraw := by
  refine T.A_l_draw.ok sc_l_draw (fun vs H Q E h => ?_) (fun cdv A outer s H vs Q E hr h => ?_)
  · obtain ⟨p, a, b, n, rfl, _⟩ := h
    rfl
  · obtain ⟨p, a, b, n, rfl, hp, ha, hb, hb2, hn, hn2, k⟩ := h
    refine ⟨_, pss_cons (ps_if (pt_cmpR op_gt (pe_ix ix_list (pv 0) pe_int (fun _ _ => rfl)) pe_int (nomark _))
        (pss_cons (ps_set (i := 2) sc_l_draw.nd rfl (Or.inl rfl) (pe_op op_mod (pe_ix ix_list (pv 0) pe_int (fun _ _ => rfl)) (pv 1)))
        (pss_cons (ps_asg (pe_op op_fdiv (pe_ix ix_list (pv 0) pe_int (fun _ _ => rfl)) (pv 1)) (pg_sub (pv 0) pe_int set_list))
        (pss_one (ps_ret (pv 2))))) pss_nil)
      (pss_cons (ps_asg (pe_op op_mod (pe_op op_add (pe_op op_mul (pe_ix ix_list (pv 0) pe_int (fun _ _ => rfl)) pe_int) pe_int) pe_int) (pg_sub (pv 0) pe_int set_list))
      (pss_one (ps_ret (pe_op op_mod (pe_op op_fdiv (pe_op op_mod (pe_op op_mul (pe_ix ix_list (pv 0) pe_int (fun _ _ => rfl)) (pe_ix ix_list (pv 0) pe_int (fun _ _ => rfl))) pe_int) pe_int) (pv 1))))), ?_⟩
    refine ⟨_, rfl, p, _, 0, _, rfl, rfl, SqL.of hp, rfl, _, _, rfl, rfl, _, rfl, ?_⟩
    refine ifD (fun h => ?_) (fun h => ?_)
    · refine ⟨_, rfl, p, _, 0, _, rfl, rfl, SqL.of hp, rfl, _, rfl, _, _, rfl, rfl, hn, ?_⟩
      refine ⟨_, rfl, p, _, 0, _, rfl, rfl, SqL.of hp, rfl, _, rfl, _, _, rfl, rfl, ⟨hn, hn2⟩, _, rfl, p, _, 0, _, rfl, rfl, hp, rfl, ?_⟩
      refine ⟨_, rfl, ?_⟩
      exact k (a / n) b (a % n) (Int.ediv_nonneg ha (by omega)) hb hb2 (Int.emod_nonneg _ (by omega)) (Int.emod_lt_of_pos _ hn)
    · have m1 : 0 ≤ (b * 48271 + 11) % 2147483647 := Int.emod_nonneg _ (by decide)
      have m2 : (b * 48271 + 11) % 2147483647 < 2147483647 := Int.emod_lt_of_pos _ (by decide)
      refine ⟨_, rfl, p, _, 1, _, rfl, rfl, SqL.of hp, rfl, _, _, rfl, rfl, .inr ⟨by decide, by decide⟩, _, _, rfl, rfl, _, _, rfl, rfl, (by show (0 : Int) < 2147483647; decide), _, rfl, p, _, 1, _, rfl, rfl, hp, rfl, ?_⟩
      refine ⟨_, rfl, p, _, 1, _, rfl, rfl, SqL.of upd_same, rfl, _, rfl, p, _, 1, _, rfl, rfl, SqL.of upd_same, rfl, _, _, rfl, rfl, .inl ⟨by omega, by omega⟩, _, _, rfl, rfl, (by show (0 : Int) < 2147483629; decide), _, _, rfl, rfl, ⟨by decide, by decide⟩, _, rfl, _, _, rfl, rfl, hn, ?_⟩
      exact k a ((b * 48271 + 11) % 2147483647) _ ha m1 m2 (Int.emod_nonneg _ (by omega)) (Int.emod_lt_of_pos _ hn)
end
end My
namespace My
open PySem L2 U StX PM
section
variable {P : Program} {w : World} {K : PySem.W.Frag} {mg : Str → Option Value} {base : Heap}
theorem head_int (xs : List V) (h : ∀ v ∈ xs, ∃ i, v = V.int i) : ∃ c, atI (xs ++ [V.int 0]) 0 = some (V.int c) := by
  cases xs with
  | nil => exact ⟨0, rfl⟩
  | cons a r =>
    obtain ⟨i, rfl⟩ := h a List.mem_cons_self
    refine ⟨i, atI_nat (j := 0) ?_⟩
    rfl
theorem cut_int (ns : List Int) (lo hi : Option Int) : ∀ v ∈ cutV (ns.map V.int) lo hi, ∃ i, v = V.int i := by
  intro v hv
  unfold cutV at hv
  have h1 := List.mem_of_mem_drop (List.mem_of_mem_take hv)
  obtain ⟨i, _, rfl⟩ := List.mem_map.mp h1
  exact ⟨i, rfl⟩
def spHand (K : PySem.W.Frag) : Sp := fun vs H Q _ => ∃ (a : Addr) (ns : List Int) (k : Int), vs = [.ref a, .int k] ∧ SqL K H a (ns.map V.int) ∧ ns.length ≤ 63 ∧
  ∀ p H' x y, H p = none → H' p = some (.lst [.int x, .int y]) → Same H H' → 0 ≤ x → 0 ≤ y → y < 2147483647 → Q (.ref p) H'
theorem ok_hand (T : Txt K mg) : FnR P w K mg base CX0 1 T.f_l_hand (spHand K) := by
  refine T.A_l_hand.ok sc_l_hand (fun vs H Q E h => ?_) (fun cdv A outer s H vs Q E hr h => ?_)
  · obtain ⟨a, ns, k, rfl, _⟩ := h
    rfl
  · obtain ⟨a, ns, k, rfl, hS, hl, q⟩ := h
    refine ⟨_, pss_cons (ps_set (i := 2) sc_l_hand.nd rfl (Or.inl rfl) (pe_ix ix_list (pe_op op_cat (pe_slice sl_list (pv 0) (po_some (pv 1)) (po_some (pe_op op_add (pv 1) pe_int))) (pe_lst (pa_cons pe_int pa_nil))) pe_int (fun _ _ => rfl)))
      (pss_cons (ps_set (i := 3) sc_l_hand.nd rfl (Or.inl rfl) (pe_op op_mod (pe_op op_mul (pe_op op_add (pe_op op_add (pe_op op_mod (pv 2) pe_int) (pe_op op_mul pe_int (pv 1))) pe_int) pe_int) pe_int))
      (pss_one (ps_ret (pe_lst (pa_cons (pe_op op_mul (pe_callTy call_int1 (by rfl) T.n_int (by decide +kernel) (pa_cons (pe_cmpR op_ge (pv 2) (pe_op op_pow pe_int pe_int) (nomark _)) pa_nil)) (pv 2)) (pa_cons (pv 3) pa_nil)))))), ?_⟩
    refine ⟨_, rfl, _, rfl, _, rfl, _, rfl, _, _, rfl, rfl, _, rfl, a, _, rfl, hS, fun p1 n1 => ?_⟩
    refine ⟨(by show 1 ≤ sizeLine; decide), fun p2 n2 => ?_⟩
    have n12 : p1 ≠ p2 := ne_of_none upd_same n2
    have hcl := cutV_length (ns.map V.int) (some k) (some (k + 1))
    rw [List.length_map] at hcl
    refine ⟨p1, p2, cutV (ns.map V.int) (some k) (some (k + 1)), [.int 0], rfl, rfl, (by rw [upd_ne n12, upd_same]), upd_same, ?_, fun p3 n3 => ?_⟩
    · show _ + 1 ≤ sizeLine
      exact Nat.le_trans (by omega : _ ≤ 64) (by decide)
    obtain ⟨c, hc⟩ := head_int _ (cut_int ns (some k) (some (k + 1)))
    refine ⟨p3, _, 0, .int c, rfl, rfl, SqL.of upd_same, hc, ?_⟩
    refine ⟨_, rfl, _, _, rfl, rfl, (by show (0 : Int) < 2147483647; decide), _, rfl, _, _, rfl, rfl, .inl ⟨by decide, by decide⟩, _, _, rfl, rfl, _, _, rfl, rfl, _, _, rfl, rfl, .inr ⟨by decide, by decide⟩, _, _, rfl, rfl, (by show (0 : Int) < 2147483629; decide), ?_⟩
    refine ⟨_, rfl, _, _, rfl, rfl, ⟨by decide, by decide, by decide⟩, _, _, rfl, rfl, .inr ⟨_, rfl, _, rfl, _, _, rfl, rfl, .inl ?_, _, rfl, (by show 2 ≤ sizeLine; decide), fun p4 n4 => ?_⟩⟩
    · cases decide ((10 : Int) ^ (18 : Int).toNat ≤ c) <;> exact ⟨by decide, by decide⟩
    · have s3 := ((Same.new (o := .lst (cutV (ns.map V.int) (some k) (some (k + 1)))) n1).trans (Same.new (o := .lst [.int 0]) n2)).trans (Same.new (o := .lst (cutV (ns.map V.int) (some k) (some (k + 1)) ++ [.int 0])) n3)
      refine q p4 _ _ _ (s3.free n4) upd_same (s3.trans (Same.new n4)) ?_ (Int.emod_nonneg _ (by decide)) ?_
      · cases hd : decide ((10 : Int) ^ (18 : Int).toNat ≤ c) with
        | true =>
          have := of_decide_eq_true hd
          have h10 : (0 : Int) ≤ 10 ^ (18 : Int).toNat := by decide
          show 0 ≤ 1 * c
          omega
        | false => show 0 ≤ 0 * c; omega
      · have := Int.emod_lt_of_pos ((c % 2147483647 + 7919 * k + 1) * 48271) (show (0 : Int) < 2147483629 by decide)
        omega
end
end My
namespace My
open PySem L2 U StX PM
section
variable {P : Program} {w : World} {K : PySem.W.Frag} {mg : Str → Option Value} {base : Heap}
def rowOk (n : Int) (p : Int × Int) : Bool := inR (.int p.1) 0 (n - 1) && inR (.int p.2) 0 (n - 1)
def okArr (n : Int) (l : List (Int × Int)) : Bool := l.all (rowOk n) && decide (l.map (·.2)).Nodup
def tgt (l : List (Int × Int)) : List (Key × V) := l.map fun p => (Sum.inl p.2, V.bl true)
theorem tgt_key {l : List (Int × Int)} {y : Int} : (Sum.inl y : Key) ∈ (tgt l).map (·.1) ↔ y ∈ l.map (·.2) := by
  unfold tgt
  rw [List.map_map]
  constructor
  · intro h
    obtain ⟨p, hp, e⟩ := List.mem_map.mp h
    exact List.mem_map.mpr ⟨p, hp, Sum.inl.inj e⟩
  · intro h
    obtain ⟨p, hp, e⟩ := List.mem_map.mp h
    exact List.mem_map.mpr ⟨p, hp, congrArg Sum.inl e⟩
theorem tgt_val {l : List (Int × Int)} {y : Int} : (valV (tgt l) (Sum.inl y : Key)).isSome = decide (y ∈ l.map (·.2)) := by
  by_cases h : y ∈ l.map (·.2)
  · have h' := tgt_key.mpr h
    rw [decide_eq_true h]
    cases e : valV (tgt l) (Sum.inl y : Key) with
    | some v => rfl
    | none =>
      obtain ⟨p, hp, e2⟩ := List.mem_map.mp h'
      exfalso
      unfold valV at e
      rw [Option.map_eq_none_iff, List.find?_eq_none] at e
      exact e p hp (by simp [e2])
  · rw [decide_eq_false h, valV_none fun z => h (tgt_key.mp z)]
    rfl
theorem okArr_step {n : Int} {l : List (Int × Int)} {i : Nat} {p : Int × Int} (h : l[i]? = some p) : okArr n (l.take (i + 1)) = (okArr n (l.take i) && (rowOk n p && !decide (p.2 ∈ (l.take i).map (·.2)))) := by
  rw [take_more h]
  unfold okArr
  rw [List.all_append, List.map_append]
  have e : decide (((l.take i).map (·.2) ++ [p].map (·.2)).Nodup) = (decide ((l.take i).map (·.2)).Nodup && !decide (p.2 ∈ (l.take i).map (·.2))) := by
    rw [Bool.eq_iff_iff]
    simp only [decide_eq_true_eq, Bool.and_eq_true, Bool.not_eq_true', decide_eq_false_iff_not]
    rw [List.nodup_append]
    constructor
    · rintro ⟨h1, _, h2⟩
      exact ⟨h1, fun hm => h2 _ hm _ (by simp) rfl⟩
    · rintro ⟨h1, h2⟩
      refine ⟨h1, by simp, fun a ha b hb e => ?_⟩
      simp at hb
      subst hb
      exact h2 (e ▸ ha)
  rw [e]
  simp only [List.all_cons, List.all_nil, Bool.and_true]
  cases (l.take i).all (rowOk n) <;> cases rowOk n p <;> cases decide ((l.take i).map (·.2)).Nodup <;> simp
theorem okArr_cut {n : Int} {l : List (Int × Int)} {i : Nat} (h : okArr n (l.take i) = false) : okArr n l = false := by
  cases e : okArr n l with
  | false => rfl
  | true =>
    unfold okArr at e h
    rw [Bool.and_eq_true] at e
    have h1 : (l.take i).all (rowOk n) = true := by
      rw [List.all_eq_true] at e ⊢
      exact fun p hp => e.1 p (List.mem_of_mem_take hp)
    have h2 : ((l.take i).map (·.2)).Nodup := by
      have := of_decide_eq_true e.2
      rw [List.map_take]
      exact List.Sublist.nodup (List.take_sublist _ _) this
    rw [h1, decide_eq_true h2] at h
    cases h
def spArr : Sp := fun vs H Q _ => ∃ (n : Int) (d : Addr) (l : List (Int × Int)), vs = [.int n, .ref d] ∧ H d = some (.dK (kvI l)) ∧ l.length ≤ 1000 ∧ ∀ H', Same H H' → Q (.bl (okArr n l)) H'
theorem ok_are_arrows (T : Txt K mg) : FnR P w K mg base CX0 3 T.f_are_arrows spArr := by
  refine T.A_are_arrows.ok sc_are_arrows (fun vs H Q E h => ?_) (fun cdv A outer s H vs Q E hr h => ?_)
  · obtain ⟨n, d, l, rfl, _⟩ := h
    rfl
  · obtain ⟨n, d, l, rfl, hd, hl, q⟩ := h
    have hu := hu_of hr
    refine ⟨_, pss_cons (ps_if (pt_not (pt_val (pe_callB call_isi (by rfl) T.n_isinstance (by decide +kernel) (pa_cons (pv 1) (pa_cons (pe_bltn (v := .ty "dict") (u := .type "dict") (by rfl) T.n_dict (by decide +kernel) rfl) pa_nil))))) (pss_one (ps_ret pe_bl)) pss_nil)
      (pss_cons (ps_set (i := 2) sc_are_arrows.nd rfl (Or.inl rfl) pe_dnewK)
      (pss_cons (ps_lock (ps_for PassesOwn.never rfl (pi_items (pv 1)) (pg_tup rfl (pgs_cons (pg_name (i := 3) sc_are_arrows.nd rfl (Or.inl rfl)) (pgs_cons (pg_name (i := 4) sc_are_arrows.nd rfl (Or.inl rfl)) pgs_nil)))
        (pss_cons (ps_if (PW.pt (pw_or (pt_not (pt_val (pe_callR (ok_in_range T) hr T.A_in_range.kp rfl T.g_in_range pass0 (pa_cons (pv 3) (pa_cons pe_int (pa_cons (pe_op op_sub (pv 0) pe_int) pa_nil))))))
            (pw_or (pt_not (pt_val (pe_callR (ok_in_range T) hr T.A_in_range.kp rfl T.g_in_range pass0 (pa_cons (pv 4) (pa_cons pe_int (pa_cons (pe_op op_sub (pv 0) pe_int) pa_nil))))))
            (pw_or1 (pt_cmp (pc_din hu (pv 4) (pv 2))))))) (pss_one (ps_ret pe_bl)) pss_nil)
        (pss_one (ps_dput hu (pv 2) (pv 4) pe_bl rfl)))))
      (pss_one (ps_ret pe_bl)))), ?_⟩
    refine ⟨_, rfl, _, _, _, _, true, rfl, .ty _, .base (.dK hd), kit_ty (by decide +kernel), _, rfl, ?_⟩
    refine iteF ?_
    intro t ht
    have ntd : t ≠ d := fun e => by rw [e, hd] at ht; cases ht
    have hd1 : (upd H t (.dK [])) d = some (.dK (kvI l)) := by rw [upd_ne ntd.symm]; exact hd
    refine ⟨d, _, hd1, trivial, fun od => ?_⟩
    refine ⟨_, rfl, d, od, kvI l, rfl, upd_same, ?_⟩
    refine for_it walk_items (fun i σ H' => ∃ v3 v4, σ = [some (.int n), some (.ref d), some (.ref t), v3, v4] ∧ H' d = some (.frz od (.dK (kvI l))) ∧ Off d H H' ∧ H' t = some (.dK (tgt (l.take i))) ∧ okArr n (l.take i) = true)
      ⟨none, none, rfl, upd_same, (Off.new ht).tr Off.lock, (by rw [upd_ne ntd]; exact upd_same), rfl⟩ (fun i σ H' _ ⟨_, _, _, p, _⟩ => p) ?_ ?_
    · rintro i v σ H' H'' hi ⟨v3, v4, rfl, p1, p2, p3, p4⟩ ⟨U, a, b, rfl, hU, rfl, e1, e2⟩
      rw [kvI_length] at hi
      obtain ⟨⟨x, y⟩, exy⟩ : ∃ p, l[i]? = some p := ⟨_, List.getElem?_eq_getElem hi⟩
      have ek : (kvI l)[i]? = some (Sum.inl x, V.int y) := by unfold kvI; rw [List.getElem?_map, exy]; rfl
      dsimp only at e1 e2
      rw [ek] at e1 e2
      cases e1; cases e2
      have nUd : d ≠ U := ne_of_none p1 hU
      have nUt : t ≠ U := ne_of_none p3 hU
      have d3 : (upd H' U (.tup [kV (Sum.inl x), .int y])) d = some (.frz od (.dK (kvI l))) := by rw [upd_ne nUd]; exact p1
      have t3 : (upd H' U (.tup [kV (Sum.inl x), .int y])) t = some (.dK (tgt (l.take i))) := by rw [upd_ne nUt]; exact p3
      have o3 : Off d H (upd H' U (.tup [kV (Sum.inl x), .int y])) := p2.tr (Off.new hU)
      have bad : (rowOk n (x, y) && !decide (y ∈ (l.take i).map (·.2))) = false → Q (.bl false) (upd (upd H' U (.tup [kV (Sum.inl x), .int y])) d (.dK (kvI l))) := by
        intro hb
        have h1 := okArr_step (n := n) exy
        rw [p4, hb] at h1
        have := q _ (o3.back hd)
        rw [okArr_cut h1] at this
        exact this
      refine ⟨U, [.int x, .int y], rfl, SqT.of upd_same, rfl, .int x, [.int y], rfl, .int y, [], rfl, rfl, ?_⟩
      refine ⟨_, rfl, _, rfl, _, _, rfl, rfl, .int x, 0, n - 1, rfl, trivial, _, rfl, ?_⟩
      refine ifNB (fun hc => iteT ⟨d3, bad ?_⟩) (fun hc => ?_)
      · simp [rowOk, hc]
      refine ⟨_, rfl, _, rfl, _, _, rfl, rfl, .int y, 0, n - 1, rfl, trivial, _, rfl, ?_⟩
      refine ifNB (fun hc2 => iteT ⟨d3, bad ?_⟩) (fun hc2 => ?_)
      · simp [rowOk, hc2]
      refine ⟨_, rfl, _, rfl, t, _, rfl, DGet.k (k := Sum.inl y) t3, _, rfl, ?_⟩
      rw [tgt_val]
      refine ifD (fun hm => ⟨d3, bad ?_⟩) (fun hm => ?_)
      · rw [decide_eq_true hm]; simp
      have hlen : (tgt (l.take i)).length ≤ 1000 := by unfold tgt; rw [List.length_map, List.length_take]; omega
      refine ⟨_, rfl, _, rfl, t, _, rfl, DPut.k (k := Sum.inl y) t3 (small1000 hlen), ?_⟩
      refine ⟨_, _, rfl, ?_, o3.mut ht, ?_, ?_⟩
      · rw [upd_ne ntd.symm]; exact d3
      · rw [upd_same, putK_new _ (valV_none fun z => hm (tgt_key.mp z)), take_more exy]
        unfold tgt
        rw [List.map_append]
        rfl
      · rw [okArr_step exy, p4, decide_eq_false hm]
        simp [rowOk, hc, hc2]
    · rintro σ H' ⟨v3, v4, rfl, p1, p2, p3, p4⟩
      rw [kvI_length, List.take_length] at p4
      have := q _ (p2.back hd)
      rw [p4] at this
      exact ⟨p1, this⟩
end
end My
namespace My
open PySem L2 U StX PM
section
variable {P : Program} {w : World} {K : PySem.W.Frag} {mg : Str → Option Value} {base : Heap}
theorem ne_fld : ¬ (("own_size" : Str) = "own_arrows") := by decide +kernel
/-- a map's attributes -/
def flds (n : Int) (D : Addr) : List (Str × V) := putF "own_arrows" (.ref D) (putF "own_size" (.int n) [])
theorem flds_size (n : Int) (D : Addr) : (flds n D).lookup ("own_size" : Str) = some (.int n) := by
  unfold flds
  rw [lookup_putF, if_neg ne_fld, lookup_putF, if_pos rfl]
theorem flds_arrows (n : Int) (D : Addr) : (flds n D).lookup ("own_arrows" : Str) = some (.ref D) := by
  unfold flds
  rw [lookup_putF, if_pos rfl]
/-- a Map of n elements stands at m: the map f -/
structure IsMap (C : Addr) (H : Hp) (m : Addr) (n : Int) (f : PF) : Prop where
  ob : ∃ dx D, H m = some (.ins C dx (flds n D)) ∧ H D = some (.dK (kvI (tab n f)))
  wf : WF n f
  lo : 1 ≤ n
  hi : n ≤ 300
theorem IsMap.same {C : Addr} {H H' : Hp} {m : Addr} {n : Int} {f : PF} (a : IsMap C H m n f) (s : Same H H') : IsMap C H' m n f := by
  obtain ⟨⟨dx, D, h1, h2⟩, wf, lo, hi⟩ := a
  exact ⟨⟨dx, D, s _ _ h1, s _ _ h2⟩, wf, lo, hi⟩
theorem okArr_of {n : Int} {l : List (Int × Int)} {f : PF} (d : DI l f) (w : WF n f) : okArr n l = true := by
  unfold okArr
  rw [Bool.and_eq_true]
  refine ⟨List.all_eq_true.mpr fun p hp => ?_, decide_eq_true (d.vals w)⟩
  obtain ⟨x, y⟩ := p
  have h := w.dom x y (d.mem.mp hp)
  simp only [rowOk, inR, Bool.and_eq_true, decide_eq_true_eq]
  omega
theorem madeR_tab {l : List (Int × Int)} {f : PF} (d : DI l f) (n : Nat) : madeR (fun k => (lk l k).isSome) (fun x => x) (fun k => ((lk l k).map V.int).getD .non) n = kvI (tabN f n) := by
  induction n with
  | zero => rfl
  | succ n ih =>
    rw [madeR_succ, ih]
    have e : tabN f (n + 1) = tabN f n ++ ((f (n : Int)).map fun y => ((n : Int), y)).toList := by
      unfold tabN
      rw [List.range_succ, List.filterMap_append]
      cases h : f (n : Int) <;> simp [h]
    rw [e, d.at_]
    cases h : f (n : Int) with
    | none => simp
    | some y => simp [kvI]
def spInit (C : Addr) : Sp := fun vs H Q _ => ∃ (p dx d : Addr) (n : Int) (l : List (Int × Int)) (f : PF), vs = [.ref p, .int n, .ref d] ∧ H p = some (.ins C dx []) ∧ H d = some (.dK (kvI l)) ∧ DI l f ∧ WF n f ∧ 1 ≤ n ∧ n ≤ 300 ∧ l.length ≤ 1000 ∧
  ∀ (H' : Hp) (D : Addr), Off p H H' → H D = none → H' p = some (.ins C dx (flds n D)) → H' D = some (.dK (kvI (tab n f))) → Q .non H'
theorem ok_init (T : Txt K mg) : FnR P w K mg base CX0 4 T.f_Map__init (spInit T.C_Map) := by
  refine T.A_Map__init.ok sc_Map__init (fun vs H Q E h => ?_) (fun cdv A outer s H vs Q E hr h => ?_)
  · obtain ⟨p, dx, d, n, l, f, rfl, _⟩ := h
    rfl
  · obtain ⟨p, dx, d, n, l, f, rfl, hp, hd, di, wf, h1, h3, hl, q⟩ := h
    have hu := hu_of hr
    obtain ⟨tk, hms⟩ := T.v_MAX_SIZE
    refine ⟨_, pss_cons (ps_if (pt_not (pt_val (pe_callR (ok_in_range T) (hr.mono (by decide)) T.A_in_range.kp rfl T.g_in_range pass0 (pa_cons (pv 1) (pa_cons pe_int (pa_cons (pe_glob (v := .int 300) rfl hms ⟨_, rfl⟩) pa_nil)))))) (pss_one ps_never) pss_nil)
      (pss_cons (ps_if (pt_not (pt_val (pe_callR (ok_are_arrows T) hr T.A_are_arrows.kp rfl T.g_are_arrows pass0 (pa_cons (pv 1) (pa_cons (pv 2) pa_nil))))) (pss_one ps_never) pss_nil)
      (pss_cons (ps_fld (pv 0) (pv 1) rfl)
      (pss_one (ps_fld (pv 0) (pe_dc (own := [("source", 3)]) (g := gName 3) rfl sc_Map__init.nd (pi_range1 rfl T.n_range (pa_cons (pv 1) pa_nil)) (blkOk_by (own := [("source", 3)]) (N := n_Map__init) (sc := defScope s_Map__init) (by decide +kernel))
        (fun _ _ _ _ _ => pg_name (i := 3) sc_Map__init.nd rfl (Or.inl rfl)) (fun _ _ _ _ _ => pts_one (pt_cmp (pc_din hu (pv 3) (pv 2)))) (fun _ _ _ _ _ => pv 3) (fun _ _ _ _ _ => pe_dget hu (pv 2) (pv 3) (fun _ _ => rfl))) rfl)))), ?_⟩
    refine ⟨_, rfl, .int n, 1, 300, rfl, trivial, _, rfl, ?_⟩
    have e1 : inR (.int n) 1 300 = true := by simp [inR, h1, h3]
    rw [e1]
    refine iteF ⟨_, rfl, _, rfl, n, d, l, rfl, hd, hl, fun H1 s1 => ⟨_, rfl, ?_⟩⟩
    rw [okArr_of di wf]
    refine iteF ?_
    have hp1 := s1 _ _ hp
    have npd : p ≠ d := ne_of hp hd (by intro z; cases z)
    refine ⟨_, rfl, _, rfl, p, T.C_Map, dx, [], rfl, hp1, T.o_Map.cl, T.na_own_size_Map, (by show 0 < 1000; decide), ?_⟩
    have hd1 : (upd H1 p (.ins T.C_Map dx (putF "own_size" (.int n) []))) d = some (.dK (kvI l)) := by rw [upd_ne npd.symm]; exact s1 _ _ hd
    dsimp only [sFld]
    refine dc_range (n := n.toNat) (fun k => (lk l k).isSome) (fun k => ((lk l k).map V.int).getD .non) (fun R r => ⟨_, rfl, n, rfl, by omega, by omega, r⟩) (fun _ => rfl) ?_ (small1000 (by omega)) ?_
    · intro k hk H2 s2
      have hd2 := s2 _ _ hd1
      refine ⟨fun R r => ?_, fun hc => ⟨fun R r => ?_, fun R r => ?_⟩⟩
      · refine ⟨_, rfl, _, rfl, d, _, rfl, DGet.k (k := Sum.inl (0 + (k : Int))) hd2, _, rfl, ?_⟩
        rw [valV_kvI, Option.isSome_map, Int.zero_add]
        exact r
      · refine ⟨_, rfl, ?_⟩
        rw [Int.zero_add]
        exact r
      · cases hv : lk l (k : Int) with
        | none => rw [hv] at hc; cases hc
        | some y =>
          rw [hv] at r
          refine ⟨_, rfl, _, rfl, d, .int y, rfl, ?_, r⟩
          have := DGet.k (k := Sum.inl (0 + (k : Int))) hd2
          rw [valV_kvI, Int.zero_add, hv] at this
          rw [Int.zero_add]
          exact this
    · intro D H2 nD hD s2
      rw [madeR_tab di] at hD
      have hp2 := s2 _ _ (upd_same : (upd H1 p (.ins T.C_Map dx (putF "own_size" (.int n) []))) p = _)
      refine ⟨_, rfl, p, T.C_Map, dx, _, rfl, hp2, T.o_Map.cl, T.na_own_arrows_Map, (by show 1 < 1000; decide), ?_⟩
      have nDp : D ≠ p := fun e => by rw [e, upd_same] at nD; cases nD
      have nD1 : H1 D = none := by rw [upd_ne nDp] at nD; exact nD
      refine q _ D (fun b o hb e => ?_) (s1.free nD1) upd_same ?_
      · rw [upd_ne hb]
        refine s2 _ _ ?_
        rw [upd_ne hb]
        exact s1 _ _ e
      · rw [upd_ne nDp]
        exact hD
end
end My
namespace My
open PySem L2 U StX PM
/-! ### what a comprehension over pairs of ints makes -/
def madeI (c : Int → Int → Bool) (kf vi : Int → Int → Int) (l : List (Int × Int)) : List (Int × Int) := (l.filter fun p => c p.1 p.2).map fun p => (kf p.1 p.2, vi p.1 p.2)
theorem madeD_I (c : Int → Int → Bool) (kf vi : Int → Int → Int) (l : List (Int × Int)) : madeD c kf (fun x y => .int (vi x y)) l = kvI (madeI c kf vi l) := by
  unfold madeD madeI kvI
  rw [List.map_map]
  rfl
theorem kvI_keys (l : List (Int × Int)) : (kvI l).map (·.1) = (l.map (·.1)).map Sum.inl := by
  unfold kvI
  rw [List.map_map, List.map_map]
  rfl
theorem nd_inl {l : List Int} (h : l.Nodup) : (l.map (Sum.inl : Int → Key)).Nodup := by
  induction l with
  | nil => exact List.nodup_nil
  | cons a r ih =>
    rw [List.nodup_cons] at h
    rw [List.map_cons, List.nodup_cons]
    refine ⟨fun hm => ?_, ih h.2⟩
    obtain ⟨b, hb, e⟩ := List.mem_map.mp hm
    exact h.1 (Sum.inl.inj e ▸ hb)
theorem mem_madeI {c : Int → Int → Bool} {kf vi : Int → Int → Int} {l : List (Int × Int)} {a b : Int} : (a, b) ∈ madeI c kf vi l ↔ ∃ x y, (x, y) ∈ l ∧ c x y = true ∧ kf x y = a ∧ vi x y = b := by
  unfold madeI
  rw [List.mem_map]
  constructor
  · rintro ⟨⟨x, y⟩, h, e⟩
    have h1 := List.mem_filter.mp h
    cases e
    exact ⟨x, y, h1.1, h1.2, rfl, rfl⟩
  · rintro ⟨x, y, h1, h2, rfl, rfl⟩
    exact ⟨(x, y), List.mem_filter.mpr ⟨h1, h2⟩, rfl⟩
theorem madeI_len (c : Int → Int → Bool) (kf vi : Int → Int → Int) (l : List (Int × Int)) : (madeI c kf vi l).length ≤ l.length := by
  unfold madeI
  rw [List.length_map]
  exact List.length_filter_le _ _
/-- the targets for sources -/
theorem nd_tgt {c : Int → Int → Bool} {vi : Int → Int → Int} {l : List (Int × Int)} (h : (l.map (·.2)).Nodup) : ((madeI c (fun _ y => y) vi l).map (·.1)).Nodup := by
  unfold madeI
  rw [List.map_map]
  exact List.Sublist.nodup ((List.filter_sublist (p := fun p : Int × Int => c p.1 p.2)).map (·.2)) h
section
variable {P : Program} {w : World} {K : PySem.W.Frag} {mg : Str → Option Value} {base : Heap}
theorem mk_map {C : Addr} {H : Hp} {d : Addr} {n : Int} {l : List (Int × Int)} {f : PF} {Q : VK} {E : XK} (hd : H d = some (.dK (kvI l))) (di : DI l f) (wf : WF n f) (h1 : 1 ≤ n) (h3 : n ≤ 300) (hl : l.length ≤ 1000)
    (q : ∀ r H', H r = none → Same H H' → IsMap C H' r n f → Q (.ref r) H') (x dx : Addr) (hx : H x = none) (hdx : H dx = none) (ne : dx ≠ x) :
    spInit C [.ref x, .int n, .ref d] (upd (upd H dx (.own x)) x (.ins C dx [])) (fun v H2 => v = .non ∧ Q (.ref x) H2) E := by
  have s0 : Same H (upd (upd H dx (.own x)) x (.ins C dx [])) := fun b o e => by
    rw [upd_ne (ne_of_none e hx), upd_ne (ne_of_none e hdx)]
    exact e
  refine ⟨x, dx, d, n, l, f, rfl, upd_same, s0 _ _ hd, di, wf, h1, h3, hl, fun H' D o nD hp hD => ⟨rfl, ?_⟩⟩
  refine q x H' hx (fun b u e => o b u (ne_of_none e hx) (s0 b u e)) ⟨⟨dx, D, hp, hD⟩, wf, h1, h3⟩
/-! ### size, arrows, common_size -/
def spSize (C : Addr) : Sp := fun vs H Q _ => ∃ m n f, vs = [.ref m] ∧ IsMap C H m n f ∧ Q (.int n) H
theorem ok_size (T : Txt K mg) : FnR P w K mg base CX0 1 T.f_Map_size (spSize T.C_Map) := by
  refine T.A_Map_size.ok sc_Map_size (fun vs H Q E h => ?_) (fun cdv A outer s H vs Q E hr h => ?_)
  · obtain ⟨m, n, f, rfl, _⟩ := h
    rfl
  · obtain ⟨m, n, f, rfl, ⟨⟨dx, D, h1, h2⟩, _⟩, q⟩ := h
    refine ⟨_, pss_one (ps_ret (pe_fld (pv 0) rfl)), ?_⟩
    exact ⟨_, rfl, m, _, dx, _, _, rfl, h1, T.o_Map.cl, T.na_own_size_Map, flds_size _ _, q⟩
def spArrows (C : Addr) : Sp := fun vs H Q _ => ∃ m n f, vs = [.ref m] ∧ IsMap C H m n f ∧ ∀ p, H p = none → Q (.ref p) (upd H p (.dK (kvI (tab n f))))
theorem ok_arrows (T : Txt K mg) : FnR P w K mg base CX0 1 T.f_Map_arrows (spArrows T.C_Map) := by
  refine T.A_Map_arrows.ok sc_Map_arrows (fun vs H Q E h => ?_) (fun cdv A outer s H vs Q E hr h => ?_)
  · obtain ⟨m, n, f, rfl, _⟩ := h
    rfl
  · obtain ⟨m, n, f, rfl, ⟨⟨dx, D, h1, h2⟩, _⟩, q⟩ := h
    refine ⟨_, pss_one (ps_ret (pe_callTy call_dictD (by rfl) T.n_dict (by decide +kernel) (pa_cons (pe_fld (pv 0) rfl) pa_nil))), ?_⟩
    exact ⟨_, rfl, m, _, dx, _, _, rfl, h1, T.o_Map.cl, T.na_own_arrows_Map, flds_arrows _ _, D, _, rfl, Rd.of h2, q⟩
theorem at_map {C : Addr} {H : Hp} {m : Addr} {n : Int} {f : PF} (h : IsMap C H m n f) : ∃ dx fs, H m = some (.ins C dx fs) := by
  obtain ⟨⟨dx, D, h1, _⟩, _⟩ := h
  exact ⟨dx, _, h1⟩
/-! ### the operators -/
end
end My
namespace My
open PySem L2 U StX PM
section
variable {P : Program} {w : World} {K : PySem.W.Frag} {mg : Str → Option Value} {base : Heap}
/-! ### ~f -/
/-! ### f & g, f - g -/
theorem isD_of {H : Hp} {a : Addr} {kvs : List (Key × V)} (h : H a = some (.dK kvs)) : IsD H a := by
  first | exact .inl ⟨_, .inl h⟩ | exact ⟨_, .inl h⟩ | exact .inl ⟨_, h⟩ | exact .inr (.inl ⟨_, h⟩)
end
end My
namespace My
open PySem L2 U StX PM
section
variable {P : Program} {w : World} {K : PySem.W.Frag} {mg : Str → Option Value} {base : Heap}
/-! ### is_part, <=, <, >= -/
/-! ### == -/
theorem nd_of_map {α β : Type} (h : α → β) : ∀ {l : List α}, (l.map h).Nodup → l.Nodup
  | [], _ => List.nodup_nil
  | a :: r, nd => by
    rw [List.map_cons, List.nodup_cons] at nd
    exact List.nodup_cons.mpr ⟨fun hm => nd.1 (List.mem_map.mpr ⟨a, hm, rfl⟩), nd_of_map h nd.2⟩
def eqB (n : Int) (f : PF) (n' : Int) (g : PF) : Bool := decide (n = n') && dEq (kvI (tab n f)) (kvI (tab n' g))
theorem eqB_self {n : Int} {f : PF} (w : WF n f) : eqB n f n f = true := by
  unfold eqB dEq
  rw [decide_eq_true rfl]
  simp only [Bool.true_and, beq_self_eq_true, List.all_eq_true, decide_eq_true_eq]
  intro p hp
  unfold kvI at hp
  obtain ⟨⟨x, y⟩, hq, rfl⟩ := List.mem_map.mp hp
  show valV (kvI (tab n f)) (Sum.inl x) = some (V.int y)
  rw [valV_kvI, lk_tab w, (mem_tab w).mp hq]
  rfl
def spEqM (C : Addr) : Sp := fun vs H Q _ => ∃ a b n f n' g, vs = [.ref a, .ref b] ∧ IsMap C H a n f ∧ IsMap C H b n' g ∧ Q (.bl (eqB n f n' g)) H
theorem ok_eq (T : Txt K mg) : FnR P w K mg base CX0 6 T.f_Map__eq (spEqM T.C_Map) := by
  refine T.A_Map__eq.ok sc_Map__eq (fun vs H Q E h => ?_) (fun cdv A outer s H vs Q E hr h => ?_)
  · obtain ⟨a, b, n, f, n', g, rfl, _⟩ := h
    rfl
  · obtain ⟨a, b, n, f, n', g, rfl, ha, hb, q⟩ := h
    have hu := hu_of hr
    obtain ⟨dx, D, h1, h2⟩ := id ha.ob
    obtain ⟨dy, D', h3, h4⟩ := id hb.ob
    refine ⟨_, pss_cons (ps_if (pt_not (pt_val (pe_callB call_isi (by rfl) T.n_isinstance (by decide +kernel) (pa_cons (pv 1) (pa_cons (pe_glob (v := .ref T.C_Map) rfl T.g_Map rfl) pa_nil))))) (pss_one (ps_ret pe_bl)) pss_nil)
      (pss_one (ps_ret (pe_and (pe_cmpR op_eq (pe_fld (pv 0) rfl) (pe_fld (pv 1) rfl) (nomark _)) (pe_one (pe_cmpR (op_eqDI (Nat.lt_of_succ_lt hu)) (pe_fld (pv 0) rfl) (pe_fld (pv 1) rfl) (nomark _)))))), ?_⟩
    refine ⟨_, rfl, _, _, _, _, true, rfl, .own _, tyx_ins T.o_Map h3, T.self_Map, _, rfl, iteF ?_⟩
    refine ⟨_, rfl, a, _, dx, _, _, rfl, h1, T.o_Map.cl, T.na_own_size_Map, flds_size _ _, _, rfl, b, _, dy, _, _, rfl, h3, T.o_Map.cl, T.na_own_size_Map, flds_size _ _, rfl, _, rfl, ?_⟩
    have e0 : decide (V.int n = V.int n') = decide (n = n') := by
      by_cases h : n = n'
      · subst h; simp
      · have : ¬ V.int n = V.int n' := fun z => h (V.int.inj z)
        simp [h]
    rw [e0]
    refine ifD (fun hn => ?_) (fun hn => ?_)
    · refine ⟨_, rfl, a, _, dx, _, _, rfl, h1, T.o_Map.cl, T.na_own_arrows_Map, flds_arrows _ _, _, rfl, b, _, dy, _, _, rfl, h3, T.o_Map.cl, T.na_own_arrows_Map, flds_arrows _ _, D, D', _, _, rfl, rfl, h2, h4, intVals_kvI _, intVals_kvI _, ?_⟩
      have := q
      unfold eqB at this
      rw [decide_eq_true hn, Bool.true_and] at this
      exact this
    · have := q
      unfold eqB at this
      rw [decide_eq_false hn, Bool.false_and] at this
      exact this
end
end My
namespace My
open PySem L2 U StX PM
section
variable {P : Program} {w : World} {K : PySem.W.Frag} {mg : Str → Option Value} {base : Heap}
def spChk : Sp := fun vs H Q _ => ∃ n : Int, vs = [.int n] ∧ 1 ≤ n ∧ n ≤ 300 ∧ Q .non H
theorem ok_check_size (T : Txt K mg) : FnR P w K mg base CX0 3 T.f_check_size spChk := by
  refine T.A_check_size.ok sc_check_size (fun vs H Q E h => ?_) (fun cdv A outer s H vs Q E hr h => ?_)
  · obtain ⟨n, rfl, _⟩ := h
    rfl
  · obtain ⟨n, rfl, h1, h3, q⟩ := h
    obtain ⟨tk, hms⟩ := T.v_MAX_SIZE
    refine ⟨_, pss_one (ps_if (pt_not (pt_val (pe_callR (ok_in_range T) hr T.A_in_range.kp rfl T.g_in_range pass0 (pa_cons (pv 0) (pa_cons pe_int (pa_cons (pe_glob (v := .int 300) rfl hms ⟨_, rfl⟩) pa_nil)))))) (pss_one ps_never) pss_nil), ?_⟩
    refine ⟨_, rfl, .int n, 1, 300, rfl, trivial, _, rfl, ?_⟩
    have e1 : inR (.int n) 1 300 = true := by simp [inR, h1, h3]
    rw [e1]
    exact iteF q
theorem di_id (N : Nat) : DI ((List.range N).map fun (i : Nat) => ((i : Int), (i : Int))) (idn (N : Int)) := by
  refine di_of ?_ fun a b => ?_
  · rw [List.map_map]
    have : ∀ n : Nat, ((List.range n).map ((fun p : Int × Int => p.1) ∘ fun (i : Nat) => ((i : Int), (i : Int)))).Nodup := by
      intro n
      induction n with
      | zero => exact List.nodup_nil
      | succ n ih =>
        rw [List.range_succ, List.map_append, List.nodup_append]
        refine ⟨ih, by simp, fun a ha b hb e => ?_⟩
        obtain ⟨i, hi, rfl⟩ := List.mem_map.mp ha
        rw [List.mem_range] at hi
        simp at hb
        have e' : (i : Int) = b := e
        omega
    exact this N
  · rw [List.mem_map]
    unfold idn
    constructor
    · rintro ⟨i, hi, e⟩
      rw [List.mem_range] at hi
      cases e
      rw [if_pos ⟨by omega, by omega⟩]
    · intro h
      split at h
      · rename_i hc
        cases h
        exact ⟨a.toNat, List.mem_range.mpr (by omega), by rw [Int.toNat_of_nonneg hc.1]⟩
      · cases h
def spNew (C : Addr) (op : Int → PF) : Sp := fun vs H Q _ => ∃ n : Int, vs = [.ref C, .int n] ∧ 1 ≤ n ∧ n ≤ 300 ∧ ∀ r H', H r = none → Same H H' → IsMap C H' r n (op n) → Q (.ref r) H'
theorem di_nil : DI [] emp := ⟨List.nodup_nil, fun _ => rfl⟩
theorem ok_empty (T : Txt K mg) : FnR P w K mg base CX0 6 T.f_Map_empty (spNew T.C_Map fun _ => emp) := by
  refine T.A_Map_empty.ok sc_Map_empty (fun vs H Q E h => ?_) (fun cdv A outer s H vs Q E hr h => ?_)
  · obtain ⟨n, rfl, _⟩ := h
    rfl
  · obtain ⟨n, rfl, h1, h3, q⟩ := h
    refine ⟨_, pss_cons (ps_expr (pe_callR (ok_check_size T) (hr.mono (by decide)) T.A_check_size.kp rfl T.g_check_size pass0 (pa_cons (pv 1) pa_nil)))
      (pss_one (ps_ret (pe_makeL (i := 0) T.M_Map (ok_init T) hr rfl (Or.inl rfl) pass0 (pa_cons (pv 1) (pa_cons pe_dnewK pa_nil))))), ?_⟩
    refine ⟨_, rfl, n, rfl, h1, h3, rfl, _, rfl, fun p hp => ?_⟩
    have s1 : Same H (upd H p (.dK [])) := Same.new hp
    refine mk_map (l := []) upd_same di_nil (wf_emp n) h1 h3 (by simp) fun r H3 nr s3 hm => ?_
    exact q r H3 (s1.free nr) (s1.trans s3) hm
/-! ### first_clash where there is none, | -/
theorem merge_lk : ∀ (r l : List (Int × Int)), (r.map (·.1)).Nodup → ∃ l', mergeK (kvI l) (kvI r) = kvI l' ∧ l'.length ≤ l.length + r.length ∧ ((l.map (·.1)).Nodup → (l'.map (·.1)).Nodup) ∧ ∀ z, lk l' z = (lk r z).or (lk l z)
  | [], l, _ => ⟨l, rfl, by simp, fun h => h, fun z => rfl⟩
  | (x, y) :: r, l, nd => by
    rw [List.map_cons, List.nodup_cons] at nd
    obtain ⟨l1, e1, n1, d1, k1⟩ := putK_lk (l := l) (x := x) (y := y)
    obtain ⟨l2, e2, n2, d2, k2⟩ := merge_lk r l1 nd.2
    refine ⟨l2, ?_, by simp; omega, fun h => d2 (d1 h), fun z => ?_⟩
    · show mergeK (putK (kvI l) (Sum.inl x) (V.int y)) (kvI r) = _
      rw [e1, e2]
    · rw [k2, k1, lk_cons]
      by_cases h : z = x
      · subst h
        rw [if_pos rfl, if_pos rfl, lk_none nd.1]
        rfl
      · have h' : ¬ x = z := fun q => h q.symm
        rw [if_neg h, if_neg h']
end
end My
namespace My
open PySem L2 U StX PM
section
variable {P : Program} {w : World} {K : PySem.W.Frag} {mg : Str → Option Value} {base : Heap}
theorem dgetI {H : Hp} {d : Addr} {l : List (Int × Int)} {f : PF} (h : H d = some (.dK (kvI l))) (di : DI l f) (x : Int) : DGet H d (.int x) ((f x).map V.int) := by
  have := DGet.k (k := Sum.inl x) h
  rw [valV_kvI, di.2] at this
  exact this
theorem lastI (pre : List Int) (z : Int) : atI ((pre ++ [z]).map V.int) (-1) = some (V.int z) := by
  rw [List.map_append]
  exact atI_last _ _
def spRow : Sp := fun vs H Q _ => ∃ d l n f e, vs = [.ref d, .int e] ∧ H d = some (.dK (kvI l)) ∧ DI l f ∧ WF n f ∧ n ≤ 300 ∧ 0 ≤ e ∧ e < n ∧
  ∀ r H' pre z, H r = none → Same H H' → H' r = some (.lst ((pre ++ [z]).map V.int)) → Row f e (pre ++ [z]) → (f z = none ∨ f z = some e) → Q (.ref r) H'
theorem ok_row_from (T : Txt K mg) : FnR P w K mg base CX0 1 T.f_row_from spRow := by
  refine T.A_row_from.ok sc_row_from (fun vs H Q E h => ?_) (fun cdv A outer s H vs Q E hr h => ?_)
  · obtain ⟨d, l, n, f, e, rfl, _⟩ := h
    rfl
  · obtain ⟨d, l, n, f, e, rfl, hd, di, wf, hn, e0, e1, q⟩ := h
    have hu := hu_of hr
    refine ⟨_, pss_cons (ps_set (i := 2) sc_row_from.nd rfl (Or.inl rfl) (pe_lst (pa_cons (pv 1) pa_nil)))
      (pss_cons (ps_while PassesOwn.never (PW.pt (pw_and (pt_cmp (pc_din hu (pe_ix ix_list (pv 2) (pe_un un_neg pe_int) (fun _ _ => rfl)) (pv 0)))
          (pw_and1 (pt_cmpR op_ne (pe_dget hu (pv 0) (pe_ix ix_list (pv 2) (pe_un un_neg pe_int) (fun _ _ => rfl)) (fun _ _ => rfl)) (pv 1) (nomark _)))))
        (pss_one (ps_expr (pe_bm PySem.F.plainAttrs_list PySem.F.slot_list_append PySem.F.type_list_append mt_append (pv 2) (pa_cons (pe_dget hu (pv 0) (pe_ix ix_list (pv 2) (pe_un un_neg pe_int) (fun _ _ => rfl)) (fun _ _ => rfl)) pa_nil)))))
      (pss_one (ps_ret (pv 2)))), ?_⟩
    refine ⟨_, rfl, (by show 1 ≤ sizeLine; decide), fun r hr0 => ?_⟩
    have row0 : Row f e ([] ++ [e]) := ⟨rfl, fun i a b h1 h2 => by simp at h2⟩
    refine ⟨fun m σ H' => ∃ pre z, σ = [some (.ref d), some (.int e), some (.ref r)] ∧ H' r = some (.lst ((pre ++ [z]).map V.int)) ∧ Same H H' ∧ Row f e (pre ++ [z]) ∧ m = 300 - pre.length, ⟨300, [], e, rfl, upd_same, Same.new hr0, row0, rfl⟩, ?_⟩
    rintro m σ H' ⟨pre, z, rfl, p1, p2, p3, rfl⟩
    have hd' := p2 _ _ hd
    have hlen := len_range (p3.nd wf) (p3.dom wf e0 e1)
    rw [List.length_append, List.length_singleton] at hlen
    refine ⟨_, rfl, 1, rfl, r, _, -1, .int z, rfl, rfl, SqL.of p1, lastI _ _, _, rfl, d, _, rfl, dgetI hd' di z, _, rfl, ?_⟩
    cases hz : f z with
    | none =>
      refine iteF ?_
      refine iteF ?_
      exact ⟨_, rfl, q r H' pre z hr0 p2 p1 p3 (.inl hz)⟩
    | some y =>
      refine iteT ?_
      refine ⟨_, rfl, _, rfl, 1, rfl, r, _, -1, .int z, rfl, rfl, SqL.of p1, lastI _ _, d, .int y, rfl, ?_, _, rfl, rfl, _, rfl, ?_⟩
      · have := dgetI hd' di z
        rw [hz] at this
        exact this
      have nr : d ≠ r := ne_of_none hd hr0
      refine ifN (fun hne => ?_) (fun heq => ?_)
      · have hne' : y ≠ e := fun z => hne (congrArg V.int z)
        have row' := p3.more hz hne'
        have hlen' := len_range (row'.nd wf) (row'.dom wf e0 e1)
        rw [List.length_append, List.length_append, List.length_singleton, List.length_singleton] at hlen'
        refine ⟨fun σ' H2 => ∃ m', m' < 300 - pre.length ∧ _, fun _ _ h => h, ?_⟩
        refine ⟨_, rfl, .inl ⟨rfl, _, SqL.of p1⟩, _, rfl, _, rfl, 1, rfl, r, _, -1, .int z, rfl, rfl, SqL.of p1, lastI _ _, d, .int y, rfl, ?_, r, _, .int y, rfl, rfl, p1, ?_, ?_⟩
        · have := dgetI hd' di z
          rw [hz] at this
          exact this
        · rw [List.length_map, List.length_append, List.length_singleton]
          exact small1000 (by omega)
        · refine ⟨300 - (pre ++ [z]).length, by rw [List.length_append, List.length_singleton]; omega, pre ++ [z], y, rfl, ?_, ?_, row', rfl⟩
          · rw [upd_same, List.map_append (l₁ := pre ++ [z])]
            rfl
          · intro b o h
            rw [upd_ne (ne_of_none h hr0)]
            exact p2 b o h
      · have : y = e := V.int.inj heq
        subst this
        exact ⟨_, rfl, q r H' pre z hr0 p2 p1 p3 (.inr hz)⟩
end
end My
namespace My
open PySem L2 U StX PM
/-! ### comprehensions over values and keys -/
theorem tgt_len (l : List (Int × Int)) (i : Nat) : (tgt (l.take i)).length ≤ l.length := by
  unfold tgt; rw [List.length_map, List.length_take]; omega
theorem lc_keys {d : Addr} {l : List (Int × Int)} {te : TE} {i : Nat} {tt : TT} {tv : TE} {vs : List Nat} {σ : L2.St} {H : Hp} {Q : VK} (c : Int → Bool) (vf : Int → V)
    (hd : H d = some (.dK (kvI l))) (hte : ∀ H' (R : VK), R (.ref d) H' → Off d H H' → te σ H' R)
    (hw : ∀ a, wipe ((wipe σ vs).set i a) vs = wipe σ vs)
    (hb : ∀ (x : Int) (H1 : Hp), Off d H H1 → (∀ R : Bool → Hp → Prop, R (c x) H1 → tt ((wipe σ vs).set i (some (.int x))) H1 R) ∧ (∀ R : VK, R (vf x) H1 → tv ((wipe σ vs).set i (some (.int x))) H1 R))
    (hz : l.length < sizeLine)
    (hq : ∀ D H', H D = none → H' D = some (.lst (madeL (fun x _ => c x) (fun x _ => vf x) l)) → L2.Same H H' → Q (.ref D) H') :
    tLockE (tLc (iKeys te) (gName i) tt tv vs) σ H Q := by
  refine ⟨d, _, hd, trivial, fun od => ?_⟩
  refine hte _ _ ⟨d, od, rfl, .inl ⟨kvI l, upd_same, fun D hD => ?_⟩⟩ Off.lock
  have hDd : D ≠ d := fun e => by rw [e, upd_same] at hD; cases hD
  have hD0 : H D = none := by rw [upd_ne hDd] at hD; exact hD
  refine lc_it walk_keys (fun k H' => H' d = some (.frz od (.dK (kvI l))) ∧ Off d H H' ∧ H' D = some (.lst (madeL (fun x _ => c x) (fun x _ => vf x) (l.take k)))) ⟨?_, Off.lock.mut hD0, upd_same⟩ (fun k H' _ p => p.1) ?_ ?_
  · rw [upd_ne hDd.symm]; exact upd_same
  · rintro k v H' H'' hk1 ⟨p1, p2, p3⟩ ⟨rfl, kk, vv, e1, rfl⟩
    obtain ⟨x, y, exy, rfl, rfl⟩ := kvI_get e1
    refine ⟨hw _, ?_⟩
    obtain ⟨b1, b2⟩ := hb x _ p2
    refine b1 _ ?_
    have st := madeL_step (c := fun x _ => c x) (vf := fun x _ => vf x) exy
    cases hc : c x with
    | true =>
      rw [hc, if_pos rfl] at st
      refine iteT (b2 _ ⟨_, p3, Nat.lt_of_le_of_lt (madeL_len ..) hz, ?_⟩)
      refine ⟨?_, p2.mut hD0, ?_⟩
      · rw [upd_ne hDd.symm]; exact p1
      · rw [upd_same, st]
    | false =>
      rw [hc, if_neg Bool.false_ne_true, List.append_nil] at st
      refine iteF ⟨p1, p2, ?_⟩
      rw [st]
      exact p3
  · rintro H' ⟨p1, p2, p3⟩
    rw [kvI_length, List.take_length] at p3
    refine ⟨p1, hq D _ hD0 ?_ (p2.back hd)⟩
    rw [upd_ne hDd]
    exact p3
/-! ### seen and found -/
def kvB (sl : List Int) : List (Key × V) := sl.map fun x => (Sum.inl x, V.bl true)
theorem kvB_key {sl : List Int} {x : Int} : (Sum.inl x : Key) ∈ (kvB sl).map (·.1) ↔ x ∈ sl := by
  unfold kvB
  rw [List.map_map]
  constructor
  · intro h
    obtain ⟨p, hp, e⟩ := List.mem_map.mp h
    cases Sum.inl.inj e
    exact hp
  · intro h
    exact List.mem_map.mpr ⟨x, h, rfl⟩
theorem kvB_val (sl : List Int) (x : Int) : (valV (kvB sl) (Sum.inl x : Key)).isSome = decide (x ∈ sl) := by
  by_cases h : x ∈ sl
  · rw [decide_eq_true h, ← valV_any, List.any_eq_true]
    exact ⟨(Sum.inl x, V.bl true), List.mem_map.mpr ⟨x, h, rfl⟩, by simp⟩
  · rw [decide_eq_false h, valV_none fun z => h (kvB_key.mp z)]
    rfl
theorem kvB_put (sl : List Int) (x : Int) : ∃ sl', putK (kvB sl) (Sum.inl x : Key) (V.bl true) = kvB sl' ∧ (∀ z, z ∈ sl' ↔ z ∈ sl ∨ z = x) ∧ (sl.Nodup → sl'.Nodup) := by
  by_cases h : x ∈ sl
  · refine ⟨sl, ?_, fun z => ⟨.inl, fun hz => ?_⟩, id⟩
    · unfold putK
      have e : ((kvB sl).any fun kv => decide (kv.1 = (Sum.inl x : Key))) = true := by
        rw [valV_any, kvB_val, decide_eq_true h]
      rw [if_pos e]
      unfold kvB
      rw [List.map_map]
      refine List.map_congr_left fun a _ => ?_
      show (if (Sum.inl a : Key) = Sum.inl x then ((Sum.inl a : Key), V.bl true) else (Sum.inl a, V.bl true)) = _
      split <;> rfl
    · rcases hz with hz | rfl
      · exact hz
      · exact h
  · refine ⟨sl ++ [x], ?_, fun z => by simp, fun nd => ?_⟩
    · rw [putK_new _ (valV_none fun z => h (kvB_key.mp z))]
      unfold kvB
      rw [List.map_append]
      rfl
    · rw [List.nodup_append]
      refine ⟨nd, by simp, fun a ha b hb e => ?_⟩
      simp at hb
      subst hb
      exact h (e ▸ ha)
structure Fnd (n : Int) (f : PF) (k : Nat) (fl : List (Int × Int)) (sl : List Int) : Prop where
  nd : (fl.map (·.1)).Nodup
  at_ : ∀ x, lk fl x = if x ∈ sl then iter f k x else none
  sn : sl.Nodup
  dm : ∀ x ∈ sl, 0 ≤ x ∧ x < n
theorem Fnd.len {n : Int} {f : PF} {k : Nat} {fl : List (Int × Int)} {sl : List Int} (h : Fnd n f k fl sl) : fl.length ≤ n.toNat := by
  have := len_range (n := n) h.nd (fun x hx => by
    obtain ⟨⟨a, b⟩, hp, rfl⟩ := List.mem_map.mp hx
    have e := lk_some h.nd hp
    rw [h.at_] at e
    by_cases hm : a ∈ sl
    · exact h.dm _ hm
    · rw [if_neg hm] at e; cases e)
  rw [List.length_map] at this
  exact this
theorem Fnd.slen {n : Int} {f : PF} {k : Nat} {fl : List (Int × Int)} {sl : List Int} (h : Fnd n f k fl sl) : sl.length ≤ n.toNat := len_range h.sn h.dm
theorem Fnd.put {n : Int} {f : PF} {k : Nat} {fl fl' : List (Int × Int)} {sl sl' : List Int} {x y : Int} (h : Fnd n f k fl sl) (h1 : ∀ z, z ∈ sl' ↔ z ∈ sl ∨ z = x) (h2 : sl.Nodup → sl'.Nodup) (hx : 0 ≤ x ∧ x < n)
    (e : iter f k x = some y) (n1 : (fl.map (·.1)).Nodup → (fl'.map (·.1)).Nodup) (a1 : ∀ z, lk fl' z = if z = x then some y else lk fl z) : Fnd n f k fl' sl' := by
  refine ⟨n1 h.nd, fun z => ?_, h2 h.sn, fun z hz => ?_⟩
  · rw [a1]
    by_cases hz : z = x
    · subst hz
      rw [if_pos rfl, if_pos ((h1 z).mpr (.inr rfl)), e]
    · rw [if_neg hz, h.at_]
      by_cases hs : z ∈ sl
      · rw [if_pos hs, if_pos ((h1 z).mpr (.inl hs))]
      · rw [if_neg hs, if_neg fun q => ((h1 z).mp q).elim hs hz]
  · rcases (h1 z).mp hz with q | rfl
    · exact h.dm z q
    · exact hx
end My
namespace My
open PySem L2 U StX PM
section
variable {P : Program} {w : World} {K : PySem.W.Frag} {mg : Str → Option Value} {base : Heap}
theorem get_map {xs : List Int} {i : Nat} {a : Int} (h : xs[i]? = some a) : (xs.map V.int)[i]? = some (V.int a) := by
  rw [List.getElem?_map, h]; rfl
theorem Same.put {H H' : Hp} {p : Addr} {o : HO} (s : Same H H') (h : H p = none) : Same H (upd H' p o) := fun b u e => by rw [upd_ne (ne_of_none e h)]; exact s b u e
end
end My
namespace My
open PySem L2 U StX PM
/-! ### f.power(e) -/
def pw (n : Int) (f : PF) (e : Int) : PF := if e = 0 then idn n else if e < 0 then iter (inv n f) e.natAbs else iter f e.natAbs
end My
namespace My
open PySem L2 U StX PM
/-! ### a drawn map -/
structure Drw (n : Int) (i : Nat) (l : List (Int × Int)) (ns : List Int) : Prop where
  kn : (l.map (·.1)).Nodup
  vn : (l.map (·.2)).Nodup
  nn : ns.Nodup
  lt : ∀ p ∈ l, 0 ≤ p.1 ∧ p.1 < i ∧ 0 ≤ p.2 ∧ p.2 < n
  nt : ∀ y ∈ ns, 0 ≤ y ∧ y < n ∧ y ∉ l.map (·.2)
  ln : l.length ≤ i
  le : l.length + ns.length = n.toNat
theorem Drw.more {n : Int} {i : Nat} {l : List (Int × Int)} {ns : List Int} (h : Drw n i l ns) : Drw n (i + 1) l ns := by
  refine ⟨h.kn, h.vn, h.nn, fun p hp => ?_, h.nt, Nat.le_succ_of_le h.ln, h.le⟩
  have := h.lt p hp
  omega
theorem not_erase {ns : List Int} {k : Nat} {y : Int} (nd : ns.Nodup) (h : ns[k]? = some y) : y ∉ ns.eraseIdx k := by
  obtain ⟨hk, e⟩ := List.getElem?_eq_some_iff.mp h
  have e1 : ns = ns.take k ++ y :: ns.drop (k + 1) := by
    rw [← e]
    simp
  rw [List.eraseIdx_eq_take_drop_succ]
  intro hm
  rw [e1, List.nodup_append, List.nodup_cons] at nd
  rcases List.mem_append.mp hm with h1 | h1
  · exact nd.2.2 y h1 y List.mem_cons_self rfl
  · exact nd.2.1.1 h1
theorem Drw.put {n : Int} {i : Nat} {l : List (Int × Int)} {ns : List Int} (h : Drw n i l ns) {k : Nat} {y : Int} (hy : ns[k]? = some y) : Drw n (i + 1) (l ++ [((i : Int), y)]) (ns.eraseIdx k) ∧ (i : Int) ∉ l.map (·.1) := by
  have hm := h.nt y (List.mem_of_getElem? hy)
  have hi : (i : Int) ∉ l.map (·.1) := by
    intro hm
    obtain ⟨p, hp, e⟩ := List.mem_map.mp hm
    have := h.lt p hp
    omega
  obtain ⟨hk, _⟩ := List.getElem?_eq_some_iff.mp hy
  refine ⟨⟨?_, ?_, ?_, ?_, ?_, ?_, ?_⟩, hi⟩
  · rw [List.map_append, List.nodup_append]
    refine ⟨h.kn, by simp, fun a ha b hb e => ?_⟩
    simp at hb
    subst hb
    exact hi (e ▸ ha)
  · rw [List.map_append, List.nodup_append]
    refine ⟨h.vn, by simp, fun a ha b hb e => ?_⟩
    simp at hb
    subst hb
    exact hm.2.2 (e ▸ ha)
  · exact List.Sublist.nodup (List.eraseIdx_sublist _ _) h.nn
  · intro p hp
    rcases List.mem_append.mp hp with hp | hp
    · have := h.lt p hp
      omega
    · simp at hp
      subst hp
      dsimp only
      omega
  · intro z hz
    have h1 := h.nt z (List.mem_of_mem_eraseIdx hz)
    refine ⟨h1.1, h1.2.1, fun hq => ?_⟩
    rw [List.map_append] at hq
    rcases List.mem_append.mp hq with hq | hq
    · exact h1.2.2 hq
    · simp at hq
      subst hq
      exact not_erase h.nn hy hz
  · have := h.ln
    simp
    omega
  · have := h.le
    rw [List.length_append, List.length_singleton, List.length_eraseIdx, if_pos hk]
    omega
theorem two_in {l : List (Int × Int)} (vn : (l.map (·.2)).Nodup) : ∀ {x x' y : Int}, (x, y) ∈ l → (x', y) ∈ l → x = x' := by
  induction l with
  | nil => intro _ _ _ h; cases h
  | cons p r ih =>
    intro x x' y h1 h2
    rw [List.map_cons, List.nodup_cons] at vn
    rcases List.mem_cons.mp h1 with e1 | e1 <;> rcases List.mem_cons.mp h2 with e2 | e2
    · subst e1; cases e2; rfl
    · subst e1; exact absurd (List.mem_map.mpr ⟨(x', y), e2, rfl⟩) vn.1
    · subst e2; exact absurd (List.mem_map.mpr ⟨(x, y), e1, rfl⟩) vn.1
    · exact ih vn.2 e1 e2
theorem Drw.wf {n : Int} {l : List (Int × Int)} {ns : List Int} (h0 : 0 ≤ n) (h : Drw n n.toNat l ns) : WF n (lk l) := by
  refine ⟨fun x y e => ?_, fun x x' y e e' => two_in h.vn (lk_mem e) (lk_mem e')⟩
  have := h.lt _ (lk_mem e)
  dsimp only at this
  omega
theorem rg0 (n : Int) : rgV 0 n = ((List.range n.toNat).map fun (i : Nat) => (i : Int)).map V.int := by
  unfold rgV
  rw [List.map_map, show (n - 0).toNat = n.toNat by omega]
  refine List.map_congr_left fun a _ => ?_
  show V.int (0 + (a : Int)) = V.int (a : Int)
  rw [Int.zero_add]
theorem drw0 (n : Int) : Drw n 0 [] ((List.range n.toNat).map fun (i : Nat) => (i : Int)) := by
  refine ⟨List.nodup_nil, List.nodup_nil, ?_, fun p h => (nomatch h), fun y hy => ?_, Nat.le_refl _, by simp⟩
  · have := (di_id n.toNat).nd
    rw [List.map_map] at this
    exact this
  · obtain ⟨i, hi, rfl⟩ := List.mem_map.mp hy
    rw [List.mem_range] at hi
    exact ⟨by omega, by omega, by simp⟩
section
variable {P : Program} {w : World} {K : PySem.W.Frag} {mg : Str → Option Value} {base : Heap}
def PoolAt (H : Hp) (p : Addr) : Prop := ∃ a b : Int, H p = some (.lst [.int a, .int b]) ∧ 0 ≤ a ∧ 0 ≤ b ∧ b < 2147483647
def spDrwn : Sp := fun vs H Q _ => ∃ (p : Addr) (n way : Int), vs = [.ref p, .int n, .int way] ∧ PoolAt H p ∧ 1 ≤ n ∧ n ≤ 300 ∧
  ∀ r H' l, H r = none → H' r = some (.dK (kvI l)) → DI l (lk l) → WF n (lk l) → l.length ≤ 1000 → PoolAt H' p → Off p H H' → Q (.ref r) H'
theorem Off.put {p q : Addr} {H H' : Hp} {o : HO} (a : Off p H H') (h : H q = none) : Off p H (upd H' q o) := a.mut h
theorem Off.at {p : Addr} {H H' : Hp} {o : HO} (a : Off p H H') : Off p H (upd H' p o) := fun b u hb e => by rw [upd_ne hb]; exact a b u hb e
theorem ok_l_arrows (T : Txt K mg) : FnR P w K mg base CX0 2 T.f_l_arrows spDrwn := by
  refine T.A_l_arrows.ok sc_l_arrows (fun vs H Q E h => ?_) (fun cdv A outer s H vs Q E hr h => ?_)
  · obtain ⟨p, n, way, rfl, _⟩ := h
    rfl
  · obtain ⟨p, n, way, rfl, ⟨a0, b0, hp, ha0, hb0, hb1⟩, h1, h3, q⟩ := h
    have hu := hu_of hr
    refine ⟨_, pss_cons (ps_par (i := 3) (j := 4) rfl sc_l_arrows.nd rfl rfl (by decide) rfl rfl (pa_cons (pe_listRg rfl rfl T.n_list (prg_1 rfl T.n_range (pv 1))) (pa_cons pe_dnewK pa_nil)) (by rfl))
      (pss_cons (ps_for PassesOwn.never rfl (pi_range1 rfl T.n_range (pa_cons (pv 1) pa_nil)) (pg_name (i := 5) sc_l_arrows.nd rfl (Or.inl rfl))
        (pss_one (ps_if (pt_cmpR op_lt (pe_callR (ok_draw T) hr T.A_l_draw.kp rfl T.g_l_draw pass0 (pa_cons (pv 0) (pa_cons pe_int pa_nil))) (pv 2) (nomark _))
          (pss_one (ps_dput hu (pv 4) (pv 5) (pe_bm PySem.F.plainAttrs_list PySem.F.slot_list_pop PySem.F.type_list_pop mt_popAt (pv 3) (pa_cons (pe_callR (ok_draw T) hr T.A_l_draw.kp rfl T.g_l_draw pass0 (pa_cons (pv 0) (pa_cons (pe_callB call_len_seq (by rfl) T.n_len (by decide +kernel) (pa_cons (pv 3) pa_nil)) pa_nil))) pa_nil)) rfl)) pss_nil)))
      (pss_one (ps_ret (pv 4)))), ?_⟩
    refine ⟨_, rfl, n, rfl, RgOk.of_le (by decide) (by omega) (by decide) (by omega), fun lf hlf => ?_⟩
    intro fo hfo
    refine ⟨_, _, rfl, ?_⟩
    have lf0 : H lf = none := hlf
    have fo0 : H fo = none := (Same.new hlf).free hfo
    have npl : p ≠ lf := ne_of_none hp lf0
    have npf : p ≠ fo := ne_of_none hp fo0
    have nlf : lf ≠ fo := ne_of_none upd_same hfo
    refine ⟨_, rfl, n, rfl, by omega, by omega, ?_⟩
    refine for_it (walk_range (lo := 0) (n := n.toNat)) (fun i σ H' => ∃ v5 l ns, σ = [some (.ref p), some (.int n), some (.int way), some (.ref lf), some (.ref fo), v5] ∧ PoolAt H' p ∧ Off p H H' ∧ H' lf = some (.lst (ns.map V.int)) ∧ H' fo = some (.dK (kvI l)) ∧ Drw n i l ns)
      ⟨none, [], _, rfl, ⟨a0, b0, ?_, ha0, hb0, hb1⟩, ?_, ?_, upd_same, drw0 n⟩ (fun _ _ _ _ _ => trivial) ?_ ?_
    · rw [upd_ne npf, upd_ne npl]; exact hp
    · exact (Off.new hlf).tr (Off.new hfo)
    · rw [upd_ne nlf, upd_same, rg0]
    · rintro i v σ H' H'' hi ⟨v5, l, ns, rfl, ⟨a1, b1, e1, ha1, hb1, hb2⟩, p2, p3, p4, p5⟩ ⟨rfl, rfl⟩
      refine ⟨_, rfl, p, a1, b1, 4, rfl, e1, ha1, hb1, hb2, by decide, by decide, fun a2 b2 r2 ha2 hb2 hb3 hr2 hr3 => ?_⟩
      refine ⟨_, rfl, _, _, rfl, rfl, _, rfl, ?_⟩
      have o2 : Off p H (upd H'' p (.lst [.int a2, .int b2])) := Off.at p2
      have l2 : (upd H'' p (.lst [.int a2, .int b2])) lf = some (.lst (ns.map V.int)) := by rw [upd_ne npl.symm]; exact p3
      have f2 : (upd H'' p (.lst [.int a2, .int b2])) fo = some (.dK (kvI l)) := by rw [upd_ne npf.symm]; exact p4
      refine ifD (fun hlt => ?_) (fun _ => ?_)
      · have hlen := p5.le
        have hln := p5.ln
        have hl0 : 0 < ns.length := by omega
        refine ⟨_, rfl, .inl ⟨rfl, _, SqL.of l2⟩, _, rfl, _, rfl, lf, _, rfl, .inl (SqL.of l2), ?_⟩
        rw [List.length_map]
        refine ⟨p, a2, b2, (ns.length : Int), rfl, upd_same, ha2, hb2, hb3, by omega, by omega, fun a4 b4 r4 ha4 hb4 hb5 hr4 hr5 => ?_⟩
        obtain ⟨y, ey⟩ : ∃ y, ns[r4.toNat]? = some y := ⟨_, List.getElem?_eq_getElem (by omega)⟩
        obtain ⟨d1, d2⟩ := p5.put ey
        refine ⟨lf, _, r4, r4.toNat, .int y, rfl, rfl, (by rw [upd_ne npl.symm]; exact l2), by omega, by omega, ?_, get_map ey, ?_⟩
        · rw [List.length_map]
          exact PySem.seqIndex_of hr4 (by omega)
        refine ⟨_, rfl, _, rfl, fo, _, rfl, DPut.k (k := Sum.inl (0 + (i : Nat) : Int)) (kvs := kvI l) (by rw [upd_ne nlf.symm, upd_ne npf.symm]; exact f2) (small1000 (by rw [kvI_length]; omega)), ?_⟩
        rw [Int.zero_add, putK_kvI d2]
        refine ⟨_, _, ns.eraseIdx r4.toNat, rfl, ⟨a4, b4, ?_, ha4, hb4, hb5⟩, ?_, ?_, upd_same, d1⟩
        · rw [upd_ne npf, upd_ne npl, upd_same]
        · exact Off.put (Off.put (Off.at o2) lf0) fo0
        · rw [upd_ne nlf, upd_same]
          congr 2
          apply List.ext_getElem?
          intro m
          simp [List.getElem?_eraseIdx]
          split <;> rfl
      · exact ⟨_, l, ns, rfl, ⟨a2, b2, upd_same, ha2, hb2, hb3⟩, o2, l2, f2, p5.more⟩
    · rintro σ H' ⟨v5, l, ns, rfl, p1, p2, p3, p4, p5⟩
      have := p5.ln
      exact ⟨_, rfl, q fo H' l fo0 p4 ⟨p5.kn, fun _ => rfl⟩ (p5.wf (by omega)) (by omega) p1 p2⟩
end
end My
namespace My
open PySem L2 U StX PM
/-! ### expressions over maps: new objects alone -/
theorem dEq_di {l l' : List (Int × Int)} {f : PF} (d : DI l f) (d' : DI l' f) : dEq (kvI l) (kvI l') = true := by
  have n1 := nd_of_map _ d.nd
  have n2 := nd_of_map _ d'.nd
  have s1 : ∀ p ∈ l, p ∈ l' := by
    rintro ⟨x, y⟩ hp
    exact d'.mem.mpr (d.mem.mp hp)
  have s2 : ∀ p ∈ l', p ∈ l := by
    rintro ⟨x, y⟩ hp
    exact d.mem.mpr (d'.mem.mp hp)
  have l1 := List.Nodup.length_le_of_subset n1 s1
  have l2 := List.Nodup.length_le_of_subset n2 s2
  unfold dEq
  rw [kvI_length, kvI_length, Bool.and_eq_true]
  refine ⟨by rw [beq_iff_eq]; omega, List.all_eq_true.mpr fun p hp => ?_⟩
  unfold kvI at hp
  obtain ⟨⟨x, y⟩, hm, rfl⟩ := List.mem_map.mp hp
  rw [decide_eq_true_eq, valV_kvI, d'.at_, d.mem.mp hm]
  rfl
/-! ### dict([(x, x) for x in one.arrows]) -/
end My
namespace My
open PySem L2 U StX PM
/-! ### values that are no maps; check_map -/
def nonMapV (H : Hp) : V → Prop
  | .non => True | .bl _ => True | .int _ => True | .str _ => True
  | .ref a => (∃ xs, H a = some (.lst xs)) ∨ (∃ xs, H a = some (.tup xs)) ∨ (∃ kvs, H a = some (.dK kvs))
  | _ => False
def spChkM (C CE : Addr) : Sp := fun vs H Q E => ∃ x, vs = [x] ∧ ((∃ a n f, x = .ref a ∧ IsMap C H a n f ∧ Q .non H) ∨ (nonMapV H x ∧ ∀ d, H d = none → E (.ref CE) (some d) (upd H d (.xd [("part", .str "map")]))))
section
variable {P : Program} {w : World} {K : PySem.W.Frag} {mg : Str → Option Value} {base : Heap}
theorem ok_ini_InvalidMap (T : Txt K mg) : FnR P w K mg base CX0 1 T.f_InvalidMap__init (spIni1 T.C_InvalidMap "part") := by
  refine T.A_InvalidMap__init.ok sc_InvalidMap__init (fun vs H Q E h => ?_) (fun cdv A outer s H vs Q E hr h => ?_)
  · obtain ⟨a, v, rfl, _⟩ := h
    rfl
  · obtain ⟨a, v, rfl, ha, q⟩ := h
    refine ⟨_, pss_one (ps_ostG (pv 0) (pv 1)), ?_⟩
    exact ⟨_, rfl, _, rfl, a, T.C_InvalidMap, rfl, T.x_InvalidMap, T.na_part_InvalidMap, .inl ⟨ha, fun dx h1 h2 => q dx h1 h2⟩⟩
theorem ty_nonmap (T : Txt K mg) {H : Hp} {x : V} (h : nonMapV H x) : ∃ t, TyX K H x t ∧ PySem.W.kitOne K t (.ref T.C_Map) = some false := by
  cases x with
  | non => exact ⟨_, .base .non, T.kn_NoneType_Map⟩
  | bl b => exact ⟨_, .base (.bl b), T.kn_bool_Map⟩
  | int i => exact ⟨_, .base (.int i), T.kn_int_Map⟩
  | str z => exact ⟨_, .base (.str z), T.kn_str_Map⟩
  | ref a =>
    rcases h with ⟨xs, e⟩ | ⟨xs, e⟩ | ⟨xs, e⟩
    · exact ⟨_, .base (.lst e), T.kn_list_Map⟩
    · exact ⟨_, .base (.tup e), T.kn_tuple_Map⟩
    · exact ⟨_, .base (.dK e), T.kn_dict_Map⟩
  | byt b => exact h.elim
  | flt b => exact h.elim
  | ty b => exact h.elim
theorem ok_check_map (T : Txt K mg) : FnR P w K mg base (L2.CX P w) 3 T.f_check_map (spChkM T.C_Map T.C_InvalidMap) := by
  refine T.A_check_map.okX sc_check_map (fun vs H Q E h => ?_) (fun cdv A outer s H vs Q E hr h => ?_)
  · obtain ⟨x, rfl, _⟩ := h
    rfl
  · obtain ⟨x, rfl, hx⟩ := h
    refine ⟨_, pss_one (ps_if (pt_not (pt_val (pe_callB call_isi (by rfl) T.n_isinstance (by decide +kernel) (pa_cons (pv 0) (pa_cons (pe_glob (v := .ref T.C_Map) rfl T.g_Map rfl) pa_nil)))))
      (pss_one (ps_raise rfl (takes_of rfl rfl rfl rfl) (pmk_oexG T.x_InvalidMap T.m_InvalidMap__init T.ti_InvalidMap__init (ok_ini_InvalidMap T) (hr.mono (by decide)) pass0 rfl T.g_InvalidMap (pa_cons pe_str pa_nil)))) pss_nil), ?_⟩
    rcases hx with ⟨a, n, f, rfl, hm, q⟩ | ⟨hx, q⟩
    · obtain ⟨dx, fs, h1⟩ := at_map hm
      exact ⟨_, rfl, _, _, _, _, true, rfl, .own _, tyx_ins T.o_Map h1, T.self_Map, _, rfl, iteF q⟩
    · obtain ⟨t, ht, hk⟩ := ty_nonmap T hx
      exact ⟨_, rfl, _, _, _, _, false, rfl, .own _, ht, hk, _, rfl, iteT (mk_one fun d hd => q d hd)⟩
end
/-! ### lists of rows -/
def RowsAt (H : Hp) : List Addr → List (List Int) → Prop
  | [], [] => True
  | a :: as, r :: rs => H a = some (.lst (r.map V.int)) ∧ RowsAt H as rs
  | _, _ => False
theorem RowsAt.len {H : Hp} : ∀ {as : List Addr} {rs : List (List Int)}, RowsAt H as rs → as.length = rs.length
  | [], [], _ => rfl
  | _ :: as, _ :: rs, h => by rw [List.length_cons, List.length_cons, RowsAt.len h.2]
  | [], _ :: _, h => h.elim
  | _ :: _, [], h => h.elim
theorem RowsAt.map {H H' : Hp} : ∀ {as : List Addr} {rs : List (List Int)}, RowsAt H as rs → (∀ a ∈ as, ∀ xs, H a = some (.lst xs) → H' a = some (.lst xs)) → RowsAt H' as rs
  | [], [], _, _ => trivial
  | _ :: as, _ :: rs, h, k => ⟨k _ List.mem_cons_self _ h.1, RowsAt.map h.2 fun a ha => k a (List.mem_cons_of_mem _ ha)⟩
  | [], _ :: _, h, _ => h.elim
  | _ :: _, [], h, _ => h.elim
theorem RowsAt.same {H H' : Hp} {as : List Addr} {rs : List (List Int)} (h : RowsAt H as rs) (s : Same H H') : RowsAt H' as rs := h.map fun a _ xs e => s a _ e
theorem RowsAt.off {H : Hp} {as : List Addr} {rs : List (List Int)} {p : Addr} {o : HO} (h : RowsAt H as rs) (n : p ∉ as) : RowsAt (upd H p o) as rs := h.map fun a ha xs e => by
  have hne : a ≠ p := fun z => n (z ▸ ha)
  rw [upd_ne hne]; exact e
theorem RowsAt.snoc {H : Hp} {a : Addr} {r : List Int} : ∀ {as : List Addr} {rs : List (List Int)}, RowsAt H as rs → H a = some (.lst (r.map V.int)) → RowsAt H (as ++ [a]) (rs ++ [r])
  | [], [], _, e => ⟨e, trivial⟩
  | _ :: as, _ :: rs, h, e => ⟨h.1, RowsAt.snoc h.2 e⟩
  | [], _ :: _, h, _ => h.elim
  | _ :: _, [], h, _ => h.elim
theorem RowsAt.get {H : Hp} : ∀ {as : List Addr} {rs : List (List Int)}, RowsAt H as rs → ∀ (i : Nat) (a : Addr), as[i]? = some a → ∃ r, rs[i]? = some r ∧ H a = some (.lst (r.map V.int))
  | [], [], _, i, a, e => by simp at e
  | b :: as, r :: rs, h, 0, a, e => by cases e; exact ⟨r, rfl, h.1⟩
  | _ :: as, _ :: rs, h, i + 1, a, e => RowsAt.get h.2 i a e
  | [], _ :: _, h, _, _, _ => h.elim
  | _ :: _, [], h, _, _, _ => h.elim
theorem RowsAt.mem {H : Hp} {as : List Addr} {rs : List (List Int)} (h : RowsAt H as rs) {a : Addr} (ha : a ∈ as) : ∃ r ∈ rs, H a = some (.lst (r.map V.int)) := by
  obtain ⟨i, hi⟩ := List.mem_iff_getElem?.mp ha
  obtain ⟨r, e1, e2⟩ := h.get i a hi
  exact ⟨r, List.mem_of_getElem? e1, e2⟩
def dInts (r : List Int) : PyData := .list (r.map PyData.int)
theorem dp_ints {K : PySem.W.Frag} {H : Hp} : ∀ (r : List Int), DpAll K H (r.map V.int) (r.map PyData.int)
  | [] => .nil
  | x :: r => .cons (.int x) (dp_ints r)
/-- {x: True for x in xs}, a list of unlike ints -/
theorem dc_ints {K : PySem.W.Frag} {te : TE} {i : Nat} {tt : TT} {tk tv : TE} {vs : List Nat} {σ : L2.St} {H0 H : Hp} {Q : VK} {a : Addr} {xs : List Int} (hte : ∀ R : VK, R (.ref a) H → te σ H0 R) (ha : H a = some (.lst (xs.map V.int)))
    (hw : ∀ a, wipe ((wipe σ vs).set i a) vs = wipe σ vs)
    (ht : ∀ (y : Int) (H1 : Hp) (R : Bool → Hp → Prop), R true H1 → tt ((wipe σ vs).set i (some (.int y))) H1 R) (hk : ∀ (y : Int) (H1 : Hp) (R : VK), R (.int y) H1 → tk ((wipe σ vs).set i (some (.int y))) H1 R) (hv : ∀ (y : Int) (H1 : Hp) (R : VK), R (.bl true) H1 → tv ((wipe σ vs).set i (some (.int y))) H1 R)
    (nd : xs.Nodup) (hz : xs.length < sizeLine)
    (hq : ∀ D H', H D = none → H' D = some (.dK (kvB xs)) → L2.Same H H' → Q (.ref D) H') :
    tDc (iList K te) (gName i) tt tk tv vs σ H0 Q := by
  refine hte _ ⟨a, rfl, ⟨_, SqL.of ha⟩, fun D hD => ?_⟩
  have hDa : D ≠ a := fun e => by rw [e, ha] at hD; cases hD
  refine dc_it (walk_list (xs := xs.map V.int)) (fun k H' => L2.Same H H' ∧ H' D = some (.dK (kvB (xs.take k)))) ⟨Same.new hD, upd_same⟩ (fun k H' _ p => SqL.of (p.1 _ _ ha)) ?_ ?_
  · rintro k v H' H'' hk1 ⟨p1, p2⟩ ⟨rfl, ev⟩
    rw [List.length_map] at hk1
    obtain ⟨y, ey⟩ : ∃ y, xs[k]? = some y := ⟨_, List.getElem?_eq_getElem hk1⟩
    have ev' : v = .int y := by
      have := get_map ey
      rw [this] at ev
      exact (Option.some.inj ev).symm
    subst ev'
    refine ⟨hw _, ?_⟩
    refine ht y _ _ (iteT (hk y _ _ (hv y _ _ ⟨_, Sum.inl y, rfl, p2, ?_, ?_, ?_⟩)))
    · refine Nat.lt_of_le_of_lt ?_ hz
      unfold kvB
      rw [List.length_map, List.length_take]
      omega
    · exact Same.put p1 hD
    · have nin : y ∉ xs.take k := by
        intro hm
        have e2 : xs = xs.take k ++ xs.drop k := (List.take_append_drop k xs).symm
        rw [e2, List.nodup_append] at nd
        refine nd.2.2 y hm y (List.mem_iff_getElem?.mpr ⟨0, ?_⟩) rfl
        rw [List.getElem?_drop]
        exact ey
      rw [upd_same, putK_new _ (valV_none fun z => nin (kvB_key.mp z)), take_more ey]
      unfold kvB
      rw [List.map_append]
      rfl
  · rintro H' ⟨p1, p2⟩
    rw [List.length_map, List.take_length] at p2
    exact hq D _ hD p2 p1
/-- one dict of marks merged into another -/
theorem kvB_merge : ∀ (xs sl : List Int), ∃ sl', mergeK (kvB sl) (kvB xs) = kvB sl' ∧ (∀ z, z ∈ sl' ↔ z ∈ sl ∨ z ∈ xs) ∧ (sl.Nodup → sl'.Nodup)
  | [], sl => ⟨sl, rfl, fun z => by simp, id⟩
  | x :: xs, sl => by
    obtain ⟨s1, e1, m1, n1⟩ := kvB_put sl x
    obtain ⟨s2, e2, m2, n2⟩ := kvB_merge xs s1
    refine ⟨s2, ?_, fun z => ?_, fun nd => n2 (n1 nd)⟩
    · show mergeK (putK (kvB sl) (Sum.inl x) (V.bl true)) (kvB xs) = _
      rw [e1, e2]
    · rw [m2, m1, List.mem_cons]
      constructor
      · rintro ((h | h) | h)
        · exact .inl h
        · exact .inr (.inl h)
        · exact .inr (.inr h)
      · rintro (h | h | h)
        · exact .inl (.inl h)
        · exact .inl (.inr h)
        · exact .inr h
theorem kvB_len (sl : List Int) : (kvB sl).length = sl.length := by simp [kvB]
end My
namespace My
open PySem L2 U StX PM
section
variable {P : Program} {w : World} {K : PySem.W.Frag} {mg : Str → Option Value} {base : Heap}
theorem upd_upd {H : Hp} {p : Addr} {o o' : HO} : upd (upd H p o) p o' = upd H p o' := by
  funext b
  by_cases h : b = p
  · subst h; rw [upd_same, upd_same]
  · rw [upd_ne h, upd_ne h, upd_ne h]
theorem tgt_tab {n : Int} {f : PF} (wf : WF n f) (x : Int) : (valV (tgt (tab n f)) (Sum.inl x : Key)).isSome = !nonT n f x := by
  rw [tgt_val]
  cases h : nonT n f x with
  | true =>
    have := (nonT_iff wf).mp h
    refine decide_eq_false fun hm => ?_
    obtain ⟨⟨a, b⟩, hp, rfl⟩ := List.mem_map.mp hm
    exact this a ((mem_tab wf).mp hp)
  | false =>
    refine decide_eq_true ?_
    unfold nonT at h
    cases e : inv n f x with
    | none => rw [e] at h; cases h
    | some y => exact List.mem_map.mpr ⟨(y, x), (mem_tab wf).mpr ((inv_iff wf).mp e), rfl⟩
/-- {t: True for t in e.values()}, e a dict just made -/
theorem dc_valsF {l : List (Int × Int)} {te : TE} {i : Nat} {tt : TT} {tk tv : TE} {vs : List Nat} {σ : L2.St} {H0 H : Hp} {Q : VK}
    (hte : ∀ R : VK, (∀ d od, H d = none → R (.ref d) (upd H d (.frz od (.dK (kvI l))))) → te σ H0 R)
    (hw : ∀ a, wipe ((wipe σ vs).set i a) vs = wipe σ vs)
    (ht : ∀ (y : Int) (H1 : Hp) (R : Bool → Hp → Prop), R true H1 → tt ((wipe σ vs).set i (some (.int y))) H1 R) (hk : ∀ (y : Int) (H1 : Hp) (R : VK), R (.int y) H1 → tk ((wipe σ vs).set i (some (.int y))) H1 R) (hv : ∀ (y : Int) (H1 : Hp) (R : VK), R (.bl true) H1 → tv ((wipe σ vs).set i (some (.int y))) H1 R)
    (nd : (l.map (·.2)).Nodup) (hz : l.length < sizeLine)
    (hq : ∀ D H', H D = none → H' D = some (.dK (tgt l)) → L2.Same H H' → Q (.ref D) H') :
    tDc (iVals te) (gName i) tt tk tv vs σ H0 Q := by
  refine hte _ fun d od hd => ⟨d, od, kvI l, rfl, upd_same, fun D hD => ?_⟩
  have hDd : D ≠ d := fun e => by rw [e, upd_same] at hD; cases hD
  have hD0 : H D = none := by rw [upd_ne hDd] at hD; exact hD
  refine dc_it walk_values (fun k H' => H' d = some (.frz od (.dK (kvI l))) ∧ L2.Same H H' ∧ H' D = some (.dK (tgt (l.take k)))) ⟨?_, Same.put (Same.new hd) hD0, upd_same⟩ (fun k H' _ p => p.1) ?_ ?_
  · rw [upd_ne hDd.symm]; exact upd_same
  · rintro k v H' H'' hk1 ⟨p1, p2, p3⟩ ⟨rfl, kk, e1⟩
    obtain ⟨x, y, exy, rfl, rfl⟩ := kvI_get e1
    refine ⟨hw _, ?_⟩
    refine ht y _ _ ?_
    refine iteT ?_
    refine hk _ _ _ (hv _ _ _ ⟨_, Sum.inl y, rfl, p3, Nat.lt_of_le_of_lt (tgt_len ..) hz, ?_⟩)
    refine ⟨?_, Same.put p2 hD0, ?_⟩
    · rw [upd_ne hDd.symm]; exact p1
    · have nin : y ∉ (l.take k).map (·.2) := by
        intro hm
        have e2 : l.map (·.2) = (l.take k).map (·.2) ++ (l.drop k).map (·.2) := by rw [← List.map_append, List.take_append_drop]
        rw [e2, List.nodup_append] at nd
        refine nd.2.2 _ hm y (List.mem_map.mpr ⟨(x, y), ?_, rfl⟩) rfl
        refine List.mem_iff_getElem?.mpr ⟨0, ?_⟩
        rw [List.getElem?_drop]
        exact exy
      rw [upd_same, putK_new _ (valV_none fun z => nin (tgt_key.mp z)), take_more exy]
      unfold tgt
      rw [List.map_append]
      rfl
  · rintro H' ⟨p1, p2, p3⟩
    rw [kvI_length, List.take_length] at p3
    exact hq D _ hD0 p3 p2
structure Prt (n : Int) (f : PF) (H H' : Hp) (lh se : Addr) (ex : List Addr) (b : List Int) (hs : List Addr) (sl : List Int) (st : List Int) : Prop where
  sm : Same H H'
  l : H' lh = some (.lst (hs.map V.ref))
  s : H' se = some (.dK (kvB sl))
  r : RowsAt H' hs (st.map (rowN f))
  m : ∀ x, x ∈ sl ↔ x ∈ seenL f (b ++ st)
  nd : sl.Nodup
  nw : ∀ a ∈ hs, H a = none ∧ a ≠ lh ∧ a ≠ se ∧ a ∉ ex
theorem Prt.slen {n : Int} {f : PF} {H H' : Hp} {lh se : Addr} {ex hs : List Addr} {b sl st : List Int} (wf : WF n f) (p : Prt n f H H' lh se ex b hs sl st) (h : ∀ e ∈ b ++ st, 0 ≤ e ∧ e < n) : sl.length ≤ n.toNat := by
  refine len_range p.nd fun x hx => ?_
  obtain ⟨e, he, hm⟩ := mem_seenL.mp ((p.m x).mp hx)
  have := h e he
  exact (rowN_is wf this.1 this.2).dom wf this.1 this.2 x hm
/-- one row more, from a new list r, its marks merged -/
theorem Prt.more {n : Int} {f : PF} {H H1 H2 H3 : Hp} {lh se : Addr} {ex hs : List Addr} {b sl sl' st : List Int} {e : Int} {r : Addr} (p : Prt n f H H1 lh se ex b hs sl st) (hl0 : H lh = none) (hs0 : H se = none) (nls : lh ≠ se) (hex : ∀ a ∈ ex, H1 a ≠ none)
    (hr : H1 r = none) (s2 : Same H1 H2) (hr2 : H2 r = some (.lst ((rowN f e).map V.int))) (m1 : ∀ z, z ∈ sl' ↔ z ∈ sl ∨ z ∈ rowN f e) (n1 : sl.Nodup → sl'.Nodup) (s3 : Same (upd H2 lh (.lst (hs.map V.ref ++ [.ref r]))) H3) :
    Prt n f H (upd H3 se (.dK (kvB sl'))) lh se ex b (hs ++ [r]) sl' (st ++ [e]) := by
  have rl : r ≠ lh := fun z => by rw [z, p.l] at hr; cases hr
  have rs : r ≠ se := fun z => by rw [z, p.s] at hr; cases hr
  have r0 : H r = none := p.sm.free hr
  have rx : r ∉ ex := fun z => hex r z hr
  refine ⟨?_, ?_, upd_same, ?_, ?_, n1 p.nd, ?_⟩
  · refine Same.put ?_ hs0
    exact (Same.put (p.sm.trans s2) hl0).trans s3
  · rw [upd_ne nls, s3 _ _ upd_same, List.map_append]
    rfl
  · rw [List.map_append]
    refine RowsAt.snoc ?_ ?_
    · have h1 := (p.r.same s2).off (p := lh) (o := .lst (hs.map V.ref ++ [.ref r])) (fun z => (p.nw lh z).2.1 rfl)
      exact (h1.same s3).off fun z => (p.nw se z).2.2.1 rfl
    · rw [upd_ne rs]
      exact s3 _ _ (by rw [upd_ne rl]; exact hr2)
  · intro x
    rw [m1, p.m, mem_seenL, mem_seenL]
    constructor
    · rintro (⟨e', h1, h2⟩ | h)
      · exact ⟨e', by rw [← List.append_assoc]; exact List.mem_append_left _ h1, h2⟩
      · exact ⟨e, by simp, h⟩
    · rintro ⟨e', h1, h2⟩
      rw [← List.append_assoc] at h1
      rcases List.mem_append.mp h1 with h1 | h1
      · exact .inl ⟨e', h1, h2⟩
      · rw [List.mem_singleton] at h1
        subst h1
        exact .inr h2
  · intro a ha
    rcases List.mem_append.mp ha with ha | ha
    · exact p.nw a ha
    · rw [List.mem_singleton] at ha
      subst ha
      exact ⟨r0, rl, rs, rx⟩
def spParts (C : Addr) : Sp := fun vs H Q _ => ∃ a n f, vs = [.ref a] ∧ IsMap C H a n f ∧ ∀ t lc lh cs hs H', Same H H' → H' t = some (.tup [.ref lc, .ref lh]) → H' lc = some (.lst (cs.map V.ref)) → H' lh = some (.lst (hs.map V.ref)) →
  RowsAt H' cs ((cycS n f).map (rowN f)) → RowsAt H' hs ((nons n f).map (rowN f)) → H lc = none → H lh = none → lc ≠ lh → (∀ a ∈ cs, H a = none ∧ a ≠ lc ∧ a ≠ lh) → (∀ a ∈ hs, H a = none ∧ a ≠ lc ∧ a ≠ lh) → Q (.ref t) H'
theorem ok_parts_of (T : Txt K mg) : FnR P w K mg base CX0 3 T.f_parts_of (spParts T.C_Map) := by
  refine T.A_parts_of.ok sc_parts_of (fun vs H Q E h => ?_) (fun cdv A outer s H vs Q E hr h => ?_)
  · obtain ⟨a, n, f, rfl, _⟩ := h
    rfl
  · obtain ⟨a, n, f, rfl, hm, q⟩ := h
    have hu := hu_of hr
    refine ⟨_, pss_cons (ps_par (i := 1) (j := 2) rfl sc_parts_of.nd rfl rfl (by decide) rfl rfl (pa_cons (pe_propR (pv 0) T.o_Map.cl T.P_Map_arrows (ok_arrows T) (hr.mono (by decide)))
          (pa_cons (pe_dc (own := [("target", 7)]) (g := gName 7) (tt := tYes) rfl sc_parts_of.nd (pi_values (pe_frz (pe_propR (pv 0) T.o_Map.cl T.P_Map_arrows (ok_arrows T) (hr.mono (by decide)))))
            (blkOk_by (own := [("target", 7)]) (N := n_parts_of) (sc := defScope s_parts_of) (by decide +kernel))
            (fun _ _ _ _ _ => pg_name (i := 7) sc_parts_of.nd rfl (Or.inl rfl)) (fun _ _ _ _ _ => pts_nil) (fun _ _ _ _ _ => pv 7) (fun _ _ _ _ _ => pe_bl)) pa_nil)) (by rfl))
      (pss_cons (ps_par3 (i := 3) (j := 4) (l := 5) rfl sc_parts_of.nd rfl rfl rfl (by decide) (by decide) (by decide) rfl rfl rfl (pa_cons (pe_lst pa_nil) (pa_cons (pe_lst pa_nil) (pa_cons pe_dnewK pa_nil))) (by rfl))
      (pss_cons (ps_for PassesOwn.never rfl (pi_range1 rfl T.n_range (pa_cons (pe_propR (pv 0) T.o_Map.cl T.P_Map_size (ok_size T) (hr.mono (by decide))) pa_nil)) (pg_name (i := 6) sc_parts_of.nd rfl (Or.inl rfl))
        (pss_one (ps_if (pt_cmp (pc_dnotin hu (pv 6) (pv 2)))
          (pss_cons (ps_expr (pe_bm PySem.F.plainAttrs_list PySem.F.slot_list_append PySem.F.type_list_append mt_append (pv 4) (pa_cons (pe_callR (ok_row_from T) (hr.mono (by decide)) T.A_row_from.kp rfl T.g_row_from pass0 (pa_cons (pv 1) (pa_cons (pv 6) pa_nil))) pa_nil)))
          (pss_one (ps_expr (pe_bm PySem.F.plainAttrs_dict PySem.F.slot_dict_update PySem.F.type_dict_update mt_updD (pv 5) (pa_cons (pe_dc (own := [("one", 8)]) (g := gName 8) (tt := tYes) rfl sc_parts_of.nd (pi_list (pe_ix ix_list (pv 4) (pe_un un_neg pe_int) (fun _ _ => rfl)))
            (blkOk_by (own := [("one", 8)]) (N := n_parts_of) (sc := defScope s_parts_of) (by decide +kernel))
            (fun _ _ _ _ _ => pg_name (i := 8) sc_parts_of.nd rfl (Or.inl rfl)) (fun _ _ _ _ _ => pts_nil) (fun _ _ _ _ _ => pv 8) (fun _ _ _ _ _ => pe_bl)) pa_nil))))) pss_nil)))
      (pss_cons (ps_for PassesOwn.never rfl (pi_range1 rfl T.n_range (pa_cons (pe_propR (pv 0) T.o_Map.cl T.P_Map_size (ok_size T) (hr.mono (by decide))) pa_nil)) (pg_name (i := 6) sc_parts_of.nd rfl (Or.inl rfl))
        (pss_one (ps_if (pt_cmp (pc_dnotin hu (pv 6) (pv 5)))
          (pss_cons (ps_expr (pe_bm PySem.F.plainAttrs_list PySem.F.slot_list_append PySem.F.type_list_append mt_append (pv 3) (pa_cons (pe_callR (ok_row_from T) (hr.mono (by decide)) T.A_row_from.kp rfl T.g_row_from pass0 (pa_cons (pv 1) (pa_cons (pv 6) pa_nil))) pa_nil)))
          (pss_one (ps_expr (pe_bm PySem.F.plainAttrs_dict PySem.F.slot_dict_update PySem.F.type_dict_update mt_updD (pv 5) (pa_cons (pe_dc (own := [("one", 8)]) (g := gName 8) (tt := tYes) rfl sc_parts_of.nd (pi_list (pe_ix ix_list (pv 3) (pe_un un_neg pe_int) (fun _ _ => rfl)))
            (blkOk_by (own := [("one", 8)]) (N := n_parts_of) (sc := defScope s_parts_of) (by decide +kernel))
            (fun _ _ _ _ _ => pg_name (i := 8) sc_parts_of.nd rfl (Or.inl rfl)) (fun _ _ _ _ _ => pts_nil) (fun _ _ _ _ _ => pv 8) (fun _ _ _ _ _ => pe_bl)) pa_nil))))) pss_nil)))
      (pss_one (ps_ret (pe_tup (pa_cons (pv 3) (pa_cons (pv 4) pa_nil)))))))), ?_⟩
    obtain ⟨dx, fs, h1⟩ := at_map hm
    have wf := hm.wf
    have hn3 := hm.hi
    have hn1 := hm.lo
    have tl := tab_len n f
    refine ⟨_, rfl, a, dx, fs, rfl, h1, a, n, f, rfl, hm, fun d hd => ?_⟩
    have s1 : Same H (upd H d (.dK (kvI (tab n f)))) := Same.new hd
    refine dc_valsF (H := upd H d (.dK (kvI (tab n f)))) (l := tab n f) (fun R r => ?_) (fun _ => rfl) (fun _ _ _ r => r) (fun _ _ _ r => ⟨_, rfl, r⟩) (fun _ _ _ r => r) (vals_tab wf) (small1000 (by omega)) (fun tg H2 ntg htg s2 => ?_)
    · refine ⟨_, rfl, a, dx, fs, rfl, s1 _ _ h1, a, n, f, rfl, hm.same s1, fun p hp => ⟨p, _, rfl, upd_same, trivial, fun od => ?_⟩⟩
      rw [upd_upd]
      exact r p od hp
    refine ⟨_, _, rfl, ?_⟩
    have s12 := s1.trans s2
    have hd2 : H2 d = some (.dK (kvI (tab n f))) := s2 _ _ upd_same
    refine ⟨(by show 0 ≤ sizeLine; decide), fun lc hlc => ⟨(by show 0 ≤ sizeLine; decide), fun lh hlh => fun se hse => ⟨_, _, _, rfl, ?_⟩⟩⟩
    have nlc : lc ≠ lh := ne_of_none upd_same hlh
    have ncs : lc ≠ se := ne_of_none (by rw [upd_ne nlc]; exact upd_same) hse
    have nhs : lh ≠ se := ne_of_none upd_same hse
    have s3 : Same H2 (upd (upd (upd H2 lc (.lst [])) lh (.lst [])) se (.dK [])) := ((Same.new hlc).trans (Same.new hlh)).trans (Same.new hse)
    have hlh2 : H2 lh = none := (Same.new hlc).free hlh
    have hse2 : H2 se = none := ((Same.new hlc).trans (Same.new hlh)).free hse
    refine ⟨_, rfl, a, dx, fs, rfl, (s12.trans s3) _ _ h1, a, n, f, rfl, hm.same (s12.trans s3), n, rfl, by omega, by omega, ?_⟩
    refine for_it (walk_range (lo := 0) (n := n.toNat)) (fun i σ H' => ∃ v6 v7 v8 hs sl, σ = [some (.ref a), some (.ref d), some (.ref tg), some (.ref lc), some (.ref lh), some (.ref se), v6, v7, v8] ∧ H' lc = some (.lst []) ∧ Prt n f H2 H' lh se [lc] [] hs sl ((rgI i).filter (nonT n f)))
      ⟨none, none, none, [], [], rfl, ?_, s3, ?_, upd_same, trivial, fun x => ?_, List.nodup_nil, fun a h => nomatch h⟩ (fun _ _ _ _ _ => trivial) ?_ ?_
    · rw [upd_ne ncs, upd_ne nlc, upd_same]
    · rw [upd_ne nhs, upd_same]; rfl
    · exact ⟨fun h => (nomatch h), fun h => (nomatch h)⟩
    · rintro i v σ H' H'' hi ⟨v6, v7, v8, hs, sl, rfl, c1, p⟩ ⟨rfl, rfl⟩
      have x0 : (0 : Int) ≤ 0 + (i : Nat) := by omega
      have x1 : (0 : Int) + (i : Nat) < n := by omega
      refine ⟨_, rfl, _, rfl, tg, _, rfl, DGet.k (k := Sum.inl (0 + (i : Nat) : Int)) (p.sm _ _ htg), _, rfl, ?_⟩
      rw [tgt_tab wf]
      have hst : ∀ e ∈ [] ++ (rgI i).filter (nonT n f), 0 ≤ e ∧ e < n := fun e he => by
        have := mem_rgI.mp (List.mem_filter.mp he).1
        omega
      have hsl := p.slen wf hst
      have hlen := p.r.len
      rw [List.length_map] at hlen
      have hfl : ((rgI i).filter (nonT n f)).length ≤ i := Nat.le_trans (List.length_filter_le _ _) (by simp [rgI])
      refine ifNB (fun hc => ?_) (fun hc => ?_)
      · have hnt : nonT n f (0 + (i : Nat)) = true := by simpa using hc
        refine ⟨_, rfl, .inl ⟨rfl, _, SqL.of p.l⟩, _, rfl, _, rfl, d, tab n f, n, f, 0 + (i : Nat), rfl, p.sm _ _ hd2, di_tab wf, wf, hn3, x0, x1, fun r H3 pre z hr0 sr hr2 row ho => ?_⟩
        have hrow : IsRow f (0 + (i : Nat)) (pre ++ [z]) := ⟨pre, z, rfl, row, ho⟩
        rw [← rowN_eq hrow] at hr2
        refine ⟨lh, _, .ref r, rfl, rfl, sr _ _ p.l, ?_, ?_⟩
        · rw [List.length_map]; exact small1000 (by omega)
        have rl : r ≠ lh := fun z => by rw [z, p.l] at hr0; cases hr0
        have rs : r ≠ se := fun z => by rw [z, p.s] at hr0; cases hr0
        have hs4 : (upd H3 lh (.lst (hs.map V.ref ++ [.ref r]))) se = some (.dK (kvB sl)) := by rw [upd_ne nhs.symm]; exact sr _ _ p.s
        have nrow := (rowN_is wf x0 x1).nd wf
        have drow := (rowN_is wf x0 x1).dom wf x0 x1
        have lrow := len_range nrow drow
        refine ⟨_, rfl, .inr (.inr (.inl ⟨rfl, .inl ⟨_, hs4⟩⟩)), ?_⟩
        refine dc_ints (a := r) (xs := rowN f (0 + (i : Nat))) (H := upd H3 lh (.lst (hs.map V.ref ++ [.ref r]))) (fun R rr => ?_) (by rw [upd_ne rl]; exact hr2) (fun _ => rfl) (fun _ _ _ r => r) (fun _ _ _ r => ⟨_, rfl, r⟩) (fun _ _ _ r => r) nrow (small1000 (by omega)) (fun D H5 nD hD s5 => ?_)
        · exact ⟨_, rfl, 1, rfl, lh, _, -1, _, rfl, rfl, SqL.of upd_same, atI_last _ _, rr⟩
        obtain ⟨sl', em, m1, n1⟩ := kvB_merge (rowN f (0 + (i : Nat))) sl
        refine ⟨se, D, _, _, rfl, rfl, ?_, s5 _ _ hs4, hD, ?_, ?_⟩
        · exact ne_of_none hs4 nD
        · rw [kvB_len, kvB_len]; exact Nat.le_trans (by omega : _ ≤ 1000) (by decide)
        rw [em]
        have pm := p.more hlh2 hse2 nhs (fun a ha => by rw [List.mem_singleton] at ha; rw [ha, c1]; simp) hr0 sr hr2 m1 n1 s5
        refine ⟨_, _, _, hs ++ [r], sl', rfl, ?_, ?_⟩
        · rw [upd_ne ncs]; exact s5 _ _ (by rw [upd_ne nlc]; exact sr _ _ c1)
        · rw [rgI_succ, List.filter_append, List.filter_cons_of_pos (by rw [Int.zero_add] at hnt; exact hnt), List.filter_nil]
          rw [Int.zero_add] at pm
          exact pm
      · have hnt : nonT n f ((i : Nat) : Int) = false := by rw [Int.zero_add] at hc; simpa using hc
        refine ⟨_, _, _, hs, sl, rfl, c1, ?_⟩
        rw [rgI_succ, List.filter_append, List.filter_cons_of_neg (by rw [hnt]; exact Bool.false_ne_true), List.filter_nil, List.append_nil]
        exact p
    · rintro σ H3 ⟨v6, v7, v8, hs, sl, rfl, c1, p⟩
      have s13 : Same H H3 := s12.trans p.sm
      refine ⟨_, rfl, a, dx, fs, rfl, s13 _ _ h1, a, n, f, rfl, hm.same s13, n, rfl, by omega, by omega, ?_⟩
      refine for_it (walk_range (lo := 0) (n := n.toNat)) (fun i σ H' => ∃ v6 v7 v8 cs sl st, σ = [some (.ref a), some (.ref d), some (.ref tg), some (.ref lc), some (.ref lh), some (.ref se), v6, v7, v8] ∧ Prt n f H2 H' lc se [lh] (nons n f) cs sl st ∧ selL f (nons n f) (rgI i) = nons n f ++ st ∧ H' lh = some (.lst (hs.map V.ref)) ∧ RowsAt H' hs ((nons n f).map (rowN f)))
        ⟨_, _, _, [], sl, [], rfl, ⟨p.sm, c1, p.s, trivial, fun x => ?_, p.nd, fun a h => nomatch h⟩, by simp [selL, rgI], p.l, p.r⟩ (fun _ _ _ _ _ => trivial) ?_ ?_
      · rw [List.append_nil]; exact p.m x
      · rintro i v σ H' H'' hi ⟨v6, v7, v8, cs, sl, st, rfl, p', est, e1, e2⟩ ⟨rfl, rfl⟩
        have x0 : (0 : Int) ≤ 0 + (i : Nat) := by omega
        have x1 : (0 : Int) + (i : Nat) < n := by omega
        obtain ⟨c, ec, hc1, hc2⟩ := selL_sub f (rgI i) (nons n f)
        rw [est] at ec
        have ec := List.append_cancel_left ec
        subst ec
        have hst : ∀ e ∈ nons n f ++ st, 0 ≤ e ∧ e < n := fun e he => by
          rcases List.mem_append.mp he with he | he
          · have := nons_dom he
            exact ⟨this.1, this.2.1⟩
          · have := mem_rgI.mp (hc1.subset he)
            omega
        have hsl := p'.slen wf hst
        have hlen := p'.r.len
        rw [List.length_map] at hlen
        have hfl : st.length ≤ i := Nat.le_trans hc1.length_le (by simp [rgI])
        refine ⟨_, rfl, _, rfl, se, _, rfl, DGet.k (k := Sum.inl (0 + (i : Nat) : Int)) p'.s, _, rfl, ?_⟩
        rw [kvB_val]
        refine ifN (fun hc => ?_) (fun hc => ?_)
        · have hns : ((i : Nat) : Int) ∉ seenL f (nons n f ++ st) := fun h => hc (by rw [Int.zero_add]; exact (p'.m _).mpr h)
          refine ⟨_, rfl, .inl ⟨rfl, _, SqL.of p'.l⟩, _, rfl, _, rfl, d, tab n f, n, f, 0 + (i : Nat), rfl, p'.sm _ _ hd2, di_tab wf, wf, hn3, x0, x1, fun r H3 pre z hr0 sr hr2 row ho => ?_⟩
          have hrow : IsRow f (0 + (i : Nat)) (pre ++ [z]) := ⟨pre, z, rfl, row, ho⟩
          rw [← rowN_eq hrow] at hr2
          refine ⟨lc, _, .ref r, rfl, rfl, sr _ _ p'.l, ?_, ?_⟩
          · rw [List.length_map]; exact small1000 (by omega)
          have rl : r ≠ lc := fun z => by rw [z, p'.l] at hr0; cases hr0
          have hs4 : (upd H3 lc (.lst (cs.map V.ref ++ [.ref r]))) se = some (.dK (kvB sl)) := by rw [upd_ne ncs.symm]; exact sr _ _ p'.s
          have nrow := (rowN_is wf x0 x1).nd wf
          have drow := (rowN_is wf x0 x1).dom wf x0 x1
          have lrow := len_range nrow drow
          refine ⟨_, rfl, .inr (.inr (.inl ⟨rfl, .inl ⟨_, hs4⟩⟩)), ?_⟩
          refine dc_ints (a := r) (xs := rowN f (0 + (i : Nat))) (H := upd H3 lc (.lst (cs.map V.ref ++ [.ref r]))) (fun R rr => ?_) (by rw [upd_ne rl]; exact hr2) (fun _ => rfl) (fun _ _ _ r => r) (fun _ _ _ r => ⟨_, rfl, r⟩) (fun _ _ _ r => r) nrow (small1000 (by omega)) (fun D H5 nD hD s5 => ?_)
          · exact ⟨_, rfl, 1, rfl, lc, _, -1, _, rfl, rfl, SqL.of upd_same, atI_last _ _, rr⟩
          obtain ⟨sl', em, m1, n1⟩ := kvB_merge (rowN f (0 + (i : Nat))) sl
          refine ⟨se, D, _, _, rfl, rfl, ?_, s5 _ _ hs4, hD, ?_, ?_⟩
          · exact ne_of_none hs4 nD
          · rw [kvB_len, kvB_len]; exact Nat.le_trans (by omega : _ ≤ 1000) (by decide)
          rw [em]
          have pm := p'.more hlc hse2 ncs (fun a ha => by rw [List.mem_singleton] at ha; rw [ha, e1]; simp) hr0 sr hr2 m1 n1 s5
          refine ⟨_, _, _, cs ++ [r], sl', st ++ [((i : Nat) : Int)], rfl, ?_, ?_, ?_, ?_⟩
          · rw [Int.zero_add] at pm
            exact pm
          · rw [rgI_succ, selL_one, est]
            unfold stp
            rw [if_neg hns, List.append_assoc]
          · rw [upd_ne nhs]; exact s5 _ _ (by rw [upd_ne nlc.symm]; exact sr _ _ e1)
          · have g1 := (e2.same sr).off (p := lc) (o := .lst (cs.map V.ref ++ [.ref r])) (fun z => (p.nw lc z).2.2.2 (by simp))
            exact (g1.same s5).off fun z => (p.nw se z).2.2.1 rfl
        · have hns : ((i : Nat) : Int) ∈ seenL f (nons n f ++ st) := (p'.m _).mp (by rw [Int.zero_add] at hc; exact hc)
          refine ⟨_, _, _, cs, sl, st, rfl, p', ?_, e1, e2⟩
          rw [rgI_succ, selL_one, est]
          unfold stp
          rw [if_pos hns]
      · rintro σ H4 ⟨v6, v7, v8, cs, sl', st, rfl, p', est, e1, e2⟩
        rw [cycS_eq] at est
        have est := List.append_cancel_left est
        subst est
        refine ⟨_, rfl, _, rfl, (by show 2 ≤ sizeLine; decide), fun t ht => ?_⟩
        have s5 : Same H4 (upd H4 t (.tup [.ref lc, .ref lh])) := Same.new ht
        refine q t lc lh cs hs _ ((s12.trans p'.sm).trans s5) upd_same (s5 _ _ p'.l) (s5 _ _ e1) (p'.r.same s5) (e2.same s5) (s12.free hlc) (s12.free hlh2) nlc (fun a ha => ?_) (fun a ha => ?_)
        · have := p'.nw a ha
          exact ⟨s12.free this.1, this.2.1, by simpa using this.2.2.2⟩
        · have := p.nw a ha
          exact ⟨s12.free this.1, by simpa using this.2.2.2, this.2.1⟩
/-! ### cycles_of, chains_of -/
end
end My
namespace My
open PySem L2 U StX PM
/-- what holds between a statement and the rest -/
theorem seq_cut {a rest : TS} {D : Ends} {σ : L2.St} {H : Hp} (M : L2.St → Hp → Prop) (h : ∀ nx : L2.St → Hp → Prop, (∀ σ' H', M σ' H' → nx σ' H') → a { D with nx := nx } σ H) (hM : ∀ σ' H', M σ' H' → rest D σ' H') : tSeq a rest D σ H := h _ hM
theorem asg_of {t : TE} {D : Ends} {σ : L2.St} {H : Hp} {i : Nat} (h : t σ H (fun v H' => D.nx (σ.set i (some v)) H')) : tAsg t (gName i) D σ H := h
/-! ### lists of ints: in, comprehensions -/
theorem inV_ints (x : Int) (l : List Int) : inV (.int x) (l.map V.int) = decide (x ∈ l) := by
  unfold inV
  rw [Bool.eq_iff_iff, List.any_eq_true, decide_eq_true_eq]
  constructor
  · rintro ⟨v, hv, e⟩
    obtain ⟨y, hy, rfl⟩ := List.mem_map.mp hv
    have : y = x := by simpa [eqV] using e
    exact this ▸ hy
  · intro h
    exact ⟨.int x, List.mem_map.mpr ⟨x, h, rfl⟩, by simp [eqV]⟩
theorem flat_ints (l : List Int) : (l.map V.int).all flatV = true := by
  rw [List.all_eq_true]
  intro v hv
  obtain ⟨y, _, rfl⟩ := List.mem_map.mp hv
  rfl
/-- [v for x in xs if ..], a list of ints, the tests and parts reading alone -/
theorem lc_ints {K : PySem.W.Frag} {te : TE} {i : Nat} {tt : TT} {tv : TE} {vs : List Nat} {σ : L2.St} {H0 H : Hp} {Q : VK} {a : Addr} {xs : List Int} (c : Int → Bool) (vf : Int → V) (hte : ∀ R : VK, R (.ref a) H → te σ H0 R) (ha : H a = some (.lst (xs.map V.int)))
    (hw : ∀ a, wipe ((wipe σ vs).set i a) vs = wipe σ vs)
    (hb : ∀ (x : Int), x ∈ xs → ∀ (H1 : Hp), L2.Same H H1 → (∀ R : Bool → Hp → Prop, R (c x) H1 → tt ((wipe σ vs).set i (some (.int x))) H1 R) ∧ (c x = true → ∀ R : VK, R (vf x) H1 → tv ((wipe σ vs).set i (some (.int x))) H1 R))
    (hz : xs.length < sizeLine)
    (hq : ∀ D H', H D = none → H' D = some (.lst ((xs.filter c).map vf)) → L2.Same H H' → Q (.ref D) H') :
    tLc (iList K te) (gName i) tt tv vs σ H0 Q := by
  refine hte _ ⟨a, rfl, ⟨_, SqL.of ha⟩, fun D hD => ?_⟩
  refine lc_it (walk_list (xs := xs.map V.int)) (fun k H' => L2.Same H H' ∧ H' D = some (.lst (((xs.take k).filter c).map vf))) ⟨Same.new hD, upd_same⟩ (fun k H' _ p => SqL.of (p.1 _ _ ha)) ?_ ?_
  · rintro k v H' H'' hk1 ⟨p1, p2⟩ ⟨rfl, ev⟩
    rw [List.length_map] at hk1
    obtain ⟨y, ey⟩ : ∃ y, xs[k]? = some y := ⟨_, List.getElem?_eq_getElem hk1⟩
    have ev' : v = .int y := by
      have := get_map ey
      rw [this] at ev
      exact (Option.some.inj ev).symm
    subst ev'
    refine ⟨hw _, ?_⟩
    obtain ⟨b1, b2⟩ := hb y (List.mem_of_getElem? ey) _ p1
    refine b1 _ ?_
    have st : (xs.take (k + 1)).filter c = (xs.take k).filter c ++ (if c y = true then [y] else []) := by
      rw [take_more ey, List.filter_append]
      by_cases h : c y = true
      · simp [h]
      · have h' : c y = false := by simpa using h
        simp [h']
    cases hc : c y with
    | true =>
      refine iteT (b2 hc _ ⟨_, p2, ?_, Same.put p1 hD, ?_⟩)
      · refine Nat.lt_of_le_of_lt ?_ hz
        rw [List.length_map]
        exact Nat.le_trans (List.length_filter_le _ _) (by rw [List.length_take]; omega)
      · rw [upd_same, st, if_pos hc, List.map_append]
        rfl
    | false =>
      refine iteF ⟨p1, ?_⟩
      rw [st, hc, if_neg Bool.false_ne_true, List.append_nil]
      exact p2
  · rintro H' ⟨p1, p2⟩
    rw [List.length_map, List.take_length] at p2
    exact hq D _ hD p2 p1
/-! ### rows with marks -/
def PairsAt (H : Hp) : List Addr → List Addr → List Bool → Prop
  | [], [], [] => True
  | p :: ps, a :: as, b :: bs => H p = some (.tup [.ref a, .bl b]) ∧ PairsAt H ps as bs
  | _, _, _ => False
theorem PairsAt.map {H H' : Hp} : ∀ {ps as : List Addr} {bs : List Bool}, PairsAt H ps as bs → (∀ p ∈ ps, ∀ xs, H p = some (.tup xs) → H' p = some (.tup xs)) → PairsAt H' ps as bs
  | [], [], [], _, _ => trivial
  | _ :: ps, _ :: as, _ :: bs, h, k => ⟨k _ List.mem_cons_self _ h.1, PairsAt.map h.2 fun a ha => k a (List.mem_cons_of_mem _ ha)⟩
  | [], [], _ :: _, h, _ => h.elim
  | [], _ :: _, _, h, _ => h.elim
  | _ :: _, [], _, h, _ => h.elim
  | _ :: _, _ :: _, [], h, _ => h.elim
theorem PairsAt.same {H H' : Hp} {ps as : List Addr} {bs : List Bool} (h : PairsAt H ps as bs) (s : Same H H') : PairsAt H' ps as bs := h.map fun a _ xs e => s a _ e
theorem PairsAt.off {H : Hp} {ps as : List Addr} {bs : List Bool} {q : Addr} {o u : HO} (h : PairsAt H ps as bs) (hq : H q = some u) (nt : ∀ xs, u ≠ .tup xs) : PairsAt (upd H q o) ps as bs := h.map fun a ha xs e => by
  have hne : a ≠ q := fun z => by subst z; rw [hq] at e; exact nt _ (Option.some.inj e)
  rw [upd_ne hne]; exact e
theorem PairsAt.snoc {H : Hp} {p a : Addr} {b : Bool} : ∀ {ps as : List Addr} {bs : List Bool}, PairsAt H ps as bs → H p = some (.tup [.ref a, .bl b]) → PairsAt H (ps ++ [p]) (as ++ [a]) (bs ++ [b])
  | [], [], [], _, e => ⟨e, trivial⟩
  | _ :: ps, _ :: as, _ :: bs, h, e => ⟨h.1, PairsAt.snoc h.2 e⟩
  | [], [], _ :: _, h, _ => h.elim
  | [], _ :: _, _, h, _ => h.elim
  | _ :: _, [], _, h, _ => h.elim
  | _ :: _, _ :: _, [], h, _ => h.elim
theorem PairsAt.len {H : Hp} : ∀ {ps as : List Addr} {bs : List Bool}, PairsAt H ps as bs → ps.length = as.length ∧ ps.length = bs.length
  | [], [], [], _ => ⟨rfl, rfl⟩
  | _ :: ps, _ :: as, _ :: bs, h => by
    have := PairsAt.len h.2
    simp [this.1.symm, this.2.symm]
  | [], [], _ :: _, h => h.elim
  | [], _ :: _, _, h => h.elim
  | _ :: _, [], _, h => h.elim
  | _ :: _, _ :: _, [], h => h.elim
theorem PairsAt.get {H : Hp} : ∀ {ps as : List Addr} {bs : List Bool}, PairsAt H ps as bs → ∀ (i : Nat) (p : Addr), ps[i]? = some p → ∃ a b, as[i]? = some a ∧ bs[i]? = some b ∧ H p = some (.tup [.ref a, .bl b])
  | [], [], [], _, i, a, e => by simp at e
  | _ :: ps, a :: as, b :: bs, h, 0, p, e => by cases e; exact ⟨a, b, rfl, rfl, h.1⟩
  | _ :: ps, _ :: as, _ :: bs, h, i + 1, p, e => PairsAt.get h.2 i p e
  | [], [], _ :: _, h, _, _, _ => h.elim
  | [], _ :: _, _, h, _, _, _ => h.elim
  | _ :: _, [], _, h, _, _, _ => h.elim
  | _ :: _, _ :: _, [], h, _, _, _ => h.elim
end My
namespace My
open PySem L2 U StX PM
/-! ### rows by their first elements -/
def RowsZ (f : PF) (H : Hp) (zs : List (Addr × Int)) : Prop := ∀ z ∈ zs, H z.1 = some (.lst ((rowN f z.2).map V.int))
theorem RowsZ.at {f : PF} {H : Hp} : ∀ {zs : List (Addr × Int)}, RowsZ f H zs → RowsAt H (zs.map (·.1)) ((zs.map (·.2)).map (rowN f))
  | [], _ => trivial
  | z :: zs, h => ⟨h z List.mem_cons_self, RowsZ.at fun x hx => h x (List.mem_cons_of_mem _ hx)⟩
/-! ### data that may be compared -/
theorem lay_ints : ∀ (r : List Int), PyData.canLayAll0 (r.map PyData.int) = true ∧ PyData.depthAll (r.map PyData.int) = 0
  | [] => ⟨rfl, rfl⟩
  | x :: r => by
    have := lay_ints r
    constructor
    · show (PyData.canLay0 (.int x) && PyData.canLayAll0 (r.map PyData.int)) = true
      rw [this.1]; rfl
    · show max (PyData.depth (.int x)) (PyData.depthAll (r.map PyData.int)) = 0
      rw [this.2]; rfl
theorem lay_rows : ∀ (rs : List (List Int)), PyData.canLayAll0 (rs.map dInts) = true ∧ PyData.depthAll (rs.map dInts) ≤ 1
  | [] => ⟨rfl, Nat.zero_le _⟩
  | r :: rs => by
    have h1 := lay_ints r
    have h2 := lay_rows rs
    constructor
    · show (PyData.canLay0 (dInts r) && PyData.canLayAll0 (rs.map dInts)) = true
      rw [h2.1, Bool.and_true]
      exact h1.1
    · show max (PyData.depth (dInts r)) (PyData.depthAll (rs.map dInts)) ≤ 1
      have : PyData.depth (dInts r) = 1 := by show PyData.depthAll (r.map PyData.int) + 1 = 1; rw [h1.2]
      omega
theorem shaped_rows (rs : List (List Int)) : SeqAt.shaped (.list (rs.map dInts)) = true := by
  have h := lay_rows rs
  unfold SeqAt.shaped
  have h1 : PyData.canLay0 (.list (rs.map dInts)) = true := h.1
  have h2 : PyData.depth (.list (rs.map dInts)) ≤ 64 := by
    show PyData.depthAll (rs.map dInts) + 1 ≤ 64
    omega
  rw [h1, decide_eq_true h2]
  rfl
end My
namespace My
open PySem L2 U StX PM
theorem SqL.same {K : PySem.W.Frag} {H H' : Hp} {a : Addr} {xs : List V} (h : SqL K H a xs) (s : Same H H') : SqL K H' a xs := by
  rcases h with (h | ⟨o, h⟩) | h
  · exact .inl (.inl (s _ _ h))
  · exact .inl (.inr ⟨o, s _ _ h⟩)
  · exact .inr h
theorem Same.off {H H1 H2 : Hp} {p : Addr} (s : Same H H1) (o : Off p H1 H2) (h : H p = none) : Same H H2 := fun b u e => o b u (ne_of_none e h) (s b u e)
theorem yes_ {σ : L2.St} {H : Hp} {A B : Hp → Prop} (h : A H) : tYes σ H (fun b H3 => if b = true then A H3 else B H3) := by
  show (if true = true then A H else B H)
  rw [if_pos rfl]
  exact h
theorem PoolAt.same {H H' : Hp} {p : Addr} (h : PoolAt H p) (s : Same H H') : PoolAt H' p := by
  obtain ⟨a, b, e, r⟩ := h
  exact ⟨a, b, s _ _ e, r⟩
theorem PoolAt.lst {H : Hp} {p : Addr} (h : PoolAt H p) : ∃ xs, H p = some (.lst xs) := by
  obtain ⟨a, b, e, r⟩ := h
  exact ⟨_, e⟩
theorem PoolAt.ne {H : Hp} {p q : Addr} (h : PoolAt H p) (hq : H q = none) : p ≠ q := by
  obtain ⟨xs, e⟩ := h.lst
  exact ne_of_none e hq
def spLaw (K : PySem.W.Frag) : Sp := fun vs H Q _ => ∃ (a : Addr) (ns : List Int), vs = [.ref a] ∧ SqL K H a (ns.map V.int) ∧ ns.length ≤ 63 ∧ ∀ H', Q (.bl true) H'
theorem IsMap.off {C p : Addr} {H H' : Hp} {m : Addr} {n : Int} {f : PF} (a : IsMap C H m n f) (o : Off p H H') (h : ∃ xs, H p = some (.lst xs)) : IsMap C H' m n f := by
  obtain ⟨⟨dx, D, h1, h2⟩, wf, lo, hi⟩ := a
  obtain ⟨xs, h⟩ := h
  exact ⟨⟨dx, D, o _ _ (fun e => by rw [e, h] at h1; cases h1) h1, o _ _ (fun e => by rw [e, h] at h2; cases h2) h2⟩, wf, lo, hi⟩
/-- Map(n, d) -/
theorem init_of {C : Addr} {H : Hp} {d : Addr} {n : Int} {l : List (Int × Int)} {f : PF} {R : VK} {E : XK} {x dx : Addr} (hd : H d = some (.dK (kvI l))) (di : DI l f) (wf : WF n f) (h1 : 1 ≤ n) (h3 : n ≤ 300) (hl : l.length ≤ 1000)
    (hx : H x = none) (hdx : H dx = none) (ne : dx ≠ x) (q : ∀ H', Same H H' → IsMap C H' x n f → R .non H') :
    spInit C [.ref x, .int n, .ref d] (upd (upd H dx (.own x)) x (.ins C dx [])) R E := by
  have s0 : Same H (upd (upd H dx (.own x)) x (.ins C dx [])) := fun b o e => by
    rw [upd_ne (ne_of_none e hx), upd_ne (ne_of_none e hdx)]
    exact e
  refine ⟨x, dx, d, n, l, f, rfl, upd_same, s0 _ _ hd, di, wf, h1, h3, hl, fun H' D o nD hp hD => ?_⟩
  exact q H' (fun b u e => o b u (ne_of_none e hx) (s0 b u e)) ⟨⟨dx, D, hp, hD⟩, wf, h1, h3⟩
/-- the law's draw, told by the pool alone -/
theorem draw_of {H : Hp} {p : Addr} {n : Int} {Q : VK} {E : XK} (h : PoolAt H p) (n0 : 0 < n) (n1 : n < 1073741824) (k : ∀ r H', 0 ≤ r → r < n → PoolAt H' p → Off p H H' → (∃ xs, H' = upd H p (.lst xs)) → Q (.int r) H') : spDraw [.ref p, .int n] H Q E := by
  obtain ⟨a, b, e, ha, hb, hc⟩ := h
  exact ⟨p, a, b, n, rfl, e, ha, hb, hc, n0, n1, fun a' b' r h1 h2 h3 h4 h5 => k r _ h4 h5 ⟨a', b', upd_same, h1, h2, h3⟩ Off.lock ⟨_, rfl⟩⟩
end My
namespace My
open PySem L2 U StX PM
theorem paired_at {α β : Type} {R : α → β → Prop} {xs : List α} {ys : List β} (h : Paired R xs ys) {i : Nat} {x : α} (e : xs[i]? = some x) : ∃ y, ys[i]? = some y ∧ R x y := by
  induction h generalizing i with
  | nil => cases e
  | cons r _ ih =>
    cases i with
    | zero => cases e; exact ⟨_, rfl, r⟩
    | succ i => exact ih e
theorem paired_len {α β : Type} {R : α → β → Prop} {xs : List α} {ys : List β} (h : Paired R xs ys) : xs.length = ys.length := by
  induction h with
  | nil => rfl
  | cons _ _ ih => rw [List.length_cons, List.length_cons, ih]
theorem PoolAt.put {H : Hp} {p q : Addr} {o : HO} (h : PoolAt H p) (n : p ≠ q) : PoolAt (upd H q o) p := by
  obtain ⟨a, b, e, r⟩ := h
  exact ⟨a, b, by rw [upd_ne n]; exact e, r⟩
theorem paired_snoc {α β : Type} {R : α → β → Prop} {xs : List α} {ys : List β} (h : Paired R xs ys) {x : α} {y : β} (r : R x y) : Paired R (xs ++ [x]) (ys ++ [y]) := by
  induction h with
  | nil => exact .cons r .nil
  | cons a _ ih => exact .cons a ih
theorem draw_R {i : Nat} {tb : TE} {σ : L2.St} {H : Hp} {Q : VK} {p : Addr} {n : Int} (hi : σ[i]? = some (some (.ref p))) (hb : ∀ R : VK, R (.int n) H → tb σ H R) (h : PoolAt H p) (n0 : 0 < n) (n1 : n < 1073741824)
    (k : ∀ r H', 0 ≤ r → r < n → PoolAt H' p → Off p H H' → Q (.int r) H') : tCallR spDraw E0 (tCons (tVar i) (tCons tb tNil)) σ H Q :=
  ⟨_, hi, hb _ (draw_of (E := E0) h n0 n1 fun r H' h1 h2 h3 h4 _ => k r H' h1 h2 h3 h4)⟩
theorem cut1 (v0 : V) (r : List V) : cutV (v0 :: r) (some 1) none = r ∧ ¬ (HT.sIx (v0 :: r).length 0 (some 1) = 0 ∧ HT.sIx (v0 :: r).length (v0 :: r).length none = (v0 :: r).length) := by
  have h : HT.sIx (v0 :: r).length 0 (some 1) = 1 := by
    show (if (1 : Int) < 0 then ((1 : Int) + (((v0 :: r).length : Nat) : Int)).toNat else min (1 : Int).toNat (v0 :: r).length) = 1
    rw [if_neg (by decide), List.length_cons]
    show min 1 _ = 1
    omega
  constructor
  · unfold cutV
    rw [h, HT.sIx_none]
    show r.take ((v0 :: r).length - 1) = r
    rw [List.length_cons, Nat.add_sub_cancel, List.take_length]
  · rintro ⟨h1, _⟩
    rw [h] at h1
    cases h1
end My
namespace My
open PySem L2 U StX PM
/-! ### the operators, with maps of unlike sizes -/
def mism (CE : Addr) (n n' : Int) (H : Hp) (E : XK) : Prop := ∀ d, H d = none → E (.ref CE) (some d) (upd H d (.xd [("second", .int n'), ("first", .int n)]))
def spCommonX (C CE : Addr) : Sp := fun vs H Q E => ∃ a b n f n' g, vs = [.ref a, .ref b] ∧ IsMap C H a n f ∧ IsMap C H b n' g ∧ (n ≠ n' → mism CE n n' H E) ∧ (n = n' → Q (.int n) H)
section
variable {P : Program} {w : World} {K : PySem.W.Frag} {mg : Str → Option Value} {base : Heap}
theorem ok_ini_SizeMismatch (T : Txt K mg) : FnR P w K mg base CX0 1 T.f_SizeMismatch__init (spIni2 T.C_SizeMismatch "first" "second") := by
  refine T.A_SizeMismatch__init.ok sc_SizeMismatch__init (fun vs H Q E h => ?_) (fun cdv A outer s H vs Q E hr h => ?_)
  · obtain ⟨a, v, u, rfl, _⟩ := h
    rfl
  · obtain ⟨a, v, u, rfl, ha, q⟩ := h
    refine ⟨_, pss_cons (ps_ostG (pv 0) (pv 1)) (pss_one (ps_ostG (pv 0) (pv 2))), ?_⟩
    refine ⟨_, rfl, _, rfl, a, T.C_SizeMismatch, rfl, T.x_SizeMismatch, T.na_first_SizeMismatch, .inl ⟨ha, fun dx h1 h2 => ?_⟩⟩
    exact ⟨_, rfl, _, rfl, a, T.C_SizeMismatch, rfl, T.x_SizeMismatch, T.na_second_SizeMismatch, .inr ⟨dx, [("first", v)], upd_same, by rw [upd_ne h2, upd_same], (by show 1 ≤ 900; decide), q dx h1 h2⟩⟩
theorem ok_commonX (T : Txt K mg) : FnR P w K mg base (L2.CX P w) 3 T.f_common_size (spCommonX T.C_Map T.C_SizeMismatch) := by
  refine T.A_common_size.okX sc_common_size (fun vs H Q E h => ?_) (fun cdv A outer s H vs Q E hr h => ?_)
  · obtain ⟨a, b, n, f, n', g, rfl, _⟩ := h
    rfl
  · obtain ⟨a, b, n, f, n', g, rfl, ha, hb, qx, q⟩ := h
    refine ⟨_, (pss_cons (ps_if (pt_cmpR op_ne (pe_propR (pv 0) T.o_Map.cl T.P_Map_size (ok_size T) (hr.mono (by decide))) (pe_propR (pv 1) T.o_Map.cl T.P_Map_size (ok_size T) (hr.mono (by decide))) (nomark _))
        (pss_one (ps_raise rfl (takes_of rfl rfl rfl rfl) (pmk_oexG T.x_SizeMismatch T.m_SizeMismatch__init T.ti_SizeMismatch__init (ok_ini_SizeMismatch T) (hr.mono (by decide)) pass0 rfl T.g_SizeMismatch (pa_cons (pe_propR (pv 0) T.o_Map.cl T.P_Map_size (ok_size T) (hr.mono (by decide))) (pa_cons (pe_propR (pv 1) T.o_Map.cl T.P_Map_size (ok_size T) (hr.mono (by decide))) pa_nil))))) pss_nil)
      (pss_one (ps_ret (pe_propR (pv 0) T.o_Map.cl T.P_Map_size (ok_size T) (hr.mono (by decide)))))), ?_⟩
    obtain ⟨dx, fs, h1⟩ := at_map ha
    obtain ⟨dy, gs, h2⟩ := at_map hb
    refine ⟨_, rfl, a, dx, fs, rfl, h1, a, n, f, rfl, ha, _, rfl, b, dy, gs, rfl, h2, b, n', g, rfl, hb, rfl, _, rfl, ?_⟩
    refine ifN (fun hne => ?_) (fun heq => ?_)
    · have hne' : n ≠ n' := fun z => hne (congrArg V.int z)
      refine ⟨_, rfl, a, dx, fs, rfl, h1, a, n, f, rfl, ha, _, rfl, b, dy, gs, rfl, h2, b, n', g, rfl, hb, ?_⟩
      exact mk_two fun d hd => qx hne' d hd
    · exact ⟨_, rfl, a, dx, fs, rfl, h1, a, n, f, rfl, ha, q (V.int.inj heq)⟩
end
end My
namespace My
open PySem L2 U StX PM
theorem nonMapV.same {H H' : Hp} {x : V} (h : nonMapV H x) (s : L2.Same H H') : nonMapV H' x := by
  cases x with
  | ref b =>
    rcases h with ⟨xs, e⟩ | ⟨xs, e⟩ | ⟨xs, e⟩
    · exact .inl ⟨_, s _ _ e⟩
    · exact .inr (.inl ⟨_, s _ _ e⟩)
    · exact .inr (.inr ⟨_, s _ _ e⟩)
  | _ => exact h
end My
namespace My
open PySem L2 U StX PM
/-! ### dict([(a, b) for x, y in d.items() if ..]) -/
theorem _root_.PySem.Paired.map {α β : Type} {R S : α → β → Prop} : ∀ {xs : List α} {ys : List β}, Paired R xs ys → (∀ x ∈ xs, ∀ y, R x y → S x y) → Paired S xs ys
  | _, _, .nil, _ => .nil
  | _, _, .cons h r, k => .cons (k _ List.mem_cons_self _ h) (PySem.Paired.map r fun x hx => k x (List.mem_cons_of_mem _ hx))
theorem madeI_step {c : Int → Int → Bool} {kf vi : Int → Int → Int} {l : List (Int × Int)} {i : Nat} {x y : Int} (h : l[i]? = some (x, y)) :
    madeI c kf vi (l.take (i + 1)) = madeI c kf vi (l.take i) ++ (if c x y = true then [(kf x y, vi x y)] else []) := by
  rw [take_more h]
  unfold madeI
  rw [List.filter_append, List.map_append]
  by_cases hc : c x y = true
  · simp [hc]
  · have hc' : c x y = false := by simpa using hc
    simp [hc']
theorem lc_itemsT {K : PySem.W.Frag} {d : Addr} {l : List (Int × Int)} {te : TE} {i j : Nat} {tt : TT} {tv : TE} {vs : List Nat} {σ : L2.St} {H : Hp} {Q : VK} (c : Int → Int → Bool) (kf vi : Int → Int → Int)
    (hd : H d = some (.dK (kvI l))) (hte : ∀ H' (R : VK), R (.ref d) H' → Off d H H' → te σ H' R)
    (hw : ∀ a b, wipe (((wipe σ vs).set i a).set j b) vs = wipe σ vs)
    (hb : ∀ x y, (x, y) ∈ l → ∀ H1, Off d H H1 → Rd H1 d (.dK (kvI l)) → (∀ R : Bool → Hp → Prop, R (c x y) H1 → tt (((wipe σ vs).set i (some (.int x))).set j (some (.int y))) H1 R) ∧
      (c x y = true → ∀ R : VK, (∀ p, H1 p = none → R (.ref p) (upd H1 p (.tup [.int (kf x y), .int (vi x y)]))) → tv (((wipe σ vs).set i (some (.int x))).set j (some (.int y))) H1 R))
    (hz : l.length < sizeLine)
    (hq : ∀ (D : Addr) (ps : List Addr) (H' : Hp), H D = none → H' D = some (.lst (ps.map V.ref)) → Paired (fun p (kv : Key × V) => H' p = some (.tup [kV kv.1, kv.2])) ps (kvI (madeI c kf vi l)) → L2.Same H H' → Q (.ref D) H') :
    tLockE (tLc (iItems te) (gTup K 2 (gCons (gName i) (gCons (gName j) gNil))) tt tv vs) σ H Q := by
  refine ⟨d, _, hd, trivial, fun od => ?_⟩
  refine hte _ _ ⟨d, od, kvI l, rfl, upd_same, fun D hD => ?_⟩ Off.lock
  have hDd : D ≠ d := fun e => by rw [e, upd_same] at hD; cases hD
  have hD0 : H D = none := by rw [upd_ne hDd] at hD; exact hD
  refine lc_it walk_items (fun k H' => H' d = some (.frz od (.dK (kvI l))) ∧ Off d H H' ∧ ∃ ps : List Addr, H' D = some (.lst (ps.map V.ref)) ∧ ps.length ≤ k ∧ (∀ p ∈ ps, p ≠ D ∧ p ≠ d) ∧ Paired (fun p (kv : Key × V) => H' p = some (.tup [kV kv.1, kv.2])) ps (kvI (madeI c kf vi (l.take k)))) ⟨?_, Off.lock.mut hD0, [], upd_same, Nat.le_refl _, (fun p h => nomatch h), .nil⟩ (fun k H' _ p => p.1) ?_ ?_
  · rw [upd_ne hDd.symm]; exact upd_same
  · rintro k v H' H'' hk ⟨p1, p2, ps, p3, p4, p5, p6⟩ ⟨T, a, b, rfl, hT, rfl, e1, e2⟩
    rw [kvI_length] at hk
    obtain ⟨⟨x, y⟩, exy⟩ : ∃ p, l[k]? = some p := ⟨_, List.getElem?_eq_getElem hk⟩
    have ek : (kvI l)[k]? = some (Sum.inl x, V.int y) := by unfold kvI; rw [List.getElem?_map, exy]; rfl
    dsimp only at e1 e2
    rw [ek] at e1 e2
    cases e1; cases e2
    have nTd : d ≠ T := ne_of_none p1 hT
    have nTD : D ≠ T := ne_of_none p3 hT
    refine ⟨T, [.int x, .int y], rfl, SqT.of upd_same, rfl, .int x, [.int y], rfl, .int y, [], rfl, rfl, ?_⟩
    refine ⟨hw _ _, ?_⟩
    have o2 : Off d H (upd H' T (.tup [.int x, .int y])) := p2.tr (Off.new hT)
    obtain ⟨b1, b2⟩ := hb x y (List.mem_of_getElem? exy) _ o2 (.inr ⟨od, by rw [upd_ne nTd]; exact p1⟩)
    refine b1 _ ?_
    have d3 : (upd H' T (.tup [.int x, .int y])) d = some (.frz od (.dK (kvI l))) := by rw [upd_ne nTd]; exact p1
    have D3 : (upd H' T (.tup [.int x, .int y])) D = some (.lst (ps.map V.ref)) := by rw [upd_ne nTD]; exact p3
    have p6' : Paired (fun p (kv : Key × V) => (upd H' T (.tup [.int x, .int y])) p = some (.tup [kV kv.1, kv.2])) ps (kvI (madeI c kf vi (l.take k))) := p6.map fun p _ kv e => by
      have hne : p ≠ T := ne_of_none e hT
      rw [upd_ne hne]; exact e
    have st := madeI_step (c := c) (kf := kf) (vi := vi) exy
    cases hc : c x y with
    | true =>
      rw [hc, if_pos rfl] at st
      refine iteT (b2 hc _ fun p hp => ⟨_, by rw [upd_ne (ne_of_none D3 hp)]; exact D3, by rw [List.length_map]; omega, ?_⟩)
      have hpD : p ≠ D := (ne_of_none D3 hp).symm
      have hpd : p ≠ d := (ne_of_none d3 hp).symm
      refine ⟨?_, (o2.tr (Off.new hp)).mut hD0, ps ++ [p], ?_, ?_, ?_, ?_⟩
      · rw [upd_ne hDd.symm, upd_ne hpd.symm]; exact d3
      · rw [upd_same, List.map_append]; rfl
      · rw [List.length_append, List.length_singleton]; omega
      · intro q hq
        rcases List.mem_append.mp hq with h | h
        · exact p5 q h
        · rw [List.mem_singleton] at h
          subst h
          exact ⟨hpD, hpd⟩
      · rw [st, show kvI (madeI c kf vi (l.take k) ++ [(kf x y, vi x y)]) = kvI (madeI c kf vi (l.take k)) ++ [(Sum.inl (kf x y), V.int (vi x y))] from by unfold kvI; rw [List.map_append]; rfl]
        refine PySem.Paired.snoc (p6'.map fun q hq kv e => ?_) ?_
        · have hqp : q ≠ p := ne_of_none e hp
          rw [upd_ne (p5 q hq).1, upd_ne hqp]; exact e
        · rw [upd_ne hpD]; exact upd_same
    | false =>
      rw [hc, if_neg Bool.false_ne_true, List.append_nil] at st
      refine iteF ⟨d3, o2, ps, D3, by omega, p5, ?_⟩
      rw [st]
      exact p6'
  · rintro H' ⟨p1, p2, ps, p3, p4, p5, p6⟩
    rw [kvI_length, List.take_length] at p6
    refine ⟨p1, hq D ps _ hD0 ?_ (p6.map fun q hq kv e => ?_) (p2.back hd)⟩
    · rw [upd_ne hDd]
      exact p3
    · rw [upd_ne (p5 q hq).2]; exact e
/-- dict(..) of such a list -/
theorem dictP_of {K : PySem.W.Frag} {H : Hp} {D : Addr} {ps : List Addr} {m : List (Int × Int)} {Q : VK} {g : PF} (hD : H D = some (.lst (ps.map V.ref))) (hp : Paired (fun p (kv : Key × V) => H p = some (.tup [kV kv.1, kv.2])) ps (kvI m)) (di : DI m g)
    (hq : ∀ p l, H p = none → l.length ≤ m.length → DI l g → Q (.ref p) (upd H p (.dK (kvI l)))) :
    ∃ (a : Addr) (ps : List Addr) (kvs : List (Key × V)), [V.ref D] = [.ref a] ∧ SqL K H a (ps.map V.ref) ∧ Paired (fun p kv => SqT K H p [kV kv.1, kv.2]) ps kvs ∧ ∀ p, H p = none → Q (.ref p) (upd H p (.dK (mergeK [] kvs))) := by
  refine ⟨D, ps, _, rfl, SqL.of hD, hp.map fun p _ kv e => SqT.of e, fun p np => ?_⟩
  obtain ⟨l', e', n', d', k'⟩ := merge_lk m [] di.nd
  have e2 : mergeK [] (kvI m) = kvI l' := e'
  rw [e2]
  refine hq p l' np (by simpa using n') ⟨d' (by simp), fun z => ?_⟩
  rw [k', ← di.at_]
  cases lk m z <;> rfl
end My
namespace My
open PySem L2 U StX PM
/-! ### texts of plain signs -/
def OkS (x : Str) : Prop := PyData.strOk x = true
theorem okS_of (s : String) : OkS (Str.ofString s) := by
  unfold OkS PyData.strOk
  rw [Str.ofString_eq_toList, Array.all_eq_true]
  intro i hi
  simp only [List.getElem_toArray, List.getElem_map, decide_eq_true_eq]
  have := (s.toList[i]'(by simpa using hi)).valid
  rcases this with h | h
  · exact Nat.lt_trans h (by decide)
  · exact h.2
end My
namespace My
open PySem L2 U StX PM
/-! ### steps -/
def isTp (H : Hp) : V → Prop | .ref a => ∃ xs, H a = some (.tup xs) | _ => False
def isSt : V → Bool | .str _ => true | _ => false
def nth (xs : List V) (i : Nat) : V := (xs[i]?).getD .non
/-- what is_step says of a tuple -/
def stepB (n : Int) (xs : List V) : Bool :=
  decide (2 ≤ xs.length) && (isSt (nth xs 0) && ((xs.drop 1).all (fun y => inR y 0 (n - 1)) &&
    (if nth xs 0 = .str "swap" then decide (xs.length = 3) && !decide (nth xs 1 = nth xs 2) else decide (nth xs 0 = .str "forget") && decide (xs.length = 2))))
/-- [.. for x in a tuple] -/
theorem lc_tup {K : PySem.W.Frag} {te : TE} {i : Nat} {tv : TE} {vs : List Nat} {σ : L2.St} {H : Hp} {Q : VK} {xs : List V} (vf : V → V) (hte : ∀ R : VK, (∀ a H', H' a = some (.tup xs) → L2.Same H H' → R (.ref a) H') → te σ H R) (hw : ∀ a, wipe ((wipe σ vs).set i a) vs = wipe σ vs)
    (hb : ∀ x ∈ xs, ∀ H1, L2.Same H H1 → ∀ R : VK, R (vf x) H1 → tv ((wipe σ vs).set i (some x)) H1 R) (hz : xs.length < sizeLine)
    (hq : ∀ D H', H D = none → H' D = some (.lst (xs.map vf)) → L2.Same H H' → Q (.ref D) H') : tLc (iTup K te) (gName i) tYes tv vs σ H Q := by
  refine hte _ fun a H0 ha s0 => ⟨a, rfl, ⟨_, SqT.of ha⟩, fun D hD => ?_⟩
  refine lc_it (walk_tup (xs := xs)) (fun k H' => L2.Same H0 H' ∧ H' D = some (.lst ((xs.take k).map vf))) ⟨Same.new hD, upd_same⟩ (fun k H' _ p => SqT.of (p.1 _ _ ha)) ?_ ?_
  · rintro k v H' H'' hk ⟨s1, e1⟩ ⟨rfl, ev⟩
    refine ⟨hw _, yes_ ?_⟩
    refine hb v (List.mem_of_getElem? ev) _ (s0.trans s1) _ ⟨_, e1, ?_, Same.put s1 hD, ?_⟩
    · rw [List.length_map]
      exact Nat.lt_of_le_of_lt (by rw [List.length_take]; omega) hz
    · rw [upd_same, take_more ev, List.map_append]
      rfl
  · rintro H' ⟨s1, e1⟩
    rw [List.take_length] at e1
    exact hq D H' (s0.free hD) e1 (s0.trans s1)
theorem dec_len (l : Nat) (k : Nat) : decide (V.int (l : Int) = V.int (k : Int)) = decide (l = k) := by
  by_cases h : l = k
  · subst h; simp
  · have : ¬ V.int (l : Int) = V.int (k : Int) := fun z => h (by have := V.int.inj z; omega)
    simp [h, this]
theorem ifn_cb {r : List V → Hp → VK → Prop} {t : TE} {A B : TS} {D : Ends} {σ : L2.St} {H : Hp} (h : t σ H fun x H1 => r [x] H1 fun v H2 => ∃ c, v = .bl c ∧ if (!c) = true then A D σ H2 else B D σ H2) : tIfS (tNot (tB (tCB r (tCons t tNil)))) A B D σ H := h
section
variable {P : Program} {w : World} {K : PySem.W.Frag} {mg : Str → Option Value} {base : Heap}
/-- the type of a known value, and what isinstance says of it -/
theorem ty_step (T : Txt K mg) {H : Hp} {x : V} (h : knownV T.C_Map H x) : ∃ t, TyX K H x t ∧ PySem.W.kitOne K t (.type "str") = some (isSt x) ∧ (∃ b, PySem.W.kitOne K t (.type "tuple") = some b ∧ (b = true ↔ isTp H x)) := by
  cases x with
  | non => exact ⟨_, .base .non, kit_ty (r := false) (by decide +kernel), false, kit_ty (r := false) (by decide +kernel), by simp [isTp]⟩
  | bl b => exact ⟨_, .base (.bl b), kit_ty (r := false) (by decide +kernel), false, kit_ty (r := false) (by decide +kernel), by simp [isTp]⟩
  | int i => exact ⟨_, .base (.int i), kit_ty (r := false) (by decide +kernel), false, kit_ty (r := false) (by decide +kernel), by simp [isTp]⟩
  | str z => exact ⟨_, .base (.str z), kit_ty (r := true) (by decide +kernel), false, kit_ty (r := false) (by decide +kernel), by simp [isTp]⟩
  | ref a =>
    rcases h with ⟨xs, e⟩ | ⟨xs, e⟩ | ⟨xs, e⟩ | ⟨dx, fs, e⟩
    · exact ⟨_, .base (.lst e), kit_ty (r := false) (by decide +kernel), false, kit_ty (r := false) (by decide +kernel), by simp [isTp, e]⟩
    · exact ⟨_, .base (.tup e), kit_ty (r := false) (by decide +kernel), true, kit_ty (r := true) (by decide +kernel), by simp [isTp, e]⟩
    · exact ⟨_, .base (.dK e), kit_ty (r := false) (by decide +kernel), false, kit_ty (r := false) (by decide +kernel), by simp [isTp, e]⟩
    · exact ⟨_, tyx_ins T.o_Map e, T.kit_str_Map, false, T.kit_tuple_Map, by simp [isTp, e]⟩
  | byt b => exact h.elim
  | flt b => exact h.elim
  | ty b => exact h.elim
def spStep (C : Addr) : Sp := fun vs H Q _ => ∃ n x, vs = [.int n, x] ∧ knownV C H x ∧ ((¬ isTp H x ∧ Q (.bl false) H) ∨ ∃ a xs, x = .ref a ∧ H a = some (.tup xs) ∧ (∀ y ∈ xs, knownV C H y) ∧ xs.length ≤ 100 ∧ ∀ H', Same H H' → Q (.bl (stepB n xs)) H')
theorem knownV.same {C : Addr} {H H' : Hp} {x : V} (h : knownV C H x) (s : Same H H') : knownV C H' x := by
  cases x with
  | ref a =>
    rcases h with ⟨xs, e⟩ | ⟨xs, e⟩ | ⟨xs, e⟩ | ⟨dx, fs, e⟩
    · exact .inl ⟨_, s _ _ e⟩
    · exact .inr (.inl ⟨_, s _ _ e⟩)
    · exact .inr (.inr (.inl ⟨_, s _ _ e⟩))
    · exact .inr (.inr (.inr ⟨_, _, s _ _ e⟩))
  | _ => exact h
theorem ok_is_step (T : Txt K mg) : FnR P w K mg base CX0 3 T.f_is_step (spStep T.C_Map) := by
  refine T.A_is_step.ok sc_is_step (fun vs H Q E h => ?_) (fun cdv A outer s H vs Q E hr h => ?_)
  · obtain ⟨n, x, rfl, _⟩ := h
    rfl
  · obtain ⟨n, x, rfl, hk, h⟩ := h
    have hu := hu_of hr
    refine ⟨_, (pss_cons (ps_if (PW.pt (pw_or (pt_not (pt_val (pe_callB call_isi (by rfl) T.n_isinstance (by decide +kernel) (pa_cons (pv 1) (pa_cons (pe_bltn (v := .ty "tuple") (u := .type "tuple") (by rfl) T.n_tuple (by decide +kernel) rfl) pa_nil))))) (pw_or (pt_cmpR op_lt (pe_callB call_len_seq (by rfl) T.n_len (by decide +kernel) (pa_cons (pv 1) pa_nil)) pe_int (nomark _)) (pw_or1 (pt_not (pt_val (pe_callB call_isi (by rfl) T.n_isinstance (by decide +kernel) (pa_cons (pe_ix ix_tup (pv 1) pe_int (fun _ _ => rfl)) (pa_cons (pe_bltn (v := .ty "str") (u := .type "str") (by rfl) T.n_str (by decide +kernel) rfl) pa_nil)))))))))
        (pss_one (ps_ret pe_bl)) pss_nil)
      (pss_cons (ps_if (pt_not (pt_val (pe_callB (cr_all rfl) (by rfl) T.n_all (by decide +kernel) (pa_cons (pe_lc (own := [("element", 2)]) (g := (gName 2)) (tt := tYes) rfl sc_is_step.nd (pi_tup (pe_slice sl_tup (pv 1) (po_some pe_int) po_none)) (blkOk_by (own := [("element", 2)]) (N := n_is_step) (sc := defScope s_is_step) (by decide +kernel)) (fun _ _ _ _ _ => (pg_name (i := 2) sc_is_step.nd rfl (Or.inl rfl))) (fun _ _ _ _ _ => pts_nil) (fun _ _ _ _ _ => (pe_callR (ok_in_range T) (hr.mono (by decide)) T.A_in_range.kp rfl T.g_in_range pass0 (pa_cons (pv 2) (pa_cons pe_int (pa_cons (pe_op op_sub (pv 0) pe_int) pa_nil)))))) pa_nil))))
        (pss_one (ps_ret pe_bl)) pss_nil)
      (pss_cons (ps_if (pt_cmpR op_eq (pe_ix ix_tup (pv 1) pe_int (fun _ _ => rfl)) pe_str (nomark _))
        (pss_one (ps_ret (pe_and (pe_cmpR op_eq (pe_callB call_len_seq (by rfl) T.n_len (by decide +kernel) (pa_cons (pv 1) pa_nil)) pe_int (nomark _)) (pe_one (pe_cmpR op_ne (pe_ix ix_tup (pv 1) pe_int (fun _ _ => rfl)) (pe_ix ix_tup (pv 1) pe_int (fun _ _ => rfl)) (nomark _)))))) pss_nil)
      (pss_one (ps_ret (pe_and (pe_cmpR op_eq (pe_ix ix_tup (pv 1) pe_int (fun _ _ => rfl)) pe_str (nomark _)) (pe_one (pe_cmpR op_eq (pe_callB call_len_seq (by rfl) T.n_len (by decide +kernel) (pa_cons (pv 1) pa_nil)) pe_int (nomark _))))))))), ?_⟩
    obtain ⟨t, ht, _, b, hb, hbi⟩ := ty_step T hk
    rcases h with ⟨hn, q⟩ | ⟨a, xs, rfl, hx, hel, hlen, q⟩
    · have : b = false := by
        cases b with
        | false => rfl
        | true => exact absurd (hbi.mp rfl) hn
      subst this
      exact ⟨_, rfl, x, _, t, _, _, rfl, .ty _, ht, hb, _, rfl, iteT (iteT q)⟩
    have : b = true := hbi.mpr ⟨xs, hx⟩
    subst this
    refine ⟨_, rfl, _, _, t, _, _, rfl, .ty _, ht, hb, _, rfl, iteF ?_⟩
    match xs, hx, hel, hlen, q with
    | [], hx, hel, hlen, q => exact ⟨_, rfl, a, [], rfl, .inr (SqT.of hx), _, _, rfl, rfl, _, rfl, iteT (iteT (q H (Same.refl _)))⟩
    | [v0], hx, hel, hlen, q => exact ⟨_, rfl, a, [v0], rfl, .inr (SqT.of hx), _, _, rfl, rfl, _, rfl, iteT (iteT (q H (Same.refl _)))⟩
    | v0 :: v1 :: rest, hx, hel, hlen, q =>
      refine ⟨_, rfl, a, _, rfl, .inr (SqT.of hx), _, _, rfl, rfl, _, rfl, ?_⟩
      have h2 : decide ((((v0 :: v1 :: rest).length : Nat) : Int) < 2) = false := decide_eq_false (by rw [List.length_cons, List.length_cons]; omega)
      rw [h2]
      refine iteF ?_
      obtain ⟨t0, ht0, hs0, _⟩ := ty_step T (hel v0 List.mem_cons_self)
      refine ⟨_, rfl, a, _, 0, v0, rfl, rfl, SqT.of hx, atI_nat (j := 0) rfl, v0, _, t0, _, _, rfl, .ty _, ht0, hs0, _, rfl, ?_⟩
      cases hst : isSt v0 with
      | false =>
        have e : stepB n (v0 :: v1 :: rest) = false := by
          unfold stepB
          rw [show nth (v0 :: v1 :: rest) 0 = v0 from rfl, hst, Bool.false_and, Bool.and_false]
        rw [e] at q
        exact iteT (q H (Same.refl _))
      | true =>
        refine iteF ?_
        dsimp only [tNext, tSeq]
        refine ifn_cb ?_
        obtain ⟨c1, c2⟩ := cut1 v0 (v1 :: rest)
        refine lc_tup (xs := v1 :: rest) (fun y => .bl (inR y 0 (n - 1))) (fun R rr => ⟨_, rfl, 1, rfl, a, _, rfl, SqT.of hx, c2, fun p hp => rr p _ (by rw [upd_same, c1]) (Same.new hp)⟩) (fun _ => rfl) (fun y hy H1 s1 R rr => ⟨_, rfl, _, rfl, _, _, rfl, rfl, y, 0, n - 1, rfl, (hel y (List.mem_cons_of_mem _ hy)).same s1, rr⟩) (small1000 (by simp only [List.length_cons] at hlen ⊢; omega)) (fun D H1 nD hD s1 => ?_)
        refine ⟨D, (v1 :: rest).map fun y => inR y 0 (n - 1), rfl, SqL.of (by rw [List.map_map]; exact hD), _, rfl, ?_⟩
        have hx1 := s1 _ _ hx
        have eall : (((v1 :: rest).map fun y => inR y 0 (n - 1)).all id) = ((v0 :: v1 :: rest).drop 1).all (fun y => inR y 0 (n - 1)) := by
          rw [List.all_map]; rfl
        rw [eall]
        have qs := q H1 s1
        unfold stepB at qs
        rw [show nth (v0 :: v1 :: rest) 0 = v0 from rfl, hst, Bool.true_and, decide_eq_true (show 2 ≤ (v0 :: v1 :: rest).length by rw [List.length_cons, List.length_cons]; omega), Bool.true_and] at qs
        cases hall : ((v0 :: v1 :: rest).drop 1).all (fun y => inR y 0 (n - 1)) with
        | false =>
          rw [hall, Bool.false_and] at qs
          exact iteT qs
        | true =>
          rw [hall, Bool.true_and] at qs
          refine iteF ?_
          obtain ⟨z, rfl⟩ : ∃ z, v0 = .str z := by
            cases v0 with
            | str z => exact ⟨z, rfl⟩
            | _ => cases hst
          refine ⟨_, rfl, a, _, 0, .str z, rfl, rfl, SqT.of hx1, atI_nat (j := 0) rfl, rfl, _, rfl, ?_⟩
          by_cases hz : V.str z = V.str "swap"
          · rw [if_pos hz] at qs
            rw [decide_eq_true hz]
            refine iteT ⟨_, rfl, a, _, rfl, .inr (SqT.of hx1), rfl, _, rfl, ?_⟩
            rw [show decide (V.int (((V.str z :: v1 :: rest).length : Nat) : Int) = V.int 3) = decide ((V.str z :: v1 :: rest).length = 3) from dec_len _ 3]
            cases hl3 : decide ((V.str z :: v1 :: rest).length = 3) with
            | false =>
              rw [hl3, Bool.false_and] at qs
              exact iteF qs
            | true =>
              rw [hl3, Bool.true_and] at qs
              have e3 := of_decide_eq_true hl3
              match rest, e3, hall, qs, hx1 with
              | [v2], _, hall, qs, hx1 =>
                obtain ⟨i1, rfl⟩ : ∃ i, v1 = .int i := by
                  simp only [List.drop_succ_cons, List.drop_zero, List.all_cons, Bool.and_eq_true] at hall
                  cases v1 with
                  | int i => exact ⟨i, rfl⟩
                  | _ => exact absurd hall.1 Bool.false_ne_true
                obtain ⟨i2, rfl⟩ : ∃ i, v2 = .int i := by
                  simp only [List.drop_succ_cons, List.drop_zero, List.all_cons, Bool.and_eq_true] at hall
                  cases v2 with
                  | int i => exact ⟨i, rfl⟩
                  | _ => exact absurd hall.2.1 Bool.false_ne_true
                exact iteT ⟨_, rfl, a, _, 1, .int i1, rfl, rfl, SqT.of hx1, rfl, _, rfl, a, _, 2, .int i2, rfl, rfl, SqT.of hx1, rfl, rfl, qs⟩
          · rw [if_neg hz] at qs
            rw [decide_eq_false hz]
            refine iteF ⟨_, rfl, a, _, 0, .str z, rfl, rfl, SqT.of hx1, atI_nat (j := 0) rfl, rfl, _, rfl, ?_⟩
            cases hf : decide (V.str z = V.str "forget") with
            | false =>
              rw [hf, Bool.false_and] at qs
              exact iteF qs
            | true =>
              rw [hf, Bool.true_and] at qs
              refine iteT ⟨_, rfl, a, _, rfl, .inr (SqT.of hx1), rfl, ?_⟩
              rw [show decide (V.int (((V.str z :: v1 :: rest).length : Nat) : Int) = V.int 2) = decide ((V.str z :: v1 :: rest).length = 2) from dec_len _ 2]
              exact qs
end
end My
namespace My
open PySem L2 U StX PM
def isLs (H : Hp) : V → Prop | .ref a => ∃ xs, H a = some (.lst xs) | _ => False
/-- what is_step says of a value -/
def StB (C : Addr) (n : Int) (H : Hp) (y : V) (b : Bool) : Prop := knownV C H y ∧ ((¬ isTp H y ∧ b = false) ∨ ∃ a xs, y = .ref a ∧ H a = some (.tup xs) ∧ (∀ z ∈ xs, knownV C H z) ∧ xs.length ≤ 100 ∧ b = stepB n xs)
theorem StB.same {C : Addr} {n : Int} {H H' : Hp} {y : V} {b : Bool} (h : StB C n H y b) (s : Same H H') : StB C n H' y b := by
  obtain ⟨hk, h⟩ := h
  refine ⟨hk.same s, ?_⟩
  rcases h with ⟨hn, e⟩ | ⟨a, xs, rfl, ha, hz, hl, e⟩
  · left
    refine ⟨?_, e⟩
    cases y with
    | ref a =>
      rcases hk with ⟨ys, e1⟩ | ⟨ys, e1⟩ | ⟨ys, e1⟩ | ⟨dx, fs, e1⟩
      · rintro ⟨zs, e2⟩
        rw [s _ _ e1] at e2; cases e2
      · exact absurd ⟨ys, e1⟩ hn
      · rintro ⟨zs, e2⟩
        rw [s _ _ e1] at e2; cases e2
      · rintro ⟨zs, e2⟩
        rw [s _ _ e1] at e2; cases e2
    | _ => exact id
  · exact .inr ⟨a, xs, rfl, s _ _ ha, fun z hz' => (hz z hz').same s, hl, e⟩
section
variable {P : Program} {w : World} {K : PySem.W.Frag} {mg : Str → Option Value} {base : Heap}
theorem ty_ls (T : Txt K mg) {H : Hp} {x : V} (h : knownV T.C_Map H x) : ∃ t, TyX K H x t ∧ ∃ b, PySem.W.kitOne K t (.type "list") = some b ∧ (b = true ↔ isLs H x) := by
  cases x with
  | non => exact ⟨_, .base .non, false, kit_ty (r := false) (by decide +kernel), by simp [isLs]⟩
  | bl b => exact ⟨_, .base (.bl b), false, kit_ty (r := false) (by decide +kernel), by simp [isLs]⟩
  | int i => exact ⟨_, .base (.int i), false, kit_ty (r := false) (by decide +kernel), by simp [isLs]⟩
  | str z => exact ⟨_, .base (.str z), false, kit_ty (r := false) (by decide +kernel), by simp [isLs]⟩
  | ref a =>
    rcases h with ⟨xs, e⟩ | ⟨xs, e⟩ | ⟨xs, e⟩ | ⟨dx, fs, e⟩
    · exact ⟨_, .base (.lst e), true, kit_ty (r := true) (by decide +kernel), by simp [isLs, e]⟩
    · exact ⟨_, .base (.tup e), false, kit_ty (r := false) (by decide +kernel), by simp [isLs, e]⟩
    · exact ⟨_, .base (.dK e), false, kit_ty (r := false) (by decide +kernel), by simp [isLs, e]⟩
    · exact ⟨_, tyx_ins T.o_Map e, false, T.kit_list_Map, by simp [isLs, e]⟩
  | byt b => exact h.elim
  | flt b => exact h.elim
  | ty b => exact h.elim
def spFI (C : Addr) : Sp := fun vs H Q _ => ∃ n x, vs = [.int n, x] ∧ knownV C H x ∧ ((¬ isLs H x ∧ ∀ t H', Same H H' → H' t = some (.tup [.non]) → Q (.ref t) H') ∨
  ∃ a ys k, x = .ref a ∧ H a = some (.lst ys) ∧ k ≤ ys.length ∧ (∀ i y, i < k → ys[i]? = some y → StB C n H y true) ∧
    ((k = ys.length ∧ ∀ H', Same H H' → Q .non H') ∨ ∃ y, ys[k]? = some y ∧ StB C n H y false ∧ ∀ t H', Same H H' → H' t = some (.tup [.int (k : Int)]) → Q (.ref t) H'))
theorem ok_first_invalid (T : Txt K mg) : FnR P w K mg base CX0 4 T.f_first_invalid (spFI T.C_Map) := by
  refine T.A_first_invalid.ok sc_first_invalid (fun vs H Q E h => ?_) (fun cdv A outer s H vs Q E hr h => ?_)
  · obtain ⟨n, x, rfl, _⟩ := h
    rfl
  · obtain ⟨n, x, rfl, hk, h⟩ := h
    refine ⟨_, (pss_cons (ps_if (pt_not (pt_val (pe_callB call_isi (by rfl) T.n_isinstance (by decide +kernel) (pa_cons (pv 1) (pa_cons (pe_bltn (v := .ty "list") (u := .type "list") (by rfl) T.n_list (by decide +kernel) rfl) pa_nil)))))
        (pss_one (ps_ret (pe_tup (pa_cons pe_non pa_nil)))) pss_nil)
      (pss_cons (ps_for PassesOwn.never rfl (pi_enum rfl T.n_enumerate (pa_cons (pv 1) pa_nil)) (pg_tup rfl (pgs_cons (pg_name (i := 2) sc_first_invalid.nd rfl (Or.inl rfl)) (pgs_cons (pg_name (i := 3) sc_first_invalid.nd rfl (Or.inl rfl)) pgs_nil)))
        (pss_one (ps_if (pt_not (pt_val (pe_callR (ok_is_step T) (hr.mono (by decide)) T.A_is_step.kp rfl T.g_is_step pass0 (pa_cons (pv 0) (pa_cons (pv 3) pa_nil)))))
        (pss_one (ps_ret (pe_tup (pa_cons (pv 2) pa_nil)))) pss_nil)))
      (pss_one (ps_ret pe_non)))), ?_⟩
    obtain ⟨t, ht, b, hb, hbi⟩ := ty_ls T hk
    rcases h with ⟨hn, q⟩ | ⟨a, ys, k, rfl, hx, hkl, hok, h⟩
    · have : b = false := by
        cases b with
        | false => rfl
        | true => exact absurd (hbi.mp rfl) hn
      subst this
      exact ⟨_, rfl, x, _, t, _, _, rfl, .ty _, ht, hb, _, rfl, iteT ⟨(by show 1 ≤ sizeLine; decide), fun p hp => q p _ (Same.new hp) upd_same⟩⟩
    have : b = true := hbi.mpr ⟨ys, hx⟩
    subst this
    refine ⟨_, rfl, _, _, t, _, _, rfl, .ty _, ht, hb, _, rfl, iteF ?_⟩
    refine ⟨_, rfl, a, ys, rfl, SqL.of hx, ?_⟩
    refine for_it (walk_enum (xs := ys)) (fun i σ H' => i ≤ k ∧ ∃ v2 v3, σ = [some (.int n), some (.ref a), v2, v3] ∧ Same H H')
      ⟨Nat.zero_le _, none, none, rfl, Same.refl _⟩ (fun i σ H' _ ⟨_, _, _, _, z⟩ => SqL.of (z _ _ hx)) ?_ ?_
    · rintro i v σ H' H'' hi ⟨hik, v2, v3, rfl, s1⟩ ⟨U, p, y, rfl, hU, rfl, e1, e2⟩
      cases e1
      replace e2 : ys[i]? = some y := e2
      have s2 := s1.trans (Same.new (o := .tup [.int (i : Nat), y]) hU)
      refine ⟨U, _, rfl, SqT.of upd_same, rfl, _, [_], rfl, _, [], rfl, rfl, ?_⟩
      have stp : ∀ b, StB T.C_Map n H y b → ∀ (R : VK) H1, Same H H1 → (∀ H2, Same H1 H2 → R (.bl b) H2) → spStep T.C_Map [.int n, y] H1 R E0 := fun b hb R H1 sx rr => by
        obtain ⟨hk1, h1⟩ := hb.same sx
        refine ⟨n, y, rfl, hk1, ?_⟩
        rcases h1 with ⟨hn, rfl⟩ | ⟨c, xs, rfl, hc, hz, hl, rfl⟩
        · exact .inl ⟨hn, rr _ (Same.refl _)⟩
        · exact .inr ⟨c, xs, rfl, hc, hz, hl, fun H2 s2 => rr H2 s2⟩
      by_cases hlt : i < k
      · refine ⟨_, rfl, _, rfl, ?_⟩
        dsimp only [tNil]
        refine stp true (hok i y hlt e2) _ _ s2 fun H2 s3 => ⟨_, rfl, iteF ?_⟩
        exact ⟨hlt, _, _, rfl, s2.trans s3⟩
      · have hik' : i = k := by omega
        subst hik'
        rcases h with ⟨hkk, _⟩ | ⟨y', ey, hy, q⟩
        · rw [hkk] at hi; omega
        rw [ey] at e2
        cases e2
        refine ⟨_, rfl, _, rfl, ?_⟩
        dsimp only [tNil]
        refine stp false hy _ _ s2 fun H2 s3 => ⟨_, rfl, iteT ⟨_, rfl, (by show 1 ≤ sizeLine; decide), fun t ht => ?_⟩⟩
        exact q t _ ((s2.trans s3).trans (Same.new ht)) upd_same
    · rintro σ H' ⟨hik, v2, v3, rfl, s1⟩
      rcases h with ⟨hkk, q⟩ | ⟨y', ey, hy, q⟩
      · exact q _ s1
      · have := (List.getElem?_eq_some_iff.mp ey).1
        omega
end
end My
namespace My
open PySem L2 U StX PM
/-! ### steps, plain -/
inductive Stp
  | sw (a b : Int)
  | fg (a : Int)
def Stp.vs : Stp → List V
  | .sw a b => [.str "swap", .int a, .int b]
  | .fg a => [.str "forget", .int a]
def Stp.ok (n : Int) : Stp → Prop
  | .sw a b => 0 ≤ a ∧ a < n ∧ 0 ≤ b ∧ b < n ∧ a ≠ b
  | .fg a => 0 ≤ a ∧ a < n
def stp1 (f : PF) : Stp → PF
  | .sw a b => fun x => (f x).map fun y => if y = a then b else if y = b then a else y
  | .fg a => fun x => if x = a then none else f x
def stps (f : PF) (l : List Stp) : PF := l.foldl stp1 f
theorem sw_iff {f : PF} {a b x z : Int} (h : a ≠ b) : stp1 f (.sw a b) x = some z ↔ (z = b ∧ f x = some a) ∨ (z = a ∧ f x = some b) ∨ (z ≠ a ∧ z ≠ b ∧ f x = some z) := by
  show ((f x).map fun y => if y = a then b else if y = b then a else y) = some z ↔ _
  cases e : f x with
  | none => simp
  | some y =>
    rw [Option.map_some, Option.some.injEq]
    by_cases h1 : y = a
    · subst h1
      rw [if_pos rfl]
      constructor
      · rintro rfl; exact .inl ⟨rfl, rfl⟩
      · rintro (⟨rfl, _⟩ | ⟨rfl, h2⟩ | ⟨h2, _, h3⟩)
        · rfl
        · cases h2; exact absurd rfl h
        · cases h3; exact absurd rfl h2
    · rw [if_neg h1]
      by_cases h2 : y = b
      · subst h2
        rw [if_pos rfl]
        constructor
        · rintro rfl; exact .inr (.inl ⟨rfl, rfl⟩)
        · rintro (⟨rfl, h3⟩ | ⟨rfl, _⟩ | ⟨_, h2, h3⟩)
          · cases h3; exact absurd rfl h
          · rfl
          · cases h3; exact absurd rfl h2
      · rw [if_neg h2]
        constructor
        · rintro rfl; exact .inr (.inr ⟨h1, h2, rfl⟩)
        · rintro (⟨rfl, h3⟩ | ⟨rfl, h3⟩ | ⟨_, _, h3⟩)
          · cases h3; exact absurd rfl h1
          · cases h3; exact absurd rfl h2
          · cases h3; rfl
theorem fg_iff {f : PF} {a x z : Int} : stp1 f (.fg a) x = some z ↔ x ≠ a ∧ f x = some z := by
  show (if x = a then none else f x) = some z ↔ _
  by_cases h : x = a
  · rw [if_pos h]; simp [h]
  · rw [if_neg h]; simp [h]
theorem wf_stp1 {n : Int} {f : PF} (w : WF n f) {s : Stp} (h : s.ok n) : WF n (stp1 f s) := by
  cases s with
  | fg a =>
    exact ⟨fun x y e => w.dom x y (fg_iff.mp e).2, fun x x' y e e' => w.inj x x' y (fg_iff.mp e).2 (fg_iff.mp e').2⟩
  | sw a b =>
    obtain ⟨h1, h2, h3, h4, h5⟩ := h
    refine ⟨fun x y e => ?_, fun x x' y e e' => ?_⟩
    · rcases (sw_iff h5).mp e with ⟨q, k⟩ | ⟨q, k⟩ | ⟨_, _, k⟩
      · have := w.dom x _ k; rw [q]; exact ⟨this.1, this.2.1, h3, h4⟩
      · have := w.dom x _ k; rw [q]; exact ⟨this.1, this.2.1, h1, h2⟩
      · exact w.dom x _ k
    · rcases (sw_iff h5).mp e with ⟨q, k⟩ | ⟨q, k⟩ | ⟨g1, g2, k⟩ <;> rcases (sw_iff h5).mp e' with ⟨q', k'⟩ | ⟨q', k'⟩ | ⟨g1', g2', k'⟩
      · exact w.inj _ _ _ k k'
      · exact absurd (q'.symm.trans q) h5
      · exact absurd q g2'
      · exact absurd (q.symm.trans q') h5
      · exact w.inj _ _ _ k k'
      · exact absurd q g1'
      · exact absurd q' g2
      · exact absurd q' g1
      · exact w.inj _ _ _ k k'
theorem wf_stps {n : Int} {l : List Stp} : ∀ {f : PF}, WF n f → (∀ s ∈ l, Stp.ok n s) → WF n (stps f l) := by
  induction l with
  | nil => intro f w _; exact w
  | cons s l ih => intro f w h; exact ih (wf_stp1 w (h s List.mem_cons_self)) fun t ht => h t (List.mem_cons_of_mem _ ht)
theorem stps_snoc (f : PF) (l : List Stp) (s : Stp) : stps f (l ++ [s]) = stp1 (stps f l) s := by
  unfold stps
  rw [List.foldl_append]
  rfl
end My
namespace My
open PySem L2 U StX PM
/-! ### dicts changed -/
theorem drop_kvI (l : List (Int × Int)) (x : Int) : dropK (kvI l) (Sum.inl x : Key) = kvI (l.filter fun p => decide (p.1 ≠ x)) := by
  unfold dropK kvI
  rw [List.filter_map]
  congr 1
  refine List.filter_congr fun p _ => ?_
  show decide ((Sum.inl p.1 : Key) ≠ Sum.inl x) = decide (p.1 ≠ x)
  refine decide_eq_decide.mpr ⟨fun h e => h (by rw [e]), fun h e => h (Sum.inl.inj e)⟩
theorem di_drop {l : List (Int × Int)} {f : PF} (d : DI l f) (x : Int) : DI (l.filter fun p => decide (p.1 ≠ x)) (fun z => if z = x then none else f z) := by
  refine di_of ((List.filter_sublist.map _).nodup d.nd) fun a b => ?_
  rw [List.mem_filter, decide_eq_true_eq, d.mem]
  by_cases h : a = x
  · rw [if_pos h]; simp [h]
  · rw [if_neg h]; simp [h]
theorem di_put {l : List (Int × Int)} {f : PF} (d : DI l f) (x y : Int) : ∃ l', putK (kvI l) (Sum.inl x : Key) (V.int y) = kvI l' ∧ l'.length ≤ l.length + 1 ∧ DI l' (fun z => if z = x then some y else f z) := by
  obtain ⟨l', e, n, nd, k⟩ := putK_lk (l := l) (x := x) (y := y)
  exact ⟨l', e, n, nd d.nd, fun z => by rw [k, d.at_]⟩
theorem val_di {l : List (Int × Int)} {f : PF} (d : DI l f) (x : Int) : valV (kvI l) (Sum.inl x : Key) = (f x).map V.int := by rw [valV_kvI, d.at_]
def Inv2 (f g : PF) : Prop := ∀ x y, g y = some x ↔ f x = some y
theorem inv_fg {f g : PF} (h : Inv2 f g) {a y : Int} (e : f a = some y) : Inv2 (stp1 f (.fg a)) (fun z => if z = y then none else g z) := by
  intro x z
  rw [fg_iff]
  dsimp only
  by_cases hz : z = y
  · rw [if_pos hz, hz]
    constructor
    · intro q; cases q
    · rintro ⟨q1, q2⟩
      have := (h x y).mpr q2
      rw [(h a y).mpr e] at this
      exact absurd (Option.some.inj this).symm q1
  · rw [if_neg hz, h]
    constructor
    · intro q
      refine ⟨fun e2 => ?_, q⟩
      rw [e2, e] at q
      exact hz (Option.some.inj q).symm
    · exact fun q => q.2
theorem fg_same {f : PF} {a : Int} (e : f a = none) : stp1 f (.fg a) = f := by
  funext x
  show (if x = a then none else f x) = f x
  by_cases h : x = a
  · rw [if_pos h, h, e]
  · rw [if_neg h]
/-- the inverse behind a swap -/
def swI (g : PF) (a b : Int) : PF := fun y => if y = b then g a else if y = a then g b else g y
theorem inv_sw {f g : PF} (h : Inv2 f g) {a b : Int} (hab : a ≠ b) : Inv2 (stp1 f (.sw a b)) (swI g a b) := by
  intro x y
  rw [sw_iff hab]
  unfold swI
  by_cases h1 : y = b
  · rw [if_pos h1, h]
    constructor
    · exact fun q => .inl ⟨h1, q⟩
    · rintro (⟨_, q⟩ | ⟨q, _⟩ | ⟨_, q, _⟩)
      · exact q
      · exact absurd (q.symm.trans h1) hab
      · exact absurd h1 q
  · rw [if_neg h1]
    by_cases h2 : y = a
    · rw [if_pos h2, h]
      constructor
      · exact fun q => .inr (.inl ⟨h2, q⟩)
      · rintro (⟨q, _⟩ | ⟨_, q⟩ | ⟨q, _, _⟩)
        · exact absurd q h1
        · exact q
        · exact absurd h2 q
    · rw [if_neg h2, h]
      constructor
      · exact fun q => .inr (.inr ⟨h2, h1, q⟩)
      · rintro (⟨q, _⟩ | ⟨q, _⟩ | ⟨_, _, q⟩)
        · exact absurd q h1
        · exact absurd q h2
        · exact q
/-- what a swap makes of the map, by the inverse -/
theorem sw_by {f g : PF} (h : Inv2 f g) {a b : Int} (hab : a ≠ b) (z : Int) : stp1 f (.sw a b) z = (if g b = some z then some a else if g a = some z then some b else f z) := by
  by_cases h1 : g b = some z
  · rw [if_pos h1]
    exact (sw_iff hab).mpr (.inr (.inl ⟨rfl, (h z b).mp h1⟩))
  · rw [if_neg h1]
    by_cases h2 : g a = some z
    · rw [if_pos h2]
      exact (sw_iff hab).mpr (.inl ⟨rfl, (h z a).mp h2⟩)
    · rw [if_neg h2]
      cases e : f z with
      | none =>
        show ((f z).map fun y => if y = a then b else if y = b then a else y) = none
        rw [e]; rfl
      | some y =>
        refine (sw_iff hab).mpr (.inr (.inr ⟨fun q => ?_, fun q => ?_, e⟩))
        · subst q; exact h2 ((h z y).mpr e)
        · subst q; exact h1 ((h z y).mpr e)
end My
local macro_rules | `(tactic| array_get_dec) => `(tactic| first | assumption | exact L2.upd_same | (refine U.carryNew (by assumption) ?_; array_get_dec) | (refine U.carry (by assumption) ?_; array_get_dec))
local macro_rules | `(tactic| array_mem_dec) => `(tactic| first | exact L2.Same.refl _ | assumption | (refine U.sameUp (by assumption) ?_; array_mem_dec) | (refine U.sameVia (by assumption) ?_; array_mem_dec))
local macro_rules | `(tactic| sizeOf_list_dec) => `(tactic| first | assumption | (refine U.freeVia (by assumption) ?_; sizeOf_list_dec) | (refine U.freeUp (o := _) (q := _) ?_; assumption))
local macro_rules | `(tactic| deriving_LawfulEq_tactic_step) => `(tactic| first | exact rfl | exact U.nil_le | exact U.one_le | exact U.two_le | exact U.three_le | exact L2.SqL.of (by array_get_dec) | exact L2.SqT.of (by array_get_dec) | exact ⟨_, L2.SqL.of (by array_get_dec)⟩ | exact ⟨_, L2.SqT.of (by array_get_dec)⟩ | exact Or.inl (by array_get_dec) | array_get_dec)
local macro_rules | `(tactic| and_intros) => `(tactic| repeat (first | refine And.intro (by deriving_LawfulEq_tactic_step) ?_ | (apply Exists.intro; refine And.intro (by deriving_LawfulEq_tactic_step) ?_) | (apply Exists.intro; apply Exists.intro; refine And.intro (by deriving_LawfulEq_tactic_step) ?_) | (apply Exists.intro; apply Exists.intro; apply Exists.intro; refine And.intro (by deriving_LawfulEq_tactic_step) ?_) | (apply Exists.intro; apply Exists.intro; apply Exists.intro; apply Exists.intro; refine And.intro (by deriving_LawfulEq_tactic_step) ?_)))
namespace My
open PySem L2 U StX PM
def putO (f : PF) (o : Option Int) (y : Int) : PF := match o with | none => f | some x => fun z => if z = x then some y else f z
def putI (g : PF) (y : Int) (o : Option Int) : PF := match o with | none => g | some x => fun z => if z = y then some x else g z
theorem sw_found {f g : PF} (h : Inv2 f g) {a b : Int} (hab : a ≠ b) : putO (putO f (g a) b) (g b) a = stp1 f (.sw a b) := by
  funext z
  rw [sw_by h hab]
  unfold putO
  cases ea : g a with
  | none =>
    cases eb : g b with
    | none => simp
    | some s2 => simp [eq_comm]
  | some s1 =>
    cases eb : g b with
    | none => simp [eq_comm]
    | some s2 => simp [eq_comm]
theorem sw_places (g : PF) {a b : Int} (hab : a ≠ b) : putI (putI (fun z => if z = b then none else if z = a then none else g z) b (g a)) a (g b) = swI g a b := by
  funext z
  unfold putI swI
  cases ea : g a with
  | none =>
    cases eb : g b with
    | none => 
      by_cases h1 : z = b
      · simp [h1]
      · by_cases h2 : z = a
        · simp [h2, eb]
        · simp [h1, h2]
    | some s2 =>
      by_cases h1 : z = b
      · subst h1; simp [Ne.symm hab]
      · by_cases h2 : z = a
        · subst h2; simp [h1]
        · simp [h1, h2]
  | some s1 =>
    cases eb : g b with
    | none =>
      by_cases h1 : z = b
      · simp [h1]
      · by_cases h2 : z = a
        · subst h2; simp [h1, eb]
        · simp [h1, h2]
    | some s2 =>
      by_cases h1 : z = b
      · subst h1; simp [Ne.symm hab]
      · by_cases h2 : z = a
        · subst h2; simp [h1]
        · simp [h1, h2]
def ov (o : Option Int) : V := (o.map V.int).getD .non
theorem ov_some {o : Option Int} {y : Int} (h : o = some y) : ov o = .int y := by rw [h]; rfl
theorem ov_none {o : Option Int} (h : o = none) : ov o = .non := by rw [h]; rfl
theorem pop2 {H : Hp} {G : Addr} {l2 : List (Int × Int)} {g : PF} (hG : H G = some (.dK (kvI l2))) (d : DI l2 g) (x : Int) {Q : VK}
    (hq : ∀ l' H', H' G = some (.dK (kvI l')) → DI l' (fun z => if z = x then none else g z) → l'.length ≤ l2.length → Off G H H' → Q (ov (g x)) H') :
    ∃ kvs k, H G = some (.dK kvs) ∧ V.int x = kV k ∧ (∀ v, valV kvs k = some v → Q v (upd H G (.dK (dropK kvs k)))) ∧ (valV kvs k = none → Q .non H) := by
  refine ⟨_, Sum.inl x, hG, rfl, fun v hv => ?_, fun hv => ?_⟩
  · rw [val_di d] at hv
    cases e : g x with
    | none => rw [e] at hv; cases hv
    | some y =>
      rw [e] at hv
      cases hv
      have := hq (l2.filter fun p => decide (p.1 ≠ x)) (upd H G (.dK (dropK (kvI l2) (Sum.inl x)))) (by rw [upd_same, drop_kvI]) (di_drop d x) (List.length_filter_le ..) Off.lock
      rw [ov_some e] at this
      exact this
  · rw [val_di d] at hv
    cases e : g x with
    | some y => rw [e] at hv; cases hv
    | none =>
      have e2 : (fun z => if z = x then none else g z) = g := by
        funext z
        by_cases h : z = x
        · rw [if_pos h, h, e]
        · rw [if_neg h]
      have := hq l2 H hG (by rw [e2]; exact d) (Nat.le_refl _) (fun _ _ _ h => h)
      rw [ov_none e] at this
      exact this
theorem pop2R {i : Nat} {ty : TE} {σ : L2.St} {H : Hp} {Q : VK} {G : Addr} {l2 : List (Int × Int)} {g : PF} (hσ : σ[i]? = some (some (.ref G))) (hG : H G = some (.dK (kvI l2))) (d : DI l2 g) (x : Int) (hty : ∀ R : VK, R (.int x) H → ty σ H R)
    (hq : ∀ l' H', H' G = some (.dK (kvI l')) → DI l' (fun z => if z = x then none else g z) → l'.length ≤ l2.length → Off G H H' → Q (ov (g x)) H') : tDPop2 (tVar i) ty (tC .non) σ H Q :=
  ⟨_, hσ, G, rfl, isD_of hG, hty _ (pop2 hG d x hq)⟩
theorem inv_diL {n : Int} {l : List (Int × Int)} {f : PF} (d : DI l f) (wf : WF n f) : DI (madeI (fun _ _ => true) (fun _ y => y) (fun x _ => x) l) (inv n f) := by
  refine di_of (nd_tgt (d.vals wf)) fun a b => ?_
  rw [mem_madeI, inv_iff wf]
  constructor
  · rintro ⟨x, y, h1, _, rfl, rfl⟩
    exact d.mem.mp h1
  · intro h
    exact ⟨b, a, d.mem.mpr h, rfl, rfl, rfl⟩
def spAft : Sp := fun vs H Q _ => ∃ (d a : Addr) (l : List (Int × Int)) (n : Int) (f : PF) (ts : List Addr) (ss : List Stp), vs = [.ref d, .ref a] ∧ H d = some (.dK (kvI l)) ∧ DI l f ∧ WF n f ∧ l.length ≤ 300 ∧ H a = some (.lst (ts.map V.ref)) ∧ Paired (fun t s => H t = some (.tup (Stp.vs s))) ts ss ∧ (∀ s ∈ ss, Stp.ok n s) ∧ ss.length ≤ 100 ∧
  ∀ p l' H', Same H H' → H p = none → H' p = some (.dK (kvI l')) → DI l' (stps f ss) → l'.length ≤ 600 → Q (.ref p) H'
section
variable {P : Program} {w : World} {K : PySem.W.Frag} {mg : Str → Option Value} {base : Heap}
theorem ok_after_list (T : Txt K mg) : FnR P w K mg base CX0 2 T.f_after_list spAft := by
  refine T.A_after_list.ok sc_after_list (fun vs H Q E h => ?_) (fun cdv A outer s H vs Q E hr h => ?_)
  · obtain ⟨d, a, l, n, f, ts, ss, rfl, _⟩ := h
    rfl
  · obtain ⟨d, a, l, n, f, ts, ss, rfl, hd, di, wf, hl, ha, hp, hok, hls, q⟩ := h
    have hu := hu_of hr
    refine ⟨_, (pss_cons (ps_set (i := 2) sc_after_list.nd rfl (Or.inl rfl) (pe_callTy call_dictD (by rfl) T.n_dict (by decide +kernel) (pa_cons (pv 0) pa_nil)))
      (pss_cons (ps_lock (ps_setDc (i := 3) (own := [("source", 7), ("target", 8)]) (g := (gTup K 2 (gCons (gName 7) (gCons (gName 8) gNil)))) (tt := tYes) rfl sc_after_list.nd rfl rfl (sw_dict rfl rfl rfl (by decide +kernel)) (pi_items (pv 0)) (blkOk_by (own := [("source", 7), ("target", 8)]) (N := n_after_list) (sc := defScope s_after_list) (by decide +kernel)) (fun _ _ _ _ _ => (pg_tup rfl (pgs_cons (pg_name (i := 7) sc_after_list.nd rfl (Or.inl rfl)) (pgs_cons (pg_name (i := 8) sc_after_list.nd rfl (Or.inl rfl)) pgs_nil)))) (fun _ _ _ _ _ => pts_nil) (fun _ _ _ _ _ => (pv 8)) (fun _ _ _ _ _ => (pv 7))))
      (pss_cons (ps_for PassesOwn.never rfl (pi_list (pv 1)) (pg_name (i := 4) sc_after_list.nd rfl (Or.inl rfl))
        (pss_one (ps_if (pt_cmpR op_eq (pe_ix ix_tup (pv 4) pe_int (fun _ _ => rfl)) pe_str (nomark _))
        (pss_one (ps_if (pt_cmp (pc_din hu (pe_ix ix_tup (pv 4) pe_int (fun _ _ => rfl)) (pv 2)))
        (pss_one (ps_expr (pe_dpop1 (pv 3) (pe_dpop1 (pv 2) (pe_ix ix_tup (pv 4) pe_int (fun _ _ => rfl)) ⟨rfl, rfl, rfl, rfl⟩) ⟨rfl, rfl, rfl, rfl⟩))) pss_nil)) (pss_cons (ps_par (i := 5) (j := 6) rfl sc_after_list.nd rfl rfl (by decide) rfl rfl (pa_cons (pe_dpop2 (pv 3) (pe_ix ix_tup (pv 4) pe_int (fun _ _ => rfl)) pe_non ⟨rfl, rfl, rfl, rfl⟩) (pa_cons (pe_dpop2 (pv 3) (pe_ix ix_tup (pv 4) pe_int (fun _ _ => rfl)) pe_non ⟨rfl, rfl, rfl, rfl⟩) pa_nil)) (by rfl))
      (pss_one (ps_for PassesOwn.never rfl (pi_tup (pe_tup (pa_cons (pe_tup (pa_cons (pv 5) (pa_cons (pe_ix ix_tup (pv 4) pe_int (fun _ _ => rfl)) pa_nil))) (pa_cons (pe_tup (pa_cons (pv 6) (pa_cons (pe_ix ix_tup (pv 4) pe_int (fun _ _ => rfl)) pa_nil))) pa_nil)))) (pg_tup rfl (pgs_cons (pg_name (i := 7) sc_after_list.nd rfl (Or.inl rfl)) (pgs_cons (pg_name (i := 8) sc_after_list.nd rfl (Or.inl rfl)) pgs_nil)))
        (pss_one (ps_if (pt_cmpR op_notN (pv 7) pe_non (nomark _))
        (pss_one (ps_asg (pe_tup (pa_cons (pv 8) (pa_cons (pv 7) pa_nil))) (pg_tup rfl (pgs_cons (pg_sub (pv 2) (pv 7) (set_dict hu)) (pgs_cons (pg_sub (pv 3) (pv 8) (set_dict hu)) pgs_nil))))) pss_nil))))))))
      (pss_one (ps_ret (pv 2)))))), ?_⟩
    refine ⟨_, rfl, d, _, rfl, .inl hd, fun F nF => ?_⟩
    have hd1 := (Same.new (o := .dK (kvI l)) nF) _ _ hd
    refine lock_asg ?_
    refine dc_items (fun _ _ => true) (fun _ y => y) (fun x _ => .int x) hd1 (fun H' R r o => ⟨_, rfl, r⟩) (fun _ _ => rfl) ?_ ?_ ?_ ?_
    · intro x y hxy H1 o
      exact ⟨fun R r => r, fun _ => ⟨fun R r => ⟨_, rfl, r⟩, fun R r => ⟨_, rfl, r⟩⟩⟩
    · rw [madeD_I, kvI_keys]
      exact nd_inl (nd_tgt (di.vals wf))
    · exact small1000 (by omega)
    intro G H2 nG hG s2
    rw [madeD_I] at hG
    have nGF : F ≠ G := ne_of_none upd_same nG
    have s02 : Same H H2 := (Same.new nF).trans s2
    have nG0 : H G = none := (Same.new nF).free nG
    have hF2 := s2 _ _ (upd_same (H := H) (a := F) (o := .dK (kvI l)))
    dsimp only [tNext, tSeq]
    refine ⟨_, rfl, a, rfl, ⟨_, SqL.of (s02 _ _ ha)⟩, ?_⟩
    refine for_it (walk_list (xs := ts.map V.ref)) (fun i σ H' => ∃ v4 v5 v6 v7 v8 l1 l2 g, σ = [some (.ref d), some (.ref a), some (.ref F), some (.ref G), v4, v5, v6, v7, v8] ∧ Same H H' ∧ H' F = some (.dK (kvI l1)) ∧ H' G = some (.dK (kvI l2)) ∧ DI l1 (stps f (ss.take i)) ∧ DI l2 g ∧ Inv2 (stps f (ss.take i)) g ∧ l1.length ≤ 300 + 2 * i ∧ l2.length ≤ 300 + 2 * i)
      ⟨_, _, _, _, _, l, _, inv n f, rfl, s02, hF2, hG, di, inv_diL di wf, fun x y => inv_iff wf, by omega, Nat.le_trans (madeI_len ..) (by omega)⟩ (fun i σ H' _ ⟨_, _, _, _, _, _, _, _, _, z, _⟩ => SqL.of (z _ _ ha)) ?_ ?_
    · rintro i v σ Ha0 Ha hi ⟨v4, v5, v6, v7, v8, l1, l2, g, rfl, sa, hF, hG, d1, d2, iv, le1, le2⟩ ⟨rfl, ev⟩
      rw [List.getElem?_map] at ev
      obtain ⟨t, et, rfl⟩ : ∃ t, ts[i]? = some t ∧ v = .ref t := by
        cases e : ts[i]? with
        | none => rw [e] at ev; cases ev
        | some t => rw [e] at ev; cases ev; exact ⟨t, rfl, rfl⟩
      obtain ⟨sp, es, ht0⟩ := paired_at hp et
      have ht := sa _ _ ht0
      have hi2 : i < ss.length := (List.getElem?_eq_some_iff.mp es).1
      have hsk := hok sp (List.mem_of_getElem? es)
      have etk : stps f (ss.take (i + 1)) = stp1 (stps f (ss.take i)) sp := by rw [take_more es, stps_snoc]
      cases sp with
      | fg x =>
        refine ⟨_, rfl, t, _, 0, .str "forget", rfl, rfl, SqT.of ht, rfl, rfl, _, rfl, iteT ?_⟩
        refine ⟨_, rfl, t, _, 1, .int x, rfl, rfl, SqT.of ht, rfl, _, rfl, F, _, rfl, DGet.k (k := Sum.inl x) hF, _, rfl, ?_⟩
        rw [val_di d1, Option.isSome_map]
        cases ex : stps f (ss.take i) x with
        | none =>
          refine iteF ?_
          refine ⟨_, _, _, _, _, l1, l2, g, rfl, sa, hF, hG, ?_, d2, ?_, by omega, by omega⟩
          · rw [etk, fg_same ex]; exact d1
          · rw [etk, fg_same ex]; exact iv
        | some y =>
          refine iteT ?_
          have hG1 : (upd Ha F (.dK (dropK (kvI l1) (Sum.inl x)))) G = some (.dK (kvI l2)) := by rw [upd_ne nGF.symm]; exact hG
          refine ⟨_, rfl, G, rfl, isD_of hG, _, rfl, F, rfl, isD_of hF, _, rfl, t, _, 1, .int x, rfl, rfl, SqT.of ht, rfl, _, Sum.inl x, .int y, hF, rfl, (by rw [val_di d1, ex]; rfl), _, Sum.inl y, .int x, hG1, rfl, (by rw [val_di d2, (iv x y).mpr ex]; rfl), ?_⟩
          refine ⟨_, _, _, _, _, l1.filter fun p => decide (p.1 ≠ x), l2.filter fun p => decide (p.1 ≠ y), fun z => if z = y then none else g z, rfl, Same.put (Same.put sa nF) nG0, ?_, ?_, ?_, di_drop d2 y, ?_, ?_, ?_⟩
          · rw [upd_ne nGF, upd_same, drop_kvI]
          · rw [upd_same, drop_kvI]
          · rw [etk]; exact di_drop d1 x
          · rw [etk]; exact inv_fg iv ex
          · have := List.length_filter_le (fun p : Int × Int => decide (p.1 ≠ x)) l1
            omega
          · have := List.length_filter_le (fun p : Int × Int => decide (p.1 ≠ y)) l2
            omega
      | sw x y =>
        obtain ⟨_, _, _, _, hxy⟩ := hsk
        refine ⟨_, rfl, t, _, 0, .str "swap", rfl, rfl, SqT.of ht, rfl, rfl, _, rfl, iteF ?_⟩
        dsimp only [tSeq, tPar, tCons]
        refine pop2R rfl hG d2 x (fun R r => ⟨_, rfl, t, _, 1, .int x, rfl, rfl, SqT.of ht, rfl, r⟩) fun l3 H3 hG3 d3 le3 o3 => ?_
        have ht3 : H3 t = _ := o3 _ _ (ne_of ht hG (by intro z; cases z)) ht
        refine pop2R rfl hG3 d3 y (fun R r => ⟨_, rfl, t, _, 2, .int y, rfl, rfl, SqT.of ht3, rfl, r⟩) fun l4 H4 hG4 d4 le4 o4 => ?_
        have ht4 : H4 t = _ := o4 _ _ (ne_of ht3 hG3 (by intro z; cases z)) ht3
        have hF4 : H4 F = some (.dK (kvI l1)) := o4 _ _ nGF (o3 _ _ nGF hF)
        have e3 : (if y = x then none else g y) = g y := if_neg (Ne.symm hxy)
        rw [e3]
        have s4 : Same H H4 := fun b o e => by
          have nb : b ≠ G := fun z => by rw [z, nG0] at e; cases e
          exact o4 _ _ nb (o3 _ _ nb (sa _ _ e))
        refine ⟨_, _, rfl, _, rfl, _, rfl, t, _, 2, .int y, rfl, rfl, SqT.of ht4, rfl, two_le, fun t1 n1 => ⟨_, rfl, _, rfl, t, _, 1, .int x, rfl, rfl, SqT.of (carryNew n1 ht4), rfl, two_le, fun t2 n2 => ⟨two_le, fun t3 n3 => ⟨t3, rfl, ⟨_, SqT.of upd_same⟩, ?_⟩⟩⟩⟩
        have k1 : (upd (upd (upd H4 t1 (.tup [ov (g x), .int y])) t2 (.tup [ov (g y), .int x])) t3 (.tup [.ref t1, .ref t2])) t1 = some (.tup [ov (g x), .int y]) := by array_get_dec
        have k2 : (upd (upd (upd H4 t1 (.tup [ov (g x), .int y])) t2 (.tup [ov (g y), .int x])) t3 (.tup [.ref t1, .ref t2])) t2 = some (.tup [ov (g y), .int x]) := by array_get_dec
        have k3 : (upd (upd (upd H4 t1 (.tup [ov (g x), .int y])) t2 (.tup [ov (g y), .int x])) t3 (.tup [.ref t1, .ref t2])) t3 = some (.tup [.ref t1, .ref t2]) := upd_same
        have kF : (upd (upd (upd H4 t1 (.tup [ov (g x), .int y])) t2 (.tup [ov (g y), .int x])) t3 (.tup [.ref t1, .ref t2])) F = some (.dK (kvI l1)) := by array_get_dec
        have kG : (upd (upd (upd H4 t1 (.tup [ov (g x), .int y])) t2 (.tup [ov (g y), .int x])) t3 (.tup [.ref t1, .ref t2])) G = some (.dK (kvI l4)) := by array_get_dec
        have kS : Same H (upd (upd (upd H4 t1 (.tup [ov (g x), .int y])) t2 (.tup [ov (g y), .int x])) t3 (.tup [.ref t1, .ref t2])) := by array_mem_dec
        generalize upd (upd (upd H4 t1 (.tup [ov (g x), .int y])) t2 (.tup [ov (g y), .int x])) t3 (.tup [.ref t1, .ref t2]) = H7 at k1 k2 k3 kF kG kS
        refine for_it (walk_tup (xs := [.ref t1, .ref t2])) (fun j σ H' => ∃ v7 v8 m1 m2, σ = [some (.ref d), some (.ref a), some (.ref F), some (.ref G), some (.ref t), some (ov (g x)), some (ov (g y)), v7, v8] ∧ (∀ b o, b ≠ F → b ≠ G → H7 b = some o → H' b = some o) ∧ H' F = some (.dK (kvI m1)) ∧ H' G = some (.dK (kvI m2)) ∧
            DI m1 (if j = 0 then stps f (ss.take i) else if j = 1 then putO (stps f (ss.take i)) (g x) y else putO (putO (stps f (ss.take i)) (g x) y) (g y) x) ∧
            DI m2 (if j = 0 then (fun z => if z = y then none else if z = x then none else g z) else if j = 1 then putI (fun z => if z = y then none else if z = x then none else g z) y (g x) else putI (putI (fun z => if z = y then none else if z = x then none else g z) y (g x)) x (g y)) ∧ m1.length ≤ 300 + 2 * i + j ∧ m2.length ≤ 300 + 2 * i + j)
          ⟨v7, v8, l1, l4, rfl, (fun _ _ _ _ h => h), kF, kG, d1, d4, by omega, by omega⟩ (fun j σ H' _ ⟨_, _, _, _, _, z, _⟩ => SqT.of (z _ _ (ne_of k3 kF (by intro z; cases z)) (ne_of k3 kG (by intro z; cases z)) k3)) ?_ ?_
        · rintro j v σ Hb0 Hb hj ⟨w7, w8, m1, m2, rfl, sb, bF, bG, e1, e2, lm1, lm2⟩ ⟨rfl, ev⟩
          have hj2 : j < 2 := hj
          have key : ∃ (tt : Addr) (o : Option Int) (tg : Int), v = .ref tt ∧ H7 tt = some (.tup [ov o, .int tg]) ∧
              (if j + 1 = 0 then stps f (ss.take i) else if j + 1 = 1 then putO (stps f (ss.take i)) (g x) y else putO (putO (stps f (ss.take i)) (g x) y) (g y) x) = putO (if j = 0 then stps f (ss.take i) else if j = 1 then putO (stps f (ss.take i)) (g x) y else putO (putO (stps f (ss.take i)) (g x) y) (g y) x) o tg ∧
              (if j + 1 = 0 then (fun z => if z = y then none else if z = x then none else g z) else if j + 1 = 1 then putI (fun z => if z = y then none else if z = x then none else g z) y (g x) else putI (putI (fun z => if z = y then none else if z = x then none else g z) y (g x)) x (g y)) = putI (if j = 0 then (fun z => if z = y then none else if z = x then none else g z) else if j = 1 then putI (fun z => if z = y then none else if z = x then none else g z) y (g x) else putI (putI (fun z => if z = y then none else if z = x then none else g z) y (g x)) x (g y)) tg o := by
            match j, hj, ev with
            | 0, _, ev => cases ev; exact ⟨t1, g x, y, rfl, k1, by simp, by simp⟩
            | 1, _, ev => cases ev; exact ⟨t2, g y, x, rfl, k2, by simp, by simp⟩
            | j + 2, hj, _ => exact absurd hj (by simp)
          obtain ⟨tt, o, tg, rfl, ht7, eF, eG⟩ := key
          have htt := sb _ _ (ne_of ht7 kF (by intro z; cases z)) (ne_of ht7 kG (by intro z; cases z)) ht7
          refine ⟨tt, _, rfl, SqT.of htt, rfl, ov o, [.int tg], rfl, .int tg, [], rfl, rfl, ?_⟩
          refine ⟨_, rfl, rfl, _, rfl, ?_⟩
          cases o with
          | none =>
            refine iteF ⟨_, _, m1, m2, rfl, sb, bF, bG, ?_, ?_, by omega, by omega⟩
            · rw [eF]; exact e1
            · rw [eG]; exact e2
          | some sr =>
            refine iteT ⟨_, rfl, _, rfl, two_le, fun u nu => ?_⟩
            have cF : (upd Hb u (.tup [.int tg, .int sr])) F = some (.dK (kvI m1)) := carryNew nu bF
            have cG : (upd Hb u (.tup [.int tg, .int sr])) G = some (.dK (kvI m2)) := carryNew nu bG
            obtain ⟨p1, q1, q2, q3⟩ := di_put e1 sr tg
            obtain ⟨p2, r1, r2, r3⟩ := di_put e2 tg sr
            refine ⟨u, _, rfl, SqT.of upd_same, rfl, .int tg, [.int sr], rfl, _, rfl, _, rfl, F, _, rfl, DPut.k (k := Sum.inl sr) cF (small1000 (by rw [kvI_length]; omega)), .int sr, [], rfl, _, rfl, _, rfl, G, _, rfl, DPut.k (k := Sum.inl tg) (by rw [upd_ne nGF.symm]; exact cG) (small1000 (by rw [kvI_length]; omega)), rfl, ?_⟩
            refine ⟨_, _, p1, p2, rfl, fun b o h1 h2 e => ?_, ?_, ?_, ?_, ?_, by omega, by omega⟩
            · rw [upd_ne h2, upd_ne h1]
              exact carryNew nu (sb _ _ h1 h2 e)
            · rw [upd_ne nGF, upd_same, q1]
            · rw [upd_same, r1]
            · rw [eF]; exact q3
            · rw [eG]; exact r3
        · rintro σ Hb ⟨w7, w8, m1, m2, rfl, sb, bF, bG, e1, e2, lm1, lm2⟩
          refine ⟨_, _, _, _, _, m1, m2, _, rfl, fun b o e => sb _ _ (ne_of_none e nF) (ne_of_none e nG0) (kS _ _ e), bF, bG, ?_, e2, ?_, ?_, ?_⟩
          · rw [etk, ← sw_found iv hxy]; exact e1
          · rw [etk, show (if [V.ref t1, V.ref t2].length = 0 then (fun z => if z = y then none else if z = x then none else g z) else if [V.ref t1, V.ref t2].length = 1 then putI (fun z => if z = y then none else if z = x then none else g z) y (g x) else putI (putI (fun z => if z = y then none else if z = x then none else g z) y (g x)) x (g y)) = swI g x y from sw_places g hxy]
            exact inv_sw iv hxy
          · have : [V.ref t1, V.ref t2].length = 2 := rfl
            omega
          · have : [V.ref t1, V.ref t2].length = 2 := rfl
            omega
    · rintro σ H' ⟨v4, v5, v6, v7, v8, l1, l2, g, rfl, sa, hF, hG, d1, d2, iv, le1, le2⟩
      rw [List.length_map, paired_len hp, List.take_length] at d1
      rw [List.length_map, paired_len hp] at le1
      exact ⟨_, rfl, q F l1 H' sa nF hF d1 (by omega)⟩
end
end My
namespace My
open PySem L2 U StX PM
theorem stepB_of {n : Int} {s : Stp} (h : s.ok n) : stepB n s.vs = true := by
  cases s with
  | fg a =>
    obtain ⟨h1, h2⟩ := h
    have h3 : a ≤ n - 1 := by omega
    have hs : ¬ (Str.ofString "forget" = Str.ofString "swap") := by decide +kernel
    simp [stepB, Stp.vs, nth, isSt, inR, h1, h3, hs]
  | sw a b =>
    obtain ⟨h1, h2, h3, h4, h5⟩ := h
    have h6 : a ≤ n - 1 := by omega
    have h7 : b ≤ n - 1 := by omega
    simp [stepB, Stp.vs, nth, isSt, inR, h1, h3, h5, h6, h7]
theorem known_vs {C : Addr} {H : Hp} (s : Stp) : ∀ z ∈ s.vs, knownV C H z := by
  cases s <;> (intro z hz; simp only [Stp.vs, List.mem_cons, List.not_mem_nil, or_false] at hz)
  · rcases hz with rfl | rfl | rfl <;> trivial
  · rcases hz with rfl | rfl <;> trivial
def spApp (C CM CS : Addr) : Sp := fun vs H Q E => ∃ x y, vs = [x, y] ∧
  ((nonMapV H x ∧ ∀ d, H d = none → E (.ref CM) (some d) (upd H d (.xd [("part", .str "map")]))) ∨
   ∃ m n f, x = .ref m ∧ IsMap C H m n f ∧ knownV C H y ∧
    ((¬ isLs H y ∧ ∀ d H', Same H H' → H' d = none → E (.ref CS) (some d) (upd H' d (.xd [("position", .non)]))) ∨
     (∃ (a : Addr) (ys : List V) (z : V) (k : Nat), y = .ref a ∧ H a = some (.lst ys) ∧ (∀ (i : Nat) z, i < k → ys[i]? = some z → StB C n H z true) ∧ ys[k]? = some z ∧ StB C n H z false ∧ ∀ d H', Same H H' → H' d = none → E (.ref CS) (some d) (upd H' d (.xd [("position", .int (k : Int))]))) ∨
     ∃ (a : Addr) (ts : List Addr) (ss : List Stp), y = .ref a ∧ H a = some (.lst (ts.map V.ref)) ∧ Paired (fun t s => H t = some (.tup (Stp.vs s))) ts ss ∧ (∀ s ∈ ss, Stp.ok n s) ∧ ss.length ≤ 100 ∧ ∀ r H', H r = none → Same H H' → IsMap C H' r n (stps f ss) → Q (.ref r) H'))
section
variable {P : Program} {w : World} {K : PySem.W.Frag} {mg : Str → Option Value} {base : Heap}
theorem ok_ini_InvalidSteps (T : Txt K mg) : FnR P w K mg base CX0 1 T.f_InvalidSteps__init (spIni1 T.C_InvalidSteps "position") := by
  refine T.A_InvalidSteps__init.ok sc_InvalidSteps__init (fun vs H Q E h => ?_) (fun cdv A outer s H vs Q E hr h => ?_)
  · obtain ⟨a, v, rfl, _⟩ := h
    rfl
  · obtain ⟨a, v, rfl, ha, q⟩ := h
    refine ⟨_, pss_one (ps_ostG (pv 0) (pv 1)), ?_⟩
    exact ⟨_, rfl, _, rfl, a, T.C_InvalidSteps, rfl, T.x_InvalidSteps, T.na_position_InvalidSteps, .inl ⟨ha, fun dx h1 h2 => q dx h1 h2⟩⟩
theorem size_R {K : PySem.W.Frag} {C : Addr} {i : Nat} {σ : L2.St} {H : Hp} {Q : VK} {m : Addr} {n : Int} {f : PF} (hi : σ[i]? = some (some (.ref m))) (hm : IsMap C H m n f) (q : Q (.int n) H) : tPropR C (spSize C) (tVar i) σ H Q := by
  obtain ⟨dx, fs, h1⟩ := at_map hm
  exact ⟨_, hi, m, dx, fs, rfl, h1, m, n, f, rfl, hm, q⟩
theorem ok_applied (T : Txt K mg) : FnR P w K mg base (L2.CX P w) 6 T.f_applied (spApp T.C_Map T.C_InvalidMap T.C_InvalidSteps) := by
  refine T.A_applied.okX sc_applied (fun vs H Q E h => ?_) (fun cdv A outer s H vs Q E hr h => ?_)
  · obtain ⟨x, y, rfl, _⟩ := h
    rfl
  · obtain ⟨x, y, rfl, h⟩ := h
    refine ⟨_, (pss_cons (ps_expr (pe_callR (ok_check_map T) (hr.mono (by decide)) T.A_check_map.kp rfl T.g_check_map (passes_call (takes_of rfl rfl rfl rfl) (fun _ _ _ _ h => h)) (pa_cons (pv 0) pa_nil)))
      (pss_cons (ps_set (i := 2) sc_applied.nd rfl (Or.inl rfl) (pe_callR (ok_first_invalid T) (hr.mono (by decide)) T.A_first_invalid.kp rfl T.g_first_invalid pass0 (pa_cons (pe_propR (pv 0) T.o_Map.cl T.P_Map_size (ok_size T) (hr.mono (by decide))) (pa_cons (pv 1) pa_nil))))
      (pss_cons (ps_if (pt_cmpR op_notN (pv 2) pe_non (nomark _))
        (pss_one (ps_raise rfl (takes_of rfl rfl rfl rfl) (pmk_oexG T.x_InvalidSteps T.m_InvalidSteps__init T.ti_InvalidSteps__init (ok_ini_InvalidSteps T) (hr.mono (by decide)) pass0 rfl T.g_InvalidSteps (pa_cons (pe_ix ix_tup (pv 2) pe_int (fun _ _ => rfl)) pa_nil)))) pss_nil)
      (pss_one (ps_ret (pe_makeR T.M_Map (ok_init T) (hr.mono (by decide)) rfl T.g_Map pass0 (pa_cons (pe_propR (pv 0) T.o_Map.cl T.P_Map_size (ok_size T) (hr.mono (by decide))) (pa_cons (pe_callR (ok_after_list T) (hr.mono (by decide)) T.A_after_list.kp rfl T.g_after_list pass0 (pa_cons (pe_propR (pv 0) T.o_Map.cl T.P_Map_arrows (ok_arrows T) (hr.mono (by decide))) (pa_cons (pv 1) pa_nil))) pa_nil)))))))), ?_⟩
    rcases h with ⟨hx, q⟩ | ⟨m, n, f, rfl, hm, hk, h⟩
    · exact ⟨_, rfl, _, rfl, .inr ⟨hx, q⟩⟩
    refine ⟨_, rfl, _, rfl, .inl ⟨m, n, f, rfl, hm, ?_⟩⟩
    dsimp only [tNext, tSeq, tAsg, tCallR, tCons]
    refine size_R (K := K) rfl hm ?_
    refine ⟨_, rfl, n, y, rfl, hk, ?_⟩
    rcases h with ⟨hn, q⟩ | ⟨a, ys, z, k, rfl, ha, h1, h2, h3, q⟩ | ⟨a, ts, ss, rfl, ha, hp, hok, hls, q⟩
    · refine .inl ⟨hn, fun t H1 s1 ht => ⟨_, rfl, rfl, _, rfl, iteT ?_⟩⟩
      refine ⟨_, rfl, t, _, 0, .non, rfl, rfl, SqT.of ht, rfl, ?_⟩
      exact mk_one fun d hd => q d H1 s1 hd
    · have hkl := (List.getElem?_eq_some_iff.mp h2).1
      refine .inr ⟨a, ys, k, rfl, ha, by omega, h1, .inr ⟨z, h2, h3, fun t H1 s1 ht => ⟨_, rfl, rfl, _, rfl, iteT ?_⟩⟩⟩
      refine ⟨_, rfl, t, _, 0, _, rfl, rfl, SqT.of ht, rfl, ?_⟩
      exact mk_one fun d hd => q d H1 s1 hd
    · have hlen := paired_len hp
      refine .inr ⟨a, _, ss.length, rfl, ha, by rw [List.length_map, hlen]; exact Nat.le_refl _, fun i z hi ez => ?_, .inl ⟨by rw [List.length_map, hlen], fun H1 s1 => ⟨_, rfl, rfl, _, rfl, iteF ?_⟩⟩⟩
      · rw [List.getElem?_map] at ez
        cases e : ts[i]? with
        | none => rw [e] at ez; cases ez
        | some t =>
          rw [e] at ez
          cases ez
          obtain ⟨sp, es, ht⟩ := paired_at hp e
          exact ⟨.inr (.inl ⟨_, ht⟩), .inr ⟨t, _, rfl, ht, known_vs sp, by cases sp <;> simp [Stp.vs], (stepB_of (hok _ (List.mem_of_getElem? es))).symm⟩⟩
      · have hm1 := hm.same s1
        dsimp only [tNext, tSeq, tRet, tMakeR, tCallR, tCons]
        refine size_R (K := K) rfl hm1 ?_
        obtain ⟨dx, fs, g1⟩ := at_map hm1
        refine ⟨_, rfl, m, dx, fs, rfl, g1, m, n, f, rfl, hm1, fun D nD => ?_⟩
        have sD : Same H1 (upd H1 D (.dK (kvI (tab n f)))) := Same.new nD
        have tl := tab_len n f
        have h9 := hm.hi
        refine ⟨_, rfl, D, a, _, n, f, ts, ss, rfl, upd_same, di_tab hm.wf, hm.wf, by omega, (s1.trans sD) _ _ ha, hp.map fun t _ s e => (s1.trans sD) _ _ e, hok, hls, fun p l' H2 s2 np hp2 di2 hl2 => ?_⟩
        refine mk_map hp2 di2 (wf_stps hm.wf hok) hm.lo hm.hi (by omega) fun r H3 nr s3 hr3 => ?_
        have s4 := (s1.trans sD).trans s2
        exact q r H3 (s4.free nr) (s4.trans s3) hr3
end
end My
namespace My
open PySem L2 U StX PM
/-! ### several maps -/
def MapsAt (C : Addr) (H : Hp) (n : Int) (xs : List V) (fs : List PF) : Prop := Paired (fun v f => ∃ a, v = V.ref a ∧ IsMap C H a n f) xs fs
theorem MapsAt.same {C : Addr} {H H' : Hp} {n : Int} {xs : List V} {fs : List PF} (h : MapsAt C H n xs fs) (s : Same H H') : MapsAt C H' n xs fs := PySem.Paired.map h fun v _ f ⟨a, e, m⟩ => ⟨a, e, m.same s⟩
theorem MapsAt.get {C : Addr} {H : Hp} {n : Int} {xs : List V} {fs : List PF} (h : MapsAt C H n xs fs) {i : Nat} {v : V} (e : xs[i]? = some v) : ∃ a f, v = .ref a ∧ fs[i]? = some f ∧ IsMap C H a n f := by
  obtain ⟨f, e2, a, e3, m⟩ := paired_at h e
  exact ⟨a, f, e3, e2, m⟩
end My
namespace My
open PySem L2 U StX PM
/-! ### products of several maps -/
theorem foldl_snoc {α β : Type} (op : β → α → β) (z : β) (l : List α) {i : Nat} {x : α} (h : l[i]? = some x) : (l.take (i + 1)).foldl op z = op ((l.take i).foldl op z) x := by
  rw [take_more h, List.foldl_append]
  rfl
def lenF (n : Int) (f : PF) : Int := ((tab n f).length : Nat)
theorem lenF_le (n : Int) (f : PF) (h : 0 ≤ n) : 0 ≤ lenF n f ∧ lenF n f ≤ n := by
  have := tab_len n f
  unfold lenF
  omega
def spLen (C : Addr) : Sp := fun vs H Q _ => ∃ m n f, vs = [.ref m] ∧ IsMap C H m n f ∧ Q (.int (lenF n f)) H
section
variable {P : Program} {w : World} {K : PySem.W.Frag} {mg : Str → Option Value} {base : Heap}
theorem ok_len (T : Txt K mg) : FnR P w K mg base CX0 1 T.f_Map__len (spLen T.C_Map) := by
  refine T.A_Map__len.ok sc_Map__len (fun vs H Q E h => ?_) (fun cdv A outer s H vs Q E hr h => ?_)
  · obtain ⟨m, n, f, rfl, _⟩ := h
    rfl
  · obtain ⟨m, n, f, rfl, ⟨⟨dx, D, h1, h2⟩, _⟩, q⟩ := h
    refine ⟨_, (pss_one (ps_ret (pe_callB call_lenD (by rfl) T.n_len (by decide +kernel) (pa_cons (pe_fld (pv 0) rfl) pa_nil)))), ?_⟩
    have q' : Q (.int ((kvI (tab n f)).length : Nat)) H := by rw [kvI_length]; exact q
    exact ⟨_, rfl, m, _, dx, _, _, rfl, h1, T.o_Map.cl, T.na_own_arrows_Map, flds_arrows _ _, D, _, rfl, h2, q'⟩
/-- len(m) -/
theorem len_R {C : Addr} {H : Hp} {m : Addr} {n : Int} {f : PF} {Q : VK} (hm : IsMap C H m n f) (q : Q (.int (lenF n f)) H) : rLenO C (spLen C) E0 [.ref m] H Q := by
  obtain ⟨dx, fs, h1⟩ := at_map hm
  have h9 := hm.hi
  have h8 := hm.lo
  have := lenF_le n f (by omega)
  exact ⟨m, dx, fs, rfl, h1, m, n, f, rfl, hm, _, rfl, by omega, by omega, q⟩
theorem len_V {C : Addr} {i : Nat} {σ : L2.St} {H : Hp} {m : Addr} {n : Int} {f : PF} {Q : VK} (hi : σ[i]? = some (some (.ref m))) (hm : IsMap C H m n f) (q : Q (.int (lenF n f)) H) : tCB (rLenO C (spLen C) E0) (tCons (tVar i) tNil) σ H Q := ⟨_, hi, len_R hm q⟩
end
end My
set_option maxHeartbeats 1000000
namespace My
open PySem L2 U StX PM
theorem nd_seen {f : PF} {s : List Int} (nd : s.Nodup) (h1 : ∀ e ∈ s, (rowN f e).Nodup) (h2 : ∀ e ∈ s, ∀ e' ∈ s, ∀ a, a ∈ rowN f e → a ∈ rowN f e' → e = e') : (seenL f s).Nodup := by
  induction s with
  | nil => exact List.nodup_nil
  | cons e r ih =>
    rw [List.nodup_cons] at nd
    show (rowN f e ++ seenL f r).Nodup
    rw [List.nodup_append]
    refine ⟨h1 e (List.mem_cons_self ..), ih nd.2 (fun e he => h1 e (List.mem_cons_of_mem _ he)) (fun e he e' he' => h2 e (List.mem_cons_of_mem _ he) e' (List.mem_cons_of_mem _ he')), fun a ha b hb hab => ?_⟩
    subst hab
    obtain ⟨e', he', hm⟩ := mem_seenL.mp hb
    have := h2 e (List.mem_cons_self ..) e' (List.mem_cons_of_mem _ he') a ha hm
    subst this
    exact nd.1 he'
theorem cyc_back {n : Int} {f : PF} (w : WF n f) {e a : Int} (he : e ∈ cycS n f) (h : a ∈ rowN f e) : ∃ k, iter f k a = some e := by
  obtain ⟨i, hi⟩ := List.getElem?_of_mem h
  have d := cycS_dom he
  have hl := (List.getElem?_eq_some_iff.mp hi).1
  refine ⟨(rowN f e).length - i, ?_⟩
  rw [cycle_at w he hi, show i + ((rowN f e).length - i) = (rowN f e).length by omega, Nat.mod_self]
  exact row_head w d.1 d.2
theorem cyc_fwd {n : Int} {f : PF} (w : WF n f) {e a b : Int} {k : Nat} (he : e ∈ cycS n f) (h : a ∈ rowN f e) (hk : iter f k a = some b) : b ∈ rowN f e := by
  obtain ⟨i, hi⟩ := List.getElem?_of_mem h
  rw [cycle_at w he hi] at hk
  exact List.mem_of_getElem? hk
theorem sel_mem {f : PF} : ∀ {l b : List Int} {e : Int}, e ∈ selL f b l → e ∈ b ∨ ∃ l1 l2, l = l1 ++ e :: l2 ∧ e ∉ seenL f (selL f b l1)
  | [], b, e, h => .inl h
  | x :: l, b, e, h => by
    have h' : e ∈ selL f (stp f b x) l := h
    rcases sel_mem h' with h1 | ⟨l1, l2, rfl, hn⟩
    · unfold stp at h1
      by_cases hx : x ∈ seenL f b
      · rw [if_pos hx] at h1
        exact .inl h1
      · rw [if_neg hx] at h1
        rcases List.mem_append.mp h1 with h1 | h1
        · exact .inl h1
        · rw [List.mem_singleton] at h1
          subst h1
          exact .inr ⟨[], l, rfl, hx⟩
    · exact .inr ⟨x :: l1, l2, rfl, hn⟩
theorem cyc_le {n : Int} {f : PF} (w : WF n f) {e e' : Int} (he : e ∈ cycS n f) (he' : e' ∈ cycS n f) (h : e' ∈ rowN f e) : e' ≤ e := by
  refine Int.not_lt.mp fun hlt => ?_
  have d := cycS_dom he
  have d' := cycS_dom he'
  have hs' : e' ∈ selL f (nons n f) (rgI n.toNat) := by rw [cycS_eq]; exact List.mem_append_right _ he'
  have hs : e ∈ selL f (nons n f) (rgI n.toNat) := by rw [cycS_eq]; exact List.mem_append_right _ he
  rcases sel_mem hs' with hb | ⟨l1, l2, el, hn⟩
  · exact (cycS_sub n f).2 e' he' (mem_seenL.mpr ⟨e', hb, (rowN_is w d'.1 d'.2).mem⟩)
  · have asc := rgI_lt n.toNat
    have hm : e ∈ rgI n.toNat := mem_rgI.mpr ⟨d.1, by omega⟩
    rw [el] at hs asc hm
    have pw := (List.pairwise_append.mp asc).2.1
    rw [List.pairwise_cons] at pw
    have el1 : e ∈ l1 := by
      rcases List.mem_append.mp hm with h1 | h1
      · exact h1
      · rcases List.mem_cons.mp h1 with rfl | h1
        · omega
        · have := pw.1 e h1
          omega
    rw [selL_append] at hs
    obtain ⟨c, hc, hsub, hns⟩ := selL_sub f (e' :: l2) (selL f (nons n f) l1)
    rw [hc] at hs
    rcases List.mem_append.mp hs with h1 | h1
    · exact hn (mem_seenL.mpr ⟨e, h1, h⟩)
    · rcases List.mem_cons.mp (hsub.subset h1) with rfl | h2
      · omega
      · have := pw.1 e h2
        omega
theorem cyc_uniq {n : Int} {f : PF} (w : WF n f) {e e' a : Int} (he : e ∈ cycS n f) (he' : e' ∈ cycS n f) (h : a ∈ rowN f e) (h' : a ∈ rowN f e') : e = e' := by
  obtain ⟨k, hk⟩ := cyc_back w he h
  obtain ⟨k', hk'⟩ := cyc_back w he' h'
  have m1 := cyc_fwd w he' h' hk
  have m2 := cyc_fwd w he h hk'
  have := cyc_le w he he' m2
  have := cyc_le w he' he m1
  omega
theorem nd_cyc {n : Int} {f : PF} (w : WF n f) : (seenL f (cycS n f)).Nodup :=
  nd_seen (nodup_of_lt (cycS_lt n f)) (fun e he => (rowN_is w (cycS_dom he).1 (cycS_dom he).2).nd w) fun e he e' he' a h h' => cyc_uniq w he he' h h'
theorem row_iter {n : Int} {f : PF} (w : WF n f) {c : Int} (hc : c ∈ nons n f) (i : Nat) : iter f i c = (rowN f c)[i]? := by
  obtain ⟨h1, h2, _⟩ := nons_dom hc
  have := chain_at w hc (row_head w h1 h2) i
  rw [Nat.zero_add] at this
  exact this
theorem iter_inj {n : Int} {f : PF} (w : WF n f) : ∀ {k : Nat} {a b c : Int}, iter f k a = some c → iter f k b = some c → a = b
  | 0, a, b, c, h1, h2 => (Option.some.inj h1).trans (Option.some.inj h2).symm
  | k + 1, a, b, c, h1, h2 => (wf_iter w k).inj _ _ _ h1 h2
theorem non_le {n : Int} {f : PF} (w : WF n f) {c a y : Int} {i j : Nat} (hc : nonT n f c = true) (h1 : iter f i c = some a) (h2 : iter f j y = some a) : j ≤ i := by
  refine Nat.le_of_not_lt fun hlt => ?_
  obtain ⟨d, rfl⟩ : ∃ d, j = (d + 1) + i := ⟨j - i - 1, by omega⟩
  rw [iter_add] at h2
  obtain ⟨b, hb1, hb2⟩ := Option.bind_eq_some_iff.mp h2
  have := iter_inj w hb2 h1
  subst this
  have hb1 : (iter f d y).bind f = some b := hb1
  obtain ⟨z, _, hz⟩ := Option.bind_eq_some_iff.mp hb1
  exact (nonT_iff w).mp hc z hz
theorem nons_uniq {n : Int} {f : PF} (w : WF n f) {c c' a : Int} (hc : c ∈ nons n f) (hc' : c' ∈ nons n f) (h : a ∈ rowN f c) (h' : a ∈ rowN f c') : c = c' := by
  obtain ⟨i, hi⟩ := List.getElem?_of_mem h
  obtain ⟨j, hj⟩ := List.getElem?_of_mem h'
  rw [← row_iter w hc] at hi
  rw [← row_iter w hc'] at hj
  have a1 := non_le w (nons_dom hc).2.2 hi hj
  have a2 := non_le w (nons_dom hc').2.2 hj hi
  have : i = j := by omega
  subst this
  exact iter_inj w hi hj
theorem nd_nons {n : Int} {f : PF} (w : WF n f) : (seenL f (nons n f)).Nodup :=
  nd_seen (nodup_of_lt (nons_lt n f)) (fun e he => (rowN_is w (nons_dom he).1 (nons_dom he).2.1).nd w) fun e he e' he' a h h' => nons_uniq w he he' h h'
theorem iter_dvd {n : Int} {f : PF} (w : WF n f) {e a : Int} (he : e ∈ cycS n f) (h : a ∈ rowN f e) (m : Nat) : iter f m a = some a ↔ (rowN f e).length ∣ m := by
  obtain ⟨i, hi⟩ := List.getElem?_of_mem h
  have d := cycS_dom he
  have hl := (List.getElem?_eq_some_iff.mp hi).1
  rw [cycle_at w he hi]
  constructor
  · intro z
    have q := row_inj w d.1 d.2 (i := i) (j := (i + m) % (rowN f e).length) hl (by rw [hi, z])
    have q2 : (i + m) % (rowN f e).length = i % (rowN f e).length := by rw [Nat.mod_eq_of_lt hl]; exact q.symm
    have := Nat.sub_mod_eq_zero_of_mod_eq q2
    rw [Nat.add_sub_cancel_left] at this
    exact Nat.dvd_of_mod_eq_zero this
  · rintro ⟨c, rfl⟩
    rw [Nat.add_mul_mod_self_left, Nat.mod_eq_of_lt hl]
    exact hi
theorem mem_cyc {n : Int} {f : PF} (w : WF n f) {a : Int} : a ∈ seenL f (cycS n f) ↔ ∃ x, 1 ≤ x ∧ iter f x a = some a := by
  rw [mem_seenL]
  constructor
  · rintro ⟨e, he, h⟩
    have d := cycS_dom he
    exact ⟨_, row_pos w d.1 d.2, (iter_dvd w he h _).mpr (Nat.dvd_refl _)⟩
  · rintro ⟨x, hx, h⟩
    have ha : 0 ≤ a ∧ a < n := by
      refine Decidable.byContradiction fun z => ?_
      rw [iter_out w z hx] at h
      cases h
    obtain ⟨e, he, hm⟩ := cover w ha.1 ha.2
    rcases List.mem_append.mp he with he' | he'
    · obtain ⟨i, hi⟩ := List.getElem?_of_mem hm
      have d := nons_dom he'
      rw [chain_at w he' hi] at h
      have := row_inj w d.1 d.2.1 (i := i) (j := i + x) (List.getElem?_eq_some_iff.mp hi).1 (by rw [hi, h])
      omega
    · exact ⟨e, he', hm⟩
theorem iter_mul (f : PF) (a : Nat) (x : Int) : ∀ b, iter (iter f a) b x = iter f (a * b) x
  | 0 => rfl
  | b + 1 => by
    show (iter (iter f a) b x).bind (iter f a) = _
    rw [iter_mul f a x b, Nat.mul_add, Nat.mul_one, iter_add]
theorem iter_fix {f : PF} {x : Nat} {a : Int} (h : iter f x a = some a) : ∀ k, iter f (x * k) a = some a
  | 0 => by rw [Nat.mul_zero]; rfl
  | k + 1 => by
    rw [← iter_mul]
    show (iter (iter f x) k a).bind (iter f x) = _
    rw [iter_mul, iter_fix h k]
    exact h
theorem cyc_non {n : Int} {f : PF} (w : WF n f) {a : Int} (h : a ∈ seenL f (cycS n f)) (h' : a ∈ seenL f (nons n f)) : False := by
  obtain ⟨x, hx, e⟩ := (mem_cyc w).mp h
  obtain ⟨c, hc, hm⟩ := mem_seenL.mp h'
  obtain ⟨i, hi⟩ := List.getElem?_of_mem hm
  rw [← row_iter w hc] at hi
  have h1 := non_le w (nons_dom hc).2.2 hi (iter_fix e (i + 1))
  have h2 : 1 * (i + 1) ≤ x * (i + 1) := Nat.mul_le_mul_right _ hx
  omega
theorem all_nd {n : Int} {f : PF} (w : WF n f) : (seenL f (cycS n f) ++ seenL f (nons n f)).Nodup := by
  rw [List.nodup_append]
  exact ⟨nd_cyc w, nd_nons w, fun a ha b hb e => by subst e; exact cyc_non w ha hb⟩
/-! ### the rows of a map, and what an exchange does to them -/
structure Dec (n : Int) (f : PF) (A : List (List Int)) : Prop where
  nd : A.flatten.Nodup
  mem : ∀ x, x ∈ A.flatten ↔ 0 ≤ x ∧ x < n
  ne : ∀ r ∈ A, r ≠ []
  adj : ∀ r ∈ A, ∀ (i : Nat) (a b : Int), r[i]? = some a → r[i + 1]? = some b → f a = some b
  lst : ∀ r ∈ A, ∀ z, r[r.length - 1]? = some z → f z = none ∨ f z = r[0]?
theorem flat_uniq : ∀ {A : List (List Int)}, A.flatten.Nodup → ∀ {r s : List Int} {x : Int}, r ∈ A → s ∈ A → x ∈ r → x ∈ s → r = s
  | [], _, _, _, _, h, _, _, _ => nomatch h
  | a :: A, nd, r, s, x, hr, hs, xr, xs => by
    rw [List.flatten_cons, List.nodup_append] at nd
    rcases List.mem_cons.mp hr with e1 | hr2
    · rcases List.mem_cons.mp hs with e2 | hs2
      · rw [e1, e2]
      · exact absurd rfl (nd.2.2 x (e1 ▸ xr) x (List.mem_flatten.mpr ⟨s, hs2, xs⟩))
    · rcases List.mem_cons.mp hs with e2 | hs2
      · exact absurd rfl (nd.2.2 x (e2 ▸ xs) x (List.mem_flatten.mpr ⟨r, hr2, xr⟩))
      · exact flat_uniq nd.2.1 hr2 hs2 xr xs
theorem flat_row {A : List (List Int)} (nd : A.flatten.Nodup) {r : List Int} (h : r ∈ A) : r.Nodup := by
  obtain ⟨A1, A2, rfl⟩ := List.append_of_mem h
  rw [List.flatten_append, List.flatten_cons, List.nodup_append, List.nodup_append] at nd
  exact nd.2.1.1
theorem lens_perm : ∀ {A B : List (List Int)}, A.flatten.Nodup → B.flatten.Nodup → (∀ r ∈ A, r ≠ []) → (∀ s ∈ B, s ≠ []) → (∀ r ∈ A, ∃ s ∈ B, ∀ x, x ∈ r ↔ x ∈ s) → (∀ s ∈ B, ∃ r ∈ A, ∀ x, x ∈ r ↔ x ∈ s) → (A.map (·.length)).Perm (B.map (·.length))
  | [], B, _, _, _, _, _, h => by
    cases B with
    | nil => exact .refl _
    | cons s t =>
      obtain ⟨r, hr, _⟩ := h s (List.mem_cons_self ..)
      exact nomatch hr
  | r :: A, B, na, nb, ea, eb, h1, h2 => by
    obtain ⟨s, hs, e⟩ := h1 r (List.mem_cons_self ..)
    have nr := flat_row na (List.mem_cons_self (a := r) (l := A))
    have ns := flat_row nb hs
    have hl : r.length = s.length := ((List.perm_ext_iff_of_nodup nr ns).mpr e).length_eq
    obtain ⟨B1, B2, rfl⟩ := List.append_of_mem hs
    have pm : (B1 ++ s :: B2).Perm (s :: (B1 ++ B2)) := List.perm_middle
    have nb2 : (s :: (B1 ++ B2)).flatten.Nodup := pm.flatten.nodup_iff.mp nb
    have na2 := na
    rw [List.flatten_cons, List.nodup_append] at nb2 na2
    have ih := lens_perm (A := A) (B := B1 ++ B2) na2.2.1 nb2.2.1 (fun r' hr => ea r' (List.mem_cons_of_mem _ hr)) (fun s' hs' => eb s' (pm.mem_iff.mpr (List.mem_cons_of_mem _ hs'))) (fun r' hr => ?_) (fun s' hs' => ?_)
    · refine List.Perm.trans ?_ (pm.map (·.length)).symm
      rw [List.map_cons, List.map_cons, hl]
      exact ih.cons _
    · obtain ⟨s', hs', e'⟩ := h1 r' (List.mem_cons_of_mem _ hr)
      rcases List.mem_cons.mp (pm.mem_iff.mp hs') with z | z
      · subst z
        obtain ⟨x, hx⟩ := List.exists_mem_of_ne_nil r' (ea r' (List.mem_cons_of_mem _ hr))
        exact absurd rfl (na2.2.2 x ((e x).mpr ((e' x).mp hx)) x (List.mem_flatten.mpr ⟨r', hr, hx⟩))
      · exact ⟨s', z, e'⟩
    · obtain ⟨r', hr, e'⟩ := h2 s' (pm.mem_iff.mpr (List.mem_cons_of_mem _ hs'))
      rcases List.mem_cons.mp hr with z | z
      · subst z
        obtain ⟨x, hx⟩ := List.exists_mem_of_ne_nil s' (eb s' (pm.mem_iff.mpr (List.mem_cons_of_mem _ hs')))
        exact absurd rfl (nb2.2.2 x ((e x).mp ((e' x).mpr hx)) x (List.mem_flatten.mpr ⟨s', hs', hx⟩))
      · exact ⟨r', z, e'⟩
section
variable {n : Int} {f : PF} {A B : List (List Int)}
theorem Dec.fwd (d : Dec n f A) {r : List Int} (hr : r ∈ A) {x y : Int} (hx : x ∈ r) (h : f x = some y) : y ∈ r := by
  obtain ⟨i, hi⟩ := List.getElem?_of_mem hx
  have hlt := (List.getElem?_eq_some_iff.mp hi).1
  by_cases hl : i + 1 < r.length
  · have h2 := d.adj r hr i x r[i + 1] hi (List.getElem?_eq_getElem hl)
    rw [h] at h2
    cases h2
    exact List.getElem_mem hl
  · have e : i = r.length - 1 := by omega
    subst e
    rcases d.lst r hr x hi with z | z
    · rw [h] at z; cases z
    · rw [h] at z
      exact List.mem_of_getElem? z.symm
theorem Dec.row (d : Dec n f A) {x : Int} (h0 : 0 ≤ x) (h1 : x < n) : ∃ r ∈ A, x ∈ r := by
  obtain ⟨r, hr, hx⟩ := List.mem_flatten.mp ((d.mem x).mpr ⟨h0, h1⟩)
  exact ⟨r, hr, hx⟩
theorem Dec.bwd (d : Dec n f A) (w : WF n f) {r : List Int} (hr : r ∈ A) {x y : Int} (hy : y ∈ r) (h : f x = some y) : x ∈ r := by
  have hd := w.dom x y h
  obtain ⟨s, hs, hx⟩ := d.row hd.1 hd.2.1
  have := flat_uniq d.nd hr hs hy (d.fwd hs hx h)
  rw [this]
  exact hx
theorem Dec.up (d : Dec n f A) (d2 : Dec n f B) {r s : List Int} (hr : r ∈ A) (hs : s ∈ B) {i : Nat} {x : Int} (hi : r[i]? = some x) (hx : x ∈ s) : ∀ (k : Nat) (y : Int), r[i + k]? = some y → y ∈ s
  | 0, y, h => by
    rw [Nat.add_zero, hi] at h
    cases h
    exact hx
  | k + 1, y, h => by
    have hlt := (List.getElem?_eq_some_iff.mp h).1
    have hk : i + k < r.length := by omega
    have ih := Dec.up d d2 hr hs hi hx k _ (List.getElem?_eq_getElem hk)
    exact d2.fwd hs ih (d.adj r hr (i + k) _ y (List.getElem?_eq_getElem hk) h)
theorem Dec.down (d : Dec n f A) (d2 : Dec n f B) (w : WF n f) {r s : List Int} (hr : r ∈ A) (hs : s ∈ B) {i : Nat} {x : Int} (hi : r[i]? = some x) (hx : x ∈ s) : ∀ (k : Nat) (y : Int), k ≤ i → r[i - k]? = some y → y ∈ s
  | 0, y, _, h => by
    rw [Nat.sub_zero, hi] at h
    cases h
    exact hx
  | k + 1, y, hk, h => by
    have hlt := (List.getElem?_eq_some_iff.mp hi).1
    have h2 : i - k < r.length := by omega
    have ih := Dec.down d d2 w hr hs hi hx k _ (by omega) (List.getElem?_eq_getElem h2)
    have e : i - (k + 1) + 1 = i - k := by omega
    exact d2.bwd w hs ih (d.adj r hr (i - (k + 1)) y _ h (by rw [e]; exact List.getElem?_eq_getElem h2))
theorem Dec.sub (d : Dec n f A) (d2 : Dec n f B) (w : WF n f) {r s : List Int} (hr : r ∈ A) (hs : s ∈ B) {x : Int} (xr : x ∈ r) (xs : x ∈ s) {y : Int} (hy : y ∈ r) : y ∈ s := by
  obtain ⟨i, hi⟩ := List.getElem?_of_mem xr
  obtain ⟨j, hj⟩ := List.getElem?_of_mem hy
  by_cases h : i ≤ j
  · exact d.up d2 hr hs hi xs (j - i) y (by rw [show i + (j - i) = j by omega]; exact hj)
  · exact d.down d2 w hr hs hi xs (i - j) y (by omega) (by rw [show i - (i - j) = j by omega]; exact hj)
theorem Dec.match_ (d : Dec n f A) (d2 : Dec n f B) (w : WF n f) {r : List Int} (hr : r ∈ A) : ∃ s ∈ B, ∀ x, x ∈ r ↔ x ∈ s := by
  obtain ⟨x, hx⟩ := List.exists_mem_of_ne_nil r (d.ne r hr)
  have hd := (d.mem x).mp (List.mem_flatten.mpr ⟨r, hr, hx⟩)
  obtain ⟨s, hs, xs⟩ := d2.row hd.1 hd.2
  exact ⟨s, hs, fun y => ⟨fun hy => d.sub d2 w hr hs hx xs hy, fun hy => d2.sub d w hs hr xs hx hy⟩⟩
theorem Dec.lens (d : Dec n f A) (d2 : Dec n f B) (w : WF n f) : (A.map (·.length)).Perm (B.map (·.length)) :=
  lens_perm d.nd d2.nd d.ne d2.ne (fun _ hr => d.match_ d2 w hr) fun s hs => by
    obtain ⟨r, hr, e⟩ := d2.match_ d w hs
    exact ⟨r, hr, fun x => (e x).symm⟩
/-- the rows of the program -/
noncomputable def partsL (n : Int) (f : PF) : List (List Int) := (cycS n f).map (rowN f) ++ (nons n f).map (rowN f)
theorem dec_parts (w : WF n f) : Dec n f (partsL n f) := by
  have key : ∀ r ∈ partsL n f, ∃ e, 0 ≤ e ∧ e < n ∧ r = rowN f e := fun r hr => by
    rcases List.mem_append.mp hr with h | h
    · obtain ⟨e, he, rfl⟩ := List.mem_map.mp h
      exact ⟨e, (cycS_dom he).1, (cycS_dom he).2, rfl⟩
    · obtain ⟨e, he, rfl⟩ := List.mem_map.mp h
      exact ⟨e, (nons_dom he).1, (nons_dom he).2.1, rfl⟩
  have fl : (partsL n f).flatten = seenL f (cycS n f) ++ seenL f (nons n f) := by
    unfold partsL
    rw [List.flatten_append]
    rfl
  refine ⟨by rw [fl]; exact all_nd w, fun x => ?_, fun r hr => ?_, fun r hr i a b h1 h2 => ?_, fun r hr z hz => ?_⟩
  · rw [fl]
    constructor
    · intro h
      rcases List.mem_append.mp h with h | h
      · obtain ⟨e, he, hm⟩ := mem_seenL.mp h
        exact (rowN_is w (cycS_dom he).1 (cycS_dom he).2).dom w (cycS_dom he).1 (cycS_dom he).2 x hm
      · obtain ⟨e, he, hm⟩ := mem_seenL.mp h
        exact (rowN_is w (nons_dom he).1 (nons_dom he).2.1).dom w (nons_dom he).1 (nons_dom he).2.1 x hm
    · rintro ⟨h0, h1⟩
      obtain ⟨e, he, hm⟩ := cover w h0 h1
      rcases List.mem_append.mp he with he | he
      · exact List.mem_append.mpr (.inr (mem_seenL.mpr ⟨e, he, hm⟩))
      · exact List.mem_append.mpr (.inl (mem_seenL.mpr ⟨e, he, hm⟩))
  · obtain ⟨e, h0, h1, rfl⟩ := key r hr
    have := row_pos w h0 h1
    intro z
    rw [z] at this
    exact absurd this (by simp)
  · obtain ⟨e, h0, h1', rfl⟩ := key r hr
    obtain ⟨_, _, _, R, _⟩ := rowN_is w h0 h1'
    exact (R.st i a b h1 h2).1
  · obtain ⟨e, h0, h1, rfl⟩ := key r hr
    obtain ⟨pre, z', ep, R, ho⟩ := rowN_is w h0 h1
    rw [R.h0]
    rw [ep] at hz
    rw [List.length_append, List.length_singleton, Nat.add_sub_cancel, List.getElem?_append_right (Nat.le_refl _), Nat.sub_self] at hz
    cases hz
    exact ho
/-- what an exchange leaves of a row: the middle, and the rest -/
def mid (r : List Int) (i j : Nat) : List Int := (r.drop (i + 1)).take (j - i)
def rst (r : List Int) (i j : Nat) : List Int := r.take (i + 1) ++ r.drop (j + 1)
theorem mid_len {r : List Int} {i j : Nat} (h : i < j) (hj : j < r.length) : (mid r i j).length = j - i := by
  unfold mid
  rw [List.length_take, List.length_drop]
  omega
theorem rst_len {r : List Int} {i j : Nat} (h : i < j) (hj : j < r.length) : (rst r i j).length = r.length - (j - i) := by
  unfold rst
  rw [List.length_append, List.length_take, List.length_drop]
  omega
theorem mid_get {r : List Int} {i j : Nat} (h : i < j) (hj : j < r.length) {k : Nat} {a : Int} : (mid r i j)[k]? = some a ↔ k < j - i ∧ r[i + 1 + k]? = some a := by
  unfold mid
  rw [List.getElem?_take]
  by_cases hk : k < j - i
  · rw [if_pos hk, List.getElem?_drop]
    exact ⟨fun e => ⟨hk, e⟩, fun e => e.2⟩
  · rw [if_neg hk]
    exact ⟨fun e => (by cases e), fun e => absurd e.1 hk⟩
theorem rst_get {r : List Int} {i j : Nat} (h : i < j) (hj : j < r.length) {k : Nat} {a : Int} : (rst r i j)[k]? = some a ↔ (k ≤ i ∧ r[k]? = some a) ∨ (i < k ∧ r[j + (k - i)]? = some a) := by
  unfold rst
  have hl : (r.take (i + 1)).length = i + 1 := by rw [List.length_take]; omega
  by_cases hk : k < i + 1
  · rw [List.getElem?_append_left (by omega), List.getElem?_take, if_pos hk]
    constructor
    · exact fun e => .inl ⟨by omega, e⟩
    · rintro (e | e)
      · exact e.2
      · omega
  · rw [List.getElem?_append_right (by omega), hl, List.getElem?_drop, show j + 1 + (k - (i + 1)) = j + (k - i) by omega]
    constructor
    · exact fun e => .inr ⟨by omega, e⟩
    · rintro (e | e)
      · omega
      · exact e.2
theorem cut_perm {r : List Int} {i j : Nat} (h : i < j) (hj : j < r.length) : (mid r i j ++ rst r i j).Perm r := by
  have e : r = r.take (i + 1) ++ (mid r i j ++ r.drop (j + 1)) := by
    unfold mid
    conv => lhs; rw [← List.take_append_drop (i + 1) r, ← List.take_append_drop (j - i) (r.drop (i + 1)), List.drop_drop]
    rw [show i + 1 + (j - i) = j + 1 by omega]
  conv => rhs; rw [e]
  unfold rst
  rw [← List.append_assoc, ← List.append_assoc]
  exact List.Perm.append_right _ List.perm_append_comm
def swp (a b x : Int) : Int := if x = b then a else if x = a then b else x
/-- an exchange cuts the row that holds both elements -/
theorem Dec.split {A1 A2 : List (List Int)} {r : List Int} {i j : Nat} {a b : Int} (d : Dec n f (A1 ++ r :: A2)) (h : i < j) (ha : r[i]? = some a) (hb : r[j]? = some b) {g : PF} (hg : ∀ x, g x = f (swp a b x)) :
    Dec n g (A1 ++ [mid r i j, rst r i j] ++ A2) := by
  have hj := (List.getElem?_eq_some_iff.mp hb).1
  have hr : r ∈ A1 ++ r :: A2 := by simp
  have nr := flat_row d.nd hr
  have inj : ∀ {p q : Nat} {x : Int}, r[p]? = some x → r[q]? = some x → p = q := fun {p q x} e1 e2 => by
    have h1 := (List.getElem?_eq_some_iff.mp e1).1
    exact (List.getElem?_inj h1 nr).mp (e1.trans e2.symm)
  have pm : (A1 ++ [mid r i j, rst r i j] ++ A2).flatten.Perm (A1 ++ r :: A2).flatten := by
    rw [List.append_assoc, List.flatten_append, List.flatten_append, List.flatten_append]
    refine List.Perm.append_left _ ?_
    rw [List.flatten_cons, List.flatten_cons, List.flatten_cons, List.flatten_nil, List.append_nil]
    exact (cut_perm h hj).append_right _
  have cases_ : ∀ s ∈ A1 ++ [mid r i j, rst r i j] ++ A2, (s ∈ A1 ++ r :: A2 ∧ s ≠ r ∧ ∀ x ∈ s, swp a b x = x) ∨ s = mid r i j ∨ s = rst r i j := fun s hs => by
    have h3 : s ∈ A1 ∨ s = mid r i j ∨ s = rst r i j ∨ s ∈ A2 := by simpa [or_assoc] using hs
    have other : s ∈ A1 ++ r :: A2 → s ≠ r → (s ∈ A1 ++ r :: A2 ∧ s ≠ r ∧ ∀ x ∈ s, swp a b x = x) := fun hm hn => ⟨hm, hn, fun x hx => by
      unfold swp
      rw [if_neg fun z => hn (flat_uniq d.nd hm hr hx (by rw [z]; exact List.mem_of_getElem? hb)), if_neg fun z => hn (flat_uniq d.nd hm hr hx (by rw [z]; exact List.mem_of_getElem? ha))]⟩
    have nd := d.nd
    rw [List.flatten_append, List.flatten_cons, List.nodup_append, List.nodup_append] at nd
    obtain ⟨x, hx⟩ : ∃ x, x ∈ r := ⟨a, List.mem_of_getElem? ha⟩
    rcases h3 with h3 | h3 | h3 | h3
    · refine .inl (other (List.mem_append_left _ h3) fun z => ?_)
      subst z
      exact nd.2.2 x (List.mem_flatten.mpr ⟨s, h3, hx⟩) x (List.mem_append_left _ hx) rfl
    · exact .inr (.inl h3)
    · exact .inr (.inr h3)
    · refine .inl (other (List.mem_append_right _ (List.mem_cons_of_mem _ h3)) fun z => ?_)
      subst z
      exact nd.2.1.2.2 x hx x (List.mem_flatten.mpr ⟨s, h3, hx⟩) rfl
  have sw : ∀ (p : Nat) (x : Int), r[p]? = some x → p ≠ i → p ≠ j → swp a b x = x := fun p x hp h1 h2 => by
    unfold swp
    rw [if_neg fun z => h2 (inj (by rw [z] at hp; exact hp) hb), if_neg fun z => h1 (inj (by rw [z] at hp; exact hp) ha)]
  have nab : a ≠ b := fun z => by
    have := inj ha (by rw [z]; exact hb)
    omega
  have swa : swp a b a = b := by unfold swp; rw [if_neg nab, if_pos rfl]
  have swb : swp a b b = a := by unfold swp; rw [if_pos rfl]
  refine ⟨pm.nodup_iff.mpr d.nd, fun x => by rw [pm.mem_iff]; exact d.mem x, fun s hs => ?_, fun s hs k x y h1 h2 => ?_, fun s hs z hz => ?_⟩
  · rcases cases_ s hs with c | c | c
    · exact d.ne s c.1
    · subst c
      intro z
      have := mid_len h hj
      rw [z] at this
      exact absurd this (by simp; omega)
    · subst c
      intro z
      have := rst_len h hj
      rw [z] at this
      exact absurd this (by simp; omega)
  · rw [hg]
    rcases cases_ s hs with c | c | c
    · rw [c.2.2 x (List.mem_of_getElem? h1)]
      exact d.adj s c.1 k x y h1 h2
    · subst c
      obtain ⟨k1, g1⟩ := (mid_get h hj).mp h1
      obtain ⟨k2, g2⟩ := (mid_get h hj).mp h2
      rw [sw _ x g1 (by omega) (by omega)]
      exact d.adj r hr _ x y g1 g2
    · subst c
      rcases (rst_get h hj).mp h1 with ⟨k1, g1⟩ | ⟨k1, g1⟩
      · rcases (rst_get h hj).mp h2 with ⟨k2, g2⟩ | ⟨k2, g2⟩
        · rw [sw _ x g1 (by omega) (by omega)]
          exact d.adj r hr _ x y g1 g2
        · have e : k = i := by omega
          subst e
          rw [ha] at g1
          cases g1
          rw [swa]
          exact d.adj r hr j b y hb (by rw [show j + 1 = j + (k + 1 - k) by omega]; exact g2)
      · rcases (rst_get h hj).mp h2 with ⟨k2, g2⟩ | ⟨k2, g2⟩
        · omega
        · rw [sw _ x g1 (by omega) (by omega)]
          exact d.adj r hr _ x y g1 (by rw [show j + (k - i) + 1 = j + (k + 1 - i) by omega]; exact g2)
  · rw [hg]
    rcases cases_ s hs with c | c | c
    · rw [c.2.2 z (List.mem_of_getElem? hz)]
      exact d.lst s c.1 z hz
    · subst c
      rw [mid_len h hj] at hz
      obtain ⟨k1, g1⟩ := (mid_get h hj).mp hz
      rw [show i + 1 + (j - i - 1) = j by omega, hb] at g1
      cases g1
      rw [swb]
      right
      obtain ⟨y, hy⟩ : ∃ y, r[i + 1]? = some y := ⟨_, List.getElem?_eq_getElem (by omega)⟩
      rw [d.adj r hr i a y ha hy]
      exact ((mid_get h hj).mpr ⟨by omega, hy⟩).symm
    · subst c
      rw [rst_len h hj] at hz
      have h0 : (rst r i j)[0]? = r[0]? := by
        obtain ⟨y, hy⟩ : ∃ y, r[0]? = some y := ⟨_, List.getElem?_eq_getElem (by omega)⟩
        rw [hy]
        exact (rst_get h hj).mpr (.inl ⟨Nat.zero_le _, hy⟩)
      rw [h0]
      rcases (rst_get h hj).mp hz with ⟨k1, g1⟩ | ⟨k1, g1⟩
      · have e1 : r.length - (j - i) - 1 = i := by omega
        have e2 : j = r.length - 1 := by omega
        rw [e1, ha] at g1
        cases g1
        rw [swa]
        exact d.lst r hr b (by rw [← e2]; exact hb)
      · have e1 : j + (r.length - (j - i) - 1 - i) = r.length - 1 := by omega
        rw [e1] at g1
        rw [sw _ z g1 (by omega) (by omega)]
        exact d.lst r hr z g1
end
end My
set_option maxHeartbeats 1000000
namespace My
open PM
def bin : Nat → Nat → Nat
  | _, 0 => 1
  | 0, _ + 1 => 0
  | n + 1, k + 1 => bin n k + bin n (k + 1)
theorem bin_zero (n : Nat) : bin n 0 = 1 := by cases n <;> rfl
theorem bin_big : ∀ {n k : Nat}, n < k → bin n k = 0
  | _, 0, h => nomatch h
  | 0, k + 1, _ => rfl
  | n + 1, k + 1, h => by
    show bin n k + bin n (k + 1) = 0
    rw [bin_big (by omega), bin_big (by omega)]
theorem bin_step : ∀ {n k : Nat}, k ≤ n → bin n (k + 1) * (k + 1) = bin n k * (n - k)
  | 0, k, h => by
    have : k = 0 := by omega
    subst this
    rfl
  | n + 1, 0, _ => by
    have ih := bin_step (n := n) (k := 0) (Nat.zero_le _)
    show (bin n 0 + bin n 1) * 1 = bin (n + 1) 0 * (n + 1)
    rw [bin_zero, bin_zero] at *
    simp only [Nat.zero_add, Nat.mul_one, Nat.sub_zero, Nat.one_mul] at ih ⊢
    omega
  | n + 1, k + 1, h => by
    show (bin n (k + 1) + bin n (k + 2)) * (k + 2) = (bin n k + bin n (k + 1)) * (n + 1 - (k + 1))
    rw [Nat.add_sub_add_right]
    by_cases hk : k + 1 ≤ n
    · have a := bin_step (n := n) (k := k) (by omega)
      have b := bin_step (n := n) (k := k + 1) hk
      rw [Nat.add_mul, b, Nat.add_mul, ← a, ← Nat.mul_add, ← Nat.mul_add]
      congr 1
      omega
    · have : k = n := by omega
      subst this
      rw [bin_big (n := k) (k := k + 1) (by omega), bin_big (n := k) (k := k + 2) (by omega), Nat.sub_self]
      simp
/-! ### shortest ways counted -/
def fc : Nat → Nat
  | 0 => 1
  | k + 1 => fc k * (k + 1)
theorem fc_pos : ∀ k, 0 < fc k
  | 0 => Nat.one_pos
  | k + 1 => Nat.mul_pos (fc_pos k) (Nat.succ_pos k)
theorem bin_fc : ∀ {k n : Nat}, k ≤ n → bin n k * (fc k * fc (n - k)) = fc n
  | 0, n, _ => by rw [bin_zero, Nat.sub_zero]; show 1 * (1 * fc n) = fc n; omega
  | k + 1, n, h => by
    have ih := bin_fc (k := k) (n := n) (by omega)
    have st := bin_step (n := n) (k := k) (by omega)
    obtain ⟨m, hm⟩ : ∃ m, n - k = m + 1 := ⟨n - k - 1, by omega⟩
    rw [hm] at st ih
    rw [show n - (k + 1) = m by omega]
    show bin n (k + 1) * (fc k * (k + 1) * fc m) = fc n
    rw [← ih]
    show _ = bin n k * (fc k * (fc m * (m + 1)))
    have e1 : bin n (k + 1) * (fc k * (k + 1) * fc m) = bin n (k + 1) * (k + 1) * (fc k * fc m) := by
      simp only [Nat.mul_assoc, Nat.mul_left_comm, Nat.mul_comm]
    have e2 : bin n k * (fc k * (fc m * (m + 1))) = bin n k * (m + 1) * (fc k * fc m) := by
      simp only [Nat.mul_assoc, Nat.mul_left_comm, Nat.mul_comm]
    rw [e1, e2, st]
theorem fc_dvd2 (a b : Nat) : fc a * fc b ∣ fc (a + b) := by
  have := bin_fc (k := a) (n := a + b) (Nat.le_add_right _ _)
  rw [show a + b - a = b by omega] at this
  exact ⟨bin (a + b) a, by rw [← this, Nat.mul_comm]⟩
theorem fc_le {a b : Nat} (h : a ≤ b) : fc a ∣ fc b := by
  obtain ⟨c, rfl⟩ := Nat.exists_eq_add_of_le h
  exact Nat.dvd_trans (Nat.dvd_mul_right _ _) (fc_dvd2 a c)
def pwL (L : Nat) : Nat := if 1 < L then L ^ (L - 2) else 1
def cF : List Nat → Nat
  | [] => 1
  | L :: r => fc (L - 1) * cF r
def cG : List Nat → Nat
  | [] => 1
  | L :: r => pwL L * cG r
def sm : List Nat → Nat
  | [] => 0
  | L :: r => (L - 1) + sm r
theorem cF_append : ∀ (a b : List Nat), cF (a ++ b) = cF a * cF b
  | [], b => (Nat.one_mul _).symm
  | L :: r, b => by show fc (L - 1) * cF (r ++ b) = _; rw [cF_append r b, ← Nat.mul_assoc]; rfl
theorem cG_append : ∀ (a b : List Nat), cG (a ++ b) = cG a * cG b
  | [], b => (Nat.one_mul _).symm
  | L :: r, b => by show pwL L * cG (r ++ b) = _; rw [cG_append r b, ← Nat.mul_assoc]; rfl
theorem sm_append : ∀ (a b : List Nat), sm (a ++ b) = sm a + sm b
  | [], b => (Nat.zero_add _).symm
  | L :: r, b => by show (L - 1) + sm (r ++ b) = _; rw [sm_append r b, ← Nat.add_assoc]; rfl
theorem cF_pos : ∀ Ls, 0 < cF Ls
  | [] => Nat.one_pos
  | _ :: r => Nat.mul_pos (fc_pos _) (cF_pos r)
theorem cF_dvd : ∀ Ls, cF Ls ∣ fc (sm Ls)
  | [] => Nat.dvd_refl _
  | L :: r => Nat.dvd_trans (Nat.mul_dvd_mul (Nat.dvd_refl _) (cF_dvd r)) (fc_dvd2 _ _)
theorem cF_perm {a b : List Nat} (h : a.Perm b) : cF a = cF b := by
  induction h with
  | nil => rfl
  | cons x _ ih => show fc _ * cF _ = fc _ * cF _; rw [ih]
  | swap x y l => show fc _ * (fc _ * cF _) = fc _ * (fc _ * cF _); exact Nat.mul_left_comm ..
  | trans _ _ i j => exact i.trans j
theorem cG_perm {a b : List Nat} (h : a.Perm b) : cG a = cG b := by
  induction h with
  | nil => rfl
  | cons x _ ih => show pwL _ * cG _ = pwL _ * cG _; rw [ih]
  | swap x y l => show pwL _ * (pwL _ * cG _) = pwL _ * (pwL _ * cG _); exact Nat.mul_left_comm ..
  | trans _ _ i j => exact i.trans j
theorem sm_perm {a b : List Nat} (h : a.Perm b) : sm a = sm b := by
  induction h with
  | nil => rfl
  | cons x _ ih => show _ + sm _ = _ + sm _; rw [ih]
  | swap x y l => show _ + (_ + sm _) = _ + (_ + sm _); exact Nat.add_left_comm ..
  | trans _ _ i j => exact i.trans j
/-- one part more, as the program counts it -/
def cstep (v L : Nat) : Nat := if 1 < L then v * L ^ (L - 2) / fc (L - 1) else v
def cntV (d : Nat) (Ls : List Nat) : Nat := Ls.foldl cstep (fc d)
theorem cnt_fold (D : Nat) (hD : 0 < D) : ∀ (Ls : List Nat) (v p q : Nat), v * p = D * q → p * cF Ls ∣ D → (Ls.foldl cstep v) * (p * cF Ls) = D * (q * cG Ls)
  | [], v, p, q, h, _ => by
    show v * (p * 1) = D * (q * 1)
    rw [Nat.mul_one, Nat.mul_one]
    exact h
  | L :: r, v, p, q, h, hd => by
    have hp : 0 < p := Nat.pos_of_ne_zero fun z => by
      rw [z, Nat.zero_mul] at hd
      rw [Nat.eq_zero_of_zero_dvd hd] at hD
      exact absurd hD (Nat.lt_irrefl 0)
    have hd2 : p * fc (L - 1) * cF r ∣ D := by rw [Nat.mul_assoc]; exact hd
    have key : cstep v L * (p * fc (L - 1)) = D * (q * pwL L) := by
      unfold cstep pwL
      by_cases h1 : 1 < L
      · rw [if_pos h1, if_pos h1]
        obtain ⟨m, hm⟩ : p * fc (L - 1) ∣ D := Nat.dvd_trans (Nat.dvd_mul_right _ _) hd2
        have e1 : v = fc (L - 1) * (m * q) := by
          refine Nat.eq_of_mul_eq_mul_left hp ?_
          rw [Nat.mul_comm p v, h, hm]
          simp only [Nat.mul_assoc]
        have e2 : v * L ^ (L - 2) / fc (L - 1) * fc (L - 1) = v * L ^ (L - 2) := Nat.div_mul_cancel ⟨m * q * L ^ (L - 2), by rw [e1, Nat.mul_assoc]⟩
        rw [Nat.mul_comm p, ← Nat.mul_assoc, e2, Nat.mul_right_comm, h, Nat.mul_assoc]
      · rw [if_neg h1, if_neg h1, show L - 1 = 0 by omega, Nat.mul_one]
        show v * (p * 1) = _
        rw [Nat.mul_one]
        exact h
    have ih := cnt_fold D hD r (cstep v L) (p * fc (L - 1)) (q * pwL L) key hd2
    show (r.foldl cstep (cstep v L)) * (p * (fc (L - 1) * cF r)) = D * (q * (pwL L * cG r))
    rw [← Nat.mul_assoc p, ih, Nat.mul_assoc q]
theorem cnt_eq {d : Nat} {Ls : List Nat} (h : sm Ls ≤ d) : cntV d Ls * cF Ls = fc d * cG Ls := by
  have := cnt_fold (fc d) (fc_pos d) Ls (fc d) 1 1 rfl (by rw [Nat.one_mul]; exact Nat.dvd_trans (cF_dvd Ls) (fc_le h))
  rw [Nat.one_mul, Nat.one_mul] at this
  exact this
theorem cnt_perm {d : Nat} {a b : List Nat} (h : a.Perm b) (hd : sm a ≤ d) : cntV d a = cntV d b := by
  have e1 := cnt_eq hd
  have e2 := cnt_eq (d := d) (Ls := b) (by rw [← sm_perm h]; exact hd)
  rw [← cF_perm h, ← cG_perm h, ← e1] at e2
  exact (Nat.eq_of_mul_eq_mul_right (cF_pos a) e2).symm
/-! ### sums over pairs -/
def PS (w : Int → Int → Nat) : List Int → Nat
  | [] => 0
  | x :: t => (t.map (w x)).sum + PS w t
theorem sum_perm {a b : List Nat} (h : a.Perm b) : a.sum = b.sum := h.sum_nat
theorem PS_perm {w : Int → Int → Nat} (hw : ∀ x y, w x y = w y x) {a b : List Int} (h : a.Perm b) : PS w a = PS w b := by
  induction h with
  | nil => rfl
  | cons x p ih => show _ + PS w _ = _ + PS w _; rw [ih, sum_perm (p.map (w x))]
  | swap x y l =>
    show ((x :: l).map (w y)).sum + ((l.map (w x)).sum + PS w l) = ((y :: l).map (w x)).sum + ((l.map (w y)).sum + PS w l)
    rw [List.map_cons, List.map_cons, List.sum_cons, List.sum_cons, hw y x]
    omega
  | trans _ _ i j => exact i.trans j
theorem PS_append (w : Int → Int → Nat) : ∀ (r s : List Int), (∀ x ∈ r, ∀ y ∈ s, w x y = 0) → PS w (r ++ s) = PS w r + PS w s
  | [], s, _ => (Nat.zero_add _).symm
  | x :: t, s, h => by
    show ((t ++ s).map (w x)).sum + PS w (t ++ s) = (t.map (w x)).sum + PS w t + PS w s
    have h0 : (s.map (w x)).sum = 0 := by
      have : s.map (w x) = s.map fun _ => 0 := List.map_congr_left fun y hy => h x (List.mem_cons_self ..) y hy
      rw [this]
      clear this h
      induction s with
      | nil => rfl
      | cons a s ih => rw [List.map_cons, List.sum_cons, ih]
    rw [List.map_append, List.sum_append, h0, PS_append w t s fun x' hx => h x' (List.mem_cons_of_mem _ hx)]
    omega
theorem PS_flat (w : Int → Int → Nat) : ∀ (A : List (List Int)), (∀ A1 r A2, A = A1 ++ r :: A2 → ∀ x ∈ r, ∀ y ∈ A2.flatten, w x y = 0) → PS w A.flatten = (A.map (PS w)).sum
  | [], _ => rfl
  | r :: A, h => by
    rw [List.flatten_cons, PS_append w r _ (h [] r A rfl), List.map_cons, List.sum_cons, PS_flat w A fun A1 r' A2 e => h (r :: A1) r' A2 (by rw [e]; rfl)]
def rs (g : Nat → Nat) (m : Nat) : Nat := ((List.range m).map fun k => g (k + 1)).sum
def SS (g : Nat → Nat) : Nat → Nat
  | 0 => 0
  | L + 1 => rs g L + SS g L
theorem map_rs (g : Nat → Nat) (w : Int → Nat) (t : List Int) (h : ∀ k y, t[k]? = some y → w y = g (k + 1)) : (t.map w).sum = rs g t.length := by
  unfold rs
  congr 1
  refine List.ext_getElem? fun k => ?_
  rw [List.getElem?_map, List.getElem?_map]
  by_cases hk : k < t.length
  · rw [List.getElem?_eq_getElem hk, List.getElem?_range hk]
    show some _ = some _
    rw [h k _ (List.getElem?_eq_getElem hk)]
  · rw [List.getElem?_eq_none (by omega), List.getElem?_eq_none (by rw [List.length_range]; omega)]
    rfl
theorem PS_row (w : Int → Int → Nat) (g : Nat → Nat) : ∀ (r : List Int), (∀ i j a b, i < j → r[i]? = some a → r[j]? = some b → w a b = g (j - i)) → PS w r = SS g r.length
  | [], _ => rfl
  | x :: t, h => by
    show (t.map (w x)).sum + PS w t = rs g t.length + SS g t.length
    rw [map_rs g (w x) t fun k y e => h 0 (k + 1) x y (Nat.succ_pos k) rfl e, PS_row w g t fun i j a b hij e1 e2 => by rw [h (i + 1) (j + 1) a b (by omega) e1 e2]; congr 1; omega]
theorem rs_congr {g h : Nat → Nat} : ∀ {m : Nat}, (∀ k, 1 ≤ k → k ≤ m → g k = h k) → rs g m = rs h m := fun {m} e => by
  unfold rs
  congr 1
  refine List.map_congr_left fun k hk => e (k + 1) (by omega) ?_
  have := List.mem_range.mp hk
  omega
theorem SS_congr {g h : Nat → Nat} : ∀ {L : Nat}, (∀ k, 1 ≤ k → k < L → g k = h k) → SS g L = SS h L
  | 0, _ => rfl
  | L + 1, e => by
    show rs g L + SS g L = rs h L + SS h L
    rw [rs_congr fun k h1 h2 => e k h1 (by omega), SS_congr fun k h1 h2 => e k h1 (by omega)]
theorem rs_mul (c : Nat) (g : Nat → Nat) (m : Nat) : rs (fun k => c * g k) m = c * rs g m := by
  unfold rs
  induction m with
  | zero => rfl
  | succ m ih => rw [List.range_succ, List.map_append, List.map_append, List.sum_append, List.sum_append, ih, Nat.mul_add]; simp
theorem SS_mul (c : Nat) (g : Nat → Nat) : ∀ L, SS (fun k => c * g k) L = c * SS g L
  | 0 => rfl
  | L + 1 => by
    show rs _ L + SS _ L = c * (rs g L + SS g L)
    rw [rs_mul, SS_mul c g L, Nat.mul_add]
def hL (L k : Nat) : Nat := bin (L - 2) (k - 1) * (pwL k * pwL (L - k))
/-- the number of trees with numbered places, by the place where they are cut: up to thirty -/
theorem trees : ∀ L, 2 ≤ L → L ≤ 30 → SS (hL L) L = pwL L := by
  have : ∀ L ∈ (List.range 31).drop 2, SS (hL L) L = pwL L := by decide +kernel
  intro L h1 h2
  refine this L ?_
  rw [List.mem_iff_getElem?]
  refine ⟨L - 2, ?_⟩
  rw [List.getElem?_drop, show 2 + (L - 2) = L by omega]
  exact List.getElem?_range (by omega)
theorem split_sum {d : Nat} {A1 A2 : List Nat} {L : Nat} (hL1 : 1 ≤ L) (hL30 : L ≤ 30) (h : sm (A1 ++ L :: A2) ≤ d + 1) :
    SS (fun k => cntV d (A1 ++ [k, L - k] ++ A2)) L * cF (A1 ++ L :: A2) = (L - 1) * (fc d * cG (A1 ++ L :: A2)) := by
  by_cases h1 : L = 1
  · subst h1
    show (rs _ 0 + SS _ 0) * _ = 0 * _
    rw [Nat.zero_mul]
    show (0 + 0) * _ = 0
    rw [Nat.zero_mul]
  have eF : cF (A1 ++ L :: A2) = cF A1 * cF A2 * fc (L - 1) := by
    rw [cF_append]
    show cF A1 * (fc (L - 1) * cF A2) = _
    simp only [Nat.mul_assoc, Nat.mul_left_comm, Nat.mul_comm]
  have eG : cG (A1 ++ L :: A2) = cG A1 * cG A2 * pwL L := by
    rw [cG_append]
    show cG A1 * (pwL L * cG A2) = _
    simp only [Nat.mul_assoc, Nat.mul_left_comm, Nat.mul_comm]
  have key : ∀ k, 1 ≤ k → k < L → (cF A1 * cF A2 * fc (L - 1)) * cntV d (A1 ++ [k, L - k] ++ A2) = ((L - 1) * (fc d * (cG A1 * cG A2))) * hL L k := fun k k1 k2 => by
    have e := cnt_eq (d := d) (Ls := A1 ++ [k, L - k] ++ A2) (by
      rw [sm_append] at h
      rw [sm_append, sm_append]
      have h : sm A1 + ((L - 1) + sm A2) ≤ d + 1 := h
      show sm A1 + ((k - 1) + ((L - k - 1) + 0)) + sm A2 ≤ d
      omega)
    have f1 : cF (A1 ++ [k, L - k] ++ A2) = cF A1 * cF A2 * (fc (k - 1) * fc (L - k - 1)) := by
      rw [cF_append, cF_append]
      show cF A1 * (fc (k - 1) * (fc (L - k - 1) * 1)) * cF A2 = _
      rw [Nat.mul_one]
      simp only [Nat.mul_assoc, Nat.mul_left_comm, Nat.mul_comm]
    have f2 : cG (A1 ++ [k, L - k] ++ A2) = cG A1 * cG A2 * (pwL k * pwL (L - k)) := by
      rw [cG_append, cG_append]
      show cG A1 * (pwL k * (pwL (L - k) * 1)) * cG A2 = _
      rw [Nat.mul_one]
      simp only [Nat.mul_assoc, Nat.mul_left_comm, Nat.mul_comm]
    rw [f1, f2] at e
    have b := bin_fc (k := k - 1) (n := L - 2) (by omega)
    rw [show L - 2 - (k - 1) = L - k - 1 by omega] at b
    have e3 : fc (L - 1) = (L - 1) * fc (L - 2) := by
      obtain ⟨m, rfl⟩ : ∃ m, L = m + 2 := ⟨L - 2, by omega⟩
      show fc m * (m + 1) = (m + 1) * fc m
      exact Nat.mul_comm ..
    rw [e3, ← b]
    unfold hL
    generalize cntV d (A1 ++ [k, L - k] ++ A2) = c at e ⊢
    generalize bin (L - 2) (k - 1) = B
    generalize pwL k * pwL (L - k) = p at e ⊢
    generalize fc (k - 1) * fc (L - k - 1) = q at e ⊢
    generalize cF A1 * cF A2 = F at e ⊢
    generalize cG A1 * cG A2 = G at e ⊢
    generalize L - 1 = M
    generalize fc d = D at e ⊢
    have z : F * (M * (B * q)) * c = M * (B * (c * (F * q))) := by simp only [Nat.mul_assoc, Nat.mul_left_comm, Nat.mul_comm]
    have z2 : M * (D * G) * (B * p) = M * (B * (D * (G * p))) := by simp only [Nat.mul_assoc, Nat.mul_left_comm, Nat.mul_comm]
    rw [z, z2, e]
  have t := trees L (by omega) hL30
  rw [eF, eG, Nat.mul_comm, ← SS_mul, SS_congr key, SS_mul, t]
  simp only [Nat.mul_assoc]
end My
namespace My
open PySem L2 U StX PM
section
variable {P : Program} {w : World} {K : PySem.W.Frag} {mg : Str → Option Value} {base : Heap}
noncomputable def leftL (n : Int) (f : PF) (st : List Int) : List Int := (rgI n.toNat).filter fun x => !decide (x ∈ seenL f st)
structure LPrt (n : Int) (f : PF) (H H' : Hp) (rw Lw lf : Addr) (S : List Int) (ps as : List Addr) (st : List Int) : Prop where
  sm : Same H H'
  hl : H' rw = some (.lst (ps.map V.ref))
  hw : H' Lw = some (.lst (S.map V.int))
  hf : H' lf = some (.lst ((leftL n f st).map V.int))
  nf : lf ≠ rw
  hp : PairsAt H' ps as (st.map (clo f))
  hr : RowsAt H' as (st.map (rowN f))
  nr : rw ∉ as
def spLParts : Sp := fun vs H Q _ => ∃ d l n f, vs = [.ref d, .int n] ∧ H d = some (.dK (kvI l)) ∧ DI l f ∧ WF n f ∧ 1 ≤ n ∧ n ≤ 300 ∧ l.length ≤ 1000 ∧
  ∀ r ps as H', Same H H' → H' r = some (.lst (ps.map V.ref)) → PairsAt H' ps as ((nons n f ++ cycS n f).map (clo f)) → RowsAt H' as ((nons n f ++ cycS n f).map (rowN f)) → Q (.ref r) H'
theorem vals_nonT {n : Int} {l : List (Int × Int)} {f : PF} (di : DI l f) (wf : WF n f) (x : Int) : decide (x ∈ l.map (·.2)) = !nonT n f x := by
  cases h : nonT n f x with
  | true =>
    have := (nonT_iff wf).mp h
    refine decide_eq_false fun hm => ?_
    obtain ⟨⟨a, b⟩, hp, rfl⟩ := List.mem_map.mp hm
    exact this a (di.mem.mp hp)
  | false =>
    refine decide_eq_true ?_
    unfold nonT at h
    cases e : inv n f x with
    | none => rw [e] at h; cases h
    | some y => exact List.mem_map.mpr ⟨(y, x), di.mem.mpr ((inv_iff wf).mp e), rfl⟩
theorem kvI_vals (l : List (Int × Int)) : (kvI l).map (·.2) = (l.map (·.2)).map V.int := by
  unfold kvI
  rw [List.map_map, List.map_map]
  rfl
theorem leftL_more (n : Int) (f : PF) (st : List Int) (x : Int) : (leftL n f st).filter (fun y => !decide (y ∈ rowN f x)) = leftL n f (st ++ [x]) := by
  unfold leftL
  rw [List.filter_filter]
  refine List.filter_congr fun y _ => ?_
  have : y ∈ seenL f (st ++ [x]) ↔ y ∈ seenL f st ∨ y ∈ rowN f x := by
    rw [mem_seenL, mem_seenL]
    constructor
    · rintro ⟨e, h1, h2⟩
      rcases List.mem_append.mp h1 with h1 | h1
      · exact .inl ⟨e, h1, h2⟩
      · rw [List.mem_singleton] at h1; subst h1; exact .inr h2
    · rintro (⟨e, h1, h2⟩ | h)
      · exact ⟨e, List.mem_append_left _ h1, h2⟩
      · exact ⟨x, by simp, h⟩
  by_cases h1 : y ∈ seenL f st <;> by_cases h2 : y ∈ rowN f x <;> simp [this, h1, h2]
theorem for_catL {K : PySem.W.Frag} {t u : TE} {g : TG} {tb : TS} {D : Ends} {σ : L2.St} {H : Hp} (h : t σ H (fun x H1 => u σ H1 fun y H2 => rCat x y H2 fun z H3 => ∃ a, z = .ref a ∧ (∃ xs, SqL K H3 a xs) ∧ tFor (fun _ H R => R (Itl K a) H) g tb D σ H3)) :
    tFor (iList K (tOp rCat t u)) g tb D σ H := h
theorem leftL_nil (n : Int) (f : PF) : leftL n f [] = rgI n.toNat := by
  unfold leftL
  refine List.filter_eq_self.mpr fun x _ => ?_
  simp [seenL]
theorem mem_leftL {n : Int} {f : PF} {st : List Int} {x : Int} : x ∈ leftL n f st ↔ (0 ≤ x ∧ x < ((n.toNat : Nat) : Int)) ∧ x ∉ seenL f st := by
  unfold leftL
  rw [List.mem_filter, mem_rgI]
  simp
theorem ok_l_parts (T : Txt K mg) : FnR P w K mg base CX0 1 T.f_l_parts spLParts := by
  refine T.A_l_parts.ok sc_l_parts (fun vs H Q E h => ?_) (fun cdv A outer s H vs Q E hr h => ?_)
  · obtain ⟨d, l, n, f, rfl, _⟩ := h
    rfl
  · obtain ⟨d, l, n, f, rfl, hd, di, wf, n1, n3, hl, q⟩ := h
    have hu := hu_of hr
    refine ⟨_, pss_cons (ps_set (i := 2) sc_l_parts.nd rfl (Or.inr rfl) (pe_listVals rfl (pv 0) rfl T.n_list (by decide +kernel)))
      (pss_cons (ps_par (i := 3) (j := 4) rfl sc_l_parts.nd rfl rfl (by decide) rfl rfl (pa_cons (pe_lst pa_nil) (pa_cons (pe_listRg rfl rfl T.n_list (prg_1 rfl T.n_range (pv 1))) pa_nil)) (by rfl))
      (pss_cons (ps_for PassesOwn.never rfl (pi_list (pe_op op_cat (pe_lc (own := [("_law_element", 7)]) (g := gName 7) (tt := tTest (tOp (rIn K true) (tVar 7) (tVar 2))) rfl sc_l_parts.nd (pi_list (pv 4))
          (blkOk_by (own := [("_law_element", 7)]) (N := n_l_parts) (sc := defScope s_l_parts) (by decide +kernel))
          (fun _ _ _ _ _ => pg_name (i := 7) sc_l_parts.nd rfl (Or.inl rfl)) (fun _ _ _ _ _ => pts_one (pt_cmpR op_notIn_seq (pv 7) (pv 2) (by rfl))) (fun _ _ _ _ _ => pv 7)) (pv 4))) (pg_name (i := 5) sc_l_parts.nd rfl (Or.inl rfl))
        (pss_one (ps_if (pt_cmpR op_in_seq (pv 5) (pv 4) (by rfl))
          (pss_cons (ps_set (i := 6) sc_l_parts.nd rfl (Or.inr rfl) (pe_lst (pa_cons (pv 5) pa_nil)))
          (pss_cons (ps_while PassesOwn.never (PW.pt (pw_and (pt_cmp (pc_din hu (pe_ix ix_list (pv 6) (pe_un un_neg pe_int) (fun _ _ => rfl)) (pv 0)))
            (pw_and1 (pt_cmpR op_ne (pe_dget hu (pv 0) (pe_ix ix_list (pv 6) (pe_un un_neg pe_int) (fun _ _ => rfl)) (fun _ _ => rfl)) (pv 5) (nomark _)))))
            (pss_one (ps_expr (pe_bm PySem.F.plainAttrs_list PySem.F.slot_list_append PySem.F.type_list_append mt_append (pv 6) (pa_cons (pe_dget hu (pv 0) (pe_ix ix_list (pv 6) (pe_un un_neg pe_int) (fun _ _ => rfl)) (fun _ _ => rfl)) pa_nil)))))
          (pss_cons (ps_expr (pe_bm PySem.F.plainAttrs_list PySem.F.slot_list_append PySem.F.type_list_append mt_append (pv 3) (pa_cons (pe_tup (pa_cons (pv 6) (pa_cons (pe_cmp (pc_din hu (pe_ix ix_list (pv 6) (pe_un un_neg pe_int) (fun _ _ => rfl)) (pv 0))) pa_nil))) pa_nil)))
          (pss_one (ps_setLc (i := 4) (own := [("_law_element", 7)]) (g := gName 7) (tt := tTest (tOp (rIn K true) (tVar 7) (tVar 6))) rfl sc_l_parts.nd rfl rfl (sw_true rfl rfl rfl (by decide +kernel)) (pi_list (pv 4))
            (blkOk_by (own := [("_law_element", 7)]) (N := n_l_parts) (sc := defScope s_l_parts) (by decide +kernel))
            (fun _ _ _ _ _ => pg_name (i := 7) sc_l_parts.nd rfl (Or.inl rfl)) (fun _ _ _ _ _ => pts_one (pt_cmpR op_notIn_seq (pv 7) (pv 6) (by rfl))) (fun _ _ _ _ _ => pv 7)))))) pss_nil)))
      (pss_one (ps_ret (pv 3))))), ?_⟩
    refine ⟨_, rfl, d, _, rfl, hd, fun en hen => ?_⟩
    rw [kvI_vals]
    have s1 : Same H (upd H en (.lst ((l.map (·.2)).map V.int))) := Same.new hen
    refine ⟨(by show 0 ≤ sizeLine; decide), fun rw0 hrw => ?_⟩
    refine ⟨_, rfl, n, rfl, RgOk.of_le (by decide) (by omega) (by decide) (by omega), fun lf hlf => ?_⟩
    refine ⟨_, _, rfl, ?_⟩
    rw [rg0]
    have nlr : lf ≠ rw0 := fun e => by rw [e, upd_same] at hlf; cases hlf
    have hlf0 : H lf = none := s1.free ((Same.new hrw).free hlf)
    have hrw0 : H rw0 = none := s1.free hrw
    have s3 := ((Same.new (o := .lst []) hrw).trans (Same.new (o := .lst (((List.range n.toNat).map fun (i : Nat) => (i : Int)).map V.int)) hlf))
    have hen3 := s3 _ _ (upd_same (H := H) (a := en) (o := .lst ((l.map (·.2)).map V.int)))
    dsimp only [tSeq]
    refine for_catL ?_
    refine lc_ints (a := lf) (xs := rgI n.toNat) (H := upd (upd (upd H en (.lst ((l.map (·.2)).map V.int))) rw0 (.lst [])) lf (.lst (((List.range n.toNat).map fun (i : Nat) => (i : Int)).map V.int))) (fun x => nonT n f x) (fun x => .int x) (fun R r => ⟨_, rfl, r⟩) upd_same (fun _ => rfl)
      (fun x hx H1 s1' => ⟨fun R r => ?_, fun _ R r => ⟨_, rfl, r⟩⟩) (small1000 (by simp [rgI]; omega)) (fun L1 H3 nL1 hL1 s4 => ?_)
    · refine ⟨_, rfl, _, rfl, en, _, rfl, .inl (SqL.of (s1' _ _ hen3)), rfl, flat_ints _, _, rfl, ?_⟩
      rw [if_pos rfl, inV_ints, vals_nonT di wf, Bool.not_not]
      exact r
    have hlf3 : H3 lf = some (.lst ((rgI n.toNat).map V.int)) := s4 _ _ upd_same
    have lln : (nons n f).length ≤ n.toNat := Nat.le_trans (List.length_filter_le _ _) (by simp [rgI])
    refine ⟨_, rfl, L1, lf, _, _, rfl, rfl, hL1, hlf3, ?_, fun Lw hLw => ?_⟩
    · rw [List.length_map, List.length_map]
      show (nons n f).length + (rgI n.toNat).length ≤ _
      have lrg : (rgI n.toNat).length = n.toNat := by simp [rgI]
      exact Nat.le_trans (by omega : _ ≤ 1000) (by decide)
    rw [← List.map_append]
    refine ⟨Lw, rfl, ⟨_, SqL.of upd_same⟩, ?_⟩
    obtain ⟨S, eS⟩ : ∃ S, S = nons n f ++ rgI n.toNat := ⟨_, rfl⟩
    have hS : ∀ x ∈ S, 0 ≤ x ∧ x < n := fun x hx => by
      rw [eS] at hx
      rcases List.mem_append.mp hx with h | h
      · have := nons_dom h; exact ⟨this.1, this.2.1⟩
      · have := mem_rgI.mp h; omega
    rw [show (rgI n.toNat).filter (fun x => nonT n f x) ++ rgI n.toNat = S from eS.symm]
    have s5 := s4.trans (Same.new (o := .lst (S.map V.int)) hLw)
    have nrl : rw0 ≠ lf := nlr.symm
    have rw3 : H3 rw0 = some (.lst []) := s4 _ _ (by rw [upd_ne nrl]; exact upd_same)
    have nLr : Lw ≠ rw0 := fun e => by rw [e, rw3] at hLw; cases hLw
    have nLf : Lw ≠ lf := fun e => by rw [e, hlf3] at hLw; cases hLw
    refine for_it (walk_list (xs := S.map V.int)) (fun i σ H' => ∃ v5 v6 v7 lf ps as, σ = [some (.ref d), some (.int n), some (.ref en), some (.ref rw0), some (.ref lf), v5, v6, v7] ∧ LPrt n f (upd H en (.lst ((l.map (·.2)).map V.int))) H' rw0 Lw lf S ps as (selL f [] (S.take i)))
      ⟨none, none, none, lf, [], [], rfl, s3.trans s5, ?_, upd_same, ?_, nlr, trivial, trivial, fun h => nomatch h⟩ (fun i σ H' _ ⟨_, _, _, _, _, _, _, p⟩ => SqL.of p.hw) ?_ ?_
    · rw [upd_ne nLr.symm]; exact rw3
    · rw [upd_ne nLf.symm, show selL f [] (S.take 0) = [] from rfl, leftL_nil]; exact hlf3
    · rintro i v σ H' H'' hi ⟨v5, v6, v7, lf, ps, as, rfl, p⟩ ⟨rfl, ev⟩
      rw [List.length_map] at hi
      obtain ⟨x, ex⟩ : ∃ y, S[i]? = some y := ⟨_, List.getElem?_eq_getElem hi⟩
      have ev' : v = .int x := by
        have := get_map ex
        rw [this] at ev
        exact (Option.some.inj ev).symm
      subst ev'
      obtain ⟨x0, x1⟩ := hS x (List.mem_of_getElem? ex)
      obtain ⟨st, est⟩ : ∃ st, st = selL f [] (S.take i) := ⟨_, rfl⟩
      have est1 : selL f [] (S.take (i + 1)) = stp f st x := by rw [take_more ex, selL_one, ← est]
      rw [← est] at p
      refine ⟨_, rfl, _, rfl, lf, _, rfl, .inl (SqL.of p.hf), rfl, flat_ints _, _, rfl, ?_⟩
      rw [if_neg Bool.false_ne_true, inV_ints]
      obtain ⟨c, ec, hc1, hc2⟩ := selL_sub f (S.take i) []
      rw [← est, List.nil_append] at ec
      subst ec
      have lst : st.length ≤ i := Nat.le_trans hc1.length_le (by rw [List.length_take]; omega)
      have lS : S.length ≤ 600 := by rw [eS, List.length_append]; simp [rgI]; omega
      have lps := p.hp.len.2
      rw [List.length_map] at lps
      refine ifD (fun hin => ?_) (fun hin => ?_)
      · have hns := (mem_leftL.mp hin).2
        refine ⟨_, rfl, (by show 1 ≤ sizeLine; decide), fun r hr0 => ?_⟩
        have row0 : Row f x ([] ++ [x]) := ⟨rfl, fun i a b h1 h2 => by simp at h2⟩
        have nrr : r ≠ rw0 := fun e => by rw [e, p.hl] at hr0; cases hr0
        show tSeq (tWhile _ _) (tSeq _ _) _ _ _
        refine seq_cut (fun σ H2 => ∃ pre z, σ = [some (.ref d), some (.int n), some (.ref en), some (.ref rw0), some (.ref lf), some (.int x), some (.ref r), v7] ∧ H2 r = some (.lst ((pre ++ [z]).map V.int)) ∧ Same H'' H2 ∧ Row f x (pre ++ [z]) ∧ (f z = none ∨ f z = some x)) (fun nx fin => ?_) ?_
        refine ⟨fun m σ H2 => ∃ pre z, σ = [some (.ref d), some (.int n), some (.ref en), some (.ref rw0), some (.ref lf), some (.int x), some (.ref r), v7] ∧ H2 r = some (.lst ((pre ++ [z]).map V.int)) ∧ Same H'' H2 ∧ Row f x (pre ++ [z]) ∧ m = 300 - pre.length, ⟨300, [], x, rfl, upd_same, Same.new hr0, row0, rfl⟩, ?_⟩
        rintro m σ H2 ⟨pre, z, rfl, p1, p2, p3, rfl⟩
        have hd' := (s1.trans (p.sm.trans p2)) _ _ hd
        have hlen := len_range (p3.nd wf) (p3.dom wf x0 x1)
        rw [List.length_append, List.length_singleton] at hlen
        refine ⟨_, rfl, 1, rfl, r, _, -1, .int z, rfl, rfl, SqL.of p1, lastI _ _, _, rfl, d, _, rfl, dgetI hd' di z, _, rfl, ?_⟩
        cases hz : f z with
        | none => exact iteF (iteF (fin _ _ ⟨pre, z, rfl, p1, p2, p3, .inl hz⟩))
        | some y =>
          refine iteT ?_
          refine ⟨_, rfl, _, rfl, 1, rfl, r, _, -1, .int z, rfl, rfl, SqL.of p1, lastI _ _, d, .int y, rfl, ?_, _, rfl, rfl, _, rfl, ?_⟩
          · have := dgetI hd' di z
            rw [hz] at this
            exact this
          have nr : d ≠ r := ne_of_none ((s1.trans p.sm) _ _ hd) hr0
          refine ifN (fun hne => ?_) (fun heq => ?_)
          · have hne' : y ≠ x := fun z => hne (congrArg V.int z)
            have row' := p3.more hz hne'
            have hlen' := len_range (row'.nd wf) (row'.dom wf x0 x1)
            rw [List.length_append, List.length_append, List.length_singleton, List.length_singleton] at hlen'
            refine ⟨fun σ' H2 => ∃ m', m' < 300 - pre.length ∧ _, fun _ _ h => h, ?_⟩
            refine ⟨_, rfl, .inl ⟨rfl, _, SqL.of p1⟩, _, rfl, _, rfl, 1, rfl, r, _, -1, .int z, rfl, rfl, SqL.of p1, lastI _ _, d, .int y, rfl, ?_, r, _, .int y, rfl, rfl, p1, ?_, ?_⟩
            · have := dgetI hd' di z
              rw [hz] at this
              exact this
            · rw [List.length_map, List.length_append, List.length_singleton]
              exact small1000 (by omega)
            · refine ⟨300 - (pre ++ [z]).length, by rw [List.length_append, List.length_singleton]; omega, pre ++ [z], y, rfl, ?_, ?_, row', rfl⟩
              · rw [upd_same, List.map_append (l₁ := pre ++ [z])]
                rfl
              · exact Same.put p2 hr0
          · have : y = x := V.int.inj heq
            subst this
            exact fin _ _ ⟨pre, z, rfl, p1, p2, p3, .inr hz⟩
        rintro σ H2 ⟨pre, z, rfl, p1, p2, p3, ho⟩
        have hd' := (s1.trans (p.sm.trans p2)) _ _ hd
        have hrow : IsRow f x (pre ++ [z]) := ⟨pre, z, rfl, p3, ho⟩
        have hclo := clo_eq hrow
        have p1' : H2 r = some (.lst ((rowN f x).map V.int)) := by rw [rowN_eq hrow]; exact p1
        refine ⟨_, rfl, .inl ⟨rfl, _, SqL.of (p2 _ _ p.hl)⟩, _, rfl, _, rfl, 1, rfl, r, _, -1, .int z, rfl, rfl, SqL.of p1, lastI _ _, _, rfl, d, _, rfl, dgetI hd' di z, (by show 2 ≤ sizeLine; decide), fun tp htp => ?_⟩
        rw [Option.isSome_map, ← hclo]
        have s6 : Same H2 (upd H2 tp (.tup [.ref r, .bl (clo f x)])) := Same.new htp
        have hrl := (p2.trans s6) _ _ p.hl
        refine ⟨rw0, _, .ref tp, rfl, rfl, hrl, by rw [List.length_map]; exact small1000 (by omega), ?_⟩
        have s7 : Same (upd H en (.lst ((l.map (·.2)).map V.int))) (upd (upd H2 tp (.tup [.ref r, .bl (clo f x)])) rw0 (.lst (ps.map V.ref ++ [.ref tp]))) := Same.put ((p.sm.trans p2).trans s6) hrw
        have hf7 : (upd (upd H2 tp (.tup [.ref r, .bl (clo f x)])) rw0 (.lst (ps.map V.ref ++ [.ref tp]))) lf = some (.lst ((leftL n f st).map V.int)) := by rw [upd_ne p.nf]; exact (p2.trans s6) _ _ p.hf
        have hr7 : (upd (upd H2 tp (.tup [.ref r, .bl (clo f x)])) rw0 (.lst (ps.map V.ref ++ [.ref tp]))) r = some (.lst ((rowN f x).map V.int)) := by rw [upd_ne nrr]; exact s6 _ _ p1'
        have lfl : (leftL n f st).length ≤ 300 := by
          unfold leftL
          exact Nat.le_trans (List.length_filter_le _ _) (by simp [rgI]; omega)
        dsimp only
        refine asg_of ?_
        refine lc_ints (a := lf) (xs := leftL n f st) (H := upd (upd H2 tp (.tup [.ref r, .bl (clo f x)])) rw0 (.lst (ps.map V.ref ++ [.ref tp]))) (fun y => !decide (y ∈ rowN f x)) (fun y => .int y) (fun R r => ⟨_, rfl, r⟩) hf7 (fun _ => rfl)
          (fun y hy H1 s1' => ⟨fun R rr => ?_, fun _ R rr => ⟨_, rfl, rr⟩⟩) (small1000 (by omega)) (fun lf2 H8 nlf2 hlf2 s8 => ?_)
        · refine ⟨_, rfl, _, rfl, r, _, rfl, .inl (SqL.of (s1' _ _ hr7)), rfl, flat_ints _, _, rfl, ?_⟩
          rw [if_pos rfl, inV_ints]
          exact rr
        refine ⟨_, _, _, lf2, ps ++ [tp], as ++ [r], rfl, ?_⟩
        rw [est1, show stp f st x = st ++ [x] from by unfold stp; rw [if_neg hns]]
        have hpp : PairsAt (upd H2 tp (.tup [.ref r, .bl (clo f x)])) (ps ++ [tp]) (as ++ [r]) ((st ++ [x]).map (clo f)) := by
          rw [List.map_append]
          exact ((p.hp.same p2).same s6).snoc upd_same
        refine ⟨s7.trans s8, s8 _ _ (by rw [upd_same, List.map_append]; rfl), ?_, ?_, ?_, ?_, ?_, ?_⟩
        · exact s8 _ _ (by rw [upd_ne nLr]; exact (p2.trans s6) _ _ p.hw)
        · rw [leftL_more] at hlf2; exact hlf2
        · exact fun e => by rw [e, upd_same] at nlf2; cases nlf2
        · exact (hpp.off hrl (fun xs z => by cases z)).same s8
        · rw [List.map_append]
          exact ((((p.hr.same p2).same s6).off p.nr).snoc hr7).same s8
        · intro hm
          rcases List.mem_append.mp hm with hm | hm
          · exact p.nr hm
          · rw [List.mem_singleton] at hm; exact nrr hm.symm
      · have hs : x ∈ seenL f st := Classical.byContradiction fun h => hin (mem_leftL.mpr ⟨⟨x0, by omega⟩, h⟩)
        refine ⟨_, v6, v7, lf, ps, as, rfl, ?_⟩
        rw [est1]
        unfold stp
        rw [if_pos hs]
        exact p
    · rintro σ H' ⟨v5, v6, v7, lf, ps, as, rfl, p⟩
      rw [List.length_map, List.take_length, eS, sel_all wf] at p
      exact ⟨_, rfl, q rw0 ps as H' (s1.trans p.sm) p.hl p.hp p.hr⟩
end
end My
namespace U
open PySem PySem.Spec PyProof.Rows L2
/-! ### xs[1::-1] of a list of two to four items -/
theorem ix_listK {X : Cx} {K : PySem.W.Frag} (h : X.K = K) : IxR X (rIxL K) := by
  subst h
  exact ix_list
end U
/-! o.m(e, ..) of a list or dict within an except suite: the reading names a given K -/
namespace U
open PySem PySem.Spec PyProof.Rows L2
theorem pe_bmK {X : Cx} {K0 : PySem.W.Frag} {T id : String} {name : PySem.Str} {r : V → List V → Hp → VK → Prop} {o e : Expr} {es : List Expr} {apos cpos : Pos} {to : TE} {t : TA} (hK : X.K = K0)
    (p1 : PlainAttrs T) (p2 : Slot T name id) (p3 : typeOf (.builtin id) = pure (.type "method_descriptor")) (p4 : MtR X id r) (p5 : PE X o to) (p6 : PA X (e :: es) t)
    (q1 : attributeBase o name X.env (eval o X.env) = eval o X.env := by rfl)
    (q2 : ((backTo cpos (starEach (e :: es) X.env)).all (fun x => !x.1) && (backToKw cpos (keywordEach [] X.env)).all (fun x => x.1.isSome) && decide ((e :: es).length + ([] : List Keyword).length + (if ([] : List Keyword).isEmpty then 0 else 1) < 30)) = true := by rfl)
    (q3 : (apos.endLine == cpos.line) = true := by rfl) (q4 : starEach (e :: es) X.env = (false, eval e X.env) :: starEach es X.env := by rfl) (q5 : (backTo cpos (starEach es X.env)).any (·.1) = false := by rfl) :
    PE X (.Call (.Attribute o name apos) (e :: es) [] cpos) (tBM K0 T r to t) := by
  cases hK
  exact pe_bm p1 p2 p3 p4 p5 p6 q1 q2 q3 q4 q5
theorem ix_tupK {X : Cx} {K : PySem.W.Frag} (h : X.K = K) : IxR X (rIxT K) := by
  cases h
  exact ix_tup
end U
set_option maxHeartbeats 1000000
namespace My
open PySem L2 U StX PM
theorem ip_mulW {X : Cx} : L2.PIp X .Mult (fun x y H Q => ∃ i j, x = .int i ∧ y = .int j ∧ CMulW i j ∧ Q (.int (i * j)) H) := by
  intro pins s σ H x y v u Q I r1 r2 h
  obtain ⟨i, j, e1, e2, hc, q⟩ := h
  subst e1; subst e2
  obtain ⟨t, rfl⟩ := r1
  obtain ⟨t', rfl⟩ := r2
  exact PyProof.Rows.imul_int ⟨.int _, H, I.tok _, ⟨_, rfl⟩, q⟩ hc.ok
def factN : Nat → Nat
  | 0 => 1
  | k + 1 => factN k * (k + 1)
def spFac : Sp := fun vs H Q _ => ∃ k : Nat, vs = [.int (k : Int)] ∧ k ≤ 300 ∧ Q (.int ((factN k : Nat) : Int)) H
theorem factN_lt : ∀ k, k ≤ 500 → factN k < 2 ^ (9 * k + 1)
  | 0, _ => by decide
  | k + 1, h => by
    have ih := factN_lt k (by omega)
    show factN k * (k + 1) < _
    rw [show 9 * (k + 1) + 1 = (9 * k + 1) + 9 by omega, Nat.pow_add]
    exact Nat.mul_lt_mul'' ih (show _ < 512 by omega)
theorem nat_abs_lt {a B : Nat} (h : a < 2 ^ B) : ((a : Nat) : Int).natAbs < 2 ^ B := by rw [Int.natAbs_natCast]; exact h
theorem ten_lt {x : Int} (h0 : 0 ≤ x) (h : x ≤ 1000) : x.natAbs < 2 ^ 10 := by
  have : (2 : Nat) ^ 10 = 1024 := by decide
  omega
def spPwo : Sp := fun vs H Q _ => ∃ b k : Nat, vs = [.int (b : Int), .int (k : Int)] ∧ b ≤ 300 ∧ k ≤ 300 ∧ Q (.int ((b ^ k : Nat) : Int)) H
theorem pow_lt9 {b : Nat} (hb : b ≤ 500) : ∀ k, b ^ k < 2 ^ (9 * k + 1)
  | 0 => by rw [Nat.pow_zero]; decide
  | k + 1 => by
    have ih := pow_lt9 hb k
    rw [Nat.pow_succ, show 9 * (k + 1) + 1 = (9 * k + 1) + 9 by omega, Nat.pow_add]
    exact Nat.mul_lt_mul'' ih (show _ < 512 by omega)
theorem fc_fact : ∀ k, fc k = factN k
  | 0 => rfl
  | k + 1 => by show fc k * (k + 1) = factN k * (k + 1); rw [fc_fact k]
/-- no map, or maps of unlike sizes -/
def ErrM (CM : Addr) (H : Hp) (E : XK) : Prop := ∀ d, H d = none → E (.ref CM) (some d) (upd H d (.xd [("part", .str "map")]))
def ErrP (C CM CS : Addr) (H : Hp) (x y : V) (E : XK) : Prop :=
  (nonMapV H x ∧ ErrM CM H E) ∨ (∃ a n f, x = .ref a ∧ IsMap C H a n f ∧ nonMapV H y ∧ ErrM CM H E) ∨ (∃ a n f b n' g, x = .ref a ∧ y = .ref b ∧ IsMap C H a n f ∧ IsMap C H b n' g ∧ n ≠ n' ∧ mism CS n n' H E)
/-- what a function of two maps does -/
def sp2 (C CM CS : Addr) (W : Addr → Addr → Int → PF → PF → Hp → VK → Prop) : Sp := fun vs H Q E => ∃ x y, vs = [x, y] ∧ (ErrP C CM CS H x y E ∨ ∃ a b n f g, x = .ref a ∧ y = .ref b ∧ IsMap C H a n f ∧ IsMap C H b n g ∧ W a b n f g H Q)
def srcB (n : Int) (f g : PF) : Bool := (tab n g).all fun p => (f p.1).isSome
theorem srcB_iff {n : Int} {f g : PF} (wg : WF n g) : srcB n f g = true ↔ ∀ x y, g x = some y → ∃ z, f x = some z := by
  unfold srcB
  rw [List.all_eq_true]
  constructor
  · intro h x y e
    exact Option.isSome_iff_exists.mp (h (x, y) ((mem_tab wg).mpr e))
  · rintro h ⟨x, y⟩ hp
    exact Option.isSome_iff_exists.mpr (h x y ((mem_tab wg).mp hp))
/-- the link -/
def lnk (n : Int) (f g : PF) : PF := mul (inv n f) g
theorem wf_lnk {n : Int} {f g : PF} (w : WF n f) (wg : WF n g) : WF n (lnk n f g) := wf_mul (wf_inv w) wg
theorem lnk_iff {n : Int} {f g : PF} (w : WF n f) {y z : Int} : lnk n f g y = some z ↔ ∃ x, f x = some y ∧ g x = some z := by
  unfold lnk
  rw [mul_iff]
  constructor
  · rintro ⟨x, h1, h2⟩
    exact ⟨x, (inv_iff w).mp h1, h2⟩
  · rintro ⟨x, h1, h2⟩
    exact ⟨x, (inv_iff w).mpr h1, h2⟩
theorem nd_map_inj {f : Int × Int → Int} {l : List (Int × Int)} (nd : l.Nodup) (h : ∀ p ∈ l, ∀ q ∈ l, f p = f q → p = q) : (l.map f).Nodup := by
  induction l with
  | nil => exact List.nodup_nil
  | cons p r ih =>
    rw [List.nodup_cons] at nd
    rw [List.map_cons, List.nodup_cons]
    refine ⟨fun hm => ?_, ih nd.2 fun a ha b hb => h a (List.mem_cons_of_mem _ ha) b (List.mem_cons_of_mem _ hb)⟩
    obtain ⟨q, hq, e⟩ := List.mem_map.mp hm
    have := h p (List.mem_cons_self ..) q (List.mem_cons_of_mem _ hq) e.symm
    subst this
    exact nd.1 hq
/-- the pairs of the link -/
theorem lnk_di {n : Int} {f g : PF} {l : List (Int × Int)} (w : WF n f) (wg : WF n g) (d : DI l g) (hs : ∀ x y, g x = some y → ∃ z, f x = some z) :
    ((l.map fun p => (f p.1).getD 0)).Nodup ∧ DI (l.map fun p => ((f p.1).getD 0, p.2)) (lnk n f g) := by
  have ndl : l.Nodup := by
    have := d.nd
    exact nd_of_map _ this
  have key : (l.map fun p => (f p.1).getD 0).Nodup := nd_map_inj ndl fun p hp q hq e => by
    obtain ⟨x, y⟩ := p
    obtain ⟨x', y'⟩ := q
    have h1 := d.mem.mp hp
    have h2 := d.mem.mp hq
    obtain ⟨z, hz⟩ := hs x y h1
    obtain ⟨z', hz'⟩ := hs x' y' h2
    dsimp only at e
    rw [hz, hz'] at e
    have e : z = z' := e
    subst e
    have := w.inj _ _ _ hz hz'
    subst this
    rw [h1] at h2
    cases h2
    rfl
  refine ⟨key, di_of (by rw [List.map_map]; exact key) fun a b => ?_⟩
  rw [lnk_iff w]
  constructor
  · intro h
    obtain ⟨⟨x, y⟩, hp, e⟩ := List.mem_map.mp h
    have h1 := d.mem.mp hp
    obtain ⟨z, hz⟩ := hs x y h1
    dsimp only at e
    rw [hz] at e
    cases e
    exact ⟨x, hz, h1⟩
  · rintro ⟨x, h1, h2⟩
    exact List.mem_map.mpr ⟨(x, b), d.mem.mpr h2, by dsimp only; rw [h1]; rfl⟩
def spLink (C : Addr) : Sp := fun vs H Q _ => ∃ a b n f g, vs = [.ref a, .ref b] ∧ IsMap C H a n f ∧ IsMap C H b n g ∧
  ((srcB n f g = false ∧ ∀ H', Same H H' → Q .non H') ∨ (srcB n f g = true ∧ ∀ r H', Same H H' → IsMap C H' r n (lnk n f g) → Q (.ref r) H'))
section
variable {P : Program} {w : World} {K : PySem.W.Frag} {mg : Str → Option Value} {base : Heap}
theorem ok_factorial (T : Txt K mg) : FnR P w K mg base CX0 1 T.f_factorial spFac := by
  refine T.A_factorial.ok sc_factorial (fun vs H Q E h => ?_) (fun cdv A outer s H vs Q E hr h => ?_)
  · obtain ⟨k, rfl, _⟩ := h
    rfl
  · obtain ⟨k, rfl, hk, q⟩ := h
    refine ⟨_, (pss_cons (ps_set (i := 1) sc_factorial.nd rfl (Or.inl rfl) pe_int)
      (pss_cons (ps_for PassesOwn.never rfl (pi_range2 (by rfl) T.n_range (pa_cons pe_int (pa_cons (pe_op op_add (pv 0) pe_int) pa_nil))) (pg_name (i := 2) sc_factorial.nd rfl (Or.inl rfl))
        (pss_one (ps_aug (i := 1) sc_factorial.nd rfl (Or.inl rfl) (pv 2) ip_mulW)))
      (pss_one (ps_ret (pv 1))))), ?_⟩
    refine ⟨_, rfl, _, _, rfl, rfl, 1, (k : Int) + 1, rfl, ⟨by decide, by decide, by omega, by omega⟩, ?_⟩
    refine for_it (walk_range (lo := 1)) (fun i σ H' => ∃ v2, σ = [some (.int (k : Int)), some (.int ((factN i : Nat) : Int)), v2] ∧ H' = H)
      ⟨_, rfl, rfl⟩ (fun _ _ _ _ _ => trivial) ?_ ?_
    · rintro i v σ Ha0 Ha hi ⟨v2, rfl, rfl⟩ ⟨rfl, rfl⟩
      have hlt := factN_lt i (by omega)
      refine ⟨_, rfl, _, rfl, _, _, rfl, rfl, wide_mul (nat_abs_lt hlt) (b := 10) (ten_lt (by omega) (by omega)) (by omega) (by decide) (by omega), ?_⟩
      refine ⟨some (.int (1 + (i : Nat))), ?_, rfl⟩
      have e : ((factN i : Nat) : Int) * (1 + (i : Nat)) = ((factN (i + 1) : Nat) : Int) := by
        show _ = ((factN i * (i + 1) : Nat) : Int)
        rw [Int.natCast_mul]
        congr 1
        omega
      rw [← e]
      rfl
    · rintro σ Ha ⟨v2, rfl, rfl⟩
      have e : ((k : Int) + 1 - 1).toNat = k := by omega
      rw [e]
      exact ⟨_, rfl, q⟩
theorem ok_power_of (T : Txt K mg) : FnR P w K mg base CX0 1 T.f_power_of spPwo := by
  refine T.A_power_of.ok sc_power_of (fun vs H Q E h => ?_) (fun cdv A outer s H vs Q E hr h => ?_)
  · obtain ⟨b, k, rfl, _⟩ := h
    rfl
  · obtain ⟨b, k, rfl, hb, hk, q⟩ := h
    refine ⟨_, (pss_cons (ps_set (i := 2) sc_power_of.nd rfl (Or.inl rfl) pe_int)
      (pss_cons (ps_for PassesOwn.never rfl (pi_range1 rfl T.n_range (pa_cons (pv 1) pa_nil)) (pg_name (i := 3) sc_power_of.nd rfl (Or.inl rfl))
        (pss_one (ps_aug (i := 2) sc_power_of.nd rfl (Or.inl rfl) (pv 0) ip_mulW)))
      (pss_one (ps_ret (pv 2))))), ?_⟩
    refine ⟨_, rfl, (k : Int), rfl, by omega, by omega, ?_⟩
    refine for_it (walk_range (lo := 0)) (fun i σ H' => ∃ v3, σ = [some (.int (b : Int)), some (.int (k : Int)), some (.int ((b ^ i : Nat) : Int)), v3] ∧ H' = H)
      ⟨_, rfl, rfl⟩ (fun _ _ _ _ _ => trivial) ?_ ?_
    · rintro i v σ Ha0 Ha hi ⟨v3, rfl, rfl⟩ ⟨rfl, rfl⟩
      have hlt := pow_lt9 (b := b) (by omega) i
      refine ⟨_, rfl, _, rfl, _, _, rfl, rfl, wide_mul (nat_abs_lt hlt) (b := 10) (ten_lt (by omega) (by omega)) (by omega) (by decide) (by omega), ?_⟩
      refine ⟨some (.int (0 + (i : Nat))), ?_, rfl⟩
      have e : ((b ^ i : Nat) : Int) * (b : Int) = ((b ^ (i + 1) : Nat) : Int) := by rw [Nat.pow_succ, Int.natCast_mul]
      rw [← e]
      rfl
    · rintro σ Ha ⟨v3, rfl, rfl⟩
      rw [Int.toNat_natCast]
      exact ⟨_, rfl, q⟩
theorem ok2_check_maps (T : Txt K mg) : FnR P w K mg base (L2.CX P w) 5 T.f_check_maps (sp2 T.C_Map T.C_InvalidMap T.C_SizeMismatch fun _ _ _ _ _ H Q => Q .non H) := by
  refine T.A_check_maps.okX sc_check_maps (fun vs H Q E h => ?_) (fun cdv A outer s H vs Q E hr h => ?_)
  · obtain ⟨x, y, rfl, _⟩ := h
    rfl
  · obtain ⟨x, y, rfl, h⟩ := h
    refine ⟨_, (pss_cons (ps_expr (pe_callR (ok_check_map T) (hr.mono (by decide)) T.A_check_map.kp rfl T.g_check_map (passes_call (takes_of rfl rfl rfl rfl) (fun _ _ _ _ h => h)) (pa_cons (pv 0) pa_nil)))
      (pss_cons (ps_expr (pe_callR (ok_check_map T) (hr.mono (by decide)) T.A_check_map.kp rfl T.g_check_map (passes_call (takes_of rfl rfl rfl rfl) (fun _ _ _ _ h => h)) (pa_cons (pv 1) pa_nil)))
      (pss_one (ps_expr (pe_callR (ok_commonX T) (hr.mono (by decide)) T.A_common_size.kp rfl T.g_common_size (passes_call (takes_of rfl rfl rfl rfl) (fun _ _ _ _ h => h)) (pa_cons (pv 0) (pa_cons (pv 1) pa_nil))))))), ?_⟩
    rcases h with (⟨hx, q⟩ | ⟨a, n, f, rfl, hm, hy, q⟩ | ⟨a, n, f, b, n', g, rfl, rfl, ha, hb, hne, q⟩) | ⟨a, b, n, f, g, rfl, rfl, ha, hb, q⟩
    · exact ⟨_, rfl, _, rfl, .inr ⟨hx, q⟩⟩
    · refine ⟨_, rfl, _, rfl, .inl ⟨a, n, f, rfl, hm, ?_⟩⟩
      exact ⟨_, rfl, _, rfl, .inr ⟨hy, q⟩⟩
    · refine ⟨_, rfl, _, rfl, .inl ⟨a, n, f, rfl, ha, ?_⟩⟩
      refine ⟨_, rfl, _, rfl, .inl ⟨b, n', g, rfl, hb, ?_⟩⟩
      exact ⟨_, rfl, _, rfl, a, b, n, f, n', g, rfl, ha, hb, fun _ => q, fun e => absurd e hne⟩
    · refine ⟨_, rfl, _, rfl, .inl ⟨a, n, f, rfl, ha, ?_⟩⟩
      refine ⟨_, rfl, _, rfl, .inl ⟨b, n, g, rfl, hb, ?_⟩⟩
      exact ⟨_, rfl, _, rfl, a, b, n, f, n, g, rfl, ha, hb, fun e => absurd rfl e, fun _ => q⟩
theorem ok_link_of (T : Txt K mg) : FnR P w K mg base CX0 6 T.f_link_of (spLink T.C_Map) := by
  refine T.A_link_of.ok sc_link_of (fun vs H Q E h => ?_) (fun cdv A outer s H vs Q E hr h => ?_)
  · obtain ⟨a, b, n, f, g, rfl, _⟩ := h
    rfl
  · obtain ⟨a, b, n, f, g, rfl, ha, hb, h⟩ := h
    have hu := hu_of hr
    refine ⟨_, (pss_cons (ps_asg (pe_tup (pa_cons (pe_propR (pv 0) T.o_Map.cl T.P_Map_arrows (ok_arrows T) (hr.mono (by decide))) (pa_cons (pe_propR (pv 1) T.o_Map.cl T.P_Map_arrows (ok_arrows T) (hr.mono (by decide))) pa_nil))) (pg_tup rfl (pgs_cons (pg_name (i := 2) sc_link_of.nd rfl (Or.inr rfl)) (pgs_cons (pg_name (i := 3) sc_link_of.nd rfl (Or.inl rfl)) pgs_nil))))
      (pss_cons (ps_if (pt_not (pt_val (pe_callB (cr_all rfl) (by rfl) T.n_all (by decide +kernel) (pa_cons (pe_lock (pe_lc (own := [("source", 4)]) (g := (gName 4)) (tt := tYes) rfl sc_link_of.nd (pi_keys (pv 3)) (blkOk_by (own := [("source", 4)]) (N := n_link_of) (sc := defScope s_link_of) (by decide +kernel)) (fun _ _ _ _ _ => (pg_name (i := 4) sc_link_of.nd rfl (Or.inl rfl))) (fun _ _ _ _ _ => pts_nil) (fun _ _ _ _ _ => (pe_cmp (pc_din hu (pv 4) (pv 2)))))) pa_nil))))
        (pss_one (ps_ret pe_non)) pss_nil)
      (pss_one (ps_ret (pe_makeR T.M_Map (ok_init T) (hr.mono (by decide)) rfl T.g_Map pass0 (pa_cons (pe_propR (pv 0) T.o_Map.cl T.P_Map_size (ok_size T) (hr.mono (by decide))) (pa_cons (pe_lock (pe_dc (own := [("source", 4), ("target", 5)]) (g := (gTup K 2 (gCons (gName 4) (gCons (gName 5) gNil)))) (tt := tYes) rfl sc_link_of.nd (pi_items (pv 3)) (blkOk_by (own := [("source", 4), ("target", 5)]) (N := n_link_of) (sc := defScope s_link_of) (by decide +kernel)) (fun _ _ _ _ _ => (pg_tup rfl (pgs_cons (pg_name (i := 4) sc_link_of.nd rfl (Or.inl rfl)) (pgs_cons (pg_name (i := 5) sc_link_of.nd rfl (Or.inl rfl)) pgs_nil)))) (fun _ _ _ _ _ => pts_nil) (fun _ _ _ _ _ => (pe_dget hu (pv 2) (pv 4) (fun _ _ => rfl))) (fun _ _ _ _ _ => (pv 5)))) pa_nil))))))), ?_⟩
    obtain ⟨dx, fs, h1⟩ := at_map ha
    obtain ⟨dy, gs, h2⟩ := at_map hb
    have lo := ha.lo
    have hi := ha.hi
    have tl := tab_len n f
    have tl2 := tab_len n g
    refine ⟨_, rfl, a, dx, fs, rfl, h1, a, n, f, rfl, ha, fun F nF => ?_⟩
    have s1 : Same H (upd H F (.dK (kvI (tab n f)))) := Same.new nF
    refine ⟨_, rfl, b, dy, gs, rfl, s1 _ _ h2, b, n, g, rfl, hb.same s1, fun G nG => ?_⟩
    have s2 := s1.trans (Same.new (o := .dK (kvI (tab n g))) nG)
    have nFG : F ≠ G := ne_of_none upd_same nG
    have hF : (upd (upd H F (.dK (kvI (tab n f)))) G (.dK (kvI (tab n g)))) F = some (.dK (kvI (tab n f))) := by rw [upd_ne nFG]; exact upd_same
    have hG : (upd (upd H F (.dK (kvI (tab n f)))) G (.dK (kvI (tab n g)))) G = some (.dK (kvI (tab n g))) := upd_same
    generalize upd (upd H F (.dK (kvI (tab n f)))) G (.dK (kvI (tab n g))) = H2 at s2 hF hG
    refine ⟨(by show 2 ≤ sizeLine; decide), fun p np => ⟨p, _, rfl, SqT.of upd_same, rfl, _, _, rfl, _, _, rfl, rfl, ?_⟩⟩
    have s3 := s2.trans (Same.new (o := .tup [.ref F, .ref G]) np)
    replace hF := (Same.new (o := .tup [.ref F, .ref G]) np) _ _ hF
    replace hG := (Same.new (o := .tup [.ref F, .ref G]) np) _ _ hG
    generalize upd H2 p (.tup [.ref F, .ref G]) = H3 at s3 hF hG
    dsimp only [tNext, tSeq]
    refine ifn_cb ?_
    refine lc_keys (c := fun _ => true) (vf := fun x => .bl (f x).isSome) hG (fun H' R r o => ⟨_, rfl, r⟩) (fun _ => rfl) (fun x H1 o => ⟨fun R r => r, fun R r => ?_⟩) (small1000 (by omega)) (fun D H4 nD hD s4 => ?_)
    · refine ⟨_, rfl, _, rfl, F, _, rfl, DGet.k (k := Sum.inl x) (o _ _ nFG hF), ?_⟩
      rw [valV_kvI, Option.isSome_map, lk_tab ha.wf]
      exact r
    have eb : madeL (fun _ _ => true) (fun x _ => V.bl (f x).isSome) (tab n g) = ((tab n g).map fun p => (f p.1).isSome).map V.bl := by
      unfold madeL
      rw [List.filter_eq_self.mpr fun _ _ => rfl, List.map_map]
      rfl
    rw [eb] at hD
    refine ⟨D, _, rfl, SqL.of hD, _, rfl, ?_⟩
    have es : ((tab n g).map fun p => (f p.1).isSome).all id = srcB n f g := by
      unfold srcB
      rw [List.all_map]
      rfl
    rw [es]
    rcases h with ⟨hs, q⟩ | ⟨hs, q⟩
    · rw [hs]
      exact iteT (q _ (s3.trans s4))
    · rw [hs]
      refine iteF ?_
      have s34 := s3.trans s4
      refine ⟨_, rfl, a, dx, fs, rfl, s34 _ _ h1, a, n, f, rfl, ha.same s34, ?_⟩
      have hsr := (srcB_iff hb.wf).mp hs
      obtain ⟨nk, dk⟩ := lnk_di ha.wf hb.wf (di_tab hb.wf) hsr
      refine dc_items (fun _ _ => true) (fun x _ => (f x).getD 0) (fun _ y => .int y) (s4 _ _ hG) (fun H' R r o => ⟨_, rfl, r⟩) (fun _ _ => rfl) ?_ ?_ ?_ ?_
      · intro x y hxy H1 o
        refine ⟨fun R r => r, fun _ => ⟨fun R r => ?_, fun R r => ⟨_, rfl, r⟩⟩⟩
        obtain ⟨z, hz⟩ := hsr x y ((mem_tab hb.wf).mp hxy)
        refine ⟨_, rfl, _, rfl, F, .int z, rfl, ?_, ?_⟩
        · have := DGet.k (k := Sum.inl x) (o _ _ nFG (s4 _ _ hF))
          rw [valV_kvI, lk_tab ha.wf, hz] at this
          exact this
        · rw [hz] at r
          exact r
      · rw [madeD_I, kvI_keys]
        refine nd_inl ?_
        unfold madeI
        rw [List.filter_eq_self.mpr fun _ _ => rfl, List.map_map]
        exact nk
      · exact small1000 (by omega)
      · intro D2 H5 nD2 hD2 s5
        rw [madeD_I] at hD2
        have em : madeI (fun _ _ => true) (fun x _ => (f x).getD 0) (fun _ y => y) (tab n g) = (tab n g).map fun p => ((f p.1).getD 0, p.2) := by
          unfold madeI
          rw [List.filter_eq_self.mpr fun _ _ => rfl]
        rw [em] at hD2
        refine mk_map hD2 dk (wf_lnk ha.wf hb.wf) lo hi (by rw [List.length_map]; omega) fun r H6 nr s6 hm => ?_
        exact q r H6 ((s34.trans s5).trans s6) hm
end
end My
set_option maxHeartbeats 1000000
namespace My
open PySem L2 U StX PM
theorem rows_app {H : Hp} : ∀ {as bs : List Addr} {rs ss : List (List Int)}, RowsAt H as rs → RowsAt H bs ss → RowsAt H (as ++ bs) (rs ++ ss)
  | [], _, [], _, _, h => h
  | _ :: _, _, _ :: _, _, h, g => ⟨h.1, rows_app h.2 g⟩
  | [], _, _ :: _, _, h, _ => h.elim
  | _ :: _, _, [], _, h, _ => h.elim
/-- the steps at a list -/
def StpsAt (H : Hp) (ts : List Addr) (ss : List Stp) : Prop := Paired (fun t s => H t = some (.tup (Stp.vs s))) ts ss
theorem StpsAt.same {H H' : Hp} {ts : List Addr} {ss : List Stp} (h : StpsAt H ts ss) (s : Same H H') : StpsAt H' ts ss := PySem.Paired.map h fun _ _ _ e => s _ _ e
theorem StpsAt.off {H H' : Hp} {d : Addr} {ts : List Addr} {ss : List Stp} (h : StpsAt H ts ss) (hd : ∃ ys, H d = some (.lst ys)) (o : Off d H H') : StpsAt H' ts ss := by
  obtain ⟨ys, hd⟩ := hd
  refine PySem.Paired.map h fun t _ s e => o t _ (fun z => ?_) e
  rw [z, hd] at e
  cases e
theorem stps_app {H : Hp} {ts us : List Addr} {ss vs : List Stp} (h : StpsAt H ts ss) (g : StpsAt H us vs) : StpsAt H (ts ++ us) (ss ++ vs) := by
  unfold StpsAt at *
  induction h with
  | nil => exact g
  | cons r _ ih => exact .cons r ih
def swS (a b : Int) : Stp := if a < b then .sw a b else .sw b a
def fgL (n : Int) (f g : PF) : List Stp := (((tab n f).filter fun p => (g p.1).isNone).map fun p => .fg p.1)
noncomputable def distI (n : Int) (f g : PF) : Int := lenF n f - lenF n g + n - ((partsL n (lnk n f g)).length : Nat)
/-- [a tuple for x in a list of ints] -/
theorem lc_stp {K : PySem.W.Frag} {te : TE} {i : Nat} {tv : TE} {vs : List Nat} {σ : L2.St} {H0 : Hp} {Q : VK} {xs : List Int} (sf : Int → Stp) (hte : ∀ R : VK, (∀ a H, Same H0 H → H a = some (.lst (xs.map V.int)) → R (.ref a) H) → te σ H0 R)
    (hw : ∀ a, wipe ((wipe σ vs).set i a) vs = wipe σ vs)
    (hb : ∀ (x : Int), x ∈ xs → ∀ (H1 : Hp), Same H0 H1 → ∀ R : VK, (∀ p, H1 p = none → R (.ref p) (upd H1 p (.tup (Stp.vs (sf x))))) → tv ((wipe σ vs).set i (some (.int x))) H1 R)
    (hz : xs.length < sizeLine)
    (hq : ∀ D ts H', H0 D = none → H' D = some (.lst (ts.map V.ref)) → StpsAt H' ts (xs.map sf) → Same H0 H' → Q (.ref D) H') :
    tLc (iList K te) (gName i) tYes tv vs σ H0 Q := by
  refine hte _ fun a H s0 ha => ⟨a, rfl, ⟨_, SqL.of ha⟩, fun D hD => ?_⟩
  refine lc_it (walk_list (xs := xs.map V.int)) (fun k H' => Same H H' ∧ ∃ ts : List Addr, H' D = some (.lst (ts.map V.ref)) ∧ ts.length = k ∧ StpsAt H' ts ((xs.take k).map sf)) ⟨Same.new hD, [], upd_same, rfl, .nil⟩ (fun k H' _ p => SqL.of (p.1 _ _ ha)) ?_ ?_
  · rintro k v H' H'' hk ⟨s1, ts, e1, hl, hp⟩ ⟨rfl, ev⟩
    rw [List.getElem?_map] at ev
    obtain ⟨x, ex, rfl⟩ := Option.map_eq_some_iff.mp ev
    rw [List.length_map] at hk
    refine ⟨hw _, yes_ ?_⟩
    refine hb x (List.mem_of_getElem? ex) _ (s0.trans s1) _ fun p np => ⟨_, carryNew np e1, by rw [List.length_map]; omega, ?_⟩
    have s2 : Same H'' (upd H'' p (.tup (Stp.vs (sf x)))) := Same.new np
    refine ⟨Same.put (s1.trans s2) hD, ts ++ [p], ?_, ?_, ?_⟩
    · rw [upd_same, List.map_append]; rfl
    · rw [List.length_append, hl]; rfl
    · rw [take_more ex, List.map_append]
      refine paired_snoc ((hp.same s2).off ⟨_, carryNew np e1⟩ Off.lock) ?_
      rw [upd_ne (ne_of_none e1 np).symm]
      exact upd_same
  · rintro H' ⟨s1, ts, e1, hl, hp⟩
    rw [List.length_map, List.take_length] at hp
    exact hq D ts H' (s0.free hD) e1 hp (s0.trans s1)
/-- [a tuple for x in a fresh dict if ..] -/
theorem lc_stpK {l : List (Int × Int)} {te : TE} {i : Nat} {tt : TT} {tv : TE} {vs : List Nat} {σ : L2.St} {H0 H : Hp} {Q : VK} (c : Int → Bool) (sf : Int → Stp)
    (hte : ∀ R : VK, (∀ d od, H d = none → R (.ref d) (upd H d (.frz od (.dK (kvI l))))) → te σ H0 R)
    (hw : ∀ a, wipe ((wipe σ vs).set i a) vs = wipe σ vs)
    (hb : ∀ (x : Int) (H1 : Hp), Same H H1 → (∀ R : Bool → Hp → Prop, R (c x) H1 → tt ((wipe σ vs).set i (some (.int x))) H1 R) ∧ ∀ R : VK, (∀ p, H1 p = none → R (.ref p) (upd H1 p (.tup (Stp.vs (sf x))))) → tv ((wipe σ vs).set i (some (.int x))) H1 R)
    (hz : l.length < sizeLine)
    (hq : ∀ D ts H', H D = none → H' D = some (.lst (ts.map V.ref)) → StpsAt H' ts ((l.filter fun p => c p.1).map fun p => sf p.1) → Same H H' → Q (.ref D) H') :
    tLc (iKeys te) (gName i) tt tv vs σ H0 Q := by
  refine hte _ fun d od hd => ⟨d, od, rfl, .inl ⟨kvI l, upd_same, fun D hD => ?_⟩⟩
  have hDd : D ≠ d := fun e => by rw [e, upd_same] at hD; cases hD
  have hD0 : H D = none := by rw [upd_ne hDd] at hD; exact hD
  refine lc_it walk_keys (fun k H' => H' d = some (.frz od (.dK (kvI l))) ∧ Same H H' ∧ ∃ ts : List Addr, H' D = some (.lst (ts.map V.ref)) ∧ ts.length ≤ k ∧ StpsAt H' ts (((l.take k).filter fun p => c p.1).map fun p => sf p.1)) ⟨?_, Same.put (Same.new hd) hD0, [], upd_same, Nat.le_refl _, .nil⟩ (fun k H' _ p => p.1) ?_ ?_
  · rw [upd_ne hDd.symm]; exact upd_same
  · rintro k v H' H'' hk ⟨p1, s1, ts, e1, hl, hp⟩ ⟨rfl, kk, vv, ev, rfl⟩
    obtain ⟨x, y, exy, rfl, rfl⟩ := kvI_get ev
    rw [kvI_length] at hk
    refine ⟨hw _, ?_⟩
    obtain ⟨b1, b2⟩ := hb x _ s1
    refine b1 _ ?_
    have st : ((l.take (k + 1)).filter fun p => c p.1) = ((l.take k).filter fun p => c p.1) ++ if c x = true then [(x, y)] else [] := by
      rw [take_more exy, List.filter_append]
      congr 1
      cases hc : c x <;> simp [hc]
    cases hc : c x with
    | true =>
      rw [hc, if_pos rfl] at st
      refine iteT (b2 _ fun p np => ⟨_, carryNew np e1, by rw [List.length_map]; omega, ?_⟩)
      have s2 : Same H'' (upd H'' p (.tup (Stp.vs (sf x)))) := Same.new np
      refine ⟨?_, Same.put (s1.trans s2) hD0, ts ++ [p], ?_, ?_, ?_⟩
      · rw [upd_ne hDd.symm]; exact s2 _ _ p1
      · rw [upd_same, List.map_append]; rfl
      · rw [List.length_append, List.length_singleton]; omega
      · rw [st, List.map_append]
        refine paired_snoc ((hp.same s2).off ⟨_, carryNew np e1⟩ Off.lock) ?_
        rw [upd_ne (ne_of_none e1 np).symm]
        exact upd_same
    | false =>
      rw [hc, if_neg Bool.false_ne_true, List.append_nil] at st
      refine iteF ⟨p1, s1, ts, e1, by omega, ?_⟩
      rw [st]
      exact hp
  · rintro H' ⟨p1, s1, ts, e1, hl, hp⟩
    rw [kvI_length, List.take_length] at hp
    exact hq D ts H' hD0 e1 hp s1
def wParts (C : Addr) : Addr → Addr → Int → PF → PF → Hp → VK → Prop := fun _ _ n f g H Q => (srcB n f g = false ∧ ∀ H', Same H H' → Q .non H') ∨
  (srcB n f g = true ∧ ∀ l rs H', Same H H' → H l = none → H' l = some (.lst (rs.map V.ref)) → RowsAt H' rs (partsL n (lnk n f g)) → (∀ a ∈ rs, H a = none ∧ a ≠ l) → Q (.ref l) H')
def wDist : Addr → Addr → Int → PF → PF → Hp → VK → Prop := fun _ _ n f g H Q => (srcB n f g = false ∧ ∀ H', Same H H' → Q .non H') ∨ (srcB n f g = true ∧ ∀ H', Same H H' → Q (.int (distI n f g)) H')
def spForg (C : Addr) : Sp := fun vs H Q _ => ∃ a b n f g, vs = [.ref a, .ref b] ∧ IsMap C H a n f ∧ IsMap C H b n g ∧ ∀ l ts H', Same H H' → H l = none → H' l = some (.lst (ts.map V.ref)) → StpsAt H' ts (fgL n f g) → Q (.ref l) H'
def spSwS : Sp := fun vs H Q _ => ∃ x y : Int, vs = [.int x, .int y] ∧ ∀ p, H p = none → Q (.ref p) (upd H p (.tup (Stp.vs (swS x y))))
theorem parts_count {n : Int} {f : PF} (w : WF n f) (h : 0 ≤ n) : (partsL n f).length ≤ n.toNat := by
  have d := dec_parts w
  have h1 : (partsL n f).flatten.length ≤ n.toNat := len_range d.nd fun x hx => (d.mem x).mp hx
  have h2 : ∀ A : List (List Int), (∀ r ∈ A, r ≠ []) → A.length ≤ A.flatten.length := fun A => by
    induction A with
    | nil => exact fun _ => Nat.le_refl _
    | cons r A ih =>
      intro h
      have h3 : 0 < r.length := List.length_pos_iff.mpr (h r (List.mem_cons_self ..))
      have := ih fun s hs => h s (List.mem_cons_of_mem _ hs)
      rw [List.flatten_cons, List.length_append, List.length_cons]
      omega
  exact Nat.le_trans (h2 _ d.ne) h1
section
variable {P : Program} {w : World} {K : PySem.W.Frag} {mg : Str → Option Value} {base : Heap}
theorem ok_parts_between (T : Txt K mg) : FnR P w K mg base (L2.CX P w) 8 T.f_parts_between (sp2 T.C_Map T.C_InvalidMap T.C_SizeMismatch (wParts T.C_Map)) := by
  refine T.A_parts_between.okX sc_parts_between (fun vs H Q E h => ?_) (fun cdv A outer s H vs Q E hr h => ?_)
  · obtain ⟨x, y, rfl, _⟩ := h
    rfl
  · obtain ⟨x, y, rfl, h⟩ := h
    refine ⟨_, (pss_cons (ps_expr (pe_callR (ok2_check_maps T) (hr.mono (by decide)) T.A_check_maps.kp rfl T.g_check_maps (passes_call (takes_of rfl rfl rfl rfl) (fun _ _ _ _ h => h)) (pa_cons (pv 0) (pa_cons (pv 1) pa_nil))))
      (pss_cons (ps_set (i := 2) sc_parts_between.nd rfl (Or.inl rfl) (pe_callR (ok_link_of T) (hr.mono (by decide)) T.A_link_of.kp rfl T.g_link_of pass0 (pa_cons (pv 0) (pa_cons (pv 1) pa_nil))))
      (pss_cons (ps_if (pt_cmpR op_isN (pv 2) pe_non (nomark _))
        (pss_one (ps_ret pe_non)) pss_nil)
      (pss_cons (ps_asg (pe_callR (ok_parts_of T) (hr.mono (by decide)) T.A_parts_of.kp rfl T.g_parts_of pass0 (pa_cons (pv 2) pa_nil)) (pg_tup rfl (pgs_cons (pg_name (i := 3) sc_parts_between.nd rfl (Or.inl rfl)) (pgs_cons (pg_name (i := 4) sc_parts_between.nd rfl (Or.inl rfl)) pgs_nil))))
      (pss_one (ps_ret (pe_op op_cat (pv 3) (pv 4)))))))), ?_⟩
    refine ⟨_, rfl, _, rfl, _, _, rfl, ?_⟩
    rcases h with h | ⟨a, b, n, f, g, rfl, rfl, ha, hb, h⟩
    · exact .inl h
    refine .inr ⟨a, b, n, f, g, rfl, rfl, ha, hb, ?_⟩
    refine ⟨_, rfl, _, rfl, a, b, n, f, g, rfl, ha, hb, ?_⟩
    rcases h with ⟨hs, q⟩ | ⟨hs, q⟩
    · exact .inl ⟨hs, fun H1 s1 => ⟨_, rfl, rfl, _, rfl, iteT (q H1 s1)⟩⟩
    · refine .inr ⟨hs, fun r H1 s1 hm => ⟨_, rfl, rfl, _, rfl, iteF ?_⟩⟩
      refine ⟨_, rfl, r, n, _, rfl, hm, fun t lc lh cs hs' H2 s2 et ec eh rc rh nc nh ne wc wh => ?_⟩
      refine ⟨t, _, rfl, SqT.of et, rfl, _, _, rfl, _, _, rfl, rfl, ?_⟩
      have h1 := rc.len
      have h2 := rh.len
      have h3 := parts_count hm.wf (by have := hm.lo; omega)
      have hi := hm.hi
      unfold partsL at h3
      rw [List.length_append] at h3
      refine ⟨_, rfl, _, rfl, lc, lh, _, _, rfl, rfl, ec, eh, ?_, fun p np => ?_⟩
      · rw [List.length_map, List.length_map, h1, h2]
        exact Nat.le_trans (by omega : _ ≤ 1000) (by decide)
      have s3 : Same H2 (upd H2 p (.lst (cs.map V.ref ++ hs'.map V.ref))) := Same.new np
      refine q p (cs ++ hs') _ ((s1.trans s2).trans s3) ((s1.trans s2).free np) (by rw [upd_same, List.map_append]) ?_ fun x hx => ?_
      · exact (rows_app rc rh).same s3
      · rcases List.mem_append.mp hx with hx | hx
        · obtain ⟨r', _, er⟩ := rc.mem hx
          exact ⟨s1.free (wc x hx).1, (ne_of_none er np)⟩
        · obtain ⟨r', _, er⟩ := rh.mem hx
          exact ⟨s1.free (wh x hx).1, (ne_of_none er np)⟩
theorem ok_distance (T : Txt K mg) : FnR P w K mg base (L2.CX P w) 9 T.f_distance (sp2 T.C_Map T.C_InvalidMap T.C_SizeMismatch wDist) := by
  refine T.A_distance.okX sc_distance (fun vs H Q E h => ?_) (fun cdv A outer s H vs Q E hr h => ?_)
  · obtain ⟨x, y, rfl, _⟩ := h
    rfl
  · obtain ⟨x, y, rfl, h⟩ := h
    refine ⟨_, (pss_cons (ps_set (i := 2) sc_distance.nd rfl (Or.inl rfl) (pe_callR (ok_parts_between T) (hr.mono (by decide)) T.A_parts_between.kp rfl T.g_parts_between (passes_call (takes_of rfl rfl rfl rfl) (fun _ _ _ _ h => h)) (pa_cons (pv 0) (pa_cons (pv 1) pa_nil))))
      (pss_one (ps_ret (pe_ifExp (pt_cmpR op_isN (pv 2) pe_non (nomark _)) pe_non (pe_op op_sub (pe_op op_add (pe_op op_sub (pe_callB (call_lenO T.m_Map__len T.i_Map__len (ok_len T) (hr.mono (by decide)) pass0) (by rfl) T.n_len (by decide +kernel) (pa_cons (pv 0) pa_nil)) (pe_callB (call_lenO T.m_Map__len T.i_Map__len (ok_len T) (hr.mono (by decide)) pass0) (by rfl) T.n_len (by decide +kernel) (pa_cons (pv 1) pa_nil))) (pe_propR (pv 0) T.o_Map.cl T.P_Map_size (ok_size T) (hr.mono (by decide)))) (pe_callB call_len_seq (by rfl) T.n_len (by decide +kernel) (pa_cons (pv 2) pa_nil))))))), ?_⟩
    refine ⟨_, rfl, _, rfl, _, _, rfl, ?_⟩
    rcases h with h | ⟨a, b, n, f, g, rfl, rfl, ha, hb, h⟩
    · exact .inl h
    refine .inr ⟨a, b, n, f, g, rfl, rfl, ha, hb, ?_⟩
    rcases h with ⟨hs, q⟩ | ⟨hs, q⟩
    · exact .inl ⟨hs, fun H1 s1 => ⟨_, rfl, rfl, _, rfl, iteT (q H1 s1)⟩⟩
    · refine .inr ⟨hs, fun l rs H1 s1 nl el rr nw => ⟨_, rfl, rfl, _, rfl, iteF ?_⟩⟩
      have ha1 := ha.same s1
      have hb1 := hb.same s1
      dsimp only [tOp, tRet, tNext]
      refine len_V rfl ha1 (len_V rfl hb1 ?_)
      refine ⟨_, _, rfl, rfl, ?_⟩
      refine size_R (K := K) rfl ha1 ?_
      refine ⟨_, _, rfl, rfl, _, rfl, l, _, rfl, .inl (SqL.of el), _, _, rfl, rfl, ?_⟩
      rw [List.length_map, rr.len]
      exact q H1 s1
end
end My
set_option maxHeartbeats 1000000
namespace My
open PySem L2 U StX PM
theorem sm_len : ∀ (A : List (List Int)), (∀ r ∈ A, r ≠ []) → sm (A.map (·.length)) + A.length = A.flatten.length
  | [], _ => rfl
  | r :: A, h => by
    have h3 : 0 < r.length := List.length_pos_iff.mpr (h r (List.mem_cons_self ..))
    have := sm_len A fun s hs => h s (List.mem_cons_of_mem _ hs)
    rw [List.flatten_cons, List.length_append, List.length_cons]
    show (r.length - 1) + sm (A.map (·.length)) + (A.length + 1) = _
    omega
theorem Dec.len {n : Int} {f : PF} {A : List (List Int)} (d : Dec n f A) : A.flatten.length = n.toNat := by
  have nd : (rgI n.toNat).Nodup := nodup_of_lt (rgI_lt _)
  have := ((List.perm_ext_iff_of_nodup d.nd nd).mpr fun x => by rw [d.mem, mem_rgI]; omega).length_eq
  rw [this]
  simp [rgI]
noncomputable def lensL (n : Int) (f : PF) : List Nat := (partsL n f).map (·.length)
theorem sm_parts {n : Int} {f : PF} (w : WF n f) : sm (lensL n f) + (partsL n f).length = n.toNat := by
  have d := dec_parts w
  rw [← d.len]
  exact sm_len _ d.ne
/-- the sources that the goal lacks -/
theorem fg_len {n : Int} {f g : PF} (w : WF n f) (wg : WF n g) (hs : ∀ x y, g x = some y → ∃ z, f x = some z) : (((fgL n f g).length : Nat) : Int) = lenF n f - lenF n g := by
  have h1 : (tab n f).length = ((tab n f).filter fun p => (g p.1).isNone).length + ((tab n f).filter fun p => (g p.1).isSome).length := by
    induction tab n f with
    | nil => rfl
    | cons p r ih =>
      rw [List.filter_cons, List.filter_cons, List.length_cons, ih]
      cases g p.1 <;> simp <;> omega
  have h2 : ((tab n f).filter fun p => (g p.1).isSome).length = (tab n g).length := by
    have k1 : (((tab n f).filter fun p => (g p.1).isSome).map (·.1)).Nodup := (keys_tab n f).sublist ((List.filter_sublist).map _)
    have := ((List.perm_ext_iff_of_nodup k1 (keys_tab n g)).mpr fun x => by
      constructor
      · intro h
        obtain ⟨⟨a, b⟩, hp, rfl⟩ := List.mem_map.mp h
        obtain ⟨_, h4⟩ := List.mem_filter.mp hp
        obtain ⟨y, hy⟩ := Option.isSome_iff_exists.mp h4
        exact List.mem_map.mpr ⟨(a, y), (mem_tab wg).mpr hy, rfl⟩
      · intro h
        obtain ⟨⟨a, b⟩, hp, rfl⟩ := List.mem_map.mp h
        have h4 := (mem_tab wg).mp hp
        obtain ⟨z, hz⟩ := hs a b h4
        exact List.mem_map.mpr ⟨(a, z), List.mem_filter.mpr ⟨(mem_tab w).mpr hz, by dsimp only; rw [h4]; rfl⟩, rfl⟩).length_eq
    rw [List.length_map, List.length_map] at this
    exact this
  unfold fgL lenF
  rw [List.length_map]
  omega
noncomputable def dN (n : Int) (f g : PF) : Nat := (fgL n f g).length + sm (lensL n (lnk n f g))
theorem dist_nat {n : Int} {f g : PF} (w : WF n f) (wg : WF n g) (hs : ∀ x y, g x = some y → ∃ z, f x = some z) (h0 : 0 ≤ n) : distI n f g = ((dN n f g : Nat) : Int) := by
  have h1 := fg_len w wg hs
  have h2 := sm_parts (wf_lnk w wg)
  unfold distI dN
  omega
/-- numbers that stay small enough -/
theorem pow_le5 {L : Nat} (h : L ≤ 30) (k : Nat) : L ^ k ≤ 2 ^ (5 * k) := by
  rw [Nat.pow_mul]
  exact Nat.pow_le_pow_left (by omega) k
theorem fold_le : ∀ (Ls : List Nat) (v : Nat), (∀ L ∈ Ls, L ≤ 30) → Ls.foldl cstep v ≤ v * 2 ^ (5 * Ls.sum)
  | [], v, _ => by show v ≤ v * 2 ^ 0; omega
  | L :: r, v, h => by
    have ih := fold_le r (cstep v L) fun x hx => h x (List.mem_cons_of_mem _ hx)
    have h1 : cstep v L ≤ v * 2 ^ (5 * L) := by
      unfold cstep
      by_cases hl : 1 < L
      · rw [if_pos hl]
        refine Nat.le_trans (Nat.div_le_self _ _) (Nat.mul_le_mul_left _ ?_)
        refine Nat.le_trans (pow_le5 (h L (List.mem_cons_self ..)) _) (Nat.pow_le_pow_right (by decide) (by omega))
      · rw [if_neg hl]
        exact Nat.le_mul_of_pos_right _ (Nat.two_pow_pos _)
    show r.foldl cstep (cstep v L) ≤ _
    refine Nat.le_trans ih ?_
    rw [List.sum_cons, Nat.mul_add, Nat.pow_add, ← Nat.mul_assoc]
    exact Nat.mul_le_mul_right _ h1
theorem sum_take_le : ∀ (Ls : List Nat) (i : Nat), (Ls.take i).sum ≤ Ls.sum
  | [], i => by rw [List.take_nil]; exact Nat.le_refl _
  | L :: r, 0 => Nat.zero_le _
  | L :: r, i + 1 => by
    rw [List.take_succ_cons, List.sum_cons, List.sum_cons]
    have := sum_take_le r i
    omega
theorem mem_le_sum : ∀ {Ls : List Nat} {L : Nat}, L ∈ Ls → L ≤ Ls.sum
  | x :: r, L, h => by
    rw [List.sum_cons]
    rcases List.mem_cons.mp h with e | h
    · omega
    · have := mem_le_sum h
      omega
theorem sum_lens (A : List (List Int)) : (A.map (·.length)).sum = A.flatten.length := by
  rw [List.length_flatten]
theorem cnt_lt {n : Int} {f : PF} (w : WF n f) (h30 : n ≤ 30) {d : Nat} (hd : d ≤ 60) (i : Nat) : cntV d ((lensL n f).take i) < 2 ^ 700 := by
  have hs : (lensL n f).sum = n.toNat := by
    unfold lensL
    rw [sum_lens, (dec_parts w).len]
  have hm : ∀ L ∈ lensL n f, L ≤ 30 := fun L hL => by
    have : L ≤ (lensL n f).sum := mem_le_sum hL
    omega
  have h1 := fold_le ((lensL n f).take i) (fc d) fun L hL => hm L (List.mem_of_mem_take hL)
  have h2 := factN_lt d (by omega)
  rw [← fc_fact] at h2
  have h3 := sum_take_le (lensL n f) i
  refine Nat.lt_of_le_of_lt h1 ?_
  have h4 : fc d * 2 ^ (5 * ((lensL n f).take i).sum) < 2 ^ (9 * d + 1) * 2 ^ (5 * ((lensL n f).take i).sum) := Nat.mul_lt_mul_of_pos_right h2 (Nat.two_pow_pos _)
  refine Nat.lt_of_lt_of_le h4 ?_
  rw [← Nat.pow_add]
  exact Nat.pow_le_pow_right (by decide) (by omega)
def wCnt : Addr → Addr → Int → PF → PF → Hp → VK → Prop := fun _ _ n f g H Q => n ≤ 30 ∧ ((srcB n f g = false ∧ ∀ H', Same H H' → Q (.int 0) H') ∨ (srcB n f g = true ∧ ∀ H', Same H H' → Q (.int ((cntV (dN n f g) (lensL n (lnk n f g)) : Nat) : Int)) H'))
section
variable {P : Program} {w : World} {K : PySem.W.Frag} {mg : Str → Option Value} {base : Heap}
theorem ok_forgotten (T : Txt K mg) : FnR P w K mg base CX0 3 T.f_forgotten (spForg T.C_Map) := by
  refine T.A_forgotten.ok sc_forgotten (fun vs H Q E h => ?_) (fun cdv A outer s H vs Q E hr h => ?_)
  · obtain ⟨a, b, n, f, g, rfl, _⟩ := h
    rfl
  · obtain ⟨a, b, n, f, g, rfl, ha, hb, q⟩ := h
    have hu := hu_of hr
    refine ⟨_, (pss_cons (ps_set (i := 2) sc_forgotten.nd rfl (Or.inr rfl) (pe_propR (pv 1) T.o_Map.cl T.P_Map_arrows (ok_arrows T) (hr.mono (by decide))))
      (pss_one (ps_ret (pe_lc (own := [("source", 3)]) (g := (gName 3)) rfl sc_forgotten.nd (pi_keys (pe_frz (pe_propR (pv 0) T.o_Map.cl T.P_Map_arrows (ok_arrows T) (hr.mono (by decide))))) (blkOk_by (own := [("source", 3)]) (N := n_forgotten) (sc := defScope s_forgotten) (by decide +kernel)) (fun _ _ _ _ _ => (pg_name (i := 3) sc_forgotten.nd rfl (Or.inl rfl))) (fun _ _ _ _ _ => (pts_one (pt_cmp (pc_dnotin hu (pv 3) (pv 2))))) (fun _ _ _ _ _ => (pe_tup (pa_cons pe_str (pa_cons (pv 3) pa_nil)))))))), ?_⟩
    obtain ⟨dx, fs, h1⟩ := at_map ha
    obtain ⟨dy, gs, h2⟩ := at_map hb
    have hi := ha.hi
    have tl := tab_len n f
    refine ⟨_, rfl, b, dy, gs, rfl, h2, b, n, g, rfl, hb, fun G nG => ?_⟩
    have s1 : Same H (upd H G (.dK (kvI (tab n g)))) := Same.new nG
    have hG : (upd H G (.dK (kvI (tab n g)))) G = some (.dK (kvI (tab n g))) := upd_same
    generalize upd H G (.dK (kvI (tab n g))) = H1 at s1 hG
    dsimp only [tRet]
    refine lc_stpK (l := tab n f) (fun x => (g x).isNone) (fun x => .fg x) (fun R r => ?_) (fun _ => rfl) (fun x H2 s2 => ⟨fun R r => ?_, fun R r => ?_⟩) (small1000 (by omega)) (fun D ts H2 nD hD hp s2 => q D ts H2 (s1.trans s2) (s1.free nD) hD hp)
    · refine ⟨_, rfl, a, dx, fs, rfl, s1 _ _ h1, a, n, f, rfl, ha.same s1, fun p hp => ⟨p, _, rfl, upd_same, trivial, fun od => ?_⟩⟩
      rw [upd_upd]
      exact r p od hp
    · refine ⟨_, rfl, _, rfl, G, _, rfl, DGet.k (k := Sum.inl x) (s2 _ _ hG), _, rfl, ?_⟩
      rw [valV_kvI, Option.isSome_map, lk_tab hb.wf]
      have : (!(g x).isSome) = (g x).isNone := by cases g x <;> rfl
      rw [this]
      exact r
    · exact ⟨_, rfl, (by show 2 ≤ sizeLine; decide), r⟩
theorem ok_swap_of (T : Txt K mg) : FnR P w K mg base CX0 1 T.f_swap_of spSwS := by
  refine T.A_swap_of.ok sc_swap_of (fun vs H Q E h => ?_) (fun cdv A outer s H vs Q E hr h => ?_)
  · obtain ⟨x, y, rfl, _⟩ := h
    rfl
  · obtain ⟨x, y, rfl, q⟩ := h
    refine ⟨_, (pss_one (ps_ret (pe_ifExp (pt_cmpR op_lt (pv 0) (pv 1) (nomark _)) (pe_tup (pa_cons pe_str (pa_cons (pv 0) (pa_cons (pv 1) pa_nil)))) (pe_tup (pa_cons pe_str (pa_cons (pv 1) (pa_cons (pv 0) pa_nil))))))), ?_⟩
    refine ⟨_, rfl, _, rfl, _, _, rfl, rfl, _, rfl, ?_⟩
    by_cases hlt : x < y
    · rw [decide_eq_true hlt]
      refine iteT ?_
      unfold swS at q
      rw [if_pos hlt] at q
      exact ⟨_, rfl, _, rfl, (by show 3 ≤ sizeLine; decide), q⟩
    · rw [decide_eq_false hlt]
      refine iteF ?_
      unfold swS at q
      rw [if_neg hlt] at q
      exact ⟨_, rfl, _, rfl, (by show 3 ≤ sizeLine; decide), q⟩
set_option pp.maxSteps 3000 in
theorem ok_count_shortest (T : Txt K mg) : FnR P w K mg base (L2.CX P w) 10 T.f_count_shortest (sp2 T.C_Map T.C_InvalidMap T.C_SizeMismatch wCnt) := by
  refine T.A_count_shortest.okX sc_count_shortest (fun vs H Q E h => ?_) (fun cdv A outer s H vs Q E hr h => ?_)
  · obtain ⟨x, y, rfl, _⟩ := h
    rfl
  · obtain ⟨x, y, rfl, h⟩ := h
    refine ⟨_, (pss_cons (ps_set (i := 2) sc_count_shortest.nd rfl (Or.inl rfl) (pe_callR (ok_parts_between T) (hr.mono (by decide)) T.A_parts_between.kp rfl T.g_parts_between (passes_call (takes_of rfl rfl rfl rfl) (fun _ _ _ _ h => h)) (pa_cons (pv 0) (pa_cons (pv 1) pa_nil))))
      (pss_cons (ps_if (pt_cmpR op_isN (pv 2) pe_non (nomark _))
        (pss_one (ps_ret pe_int)) pss_nil)
      (pss_cons (ps_set (i := 3) sc_count_shortest.nd rfl (Or.inl rfl) (pe_callR (ok_factorial T) (hr.mono (by decide)) T.A_factorial.kp rfl T.g_factorial pass0 (pa_cons (pe_callR (ok_distance T) (hr.mono (by decide)) T.A_distance.kp rfl T.g_distance (passes_call (takes_of rfl rfl rfl rfl) (fun _ _ _ _ h => h)) (pa_cons (pv 0) (pa_cons (pv 1) pa_nil))) pa_nil)))
      (pss_cons (ps_for (passes_of rfl) rfl (pi_list (pv 2)) (pg_name (i := 4) sc_count_shortest.nd rfl (Or.inl rfl))
        (pss_one (ps_if (pt_cmpR op_gt (pe_callB call_len_seq (by rfl) T.n_len (by decide +kernel) (pa_cons (pv 4) pa_nil)) pe_int (nomark _))
        (pss_one (ps_set (i := 3) sc_count_shortest.nd rfl (Or.inl rfl) (pe_op L2.op_fdivW (pe_op L2.op_mulW (pv 3) (pe_callR (ok_power_of T) (hr.mono (by decide)) T.A_power_of.kp rfl T.g_power_of pass0 (pa_cons (pe_callB call_len_seq (by rfl) T.n_len (by decide +kernel) (pa_cons (pv 4) pa_nil)) (pa_cons (pe_op op_sub (pe_callB call_len_seq (by rfl) T.n_len (by decide +kernel) (pa_cons (pv 4) pa_nil)) pe_int) pa_nil)))) (pe_callR (ok_factorial T) (hr.mono (by decide)) T.A_factorial.kp rfl T.g_factorial pass0 (pa_cons (pe_op op_sub (pe_callB call_len_seq (by rfl) T.n_len (by decide +kernel) (pa_cons (pv 4) pa_nil)) pe_int) pa_nil))))) pss_nil)))
      (pss_one (ps_ret (pv 3))))))), ?_⟩
    refine ⟨_, rfl, _, rfl, _, _, rfl, ?_⟩
    rcases h with h | ⟨a, b, n, f, g, rfl, rfl, ha, hb, h30, h⟩
    · exact .inl h
    refine .inr ⟨a, b, n, f, g, rfl, rfl, ha, hb, ?_⟩
    rcases h with ⟨hs, q⟩ | ⟨hs, q⟩
    · exact .inl ⟨hs, fun H1 s1 => ⟨_, rfl, rfl, _, rfl, iteT (q H1 s1)⟩⟩
    · refine .inr ⟨hs, fun l rs H1 s1 nl el rr nw => ⟨_, rfl, rfl, _, rfl, iteF ?_⟩⟩
      have ha1 := ha.same s1
      have hb1 := hb.same s1
      dsimp only [tNext, tSeq]
      refine ⟨_, rfl, _, rfl, _, _, rfl, .inr ⟨a, b, n, f, g, rfl, rfl, ha1, hb1, .inr ⟨hs, fun H2 s2 => ?_⟩⟩⟩
      have hsr := (srcB_iff hb.wf).mp hs
      have h0 : 0 ≤ n := by have := ha.lo; omega
      have ed := dist_nat ha.wf hb.wf hsr h0
      have hd60 : dN n f g ≤ 60 := by
        have h3 := fg_len ha.wf hb.wf hsr
        have h4 := sm_parts (wf_lnk ha.wf hb.wf)
        have h5 := lenF_le n f h0
        have h6 := lenF_le n g h0
        unfold dN
        omega
      refine ⟨dN n f g, by rw [ed], by omega, ?_⟩
      have el2 := s2 _ _ el
      have rr2 := rr.same s2
      dsimp only [tSeq, gName]
      refine ⟨_, rfl, l, rfl, ⟨_, SqL.of el2⟩, ?_⟩
      refine for_it (walk_list (xs := rs.map V.ref)) (fun i σ H' => ∃ v4, σ = [some (.ref a), some (.ref b), some (.ref l), some (.int ((cntV (dN n f g) ((lensL n (lnk n f g)).take i) : Nat) : Int)), v4] ∧ H' = H2) ⟨_, by rw [← fc_fact]; rfl, rfl⟩ (fun i σ H' _ ⟨_, _, e⟩ => by rw [e]; exact SqL.of el2) ?_ ?_
      · rintro i v σ Ha0 Ha hi ⟨v4, rfl, rfl⟩ ⟨rfl, ev⟩
        rw [List.getElem?_map] at ev
        obtain ⟨t, et, rfl⟩ := Option.map_eq_some_iff.mp ev
        obtain ⟨r, er, hr2⟩ := rr2.get i t et
        have eL : (lensL n (lnk n f g))[i]? = some r.length := by
          unfold lensL
          rw [List.getElem?_map, er]
          rfl
        have hl30 : r.length ≤ 30 := by
          have h7 : r.length ≤ (lensL n (lnk n f g)).sum := mem_le_sum (List.mem_of_getElem? eL)
          unfold lensL at h7
          rw [sum_lens, (dec_parts (wf_lnk ha.wf hb.wf)).len] at h7
          omega
        have stp : cntV (dN n f g) ((lensL n (lnk n f g)).take (i + 1)) = cstep (cntV (dN n f g) ((lensL n (lnk n f g)).take i)) r.length := foldl_snoc cstep _ _ eL
        have hlt := cnt_lt (wf_lnk ha.wf hb.wf) h30 hd60 i
        refine ⟨_, rfl, t, _, rfl, .inl (SqL.of hr2), _, _, rfl, rfl, _, rfl, ?_⟩
        rw [List.length_map]
        by_cases h1 : 1 < r.length
        · rw [decide_eq_true (by omega)]
          refine iteT ?_
          have hp := pow_lt9 (b := r.length) (by omega) (r.length - 2)
          have hf := factN_lt (r.length - 1) (by omega)
          refine ⟨_, rfl, _, rfl, t, _, rfl, .inl (SqL.of hr2), _, rfl, t, _, rfl, .inl (SqL.of hr2), _, _, rfl, rfl, r.length, r.length - 2, ?_, by omega, by omega, ?_⟩
          · rw [List.length_map]
            congr 2
            have : ((r.length : Nat) : Int) - 2 = ((r.length - 2 : Nat) : Int) := by omega
            show V.int (_ - 2) = _
            rw [this]
          refine ⟨_, _, rfl, rfl, wide_mul (nat_abs_lt hlt) (nat_abs_lt hp) (by decide) (by omega) (by omega), ?_⟩
          refine ⟨_, rfl, t, _, rfl, .inl (SqL.of hr2), _, _, rfl, rfl, r.length - 1, ?_, by omega, ?_⟩
          · rw [List.length_map]
            congr 2
            have : ((r.length : Nat) : Int) - 1 = ((r.length - 1 : Nat) : Int) := by omega
            show V.int (_ - 1) = _
            rw [this]
          refine ⟨_, _, rfl, rfl, wide_div ?_ (nat_abs_lt hf) (by omega) (by omega), ?_⟩
          · have := fc_pos (r.length - 1)
            rw [fc_fact] at this
            omega
          refine ⟨some (.ref t), ?_, rfl⟩
          rw [stp]
          unfold cstep
          rw [if_pos h1, fc_fact, Int.natCast_ediv, Int.natCast_mul]
          rfl
        · rw [decide_eq_false (by omega)]
          refine iteF ⟨some (.ref t), ?_, rfl⟩
          rw [stp]
          unfold cstep
          rw [if_neg h1]
          rfl
      · rintro σ Ha ⟨v4, rfl, rfl⟩
        have : (lensL n (lnk n f g)).take (rs.map V.ref).length = lensL n (lnk n f g) := by
          rw [List.length_map, rr.len]
          unfold lensL
          rw [← List.length_map (f := fun r : List Int => r.length) (as := partsL n (lnk n f g)), List.take_length]
        rw [this]
        exact ⟨_, rfl, q _ (s1.trans s2)⟩
end
end My
set_option maxHeartbeats 1000000
namespace My
open PySem L2 U StX PM
theorem cut_drop (xs : List V) (k : Nat) (h : k ≤ xs.length) : cutV xs (some (k : Int)) none = xs.drop k := by
  have h1 : HT.sIx xs.length 0 (some (k : Int)) = k := by
    show (if (k : Int) < 0 then ((k : Int) + ((xs.length : Nat) : Int)).toNat else min (k : Int).toNat xs.length) = k
    rw [if_neg (by omega)]
    omega
  unfold cutV
  rw [h1, HT.sIx_none]
  exact List.take_of_length_le (by rw [List.length_drop]; omega)
theorem cut_take (xs : List V) (k : Nat) (h : k ≤ xs.length) : cutV xs none (some (k : Int)) = xs.take k := by
  have h1 : HT.sIx xs.length xs.length (some (k : Int)) = k := by
    show (if (k : Int) < 0 then ((k : Int) + ((xs.length : Nat) : Int)).toNat else min (k : Int).toNat xs.length) = k
    rw [if_neg (by omega)]
    omega
  unfold cutV
  rw [h1, HT.sIx_none]
  rfl
/-- the exchanges that a row asks for -/
def swL (r : List Int) : List Stp := (r.drop 1).map fun e => swS ((r[0]?).getD 0) e
noncomputable def stepsL (n : Int) (f g : PF) : List Stp := (partsL n (lnk n f g)).flatMap swL ++ fgL n f g
theorem swL_len (r : List Int) : (swL r).length = r.length - 1 := by
  unfold swL
  rw [List.length_map, List.length_drop]
theorem flat_le : ∀ (A : List (List Int)) (i : Nat), ((A.take i).flatMap swL).length ≤ A.flatten.length
  | [], i => by rw [List.take_nil]; exact Nat.le_refl _
  | r :: A, 0 => Nat.zero_le _
  | r :: A, i + 1 => by
    rw [List.take_succ_cons, List.flatMap_cons, List.length_append, swL_len, List.flatten_cons, List.length_append]
    have := flat_le A i
    omega
def wSteps : Addr → Addr → Int → PF → PF → Hp → VK → Prop := fun _ _ n f g H Q => (srcB n f g = false ∧ ∀ H', Same H H' → Q .non H') ∨
  (srcB n f g = true ∧ ∀ l ts H', Same H H' → H l = none → H' l = some (.lst (ts.map V.ref)) → StpsAt H' ts (stepsL n f g) → Q (.ref l) H')
theorem fg_le {n : Int} {f g : PF} : (fgL n f g).length ≤ n.toNat := by
  unfold fgL
  rw [List.length_map]
  exact Nat.le_trans (List.length_filter_le _ _) (tab_len n f)
section
variable {P : Program} {w : World} {K : PySem.W.Frag} {mg : Str → Option Value} {base : Heap}
set_option pp.maxSteps 3000 in
theorem ok_steps (T : Txt K mg) : FnR P w K mg base (L2.CX P w) 9 T.f_steps (sp2 T.C_Map T.C_InvalidMap T.C_SizeMismatch wSteps) := by
  refine T.A_steps.okX sc_steps (fun vs H Q E h => ?_) (fun cdv A outer s H vs Q E hr h => ?_)
  · obtain ⟨x, y, rfl, _⟩ := h
    rfl
  · obtain ⟨x, y, rfl, h⟩ := h
    refine ⟨_, (pss_cons (ps_set (i := 2) sc_steps.nd rfl (Or.inl rfl) (pe_callR (ok_parts_between T) (hr.mono (by decide)) T.A_parts_between.kp rfl T.g_parts_between (passes_call (takes_of rfl rfl rfl rfl) (fun _ _ _ _ h => h)) (pa_cons (pv 0) (pa_cons (pv 1) pa_nil))))
      (pss_cons (ps_if (pt_cmpR op_isN (pv 2) pe_non (nomark _))
        (pss_one (ps_ret pe_non)) pss_nil)
      (pss_cons (ps_set (i := 3) sc_steps.nd rfl (Or.inl rfl) (pe_lst pa_nil))
      (pss_cons (ps_for (passes_of rfl) rfl (pi_list (pv 2)) (pg_name (i := 4) sc_steps.nd rfl (Or.inr rfl))
        (pss_one (ps_expr (pe_bm PySem.F.plainAttrs_list PySem.F.slot_list_extend PySem.F.type_list_extend mt_extend (pv 3) (pa_cons (pe_lc (own := [("element", 5)]) (g := (gName 5)) (tt := tYes) rfl sc_steps.nd (pi_list (pe_slice sl_list (pv 4) (po_some pe_int) po_none)) (blkOk_by (own := [("element", 5)]) (N := n_steps) (sc := defScope s_steps) (by decide +kernel)) (fun _ _ _ _ _ => (pg_name (i := 5) sc_steps.nd rfl (Or.inl rfl))) (fun _ _ _ _ _ => pts_nil) (fun _ _ _ _ _ => (pe_callR (ok_swap_of T) (hr.mono (by decide)) T.A_swap_of.kp rfl T.g_swap_of pass0 (pa_cons (pe_ix (ix_listK (K := K) rfl) (pv 4) pe_int (fun _ _ => rfl)) (pa_cons (pv 5) pa_nil))))) pa_nil)))))
      (pss_one (ps_ret (pe_op op_cat (pv 3) (pe_callR (ok_forgotten T) (hr.mono (by decide)) T.A_forgotten.kp rfl T.g_forgotten pass0 (pa_cons (pv 0) (pa_cons (pv 1) pa_nil)))))))))), ?_⟩
    refine ⟨_, rfl, _, rfl, _, _, rfl, ?_⟩
    rcases h with h | ⟨a, b, n, f, g, rfl, rfl, ha, hb, h⟩
    · exact .inl h
    refine .inr ⟨a, b, n, f, g, rfl, rfl, ha, hb, ?_⟩
    rcases h with ⟨hs, q⟩ | ⟨hs, q⟩
    · exact .inl ⟨hs, fun H1 s1 => ⟨_, rfl, rfl, _, rfl, iteT (q H1 s1)⟩⟩
    · refine .inr ⟨hs, fun l rs H1 s1 nl el rr nw => ⟨_, rfl, rfl, _, rfl, iteF ?_⟩⟩
      have lo := ha.lo
      have hi := ha.hi
      have wl := wf_lnk ha.wf hb.wf
      have dl := (dec_parts wl).len
      dsimp only [tNext, tSeq]
      refine ⟨(by show 0 ≤ sizeLine; decide), fun F nF => ?_⟩
      have sF : Same H1 (upd H1 F (.lst [])) := Same.new nF
      have hF : (upd H1 F (.lst [])) F = some (.lst []) := upd_same
      generalize upd H1 F (.lst []) = H2 at sF hF
      refine ⟨_, rfl, l, rfl, ⟨_, SqL.of (sF _ _ el)⟩, ?_⟩
      refine for_it (walk_list (xs := rs.map V.ref)) (fun i σ H' => ∃ v4 v5, σ = [some (.ref a), some (.ref b), some (.ref l), some (.ref F), v4, v5] ∧ Same H1 H' ∧ ∃ ts : List Addr, H' F = some (.lst (ts.map V.ref)) ∧ StpsAt H' ts (((partsL n (lnk n f g)).take i).flatMap swL))
        ⟨_, _, rfl, sF, [], hF, .nil⟩ (fun i σ H' _ ⟨_, _, _, z, _⟩ => SqL.of (z _ _ el)) ?_ ?_
      · rintro i v σ Ha0 Ha hi' ⟨v4, v5, rfl, sa, ts, hFa, hp⟩ ⟨rfl, ev⟩
        rw [List.getElem?_map] at ev
        obtain ⟨t, et, rfl⟩ := Option.map_eq_some_iff.mp ev
        obtain ⟨r, er, hr1⟩ := rr.get i t et
        have hra := sa _ _ hr1
        have rne := (dec_parts wl).ne r (List.mem_of_getElem? er)
        have rl : 0 < r.length := List.length_pos_iff.mpr rne
        have rn : r.length ≤ n.toNat := by
          rw [← dl, ← sum_lens]
          exact mem_le_sum (List.mem_map.mpr ⟨r, List.mem_of_getElem? er, rfl⟩)
        obtain ⟨x0, hx0⟩ : ∃ x0, r[0]? = some x0 := ⟨_, List.getElem?_eq_getElem rl⟩
        have hl1 := paired_len hp
        have hl2 := flat_le (partsL n (lnk n f g)) i
        rw [dl] at hl2
        refine ⟨_, rfl, .inl ⟨rfl, _, SqL.of hFa⟩, ?_⟩
        refine lc_stp (xs := r.drop 1) (fun e => swS x0 e) (fun R rr' => ?_) (fun _ => rfl) (fun x hx H3 s3 R rr' => ?_) (small1000 (by rw [List.length_drop]; omega)) (fun D ts2 H3 nD hD hp2 s3 => ?_)
        · refine ⟨_, rfl, 1, rfl, t, _, rfl, SqL.of hra, fun p np => rr' p _ (Same.new np) ?_⟩
          rw [upd_same, show cutV (r.map V.int) (some 1) none = (r.map V.int).drop 1 from cut_drop _ 1 (by rw [List.length_map]; omega), ← List.map_drop]
        · refine ⟨_, rfl, t, _, 0, .int x0, rfl, rfl, SqL.of (s3 _ _ hra), atI_nat (j := 0) (by rw [List.getElem?_map, hx0]; rfl), _, rfl, x0, x, rfl, rr'⟩
        · have hF3 := s3 _ _ hFa
          refine ⟨F, D, _, _, rfl, rfl, hF3, hD, ?_, ?_⟩
          · rw [List.length_map, List.length_map, hl1, paired_len hp2, List.length_map, List.length_drop]
            exact Nat.le_trans (by omega : _ ≤ 1000) (by decide)
          refine ⟨_, _, rfl, Same.put (sa.trans s3) nF, ts ++ ts2, by rw [upd_same, List.map_append], ?_⟩
          have efm : ((partsL n (lnk n f g)).take (i + 1)).flatMap swL = ((partsL n (lnk n f g)).take i).flatMap swL ++ swL r := by
            rw [take_more er, List.flatMap_append]
            simp
          rw [efm]
          refine (stps_app (hp.same s3) ?_).off ⟨_, hF3⟩ Off.lock
          unfold swL
          rw [hx0]
          exact hp2
      · rintro σ Ha ⟨v4, v5, rfl, sa, ts, hFa, hp⟩
        have hl0 : (rs.map V.ref).length = (partsL n (lnk n f g)).length := by rw [List.length_map, rr.len]
        rw [hl0, List.take_length] at hp
        have hl1 := paired_len hp
        have hl2 := flat_le (partsL n (lnk n f g)) (partsL n (lnk n f g)).length
        rw [List.take_length, dl] at hl2
        have hfl := fg_le (n := n) (f := f) (g := g)
        have s1a := s1.trans sa
        refine ⟨_, rfl, _, rfl, _, rfl, a, b, n, f, g, rfl, ha.same s1a, hb.same s1a, fun l2 ts2 H4 s4 nl2 el2 hp2 => ?_⟩
        refine ⟨F, l2, _, _, rfl, rfl, s4 _ _ hFa, el2, ?_, fun p np => ?_⟩
        · rw [List.length_map, List.length_map, hl1, paired_len hp2]
          exact Nat.le_trans (by omega : _ ≤ 1000) (by decide)
        have s5 : Same H4 (upd H4 p (.lst (ts.map V.ref ++ ts2.map V.ref))) := Same.new np
        refine q p (ts ++ ts2) _ ((s1a.trans s4).trans s5) ((s1a.trans s4).free np) (by rw [upd_same, List.map_append]) ?_
        exact (stps_app (hp.same s4) hp2).same s5
end
end My
set_option maxHeartbeats 1000000
namespace My
open PySem L2 U StX PM DC2
/-- a walk, whatever is done at a turn -/
theorem any_it {J : It} {n : Nat} {G : Hp → Prop} {Y : Nat → Hp → V → Hp → Prop} (w : Walk J n G Y) {B : V → Hp → (Hp → Prop) → Prop} {H0 : Hp} {Qd : Hp → Prop} (Pv : Nat → Hp → Prop) (h0 : Pv 0 H0) (hG : ∀ i H, i ≤ n → Pv i H → G H)
    (hs : ∀ i x H H', i < n → Pv i H → Y i H x H' → B x H' (Pv (i + 1))) (hd : ∀ H, Pv n H → Qd H) :
    ∃ W : Nat → Nat → Hp → Prop, (∃ m, W 0 m H0) ∧ ∀ i m H, W i m H → (J.stop i H ∧ Qd H) ∨ (J.go i H ∧ ∃ Nx : Hp → Prop, (∀ H', Nx H' → ∃ m', m' < m ∧ W (i + 1) m' H') ∧ ∀ x H', J.yld i H x H' → B x H' Nx) := by
  refine ⟨fun i m H => n - i = m ∧ i ≤ n ∧ Pv i H, ⟨n, Nat.sub_zero n, Nat.zero_le _, h0⟩, fun i m H hW => ?_⟩
  obtain ⟨rfl, le, p⟩ := hW
  rcases Nat.lt_or_ge i n with lt | ge
  · refine .inr ⟨w.goes i H lt (hG i H le p), Pv (i + 1), fun H' p' => ⟨n - (i + 1), by omega, rfl, lt, p'⟩, fun x H' y => ?_⟩
    exact hs i x H H' lt p (w.yields i H x H' lt (hG i H le p) y)
  · have e := Nat.le_antisymm le ge
    subst e
    exact .inl ⟨w.stops H (hG i H le p), hd H p⟩
/-- the home of each element -/
def homeL (k : Nat) : List (List Int) → List (Int × Int)
  | [] => []
  | r :: A => r.map (fun x => (x, (k : Int))) ++ homeL (k + 1) A
theorem homeL_append : ∀ (A B : List (List Int)) (k : Nat), homeL k (A ++ B) = homeL k A ++ homeL (k + A.length) B
  | [], B, k => rfl
  | r :: A, B, k => by
    show r.map _ ++ homeL (k + 1) (A ++ B) = r.map _ ++ homeL (k + 1) A ++ _
    rw [homeL_append A B (k + 1), List.append_assoc, List.length_cons, show k + 1 + A.length = k + (A.length + 1) by omega]
theorem homeL_keys : ∀ (A : List (List Int)) (k : Nat), (homeL k A).map (·.1) = A.flatten
  | [], _ => rfl
  | r :: A, k => by
    show (r.map _ ++ homeL (k + 1) A).map _ = _
    rw [List.map_append, homeL_keys A (k + 1), List.flatten_cons, List.map_map]
    congr 1
    exact List.map_id r
theorem homeL_at : ∀ {A : List (List Int)} {k i : Nat} {r : List Int} {x : Int}, A[i]? = some r → x ∈ r → (x, ((k + i : Nat) : Int)) ∈ homeL k A
  | [], _, _, _, _, h, _ => nomatch h
  | s :: A, k, 0, r, x, h, hx => by
    cases h
    exact List.mem_append_left _ (List.mem_map.mpr ⟨x, hx, rfl⟩)
  | s :: A, k, i + 1, r, x, h, hx => by
    have := homeL_at (A := A) (k := k + 1) (i := i) h hx
    rw [show k + 1 + i = k + (i + 1) by omega] at this
    exact List.mem_append_right _ this
theorem homeL_len (A : List (List Int)) (k : Nat) : (homeL k A).length = A.flatten.length := by
  rw [← homeL_keys A k, List.length_map]
theorem flat_take (A : List (List Int)) (m : Nat) : ((A.take m).flatten).Sublist A.flatten := by
  conv => rhs; rw [← List.take_append_drop m A, List.flatten_append]
  exact List.sublist_append_left _ _
/-- {element: number for number, part in enumerate(parts) for element in part} -/
theorem dc_home {K : PySem.W.Frag} {ta : TA} {i j k : Nat} {vs : List Nat} {σ : L2.St} {H : Hp} {Q : VK} {l : Addr} {rs : List Addr} {A : List (List Int)}
    (hta : ∀ R : List V → Hp → Prop, R [.ref l] H → ta σ H R) (hl : H l = some (.lst (rs.map V.ref))) (hr : RowsAt H rs A) (nd : A.flatten.Nodup) (hz : A.flatten.length < sizeLine)
    (hw1 : ∀ a b, wipe (((wipe σ vs).set j a).set k b) vs = wipe σ vs) (hw2 : ∀ a b c, wipe ((wipe (((wipe σ vs).set j a).set k b) [i]).set i c) [i] = wipe (((wipe σ vs).set j a).set k b) [i])
    (hk1 : ∀ a b, (((wipe σ vs).set j a).set k b)[k]? = some b) (hk2 : ∀ a b c, ((wipe (((wipe σ vs).set j a).set k b) [i]).set i c)[i]? = some c) (hk3 : ∀ a b c, ((wipe (((wipe σ vs).set j a).set k b) [i]).set i c)[j]? = some a)
    (hq : ∀ D H', H D = none → H' D = some (.dK (kvI (homeL 0 A))) → Same H H' → Q (.ref D) H') :
    tDc2 (iEnum K ta) (gTup K 2 (gCons (gName j) (gCons (gName k) gNil))) (iList K (tVar k)) (gName i) (tVar i) (tVar j) vs [i] σ H Q := by
  refine hta _ ⟨l, _, rfl, SqL.of hl, fun D hD => ?_⟩
  have hlen := hr.len
  refine any_it (walk_enum (xs := rs.map V.ref)) (fun m H' => Same H H' ∧ H' D = some (.dK (kvI (homeL 0 (A.take m))))) ⟨Same.new hD, upd_same⟩ (fun m H' _ p => SqL.of (p.1 _ _ hl)) ?_ ?_
  · rintro m x H1 H2 hm ⟨s1, e1⟩ ⟨T, u, v, rfl, nT, rfl, eu, ev⟩
    cases eu
    replace ev : (rs.map V.ref)[m]? = some v := ev
    rw [List.getElem?_map] at ev
    obtain ⟨t, et, rfl⟩ := Option.map_eq_some_iff.mp ev
    obtain ⟨r, er, hrt⟩ := hr.get m t et
    have sT : Same H1 (upd H1 T (.tup [.int (m : Nat), .ref t])) := Same.new nT
    have eT : (upd H1 T (.tup [.int (m : Nat), .ref t])) T = some (.tup [.int (m : Nat), .ref t]) := upd_same
    generalize upd H1 T (.tup [.int (m : Nat), .ref t]) = H2 at sT eT
    have hr2 := (s1.trans sT) _ _ hrt
    refine ⟨T, _, rfl, SqT.of eT, rfl, _, _, rfl, _, _, rfl, rfl, ?_⟩
    refine ⟨hw1 _ _, _, hk1 _ _, t, rfl, ⟨_, SqL.of hr2⟩, ?_⟩
    have A1 : A.take (m + 1) = A.take m ++ [r] := take_more er
    have ndm : (A.take m ++ [r]).flatten.Nodup := by
      rw [← A1]
      exact nd.sublist (flat_take A (m + 1))
    rw [List.flatten_append, List.flatten_cons, List.flatten_nil, List.append_nil, List.nodup_append] at ndm
    refine any_it (walk_list (xs := r.map V.int)) (fun p H' => Same H H' ∧ H' D = some (.dK (kvI (homeL 0 (A.take m) ++ (r.take p).map fun x => (x, ((m : Nat) : Int)))))) ⟨s1.trans sT, by rw [List.take_zero, List.map_nil, List.append_nil]; exact sT _ _ e1⟩ (fun p H' _ q => SqL.of (q.1 _ _ hrt)) ?_ ?_
    · rintro p x H3 H4 hp ⟨s3, e3⟩ ⟨rfl, ex⟩
      rw [List.getElem?_map] at ex
      obtain ⟨z, ez, rfl⟩ := Option.map_eq_some_iff.mp ex
      refine ⟨hw2 _ _ _, _, hk2 _ _ _, _, hk3 _ _ _, _, Sum.inl z, rfl, e3, ?_, ?_⟩
      · rw [kvI_length, List.length_append, homeL_len, List.length_map]
        have h1 : (A.take (m + 1)).flatten.length ≤ A.flatten.length := (flat_take A (m + 1)).length_le
        rw [A1, List.flatten_append, List.length_append] at h1
        have h2 : (r.take p).length ≤ r.length := List.length_take_le' _ _
        simp only [List.flatten_cons, List.flatten_nil, List.append_nil] at h1
        omega
      refine ⟨Same.put s3 hD, ?_⟩
      rw [upd_same, putK_new _ ?_]
      · rw [take_more ez, List.map_append, ← List.append_assoc]
        unfold kvI
        rw [List.map_append, List.map_append, List.map_append]
        rfl
      · rw [valV_kvI]
        have nk : ∀ y, (z, y) ∉ homeL 0 (A.take m) ++ (r.take p).map (fun x => (x, ((m : Nat) : Int))) := fun y hy => by
          rcases List.mem_append.mp hy with h | h
          · have : z ∈ (A.take m).flatten := by
              rw [← homeL_keys (A.take m) 0]
              exact List.mem_map.mpr ⟨_, h, rfl⟩
            exact ndm.2.2 z this z (List.mem_of_getElem? ez) rfl
          · obtain ⟨z', hz', e⟩ := List.mem_map.mp h
            cases e
            obtain ⟨p', hp'⟩ := List.getElem?_of_mem hz'
            have hlt := (List.getElem?_eq_some_iff.mp hp').1
            rw [List.length_take] at hlt
            rw [List.getElem?_take, if_pos (by omega)] at hp'
            have := (List.getElem?_inj (by omega) ndm.2.1).mp (hp'.trans ez.symm)
            omega
        cases e : lk (homeL 0 (A.take m) ++ (r.take p).map fun x => (x, ((m : Nat) : Int))) z with
        | none => rfl
        | some y => exact absurd (lk_mem e) (nk y)
    · rintro H3 ⟨s3, e3⟩
      rw [List.length_map, List.take_length] at e3
      refine ⟨s3, ?_⟩
      rw [A1, homeL_append, e3, List.length_take]
      have : min m A.length = m := by
        have := (List.getElem?_eq_some_iff.mp er).1
        omega
      rw [this, Nat.zero_add]
      show _ = some (HO.dK (kvI (_ ++ (r.map _ ++ []))))
      rw [List.append_nil]
  · rintro H' ⟨s1, e1⟩
    rw [List.length_map, hlen, List.take_length] at e1
    exact hq D H' hD e1 s1
end My
set_option maxHeartbeats 1000000
namespace My
open PySem L2 U StX PM DC2
/-- [x for x in range(lo, ..) if ..] -/
theorem lc_rgI {wi : TI} {i : Nat} {tt : TT} {tv : TE} {vs : List Nat} {σ : L2.St} {H : Hp} {Q : VK} {lo : Int} {m : Nat} (c : Int → Bool) (hwi : ∀ R : It → Hp → Prop, R (Itr lo m) H → wi σ H R)
    (hw : ∀ a, wipe ((wipe σ vs).set i a) vs = wipe σ vs) (hm : m < sizeLine)
    (hb : ∀ k : Nat, k < m → ∀ H1, Same H H1 → (∀ R : Bool → Hp → Prop, R (c (lo + k)) H1 → tt ((wipe σ vs).set i (some (.int (lo + (k : Nat))))) H1 R) ∧ ∀ R : VK, R (.int (lo + (k : Nat))) H1 → tv ((wipe σ vs).set i (some (.int (lo + (k : Nat))))) H1 R)
    (hq : ∀ (D : Addr) (H' : Hp), H D = none → H' D = some (.lst ((((List.range m).map fun (k : Nat) => lo + (k : Int)).filter c).map V.int)) → Same H H' → Q (.ref D) H') :
    tLc wi (gName i) tt tv vs σ H Q := by
  refine hwi _ fun D hD => ?_
  refine lc_it walk_range (fun k H' => Same H H' ∧ H' D = some (.lst ((((List.range k).map fun (k : Nat) => lo + (k : Int)).filter c).map V.int))) ⟨Same.new hD, upd_same⟩ (fun _ _ _ _ => trivial) ?_ ?_
  · rintro k v H' H'' hk ⟨s1, e1⟩ ⟨rfl, rfl⟩
    refine ⟨hw _, ?_⟩
    obtain ⟨b1, b2⟩ := hb k hk _ s1
    refine b1 _ ?_
    have st : (((List.range (k + 1)).map fun (k : Nat) => lo + (k : Int)).filter c) = (((List.range k).map fun (k : Nat) => lo + (k : Int)).filter c) ++ if c (lo + k) = true then [lo + (k : Int)] else [] := by
      rw [List.range_succ, List.map_append, List.filter_append]
      congr 1
      cases hc : c (lo + (k : Int)) <;> simp [hc]
    cases hc : c (lo + k) with
    | true =>
      rw [hc, if_pos rfl] at st
      refine iteT (b2 _ ⟨_, e1, ?_, Same.put s1 hD, ?_⟩)
      · rw [List.length_map]
        refine Nat.lt_of_le_of_lt (List.length_filter_le _ _) ?_
        rw [List.length_map, List.length_range]
        omega
      · rw [upd_same, st, List.map_append]
        rfl
    | false =>
      rw [hc, if_neg Bool.false_ne_true, List.append_nil] at st
      refine iteF ⟨s1, ?_⟩
      rw [st]
      exact e1
  · rintro H' ⟨s1, e1⟩
    exact hq D H' hD e1 s1
noncomputable def hmL (n : Int) (f g : PF) (x : Int) : Option Int := lk (homeL 0 (partsL n (lnk n f g))) x
noncomputable def rowM (n : Int) (f g : PF) (x : Int) : List Int := ((List.range (n - (x + 1)).toNat).map fun (k : Nat) => x + 1 + (k : Int)).filter fun y => decide (hmL n f g y = hmL n f g x)
noncomputable def menuS (n : Int) (f g : PF) (l : List Int) : List Stp := l.flatMap fun x => (rowM n f g x).map fun y => .sw x y
noncomputable def menuL (n : Int) (f g : PF) : List Stp := menuS n f g (rgI n.toNat) ++ fgL n f g
theorem hm_some {n : Int} {f g : PF} (w : WF n (lnk n f g)) {x : Int} (h0 : 0 ≤ x) (h1 : x < n) : ∃ i : Nat, hmL n f g x = some (i : Int) ∧ ∃ r, (partsL n (lnk n f g))[i]? = some r ∧ x ∈ r := by
  have d := dec_parts w
  obtain ⟨r, hr, hx⟩ := d.row h0 h1
  obtain ⟨i, hi⟩ := List.getElem?_of_mem hr
  refine ⟨i, ?_, r, hi, hx⟩
  have := homeL_at (k := 0) hi hx
  rw [Nat.zero_add] at this
  exact lk_some (by rw [homeL_keys]; exact d.nd) this
theorem rowM_len {n : Int} {f g : PF} {x : Int} (h0 : 0 ≤ x) : (rowM n f g x).length ≤ n.toNat := by
  unfold rowM
  refine Nat.le_trans (List.length_filter_le _ _) ?_
  rw [List.length_map, List.length_range]
  omega
theorem menuS_len {n : Int} {f g : PF} : ∀ (l : List Int), (∀ x ∈ l, 0 ≤ x) → (menuS n f g l).length ≤ l.length * n.toNat
  | [], _ => Nat.zero_le _
  | x :: l, h => by
    unfold menuS
    rw [List.flatMap_cons, List.length_append, List.length_map, List.length_cons, Nat.add_mul, Nat.one_mul]
    have := rowM_len (n := n) (f := f) (g := g) (h x (List.mem_cons_self ..))
    have ih := menuS_len (n := n) (f := f) (g := g) l fun y hy => h y (List.mem_cons_of_mem _ hy)
    unfold menuS at ih
    omega
def wNext : Addr → Addr → Int → PF → PF → Hp → VK → Prop := fun _ _ n f g H Q => n ≤ 30 ∧ ((srcB n f g = false ∧ ∀ l H', Same H H' → H' l = some (.lst []) → Q (.ref l) H') ∨
  (srcB n f g = true ∧ ∀ l ts H', Same H H' → H l = none → H' l = some (.lst (ts.map V.ref)) → StpsAt H' ts (menuL n f g) → Q (.ref l) H'))
section
variable {P : Program} {w : World} {K : PySem.W.Frag} {mg : Str → Option Value} {base : Heap}
set_option pp.maxSteps 3000 in
theorem ok_next_steps (T : Txt K mg) : FnR P w K mg base (L2.CX P w) 9 T.f_next_steps (sp2 T.C_Map T.C_InvalidMap T.C_SizeMismatch wNext) := by
  refine T.A_next_steps.okX sc_next_steps (fun vs H Q E h => ?_) (fun cdv A outer s H vs Q E hr h => ?_)
  · obtain ⟨x, y, rfl, _⟩ := h
    rfl
  · obtain ⟨x, y, rfl, h⟩ := h
    have hu := hu_of hr
    refine ⟨_, (pss_cons (ps_set (i := 2) sc_next_steps.nd rfl (Or.inl rfl) (pe_callR (ok_parts_between T) (hr.mono (by decide)) T.A_parts_between.kp rfl T.g_parts_between (passes_call (takes_of rfl rfl rfl rfl) (fun _ _ _ _ h => h)) (pa_cons (pv 0) (pa_cons (pv 1) pa_nil))))
      (pss_cons (ps_if (pt_cmpR op_isN (pv 2) pe_non (nomark _))
        (pss_one (ps_ret (pe_lst pa_nil))) pss_nil)
      (pss_cons (ps_set (i := 3) sc_next_steps.nd rfl (Or.inr rfl) (DC2.pe_dc2 (own := [("element", 9), ("number", 7), ("part", 8)]) (vs1 := [9]) (g := (gTup K 2 (gCons (gName 7) (gCons (gName 8) gNil)))) (wi1 := (iList K (tVar 8))) (g1 := (gName 9)) rfl sc_next_steps.nd (pi_enum rfl T.n_enumerate (pa_cons (pv 2) pa_nil)) (blkOk_by (own := [("element", 9), ("number", 7), ("part", 8)]) (N := n_next_steps) (sc := defScope s_next_steps) (by decide +kernel)) (by decide) (fun _ _ _ _ _ => (pg_tup rfl (pgs_cons (pg_name (i := 7) sc_next_steps.nd rfl (Or.inl rfl)) (pgs_cons (pg_name (i := 8) sc_next_steps.nd rfl (Or.inl rfl)) pgs_nil)))) (fun _ _ _ _ _ => (pi_list (pv 8))) (fun _ _ _ _ _ => (pg_name (i := 9) sc_next_steps.nd rfl (Or.inl rfl))) (fun _ _ _ _ _ => (pv 9)) (fun _ _ _ _ _ => (pv 7))))
      (pss_cons (ps_set (i := 4) sc_next_steps.nd rfl (Or.inl rfl) (pe_lst pa_nil))
      (pss_cons (ps_for (passes_of rfl) rfl (pi_range1 rfl T.n_range (pa_cons (pe_propR (pv 0) T.o_Map.cl T.P_Map_size (ok_size T) (hr.mono (by decide))) pa_nil)) (pg_name (i := 5) sc_next_steps.nd rfl (Or.inr rfl))
        (pss_cons (ps_setLc (i := 6) (own := [("other", 10)]) (g := (gName 10)) rfl sc_next_steps.nd rfl rfl (sw_true rfl rfl rfl (by decide +kernel)) (pi_range2 (by rfl) T.n_range (pa_cons (pe_op op_add (pv 5) pe_int) (pa_cons (pe_propR (pv 0) T.o_Map.cl T.P_Map_size (ok_size T) (hr.mono (by decide))) pa_nil))) (blkOk_by (own := [("other", 10)]) (N := n_next_steps) (sc := defScope s_next_steps) (by decide +kernel)) (fun _ _ _ _ _ => (pg_name (i := 10) sc_next_steps.nd rfl (Or.inl rfl))) (fun _ _ _ _ _ => (pts_one (pt_cmpR op_eq (pe_dget hu (pv 3) (pv 10) (fun _ _ => rfl)) (pe_dget hu (pv 3) (pv 5) (fun _ _ => rfl)) (nomark _)))) (fun _ _ _ _ _ => (pv 10)))
      (pss_one (ps_expr (pe_bm PySem.F.plainAttrs_list PySem.F.slot_list_extend PySem.F.type_list_extend mt_extend (pv 4) (pa_cons (pe_lc (own := [("other", 10)]) (g := (gName 10)) (tt := tYes) rfl sc_next_steps.nd (pi_list (pv 6)) (blkOk_by (own := [("other", 10)]) (N := n_next_steps) (sc := defScope s_next_steps) (by decide +kernel)) (fun _ _ _ _ _ => (pg_name (i := 10) sc_next_steps.nd rfl (Or.inl rfl))) (fun _ _ _ _ _ => pts_nil) (fun _ _ _ _ _ => (pe_tup (pa_cons pe_str (pa_cons (pv 5) (pa_cons (pv 10) pa_nil)))))) pa_nil))))))
      (pss_one (ps_ret (pe_op op_cat (pv 4) (pe_callR (ok_forgotten T) (hr.mono (by decide)) T.A_forgotten.kp rfl T.g_forgotten pass0 (pa_cons (pv 0) (pa_cons (pv 1) pa_nil))))))))))), ?_⟩
    refine ⟨_, rfl, _, rfl, _, _, rfl, ?_⟩
    rcases h with h | ⟨a, b, n, f, g, rfl, rfl, ha, hb, h30, h⟩
    · exact .inl h
    refine .inr ⟨a, b, n, f, g, rfl, rfl, ha, hb, ?_⟩
    rcases h with ⟨hs, q⟩ | ⟨hs, q⟩
    · exact .inl ⟨hs, fun H1 s1 => ⟨_, rfl, rfl, _, rfl, iteT ⟨(by show 0 ≤ sizeLine; decide), fun p np => q p _ (s1.trans (Same.new np)) upd_same⟩⟩⟩
    · refine .inr ⟨hs, fun l rs H1 s1 nl el rr nw => ⟨_, rfl, rfl, _, rfl, iteF ?_⟩⟩
      have lo := ha.lo
      have wl := wf_lnk ha.wf hb.wf
      have d := dec_parts wl
      have dl := d.len
      dsimp only [tNext, tSeq, tAsg]
      refine dc_home (rs := rs) (A := partsL n (lnk n f g)) (fun R r => ⟨_, rfl, r⟩) el rr d.nd (small1000 (by omega)) (fun _ _ => rfl) (fun _ _ _ => rfl) (fun _ _ => rfl) (fun _ _ _ => rfl) (fun _ _ _ => rfl) (fun D H2 nD hD s2 => ?_)
      obtain ⟨dx, fs, h1⟩ := at_map ha
      have s02 := s1.trans s2
      dsimp only [tNext, tSeq, tAsg, gName]
      refine ⟨(by show 0 ≤ sizeLine; decide), fun F nF => ?_⟩
      have nFD : F ≠ D := (ne_of_none hD nF).symm
      have sF : Same H2 (upd H2 F (.lst [])) := Same.new nF
      have hF : (upd H2 F (.lst [])) F = some (.lst []) := upd_same
      generalize upd H2 F (.lst []) = H3 at sF hF
      have s03 := s02.trans sF
      refine ⟨_, rfl, a, dx, fs, rfl, s03 _ _ h1, a, n, f, rfl, ha.same s03, n, rfl, by omega, by omega, ?_⟩
      refine for_it (walk_range (lo := 0) (n := n.toNat)) (fun i σ H' => ∃ v5 v6 v7 v8 v9 v10, σ = [some (.ref a), some (.ref b), some (.ref l), some (.ref D), some (.ref F), v5, v6, v7, v8, v9, v10] ∧ Same H2 H' ∧ ∃ ts : List Addr, H' F = some (.lst (ts.map V.ref)) ∧ StpsAt H' ts (menuS n f g (rgI i)))
        ⟨_, _, _, _, _, _, rfl, sF, [], hF, .nil⟩ (fun _ _ _ _ _ => trivial) ?_ ?_
      · rintro i v σ Ha0 Ha hi ⟨v5, v6, v7, v8, v9, v10, rfl, sa, ts, hFa, hp⟩ ⟨rfl, rfl⟩
        have ez : (fun i : Nat => V.int (0 + (i : Int))) i = V.int ((i : Nat) : Int) := by show V.int (0 + _) = _; rw [Int.zero_add]
        rw [ez]
        have hi2 : ((i : Nat) : Int) < n := by omega
        have s0a := s02.trans sa
        have hDa := sa _ _ hD
        obtain ⟨j0, ej0, _⟩ := hm_some (f := f) (g := g) wl (x := ((i : Nat) : Int)) (by omega) hi2
        have hl1 := paired_len hp
        have hl2 := menuS_len (n := n) (f := f) (g := g) (rgI i) fun x hx => (mem_rgI.mp hx).1
        have hl3 : (rgI i).length = i := by simp [rgI]
        rw [hl3] at hl2
        have hl4 : i * n.toNat ≤ 30 * 30 := Nat.mul_le_mul (by omega) (by omega)
        have hl5 := rowM_len (n := n) (f := f) (g := g) (x := ((i : Nat) : Int)) (by omega)
        dsimp only [tNext, tSeq, tAsg, gName]
        refine lc_rgI (lo := ((i : Nat) : Int) + 1) (m := (n - (((i : Nat) : Int) + 1)).toNat) (fun y => decide (hmL n f g y = hmL n f g ((i : Nat) : Int))) (fun R r => ?_) (fun _ => rfl) (small1000 (by omega)) (fun k hk H4 s4 => ⟨fun R r => ?_, fun R r => ⟨_, rfl, r⟩⟩) (fun L H4 nL hL s4 => ?_)
        · refine ⟨_, rfl, _, _, rfl, rfl, _, rfl, a, dx, fs, rfl, s0a _ _ h1, a, n, f, rfl, ha.same s0a, ((i : Nat) : Int) + 1, n, rfl, ⟨by omega, by omega, by omega, by omega⟩, r⟩
        · obtain ⟨j1, ej1, _⟩ := hm_some (f := f) (g := g) wl (x := ((i : Nat) : Int) + 1 + (k : Nat)) (by omega) (by omega)
          have g1 := DGet.k (k := Sum.inl (((i : Nat) : Int) + 1 + (k : Nat))) (s4 _ _ hDa)
          have g0 := DGet.k (k := Sum.inl ((i : Nat) : Int)) (s4 _ _ hDa)
          rw [valV_kvI] at g0 g1
          unfold hmL at ej0 ej1
          rw [ej0] at g0
          rw [ej1] at g1
          refine ⟨_, rfl, _, rfl, D, _, rfl, g1, _, rfl, _, rfl, D, _, rfl, g0, rfl, _, rfl, ?_⟩
          have ed : decide (V.int ((j1 : Nat) : Int) = V.int ((j0 : Nat) : Int)) = decide (hmL n f g (((i : Nat) : Int) + 1 + (k : Nat)) = hmL n f g ((i : Nat) : Int)) := by
            unfold hmL
            rw [ej0, ej1]
            by_cases hj : j1 = j0
            · subst hj; simp
            · have h1 : ¬ V.int ((j1 : Nat) : Int) = V.int ((j0 : Nat) : Int) := fun z => hj (by have := V.int.inj z; omega)
              have h2 : ¬ (some ((j1 : Nat) : Int) = some ((j0 : Nat) : Int)) := fun z => hj (by have := Option.some.inj z; omega)
              rw [decide_eq_false h1, decide_eq_false h2]
          rw [ed]
          exact r
        · have hF4 := s4 _ _ hFa
          refine ⟨_, rfl, .inl ⟨rfl, _, SqL.of hF4⟩, ?_⟩
          have hL' : H4 L = some (.lst ((rowM n f g ((i : Nat) : Int)).map V.int)) := hL
          refine lc_stp (xs := rowM n f g ((i : Nat) : Int)) (fun y => .sw ((i : Nat) : Int) y) (fun R r => ⟨_, rfl, r L H4 (Same.refl _) hL'⟩) (fun _ => rfl) (fun y hy H5 s5 R r => ⟨_, rfl, _, rfl, (by show 3 ≤ sizeLine; decide), r⟩) (small1000 (by omega)) (fun E2 ts2 H5 nE hE hp2 s5 => ?_)
          have hF5 := s5 _ _ hF4
          refine ⟨F, E2, _, _, rfl, rfl, hF5, hE, ?_, ?_⟩
          · rw [List.length_map, List.length_map, hl1, paired_len hp2, List.length_map]
            exact Nat.le_trans (by omega : _ ≤ 1000) (by decide)
          refine ⟨_, _, _, _, _, _, rfl, Same.put ((sa.trans s4).trans s5) nF, ts ++ ts2, by rw [upd_same, List.map_append], ?_⟩
          have efm : menuS n f g (rgI (i + 1)) = menuS n f g (rgI i) ++ (rowM n f g ((i : Nat) : Int)).map fun y => .sw ((i : Nat) : Int) y := by
            rw [rgI_succ]
            unfold menuS
            rw [List.flatMap_append]
            simp
          rw [efm]
          exact (stps_app ((hp.same s4).same s5) hp2).off ⟨_, hF5⟩ Off.lock
      · rintro σ Ha ⟨v5, v6, v7, v8, v9, v10, rfl, sa, ts, hFa, hp⟩
        have hl1 := paired_len hp
        have hl2 := menuS_len (n := n) (f := f) (g := g) (rgI n.toNat) fun x hx => (mem_rgI.mp hx).1
        have hl3 : (rgI n.toNat).length = n.toNat := by simp [rgI]
        rw [hl3] at hl2
        have hl4 : n.toNat * n.toNat ≤ 30 * 30 := Nat.mul_le_mul (by omega) (by omega)
        have hfl := fg_le (n := n) (f := f) (g := g)
        have s0a := s02.trans sa
        refine ⟨_, rfl, _, rfl, _, rfl, a, b, n, f, g, rfl, ha.same s0a, hb.same s0a, fun l2 ts2 H4 s4 nl2 el2 hp2 => ?_⟩
        refine ⟨F, l2, _, _, rfl, rfl, s4 _ _ hFa, el2, ?_, fun p np => ?_⟩
        · rw [List.length_map, List.length_map, hl1, paired_len hp2]
          exact Nat.le_trans (by omega : _ ≤ 1000) (by decide)
        have s5 : Same H4 (upd H4 p (.lst (ts.map V.ref ++ ts2.map V.ref))) := Same.new np
        refine q p (ts ++ ts2) _ ((s0a.trans s4).trans s5) ((s0a.trans s4).free np) (by rw [upd_same, List.map_append]) ?_
        exact (stps_app (hp.same s4) hp2).same s5
end
end My
set_option maxHeartbeats 1000000
namespace My
open PySem L2 U StX PM
theorem nd_prs {l : List (Int × Int)} (h : (l.map (·.1)).Nodup) : l.Nodup := by
  rw [List.nodup_iff_pairwise_ne] at h ⊢
  rw [List.pairwise_map] at h
  exact h.imp fun h z => h (congrArg _ z)
theorem dEq_f {l l' : List (Int × Int)} {f g : PF} (d : DI l f) (d' : DI l' g) (h : dEq (kvI l) (kvI l') = true) : f = g := by
  unfold dEq at h
  rw [Bool.and_eq_true, kvI_length, kvI_length, beq_iff_eq, List.all_eq_true] at h
  have sub : ∀ p ∈ l, p ∈ l' := by
    intro p hp
    have := h.2 (Sum.inl p.1, V.int p.2) (List.mem_map.mpr ⟨p, hp, rfl⟩)
    rw [decide_eq_true_eq, valV_kvI, d'.at_] at this
    obtain ⟨y, hy, ey⟩ := Option.map_eq_some_iff.mp this
    cases ey
    exact d'.mem.mpr hy
  have nd := nd_prs d.nd
  refine pf_ext fun x y => ⟨fun hx => d'.mem.mp (sub _ (d.mem.mpr hx)), fun hx => ?_⟩
  refine d.mem.mp (Classical.byContradiction fun hn => ?_)
  have := List.Nodup.length_le_of_subset (l₁ := (x, y) :: l) (l₂ := l') (List.nodup_cons.mpr ⟨hn, nd⟩) (fun p hp => by
    rcases List.mem_cons.mp hp with rfl | hp
    · exact d'.mem.mpr hx
    · exact sub p hp)
  rw [List.length_cons] at this
  omega
theorem dEq_eqB {n : Int} {l l' : List (Int × Int)} {f g : PF} (d : DI l f) (d' : DI l' g) (wf : WF n f) (wg : WF n g) : dEq (kvI l) (kvI l') = eqB n f n g := by
  unfold eqB
  rw [decide_eq_true rfl, Bool.true_and]
  by_cases h : f = g
  · subst h
    rw [dEq_di d d', dEq_di (di_tab wf) (di_tab wg)]
  · have h1 : dEq (kvI l) (kvI l') = false := by
      cases z : dEq (kvI l) (kvI l') with
      | false => rfl
      | true => exact absurd (dEq_f d d' z) h
    have h2 : dEq (kvI (tab n f)) (kvI (tab n g)) = false := by
      cases z : dEq (kvI (tab n f)) (kvI (tab n g)) with
      | false => rfl
      | true => exact absurd (dEq_f (di_tab wf) (di_tab wg) z) h
    rw [h1, h2]
/-- what a value is as a list of steps: none, or these -/
def ThV (C : Addr) (n : Int) (H : Hp) (v : V) : Option (List Stp) → Prop
  | none => knownV C H v ∧ (¬ isLs H v ∨ ∃ (a : Addr) (ys : List V) (z : V) (k : Nat), v = .ref a ∧ H a = some (.lst ys) ∧ (∀ (i : Nat) z, i < k → ys[i]? = some z → StB C n H z true) ∧ ys[k]? = some z ∧ StB C n H z false)
  | some ss => ∃ (a : Addr) (ts : List Addr), v = .ref a ∧ H a = some (.lst (ts.map V.ref)) ∧ StpsAt H ts ss ∧ (∀ s ∈ ss, Stp.ok n s) ∧ ss.length ≤ 100
theorem isLs_same {C : Addr} {H H' : Hp} {v : V} (hk : knownV C H v) (s : Same H H') (h : ¬ isLs H v) : ¬ isLs H' v := by
  cases v with
  | ref a =>
    rcases hk with ⟨xs, e⟩ | ⟨xs, e⟩ | ⟨xs, e⟩ | ⟨dx, fs, e⟩
    · exact absurd ⟨xs, e⟩ h
    · rintro ⟨ys, e2⟩; rw [s _ _ e] at e2; cases e2
    · rintro ⟨ys, e2⟩; rw [s _ _ e] at e2; cases e2
    · rintro ⟨ys, e2⟩; rw [s _ _ e] at e2; cases e2
  | _ => exact id
theorem ThV.same {C : Addr} {n : Int} {H H' : Hp} {v : V} {r : Option (List Stp)} (h : ThV C n H v r) (s : Same H H') : ThV C n H' v r := by
  cases r with
  | none =>
    obtain ⟨hk, h⟩ := h
    refine ⟨hk.same s, ?_⟩
    rcases h with h | ⟨a, ys, z, k, rfl, ha, h1, h2, h3⟩
    · exact .inl (isLs_same hk s h)
    · exact .inr ⟨a, ys, z, k, rfl, s _ _ ha, fun i z hi hz => (h1 i z hi hz).same s, h2, h3.same s⟩
  | some ss =>
    obtain ⟨a, ts, rfl, ha, hp, hok, hl⟩ := h
    exact ⟨a, ts, rfl, s _ _ ha, hp.same s, hok, hl⟩
def thB (n : Int) (f g : PF) : Option (List Stp) → Bool
  | none => false
  | some ss => eqB n (stps f ss) n g
def spMak (C CM CS : Addr) : Sp := fun vs H Q E => ∃ x y v, vs = [x, y, v] ∧ (ErrP C CM CS H x y E ∨ ∃ a b n f g r, x = .ref a ∧ y = .ref b ∧ IsMap C H a n f ∧ IsMap C H b n g ∧ ThV C n H v r ∧ ∀ H', Same H H' → Q (.bl (thB n f g r)) H')
/-- what first_invalid finds -/
theorem fi_of {C : Addr} {n : Int} {H : Hp} {v : V} {r : Option (List Stp)} {Q : VK} {E : XK} (h : ThV C n H v r) (q : ∀ H', Same H H' → match r with | none => ∀ t xs, H' t = some (.tup xs) → Q (.ref t) H' | some _ => Q .non H') : spFI C [.int n, v] H Q E := by
  cases r with
  | none =>
    obtain ⟨hk, h⟩ := h
    refine ⟨n, v, rfl, hk, ?_⟩
    rcases h with h | ⟨a, ys, z, k, rfl, ha, h1, h2, h3⟩
    · exact .inl ⟨h, fun t H1 s1 et => q H1 s1 t _ et⟩
    · exact .inr ⟨a, ys, k, rfl, ha, by have := (List.getElem?_eq_some_iff.mp h2).1; omega, fun i y hi hy => h1 i y hi hy, .inr ⟨z, h2, h3, fun t H1 s1 et => q H1 s1 t _ et⟩⟩
  | some ss =>
    obtain ⟨a, ts, rfl, ha, hp, hok, hl⟩ := h
    have hlen := paired_len hp
    refine ⟨n, _, rfl, .inl ⟨_, ha⟩, .inr ⟨a, _, ss.length, rfl, ha, by rw [List.length_map, hlen]; exact Nat.le_refl _, fun i z hi ez => ?_, .inl ⟨by rw [List.length_map, hlen], fun H1 s1 => q H1 s1⟩⟩⟩
    rw [List.getElem?_map] at ez
    obtain ⟨t, et, rfl⟩ := Option.map_eq_some_iff.mp ez
    obtain ⟨sp, es, ht⟩ := paired_at hp et
    exact ⟨.inr (.inl ⟨_, ht⟩), .inr ⟨t, _, rfl, ht, known_vs sp, by cases sp <;> simp [Stp.vs], (stepB_of (hok _ (List.mem_of_getElem? es))).symm⟩⟩
section
variable {P : Program} {w : World} {K : PySem.W.Frag} {mg : Str → Option Value} {base : Heap}
set_option pp.maxSteps 3000 in
theorem ok_is_making (T : Txt K mg) : FnR P w K mg base (L2.CX P w) 9 T.f_is_making (spMak T.C_Map T.C_InvalidMap T.C_SizeMismatch) := by
  refine T.A_is_making.okX sc_is_making (fun vs H Q E h => ?_) (fun cdv A outer s H vs Q E hr h => ?_)
  · obtain ⟨x, y, v, rfl, _⟩ := h
    rfl
  · obtain ⟨x, y, v, rfl, h⟩ := h
    have hu := hu_of hr
    refine ⟨_, (pss_cons (ps_expr (pe_callR (ok2_check_maps T) (hr.mono (by decide)) T.A_check_maps.kp rfl T.g_check_maps (passes_call (takes_of rfl rfl rfl rfl) (fun _ _ _ _ h => h)) (pa_cons (pv 0) (pa_cons (pv 1) pa_nil))))
      (pss_one (ps_ret (pe_and (pe_cmpR op_isN (pe_callR (ok_first_invalid T) (hr.mono (by decide)) T.A_first_invalid.kp rfl T.g_first_invalid pass0 (pa_cons (pe_propR (pv 0) T.o_Map.cl T.P_Map_size (ok_size T) (hr.mono (by decide))) (pa_cons (pv 2) pa_nil))) pe_non (nomark _)) (pe_one (pe_cmpR (U.op_eqDI hr.units0) (pe_callR (ok_after_list T) (hr.mono (by decide)) T.A_after_list.kp rfl T.g_after_list pass0 (pa_cons (pe_propR (pv 0) T.o_Map.cl T.P_Map_arrows (ok_arrows T) (hr.mono (by decide))) (pa_cons (pv 2) pa_nil))) (pe_propR (pv 1) T.o_Map.cl T.P_Map_arrows (ok_arrows T) (hr.mono (by decide))) (nomark _))))))), ?_⟩
    refine ⟨_, rfl, _, rfl, _, _, rfl, ?_⟩
    rcases h with h | ⟨a, b, n, f, g, r, rfl, rfl, ha, hb, hv, q⟩
    · exact .inl h
    refine .inr ⟨a, b, n, f, g, rfl, rfl, ha, hb, ?_⟩
    obtain ⟨dx, fs, h1⟩ := at_map ha
    obtain ⟨dy, gs, h2⟩ := at_map hb
    have hi := ha.hi
    refine ⟨_, rfl, a, dx, fs, rfl, h1, a, n, f, rfl, ha, _, rfl, ?_⟩
    dsimp only [tNil]
    refine fi_of hv fun H1 s1 => ?_
    cases r with
    | none =>
      intro t xs et
      exact ⟨rfl, _, rfl, q H1 s1⟩
    | some ss =>
      refine ⟨rfl, _, rfl, ?_⟩
      rw [if_pos (decide_eq_true rfl)]
      obtain ⟨va, ts, rfl, hva, hp, hok, hls⟩ := hv
      have wf := ha.wf
      have ha1 := ha.same s1
      have hb1 := hb.same s1
      have tl := tab_len n f
      refine ⟨_, rfl, a, dx, fs, rfl, s1 _ _ h1, a, n, f, rfl, ha1, fun D nD => ?_⟩
      have sD : Same H1 (upd H1 D (.dK (kvI (tab n f)))) := Same.new nD
      have hD : (upd H1 D (.dK (kvI (tab n f)))) D = some (.dK (kvI (tab n f))) := upd_same
      generalize upd H1 D (.dK (kvI (tab n f))) = H2 at sD hD
      have s02 := s1.trans sD
      refine ⟨_, rfl, D, va, tab n f, n, f, ts, ss, rfl, hD, di_tab wf, wf, by omega, s02 _ _ hva, hp.same s02, hok, hls, fun p l' H3 s3 np hp' dp hl' => ?_⟩
      have s03 := s02.trans s3
      refine ⟨_, rfl, b, dy, gs, rfl, s03 _ _ h2, b, n, g, rfl, hb.same s03, fun G nG => ?_⟩
      refine ⟨p, G, kvI l', kvI (tab n g), rfl, rfl, ?_, upd_same, intVals_kvI _, intVals_kvI _, ?_⟩
      · rw [upd_ne (ne_of_none hp' nG)]; exact hp'
      rw [dEq_eqB dp (di_tab hb.wf) (wf_stps wf hok) hb.wf]
      exact q _ (s03.trans (Same.new nG))
end
end My
set_option maxHeartbeats 1000000
namespace My
open PySem L2 U StX PM
/-! ### the plain law of shortest ways -/
section
variable {n : Int} {f g : PF}
theorem swp_comm (a b x : Int) : swp a b x = swp b a x := by
  unfold swp
  by_cases h1 : x = a
  · by_cases h2 : x = b
    · rw [if_pos h2, if_pos h1, ← h1, ← h2]
    · rw [if_neg h2, if_pos h1, if_pos h1]
  · by_cases h2 : x = b
    · rw [if_pos h2, if_neg h1, if_pos h2]
    · rw [if_neg h2, if_neg h1, if_neg h1, if_neg h2]
theorem swp_a (a b : Int) : swp a b a = b := by
  unfold swp
  by_cases h : a = b
  · rw [if_pos h, h]
  · rw [if_neg h, if_pos rfl]
theorem swp_b (a b : Int) : swp a b b = a := by unfold swp; rw [if_pos rfl]
theorem swp_off {a b x : Int} (h1 : x ≠ a) (h2 : x ≠ b) : swp a b x = x := by unfold swp; rw [if_neg h2, if_neg h1]
theorem stp_sw {a b : Int} (h : a ≠ b) (s : Int) : stp1 f (.sw a b) s = (f s).map (swp a b) := by
  cases e : f s with
  | none =>
    cases e2 : stp1 f (.sw a b) s with
    | none => rfl
    | some z =>
      rcases (sw_iff h).mp e2 with ⟨_, q⟩ | ⟨_, q⟩ | ⟨_, _, q⟩ <;> (rw [e] at q; cases q)
  | some y =>
    show _ = some (swp a b y)
    rw [sw_iff h]
    by_cases h1 : y = a
    · subst h1
      exact .inl ⟨swp_a _ _, e⟩
    · by_cases h2 : y = b
      · subst h2
        exact .inr (.inl ⟨swp_b _ _, e⟩)
      · rw [swp_off h1 h2]
        exact .inr (.inr ⟨h1, h2, e⟩)
theorem swS_eq {a b : Int} (h : a ≠ b) (s : Int) : stp1 f (swS a b) s = (f s).map (swp a b) := by
  unfold swS
  by_cases hlt : a < b
  · rw [if_pos hlt, stp_sw h]
  · rw [if_neg hlt, stp_sw (Ne.symm h)]
    congr 1
    funext x
    exact swp_comm b a x
theorem lnk_sw (w : WF n f) {a b : Int} (h : a ≠ b) (ok : (Stp.sw a b).ok n) (x : Int) : lnk n (stp1 f (.sw a b)) g x = lnk n f g (swp a b x) := by
  have w' := wf_stp1 w ok
  have key : ∀ s y, stp1 f (.sw a b) s = some y ↔ f s = some (swp a b y) := fun s y => by
    rw [stp_sw h]
    cases e : f s with
    | none => simp
    | some z =>
      show some _ = some _ ↔ _
      rw [Option.some.injEq, Option.some.injEq]
      constructor
      · rintro rfl
        by_cases h1 : z = a
        · subst h1; rw [swp_a, swp_b]
        · by_cases h2 : z = b
          · subst h2; rw [swp_b, swp_a]
          · rw [swp_off h1 h2, swp_off h1 h2]
      · rintro rfl
        by_cases h1 : y = a
        · subst h1; rw [swp_a, swp_b]
        · by_cases h2 : y = b
          · subst h2; rw [swp_b, swp_a]
          · rw [swp_off h1 h2, swp_off h1 h2]
  refine Option.ext fun z => ?_
  rw [lnk_iff w', lnk_iff w]
  constructor
  · rintro ⟨s, h1, h2⟩
    exact ⟨s, (key s x).mp h1, h2⟩
  · rintro ⟨s, h1, h2⟩
    exact ⟨s, (key s x).mpr h1, h2⟩
theorem lnk_fg (w : WF n f) {s : Int} (ok : (Stp.fg s).ok n) (hg : g s = none) : lnk n (stp1 f (.fg s)) g = lnk n f g := by
  have w' := wf_stp1 w ok
  funext x
  refine Option.ext fun z => ?_
  rw [lnk_iff w', lnk_iff w]
  constructor
  · rintro ⟨t, h1, h2⟩
    exact ⟨t, (fg_iff.mp h1).2, h2⟩
  · rintro ⟨t, h1, h2⟩
    exact ⟨t, fg_iff.mpr ⟨fun e => (by rw [e, hg] at h2; cases h2), h1⟩, h2⟩
/-- the forgotten ones, counted -/
theorem filt_map (p : Int → Bool) : ∀ (L : List Nat), ((L.filterMap fun (i : Nat) => (f (i : Int)).map fun y => ((i : Int), y)).filter fun q => p q.1).length = (L.filter fun (i : Nat) => (f (i : Int)).isSome && p (i : Int)).length
  | [] => rfl
  | i :: L => by
    have ih := filt_map p L
    cases e : f (i : Int) with
    | none =>
      rw [List.filterMap_cons, e, List.filter_cons, e]
      exact ih
    | some y =>
      rw [List.filterMap_cons, e, List.filter_cons, e]
      show ((((i : Int), y) :: _).filter _).length = _
      rw [List.filter_cons]
      cases hp : p (i : Int) <;> simp [hp, ih]
def nF (n : Int) (f g : PF) : Nat := ((List.range n.toNat).filter fun (i : Nat) => (f (i : Int)).isSome && (g (i : Int)).isNone).length
theorem fg_nF : (fgL n f g).length = nF n f g := by
  unfold fgL nF tab tabN
  rw [List.length_map]
  exact filt_map (f := f) (fun x => (g x).isNone) _
theorem nF_sw {a b : Int} (h : a ≠ b) : nF n (stp1 f (.sw a b)) g = nF n f g := by
  unfold nF
  congr 1
  refine List.filter_congr fun i _ => ?_
  rw [stp_sw h, Option.isSome_map]
theorem filter_off {α : Type} [DecidableEq α] (p : α → Bool) (s : α) : ∀ (l : List α), l.Nodup → s ∈ l → p s = true → (l.filter p).length = (l.filter fun x => p x && !decide (x = s)).length + 1
  | [], _, h, _ => nomatch h
  | x :: l, nd, h, hp => by
    rw [List.nodup_cons] at nd
    rw [List.filter_cons, List.filter_cons]
    by_cases e : x = s
    · subst e
      have : (l.filter fun y => p y && !decide (y = x)) = l.filter p := List.filter_congr fun y hy => by
        have : y ≠ x := fun z => nd.1 (z ▸ hy)
        simp [this]
      rw [this, hp, if_pos rfl]
      simp
    · have hs : s ∈ l := (List.mem_cons.mp h).resolve_left (Ne.symm e)
      have ih := filter_off p s l nd.2 hs hp
      have e2 : (p x && !decide (x = s)) = p x := by simp [e]
      rw [e2]
      cases p x <;> simp [ih]
theorem nF_fg {s : Int} (h0 : 0 ≤ s) (h1 : s < n) (hf : (f s).isSome = true) (hg : g s = none) : nF n f g = nF n (stp1 f (.fg s)) g + 1 := by
  unfold nF
  rw [filter_off _ s.toNat _ List.nodup_range (List.mem_range.mpr (by omega)) (by rw [show ((s.toNat : Nat) : Int) = s by omega, hf, hg]; rfl)]
  congr 2
  refine List.filter_congr fun i _ => ?_
  have : (stp1 f (.fg s) (i : Int)).isSome = ((f (i : Int)).isSome && !decide (i = s.toNat)) := by
    by_cases e : i = s.toNat
    · subst e
      rw [show ((s.toNat : Nat) : Int) = s by omega]
      cases q : stp1 f (.fg s) s with
      | none => simp
      | some z => exact absurd rfl (fg_iff.mp q).1
    · have ne : (i : Int) ≠ s := fun z => e (by omega)
      have : stp1 f (.fg s) (i : Int) = f (i : Int) := by
        refine Option.ext fun z => ?_
        rw [fg_iff]
        exact ⟨fun q => q.2, fun q => ⟨ne, q⟩⟩
      rw [this]
      simp [e]
  rw [this]
  cases (f (i : Int)).isSome <;> cases (g (i : Int)).isNone <;> cases decide (i = s.toNat) <;> rfl
/-- the lengths behind an exchange within a row -/
theorem lens_split (w : WF n (lnk n f g)) {h : PF} (wh : WF n h) {A1 A2 : List (List Int)} {r : List Int} {i j : Nat} {a b : Int} (eA : partsL n (lnk n f g) = A1 ++ r :: A2) (hij : i < j) (ha : r[i]? = some a) (hb : r[j]? = some b) (hh : ∀ x, h x = lnk n f g (swp a b x)) :
    (lensL n h).Perm (A1.map (·.length) ++ [j - i, r.length - (j - i)] ++ A2.map (·.length)) := by
  have d := dec_parts w
  rw [eA] at d
  have hj := (List.getElem?_eq_some_iff.mp hb).1
  have d2 := d.split hij ha hb hh
  have := (dec_parts wh).lens d2 wh
  rw [List.map_append, List.map_append] at this
  show (partsL n h |>.map (·.length)).Perm _
  rw [← rst_len hij hj, ← mid_len hij hj]
  exact this
theorem sm_split {A1 A2 : List Nat} {L k : Nat} (h1 : 1 ≤ k) (h2 : k < L) : sm (A1 ++ [k, L - k] ++ A2) + 1 = sm (A1 ++ L :: A2) := by
  rw [sm_append, sm_append, sm_append]
  show sm A1 + ((k - 1) + ((L - k - 1) + 0)) + sm A2 + 1 = sm A1 + ((L - 1) + sm A2)
  omega
end
end My
set_option maxHeartbeats 1000000
namespace My
open PySem L2 U StX PM
section
variable {n : Int} {f g : PF}
/-! ### the steps lead to the goal -/
def piT (r0 : Int) (t : List Int) (x : Int) : Int := t.foldl (fun z e => swp r0 e z) x
theorem piT_off {r0 : Int} : ∀ {t : List Int} {x : Int}, x ≠ r0 → x ∉ t → piT r0 t x = x
  | [], _, _, _ => rfl
  | e :: t, x, h, hm => by
    have h1 : x ≠ e := fun z => hm (by rw [z]; exact List.mem_cons_self ..)
    show piT r0 t (swp r0 e x) = x
    rw [swp_off h h1]
    exact piT_off h fun z => hm (List.mem_cons_of_mem _ z)
theorem piT_r0 {r0 : Int} : ∀ {t : List Int}, (r0 :: t).Nodup → piT r0 t r0 = (t[0]?).getD r0
  | [], _ => rfl
  | e :: t, nd => by
    rw [List.nodup_cons, List.nodup_cons] at nd
    show piT r0 t (swp r0 e r0) = e
    rw [swp_a]
    exact piT_off (fun z => nd.1 (by rw [z]; exact List.mem_cons_self ..)) nd.2.1
theorem piT_at {r0 : Int} : ∀ {t : List Int} {k : Nat} {x : Int}, (r0 :: t).Nodup → t[k]? = some x → piT r0 t x = (t[k + 1]?).getD r0
  | [], _, _, _, h => nomatch h
  | e :: t, 0, x, nd, h => by
    cases h
    show piT r0 t (swp r0 e e) = _
    rw [swp_b]
    refine piT_r0 (nd.sublist ?_)
    exact List.Sublist.cons_cons _ (List.sublist_cons_self ..)
  | e :: t, k + 1, x, nd, h => by
    have h' : t[k]? = some x := h
    have nd2 := nd
    rw [List.nodup_cons, List.nodup_cons] at nd2
    have hx := List.mem_of_getElem? h'
    have h1 : x ≠ r0 := fun z => nd2.1 (List.mem_cons_of_mem _ (z ▸ hx))
    have h2 : x ≠ e := fun z => nd2.2.1 (z ▸ hx)
    show piT r0 t (swp r0 e x) = _
    rw [swp_off h1 h2]
    exact piT_at (nd.sublist (List.Sublist.cons_cons _ (List.sublist_cons_self ..))) h'
theorem stps_row {r0 : Int} : ∀ {t : List Int} {f : PF}, r0 ∉ t → ∀ s, stps f (t.map fun e => swS r0 e) s = (f s).map (piT r0 t)
  | [], f, _, s => by show f s = _; cases f s <;> rfl
  | e :: t, f, h, s => by
    have h1 : r0 ≠ e := fun z => h (by rw [z]; exact List.mem_cons_self ..)
    show stps (stp1 f (swS r0 e)) (t.map fun e => swS r0 e) s = _
    rw [stps_row (fun z => h (List.mem_cons_of_mem _ z)), swS_eq h1]
    cases f s <;> rfl
/-- what the exchanges of a row do to an element -/
def piR : List Int → Int → Int
  | [], x => x
  | r0 :: t, x => piT r0 t x
theorem stps_swL {r : List Int} (nd : r.Nodup) (f : PF) (s : Int) : stps f (swL r) s = (f s).map (piR r) := by
  cases r with
  | nil =>
    show f s = _
    cases f s <;> rfl
  | cons r0 t =>
    rw [List.nodup_cons] at nd
    exact stps_row nd.1 s
theorem stps_append (f : PF) (a b : List Stp) : stps f (a ++ b) = stps (stps f a) b := List.foldl_append
def piA (A : List (List Int)) (x : Int) : Int := A.foldl (fun z r => piR r z) x
theorem stps_rows : ∀ {A : List (List Int)}, (∀ r ∈ A, r.Nodup) → ∀ (f : PF) (s : Int), stps f (A.flatMap swL) s = (f s).map (piA A)
  | [], _, f, s => by show f s = _; cases f s <;> rfl
  | r :: A, h, f, s => by
    rw [List.flatMap_cons, stps_append, stps_rows (fun r' hr => h r' (List.mem_cons_of_mem _ hr)), stps_swL (h r (List.mem_cons_self ..))]
    cases f s <;> rfl
theorem piR_off {r : List Int} {x : Int} (h : x ∉ r) : piR r x = x := by
  cases r with
  | nil => rfl
  | cons r0 t => exact piT_off (fun z => h (by rw [z]; exact List.mem_cons_self ..)) fun z => h (List.mem_cons_of_mem _ z)
theorem piR_at {r : List Int} (nd : r.Nodup) {k : Nat} {x : Int} (h : r[k]? = some x) : piR r x = (r[k + 1]?).getD ((r[0]?).getD 0) := by
  cases r with
  | nil => cases h
  | cons r0 t =>
    cases k with
    | zero =>
      cases h
      exact piT_r0 nd
    | succ k => exact piT_at nd h
theorem piR_mem {r : List Int} (nd : r.Nodup) {x : Int} (h : x ∈ r) : piR r x ∈ r := by
  obtain ⟨k, hk⟩ := List.getElem?_of_mem h
  rw [piR_at nd hk]
  cases e : r[k + 1]? with
  | some y => exact List.mem_of_getElem? e
  | none =>
    cases e0 : r[0]? with
    | some y => exact List.mem_of_getElem? e0
    | none =>
      rw [List.getElem?_eq_none_iff] at e0
      have := (List.getElem?_eq_some_iff.mp hk).1
      omega
theorem piA_at : ∀ {A : List (List Int)}, A.flatten.Nodup → ∀ {r : List Int} {x : Int}, r ∈ A → x ∈ r → piA A x = piR r x
  | [], _, _, _, h, _ => nomatch h
  | s :: A, nd, r, x, hr, hx => by
    have nd2 := nd
    rw [List.flatten_cons, List.nodup_append] at nd2
    show piA A (piR s x) = _
    rcases List.mem_cons.mp hr with e | hr2
    · subst e
      have hm := piR_mem nd2.1 hx
      have off : ∀ (B : List (List Int)) (y : Int), y ∉ B.flatten → piA B y = y := fun B => by
        induction B with
        | nil => exact fun _ _ => rfl
        | cons b B ih =>
          intro y hy
          rw [List.flatten_cons] at hy
          show piA B (piR b y) = y
          rw [piR_off fun z => hy (List.mem_append_left _ z)]
          exact ih y fun z => hy (List.mem_append_right _ z)
      exact off A _ fun z => nd2.2.2 _ hm _ z rfl
    · rw [piR_off fun z => nd2.2.2 x z x (List.mem_flatten.mpr ⟨r, hr2, hx⟩) rfl]
      exact piA_at nd2.2.1 hr2 hx
theorem stps_fg : ∀ (l : List Int) (f : PF) (s : Int), stps f (l.map fun x => .fg x) s = if s ∈ l then none else f s
  | [], f, s => by show f s = _; simp
  | x :: l, f, s => by
    show stps (stp1 f (.fg x)) (l.map fun x => .fg x) s = _
    rw [stps_fg l]
    by_cases h : s ∈ l
    · rw [if_pos h, if_pos (List.mem_cons_of_mem _ h)]
    · rw [if_neg h]
      by_cases e : s = x
      · subst e
        rw [if_pos (List.mem_cons_self ..)]
        cases q : stp1 f (.fg s) s with
        | none => rfl
        | some z => exact absurd rfl (fg_iff.mp q).1
      · rw [if_neg fun z => (List.mem_cons.mp z).elim e h]
        refine Option.ext fun z => ?_
        rw [fg_iff]
        exact ⟨fun q => q.2, fun q => ⟨e, q⟩⟩
theorem steps_lead (w : WF n f) (wg : WF n g) (hs : ∀ x y, g x = some y → ∃ z, f x = some z) : stps f (stepsL n f g) = g := by
  have wl := wf_lnk w wg
  have d := dec_parts wl
  funext s
  unfold stepsL
  rw [stps_append]
  have efg : fgL n f g = (((tab n f).filter fun p => (g p.1).isNone).map (·.1)).map fun x => .fg x := by
    unfold fgL
    rw [List.map_map]
    rfl
  rw [efg, stps_fg, stps_rows fun r hr => flat_row d.nd hr]
  by_cases hm : s ∈ ((tab n f).filter fun p => (g p.1).isNone).map (·.1)
  · rw [if_pos hm]
    obtain ⟨⟨a, b⟩, hp, rfl⟩ := List.mem_map.mp hm
    have := (List.mem_filter.mp hp).2
    exact (Option.isNone_iff_eq_none.mp this).symm
  · rw [if_neg hm]
    cases eg : g s with
    | none =>
      cases ef : f s with
      | none => rfl
      | some y => exact absurd (List.mem_map.mpr ⟨(s, y), List.mem_filter.mpr ⟨(mem_tab w).mpr ef, by dsimp only; rw [eg]; rfl⟩, rfl⟩) hm
    | some z =>
      obtain ⟨y, hy⟩ := hs s z eg
      rw [hy]
      show some (piA _ y) = some z
      have hl : lnk n f g y = some z := (lnk_iff w).mpr ⟨s, hy, eg⟩
      have hd := wl.dom y z hl
      obtain ⟨r, hr, hyr⟩ := d.row hd.1 hd.2.1
      obtain ⟨k, hk⟩ := List.getElem?_of_mem hyr
      have nd := flat_row d.nd hr
      rw [piA_at d.nd hr hyr, piR_at nd hk]
      cases e : r[k + 1]? with
      | some y' =>
        have := d.adj r hr k y y' hk e
        rw [hl] at this
        cases this
        rfl
      | none =>
        rw [List.getElem?_eq_none_iff] at e
        have hlt := (List.getElem?_eq_some_iff.mp hk).1
        have ek : k = r.length - 1 := by omega
        subst ek
        rcases d.lst r hr y hk with q | q
        · rw [hl] at q; cases q
        · rw [hl] at q
          rw [← q]
          rfl
theorem swL_mem {r : List Int} {s : Stp} (nd : r.Nodup) (h : s ∈ swL r) : ∃ a b, a ∈ r ∧ b ∈ r ∧ a < b ∧ s = .sw a b := by
  unfold swL at h
  obtain ⟨e, he, rfl⟩ := List.mem_map.mp h
  cases r with
  | nil => exact nomatch he
  | cons r0 t =>
    have he : e ∈ t := he
    rw [List.nodup_cons] at nd
    have ne : r0 ≠ e := fun z => nd.1 (z ▸ he)
    show ∃ a b, _ ∧ _ ∧ _ ∧ swS r0 e = _
    unfold swS
    by_cases hlt : r0 < e
    · exact ⟨r0, e, List.mem_cons_self .., List.mem_cons_of_mem _ he, hlt, if_pos hlt⟩
    · exact ⟨e, r0, List.mem_cons_of_mem _ he, List.mem_cons_self .., by omega, if_neg hlt⟩
theorem steps_ok (w : WF n f) (wg : WF n g) : ∀ s ∈ stepsL n f g, s.ok n := fun s hs => by
  have d := dec_parts (wf_lnk w wg)
  rcases List.mem_append.mp hs with h | h
  · obtain ⟨r, hr, h⟩ := List.mem_flatMap.mp h
    obtain ⟨a, b, ha, hb, hlt, rfl⟩ := swL_mem (flat_row d.nd hr) h
    have a1 := (d.mem a).mp (List.mem_flatten.mpr ⟨r, hr, ha⟩)
    have b1 := (d.mem b).mp (List.mem_flatten.mpr ⟨r, hr, hb⟩)
    exact ⟨a1.1, a1.2, b1.1, b1.2, by omega⟩
  · obtain ⟨⟨a, b⟩, hp, rfl⟩ := List.mem_map.mp h
    have := w.dom _ _ ((mem_tab w).mp (List.mem_filter.mp hp).1)
    exact ⟨this.1, this.2.1⟩
theorem steps_len (w : WF n f) (wg : WF n g) : (stepsL n f g).length = dN n f g := by
  unfold stepsL dN lensL
  have : ∀ A : List (List Int), (A.flatMap swL).length = sm (A.map (·.length)) := fun A => by
    induction A with
    | nil => rfl
    | cons r A ih =>
      rw [List.flatMap_cons, List.length_append, ih, swL_len]
      rfl
  rw [List.length_append, this, Nat.add_comm]
theorem hm_iff (w : WF n (lnk n f g)) {x y : Int} {r : List Int} (hr : r ∈ partsL n (lnk n f g)) (hx : x ∈ r) (h0 : 0 ≤ y) (h1 : y < n) : hmL n f g y = hmL n f g x ↔ y ∈ r := by
  have d := dec_parts w
  have hxd := (d.mem x).mp (List.mem_flatten.mpr ⟨r, hr, hx⟩)
  obtain ⟨i, ei, s, es, hs⟩ := hm_some (f := f) (g := g) w hxd.1 hxd.2
  obtain ⟨j, ej, t, et, ht⟩ := hm_some (f := f) (g := g) w h0 h1
  have e1 : s = r := flat_uniq d.nd (List.mem_of_getElem? es) hr hs hx
  subst e1
  rw [ei, ej]
  constructor
  · intro e
    have e := Option.some.inj e
    have : j = i := by omega
    subst this
    rw [es] at et
    cases et
    exact ht
  · intro hy
    have e2 : t = s := flat_uniq d.nd (List.mem_of_getElem? et) hr ht hy
    subst e2
    have nd2 : ∀ {A : List (List Int)}, A.flatten.Nodup → ∀ {i j : Nat} {r : List Int} {x : Int}, A[i]? = some r → A[j]? = some r → x ∈ r → i = j := fun {A} => by
      induction A with
      | nil => intro _ i j r x h; cases h
      | cons a A ih =>
        intro nd i j r x hi hj hx
        rw [List.flatten_cons, List.nodup_append] at nd
        cases i with
        | zero =>
          cases hi
          cases j with
          | zero => rfl
          | succ j => exact absurd rfl (nd.2.2 x hx x (List.mem_flatten.mpr ⟨_, List.mem_of_getElem? (show A[j]? = _ from hj), hx⟩))
        | succ i =>
          cases j with
          | zero =>
            cases hj
            exact absurd rfl (nd.2.2 x hx x (List.mem_flatten.mpr ⟨_, List.mem_of_getElem? (show A[i]? = _ from hi), hx⟩))
          | succ j => exact congrArg _ (ih nd.2.1 hi hj hx)
    rw [nd2 d.nd et es hy]
theorem mem_rowM {x y : Int} (hy : y < n) : y ∈ rowM n f g x ↔ x < y ∧ hmL n f g y = hmL n f g x := by
  unfold rowM
  rw [List.mem_filter, List.mem_map, decide_eq_true_iff]
  constructor
  · rintro ⟨⟨k, hk, rfl⟩, h⟩
    exact ⟨by omega, h⟩
  · rintro ⟨h1, h2⟩
    exact ⟨⟨(y - (x + 1)).toNat, List.mem_range.mpr (by omega), by omega⟩, h2⟩
theorem rowM_lt {x y : Int} (h : y ∈ rowM n f g x) : y < n := by
  unfold rowM at h
  obtain ⟨k, hk, rfl⟩ := List.mem_map.mp (List.mem_filter.mp h).1
  have := List.mem_range.mp hk
  omega
theorem steps_menu (w : WF n f) (wg : WF n g) {s : Stp} (h : s ∈ stepsL n f g) : s ∈ menuL n f g := by
  have wl := wf_lnk w wg
  have d := dec_parts wl
  rcases List.mem_append.mp h with h | h
  · refine List.mem_append_left _ ?_
    obtain ⟨r, hr, h⟩ := List.mem_flatMap.mp h
    obtain ⟨a, b, ha, hb, hlt, rfl⟩ := swL_mem (flat_row d.nd hr) h
    have a1 := (d.mem a).mp (List.mem_flatten.mpr ⟨r, hr, ha⟩)
    have b1 := (d.mem b).mp (List.mem_flatten.mpr ⟨r, hr, hb⟩)
    refine List.mem_flatMap.mpr ⟨a, mem_rgI.mpr ⟨a1.1, by omega⟩, List.mem_map.mpr ⟨b, (mem_rowM b1.2).mpr ⟨hlt, (hm_iff wl hr ha b1.1 b1.2).mpr hb⟩, rfl⟩⟩
  · exact List.mem_append_right _ h
/-- a step of the menu: an exchange within a row, or a source that the goal lacks -/
theorem menu_cases (w : WF n f) (wg : WF n g) {s : Stp} (h : s ∈ menuL n f g) : (∃ a b A1 r A2, ∃ i j : Nat, s = .sw a b ∧ a < b ∧ 0 ≤ a ∧ b < n ∧ partsL n (lnk n f g) = A1 ++ r :: A2 ∧ i < j ∧ ((r[i]? = some a ∧ r[j]? = some b) ∨ (r[i]? = some b ∧ r[j]? = some a))) ∨
    (∃ a, s = .fg a ∧ 0 ≤ a ∧ a < n ∧ (f a).isSome = true ∧ g a = none) := by
  have wl := wf_lnk w wg
  have d := dec_parts wl
  rcases List.mem_append.mp h with h | h
  · obtain ⟨a, ha, h⟩ := List.mem_flatMap.mp h
    obtain ⟨b, hb, rfl⟩ := List.mem_map.mp h
    have a1 := mem_rgI.mp ha
    have b1 := rowM_lt hb
    obtain ⟨hlt, e⟩ := (mem_rowM b1).mp hb
    obtain ⟨r, hr, har⟩ := d.row a1.1 (by omega)
    have hbr := (hm_iff wl hr har (by omega) b1).mp e
    obtain ⟨A1, A2, eA⟩ := List.append_of_mem hr
    obtain ⟨i, hi⟩ := List.getElem?_of_mem har
    obtain ⟨j, hj⟩ := List.getElem?_of_mem hbr
    rcases Nat.lt_trichotomy i j with q | q | q
    · exact .inl ⟨a, b, A1, r, A2, i, j, rfl, hlt, a1.1, b1, eA, q, .inl ⟨hi, hj⟩⟩
    · subst q
      rw [hi] at hj
      cases hj
      omega
    · exact .inl ⟨a, b, A1, r, A2, j, i, rfl, hlt, a1.1, b1, eA, q, .inr ⟨hj, hi⟩⟩
  · obtain ⟨⟨a, b⟩, hp, rfl⟩ := List.mem_map.mp h
    obtain ⟨h1, h2⟩ := List.mem_filter.mp hp
    have hf := (mem_tab w).mp h1
    have hd := w.dom _ _ hf
    exact .inr ⟨a, rfl, hd.1, hd.2.1, by rw [hf]; rfl, Option.isNone_iff_eq_none.mp h2⟩
theorem menu_ok (w : WF n f) (wg : WF n g) {s : Stp} (h : s ∈ menuL n f g) : s.ok n := by
  rcases menu_cases w wg h with ⟨a, b, _, _, _, _, _, rfl, hlt, a0, b1, _⟩ | ⟨a, rfl, a0, a1, _⟩
  · exact ⟨a0, by omega, by omega, b1, by omega⟩
  · exact ⟨a0, a1⟩
theorem menu_src (w : WF n f) (wg : WF n g) (hs : ∀ x y, g x = some y → ∃ z, f x = some z) {s : Stp} (h : s ∈ menuL n f g) : ∀ x y, g x = some y → ∃ z, stp1 f s x = some z := fun x y e => by
  obtain ⟨z, hz⟩ := hs x y e
  rcases menu_cases w wg h with ⟨a, b, _, _, _, _, _, rfl, hlt, _⟩ | ⟨a, rfl, _, _, _, hg⟩
  · rw [stp_sw (by omega), hz]
    exact ⟨_, rfl⟩
  · exact ⟨z, fg_iff.mpr ⟨fun q => (by rw [q, hg] at e; cases e), hz⟩⟩
/-- each step of the menu brings one nearer -/
theorem menu_near (w : WF n f) (wg : WF n g) {s : Stp} (h : s ∈ menuL n f g) : dN n f g = dN n (stp1 f s) g + 1 := by
  have wl := wf_lnk w wg
  have hok := menu_ok w wg h
  unfold dN
  rw [fg_nF, fg_nF]
  rcases menu_cases w wg h with ⟨a, b, A1, r, A2, i, j, rfl, hlt, a0, b1, eA, hij, hp⟩ | ⟨a, rfl, a0, a1, hf, hg⟩
  · have w2 := wf_lnk (wf_stp1 w hok) wg
    have nab : a ≠ b := by omega
    rw [nF_sw nab]
    have hj : j < r.length := by
      rcases hp with q | q
      · exact (List.getElem?_eq_some_iff.mp q.2).1
      · exact (List.getElem?_eq_some_iff.mp q.2).1
    have pm : (lensL n (lnk n (stp1 f (.sw a b)) g)).Perm (A1.map (·.length) ++ [j - i, r.length - (j - i)] ++ A2.map (·.length)) := by
      rcases hp with q | q
      · exact lens_split wl w2 eA hij q.1 q.2 fun x => lnk_sw w nab hok x
      · refine lens_split wl w2 eA hij q.1 q.2 fun x => ?_
        rw [lnk_sw w nab hok x, swp_comm]
    have e1 : lensL n (lnk n f g) = A1.map (·.length) ++ r.length :: A2.map (·.length) := by
      unfold lensL
      rw [eA, List.map_append, List.map_cons]
    rw [sm_perm pm, e1, ← sm_split (k := j - i) (by omega) (by omega)]
    omega
  · rw [lnk_fg w hok hg, nF_fg a0 a1 hf hg]
    omega
theorem menu_nil (w : WF n f) (wg : WF n g) : menuL n f g = [] ↔ dN n f g = 0 := by
  constructor
  · intro h
    rw [← steps_len w wg]
    cases e : stepsL n f g with
    | nil => rfl
    | cons s t =>
      have := steps_menu w wg (s := s) (by rw [e]; exact List.mem_cons_self ..)
      rw [h] at this
      exact nomatch this
  · intro h
    cases e : menuL n f g with
    | nil => rfl
    | cons s t =>
      have := menu_near w wg (s := s) (by rw [e]; exact List.mem_cons_self ..)
      omega
end
end My
set_option maxHeartbeats 1000000
namespace My
open PySem L2 U StX PM
section
variable {n : Int} {f g : PF}
theorem sum_filt {α : Type} (c : α → Bool) (v : α → Nat) : ∀ (l : List α), ((l.filter c).map v).sum = (l.map fun y => if c y = true then v y else 0).sum
  | [] => rfl
  | x :: l => by
    rw [List.filter_cons, List.map_cons, List.sum_cons, ← sum_filt c v l]
    cases c x <;> simp
/-- what an exchange of two elements leaves to be counted -/
noncomputable def wv (d : Nat) (n : Int) (f g : PF) (x y : Int) : Nat := if hmL n f g y = hmL n f g x then cntV d (lensL n fun z => lnk n f g (swp x y z)) else 0
theorem wv_comm (d : Nat) (x y : Int) : wv d n f g x y = wv d n f g y x := by
  unfold wv
  have : (fun z => lnk n f g (swp x y z)) = fun z => lnk n f g (swp y x z) := funext fun z => by rw [swp_comm]
  rw [this]
  by_cases h : hmL n f g y = hmL n f g x
  · rw [if_pos h, if_pos h.symm]
  · rw [if_neg h, if_neg (Ne.symm h)]
noncomputable def valS (d : Nat) (n : Int) (f g : PF) (s : Stp) : Nat := cntV d (lensL n (lnk n (stp1 f s) g))
theorem row_val (w : WF n f) (d : Nat) {x : Int} (h0 : 0 ≤ x) : ((rowM n f g x).map fun y => valS d n f g (.sw x y)).sum = (((List.range (n - (x + 1)).toNat).map fun (k : Nat) => x + 1 + (k : Int)).map (wv d n f g x)).sum := by
  unfold rowM
  rw [sum_filt]
  congr 1
  refine List.map_congr_left fun y hy => ?_
  obtain ⟨k, hk, rfl⟩ := List.mem_map.mp hy
  have hk := List.mem_range.mp hk
  have ne : x ≠ x + 1 + (k : Int) := by omega
  have e : lnk n (stp1 f (.sw x (x + 1 + (k : Int)))) g = fun z => lnk n f g (swp x (x + 1 + (k : Int)) z) := funext fun z => lnk_sw w ne ⟨h0, by omega, by omega, by omega, ne⟩ z
  unfold valS wv
  rw [e]
  by_cases h : hmL n f g (x + 1 + (k : Int)) = hmL n f g x
  · rw [if_pos (decide_eq_true h), if_pos h]
  · rw [if_neg (by rw [decide_eq_false h]; exact Bool.false_ne_true), if_neg h]
theorem menu_val (w : WF n f) (d : Nat) : ∀ (m : Nat) (lo : Int), 0 ≤ lo → lo + m = n → ((menuS n f g ((List.range m).map fun (k : Nat) => lo + (k : Int))).map (valS d n f g)).sum = PS (wv d n f g) ((List.range m).map fun (k : Nat) => lo + (k : Int))
  | 0, lo, _, _ => rfl
  | m + 1, lo, h0, h => by
    have el : ((List.range (m + 1)).map fun (k : Nat) => lo + (k : Int)) = lo :: (List.range m).map fun (k : Nat) => lo + 1 + (k : Int) := by
      rw [List.range_succ_eq_map, List.map_cons, List.map_map]
      congr 1
      · omega
      · refine List.map_congr_left fun k _ => ?_
        show lo + ((k + 1 : Nat) : Int) = _
        omega
    rw [el]
    have ih := menu_val w d m (lo + 1) (by omega) (by omega)
    unfold menuS at ih ⊢
    rw [List.flatMap_cons, List.map_append, List.sum_append, ih]
    show _ = (((List.range m).map fun (k : Nat) => lo + 1 + (k : Int)).map (wv d n f g lo)).sum + _
    congr 1
    rw [List.map_map]
    have := row_val (f := f) (g := g) w d h0
    rw [show (n - (lo + 1)).toNat = m by omega] at this
    exact this
theorem row_sum (w : WF n f) (wg : WF n g) (h30 : n ≤ 30) {d : Nat} (hd : sm (lensL n (lnk n f g)) ≤ d + 1) {r : List Int} (hr : r ∈ partsL n (lnk n f g)) :
    PS (wv d n f g) r * cF (lensL n (lnk n f g)) = (r.length - 1) * (fc d * cG (lensL n (lnk n f g))) := by
  have wl := wf_lnk w wg
  have dd := dec_parts wl
  obtain ⟨A1, A2, eA⟩ := List.append_of_mem hr
  have el : lensL n (lnk n f g) = A1.map (·.length) ++ r.length :: A2.map (·.length) := by
    unfold lensL
    rw [eA, List.map_append, List.map_cons]
  have rl : 1 ≤ r.length := List.length_pos_iff.mpr (dd.ne r hr)
  have rn : r.length ≤ 30 := by
    have h1 : r.length ≤ n.toNat := by
      rw [← dd.len, ← sum_lens]
      exact mem_le_sum (List.mem_map.mpr ⟨r, hr, rfl⟩)
    omega
  have hps : PS (wv d n f g) r = SS (fun k => cntV d (A1.map (·.length) ++ [k, r.length - k] ++ A2.map (·.length))) r.length := by
    refine PS_row _ _ r fun i j a b hij ha hb => ?_
    have hj := (List.getElem?_eq_some_iff.mp hb).1
    have har := List.mem_of_getElem? ha
    have hbr := List.mem_of_getElem? hb
    have hbd := (dd.mem b).mp (List.mem_flatten.mpr ⟨r, hr, hbr⟩)
    have had := (dd.mem a).mp (List.mem_flatten.mpr ⟨r, hr, har⟩)
    have nab : a ≠ b := fun z => by
      have := (List.getElem?_inj (by omega) (flat_row dd.nd hr)).mp (ha.trans (by rw [z, hb]))
      omega
    have wsw : WF n fun z => lnk n f g (swp a b z) := by
      have e : lnk n (stp1 f (.sw a b)) g = fun z => lnk n f g (swp a b z) := funext fun z => lnk_sw w nab ⟨had.1, had.2, hbd.1, hbd.2, nab⟩ z
      rw [← e]
      exact wf_lnk (wf_stp1 w ⟨had.1, had.2, hbd.1, hbd.2, nab⟩) wg
    unfold wv
    rw [if_pos ((hm_iff wl hr har hbd.1 hbd.2).mpr hbr)]
    have pm := lens_split wl wsw eA hij ha hb fun x => rfl
    refine cnt_perm pm ?_
    rw [sm_perm pm]
    have := sm_split (A1 := A1.map (·.length)) (A2 := A2.map (·.length)) (L := r.length) (k := j - i) (by omega) (by omega)
    rw [el] at hd
    omega
  rw [hps, el]
  exact split_sum rl rn (by rw [← el]; exact hd)
theorem sum_mulR (c : Nat) : ∀ (l : List Nat), l.sum * c = (l.map fun x => x * c).sum
  | [] => Nat.zero_mul c
  | x :: l => by rw [List.sum_cons, List.map_cons, List.sum_cons, Nat.add_mul, sum_mulR c l]
theorem rows_sum (w : WF n f) (wg : WF n g) (h30 : n ≤ 30) {d : Nat} (hd : sm (lensL n (lnk n f g)) ≤ d + 1) (h0 : 0 ≤ n) :
    ((menuS n f g (rgI n.toNat)).map (valS d n f g)).sum * cF (lensL n (lnk n f g)) = sm (lensL n (lnk n f g)) * (fc d * cG (lensL n (lnk n f g))) := by
  have wl := wf_lnk w wg
  have dd := dec_parts wl
  have er : rgI n.toNat = (List.range n.toNat).map fun (k : Nat) => (0 : Int) + (k : Int) := by
    unfold rgI
    refine List.map_congr_left fun k _ => (Int.zero_add _).symm
  have e1 : ((menuS n f g (rgI n.toNat)).map (valS d n f g)).sum = PS (wv d n f g) (rgI n.toNat) := by
    rw [er]
    exact menu_val w d n.toNat 0 (Int.le_refl _) (by omega)
  have pm : (rgI n.toNat).Perm (partsL n (lnk n f g)).flatten := (List.perm_ext_iff_of_nodup (nodup_of_lt (rgI_lt _)) dd.nd).mpr fun x => by rw [dd.mem, mem_rgI]; omega
  rw [e1, PS_perm (wv_comm d) pm, PS_flat _ _ fun A1 r A2 eA x hx y hy => ?_]
  · rw [sum_mulR, List.map_map]
    have : ∀ B : List (List Int), (∀ r ∈ B, r ∈ partsL n (lnk n f g)) → (B.map ((fun x => x * cF (lensL n (lnk n f g))) ∘ PS (wv d n f g))).sum = sm (B.map (·.length)) * (fc d * cG (lensL n (lnk n f g))) := fun B => by
      induction B with
      | nil => intro _; exact (Nat.zero_mul _).symm
      | cons r B ih =>
        intro h
        rw [List.map_cons, List.sum_cons, ih fun r' hr => h r' (List.mem_cons_of_mem _ hr)]
        show PS (wv d n f g) r * _ + _ = ((r.length - 1) + sm (B.map (·.length))) * _
        rw [row_sum w wg h30 hd (h r (List.mem_cons_self ..)), Nat.add_mul]
    exact this _ fun r hr => hr
  · have hr : r ∈ partsL n (lnk n f g) := by rw [eA]; simp
    have nd := dd.nd
    rw [eA, List.flatten_append, List.flatten_cons, List.nodup_append, List.nodup_append] at nd
    have hyr : y ∉ r := fun z => nd.2.1.2.2 y z y hy rfl
    have hyd := (dd.mem y).mp (by rw [eA, List.flatten_append, List.flatten_cons]; exact List.mem_append_right _ (List.mem_append_right _ hy))
    unfold wv
    rw [if_neg fun e => hyr ((hm_iff wl hr hx hyd.1 hyd.2).mp e)]
/-- the shortest ways, by their first steps -/
theorem near_sum (w : WF n f) (wg : WF n g) (h30 : n ≤ 30) (h0 : 0 ≤ n) (hd : 0 < dN n f g) :
    ((menuL n f g).map fun s => cntV (dN n (stp1 f s) g) (lensL n (lnk n (stp1 f s) g))).sum = cntV (dN n f g) (lensL n (lnk n f g)) := by
  obtain ⟨d, ed⟩ : ∃ d, dN n f g = d + 1 := ⟨dN n f g - 1, by omega⟩
  have e1 : ((menuL n f g).map fun s => cntV (dN n (stp1 f s) g) (lensL n (lnk n (stp1 f s) g))) = (menuL n f g).map (valS d n f g) := List.map_congr_left fun s hs => by
    have := menu_near w wg hs
    unfold valS
    rw [show dN n (stp1 f s) g = d by omega]
  have hsm : sm (lensL n (lnk n f g)) ≤ d + 1 := by
    unfold dN at ed
    omega
  rw [e1, ed]
  refine Nat.eq_of_mul_eq_mul_right (cF_pos (lensL n (lnk n f g))) ?_
  rw [cnt_eq hsm]
  unfold menuL
  rw [List.map_append, List.sum_append, Nat.add_mul, rows_sum w wg h30 hsm h0]
  have efg : ((fgL n f g).map (valS d n f g)).sum * cF (lensL n (lnk n f g)) = (fgL n f g).length * (fc d * cG (lensL n (lnk n f g))) := by
    by_cases hz : (fgL n f g).length = 0
    · rw [hz, List.length_eq_zero_iff.mp hz, Nat.zero_mul]
      exact Nat.zero_mul _
    have hsm2 : sm (lensL n (lnk n f g)) ≤ d := by
      unfold dN at ed
      omega
    rw [sum_mulR, List.map_map]
    have : ∀ B : List Stp, (∀ s ∈ B, s ∈ fgL n f g) → (B.map ((fun x => x * cF (lensL n (lnk n f g))) ∘ valS d n f g)).sum = B.length * (fc d * cG (lensL n (lnk n f g))) := fun B => by
      induction B with
      | nil => intro _; exact (Nat.zero_mul _).symm
      | cons s B ih =>
        intro h
        rw [List.map_cons, List.sum_cons, ih fun s' hs => h s' (List.mem_cons_of_mem _ hs), List.length_cons, Nat.add_mul, Nat.one_mul, Nat.add_comm]
        congr 1
        obtain ⟨⟨a, b⟩, hp, rfl⟩ := List.mem_map.mp (h s (List.mem_cons_self ..))
        obtain ⟨h1, h2⟩ := List.mem_filter.mp hp
        have hdm := w.dom _ _ ((mem_tab w).mp h1)
        show valS d n f g (.fg a) * _ = _
        unfold valS
        rw [lnk_fg w ⟨hdm.1, hdm.2.1⟩ (Option.isNone_iff_eq_none.mp h2), cnt_eq hsm2]
    exact this _ fun s hs => hs
  rw [efg, ← Nat.add_mul, show sm (lensL n (lnk n f g)) + (fgL n f g).length = d + 1 by unfold dN at ed; omega]
  show (d + 1) * (fc d * cG _) = fc d * (d + 1) * cG _
  rw [← Nat.mul_assoc, Nat.mul_comm (d + 1)]
end
end My
set_option maxHeartbeats 1000000
namespace My
open PySem L2 U StX PM
theorem nd_pairs {l : List (Int × Int)} (h : (l.map (·.1)).Nodup) : l.Nodup := by
  induction l with
  | nil => exact List.nodup_nil
  | cons p l ih =>
    rw [List.map_cons, List.nodup_cons] at h
    rw [List.nodup_cons]
    exact ⟨fun hp => h.1 (List.mem_map.mpr ⟨p, hp, rfl⟩), ih h.2⟩
theorem di_len {l r : List (Int × Int)} {f : PF} (a : DI l f) (b : DI r f) : l.length = r.length := by
  refine Nat.le_antisymm (List.Nodup.length_le_of_subset (nd_pairs a.nd) fun p hp => ?_) (List.Nodup.length_le_of_subset (nd_pairs b.nd) fun p hp => ?_)
  · exact b.mem.mpr (a.mem.mp hp)
  · exact a.mem.mpr (b.mem.mp hp)
theorem shaped_dInts (r : List Int) : SeqAt.shaped (dInts r) = true := by
  have h := lay_rows [r]
  have h1 : (PyData.canLay0 (dInts r) && true) = true := h.1
  rw [Bool.and_true] at h1
  unfold SeqAt.shaped
  have h2 : PyData.depth (dInts r) ≤ 64 := by
    have h3 : PyData.depthAll ([r].map dInts) ≤ 1 := h.2
    have h4 : max (PyData.depth (dInts r)) 0 ≤ 1 := h3
    omega
  rw [h1, Bool.true_and]
  exact decide_eq_true h2
theorem nt_of {D : Ends} {σ : L2.St} {H : Hp} (h : D.nx σ H) : tNext D σ H := h
theorem ifs_of {c : TT} {t u : TS} {D : Ends} {σ : L2.St} {H : Hp} (h : c σ H fun b H1 => if b = true then t D σ H1 else u D σ H1) : tIfS c t u D σ H := h
theorem or_of {a b : TT} {σ : L2.St} {H : Hp} {Q : Bool → Hp → Prop} (h : a σ H fun c H1 => if c = true then Q true H1 else b σ H1 Q) : tOr a b σ H Q := h
theorem test_of {t : TE} {σ : L2.St} {H : Hp} {Q : Bool → Hp → Prop} (h : t σ H fun x H1 => ∃ c, x = .bl c ∧ Q c H1) : tTest t σ H Q := h
theorem nx_seq {a rest : TS} {D : Ends} {σ : L2.St} {H : Hp} (h : a { D with nx := rest D } σ H) : tSeq a rest D σ H := h
theorem op_of {r : R2} {ta tb : TE} {σ : L2.St} {H : Hp} {Q : VK} (h : ta σ H fun x H1 => tb σ H1 fun y H2 => r x y H2 Q) : tOp r ta tb σ H Q := h
/-! ### steps as data -/
def dStp : Stp → PyData
  | .sw a b => .tuple [.str "swap", .int a, .int b]
  | .fg a => .tuple [.str "forget", .int a]
theorem dp_stp {K : PySem.W.Frag} {H : Hp} {t : Addr} {s : Stp} (h : H t = some (.tup (Stp.vs s))) : Dp K H (.ref t) (dStp s) := by
  cases s with
  | sw a b => exact .tup (SqT.of h) (.cons (.str _) (.cons (.int _) (.cons (.int _) .nil)))
  | fg a => exact .tup (SqT.of h) (.cons (.str _) (.cons (.int _) .nil))
theorem dp_stps {K : PySem.W.Frag} {H : Hp} {ts : List Addr} {ss : List Stp} (h : StpsAt H ts ss) : DpAll K H (ts.map V.ref) (ss.map dStp) := by
  unfold StpsAt at h
  induction h with
  | nil => exact .nil
  | cons r _ ih => exact .cons (dp_stp r) ih
theorem lay_stp (s : Stp) : PyData.canLay0 (dStp s) = true ∧ PyData.depth (dStp s) = 1 := by
  cases s with
  | sw a b =>
    refine ⟨?_, rfl⟩
    show (PyData.strOk (Str.ofString "swap") && (true && (true && true))) = true
    rw [show PyData.strOk (Str.ofString "swap") = true from okS_of "swap"]
    rfl
  | fg a =>
    refine ⟨?_, rfl⟩
    show (PyData.strOk (Str.ofString "forget") && (true && true)) = true
    rw [show PyData.strOk (Str.ofString "forget") = true from okS_of "forget"]
    rfl
theorem shaped_stp (s : Stp) : SeqAt.shaped (dStp s) = true := by
  unfold SeqAt.shaped
  rw [(lay_stp s).1, (lay_stp s).2]
  rfl
theorem shaped_stps (l : List Stp) : SeqAt.shaped (.list (l.map dStp)) = true := by
  have h : PyData.canLayAll0 (l.map dStp) = true ∧ PyData.depthAll (l.map dStp) ≤ 1 := by
    induction l with
    | nil => exact ⟨rfl, Nat.zero_le _⟩
    | cons p l ih =>
      refine ⟨?_, ?_⟩
      · show (PyData.canLay0 (dStp p) && PyData.canLayAll0 (l.map dStp)) = true
        rw [ih.1, (lay_stp p).1]; rfl
      · show max (PyData.depth (dStp p)) (PyData.depthAll (l.map dStp)) ≤ 1
        have := (lay_stp p).2
        omega
  unfold SeqAt.shaped
  rw [Bool.and_eq_true]
  refine ⟨h.1, decide_eq_true ?_⟩
  show PyData.depthAll (l.map dStp) + 1 ≤ 64
  omega
theorem eqv_stp (s : Stp) : PyData.eqv (dStp s) (dStp s) = true := by
  cases s with
  | sw a b =>
    show ((Str.ofString "swap" == Str.ofString "swap") && ((a == a) && ((b == b) && true))) = true
    simp
  | fg a =>
    show ((Str.ofString "forget" == Str.ofString "forget") && ((a == a) && true)) = true
    simp
theorem any_stp {l : List Stp} {s : Stp} (h : s ∈ l) : ((l.map dStp).any fun z => PyData.eqv z (dStp s)) = true :=
  List.any_eq_true.mpr ⟨dStp s, List.mem_map.mpr ⟨s, h, rfl⟩, eqv_stp s⟩
theorem eqv_nilS (l : List Stp) : PyData.eqv (.list (l.map dStp)) (.list []) = decide (l = []) := by
  cases l <;> rfl
theorem eqv_nilI (l : List Int) : PyData.eqv (dInts l) (.list []) = decide (l = []) := by
  cases l <;> rfl
/-- [x for x in d if ..], the tests may read d -/
theorem lc_keysI {d : Addr} {l : List (Int × Int)} {te : TE} {i : Nat} {tt : TT} {tv : TE} {vs : List Nat} {σ : L2.St} {H : Hp} {Q : VK} (c : Int → Bool)
    (hd : H d = some (.dK (kvI l))) (hte : ∀ H' (R : VK), R (.ref d) H' → Off d H H' → te σ H' R)
    (hw : ∀ a, wipe ((wipe σ vs).set i a) vs = wipe σ vs)
    (hb : ∀ (x : Int) (H1 : Hp), Off d H H1 → Rd H1 d (.dK (kvI l)) → (∀ R : Bool → Hp → Prop, R (c x) H1 → tt ((wipe σ vs).set i (some (.int x))) H1 R) ∧ (∀ R : VK, R (.int x) H1 → tv ((wipe σ vs).set i (some (.int x))) H1 R))
    (hz : l.length < sizeLine)
    (hq : ∀ D H', H D = none → H' D = some (.lst (((l.map (·.1)).filter c).map V.int)) → Same H H' → Q (.ref D) H') :
    tLockE (tLc (iKeys te) (gName i) tt tv vs) σ H Q := by
  refine ⟨d, _, hd, trivial, fun od => ?_⟩
  refine hte _ _ ⟨d, od, rfl, .inl ⟨kvI l, upd_same, fun D hD => ?_⟩⟩ Off.lock
  have hDd : D ≠ d := fun e => by rw [e, upd_same] at hD; cases hD
  have hD0 : H D = none := by rw [upd_ne hDd] at hD; exact hD
  refine lc_it walk_keys (fun k H' => H' d = some (.frz od (.dK (kvI l))) ∧ Off d H H' ∧ H' D = some (.lst ((((l.take k).map (·.1)).filter c).map V.int))) ⟨?_, Off.lock.mut hD0, upd_same⟩ (fun k H' _ p => p.1) ?_ ?_
  · rw [upd_ne hDd.symm]; exact upd_same
  · rintro k v H' H'' hk1 ⟨p1, p2, p3⟩ ⟨rfl, kk, vv, e1, rfl⟩
    obtain ⟨x, y, exy, rfl, rfl⟩ := kvI_get e1
    rw [kvI_length] at hk1
    refine ⟨hw _, ?_⟩
    obtain ⟨b1, b2⟩ := hb x _ p2 (.inr ⟨od, p1⟩)
    refine b1 _ ?_
    have st : ((l.take (k + 1)).map (·.1)).filter c = ((l.take k).map (·.1)).filter c ++ if c x = true then [x] else [] := by
      rw [take_more exy, List.map_append, List.filter_append]
      congr 1
      cases hc : c x <;> simp [hc]
    cases hc : c x with
    | true =>
      rw [hc, if_pos rfl] at st
      refine iteT (b2 _ ⟨_, p3, ?_, ?_⟩)
      · rw [List.length_map]
        refine Nat.lt_of_le_of_lt (List.length_filter_le _ _) ?_
        rw [List.length_map, List.length_take]
        omega
      refine ⟨?_, p2.mut hD0, ?_⟩
      · rw [upd_ne hDd.symm]; exact p1
      · rw [upd_same, st, List.map_append]
        rfl
    | false =>
      rw [hc, if_neg Bool.false_ne_true, List.append_nil] at st
      refine iteF ⟨p1, p2, ?_⟩
      rw [st]
      exact p3
  · rintro H' ⟨p1, p2, p3⟩
    rw [kvI_length, List.take_length] at p3
    refine ⟨p1, hq D _ hD0 ?_ (p2.back hd)⟩
    rw [upd_ne hDd]
    exact p3
noncomputable def dueV (n : Int) (f g : PF) : V := if srcB n f g = true then .int (distI n f g) else .non
def spDue : Sp := fun vs H Q _ => ∃ (d e : Addr) (l l2 : List (Int × Int)) (n : Int) (f g : PF), vs = [.ref d, .ref e, .int n] ∧ H d = some (.dK (kvI l)) ∧ H e = some (.dK (kvI l2)) ∧ DI l f ∧ DI l2 g ∧ WF n f ∧ WF n g ∧ 1 ≤ n ∧ n ≤ 300 ∧ l.length ≤ 1000 ∧ l2.length ≤ 1000 ∧
  ∀ H', Same H H' → Q (dueV n f g) H'
section
variable {P : Program} {w : World} {K : PySem.W.Frag} {mg : Str → Option Value} {base : Heap}
set_option pp.maxSteps 3000 in
theorem ok_l_due (T : Txt K mg) : FnR P w K mg base CX0 3 T.f_l_due spDue := by
  refine T.A_l_due.ok sc_l_due (fun vs H Q E h => ?_) (fun cdv A outer s H vs Q E hr h => ?_)
  · obtain ⟨d, e, l, l2, n, f, g, rfl, _⟩ := h
    rfl
  · obtain ⟨d, e, l, l2, n, f, g, rfl, h1, h2, di1, di2, wf, wg, n1, n3, hl, hl2, q⟩ := h
    have hu := hu_of hr
    refine ⟨_, (pss_cons (ps_if (pt_cmpR (L2.op_neD hr.units) (pe_lock (pe_lc (own := [("_law_source", 4)]) (g := (gName 4)) rfl sc_l_due.nd (pi_keys (pv 1)) (blkOk_by (own := [("_law_source", 4)]) (N := n_l_due) (sc := defScope s_l_due) (by decide +kernel)) (fun _ _ _ _ _ => (pg_name (i := 4) sc_l_due.nd rfl (Or.inl rfl))) (fun _ _ _ _ _ => (pts_one (pt_cmp (pc_dnotin hu (pv 4) (pv 0))))) (fun _ _ _ _ _ => (pv 4)))) (pe_lst pa_nil) (nomark _))
        (pss_one (ps_ret pe_non)) pss_nil)
      (pss_cons (ps_set (i := 3) sc_l_due.nd rfl (Or.inl rfl) (pe_callTy (call_dictP rfl) (by rfl) T.n_dict (by decide +kernel) (pa_cons (pe_lock (pe_lc (own := [("_law_source", 4), ("_law_target", 5)]) (g := (gTup K 2 (gCons (gName 4) (gCons (gName 5) gNil)))) (tt := tYes) rfl sc_l_due.nd (pi_items (pv 1)) (blkOk_by (own := [("_law_source", 4), ("_law_target", 5)]) (N := n_l_due) (sc := defScope s_l_due) (by decide +kernel)) (fun _ _ _ _ _ => (pg_tup rfl (pgs_cons (pg_name (i := 4) sc_l_due.nd rfl (Or.inl rfl)) (pgs_cons (pg_name (i := 5) sc_l_due.nd rfl (Or.inl rfl)) pgs_nil)))) (fun _ _ _ _ _ => pts_nil) (fun _ _ _ _ _ => (pe_tup (pa_cons (pe_dget hu (pv 0) (pv 4) (fun _ _ => rfl)) (pa_cons (pv 5) pa_nil)))))) pa_nil)))
      (pss_one (ps_ret (pe_op op_sub (pe_op op_add (pe_op op_sub (pe_callB call_lenD (by rfl) T.n_len (by decide +kernel) (pa_cons (pv 0) pa_nil)) (pe_callB call_lenD (by rfl) T.n_len (by decide +kernel) (pa_cons (pv 1) pa_nil))) (pv 2)) (pe_callB call_len_seq (by rfl) T.n_len (by decide +kernel) (pa_cons (pe_callR (ok_l_parts T) (hr.mono (by decide)) T.A_l_parts.kp rfl T.g_l_parts pass0 (pa_cons (pv 3) (pa_cons (pv 2) pa_nil))) pa_nil))))))), ?_⟩
    have rd1 : ∀ H1, Off e H H1 → Rd H1 e (.dK (kvI l2)) → Rd H1 d (.dK (kvI l)) := fun H1 o ho => by
      by_cases e' : d = e
      · subst e'
        rw [h1] at h2
        rw [HO.dK.inj (Option.some.inj h2)]
        exact ho
      · exact .inl (o _ _ e' h1)
    have efl : decide (((l2.map (·.1)).filter fun x => (f x).isNone) = []) = srcB n f g := by
      rw [Bool.eq_iff_iff, decide_eq_true_iff, srcB_iff wg, List.filter_eq_nil_iff]
      constructor
      · intro h x y e
        have := h x (List.mem_map.mpr ⟨(x, y), di2.mem.mpr e, rfl⟩)
        cases q : f x with
        | none => rw [q] at this; exact absurd rfl this
        | some z => exact ⟨z, rfl⟩
      · intro h x hx
        obtain ⟨⟨a, b⟩, hp, rfl⟩ := List.mem_map.mp hx
        obtain ⟨z, hz⟩ := h a b (di2.mem.mp hp)
        dsimp only
        rw [hz]
        exact Bool.false_ne_true
    refine nx_seq (ifs_of (test_of (op_of ?_)))
    refine lc_keysI (fun x => (f x).isNone) h2 (fun H' R r o => ⟨_, rfl, r⟩) (fun _ => rfl) (fun x H1 o ho => ⟨fun R r => ?_, fun R r => ⟨_, rfl, r⟩⟩) (small1000 hl2) (fun D H1 nD hD s1 => ?_)
    · refine ⟨_, rfl, _, rfl, d, _, rfl, (.inl ⟨_, Sum.inl x, rd1 H1 o ho, rfl, rfl⟩), _, rfl, ?_⟩
      rw [valV_kvI, Option.isSome_map, di1.at_]
      have : (!(f x).isSome) = (f x).isNone := by cases f x <;> rfl
      rw [this]
      exact r
    refine ⟨(by show 0 ≤ sizeLine; decide), fun p np => ?_⟩
    have sp := Same.new (o := .lst []) np
    refine ⟨dInts _, .list [], .lst (SqL.of (sp _ _ hD)) (dp_ints _), .lst (SqL.of upd_same) .nil, shaped_dInts _, by decide +kernel, _, rfl, ?_⟩
    rw [eqv_nilI, efl]
    generalize upd H1 p (.lst []) = H2 at sp
    have s02 := s1.trans sp
    unfold dueV at q
    cases hs : srcB n f g with
    | false =>
      rw [hs, if_neg Bool.false_ne_true] at q
      exact iteT (q _ s02)
    | true =>
      rw [hs, if_pos rfl] at q
      refine iteF ?_
      have hsr := (srcB_iff wg).mp hs
      obtain ⟨nk, dk⟩ := lnk_di wf wg di2 hsr
      dsimp only [tNext, tSeq]
      refine asg_of ?_
      have h1' := s02 _ _ h1
      have h2' := s02 _ _ h2
      have rd2 : ∀ H3, Off e H2 H3 → Rd H3 e (.dK (kvI l2)) → Rd H3 d (.dK (kvI l)) := fun H3 o ho => by
        by_cases e' : d = e
        · subst e'
          rw [h1] at h2
          rw [HO.dK.inj (Option.some.inj h2)]
          exact ho
        · exact .inl (o _ _ e' h1')
      refine lc_itemsT (fun _ _ => true) (fun x _ => (f x).getD 0) (fun _ y => y) h2' (fun H' R r o => ⟨_, rfl, r⟩) (fun _ _ => rfl) (fun x y hxy H3 o ho => ⟨fun R r => r, fun _ R r => ?_⟩) (small1000 hl2) (fun D2 ps H3 nD2 hD2 hp s3 => ?_)
      · obtain ⟨z, hz⟩ := hsr x y (di2.mem.mp hxy)
        have hg : DGet H3 d (.int x) _ := .inl ⟨_, Sum.inl x, rd2 H3 o ho, rfl, rfl⟩
        rw [valV_kvI, di1.at_, hz] at hg
        rw [hz] at r
        exact ⟨_, rfl, _, rfl, d, .int z, rfl, hg, _, rfl, (by show 2 ≤ sizeLine; decide), r⟩
      have em : madeI (fun _ _ => true) (fun x _ => (f x).getD 0) (fun _ y => y) l2 = l2.map fun p => ((f p.1).getD 0, p.2) := by
        unfold madeI
        rw [List.filter_eq_self.mpr fun _ _ => rfl]
      rw [em] at hp
      dsimp only [tNil]
      refine dictP_of (Q := fun v Hv => tRet _ _ ((L2.start n_l_due [V.ref d, V.ref e, V.int n]).set 3 (some v)) Hv) hD2 hp dk fun p2 l3 np2 hl3 d3 => ?_
      rw [List.length_map] at hl3
      have s4 : Same H3 (upd H3 p2 (.dK (kvI l3))) := Same.new np2
      have e3 : (upd H3 p2 (.dK (kvI l3))) p2 = some (.dK (kvI l3)) := upd_same
      generalize upd H3 p2 (.dK (kvI l3)) = H4 at s4 e3
      have s24 := s3.trans s4
      have dl1 := di_len di1 (di_tab wf)
      have dl2 := di_len di2 (di_tab wg)
      refine ⟨_, rfl, d, kvI l, rfl, (s24 _ _ h1'), _, rfl, e, kvI l2, rfl, (s24 _ _ h2'), _, _, rfl, rfl, _, rfl, _, _, rfl, rfl, _, rfl, _, rfl, p2, l3, n, _, rfl, e3, d3, wf_lnk wf wg, n1, n3, by omega, fun r ps' as H5 s5 er hps hrs => ?_⟩
      refine ⟨r, _, rfl, .inl (SqL.of er), _, _, rfl, rfl, ?_⟩
      have := q H5 ((s02.trans s24).trans s5)
      have ev : V.int (distI n f g) = V.int ((((kvI l).length : Nat) : Int) - (((kvI l2).length : Nat) : Int) + n - (((ps'.map V.ref).length : Nat) : Int)) := by
        congr 1
        have hl5 := hrs.len
        have hl6 := hps.len
        rw [List.length_map, List.length_append] at hl5
        have hl7 : (partsL n (lnk n f g)).length = (cycS n (lnk n f g)).length + (nons n (lnk n f g)).length := by
          unfold partsL
          rw [List.length_append, List.length_map, List.length_map]
        rw [kvI_length, kvI_length, List.length_map]
        unfold distI lenF
        omega
      rw [ev] at this
      exact this
end
end My
set_option maxHeartbeats 1000000
namespace My
open PySem L2 U StX PM
theorem nx_of {X : L2.St → Hp → Prop} {r : VK} {b c : L2.St → Hp → Prop} {σ : L2.St} {H : Hp} (h : X σ H) : Ends.nx { nx := X, rt := r, bk := b, ct := c } σ H := h
theorem iteF' {b : Bool} {A B : Prop} (h : b = false) (x : B) : if b = true then A else B := by rw [h, if_neg Bool.false_ne_true]; exact x
def spLeads (C : Addr) : Sp := fun vs H Q _ => ∃ a b n f g v r, vs = [.ref a, .ref b, v] ∧ IsMap C H a n f ∧ IsMap C H b n g ∧ ThV C n H v r ∧ ∀ H', Same H H' → Q (.bl (thB n f g r)) H'
/-- what applied does with such a value -/
theorem app_of {C CM CS : Addr} {n : Int} {f : PF} {H : Hp} {m : Addr} {v : V} {r : Option (List Stp)} {Q : VK} {E : XK} (hm : IsMap C H m n f) (h : ThV C n H v r)
    (q : match r with
      | none => ∀ d H' u, Same H H' → H' d = none → E (.ref CS) (some d) (upd H' d (.xd [("position", u)]))
      | some ss => ∀ x H', H x = none → Same H H' → IsMap C H' x n (stps f ss) → Q (.ref x) H') : spApp C CM CS [.ref m, v] H Q E := by
  refine ⟨_, _, rfl, .inr ⟨m, n, f, rfl, hm, ?_⟩⟩
  cases r with
  | none =>
    obtain ⟨hk, h⟩ := h
    refine ⟨hk, ?_⟩
    rcases h with h | ⟨a, ys, z, k, rfl, ha, h1, h2, h3⟩
    · exact .inl ⟨h, fun d H' s nd => q d H' _ s nd⟩
    · exact .inr (.inl ⟨a, ys, z, k, rfl, ha, h1, h2, h3, fun d H' s nd => q d H' _ s nd⟩)
  | some ss =>
    obtain ⟨a, ts, rfl, ha, hp, hok, hl⟩ := h
    exact ⟨.inl ⟨_, ha⟩, .inr (.inr ⟨a, ts, ss, rfl, ha, hp, hok, hl, q⟩)⟩
/-- no map, or maps of unlike sizes: what such a call does -/
def spE2 (C CM CS : Addr) : Sp := fun vs H _ E => ∃ x y, vs = [x, y] ∧ ErrP C CM CS H x y E
/-- one entry of what is told -/
def Ent (o : Option (Int × Int)) (F : Addr) (H : Hp) (v : V) : Prop := match o with
  | none => v = .str "map"
  | some p => ∃ t, v = .ref t ∧ t ≠ F ∧ H t = some (.lst [.int p.1, .int p.2])
def entD : Option (Int × Int) → PyData
  | none => .str "map"
  | some p => dInts [p.1, p.2]
theorem Ent.same {o : Option (Int × Int)} {F : Addr} {H H' : Hp} {v : V} (h : Ent o F H v) (s : Same H H') : Ent o F H' v := by
  cases o with
  | none => exact h
  | some p =>
    obtain ⟨t, e, ne, et⟩ := h
    exact ⟨t, e, ne, s _ _ et⟩
theorem Ent.put {o : Option (Int × Int)} {F : Addr} {H : Hp} {v : V} {u : HO} (h : Ent o F H v) : Ent o F (upd H F u) v := by
  cases o with
  | none => exact h
  | some p =>
    obtain ⟨t, e, ne, et⟩ := h
    exact ⟨t, e, ne, by rw [upd_ne ne]; exact et⟩
theorem Ent.dp {K : PySem.W.Frag} {o : Option (Int × Int)} {F : Addr} {H : Hp} : ∀ {es : List V}, (∀ e ∈ es, Ent o F H e) → DpAll K H es (List.replicate es.length (entD o))
  | [], _ => .nil
  | e :: es, h => by
    rw [List.length_cons, List.replicate_succ]
    refine .cons ?_ (Ent.dp fun x hx => h x (List.mem_cons_of_mem _ hx))
    have := h e (List.mem_cons_self ..)
    cases o with
    | none =>
      have : e = .str "map" := this
      subst this
      exact .str _
    | some p =>
      obtain ⟨t, rfl, _, et⟩ := this
      exact .lst (SqL.of et) (dp_ints [p.1, p.2])
/-- the values that are asked about -/
def BadQ (C : Addr) (H : Hp) (x y : V) : Option (Int × Int) → Prop
  | none => nonMapV H x ∨ ((∃ a n f, x = .ref a ∧ IsMap C H a n f) ∧ nonMapV H y)
  | some p => ∃ a f b g, x = .ref a ∧ y = .ref b ∧ IsMap C H a p.1 f ∧ IsMap C H b p.2 g ∧ p.1 ≠ p.2
theorem BadQ.same {C : Addr} {H H' : Hp} {x y : V} {o : Option (Int × Int)} (h : BadQ C H x y o) (s : Same H H') : BadQ C H' x y o := by
  have nm : ∀ {z : V}, nonMapV H z → nonMapV H' z := fun {z} hz => by
    cases z with
    | ref a =>
      rcases hz with ⟨xs, e⟩ | ⟨xs, e⟩ | ⟨xs, e⟩
      · exact .inl ⟨_, s _ _ e⟩
      · exact .inr (.inl ⟨_, s _ _ e⟩)
      · exact .inr (.inr ⟨_, s _ _ e⟩)
    | _ => exact hz
  cases o with
  | none =>
    rcases h with h | ⟨⟨a, n, f, e, hm⟩, h⟩
    · exact .inl (nm h)
    · exact .inr ⟨⟨a, n, f, e, hm.same s⟩, nm h⟩
  | some p =>
    obtain ⟨a, f, b, g, e1, e2, h1, h2, hne⟩ := h
    exact ⟨a, f, b, g, e1, e2, h1.same s, h2.same s, hne⟩
theorem BadQ.err {C CM CS : Addr} {H : Hp} {x y : V} {o : Option (Int × Int)} {E : XK} (h : BadQ C H x y o) (q : match o with | none => ErrM CM H E | some p => mism CS p.1 p.2 H E) : ErrP C CM CS H x y E := by
  cases o with
  | none =>
    rcases h with h | ⟨⟨a, n, f, e, hm⟩, h⟩
    · exact .inl ⟨h, q⟩
    · exact .inr (.inl ⟨a, n, f, e, hm, h, q⟩)
  | some p =>
    obtain ⟨a, f, b, g, e1, e2, h1, h2, hne⟩ := h
    exact .inr (.inr ⟨a, p.1, f, b, p.2, g, e1, e2, h1, h2, hne, q⟩)
def spRefu (C : Addr) : Sp := fun vs H Q _ => ∃ x y o, vs = [x, y] ∧ BadQ C H x y o ∧ ∀ l es H', Same H H' → H' l = some (.lst es) → es.length = 5 → (∀ e ∈ es, Ent o l H' e) → Q (.ref l) H'
theorem for_lst {K : PySem.W.Frag} {te : TE} {g : TG} {tb : TS} {D : Ends} {σ : L2.St} {H : Hp} (h : te σ H fun x H1 => ∃ a, x = V.ref a ∧ (∃ xs, SqL K H1 a xs) ∧ ∃ W : Nat → Nat → L2.St → Hp → Prop, (∃ m, W 0 m σ H1) ∧ ∀ i m σ H, W i m σ H →
    ((Itl K a).stop i H ∧ D.nx σ H) ∨ ((Itl K a).go i H ∧ ∃ N : L2.St → Hp → Prop, (∀ σ' H', N σ' H' → ∃ m', m' < m ∧ W (i + 1) m' σ' H') ∧ ∀ x H', (Itl K a).yld i H x H' → g x σ H' fun σ2 H2 => tb { D with nx := N, ct := N, bk := D.nx } σ2 H2)) : tFor (iList K te) g tb D σ H := h
theorem for_dispO {K : PySem.W.Frag} {te : TE} {g : TG} {tb : TS} {D : Ends} {σ : L2.St} {H : Hp} {xs : List V} {F : Addr} (hF : ∃ u, H F = some u) (Pv : Hp → Nat → L2.St → Hp → Prop) (hte : ∀ R : VK, (∀ a H1, H a = none → Same H H1 → H1 a = some (.lst xs) → R (.ref a) H1) → te σ H R)
    (h0 : ∀ H1, Same H H1 → Pv H1 0 σ H1) (hk : ∀ H1 i σ H', Pv H1 i σ H' → Off F H1 H')
    (hs : ∀ H1 i v σ H', Same H H1 → xs[i]? = some v → Pv H1 i σ H' → g v σ H' fun σ2 H2 => tb { D with nx := Pv H1 (i + 1), ct := Pv H1 (i + 1), bk := D.nx } σ2 H2)
    (hd : ∀ H1 σ H', Same H H1 → Pv H1 xs.length σ H' → D.nx σ H') : tFor (iList K te) g tb D σ H := by
  obtain ⟨u, hF⟩ := hF
  refine for_lst (hte _ fun a H1 na s1 e => ⟨a, rfl, ⟨_, SqL.of e⟩, ?_⟩)
  have ne : a ≠ F := (ne_of_none hF na).symm
  refine for_it (walk_list (xs := xs)) (Pv H1) (h0 H1 s1) (fun i σ H' _ p => SqL.of (hk H1 i σ H' p _ _ ne e)) ?_ ?_
  · rintro i v σ H0 H' hi hp ⟨rfl, ev⟩
    exact hs H1 i v σ _ s1 ev hp
  · exact fun σ H' hp => hd H1 σ H' s1 hp
section
variable {P : Program} {w : World} {K : PySem.W.Frag} {mg : Str → Option Value} {base : Heap}
set_option pp.maxSteps 3000 in
theorem ok_l_leads (T : Txt K mg) : FnR P w K mg base CX0 10 T.f_l_leads (spLeads T.C_Map) := by
  refine T.A_l_leads.ok sc_l_leads (fun vs H Q E h => ?_) (fun cdv A outer s H vs Q E hr h => ?_)
  · obtain ⟨a, b, n, f, g, v, r, rfl, _⟩ := h
    rfl
  · obtain ⟨a, b, n, f, g, v, r, rfl, ha, hb, hv, q⟩ := h
    have hu := hu_of hr
    refine ⟨_, (pss_one (ps_try_only rfl rfl ⟨rfl, by decide, .inl T.g_InvalidSteps⟩ L2.takes0 (fun W pn xe tk _ => (pss_one (ps_ret (pe_cmpR (op_cmp (fun _ _ => rfl) T.m_Map__eq T.i_Map__eq (ok_eq T) (hr.mono (by decide)) pass0) (pe_callRS (ok_applied T) (hr.mono (by decide)) T.A_applied.kp rfl T.g_applied (fun σ => passAt tk σ) (pa_cons (pv 0) (pa_cons (pv 2) pa_nil))) (pv 1) (nomark _))))) (fun a oe cls d pn hz hf => (pss_one (ps_ret pe_bl))))), ?_⟩
    refine ⟨_, rfl, _, rfl, ?_⟩
    dsimp only [tNil]
    refine app_of ha hv ?_
    cases r with
    | none =>
      intro d H' u s1 nd
      exact ⟨true, T.te_InvalidSteps, fun _ ea nea => q _ (s1.trans (Same.new nd)), fun z => nomatch z⟩
    | some ss =>
      intro x H' nx s1 hm
      have hb1 := hb.same s1
      obtain ⟨dx, fs, e1⟩ := at_map hm
      obtain ⟨dy, gs, e2⟩ := at_map hb1
      exact ⟨_, rfl, x, _, _, b, _, _, rfl, rfl, e1, e2, x, b, n, _, n, g, rfl, hm, hb1, q _ s1⟩
open Classical in
noncomputable def askR (T : Txt K mg) (f : Addr) : Option Sp := if f = T.f_distance ∨ f = T.f_steps ∨ f = T.f_next_steps ∨ f = T.f_count_shortest then some (spE2 T.C_Map T.C_InvalidMap T.C_SizeMismatch) else none
theorem askR_ok (T : Txt K mg) : ∀ f sp, askR T f = some sp → FnR P w K mg base (L2.CX P w) 10 f sp ∧ PySem.W.keepIn K (.ref f) = true := by
  intro f sp h
  unfold askR at h
  split at h
  · rename_i e
    cases h
    have im : ∀ {W : Addr → Addr → Int → PF → PF → Hp → VK → Prop} {k : Nat} {fn : Addr}, k ≤ 10 → FnR P w K mg base (L2.CX P w) k fn (sp2 T.C_Map T.C_InvalidMap T.C_SizeMismatch W) → FnR P w K mg base (L2.CX P w) 10 fn (spE2 T.C_Map T.C_InvalidMap T.C_SizeMismatch) := fun hk F => (F.mono hk).imp fun vs H Q E ⟨x, y, e, h⟩ => ⟨x, y, e, .inl h⟩
    rcases e with rfl | rfl | rfl | rfl
    · exact ⟨im (by decide) (ok_distance T), T.A_distance.kp⟩
    · exact ⟨im (by decide) (ok_steps T), T.A_steps.kp⟩
    · exact ⟨im (by decide) (ok_next_steps T), T.A_next_steps.kp⟩
    · exact ⟨im (by decide) (ok_count_shortest T), T.A_count_shortest.kp⟩
  · cases h
set_option pp.maxSteps 3000 in
theorem ok_l_refused (T : Txt K mg) : FnR P w K mg base CX0 11 T.f_l_refused (spRefu T.C_Map) := by
  refine T.A_l_refused.ok sc_l_refused (fun vs H Q E h => ?_) (fun cdv A outer s H vs Q E hr h => ?_)
  · obtain ⟨x, y, o, rfl, _⟩ := h
    rfl
  · obtain ⟨x, y, o, rfl, hx, q⟩ := h
    have hu := hu_of hr
    refine ⟨_, (pss_cons (ps_set (i := 2) sc_l_refused.nd rfl (Or.inl rfl) (pe_lst pa_nil))
      (pss_cons (ps_for PassesOwn.never rfl (pi_list (pe_lst (pa_cons (pe_glob (v := .ref T.f_distance) rfl T.g_distance rfl) (pa_cons (pe_glob (v := .ref T.f_steps) rfl T.g_steps rfl) (pa_cons (pe_glob (v := .ref T.f_next_steps) rfl T.g_next_steps rfl) (pa_cons (pe_glob (v := .ref T.f_count_shortest) rfl T.g_count_shortest rfl) pa_nil)))))) (pg_name (i := 3) sc_l_refused.nd rfl (Or.inl rfl))
        (pss_one (ps_try_manyA rfl rfl sc_l_refused.nd L2.takes0 (fun W pn xe tk _ => (pss_one (ps_expr (pe_callLS (i := 3) (S := askR T) (askR_ok T) (hr.mono (by decide)) rfl (Or.inl rfl) (fun σ => passAt tk σ) (pa_cons (pv 0) (pa_cons (pv 1) pa_nil)))))) (.cons (i := 4) rfl rfl ⟨rfl, by decide, .inl T.g_InvalidMap⟩ (fun a oe cls d pn hz hf => (pss_one (ps_expr (U.pe_bmK (K0 := K) rfl PySem.F.plainAttrs_list PySem.F.slot_list_append PySem.F.type_list_append mt_append (pv 2) (pa_cons (pe_xf T.xf_InvalidMap T.na_part_InvalidMap hz hf (pv 4)) pa_nil))))) (.cons (i := 4) rfl rfl ⟨rfl, by decide, .inl T.g_SizeMismatch⟩ (fun a oe cls d pn hz hf => (pss_one (ps_expr (U.pe_bmK (K0 := K) rfl PySem.F.plainAttrs_list PySem.F.slot_list_append PySem.F.type_list_append mt_append (pv 2) (pa_cons (pe_lst (pa_cons (pe_xf T.xf_SizeMismatch T.na_first_SizeMismatch hz hf (pv 4)) (pa_cons (pe_xf T.xf_SizeMismatch T.na_second_SizeMismatch hz hf (pv 4)) pa_nil))) pa_nil))))) .nil)))))
      (pss_cons (ps_try_manyA rfl rfl sc_l_refused.nd L2.takes0 (fun W pn xe tk _ => (pss_one (ps_expr (pe_callRS (ok_is_making T) (hr.mono (by decide)) T.A_is_making.kp rfl T.g_is_making (fun σ => passAt tk σ) (pa_cons (pv 0) (pa_cons (pv 1) (pa_cons pe_non pa_nil))))))) (.cons (i := 4) rfl rfl ⟨rfl, by decide, .inl T.g_InvalidMap⟩ (fun a oe cls d pn hz hf => (pss_one (ps_expr (U.pe_bmK (K0 := K) rfl PySem.F.plainAttrs_list PySem.F.slot_list_append PySem.F.type_list_append mt_append (pv 2) (pa_cons (pe_xf T.xf_InvalidMap T.na_part_InvalidMap hz hf (pv 4)) pa_nil))))) (.cons (i := 4) rfl rfl ⟨rfl, by decide, .inl T.g_SizeMismatch⟩ (fun a oe cls d pn hz hf => (pss_one (ps_expr (U.pe_bmK (K0 := K) rfl PySem.F.plainAttrs_list PySem.F.slot_list_append PySem.F.type_list_append mt_append (pv 2) (pa_cons (pe_lst (pa_cons (pe_xf T.xf_SizeMismatch T.na_first_SizeMismatch hz hf (pv 4)) (pa_cons (pe_xf T.xf_SizeMismatch T.na_second_SizeMismatch hz hf (pv 4)) pa_nil))) pa_nil))))) .nil)))
      (pss_one (ps_ret (pv 2)))))), ?_⟩
    refine ⟨(by show 0 ≤ sizeLine; decide), fun F nF => ?_⟩
    have sF : Same H (upd H F (.lst [])) := Same.new nF
    have hF : (upd H F (.lst [])) F = some (.lst []) := upd_same
    generalize upd H F (.lst []) = H1 at sF hF
    have hx1 := hx.same sF
    dsimp only [gName, tSeq]
    refine for_dispO (F := F) ⟨_, hF⟩ (xs := [V.ref T.f_distance, .ref T.f_steps, .ref T.f_next_steps, .ref T.f_count_shortest]) (fun H5 j σ H' => ∃ w3 es, σ = [some x, some y, some (.ref F), w3, none] ∧ Off F H5 H' ∧ H' F = some (.lst es) ∧ es.length = j ∧ ∀ e ∈ es, Ent o F H' e)
      (fun R r => ⟨(show 4 ≤ sizeLine by decide), fun p np => r p _ np (Same.new np) upd_same⟩) (fun H5 s5 => ⟨_, [], rfl, fun _ _ _ h => h, s5 _ _ hF, rfl, fun e h => nomatch h⟩) (fun H5 j σ H' ⟨_, _, _, z, _⟩ => z) ?_ ?_
    · rintro H5 j v σ Hc s_H5 ev ⟨w3, es, rfl, sc, hFc, hlen, hes⟩
      have hj : j < 4 := (List.getElem?_eq_some_iff.mp ev).1
      have s0c : Same H Hc := fun b u e => sc b u (ne_of_none e nF) (s_H5 _ _ (sF _ _ e))
      have hxc := hx.same s0c
      have key2 : ∃ fv, v = .ref fv ∧ askR T fv = some (spE2 T.C_Map T.C_InvalidMap T.C_SizeMismatch) := by
        have hm' : v ∈ [V.ref T.f_distance, .ref T.f_steps, .ref T.f_next_steps, .ref T.f_count_shortest] := List.mem_of_getElem? ev
        rcases List.mem_cons.mp hm' with rfl | hm'
        · exact ⟨_, rfl, if_pos (.inl rfl)⟩
        · rcases List.mem_cons.mp hm' with rfl | hm'
          · exact ⟨_, rfl, if_pos (.inr (.inl rfl))⟩
          · rcases List.mem_cons.mp hm' with rfl | hm'
            · exact ⟨_, rfl, if_pos (.inr (.inr (.inl rfl)))⟩
            · rw [List.mem_singleton] at hm'
              exact ⟨_, hm', if_pos (.inr (.inr (.inr rfl)))⟩
      obtain ⟨fv, rfl, ask⟩ := key2
      refine ⟨fv, _, rfl, ask, _, rfl, _, rfl, x, y, rfl, hxc.err ?_⟩
      cases o with
      | none =>
        intro dd ndd
        have nFd : F ≠ dd := ne_of_none hFc ndd
        have sd : Same Hc (upd Hc dd (.xd [("part", .str "map")])) := Same.new ndd
        have ed : (upd Hc dd (.xd [("part", .str "map")])) dd = some (.xd [("part", .str "map")]) := upd_same
        generalize upd Hc dd (.xd [("part", .str "map")]) = Hd at sd ed
        refine ⟨true, T.te_InvalidMap, fun _ ea nea => ?_, fun q => nomatch q⟩
        refine ⟨_, rfl, .inl ⟨rfl, _, SqL.of (sd _ _ hFc)⟩, _, rfl, rfl, rfl, dd, _, _, rfl, ed, rfl, F, es, _, rfl, rfl, sd _ _ hFc, ?_, ?_⟩
        · exact small1000 (by omega)
        refine ⟨_, _, rfl, fun b u nb e => ?_, upd_same, by rw [List.length_append, hlen]; rfl, fun e he => ?_⟩
        · rw [upd_ne nb]
          exact sd _ _ (sc b u nb e)
        · rcases List.mem_append.mp he with he | he
          · exact ((hes e he).same sd).put
          · rw [List.mem_singleton] at he
            exact he
      | some p =>
        intro dd ndd
        have nFd : F ≠ dd := ne_of_none hFc ndd
        have sd : Same Hc (upd Hc dd (.xd [("second", .int p.2), ("first", .int p.1)])) := Same.new ndd
        have ed : (upd Hc dd (.xd [("second", .int p.2), ("first", .int p.1)])) dd = some (.xd [("second", .int p.2), ("first", .int p.1)]) := upd_same
        generalize upd Hc dd (.xd [("second", .int p.2), ("first", .int p.1)]) = Hd at sd ed
        refine ⟨false, T.te_SizeMismatch_InvalidMap, (fun q => nomatch q), fun _ => ⟨true, T.te_SizeMismatch, fun _ ea nea => ?_, fun q => nomatch q⟩⟩
        refine ⟨_, rfl, .inl ⟨rfl, _, SqL.of (sd _ _ hFc)⟩, _, rfl, rfl, rfl, dd, _, _, rfl, ed, rfl, _, rfl, rfl, rfl, dd, _, _, rfl, ed, rfl, two_le, fun t nt => ?_⟩
        have nFt : F ≠ t := ne_of_none (sd _ _ hFc) nt
        have st : Same Hd (upd Hd t (.lst [.int p.1, .int p.2])) := Same.new nt
        have et : (upd Hd t (.lst [.int p.1, .int p.2])) t = some (.lst [.int p.1, .int p.2]) := upd_same
        refine ⟨F, es, _, rfl, rfl, st _ _ (sd _ _ hFc), ?_, ?_⟩
        · exact small1000 (by omega)
        refine ⟨_, _, rfl, fun b u nb e => ?_, upd_same, by rw [List.length_append, hlen]; rfl, fun e he => ?_⟩
        · rw [upd_ne nb]
          exact st _ _ (sd _ _ (sc b u nb e))
        · rcases List.mem_append.mp he with he | he
          · exact (((hes e he).same sd).same st).put
          · rw [List.mem_singleton] at he
            exact ⟨t, he, nFt.symm, by rw [upd_ne nFt.symm]; exact et⟩
    · rintro H5 σ Hc s_H5 ⟨w3, es, rfl, sc, hFc, hlen, hes⟩
      have s0c : Same H Hc := fun b u e => sc b u (ne_of_none e nF) (s_H5 _ _ (sF _ _ e))
      have hxc := hx.same s0c
      refine ⟨_, rfl, _, rfl, x, y, .non, rfl, .inl (hxc.err ?_)⟩
      have hlen : es.length = 4 := hlen
      cases o with
      | none =>
        intro dd ndd
        have sd : Same Hc (upd Hc dd (.xd [("part", .str "map")])) := Same.new ndd
        have ed : (upd Hc dd (.xd [("part", .str "map")])) dd = some (.xd [("part", .str "map")]) := upd_same
        generalize upd Hc dd (.xd [("part", .str "map")]) = Hd at sd ed
        refine ⟨true, T.te_InvalidMap, fun _ ea nea => ?_, fun q => nomatch q⟩
        refine ⟨_, rfl, .inl ⟨rfl, _, SqL.of (sd _ _ hFc)⟩, _, rfl, rfl, rfl, dd, _, _, rfl, ed, rfl, F, es, _, rfl, rfl, sd _ _ hFc, ?_, ?_⟩
        · exact small1000 (by omega)
        refine ⟨_, rfl, q F (es ++ [.str "map"]) _ (fun b u e => ?_) upd_same (by rw [List.length_append, hlen]; rfl) fun e he => ?_⟩
        · rw [upd_ne (ne_of_none e nF)]
          exact sd _ _ (s0c _ _ e)
        · rcases List.mem_append.mp he with he | he
          · exact ((hes e he).same sd).put
          · rw [List.mem_singleton] at he
            exact he
      | some p =>
        intro dd ndd
        have sd : Same Hc (upd Hc dd (.xd [("second", .int p.2), ("first", .int p.1)])) := Same.new ndd
        have ed : (upd Hc dd (.xd [("second", .int p.2), ("first", .int p.1)])) dd = some (.xd [("second", .int p.2), ("first", .int p.1)]) := upd_same
        generalize upd Hc dd (.xd [("second", .int p.2), ("first", .int p.1)]) = Hd at sd ed
        refine ⟨false, T.te_SizeMismatch_InvalidMap, (fun q => nomatch q), fun _ => ⟨true, T.te_SizeMismatch, fun _ ea nea => ?_, fun q => nomatch q⟩⟩
        refine ⟨_, rfl, .inl ⟨rfl, _, SqL.of (sd _ _ hFc)⟩, _, rfl, rfl, rfl, dd, _, _, rfl, ed, rfl, _, rfl, rfl, rfl, dd, _, _, rfl, ed, rfl, two_le, fun t nt => ?_⟩
        have nFt : F ≠ t := ne_of_none (sd _ _ hFc) nt
        have st : Same Hd (upd Hd t (.lst [.int p.1, .int p.2])) := Same.new nt
        have et : (upd Hd t (.lst [.int p.1, .int p.2])) t = some (.lst [.int p.1, .int p.2]) := upd_same
        refine ⟨F, es, _, rfl, rfl, st _ _ (sd _ _ hFc), ?_, ?_⟩
        · exact small1000 (by omega)
        refine ⟨_, rfl, q F (es ++ [.ref t]) _ (fun b u e => ?_) upd_same (by rw [List.length_append, hlen]; rfl) fun e he => ?_⟩
        · rw [upd_ne (ne_of_none e nF)]
          exact st _ _ (sd _ _ (s0c _ _ e))
        · rcases List.mem_append.mp he with he | he
          · exact (((hes e he).same sd).same st).put
          · rw [List.mem_singleton] at he
            exact ⟨t, he, nFt.symm, by rw [upd_ne nFt.symm]; exact et⟩
end
end My
set_option maxHeartbeats 1000000
namespace My
open PySem L2 U StX PM
def spBent (C : Addr) : Sp := fun vs H Q _ => ∃ (p l : Addr) (n : Int) (ts : List Addr) (ss : List Stp), vs = [.ref p, .ref l, .int n] ∧ PoolAt H p ∧ H l = some (.lst (ts.map V.ref)) ∧ l ≠ p ∧ StpsAt H ts ss ∧ (∀ s ∈ ss, Stp.ok n s) ∧ ss.length ≤ 45 ∧ 1 ≤ n ∧ n ≤ 300 ∧
  ∀ v r H', PoolAt H' p → Off p H H' → (∀ b, v = .ref b → H b = none) → ThV C n H' v r → Q v H'
/-- a step or none of them -/
def OddV (C : Addr) (n : Int) (H : Hp) (v : V) : Prop := (∃ t s, v = .ref t ∧ H t = some (.tup (Stp.vs s)) ∧ Stp.ok n s) ∨ StB C n H v false
theorem OddV.same {C : Addr} {n : Int} {H H' : Hp} {v : V} (h : OddV C n H v) (s : Same H H') : OddV C n H' v := by
  rcases h with ⟨t, x, e, et, ok⟩ | h
  · exact .inl ⟨t, x, e, s _ _ et, ok⟩
  · exact .inr (h.same s)
theorem paired_rev {α β : Type} {R : α → β → Prop} {xs : List α} {ys : List β} (h : Paired R xs ys) : Paired R xs.reverse ys.reverse := by
  induction h with
  | nil => exact .nil
  | cons a _ ih =>
    rw [List.reverse_cons, List.reverse_cons]
    exact paired_snoc ih a
theorem paired_take {α β : Type} {R : α → β → Prop} : ∀ {xs : List α} {ys : List β} (k : Nat), Paired R xs ys → Paired R (xs.take k) (ys.take k)
  | _, _, 0, _ => .nil
  | _, _, k + 1, .nil => .nil
  | _, _, k + 1, .cons h r => .cons h (paired_take k r)
theorem paired_drop {α β : Type} {R : α → β → Prop} : ∀ {xs : List α} {ys : List β} (k : Nat), Paired R xs ys → Paired R (xs.drop k) (ys.drop k)
  | _, _, 0, h => h
  | _, _, k + 1, .nil => .nil
  | _, _, k + 1, .cons _ r => paired_drop k r
theorem cut_dropA (xs : List V) (k : Nat) : cutV xs (some (k : Int)) none = xs.drop k := by
  by_cases h : k ≤ xs.length
  · exact cut_drop xs k h
  have h1 : HT.sIx xs.length 0 (some (k : Int)) = xs.length := by
    show (if (k : Int) < 0 then ((k : Int) + ((xs.length : Nat) : Int)).toNat else min (k : Int).toNat xs.length) = xs.length
    rw [if_neg (by omega)]
    omega
  unfold cutV
  rw [h1, HT.sIx_none, List.drop_length, List.take_nil, List.drop_eq_nil_of_le (by omega)]
theorem stb_of {C : Addr} {n : Int} {H : Hp} {t : Addr} {s : Stp} (e : H t = some (.tup (Stp.vs s))) (ok : s.ok n) : StB C n H (.ref t) true :=
  ⟨.inr (.inl ⟨_, e⟩), .inr ⟨t, _, rfl, e, known_vs s, by cases s <;> simp [Stp.vs], (stepB_of ok).symm⟩⟩
theorem th_some {C : Addr} {n : Int} {H : Hp} {a : Addr} {ts : List Addr} {ss : List Stp} (e : H a = some (.lst (ts.map V.ref))) (h : StpsAt H ts ss) (ok : ∀ s ∈ ss, s.ok n) (hl : ss.length ≤ 100) : ThV C n H (.ref a) (some ss) := ⟨a, ts, rfl, e, h, ok, hl⟩
/-- one more put in -/
theorem th_ins {C : Addr} {n : Int} {H : Hp} {a : Addr} {ts : List Addr} {ss : List Stp} {v : V} {k : Nat} (e : H a = some (.lst (((ts.map V.ref).take k ++ [v]) ++ (ts.map V.ref).drop k))) (h : StpsAt H ts ss) (ok : ∀ s ∈ ss, s.ok n) (hl : ss.length ≤ 45) (hk : k ≤ ts.length) (o : OddV C n H v) : ∃ r, ThV C n H (.ref a) r := by
  rcases o with ⟨t, s, rfl, et, oks⟩ | o
  · refine ⟨some (ss.take k ++ [s] ++ ss.drop k), th_some (ts := ts.take k ++ [t] ++ ts.drop k) ?_ ?_ ?_ ?_⟩
    · rw [e, List.map_append, List.map_append, List.map_take, List.map_drop]
      rfl
    · exact stps_app (stps_app (paired_take k h) (.cons et .nil)) (paired_drop k h)
    · intro x hx
      rcases List.mem_append.mp hx with hx | hx
      · rcases List.mem_append.mp hx with hx | hx
        · exact ok x (List.mem_of_mem_take hx)
        · rw [List.mem_singleton] at hx
          rw [hx]
          exact oks
      · exact ok x (List.mem_of_mem_drop hx)
    · rw [List.length_append, List.length_append, List.length_take, List.length_drop, List.length_singleton]
      omega
  · have hlen := paired_len h
    refine ⟨none, .inl ⟨_, e⟩, .inr ⟨a, _, v, k, rfl, e, fun i z hi ez => ?_, ?_, o⟩⟩
    · rw [List.append_assoc, List.getElem?_append_left (by rw [List.length_take, List.length_map]; omega), List.getElem?_take, if_pos hi, List.getElem?_map] at ez
      obtain ⟨t, et, rfl⟩ := Option.map_eq_some_iff.mp ez
      obtain ⟨s, es, ht⟩ := paired_at h et
      exact stb_of ht (ok s (List.mem_of_getElem? es))
    · have h1 : ((ts.map V.ref).take k).length = k := by rw [List.length_take, List.length_map]; omega
      rw [List.append_assoc, List.getElem?_append_right (by omega), h1, Nat.sub_self]
      rfl
theorem offS {p : Addr} {H H' : Hp} (s : Same H H') : Off p H H' := fun _ _ _ h => s _ _ h
theorem atI_ix {xs : List V} {r : Int} (h0 : 0 ≤ r) (h1 : r < (xs.length : Nat)) : ∃ v, xs[r.toNat]? = some v := ⟨_, List.getElem?_eq_getElem (by omega)⟩
section
variable {P : Program} {w : World} {K : PySem.W.Frag} {mg : Str → Option Value} {base : Heap}
set_option pp.maxSteps 3000 in
theorem ok_l_bent (T : Txt K mg) : FnR P w K mg base CX0 6 T.f_l_bent (spBent T.C_Map) := by
  refine T.A_l_bent.ok sc_l_bent (fun vs H Q E h => ?_) (fun cdv A outer s H vs Q E hr h => ?_)
  · obtain ⟨p, l, n, ts, ss, rfl, _⟩ := h
    rfl
  · obtain ⟨p, l, n, ts, ss, rfl, pool, hl, nlp, hp, hok, hls, n1, n3, q⟩ := h
    have hu := hu_of hr
    refine ⟨_, (pss_cons (ps_set (i := 3) sc_l_bent.nd rfl (Or.inl rfl) (pe_callR (ok_draw T) (hr.mono (by decide)) T.A_l_draw.kp rfl T.g_l_draw pass0 (pa_cons (pv 0) (pa_cons (pe_op op_add (pe_callB call_len_seq (by rfl) T.n_len (by decide +kernel) (pa_cons (pv 1) pa_nil)) pe_int) pa_nil))))
      (pss_cons (ps_par (i := 4) (j := 5) rfl sc_l_bent.nd rfl rfl (by decide) rfl rfl (pa_cons (pe_callR (ok_draw T) (hr.mono (by decide)) T.A_l_draw.kp rfl T.g_l_draw pass0 (pa_cons (pv 0) (pa_cons (pv 2) pa_nil))) (pa_cons (pe_callR (ok_draw T) (hr.mono (by decide)) T.A_l_draw.kp rfl T.g_l_draw pass0 (pa_cons (pv 0) (pa_cons (pv 2) pa_nil))) pa_nil)) (by rfl))
      (pss_cons (ps_set (i := 6) sc_l_bent.nd rfl (Or.inl rfl) (pe_lst (pa_cons (pe_tup (pa_cons pe_str (pa_cons (pv 4) pa_nil))) (pa_cons (pe_tup (pa_cons pe_str (pa_cons (pv 4) (pa_cons (pv 5) pa_nil)))) (pa_cons pe_non (pa_cons (pe_tup (pa_cons pe_str (pa_cons pe_int pa_nil))) (pa_cons (pe_lst (pa_cons pe_str (pa_cons pe_int pa_nil))) (pa_cons (pe_tup (pa_cons pe_str (pa_cons pe_bl pa_nil))) pa_nil))))))))
      (pss_cons (ps_set (i := 6) sc_l_bent.nd rfl (Or.inl rfl) (pe_ix ix_list (pv 6) (pe_callR (ok_draw T) (hr.mono (by decide)) T.A_l_draw.kp rfl T.g_l_draw pass0 (pa_cons (pv 0) (pa_cons pe_int pa_nil))) (fun _ _ => rfl)))
      (pss_cons (ps_set (i := 7) sc_l_bent.nd rfl (Or.inl rfl) (pe_lst (pa_cons (pe_op op_cat (pe_op op_cat (pe_slice sl_list (pv 1) po_none (po_some (pv 3))) (pe_lst (pa_cons (pv 6) pa_nil))) (pe_slice sl_list (pv 1) (po_some (pv 3)) po_none)) (pa_cons (pe_op op_cat (pe_slice sl_list (pv 1) po_none (po_some (pv 3))) (pe_slice sl_list (pv 1) (po_some (pe_op op_add (pv 3) pe_int)) po_none)) (pa_cons (pe_revL (pv 1)) (pa_cons (pe_callTy call_tuple_of (by rfl) T.n_tuple (by decide +kernel) (pa_cons (pv 1) pa_nil)) (pa_cons pe_non (pa_cons (pe_op op_cat (pv 1) (pe_revL (pv 1))) pa_nil))))))))
      (pss_one (ps_ret (pe_ix ix_list (pe_op op_cat (pv 7) (pe_lst (pa_cons pe_dnewK (pa_cons pe_int (pa_cons (pe_lst (pa_cons pe_non pa_nil)) pa_nil))))) (pe_callR (ok_draw T) (hr.mono (by decide)) T.A_l_draw.kp rfl T.g_l_draw pass0 (pa_cons (pv 0) (pa_cons pe_int pa_nil))) (fun _ _ => rfl))))))))), ?_⟩
    have hlen := paired_len hp
    dsimp only [tNext, tSeq, tAsg]
    refine draw_R rfl (fun R r => ⟨_, rfl, l, _, rfl, .inl (SqL.of hl), _, _, rfl, rfl, r⟩) pool (n := (((ts.map V.ref).length : Nat) : Int) + 1) (by omega) (by rw [List.length_map]; omega) fun at_ H1 a0 a1 pool1 off1 => ?_
    rw [List.length_map] at a1
    obtain ⟨k, rfl⟩ : ∃ k : Nat, at_ = (k : Int) := ⟨at_.toNat, by omega⟩
    have hk : k ≤ ts.length := by omega
    refine draw_R rfl (fun R r => ⟨_, rfl, r⟩) pool1 (by omega) (by omega) fun x1 H2 x10 x11 pool2 off2 => ?_
    refine draw_R rfl (fun R r => ⟨_, rfl, r⟩) pool2 (by omega) (by omega) fun x2 H3 x20 x21 pool3 off3 => ?_
    refine ⟨_, _, rfl, ?_⟩
    have o03 := (off1.tr off2).tr off3
    refine ⟨_, rfl, two_le, ?_⟩
    refine fun t1 n_t1 => ?_
    generalize g_t1 : L2.upd _ t1 _ = H4
    obtain ⟨s_H4, e_t1⟩ := U.upd_facts g_t1 n_t1
    clear g_t1
    refine ⟨_, rfl, _, rfl, (by show 3 ≤ sizeLine; decide), ?_⟩
    refine fun t2 n_t2 => ?_
    generalize g_t2 : L2.upd _ t2 _ = H5
    obtain ⟨s_H5, e_t2⟩ := U.upd_facts g_t2 n_t2
    clear g_t2
    refine ⟨two_le, ?_⟩
    refine fun t3 n_t3 => ?_
    generalize g_t3 : L2.upd _ t3 _ = H6
    obtain ⟨s_H6, e_t3⟩ := U.upd_facts g_t3 n_t3
    clear g_t3
    refine ⟨two_le, ?_⟩
    refine fun t4 n_t4 => ?_
    generalize g_t4 : L2.upd _ t4 _ = H7
    obtain ⟨s_H7, e_t4⟩ := U.upd_facts g_t4 n_t4
    clear g_t4
    refine ⟨two_le, ?_⟩
    refine fun t5 n_t5 => ?_
    generalize g_t5 : L2.upd _ t5 _ = H8
    obtain ⟨s_H8, e_t5⟩ := U.upd_facts g_t5 n_t5
    clear g_t5
    refine ⟨(by show 6 ≤ sizeLine; decide), ?_⟩
    refine fun L n_L => ?_
    generalize g_L : L2.upd _ L _ = H9
    obtain ⟨s_H9, e_L⟩ := U.upd_facts g_L n_L
    clear g_L
    have s49 := s_H4.trans (s_H5.trans (s_H6.trans (s_H7.trans (s_H8.trans s_H9))))
    have pool9 := pool3.same s49
    have nL : p ≠ L := pool3.ne ((s_H4.trans (s_H5.trans (s_H6.trans (s_H7.trans s_H8)))).free n_L)
    have nt1 : p ≠ t1 := pool3.ne n_t1
    have nt2 : p ≠ t2 := pool3.ne (s_H4.free n_t2)
    have nt3 : p ≠ t3 := pool3.ne ((s_H4.trans s_H5).free n_t3)
    have nt4 : p ≠ t4 := pool3.ne ((s_H4.trans (s_H5.trans s_H6)).free n_t4)
    have nt5 : p ≠ t5 := pool3.ne ((s_H4.trans (s_H5.trans (s_H6.trans s_H7))).free n_t5)
    dsimp only [gName]
    refine ⟨_, rfl, ?_⟩
    refine draw_R rfl (fun R r => r) pool9 (by omega) (by omega) fun r1 H10 r10 r11 pool10 off10 => ?_
    have g1 := off10 _ _ nt1.symm ((s_H5.trans (s_H6.trans (s_H7.trans (s_H8.trans s_H9)))) _ _ e_t1)
    have g2 := off10 _ _ nt2.symm ((s_H6.trans (s_H7.trans (s_H8.trans s_H9))) _ _ e_t2)
    have g3 := off10 _ _ nt3.symm ((s_H7.trans (s_H8.trans s_H9)) _ _ e_t3)
    have g4 := off10 _ _ nt4.symm ((s_H8.trans s_H9) _ _ e_t4)
    have g5 := off10 _ _ nt5.symm (s_H9 _ _ e_t5)
    have gL := off10 _ _ nL.symm e_L
    have o010 : Off p H H10 := (o03.tr (offS s49)).tr off10
    obtain ⟨v, hv⟩ := atI_ix (xs := [V.ref t1, .ref t2, .non, .ref t3, .ref t4, .ref t5]) r10 (by simp only [List.length_cons, List.length_nil]; omega)
    have odd : ∀ H', Off p H10 H' → OddV T.C_Map n H' v := fun H' o => by
      replace g1 := o _ _ nt1.symm g1
      replace g2 := o _ _ nt2.symm g2
      replace g3 := o _ _ nt3.symm g3
      replace g4 := o _ _ nt4.symm g4
      replace g5 := o _ _ nt5.symm g5
      have hm := List.mem_of_getElem? hv
      simp only [List.mem_cons, List.not_mem_nil, or_false] at hm
      rcases hm with rfl | rfl | rfl | rfl | rfl | rfl
      · exact .inl ⟨t1, .fg x1, rfl, g1, x10, x11⟩
      · by_cases he : x1 = x2
        · refine .inr ⟨.inr (.inl ⟨_, g2⟩), .inr ⟨t2, _, rfl, g2, fun z hz => ?_, (show 3 ≤ 100 by decide), ?_⟩⟩
          · simp only [List.mem_cons, List.not_mem_nil, or_false] at hz
            rcases hz with rfl | rfl | rfl <;> trivial
          · subst he
            simp [stepB, nth]
        · exact .inl ⟨t2, .sw x1 x2, rfl, g2, x10, x11, x20, x21, he⟩
      · exact .inr ⟨trivial, .inl ⟨id, rfl⟩⟩
      · refine .inr ⟨.inr (.inl ⟨_, g3⟩), .inr ⟨t3, _, rfl, g3, fun z hz => ?_, (show 2 ≤ 100 by decide), ?_⟩⟩
        · simp only [List.mem_cons, List.not_mem_nil, or_false] at hz
          rcases hz with rfl | rfl <;> trivial
        · simp [stepB, nth]
      · refine .inr ⟨.inl ⟨_, g4⟩, .inl ⟨?_, rfl⟩⟩
        rintro ⟨xs, e⟩
        rw [g4] at e
        cases e
      · refine .inr ⟨.inr (.inl ⟨_, g5⟩), .inr ⟨t5, _, rfl, g5, fun z hz => ?_, (show 2 ≤ 100 by decide), ?_⟩⟩
        · simp only [List.mem_cons, List.not_mem_nil, or_false] at hz
          rcases hz with rfl | rfl <;> trivial
        · simp [stepB, nth, inR]
    refine ⟨L, _, r1, v, rfl, rfl, SqL.of gL, ?_, ?_⟩
    · rw [show r1 = ((r1.toNat : Nat) : Int) by omega]
      exact atI_nat hv
    have hl10 := o010 _ _ nlp hl
    have hp10 : StpsAt H10 ts ss := hp.off pool.lst o010
    clear e_t1 e_t2 e_t3 e_t4 e_t5 e_L n_t1 n_t2 n_t3 n_t4 n_t5 n_L
    dsimp only [gName, tNext, tSeq, tAsg, tCons, tNil]
    refine ⟨_, rfl, _, rfl, ((k : Nat) : Int), rfl, l, _, rfl, SqL.of hl10, ?_⟩
    refine fun p1 n_p1 => ?_
    generalize g_p1 : L2.upd _ p1 _ = A1
    obtain ⟨s_A1, e_p1⟩ := U.upd_facts g_p1 n_p1
    clear g_p1
    rw [cut_take _ k (by rw [List.length_map]; exact hk)] at e_p1
    have l1 := s_A1 _ _ hl10
    refine ⟨_, rfl, one_le, ?_⟩
    refine fun b1 n_b1 => ?_
    generalize g_b1 : L2.upd _ b1 _ = A2
    obtain ⟨s_A2, e_b1⟩ := U.upd_facts g_b1 n_b1
    clear g_b1
    refine ⟨p1, b1, _, _, rfl, rfl, s_A2 _ _ e_p1, e_b1, ?_, ?_⟩
    · simp only [List.length_append, List.length_take, List.length_drop, List.length_map, List.length_reverse, List.length_cons, List.length_nil]
      exact Nat.le_trans (by omega : _ ≤ 1000) (by decide)
    refine fun c1 n_c1 => ?_
    generalize g_c1 : L2.upd _ c1 _ = A3
    obtain ⟨s_A3, e_c1⟩ := U.upd_facts g_c1 n_c1
    clear g_c1
    have l3 := (s_A2.trans s_A3) _ _ l1
    refine ⟨_, rfl, _, rfl, ((k : Nat) : Int), rfl, l, _, rfl, SqL.of l3, ?_⟩
    refine fun d1 n_d1 => ?_
    generalize g_d1 : L2.upd _ d1 _ = A4
    obtain ⟨s_A4, e_d1⟩ := U.upd_facts g_d1 n_d1
    clear g_d1
    rw [cut_dropA] at e_d1
    refine ⟨c1, d1, _, _, rfl, rfl, s_A4 _ _ e_c1, e_d1, ?_, ?_⟩
    · simp only [List.length_append, List.length_take, List.length_drop, List.length_map, List.length_reverse, List.length_cons, List.length_nil]
      exact Nat.le_trans (by omega : _ ≤ 1000) (by decide)
    refine fun f1 n_f1 => ?_
    generalize g_f1 : L2.upd _ f1 _ = A5
    obtain ⟨s_A5, e_f1⟩ := U.upd_facts g_f1 n_f1
    clear g_f1
    have l5 := (s_A4.trans s_A5) _ _ l3
    refine ⟨_, rfl, _, rfl, ((k : Nat) : Int), rfl, l, _, rfl, SqL.of l5, ?_⟩
    refine fun p2 n_p2 => ?_
    generalize g_p2 : L2.upd _ p2 _ = A6
    obtain ⟨s_A6, e_p2⟩ := U.upd_facts g_p2 n_p2
    clear g_p2
    rw [cut_take _ k (by rw [List.length_map]; exact hk)] at e_p2
    have l6 := s_A6 _ _ l5
    refine ⟨_, rfl, _, rfl, _, _, rfl, rfl, ((k : Nat) : Int) + 1, rfl, l, _, rfl, SqL.of l6, ?_⟩
    refine fun d2 n_d2 => ?_
    generalize g_d2 : L2.upd _ d2 _ = A7
    obtain ⟨s_A7, e_d2⟩ := U.upd_facts g_d2 n_d2
    clear g_d2
    rw [show ((k : Nat) : Int) + 1 = ((k + 1 : Nat) : Int) by omega, cut_dropA] at e_d2
    refine ⟨p2, d2, _, _, rfl, rfl, s_A7 _ _ e_p2, e_d2, ?_, ?_⟩
    · simp only [List.length_append, List.length_take, List.length_drop, List.length_map, List.length_reverse, List.length_cons, List.length_nil]
      exact Nat.le_trans (by omega : _ ≤ 1000) (by decide)
    refine fun h1 n_h1 => ?_
    generalize g_h1 : L2.upd _ h1 _ = A8
    obtain ⟨s_A8, e_h1⟩ := U.upd_facts g_h1 n_h1
    clear g_h1
    have l8 := (s_A7.trans s_A8) _ _ l6
    refine ⟨_, rfl, l, _, rfl, SqL.of l8, ?_⟩
    refine fun i1 n_i1 => ?_
    generalize g_i1 : L2.upd _ i1 _ = A9
    obtain ⟨s_A9, e_i1⟩ := U.upd_facts g_i1 n_i1
    clear g_i1
    have l9 := s_A9 _ _ l8
    refine ⟨_, rfl, l, _, rfl, .inl ⟨SqL.of l9, ?_⟩⟩
    refine fun j1 n_j1 => ?_
    generalize g_j1 : L2.upd _ j1 _ = A10
    obtain ⟨s_A10, e_j1⟩ := U.upd_facts g_j1 n_j1
    clear g_j1
    have l10 := s_A10 _ _ l9
    refine ⟨_, rfl, _, rfl, l, _, rfl, SqL.of l10, ?_⟩
    refine fun k1 n_k1 => ?_
    generalize g_k1 : L2.upd _ k1 _ = A11
    obtain ⟨s_A11, e_k1⟩ := U.upd_facts g_k1 n_k1
    clear g_k1
    have l11 := s_A11 _ _ l10
    refine ⟨l, k1, _, _, rfl, rfl, l11, e_k1, ?_, ?_⟩
    · simp only [List.length_append, List.length_take, List.length_drop, List.length_map, List.length_reverse, List.length_cons, List.length_nil]
      exact Nat.le_trans (by omega : _ ≤ 1000) (by decide)
    refine fun m1 n_m1 => ?_
    generalize g_m1 : L2.upd _ m1 _ = A12
    obtain ⟨s_A12, e_m1⟩ := U.upd_facts g_m1 n_m1
    clear g_m1
    refine ⟨(show 6 ≤ sizeLine by decide), ?_⟩
    refine fun S n_S => ?_
    generalize g_S : L2.upd _ S _ = A13
    obtain ⟨s_A13, e_S⟩ := U.upd_facts g_S n_S
    clear g_S
    refine ⟨_, rfl, ?_⟩
    refine fun dd n_dd => ?_
    generalize g_dd : L2.upd _ dd _ = A14
    obtain ⟨s_A14, e_dd⟩ := U.upd_facts g_dd n_dd
    clear g_dd
    refine ⟨one_le, ?_⟩
    refine fun n2 n_n2 => ?_
    generalize g_n2 : L2.upd _ n2 _ = A15
    obtain ⟨s_A15, e_n2⟩ := U.upd_facts g_n2 n_n2
    clear g_n2
    refine ⟨(show 3 ≤ sizeLine by decide), ?_⟩
    refine fun w1 n_w1 => ?_
    generalize g_w1 : L2.upd _ w1 _ = A16
    obtain ⟨s_A16, e_w1⟩ := U.upd_facts g_w1 n_w1
    clear g_w1
    refine ⟨S, w1, _, _, rfl, rfl, (s_A14.trans (s_A15.trans s_A16)) _ _ e_S, e_w1, (show 9 ≤ sizeLine by decide), ?_⟩
    refine fun Z n_Z => ?_
    generalize g_Z : L2.upd _ Z _ = A17
    obtain ⟨s_A17, e_Z⟩ := U.upd_facts g_Z n_Z
    clear g_Z
    have s017 : Same H10 A17 := s_A1.trans (s_A2.trans (s_A3.trans (s_A4.trans (s_A5.trans (s_A6.trans (s_A7.trans (s_A8.trans (s_A9.trans (s_A10.trans (s_A11.trans (s_A12.trans (s_A13.trans (s_A14.trans (s_A15.trans (s_A16.trans s_A17)))))))))))))))
    have c16 := s_A16.trans s_A17
    have c15 := s_A15.trans c16
    have c14 := s_A14.trans c15
    have c13 := s_A13.trans c14
    have c12 := s_A12.trans c13
    have c11 := s_A11.trans c12
    have c10 := s_A10.trans c11
    have c9 := s_A9.trans c10
    have c8 := s_A8.trans c9
    have c7 := s_A7.trans c8
    have c6 := s_A6.trans c7
    have pool17 := pool10.same s017
    have np : ∀ {b : Addr} {u : HO}, A17 b = some u → (∀ ys, u ≠ .lst ys) → b ≠ p := fun {b u} e hu' z => by
      obtain ⟨ys, e2⟩ := pool17.lst
      rw [z, e2] at e
      cases e
      exact hu' _ rfl
    obtain ⟨px, epx⟩ := pool10.lst
    have hH10p : ∀ b, H10 b = none → b ≠ p := fun b hb z => by rw [z, epx] at hb; cases hb
    have free10 : ∀ {b : Addr} {A : Hp}, Same H10 A → A b = none → H10 b = none := fun s e => s.free e
    refine draw_R rfl (fun R r => r) pool17 (by omega) (by omega) fun r2 H18 r20 r21 pool18 off18 => ?_
    have b1_ := s_A1
    have b2_ := b1_.trans s_A2
    have b3_ := b2_.trans s_A3
    have b4_ := b3_.trans s_A4
    have b5_ := b4_.trans s_A5
    have b6_ := b5_.trans s_A6
    have b7_ := b6_.trans s_A7
    have b8_ := b7_.trans s_A8
    have b9_ := b8_.trans s_A9
    have b10_ := b9_.trans s_A10
    have b11_ := b10_.trans s_A11
    have b12_ := b11_.trans s_A12
    have b13_ := b12_.trans s_A13
    have b14_ := b13_.trans s_A14
    have b15_ := b14_.trans s_A15
    have b16_ := b15_.trans s_A16
    have k_f1 := off18 _ _ (hH10p _ (b4_.free n_f1)) (c6 _ _ e_f1)
    have k_h1 := off18 _ _ (hH10p _ (b7_.free n_h1)) (c9 _ _ e_h1)
    have k_i1 := off18 _ _ (hH10p _ (b8_.free n_i1)) (c10 _ _ e_i1)
    have k_j1 := off18 _ _ (hH10p _ (b9_.free n_j1)) (c11 _ _ e_j1)
    have k_m1 := off18 _ _ (hH10p _ (b11_.free n_m1)) (c13 _ _ e_m1)
    have k_dd := off18 _ _ (hH10p _ (b13_.free n_dd)) (c15 _ _ e_dd)
    have k_n2 := off18 _ _ (hH10p _ (b14_.free n_n2)) (c16 _ _ e_n2)
    have k_Z := off18 _ _ (hH10p _ (b16_.free n_Z)) e_Z
    have o1018 : Off p H10 H18 := (offS s017).tr off18
    have hp18 : StpsAt H18 ts ss := hp10.off ⟨px, epx⟩ o1018
    obtain ⟨v2, hv2⟩ := atI_ix (xs := [V.ref f1, .ref h1, .ref i1, .ref j1, .non, .ref m1] ++ [V.ref dd, .int 5, .ref n2]) r20 (by simp only [List.length_append, List.length_cons, List.length_nil]; omega)
    refine ⟨Z, _, r2, v2, rfl, rfl, SqL.of k_Z, ?_, ?_⟩
    · rw [show r2 = ((r2.toNat : Nat) : Int) by omega]
      exact atI_nat hv2
    have odd18 := odd H18 o1018
    have free0 : ∀ {b : Addr}, H10 b = none → H b = none := fun {b} e => by
      cases z : H b with
      | none => rfl
      | some u =>
        have := o010 b u (hH10p b e) z
        rw [e] at this
        cases this
    have th : (∀ b, v2 = .ref b → H b = none) ∧ ∃ r, ThV T.C_Map n H18 v2 r := by
      have hm := List.mem_of_getElem? hv2
      simp only [List.mem_append, List.mem_cons, List.not_mem_nil, or_false] at hm
      rcases hm with (rfl | rfl | rfl | rfl | rfl | rfl) | (rfl | rfl | rfl)
      · refine ⟨fun b e => (by cases e; exact free0 (b4_.free n_f1)), ?_⟩
        exact th_ins k_f1 hp18 hok hls hk odd18
      · refine ⟨fun b e => (by cases e; exact free0 (b7_.free n_h1)), ?_⟩
        refine ⟨_, th_some (ts := ts.take k ++ ts.drop (k + 1)) (ss := ss.take k ++ ss.drop (k + 1)) ?_ (stps_app (paired_take k hp18) (paired_drop (k + 1) hp18)) (fun x hx => ?_) ?_⟩
        · rw [k_h1, List.map_append, List.map_take, List.map_drop]
        · rcases List.mem_append.mp hx with hx | hx
          · exact hok x (List.mem_of_mem_take hx)
          · exact hok x (List.mem_of_mem_drop hx)
        · rw [List.length_append, List.length_take, List.length_drop]
          omega
      · refine ⟨fun b e => (by cases e; exact free0 (b8_.free n_i1)), ?_⟩
        refine ⟨_, th_some (ts := ts.reverse) (ss := ss.reverse) ?_ (paired_rev hp18) (fun x hx => hok x (List.mem_reverse.mp hx)) (by rw [List.length_reverse]; omega)⟩
        rw [k_i1, List.map_reverse]
      · refine ⟨fun b e => (by cases e; exact free0 (b9_.free n_j1)), ?_⟩
        refine ⟨none, .inr (.inl ⟨_, k_j1⟩), .inl ?_⟩
        rintro ⟨xs, e⟩
        rw [k_j1] at e
        cases e
      · refine ⟨fun b e => (nomatch e), ?_⟩
        exact ⟨none, trivial, .inl id⟩
      · refine ⟨fun b e => (by cases e; exact free0 (b11_.free n_m1)), ?_⟩
        refine ⟨_, th_some (ts := ts ++ ts.reverse) (ss := ss ++ ss.reverse) ?_ (stps_app hp18 (paired_rev hp18)) (fun x hx => ?_) (by rw [List.length_append, List.length_reverse]; omega)⟩
        · rw [k_m1, List.map_append, List.map_reverse]
        · rcases List.mem_append.mp hx with hx | hx
          · exact hok x hx
          · exact hok x (List.mem_reverse.mp hx)
      · refine ⟨fun b e => (by cases e; exact free0 (b13_.free n_dd)), ?_⟩
        refine ⟨none, .inr (.inr (.inl ⟨_, k_dd⟩)), .inl ?_⟩
        rintro ⟨xs, e⟩
        rw [k_dd] at e
        cases e
      · refine ⟨fun b e => (nomatch e), ?_⟩
        exact ⟨none, trivial, .inl id⟩
      · refine ⟨fun b e => (by cases e; exact free0 (b14_.free n_n2)), ?_⟩
        exact ⟨none, .inl ⟨_, k_n2⟩, .inr ⟨n2, [.non], .non, 0, rfl, k_n2, fun i z hi => absurd hi (Nat.not_lt_zero _), rfl, trivial, .inl ⟨id, rfl⟩⟩⟩
    obtain ⟨hnew, r, hr'⟩ := th
    exact q v2 r H18 pool18 (o010.tr o1018) hnew hr'
end
end My
set_option maxHeartbeats 1000000
namespace My
open PySem L2 U StX PM
/-- [a value for x in a list], by the place -/
theorem lc_lstI {K : PySem.W.Frag} {te : TE} {i : Nat} {tv : TE} {vs : List Nat} {σ : L2.St} {H : Hp} {Q : VK} {xs : List V} {a : Addr} (vf : Nat → V) (hte : ∀ R : VK, R (.ref a) H → te σ H R) (ha : H a = some (.lst xs)) (hw : ∀ a, wipe ((wipe σ vs).set i a) vs = wipe σ vs)
    (hb : ∀ (k : Nat) (x : V), xs[k]? = some x → ∀ H1, Same H H1 → ∀ R : VK, (∀ H2, Same H1 H2 → R (vf k) H2) → tv ((wipe σ vs).set i (some x)) H1 R) (hz : xs.length < sizeLine)
    (hq : ∀ D H', H D = none → H' D = some (.lst ((List.range xs.length).map vf)) → Same H H' → Q (.ref D) H') : tLc (iList K te) (gName i) tYes tv vs σ H Q := by
  refine hte _ ⟨a, rfl, ⟨_, SqL.of ha⟩, fun D hD => ?_⟩
  refine lc_it (walk_list (xs := xs)) (fun k H' => Same H H' ∧ H' D = some (.lst ((List.range k).map vf))) ⟨Same.new hD, upd_same⟩ (fun k H' _ p => SqL.of (p.1 _ _ ha)) ?_ ?_
  · rintro k v H' H'' hk ⟨s1, e1⟩ ⟨rfl, ev⟩
    refine ⟨hw _, yes_ ?_⟩
    refine hb k v ev _ s1 _ fun H2 s2 => ⟨_, s2 _ _ e1, ?_, Same.put (s1.trans s2) hD, ?_⟩
    · rw [List.length_map, List.length_range]
      omega
    · rw [upd_same, List.range_succ, List.map_append]
      rfl
  · rintro H' ⟨s1, e1⟩
    exact hq D H' hD e1 s1
theorem app1_R {C CM CS : Addr} {i j : Nat} {σ : L2.St} {H : Hp} {Q : VK} {a t : Addr} {n : Int} {f : PF} {s : Stp} (hi : σ[i]? = some (some (.ref a))) (hj : σ[j]? = some (some (.ref t))) (ha : IsMap C H a n f) (ht : H t = some (.tup (Stp.vs s))) (ok : s.ok n)
    (q : ∀ x H', Same H H' → IsMap C H' x n (stp1 f s) → Q (.ref x) H') : tCallR (fun vs H Q _ => spApp C CM CS vs H Q E0) E0 (tCons (tVar i) (tCons (tLst (tCons (tVar j) tNil)) tNil)) σ H Q := by
  refine ⟨_, hi, _, hj, one_le, fun L nL => ?_⟩
  have sL : Same H (upd H L (.lst [.ref t])) := Same.new nL
  have eL : (upd H L (.lst [.ref t])) L = some (.lst [.ref t]) := upd_same
  generalize upd H L (.lst [.ref t]) = H2 at sL eL
  dsimp only [tNil]
  refine app_of (r := some [s]) (ha.same sL) ⟨L, [t], rfl, eL, .cons (sL _ _ ht) .nil, fun x hx => by rw [List.mem_singleton.mp hx]; exact ok, (show 1 ≤ 100 by decide)⟩ ?_
  intro x H' _ s2 hm
  exact q x H' (sL.trans s2) hm
def spNear (C : Addr) : Sp := fun vs H Q _ => ∃ (p a b : Addr) (n : Int) (f g : PF), vs = [.ref p, .ref a, .ref b, .int (distI n f g)] ∧ PoolAt H p ∧ IsMap C H a n f ∧ IsMap C H b n g ∧ n ≤ 30 ∧ srcB n f g = true ∧
  ∀ H', PoolAt H' p → Off p H H' → Q (.bl true) H'
section
variable {P : Program} {w : World} {K : PySem.W.Frag} {mg : Str → Option Value} {base : Heap}
set_option pp.maxSteps 3000 in
theorem ok_l_nearer (T : Txt K mg) : FnR P w K mg base CX0 14 T.f_l_nearer (spNear T.C_Map) := by
  refine T.A_l_nearer.ok sc_l_nearer (fun vs H Q E h => ?_) (fun cdv A outer s H vs Q E hr h => ?_)
  · obtain ⟨p, a, b, n, f, g, rfl, _⟩ := h
    rfl
  · obtain ⟨p, a, b, n, f, g, rfl, pool, ha, hb, h30, hs, q⟩ := h
    have hu := hu_of hr
    refine ⟨_, (pss_cons (ps_set (i := 4) sc_l_nearer.nd rfl (Or.inl rfl) (pe_callR (fnR_calm (ok_next_steps T)) (hr.mono (by decide)) T.A_next_steps.kp rfl T.g_next_steps pass0 (pa_cons (pv 1) (pa_cons (pv 2) pa_nil))))
      (pss_cons (ps_for PassesOwn.never rfl (pi_range1 rfl T.n_range (pa_cons pe_int pa_nil)) (pg_name (i := 5) sc_l_nearer.nd rfl (Or.inl rfl))
        (pss_one (ps_if (pt_cmpR (L2.op_neD hr.units) (pv 4) (pe_lst pa_nil) (nomark _))
        (pss_cons (ps_set (i := 6) sc_l_nearer.nd rfl (Or.inl rfl) (pe_ix ix_list (pv 4) (pe_callR (ok_draw T) (hr.mono (by decide)) T.A_l_draw.kp rfl T.g_l_draw pass0 (pa_cons (pv 0) (pa_cons (pe_callB call_len_seq (by rfl) T.n_len (by decide +kernel) (pa_cons (pv 4) pa_nil)) pa_nil))) (fun _ _ => rfl)))
      (pss_one (ps_if (pt_cmpR op_ne (pe_callR (fnR_calm (ok_distance T)) (hr.mono (by decide)) T.A_distance.kp rfl T.g_distance pass0 (pa_cons (pe_callR (fnR_calm (ok_applied T)) (hr.mono (by decide)) T.A_applied.kp rfl T.g_applied pass0 (pa_cons (pv 1) (pa_cons (pe_lst (pa_cons (pv 6) pa_nil)) pa_nil))) (pa_cons (pv 2) pa_nil))) (pe_op op_sub (pv 3) pe_int) (nomark _))
        (pss_one (ps_ret pe_bl)) pss_nil))) pss_nil)))
      (pss_cons (ps_if (PW.pt (pw_and (pt_cmpR op_lt (pe_callB call_len_seq (by rfl) T.n_len (by decide +kernel) (pa_cons (pv 4) pa_nil)) pe_int (nomark _)) (pw_and1 (pt_cmpR op_gt (pv 3) pe_int (nomark _)))))
        (pss_cons (ps_setLc (i := 7) (own := [("_law_step", 6)]) (g := (gName 6)) (tt := tYes) rfl sc_l_nearer.nd rfl rfl (sw_true rfl rfl rfl (by decide +kernel)) (pi_list (pv 4)) (blkOk_by (own := [("_law_step", 6)]) (N := n_l_nearer) (sc := defScope s_l_nearer) (by decide +kernel)) (fun _ _ _ _ _ => (pg_name (i := 6) sc_l_nearer.nd rfl (Or.inl rfl))) (fun _ _ _ _ _ => pts_nil) (fun _ _ _ _ _ => (pe_callR (fnR_calm (ok_count_shortest T)) (hr.mono (by decide)) T.A_count_shortest.kp rfl T.g_count_shortest pass0 (pa_cons (pe_callR (fnR_calm (ok_applied T)) (hr.mono (by decide)) T.A_applied.kp rfl T.g_applied pass0 (pa_cons (pv 1) (pa_cons (pe_lst (pa_cons (pv 6) pa_nil)) pa_nil))) (pa_cons (pv 2) pa_nil)))))
      (pss_one (ps_if (pt_cmpR op_ne (pe_callR (fnR_calm (ok_count_shortest T)) (hr.mono (by decide)) T.A_count_shortest.kp rfl T.g_count_shortest pass0 (pa_cons (pv 1) (pa_cons (pv 2) pa_nil))) (pe_callB (cr_sum rfl) (by rfl) T.n_sum (by decide +kernel) (pa_cons (pv 7) pa_nil)) (nomark _))
        (pss_one (ps_ret pe_bl)) pss_nil))) pss_nil)
      (pss_one (ps_ret (pe_cmpR op_eq (pe_cmpR (L2.op_eqD hr.units) (pv 4) (pe_lst pa_nil) (nomark _)) (pe_cmpR op_eq (pv 3) pe_int (nomark _)) (nomark _))))))), ?_⟩
    have lo := ha.lo
    have wf := ha.wf
    have wg := hb.wf
    have hsr := (srcB_iff wg).mp hs
    have ed := dist_nat wf wg hsr (by omega)
    refine ⟨_, rfl, _, rfl, _, _, rfl, .inr ⟨a, b, n, f, g, rfl, rfl, ha, hb, h30, .inr ⟨hs, fun l ts H1 s1 nl el hp => ?_⟩⟩⟩
    have hlen := paired_len hp
    have hml : (menuL n f g).length ≤ 1000 := by
      have h2 := menuS_len (n := n) (f := f) (g := g) (rgI n.toNat) fun x hx => (mem_rgI.mp hx).1
      have h3 : (rgI n.toNat).length = n.toNat := by simp [rgI]
      rw [h3] at h2
      have h4 : n.toNat * n.toNat ≤ 30 * 30 := Nat.mul_le_mul (by omega) (by omega)
      have h5 := fg_le (n := n) (f := f) (g := g)
      unfold menuL
      rw [List.length_append]
      omega
    have pool1 := pool.same s1
    have nlp : l ≠ p := (pool.ne nl).symm
    have ha1 := ha.same s1
    have hb1 := hb.same s1
    dsimp only [gName, tSeq]
    refine ⟨4, rfl, by decide, by decide, ?_⟩
    refine for_it (walk_range (lo := 0) (n := 4)) (fun i σ H' => ∃ v5 v6, σ = [some (.ref p), some (.ref a), some (.ref b), some (.int (distI n f g)), some (.ref l), v5, v6, none] ∧ PoolAt H' p ∧ Off p H1 H')
      ⟨_, _, rfl, pool1, fun _ _ _ h => h⟩ (fun _ _ _ _ _ => trivial) ?_ ?_
    · rintro i v σ Ha0 Ha hi ⟨v5, v6, rfl, poolA, offA⟩ ⟨rfl, rfl⟩
      have elA := offA _ _ nlp el
      have hpA : StpsAt Ha ts (menuL n f g) := hp.off pool1.lst offA
      have haA := ha1.off offA pool1.lst
      have hbA := hb1.off offA pool1.lst
      refine ifs_of (test_of (op_of ?_))
      refine ⟨_, rfl, (show 0 ≤ sizeLine by decide), fun e ne => ?_⟩
      have se : Same Ha (upd Ha e (.lst [])) := Same.new ne
      refine ⟨.list _, .list [], .lst (SqL.of (se _ _ elA)) (dp_stps (hpA.same se)), .lst (SqL.of upd_same) .nil, shaped_stps _, by decide +kernel, _, rfl, ?_⟩
      generalize upd Ha e (.lst []) = Hb at se
      have poolB := poolA.same se
      have offB : Off p H1 Hb := offA.tr (offS se)
      rw [eqv_nilS]
      by_cases hm : menuL n f g = []
      · rw [decide_eq_true hm]
        exact iteF' rfl ⟨_, _, rfl, poolB, offB⟩
      · rw [decide_eq_false hm]
        refine iteT ?_
        have hpos : 0 < (menuL n f g).length := List.length_pos_iff.mpr hm
        refine nx_seq (asg_of (op_of ?_))
        refine ⟨_, rfl, ?_⟩
        refine draw_R rfl (fun R r => ⟨_, rfl, l, _, rfl, .inl (SqL.of (se _ _ elA)), r⟩) poolB (by rw [List.length_map]; omega) (by rw [List.length_map]; omega) fun r Hc r0 r1 poolC offC => ?_
        rw [List.length_map] at r1
        have off1C := offB.tr offC
        have elC := off1C _ _ nlp el
        have hpC : StpsAt Hc ts (menuL n f g) := hp.off pool1.lst off1C
        have haC := ha1.off off1C pool1.lst
        have hbC := hb1.off off1C pool1.lst
        obtain ⟨t, et⟩ : ∃ t, ts[r.toNat]? = some t := ⟨_, List.getElem?_eq_getElem (by omega)⟩
        obtain ⟨st, est, ht⟩ := paired_at hpC et
        have hst := List.mem_of_getElem? est
        refine ⟨l, _, r, .ref t, rfl, rfl, SqL.of elC, ?_, ?_⟩
        · rw [show r = ((r.toNat : Nat) : Int) by omega]
          exact atI_nat (by rw [List.getElem?_map, et]; rfl)
        refine nx_of (ifs_of (test_of (op_of ?_)))
        have hok := menu_ok wf wg hst
        have wf' := wf_stp1 wf hok
        refine app1_R rfl rfl haC ht hok fun x Hd sd hx => ?_
        have hbD := hbC.same sd
        have hs' : srcB n (stp1 f st) g = true := (srcB_iff wg).mpr (menu_src wf wg hsr hst)
        refine ⟨_, rfl, _, _, rfl, .inr ⟨x, b, n, _, g, rfl, rfl, hx, hbD, .inr ⟨hs', fun He s_e => ?_⟩⟩⟩
        refine ⟨_, rfl, _, _, rfl, rfl, rfl, _, rfl, ?_⟩
        have hnear := menu_near wf wg hst
        have ed' := dist_nat wf' wg ((srcB_iff wg).mp hs') (by omega)
        have eq1 : V.int (distI n (stp1 f st) g) = (fun i j => V.int (i - j)) (distI n f g) 1 := by
          show _ = V.int (_ - 1)
          rw [ed, ed']
          congr 1
          omega
        rw [decide_eq_true eq1]
        refine iteF' rfl ⟨_, _, rfl, (poolC.same sd).same s_e, (off1C.tr (offS sd)).tr (offS s_e)⟩
    · rintro σ Ha ⟨v5, v6, rfl, poolA, offA⟩
      have elA := offA _ _ nlp el
      have hpA : StpsAt Ha ts (menuL n f g) := hp.off pool1.lst offA
      have haA := ha1.off offA pool1.lst
      have hbA := hb1.off offA pool1.lst
      have fin : ∀ Hz v5 v6 v7, PoolAt Hz p → Off p H1 Hz → tRet (tOp rEq (tOp (L2.rEqD K) (tVar 4) (tLst tNil)) (tOp rEq (tVar 3) (tC (V.int 0)))) { nx := fun x H' => Q V.non H', rt := Q } [some (.ref p), some (.ref a), some (.ref b), some (.int (distI n f g)), some (.ref l), v5, v6, v7] Hz := fun Hz v5 v6 v7 poolZ offZ => by
        have elZ := offZ _ _ nlp el
        have hpZ : StpsAt Hz ts (menuL n f g) := hp.off pool1.lst offZ
        refine ⟨_, rfl, (show 0 ≤ sizeLine by decide), fun e ne => ?_⟩
        have se : Same Hz (upd Hz e (.lst [])) := Same.new ne
        refine ⟨.list _, .list [], .lst (SqL.of (se _ _ elZ)) (dp_stps (hpZ.same se)), .lst (SqL.of upd_same) .nil, shaped_stps _, by decide +kernel, _, rfl, rfl, rfl, ?_⟩
        have hq := q _ ((poolZ.same se)) (((offS s1).tr offZ).tr (offS se))
        have ev : decide (V.bl (PyData.eqv (.list ((menuL n f g).map dStp)) (.list [])) = V.bl (decide (V.int (distI n f g) = V.int 0))) = true := by
          refine decide_eq_true (congrArg V.bl ?_)
          rw [eqv_nilS, Bool.eq_iff_iff, decide_eq_true_iff, decide_eq_true_iff, menu_nil wf wg, ed]
          constructor
          · intro h; rw [h]; rfl
          · intro h
            have := V.int.inj h
            omega
        rw [ev]
        exact hq
      refine nx_of (nx_seq (ifs_of ?_))
      refine ⟨_, rfl, l, _, rfl, .inl (SqL.of elA), _, _, rfl, rfl, _, rfl, ?_⟩
      by_cases hl40 : ((((ts.map V.ref).length : Nat) : Int) < 40)
      rotate_left
      · rw [decide_eq_false hl40]
        exact iteF' rfl (iteF' rfl (fin Ha _ _ _ poolA offA))
      rw [decide_eq_true hl40]
      refine iteT ?_
      refine ⟨_, rfl, _, _, rfl, rfl, _, rfl, ?_⟩
      by_cases hf0 : (0 : Int) < distI n f g
      rotate_left
      · rw [decide_eq_false hf0]
        exact iteF' rfl (fin Ha _ _ _ poolA offA)
      rw [decide_eq_true hf0]
      refine iteT ?_
      have hd0 : 0 < dN n f g := by omega
      refine nx_seq (asg_of ?_)
      refine lc_lstI (xs := ts.map V.ref) (fun k => .int ((((menuL n f g).map fun s => cntV (dN n (stp1 f s) g) (lensL n (lnk n (stp1 f s) g)))[k]?).getD 0 : Nat)) (fun R r => ⟨_, rfl, r⟩) elA (fun _ => rfl) (fun k x ex Hb sb R r => ?_) (small1000 (by rw [List.length_map]; omega)) (fun D Hb nD hD sb => ?_)
      · rw [List.getElem?_map] at ex
        obtain ⟨t, et, rfl⟩ := Option.map_eq_some_iff.mp ex
        obtain ⟨st, est, ht⟩ := paired_at hpA et
        have hst := List.mem_of_getElem? est
        have hok := menu_ok wf wg hst
        refine app1_R rfl rfl (haA.same sb) (sb _ _ ht) hok fun x Hd sd hx => ?_
        have hs' : srcB n (stp1 f st) g = true := (srcB_iff wg).mpr (menu_src wf wg hsr hst)
        refine ⟨_, rfl, _, _, rfl, .inr ⟨x, b, n, _, g, rfl, rfl, hx, (hbA.same sb).same sd, h30, .inr ⟨hs', fun He s_e => ?_⟩⟩⟩
        have hr2 := r He (sd.trans s_e)
        rw [List.getElem?_map, est] at hr2
        exact hr2
      · refine nx_of (ifs_of (test_of (op_of ?_)))
        refine ⟨_, rfl, _, rfl, _, _, rfl, .inr ⟨a, b, n, f, g, rfl, rfl, haA.same sb, hbA.same sb, h30, .inr ⟨hs, fun He s_e => ?_⟩⟩⟩
        have hDe := s_e _ _ hD
        have eD : (List.range (ts.map V.ref).length).map (fun k => V.int ((((menuL n f g).map fun s => cntV (dN n (stp1 f s) g) (lensL n (lnk n (stp1 f s) g)))[k]?).getD 0 : Nat)) = (((menuL n f g).map fun s => cntV (dN n (stp1 f s) g) (lensL n (lnk n (stp1 f s) g))).map fun x : Nat => (x : Int)).map V.int := by
          refine List.ext_getElem? fun k => ?_
          rw [List.getElem?_map, List.getElem?_map, List.getElem?_map]
          by_cases hk : k < (menuL n f g).length
          · rw [List.getElem?_range (by rw [List.length_map, hlen]; exact hk), List.getElem?_eq_getElem (by rw [List.length_map]; exact hk)]
            show some (V.int _) = some (V.int _)
            rw [List.getElem?_eq_getElem (by rw [List.length_map]; exact hk)]
            rfl
          · rw [List.getElem?_eq_none (by rw [List.length_range, List.length_map]; omega), List.getElem?_eq_none (by rw [List.length_map]; omega)]
            rfl
        rw [eD] at hDe
        refine ⟨_, rfl, D, _, rfl, SqL.of hDe, rfl, _, rfl, ?_⟩
        have es : V.int ((cntV (dN n f g) (lensL n (lnk n f g)) : Nat) : Int) = V.int ((((menuL n f g).map fun s => cntV (dN n (stp1 f s) g) (lensL n (lnk n (stp1 f s) g))).map fun x : Nat => (x : Int)).sum) := by
          congr 1
          rw [← near_sum wf wg h30 (by omega) hd0]
          have : ∀ l : List Nat, ((l.sum : Nat) : Int) = (l.map fun x : Nat => (x : Int)).sum := fun l => by
            induction l with
            | nil => rfl
            | cons x r ih => rw [List.sum_cons, List.map_cons, List.sum_cons, Int.natCast_add, ih]
          exact this _
        rw [decide_eq_true es]
        exact iteF' rfl (fin He _ _ _ ((poolA.same sb).same s_e) (offA.tr (offS (sb.trans s_e))))
end
end My
set_option maxHeartbeats 1000000
namespace My
open PySem L2 U StX PM
theorem units65 {k : Nat} {A : Around} (r : Room k A) : A.units + 65 < cLine := by have := r.un; omega
theorem ne_Z {Z : Addr → Prop} {a b : Addr} (hb : Z b) (ha : ¬ Z a) : b ≠ a := fun e => ha (e ▸ hb)
theorem lc_items1 {d : Addr} {l : List (Int × Int)} {te : TE} {i : Nat} {tt : TT} {tv : TE} {vs : List Nat} {σ : L2.St} {H : Hp} {Q : VK} (Z : Addr → Prop) (I : Hp → Prop) (ok : Int → Int → Bool → Prop)
    (hd : H d = some (.dK (kvI l))) (hZd : ¬ Z d) (hI0 : I H) (hIz : ∀ H1 H2, I H1 → (∀ b, Z b → H2 b = H1 b) → I H2) (hIn : ∀ H1, I H1 → ∀ b, Z b → H1 b ≠ none)
    (hte : ∀ od (R : VK), R (.ref d) (upd H d (.frz od (.dK (kvI l)))) → te σ (upd H d (.frz od (.dK (kvI l)))) R) (hw : ∀ a, wipe ((wipe σ vs).set i a) vs = wipe σ vs)
    (hb : ∀ x y, (x, y) ∈ l → ∀ H1 T, (∀ c o, c ≠ d → ¬ Z c → H c = some o → H1 c = some o) → Rd H1 d (.dK (kvI l)) → I H1 → H1 T = some (.tup [.int x, .int y]) →
      ∀ R : Bool → Hp → Prop, (∀ b H2, ok x y b → I H2 → (∀ c o, ¬ Z c → H1 c = some o → H2 c = some o) → R b H2) → tt ((wipe σ vs).set i (some (.ref T))) H1 R)
    (hv : ∀ H1 T (R : VK), R (.ref T) H1 → tv ((wipe σ vs).set i (some (.ref T))) H1 R) (hz : l.length < sizeLine)
    (hq : ∀ (D : Addr) (ps : List Addr) (m : List (Int × Int)) (H' : Hp), H D = none → H' D = some (.lst (ps.map V.ref)) → Paired (fun p (kv : Key × V) => H' p = some (.tup [kV kv.1, kv.2])) ps (kvI m) → m.Sublist l →
      (∀ c : Int → Int → Bool, (∀ x y b, ok x y b → b = c x y) → m = l.filter fun p => c p.1 p.2) → I H' → (∀ c o, ¬ Z c → H c = some o → H' c = some o) → Q (.ref D) H') :
    tLockE (tLc (iItems te) (gName i) tt tv vs) σ H Q := by
  refine ⟨d, _, hd, trivial, fun od => ?_⟩
  refine hte _ _ ⟨d, od, kvI l, rfl, upd_same, fun D hD => ?_⟩
  have hDd : D ≠ d := fun e => by rw [e, upd_same] at hD; cases hD
  have hD0 : H D = none := by rw [upd_ne hDd] at hD; exact hD
  have hZD : ¬ Z D := fun z => hIn H hI0 D z hD0
  refine lc_it walk_items (fun k H' => H' d = some (.frz od (.dK (kvI l))) ∧ (∀ c o, c ≠ d → ¬ Z c → H c = some o → H' c = some o) ∧ I H' ∧ ∃ (m : List (Int × Int)) (ps : List Addr), H' D = some (.lst (ps.map V.ref)) ∧ ps.length ≤ k ∧ (∀ p ∈ ps, p ≠ D ∧ p ≠ d ∧ ¬ Z p) ∧
      Paired (fun p (kv : Key × V) => H' p = some (.tup [kV kv.1, kv.2])) ps (kvI m) ∧ m.Sublist (l.take k) ∧ (∀ c : Int → Int → Bool, (∀ x y b, ok x y b → b = c x y) → m = (l.take k).filter fun p => c p.1 p.2))
    ⟨?_, fun c o hc hz ec => ?_, ?_, [], [], upd_same, Nat.le_refl _, (fun p h => nomatch h), .nil, List.Sublist.refl _, fun c _ => rfl⟩ (fun k H' _ p => p.1) ?_ ?_
  · rw [upd_ne hDd.symm]; exact upd_same
  · rw [upd_ne (ne_of_none ec hD0), upd_ne hc]; exact ec
  · refine hIz H _ hI0 fun b zb => ?_
    rw [upd_ne (ne_Z zb hZD), upd_ne (ne_Z zb hZd)]
  · rintro k v H' H'' hk ⟨p1, p2, p3, m, ps, e1, hl, hne, hp, hs, hdet⟩ ⟨U, a, b, rfl, hU, rfl, e2, e3⟩
    rw [kvI_length] at hk
    obtain ⟨⟨x, y⟩, exy⟩ : ∃ p, l[k]? = some p := ⟨_, List.getElem?_eq_getElem hk⟩
    have ek : (kvI l)[k]? = some (Sum.inl x, V.int y) := by unfold kvI; rw [List.getElem?_map, exy]; rfl
    dsimp only at e2 e3
    rw [ek] at e2 e3
    cases e2; cases e3
    have hZU : ¬ Z U := fun z => hIn H' p3 U z hU
    have s1 : Same H' (upd H' U (.tup [.int x, .int y])) := Same.new hU
    have i1 : I (upd H' U (.tup [.int x, .int y])) := hIz H' _ p3 fun b zb => by rw [upd_ne (ne_Z zb hZU)]
    have eU : (upd H' U (.tup [.int x, .int y])) U = some (.tup [.int x, .int y]) := upd_same
    have nUD : U ≠ D := (ne_of_none e1 hU).symm
    have nUd : U ≠ d := (ne_of_none p1 hU).symm
    refine ⟨hw _, ?_⟩
    refine hb x y (List.mem_of_getElem? exy) _ U (fun c o hc hz ec => s1 _ _ (p2 c o hc hz ec)) (.inr ⟨od, s1 _ _ p1⟩) i1 eU _ fun b H2 hok i2 s2 => ?_
    have d2 := s2 _ _ hZd (s1 _ _ p1)
    have D2 := s2 _ _ hZD (s1 _ _ e1)
    have U2 := s2 _ _ hZU eU
    have off2 : ∀ c o, c ≠ d → ¬ Z c → H c = some o → H2 c = some o := fun c o hc hz ec => s2 _ _ hz (s1 _ _ (p2 c o hc hz ec))
    have hp2 : Paired (fun p (kv : Key × V) => H2 p = some (.tup [kV kv.1, kv.2])) ps (kvI m) := hp.map fun q hq kv e => s2 _ _ (hne q hq).2.2 (s1 _ _ e)
    have det2 : ∀ c : Int → Int → Bool, (∀ x y b, ok x y b → b = c x y) → (m ++ (if b = true then [(x, y)] else [])) = (l.take (k + 1)).filter fun p => c p.1 p.2 := fun c hc => by
      rw [take_more exy, List.filter_append, ← hdet c hc]
      have := hc x y b hok
      congr 1
      by_cases h : c x y = true
      · simp [this, h]
      · have h' : c x y = false := by simpa using h
        simp [this, h']
    cases b with
    | true =>
      refine iteT (hv _ _ _ ⟨_, D2, by rw [List.length_map]; omega, ?_, ?_, ?_, m ++ [(x, y)], ps ++ [U], ?_, ?_, ?_, ?_, ?_, fun c hc => by have := det2 c hc; rw [if_pos rfl] at this; exact this⟩)
      · rw [upd_ne hDd.symm]; exact d2
      · intro c o hc hz ec
        rw [upd_ne (ne_of_none ec hD0)]; exact off2 c o hc hz ec
      · exact hIz H2 _ i2 fun b zb => by rw [upd_ne (ne_Z zb hZD)]
      · rw [upd_same, List.map_append]; rfl
      · rw [List.length_append, List.length_singleton]; omega
      · intro q hq'
        rcases List.mem_append.mp hq' with h | h
        · exact hne q h
        · rw [List.mem_singleton] at h; subst h; exact ⟨nUD, nUd, hZU⟩
      · rw [show kvI (m ++ [(x, y)]) = kvI m ++ [(Sum.inl x, V.int y)] from by unfold kvI; rw [List.map_append]; rfl]
        refine PySem.Paired.snoc (hp2.map fun q hq' kv e => ?_) ?_
        · rw [upd_ne (hne q hq').1]; exact e
        · rw [upd_ne nUD]; exact U2
      · rw [take_more exy]
        exact hs.append (List.Sublist.refl _)
    | false =>
      refine iteF ⟨d2, off2, i2, m, ps, D2, by omega, hne, hp2, ?_, fun c hc => by have := det2 c hc; rw [if_neg Bool.false_ne_true, List.append_nil] at this; exact this⟩
      rw [take_more exy]
      exact hs.trans (List.sublist_append_left _ _)
  · rintro H' ⟨p1, p2, p3, m, ps, e1, hl, hne, hp, hs, hdet⟩
    rw [kvI_length, List.take_length] at hs
    refine ⟨p1, hq D ps m _ hD0 ?_ (hp.map fun q hq' kv e => ?_) hs (fun c hc => ?_) ?_ ?_⟩
    · rw [upd_ne hDd]; exact e1
    · rw [upd_ne (hne q hq').2.1]; exact e
    · have := hdet c hc
      rw [kvI_length, List.take_length] at this
      exact this
    · exact hIz H' _ p3 fun b zb => by rw [upd_ne (ne_Z zb hZd)]
    · intro c o hz ec
      by_cases hcd : c = d
      · subst hcd
        rw [upd_same]
        rw [hd] at ec
        exact ec
      · rw [upd_ne hcd]; exact p2 c o hcd hz ec
def okRp (d : PyData) : Bool := d.showable && !d.hasDict && decide (d.depth ≤ 60) && decide (d.shown.length ≤ 1000)
theorem okRp_of {d : PyData} (h : okRp d = true) : d.showable = true ∧ d.hasDict = false ∧ d.depth ≤ 60 ∧ d.shown.length ≤ sizeLine := by
  unfold okRp at h
  simp only [Bool.and_eq_true, decide_eq_true_eq, Bool.not_eq_true'] at h
  exact ⟨h.1.1.1, h.1.1.2, h.1.2, Nat.le_trans h.2 (by decide)⟩
section
variable {C d : Addr} {n : Int} {H H' : Hp} {v : V}
theorem knownV.offL (h : knownV C H v) (hd : ∃ ys, H d = some (.lst ys)) (hd' : ∃ ys, H' d = some (.lst ys)) (o : Off d H H') : knownV C H' v := by
  cases v with
  | ref a =>
    obtain ⟨y0, hd⟩ := hd
    by_cases e : a = d
    · subst e
      exact .inl hd'
    · rcases h with ⟨xs, q⟩ | ⟨xs, q⟩ | ⟨xs, q⟩ | ⟨dx, fs, q⟩
      · exact .inl ⟨_, o _ _ e q⟩
      · exact .inr (.inl ⟨_, o _ _ e q⟩)
      · exact .inr (.inr (.inl ⟨_, o _ _ e q⟩))
      · exact .inr (.inr (.inr ⟨_, _, o _ _ e q⟩))
  | _ => exact h
theorem StB.offL {b : Bool} (h : StB C n H v b) (hd : ∃ ys, H d = some (.lst ys)) (hd' : ∃ ys, H' d = some (.lst ys)) (o : Off d H H') : StB C n H' v b := by
  obtain ⟨hk, h⟩ := h
  refine ⟨hk.offL hd hd' o, ?_⟩
  rcases h with ⟨hn, e⟩ | ⟨a, xs, rfl, ha, hz, hl, e⟩
  · refine .inl ⟨?_, e⟩
    cases v with
    | ref a =>
      obtain ⟨y1, hd'⟩ := hd'
      rintro ⟨zs, q⟩
      by_cases ea : a = d
      · rw [ea, hd'] at q; cases q
      · rcases hk with ⟨xs, w⟩ | ⟨xs, w⟩ | ⟨xs, w⟩ | ⟨dx, fs, w⟩
        · rw [o _ _ ea w] at q; cases q
        · exact hn ⟨xs, w⟩
        · rw [o _ _ ea w] at q; cases q
        · rw [o _ _ ea w] at q; cases q
    | _ => exact id
  · obtain ⟨y0, hd0⟩ := id hd
    exact .inr ⟨a, xs, rfl, o _ _ (fun z => by rw [z, hd0] at ha; cases ha) ha, fun z hz' => (hz z hz').offL hd hd' o, hl, e⟩
theorem ThV.offL {r : Option (List Stp)} (h : ThV C n H v r) (hd : ∃ ys, H d = some (.lst ys)) (hd' : ∃ ys, H' d = some (.lst ys)) (o : Off d H H') (hv : v ≠ .ref d) : ThV C n H' v r := by
  cases r with
  | none =>
    obtain ⟨hk, h⟩ := h
    refine ⟨hk.offL hd hd' o, ?_⟩
    rcases h with h | ⟨a, ys, z, k, rfl, ha, h1, h2, h3⟩
    · refine .inl ?_
      cases v with
      | ref a =>
        have ea : a ≠ d := fun z => hv (by rw [z])
        rintro ⟨zs, q⟩
        rcases hk with ⟨xs, w⟩ | ⟨xs, w⟩ | ⟨xs, w⟩ | ⟨dx, fs, w⟩
        · exact h ⟨xs, w⟩
        · rw [o _ _ ea w] at q; cases q
        · rw [o _ _ ea w] at q; cases q
        · rw [o _ _ ea w] at q; cases q
      | _ => exact id
    · have ea : a ≠ d := fun z => hv (by rw [z])
      exact .inr ⟨a, ys, z, k, rfl, o _ _ ea ha, fun i z hi hz => (h1 i z hi hz).offL hd hd' o, h2, h3.offL hd hd' o⟩
  | some ss =>
    obtain ⟨a, ts, rfl, ha, hp, hok, hl⟩ := h
    have ea : a ≠ d := fun z => hv (by rw [z])
    exact ⟨a, ts, rfl, o _ _ ea ha, hp.off hd o, hok, hl⟩
end
/-- [bent(..) for turn in range(..)] -/
theorem lc_bents {C p : Addr} {n : Int} {wi : TI} {i : Nat} {tv : TE} {vs : List Nat} {σ : L2.St} {H : Hp} {Q : VK} {N : Nat} (hwi : ∀ R : It → Hp → Prop, R (Itr 0 N) H → wi σ H R) (hw : ∀ a, wipe ((wipe σ vs).set i a) vs = wipe σ vs) (hN : N < sizeLine) (pool : PoolAt H p)
    (hb : ∀ (k : Nat) H1, PoolAt H1 p → Off p H H1 → ∀ R : VK, (∀ v r H2, PoolAt H2 p → Off p H1 H2 → (∀ b, v = .ref b → H1 b = none) → ThV C n H2 v r → R v H2) → tv ((wipe σ vs).set i (some (.int (0 + (k : Nat))))) H1 R)
    (hq : ∀ D xs H', PoolAt H' p → Off p H H' → H D = none → H' D = some (.lst xs) → xs.length = N → (∀ x ∈ xs, x ≠ .ref p ∧ ∃ r, ThV C n H' x r) → Q (.ref D) H') : tLc wi (gName i) tYes tv vs σ H Q := by
  refine hwi _ fun D hD => ?_
  have npD : p ≠ D := pool.ne hD
  refine lc_it walk_range (fun k H' => PoolAt H' p ∧ Off p H H' ∧ ∃ xs : List V, H' D = some (.lst xs) ∧ xs.length = k ∧ ∀ x ∈ xs, x ≠ .ref D ∧ x ≠ .ref p ∧ ∃ r, ThV C n H' x r) ⟨pool.same (Same.new hD), offS (Same.new hD), [], upd_same, rfl, fun x h => nomatch h⟩ (fun _ _ _ _ => trivial) ?_ ?_
  · rintro k v H' H'' hk ⟨p1, o1, xs, e1, hl, hx⟩ ⟨rfl, rfl⟩
    refine ⟨hw _, yes_ ?_⟩
    refine hb k _ p1 o1 _ fun y r H2 p2 o2 hy hth => ?_
    have eD2 := o2 _ _ npD.symm e1
    refine ⟨_, eD2, by omega, ?_⟩
    have offD : Off D H2 (upd H2 D (.lst (xs ++ [y]))) := Off.lock
    have hd1 : ∃ ys, H2 D = some (.lst ys) := ⟨_, eD2⟩
    have hd2 : ∃ ys, (upd H2 D (.lst (xs ++ [y]))) D = some (.lst ys) := ⟨_, upd_same⟩
    have ny1 : y ≠ .ref D := fun z => by rw [hy D z] at e1; cases e1
    have ny2 : y ≠ .ref p := fun z => by
      obtain ⟨px, ep⟩ := p1.lst
      rw [hy p z] at ep
      cases ep
    refine ⟨?_, fun b u nb e => ?_, xs ++ [y], upd_same, by rw [List.length_append, hl]; rfl, fun x hxm => ?_⟩
    · obtain ⟨a, b, e2, h3⟩ := p2
      exact ⟨a, b, by rw [upd_ne npD]; exact e2, h3⟩
    · rw [upd_ne (ne_of_none e hD)]
      exact o2 _ _ nb (o1 _ _ nb e)
    · rcases List.mem_append.mp hxm with hm | hm
      · obtain ⟨n1, n2, r', ht⟩ := hx x hm
        exact ⟨n1, n2, r', (ht.offL p1.lst p2.lst o2 n2).offL hd1 hd2 offD n1⟩
      · rw [List.mem_singleton] at hm
        subst hm
        exact ⟨ny1, ny2, r, hth.offL hd1 hd2 offD ny1⟩
  · rintro H' ⟨p1, o1, xs, e1, hl, hx⟩
    exact hq D xs H' p1 o1 hD e1 hl fun x hm => (hx x hm).2
/-- the part of a map whose sources another one has -/
def resF (f g : PF) : PF := fun x => if (f x).isSome = true then g x else none
theorem res_le (f g : PF) : PM.le (resF f g) g := fun x y e => by
  unfold resF at e
  by_cases h : (f x).isSome = true
  · rw [if_pos h] at e; exact e
  · rw [if_neg h] at e; cases e
theorem res_di {l : List (Int × Int)} {f g : PF} (d : DI l g) : DI (l.filter fun p => (f p.1).isSome) (resF f g) := by
  refine di_of (d.nd.sublist ((List.filter_sublist).map _)) fun x y => ?_
  rw [List.mem_filter]
  unfold resF
  constructor
  · rintro ⟨h1, h2⟩
    rw [if_pos h2]
    exact d.mem.mp h1
  · intro h
    by_cases h2 : (f x).isSome = true
    · rw [if_pos h2] at h
      exact ⟨d.mem.mpr h, h2⟩
    · rw [if_neg h2] at h; cases h
/-- what repr says of the distance -/
theorem int60 {k : Nat} (h : k ≤ 60) : okRp (PyData.int (k : Int)) = true := by
  have : ∀ k ∈ List.range 61, okRp (PyData.int ((k : Nat) : Int)) = true := by decide +kernel
  exact this k (List.mem_range.mpr (by omega))
theorem due_rp {K : PySem.W.Frag} {H : Hp} {n : Int} {f g : PF} (w : WF n f) (wg : WF n g) (h0 : 0 ≤ n) (h30 : n ≤ 30) : ∃ d, Dp K H (dueV n f g) d ∧ okRp d = true := by
  unfold dueV
  cases hs : srcB n f g with
  | false => exact ⟨.none, .non, by decide +kernel⟩
  | true =>
    have hsr := (srcB_iff wg).mp hs
    rw [if_pos rfl, dist_nat w wg hsr h0]
    refine ⟨_, .int _, int60 ?_⟩
    have h3 := fg_len w wg hsr
    have h4 := sm_parts (wf_lnk w wg)
    have h5 := lenF_le n f h0
    have h6 := lenF_le n g h0
    unfold dN
    omega
theorem dN_le {n : Int} {f g : PF} (w : WF n f) (wg : WF n g) (h0 : 0 ≤ n) (h30 : n ≤ 30) (hs : ∀ x y, g x = some y → ∃ z, f x = some z) : dN n f g ≤ 45 := by
  -- the rows are at least as many as the elements that are no source of the link
  have wl := wf_lnk w wg
  have h3 := fg_len w wg hs
  have h5 := lenF_le n f h0
  have h6 := lenF_le n g h0
  have hcount : sm (lensL n (lnk n f g)) ≤ (tab n (lnk n f g)).length := by
    have d := dec_parts wl
    have key : ∀ A : List (List Int), (∀ r ∈ A, ∀ (i : Nat) (a b : Int), r[i]? = some a → r[i + 1]? = some b → lnk n f g a = some b) → (∀ r ∈ A, r ≠ []) → sm (A.map (·.length)) ≤ (A.flatten.filter fun x => (lnk n f g x).isSome).length := fun A => by
      induction A with
      | nil => intro _ _; exact Nat.zero_le _
      | cons r A ih =>
        intro h hne
        have ih' := ih (fun r' hr => h r' (List.mem_cons_of_mem _ hr)) fun r' hr => hne r' (List.mem_cons_of_mem _ hr)
        rw [List.flatten_cons, List.filter_append, List.length_append]
        show (r.length - 1) + sm (A.map (·.length)) ≤ _
        have : r.length - 1 ≤ (r.filter fun x => (lnk n f g x).isSome).length := by
          have hr := h r (List.mem_cons_self ..)
          clear ih ih' h hne
          induction r with
          | nil => exact Nat.zero_le _
          | cons x t iht =>
            cases t with
            | nil => exact Nat.zero_le _
            | cons y t =>
              have h1 := hr 0 x y rfl rfl
              have iht' := iht fun i a b ha hb => hr (i + 1) a b ha hb
              rw [List.filter_cons, if_pos (by rw [h1]; rfl)]
              simp only [List.length_cons] at iht' ⊢
              omega
        omega
    have h1 := key (partsL n (lnk n f g)) d.adj d.ne
    refine Nat.le_trans h1 ?_
    have nd2 : ((partsL n (lnk n f g)).flatten.filter fun x => (lnk n f g x).isSome).Nodup := d.nd.sublist List.filter_sublist
    have := List.Nodup.length_le_of_subset nd2 (l₂ := (tab n (lnk n f g)).map (·.1)) fun x hx => by
      obtain ⟨_, h2⟩ := List.mem_filter.mp hx
      obtain ⟨y, hy⟩ := Option.isSome_iff_exists.mp h2
      exact List.mem_map.mpr ⟨(x, y), (mem_tab wl).mpr hy, rfl⟩
    rw [List.length_map] at this
    exact this
  have hlk : (tab n (lnk n f g)).length ≤ (tab n g).length := by
    obtain ⟨nk, dk⟩ := lnk_di w wg (di_tab wg) hs
    have := di_len dk (di_tab wl)
    rw [List.length_map] at this
    omega
  unfold dN
  unfold lenF at h3 h5 h6
  omega
end My
namespace My
open PySem L2 U StX PM
theorem iteT' {b : Bool} {A B : Prop} (h : b = true) (x : A) : if b = true then A else B := by rw [h, if_pos rfl]; exact x
section
variable {P : Program} {w : World} {K : PySem.W.Frag} {mg : Str → Option Value} {base : Heap}
set_option pp.maxSteps 3000 in
theorem ok_law (T : Txt K mg) : FnG P w K mg base CX0 40 T.f_law (spLaw K) := by
  refine T.A_law.okG sc_law (fun vs H Q E h => ?_) (fun cdv A outer s H vs Q E gd hr h => ?_)
  · obtain ⟨a, ns, rfl, _⟩ := h
    rfl
  · obtain ⟨a, ns, rfl, hS, hl, q⟩ := h
    have hu := hu_of hr
    refine ⟨_, (pss_cons (ps_for PassesOwn.never rfl (pi_range1 rfl T.n_range (pa_cons (pe_callB (call_max2 rfl) (by rfl) T.n_max (by decide +kernel) (pa_cons pe_int (pa_cons (pe_callB (call_min2 rfl) (by rfl) T.n_min (by decide +kernel) (pa_cons (pe_callB call_len_seq (by rfl) T.n_len (by decide +kernel) (pa_cons (pv 0) pa_nil)) (pa_cons pe_int pa_nil))) pa_nil))) pa_nil)) (pg_name (i := 1) sc_law.nd rfl (Or.inl rfl))
        (pss_cons (ps_set (i := 2) sc_law.nd rfl (Or.inr rfl) (pe_callR (ok_hand T) (hr.mono (by decide)) T.A_l_hand.kp rfl T.g_l_hand pass0 (pa_cons (pv 0) (pa_cons (pv 1) pa_nil))))
      (pss_cons (ps_set (i := 3) sc_law.nd rfl (Or.inr rfl) (pe_op op_add pe_int (pe_callR (ok_draw T) (hr.mono (by decide)) T.A_l_draw.kp rfl T.g_l_draw pass0 (pa_cons (pv 2) (pa_cons pe_int pa_nil)))))
      (pss_cons (ps_set (i := 4) sc_law.nd rfl (Or.inr rfl) (pe_callR (ok_l_arrows T) (hr.mono (by decide)) T.A_l_arrows.kp rfl T.g_l_arrows pass0 (pa_cons (pv 2) (pa_cons (pv 3) (pa_cons (pe_op op_add pe_int (pe_callR (ok_draw T) (hr.mono (by decide)) T.A_l_draw.kp rfl T.g_l_draw pass0 (pa_cons (pv 2) (pa_cons pe_int pa_nil)))) pa_nil)))))
      (pss_cons (ps_set (i := 5) sc_law.nd rfl (Or.inl rfl) (pe_callR (ok_l_arrows T) (hr.mono (by decide)) T.A_l_arrows.kp rfl T.g_l_arrows pass0 (pa_cons (pv 2) (pa_cons (pv 3) (pa_cons (pe_op op_add pe_int (pe_callR (ok_draw T) (hr.mono (by decide)) T.A_l_draw.kp rfl T.g_l_draw pass0 (pa_cons (pv 2) (pa_cons pe_int pa_nil)))) pa_nil)))))
      (pss_cons (ps_set (i := 6) sc_law.nd rfl (Or.inl rfl) (pe_callTy (call_dictP rfl) (by rfl) T.n_dict (by decide +kernel) (pa_cons (pe_lock (pe_lc (own := [("_law_pair", 14)]) (g := (gName 14)) rfl sc_law.nd (pi_items1 (pv 5)) (blkOk_by (own := [("_law_pair", 14)]) (N := n_law) (sc := defScope s_law) (by decide +kernel)) (fun _ _ _ _ _ => (pg_name (i := 14) sc_law.nd rfl (Or.inl rfl))) (fun _ _ _ _ _ => (pts_one (pt_cmp (pc_din hu (pe_ix (U.ix_tupK (K := K) rfl) (pv 14) pe_int (fun _ _ => rfl)) (pv 4))))) (fun _ _ _ _ _ => (pv 14)))) pa_nil)))
      (pss_cons (ps_set (i := 7) sc_law.nd rfl (Or.inl rfl) (pe_makeR T.M_Map (ok_init T) (hr.mono (by decide)) rfl T.g_Map pass0 (pa_cons (pv 3) (pa_cons (pv 4) pa_nil))))
      (pss_cons (ps_for PassesOwn.never rfl (pi_list (pe_lst (pa_cons (pv 5) (pa_cons (pv 6) (pa_cons pe_dnewK (pa_cons (pv 4) pa_nil)))))) (pg_name (i := 8) sc_law.nd rfl (Or.inl rfl))
        (pss_cons (ps_par (i := 9) (j := 10) rfl sc_law.nd rfl rfl (by decide) rfl rfl (pa_cons (pe_makeR T.M_Map (ok_init T) (hr.mono (by decide)) rfl T.g_Map pass0 (pa_cons (pv 3) (pa_cons (pv 8) pa_nil))) (pa_cons (pe_callR (ok_l_due T) (hr.mono (by decide)) T.A_l_due.kp rfl T.g_l_due pass0 (pa_cons (pv 4) (pa_cons (pv 8) (pa_cons (pv 3) pa_nil)))) pa_nil)) (by rfl))
      (pss_cons (ps_if (pt_cmpR op_ne (pe_callB (call_repr gd hr.units) (by rfl) T.n_repr (by decide +kernel) (pa_cons (pe_callR (fnR_calm (ok_distance T)) (hr.mono (by decide)) T.A_distance.kp rfl T.g_distance pass0 (pa_cons (pv 7) (pa_cons (pv 9) pa_nil))) pa_nil)) (pe_callB (call_repr gd hr.units) (by rfl) T.n_repr (by decide +kernel) (pa_cons (pv 10) pa_nil)) (nomark _))
        (pss_one (ps_ret pe_bl)) pss_nil)
      (pss_cons (ps_set (i := 11) sc_law.nd rfl (Or.inr rfl) (pe_callR (fnR_calm (ok_steps T)) (hr.mono (by decide)) T.A_steps.kp rfl T.g_steps pass0 (pa_cons (pv 7) (pa_cons (pv 9) pa_nil))))
      (pss_cons (ps_if (pt_cmpR op_isN (pv 10) pe_non (nomark _))
        (pss_cons (ps_if (PW.pt (pw_or (pt_cmpR op_notN (pv 11) pe_non (nomark _)) (pw_or (pt_cmpR op_ne (pe_callR (fnR_calm (ok_count_shortest T)) (hr.mono (by decide)) T.A_count_shortest.kp rfl T.g_count_shortest pass0 (pa_cons (pv 7) (pa_cons (pv 9) pa_nil))) pe_int (nomark _)) (pw_or1 (pt_cmpR (L2.op_neD hr.units) (pe_callR (fnR_calm (ok_next_steps T)) (hr.mono (by decide)) T.A_next_steps.kp rfl T.g_next_steps pass0 (pa_cons (pv 7) (pa_cons (pv 9) pa_nil))) (pe_lst pa_nil) (nomark _))))))
        (pss_one (ps_ret pe_bl)) pss_nil)
      (pss_one (ps_set (i := 11) sc_law.nd rfl (Or.inr rfl) (pe_lst pa_nil)))) (pss_one (ps_if (PW.pt (pw_or (pt_cmpR op_ne (pe_callB call_len_seq (by rfl) T.n_len (by decide +kernel) (pa_cons (pv 11) pa_nil)) (pv 10) (nomark _)) (pw_or (pt_cmpR (op_neO T.o_Map T.ne_Map T.m_Map__eq T.i_Map__eq (ok_eq T) (hr.mono (by decide)) pass0) (pe_callR (fnR_calm (ok_applied T)) (hr.mono (by decide)) T.A_applied.kp rfl T.g_applied pass0 (pa_cons (pv 7) (pa_cons (pv 11) pa_nil))) (pv 9) (nomark _)) (pw_or1 (pt_not (pt_val (pe_callR (ok_l_nearer T) (hr.mono (by decide)) T.A_l_nearer.kp rfl T.g_l_nearer pass0 (pa_cons (pv 2) (pa_cons (pv 7) (pa_cons (pv 9) (pa_cons (pv 10) pa_nil)))))))))))
        (pss_one (ps_ret pe_bl)) (pss_one (ps_if (PW.pt (pw_and (pt_cmpR (L2.op_neD hr.units) (pv 11) (pe_lst pa_nil) (nomark _)) (pw_and1 (pt_cmpR (L2.op_notInD (units65 hr)) (pe_ix ix_list (pv 11) pe_int (fun _ _ => rfl)) (pe_callR (fnR_calm (ok_next_steps T)) (hr.mono (by decide)) T.A_next_steps.kp rfl T.g_next_steps pass0 (pa_cons (pv 7) (pa_cons (pv 9) pa_nil))) (by rfl)))))
        (pss_one (ps_ret pe_bl)) pss_nil)))))
      (pss_one (ps_for PassesOwn.never rfl (pi_list (pe_op op_cat (pe_lst (pa_cons (pv 11) pa_nil)) (pe_lc (own := [("_law_turn", 15)]) (g := (gName 15)) (tt := tYes) rfl sc_law.nd (pi_range1 rfl T.n_range (pa_cons pe_int pa_nil)) (blkOk_by (own := [("_law_turn", 15)]) (N := n_law) (sc := defScope s_law) (by decide +kernel)) (fun _ _ _ _ _ => (pg_name (i := 15) sc_law.nd rfl (Or.inl rfl))) (fun _ _ _ _ _ => pts_nil) (fun _ _ _ _ _ => (pe_callR (ok_l_bent T) (hr.mono (by decide)) T.A_l_bent.kp rfl T.g_l_bent pass0 (pa_cons (pv 2) (pa_cons (pv 11) (pa_cons (pv 3) pa_nil)))))))) (pg_name (i := 12) sc_law.nd rfl (Or.inl rfl))
        (pss_one (ps_if (pt_cmpR op_ne (pe_callB call_repr0 (by rfl) T.n_repr (by decide +kernel) (pa_cons (pe_callR (fnR_calm (ok_is_making T)) (hr.mono (by decide)) T.A_is_making.kp rfl T.g_is_making pass0 (pa_cons (pv 7) (pa_cons (pv 9) (pa_cons (pv 12) pa_nil)))) pa_nil)) (pe_callB call_repr0 (by rfl) T.n_repr (by decide +kernel) (pa_cons (pe_callR (ok_l_leads T) (hr.mono (by decide)) T.A_l_leads.kp rfl T.g_l_leads pass0 (pa_cons (pv 7) (pa_cons (pv 9) (pa_cons (pv 12) pa_nil)))) pa_nil)) (nomark _))
        (pss_one (ps_ret pe_bl)) pss_nil)))))))))
      (pss_cons (ps_set (i := 13) sc_law.nd rfl (Or.inl rfl) (pe_ix ix_list (pe_lst (pa_cons pe_non (pa_cons (pv 4) (pa_cons pe_int (pa_cons pe_str pa_nil))))) (pe_callR (ok_draw T) (hr.mono (by decide)) T.A_l_draw.kp rfl T.g_l_draw pass0 (pa_cons (pv 2) (pa_cons pe_int pa_nil))) (fun _ _ => rfl)))
      (pss_cons (ps_if (PW.pt (pw_or (pt_cmpR (L2.op_neD hr.units) (pe_callR (ok_l_refused T) (hr.mono (by decide)) T.A_l_refused.kp rfl T.g_l_refused pass0 (pa_cons (pv 13) (pa_cons pe_non pa_nil))) (pe_op op_rep (pe_lst (pa_cons pe_str pa_nil)) pe_int) (nomark _)) (pw_or1 (pt_cmpR (L2.op_neD hr.units) (pe_callR (ok_l_refused T) (hr.mono (by decide)) T.A_l_refused.kp rfl T.g_l_refused pass0 (pa_cons (pv 7) (pa_cons (pv 13) pa_nil))) (pe_op op_rep (pe_lst (pa_cons pe_str pa_nil)) pe_int) (nomark _)))))
        (pss_one (ps_ret pe_bl)) pss_nil)
      (pss_one (ps_if (pt_cmpR (L2.op_neD hr.units) (pe_callR (ok_l_refused T) (hr.mono (by decide)) T.A_l_refused.kp rfl T.g_l_refused pass0 (pa_cons (pv 7) (pa_cons (ClX.pe_cmeth (pe_glob (v := .ref T.C_Map) rfl T.g_Map rfl) T.R_Map T.cm_Map_empty (ok_empty T) (hr.mono (by decide)) pass0 (pa_cons (pe_op op_add (pv 3) pe_int) pa_nil)) pa_nil))) (pe_op op_rep (pe_lst (pa_cons (pe_lst (pa_cons (pv 3) (pa_cons (pe_op op_add (pv 3) pe_int) pa_nil))) pa_nil)) pe_int) (nomark _))
        (pss_one (ps_ret pe_bl)) pss_nil))))))))))))
      (pss_one (ps_ret pe_bl))), ?_⟩
    refine ⟨_, rfl, a, _, rfl, .inl hS, _, _, rfl, _, _, rfl, _, rfl, ?_, ?_, ?_⟩
    · rw [List.length_map]; (repeat' split) <;> omega
    · rw [List.length_map]; (repeat' split) <;> omega
    refine for_it (walk_range (lo := 0)) (fun i σ H' => ∃ v1 v2 v3 v4 v5 v6 v7 v8 v9 v10 v11 v12 v13 v14 v15, σ = [some (.ref a), v1, v2, v3, v4, v5, v6, v7, v8, v9, v10, v11, v12, v13, v14, v15] ∧ Same H H')
      ⟨none, none, none, none, none, none, none, none, none, none, none, none, none, none, none, rfl, Same.refl H⟩ (fun _ _ _ _ _ => trivial) ?_ ?_
    rotate_left
    · rintro σ Ha ⟨v1, v2, v3, v4, v5, v6, v7, v8, v9, v10, v11, v12, v13, v14, v15, rfl, sa⟩
      exact q Ha
    · rintro k v σ H' H1 hk ⟨v1, v2, v3, v4, v5, v6, v7, v8, v9, v10, v11, v12, v13, v14, v15, rfl, p1⟩ ⟨rfl, rfl⟩
      refine ⟨_, rfl, _, rfl, a, ns, _, rfl, SqL.same hS p1, hl, fun p H2 x y np hp s2 hx hy hy2 => ?_⟩
      have p0 : H p = none := p1.free np
      have pool2 : PoolAt H2 p := ⟨x, y, hp, hx, hy, hy2⟩
      have s02 := p1.trans s2
      refine draw_R rfl (fun R r => r) pool2 (by decide) (by decide) fun r H3 r0 r1 pool3 off3 => ⟨_, _, rfl, rfl, ?_⟩
      obtain ⟨n, en⟩ : ∃ n : Int, 1 + r = n := ⟨_, rfl⟩
      dsimp only
      rw [en]
      have n1 : 1 ≤ n := by omega
      have n30 : n ≤ 30 := by omega
      have n3 : n ≤ 300 := by omega
      refine ⟨_, rfl, _, rfl, draw_R rfl (fun R r => r) pool3 (by decide) (by decide) fun w1 H4 wa wb pool4 off4 => ⟨_, _, rfl, rfl, ?_⟩⟩
      refine ⟨p, n, _, rfl, pool4, n1, n3, fun d H5 l nd5 hd5 di wf hll pool5 off5 => ?_⟩
      obtain ⟨f, ef⟩ : ∃ f, f = lk l := ⟨_, rfl⟩
      rw [← ef] at di wf
      refine ⟨_, rfl, _, rfl, draw_R rfl (fun R r => r) pool5 (by decide) (by decide) fun w2 H6 wc wd pool6 off6 => ⟨_, _, rfl, rfl, ?_⟩⟩
      refine ⟨p, n, _, rfl, pool6, n1, n3, fun e H7 l2 ne7 he7 di2 wg hll2 pool7 off7 => ?_⟩
      obtain ⟨g, eg⟩ : ∃ g, g = lk l2 := ⟨_, rfl⟩
      rw [← eg] at di2 wg
      have off57 := off6.tr off7
      have ndp : d ≠ p := fun z => by obtain ⟨xs, e2⟩ := pool5.lst; rw [z, e2] at hd5; cases hd5
      have nep : e ≠ p := fun z => by obtain ⟨xs, e2⟩ := pool7.lst; rw [z, e2] at he7; cases he7
      have hd7 := off57 _ _ ndp hd5
      have sH7 : Same H H7 := Same.off (Same.off (Same.off (Same.off (Same.off s02 off3 p0) off4 p0) off5 p0) off6 p0) off7 p0
      have hd6 := off6 _ _ ndp hd5
      have nde : d ≠ e := ne_of_none hd6 ne7
      have l1000 : ∀ {l : List (Int × Int)} {f : PF}, DI l f → WF n f → l.length ≤ 300 := fun {l f} di wf => by
        have := len_range (l := l.map (·.1)) (n := n) di.nd fun x hx => by
          obtain ⟨⟨x', y'⟩, h1, rfl⟩ := List.mem_map.mp hx
          have := wf.dom x' y' (di.mem.mp h1)
          exact ⟨this.1, this.2.1⟩
        rw [List.length_map] at this
        omega
      have lf := l1000 di wf
      have lg := l1000 di2 wg
      dsimp only [gName]
      refine nx_seq (asg_of ?_)
      refine lc_items1 (fun _ => False) (fun _ => True) (fun x y b => b = (f x).isSome) he7 (fun z => z) trivial (fun _ _ _ _ => trivial) (fun _ _ _ z => z.elim) (fun od R r => ⟨_, rfl, r⟩) (fun _ => rfl) (fun x y hxy H8 T8 keep rd _ eT R hR => ?_) (fun H8 T8 R r => ⟨_, rfl, r⟩) (small1000 (by omega)) (fun D ps m H8 nD hD hps hsub hdet _ keep => ?_)
      · refine ⟨_, rfl, T8, _, 0, .int x, rfl, rfl, SqT.of eT, rfl, _, rfl, d, _, rfl, DGet.k (k := Sum.inl x) (keep _ _ nde (fun z => z) hd7), _, rfl, ?_⟩
        rw [valV_kvI, Option.isSome_map, di.at_]
        exact hR _ _ rfl trivial fun _ _ _ z => z
      have s78 : Same H7 H8 := fun b u eb => keep b u (fun z => z) eb
      have em := hdet (fun x _ => (f x).isSome) fun x y b z => z
      subst em
      dsimp only [tNil]
      refine dictP_of (Q := fun v Hv => tSeq _ _ _ (List.set _ 6 (some v)) Hv) hD hps (res_di di2) fun pt l3 npt hl3 di3 => ?_
      have s9 : Same H8 (upd H8 pt (.dK (kvI l3))) := Same.new npt
      have hpt : (upd H8 pt (.dK (kvI l3))) pt = some (.dK (kvI l3)) := upd_same
      generalize upd H8 pt (.dK (kvI l3)) = H9 at s9 hpt
      have s79 := s78.trans s9
      have pool9 := pool7.same s79
      have wg3 : WF n (resF f g) := wf_le wg (res_le f g)
      have lg3 := l1000 di3 wg3
      have hd9 := s79 _ _ hd7
      have he9 := s79 _ _ he7
      refine nx_seq ?_
      refine ⟨_, rfl, _, rfl, fun m dx nm ndx ne => init_of hd9 di wf n1 n3 (by omega) nm ndx ne fun H10 s10 hm => ⟨rfl, ?_⟩⟩
      have hd10 := s10 _ _ hd9
      have he10 := s10 _ _ he9
      have hpt10 := s10 _ _ hpt
      have pool10 := pool9.same s10
      have sH10 : Same H H10 := sH7.trans (s79.trans s10)
      dsimp only [gName]
      refine nx_seq (for_lst ?_)
      refine ⟨_, rfl, _, rfl, ?_⟩
      refine fun z n_z => ?_
      generalize g_z : L2.upd _ z _ = H11
      obtain ⟨s_H11, e_z⟩ := U.upd_facts g_z n_z
      clear g_z
      refine ⟨_, rfl, (show 4 ≤ sizeLine by decide), ?_⟩
      refine fun L n_L => ?_
      generalize g_L : L2.upd _ L _ = H12
      obtain ⟨s_H12, e_L⟩ := U.upd_facts g_L n_L
      clear g_L
      refine ⟨L, rfl, ⟨_, SqL.of e_L⟩, ?_⟩
      have s1012 := s_H11.trans s_H12
      have pool12 := pool10.same s1012
      have npz : z ≠ p := (pool10.ne n_z).symm
      have npt' : pt ≠ p := (pool9.same (Same.refl _) |>.lst.elim fun xs e2 z => by rw [z, e2] at hpt; cases hpt)
      have npL : L ≠ p := ((pool10.same s_H11).ne n_L).symm
      have hd12 := s1012 _ _ hd10
      have hm12 := hm.same s1012
      have tgt : ∀ v ∈ [V.ref e, .ref pt, .ref z, .ref d], ∃ e' l' g', v = .ref e' ∧ e' ≠ p ∧ H12 e' = some (.dK (kvI l')) ∧ DI l' g' ∧ WF n g' ∧ l'.length ≤ 300 := fun v hv => by
        simp only [List.mem_cons, List.not_mem_nil, or_false] at hv
        rcases hv with rfl | rfl | rfl | rfl
        · exact ⟨e, l2, g, rfl, nep, s1012 _ _ he10, di2, wg, lg⟩
        · exact ⟨pt, l3, _, rfl, npt', s1012 _ _ hpt10, di3, wg3, lg3⟩
        · exact ⟨z, [], emp, rfl, npz, s_H12 _ _ e_z, di_nil, wf_emp n, Nat.zero_le _⟩
        · exact ⟨d, l, f, rfl, ndp, hd12, di, wf, lf⟩
      refine for_it (walk_list (xs := [V.ref e, .ref pt, .ref z, .ref d])) (fun j σ H' => ∃ v1 v8 v9 v10 v11 v12 v13 v14 v15, σ = [some (.ref a), v1, some (.ref p), some (.int n), some (.ref d), some (.ref e), some (.ref pt), some (.ref m), v8, v9, v10, v11, v12, v13, v14, v15] ∧ PoolAt H' p ∧ Off p H12 H')
        ⟨_, _, _, _, _, _, _, _, _, rfl, pool12, fun _ _ _ h => h⟩ (fun j σ H' _ ⟨_, _, _, _, _, _, _, _, _, _, _, o⟩ => SqL.of (o _ _ npL e_L)) ?_ ?_
      · rintro j v σ Ha0 Ha hj ⟨v1, v8, v9, v10, v11, v12, v13, v14, v15, rfl, poolA, offA⟩ ⟨rfl, ev⟩
        obtain ⟨e', l', g', rfl, ne', he', di', wg', lg'⟩ := tgt v (List.mem_of_getElem? ev)
        have heA := offA _ _ ne' he'
        have hdA := offA _ _ ndp hd12
        have hmA := hm12.off offA pool12.lst
        refine ⟨_, rfl, _, rfl, fun x dx nx ndx ne => init_of heA di' wg' n1 n3 (by omega) nx ndx ne fun Hb sb hx => ⟨rfl, ?_⟩⟩
        refine ⟨_, rfl, _, rfl, _, rfl, d, e', l, l', n, f, g', rfl, sb _ _ hdA, sb _ _ heA, di, di', wf, wg', n1, n3, by omega, by omega, fun Hc sc => ?_⟩
        refine ⟨_, _, rfl, ?_⟩
        have sbc := sb.trans sc
        have hxc := hx.same sc
        have hmc := hmA.same sbc
        have poolC := poolA.same sbc
        have offC : Off p H12 Hc := offA.tr (offS sbc)
        dsimp only [gName]
        obtain ⟨ds, hds, okds⟩ := due_rp (K := K) (H := Hc) wf wg' (by omega) n30
        have hds' : ∀ H', Dp K H' (dueV n f g') ds := fun H' => by
          unfold dueV at hds ⊢
          cases hs : srcB n f g' with
          | false => rw [hs] at hds; cases hds; exact .non
          | true => rw [hs, if_pos rfl] at hds; rw [if_pos rfl]; cases hds; exact .int _
        obtain ⟨k1, k2, k3, k4⟩ := okRp_of okds
        refine nx_seq (ifs_of (test_of (op_of ?_)))
        refine ⟨_, rfl, _, rfl, _, _, rfl, .inr ⟨m, x, n, f, g', rfl, rfl, hmc, hxc, ?_⟩⟩
        have wd : ∀ R : VK, (∀ H', Same Hc H' → R (dueV n f g') H') → wDist m x n f g' Hc R := fun R r => by
          unfold dueV at r
          cases hs : srcB n f g' with
          | false => rw [hs] at r; exact .inl ⟨hs, r⟩
          | true => rw [hs, if_pos rfl] at r; exact .inr ⟨hs, r⟩
        refine wd _ fun Hd sd => ?_
        refine ⟨_, ds, rfl, hds' _, k1, k2, k3, k4, _, rfl, _, ds, rfl, hds' _, k1, k2, k3, k4, rfl, _, rfl, ?_⟩
        refine iteF' (by simp) (nt_of (nx_of ?_))
        have hxd := hxc.same sd
        have hmd := hmc.same sd
        have poolD := poolC.same sd
        have offD : Off p H12 Hd := offC.tr (offS sd)
        have mapsO : ∀ H', Off p Hd H' → IsMap T.C_Map H' m n f ∧ IsMap T.C_Map H' x n g' := fun H' o => ⟨hmd.off o poolD.lst, hxd.off o poolD.lst⟩
        refine seq_cut (fun σ H' => ∃ v1 v12 v13 v14 v15, PoolAt H' p ∧ Off p Hd H' ∧ ((srcB n f g' = false ∧ σ = [some (.ref a), v1, some (.ref p), some (.int n), some (.ref d), some (.ref e), some (.ref pt), some (.ref m), some (.ref e'), some (.ref x), some (dueV n f g'), some .non, v12, v13, v14, v15]) ∨ (srcB n f g' = true ∧ ∃ rl ts, σ = [some (.ref a), v1, some (.ref p), some (.int n), some (.ref d), some (.ref e), some (.ref pt), some (.ref m), some (.ref e'), some (.ref x), some (dueV n f g'), some (.ref rl), v12, v13, v14, v15] ∧ rl ≠ p ∧ H' rl = some (.lst (ts.map V.ref)) ∧ StpsAt H' ts (stepsL n f g')))) (fun nx hnx => ?_) ?_
        · refine asg_of ?_
          refine ⟨_, rfl, _, rfl, _, _, rfl, .inr ⟨m, x, n, f, g', rfl, rfl, hmd, hxd, ?_⟩⟩
          cases hs : srcB n f g' with
          | false => exact .inl ⟨hs, fun He s_e => hnx _ _ ⟨_, _, _, _, _, poolD.same s_e, offS s_e, .inl ⟨hs, rfl⟩⟩⟩
          | true => exact .inr ⟨hs, fun rl ts He s_e nrl erl hst => hnx _ _ ⟨_, _, _, _, _, poolD.same s_e, offS s_e, .inr ⟨hs, rl, ts, rfl, (poolD.ne nrl).symm, erl, hst⟩⟩⟩
        rintro σ He ⟨v1, v12, v13, v14, v15, poolE, offE, hcase⟩
        refine seq_cut (fun σ H' => ∃ v1 v12 v13 v14 v15 rl ts ss, σ = [some (.ref a), v1, some (.ref p), some (.int n), some (.ref d), some (.ref e), some (.ref pt), some (.ref m), some (.ref e'), some (.ref x), some (dueV n f g'), some (.ref rl), v12, v13, v14, v15] ∧ PoolAt H' p ∧ Off p Hd H' ∧ rl ≠ p ∧ H' rl = some (.lst (ts.map V.ref)) ∧ StpsAt H' ts ss ∧ (∀ s ∈ ss, Stp.ok n s) ∧ ss.length ≤ 45) (fun nx hnx => ?_) ?_
        · obtain ⟨hmE, hxE⟩ := mapsO He offE
          rcases hcase with ⟨hs, rfl⟩ | ⟨hs, rl, ts, rfl, nrl, erl, hst⟩
          · have edue : dueV n f g' = .non := by
              unfold dueV
              rw [hs]
              rfl
            rw [edue]
            refine ifs_of (test_of (op_of ?_))
            refine ⟨_, rfl, rfl, _, rfl, ?_⟩
            refine iteT' (by simp) ?_
            refine nx_seq (ifs_of (or_of (test_of (op_of ?_))))
            refine ⟨_, rfl, rfl, _, rfl, iteF' (by simp) ?_⟩
            refine or_of (test_of (op_of ?_))
            refine ⟨_, rfl, _, rfl, _, _, rfl, .inr ⟨m, x, n, f, g', rfl, rfl, hmE, hxE, n30, .inl ⟨hs, fun Hf sf => ?_⟩⟩⟩
            refine ⟨rfl, _, rfl, iteF' (by simp) ?_⟩
            refine test_of (op_of ?_)
            refine ⟨_, rfl, _, rfl, _, _, rfl, .inr ⟨m, x, n, f, g', rfl, rfl, hmE.same sf, hxE.same sf, n30, .inl ⟨hs, fun ln Hg sg eln => ?_⟩⟩⟩
            refine ⟨(show 0 ≤ sizeLine by decide), fun q1 nq1 => ?_⟩
            have sq : Same Hg (upd Hg q1 (.lst [])) := Same.new nq1
            refine ⟨.list [], .list [], .lst (SqL.of (sq _ _ eln)) .nil, .lst (SqL.of upd_same) .nil, by decide +kernel, by decide +kernel, _, rfl, iteF' (by decide +kernel) (nt_of (nx_of ?_))⟩
            generalize upd Hg q1 (.lst []) = Hh at sq
            have seh := (sf.trans sg).trans sq
            have poolH := poolE.same seh
            refine asg_of ⟨(show 0 ≤ sizeLine by decide), fun rl nrl => ?_⟩
            have srl : Same Hh (upd Hh rl (.lst [])) := Same.new nrl
            refine hnx _ _ ⟨_, _, _, _, _, rl, [], [], by rw [edue]; rfl, poolH.same srl, (offE.tr (offS seh)).tr (offS srl), (poolH.ne nrl).symm, upd_same, .nil, (fun s h => nomatch h), Nat.zero_le _⟩
          · have edue : dueV n f g' = .int (distI n f g') := by
              unfold dueV
              rw [hs, if_pos rfl]
            rw [edue]
            have hsr := (srcB_iff wg').mp hs
            have ed := dist_nat wf wg' hsr (by omega)
            have hlen := paired_len hst
            have hsl := steps_len wf wg'
            have hd45 := dN_le wf wg' (by omega) n30 hsr
            refine ifs_of (test_of (op_of ?_))
            refine ⟨_, rfl, rfl, _, rfl, ?_⟩
            refine iteF' (by simp) ?_
            refine ifs_of (or_of (test_of (op_of ?_)))
            refine ⟨_, rfl, rl, _, rfl, .inl (SqL.of erl), _, rfl, rfl, _, rfl, ?_⟩
            have e1 : V.int (((ts.map V.ref).length : Nat) : Int) = V.int (distI n f g') := by rw [List.length_map, hlen, hsl, ed]
            refine iteF' (by rw [decide_eq_true e1]; rfl) ?_
            refine or_of (test_of (op_of ?_))
            refine ⟨_, rfl, _, rfl, ?_⟩
            dsimp only [tNil]
            refine app_of (r := some (stepsL n f g')) hmE (th_some erl hst (steps_ok wf wg') (by omega)) ?_
            intro y Hf ny sf hy
            rw [steps_lead wf wg' hsr] at hy
            have hxF := hxE.same sf
            obtain ⟨ex, fx, eX⟩ := at_map hy
            obtain ⟨ey, fy, eY⟩ := at_map hxF
            refine ⟨_, rfl, y, _, _, x, _, _, rfl, rfl, eX, eY, y, x, _, _, _, _, rfl, hy, hxF, _, rfl, _, rfl, ?_⟩
            rw [eqB_self wg']
            refine iteF' rfl ?_
            have poolF := poolE.same sf
            refine ⟨_, rfl, _, rfl, _, rfl, _, rfl, p, m, x, n, f, g', rfl, poolF, hmE.same sf, hxF, n30, hs, fun Hg poolG offG => ⟨_, rfl, ?_⟩⟩
            refine iteF' rfl ?_
            have offEG : Off p He Hg := (offS sf).tr offG
            have erlG := offEG _ _ nrl erl
            have hstG : StpsAt Hg ts (stepsL n f g') := hst.off poolE.lst offEG
            obtain ⟨hmG, hxG⟩ := mapsO Hg (offE.tr offEG)
            have hokS := steps_ok wf wg'
            refine ifs_of ?_
            refine ⟨_, rfl, (show 0 ≤ sizeLine by decide), fun q1 nq1 => ?_⟩
            have sq : Same Hg (upd Hg q1 (.lst [])) := Same.new nq1
            refine ⟨.list _, .list [], .lst (SqL.of (sq _ _ erlG)) (dp_stps (hstG.same sq)), .lst (SqL.of upd_same) .nil, shaped_stps _, by decide +kernel, _, rfl, ?_⟩
            rw [eqv_nilS]
            generalize upd Hg q1 (.lst []) = Hh at sq
            have fin : ∀ Hz, Same Hh Hz → nx [some (.ref a), v1, some (.ref p), some (.int n), some (.ref d), some (.ref e), some (.ref pt), some (.ref m), some (.ref e'), some (.ref x), some (.int (distI n f g')), some (.ref rl), v12, v13, v14, v15] Hz := fun Hz sz => by
              have sgz := sq.trans sz
              exact hnx _ _ ⟨_, _, _, _, _, rl, ts, stepsL n f g', by rw [edue], poolG.same sgz, (offE.tr offEG).tr (offS sgz), nrl, sgz _ _ erlG, hstG.same sgz, hokS, by omega⟩
            by_cases hz : stepsL n f g' = []
            · rw [decide_eq_true hz]
              exact iteF' rfl (iteF' rfl (fin Hh (Same.refl _)))
            · rw [decide_eq_false hz]
              refine iteT ?_
              obtain ⟨s0, es0⟩ : ∃ s0, (stepsL n f g')[0]? = some s0 := ⟨_, List.getElem?_eq_getElem (List.length_pos_iff.mpr hz)⟩
              obtain ⟨t0, et0⟩ : ∃ t0, ts[0]? = some t0 := ⟨_, List.getElem?_eq_getElem (by rw [hlen]; exact List.length_pos_iff.mpr hz)⟩
              obtain ⟨s0', es0', ht0⟩ := paired_at (hstG.same sq) et0
              rw [es0] at es0'
              cases es0'
              refine ⟨_, rfl, rl, _, 0, .ref t0, rfl, rfl, SqL.of (sq _ _ erlG), atI_nat (j := 0) (by rw [List.getElem?_map, et0]; rfl), ?_⟩
              refine ⟨_, rfl, _, rfl, _, _, rfl, .inr ⟨m, x, n, f, g', rfl, rfl, hmG.same sq, hxG.same sq, n30, .inr ⟨hs, fun l2' ts2 Hi si nl2 el2 hp2 => ?_⟩⟩⟩
              refine ⟨dStp s0, _, dp_stp (si _ _ ht0), .lst (SqL.of el2) (dp_stps hp2), shaped_stp s0, shaped_stps _, _, rfl, ?_⟩
              rw [any_stp (steps_menu wf wg' (List.mem_of_getElem? es0))]
              exact iteF' rfl (fin Hi si)
        · rintro σ Hf ⟨v1, v12, v13, v14, v15, rl, ts, ss, rfl, poolF, offF, nrl, erl, hst, hok, hls⟩
          refine for_lst ?_
          refine ⟨_, rfl, one_le, fun q1 nq1 => ?_⟩
          have sq : Same Hf (upd Hf q1 (.lst [.ref rl])) := Same.new nq1
          have eq1 : (upd Hf q1 (.lst [.ref rl])) q1 = some (.lst [.ref rl]) := upd_same
          generalize upd Hf q1 (.lst [.ref rl]) = Hg at sq eq1
          have poolG := poolF.same sq
          have nq1p : q1 ≠ p := (poolF.ne nq1).symm
          have erlG := sq _ _ erl
          have hstG := hst.same sq
          refine lc_bents (C := T.C_Map) (n := n) (N := 5) (fun R r => ⟨5, rfl, by decide, by decide, r⟩) (fun _ => rfl) (by decide) poolG (fun kk H1 pool1 off1 R rr => ?_) (fun D xs Hh poolH offH nD eD hlD hxs => ?_)
          · exact ⟨_, rfl, _, rfl, _, rfl, p, rl, n, ts, ss, rfl, pool1, off1 _ _ nrl erlG, nrl, hstG.off poolG.lst off1, hok, hls, n1, n3, rr⟩
          have nDp : D ≠ p := (poolG.ne nD).symm
          refine ⟨q1, D, _, _, rfl, rfl, offH _ _ nq1p eq1, eD, ?_, fun W nW => ?_⟩
          · rw [hlD]
            show 6 ≤ sizeLine
            decide
          have sW : Same Hh (upd Hh W (.lst ([.ref rl] ++ xs))) := Same.new nW
          have eW : (upd Hh W (.lst ([.ref rl] ++ xs))) W = some (.lst ([.ref rl] ++ xs)) := upd_same
          generalize upd Hh W (.lst ([.ref rl] ++ xs)) = Hi at sW eW
          have offFI : Off p Hf Hi := ((offS sq).tr offH).tr (offS sW)
          have offI : Off p Hd Hi := offF.tr offFI
          obtain ⟨hmI, hxI⟩ := mapsO Hi offI
          have poolI := poolH.same sW
          have vals : ∀ v ∈ [V.ref rl] ++ xs, ∃ r, ThV T.C_Map n Hi v r := fun v hv => by
            rcases List.mem_append.mp hv with hv | hv
            · rw [List.mem_singleton] at hv
              subst hv
              exact ⟨some ss, th_some (offFI _ _ nrl erl) (hst.off poolF.lst offFI) hok (by omega)⟩
            · obtain ⟨_, r, hr'⟩ := hxs v hv
              exact ⟨r, hr'.same sW⟩
          refine ⟨W, rfl, ⟨_, SqL.of eW⟩, ?_⟩
          refine for_it (walk_list (xs := [V.ref rl] ++ xs)) (fun jj σ H' => ∃ v1 v12 v13 v14 v15, σ = [some (.ref a), v1, some (.ref p), some (.int n), some (.ref d), some (.ref e), some (.ref pt), some (.ref m), some (.ref e'), some (.ref x), some (dueV n f g'), some (.ref rl), v12, v13, v14, v15] ∧ Same Hi H') ⟨_, _, _, _, _, rfl, Same.refl _⟩ (fun jj σ H' _ ⟨_, _, _, _, _, _, z⟩ => SqL.of (z _ _ eW)) ?_ ?_
          · rintro jj v σ Hj0 Hj hjj ⟨v1, v12, v13, v14, v15, rfl, sj⟩ ⟨rfl, evv⟩
            obtain ⟨r, hth⟩ := vals v (List.mem_of_getElem? evv)
            refine ifs_of (test_of (op_of ?_))
            refine ⟨_, rfl, _, rfl, _, rfl, _, _, _, rfl, .inr ⟨m, x, n, f, g', r, rfl, rfl, hmI.same sj, hxI.same sj, hth.same sj, fun Hk sk => ?_⟩⟩
            refine .inr (.inl ⟨_, rfl, ?_⟩)
            refine ⟨_, rfl, _, rfl, _, rfl, m, x, n, f, g', _, r, rfl, (hmI.same sj).same sk, (hxI.same sj).same sk, (hth.same sj).same sk, fun Hl sl => ?_⟩
            refine .inr (.inl ⟨_, rfl, ?_⟩)
            refine ⟨rfl, _, rfl, iteF' (by simp) ⟨_, _, _, _, _, rfl, (sj.trans sk).trans sl⟩⟩
          · rintro σ Hj ⟨v1, v12, v13, v14, v15, rfl, sj⟩
            exact ⟨_, _, _, _, _, _, _, _, _, rfl, poolI.same sj, offD.tr (offI.tr (offS sj))⟩
      · rintro σ Ha ⟨v1, v8, v9, v10, v11, v12, v13, v14, v15, rfl, poolA, offA⟩
        have poolB := poolA
        have sHA : Same H Ha := Same.off (sH10.trans s1012) offA p0
        have hmA := hm12.off offA pool12.lst
        have hdA := offA _ _ ndp hd12
        refine nx_of (nx_seq (asg_of (op_of ?_)))
        refine ⟨_, rfl, (show 4 ≤ sizeLine by decide), fun o no => ?_⟩
        have so : Same Ha (upd Ha o (.lst [.non, .ref d, .int 5, .str "1:"])) := Same.new no
        have eo : (upd Ha o (.lst [.non, .ref d, .int 5, .str "1:"])) o = some (.lst [.non, .ref d, .int 5, .str "1:"]) := upd_same
        generalize upd Ha o (.lst [.non, .ref d, .int 5, .str "1:"]) = Hb at so eo
        have npo : o ≠ p := (poolA.ne no).symm
        refine draw_R rfl (fun R r => r) (poolA.same so) (by decide) (by decide) fun rr Hc rr0 rr1 poolC offC => ?_
        obtain ⟨v, hv⟩ := atI_ix (xs := [V.non, .ref d, .int 5, .str "1:"]) rr0 (by simp only [List.length_cons, List.length_nil]; omega)
        refine ⟨o, _, rr, v, rfl, rfl, SqL.of (offC _ _ npo eo), ?_, ?_⟩
        · rw [show rr = ((rr.toNat : Nat) : Int) by omega]
          exact atI_nat hv
        have sHb := sHA.trans so
        have sHc : Same H Hc := Same.off sHb offC p0
        have hmC := (hmA.same so).off offC (poolA.same so).lst
        have hdC := offC _ _ ndp (so _ _ hdA)
        have nmv : nonMapV Hc v := by
          have hm' := List.mem_of_getElem? hv
          simp only [List.mem_cons, List.not_mem_nil, or_false] at hm'
          rcases hm' with rfl | rfl | rfl | rfl
          · trivial
          · exact .inr (.inr ⟨_, hdC⟩)
          · trivial
          · trivial
        dsimp only
        have shS : SeqAt.shaped (.list (List.replicate 5 (entD none))) = true := by decide +kernel
        refine nx_seq (ifs_of (or_of (test_of (op_of ?_))))
        refine ⟨_, rfl, v, .non, none, rfl, .inl nmv, fun q1 es1 Hd sd eq1 hl1 hes1 => ?_⟩
        refine ⟨one_le, fun q2 nq2 => ⟨q2, 5, _, rfl, rfl, upd_same, by decide, by decide, (show 5 ≤ sizeLine by decide), fun q3 nq3 => ?_⟩⟩
        have sq2 : Same Hd (upd Hd q2 (.lst [.str "map"])) := Same.new nq2
        generalize upd Hd q2 (.lst [.str "map"]) = He at sq2 nq3
        have sq3 : Same He (upd He q3 (.lst (List.replicate (5 : Int).toNat [V.str "map"]).flatten)) := Same.new nq3
        have eq3 : (upd He q3 (.lst (List.replicate (5 : Int).toNat [V.str "map"]).flatten)) q3 = some (.lst [.str "map", .str "map", .str "map", .str "map", .str "map"]) := upd_same
        generalize upd He q3 (.lst (List.replicate (5 : Int).toNat [V.str "map"]).flatten) = Hf at sq3 eq3
        have sdf := sq2.trans sq3
        have dpA : ∀ {Hx : Hp} {qx : Addr}, Hx qx = some (.lst [.str "map", .str "map", .str "map", .str "map", .str "map"]) → Dp K Hx (.ref qx) (.list (List.replicate 5 (entD none))) := fun e => .lst (SqL.of e) (.cons (.str _) (.cons (.str _) (.cons (.str _) (.cons (.str _) (.cons (.str _) .nil)))))
        refine ⟨.list (List.replicate 5 (entD none)), .list (List.replicate 5 (entD none)), .lst (SqL.of (sdf _ _ eq1)) (by rw [← hl1]; exact Ent.dp fun z hz => (hes1 z hz).same sdf), dpA eq3, shS, shS, _, rfl, ?_⟩
        rw [SeqAt.eqv_refl _ (SeqAt.canLay_of_shaped shS)]
        refine iteF' rfl ?_
        have scf := sd.trans sdf
        have nmF : nonMapV Hf v := by
          have : BadQ T.C_Map Hc v .non none := .inl nmv
          rcases this.same scf with h | ⟨⟨_, _, _, e8, hm8⟩, h⟩
          · exact h
          · subst e8
            obtain ⟨dx8, fs8, e9⟩ := at_map hm8
            rcases nmv with ⟨xs, w⟩ | ⟨xs, w⟩ | ⟨xs, w⟩ <;> (rw [scf _ _ w] at e9; cases e9)
        refine test_of (op_of ?_)
        refine ⟨_, rfl, _, rfl, .ref m, v, none, rfl, .inr ⟨⟨m, n, f, rfl, hmC.same scf⟩, nmF⟩, fun q4 es4 Hg sg eq4 hl4 hes4 => ?_⟩
        refine ⟨one_le, fun q5 nq5 => ⟨q5, 5, _, rfl, rfl, upd_same, by decide, by decide, (show 5 ≤ sizeLine by decide), fun q6 nq6 => ?_⟩⟩
        have sq5 : Same Hg (upd Hg q5 (.lst [.str "map"])) := Same.new nq5
        generalize upd Hg q5 (.lst [.str "map"]) = Hh at sq5 nq6
        have sq6 : Same Hh (upd Hh q6 (.lst (List.replicate (5 : Int).toNat [V.str "map"]).flatten)) := Same.new nq6
        have eq6 : (upd Hh q6 (.lst (List.replicate (5 : Int).toNat [V.str "map"]).flatten)) q6 = some (.lst [.str "map", .str "map", .str "map", .str "map", .str "map"]) := upd_same
        generalize upd Hh q6 (.lst (List.replicate (5 : Int).toNat [V.str "map"]).flatten) = Hi at sq6 eq6
        have sgi := sq5.trans sq6
        refine ⟨.list (List.replicate 5 (entD none)), .list (List.replicate 5 (entD none)), .lst (SqL.of (sgi _ _ eq4)) (by rw [← hl4]; exact Ent.dp fun z hz => (hes4 z hz).same sgi), dpA eq6, shS, shS, _, rfl, ?_⟩
        rw [SeqAt.eqv_refl _ (SeqAt.canLay_of_shaped shS)]
        refine iteF' rfl (nt_of (nx_of ?_))
        have sci := scf.trans (sg.trans sgi)
        have hmI := hmC.same sci
        refine ifs_of (test_of (op_of ?_))
        refine ⟨_, rfl, rfl, _, rfl, _, _, rfl, rfl, n + 1, rfl, by omega, by omega, fun q7 Hj nq7 sj hm7 => ?_⟩
        refine ⟨.ref m, .ref q7, some (n, n + 1), rfl, ⟨m, f, q7, _, rfl, rfl, hmI.same sj, hm7, (show n ≠ n + 1 by omega)⟩, fun q8 es8 Hk sk eq8 hl8 hes8 => ?_⟩
        refine ⟨_, rfl, _, rfl, _, _, rfl, rfl, two_le, fun q9 nq9 => ?_⟩
        have sq9 : Same Hk (upd Hk q9 (.lst [.int n, .int (n + 1)])) := Same.new nq9
        have eq9 : (upd Hk q9 (.lst [.int n, .int (n + 1)])) q9 = some (.lst [.int n, .int (n + 1)]) := upd_same
        generalize upd Hk q9 (.lst [.int n, .int (n + 1)]) = Hl at sq9 eq9
        refine ⟨one_le, fun q10 nq10 => ⟨q10, 5, _, rfl, rfl, upd_same, by decide, by decide, (show 5 ≤ sizeLine by decide), fun q11 nq11 => ?_⟩⟩
        have sq10 : Same Hl (upd Hl q10 (.lst [.ref q9])) := Same.new nq10
        generalize upd Hl q10 (.lst [.ref q9]) = Hm at sq10 nq11
        have sq11 : Same Hm (upd Hm q11 (.lst (List.replicate (5 : Int).toNat [V.ref q9]).flatten)) := Same.new nq11
        have eq11 : (upd Hm q11 (.lst (List.replicate (5 : Int).toNat [V.ref q9]).flatten)) q11 = some (.lst [.ref q9, .ref q9, .ref q9, .ref q9, .ref q9]) := upd_same
        generalize upd Hm q11 (.lst (List.replicate (5 : Int).toNat [V.ref q9]).flatten) = Ho at sq11 eq11
        have slo := sq10.trans sq11
        have sko := sq9.trans slo
        have dp9 : Dp K Ho (.ref q9) (entD (some (n, n + 1))) := .lst (SqL.of (slo _ _ eq9)) (dp_ints [n, n + 1])
        have shE : SeqAt.shaped (.list (List.replicate 5 (entD (some (n, n + 1))))) = true := by
          have h := shaped_rows (List.replicate 5 [n, n + 1])
          rw [List.map_replicate] at h; exact h
        refine ⟨.list (List.replicate 5 (entD (some (n, n + 1)))), .list (List.replicate 5 (entD (some (n, n + 1)))), .lst (SqL.of (sko _ _ eq8)) (by rw [← hl8]; exact Ent.dp fun z hz => (hes8 z hz).same sko), .lst (SqL.of eq11) (.cons dp9 (.cons dp9 (.cons dp9 (.cons dp9 (.cons dp9 .nil))))), shE, shE, _, rfl, ?_⟩
        rw [SeqAt.eqv_refl _ (SeqAt.canLay_of_shaped shE)]
        refine iteF' rfl (nt_of (nx_of ?_))
        exact ⟨_, _, _, _, _, _, _, _, _, _, _, _, _, _, _, rfl, sHc.trans (sci.trans (sj.trans (sk.trans sko)))⟩
end
end My
namespace My
open PySem L2
theorem walk {l : PySem.W.OpenLaw} {q : Program} {loose : List Str} {XP : (Str → Option Value) → Heap → Prop} {YP : World → Heap → Prop} {d : DefRec} {K : Params → PySem.W.Frag} (hn : l.most = some 63) (hdf : d.params.defaults = []) (hnm : d.name = "law")
    (hY : ∀ (w : World) (h : Heap), YP w h → (K w.params).In h)
    (ok : ∀ (P : Program) (w : World) (K : PySem.W.Frag) (mg : Str → Option Value) (base : Heap) (T : Txt K mg), U.FnG P w K mg base CX0 40 T.f_law (spLaw K))
    (F : ∀ (w : World) (mg : Str → Option Value) (h : Heap), (K w.params).In h → h.Ns mainGlobals mg → Nonempty (Txt (K w.params) mg)) :
    PySem.W.WalkO q loose XP YP l.row.toRowW d [] (fun f vs => PySem.call f vs) := by
  refine U.walkG (n := 63) (k := 40) (sp := spLaw) hn (by decide) hdf ⟨rfl, by decide, by decide⟩ hY ?_ (fun K H a ns hl hS => ⟨a, ns, rfl, hS, hl, fun _ => rfl⟩)
  intro w mg fa h KX G hmg base
  obtain ⟨T⟩ := F w mg h KX G
  rw [hnm, T.g_law] at hmg
  cases hmg
  exact ok _ _ _ _ _ T
end My
local macro_rules | `(tactic| first | refine $t:term | fail $s:str) => do { let t2 ← t.raw.replaceM fun n => (do { if n.getKind == `Lean.Parser.Term.syntheticHole then { let nm := n[1].getId.eraseMacroScopes; if nm == `hl then { return some (Lean.mkIdent `My.hl) } else { return none } } else { return none } }); `(tactic| refine $(⟨t2⟩)) }
open PySem PySem.W PyProof.Rows
set_option maxRecDepth 100000 in
set_option maxHeartbeats 0 in
theorem PySem.Challenge.cw_chainmaps_k29_greater_distances_holds : PySem.Challenge.rw_chainmaps_k29_greater_distances.Holds := by
  w_on; o_law; k_headL; (case hw => w_witness2)
  k_fill
  refine My.walk (l := PySem.Challenge.rw_chainmaps_k29_greater_distances) rfl rfl rfl (fun w h Y => PySem.W.kIn_of Y) (fun _ _ _ _ _ T => My.ok_law T) ?F
  case F =>
    intro w mg h KX G
    refine' My.mk_txt KX G ?a_is_integer ?l_is_integer ?c_is_integer ?k_is_integer ?a_in_range ?l_in_range ?c_in_range ?k_in_range ?a_check_size ?l_check_size ?c_check_size ?k_check_size ?a_are_arrows ?l_are_arrows ?c_are_arrows ?k_are_arrows ?a_common_size ?l_common_size ?c_common_size ?k_common_size ?a_row_from ?l_row_from ?c_row_from ?k_row_from ?a_check_map ?l_check_map ?c_check_map ?k_check_map ?a_check_maps ?l_check_maps ?c_check_maps ?k_check_maps ?a_factorial ?l_factorial ?c_factorial ?k_factorial ?a_power_of ?l_power_of ?c_power_of ?k_power_of ?a_parts_of ?l_parts_of ?c_parts_of ?k_parts_of ?a_is_step ?l_is_step ?c_is_step ?k_is_step ?a_first_invalid ?l_first_invalid ?c_first_invalid ?k_first_invalid ?a_after_list ?l_after_list ?c_after_list ?k_after_list ?a_applied ?l_applied ?c_applied ?k_applied ?a_link_of ?l_link_of ?c_link_of ?k_link_of ?a_parts_between ?l_parts_between ?c_parts_between ?k_parts_between ?a_distance ?l_distance ?c_distance ?k_distance ?a_forgotten ?l_forgotten ?c_forgotten ?k_forgotten ?a_swap_of ?l_swap_of ?c_swap_of ?k_swap_of ?a_steps ?l_steps ?c_steps ?k_steps ?a_is_making ?l_is_making ?c_is_making ?k_is_making ?a_next_steps ?l_next_steps ?c_next_steps ?k_next_steps ?a_count_shortest ?l_count_shortest ?c_count_shortest ?k_count_shortest ?a_l_hand ?l_l_hand ?c_l_hand ?k_l_hand ?a_l_draw ?l_l_draw ?c_l_draw ?k_l_draw ?a_l_arrows ?l_l_arrows ?c_l_arrows ?k_l_arrows ?a_l_parts ?l_l_parts ?c_l_parts ?k_l_parts ?a_l_due ?l_l_due ?c_l_due ?k_l_due ?a_l_bent ?l_l_bent ?c_l_bent ?k_l_bent ?a_l_leads ?l_l_leads ?c_l_leads ?k_l_leads ?a_l_refused ?l_l_refused ?c_l_refused ?k_l_refused ?a_l_nearer ?l_l_nearer ?c_l_nearer ?k_l_nearer ?a_law ?l_law ?c_law ?k_law ?a_Map ?pg_Map ?hd_Map ?po_Map ?sa_Map ?sf_Map ?ca_Map ?cn_Map ?ct_Map ?cm_Map ?kc_Map ?kit_int_Map ?kit_bool_Map ?kit_str_Map ?kit_tuple_Map ?kit_list_Map ?kn_NoneType_Map ?nf_NoneType_Map ?kn_int_Map ?nf_int_Map ?kn_bool_Map ?nf_bool_Map ?kn_str_Map ?nf_str_Map ?kn_list_Map ?nf_list_Map ?kn_dict_Map ?nf_dict_Map ?kn_tuple_Map ?nf_tuple_Map ?self_Map ?na_own_size_Map ?na_own_arrows_Map ?ne_Map ?m_Map__init ?i_Map__init ?l_Map__init ?c_Map__init ?k_Map__init ?mk_Map ?rd_Map ?ga_Map ?at_Map_empty ?rc_Map_empty ?fi_Map_empty ?l_Map_empty ?c_Map_empty ?k_Map_empty ?m_Map_size ?s_get_Map_size ?tk_Map_size ?rc_Map_size ?l_Map_size ?c_Map_size ?k_Map_size ?m_Map_arrows ?s_get_Map_arrows ?tk_Map_arrows ?rc_Map_arrows ?l_Map_arrows ?c_Map_arrows ?k_Map_arrows ?m_Map__eq ?i_Map__eq ?l_Map__eq ?c_Map__eq ?k_Map__eq ?m_Map__len ?i_Map__len ?l_Map__len ?c_Map__len ?k_Map__len ?a_InvalidMap ?xl_InvalidMap ?sa_InvalidMap ?ex_InvalidMap ?ty_InvalidMap ?kc_InvalidMap ?hd_InvalidMap ?ga_InvalidMap ?gg_InvalidMap ?ss_InvalidMap ?ca_InvalidMap ?cn_InvalidMap ?ct_InvalidMap ?cm_InvalidMap ?kit_ValueError_InvalidMap ?na_part_InvalidMap ?m_InvalidMap__init ?ti_InvalidMap__init ?l_InvalidMap__init ?c_InvalidMap__init ?k_InvalidMap__init ?a_SizeMismatch ?xl_SizeMismatch ?sa_SizeMismatch ?ex_SizeMismatch ?ty_SizeMismatch ?kc_SizeMismatch ?hd_SizeMismatch ?ga_SizeMismatch ?gg_SizeMismatch ?ss_SizeMismatch ?ca_SizeMismatch ?cn_SizeMismatch ?ct_SizeMismatch ?cm_SizeMismatch ?kit_ValueError_SizeMismatch ?te_InvalidMap_SizeMismatch ?na_first_SizeMismatch ?na_second_SizeMismatch ?m_SizeMismatch__init ?ti_SizeMismatch__init ?l_SizeMismatch__init ?c_SizeMismatch__init ?k_SizeMismatch__init ?a_InvalidSize ?xl_InvalidSize ?sa_InvalidSize ?ex_InvalidSize ?ty_InvalidSize ?kc_InvalidSize ?hd_InvalidSize ?ga_InvalidSize ?gg_InvalidSize ?ss_InvalidSize ?ca_InvalidSize ?cn_InvalidSize ?ct_InvalidSize ?cm_InvalidSize ?kit_ValueError_InvalidSize ?na_value_InvalidSize ?m_InvalidSize__init ?ti_InvalidSize__init ?l_InvalidSize__init ?c_InvalidSize__init ?k_InvalidSize__init ?a_InvalidSteps ?xl_InvalidSteps ?sa_InvalidSteps ?ex_InvalidSteps ?ty_InvalidSteps ?kc_InvalidSteps ?hd_InvalidSteps ?ga_InvalidSteps ?gg_InvalidSteps ?ss_InvalidSteps ?ca_InvalidSteps ?cn_InvalidSteps ?ct_InvalidSteps ?cm_InvalidSteps ?kit_ValueError_InvalidSteps ?na_position_InvalidSteps ?m_InvalidSteps__init ?ti_InvalidSteps__init ?l_InvalidSteps__init ?c_InvalidSteps__init ?k_InvalidSteps__init ?z_isinstance ?z_int ?z_bool ?z_dict ?z_len ?z_range ?z_list ?z_tuple ?z_str ?z_enumerate ?z_all ?z_max ?z_min ?z_sum ?z_repr ?z_ValueError ?v_MAX_SIZE
    (case a_is_integer => as_aux_lemma => k_is)
    (case l_is_integer => as_aux_lemma => k_is)
    (case c_is_integer => as_aux_lemma => k_is)
    (case k_is_integer => as_aux_lemma => k_is)
    (case a_in_range => as_aux_lemma => k_is)
    (case l_in_range => as_aux_lemma => k_is)
    (case c_in_range => as_aux_lemma => k_is)
    (case k_in_range => as_aux_lemma => k_is)
    (case a_check_size => as_aux_lemma => k_is)
    (case l_check_size => as_aux_lemma => k_is)
    (case c_check_size => as_aux_lemma => k_is)
    (case k_check_size => as_aux_lemma => k_is)
    (case a_are_arrows => as_aux_lemma => k_is)
    (case l_are_arrows => as_aux_lemma => k_is)
    (case c_are_arrows => as_aux_lemma => k_is)
    (case k_are_arrows => as_aux_lemma => k_is)
    (case a_common_size => as_aux_lemma => k_is)
    (case l_common_size => as_aux_lemma => k_is)
    (case c_common_size => as_aux_lemma => k_is)
    (case k_common_size => as_aux_lemma => k_is)
    (case a_row_from => as_aux_lemma => k_is)
    (case l_row_from => as_aux_lemma => k_is)
    (case c_row_from => as_aux_lemma => k_is)
    (case k_row_from => as_aux_lemma => k_is)
    (case a_check_map => as_aux_lemma => k_is)
    (case l_check_map => as_aux_lemma => k_is)
    (case c_check_map => as_aux_lemma => k_is)
    (case k_check_map => as_aux_lemma => k_is)
    (case a_check_maps => as_aux_lemma => k_is)
    (case l_check_maps => as_aux_lemma => k_is)
    (case c_check_maps => as_aux_lemma => k_is)
    (case k_check_maps => as_aux_lemma => k_is)
    (case a_factorial => as_aux_lemma => k_is)
    (case l_factorial => as_aux_lemma => k_is)
    (case c_factorial => as_aux_lemma => k_is)
    (case k_factorial => as_aux_lemma => k_is)
    (case a_power_of => as_aux_lemma => k_is)
    (case l_power_of => as_aux_lemma => k_is)
    (case c_power_of => as_aux_lemma => k_is)
    (case k_power_of => as_aux_lemma => k_is)
    (case a_parts_of => as_aux_lemma => k_is)
    (case l_parts_of => as_aux_lemma => k_is)
    (case c_parts_of => as_aux_lemma => k_is)
    (case k_parts_of => as_aux_lemma => k_is)
    (case a_is_step => as_aux_lemma => k_is)
    (case l_is_step => as_aux_lemma => k_is)
    (case c_is_step => as_aux_lemma => k_is)
    (case k_is_step => as_aux_lemma => k_is)
    (case a_first_invalid => as_aux_lemma => k_is)
    (case l_first_invalid => as_aux_lemma => k_is)
    (case c_first_invalid => as_aux_lemma => k_is)
    (case k_first_invalid => as_aux_lemma => k_is)
    (case a_after_list => as_aux_lemma => k_is)
    (case l_after_list => as_aux_lemma => k_is)
    (case c_after_list => as_aux_lemma => k_is)
    (case k_after_list => as_aux_lemma => k_is)
    (case a_applied => as_aux_lemma => k_is)
    (case l_applied => as_aux_lemma => k_is)
    (case c_applied => as_aux_lemma => k_is)
    (case k_applied => as_aux_lemma => k_is)
    (case a_link_of => as_aux_lemma => k_is)
    (case l_link_of => as_aux_lemma => k_is)
    (case c_link_of => as_aux_lemma => k_is)
    (case k_link_of => as_aux_lemma => k_is)
    (case a_parts_between => as_aux_lemma => k_is)
    (case l_parts_between => as_aux_lemma => k_is)
    (case c_parts_between => as_aux_lemma => k_is)
    (case k_parts_between => as_aux_lemma => k_is)
    (case a_distance => as_aux_lemma => k_is)
    (case l_distance => as_aux_lemma => k_is)
    (case c_distance => as_aux_lemma => k_is)
    (case k_distance => as_aux_lemma => k_is)
    (case a_forgotten => as_aux_lemma => k_is)
    (case l_forgotten => as_aux_lemma => k_is)
    (case c_forgotten => as_aux_lemma => k_is)
    (case k_forgotten => as_aux_lemma => k_is)
    (case a_swap_of => as_aux_lemma => k_is)
    (case l_swap_of => as_aux_lemma => k_is)
    (case c_swap_of => as_aux_lemma => k_is)
    (case k_swap_of => as_aux_lemma => k_is)
    (case a_steps => as_aux_lemma => k_is)
    (case l_steps => as_aux_lemma => k_is)
    (case c_steps => as_aux_lemma => k_is)
    (case k_steps => as_aux_lemma => k_is)
    (case a_is_making => as_aux_lemma => k_is)
    (case l_is_making => as_aux_lemma => k_is)
    (case c_is_making => as_aux_lemma => k_is)
    (case k_is_making => as_aux_lemma => k_is)
    (case a_next_steps => as_aux_lemma => k_is)
    (case l_next_steps => as_aux_lemma => k_is)
    (case c_next_steps => as_aux_lemma => k_is)
    (case k_next_steps => as_aux_lemma => k_is)
    (case a_count_shortest => as_aux_lemma => k_is)
    (case l_count_shortest => as_aux_lemma => k_is)
    (case c_count_shortest => as_aux_lemma => k_is)
    (case k_count_shortest => as_aux_lemma => k_is)
    (case a_l_hand => as_aux_lemma => k_is)
    (case l_l_hand => as_aux_lemma => k_is)
    (case c_l_hand => as_aux_lemma => k_is)
    (case k_l_hand => as_aux_lemma => k_is)
    (case a_l_draw => as_aux_lemma => k_is)
    (case l_l_draw => as_aux_lemma => k_is)
    (case c_l_draw => as_aux_lemma => k_is)
    (case k_l_draw => as_aux_lemma => k_is)
    (case a_l_arrows => as_aux_lemma => k_is)
    (case l_l_arrows => as_aux_lemma => k_is)
    (case c_l_arrows => as_aux_lemma => k_is)
    (case k_l_arrows => as_aux_lemma => k_is)
    (case a_l_parts => as_aux_lemma => k_is)
    (case l_l_parts => as_aux_lemma => k_is)
    (case c_l_parts => as_aux_lemma => k_is)
    (case k_l_parts => as_aux_lemma => k_is)
    (case a_l_due => as_aux_lemma => k_is)
    (case l_l_due => as_aux_lemma => k_is)
    (case c_l_due => as_aux_lemma => k_is)
    (case k_l_due => as_aux_lemma => k_is)
    (case a_l_bent => as_aux_lemma => k_is)
    (case l_l_bent => as_aux_lemma => k_is)
    (case c_l_bent => as_aux_lemma => k_is)
    (case k_l_bent => as_aux_lemma => k_is)
    (case a_l_leads => as_aux_lemma => k_is)
    (case l_l_leads => as_aux_lemma => k_is)
    (case c_l_leads => as_aux_lemma => k_is)
    (case k_l_leads => as_aux_lemma => k_is)
    (case a_l_refused => as_aux_lemma => k_is)
    (case l_l_refused => as_aux_lemma => k_is)
    (case c_l_refused => as_aux_lemma => k_is)
    (case k_l_refused => as_aux_lemma => k_is)
    (case a_l_nearer => as_aux_lemma => k_is)
    (case l_l_nearer => as_aux_lemma => k_is)
    (case c_l_nearer => as_aux_lemma => k_is)
    (case k_l_nearer => as_aux_lemma => k_is)
    (case a_law => as_aux_lemma => k_is)
    (case l_law => as_aux_lemma => k_is)
    (case c_law => as_aux_lemma => k_is)
    (case k_law => as_aux_lemma => k_is)
    (case a_Map => as_aux_lemma => k_is)
    (case pg_Map => as_aux_lemma => k_is)
    (case hd_Map => as_aux_lemma => k_is)
    (case po_Map => as_aux_lemma => k_is)
    (case sa_Map => as_aux_lemma => k_is)
    (case sf_Map => as_aux_lemma => k_is)
    (case ca_Map => as_aux_lemma => k_is)
    (case cn_Map => as_aux_lemma => k_is)
    (case ct_Map => as_aux_lemma => k_is)
    (case cm_Map => as_aux_lemma => k_is)
    (case kc_Map => as_aux_lemma => k_is)
    (case kit_int_Map => as_aux_lemma => kernel_rfl)
    (case kit_bool_Map => as_aux_lemma => kernel_rfl)
    (case kit_str_Map => as_aux_lemma => kernel_rfl)
    (case kit_tuple_Map => as_aux_lemma => kernel_rfl)
    (case kit_list_Map => as_aux_lemma => kernel_rfl)
    (case kn_NoneType_Map => as_aux_lemma => kernel_rfl)
    (case nf_NoneType_Map => as_aux_lemma => kernel_rfl)
    (case kn_int_Map => as_aux_lemma => kernel_rfl)
    (case nf_int_Map => as_aux_lemma => kernel_rfl)
    (case kn_bool_Map => as_aux_lemma => kernel_rfl)
    (case nf_bool_Map => as_aux_lemma => kernel_rfl)
    (case kn_str_Map => as_aux_lemma => kernel_rfl)
    (case nf_str_Map => as_aux_lemma => kernel_rfl)
    (case kn_list_Map => as_aux_lemma => kernel_rfl)
    (case nf_list_Map => as_aux_lemma => kernel_rfl)
    (case kn_dict_Map => as_aux_lemma => kernel_rfl)
    (case nf_dict_Map => as_aux_lemma => kernel_rfl)
    (case kn_tuple_Map => as_aux_lemma => kernel_rfl)
    (case nf_tuple_Map => as_aux_lemma => kernel_rfl)
    (case self_Map => as_aux_lemma => kernel_rfl)
    (case na_own_size_Map => as_aux_lemma => k_is)
    (case na_own_arrows_Map => as_aux_lemma => k_is)
    (case ne_Map => as_aux_lemma => k_is)
    (case m_Map__init => as_aux_lemma => k_is)
    (case i_Map__init => as_aux_lemma => k_is)
    (case l_Map__init => as_aux_lemma => k_is)
    (case c_Map__init => as_aux_lemma => k_is)
    (case k_Map__init => as_aux_lemma => k_is)
    (case mk_Map => as_aux_lemma => k_is)
    (case rd_Map => as_aux_lemma => k_is)
    (case ga_Map => as_aux_lemma => k_is)
    (case at_Map_empty => as_aux_lemma => k_is)
    (case rc_Map_empty => as_aux_lemma => k_is)
    (case fi_Map_empty => as_aux_lemma => k_is)
    (case l_Map_empty => as_aux_lemma => k_is)
    (case c_Map_empty => as_aux_lemma => k_is)
    (case k_Map_empty => as_aux_lemma => k_is)
    (case m_Map_size => as_aux_lemma => k_is)
    (case s_get_Map_size => as_aux_lemma => k_is)
    (case tk_Map_size => as_aux_lemma => k_is)
    (case rc_Map_size => as_aux_lemma => k_is)
    (case l_Map_size => as_aux_lemma => k_is)
    (case c_Map_size => as_aux_lemma => k_is)
    (case k_Map_size => as_aux_lemma => k_is)
    (case m_Map_arrows => as_aux_lemma => k_is)
    (case s_get_Map_arrows => as_aux_lemma => k_is)
    (case tk_Map_arrows => as_aux_lemma => k_is)
    (case rc_Map_arrows => as_aux_lemma => k_is)
    (case l_Map_arrows => as_aux_lemma => k_is)
    (case c_Map_arrows => as_aux_lemma => k_is)
    (case k_Map_arrows => as_aux_lemma => k_is)
    (case m_Map__eq => as_aux_lemma => k_is)
    (case i_Map__eq => as_aux_lemma => k_is)
    (case l_Map__eq => as_aux_lemma => k_is)
    (case c_Map__eq => as_aux_lemma => k_is)
    (case k_Map__eq => as_aux_lemma => k_is)
    (case m_Map__len => as_aux_lemma => k_is)
    (case i_Map__len => as_aux_lemma => k_is)
    (case l_Map__len => as_aux_lemma => k_is)
    (case c_Map__len => as_aux_lemma => k_is)
    (case k_Map__len => as_aux_lemma => k_is)
    (case a_InvalidMap => as_aux_lemma => k_is)
    (case xl_InvalidMap => as_aux_lemma => k_is)
    (case sa_InvalidMap => as_aux_lemma => k_is)
    (case ex_InvalidMap => as_aux_lemma => k_is)
    (case ty_InvalidMap => as_aux_lemma => k_is)
    (case kc_InvalidMap => as_aux_lemma => k_is)
    (case hd_InvalidMap => as_aux_lemma => k_is)
    (case ga_InvalidMap => as_aux_lemma => k_is)
    (case gg_InvalidMap => as_aux_lemma => k_is)
    (case ss_InvalidMap => as_aux_lemma => k_is)
    (case ca_InvalidMap => as_aux_lemma => k_is)
    (case cn_InvalidMap => as_aux_lemma => k_is)
    (case ct_InvalidMap => as_aux_lemma => k_is)
    (case cm_InvalidMap => as_aux_lemma => k_is)
    (case kit_ValueError_InvalidMap => as_aux_lemma => kernel_rfl)
    (case na_part_InvalidMap => as_aux_lemma => k_is)
    (case m_InvalidMap__init => as_aux_lemma => k_is)
    (case ti_InvalidMap__init => as_aux_lemma => k_is)
    (case l_InvalidMap__init => as_aux_lemma => k_is)
    (case c_InvalidMap__init => as_aux_lemma => k_is)
    (case k_InvalidMap__init => as_aux_lemma => k_is)
    (case a_SizeMismatch => as_aux_lemma => k_is)
    (case xl_SizeMismatch => as_aux_lemma => k_is)
    (case sa_SizeMismatch => as_aux_lemma => k_is)
    (case ex_SizeMismatch => as_aux_lemma => k_is)
    (case ty_SizeMismatch => as_aux_lemma => k_is)
    (case kc_SizeMismatch => as_aux_lemma => k_is)
    (case hd_SizeMismatch => as_aux_lemma => k_is)
    (case ga_SizeMismatch => as_aux_lemma => k_is)
    (case gg_SizeMismatch => as_aux_lemma => k_is)
    (case ss_SizeMismatch => as_aux_lemma => k_is)
    (case ca_SizeMismatch => as_aux_lemma => k_is)
    (case cn_SizeMismatch => as_aux_lemma => k_is)
    (case ct_SizeMismatch => as_aux_lemma => k_is)
    (case cm_SizeMismatch => as_aux_lemma => k_is)
    (case kit_ValueError_SizeMismatch => as_aux_lemma => kernel_rfl)
    (case te_InvalidMap_SizeMismatch => as_aux_lemma => k_is)
    (case na_first_SizeMismatch => as_aux_lemma => k_is)
    (case na_second_SizeMismatch => as_aux_lemma => k_is)
    (case m_SizeMismatch__init => as_aux_lemma => k_is)
    (case ti_SizeMismatch__init => as_aux_lemma => k_is)
    (case l_SizeMismatch__init => as_aux_lemma => k_is)
    (case c_SizeMismatch__init => as_aux_lemma => k_is)
    (case k_SizeMismatch__init => as_aux_lemma => k_is)
    (case a_InvalidSize => as_aux_lemma => k_is)
    (case xl_InvalidSize => as_aux_lemma => k_is)
    (case sa_InvalidSize => as_aux_lemma => k_is)
    (case ex_InvalidSize => as_aux_lemma => k_is)
    (case ty_InvalidSize => as_aux_lemma => k_is)
    (case kc_InvalidSize => as_aux_lemma => k_is)
    (case hd_InvalidSize => as_aux_lemma => k_is)
    (case ga_InvalidSize => as_aux_lemma => k_is)
    (case gg_InvalidSize => as_aux_lemma => k_is)
    (case ss_InvalidSize => as_aux_lemma => k_is)
    (case ca_InvalidSize => as_aux_lemma => k_is)
    (case cn_InvalidSize => as_aux_lemma => k_is)
    (case ct_InvalidSize => as_aux_lemma => k_is)
    (case cm_InvalidSize => as_aux_lemma => k_is)
    (case kit_ValueError_InvalidSize => as_aux_lemma => kernel_rfl)
    (case na_value_InvalidSize => as_aux_lemma => k_is)
    (case m_InvalidSize__init => as_aux_lemma => k_is)
    (case ti_InvalidSize__init => as_aux_lemma => k_is)
    (case l_InvalidSize__init => as_aux_lemma => k_is)
    (case c_InvalidSize__init => as_aux_lemma => k_is)
    (case k_InvalidSize__init => as_aux_lemma => k_is)
    (case a_InvalidSteps => as_aux_lemma => k_is)
    (case xl_InvalidSteps => as_aux_lemma => k_is)
    (case sa_InvalidSteps => as_aux_lemma => k_is)
    (case ex_InvalidSteps => as_aux_lemma => k_is)
    (case ty_InvalidSteps => as_aux_lemma => k_is)
    (case kc_InvalidSteps => as_aux_lemma => k_is)
    (case hd_InvalidSteps => as_aux_lemma => k_is)
    (case ga_InvalidSteps => as_aux_lemma => k_is)
    (case gg_InvalidSteps => as_aux_lemma => k_is)
    (case ss_InvalidSteps => as_aux_lemma => k_is)
    (case ca_InvalidSteps => as_aux_lemma => k_is)
    (case cn_InvalidSteps => as_aux_lemma => k_is)
    (case ct_InvalidSteps => as_aux_lemma => k_is)
    (case cm_InvalidSteps => as_aux_lemma => k_is)
    (case kit_ValueError_InvalidSteps => as_aux_lemma => kernel_rfl)
    (case na_position_InvalidSteps => as_aux_lemma => k_is)
    (case m_InvalidSteps__init => as_aux_lemma => k_is)
    (case ti_InvalidSteps__init => as_aux_lemma => k_is)
    (case l_InvalidSteps__init => as_aux_lemma => k_is)
    (case c_InvalidSteps__init => as_aux_lemma => k_is)
    (case k_InvalidSteps__init => as_aux_lemma => k_is)
    (case z_isinstance => as_aux_lemma => k_is)
    (case z_int => as_aux_lemma => k_is)
    (case z_bool => as_aux_lemma => k_is)
    (case z_dict => as_aux_lemma => k_is)
    (case z_len => as_aux_lemma => k_is)
    (case z_range => as_aux_lemma => k_is)
    (case z_list => as_aux_lemma => k_is)
    (case z_tuple => as_aux_lemma => k_is)
    (case z_str => as_aux_lemma => k_is)
    (case z_enumerate => as_aux_lemma => k_is)
    (case z_all => as_aux_lemma => k_is)
    (case z_max => as_aux_lemma => k_is)
    (case z_min => as_aux_lemma => k_is)
    (case z_sum => as_aux_lemma => k_is)
    (case z_repr => as_aux_lemma => k_is)
    (case z_ValueError => as_aux_lemma => k_is)
    (case v_MAX_SIZE => as_aux_lemma => k_is)
