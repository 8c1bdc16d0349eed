import PyProof.Rows.All
import Wide.All
import OpenK.AllK
import Wide.FinOn
import HandS.ForMost
import HandS.ForExc
import HandS.IsInst
import HandS.More
import HandS.SlotsOwn
import HandS.Property
import HandS.ClsMeth
import HandS.DictComp
import HandS.Conv
import HandS.Walk
import HandS.NoneIn
import HandS.CallLocal
import HandS.Star
import HandS.ExcInit
import HandS.ExcField
import HandS.ExcIs
import KE.KExcInit
import KE.KExcIs
import HandS.WordsExc
import HandS.ListItems
import HandS.Style
import HandS.TryMany
import HandS.RaiseMore
import HandS.FStr
import HandS.HotCalls
import KE.KItemsList
import KE.KOpsOwn
import HandS.OwnEq
import HandS.Lambda
import HandS.EndTab
import KE.KNestM
import HandS.Deep
import HandS.Nested
import KE.KSuper
import PySem.Challenge.RW_chainmaps_k12_powers_of_shapes
import HandS.SortInts
import HandS.Wide
import HandS.WideBits
import KE.OsRunLaw
set_option Elab.async false
set_option linter.all false
set_option maxRecDepth 100000
set_option maxHeartbeats 4000000
namespace PySem.W
open PySem PySem.Calls PyProof.Rows
section
variable {prog : Program} {w : World} {A : Around} {E : Value → Shared → Prop} {s : Shared} {K : Frag} {x C L f : Addr} {h₀ : Heap} {m : Str → Option Value} {ox : Obj} {od : Option Obj} {b tb : Value}
theorem my_ne_K {Q : Value → Shared → Prop} (hu : A.units + 1 < cLine) (F : Fr h₀ L s.heap m) (X₀ : K.In h₀) (I : InstAt s.heap x ox C od) (hb : Looks (model prog w) s.heap (typeOf b) tb) (hn : notFirst K C tb = true)
    (hne : findIn K (.ref C) "__ne__" = some (some (.builtin "object.__ne__"))) (hob : mroIn K C (.type "object") = some true)
    (hs : findIn K (.ref C) "__eq__" = some (some (.ref f))) (hf : isFn K (.ref f) = true)
    (h : wpAny (model prog w) A.in1 (call (.ref f) [.ref x, b]) (fun v s' => ∃ c, v = .bool c ∧ Q (.bool (!c)) s') E s) : wpAny (model prog w) A (richCompare .NotEq (.ref x) b) Q E s := by
  have X := X₀.keeps F.keep
  have one : wpAny (model prog w) A (tryCompare (.ref x) "__ne__" b) (fun r s' => ∃ v, r = some v ∧ Q v s') E s := by
    unfold tryCompare
    simp only [callSpecialIfBound?, bindSpecialIfBound?]
    have sub : Looks (model prog w) s.heap (isInstance (.ref x) (.type "object")) true := I.type.andThen (looks_mroIn X hob)
    have fin : wpAny (model prog w) A (call (.builtin "object.__ne__") ([.ref x] ++ [b]) >>= fun v => pure (some v)) (fun r s' => ∃ c, r = some (.bool c) ∧ Q (.bool c) s') E s := by
      refine wpAny_bind (wpAny_call (codeAny_call_builtin PySem.F.slot_tuple_iterator_ne.plain PySem.F.cmpEntry_ne ?_))
      refine @check_slot (model prog w) _ _ s "object.__ne__" "object" "__ne__" (.ref x) [b] [] _ PySem.F.cmpKind_ne PySem.F.cmpSplit_ne sub (PySem.F.cmpArgs_ne _ _) ?_
      unfold Builtin.«object.__ne__»
      refine wpAny_bind (wpAny_of_eq (a := ((Value.ref x : Value), [b])) (by first | rfl | (simp only [Builtin.slotArgs]; rfl)) ?_)
      refine wpAny_bind (wpAny_cRoomFor hu ?_)
      refine wpAny_bind (ifBound_K X I hs hf (wpAny_mono h (fun v s' hv => ?_) fun _ _ e => e))
      obtain ⟨c, rfl, q⟩ := hv
      refine wpAny_bind (wpAny_truthy_bool ?_)
      exact wpAny_pure (wpAny_pure ⟨_, rfl, q⟩)
    refine wpAny_bind (wpAny_holding (wpAny_bind (wpAny_bind (wpAny_bind (I.type.here ((looks_findIn X hne).here ?_))))))
    refine wpAny_bind (wpAny_askSetting (wpAny_ite ?_))
    split
    · rw [PySem.F.slot_tuple_iterator_ne.bind (.ref x)]
      exact wpAny_bind (wpAny_pure (wpAny_pure (wpAny_mono fin (fun r s' z => by obtain ⟨c, rfl, q⟩ := z; exact wpAny_pure ⟨_, rfl, q⟩) fun _ _ e => e)))
    · rw [PySem.F.slot_tuple_iterator_ne.bind (.ref x)]
      exact wpAny_tryCatch (wpAny_bind (wpAny_pure (wpAny_pure (wpAny_mono fin (fun r s' z => by obtain ⟨c, rfl, q⟩ := z; exact wpAny_pure ⟨_, rfl, q⟩) fun _ _ e => e))))
  unfold richCompare
  simp only [oneThing_ref]
  refine wpAny_holding (wpAny_bind (wpAny_cRoomFor (Nat.lt_of_succ_lt hu) ?_))
  refine wpAny_bind (I.type.here (wpAny_bind (hb.here ?_)))
  split
  · rename_i q
    have e : subIn K tb (.ref C) = some false := by
      rcases Bool.or_eq_true_iff.mp hn with e | e
      · rw [beq_iff_eq.mp e] at q; simp at q
      · exact beq_iff_eq.mp e
    refine wpAny_bind ((looks_subIn X e).here ?_)
    simp only [Bool.false_eq_true, if_false]
    refine wpAny_bind (wpAny_mono one (fun r s' z => ?_) fun _ _ e => e)
    obtain ⟨v, rfl, hq⟩ := z
    exact wpAny_pure hq
  · refine wpAny_bind (wpAny_pure ?_)
    simp only [Bool.false_eq_true, if_false]
    refine wpAny_bind (wpAny_mono one (fun r s' z => ?_) fun _ _ e => e)
    obtain ⟨v, rfl, hq⟩ := z
    exact wpAny_pure hq
end
end PySem.W
namespace U
open PySem PySem.Spec PyProof.Rows L2
/-- what is asked of a plain own class -/
structure OwnC (K : PySem.W.Frag) (C : Addr) : Prop where
  cl : Cls K C
  sf : PySem.W.selfFirst K C = true
  ca : PySem.W.findIn K (.ref C) "__class__" = some (some (.builtin "object.__class__"))
  cn : PySem.W.specialIn K (.builtin "object.__class__") "__get__" = some (some (.builtin "getset_descriptor.__get__"))
  ct : PySem.W.takesIn K (.builtin "object.__class__") = some true
  cm : PySem.W.mroIn K C (.type "object") = some true
section
variable {X : Cx} {CX : CXT} {pins : List (Addr × Obj)} {σ : L2.St} {H : Hp} {s : Shared} {a C dx p g : Addr} {f : Str} {n : Nat} {sp : Sp} {E : XK} {v : V} {u : Value}
theorem ins_inst (I : Inv X pins σ H s) {fs : List (Str × V)} (ea : H a = some (.ins C dx fs)) : ∃ ox od, PySem.W.InstAt s.heap a ox C (some od) := by
  obtain ⟨mA, O, _⟩ := ins_get I.hok ea
  obtain ⟨od, J, _⟩ := O.look
  exact ⟨_, od, J⟩
/-- x op y, both instances of C -/
def rBin (C : Addr) (sp : Sp) (E : XK) : R2 := fun x y H Q => ∃ a dx fs b dy gs, x = .ref a ∧ y = .ref b ∧ H a = some (.ins C dx fs) ∧ H b = some (.ins C dy gs) ∧ sp [x, y] H Q E
theorem op_bin {op : Operator} (hc : PySem.W.selfFirst X.K C = true) (hs : PySem.W.findIn X.K (.ref C) (PySem.dunder op.info.2) = some (some (.ref g))) (hf : PySem.W.isFn X.K (.ref g) = true) (F : FnR X.prog X.w X.K X.mg X.base CX n g sp)
    (hr : Room n X.A) (hx : Passes CX X E) : OpR X (binaryOp op) (rBin C sp E) := by
  intro pins s σ H x y v u Q I rx ry h
  obtain ⟨a, dx, vs, b, dy, ws, rfl, rfl, ha, hb, q⟩ := h
  cases (show v = Value.ref a from rx)
  cases (show u = Value.ref b from ry)
  obtain ⟨ox, od, J⟩ := ins_inst I ha
  obtain ⟨oy, od', J'⟩ := ins_inst I hb
  obtain ⟨m, hF⟩ := I.fr
  refine PySem.W.binop_K (op := op) hF I.ok.mod.kin J J'.type hc hs hf ?_
  refine wpAny_mono (wpAny_call (run_fnR (us := [.ref a, .ref b]) (vs := [.ref a, .ref b]) F hr hx I (.cons rfl (.cons rfl .nil)) q)) (fun w s' z => ?_) fun _ _ x => x
  obtain ⟨z', H', I', rz, qz⟩ := z
  exact SlX.cmpback rz ⟨z', H', I', rz, qz⟩
theorem notFirst_self (K : PySem.W.Frag) (C : Addr) : PySem.W.notFirst K C (.ref C) = true := by
  unfold PySem.W.notFirst; simp
theorem op_cmp {op : CmpOp} (hop : ∀ a b, compareOp op a b = richCompare op a b) (hs : PySem.W.findIn X.K (.ref C) (cmpInfo op).2.1 = some (some (.ref g))) (hf : PySem.W.isFn X.K (.ref g) = true) (F : FnR X.prog X.w X.K X.mg X.base CX n g sp)
    (hr : Room n X.A) (hx : Passes CX X E) : OpR X (compareOp op) (rBin C sp E) := by
  intro pins s σ H x y v u Q I rx ry h
  obtain ⟨a, dx, vs, b, dy, ws, rfl, rfl, ha, hb, q⟩ := h
  cases (show v = Value.ref a from rx)
  cases (show u = Value.ref b from ry)
  obtain ⟨ox, od, J⟩ := ins_inst I ha
  obtain ⟨oy, od', J'⟩ := ins_inst I hb
  obtain ⟨m, hF⟩ := I.fr
  rw [hop]
  refine PySem.W.cmp_K (op := op) (tb := .ref C) hr.units0 hF I.ok.mod.kin J J'.type (notFirst_self _ _) hs hf ?_
  refine wpAny_mono (wpAny_call (run_fnR (us := [.ref a, .ref b]) (vs := [.ref a, .ref b]) F hr hx I (.cons rfl (.cons rfl .nil)) q)) (fun w s' z => ?_) fun _ _ x => x
  obtain ⟨z', H', I', rz, qz⟩ := z
  exact SlX.cmpback rz ⟨z', H', I', rz, qz⟩
/-- x != y by the own __eq__ -/
def rNeO (C : Addr) (sp : Sp) (E : XK) : R2 := fun x y H Q => ∃ a dx fs b dy gs, x = .ref a ∧ y = .ref b ∧ H a = some (.ins C dx fs) ∧ H b = some (.ins C dy gs) ∧ sp [x, y] H (fun z H' => ∃ c, z = .bl c ∧ Q (.bl (!c)) H') E
theorem op_neO (oc : OwnC X.K C) (hne : PySem.W.findIn X.K (.ref C) "__ne__" = some (some (.builtin "object.__ne__"))) (hs : PySem.W.findIn X.K (.ref C) "__eq__" = some (some (.ref g))) (hf : PySem.W.isFn X.K (.ref g) = true) (F : FnR X.prog X.w X.K X.mg X.base CX n g sp)
    (hr : Room (n + 1) X.A) (hx : Passes CX X E) : OpR X (compareOp .NotEq) (rNeO C sp E) := by
  intro pins s σ H x y v u Q I rx ry h
  obtain ⟨a, dx, vs, b, dy, ws, rfl, rfl, ha, hb, q⟩ := h
  cases (show v = Value.ref a from rx)
  cases (show u = Value.ref b from ry)
  obtain ⟨ox, od, J⟩ := ins_inst I ha
  obtain ⟨oy, od', J'⟩ := ins_inst I hb
  obtain ⟨m, hF⟩ := I.fr
  have hr1 : Room n X.A.in1 := Room.in1 hr
  refine PySem.W.my_ne_K (tb := .ref C) (hu_of hr) hF I.ok.mod.kin J J'.type (notFirst_self _ _) hne oc.cm hs hf ?_
  refine wpAny_mono (wpAny_call (SlX.run_at (us := [.ref a, .ref b]) (ws := [.ref a, .ref b]) F hr1 I.env0.in1 hx I (.cons rfl (.cons rfl .nil)) q)) (fun w s' z => ?_) fun _ _ x => x
  obtain ⟨z', H', I', rz, c, ez, qz⟩ := z
  subst ez
  cases (show w = Value.bool c from rz)
  exact ⟨c, rfl, .bl (!c), H', I', rfl, qz⟩
end
end U
namespace U
open PySem PySem.Spec PyProof.Rows L2 StX
/-! ### a def of the text, with how its arguments bind -/
structure FnAt (K : PySem.W.Frag) (x qual : Str) (st : Stmt) (f : Addr) (ps : List Str) : Prop where
  ex : ∃ fd, Fun K x qual st f fd ∧ Binds K fd ps []
theorem FnAt.kp {K : PySem.W.Frag} {x qual : Str} {st : Stmt} {f : Addr} {ps : List Str} (A : FnAt K x qual st f ps) : PySem.W.keepIn K (.ref f) = true := by
  obtain ⟨fd, F, _⟩ := A.ex
  exact F.kp
section
variable {P : Program} {w : World} {K : PySem.W.Frag} {mg : Str → Option Value} {base : Heap}
theorem FnAt.ok {x qual : Str} {st : Stmt} {f : Addr} {N ps : List Str} {k : Nat} {sp : Sp} (A : FnAt K x qual st f ps) (S : FnScope N ps (defScope st)) (len : ∀ vs H Q E, sp vs H Q E → vs.length = ps.length)
    (hbody : ∀ (cdv : Value) (A : Around) (outer : List Env) (s : Shared) (H : Hp) (vs : List V) (Q : VK) (E : XK), Room k (A.deeper (envOfC qual (defScope st) s.heap.objs.size f cdv)) → sp vs H Q E →
      ∃ t, PSs (cxOf CX0 P w K mg base N qual (defScope st) f cdv A outer s H E).nox (defBody st) t ∧ t { nx := fun _ H' => Q .non H', rt := Q } (start N vs) H) : FnR P w K mg base CX0 (k + 1) f sp := by
  obtain ⟨fd, F, B⟩ := A.ex
  have R := (F.ok (P := P) (w := w) (mg := mg) (base := base) S len hbody).raw B .nil
  exact R.imp fun vs H Q E h => by rw [List.append_nil]; exact h
end
section
variable {X : Cx} {CX : CXT} {k i : Nat} {f C p g a dx : Addr} {sp : Sp} {E : XK} {x fl : Str} {e o : Expr} {es : List Expr} {ta te tf : TE} {t : TA} {pp pos : Pos} {fs : List (Str × V)}
/-- x(e, ..), x a def of the module -/
def tCallR (sp : Sp) (E : XK) (t : TA) : TE := fun σ H Q => t σ H fun vs H1 => sp vs H1 Q E
theorem pe_callR (F : FnR X.prog X.w X.K X.mg X.base CX k f sp) (hr : Room k X.A) (hk : PySem.W.keepIn X.K (.ref f) = true) (hg : Gl X x) (hm : X.mg x = some (.ref f)) (hx : Passes CX X E) (ha : PA X (e :: es) t) (hdb : (x == ("__debug__" : Str)) = false := by decide)
    (he : starEach (e :: es) X.env = (false, eval e X.env) :: starEach es X.env := by rfl) (hpl : (backTo pos (starEach es X.env)).any (·.1) = false := by rfl) : PE X (.Call (.Name x pp) (e :: es) [] pos) (tCallR sp E t) := by
  refine ⟨fun pins s σ H Q I h => ?_⟩
  refine wpAny_Call_Name_kw (ld_glob I hg hm ?_ hdb)
  refine PySem.W.callWith_K (h₀ := X.base) I.ok.mod.kin hk (thn (ha.run pos pins s σ H _ I h) fun us s1 ⟨vs, H1, I1, r, q⟩ => ⟨I1.kIn, ?_⟩) he hpl
  exact wpAny_call (run_fnR F hr hx I1 r q)
/-- e.f, a property -/
def tPropR (C : Addr) (sp : Sp) (ta : TE) : TE := fun σ H Q => ta σ H fun x H1 => ∃ a dx fs, x = .ref a ∧ H1 a = some (.ins C dx fs) ∧ sp [.ref a] H1 Q E0
theorem pe_propR (he : PE X e ta) (c : Cls X.K C) (hp : PropOf X.K C fl p g) (F : FnR X.prog X.w X.K X.mg X.base CX0 k g sp) (hr : Room (k + 1) X.A)
    (hab : attributeBase e fl X.env (eval e X.env) = eval e X.env := by rfl) : PE X (.Attribute e fl pos) (tPropR C sp ta) := by
  refine ⟨fun pins s σ H Q I h => ?_⟩
  refine attr_of hab (thn (he.run pins s σ H _ I h) fun u s1 ⟨x, H1, I1, rx, a, dx, fs, ex, ea, q⟩ => ?_)
  subst ex
  obtain rfl : u = Value.ref a := rx
  obtain ⟨mA, O, _, _, _, _⟩ := ins_get I1.hok ea
  obtain ⟨od, J, _⟩ := O.look
  obtain ⟨rest, hrec⟩ := hp.rec_
  have I2 := I1.tok (s1.toks + 1)
  have hc : (PySem.W.clsIn X.K C).isSome = true := by
    obtain ⟨cd, hc, _⟩ := PySem.W.any_some c.hd
    rw [hc]
    rfl
  refine PySem.W.get_bind I1.kIn J (PySem.W.plainGet_of (c.get fl)).1 (PySem.W.findObj_data hc hp.at_ hp.get hp.tak) (PySem.W.plainGet_of (c.get fl)).2 (wpAny_call (PySem.W.prop_get (s := { s1 with toks := s1.toks + 1 }) I1.kIn hrec ?_))
  refine codeAny_mono (F X.A.in1 X.stack { s1 with toks := s1.toks + 1 } H1 [.ref a] [.ref a] Q E0 hr.in1 I2.env0.in1 (.cons rfl .nil) q) fun r s' hq => ?_
  cases r with
  | error er => exact False.elim hq
  | ok fl =>
    cases fl with
    | ret u =>
      obtain ⟨v, H', I3, rv, q3⟩ := I2.after hq
      show wpAny _ _ (handedOut u) _ _ _
      rw [PySem.W.handedOut_of (handed_of rv)]
      exact wpAny_pure ⟨v, H', I3, rv, q3⟩
    | next => exact False.elim hq
    | brk => exact False.elim hq
    | cont => exact False.elim hq
/-- x(..), x a local that holds the class at C -/
def tMakeL (i : Nat) (C : Addr) (sp : Sp) (E : XK) (t : TA) : TE := fun σ H Q => σ[i]? = some (some (.ref C)) ∧ tMakeR C sp E t σ H Q
theorem pe_makeL (M : Mk X.K C f) (F : FnR X.prog X.w X.K X.mg X.base CX k f sp) (hr : Room (k + 1) X.A) (hN : X.N[i]? = some x) (hv : Vis X.env.scope x) (hx : Passes CX X E) (ha : PA X (e :: es) t) (hdb : (x == ("__debug__" : Str)) = false := by decide)
    (hcd : (x == ("__classdict__" : Str)) = false := by decide)
    (he : starEach (e :: es) X.env = (false, eval e X.env) :: starEach es X.env := by rfl) (hpl : (backTo pos (starEach es X.env)).any (·.1) = false := by rfl) : PE X (.Call (.Name x pp) (e :: es) [] pos) (tMakeL i C sp E t) := by
  refine ⟨fun pins s σ H Q I h => ?_⟩
  obtain ⟨hs, ht⟩ := h
  refine wpAny_Call_Name_kw (thn ((pe_var (pos := pp) hN hv hdb hcd).run pins s σ H (fun v H1 => v = .ref C ∧ H1 = H) I ⟨.ref C, hs, rfl, rfl⟩) fun u s1 ⟨v, H1, I1, r1, q1⟩ => ?_)
  obtain ⟨rfl, rfl⟩ := q1
  cases r1
  refine PySem.W.callWith_K (h₀ := X.base) I.ok.mod.kin M.kp (thn (ha.run pos pins s1 σ _ _ I1 ht) fun us s2 ⟨vs, H2, I2, r, q⟩ => ⟨I2.kIn, ?_⟩) he hpl
  exact run_makeR M F hr hx I2 r q
end
theorem ifD {c : Prop} [Decidable c] {A B : Prop} (h1 : c → A) (h2 : ¬ c → B) : if decide c = true then A else B := by
  by_cases h : c
  · rw [if_pos (decide_eq_true h)]; exact h1 h
  · rw [if_neg (by simp [h])]; exact h2 h
theorem ifN {c : Prop} [Decidable c] {A B : Prop} (h1 : ¬ c → A) (h2 : c → B) : if (!decide c) = true then A else B := by
  by_cases h : c
  · rw [if_neg (by simp [h])]; exact h2 h
  · rw [if_pos (by simp [h])]; exact h1 h
theorem ifB {c : Bool} {A B : Prop} (h1 : c = true → A) (h2 : c = false → B) : if c = true then A else B := by
  cases c with
  | true => rw [if_pos rfl]; exact h1 rfl
  | false => rw [if_neg Bool.false_ne_true]; exact h2 rfl
theorem ifNB {c : Bool} {A B : Prop} (h1 : c = false → A) (h2 : c = true → B) : if (!c) = true then A else B := by
  cases c with
  | true => exact iteF (h2 rfl)
  | false => exact iteT (h1 rfl)
end U
namespace U
open PySem PySem.Spec PyProof.Rows L2
/-- the ints' dicts compared -/
def dEq (ks ls : List (Key × V)) : Bool := ks.length == ls.length && ks.all fun p => decide (valV ls p.1 = some p.2)
def IntVals (ks : List (Key × V)) : Prop := ∀ p ∈ ks, ∃ i : Int, p.2 = .int i
theorem valV_mem {ls : List (Key × V)} {k : Key} {v : V} (h : valV ls k = some v) : ∃ p ∈ ls, p.2 = v := by
  unfold valV at h
  cases e : ls.find? (fun kv => decide (kv.1 = k)) with
  | none => rw [e] at h; cases h
  | some p =>
    rw [e] at h
    exact ⟨p, List.mem_of_find?_eq_some e, Option.some.inj h⟩
theorem hits_int {A : Around} {s : Shared} {ls : List (Key × V)} {vb : List (Key × Value)} (rb : KV ls vb) (il : IntVals ls) {ks : List (Key × V)} {va : List (Key × Value)} (ra : KV ks va) :
    IntVals ks → PySem.W.KeqHits A s vb va (ks.all fun p => decide (valV ls p.1 = some p.2)) := by
  unfold KV at ra
  induction ra with
  | nil => intro _; exact .nil
  | @cons p q ps qs h t ih =>
    intro hp
    obtain ⟨h1, h2⟩ := h
    obtain ⟨i, ei⟩ := hp p List.mem_cons_self
    obtain ⟨k, v⟩ := q
    have h1' : p.1 = k := h1
    subst h1'
    rw [ei] at h2
    obtain ⟨tk, ev⟩ := (show ∃ tk, v = Value.int i tk from h2)
    subst ev
    have rr : RelO (valV ls p.1) (valueAt vb p.1) := rb.val p.1
    rw [List.all_cons]
    cases e : valV ls p.1 with
    | none =>
      rw [e] at rr
      cases e2 : valueAt vb p.1 with
      | none => exact .miss e2
      | some y => rw [e2] at rr; exact rr.elim
    | some z =>
      rw [e] at rr
      obtain ⟨y, hy, ry⟩ := rr.some_of
      obtain ⟨p', hm, ep⟩ := valV_mem e
      obtain ⟨j, ej⟩ := il p' hm
      rw [ej] at ep
      subst ep
      obtain ⟨tk', ey⟩ := (show ∃ tk, y = Value.int j tk from ry)
      subst ey
      have b : decide (some (V.int j) = some p.2) = (i == j) := by
        rw [ei]
        by_cases h : i = j
        · subst h; simp
        · have h' : ¬ j = i := fun z => h z.symm
          simp [h, h']
      rw [b]
      exact .hit hy (SeqAt.EqAt.int_int i _ j _) (ih fun p' hm => hp p' (List.mem_cons_of_mem _ hm))
section
variable {X : Cx}
def rEqD : R2 := fun x y H Q => ∃ a b ks ls, x = .ref a ∧ y = .ref b ∧ H a = some (.dK ks) ∧ H b = some (.dK ls) ∧ IntVals ks ∧ IntVals ls ∧ Q (.bl (dEq ks ls)) H
theorem op_eqDI (hu : X.A.units < cLine) : OpR X (compareOp .Eq) rEqD := by
  intro pins s σ H x y v u Q I rx ry h
  obtain ⟨a, b, ks, ls, rfl, rfl, ea, eb, i1, i2, q⟩ := h
  cases (show v = Value.ref a from rx)
  cases (show u = Value.ref b from ry)
  obtain ⟨_, ya, va, ra, da⟩ := (show ObjOk X.prog X.w H s.heap a (.dK ks) from I.hok a _ ea)
  obtain ⟨_, yb, vb, rb, db⟩ := (show ObjOk X.prog X.w H s.heap b (.dK ls) from I.hok b _ eb)
  refine PySem.W.keq_eq (knd := mixKind X.prog X.w) ya yb da db hu (fun _ => hits_int rb i2 ra i1) (fin_bl I q ?_)
  unfold dEq
  rw [ra.length, rb.length]
end
end U
namespace U
open PySem PySem.Spec PyProof.Rows L2
/-! ### heaps -/
def Off (d : Addr) (H H' : Hp) : Prop := ∀ b o, b ≠ d → H b = some o → H' b = some o
theorem Same.new {H : Hp} {p : Addr} {o : HO} (h : H p = none) : L2.Same H (upd H p o) := fun b u e => by rw [upd_ne (ne_of_none e h)]; exact e
theorem Off.tr {d : Addr} {H H1 H2 : Hp} (a : Off d H H1) (b : Off d H1 H2) : Off d H H2 := fun c o hc e => b c o hc (a c o hc e)
theorem Off.lock {d : Addr} {H : Hp} {o : HO} : Off d H (upd H d o) := fun b u hb e => by rw [upd_ne hb]; exact e
theorem Off.new {d p : Addr} {H : Hp} {o : HO} (h : H p = none) : Off d H (upd H p o) := fun b u _ e => by rw [upd_ne (ne_of_none e h)]; exact e
theorem Off.free {d p : Addr} {H H' : Hp} {u : HO} (a : Off d H H') (hd : H' d = some u) (h : H' p = none) : H p = none := by
  cases e : H p with
  | none => rfl
  | some o =>
    by_cases hp : p = d
    · subst hp; rw [hd] at h; cases h
    · rw [a p o hp e] at h; cases h
theorem Off.back {d : Addr} {H H' : Hp} {u : HO} (a : Off d H H') (hd : H d = some u) : L2.Same H (upd H' d u) := fun b o e => by
  by_cases hb : b = d
  · subst hb; rw [hd] at e; cases e; exact upd_same
  · rw [upd_ne hb]; exact a b o hb e
/-- an object of the heap behind, that was not there ahead, may be changed -/
theorem Off.mut {d p : Addr} {H H' : Hp} {o : HO} (a : Off d H H') (h : H p = none) : Off d H (upd H' p o) := fun b u hb e => by rw [upd_ne (ne_of_none e h)]; exact a b u hb e
/-! ### a dict of ints -/
def kvI (l : List (Int × Int)) : List (Key × V) := l.map fun p => (Sum.inl p.1, V.int p.2)
theorem kvI_length (l : List (Int × Int)) : (kvI l).length = l.length := by simp [kvI]
theorem kvI_get {l : List (Int × Int)} {i : Nat} {k : Key} {v : V} (h : (kvI l)[i]? = some (k, v)) : ∃ x y, l[i]? = some (x, y) ∧ k = .inl x ∧ v = .int y := by
  unfold kvI at h
  rw [List.getElem?_map] at h
  cases e : l[i]? with
  | none => rw [e] at h; cases h
  | some p =>
    rw [e] at h
    obtain ⟨x, y⟩ := p
    cases h
    exact ⟨x, y, rfl, rfl, rfl⟩
def lk (l : List (Int × Int)) (x : Int) : Option Int := (l.find? fun p => decide (p.1 = x)).map (·.2)
theorem valV_kvI (l : List (Int × Int)) (x : Int) : valV (kvI l) (Sum.inl x : Key) = (lk l x).map V.int := by
  induction l with
  | nil => rfl
  | cons p r ih =>
    obtain ⟨a, b⟩ := p
    by_cases h : a = x
    · subst h
      rw [show kvI ((a, b) :: r) = (Sum.inl a, V.int b) :: kvI r from rfl, valV_pos rfl]
      simp [lk]
    · rw [show kvI ((a, b) :: r) = (Sum.inl a, V.int b) :: kvI r from rfl, valV_neg (fun z => h (Sum.inl.inj z)), ih]
      simp [lk, h]
theorem lk_none {l : List (Int × Int)} {x : Int} (h : x ∉ l.map (·.1)) : lk l x = none := by
  unfold lk
  rw [List.find?_eq_none.mpr]
  · rfl
  · intro p hp
    simp only [decide_eq_true_eq]
    exact fun e => h (List.mem_map.mpr ⟨p, hp, e⟩)
theorem lk_some {l : List (Int × Int)} (nd : (l.map (·.1)).Nodup) {x y : Int} (h : (x, y) ∈ l) : lk l x = some y := by
  induction l with
  | nil => cases h
  | cons p r ih =>
    obtain ⟨a, b⟩ := p
    rw [List.map_cons, List.nodup_cons] at nd
    rcases List.mem_cons.mp h with h | h
    · cases h; simp [lk]
    · have ne : ¬ a = x := fun z => nd.1 (by rw [z]; exact List.mem_map.mpr ⟨(x, y), h, rfl⟩)
      have := ih nd.2 h
      simpa [lk, ne] using this
theorem lk_mem {l : List (Int × Int)} {x y : Int} (h : lk l x = some y) : (x, y) ∈ l := by
  unfold lk at h
  cases e : l.find? (fun p => decide (p.1 = x)) with
  | none => rw [e] at h; cases h
  | some p =>
    rw [e] at h
    obtain ⟨a, b⟩ := p
    have h1 := List.find?_some e
    simp only [decide_eq_true_eq] at h1
    have h2 : b = y := Option.some.inj h
    subst h1 h2
    exact List.mem_of_find?_eq_some e
theorem intVals_kvI (l : List (Int × Int)) : IntVals (kvI l) := by
  intro p hp
  unfold kvI at hp
  obtain ⟨q, _, rfl⟩ := List.mem_map.mp hp
  exact ⟨q.2, rfl⟩
theorem putK_kvI {l : List (Int × Int)} {x y : Int} (h : x ∉ l.map (·.1)) : putK (kvI l) (Sum.inl x : Key) (V.int y) = kvI (l ++ [(x, y)]) := by
  have e : valV (kvI l) (Sum.inl x : Key) = none := by rw [valV_kvI, lk_none h]; rfl
  rw [putK_new _ e]
  simp [kvI]
theorem lk_append {l r : List (Int × Int)} {x : Int} : lk (l ++ r) x = (lk l x).or (lk r x) := by
  unfold lk
  rw [List.find?_append]
  cases l.find? (fun p => decide (p.1 = x)) <;> rfl
theorem lk_cons (a b : Int) (r : List (Int × Int)) (z : Int) : lk ((a, b) :: r) z = if a = z then some b else lk r z := by
  by_cases h : a = z <;> simp [lk, h]
theorem lk_mapOff (r : List (Int × Int)) (x y z : Int) (hz : ¬ z = x) : lk (r.map fun p => if p.1 = x then (p.1, y) else p) z = lk r z := by
  induction r with
  | nil => rfl
  | cons p r ih =>
    obtain ⟨a, b⟩ := p
    rw [List.map_cons]
    by_cases ha : a = x
    · subst ha
      have hz' : ¬ a = z := fun q => hz q.symm
      rw [if_pos rfl, lk_cons, lk_cons, if_neg hz', if_neg hz', ih]
    · rw [if_neg ha, lk_cons, lk_cons, ih]
theorem lk_mapPut {x y : Int} : ∀ (l : List (Int × Int)), x ∈ l.map (·.1) → ∀ z, lk (l.map fun p => if p.1 = x then (p.1, y) else p) z = if z = x then some y else lk l z
  | [], h, z => by cases h
  | (a, b) :: r, h, z => by
    by_cases hz : z = x
    · subst hz
      rw [if_pos rfl, List.map_cons]
      by_cases ha : a = z
      · subst ha
        rw [if_pos rfl, lk_cons, if_pos rfl]
      · rw [if_neg ha, lk_cons, if_neg ha]
        have h' : z ∈ r.map (·.1) := by
          rcases List.mem_cons.mp h with q | q
          · exact absurd q.symm ha
          · exact q
        rw [lk_mapPut r h' z, if_pos rfl]
    · rw [if_neg hz, lk_mapOff _ _ _ _ hz]
theorem putK_lk {l : List (Int × Int)} {x y : Int} : ∃ l', putK (kvI l) (Sum.inl x : Key) (V.int y) = kvI l' ∧ l'.length ≤ l.length + 1 ∧ ((l.map (·.1)).Nodup → (l'.map (·.1)).Nodup) ∧ ∀ z, lk l' z = if z = x then some y else lk l z := by
  by_cases h : x ∈ l.map (·.1)
  · refine ⟨l.map fun p => if p.1 = x then (p.1, y) else p, ?_, by simp, fun nd => ?_, fun z => ?_⟩
    · unfold putK
      rw [if_pos (by
        obtain ⟨p, hp, e⟩ := List.mem_map.mp h
        rw [List.any_eq_true]
        exact ⟨(Sum.inl p.1, V.int p.2), List.mem_map.mpr ⟨p, hp, rfl⟩, by simp [e]⟩)]
      unfold kvI
      rw [List.map_map, List.map_map]
      refine List.map_congr_left fun p _ => ?_
      by_cases e : p.1 = x
      · simp [e]
      · have e' : ¬ (Sum.inl p.1 : Key) = Sum.inl x := fun q => e (Sum.inl.inj q)
        simp [e]
    · have e : (l.map fun p => if p.1 = x then (p.1, y) else p).map (·.1) = l.map (·.1) := by
        rw [List.map_map]
        refine List.map_congr_left fun p _ => ?_
        by_cases e : p.1 = x <;> simp [e]
      rw [e]; exact nd
    · exact lk_mapPut l h z
  · refine ⟨l ++ [(x, y)], putK_kvI h, by simp, fun nd => ?_, fun z => ?_⟩
    · rw [List.map_append, List.nodup_append]
      refine ⟨nd, by simp, fun a ha b hb e => ?_⟩
      simp at hb
      subst hb
      exact h (e ▸ ha)
    · rw [lk_append]
      by_cases hz : z = x
      · subst hz; rw [lk_none h]; simp [lk]
      · have hz' : ¬ x = z := fun q => hz q.symm
        cases lk l z <;> simp [lk, hz, hz']
end U
namespace U
open PySem PySem.Spec PyProof.Rows L2
section
variable {J : It} {n : Nat} {G : Hp → Prop} {Y : Nat → Hp → V → Hp → Prop}
/-- a dict comprehension over a walk -/
theorem dc_it (w : Walk J n G Y) {g : TG} {tt : TT} {tk tv : TE} {vs : List Nat} {σ : L2.St} {H1 : Hp} {D : Addr} {Qd : Hp → Prop} (Pv : Nat → Hp → Prop) (h0 : Pv 0 (upd H1 D (.dK []))) (hG : ∀ i H, i ≤ n → Pv i H → G H)
    (hs : ∀ i x H H', i < n → Pv i H → Y i H x H' → g x (wipe σ vs) H' fun σ2 H2 => wipe σ2 vs = wipe σ vs ∧ tt σ2 H2 fun b H3 =>
      if b = true then tk σ2 H3 fun y H4 => tv σ2 H4 fun z H5 => ∃ kvs k, y = kV k ∧ H5 D = some (.dK kvs) ∧ kvs.length < sizeLine ∧ Pv (i + 1) (upd H5 D (.dK (putK kvs k z))) else Pv (i + 1) H3) (hd : ∀ H, Pv n H → Qd H) :
    ∃ W : Nat → Nat → Hp → Prop, (∃ m, W 0 m (upd H1 D (.dK []))) ∧ ∀ i m H, W i m H →
      (J.stop i H ∧ Qd H) ∨ (J.go i H ∧ ∃ Nx : Hp → Prop, (∀ H', Nx H' → ∃ m', m' < m ∧ W (i + 1) m' H') ∧ ∀ x H', J.yld i H x H' → g x (wipe σ vs) H' fun σ2 H2 => wipe σ2 vs = wipe σ vs ∧ tt σ2 H2 fun b H3 =>
        if b = true then tk σ2 H3 fun y H4 => tv σ2 H4 fun z H5 => ∃ kvs k, y = kV k ∧ H5 D = some (.dK kvs) ∧ kvs.length < sizeLine ∧ Nx (upd H5 D (.dK (putK kvs k z))) else Nx H3) := by
  refine ⟨fun i m H => m = n - i ∧ i ≤ n ∧ Pv i H, ⟨n, by simp, Nat.zero_le _, h0⟩, ?_⟩
  rintro i m H ⟨rfl, hi, p⟩
  have q := hG i H hi p
  by_cases hlt : i < n
  · exact .inr ⟨w.goes i H hlt q, Pv (i + 1), fun H' p' => ⟨n - (i + 1), by omega, rfl, hlt, p'⟩, fun x H' y => hs i x H H' hlt p (w.yields i H x H' hlt q y)⟩
  · have e : i = n := by omega
    subst e
    exact .inl ⟨w.stops H q, hd H p⟩
end
/-- what a comprehension over pairs makes -/
def madeD (c : Int → Int → Bool) (kf : Int → Int → Int) (vf : Int → Int → V) (l : List (Int × Int)) : List (Key × V) := (l.filter fun p => c p.1 p.2).map fun p => (Sum.inl (kf p.1 p.2), vf p.1 p.2)
theorem take_more {α : Type} {l : List α} {i : Nat} {x : α} (h : l[i]? = some x) : l.take (i + 1) = l.take i ++ [x] := by
  rw [List.take_add_one, h]; rfl
theorem valV_none {kvs : List (Key × V)} {k : Key} (h : k ∉ kvs.map (·.1)) : valV kvs k = none := by
  unfold valV
  rw [List.find?_eq_none.mpr]
  · rfl
  · intro p hp
    simp only [decide_eq_true_eq]
    exact fun e => h (List.mem_map.mpr ⟨p, hp, e⟩)
theorem madeD_step {c : Int → Int → Bool} {kf : Int → Int → Int} {vf : Int → Int → V} {l : List (Int × Int)} {i : Nat} {x y : Int} (h : l[i]? = some (x, y)) (nd : ((madeD c kf vf l).map (·.1)).Nodup) (hc : c x y = true) :
    putK (madeD c kf vf (l.take i)) (Sum.inl (kf x y)) (vf x y) = madeD c kf vf (l.take (i + 1)) := by
  have e : madeD c kf vf (l.take (i + 1)) = madeD c kf vf (l.take i) ++ [(Sum.inl (kf x y), vf x y)] := by
    rw [take_more h]
    unfold madeD
    rw [List.filter_append, List.map_append]
    simp [hc]
  have e2 : madeD c kf vf l = madeD c kf vf (l.take (i + 1)) ++ madeD c kf vf (l.drop (i + 1)) := by
    unfold madeD
    rw [← List.map_append, ← List.filter_append, List.take_append_drop]
  rw [e2, e, List.map_append, List.map_append] at nd
  have nd1 := (List.nodup_append.mp nd).1
  have nin : (Sum.inl (kf x y) : Key) ∉ (madeD c kf vf (l.take i)).map (·.1) := by
    intro hm
    exact (List.nodup_append.mp nd1).2.2 _ hm _ (by simp) rfl
  rw [putK_new _ (valV_none nin), e]
theorem madeD_skip {c : Int → Int → Bool} {kf : Int → Int → Int} {vf : Int → Int → V} {l : List (Int × Int)} {i : Nat} {x y : Int} (h : l[i]? = some (x, y)) (hc : c x y = false) :
    madeD c kf vf (l.take (i + 1)) = madeD c kf vf (l.take i) := by
  rw [take_more h]
  unfold madeD
  rw [List.filter_append, List.map_append]
  simp [hc]
theorem madeD_len (c : Int → Int → Bool) (kf : Int → Int → Int) (vf : Int → Int → V) (l : List (Int × Int)) (i : Nat) : (madeD c kf vf (l.take i)).length ≤ l.length := by
  unfold madeD
  rw [List.length_map]
  exact Nat.le_trans (List.length_filter_le _ _) (by rw [List.length_take]; omega)
/-- {k: v for x, y in d.items() if ..}, the tests and parts reading alone -/
theorem dc_items {K : PySem.W.Frag} {d : Addr} {l : List (Int × Int)} {te : TE} {i j : Nat} {tt : TT} {tk tv : TE} {vs : List Nat} {σ : L2.St} {H : Hp} {Q : VK} (c : Int → Int → Bool) (kf : Int → Int → Int) (vf : Int → Int → V)
    (hd : H d = some (.dK (kvI l))) (hte : ∀ H' (R : VK), R (.ref d) H' → Off d H H' → te σ H' R)
    (hw : ∀ a b, wipe (((wipe σ vs).set i a).set j b) vs = wipe σ vs)
    (hb : ∀ x y, (x, y) ∈ l → ∀ H1, Off d H H1 → (∀ R : Bool → Hp → Prop, R (c x y) H1 → tt (((wipe σ vs).set i (some (.int x))).set j (some (.int y))) H1 R) ∧
      (c x y = true → (∀ R : VK, R (.int (kf x y)) H1 → tk (((wipe σ vs).set i (some (.int x))).set j (some (.int y))) H1 R) ∧ ∀ R : VK, R (vf x y) H1 → tv (((wipe σ vs).set i (some (.int x))).set j (some (.int y))) H1 R))
    (nd : ((madeD c kf vf l).map (·.1)).Nodup) (hz : l.length < sizeLine)
    (hq : ∀ D H', H D = none → H' D = some (.dK (madeD c kf vf l)) → L2.Same H H' → Q (.ref D) H') :
    tLockE (tDc (iItems te) (gTup K 2 (gCons (gName i) (gCons (gName j) gNil))) tt tk tv vs) σ H Q := by
  refine ⟨d, _, hd, trivial, fun od => ?_⟩
  refine hte _ _ ⟨d, od, kvI l, rfl, upd_same, fun D hD => ?_⟩ Off.lock
  have hDd : D ≠ d := fun e => by rw [e, upd_same] at hD; cases hD
  have hD0 : H D = none := by rw [upd_ne hDd] at hD; exact hD
  refine dc_it walk_items (fun k H' => H' d = some (.frz od (.dK (kvI l))) ∧ Off d H H' ∧ H' D = some (.dK (madeD c kf vf (l.take k)))) ⟨?_, Off.lock.mut hD0, upd_same⟩ (fun k H' _ p => p.1) ?_ ?_
  · rw [upd_ne hDd.symm]; exact upd_same
  · rintro k v H' H'' hk ⟨p1, p2, p3⟩ ⟨T, a, b, rfl, hT, rfl, e1, e2⟩
    rw [kvI_length] at hk
    obtain ⟨⟨x, y⟩, exy⟩ : ∃ p, l[k]? = some p := ⟨_, List.getElem?_eq_getElem hk⟩
    have ek : (kvI l)[k]? = some (Sum.inl x, V.int y) := by unfold kvI; rw [List.getElem?_map, exy]; rfl
    dsimp only at e1 e2
    rw [ek] at e1 e2
    cases e1; cases e2
    have nTd : d ≠ T := ne_of_none p1 hT
    have nTD : D ≠ T := ne_of_none p3 hT
    refine ⟨T, [.int x, .int y], rfl, SqT.of upd_same, rfl, .int x, [.int y], rfl, .int y, [], rfl, rfl, ?_⟩
    refine ⟨hw _ _, ?_⟩
    have o2 : Off d H (upd H' T (.tup [.int x, .int y])) := p2.tr (Off.new hT)
    obtain ⟨b1, b2⟩ := hb x y (List.mem_of_getElem? exy) _ o2
    refine b1 _ ?_
    have d3 : (upd H' T (.tup [.int x, .int y])) d = some (.frz od (.dK (kvI l))) := by rw [upd_ne nTd]; exact p1
    have D3 : (upd H' T (.tup [.int x, .int y])) D = some (.dK (madeD c kf vf (l.take k))) := by rw [upd_ne nTD]; exact p3
    cases hc : c x y with
    | true =>
      refine iteT ?_
      obtain ⟨b3, b4⟩ := b2 hc
      refine b3 _ (b4 _ ⟨_, Sum.inl (kf x y), rfl, D3, Nat.lt_of_le_of_lt (madeD_len ..) hz, ?_⟩)
      refine ⟨?_, o2.mut hD0, ?_⟩
      · rw [upd_ne hDd.symm]; exact d3
      · rw [upd_same, madeD_step exy nd hc]
    | false =>
      refine iteF ⟨d3, o2, ?_⟩
      rw [madeD_skip exy hc]
      exact D3
  · rintro H' ⟨p1, p2, p3⟩
    rw [kvI_length, List.take_length] at p3
    refine ⟨p1, hq D _ hD0 ?_ (p2.back hd)⟩
    rw [upd_ne hDd]
    exact p3
/-- {k: v for x in range(lo, ..) if ..} -/
def madeR (c : Int → Bool) (kf : Int → Int) (vf : Int → V) (n : Nat) : List (Key × V) := ((List.range n).filter fun (i : Nat) => c (i : Int)).map fun (i : Nat) => ((Sum.inl (kf (i : Int)) : Key), vf (i : Int))
theorem madeR_succ (c : Int → Bool) (kf : Int → Int) (vf : Int → V) (n : Nat) : madeR c kf vf (n + 1) = madeR c kf vf n ++ (if c (n : Int) = true then [((Sum.inl (kf (n : Int)) : Key), vf (n : Int))] else []) := by
  unfold madeR
  rw [List.range_succ, List.filter_append, List.map_append]
  by_cases h : c (n : Int) = true
  · simp [h]
  · have h' : c (n : Int) = false := by simpa using h
    simp [h']
theorem madeR_len (c : Int → Bool) (kf : Int → Int) (vf : Int → V) (n : Nat) : (madeR c kf vf n).length ≤ n := by
  unfold madeR
  rw [List.length_map]
  exact Nat.le_trans (List.length_filter_le _ _) (by simp)
theorem madeR_keys {c : Int → Bool} {vf : Int → V} {n k : Nat} (h : (Sum.inl (k : Int) : Key) ∈ (madeR c (fun x => x) vf n).map (·.1)) : k < n := by
  unfold madeR at h
  rw [List.map_map] at h
  obtain ⟨i, hi, e⟩ := List.mem_map.mp h
  have h1 := (List.mem_filter.mp hi).1
  rw [List.mem_range] at h1
  have : (i : Int) = (k : Int) := Sum.inl.inj e
  omega
theorem dc_range {wi : TI} {i : Nat} {tt : TT} {tk tv : TE} {vs : List Nat} {σ : L2.St} {H0 H : Hp} {Q : VK} {n : Nat} (c : Int → Bool) (vf : Int → V) (hwi : ∀ R : It → Hp → Prop, R (Itr 0 n) H → wi σ H0 R)
    (hw : ∀ a, wipe ((wipe σ vs).set i a) vs = wipe σ vs)
    (hb : ∀ k : Nat, k < n → ∀ H1, L2.Same H H1 → (∀ R : Bool → Hp → Prop, R (c (k : Int)) H1 → tt ((wipe σ vs).set i (some (.int (0 + (k : Nat))))) H1 R) ∧
      (c (k : Int) = true → (∀ R : VK, R (.int (k : Int)) H1 → tk ((wipe σ vs).set i (some (.int (0 + (k : Nat))))) H1 R) ∧ ∀ R : VK, R (vf (k : Int)) H1 → tv ((wipe σ vs).set i (some (.int (0 + (k : Nat))))) H1 R))
    (hz : n < sizeLine) (hq : ∀ D H', H D = none → H' D = some (.dK (madeR c (fun x => x) vf n)) → L2.Same H H' → Q (.ref D) H') :
    tDc wi (gName i) tt tk tv vs σ H0 Q := by
  refine hwi _ ?_
  intro D hD
  refine dc_it walk_range (fun k H' => L2.Same H H' ∧ H' D = some (.dK (madeR c (fun x => x) vf k))) ⟨Same.new hD, upd_same⟩ (fun _ _ _ _ => trivial) ?_ ?_
  · rintro k v H' H'' hk ⟨p1, p2⟩ ⟨rfl, rfl⟩
    refine ⟨hw _, ?_⟩
    obtain ⟨b1, b2⟩ := hb k hk _ p1
    refine b1 _ ?_
    cases hc : c (k : Int) with
    | true =>
      refine iteT ?_
      obtain ⟨b3, b4⟩ := b2 hc
      refine b3 _ (b4 _ ⟨_, Sum.inl (k : Int), rfl, p2, Nat.lt_of_le_of_lt (madeR_len ..) (Nat.lt_trans hk hz), ?_, ?_⟩)
      · intro b o e
        rw [upd_ne (ne_of_none e hD)]
        exact p1 b o e
      · rw [upd_same, putK_new _ (valV_none fun z => Nat.lt_irrefl _ (madeR_keys z)), madeR_succ, if_pos hc]
    | false =>
      refine iteF ⟨p1, ?_⟩
      rw [madeR_succ, hc, p2]
      simp
  · rintro H' ⟨p1, p2⟩
    exact hq D _ hD p2 p1
end U
namespace U
open PySem PySem.Spec PyProof.Rows L2
section
variable {X : Cx}
theorem sw_dict {kx vx : Expr} {gs : List Comprehension} {scope : Scope} {pos py : Pos} {y : Str} {l : Nat} {env : Env} (hk : env.scope.kind = .function) (hy : env.scope.names.lookup y = some .local) (hl : (py.line == pos.line) = true)
    (ha : (scope.names.any fun (n, k) => n == y && (k == .local || k == .cell)) = false) : swapsWith (.DictComp kx vx gs scope pos) (some (.Name y py)) l env = pure true := by
  have ky : env.kindOf y = some .local := hy
  have hb : env.blockKind = .function := by unfold Env.blockKind; rw [hk]; rfl
  unfold swapsWith
  simp only [hb, ky, ha, Expr.pos, hl]
  rfl
/-- name = {..} on one line, the name a local -/
theorem ps_setDc {i : Nat} {y : Str} {py : Pos} {kx vx tg iter : Expr} {ifs : List Expr} {scope : Scope} {own : List (Str × Nat)} {pos spos : Pos} {wi : TI} {g : TG} {tt : TT} {tk tv : TE} (hc : X.calm = true) (hN : X.N.Nodup) (hy : X.N[i]? = some y) (hyl : X.env.scope.names.lookup y = some .local)
    (hsw : swapsWith (.DictComp kx vx [⟨tg, iter, ifs, 0⟩] scope pos) (some (.Name y py)) spos.line X.env = pure true) (hi : PI X tg iter wi) (ok : BlkOk X.N X.env.scope scope own)
    (hg : ∀ (s : Shared) (H : Hp) (C : Addr) (cl : List (Str × Addr)) (fp : List Addr), PG (X.blk s H scope (compEnvC scope cl C X.env) fp) tg g) (ht : ∀ (s : Shared) (H : Hp) (C : Addr) (cl : List (Str × Addr)) (fp : List Addr), PTs (X.blk s H scope (compEnvC scope cl C X.env) fp) ifs tt)
    (hk : ∀ (s : Shared) (H : Hp) (C : Addr) (cl : List (Str × Addr)) (fp : List Addr), PE (X.blk s H scope (compEnvC scope cl C X.env) fp) kx tk)
    (he : ∀ (s : Shared) (H : Hp) (C : Addr) (cl : List (Str × Addr)) (fp : List Addr), PE (X.blk s H scope (compEnvC scope cl C X.env) fp) vx tv) (hs : ∀ x, foldedSetIterable iter X.env x = pure x := by intro _; rfl) :
    PS X (.Assign [.Name y py] (.DictComp kx vx [⟨tg, iter, ifs, 0⟩] scope pos) spos) (tAsg (tDc wi g tt tk tv (own.map (·.2))) (gName i)) := by
  refine ⟨fun pins s σ H D I h => ?_⟩
  rw [exec_Assign_Name_used _ _ _ _ hsw]
  refine wpAny_bind (wpAny_standAt (wpAny_bind ?_))
  show wpAny _ X.A (do let _ ← comprehension (.DictComp kx vx [⟨tg, iter, ifs, 0⟩] scope pos) scope X.env (firstIterPos [⟨tg, iter, ifs, 0⟩] pos) newDict false (eval iter X.env) (some (assign (.Name y py) X.env))) _ _ s
  have h : tDc wi g tt tk tv (own.map (·.2)) σ H (fun x H1 => gName i x σ H1 D.nx) := h
  refine wpAny_bind (thn (dc_core (Qf := fun _ s' => SP X pins D .next s') hc hN I hi ok hg ht hk he hs h fun L C s' m H' I' q hn f => ?_) fun _ s' hq => wpAny_pure (wpAny_pure hq))
  show wpAny _ _ (assign (.Name y py) X.env (.ref L)) _ _ _
  refine wpAny_assign_Name (store_ok2 (v := V.ref L) I' hN hy (.inl hyl) rfl (fun s2 I2 ⟨a, sb, ha⟩ => ?_) (.inr hyl))
  obtain ⟨f0, f1, f2, f3, f4, f5⟩ := f
  have haC : C ≠ a := by
    rcases ha with z | z
    · rw [z]; exact f1
    · exact fun e => f4 y a z e.symm
  refine ⟨m, hn.sameBut sb haC, fun h3 sb3 => ?_⟩
  exact ⟨_, H', I2.turned (t' := s2.toks) (fun b o hb e => (sb3.2 b hb).trans e) f0 f1 f3 f4 f5, q⟩
end
/-- x = e under the lock -/
theorem lock_asg {t : TE} {D : Ends} {σ : L2.St} {H : Hp} {i : Nat} (h : tLockE t σ H (fun v H' => D.nx (σ.set i (some v)) H')) : tLock (tAsg t (gName i)) D σ H := h
/-- [v for x, y in d.items() if ..], the tests and parts reading alone -/
def madeL (c : Int → Int → Bool) (vf : Int → Int → V) (l : List (Int × Int)) : List V := (l.filter fun p => c p.1 p.2).map fun p => vf p.1 p.2
theorem madeL_step {c : Int → Int → Bool} {vf : Int → Int → V} {l : List (Int × Int)} {i : Nat} {x y : Int} (h : l[i]? = some (x, y)) :
    madeL c vf (l.take (i + 1)) = madeL c vf (l.take i) ++ (if c x y = true then [vf x y] else []) := by
  rw [take_more h]
  unfold madeL
  rw [List.filter_append, List.map_append]
  by_cases hc : c x y = true
  · simp [hc]
  · have hc' : c x y = false := by simpa using hc
    simp [hc']
theorem madeL_len (c : Int → Int → Bool) (vf : Int → Int → V) (l : List (Int × Int)) (i : Nat) : (madeL c vf (l.take i)).length ≤ l.length := by
  unfold madeL
  rw [List.length_map]
  exact Nat.le_trans (List.length_filter_le _ _) (by rw [List.length_take]; omega)
theorem lc_items {K : PySem.W.Frag} {d : Addr} {l : List (Int × Int)} {te : TE} {i j : Nat} {tt : TT} {tv : TE} {vs : List Nat} {σ : L2.St} {H : Hp} {Q : VK} (c : Int → Int → Bool) (vf : Int → Int → V)
    (hd : H d = some (.dK (kvI l))) (hte : ∀ H' (R : VK), R (.ref d) H' → Off d H H' → te σ H' R)
    (hw : ∀ a b, wipe (((wipe σ vs).set i a).set j b) vs = wipe σ vs)
    (hb : ∀ x y, (x, y) ∈ l → ∀ H1, Off d H H1 → (∀ R : Bool → Hp → Prop, R (c x y) H1 → tt (((wipe σ vs).set i (some (.int x))).set j (some (.int y))) H1 R) ∧
      (c x y = true → ∀ R : VK, R (vf x y) H1 → tv (((wipe σ vs).set i (some (.int x))).set j (some (.int y))) H1 R))
    (hz : l.length < sizeLine)
    (hq : ∀ D H', H D = none → H' D = some (.lst (madeL c vf l)) → L2.Same H H' → Q (.ref D) H') :
    tLockE (tLc (iItems te) (gTup K 2 (gCons (gName i) (gCons (gName j) gNil))) tt tv vs) σ H Q := by
  refine ⟨d, _, hd, trivial, fun od => ?_⟩
  refine hte _ _ ⟨d, od, kvI l, rfl, upd_same, fun D hD => ?_⟩ Off.lock
  have hDd : D ≠ d := fun e => by rw [e, upd_same] at hD; cases hD
  have hD0 : H D = none := by rw [upd_ne hDd] at hD; exact hD
  refine lc_it walk_items (fun k H' => H' d = some (.frz od (.dK (kvI l))) ∧ Off d H H' ∧ H' D = some (.lst (madeL c vf (l.take k)))) ⟨?_, Off.lock.mut hD0, upd_same⟩ (fun k H' _ p => p.1) ?_ ?_
  · rw [upd_ne hDd.symm]; exact upd_same
  · rintro k v H' H'' hk ⟨p1, p2, p3⟩ ⟨T, a, b, rfl, hT, rfl, e1, e2⟩
    rw [kvI_length] at hk
    obtain ⟨⟨x, y⟩, exy⟩ : ∃ p, l[k]? = some p := ⟨_, List.getElem?_eq_getElem hk⟩
    have ek : (kvI l)[k]? = some (Sum.inl x, V.int y) := by unfold kvI; rw [List.getElem?_map, exy]; rfl
    dsimp only at e1 e2
    rw [ek] at e1 e2
    cases e1; cases e2
    have nTd : d ≠ T := ne_of_none p1 hT
    have nTD : D ≠ T := ne_of_none p3 hT
    refine ⟨T, [.int x, .int y], rfl, SqT.of upd_same, rfl, .int x, [.int y], rfl, .int y, [], rfl, rfl, ?_⟩
    refine ⟨hw _ _, ?_⟩
    have o2 : Off d H (upd H' T (.tup [.int x, .int y])) := p2.tr (Off.new hT)
    obtain ⟨b1, b2⟩ := hb x y (List.mem_of_getElem? exy) _ o2
    refine b1 _ ?_
    have d3 : (upd H' T (.tup [.int x, .int y])) d = some (.frz od (.dK (kvI l))) := by rw [upd_ne nTd]; exact p1
    have D3 : (upd H' T (.tup [.int x, .int y])) D = some (.lst (madeL c vf (l.take k))) := by rw [upd_ne nTD]; exact p3
    have st := madeL_step (c := c) (vf := vf) exy
    cases hc : c x y with
    | true =>
      rw [hc, if_pos rfl] at st
      refine iteT (b2 hc _ ⟨_, D3, Nat.lt_of_le_of_lt (madeL_len ..) hz, ?_⟩)
      refine ⟨?_, o2.mut hD0, ?_⟩
      · rw [upd_ne hDd.symm]; exact d3
      · rw [upd_same, st]
    | false =>
      rw [hc, if_neg Bool.false_ne_true, List.append_nil] at st
      refine iteF ⟨d3, o2, ?_⟩
      rw [st]
      exact D3
  · rintro H' ⟨p1, p2, p3⟩
    rw [kvI_length, List.take_length] at p3
    refine ⟨p1, hq D _ hD0 ?_ (p2.back hd)⟩
    rw [upd_ne hDd]
    exact p3
end U
/-! ### own errors over any built-in error -/
namespace PySem
namespace GEX
open PySem.W PySem.Calls PyProof.Rows PySem.HandSPX Builtin Builtin.ObjectAttr
section
variable {prog : Program} {w : World} {A : Around} {E : Value → Shared → Prop} {R : Result → Shared → Prop} {hp : Heap} {gs : Array GenState} {dr : Drawn} {tn : Nat} {os : OsState}
/-- what is asked of the class's chain -/
structure Mro (m : List Value) : Prop where
  ob : m.contains (.type "object") = true
  ne : m.isEmpty = false
  ps : ∀ self : Value, refuseLoop self "__setattr__" m = pure ()
theorem mro_of {bmB bm : List Value} {B : String} (SF : StoreFacts B bmB "object.__setattr__" "object") (h : excTail bmB bm = true) (C : Addr) : Mro (.ref C :: bm) := by
  have h' : excTail bmB (.ref C :: bm) = true := h
  exact ⟨(excTail_contains "object" _ h').trans SF.hasOwner, rfl, fun self => excTail_pass self (SF.passes self) _ h'⟩
theorem osa_first {K : Frag} {nm : Str} {tk : Tok} {v : Value} {x C : Addr} {fv : Array Value} {cd : ClassData} (X : K.In hp) (hx : hp.get? x = some { cls := .ref C, data := .fields fv }) (hcd : clsIn K C = some cd) (hm : Mro cd.mro) (hh : cd.hasDict = true) (ha : findIn K (.ref C) nm = some none)
    (hq : ∀ h' tk' dx, (∀ b o, b ≠ x → hp.get? b = some o → h'.get? b = some o) → hp.objs.size ≤ dx → dx ≠ x → h'.get? x = some { cls := .ref C, dict := some dx, data := .fields fv } → h'.Ns1 dx (fun y => if y = nm then some v else none) → R (.ok (.ret .none)) ⟨h', gs, dr, tk', os⟩) :
    codeAny (model prog w) A (.call (.builtin "object.__setattr__") ⟨[.ref x, .str nm tk, v], []⟩) R ⟨hp, gs, dr, tn, os⟩ := by
  have I : InstAt hp x { cls := .ref C, data := .fields fv } C none := ⟨hx, rfl, rfl, trivial⟩
  have hxs : x ≠ hp.objs.size := Nat.ne_of_lt (Heap.lt_size hx)
  have S0 := F.store_object
  have l1 : Looks (model prog w) hp (isInstance (.ref x) (.type "object")) true := I.type.andThen (looks_mroIn X (by unfold mroIn; rw [hcd, Option.bind_some, if_neg (by rw [hm.ne]; decide), hm.ob]))
  refine codeAny_call_builtin S0.slot.plain S0.entry ?_
  refine @check_slot (model prog w) _ _ ⟨hp, gs, dr, tn, os⟩ "object.__setattr__" "object" "__setattr__" (.ref x) [.str nm tk, v] [] _ S0.kind S0.split l1 (S0.args (.ref x) (.str nm tk) v) ?_
  have l2 : Looks (model prog w) hp (mroOf (.ref C)) cd.mro := (looks_clsIn X hcd).andThen .now
  have l3 : Looks (model prog w) hp (storeTaker? none) none := .now
  have l4 : Looks (model prog w) hp (classData C) cd := looks_clsIn X hcd
  rw [osa_eq, refuse_eq]
  refine wpAny_bind (wpAny_bind (I.type.at (wpAny_bind (l2.at ?_)))); rw [hm.ps]
  refine wpAny_pure (wpAny_bind (I.type.at (wpAny_bind ((looks_findIn X ha).at (wpAny_bind (l3.at ?_))))))
  show wpAny _ _ (storeInOwnDict (.ref x) (.ref C) (.str nm tk) nm v false) _ _ _
  obtain ⟨c1, c2, c3, c4, c5, c6, c7, c8, c9, c10, c11⟩ := cd
  have hh' : c6 = true := hh
  subst hh'
  unfold storeInOwnDict ownDictForStores
  repeat (first | with_reducible refine HandSPX.store_in_new ?_ ?_ | with_reducible refine wpAny_loadPart_at hx ?_ | with_reducible refine l4.at ?_ | wp_step)
  · refine ⟨_, #[], _, (Heap.get?_update_ne _ _ _ _ hxs.symm).trans (Heap.get?_push_at rfl rfl), rfl, fun e he => ?_, fun _ => rfl⟩
    simp at he
  · intro h' tk' hn' hs
    have hx1 : (hp.push { cls := .type "dict", data := .dict #[] }).get? x = some { cls := .ref C, data := .fields fv } := Heap.get?_push_of_some _ hx
    exact hq h' tk' hp.objs.size (fun b o hb ho => (hs.2 b (Nat.ne_of_lt (Heap.lt_size ho))).trans ((Heap.get?_update_ne _ _ _ _ hb).trans (Heap.get?_push_of_some _ ho))) (Nat.le_refl _) hxs.symm ((hs.2 x hxs).trans (Heap.get?_update_self _ hx1 rfl)) hn'
theorem osa_more {K : Frag} {nm : Str} {tk : Tok} {v : Value} {x C dx : Addr} {fv : Array Value} {cd : ClassData} {m0 : Str → Option Value} {nl : List Str} (X : K.In hp) (hx : hp.get? x = some { cls := .ref C, dict := some dx, data := .fields fv }) (hns : hp.Ns1 dx m0) (hw : Within m0 nl) (hz : nl.length ≤ 1000) (hcd : clsIn K C = some cd) (hm : Mro cd.mro) (hh : cd.hasDict = true) (ha : findIn K (.ref C) nm = some none)
    (hq : ∀ h' tk', (∀ b o, b ≠ dx → hp.get? b = some o → h'.get? b = some o) → h'.Ns1 dx (fun y => if y = nm then some v else m0 y) → R (.ok (.ret .none)) ⟨h', gs, dr, tk', os⟩) :
    codeAny (model prog w) A (.call (.builtin "object.__setattr__") ⟨[.ref x, .str nm tk, v], []⟩) R ⟨hp, gs, dr, tn, os⟩ := by
  obtain ⟨oD, _, _, hoD, _, _⟩ := hns.count hw
  have I : InstAt hp x { cls := .ref C, dict := some dx, data := .fields fv } C (some oD) := ⟨hx, rfl, rfl, hoD⟩
  have S0 := F.store_object
  have l1 : Looks (model prog w) hp (isInstance (.ref x) (.type "object")) true := I.type.andThen (looks_mroIn X (by unfold mroIn; rw [hcd, Option.bind_some, if_neg (by rw [hm.ne]; decide), hm.ob]))
  refine codeAny_call_builtin S0.slot.plain S0.entry ?_
  refine @check_slot (model prog w) _ _ ⟨hp, gs, dr, tn, os⟩ "object.__setattr__" "object" "__setattr__" (.ref x) [.str nm tk, v] [] _ S0.kind S0.split l1 (S0.args (.ref x) (.str nm tk) v) ?_
  have l2 : Looks (model prog w) hp (mroOf (.ref C)) cd.mro := (looks_clsIn X hcd).andThen .now
  have l3 : Looks (model prog w) hp (storeTaker? none) none := .now
  have l4 : Looks (model prog w) hp (classData C) cd := looks_clsIn X hcd
  rw [osa_eq, refuse_eq]
  refine wpAny_bind (wpAny_bind (I.type.at (wpAny_bind (l2.at ?_)))); rw [hm.ps]
  refine wpAny_pure (wpAny_bind (I.type.at (wpAny_bind ((looks_findIn X ha).at (wpAny_bind (l3.at ?_))))))
  show wpAny _ _ (storeInOwnDict (.ref x) (.ref C) (.str nm tk) nm v false) _ _ _
  obtain ⟨c1, c2, c3, c4, c5, c6, c7, c8, c9, c10, c11⟩ := cd
  have hh' : c6 = true := hh
  subst hh'
  unfold storeInOwnDict ownDictForStores
  repeat (first | with_reducible refine OEX.store_in_old hns hw hz ?_ | with_reducible refine wpAny_loadPart_at hx ?_ | with_reducible refine l4.at ?_ | wp_step)
  intro h' tk' hn' hs
  exact hq h' tk' (fun b o hb ho => (hs.2 b hb).trans ho) hn'
end
end GEX
end PySem
namespace L2
open PySem PySem.Spec PyProof.Rows PySem.W
/-- what the written part says of an own error class -/
structure OexG (K : PySem.W.Frag) (C : Addr) : Prop where
  cls : ∃ B newId initId bmB nm q N bs bm sn sub ab col dd k0 k1 k2 k3 k5, PySem.StoreFacts B bmB "object.__setattr__" "object" ∧ ExcBaseFacts B newId initId bmB ∧ K.lookup C = some (excClassObj nm q C N bs bm true sn sub ab col dd k0 k1 k2 k3 k5 newId) ∧ PySem.W.excTail bmB bm = true
  sa : PySem.W.findIn K (.ref C) "__setattr__" = some (some (.builtin "object.__setattr__"))
  exC : PySem.W.subIn K (.ref C) (.type "BaseException") = some true
  tyC : PySem.W.typeIn K (.ref C) = some (.type "type")
  kC : PySem.W.keepIn K (.ref C) = true
section
variable {X : Cx} {pins : List (Addr × Obj)} {σ : St} {H : Hp} {s : Shared} {a C dx : Addr} {f : Str} {y : V} {u : Value} {fs : List (Str × V)} {Q : Unit → Shared → Prop} {E : Value → Shared → Prop} {A : Around}
theorem OexG.look {K : PySem.W.Frag} {C : Addr} (T : OexG K C) : ∃ cd, PySem.W.clsIn K C = some cd ∧ PySem.GEX.Mro cd.mro ∧ cd.hasDict = true := by
  obtain ⟨B, nI, iI, bmB, nm, q, N, bs, bm, sn, sub, ab, col, dd, k0, k1, k2, k3, k5, SF, _, hC, hb⟩ := T.cls
  refine ⟨{ name := nm, bases := bs, mro := .ref C :: bm, ns := N, qualname := q, hasDict := true, slotNames := sn, subclasses := sub, abstract := ab, collection := col, hasDel := false }, ?_, PySem.GEX.mro_of SF hb C, rfl⟩
  unfold PySem.W.clsIn
  rw [hC] <;> rfl
/-- self.f = y, none there as yet -/
theorem ostG_new (T : OexG X.K C) (I : Inv X pins σ H s) (e : H a = some (exo a C none)) (hno : PySem.W.findIn X.K (.ref C) f = some none) (ry : RelV y u)
    (k : ∀ dx s', H dx = none → dx ≠ a → Inv X pins σ (upd (upd H dx (exd dx [(f, y)])) a (exo a C (some dx))) s' → Q () s') : wpAny (model X.prog X.w) A (setAttr (.ref a) f u) Q E s := by
  obtain ⟨cd, hcd, hmr, hdc⟩ := T.look
  obtain ⟨t1, ho⟩ := exo_at I.hok e
  obtain ⟨h0, gs, dr, tn, os⟩ := s
  refine PySem.W.set_plain I.kIn (ox := ⟨.ref C, none, .fields #[.ref t1, .none, .none, .none, .bool false, .none], #[]⟩) (od := none) ⟨ho, rfl, rfl, trivial⟩ T.sa ?_
  refine PySem.GEX.osa_first I.kIn ho hcd hmr hdc hno fun h' tk' dx kp dn dne hx hn => ?_
  have dfree : H dx = none := I.hok.fresh dn
  have low : ∀ {b : Addr} {o : Obj}, h0.get? b = some o → b ≠ dx := fun q => Nat.ne_of_lt (Nat.lt_of_lt_of_le (Heap.lt_size q) dn)
  have apart : ∀ {b : Addr}, H b = none → b ≠ a := fun {b} n z => by subst z; rw [e] at n; cases n
  have U1 : Un X.fs [] H (upd (upd H dx (exd dx [(f, y)])) a (exo a C (some dx))) h0 h' := by
    refine ⟨fun b o q n _ _ => kp b o (apart n) q, fun b o q n _ _ => ⟨o.slots, kp b o (apart n) q⟩, fun b o q n _ => ?_, fun b o q _ => ?_, fun b xs q => ?_, fun b o v q => ?_, fun b ps q => ⟨#[], ?_⟩⟩
    · rw [upd_ne (apart n), upd_ne (low q)]; exact n
    · by_cases hb : b = a
      · subst hb; exact ⟨_, hx⟩
      · exact ⟨o, kp b o hb q⟩
    · rw [upd_ne (at_ne e q exo_tup), upd_ne (ne_of_none q dfree)]; exact q
    · rw [upd_ne (at_ne e q exo_frz), upd_ne (ne_of_none q dfree)]; exact q
    · rw [upd_ne (at_ne e q exo_tbl), upd_ne (ne_of_none q dfree), q]; simp
  refine k dx _ dfree dne (I.un (t' := tk') U1 fun b o q => ?_)
  by_cases hb : b = a
  · subst hb; rw [upd_same] at q; cases q
    exact exo_ok hx
  · rw [upd_ne hb] at q
    by_cases hd : b = dx
    · subst hd; rw [upd_same] at q; cases q
      exact exd_ok hn (relO_put (fs := []) ry fun _ => True.intro)
    · rw [upd_ne hd] at q
      refine (I.hok b o q).stay (fun c v hc z => kp c v ?_ z) (fun c hc => ?_) (fun c xs hc => ?_)
      · rcases hc with rfl | hc
        · exact hb
        · exact at_ne e hc exo_own
      · rw [upd_ne (at_ne e hc exo_own), upd_ne (ne_of_none hc dfree)]; exact hc
      · rw [upd_ne (at_ne e hc exo_tup), upd_ne (ne_of_none hc dfree)]; exact hc
theorem ostG_old (T : OexG X.K C) (I : Inv X pins σ H s) (e : H a = some (exo a C (some dx))) (ed : H dx = some (exd dx fs)) (hl : fs.length ≤ 900) (hno : PySem.W.findIn X.K (.ref C) f = some none) (ry : RelV y u)
    (k : ∀ s', Inv X pins σ (upd H dx (exd dx ((f, y) :: fs))) s' → Q () s') : wpAny (model X.prog X.w) A (setAttr (.ref a) f u) Q E s := by
  obtain ⟨cd, hcd, hmr, hdc⟩ := T.look
  obtain ⟨t1, ho⟩ := exo_at I.hok e
  obtain ⟨mA, hns, rel⟩ := exd_at I.hok ed
  have win := within_of rel
  obtain ⟨oD, _, _, hoD, _, _⟩ := hns.count win
  obtain ⟨h0, gs, dr, tn, os⟩ := s
  refine PySem.W.set_plain I.kIn (ox := ⟨.ref C, some dx, .fields #[.ref t1, .none, .none, .none, .bool false, .none], #[]⟩) (od := some oD) ⟨ho, rfl, rfl, hoD⟩ T.sa ?_
  refine PySem.GEX.osa_more I.kIn ho hns win (by rw [List.length_map]; omega) hcd hmr hdc hno fun h' tk' kp hn => ?_
  have there : ∃ o, h'.get? dx = some o := by
    obtain ⟨o, _, _, e', _⟩ := hn
    exact ⟨o, e'⟩
  exact k _ (I.write (t' := tk') (x := dx) (e := dx) (o := exd dx ((f, y) :: fs)) (by rw [ed]; exact True.intro) (.inl rfl) kp there (exd_ok hn (relO_put ry rel)))
end
/-- self.f = e, self an error being made -/
def tOstG (K : PySem.W.Frag) (f : Str) (to te : TE) : TS := fun D σ H => te σ H fun y H1 => to σ H1 fun x H2 => ∃ a C : Addr, x = .ref a ∧ OexG K C ∧ PySem.W.findIn K (.ref C) f = some none ∧
  ((H2 a = some (exo a C none) ∧ ∀ dx, H2 dx = none → dx ≠ a → D.nx σ (upd (upd H2 dx (exd dx [(f, y)])) a (exo a C (some dx)))) ∨
    ∃ (dx : Addr) (fs : List (Str × V)), H2 a = some (exo a C (some dx)) ∧ H2 dx = some (exd dx fs) ∧ fs.length ≤ 900 ∧ D.nx σ (upd H2 dx (exd dx ((f, y) :: fs))))
section
variable {X : Cx} {o e : Expr} {es : List Expr} {to te : TE} {ta : TA} {f : Str} {p p' pos : Pos}
theorem ps_ostG (ho : PE X o to) (he : PE X e te) (hs : swapsWith e (some (.Attribute o f p')) pos.line X.env = pure false := by rfl) : PS X (.Assign [.Attribute o f p'] e pos) (tOstG X.K f to te) := by
  refine ⟨fun pins s σ H D I h => plainObj_wpAny_Assign_Attribute (thn (he.run pins s σ H _ I h) fun v s1 ⟨y, H1, I1, r1, q1⟩ => thn (ho.run pins s1 σ H1 _ I1 q1) fun u s2 ⟨x, H2, I2, r2, a, C, ex, T, hno, q⟩ => ?_) hs⟩
  subst ex
  cases (show u = Value.ref a from r2)
  rcases q with ⟨ea, q⟩ | ⟨dx, fs, ea, ed, hl, q⟩
  · exact ostG_new T I2 ea hno r1 fun dx _ n ne J => ⟨σ, _, J, q dx n ne⟩
  · exact ostG_old T I2 ea ed hl hno r1 fun _ J => ⟨σ, _, J, q⟩
/-- C(e, ..) -/
theorem pmk_oexG {CX : CXT} {x : Str} {C fI : Addr} {k : Nat} {sp : Sp} (T : OexG X.K C) (iC : PySem.W.findIn X.K (.ref C) "__init__" = some (some (.ref fI))) (tI : PySem.W.typeIn X.K (.ref fI) = some (.type "function"))
    (F1 : FnR X.prog X.w X.K X.mg X.base CX k fI sp) (hr : Room (k + 1) X.A) (hx : Passes CX X (fun _ _ _ => False)) (hg : Gl X x) (hm : X.mg x = some (.ref C)) (ha : PA X (e :: es) ta)
    (hdb : (x == ("__debug__" : Str)) = false := by decide) (he : starEach (e :: es) X.env = (false, eval e X.env) :: starEach es X.env := by rfl) (hpl : (backTo pos (starEach es X.env)).any (·.1) = false := by rfl) :
    PMk X (.Call (.Name x p) (e :: es) [] pos) (tMkO C sp [] ta) := by
  intro pins s σ H Q I h
  obtain ⟨B, nI, iI, bmB, nm, q, N, bs, bm, sn, sub, ab, col, dd, k0, k1, k2, k3, k5, _, BF, hC, hbm⟩ := T.cls
  refine wpAny_Call_Name_kw (ld_glob I hg hm ?_ hdb)
  refine PySem.W.callWith_K (h₀ := X.base) I.ok.mod.kin T.kC (thn (ha.run pos pins s σ H _ I h) fun us s1 ⟨vs, H1, I1, r1, hz, q1⟩ => ⟨I1.kIn, ?_⟩) he hpl
  show wpAny _ _ (call (.ref C) us) _ _ _
  obtain ⟨h0, gs, dr, tn, os⟩ := s1
  have up : h0.objs.size ≤ h0.objs.size + 1 := Nat.le_succ _
  have hq := q1 (h0.objs.size + 1) (I1.hok.fresh up)
  rw [List.append_nil] at hq
  have kk : ∀ b o, h0.get? b = some o → ((h0.push (PySem.W.kdv_tup us)).push (PySem.HandSPX.excO C h0.objs.size)).get? b = some o := fun b o z => Heap.get?_push_of_some _ (Heap.get?_push_of_some _ z)
  have there : ((h0.push (PySem.W.kdv_tup us)).push (PySem.HandSPX.excO C h0.objs.size)).get? (h0.objs.size + 1) = some (PySem.HandSPX.excO C h0.objs.size) := by heap_get
  have I2 : Inv X pins σ (upd H1 (h0.objs.size + 1) (exo (h0.objs.size + 1) C none)) ⟨(h0.push (PySem.W.kdv_tup us)).push (PySem.HandSPX.excO C h0.objs.size), gs, dr, tn, os⟩ := I1.laid (t' := tn) kk up (exo_ok there)
  have r2 : Vals (V.ref (h0.objs.size + 1) :: vs) (Value.ref (h0.objs.size + 1) :: us) := .cons rfl r1
  have hus : us.length ≤ sizeLine := by rw [← Paired.length r1, sizeLine_eq]; omega
  refine wpAny_call (PySem.HandSPX.call_own BF (fun Y => PySem.W.excTail_contains Y bm hbm) (I1.kIn _ _ hC) (PySem.W.looks_findIn I1.kIn iC) (fun self => PySem.W.bind_fn I1.kIn self tI) hus ?_)
  refine codeAny_mono (F1 _ X.stack _ _ (Value.ref (h0.objs.size + 1) :: us) _ _ (fun _ _ _ => False) (hr.make C us []) (I2.env0.make C us []) r2 hq) fun r s' hq' => ?_
  cases r with
  | error er => exact hx pins σ _ _ er s' I2 hq'
  | ok fl =>
    cases fl with
    | ret u =>
      obtain ⟨v, H2, os2, bare2, un2, hok2, rv, ev, d, fs, ea, ed, hd1, q2⟩ := hq'
      subst ev
      obtain ⟨h2, g2, d2, t2, os'⟩ := s'
      exact ⟨rv, mk_end (raises_own T.exC T.tyC) I1 up kk un2 hok2 os2 bare2 ea ed hd1 q2⟩
    | next => exact False.elim hq'
    | brk => exact False.elim hq'
    | cont => exact False.elim hq'
end
end L2
namespace U
open PySem PySem.Spec PyProof.Rows L2 StX
section
variable {P : Program} {w : World} {K : PySem.W.Frag} {mg : Str → Option Value} {base : Heap}
/-- a def that may raise -/
theorem FnAt.okX {x qual : Str} {st : Stmt} {f : Addr} {N ps : List Str} {k : Nat} {sp : Sp} (A : FnAt K x qual st f ps) (S : FnScope N ps (defScope st)) (len : ∀ vs H Q E, sp vs H Q E → vs.length = ps.length)
    (hbody : ∀ (cdv : Value) (A : Around) (outer : List Env) (s : Shared) (H : Hp) (vs : List V) (Q : VK) (E : XK), Room k (A.deeper (envOfC qual (defScope st) s.heap.objs.size f cdv)) → sp vs H Q E →
      ∃ t, PSs (cxOf (L2.CX P w) P w K mg base N qual (defScope st) f cdv A outer s H E) (defBody st) t ∧ t { nx := fun _ H' => Q .non H', rt := Q } (start N vs) H) : FnR P w K mg base (L2.CX P w) (k + 1) f sp := by
  obtain ⟨fd, F, B⟩ := A.ex
  have R := (F.okX (P := P) (w := w) (mg := mg) (base := base) S len hbody).raw B .nil
  exact R.imp fun vs H Q E h => by rw [List.append_nil]; exact h
end
section
variable {X : Cx} {CX : CXT} {pins : List (Addr × Obj)} {σ : L2.St} {H : Hp} {s : Shared} {a C dx p g f : Addr} {n k : Nat} {sp : Sp} {E : L2.St → XK} {v : V} {u : Value} {x : Str} {e ea eb : Expr} {es : List Expr} {ta tb : TE} {t : TA} {pp pos : Pos}
theorem run_RS {Q : VK} {us : List Value} {vs : List V} {E : XK} (F : FnR X.prog X.w X.K X.mg X.base CX k f sp) (hr : Room k X.A) (hx : PassesAt CX X σ E) (I : Inv X pins σ H s) (r : Vals vs us) (h : sp vs H Q E) :
    codeAny (model X.prog X.w) X.A (.call (.ref f) ⟨us, []⟩) (fun r s' => match r with | .ok (.ret v) => EP X pins σ Q v s' | .ok _ => False | .error e => X.xe e s') s := by
  refine codeAny_mono (F X.A X.stack s H us vs Q E hr I.env0 r h) fun z s' hq => ?_
  match z, hq with
  | .error er, hq => exact hx pins H s er s' I hq
  | .ok (.ret w), hq => exact I.after hq
  | .ok .next, hq => exact hq.elim
  | .ok .brk, hq => exact hq.elim
  | .ok .cont, hq => exact hq.elim
end
/-- isinstance(e, c), e the error that the suite holds, with its dict -/
def rIsG (K : PySem.W.Frag) (D a dd : Addr) : List V → Hp → VK → Prop := fun xs H Q => ∃ (c : V) (cv : Value) (b : Bool) (fs : List (Str × V)), xs = [.ref a, c] ∧ (∀ u, RelV c u → u = cv) ∧ PySem.W.kitOne K (.ref D) cv = some b ∧ H dd = some (.xd fs) ∧ Q (.bl b) H
theorem call_isG {X : Cx} {a D dd : Addr} {oe : Obj} {pn : List (Addr × Obj)} (C : ExcC X.K D) (hz : Zc (.ref D) (some dd) oe) (hf : ∃ vs, oe.data = .fields vs) : CallR (X.suite a ((a, oe) :: pn)) (.builtin "isinstance") (rIsG X.K D a dd) := by
  intro pins s σ H xs us Q I r h
  obtain ⟨c, cv, b, fs, rfl, hcv, e, ed, q⟩ := h
  match us, r with
  | [_, _], .cons rx (.cons rt .nil) =>
    cases rx
    cases hcv _ rt
    obtain ⟨there, _⟩ := I.pin (a, oe) (List.mem_append.mpr (.inl List.mem_cons_self))
    obtain ⟨vs, hv⟩ := hf
    obtain ⟨mA, hns, _⟩ := I.hok dd _ ed
    obtain ⟨od, ho, _⟩ := lookIn_ns hns
    have J : PySem.W.InstAt s.heap a oe D (some od) := ⟨there, hz.1, by unfold PySem.W.notCls; rw [hv] <;> rfl, by rw [hz.2]; exact ho⟩
    have hcl : (PySem.W.clsIn X.K D).isSome = true := by
      obtain ⟨cd, hc, _⟩ := PySem.W.any_some C.hd
      rw [hc]; rfl
    exact PySem.W.kia_one (PySem.W.kitx_exc hcl C.hg C.hk C.hs C.ha C.hn C.ht C.hm) I.kIn J e (fun z => nomatch z) fun tk => ⟨.bl b, H, I.kept (t' := tk) fun _ _ z => z, rfl, q⟩
end U
namespace U
open PySem PySem.Spec PyProof.Rows L2 StX
section
variable {X : Cx} {CX : CXT} {e : Expr} {es : List Expr} {te : TE} {t : TA} {p apos cpos pos : Pos} {k i : Nat} {f : Addr} {sp : Sp} {x : Str}
/-- d.update(e), two dicts -/
def rUpdD : V → List V → Hp → VK → Prop := fun x vs H Q => ∃ a b ks ls, x = .ref a ∧ vs = [.ref b] ∧ a ≠ b ∧ H a = some (.dK ks) ∧ H b = some (.dK ls) ∧ ks.length + ls.length ≤ sizeLine ∧ Q .non (upd H a (.dK (mergeK ks ls)))
theorem mt_updD : MtR X "dict.update" rUpdD := by
  intro pins s σ H x vs v us Q I rx rv h
  obtain ⟨a, b, ks, ls, rfl, rfl, hab, ea, eb, hz, q⟩ := h
  cases (show v = Value.ref a from rx)
  obtain ⟨u, rfl, ru⟩ := rv.one
  cases (show u = Value.ref b from ru)
  obtain ⟨z1, ya, va, ra, da⟩ := (show ObjOk X.prog X.w H s.heap a (.dK ks) from I.hok a _ ea)
  obtain ⟨z2, yb, vb, rb, db⟩ := (show ObjOk X.prog X.w H s.heap b (.dK ls) from I.hok b _ eb)
  refine call_meetsIn PySem.F.slot_dict_update da.typeIs PySem.F.entry_dict_update (PySem.F.args_dict_update_2 _ _) (meets_dict_update (mixKind X.prog X.w) a b hab yb) ⟨va, vb, da, db, by rw [← ra.length, ← rb.length]; exact hz, fun h' d2 _ k2 => ?_⟩
  have there : ∃ o, h'.get? a = some o := by
    obtain ⟨o, _, _, e', _⟩ := id d2
    exact ⟨o, e'⟩
  refine ⟨.non, _, I.write (t' := s.toks) (x := a) (e := a) (o := .dK (mergeK ks ls)) (by rw [ea]; exact True.intro) (.inl rfl) (fun c o hc e => (k2.2 c hc).trans e) there ?_, rfl, q⟩
  exact ⟨Nat.le_trans (length_mergeK ls ks) hz, ya, _, rb.merge ra, d2⟩
end
end U
namespace U
open PySem PySem.Spec PyProof.Rows L2
/-- e, and what it gives is locked for good -/
def tFrz (t : TE) : TE := fun σ H Q => t σ H fun x H1 => ∃ d u, x = .ref d ∧ H1 d = some u ∧ Mut (some u) ∧ ∀ od, Q x (upd H1 d (.frz od u))
theorem pe_frz {X : Cx} {e : Expr} {t : TE} (h : PE X e t) : PE X e (tFrz t) := by
  refine ⟨fun pins s σ H Q I hw => thn (h.run pins s σ H _ I hw) fun v s1 ⟨x, H1, I1, r, d, u, ex, hd, mu, q⟩ => ?_⟩
  obtain ⟨od, I2⟩ := I1.lock hd mu
  exact ⟨x, _, I2, r, q od⟩
section
variable {P : Program} {w : World} {K : PySem.W.Frag} {mg : Str → Option Value} {base : Heap}
/-- a def that may raise, called where it does not -/
theorem fnR_calm {k : Nat} {f : Addr} {sp : Sp} (F : FnR P w K mg base (L2.CX P w) k f sp) : FnR P w K mg base CX0 k f (fun vs H Q _ => sp vs H Q E0) := by
  intro A outer s H us vs Q E hr e0 r h
  refine codeAny_mono (F A outer s H us vs Q E0 hr e0 r h) fun r s' hq => ?_
  cases r with
  | error e =>
    obtain ⟨_, _, _, _, _, _, _, _, _, _, _, _, z⟩ := hq
    exact z.elim
  | ok fl => cases fl <;> exact hq
end
/-! ### own errors with one or two fields -/
def spIni1 (C : Addr) (f : Str) : Sp := fun vs H Q _ => ∃ (a : Addr) (v : V), vs = [.ref a, v] ∧ H a = some (exo a C none) ∧ ∀ dx, H dx = none → dx ≠ a → Q .non (upd (upd H dx (exd dx [(f, v)])) a (exo a C (some dx)))
theorem mk_one {C : Addr} {f : Str} {v : V} {H : Hp} {Q : XK} (h : ∀ d, H d = none → Q (.ref C) (some d) (upd H d (.xd [(f, v)]))) :
    [v].length ≤ 1000 ∧ ∀ a, H a = none → spIni1 C f (.ref a :: ([v] ++ [])) (upd H a (exo a C none))
      (fun z H2 => z = .non ∧ ∃ (d : Addr) (fs : List (Str × V)), H2 a = some (exo a C (some d)) ∧ H2 d = some (exd d fs) ∧ H d = none ∧ Q (.ref C) (some d) (upd (del H2 a) d (.xd fs))) (fun _ _ _ => False) := by
  refine ⟨(by show 1 ≤ 1000; decide), fun a ha => ⟨a, v, rfl, upd_same, fun dx hd ne => ⟨rfl, dx, [(f, v)], upd_same, ?_, ?_, ?_⟩⟩⟩
  · rw [upd_ne ne, upd_same]
  · rw [upd_ne ne] at hd; exact hd
  · rw [upd_ne ne] at hd
    have e : upd (del (upd (upd (upd H a (exo a C none)) dx (exd dx [(f, v)])) a (exo a C (some dx))) a) dx (.xd [(f, v)]) = upd H dx (.xd [(f, v)]) := by
      funext b
      by_cases h1 : b = dx
      · subst h1; rw [upd_same, upd_same]
      · rw [upd_ne h1, upd_ne h1]
        by_cases h2 : b = a
        · subst h2
          rw [ha]
          unfold del
          simp
        · unfold del
          simp only [h2, if_false]
          rw [upd_ne h2, upd_ne h1, upd_ne h2]
    rw [e]
    exact h dx hd
end U
namespace U
open PySem PySem.Spec PyProof.Rows L2
/-- isinstance(e, c), e the error that the suite holds; its class told by the reading -/
def rIsH (K : PySem.W.Frag) (D a : Addr) (cls : Value) (d : Option Addr) : List V → Hp → VK → Prop := fun xs H Q => ∃ dd, cls = .ref D ∧ d = some dd ∧ rIsG K D a dd xs H Q
theorem call_isH {X : Cx} {a D : Addr} {cls : Value} {d : Option Addr} {oe : Obj} {pn : List (Addr × Obj)} (C : ExcC X.K D) (hz : Zc cls d oe) (hf : ∃ vs, oe.data = .fields vs) : CallR (X.suite a ((a, oe) :: pn)) (.builtin "isinstance") (rIsH X.K D a cls d) := by
  intro pins s σ H xs us Q I r h
  obtain ⟨dd, rfl, rfl, h⟩ := h
  exact call_isG C hz hf pins s σ H xs us Q I r h
end U
namespace U
open PySem PySem.Spec PyProof.Rows L2 StX
/-! ### defs that are called where no repr runs around them -/
def FnG (P : Program) (w : World) (K : PySem.W.Frag) (mg : Str → Option Value) (base : Heap) (CX : CXT) (k : Nat) (f : Addr) (sp : Sp) : Prop :=
  ∀ (A : Around) (outer : List Env) (s : Shared) (H : Hp) (us : List Value) (vs : List V) (Q : VK) (E : XK), A.guards = some [] → Room k A → Env0 P w K mg base A outer s H → Vals vs us → sp vs H Q E → codeAny (model P w) A (.call (.ref f) ⟨us, []⟩) (CR CX outer P w H s Q E) s
section
variable {P : Program} {w : World} {K : PySem.W.Frag} {mg : Str → Option Value} {base : Heap} {CX : CXT} {j k : Nat} {f : Addr} {sp sp' : Sp}
theorem FnG.mono (F : FnG P w K mg base CX j f sp) (h : j ≤ k) : FnG P w K mg base CX k f sp := fun A outer s H us vs Q E g hr => F A outer s H us vs Q E g (hr.mono h)
theorem FnG.imp (F : FnG P w K mg base CX k f sp) (h : ∀ vs H Q E, sp' vs H Q E → sp vs H Q E) : FnG P w K mg base CX k f sp' := fun A outer s H us vs Q E g hr e0 r z => F A outer s H us vs Q E g hr e0 r (h _ _ _ _ z)
/-- the body's walk, with what is around -/
theorem bodyG {x qual : Str} {st : Stmt} {fd : FuncData} {N ps : List Str} (F : Fun K x qual st f fd) (S : FnScope N ps (defScope st)) (len : ∀ vs H Q E, sp vs H Q E → vs.length = ps.length)
    (hbody : ∀ (cdv : Value) (A : Around) (outer : List Env) (s : Shared) (H : Hp) (vs : List V) (Q : VK) (E : XK), A.guards = some [] → Room k (A.deeper (envOfC qual (defScope st) s.heap.objs.size f cdv)) → sp vs H Q E →
      ∃ t, PSs (cxOf CX P w K mg base N qual (defScope st) f cdv A outer s H E) (defBody st) t ∧ t { nx := fun _ H' => Q .non H', rt := Q } (start N vs) H)
    (A : Around) (outer : List Env) (s : Shared) (H : Hp) (args : Args) (us : List Value) (vs : List V) (Q : VK) (E : XK) (g : A.guards = some []) (hr : Room (k + 1) A) (e0 : Env0 P w K mg base A outer s H) (hb : BindsTo s fd args (ps.zip us)) (r : Vals vs us) (hs : sp vs H Q E) :
    codeAny (model P w) A (.call (.ref f) args) (CR CX outer P w H s Q E) s := by
  obtain ⟨oc, od, kV, doc, pm, an, cdv, ct, osl, rfl, lk, hcd⟩ := F.ex
  have hl := len _ _ _ _ hs
  have kin : K.In s.heap := e0.mod.kin.keeps fun b o e => (e0.bs b o e).1
  have lim : s.heap.NoLimit := e0.mod.nolimit.keeps fun b o e => (e0.bs b o e).1
  have names : ∀ y ∈ ps.zip us, (defScope st).names.lookup y.1 = some .local ∨ ((defScope st).names.lookup y.1 = some .cell ∧ ((cellsFrom (s.heap.objs.size + 1) (defScope st).names []).lookup y.1).isSome = true) := by
    rintro ⟨n, v⟩ hy
    rcases S.par n (List.of_mem_zip hy).1 with q | q
    · exact .inl q
    · exact .inr ⟨q, PySem.W.cellsFrom_some _ _ _ (.inl q)⟩
  refine codeAny_call_function hr.depth (kin _ _ lk) rfl S.co S.gen rfl (PySem.W.codeRec_of kin hcd) (hb _ _ _ _ ?_)
  refine wpAny_newFunctionEnv_cells S.kind names fun env he s1 z => ?_
  subst he
  refine ⟨lim.keeps z.toInCall.keep, codeAny_func ?_⟩
  obtain ⟨t, ht, hq⟩ := hbody cdv A outer s H vs Q E g (hr.deeper _) hs
  have I : Inv (cxOf CX P w K mg base N qual (defScope st) f cdv A outer s H E) [] (start N vs) H s1 := inv_start S hr.hd e0 hl r z
  refine wpAny_mono (ht.run [] s1 (start N vs) H _ I hq) (fun fl s' h' => ?_) fun _ _ h' => h'
  match fl, h' with
  | .ret u, ⟨v, σ', H', J, rv, q⟩ => exact ⟨v, H', J.os, J.bare, J.base, J.hok, rv, q⟩
  | .next, ⟨σ', H', J, q⟩ => exact ⟨.non, H', J.os, J.bare, J.base, J.hok, rfl, q⟩
  | .brk, ⟨_, _, _, q⟩ => exact q.elim
  | .cont, ⟨_, _, _, q⟩ => exact q.elim
theorem FnAt.okG {x qual : Str} {st : Stmt} {N ps : List Str} (B : FnAt K x qual st f ps) (S : FnScope N ps (defScope st)) (len : ∀ vs H Q E, sp vs H Q E → vs.length = ps.length)
    (hbody : ∀ (cdv : Value) (A : Around) (outer : List Env) (s : Shared) (H : Hp) (vs : List V) (Q : VK) (E : XK), A.guards = some [] → Room k (A.deeper (envOfC qual (defScope st) s.heap.objs.size f cdv)) → sp vs H Q E →
      ∃ t, PSs (cxOf CX0 P w K mg base N qual (defScope st) f cdv A outer s H E).nox (defBody st) t ∧ t { nx := fun _ H' => Q .non H', rt := Q } (start N vs) H) : FnG P w K mg base CX0 (k + 1) f sp := by
  obtain ⟨fd, F, bi⟩ := B.ex
  intro A outer s H us vs Q E g hr e0 r hs
  have hl : (us ++ []).length = ps.length := by rw [List.append_nil, ← r.length]; exact len _ _ _ _ hs
  refine bodyG F S len (fun cdv A outer s H vs Q E g hr hs => ?_) A outer s H ⟨us, []⟩ us vs Q E g hr e0 ?_ r hs
  · obtain ⟨t, h, q⟩ := hbody cdv A outer s H vs Q E g hr hs
    exact ⟨t, h.nox, q⟩
  · have := bi s us (e0.mod.kin.keeps fun b o e => (e0.bs b o e).1) hl
    rw [List.append_nil] at this
    exact this
end
section
variable {X : Cx} {CX : CXT} {pins : List (Addr × Obj)} {σ : L2.St} {H : Hp} {s : Shared} {f : Addr} {k : Nat} {sp : Sp} {x : Str} {e : Expr} {es : List Expr} {t : TA} {pp pos : Pos}
theorem run_G {Q : VK} {us : List Value} {vs : List V} {E : XK} (F : FnG X.prog X.w X.K X.mg X.base CX k f sp) (g : X.A.guards = some []) (hr : Room k X.A) (hx : PassesAt CX X σ E) (I : Inv X pins σ H s) (r : Vals vs us) (h : sp vs H Q E) :
    codeAny (model X.prog X.w) X.A (.call (.ref f) ⟨us, []⟩) (fun r s' => match r with | .ok (.ret v) => EP X pins σ Q v s' | .ok _ => False | .error e => X.xe e s') s := by
  refine codeAny_mono (F X.A X.stack s H us vs Q E g hr I.env0 r h) fun z s' hq => ?_
  match z, hq with
  | .error er, hq => exact hx pins H s er s' I hq
  | .ok (.ret w), hq => exact I.after hq
  | .ok .next, hq => exact hq.elim
  | .ok .brk, hq => exact hq.elim
  | .ok .cont, hq => exact hq.elim
/-- x(e, ..), x such a def -/
theorem pe_callG {E : XK} (F : FnG X.prog X.w X.K X.mg X.base CX k f sp) (g : X.A.guards = some []) (hr : Room k X.A) (hk : PySem.W.keepIn X.K (.ref f) = true) (hg : Gl X x) (hm : X.mg x = some (.ref f)) (hx : Passes CX X E) (ha : PA X (e :: es) t) (hdb : (x == ("__debug__" : Str)) = false := by decide)
    (he : starEach (e :: es) X.env = (false, eval e X.env) :: starEach es X.env := by rfl) (hpl : (backTo pos (starEach es X.env)).any (·.1) = false := by rfl) : PE X (.Call (.Name x pp) (e :: es) [] pos) (tCallR sp E t) := by
  refine ⟨fun pins s σ H Q I h => wpAny_Call_Name_kw (ld_glob I hg hm ?_ hdb)⟩
  exact PySem.W.callWith_K (h₀ := X.base) I.ok.mod.kin hk (thn (ha.run pos pins s σ H _ I h) fun us s1 ⟨vs, H1, I1, r, q⟩ => ⟨I1.kIn, wpAny_call (run_G F g hr (fun pins H s e s' => hx pins σ H s e s') I1 r q)⟩) he hpl
/-! ### repr -/
/-- repr(v), v a None, a bool, an int, a text, lists and tuples of them -/
def rRepr (K : PySem.W.Frag) : List V → Hp → VK → Prop := fun xs H Q => ∃ v d, xs = [v] ∧ Dp K H v d ∧ d.showable = true ∧ d.hasDict = false ∧ d.depth ≤ 60 ∧ d.shown.length ≤ sizeLine ∧ Q (.str d.shown) H
theorem call_repr (g : X.A.guards = some []) (hu : X.A.units + 64 < cLine) : CallR X (.builtin "repr") (rRepr X.K) := by
  intro pins s σ H xs us Q I r h
  obtain ⟨v, d, rfl, hd, hs, hn, hdp, hz, q⟩ := h
  obtain ⟨u, rfl, ru⟩ := r.one
  obtain ⟨as, rd⟩ := Dp.reads I d v u hd ru
  cases rd with
  | none =>
    simp only [PyData.shown] at q
    exact PySem.P.repr_of_none ⟨.str _, H, I.tok _, ⟨_, rfl⟩, q⟩
  | bool b =>
    simp only [PyData.shown] at q
    exact PySem.P.repr_of_bool ⟨.str _, H, I.tok _, ⟨_, rfl⟩, q⟩
  | int i t =>
    simp only [PyData.shown] at q
    exact PySem.P.repr_of_int (by simpa [PyData.showable] using hs) ⟨.str _, H, I.tok _, ⟨_, rfl⟩, q⟩
  | str x t =>
    simp only [PyData.shown] at q hz
    exact PySem.P.repr_of_str ⟨.str _, H, I.tok _, ⟨_, rfl⟩, q⟩ hz
  | list h1 h2 h3 h4 => exact repr_of_reads' (.list h1 h2 h3 h4) hs (PyData.noDict_hsm hn) g (by omega) (fun _ _ e => e) (fun h' u tk hk => ⟨.str _, H, I.kept (t' := tk) hk, ⟨_, rfl⟩, q⟩) hz
  | tuple h1 h2 h3 h4 => exact repr_of_reads' (.tuple h1 h2 h3 h4) hs (PyData.noDict_hsm hn) g (by omega) (fun _ _ e => e) (fun h' u tk hk => ⟨.str _, H, I.kept (t' := tk) hk, ⟨_, rfl⟩, q⟩) hz
  | dict h1 h2 h3 h4 h5 => simp [PyData.hasDict] at hn
/-! ### a dict of ints, shown -/
end
end U
namespace U
open PySem PySem.Spec PyProof.Rows L2 StX
/-- what holds no other object -/
inductive Sc : V → PyData → Prop
  | non : Sc .non .none
  | bl (b : Bool) : Sc (.bl b) (.bool b)
  | int (i : Int) : Sc (.int i) (.int i)
  | str (x : Str) : Sc (.str x) (.str x)
theorem Sc.reads {h : Heap} {v : V} {d : PyData} {u : Value} (s : Sc v d) (r : RelV v u) : Reads h u d [] := by
  cases s with
  | non => cases r; exact .none
  | bl b => cases r; exact .bool b
  | int i => obtain ⟨t, rfl⟩ := r; exact .int i t
  | str x => obtain ⟨t, rfl⟩ := r; exact .str x t
end U
namespace U
open PySem PySem.Spec PyProof.Rows L2 StX
/-! ### the law's call, where no repr runs around it -/
section
variable {P : Program} {w : World} {K : PySem.W.Frag} {mg mb : Str → Option Value} {k : Nat} {fa sc : Addr} {sp : Sp} {s1 : Shared} {us : List Value} {ns : List Int}
/-- from an abstract heap that tracks at most the script -/
theorem law_core (inK : K.In s1.heap) (glob : s1.heap.Ns mainGlobals mg) (blt : s1.heap.Ns builtinsNs mb) (blt2 : ∀ x : Str, x ≠ "__name__" → mb x = bootBuiltins x) (lim : s1.heap.NoLimit) (gens : s1.gens = #[])
    (there : s1.heap.get? sc = some { cls := .type "list", data := .seq us.toArray }) (room : Room k callerA)
    (F : ∀ base : Heap, FnG P w K mg base CX0 k fa sp)
    (H : Hp) (only : Only H) (hok : HOk P w H s1.heap) (just : ∀ b, H b ≠ none → b = sc) (offK : H sc ≠ none → K.lookup sc = none)
    (prom : sp [.ref sc] H (fun v _ => v = .bl true) E0) :
    codeAny (model P w) callerA (.call (.ref fa) ⟨[.ref sc], []⟩) (fun r s' => r = .ok (.ret (.bool true)) ∧ OldK s1.heap s'.heap ∧ s'.os = s1.os ∧ AllBare s'.gens) s1 := by
  have isSc : ∀ {b : Addr} {u : HO}, H b = some u → b = sc := fun {b u} e => just b fun z => by rw [z] at e; cases e
  have free : ∀ {b : Addr} {o : Obj} {es : Array DictEntry} {ep : Nat}, s1.heap.get? b = some o → o.data = .dict es ep → H b = none := by
    intro b o es ep e d
    cases hb : H b with
    | none => rfl
    | some u =>
      have := isSc hb
      subst this
      rw [there] at e
      cases e
      exact absurd (show Data.seq us.toArray _ = Data.dict es ep from d) (by intro z; cases z)
  have spaces : ∀ {b : Addr} {m : Str → Option Value}, s1.heap.Ns b m → (hidT s1.heap H).Ns b m := by
    rintro b m ⟨o, es, ep, e, d, r⟩
    exact ⟨o, es, ep, hidT_get e (free e d), d, r⟩
  have inB : K.In (hidT s1.heap H) := by
    intro b o e
    refine hidT_get (inK b o e) ?_
    cases hb : H b with
    | none => rfl
    | some u =>
      have := isSc hb
      subst this
      have z := offK (by rw [hb]; intro z; cases z)
      rw [e] at z
      cases z
  have md : Mod K mg (hidT s1.heap H) := by
    obtain ⟨mc, l1, l2⟩ := lim
    exact ⟨inB, spaces glob, ⟨mb, spaces blt, blt2⟩, ⟨mc, spaces l1, l2⟩⟩
  have env : Env0 P w K mg (hidT s1.heap H) callerA [] s1 H := by
    refine ⟨rfl, md, fun b o e => of_hidT e, Nat.le_of_eq (hidT_size _ _), trivial, fun b hb => ?_, hok, .of_eq gens⟩
    exact absurd hb List.not_mem_nil
  refine codeAny_mono (F (hidT s1.heap H) callerA [] s1 H [.ref sc] [.ref sc] (fun v _ => v = .bl true) E0 rfl room env (.cons rfl .nil) prom) fun r s' h => ?_
  match r, h with
  | .error e, h => exact h.elim
  | .ok .next, h => exact h.elim
  | .ok .brk, h => exact h.elim
  | .ok .cont, h => exact h.elim
  | .ok (.ret u), ⟨v, H', os, bare, un, hok', rv, q⟩ =>
    subst q
    cases (show u = Value.bool true from rv)
    refine ⟨rfl, OldK.of_keep fun b o e => ?_, os, bare⟩
    cases hb : H b with
    | none => exact un.keep b o e hb (fun z => absurd z List.not_mem_nil) (by simp)
    | some u =>
      rcases only b with z | ⟨ob, xs, z⟩
      · rw [hb] at z
        cases z
      · have a1 := (hok b _ z).1
        have a2 := (hok' b _ (un.frzs b ob _ z)).1
        rw [e] at a1
        cases a1
        exact a2
theorem law_callG (inK : K.In s1.heap) (glob : s1.heap.Ns mainGlobals mg) (blt : s1.heap.Ns builtinsNs mb) (blt2 : ∀ x : Str, x ≠ "__name__" → mb x = bootBuiltins x) (lim : s1.heap.NoLimit) (gens : s1.gens = #[])
    (there : s1.heap.get? sc = some { cls := .type "list", data := .seq us.toArray }) (inS : IntsAre us ns) (len : ns.length ≤ sizeLine) (room : Room k callerA)
    (F : ∀ base : Heap, FnG P w K mg base CX0 k fa sp)
    (prom : ∀ H : Hp, SqL K H sc (ns.map V.int) → sp [.ref sc] H (fun v _ => v = .bl true) E0) :
    codeAny (model P w) callerA (.call (.ref fa) ⟨[.ref sc], []⟩) (fun r s' => r = .ok (.ret (.bool true)) ∧ OldK s1.heap s'.heap ∧ s'.os = s1.os ∧ AllBare s'.gens) s1 := by
  have rv := vals_ints inS
  have go := law_core (P := P) (w := w) (k := k) (fa := fa) (sp := sp) inK glob blt blt2 lim gens there room F
  cases hk : K.lookup sc with
  | some o =>
    have e := inK sc o hk
    rw [there] at e
    cases e
    refine go (fun _ => none) (fun _ => .inl rfl) (fun b u z => by cases (show (none : Option HO) = some u from z)) (fun b z => absurd rfl z) (fun z => absurd rfl z) (prom _ ?_)
    refine .inr ⟨_, us.toArray, _, hk, rfl, rfl, rfl, ?_, by simpa using rv⟩
    rw [List.size_toArray, inS.length]
    exact len
  | none =>
    have at_ : (fun b => if b = sc then some (HO.frz { cls := .type "list", data := .seq us.toArray } (.lst (ns.map V.int))) else none) sc = some (.frz { cls := .type "list", data := .seq us.toArray } (.lst (ns.map V.int))) := if_pos rfl
    refine go (fun b => if b = sc then some (.frz { cls := .type "list", data := .seq us.toArray } (.lst (ns.map V.int))) else none) (fun b => ?_) (fun b u z => ?_) (fun b z => ?_) (fun _ => hk) (prom _ (.inl (.inr ⟨_, at_⟩)))
    · by_cases hb : b = sc
      · subst hb
        exact .inr ⟨_, _, at_⟩
      · exact .inl (if_neg hb)
    · by_cases hb : b = sc
      · subst hb
        rw [at_] at z
        cases z
        refine ⟨there, ?_, us, _, rv, there⟩
        rw [List.length_map]
        exact len
      · have no := (if_neg hb).symm.trans z
        cases no
    · refine Classical.byContradiction fun hb => z (if_neg hb)
end
/-- the goal that k_head leaves, from the law's promise -/
theorem walkG {l : PySem.W.OpenLaw} {n k : Nat} {q : Program} {loose : List Str} {XP : (Str → Option Value) → Heap → Prop} {YP : World → Heap → Prop} {d : DefRec} {K : Params → PySem.W.Frag} {sp : PySem.W.Frag → Sp}
    (hn : l.most = some n) (hn2 : n ≤ sizeLine) (hdf : d.params.defaults = []) (room : Room k callerA) (hY : ∀ (w : World) (h : Heap), YP w h → (K w.params).In h)
    (F : ∀ (w : World) (mg : Str → Option Value) (fa : Addr) (h : Heap), (K w.params).In h → h.Ns mainGlobals mg → mg d.name = some (.ref fa) → ∀ base : Heap, FnG l.prog w (K w.params) mg base CX0 k fa (sp (K w.params)))
    (prom : ∀ (K : PySem.W.Frag) (H : Hp) (a : Addr) (ns : List Int), ns.length ≤ n → SqL K H a (ns.map V.int) → sp K [.ref a] H (fun v _ => v = .bl true) E0) :
    PySem.W.WalkO q loose XP YP l.row.toRowW d [] (fun f vs => PySem.call f vs) := by
  refine Att.attach_call hn hdf fun w s0 s1 mg mb fa o pm cd doc a vs ns G Y ho hd hcd hmg hobj hints hlen hg => ?_
  have inK := hY w _ Y
  exact law_callG inK G.T.g G.T.b G.T.builtins G.T.nolimit hg hobj hints (Nat.le_trans hlen hn2) room (F w mg fa _ inK G.T.g hmg) fun H hS => prom _ H a ns hlen hS
end U
namespace U
open PySem PySem.Spec PyProof.Rows L2 StX
/-! ### defs called while an exception is handled -/
end U
namespace U
open PySem PySem.Spec PyProof.Rows L2 StX
/-- o.m(e, ..), what it raises told by the slots -/
def tMethRS (C : Addr) (m : Str) (sp : Sp) (E : L2.St → XK) (ta : TE) (t : TA) : TE := fun σ H Q => ta σ H fun x H1 => ∃ a dx fs, x = .ref a ∧ H1 a = some (.ins C dx fs) ∧ fs.lookup m = none ∧ t σ H1 fun vs H2 => sp (x :: vs) H2 Q (E σ)
theorem pe_methRS {X : Cx} {CX : CXT} {k : Nat} {C f : Addr} {m : Str} {sp : Sp} {E : L2.St → XK} {o e : Expr} {es : List Expr} {ta : TE} {t : TA} {apos pos : Pos} {pl : Sem Bool} (he : PE X o ta) (c : Cls X.K C) (hm : Meth X.K C m f)
    (F : FnR X.prog X.w X.K X.mg X.base CX k f sp) (hr : Room k X.A) (hx : ∀ σ, PassesAt CX X σ (E σ)) (ha : PA X (e :: es) t)
    (hst : starEach (e :: es) X.env = (false, eval e X.env) :: starEach es X.env := by rfl) (hpl : (backTo pos (starEach es X.env)).any (·.1) = false := by rfl)
    (ht : eval (.Call (.Attribute o m apos) (e :: es) [] pos) X.env = (do
        let ov ← eval o X.env
        standAt apos.atName
        let (f, first) ← holding [ov] (getMethod ov m pl)
        callWith pos f first (backTo pos (starEach (e :: es) X.env)) (backToKw pos (keywordEach [] X.env))) := by rfl) :
    PE X (.Call (.Attribute o m apos) (e :: es) [] pos) (tMethRS C m sp E ta t) := by
  refine ⟨fun pins s σ H Q I h => PySem.W.methodCall_KW (pl := pl) (thn (he.run pins s σ H _ I h) fun u s1 ⟨x, H1, I1, rx, a, dx, fs, ex, ea, l, q⟩ => ?_) ht⟩
  subst ex
  cases (show u = Value.ref a from rx)
  refine getmeth_ok I1 ea c hm l (PySem.W.callWith_K (first := [.ref a]) (h₀ := X.base) I.ok.mod.kin hm.kp (thn (ha.run pos pins s1 σ H1 _ I1 q) fun us s2 ⟨vs, H2, I2, r, q2⟩ => ⟨I2.kIn, ?_⟩) hst hpl)
  exact wpAny_call (run_RS (us := .ref a :: us) (vs := .ref a :: vs) F hr (hx σ) I2 (.cons rfl r) q2)
end U
namespace U
open PySem PySem.Spec PyProof.Rows L2 StX
end U
namespace U
open PySem PySem.Spec PyProof.Rows L2 StX PySem.W
end U
namespace U
open PySem PySem.Spec PyProof.Rows L2 StX
/-! ### x op i, the class's own, i an int -/
/-- what is asked of a class whose operator takes an int -/
structure BinT (K : PySem.W.Frag) (C : Addr) (op : Operator) : Prop where
  rc : ∃ r, PySem.W.findIn K (.ref C) (dunderR op.info.2) = some r ∧ (r = none ∨ ∃ g : Addr, r = some (.ref g))
  h1 : ∃ r, PySem.W.findIn K (.type "int") (PySem.dunder op.info.2) = some r
  h2 : ∃ r, PySem.W.findIn K (.type "int") (dunderR op.info.2) = some r
  sub : PySem.W.subIn K (.type "int") (.ref C) = some false
def rBinI (C : Addr) (sp : Sp) (E : XK) : R2 := fun x y H Q => ∃ a dx fs i, x = .ref a ∧ y = .int i ∧ H a = some (.ins C dx fs) ∧ sp [x, y] H Q E
section
variable {X : Cx} {CX : CXT} {C g : Addr} {n : Nat} {sp : Sp} {E : XK}
theorem op_binI {op : Operator} (hb : BinT X.K C op) (hc : PySem.W.selfFirst X.K C = true) (hs : PySem.W.findIn X.K (.ref C) (PySem.dunder op.info.2) = some (some (.ref g))) (hf : PySem.W.isFn X.K (.ref g) = true) (F : FnR X.prog X.w X.K X.mg X.base CX n g sp)
    (hr : Room n X.A) (hx : Passes CX X E) : OpR X (binaryOp op) (rBinI C sp E) := by
  intro pins s σ H x y v u Q I rx ry h
  obtain ⟨a, dx, vs, i, rfl, rfl, ha, q⟩ := h
  cases (show v = Value.ref a from rx)
  have ry' := ry
  obtain ⟨t, rfl⟩ := ry
  obtain ⟨ox, od, J⟩ := ins_inst I ha
  obtain ⟨m, hF⟩ := I.fr
  obtain ⟨rc, r1, r2⟩ := hb.rc
  obtain ⟨fo, r3⟩ := hb.h1
  obtain ⟨ro, r4⟩ := hb.h2
  refine PySem.W.ksp_binT (T := "int") hF I.ok.mod.kin J rfl hc hs hf r1 r2 r3 r4 hb.sub ?_
  refine wpAny_mono (wpAny_call (run_fnR (us := [.ref a, .int i t]) (vs := [.ref a, .int i]) F hr hx I (.cons rfl (.cons ry' .nil)) q)) (fun w s' z => ?_) fun _ _ x => x
  obtain ⟨z', H', I', rz, qz⟩ := z
  exact SlX.cmpback rz ⟨z', H', I', rz, qz⟩
end
/-! ### list(d.items()), the dict locked or not -/
def rItemsR : V → Hp → VK → Prop := fun x H Q => ∃ (d : Addr) (kvs : List (Key × V)), x = .ref d ∧ Rd H d (.dK kvs) ∧
  ∀ (H' : Hp) (p : Addr) (ts : List Addr), (∀ b o, H b = some o → H' b = some o) → H p = none → (∀ t ∈ ts, H t = none) → p ∉ ts → H' p = some (.lst (ts.map V.ref)) → Paired (fun (t : Addr) (q : Key × V) => H' t = some (.tup [kV q.1, q.2])) ts kvs → Q (.ref p) H'
def tItemsR (te : TE) : TE := fun σ H Q => te σ H fun x H1 => rItemsR x H1 Q
theorem pe_itemsR {X : Cx} {e : Expr} {te : TE} {p apos cpos pos : Pos} (hc : X.calm = true) (he : PE X e te) (hg : Gl X "list") (hm : X.mg "list" = none) (hv : bootBuiltins "list" = some (.type "list")) (hbase : attributeBase e "items" X.env (eval e X.env) = eval e X.env := by rfl) (hline : (apos.endLine == cpos.line) = true := by rfl)
    (hs : starEach [.Call (.Attribute e "items" apos) [] [] cpos] X.env = (false, eval (.Call (.Attribute e "items" apos) [] [] cpos) X.env) :: starEach [] X.env := by rfl) :
    PE X (.Call (.Name "list" p) [.Call (.Attribute e "items" apos) [] [] cpos] [] pos) (tItemsR te) := by
  refine ⟨fun pins s σ H Q I hq => wpAny_Call_Name_kw (ld_blt I hg hm hv (PyProof.Rows.callWith_type1 ?_ hs rfl))⟩
  rw [hs]
  show wpAny _ _ (spliced ((false, eval (.Call (.Attribute e "items" apos) [] [] cpos) X.env) :: backTo pos (starEach [] X.env))) _ _ s
  refine Calls.spliced_cons (wpAny_Call_method (T := "dict") (id := "dict.items") hbase rfl hline F.plainAttrs_dict F.slot_dict_items F.type_dict_items (thn (he.run pins s σ H _ I hq) fun u s1 ⟨x, H1, I1, rx, d, kvs, ex, hd, q⟩ => ?_))
  subst ex
  obtain rfl : u = Value.ref d := rx
  obtain ⟨hz, hs0, vs, kv, hdo⟩ := dk_rd I1.hok hd
  obtain ⟨ep, hat⟩ := hdo.dictAt
  have lk : kvs.length = vs.length := Paired.length kv
  have I2 : Inv X pins σ H1 { s1 with heap := s1.heap.push { cls := .type "dict_items", data := .fields #[.ref d] } } := I1.kept (t' := s1.toks) fun b ob q => Heap.get?_push_of_some _ q
  refine ⟨hdo.typeIs, hdo.mapOf.noDict, ?_⟩
  show wpAny _ _ (callWith cpos (.builtin "dict.items") [.ref d] [] []) _ X.xe s1
  refine method_meetsIn F.slot_dict_items F.entry_dict_items rfl (PySem.evalArgs_none ⟨rfl, hdo.typeIs, F.args_dict_items_1 _, _, meets_dict_items (mixKind X.prog X.w) d hs0, ⟨vs, hdo⟩, Calls.spliced_nil ?_⟩)
  refine PySem.W.kdx_call (knd := mixKind X.prog X.w) (kvs := vs) (ep := ep) (I1.ok.hd hc) ⟨_, Heap.get?_push_size _ rfl, rfl, rfl⟩ (hat.push _) (by omega) fun h' tk acc c as hk hS hl hG hacc => ?_
  obtain ⟨H', k1, k2, k3, k4, k5, k6, J⟩ := LiI.items_laid (tk := tk) I2 hz kv hk hS hl hG hacc
  exact ⟨.ref _, H', J, rfl, q H' _ as k1 k2 k3 k4 k5 k6⟩
end U
namespace U
open PySem PySem.Spec PyProof.Rows L2
/-! ### several clauses 'except x as n' -/
end U
namespace U
open PySem L2
/-! ### facts of heaps, for the search -/
theorem carry {H H' : Hp} {a : Addr} {o : HO} (s : L2.Same H H') (h : H a = some o) : H' a = some o := s a o h
theorem carryNew {H : Hp} {p a : Addr} {o u : HO} (hp : H p = none) (h : H a = some u) : upd H p o a = some u := (Same.new hp) a u h
theorem freeUp {H : Hp} {p q : Addr} {o : HO} (h : upd H q o p = none) : H p = none := by
  by_cases e : p = q
  · subst e; rw [upd_same] at h; cases h
  · rw [upd_ne e] at h; exact h
theorem freeVia {H H' : Hp} {p : Addr} (s : L2.Same H H') (h : H' p = none) : H p = none := s.free h
theorem sameUp {H H1 : Hp} {p : Addr} {o : HO} (hp : H1 p = none) (s : L2.Same H H1) : L2.Same H (upd H1 p o) := s.trans (Same.new hp)
theorem sameVia {H H1 H2 : Hp} (b : L2.Same H1 H2) (a : L2.Same H H1) : L2.Same H H2 := a.trans b
theorem upd_facts {H H1 : Hp} {p : Addr} {o : HO} (h : upd H p o = H1) (n : H p = none) : L2.Same H H1 ∧ H1 p = some o := by
  subst h
  exact ⟨Same.new n, upd_same⟩
theorem nil_le : ([] : List V).length ≤ sizeLine := by decide
theorem one_le {a : V} : [a].length ≤ sizeLine := by show 1 ≤ sizeLine; decide
theorem two_le {a b : V} : [a, b].length ≤ sizeLine := by show 2 ≤ sizeLine; decide
theorem three_le {a b c : V} : [a, b, c].length ≤ sizeLine := by show 3 ≤ sizeLine; decide
theorem le_line {n : Nat} (h : n ≤ 100000) : n ≤ sizeLine := Nat.le_trans h (by decide)
theorem lt_line {n : Nat} (h : n ≤ 100000) : n < sizeLine := Nat.lt_of_le_of_lt h (by decide)
end U
namespace U
open PySem PySem.Spec PyProof.Rows L2 GQ PySem.SeqAt MeetsSeq MeetsSeq2 MeetsSeq3 SeqRoads2
open AutoSeq1 (wpAny_loadPart')
/-! ### defs with a star parameter -/
structure StarAt (K : PySem.W.Frag) (x qual : Str) (st : Stmt) (f : Addr) (ps : List Str) (pv : Str) : Prop where
  ex : ∃ fd, Fun K x qual st f fd ∧ ∀ us rest : List Value, us.length = ps.length → bindArgs fd ⟨us ++ rest, []⟩ = (newTuple rest >>= fun t => pure (ps.zip us ++ [(pv, t)]))
theorem StarAt.kp {K : PySem.W.Frag} {x qual : Str} {st : Stmt} {f : Addr} {ps : List Str} {pv : Str} (A : StarAt K x qual st f ps pv) : PySem.W.keepIn K (.ref f) = true := by
  obtain ⟨_, F, _⟩ := A.ex
  exact F.kp
/-- what is asked of the arguments: the named ones, then a new tuple of the rest -/
def spStar (n : Nat) (sp : Sp) : Sp := fun vs H Q E => ∃ ws rest, vs = ws ++ rest ∧ ws.length = n ∧ rest.length ≤ sizeLine ∧ ∀ p, H p = none → sp (ws ++ [V.ref p]) (upd H p (.tup rest)) Q E
section
variable {P : Program} {w : World} {K : PySem.W.Frag} {mg : Str → Option Value} {base : Heap} {x qual pv : Str} {st : Stmt} {f : Addr} {N ps : List Str} {k : Nat} {sp : Sp}
theorem StarAt.okX (B : StarAt K x qual st f ps pv) (S : FnScope N (ps ++ [pv]) (defScope st))
    (walk : ∀ (cdv : Value) (A : Around) (outer : List Env) (s : Shared) (H : Hp) (vs : List V) (Q : VK) (E : XK), Room k (A.deeper (envOfC qual (defScope st) s.heap.objs.size f cdv)) → sp vs H Q E →
      ∃ t, PSs (cxOf (L2.CX P w) P w K mg base N qual (defScope st) f cdv A outer s H E) (defBody st) t ∧ t { nx := fun _ H' => Q .non H', rt := Q } (start N vs) H) : FnR P w K mg base (L2.CX P w) (k + 1) f (spStar ps.length sp) := by
  obtain ⟨fd, F, hb⟩ := B.ex
  obtain ⟨oc, od, kV, doc, pm, an, cdv, ct, osl, rfl, lk, hcd⟩ := F.ex
  exact StX.fn_star lk hcd S StX.cxUp hb fun A outer s H vs Q E hr h => walk cdv A outer s H vs Q E hr h
theorem StarAt.ok (B : StarAt K x qual st f ps pv) (S : FnScope N (ps ++ [pv]) (defScope st))
    (walk : ∀ (cdv : Value) (A : Around) (outer : List Env) (s : Shared) (H : Hp) (vs : List V) (Q : VK) (E : XK), Room k (A.deeper (envOfC qual (defScope st) s.heap.objs.size f cdv)) → sp vs H Q E →
      ∃ t, PSs (cxOf CX0 P w K mg base N qual (defScope st) f cdv A outer s H E).nox (defBody st) t ∧ t { nx := fun _ H' => Q .non H', rt := Q } (start N vs) H) : FnR P w K mg base CX0 (k + 1) f (spStar ps.length sp) := by
  obtain ⟨fd, F, hb⟩ := B.ex
  obtain ⟨oc, od, kV, doc, pm, an, cdv, ct, osl, rfl, lk, hcd⟩ := F.ex
  refine StX.fn_star lk hcd S StX.cxUp_none hb fun A outer s H vs Q E hr h => ?_
  obtain ⟨t, a, b⟩ := walk cdv A outer s H vs Q E hr h
  exact ⟨t, a.nox, b⟩
end
/-! ### == by an own __eq__, inside lists and tuples -/
end U
namespace U
open PySem PySem.Spec PyProof.Rows L2 StX LamX
/-! ### defs with lambdas: the code object's place is told -/
structure CodeAt (K : PySem.W.Frag) (x qual : Str) (st : Stmt) (f c : Addr) (ps : List Str) : Prop where
  ex : ∃ (oc : Value) (od : Option Addr) (kV doc pm : Value) (an : Option Addr) (ct : Value) (osl : Array (Option Value)),
    K.lookup f = some ⟨oc, od, .func (PySem.W.fnOf x qual (defArgs st) (defBody st) (defScope st) .none kV doc pm an (.ref c) ct), osl⟩ ∧ PySem.W.codeIn K (.ref c) qual = true ∧ Binds K (PySem.W.fnOf x qual (defArgs st) (defBody st) (defScope st) .none kV doc pm an (.ref c) ct) ps []
section
variable {P : Program} {w : World} {K : PySem.W.Frag} {mg : Str → Option Value} {base : Heap} {k : Nat} {f c : Addr} {sp : Sp} {x qual : Str} {st : Stmt} {N ps : List Str}
theorem CodeAt.okG (B : CodeAt K x qual st f c ps) (S : FnScope N ps (defScope st)) (len : ∀ vs H Q E, sp vs H Q E → vs.length = ps.length)
    (walk : ∀ (A : Around) (outer : List Env) (s : Shared) (H : Hp) (vs : List V) (Q : VK) (E : XK), A.guards = some [] → Room k (A.deeper (envOfC qual (defScope st) s.heap.objs.size f (.ref c))) → sp vs H Q E →
      ∃ t, PSs (cxOf CX0 P w K mg base N qual (defScope st) f (.ref c) A outer s H E).nox (defBody st) t ∧ t { nx := fun _ H' => Q .non H', rt := Q } (start N vs) H) : FnG P w K mg base CX0 (k + 1) f sp := by
  obtain ⟨oc, od, kV, doc, pm, an, ct, osl, lk, hcd, bi⟩ := B.ex
  intro A outer s H us vs Q E g hr e0 r hs
  have hl := len _ _ _ _ hs
  have kin : K.In s.heap := e0.mod.kin.keeps fun b o e => (e0.bs b o e).1
  have lim : s.heap.NoLimit := e0.mod.nolimit.keeps fun b o e => (e0.bs b o e).1
  have names : ∀ y ∈ ps.zip us, (defScope st).names.lookup y.1 = some .local ∨ ((defScope st).names.lookup y.1 = some .cell ∧ ((cellsFrom (s.heap.objs.size + 1) (defScope st).names []).lookup y.1).isSome = true) := by
    rintro ⟨n, v⟩ hy
    rcases S.par n (List.of_mem_zip hy).1 with q | q
    · exact .inl q
    · exact .inr ⟨q, PySem.W.cellsFrom_some _ _ _ (.inl q)⟩
  have hb : BindsTo s (PySem.W.fnOf x qual (defArgs st) (defBody st) (defScope st) .none kV doc pm an (.ref c) ct) ⟨us, []⟩ (ps.zip us) := by
    have := bi s us kin (by rw [List.append_nil, ← r.length]; exact hl)
    rw [List.append_nil] at this
    exact this
  refine codeAny_call_function hr.depth (kin _ _ lk) rfl S.co S.gen rfl (PySem.W.codeRec_of kin hcd) (hb _ _ _ _ ?_)
  refine wpAny_newFunctionEnv_cells S.kind names fun env he s1 z => ?_
  subst he
  refine ⟨lim.keeps z.toInCall.keep, codeAny_func ?_⟩
  obtain ⟨t, ht, hq⟩ := walk A outer s H vs Q E g (hr.deeper _) hs
  have I : Inv (cxOf CX0 P w K mg base N qual (defScope st) f (.ref c) A outer s H E) [] (start N vs) H s1 := inv_start S hr.hd e0 hl r z
  refine wpAny_mono (ht.nox.run [] s1 (start N vs) H _ I hq) (fun fl s' h' => ?_) fun _ _ h' => h'
  match fl, h' with
  | .ret u, ⟨v, σ', H', J, rv, q⟩ => exact ⟨v, H', J.os, J.bare, J.base, J.hok, rv, q⟩
  | .next, ⟨σ', H', J, q⟩ => exact ⟨.non, H', J.os, J.bare, J.base, J.hok, rfl, q⟩
  | .brk, ⟨_, _, _, q⟩ => exact q.elim
  | .cont, ⟨_, _, _, q⟩ => exact q.elim
end
/-! ### the law's call, tables tracked -/
/-! ### what a lambda's caller makes of its exceptions -/
/-! ### heaps that grow but for the tables -/
end U
namespace U
open PySem PySem.Spec PyProof.Rows L2 StX LamX
end U
namespace U
open PySem PySem.Spec PyProof.Rows L2
/-! ### x not in a tuple, data of any depth -/
end U
namespace U
open PySem PySem.Spec PyProof.Rows L2
/-! ### dicts of ints in a list: in, not in, index -/
end U
namespace U
open PySem PySem.Spec PyProof.Rows L2 StX
end U
namespace U
open PySem PySem.Spec PyProof.Rows L2 StX NdefX
/-! ### a def of a class whose first statement is super().m(..) -/
/-- what is asked of the program around: the file of its code objects, super not hidden at the top -/
structure SupP (P : Program) (file : Str) : Prop where
  file : ((P.main.file : Str) == file) = true
  top : (P.main.scope.names.lookup ("super" : Str)).isSome = false
structure SupAt (K : PySem.W.Frag) (x qual : Str) (st : Stmt) (f c cc D : Addr) (ps : List Str) (file : Str) : Prop where
  ex : ∃ (oc : Value) (od : Option Addr) (kV doc pm : Value) (an : Option Addr) (ct : Value) (osl : Array (Option Value)),
    K.lookup f = some ⟨oc, od, .func (PySem.W.fnX x qual (defArgs st) (defBody st) (defScope st) [("__class__", cc)] .none kV doc pm an (.ref c) ct), osl⟩ ∧ PySem.W.codeIn K (.ref c) qual = true ∧ Binds K (PySem.W.fnX x qual (defArgs st) (defBody st) (defScope st) [("__class__", cc)] .none kV doc pm an (.ref c) ct) ps []
  code : ∃ (ccl : Value) (cdd : Option Addr) (vs : Array Value) (ccs : Array (Option Value)) (tf : Tok), K.lookup c = some ⟨ccl, cdd, .fields vs, ccs⟩ ∧ vs[2]? = some (.str file tf)
  cell : ∃ (cl : Value) (cld : Option Addr) (csl : Array (Option Value)), K.lookup cc = some ⟨cl, cld, .cell (some (.ref D)), csl⟩
  cls : ∃ cd, PySem.W.clsIn K D = some cd
  pos : ((defArgs st).posonlyargs ++ (defArgs st).args).head?.map (·.arg) = ps[0]?
  nosuper : PySem.W.nsIn K mainGlobals "super" = some none
  noop : PySem.W.nsIn K cStatics "thirdparty.any" = some none
  scS : (defScope st).names.lookup ("super" : Str) = some .globalImplicit
  scC : (defScope st).names.lookup ("__class__" : Str) = some .free
/-- the method that super().m finds, for an instance of the class at C -/
structure SupM (K : PySem.W.Frag) (C D : Addr) (m : Str) (f2 : Addr) : Prop where
  sub : PySem.W.mroIn K C (.ref D) = some true
  at_ : PySem.W.ks_superIn K C D m = some (some (.ref f2))
  ty : PySem.W.typeIn K (.ref f2) = some (.type "function")
  fi : PySem.W.fnIn K f2 = true
  cl : (m == ("__class__" : Str)) = false
section
variable {X : Cx} {pins : List (Addr × Obj)} {σ : L2.St} {H : Hp} {s : Shared} {C D dx x f2 : Addr} {fs : List (Str × V)} {m : Str}
/-- super().m(..) run within the def's own code -/
theorem run_super {CX : CXT} {k2 : Nat} {sp2 : Sp} {Q : VK} {E : XK} {t : TA} {body : List Stmt} {p0 p1 apos pos epos : Pos} {e : Expr} {qual : Str} {st : Stmt} {name : Str} {f c cc : Addr} {ps : List Str} {file s0 : Str}
    (B : SupAt X.K name qual st f c cc D ps file) (hP : SupP X.prog file) (M : SupM X.K C D m f2) (F : FnR X.prog X.w X.K X.mg X.base CX k2 f2 sp2) (hr : Room k2 X.A) (hx : Passes CX X E)
    (hsc : X.env.scope = defScope st) (hfu : X.env.func = some f) (hco : X.env.code = .ref c) (hcl : X.env.cells.lookup ("__class__" : Str) = some cc) (hps : ps[0]? = some s0) (hN : X.N[0]? = some s0) (hloc : X.env.scope.names.lookup s0 = some .local)
    (I : Inv X pins σ H s) (hv : σ[0]? = some (some (.ref x))) (ea : H x = some (.ins C dx fs)) (ha : PA X [e] t)
    (h : t σ H fun vs H1 => sp2 (.ref x :: vs) H1 Q E)
    (hint : interactive X.env = false) (hsw : swapsWith (.Call (.Attribute (.Call (.Name "super" p0) [] [] p1) m apos) [e] [] pos) none epos.line X.env = pure false)
    (hst : starEach [e] X.env = [(false, eval e X.env)]) (pl : Sem Bool)
    (he : eval (.Call (.Attribute (.Call (.Name "super" p0) [] [] p1) m apos) [e] [] pos) X.env = (do
      let ov ← attributeBase (.Call (.Name "super" p0) [] [] p1) m X.env (eval (.Call (.Name "super" p0) [] [] p1) X.env)
      standAt apos.atName
      let (f, first) ← holding [ov] (getMethod ov m pl)
      callWith pos f first (backTo pos (starEach [e] X.env)) [])) :
    PySem.wpAt (model X.prog X.w) X.A (.func body X.env) (exec (.Expr (.Call (.Attribute (.Call (.Name "super" p0) [] [] p1) m apos) [e] [] pos) epos) X.env)
      (fun fl s' => fl = .next ∧ ∃ v H2, Inv X pins σ H2 s' ∧ Q v H2) X.xe s := by
  obtain ⟨oc, od, kV, doc, pm, an, ct, osl, lk, hcd, bi⟩ := B.ex
  obtain ⟨ccl, cdd, vs2, ccs, tf, hcode, hvs⟩ := B.code
  obtain ⟨cl0, cld, csl, hcell⟩ := B.cell
  obtain ⟨cdD, hD⟩ := B.cls
  have KX := I.kIn
  obtain ⟨oD, hD1, hD2⟩ : ∃ oD, s.heap.get? D = some oD ∧ oD.data = .cls cdD := by
    unfold PySem.W.clsIn at hD
    split at hD
    · rename_i c d cd' sl ho
      cases hD
      exact ⟨_, KX _ _ ho, rfl⟩
    · cases hD
  obtain ⟨ar, har, har2⟩ : ∃ ar : Arg, ((defArgs st).posonlyargs ++ (defArgs st).args).head? = some ar ∧ ar.arg = s0 := by
    have := B.pos
    rw [hps] at this
    cases z : ((defArgs st).posonlyargs ++ (defArgs st).args).head? with
    | none => rw [z] at this; cases this
    | some ar => rw [z] at this; exact ⟨ar, rfl, Option.some.inj this⟩
  obtain ⟨mA, O, _, _, _, _⟩ := ins_get I.hok ea
  obtain ⟨odx, J, _⟩ := O.look
  refine PySem.ks_wpAt_Expr_any ?_ hint hsw
  refine PySem.ks_wpAt_MethodCall (pl := pl) ?_ he
  refine PySem.ks_wpAt_super_base (env := X.env) (fd := PySem.W.fnX name qual (defArgs st) (defBody st) (defScope st) [("__class__", cc)] .none kV doc pm an (.ref c) ct) (by show X.env.scope.names.lookup _ = _; rw [hsc]; exact B.scS) (by show X.env.scope.names.lookup _ = _; rw [hsc]; exact B.scC) M.cl hfu (KX _ _ lk) rfl (ar := ar) har hco (KX _ _ hcode) rfl hvs hP.file hP.top ?_
  have hgs : X.env.kindOf ("super" : Str) = some .globalImplicit := by show X.env.scope.names.lookup _ = _; rw [hsc]; exact B.scS
  refine PySem.W.ks_loadName_global I.ok.kind hgs ?_
  obtain ⟨mb, h1, h2⟩ := I.mod.blt
  refine Calls.loadGlobal_builtin (by rw [I.ok.glob]; exact I.mod.glob.keeps I.bk) (PySem.W.mg_none_of I.mod.kin I.mod.glob B.nosuper) (by rw [I.ok.blt]; exact h1.keeps I.bk) ((h2 "super" (by decide +kernel)).trans (by rfl)) ⟨rfl, ?_⟩
  refine wpAny_loadName_free I.ok.kind (by show X.env.scope.names.lookup _ = _; rw [hsc]; exact B.scC) hcl ⟨_, KX _ _ hcell, rfl⟩ ?_
  obtain ⟨mL, hns, hal⟩ := I.loc
  obtain ⟨u, ru, hlook⟩ := hal 0 s0 (.ref x) hN hv (Or.inl hloc)
  obtain rfl : u = Value.ref x := ru
  have hmL : mL s0 = some (.ref x) := by
    rcases hlook with ⟨_, z⟩ | ⟨z, _⟩
    · exact z
    · rcases z with z | z
      · rw [show X.env.kindOf s0 = some .local from hloc] at z; cases z
      · rw [show X.env.kindOf s0 = some .local from hloc] at z; cases z
  rw [har2]
  refine wpAny_loadName_local I.ok.kind hloc hns hmL ?_
  obtain ⟨hh, g, d, t0, os⟩ := s
  refine PySem.ks_wpAny_isType_cls hD1 hD2 ⟨rfl, ?_⟩
  refine PySem.ks_wpAny_call_super hD1 hD2 J.at_ J.cls (fun c e => ?_) (PySem.W.looks_mroIn KX M.sub) (fun h' ee kk => ?_)
  · have := J.no
    unfold PySem.W.notCls at this
    rw [e] at this
    exact Bool.noConfusion this
  -- the super object stands; its method
  have I2 : Inv X pins σ H ⟨h', g, d, t0, os⟩ := I.kept (t' := t0) kk
  have KX2 := I2.kIn
  cases hc : PySem.W.clsIn X.K C with
  | none => have := M.at_; unfold PySem.W.ks_superIn at this; rw [hc] at this; cases this
  | some cd =>
    have hm := M.at_
    unfold PySem.W.ks_superIn at hm
    rw [hc] at hm
    obtain ⟨of, hof, hofc⟩ : ∃ of, h'.get? f2 = some of ∧ of.cls = .type "function" := by
      have ht' : (X.K.lookup f2).map (·.cls) = some (.type "function") := M.ty
      cases z : X.K.lookup f2 with
      | none => rw [z] at ht'; cases ht'
      | some of => rw [z] at ht'; exact ⟨of, KX2 _ _ z, Option.some.inj ht'⟩
    refine PySem.ks_wpAny_getMethod_super ee (PySem.W.looks_opaque KX2 B.noop) (l₀ := cd.mro) ?_ rfl KX2 hm hof hofc (PySem.W.ks_ne KX J hc) M.cl ?_
    · exact fun A Q E s k q => wpAny_bind ((PySem.W.looks_clsIn KX2 hc) A _ E s k (wpAny_pure q))
    · have I3 : Inv X ((h'.objs.size, PySem.W.methodObj (.ref f2) (.ref x)) :: pins) σ H ⟨h'.push (PySem.W.methodObj (.ref f2) (.ref x)), g, d, t0 + 1, os⟩ := ClX.met_new I2
      refine ClX.callwith_cm I3 (ClX.base_none I2 (Nat.le_refl _)) M.fi (thn (ha.run pos _ _ σ H _ I3 h) fun us s3 ⟨vs, H2, I4, rv, q2⟩ => ⟨⟨ClX.pin_at I4, I4.kIn⟩, ?_⟩) hst rfl
      exact thn (ClX.run_cm F hr hx I4 rv q2) fun v s4 ⟨z, H3, I5, _, q3⟩ => ⟨rfl, z, H3, I5, q3⟩
end
/-- the def, by its first statement super().m(e) and the rest -/
theorem SupAt.okX {P : Program} {w : World} {K : PySem.W.Frag} {mg : Str → Option Value} {base : Heap} {CX : CXT} {k k2 : Nat} {name qual : Str} {st : Stmt} {f c cc D C f2 : Addr} {N ps : List Str} {file s0 m : Str} {sp sp2 : Sp} {p0 p1 apos pos epos : Pos} {e : Expr} {rest : List Stmt}
    (B : SupAt K name qual st f c cc D ps file) (hP : SupP P file) (M : SupM K C D m f2) (F : FnR P w K mg base CX k2 f2 sp2) (hk : k2 ≤ k)
    (S : NScope N ps ["__class__"] (defScope st)) (hps : ps[0]? = some s0) (hb : defBody st = .Expr (.Call (.Attribute (.Call (.Name "super" p0) [] [] p1) m apos) [e] [] pos) epos :: rest)
    (len : ∀ vs H Q E, sp vs H Q E → vs.length = ps.length)
    (walk : ∀ (A : Around) (outer : List Env) (s : Shared) (H : Hp) (vs : List V) (Q : VK) (E : XK) (X : Cx), X = ncx CX P w K mg base N ⟨name, qual, defArgs st, defBody st, defScope st, [("__class__", cc)], c⟩ f A outer s H E → Room k X.A → sp vs H Q E →
      Passes CX X E ∧ interactive X.env = false ∧ swapsWith (.Call (.Attribute (.Call (.Name "super" p0) [] [] p1) m apos) [e] [] pos) none epos.line X.env = pure false ∧ starEach [e] X.env = [(false, eval e X.env)] ∧
      (∃ pl : Sem Bool, eval (.Call (.Attribute (.Call (.Name "super" p0) [] [] p1) m apos) [e] [] pos) X.env = (do
        let ov ← attributeBase (.Call (.Name "super" p0) [] [] p1) m X.env (eval (.Call (.Name "super" p0) [] [] p1) X.env)
        standAt apos.atName
        let (f, first) ← holding [ov] (getMethod ov m pl)
        callWith pos f first (backTo pos (starEach [e] X.env)) [])) ∧
      ∃ (x dx : Addr) (fs : List (Str × V)) (t : TA), vs[0]? = some (.ref x) ∧ H x = some (.ins C dx fs) ∧ PA X [e] t ∧
        t (startF N vs [none]) H fun us H1 => sp2 (.ref x :: us) H1 (fun _ H2 => ∃ tt, PSs X rest tt ∧ tt { nx := fun _ H' => Q .non H', rt := Q } (startF N vs [none]) H2) E) :
    FnR P w K mg base CX (k + 1) f sp := by
  obtain ⟨oc, od, kV, doc, pm, an, ct, osl, lk, hcd, bi⟩ := B.ex
  intro A outer s H us vs Q E hr e0 r hs
  have hl := len _ _ _ _ hs
  have kin : K.In s.heap := e0.mod.kin.keeps fun b o e => (e0.bs b o e).1
  have lim : s.heap.NoLimit := e0.mod.nolimit.keeps fun b o e => (e0.bs b o e).1
  have hbn : BindsTo s (PySem.W.fnX name qual (defArgs st) (defBody st) (defScope st) [("__class__", cc)] .none kV doc pm an (.ref c) ct) ⟨us, []⟩ (ps.zip us) := by
    have := bi s us kin (by rw [List.append_nil, ← r.length]; exact hl)
    rw [List.append_nil] at this
    exact this
  refine codeAny_call_function hr.depth (kin _ _ lk) rfl S.co S.gen rfl (PySem.W.codeRec_of kin hcd) (hbn _ _ _ _ ?_)
  refine wpAny_newFunctionEnv S.nocell (fun ⟨n, _⟩ hy => S.par n (List.of_mem_zip hy).1) (fun h₁ hns hsb => ⟨lim.fresh _ hsb, ?_⟩) S.kind
  generalize hF : (⟨name, qual, defArgs st, defBody st, defScope st, [(("__class__" : Str), cc)], c⟩ : NF) = FF at walk
  have hFc : FF.cl = [(("__class__" : Str), cc)] := by rw [← hF]
  have hFs : FF.scope = defScope st := by rw [← hF]
  have hFb : FF.body = defBody st := by rw [← hF]
  have hFcc : FF.c = c := by rw [← hF]
  have henv : envF FF f s.heap.objs.size = PySem.W.envX qual (defScope st) s.heap.objs.size f (.ref c) [(("__class__" : Str), cc)] := by rw [← hF]
  have kp : ∀ b o, s.heap.get? b = some o → h₁.get? b = some o := fun b o e => hsb.extBut b o (Nat.ne_of_lt (Heap.lt_size e)) (Heap.get?_push_of_some _ e)
  obtain ⟨cl0, cld, csl, hcell⟩ := B.cell
  have CA : CellsAt FF.cl ["__class__"] [none] s.heap H := by
    rw [hFc]
    refine ⟨rfl, fun y a hy => ?_, fun a b a' h1 h2 => ?_, fun i y hi => ?_⟩
    · have : a = cc := by
        have hm := PySem.mem_of_lookup hy
        simp only [List.mem_singleton] at hm
        exact (Prod.mk.inj hm).2
      subst this
      exact ⟨(e0.bs _ _ (e0.mod.kin _ _ hcell)).2, _, _, kin _ _ hcell, rfl⟩
    · have m1 := PySem.mem_of_lookup h1
      have m2 := PySem.mem_of_lookup h2
      simp only [List.mem_singleton] at m1 m2
      rw [(Prod.mk.inj m1).1, (Prod.mk.inj m2).1]
    · match i, hi with
      | 0, hi =>
        cases hi
        exact ⟨cc, by simp [List.lookup], fun v hv => by cases hv⟩
      | i + 1, hi => simp at hi
  have I : Inv (ncx CX P w K mg base N FF f A outer s H E) [] (startF N vs [none]) H { s with heap := h₁, toks := s.toks + (ps.zip us).length } := inv_startN (by rw [hFs]; exact S) hr.hd e0 hl r CA hns kp
  obtain ⟨hx, hint, hsw, hst, ⟨pl, he⟩, x, dx, fs, t, hv0, ea, ha, hq⟩ := walk A outer s H vs Q E _ rfl (hr.deeper _) hs
  show codeAny _ _ (.func (defBody st) (PySem.W.envX qual (defScope st) s.heap.objs.size f (.ref c) [(("__class__" : Str), cc)])) _ _
  rw [← henv]
  refine PySem.ks_codeAny_funcAt ?_
  rw [hb]
  refine PySem.ks_wpAt_execs_cons ?_
  have hps0 : ps.length ≠ 0 := by
    intro z
    cases ps with
    | nil => cases hps
    | cons a b => cases z
  have hv : (startF N vs [none])[0]? = some (some (.ref x)) := by
    unfold startF
    rw [List.getElem?_append_left (by rw [List.length_map]; omega), List.getElem?_map, hv0]
    rfl
  have hN0 : N[0]? = some s0 := by
    have : (ps ++ [("__class__" : Str)])[0]? = some s0 := by rw [List.getElem?_append_left (by omega)]; exact hps
    rw [← S.pre, List.getElem?_take_of_lt (by simp)] at this
    exact this
  have hloc0 : (defScope st).names.lookup s0 = some .local := S.par s0 (List.mem_of_getElem? hps)
  refine PySem.ks_wpAt_mono (run_super (X := ncx CX P w K mg base N FF f A outer s H E) (body := _) B hP M F ((hr.deeper _).mono hk) hx hFs rfl (by show Value.ref FF.c = _; rw [hFcc]) (by show FF.cl.lookup _ = _; rw [hFc]; simp [List.lookup]) hps hN0 (by show FF.scope.names.lookup s0 = _; rw [hFs]; exact hloc0) I hv ea ha hq hint hsw hst pl he) (fun fl s' hh => ?_) fun e s' hh => hh
  obtain ⟨rfl, _, H2, I2, tt, htt, hqq⟩ := hh
  refine wpAt_of_wpAny ?_
  have fin : ∀ {σ' : L2.St} {H' : Hp} {v : V} {u : Value} {s' : Shared}, Inv (ncx CX P w K mg base N FF f A outer s H E) [] σ' H' s' → L2.RelV v u → Q v H' → CE outer P w H s Q u s' :=
    fun {σ' H' v u s'} J rv q => ⟨v, H', J.os, J.bare, J.base, J.hok, rv, q⟩
  refine wpAny_mono (htt.run [] _ (startF N vs [none]) H2 _ I2 hqq) (fun fl s' hs => ?_) fun e s' hs => hs
  cases fl with
  | ret u =>
    obtain ⟨v, σ', H', J, rv, q⟩ := hs
    exact fin J rv q
  | next =>
    obtain ⟨σ', H', J, q⟩ := hs
    exact fin (v := V.non) (u := Value.none) J rfl q
  | brk =>
    obtain ⟨_, _, _, q⟩ := hs
    exact False.elim q
  | cont =>
    obtain ⟨_, _, _, q⟩ := hs
    exact False.elim q
end U
namespace U
open PySem PySem.Spec PyProof.Rows L2 StX
/-! ### {o!r}, o an instance with its own __repr__ -/
end U
namespace U
open PySem PySem.Spec PyProof.Rows L2 GQ PySem.SeqAt MeetsSeq MeetsSeq2 MeetsSeq3 SeqRoads2
open AutoSeq1 (wpAny_loadPart')
/-! ### == of lists and tuples, with either result -/
/-- D x y H c: == of the two gives c -/
abbrev EqvB := V → V → Hp → Bool → Prop
def MonB (D : EqvB) : Prop := ∀ x y H H' c, Ext H H' → D x y H c → D x y H' c
def EqH (X : Cx) (n : Nat) (D : EqvB) : Prop :=
  ∀ (A : Around) (pins : List (Addr × Obj)) (s : Shared) (σ : L2.St) (H : Hp) (x y : V) (u v : Value) (c : Bool), Sub X n A → Inv X pins σ H s → RelV x u → RelV y v → D x y H c →
    wpAny (model X.prog X.w) A (eqBool u v) (fun r s' => r = c ∧ ∃ H', Inv X pins σ H' s' ∧ Ext H H') X.xe s
section
variable {X : Cx} {n m : Nat} {D D' : EqvB}
theorem EqH.mono (h : EqH X n D) (hn : n ≤ m) : EqH X m D := fun A pins s σ H x y u v c sb => h A pins s σ H x y u v c (sb.mono hn)
theorem EqH.or (h : EqH X n D) (h' : EqH X n D') : EqH X n (fun x y H c => D x y H c ∨ D' x y H c) := fun A pins s σ H x y u v c sb I rx ry d => by
  rcases d with d | d
  · exact h A pins s σ H x y u v c sb I rx ry d
  · exact h' A pins s σ H x y u v c sb I rx ry d
theorem MonB.or (h : MonB D) (h' : MonB D') : MonB (fun x y H c => D x y H c ∨ D' x y H c) := fun x y H H' c e d => d.elim (fun d => .inl (h x y H H' c e d)) fun d => .inr (h' x y H H' c e d)
end
end U
namespace PySem.W
open PySem PySem.Calls PyProof.Rows
end PySem.W
namespace U
open PySem PySem.Spec PyProof.Rows L2 StX
end U
namespace PM
open U
/-! ### one-to-one maps between parts of 0 .. n - 1 -/
abbrev PF := Int → Option Int
structure WF (n : Int) (f : PF) : Prop where
  dom : ∀ x y, f x = some y → 0 ≤ x ∧ x < n ∧ 0 ≤ y ∧ y < n
  inj : ∀ x x' y, f x = some y → f x' = some y → x = x'
def tabN (f : PF) (n : Nat) : List (Int × Int) := (List.range n).filterMap fun (i : Nat) => (f (i : Int)).map fun y => ((i : Int), y)
def tab (n : Int) (f : PF) : List (Int × Int) := tabN f n.toNat
theorem mem_tabN {f : PF} {n : Nat} {x y : Int} : (x, y) ∈ tabN f n ↔ f x = some y ∧ ∃ i : Nat, i < n ∧ x = (i : Int) := by
  unfold tabN
  rw [List.mem_filterMap]
  constructor
  · rintro ⟨i, hi, e⟩
    rw [List.mem_range] at hi
    cases h : f (i : Int) with
    | none => rw [h] at e; cases e
    | some z => rw [h] at e; cases e; exact ⟨h, i, hi, rfl⟩
  · rintro ⟨h, i, hi, rfl⟩
    exact ⟨i, List.mem_range.mpr hi, by rw [h]; rfl⟩
theorem mem_tab {n : Int} {f : PF} (w : WF n f) {x y : Int} : (x, y) ∈ tab n f ↔ f x = some y := by
  unfold tab
  rw [mem_tabN]
  constructor
  · exact fun h => h.1
  · intro h
    have := w.dom x y h
    exact ⟨h, x.toNat, by omega, by omega⟩
theorem keys_tabN (f : PF) (n : Nat) : ((tabN f n).map (·.1)).Nodup := by
  induction n with
  | zero => exact List.nodup_nil
  | succ n ih =>
    have e : tabN f (n + 1) = tabN f n ++ ((f (n : Int)).map fun y => ((n : Int), y)).toList := by
      unfold tabN
      rw [List.range_succ, List.filterMap_append]
      cases h : f (n : Int) <;> simp [h]
    rw [e, List.map_append, List.nodup_append]
    refine ⟨ih, ?_, ?_⟩
    · cases f (n : Int) <;> simp
    · intro a ha b hb e
      subst e
      obtain ⟨p, hp, rfl⟩ := List.mem_map.mp ha
      obtain ⟨x, y⟩ := p
      obtain ⟨_, i, hi, ex⟩ := mem_tabN.mp hp
      cases h : f (n : Int) with
      | none => rw [h] at hb; simp at hb
      | some z =>
        rw [h] at hb
        simp at hb
        omega
theorem keys_tab (n : Int) (f : PF) : ((tab n f).map (·.1)).Nodup := keys_tabN f _
theorem lk_tab {n : Int} {f : PF} (w : WF n f) (x : Int) : lk (tab n f) x = f x := by
  cases h : f x with
  | some y => exact lk_some (keys_tab n f) ((mem_tab w).mpr h)
  | none =>
    cases e : lk (tab n f) x with
    | none => rfl
    | some y =>
      have := (mem_tab w).mp (lk_mem e)
      rw [h] at this; cases this
theorem tab_len (n : Int) (f : PF) : (tab n f).length ≤ n.toNat := by
  unfold tab tabN
  exact Nat.le_trans (List.length_filterMap_le _ _) (by simp)
theorem vals_tab {n : Int} {f : PF} (w : WF n f) : ((tab n f).map (·.2)).Nodup := by
  have k := keys_tab n f
  have key : ∀ l : List (Int × Int), (∀ p ∈ l, f p.1 = some p.2) → (l.map (·.1)).Nodup → (l.map (·.2)).Nodup := by
    intro l
    induction l with
    | nil => intro _ _; exact List.nodup_nil
    | cons p r ih =>
      intro h nd
      rw [List.map_cons, List.nodup_cons] at nd ⊢
      refine ⟨fun hm => ?_, ih (fun q hq => h q (List.mem_cons_of_mem _ hq)) nd.2⟩
      obtain ⟨q, hq, e⟩ := List.mem_map.mp hm
      have h1 := h p List.mem_cons_self
      have h2 := h q (List.mem_cons_of_mem _ hq)
      rw [e] at h2
      have := w.inj _ _ _ h1 h2
      exact nd.1 (by rw [this]; exact List.mem_map.mpr ⟨q, hq, rfl⟩)
  exact key _ (fun p hp => (mem_tab w).mp hp) k
/-! ### the operations -/
def mul (f g : PF) : PF := fun x => (f x).bind g
def idn (n : Int) : PF := fun x => if 0 ≤ x ∧ x < n then some x else none
def inv (n : Int) (f : PF) : PF := fun y => ((tab n f).find? fun p => decide (p.2 = y)).map (·.1)
def le (f g : PF) : Prop := ∀ x y, f x = some y → g x = some y
theorem wf_mul {n : Int} {f g : PF} (wf : WF n f) (wg : WF n g) : WF n (mul f g) := by
  refine ⟨fun x y h => ?_, fun x x' y h h' => ?_⟩
  · unfold mul at h
    cases e : f x with
    | none => rw [e] at h; cases h
    | some z =>
      rw [e] at h
      have h1 := wf.dom x z e
      have h2 := wg.dom z y h
      omega
  · unfold mul at h h'
    cases e : f x with
    | none => rw [e] at h; cases h
    | some z =>
      cases e' : f x' with
      | none => rw [e'] at h'; cases h'
      | some z' =>
        rw [e] at h; rw [e'] at h'
        have := wg.inj z z' y h h'
        subst this
        exact wf.inj _ _ _ e e'
theorem wf_idn (n : Int) : WF n (idn n) := by
  refine ⟨fun x y h => ?_, fun x x' y h h' => ?_⟩
  · unfold idn at h
    split at h
    · cases h; omega
    · cases h
  · unfold idn at h h'
    split at h
    · split at h'
      · cases h; cases h'; rfl
      · cases h'
    · cases h
theorem inv_iff {n : Int} {f : PF} (w : WF n f) {x y : Int} : inv n f y = some x ↔ f x = some y := by
  unfold inv
  constructor
  · intro h
    cases e : (tab n f).find? (fun p => decide (p.2 = y)) with
    | none => rw [e] at h; cases h
    | some p =>
      rw [e] at h
      obtain ⟨a, b⟩ := p
      have h1 := List.find?_some e
      simp only [decide_eq_true_eq] at h1
      have h2 : a = x := Option.some.inj h
      subst h1 h2
      exact (mem_tab w).mp (List.mem_of_find?_eq_some e)
  · intro h
    have hm := (mem_tab w).mpr h
    cases e : (tab n f).find? (fun p => decide (p.2 = y)) with
    | none =>
      have := List.find?_eq_none.mp e _ hm
      simp at this
    | some p =>
      obtain ⟨a, b⟩ := p
      have h1 := List.find?_some e
      simp only [decide_eq_true_eq] at h1
      subst h1
      have h3 := (mem_tab w).mp (List.mem_of_find?_eq_some e)
      show some a = some x
      rw [w.inj _ _ _ h3 h]
theorem wf_inv {n : Int} {f : PF} (w : WF n f) : WF n (inv n f) := by
  refine ⟨fun y x h => ?_, fun y y' x h h' => ?_⟩
  · have := w.dom x y ((inv_iff w).mp h)
    omega
  · have h1 := (inv_iff w).mp h
    have h2 := (inv_iff w).mp h'
    rw [h1] at h2
    exact Option.some.inj h2
/-- a dict of pairs tells f -/
structure DI (l : List (Int × Int)) (f : PF) : Prop where
  nd : (l.map (·.1)).Nodup
  at_ : ∀ x, lk l x = f x
theorem DI.mem {l : List (Int × Int)} {f : PF} (d : DI l f) {x y : Int} : (x, y) ∈ l ↔ f x = some y := by
  rw [← d.at_]
  exact ⟨lk_some d.nd, lk_mem⟩
theorem di_tab {n : Int} {f : PF} (w : WF n f) : DI (tab n f) f := ⟨keys_tab n f, lk_tab w⟩
theorem DI.vals {n : Int} {l : List (Int × Int)} {f : PF} (d : DI l f) (w : WF n f) : (l.map (·.2)).Nodup := by
  obtain ⟨nd, _⟩ := id d
  have key : ∀ r : List (Int × Int), (∀ p ∈ r, f p.1 = some p.2) → (r.map (·.1)).Nodup → (r.map (·.2)).Nodup := by
    intro r
    induction r with
    | nil => intro _ _; exact List.nodup_nil
    | cons p r ih =>
      intro h nd
      rw [List.map_cons, List.nodup_cons] at nd ⊢
      refine ⟨fun hm => ?_, ih (fun q hq => h q (List.mem_cons_of_mem _ hq)) nd.2⟩
      obtain ⟨q, hq, e⟩ := List.mem_map.mp hm
      have h1 := h p List.mem_cons_self
      have h2 := h q (List.mem_cons_of_mem _ hq)
      rw [e] at h2
      have := w.inj _ _ _ h1 h2
      exact nd.1 (by rw [this]; exact List.mem_map.mpr ⟨q, hq, rfl⟩)
  exact key l (fun p hp => d.mem.mp hp) nd
theorem di_of {l : List (Int × Int)} {f : PF} (nd : (l.map (·.1)).Nodup) (h : ∀ x y, (x, y) ∈ l ↔ f x = some y) : DI l f := by
  refine ⟨nd, fun x => ?_⟩
  cases e : f x with
  | some y => exact lk_some nd ((h x y).mpr e)
  | none =>
    cases e2 : lk l x with
    | none => rfl
    | some y =>
      have := (h x y).mp (lk_mem e2)
      rw [e] at this; cases this
end PM
namespace PM
open U
/-! ### powers -/
def iter (f : PF) : Nat → PF
  | 0 => fun x => some x
  | k + 1 => fun x => (iter f k x).bind f
theorem iter_add (f : PF) (a b : Nat) (x : Int) : iter f (a + b) x = (iter f a x).bind (iter f b) := by
  induction b with
  | zero => simp [iter]
  | succ b ih =>
    show (iter f (a + b) x).bind f = _
    rw [ih]
    cases iter f a x <;> rfl
theorem iter_one (f : PF) : iter f 1 = f := rfl
theorem iter_head (f : PF) (k : Nat) (x : Int) : iter f (k + 1) x = (f x).bind (iter f k) := by
  rw [Nat.add_comm, iter_add]; rfl
structure Row (f : PF) (e : Int) (r : List Int) : Prop where
  h0 : r[0]? = some e
  st : ∀ (i : Nat) (a b : Int), r[i]? = some a → r[i + 1]? = some b → f a = some b ∧ b ≠ e
theorem Row.ne {f : PF} {e : Int} {r : List Int} (w : ∀ x x' y, f x = some y → f x' = some y → x = x') (R : Row f e r) : ∀ (i k : Nat) (a : Int), r[i]? = some a → r[i + k + 1]? = some a → False
  | 0, k, a, h1, h2 => by
    rw [R.h0] at h1
    cases h1
    have hk : ∃ b, r[k]? = some b := by
      have : 0 + k + 1 < r.length := (List.getElem?_eq_some_iff.mp h2).1
      exact ⟨_, List.getElem?_eq_getElem (by omega)⟩
    obtain ⟨b, hb⟩ := hk
    have := R.st k b e hb (by rw [Nat.zero_add] at h2; exact h2)
    exact this.2 rfl
  | i + 1, k, a, h1, h2 => by
    have l1 : i + 1 < r.length := (List.getElem?_eq_some_iff.mp h1).1
    have l2 : i + 1 + k + 1 < r.length := (List.getElem?_eq_some_iff.mp h2).1
    obtain ⟨b, hb⟩ : ∃ b, r[i]? = some b := ⟨_, List.getElem?_eq_getElem (by omega)⟩
    obtain ⟨c, hc⟩ : ∃ c, r[i + k + 1]? = some c := ⟨_, List.getElem?_eq_getElem (by omega)⟩
    have e1 := (R.st i b a hb h1).1
    have h2' : r[i + k + 1 + 1]? = some a := by rw [show i + k + 1 + 1 = i + 1 + k + 1 by omega]; exact h2
    have e2 := (R.st (i + k + 1) c a hc h2').1
    have : b = c := w _ _ _ e1 e2
    subst this
    exact Row.ne w R i k b hb hc
theorem nodup_of_get {l : List Int} (h : ∀ (i k : Nat) (a : Int), l[i]? = some a → l[i + k + 1]? = some a → False) : l.Nodup := by
  induction l with
  | nil => exact List.nodup_nil
  | cons x r ih =>
    rw [List.nodup_cons]
    refine ⟨fun hm => ?_, ih fun i k a h1 h2 => ?_⟩
    · obtain ⟨j, hj⟩ := List.mem_iff_getElem?.mp hm
      exact h 0 j x rfl (by rw [Nat.zero_add]; exact hj)
    · refine h (i + 1) k a h1 ?_
      rw [show i + 1 + k + 1 = (i + k + 1) + 1 by omega]
      exact h2
theorem Row.nd {n : Int} {f : PF} {e : Int} {r : List Int} (w : WF n f) (R : Row f e r) : r.Nodup := nodup_of_get (R.ne w.inj)
theorem Row.dom {n : Int} {f : PF} {e : Int} {r : List Int} (w : WF n f) (R : Row f e r) (h1 : 0 ≤ e) (h2 : e < n) : ∀ x ∈ r, 0 ≤ x ∧ x < n := by
  intro x hx
  obtain ⟨i, hi⟩ := List.mem_iff_getElem?.mp hx
  cases i with
  | zero => rw [R.h0] at hi; cases hi; exact ⟨h1, h2⟩
  | succ i =>
    have l1 : i + 1 < r.length := (List.getElem?_eq_some_iff.mp hi).1
    obtain ⟨b, hb⟩ : ∃ b, r[i]? = some b := ⟨_, List.getElem?_eq_getElem (by omega)⟩
    have := w.dom _ _ (R.st i b x hb hi).1
    omega
theorem len_range {l : List Int} {n : Int} (nd : l.Nodup) (h : ∀ x ∈ l, 0 ≤ x ∧ x < n) : l.length ≤ n.toNat := by
  have : l.length ≤ ((List.range n.toNat).map fun (i : Nat) => (i : Int)).length := List.Nodup.length_le_of_subset nd (by
    intro x hx
    have := h x hx
    exact List.mem_map.mpr ⟨x.toNat, List.mem_range.mpr (by omega), Int.toNat_of_nonneg this.1⟩)
  simpa using this
theorem Row.more {f : PF} {e : Int} {pre : List Int} {z y : Int} (R : Row f e (pre ++ [z])) (h : f z = some y) (ne : y ≠ e) : Row f e (pre ++ [z] ++ [y]) := by
  refine ⟨?_, fun i a b h1 h2 => ?_⟩
  · rw [List.getElem?_append_left (by simp)]
    exact R.h0
  · by_cases hi : i + 1 < (pre ++ [z]).length
    · rw [List.getElem?_append_left hi] at h2
      rw [List.getElem?_append_left (by omega)] at h1
      exact R.st i a b h1 h2
    · have l2 : i + 1 < (pre ++ [z] ++ [y]).length := (List.getElem?_eq_some_iff.mp h2).1
      have e1 : i = pre.length := by simp at hi l2; omega
      subst e1
      rw [List.getElem?_append_left (by simp)] at h1
      have z1 : (pre ++ [z])[pre.length]? = some z := by simp
      rw [z1] at h1
      cases h1
      have z2 : (pre ++ [z] ++ [y])[pre.length + 1]? = some y := by simp
      rw [z2] at h2
      cases h2
      exact ⟨h, ne⟩
/-- f along an open row -/
theorem Row.openAt {f : PF} {e : Int} {r : List Int} (R : Row f e r) {z : Int} (hz : r[r.length - 1]? = some z) (hl : 0 < r.length) (ho : f z = none) (i : Nat) (a : Int) (hi : r[i]? = some a) : ∀ j : Nat, iter f j a = r[i + j]?
  | 0 => by rw [Nat.add_zero, hi]; rfl
  | j + 1 => by
    show (iter f j a).bind f = _
    rw [Row.openAt R hz hl ho i a hi j]
    cases e1 : r[i + j]? with
    | none =>
      have h1 := List.getElem?_eq_none_iff.mp e1
      exact (List.getElem?_eq_none_iff.mpr (by omega)).symm
    | some b =>
      show f b = _
      have l1 : i + j < r.length := (List.getElem?_eq_some_iff.mp e1).1
      cases e2 : r[i + (j + 1)]? with
      | some c => exact (R.st (i + j) b c e1 e2).1
      | none =>
        have h2 := List.getElem?_eq_none_iff.mp e2
        have : i + j = r.length - 1 := by omega
        rw [this, hz] at e1
        cases e1
        exact ho
/-- f along a closed row -/
theorem Row.closedAt {f : PF} {e : Int} {r : List Int} (R : Row f e r) {z : Int} (hz : r[r.length - 1]? = some z) (hl : 0 < r.length) (hc : f z = some e) (i : Nat) (a : Int) (hi : r[i]? = some a) : ∀ j : Nat, iter f j a = r[(i + j) % r.length]?
  | 0 => by
    have l1 : i < r.length := (List.getElem?_eq_some_iff.mp hi).1
    rw [Nat.add_zero, Nat.mod_eq_of_lt l1, hi]; rfl
  | j + 1 => by
    show (iter f j a).bind f = _
    rw [Row.closedAt R hz hl hc i a hi j]
    have l1 : (i + j) % r.length < r.length := Nat.mod_lt _ hl
    obtain ⟨b, e1⟩ : ∃ b, r[(i + j) % r.length]? = some b := ⟨_, List.getElem?_eq_getElem l1⟩
    rw [e1]
    show f b = _
    by_cases h : (i + j) % r.length = r.length - 1
    · rw [h, hz] at e1
      cases e1
      rw [hc]
      have : (i + (j + 1)) % r.length = 0 := by
        rw [show i + (j + 1) = (i + j) + 1 by omega, Nat.add_mod, h]
        by_cases h1 : r.length = 1
        · rw [h1]
        · rw [Nat.mod_eq_of_lt (show 1 < r.length by omega), show r.length - 1 + 1 = r.length by omega, Nat.mod_self]
      rw [this, R.h0]
    · have : (i + (j + 1)) % r.length = (i + j) % r.length + 1 := by
        rw [show i + (j + 1) = (i + j) + 1 by omega, Nat.add_mod]
        rw [Nat.mod_eq_of_lt (show 1 < r.length by omega), Nat.mod_eq_of_lt (by omega)]
      rw [this]
      obtain ⟨c, e2⟩ : ∃ c, r[(i + j) % r.length + 1]? = some c := ⟨_, List.getElem?_eq_getElem (by omega)⟩
      rw [e2]
      exact (R.st _ b c e1 e2).1
theorem wf_iter {n : Int} {f : PF} (w : WF n f) : ∀ k : Nat, WF n (iter f (k + 1))
  | 0 => w
  | k + 1 => wf_mul (wf_iter w k) w
end PM
namespace PM
open U
/-! ### the rules of the operators -/
theorem pf_ext {f g : PF} (h : ∀ x y, f x = some y ↔ g x = some y) : f = g := by
  funext x
  cases e : f x with
  | some y => exact ((h x y).mp e).symm
  | none =>
    cases e2 : g x with
    | none => rfl
    | some y => rw [(h x y).mpr e2] at e; cases e
theorem mul_iff {f g : PF} {x z : Int} : mul f g x = some z ↔ ∃ y, f x = some y ∧ g y = some z := by
  unfold mul
  cases e : f x with
  | none => simp
  | some y => simp
theorem mul_assoc (f g h : PF) : mul (mul f g) h = mul f (mul g h) := by
  refine pf_ext fun x z => ?_
  rw [mul_iff, mul_iff]
  constructor
  · rintro ⟨y, h1, h2⟩
    obtain ⟨u, h3, h4⟩ := mul_iff.mp h1
    exact ⟨u, h3, mul_iff.mpr ⟨y, h4, h2⟩⟩
  · rintro ⟨y, h1, h2⟩
    obtain ⟨u, h3, h4⟩ := mul_iff.mp h2
    exact ⟨u, mul_iff.mpr ⟨y, h1, h3⟩, h4⟩
theorem le_mulL {f g h : PF} (q : le f g) : le (mul f h) (mul g h) := by
  intro x z e
  obtain ⟨y, h1, h2⟩ := mul_iff.mp e
  exact mul_iff.mpr ⟨y, q _ _ h1, h2⟩
theorem le_mulR {f g h : PF} (q : le f g) : le (mul h f) (mul h g) := by
  intro x z e
  obtain ⟨y, h1, h2⟩ := mul_iff.mp e
  exact mul_iff.mpr ⟨y, h1, q _ _ h2⟩
/-! ### parts -/
/-! ### powers -/
end PM
namespace PM
open U
/-! ### rows told by their first element -/
def IsRow (f : PF) (e : Int) (r : List Int) : Prop := ∃ pre z, r = pre ++ [z] ∧ Row f e r ∧ (f z = none ∨ f z = some e)
theorem IsRow.get {f : PF} {e : Int} {r r' : List Int} (h : IsRow f e r) (h' : IsRow f e r') : ∀ (i : Nat) (a : Int), r[i]? = some a → r'[i]? = some a
  | 0, a, e1 => by
    obtain ⟨_, _, _, R, _⟩ := h
    obtain ⟨_, _, _, R', _⟩ := h'
    rw [R.h0] at e1
    rw [R'.h0]
    exact e1
  | i + 1, a, e1 => by
    have ih := IsRow.get h h' i
    obtain ⟨_, _, _, R, _⟩ := h
    obtain ⟨pre', z', q', R', st'⟩ := h'
    have l1 : i + 1 < r.length := (List.getElem?_eq_some_iff.mp e1).1
    obtain ⟨b, hb⟩ : ∃ b, r[i]? = some b := ⟨_, List.getElem?_eq_getElem (by omega)⟩
    obtain ⟨f1, ne⟩ := R.st i b a hb e1
    have hb' := ih b hb
    cases e2 : r'[i + 1]? with
    | some c =>
      have := (R'.st i b c hb' e2).1
      rw [f1] at this
      exact this.symm
    | none =>
      exfalso
      have l2 : i < r'.length := (List.getElem?_eq_some_iff.mp hb').1
      have l3 := List.getElem?_eq_none_iff.mp e2
      subst q'
      rw [List.length_append, List.length_singleton] at l2 l3
      have ei : i = pre'.length := by omega
      subst ei
      have : (pre' ++ [z'])[pre'.length]? = some z' := by simp
      rw [this] at hb'
      cases hb'
      rcases st' with q | q
      · rw [f1] at q; cases q
      · rw [f1] at q; exact ne (Option.some.inj q)
theorem IsRow.uniq {f : PF} {e : Int} {r r' : List Int} (h : IsRow f e r) (h' : IsRow f e r') : r = r' := by
  apply List.ext_getElem?
  intro i
  cases e1 : r[i]? with
  | some a => exact (h.get h' i a e1).symm
  | none =>
    cases e2 : r'[i]? with
    | none => rfl
    | some a => rw [h'.get h i a e2] at e1; cases e1
theorem ex_row {n : Int} {f : PF} {e : Int} (w : WF n f) (h1 : 0 ≤ e) (h2 : e < n) : ∃ r, IsRow f e r := by
  refine Classical.byContradiction fun no => ?_
  have key : ∀ k : Nat, ∃ pre z, pre.length = k ∧ Row f e (pre ++ [z]) := by
    intro k
    induction k with
    | zero => exact ⟨[], e, rfl, rfl, fun i a b h1 h2 => by simp at h2⟩
    | succ k ih =>
      obtain ⟨pre, z, hl, R⟩ := ih
      cases hz : f z with
      | none => exact absurd ⟨_, pre, z, rfl, R, .inl hz⟩ no
      | some y =>
        by_cases hy : y = e
        · subst hy; exact absurd ⟨_, pre, z, rfl, R, .inr hz⟩ no
        · exact ⟨pre ++ [z], y, by simp [hl], R.more hz hy⟩
  obtain ⟨pre, z, hl, R⟩ := key n.toNat
  have := len_range (R.nd w) (R.dom w h1 h2)
  rw [List.length_append, List.length_singleton] at this
  omega
open Classical in
noncomputable def rowN (f : PF) (e : Int) : List Int := if h : ∃ r, IsRow f e r then h.choose else []
theorem rowN_eq {f : PF} {e : Int} {r : List Int} (h : IsRow f e r) : rowN f e = r := by
  have hx : ∃ r, IsRow f e r := ⟨r, h⟩
  unfold rowN
  rw [dif_pos hx]
  exact hx.choose_spec.uniq h
theorem rowN_is {n : Int} {f : PF} {e : Int} (w : WF n f) (h1 : 0 ≤ e) (h2 : e < n) : IsRow f e (rowN f e) := by
  obtain ⟨r, h⟩ := ex_row w h1 h2
  rw [rowN_eq h]
  exact h
theorem IsRow.head {f : PF} {e : Int} {r : List Int} (h : IsRow f e r) : r[0]? = some e := by
  obtain ⟨_, _, _, R, _⟩ := h
  exact R.h0
theorem IsRow.mem {f : PF} {e : Int} {r : List Int} (h : IsRow f e r) : e ∈ r := List.mem_of_getElem? h.head
theorem IsRow.dom {n : Int} {f : PF} {e : Int} {r : List Int} (w : WF n f) (h : IsRow f e r) (h1 : 0 ≤ e) (h2 : e < n) : ∀ x ∈ r, 0 ≤ x ∧ x < n := by
  obtain ⟨_, _, _, R, _⟩ := h
  exact R.dom w h1 h2
theorem IsRow.nd {n : Int} {f : PF} {e : Int} {r : List Int} (w : WF n f) (h : IsRow f e r) : r.Nodup := by
  obtain ⟨_, _, _, R, _⟩ := h
  exact R.nd w
/-- what is no target -/
def nonT (n : Int) (f : PF) (e : Int) : Bool := (inv n f e).isNone
theorem nonT_iff {n : Int} {f : PF} (w : WF n f) {e : Int} : nonT n f e = true ↔ ∀ x, f x ≠ some e := by
  unfold nonT
  rw [Option.isNone_iff_eq_none]
  constructor
  · intro h x hx
    rw [(inv_iff w).mpr hx] at h
    cases h
  · intro h
    cases q : inv n f e with
    | none => rfl
    | some x => exact absurd ((inv_iff w).mp q) (h x)
/-! ### which rows are begun -/
noncomputable def seenL (f : PF) (s : List Int) : List Int := (s.map (rowN f)).flatten
theorem mem_seenL {f : PF} {s : List Int} {x : Int} : x ∈ seenL f s ↔ ∃ e ∈ s, x ∈ rowN f e := by
  unfold seenL
  rw [List.mem_flatten]
  constructor
  · rintro ⟨r, hr, hx⟩
    obtain ⟨e, he, rfl⟩ := List.mem_map.mp hr
    exact ⟨e, he, hx⟩
  · rintro ⟨e, he, hx⟩
    exact ⟨_, List.mem_map.mpr ⟨e, he, rfl⟩, hx⟩
noncomputable def stp (f : PF) (s : List Int) (x : Int) : List Int := if x ∈ seenL f s then s else s ++ [x]
noncomputable def selL (f : PF) (b l : List Int) : List Int := l.foldl (stp f) b
theorem selL_append (f : PF) (b l m : List Int) : selL f b (l ++ m) = selL f (selL f b l) m := by
  unfold selL
  rw [List.foldl_append]
theorem selL_one (f : PF) (b l : List Int) (x : Int) : selL f b (l ++ [x]) = stp f (selL f b l) x := by
  rw [selL_append]
  rfl
theorem selL_sub (f : PF) : ∀ (l b : List Int), ∃ c, selL f b l = b ++ c ∧ c.Sublist l ∧ ∀ x ∈ c, x ∉ seenL f b
  | [], b => ⟨[], by simp [selL], List.Sublist.slnil, fun x h => (nomatch h)⟩
  | x :: l, b => by
    by_cases h : x ∈ seenL f b
    · obtain ⟨c, h1, h2, h3⟩ := selL_sub f l b
      refine ⟨c, ?_, h2.cons x, h3⟩
      rw [← h1]
      show selL f (stp f b x) l = _
      unfold stp
      rw [if_pos h]
    · obtain ⟨c, h1, h2, h3⟩ := selL_sub f l (b ++ [x])
      refine ⟨x :: c, ?_, h2.cons_cons x, fun y hy => ?_⟩
      · rw [show b ++ x :: c = b ++ [x] ++ c by simp, ← h1]
        show selL f (stp f b x) l = _
        unfold stp
        rw [if_neg h]
      · rcases List.mem_cons.mp hy with rfl | hy
        · exact h
        · intro hs
          obtain ⟨e, he, hx⟩ := mem_seenL.mp hs
          exact h3 y hy (mem_seenL.mpr ⟨e, List.mem_append_left _ he, hx⟩)
def rgI (n : Nat) : List Int := (List.range n).map fun (i : Nat) => (i : Int)
theorem mem_rgI {n : Nat} {x : Int} : x ∈ rgI n ↔ 0 ≤ x ∧ x < (n : Int) := by
  unfold rgI
  rw [List.mem_map]
  constructor
  · rintro ⟨i, hi, rfl⟩
    rw [List.mem_range] at hi
    omega
  · rintro ⟨h1, h2⟩
    exact ⟨x.toNat, List.mem_range.mpr (by omega), by omega⟩
theorem rgI_succ (n : Nat) : rgI (n + 1) = rgI n ++ [(n : Int)] := by
  unfold rgI
  rw [List.range_succ, List.map_append]
  rfl
theorem rgI_lt (n : Nat) : (rgI n).Pairwise (· < ·) := by
  induction n with
  | zero => exact List.Pairwise.nil
  | succ n ih =>
    rw [rgI_succ, List.pairwise_append]
    refine ⟨ih, List.pairwise_singleton _ _, fun a ha b hb => ?_⟩
    have := mem_rgI.mp ha
    rw [List.mem_singleton] at hb
    omega
theorem nodup_of_lt {l : List Int} (h : l.Pairwise (· < ·)) : l.Nodup := List.Pairwise.imp (fun {a b} h => by omega) h
def nons (n : Int) (f : PF) : List Int := (rgI n.toNat).filter (nonT n f)
theorem nons_dom {n : Int} {f : PF} {e : Int} (h : e ∈ nons n f) : 0 ≤ e ∧ e < n ∧ nonT n f e = true := by
  obtain ⟨h1, h2⟩ := List.mem_filter.mp h
  have := mem_rgI.mp h1
  exact ⟨this.1, by omega, h2⟩
/-! ### closed rows -/
noncomputable def clo (f : PF) (e : Int) : Bool := match (rowN f e).getLast? with
  | some z => (f z).isSome
  | none => false
theorem clo_eq {f : PF} {e z : Int} {pre : List Int} (h : IsRow f e (pre ++ [z])) : clo f e = (f z).isSome := by
  unfold clo
  rw [rowN_eq h, List.getLast?_append]
  rfl
theorem clo_non {n : Int} {f : PF} {e : Int} (w : WF n f) (h1 : 0 ≤ e) (h2 : e < n) (h : nonT n f e = true) : clo f e = false := by
  obtain ⟨r, hr⟩ := ex_row w h1 h2
  obtain ⟨pre, z, q, R, st⟩ := id hr
  subst q
  rw [clo_eq hr]
  rcases st with st | st
  · rw [st]; rfl
  · exact absurd st ((nonT_iff w).mp h z)
theorem iter_inv {n : Int} {f : PF} (w : WF n f) : ∀ (k : Nat) (x y : Int), iter (inv n f) k x = some y → iter f k y = some x
  | 0, x, y, h => by
    have : x = y := Option.some.inj h
    subst this
    rfl
  | k + 1, x, y, h => by
    have h : (iter (inv n f) k x).bind (inv n f) = some y := h
    cases e : iter (inv n f) k x with
    | none => rw [e] at h; cases h
    | some z =>
      rw [e] at h
      have h1 := (inv_iff w).mp h
      rw [iter_head, h1]
      exact iter_inv w k x z e
theorem clo_of {n : Int} {f : PF} {e : Int} (w : WF n f) (h1 : 0 ≤ e) (h2 : e < n) (h : ∀ e', 0 ≤ e' → e' < n → nonT n f e' = true → e ∉ rowN f e') : clo f e = true := by
  obtain ⟨r, hr⟩ := ex_row w h1 h2
  obtain ⟨pre, z, q, R, st⟩ := id hr
  subst q
  rw [clo_eq hr]
  rcases st with st | st
  · exfalso
    have lz : (pre ++ [z])[(pre ++ [z]).length - 1]? = some z := by simp
    have op := R.openAt lz (by simp) st 0 e R.h0
    obtain ⟨r', hr'⟩ := ex_row (wf_inv w) h1 h2
    obtain ⟨pre', z', q', R', st'⟩ := id hr'
    subst q'
    have lz' : (pre' ++ [z'])[(pre' ++ [z']).length - 1]? = some z' := by simp
    rcases st' with st' | st'
    · have hz' : nonT n f z' = true := by unfold nonT; rw [st']; rfl
      have dz := hr'.dom (wf_inv w) h1 h2 z' (by simp)
      have op' := R'.openAt lz' (by simp) st' 0 e R'.h0 pre'.length
      have e1 : (pre' ++ [z'])[0 + pre'.length]? = some z' := by simp
      rw [e1] at op'
      have it := iter_inv w _ _ _ op'
      refine h z' dz.1 dz.2 hz' ?_
      obtain ⟨r0, hr0⟩ := ex_row w dz.1 dz.2
      rw [rowN_eq hr0]
      obtain ⟨p0, z0, q0, R0, st0⟩ := id hr0
      subst q0
      have l0 : (p0 ++ [z0])[(p0 ++ [z0]).length - 1]? = some z0 := by simp
      have o0 : f z0 = none := by
        rcases st0 with q | q
        · exact q
        · exact absurd q ((nonT_iff w).mp hz' z0)
      have := R0.openAt l0 (by simp) o0 0 z' R0.h0 pre'.length
      rw [it] at this
      exact List.mem_of_getElem? this.symm
    · have cl := R'.closedAt lz' (by simp) st' 0 e R'.h0 (pre' ++ [z']).length
      rw [Nat.zero_add, Nat.mod_self, R'.h0] at cl
      have it := iter_inv w _ _ _ cl
      rw [op (pre' ++ [z']).length] at it
      have l1 : (pre' ++ [z']).length = pre'.length + 1 := by simp
      rw [l1] at it
      exact R.ne w.inj 0 pre'.length e R.h0 (by rw [show 0 + pre'.length + 1 = 0 + (pre'.length + 1) by omega]; exact it)
  · rw [st]; rfl
/-! ### all parts -/
noncomputable def cycS (n : Int) (f : PF) : List Int := (selL f (nons n f) (rgI n.toNat)).drop (nons n f).length
theorem cycS_eq (n : Int) (f : PF) : selL f (nons n f) (rgI n.toNat) = nons n f ++ cycS n f := by
  obtain ⟨c, h, _, _⟩ := selL_sub f (rgI n.toNat) (nons n f)
  unfold cycS
  rw [h, List.drop_left]
theorem cycS_sub (n : Int) (f : PF) : (cycS n f).Sublist (rgI n.toNat) ∧ ∀ x ∈ cycS n f, x ∉ seenL f (nons n f) := by
  obtain ⟨c, h, h1, h2⟩ := selL_sub f (rgI n.toNat) (nons n f)
  rw [cycS_eq] at h
  have := List.append_cancel_left h
  rw [this]
  exact ⟨h1, h2⟩
theorem cycS_dom {n : Int} {f : PF} {e : Int} (h : e ∈ cycS n f) : 0 ≤ e ∧ e < n := by
  have := mem_rgI.mp ((cycS_sub n f).1.subset h)
  exact ⟨this.1, by omega⟩
theorem cycS_clo {n : Int} {f : PF} (w : WF n f) {e : Int} (h : e ∈ cycS n f) : clo f e = true := by
  have d := cycS_dom h
  refine clo_of w d.1 d.2 fun e' h1 h2 h3 hm => ?_
  refine (cycS_sub n f).2 e h (mem_seenL.mpr ⟨e', ?_, hm⟩)
  exact List.mem_filter.mpr ⟨mem_rgI.mpr ⟨h1, by omega⟩, h3⟩
theorem nons_lt (n : Int) (f : PF) : (nons n f).Pairwise (· < ·) := (rgI_lt _).sublist List.filter_sublist
theorem cycS_lt (n : Int) (f : PF) : (cycS n f).Pairwise (· < ·) := (rgI_lt _).sublist (cycS_sub n f).1
/-! ### ordered by the first elements -/
end PM
namespace PM
open U
/-! ### powers by the law's own way; great exponents -/
end PM
namespace PM
open U
/-! ### where powers repeat -/
noncomputable def lens (f : PF) (s : List Int) : List Nat := s.map fun e => (rowN f e).length
theorem sel_cov {n : Int} {f : PF} (w : WF n f) : ∀ (l b : List Int) (x : Int), x ∈ l → 0 ≤ x → x < n → x ∈ seenL f (selL f b l)
  | [], b, x, h, _, _ => nomatch h
  | y :: l, b, x, h, h1, h2 => by
    show x ∈ seenL f (selL f (stp f b y) l)
    rcases List.mem_cons.mp h with rfl | h
    · have hx : x ∈ seenL f (stp f b x) := by
        unfold stp
        by_cases hs : x ∈ seenL f b
        · rw [if_pos hs]; exact hs
        · rw [if_neg hs]
          exact mem_seenL.mpr ⟨x, by simp, (rowN_is w h1 h2).mem⟩
      obtain ⟨c, hc, _, _⟩ := selL_sub f l (stp f b x)
      obtain ⟨e, he, hm⟩ := mem_seenL.mp hx
      rw [hc]
      exact mem_seenL.mpr ⟨e, List.mem_append_left _ he, hm⟩
    · exact sel_cov w l _ x h h1 h2
theorem cover {n : Int} {f : PF} (w : WF n f) {x : Int} (h1 : 0 ≤ x) (h2 : x < n) : ∃ e ∈ nons n f ++ cycS n f, x ∈ rowN f e := by
  have := sel_cov w (rgI n.toNat) (nons n f) x (mem_rgI.mpr ⟨h1, by omega⟩) h1 h2
  rw [cycS_eq] at this
  exact mem_seenL.mp this
theorem iter_out {n : Int} {f : PF} (w : WF n f) {x : Int} (hx : ¬ (0 ≤ x ∧ x < n)) {k : Nat} (hk : 1 ≤ k) : iter f k x = none := by
  rw [show k = k - 1 + 1 by omega, iter_head]
  cases e : f x with
  | none => rfl
  | some y => exact absurd ⟨(w.dom x y e).1, (w.dom x y e).2.1⟩ hx
/-- f along a chain -/
theorem chain_at {n : Int} {f : PF} (w : WF n f) {e : Int} (he : e ∈ nons n f) {i : Nat} {a : Int} (hi : (rowN f e)[i]? = some a) (j : Nat) : iter f j a = (rowN f e)[i + j]? := by
  obtain ⟨h1, h2, h3⟩ := nons_dom he
  obtain ⟨pre, z, q, R, st⟩ := rowN_is w h1 h2
  have hr := rowN_is w h1 h2
  have hc := clo_non w h1 h2 h3
  rw [q] at hr
  rw [clo_eq hr] at hc
  rw [q] at R hi ⊢
  refine R.openAt (z := z) (by simp) (by simp) ?_ i a hi j
  cases e : f z with
  | none => rfl
  | some y => rw [e] at hc; cases hc
/-- f along a cycle -/
theorem cycle_at {n : Int} {f : PF} (w : WF n f) {e : Int} (he : e ∈ cycS n f) {i : Nat} {a : Int} (hi : (rowN f e)[i]? = some a) (j : Nat) : iter f j a = (rowN f e)[(i + j) % (rowN f e).length]? := by
  obtain ⟨h1, h2⟩ := cycS_dom he
  obtain ⟨pre, z, q, R, st⟩ := rowN_is w h1 h2
  have hr := rowN_is w h1 h2
  have hc := cycS_clo w he
  rw [q] at hr
  rw [clo_eq hr] at hc
  rw [q] at R hi ⊢
  refine R.closedAt (z := z) (by simp) (by simp) ?_ i a hi j
  rcases st with st | st
  · rw [st] at hc; cases hc
  · exact st
theorem row_pos {n : Int} {f : PF} (w : WF n f) {e : Int} (h1 : 0 ≤ e) (h2 : e < n) : 0 < (rowN f e).length := by
  obtain ⟨pre, z, q, _, _⟩ := rowN_is w h1 h2
  rw [q]
  simp
theorem row_head {n : Int} {f : PF} (w : WF n f) {e : Int} (h1 : 0 ≤ e) (h2 : e < n) : (rowN f e)[0]? = some e := (rowN_is w h1 h2).head
theorem row_inj {n : Int} {f : PF} (w : WF n f) {e : Int} (h1 : 0 ≤ e) (h2 : e < n) {i j : Nat} (hi : i < (rowN f e).length) (h : (rowN f e)[i]? = (rowN f e)[j]?) : i = j := by
  have nd := (rowN_is w h1 h2).nd w
  rw [List.getElem?_eq_getElem hi] at h
  have hj := (List.getElem?_eq_some_iff.mp h.symm).1
  rw [List.getElem?_eq_getElem hj] at h
  have h := Option.some.inj h
  have pw := List.pairwise_iff_getElem.mp nd
  rcases Nat.lt_trichotomy i j with hl | hl | hl
  · exact absurd h (pw i j hi hj hl)
  · exact hl
  · exact absurd h.symm (pw j i hj hi hl)
theorem row_le {n : Int} {f : PF} (w : WF n f) {e : Int} (h1 : 0 ≤ e) (h2 : e < n) : (rowN f e).length ≤ n.toNat := len_range ((rowN_is w h1 h2).nd w) ((rowN_is w h1 h2).dom w h1 h2)
end PM
namespace My
open PySem L2
def top (i : Nat) : Stmt := PySem.Challenge.pw_chainmaps_k12_powers_of_shapes.main.body.getD i (.Pass ⟨0, 0, 0, 0⟩)
abbrev s_is_integer : Stmt := top 11
abbrev n_is_integer : List Str := ["value"]
theorem sc_is_integer : FnScope n_is_integer ["value"] (defScope s_is_integer) := ⟨rfl, rfl, rfl, by decide +kernel, rfl, by decide +kernel, by decide +kernel⟩
abbrev s_in_range : Stmt := top 12
abbrev n_in_range : List Str := ["value", "least", "most"]
theorem sc_in_range : FnScope n_in_range ["value", "least", "most"] (defScope s_in_range) := ⟨rfl, rfl, rfl, by decide +kernel, rfl, by decide +kernel, by decide +kernel⟩
abbrev s_check_size : Stmt := top 13
abbrev n_check_size : List Str := ["size"]
theorem sc_check_size : FnScope n_check_size ["size"] (defScope s_check_size) := ⟨rfl, rfl, rfl, by decide +kernel, rfl, by decide +kernel, by decide +kernel⟩
abbrev s_are_arrows : Stmt := top 14
abbrev n_are_arrows : List Str := ["size", "arrows", "targets", "source", "target"]
theorem sc_are_arrows : FnScope n_are_arrows ["size", "arrows"] (defScope s_are_arrows) := ⟨rfl, rfl, rfl, by decide +kernel, rfl, by decide +kernel, by decide +kernel⟩
abbrev s_row_from : Stmt := top 16
abbrev n_row_from : List Str := ["arrows", "element", "row"]
theorem sc_row_from : FnScope n_row_from ["arrows", "element"] (defScope s_row_from) := ⟨rfl, rfl, rfl, by decide +kernel, rfl, by decide +kernel, by decide +kernel⟩
abbrev s_moved : Stmt := top 17
abbrev n_moved : List Str := ["arrows", "steps", "found", "seen", "targets", "source", "row", "closed", "place", "element", "target"]
theorem sc_moved : FnScope n_moved ["arrows", "steps"] (defScope s_moved) := ⟨rfl, rfl, rfl, by decide +kernel, rfl, by decide +kernel, by decide +kernel⟩
abbrev s_check_map : Stmt := top 21
abbrev n_check_map : List Str := ["value"]
theorem sc_check_map : FnScope n_check_map ["value"] (defScope s_check_map) := ⟨rfl, rfl, rfl, by decide +kernel, rfl, by decide +kernel, by decide +kernel⟩
abbrev s_greatest_divisor : Stmt := top 23
abbrev n_greatest_divisor : List Str := ["one", "other"]
theorem sc_greatest_divisor : FnScope n_greatest_divisor ["one", "other"] (defScope s_greatest_divisor) := ⟨rfl, rfl, rfl, by decide +kernel, rfl, by decide +kernel, by decide +kernel⟩
abbrev s_parts_of : Stmt := top 24
abbrev n_parts_of : List Str := ["given", "arrows", "targets", "cycles", "chains", "seen", "element", "target", "one"]
theorem sc_parts_of : FnScope n_parts_of ["given"] (defScope s_parts_of) := ⟨rfl, rfl, rfl, by decide +kernel, rfl, by decide +kernel, by decide +kernel⟩
abbrev s_are_counts : Stmt := top 25
abbrev n_are_counts : List Str := ["value", "one", "number"]
theorem sc_are_counts : FnScope n_are_counts ["value"] (defScope s_are_counts) := ⟨rfl, rfl, rfl, by decide +kernel, rfl, by decide +kernel, by decide +kernel⟩
abbrev s_ordered : Stmt := top 26
abbrev n_ordered : List Str := ["counts", "length"]
theorem sc_ordered : FnScope n_ordered ["counts"] (defScope s_ordered) := ⟨rfl, rfl, rfl, by decide +kernel, rfl, by decide +kernel, by decide +kernel⟩
abbrev s_merged : Stmt := top 27
abbrev n_merged : List Str := ["one", "other", "found", "length", "number"]
theorem sc_merged : FnScope n_merged ["one", "other"] (defScope s_merged) := ⟨rfl, rfl, rfl, by decide +kernel, rfl, by decide +kernel, by decide +kernel⟩
abbrev s_cycle_powers : Stmt := top 28
abbrev n_cycle_powers : List Str := ["cycles", "exponent", "found", "length", "number", "parts"]
theorem sc_cycle_powers : FnScope n_cycle_powers ["cycles", "exponent"] (defScope s_cycle_powers) := ⟨rfl, rfl, rfl, by decide +kernel, rfl, by decide +kernel, by decide +kernel⟩
abbrev s_chain_powers : Stmt := top 29
abbrev n_chain_powers : List Str := ["chains", "exponent", "found", "length", "number", "short", "longer", "size", "parts"]
theorem sc_chain_powers : FnScope n_chain_powers ["chains", "exponent"] (defScope s_chain_powers) := ⟨rfl, rfl, rfl, by decide +kernel, rfl, by decide +kernel, by decide +kernel⟩
abbrev s_counts_of : Stmt := top 31
abbrev n_counts_of : List Str := ["parts", "found", "part"]
theorem sc_counts_of : FnScope n_counts_of ["parts"] (defScope s_counts_of) := ⟨rfl, rfl, rfl, by decide +kernel, rfl, by decide +kernel, by decide +kernel⟩
abbrev s_shape_of : Stmt := top 32
abbrev n_shape_of : List Str := ["given", "cycles", "chains"]
theorem sc_shape_of : FnScope n_shape_of ["given"] (defScope s_shape_of) := ⟨rfl, rfl, rfl, by decide +kernel, rfl, by decide +kernel, by decide +kernel⟩
abbrev s_Map__init : Stmt := inClass (top 18) 0
abbrev n_Map__init : List Str := ["self", "size", "arrows", "source"]
theorem sc_Map__init : FnScope n_Map__init ["self", "size", "arrows"] (defScope s_Map__init) := ⟨rfl, rfl, rfl, by decide +kernel, rfl, by decide +kernel, by decide +kernel⟩
abbrev s_Map_identity : Stmt := inClass (top 18) 1
abbrev n_Map_identity : List Str := ["cls", "size", "element"]
theorem sc_Map_identity : FnScope n_Map_identity ["cls", "size"] (defScope s_Map_identity) := ⟨rfl, rfl, rfl, by decide +kernel, rfl, by decide +kernel, by decide +kernel⟩
abbrev s_Map_size : Stmt := inClass (top 18) 6
abbrev n_Map_size : List Str := ["self"]
theorem sc_Map_size : FnScope n_Map_size ["self"] (defScope s_Map_size) := ⟨rfl, rfl, rfl, by decide +kernel, rfl, by decide +kernel, by decide +kernel⟩
abbrev s_Map_arrows : Stmt := inClass (top 18) 7
abbrev n_Map_arrows : List Str := ["self"]
theorem sc_Map_arrows : FnScope n_Map_arrows ["self"] (defScope s_Map_arrows) := ⟨rfl, rfl, rfl, by decide +kernel, rfl, by decide +kernel, by decide +kernel⟩
abbrev s_Map_power : Stmt := inClass (top 18) 10
abbrev n_Map_power : List Str := ["self", "exponent", "arrows", "source", "target"]
theorem sc_Map_power : FnScope n_Map_power ["self", "exponent"] (defScope s_Map_power) := ⟨rfl, rfl, rfl, by decide +kernel, rfl, by decide +kernel, by decide +kernel⟩
abbrev s_Shape__init : Stmt := inClass (top 30) 0
abbrev n_Shape__init : List Str := ["self", "cycles", "chains"]
theorem sc_Shape__init : FnScope n_Shape__init ["self", "cycles", "chains"] (defScope s_Shape__init) := ⟨rfl, rfl, rfl, by decide +kernel, rfl, by decide +kernel, by decide +kernel⟩
abbrev s_Shape_cycles : Stmt := inClass (top 30) 1
abbrev n_Shape_cycles : List Str := ["self"]
theorem sc_Shape_cycles : FnScope n_Shape_cycles ["self"] (defScope s_Shape_cycles) := ⟨rfl, rfl, rfl, by decide +kernel, rfl, by decide +kernel, by decide +kernel⟩
abbrev s_Shape_chains : Stmt := inClass (top 30) 2
abbrev n_Shape_chains : List Str := ["self"]
theorem sc_Shape_chains : FnScope n_Shape_chains ["self"] (defScope s_Shape_chains) := ⟨rfl, rfl, rfl, by decide +kernel, rfl, by decide +kernel, by decide +kernel⟩
abbrev s_Shape_size : Stmt := inClass (top 30) 3
abbrev n_Shape_size : List Str := ["self", "lengths", "length", "number"]
theorem sc_Shape_size : FnScope n_Shape_size ["self"] (defScope s_Shape_size) := ⟨rfl, rfl, rfl, by decide +kernel, rfl, by decide +kernel, by decide +kernel⟩
abbrev s_Shape__add : Stmt := inClass (top 30) 4
abbrev n_Shape__add : List Str := ["self", "other"]
theorem sc_Shape__add : FnScope n_Shape__add ["self", "other"] (defScope s_Shape__add) := ⟨rfl, rfl, rfl, by decide +kernel, rfl, by decide +kernel, by decide +kernel⟩
abbrev s_Shape_power : Stmt := inClass (top 30) 5
abbrev n_Shape_power : List Str := ["self", "exponent"]
theorem sc_Shape_power : FnScope n_Shape_power ["self", "exponent"] (defScope s_Shape_power) := ⟨rfl, rfl, rfl, by decide +kernel, rfl, by decide +kernel, by decide +kernel⟩
abbrev s_Shape__pow : Stmt := inClass (top 30) 6
abbrev n_Shape__pow : List Str := ["self", "exponent"]
theorem sc_Shape__pow : FnScope n_Shape__pow ["self", "exponent"] (defScope s_Shape__pow) := ⟨rfl, rfl, rfl, by decide +kernel, rfl, by decide +kernel, by decide +kernel⟩
abbrev s_Shape__eq : Stmt := inClass (top 30) 7
abbrev n_Shape__eq : List Str := ["self", "other"]
theorem sc_Shape__eq : FnScope n_Shape__eq ["self", "other"] (defScope s_Shape__eq) := ⟨rfl, rfl, rfl, by decide +kernel, rfl, by decide +kernel, by decide +kernel⟩
abbrev s_InvalidMap__init : Stmt := inClass (top 2) 0
abbrev n_InvalidMap__init : List Str := ["self", "part"]
theorem sc_InvalidMap__init : FnScope n_InvalidMap__init ["self", "part"] (defScope s_InvalidMap__init) := ⟨rfl, rfl, rfl, by decide +kernel, rfl, by decide +kernel, by decide +kernel⟩
abbrev s_InvalidNumber__init : Stmt := inClass (top 5) 0
abbrev n_InvalidNumber__init : List Str := ["self", "value"]
theorem sc_InvalidNumber__init : FnScope n_InvalidNumber__init ["self", "value"] (defScope s_InvalidNumber__init) := ⟨rfl, rfl, rfl, by decide +kernel, rfl, by decide +kernel, by decide +kernel⟩
abbrev s_InvalidSize__init : Stmt := inClass (top 3) 0
abbrev s_l_hand : Stmt := top 34
abbrev n_l_hand : List Str := ["_law_script", "_law_k", "_law_cell", "_law_seed"]
theorem sc_l_hand : FnScope n_l_hand ["_law_script", "_law_k"] (defScope s_l_hand) := ⟨rfl, rfl, rfl, by decide +kernel, rfl, by decide +kernel, by decide +kernel⟩
abbrev s_l_draw : Stmt := top 35
abbrev n_l_draw : List Str := ["_law_pool", "_law_size", "_law_found"]
theorem sc_l_draw : FnScope n_l_draw ["_law_pool", "_law_size"] (defScope s_l_draw) := ⟨rfl, rfl, rfl, by decide +kernel, rfl, by decide +kernel, by decide +kernel⟩
abbrev s_l_arrows : Stmt := top 36
abbrev n_l_arrows : List Str := ["_law_pool", "_law_size", "_law_way", "_law_left", "_law_found", "_law_source"]
theorem sc_l_arrows : FnScope n_l_arrows ["_law_pool", "_law_size", "_law_way"] (defScope s_l_arrows) := ⟨rfl, rfl, rfl, by decide +kernel, rfl, by decide +kernel, by decide +kernel⟩
abbrev s_l_divisor : Stmt := top 37
abbrev n_l_divisor : List Str := ["_law_one", "_law_other"]
theorem sc_l_divisor : FnScope n_l_divisor ["_law_one", "_law_other"] (defScope s_l_divisor) := ⟨rfl, rfl, rfl, by decide +kernel, rfl, by decide +kernel, by decide +kernel⟩
abbrev s_l_chain : Stmt := top 38
abbrev n_l_chain : List Str := ["_law_length", "_law_exponent", "_law_found", "_law_rows", "_law_size", "_law_number"]
theorem sc_l_chain : FnScope n_l_chain ["_law_length", "_law_exponent"] (defScope s_l_chain) := ⟨rfl, rfl, rfl, by decide +kernel, rfl, by decide +kernel, by decide +kernel⟩
abbrev s_l_refused : Stmt := top 39
abbrev n_l_refused : List Str := ["_law_formed", "_law_odd", "e"]
theorem sc_l_refused : FnScope n_l_refused ["_law_formed", "_law_odd"] (defScope s_l_refused) := ⟨rfl, rfl, rfl, by decide +kernel, rfl, by decide +kernel, by decide +kernel⟩
abbrev s_l_great : Stmt := top 40
abbrev n_l_great : List Str := ["_law_pool", "_law_length", "_law_exponent", "_law_common", "_law_due", "_law_formed", "_law_one", "_law_parts"]
theorem sc_l_great : FnScope n_l_great ["_law_pool", "_law_length", "_law_exponent"] (defScope s_l_great) := ⟨rfl, rfl, rfl, by decide +kernel, rfl, by decide +kernel, by decide +kernel⟩
abbrev s_law : Stmt := top 41
abbrev n_law : List Str := ["_law_script", "_law_k", "_law_pool", "_law_size", "_law_given", "_law_formed", "_law_exponent", "_law_low", "_law_high", "_law_length", "_law_odd"]
theorem sc_law : FnScope n_law ["_law_script"] (defScope s_law) := ⟨rfl, rfl, rfl, by decide +kernel, rfl, by decide +kernel, by decide +kernel⟩
set_option genInjectivity false
set_option genSizeOf false
structure Txt (K : PySem.W.Frag) (mg : Str → Option Value) where
  f_is_integer : Addr
  f_in_range : Addr
  f_check_size : Addr
  f_are_arrows : Addr
  f_row_from : Addr
  f_moved : Addr
  f_check_map : Addr
  f_greatest_divisor : Addr
  f_parts_of : Addr
  f_are_counts : Addr
  f_ordered : Addr
  f_merged : Addr
  f_cycle_powers : Addr
  f_chain_powers : Addr
  f_counts_of : Addr
  f_shape_of : Addr
  f_l_hand : Addr
  f_l_draw : Addr
  f_l_arrows : Addr
  f_l_divisor : Addr
  f_l_chain : Addr
  f_l_refused : Addr
  f_l_great : Addr
  f_law : Addr
  C_Shape : Addr
  f_Shape__init : Addr
  p_Shape_cycles : Addr
  f_Shape_cycles : Addr
  p_Shape_chains : Addr
  f_Shape_chains : Addr
  p_Shape_size : Addr
  f_Shape_size : Addr
  f_Shape__add : Addr
  f_Shape_power : Addr
  f_Shape__pow : Addr
  f_Shape__eq : Addr
  C_Map : Addr
  f_Map__init : Addr
  p_Map_identity : Addr
  f_Map_identity : Addr
  p_Map_size : Addr
  f_Map_size : Addr
  p_Map_arrows : Addr
  f_Map_arrows : Addr
  f_Map_power : Addr
  C_InvalidMap : Addr
  f_InvalidMap__init : Addr
  C_InvalidNumber : Addr
  f_InvalidNumber__init : Addr
  C_InvalidSize : Addr
  f_InvalidSize__init : Addr
  A_is_integer : U.FnAt K "is_integer" "is_integer" s_is_integer f_is_integer ["value"]
  g_is_integer : mg "is_integer" = some (.ref f_is_integer)
  A_in_range : U.FnAt K "in_range" "in_range" s_in_range f_in_range ["value", "least", "most"]
  g_in_range : mg "in_range" = some (.ref f_in_range)
  A_check_size : U.FnAt K "check_size" "check_size" s_check_size f_check_size ["size"]
  g_check_size : mg "check_size" = some (.ref f_check_size)
  A_are_arrows : U.FnAt K "are_arrows" "are_arrows" s_are_arrows f_are_arrows ["size", "arrows"]
  g_are_arrows : mg "are_arrows" = some (.ref f_are_arrows)
  A_row_from : U.FnAt K "row_from" "row_from" s_row_from f_row_from ["arrows", "element"]
  g_row_from : mg "row_from" = some (.ref f_row_from)
  A_moved : U.FnAt K "moved" "moved" s_moved f_moved ["arrows", "steps"]
  g_moved : mg "moved" = some (.ref f_moved)
  A_check_map : U.FnAt K "check_map" "check_map" s_check_map f_check_map ["value"]
  g_check_map : mg "check_map" = some (.ref f_check_map)
  A_greatest_divisor : U.FnAt K "greatest_divisor" "greatest_divisor" s_greatest_divisor f_greatest_divisor ["one", "other"]
  g_greatest_divisor : mg "greatest_divisor" = some (.ref f_greatest_divisor)
  A_parts_of : U.FnAt K "parts_of" "parts_of" s_parts_of f_parts_of ["given"]
  g_parts_of : mg "parts_of" = some (.ref f_parts_of)
  A_are_counts : U.FnAt K "are_counts" "are_counts" s_are_counts f_are_counts ["value"]
  g_are_counts : mg "are_counts" = some (.ref f_are_counts)
  A_ordered : U.FnAt K "ordered" "ordered" s_ordered f_ordered ["counts"]
  g_ordered : mg "ordered" = some (.ref f_ordered)
  A_merged : U.FnAt K "merged" "merged" s_merged f_merged ["one", "other"]
  g_merged : mg "merged" = some (.ref f_merged)
  A_cycle_powers : U.FnAt K "cycle_powers" "cycle_powers" s_cycle_powers f_cycle_powers ["cycles", "exponent"]
  g_cycle_powers : mg "cycle_powers" = some (.ref f_cycle_powers)
  A_chain_powers : U.FnAt K "chain_powers" "chain_powers" s_chain_powers f_chain_powers ["chains", "exponent"]
  g_chain_powers : mg "chain_powers" = some (.ref f_chain_powers)
  A_counts_of : U.FnAt K "counts_of" "counts_of" s_counts_of f_counts_of ["parts"]
  g_counts_of : mg "counts_of" = some (.ref f_counts_of)
  A_shape_of : U.FnAt K "shape_of" "shape_of" s_shape_of f_shape_of ["given"]
  g_shape_of : mg "shape_of" = some (.ref f_shape_of)
  A_l_hand : U.FnAt K "_law_hand" "_law_hand" s_l_hand f_l_hand ["_law_script", "_law_k"]
  g_l_hand : mg "_law_hand" = some (.ref f_l_hand)
  A_l_draw : U.FnAt K "_law_draw" "_law_draw" s_l_draw f_l_draw ["_law_pool", "_law_size"]
  g_l_draw : mg "_law_draw" = some (.ref f_l_draw)
  A_l_arrows : U.FnAt K "_law_arrows" "_law_arrows" s_l_arrows f_l_arrows ["_law_pool", "_law_size", "_law_way"]
  g_l_arrows : mg "_law_arrows" = some (.ref f_l_arrows)
  A_l_divisor : U.FnAt K "_law_divisor" "_law_divisor" s_l_divisor f_l_divisor ["_law_one", "_law_other"]
  g_l_divisor : mg "_law_divisor" = some (.ref f_l_divisor)
  A_l_chain : U.FnAt K "_law_chain" "_law_chain" s_l_chain f_l_chain ["_law_length", "_law_exponent"]
  g_l_chain : mg "_law_chain" = some (.ref f_l_chain)
  A_l_refused : U.FnAt K "_law_refused" "_law_refused" s_l_refused f_l_refused ["_law_formed", "_law_odd"]
  g_l_refused : mg "_law_refused" = some (.ref f_l_refused)
  A_l_great : U.FnAt K "_law_great" "_law_great" s_l_great f_l_great ["_law_pool", "_law_length", "_law_exponent"]
  g_l_great : mg "_law_great" = some (.ref f_l_great)
  A_law : U.FnAt K "law" "law" s_law f_law ["_law_script"]
  L_law : ∃ fd, Fun K "law" "law" s_law f_law fd ∧ ∀ (s : Shared) (u : Value), BindsTo s fd ⟨[u], []⟩ [("_law_script", u)]
  g_law : mg "law" = some (.ref f_law)
  g_Shape : mg "Shape" = some (.ref C_Shape)
  o_Shape : U.OwnC K C_Shape
  kit_int_Shape : PySem.W.kitOne K (.ref C_Shape) (.type "int") = some false
  kit_bool_Shape : PySem.W.kitOne K (.ref C_Shape) (.type "bool") = some false
  kn_NoneType_Shape : PySem.W.kitOne K (.type "NoneType") (.ref C_Shape) = some false
  nf_NoneType_Shape : PySem.W.notFirst K C_Shape (.type "NoneType") = true
  kn_int_Shape : PySem.W.kitOne K (.type "int") (.ref C_Shape) = some false
  nf_int_Shape : PySem.W.notFirst K C_Shape (.type "int") = true
  kn_bool_Shape : PySem.W.kitOne K (.type "bool") (.ref C_Shape) = some false
  nf_bool_Shape : PySem.W.notFirst K C_Shape (.type "bool") = true
  kn_str_Shape : PySem.W.kitOne K (.type "str") (.ref C_Shape) = some false
  nf_str_Shape : PySem.W.notFirst K C_Shape (.type "str") = true
  kn_list_Shape : PySem.W.kitOne K (.type "list") (.ref C_Shape) = some false
  nf_list_Shape : PySem.W.notFirst K C_Shape (.type "list") = true
  kn_dict_Shape : PySem.W.kitOne K (.type "dict") (.ref C_Shape) = some false
  nf_dict_Shape : PySem.W.notFirst K C_Shape (.type "dict") = true
  kn_tuple_Shape : PySem.W.kitOne K (.type "tuple") (.ref C_Shape) = some false
  nf_tuple_Shape : PySem.W.notFirst K C_Shape (.type "tuple") = true
  self_Shape : PySem.W.kitOne K (.ref C_Shape) (.ref C_Shape) = some true
  na_own_cycles_Shape : NoAttr K C_Shape "own_cycles"
  na_own_chains_Shape : NoAttr K C_Shape "own_chains"
  ne_Shape : PySem.W.findIn K (.ref C_Shape) "__ne__" = some (some (.builtin "object.__ne__"))
  A_Shape__init : U.FnAt K "__init__" "Shape.__init__" s_Shape__init f_Shape__init ["self", "cycles", "chains"]
  m_Shape__init : PySem.W.findIn K (.ref C_Shape) "__init__" = some (some (.ref f_Shape__init))
  i_Shape__init : PySem.W.isFn K (.ref f_Shape__init) = true
  M_Shape : Mk K C_Shape f_Shape__init
  A_Shape_cycles : U.FnAt K "cycles" "Shape.cycles" s_Shape_cycles f_Shape_cycles ["self"]
  P_Shape_cycles : PropOf K C_Shape "cycles" p_Shape_cycles f_Shape_cycles
  A_Shape_chains : U.FnAt K "chains" "Shape.chains" s_Shape_chains f_Shape_chains ["self"]
  P_Shape_chains : PropOf K C_Shape "chains" p_Shape_chains f_Shape_chains
  A_Shape_size : U.FnAt K "size" "Shape.size" s_Shape_size f_Shape_size ["self"]
  P_Shape_size : PropOf K C_Shape "size" p_Shape_size f_Shape_size
  A_Shape__add : U.FnAt K "__add__" "Shape.__add__" s_Shape__add f_Shape__add ["self", "other"]
  m_Shape__add : PySem.W.findIn K (.ref C_Shape) "__add__" = some (some (.ref f_Shape__add))
  i_Shape__add : PySem.W.isFn K (.ref f_Shape__add) = true
  A_Shape_power : U.FnAt K "power" "Shape.power" s_Shape_power f_Shape_power ["self", "exponent"]
  m_Shape_power : PySem.W.findIn K (.ref C_Shape) "power" = some (some (.ref f_Shape_power))
  i_Shape_power : PySem.W.isFn K (.ref f_Shape_power) = true
  meth_Shape_power : Meth K C_Shape "power" f_Shape_power
  A_Shape__pow : U.FnAt K "__pow__" "Shape.__pow__" s_Shape__pow f_Shape__pow ["self", "exponent"]
  m_Shape__pow : PySem.W.findIn K (.ref C_Shape) "__pow__" = some (some (.ref f_Shape__pow))
  i_Shape__pow : PySem.W.isFn K (.ref f_Shape__pow) = true
  bt_Shape : U.BinT K C_Shape .Pow
  A_Shape__eq : U.FnAt K "__eq__" "Shape.__eq__" s_Shape__eq f_Shape__eq ["self", "other"]
  m_Shape__eq : PySem.W.findIn K (.ref C_Shape) "__eq__" = some (some (.ref f_Shape__eq))
  i_Shape__eq : PySem.W.isFn K (.ref f_Shape__eq) = true
  g_Map : mg "Map" = some (.ref C_Map)
  o_Map : U.OwnC K C_Map
  kit_int_Map : PySem.W.kitOne K (.ref C_Map) (.type "int") = some false
  kit_bool_Map : PySem.W.kitOne K (.ref C_Map) (.type "bool") = some false
  kn_NoneType_Map : PySem.W.kitOne K (.type "NoneType") (.ref C_Map) = some false
  nf_NoneType_Map : PySem.W.notFirst K C_Map (.type "NoneType") = true
  kn_int_Map : PySem.W.kitOne K (.type "int") (.ref C_Map) = some false
  nf_int_Map : PySem.W.notFirst K C_Map (.type "int") = true
  kn_bool_Map : PySem.W.kitOne K (.type "bool") (.ref C_Map) = some false
  nf_bool_Map : PySem.W.notFirst K C_Map (.type "bool") = true
  kn_str_Map : PySem.W.kitOne K (.type "str") (.ref C_Map) = some false
  nf_str_Map : PySem.W.notFirst K C_Map (.type "str") = true
  kn_list_Map : PySem.W.kitOne K (.type "list") (.ref C_Map) = some false
  nf_list_Map : PySem.W.notFirst K C_Map (.type "list") = true
  kn_dict_Map : PySem.W.kitOne K (.type "dict") (.ref C_Map) = some false
  nf_dict_Map : PySem.W.notFirst K C_Map (.type "dict") = true
  kn_tuple_Map : PySem.W.kitOne K (.type "tuple") (.ref C_Map) = some false
  nf_tuple_Map : PySem.W.notFirst K C_Map (.type "tuple") = true
  kx_Map_Shape : PySem.W.kitOne K (.ref C_Map) (.ref C_Shape) = some false
  nf_Map_Shape : PySem.W.notFirst K C_Shape (.ref C_Map) = true
  self_Map : PySem.W.kitOne K (.ref C_Map) (.ref C_Map) = some true
  na_own_size_Map : NoAttr K C_Map "own_size"
  na_own_arrows_Map : NoAttr K C_Map "own_arrows"
  ne_Map : PySem.W.findIn K (.ref C_Map) "__ne__" = some (some (.builtin "object.__ne__"))
  A_Map__init : U.FnAt K "__init__" "Map.__init__" s_Map__init f_Map__init ["self", "size", "arrows"]
  m_Map__init : PySem.W.findIn K (.ref C_Map) "__init__" = some (some (.ref f_Map__init))
  i_Map__init : PySem.W.isFn K (.ref f_Map__init) = true
  M_Map : Mk K C_Map f_Map__init
  R_Map : ClX.CRead K C_Map (.type "type")
  A_Map_identity : U.FnAt K "identity" "Map.identity" s_Map_identity f_Map_identity ["cls", "size"]
  cm_Map_identity : ClX.CMet K C_Map (.type "type") "identity" p_Map_identity f_Map_identity
  A_Map_size : U.FnAt K "size" "Map.size" s_Map_size f_Map_size ["self"]
  P_Map_size : PropOf K C_Map "size" p_Map_size f_Map_size
  A_Map_arrows : U.FnAt K "arrows" "Map.arrows" s_Map_arrows f_Map_arrows ["self"]
  P_Map_arrows : PropOf K C_Map "arrows" p_Map_arrows f_Map_arrows
  A_Map_power : U.FnAt K "power" "Map.power" s_Map_power f_Map_power ["self", "exponent"]
  m_Map_power : PySem.W.findIn K (.ref C_Map) "power" = some (some (.ref f_Map_power))
  i_Map_power : PySem.W.isFn K (.ref f_Map_power) = true
  meth_Map_power : Meth K C_Map "power" f_Map_power
  g_InvalidMap : mg "InvalidMap" = some (.ref C_InvalidMap)
  x_InvalidMap : OexG K C_InvalidMap
  xf_InvalidMap : XfC K C_InvalidMap
  xe_InvalidMap : ExcC K C_InvalidMap
  te_InvalidMap : PySem.W.exmOne K (.ref C_InvalidMap) (.ref C_InvalidMap) = some true
  kit_ValueError_InvalidMap : PySem.W.kitOne K (.ref C_InvalidMap) (.type "ValueError") = some true
  na_part_InvalidMap : PySem.W.findIn K (.ref C_InvalidMap) "part" = some none
  A_InvalidMap__init : U.FnAt K "__init__" "InvalidMap.__init__" s_InvalidMap__init f_InvalidMap__init ["self", "part"]
  m_InvalidMap__init : PySem.W.findIn K (.ref C_InvalidMap) "__init__" = some (some (.ref f_InvalidMap__init))
  ti_InvalidMap__init : PySem.W.typeIn K (.ref f_InvalidMap__init) = some (.type "function")
  g_InvalidNumber : mg "InvalidNumber" = some (.ref C_InvalidNumber)
  x_InvalidNumber : OexG K C_InvalidNumber
  xf_InvalidNumber : XfC K C_InvalidNumber
  xe_InvalidNumber : ExcC K C_InvalidNumber
  te_InvalidNumber : PySem.W.exmOne K (.ref C_InvalidNumber) (.ref C_InvalidNumber) = some true
  kit_ValueError_InvalidNumber : PySem.W.kitOne K (.ref C_InvalidNumber) (.type "ValueError") = some true
  na_value_InvalidNumber : PySem.W.findIn K (.ref C_InvalidNumber) "value" = some none
  A_InvalidNumber__init : U.FnAt K "__init__" "InvalidNumber.__init__" s_InvalidNumber__init f_InvalidNumber__init ["self", "value"]
  m_InvalidNumber__init : PySem.W.findIn K (.ref C_InvalidNumber) "__init__" = some (some (.ref f_InvalidNumber__init))
  ti_InvalidNumber__init : PySem.W.typeIn K (.ref f_InvalidNumber__init) = some (.type "function")
  g_InvalidSize : mg "InvalidSize" = some (.ref C_InvalidSize)
  x_InvalidSize : OexG K C_InvalidSize
  xf_InvalidSize : XfC K C_InvalidSize
  xe_InvalidSize : ExcC K C_InvalidSize
  te_InvalidSize : PySem.W.exmOne K (.ref C_InvalidSize) (.ref C_InvalidSize) = some true
  kit_ValueError_InvalidSize : PySem.W.kitOne K (.ref C_InvalidSize) (.type "ValueError") = some true
  na_value_InvalidSize : PySem.W.findIn K (.ref C_InvalidSize) "value" = some none
  A_InvalidSize__init : U.FnAt K "__init__" "InvalidSize.__init__" s_InvalidSize__init f_InvalidSize__init ["self", "value"]
  m_InvalidSize__init : PySem.W.findIn K (.ref C_InvalidSize) "__init__" = some (some (.ref f_InvalidSize__init))
  ti_InvalidSize__init : PySem.W.typeIn K (.ref f_InvalidSize__init) = some (.type "function")
  n_isinstance : mg "isinstance" = none
  n_int : mg "int" = none
  n_bool : mg "bool" = none
  n_dict : mg "dict" = none
  n_len : mg "len" = none
  n_range : mg "range" = none
  n_list : mg "list" = none
  n_max : mg "max" = none
  n_min : mg "min" = none
  n_sum : mg "sum" = none
  n_all : mg "all" = none
  n_sorted : mg "sorted" = none
  n_abs : mg "abs" = none
  n_enumerate : mg "enumerate" = none
  n_divmod : mg "divmod" = none
  n_repr : mg "repr" = none
  n_ValueError : mg "ValueError" = none
  v_MAX_SIZE : ∃ t, mg "MAX_SIZE" = some (.int 300 t)
theorem mk_txt {K : PySem.W.Frag} {h : Heap} {mg : Str → Option Value} (X : K.In h) (G : h.Ns mainGlobals mg)
    {f_is_integer : Addr} {oc_is_integer kV_is_integer dc_is_integer pm_is_integer cd_is_integer ct_is_integer : Value} {od_is_integer an_is_integer : Option Addr} {sl_is_integer : Array (Option Value)}
    {f_in_range : Addr} {oc_in_range kV_in_range dc_in_range pm_in_range cd_in_range ct_in_range : Value} {od_in_range an_in_range : Option Addr} {sl_in_range : Array (Option Value)}
    {f_check_size : Addr} {oc_check_size kV_check_size dc_check_size pm_check_size cd_check_size ct_check_size : Value} {od_check_size an_check_size : Option Addr} {sl_check_size : Array (Option Value)}
    {f_are_arrows : Addr} {oc_are_arrows kV_are_arrows dc_are_arrows pm_are_arrows cd_are_arrows ct_are_arrows : Value} {od_are_arrows an_are_arrows : Option Addr} {sl_are_arrows : Array (Option Value)}
    {f_row_from : Addr} {oc_row_from kV_row_from dc_row_from pm_row_from cd_row_from ct_row_from : Value} {od_row_from an_row_from : Option Addr} {sl_row_from : Array (Option Value)}
    {f_moved : Addr} {oc_moved kV_moved dc_moved pm_moved cd_moved ct_moved : Value} {od_moved an_moved : Option Addr} {sl_moved : Array (Option Value)}
    {f_check_map : Addr} {oc_check_map kV_check_map dc_check_map pm_check_map cd_check_map ct_check_map : Value} {od_check_map an_check_map : Option Addr} {sl_check_map : Array (Option Value)}
    {f_greatest_divisor : Addr} {oc_greatest_divisor kV_greatest_divisor dc_greatest_divisor pm_greatest_divisor cd_greatest_divisor ct_greatest_divisor : Value} {od_greatest_divisor an_greatest_divisor : Option Addr} {sl_greatest_divisor : Array (Option Value)}
    {f_parts_of : Addr} {oc_parts_of kV_parts_of dc_parts_of pm_parts_of cd_parts_of ct_parts_of : Value} {od_parts_of an_parts_of : Option Addr} {sl_parts_of : Array (Option Value)}
    {f_are_counts : Addr} {oc_are_counts kV_are_counts dc_are_counts pm_are_counts cd_are_counts ct_are_counts : Value} {od_are_counts an_are_counts : Option Addr} {sl_are_counts : Array (Option Value)}
    {f_ordered : Addr} {oc_ordered kV_ordered dc_ordered pm_ordered cd_ordered ct_ordered : Value} {od_ordered an_ordered : Option Addr} {sl_ordered : Array (Option Value)}
    {f_merged : Addr} {oc_merged kV_merged dc_merged pm_merged cd_merged ct_merged : Value} {od_merged an_merged : Option Addr} {sl_merged : Array (Option Value)}
    {f_cycle_powers : Addr} {oc_cycle_powers kV_cycle_powers dc_cycle_powers pm_cycle_powers cd_cycle_powers ct_cycle_powers : Value} {od_cycle_powers an_cycle_powers : Option Addr} {sl_cycle_powers : Array (Option Value)}
    {f_chain_powers : Addr} {oc_chain_powers kV_chain_powers dc_chain_powers pm_chain_powers cd_chain_powers ct_chain_powers : Value} {od_chain_powers an_chain_powers : Option Addr} {sl_chain_powers : Array (Option Value)}
    {f_counts_of : Addr} {oc_counts_of kV_counts_of dc_counts_of pm_counts_of cd_counts_of ct_counts_of : Value} {od_counts_of an_counts_of : Option Addr} {sl_counts_of : Array (Option Value)}
    {f_shape_of : Addr} {oc_shape_of kV_shape_of dc_shape_of pm_shape_of cd_shape_of ct_shape_of : Value} {od_shape_of an_shape_of : Option Addr} {sl_shape_of : Array (Option Value)}
    {f_l_hand : Addr} {oc_l_hand kV_l_hand dc_l_hand pm_l_hand cd_l_hand ct_l_hand : Value} {od_l_hand an_l_hand : Option Addr} {sl_l_hand : Array (Option Value)}
    {f_l_draw : Addr} {oc_l_draw kV_l_draw dc_l_draw pm_l_draw cd_l_draw ct_l_draw : Value} {od_l_draw an_l_draw : Option Addr} {sl_l_draw : Array (Option Value)}
    {f_l_arrows : Addr} {oc_l_arrows kV_l_arrows dc_l_arrows pm_l_arrows cd_l_arrows ct_l_arrows : Value} {od_l_arrows an_l_arrows : Option Addr} {sl_l_arrows : Array (Option Value)}
    {f_l_divisor : Addr} {oc_l_divisor kV_l_divisor dc_l_divisor pm_l_divisor cd_l_divisor ct_l_divisor : Value} {od_l_divisor an_l_divisor : Option Addr} {sl_l_divisor : Array (Option Value)}
    {f_l_chain : Addr} {oc_l_chain kV_l_chain dc_l_chain pm_l_chain cd_l_chain ct_l_chain : Value} {od_l_chain an_l_chain : Option Addr} {sl_l_chain : Array (Option Value)}
    {f_l_refused : Addr} {oc_l_refused kV_l_refused dc_l_refused pm_l_refused cd_l_refused ct_l_refused : Value} {od_l_refused an_l_refused : Option Addr} {sl_l_refused : Array (Option Value)}
    {f_l_great : Addr} {oc_l_great kV_l_great dc_l_great pm_l_great cd_l_great ct_l_great : Value} {od_l_great an_l_great : Option Addr} {sl_l_great : Array (Option Value)}
    {f_law : Addr} {oc_law kV_law dc_law pm_law cd_law ct_law : Value} {od_law an_law : Option Addr} {sl_law : Array (Option Value)}
    {C_Shape : Addr}
    {f_Shape__init : Addr} {oc_Shape__init kV_Shape__init dc_Shape__init pm_Shape__init cd_Shape__init ct_Shape__init : Value} {od_Shape__init an_Shape__init : Option Addr} {sl_Shape__init : Array (Option Value)}
    {p_Shape_cycles : Addr} {r_Shape_cycles : List Value}
    {f_Shape_cycles : Addr} {oc_Shape_cycles kV_Shape_cycles dc_Shape_cycles pm_Shape_cycles cd_Shape_cycles ct_Shape_cycles : Value} {od_Shape_cycles an_Shape_cycles : Option Addr} {sl_Shape_cycles : Array (Option Value)}
    {p_Shape_chains : Addr} {r_Shape_chains : List Value}
    {f_Shape_chains : Addr} {oc_Shape_chains kV_Shape_chains dc_Shape_chains pm_Shape_chains cd_Shape_chains ct_Shape_chains : Value} {od_Shape_chains an_Shape_chains : Option Addr} {sl_Shape_chains : Array (Option Value)}
    {p_Shape_size : Addr} {r_Shape_size : List Value}
    {f_Shape_size : Addr} {oc_Shape_size kV_Shape_size dc_Shape_size pm_Shape_size cd_Shape_size ct_Shape_size : Value} {od_Shape_size an_Shape_size : Option Addr} {sl_Shape_size : Array (Option Value)}
    {f_Shape__add : Addr} {oc_Shape__add kV_Shape__add dc_Shape__add pm_Shape__add cd_Shape__add ct_Shape__add : Value} {od_Shape__add an_Shape__add : Option Addr} {sl_Shape__add : Array (Option Value)}
    {f_Shape_power : Addr} {oc_Shape_power kV_Shape_power dc_Shape_power pm_Shape_power cd_Shape_power ct_Shape_power : Value} {od_Shape_power an_Shape_power : Option Addr} {sl_Shape_power : Array (Option Value)}
    {f_Shape__pow : Addr} {oc_Shape__pow kV_Shape__pow dc_Shape__pow pm_Shape__pow cd_Shape__pow ct_Shape__pow : Value} {od_Shape__pow an_Shape__pow : Option Addr} {sl_Shape__pow : Array (Option Value)}
    {f_Shape__eq : Addr} {oc_Shape__eq kV_Shape__eq dc_Shape__eq pm_Shape__eq cd_Shape__eq ct_Shape__eq : Value} {od_Shape__eq an_Shape__eq : Option Addr} {sl_Shape__eq : Array (Option Value)}
    {C_Map : Addr}
    {f_Map__init : Addr} {oc_Map__init kV_Map__init dc_Map__init pm_Map__init cd_Map__init ct_Map__init : Value} {od_Map__init an_Map__init : Option Addr} {sl_Map__init : Array (Option Value)}
    {p_Map_identity : Addr} {r_Map_identity : List Value}
    {f_Map_identity : Addr} {oc_Map_identity kV_Map_identity dc_Map_identity pm_Map_identity cd_Map_identity ct_Map_identity : Value} {od_Map_identity an_Map_identity : Option Addr} {sl_Map_identity : Array (Option Value)}
    {p_Map_size : Addr} {r_Map_size : List Value}
    {f_Map_size : Addr} {oc_Map_size kV_Map_size dc_Map_size pm_Map_size cd_Map_size ct_Map_size : Value} {od_Map_size an_Map_size : Option Addr} {sl_Map_size : Array (Option Value)}
    {p_Map_arrows : Addr} {r_Map_arrows : List Value}
    {f_Map_arrows : Addr} {oc_Map_arrows kV_Map_arrows dc_Map_arrows pm_Map_arrows cd_Map_arrows ct_Map_arrows : Value} {od_Map_arrows an_Map_arrows : Option Addr} {sl_Map_arrows : Array (Option Value)}
    {f_Map_power : Addr} {oc_Map_power kV_Map_power dc_Map_power pm_Map_power cd_Map_power ct_Map_power : Value} {od_Map_power an_Map_power : Option Addr} {sl_Map_power : Array (Option Value)}
    {C_InvalidMap : Addr} {nm_InvalidMap q_InvalidMap : Str} {N_InvalidMap : Addr} {bs_InvalidMap : List Value} {sn_InvalidMap : List Str} {sub_InvalidMap : List Value} {ab_InvalidMap : Bool} {col_InvalidMap : Option Bool} {dd_InvalidMap : Option Addr} {m0_InvalidMap m1_InvalidMap m2_InvalidMap m3_InvalidMap m5_InvalidMap : Option Value}
    {f_InvalidMap__init : Addr} {oc_InvalidMap__init kV_InvalidMap__init dc_InvalidMap__init pm_InvalidMap__init cd_InvalidMap__init ct_InvalidMap__init : Value} {od_InvalidMap__init an_InvalidMap__init : Option Addr} {sl_InvalidMap__init : Array (Option Value)}
    {C_InvalidNumber : Addr} {nm_InvalidNumber q_InvalidNumber : Str} {N_InvalidNumber : Addr} {bs_InvalidNumber : List Value} {sn_InvalidNumber : List Str} {sub_InvalidNumber : List Value} {ab_InvalidNumber : Bool} {col_InvalidNumber : Option Bool} {dd_InvalidNumber : Option Addr} {m0_InvalidNumber m1_InvalidNumber m2_InvalidNumber m3_InvalidNumber m5_InvalidNumber : Option Value}
    {f_InvalidNumber__init : Addr} {oc_InvalidNumber__init kV_InvalidNumber__init dc_InvalidNumber__init pm_InvalidNumber__init cd_InvalidNumber__init ct_InvalidNumber__init : Value} {od_InvalidNumber__init an_InvalidNumber__init : Option Addr} {sl_InvalidNumber__init : Array (Option Value)}
    {C_InvalidSize : Addr} {nm_InvalidSize q_InvalidSize : Str} {N_InvalidSize : Addr} {bs_InvalidSize : List Value} {sn_InvalidSize : List Str} {sub_InvalidSize : List Value} {ab_InvalidSize : Bool} {col_InvalidSize : Option Bool} {dd_InvalidSize : Option Addr} {m0_InvalidSize m1_InvalidSize m2_InvalidSize m3_InvalidSize m5_InvalidSize : Option Value}
    {f_InvalidSize__init : Addr} {oc_InvalidSize__init kV_InvalidSize__init dc_InvalidSize__init pm_InvalidSize__init cd_InvalidSize__init ct_InvalidSize__init : Value} {od_InvalidSize__init an_InvalidSize__init : Option Addr} {sl_InvalidSize__init : Array (Option Value)}
    {t_MAX_SIZE : Tok}
    (a_is_integer : PySem.W.nsIn K mainGlobals "is_integer" = some (some (.ref f_is_integer)))
    (l_is_integer : K.lookup f_is_integer = some ⟨oc_is_integer, od_is_integer, .func (PySem.W.fnOf "is_integer" "is_integer" (defArgs s_is_integer) (defBody s_is_integer) (defScope s_is_integer) .none kV_is_integer dc_is_integer pm_is_integer an_is_integer cd_is_integer ct_is_integer), sl_is_integer⟩)
    (c_is_integer : PySem.W.codeIn K cd_is_integer "is_integer" = true)
    (k_is_integer : PySem.W.keepIn K (.ref f_is_integer) = true)
    (a_in_range : PySem.W.nsIn K mainGlobals "in_range" = some (some (.ref f_in_range)))
    (l_in_range : K.lookup f_in_range = some ⟨oc_in_range, od_in_range, .func (PySem.W.fnOf "in_range" "in_range" (defArgs s_in_range) (defBody s_in_range) (defScope s_in_range) .none kV_in_range dc_in_range pm_in_range an_in_range cd_in_range ct_in_range), sl_in_range⟩)
    (c_in_range : PySem.W.codeIn K cd_in_range "in_range" = true)
    (k_in_range : PySem.W.keepIn K (.ref f_in_range) = true)
    (a_check_size : PySem.W.nsIn K mainGlobals "check_size" = some (some (.ref f_check_size)))
    (l_check_size : K.lookup f_check_size = some ⟨oc_check_size, od_check_size, .func (PySem.W.fnOf "check_size" "check_size" (defArgs s_check_size) (defBody s_check_size) (defScope s_check_size) .none kV_check_size dc_check_size pm_check_size an_check_size cd_check_size ct_check_size), sl_check_size⟩)
    (c_check_size : PySem.W.codeIn K cd_check_size "check_size" = true)
    (k_check_size : PySem.W.keepIn K (.ref f_check_size) = true)
    (a_are_arrows : PySem.W.nsIn K mainGlobals "are_arrows" = some (some (.ref f_are_arrows)))
    (l_are_arrows : K.lookup f_are_arrows = some ⟨oc_are_arrows, od_are_arrows, .func (PySem.W.fnOf "are_arrows" "are_arrows" (defArgs s_are_arrows) (defBody s_are_arrows) (defScope s_are_arrows) .none kV_are_arrows dc_are_arrows pm_are_arrows an_are_arrows cd_are_arrows ct_are_arrows), sl_are_arrows⟩)
    (c_are_arrows : PySem.W.codeIn K cd_are_arrows "are_arrows" = true)
    (k_are_arrows : PySem.W.keepIn K (.ref f_are_arrows) = true)
    (a_row_from : PySem.W.nsIn K mainGlobals "row_from" = some (some (.ref f_row_from)))
    (l_row_from : K.lookup f_row_from = some ⟨oc_row_from, od_row_from, .func (PySem.W.fnOf "row_from" "row_from" (defArgs s_row_from) (defBody s_row_from) (defScope s_row_from) .none kV_row_from dc_row_from pm_row_from an_row_from cd_row_from ct_row_from), sl_row_from⟩)
    (c_row_from : PySem.W.codeIn K cd_row_from "row_from" = true)
    (k_row_from : PySem.W.keepIn K (.ref f_row_from) = true)
    (a_moved : PySem.W.nsIn K mainGlobals "moved" = some (some (.ref f_moved)))
    (l_moved : K.lookup f_moved = some ⟨oc_moved, od_moved, .func (PySem.W.fnOf "moved" "moved" (defArgs s_moved) (defBody s_moved) (defScope s_moved) .none kV_moved dc_moved pm_moved an_moved cd_moved ct_moved), sl_moved⟩)
    (c_moved : PySem.W.codeIn K cd_moved "moved" = true)
    (k_moved : PySem.W.keepIn K (.ref f_moved) = true)
    (a_check_map : PySem.W.nsIn K mainGlobals "check_map" = some (some (.ref f_check_map)))
    (l_check_map : K.lookup f_check_map = some ⟨oc_check_map, od_check_map, .func (PySem.W.fnOf "check_map" "check_map" (defArgs s_check_map) (defBody s_check_map) (defScope s_check_map) .none kV_check_map dc_check_map pm_check_map an_check_map cd_check_map ct_check_map), sl_check_map⟩)
    (c_check_map : PySem.W.codeIn K cd_check_map "check_map" = true)
    (k_check_map : PySem.W.keepIn K (.ref f_check_map) = true)
    (a_greatest_divisor : PySem.W.nsIn K mainGlobals "greatest_divisor" = some (some (.ref f_greatest_divisor)))
    (l_greatest_divisor : K.lookup f_greatest_divisor = some ⟨oc_greatest_divisor, od_greatest_divisor, .func (PySem.W.fnOf "greatest_divisor" "greatest_divisor" (defArgs s_greatest_divisor) (defBody s_greatest_divisor) (defScope s_greatest_divisor) .none kV_greatest_divisor dc_greatest_divisor pm_greatest_divisor an_greatest_divisor cd_greatest_divisor ct_greatest_divisor), sl_greatest_divisor⟩)
    (c_greatest_divisor : PySem.W.codeIn K cd_greatest_divisor "greatest_divisor" = true)
    (k_greatest_divisor : PySem.W.keepIn K (.ref f_greatest_divisor) = true)
    (a_parts_of : PySem.W.nsIn K mainGlobals "parts_of" = some (some (.ref f_parts_of)))
    (l_parts_of : K.lookup f_parts_of = some ⟨oc_parts_of, od_parts_of, .func (PySem.W.fnOf "parts_of" "parts_of" (defArgs s_parts_of) (defBody s_parts_of) (defScope s_parts_of) .none kV_parts_of dc_parts_of pm_parts_of an_parts_of cd_parts_of ct_parts_of), sl_parts_of⟩)
    (c_parts_of : PySem.W.codeIn K cd_parts_of "parts_of" = true)
    (k_parts_of : PySem.W.keepIn K (.ref f_parts_of) = true)
    (a_are_counts : PySem.W.nsIn K mainGlobals "are_counts" = some (some (.ref f_are_counts)))
    (l_are_counts : K.lookup f_are_counts = some ⟨oc_are_counts, od_are_counts, .func (PySem.W.fnOf "are_counts" "are_counts" (defArgs s_are_counts) (defBody s_are_counts) (defScope s_are_counts) .none kV_are_counts dc_are_counts pm_are_counts an_are_counts cd_are_counts ct_are_counts), sl_are_counts⟩)
    (c_are_counts : PySem.W.codeIn K cd_are_counts "are_counts" = true)
    (k_are_counts : PySem.W.keepIn K (.ref f_are_counts) = true)
    (a_ordered : PySem.W.nsIn K mainGlobals "ordered" = some (some (.ref f_ordered)))
    (l_ordered : K.lookup f_ordered = some ⟨oc_ordered, od_ordered, .func (PySem.W.fnOf "ordered" "ordered" (defArgs s_ordered) (defBody s_ordered) (defScope s_ordered) .none kV_ordered dc_ordered pm_ordered an_ordered cd_ordered ct_ordered), sl_ordered⟩)
    (c_ordered : PySem.W.codeIn K cd_ordered "ordered" = true)
    (k_ordered : PySem.W.keepIn K (.ref f_ordered) = true)
    (a_merged : PySem.W.nsIn K mainGlobals "merged" = some (some (.ref f_merged)))
    (l_merged : K.lookup f_merged = some ⟨oc_merged, od_merged, .func (PySem.W.fnOf "merged" "merged" (defArgs s_merged) (defBody s_merged) (defScope s_merged) .none kV_merged dc_merged pm_merged an_merged cd_merged ct_merged), sl_merged⟩)
    (c_merged : PySem.W.codeIn K cd_merged "merged" = true)
    (k_merged : PySem.W.keepIn K (.ref f_merged) = true)
    (a_cycle_powers : PySem.W.nsIn K mainGlobals "cycle_powers" = some (some (.ref f_cycle_powers)))
    (l_cycle_powers : K.lookup f_cycle_powers = some ⟨oc_cycle_powers, od_cycle_powers, .func (PySem.W.fnOf "cycle_powers" "cycle_powers" (defArgs s_cycle_powers) (defBody s_cycle_powers) (defScope s_cycle_powers) .none kV_cycle_powers dc_cycle_powers pm_cycle_powers an_cycle_powers cd_cycle_powers ct_cycle_powers), sl_cycle_powers⟩)
    (c_cycle_powers : PySem.W.codeIn K cd_cycle_powers "cycle_powers" = true)
    (k_cycle_powers : PySem.W.keepIn K (.ref f_cycle_powers) = true)
    (a_chain_powers : PySem.W.nsIn K mainGlobals "chain_powers" = some (some (.ref f_chain_powers)))
    (l_chain_powers : K.lookup f_chain_powers = some ⟨oc_chain_powers, od_chain_powers, .func (PySem.W.fnOf "chain_powers" "chain_powers" (defArgs s_chain_powers) (defBody s_chain_powers) (defScope s_chain_powers) .none kV_chain_powers dc_chain_powers pm_chain_powers an_chain_powers cd_chain_powers ct_chain_powers), sl_chain_powers⟩)
    (c_chain_powers : PySem.W.codeIn K cd_chain_powers "chain_powers" = true)
    (k_chain_powers : PySem.W.keepIn K (.ref f_chain_powers) = true)
    (a_counts_of : PySem.W.nsIn K mainGlobals "counts_of" = some (some (.ref f_counts_of)))
    (l_counts_of : K.lookup f_counts_of = some ⟨oc_counts_of, od_counts_of, .func (PySem.W.fnOf "counts_of" "counts_of" (defArgs s_counts_of) (defBody s_counts_of) (defScope s_counts_of) .none kV_counts_of dc_counts_of pm_counts_of an_counts_of cd_counts_of ct_counts_of), sl_counts_of⟩)
    (c_counts_of : PySem.W.codeIn K cd_counts_of "counts_of" = true)
    (k_counts_of : PySem.W.keepIn K (.ref f_counts_of) = true)
    (a_shape_of : PySem.W.nsIn K mainGlobals "shape_of" = some (some (.ref f_shape_of)))
    (l_shape_of : K.lookup f_shape_of = some ⟨oc_shape_of, od_shape_of, .func (PySem.W.fnOf "shape_of" "shape_of" (defArgs s_shape_of) (defBody s_shape_of) (defScope s_shape_of) .none kV_shape_of dc_shape_of pm_shape_of an_shape_of cd_shape_of ct_shape_of), sl_shape_of⟩)
    (c_shape_of : PySem.W.codeIn K cd_shape_of "shape_of" = true)
    (k_shape_of : PySem.W.keepIn K (.ref f_shape_of) = true)
    (a_l_hand : PySem.W.nsIn K mainGlobals "_law_hand" = some (some (.ref f_l_hand)))
    (l_l_hand : K.lookup f_l_hand = some ⟨oc_l_hand, od_l_hand, .func (PySem.W.fnOf "_law_hand" "_law_hand" (defArgs s_l_hand) (defBody s_l_hand) (defScope s_l_hand) .none kV_l_hand dc_l_hand pm_l_hand an_l_hand cd_l_hand ct_l_hand), sl_l_hand⟩)
    (c_l_hand : PySem.W.codeIn K cd_l_hand "_law_hand" = true)
    (k_l_hand : PySem.W.keepIn K (.ref f_l_hand) = true)
    (a_l_draw : PySem.W.nsIn K mainGlobals "_law_draw" = some (some (.ref f_l_draw)))
    (l_l_draw : K.lookup f_l_draw = some ⟨oc_l_draw, od_l_draw, .func (PySem.W.fnOf "_law_draw" "_law_draw" (defArgs s_l_draw) (defBody s_l_draw) (defScope s_l_draw) .none kV_l_draw dc_l_draw pm_l_draw an_l_draw cd_l_draw ct_l_draw), sl_l_draw⟩)
    (c_l_draw : PySem.W.codeIn K cd_l_draw "_law_draw" = true)
    (k_l_draw : PySem.W.keepIn K (.ref f_l_draw) = true)
    (a_l_arrows : PySem.W.nsIn K mainGlobals "_law_arrows" = some (some (.ref f_l_arrows)))
    (l_l_arrows : K.lookup f_l_arrows = some ⟨oc_l_arrows, od_l_arrows, .func (PySem.W.fnOf "_law_arrows" "_law_arrows" (defArgs s_l_arrows) (defBody s_l_arrows) (defScope s_l_arrows) .none kV_l_arrows dc_l_arrows pm_l_arrows an_l_arrows cd_l_arrows ct_l_arrows), sl_l_arrows⟩)
    (c_l_arrows : PySem.W.codeIn K cd_l_arrows "_law_arrows" = true)
    (k_l_arrows : PySem.W.keepIn K (.ref f_l_arrows) = true)
    (a_l_divisor : PySem.W.nsIn K mainGlobals "_law_divisor" = some (some (.ref f_l_divisor)))
    (l_l_divisor : K.lookup f_l_divisor = some ⟨oc_l_divisor, od_l_divisor, .func (PySem.W.fnOf "_law_divisor" "_law_divisor" (defArgs s_l_divisor) (defBody s_l_divisor) (defScope s_l_divisor) .none kV_l_divisor dc_l_divisor pm_l_divisor an_l_divisor cd_l_divisor ct_l_divisor), sl_l_divisor⟩)
    (c_l_divisor : PySem.W.codeIn K cd_l_divisor "_law_divisor" = true)
    (k_l_divisor : PySem.W.keepIn K (.ref f_l_divisor) = true)
    (a_l_chain : PySem.W.nsIn K mainGlobals "_law_chain" = some (some (.ref f_l_chain)))
    (l_l_chain : K.lookup f_l_chain = some ⟨oc_l_chain, od_l_chain, .func (PySem.W.fnOf "_law_chain" "_law_chain" (defArgs s_l_chain) (defBody s_l_chain) (defScope s_l_chain) .none kV_l_chain dc_l_chain pm_l_chain an_l_chain cd_l_chain ct_l_chain), sl_l_chain⟩)
    (c_l_chain : PySem.W.codeIn K cd_l_chain "_law_chain" = true)
    (k_l_chain : PySem.W.keepIn K (.ref f_l_chain) = true)
    (a_l_refused : PySem.W.nsIn K mainGlobals "_law_refused" = some (some (.ref f_l_refused)))
    (l_l_refused : K.lookup f_l_refused = some ⟨oc_l_refused, od_l_refused, .func (PySem.W.fnOf "_law_refused" "_law_refused" (defArgs s_l_refused) (defBody s_l_refused) (defScope s_l_refused) .none kV_l_refused dc_l_refused pm_l_refused an_l_refused cd_l_refused ct_l_refused), sl_l_refused⟩)
    (c_l_refused : PySem.W.codeIn K cd_l_refused "_law_refused" = true)
    (k_l_refused : PySem.W.keepIn K (.ref f_l_refused) = true)
    (a_l_great : PySem.W.nsIn K mainGlobals "_law_great" = some (some (.ref f_l_great)))
    (l_l_great : K.lookup f_l_great = some ⟨oc_l_great, od_l_great, .func (PySem.W.fnOf "_law_great" "_law_great" (defArgs s_l_great) (defBody s_l_great) (defScope s_l_great) .none kV_l_great dc_l_great pm_l_great an_l_great cd_l_great ct_l_great), sl_l_great⟩)
    (c_l_great : PySem.W.codeIn K cd_l_great "_law_great" = true)
    (k_l_great : PySem.W.keepIn K (.ref f_l_great) = true)
    (a_law : PySem.W.nsIn K mainGlobals "law" = some (some (.ref f_law)))
    (l_law : K.lookup f_law = some ⟨oc_law, od_law, .func (PySem.W.fnOf "law" "law" (defArgs s_law) (defBody s_law) (defScope s_law) .none kV_law dc_law pm_law an_law cd_law ct_law), sl_law⟩)
    (c_law : PySem.W.codeIn K cd_law "law" = true)
    (k_law : PySem.W.keepIn K (.ref f_law) = true)
    (a_Shape : PySem.W.nsIn K mainGlobals "Shape" = some (some (.ref C_Shape)))
    (pg_Shape : PySem.W.plainGet K C_Shape Str.empty = true)
    (hd_Shape : PySem.W.hasDictIn K C_Shape = true)
    (po_Shape : PySem.W.plainOver K C_Shape = true)
    (sa_Shape : PySem.W.findIn K (.ref C_Shape) "__setattr__" = some (some (.builtin "object.__setattr__")))
    (sf_Shape : PySem.W.selfFirst K C_Shape = true)
    (ca_Shape : PySem.W.findIn K (.ref C_Shape) "__class__" = some (some (.builtin "object.__class__")))
    (cn_Shape : PySem.W.specialIn K (.builtin "object.__class__") "__get__" = some (some (.builtin "getset_descriptor.__get__")))
    (ct_Shape : PySem.W.takesIn K (.builtin "object.__class__") = some true)
    (cm_Shape : PySem.W.mroIn K C_Shape (.type "object") = some true)
    (kc_Shape : PySem.W.keepIn K (.ref C_Shape) = true)
    (kit_int_Shape : PySem.W.kitOne K (.ref C_Shape) (.type "int") = some false)
    (kit_bool_Shape : PySem.W.kitOne K (.ref C_Shape) (.type "bool") = some false)
    (kn_NoneType_Shape : PySem.W.kitOne K (.type "NoneType") (.ref C_Shape) = some false)
    (nf_NoneType_Shape : PySem.W.notFirst K C_Shape (.type "NoneType") = true)
    (kn_int_Shape : PySem.W.kitOne K (.type "int") (.ref C_Shape) = some false)
    (nf_int_Shape : PySem.W.notFirst K C_Shape (.type "int") = true)
    (kn_bool_Shape : PySem.W.kitOne K (.type "bool") (.ref C_Shape) = some false)
    (nf_bool_Shape : PySem.W.notFirst K C_Shape (.type "bool") = true)
    (kn_str_Shape : PySem.W.kitOne K (.type "str") (.ref C_Shape) = some false)
    (nf_str_Shape : PySem.W.notFirst K C_Shape (.type "str") = true)
    (kn_list_Shape : PySem.W.kitOne K (.type "list") (.ref C_Shape) = some false)
    (nf_list_Shape : PySem.W.notFirst K C_Shape (.type "list") = true)
    (kn_dict_Shape : PySem.W.kitOne K (.type "dict") (.ref C_Shape) = some false)
    (nf_dict_Shape : PySem.W.notFirst K C_Shape (.type "dict") = true)
    (kn_tuple_Shape : PySem.W.kitOne K (.type "tuple") (.ref C_Shape) = some false)
    (nf_tuple_Shape : PySem.W.notFirst K C_Shape (.type "tuple") = true)
    (self_Shape : PySem.W.kitOne K (.ref C_Shape) (.ref C_Shape) = some true)
    (na_own_cycles_Shape : PySem.W.findIn K (.ref C_Shape) "own_cycles" = some none)
    (na_own_chains_Shape : PySem.W.findIn K (.ref C_Shape) "own_chains" = some none)
    (ne_Shape : PySem.W.findIn K (.ref C_Shape) "__ne__" = some (some (.builtin "object.__ne__")))
    (m_Shape__init : PySem.W.findIn K (.ref C_Shape) "__init__" = some (some (.ref f_Shape__init)))
    (i_Shape__init : PySem.W.isFn K (.ref f_Shape__init) = true)
    (l_Shape__init : K.lookup f_Shape__init = some ⟨oc_Shape__init, od_Shape__init, .func (PySem.W.fnOf "__init__" "Shape.__init__" (defArgs s_Shape__init) (defBody s_Shape__init) (defScope s_Shape__init) .none kV_Shape__init dc_Shape__init pm_Shape__init an_Shape__init cd_Shape__init ct_Shape__init), sl_Shape__init⟩)
    (c_Shape__init : PySem.W.codeIn K cd_Shape__init "Shape.__init__" = true)
    (k_Shape__init : PySem.W.keepIn K (.ref f_Shape__init) = true)
    (mk_Shape : PySem.W.makesIn K C_Shape = true)
    (m_Shape_cycles : PySem.W.findIn K (.ref C_Shape) "cycles" = some (some (.ref p_Shape_cycles)))
    (s_get_Shape_cycles : PySem.W.specialIn K (.ref p_Shape_cycles) "__get__" = some (some (.builtin "property.__get__")))
    (tk_Shape_cycles : PySem.W.takesIn K (.ref p_Shape_cycles) = some true)
    (rc_Shape_cycles : PySem.W.recIn K p_Shape_cycles "property" = some (.ref f_Shape_cycles :: r_Shape_cycles))
    (l_Shape_cycles : K.lookup f_Shape_cycles = some ⟨oc_Shape_cycles, od_Shape_cycles, .func (PySem.W.fnOf "cycles" "Shape.cycles" (defArgs s_Shape_cycles) (defBody s_Shape_cycles) (defScope s_Shape_cycles) .none kV_Shape_cycles dc_Shape_cycles pm_Shape_cycles an_Shape_cycles cd_Shape_cycles ct_Shape_cycles), sl_Shape_cycles⟩)
    (c_Shape_cycles : PySem.W.codeIn K cd_Shape_cycles "Shape.cycles" = true)
    (k_Shape_cycles : PySem.W.keepIn K (.ref f_Shape_cycles) = true)
    (m_Shape_chains : PySem.W.findIn K (.ref C_Shape) "chains" = some (some (.ref p_Shape_chains)))
    (s_get_Shape_chains : PySem.W.specialIn K (.ref p_Shape_chains) "__get__" = some (some (.builtin "property.__get__")))
    (tk_Shape_chains : PySem.W.takesIn K (.ref p_Shape_chains) = some true)
    (rc_Shape_chains : PySem.W.recIn K p_Shape_chains "property" = some (.ref f_Shape_chains :: r_Shape_chains))
    (l_Shape_chains : K.lookup f_Shape_chains = some ⟨oc_Shape_chains, od_Shape_chains, .func (PySem.W.fnOf "chains" "Shape.chains" (defArgs s_Shape_chains) (defBody s_Shape_chains) (defScope s_Shape_chains) .none kV_Shape_chains dc_Shape_chains pm_Shape_chains an_Shape_chains cd_Shape_chains ct_Shape_chains), sl_Shape_chains⟩)
    (c_Shape_chains : PySem.W.codeIn K cd_Shape_chains "Shape.chains" = true)
    (k_Shape_chains : PySem.W.keepIn K (.ref f_Shape_chains) = true)
    (m_Shape_size : PySem.W.findIn K (.ref C_Shape) "size" = some (some (.ref p_Shape_size)))
    (s_get_Shape_size : PySem.W.specialIn K (.ref p_Shape_size) "__get__" = some (some (.builtin "property.__get__")))
    (tk_Shape_size : PySem.W.takesIn K (.ref p_Shape_size) = some true)
    (rc_Shape_size : PySem.W.recIn K p_Shape_size "property" = some (.ref f_Shape_size :: r_Shape_size))
    (l_Shape_size : K.lookup f_Shape_size = some ⟨oc_Shape_size, od_Shape_size, .func (PySem.W.fnOf "size" "Shape.size" (defArgs s_Shape_size) (defBody s_Shape_size) (defScope s_Shape_size) .none kV_Shape_size dc_Shape_size pm_Shape_size an_Shape_size cd_Shape_size ct_Shape_size), sl_Shape_size⟩)
    (c_Shape_size : PySem.W.codeIn K cd_Shape_size "Shape.size" = true)
    (k_Shape_size : PySem.W.keepIn K (.ref f_Shape_size) = true)
    (m_Shape__add : PySem.W.findIn K (.ref C_Shape) "__add__" = some (some (.ref f_Shape__add)))
    (i_Shape__add : PySem.W.isFn K (.ref f_Shape__add) = true)
    (l_Shape__add : K.lookup f_Shape__add = some ⟨oc_Shape__add, od_Shape__add, .func (PySem.W.fnOf "__add__" "Shape.__add__" (defArgs s_Shape__add) (defBody s_Shape__add) (defScope s_Shape__add) .none kV_Shape__add dc_Shape__add pm_Shape__add an_Shape__add cd_Shape__add ct_Shape__add), sl_Shape__add⟩)
    (c_Shape__add : PySem.W.codeIn K cd_Shape__add "Shape.__add__" = true)
    (k_Shape__add : PySem.W.keepIn K (.ref f_Shape__add) = true)
    (m_Shape_power : PySem.W.findIn K (.ref C_Shape) "power" = some (some (.ref f_Shape_power)))
    (i_Shape_power : PySem.W.isFn K (.ref f_Shape_power) = true)
    (l_Shape_power : K.lookup f_Shape_power = some ⟨oc_Shape_power, od_Shape_power, .func (PySem.W.fnOf "power" "Shape.power" (defArgs s_Shape_power) (defBody s_Shape_power) (defScope s_Shape_power) .none kV_Shape_power dc_Shape_power pm_Shape_power an_Shape_power cd_Shape_power ct_Shape_power), sl_Shape_power⟩)
    (c_Shape_power : PySem.W.codeIn K cd_Shape_power "Shape.power" = true)
    (k_Shape_power : PySem.W.keepIn K (.ref f_Shape_power) = true)
    (m_Shape__pow : PySem.W.findIn K (.ref C_Shape) "__pow__" = some (some (.ref f_Shape__pow)))
    (i_Shape__pow : PySem.W.isFn K (.ref f_Shape__pow) = true)
    (l_Shape__pow : K.lookup f_Shape__pow = some ⟨oc_Shape__pow, od_Shape__pow, .func (PySem.W.fnOf "__pow__" "Shape.__pow__" (defArgs s_Shape__pow) (defBody s_Shape__pow) (defScope s_Shape__pow) .none kV_Shape__pow dc_Shape__pow pm_Shape__pow an_Shape__pow cd_Shape__pow ct_Shape__pow), sl_Shape__pow⟩)
    (c_Shape__pow : PySem.W.codeIn K cd_Shape__pow "Shape.__pow__" = true)
    (k_Shape__pow : PySem.W.keepIn K (.ref f_Shape__pow) = true)
    (br_Shape : PySem.W.findIn K (.ref C_Shape) "__rpow__" = some none)
    (b1_Shape : PySem.W.findIn K (.type "int") "__pow__" = some (some (.builtin "int.__pow__")))
    (b2_Shape : PySem.W.findIn K (.type "int") "__rpow__" = some (some (.builtin "int.__rpow__")))
    (b3_Shape : PySem.W.subIn K (.type "int") (.ref C_Shape) = some false)
    (m_Shape__eq : PySem.W.findIn K (.ref C_Shape) "__eq__" = some (some (.ref f_Shape__eq)))
    (i_Shape__eq : PySem.W.isFn K (.ref f_Shape__eq) = true)
    (l_Shape__eq : K.lookup f_Shape__eq = some ⟨oc_Shape__eq, od_Shape__eq, .func (PySem.W.fnOf "__eq__" "Shape.__eq__" (defArgs s_Shape__eq) (defBody s_Shape__eq) (defScope s_Shape__eq) .none kV_Shape__eq dc_Shape__eq pm_Shape__eq an_Shape__eq cd_Shape__eq ct_Shape__eq), sl_Shape__eq⟩)
    (c_Shape__eq : PySem.W.codeIn K cd_Shape__eq "Shape.__eq__" = true)
    (k_Shape__eq : PySem.W.keepIn K (.ref f_Shape__eq) = true)
    (a_Map : PySem.W.nsIn K mainGlobals "Map" = some (some (.ref C_Map)))
    (pg_Map : PySem.W.plainGet K C_Map Str.empty = true)
    (hd_Map : PySem.W.hasDictIn K C_Map = true)
    (po_Map : PySem.W.plainOver K C_Map = true)
    (sa_Map : PySem.W.findIn K (.ref C_Map) "__setattr__" = some (some (.builtin "object.__setattr__")))
    (sf_Map : PySem.W.selfFirst K C_Map = true)
    (ca_Map : PySem.W.findIn K (.ref C_Map) "__class__" = some (some (.builtin "object.__class__")))
    (cn_Map : PySem.W.specialIn K (.builtin "object.__class__") "__get__" = some (some (.builtin "getset_descriptor.__get__")))
    (ct_Map : PySem.W.takesIn K (.builtin "object.__class__") = some true)
    (cm_Map : PySem.W.mroIn K C_Map (.type "object") = some true)
    (kc_Map : PySem.W.keepIn K (.ref C_Map) = true)
    (kit_int_Map : PySem.W.kitOne K (.ref C_Map) (.type "int") = some false)
    (kit_bool_Map : PySem.W.kitOne K (.ref C_Map) (.type "bool") = some false)
    (kn_NoneType_Map : PySem.W.kitOne K (.type "NoneType") (.ref C_Map) = some false)
    (nf_NoneType_Map : PySem.W.notFirst K C_Map (.type "NoneType") = true)
    (kn_int_Map : PySem.W.kitOne K (.type "int") (.ref C_Map) = some false)
    (nf_int_Map : PySem.W.notFirst K C_Map (.type "int") = true)
    (kn_bool_Map : PySem.W.kitOne K (.type "bool") (.ref C_Map) = some false)
    (nf_bool_Map : PySem.W.notFirst K C_Map (.type "bool") = true)
    (kn_str_Map : PySem.W.kitOne K (.type "str") (.ref C_Map) = some false)
    (nf_str_Map : PySem.W.notFirst K C_Map (.type "str") = true)
    (kn_list_Map : PySem.W.kitOne K (.type "list") (.ref C_Map) = some false)
    (nf_list_Map : PySem.W.notFirst K C_Map (.type "list") = true)
    (kn_dict_Map : PySem.W.kitOne K (.type "dict") (.ref C_Map) = some false)
    (nf_dict_Map : PySem.W.notFirst K C_Map (.type "dict") = true)
    (kn_tuple_Map : PySem.W.kitOne K (.type "tuple") (.ref C_Map) = some false)
    (nf_tuple_Map : PySem.W.notFirst K C_Map (.type "tuple") = true)
    (self_Map : PySem.W.kitOne K (.ref C_Map) (.ref C_Map) = some true)
    (na_own_size_Map : PySem.W.findIn K (.ref C_Map) "own_size" = some none)
    (na_own_arrows_Map : PySem.W.findIn K (.ref C_Map) "own_arrows" = some none)
    (ne_Map : PySem.W.findIn K (.ref C_Map) "__ne__" = some (some (.builtin "object.__ne__")))
    (m_Map__init : PySem.W.findIn K (.ref C_Map) "__init__" = some (some (.ref f_Map__init)))
    (i_Map__init : PySem.W.isFn K (.ref f_Map__init) = true)
    (l_Map__init : K.lookup f_Map__init = some ⟨oc_Map__init, od_Map__init, .func (PySem.W.fnOf "__init__" "Map.__init__" (defArgs s_Map__init) (defBody s_Map__init) (defScope s_Map__init) .none kV_Map__init dc_Map__init pm_Map__init an_Map__init cd_Map__init ct_Map__init), sl_Map__init⟩)
    (c_Map__init : PySem.W.codeIn K cd_Map__init "Map.__init__" = true)
    (k_Map__init : PySem.W.keepIn K (.ref f_Map__init) = true)
    (mk_Map : PySem.W.makesIn K C_Map = true)
    (rd_Map : PySem.W.readsIn K C_Map (.type "type") = true)
    (ga_Map : PySem.W.specialIn K (.ref C_Map) "__getattribute__" = some (some (.builtin "type.__getattribute__")))
    (at_Map_identity : PySem.W.findCls K (.ref C_Map) (.type "type") "identity" = some (.get (.builtin "classmethod.__get__") (.ref p_Map_identity) .none (.ref C_Map)))
    (rc_Map_identity : PySem.W.recIn K p_Map_identity "classmethod" = some (.ref f_Map_identity :: r_Map_identity))
    (fi_Map_identity : PySem.W.fnIn K f_Map_identity = true)
    (l_Map_identity : K.lookup f_Map_identity = some ⟨oc_Map_identity, od_Map_identity, .func (PySem.W.fnOf "identity" "Map.identity" (defArgs s_Map_identity) (defBody s_Map_identity) (defScope s_Map_identity) .none kV_Map_identity dc_Map_identity pm_Map_identity an_Map_identity cd_Map_identity ct_Map_identity), sl_Map_identity⟩)
    (c_Map_identity : PySem.W.codeIn K cd_Map_identity "Map.identity" = true)
    (k_Map_identity : PySem.W.keepIn K (.ref f_Map_identity) = true)
    (m_Map_size : PySem.W.findIn K (.ref C_Map) "size" = some (some (.ref p_Map_size)))
    (s_get_Map_size : PySem.W.specialIn K (.ref p_Map_size) "__get__" = some (some (.builtin "property.__get__")))
    (tk_Map_size : PySem.W.takesIn K (.ref p_Map_size) = some true)
    (rc_Map_size : PySem.W.recIn K p_Map_size "property" = some (.ref f_Map_size :: r_Map_size))
    (l_Map_size : K.lookup f_Map_size = some ⟨oc_Map_size, od_Map_size, .func (PySem.W.fnOf "size" "Map.size" (defArgs s_Map_size) (defBody s_Map_size) (defScope s_Map_size) .none kV_Map_size dc_Map_size pm_Map_size an_Map_size cd_Map_size ct_Map_size), sl_Map_size⟩)
    (c_Map_size : PySem.W.codeIn K cd_Map_size "Map.size" = true)
    (k_Map_size : PySem.W.keepIn K (.ref f_Map_size) = true)
    (m_Map_arrows : PySem.W.findIn K (.ref C_Map) "arrows" = some (some (.ref p_Map_arrows)))
    (s_get_Map_arrows : PySem.W.specialIn K (.ref p_Map_arrows) "__get__" = some (some (.builtin "property.__get__")))
    (tk_Map_arrows : PySem.W.takesIn K (.ref p_Map_arrows) = some true)
    (rc_Map_arrows : PySem.W.recIn K p_Map_arrows "property" = some (.ref f_Map_arrows :: r_Map_arrows))
    (l_Map_arrows : K.lookup f_Map_arrows = some ⟨oc_Map_arrows, od_Map_arrows, .func (PySem.W.fnOf "arrows" "Map.arrows" (defArgs s_Map_arrows) (defBody s_Map_arrows) (defScope s_Map_arrows) .none kV_Map_arrows dc_Map_arrows pm_Map_arrows an_Map_arrows cd_Map_arrows ct_Map_arrows), sl_Map_arrows⟩)
    (c_Map_arrows : PySem.W.codeIn K cd_Map_arrows "Map.arrows" = true)
    (k_Map_arrows : PySem.W.keepIn K (.ref f_Map_arrows) = true)
    (m_Map_power : PySem.W.findIn K (.ref C_Map) "power" = some (some (.ref f_Map_power)))
    (i_Map_power : PySem.W.isFn K (.ref f_Map_power) = true)
    (l_Map_power : K.lookup f_Map_power = some ⟨oc_Map_power, od_Map_power, .func (PySem.W.fnOf "power" "Map.power" (defArgs s_Map_power) (defBody s_Map_power) (defScope s_Map_power) .none kV_Map_power dc_Map_power pm_Map_power an_Map_power cd_Map_power ct_Map_power), sl_Map_power⟩)
    (c_Map_power : PySem.W.codeIn K cd_Map_power "Map.power" = true)
    (k_Map_power : PySem.W.keepIn K (.ref f_Map_power) = true)
    (a_InvalidMap : PySem.W.nsIn K mainGlobals "InvalidMap" = some (some (.ref C_InvalidMap)))
    (xl_InvalidMap : K.lookup C_InvalidMap = some (excClassObj nm_InvalidMap q_InvalidMap C_InvalidMap N_InvalidMap bs_InvalidMap [.type "ValueError", .type "Exception", .type "BaseException", .type "object"] true sn_InvalidMap sub_InvalidMap ab_InvalidMap col_InvalidMap dd_InvalidMap m0_InvalidMap m1_InvalidMap m2_InvalidMap m3_InvalidMap m5_InvalidMap "ValueError.__new__"))
    (sa_InvalidMap : PySem.W.findIn K (.ref C_InvalidMap) "__setattr__" = some (some (.builtin "object.__setattr__")))
    (ex_InvalidMap : PySem.W.subIn K (.ref C_InvalidMap) (.type "BaseException") = some true)
    (ty_InvalidMap : PySem.W.typeIn K (.ref C_InvalidMap) = some (.type "type"))
    (kc_InvalidMap : PySem.W.keepIn K (.ref C_InvalidMap) = true)
    (hd_InvalidMap : PySem.W.hasDictIn K C_InvalidMap = true)
    (ga_InvalidMap : PySem.W.findIn K (.ref C_InvalidMap) "__getattribute__" = some (some (.builtin "BaseException.__getattribute__")))
    (gg_InvalidMap : PySem.W.findIn K (.ref C_InvalidMap) "__getattr__" = some none)
    (ss_InvalidMap : PySem.W.subIn K (.ref C_InvalidMap) (.ref C_InvalidMap) = some true)
    (ca_InvalidMap : PySem.W.findIn K (.ref C_InvalidMap) "__class__" = some (some (.builtin "object.__class__")))
    (cn_InvalidMap : PySem.W.specialIn K (.builtin "object.__class__") "__get__" = some (some (.builtin "getset_descriptor.__get__")))
    (ct_InvalidMap : PySem.W.takesIn K (.builtin "object.__class__") = some true)
    (cm_InvalidMap : PySem.W.mroIn K C_InvalidMap (.type "object") = some true)
    (kit_ValueError_InvalidMap : PySem.W.kitOne K (.ref C_InvalidMap) (.type "ValueError") = some true)
    (na_part_InvalidMap : PySem.W.findIn K (.ref C_InvalidMap) "part" = some none)
    (m_InvalidMap__init : PySem.W.findIn K (.ref C_InvalidMap) "__init__" = some (some (.ref f_InvalidMap__init)))
    (ti_InvalidMap__init : PySem.W.typeIn K (.ref f_InvalidMap__init) = some (.type "function"))
    (l_InvalidMap__init : K.lookup f_InvalidMap__init = some ⟨oc_InvalidMap__init, od_InvalidMap__init, .func (PySem.W.fnOf "__init__" "InvalidMap.__init__" (defArgs s_InvalidMap__init) (defBody s_InvalidMap__init) (defScope s_InvalidMap__init) .none kV_InvalidMap__init dc_InvalidMap__init pm_InvalidMap__init an_InvalidMap__init cd_InvalidMap__init ct_InvalidMap__init), sl_InvalidMap__init⟩)
    (c_InvalidMap__init : PySem.W.codeIn K cd_InvalidMap__init "InvalidMap.__init__" = true)
    (k_InvalidMap__init : PySem.W.keepIn K (.ref f_InvalidMap__init) = true)
    (a_InvalidNumber : PySem.W.nsIn K mainGlobals "InvalidNumber" = some (some (.ref C_InvalidNumber)))
    (xl_InvalidNumber : K.lookup C_InvalidNumber = some (excClassObj nm_InvalidNumber q_InvalidNumber C_InvalidNumber N_InvalidNumber bs_InvalidNumber [.type "ValueError", .type "Exception", .type "BaseException", .type "object"] true sn_InvalidNumber sub_InvalidNumber ab_InvalidNumber col_InvalidNumber dd_InvalidNumber m0_InvalidNumber m1_InvalidNumber m2_InvalidNumber m3_InvalidNumber m5_InvalidNumber "ValueError.__new__"))
    (sa_InvalidNumber : PySem.W.findIn K (.ref C_InvalidNumber) "__setattr__" = some (some (.builtin "object.__setattr__")))
    (ex_InvalidNumber : PySem.W.subIn K (.ref C_InvalidNumber) (.type "BaseException") = some true)
    (ty_InvalidNumber : PySem.W.typeIn K (.ref C_InvalidNumber) = some (.type "type"))
    (kc_InvalidNumber : PySem.W.keepIn K (.ref C_InvalidNumber) = true)
    (hd_InvalidNumber : PySem.W.hasDictIn K C_InvalidNumber = true)
    (ga_InvalidNumber : PySem.W.findIn K (.ref C_InvalidNumber) "__getattribute__" = some (some (.builtin "BaseException.__getattribute__")))
    (gg_InvalidNumber : PySem.W.findIn K (.ref C_InvalidNumber) "__getattr__" = some none)
    (ss_InvalidNumber : PySem.W.subIn K (.ref C_InvalidNumber) (.ref C_InvalidNumber) = some true)
    (ca_InvalidNumber : PySem.W.findIn K (.ref C_InvalidNumber) "__class__" = some (some (.builtin "object.__class__")))
    (cn_InvalidNumber : PySem.W.specialIn K (.builtin "object.__class__") "__get__" = some (some (.builtin "getset_descriptor.__get__")))
    (ct_InvalidNumber : PySem.W.takesIn K (.builtin "object.__class__") = some true)
    (cm_InvalidNumber : PySem.W.mroIn K C_InvalidNumber (.type "object") = some true)
    (kit_ValueError_InvalidNumber : PySem.W.kitOne K (.ref C_InvalidNumber) (.type "ValueError") = some true)
    (na_value_InvalidNumber : PySem.W.findIn K (.ref C_InvalidNumber) "value" = some none)
    (m_InvalidNumber__init : PySem.W.findIn K (.ref C_InvalidNumber) "__init__" = some (some (.ref f_InvalidNumber__init)))
    (ti_InvalidNumber__init : PySem.W.typeIn K (.ref f_InvalidNumber__init) = some (.type "function"))
    (l_InvalidNumber__init : K.lookup f_InvalidNumber__init = some ⟨oc_InvalidNumber__init, od_InvalidNumber__init, .func (PySem.W.fnOf "__init__" "InvalidNumber.__init__" (defArgs s_InvalidNumber__init) (defBody s_InvalidNumber__init) (defScope s_InvalidNumber__init) .none kV_InvalidNumber__init dc_InvalidNumber__init pm_InvalidNumber__init an_InvalidNumber__init cd_InvalidNumber__init ct_InvalidNumber__init), sl_InvalidNumber__init⟩)
    (c_InvalidNumber__init : PySem.W.codeIn K cd_InvalidNumber__init "InvalidNumber.__init__" = true)
    (k_InvalidNumber__init : PySem.W.keepIn K (.ref f_InvalidNumber__init) = true)
    (a_InvalidSize : PySem.W.nsIn K mainGlobals "InvalidSize" = some (some (.ref C_InvalidSize)))
    (xl_InvalidSize : K.lookup C_InvalidSize = some (excClassObj nm_InvalidSize q_InvalidSize C_InvalidSize N_InvalidSize bs_InvalidSize [.type "ValueError", .type "Exception", .type "BaseException", .type "object"] true sn_InvalidSize sub_InvalidSize ab_InvalidSize col_InvalidSize dd_InvalidSize m0_InvalidSize m1_InvalidSize m2_InvalidSize m3_InvalidSize m5_InvalidSize "ValueError.__new__"))
    (sa_InvalidSize : PySem.W.findIn K (.ref C_InvalidSize) "__setattr__" = some (some (.builtin "object.__setattr__")))
    (ex_InvalidSize : PySem.W.subIn K (.ref C_InvalidSize) (.type "BaseException") = some true)
    (ty_InvalidSize : PySem.W.typeIn K (.ref C_InvalidSize) = some (.type "type"))
    (kc_InvalidSize : PySem.W.keepIn K (.ref C_InvalidSize) = true)
    (hd_InvalidSize : PySem.W.hasDictIn K C_InvalidSize = true)
    (ga_InvalidSize : PySem.W.findIn K (.ref C_InvalidSize) "__getattribute__" = some (some (.builtin "BaseException.__getattribute__")))
    (gg_InvalidSize : PySem.W.findIn K (.ref C_InvalidSize) "__getattr__" = some none)
    (ss_InvalidSize : PySem.W.subIn K (.ref C_InvalidSize) (.ref C_InvalidSize) = some true)
    (ca_InvalidSize : PySem.W.findIn K (.ref C_InvalidSize) "__class__" = some (some (.builtin "object.__class__")))
    (cn_InvalidSize : PySem.W.specialIn K (.builtin "object.__class__") "__get__" = some (some (.builtin "getset_descriptor.__get__")))
    (ct_InvalidSize : PySem.W.takesIn K (.builtin "object.__class__") = some true)
    (cm_InvalidSize : PySem.W.mroIn K C_InvalidSize (.type "object") = some true)
    (kit_ValueError_InvalidSize : PySem.W.kitOne K (.ref C_InvalidSize) (.type "ValueError") = some true)
    (na_value_InvalidSize : PySem.W.findIn K (.ref C_InvalidSize) "value" = some none)
    (m_InvalidSize__init : PySem.W.findIn K (.ref C_InvalidSize) "__init__" = some (some (.ref f_InvalidSize__init)))
    (ti_InvalidSize__init : PySem.W.typeIn K (.ref f_InvalidSize__init) = some (.type "function"))
    (l_InvalidSize__init : K.lookup f_InvalidSize__init = some ⟨oc_InvalidSize__init, od_InvalidSize__init, .func (PySem.W.fnOf "__init__" "InvalidSize.__init__" (defArgs s_InvalidSize__init) (defBody s_InvalidSize__init) (defScope s_InvalidSize__init) .none kV_InvalidSize__init dc_InvalidSize__init pm_InvalidSize__init an_InvalidSize__init cd_InvalidSize__init ct_InvalidSize__init), sl_InvalidSize__init⟩)
    (c_InvalidSize__init : PySem.W.codeIn K cd_InvalidSize__init "InvalidSize.__init__" = true)
    (k_InvalidSize__init : PySem.W.keepIn K (.ref f_InvalidSize__init) = true)
    (z_isinstance : PySem.W.nsIn K mainGlobals "isinstance" = some none)
    (z_int : PySem.W.nsIn K mainGlobals "int" = some none)
    (z_bool : PySem.W.nsIn K mainGlobals "bool" = some none)
    (z_dict : PySem.W.nsIn K mainGlobals "dict" = some none)
    (z_len : PySem.W.nsIn K mainGlobals "len" = some none)
    (z_range : PySem.W.nsIn K mainGlobals "range" = some none)
    (z_list : PySem.W.nsIn K mainGlobals "list" = some none)
    (z_max : PySem.W.nsIn K mainGlobals "max" = some none)
    (z_min : PySem.W.nsIn K mainGlobals "min" = some none)
    (z_sum : PySem.W.nsIn K mainGlobals "sum" = some none)
    (z_all : PySem.W.nsIn K mainGlobals "all" = some none)
    (z_sorted : PySem.W.nsIn K mainGlobals "sorted" = some none)
    (z_abs : PySem.W.nsIn K mainGlobals "abs" = some none)
    (z_enumerate : PySem.W.nsIn K mainGlobals "enumerate" = some none)
    (z_divmod : PySem.W.nsIn K mainGlobals "divmod" = some none)
    (z_repr : PySem.W.nsIn K mainGlobals "repr" = some none)
    (z_ValueError : PySem.W.nsIn K mainGlobals "ValueError" = some none)
    (v_MAX_SIZE : PySem.W.nsIn K mainGlobals "MAX_SIZE" = some (some (.int 300 t_MAX_SIZE)))
    (kit_x_Shape_Map : PySem.W.kitOne K (.ref C_Map) (.ref C_Shape) = some false)
    (nf_x_Shape_Map : PySem.W.notFirst K C_Shape (.ref C_Map) = true) :
    Nonempty (Txt K mg) := ⟨{
    f_is_integer := f_is_integer,
    A_is_integer := ⟨_, fun_mk (st := s_is_integer) l_is_integer c_is_integer k_is_integer, (fun_mk (st := s_is_integer) l_is_integer c_is_integer k_is_integer).binds (ps := ["value"]) fun _ _ _ _ _ _ us hl => match us, hl with | [_], _ => rfl⟩,
    g_is_integer := PySem.W.mg_of X G a_is_integer,
    f_in_range := f_in_range,
    A_in_range := ⟨_, fun_mk (st := s_in_range) l_in_range c_in_range k_in_range, (fun_mk (st := s_in_range) l_in_range c_in_range k_in_range).binds (ps := ["value", "least", "most"]) fun _ _ _ _ _ _ us hl => match us, hl with | [_, _, _], _ => rfl⟩,
    g_in_range := PySem.W.mg_of X G a_in_range,
    f_check_size := f_check_size,
    A_check_size := ⟨_, fun_mk (st := s_check_size) l_check_size c_check_size k_check_size, (fun_mk (st := s_check_size) l_check_size c_check_size k_check_size).binds (ps := ["size"]) fun _ _ _ _ _ _ us hl => match us, hl with | [_], _ => rfl⟩,
    g_check_size := PySem.W.mg_of X G a_check_size,
    f_are_arrows := f_are_arrows,
    A_are_arrows := ⟨_, fun_mk (st := s_are_arrows) l_are_arrows c_are_arrows k_are_arrows, (fun_mk (st := s_are_arrows) l_are_arrows c_are_arrows k_are_arrows).binds (ps := ["size", "arrows"]) fun _ _ _ _ _ _ us hl => match us, hl with | [_, _], _ => rfl⟩,
    g_are_arrows := PySem.W.mg_of X G a_are_arrows,
    f_row_from := f_row_from,
    A_row_from := ⟨_, fun_mk (st := s_row_from) l_row_from c_row_from k_row_from, (fun_mk (st := s_row_from) l_row_from c_row_from k_row_from).binds (ps := ["arrows", "element"]) fun _ _ _ _ _ _ us hl => match us, hl with | [_, _], _ => rfl⟩,
    g_row_from := PySem.W.mg_of X G a_row_from,
    f_moved := f_moved,
    A_moved := ⟨_, fun_mk (st := s_moved) l_moved c_moved k_moved, (fun_mk (st := s_moved) l_moved c_moved k_moved).binds (ps := ["arrows", "steps"]) fun _ _ _ _ _ _ us hl => match us, hl with | [_, _], _ => rfl⟩,
    g_moved := PySem.W.mg_of X G a_moved,
    f_check_map := f_check_map,
    A_check_map := ⟨_, fun_mk (st := s_check_map) l_check_map c_check_map k_check_map, (fun_mk (st := s_check_map) l_check_map c_check_map k_check_map).binds (ps := ["value"]) fun _ _ _ _ _ _ us hl => match us, hl with | [_], _ => rfl⟩,
    g_check_map := PySem.W.mg_of X G a_check_map,
    f_greatest_divisor := f_greatest_divisor,
    A_greatest_divisor := ⟨_, fun_mk (st := s_greatest_divisor) l_greatest_divisor c_greatest_divisor k_greatest_divisor, (fun_mk (st := s_greatest_divisor) l_greatest_divisor c_greatest_divisor k_greatest_divisor).binds (ps := ["one", "other"]) fun _ _ _ _ _ _ us hl => match us, hl with | [_, _], _ => rfl⟩,
    g_greatest_divisor := PySem.W.mg_of X G a_greatest_divisor,
    f_parts_of := f_parts_of,
    A_parts_of := ⟨_, fun_mk (st := s_parts_of) l_parts_of c_parts_of k_parts_of, (fun_mk (st := s_parts_of) l_parts_of c_parts_of k_parts_of).binds (ps := ["given"]) fun _ _ _ _ _ _ us hl => match us, hl with | [_], _ => rfl⟩,
    g_parts_of := PySem.W.mg_of X G a_parts_of,
    f_are_counts := f_are_counts,
    A_are_counts := ⟨_, fun_mk (st := s_are_counts) l_are_counts c_are_counts k_are_counts, (fun_mk (st := s_are_counts) l_are_counts c_are_counts k_are_counts).binds (ps := ["value"]) fun _ _ _ _ _ _ us hl => match us, hl with | [_], _ => rfl⟩,
    g_are_counts := PySem.W.mg_of X G a_are_counts,
    f_ordered := f_ordered,
    A_ordered := ⟨_, fun_mk (st := s_ordered) l_ordered c_ordered k_ordered, (fun_mk (st := s_ordered) l_ordered c_ordered k_ordered).binds (ps := ["counts"]) fun _ _ _ _ _ _ us hl => match us, hl with | [_], _ => rfl⟩,
    g_ordered := PySem.W.mg_of X G a_ordered,
    f_merged := f_merged,
    A_merged := ⟨_, fun_mk (st := s_merged) l_merged c_merged k_merged, (fun_mk (st := s_merged) l_merged c_merged k_merged).binds (ps := ["one", "other"]) fun _ _ _ _ _ _ us hl => match us, hl with | [_, _], _ => rfl⟩,
    g_merged := PySem.W.mg_of X G a_merged,
    f_cycle_powers := f_cycle_powers,
    A_cycle_powers := ⟨_, fun_mk (st := s_cycle_powers) l_cycle_powers c_cycle_powers k_cycle_powers, (fun_mk (st := s_cycle_powers) l_cycle_powers c_cycle_powers k_cycle_powers).binds (ps := ["cycles", "exponent"]) fun _ _ _ _ _ _ us hl => match us, hl with | [_, _], _ => rfl⟩,
    g_cycle_powers := PySem.W.mg_of X G a_cycle_powers,
    f_chain_powers := f_chain_powers,
    A_chain_powers := ⟨_, fun_mk (st := s_chain_powers) l_chain_powers c_chain_powers k_chain_powers, (fun_mk (st := s_chain_powers) l_chain_powers c_chain_powers k_chain_powers).binds (ps := ["chains", "exponent"]) fun _ _ _ _ _ _ us hl => match us, hl with | [_, _], _ => rfl⟩,
    g_chain_powers := PySem.W.mg_of X G a_chain_powers,
    f_counts_of := f_counts_of,
    A_counts_of := ⟨_, fun_mk (st := s_counts_of) l_counts_of c_counts_of k_counts_of, (fun_mk (st := s_counts_of) l_counts_of c_counts_of k_counts_of).binds (ps := ["parts"]) fun _ _ _ _ _ _ us hl => match us, hl with | [_], _ => rfl⟩,
    g_counts_of := PySem.W.mg_of X G a_counts_of,
    f_shape_of := f_shape_of,
    A_shape_of := ⟨_, fun_mk (st := s_shape_of) l_shape_of c_shape_of k_shape_of, (fun_mk (st := s_shape_of) l_shape_of c_shape_of k_shape_of).binds (ps := ["given"]) fun _ _ _ _ _ _ us hl => match us, hl with | [_], _ => rfl⟩,
    g_shape_of := PySem.W.mg_of X G a_shape_of,
    f_l_hand := f_l_hand,
    A_l_hand := ⟨_, fun_mk (st := s_l_hand) l_l_hand c_l_hand k_l_hand, (fun_mk (st := s_l_hand) l_l_hand c_l_hand k_l_hand).binds (ps := ["_law_script", "_law_k"]) fun _ _ _ _ _ _ us hl => match us, hl with | [_, _], _ => rfl⟩,
    g_l_hand := PySem.W.mg_of X G a_l_hand,
    f_l_draw := f_l_draw,
    A_l_draw := ⟨_, fun_mk (st := s_l_draw) l_l_draw c_l_draw k_l_draw, (fun_mk (st := s_l_draw) l_l_draw c_l_draw k_l_draw).binds (ps := ["_law_pool", "_law_size"]) fun _ _ _ _ _ _ us hl => match us, hl with | [_, _], _ => rfl⟩,
    g_l_draw := PySem.W.mg_of X G a_l_draw,
    f_l_arrows := f_l_arrows,
    A_l_arrows := ⟨_, fun_mk (st := s_l_arrows) l_l_arrows c_l_arrows k_l_arrows, (fun_mk (st := s_l_arrows) l_l_arrows c_l_arrows k_l_arrows).binds (ps := ["_law_pool", "_law_size", "_law_way"]) fun _ _ _ _ _ _ us hl => match us, hl with | [_, _, _], _ => rfl⟩,
    g_l_arrows := PySem.W.mg_of X G a_l_arrows,
    f_l_divisor := f_l_divisor,
    A_l_divisor := ⟨_, fun_mk (st := s_l_divisor) l_l_divisor c_l_divisor k_l_divisor, (fun_mk (st := s_l_divisor) l_l_divisor c_l_divisor k_l_divisor).binds (ps := ["_law_one", "_law_other"]) fun _ _ _ _ _ _ us hl => match us, hl with | [_, _], _ => rfl⟩,
    g_l_divisor := PySem.W.mg_of X G a_l_divisor,
    f_l_chain := f_l_chain,
    A_l_chain := ⟨_, fun_mk (st := s_l_chain) l_l_chain c_l_chain k_l_chain, (fun_mk (st := s_l_chain) l_l_chain c_l_chain k_l_chain).binds (ps := ["_law_length", "_law_exponent"]) fun _ _ _ _ _ _ us hl => match us, hl with | [_, _], _ => rfl⟩,
    g_l_chain := PySem.W.mg_of X G a_l_chain,
    f_l_refused := f_l_refused,
    A_l_refused := ⟨_, fun_mk (st := s_l_refused) l_l_refused c_l_refused k_l_refused, (fun_mk (st := s_l_refused) l_l_refused c_l_refused k_l_refused).binds (ps := ["_law_formed", "_law_odd"]) fun _ _ _ _ _ _ us hl => match us, hl with | [_, _], _ => rfl⟩,
    g_l_refused := PySem.W.mg_of X G a_l_refused,
    f_l_great := f_l_great,
    A_l_great := ⟨_, fun_mk (st := s_l_great) l_l_great c_l_great k_l_great, (fun_mk (st := s_l_great) l_l_great c_l_great k_l_great).binds (ps := ["_law_pool", "_law_length", "_law_exponent"]) fun _ _ _ _ _ _ us hl => match us, hl with | [_, _, _], _ => rfl⟩,
    g_l_great := PySem.W.mg_of X G a_l_great,
    f_law := f_law,
    A_law := ⟨_, fun_mk (st := s_law) l_law c_law k_law, (fun_mk (st := s_law) l_law c_law k_law).binds (ps := ["_law_script"]) fun _ _ _ _ _ _ us hl => match us, hl with | [_], _ => rfl⟩,
    L_law := ⟨_, fun_mk (st := s_law) l_law c_law k_law, fun s v => .of_eq rfl⟩,
    g_law := PySem.W.mg_of X G a_law,
    C_Shape := C_Shape,
    g_Shape := PySem.W.mg_of X G a_Shape,
    o_Shape := ⟨⟨pg_Shape, hd_Shape, po_Shape, sa_Shape⟩, sf_Shape, ca_Shape, cn_Shape, ct_Shape, cm_Shape⟩,
    kit_int_Shape := kit_int_Shape,
    kit_bool_Shape := kit_bool_Shape,
    kn_NoneType_Shape := kn_NoneType_Shape,
    nf_NoneType_Shape := nf_NoneType_Shape,
    kn_int_Shape := kn_int_Shape,
    nf_int_Shape := nf_int_Shape,
    kn_bool_Shape := kn_bool_Shape,
    nf_bool_Shape := nf_bool_Shape,
    kn_str_Shape := kn_str_Shape,
    nf_str_Shape := nf_str_Shape,
    kn_list_Shape := kn_list_Shape,
    nf_list_Shape := nf_list_Shape,
    kn_dict_Shape := kn_dict_Shape,
    nf_dict_Shape := nf_dict_Shape,
    kn_tuple_Shape := kn_tuple_Shape,
    nf_tuple_Shape := nf_tuple_Shape,
    self_Shape := self_Shape,
    na_own_cycles_Shape := na_own_cycles_Shape,
    na_own_chains_Shape := na_own_chains_Shape,
    ne_Shape := ne_Shape,
    f_Shape__init := f_Shape__init,
    A_Shape__init := ⟨_, fun_mk (st := s_Shape__init) l_Shape__init c_Shape__init k_Shape__init, (fun_mk (st := s_Shape__init) l_Shape__init c_Shape__init k_Shape__init).binds (ps := ["self", "cycles", "chains"]) fun _ _ _ _ _ _ us hl => match us, hl with | [_, _, _], _ => rfl⟩,
    m_Shape__init := m_Shape__init,
    i_Shape__init := i_Shape__init,
    M_Shape := ⟨mk_Shape, m_Shape__init, i_Shape__init, kc_Shape⟩,
    p_Shape_cycles := p_Shape_cycles,
    f_Shape_cycles := f_Shape_cycles,
    A_Shape_cycles := ⟨_, fun_mk (st := s_Shape_cycles) l_Shape_cycles c_Shape_cycles k_Shape_cycles, (fun_mk (st := s_Shape_cycles) l_Shape_cycles c_Shape_cycles k_Shape_cycles).binds (ps := ["self"]) fun _ _ _ _ _ _ us hl => match us, hl with | [_], _ => rfl⟩,
    P_Shape_cycles := ⟨m_Shape_cycles, s_get_Shape_cycles, tk_Shape_cycles, _, rc_Shape_cycles⟩,
    p_Shape_chains := p_Shape_chains,
    f_Shape_chains := f_Shape_chains,
    A_Shape_chains := ⟨_, fun_mk (st := s_Shape_chains) l_Shape_chains c_Shape_chains k_Shape_chains, (fun_mk (st := s_Shape_chains) l_Shape_chains c_Shape_chains k_Shape_chains).binds (ps := ["self"]) fun _ _ _ _ _ _ us hl => match us, hl with | [_], _ => rfl⟩,
    P_Shape_chains := ⟨m_Shape_chains, s_get_Shape_chains, tk_Shape_chains, _, rc_Shape_chains⟩,
    p_Shape_size := p_Shape_size,
    f_Shape_size := f_Shape_size,
    A_Shape_size := ⟨_, fun_mk (st := s_Shape_size) l_Shape_size c_Shape_size k_Shape_size, (fun_mk (st := s_Shape_size) l_Shape_size c_Shape_size k_Shape_size).binds (ps := ["self"]) fun _ _ _ _ _ _ us hl => match us, hl with | [_], _ => rfl⟩,
    P_Shape_size := ⟨m_Shape_size, s_get_Shape_size, tk_Shape_size, _, rc_Shape_size⟩,
    f_Shape__add := f_Shape__add,
    A_Shape__add := ⟨_, fun_mk (st := s_Shape__add) l_Shape__add c_Shape__add k_Shape__add, (fun_mk (st := s_Shape__add) l_Shape__add c_Shape__add k_Shape__add).binds (ps := ["self", "other"]) fun _ _ _ _ _ _ us hl => match us, hl with | [_, _], _ => rfl⟩,
    m_Shape__add := m_Shape__add,
    i_Shape__add := i_Shape__add,
    f_Shape_power := f_Shape_power,
    A_Shape_power := ⟨_, fun_mk (st := s_Shape_power) l_Shape_power c_Shape_power k_Shape_power, (fun_mk (st := s_Shape_power) l_Shape_power c_Shape_power k_Shape_power).binds (ps := ["self", "exponent"]) fun _ _ _ _ _ _ us hl => match us, hl with | [_, _], _ => rfl⟩,
    m_Shape_power := m_Shape_power,
    i_Shape_power := i_Shape_power,
    meth_Shape_power := ⟨m_Shape_power, i_Shape_power, k_Shape_power⟩,
    f_Shape__pow := f_Shape__pow,
    A_Shape__pow := ⟨_, fun_mk (st := s_Shape__pow) l_Shape__pow c_Shape__pow k_Shape__pow, (fun_mk (st := s_Shape__pow) l_Shape__pow c_Shape__pow k_Shape__pow).binds (ps := ["self", "exponent"]) fun _ _ _ _ _ _ us hl => match us, hl with | [_, _], _ => rfl⟩,
    m_Shape__pow := m_Shape__pow,
    i_Shape__pow := i_Shape__pow,
    bt_Shape := ⟨⟨_, br_Shape, .inl rfl⟩, ⟨_, b1_Shape⟩, ⟨_, b2_Shape⟩, b3_Shape⟩,
    f_Shape__eq := f_Shape__eq,
    A_Shape__eq := ⟨_, fun_mk (st := s_Shape__eq) l_Shape__eq c_Shape__eq k_Shape__eq, (fun_mk (st := s_Shape__eq) l_Shape__eq c_Shape__eq k_Shape__eq).binds (ps := ["self", "other"]) fun _ _ _ _ _ _ us hl => match us, hl with | [_, _], _ => rfl⟩,
    m_Shape__eq := m_Shape__eq,
    i_Shape__eq := i_Shape__eq,
    C_Map := C_Map,
    g_Map := PySem.W.mg_of X G a_Map,
    o_Map := ⟨⟨pg_Map, hd_Map, po_Map, sa_Map⟩, sf_Map, ca_Map, cn_Map, ct_Map, cm_Map⟩,
    kit_int_Map := kit_int_Map,
    kit_bool_Map := kit_bool_Map,
    kn_NoneType_Map := kn_NoneType_Map,
    nf_NoneType_Map := nf_NoneType_Map,
    kn_int_Map := kn_int_Map,
    nf_int_Map := nf_int_Map,
    kn_bool_Map := kn_bool_Map,
    nf_bool_Map := nf_bool_Map,
    kn_str_Map := kn_str_Map,
    nf_str_Map := nf_str_Map,
    kn_list_Map := kn_list_Map,
    nf_list_Map := nf_list_Map,
    kn_dict_Map := kn_dict_Map,
    nf_dict_Map := nf_dict_Map,
    kn_tuple_Map := kn_tuple_Map,
    nf_tuple_Map := nf_tuple_Map,
    kx_Map_Shape := kit_x_Shape_Map,
    nf_Map_Shape := nf_x_Shape_Map,
    self_Map := self_Map,
    na_own_size_Map := na_own_size_Map,
    na_own_arrows_Map := na_own_arrows_Map,
    ne_Map := ne_Map,
    f_Map__init := f_Map__init,
    A_Map__init := ⟨_, fun_mk (st := s_Map__init) l_Map__init c_Map__init k_Map__init, (fun_mk (st := s_Map__init) l_Map__init c_Map__init k_Map__init).binds (ps := ["self", "size", "arrows"]) fun _ _ _ _ _ _ us hl => match us, hl with | [_, _, _], _ => rfl⟩,
    m_Map__init := m_Map__init,
    i_Map__init := i_Map__init,
    M_Map := ⟨mk_Map, m_Map__init, i_Map__init, kc_Map⟩,
    R_Map := ⟨rd_Map, ga_Map⟩,
    p_Map_identity := p_Map_identity,
    f_Map_identity := f_Map_identity,
    A_Map_identity := ⟨_, fun_mk (st := s_Map_identity) l_Map_identity c_Map_identity k_Map_identity, (fun_mk (st := s_Map_identity) l_Map_identity c_Map_identity k_Map_identity).binds (ps := ["cls", "size"]) fun _ _ _ _ _ _ us hl => match us, hl with | [_, _], _ => rfl⟩,
    cm_Map_identity := ⟨at_Map_identity, ⟨_, rc_Map_identity⟩, fi_Map_identity⟩,
    p_Map_size := p_Map_size,
    f_Map_size := f_Map_size,
    A_Map_size := ⟨_, fun_mk (st := s_Map_size) l_Map_size c_Map_size k_Map_size, (fun_mk (st := s_Map_size) l_Map_size c_Map_size k_Map_size).binds (ps := ["self"]) fun _ _ _ _ _ _ us hl => match us, hl with | [_], _ => rfl⟩,
    P_Map_size := ⟨m_Map_size, s_get_Map_size, tk_Map_size, _, rc_Map_size⟩,
    p_Map_arrows := p_Map_arrows,
    f_Map_arrows := f_Map_arrows,
    A_Map_arrows := ⟨_, fun_mk (st := s_Map_arrows) l_Map_arrows c_Map_arrows k_Map_arrows, (fun_mk (st := s_Map_arrows) l_Map_arrows c_Map_arrows k_Map_arrows).binds (ps := ["self"]) fun _ _ _ _ _ _ us hl => match us, hl with | [_], _ => rfl⟩,
    P_Map_arrows := ⟨m_Map_arrows, s_get_Map_arrows, tk_Map_arrows, _, rc_Map_arrows⟩,
    f_Map_power := f_Map_power,
    A_Map_power := ⟨_, fun_mk (st := s_Map_power) l_Map_power c_Map_power k_Map_power, (fun_mk (st := s_Map_power) l_Map_power c_Map_power k_Map_power).binds (ps := ["self", "exponent"]) fun _ _ _ _ _ _ us hl => match us, hl with | [_, _], _ => rfl⟩,
    m_Map_power := m_Map_power,
    i_Map_power := i_Map_power,
    meth_Map_power := ⟨m_Map_power, i_Map_power, k_Map_power⟩,
    C_InvalidMap := C_InvalidMap,
    g_InvalidMap := PySem.W.mg_of X G a_InvalidMap,
    x_InvalidMap := ⟨⟨"ValueError", _, _, _, _, _, _, _, _, _, _, _, _, _, _, _, _, _, _, PySem.F.store_ValueError, PySem.F.excBase_ValueError, xl_InvalidMap, by decide +kernel⟩, sa_InvalidMap, ex_InvalidMap, ty_InvalidMap, kc_InvalidMap⟩,
    xf_InvalidMap := ⟨ga_InvalidMap, gg_InvalidMap, ex_InvalidMap, hd_InvalidMap⟩,
    xe_InvalidMap := ⟨ga_InvalidMap, gg_InvalidMap, ex_InvalidMap, hd_InvalidMap, ca_InvalidMap, cn_InvalidMap, ct_InvalidMap, cm_InvalidMap⟩,
    te_InvalidMap := PySem.W.exm_ref ex_InvalidMap hd_InvalidMap ty_InvalidMap ss_InvalidMap,
    kit_ValueError_InvalidMap := kit_ValueError_InvalidMap,
    na_part_InvalidMap := na_part_InvalidMap,
    f_InvalidMap__init := f_InvalidMap__init,
    A_InvalidMap__init := ⟨_, fun_mk (st := s_InvalidMap__init) l_InvalidMap__init c_InvalidMap__init k_InvalidMap__init, (fun_mk (st := s_InvalidMap__init) l_InvalidMap__init c_InvalidMap__init k_InvalidMap__init).binds (ps := ["self", "part"]) fun _ _ _ _ _ _ us hl => match us, hl with | [_, _], _ => rfl⟩,
    m_InvalidMap__init := m_InvalidMap__init,
    ti_InvalidMap__init := ti_InvalidMap__init,
    C_InvalidNumber := C_InvalidNumber,
    g_InvalidNumber := PySem.W.mg_of X G a_InvalidNumber,
    x_InvalidNumber := ⟨⟨"ValueError", _, _, _, _, _, _, _, _, _, _, _, _, _, _, _, _, _, _, PySem.F.store_ValueError, PySem.F.excBase_ValueError, xl_InvalidNumber, by decide +kernel⟩, sa_InvalidNumber, ex_InvalidNumber, ty_InvalidNumber, kc_InvalidNumber⟩,
    xf_InvalidNumber := ⟨ga_InvalidNumber, gg_InvalidNumber, ex_InvalidNumber, hd_InvalidNumber⟩,
    xe_InvalidNumber := ⟨ga_InvalidNumber, gg_InvalidNumber, ex_InvalidNumber, hd_InvalidNumber, ca_InvalidNumber, cn_InvalidNumber, ct_InvalidNumber, cm_InvalidNumber⟩,
    te_InvalidNumber := PySem.W.exm_ref ex_InvalidNumber hd_InvalidNumber ty_InvalidNumber ss_InvalidNumber,
    kit_ValueError_InvalidNumber := kit_ValueError_InvalidNumber,
    na_value_InvalidNumber := na_value_InvalidNumber,
    f_InvalidNumber__init := f_InvalidNumber__init,
    A_InvalidNumber__init := ⟨_, fun_mk (st := s_InvalidNumber__init) l_InvalidNumber__init c_InvalidNumber__init k_InvalidNumber__init, (fun_mk (st := s_InvalidNumber__init) l_InvalidNumber__init c_InvalidNumber__init k_InvalidNumber__init).binds (ps := ["self", "value"]) fun _ _ _ _ _ _ us hl => match us, hl with | [_, _], _ => rfl⟩,
    m_InvalidNumber__init := m_InvalidNumber__init,
    ti_InvalidNumber__init := ti_InvalidNumber__init,
    C_InvalidSize := C_InvalidSize,
    g_InvalidSize := PySem.W.mg_of X G a_InvalidSize,
    x_InvalidSize := ⟨⟨"ValueError", _, _, _, _, _, _, _, _, _, _, _, _, _, _, _, _, _, _, PySem.F.store_ValueError, PySem.F.excBase_ValueError, xl_InvalidSize, by decide +kernel⟩, sa_InvalidSize, ex_InvalidSize, ty_InvalidSize, kc_InvalidSize⟩,
    xf_InvalidSize := ⟨ga_InvalidSize, gg_InvalidSize, ex_InvalidSize, hd_InvalidSize⟩,
    xe_InvalidSize := ⟨ga_InvalidSize, gg_InvalidSize, ex_InvalidSize, hd_InvalidSize, ca_InvalidSize, cn_InvalidSize, ct_InvalidSize, cm_InvalidSize⟩,
    te_InvalidSize := PySem.W.exm_ref ex_InvalidSize hd_InvalidSize ty_InvalidSize ss_InvalidSize,
    kit_ValueError_InvalidSize := kit_ValueError_InvalidSize,
    na_value_InvalidSize := na_value_InvalidSize,
    f_InvalidSize__init := f_InvalidSize__init,
    A_InvalidSize__init := ⟨_, fun_mk (st := s_InvalidSize__init) l_InvalidSize__init c_InvalidSize__init k_InvalidSize__init, (fun_mk (st := s_InvalidSize__init) l_InvalidSize__init c_InvalidSize__init k_InvalidSize__init).binds (ps := ["self", "value"]) fun _ _ _ _ _ _ us hl => match us, hl with | [_, _], _ => rfl⟩,
    m_InvalidSize__init := m_InvalidSize__init,
    ti_InvalidSize__init := ti_InvalidSize__init,
    n_isinstance := PySem.W.mg_none_of X G z_isinstance,
    n_int := PySem.W.mg_none_of X G z_int,
    n_bool := PySem.W.mg_none_of X G z_bool,
    n_dict := PySem.W.mg_none_of X G z_dict,
    n_len := PySem.W.mg_none_of X G z_len,
    n_range := PySem.W.mg_none_of X G z_range,
    n_list := PySem.W.mg_none_of X G z_list,
    n_max := PySem.W.mg_none_of X G z_max,
    n_min := PySem.W.mg_none_of X G z_min,
    n_sum := PySem.W.mg_none_of X G z_sum,
    n_all := PySem.W.mg_none_of X G z_all,
    n_sorted := PySem.W.mg_none_of X G z_sorted,
    n_abs := PySem.W.mg_none_of X G z_abs,
    n_enumerate := PySem.W.mg_none_of X G z_enumerate,
    n_divmod := PySem.W.mg_none_of X G z_divmod,
    n_repr := PySem.W.mg_none_of X G z_repr,
    n_ValueError := PySem.W.mg_none_of X G z_ValueError,
    v_MAX_SIZE := ⟨_, PySem.W.mg_of X G v_MAX_SIZE⟩ }⟩
end My
namespace My
open PySem L2 U StX
/-! ### values of any known form -/
def knownV (C : Addr) (H : Hp) : V → Prop
  | .non => True | .bl _ => True | .int _ => True | .str _ => True
  | .ref a => (∃ xs, H a = some (.lst xs)) ∨ (∃ xs, H a = some (.tup xs)) ∨ (∃ kvs, H a = some (.dK kvs)) ∨ ∃ dx fs, H a = some (.ins C dx fs)
  | _ => False
def isI : V → Bool | .int _ => true | _ => false
def isB : V → Bool | .bl _ => true | _ => false
def inR : V → Int → Int → Bool | .int i, a, b => decide (a ≤ i) && decide (i ≤ b) | _, _, _ => false
section
variable {P : Program} {w : World} {K : PySem.W.Frag} {mg : Str → Option Value} {base : Heap}
theorem tyx_ins {H : Hp} {a C dx : Addr} {fs : List (Str × V)} (o : OwnC K C) (e : H a = some (.ins C dx fs)) : TyX K H (.ref a) (.ref C) := .base (.ins e o.cl o.ca o.cn o.ct o.cm)
/-- the type of a known value, and what isinstance says of it -/
theorem ty_known (T : Txt K mg) {H : Hp} {x : V} (h : knownV T.C_Map H x) : ∃ t, TyX K H x t ∧ PySem.W.kitOne K t (.type "int") = some (isI x || isB x) ∧ PySem.W.kitOne K t (.type "bool") = some (isB x) := by
  cases x with
  | non => exact ⟨_, .base .non, kit_ty (r := false) (by decide +kernel), kit_ty (r := false) (by decide +kernel)⟩
  | bl b => exact ⟨_, .base (.bl b), kit_ty (r := true) (by decide +kernel), kit_ty (r := true) (by decide +kernel)⟩
  | int i => exact ⟨_, .base (.int i), kit_ty (r := true) (by decide +kernel), kit_ty (r := false) (by decide +kernel)⟩
  | str z => exact ⟨_, .base (.str z), kit_ty (r := false) (by decide +kernel), kit_ty (r := false) (by decide +kernel)⟩
  | ref a =>
    rcases h with ⟨xs, e⟩ | ⟨xs, e⟩ | ⟨xs, e⟩ | ⟨dx, fs, e⟩
    · exact ⟨_, .base (.lst e), kit_ty (r := false) (by decide +kernel), kit_ty (r := false) (by decide +kernel)⟩
    · exact ⟨_, .base (.tup e), kit_ty (r := false) (by decide +kernel), kit_ty (r := false) (by decide +kernel)⟩
    · exact ⟨_, .base (.dK e), kit_ty (r := false) (by decide +kernel), kit_ty (r := false) (by decide +kernel)⟩
    · exact ⟨_, tyx_ins T.o_Map e, T.kit_int_Map, T.kit_bool_Map⟩
  | byt b => exact h.elim
  | flt b => exact h.elim
  | ty b => exact h.elim
def spIsInt (C : Addr) : Sp := fun vs H Q _ => ∃ x, vs = [x] ∧ knownV C H x ∧ Q (.bl (isI x)) H
theorem ok_is_integer (T : Txt K mg) : FnR P w K mg base CX0 1 T.f_is_integer (spIsInt T.C_Map) := by
  refine T.A_is_integer.ok sc_is_integer (fun vs H Q E h => ?_) (fun cdv A outer s H vs Q E hr h => ?_)
  · obtain ⟨x, rfl, _⟩ := h
    rfl
  · obtain ⟨x, rfl, hx, q⟩ := h
    refine ⟨_, pss_one (ps_ret (pe_and (pe_callB call_isi (by rfl) T.n_isinstance (by decide +kernel) (pa_cons (pv 0) (pa_cons (pe_bltn (v := .ty "int") (u := .type "int") (by rfl) T.n_int (by decide +kernel) rfl) pa_nil)))
      (pe_one (pe_not (pe_callB call_isi (by rfl) T.n_isinstance (by decide +kernel) (pa_cons (pv 0) (pa_cons (pe_bltn (v := .ty "bool") (u := .type "bool") (by rfl) T.n_bool (by decide +kernel) rfl) pa_nil))))))), ?_⟩
    obtain ⟨t, ht, k1, k2⟩ := ty_known T hx
    refine ⟨_, rfl, x, _, t, _, _, rfl, .ty _, ht, k1, _, rfl, ?_⟩
    refine ifB (fun hc => ?_) (fun hc => ?_)
    · refine ⟨_, rfl, x, _, t, _, _, rfl, .ty _, ht, k2, _, rfl, ?_⟩
      have e : (!isB x) = isI x := by cases x <;> first | rfl | cases hc
      rw [e]
      exact q
    · have e : isI x = false := by cases x <;> first | rfl | cases hc
      rw [e] at q
      exact q
def spInR (C : Addr) : Sp := fun vs H Q _ => ∃ x a b, vs = [x, .int a, .int b] ∧ knownV C H x ∧ Q (.bl (inR x a b)) H
theorem ok_in_range (T : Txt K mg) : FnR P w K mg base CX0 2 T.f_in_range (spInR T.C_Map) := by
  refine T.A_in_range.ok sc_in_range (fun vs H Q E h => ?_) (fun cdv A outer s H vs Q E hr h => ?_)
  · obtain ⟨x, a, b, rfl, _⟩ := h
    rfl
  · obtain ⟨x, a, b, rfl, hx, q⟩ := h
    refine ⟨_, pss_one (ps_ret (pe_and (pe_callR (ok_is_integer T) hr T.A_is_integer.kp rfl T.g_is_integer pass0 (pa_cons (pv 0) pa_nil))
      (pe_one (pe_chain op_le op_le (pv 1) (pv 0) (pv 2))))), ?_⟩
    refine ⟨_, rfl, x, rfl, hx, _, rfl, ?_⟩
    cases x with
    | int i =>
      refine iteT ⟨_, rfl, _, rfl, _, _, rfl, rfl, _, rfl, ?_⟩
      refine ifD (fun h => ?_) (fun h => ?_)
      · refine ⟨_, rfl, _, _, rfl, rfl, ?_⟩
        have e : inR (.int i) a b = decide (i ≤ b) := by simp [inR, h]
        rw [e] at q
        exact q
      · have e : inR (.int i) a b = false := by simp [inR, h]
        rw [e] at q
        exact q
    | _ => exact iteF q
/-! ### the law's draws -/
def spDraw : Sp := fun vs H Q _ => ∃ (p : Addr) (a b n : Int), vs = [.ref p, .int n] ∧ H p = some (.lst [.int a, .int b]) ∧ 0 ≤ a ∧ 0 ≤ b ∧ b < 2147483647 ∧ 0 < n ∧ n < 1073741824 ∧
  ∀ a' b' r : Int, 0 ≤ a' → 0 ≤ b' → b' < 2147483647 → 0 ≤ r → r < n → Q (.int r) (upd H p (.lst [.int a', .int b']))
theorem ok_draw (T : Txt K mg) : FnR P w K mg base CX0 1 T.f_l_draw spDraw := by
  refine T.A_l_draw.ok sc_l_draw (fun vs H Q E h => ?_) (fun cdv A outer s H vs Q E hr h => ?_)
  · obtain ⟨p, a, b, n, rfl, _⟩ := h
    rfl
  · obtain ⟨p, a, b, n, rfl, hp, ha, hb, hb2, hn, hn2, k⟩ := h
    refine ⟨_, pss_cons (ps_if (pt_cmpR op_gt (pe_ix ix_list (pv 0) pe_int (fun _ _ => rfl)) pe_int (nomark _))
        (pss_cons (ps_set (i := 2) sc_l_draw.nd rfl (Or.inl rfl) (pe_op op_mod (pe_ix ix_list (pv 0) pe_int (fun _ _ => rfl)) (pv 1)))
        (pss_cons (ps_asg (pe_op op_fdiv (pe_ix ix_list (pv 0) pe_int (fun _ _ => rfl)) (pv 1)) (pg_sub (pv 0) pe_int set_list))
        (pss_one (ps_ret (pv 2))))) pss_nil)
      (pss_cons (ps_asg (pe_op op_mod (pe_op op_add (pe_op op_mul (pe_ix ix_list (pv 0) pe_int (fun _ _ => rfl)) pe_int) pe_int) pe_int) (pg_sub (pv 0) pe_int set_list))
      (pss_one (ps_ret (pe_op op_mod (pe_op op_fdiv (pe_op op_mod (pe_op op_mul (pe_ix ix_list (pv 0) pe_int (fun _ _ => rfl)) (pe_ix ix_list (pv 0) pe_int (fun _ _ => rfl))) pe_int) pe_int) (pv 1))))), ?_⟩
    refine ⟨_, rfl, p, _, 0, _, rfl, rfl, SqL.of hp, rfl, _, _, rfl, rfl, _, rfl, ?_⟩
    refine ifD (fun h => ?_) (fun h => ?_)
    · refine ⟨_, rfl, p, _, 0, _, rfl, rfl, SqL.of hp, rfl, _, rfl, _, _, rfl, rfl, hn, ?_⟩
      refine ⟨_, rfl, p, _, 0, _, rfl, rfl, SqL.of hp, rfl, _, rfl, _, _, rfl, rfl, ⟨hn, hn2⟩, _, rfl, p, _, 0, _, rfl, rfl, hp, rfl, ?_⟩
      refine ⟨_, rfl, ?_⟩
      exact k (a / n) b (a % n) (Int.ediv_nonneg ha (by omega)) hb hb2 (Int.emod_nonneg _ (by omega)) (Int.emod_lt_of_pos _ hn)
    · have m1 : 0 ≤ (b * 48271 + 11) % 2147483647 := Int.emod_nonneg _ (by decide)
      have m2 : (b * 48271 + 11) % 2147483647 < 2147483647 := Int.emod_lt_of_pos _ (by decide)
      refine ⟨_, rfl, p, _, 1, _, rfl, rfl, SqL.of hp, rfl, _, _, rfl, rfl, .inr ⟨by decide, by decide⟩, _, _, rfl, rfl, _, _, rfl, rfl, (by show (0 : Int) < 2147483647; decide), _, rfl, p, _, 1, _, rfl, rfl, hp, rfl, ?_⟩
      refine ⟨_, rfl, p, _, 1, _, rfl, rfl, SqL.of upd_same, rfl, _, rfl, p, _, 1, _, rfl, rfl, SqL.of upd_same, rfl, _, _, rfl, rfl, .inl ⟨by omega, by omega⟩, _, _, rfl, rfl, (by show (0 : Int) < 2147483629; decide), _, _, rfl, rfl, ⟨by decide, by decide⟩, _, rfl, _, _, rfl, rfl, hn, ?_⟩
      exact k a ((b * 48271 + 11) % 2147483647) _ ha m1 m2 (Int.emod_nonneg _ (by omega)) (Int.emod_lt_of_pos _ hn)
end
end My
namespace My
open PySem L2 U StX PM
section
variable {P : Program} {w : World} {K : PySem.W.Frag} {mg : Str → Option Value} {base : Heap}
theorem head_int (xs : List V) (h : ∀ v ∈ xs, ∃ i, v = V.int i) : ∃ c, atI (xs ++ [V.int 0]) 0 = some (V.int c) := by
  cases xs with
  | nil => exact ⟨0, rfl⟩
  | cons a r =>
    obtain ⟨i, rfl⟩ := h a List.mem_cons_self
    refine ⟨i, atI_nat (j := 0) ?_⟩
    rfl
theorem cut_int (ns : List Int) (lo hi : Option Int) : ∀ v ∈ cutV (ns.map V.int) lo hi, ∃ i, v = V.int i := by
  intro v hv
  unfold cutV at hv
  have h1 := List.mem_of_mem_drop (List.mem_of_mem_take hv)
  obtain ⟨i, _, rfl⟩ := List.mem_map.mp h1
  exact ⟨i, rfl⟩
def spHand (K : PySem.W.Frag) : Sp := fun vs H Q _ => ∃ (a : Addr) (ns : List Int) (k : Int), vs = [.ref a, .int k] ∧ SqL K H a (ns.map V.int) ∧ ns.length ≤ 63 ∧
  ∀ p H' x y, H p = none → H' p = some (.lst [.int x, .int y]) → Same H H' → 0 ≤ x → 0 ≤ y → y < 2147483647 → Q (.ref p) H'
theorem ok_hand (T : Txt K mg) : FnR P w K mg base CX0 1 T.f_l_hand (spHand K) := by
  refine T.A_l_hand.ok sc_l_hand (fun vs H Q E h => ?_) (fun cdv A outer s H vs Q E hr h => ?_)
  · obtain ⟨a, ns, k, rfl, _⟩ := h
    rfl
  · obtain ⟨a, ns, k, rfl, hS, hl, q⟩ := h
    refine ⟨_, pss_cons (ps_set (i := 2) sc_l_hand.nd rfl (Or.inl rfl) (pe_ix ix_list (pe_op op_cat (pe_slice sl_list (pv 0) (po_some (pv 1)) (po_some (pe_op op_add (pv 1) pe_int))) (pe_lst (pa_cons pe_int pa_nil))) pe_int (fun _ _ => rfl)))
      (pss_cons (ps_set (i := 3) sc_l_hand.nd rfl (Or.inl rfl) (pe_op op_mod (pe_op op_mul (pe_op op_add (pe_op op_add (pe_op op_mod (pv 2) pe_int) (pe_op op_mul pe_int (pv 1))) pe_int) pe_int) pe_int))
      (pss_one (ps_ret (pe_lst (pa_cons (pe_op op_mul (pe_callTy call_int1 (by rfl) T.n_int (by decide +kernel) (pa_cons (pe_cmpR op_ge (pv 2) (pe_op op_pow pe_int pe_int) (nomark _)) pa_nil)) (pv 2)) (pa_cons (pv 3) pa_nil)))))), ?_⟩
    refine ⟨_, rfl, _, rfl, _, rfl, _, rfl, _, _, rfl, rfl, _, rfl, a, _, rfl, hS, fun p1 n1 => ?_⟩
    refine ⟨(by show 1 ≤ sizeLine; decide), fun p2 n2 => ?_⟩
    have n12 : p1 ≠ p2 := ne_of_none upd_same n2
    have hcl := cutV_length (ns.map V.int) (some k) (some (k + 1))
    rw [List.length_map] at hcl
    refine ⟨p1, p2, cutV (ns.map V.int) (some k) (some (k + 1)), [.int 0], rfl, rfl, (by rw [upd_ne n12, upd_same]), upd_same, ?_, fun p3 n3 => ?_⟩
    · show _ + 1 ≤ sizeLine
      exact Nat.le_trans (by omega : _ ≤ 64) (by decide)
    obtain ⟨c, hc⟩ := head_int _ (cut_int ns (some k) (some (k + 1)))
    refine ⟨p3, _, 0, .int c, rfl, rfl, SqL.of upd_same, hc, ?_⟩
    refine ⟨_, rfl, _, _, rfl, rfl, (by show (0 : Int) < 2147483647; decide), _, rfl, _, _, rfl, rfl, .inl ⟨by decide, by decide⟩, _, _, rfl, rfl, _, _, rfl, rfl, _, _, rfl, rfl, .inr ⟨by decide, by decide⟩, _, _, rfl, rfl, (by show (0 : Int) < 2147483629; decide), ?_⟩
    refine ⟨_, rfl, _, _, rfl, rfl, ⟨by decide, by decide, by decide⟩, _, _, rfl, rfl, .inr ⟨_, rfl, _, rfl, _, _, rfl, rfl, .inl ?_, _, rfl, (by show 2 ≤ sizeLine; decide), fun p4 n4 => ?_⟩⟩
    · cases decide ((10 : Int) ^ (18 : Int).toNat ≤ c) <;> exact ⟨by decide, by decide⟩
    · have s3 := ((Same.new (o := .lst (cutV (ns.map V.int) (some k) (some (k + 1)))) n1).trans (Same.new (o := .lst [.int 0]) n2)).trans (Same.new (o := .lst (cutV (ns.map V.int) (some k) (some (k + 1)) ++ [.int 0])) n3)
      refine q p4 _ _ _ (s3.free n4) upd_same (s3.trans (Same.new n4)) ?_ (Int.emod_nonneg _ (by decide)) ?_
      · cases hd : decide ((10 : Int) ^ (18 : Int).toNat ≤ c) with
        | true =>
          have := of_decide_eq_true hd
          have h10 : (0 : Int) ≤ 10 ^ (18 : Int).toNat := by decide
          show 0 ≤ 1 * c
          omega
        | false => show 0 ≤ 0 * c; omega
      · have := Int.emod_lt_of_pos ((c % 2147483647 + 7919 * k + 1) * 48271) (show (0 : Int) < 2147483629 by decide)
        omega
end
end My
namespace My
open PySem L2 U StX PM
section
variable {P : Program} {w : World} {K : PySem.W.Frag} {mg : Str → Option Value} {base : Heap}
def rowOk (n : Int) (p : Int × Int) : Bool := inR (.int p.1) 0 (n - 1) && inR (.int p.2) 0 (n - 1)
def okArr (n : Int) (l : List (Int × Int)) : Bool := l.all (rowOk n) && decide (l.map (·.2)).Nodup
def tgt (l : List (Int × Int)) : List (Key × V) := l.map fun p => (Sum.inl p.2, V.bl true)
theorem tgt_key {l : List (Int × Int)} {y : Int} : (Sum.inl y : Key) ∈ (tgt l).map (·.1) ↔ y ∈ l.map (·.2) := by
  unfold tgt
  rw [List.map_map]
  constructor
  · intro h
    obtain ⟨p, hp, e⟩ := List.mem_map.mp h
    exact List.mem_map.mpr ⟨p, hp, Sum.inl.inj e⟩
  · intro h
    obtain ⟨p, hp, e⟩ := List.mem_map.mp h
    exact List.mem_map.mpr ⟨p, hp, congrArg Sum.inl e⟩
theorem tgt_val {l : List (Int × Int)} {y : Int} : (valV (tgt l) (Sum.inl y : Key)).isSome = decide (y ∈ l.map (·.2)) := by
  by_cases h : y ∈ l.map (·.2)
  · have h' := tgt_key.mpr h
    rw [decide_eq_true h]
    cases e : valV (tgt l) (Sum.inl y : Key) with
    | some v => rfl
    | none =>
      obtain ⟨p, hp, e2⟩ := List.mem_map.mp h'
      exfalso
      unfold valV at e
      rw [Option.map_eq_none_iff, List.find?_eq_none] at e
      exact e p hp (by simp [e2])
  · rw [decide_eq_false h, valV_none fun z => h (tgt_key.mp z)]
    rfl
theorem okArr_step {n : Int} {l : List (Int × Int)} {i : Nat} {p : Int × Int} (h : l[i]? = some p) : okArr n (l.take (i + 1)) = (okArr n (l.take i) && (rowOk n p && !decide (p.2 ∈ (l.take i).map (·.2)))) := by
  rw [take_more h]
  unfold okArr
  rw [List.all_append, List.map_append]
  have e : decide (((l.take i).map (·.2) ++ [p].map (·.2)).Nodup) = (decide ((l.take i).map (·.2)).Nodup && !decide (p.2 ∈ (l.take i).map (·.2))) := by
    rw [Bool.eq_iff_iff]
    simp only [decide_eq_true_eq, Bool.and_eq_true, Bool.not_eq_true', decide_eq_false_iff_not]
    rw [List.nodup_append]
    constructor
    · rintro ⟨h1, _, h2⟩
      exact ⟨h1, fun hm => h2 _ hm _ (by simp) rfl⟩
    · rintro ⟨h1, h2⟩
      refine ⟨h1, by simp, fun a ha b hb e => ?_⟩
      simp at hb
      subst hb
      exact h2 (e ▸ ha)
  rw [e]
  simp only [List.all_cons, List.all_nil, Bool.and_true]
  cases (l.take i).all (rowOk n) <;> cases rowOk n p <;> cases decide ((l.take i).map (·.2)).Nodup <;> simp
theorem okArr_cut {n : Int} {l : List (Int × Int)} {i : Nat} (h : okArr n (l.take i) = false) : okArr n l = false := by
  cases e : okArr n l with
  | false => rfl
  | true =>
    unfold okArr at e h
    rw [Bool.and_eq_true] at e
    have h1 : (l.take i).all (rowOk n) = true := by
      rw [List.all_eq_true] at e ⊢
      exact fun p hp => e.1 p (List.mem_of_mem_take hp)
    have h2 : ((l.take i).map (·.2)).Nodup := by
      have := of_decide_eq_true e.2
      rw [List.map_take]
      exact List.Sublist.nodup (List.take_sublist _ _) this
    rw [h1, decide_eq_true h2] at h
    cases h
def spArr : Sp := fun vs H Q _ => ∃ (n : Int) (d : Addr) (l : List (Int × Int)), vs = [.int n, .ref d] ∧ H d = some (.dK (kvI l)) ∧ l.length ≤ 1000 ∧ ∀ H', Same H H' → Q (.bl (okArr n l)) H'
theorem ok_are_arrows (T : Txt K mg) : FnR P w K mg base CX0 3 T.f_are_arrows spArr := by
  refine T.A_are_arrows.ok sc_are_arrows (fun vs H Q E h => ?_) (fun cdv A outer s H vs Q E hr h => ?_)
  · obtain ⟨n, d, l, rfl, _⟩ := h
    rfl
  · obtain ⟨n, d, l, rfl, hd, hl, q⟩ := h
    have hu := hu_of hr
    refine ⟨_, pss_cons (ps_if (pt_not (pt_val (pe_callB call_isi (by rfl) T.n_isinstance (by decide +kernel) (pa_cons (pv 1) (pa_cons (pe_bltn (v := .ty "dict") (u := .type "dict") (by rfl) T.n_dict (by decide +kernel) rfl) pa_nil))))) (pss_one (ps_ret pe_bl)) pss_nil)
      (pss_cons (ps_set (i := 2) sc_are_arrows.nd rfl (Or.inl rfl) pe_dnewK)
      (pss_cons (ps_lock (ps_for PassesOwn.never rfl (pi_items (pv 1)) (pg_tup rfl (pgs_cons (pg_name (i := 3) sc_are_arrows.nd rfl (Or.inl rfl)) (pgs_cons (pg_name (i := 4) sc_are_arrows.nd rfl (Or.inl rfl)) pgs_nil)))
        (pss_cons (ps_if (PW.pt (pw_or (pt_not (pt_val (pe_callR (ok_in_range T) hr T.A_in_range.kp rfl T.g_in_range pass0 (pa_cons (pv 3) (pa_cons pe_int (pa_cons (pe_op op_sub (pv 0) pe_int) pa_nil))))))
            (pw_or (pt_not (pt_val (pe_callR (ok_in_range T) hr T.A_in_range.kp rfl T.g_in_range pass0 (pa_cons (pv 4) (pa_cons pe_int (pa_cons (pe_op op_sub (pv 0) pe_int) pa_nil))))))
            (pw_or1 (pt_cmp (pc_din hu (pv 4) (pv 2))))))) (pss_one (ps_ret pe_bl)) pss_nil)
        (pss_one (ps_dput hu (pv 2) (pv 4) pe_bl rfl)))))
      (pss_one (ps_ret pe_bl)))), ?_⟩
    refine ⟨_, rfl, _, _, _, _, true, rfl, .ty _, .base (.dK hd), kit_ty (by decide +kernel), _, rfl, ?_⟩
    refine iteF ?_
    intro t ht
    have ntd : t ≠ d := fun e => by rw [e, hd] at ht; cases ht
    have hd1 : (upd H t (.dK [])) d = some (.dK (kvI l)) := by rw [upd_ne ntd.symm]; exact hd
    refine ⟨d, _, hd1, trivial, fun od => ?_⟩
    refine ⟨_, rfl, d, od, kvI l, rfl, upd_same, ?_⟩
    refine for_it walk_items (fun i σ H' => ∃ v3 v4, σ = [some (.int n), some (.ref d), some (.ref t), v3, v4] ∧ H' d = some (.frz od (.dK (kvI l))) ∧ Off d H H' ∧ H' t = some (.dK (tgt (l.take i))) ∧ okArr n (l.take i) = true)
      ⟨none, none, rfl, upd_same, (Off.new ht).tr Off.lock, (by rw [upd_ne ntd]; exact upd_same), rfl⟩ (fun i σ H' _ ⟨_, _, _, p, _⟩ => p) ?_ ?_
    · rintro i v σ H' H'' hi ⟨v3, v4, rfl, p1, p2, p3, p4⟩ ⟨U, a, b, rfl, hU, rfl, e1, e2⟩
      rw [kvI_length] at hi
      obtain ⟨⟨x, y⟩, exy⟩ : ∃ p, l[i]? = some p := ⟨_, List.getElem?_eq_getElem hi⟩
      have ek : (kvI l)[i]? = some (Sum.inl x, V.int y) := by unfold kvI; rw [List.getElem?_map, exy]; rfl
      dsimp only at e1 e2
      rw [ek] at e1 e2
      cases e1; cases e2
      have nUd : d ≠ U := ne_of_none p1 hU
      have nUt : t ≠ U := ne_of_none p3 hU
      have d3 : (upd H' U (.tup [kV (Sum.inl x), .int y])) d = some (.frz od (.dK (kvI l))) := by rw [upd_ne nUd]; exact p1
      have t3 : (upd H' U (.tup [kV (Sum.inl x), .int y])) t = some (.dK (tgt (l.take i))) := by rw [upd_ne nUt]; exact p3
      have o3 : Off d H (upd H' U (.tup [kV (Sum.inl x), .int y])) := p2.tr (Off.new hU)
      have bad : (rowOk n (x, y) && !decide (y ∈ (l.take i).map (·.2))) = false → Q (.bl false) (upd (upd H' U (.tup [kV (Sum.inl x), .int y])) d (.dK (kvI l))) := by
        intro hb
        have h1 := okArr_step (n := n) exy
        rw [p4, hb] at h1
        have := q _ (o3.back hd)
        rw [okArr_cut h1] at this
        exact this
      refine ⟨U, [.int x, .int y], rfl, SqT.of upd_same, rfl, .int x, [.int y], rfl, .int y, [], rfl, rfl, ?_⟩
      refine ⟨_, rfl, _, rfl, _, _, rfl, rfl, .int x, 0, n - 1, rfl, trivial, _, rfl, ?_⟩
      refine ifNB (fun hc => iteT ⟨d3, bad ?_⟩) (fun hc => ?_)
      · simp [rowOk, hc]
      refine ⟨_, rfl, _, rfl, _, _, rfl, rfl, .int y, 0, n - 1, rfl, trivial, _, rfl, ?_⟩
      refine ifNB (fun hc2 => iteT ⟨d3, bad ?_⟩) (fun hc2 => ?_)
      · simp [rowOk, hc2]
      refine ⟨_, rfl, _, rfl, t, _, rfl, DGet.k (k := Sum.inl y) t3, _, rfl, ?_⟩
      rw [tgt_val]
      refine ifD (fun hm => ⟨d3, bad ?_⟩) (fun hm => ?_)
      · rw [decide_eq_true hm]; simp
      have hlen : (tgt (l.take i)).length ≤ 1000 := by unfold tgt; rw [List.length_map, List.length_take]; omega
      refine ⟨_, rfl, _, rfl, t, _, rfl, DPut.k (k := Sum.inl y) t3 (small1000 hlen), ?_⟩
      refine ⟨_, _, rfl, ?_, o3.mut ht, ?_, ?_⟩
      · rw [upd_ne ntd.symm]; exact d3
      · rw [upd_same, putK_new _ (valV_none fun z => hm (tgt_key.mp z)), take_more exy]
        unfold tgt
        rw [List.map_append]
        rfl
      · rw [okArr_step exy, p4, decide_eq_false hm]
        simp [rowOk, hc, hc2]
    · rintro σ H' ⟨v3, v4, rfl, p1, p2, p3, p4⟩
      rw [kvI_length, List.take_length] at p4
      have := q _ (p2.back hd)
      rw [p4] at this
      exact ⟨p1, this⟩
end
end My
namespace My
open PySem L2 U StX PM
section
variable {P : Program} {w : World} {K : PySem.W.Frag} {mg : Str → Option Value} {base : Heap}
theorem ne_fld : ¬ (("own_size" : Str) = "own_arrows") := by decide +kernel
/-- a map's attributes -/
def flds (n : Int) (D : Addr) : List (Str × V) := putF "own_arrows" (.ref D) (putF "own_size" (.int n) [])
theorem flds_size (n : Int) (D : Addr) : (flds n D).lookup ("own_size" : Str) = some (.int n) := by
  unfold flds
  rw [lookup_putF, if_neg ne_fld, lookup_putF, if_pos rfl]
theorem flds_arrows (n : Int) (D : Addr) : (flds n D).lookup ("own_arrows" : Str) = some (.ref D) := by
  unfold flds
  rw [lookup_putF, if_pos rfl]
theorem flds_no (n : Int) (D : Addr) {m : Str} (h1 : ¬ m = "own_arrows") (h2 : ¬ m = "own_size") : (flds n D).lookup m = none := by
  unfold flds
  rw [lookup_putF, if_neg h1, lookup_putF, if_neg h2]
  all_goals rfl
/-- a Map of n elements stands at m: the map f -/
structure IsMap (C : Addr) (H : Hp) (m : Addr) (n : Int) (f : PF) : Prop where
  ob : ∃ dx D, H m = some (.ins C dx (flds n D)) ∧ H D = some (.dK (kvI (tab n f)))
  wf : WF n f
  lo : 1 ≤ n
  hi : n ≤ 300
theorem IsMap.same {C : Addr} {H H' : Hp} {m : Addr} {n : Int} {f : PF} (a : IsMap C H m n f) (s : Same H H') : IsMap C H' m n f := by
  obtain ⟨⟨dx, D, h1, h2⟩, wf, lo, hi⟩ := a
  exact ⟨⟨dx, D, s _ _ h1, s _ _ h2⟩, wf, lo, hi⟩
theorem okArr_of {n : Int} {l : List (Int × Int)} {f : PF} (d : DI l f) (w : WF n f) : okArr n l = true := by
  unfold okArr
  rw [Bool.and_eq_true]
  refine ⟨List.all_eq_true.mpr fun p hp => ?_, decide_eq_true (d.vals w)⟩
  obtain ⟨x, y⟩ := p
  have h := w.dom x y (d.mem.mp hp)
  simp only [rowOk, inR, Bool.and_eq_true, decide_eq_true_eq]
  omega
theorem madeR_tab {l : List (Int × Int)} {f : PF} (d : DI l f) (n : Nat) : madeR (fun k => (lk l k).isSome) (fun x => x) (fun k => ((lk l k).map V.int).getD .non) n = kvI (tabN f n) := by
  induction n with
  | zero => rfl
  | succ n ih =>
    rw [madeR_succ, ih]
    have e : tabN f (n + 1) = tabN f n ++ ((f (n : Int)).map fun y => ((n : Int), y)).toList := by
      unfold tabN
      rw [List.range_succ, List.filterMap_append]
      cases h : f (n : Int) <;> simp [h]
    rw [e, d.at_]
    cases h : f (n : Int) with
    | none => simp
    | some y => simp [kvI]
def spInit (C : Addr) : Sp := fun vs H Q _ => ∃ (p dx d : Addr) (n : Int) (l : List (Int × Int)) (f : PF), vs = [.ref p, .int n, .ref d] ∧ H p = some (.ins C dx []) ∧ H d = some (.dK (kvI l)) ∧ DI l f ∧ WF n f ∧ 1 ≤ n ∧ n ≤ 300 ∧ l.length ≤ 1000 ∧
  ∀ (H' : Hp) (D : Addr), Off p H H' → H D = none → H' p = some (.ins C dx (flds n D)) → H' D = some (.dK (kvI (tab n f))) → Q .non H'
theorem ok_init (T : Txt K mg) : FnR P w K mg base CX0 4 T.f_Map__init (spInit T.C_Map) := by
  refine T.A_Map__init.ok sc_Map__init (fun vs H Q E h => ?_) (fun cdv A outer s H vs Q E hr h => ?_)
  · obtain ⟨p, dx, d, n, l, f, rfl, _⟩ := h
    rfl
  · obtain ⟨p, dx, d, n, l, f, rfl, hp, hd, di, wf, h1, h3, hl, q⟩ := h
    have hu := hu_of hr
    obtain ⟨tk, hms⟩ := T.v_MAX_SIZE
    refine ⟨_, pss_cons (ps_if (pt_not (pt_val (pe_callR (ok_in_range T) (hr.mono (by decide)) T.A_in_range.kp rfl T.g_in_range pass0 (pa_cons (pv 1) (pa_cons pe_int (pa_cons (pe_glob (v := .int 300) rfl hms ⟨_, rfl⟩) pa_nil)))))) (pss_one ps_never) pss_nil)
      (pss_cons (ps_if (pt_not (pt_val (pe_callR (ok_are_arrows T) hr T.A_are_arrows.kp rfl T.g_are_arrows pass0 (pa_cons (pv 1) (pa_cons (pv 2) pa_nil))))) (pss_one ps_never) pss_nil)
      (pss_cons (ps_fld (pv 0) (pv 1) rfl)
      (pss_one (ps_fld (pv 0) (pe_dc (own := [("source", 3)]) (g := gName 3) rfl sc_Map__init.nd (pi_range1 rfl T.n_range (pa_cons (pv 1) pa_nil)) (blkOk_by (own := [("source", 3)]) (N := n_Map__init) (sc := defScope s_Map__init) (by decide +kernel))
        (fun _ _ _ _ _ => pg_name (i := 3) sc_Map__init.nd rfl (Or.inl rfl)) (fun _ _ _ _ _ => pts_one (pt_cmp (pc_din hu (pv 3) (pv 2)))) (fun _ _ _ _ _ => pv 3) (fun _ _ _ _ _ => pe_dget hu (pv 2) (pv 3) (fun _ _ => rfl))) rfl)))), ?_⟩
    refine ⟨_, rfl, .int n, 1, 300, rfl, trivial, _, rfl, ?_⟩
    have e1 : inR (.int n) 1 300 = true := by simp [inR, h1, h3]
    rw [e1]
    refine iteF ⟨_, rfl, _, rfl, n, d, l, rfl, hd, hl, fun H1 s1 => ⟨_, rfl, ?_⟩⟩
    rw [okArr_of di wf]
    refine iteF ?_
    have hp1 := s1 _ _ hp
    have npd : p ≠ d := ne_of hp hd (by intro z; cases z)
    refine ⟨_, rfl, _, rfl, p, T.C_Map, dx, [], rfl, hp1, T.o_Map.cl, T.na_own_size_Map, (by show 0 < 1000; decide), ?_⟩
    have hd1 : (upd H1 p (.ins T.C_Map dx (putF "own_size" (.int n) []))) d = some (.dK (kvI l)) := by rw [upd_ne npd.symm]; exact s1 _ _ hd
    dsimp only [sFld]
    refine dc_range (n := n.toNat) (fun k => (lk l k).isSome) (fun k => ((lk l k).map V.int).getD .non) (fun R r => ⟨_, rfl, n, rfl, by omega, by omega, r⟩) (fun _ => rfl) ?_ (small1000 (by omega)) ?_
    · intro k hk H2 s2
      have hd2 := s2 _ _ hd1
      refine ⟨fun R r => ?_, fun hc => ⟨fun R r => ?_, fun R r => ?_⟩⟩
      · refine ⟨_, rfl, _, rfl, d, _, rfl, DGet.k (k := Sum.inl (0 + (k : Int))) hd2, _, rfl, ?_⟩
        rw [valV_kvI, Option.isSome_map, Int.zero_add]
        exact r
      · refine ⟨_, rfl, ?_⟩
        rw [Int.zero_add]
        exact r
      · cases hv : lk l (k : Int) with
        | none => rw [hv] at hc; cases hc
        | some y =>
          rw [hv] at r
          refine ⟨_, rfl, _, rfl, d, .int y, rfl, ?_, r⟩
          have := DGet.k (k := Sum.inl (0 + (k : Int))) hd2
          rw [valV_kvI, Int.zero_add, hv] at this
          rw [Int.zero_add]
          exact this
    · intro D H2 nD hD s2
      rw [madeR_tab di] at hD
      have hp2 := s2 _ _ (upd_same : (upd H1 p (.ins T.C_Map dx (putF "own_size" (.int n) []))) p = _)
      refine ⟨_, rfl, p, T.C_Map, dx, _, rfl, hp2, T.o_Map.cl, T.na_own_arrows_Map, (by show 1 < 1000; decide), ?_⟩
      have nDp : D ≠ p := fun e => by rw [e, upd_same] at nD; cases nD
      have nD1 : H1 D = none := by rw [upd_ne nDp] at nD; exact nD
      refine q _ D (fun b o hb e => ?_) (s1.free nD1) upd_same ?_
      · rw [upd_ne hb]
        refine s2 _ _ ?_
        rw [upd_ne hb]
        exact s1 _ _ e
      · rw [upd_ne nDp]
        exact hD
end
end My
namespace My
open PySem L2 U StX PM
/-! ### what a comprehension over pairs of ints makes -/
def madeI (c : Int → Int → Bool) (kf vi : Int → Int → Int) (l : List (Int × Int)) : List (Int × Int) := (l.filter fun p => c p.1 p.2).map fun p => (kf p.1 p.2, vi p.1 p.2)
theorem madeD_I (c : Int → Int → Bool) (kf vi : Int → Int → Int) (l : List (Int × Int)) : madeD c kf (fun x y => .int (vi x y)) l = kvI (madeI c kf vi l) := by
  unfold madeD madeI kvI
  rw [List.map_map]
  rfl
theorem kvI_keys (l : List (Int × Int)) : (kvI l).map (·.1) = (l.map (·.1)).map Sum.inl := by
  unfold kvI
  rw [List.map_map, List.map_map]
  rfl
theorem nd_inl {l : List Int} (h : l.Nodup) : (l.map (Sum.inl : Int → Key)).Nodup := by
  induction l with
  | nil => exact List.nodup_nil
  | cons a r ih =>
    rw [List.nodup_cons] at h
    rw [List.map_cons, List.nodup_cons]
    refine ⟨fun hm => ?_, ih h.2⟩
    obtain ⟨b, hb, e⟩ := List.mem_map.mp hm
    exact h.1 (Sum.inl.inj e ▸ hb)
theorem mem_madeI {c : Int → Int → Bool} {kf vi : Int → Int → Int} {l : List (Int × Int)} {a b : Int} : (a, b) ∈ madeI c kf vi l ↔ ∃ x y, (x, y) ∈ l ∧ c x y = true ∧ kf x y = a ∧ vi x y = b := by
  unfold madeI
  rw [List.mem_map]
  constructor
  · rintro ⟨⟨x, y⟩, h, e⟩
    have h1 := List.mem_filter.mp h
    cases e
    exact ⟨x, y, h1.1, h1.2, rfl, rfl⟩
  · rintro ⟨x, y, h1, h2, rfl, rfl⟩
    exact ⟨(x, y), List.mem_filter.mpr ⟨h1, h2⟩, rfl⟩
theorem madeI_len (c : Int → Int → Bool) (kf vi : Int → Int → Int) (l : List (Int × Int)) : (madeI c kf vi l).length ≤ l.length := by
  unfold madeI
  rw [List.length_map]
  exact List.length_filter_le _ _
/-- the targets for sources -/
theorem nd_tgt {c : Int → Int → Bool} {vi : Int → Int → Int} {l : List (Int × Int)} (h : (l.map (·.2)).Nodup) : ((madeI c (fun _ y => y) vi l).map (·.1)).Nodup := by
  unfold madeI
  rw [List.map_map]
  exact List.Sublist.nodup ((List.filter_sublist (p := fun p : Int × Int => c p.1 p.2)).map (·.2)) h
section
variable {P : Program} {w : World} {K : PySem.W.Frag} {mg : Str → Option Value} {base : Heap}
theorem mk_map {C : Addr} {H : Hp} {d : Addr} {n : Int} {l : List (Int × Int)} {f : PF} {Q : VK} {E : XK} (hd : H d = some (.dK (kvI l))) (di : DI l f) (wf : WF n f) (h1 : 1 ≤ n) (h3 : n ≤ 300) (hl : l.length ≤ 1000)
    (q : ∀ r H', H r = none → Same H H' → IsMap C H' r n f → Q (.ref r) H') (x dx : Addr) (hx : H x = none) (hdx : H dx = none) (ne : dx ≠ x) :
    spInit C [.ref x, .int n, .ref d] (upd (upd H dx (.own x)) x (.ins C dx [])) (fun v H2 => v = .non ∧ Q (.ref x) H2) E := by
  have s0 : Same H (upd (upd H dx (.own x)) x (.ins C dx [])) := fun b o e => by
    rw [upd_ne (ne_of_none e hx), upd_ne (ne_of_none e hdx)]
    exact e
  refine ⟨x, dx, d, n, l, f, rfl, upd_same, s0 _ _ hd, di, wf, h1, h3, hl, fun H' D o nD hp hD => ⟨rfl, ?_⟩⟩
  refine q x H' hx (fun b u e => o b u (ne_of_none e hx) (s0 b u e)) ⟨⟨dx, D, hp, hD⟩, wf, h1, h3⟩
/-! ### size, arrows, common_size -/
def spSize (C : Addr) : Sp := fun vs H Q _ => ∃ m n f, vs = [.ref m] ∧ IsMap C H m n f ∧ Q (.int n) H
theorem ok_size (T : Txt K mg) : FnR P w K mg base CX0 1 T.f_Map_size (spSize T.C_Map) := by
  refine T.A_Map_size.ok sc_Map_size (fun vs H Q E h => ?_) (fun cdv A outer s H vs Q E hr h => ?_)
  · obtain ⟨m, n, f, rfl, _⟩ := h
    rfl
  · obtain ⟨m, n, f, rfl, ⟨⟨dx, D, h1, h2⟩, _⟩, q⟩ := h
    refine ⟨_, pss_one (ps_ret (pe_fld (pv 0) rfl)), ?_⟩
    exact ⟨_, rfl, m, _, dx, _, _, rfl, h1, T.o_Map.cl, T.na_own_size_Map, flds_size _ _, q⟩
def spArrows (C : Addr) : Sp := fun vs H Q _ => ∃ m n f, vs = [.ref m] ∧ IsMap C H m n f ∧ ∀ p, H p = none → Q (.ref p) (upd H p (.dK (kvI (tab n f))))
theorem ok_arrows (T : Txt K mg) : FnR P w K mg base CX0 1 T.f_Map_arrows (spArrows T.C_Map) := by
  refine T.A_Map_arrows.ok sc_Map_arrows (fun vs H Q E h => ?_) (fun cdv A outer s H vs Q E hr h => ?_)
  · obtain ⟨m, n, f, rfl, _⟩ := h
    rfl
  · obtain ⟨m, n, f, rfl, ⟨⟨dx, D, h1, h2⟩, _⟩, q⟩ := h
    refine ⟨_, pss_one (ps_ret (pe_callTy call_dictD (by rfl) T.n_dict (by decide +kernel) (pa_cons (pe_fld (pv 0) rfl) pa_nil))), ?_⟩
    exact ⟨_, rfl, m, _, dx, _, _, rfl, h1, T.o_Map.cl, T.na_own_arrows_Map, flds_arrows _ _, D, _, rfl, Rd.of h2, q⟩
theorem at_map {C : Addr} {H : Hp} {m : Addr} {n : Int} {f : PF} (h : IsMap C H m n f) : ∃ dx fs, H m = some (.ins C dx fs) := by
  obtain ⟨⟨dx, D, h1, _⟩, _⟩ := h
  exact ⟨dx, _, h1⟩
/-! ### the operators -/
end
end My
namespace My
open PySem L2 U StX PM
section
variable {P : Program} {w : World} {K : PySem.W.Frag} {mg : Str → Option Value} {base : Heap}
/-! ### ~f -/
theorem inv_di {n : Int} {f : PF} (wf : WF n f) : DI (madeI (fun _ _ => true) (fun _ y => y) (fun x _ => x) (tab n f)) (inv n f) := by
  refine di_of (nd_tgt (vals_tab wf)) fun a b => ?_
  rw [mem_madeI, inv_iff wf]
  constructor
  · rintro ⟨x, y, h1, _, rfl, rfl⟩
    exact (mem_tab wf).mp h1
  · intro h
    exact ⟨b, a, (mem_tab wf).mpr h, rfl, rfl, rfl⟩
/-! ### f & g, f - g -/
theorem isD_of {H : Hp} {a : Addr} {kvs : List (Key × V)} (h : H a = some (.dK kvs)) : IsD H a := by
  first | exact .inl ⟨_, .inl h⟩ | exact ⟨_, .inl h⟩ | exact .inl ⟨_, h⟩ | exact .inr (.inl ⟨_, h⟩)
end
end My
namespace My
open PySem L2 U StX PM
section
variable {P : Program} {w : World} {K : PySem.W.Frag} {mg : Str → Option Value} {base : Heap}
/-! ### is_part, <=, <, >= -/
/-! ### == -/
theorem nd_of_map {α β : Type} (h : α → β) : ∀ {l : List α}, (l.map h).Nodup → l.Nodup
  | [], _ => List.nodup_nil
  | a :: r, nd => by
    rw [List.map_cons, List.nodup_cons] at nd
    exact List.nodup_cons.mpr ⟨fun hm => nd.1 (List.mem_map.mpr ⟨a, hm, rfl⟩), nd_of_map h nd.2⟩
end
end My
namespace My
open PySem L2 U StX PM
section
variable {P : Program} {w : World} {K : PySem.W.Frag} {mg : Str → Option Value} {base : Heap}
def spChk : Sp := fun vs H Q _ => ∃ n : Int, vs = [.int n] ∧ 1 ≤ n ∧ n ≤ 300 ∧ Q .non H
theorem ok_check_size (T : Txt K mg) : FnR P w K mg base CX0 3 T.f_check_size spChk := by
  refine T.A_check_size.ok sc_check_size (fun vs H Q E h => ?_) (fun cdv A outer s H vs Q E hr h => ?_)
  · obtain ⟨n, rfl, _⟩ := h
    rfl
  · obtain ⟨n, rfl, h1, h3, q⟩ := h
    obtain ⟨tk, hms⟩ := T.v_MAX_SIZE
    refine ⟨_, pss_one (ps_if (pt_not (pt_val (pe_callR (ok_in_range T) hr T.A_in_range.kp rfl T.g_in_range pass0 (pa_cons (pv 0) (pa_cons pe_int (pa_cons (pe_glob (v := .int 300) rfl hms ⟨_, rfl⟩) pa_nil)))))) (pss_one ps_never) pss_nil), ?_⟩
    refine ⟨_, rfl, .int n, 1, 300, rfl, trivial, _, rfl, ?_⟩
    have e1 : inR (.int n) 1 300 = true := by simp [inR, h1, h3]
    rw [e1]
    exact iteF q
theorem di_id (N : Nat) : DI ((List.range N).map fun (i : Nat) => ((i : Int), (i : Int))) (idn (N : Int)) := by
  refine di_of ?_ fun a b => ?_
  · rw [List.map_map]
    have : ∀ n : Nat, ((List.range n).map ((fun p : Int × Int => p.1) ∘ fun (i : Nat) => ((i : Int), (i : Int)))).Nodup := by
      intro n
      induction n with
      | zero => exact List.nodup_nil
      | succ n ih =>
        rw [List.range_succ, List.map_append, List.nodup_append]
        refine ⟨ih, by simp, fun a ha b hb e => ?_⟩
        obtain ⟨i, hi, rfl⟩ := List.mem_map.mp ha
        rw [List.mem_range] at hi
        simp at hb
        have e' : (i : Int) = b := e
        omega
    exact this N
  · rw [List.mem_map]
    unfold idn
    constructor
    · rintro ⟨i, hi, e⟩
      rw [List.mem_range] at hi
      cases e
      rw [if_pos ⟨by omega, by omega⟩]
    · intro h
      split at h
      · rename_i hc
        cases h
        exact ⟨a.toNat, List.mem_range.mpr (by omega), by rw [Int.toNat_of_nonneg hc.1]⟩
      · cases h
theorem madeR_id (N : Nat) : madeR (fun _ => true) (fun x => x) (fun k => .int k) N = kvI ((List.range N).map fun (i : Nat) => ((i : Int), (i : Int))) := by
  unfold madeR kvI
  rw [List.map_map]
  congr 1
  exact List.filter_eq_self.mpr fun _ _ => rfl
def spNew (C : Addr) (op : Int → PF) : Sp := fun vs H Q _ => ∃ n : Int, vs = [.ref C, .int n] ∧ 1 ≤ n ∧ n ≤ 300 ∧ ∀ r H', H r = none → Same H H' → IsMap C H' r n (op n) → Q (.ref r) H'
theorem ok_identity (T : Txt K mg) : FnR P w K mg base CX0 6 T.f_Map_identity (spNew T.C_Map idn) := by
  refine T.A_Map_identity.ok sc_Map_identity (fun vs H Q E h => ?_) (fun cdv A outer s H vs Q E hr h => ?_)
  · obtain ⟨n, rfl, _⟩ := h
    rfl
  · obtain ⟨n, rfl, h1, h3, q⟩ := h
    refine ⟨_, pss_cons (ps_expr (pe_callR (ok_check_size T) (hr.mono (by decide)) T.A_check_size.kp rfl T.g_check_size pass0 (pa_cons (pv 1) pa_nil)))
      (pss_one (ps_ret (pe_makeL (i := 0) T.M_Map (ok_init T) hr rfl (Or.inl rfl) pass0 (pa_cons (pv 1) (pa_cons (pe_dc (own := [("element", 2)]) (g := gName 2) (tt := tYes) rfl sc_Map_identity.nd (pi_range1 rfl T.n_range (pa_cons (pv 1) pa_nil)) (blkOk_by (own := [("element", 2)]) (N := n_Map_identity) (sc := defScope s_Map_identity) (by decide +kernel))
        (fun _ _ _ _ _ => pg_name (i := 2) sc_Map_identity.nd rfl (Or.inl rfl)) (fun _ _ _ _ _ => pts_nil) (fun _ _ _ _ _ => pv 2) (fun _ _ _ _ _ => pv 2)) pa_nil))))), ?_⟩
    refine ⟨_, rfl, n, rfl, h1, h3, rfl, _, rfl, ?_⟩
    refine dc_range (n := n.toNat) (fun _ => true) (fun k => .int k) (fun R r => ⟨_, rfl, n, rfl, by omega, by omega, r⟩) (fun _ => rfl) ?_ (small1000 (by omega)) ?_
    · intro k hk H1 s1
      refine ⟨fun R r => r, fun _ => ⟨fun R r => ⟨_, rfl, ?_⟩, fun R r => ⟨_, rfl, ?_⟩⟩⟩
      · rw [Int.zero_add]; exact r
      · rw [Int.zero_add]; exact r
    · intro D H1 nD hD s1
      rw [madeR_id] at hD
      have e : ((n.toNat : Nat) : Int) = n := Int.toNat_of_nonneg (by omega)
      have di := di_id n.toNat
      rw [e] at di
      refine mk_map hD di (wf_idn n) h1 h3 (by simp; omega) fun r H3 nr s3 hm => ?_
      exact q r H3 (s1.free nr) (s1.trans s3) hm
/-! ### first_clash where there is none, | -/
end
end My
namespace My
open PySem L2 U StX PM
section
variable {P : Program} {w : World} {K : PySem.W.Frag} {mg : Str → Option Value} {base : Heap}
theorem dgetI {H : Hp} {d : Addr} {l : List (Int × Int)} {f : PF} (h : H d = some (.dK (kvI l))) (di : DI l f) (x : Int) : DGet H d (.int x) ((f x).map V.int) := by
  have := DGet.k (k := Sum.inl x) h
  rw [valV_kvI, di.2] at this
  exact this
theorem lastI (pre : List Int) (z : Int) : atI ((pre ++ [z]).map V.int) (-1) = some (V.int z) := by
  rw [List.map_append]
  exact atI_last _ _
def spRow : Sp := fun vs H Q _ => ∃ d l n f e, vs = [.ref d, .int e] ∧ H d = some (.dK (kvI l)) ∧ DI l f ∧ WF n f ∧ n ≤ 300 ∧ 0 ≤ e ∧ e < n ∧
  ∀ r H' pre z, H r = none → Same H H' → H' r = some (.lst ((pre ++ [z]).map V.int)) → Row f e (pre ++ [z]) → (f z = none ∨ f z = some e) → Q (.ref r) H'
theorem ok_row_from (T : Txt K mg) : FnR P w K mg base CX0 1 T.f_row_from spRow := by
  refine T.A_row_from.ok sc_row_from (fun vs H Q E h => ?_) (fun cdv A outer s H vs Q E hr h => ?_)
  · obtain ⟨d, l, n, f, e, rfl, _⟩ := h
    rfl
  · obtain ⟨d, l, n, f, e, rfl, hd, di, wf, hn, e0, e1, q⟩ := h
    have hu := hu_of hr
    refine ⟨_, pss_cons (ps_set (i := 2) sc_row_from.nd rfl (Or.inl rfl) (pe_lst (pa_cons (pv 1) pa_nil)))
      (pss_cons (ps_while PassesOwn.never (PW.pt (pw_and (pt_cmp (pc_din hu (pe_ix ix_list (pv 2) (pe_un un_neg pe_int) (fun _ _ => rfl)) (pv 0)))
          (pw_and1 (pt_cmpR op_ne (pe_dget hu (pv 0) (pe_ix ix_list (pv 2) (pe_un un_neg pe_int) (fun _ _ => rfl)) (fun _ _ => rfl)) (pv 1) (nomark _)))))
        (pss_one (ps_expr (pe_bm PySem.F.plainAttrs_list PySem.F.slot_list_append PySem.F.type_list_append mt_append (pv 2) (pa_cons (pe_dget hu (pv 0) (pe_ix ix_list (pv 2) (pe_un un_neg pe_int) (fun _ _ => rfl)) (fun _ _ => rfl)) pa_nil)))))
      (pss_one (ps_ret (pv 2)))), ?_⟩
    refine ⟨_, rfl, (by show 1 ≤ sizeLine; decide), fun r hr0 => ?_⟩
    have row0 : Row f e ([] ++ [e]) := ⟨rfl, fun i a b h1 h2 => by simp at h2⟩
    refine ⟨fun m σ H' => ∃ pre z, σ = [some (.ref d), some (.int e), some (.ref r)] ∧ H' r = some (.lst ((pre ++ [z]).map V.int)) ∧ Same H H' ∧ Row f e (pre ++ [z]) ∧ m = 300 - pre.length, ⟨300, [], e, rfl, upd_same, Same.new hr0, row0, rfl⟩, ?_⟩
    rintro m σ H' ⟨pre, z, rfl, p1, p2, p3, rfl⟩
    have hd' := p2 _ _ hd
    have hlen := len_range (p3.nd wf) (p3.dom wf e0 e1)
    rw [List.length_append, List.length_singleton] at hlen
    refine ⟨_, rfl, 1, rfl, r, _, -1, .int z, rfl, rfl, SqL.of p1, lastI _ _, _, rfl, d, _, rfl, dgetI hd' di z, _, rfl, ?_⟩
    cases hz : f z with
    | none =>
      refine iteF ?_
      refine iteF ?_
      exact ⟨_, rfl, q r H' pre z hr0 p2 p1 p3 (.inl hz)⟩
    | some y =>
      refine iteT ?_
      refine ⟨_, rfl, _, rfl, 1, rfl, r, _, -1, .int z, rfl, rfl, SqL.of p1, lastI _ _, d, .int y, rfl, ?_, _, rfl, rfl, _, rfl, ?_⟩
      · have := dgetI hd' di z
        rw [hz] at this
        exact this
      have nr : d ≠ r := ne_of_none hd hr0
      refine ifN (fun hne => ?_) (fun heq => ?_)
      · have hne' : y ≠ e := fun z => hne (congrArg V.int z)
        have row' := p3.more hz hne'
        have hlen' := len_range (row'.nd wf) (row'.dom wf e0 e1)
        rw [List.length_append, List.length_append, List.length_singleton, List.length_singleton] at hlen'
        refine ⟨fun σ' H2 => ∃ m', m' < 300 - pre.length ∧ _, fun _ _ h => h, ?_⟩
        refine ⟨_, rfl, .inl ⟨rfl, _, SqL.of p1⟩, _, rfl, _, rfl, 1, rfl, r, _, -1, .int z, rfl, rfl, SqL.of p1, lastI _ _, d, .int y, rfl, ?_, r, _, .int y, rfl, rfl, p1, ?_, ?_⟩
        · have := dgetI hd' di z
          rw [hz] at this
          exact this
        · rw [List.length_map, List.length_append, List.length_singleton]
          exact small1000 (by omega)
        · refine ⟨300 - (pre ++ [z]).length, by rw [List.length_append, List.length_singleton]; omega, pre ++ [z], y, rfl, ?_, ?_, row', rfl⟩
          · rw [upd_same, List.map_append (l₁ := pre ++ [z])]
            rfl
          · intro b o h
            rw [upd_ne (ne_of_none h hr0)]
            exact p2 b o h
      · have : y = e := V.int.inj heq
        subst this
        exact ⟨_, rfl, q r H' pre z hr0 p2 p1 p3 (.inr hz)⟩
end
end My
namespace My
open PySem L2 U StX PM
/-! ### comprehensions over values and keys -/
theorem tgt_len (l : List (Int × Int)) (i : Nat) : (tgt (l.take i)).length ≤ l.length := by
  unfold tgt; rw [List.length_map, List.length_take]; omega
theorem dc_vals {d : Addr} {l : List (Int × Int)} {te : TE} {i : Nat} {tt : TT} {tk tv : TE} {vs : List Nat} {σ : L2.St} {H : Hp} {Q : VK}
    (hd : H d = some (.dK (kvI l))) (hte : ∀ H' (R : VK), R (.ref d) H' → Off d H H' → te σ H' R)
    (hw : ∀ a, wipe ((wipe σ vs).set i a) vs = wipe σ vs)
    (ht : ∀ (y : Int) (H1 : Hp) (R : Bool → Hp → Prop), R true H1 → tt ((wipe σ vs).set i (some (.int y))) H1 R) (hk : ∀ (y : Int) (H1 : Hp) (R : VK), R (.int y) H1 → tk ((wipe σ vs).set i (some (.int y))) H1 R) (hv : ∀ (y : Int) (H1 : Hp) (R : VK), R (.bl true) H1 → tv ((wipe σ vs).set i (some (.int y))) H1 R)
    (nd : (l.map (·.2)).Nodup) (hz : l.length < sizeLine)
    (hq : ∀ D H', H D = none → H' D = some (.dK (tgt l)) → L2.Same H H' → Q (.ref D) H') :
    tLockE (tDc (iVals te) (gName i) tt tk tv vs) σ H Q := by
  refine ⟨d, _, hd, trivial, fun od => ?_⟩
  refine hte _ _ ⟨d, od, kvI l, rfl, upd_same, fun D hD => ?_⟩ Off.lock
  have hDd : D ≠ d := fun e => by rw [e, upd_same] at hD; cases hD
  have hD0 : H D = none := by rw [upd_ne hDd] at hD; exact hD
  refine dc_it walk_values (fun k H' => H' d = some (.frz od (.dK (kvI l))) ∧ Off d H H' ∧ H' D = some (.dK (tgt (l.take k)))) ⟨?_, Off.lock.mut hD0, upd_same⟩ (fun k H' _ p => p.1) ?_ ?_
  · rw [upd_ne hDd.symm]; exact upd_same
  · rintro k v H' H'' hk1 ⟨p1, p2, p3⟩ ⟨rfl, kk, e1⟩
    obtain ⟨x, y, exy, rfl, rfl⟩ := kvI_get e1
    refine ⟨hw _, ?_⟩
    refine ht y _ _ ?_
    refine iteT ?_
    refine hk _ _ _ (hv _ _ _ ⟨_, Sum.inl y, rfl, p3, Nat.lt_of_le_of_lt (tgt_len ..) hz, ?_⟩)
    refine ⟨?_, p2.mut hD0, ?_⟩
    · rw [upd_ne hDd.symm]; exact p1
    · have nin : y ∉ (l.take k).map (·.2) := by
        intro hm
        have e2 : l.map (·.2) = (l.take k).map (·.2) ++ (l.drop k).map (·.2) := by rw [← List.map_append, List.take_append_drop]
        rw [e2, List.nodup_append] at nd
        refine nd.2.2 _ hm y (List.mem_map.mpr ⟨(x, y), ?_, rfl⟩) rfl
        refine List.mem_iff_getElem?.mpr ⟨0, ?_⟩
        rw [List.getElem?_drop]
        exact exy
      rw [upd_same, putK_new _ (valV_none fun z => nin (tgt_key.mp z)), take_more exy]
      unfold tgt
      rw [List.map_append]
      rfl
  · rintro H' ⟨p1, p2, p3⟩
    rw [kvI_length, List.take_length] at p3
    refine ⟨p1, hq D _ hD0 ?_ (p2.back hd)⟩
    rw [upd_ne hDd]
    exact p3
theorem lc_keys {d : Addr} {l : List (Int × Int)} {te : TE} {i : Nat} {tt : TT} {tv : TE} {vs : List Nat} {σ : L2.St} {H : Hp} {Q : VK} (c : Int → Bool) (vf : Int → V)
    (hd : H d = some (.dK (kvI l))) (hte : ∀ H' (R : VK), R (.ref d) H' → Off d H H' → te σ H' R)
    (hw : ∀ a, wipe ((wipe σ vs).set i a) vs = wipe σ vs)
    (hb : ∀ (x : Int) (H1 : Hp), Off d H H1 → (∀ R : Bool → Hp → Prop, R (c x) H1 → tt ((wipe σ vs).set i (some (.int x))) H1 R) ∧ (∀ R : VK, R (vf x) H1 → tv ((wipe σ vs).set i (some (.int x))) H1 R))
    (hz : l.length < sizeLine)
    (hq : ∀ D H', H D = none → H' D = some (.lst (madeL (fun x _ => c x) (fun x _ => vf x) l)) → L2.Same H H' → Q (.ref D) H') :
    tLockE (tLc (iKeys te) (gName i) tt tv vs) σ H Q := by
  refine ⟨d, _, hd, trivial, fun od => ?_⟩
  refine hte _ _ ⟨d, od, rfl, .inl ⟨kvI l, upd_same, fun D hD => ?_⟩⟩ Off.lock
  have hDd : D ≠ d := fun e => by rw [e, upd_same] at hD; cases hD
  have hD0 : H D = none := by rw [upd_ne hDd] at hD; exact hD
  refine lc_it walk_keys (fun k H' => H' d = some (.frz od (.dK (kvI l))) ∧ Off d H H' ∧ H' D = some (.lst (madeL (fun x _ => c x) (fun x _ => vf x) (l.take k)))) ⟨?_, Off.lock.mut hD0, upd_same⟩ (fun k H' _ p => p.1) ?_ ?_
  · rw [upd_ne hDd.symm]; exact upd_same
  · rintro k v H' H'' hk1 ⟨p1, p2, p3⟩ ⟨rfl, kk, vv, e1, rfl⟩
    obtain ⟨x, y, exy, rfl, rfl⟩ := kvI_get e1
    refine ⟨hw _, ?_⟩
    obtain ⟨b1, b2⟩ := hb x _ p2
    refine b1 _ ?_
    have st := madeL_step (c := fun x _ => c x) (vf := fun x _ => vf x) exy
    cases hc : c x with
    | true =>
      rw [hc, if_pos rfl] at st
      refine iteT (b2 _ ⟨_, p3, Nat.lt_of_le_of_lt (madeL_len ..) hz, ?_⟩)
      refine ⟨?_, p2.mut hD0, ?_⟩
      · rw [upd_ne hDd.symm]; exact p1
      · rw [upd_same, st]
    | false =>
      rw [hc, if_neg Bool.false_ne_true, List.append_nil] at st
      refine iteF ⟨p1, p2, ?_⟩
      rw [st]
      exact p3
  · rintro H' ⟨p1, p2, p3⟩
    rw [kvI_length, List.take_length] at p3
    refine ⟨p1, hq D _ hD0 ?_ (p2.back hd)⟩
    rw [upd_ne hDd]
    exact p3
/-! ### seen and found -/
def kvB (sl : List Int) : List (Key × V) := sl.map fun x => (Sum.inl x, V.bl true)
theorem kvB_key {sl : List Int} {x : Int} : (Sum.inl x : Key) ∈ (kvB sl).map (·.1) ↔ x ∈ sl := by
  unfold kvB
  rw [List.map_map]
  constructor
  · intro h
    obtain ⟨p, hp, e⟩ := List.mem_map.mp h
    cases Sum.inl.inj e
    exact hp
  · intro h
    exact List.mem_map.mpr ⟨x, h, rfl⟩
theorem kvB_val (sl : List Int) (x : Int) : (valV (kvB sl) (Sum.inl x : Key)).isSome = decide (x ∈ sl) := by
  by_cases h : x ∈ sl
  · rw [decide_eq_true h, ← valV_any, List.any_eq_true]
    exact ⟨(Sum.inl x, V.bl true), List.mem_map.mpr ⟨x, h, rfl⟩, by simp⟩
  · rw [decide_eq_false h, valV_none fun z => h (kvB_key.mp z)]
    rfl
theorem kvB_put (sl : List Int) (x : Int) : ∃ sl', putK (kvB sl) (Sum.inl x : Key) (V.bl true) = kvB sl' ∧ (∀ z, z ∈ sl' ↔ z ∈ sl ∨ z = x) ∧ (sl.Nodup → sl'.Nodup) := by
  by_cases h : x ∈ sl
  · refine ⟨sl, ?_, fun z => ⟨.inl, fun hz => ?_⟩, id⟩
    · unfold putK
      have e : ((kvB sl).any fun kv => decide (kv.1 = (Sum.inl x : Key))) = true := by
        rw [valV_any, kvB_val, decide_eq_true h]
      rw [if_pos e]
      unfold kvB
      rw [List.map_map]
      refine List.map_congr_left fun a _ => ?_
      show (if (Sum.inl a : Key) = Sum.inl x then ((Sum.inl a : Key), V.bl true) else (Sum.inl a, V.bl true)) = _
      split <;> rfl
    · rcases hz with hz | rfl
      · exact hz
      · exact h
  · refine ⟨sl ++ [x], ?_, fun z => by simp, fun nd => ?_⟩
    · rw [putK_new _ (valV_none fun z => h (kvB_key.mp z))]
      unfold kvB
      rw [List.map_append]
      rfl
    · rw [List.nodup_append]
      refine ⟨nd, by simp, fun a ha b hb e => ?_⟩
      simp at hb
      subst hb
      exact h (e ▸ ha)
structure Fnd (n : Int) (f : PF) (k : Nat) (fl : List (Int × Int)) (sl : List Int) : Prop where
  nd : (fl.map (·.1)).Nodup
  at_ : ∀ x, lk fl x = if x ∈ sl then iter f k x else none
  sn : sl.Nodup
  dm : ∀ x ∈ sl, 0 ≤ x ∧ x < n
theorem Fnd.len {n : Int} {f : PF} {k : Nat} {fl : List (Int × Int)} {sl : List Int} (h : Fnd n f k fl sl) : fl.length ≤ n.toNat := by
  have := len_range (n := n) h.nd (fun x hx => by
    obtain ⟨⟨a, b⟩, hp, rfl⟩ := List.mem_map.mp hx
    have e := lk_some h.nd hp
    rw [h.at_] at e
    by_cases hm : a ∈ sl
    · exact h.dm _ hm
    · rw [if_neg hm] at e; cases e)
  rw [List.length_map] at this
  exact this
theorem Fnd.slen {n : Int} {f : PF} {k : Nat} {fl : List (Int × Int)} {sl : List Int} (h : Fnd n f k fl sl) : sl.length ≤ n.toNat := len_range h.sn h.dm
theorem Fnd.put {n : Int} {f : PF} {k : Nat} {fl fl' : List (Int × Int)} {sl sl' : List Int} {x y : Int} (h : Fnd n f k fl sl) (h1 : ∀ z, z ∈ sl' ↔ z ∈ sl ∨ z = x) (h2 : sl.Nodup → sl'.Nodup) (hx : 0 ≤ x ∧ x < n)
    (e : iter f k x = some y) (n1 : (fl.map (·.1)).Nodup → (fl'.map (·.1)).Nodup) (a1 : ∀ z, lk fl' z = if z = x then some y else lk fl z) : Fnd n f k fl' sl' := by
  refine ⟨n1 h.nd, fun z => ?_, h2 h.sn, fun z hz => ?_⟩
  · rw [a1]
    by_cases hz : z = x
    · subst hz
      rw [if_pos rfl, if_pos ((h1 z).mpr (.inr rfl)), e]
    · rw [if_neg hz, h.at_]
      by_cases hs : z ∈ sl
      · rw [if_pos hs, if_pos ((h1 z).mpr (.inl hs))]
      · rw [if_neg hs, if_neg fun q => ((h1 z).mp q).elim hs hz]
  · rcases (h1 z).mp hz with q | rfl
    · exact h.dm z q
    · exact hx
theorem Fnd.skip {n : Int} {f : PF} {k : Nat} {fl : List (Int × Int)} {sl sl' : List Int} {x : Int} (h : Fnd n f k fl sl) (h1 : ∀ z, z ∈ sl' ↔ z ∈ sl ∨ z = x) (h2 : sl.Nodup → sl'.Nodup) (hx : 0 ≤ x ∧ x < n)
    (e : iter f k x = none) : Fnd n f k fl sl' := by
  refine ⟨h.nd, fun z => ?_, h2 h.sn, fun z hz => ?_⟩
  · rw [h.at_]
    by_cases hs : z ∈ sl
    · rw [if_pos hs, if_pos ((h1 z).mpr (.inl hs))]
    · rw [if_neg hs]
      by_cases hz : z = x
      · subst hz
        rw [if_pos ((h1 z).mpr (.inr rfl)), e]
      · rw [if_neg fun q => ((h1 z).mp q).elim hs hz]
  · rcases (h1 z).mp hz with q | rfl
    · exact h.dm z q
    · exact hx
theorem Fnd.di {n : Int} {f : PF} {k : Nat} {fl : List (Int × Int)} {sl : List Int} (h : Fnd n f (k + 1) fl sl) (all : ∀ x y, f x = some y → x ∈ sl) : DI fl (iter f (k + 1)) := by
  refine ⟨h.nd, fun x => ?_⟩
  rw [h.at_]
  by_cases hs : x ∈ sl
  · rw [if_pos hs]
  · rw [if_neg hs, iter_head]
    cases e : f x with
    | none => rfl
    | some y => exact absurd (all x y e) hs
end My
namespace My
open PySem L2 U StX PM
section
variable {P : Program} {w : World} {K : PySem.W.Frag} {mg : Str → Option Value} {base : Heap}
def spMoved : Sp := fun vs H Q _ => ∃ d l n f, ∃ k : Nat, vs = [.ref d, .int ((k + 1 : Nat) : Int)] ∧ H d = some (.dK (kvI l)) ∧ DI l f ∧ WF n f ∧ n ≤ 300 ∧ l.length ≤ 300 ∧
  ∀ r H' l', H r = none → Same H H' → H' r = some (.dK (kvI l')) → DI l' (iter f (k + 1)) → l'.length ≤ 300 → Q (.ref r) H'
theorem get_map {xs : List Int} {i : Nat} {a : Int} (h : xs[i]? = some a) : (xs.map V.int)[i]? = some (V.int a) := by
  rw [List.getElem?_map, h]; rfl
theorem for_cat {K : PySem.W.Frag} {t u : TE} {g : TG} {tb : TS} {D : Ends} {σ : L2.St} {H : Hp} (h : tLockE t σ H (fun x H1 => u σ H1 fun y H2 => rCat x y H2 fun z H3 => ∃ a, z = .ref a ∧ (∃ xs, SqL K H3 a xs) ∧ tFor (fun _ H R => R (Itl K a) H) g tb D σ H3)) :
    tFor (iList K (tOp rCat (tLockE t) u)) g tb D σ H := h
theorem Same.put {H H' : Hp} {p : Addr} {o : HO} (s : Same H H') (h : H p = none) : Same H (upd H' p o) := fun b u e => by rw [upd_ne (ne_of_none e h)]; exact s b u e
theorem at_mod {row : List Int} {j k : Nat} {y : Int} (h : row[(j + k) % row.length]? = some y) : atI (row.map V.int) ((((j : Nat) : Int) + ((k : Nat) : Int)) % (((row.map V.int).length : Nat) : Int)) = some (V.int y) := by
  have e : (((j : Nat) : Int) + ((k : Nat) : Int)) % (((row.map V.int).length : Nat) : Int) = (((j + k) % row.length : Nat) : Int) := by
    rw [List.length_map]
    push_cast
    rfl
  rw [e]
  exact atI_nat (get_map h)
theorem at_add {row : List Int} {j k : Nat} {y : Int} (h : row[j + k]? = some y) : atI (row.map V.int) (((j : Nat) : Int) + ((k : Nat) : Int)) = some (V.int y) := by
  have e : (((j : Nat) : Int) + ((k : Nat) : Int)) = ((j + k : Nat) : Int) := by
    push_cast
    rfl
  rw [e]
  exact atI_nat (get_map h)
theorem srcs {l : List (Int × Int)} {f : PF} (di : DI l f) {c : Int → Bool} {v : V} (h : v ∈ madeL (fun x _ => c x) (fun x _ => V.int x) l ++ (kvI l).map (fun kv => kV kv.1)) : ∃ x y, v = .int x ∧ f x = some y := by
  rcases List.mem_append.mp h with h | h
  · unfold madeL at h
    obtain ⟨⟨x, y⟩, hp, rfl⟩ := List.mem_map.mp h
    exact ⟨x, y, rfl, di.mem.mp (List.mem_filter.mp hp).1⟩
  · unfold kvI at h
    rw [List.map_map] at h
    obtain ⟨⟨x, y⟩, hp, rfl⟩ := List.mem_map.mp h
    exact ⟨x, y, rfl, di.mem.mp hp⟩
theorem srcs_all {l : List (Int × Int)} {f : PF} (di : DI l f) {c : Int → Bool} {x y : Int} (h : f x = some y) : V.int x ∈ madeL (fun x _ => c x) (fun x _ => V.int x) l ++ (kvI l).map (fun kv => kV kv.1) := by
  refine List.mem_append.mpr (.inr ?_)
  unfold kvI
  rw [List.map_map]
  exact List.mem_map.mpr ⟨(x, y), di.mem.mpr h, rfl⟩
theorem ok_moved (T : Txt K mg) : FnR P w K mg base CX0 2 T.f_moved spMoved := by
  refine T.A_moved.ok sc_moved (fun vs H Q E h => ?_) (fun cdv A outer s H vs Q E hr h => ?_)
  · obtain ⟨d, l, n, f, k, rfl, _⟩ := h
    rfl
  · obtain ⟨d, l, n, f, k, rfl, hd, di, wf, hn, hl, q⟩ := h
    have hu := hu_of hr
    refine ⟨_, pss_cons (ps_set (i := 2) sc_moved.nd rfl (Or.inl rfl) pe_dnewK)
      (pss_cons (ps_set (i := 3) sc_moved.nd rfl (Or.inl rfl) pe_dnewK)
      (pss_cons (ps_set (i := 4) sc_moved.nd rfl (Or.inr rfl) (pe_lock (pe_dc (own := [("target", 10)]) (g := gName 10) (tt := tYes) rfl sc_moved.nd (pi_values (pv 0))
          (blkOk_by (own := [("target", 10)]) (N := n_moved) (sc := defScope s_moved) (by decide +kernel))
          (fun _ _ _ _ _ => pg_name (i := 10) sc_moved.nd rfl (Or.inl rfl)) (fun _ _ _ _ _ => pts_nil) (fun _ _ _ _ _ => pv 10) (fun _ _ _ _ _ => pe_bl))))
      (pss_cons (ps_for PassesOwn.never rfl (pi_list (pe_op op_cat (pe_lock (pe_lc (own := [("element", 9)]) (g := gName 9) rfl sc_moved.nd (pi_keys (pv 0))
          (blkOk_by (own := [("element", 9)]) (N := n_moved) (sc := defScope s_moved) (by decide +kernel))
          (fun _ _ _ _ _ => pg_name (i := 9) sc_moved.nd rfl (Or.inl rfl)) (fun _ _ _ _ _ => pts_one (pt_cmp (pc_dnotin hu (pv 9) (pv 4)))) (fun _ _ _ _ _ => pv 9)))
          (pe_callTy (call_list_dK rfl) (by rfl) T.n_list (by decide +kernel) (pa_cons (pv 0) pa_nil)))) (pg_name (i := 5) sc_moved.nd rfl (Or.inl rfl))
        (pss_one (ps_if (pt_cmp (pc_dnotin hu (pv 5) (pv 3)))
          (pss_cons (ps_set (i := 6) sc_moved.nd rfl (Or.inl rfl) (pe_callR (ok_row_from T) hr T.A_row_from.kp rfl T.g_row_from pass0 (pa_cons (pv 0) (pa_cons (pv 5) pa_nil))))
          (pss_cons (ps_set (i := 7) sc_moved.nd rfl (Or.inl rfl) (pe_cmp (pc_din hu (pe_ix ix_list (pv 6) (pe_un un_neg pe_int) (fun _ _ => rfl)) (pv 0))))
          (pss_one (ps_for PassesOwn.never rfl (pi_enum rfl T.n_enumerate (pa_cons (pv 6) pa_nil)) (pg_tup rfl (pgs_cons (pg_name (i := 8) sc_moved.nd rfl (Or.inl rfl)) (pgs_cons (pg_name (i := 9) sc_moved.nd rfl (Or.inl rfl)) pgs_nil)))
            (pss_cons (ps_dput hu (pv 3) (pv 9) pe_bl rfl)
            (pss_one (ps_if (pt_val (pv 7))
              (pss_one (ps_dput hu (pv 2) (pv 9) (pe_ix ix_list (pv 6) (pe_op op_mod (pe_op op_add (pv 8) (pv 1)) (pe_callB call_len_seq (by rfl) T.n_len (by decide +kernel) (pa_cons (pv 6) pa_nil))) (fun _ _ => rfl)) rfl))
              (pss_one (ps_if (pt_cmpR op_lt (pe_op op_add (pv 8) (pv 1)) (pe_callB call_len_seq (by rfl) T.n_len (by decide +kernel) (pa_cons (pv 6) pa_nil)) (nomark _))
                (pss_one (ps_dput hu (pv 2) (pv 9) (pe_ix ix_list (pv 6) (pe_op op_add (pv 8) (pv 1)) (fun _ _ => rfl)) rfl)) pss_nil))))))))) pss_nil)))
      (pss_one (ps_ret (pv 2)))))), ?_⟩
    intro fo hfo
    intro se hse
    have nfs : fo ≠ se := ne_of_none upd_same hse
    have s1 : Same H (upd (upd H fo (.dK [])) se (.dK [])) := (Same.new hfo).trans (Same.new hse)
    have se0 : H se = none := (Same.new hfo).free hse
    have fo1 : (upd (upd H fo (.dK [])) se (.dK [])) fo = some (.dK (kvI [])) := by rw [upd_ne nfs, upd_same]; rfl
    have se1 : (upd (upd H fo (.dK [])) se (.dK [])) se = some (.dK (kvB [])) := upd_same
    have vnd := di.vals wf
    refine dc_vals (s1 _ _ hd) (fun H' R r o => ⟨_, rfl, r⟩) (fun _ => rfl) (fun _ _ _ r => r) (fun _ _ _ r => ⟨_, rfl, r⟩) (fun _ _ _ r => r) vnd (small1000 (by omega)) (fun tg H2 ntg htg s2 => ?_)
    have s12 := s1.trans s2
    have cd : ∀ (x : Int) (H1 : Hp), H1 tg = some (.dK (tgt l)) → DGet H1 tg (.int x) (valV (tgt l) (Sum.inl x)) := fun x H1 h => DGet.k (k := Sum.inl x) h
    have ntd : tg ≠ d := fun e => by rw [e, s1 _ _ hd] at ntg; cases ntg
    dsimp only [tSeq]
    refine for_cat ?_
    refine lc_keys (fun x => !decide (x ∈ l.map (·.2))) (fun x => .int x) (s12 _ _ hd) (fun H' R r o => ⟨_, rfl, r⟩) (fun _ => rfl) (fun x H1 o => ⟨fun R r => ?_, fun R r => ⟨_, rfl, r⟩⟩) (small1000 (by omega)) (fun L1 H3 nL1 hL1 s3 => ?_)
    · refine ⟨_, rfl, _, rfl, tg, _, rfl, cd x H1 (o _ _ ntd htg), _, rfl, ?_⟩
      rw [tgt_val]
      exact r
    have s13 := s12.trans s3
    refine ⟨_, rfl, d, _, rfl, s13 _ _ hd, fun L2 hL2 => ?_⟩
    have hlen1 := madeL_len (fun x _ => !decide (x ∈ l.map (·.2))) (fun x _ => V.int x) l l.length
    rw [List.take_length] at hlen1
    refine ⟨L1, L2, _, _, rfl, rfl, (by rw [upd_ne (ne_of_none hL1 hL2)]; exact hL1), upd_same, ?_, fun L3 hL3 => ?_⟩
    · rw [List.length_map, kvI_length]
      exact Nat.le_trans (by omega : _ ≤ 1000) (by decide)
    have s14 : Same H (upd H3 L2 (.lst ((kvI l).map fun kv => kV kv.1))) := s13.trans (Same.new hL2)
    have L30 : H L3 = none := s14.free hL3
    obtain ⟨S, eS⟩ : ∃ S, S = madeL (fun x _ => !decide (x ∈ l.map (·.2))) (fun x _ => V.int x) l ++ (kvI l).map (fun kv => kV kv.1) := ⟨_, rfl⟩
    have hS1 : ∀ v ∈ S, ∃ x y, v = .int x ∧ f x = some y := fun v hv => srcs di (eS ▸ hv)
    have hS2 : ∀ x y, f x = some y → V.int x ∈ S := fun x y h => eS ▸ srcs_all di h
    rw [← eS]
    refine ⟨L3, rfl, ⟨_, SqL.of upd_same⟩, ?_⟩
    have fo4 : (upd (upd H3 L2 (.lst ((kvI l).map fun kv => kV kv.1))) L3 (.lst S)) fo = some (.dK (kvI [])) := ((s2.trans s3).trans ((Same.new hL2).trans (Same.new hL3))) _ _ fo1
    have se4 : (upd (upd H3 L2 (.lst ((kvI l).map fun kv => kV kv.1))) L3 (.lst S)) se = some (.dK (kvB [])) := ((s2.trans s3).trans ((Same.new hL2).trans (Same.new hL3))) _ _ se1
    have nLf : L3 ≠ fo := fun e => by
      have := ((s2.trans s3).trans (Same.new (o := .lst ((kvI l).map fun kv => kV kv.1)) hL2)) _ _ fo1
      rw [← e, hL3] at this; cases this
    have nLs : L3 ≠ se := fun e => by
      have := ((s2.trans s3).trans (Same.new (o := .lst ((kvI l).map fun kv => kV kv.1)) hL2)) _ _ se1
      rw [← e, hL3] at this; cases this
    refine for_it (walk_list (xs := S)) (fun i σ H' => ∃ v5 v6 v7 v8 v9 v10 fl sl, σ = [some (.ref d), some (.int ((k + 1 : Nat) : Int)), some (.ref fo), some (.ref se), some (.ref tg), v5, v6, v7, v8, v9, v10] ∧ Same H H' ∧ H' L3 = some (.lst S) ∧ H' fo = some (.dK (kvI fl)) ∧ H' se = some (.dK (kvB sl)) ∧ Fnd n f (k + 1) fl sl ∧ ∀ x, V.int x ∈ S.take i → x ∈ sl)
      ⟨none, none, none, none, none, none, [], [], rfl, Same.put s14 L30, upd_same, fo4, se4, ⟨List.nodup_nil, fun _ => rfl, List.nodup_nil, fun _ h => nomatch h⟩, fun x h => by simp at h⟩ (fun i σ H' _ ⟨_, _, _, _, _, _, _, _, _, _, p, _⟩ => SqL.of p) ?_ ?_
    · rintro i v σ H' H'' hi ⟨v5, v6, v7, v8, v9, v10, fl, sl, rfl, p1, p2, p3, p4, p5, p6⟩ ⟨rfl, ev⟩
      obtain ⟨x, y, rfl, hxy⟩ := hS1 v (List.mem_of_getElem? ev)
      have hdx := wf.dom x y hxy
      have hd' := p1 _ _ hd
      refine ⟨_, rfl, _, rfl, se, _, rfl, DGet.k (k := Sum.inl x) p4, _, rfl, ?_⟩
      rw [kvB_val]
      refine ifNB (fun hc => ?_) (fun hc => ?_)
      · refine ⟨_, rfl, _, rfl, d, l, n, f, x, rfl, hd', di, wf, hn, hdx.1, hdx.2.1, fun r H2 pre z hr0 sr hr2 row ho => ?_⟩
        have q1 := p1.trans sr
        refine ⟨_, rfl, 1, rfl, r, _, -1, .int z, rfl, rfl, SqL.of hr2, lastI _ _, _, rfl, d, _, rfl, dgetI (q1 _ _ hd) di z, ?_⟩
        refine ⟨_, rfl, r, _, rfl, SqL.of hr2, ?_⟩
        have r0 : H r = none := p1.free hr0
        have nrL : r ≠ L3 := fun e => by rw [e, p2] at hr0; cases hr0
        have nrf : r ≠ fo := fun e => by rw [e, p3] at hr0; cases hr0
        have nrs : r ≠ se := fun e => by rw [e, p4] at hr0; cases hr0
        have hlast : (pre ++ [z])[(pre ++ [z]).length - 1]? = some z := by simp
        have hpos : 0 < (pre ++ [z]).length := by simp
        refine for_it (walk_enum (xs := (pre ++ [z]).map V.int)) (fun j σ H3 => ∃ v8 v9 fl' sl', σ = [some (.ref d), some (.int ((k + 1 : Nat) : Int)), some (.ref fo), some (.ref se), some (.ref tg), some (.int x), some (.ref r), some (.bl ((f z).map V.int).isSome), v8, v9, v10] ∧ Same H H3 ∧ H3 L3 = some (.lst S) ∧ H3 r = some (.lst ((pre ++ [z]).map V.int)) ∧ H3 fo = some (.dK (kvI fl')) ∧ H3 se = some (.dK (kvB sl')) ∧ Fnd n f (k + 1) fl' sl' ∧ (∀ a ∈ sl, a ∈ sl') ∧ ∀ a ∈ (pre ++ [z]).take j, a ∈ sl')
          ⟨v8, v9, fl, sl, rfl, q1, sr _ _ p2, hr2, sr _ _ p3, sr _ _ p4, p5, fun _ h => h, fun a h => by simp at h⟩ (fun j σ H3 _ ⟨_, _, _, _, _, _, _, p, _⟩ => SqL.of p) ?_ ?_
        · rintro j v σ H3 H4 hj ⟨w8, w9, fl', sl', rfl, t1, t2, t3, t4, t5, t6, t7, t8⟩ ⟨U, a, b, rfl, hU, rfl, e1, e2⟩
          rw [List.length_map] at hj
          obtain ⟨a0, ea⟩ : ∃ a, (pre ++ [z])[j]? = some a := ⟨_, List.getElem?_eq_getElem hj⟩
          dsimp only at e1 e2
          rw [get_map ea] at e2
          cases e1; cases e2
          have hda := row.dom wf hdx.1 hdx.2.1 a0 (List.mem_of_getElem? ea)
          refine ⟨U, [.int (j : Int), .int a0], rfl, SqT.of upd_same, rfl, .int (j : Int), [.int a0], rfl, .int a0, [], rfl, rfl, ?_⟩
          have u1 : Same H (upd H3 U (.tup [.int (j : Int), .int a0])) := t1.trans (Same.new hU)
          have u2 : (upd H3 U (.tup [.int (j : Int), .int a0])) L3 = _ := (Same.new hU) _ _ t2
          have u3 : (upd H3 U (.tup [.int (j : Int), .int a0])) r = _ := (Same.new hU) _ _ t3
          have u4 : (upd H3 U (.tup [.int (j : Int), .int a0])) fo = _ := (Same.new hU) _ _ t4
          have u5 : (upd H3 U (.tup [.int (j : Int), .int a0])) se = _ := (Same.new hU) _ _ t5
          have hsl := t6.slen
          have hfl := t6.len
          refine ⟨_, rfl, _, rfl, se, _, rfl, DPut.k (k := Sum.inl a0) u5 (small1000 (by unfold kvB; rw [List.length_map]; omega)), ?_⟩
          obtain ⟨sl2, es, hs1, hs2⟩ := kvB_put sl' a0
          rw [es]
          obtain ⟨H5, eH5⟩ : ∃ H5, H5 = upd (upd H3 U (.tup [.int (j : Int), .int a0])) se (.dK (kvB sl2)) := ⟨_, rfl⟩
          have w1 : Same H H5 := by rw [eH5]; exact Same.put u1 se0
          have w2 : H5 L3 = some (.lst S) := by rw [eH5, upd_ne nLs]; exact u2
          have w3 : H5 r = some (.lst ((pre ++ [z]).map V.int)) := by rw [eH5, upd_ne nrs]; exact u3
          have w4 : H5 fo = some (.dK (kvI fl')) := by rw [eH5, upd_ne nfs]; exact u4
          have w5 : H5 se = some (.dK (kvB sl2)) := by rw [eH5, upd_same]
          have m1 : ∀ a ∈ sl, a ∈ sl2 := fun a h => (hs1 a).mpr (.inl (t7 a h))
          have m2 : ∀ a ∈ (pre ++ [z]).take (j + 1), a ∈ sl2 := by
            intro a ha
            rw [take_more ea] at ha
            rcases List.mem_append.mp ha with h | h
            · exact (hs1 a).mpr (.inl (t8 a h))
            · simp at h
              exact (hs1 a).mpr (.inr h)
          rw [← eH5]
          refine ⟨_, rfl, _, rfl, ?_⟩
          rcases ho with ho | ho
          · rw [ho]
            refine iteF ?_
            have op := row.openAt hlast hpos ho j a0 ea (k + 1)
            refine ⟨_, rfl, _, rfl, _, _, rfl, rfl, _, rfl, r, _, rfl, .inl (SqL.of w3), _, _, rfl, rfl, _, rfl, ?_⟩
            refine ifD (fun hlt => ?_) (fun hge => ?_)
            · obtain ⟨y2, ey2⟩ : ∃ y2, (pre ++ [z])[j + (k + 1)]? = some y2 := ⟨_, List.getElem?_eq_getElem (by rw [List.length_map] at hlt; omega)⟩
              refine ⟨_, rfl, _, rfl, _, rfl, _, _, rfl, rfl, r, _, _, .int y2, rfl, rfl, SqL.of w3, at_add ey2, _, rfl, _, rfl, fo, _, rfl, DPut.k (k := Sum.inl a0) w4 (small1000 (by rw [kvI_length]; omega)), ?_⟩
              obtain ⟨fl2, ef, _, fn, fa⟩ := putK_lk (l := fl') (x := a0) (y := y2)
              rw [ef]
              rw [ey2] at op
              refine ⟨_, _, fl2, sl2, rfl, Same.put w1 hfo, ?_, ?_, upd_same, ?_, t6.put hs1 hs2 hda op fn fa, m1, m2⟩
              · rw [upd_ne nLf]; exact w2
              · rw [upd_ne nrf]; exact w3
              · rw [upd_ne nfs.symm]; exact w5
            · have : (pre ++ [z])[j + (k + 1)]? = none := List.getElem?_eq_none (by rw [List.length_map] at hge; omega)
              rw [this] at op
              exact ⟨_, _, fl', sl2, rfl, w1, w2, w3, w4, w5, t6.skip hs1 hs2 hda op, m1, m2⟩
          · rw [ho]
            refine iteT ?_
            have cl := row.closedAt hlast hpos ho j a0 ea (k + 1)
            obtain ⟨y2, ey2⟩ : ∃ y2, (pre ++ [z])[(j + (k + 1)) % (pre ++ [z]).length]? = some y2 := ⟨_, List.getElem?_eq_getElem (Nat.mod_lt _ hpos)⟩
            refine ⟨_, rfl, _, rfl, _, rfl, _, _, rfl, rfl, _, rfl, r, _, rfl, .inl (SqL.of w3), _, _, rfl, rfl, ?_, r, _, _, .int y2, rfl, rfl, SqL.of w3, at_mod ey2, _, rfl, _, rfl, fo, _, rfl, DPut.k (k := Sum.inl a0) w4 (small1000 (by rw [kvI_length]; omega)), ?_⟩
            · rw [List.length_map]
              omega
            obtain ⟨fl2, ef, _, fn, fa⟩ := putK_lk (l := fl') (x := a0) (y := y2)
            rw [ef]
            rw [ey2] at cl
            refine ⟨_, _, fl2, sl2, rfl, Same.put w1 hfo, ?_, ?_, upd_same, ?_, t6.put hs1 hs2 hda cl fn fa, m1, m2⟩
            · rw [upd_ne nLf]; exact w2
            · rw [upd_ne nrf]; exact w3
            · rw [upd_ne nfs.symm]; exact w5
        · rintro σ H3 ⟨w8, w9, fl', sl', rfl, t1, t2, t3, t4, t5, t6, t7, t8⟩
          rw [List.length_map, List.take_length] at t8
          refine ⟨_, _, _, _, _, _, fl', sl', rfl, t1, t2, t4, t5, t6, fun a ha => ?_⟩
          rw [take_more ev] at ha
          rcases List.mem_append.mp ha with h | h
          · exact t7 a (p6 a h)
          · simp at h
            subst h
            exact t8 a (List.mem_of_getElem? row.h0)
      · refine ⟨_, _, _, _, _, _, fl, sl, rfl, p1, p2, p3, p4, p5, fun a ha => ?_⟩
        rw [take_more ev] at ha
        rcases List.mem_append.mp ha with h | h
        · exact p6 a h
        · simp at h
          subst h
          exact of_decide_eq_true hc
    · rintro σ H' ⟨v5, v6, v7, v8, v9, v10, fl, sl, rfl, p1, p2, p3, p4, p5, p6⟩
      rw [List.take_length] at p6
      have hfl := p5.len
      exact ⟨_, rfl, q fo H' fl hfo p1 p3 (p5.di fun x y h => p6 x (hS2 x y h)) (by omega)⟩
end
end My
namespace My
open PySem L2 U StX PM
/-! ### f.power(e) -/
def pw (n : Int) (f : PF) (e : Int) : PF := if e = 0 then idn n else if e < 0 then iter (inv n f) e.natAbs else iter f e.natAbs
section
variable {P : Program} {w : World} {K : PySem.W.Frag} {mg : Str → Option Value} {base : Heap}
def spPow (C : Addr) : Sp := fun vs H Q _ => ∃ a n f e, vs = [.ref a, .int e] ∧ IsMap C H a n f ∧ ∀ r H', H r = none → Same H H' → IsMap C H' r n (pw n f e) → Q (.ref r) H'
theorem ok_power (T : Txt K mg) : FnR P w K mg base CX0 7 T.f_Map_power (spPow T.C_Map) := by
  refine T.A_Map_power.ok sc_Map_power (fun vs H Q E h => ?_) (fun cdv A outer s H vs Q E hr h => ?_)
  · obtain ⟨a, n, f, e, rfl, _⟩ := h
    rfl
  · obtain ⟨a, n, f, e, rfl, ha, q⟩ := h
    have hu := hu_of hr
    refine ⟨_, pss_cons (ps_if (pt_not (pt_val (pe_callR (ok_is_integer T) (hr.mono (by decide)) T.A_is_integer.kp rfl T.g_is_integer pass0 (pa_cons (pv 1) pa_nil)))) (pss_one ps_never) pss_nil)
      (pss_cons (ps_set (i := 2) sc_Map_power.nd rfl (Or.inl rfl) (pe_fld (pv 0) rfl))
      (pss_cons (ps_if (pt_cmpR op_lt (pv 1) pe_int (nomark _)) (pss_one (ps_lock (ps_setDc (i := 2) (own := [("source", 3), ("target", 4)]) (g := gTup K 2 (gCons (gName 3) (gCons (gName 4) gNil))) (tt := tYes) rfl sc_Map_power.nd rfl rfl (sw_dict rfl rfl rfl (by decide +kernel)) (pi_items (pe_fld (pv 0) rfl))
        (blkOk_by (own := [("source", 3), ("target", 4)]) (N := n_Map_power) (sc := defScope s_Map_power) (by decide +kernel))
        (fun _ _ _ _ _ => pg_tup rfl (pgs_cons (pg_name (i := 3) sc_Map_power.nd rfl (Or.inl rfl)) (pgs_cons (pg_name (i := 4) sc_Map_power.nd rfl (Or.inl rfl)) pgs_nil)))
        (fun _ _ _ _ _ => pts_nil) (fun _ _ _ _ _ => pv 4) (fun _ _ _ _ _ => pv 3)))) pss_nil)
      (pss_cons (ps_if (pt_cmpR op_eq (pv 1) pe_int (nomark _)) (pss_one (ps_ret (ClX.pe_cmeth (pe_glob (v := .ref T.C_Map) rfl T.g_Map rfl) T.R_Map T.cm_Map_identity (ok_identity T) hr pass0 (pa_cons (pe_fld (pv 0) rfl) pa_nil)))) pss_nil)
      (pss_one (ps_ret (pe_makeR T.M_Map (ok_init T) (hr.mono (by decide)) rfl T.g_Map pass0 (pa_cons (pe_fld (pv 0) rfl) (pa_cons (pe_callR (ok_moved T) (hr.mono (by decide)) T.A_moved.kp rfl T.g_moved pass0 (pa_cons (pv 2) (pa_cons (pe_callB call_abs (by rfl) T.n_abs (by decide +kernel) (pa_cons (pv 1) pa_nil)) pa_nil))) pa_nil)))))))), ?_⟩
    obtain ⟨dx, D, h1, h2⟩ := id ha.ob
    have h9 := ha.hi
    have ht := tab_len n f
    refine ⟨_, rfl, .int e, rfl, trivial, _, rfl, iteF ?_⟩
    refine ⟨_, rfl, a, _, dx, _, _, rfl, h1, T.o_Map.cl, T.na_own_arrows_Map, flds_arrows _ _, ?_⟩
    refine ⟨_, rfl, _, _, rfl, rfl, _, rfl, ?_⟩
    refine ifD (fun hneg => ?_) (fun hpos => ?_)
    · refine lock_asg ?_
      refine dc_items (fun _ _ => true) (fun _ y => y) (fun x _ => .int x) h2 (fun H' R r o => ?_) (fun _ _ => rfl) ?_ ?_ ?_ ?_
      · refine ⟨_, rfl, a, _, dx, _, _, rfl, o _ _ (ne_of h1 h2 (by intro z; cases z)) h1, T.o_Map.cl, T.na_own_arrows_Map, flds_arrows _ _, r⟩
      · intro x y hxy H1 o
        exact ⟨fun R r => r, fun _ => ⟨fun R r => ⟨_, rfl, r⟩, fun R r => ⟨_, rfl, r⟩⟩⟩
      · rw [madeD_I, kvI_keys]
        exact nd_inl (nd_tgt (vals_tab ha.wf))
      · exact small1000 (Nat.le_trans (tab_len n f) (by omega))
      · intro D2 H2 nD2 hD2 s2
        rw [madeD_I] at hD2
        refine ⟨_, rfl, rfl, _, rfl, ?_⟩
        refine ifD (fun h0 => ?_) (fun _ => ?_)
        · have : e = 0 := V.int.inj h0
          omega
        refine ⟨_, rfl, a, _, dx, _, _, rfl, s2 _ _ h1, T.o_Map.cl, T.na_own_size_Map, flds_size _ _, ?_⟩
        have ek : (if e < 0 then -e else e) = ((e.natAbs - 1 + 1 : Nat) : Int) := by rw [if_pos hneg]; omega
        refine ⟨_, rfl, _, rfl, _, rfl, ?_⟩
        rw [ek]
        refine ⟨D2, _, n, _, _, rfl, hD2, inv_di ha.wf, wf_inv ha.wf, ha.hi, Nat.le_trans (madeI_len ..) (by omega), fun r3 H3 l3 n3 s3 hr3 di3 hl3 => ?_⟩
        have ei : pw n f e = iter (inv n f) (e.natAbs - 1 + 1) := by
          unfold pw
          rw [if_neg (by omega), if_pos hneg, show e.natAbs - 1 + 1 = e.natAbs by omega]
        refine mk_map hr3 di3 (wf_iter (wf_inv ha.wf) _) ha.lo ha.hi (by omega) fun r H5 nr s5 hm => ?_
        rw [← ei] at hm
        exact q r H5 ((s2.trans s3).free nr) ((s2.trans s3).trans s5) hm
    · refine ⟨_, rfl, rfl, _, rfl, ?_⟩
      refine ifD (fun h0 => ?_) (fun hne => ?_)
      · have e0 : e = 0 := V.int.inj h0
        refine ⟨rfl, _, rfl, a, _, dx, _, _, rfl, h1, T.o_Map.cl, T.na_own_size_Map, flds_size _ _, n, rfl, ha.lo, ha.hi, fun r H' nr s1 hm => ?_⟩
        refine q r H' nr s1 ?_
        unfold pw
        rw [if_pos e0]
        exact hm
      · have hne' : e ≠ 0 := fun z => hne (congrArg V.int z)
        refine ⟨_, rfl, a, _, dx, _, _, rfl, h1, T.o_Map.cl, T.na_own_size_Map, flds_size _ _, ?_⟩
        have ek : (if e < 0 then -e else e) = ((e.natAbs - 1 + 1 : Nat) : Int) := by rw [if_neg hpos]; omega
        refine ⟨_, rfl, _, rfl, _, rfl, ?_⟩
        rw [ek]
        refine ⟨D, _, n, _, _, rfl, h2, di_tab ha.wf, ha.wf, ha.hi, by omega, fun r3 H3 l3 n3 s3 hr3 di3 hl3 => ?_⟩
        have ei : pw n f e = iter f (e.natAbs - 1 + 1) := by
          unfold pw
          rw [if_neg hne', if_neg hpos, show e.natAbs - 1 + 1 = e.natAbs by omega]
        refine mk_map hr3 di3 (wf_iter ha.wf _) ha.lo ha.hi (by omega) fun r H5 nr s5 hm => ?_
        rw [← ei] at hm
        exact q r H5 (s3.free nr) (s3.trans s5) hm
end
end My
namespace My
open PySem L2 U StX PM
/-! ### a drawn map -/
structure Drw (n : Int) (i : Nat) (l : List (Int × Int)) (ns : List Int) : Prop where
  kn : (l.map (·.1)).Nodup
  vn : (l.map (·.2)).Nodup
  nn : ns.Nodup
  lt : ∀ p ∈ l, 0 ≤ p.1 ∧ p.1 < i ∧ 0 ≤ p.2 ∧ p.2 < n
  nt : ∀ y ∈ ns, 0 ≤ y ∧ y < n ∧ y ∉ l.map (·.2)
  ln : l.length ≤ i
  le : l.length + ns.length = n.toNat
theorem Drw.more {n : Int} {i : Nat} {l : List (Int × Int)} {ns : List Int} (h : Drw n i l ns) : Drw n (i + 1) l ns := by
  refine ⟨h.kn, h.vn, h.nn, fun p hp => ?_, h.nt, Nat.le_succ_of_le h.ln, h.le⟩
  have := h.lt p hp
  omega
theorem not_erase {ns : List Int} {k : Nat} {y : Int} (nd : ns.Nodup) (h : ns[k]? = some y) : y ∉ ns.eraseIdx k := by
  obtain ⟨hk, e⟩ := List.getElem?_eq_some_iff.mp h
  have e1 : ns = ns.take k ++ y :: ns.drop (k + 1) := by
    rw [← e]
    simp
  rw [List.eraseIdx_eq_take_drop_succ]
  intro hm
  rw [e1, List.nodup_append, List.nodup_cons] at nd
  rcases List.mem_append.mp hm with h1 | h1
  · exact nd.2.2 y h1 y List.mem_cons_self rfl
  · exact nd.2.1.1 h1
theorem Drw.put {n : Int} {i : Nat} {l : List (Int × Int)} {ns : List Int} (h : Drw n i l ns) {k : Nat} {y : Int} (hy : ns[k]? = some y) : Drw n (i + 1) (l ++ [((i : Int), y)]) (ns.eraseIdx k) ∧ (i : Int) ∉ l.map (·.1) := by
  have hm := h.nt y (List.mem_of_getElem? hy)
  have hi : (i : Int) ∉ l.map (·.1) := by
    intro hm
    obtain ⟨p, hp, e⟩ := List.mem_map.mp hm
    have := h.lt p hp
    omega
  obtain ⟨hk, _⟩ := List.getElem?_eq_some_iff.mp hy
  refine ⟨⟨?_, ?_, ?_, ?_, ?_, ?_, ?_⟩, hi⟩
  · rw [List.map_append, List.nodup_append]
    refine ⟨h.kn, by simp, fun a ha b hb e => ?_⟩
    simp at hb
    subst hb
    exact hi (e ▸ ha)
  · rw [List.map_append, List.nodup_append]
    refine ⟨h.vn, by simp, fun a ha b hb e => ?_⟩
    simp at hb
    subst hb
    exact hm.2.2 (e ▸ ha)
  · exact List.Sublist.nodup (List.eraseIdx_sublist _ _) h.nn
  · intro p hp
    rcases List.mem_append.mp hp with hp | hp
    · have := h.lt p hp
      omega
    · simp at hp
      subst hp
      dsimp only
      omega
  · intro z hz
    have h1 := h.nt z (List.mem_of_mem_eraseIdx hz)
    refine ⟨h1.1, h1.2.1, fun hq => ?_⟩
    rw [List.map_append] at hq
    rcases List.mem_append.mp hq with hq | hq
    · exact h1.2.2 hq
    · simp at hq
      subst hq
      exact not_erase h.nn hy hz
  · have := h.ln
    simp
    omega
  · have := h.le
    rw [List.length_append, List.length_singleton, List.length_eraseIdx, if_pos hk]
    omega
theorem two_in {l : List (Int × Int)} (vn : (l.map (·.2)).Nodup) : ∀ {x x' y : Int}, (x, y) ∈ l → (x', y) ∈ l → x = x' := by
  induction l with
  | nil => intro _ _ _ h; cases h
  | cons p r ih =>
    intro x x' y h1 h2
    rw [List.map_cons, List.nodup_cons] at vn
    rcases List.mem_cons.mp h1 with e1 | e1 <;> rcases List.mem_cons.mp h2 with e2 | e2
    · subst e1; cases e2; rfl
    · subst e1; exact absurd (List.mem_map.mpr ⟨(x', y), e2, rfl⟩) vn.1
    · subst e2; exact absurd (List.mem_map.mpr ⟨(x, y), e1, rfl⟩) vn.1
    · exact ih vn.2 e1 e2
theorem Drw.wf {n : Int} {l : List (Int × Int)} {ns : List Int} (h0 : 0 ≤ n) (h : Drw n n.toNat l ns) : WF n (lk l) := by
  refine ⟨fun x y e => ?_, fun x x' y e e' => two_in h.vn (lk_mem e) (lk_mem e')⟩
  have := h.lt _ (lk_mem e)
  dsimp only at this
  omega
theorem rg0 (n : Int) : rgV 0 n = ((List.range n.toNat).map fun (i : Nat) => (i : Int)).map V.int := by
  unfold rgV
  rw [List.map_map, show (n - 0).toNat = n.toNat by omega]
  refine List.map_congr_left fun a _ => ?_
  show V.int (0 + (a : Int)) = V.int (a : Int)
  rw [Int.zero_add]
theorem drw0 (n : Int) : Drw n 0 [] ((List.range n.toNat).map fun (i : Nat) => (i : Int)) := by
  refine ⟨List.nodup_nil, List.nodup_nil, ?_, fun p h => (nomatch h), fun y hy => ?_, Nat.le_refl _, by simp⟩
  · have := (di_id n.toNat).nd
    rw [List.map_map] at this
    exact this
  · obtain ⟨i, hi, rfl⟩ := List.mem_map.mp hy
    rw [List.mem_range] at hi
    exact ⟨by omega, by omega, by simp⟩
section
variable {P : Program} {w : World} {K : PySem.W.Frag} {mg : Str → Option Value} {base : Heap}
def PoolAt (H : Hp) (p : Addr) : Prop := ∃ a b : Int, H p = some (.lst [.int a, .int b]) ∧ 0 ≤ a ∧ 0 ≤ b ∧ b < 2147483647
def spDrwn : Sp := fun vs H Q _ => ∃ (p : Addr) (n way : Int), vs = [.ref p, .int n, .int way] ∧ PoolAt H p ∧ 1 ≤ n ∧ n ≤ 300 ∧
  ∀ r H' l, H r = none → H' r = some (.dK (kvI l)) → DI l (lk l) → WF n (lk l) → l.length ≤ 1000 → PoolAt H' p → Off p H H' → Q (.ref r) H'
theorem Off.put {p q : Addr} {H H' : Hp} {o : HO} (a : Off p H H') (h : H q = none) : Off p H (upd H' q o) := a.mut h
theorem Off.at {p : Addr} {H H' : Hp} {o : HO} (a : Off p H H') : Off p H (upd H' p o) := fun b u hb e => by rw [upd_ne hb]; exact a b u hb e
theorem ok_l_arrows (T : Txt K mg) : FnR P w K mg base CX0 2 T.f_l_arrows spDrwn := by
  refine T.A_l_arrows.ok sc_l_arrows (fun vs H Q E h => ?_) (fun cdv A outer s H vs Q E hr h => ?_)
  · obtain ⟨p, n, way, rfl, _⟩ := h
    rfl
  · obtain ⟨p, n, way, rfl, ⟨a0, b0, hp, ha0, hb0, hb1⟩, h1, h3, q⟩ := h
    have hu := hu_of hr
    refine ⟨_, pss_cons (ps_par (i := 3) (j := 4) rfl sc_l_arrows.nd rfl rfl (by decide) rfl rfl (pa_cons (pe_listRg rfl rfl T.n_list (prg_1 rfl T.n_range (pv 1))) (pa_cons pe_dnewK pa_nil)) (by rfl))
      (pss_cons (ps_for PassesOwn.never rfl (pi_range1 rfl T.n_range (pa_cons (pv 1) pa_nil)) (pg_name (i := 5) sc_l_arrows.nd rfl (Or.inl rfl))
        (pss_one (ps_if (pt_cmpR op_lt (pe_callR (ok_draw T) hr T.A_l_draw.kp rfl T.g_l_draw pass0 (pa_cons (pv 0) (pa_cons pe_int pa_nil))) (pv 2) (nomark _))
          (pss_one (ps_dput hu (pv 4) (pv 5) (pe_bm PySem.F.plainAttrs_list PySem.F.slot_list_pop PySem.F.type_list_pop mt_popAt (pv 3) (pa_cons (pe_callR (ok_draw T) hr T.A_l_draw.kp rfl T.g_l_draw pass0 (pa_cons (pv 0) (pa_cons (pe_callB call_len_seq (by rfl) T.n_len (by decide +kernel) (pa_cons (pv 3) pa_nil)) pa_nil))) pa_nil)) rfl)) pss_nil)))
      (pss_one (ps_ret (pv 4)))), ?_⟩
    refine ⟨_, rfl, n, rfl, RgOk.of_le (by decide) (by omega) (by decide) (by omega), fun lf hlf => ?_⟩
    intro fo hfo
    refine ⟨_, _, rfl, ?_⟩
    have lf0 : H lf = none := hlf
    have fo0 : H fo = none := (Same.new hlf).free hfo
    have npl : p ≠ lf := ne_of_none hp lf0
    have npf : p ≠ fo := ne_of_none hp fo0
    have nlf : lf ≠ fo := ne_of_none upd_same hfo
    refine ⟨_, rfl, n, rfl, by omega, by omega, ?_⟩
    refine for_it (walk_range (lo := 0) (n := n.toNat)) (fun i σ H' => ∃ v5 l ns, σ = [some (.ref p), some (.int n), some (.int way), some (.ref lf), some (.ref fo), v5] ∧ PoolAt H' p ∧ Off p H H' ∧ H' lf = some (.lst (ns.map V.int)) ∧ H' fo = some (.dK (kvI l)) ∧ Drw n i l ns)
      ⟨none, [], _, rfl, ⟨a0, b0, ?_, ha0, hb0, hb1⟩, ?_, ?_, upd_same, drw0 n⟩ (fun _ _ _ _ _ => trivial) ?_ ?_
    · rw [upd_ne npf, upd_ne npl]; exact hp
    · exact (Off.new hlf).tr (Off.new hfo)
    · rw [upd_ne nlf, upd_same, rg0]
    · rintro i v σ H' H'' hi ⟨v5, l, ns, rfl, ⟨a1, b1, e1, ha1, hb1, hb2⟩, p2, p3, p4, p5⟩ ⟨rfl, rfl⟩
      refine ⟨_, rfl, p, a1, b1, 4, rfl, e1, ha1, hb1, hb2, by decide, by decide, fun a2 b2 r2 ha2 hb2 hb3 hr2 hr3 => ?_⟩
      refine ⟨_, rfl, _, _, rfl, rfl, _, rfl, ?_⟩
      have o2 : Off p H (upd H'' p (.lst [.int a2, .int b2])) := Off.at p2
      have l2 : (upd H'' p (.lst [.int a2, .int b2])) lf = some (.lst (ns.map V.int)) := by rw [upd_ne npl.symm]; exact p3
      have f2 : (upd H'' p (.lst [.int a2, .int b2])) fo = some (.dK (kvI l)) := by rw [upd_ne npf.symm]; exact p4
      refine ifD (fun hlt => ?_) (fun _ => ?_)
      · have hlen := p5.le
        have hln := p5.ln
        have hl0 : 0 < ns.length := by omega
        refine ⟨_, rfl, .inl ⟨rfl, _, SqL.of l2⟩, _, rfl, _, rfl, lf, _, rfl, .inl (SqL.of l2), ?_⟩
        rw [List.length_map]
        refine ⟨p, a2, b2, (ns.length : Int), rfl, upd_same, ha2, hb2, hb3, by omega, by omega, fun a4 b4 r4 ha4 hb4 hb5 hr4 hr5 => ?_⟩
        obtain ⟨y, ey⟩ : ∃ y, ns[r4.toNat]? = some y := ⟨_, List.getElem?_eq_getElem (by omega)⟩
        obtain ⟨d1, d2⟩ := p5.put ey
        refine ⟨lf, _, r4, r4.toNat, .int y, rfl, rfl, (by rw [upd_ne npl.symm]; exact l2), by omega, by omega, ?_, get_map ey, ?_⟩
        · rw [List.length_map]
          exact PySem.seqIndex_of hr4 (by omega)
        refine ⟨_, rfl, _, rfl, fo, _, rfl, DPut.k (k := Sum.inl (0 + (i : Nat) : Int)) (kvs := kvI l) (by rw [upd_ne nlf.symm, upd_ne npf.symm]; exact f2) (small1000 (by rw [kvI_length]; omega)), ?_⟩
        rw [Int.zero_add, putK_kvI d2]
        refine ⟨_, _, ns.eraseIdx r4.toNat, rfl, ⟨a4, b4, ?_, ha4, hb4, hb5⟩, ?_, ?_, upd_same, d1⟩
        · rw [upd_ne npf, upd_ne npl, upd_same]
        · exact Off.put (Off.put (Off.at o2) lf0) fo0
        · rw [upd_ne nlf, upd_same]
          congr 2
          apply List.ext_getElem?
          intro m
          simp [List.getElem?_eraseIdx]
          split <;> rfl
      · exact ⟨_, l, ns, rfl, ⟨a2, b2, upd_same, ha2, hb2, hb3⟩, o2, l2, f2, p5.more⟩
    · rintro σ H' ⟨v5, l, ns, rfl, p1, p2, p3, p4, p5⟩
      have := p5.ln
      exact ⟨_, rfl, q fo H' l fo0 p4 ⟨p5.kn, fun _ => rfl⟩ (p5.wf (by omega)) (by omega) p1 p2⟩
end
end My
namespace My
open PySem L2 U StX PM
/-! ### expressions over maps: new objects alone -/
theorem dEq_di {l l' : List (Int × Int)} {f : PF} (d : DI l f) (d' : DI l' f) : dEq (kvI l) (kvI l') = true := by
  have n1 := nd_of_map _ d.nd
  have n2 := nd_of_map _ d'.nd
  have s1 : ∀ p ∈ l, p ∈ l' := by
    rintro ⟨x, y⟩ hp
    exact d'.mem.mpr (d.mem.mp hp)
  have s2 : ∀ p ∈ l', p ∈ l := by
    rintro ⟨x, y⟩ hp
    exact d.mem.mpr (d'.mem.mp hp)
  have l1 := List.Nodup.length_le_of_subset n1 s1
  have l2 := List.Nodup.length_le_of_subset n2 s2
  unfold dEq
  rw [kvI_length, kvI_length, Bool.and_eq_true]
  refine ⟨by rw [beq_iff_eq]; omega, List.all_eq_true.mpr fun p hp => ?_⟩
  unfold kvI at hp
  obtain ⟨⟨x, y⟩, hm, rfl⟩ := List.mem_map.mp hp
  rw [decide_eq_true_eq, valV_kvI, d'.at_, d.mem.mp hm]
  rfl
/-! ### dict([(x, x) for x in one.arrows]) -/
end My
namespace My
open PySem L2 U StX PM
/-! ### values that are no maps; check_map -/
def nonMapV (H : Hp) : V → Prop
  | .non => True | .bl _ => True | .int _ => True | .str _ => True
  | .ref a => (∃ xs, H a = some (.lst xs)) ∨ (∃ xs, H a = some (.tup xs)) ∨ (∃ kvs, H a = some (.dK kvs))
  | _ => False
def spChkM (C CE : Addr) : Sp := fun vs H Q E => ∃ x, vs = [x] ∧ ((∃ a n f, x = .ref a ∧ IsMap C H a n f ∧ Q .non H) ∨ (nonMapV H x ∧ ∀ d, H d = none → E (.ref CE) (some d) (upd H d (.xd [("part", .str "map")]))))
section
variable {P : Program} {w : World} {K : PySem.W.Frag} {mg : Str → Option Value} {base : Heap}
theorem ok_ini_InvalidMap (T : Txt K mg) : FnR P w K mg base CX0 1 T.f_InvalidMap__init (spIni1 T.C_InvalidMap "part") := by
  refine T.A_InvalidMap__init.ok sc_InvalidMap__init (fun vs H Q E h => ?_) (fun cdv A outer s H vs Q E hr h => ?_)
  · obtain ⟨a, v, rfl, _⟩ := h
    rfl
  · obtain ⟨a, v, rfl, ha, q⟩ := h
    refine ⟨_, pss_one (ps_ostG (pv 0) (pv 1)), ?_⟩
    exact ⟨_, rfl, _, rfl, a, T.C_InvalidMap, rfl, T.x_InvalidMap, T.na_part_InvalidMap, .inl ⟨ha, fun dx h1 h2 => q dx h1 h2⟩⟩
theorem ty_nonmap (T : Txt K mg) {H : Hp} {x : V} (h : nonMapV H x) : ∃ t, TyX K H x t ∧ PySem.W.kitOne K t (.ref T.C_Map) = some false := by
  cases x with
  | non => exact ⟨_, .base .non, T.kn_NoneType_Map⟩
  | bl b => exact ⟨_, .base (.bl b), T.kn_bool_Map⟩
  | int i => exact ⟨_, .base (.int i), T.kn_int_Map⟩
  | str z => exact ⟨_, .base (.str z), T.kn_str_Map⟩
  | ref a =>
    rcases h with ⟨xs, e⟩ | ⟨xs, e⟩ | ⟨xs, e⟩
    · exact ⟨_, .base (.lst e), T.kn_list_Map⟩
    · exact ⟨_, .base (.tup e), T.kn_tuple_Map⟩
    · exact ⟨_, .base (.dK e), T.kn_dict_Map⟩
  | byt b => exact h.elim
  | flt b => exact h.elim
  | ty b => exact h.elim
theorem ok_check_map (T : Txt K mg) : FnR P w K mg base (L2.CX P w) 3 T.f_check_map (spChkM T.C_Map T.C_InvalidMap) := by
  refine T.A_check_map.okX sc_check_map (fun vs H Q E h => ?_) (fun cdv A outer s H vs Q E hr h => ?_)
  · obtain ⟨x, rfl, _⟩ := h
    rfl
  · obtain ⟨x, rfl, hx⟩ := h
    refine ⟨_, pss_one (ps_if (pt_not (pt_val (pe_callB call_isi (by rfl) T.n_isinstance (by decide +kernel) (pa_cons (pv 0) (pa_cons (pe_glob (v := .ref T.C_Map) rfl T.g_Map rfl) pa_nil)))))
      (pss_one (ps_raise rfl (takes_of rfl rfl rfl rfl) (pmk_oexG T.x_InvalidMap T.m_InvalidMap__init T.ti_InvalidMap__init (ok_ini_InvalidMap T) (hr.mono (by decide)) pass0 rfl T.g_InvalidMap (pa_cons pe_str pa_nil)))) pss_nil), ?_⟩
    rcases hx with ⟨a, n, f, rfl, hm, q⟩ | ⟨hx, q⟩
    · obtain ⟨dx, fs, h1⟩ := at_map hm
      exact ⟨_, rfl, _, _, _, _, true, rfl, .own _, tyx_ins T.o_Map h1, T.self_Map, _, rfl, iteF q⟩
    · obtain ⟨t, ht, hk⟩ := ty_nonmap T hx
      exact ⟨_, rfl, _, _, _, _, false, rfl, .own _, ht, hk, _, rfl, iteT (mk_one fun d hd => q d hd)⟩
end
/-! ### lists of rows -/
def RowsAt (H : Hp) : List Addr → List (List Int) → Prop
  | [], [] => True
  | a :: as, r :: rs => H a = some (.lst (r.map V.int)) ∧ RowsAt H as rs
  | _, _ => False
theorem RowsAt.len {H : Hp} : ∀ {as : List Addr} {rs : List (List Int)}, RowsAt H as rs → as.length = rs.length
  | [], [], _ => rfl
  | _ :: as, _ :: rs, h => by rw [List.length_cons, List.length_cons, RowsAt.len h.2]
  | [], _ :: _, h => h.elim
  | _ :: _, [], h => h.elim
theorem RowsAt.map {H H' : Hp} : ∀ {as : List Addr} {rs : List (List Int)}, RowsAt H as rs → (∀ a ∈ as, ∀ xs, H a = some (.lst xs) → H' a = some (.lst xs)) → RowsAt H' as rs
  | [], [], _, _ => trivial
  | _ :: as, _ :: rs, h, k => ⟨k _ List.mem_cons_self _ h.1, RowsAt.map h.2 fun a ha => k a (List.mem_cons_of_mem _ ha)⟩
  | [], _ :: _, h, _ => h.elim
  | _ :: _, [], h, _ => h.elim
theorem RowsAt.same {H H' : Hp} {as : List Addr} {rs : List (List Int)} (h : RowsAt H as rs) (s : Same H H') : RowsAt H' as rs := h.map fun a _ xs e => s a _ e
theorem RowsAt.off {H : Hp} {as : List Addr} {rs : List (List Int)} {p : Addr} {o : HO} (h : RowsAt H as rs) (n : p ∉ as) : RowsAt (upd H p o) as rs := h.map fun a ha xs e => by
  have hne : a ≠ p := fun z => n (z ▸ ha)
  rw [upd_ne hne]; exact e
theorem RowsAt.snoc {H : Hp} {a : Addr} {r : List Int} : ∀ {as : List Addr} {rs : List (List Int)}, RowsAt H as rs → H a = some (.lst (r.map V.int)) → RowsAt H (as ++ [a]) (rs ++ [r])
  | [], [], _, e => ⟨e, trivial⟩
  | _ :: as, _ :: rs, h, e => ⟨h.1, RowsAt.snoc h.2 e⟩
  | [], _ :: _, h, _ => h.elim
  | _ :: _, [], h, _ => h.elim
theorem RowsAt.get {H : Hp} : ∀ {as : List Addr} {rs : List (List Int)}, RowsAt H as rs → ∀ (i : Nat) (a : Addr), as[i]? = some a → ∃ r, rs[i]? = some r ∧ H a = some (.lst (r.map V.int))
  | [], [], _, i, a, e => by simp at e
  | b :: as, r :: rs, h, 0, a, e => by cases e; exact ⟨r, rfl, h.1⟩
  | _ :: as, _ :: rs, h, i + 1, a, e => RowsAt.get h.2 i a e
  | [], _ :: _, h, _, _, _ => h.elim
  | _ :: _, [], h, _, _, _ => h.elim
theorem RowsAt.mem {H : Hp} {as : List Addr} {rs : List (List Int)} (h : RowsAt H as rs) {a : Addr} (ha : a ∈ as) : ∃ r ∈ rs, H a = some (.lst (r.map V.int)) := by
  obtain ⟨i, hi⟩ := List.mem_iff_getElem?.mp ha
  obtain ⟨r, e1, e2⟩ := h.get i a hi
  exact ⟨r, List.mem_of_getElem? e1, e2⟩
/-- {x: True for x in xs}, a list of unlike ints -/
theorem dc_ints {K : PySem.W.Frag} {te : TE} {i : Nat} {tt : TT} {tk tv : TE} {vs : List Nat} {σ : L2.St} {H0 H : Hp} {Q : VK} {a : Addr} {xs : List Int} (hte : ∀ R : VK, R (.ref a) H → te σ H0 R) (ha : H a = some (.lst (xs.map V.int)))
    (hw : ∀ a, wipe ((wipe σ vs).set i a) vs = wipe σ vs)
    (ht : ∀ (y : Int) (H1 : Hp) (R : Bool → Hp → Prop), R true H1 → tt ((wipe σ vs).set i (some (.int y))) H1 R) (hk : ∀ (y : Int) (H1 : Hp) (R : VK), R (.int y) H1 → tk ((wipe σ vs).set i (some (.int y))) H1 R) (hv : ∀ (y : Int) (H1 : Hp) (R : VK), R (.bl true) H1 → tv ((wipe σ vs).set i (some (.int y))) H1 R)
    (nd : xs.Nodup) (hz : xs.length < sizeLine)
    (hq : ∀ D H', H D = none → H' D = some (.dK (kvB xs)) → L2.Same H H' → Q (.ref D) H') :
    tDc (iList K te) (gName i) tt tk tv vs σ H0 Q := by
  refine hte _ ⟨a, rfl, ⟨_, SqL.of ha⟩, fun D hD => ?_⟩
  have hDa : D ≠ a := fun e => by rw [e, ha] at hD; cases hD
  refine dc_it (walk_list (xs := xs.map V.int)) (fun k H' => L2.Same H H' ∧ H' D = some (.dK (kvB (xs.take k)))) ⟨Same.new hD, upd_same⟩ (fun k H' _ p => SqL.of (p.1 _ _ ha)) ?_ ?_
  · rintro k v H' H'' hk1 ⟨p1, p2⟩ ⟨rfl, ev⟩
    rw [List.length_map] at hk1
    obtain ⟨y, ey⟩ : ∃ y, xs[k]? = some y := ⟨_, List.getElem?_eq_getElem hk1⟩
    have ev' : v = .int y := by
      have := get_map ey
      rw [this] at ev
      exact (Option.some.inj ev).symm
    subst ev'
    refine ⟨hw _, ?_⟩
    refine ht y _ _ (iteT (hk y _ _ (hv y _ _ ⟨_, Sum.inl y, rfl, p2, ?_, ?_, ?_⟩)))
    · refine Nat.lt_of_le_of_lt ?_ hz
      unfold kvB
      rw [List.length_map, List.length_take]
      omega
    · exact Same.put p1 hD
    · have nin : y ∉ xs.take k := by
        intro hm
        have e2 : xs = xs.take k ++ xs.drop k := (List.take_append_drop k xs).symm
        rw [e2, List.nodup_append] at nd
        refine nd.2.2 y hm y (List.mem_iff_getElem?.mpr ⟨0, ?_⟩) rfl
        rw [List.getElem?_drop]
        exact ey
      rw [upd_same, putK_new _ (valV_none fun z => nin (kvB_key.mp z)), take_more ey]
      unfold kvB
      rw [List.map_append]
      rfl
  · rintro H' ⟨p1, p2⟩
    rw [List.length_map, List.take_length] at p2
    exact hq D _ hD p2 p1
/-- one dict of marks merged into another -/
theorem kvB_merge : ∀ (xs sl : List Int), ∃ sl', mergeK (kvB sl) (kvB xs) = kvB sl' ∧ (∀ z, z ∈ sl' ↔ z ∈ sl ∨ z ∈ xs) ∧ (sl.Nodup → sl'.Nodup)
  | [], sl => ⟨sl, rfl, fun z => by simp, id⟩
  | x :: xs, sl => by
    obtain ⟨s1, e1, m1, n1⟩ := kvB_put sl x
    obtain ⟨s2, e2, m2, n2⟩ := kvB_merge xs s1
    refine ⟨s2, ?_, fun z => ?_, fun nd => n2 (n1 nd)⟩
    · show mergeK (putK (kvB sl) (Sum.inl x) (V.bl true)) (kvB xs) = _
      rw [e1, e2]
    · rw [m2, m1, List.mem_cons]
      constructor
      · rintro ((h | h) | h)
        · exact .inl h
        · exact .inr (.inl h)
        · exact .inr (.inr h)
      · rintro (h | h | h)
        · exact .inl (.inl h)
        · exact .inl (.inr h)
        · exact .inr h
theorem kvB_len (sl : List Int) : (kvB sl).length = sl.length := by simp [kvB]
end My
namespace My
open PySem L2 U StX PM
section
variable {P : Program} {w : World} {K : PySem.W.Frag} {mg : Str → Option Value} {base : Heap}
theorem upd_upd {H : Hp} {p : Addr} {o o' : HO} : upd (upd H p o) p o' = upd H p o' := by
  funext b
  by_cases h : b = p
  · subst h; rw [upd_same, upd_same]
  · rw [upd_ne h, upd_ne h, upd_ne h]
theorem tgt_tab {n : Int} {f : PF} (wf : WF n f) (x : Int) : (valV (tgt (tab n f)) (Sum.inl x : Key)).isSome = !nonT n f x := by
  rw [tgt_val]
  cases h : nonT n f x with
  | true =>
    have := (nonT_iff wf).mp h
    refine decide_eq_false fun hm => ?_
    obtain ⟨⟨a, b⟩, hp, rfl⟩ := List.mem_map.mp hm
    exact this a ((mem_tab wf).mp hp)
  | false =>
    refine decide_eq_true ?_
    unfold nonT at h
    cases e : inv n f x with
    | none => rw [e] at h; cases h
    | some y => exact List.mem_map.mpr ⟨(y, x), (mem_tab wf).mpr ((inv_iff wf).mp e), rfl⟩
/-- {t: True for t in e.values()}, e a dict just made -/
theorem dc_valsF {l : List (Int × Int)} {te : TE} {i : Nat} {tt : TT} {tk tv : TE} {vs : List Nat} {σ : L2.St} {H0 H : Hp} {Q : VK}
    (hte : ∀ R : VK, (∀ d od, H d = none → R (.ref d) (upd H d (.frz od (.dK (kvI l))))) → te σ H0 R)
    (hw : ∀ a, wipe ((wipe σ vs).set i a) vs = wipe σ vs)
    (ht : ∀ (y : Int) (H1 : Hp) (R : Bool → Hp → Prop), R true H1 → tt ((wipe σ vs).set i (some (.int y))) H1 R) (hk : ∀ (y : Int) (H1 : Hp) (R : VK), R (.int y) H1 → tk ((wipe σ vs).set i (some (.int y))) H1 R) (hv : ∀ (y : Int) (H1 : Hp) (R : VK), R (.bl true) H1 → tv ((wipe σ vs).set i (some (.int y))) H1 R)
    (nd : (l.map (·.2)).Nodup) (hz : l.length < sizeLine)
    (hq : ∀ D H', H D = none → H' D = some (.dK (tgt l)) → L2.Same H H' → Q (.ref D) H') :
    tDc (iVals te) (gName i) tt tk tv vs σ H0 Q := by
  refine hte _ fun d od hd => ⟨d, od, kvI l, rfl, upd_same, fun D hD => ?_⟩
  have hDd : D ≠ d := fun e => by rw [e, upd_same] at hD; cases hD
  have hD0 : H D = none := by rw [upd_ne hDd] at hD; exact hD
  refine dc_it walk_values (fun k H' => H' d = some (.frz od (.dK (kvI l))) ∧ L2.Same H H' ∧ H' D = some (.dK (tgt (l.take k)))) ⟨?_, Same.put (Same.new hd) hD0, upd_same⟩ (fun k H' _ p => p.1) ?_ ?_
  · rw [upd_ne hDd.symm]; exact upd_same
  · rintro k v H' H'' hk1 ⟨p1, p2, p3⟩ ⟨rfl, kk, e1⟩
    obtain ⟨x, y, exy, rfl, rfl⟩ := kvI_get e1
    refine ⟨hw _, ?_⟩
    refine ht y _ _ ?_
    refine iteT ?_
    refine hk _ _ _ (hv _ _ _ ⟨_, Sum.inl y, rfl, p3, Nat.lt_of_le_of_lt (tgt_len ..) hz, ?_⟩)
    refine ⟨?_, Same.put p2 hD0, ?_⟩
    · rw [upd_ne hDd.symm]; exact p1
    · have nin : y ∉ (l.take k).map (·.2) := by
        intro hm
        have e2 : l.map (·.2) = (l.take k).map (·.2) ++ (l.drop k).map (·.2) := by rw [← List.map_append, List.take_append_drop]
        rw [e2, List.nodup_append] at nd
        refine nd.2.2 _ hm y (List.mem_map.mpr ⟨(x, y), ?_, rfl⟩) rfl
        refine List.mem_iff_getElem?.mpr ⟨0, ?_⟩
        rw [List.getElem?_drop]
        exact exy
      rw [upd_same, putK_new _ (valV_none fun z => nin (tgt_key.mp z)), take_more exy]
      unfold tgt
      rw [List.map_append]
      rfl
  · rintro H' ⟨p1, p2, p3⟩
    rw [kvI_length, List.take_length] at p3
    exact hq D _ hD0 p3 p2
structure Prt (n : Int) (f : PF) (H H' : Hp) (lh se : Addr) (ex : List Addr) (b : List Int) (hs : List Addr) (sl : List Int) (st : List Int) : Prop where
  sm : Same H H'
  l : H' lh = some (.lst (hs.map V.ref))
  s : H' se = some (.dK (kvB sl))
  r : RowsAt H' hs (st.map (rowN f))
  m : ∀ x, x ∈ sl ↔ x ∈ seenL f (b ++ st)
  nd : sl.Nodup
  nw : ∀ a ∈ hs, H a = none ∧ a ≠ lh ∧ a ≠ se ∧ a ∉ ex
theorem Prt.slen {n : Int} {f : PF} {H H' : Hp} {lh se : Addr} {ex hs : List Addr} {b sl st : List Int} (wf : WF n f) (p : Prt n f H H' lh se ex b hs sl st) (h : ∀ e ∈ b ++ st, 0 ≤ e ∧ e < n) : sl.length ≤ n.toNat := by
  refine len_range p.nd fun x hx => ?_
  obtain ⟨e, he, hm⟩ := mem_seenL.mp ((p.m x).mp hx)
  have := h e he
  exact (rowN_is wf this.1 this.2).dom wf this.1 this.2 x hm
/-- one row more, from a new list r, its marks merged -/
theorem Prt.more {n : Int} {f : PF} {H H1 H2 H3 : Hp} {lh se : Addr} {ex hs : List Addr} {b sl sl' st : List Int} {e : Int} {r : Addr} (p : Prt n f H H1 lh se ex b hs sl st) (hl0 : H lh = none) (hs0 : H se = none) (nls : lh ≠ se) (hex : ∀ a ∈ ex, H1 a ≠ none)
    (hr : H1 r = none) (s2 : Same H1 H2) (hr2 : H2 r = some (.lst ((rowN f e).map V.int))) (m1 : ∀ z, z ∈ sl' ↔ z ∈ sl ∨ z ∈ rowN f e) (n1 : sl.Nodup → sl'.Nodup) (s3 : Same (upd H2 lh (.lst (hs.map V.ref ++ [.ref r]))) H3) :
    Prt n f H (upd H3 se (.dK (kvB sl'))) lh se ex b (hs ++ [r]) sl' (st ++ [e]) := by
  have rl : r ≠ lh := fun z => by rw [z, p.l] at hr; cases hr
  have rs : r ≠ se := fun z => by rw [z, p.s] at hr; cases hr
  have r0 : H r = none := p.sm.free hr
  have rx : r ∉ ex := fun z => hex r z hr
  refine ⟨?_, ?_, upd_same, ?_, ?_, n1 p.nd, ?_⟩
  · refine Same.put ?_ hs0
    exact (Same.put (p.sm.trans s2) hl0).trans s3
  · rw [upd_ne nls, s3 _ _ upd_same, List.map_append]
    rfl
  · rw [List.map_append]
    refine RowsAt.snoc ?_ ?_
    · have h1 := (p.r.same s2).off (p := lh) (o := .lst (hs.map V.ref ++ [.ref r])) (fun z => (p.nw lh z).2.1 rfl)
      exact (h1.same s3).off fun z => (p.nw se z).2.2.1 rfl
    · rw [upd_ne rs]
      exact s3 _ _ (by rw [upd_ne rl]; exact hr2)
  · intro x
    rw [m1, p.m, mem_seenL, mem_seenL]
    constructor
    · rintro (⟨e', h1, h2⟩ | h)
      · exact ⟨e', by rw [← List.append_assoc]; exact List.mem_append_left _ h1, h2⟩
      · exact ⟨e, by simp, h⟩
    · rintro ⟨e', h1, h2⟩
      rw [← List.append_assoc] at h1
      rcases List.mem_append.mp h1 with h1 | h1
      · exact .inl ⟨e', h1, h2⟩
      · rw [List.mem_singleton] at h1
        subst h1
        exact .inr h2
  · intro a ha
    rcases List.mem_append.mp ha with ha | ha
    · exact p.nw a ha
    · rw [List.mem_singleton] at ha
      subst ha
      exact ⟨r0, rl, rs, rx⟩
def spParts (C : Addr) : Sp := fun vs H Q _ => ∃ a n f, vs = [.ref a] ∧ IsMap C H a n f ∧ ∀ t lc lh cs hs H', Same H H' → H' t = some (.tup [.ref lc, .ref lh]) → H' lc = some (.lst (cs.map V.ref)) → H' lh = some (.lst (hs.map V.ref)) →
  RowsAt H' cs ((cycS n f).map (rowN f)) → RowsAt H' hs ((nons n f).map (rowN f)) → H lc = none → H lh = none → lc ≠ lh → (∀ a ∈ cs, H a = none ∧ a ≠ lc ∧ a ≠ lh) → (∀ a ∈ hs, H a = none ∧ a ≠ lc ∧ a ≠ lh) → Q (.ref t) H'
theorem ok_parts_of (T : Txt K mg) : FnR P w K mg base CX0 3 T.f_parts_of (spParts T.C_Map) := by
  refine T.A_parts_of.ok sc_parts_of (fun vs H Q E h => ?_) (fun cdv A outer s H vs Q E hr h => ?_)
  · obtain ⟨a, n, f, rfl, _⟩ := h
    rfl
  · obtain ⟨a, n, f, rfl, hm, q⟩ := h
    have hu := hu_of hr
    refine ⟨_, pss_cons (ps_par (i := 1) (j := 2) rfl sc_parts_of.nd rfl rfl (by decide) rfl rfl (pa_cons (pe_propR (pv 0) T.o_Map.cl T.P_Map_arrows (ok_arrows T) (hr.mono (by decide)))
          (pa_cons (pe_dc (own := [("target", 7)]) (g := gName 7) (tt := tYes) rfl sc_parts_of.nd (pi_values (pe_frz (pe_propR (pv 0) T.o_Map.cl T.P_Map_arrows (ok_arrows T) (hr.mono (by decide)))))
            (blkOk_by (own := [("target", 7)]) (N := n_parts_of) (sc := defScope s_parts_of) (by decide +kernel))
            (fun _ _ _ _ _ => pg_name (i := 7) sc_parts_of.nd rfl (Or.inl rfl)) (fun _ _ _ _ _ => pts_nil) (fun _ _ _ _ _ => pv 7) (fun _ _ _ _ _ => pe_bl)) pa_nil)) (by rfl))
      (pss_cons (ps_par3 (i := 3) (j := 4) (l := 5) rfl sc_parts_of.nd rfl rfl rfl (by decide) (by decide) (by decide) rfl rfl rfl (pa_cons (pe_lst pa_nil) (pa_cons (pe_lst pa_nil) (pa_cons pe_dnewK pa_nil))) (by rfl))
      (pss_cons (ps_for PassesOwn.never rfl (pi_range1 rfl T.n_range (pa_cons (pe_propR (pv 0) T.o_Map.cl T.P_Map_size (ok_size T) (hr.mono (by decide))) pa_nil)) (pg_name (i := 6) sc_parts_of.nd rfl (Or.inl rfl))
        (pss_one (ps_if (pt_cmp (pc_dnotin hu (pv 6) (pv 2)))
          (pss_cons (ps_expr (pe_bm PySem.F.plainAttrs_list PySem.F.slot_list_append PySem.F.type_list_append mt_append (pv 4) (pa_cons (pe_callR (ok_row_from T) (hr.mono (by decide)) T.A_row_from.kp rfl T.g_row_from pass0 (pa_cons (pv 1) (pa_cons (pv 6) pa_nil))) pa_nil)))
          (pss_one (ps_expr (pe_bm PySem.F.plainAttrs_dict PySem.F.slot_dict_update PySem.F.type_dict_update mt_updD (pv 5) (pa_cons (pe_dc (own := [("one", 8)]) (g := gName 8) (tt := tYes) rfl sc_parts_of.nd (pi_list (pe_ix ix_list (pv 4) (pe_un un_neg pe_int) (fun _ _ => rfl)))
            (blkOk_by (own := [("one", 8)]) (N := n_parts_of) (sc := defScope s_parts_of) (by decide +kernel))
            (fun _ _ _ _ _ => pg_name (i := 8) sc_parts_of.nd rfl (Or.inl rfl)) (fun _ _ _ _ _ => pts_nil) (fun _ _ _ _ _ => pv 8) (fun _ _ _ _ _ => pe_bl)) pa_nil))))) pss_nil)))
      (pss_cons (ps_for PassesOwn.never rfl (pi_range1 rfl T.n_range (pa_cons (pe_propR (pv 0) T.o_Map.cl T.P_Map_size (ok_size T) (hr.mono (by decide))) pa_nil)) (pg_name (i := 6) sc_parts_of.nd rfl (Or.inl rfl))
        (pss_one (ps_if (pt_cmp (pc_dnotin hu (pv 6) (pv 5)))
          (pss_cons (ps_expr (pe_bm PySem.F.plainAttrs_list PySem.F.slot_list_append PySem.F.type_list_append mt_append (pv 3) (pa_cons (pe_callR (ok_row_from T) (hr.mono (by decide)) T.A_row_from.kp rfl T.g_row_from pass0 (pa_cons (pv 1) (pa_cons (pv 6) pa_nil))) pa_nil)))
          (pss_one (ps_expr (pe_bm PySem.F.plainAttrs_dict PySem.F.slot_dict_update PySem.F.type_dict_update mt_updD (pv 5) (pa_cons (pe_dc (own := [("one", 8)]) (g := gName 8) (tt := tYes) rfl sc_parts_of.nd (pi_list (pe_ix ix_list (pv 3) (pe_un un_neg pe_int) (fun _ _ => rfl)))
            (blkOk_by (own := [("one", 8)]) (N := n_parts_of) (sc := defScope s_parts_of) (by decide +kernel))
            (fun _ _ _ _ _ => pg_name (i := 8) sc_parts_of.nd rfl (Or.inl rfl)) (fun _ _ _ _ _ => pts_nil) (fun _ _ _ _ _ => pv 8) (fun _ _ _ _ _ => pe_bl)) pa_nil))))) pss_nil)))
      (pss_one (ps_ret (pe_tup (pa_cons (pv 3) (pa_cons (pv 4) pa_nil)))))))), ?_⟩
    obtain ⟨dx, fs, h1⟩ := at_map hm
    have wf := hm.wf
    have hn3 := hm.hi
    have hn1 := hm.lo
    have tl := tab_len n f
    refine ⟨_, rfl, a, dx, fs, rfl, h1, a, n, f, rfl, hm, fun d hd => ?_⟩
    have s1 : Same H (upd H d (.dK (kvI (tab n f)))) := Same.new hd
    refine dc_valsF (H := upd H d (.dK (kvI (tab n f)))) (l := tab n f) (fun R r => ?_) (fun _ => rfl) (fun _ _ _ r => r) (fun _ _ _ r => ⟨_, rfl, r⟩) (fun _ _ _ r => r) (vals_tab wf) (small1000 (by omega)) (fun tg H2 ntg htg s2 => ?_)
    · refine ⟨_, rfl, a, dx, fs, rfl, s1 _ _ h1, a, n, f, rfl, hm.same s1, fun p hp => ⟨p, _, rfl, upd_same, trivial, fun od => ?_⟩⟩
      rw [upd_upd]
      exact r p od hp
    refine ⟨_, _, rfl, ?_⟩
    have s12 := s1.trans s2
    have hd2 : H2 d = some (.dK (kvI (tab n f))) := s2 _ _ upd_same
    refine ⟨(by show 0 ≤ sizeLine; decide), fun lc hlc => ⟨(by show 0 ≤ sizeLine; decide), fun lh hlh => fun se hse => ⟨_, _, _, rfl, ?_⟩⟩⟩
    have nlc : lc ≠ lh := ne_of_none upd_same hlh
    have ncs : lc ≠ se := ne_of_none (by rw [upd_ne nlc]; exact upd_same) hse
    have nhs : lh ≠ se := ne_of_none upd_same hse
    have s3 : Same H2 (upd (upd (upd H2 lc (.lst [])) lh (.lst [])) se (.dK [])) := ((Same.new hlc).trans (Same.new hlh)).trans (Same.new hse)
    have hlh2 : H2 lh = none := (Same.new hlc).free hlh
    have hse2 : H2 se = none := ((Same.new hlc).trans (Same.new hlh)).free hse
    refine ⟨_, rfl, a, dx, fs, rfl, (s12.trans s3) _ _ h1, a, n, f, rfl, hm.same (s12.trans s3), n, rfl, by omega, by omega, ?_⟩
    refine for_it (walk_range (lo := 0) (n := n.toNat)) (fun i σ H' => ∃ v6 v7 v8 hs sl, σ = [some (.ref a), some (.ref d), some (.ref tg), some (.ref lc), some (.ref lh), some (.ref se), v6, v7, v8] ∧ H' lc = some (.lst []) ∧ Prt n f H2 H' lh se [lc] [] hs sl ((rgI i).filter (nonT n f)))
      ⟨none, none, none, [], [], rfl, ?_, s3, ?_, upd_same, trivial, fun x => ?_, List.nodup_nil, fun a h => nomatch h⟩ (fun _ _ _ _ _ => trivial) ?_ ?_
    · rw [upd_ne ncs, upd_ne nlc, upd_same]
    · rw [upd_ne nhs, upd_same]; rfl
    · exact ⟨fun h => (nomatch h), fun h => (nomatch h)⟩
    · rintro i v σ H' H'' hi ⟨v6, v7, v8, hs, sl, rfl, c1, p⟩ ⟨rfl, rfl⟩
      have x0 : (0 : Int) ≤ 0 + (i : Nat) := by omega
      have x1 : (0 : Int) + (i : Nat) < n := by omega
      refine ⟨_, rfl, _, rfl, tg, _, rfl, DGet.k (k := Sum.inl (0 + (i : Nat) : Int)) (p.sm _ _ htg), _, rfl, ?_⟩
      rw [tgt_tab wf]
      have hst : ∀ e ∈ [] ++ (rgI i).filter (nonT n f), 0 ≤ e ∧ e < n := fun e he => by
        have := mem_rgI.mp (List.mem_filter.mp he).1
        omega
      have hsl := p.slen wf hst
      have hlen := p.r.len
      rw [List.length_map] at hlen
      have hfl : ((rgI i).filter (nonT n f)).length ≤ i := Nat.le_trans (List.length_filter_le _ _) (by simp [rgI])
      refine ifNB (fun hc => ?_) (fun hc => ?_)
      · have hnt : nonT n f (0 + (i : Nat)) = true := by simpa using hc
        refine ⟨_, rfl, .inl ⟨rfl, _, SqL.of p.l⟩, _, rfl, _, rfl, d, tab n f, n, f, 0 + (i : Nat), rfl, p.sm _ _ hd2, di_tab wf, wf, hn3, x0, x1, fun r H3 pre z hr0 sr hr2 row ho => ?_⟩
        have hrow : IsRow f (0 + (i : Nat)) (pre ++ [z]) := ⟨pre, z, rfl, row, ho⟩
        rw [← rowN_eq hrow] at hr2
        refine ⟨lh, _, .ref r, rfl, rfl, sr _ _ p.l, ?_, ?_⟩
        · rw [List.length_map]; exact small1000 (by omega)
        have rl : r ≠ lh := fun z => by rw [z, p.l] at hr0; cases hr0
        have rs : r ≠ se := fun z => by rw [z, p.s] at hr0; cases hr0
        have hs4 : (upd H3 lh (.lst (hs.map V.ref ++ [.ref r]))) se = some (.dK (kvB sl)) := by rw [upd_ne nhs.symm]; exact sr _ _ p.s
        have nrow := (rowN_is wf x0 x1).nd wf
        have drow := (rowN_is wf x0 x1).dom wf x0 x1
        have lrow := len_range nrow drow
        refine ⟨_, rfl, .inr (.inr (.inl ⟨rfl, .inl ⟨_, hs4⟩⟩)), ?_⟩
        refine dc_ints (a := r) (xs := rowN f (0 + (i : Nat))) (H := upd H3 lh (.lst (hs.map V.ref ++ [.ref r]))) (fun R rr => ?_) (by rw [upd_ne rl]; exact hr2) (fun _ => rfl) (fun _ _ _ r => r) (fun _ _ _ r => ⟨_, rfl, r⟩) (fun _ _ _ r => r) nrow (small1000 (by omega)) (fun D H5 nD hD s5 => ?_)
        · exact ⟨_, rfl, 1, rfl, lh, _, -1, _, rfl, rfl, SqL.of upd_same, atI_last _ _, rr⟩
        obtain ⟨sl', em, m1, n1⟩ := kvB_merge (rowN f (0 + (i : Nat))) sl
        refine ⟨se, D, _, _, rfl, rfl, ?_, s5 _ _ hs4, hD, ?_, ?_⟩
        · exact ne_of_none hs4 nD
        · rw [kvB_len, kvB_len]; exact Nat.le_trans (by omega : _ ≤ 1000) (by decide)
        rw [em]
        have pm := p.more hlh2 hse2 nhs (fun a ha => by rw [List.mem_singleton] at ha; rw [ha, c1]; simp) hr0 sr hr2 m1 n1 s5
        refine ⟨_, _, _, hs ++ [r], sl', rfl, ?_, ?_⟩
        · rw [upd_ne ncs]; exact s5 _ _ (by rw [upd_ne nlc]; exact sr _ _ c1)
        · rw [rgI_succ, List.filter_append, List.filter_cons_of_pos (by rw [Int.zero_add] at hnt; exact hnt), List.filter_nil]
          rw [Int.zero_add] at pm
          exact pm
      · have hnt : nonT n f ((i : Nat) : Int) = false := by rw [Int.zero_add] at hc; simpa using hc
        refine ⟨_, _, _, hs, sl, rfl, c1, ?_⟩
        rw [rgI_succ, List.filter_append, List.filter_cons_of_neg (by rw [hnt]; exact Bool.false_ne_true), List.filter_nil, List.append_nil]
        exact p
    · rintro σ H3 ⟨v6, v7, v8, hs, sl, rfl, c1, p⟩
      have s13 : Same H H3 := s12.trans p.sm
      refine ⟨_, rfl, a, dx, fs, rfl, s13 _ _ h1, a, n, f, rfl, hm.same s13, n, rfl, by omega, by omega, ?_⟩
      refine for_it (walk_range (lo := 0) (n := n.toNat)) (fun i σ H' => ∃ v6 v7 v8 cs sl st, σ = [some (.ref a), some (.ref d), some (.ref tg), some (.ref lc), some (.ref lh), some (.ref se), v6, v7, v8] ∧ Prt n f H2 H' lc se [lh] (nons n f) cs sl st ∧ selL f (nons n f) (rgI i) = nons n f ++ st ∧ H' lh = some (.lst (hs.map V.ref)) ∧ RowsAt H' hs ((nons n f).map (rowN f)))
        ⟨_, _, _, [], sl, [], rfl, ⟨p.sm, c1, p.s, trivial, fun x => ?_, p.nd, fun a h => nomatch h⟩, by simp [selL, rgI], p.l, p.r⟩ (fun _ _ _ _ _ => trivial) ?_ ?_
      · rw [List.append_nil]; exact p.m x
      · rintro i v σ H' H'' hi ⟨v6, v7, v8, cs, sl, st, rfl, p', est, e1, e2⟩ ⟨rfl, rfl⟩
        have x0 : (0 : Int) ≤ 0 + (i : Nat) := by omega
        have x1 : (0 : Int) + (i : Nat) < n := by omega
        obtain ⟨c, ec, hc1, hc2⟩ := selL_sub f (rgI i) (nons n f)
        rw [est] at ec
        have ec := List.append_cancel_left ec
        subst ec
        have hst : ∀ e ∈ nons n f ++ st, 0 ≤ e ∧ e < n := fun e he => by
          rcases List.mem_append.mp he with he | he
          · have := nons_dom he
            exact ⟨this.1, this.2.1⟩
          · have := mem_rgI.mp (hc1.subset he)
            omega
        have hsl := p'.slen wf hst
        have hlen := p'.r.len
        rw [List.length_map] at hlen
        have hfl : st.length ≤ i := Nat.le_trans hc1.length_le (by simp [rgI])
        refine ⟨_, rfl, _, rfl, se, _, rfl, DGet.k (k := Sum.inl (0 + (i : Nat) : Int)) p'.s, _, rfl, ?_⟩
        rw [kvB_val]
        refine ifN (fun hc => ?_) (fun hc => ?_)
        · have hns : ((i : Nat) : Int) ∉ seenL f (nons n f ++ st) := fun h => hc (by rw [Int.zero_add]; exact (p'.m _).mpr h)
          refine ⟨_, rfl, .inl ⟨rfl, _, SqL.of p'.l⟩, _, rfl, _, rfl, d, tab n f, n, f, 0 + (i : Nat), rfl, p'.sm _ _ hd2, di_tab wf, wf, hn3, x0, x1, fun r H3 pre z hr0 sr hr2 row ho => ?_⟩
          have hrow : IsRow f (0 + (i : Nat)) (pre ++ [z]) := ⟨pre, z, rfl, row, ho⟩
          rw [← rowN_eq hrow] at hr2
          refine ⟨lc, _, .ref r, rfl, rfl, sr _ _ p'.l, ?_, ?_⟩
          · rw [List.length_map]; exact small1000 (by omega)
          have rl : r ≠ lc := fun z => by rw [z, p'.l] at hr0; cases hr0
          have hs4 : (upd H3 lc (.lst (cs.map V.ref ++ [.ref r]))) se = some (.dK (kvB sl)) := by rw [upd_ne ncs.symm]; exact sr _ _ p'.s
          have nrow := (rowN_is wf x0 x1).nd wf
          have drow := (rowN_is wf x0 x1).dom wf x0 x1
          have lrow := len_range nrow drow
          refine ⟨_, rfl, .inr (.inr (.inl ⟨rfl, .inl ⟨_, hs4⟩⟩)), ?_⟩
          refine dc_ints (a := r) (xs := rowN f (0 + (i : Nat))) (H := upd H3 lc (.lst (cs.map V.ref ++ [.ref r]))) (fun R rr => ?_) (by rw [upd_ne rl]; exact hr2) (fun _ => rfl) (fun _ _ _ r => r) (fun _ _ _ r => ⟨_, rfl, r⟩) (fun _ _ _ r => r) nrow (small1000 (by omega)) (fun D H5 nD hD s5 => ?_)
          · exact ⟨_, rfl, 1, rfl, lc, _, -1, _, rfl, rfl, SqL.of upd_same, atI_last _ _, rr⟩
          obtain ⟨sl', em, m1, n1⟩ := kvB_merge (rowN f (0 + (i : Nat))) sl
          refine ⟨se, D, _, _, rfl, rfl, ?_, s5 _ _ hs4, hD, ?_, ?_⟩
          · exact ne_of_none hs4 nD
          · rw [kvB_len, kvB_len]; exact Nat.le_trans (by omega : _ ≤ 1000) (by decide)
          rw [em]
          have pm := p'.more hlc hse2 ncs (fun a ha => by rw [List.mem_singleton] at ha; rw [ha, e1]; simp) hr0 sr hr2 m1 n1 s5
          refine ⟨_, _, _, cs ++ [r], sl', st ++ [((i : Nat) : Int)], rfl, ?_, ?_, ?_, ?_⟩
          · rw [Int.zero_add] at pm
            exact pm
          · rw [rgI_succ, selL_one, est]
            unfold stp
            rw [if_neg hns, List.append_assoc]
          · rw [upd_ne nhs]; exact s5 _ _ (by rw [upd_ne nlc.symm]; exact sr _ _ e1)
          · have g1 := (e2.same sr).off (p := lc) (o := .lst (cs.map V.ref ++ [.ref r])) (fun z => (p.nw lc z).2.2.2 (by simp))
            exact (g1.same s5).off fun z => (p.nw se z).2.2.1 rfl
        · have hns : ((i : Nat) : Int) ∈ seenL f (nons n f ++ st) := (p'.m _).mp (by rw [Int.zero_add] at hc; exact hc)
          refine ⟨_, _, _, cs, sl, st, rfl, p', ?_, e1, e2⟩
          rw [rgI_succ, selL_one, est]
          unfold stp
          rw [if_pos hns]
      · rintro σ H4 ⟨v6, v7, v8, cs, sl', st, rfl, p', est, e1, e2⟩
        rw [cycS_eq] at est
        have est := List.append_cancel_left est
        subst est
        refine ⟨_, rfl, _, rfl, (by show 2 ≤ sizeLine; decide), fun t ht => ?_⟩
        have s5 : Same H4 (upd H4 t (.tup [.ref lc, .ref lh])) := Same.new ht
        refine q t lc lh cs hs _ ((s12.trans p'.sm).trans s5) upd_same (s5 _ _ p'.l) (s5 _ _ e1) (p'.r.same s5) (e2.same s5) (s12.free hlc) (s12.free hlh2) nlc (fun a ha => ?_) (fun a ha => ?_)
        · have := p'.nw a ha
          exact ⟨s12.free this.1, this.2.1, by simpa using this.2.2.2⟩
        · have := p.nw a ha
          exact ⟨s12.free this.1, by simpa using this.2.2.2, this.2.1⟩
/-! ### cycles_of, chains_of -/
end
end My
namespace My
open PySem L2 U StX PM
/-! ### lists of ints: in, comprehensions -/
/-! ### rows with marks -/
def PairsAt (H : Hp) : List Addr → List Addr → List Bool → Prop
  | [], [], [] => True
  | p :: ps, a :: as, b :: bs => H p = some (.tup [.ref a, .bl b]) ∧ PairsAt H ps as bs
  | _, _, _ => False
theorem PairsAt.map {H H' : Hp} : ∀ {ps as : List Addr} {bs : List Bool}, PairsAt H ps as bs → (∀ p ∈ ps, ∀ xs, H p = some (.tup xs) → H' p = some (.tup xs)) → PairsAt H' ps as bs
  | [], [], [], _, _ => trivial
  | _ :: ps, _ :: as, _ :: bs, h, k => ⟨k _ List.mem_cons_self _ h.1, PairsAt.map h.2 fun a ha => k a (List.mem_cons_of_mem _ ha)⟩
  | [], [], _ :: _, h, _ => h.elim
  | [], _ :: _, _, h, _ => h.elim
  | _ :: _, [], _, h, _ => h.elim
  | _ :: _, _ :: _, [], h, _ => h.elim
theorem PairsAt.same {H H' : Hp} {ps as : List Addr} {bs : List Bool} (h : PairsAt H ps as bs) (s : Same H H') : PairsAt H' ps as bs := h.map fun a _ xs e => s a _ e
theorem PairsAt.off {H : Hp} {ps as : List Addr} {bs : List Bool} {q : Addr} {o u : HO} (h : PairsAt H ps as bs) (hq : H q = some u) (nt : ∀ xs, u ≠ .tup xs) : PairsAt (upd H q o) ps as bs := h.map fun a ha xs e => by
  have hne : a ≠ q := fun z => by subst z; rw [hq] at e; exact nt _ (Option.some.inj e)
  rw [upd_ne hne]; exact e
theorem PairsAt.len {H : Hp} : ∀ {ps as : List Addr} {bs : List Bool}, PairsAt H ps as bs → ps.length = as.length ∧ ps.length = bs.length
  | [], [], [], _ => ⟨rfl, rfl⟩
  | _ :: ps, _ :: as, _ :: bs, h => by
    have := PairsAt.len h.2
    simp [this.1.symm, this.2.symm]
  | [], [], _ :: _, h => h.elim
  | [], _ :: _, _, h => h.elim
  | _ :: _, [], _, h => h.elim
  | _ :: _, _ :: _, [], h => h.elim
theorem PairsAt.get {H : Hp} : ∀ {ps as : List Addr} {bs : List Bool}, PairsAt H ps as bs → ∀ (i : Nat) (p : Addr), ps[i]? = some p → ∃ a b, as[i]? = some a ∧ bs[i]? = some b ∧ H p = some (.tup [.ref a, .bl b])
  | [], [], [], _, i, a, e => by simp at e
  | _ :: ps, a :: as, b :: bs, h, 0, p, e => by cases e; exact ⟨a, b, rfl, rfl, h.1⟩
  | _ :: ps, _ :: as, _ :: bs, h, i + 1, p, e => PairsAt.get h.2 i p e
  | [], [], _ :: _, h, _, _, _ => h.elim
  | [], _ :: _, _, h, _, _, _ => h.elim
  | _ :: _, [], _, h, _, _, _ => h.elim
  | _ :: _, _ :: _, [], h, _, _, _ => h.elim
end My
namespace My
open PySem L2 U StX PM
/-! ### rows by their first elements -/
def RowsZ (f : PF) (H : Hp) (zs : List (Addr × Int)) : Prop := ∀ z ∈ zs, H z.1 = some (.lst ((rowN f z.2).map V.int))
theorem RowsZ.at {f : PF} {H : Hp} : ∀ {zs : List (Addr × Int)}, RowsZ f H zs → RowsAt H (zs.map (·.1)) ((zs.map (·.2)).map (rowN f))
  | [], _ => trivial
  | z :: zs, h => ⟨h z List.mem_cons_self, RowsZ.at fun x hx => h x (List.mem_cons_of_mem _ hx)⟩
/-! ### data that may be compared -/
end My
namespace My
open PySem L2 U StX PM
theorem SqL.same {K : PySem.W.Frag} {H H' : Hp} {a : Addr} {xs : List V} (h : SqL K H a xs) (s : Same H H') : SqL K H' a xs := by
  rcases h with (h | ⟨o, h⟩) | h
  · exact .inl (.inl (s _ _ h))
  · exact .inl (.inr ⟨o, s _ _ h⟩)
  · exact .inr h
theorem Same.off {H H1 H2 : Hp} {p : Addr} (s : Same H H1) (o : Off p H1 H2) (h : H p = none) : Same H H2 := fun b u e => o b u (ne_of_none e h) (s b u e)
theorem yes_ {σ : L2.St} {H : Hp} {A B : Hp → Prop} (h : A H) : tYes σ H (fun b H3 => if b = true then A H3 else B H3) := by
  show (if true = true then A H else B H)
  rw [if_pos rfl]
  exact h
theorem PoolAt.same {H H' : Hp} {p : Addr} (h : PoolAt H p) (s : Same H H') : PoolAt H' p := by
  obtain ⟨a, b, e, r⟩ := h
  exact ⟨a, b, s _ _ e, r⟩
theorem PoolAt.lst {H : Hp} {p : Addr} (h : PoolAt H p) : ∃ xs, H p = some (.lst xs) := by
  obtain ⟨a, b, e, r⟩ := h
  exact ⟨_, e⟩
theorem PoolAt.ne {H : Hp} {p q : Addr} (h : PoolAt H p) (hq : H q = none) : p ≠ q := by
  obtain ⟨xs, e⟩ := h.lst
  exact ne_of_none e hq
def spLaw (K : PySem.W.Frag) : Sp := fun vs H Q _ => ∃ (a : Addr) (ns : List Int), vs = [.ref a] ∧ SqL K H a (ns.map V.int) ∧ ns.length ≤ 63 ∧ ∀ H', Q (.bl true) H'
theorem IsMap.off {C p : Addr} {H H' : Hp} {m : Addr} {n : Int} {f : PF} (a : IsMap C H m n f) (o : Off p H H') (h : ∃ xs, H p = some (.lst xs)) : IsMap C H' m n f := by
  obtain ⟨⟨dx, D, h1, h2⟩, wf, lo, hi⟩ := a
  obtain ⟨xs, h⟩ := h
  exact ⟨⟨dx, D, o _ _ (fun e => by rw [e, h] at h1; cases h1) h1, o _ _ (fun e => by rw [e, h] at h2; cases h2) h2⟩, wf, lo, hi⟩
/-- Map(n, d) -/
theorem init_of {C : Addr} {H : Hp} {d : Addr} {n : Int} {l : List (Int × Int)} {f : PF} {R : VK} {E : XK} {x dx : Addr} (hd : H d = some (.dK (kvI l))) (di : DI l f) (wf : WF n f) (h1 : 1 ≤ n) (h3 : n ≤ 300) (hl : l.length ≤ 1000)
    (hx : H x = none) (hdx : H dx = none) (ne : dx ≠ x) (q : ∀ H', Same H H' → IsMap C H' x n f → R .non H') :
    spInit C [.ref x, .int n, .ref d] (upd (upd H dx (.own x)) x (.ins C dx [])) R E := by
  have s0 : Same H (upd (upd H dx (.own x)) x (.ins C dx [])) := fun b o e => by
    rw [upd_ne (ne_of_none e hx), upd_ne (ne_of_none e hdx)]
    exact e
  refine ⟨x, dx, d, n, l, f, rfl, upd_same, s0 _ _ hd, di, wf, h1, h3, hl, fun H' D o nD hp hD => ?_⟩
  exact q H' (fun b u e => o b u (ne_of_none e hx) (s0 b u e)) ⟨⟨dx, D, hp, hD⟩, wf, h1, h3⟩
/-- the law's draw, told by the pool alone -/
theorem draw_of {H : Hp} {p : Addr} {n : Int} {Q : VK} {E : XK} (h : PoolAt H p) (n0 : 0 < n) (n1 : n < 1073741824) (k : ∀ r H', 0 ≤ r → r < n → PoolAt H' p → Off p H H' → (∃ xs, H' = upd H p (.lst xs)) → Q (.int r) H') : spDraw [.ref p, .int n] H Q E := by
  obtain ⟨a, b, e, ha, hb, hc⟩ := h
  exact ⟨p, a, b, n, rfl, e, ha, hb, hc, n0, n1, fun a' b' r h1 h2 h3 h4 h5 => k r _ h4 h5 ⟨a', b', upd_same, h1, h2, h3⟩ Off.lock ⟨_, rfl⟩⟩
end My
namespace My
open PySem L2 U StX PM
theorem paired_at {α β : Type} {R : α → β → Prop} {xs : List α} {ys : List β} (h : Paired R xs ys) {i : Nat} {x : α} (e : xs[i]? = some x) : ∃ y, ys[i]? = some y ∧ R x y := by
  induction h generalizing i with
  | nil => cases e
  | cons r _ ih =>
    cases i with
    | zero => cases e; exact ⟨_, rfl, r⟩
    | succ i => exact ih e
theorem paired_len {α β : Type} {R : α → β → Prop} {xs : List α} {ys : List β} (h : Paired R xs ys) : xs.length = ys.length := by
  induction h with
  | nil => rfl
  | cons _ _ ih => rw [List.length_cons, List.length_cons, ih]
theorem PoolAt.put {H : Hp} {p q : Addr} {o : HO} (h : PoolAt H p) (n : p ≠ q) : PoolAt (upd H q o) p := by
  obtain ⟨a, b, e, r⟩ := h
  exact ⟨a, b, by rw [upd_ne n]; exact e, r⟩
theorem draw_R {i : Nat} {tb : TE} {σ : L2.St} {H : Hp} {Q : VK} {p : Addr} {n : Int} (hi : σ[i]? = some (some (.ref p))) (hb : ∀ R : VK, R (.int n) H → tb σ H R) (h : PoolAt H p) (n0 : 0 < n) (n1 : n < 1073741824)
    (k : ∀ r H', 0 ≤ r → r < n → PoolAt H' p → Off p H H' → Q (.int r) H') : tCallR spDraw E0 (tCons (tVar i) (tCons tb tNil)) σ H Q :=
  ⟨_, hi, hb _ (draw_of (E := E0) h n0 n1 fun r H' h1 h2 h3 h4 _ => k r H' h1 h2 h3 h4)⟩
theorem dgetL {H : Hp} {d : Addr} {l : List (Int × Int)} {f : PF} (h : H d = some (.dK (kvI l))) (di : DI l f) (i : Int) : DGet H d (.int i) ((f i).map V.int) := by
  have := DGet.k (k := Sum.inl i) h
  rw [valV_kvI, di.at_] at this
  exact this
end My
namespace My
open PySem L2 U StX PM
theorem nonMapV.same {H H' : Hp} {x : V} (h : nonMapV H x) (s : L2.Same H H') : nonMapV H' x := by
  cases x with
  | ref b =>
    rcases h with ⟨xs, e⟩ | ⟨xs, e⟩ | ⟨xs, e⟩
    · exact .inl ⟨_, s _ _ e⟩
    · exact .inr (.inl ⟨_, s _ _ e⟩)
    · exact .inr (.inr ⟨_, s _ _ e⟩)
  | _ => exact h
end My
namespace My
open PySem L2 U StX PM
/-! ### dict([(a, b) for x, y in d.items() if ..]) -/
theorem _root_.PySem.Paired.map {α β : Type} {R S : α → β → Prop} : ∀ {xs : List α} {ys : List β}, Paired R xs ys → (∀ x ∈ xs, ∀ y, R x y → S x y) → Paired S xs ys
  | _, _, .nil, _ => .nil
  | _, _, .cons h r, k => .cons (k _ List.mem_cons_self _ h) (PySem.Paired.map r fun x hx => k x (List.mem_cons_of_mem _ hx))
end My
namespace My
open PySem L2 U StX PM
section
variable {P : Program} {w : World} {K : PySem.W.Frag} {mg : Str → Option Value} {base : Heap}
theorem ok_ini_InvalidNumber (T : Txt K mg) : FnR P w K mg base CX0 1 T.f_InvalidNumber__init (spIni1 T.C_InvalidNumber "value") := by
  refine T.A_InvalidNumber__init.ok sc_InvalidNumber__init (fun vs H Q E h => ?_) (fun cdv A outer s H vs Q E hr h => ?_)
  · obtain ⟨a, v, rfl, _⟩ := h
    rfl
  · obtain ⟨a, v, rfl, ha, q⟩ := h
    refine ⟨_, pss_one (ps_ostG (pv 0) (pv 1)), ?_⟩
    exact ⟨_, rfl, _, rfl, a, T.C_InvalidNumber, rfl, T.x_InvalidNumber, T.na_value_InvalidNumber, .inl ⟨ha, fun dx h1 h2 => q dx h1 h2⟩⟩
/-! ### repr while an exception is handled -/
/-! ### what repr says of a value -/
end
end My
namespace My
open PySem L2 U StX PM
/-! ### texts of plain signs -/
def OkS (x : Str) : Prop := PyData.strOk x = true
end My
local macro_rules | `(tactic| array_get_dec) => `(tactic| first | assumption | exact L2.upd_same | (refine U.carryNew (by assumption) ?_; array_get_dec) | (refine U.carry (by assumption) ?_; array_get_dec))
local macro_rules | `(tactic| array_mem_dec) => `(tactic| first | exact L2.Same.refl _ | assumption | (refine U.sameUp (by assumption) ?_; array_mem_dec) | (refine U.sameVia (by assumption) ?_; array_mem_dec))
local macro_rules | `(tactic| sizeOf_list_dec) => `(tactic| first | assumption | (refine U.freeVia (by assumption) ?_; sizeOf_list_dec) | (refine U.freeUp (o := _) (q := _) ?_; assumption))
local macro_rules | `(tactic| deriving_LawfulEq_tactic_step) => `(tactic| first | exact rfl | exact U.nil_le | exact U.one_le | exact U.two_le | exact U.three_le | exact L2.SqL.of (by array_get_dec) | exact L2.SqT.of (by array_get_dec) | exact ⟨_, L2.SqL.of (by array_get_dec)⟩ | exact ⟨_, L2.SqT.of (by array_get_dec)⟩ | exact Or.inl (by array_get_dec) | array_get_dec)
local macro_rules | `(tactic| and_intros) => `(tactic| repeat (first | refine And.intro (by deriving_LawfulEq_tactic_step) ?_ | (apply Exists.intro; refine And.intro (by deriving_LawfulEq_tactic_step) ?_) | (apply Exists.intro; apply Exists.intro; refine And.intro (by deriving_LawfulEq_tactic_step) ?_) | (apply Exists.intro; apply Exists.intro; apply Exists.intro; refine And.intro (by deriving_LawfulEq_tactic_step) ?_) | (apply Exists.intro; apply Exists.intro; apply Exists.intro; apply Exists.intro; refine And.intro (by deriving_LawfulEq_tactic_step) ?_)))
namespace My
open PySem L2 U StX PM
/-! ### several maps -/
def MapsAt (C : Addr) (H : Hp) (n : Int) (xs : List V) (fs : List PF) : Prop := Paired (fun v f => ∃ a, v = V.ref a ∧ IsMap C H a n f) xs fs
theorem MapsAt.same {C : Addr} {H H' : Hp} {n : Int} {xs : List V} {fs : List PF} (h : MapsAt C H n xs fs) (s : Same H H') : MapsAt C H' n xs fs := PySem.Paired.map h fun v _ f ⟨a, e, m⟩ => ⟨a, e, m.same s⟩
theorem MapsAt.get {C : Addr} {H : Hp} {n : Int} {xs : List V} {fs : List PF} (h : MapsAt C H n xs fs) {i : Nat} {v : V} (e : xs[i]? = some v) : ∃ a f, v = .ref a ∧ fs[i]? = some f ∧ IsMap C H a n f := by
  obtain ⟨f, e2, a, e3, m⟩ := paired_at h e
  exact ⟨a, f, e3, e2, m⟩
end My
namespace My
open PM
/-! ### maps made of blocks, one behind the other -/
/-! ### its rows -/
theorem asc_eq : ∀ {l m : List Int}, l.Pairwise (· < ·) → m.Pairwise (· < ·) → (∀ x, x ∈ l ↔ x ∈ m) → l = m
  | [], [], _, _, _ => rfl
  | [], b :: m, _, _, h => absurd ((h b).mpr List.mem_cons_self) (by simp)
  | a :: l, [], _, _, h => absurd ((h a).mp List.mem_cons_self) (by simp)
  | a :: l, b :: m, h1, h2, h => by
    rw [List.pairwise_cons] at h1 h2
    have e : a = b := by
      have ha := (h a).mp List.mem_cons_self
      have hb := (h b).mpr List.mem_cons_self
      rcases List.mem_cons.mp ha with ha | ha
      · exact ha
      · rcases List.mem_cons.mp hb with hb | hb
        · exact hb.symm
        · have := h1.1 _ hb
          have := h2.1 _ ha
          omega
    subst e
    rw [asc_eq h1.2 h2.2 fun x => ?_]
    constructor
    · intro hx
      rcases List.mem_cons.mp ((h x).mp (List.mem_cons_of_mem _ hx)) with e | e
      · have := h1.1 _ hx; omega
      · exact e
    · intro hx
      rcases List.mem_cons.mp ((h x).mpr (List.mem_cons_of_mem _ hx)) with e | e
      · have := h2.1 _ hx; omega
      · exact e
theorem sel_mem {f : PF} : ∀ {l b : List Int} {e : Int}, e ∈ selL f b l → e ∈ b ∨ ∃ l1 l2, l = l1 ++ e :: l2 ∧ e ∉ seenL f (selL f b l1)
  | [], b, e, h => .inl h
  | x :: l, b, e, h => by
    have h' : e ∈ selL f (stp f b x) l := h
    rcases sel_mem h' with h1 | ⟨l1, l2, rfl, hn⟩
    · unfold stp at h1
      by_cases hx : x ∈ seenL f b
      · rw [if_pos hx] at h1
        exact .inl h1
      · rw [if_neg hx] at h1
        rcases List.mem_append.mp h1 with h1 | h1
        · exact .inl h1
        · rw [List.mem_singleton] at h1
          subst h1
          exact .inr ⟨[], l, rfl, hx⟩
    · exact .inr ⟨x :: l1, l2, rfl, hn⟩
end My
namespace My
open PySem L2 U StX PM
/-! ### counts -/
def Bg : Int := ((2 ^ 1000 : Nat) : Int)
theorem Bg_ge : (10 ^ 60 : Int) ≤ Bg := by decide +kernel
theorem Bg_nat {x : Int} (h0 : 0 ≤ x) (h : x < Bg) : x.natAbs < 2 ^ 1000 := by
  unfold Bg at h
  omega
theorem Bg_mul {x y : Int} (h0 : 0 ≤ x) (h : x < Bg) (h1 : 0 ≤ y) (h2 : y < Bg) : CMulW x y := wide_mul (Bg_nat h0 h) (Bg_nat h1 h2) (by decide) (by decide) (by decide)
theorem Bg_div {x y : Int} (h1 : 0 < y) (h2 : y < Bg) : CDivW x y := wide_div h1 (Bg_nat (by omega) h2) (by decide) (by decide)
def Pos (l : List (Int × Int)) : Prop := ∀ p ∈ l, 0 < p.1 ∧ 0 < p.2 ∧ (p.1 < Bg ∧ p.2 < Bg)
def Asc (l : List (Int × Int)) : Prop := (l.map (·.1)).Pairwise (· < ·) ∧ Pos l
theorem Asc.nd {l : List (Int × Int)} (h : Asc l) : (l.map (·.1)).Nodup := nodup_of_lt h.1
theorem asc_uniq {l m : List (Int × Int)} (h1 : Asc l) (h2 : Asc m) (h : ∀ p, p ∈ l ↔ p ∈ m) : l = m := by
  have e := asc_eq h1.1 h2.1 fun x => by
    rw [List.mem_map, List.mem_map]
    constructor <;> rintro ⟨p, hp, rfl⟩
    · exact ⟨p, (h p).mp hp, rfl⟩
    · exact ⟨p, (h p).mpr hp, rfl⟩
  have d1 : DI l (lk l) := ⟨h1.nd, fun _ => rfl⟩
  have d2 : DI m (lk m) := ⟨h2.nd, fun _ => rfl⟩
  apply List.ext_getElem?
  intro i
  cases e1 : l[i]? with
  | none =>
    have : l.length = m.length := by have := congrArg List.length e; simpa using this
    rw [List.getElem?_eq_none_iff] at e1
    rw [List.getElem?_eq_none (by omega)]
  | some p =>
    have e2 : (l.map (·.1))[i]? = some p.1 := by rw [List.getElem?_map, e1]; rfl
    rw [e, List.getElem?_map] at e2
    cases e3 : m[i]? with
    | none => rw [e3] at e2; cases e2
    | some p' =>
      rw [e3] at e2
      have e4 : p'.1 = p.1 := Option.some.inj e2
      have a1 := d2.mem.mp ((h p).mp (List.mem_of_getElem? e1))
      have a2 := d2.mem.mp (List.mem_of_getElem? e3)
      rw [e4, a1] at a2
      have e5 := Option.some.inj a2
      congr 1
      exact Prod.ext e4.symm e5
def spAreC : Sp := fun vs H Q _ => ∃ (d : Addr) (l : List (Int × Int)), vs = [.ref d] ∧ H d = some (.dK (kvI l)) ∧ Pos l ∧ l.length ≤ 1000 ∧ ∀ H', Same H H' → Q (.bl true) H'
def spOrd : Sp := fun vs H Q _ => ∃ (d : Addr) (l : List (Int × Int)), vs = [.ref d] ∧ H d = some (.dK (kvI l)) ∧ (l.map (·.1)).Nodup ∧ Pos l ∧ l.length ≤ 1000 ∧ ∀ p cs H', Same H H' → H p = none → H' p = some (.dK (kvI cs)) → cs.Perm l → Asc cs → Q (.ref p) H'
/-- {x: .. for x in a list of ints that is made here} -/
theorem dc_intsX {K : PySem.W.Frag} {te : TE} {i : Nat} {tk tv : TE} {vs : List Nat} {σ : L2.St} {H0 : Hp} {Q : VK} (vf : Int → Int) (Φ : Addr → List Int → Hp → Prop) (hte : ∀ R : VK, (∀ a xs H, Φ a xs H → R (.ref a) H) → te σ H0 R) (ha : ∀ a xs H, Φ a xs H → H a = some (.lst (xs.map V.int)) ∧ xs.Nodup ∧ xs.length < sizeLine)
    (hw : ∀ a, wipe ((wipe σ vs).set i a) vs = wipe σ vs)
    (hk : ∀ (y : Int) (H1 : Hp) (R : VK), R (.int y) H1 → tk ((wipe σ vs).set i (some (.int y))) H1 R) (hv : ∀ a xs H, Φ a xs H → ∀ y ∈ xs, ∀ (H1 : Hp), L2.Same H H1 → ∀ (R : VK), R (.int (vf y)) H1 → tv ((wipe σ vs).set i (some (.int y))) H1 R)
    (hq : ∀ a xs H, Φ a xs H → ∀ D H', H D = none → H' D = some (.dK (kvI (xs.map fun x => (x, vf x)))) → L2.Same H H' → Q (.ref D) H') :
    tDc (iList K te) (gName i) tYes tk tv vs σ H0 Q := by
  refine hte _ fun a xs H φ => ?_
  obtain ⟨hx, nd, hz⟩ := ha a xs H φ
  refine ⟨a, rfl, ⟨_, SqL.of hx⟩, fun D hD => ?_⟩
  refine dc_it (walk_list (xs := xs.map V.int)) (fun k H' => L2.Same H H' ∧ H' D = some (.dK (kvI ((xs.take k).map fun x => (x, vf x))))) ⟨Same.new hD, upd_same⟩ (fun k H' _ p => SqL.of (p.1 _ _ hx)) ?_ ?_
  · rintro k v H' H'' hk1 ⟨p1, p2⟩ ⟨rfl, ev⟩
    rw [List.length_map] at hk1
    obtain ⟨y, ey⟩ : ∃ y, xs[k]? = some y := ⟨_, List.getElem?_eq_getElem hk1⟩
    have ev' : v = .int y := by
      have := get_map ey
      rw [this] at ev
      exact (Option.some.inj ev).symm
    subst ev'
    refine ⟨hw _, yes_ ?_⟩
    refine hk y _ _ (hv a xs H φ y (List.mem_of_getElem? ey) _ p1 _ ⟨_, Sum.inl y, rfl, p2, ?_, ?_, ?_⟩)
    · refine Nat.lt_of_le_of_lt ?_ hz
      rw [kvI_length, List.length_map, List.length_take]
      omega
    · exact Same.put p1 hD
    · have nin : y ∉ ((xs.take k).map fun x => (x, vf x)).map (·.1) := by
        rw [List.map_map]
        have : ((xs.take k).map ((fun p : Int × Int => p.1) ∘ fun x => (x, vf x))) = xs.take k := by
          rw [show ((fun p : Int × Int => p.1) ∘ fun x => (x, vf x)) = id from rfl, List.map_id]
        rw [this]
        intro hm
        have e2 : xs = xs.take k ++ xs.drop k := (List.take_append_drop k xs).symm
        rw [e2, List.nodup_append] at nd
        refine nd.2.2 y hm y (List.mem_iff_getElem?.mpr ⟨0, ?_⟩) rfl
        rw [List.getElem?_drop]
        exact ey
      rw [upd_same, putK_kvI nin, take_more ey, List.map_append]
      rfl
  · rintro H' ⟨p1, p2⟩
    rw [List.length_map, List.take_length] at p2
    exact hq a xs H φ D H' hD p2 p1
theorem keys_madeL (l : List (Int × Int)) : madeL (fun _ _ => true) (fun x _ => V.int x) l = (l.map (·.1)).map V.int := by
  unfold madeL
  rw [List.map_map, List.filter_eq_self.mpr fun _ _ => rfl]
  rfl
theorem ord_perm {l : List (Int × Int)} (nd : (l.map (·.1)).Nodup) {ns : List Int} (hp : ns.Perm (l.map (·.1))) (hs : ns.Pairwise (· ≤ ·)) : (ns.map fun x => (x, (lk l x).getD 0)).Perm l ∧ ((ns.map fun x => (x, (lk l x).getD 0)).map (·.1)).Pairwise (· < ·) := by
  have di : DI l (lk l) := ⟨nd, fun _ => rfl⟩
  have hnd : ns.Nodup := hp.nodup_iff.mpr nd
  constructor
  · have h1 := hp.map (fun x => (x, (lk l x).getD 0))
    refine h1.trans ?_
    rw [List.map_map]
    have : l.map ((fun x => (x, (lk l x).getD 0)) ∘ fun p : Int × Int => p.1) = l := by
      conv => rhs; rw [← List.map_id l]
      refine List.map_congr_left fun p hp' => ?_
      have := di.mem.mp (show (p.1, p.2) ∈ l from hp')
      show (p.1, (lk l p.1).getD 0) = p
      rw [this]
      rfl
    rw [this]
  · rw [List.map_map, show ((fun p : Int × Int => p.1) ∘ fun x => (x, (lk l x).getD 0)) = id from rfl, List.map_id]
    have := List.Pairwise.and hs hnd
    exact this.imp fun {a b} h => by omega
section
variable {P : Program} {w : World} {K : PySem.W.Frag} {mg : Str → Option Value} {base : Heap}
theorem ok_are_counts (T : Txt K mg) : FnR P w K mg base CX0 3 T.f_are_counts spAreC := by
  refine T.A_are_counts.ok sc_are_counts (fun vs H Q E h => ?_) (fun cdv A outer s H vs Q E hr h => ?_)
  · obtain ⟨d, l, rfl, _⟩ := h
    rfl
  · obtain ⟨d, l, rfl, hd, hp, hl, q⟩ := h
    refine ⟨_, (pss_cons (ps_if (pt_not (pt_val (pe_callB call_isi (by rfl) T.n_isinstance (by decide +kernel) (pa_cons (pv 0) (pa_cons (pe_bltn (v := .ty "dict") (u := .type "dict") (by rfl) T.n_dict (by decide +kernel) rfl) pa_nil)))))
        (pss_one (ps_ret pe_bl)) pss_nil)
      (pss_one (ps_ret (pe_callB (cr_all rfl) (by rfl) T.n_all (by decide +kernel) (pa_cons (pe_lock (pe_lc (own := [("one", 1), ("number", 2)]) (g := (gTup K 2 (gCons (gName 1) (gCons (gName 2) gNil)))) (tt := tYes) rfl sc_are_counts.nd (pi_items (pv 0)) (blkOk_by (own := [("one", 1), ("number", 2)]) (N := n_are_counts) (sc := defScope s_are_counts) (by decide +kernel)) (fun _ _ _ _ _ => (pg_tup rfl (pgs_cons (pg_name (i := 1) sc_are_counts.nd rfl (Or.inl rfl)) (pgs_cons (pg_name (i := 2) sc_are_counts.nd rfl (Or.inl rfl)) pgs_nil)))) (fun _ _ _ _ _ => pts_nil) (fun _ _ _ _ _ => (pe_and (pe_callR (ok_is_integer T) (hr.mono (by decide)) T.A_is_integer.kp rfl T.g_is_integer pass0 (pa_cons (pv 1) pa_nil)) (pe_and (pe_callR (ok_is_integer T) (hr.mono (by decide)) T.A_is_integer.kp rfl T.g_is_integer pass0 (pa_cons (pv 2) pa_nil)) (pe_and (pe_cmpR op_gt (pv 1) pe_int (nomark _)) (pe_one (pe_cmpR op_gt (pv 2) pe_int (nomark _))))))))) pa_nil))))), ?_⟩
    refine ⟨_, rfl, _, _, _, _, true, rfl, .ty _, .base (.dK hd), kit_ty (by decide +kernel), _, rfl, iteF ?_⟩
    refine lc_items (fun _ _ => true) (fun x y => .bl true) hd (fun H' R r o => ⟨_, rfl, r⟩) (fun _ _ => rfl) (fun x y hxy H1 o => ⟨fun R r => r, fun _ R r => ?_⟩) (small1000 hl) (fun D H1 nD hD s1 => ?_)
    · obtain ⟨h1, h2, _⟩ := hp _ hxy
      dsimp only at h1 h2
      refine ⟨_, rfl, _, rfl, trivial, _, rfl, iteT ⟨_, rfl, _, rfl, trivial, _, rfl, iteT ⟨_, rfl, _, _, rfl, rfl, _, rfl, ?_⟩⟩⟩
      rw [decide_eq_true h1]
      refine iteT ⟨_, rfl, _, _, rfl, rfl, ?_⟩
      show R (.bl (decide (0 < y))) H1
      rw [decide_eq_true h2]
      exact r
    · refine ⟨D, List.replicate l.length true, rfl, SqL.of ?_, ?_⟩
      · rw [hD]
        congr 2
        unfold madeL
        simp [List.map_const']
      · have : (List.replicate l.length true).all id = true := List.all_eq_true.mpr fun x hx => by rw [List.eq_of_mem_replicate hx]; rfl
        rw [this]
        exact q H1 s1
theorem ok_ordered (T : Txt K mg) : FnR P w K mg base CX0 3 T.f_ordered spOrd := by
  refine T.A_ordered.ok sc_ordered (fun vs H Q E h => ?_) (fun cdv A outer s H vs Q E hr h => ?_)
  · obtain ⟨d, l, rfl, _⟩ := h
    rfl
  · obtain ⟨d, l, rfl, hd, nd, hp, hl, q⟩ := h
    have hu := hu_of hr
    refine ⟨_, (pss_one (ps_ret (pe_dc (own := [("length", 1)]) (g := (gName 1)) (tt := tYes) rfl sc_ordered.nd (pi_list (pe_callB cr_sortedI (by rfl) T.n_sorted (by decide +kernel) (pa_cons (pe_lock (pe_lc (own := [("length", 1)]) (g := (gName 1)) (tt := tYes) rfl sc_ordered.nd (pi_keys (pv 0)) (blkOk_by (own := [("length", 1)]) (N := n_ordered) (sc := defScope s_ordered) (by decide +kernel)) (fun _ _ _ _ _ => (pg_name (i := 1) sc_ordered.nd rfl (Or.inl rfl))) (fun _ _ _ _ _ => pts_nil) (fun _ _ _ _ _ => (pe_callTy call_int1 (by rfl) T.n_int (by decide +kernel) (pa_cons (pv 1) pa_nil))))) pa_nil))) (blkOk_by (own := [("length", 1)]) (N := n_ordered) (sc := defScope s_ordered) (by decide +kernel)) (fun _ _ _ _ _ => (pg_name (i := 1) sc_ordered.nd rfl (Or.inl rfl))) (fun _ _ _ _ _ => pts_nil) (fun _ _ _ _ _ => (pv 1)) (fun _ _ _ _ _ => (pe_dget hu (pv 0) (pv 1) (fun _ _ => rfl)))))), ?_⟩
    refine dc_intsX (fun x => (lk l x).getD 0) (fun a xs H' => H' a = some (.lst (xs.map V.int)) ∧ xs.Perm (l.map (·.1)) ∧ xs.Pairwise (· ≤ ·) ∧ Same H H') (fun R rr => ?_) (fun a xs H' ⟨e, hp', _, _⟩ => ⟨e, hp'.nodup_iff.mpr nd, ?_⟩) (fun _ => rfl) (fun y H1 R r => ⟨_, rfl, r⟩) (fun a xs H' ⟨e, hp', _, s'⟩ y hy H1 s1 R r => ?_) (fun a xs H' ⟨e, hp', hs', s'⟩ D H1 nD hD s1 => ?_)
    · refine lc_keys (fun _ => true) (fun x => .int x) hd (fun H' R r o => ⟨_, rfl, r⟩) (fun _ => rfl) (fun x H1 o => ⟨fun R r => r, fun R r => ?_⟩) (small1000 hl) (fun D H1 nD hD s1 => ?_)
      · exact ⟨_, rfl, .inl ⟨_, rfl, r⟩⟩
      · rw [keys_madeL] at hD
        exact ⟨D, _, rfl, SqL.of hD, fun ns' p hp' hs' np => rr p ns' _ ⟨upd_same, hp', hs', s1.trans (Same.new np)⟩⟩
    · have := hp'.length_eq
      rw [List.length_map] at this
      exact small1000 (by omega)
    · have hm : y ∈ l.map (·.1) := hp'.mem_iff.mp hy
      obtain ⟨⟨y', z⟩, hz, rfl⟩ := List.mem_map.mp hm
      have di : DI l (lk l) := ⟨nd, fun _ => rfl⟩
      have e1 := di.mem.mp hz
      have g := dgetL (s1 _ _ (s' _ _ hd)) di y'
      dsimp only at r ⊢
      rw [e1] at g r
      exact ⟨_, rfl, _, rfl, d, .int z, rfl, g, r⟩
    · obtain ⟨o1, o2⟩ := ord_perm nd hp' hs'
      exact q D _ H1 (s'.trans s1) (s'.free nD) hD o1 ⟨o2, fun p hp2 => hp p (o1.mem_iff.mp hp2)⟩
end
end My
namespace My
open PySem L2 U StX PM
/-! ### shapes -/
def shf (D1 D2 : Addr) : List (Str × V) := [("own_cycles", .ref D1), ("own_chains", .ref D2)]
structure IsShape (C : Addr) (H : Hp) (s : Addr) (cs hs : List (Int × Int)) : Prop where
  ob : ∃ dx D1 D2, H s = some (.ins C dx (shf D1 D2)) ∧ H D1 = some (.dK (kvI cs)) ∧ H D2 = some (.dK (kvI hs))
  a1 : Asc cs
  a2 : Asc hs
  l1 : cs.length ≤ 1000
  l2 : hs.length ≤ 1000
theorem IsShape.same {C : Addr} {H H' : Hp} {s : Addr} {cs hs : List (Int × Int)} (h : IsShape C H s cs hs) (x : Same H H') : IsShape C H' s cs hs := by
  obtain ⟨⟨dx, D1, D2, h1, h2, h3⟩, a1, a2, l1, l2⟩ := h
  exact ⟨⟨dx, D1, D2, x _ _ h1, x _ _ h2, x _ _ h3⟩, a1, a2, l1, l2⟩
theorem Off.ofS {p : Addr} {H H' : Hp} (s : Same H H') : Off p H H' := fun _ _ _ h => s _ _ h
theorem stF {p : Addr} {H H' : Hp} {o : HO} (g : upd H p o = H') : Off p H H' ∧ H' p = some o := by
  subst g
  exact ⟨Off.lock, upd_same⟩
def spInitSh (C : Addr) : Sp := fun vs H Q _ => ∃ (s dx d1 d2 : Addr) (l1 l2 : List (Int × Int)), vs = [.ref s, .ref d1, .ref d2] ∧ H s = some (.ins C dx []) ∧ H d1 = some (.dK (kvI l1)) ∧ H d2 = some (.dK (kvI l2)) ∧ (l1.map (·.1)).Nodup ∧ (l2.map (·.1)).Nodup ∧ Pos l1 ∧ Pos l2 ∧ l1.length ≤ 1000 ∧ l2.length ≤ 1000 ∧
  ∀ cs hs H', Off s H H' → cs.Perm l1 → hs.Perm l2 → IsShape C H' s cs hs → Q .non H'
def spShD (C : Addr) (pick : List (Int × Int) → List (Int × Int) → List (Int × Int)) : Sp := fun vs H Q _ => ∃ (s : Addr) (cs hs : List (Int × Int)), vs = [.ref s] ∧ IsShape C H s cs hs ∧ ∀ p, H p = none → Q (.ref p) (upd H p (.dK (kvI (pick cs hs))))
def szL (l : List (Int × Int)) : Int := (l.map fun p => p.1 * p.2).sum
def spShSz (C : Addr) : Sp := fun vs H Q _ => ∃ (s : Addr) (cs hs : List (Int × Int)), vs = [.ref s] ∧ IsShape C H s cs hs ∧ ∀ H', Same H H' → Q (.int (szL cs + szL hs)) H'
def spShEq (C : Addr) : Sp := fun vs H Q _ => ∃ (a b : Addr) (cs hs cs' hs' : List (Int × Int)), vs = [.ref a, .ref b] ∧ IsShape C H a cs hs ∧ IsShape C H b cs' hs' ∧ cs = cs' ∧ hs = hs' ∧ Q (.bl true) H
theorem small1000' {k : Nat} (h : k ≤ 2000) : k < sizeLine := lt_line (by omega)
/-- [.. for a, b in a list of pairs] -/
theorem lc_prs {K : PySem.W.Frag} {te : TE} {i j : Nat} {tv : TE} {vs : List Nat} {σ : L2.St} {H : Hp} {Q : VK} {ts : List Addr} {l : List (Int × Int)} {a : Addr} (vf : Int → Int → Int) (hte : ∀ R : VK, R (.ref a) H → te σ H R) (ha : H a = some (.lst (ts.map V.ref))) (hp : Paired (fun t (p : Int × Int) => H t = some (.tup [.int p.1, .int p.2])) ts l) (hw : ∀ a b, wipe (((wipe σ vs).set i a).set j b) vs = wipe σ vs)
    (hb : ∀ x y, (x, y) ∈ l → ∀ H1, L2.Same H H1 → ∀ R : VK, R (.int (vf x y)) H1 → tv (((wipe σ vs).set i (some (.int x))).set j (some (.int y))) H1 R) (hz : l.length < sizeLine)
    (hq : ∀ D H', H D = none → H' D = some (.lst ((l.map fun p => vf p.1 p.2).map V.int)) → L2.Same H H' → Q (.ref D) H') : tLc (iList K te) (gTup K 2 (gCons (gName i) (gCons (gName j) gNil))) tYes tv vs σ H Q := by
  refine hte _ ⟨a, rfl, ⟨_, SqL.of ha⟩, fun D hD => ?_⟩
  have hln := paired_len hp
  refine lc_it (walk_list (xs := ts.map V.ref)) (fun k H' => L2.Same H H' ∧ H' D = some (.lst (((l.take k).map fun p => vf p.1 p.2).map V.int))) ⟨Same.new hD, upd_same⟩ (fun k H' _ p => SqL.of (p.1 _ _ ha)) ?_ ?_
  · rintro k v H' H'' hk ⟨s1, e1⟩ ⟨rfl, ev⟩
    rw [List.length_map] at hk
    rw [List.getElem?_map] at ev
    cases e : ts[k]? with
    | none => rw [e] at ev; cases ev
    | some t =>
      rw [e] at ev
      cases ev
      obtain ⟨⟨x, y⟩, ep, ht⟩ := paired_at hp e
      refine ⟨t, [.int x, .int y], rfl, SqT.of (s1 _ _ ht), rfl, .int x, [.int y], rfl, .int y, [], rfl, rfl, ?_⟩
      refine ⟨hw _ _, yes_ ?_⟩
      refine hb x y (List.mem_of_getElem? ep) _ s1 _ ⟨_, e1, ?_, Same.put s1 hD, ?_⟩
      · rw [List.length_map, List.length_map, List.length_take]
        omega
      · rw [upd_same, take_more ep, List.map_append, List.map_append]
        rfl
  · rintro H' ⟨s1, e1⟩
    rw [List.length_map, hln, List.take_length] at e1
    exact hq D H' hD e1 s1
theorem paired_kvI {H : Hp} : ∀ {ts : List Addr} {l : List (Int × Int)}, Paired (fun (t : Addr) (q : Key × V) => H t = some (.tup [kV q.1, q.2])) ts (kvI l) → Paired (fun t (p : Int × Int) => H t = some (.tup [.int p.1, .int p.2])) ts l
  | [], [], _ => .nil
  | t :: ts, p :: l, h => by
    cases h with
    | cons a r => exact .cons a (paired_kvI r)
  | [], _ :: _, h => by cases h
  | _ :: _, [], h => by cases h
theorem paired_app2 {α β : Type} {R : α → β → Prop} : ∀ {xs : List α} {ys : List β} {xs' : List α} {ys' : List β}, Paired R xs ys → Paired R xs' ys' → Paired R (xs ++ xs') (ys ++ ys')
  | [], [], _, _, _, h => h
  | _ :: _, _ :: _, _, _, .cons a r, h => .cons a (paired_app2 r h)
section
variable {P : Program} {w : World} {K : PySem.W.Frag} {mg : Str → Option Value} {base : Heap}
theorem ok_sh_init (T : Txt K mg) : FnR P w K mg base CX0 5 T.f_Shape__init (spInitSh T.C_Shape) := by
  refine T.A_Shape__init.ok sc_Shape__init (fun vs H Q E h => ?_) (fun cdv A outer s H vs Q E hr h => ?_)
  · obtain ⟨s, dx, d1, d2, l1, l2, rfl, _⟩ := h
    rfl
  · obtain ⟨s, dx, d1, d2, l1, l2, rfl, hs, hd1, hd2, n1, n2, p1, p2, b1, b2, q⟩ := h
    refine ⟨_, (pss_cons (ps_if (pt_not (pt_val (pe_callR (ok_are_counts T) (hr.mono (by decide)) T.A_are_counts.kp rfl T.g_are_counts pass0 (pa_cons (pv 1) pa_nil))))
        (pss_one ps_never) pss_nil)
      (pss_cons (ps_if (pt_not (pt_val (pe_callR (ok_are_counts T) (hr.mono (by decide)) T.A_are_counts.kp rfl T.g_are_counts pass0 (pa_cons (pv 2) pa_nil))))
        (pss_one ps_never) pss_nil)
      (pss_cons (ps_fld (pv 0) (pe_callR (ok_ordered T) (hr.mono (by decide)) T.A_ordered.kp rfl T.g_ordered pass0 (pa_cons (pv 1) pa_nil)) rfl)
      (pss_one (ps_fld (pv 0) (pe_callR (ok_ordered T) (hr.mono (by decide)) T.A_ordered.kp rfl T.g_ordered pass0 (pa_cons (pv 2) pa_nil)) rfl))))), ?_⟩
    refine ⟨_, rfl, d1, l1, rfl, hd1, p1, b1, fun H1 s1 => ⟨_, rfl, iteF ?_⟩⟩
    refine ⟨_, rfl, d2, l2, rfl, s1 _ _ hd2, p2, b2, fun H2 s2 => ⟨_, rfl, iteF ?_⟩⟩
    have s12 := s1.trans s2
    refine ⟨_, rfl, d1, l1, rfl, s12 _ _ hd1, n1, p1, b1, fun D1 cs H3 s3 nD1 hD1 pm1 as1 => ?_⟩
    have s13 := s12.trans s3
    have hs3 := s13 _ _ hs
    refine ⟨_, rfl, s, _, dx, _, rfl, hs3, T.o_Shape.cl, T.na_own_cycles_Shape, (by show 0 < 1000; decide), ?_⟩
    generalize g4 : upd _ s _ = H4
    obtain ⟨o4, e4⟩ := stF g4
    clear g4
    have nd2 : d2 ≠ s := ne_of hd2 hs (by intro z; cases z)
    have hd24 := o4 _ _ nd2 (s13 _ _ hd2)
    have nD1s : D1 ≠ s := (ne_of_none (s12 _ _ hs) nD1).symm
    have hD14 := o4 _ _ nD1s hD1
    refine ⟨_, rfl, d2, l2, rfl, hd24, n2, p2, b2, fun D2 hs' H5 s5 nD2 hD2 pm2 as2 => ?_⟩
    refine ⟨_, rfl, s, _, dx, _, rfl, s5 _ _ e4, T.o_Shape.cl, T.na_own_chains_Shape, (by show 1 < 1000; decide), ?_⟩
    generalize g6 : upd _ s _ = H6
    obtain ⟨o6, e6⟩ := stF g6
    clear g6
    have nD2s : D2 ≠ s := (ne_of_none e4 nD2).symm
    refine q cs hs' H6 ((((Off.ofS s13).tr o4).tr (Off.ofS s5)).tr o6) pm1 pm2 ⟨⟨dx, D1, D2, e6, o6 _ _ nD1s (s5 _ _ hD14), o6 _ _ nD2s hD2⟩, as1, as2, by rw [pm1.length_eq]; exact b1, by rw [pm2.length_eq]; exact b2⟩
theorem ok_sh_cycles (T : Txt K mg) : FnR P w K mg base CX0 1 T.f_Shape_cycles (spShD T.C_Shape fun cs _ => cs) := by
  refine T.A_Shape_cycles.ok sc_Shape_cycles (fun vs H Q E h => ?_) (fun cdv A outer s H vs Q E hr h => ?_)
  · obtain ⟨s, cs, hs, rfl, _⟩ := h
    rfl
  · obtain ⟨s, cs, hs, rfl, ⟨⟨dx, D1, D2, h1, h2, h3⟩, _⟩, q⟩ := h
    refine ⟨_, (pss_one (ps_ret (pe_callTy call_dictD (by rfl) T.n_dict (by decide +kernel) (pa_cons (pe_fld (pv 0) rfl) pa_nil)))), ?_⟩
    exact ⟨_, rfl, s, _, dx, _, _, rfl, h1, T.o_Shape.cl, T.na_own_cycles_Shape, rfl, D1, _, rfl, .inl h2, fun p np => q p np⟩
theorem ok_sh_chains (T : Txt K mg) : FnR P w K mg base CX0 1 T.f_Shape_chains (spShD T.C_Shape fun _ hs => hs) := by
  refine T.A_Shape_chains.ok sc_Shape_chains (fun vs H Q E h => ?_) (fun cdv A outer s H vs Q E hr h => ?_)
  · obtain ⟨s, cs, hs, rfl, _⟩ := h
    rfl
  · obtain ⟨s, cs, hs, rfl, ⟨⟨dx, D1, D2, h1, h2, h3⟩, _⟩, q⟩ := h
    refine ⟨_, (pss_one (ps_ret (pe_callTy call_dictD (by rfl) T.n_dict (by decide +kernel) (pa_cons (pe_fld (pv 0) rfl) pa_nil)))), ?_⟩
    exact ⟨_, rfl, s, _, dx, _, _, rfl, h1, T.o_Shape.cl, T.na_own_chains_Shape, rfl, D2, _, rfl, .inl h3, fun p np => q p np⟩
theorem ok_sh_size (T : Txt K mg) : FnR P w K mg base CX0 2 T.f_Shape_size (spShSz T.C_Shape) := by
  refine T.A_Shape_size.ok sc_Shape_size (fun vs H Q E h => ?_) (fun cdv A outer s H vs Q E hr h => ?_)
  · obtain ⟨s, cs, hs, rfl, _⟩ := h
    rfl
  · obtain ⟨s, cs, hs, rfl, ⟨⟨dx, D1, D2, h1, h2, h3⟩, as1, as2, b1, b2⟩, q⟩ := h
    refine ⟨_, (pss_cons (ps_set (i := 1) sc_Shape_size.nd rfl (Or.inl rfl) (pe_op op_cat (pe_itemsR rfl (pe_fld (pv 0) rfl) rfl T.n_list (by decide +kernel)) (pe_itemsR rfl (pe_fld (pv 0) rfl) rfl T.n_list (by decide +kernel))))
      (pss_one (ps_ret (pe_callB (cr_sum rfl) (by rfl) T.n_sum (by decide +kernel) (pa_cons (pe_lc (own := [("length", 2), ("number", 3)]) (g := (gTup K 2 (gCons (gName 2) (gCons (gName 3) gNil)))) (tt := tYes) rfl sc_Shape_size.nd (pi_list (pv 1)) (blkOk_by (own := [("length", 2), ("number", 3)]) (N := n_Shape_size) (sc := defScope s_Shape_size) (by decide +kernel)) (fun _ _ _ _ _ => (pg_tup rfl (pgs_cons (pg_name (i := 2) sc_Shape_size.nd rfl (Or.inl rfl)) (pgs_cons (pg_name (i := 3) sc_Shape_size.nd rfl (Or.inl rfl)) pgs_nil)))) (fun _ _ _ _ _ => pts_nil) (fun _ _ _ _ _ => (pe_op L2.op_mulW (pv 2) (pv 3)))) pa_nil))))), ?_⟩
    refine ⟨_, rfl, s, _, dx, _, _, rfl, h1, T.o_Shape.cl, T.na_own_cycles_Shape, rfl, D1, _, rfl, .inl h2, fun H1 p1 ts1 x1 np1 _ _ hp1 pr1 => ?_⟩
    refine ⟨_, rfl, s, _, dx, _, _, rfl, x1 _ _ h1, T.o_Shape.cl, T.na_own_chains_Shape, rfl, D2, _, rfl, .inl (x1 _ _ h3), fun H2 p2 ts2 x2 np2 _ _ hp2 pr2 => ?_⟩
    have lt1 := paired_len pr1
    have lt2 := paired_len pr2
    rw [kvI_length] at lt1 lt2
    refine ⟨p1, p2, _, _, rfl, rfl, x2 _ _ hp1, hp2, le_line (by simp only [List.length_append, List.length_map]; omega), ?_⟩
    refine fun p3 n_p3 => ?_
    generalize g_p3 : L2.upd _ p3 _ = H3
    obtain ⟨s_H3, e_p3⟩ := U.upd_facts g_p3 n_p3
    clear g_p3
    have e3 : H3 p3 = some (.lst ((ts1 ++ ts2).map V.ref)) := by rw [e_p3, List.map_append]
    have pr : Paired (fun t (p : Int × Int) => H3 t = some (.tup [.int p.1, .int p.2])) (ts1 ++ ts2) (cs ++ hs) := paired_app2 ((paired_kvI pr1).map fun _ _ _ e => s_H3 _ _ (x2 _ _ e)) ((paired_kvI pr2).map fun _ _ _ e => s_H3 _ _ e)
    dsimp only [gName, tRet, tCB, tCons, tNil]
    refine lc_prs (fun x y => x * y) (fun R r => ⟨_, rfl, r⟩) e3 pr (fun _ _ => rfl) (fun x y hxy H4 s4 R r => ?_) (small1000' (by rw [List.length_append]; omega)) (fun D H4 nD hD s4 => ?_)
    · have hb : CMulW x y := by
        rcases List.mem_append.mp hxy with h | h
        · obtain ⟨h1, h2, h3, h4⟩ := as1.2 _ h; exact Bg_mul (Int.le_of_lt h1) h3 (Int.le_of_lt h2) h4
        · obtain ⟨h1, h2, h3, h4⟩ := as2.2 _ h; exact Bg_mul (Int.le_of_lt h1) h3 (Int.le_of_lt h2) h4
      exact ⟨_, rfl, _, rfl, _, _, rfl, rfl, hb, r⟩
    · refine ⟨D, _, rfl, SqL.of hD, ?_⟩
      have : ((cs ++ hs).map fun p => p.1 * p.2).sum = szL cs + szL hs := by
        rw [List.map_append, List.sum_append]
        rfl
      rw [this]
      exact q H4 (((show Same H H1 from x1).trans x2).trans (s_H3.trans s4))
theorem ok_sh_eq (T : Txt K mg) : FnR P w K mg base CX0 2 T.f_Shape__eq (spShEq T.C_Shape) := by
  refine T.A_Shape__eq.ok sc_Shape__eq (fun vs H Q E h => ?_) (fun cdv A outer s H vs Q E hr h => ?_)
  · obtain ⟨a, b, cs, hs, cs', hs', rfl, _⟩ := h
    rfl
  · obtain ⟨a, b, cs, hs, cs', hs', rfl, ⟨⟨dx, D1, D2, h1, h2, h3⟩, as1, as2, _⟩, ⟨⟨dx', D1', D2', h1', h2', h3'⟩, _⟩, rfl, rfl, q⟩ := h
    refine ⟨_, (pss_cons (ps_if (pt_not (pt_val (pe_callB call_isi (by rfl) T.n_isinstance (by decide +kernel) (pa_cons (pv 1) (pa_cons (pe_glob (v := .ref T.C_Shape) rfl T.g_Shape rfl) pa_nil)))))
        (pss_one (ps_ret pe_bl)) pss_nil)
      (pss_one (ps_ret (pe_and (pe_cmpR (U.op_eqDI hr.units0) (pe_fld (pv 0) rfl) (pe_fld (pv 1) rfl) (nomark _)) (pe_one (pe_cmpR (U.op_eqDI hr.units0) (pe_fld (pv 0) rfl) (pe_fld (pv 1) rfl) (nomark _))))))), ?_⟩
    refine ⟨_, rfl, _, _, _, _, true, rfl, .own _, tyx_ins T.o_Shape h1', T.self_Shape, _, rfl, iteF ?_⟩
    refine ⟨_, rfl, a, _, dx, _, _, rfl, h1, T.o_Shape.cl, T.na_own_cycles_Shape, rfl, _, rfl, b, _, dx', _, _, rfl, h1', T.o_Shape.cl, T.na_own_cycles_Shape, rfl, D1, D1', _, _, rfl, rfl, h2, h2', intVals_kvI _, intVals_kvI _, _, rfl, ?_⟩
    have di1 : DI cs (lk cs) := ⟨as1.nd, fun _ => rfl⟩
    have di2 : DI hs (lk hs) := ⟨as2.nd, fun _ => rfl⟩
    rw [dEq_di di1 di1]
    refine iteT ⟨_, rfl, a, _, dx, _, _, rfl, h1, T.o_Shape.cl, T.na_own_chains_Shape, rfl, _, rfl, b, _, dx', _, _, rfl, h1', T.o_Shape.cl, T.na_own_chains_Shape, rfl, D2, D2', _, _, rfl, rfl, h3, h3', intVals_kvI _, intVals_kvI _, ?_⟩
    rw [dEq_di di2 di2]
    exact q
end
end My
namespace My
open PySem L2 U StX PM
/-! ### counts of lengths -/
def cN (Ls : List Nat) (x : Int) : Nat := (Ls.filter fun L : Nat => decide ((L : Int) = x)).length
def cnt (Ls : List Nat) : PF := fun x => if cN Ls x = 0 then none else some (cN Ls x : Nat)
theorem cN_snoc (Ls : List Nat) (L : Nat) (x : Int) : cN (Ls ++ [L]) x = cN Ls x + if (L : Int) = x then 1 else 0 := by
  unfold cN
  rw [List.filter_append, List.length_append]
  by_cases h : (L : Int) = x
  · simp [h]
  · simp [h]
theorem cnt_get (Ls : List Nat) (x : Int) : (cnt Ls x).getD 0 = (cN Ls x : Nat) := by
  unfold cnt
  by_cases h : cN Ls x = 0
  · rw [if_pos h, h]; rfl
  · rw [if_neg h]; rfl
theorem cnt_snoc (Ls : List Nat) (L : Nat) : cnt (Ls ++ [L]) = fun z => if z = (L : Int) then some ((cnt Ls z).getD 0 + 1) else cnt Ls z := by
  funext z
  rw [cnt_get]
  unfold cnt
  rw [cN_snoc]
  by_cases h : z = (L : Int)
  · rw [if_pos h, if_pos h.symm, if_neg (by omega)]
    congr 1
  · have h' : ¬ ((L : Int) = z) := fun e => h e.symm
    simp only [if_neg h, if_neg h', Nat.add_zero]
theorem di_putZ {l : List (Int × Int)} {f : PF} (d : DI l f) (x y : Int) : ∃ l', putK (kvI l) (Sum.inl x : Key) (V.int y) = kvI l' ∧ l'.length ≤ l.length + 1 ∧ DI l' (fun z => if z = x then some y else f z) := by
  obtain ⟨l', e, hl, hn, hk⟩ := putK_lk (l := l) (x := x) (y := y)
  exact ⟨l', e, hl, hn d.nd, fun z => by rw [hk, d.at_]⟩
theorem getDI0 (o : Option Int) : ((o.map V.int).getD (V.int 0)) = V.int (o.getD 0) := by cases o <;> rfl
def spCnt : Sp := fun vs H Q _ => ∃ (a : Addr) (ps : List Addr) (rs : List (List Int)), vs = [.ref a] ∧ H a = some (.lst (ps.map V.ref)) ∧ RowsAt H ps rs ∧ ps.length ≤ 1000 ∧ ∀ p l H', Same H H' → H p = none → H' p = some (.dK (kvI l)) → DI l (cnt (rs.map (·.length))) → l.length ≤ 1000 → Q (.ref p) H'
theorem cnt_pos {Ls : List Nat} (h : ∀ L ∈ Ls, 1 ≤ L) (hx : ∀ L ∈ Ls, L ≤ 1000) (hl : Ls.length ≤ 1000) {l : List (Int × Int)} (d : DI l (cnt Ls)) : Pos l := by
  rintro ⟨x, y⟩ hp
  have e := d.mem.mp hp
  unfold cnt at e
  by_cases h0 : cN Ls x = 0
  · rw [if_pos h0] at e; cases e
  · rw [if_neg h0] at e
    have ey := Option.some.inj e
    have hle : cN Ls x ≤ Ls.length := List.length_filter_le _ _
    have : ∃ L ∈ Ls, (L : Int) = x := by
      unfold cN at h0
      obtain ⟨L, hL⟩ : ∃ L, L ∈ Ls.filter fun L : Nat => decide ((L : Int) = x) := List.exists_mem_of_length_pos (by omega)
      rw [List.mem_filter, decide_eq_true_eq] at hL
      exact ⟨L, hL⟩
    obtain ⟨L, hL, rfl⟩ := this
    have := h L hL
    dsimp only
    refine ⟨by omega, by omega, ?_⟩
    have := Bg_ge
    have := hx L hL
    omega
def spShape (C CS : Addr) : Sp := fun vs H Q _ => ∃ (m : Addr) (n : Int) (f : PF), vs = [.ref m] ∧ IsMap C H m n f ∧ ∀ s cs hs H', Same H H' → IsShape CS H' s cs hs → DI cs (cnt (lens f (cycS n f))) → DI hs (cnt (lens f (nons n f))) → Q (.ref s) H'
theorem di_perm {l m : List (Int × Int)} {f : PF} (d : DI l f) (h : m.Perm l) : DI m f := by
  refine di_of ((h.map _).nodup_iff.mpr d.nd) fun x y => ?_
  rw [h.mem_iff]
  exact d.mem
theorem rows_lens {f : PF} {s : List Int} : (s.map (rowN f)).map (·.length) = lens f s := by
  unfold lens
  rw [List.map_map]
  rfl
section
variable {P : Program} {w : World} {K : PySem.W.Frag} {mg : Str → Option Value} {base : Heap}
theorem ok_counts_of (T : Txt K mg) : FnR P w K mg base CX0 2 T.f_counts_of spCnt := by
  refine T.A_counts_of.ok sc_counts_of (fun vs H Q E h => ?_) (fun cdv A outer s H vs Q E hr h => ?_)
  · obtain ⟨a, ps, rs, rfl, _⟩ := h
    rfl
  · obtain ⟨a, ps, rs, rfl, ha, hr0, hl, q⟩ := h
    have hu := hu_of hr
    refine ⟨_, (pss_cons (ps_set (i := 1) sc_counts_of.nd rfl (Or.inl rfl) pe_dnewK)
      (pss_cons (ps_for PassesOwn.never rfl (pi_list (pv 0)) (pg_name (i := 2) sc_counts_of.nd rfl (Or.inl rfl))
        (pss_one (ps_dput hu (pv 1) (pe_callB call_len_seq (by rfl) T.n_len (by decide +kernel) (pa_cons (pv 2) pa_nil)) (pe_op op_add (pe_dget2 hu (pv 1) (pe_callB call_len_seq (by rfl) T.n_len (by decide +kernel) (pa_cons (pv 2) pa_nil)) pe_int ⟨rfl, rfl, rfl, rfl⟩) pe_int) rfl)))
      (pss_one (ps_ret (pv 1))))), ?_⟩
    refine fun D n_D => ?_
    generalize g_D : L2.upd _ D _ = H1
    obtain ⟨s_H1, e_D⟩ := U.upd_facts g_D n_D
    clear g_D
    have hln := hr0.len
    refine ⟨_, rfl, a, rfl, ⟨_, SqL.of (s_H1 _ _ ha)⟩, ?_⟩
    refine for_it (walk_list (xs := ps.map V.ref)) (fun i σ H' => ∃ v2 l, σ = [some (.ref a), some (.ref D), v2] ∧ Same H H' ∧ H' D = some (.dK (kvI l)) ∧ DI l (cnt ((rs.take i).map (·.length))) ∧ l.length ≤ i)
      ⟨_, [], rfl, s_H1, e_D, ⟨List.nodup_nil, fun _ => rfl⟩, Nat.le_refl _⟩ (fun i σ H' _ ⟨_, _, _, z, _⟩ => SqL.of (z _ _ ha)) ?_ ?_
    · rintro i v σ Ha0 Ha hi ⟨v2, l, rfl, sa, eD, di, hli⟩ ⟨rfl, ev⟩
      rw [List.length_map] at hi
      rw [List.getElem?_map] at ev
      cases e : ps[i]? with
      | none => rw [e] at ev; cases ev
      | some b =>
        rw [e] at ev
        cases ev
        obtain ⟨r, er, hb0⟩ := hr0.get i b e
        have hb := sa _ _ hb0
        have g := dgetL eD di (((r.map V.int).length : Nat) : Int)
        refine ⟨_, rfl, D, rfl, isD_of eD, _, rfl, b, _, rfl, .inl (SqL.of hb), _, g, ?_⟩
        rw [getDI0]
        refine ⟨_, _, rfl, rfl, _, rfl, _, rfl, b, _, rfl, .inl (SqL.of hb), D, _, rfl, DPut.k (k := Sum.inl _) eD (small1000 (by rw [kvI_length]; omega)), ?_⟩
        obtain ⟨l', e', hl', di'⟩ := di_putZ di (((r.map V.int).length : Nat) : Int) ((cnt ((rs.take i).map (·.length)) (((r.map V.int).length : Nat) : Int)).getD 0 + 1)
        rw [e']
        refine ⟨_, l', rfl, Same.put sa n_D, upd_same, ?_, by omega⟩
        rw [take_more er, List.map_append]
        have := cnt_snoc ((rs.take i).map (·.length)) r.length
        rw [show [r].map (·.length) = [r.length] from rfl, this]
        rw [List.length_map] at di'
        refine ⟨di'.nd, fun z => ?_⟩
        rw [di'.at_]
        by_cases hz : z = (r.length : Int)
        · subst hz; rfl
        · rw [if_neg hz, if_neg hz]
    · rintro σ Ha ⟨v2, l, rfl, sa, eD, di, hli⟩
      rw [List.length_map, hln, List.take_length] at di
      rw [List.length_map] at hli
      exact ⟨_, rfl, q D l Ha sa n_D eD di (by omega)⟩
end
end My
namespace My
open PySem L2 U PM
/-! ### one block more; lists of blocks off counts -/
def blk (c : Bool) (l : List (Int × Int)) : List (Bool × Nat) := l.flatMap fun p => List.replicate p.2.toNat (c, p.1.toNat)
/-! ### blocks off a map of counts with keys 1 .. 11 -/
end My
namespace My
open PySem L2 U StX PM
/-! ### check_shape, shape_of, map_of -/
theorem Asc.pos {l : List (Int × Int)} (h : Asc l) : ∀ p ∈ l, 0 < p.1 ∧ 0 < p.2 := fun p hp => ⟨(h.2 p hp).1, (h.2 p hp).2.1⟩
theorem initS_of {C : Addr} {H : Hp} {d1 d2 : Addr} {l1 l2 : List (Int × Int)} {R : VK} {E : XK} {x dx : Addr} (hd1 : H d1 = some (.dK (kvI l1))) (hd2 : H d2 = some (.dK (kvI l2))) (n1 : (l1.map (·.1)).Nodup) (n2 : (l2.map (·.1)).Nodup) (p1 : Pos l1) (p2 : Pos l2) (b1 : l1.length ≤ 1000) (b2 : l2.length ≤ 1000)
    (nx : H x = none) (ndx : H dx = none) (ne : dx ≠ x) (q : ∀ cs hs H', Same H H' → cs.Perm l1 → hs.Perm l2 → IsShape C H' x cs hs → R .non H') : spInitSh C [.ref x, .ref d1, .ref d2] (upd (upd H dx (.own x)) x (.ins C dx [])) R E := by
  have s0 : Same H (upd (upd H dx (.own x)) x (.ins C dx [])) := (Same.new ndx).trans (Same.new (by rw [upd_ne ne.symm]; exact nx))
  refine ⟨x, dx, d1, d2, l1, l2, rfl, upd_same, s0 _ _ hd1, s0 _ _ hd2, n1, n2, p1, p2, b1, b2, fun cs hs H' o pm1 pm2 sh => q cs hs H' (fun b u e => ?_) pm1 pm2 sh⟩
  exact o _ _ (ne_of_none e nx) (s0 _ _ e)
section
variable {P : Program} {w : World} {K : PySem.W.Frag} {mg : Str → Option Value} {base : Heap}
theorem ok_shape_of (T : Txt K mg) : FnR P w K mg base CX0 7 T.f_shape_of (spShape T.C_Map T.C_Shape) := by
  refine T.A_shape_of.ok sc_shape_of (fun vs H Q E h => ?_) (fun cdv A outer s H vs Q E hr h => ?_)
  · obtain ⟨a, n, f, rfl, _⟩ := h
    rfl
  · obtain ⟨a, n, f, rfl, hm, q⟩ := h
    refine ⟨_, (pss_cons (ps_expr (pe_callR (fnR_calm (ok_check_map T)) (hr.mono (by decide)) T.A_check_map.kp rfl T.g_check_map pass0 (pa_cons (pv 0) pa_nil)))
      (pss_cons (ps_asg (pe_callR (ok_parts_of T) (hr.mono (by decide)) T.A_parts_of.kp rfl T.g_parts_of pass0 (pa_cons (pv 0) pa_nil)) (pg_tup rfl (pgs_cons (pg_name (i := 1) sc_shape_of.nd rfl (Or.inl rfl)) (pgs_cons (pg_name (i := 2) sc_shape_of.nd rfl (Or.inl rfl)) pgs_nil))))
      (pss_one (ps_ret (pe_makeR T.M_Shape (ok_sh_init T) (hr.mono (by decide)) rfl T.g_Shape pass0 (pa_cons (pe_callR (ok_counts_of T) (hr.mono (by decide)) T.A_counts_of.kp rfl T.g_counts_of pass0 (pa_cons (pv 1) pa_nil)) (pa_cons (pe_callR (ok_counts_of T) (hr.mono (by decide)) T.A_counts_of.kp rfl T.g_counts_of pass0 (pa_cons (pv 2) pa_nil)) pa_nil))))))), ?_⟩
    refine ⟨_, rfl, _, rfl, .inl ⟨a, n, f, rfl, hm, ?_⟩⟩
    refine ⟨_, rfl, a, n, f, rfl, hm, fun t lc lh cs hs H1 s1 e1 e2 e3 r1 r2 n1 n2 n3 w1 w2 => ?_⟩
    have lc1 := r1.len
    have lc2 := r2.len
    rw [List.length_map] at lc1 lc2
    have hn := hm.hi
    have b1 : (cycS n f).length ≤ 300 := by
      have := (cycS_sub n f).1.length_le
      have e : (rgI n.toNat).length = n.toNat := by simp [rgI]
      omega
    have b2 : (nons n f).length ≤ 300 := by
      have := List.length_filter_le (nonT n f) (rgI n.toNat)
      have e : (rgI n.toNat).length = n.toNat := by simp [rgI]
      unfold nons
      omega
    refine ⟨t, _, rfl, SqT.of e1, rfl, .ref lc, [.ref lh], rfl, .ref lh, [], rfl, rfl, ?_⟩
    refine ⟨_, rfl, lc, cs, _, rfl, e2, r1, by omega, fun d1 l1 H2 s2 nd1 hd1 di1 hl1 => ?_⟩
    refine ⟨_, rfl, lh, hs, _, rfl, s2 _ _ e3, r2.same s2, by omega, fun d2 l2 H3 s3 nd2 hd2 di2 hl2 => ?_⟩
    rw [rows_lens] at di1 di2
    have pos : ∀ st : List Int, (∀ e ∈ st, 0 ≤ e ∧ e < n) → ∀ L ∈ lens f st, 1 ≤ L := fun st hst L hL => by
      unfold lens at hL
      obtain ⟨e, he, rfl⟩ := List.mem_map.mp hL
      exact row_pos hm.wf (hst e he).1 (hst e he).2
    have mx : ∀ st : List Int, (∀ e ∈ st, 0 ≤ e ∧ e < n) → ∀ L ∈ lens f st, L ≤ 1000 := fun st hst L hL => by
      unfold lens at hL
      obtain ⟨e, he, rfl⟩ := List.mem_map.mp hL
      have := row_le hm.wf (hst e he).1 (hst e he).2
      omega
    refine fun x dx nx ndx ne => initS_of (s3 _ _ hd1) hd2 di1.nd di2.nd (cnt_pos (pos _ fun e he => cycS_dom he) (mx _ fun e he => cycS_dom he) (by unfold lens; rw [List.length_map]; omega) di1) (cnt_pos (pos _ fun e he => ⟨(nons_dom he).1, (nons_dom he).2.1⟩) (mx _ fun e he => ⟨(nons_dom he).1, (nons_dom he).2.1⟩) (by unfold lens; rw [List.length_map]; omega) di2) hl1 hl2 nx ndx ne fun cs' hs' H4 s4 pm1 pm2 sh => ⟨rfl, ?_⟩
    exact q x cs' hs' H4 (((s1.trans s2).trans s3).trans s4) sh (di_perm di1 pm1) (di_perm di2 pm2)
end
end My
namespace My
open PM
/-! ### bags of lengths -/
def bag (qs : List (Int × Int)) (x : Int) : Int := (qs.map fun q => if q.1 = x then q.2 else 0).sum
def toPF (N : Int → Int) : PF := fun x => if N x = 0 then none else some (N x)
def wsum (qs : List (Int × Int)) (φ : Int → Int) : Int := (qs.map fun q => q.2 * φ q.1).sum
theorem toPF_get (N : Int → Int) (x : Int) : (toPF N x).getD 0 = N x := by
  unfold toPF
  by_cases h : N x = 0
  · rw [if_pos h, h]; rfl
  · rw [if_neg h]; rfl
theorem toPF_some {N : Int → Int} {x y : Int} : toPF N x = some y ↔ N x = y ∧ y ≠ 0 := by
  unfold toPF
  by_cases h : N x = 0
  · rw [if_pos h]
    exact ⟨fun z => (nomatch z), fun ⟨a, b⟩ => absurd (a.symm.trans h) b⟩
  · rw [if_neg h]
    exact ⟨fun z => by cases z; exact ⟨rfl, h⟩, fun ⟨a, _⟩ => by rw [a]⟩
theorem bag_cons (q : Int × Int) (qs : List (Int × Int)) (x : Int) : bag (q :: qs) x = (if q.1 = x then q.2 else 0) + bag qs x := by
  unfold bag
  rw [List.map_cons, List.sum_cons]
theorem bag_append (a b : List (Int × Int)) (x : Int) : bag (a ++ b) x = bag a x + bag b x := by
  unfold bag
  rw [List.map_append, List.sum_append]
theorem bag_nil (x : Int) : bag [] x = 0 := rfl
theorem wsum_cons (q : Int × Int) (qs : List (Int × Int)) (φ : Int → Int) : wsum (q :: qs) φ = q.2 * φ q.1 + wsum qs φ := by
  unfold wsum
  rw [List.map_cons, List.sum_cons]
theorem bag_wsum (qs : List (Int × Int)) (x : Int) : bag qs x = wsum qs fun L => if L = x then 1 else 0 := by
  unfold bag wsum
  congr 1
  refine List.map_congr_left fun q _ => ?_
  show (if q.1 = x then q.2 else 0) = q.2 * (if q.1 = x then 1 else 0)
  by_cases h : q.1 = x
  · rw [if_pos h, if_pos h, Int.mul_one]
  · rw [if_neg h, if_neg h, Int.mul_zero]
theorem bag_nn {qs : List (Int × Int)} (h : ∀ q ∈ qs, 0 ≤ q.2) (x : Int) : 0 ≤ bag qs x := by
  induction qs with
  | nil => exact Int.le_refl 0
  | cons q r ih =>
    rw [bag_cons]
    have h1 := h q (List.mem_cons_self ..)
    have h2 := ih fun q hq => h q (List.mem_cons_of_mem _ hq)
    by_cases e : q.1 = x
    · rw [if_pos e]; omega
    · rw [if_neg e]; omega
theorem bag_ge {qs : List (Int × Int)} (h : ∀ q ∈ qs, 0 ≤ q.2) {q : Int × Int} (hq : q ∈ qs) : q.2 ≤ bag qs q.1 := by
  induction qs with
  | nil => cases hq
  | cons p r ih =>
    rw [bag_cons]
    have h2 := bag_nn (qs := r) (fun q hq => h q (List.mem_cons_of_mem _ hq)) q.1
    rcases List.mem_cons.mp hq with rfl | hq
    · rw [if_pos rfl]; omega
    · have := ih (fun q hq => h q (List.mem_cons_of_mem _ hq)) hq
      have h1 := h p (List.mem_cons_self ..)
      by_cases e : p.1 = q.1
      · rw [if_pos e]; omega
      · rw [if_neg e]; omega
theorem one_key (q : Int × Int) (φ : Int → Int) : ∀ (l : List (Int × Int)), (l.map (·.1)).Nodup → (l.map fun p => (if q.1 = p.1 then q.2 else 0) * φ p.1).sum = if q.1 ∈ l.map (·.1) then q.2 * φ q.1 else 0
  | [], _ => by simp
  | p :: r, nd => by
    rw [List.map_cons, List.nodup_cons] at nd
    rw [List.map_cons, List.sum_cons, one_key q φ r nd.2, List.map_cons]
    by_cases h : q.1 = p.1
    · have hr : ¬ q.1 ∈ r.map (·.1) := by rw [h]; exact nd.1
      rw [if_pos h, if_neg hr, if_pos (by rw [h]; exact List.mem_cons_self ..), h]
      omega
    · rw [if_neg h]
      by_cases hr : q.1 ∈ r.map (·.1)
      · rw [if_pos hr, if_pos (List.mem_cons_of_mem _ hr)]; omega
      · rw [if_neg hr, if_neg (by simp only [List.mem_cons, not_or]; exact ⟨h, hr⟩)]; omega
theorem sum_split (l : List (Int × Int)) (f g φ : Int → Int) : (l.map fun p => (f p.1 + g p.1) * φ p.1).sum = (l.map fun p => f p.1 * φ p.1).sum + (l.map fun p => g p.1 * φ p.1).sum := by
  induction l with
  | nil => rfl
  | cons p r ih =>
    simp only [List.map_cons, List.sum_cons]
    rw [ih, Int.add_mul]
    omega
theorem wsum_bag (φ : Int → Int) {l : List (Int × Int)} (nd : (l.map (·.1)).Nodup) : ∀ (qs : List (Int × Int)), (∀ q ∈ qs, q.2 = 0 ∨ q.1 ∈ l.map (·.1)) → (l.map fun p => bag qs p.1 * φ p.1).sum = wsum qs φ
  | [], _ => by
    have : (fun p : Int × Int => bag [] p.1 * φ p.1) = fun _ => 0 := by funext p; rw [bag_nil, Int.zero_mul]
    rw [this]
    induction l with
    | nil => rfl
    | cons p r ih =>
      rw [List.map_cons, List.nodup_cons] at nd
      rw [List.map_cons, List.sum_cons, ih nd.2 fun q hq => nomatch hq]; rfl
  | q :: qs, h => by
    have e : (fun p : Int × Int => bag (q :: qs) p.1 * φ p.1) = fun p => ((fun x => if q.1 = x then q.2 else 0) p.1 + bag qs p.1) * φ p.1 := by funext p; rw [bag_cons]
    rw [e, sum_split l (fun x => if q.1 = x then q.2 else 0) (bag qs) φ, one_key q φ l nd, wsum_bag φ nd qs fun q hq => h q (List.mem_cons_of_mem _ hq), wsum_cons]
    by_cases hq : q.1 ∈ l.map (·.1)
    · rw [if_pos hq]
    · rw [if_neg hq]
      rcases h q (List.mem_cons_self ..) with h0 | h0
      · rw [h0, Int.zero_mul]
      · exact absurd h0 hq
theorem wsum_di {l qs : List (Int × Int)} (d : DI l (toPF (bag qs))) (h : ∀ q ∈ qs, 0 ≤ q.2) (φ : Int → Int) : wsum l φ = wsum qs φ := by
  rw [← wsum_bag φ d.nd qs fun q hq => ?_]
  · unfold wsum
    congr 1
    refine List.map_congr_left fun p hp => ?_
    have := d.mem.mp (show (p.1, p.2) ∈ l from hp)
    rw [(toPF_some.mp this).1]
  · by_cases h0 : q.2 = 0
    · exact .inl h0
    · right
      have := bag_ge h hq
      have := h q hq
      exact List.mem_map.mpr ⟨(q.1, bag qs q.1), d.mem.mpr (toPF_some.mpr ⟨rfl, by omega⟩), rfl⟩
theorem bag_self {l : List (Int × Int)} {f : PF} (d : DI l f) (h : ∀ p ∈ l, 0 < p.2) : toPF (bag l) = f := by
  have e : ∀ x, bag l x = (f x).getD 0 := by
    intro x
    have k := one_key (x, 1) (fun y => (f y).getD 0) l d.nd
    have k2 : bag l x = (l.map fun p => (if x = p.1 then 1 else 0) * (f p.1).getD 0).sum := by
      unfold bag
      congr 1
      refine List.map_congr_left fun p hp => ?_
      have := d.mem.mp (show (p.1, p.2) ∈ l from hp)
      rw [this]
      by_cases e : p.1 = x
      · rw [if_pos e, if_pos e.symm, Int.one_mul]; rfl
      · rw [if_neg e, if_neg (fun z => e z.symm), Int.zero_mul]
    rw [k2]
    refine k.trans ?_
    by_cases hx : x ∈ l.map (·.1)
    · rw [if_pos hx, Int.one_mul]
    · rw [if_neg hx]
      cases q : f x with
      | none => rfl
      | some y => exact absurd (List.mem_map.mpr ⟨(x, y), d.mem.mpr q, rfl⟩) hx
  funext x
  unfold toPF
  rw [e]
  cases q : f x with
  | none => rfl
  | some y =>
    have := h _ (d.mem.mpr q)
    rw [if_neg (by show ¬ y = 0; dsimp only at this; omega)]
    rfl
def ones (Ls : List Nat) : List (Int × Int) := Ls.map fun L : Nat => ((L : Int), 1)
theorem bag_ones (Ls : List Nat) (x : Int) : bag (ones Ls) x = (cN Ls x : Nat) := by
  induction Ls with
  | nil => rfl
  | cons L r ih =>
    unfold ones at ih ⊢
    rw [List.map_cons, bag_cons, ih]
    unfold cN
    rw [List.filter_cons]
    by_cases h : (L : Int) = x
    · rw [if_pos h, if_pos (by simpa using h), List.length_cons]; omega
    · rw [if_neg h, if_neg (by simpa using h)]; omega
theorem cnt_bag (Ls : List Nat) : cnt Ls = toPF (bag (ones Ls)) := by
  funext x
  unfold cnt toPF
  rw [bag_ones]
  by_cases h : cN Ls x = 0
  · rw [if_pos h, if_pos (by omega)]
  · rw [if_neg h, if_neg (by omega)]
theorem wsum_ones (Ls : List Nat) (φ : Int → Int) : wsum (ones Ls) φ = (Ls.map fun L : Nat => φ (L : Int)).sum := by
  unfold wsum ones
  rw [List.map_map]
  congr 1
  refine List.map_congr_left fun L _ => ?_
  show 1 * φ (L : Int) = _
  rw [Int.one_mul]
/-! ### powers of counts -/
def gI (L e : Int) : Int := (Nat.gcd L.toNat e.toNat : Nat)
def cq (cs : List (Int × Int)) (e : Int) : List (Int × Int) := cs.map fun p => (p.1 / gI p.1 e, p.2 * gI p.1 e)
def hp1 (e : Int) (p : Int × Int) : Int × Int := (p.1 / e + 1, p.2 * (p.1 % e))
def hp2 (e : Int) (p : Int × Int) : Int × Int := (p.1 / e, p.2 * (if 0 < p.1 / e then e - p.1 % e else 0))
def hq (cs : List (Int × Int)) (e : Int) : List (Int × Int) := cs.flatMap fun p => [hp1 e p, hp2 e p]
def cφ (e : Int) (φ : Int → Int) (L : Int) : Int := gI L e * φ (L / gI L e)
def hφ (e : Int) (φ : Int → Int) (L : Int) : Int := (L % e) * φ (L / e + 1) + (if 0 < L / e then e - L % e else 0) * φ (L / e)
theorem wsum_cq (cs : List (Int × Int)) (e : Int) (φ : Int → Int) : wsum (cq cs e) φ = wsum cs (cφ e φ) := by
  unfold wsum cq
  rw [List.map_map]
  congr 1
  refine List.map_congr_left fun p _ => ?_
  show p.2 * gI p.1 e * φ (p.1 / gI p.1 e) = p.2 * (gI p.1 e * φ (p.1 / gI p.1 e))
  rw [Int.mul_assoc]
theorem wsum_hq (cs : List (Int × Int)) (e : Int) (φ : Int → Int) : wsum (hq cs e) φ = wsum cs (hφ e φ) := by
  induction cs with
  | nil => rfl
  | cons p r ih =>
    have : hq (p :: r) e = hp1 e p :: hp2 e p :: hq r e := rfl
    rw [this, wsum_cons, wsum_cons, wsum_cons, ih]
    show p.2 * (p.1 % e) * φ (p.1 / e + 1) + (p.2 * (if 0 < p.1 / e then e - p.1 % e else 0) * φ (p.1 / e) + _) = p.2 * ((p.1 % e) * φ (p.1 / e + 1) + (if 0 < p.1 / e then e - p.1 % e else 0) * φ (p.1 / e)) + _
    rw [Int.mul_add, Int.mul_assoc, Int.mul_assoc]
    omega
end My
namespace My
open PM
/-! ### parts of powers -/
theorem cyc_le {n : Int} {f : PF} (w : WF n f) {e e' : Int} (he : e ∈ cycS n f) (he' : e' ∈ cycS n f) (h : e' ∈ rowN f e) : e' ≤ e := by
  refine Int.not_lt.mp fun hlt => ?_
  have d := cycS_dom he
  have d' := cycS_dom he'
  have hs' : e' ∈ selL f (nons n f) (rgI n.toNat) := by rw [cycS_eq]; exact List.mem_append_right _ he'
  have hs : e ∈ selL f (nons n f) (rgI n.toNat) := by rw [cycS_eq]; exact List.mem_append_right _ he
  rcases sel_mem hs' with hb | ⟨l1, l2, el, hn⟩
  · exact (cycS_sub n f).2 e' he' (mem_seenL.mpr ⟨e', hb, (rowN_is w d'.1 d'.2).mem⟩)
  · have asc := rgI_lt n.toNat
    have hm : e ∈ rgI n.toNat := mem_rgI.mpr ⟨d.1, by omega⟩
    rw [el] at hs asc hm
    have pw := (List.pairwise_append.mp asc).2.1
    rw [List.pairwise_cons] at pw
    have el1 : e ∈ l1 := by
      rcases List.mem_append.mp hm with h1 | h1
      · exact h1
      · rcases List.mem_cons.mp h1 with rfl | h1
        · omega
        · have := pw.1 e h1
          omega
    rw [selL_append] at hs
    obtain ⟨c, hc, hsub, hns⟩ := selL_sub f (e' :: l2) (selL f (nons n f) l1)
    rw [hc] at hs
    rcases List.mem_append.mp hs with h1 | h1
    · exact hn (mem_seenL.mpr ⟨e, h1, h⟩)
    · rcases List.mem_cons.mp (hsub.subset h1) with rfl | h2
      · omega
      · have := pw.1 e h2
        omega
theorem cyc_back {n : Int} {f : PF} (w : WF n f) {e a : Int} (he : e ∈ cycS n f) (h : a ∈ rowN f e) : ∃ k, iter f k a = some e := by
  obtain ⟨i, hi⟩ := List.getElem?_of_mem h
  have d := cycS_dom he
  have hl := (List.getElem?_eq_some_iff.mp hi).1
  refine ⟨(rowN f e).length - i, ?_⟩
  rw [cycle_at w he hi, show i + ((rowN f e).length - i) = (rowN f e).length by omega, Nat.mod_self]
  exact row_head w d.1 d.2
theorem cyc_fwd {n : Int} {f : PF} (w : WF n f) {e a b : Int} {k : Nat} (he : e ∈ cycS n f) (h : a ∈ rowN f e) (hk : iter f k a = some b) : b ∈ rowN f e := by
  obtain ⟨i, hi⟩ := List.getElem?_of_mem h
  rw [cycle_at w he hi] at hk
  exact List.mem_of_getElem? hk
theorem cyc_uniq {n : Int} {f : PF} (w : WF n f) {e e' a : Int} (he : e ∈ cycS n f) (he' : e' ∈ cycS n f) (h : a ∈ rowN f e) (h' : a ∈ rowN f e') : e = e' := by
  obtain ⟨k, hk⟩ := cyc_back w he h
  obtain ⟨k', hk'⟩ := cyc_back w he' h'
  have m1 := cyc_fwd w he' h' hk
  have m2 := cyc_fwd w he h hk'
  have := cyc_le w he he' m2
  have := cyc_le w he' he m1
  omega
theorem iter_dvd {n : Int} {f : PF} (w : WF n f) {e a : Int} (he : e ∈ cycS n f) (h : a ∈ rowN f e) (m : Nat) : iter f m a = some a ↔ (rowN f e).length ∣ m := by
  obtain ⟨i, hi⟩ := List.getElem?_of_mem h
  have d := cycS_dom he
  have hl := (List.getElem?_eq_some_iff.mp hi).1
  rw [cycle_at w he hi]
  constructor
  · intro z
    have q := row_inj w d.1 d.2 (i := i) (j := (i + m) % (rowN f e).length) hl (by rw [hi, z])
    have q2 : (i + m) % (rowN f e).length = i % (rowN f e).length := by rw [Nat.mod_eq_of_lt hl]; exact q.symm
    have := Nat.sub_mod_eq_zero_of_mod_eq q2
    rw [Nat.add_sub_cancel_left] at this
    exact Nat.dvd_of_mod_eq_zero this
  · rintro ⟨c, rfl⟩
    rw [Nat.add_mul_mod_self_left, Nat.mod_eq_of_lt hl]
    exact hi
theorem iter_mul (f : PF) (a : Nat) (x : Int) : ∀ b, iter (iter f a) b x = iter f (a * b) x
  | 0 => rfl
  | b + 1 => by
    show (iter (iter f a) b x).bind (iter f a) = _
    rw [iter_mul f a x b, Nat.mul_add, Nat.mul_one, iter_add]
theorem wf_it {n : Int} {f : PF} (w : WF n f) {k : Nat} (h : 1 ≤ k) : WF n (iter f k) := by
  obtain ⟨j, rfl⟩ : ∃ j, k = j + 1 := ⟨k - 1, by omega⟩
  exact wf_iter w j
def isPer (g : PF) (a : Int) (x : Nat) : Prop := 1 ≤ x ∧ iter g x a = some a ∧ ∀ j, 1 ≤ j → j < x → iter g j a ≠ some a
theorem dvd_gcd_iff {L e j : Nat} (hL : 1 ≤ L) : L ∣ e * j ↔ L / Nat.gcd L e ∣ j := by
  have hg : 0 < Nat.gcd L e := Nat.gcd_pos_of_pos_left _ hL
  obtain ⟨l, hl⟩ := Nat.gcd_dvd_left L e
  obtain ⟨k, hk⟩ := Nat.gcd_dvd_right L e
  have cp : Nat.Coprime (L / Nat.gcd L e) (e / Nat.gcd L e) := Nat.coprime_div_gcd_div_gcd hg
  have e1 : L / Nat.gcd L e = l := Nat.div_eq_of_eq_mul_right hg hl
  have e2 : e / Nat.gcd L e = k := Nat.div_eq_of_eq_mul_right hg hk
  rw [e1, e2] at cp
  rw [e1]
  generalize Nat.gcd L e = g at hg hl hk
  subst hl
  subst hk
  constructor
  · intro z
    rw [Nat.mul_assoc] at z
    exact cp.dvd_of_dvd_mul_left (Nat.dvd_of_mul_dvd_mul_left hg z)
  · intro z
    rw [Nat.mul_assoc]
    exact Nat.mul_dvd_mul_left g (Nat.dvd_trans z (Nat.dvd_mul_left _ _))
theorem per_cyc {n : Int} {f : PF} (w : WF n f) {e a : Int} {e0 : Nat} (he : e ∈ cycS n f) (h : a ∈ rowN f e) (x : Nat) : isPer (iter f e0) a x ↔ x = (rowN f e).length / Nat.gcd (rowN f e).length e0 := by
  have d := cycS_dom he
  have hL := row_pos w d.1 d.2
  have key : ∀ j, iter (iter f e0) j a = some a ↔ (rowN f e).length / Nat.gcd (rowN f e).length e0 ∣ j := fun j => by
    rw [iter_mul, iter_dvd w he h, dvd_gcd_iff hL]
  have hM : 1 ≤ (rowN f e).length / Nat.gcd (rowN f e).length e0 := Nat.div_pos (Nat.gcd_le_left _ hL) (Nat.gcd_pos_of_pos_left _ hL)
  generalize (rowN f e).length / Nat.gcd (rowN f e).length e0 = M at key hM
  constructor
  · rintro ⟨h1, h2, h3⟩
    have hd := (key x).mp h2
    have hle := Nat.le_of_dvd h1 hd
    refine Nat.le_antisymm (Nat.le_of_not_lt fun hlt => h3 M hM hlt ((key M).mpr (Nat.dvd_refl _))) hle
  · rintro rfl
    refine ⟨hM, (key x).mpr (Nat.dvd_refl _), fun j h1 h2 z => ?_⟩
    have := Nat.le_of_dvd h1 ((key j).mp z)
    omega
theorem mem_cyc {n : Int} {f : PF} (w : WF n f) {a : Int} : a ∈ seenL f (cycS n f) ↔ ∃ x, 1 ≤ x ∧ iter f x a = some a := by
  rw [mem_seenL]
  constructor
  · rintro ⟨e, he, h⟩
    have d := cycS_dom he
    exact ⟨_, row_pos w d.1 d.2, (iter_dvd w he h _).mpr (Nat.dvd_refl _)⟩
  · rintro ⟨x, hx, h⟩
    have ha : 0 ≤ a ∧ a < n := by
      refine Decidable.byContradiction fun z => ?_
      rw [iter_out w z hx] at h
      cases h
    obtain ⟨e, he, hm⟩ := cover w ha.1 ha.2
    rcases List.mem_append.mp he with he' | he'
    · obtain ⟨i, hi⟩ := List.getElem?_of_mem hm
      have d := nons_dom he'
      rw [chain_at w he' hi] at h
      have := row_inj w d.1 d.2.1 (i := i) (j := i + x) (List.getElem?_eq_some_iff.mp hi).1 (by rw [hi, h])
      omega
    · exact ⟨e, he', hm⟩
theorem mem_cyc_it {n : Int} {f : PF} (w : WF n f) {e0 : Nat} (h0 : 1 ≤ e0) {a : Int} : a ∈ seenL (iter f e0) (cycS n (iter f e0)) ↔ a ∈ seenL f (cycS n f) := by
  rw [mem_cyc (wf_it w h0)]
  constructor
  · rintro ⟨x, hx, h⟩
    rw [iter_mul] at h
    exact (mem_cyc w).mpr ⟨e0 * x, Nat.mul_pos h0 hx, h⟩
  · intro h
    obtain ⟨e, he, hm⟩ := mem_seenL.mp h
    have d := cycS_dom he
    refine ⟨(rowN f e).length, row_pos w d.1 d.2, ?_⟩
    rw [iter_mul]
    exact (iter_dvd w he hm _).mpr (Nat.dvd_mul_left _ _)
theorem nd_seen {f : PF} {s : List Int} (nd : s.Nodup) (h1 : ∀ e ∈ s, (rowN f e).Nodup) (h2 : ∀ e ∈ s, ∀ e' ∈ s, ∀ a, a ∈ rowN f e → a ∈ rowN f e' → e = e') : (seenL f s).Nodup := by
  induction s with
  | nil => exact List.nodup_nil
  | cons e r ih =>
    rw [List.nodup_cons] at nd
    show (rowN f e ++ seenL f r).Nodup
    rw [List.nodup_append]
    refine ⟨h1 e (List.mem_cons_self ..), ih nd.2 (fun e he => h1 e (List.mem_cons_of_mem _ he)) (fun e he e' he' => h2 e (List.mem_cons_of_mem _ he) e' (List.mem_cons_of_mem _ he')), fun a ha b hb hab => ?_⟩
    subst hab
    obtain ⟨e', he', hm⟩ := mem_seenL.mp hb
    have := h2 e (List.mem_cons_self ..) e' (List.mem_cons_of_mem _ he') a ha hm
    subst this
    exact nd.1 he'
theorem nd_cyc {n : Int} {f : PF} (w : WF n f) : (seenL f (cycS n f)).Nodup :=
  nd_seen (nodup_of_lt (cycS_lt n f)) (fun e he => (rowN_is w (cycS_dom he).1 (cycS_dom he).2).nd w) fun e he e' he' a h h' => cyc_uniq w he he' h h'
theorem perm_sum {l m : List Int} (h : l.Perm m) : l.sum = m.sum := by
  induction h with
  | nil => rfl
  | cons x _ ih => rw [List.sum_cons, List.sum_cons, ih]
  | swap x y l => simp only [List.sum_cons]; omega
  | trans _ _ a b => exact a.trans b
theorem sum_rows {f : PF} {ψ v : Int → Int} : ∀ {s : List Int}, (∀ e ∈ s, ∀ a ∈ rowN f e, ψ a = v e) → ((seenL f s).map ψ).sum = (s.map fun e => ((rowN f e).length : Int) * v e).sum
  | [], _ => rfl
  | e :: r, h => by
    have ih := sum_rows (s := r) fun e he => h e (List.mem_cons_of_mem _ he)
    show ((rowN f e ++ seenL f r).map ψ).sum = _
    rw [List.map_append, List.sum_append, ih, List.map_cons, List.sum_cons]
    congr 1
    have h1 := h e (List.mem_cons_self ..)
    generalize rowN f e = l at h1
    induction l with
    | nil => simp
    | cons a l ih => 
      rw [List.map_cons, List.sum_cons, ih fun a ha => h1 a (List.mem_cons_of_mem _ ha), h1 a (List.mem_cons_self ..), List.length_cons]
      rw [show (((l.length + 1 : Nat) : Int)) = (l.length : Int) + 1 by omega, Int.add_mul, Int.one_mul]
      omega
def dl (x : Int) (y : Int) : Int := if y = x then 1 else 0
theorem sum_mulc (x : Int) (l : List Nat) (φ : Int → Int) : (l.map fun L : Nat => x * φ (L : Int)).sum = x * (l.map fun L : Nat => φ (L : Int)).sum := by
  induction l with
  | nil => simp
  | cons a r ih => rw [List.map_cons, List.sum_cons, ih, List.map_cons, List.sum_cons, Int.mul_add]
theorem gI_nat (L e : Nat) : gI (L : Int) (e : Int) = (Nat.gcd L e : Nat) := by
  unfold gI
  rw [Int.toNat_natCast, Int.toNat_natCast]
open Classical in
theorem cyc_pow {n : Int} {f : PF} (w : WF n f) {e0 : Nat} (h0 : 1 ≤ e0) (x : Int) : bag (ones (lens (iter f e0) (cycS n (iter f e0)))) x = wsum (ones (lens f (cycS n f))) (cφ e0 (dl x)) := by
  have wg := wf_it w h0
  rw [bag_wsum, wsum_ones, wsum_ones]
  by_cases hx : 1 ≤ x
  · obtain ⟨k, rfl⟩ : ∃ k : Nat, x = (k : Int) := ⟨x.toNat, by omega⟩
    have hp : (seenL (iter f e0) (cycS n (iter f e0))).Perm (seenL f (cycS n f)) := (List.perm_ext_iff_of_nodup (nd_cyc wg) (nd_cyc w)).mpr fun a => mem_cyc_it w h0
    have hs := perm_sum (hp.map fun a => if isPer (iter f e0) a k then (1 : Int) else 0)
    rw [sum_rows (v := fun e => if (rowN (iter f e0) e).length = k then 1 else 0) (fun e he a ha => ?_), sum_rows (v := fun e => if (rowN f e).length / Nat.gcd (rowN f e).length e0 = k then 1 else 0) (fun e he a ha => ?_)] at hs
    · have l1 : ((cycS n (iter f e0)).map fun e => ((rowN (iter f e0) e).length : Int) * (if (rowN (iter f e0) e).length = k then 1 else 0)).sum = (k : Int) * ((lens (iter f e0) (cycS n (iter f e0))).map fun L : Nat => if (L : Int) = k then (1 : Int) else 0).sum := by
        refine Eq.trans ?_ (sum_mulc (k : Int) (lens (iter f e0) (cycS n (iter f e0))) (dl k))
        unfold lens
        rw [List.map_map]
        congr 1
        refine List.map_congr_left fun e _ => ?_
        show _ = (k : Int) * (if ((rowN (iter f e0) e).length : Int) = k then (1 : Int) else 0)
        by_cases h : (rowN (iter f e0) e).length = k
        · rw [if_pos h, if_pos (by omega), h]
        · rw [if_neg h, if_neg (by omega), Int.mul_zero, Int.mul_zero]
      have l2 : ((cycS n f).map fun e => ((rowN f e).length : Int) * (if (rowN f e).length / Nat.gcd (rowN f e).length e0 = k then 1 else 0)).sum = (k : Int) * ((lens f (cycS n f)).map fun L : Nat => cφ e0 (dl k) L).sum := by
        refine Eq.trans ?_ (sum_mulc (k : Int) (lens f (cycS n f)) (cφ e0 (dl k)))
        unfold lens
        rw [List.map_map]
        congr 1
        refine List.map_congr_left fun e _ => ?_
        show _ = (k : Int) * cφ e0 (dl k) ((rowN f e).length : Nat)
        unfold cφ dl
        rw [gI_nat, ← Int.natCast_ediv]
        by_cases h : (rowN f e).length / Nat.gcd (rowN f e).length e0 = k
        · rw [if_pos h, if_pos (by rw [h]), Int.mul_one, Int.mul_one]
          have : (rowN f e).length = k * Nat.gcd (rowN f e).length e0 := by
            rw [← h]
            exact (Nat.div_mul_cancel (Nat.gcd_dvd_left _ _)).symm
          rw [← Int.natCast_mul, ← this]
        · rw [if_neg h, if_neg (by omega), Int.mul_zero, Int.mul_zero, Int.mul_zero]
      rw [l1, l2] at hs
      exact Int.eq_of_mul_eq_mul_left (by omega) hs
    · have := per_cyc w (e0 := e0) he ha k
      by_cases h : (rowN f e).length / Nat.gcd (rowN f e).length e0 = k
      · rw [if_pos h, if_pos (this.mpr h.symm)]
      · rw [if_neg h, if_neg fun z => h (this.mp z).symm]
    · have := per_cyc wg (e0 := 1) he ha k
      rw [iter_one, Nat.gcd_one_right, Nat.div_one] at this
      by_cases h : (rowN (iter f e0) e).length = k
      · rw [if_pos h, if_pos (this.mpr h.symm)]
      · rw [if_neg h, if_neg fun z => h (this.mp z).symm]
  · have z1 : ∀ (l : List Nat) (φ : Int → Int), (∀ L ∈ l, φ (L : Nat) = 0) → (l.map fun L : Nat => φ (L : Int)).sum = 0 := by
      intro l φ h
      induction l with
      | nil => rfl
      | cons a r ih => rw [List.map_cons, List.sum_cons, h a (List.mem_cons_self ..), ih fun L hL => h L (List.mem_cons_of_mem _ hL)]; rfl
    rw [z1 _ (fun L => if L = x then 1 else 0), z1]
    · intro L hL
      obtain ⟨e, he, rfl⟩ := List.mem_map.mp hL
      have d := cycS_dom he
      have hL := row_pos w d.1 d.2
      unfold cφ dl
      have hM : 1 ≤ (rowN f e).length / Nat.gcd (rowN f e).length e0 := Nat.div_pos (Nat.gcd_le_left _ hL) (Nat.gcd_pos_of_pos_left _ hL)
      rw [gI_nat, ← Int.natCast_ediv, if_neg (by omega), Int.mul_zero]
    · intro L hL
      obtain ⟨e, he, rfl⟩ := List.mem_map.mp hL
      have d := cycS_dom he
      have hL := row_pos wg d.1 d.2
      exact if_neg (by omega)
/-! chains -/
theorem iter_inj {n : Int} {f : PF} (w : WF n f) : ∀ {k : Nat} {a b c : Int}, iter f k a = some c → iter f k b = some c → a = b
  | 0, a, b, c, h1, h2 => (Option.some.inj h1).trans (Option.some.inj h2).symm
  | k + 1, a, b, c, h1, h2 => (wf_iter w k).inj _ _ _ h1 h2
theorem non_le {n : Int} {f : PF} (w : WF n f) {c a y : Int} {i j : Nat} (hc : nonT n f c = true) (h1 : iter f i c = some a) (h2 : iter f j y = some a) : j ≤ i := by
  refine Nat.le_of_not_lt fun hlt => ?_
  obtain ⟨d, rfl⟩ : ∃ d, j = (d + 1) + i := ⟨j - i - 1, by omega⟩
  rw [iter_add] at h2
  obtain ⟨b, hb1, hb2⟩ := Option.bind_eq_some_iff.mp h2
  have := iter_inj w hb2 h1
  subst this
  have hb1 : (iter f d y).bind f = some b := hb1
  obtain ⟨z, _, hz⟩ := Option.bind_eq_some_iff.mp hb1
  exact (nonT_iff w).mp hc z hz
theorem row_iter {n : Int} {f : PF} (w : WF n f) {c : Int} (hc : c ∈ nons n f) (i : Nat) : iter f i c = (rowN f c)[i]? := by
  obtain ⟨h1, h2, _⟩ := nons_dom hc
  have := chain_at w hc (row_head w h1 h2) i
  rw [Nat.zero_add] at this
  exact this
noncomputable def heads (f : PF) (e0 : Nat) (s : List Int) : List Int := (s.map fun c => (rowN f c).take e0).flatten
theorem mem_heads {f : PF} {e0 : Nat} {s : List Int} {a : Int} : a ∈ heads f e0 s ↔ ∃ c ∈ s, ∃ i, i < e0 ∧ (rowN f c)[i]? = some a := by
  unfold heads
  rw [List.mem_flatten]
  constructor
  · rintro ⟨r, hr, ha⟩
    obtain ⟨c, hc, rfl⟩ := List.mem_map.mp hr
    obtain ⟨i, hi⟩ := List.getElem?_of_mem ha
    rw [List.getElem?_take] at hi
    by_cases h : i < e0
    · rw [if_pos h] at hi
      exact ⟨c, hc, i, h, hi⟩
    · rw [if_neg h] at hi; cases hi
  · rintro ⟨c, hc, i, h, hi⟩
    refine ⟨_, List.mem_map.mpr ⟨c, hc, rfl⟩, List.mem_of_getElem? (i := i) ?_⟩
    rw [List.getElem?_take, if_pos h, hi]
theorem nd_heads {n : Int} {f : PF} (w : WF n f) (e0 : Nat) : ∀ {s : List Int}, s.Nodup → (∀ c ∈ s, c ∈ nons n f) → (heads f e0 s).Nodup
  | [], _, _ => List.nodup_nil
  | c :: r, nd, h => by
    rw [List.nodup_cons] at nd
    show ((rowN f c).take e0 ++ heads f e0 r).Nodup
    have hc := h c (List.mem_cons_self ..)
    obtain ⟨h1, h2, h3⟩ := nons_dom hc
    rw [List.nodup_append]
    refine ⟨((rowN_is w h1 h2).nd w).sublist (List.take_sublist ..), nd_heads w e0 nd.2 fun c hc => h c (List.mem_cons_of_mem _ hc), fun a ha b hb hab => ?_⟩
    subst hab
    obtain ⟨c', hc', j, _, hj⟩ := mem_heads.mp hb
    obtain ⟨i, hi⟩ := List.getElem?_of_mem (List.mem_of_mem_take ha)
    have hn' := h c' (List.mem_cons_of_mem _ hc')
    rw [← row_iter w hc] at hi
    rw [← row_iter w hn'] at hj
    have a1 := non_le w h3 hi hj
    have a2 := non_le w (nons_dom hn').2.2 hj hi
    have : i = j := by omega
    subst this
    have := iter_inj w hi hj
    subst this
    exact nd.1 hc'
theorem nons_it {n : Int} {f : PF} (w : WF n f) {e0 : Nat} (h0 : 1 ≤ e0) (a : Int) : a ∈ nons n (iter f e0) ↔ a ∈ heads f e0 (nons n f) := by
  have wg := wf_it w h0
  rw [mem_heads]
  constructor
  · intro h
    obtain ⟨h1, h2, h3⟩ := nons_dom h
    have h3 := (nonT_iff wg).mp h3
    obtain ⟨e, he, hm⟩ := cover w h1 h2
    obtain ⟨i, hi⟩ := List.getElem?_of_mem hm
    rcases List.mem_append.mp he with he' | he'
    · refine ⟨e, he', i, Nat.lt_of_not_le fun hle => ?_, hi⟩
      have hl := (List.getElem?_eq_some_iff.mp hi).1
      obtain ⟨y, hy⟩ : ∃ y, (rowN f e)[i - e0]? = some y := ⟨_, List.getElem?_eq_getElem (by omega)⟩
      refine h3 y ?_
      rw [chain_at w he' hy, show i - e0 + e0 = i by omega]
      exact hi
    · exfalso
      have hc := (mem_cyc wg).mp ((mem_cyc_it w h0).mpr (mem_seenL.mpr ⟨e, he', hm⟩))
      obtain ⟨x, hx, hi⟩ := hc
      obtain ⟨k, rfl⟩ : ∃ k, x = k + 1 := ⟨x - 1, by omega⟩
      have hi : (iter (iter f e0) k a).bind (iter f e0) = some a := hi
      obtain ⟨z, _, hz⟩ := Option.bind_eq_some_iff.mp hi
      exact h3 z hz
  · rintro ⟨c, hc, i, hi, hg⟩
    obtain ⟨h1, h2, h3⟩ := nons_dom hc
    have hd := (rowN_is w h1 h2).dom w h1 h2 a (List.mem_of_getElem? hg)
    refine List.mem_filter.mpr ⟨mem_rgI.mpr ⟨hd.1, by omega⟩, (nonT_iff wg).mpr fun y hy => ?_⟩
    rw [← row_iter w hc] at hg
    have := non_le w h3 hg hy
    omega
theorem len_it {n : Int} {f : PF} (w : WF n f) {e0 : Nat} (h0 : 1 ≤ e0) {c b : Int} {i : Nat} (hc : c ∈ nons n f) (hi : i < e0) (hg : (rowN f c)[i]? = some b) (j : Nat) : j < (rowN (iter f e0) b).length ↔ i + e0 * j < (rowN f c).length := by
  have wg := wf_it w h0
  have hb : b ∈ nons n (iter f e0) := (nons_it w h0 b).mpr (mem_heads.mpr ⟨c, hc, i, hi, hg⟩)
  have k := row_iter wg hb j
  rw [iter_mul, chain_at w hc hg] at k
  constructor
  · intro h
    refine Nat.lt_of_not_le fun z => ?_
    rw [List.getElem?_eq_none_iff.mpr z] at k
    have := List.getElem?_eq_none_iff.mp k.symm
    omega
  · intro h
    refine Nat.lt_of_not_le fun z => ?_
    rw [List.getElem?_eq_none_iff.mpr z] at k
    have := List.getElem?_eq_none_iff.mp k
    omega
end My
namespace My
open PM
/-! ### chains of powers; powers of powers -/
theorem step_cond {L e i x : Nat} (he : 1 ≤ e) (hi : i < e) (hx : 1 ≤ x) : (i + e * (x - 1) < L ∧ L ≤ i + e * x) ↔ x = if i < L % e then L / e + 1 else L / e := by
  have hL := Nat.div_add_mod L e
  have hr := Nat.mod_lt L he
  generalize L / e = q at hL
  generalize L % e = r at hL hr
  subst hL
  obtain ⟨y, rfl⟩ : ∃ y, x = y + 1 := ⟨x - 1, by omega⟩
  rw [Nat.add_sub_cancel, Nat.mul_add, Nat.mul_one]
  by_cases h : i < r
  · rw [if_pos h]
    constructor
    · rintro ⟨h1, h2⟩
      have a1 : y < q + 1 := by
        refine Nat.lt_of_mul_lt_mul_left (a := e) ?_
        rw [Nat.mul_add, Nat.mul_one]
        omega
      have a2 : q < y + 1 := by
        refine Nat.lt_of_mul_lt_mul_left (a := e) ?_
        rw [Nat.mul_add, Nat.mul_one]
        omega
      omega
    · intro hx
      have : y = q := by omega
      subst this
      omega
  · rw [if_neg h]
    constructor
    · rintro ⟨h1, h2⟩
      have a1 : y < q := by
        refine Nat.lt_of_mul_lt_mul_left (a := e) ?_
        omega
      have a2 : q < y + 1 + 1 := by
        refine Nat.lt_of_mul_lt_mul_left (a := e) ?_
        rw [Nat.mul_add, Nat.mul_one, Nat.mul_add, Nat.mul_one]
        omega
      omega
    · rintro rfl
      rw [Nat.mul_add, Nat.mul_one]
      omega
theorem sum_step (r : Nat) (A B : Int) : ∀ m : Nat, ((List.range m).map fun i => if i < r then A else B).sum = ((min m r : Nat) : Int) * A + ((m - r : Nat) : Int) * B
  | 0 => by simp
  | m + 1 => by
    rw [List.range_succ, List.map_append, List.sum_append, sum_step r A B m]
    simp only [List.map_cons, List.map_nil, List.sum_cons, List.sum_nil]
    by_cases h : m < r
    · rw [if_pos h, show min (m + 1) r = min m r + 1 by omega, show m + 1 - r = 0 by omega, show m - r = 0 by omega]
      rw [show (((min m r + 1 : Nat)) : Int) = ((min m r : Nat) : Int) + 1 by omega, Int.add_mul, Int.one_mul]
      omega
    · rw [if_neg h, show min (m + 1) r = min m r by omega, show m + 1 - r = (m - r) + 1 by omega]
      rw [show (((m - r + 1 : Nat)) : Int) = ((m - r : Nat) : Int) + 1 by omega, Int.add_mul, Int.one_mul]
      omega
theorem hφ_nat (L e : Nat) (φ : Int → Int) : hφ e φ (L : Int) = ((L % e : Nat) : Int) * φ ((L / e + 1 : Nat) : Int) + ((if 0 < L / e then e - L % e else 0 : Nat) : Int) * φ ((L / e : Nat) : Int) := by
  unfold hφ
  rw [← Int.natCast_emod, ← Int.natCast_ediv]
  have h1 : ((L / e : Nat) : Int) + 1 = ((L / e + 1 : Nat) : Int) := by omega
  rw [h1]
  congr 2
  by_cases h : 0 < L / e
  · have hr : L % e < e := Nat.mod_lt _ (by
      refine Nat.pos_of_ne_zero fun z => ?_
      rw [z, Nat.div_zero] at h
      omega)
    rw [if_pos h, if_pos (by omega)]
    omega
  · rw [if_neg h, if_neg (by omega)]
    rfl
theorem sum_heads {f : PF} (ψ : Int → Int) (e0 : Nat) : ∀ (s : List Int), ((heads f e0 s).map ψ).sum = (s.map fun c => (((rowN f c).take e0).map ψ).sum).sum
  | [] => rfl
  | c :: r => by
    show (((rowN f c).take e0 ++ heads f e0 r).map ψ).sum = _
    rw [List.map_append, List.sum_append, sum_heads ψ e0 r, List.map_cons, List.sum_cons]
theorem sum_take {l : List Int} {ψ : Int → Int} {χ : Nat → Int} {m : Nat} (hm : m = l.length) (h : ∀ i a, l[i]? = some a → ψ a = χ i) : (l.map ψ).sum = ((List.range m).map χ).sum := by
  subst hm
  congr 1
  refine List.ext_getElem? fun i => ?_
  rw [List.getElem?_map, List.getElem?_map]
  by_cases hi : i < l.length
  · rw [List.getElem?_eq_getElem hi, List.getElem?_range hi]
    show some _ = some _
    rw [h i _ (List.getElem?_eq_getElem hi)]
  · rw [List.getElem?_eq_none_iff.mpr (by omega), List.getElem?_eq_none_iff.mpr (by rw [List.length_range]; omega)]
    rfl
theorem chn_pow {n : Int} {f : PF} (w : WF n f) {e0 : Nat} (h0 : 1 ≤ e0) (x : Int) : bag (ones (lens (iter f e0) (nons n (iter f e0)))) x = wsum (ones (lens f (nons n f))) (hφ e0 (dl x)) := by
  have wg := wf_it w h0
  rw [bag_wsum, wsum_ones, wsum_ones]
  have hp : (nons n (iter f e0)).Perm (heads f e0 (nons n f)) := (List.perm_ext_iff_of_nodup (nodup_of_lt (nons_lt n _)) (nd_heads w e0 (nodup_of_lt (nons_lt n f)) fun c hc => hc)).mpr (nons_it w h0)
  have hs := perm_sum (hp.map fun a => dl x ((rowN (iter f e0) a).length : Nat))
  rw [sum_heads] at hs
  unfold lens
  rw [List.map_map, List.map_map]
  refine Eq.trans ?_ (hs.trans ?_)
  · congr 1
  · congr 1
    refine List.map_congr_left fun c hc => ?_
    obtain ⟨c1, c2, c3⟩ := nons_dom hc
    have hL := row_pos w c1 c2
    have hlen : min e0 (rowN f c).length = ((rowN f c).take e0).length := by rw [List.length_take]
    show _ = hφ e0 (dl x) ((rowN f c).length : Nat)
    rw [hφ_nat]
    rw [sum_take (χ := fun i => if i < (rowN f c).length % e0 then dl x (((rowN f c).length / e0 + 1 : Nat)) else dl x (((rowN f c).length / e0 : Nat))) hlen ?_]
    · rw [sum_step]
      have hr : (rowN f c).length % e0 < e0 := Nat.mod_lt _ h0
      have hd := Nat.div_add_mod (rowN f c).length e0
      generalize (rowN f c).length / e0 = q at hd
      generalize (rowN f c).length % e0 = r at hd hr
      generalize (rowN f c).length = L at hd
      by_cases hq : 0 < q
      · have : e0 ≤ e0 * q := Nat.le_mul_of_pos_right _ hq
        rw [if_pos hq, show min (min e0 L) r = r by omega, show min e0 L - r = e0 - r by omega]
      · have : q = 0 := by omega
        subst this
        rw [Nat.mul_zero] at hd
        rw [if_neg hq, show min (min e0 L) r = r by omega, show min e0 L - r = 0 by omega]
    · intro i a hi
      rw [List.getElem?_take] at hi
      by_cases hie : i < e0
      · rw [if_pos hie] at hi
        have hk := len_it w h0 hc hie hi
        have hb : a ∈ nons n (iter f e0) := (nons_it w h0 a).mpr (mem_heads.mpr ⟨c, hc, i, hie, hi⟩)
        have hb' := nons_dom hb
        have hm := row_pos wg hb'.1 hb'.2.1
        have h1 := (hk ((rowN (iter f e0) a).length - 1)).mp (by omega)
        have h2 : ¬ (i + e0 * (rowN (iter f e0) a).length < (rowN f c).length) := fun z => by
          have := (hk _).mpr z
          omega
        have := (step_cond h0 hie hm).mp ⟨h1, by omega⟩
        show dl x ((rowN (iter f e0) a).length : Nat) = _
        rw [this]
        by_cases hir : i < (rowN f c).length % e0
        · rw [if_pos hir, if_pos hir]
        · rw [if_neg hir, if_neg hir]
      · rw [if_neg hie] at hi; cases hi
/-! sizes, powers of powers -/
theorem gI_pos {L e : Int} (h : 0 < L) : 0 < gI L e := by
  unfold gI
  have : 0 < Nat.gcd L.toNat e.toNat := Nat.gcd_pos_of_pos_left _ (by omega)
  omega
theorem gI_dvd {L e : Int} (h : 0 < L) : gI L e * (L / gI L e) = L := by
  obtain ⟨k, rfl⟩ : ∃ k : Nat, L = (k : Int) := ⟨L.toNat, by omega⟩
  unfold gI
  rw [Int.toNat_natCast, ← Int.natCast_ediv, ← Int.natCast_mul, Nat.mul_div_cancel' (Nat.gcd_dvd_left _ _)]
theorem cq_pos {L e : Int} (h : 0 < L) : 0 < L / gI L e := by
  have h1 := gI_dvd (e := e) h
  have h2 := gI_pos (e := e) h
  refine Int.not_le.mp fun z => ?_
  have := Int.mul_le_mul_of_nonneg_left z (Int.le_of_lt h2)
  omega
theorem cφ_id {L e : Int} (h : 0 < L) : cφ e (fun x => x) L = L := gI_dvd h
theorem hφ_id {L e : Int} (h : 0 < L) (he : 0 < e) : hφ e (fun x => x) L = L := by
  unfold hφ
  have hd := Int.mul_ediv_add_emod L e
  have h1 := Int.emod_nonneg L (b := e) (by omega)
  have h2 := Int.emod_lt_of_pos L he
  have h3 : 0 ≤ L / e := Int.ediv_nonneg (by omega) (by omega)
  generalize L / e = q at hd h3
  generalize L % e = r at hd h1 h2
  by_cases hq : 0 < q
  · rw [if_pos hq]
    show r * (q + 1) + (e - r) * q = L
    rw [Int.sub_mul, Int.mul_add, Int.mul_one]
    omega
  · have : q = 0 := by omega
    subst this
    rw [if_neg hq]
    show r * (0 + 1) + 0 * 0 = L
    rw [Int.mul_zero] at hd
    omega
theorem cφ_one (φ : Int → Int) (L : Int) : cφ 1 φ L = φ L := by
  unfold cφ gI
  rw [show (1 : Int).toNat = 1 from rfl, Nat.gcd_one_right]
  show 1 * φ (L / 1) = φ L
  rw [Int.one_mul, Int.ediv_one]
theorem hφ_one (φ : Int → Int) {L : Int} (h : 0 < L) : hφ 1 φ L = φ L := by
  unfold hφ
  rw [Int.emod_one, Int.ediv_one, if_pos h, Int.zero_mul]
  omega
theorem gcd_two {L e : Nat} (hL : 1 ≤ L) : Nat.gcd L (2 * e) = Nat.gcd L e * Nat.gcd (L / Nat.gcd L e) 2 := by
  have hg : 0 < Nat.gcd L e := Nat.gcd_pos_of_pos_left _ hL
  obtain ⟨l, hl⟩ := Nat.gcd_dvd_left L e
  obtain ⟨k, hk⟩ := Nat.gcd_dvd_right L e
  have cp : Nat.Coprime (L / Nat.gcd L e) (e / Nat.gcd L e) := Nat.coprime_div_gcd_div_gcd hg
  have e1 : L / Nat.gcd L e = l := Nat.div_eq_of_eq_mul_right hg hl
  have e2 : e / Nat.gcd L e = k := Nat.div_eq_of_eq_mul_right hg hk
  rw [e1, e2] at cp
  rw [e1]
  generalize Nat.gcd L e = g at hg hl hk
  subst hl
  subst hk
  rw [show 2 * (g * k) = g * (2 * k) by rw [Nat.mul_left_comm], Nat.gcd_mul_left, Nat.gcd_comm l (2 * k), Nat.gcd_comm l 2]
  congr 1
  exact Nat.Coprime.gcd_mul_right_cancel 2 cp.symm
theorem cφ_two (φ : Int → Int) {L e : Int} (hL : 0 < L) (he : 0 < e) : cφ e (cφ 2 φ) L = cφ (2 * e) φ L := by
  obtain ⟨k, rfl⟩ : ∃ k : Nat, L = (k : Int) := ⟨L.toNat, by omega⟩
  obtain ⟨m, rfl⟩ : ∃ m : Nat, e = (m : Int) := ⟨e.toNat, by omega⟩
  have e2 : (2 : Int) * (m : Int) = ((2 * m : Nat) : Int) := by omega
  unfold cφ
  rw [e2, gI_nat, gI_nat, ← Int.natCast_ediv, show (2 : Int) = ((2 : Nat) : Int) from rfl, gI_nat, ← Int.natCast_ediv, ← Int.natCast_ediv, gcd_two (by omega), Nat.div_div_eq_div_mul, ← Int.mul_assoc, ← Int.natCast_mul]
theorem hφ_two (φ : Int → Int) {L e : Int} (hL : 0 < L) (he : 0 < e) : hφ e (hφ 2 φ) L = hφ (2 * e) φ L := by
  unfold hφ
  have hd := Int.mul_ediv_add_emod L e
  have h1 := Int.emod_nonneg L (b := e) (by omega)
  have h2 := Int.emod_lt_of_pos L he
  have h3 : 0 ≤ L / e := Int.ediv_nonneg (by omega) (by omega)
  generalize L / e = q at hd h3
  generalize L % e = r at hd h1 h2
  obtain ⟨u, b, hq, hb⟩ : ∃ u b : Int, q = 2 * u + b ∧ (b = 0 ∨ b = 1) := ⟨q / 2, q % 2, by omega, by omega⟩
  have hu : 0 ≤ u := by omega
  have k : L / (2 * e) = u ∧ L % (2 * e) = b * e + r := by
    have : L = 2 * e * u + (b * e + r) := by
      rw [← hd, hq, Int.mul_add, Int.mul_comm b e]
      have : e * (2 * u) = 2 * e * u := by rw [Int.mul_comm 2 e, Int.mul_assoc]
      omega
    have hbr : 0 ≤ b * e + r ∧ b * e + r < 2 * e := by
      rcases hb with rfl | rfl
      · rw [Int.zero_mul]; omega
      · rw [Int.one_mul]; omega
    constructor
    · rw [this, Int.add_comm, Int.add_mul_ediv_left _ _ (by omega), Int.ediv_eq_zero_of_lt hbr.1 hbr.2, Int.zero_add]
    · rw [this, Int.add_comm, Int.add_mul_emod_self_left, Int.emod_eq_of_lt hbr.1 hbr.2]
  rw [k.1, k.2]
  rcases hb with rfl | rfl
  · have a1 : (q + 1) % 2 = 1 := by omega
    have a2 : (q + 1) / 2 = u := by omega
    have a3 : q % 2 = 0 := by omega
    have a4 : q / 2 = u := by omega
    rw [a1, a2, a3, a4]
    by_cases h : 0 < u
    · rw [if_pos h, if_pos h, if_pos h, if_pos (by omega)]
      simp only [Int.zero_mul, Int.one_mul, Int.zero_add, Int.mul_add, Int.sub_mul, Int.mul_assoc, Int.add_mul]
      have : ∀ x y : Int, e * (2 * x) = 2 * (e * x) := fun x _ => by rw [Int.mul_left_comm]
      have t2 : ∀ x : Int, r * (2 * x) = 2 * (r * x) := fun x => by rw [Int.mul_left_comm]
      have t1 := this (φ u) 0
      simp only [Int.sub_zero, t1, t2, show (2 - 1 : Int) = 1 from rfl, Int.one_mul, Int.mul_sub]
      omega
    · have : u = 0 := by omega
      subst this
      rw [if_neg h, if_neg h, if_neg (by omega), if_neg h]
      simp only [Int.zero_mul, Int.one_mul, Int.zero_add, Int.mul_add, Int.add_zero, Int.mul_zero]
  · have a1 : (q + 1) % 2 = 0 := by omega
    have a2 : (q + 1) / 2 = u + 1 := by omega
    have a3 : q % 2 = 1 := by omega
    have a4 : q / 2 = u := by omega
    rw [a1, a2, a3, a4, if_pos (show 0 < u + 1 by omega), if_pos (show 0 < q by omega)]
    by_cases h : 0 < u
    · rw [if_pos h, if_pos h]
      simp only [Int.zero_mul, Int.one_mul, Int.zero_add, Int.mul_add, Int.sub_mul, Int.mul_assoc, Int.add_mul, Int.sub_zero, show (2 - 1 : Int) = 1 from rfl]
      have t2 : ∀ x : Int, r * (2 * x) = 2 * (r * x) := fun x => by rw [Int.mul_left_comm]
      simp only [t2]
      omega
    · rw [if_neg h, if_neg h]
      simp only [Int.zero_mul, Int.one_mul, Int.zero_add, Int.mul_add, Int.sub_mul, Int.mul_assoc, Int.add_mul, Int.sub_zero, Int.add_zero, Int.mul_zero]
      have t2 : ∀ x : Int, r * (2 * x) = 2 * (r * x) := fun x => by rw [Int.mul_left_comm]
      simp only [t2]
      omega
end My
namespace My
open PySem L2 U StX PM
/-! ### powers of shapes -/
theorem toPF_add {qs : List (Int × Int)} {x y : Int} (h : bag qs x + y ≠ 0) : (fun z => if z = x then some ((toPF (bag qs) x).getD 0 + y) else toPF (bag qs) z) = toPF (bag (qs ++ [(x, y)])) := by
  funext z
  rw [toPF_get]
  unfold toPF
  have e : bag (qs ++ [(x, y)]) z = bag qs z + if x = z then y else 0 := by
    rw [bag_append]
    unfold bag
    simp
  rw [e]
  by_cases hz : z = x
  · subst hz
    rw [if_pos rfl, if_pos rfl, if_neg h]
  · rw [if_neg hz, if_neg (show ¬ x = z from fun w => hz w.symm), Int.add_zero]
theorem bag_zero {qs : List (Int × Int)} {x : Int} : bag (qs ++ [(x, 0)]) = bag qs := by
  funext z
  rw [bag_append]
  unfold bag
  simp
def PosL (l : List (Int × Int)) : Prop := ∀ p ∈ l, 0 < p.1 ∧ 0 < p.2 ∧ p.1 < Bg ∧ p.2 < Bg
theorem gI_le {L e : Int} (h : 0 < L) : gI L e ≤ L := by
  obtain ⟨k, rfl⟩ : ∃ k : Nat, L = (k : Int) := ⟨L.toNat, by omega⟩
  unfold gI
  rw [Int.toNat_natCast]
  have := Nat.gcd_le_left e.toNat (show 0 < k by omega)
  omega
theorem hq_snoc (cs : List (Int × Int)) (p : Int × Int) (e : Int) : hq (cs ++ [p]) e = hq cs e ++ [hp1 e p, hp2 e p] := by
  unfold hq
  rw [List.flatMap_append]
  rfl
theorem hq_nn {cs : List (Int × Int)} {e : Int} (he : 0 < e) (ps : PosL cs) : ∀ q ∈ hq cs e, 0 ≤ q.2 := by
  intro q hq
  unfold My.hq at hq
  obtain ⟨p, hp, h⟩ := List.mem_flatMap.mp hq
  obtain ⟨h1, h2, _⟩ := ps p hp
  have r0 := Int.emod_nonneg p.1 (b := e) (by omega)
  have r1 := Int.emod_lt_of_pos p.1 he
  simp only [List.mem_cons, List.not_mem_nil, or_false] at h
  rcases h with rfl | rfl
  · exact Int.mul_nonneg (Int.le_of_lt h2) r0
  · refine Int.mul_nonneg (Int.le_of_lt h2) ?_
    by_cases h : 0 < p.1 / e
    · rw [if_pos h]; omega
    · rw [if_neg h]; exact Int.le_refl 0
def spGcdN : Sp := fun vs H Q _ => ∃ a b : Int, vs = [.int a, .int b] ∧ 0 ≤ a ∧ 0 ≤ b ∧ Q (.int (gI a b)) H
def spMerged : Sp := fun vs H Q _ => ∃ (d1 d2 : Addr) (l1 l2 : List (Int × Int)), vs = [.ref d1, .ref d2] ∧ H d1 = some (.dK (kvI l1)) ∧ H d2 = some (.dK (kvI l2)) ∧ (l1.map (·.1)).Nodup ∧ (∀ p ∈ l1, 0 < p.2) ∧ (∀ p ∈ l2, 0 < p.2) ∧ l1.length ≤ 100 ∧ l2.length ≤ 100 ∧
  ∀ p l H', Same H H' → H p = none → H' p = some (.dK (kvI l)) → DI l (toPF (bag (l1 ++ l2))) → l.length ≤ l1.length + l2.length → Q (.ref p) H'
def spCyP : Sp := fun vs H Q _ => ∃ (d : Addr) (cs : List (Int × Int)) (e : Int), vs = [.ref d, .int e] ∧ H d = some (.dK (kvI cs)) ∧ PosL cs ∧ 0 < e ∧ e < Bg ∧ cs.length ≤ 100 ∧
  ∀ p l H', Same H H' → H p = none → H' p = some (.dK (kvI l)) → DI l (toPF (bag (cq cs e))) → l.length ≤ cs.length → Q (.ref p) H'
def spChP : Sp := fun vs H Q _ => ∃ (d : Addr) (cs : List (Int × Int)) (e : Int), vs = [.ref d, .int e] ∧ H d = some (.dK (kvI cs)) ∧ PosL cs ∧ 0 < e ∧ e < Bg ∧ cs.length ≤ 100 ∧
  ∀ p l H', Same H H' → H p = none → H' p = some (.dK (kvI l)) → DI l (toPF (bag (hq cs e))) → l.length ≤ 2 * cs.length → Q (.ref p) H'
section
variable {P : Program} {w : World} {K : PySem.W.Frag} {mg : Str → Option Value} {base : Heap}
theorem ok_gcd (T : Txt K mg) : FnR P w K mg base CX0 1 T.f_greatest_divisor spGcdN := by
  refine T.A_greatest_divisor.ok sc_greatest_divisor (fun vs H Q E h => ?_) (fun cdv A outer s H vs Q E hr h => ?_)
  · obtain ⟨a, b, rfl, _⟩ := h
    rfl
  · obtain ⟨a, b, rfl, ha, hb, q⟩ := h
    obtain ⟨a, rfl⟩ : ∃ k : Nat, a = (k : Int) := ⟨a.toNat, by omega⟩
    obtain ⟨b, rfl⟩ : ∃ k : Nat, b = (k : Int) := ⟨b.toNat, by omega⟩
    rw [gI_nat] at q
    refine ⟨_, (pss_cons (ps_while PassesOwn.never (pt_cmpR op_gt (pv 1) pe_int (nomark _))
        (pss_one (ps_par (i := 0) (j := 1) rfl sc_greatest_divisor.nd rfl rfl (by decide) rfl rfl (pa_cons (pv 1) (pa_cons (pe_op op_mod (pv 0) (pv 1)) pa_nil)) (by rfl))))
      (pss_one (ps_ret (pv 0)))), ?_⟩
    refine ⟨fun m σ H' => ∃ x y : Nat, σ = [some (.int (x : Int)), some (.int (y : Int))] ∧ H' = H ∧ Nat.gcd x y = Nat.gcd a b ∧ m = y, ⟨b, a, b, rfl, rfl, rfl, rfl⟩, ?_⟩
    rintro m σ H' ⟨x, y, rfl, rfl, hg, rfl⟩
    refine ⟨_, rfl, _, _, rfl, rfl, _, rfl, ?_⟩
    refine ifD (fun h => ?_) (fun h => ?_)
    · refine ⟨fun σ' H2 => ∃ m', m' < m ∧ _, fun _ _ h => h, ?_⟩
      refine ⟨_, rfl, _, rfl, _, rfl, _, _, rfl, rfl, h, _, _, rfl, ?_⟩
      refine ⟨x % m, Nat.mod_lt _ (by omega), m, x % m, rfl, rfl, ?_, rfl⟩
      rw [← hg, Nat.gcd_comm x m, Nat.gcd_rec m x, Nat.gcd_comm]
    · have : m = 0 := by omega
      subst this
      rw [Nat.gcd_zero_right] at hg
      rw [← hg] at q
      exact ⟨_, rfl, q⟩
theorem ok_merged (T : Txt K mg) : FnR P w K mg base CX0 2 T.f_merged spMerged := by
  refine T.A_merged.ok sc_merged (fun vs H Q E h => ?_) (fun cdv A outer s H vs Q E hr h => ?_)
  · obtain ⟨d1, d2, l1, l2, rfl, _⟩ := h
    rfl
  · obtain ⟨d1, d2, l1, l2, rfl, h1, h2, nd1, p1, p2, b1, b2, q⟩ := h
    have hu := hu_of hr
    refine ⟨_, (pss_cons (ps_set (i := 2) sc_merged.nd rfl (Or.inl rfl) (pe_callTy call_dictD (by rfl) T.n_dict (by decide +kernel) (pa_cons (pv 0) pa_nil)))
      (pss_cons (ps_lock (ps_for PassesOwn.never rfl (pi_items (pv 1)) (pg_tup rfl (pgs_cons (pg_name (i := 3) sc_merged.nd rfl (Or.inl rfl)) (pgs_cons (pg_name (i := 4) sc_merged.nd rfl (Or.inl rfl)) pgs_nil)))
        (pss_one (ps_dput hu (pv 2) (pv 3) (pe_op op_add (pe_dget2 hu (pv 2) (pv 3) pe_int ⟨rfl, rfl, rfl, rfl⟩) (pv 4)) rfl))))
      (pss_one (ps_ret (pv 2))))), ?_⟩
    refine ⟨_, rfl, d1, _, rfl, .inl h1, ?_⟩
    refine fun D n_D => ?_
    generalize g_D : L2.upd _ D _ = H1
    obtain ⟨s_H1, e_D⟩ := U.upd_facts g_D n_D
    clear g_D
    have h2' := s_H1 _ _ h2
    have nd2 : d2 ≠ D := (ne_of_none h2 n_D)
    refine ⟨d2, _, h2', trivial, fun od => ?_⟩
    refine ⟨_, rfl, d2, od, kvI l2, rfl, upd_same, ?_⟩
    refine for_it walk_items (fun i σ H' => ∃ v3 v4 l, σ = [some (.ref d1), some (.ref d2), some (.ref D), v3, v4] ∧ H' d2 = some (.frz od (.dK (kvI l2))) ∧ (∀ b o, b ≠ D → b ≠ d2 → H1 b = some o → H' b = some o) ∧ H' D = some (.dK (kvI l)) ∧ DI l (toPF (bag (l1 ++ l2.take i))) ∧ l.length ≤ l1.length + i)
      ⟨_, _, l1, rfl, upd_same, fun b o _ hb e => by rw [upd_ne hb]; exact e, by rw [upd_ne nd2.symm]; exact e_D, by rw [List.take_zero, List.append_nil, bag_self ⟨nd1, fun _ => rfl⟩ p1]; exact ⟨nd1, fun _ => rfl⟩, Nat.le_refl _⟩ (fun i σ H' _ ⟨_, _, _, _, p, _⟩ => p) ?_ ?_
    · rintro i v σ Hb0 Hb hi ⟨v3, v4, l, rfl, ddb, ob, eDb, dib, hlb⟩ ⟨q0, a, b, rfl, n_q0, rfl, e1, e2⟩
      rw [kvI_length] at hi
      obtain ⟨⟨x, y⟩, exy⟩ : ∃ p, l2[i]? = some p := ⟨_, List.getElem?_eq_getElem hi⟩
      have ek : (kvI l2)[i]? = some (Sum.inl x, V.int y) := by unfold kvI; rw [List.getElem?_map, exy]; rfl
      dsimp only at e1 e2
      rw [ek] at e1 e2
      cases e1; cases e2
      have hy := p2 _ (List.mem_of_getElem? exy)
      dsimp only at hy
      generalize g_q0 : L2.upd _ q0 _ = Hc
      obtain ⟨s_Hc, e_q0⟩ := U.upd_facts g_q0 n_q0
      clear g_q0
      have eDc := s_Hc _ _ eDb
      have ddc := s_Hc _ _ ddb
      refine ⟨q0, [.int x, .int y], rfl, SqT.of e_q0, rfl, .int x, [.int y], rfl, .int y, [], rfl, rfl, ?_⟩
      have g := dgetL eDc dib x
      refine ⟨_, rfl, D, rfl, isD_of eDc, _, rfl, _, g, ?_⟩
      rw [getDI0]
      refine ⟨_, rfl, _, _, rfl, rfl, _, rfl, _, rfl, D, _, rfl, DPut.k (k := Sum.inl _) eDc (small1000 (by rw [kvI_length]; omega)), ?_⟩
      obtain ⟨l', e', hl', di'⟩ := di_putZ dib x ((toPF (bag (l1 ++ l2.take i)) x).getD 0 + y)
      rw [e']
      have nn : 0 ≤ bag (l1 ++ l2.take i) x := bag_nn (fun q hq => by
        rcases List.mem_append.mp hq with h | h
        · exact Int.le_of_lt (p1 _ h)
        · exact Int.le_of_lt (p2 _ (List.mem_of_mem_take h))) x
      rw [toPF_add (by omega)] at di'
      refine ⟨_, _, l', rfl, ?_, ?_, upd_same, ?_, by omega⟩
      · rw [upd_ne nd2]; exact ddc
      · exact fun b o h1 h2 e => by rw [upd_ne h1]; exact s_Hc _ _ (ob b o h1 h2 e)
      · rw [take_more exy, ← List.append_assoc]; exact di'
    · rintro σ Hb ⟨v3, v4, l, rfl, ddb, ob, eDb, dib, hlb⟩
      rw [kvI_length, List.take_length] at dib
      rw [kvI_length] at hlb
      refine ⟨ddb, _, rfl, q D l _ (fun b o e => ?_) n_D ?_ dib hlb⟩
      · by_cases h : b = d2
        · subst h
          rw [upd_same]
          rw [h2] at e
          exact e
        · rw [upd_ne h]
          exact ob b o (ne_of_none e n_D) h (s_H1 _ _ e)
      · rw [upd_ne nd2.symm]; exact eDb
theorem ok_cycle_powers (T : Txt K mg) : FnR P w K mg base CX0 2 T.f_cycle_powers spCyP := by
  refine T.A_cycle_powers.ok sc_cycle_powers (fun vs H Q E h => ?_) (fun cdv A outer s H vs Q E hr h => ?_)
  · obtain ⟨d, cs, e, rfl, _⟩ := h
    rfl
  · obtain ⟨d, cs, e, rfl, h1, ps, he, he9, b1, q⟩ := h
    have hu := hu_of hr
    refine ⟨_, (pss_cons (ps_set (i := 2) sc_cycle_powers.nd rfl (Or.inl rfl) pe_dnewK)
      (pss_cons (ps_lock (ps_for PassesOwn.never rfl (pi_items (pv 0)) (pg_tup rfl (pgs_cons (pg_name (i := 3) sc_cycle_powers.nd rfl (Or.inl rfl)) (pgs_cons (pg_name (i := 4) sc_cycle_powers.nd rfl (Or.inl rfl)) pgs_nil)))
        (pss_cons (ps_set (i := 5) sc_cycle_powers.nd rfl (Or.inl rfl) (pe_callR (ok_gcd T) (hr.mono (by decide)) T.A_greatest_divisor.kp rfl T.g_greatest_divisor pass0 (pa_cons (pv 3) (pa_cons (pv 1) pa_nil))))
      (pss_one (ps_dput hu (pv 2) (pe_op L2.op_fdivW (pv 3) (pv 5)) (pe_op op_add (pe_dget2 hu (pv 2) (pe_op L2.op_fdivW (pv 3) (pv 5)) pe_int ⟨rfl, rfl, rfl, rfl⟩) (pe_op L2.op_mulW (pv 4) (pv 5))) rfl)))))
      (pss_one (ps_ret (pv 2))))), ?_⟩
    refine fun D n_D => ?_
    generalize g_D : L2.upd _ D _ = H1
    obtain ⟨s_H1, e_D⟩ := U.upd_facts g_D n_D
    clear g_D
    have h1' := s_H1 _ _ h1
    have nd2 : d ≠ D := (ne_of_none h1 n_D)
    refine ⟨d, _, h1', trivial, fun od => ?_⟩
    refine ⟨_, rfl, d, od, kvI cs, rfl, upd_same, ?_⟩
    refine for_it walk_items (fun i σ H' => ∃ v3 v4 v5 l, σ = [some (.ref d), some (.int e), some (.ref D), v3, v4, v5] ∧ H' d = some (.frz od (.dK (kvI cs))) ∧ (∀ b o, b ≠ D → b ≠ d → H1 b = some o → H' b = some o) ∧ H' D = some (.dK (kvI l)) ∧ DI l (toPF (bag (cq (cs.take i) e))) ∧ l.length ≤ i)
      ⟨_, _, _, [], rfl, upd_same, fun b o _ hb e => by rw [upd_ne hb]; exact e, by rw [upd_ne nd2.symm]; exact e_D, ⟨List.nodup_nil, fun _ => rfl⟩, Nat.le_refl _⟩ (fun i σ H' _ ⟨_, _, _, _, _, p, _⟩ => p) ?_ ?_
    · rintro i v σ Hb0 Hb hi ⟨v3, v4, v5, l, rfl, ddb, ob, eDb, dib, hlb⟩ ⟨q0, a, b, rfl, n_q0, rfl, e1, e2⟩
      rw [kvI_length] at hi
      obtain ⟨⟨x, y⟩, exy⟩ : ∃ p, cs[i]? = some p := ⟨_, List.getElem?_eq_getElem hi⟩
      have ek : (kvI cs)[i]? = some (Sum.inl x, V.int y) := by unfold kvI; rw [List.getElem?_map, exy]; rfl
      dsimp only at e1 e2
      rw [ek] at e1 e2
      cases e1; cases e2
      obtain ⟨hx, hy, hx9, hy9⟩ := ps _ (List.mem_of_getElem? exy)
      dsimp only at hx hy hx9 hy9
      generalize g_q0 : L2.upd _ q0 _ = Hc
      obtain ⟨s_Hc, e_q0⟩ := U.upd_facts g_q0 n_q0
      clear g_q0
      have eDc := s_Hc _ _ eDb
      have ddc := s_Hc _ _ ddb
      have gp := gI_pos (e := e) hx
      have g9 : gI x e < Bg := by
        have := gI_le (e := e) hx
        omega
      have hdiv : CDivW x (gI x e) := Bg_div gp g9
      have hmul : CMulW y (gI x e) := Bg_mul (Int.le_of_lt hy) hy9 (Int.le_of_lt gp) g9
      refine ⟨q0, [.int x, .int y], rfl, SqT.of e_q0, rfl, .int x, [.int y], rfl, .int y, [], rfl, rfl, ?_⟩
      refine ⟨_, rfl, _, rfl, x, e, rfl, Int.le_of_lt hx, Int.le_of_lt he, ?_⟩
      have g := dgetL eDc dib (x / gI x e)
      refine ⟨_, rfl, D, rfl, isD_of eDc, _, rfl, _, rfl, _, _, rfl, rfl, hdiv, _, g, ?_⟩
      rw [getDI0]
      refine ⟨_, rfl, _, rfl, _, _, rfl, rfl, hmul, _, _, rfl, rfl, _, rfl, _, rfl, _, rfl, _, _, rfl, rfl, hdiv, D, _, rfl, DPut.k (k := Sum.inl _) eDc (small1000 (by rw [kvI_length]; omega)), ?_⟩
      obtain ⟨l', e', hl', di'⟩ := di_putZ dib (x / gI x e) ((toPF (bag (cq (cs.take i) e)) (x / gI x e)).getD 0 + y * gI x e)
      rw [e']
      have nn : 0 ≤ bag (cq (cs.take i) e) (x / gI x e) := bag_nn (fun q hq => by
        obtain ⟨p, hp, rfl⟩ := List.mem_map.mp hq
        have := ps p (List.mem_of_mem_take hp)
        exact Int.le_of_lt (Int.mul_pos this.2.1 (gI_pos this.1))) _
      have pp : 0 < y * gI x e := Int.mul_pos hy gp
      rw [toPF_add (by omega)] at di'
      refine ⟨_, _, _, l', rfl, ?_, ?_, upd_same, ?_, by omega⟩
      · rw [upd_ne nd2]; exact ddc
      · exact fun b o h1 h2 e => by rw [upd_ne h1]; exact s_Hc _ _ (ob b o h1 h2 e)
      · rw [take_more exy]
        unfold cq at di' ⊢
        rw [List.map_append]
        exact di'
    · rintro σ Hb ⟨v3, v4, v5, l, rfl, ddb, ob, eDb, dib, hlb⟩
      rw [kvI_length, List.take_length] at dib
      rw [kvI_length] at hlb
      refine ⟨ddb, _, rfl, q D l _ (fun b o e => ?_) n_D ?_ dib hlb⟩
      · by_cases h : b = d
        · subst h
          rw [upd_same]
          rw [h1] at e
          exact e
        · rw [upd_ne h]
          exact ob b o (ne_of_none e n_D) h (s_H1 _ _ e)
      · rw [upd_ne nd2.symm]; exact eDb
theorem ok_chain_powers (T : Txt K mg) : FnR P w K mg base CX0 2 T.f_chain_powers spChP := by
  refine T.A_chain_powers.ok sc_chain_powers (fun vs H Q E h => ?_) (fun cdv A outer s H vs Q E hr h => ?_)
  · obtain ⟨d, cs, e, rfl, _⟩ := h
    rfl
  · obtain ⟨d, cs, e, rfl, h1, ps, he, he9, b1, q⟩ := h
    have hu := hu_of hr
    refine ⟨_, (pss_cons (ps_set (i := 2) sc_chain_powers.nd rfl (Or.inl rfl) pe_dnewK)
      (pss_cons (ps_lock (ps_for PassesOwn.never rfl (pi_items (pv 0)) (pg_tup rfl (pgs_cons (pg_name (i := 3) sc_chain_powers.nd rfl (Or.inl rfl)) (pgs_cons (pg_name (i := 4) sc_chain_powers.nd rfl (Or.inl rfl)) pgs_nil)))
        (pss_cons (ps_asg (pe_callB L2.call_divmodW (by rfl) T.n_divmod (by decide +kernel) (pa_cons (pv 3) (pa_cons (pv 1) pa_nil))) (pg_tup rfl (pgs_cons (pg_name (i := 5) sc_chain_powers.nd rfl (Or.inl rfl)) (pgs_cons (pg_name (i := 6) sc_chain_powers.nd rfl (Or.inl rfl)) pgs_nil))))
      (pss_one (ps_for PassesOwn.never rfl (pi_tup (pe_tup (pa_cons (pe_tup (pa_cons (pe_op op_add (pv 5) pe_int) (pa_cons (pv 6) pa_nil))) (pa_cons (pe_tup (pa_cons (pv 5) (pa_cons (pe_ifExp (pt_cmpR op_gt (pv 5) pe_int (nomark _)) (pe_op op_sub (pv 1) (pv 6)) pe_int) pa_nil))) pa_nil)))) (pg_tup rfl (pgs_cons (pg_name (i := 7) sc_chain_powers.nd rfl (Or.inl rfl)) (pgs_cons (pg_name (i := 8) sc_chain_powers.nd rfl (Or.inl rfl)) pgs_nil)))
        (pss_one (ps_if (pt_cmpR op_gt (pv 8) pe_int (nomark _))
        (pss_one (ps_dput hu (pv 2) (pv 7) (pe_op op_add (pe_dget2 hu (pv 2) (pv 7) pe_int ⟨rfl, rfl, rfl, rfl⟩) (pe_op L2.op_mulW (pv 4) (pv 8))) rfl)) pss_nil)))))))
      (pss_one (ps_ret (pv 2))))), ?_⟩
    refine fun D n_D => ?_
    generalize g_D : L2.upd _ D _ = H1
    obtain ⟨s_H1, e_D⟩ := U.upd_facts g_D n_D
    clear g_D
    have h1' := s_H1 _ _ h1
    have nd2 : d ≠ D := (ne_of_none h1 n_D)
    refine ⟨d, _, h1', trivial, fun od => ?_⟩
    refine ⟨_, rfl, d, od, kvI cs, rfl, upd_same, ?_⟩
    refine for_it walk_items (fun i σ H' => ∃ v3 v4 v5 v6 v7 v8 l, σ = [some (.ref d), some (.int e), some (.ref D), v3, v4, v5, v6, v7, v8] ∧ H' d = some (.frz od (.dK (kvI cs))) ∧ (∀ b o, b ≠ D → b ≠ d → H1 b = some o → H' b = some o) ∧ H' D = some (.dK (kvI l)) ∧ DI l (toPF (bag (hq (cs.take i) e))) ∧ l.length ≤ 2 * i)
      ⟨_, _, _, _, _, _, [], rfl, upd_same, fun b o _ hb e => by rw [upd_ne hb]; exact e, by rw [upd_ne nd2.symm]; exact e_D, ⟨List.nodup_nil, fun _ => rfl⟩, Nat.le_refl _⟩ (fun i σ H' _ ⟨_, _, _, _, _, _, _, _, p, _⟩ => p) ?_ ?_
    · rintro i v σ Hb0 Hb hi ⟨v3, v4, v5, v6, v7, v8, l, rfl, ddb, ob, eDb, dib, hlb⟩ ⟨q0, a, b, rfl, n_q0, rfl, e1, e2⟩
      rw [kvI_length] at hi
      obtain ⟨⟨x, y⟩, exy⟩ : ∃ p, cs[i]? = some p := ⟨_, List.getElem?_eq_getElem hi⟩
      have ek : (kvI cs)[i]? = some (Sum.inl x, V.int y) := by unfold kvI; rw [List.getElem?_map, exy]; rfl
      dsimp only at e1 e2
      rw [ek] at e1 e2
      cases e1; cases e2
      obtain ⟨hx, hy, hx9, hy9⟩ := ps _ (List.mem_of_getElem? exy)
      dsimp only at hx hy hx9 hy9
      generalize g_q0 : L2.upd _ q0 _ = Hc
      obtain ⟨s_Hc, e_q0⟩ := U.upd_facts g_q0 n_q0
      clear g_q0
      have eDc := s_Hc _ _ eDb
      have ddc := s_Hc _ _ ddb
      have r0 := Int.emod_nonneg x (b := e) (by omega)
      have r1 := Int.emod_lt_of_pos x he
      have hdiv : CDivP x e := by
        have := Bg_div he he9 (x := x)
        exact ⟨this.1, PyProof.noPylong_of_log2 this.2⟩
      refine ⟨q0, [.int x, .int y], rfl, SqT.of e_q0, rfl, .int x, [.int y], rfl, .int y, [], rfl, rfl, ?_⟩
      refine ⟨_, rfl, _, rfl, x, e, rfl, hdiv, ?_⟩
      refine fun t n_t => ?_
      generalize g_t : L2.upd _ t _ = Hd
      obtain ⟨s_Hd, e_t⟩ := U.upd_facts g_t n_t
      clear g_t
      refine ⟨t, [.int (x / e), .int (x % e)], rfl, SqT.of e_t, rfl, .int (x / e), [.int (x % e)], rfl, .int (x % e), [], rfl, rfl, ?_⟩
      refine ⟨_, rfl, _, _, rfl, rfl, _, rfl, two_le, ?_⟩
      refine fun t1 n_t1 => ?_
      generalize g_t1 : L2.upd _ t1 _ = He
      obtain ⟨s_He, e_t1⟩ := U.upd_facts g_t1 n_t1
      clear g_t1
      obtain ⟨m2, hm2⟩ : ∃ m2 : Int, m2 = if 0 < x / e then e - x % e else 0 := ⟨_, rfl⟩
      refine ⟨_, rfl, _, rfl, _, _, rfl, rfl, _, rfl, ?_⟩
      have eDe := s_He _ _ (s_Hd _ _ eDc)
      have ddd := s_He _ _ (s_Hd _ _ ddc)
      have obe : ∀ b o, b ≠ D → b ≠ d → H1 b = some o → He b = some o := fun b o h1 h2 e => s_He _ _ (s_Hd _ _ (s_Hc _ _ (ob b o h1 h2 e)))
      have m0 : 0 ≤ m2 ∧ m2 < Bg := by
        rw [hm2]
        by_cases h : 0 < x / e
        · rw [if_pos h]; omega
        · rw [if_neg h]; have := Bg_ge; omega
      clear s_Hc s_Hd s_He eDb eDc ddb ddc e_q0 e_t ob n_q0 n_t
      refine ifD (fun h => ⟨_, rfl, _, rfl, _, _, rfl, rfl, ?_⟩) (fun h => ?_)
      all_goals
        refine ⟨two_le, ?_⟩
        refine fun t2 n_t2 => ?_
        generalize g_t2 : L2.upd _ t2 _ = Hf
        obtain ⟨s_Hf, e_t2⟩ := U.upd_facts g_t2 n_t2
        clear g_t2
        refine ⟨two_le, ?_⟩
        refine fun tt n_tt => ?_
        generalize g_tt : L2.upd _ tt _ = Hg
        obtain ⟨s_Hg, e_tt⟩ := U.upd_facts g_tt n_tt
        clear g_tt
        have e_t2' : Hg t2 = some (.tup [.int (x / e), .int m2]) := s_Hg _ _ (by first | rw [e_t2, hm2, if_pos h] | rw [e_t2, hm2, if_neg h])
        have e_t1' := s_Hg _ _ (s_Hf _ _ e_t1)
        have eDg := s_Hg _ _ (s_Hf _ _ eDe)
        have ddg := s_Hg _ _ (s_Hf _ _ ddd)
        have t1D : t1 ≠ D := ne_of e_t1' eDg (by intro z; cases z)
        have t2D : t2 ≠ D := ne_of e_t2' eDg (by intro z; cases z)
        have ttD : tt ≠ D := ne_of e_tt eDg (by intro z; cases z)
        have obg : ∀ b o, b ≠ D → b ≠ d → H1 b = some o → Hg b = some o := fun b o h1 h2 e => s_Hg _ _ (s_Hf _ _ (obe b o h1 h2 e))
        clear s_Hf s_Hg e_t1 e_t2 n_t1 n_t2 n_tt eDe ddd obe
        refine ⟨tt, rfl, ⟨_, SqT.of e_tt⟩, ?_⟩
        refine for_it (walk_tup (xs := [.ref t1, .ref t2])) (fun j σ H' => ∃ v7 v8 l', σ = [some (.ref d), some (.int e), some (.ref D), some (.int x), some (.int y), some (.int (x / e)), some (.int (x % e)), v7, v8] ∧ Off D Hg H' ∧ H' D = some (.dK (kvI l')) ∧ DI l' (toPF (bag (hq (cs.take i) e ++ [hp1 e (x, y), hp2 e (x, y)].take j))) ∧ l'.length ≤ 2 * i + j)
          ⟨_, _, l, rfl, fun b o _ e => e, eDg, by rw [List.take_zero, List.append_nil]; exact dib, by omega⟩ (fun j σ H' _ ⟨_, _, _, _, z, _⟩ => SqT.of (z _ _ ttD e_tt)) ?_ ?_
        · rintro j v σ Ha0 Ha hj ⟨v7, v8, l', rfl, oa, eDa, dia, hla⟩ ⟨rfl, ev⟩
          obtain ⟨tp, sz, pr, rfl, etp, tpD, hpr, epr⟩ : ∃ (tp : Addr) (sz pr : Int), v = .ref tp ∧ Hg tp = some (.tup [.int sz, .int pr]) ∧ tp ≠ D ∧ (0 ≤ pr ∧ pr < Bg) ∧ [hp1 e (x, y), hp2 e (x, y)].take (j + 1) = [hp1 e (x, y), hp2 e (x, y)].take j ++ [(sz, y * pr)] := by
            match j, hj, ev with
            | 0, _, ev => cases ev; exact ⟨t1, _, _, rfl, e_t1', t1D, ⟨r0, by omega⟩, rfl⟩
            | 1, _, ev => cases ev; exact ⟨t2, _, _, rfl, e_t2', t2D, m0, by rw [hm2]; rfl⟩
            | j + 2, hj, _ => exact absurd hj (by simp)
          have hj2 : j < 2 := hj
          have hmul : CMulW y pr := Bg_mul (Int.le_of_lt hy) hy9 hpr.1 hpr.2
          refine ⟨tp, [.int sz, .int pr], rfl, SqT.of (oa _ _ tpD etp), rfl, .int sz, [.int pr], rfl, .int pr, [], rfl, rfl, ?_⟩
          refine ⟨_, rfl, _, _, rfl, rfl, _, rfl, ?_⟩
          have hli : l.length ≤ 200 := by omega
          obtain ⟨qs, eqs⟩ : ∃ qs, qs = hq (cs.take i) e ++ [hp1 e (x, y), hp2 e (x, y)].take j := ⟨_, rfl⟩
          rw [← eqs] at dia
          rw [epr, ← List.append_assoc, ← eqs]
          refine ifD (fun hp0 => ?_) (fun hp0 => ?_)
          · have g := dgetL eDa dia sz
            refine ⟨_, rfl, D, rfl, isD_of eDa, _, rfl, _, g, ?_⟩
            rw [getDI0]
            refine ⟨_, rfl, _, rfl, _, _, rfl, rfl, hmul, _, _, rfl, rfl, _, rfl, _, rfl, D, _, rfl, DPut.k (k := Sum.inl _) eDa (small1000 (by rw [kvI_length]; omega)), ?_⟩
            obtain ⟨l2, e2, hl2, di2⟩ := di_putZ dia sz ((toPF (bag qs) sz).getD 0 + y * pr)
            rw [e2]
            have nn : 0 ≤ bag qs sz := bag_nn (fun q hq => by
              rw [eqs] at hq
              rcases List.mem_append.mp hq with hq | hq
              · exact hq_nn he (fun p hp => ps p (List.mem_of_mem_take hp)) q hq
              · exact hq_nn he (fun p hp => by
                  rw [List.mem_singleton] at hp
                  rw [hp]
                  exact ⟨hx, hy, hx9, hy9⟩) (cs := [(x, y)]) q (List.mem_of_mem_take hq)) _
            have pp : 0 < y * pr := Int.mul_pos hy hp0
            rw [toPF_add (by omega)] at di2
            exact ⟨_, _, l2, rfl, fun b o hb e => by rw [upd_ne hb]; exact oa b o hb e, upd_same, di2, by omega⟩
          · have : pr = 0 := by omega
            subst this
            rw [Int.mul_zero, bag_zero]
            exact ⟨_, _, l', rfl, oa, eDa, dia, by omega⟩
        · rintro σ Ha ⟨v7, v8, l', rfl, oa, eDa, dia, hla⟩
          refine ⟨_, _, _, _, _, _, l', rfl, oa _ _ nd2 ddg, fun b o h1 h2 e => oa b o h1 (obg b o h1 h2 e), eDa, ?_, ?_⟩
          · rw [take_more exy, hq_snoc]
            exact dia
          · have : [V.ref t1, V.ref t2].length = 2 := rfl
            omega
    · rintro σ Hb ⟨v3, v4, v5, v6, v7, v8, l, rfl, ddb, ob, eDb, dib, hlb⟩
      rw [kvI_length, List.take_length] at dib
      rw [kvI_length] at hlb
      refine ⟨ddb, _, rfl, q D l _ (fun b o e => ?_) n_D ?_ dib hlb⟩
      · by_cases h : b = d
        · subst h
          rw [upd_same]
          rw [h1] at e
          exact e
        · rw [upd_ne h]
          exact ob b o (ne_of_none e n_D) h (s_H1 _ _ e)
      · rw [upd_ne nd2.symm]; exact eDb
end
end My
namespace My
open PySem L2 U StX PM
/-! ### sums and powers of shapes -/
theorem bag_mem {qs : List (Int × Int)} {x : Int} (h : bag qs x ≠ 0) : ∃ q ∈ qs, q.1 = x ∧ q.2 ≠ 0 := by
  induction qs with
  | nil => exact absurd rfl h
  | cons q r ih =>
    rw [bag_cons] at h
    by_cases h1 : q.1 = x
    · by_cases h2 : q.2 = 0
      · rw [if_pos h1, h2, Int.zero_add] at h
        obtain ⟨p, hp, h3⟩ := ih h
        exact ⟨p, List.mem_cons_of_mem _ hp, h3⟩
      · exact ⟨q, List.mem_cons_self .., h1, h2⟩
    · rw [if_neg h1, Int.zero_add] at h
      obtain ⟨p, hp, h3⟩ := ih h
      exact ⟨p, List.mem_cons_of_mem _ hp, h3⟩
def tb (qs : List (Int × Int)) : Int := (qs.map (·.2)).sum
theorem bag_tb {qs : List (Int × Int)} (h : ∀ q ∈ qs, 0 ≤ q.2) (x : Int) : bag qs x ≤ tb qs := by
  induction qs with
  | nil => exact Int.le_refl 0
  | cons q r ih =>
    have h1 := h q (List.mem_cons_self ..)
    have h2 := ih fun q hq => h q (List.mem_cons_of_mem _ hq)
    rw [bag_cons]
    unfold tb at h2 ⊢
    rw [List.map_cons, List.sum_cons]
    by_cases e : q.1 = x
    · rw [if_pos e]; omega
    · rw [if_neg e]; omega
theorem pos_bag {qs l : List (Int × Int)} (d : DI l (toPF (bag qs))) (hn : ∀ q ∈ qs, 0 ≤ q.2) (hk : ∀ q ∈ qs, q.2 ≠ 0 → 0 < q.1 ∧ q.1 < Bg) (hb : tb qs < Bg) : Pos l := by
  rintro ⟨x, y⟩ hp
  obtain ⟨e, ne⟩ := toPF_some.mp (d.mem.mp hp)
  have h0 := bag_nn hn x
  have h1 := bag_tb hn x
  obtain ⟨q, hq, rfl, h2⟩ := bag_mem (qs := qs) (x := x) (by omega)
  have := hk q hq h2
  exact ⟨this.1, by show 0 < y; omega, this.2, by show y < Bg; omega⟩
theorem tb_cons (q : Int × Int) (r : List (Int × Int)) : tb (q :: r) = q.2 + tb r := by
  unfold tb
  rw [List.map_cons, List.sum_cons]
theorem tb_append (a b : List (Int × Int)) : tb (a ++ b) = tb a + tb b := by
  unfold tb
  rw [List.map_append, List.sum_append]
theorem szL_cons (q : Int × Int) (r : List (Int × Int)) : szL (q :: r) = q.1 * q.2 + szL r := by
  unfold szL
  rw [List.map_cons, List.sum_cons]
theorem szL_w (l : List (Int × Int)) : szL l = wsum l fun x => x := by
  unfold szL wsum
  congr 1
  exact List.map_congr_left fun p _ => Int.mul_comm _ _
def PP (l : List (Int × Int)) : Prop := ∀ p ∈ l, 0 < p.1 ∧ 0 < p.2
theorem PP.cons {p : Int × Int} {l : List (Int × Int)} (h : PP (p :: l)) : (0 < p.1 ∧ 0 < p.2) ∧ PP l := ⟨h p (List.mem_cons_self ..), fun q hq => h q (List.mem_cons_of_mem _ hq)⟩
theorem le_mulL {a b : Int} (ha : 0 ≤ a) (hb : 1 ≤ b) : a ≤ a * b := by
  have := Int.mul_le_mul_of_nonneg_left hb ha
  omega
theorem le_mulR {a b : Int} (ha : 0 ≤ a) (hb : 1 ≤ b) : a ≤ b * a := by
  rw [Int.mul_comm]
  exact le_mulL ha hb
theorem tb_szL {l : List (Int × Int)} (h : PP l) : tb l ≤ szL l := by
  induction l with
  | nil => exact Int.le_refl 0
  | cons p r ih =>
    obtain ⟨⟨h1, h2⟩, h3⟩ := h.cons
    rw [tb_cons, szL_cons]
    have := ih h3
    have := le_mulR (a := p.2) (b := p.1) (by omega) (by omega)
    omega
theorem tb_cq {cs : List (Int × Int)} (h : PP cs) (e : Int) : tb (cq cs e) ≤ szL cs := by
  induction cs with
  | nil => exact Int.le_refl 0
  | cons p r ih =>
    obtain ⟨⟨h1, h2⟩, h3⟩ := h.cons
    show tb ((p.1 / gI p.1 e, p.2 * gI p.1 e) :: cq r e) ≤ _
    rw [tb_cons, szL_cons]
    have := ih h3
    have h4 := gI_le (e := e) h1
    have h5 := Int.mul_le_mul_of_nonneg_left h4 (Int.le_of_lt h2)
    rw [Int.mul_comm p.1 p.2]
    show p.2 * gI p.1 e + _ ≤ _
    omega
theorem hp_le {x e : Int} (hx : 0 < x) (he : 0 < e) : x % e + (if 0 < x / e then e - x % e else 0) ≤ x := by
  have hd := Int.mul_ediv_add_emod x e
  have h1 := Int.emod_nonneg x (b := e) (by omega)
  by_cases h : 0 < x / e
  · rw [if_pos h]
    have := le_mulL (a := e) (b := x / e) (by omega) (by omega)
    omega
  · rw [if_neg h]
    have h3 : 0 ≤ x / e := Int.ediv_nonneg (by omega) (by omega)
    have : x / e = 0 := by omega
    rw [this, Int.mul_zero] at hd
    omega
theorem tb_hq {cs : List (Int × Int)} (h : PP cs) {e : Int} (he : 0 < e) : tb (hq cs e) ≤ szL cs := by
  induction cs with
  | nil => exact Int.le_refl 0
  | cons p r ih =>
    obtain ⟨⟨h1, h2⟩, h3⟩ := h.cons
    show tb (hp1 e p :: hp2 e p :: hq r e) ≤ _
    rw [tb_cons, tb_cons, szL_cons]
    have := ih h3
    have h5 := Int.mul_le_mul_of_nonneg_left (hp_le h1 he) (Int.le_of_lt h2)
    rw [Int.mul_comm p.1 p.2]
    rw [Int.mul_add] at h5
    show p.2 * (p.1 % e) + (p.2 * (if 0 < p.1 / e then e - p.1 % e else 0) + _) ≤ _
    omega
theorem hq_nn' {cs : List (Int × Int)} {e : Int} (he : 0 < e) (h : PP cs) : ∀ q ∈ hq cs e, 0 ≤ q.2 := by
  intro q hq
  unfold My.hq at hq
  obtain ⟨p, hp, hh⟩ := List.mem_flatMap.mp hq
  obtain ⟨h1, h2⟩ := h p hp
  have r0 := Int.emod_nonneg p.1 (b := e) (by omega)
  have r1 := Int.emod_lt_of_pos p.1 he
  simp only [List.mem_cons, List.not_mem_nil, or_false] at hh
  rcases hh with rfl | rfl
  · exact Int.mul_nonneg (Int.le_of_lt h2) r0
  · refine Int.mul_nonneg (Int.le_of_lt h2) ?_
    by_cases h : 0 < p.1 / e
    · rw [if_pos h]; omega
    · rw [if_neg h]; exact Int.le_refl 0
theorem Asc.pp {l : List (Int × Int)} (h : Asc l) : PP l := fun p hp => ⟨(h.2 p hp).1, (h.2 p hp).2.1⟩
theorem Asc.posL {l : List (Int × Int)} (h : Asc l) : PosL l := fun p hp => h.2 p hp
theorem pos_cq {cs l : List (Int × Int)} (h : Asc cs) {e : Int} (he : 0 < e) (d : DI l (toPF (bag (cq cs e)))) (hb : szL cs < Bg) : Pos l := by
  refine pos_bag d (fun q hq => ?_) (fun q hq _ => ?_) (Int.lt_of_le_of_lt (tb_cq h.pp e) hb)
  · obtain ⟨p, hp, rfl⟩ := List.mem_map.mp hq
    exact Int.le_of_lt (Int.mul_pos (h.pp p hp).2 (gI_pos (h.pp p hp).1))
  · obtain ⟨p, hp, rfl⟩ := List.mem_map.mp hq
    obtain ⟨h1, h2, h3, h4⟩ := h.2 p hp
    refine ⟨cq_pos h1, ?_⟩
    have := gI_dvd (e := e) h1
    have h5 := cq_pos (e := e) h1
    have := le_mulR (a := p.1 / gI p.1 e) (b := gI p.1 e) (Int.le_of_lt h5) (gI_pos h1)
    show p.1 / gI p.1 e < Bg
    omega
theorem pos_hq {cs l : List (Int × Int)} (h : Asc cs) {e : Int} (he : 0 < e) (d : DI l (toPF (bag (hq cs e)))) (hb : szL cs < Bg) : Pos l := by
  refine pos_bag d (hq_nn' he h.pp) (fun q hq hne => ?_) (Int.lt_of_le_of_lt (tb_hq h.pp he) hb)
  unfold My.hq at hq
  obtain ⟨p, hp, hh⟩ := List.mem_flatMap.mp hq
  obtain ⟨h1, h2, h3, h4⟩ := h.2 p hp
  have hd := Int.mul_ediv_add_emod p.1 e
  have r0 := Int.emod_nonneg p.1 (b := e) (by omega)
  have q0 : 0 ≤ p.1 / e := Int.ediv_nonneg (by omega) (by omega)
  have := le_mulR (a := p.1 / e) (b := e) q0 he
  simp only [List.mem_cons, List.not_mem_nil, or_false] at hh
  rcases hh with rfl | rfl
  · have : p.1 % e ≠ 0 := fun z => hne (by show p.2 * (p.1 % e) = 0; rw [z, Int.mul_zero])
    show 0 < p.1 / e + 1 ∧ p.1 / e + 1 < Bg
    omega
  · have : 0 < p.1 / e := Decidable.byContradiction fun z => hne (by show p.2 * (if 0 < p.1 / e then e - p.1 % e else 0) = 0; rw [if_neg z, Int.mul_zero])
    show 0 < p.1 / e ∧ p.1 / e < Bg
    omega
theorem pos_app {a b l : List (Int × Int)} (ha : Asc a) (hb : Asc b) (d : DI l (toPF (bag (a ++ b)))) (h : szL a + szL b < Bg) : Pos l := by
  refine pos_bag d (fun q hq => ?_) (fun q hq _ => ?_) ?_
  · rcases List.mem_append.mp hq with h | h
    · exact Int.le_of_lt (ha.pp q h).2
    · exact Int.le_of_lt (hb.pp q h).2
  · rcases List.mem_append.mp hq with h | h
    · exact ⟨(ha.2 q h).1, (ha.2 q h).2.2.1⟩
    · exact ⟨(hb.2 q h).1, (hb.2 q h).2.2.1⟩
  · rw [tb_append]
    have := tb_szL ha.pp
    have := tb_szL hb.pp
    omega
def Sh1 (C : Addr) (H : Hp) (s : Addr) (cs hs : List (Int × Int)) : Prop := IsShape C H s cs hs ∧ cs.length ≤ 40 ∧ hs.length ≤ 40 ∧ szL cs < Bg ∧ szL hs < Bg
def spShAdd (C : Addr) : Sp := fun vs H Q _ => ∃ (a b : Addr) (cs hs cs' hs' : List (Int × Int)), vs = [.ref a, .ref b] ∧ Sh1 C H a cs hs ∧ Sh1 C H b cs' hs' ∧ szL cs + szL cs' < Bg ∧ szL hs + szL hs' < Bg ∧
  ∀ r c2 h2 H', H r = none → Same H H' → IsShape C H' r c2 h2 → DI c2 (toPF (bag (cs ++ cs'))) → DI h2 (toPF (bag (hs ++ hs'))) → Q (.ref r) H'
def spShPow (C CM CE : Addr) : Sp := fun vs H Q E => ∃ (s : Addr) (cs hs : List (Int × Int)) (x : V), vs = [.ref s, x] ∧ Sh1 C H s cs hs ∧ ((∃ e : Int, x = .int e ∧ 0 < e ∧ e < Bg ∧
  ∀ r c2 h2 H', H r = none → Same H H' → IsShape C H' r c2 h2 → DI c2 (toPF (bag (cq cs e))) → DI h2 (toPF (bag (hq hs e))) → c2.length ≤ cs.length → h2.length ≤ 2 * hs.length → Q (.ref r) H') ∨
  (((∃ e : Int, x = .int e ∧ e < 1) ∨ (knownV CM H x ∧ isI x = false)) ∧ ∀ d, H d = none → E (.ref CE) (some d) (upd H d (.xd [("value", x)]))))
section
variable {P : Program} {w : World} {K : PySem.W.Frag} {mg : Str → Option Value} {base : Heap}
theorem ok_sh_add (T : Txt K mg) : FnR P w K mg base CX0 7 T.f_Shape__add (spShAdd T.C_Shape) := by
  refine T.A_Shape__add.ok sc_Shape__add (fun vs H Q E h => ?_) (fun cdv A outer s H vs Q E hr h => ?_)
  · obtain ⟨a, b, cs, hs, cs', hs', rfl, _⟩ := h
    rfl
  · obtain ⟨a, b, cs, hs, cs', hs', rfl, ⟨⟨⟨dx, D1, D2, h1, h2, h3⟩, as1, as2, _, _⟩, b1, b2, z1, z2⟩, ⟨is', b1', b2', z1', z2'⟩, z3, z4, q⟩ := h
    obtain ⟨⟨dx', D1', D2', h1', h2', h3'⟩, as1', as2', _⟩ := id is'
    refine ⟨_, (pss_cons (ps_if (pt_not (pt_val (pe_callB call_isi (by rfl) T.n_isinstance (by decide +kernel) (pa_cons (pv 1) (pa_cons (pe_glob (v := .ref T.C_Shape) rfl T.g_Shape rfl) pa_nil)))))
        (pss_one ps_never) pss_nil)
      (pss_one (ps_ret (pe_makeR T.M_Shape (ok_sh_init T) (hr.mono (by decide)) rfl T.g_Shape pass0 (pa_cons (pe_callR (ok_merged T) (hr.mono (by decide)) T.A_merged.kp rfl T.g_merged pass0 (pa_cons (pe_fld (pv 0) rfl) (pa_cons (pe_propR (pv 1) T.o_Shape.cl T.P_Shape_cycles (ok_sh_cycles T) (hr.mono (by decide))) pa_nil))) (pa_cons (pe_callR (ok_merged T) (hr.mono (by decide)) T.A_merged.kp rfl T.g_merged pass0 (pa_cons (pe_fld (pv 0) rfl) (pa_cons (pe_propR (pv 1) T.o_Shape.cl T.P_Shape_chains (ok_sh_chains T) (hr.mono (by decide))) pa_nil))) pa_nil)))))), ?_⟩
    refine ⟨_, rfl, _, _, _, _, true, rfl, .own _, tyx_ins T.o_Shape h1', T.self_Shape, _, rfl, iteF ?_⟩
    refine ⟨_, rfl, a, _, dx, _, _, rfl, h1, T.o_Shape.cl, T.na_own_cycles_Shape, rfl, _, rfl, b, dx', _, rfl, h1', b, cs', hs', rfl, is', ?_⟩
    refine fun d1 n_d1 => ?_
    generalize g_d1 : L2.upd _ d1 _ = H1
    obtain ⟨s_H1, e_d1⟩ := U.upd_facts g_d1 n_d1
    clear g_d1
    refine ⟨D1, d1, cs, cs', rfl, s_H1 _ _ h2, e_d1, as1.nd, fun p hp => (as1.pp p hp).2, fun p hp => (as1'.pp p hp).2, by omega, by omega, fun p1 l1 H2 s2 np1 hp1 di1 ll1 => ?_⟩
    have s12 := s_H1.trans s2
    refine ⟨_, rfl, a, _, dx, _, _, rfl, s12 _ _ h1, T.o_Shape.cl, T.na_own_chains_Shape, rfl, _, rfl, b, dx', _, rfl, s12 _ _ h1', b, cs', hs', rfl, is'.same s12, ?_⟩
    refine fun d2 n_d2 => ?_
    generalize g_d2 : L2.upd _ d2 _ = H3
    obtain ⟨s_H3, e_d2⟩ := U.upd_facts g_d2 n_d2
    clear g_d2
    have s13 := s12.trans s_H3
    refine ⟨D2, d2, hs, hs', rfl, s13 _ _ h3, e_d2, as2.nd, fun p hp => (as2.pp p hp).2, fun p hp => (as2'.pp p hp).2, by omega, by omega, fun p2 l2 H4 s4 np2 hp2 di2 ll2 => ?_⟩
    have s14 := s13.trans s4
    refine fun x dx2 nx ndx ne => initS_of (s4 _ _ (s_H3 _ _ hp1)) hp2 di1.nd di2.nd (pos_app as1 as1' di1 z3) (pos_app as2 as2' di2 z4) (by omega) (by omega) nx ndx ne fun c3 h3 H5 s5 pm1 pm2 sh => ⟨rfl, ?_⟩
    exact q x c3 h3 H5 (s14.free nx) (s14.trans s5) sh (di_perm di1 pm1) (di_perm di2 pm2)
theorem okX_sh_power (T : Txt K mg) : FnR P w K mg base (L2.CX P w) 7 T.f_Shape_power (spShPow T.C_Shape T.C_Map T.C_InvalidNumber) := by
  refine T.A_Shape_power.okX sc_Shape_power (fun vs H Q E h => ?_) (fun cdv A outer s H vs Q E hr h => ?_)
  · obtain ⟨s, cs, hs, x, rfl, _⟩ := h
    rfl
  · obtain ⟨sh, cs, hs, x, rfl, ⟨is1, b1, b2, z1, z2⟩, hx⟩ := h
    obtain ⟨⟨dx, D1, D2, h1, h2, h3⟩, as1, as2, _, _⟩ := id is1
    refine ⟨_, (pss_cons (ps_if (PW.pt (pw_or (pt_not (pt_val (pe_callR (ok_is_integer T) (hr.mono (by decide)) T.A_is_integer.kp rfl T.g_is_integer pass0 (pa_cons (pv 1) pa_nil)))) (pw_or1 (pt_cmpR op_lt (pv 1) pe_int (nomark _)))))
        (pss_one (ps_raise rfl (takes_of rfl rfl rfl rfl) (pmk_oexG T.x_InvalidNumber T.m_InvalidNumber__init T.ti_InvalidNumber__init (ok_ini_InvalidNumber T) (hr.mono (by decide)) pass0 rfl T.g_InvalidNumber (pa_cons (pv 1) pa_nil)))) pss_nil)
      (pss_one (ps_ret (pe_makeR T.M_Shape (ok_sh_init T) (hr.mono (by decide)) rfl T.g_Shape pass0 (pa_cons (pe_callR (ok_cycle_powers T) (hr.mono (by decide)) T.A_cycle_powers.kp rfl T.g_cycle_powers pass0 (pa_cons (pe_fld (pv 0) rfl) (pa_cons (pv 1) pa_nil))) (pa_cons (pe_callR (ok_chain_powers T) (hr.mono (by decide)) T.A_chain_powers.kp rfl T.g_chain_powers pass0 (pa_cons (pe_fld (pv 0) rfl) (pa_cons (pv 1) pa_nil))) pa_nil)))))), ?_⟩
    rcases hx with ⟨e, rfl, he, he9, q⟩ | ⟨hbad, qx⟩
    · refine ⟨_, rfl, .int e, rfl, trivial, _, rfl, iteF ?_⟩
      refine ⟨_, rfl, _, _, rfl, rfl, _, rfl, ?_⟩
      refine ifD (fun h => by exfalso; omega) (fun _ => ?_)
      refine ⟨_, rfl, sh, _, dx, _, _, rfl, h1, T.o_Shape.cl, T.na_own_cycles_Shape, rfl, _, rfl, D1, cs, e, rfl, h2, as1.posL, he, he9, by omega, fun p1 l1 H1 s1 np1 hp1 di1 ll1 => ?_⟩
      refine ⟨_, rfl, sh, _, dx, _, _, rfl, s1 _ _ h1, T.o_Shape.cl, T.na_own_chains_Shape, rfl, _, rfl, D2, hs, e, rfl, s1 _ _ h3, as2.posL, he, he9, by omega, fun p2 l2 H2 s2 np2 hp2 di2 ll2 => ?_⟩
      have s12 := s1.trans s2
      refine fun x dx2 nx ndx ne => initS_of (s2 _ _ hp1) hp2 di1.nd di2.nd (pos_cq as1 he di1 z1) (pos_hq as2 he di2 z2) (by omega) (by omega) nx ndx ne fun c3 h3 H5 s5 pm1 pm2 sh => ⟨rfl, ?_⟩
      exact q x c3 h3 H5 (s12.free nx) (s12.trans s5) sh (di_perm di1 pm1) (di_perm di2 pm2) (by rw [pm1.length_eq]; exact ll1) (by rw [pm2.length_eq]; exact ll2)
    · rcases hbad with ⟨e, rfl, he⟩ | ⟨hk, hi⟩
      · refine ⟨_, rfl, .int e, rfl, trivial, _, rfl, iteF ?_⟩
        refine ⟨_, rfl, _, _, rfl, rfl, _, rfl, ?_⟩
        refine ifD (fun _ => ?_) (fun h => absurd he h)
        exact ⟨_, rfl, mk_one fun d hd => qx d hd⟩
      · refine ⟨_, rfl, x, rfl, hk, _, rfl, ?_⟩
        rw [hi]
        exact iteT ⟨_, rfl, mk_one fun d hd => qx d hd⟩
end
end My
namespace My
open PySem L2 U StX PM
/-! ### the law's helpers -/
theorem asc_eqN {l m : List (Int × Int)} {f : PF} (a : Asc l) (b : Asc m) (d1 : DI l f) (d2 : DI m f) : l = m := asc_uniq a b fun p => (d1.mem (x := p.1) (y := p.2)).trans (d2.mem (x := p.1) (y := p.2)).symm
def spShPowI (C : Addr) : Sp := fun vs H Q _ => ∃ (s : Addr) (cs hs : List (Int × Int)) (e : Int), vs = [.ref s, .int e] ∧ Sh1 C H s cs hs ∧ 0 < e ∧ e < Bg ∧
  ∀ r c2 h2 H', H r = none → Same H H' → IsShape C H' r c2 h2 → DI c2 (toPF (bag (cq cs e))) → DI h2 (toPF (bag (hq hs e))) → Q (.ref r) H'
def spChnL : Sp := fun vs H Q _ => ∃ (x e : Int), vs = [.int x, .int e] ∧ 0 < x ∧ x < Bg ∧ 0 < e ∧ e < Bg ∧
  ∀ p l H', Same H H' → H p = none → H' p = some (.dK (kvI l)) → DI l (toPF (bag (hq [(x, 1)] e))) → l.length ≤ 2 → Q (.ref p) H'
def spRefS (K : PySem.W.Frag) (C CM : Addr) : Sp := fun vs H Q _ => ∃ (a : Addr) (cs hs : List (Int × Int)) (x : V) (z : Str), vs = [.ref a, x] ∧ Sh1 C H a cs hs ∧ ((∃ e : Int, x = .int e ∧ e < 1) ∨ (knownV CM H x ∧ isI x = false)) ∧ (∀ H', Same H H' → ∃ d, Dp K H' x d ∧ d.showable = true ∧ d.hasDict = false ∧ d.depth ≤ 60 ∧ d.shown.length ≤ sizeLine ∧ z = d.shown) ∧ ∀ p H', Same H H' → H p = none → H' p = some (.lst [.bl true, .str z]) → Q (.ref p) H'
section
variable {P : Program} {w : World} {K : PySem.W.Frag} {mg : Str → Option Value} {base : Heap}
theorem ok_sh_pow (T : Txt K mg) : FnR P w K mg base CX0 9 T.f_Shape__pow (spShPowI T.C_Shape) := by
  refine T.A_Shape__pow.ok sc_Shape__pow (fun vs H Q E h => ?_) (fun cdv A outer s H vs Q E hr h => ?_)
  · obtain ⟨s, cs, hs, e, rfl, _⟩ := h
    rfl
  · obtain ⟨sh, cs, hs, e, rfl, is1, he, he9, q⟩ := h
    obtain ⟨⟨dx, D1, D2, h1, h2, h3⟩, _⟩ := id is1.1
    refine ⟨_, (pss_cons (ps_if (pt_not (pt_val (pe_callR (ok_is_integer T) (hr.mono (by decide)) T.A_is_integer.kp rfl T.g_is_integer pass0 (pa_cons (pv 1) pa_nil))))
        (pss_one ps_never) pss_nil)
      (pss_one (ps_ret (pe_methR (pv 0) T.o_Shape.cl T.meth_Shape_power (fnR_calm (okX_sh_power T)) (hr.mono (by decide)) pass0 (pa_cons (pv 1) pa_nil))))), ?_⟩
    refine ⟨_, rfl, .int e, rfl, trivial, _, rfl, iteF ?_⟩
    exact ⟨_, rfl, sh, dx, _, rfl, h1, by rfl, _, rfl, sh, cs, hs, .int e, rfl, is1, .inl ⟨e, rfl, he, he9, fun r c2 h2 H' nr s1 is2 d1 d2 _ _ => q r c2 h2 H' nr s1 is2 d1 d2⟩⟩
theorem ok_l_divisor (T : Txt K mg) : FnR P w K mg base CX0 1 T.f_l_divisor spGcdN := by
  refine T.A_l_divisor.ok sc_l_divisor (fun vs H Q E h => ?_) (fun cdv A outer s H vs Q E hr h => ?_)
  · obtain ⟨a, b, rfl, _⟩ := h
    rfl
  · obtain ⟨a, b, rfl, ha, hb, q⟩ := h
    obtain ⟨a, rfl⟩ : ∃ k : Nat, a = (k : Int) := ⟨a.toNat, by omega⟩
    obtain ⟨b, rfl⟩ : ∃ k : Nat, b = (k : Int) := ⟨b.toNat, by omega⟩
    rw [gI_nat] at q
    refine ⟨_, (pss_cons (ps_while PassesOwn.never (pt_cmpR op_gt (pv 1) pe_int (nomark _))
        (pss_one (ps_par (i := 0) (j := 1) rfl sc_l_divisor.nd rfl rfl (by decide) rfl rfl (pa_cons (pv 1) (pa_cons (pe_op op_mod (pv 0) (pv 1)) pa_nil)) (by rfl))))
      (pss_one (ps_ret (pv 0)))), ?_⟩
    refine ⟨fun m σ H' => ∃ x y : Nat, σ = [some (.int (x : Int)), some (.int (y : Int))] ∧ H' = H ∧ Nat.gcd x y = Nat.gcd a b ∧ m = y, ⟨b, a, b, rfl, rfl, rfl, rfl⟩, ?_⟩
    rintro m σ H' ⟨x, y, rfl, rfl, hg, rfl⟩
    refine ⟨_, rfl, _, _, rfl, rfl, _, rfl, ?_⟩
    refine ifD (fun h => ?_) (fun h => ?_)
    · refine ⟨fun σ' H2 => ∃ m', m' < m ∧ _, fun _ _ h => h, ?_⟩
      refine ⟨_, rfl, _, rfl, _, rfl, _, _, rfl, rfl, h, _, _, rfl, ?_⟩
      refine ⟨x % m, Nat.mod_lt _ (by omega), m, x % m, rfl, rfl, ?_, rfl⟩
      rw [← hg, Nat.gcd_comm x m, Nat.gcd_rec m x, Nat.gcd_comm]
    · have : m = 0 := by omega
      subst this
      rw [Nat.gcd_zero_right] at hg
      rw [← hg] at q
      exact ⟨_, rfl, q⟩
theorem ok_l_chain (T : Txt K mg) : FnR P w K mg base CX0 2 T.f_l_chain spChnL := by
  refine T.A_l_chain.ok sc_l_chain (fun vs H Q E h => ?_) (fun cdv A outer s H vs Q E hr h => ?_)
  · obtain ⟨x, e, rfl, _⟩ := h
    rfl
  · obtain ⟨x, e, rfl, hx, hx9, he, he9, q⟩ := h
    have hu := hu_of hr
    have hdiv : CDivW x e := Bg_div he he9
    refine ⟨_, (pss_cons (ps_set (i := 2) sc_l_chain.nd rfl (Or.inl rfl) pe_dnewK)
      (pss_cons (ps_set (i := 3) sc_l_chain.nd rfl (Or.inl rfl) (pe_lst (pa_cons (pe_tup (pa_cons (pe_op op_add (pe_op L2.op_fdivW (pv 0) (pv 1)) pe_int) (pa_cons (pe_op op_mod (pv 0) (pv 1)) pa_nil))) (pa_cons (pe_tup (pa_cons (pe_op L2.op_fdivW (pv 0) (pv 1)) (pa_cons (pe_op op_sub (pv 1) (pe_op op_mod (pv 0) (pv 1))) pa_nil))) pa_nil))))
      (pss_cons (ps_for PassesOwn.never rfl (pi_list (pv 3)) (pg_tup rfl (pgs_cons (pg_name (i := 4) sc_l_chain.nd rfl (Or.inl rfl)) (pgs_cons (pg_name (i := 5) sc_l_chain.nd rfl (Or.inl rfl)) pgs_nil)))
        (pss_one (ps_if (PW.pt (pw_and (pt_cmpR op_gt (pv 4) pe_int (nomark _)) (pw_and1 (pt_cmpR op_gt (pv 5) pe_int (nomark _)))))
        (pss_one (ps_dput hu (pv 2) (pv 4) (pe_op op_add (pe_dget2 hu (pv 2) (pv 4) pe_int ⟨rfl, rfl, rfl, rfl⟩) (pv 5)) rfl)) pss_nil)))
      (pss_one (ps_ret (pv 2)))))), ?_⟩
    refine fun D n_D => ?_
    generalize g_D : L2.upd _ D _ = H1
    obtain ⟨s_H1, e_D⟩ := U.upd_facts g_D n_D
    clear g_D
    refine ⟨_, rfl, _, rfl, _, _, rfl, rfl, hdiv, _, _, rfl, rfl, _, rfl, _, rfl, _, _, rfl, rfl, he, two_le, ?_⟩
    refine fun t1 n_t1 => ?_
    generalize g_t1 : L2.upd _ t1 _ = H2
    obtain ⟨s_H2, e_t1⟩ := U.upd_facts g_t1 n_t1
    clear g_t1
    refine ⟨_, rfl, _, rfl, _, _, rfl, rfl, hdiv, _, rfl, _, rfl, _, rfl, _, _, rfl, rfl, he, _, _, rfl, rfl, two_le, ?_⟩
    refine fun t2 n_t2 => ?_
    generalize g_t2 : L2.upd _ t2 _ = H3
    obtain ⟨s_H3, e_t2⟩ := U.upd_facts g_t2 n_t2
    clear g_t2
    refine ⟨two_le, ?_⟩
    refine fun R n_R => ?_
    generalize g_R : L2.upd _ R _ = H4
    obtain ⟨s_H4, e_R⟩ := U.upd_facts g_R n_R
    clear g_R
    have r0 := Int.emod_nonneg x (b := e) (by omega)
    have r1 := Int.emod_lt_of_pos x he
    have q0 : 0 ≤ x / e := Int.ediv_nonneg (by omega) (by omega)
    have nD : H D = none := n_D
    have s04 : Same H H4 := ((s_H1.trans s_H2).trans s_H3).trans s_H4
    have eD4 : H4 D = some (.dK []) := s_H4 _ _ (s_H3 _ _ (s_H2 _ _ e_D))
    have et1 : H4 t1 = some (.tup [.int (x / e + 1), .int (x % e)]) := s_H4 _ _ (s_H3 _ _ e_t1)
    have et2 : H4 t2 = some (.tup [.int (x / e), .int (e - x % e)]) := s_H4 _ _ e_t2
    have t1D : t1 ≠ D := ne_of et1 eD4 (by intro z; cases z)
    have t2D : t2 ≠ D := ne_of et2 eD4 (by intro z; cases z)
    have RD : R ≠ D := ne_of e_R eD4 (by intro z; cases z)
    clear s_H1 s_H2 s_H3 s_H4 e_D e_t1 e_t2 n_t1 n_t2 n_R
    refine ⟨_, rfl, R, rfl, ⟨_, SqL.of e_R⟩, ?_⟩
    refine for_it (walk_list (xs := [.ref t1, .ref t2])) (fun j σ H' => ∃ v4 v5 l', σ = [some (.int x), some (.int e), some (.ref D), some (.ref R), v4, v5] ∧ Off D H4 H' ∧ H' D = some (.dK (kvI l')) ∧ DI l' (toPF (bag ([hp1 e (x, 1), hp2 e (x, 1)].take j))) ∧ l'.length ≤ j)
      ⟨_, _, [], rfl, fun b o _ e => e, eD4, ⟨List.nodup_nil, fun _ => rfl⟩, Nat.le_refl _⟩ (fun j σ H' _ ⟨_, _, _, _, z, _⟩ => SqL.of (z _ _ RD e_R)) ?_ ?_
    · rintro j v σ Ha0 Ha hj ⟨v4, v5, l', rfl, oa, eDa, dia, hla⟩ ⟨rfl, ev⟩
      obtain ⟨tp, sz, pr, rfl, etp, tpD, hpr, epr⟩ : ∃ (tp : Addr) (sz pr : Int), v = .ref tp ∧ H4 tp = some (.tup [.int sz, .int pr]) ∧ tp ≠ D ∧ (0 ≤ sz ∧ 0 ≤ pr) ∧ [hp1 e (x, 1), hp2 e (x, 1)].take (j + 1) = [hp1 e (x, 1), hp2 e (x, 1)].take j ++ [(sz, if 0 < sz then pr else 0)] := by
        match j, hj, ev with
        | 0, _, ev => cases ev; exact ⟨t1, _, _, rfl, et1, t1D, ⟨by omega, r0⟩, by rw [if_pos (by omega)]; show [hp1 e (x, 1)] = _; unfold hp1; rw [Int.one_mul]; rfl⟩
        | 1, _, ev => cases ev; exact ⟨t2, _, _, rfl, et2, t2D, ⟨q0, by omega⟩, by show [hp1 e (x, 1), hp2 e (x, 1)] = [hp1 e (x, 1)] ++ _; unfold hp2; rw [Int.one_mul]; rfl⟩
        | j + 2, hj, _ => exact absurd hj (by simp)
      have hj2 : j < 2 := hj
      refine ⟨tp, [.int sz, .int pr], rfl, SqT.of (oa _ _ tpD etp), rfl, .int sz, [.int pr], rfl, .int pr, [], rfl, rfl, ?_⟩
      refine ⟨_, rfl, _, _, rfl, rfl, _, rfl, ?_⟩
      obtain ⟨qs, eqs⟩ : ∃ qs, qs = [hp1 e (x, 1), hp2 e (x, 1)].take j := ⟨_, rfl⟩
      rw [← eqs] at dia
      rw [epr, ← eqs]
      refine ifD (fun hs0 => ?_) (fun hs0 => ?_)
      · refine ⟨_, rfl, _, _, rfl, rfl, _, rfl, ?_⟩
        rw [if_pos hs0]
        refine ifD (fun hp0 => ?_) (fun hp0 => ?_)
        · have g := dgetL eDa dia sz
          refine ⟨_, rfl, D, rfl, isD_of eDa, _, rfl, _, g, ?_⟩
          rw [getDI0]
          refine ⟨_, rfl, _, _, rfl, rfl, _, rfl, _, rfl, D, _, rfl, DPut.k (k := Sum.inl _) eDa (small1000 (by rw [kvI_length]; omega)), ?_⟩
          obtain ⟨l2, e2, hl2, di2⟩ := di_putZ dia sz ((toPF (bag qs) sz).getD 0 + pr)
          rw [e2]
          have nn : 0 ≤ bag qs sz := bag_nn (fun q hq => by
            rw [eqs] at hq
            exact hq_nn' he (fun p hp => by
              rw [List.mem_singleton] at hp
              rw [hp]
              exact ⟨hx, by show (0 : Int) < 1; decide⟩) (cs := [(x, 1)]) q (List.mem_of_mem_take hq)) _
          rw [toPF_add (by omega)] at di2
          exact ⟨_, _, l2, rfl, fun b o hb e => by rw [upd_ne hb]; exact oa b o hb e, upd_same, di2, by omega⟩
        · have : pr = 0 := by omega
          subst this
          rw [bag_zero]
          exact ⟨_, _, l', rfl, oa, eDa, dia, by omega⟩
      · rw [if_neg hs0, bag_zero]
        exact ⟨_, _, l', rfl, oa, eDa, dia, by omega⟩
    · rintro σ Ha ⟨v4, v5, l', rfl, oa, eDa, dia, hla⟩
      exact ⟨_, rfl, q D l' Ha (fun b o e => oa b o (ne_of_none e nD) (s04 _ _ e)) nD eDa dia hla⟩
theorem ok_l_refused (T : Txt K mg) : FnG P w K mg base CX0 9 T.f_l_refused (spRefS K T.C_Shape T.C_Map) := by
  refine T.A_l_refused.okG sc_l_refused (fun vs H Q E h => ?_) (fun cdv A outer s H vs Q E gd hr h => ?_)
  · obtain ⟨a, cs, hs, x, z, rfl, _⟩ := h
    rfl
  · obtain ⟨a, cs, hs, x, z, rfl, is1, hbad, hrp, q⟩ := h
    refine ⟨_, (pss_cons (ps_try_as (i := 2) rfl rfl sc_l_refused.nd rfl rfl ⟨rfl, by decide, .inl T.g_InvalidNumber⟩ L2.takes0 (fun W pn xe tk _ => (pss_one (ps_expr (pe_methRS (pv 0) T.o_Shape.cl T.meth_Shape_power (okX_sh_power T) (hr.mono (by decide)) (fun σ => passAt tk σ) (pa_cons (pv 1) pa_nil))))) (fun a oe cls d pn hz hf => (pss_one (ps_ret (pe_lst (pa_cons (pe_callB (call_isH T.xe_InvalidNumber hz hf) (by rfl) T.n_isinstance (by decide +kernel) (pa_cons (pv 2) (pa_cons (pe_bltn (v := .ty "ValueError") (u := .type "ValueError") (by rfl) T.n_ValueError (by decide +kernel) rfl) pa_nil))) (pa_cons (pe_callB (show CallR _ (.builtin "repr") (rRepr K) from call_repr gd hr.units) (by rfl) T.n_repr (by decide +kernel) (pa_cons (pe_xf T.xf_InvalidNumber T.na_value_InvalidNumber hz hf (pv 2)) pa_nil)) pa_nil)))))))
      (pss_one (ps_ret pe_str))), ?_⟩
    obtain ⟨⟨dx, D1, D2, h1, h2, h3⟩, _⟩ := id is1.1
    refine ⟨_, rfl, a, dx, _, rfl, h1, by rfl, _, rfl, a, cs, hs, x, rfl, is1, .inr ⟨hbad, fun dd hdd => ?_⟩⟩
    refine ⟨true, T.te_InvalidNumber, fun _ c hc => ?_, fun q => nomatch q⟩
    refine ⟨_, rfl, dd, rfl, rfl, _, _, _, _, rfl, fun u r => r, T.kit_ValueError_InvalidNumber, upd_same, ?_⟩
    refine ⟨_, rfl, rfl, rfl, dd, _, _, rfl, upd_same, rfl, ?_⟩
    obtain ⟨d, g1, g2, g3, g4, g5, rfl⟩ := hrp _ (Same.new hdd)
    refine ⟨x, d, rfl, g1, g2, g3, g4, g5, ?_⟩
    refine ⟨(by show 2 ≤ sizeLine; decide), fun p hp => ?_⟩
    exact q p _ ((Same.new hdd).trans (Same.new hp)) ((Same.new hdd).free hp) upd_same
end
end My
namespace My
open PySem L2 U StX PM
/-! ### shapes by bags -/
def ShB (C : Addr) (H : Hp) (s : Addr) (qs ks : List (Int × Int)) (a b : Nat) : Prop := ∃ cs hs, IsShape C H s cs hs ∧ DI cs (toPF (bag qs)) ∧ DI hs (toPF (bag ks)) ∧ cs.length ≤ a ∧ hs.length ≤ b
theorem ShB.same {C : Addr} {H H' : Hp} {s : Addr} {qs ks : List (Int × Int)} {a b : Nat} (h : ShB C H s qs ks a b) (x : Same H H') : ShB C H' s qs ks a b := by
  obtain ⟨cs, hs, h1, h2⟩ := h
  exact ⟨cs, hs, h1.same x, h2⟩
theorem ShB.at_ {C : Addr} {H : Hp} {s : Addr} {qs ks : List (Int × Int)} {a b : Nat} (h : ShB C H s qs ks a b) : ∃ dx D1 D2, H s = some (.ins C dx (shf D1 D2)) := by
  obtain ⟨cs, hs, ⟨⟨dx, D1, D2, h1, _, _⟩, _⟩, _⟩ := h
  exact ⟨dx, D1, D2, h1⟩
def NN (qs : List (Int × Int)) : Prop := ∀ q ∈ qs, 0 ≤ q.2
def wid (qs : List (Int × Int)) : Int := wsum qs fun x => x
theorem NN.sz {qs l : List (Int × Int)} (h : NN qs) (d : DI l (toPF (bag qs))) : szL l = wid qs := by
  rw [szL_w, wsum_di d h]
  rfl
theorem bag_dl (qs : List (Int × Int)) (z : Int) : bag qs z = wsum qs (dl z) := bag_wsum qs z
theorem cq_of {qs l : List (Int × Int)} (h : NN qs) (d : DI l (toPF (bag qs))) (e : Int) : bag (cq l e) = bag (cq qs e) := by
  funext z
  rw [bag_dl, wsum_cq, wsum_di d h, bag_dl, wsum_cq]
theorem hq_of {qs l : List (Int × Int)} (h : NN qs) (d : DI l (toPF (bag qs))) (e : Int) : bag (hq l e) = bag (hq qs e) := by
  funext z
  rw [bag_dl, wsum_hq, wsum_di d h, bag_dl, wsum_hq]
theorem app_of {qs l qs' l' : List (Int × Int)} (h : NN qs) (d : DI l (toPF (bag qs))) (h' : NN qs') (d' : DI l' (toPF (bag qs'))) : bag (l ++ l') = bag (qs ++ qs') := by
  funext z
  rw [bag_append, bag_dl, bag_dl, wsum_di d h, wsum_di d' h', bag_append, bag_dl qs, bag_dl qs']
theorem bag_eq {qs qs' : List (Int × Int)} (h : ∀ φ, wsum qs φ = wsum qs' φ) : bag qs = bag qs' := by
  funext z
  rw [bag_dl, bag_dl, h]
theorem wsum_congr {qs : List (Int × Int)} {φ ψ : Int → Int} (h : ∀ q ∈ qs, φ q.1 = ψ q.1) : wsum qs φ = wsum qs ψ := by
  unfold wsum
  congr 1
  exact List.map_congr_left fun q hq => by rw [h q hq]
theorem cq_two {qs : List (Int × Int)} (h : ∀ q ∈ qs, 0 < q.1) {e : Int} (he : 0 < e) : bag (cq (cq qs e) 2) = bag (cq qs (2 * e)) := bag_eq fun φ => by
  rw [wsum_cq, wsum_cq, wsum_cq]
  exact wsum_congr fun q hq => cφ_two φ (h q hq) he
theorem hq_two {qs : List (Int × Int)} (h : ∀ q ∈ qs, 0 < q.1) {e : Int} (he : 0 < e) : bag (hq (hq qs e) 2) = bag (hq qs (2 * e)) := bag_eq fun φ => by
  rw [wsum_hq, wsum_hq, wsum_hq]
  exact wsum_congr fun q hq => hφ_two φ (h q hq) he
theorem cq_one (qs : List (Int × Int)) : bag (cq qs 1) = bag qs := bag_eq fun φ => by
  rw [wsum_cq]
  exact wsum_congr fun q hq => cφ_one φ q.1
theorem hq_one {qs : List (Int × Int)} (h : ∀ q ∈ qs, 0 < q.1) : bag (hq qs 1) = bag qs := bag_eq fun φ => by
  rw [wsum_hq]
  exact wsum_congr fun q hq => hφ_one φ (h q hq)
def KP (qs : List (Int × Int)) : Prop := ∀ q ∈ qs, 0 < q.1 ∧ 0 ≤ q.2
theorem KP.nn {qs : List (Int × Int)} (h : KP qs) : NN qs := fun q hq => (h q hq).2
theorem KP.k {qs : List (Int × Int)} (h : KP qs) : ∀ q ∈ qs, 0 < q.1 := fun q hq => (h q hq).1
theorem nn_cq {qs : List (Int × Int)} (h : KP qs) (e : Int) : NN (cq qs e) := fun q hq => by
  obtain ⟨p, hp, rfl⟩ := List.mem_map.mp hq
  exact Int.mul_nonneg (h p hp).2 (Int.le_of_lt (gI_pos (h p hp).1))
theorem nn_hq {qs : List (Int × Int)} (h : NN qs) {e : Int} (he : 0 < e) : NN (hq qs e) := fun q hq => by
  unfold My.hq at hq
  obtain ⟨p, hp, hh⟩ := List.mem_flatMap.mp hq
  have h2 := h p hp
  have r0 := Int.emod_nonneg p.1 (b := e) (by omega)
  have r1 := Int.emod_lt_of_pos p.1 he
  simp only [List.mem_cons, List.not_mem_nil, or_false] at hh
  rcases hh with rfl | rfl
  · exact Int.mul_nonneg h2 r0
  · refine Int.mul_nonneg h2 ?_
    by_cases h : 0 < p.1 / e
    · rw [if_pos h]; omega
    · rw [if_neg h]; exact Int.le_refl 0
theorem wid_cq {qs : List (Int × Int)} (h : KP qs) (e : Int) : wid (cq qs e) = wid qs := by
  unfold wid
  rw [wsum_cq]
  exact wsum_congr fun q hq => cφ_id (h q hq).1
theorem wid_hq {qs : List (Int × Int)} (h : KP qs) {e : Int} (he : 0 < e) : wid (hq qs e) = wid qs := by
  unfold wid
  rw [wsum_hq]
  exact wsum_congr fun q hq => hφ_id (h q hq).1 he
theorem ShB.sh1 {C : Addr} {H : Hp} {s : Addr} {qs ks : List (Int × Int)} {a b : Nat} (h : ShB C H s qs ks a b) (n1 : NN qs) (n2 : NN ks) (w1 : wid qs < Bg) (w2 : wid ks < Bg) (la : a ≤ 40) (lb : b ≤ 40) : ∃ cs hs, Sh1 C H s cs hs ∧ DI cs (toPF (bag qs)) ∧ DI hs (toPF (bag ks)) ∧ cs.length ≤ a ∧ hs.length ≤ b := by
  obtain ⟨cs, hs, h1, h2, h3, h4, h5⟩ := h
  exact ⟨cs, hs, ⟨h1, by omega, by omega, by rw [n1.sz h2]; exact w1, by rw [n2.sz h3]; exact w2⟩, h2, h3, h4, h5⟩
theorem powB {C : Addr} {H' : Hp} {r : Addr} {cs hs c2 h2 qs ks : List (Int × Int)} {a b : Nat} {e : Int} (n1 : NN qs) (n2 : NN ks) (d1 : DI cs (toPF (bag qs))) (d2 : DI hs (toPF (bag ks))) (l1 : cs.length ≤ a) (l2 : hs.length ≤ b) (is2 : IsShape C H' r c2 h2) (e1 : DI c2 (toPF (bag (cq cs e)))) (e2 : DI h2 (toPF (bag (hq hs e)))) (b1 : c2.length ≤ cs.length) (b2 : h2.length ≤ 2 * hs.length) : ShB C H' r (cq qs e) (hq ks e) a (2 * b) := by
  rw [cq_of n1 d1] at e1
  rw [hq_of n2 d2] at e2
  exact ⟨c2, h2, is2, e1, e2, by omega, by omega⟩
theorem addB {C : Addr} {H' : Hp} {r : Addr} {cs hs cs' hs' c2 h2 qs ks qs' ks' : List (Int × Int)} (n1 : NN qs) (n2 : NN ks) (n1' : NN qs') (n2' : NN ks') (d1 : DI cs (toPF (bag qs))) (d2 : DI hs (toPF (bag ks))) (d1' : DI cs' (toPF (bag qs'))) (d2' : DI hs' (toPF (bag ks'))) (is2 : IsShape C H' r c2 h2) (e1 : DI c2 (toPF (bag (cs ++ cs')))) (e2 : DI h2 (toPF (bag (hs ++ hs')))) : ShB C H' r (qs ++ qs') (ks ++ ks') 1000 1000 := by
  rw [app_of n1 d1 n1' d1'] at e1
  rw [app_of n2 d2 n2' d2'] at e2
  exact ⟨c2, h2, is2, e1, e2, is2.l1, is2.l2⟩
theorem ShB.eqs {C : Addr} {H : Hp} {s s' : Addr} {qs ks qs' ks' : List (Int × Int)} {a b a' b' : Nat} (h : ShB C H s qs ks a b) (h' : ShB C H s' qs' ks' a' b') (e1 : bag qs = bag qs') (e2 : bag ks = bag ks') : ∃ cs hs cs' hs', IsShape C H s cs hs ∧ IsShape C H s' cs' hs' ∧ cs = cs' ∧ hs = hs' := by
  obtain ⟨cs, hs, i1, d1, d2, l1, l2⟩ := h
  obtain ⟨cs', hs', i2, d1', d2', l1', l2'⟩ := h'
  rw [← e1] at d1'
  rw [← e2] at d2'
  exact ⟨cs, hs, cs', hs', i1, i2, asc_eqN i1.a1 i2.a1 d1 d1', asc_eqN i1.a2 i2.a2 d2 d2'⟩
theorem ShB.size {C : Addr} {H : Hp} {s : Addr} {qs ks : List (Int × Int)} {a b : Nat} (h : ShB C H s qs ks a b) (n1 : NN qs) (n2 : NN ks) : ∃ cs hs, IsShape C H s cs hs ∧ szL cs + szL hs = wid qs + wid ks := by
  obtain ⟨cs, hs, i1, d1, d2, l1, l2⟩ := h
  exact ⟨cs, hs, i1, by rw [n1.sz d1, n2.sz d2]⟩
theorem shB_mk {C : Addr} {H : Hp} {s : Addr} {c3 h3 l1 l2 qs ks : List (Int × Int)} {a b : Nat} (is : IsShape C H s c3 h3) (p1 : c3.Perm l1) (p2 : h3.Perm l2) (d1 : DI l1 (toPF (bag qs))) (d2 : DI l2 (toPF (bag ks))) (b1 : l1.length ≤ a) (b2 : l2.length ≤ b) : ShB C H s qs ks a b :=
  ⟨c3, h3, is, di_perm d1 p1, di_perm d2 p2, by rw [p1.length_eq]; exact b1, by rw [p2.length_eq]; exact b2⟩
theorem di_self {l : List (Int × Int)} (nd : (l.map (·.1)).Nodup) (h : ∀ p ∈ l, 0 < p.2) : DI l (toPF (bag l)) := by
  rw [bag_self ⟨nd, fun _ => rfl⟩ h]
  exact ⟨nd, fun _ => rfl⟩
theorem disp_facts {H H' : Hp} {p : Addr} {k v : Int} (g : upd (upd H p (.dK [])) p (.dK (mergeK [] [((Sum.inl k : Key), V.int v)])) = H') (n : H p = none) : Same H H' ∧ H' p = some (.dK (kvI [(k, v)])) := by
  subst g
  exact ⟨Same.put (Same.new n) n, upd_same⟩
theorem disp_facts2 {H H' : Hp} {p : Addr} {k v k2 v2 : Int} (g : upd (upd H p (.dK [])) p (.dK (mergeK [] [((Sum.inl k : Key), V.int v), (Sum.inl k2, .int v2)])) = H') (n : H p = none) (hne : k2 ∉ [(k, v)].map (·.1)) : Same H H' ∧ H' p = some (.dK (kvI [(k, v), (k2, v2)])) := by
  subst g
  refine ⟨Same.put (Same.new n) n, ?_⟩
  rw [upd_same]
  have := putK_kvI (l := [(k, v)]) (y := v2) hne
  show some (HO.dK (putK (kvI [(k, v)]) (Sum.inl k2) (.int v2))) = _
  rw [this]
  rfl
theorem pos1 {x y : Int} (h1 : 0 < x) (h2 : x < Bg) (h3 : 0 < y) (h4 : y < Bg) : Pos [(x, y)] := fun p hp => by
  rw [List.mem_singleton] at hp
  rw [hp]
  exact ⟨h1, h3, h2, h4⟩
theorem pos2 {x y x' y' : Int} (h1 : 0 < x) (h2 : x < Bg) (h3 : 0 < y) (h4 : y < Bg) (g1 : 0 < x') (g2 : x' < Bg) (g3 : 0 < y') (g4 : y' < Bg) : Pos [(x, y), (x', y')] := fun p hp => by
  simp only [List.mem_cons, List.not_mem_nil, or_false] at hp
  rcases hp with rfl | rfl
  · exact ⟨h1, h3, h2, h4⟩
  · exact ⟨g1, g3, g2, g4⟩
theorem pos0 : Pos [] := fun p hp => nomatch hp
theorem Pos.kp {l : List (Int × Int)} (h : Pos l) : KP l := fun p hp => ⟨(h p hp).1, Int.le_of_lt (h p hp).2.1⟩
theorem Pos.ds {l : List (Int × Int)} (h : Pos l) (nd : (l.map (·.1)).Nodup) : DI l (toPF (bag l)) := di_self nd fun p hp => (h p hp).2.1
theorem nd_one (k v : Int) : ([(k, v)].map (·.1)).Nodup := List.nodup_cons.mpr ⟨by simp, List.nodup_nil⟩
theorem wid1 (x y : Int) : wid [(x, y)] = y * x := by
  show y * x + 0 = _
  omega
theorem wid2 (x y x' y' : Int) : wid [(x, y), (x', y')] = y * x + y' * x' := by
  show y * x + (y' * x' + 0) = _
  omega
def spGreatL : Sp := fun vs H Q _ => ∃ (x : V) (L e : Int), vs = [x, .int L, .int e] ∧ 8 ≤ L ∧ L ≤ 10 ^ 31 ∧ 0 < e ∧ e ≤ 10 ^ 31 ∧ ∀ H', Same H H' → Q (.bl true) H'
section
variable {P : Program} {w : World} {K : PySem.W.Frag} {mg : Str → Option Value} {base : Heap}
theorem ok_l_great (T : Txt K mg) : FnR P w K mg base CX0 12 T.f_l_great spGreatL := by
  refine T.A_l_great.ok sc_l_great (fun vs H Q E h => ?_) (fun cdv A outer s H vs Q E hr h => ?_)
  · obtain ⟨x, L, e, rfl, _⟩ := h
    rfl
  · obtain ⟨x, L, e, rfl, hL, hL9, he, he9, q⟩ := h
    have hu := hu_of hr
    refine ⟨_, (pss_cons (ps_set (i := 3) sc_l_great.nd rfl (Or.inl rfl) (pe_callR (ok_l_divisor T) (hr.mono (by decide)) T.A_l_divisor.kp rfl T.g_l_divisor pass0 (pa_cons (pv 1) (pa_cons (pv 2) pa_nil))))
      (pss_cons (ps_if (pt_cmpR (op_neO T.o_Shape T.ne_Shape T.m_Shape__eq T.i_Shape__eq (ok_sh_eq T) (hr.mono (by decide)) pass0) (pe_methR (pe_makeR T.M_Shape (ok_sh_init T) (hr.mono (by decide)) rfl T.g_Shape pass0 (pa_cons (pe_disp (pps_cons (pv 1) pe_int pps_nil) (by rfl) (by rfl) (fun z => by cases z) (by decide)) (pa_cons pe_dnewK pa_nil))) T.o_Shape.cl T.meth_Shape_power (fnR_calm (okX_sh_power T)) (hr.mono (by decide)) pass0 (pa_cons (pv 2) pa_nil)) (pe_makeR T.M_Shape (ok_sh_init T) (hr.mono (by decide)) rfl T.g_Shape pass0 (pa_cons (pe_disp (pps_cons (pe_op L2.op_fdivW (pv 1) (pv 3)) (pe_op L2.op_mulW pe_int (pv 3)) pps_nil) (by rfl) (by rfl) (fun z => by cases z) (by decide)) (pa_cons pe_dnewK pa_nil))) (nomark _))
        (pss_one (ps_ret pe_bl)) pss_nil)
      (pss_cons (ps_set (i := 4) sc_l_great.nd rfl (Or.inl rfl) (pe_callR (ok_l_chain T) (hr.mono (by decide)) T.A_l_chain.kp rfl T.g_l_chain pass0 (pa_cons (pv 1) (pa_cons (pv 2) pa_nil))))
      (pss_cons (ps_if (pt_cmpR (op_neO T.o_Shape T.ne_Shape T.m_Shape__eq T.i_Shape__eq (ok_sh_eq T) (hr.mono (by decide)) pass0) (pe_methR (pe_makeR T.M_Shape (ok_sh_init T) (hr.mono (by decide)) rfl T.g_Shape pass0 (pa_cons pe_dnewK (pa_cons (pe_disp (pps_cons (pv 1) pe_int pps_nil) (by rfl) (by rfl) (fun z => by cases z) (by decide)) pa_nil))) T.o_Shape.cl T.meth_Shape_power (fnR_calm (okX_sh_power T)) (hr.mono (by decide)) pass0 (pa_cons (pv 2) pa_nil)) (pe_makeR T.M_Shape (ok_sh_init T) (hr.mono (by decide)) rfl T.g_Shape pass0 (pa_cons pe_dnewK (pa_cons (pv 4) pa_nil))) (nomark _))
        (pss_one (ps_ret pe_bl)) pss_nil)
      (pss_cons (ps_set (i := 5) sc_l_great.nd rfl (Or.inl rfl) (pe_makeR T.M_Shape (ok_sh_init T) (hr.mono (by decide)) rfl T.g_Shape pass0 (pa_cons (pe_disp (pps_cons (pv 1) pe_int (pps_cons pe_int pe_int pps_nil)) (by rfl) (by rfl) (fun z => by cases z) (by decide)) (pa_cons (pe_disp (pps_cons (pe_op op_add (pv 1) pe_int) pe_int (pps_cons pe_int pe_int pps_nil)) (by rfl) (by rfl) (fun z => by cases z) (by decide)) pa_nil))))
      (pss_cons (ps_set (i := 6) sc_l_great.nd rfl (Or.inl rfl) (pe_methR (pv 5) T.o_Shape.cl T.meth_Shape_power (fnR_calm (okX_sh_power T)) (hr.mono (by decide)) pass0 (pa_cons (pv 2) pa_nil)))
      (pss_cons (ps_set (i := 7) sc_l_great.nd rfl (Or.inl rfl) (pe_lst (pa_cons (pe_methR (pe_makeR T.M_Shape (ok_sh_init T) (hr.mono (by decide)) rfl T.g_Shape pass0 (pa_cons (pe_propR (pv 5) T.o_Shape.cl T.P_Shape_cycles (ok_sh_cycles T) (hr.mono (by decide))) (pa_cons pe_dnewK pa_nil))) T.o_Shape.cl T.meth_Shape_power (fnR_calm (okX_sh_power T)) (hr.mono (by decide)) pass0 (pa_cons (pv 2) pa_nil)) (pa_cons (pe_methR (pe_makeR T.M_Shape (ok_sh_init T) (hr.mono (by decide)) rfl T.g_Shape pass0 (pa_cons pe_dnewK (pa_cons (pe_propR (pv 5) T.o_Shape.cl T.P_Shape_chains (ok_sh_chains T) (hr.mono (by decide))) pa_nil))) T.o_Shape.cl T.meth_Shape_power (fnR_calm (okX_sh_power T)) (hr.mono (by decide)) pass0 (pa_cons (pv 2) pa_nil)) pa_nil))))
      (pss_cons (ps_if (PW.pt (pw_or (pt_cmpR op_ne (pe_propR (pv 6) T.o_Shape.cl T.P_Shape_size (ok_sh_size T) (hr.mono (by decide))) (pe_propR (pv 5) T.o_Shape.cl T.P_Shape_size (ok_sh_size T) (hr.mono (by decide))) (nomark _)) (pw_or1 (pt_cmpR (op_neO T.o_Shape T.ne_Shape T.m_Shape__eq T.i_Shape__eq (ok_sh_eq T) (hr.mono (by decide)) pass0) (pv 6) (pe_op (op_bin T.o_Shape.sf T.m_Shape__add T.i_Shape__add (ok_sh_add T) (hr.mono (by decide)) pass0) (pe_ix ix_list (pv 7) pe_int (fun _ _ => rfl)) (pe_ix ix_list (pv 7) pe_int (fun _ _ => rfl))) (nomark _)))))
        (pss_one (ps_ret pe_bl)) pss_nil)
      (pss_one (ps_ret (pe_cmpR (op_cmp (fun _ _ => rfl) T.m_Shape__eq T.i_Shape__eq (ok_sh_eq T) (hr.mono (by decide)) pass0) (pe_methR (pe_methR (pv 5) T.o_Shape.cl T.meth_Shape_power (fnR_calm (okX_sh_power T)) (hr.mono (by decide)) pass0 (pa_cons (pv 2) pa_nil)) T.o_Shape.cl T.meth_Shape_power (fnR_calm (okX_sh_power T)) (hr.mono (by decide)) pass0 (pa_cons pe_int pa_nil)) (pe_methR (pv 5) T.o_Shape.cl T.meth_Shape_power (fnR_calm (okX_sh_power T)) (hr.mono (by decide)) pass0 (pa_cons (pe_op L2.op_mulW pe_int (pv 2)) pa_nil)) (nomark _)))))))))))), ?_⟩
    have hB := Bg_ge
    have hg := gI_pos (e := e) (show 0 < L by omega)
    have hgl := gI_le (e := e) (show 0 < L by omega)
    have hgd := cq_pos (e := e) (show 0 < L by omega)
    have hgd2 := le_mulR (a := L / gI L e) (b := gI L e) (Int.le_of_lt hgd) hg
    rw [gI_dvd (by omega)] at hgd2
    have eB : e < Bg := by omega
    have e2B : 2 * e < Bg := by omega
    have hdiv : CDivW L (gI L e) := Bg_div hg (by omega)
    have hm3 : CMulW 3 (gI L e) := Bg_mul (by omega) (by omega) (by omega) (by omega)
    have hm2 : CMulW 2 e := Bg_mul (by omega) (by omega) (by omega) (by omega)
    have P1 : Pos [(L, 3)] := pos1 (by omega) (by omega) (by omega) (by omega)
    have P2 : Pos [(L / gI L e, 3 * gI L e)] := pos1 hgd (by omega) (by omega) (by omega)
    have P3 : Pos [(L, 1)] := pos1 (by omega) (by omega) (by omega) (by omega)
    have P5 : Pos [(L, 2), (6, 1)] := pos2 (by omega) (by omega) (by omega) (by omega) (by omega) (by omega) (by omega) (by omega)
    have P6 : Pos [(L + 1, 1), (7, 2)] := pos2 (by omega) (by omega) (by omega) (by omega) (by omega) (by omega) (by omega) (by omega)
    have N5 : ([(L, (2 : Int)), (6, 1)].map (·.1)).Nodup := by simp; omega
    have N6 : ([(L + 1, (1 : Int)), (7, 2)].map (·.1)).Nodup := by simp; omega
    have W1 : wid [(L, 3)] < Bg := by rw [wid1]; omega
    have W3 : wid [(L, 1)] < Bg := by rw [wid1]; omega
    have W5 : wid [(L, 2), (6, 1)] < Bg := by rw [wid2]; omega
    have W6 : wid [(L + 1, 1), (7, 2)] < Bg := by rw [wid2]; omega
    have W0 : wid [] < Bg := by show (0 : Int) < Bg; omega
    have Z0 : NN [] := fun p hp => nomatch hp
    -- the first two
    refine ⟨_, rfl, _, rfl, L, e, rfl, by omega, by omega, ?_⟩
    refine fun b1 n_b1 => ?_
    refine ⟨_, rfl, upd_same, [(Sum.inl L, .int 3)], rfl, (by show 1 ≤ 15; decide), ?_⟩
    generalize g_b1 : upd (upd _ b1 _) b1 _ = H1
    obtain ⟨s1, e1⟩ := disp_facts g_b1 n_b1
    clear g_b1
    refine fun b2 n_b2 => ?_
    generalize g_b2 : L2.upd _ b2 _ = H2
    obtain ⟨s_H2, e_b2⟩ := U.upd_facts g_b2 n_b2
    clear g_b2
    refine fun x1 dx1 nx ndx ne => initS_of (l1 := [(L, 3)]) (l2 := []) (s_H2 _ _ e1) e_b2 (nd_one _ _) List.nodup_nil P1 pos0 (by simp) (by simp) nx ndx ne fun cs hs H3 s3 pm1 pm2 sh => ⟨rfl, ?_⟩
    have S1 : ShB T.C_Shape H3 x1 [(L, 3)] [] 1 0 := shB_mk sh pm1 pm2 (P1.ds (nd_one _ _)) (pos0.ds List.nodup_nil) (by simp) (by simp)
    obtain ⟨dy1, D1, D2, hx1⟩ := S1.at_
    obtain ⟨ca, ha, ga, da1, da2, la1, la2⟩ := S1.sh1 P1.kp.nn Z0 W1 W0 (by decide) (by decide)
    refine ⟨x1, dy1, _, rfl, hx1, by rfl, _, rfl, x1, ca, ha, _, rfl, ga, .inl ⟨e, rfl, he, eB, fun r1 cb hb H4 nr1 s4 isb db1 db2 lb1 lb2 => ?_⟩⟩
    have R1 := powB P1.kp.nn Z0 da1 da2 la1 la2 isb db1 db2 lb1 lb2
    clear ga da1 da2 la1 la2 isb db1 db2 lb1 lb2
    have x4 : Same H H4 := ((s1.trans s_H2).trans s3).trans s4
    clear s1 e1 s_H2 e_b2 s3 s4 sh S1 hx1
    refine fun b3 n_b3 => ?_
    refine ⟨_, rfl, _, rfl, _, _, rfl, rfl, hdiv, _, rfl, _, _, rfl, rfl, hm3, upd_same, [(Sum.inl (L / gI L e), .int (3 * gI L e))], rfl, (by show 1 ≤ 15; decide), ?_⟩
    generalize g_b3 : upd (upd _ b3 _) b3 _ = H5
    obtain ⟨s5, e5⟩ := disp_facts g_b3 n_b3
    clear g_b3
    refine fun b4 n_b4 => ?_
    generalize g_b4 : L2.upd _ b4 _ = H6
    obtain ⟨s_H6, e_b4⟩ := U.upd_facts g_b4 n_b4
    clear g_b4
    refine fun x2 dx2 nx ndx ne => initS_of (l1 := [(L / gI L e, 3 * gI L e)]) (l2 := []) (s_H6 _ _ e5) e_b4 (nd_one _ _) List.nodup_nil P2 pos0 (by simp) (by simp) nx ndx ne fun cs hs H7 s7 pm1 pm2 sh => ⟨rfl, ?_⟩
    have S2 : ShB T.C_Shape H7 x2 [(L / gI L e, 3 * gI L e)] [] 1 0 := shB_mk sh pm1 pm2 (P2.ds (nd_one _ _)) (pos0.ds List.nodup_nil) (by simp) (by simp)
    have R1' := R1.same ((s5.trans s_H6).trans s7)
    obtain ⟨dy1, D1, D2, hr1⟩ := R1'.at_
    obtain ⟨dy2, D3, D4, hx2⟩ := S2.at_
    obtain ⟨c1, h1, c2, h2, i1, i2, f1, f2⟩ := R1'.eqs S2 rfl rfl
    refine ⟨r1, _, _, x2, _, _, rfl, rfl, hr1, hx2, r1, x2, c1, h1, c2, h2, rfl, i1, i2, f1, f2, _, rfl, _, rfl, iteF ?_⟩
    clear i1 i2 f1 f2
    have x7 : Same H H7 := ((x4.trans s5).trans s_H6).trans s7
    clear x4 s5 e5 s_H6 e_b4 s7 sh S2 R1 R1' hr1 hx2
    -- one chain
    refine ⟨_, rfl, _, rfl, L, e, rfl, by omega, by omega, he, eB, fun due ld H8 s8 nd8 h8 di8 l8 => ?_⟩
    have x8 := x7.trans s8
    clear x7 s8
    refine fun b5 n_b5 => ?_
    generalize g_b5 : upd _ b5 _ = H9
    obtain ⟨s9, e9⟩ := U.upd_facts g_b5 n_b5
    clear g_b5
    refine fun b6 n_b6 => ?_
    refine ⟨_, rfl, upd_same, [(Sum.inl L, .int 1)], rfl, (by show 1 ≤ 15; decide), ?_⟩
    generalize g_b6 : upd (upd _ b6 _) b6 _ = H10
    obtain ⟨s10, e10⟩ := disp_facts g_b6 n_b6
    clear g_b6
    refine fun x3 dx3 nx ndx ne => initS_of (l1 := []) (l2 := [(L, 1)]) (s10 _ _ e9) e10 List.nodup_nil (nd_one _ _) pos0 P3 (by simp) (by simp) nx ndx ne fun cs hs H11 s11 pm1 pm2 sh => ⟨rfl, ?_⟩
    have S3 : ShB T.C_Shape H11 x3 [] [(L, 1)] 0 1 := shB_mk sh pm1 pm2 (pos0.ds List.nodup_nil) (P3.ds (nd_one _ _)) (by simp) (by simp)
    obtain ⟨dy3, D1, D2, hx3⟩ := S3.at_
    obtain ⟨ca, ha, ga, da1, da2, la1, la2⟩ := S3.sh1 Z0 P3.kp.nn W0 W3 (by decide) (by decide)
    refine ⟨x3, dy3, _, rfl, hx3, by rfl, _, rfl, x3, ca, ha, _, rfl, ga, .inl ⟨e, rfl, he, eB, fun r3 cb hb H12 nr1 s12 isb db1 db2 lb1 lb2 => ?_⟩⟩
    have R3 := powB Z0 P3.kp.nn da1 da2 la1 la2 isb db1 db2 lb1 lb2
    have y12 := ((s9.trans s10).trans s11).trans s12
    clear ga da1 da2 la1 la2 isb db1 db2 lb1 lb2 s9 e9 s10 e10 s11 s12 sh S3 hx3
    refine fun b7 n_b7 => ?_
    generalize g_b7 : upd _ b7 _ = H13
    obtain ⟨s13, e13⟩ := U.upd_facts g_b7 n_b7
    clear g_b7
    have due13 := s13 _ _ (y12 _ _ h8)
    have A3 : Asc [(L, 1)] := ⟨by simp, P3⟩
    have Z3 : szL [(L, 1)] < Bg := by rw [szL_w]; exact W3
    refine ⟨_, rfl, ?_⟩
    refine fun x4 dx4 nx ndx ne => initS_of (l1 := []) (l2 := ld) e13 due13 List.nodup_nil di8.nd pos0 (pos_hq A3 he di8 Z3) (by simp) (by omega) nx ndx ne fun cs hs H14 s14 pm1 pm2 sh => ⟨rfl, ?_⟩
    have S4 : ShB T.C_Shape H14 x4 [] (hq [(L, 1)] e) 0 2 := shB_mk sh pm1 pm2 (pos0.ds List.nodup_nil) di8 (by simp) l8
    have R3' := R3.same (s13.trans s14)
    obtain ⟨dy1, D1, D2, hr3⟩ := R3'.at_
    obtain ⟨dy2, D3, D4, hx4⟩ := S4.at_
    obtain ⟨c1, h1, c2, h2, i1, i2, f1, f2⟩ := R3'.eqs S4 rfl rfl
    refine ⟨r3, _, _, x4, _, _, rfl, rfl, hr3, hx4, r3, x4, c1, h1, c2, h2, rfl, i1, i2, f1, f2, _, rfl, _, rfl, iteF ?_⟩
    have x14 := (x8.trans y12).trans (s13.trans s14)
    clear i1 i2 f1 f2 S4 R3 R3' hr3 hx4 sh s13 e13 s14 x8 y12 due13 h8 di8 A3 Z3
    -- a shape of two cycles and two chains
    refine fun b8 n_b8 => ?_
    refine ⟨_, rfl, upd_same, [(Sum.inl L, .int 2), (Sum.inl 6, .int 1)], rfl, (by show 2 ≤ 15; decide), ?_⟩
    generalize g_b8 : upd (upd _ b8 _) b8 _ = H15
    obtain ⟨s15, e15⟩ := disp_facts2 g_b8 n_b8 (by simp; omega)
    clear g_b8
    refine fun b9 n_b9 => ?_
    refine ⟨_, rfl, _, _, rfl, rfl, upd_same, [(Sum.inl (L + 1), .int 1), (Sum.inl 7, .int 2)], rfl, (by show 2 ≤ 15; decide), ?_⟩
    generalize g_b9 : upd (upd _ b9 _) b9 _ = H16
    obtain ⟨s16, e16⟩ := disp_facts2 g_b9 n_b9 (by simp; omega)
    clear g_b9
    refine fun x5 dx5 nx ndx ne => initS_of (l1 := [(L, 2), (6, 1)]) (l2 := [(L + 1, 1), (7, 2)]) (s16 _ _ e15) e16 N5 N6 P5 P6 (by simp) (by simp) nx ndx ne fun cs hs H17 s17 pm1 pm2 sh => ⟨rfl, ?_⟩
    have S5 : ShB T.C_Shape H17 x5 [(L, 2), (6, 1)] [(L + 1, 1), (7, 2)] 2 2 := shB_mk sh pm1 pm2 (P5.ds N5) (P6.ds N6) (by simp) (by simp)
    have x17 := (x14.trans s15).trans (s16.trans s17)
    clear x14 s15 e15 s16 e16 s17 sh
    obtain ⟨dy5, D5, D6, hx5⟩ := S5.at_
    obtain ⟨q5, eq5⟩ : ∃ q5, q5 = [(L, (2 : Int)), (6, 1)] := ⟨_, rfl⟩
    obtain ⟨k5, ek5⟩ : ∃ k5, k5 = [(L + 1, (1 : Int)), (7, 2)] := ⟨_, rfl⟩
    rw [← eq5, ← ek5] at S5
    rw [← eq5] at P5 W5
    rw [← ek5] at P6 W6
    obtain ⟨ca, ha, ga, da1, da2, la1, la2⟩ := S5.sh1 P5.kp.nn P6.kp.nn W5 W6 (by decide) (by decide)
    refine ⟨_, rfl, x5, dy5, _, rfl, hx5, by rfl, _, rfl, x5, ca, ha, _, rfl, ga, .inl ⟨e, rfl, he, eB, fun r6 cb hb H18 nr1 s18 isb db1 db2 lb1 lb2 => ?_⟩⟩
    have R6 := powB P5.kp.nn P6.kp.nn da1 da2 la1 la2 isb db1 db2 lb1 lb2
    clear isb db1 db2 lb1 lb2
    have ia := ga.1
    have ia18 := ia.same s18
    -- the cycles alone
    refine ⟨_, rfl, x5, dy5, _, rfl, s18 _ _ hx5, x5, ca, ha, rfl, ia18, ?_⟩
    refine fun b10 n_b10 => ?_
    generalize g_b10 : upd _ b10 _ = H19
    obtain ⟨s19, e19⟩ := U.upd_facts g_b10 n_b10
    clear g_b10
    refine fun b11 n_b11 => ?_
    generalize g_b11 : upd _ b11 _ = H20
    obtain ⟨s20, e20⟩ := U.upd_facts g_b11 n_b11
    clear g_b11
    refine fun x6 dx6 nx ndx ne => initS_of (l1 := ca) (l2 := []) (s20 _ _ e19) e20 ia.a1.nd List.nodup_nil ia.a1.2 pos0 (by omega) (by simp) nx ndx ne fun cs hs H21 s21 pm1 pm2 sh => ⟨rfl, ?_⟩
    have S6 : ShB T.C_Shape H21 x6 q5 [] 2 0 := shB_mk sh pm1 pm2 da1 (pos0.ds List.nodup_nil) la1 (by simp)
    obtain ⟨dy6, D7, D8, hx6⟩ := S6.at_
    obtain ⟨cc, hc, gc, dc1, dc2, lc1, lc2⟩ := S6.sh1 P5.kp.nn Z0 W5 W0 (by decide) (by decide)
    refine ⟨x6, dy6, _, rfl, hx6, by rfl, _, rfl, x6, cc, hc, _, rfl, gc, .inl ⟨e, rfl, he, eB, fun r8 cb hb H22 nr1 s22 isb db1 db2 lb1 lb2 => ?_⟩⟩
    have R8 := powB P5.kp.nn Z0 dc1 dc2 lc1 lc2 isb db1 db2 lb1 lb2
    have y22 := ((s19.trans s20).trans s21).trans s22
    clear isb db1 db2 lb1 lb2 gc dc1 dc2 lc1 lc2 hx6 S6 sh s19 e19 s20 e20 s21 s22
    -- the chains alone
    refine fun b12 n_b12 => ?_
    generalize g_b12 : upd _ b12 _ = H23
    obtain ⟨s23, e23⟩ := U.upd_facts g_b12 n_b12
    clear g_b12
    have z23 := (s18.trans y22).trans s23
    have ia23 := ia.same z23
    refine ⟨_, rfl, x5, dy5, _, rfl, z23 _ _ hx5, x5, ca, ha, rfl, ia23, ?_⟩
    refine fun b13 n_b13 => ?_
    generalize g_b13 : upd _ b13 _ = H24
    obtain ⟨s24, e24⟩ := U.upd_facts g_b13 n_b13
    clear g_b13
    refine fun x7 dx7 nx ndx ne => initS_of (l1 := []) (l2 := ha) (s24 _ _ e23) e24 List.nodup_nil ia.a2.nd pos0 ia.a2.2 (by simp) (by omega) nx ndx ne fun cs hs H25 s25 pm1 pm2 sh => ⟨rfl, ?_⟩
    have S7 : ShB T.C_Shape H25 x7 [] k5 0 2 := shB_mk sh pm1 pm2 (pos0.ds List.nodup_nil) da2 (by simp) la2
    obtain ⟨dy7, D9, D10, hx7⟩ := S7.at_
    obtain ⟨cc, hc, gc, dc1, dc2, lc1, lc2⟩ := S7.sh1 Z0 P6.kp.nn W0 W6 (by decide) (by decide)
    refine ⟨x7, dy7, _, rfl, hx7, by rfl, _, rfl, x7, cc, hc, _, rfl, gc, .inl ⟨e, rfl, he, eB, fun r9 cb hb H26 nr1 s26 isb db1 db2 lb1 lb2 => ?_⟩⟩
    have R9 := powB Z0 P6.kp.nn dc1 dc2 lc1 lc2 isb db1 db2 lb1 lb2
    have y26 := ((s23.trans s24).trans s25).trans s26
    clear isb db1 db2 lb1 lb2 gc dc1 dc2 lc1 lc2 hx7 S7 sh e23 s24 e24 s25 s26 z23 ia23 s23
    refine ⟨two_le, ?_⟩
    refine fun b14 n_b14 => ?_
    generalize g_b14 : upd _ b14 _ = H27
    obtain ⟨s27, e27⟩ := U.upd_facts g_b14 n_b14
    clear g_b14
    have z27 := s18.trans ((y22.trans y26).trans s27)
    have R6' := R6.same ((y22.trans y26).trans s27)
    have R8' := R8.same (y26.trans s27)
    have R9' := R9.same s27
    have S5' := S5.same z27
    have x27 := x17.trans z27
    clear R6 R8 R9 y22 y26 s27 s18 ia18 x17
    -- sizes
    have nq : NN (cq q5 e) := nn_cq P5.kp e
    have nk : NN (hq k5 e) := nn_hq P6.kp.nn he
    have wq : wid (cq q5 e) = wid q5 := wid_cq P5.kp e
    have wk : wid (hq k5 e) = wid k5 := wid_hq P6.kp he
    obtain ⟨c6, h6, i6, z6⟩ := R6'.size nq nk
    obtain ⟨dyr, D11, D12, hr6⟩ := R6'.at_
    refine ⟨_, rfl, r6, dyr, _, rfl, hr6, r6, c6, h6, rfl, i6, fun H28 s28 => ?_⟩
    obtain ⟨c55, h55, i55, z55⟩ := (S5'.same s28).size P5.kp.nn P6.kp.nn
    obtain ⟨dys, D13, D14, hs5⟩ := (S5'.same s28).at_
    refine ⟨_, rfl, x5, dys, _, rfl, hs5, x5, c55, h55, rfl, i55, fun H29 s29 => ⟨rfl, _, rfl, ?_⟩⟩
    rw [z6, z55, wq, wk]
    rw [show (!decide (V.int (wid q5 + wid k5) = V.int (wid q5 + wid k5))) = false by simp]
    refine iteF ?_
    have s2829 := s28.trans s29
    replace R6' := R6'.same s2829
    replace R8' := R8'.same s2829
    replace R9' := R9'.same s2829
    replace S5' := S5'.same s2829
    have x29 := x27.trans s2829
    have e29 := s2829 _ _ e27
    clear i6 z6 hr6 i55 z55 hs5 s2829 s28 s29 x27 e27
    -- the sum
    obtain ⟨dyr, D11, D12, hr6⟩ := R6'.at_
    obtain ⟨dy8, D13, D14, hr8⟩ := R8'.at_
    obtain ⟨dy9, D15, D16, hr9⟩ := R9'.at_
    have wz : wid (hq [] e) = 0 := rfl
    have wz2 : wid (cq [] e) = 0 := rfl
    have w0q : 0 ≤ wid q5 := by rw [eq5, wid2]; omega
    have w0k : 0 ≤ wid k5 := by rw [ek5, wid2]; omega
    obtain ⟨c8, h8, g8, d8, d8', l8, l8'⟩ := R8'.sh1 nq (nn_hq Z0 he) (by rw [wq]; exact W5) (by rw [wz]; omega) (by decide) (by decide)
    obtain ⟨c9, h9, g9, d9, d9', l9, l9'⟩ := R9'.sh1 (nn_cq pos0.kp e) nk (by rw [wz2]; omega) (by rw [wk]; exact W6) (by decide) (by decide)
    refine ⟨_, rfl, _, rfl, b14, _, _, _, rfl, rfl, SqL.of e29, rfl, _, rfl, b14, _, _, _, rfl, rfl, SqL.of e29, rfl, ?_⟩
    refine ⟨r8, _, _, r9, _, _, rfl, rfl, hr8, hr9, r8, r9, c8, h8, c9, h9, rfl, g8, g9, ?_, ?_, fun r10 cx hx H30 nr s30 isx ex1 ex2 => ?_⟩
    · rw [nq.sz d8, (nn_cq pos0.kp e).sz d9, wq, wz2]; omega
    · rw [(nn_hq Z0 he).sz d8', nk.sz d9', wk, wz]; omega
    have R10 := addB nq (nn_hq Z0 he) (nn_cq pos0.kp e) nk d8 d8' d9 d9' isx ex1 ex2
    have R6'' := R6'.same s30
    have S5'' := S5'.same s30
    obtain ⟨dyr, D11, D12, hr6⟩ := R6''.at_
    obtain ⟨dyx, D13, D14, hrx⟩ := R10.at_
    obtain ⟨c1, h1, c2, h2, i1, i2, f1, f2⟩ := R6''.eqs R10 (by rw [show cq ([] : List (Int × Int)) e = [] from rfl, List.append_nil]) (by rw [show hq ([] : List (Int × Int)) e = [] from rfl, List.nil_append])
    refine ⟨r6, _, _, r10, _, _, rfl, rfl, hr6, hrx, r6, r10, c1, h1, c2, h2, rfl, i1, i2, f1, f2, _, rfl, _, rfl, iteF ?_⟩
    have x30 := x29.trans s30
    clear i1 i2 f1 f2 R10 R6'' R6' R8' R9' S5' hrx hr6 g8 g9 d8 d8' d9 d9' hr8 hr9 e29 isx ex1 ex2 s30 x29
    -- the power of a power
    obtain ⟨dys, D17, D18, hs5⟩ := S5''.at_
    obtain ⟨ca, ha, ga, da1, da2, la1, la2⟩ := S5''.sh1 P5.kp.nn P6.kp.nn W5 W6 (by decide) (by decide)
    refine ⟨_, rfl, x5, dys, _, rfl, hs5, by rfl, _, rfl, x5, ca, ha, _, rfl, ga, .inl ⟨e, rfl, he, eB, fun r11 cb hb H31 nr1 s31 isb db1 db2 lb1 lb2 => ?_⟩⟩
    have R11 := powB P5.kp.nn P6.kp.nn da1 da2 la1 la2 isb db1 db2 lb1 lb2
    obtain ⟨dy11, D19, D20, hr11⟩ := R11.at_
    obtain ⟨cc, hc, gc, dc1, dc2, lc1, lc2⟩ := R11.sh1 nq nk (by rw [wq]; exact W5) (by rw [wk]; exact W6) (by decide) (by decide)
    refine ⟨r11, dy11, _, rfl, hr11, by rfl, r11, cc, hc, _, rfl, gc, .inl ⟨2, rfl, by omega, by omega, fun r12 cd hd H32 nr2 s32 isd dd1 dd2 ld1 ld2 => ?_⟩⟩
    have R12 := powB nq nk dc1 dc2 lc1 lc2 isd dd1 dd2 ld1 ld2
    have s3132 := s31.trans s32
    have S5x := S5''.same s3132
    obtain ⟨dyy, D21, D22, hy5⟩ := S5x.at_
    obtain ⟨ce, hce, ge, de1, de2, le1, le2⟩ := S5x.sh1 P5.kp.nn P6.kp.nn W5 W6 (by decide) (by decide)
    refine ⟨_, rfl, x5, dyy, _, rfl, hy5, by rfl, _, rfl, _, _, rfl, rfl, hm2, x5, ce, hce, _, rfl, ge, .inl ⟨2 * e, rfl, by omega, e2B, fun r13 cf hf H33 nr3 s33 isf df1 df2 lf1 lf2 => ?_⟩⟩
    have R13 := powB P5.kp.nn P6.kp.nn de1 de2 le1 le2 isf df1 df2 lf1 lf2
    have R12' := R12.same s33
    obtain ⟨dy12, D23, D24, hr12⟩ := R12'.at_
    obtain ⟨dy13, D25, D26, hr13⟩ := R13.at_
    obtain ⟨c1, h1, c2, h2, i1, i2, f1, f2⟩ := R12'.eqs R13 (cq_two P5.kp.k he) (hq_two P6.kp.k he)
    exact ⟨r12, _, _, r13, _, _, rfl, rfl, hr12, hr13, r12, r13, c1, h1, c2, h2, rfl, i1, i2, f1, f2, q H33 (x30.trans (s3132.trans s33))⟩
end
end My
namespace My
open PySem L2 U StX PM
theorem mem_lens {f : PF} {s : List Int} {L : Nat} (h : L ∈ lens f s) : ∃ e ∈ s, (rowN f e).length = L := List.mem_map.mp h
theorem lens_cy {n : Int} {f : PF} (w : WF n f) (hn : n ≤ 12) : ∀ L ∈ lens f (cycS n f), 1 ≤ L ∧ L ≤ 12 := fun L hL => by
  obtain ⟨e, he, rfl⟩ := mem_lens hL
  have d := cycS_dom he
  have := row_pos w d.1 d.2
  have := row_le w d.1 d.2
  omega
theorem lens_ch {n : Int} {f : PF} (w : WF n f) (hn : n ≤ 12) : ∀ L ∈ lens f (nons n f), 1 ≤ L ∧ L ≤ 12 := fun L hL => by
  obtain ⟨e, he, rfl⟩ := mem_lens hL
  have d := nons_dom he
  have := row_pos w d.1 d.2.1
  have := row_le w d.1 d.2.1
  omega
theorem kp_ones {Ls : List Nat} (h : ∀ L ∈ Ls, 1 ≤ L ∧ L ≤ 12) : KP (ones Ls) := fun q hq => by
  obtain ⟨L, hL, rfl⟩ := List.mem_map.mp hq
  have := h L hL
  exact ⟨by show 0 < (L : Int); omega, by show (0 : Int) ≤ 1; decide⟩
theorem wid_ones {Ls : List Nat} (h : ∀ L ∈ Ls, 1 ≤ L ∧ L ≤ 12) : wid (ones Ls) ≤ 12 * (Ls.length : Int) := by
  unfold wid
  rw [wsum_ones]
  induction Ls with
  | nil => exact Int.le_refl 0
  | cons L r ih =>
    have h1 := h L (List.mem_cons_self ..)
    have h2 := ih fun L hL => h L (List.mem_cons_of_mem _ hL)
    rw [List.map_cons, List.sum_cons, List.length_cons]
    omega
theorem key_len {Ls : List Nat} (h : ∀ L ∈ Ls, 1 ≤ L ∧ L ≤ 12) {l : List (Int × Int)} (d : DI l (cnt Ls)) : l.length ≤ 13 := by
  have := len_range (n := 13) d.nd fun x hx => ?_
  · rw [List.length_map] at this
    exact this
  · obtain ⟨⟨a, b⟩, hp, rfl⟩ := List.mem_map.mp hx
    have e := d.mem.mp hp
    rw [cnt_bag] at e
    obtain ⟨e1, e2⟩ := toPF_some.mp e
    obtain ⟨q, hq, h1, _⟩ := bag_mem (qs := ones Ls) (x := a) (by omega)
    obtain ⟨L, hL, rfl⟩ := List.mem_map.mp hq
    have := h L hL
    dsimp only at h1 ⊢
    omega
theorem shB_of {CS : Addr} {H : Hp} {s : Addr} {cs hs : List (Int × Int)} {n : Int} {f : PF} (w : WF n f) (hn : n ≤ 12) (is : IsShape CS H s cs hs) (d1 : DI cs (cnt (lens f (cycS n f)))) (d2 : DI hs (cnt (lens f (nons n f)))) : ShB CS H s (ones (lens f (cycS n f))) (ones (lens f (nons n f))) 13 13 := by
  have l1 := key_len (lens_cy w hn) d1
  have l2 := key_len (lens_ch w hn) d2
  rw [cnt_bag] at d1 d2
  exact ⟨cs, hs, is, d1, d2, l1, l2⟩
theorem ShB.off {C : Addr} {p : Addr} {H H' : Hp} {s : Addr} {qs ks : List (Int × Int)} {a b : Nat} (h : ShB C H s qs ks a b) (o : Off p H H') (e : ∃ xs, H p = some (.lst xs)) : ShB C H' s qs ks a b := by
  obtain ⟨cs, hs, ⟨⟨dx, D1, D2, h1, h2, h3⟩, a1, a2, l1, l2⟩, h4⟩ := h
  obtain ⟨xs, e⟩ := e
  exact ⟨cs, hs, ⟨⟨dx, D1, D2, o _ _ (ne_of h1 e (by intro z; cases z)) h1, o _ _ (ne_of h2 e (by intro z; cases z)) h2, o _ _ (ne_of h3 e (by intro z; cases z)) h3⟩, a1, a2, l1, l2⟩, h4⟩
theorem pw_it {n : Int} {f : PF} {e : Int} (he : 0 < e) : pw n f e = iter f e.toNat := by
  unfold pw
  rw [if_neg (by omega), if_neg (by omega), show e.natAbs = e.toNat by omega]
theorem cyc_bag {n : Int} {f : PF} (w : WF n f) {e : Int} (he : 0 < e) : bag (ones (lens (pw n f e) (cycS n (pw n f e)))) = bag (cq (ones (lens f (cycS n f))) e) := by
  funext x
  rw [pw_it he, cyc_pow w (by omega), bag_dl, wsum_cq, show ((e.toNat : Nat) : Int) = e by omega]
theorem chn_bag {n : Int} {f : PF} (w : WF n f) {e : Int} (he : 0 < e) : bag (ones (lens (pw n f e) (nons n (pw n f e)))) = bag (hq (ones (lens f (nons n f))) e) := by
  funext x
  rw [pw_it he, chn_pow w (by omega), bag_dl, wsum_hq, show ((e.toNat : Nat) : Int) = e by omega]
theorem lens_few {n : Int} {f : PF} (hn : n ≤ 12) : (lens f (cycS n f)).length ≤ 12 ∧ (lens f (nons n f)).length ≤ 12 := by
  unfold lens
  rw [List.length_map, List.length_map]
  have e : (rgI n.toNat).length = n.toNat := by simp [rgI]
  have b1 := (cycS_sub n f).1.length_le
  have b2 := List.length_filter_le (nonT n f) (rgI n.toNat)
  unfold nons
  omega
section
variable {P : Program} {w : World} {K : PySem.W.Frag} {mg : Str → Option Value} {base : Heap}
theorem ok_pow (T : Txt K mg) : FnR P w K mg base CX0 9 T.f_Shape__pow (spShPowI T.C_Shape) := ok_sh_pow T
theorem ok_law (T : Txt K mg) : FnG P w K mg base CX0 40 T.f_law (spLaw K) := by
  refine T.A_law.okG sc_law (fun vs H Q E h => ?_) (fun cdv A outer s H vs Q E gd hr h => ?_)
  · obtain ⟨a, ns, rfl, _⟩ := h
    rfl
  · obtain ⟨a, ns, rfl, hS, hl, q⟩ := h
    have hu := hu_of hr
    refine ⟨_, (pss_cons (ps_for PassesOwn.never rfl (pi_range1 rfl T.n_range (pa_cons (pe_callB (call_max2 rfl) (by rfl) T.n_max (by decide +kernel) (pa_cons pe_int (pa_cons (pe_callB (call_min2 rfl) (by rfl) T.n_min (by decide +kernel) (pa_cons (pe_callB call_len_seq (by rfl) T.n_len (by decide +kernel) (pa_cons (pv 0) pa_nil)) (pa_cons pe_int pa_nil))) pa_nil))) pa_nil)) (pg_name (i := 1) sc_law.nd rfl (Or.inl rfl))
        (pss_cons (ps_set (i := 2) sc_law.nd rfl (Or.inl rfl) (pe_callR (ok_hand T) (hr.mono (by decide)) T.A_l_hand.kp rfl T.g_l_hand pass0 (pa_cons (pv 0) (pa_cons (pv 1) pa_nil))))
      (pss_cons (ps_set (i := 3) sc_law.nd rfl (Or.inl rfl) (pe_op op_add pe_int (pe_callR (ok_draw T) (hr.mono (by decide)) T.A_l_draw.kp rfl T.g_l_draw pass0 (pa_cons (pv 2) (pa_cons pe_int pa_nil)))))
      (pss_cons (ps_set (i := 4) sc_law.nd rfl (Or.inl rfl) (pe_makeR T.M_Map (ok_init T) (hr.mono (by decide)) rfl T.g_Map pass0 (pa_cons (pv 3) (pa_cons (pe_callR (ok_l_arrows T) (hr.mono (by decide)) T.A_l_arrows.kp rfl T.g_l_arrows pass0 (pa_cons (pv 2) (pa_cons (pv 3) (pa_cons (pe_op op_add pe_int (pe_callR (ok_draw T) (hr.mono (by decide)) T.A_l_draw.kp rfl T.g_l_draw pass0 (pa_cons (pv 2) (pa_cons pe_int pa_nil)))) pa_nil)))) pa_nil))))
      (pss_cons (ps_set (i := 5) sc_law.nd rfl (Or.inl rfl) (pe_callR (ok_shape_of T) (hr.mono (by decide)) T.A_shape_of.kp rfl T.g_shape_of pass0 (pa_cons (pv 4) pa_nil)))
      (pss_cons (ps_for PassesOwn.never rfl (pi_list (pe_lst (pa_cons pe_int (pa_cons pe_int (pa_cons pe_int (pa_cons pe_int (pa_cons pe_int (pa_cons pe_int (pa_cons pe_int (pa_cons (pe_op op_pow pe_int pe_int) pa_nil)))))))))) (pg_name (i := 6) sc_law.nd rfl (Or.inl rfl))
        (pss_one (ps_if (pt_cmpR (op_neO T.o_Shape T.ne_Shape T.m_Shape__eq T.i_Shape__eq (ok_sh_eq T) (hr.mono (by decide)) pass0) (pe_callR (ok_shape_of T) (hr.mono (by decide)) T.A_shape_of.kp rfl T.g_shape_of pass0 (pa_cons (pe_methR (pv 4) T.o_Map.cl T.meth_Map_power (ok_power T) (hr.mono (by decide)) pass0 (pa_cons (pv 6) pa_nil)) pa_nil)) (pe_methR (pv 5) T.o_Shape.cl T.meth_Shape_power (fnR_calm (okX_sh_power T)) (hr.mono (by decide)) pass0 (pa_cons (pv 6) pa_nil)) (nomark _))
        (pss_one (ps_ret pe_bl)) pss_nil)))
      (pss_cons (ps_if (PW.pt (pw_or (pt_cmpR (op_neO T.o_Shape T.ne_Shape T.m_Shape__eq T.i_Shape__eq (ok_sh_eq T) (hr.mono (by decide)) pass0) (pe_op (op_binI T.bt_Shape T.o_Shape.sf T.m_Shape__pow T.i_Shape__pow (ok_pow T) (hr.mono (by decide)) pass0) (pv 5) pe_int) (pe_methR (pv 5) T.o_Shape.cl T.meth_Shape_power (fnR_calm (okX_sh_power T)) (hr.mono (by decide)) pass0 (pa_cons pe_int pa_nil)) (nomark _)) (pw_or (pt_cmpR (op_neO T.o_Shape T.ne_Shape T.m_Shape__eq T.i_Shape__eq (ok_sh_eq T) (hr.mono (by decide)) pass0) (pe_op (op_binI T.bt_Shape T.o_Shape.sf T.m_Shape__pow T.i_Shape__pow (ok_pow T) (hr.mono (by decide)) pass0) (pv 5) pe_int) (pe_methR (pv 5) T.o_Shape.cl T.meth_Shape_power (fnR_calm (okX_sh_power T)) (hr.mono (by decide)) pass0 (pa_cons pe_int pa_nil)) (nomark _)) (pw_or1 (pt_cmpR (op_neO T.o_Shape T.ne_Shape T.m_Shape__eq T.i_Shape__eq (ok_sh_eq T) (hr.mono (by decide)) pass0) (pe_op (op_binI T.bt_Shape T.o_Shape.sf T.m_Shape__pow T.i_Shape__pow (ok_pow T) (hr.mono (by decide)) pass0) (pv 5) pe_int) (pv 5) (nomark _))))))
        (pss_one (ps_ret pe_bl)) pss_nil)
      (pss_cons (ps_par (i := 7) (j := 8) rfl sc_law.nd rfl rfl (by decide) rfl rfl (pa_cons (pe_op op_add pe_int (pe_callR (ok_draw T) (hr.mono (by decide)) T.A_l_draw.kp rfl T.g_l_draw pass0 (pa_cons (pv 2) (pa_cons pe_int pa_nil)))) (pa_cons (pe_op op_add (pe_op op_pow pe_int pe_int) (pe_callR (ok_draw T) (hr.mono (by decide)) T.A_l_draw.kp rfl T.g_l_draw pass0 (pa_cons (pv 2) (pa_cons (pe_op op_pow pe_int pe_int) pa_nil)))) pa_nil)) (by rfl))
      (pss_cons (ps_for PassesOwn.never rfl (pi_list (pe_lst (pa_cons (pe_tup (pa_cons (pv 7) (pa_cons (pe_op op_add pe_int (pe_callR (ok_draw T) (hr.mono (by decide)) T.A_l_draw.kp rfl T.g_l_draw pass0 (pa_cons (pv 2) (pa_cons pe_int pa_nil)))) pa_nil))) (pa_cons (pe_tup (pa_cons (pv 8) (pa_cons (pv 7) pa_nil))) (pa_cons (pe_tup (pa_cons (pv 7) (pa_cons (pv 8) pa_nil))) (pa_cons (pe_tup (pa_cons (pv 8) (pa_cons (pe_op op_add (pe_op op_pow pe_int pe_int) (pv 7)) pa_nil))) pa_nil)))))) (pg_tup rfl (pgs_cons (pg_name (i := 9) sc_law.nd rfl (Or.inl rfl)) (pgs_cons (pg_name (i := 6) sc_law.nd rfl (Or.inl rfl)) pgs_nil)))
        (pss_one (ps_if (pt_not (pt_val (pe_callR (ok_l_great T) (hr.mono (by decide)) T.A_l_great.kp rfl T.g_l_great pass0 (pa_cons (pv 2) (pa_cons (pv 9) (pa_cons (pv 6) pa_nil))))))
        (pss_one (ps_ret pe_bl)) pss_nil)))
      (pss_cons (ps_set (i := 10) sc_law.nd rfl (Or.inl rfl) (pe_ix ix_list (pe_lst (pa_cons pe_int (pa_cons (pe_un un_neg pe_int) (pa_cons pe_non (pa_cons pe_bl (pa_cons pe_str (pa_cons (pe_tup (pa_cons pe_int pa_nil)) pa_nil))))))) (pe_callR (ok_draw T) (hr.mono (by decide)) T.A_l_draw.kp rfl T.g_l_draw pass0 (pa_cons (pv 2) (pa_cons pe_int pa_nil))) (fun _ _ => rfl)))
      (pss_one (ps_if (pt_cmpR (L2.op_neD hr.units) (pe_callG (ok_l_refused T) gd (hr.mono (by decide)) T.A_l_refused.kp rfl T.g_l_refused pass0 (pa_cons (pv 5) (pa_cons (pv 10) pa_nil))) (pe_lst (pa_cons pe_bl (pa_cons (pe_callB (call_repr gd hr.units) (by rfl) T.n_repr (by decide +kernel) (pa_cons (pv 10) pa_nil)) pa_nil))) (nomark _))
        (pss_one (ps_ret pe_bl)) pss_nil))))))))))))
      (pss_one (ps_ret pe_bl))), ?_⟩
    refine ⟨_, rfl, a, _, rfl, .inl hS, _, _, rfl, _, _, rfl, _, rfl, ?_, ?_, ?_⟩
    · rw [List.length_map]; (repeat' split) <;> omega
    · rw [List.length_map]; (repeat' split) <;> omega
    have hB := Bg_ge
    refine for_it (walk_range (lo := 0)) (fun i σ H' => ∃ v1 v2 v3 v4 v5 v6 v7 v8 v9 v10, σ = [some (.ref a), v1, v2, v3, v4, v5, v6, v7, v8, v9, v10] ∧ Same H H')
      ⟨none, none, none, none, none, none, none, none, none, none, rfl, Same.refl H⟩ (fun _ _ _ _ _ => trivial) ?_ ?_
    · rintro k v σ H' H1 hk ⟨v1, v2, v3, v4, v5, v6, v7, v8, v9, v10, rfl, p1⟩ ⟨rfl, rfl⟩
      refine ⟨_, rfl, _, rfl, a, ns, _, rfl, SqL.same hS p1, hl, fun p H2 x y np hp s2 hx hy hy2 => ?_⟩
      have p0 : H p = none := p1.free np
      have pool2 : PoolAt H2 p := ⟨x, y, hp, hx, hy, hy2⟩
      refine ⟨_, rfl, ?_⟩
      dsimp only [tCons, tNil, tC]
      refine draw_of pool2 (by decide) (by decide) fun r H3 r0 r1 pool3 off3 _ => ⟨_, _, rfl, rfl, ?_⟩
      have n1 : 1 ≤ 1 + r := by omega
      have n2 : 1 + r ≤ 12 := by omega
      refine ⟨_, rfl, _, rfl, _, rfl, _, rfl, ?_⟩
      dsimp only [tCons, tNil, tC]
      refine draw_of pool3 (by decide) (by decide) fun w4 H4 w0 w1 pool4 off4 _ => ⟨_, _, rfl, rfl, ?_⟩
      refine ⟨p, 1 + r, _, rfl, pool4, n1, by omega, fun d H5 l nd5 hd5 di wf hll pool5 off5 => ?_⟩
      have sH5 : Same H H5 := Same.off (Same.off (Same.off (p1.trans s2) off3 p0) off4 p0) off5 p0
      obtain ⟨f, ef⟩ : ∃ f, f = lk l := ⟨_, rfl⟩
      rw [← ef] at di wf
      refine fun m dx nm ndx ne => init_of hd5 di wf n1 (by omega) hll nm ndx ne fun H6 s6 hm => ⟨rfl, ?_⟩
      refine ⟨_, rfl, m, 1 + r, f, rfl, hm, fun fo cs0 hs0 H7 s7 is0 dc0 dh0 => ?_⟩
      obtain ⟨n, en⟩ : ∃ n, n = 1 + r := ⟨_, rfl⟩
      rw [← en] at wf hm dc0 dh0 n1 n2 ⊢
      have F7 := shB_of wf n2 is0 dc0 dh0
      obtain ⟨qs, eqs⟩ : ∃ qs, qs = ones (lens f (cycS n f)) := ⟨_, rfl⟩
      obtain ⟨ks, eks⟩ : ∃ ks, ks = ones (lens f (nons n f)) := ⟨_, rfl⟩
      have kq : KP qs := by rw [eqs]; exact kp_ones (lens_cy wf n2)
      have kk : KP ks := by rw [eks]; exact kp_ones (lens_ch wf n2)
      have wq : wid qs < Bg := by rw [eqs]; have := wid_ones (lens_cy wf n2); have := (lens_few (f := f) n2).1; omega
      have wk : wid ks < Bg := by rw [eks]; have := wid_ones (lens_ch wf n2); have := (lens_few (f := f) n2).2; omega
      rw [← eqs, ← eks] at F7
      have M7 := hm.same s7
      have pool7 := pool5.same (s6.trans s7)
      have sH7 := sH5.trans (s6.trans s7)
      clear is0 dc0 dh0 hm hd5 s6 s7 pool5 pool4 pool3 pool2 off5 off4 off3 hp sH5 p1 s2
      refine ⟨_, _, rfl, rfl, ⟨by decide, by decide, by decide⟩, (by show 8 ≤ sizeLine; decide), ?_⟩
      refine fun b1 n_b1 => ?_
      generalize g_b1 : upd _ b1 _ = H8
      obtain ⟨s8, e8⟩ := U.upd_facts g_b1 n_b1
      clear g_b1
      replace M7 := M7.same s8
      replace F7 := F7.same s8
      replace pool7 := pool7.same s8
      replace sH7 := sH7.trans s8
      clear s8
      have exps : ∀ v ∈ [V.int 1, .int 2, .int 3, .int 4, .int 6, .int 12, .int 13, .int (10 ^ (30 : Int).toNat)], ∃ e : Int, v = .int e ∧ 0 < e ∧ e < Bg := by
        intro v hv
        simp only [List.mem_cons, List.not_mem_nil, or_false] at hv
        rcases hv with rfl | rfl | rfl | rfl | rfl | rfl | rfl | rfl
        · exact ⟨_, rfl, by decide, by omega⟩
        · exact ⟨_, rfl, by decide, by omega⟩
        · exact ⟨_, rfl, by decide, by omega⟩
        · exact ⟨_, rfl, by decide, by omega⟩
        · exact ⟨_, rfl, by decide, by omega⟩
        · exact ⟨_, rfl, by decide, by omega⟩
        · exact ⟨_, rfl, by decide, by omega⟩
        · exact ⟨_, rfl, by decide, Int.lt_of_lt_of_le (by decide) hB⟩
      refine ⟨b1, rfl, ⟨_, SqL.of e8⟩, ?_⟩
      refine for_it (walk_list (xs := [V.int 1, .int 2, .int 3, .int 4, .int 6, .int 12, .int 13, .int (10 ^ (30 : Int).toNat)])) (fun i σ H' => ∃ v6, σ = [some (.ref a), some (.int (0 + (k : Nat))), some (.ref p), some (.int n), some (.ref m), some (.ref fo), v6, v7, v8, v9, v10] ∧ Same H8 H')
        ⟨v6, rfl, Same.refl _⟩ (fun i σ H' _ ⟨_, _, z⟩ => SqL.of (z _ _ e8)) ?_ ?_
      · rintro i v σ Ha Ha' hi ⟨w6, rfl, sa⟩ ⟨rfl, ev⟩
        obtain ⟨e, rfl, he, he9⟩ := exps v (List.mem_of_getElem? ev)
        have Mb := M7.same sa
        obtain ⟨ex, Dx, e1, e2⟩ := id Mb.ob
        refine ⟨_, rfl, m, ex, _, rfl, e1, flds_no _ _ (by decide +kernel) (by decide +kernel), _, rfl, m, n, f, e, rfl, Mb, fun c Hc nc sc mc => ?_⟩
        refine ⟨c, n, _, rfl, mc, fun s2 cs2 hs2 Hd sd is2 d1 d2 => ?_⟩
        have S2 := shB_of mc.wf n2 is2 d1 d2
        have Fd := (F7.same sa).same (sc.trans sd)
        obtain ⟨dy, D1, D2, hfo⟩ := Fd.at_
        obtain ⟨ca, ha, ga, da1, da2, la1, la2⟩ := Fd.sh1 kq.nn kk.nn wq wk (by decide) (by decide)
        refine ⟨_, rfl, fo, dy, _, rfl, hfo, by rfl, _, rfl, fo, ca, ha, _, rfl, ga, .inl ⟨e, rfl, he, he9, fun r3 cb hb He nr se isb db1 db2 lb1 lb2 => ?_⟩⟩
        have R3 := powB kq.nn kk.nn da1 da2 la1 la2 isb db1 db2 lb1 lb2
        have S2' := S2.same se
        obtain ⟨dyr, D3, D4, hr3⟩ := R3.at_
        obtain ⟨dys, D5, D6, hs2'⟩ := S2'.at_
        obtain ⟨c1, h1, c2, h2, i1, i2, f1, f2⟩ := S2'.eqs R3 (by rw [eqs]; exact cyc_bag wf he) (by rw [eks]; exact chn_bag wf he)
        exact ⟨s2, _, _, r3, _, _, rfl, rfl, hs2', hr3, s2, r3, c1, h1, c2, h2, rfl, i1, i2, f1, f2, _, rfl, _, rfl, iteF ⟨_, rfl, sa.trans ((sc.trans sd).trans se)⟩⟩
      rintro σ Ha ⟨w6, rfl, sa⟩
      replace M7 := M7.same sa
      replace F7 := F7.same sa
      replace pool7 := pool7.same sa
      replace sH7 := sH7.trans sa
      clear sa exps e8 n_b1
      obtain ⟨dy, D1, D2, hfo⟩ := F7.at_
      obtain ⟨ca, ha, ga, da1, da2, la1, la2⟩ := F7.sh1 kq.nn kk.nn wq wk (by decide) (by decide)
      -- formed ** 2
      refine ⟨_, rfl, fo, dy, _, 2, rfl, rfl, hfo, fo, ca, ha, 2, rfl, ga, by decide, by omega, fun r1 cb hb Hb nr sb isb db1 db2 => ?_⟩
      have B1 : ShB T.C_Shape Hb r1 (cq qs 2) (hq ks 2) 1000 1000 := ⟨cb, hb, isb, by rw [← cq_of kq.nn da1]; exact db1, by rw [← hq_of kk.nn da2]; exact db2, isb.l1, isb.l2⟩
      have ga1 : Sh1 T.C_Shape Hb fo ca ha := ⟨ga.1.same sb, ga.2⟩
      refine ⟨_, rfl, fo, dy, _, rfl, sb _ _ hfo, by rfl, fo, ca, ha, _, rfl, ga1, .inl ⟨2, rfl, by decide, by omega, fun r2 cc hc Hc nr2 sc isc dc1 dc2 lc1 lc2 => ?_⟩⟩
      have B2 := powB kq.nn kk.nn da1 da2 la1 la2 isc dc1 dc2 lc1 lc2
      have B1' := B1.same sc
      obtain ⟨dyr, D3, D4, hr1⟩ := B1'.at_
      obtain ⟨dys, D5, D6, hr2⟩ := B2.at_
      obtain ⟨c1, h1, c2, h2, i1, i2, f1, f2⟩ := B1'.eqs B2 rfl rfl
      refine ⟨r1, _, _, r2, _, _, rfl, rfl, hr1, hr2, r1, r2, c1, h1, c2, h2, rfl, i1, i2, f1, f2, _, rfl, _, rfl, iteF ?_⟩
      have sac := sb.trans sc
      clear i1 i2 f1 f2 B1 B1' B2 hr1 hr2 isb isc db1 db2 dc1 dc2 ga1 sb sc
      -- formed ** 5
      have ga1 : Sh1 T.C_Shape Hc fo ca ha := ⟨ga.1.same sac, ga.2⟩
      refine ⟨_, rfl, fo, dy, _, 5, rfl, rfl, sac _ _ hfo, fo, ca, ha, 5, rfl, ga1, by decide, by omega, fun r3 cb hb Hd nr sd isb db1 db2 => ?_⟩
      have B1 : ShB T.C_Shape Hd r3 (cq qs 5) (hq ks 5) 1000 1000 := ⟨cb, hb, isb, by rw [← cq_of kq.nn da1]; exact db1, by rw [← hq_of kk.nn da2]; exact db2, isb.l1, isb.l2⟩
      have ga2 : Sh1 T.C_Shape Hd fo ca ha := ⟨ga1.1.same sd, ga.2⟩
      refine ⟨_, rfl, fo, dy, _, rfl, sd _ _ (sac _ _ hfo), by rfl, fo, ca, ha, _, rfl, ga2, .inl ⟨5, rfl, by decide, by omega, fun r4 cc hc He nr2 se isc dc1 dc2 lc1 lc2 => ?_⟩⟩
      have B2 := powB kq.nn kk.nn da1 da2 la1 la2 isc dc1 dc2 lc1 lc2
      have B1' := B1.same se
      obtain ⟨dyr, D3, D4, hr1⟩ := B1'.at_
      obtain ⟨dys, D5, D6, hr2⟩ := B2.at_
      obtain ⟨c1, h1, c2, h2, i1, i2, f1, f2⟩ := B1'.eqs B2 rfl rfl
      refine ⟨r3, _, _, r4, _, _, rfl, rfl, hr1, hr2, r3, r4, c1, h1, c2, h2, rfl, i1, i2, f1, f2, _, rfl, _, rfl, iteF ?_⟩
      have sae := sac.trans (sd.trans se)
      clear i1 i2 f1 f2 B1 B1' B2 hr1 hr2 isb isc db1 db2 dc1 dc2 ga1 ga2 sac sd se
      -- formed ** 1
      have ga1 : Sh1 T.C_Shape He fo ca ha := ⟨ga.1.same sae, ga.2⟩
      refine ⟨_, rfl, fo, dy, _, 1, rfl, rfl, sae _ _ hfo, fo, ca, ha, 1, rfl, ga1, by decide, by omega, fun r5 cb hb Hf nr sf isb db1 db2 => ?_⟩
      have B1 : ShB T.C_Shape Hf r5 (cq qs 1) (hq ks 1) 1000 1000 := ⟨cb, hb, isb, by rw [← cq_of kq.nn da1]; exact db1, by rw [← hq_of kk.nn da2]; exact db2, isb.l1, isb.l2⟩
      have saf := sae.trans sf
      have F8 := F7.same saf
      obtain ⟨dyr, D3, D4, hr1⟩ := B1.at_
      obtain ⟨dys, D5, D6, hr2⟩ := F8.at_
      obtain ⟨c1, h1, c2, h2, i1, i2, f1, f2⟩ := B1.eqs F8 (cq_one qs) (hq_one kk.k)
      refine ⟨_, rfl, r5, _, _, fo, _, _, rfl, rfl, hr1, hr2, r5, fo, c1, h1, c2, h2, rfl, i1, i2, f1, f2, _, rfl, _, rfl, iteF ?_⟩
      replace pool7 := pool7.same saf
      replace sH7 := sH7.trans saf
      clear i1 i2 f1 f2 B1 hr1 hr2 isb db1 db2 ga1 sae sf saf F7 ga hfo M7 da1 da2
      -- the great ones
      refine draw_R rfl (fun R r => r) pool7 (by decide) (by decide) fun lo Hg l0 l9 pool8 off8 => ⟨_, _, rfl, rfl, ?_⟩
      refine ⟨_, _, rfl, rfl, ⟨by decide, by decide, by decide⟩, ?_⟩
      refine draw_R rfl (fun R r => ⟨_, _, rfl, rfl, ⟨by decide, by decide, by decide⟩, r⟩) pool8 (by decide) (by decide) fun hi Hh g0 g9 pool9 off9 => ⟨_, _, rfl, rfl, ?_⟩
      replace F8 := (F8.off off8 pool7.lst).off off9 pool8.lst
      replace sH7 := Same.off (Same.off sH7 off8 p0) off9 p0
      refine ⟨_, _, rfl, ?_⟩
      have E28 : (10 : Int) ^ (28 : Int).toNat = 10 ^ 28 := rfl
      have E29 : (10 : Int) ^ (29 : Int).toNat = 10 ^ 29 := rfl
      have E9 : (10 : Int) ^ (9 : Int).toNat = 10 ^ 9 := rfl
      rw [E9] at g9
      refine ⟨_, rfl, ?_⟩
      refine draw_R rfl (fun R r => r) pool9 (by decide) (by decide) fun r90 Hi q0 q9 pool10 off10 => ⟨_, _, rfl, rfl, two_le, ?_⟩
      replace F8 := F8.off off10 pool9.lst
      replace sH7 := Same.off sH7 off10 p0
      clear off8 off9 off10 pool7 pool8 pool9
      refine fun t1 n_t1 => ?_
      generalize g_t1 : upd _ t1 _ = Hj
      obtain ⟨sj, et1⟩ := U.upd_facts g_t1 n_t1
      clear g_t1
      refine ⟨_, rfl, _, rfl, two_le, ?_⟩
      refine fun t2 n_t2 => ?_
      generalize g_t2 : upd _ t2 _ = Hk
      obtain ⟨sk, et2⟩ := U.upd_facts g_t2 n_t2
      clear g_t2
      refine ⟨_, rfl, _, rfl, two_le, ?_⟩
      refine fun t3 n_t3 => ?_
      generalize g_t3 : upd _ t3 _ = Hl
      obtain ⟨sl, et3⟩ := U.upd_facts g_t3 n_t3
      clear g_t3
      refine ⟨_, rfl, _, _, rfl, rfl, ⟨by decide, by decide, by decide⟩, _, rfl, _, _, rfl, rfl, two_le, ?_⟩
      refine fun t4 n_t4 => ?_
      generalize g_t4 : upd _ t4 _ = Hm
      obtain ⟨sm, et4⟩ := U.upd_facts g_t4 n_t4
      clear g_t4
      refine ⟨(by show 4 ≤ sizeLine; decide), ?_⟩
      refine fun tl n_tl => ?_
      generalize g_tl : upd _ tl _ = Hn
      obtain ⟨sn, etl⟩ := U.upd_facts g_tl n_tl
      clear g_tl
      have sjn := (((sj.trans sk).trans sl).trans sm).trans sn
      replace et1 := sn _ _ (sm _ _ (sl _ _ (sk _ _ et1)))
      replace et2 := sn _ _ (sm _ _ (sl _ _ et2))
      replace et3 := sn _ _ (sm _ _ et3)
      replace et4 := sn _ _ et4
      replace F8 := F8.same sjn
      replace sH7 := sH7.trans sjn
      have pool11 := pool10.same sjn
      clear sj sk sl sm sn sjn pool10 n_t1 n_t2 n_t3 n_t4 n_tl
      refine ⟨tl, rfl, ⟨_, SqL.of etl⟩, ?_⟩
      refine for_it (walk_list (xs := [.ref t1, .ref t2, .ref t3, .ref t4])) (fun i σ H' => ∃ v6 v9, σ = [some (.ref a), some (.int (0 + (k : Nat))), some (.ref p), some (.int n), some (.ref m), some (.ref fo), v6, some (.int (8 + lo)), some (.int ((10 : Int) ^ (29 : Int).toNat + hi)), v9, v10] ∧ Same Hn H')
        ⟨_, _, rfl, Same.refl _⟩ (fun i σ H' _ ⟨_, _, _, z⟩ => SqL.of (z _ _ etl)) ?_ ?_
      · rintro i v σ Ha Ha' hi' ⟨w6, w9, rfl, sa⟩ ⟨rfl, ev⟩
        obtain ⟨tp, L, e, rfl, etp, hL, hL9, he, he9⟩ : ∃ (tp : Addr) (L e : Int), v = .ref tp ∧ Hn tp = some (.tup [.int L, .int e]) ∧ 8 ≤ L ∧ L ≤ 10 ^ 31 ∧ 0 < e ∧ e ≤ 10 ^ 31 := by
          match i, hi', ev with
          | 0, _, ev => cases ev; exact ⟨t1, _, _, rfl, et1, by omega, by omega, by omega, by omega⟩
          | 1, _, ev => cases ev; exact ⟨t2, _, _, rfl, et2, by rw [E29]; omega, by rw [E29]; omega, by omega, by omega⟩
          | 2, _, ev => cases ev; exact ⟨t3, _, _, rfl, et3, by omega, by omega, by rw [E29]; omega, by rw [E29]; omega⟩
          | 3, _, ev => cases ev; exact ⟨t4, _, _, rfl, et4, by rw [E29]; omega, by rw [E29]; omega, by rw [E28]; omega, by rw [E28]; omega⟩
          | i + 4, hi', _ => exact absurd hi' (by simp)
        refine ⟨tp, [.int L, .int e], rfl, SqT.of (sa _ _ etp), rfl, .int L, [.int e], rfl, .int e, [], rfl, rfl, ?_⟩
        exact ⟨_, rfl, _, rfl, _, rfl, _, L, e, rfl, hL, hL9, he, he9, fun Hb sb => ⟨_, rfl, iteF ⟨_, _, rfl, sa.trans sb⟩⟩⟩
      rintro σ Ha ⟨w6, w9, rfl, sa⟩
      replace F8 := F8.same sa
      replace sH7 := sH7.trans sa
      replace pool11 := pool11.same sa
      clear sa et1 et2 et3 et4 etl
      -- refused
      refine ⟨_, rfl, (by show 1 ≤ sizeLine; decide), ?_⟩
      refine fun o1 n_o1 => ?_
      generalize g_o1 : upd _ o1 _ = Hb
      obtain ⟨sb, eo1⟩ := U.upd_facts g_o1 n_o1
      clear g_o1
      refine ⟨(by show 6 ≤ sizeLine; decide), ?_⟩
      refine fun oL n_oL => ?_
      generalize g_oL : upd _ oL _ = Hc
      obtain ⟨sc, eoL⟩ := U.upd_facts g_oL n_oL
      clear g_oL
      have pool12 := (pool11.same sb).same sc
      replace F8 := (F8.same sb).same sc
      replace sH7 := (sH7.trans sb).trans sc
      replace eo1 := sc _ _ eo1
      have npo1 : p ≠ o1 := pool11.ne n_o1
      have npoL : p ≠ oL := (pool11.same sb).ne n_oL
      refine draw_R rfl (fun R r => r) pool12 (by decide) (by decide) fun r6 Hd h0 h1 pool13 off13 => ?_
      replace F8 := F8.off off13 pool12.lst
      replace sH7 := Same.off sH7 off13 p0
      replace eo1 := off13 _ _ npo1.symm eo1
      replace eoL := off13 _ _ npoL.symm eoL
      have hx : ∃ x z, atI [V.int 0, .int (-1), .non, .bl true, .str "2", .ref o1] r6 = some x ∧ ((∃ e : Int, x = .int e ∧ e < 1) ∨ (knownV T.C_Map Hd x ∧ isI x = false)) ∧ (∀ H', Same Hd H' → ∃ d, Dp K H' x d ∧ d.showable = true ∧ d.hasDict = false ∧ d.depth ≤ 60 ∧ d.shown.length ≤ sizeLine ∧ z = d.shown) ∧ OkS z := by
        have : r6 = 0 ∨ r6 = 1 ∨ r6 = 2 ∨ r6 = 3 ∨ r6 = 4 ∨ r6 = 5 := by omega
        rcases this with rfl | rfl | rfl | rfl | rfl | rfl
        · exact ⟨_, _, rfl, .inl ⟨_, rfl, by decide⟩, fun H' s' => ⟨.int 0, .int _, by decide +kernel, by decide +kernel, by decide +kernel, by decide +kernel, rfl⟩, by unfold OkS; decide +kernel⟩
        · exact ⟨_, _, rfl, .inl ⟨_, rfl, by decide⟩, fun H' s' => ⟨.int (-1), .int _, by decide +kernel, by decide +kernel, by decide +kernel, by decide +kernel, rfl⟩, by unfold OkS; decide +kernel⟩
        · exact ⟨_, _, rfl, .inr ⟨trivial, rfl⟩, fun H' s' => ⟨.none, .non, by decide +kernel, by decide +kernel, by decide +kernel, by decide +kernel, rfl⟩, by unfold OkS; decide +kernel⟩
        · exact ⟨_, _, rfl, .inr ⟨trivial, rfl⟩, fun H' s' => ⟨.bool true, .bl _, by decide +kernel, by decide +kernel, by decide +kernel, by decide +kernel, rfl⟩, by unfold OkS; decide +kernel⟩
        · exact ⟨_, _, rfl, .inr ⟨trivial, rfl⟩, fun H' s' => ⟨.str "2", .str _, by decide +kernel, by decide +kernel, by decide +kernel, by decide +kernel, rfl⟩, by unfold OkS; decide +kernel⟩
        · exact ⟨_, _, rfl, .inr ⟨.inr (.inl ⟨_, eo1⟩), rfl⟩, fun H' s' => ⟨.tuple [.int 2], .tup (SqT.of (s' _ _ eo1)) (.cons (.int _) .nil), by decide +kernel, by decide +kernel, by decide +kernel, by decide +kernel, rfl⟩, by unfold OkS; decide +kernel⟩
      obtain ⟨x, z, ex, kx, rx, oz⟩ := hx
      refine ⟨oL, _, r6, x, rfl, rfl, SqL.of eoL, ex, ?_⟩
      obtain ⟨cz, hz, gz, _⟩ := F8.sh1 kq.nn kk.nn wq wk (by decide) (by decide)
      refine ⟨_, rfl, _, rfl, fo, cz, hz, x, z, rfl, gz, kx, rx, fun pr Hl sl npr hpr => ?_⟩
      obtain ⟨dd, g1, g2, g3, g4, g5, ez⟩ := rx _ sl
      subst ez
      refine ⟨_, rfl, x, dd, rfl, g1, g2, g3, g4, g5, ?_⟩
      refine ⟨(by show 2 ≤ sizeLine; decide), fun L2 hL2 => ?_⟩
      have sm : Same Hl (upd Hl L2 (.lst [.bl true, .str dd.shown])) := Same.new hL2
      have sh : SeqAt.shaped (.list [.bool true, .str dd.shown]) = true := by
        show (PyData.canLay0 (.list [.bool true, .str dd.shown]) && _) = true
        have : PyData.canLay0 (.list [.bool true, .str dd.shown]) = true := by
          show (true && (PyData.strOk dd.shown && true)) = true
          rw [show PyData.strOk dd.shown = true from oz]
          rfl
        rw [this]
        rfl
      refine ⟨.list [.bool true, .str dd.shown], .list [.bool true, .str dd.shown], .lst (SqL.of (sm _ _ hpr)) (.cons (.bl _) (.cons (.str _) .nil)), .lst (SqL.of upd_same) (.cons (.bl _) (.cons (.str _) .nil)), sh, sh, _, rfl, ?_⟩
      rw [SeqAt.eqv_refl _ (SeqAt.canLay_of_shaped sh)]
      exact iteF ⟨_, _, _, _, _, _, _, _, _, _, rfl, (sH7.trans sl).trans sm⟩
    · rintro σ H' ⟨v1, v2, v3, v4, v5, v6, v7, v8, v9, v10, rfl, p1⟩
      exact q H'
end
end My
namespace My
open PySem L2
theorem walk {l : PySem.W.OpenLaw} {q : Program} {loose : List Str} {XP : (Str → Option Value) → Heap → Prop} {YP : World → Heap → Prop} {d : DefRec} {K : Params → PySem.W.Frag} (hn : l.most = some 63) (hdf : d.params.defaults = []) (hnm : d.name = "law")
    (hY : ∀ (w : World) (h : Heap), YP w h → (K w.params).In h)
    (ok : ∀ (P : Program) (w : World) (K : PySem.W.Frag) (mg : Str → Option Value) (base : Heap) (T : Txt K mg), U.FnG P w K mg base CX0 40 T.f_law (spLaw K))
    (F : ∀ (w : World) (mg : Str → Option Value) (h : Heap), (K w.params).In h → h.Ns mainGlobals mg → Nonempty (Txt (K w.params) mg)) :
    PySem.W.WalkO q loose XP YP l.row.toRowW d [] (fun f vs => PySem.call f vs) := by
  refine U.walkG (n := 63) (k := 40) (sp := spLaw) hn (by decide) hdf ⟨rfl, by decide, by decide⟩ hY ?_ (fun K H a ns hl hS => ⟨a, ns, rfl, hS, hl, fun _ => rfl⟩)
  intro w mg fa h KX G hmg base
  obtain ⟨T⟩ := F w mg h KX G
  rw [hnm, T.g_law] at hmg
  cases hmg
  exact ok _ _ _ _ _ T
end My
open PySem PySem.W PyProof.Rows
set_option maxRecDepth 100000 in
set_option maxHeartbeats 0 in
theorem PySem.Challenge.cw_chainmaps_k12_powers_of_shapes_holds : PySem.Challenge.rw_chainmaps_k12_powers_of_shapes.Holds := by
  w_on; o_law; k_headL; (case hw => w_witness2)
  k_fill
  refine My.walk (l := PySem.Challenge.rw_chainmaps_k12_powers_of_shapes) rfl rfl rfl (fun w h Y => PySem.W.kIn_of Y) (fun _ _ _ _ _ T => My.ok_law T) ?F
  case F =>
    intro w mg h KX G
    refine' My.mk_txt KX G ?a_is_integer ?l_is_integer ?c_is_integer ?k_is_integer ?a_in_range ?l_in_range ?c_in_range ?k_in_range ?a_check_size ?l_check_size ?c_check_size ?k_check_size ?a_are_arrows ?l_are_arrows ?c_are_arrows ?k_are_arrows ?a_row_from ?l_row_from ?c_row_from ?k_row_from ?a_moved ?l_moved ?c_moved ?k_moved ?a_check_map ?l_check_map ?c_check_map ?k_check_map ?a_greatest_divisor ?l_greatest_divisor ?c_greatest_divisor ?k_greatest_divisor ?a_parts_of ?l_parts_of ?c_parts_of ?k_parts_of ?a_are_counts ?l_are_counts ?c_are_counts ?k_are_counts ?a_ordered ?l_ordered ?c_ordered ?k_ordered ?a_merged ?l_merged ?c_merged ?k_merged ?a_cycle_powers ?l_cycle_powers ?c_cycle_powers ?k_cycle_powers ?a_chain_powers ?l_chain_powers ?c_chain_powers ?k_chain_powers ?a_counts_of ?l_counts_of ?c_counts_of ?k_counts_of ?a_shape_of ?l_shape_of ?c_shape_of ?k_shape_of ?a_l_hand ?l_l_hand ?c_l_hand ?k_l_hand ?a_l_draw ?l_l_draw ?c_l_draw ?k_l_draw ?a_l_arrows ?l_l_arrows ?c_l_arrows ?k_l_arrows ?a_l_divisor ?l_l_divisor ?c_l_divisor ?k_l_divisor ?a_l_chain ?l_l_chain ?c_l_chain ?k_l_chain ?a_l_refused ?l_l_refused ?c_l_refused ?k_l_refused ?a_l_great ?l_l_great ?c_l_great ?k_l_great ?a_law ?l_law ?c_law ?k_law ?a_Shape ?pg_Shape ?hd_Shape ?po_Shape ?sa_Shape ?sf_Shape ?ca_Shape ?cn_Shape ?ct_Shape ?cm_Shape ?kc_Shape ?kit_int_Shape ?kit_bool_Shape ?kn_NoneType_Shape ?nf_NoneType_Shape ?kn_int_Shape ?nf_int_Shape ?kn_bool_Shape ?nf_bool_Shape ?kn_str_Shape ?nf_str_Shape ?kn_list_Shape ?nf_list_Shape ?kn_dict_Shape ?nf_dict_Shape ?kn_tuple_Shape ?nf_tuple_Shape ?self_Shape ?na_own_cycles_Shape ?na_own_chains_Shape ?ne_Shape ?m_Shape__init ?i_Shape__init ?l_Shape__init ?c_Shape__init ?k_Shape__init ?mk_Shape ?m_Shape_cycles ?s_get_Shape_cycles ?tk_Shape_cycles ?rc_Shape_cycles ?l_Shape_cycles ?c_Shape_cycles ?k_Shape_cycles ?m_Shape_chains ?s_get_Shape_chains ?tk_Shape_chains ?rc_Shape_chains ?l_Shape_chains ?c_Shape_chains ?k_Shape_chains ?m_Shape_size ?s_get_Shape_size ?tk_Shape_size ?rc_Shape_size ?l_Shape_size ?c_Shape_size ?k_Shape_size ?m_Shape__add ?i_Shape__add ?l_Shape__add ?c_Shape__add ?k_Shape__add ?m_Shape_power ?i_Shape_power ?l_Shape_power ?c_Shape_power ?k_Shape_power ?m_Shape__pow ?i_Shape__pow ?l_Shape__pow ?c_Shape__pow ?k_Shape__pow ?br_Shape ?b1_Shape ?b2_Shape ?b3_Shape ?m_Shape__eq ?i_Shape__eq ?l_Shape__eq ?c_Shape__eq ?k_Shape__eq ?a_Map ?pg_Map ?hd_Map ?po_Map ?sa_Map ?sf_Map ?ca_Map ?cn_Map ?ct_Map ?cm_Map ?kc_Map ?kit_int_Map ?kit_bool_Map ?kn_NoneType_Map ?nf_NoneType_Map ?kn_int_Map ?nf_int_Map ?kn_bool_Map ?nf_bool_Map ?kn_str_Map ?nf_str_Map ?kn_list_Map ?nf_list_Map ?kn_dict_Map ?nf_dict_Map ?kn_tuple_Map ?nf_tuple_Map ?self_Map ?na_own_size_Map ?na_own_arrows_Map ?ne_Map ?m_Map__init ?i_Map__init ?l_Map__init ?c_Map__init ?k_Map__init ?mk_Map ?rd_Map ?ga_Map ?at_Map_identity ?rc_Map_identity ?fi_Map_identity ?l_Map_identity ?c_Map_identity ?k_Map_identity ?m_Map_size ?s_get_Map_size ?tk_Map_size ?rc_Map_size ?l_Map_size ?c_Map_size ?k_Map_size ?m_Map_arrows ?s_get_Map_arrows ?tk_Map_arrows ?rc_Map_arrows ?l_Map_arrows ?c_Map_arrows ?k_Map_arrows ?m_Map_power ?i_Map_power ?l_Map_power ?c_Map_power ?k_Map_power ?a_InvalidMap ?xl_InvalidMap ?sa_InvalidMap ?ex_InvalidMap ?ty_InvalidMap ?kc_InvalidMap ?hd_InvalidMap ?ga_InvalidMap ?gg_InvalidMap ?ss_InvalidMap ?ca_InvalidMap ?cn_InvalidMap ?ct_InvalidMap ?cm_InvalidMap ?kit_ValueError_InvalidMap ?na_part_InvalidMap ?m_InvalidMap__init ?ti_InvalidMap__init ?l_InvalidMap__init ?c_InvalidMap__init ?k_InvalidMap__init ?a_InvalidNumber ?xl_InvalidNumber ?sa_InvalidNumber ?ex_InvalidNumber ?ty_InvalidNumber ?kc_InvalidNumber ?hd_InvalidNumber ?ga_InvalidNumber ?gg_InvalidNumber ?ss_InvalidNumber ?ca_InvalidNumber ?cn_InvalidNumber ?ct_InvalidNumber ?cm_InvalidNumber ?kit_ValueError_InvalidNumber ?na_value_InvalidNumber ?m_InvalidNumber__init ?ti_InvalidNumber__init ?l_InvalidNumber__init ?c_InvalidNumber__init ?k_InvalidNumber__init ?a_InvalidSize ?xl_InvalidSize ?sa_InvalidSize ?ex_InvalidSize ?ty_InvalidSize ?kc_InvalidSize ?hd_InvalidSize ?ga_InvalidSize ?gg_InvalidSize ?ss_InvalidSize ?ca_InvalidSize ?cn_InvalidSize ?ct_InvalidSize ?cm_InvalidSize ?kit_ValueError_InvalidSize ?na_value_InvalidSize ?m_InvalidSize__init ?ti_InvalidSize__init ?l_InvalidSize__init ?c_InvalidSize__init ?k_InvalidSize__init ?z_isinstance ?z_int ?z_bool ?z_dict ?z_len ?z_range ?z_list ?z_max ?z_min ?z_sum ?z_all ?z_sorted ?z_abs ?z_enumerate ?z_divmod ?z_repr ?z_ValueError ?v_MAX_SIZE ?kit_x_Shape_Map ?nf_x_Shape_Map
    (case a_is_integer => as_aux_lemma => k_is)
    (case l_is_integer => as_aux_lemma => k_is)
    (case c_is_integer => as_aux_lemma => k_is)
    (case k_is_integer => as_aux_lemma => k_is)
    (case a_in_range => as_aux_lemma => k_is)
    (case l_in_range => as_aux_lemma => k_is)
    (case c_in_range => as_aux_lemma => k_is)
    (case k_in_range => as_aux_lemma => k_is)
    (case a_check_size => as_aux_lemma => k_is)
    (case l_check_size => as_aux_lemma => k_is)
    (case c_check_size => as_aux_lemma => k_is)
    (case k_check_size => as_aux_lemma => k_is)
    (case a_are_arrows => as_aux_lemma => k_is)
    (case l_are_arrows => as_aux_lemma => k_is)
    (case c_are_arrows => as_aux_lemma => k_is)
    (case k_are_arrows => as_aux_lemma => k_is)
    (case a_row_from => as_aux_lemma => k_is)
    (case l_row_from => as_aux_lemma => k_is)
    (case c_row_from => as_aux_lemma => k_is)
    (case k_row_from => as_aux_lemma => k_is)
    (case a_moved => as_aux_lemma => k_is)
    (case l_moved => as_aux_lemma => k_is)
    (case c_moved => as_aux_lemma => k_is)
    (case k_moved => as_aux_lemma => k_is)
    (case a_check_map => as_aux_lemma => k_is)
    (case l_check_map => as_aux_lemma => k_is)
    (case c_check_map => as_aux_lemma => k_is)
    (case k_check_map => as_aux_lemma => k_is)
    (case a_greatest_divisor => as_aux_lemma => k_is)
    (case l_greatest_divisor => as_aux_lemma => k_is)
    (case c_greatest_divisor => as_aux_lemma => k_is)
    (case k_greatest_divisor => as_aux_lemma => k_is)
    (case a_parts_of => as_aux_lemma => k_is)
    (case l_parts_of => as_aux_lemma => k_is)
    (case c_parts_of => as_aux_lemma => k_is)
    (case k_parts_of => as_aux_lemma => k_is)
    (case a_are_counts => as_aux_lemma => k_is)
    (case l_are_counts => as_aux_lemma => k_is)
    (case c_are_counts => as_aux_lemma => k_is)
    (case k_are_counts => as_aux_lemma => k_is)
    (case a_ordered => as_aux_lemma => k_is)
    (case l_ordered => as_aux_lemma => k_is)
    (case c_ordered => as_aux_lemma => k_is)
    (case k_ordered => as_aux_lemma => k_is)
    (case a_merged => as_aux_lemma => k_is)
    (case l_merged => as_aux_lemma => k_is)
    (case c_merged => as_aux_lemma => k_is)
    (case k_merged => as_aux_lemma => k_is)
    (case a_cycle_powers => as_aux_lemma => k_is)
    (case l_cycle_powers => as_aux_lemma => k_is)
    (case c_cycle_powers => as_aux_lemma => k_is)
    (case k_cycle_powers => as_aux_lemma => k_is)
    (case a_chain_powers => as_aux_lemma => k_is)
    (case l_chain_powers => as_aux_lemma => k_is)
    (case c_chain_powers => as_aux_lemma => k_is)
    (case k_chain_powers => as_aux_lemma => k_is)
    (case a_counts_of => as_aux_lemma => k_is)
    (case l_counts_of => as_aux_lemma => k_is)
    (case c_counts_of => as_aux_lemma => k_is)
    (case k_counts_of => as_aux_lemma => k_is)
    (case a_shape_of => as_aux_lemma => k_is)
    (case l_shape_of => as_aux_lemma => k_is)
    (case c_shape_of => as_aux_lemma => k_is)
    (case k_shape_of => as_aux_lemma => k_is)
    (case a_l_hand => as_aux_lemma => k_is)
    (case l_l_hand => as_aux_lemma => k_is)
    (case c_l_hand => as_aux_lemma => k_is)
    (case k_l_hand => as_aux_lemma => k_is)
    (case a_l_draw => as_aux_lemma => k_is)
    (case l_l_draw => as_aux_lemma => k_is)
    (case c_l_draw => as_aux_lemma => k_is)
    (case k_l_draw => as_aux_lemma => k_is)
    (case a_l_arrows => as_aux_lemma => k_is)
    (case l_l_arrows => as_aux_lemma => k_is)
    (case c_l_arrows => as_aux_lemma => k_is)
    (case k_l_arrows => as_aux_lemma => k_is)
    (case a_l_divisor => as_aux_lemma => k_is)
    (case l_l_divisor => as_aux_lemma => k_is)
    (case c_l_divisor => as_aux_lemma => k_is)
    (case k_l_divisor => as_aux_lemma => k_is)
    (case a_l_chain => as_aux_lemma => k_is)
    (case l_l_chain => as_aux_lemma => k_is)
    (case c_l_chain => as_aux_lemma => k_is)
    (case k_l_chain => as_aux_lemma => k_is)
    (case a_l_refused => as_aux_lemma => k_is)
    (case l_l_refused => as_aux_lemma => k_is)
    (case c_l_refused => as_aux_lemma => k_is)
    (case k_l_refused => as_aux_lemma => k_is)
    (case a_l_great => as_aux_lemma => k_is)
    (case l_l_great => as_aux_lemma => k_is)
    (case c_l_great => as_aux_lemma => k_is)
    (case k_l_great => as_aux_lemma => k_is)
    (case a_law => as_aux_lemma => k_is)
    (case l_law => as_aux_lemma => k_is)
    (case c_law => as_aux_lemma => k_is)
    (case k_law => as_aux_lemma => k_is)
    (case a_Shape => as_aux_lemma => k_is)
    (case pg_Shape => as_aux_lemma => k_is)
    (case hd_Shape => as_aux_lemma => k_is)
    (case po_Shape => as_aux_lemma => k_is)
    (case sa_Shape => as_aux_lemma => k_is)
    (case sf_Shape => as_aux_lemma => k_is)
    (case ca_Shape => as_aux_lemma => k_is)
    (case cn_Shape => as_aux_lemma => k_is)
    (case ct_Shape => as_aux_lemma => k_is)
    (case cm_Shape => as_aux_lemma => k_is)
    (case kc_Shape => as_aux_lemma => k_is)
    (case kit_int_Shape => as_aux_lemma => kernel_rfl)
    (case kit_bool_Shape => as_aux_lemma => kernel_rfl)
    (case kn_NoneType_Shape => as_aux_lemma => kernel_rfl)
    (case nf_NoneType_Shape => as_aux_lemma => kernel_rfl)
    (case kn_int_Shape => as_aux_lemma => kernel_rfl)
    (case nf_int_Shape => as_aux_lemma => kernel_rfl)
    (case kn_bool_Shape => as_aux_lemma => kernel_rfl)
    (case nf_bool_Shape => as_aux_lemma => kernel_rfl)
    (case kn_str_Shape => as_aux_lemma => kernel_rfl)
    (case nf_str_Shape => as_aux_lemma => kernel_rfl)
    (case kn_list_Shape => as_aux_lemma => kernel_rfl)
    (case nf_list_Shape => as_aux_lemma => kernel_rfl)
    (case kn_dict_Shape => as_aux_lemma => kernel_rfl)
    (case nf_dict_Shape => as_aux_lemma => kernel_rfl)
    (case kn_tuple_Shape => as_aux_lemma => kernel_rfl)
    (case nf_tuple_Shape => as_aux_lemma => kernel_rfl)
    (case self_Shape => as_aux_lemma => kernel_rfl)
    (case na_own_cycles_Shape => as_aux_lemma => k_is)
    (case na_own_chains_Shape => as_aux_lemma => k_is)
    (case ne_Shape => as_aux_lemma => k_is)
    (case m_Shape__init => as_aux_lemma => k_is)
    (case i_Shape__init => as_aux_lemma => k_is)
    (case l_Shape__init => as_aux_lemma => k_is)
    (case c_Shape__init => as_aux_lemma => k_is)
    (case k_Shape__init => as_aux_lemma => k_is)
    (case mk_Shape => as_aux_lemma => k_is)
    (case m_Shape_cycles => as_aux_lemma => k_is)
    (case s_get_Shape_cycles => as_aux_lemma => k_is)
    (case tk_Shape_cycles => as_aux_lemma => k_is)
    (case rc_Shape_cycles => as_aux_lemma => k_is)
    (case l_Shape_cycles => as_aux_lemma => k_is)
    (case c_Shape_cycles => as_aux_lemma => k_is)
    (case k_Shape_cycles => as_aux_lemma => k_is)
    (case m_Shape_chains => as_aux_lemma => k_is)
    (case s_get_Shape_chains => as_aux_lemma => k_is)
    (case tk_Shape_chains => as_aux_lemma => k_is)
    (case rc_Shape_chains => as_aux_lemma => k_is)
    (case l_Shape_chains => as_aux_lemma => k_is)
    (case c_Shape_chains => as_aux_lemma => k_is)
    (case k_Shape_chains => as_aux_lemma => k_is)
    (case m_Shape_size => as_aux_lemma => k_is)
    (case s_get_Shape_size => as_aux_lemma => k_is)
    (case tk_Shape_size => as_aux_lemma => k_is)
    (case rc_Shape_size => as_aux_lemma => k_is)
    (case l_Shape_size => as_aux_lemma => k_is)
    (case c_Shape_size => as_aux_lemma => k_is)
    (case k_Shape_size => as_aux_lemma => k_is)
    (case m_Shape__add => as_aux_lemma => k_is)
    (case i_Shape__add => as_aux_lemma => k_is)
    (case l_Shape__add => as_aux_lemma => k_is)
    (case c_Shape__add => as_aux_lemma => k_is)
    (case k_Shape__add => as_aux_lemma => k_is)
    (case m_Shape_power => as_aux_lemma => k_is)
    (case i_Shape_power => as_aux_lemma => k_is)
    (case l_Shape_power => as_aux_lemma => k_is)
    (case c_Shape_power => as_aux_lemma => k_is)
    (case k_Shape_power => as_aux_lemma => k_is)
    (case m_Shape__pow => as_aux_lemma => k_is)
    (case i_Shape__pow => as_aux_lemma => k_is)
    (case l_Shape__pow => as_aux_lemma => k_is)
    (case c_Shape__pow => as_aux_lemma => k_is)
    (case k_Shape__pow => as_aux_lemma => k_is)
    (case br_Shape => as_aux_lemma => k_is)
    (case b1_Shape => as_aux_lemma => k_is)
    (case b2_Shape => as_aux_lemma => k_is)
    (case b3_Shape => as_aux_lemma => k_is)
    (case m_Shape__eq => as_aux_lemma => k_is)
    (case i_Shape__eq => as_aux_lemma => k_is)
    (case l_Shape__eq => as_aux_lemma => k_is)
    (case c_Shape__eq => as_aux_lemma => k_is)
    (case k_Shape__eq => as_aux_lemma => k_is)
    (case a_Map => as_aux_lemma => k_is)
    (case pg_Map => as_aux_lemma => k_is)
    (case hd_Map => as_aux_lemma => k_is)
    (case po_Map => as_aux_lemma => k_is)
    (case sa_Map => as_aux_lemma => k_is)
    (case sf_Map => as_aux_lemma => k_is)
    (case ca_Map => as_aux_lemma => k_is)
    (case cn_Map => as_aux_lemma => k_is)
    (case ct_Map => as_aux_lemma => k_is)
    (case cm_Map => as_aux_lemma => k_is)
    (case kc_Map => as_aux_lemma => k_is)
    (case kit_int_Map => as_aux_lemma => kernel_rfl)
    (case kit_bool_Map => as_aux_lemma => kernel_rfl)
    (case kn_NoneType_Map => as_aux_lemma => kernel_rfl)
    (case nf_NoneType_Map => as_aux_lemma => kernel_rfl)
    (case kn_int_Map => as_aux_lemma => kernel_rfl)
    (case nf_int_Map => as_aux_lemma => kernel_rfl)
    (case kn_bool_Map => as_aux_lemma => kernel_rfl)
    (case nf_bool_Map => as_aux_lemma => kernel_rfl)
    (case kn_str_Map => as_aux_lemma => kernel_rfl)
    (case nf_str_Map => as_aux_lemma => kernel_rfl)
    (case kn_list_Map => as_aux_lemma => kernel_rfl)
    (case nf_list_Map => as_aux_lemma => kernel_rfl)
    (case kn_dict_Map => as_aux_lemma => kernel_rfl)
    (case nf_dict_Map => as_aux_lemma => kernel_rfl)
    (case kn_tuple_Map => as_aux_lemma => kernel_rfl)
    (case nf_tuple_Map => as_aux_lemma => kernel_rfl)
    (case self_Map => as_aux_lemma => kernel_rfl)
    (case na_own_size_Map => as_aux_lemma => k_is)
    (case na_own_arrows_Map => as_aux_lemma => k_is)
    (case ne_Map => as_aux_lemma => k_is)
    (case m_Map__init => as_aux_lemma => k_is)
    (case i_Map__init => as_aux_lemma => k_is)
    (case l_Map__init => as_aux_lemma => k_is)
    (case c_Map__init => as_aux_lemma => k_is)
    (case k_Map__init => as_aux_lemma => k_is)
    (case mk_Map => as_aux_lemma => k_is)
    (case rd_Map => as_aux_lemma => k_is)
    (case ga_Map => as_aux_lemma => k_is)
    (case at_Map_identity => as_aux_lemma => k_is)
    (case rc_Map_identity => as_aux_lemma => k_is)
    (case fi_Map_identity => as_aux_lemma => k_is)
    (case l_Map_identity => as_aux_lemma => k_is)
    (case c_Map_identity => as_aux_lemma => k_is)
    (case k_Map_identity => as_aux_lemma => k_is)
    (case m_Map_size => as_aux_lemma => k_is)
    (case s_get_Map_size => as_aux_lemma => k_is)
    (case tk_Map_size => as_aux_lemma => k_is)
    (case rc_Map_size => as_aux_lemma => k_is)
    (case l_Map_size => as_aux_lemma => k_is)
    (case c_Map_size => as_aux_lemma => k_is)
    (case k_Map_size => as_aux_lemma => k_is)
    (case m_Map_arrows => as_aux_lemma => k_is)
    (case s_get_Map_arrows => as_aux_lemma => k_is)
    (case tk_Map_arrows => as_aux_lemma => k_is)
    (case rc_Map_arrows => as_aux_lemma => k_is)
    (case l_Map_arrows => as_aux_lemma => k_is)
    (case c_Map_arrows => as_aux_lemma => k_is)
    (case k_Map_arrows => as_aux_lemma => k_is)
    (case m_Map_power => as_aux_lemma => k_is)
    (case i_Map_power => as_aux_lemma => k_is)
    (case l_Map_power => as_aux_lemma => k_is)
    (case c_Map_power => as_aux_lemma => k_is)
    (case k_Map_power => as_aux_lemma => k_is)
    (case a_InvalidMap => as_aux_lemma => k_is)
    (case xl_InvalidMap => as_aux_lemma => k_is)
    (case sa_InvalidMap => as_aux_lemma => k_is)
    (case ex_InvalidMap => as_aux_lemma => k_is)
    (case ty_InvalidMap => as_aux_lemma => k_is)
    (case kc_InvalidMap => as_aux_lemma => k_is)
    (case hd_InvalidMap => as_aux_lemma => k_is)
    (case ga_InvalidMap => as_aux_lemma => k_is)
    (case gg_InvalidMap => as_aux_lemma => k_is)
    (case ss_InvalidMap => as_aux_lemma => k_is)
    (case ca_InvalidMap => as_aux_lemma => k_is)
    (case cn_InvalidMap => as_aux_lemma => k_is)
    (case ct_InvalidMap => as_aux_lemma => k_is)
    (case cm_InvalidMap => as_aux_lemma => k_is)
    (case kit_ValueError_InvalidMap => as_aux_lemma => kernel_rfl)
    (case na_part_InvalidMap => as_aux_lemma => k_is)
    (case m_InvalidMap__init => as_aux_lemma => k_is)
    (case ti_InvalidMap__init => as_aux_lemma => k_is)
    (case l_InvalidMap__init => as_aux_lemma => k_is)
    (case c_InvalidMap__init => as_aux_lemma => k_is)
    (case k_InvalidMap__init => as_aux_lemma => k_is)
    (case a_InvalidNumber => as_aux_lemma => k_is)
    (case xl_InvalidNumber => as_aux_lemma => k_is)
    (case sa_InvalidNumber => as_aux_lemma => k_is)
    (case ex_InvalidNumber => as_aux_lemma => k_is)
    (case ty_InvalidNumber => as_aux_lemma => k_is)
    (case kc_InvalidNumber => as_aux_lemma => k_is)
    (case hd_InvalidNumber => as_aux_lemma => k_is)
    (case ga_InvalidNumber => as_aux_lemma => k_is)
    (case gg_InvalidNumber => as_aux_lemma => k_is)
    (case ss_InvalidNumber => as_aux_lemma => k_is)
    (case ca_InvalidNumber => as_aux_lemma => k_is)
    (case cn_InvalidNumber => as_aux_lemma => k_is)
    (case ct_InvalidNumber => as_aux_lemma => k_is)
    (case cm_InvalidNumber => as_aux_lemma => k_is)
    (case kit_ValueError_InvalidNumber => as_aux_lemma => kernel_rfl)
    (case na_value_InvalidNumber => as_aux_lemma => k_is)
    (case m_InvalidNumber__init => as_aux_lemma => k_is)
    (case ti_InvalidNumber__init => as_aux_lemma => k_is)
    (case l_InvalidNumber__init => as_aux_lemma => k_is)
    (case c_InvalidNumber__init => as_aux_lemma => k_is)
    (case k_InvalidNumber__init => as_aux_lemma => k_is)
    (case a_InvalidSize => as_aux_lemma => k_is)
    (case xl_InvalidSize => as_aux_lemma => k_is)
    (case sa_InvalidSize => as_aux_lemma => k_is)
    (case ex_InvalidSize => as_aux_lemma => k_is)
    (case ty_InvalidSize => as_aux_lemma => k_is)
    (case kc_InvalidSize => as_aux_lemma => k_is)
    (case hd_InvalidSize => as_aux_lemma => k_is)
    (case ga_InvalidSize => as_aux_lemma => k_is)
    (case gg_InvalidSize => as_aux_lemma => k_is)
    (case ss_InvalidSize => as_aux_lemma => k_is)
    (case ca_InvalidSize => as_aux_lemma => k_is)
    (case cn_InvalidSize => as_aux_lemma => k_is)
    (case ct_InvalidSize => as_aux_lemma => k_is)
    (case cm_InvalidSize => as_aux_lemma => k_is)
    (case kit_ValueError_InvalidSize => as_aux_lemma => kernel_rfl)
    (case na_value_InvalidSize => as_aux_lemma => k_is)
    (case m_InvalidSize__init => as_aux_lemma => k_is)
    (case ti_InvalidSize__init => as_aux_lemma => k_is)
    (case l_InvalidSize__init => as_aux_lemma => k_is)
    (case c_InvalidSize__init => as_aux_lemma => k_is)
    (case k_InvalidSize__init => as_aux_lemma => k_is)
    (case z_isinstance => as_aux_lemma => k_is)
    (case z_int => as_aux_lemma => k_is)
    (case z_bool => as_aux_lemma => k_is)
    (case z_dict => as_aux_lemma => k_is)
    (case z_len => as_aux_lemma => k_is)
    (case z_range => as_aux_lemma => k_is)
    (case z_list => as_aux_lemma => k_is)
    (case z_max => as_aux_lemma => k_is)
    (case z_min => as_aux_lemma => k_is)
    (case z_sum => as_aux_lemma => k_is)
    (case z_all => as_aux_lemma => k_is)
    (case z_sorted => as_aux_lemma => k_is)
    (case z_abs => as_aux_lemma => k_is)
    (case z_enumerate => as_aux_lemma => k_is)
    (case z_divmod => as_aux_lemma => k_is)
    (case z_repr => as_aux_lemma => k_is)
    (case z_ValueError => as_aux_lemma => k_is)
    (case v_MAX_SIZE => as_aux_lemma => k_is)
    (case kit_x_Shape_Map => as_aux_lemma => kernel_rfl)
    (case nf_x_Shape_Map => as_aux_lemma => kernel_rfl)
