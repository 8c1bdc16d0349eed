import PyProof.Rows.All
import Wide.All
import OpenK.AllK
import Wide.FinOn
import HandS.ForMost
import HandS.ForExc
import HandS.IsInst
import HandS.More
import HandS.SlotsOwn
import HandS.Property
import HandS.ClsMeth
import HandS.DictComp
import HandS.Conv
import HandS.Walk
import HandS.NoneIn
import HandS.CallLocal
import HandS.Star
import HandS.ExcInit
import HandS.ExcField
import HandS.ExcIs
import KE.KExcInit
import KE.KExcIs
import HandS.WordsExc
import HandS.ListItems
import HandS.Style
import HandS.TryMany
import HandS.RaiseMore
import HandS.FStr
import HandS.HotCalls
import KE.KItemsList
import KE.KOpsOwn
import HandS.OwnEq
import HandS.Lambda
import HandS.EndTab
import KE.KNestM
import HandS.Deep
import HandS.Nested
import KE.KSuper
import PySem.Challenge.RW_chainmaps_k73_keeping_sessions
import HandS.Small
import HandS.Text
import KE.OsRunLaw
set_option Elab.async false
set_option linter.all false
set_option maxRecDepth 100000
set_option maxHeartbeats 4000000
namespace PySem.W
open PySem PySem.Calls PyProof.Rows
section
variable {prog : Program} {w : World} {A : Around} {E : Value → Shared → Prop} {s : Shared} {K : Frag} {x C L f : Addr} {h₀ : Heap} {m : Str → Option Value} {ox : Obj} {od : Option Obj} {b tb : Value}
theorem my_ne_K {Q : Value → Shared → Prop} (hu : A.units + 1 < cLine) (F : Fr h₀ L s.heap m) (X₀ : K.In h₀) (I : InstAt s.heap x ox C od) (hb : Looks (model prog w) s.heap (typeOf b) tb) (hn : notFirst K C tb = true)
    (hne : findIn K (.ref C) "__ne__" = some (some (.builtin "object.__ne__"))) (hob : mroIn K C (.type "object") = some true)
    (hs : findIn K (.ref C) "__eq__" = some (some (.ref f))) (hf : isFn K (.ref f) = true)
    (h : wpAny (model prog w) A.in1 (call (.ref f) [.ref x, b]) (fun v s' => ∃ c, v = .bool c ∧ Q (.bool (!c)) s') E s) : wpAny (model prog w) A (richCompare .NotEq (.ref x) b) Q E s := by
  have X := X₀.keeps F.keep
  have one : wpAny (model prog w) A (tryCompare (.ref x) "__ne__" b) (fun r s' => ∃ v, r = some v ∧ Q v s') E s := by
    unfold tryCompare
    simp only [callSpecialIfBound?, bindSpecialIfBound?]
    have sub : Looks (model prog w) s.heap (isInstance (.ref x) (.type "object")) true := I.type.andThen (looks_mroIn X hob)
    have fin : wpAny (model prog w) A (call (.builtin "object.__ne__") ([.ref x] ++ [b]) >>= fun v => pure (some v)) (fun r s' => ∃ c, r = some (.bool c) ∧ Q (.bool c) s') E s := by
      refine wpAny_bind (wpAny_call (codeAny_call_builtin PySem.F.slot_tuple_iterator_ne.plain PySem.F.cmpEntry_ne ?_))
      refine @check_slot (model prog w) _ _ s "object.__ne__" "object" "__ne__" (.ref x) [b] [] _ PySem.F.cmpKind_ne PySem.F.cmpSplit_ne sub (PySem.F.cmpArgs_ne _ _) ?_
      unfold Builtin.«object.__ne__»
      refine wpAny_bind (wpAny_of_eq (a := ((Value.ref x : Value), [b])) (by first | rfl | (simp only [Builtin.slotArgs]; rfl)) ?_)
      refine wpAny_bind (wpAny_cRoomFor hu ?_)
      refine wpAny_bind (ifBound_K X I hs hf (wpAny_mono h (fun v s' hv => ?_) fun _ _ e => e))
      obtain ⟨c, rfl, q⟩ := hv
      refine wpAny_bind (wpAny_truthy_bool ?_)
      exact wpAny_pure (wpAny_pure ⟨_, rfl, q⟩)
    refine wpAny_bind (wpAny_holding (wpAny_bind (wpAny_bind (wpAny_bind (I.type.here ((looks_findIn X hne).here ?_))))))
    refine wpAny_bind (wpAny_askSetting (wpAny_ite ?_))
    split
    · rw [PySem.F.slot_tuple_iterator_ne.bind (.ref x)]
      exact wpAny_bind (wpAny_pure (wpAny_pure (wpAny_mono fin (fun r s' z => by obtain ⟨c, rfl, q⟩ := z; exact wpAny_pure ⟨_, rfl, q⟩) fun _ _ e => e)))
    · rw [PySem.F.slot_tuple_iterator_ne.bind (.ref x)]
      exact wpAny_tryCatch (wpAny_bind (wpAny_pure (wpAny_pure (wpAny_mono fin (fun r s' z => by obtain ⟨c, rfl, q⟩ := z; exact wpAny_pure ⟨_, rfl, q⟩) fun _ _ e => e))))
  unfold richCompare
  simp only [oneThing_ref]
  refine wpAny_holding (wpAny_bind (wpAny_cRoomFor (Nat.lt_of_succ_lt hu) ?_))
  refine wpAny_bind (I.type.here (wpAny_bind (hb.here ?_)))
  split
  · rename_i q
    have e : subIn K tb (.ref C) = some false := by
      rcases Bool.or_eq_true_iff.mp hn with e | e
      · rw [beq_iff_eq.mp e] at q; simp at q
      · exact beq_iff_eq.mp e
    refine wpAny_bind ((looks_subIn X e).here ?_)
    simp only [Bool.false_eq_true, if_false]
    refine wpAny_bind (wpAny_mono one (fun r s' z => ?_) fun _ _ e => e)
    obtain ⟨v, rfl, hq⟩ := z
    exact wpAny_pure hq
  · refine wpAny_bind (wpAny_pure ?_)
    simp only [Bool.false_eq_true, if_false]
    refine wpAny_bind (wpAny_mono one (fun r s' z => ?_) fun _ _ e => e)
    obtain ⟨v, rfl, hq⟩ := z
    exact wpAny_pure hq
end
end PySem.W
namespace U
open PySem PySem.Spec PyProof.Rows L2
/-- what is asked of a plain own class -/
structure OwnC (K : PySem.W.Frag) (C : Addr) : Prop where
  cl : Cls K C
  sf : PySem.W.selfFirst K C = true
  ca : PySem.W.findIn K (.ref C) "__class__" = some (some (.builtin "object.__class__"))
  cn : PySem.W.specialIn K (.builtin "object.__class__") "__get__" = some (some (.builtin "getset_descriptor.__get__"))
  ct : PySem.W.takesIn K (.builtin "object.__class__") = some true
  cm : PySem.W.mroIn K C (.type "object") = some true
section
variable {X : Cx} {CX : CXT} {pins : List (Addr × Obj)} {σ : L2.St} {H : Hp} {s : Shared} {a C dx p g : Addr} {f : Str} {n : Nat} {sp : Sp} {E : XK} {v : V} {u : Value}
theorem ins_inst (I : Inv X pins σ H s) {fs : List (Str × V)} (ea : H a = some (.ins C dx fs)) : ∃ ox od, PySem.W.InstAt s.heap a ox C (some od) := by
  obtain ⟨mA, O, _⟩ := ins_get I.hok ea
  obtain ⟨od, J, _⟩ := O.look
  exact ⟨_, od, J⟩
/-- x op y, both instances of C -/
def rBin (C : Addr) (sp : Sp) (E : XK) : R2 := fun x y H Q => ∃ a dx fs b dy gs, x = .ref a ∧ y = .ref b ∧ H a = some (.ins C dx fs) ∧ H b = some (.ins C dy gs) ∧ sp [x, y] H Q E
theorem op_bin {op : Operator} (hc : PySem.W.selfFirst X.K C = true) (hs : PySem.W.findIn X.K (.ref C) (PySem.dunder op.info.2) = some (some (.ref g))) (hf : PySem.W.isFn X.K (.ref g) = true) (F : FnR X.prog X.w X.K X.mg X.base CX n g sp)
    (hr : Room n X.A) (hx : Passes CX X E) : OpR X (binaryOp op) (rBin C sp E) := by
  intro pins s σ H x y v u Q I rx ry h
  obtain ⟨a, dx, vs, b, dy, ws, rfl, rfl, ha, hb, q⟩ := h
  cases (show v = Value.ref a from rx)
  cases (show u = Value.ref b from ry)
  obtain ⟨ox, od, J⟩ := ins_inst I ha
  obtain ⟨oy, od', J'⟩ := ins_inst I hb
  obtain ⟨m, hF⟩ := I.fr
  refine PySem.W.binop_K (op := op) hF I.ok.mod.kin J J'.type hc hs hf ?_
  refine wpAny_mono (wpAny_call (run_fnR (us := [.ref a, .ref b]) (vs := [.ref a, .ref b]) F hr hx I (.cons rfl (.cons rfl .nil)) q)) (fun w s' z => ?_) fun _ _ x => x
  obtain ⟨z', H', I', rz, qz⟩ := z
  exact SlX.cmpback rz ⟨z', H', I', rz, qz⟩
theorem notFirst_self (K : PySem.W.Frag) (C : Addr) : PySem.W.notFirst K C (.ref C) = true := by
  unfold PySem.W.notFirst; simp
/-- x != y by the own __eq__ -/
def rNeO (C : Addr) (sp : Sp) (E : XK) : R2 := fun x y H Q => ∃ a dx fs b dy gs, x = .ref a ∧ y = .ref b ∧ H a = some (.ins C dx fs) ∧ H b = some (.ins C dy gs) ∧ sp [x, y] H (fun z H' => ∃ c, z = .bl c ∧ Q (.bl (!c)) H') E
theorem op_neO (oc : OwnC X.K C) (hne : PySem.W.findIn X.K (.ref C) "__ne__" = some (some (.builtin "object.__ne__"))) (hs : PySem.W.findIn X.K (.ref C) "__eq__" = some (some (.ref g))) (hf : PySem.W.isFn X.K (.ref g) = true) (F : FnR X.prog X.w X.K X.mg X.base CX n g sp)
    (hr : Room (n + 1) X.A) (hx : Passes CX X E) : OpR X (compareOp .NotEq) (rNeO C sp E) := by
  intro pins s σ H x y v u Q I rx ry h
  obtain ⟨a, dx, vs, b, dy, ws, rfl, rfl, ha, hb, q⟩ := h
  cases (show v = Value.ref a from rx)
  cases (show u = Value.ref b from ry)
  obtain ⟨ox, od, J⟩ := ins_inst I ha
  obtain ⟨oy, od', J'⟩ := ins_inst I hb
  obtain ⟨m, hF⟩ := I.fr
  have hr1 : Room n X.A.in1 := Room.in1 hr
  refine PySem.W.my_ne_K (tb := .ref C) (hu_of hr) hF I.ok.mod.kin J J'.type (notFirst_self _ _) hne oc.cm hs hf ?_
  refine wpAny_mono (wpAny_call (SlX.run_at (us := [.ref a, .ref b]) (ws := [.ref a, .ref b]) F hr1 I.env0.in1 hx I (.cons rfl (.cons rfl .nil)) q)) (fun w s' z => ?_) fun _ _ x => x
  obtain ⟨z', H', I', rz, c, ez, qz⟩ := z
  subst ez
  cases (show w = Value.bool c from rz)
  exact ⟨c, rfl, .bl (!c), H', I', rfl, qz⟩
end
end U
namespace U
open PySem PySem.Spec PyProof.Rows L2 StX
/-! ### a def of the text, with how its arguments bind -/
structure FnAt (K : PySem.W.Frag) (x qual : Str) (st : Stmt) (f : Addr) (ps : List Str) : Prop where
  ex : ∃ fd, Fun K x qual st f fd ∧ Binds K fd ps []
theorem FnAt.kp {K : PySem.W.Frag} {x qual : Str} {st : Stmt} {f : Addr} {ps : List Str} (A : FnAt K x qual st f ps) : PySem.W.keepIn K (.ref f) = true := by
  obtain ⟨fd, F, _⟩ := A.ex
  exact F.kp
section
variable {P : Program} {w : World} {K : PySem.W.Frag} {mg : Str → Option Value} {base : Heap}
theorem FnAt.ok {x qual : Str} {st : Stmt} {f : Addr} {N ps : List Str} {k : Nat} {sp : Sp} (A : FnAt K x qual st f ps) (S : FnScope N ps (defScope st)) (len : ∀ vs H Q E, sp vs H Q E → vs.length = ps.length)
    (hbody : ∀ (cdv : Value) (A : Around) (outer : List Env) (s : Shared) (H : Hp) (vs : List V) (Q : VK) (E : XK), Room k (A.deeper (envOfC qual (defScope st) s.heap.objs.size f cdv)) → sp vs H Q E →
      ∃ t, PSs (cxOf CX0 P w K mg base N qual (defScope st) f cdv A outer s H E).nox (defBody st) t ∧ t { nx := fun _ H' => Q .non H', rt := Q } (start N vs) H) : FnR P w K mg base CX0 (k + 1) f sp := by
  obtain ⟨fd, F, B⟩ := A.ex
  have R := (F.ok (P := P) (w := w) (mg := mg) (base := base) S len hbody).raw B .nil
  exact R.imp fun vs H Q E h => by rw [List.append_nil]; exact h
/-- a def that raises nothing, where exceptions are told -/
theorem fnR_any {CX : CXT} {k : Nat} {f : Addr} {sp : Sp} (F : FnR P w K mg base CX0 k f sp) : FnR P w K mg base CX k f sp := by
  intro A outer s H us vs Q E hr e0 r h
  refine codeAny_mono (F A outer s H us vs Q E hr e0 r h) fun r s' hq => ?_
  cases r with
  | error e => exact False.elim hq
  | ok fl => cases fl <;> exact hq
end
section
variable {X : Cx} {CX : CXT} {k i : Nat} {f C p g a dx : Addr} {sp : Sp} {E : XK} {x fl : Str} {e o : Expr} {es : List Expr} {ta te tf : TE} {t : TA} {pp pos : Pos} {fs : List (Str × V)}
/-- x(e, ..), x a def of the module -/
def tCallR (sp : Sp) (E : XK) (t : TA) : TE := fun σ H Q => t σ H fun vs H1 => sp vs H1 Q E
theorem pe_callR (F : FnR X.prog X.w X.K X.mg X.base CX k f sp) (hr : Room k X.A) (hk : PySem.W.keepIn X.K (.ref f) = true) (hg : Gl X x) (hm : X.mg x = some (.ref f)) (hx : Passes CX X E) (ha : PA X (e :: es) t) (hdb : (x == ("__debug__" : Str)) = false := by decide)
    (he : starEach (e :: es) X.env = (false, eval e X.env) :: starEach es X.env := by rfl) (hpl : (backTo pos (starEach es X.env)).any (·.1) = false := by rfl) : PE X (.Call (.Name x pp) (e :: es) [] pos) (tCallR sp E t) := by
  refine ⟨fun pins s σ H Q I h => ?_⟩
  refine wpAny_Call_Name_kw (ld_glob I hg hm ?_ hdb)
  refine PySem.W.callWith_K (h₀ := X.base) I.ok.mod.kin hk (thn (ha.run pos pins s σ H _ I h) fun us s1 ⟨vs, H1, I1, r, q⟩ => ⟨I1.kIn, ?_⟩) he hpl
  exact wpAny_call (run_fnR F hr hx I1 r q)
/-- e.f, a property -/
def tPropR (C : Addr) (sp : Sp) (ta : TE) : TE := fun σ H Q => ta σ H fun x H1 => ∃ a dx fs, x = .ref a ∧ H1 a = some (.ins C dx fs) ∧ sp [.ref a] H1 Q E0
theorem pe_propR (he : PE X e ta) (c : Cls X.K C) (hp : PropOf X.K C fl p g) (F : FnR X.prog X.w X.K X.mg X.base CX0 k g sp) (hr : Room (k + 1) X.A)
    (hab : attributeBase e fl X.env (eval e X.env) = eval e X.env := by rfl) : PE X (.Attribute e fl pos) (tPropR C sp ta) := by
  refine ⟨fun pins s σ H Q I h => ?_⟩
  refine attr_of hab (thn (he.run pins s σ H _ I h) fun u s1 ⟨x, H1, I1, rx, a, dx, fs, ex, ea, q⟩ => ?_)
  subst ex
  obtain rfl : u = Value.ref a := rx
  obtain ⟨mA, O, _, _, _, _⟩ := ins_get I1.hok ea
  obtain ⟨od, J, _⟩ := O.look
  obtain ⟨rest, hrec⟩ := hp.rec_
  have I2 := I1.tok (s1.toks + 1)
  have hc : (PySem.W.clsIn X.K C).isSome = true := by
    obtain ⟨cd, hc, _⟩ := PySem.W.any_some c.hd
    rw [hc]
    rfl
  refine PySem.W.get_bind I1.kIn J (PySem.W.plainGet_of (c.get fl)).1 (PySem.W.findObj_data hc hp.at_ hp.get hp.tak) (PySem.W.plainGet_of (c.get fl)).2 (wpAny_call (PySem.W.prop_get (s := { s1 with toks := s1.toks + 1 }) I1.kIn hrec ?_))
  refine codeAny_mono (F X.A.in1 X.stack { s1 with toks := s1.toks + 1 } H1 [.ref a] [.ref a] Q E0 hr.in1 I2.env0.in1 (.cons rfl .nil) q) fun r s' hq => ?_
  cases r with
  | error er => exact False.elim hq
  | ok fl =>
    cases fl with
    | ret u =>
      obtain ⟨v, H', I3, rv, q3⟩ := I2.after hq
      show wpAny _ _ (handedOut u) _ _ _
      rw [PySem.W.handedOut_of (handed_of rv)]
      exact wpAny_pure ⟨v, H', I3, rv, q3⟩
    | next => exact False.elim hq
    | brk => exact False.elim hq
    | cont => exact False.elim hq
/-- x(..), x a local that holds the class at C -/
def tMakeL (i : Nat) (C : Addr) (sp : Sp) (E : XK) (t : TA) : TE := fun σ H Q => σ[i]? = some (some (.ref C)) ∧ tMakeR C sp E t σ H Q
theorem pe_makeL (M : Mk X.K C f) (F : FnR X.prog X.w X.K X.mg X.base CX k f sp) (hr : Room (k + 1) X.A) (hN : X.N[i]? = some x) (hv : Vis X.env.scope x) (hx : Passes CX X E) (ha : PA X (e :: es) t) (hdb : (x == ("__debug__" : Str)) = false := by decide)
    (hcd : (x == ("__classdict__" : Str)) = false := by decide)
    (he : starEach (e :: es) X.env = (false, eval e X.env) :: starEach es X.env := by rfl) (hpl : (backTo pos (starEach es X.env)).any (·.1) = false := by rfl) : PE X (.Call (.Name x pp) (e :: es) [] pos) (tMakeL i C sp E t) := by
  refine ⟨fun pins s σ H Q I h => ?_⟩
  obtain ⟨hs, ht⟩ := h
  refine wpAny_Call_Name_kw (thn ((pe_var (pos := pp) hN hv hdb hcd).run pins s σ H (fun v H1 => v = .ref C ∧ H1 = H) I ⟨.ref C, hs, rfl, rfl⟩) fun u s1 ⟨v, H1, I1, r1, q1⟩ => ?_)
  obtain ⟨rfl, rfl⟩ := q1
  cases r1
  refine PySem.W.callWith_K (h₀ := X.base) I.ok.mod.kin M.kp (thn (ha.run pos pins s1 σ _ _ I1 ht) fun us s2 ⟨vs, H2, I2, r, q⟩ => ⟨I2.kIn, ?_⟩) he hpl
  exact run_makeR M F hr hx I2 r q
end
theorem ifD {c : Prop} [Decidable c] {A B : Prop} (h1 : c → A) (h2 : ¬ c → B) : if decide c = true then A else B := by
  by_cases h : c
  · rw [if_pos (decide_eq_true h)]; exact h1 h
  · rw [if_neg (by simp [h])]; exact h2 h
theorem ifN {c : Prop} [Decidable c] {A B : Prop} (h1 : ¬ c → A) (h2 : c → B) : if (!decide c) = true then A else B := by
  by_cases h : c
  · rw [if_neg (by simp [h])]; exact h2 h
  · rw [if_pos (by simp [h])]; exact h1 h
theorem ifB {c : Bool} {A B : Prop} (h1 : c = true → A) (h2 : c = false → B) : if c = true then A else B := by
  cases c with
  | true => rw [if_pos rfl]; exact h1 rfl
  | false => rw [if_neg Bool.false_ne_true]; exact h2 rfl
theorem ifNB {c : Bool} {A B : Prop} (h1 : c = false → A) (h2 : c = true → B) : if (!c) = true then A else B := by
  cases c with
  | true => exact iteF (h2 rfl)
  | false => exact iteT (h1 rfl)
end U
namespace U
open PySem PySem.Spec PyProof.Rows L2
/-- the ints' dicts compared -/
def dEq (ks ls : List (Key × V)) : Bool := ks.length == ls.length && ks.all fun p => decide (valV ls p.1 = some p.2)
def IntVals (ks : List (Key × V)) : Prop := ∀ p ∈ ks, ∃ i : Int, p.2 = .int i
theorem valV_mem {ls : List (Key × V)} {k : Key} {v : V} (h : valV ls k = some v) : ∃ p ∈ ls, p.2 = v := by
  unfold valV at h
  cases e : ls.find? (fun kv => decide (kv.1 = k)) with
  | none => rw [e] at h; cases h
  | some p =>
    rw [e] at h
    exact ⟨p, List.mem_of_find?_eq_some e, Option.some.inj h⟩
theorem hits_int {A : Around} {s : Shared} {ls : List (Key × V)} {vb : List (Key × Value)} (rb : KV ls vb) (il : IntVals ls) {ks : List (Key × V)} {va : List (Key × Value)} (ra : KV ks va) :
    IntVals ks → PySem.W.KeqHits A s vb va (ks.all fun p => decide (valV ls p.1 = some p.2)) := by
  unfold KV at ra
  induction ra with
  | nil => intro _; exact .nil
  | @cons p q ps qs h t ih =>
    intro hp
    obtain ⟨h1, h2⟩ := h
    obtain ⟨i, ei⟩ := hp p List.mem_cons_self
    obtain ⟨k, v⟩ := q
    have h1' : p.1 = k := h1
    subst h1'
    rw [ei] at h2
    obtain ⟨tk, ev⟩ := (show ∃ tk, v = Value.int i tk from h2)
    subst ev
    have rr : RelO (valV ls p.1) (valueAt vb p.1) := rb.val p.1
    rw [List.all_cons]
    cases e : valV ls p.1 with
    | none =>
      rw [e] at rr
      cases e2 : valueAt vb p.1 with
      | none => exact .miss e2
      | some y => rw [e2] at rr; exact rr.elim
    | some z =>
      rw [e] at rr
      obtain ⟨y, hy, ry⟩ := rr.some_of
      obtain ⟨p', hm, ep⟩ := valV_mem e
      obtain ⟨j, ej⟩ := il p' hm
      rw [ej] at ep
      subst ep
      obtain ⟨tk', ey⟩ := (show ∃ tk, y = Value.int j tk from ry)
      subst ey
      have b : decide (some (V.int j) = some p.2) = (i == j) := by
        rw [ei]
        by_cases h : i = j
        · subst h; simp
        · have h' : ¬ j = i := fun z => h z.symm
          simp [h, h']
      rw [b]
      exact .hit hy (SeqAt.EqAt.int_int i _ j _) (ih fun p' hm => hp p' (List.mem_cons_of_mem _ hm))
section
variable {X : Cx}
def rEqD : R2 := fun x y H Q => ∃ a b ks ls, x = .ref a ∧ y = .ref b ∧ H a = some (.dK ks) ∧ H b = some (.dK ls) ∧ IntVals ks ∧ IntVals ls ∧ Q (.bl (dEq ks ls)) H
def rNeD : R2 := fun x y H Q => ∃ a b ks ls, x = .ref a ∧ y = .ref b ∧ H a = some (.dK ks) ∧ H b = some (.dK ls) ∧ IntVals ks ∧ IntVals ls ∧ Q (.bl (!dEq ks ls)) H
theorem op_eqDI (hu : X.A.units < cLine) : OpR X (compareOp .Eq) rEqD := by
  intro pins s σ H x y v u Q I rx ry h
  obtain ⟨a, b, ks, ls, rfl, rfl, ea, eb, i1, i2, q⟩ := h
  cases (show v = Value.ref a from rx)
  cases (show u = Value.ref b from ry)
  obtain ⟨_, ya, va, ra, da⟩ := (show ObjOk X.prog X.w H s.heap a (.dK ks) from I.hok a _ ea)
  obtain ⟨_, yb, vb, rb, db⟩ := (show ObjOk X.prog X.w H s.heap b (.dK ls) from I.hok b _ eb)
  refine PySem.W.keq_eq (knd := mixKind X.prog X.w) ya yb da db hu (fun _ => hits_int rb i2 ra i1) (fin_bl I q ?_)
  unfold dEq
  rw [ra.length, rb.length]
end
end U
namespace U
open PySem PySem.Spec PyProof.Rows L2
/-! ### heaps -/
def Off (d : Addr) (H H' : Hp) : Prop := ∀ b o, b ≠ d → H b = some o → H' b = some o
theorem Same.new {H : Hp} {p : Addr} {o : HO} (h : H p = none) : L2.Same H (upd H p o) := fun b u e => by rw [upd_ne (ne_of_none e h)]; exact e
theorem Off.tr {d : Addr} {H H1 H2 : Hp} (a : Off d H H1) (b : Off d H1 H2) : Off d H H2 := fun c o hc e => b c o hc (a c o hc e)
theorem Off.lock {d : Addr} {H : Hp} {o : HO} : Off d H (upd H d o) := fun b u hb e => by rw [upd_ne hb]; exact e
theorem Off.new {d p : Addr} {H : Hp} {o : HO} (h : H p = none) : Off d H (upd H p o) := fun b u _ e => by rw [upd_ne (ne_of_none e h)]; exact e
theorem Off.free {d p : Addr} {H H' : Hp} {u : HO} (a : Off d H H') (hd : H' d = some u) (h : H' p = none) : H p = none := by
  cases e : H p with
  | none => rfl
  | some o =>
    by_cases hp : p = d
    · subst hp; rw [hd] at h; cases h
    · rw [a p o hp e] at h; cases h
theorem Off.back {d : Addr} {H H' : Hp} {u : HO} (a : Off d H H') (hd : H d = some u) : L2.Same H (upd H' d u) := fun b o e => by
  by_cases hb : b = d
  · subst hb; rw [hd] at e; cases e; exact upd_same
  · rw [upd_ne hb]; exact a b o hb e
/-- an object of the heap behind, that was not there ahead, may be changed -/
theorem Off.mut {d p : Addr} {H H' : Hp} {o : HO} (a : Off d H H') (h : H p = none) : Off d H (upd H' p o) := fun b u hb e => by rw [upd_ne (ne_of_none e h)]; exact a b u hb e
/-! ### a dict of ints -/
def kvI (l : List (Int × Int)) : List (Key × V) := l.map fun p => (Sum.inl p.1, V.int p.2)
theorem kvI_length (l : List (Int × Int)) : (kvI l).length = l.length := by simp [kvI]
theorem kvI_get {l : List (Int × Int)} {i : Nat} {k : Key} {v : V} (h : (kvI l)[i]? = some (k, v)) : ∃ x y, l[i]? = some (x, y) ∧ k = .inl x ∧ v = .int y := by
  unfold kvI at h
  rw [List.getElem?_map] at h
  cases e : l[i]? with
  | none => rw [e] at h; cases h
  | some p =>
    rw [e] at h
    obtain ⟨x, y⟩ := p
    cases h
    exact ⟨x, y, rfl, rfl, rfl⟩
def lk (l : List (Int × Int)) (x : Int) : Option Int := (l.find? fun p => decide (p.1 = x)).map (·.2)
theorem valV_kvI (l : List (Int × Int)) (x : Int) : valV (kvI l) (Sum.inl x : Key) = (lk l x).map V.int := by
  induction l with
  | nil => rfl
  | cons p r ih =>
    obtain ⟨a, b⟩ := p
    by_cases h : a = x
    · subst h
      rw [show kvI ((a, b) :: r) = (Sum.inl a, V.int b) :: kvI r from rfl, valV_pos rfl]
      simp [lk]
    · rw [show kvI ((a, b) :: r) = (Sum.inl a, V.int b) :: kvI r from rfl, valV_neg (fun z => h (Sum.inl.inj z)), ih]
      simp [lk, h]
theorem lk_none {l : List (Int × Int)} {x : Int} (h : x ∉ l.map (·.1)) : lk l x = none := by
  unfold lk
  rw [List.find?_eq_none.mpr]
  · rfl
  · intro p hp
    simp only [decide_eq_true_eq]
    exact fun e => h (List.mem_map.mpr ⟨p, hp, e⟩)
theorem lk_some {l : List (Int × Int)} (nd : (l.map (·.1)).Nodup) {x y : Int} (h : (x, y) ∈ l) : lk l x = some y := by
  induction l with
  | nil => cases h
  | cons p r ih =>
    obtain ⟨a, b⟩ := p
    rw [List.map_cons, List.nodup_cons] at nd
    rcases List.mem_cons.mp h with h | h
    · cases h; simp [lk]
    · have ne : ¬ a = x := fun z => nd.1 (by rw [z]; exact List.mem_map.mpr ⟨(x, y), h, rfl⟩)
      have := ih nd.2 h
      simpa [lk, ne] using this
theorem lk_mem {l : List (Int × Int)} {x y : Int} (h : lk l x = some y) : (x, y) ∈ l := by
  unfold lk at h
  cases e : l.find? (fun p => decide (p.1 = x)) with
  | none => rw [e] at h; cases h
  | some p =>
    rw [e] at h
    obtain ⟨a, b⟩ := p
    have h1 := List.find?_some e
    simp only [decide_eq_true_eq] at h1
    have h2 : b = y := Option.some.inj h
    subst h1 h2
    exact List.mem_of_find?_eq_some e
theorem intVals_kvI (l : List (Int × Int)) : IntVals (kvI l) := by
  intro p hp
  unfold kvI at hp
  obtain ⟨q, _, rfl⟩ := List.mem_map.mp hp
  exact ⟨q.2, rfl⟩
theorem putK_kvI {l : List (Int × Int)} {x y : Int} (h : x ∉ l.map (·.1)) : putK (kvI l) (Sum.inl x : Key) (V.int y) = kvI (l ++ [(x, y)]) := by
  have e : valV (kvI l) (Sum.inl x : Key) = none := by rw [valV_kvI, lk_none h]; rfl
  rw [putK_new _ e]
  simp [kvI]
theorem lk_append {l r : List (Int × Int)} {x : Int} : lk (l ++ r) x = (lk l x).or (lk r x) := by
  unfold lk
  rw [List.find?_append]
  cases l.find? (fun p => decide (p.1 = x)) <;> rfl
theorem lk_cons (a b : Int) (r : List (Int × Int)) (z : Int) : lk ((a, b) :: r) z = if a = z then some b else lk r z := by
  by_cases h : a = z <;> simp [lk, h]
theorem lk_mapOff (r : List (Int × Int)) (x y z : Int) (hz : ¬ z = x) : lk (r.map fun p => if p.1 = x then (p.1, y) else p) z = lk r z := by
  induction r with
  | nil => rfl
  | cons p r ih =>
    obtain ⟨a, b⟩ := p
    rw [List.map_cons]
    by_cases ha : a = x
    · subst ha
      have hz' : ¬ a = z := fun q => hz q.symm
      rw [if_pos rfl, lk_cons, lk_cons, if_neg hz', if_neg hz', ih]
    · rw [if_neg ha, lk_cons, lk_cons, ih]
theorem lk_mapPut {x y : Int} : ∀ (l : List (Int × Int)), x ∈ l.map (·.1) → ∀ z, lk (l.map fun p => if p.1 = x then (p.1, y) else p) z = if z = x then some y else lk l z
  | [], h, z => by cases h
  | (a, b) :: r, h, z => by
    by_cases hz : z = x
    · subst hz
      rw [if_pos rfl, List.map_cons]
      by_cases ha : a = z
      · subst ha
        rw [if_pos rfl, lk_cons, if_pos rfl]
      · rw [if_neg ha, lk_cons, if_neg ha]
        have h' : z ∈ r.map (·.1) := by
          rcases List.mem_cons.mp h with q | q
          · exact absurd q.symm ha
          · exact q
        rw [lk_mapPut r h' z, if_pos rfl]
    · rw [if_neg hz, lk_mapOff _ _ _ _ hz]
theorem putK_lk {l : List (Int × Int)} {x y : Int} : ∃ l', putK (kvI l) (Sum.inl x : Key) (V.int y) = kvI l' ∧ l'.length ≤ l.length + 1 ∧ ((l.map (·.1)).Nodup → (l'.map (·.1)).Nodup) ∧ ∀ z, lk l' z = if z = x then some y else lk l z := by
  by_cases h : x ∈ l.map (·.1)
  · refine ⟨l.map fun p => if p.1 = x then (p.1, y) else p, ?_, by simp, fun nd => ?_, fun z => ?_⟩
    · unfold putK
      rw [if_pos (by
        obtain ⟨p, hp, e⟩ := List.mem_map.mp h
        rw [List.any_eq_true]
        exact ⟨(Sum.inl p.1, V.int p.2), List.mem_map.mpr ⟨p, hp, rfl⟩, by simp [e]⟩)]
      unfold kvI
      rw [List.map_map, List.map_map]
      refine List.map_congr_left fun p _ => ?_
      by_cases e : p.1 = x
      · simp [e]
      · have e' : ¬ (Sum.inl p.1 : Key) = Sum.inl x := fun q => e (Sum.inl.inj q)
        simp [e]
    · have e : (l.map fun p => if p.1 = x then (p.1, y) else p).map (·.1) = l.map (·.1) := by
        rw [List.map_map]
        refine List.map_congr_left fun p _ => ?_
        by_cases e : p.1 = x <;> simp [e]
      rw [e]; exact nd
    · exact lk_mapPut l h z
  · refine ⟨l ++ [(x, y)], putK_kvI h, by simp, fun nd => ?_, fun z => ?_⟩
    · rw [List.map_append, List.nodup_append]
      refine ⟨nd, by simp, fun a ha b hb e => ?_⟩
      simp at hb
      subst hb
      exact h (e ▸ ha)
    · rw [lk_append]
      by_cases hz : z = x
      · subst hz; rw [lk_none h]; simp [lk]
      · have hz' : ¬ x = z := fun q => hz q.symm
        cases lk l z <;> simp [lk, hz, hz']
end U
namespace U
open PySem PySem.Spec PyProof.Rows L2
section
variable {J : It} {n : Nat} {G : Hp → Prop} {Y : Nat → Hp → V → Hp → Prop}
/-- a dict comprehension over a walk -/
theorem dc_it (w : Walk J n G Y) {g : TG} {tt : TT} {tk tv : TE} {vs : List Nat} {σ : L2.St} {H1 : Hp} {D : Addr} {Qd : Hp → Prop} (Pv : Nat → Hp → Prop) (h0 : Pv 0 (upd H1 D (.dK []))) (hG : ∀ i H, i ≤ n → Pv i H → G H)
    (hs : ∀ i x H H', i < n → Pv i H → Y i H x H' → g x (wipe σ vs) H' fun σ2 H2 => wipe σ2 vs = wipe σ vs ∧ tt σ2 H2 fun b H3 =>
      if b = true then tk σ2 H3 fun y H4 => tv σ2 H4 fun z H5 => ∃ kvs k, y = kV k ∧ H5 D = some (.dK kvs) ∧ kvs.length < sizeLine ∧ Pv (i + 1) (upd H5 D (.dK (putK kvs k z))) else Pv (i + 1) H3) (hd : ∀ H, Pv n H → Qd H) :
    ∃ W : Nat → Nat → Hp → Prop, (∃ m, W 0 m (upd H1 D (.dK []))) ∧ ∀ i m H, W i m H →
      (J.stop i H ∧ Qd H) ∨ (J.go i H ∧ ∃ Nx : Hp → Prop, (∀ H', Nx H' → ∃ m', m' < m ∧ W (i + 1) m' H') ∧ ∀ x H', J.yld i H x H' → g x (wipe σ vs) H' fun σ2 H2 => wipe σ2 vs = wipe σ vs ∧ tt σ2 H2 fun b H3 =>
        if b = true then tk σ2 H3 fun y H4 => tv σ2 H4 fun z H5 => ∃ kvs k, y = kV k ∧ H5 D = some (.dK kvs) ∧ kvs.length < sizeLine ∧ Nx (upd H5 D (.dK (putK kvs k z))) else Nx H3) := by
  refine ⟨fun i m H => m = n - i ∧ i ≤ n ∧ Pv i H, ⟨n, by simp, Nat.zero_le _, h0⟩, ?_⟩
  rintro i m H ⟨rfl, hi, p⟩
  have q := hG i H hi p
  by_cases hlt : i < n
  · exact .inr ⟨w.goes i H hlt q, Pv (i + 1), fun H' p' => ⟨n - (i + 1), by omega, rfl, hlt, p'⟩, fun x H' y => hs i x H H' hlt p (w.yields i H x H' hlt q y)⟩
  · have e : i = n := by omega
    subst e
    exact .inl ⟨w.stops H q, hd H p⟩
end
/-- what a comprehension over pairs makes -/
def madeD (c : Int → Int → Bool) (kf : Int → Int → Int) (vf : Int → Int → V) (l : List (Int × Int)) : List (Key × V) := (l.filter fun p => c p.1 p.2).map fun p => (Sum.inl (kf p.1 p.2), vf p.1 p.2)
theorem take_more {α : Type} {l : List α} {i : Nat} {x : α} (h : l[i]? = some x) : l.take (i + 1) = l.take i ++ [x] := by
  rw [List.take_add_one, h]; rfl
theorem valV_none {kvs : List (Key × V)} {k : Key} (h : k ∉ kvs.map (·.1)) : valV kvs k = none := by
  unfold valV
  rw [List.find?_eq_none.mpr]
  · rfl
  · intro p hp
    simp only [decide_eq_true_eq]
    exact fun e => h (List.mem_map.mpr ⟨p, hp, e⟩)
theorem madeD_step {c : Int → Int → Bool} {kf : Int → Int → Int} {vf : Int → Int → V} {l : List (Int × Int)} {i : Nat} {x y : Int} (h : l[i]? = some (x, y)) (nd : ((madeD c kf vf l).map (·.1)).Nodup) (hc : c x y = true) :
    putK (madeD c kf vf (l.take i)) (Sum.inl (kf x y)) (vf x y) = madeD c kf vf (l.take (i + 1)) := by
  have e : madeD c kf vf (l.take (i + 1)) = madeD c kf vf (l.take i) ++ [(Sum.inl (kf x y), vf x y)] := by
    rw [take_more h]
    unfold madeD
    rw [List.filter_append, List.map_append]
    simp [hc]
  have e2 : madeD c kf vf l = madeD c kf vf (l.take (i + 1)) ++ madeD c kf vf (l.drop (i + 1)) := by
    unfold madeD
    rw [← List.map_append, ← List.filter_append, List.take_append_drop]
  rw [e2, e, List.map_append, List.map_append] at nd
  have nd1 := (List.nodup_append.mp nd).1
  have nin : (Sum.inl (kf x y) : Key) ∉ (madeD c kf vf (l.take i)).map (·.1) := by
    intro hm
    exact (List.nodup_append.mp nd1).2.2 _ hm _ (by simp) rfl
  rw [putK_new _ (valV_none nin), e]
theorem madeD_skip {c : Int → Int → Bool} {kf : Int → Int → Int} {vf : Int → Int → V} {l : List (Int × Int)} {i : Nat} {x y : Int} (h : l[i]? = some (x, y)) (hc : c x y = false) :
    madeD c kf vf (l.take (i + 1)) = madeD c kf vf (l.take i) := by
  rw [take_more h]
  unfold madeD
  rw [List.filter_append, List.map_append]
  simp [hc]
theorem madeD_len (c : Int → Int → Bool) (kf : Int → Int → Int) (vf : Int → Int → V) (l : List (Int × Int)) (i : Nat) : (madeD c kf vf (l.take i)).length ≤ l.length := by
  unfold madeD
  rw [List.length_map]
  exact Nat.le_trans (List.length_filter_le _ _) (by rw [List.length_take]; omega)
/-- {k: v for x, y in d.items() if ..}, the tests and parts reading alone -/
theorem dc_items {K : PySem.W.Frag} {d : Addr} {l : List (Int × Int)} {te : TE} {i j : Nat} {tt : TT} {tk tv : TE} {vs : List Nat} {σ : L2.St} {H : Hp} {Q : VK} (c : Int → Int → Bool) (kf : Int → Int → Int) (vf : Int → Int → V)
    (hd : H d = some (.dK (kvI l))) (hte : ∀ H' (R : VK), R (.ref d) H' → Off d H H' → te σ H' R)
    (hw : ∀ a b, wipe (((wipe σ vs).set i a).set j b) vs = wipe σ vs)
    (hb : ∀ x y, (x, y) ∈ l → ∀ H1, Off d H H1 → (∀ R : Bool → Hp → Prop, R (c x y) H1 → tt (((wipe σ vs).set i (some (.int x))).set j (some (.int y))) H1 R) ∧
      (c x y = true → (∀ R : VK, R (.int (kf x y)) H1 → tk (((wipe σ vs).set i (some (.int x))).set j (some (.int y))) H1 R) ∧ ∀ R : VK, R (vf x y) H1 → tv (((wipe σ vs).set i (some (.int x))).set j (some (.int y))) H1 R))
    (nd : ((madeD c kf vf l).map (·.1)).Nodup) (hz : l.length < sizeLine)
    (hq : ∀ D H', H D = none → H' D = some (.dK (madeD c kf vf l)) → L2.Same H H' → Q (.ref D) H') :
    tLockE (tDc (iItems te) (gTup K 2 (gCons (gName i) (gCons (gName j) gNil))) tt tk tv vs) σ H Q := by
  refine ⟨d, _, hd, trivial, fun od => ?_⟩
  refine hte _ _ ⟨d, od, kvI l, rfl, upd_same, fun D hD => ?_⟩ Off.lock
  have hDd : D ≠ d := fun e => by rw [e, upd_same] at hD; cases hD
  have hD0 : H D = none := by rw [upd_ne hDd] at hD; exact hD
  refine dc_it walk_items (fun k H' => H' d = some (.frz od (.dK (kvI l))) ∧ Off d H H' ∧ H' D = some (.dK (madeD c kf vf (l.take k)))) ⟨?_, Off.lock.mut hD0, upd_same⟩ (fun k H' _ p => p.1) ?_ ?_
  · rw [upd_ne hDd.symm]; exact upd_same
  · rintro k v H' H'' hk ⟨p1, p2, p3⟩ ⟨T, a, b, rfl, hT, rfl, e1, e2⟩
    rw [kvI_length] at hk
    obtain ⟨⟨x, y⟩, exy⟩ : ∃ p, l[k]? = some p := ⟨_, List.getElem?_eq_getElem hk⟩
    have ek : (kvI l)[k]? = some (Sum.inl x, V.int y) := by unfold kvI; rw [List.getElem?_map, exy]; rfl
    dsimp only at e1 e2
    rw [ek] at e1 e2
    cases e1; cases e2
    have nTd : d ≠ T := ne_of_none p1 hT
    have nTD : D ≠ T := ne_of_none p3 hT
    refine ⟨T, [.int x, .int y], rfl, SqT.of upd_same, rfl, .int x, [.int y], rfl, .int y, [], rfl, rfl, ?_⟩
    refine ⟨hw _ _, ?_⟩
    have o2 : Off d H (upd H' T (.tup [.int x, .int y])) := p2.tr (Off.new hT)
    obtain ⟨b1, b2⟩ := hb x y (List.mem_of_getElem? exy) _ o2
    refine b1 _ ?_
    have d3 : (upd H' T (.tup [.int x, .int y])) d = some (.frz od (.dK (kvI l))) := by rw [upd_ne nTd]; exact p1
    have D3 : (upd H' T (.tup [.int x, .int y])) D = some (.dK (madeD c kf vf (l.take k))) := by rw [upd_ne nTD]; exact p3
    cases hc : c x y with
    | true =>
      refine iteT ?_
      obtain ⟨b3, b4⟩ := b2 hc
      refine b3 _ (b4 _ ⟨_, Sum.inl (kf x y), rfl, D3, Nat.lt_of_le_of_lt (madeD_len ..) hz, ?_⟩)
      refine ⟨?_, o2.mut hD0, ?_⟩
      · rw [upd_ne hDd.symm]; exact d3
      · rw [upd_same, madeD_step exy nd hc]
    | false =>
      refine iteF ⟨d3, o2, ?_⟩
      rw [madeD_skip exy hc]
      exact D3
  · rintro H' ⟨p1, p2, p3⟩
    rw [kvI_length, List.take_length] at p3
    refine ⟨p1, hq D _ hD0 ?_ (p2.back hd)⟩
    rw [upd_ne hDd]
    exact p3
/-- {k: v for x in range(lo, ..) if ..} -/
def madeR (c : Int → Bool) (kf : Int → Int) (vf : Int → V) (n : Nat) : List (Key × V) := ((List.range n).filter fun (i : Nat) => c (i : Int)).map fun (i : Nat) => ((Sum.inl (kf (i : Int)) : Key), vf (i : Int))
theorem madeR_succ (c : Int → Bool) (kf : Int → Int) (vf : Int → V) (n : Nat) : madeR c kf vf (n + 1) = madeR c kf vf n ++ (if c (n : Int) = true then [((Sum.inl (kf (n : Int)) : Key), vf (n : Int))] else []) := by
  unfold madeR
  rw [List.range_succ, List.filter_append, List.map_append]
  by_cases h : c (n : Int) = true
  · simp [h]
  · have h' : c (n : Int) = false := by simpa using h
    simp [h']
theorem madeR_len (c : Int → Bool) (kf : Int → Int) (vf : Int → V) (n : Nat) : (madeR c kf vf n).length ≤ n := by
  unfold madeR
  rw [List.length_map]
  exact Nat.le_trans (List.length_filter_le _ _) (by simp)
theorem madeR_keys {c : Int → Bool} {vf : Int → V} {n k : Nat} (h : (Sum.inl (k : Int) : Key) ∈ (madeR c (fun x => x) vf n).map (·.1)) : k < n := by
  unfold madeR at h
  rw [List.map_map] at h
  obtain ⟨i, hi, e⟩ := List.mem_map.mp h
  have h1 := (List.mem_filter.mp hi).1
  rw [List.mem_range] at h1
  have : (i : Int) = (k : Int) := Sum.inl.inj e
  omega
theorem dc_range {wi : TI} {i : Nat} {tt : TT} {tk tv : TE} {vs : List Nat} {σ : L2.St} {H0 H : Hp} {Q : VK} {n : Nat} (c : Int → Bool) (vf : Int → V) (hwi : ∀ R : It → Hp → Prop, R (Itr 0 n) H → wi σ H0 R)
    (hw : ∀ a, wipe ((wipe σ vs).set i a) vs = wipe σ vs)
    (hb : ∀ k : Nat, k < n → ∀ H1, L2.Same H H1 → (∀ R : Bool → Hp → Prop, R (c (k : Int)) H1 → tt ((wipe σ vs).set i (some (.int (0 + (k : Nat))))) H1 R) ∧
      (c (k : Int) = true → (∀ R : VK, R (.int (k : Int)) H1 → tk ((wipe σ vs).set i (some (.int (0 + (k : Nat))))) H1 R) ∧ ∀ R : VK, R (vf (k : Int)) H1 → tv ((wipe σ vs).set i (some (.int (0 + (k : Nat))))) H1 R))
    (hz : n < sizeLine) (hq : ∀ D H', H D = none → H' D = some (.dK (madeR c (fun x => x) vf n)) → L2.Same H H' → Q (.ref D) H') :
    tDc wi (gName i) tt tk tv vs σ H0 Q := by
  refine hwi _ ?_
  intro D hD
  refine dc_it walk_range (fun k H' => L2.Same H H' ∧ H' D = some (.dK (madeR c (fun x => x) vf k))) ⟨Same.new hD, upd_same⟩ (fun _ _ _ _ => trivial) ?_ ?_
  · rintro k v H' H'' hk ⟨p1, p2⟩ ⟨rfl, rfl⟩
    refine ⟨hw _, ?_⟩
    obtain ⟨b1, b2⟩ := hb k hk _ p1
    refine b1 _ ?_
    cases hc : c (k : Int) with
    | true =>
      refine iteT ?_
      obtain ⟨b3, b4⟩ := b2 hc
      refine b3 _ (b4 _ ⟨_, Sum.inl (k : Int), rfl, p2, Nat.lt_of_le_of_lt (madeR_len ..) (Nat.lt_trans hk hz), ?_, ?_⟩)
      · intro b o e
        rw [upd_ne (ne_of_none e hD)]
        exact p1 b o e
      · rw [upd_same, putK_new _ (valV_none fun z => Nat.lt_irrefl _ (madeR_keys z)), madeR_succ, if_pos hc]
    | false =>
      refine iteF ⟨p1, ?_⟩
      rw [madeR_succ, hc, p2]
      simp
  · rintro H' ⟨p1, p2⟩
    exact hq D _ hD p2 p1
end U
namespace U
open PySem PySem.Spec PyProof.Rows L2
section
variable {X : Cx}
theorem sw_dict {kx vx : Expr} {gs : List Comprehension} {scope : Scope} {pos py : Pos} {y : Str} {l : Nat} {env : Env} (hk : env.scope.kind = .function) (hy : env.scope.names.lookup y = some .local) (hl : (py.line == pos.line) = true)
    (ha : (scope.names.any fun (n, k) => n == y && (k == .local || k == .cell)) = false) : swapsWith (.DictComp kx vx gs scope pos) (some (.Name y py)) l env = pure true := by
  have ky : env.kindOf y = some .local := hy
  have hb : env.blockKind = .function := by unfold Env.blockKind; rw [hk]; rfl
  unfold swapsWith
  simp only [hb, ky, ha, Expr.pos, hl]
  rfl
/-- name = {..} on one line, the name a local -/
theorem ps_setDc {i : Nat} {y : Str} {py : Pos} {kx vx tg iter : Expr} {ifs : List Expr} {scope : Scope} {own : List (Str × Nat)} {pos spos : Pos} {wi : TI} {g : TG} {tt : TT} {tk tv : TE} (hc : X.calm = true) (hN : X.N.Nodup) (hy : X.N[i]? = some y) (hyl : X.env.scope.names.lookup y = some .local)
    (hsw : swapsWith (.DictComp kx vx [⟨tg, iter, ifs, 0⟩] scope pos) (some (.Name y py)) spos.line X.env = pure true) (hi : PI X tg iter wi) (ok : BlkOk X.N X.env.scope scope own)
    (hg : ∀ (s : Shared) (H : Hp) (C : Addr) (cl : List (Str × Addr)) (fp : List Addr), PG (X.blk s H scope (compEnvC scope cl C X.env) fp) tg g) (ht : ∀ (s : Shared) (H : Hp) (C : Addr) (cl : List (Str × Addr)) (fp : List Addr), PTs (X.blk s H scope (compEnvC scope cl C X.env) fp) ifs tt)
    (hk : ∀ (s : Shared) (H : Hp) (C : Addr) (cl : List (Str × Addr)) (fp : List Addr), PE (X.blk s H scope (compEnvC scope cl C X.env) fp) kx tk)
    (he : ∀ (s : Shared) (H : Hp) (C : Addr) (cl : List (Str × Addr)) (fp : List Addr), PE (X.blk s H scope (compEnvC scope cl C X.env) fp) vx tv) (hs : ∀ x, foldedSetIterable iter X.env x = pure x := by intro _; rfl) :
    PS X (.Assign [.Name y py] (.DictComp kx vx [⟨tg, iter, ifs, 0⟩] scope pos) spos) (tAsg (tDc wi g tt tk tv (own.map (·.2))) (gName i)) := by
  refine ⟨fun pins s σ H D I h => ?_⟩
  rw [exec_Assign_Name_used _ _ _ _ hsw]
  refine wpAny_bind (wpAny_standAt (wpAny_bind ?_))
  show wpAny _ X.A (do let _ ← comprehension (.DictComp kx vx [⟨tg, iter, ifs, 0⟩] scope pos) scope X.env (firstIterPos [⟨tg, iter, ifs, 0⟩] pos) newDict false (eval iter X.env) (some (assign (.Name y py) X.env))) _ _ s
  have h : tDc wi g tt tk tv (own.map (·.2)) σ H (fun x H1 => gName i x σ H1 D.nx) := h
  refine wpAny_bind (thn (dc_core (Qf := fun _ s' => SP X pins D .next s') hc hN I hi ok hg ht hk he hs h fun L C s' m H' I' q hn f => ?_) fun _ s' hq => wpAny_pure (wpAny_pure hq))
  show wpAny _ _ (assign (.Name y py) X.env (.ref L)) _ _ _
  refine wpAny_assign_Name (store_ok2 (v := V.ref L) I' hN hy (.inl hyl) rfl (fun s2 I2 ⟨a, sb, ha⟩ => ?_) (.inr hyl))
  obtain ⟨f0, f1, f2, f3, f4, f5⟩ := f
  have haC : C ≠ a := by
    rcases ha with z | z
    · rw [z]; exact f1
    · exact fun e => f4 y a z e.symm
  refine ⟨m, hn.sameBut sb haC, fun h3 sb3 => ?_⟩
  exact ⟨_, H', I2.turned (t' := s2.toks) (fun b o hb e => (sb3.2 b hb).trans e) f0 f1 f3 f4 f5, q⟩
end
/-- x = e under the lock -/
theorem lock_asg {t : TE} {D : Ends} {σ : L2.St} {H : Hp} {i : Nat} (h : tLockE t σ H (fun v H' => D.nx (σ.set i (some v)) H')) : tLock (tAsg t (gName i)) D σ H := h
/-- [v for x, y in d.items() if ..], the tests and parts reading alone -/
def madeL (c : Int → Int → Bool) (vf : Int → Int → V) (l : List (Int × Int)) : List V := (l.filter fun p => c p.1 p.2).map fun p => vf p.1 p.2
theorem madeL_step {c : Int → Int → Bool} {vf : Int → Int → V} {l : List (Int × Int)} {i : Nat} {x y : Int} (h : l[i]? = some (x, y)) :
    madeL c vf (l.take (i + 1)) = madeL c vf (l.take i) ++ (if c x y = true then [vf x y] else []) := by
  rw [take_more h]
  unfold madeL
  rw [List.filter_append, List.map_append]
  by_cases hc : c x y = true
  · simp [hc]
  · have hc' : c x y = false := by simpa using hc
    simp [hc']
theorem madeL_len (c : Int → Int → Bool) (vf : Int → Int → V) (l : List (Int × Int)) (i : Nat) : (madeL c vf (l.take i)).length ≤ l.length := by
  unfold madeL
  rw [List.length_map]
  exact Nat.le_trans (List.length_filter_le _ _) (by rw [List.length_take]; omega)
end U
/-! ### own errors over any built-in error -/
namespace PySem
namespace GEX
open PySem.W PySem.Calls PyProof.Rows PySem.HandSPX Builtin Builtin.ObjectAttr
section
variable {prog : Program} {w : World} {A : Around} {E : Value → Shared → Prop} {R : Result → Shared → Prop} {hp : Heap} {gs : Array GenState} {dr : Drawn} {tn : Nat} {os : OsState}
/-- what is asked of the class's chain -/
structure Mro (m : List Value) : Prop where
  ob : m.contains (.type "object") = true
  ne : m.isEmpty = false
  ps : ∀ self : Value, refuseLoop self "__setattr__" m = pure ()
theorem mro_of {bmB bm : List Value} {B : String} (SF : StoreFacts B bmB "object.__setattr__" "object") (h : excTail bmB bm = true) (C : Addr) : Mro (.ref C :: bm) := by
  have h' : excTail bmB (.ref C :: bm) = true := h
  exact ⟨(excTail_contains "object" _ h').trans SF.hasOwner, rfl, fun self => excTail_pass self (SF.passes self) _ h'⟩
theorem osa_first {K : Frag} {nm : Str} {tk : Tok} {v : Value} {x C : Addr} {fv : Array Value} {cd : ClassData} (X : K.In hp) (hx : hp.get? x = some { cls := .ref C, data := .fields fv }) (hcd : clsIn K C = some cd) (hm : Mro cd.mro) (hh : cd.hasDict = true) (ha : findIn K (.ref C) nm = some none)
    (hq : ∀ h' tk' dx, (∀ b o, b ≠ x → hp.get? b = some o → h'.get? b = some o) → hp.objs.size ≤ dx → dx ≠ x → h'.get? x = some { cls := .ref C, dict := some dx, data := .fields fv } → h'.Ns1 dx (fun y => if y = nm then some v else none) → R (.ok (.ret .none)) ⟨h', gs, dr, tk', os⟩) :
    codeAny (model prog w) A (.call (.builtin "object.__setattr__") ⟨[.ref x, .str nm tk, v], []⟩) R ⟨hp, gs, dr, tn, os⟩ := by
  have I : InstAt hp x { cls := .ref C, data := .fields fv } C none := ⟨hx, rfl, rfl, trivial⟩
  have hxs : x ≠ hp.objs.size := Nat.ne_of_lt (Heap.lt_size hx)
  have S0 := F.store_object
  have l1 : Looks (model prog w) hp (isInstance (.ref x) (.type "object")) true := I.type.andThen (looks_mroIn X (by unfold mroIn; rw [hcd, Option.bind_some, if_neg (by rw [hm.ne]; decide), hm.ob]))
  refine codeAny_call_builtin S0.slot.plain S0.entry ?_
  refine @check_slot (model prog w) _ _ ⟨hp, gs, dr, tn, os⟩ "object.__setattr__" "object" "__setattr__" (.ref x) [.str nm tk, v] [] _ S0.kind S0.split l1 (S0.args (.ref x) (.str nm tk) v) ?_
  have l2 : Looks (model prog w) hp (mroOf (.ref C)) cd.mro := (looks_clsIn X hcd).andThen .now
  have l3 : Looks (model prog w) hp (storeTaker? none) none := .now
  have l4 : Looks (model prog w) hp (classData C) cd := looks_clsIn X hcd
  rw [osa_eq, refuse_eq]
  refine wpAny_bind (wpAny_bind (I.type.at (wpAny_bind (l2.at ?_)))); rw [hm.ps]
  refine wpAny_pure (wpAny_bind (I.type.at (wpAny_bind ((looks_findIn X ha).at (wpAny_bind (l3.at ?_))))))
  show wpAny _ _ (storeInOwnDict (.ref x) (.ref C) (.str nm tk) nm v false) _ _ _
  obtain ⟨c1, c2, c3, c4, c5, c6, c7, c8, c9, c10, c11⟩ := cd
  have hh' : c6 = true := hh
  subst hh'
  unfold storeInOwnDict ownDictForStores
  repeat (first | with_reducible refine HandSPX.store_in_new ?_ ?_ | with_reducible refine wpAny_loadPart_at hx ?_ | with_reducible refine l4.at ?_ | wp_step)
  · refine ⟨_, #[], _, (Heap.get?_update_ne _ _ _ _ hxs.symm).trans (Heap.get?_push_at rfl rfl), rfl, fun e he => ?_, fun _ => rfl⟩
    simp at he
  · intro h' tk' hn' hs
    have hx1 : (hp.push { cls := .type "dict", data := .dict #[] }).get? x = some { cls := .ref C, data := .fields fv } := Heap.get?_push_of_some _ hx
    exact hq h' tk' hp.objs.size (fun b o hb ho => (hs.2 b (Nat.ne_of_lt (Heap.lt_size ho))).trans ((Heap.get?_update_ne _ _ _ _ hb).trans (Heap.get?_push_of_some _ ho))) (Nat.le_refl _) hxs.symm ((hs.2 x hxs).trans (Heap.get?_update_self _ hx1 rfl)) hn'
theorem osa_more {K : Frag} {nm : Str} {tk : Tok} {v : Value} {x C dx : Addr} {fv : Array Value} {cd : ClassData} {m0 : Str → Option Value} {nl : List Str} (X : K.In hp) (hx : hp.get? x = some { cls := .ref C, dict := some dx, data := .fields fv }) (hns : hp.Ns1 dx m0) (hw : Within m0 nl) (hz : nl.length ≤ 1000) (hcd : clsIn K C = some cd) (hm : Mro cd.mro) (hh : cd.hasDict = true) (ha : findIn K (.ref C) nm = some none)
    (hq : ∀ h' tk', (∀ b o, b ≠ dx → hp.get? b = some o → h'.get? b = some o) → h'.Ns1 dx (fun y => if y = nm then some v else m0 y) → R (.ok (.ret .none)) ⟨h', gs, dr, tk', os⟩) :
    codeAny (model prog w) A (.call (.builtin "object.__setattr__") ⟨[.ref x, .str nm tk, v], []⟩) R ⟨hp, gs, dr, tn, os⟩ := by
  obtain ⟨oD, _, _, hoD, _, _⟩ := hns.count hw
  have I : InstAt hp x { cls := .ref C, dict := some dx, data := .fields fv } C (some oD) := ⟨hx, rfl, rfl, hoD⟩
  have S0 := F.store_object
  have l1 : Looks (model prog w) hp (isInstance (.ref x) (.type "object")) true := I.type.andThen (looks_mroIn X (by unfold mroIn; rw [hcd, Option.bind_some, if_neg (by rw [hm.ne]; decide), hm.ob]))
  refine codeAny_call_builtin S0.slot.plain S0.entry ?_
  refine @check_slot (model prog w) _ _ ⟨hp, gs, dr, tn, os⟩ "object.__setattr__" "object" "__setattr__" (.ref x) [.str nm tk, v] [] _ S0.kind S0.split l1 (S0.args (.ref x) (.str nm tk) v) ?_
  have l2 : Looks (model prog w) hp (mroOf (.ref C)) cd.mro := (looks_clsIn X hcd).andThen .now
  have l3 : Looks (model prog w) hp (storeTaker? none) none := .now
  have l4 : Looks (model prog w) hp (classData C) cd := looks_clsIn X hcd
  rw [osa_eq, refuse_eq]
  refine wpAny_bind (wpAny_bind (I.type.at (wpAny_bind (l2.at ?_)))); rw [hm.ps]
  refine wpAny_pure (wpAny_bind (I.type.at (wpAny_bind ((looks_findIn X ha).at (wpAny_bind (l3.at ?_))))))
  show wpAny _ _ (storeInOwnDict (.ref x) (.ref C) (.str nm tk) nm v false) _ _ _
  obtain ⟨c1, c2, c3, c4, c5, c6, c7, c8, c9, c10, c11⟩ := cd
  have hh' : c6 = true := hh
  subst hh'
  unfold storeInOwnDict ownDictForStores
  repeat (first | with_reducible refine OEX.store_in_old hns hw hz ?_ | with_reducible refine wpAny_loadPart_at hx ?_ | with_reducible refine l4.at ?_ | wp_step)
  intro h' tk' hn' hs
  exact hq h' tk' (fun b o hb ho => (hs.2 b hb).trans ho) hn'
end
end GEX
end PySem
namespace L2
open PySem PySem.Spec PyProof.Rows PySem.W
/-- what the written part says of an own error class -/
structure OexG (K : PySem.W.Frag) (C : Addr) : Prop where
  cls : ∃ B newId initId bmB nm q N bs bm sn sub ab col dd k0 k1 k2 k3 k5, PySem.StoreFacts B bmB "object.__setattr__" "object" ∧ ExcBaseFacts B newId initId bmB ∧ K.lookup C = some (excClassObj nm q C N bs bm true sn sub ab col dd k0 k1 k2 k3 k5 newId) ∧ PySem.W.excTail bmB bm = true
  sa : PySem.W.findIn K (.ref C) "__setattr__" = some (some (.builtin "object.__setattr__"))
  exC : PySem.W.subIn K (.ref C) (.type "BaseException") = some true
  tyC : PySem.W.typeIn K (.ref C) = some (.type "type")
  kC : PySem.W.keepIn K (.ref C) = true
section
variable {X : Cx} {pins : List (Addr × Obj)} {σ : St} {H : Hp} {s : Shared} {a C dx : Addr} {f : Str} {y : V} {u : Value} {fs : List (Str × V)} {Q : Unit → Shared → Prop} {E : Value → Shared → Prop} {A : Around}
theorem OexG.look {K : PySem.W.Frag} {C : Addr} (T : OexG K C) : ∃ cd, PySem.W.clsIn K C = some cd ∧ PySem.GEX.Mro cd.mro ∧ cd.hasDict = true := by
  obtain ⟨B, nI, iI, bmB, nm, q, N, bs, bm, sn, sub, ab, col, dd, k0, k1, k2, k3, k5, SF, _, hC, hb⟩ := T.cls
  refine ⟨{ name := nm, bases := bs, mro := .ref C :: bm, ns := N, qualname := q, hasDict := true, slotNames := sn, subclasses := sub, abstract := ab, collection := col, hasDel := false }, ?_, PySem.GEX.mro_of SF hb C, rfl⟩
  unfold PySem.W.clsIn
  rw [hC] <;> rfl
/-- self.f = y, none there as yet -/
theorem ostG_new (T : OexG X.K C) (I : Inv X pins σ H s) (e : H a = some (exo a C none)) (hno : PySem.W.findIn X.K (.ref C) f = some none) (ry : RelV y u)
    (k : ∀ dx s', H dx = none → dx ≠ a → Inv X pins σ (upd (upd H dx (exd dx [(f, y)])) a (exo a C (some dx))) s' → Q () s') : wpAny (model X.prog X.w) A (setAttr (.ref a) f u) Q E s := by
  obtain ⟨cd, hcd, hmr, hdc⟩ := T.look
  obtain ⟨t1, ho⟩ := exo_at I.hok e
  obtain ⟨h0, gs, dr, tn, os⟩ := s
  refine PySem.W.set_plain I.kIn (ox := ⟨.ref C, none, .fields #[.ref t1, .none, .none, .none, .bool false, .none], #[]⟩) (od := none) ⟨ho, rfl, rfl, trivial⟩ T.sa ?_
  refine PySem.GEX.osa_first I.kIn ho hcd hmr hdc hno fun h' tk' dx kp dn dne hx hn => ?_
  have dfree : H dx = none := I.hok.fresh dn
  have low : ∀ {b : Addr} {o : Obj}, h0.get? b = some o → b ≠ dx := fun q => Nat.ne_of_lt (Nat.lt_of_lt_of_le (Heap.lt_size q) dn)
  have apart : ∀ {b : Addr}, H b = none → b ≠ a := fun {b} n z => by subst z; rw [e] at n; cases n
  have U1 : Un X.fs [] H (upd (upd H dx (exd dx [(f, y)])) a (exo a C (some dx))) h0 h' := by
    refine ⟨fun b o q n _ _ => kp b o (apart n) q, fun b o q n _ _ => ⟨o.slots, kp b o (apart n) q⟩, fun b o q n _ => ?_, fun b o q _ => ?_, fun b xs q => ?_, fun b o v q => ?_, fun b ps q => ⟨#[], ?_⟩⟩
    · rw [upd_ne (apart n), upd_ne (low q)]; exact n
    · by_cases hb : b = a
      · subst hb; exact ⟨_, hx⟩
      · exact ⟨o, kp b o hb q⟩
    · rw [upd_ne (at_ne e q exo_tup), upd_ne (ne_of_none q dfree)]; exact q
    · rw [upd_ne (at_ne e q exo_frz), upd_ne (ne_of_none q dfree)]; exact q
    · rw [upd_ne (at_ne e q exo_tbl), upd_ne (ne_of_none q dfree), q]; simp
  refine k dx _ dfree dne (I.un (t' := tk') U1 fun b o q => ?_)
  by_cases hb : b = a
  · subst hb; rw [upd_same] at q; cases q
    exact exo_ok hx
  · rw [upd_ne hb] at q
    by_cases hd : b = dx
    · subst hd; rw [upd_same] at q; cases q
      exact exd_ok hn (relO_put (fs := []) ry fun _ => True.intro)
    · rw [upd_ne hd] at q
      refine (I.hok b o q).stay (fun c v hc z => kp c v ?_ z) (fun c hc => ?_) (fun c xs hc => ?_)
      · rcases hc with rfl | hc
        · exact hb
        · exact at_ne e hc exo_own
      · rw [upd_ne (at_ne e hc exo_own), upd_ne (ne_of_none hc dfree)]; exact hc
      · rw [upd_ne (at_ne e hc exo_tup), upd_ne (ne_of_none hc dfree)]; exact hc
theorem ostG_old (T : OexG X.K C) (I : Inv X pins σ H s) (e : H a = some (exo a C (some dx))) (ed : H dx = some (exd dx fs)) (hl : fs.length ≤ 900) (hno : PySem.W.findIn X.K (.ref C) f = some none) (ry : RelV y u)
    (k : ∀ s', Inv X pins σ (upd H dx (exd dx ((f, y) :: fs))) s' → Q () s') : wpAny (model X.prog X.w) A (setAttr (.ref a) f u) Q E s := by
  obtain ⟨cd, hcd, hmr, hdc⟩ := T.look
  obtain ⟨t1, ho⟩ := exo_at I.hok e
  obtain ⟨mA, hns, rel⟩ := exd_at I.hok ed
  have win := within_of rel
  obtain ⟨oD, _, _, hoD, _, _⟩ := hns.count win
  obtain ⟨h0, gs, dr, tn, os⟩ := s
  refine PySem.W.set_plain I.kIn (ox := ⟨.ref C, some dx, .fields #[.ref t1, .none, .none, .none, .bool false, .none], #[]⟩) (od := some oD) ⟨ho, rfl, rfl, hoD⟩ T.sa ?_
  refine PySem.GEX.osa_more I.kIn ho hns win (by rw [List.length_map]; omega) hcd hmr hdc hno fun h' tk' kp hn => ?_
  have there : ∃ o, h'.get? dx = some o := by
    obtain ⟨o, _, _, e', _⟩ := hn
    exact ⟨o, e'⟩
  exact k _ (I.write (t' := tk') (x := dx) (e := dx) (o := exd dx ((f, y) :: fs)) (by rw [ed]; exact True.intro) (.inl rfl) kp there (exd_ok hn (relO_put ry rel)))
end
/-- self.f = e, self an error being made -/
def tOstG (K : PySem.W.Frag) (f : Str) (to te : TE) : TS := fun D σ H => te σ H fun y H1 => to σ H1 fun x H2 => ∃ a C : Addr, x = .ref a ∧ OexG K C ∧ PySem.W.findIn K (.ref C) f = some none ∧
  ((H2 a = some (exo a C none) ∧ ∀ dx, H2 dx = none → dx ≠ a → D.nx σ (upd (upd H2 dx (exd dx [(f, y)])) a (exo a C (some dx)))) ∨
    ∃ (dx : Addr) (fs : List (Str × V)), H2 a = some (exo a C (some dx)) ∧ H2 dx = some (exd dx fs) ∧ fs.length ≤ 900 ∧ D.nx σ (upd H2 dx (exd dx ((f, y) :: fs))))
section
variable {X : Cx} {o e : Expr} {es : List Expr} {to te : TE} {ta : TA} {f : Str} {p p' pos : Pos}
theorem ps_ostG (ho : PE X o to) (he : PE X e te) (hs : swapsWith e (some (.Attribute o f p')) pos.line X.env = pure false := by rfl) : PS X (.Assign [.Attribute o f p'] e pos) (tOstG X.K f to te) := by
  refine ⟨fun pins s σ H D I h => plainObj_wpAny_Assign_Attribute (thn (he.run pins s σ H _ I h) fun v s1 ⟨y, H1, I1, r1, q1⟩ => thn (ho.run pins s1 σ H1 _ I1 q1) fun u s2 ⟨x, H2, I2, r2, a, C, ex, T, hno, q⟩ => ?_) hs⟩
  subst ex
  cases (show u = Value.ref a from r2)
  rcases q with ⟨ea, q⟩ | ⟨dx, fs, ea, ed, hl, q⟩
  · exact ostG_new T I2 ea hno r1 fun dx _ n ne J => ⟨σ, _, J, q dx n ne⟩
  · exact ostG_old T I2 ea ed hl hno r1 fun _ J => ⟨σ, _, J, q⟩
/-- C(e, ..) -/
theorem pmk_oexG {CX : CXT} {x : Str} {C fI : Addr} {k : Nat} {sp : Sp} (T : OexG X.K C) (iC : PySem.W.findIn X.K (.ref C) "__init__" = some (some (.ref fI))) (tI : PySem.W.typeIn X.K (.ref fI) = some (.type "function"))
    (F1 : FnR X.prog X.w X.K X.mg X.base CX k fI sp) (hr : Room (k + 1) X.A) (hx : Passes CX X (fun _ _ _ => False)) (hg : Gl X x) (hm : X.mg x = some (.ref C)) (ha : PA X (e :: es) ta)
    (hdb : (x == ("__debug__" : Str)) = false := by decide) (he : starEach (e :: es) X.env = (false, eval e X.env) :: starEach es X.env := by rfl) (hpl : (backTo pos (starEach es X.env)).any (·.1) = false := by rfl) :
    PMk X (.Call (.Name x p) (e :: es) [] pos) (tMkO C sp [] ta) := by
  intro pins s σ H Q I h
  obtain ⟨B, nI, iI, bmB, nm, q, N, bs, bm, sn, sub, ab, col, dd, k0, k1, k2, k3, k5, _, BF, hC, hbm⟩ := T.cls
  refine wpAny_Call_Name_kw (ld_glob I hg hm ?_ hdb)
  refine PySem.W.callWith_K (h₀ := X.base) I.ok.mod.kin T.kC (thn (ha.run pos pins s σ H _ I h) fun us s1 ⟨vs, H1, I1, r1, hz, q1⟩ => ⟨I1.kIn, ?_⟩) he hpl
  show wpAny _ _ (call (.ref C) us) _ _ _
  obtain ⟨h0, gs, dr, tn, os⟩ := s1
  have up : h0.objs.size ≤ h0.objs.size + 1 := Nat.le_succ _
  have hq := q1 (h0.objs.size + 1) (I1.hok.fresh up)
  rw [List.append_nil] at hq
  have kk : ∀ b o, h0.get? b = some o → ((h0.push (PySem.W.kdv_tup us)).push (PySem.HandSPX.excO C h0.objs.size)).get? b = some o := fun b o z => Heap.get?_push_of_some _ (Heap.get?_push_of_some _ z)
  have there : ((h0.push (PySem.W.kdv_tup us)).push (PySem.HandSPX.excO C h0.objs.size)).get? (h0.objs.size + 1) = some (PySem.HandSPX.excO C h0.objs.size) := by heap_get
  have I2 : Inv X pins σ (upd H1 (h0.objs.size + 1) (exo (h0.objs.size + 1) C none)) ⟨(h0.push (PySem.W.kdv_tup us)).push (PySem.HandSPX.excO C h0.objs.size), gs, dr, tn, os⟩ := I1.laid (t' := tn) kk up (exo_ok there)
  have r2 : Vals (V.ref (h0.objs.size + 1) :: vs) (Value.ref (h0.objs.size + 1) :: us) := .cons rfl r1
  have hus : us.length ≤ sizeLine := by rw [← Paired.length r1, sizeLine_eq]; omega
  refine wpAny_call (PySem.HandSPX.call_own BF (fun Y => PySem.W.excTail_contains Y bm hbm) (I1.kIn _ _ hC) (PySem.W.looks_findIn I1.kIn iC) (fun self => PySem.W.bind_fn I1.kIn self tI) hus ?_)
  refine codeAny_mono (F1 _ X.stack _ _ (Value.ref (h0.objs.size + 1) :: us) _ _ (fun _ _ _ => False) (hr.make C us []) (I2.env0.make C us []) r2 hq) fun r s' hq' => ?_
  cases r with
  | error er => exact hx pins σ _ _ er s' I2 hq'
  | ok fl =>
    cases fl with
    | ret u =>
      obtain ⟨v, H2, os2, bare2, un2, hok2, rv, ev, d, fs, ea, ed, hd1, q2⟩ := hq'
      subst ev
      obtain ⟨h2, g2, d2, t2, os'⟩ := s'
      exact ⟨rv, mk_end (raises_own T.exC T.tyC) I1 up kk un2 hok2 os2 bare2 ea ed hd1 q2⟩
    | next => exact False.elim hq'
    | brk => exact False.elim hq'
    | cont => exact False.elim hq'
end
end L2
namespace U
open PySem PySem.Spec PyProof.Rows L2 StX
section
variable {P : Program} {w : World} {K : PySem.W.Frag} {mg : Str → Option Value} {base : Heap}
/-- a def that may raise -/
theorem FnAt.okX {x qual : Str} {st : Stmt} {f : Addr} {N ps : List Str} {k : Nat} {sp : Sp} (A : FnAt K x qual st f ps) (S : FnScope N ps (defScope st)) (len : ∀ vs H Q E, sp vs H Q E → vs.length = ps.length)
    (hbody : ∀ (cdv : Value) (A : Around) (outer : List Env) (s : Shared) (H : Hp) (vs : List V) (Q : VK) (E : XK), Room k (A.deeper (envOfC qual (defScope st) s.heap.objs.size f cdv)) → sp vs H Q E →
      ∃ t, PSs (cxOf (L2.CX P w) P w K mg base N qual (defScope st) f cdv A outer s H E) (defBody st) t ∧ t { nx := fun _ H' => Q .non H', rt := Q } (start N vs) H) : FnR P w K mg base (L2.CX P w) (k + 1) f sp := by
  obtain ⟨fd, F, B⟩ := A.ex
  have R := (F.okX (P := P) (w := w) (mg := mg) (base := base) S len hbody).raw B .nil
  exact R.imp fun vs H Q E h => by rw [List.append_nil]; exact h
end
section
variable {X : Cx} {CX : CXT} {pins : List (Addr × Obj)} {σ : L2.St} {H : Hp} {s : Shared} {a C dx p g f : Addr} {n k : Nat} {sp : Sp} {E : L2.St → XK} {v : V} {u : Value} {x : Str} {e ea eb : Expr} {es : List Expr} {ta tb : TE} {t : TA} {pp pos : Pos}
theorem run_RS {Q : VK} {us : List Value} {vs : List V} {E : XK} (F : FnR X.prog X.w X.K X.mg X.base CX k f sp) (hr : Room k X.A) (hx : PassesAt CX X σ E) (I : Inv X pins σ H s) (r : Vals vs us) (h : sp vs H Q E) :
    codeAny (model X.prog X.w) X.A (.call (.ref f) ⟨us, []⟩) (fun r s' => match r with | .ok (.ret v) => EP X pins σ Q v s' | .ok _ => False | .error e => X.xe e s') s := by
  refine codeAny_mono (F X.A X.stack s H us vs Q E hr I.env0 r h) fun z s' hq => ?_
  match z, hq with
  | .error er, hq => exact hx pins H s er s' I hq
  | .ok (.ret w), hq => exact I.after hq
  | .ok .next, hq => exact hq.elim
  | .ok .brk, hq => exact hq.elim
  | .ok .cont, hq => exact hq.elim
end
/-- isinstance(e, c), e the error that the suite holds, with its dict -/
def rIsG (K : PySem.W.Frag) (D a dd : Addr) : List V → Hp → VK → Prop := fun xs H Q => ∃ (c : V) (cv : Value) (b : Bool) (fs : List (Str × V)), xs = [.ref a, c] ∧ (∀ u, RelV c u → u = cv) ∧ PySem.W.kitOne K (.ref D) cv = some b ∧ H dd = some (.xd fs) ∧ Q (.bl b) H
theorem call_isG {X : Cx} {a D dd : Addr} {oe : Obj} {pn : List (Addr × Obj)} (C : ExcC X.K D) (hz : Zc (.ref D) (some dd) oe) (hf : ∃ vs, oe.data = .fields vs) : CallR (X.suite a ((a, oe) :: pn)) (.builtin "isinstance") (rIsG X.K D a dd) := by
  intro pins s σ H xs us Q I r h
  obtain ⟨c, cv, b, fs, rfl, hcv, e, ed, q⟩ := h
  match us, r with
  | [_, _], .cons rx (.cons rt .nil) =>
    cases rx
    cases hcv _ rt
    obtain ⟨there, _⟩ := I.pin (a, oe) (List.mem_append.mpr (.inl List.mem_cons_self))
    obtain ⟨vs, hv⟩ := hf
    obtain ⟨mA, hns, _⟩ := I.hok dd _ ed
    obtain ⟨od, ho, _⟩ := lookIn_ns hns
    have J : PySem.W.InstAt s.heap a oe D (some od) := ⟨there, hz.1, by unfold PySem.W.notCls; rw [hv] <;> rfl, by rw [hz.2]; exact ho⟩
    have hcl : (PySem.W.clsIn X.K D).isSome = true := by
      obtain ⟨cd, hc, _⟩ := PySem.W.any_some C.hd
      rw [hc]; rfl
    exact PySem.W.kia_one (PySem.W.kitx_exc hcl C.hg C.hk C.hs C.ha C.hn C.ht C.hm) I.kIn J e (fun z => nomatch z) fun tk => ⟨.bl b, H, I.kept (t' := tk) fun _ _ z => z, rfl, q⟩
end U
namespace U
open PySem PySem.Spec PyProof.Rows L2 StX
end U
namespace U
open PySem PySem.Spec PyProof.Rows L2
section
variable {P : Program} {w : World} {K : PySem.W.Frag} {mg : Str → Option Value} {base : Heap}
/-- a def that may raise, called where it does not -/
theorem fnR_calm {k : Nat} {f : Addr} {sp : Sp} (F : FnR P w K mg base (L2.CX P w) k f sp) : FnR P w K mg base CX0 k f (fun vs H Q _ => sp vs H Q E0) := by
  intro A outer s H us vs Q E hr e0 r h
  refine codeAny_mono (F A outer s H us vs Q E0 hr e0 r h) fun r s' hq => ?_
  cases r with
  | error e =>
    obtain ⟨_, _, _, _, _, _, _, _, _, _, _, _, z⟩ := hq
    exact z.elim
  | ok fl => cases fl <;> exact hq
end
/-! ### own errors with one or two fields -/
def spIni1 (C : Addr) (f : Str) : Sp := fun vs H Q _ => ∃ (a : Addr) (v : V), vs = [.ref a, v] ∧ H a = some (exo a C none) ∧ ∀ dx, H dx = none → dx ≠ a → Q .non (upd (upd H dx (exd dx [(f, v)])) a (exo a C (some dx)))
theorem mk_one {C : Addr} {f : Str} {v : V} {H : Hp} {Q : XK} (h : ∀ d, H d = none → Q (.ref C) (some d) (upd H d (.xd [(f, v)]))) :
    [v].length ≤ 1000 ∧ ∀ a, H a = none → spIni1 C f (.ref a :: ([v] ++ [])) (upd H a (exo a C none))
      (fun z H2 => z = .non ∧ ∃ (d : Addr) (fs : List (Str × V)), H2 a = some (exo a C (some d)) ∧ H2 d = some (exd d fs) ∧ H d = none ∧ Q (.ref C) (some d) (upd (del H2 a) d (.xd fs))) (fun _ _ _ => False) := by
  refine ⟨(by show 1 ≤ 1000; decide), fun a ha => ⟨a, v, rfl, upd_same, fun dx hd ne => ⟨rfl, dx, [(f, v)], upd_same, ?_, ?_, ?_⟩⟩⟩
  · rw [upd_ne ne, upd_same]
  · rw [upd_ne ne] at hd; exact hd
  · rw [upd_ne ne] at hd
    have e : upd (del (upd (upd (upd H a (exo a C none)) dx (exd dx [(f, v)])) a (exo a C (some dx))) a) dx (.xd [(f, v)]) = upd H dx (.xd [(f, v)]) := by
      funext b
      by_cases h1 : b = dx
      · subst h1; rw [upd_same, upd_same]
      · rw [upd_ne h1, upd_ne h1]
        by_cases h2 : b = a
        · subst h2
          rw [ha]
          unfold del
          simp
        · unfold del
          simp only [h2, if_false]
          rw [upd_ne h2, upd_ne h1, upd_ne h2]
    rw [e]
    exact h dx hd
end U
namespace U
open PySem PySem.Spec PyProof.Rows L2
/-- isinstance(e, c), e the error that the suite holds; its class told by the reading -/
def rIsH (K : PySem.W.Frag) (D a : Addr) (cls : Value) (d : Option Addr) : List V → Hp → VK → Prop := fun xs H Q => ∃ dd, cls = .ref D ∧ d = some dd ∧ rIsG K D a dd xs H Q
theorem call_isH {X : Cx} {a D : Addr} {cls : Value} {d : Option Addr} {oe : Obj} {pn : List (Addr × Obj)} (C : ExcC X.K D) (hz : Zc cls d oe) (hf : ∃ vs, oe.data = .fields vs) : CallR (X.suite a ((a, oe) :: pn)) (.builtin "isinstance") (rIsH X.K D a cls d) := by
  intro pins s σ H xs us Q I r h
  obtain ⟨dd, rfl, rfl, h⟩ := h
  exact call_isG C hz hf pins s σ H xs us Q I r h
end U
namespace U
open PySem PySem.Spec PyProof.Rows L2 StX
/-! ### defs that are called where no repr runs around them -/
def FnG (P : Program) (w : World) (K : PySem.W.Frag) (mg : Str → Option Value) (base : Heap) (CX : CXT) (k : Nat) (f : Addr) (sp : Sp) : Prop :=
  ∀ (A : Around) (outer : List Env) (s : Shared) (H : Hp) (us : List Value) (vs : List V) (Q : VK) (E : XK), A.guards = some [] → Room k A → Env0 P w K mg base A outer s H → Vals vs us → sp vs H Q E → codeAny (model P w) A (.call (.ref f) ⟨us, []⟩) (CR CX outer P w H s Q E) s
section
variable {P : Program} {w : World} {K : PySem.W.Frag} {mg : Str → Option Value} {base : Heap} {CX : CXT} {j k : Nat} {f : Addr} {sp sp' : Sp}
theorem FnG.mono (F : FnG P w K mg base CX j f sp) (h : j ≤ k) : FnG P w K mg base CX k f sp := fun A outer s H us vs Q E g hr => F A outer s H us vs Q E g (hr.mono h)
theorem FnG.imp (F : FnG P w K mg base CX k f sp) (h : ∀ vs H Q E, sp' vs H Q E → sp vs H Q E) : FnG P w K mg base CX k f sp' := fun A outer s H us vs Q E g hr e0 r z => F A outer s H us vs Q E g hr e0 r (h _ _ _ _ z)
/-- the body's walk, with what is around -/
theorem bodyG {x qual : Str} {st : Stmt} {fd : FuncData} {N ps : List Str} (F : Fun K x qual st f fd) (S : FnScope N ps (defScope st)) (len : ∀ vs H Q E, sp vs H Q E → vs.length = ps.length)
    (hbody : ∀ (cdv : Value) (A : Around) (outer : List Env) (s : Shared) (H : Hp) (vs : List V) (Q : VK) (E : XK), A.guards = some [] → Room k (A.deeper (envOfC qual (defScope st) s.heap.objs.size f cdv)) → sp vs H Q E →
      ∃ t, PSs (cxOf CX P w K mg base N qual (defScope st) f cdv A outer s H E) (defBody st) t ∧ t { nx := fun _ H' => Q .non H', rt := Q } (start N vs) H)
    (A : Around) (outer : List Env) (s : Shared) (H : Hp) (args : Args) (us : List Value) (vs : List V) (Q : VK) (E : XK) (g : A.guards = some []) (hr : Room (k + 1) A) (e0 : Env0 P w K mg base A outer s H) (hb : BindsTo s fd args (ps.zip us)) (r : Vals vs us) (hs : sp vs H Q E) :
    codeAny (model P w) A (.call (.ref f) args) (CR CX outer P w H s Q E) s := by
  obtain ⟨oc, od, kV, doc, pm, an, cdv, ct, osl, rfl, lk, hcd⟩ := F.ex
  have hl := len _ _ _ _ hs
  have kin : K.In s.heap := e0.mod.kin.keeps fun b o e => (e0.bs b o e).1
  have lim : s.heap.NoLimit := e0.mod.nolimit.keeps fun b o e => (e0.bs b o e).1
  have names : ∀ y ∈ ps.zip us, (defScope st).names.lookup y.1 = some .local ∨ ((defScope st).names.lookup y.1 = some .cell ∧ ((cellsFrom (s.heap.objs.size + 1) (defScope st).names []).lookup y.1).isSome = true) := by
    rintro ⟨n, v⟩ hy
    rcases S.par n (List.of_mem_zip hy).1 with q | q
    · exact .inl q
    · exact .inr ⟨q, PySem.W.cellsFrom_some _ _ _ (.inl q)⟩
  refine codeAny_call_function hr.depth (kin _ _ lk) rfl S.co S.gen rfl (PySem.W.codeRec_of kin hcd) (hb _ _ _ _ ?_)
  refine wpAny_newFunctionEnv_cells S.kind names fun env he s1 z => ?_
  subst he
  refine ⟨lim.keeps z.toInCall.keep, codeAny_func ?_⟩
  obtain ⟨t, ht, hq⟩ := hbody cdv A outer s H vs Q E g (hr.deeper _) hs
  have I : Inv (cxOf CX P w K mg base N qual (defScope st) f cdv A outer s H E) [] (start N vs) H s1 := inv_start S hr.hd e0 hl r z
  refine wpAny_mono (ht.run [] s1 (start N vs) H _ I hq) (fun fl s' h' => ?_) fun _ _ h' => h'
  match fl, h' with
  | .ret u, ⟨v, σ', H', J, rv, q⟩ => exact ⟨v, H', J.os, J.bare, J.base, J.hok, rv, q⟩
  | .next, ⟨σ', H', J, q⟩ => exact ⟨.non, H', J.os, J.bare, J.base, J.hok, rfl, q⟩
  | .brk, ⟨_, _, _, q⟩ => exact q.elim
  | .cont, ⟨_, _, _, q⟩ => exact q.elim
theorem FnAt.okG {x qual : Str} {st : Stmt} {N ps : List Str} (B : FnAt K x qual st f ps) (S : FnScope N ps (defScope st)) (len : ∀ vs H Q E, sp vs H Q E → vs.length = ps.length)
    (hbody : ∀ (cdv : Value) (A : Around) (outer : List Env) (s : Shared) (H : Hp) (vs : List V) (Q : VK) (E : XK), A.guards = some [] → Room k (A.deeper (envOfC qual (defScope st) s.heap.objs.size f cdv)) → sp vs H Q E →
      ∃ t, PSs (cxOf CX0 P w K mg base N qual (defScope st) f cdv A outer s H E).nox (defBody st) t ∧ t { nx := fun _ H' => Q .non H', rt := Q } (start N vs) H) : FnG P w K mg base CX0 (k + 1) f sp := by
  obtain ⟨fd, F, bi⟩ := B.ex
  intro A outer s H us vs Q E g hr e0 r hs
  have hl : (us ++ []).length = ps.length := by rw [List.append_nil, ← r.length]; exact len _ _ _ _ hs
  refine bodyG F S len (fun cdv A outer s H vs Q E g hr hs => ?_) A outer s H ⟨us, []⟩ us vs Q E g hr e0 ?_ r hs
  · obtain ⟨t, h, q⟩ := hbody cdv A outer s H vs Q E g hr hs
    exact ⟨t, h.nox, q⟩
  · have := bi s us (e0.mod.kin.keeps fun b o e => (e0.bs b o e).1) hl
    rw [List.append_nil] at this
    exact this
end
end U
namespace U
open PySem PySem.Spec PyProof.Rows L2 StX
end U
namespace U
open PySem PySem.Spec PyProof.Rows L2 StX
/-! ### the law's call, where no repr runs around it -/
end U
namespace U
open PySem PySem.Spec PyProof.Rows L2 StX
theorem opR_or {X : Cx} {f : Value → Value → Sem Value} {r1 r2 : R2} (h1 : OpR X f r1) (h2 : OpR X f r2) : OpR X f (fun x y H Q => r1 x y H Q ∨ r2 x y H Q) := by
  intro pins s σ H x y v u Q I rx ry h
  rcases h with h | h
  · exact h1 pins s σ H x y v u Q I rx ry h
  · exact h2 pins s σ H x y v u Q I rx ry h
/-! ### defs called while an exception is handled -/
end U
namespace U
open PySem PySem.Spec PyProof.Rows L2 StX
/-- o.m(e, ..), what it raises told by the slots -/
def tMethRS (C : Addr) (m : Str) (sp : Sp) (E : L2.St → XK) (ta : TE) (t : TA) : TE := fun σ H Q => ta σ H fun x H1 => ∃ a dx fs, x = .ref a ∧ H1 a = some (.ins C dx fs) ∧ fs.lookup m = none ∧ t σ H1 fun vs H2 => sp (x :: vs) H2 Q (E σ)
theorem pe_methRS {X : Cx} {CX : CXT} {k : Nat} {C f : Addr} {m : Str} {sp : Sp} {E : L2.St → XK} {o e : Expr} {es : List Expr} {ta : TE} {t : TA} {apos pos : Pos} {pl : Sem Bool} (he : PE X o ta) (c : Cls X.K C) (hm : Meth X.K C m f)
    (F : FnR X.prog X.w X.K X.mg X.base CX k f sp) (hr : Room k X.A) (hx : ∀ σ, PassesAt CX X σ (E σ)) (ha : PA X (e :: es) t)
    (hst : starEach (e :: es) X.env = (false, eval e X.env) :: starEach es X.env := by rfl) (hpl : (backTo pos (starEach es X.env)).any (·.1) = false := by rfl)
    (ht : eval (.Call (.Attribute o m apos) (e :: es) [] pos) X.env = (do
        let ov ← eval o X.env
        standAt apos.atName
        let (f, first) ← holding [ov] (getMethod ov m pl)
        callWith pos f first (backTo pos (starEach (e :: es) X.env)) (backToKw pos (keywordEach [] X.env))) := by rfl) :
    PE X (.Call (.Attribute o m apos) (e :: es) [] pos) (tMethRS C m sp E ta t) := by
  refine ⟨fun pins s σ H Q I h => PySem.W.methodCall_KW (pl := pl) (thn (he.run pins s σ H _ I h) fun u s1 ⟨x, H1, I1, rx, a, dx, fs, ex, ea, l, q⟩ => ?_) ht⟩
  subst ex
  cases (show u = Value.ref a from rx)
  refine getmeth_ok I1 ea c hm l (PySem.W.callWith_K (first := [.ref a]) (h₀ := X.base) I.ok.mod.kin hm.kp (thn (ha.run pos pins s1 σ H1 _ I1 q) fun us s2 ⟨vs, H2, I2, r, q2⟩ => ⟨I2.kIn, ?_⟩) hst hpl)
  exact wpAny_call (run_RS (us := .ref a :: us) (vs := .ref a :: vs) F hr (hx σ) I2 (.cons rfl r) q2)
end U
namespace U
open PySem PySem.Spec PyProof.Rows L2 StX
end U
namespace U
open PySem PySem.Spec PyProof.Rows L2 StX PySem.W
end U
namespace U
open PySem PySem.Spec PyProof.Rows L2 StX
/-! ### x op i, the class's own, i an int -/
/-! ### list(d.items()), the dict locked or not -/
end U
namespace U
open PySem PySem.Spec PyProof.Rows L2
/-! ### several clauses 'except x as n' -/
/-- what the clauses wish of an exception of the body, one after the other: class, slot of the name, suite -/
def wManyA (K : PySem.W.Frag) (Wout : WX) (D : Ends) : List (Value × Nat × (Addr → Value → Option Addr → TS)) → WX
  | [] => Wout
  | (c, i, ts) :: r => fun cls d σ H => ∃ b, PySem.W.exmOne K cls c = some b ∧
      (b = true → ∀ a, H a = none → ts a cls d { nx := fun σ' H' => D.nx (σ'.set i none) H', rt := D.rt, bk := fun σ' H' => D.bk (σ'.set i none) H', ct := fun σ' H' => D.ct (σ'.set i none) H' } (σ.set i (some (.ref a))) H) ∧
      (b = false → wManyA K Wout D r cls d σ H)
inductive HdsA (X : Cx) : List ExceptHandler → List (Value × Nat × (Addr → Value → Option Addr → TS)) → Prop
  | nil : HdsA X [] []
  | cons {x n : Str} {c : Value} {i : Nat} {ts : Addr → Value → Option Addr → TS} {b₀ : Stmt} {suite : List Stmt} {np pos' : Pos} {hds : List ExceptHandler} {l : List (Value × Nat × (Addr → Value → Option Addr → TS))} (hi : X.N[i]? = some n) (hln : X.env.kindOf n = some .local) (hc : Names X x c)
      (hsu : ∀ (a : Addr) (oe : Obj) (cls : Value) (d : Option Addr) (pn : List (Addr × Obj)), Zc cls d oe → (∃ vs, oe.data = .fields vs) → PSs (X.suite a ((a, oe) :: pn)) (b₀ :: suite) (ts a cls d)) (r : HdsA X hds l) :
      HdsA X (.ExceptHandler (some (.Name x np)) (some n) (b₀ :: suite) pos' :: hds) ((c, i, ts) :: l)
theorem ps_try_manyA {X : Cx} {body : List Stmt} {h₀ : ExceptHandler} {hds : List ExceptHandler} {l : List (Value × Nat × (Addr → Value → Option Addr → TS))} {pos : Pos} {tb : WX → TS} {Wout : WX}
    (hs : X.stack = X.env :: X.outer) (hf : X.env.frame = some X.env.locals) (hN : X.N.Nodup) (tk : Takes X Wout)
    (hb : ∀ (W : WX) (pn : List (Addr × Obj)) (xe : Value → Shared → Prop), Takes (X.tr pn xe) W → PassesOwn (model X.prog X.w) X.A X.env xe → PSs (X.tr pn xe) body (tb W))
    (hh : HdsA X (h₀ :: hds) l) : PS X (.Try body (h₀ :: hds) [] [] pos) (fun D σ H => tb (wManyA X.K Wout D l) D σ H) := by
  refine ⟨fun pins s σ H D I h => ?_⟩
  have ok := I.ok
  have hfr : X.A.frames = some (X.env :: X.outer) := by rw [ok.frames, hs]
  refine wpAny_Try_except ?_
  refine wpAny_mono ((hb (wManyA X.K Wout D l) (X.pn ++ pins) (fun e s₁ => wpAny (model X.prog X.w) X.A (noteFrame e X.env) (fun _ s₂ => wpAny (model X.prog X.w) X.A (setFlight e none) (fun _ s₃ =>
    wpAny (model X.prog X.w) X.A (handleBy e X.env (h₀ :: hds)) (SP X pins D) X.xe s₃) X.xe s₂) X.xe s₁) (fun u s' xx => ?_) PassesOwn.looking).run [] s σ H D (I.toTry _) h) (fun f s1 hsp => ?_) (fun e s1 he => he)
  · obtain ⟨a, B, sI, pins', σ', H', cls, d, rfl, J', nb, up, sky, na, os, ag, w⟩ := xx
    have J : Inv X pins σ' H' sI := J'.ofTry ok
    have sky' : Sky B (X.env :: X.outer) a (Zc cls d) X.env.locals s'.heap := by rw [← hs]; exact sky
    show wpAny (model X.prog X.w) X.A (noteFrame (.ref a) X.env) _ _ _
    refine Sky.land Zc.steady hfr hf sky' fun h3 fl3 up3 => ?_
    have J3 : Inv X pins σ' H' { s' with heap := h3 } := J.landed nb fl3.1 (up.trans up3) os ag
    obtain ⟨oe3, vs3, he3, hz3, hd3⟩ := fl3.there
    have notFr : ∀ {h : Heap} {o : Obj} {vs : Array Value}, h.FunFrames B (X.env :: X.outer) → h.get? a = some o → o.data = .fields vs → a ∉ frs (X.env :: X.outer) := fun {h o vs} ff e dd hm => by
      obtain ⟨_, o', e', hnf⟩ := ff.mem hm
      rw [e] at e'; cases e'
      exact hnf _ dd
    have nfr := notFr fl3.2.2.1 he3 hd3
    have nL : a ≠ X.env.locals := fun z => nfr (List.mem_filterMap.mpr ⟨X.env, List.mem_cons_self, by rw [hf, z]⟩)
    have nF : a ∉ X.fs := fun hm => by
      obtain ⟨e, he, q⟩ := List.mem_filterMap.mp hm
      exact nfr (List.mem_filterMap.mpr ⟨e, List.mem_cons_of_mem _ he, q⟩)
    have S3 := J3.suite he3 hd3 na nL nF
    have go : ∀ {hds' : List ExceptHandler} {l' : List (Value × Nat × (Addr → Value → Option Addr → TS))}, HdsA X hds' l' → wManyA X.K Wout D l' cls d σ' H' →
        wpAny (model X.prog X.w) X.A (handleBy (.ref a) X.env hds') (SP X pins D) X.xe { s' with heap := h3 } := by
      intro hds' l' hk
      induction hk with
      | nil =>
        intro w
        refine wpAny_handleBy_nil ?_
        obtain ⟨k1, k2, k3, oe, vs, T, oT, ts', he, hz, hd, h1, hr⟩ := id fl3
        unfold PySem.passOn
        refine wpAny_bind (wpAny_field he hd h1 ?_)
        rw [if_neg (show ¬ ((Value.ref T == Value.none) = true) from by simp)]
        have fin : wpAny (model X.prog X.w) X.A (setFlight (.ref a) X.env.frame) (fun _ s4 => wpAny (model X.prog X.w) X.A (throw (.ref a) : Sem Flow) (SP X pins D) X.xe s4) X.xe { s' with heap := h3 } := by
          rw [hf]
          refine HandSPX.setFlight_upZ fl3 fun h4 hh4 up4 => wpAny_throw (tk _ _ ?_)
          exact ⟨a, B, sI, pins, σ', H', cls, d, rfl, J, nb, (up.trans up3).trans up4, .inr (.inr (by rw [hs]; exact hh4)), na, os, ag, w⟩
        first
          | exact wpAny_bind (wpAny_pure (wpAny_bind fin))
          | exact wpAny_bind fin
      | @cons x n c i ts b₀ suite np pos' hds2 l2 hi hln hc hsu r ih =>
        intro w
        obtain ⟨b, hb1, hyes, hno⟩ := w
        have hloc : Loc X.env.scope n := .inl hln
        refine wpAny_handleBy_cons (codeAny_handlers_test ?_) (by intro q; cases q)
        have LT : PySem.W.Looks (model X.prog X.w) h3 (typeOf (.ref a)) cls := fun A Q E s k q => wpAny_typeOf_ref (k _ _ he3) (by rw [hz3.1]; exact q)
        have LM := PySem.W.exm_one (M := model X.prog X.w) (J3.kIn) LT hb1
        have test : ∀ {Q : Value → Shared → Prop} {E : Value → Shared → Prop}, Q c { s' with heap := h3 } → wpAny (model X.prog X.w) (X.A.mark (some (.ref a))) (eval (.Name x np) X.env) Q E { s' with heap := h3 } := fun {Q E} q => by
          obtain ⟨hg, hdbg, hm | ⟨hm, hv, hnn⟩⟩ := hc
          · exact ld_glob (X := X.suite a ((a, oe3) :: (X.pn ++ pins))) S3 hg hm q hdbg
          · exact ld_blt (X := X.suite a ((a, oe3) :: (X.pn ++ pins))) S3 hg hm hv q hnn hdbg
        refine test (LM.here ?_)
        cases b with
        | true =>
          refine codeAny_handlers_suite_as ?_
          refine HandSPX.lands_againZ fl3 fun h4 fl4 up4 => ?_
          have J4 : Inv X pins σ' H' { s' with heap := h4 } := J.landed nb fl4.1 ((up.trans up3).trans up4) os ag
          obtain ⟨oe4, vs4, he4, hz4, hd4⟩ := fl4.there
          have S4 := J4.suite he4 hd4 na nL nF
          refine store_ok (X := X.suite a ((a, oe4) :: (X.pn ++ pins))) (v := .ref a) S4 hN hi hloc rfl (fun s5 S5 => ?_) (.inr hln)
          refine wpAny_mono ((hsu a oe4 cls d (X.pn ++ pins) hz4 ⟨_, hd4⟩).run [] s5 _ H' _ S5 (hyes rfl a na)) (fun f s6 hsp => ?_) (fun _ _ z => False.elim z)
          have end_ : ∀ {σ6 : L2.St} {H6 : Hp} {Q : Shared → Prop}, Inv (X.suite a ((a, oe4) :: (X.pn ++ pins))) [] σ6 H6 s6 → (∀ s7, Inv X pins (σ6.set i none) H6 s7 → Q s7) →
              wpAny (model X.prog X.w) X.A (do bindName X.env n .none; unbindBehindTheSuite X.env n pos') (fun _ s7 => Q s7) X.xe s6 := fun {σ6 H6 Q} S6 hq => gone_ok (S6.unsuite ok) hN hi hln hq
          cases f with
          | next =>
            obtain ⟨σ6, H6, S6, q6⟩ := hsp
            exact end_ S6 fun s7 J7 => ⟨_, _, J7, q6⟩
          | brk =>
            obtain ⟨σ6, H6, S6, q6⟩ := hsp
            exact end_ S6 fun s7 J7 => ⟨_, _, J7, q6⟩
          | cont =>
            obtain ⟨σ6, H6, S6, q6⟩ := hsp
            exact end_ S6 fun s7 J7 => ⟨_, _, J7, q6⟩
          | ret u =>
            obtain ⟨v6, σ6, H6, S6, r6, q6⟩ := hsp
            exact end_ S6 fun s7 J7 => ⟨_, _, _, J7, r6, q6⟩
        | false =>
          show wpAny _ X.A (handleBy (.ref a) X.env hds2) _ _ _
          exact ih (hno rfl)
    exact go hh w
  · cases f with
    | next =>
      obtain ⟨σ', H', J', q⟩ := hsp
      exact wpAny_execs_nil ⟨σ', H', J'.ofTry ok, q⟩
    | brk =>
      obtain ⟨σ', H', J', q⟩ := hsp
      exact ⟨σ', H', J'.ofTry ok, q⟩
    | cont =>
      obtain ⟨σ', H', J', q⟩ := hsp
      exact ⟨σ', H', J'.ofTry ok, q⟩
    | ret u =>
      obtain ⟨v, σ', H', J', r, q⟩ := hsp
      exact ⟨v, σ', H', J'.ofTry ok, r, q⟩
end U
namespace U
open PySem L2
/-! ### facts of heaps, for the search -/
theorem carry {H H' : Hp} {a : Addr} {o : HO} (s : L2.Same H H') (h : H a = some o) : H' a = some o := s a o h
theorem carryNew {H : Hp} {p a : Addr} {o u : HO} (hp : H p = none) (h : H a = some u) : upd H p o a = some u := (Same.new hp) a u h
theorem freeUp {H : Hp} {p q : Addr} {o : HO} (h : upd H q o p = none) : H p = none := by
  by_cases e : p = q
  · subst e; rw [upd_same] at h; cases h
  · rw [upd_ne e] at h; exact h
theorem freeVia {H H' : Hp} {p : Addr} (s : L2.Same H H') (h : H' p = none) : H p = none := s.free h
theorem sameUp {H H1 : Hp} {p : Addr} {o : HO} (hp : H1 p = none) (s : L2.Same H H1) : L2.Same H (upd H1 p o) := s.trans (Same.new hp)
theorem sameVia {H H1 H2 : Hp} (b : L2.Same H1 H2) (a : L2.Same H H1) : L2.Same H H2 := a.trans b
theorem upd_facts {H H1 : Hp} {p : Addr} {o : HO} (h : upd H p o = H1) (n : H p = none) : L2.Same H H1 ∧ H1 p = some o := by
  subst h
  exact ⟨Same.new n, upd_same⟩
theorem nil_le : ([] : List V).length ≤ sizeLine := by decide
theorem one_le {a : V} : [a].length ≤ sizeLine := by show 1 ≤ sizeLine; decide
theorem two_le {a b : V} : [a, b].length ≤ sizeLine := by show 2 ≤ sizeLine; decide
theorem three_le {a b c : V} : [a, b, c].length ≤ sizeLine := by show 3 ≤ sizeLine; decide
theorem le_line {n : Nat} (h : n ≤ 100000) : n ≤ sizeLine := Nat.le_trans h (by decide)
theorem lt_line {n : Nat} (h : n ≤ 100000) : n < sizeLine := Nat.lt_of_le_of_lt h (by decide)
end U
namespace U
open PySem PySem.Spec PyProof.Rows L2 GQ PySem.SeqAt MeetsSeq MeetsSeq2 MeetsSeq3 SeqRoads2
open AutoSeq1 (wpAny_loadPart')
section
variable {prog : Program} {w : World} {A : Around} {R : Result → Shared → Prop}
/-- the two lists are equal item by item: != ends False -/
theorem ne_loop (l b : Addr) (N : Nat) (J : Nat → Shared → Prop) (step : ListI prog w A (fun e s' => R (.error e) s') l b N J) (done : ∀ s, J N s → R (.ok (.ret (.bool false))) s) :
    ∀ (left i : Nat), N - i = left → i ≤ N → ∀ s, J i s → wpAny (model prog w) A.in1 (Builtin.«list.__eq__.loop» ⟨[.ref l, .ref b, rawInt i, rawInt 3], []⟩) (FinOf prog w A R) (fun e s' => R (.error e) s') s := by
  intro left
  induction left with
  | zero =>
    intro i e1 e2 s j
    obtain ⟨its, its2, m, m2, g1, g2, z1, z2, _⟩ := step _ _ j
    have ei : i = N := by omega
    have out : R (.ok (.ret (.bool false))) s := done s (ei ▸ j)
    obtain ⟨hp, g, d, tk, os⟩ := s
    wp_walk using wpAny_loadPart' g1, wpAny_loadPart' g2
    have n1 : its[((i : Nat) : Int).toNat]? = none := by simp; omega
    have n2 : its2[((i : Nat) : Int).toNat]? = none := by simp; omega
    rw [n1, n2]
    wp_walk using wpAny_loadPart' g1, wpAny_loadPart' g2
    show R (.ok (.ret (.bool (its.size != its2.size)))) _
    rw [z1, z2]
    simpa using out
  | succ left ih =>
    intro i e1 e2 s j
    obtain ⟨its, its2, m, m2, g1, g2, z1, z2, turn⟩ := step _ _ j
    have l1 : i < its.size := by omega
    have l2 : i < its2.size := by omega
    have tn := turn l1 l2
    obtain ⟨hp, g, d, tk, os⟩ := s
    wp_walk using wpAny_loadPart' g1, wpAny_loadPart' g2
    have s1 : its[((i : Nat) : Int).toNat]? = some its[i] := by simp [l1]
    have s2 : its2[((i : Nat) : Int).toNat]? = some its2[i] := by simp [l2]
    have nx : ((i : Int) + 1) = ((i + 1 : Nat) : Int) := by omega
    rw [s1, s2]
    refine wpAny_bind (wpAny_mono tn (fun r s' h' => ?_) fun _ _ x => x)
    obtain ⟨rfl, j'⟩ := h'
    have again := ih (i + 1) (by omega) (by omega) s' j'
    obtain ⟨hp', g', d', tk', os'⟩ := s'
    wp_walk
    rw [nx]
    refine ⟨plainId_quiet plain_eq_loop _, codeAny_builtin entry_eq_loop ?_⟩
    rw [Around.under_plainId plain_eq_loop _]
    exact again
theorem ne_list (l b : Addr) (N : Nat) (J : Nat → Shared → Prop) (step : ListI prog w A (fun e s' => R (.error e) s') l b N J) (done : ∀ s, J N s → R (.ok (.ret (.bool false))) s) {s : Shared} (j : J 0 s) :
    wpAny (model prog w) A.in1 (Builtin.«list.__ne__» ⟨[.ref l, .ref b], []⟩) (FinOf prog w A R) (fun e s' => R (.error e) s') s := by
  obtain ⟨its, its2, m, m2, g1, g2, z1, z2, _⟩ := step _ _ j
  have loop := ne_loop (A := A) (R := R) l b N J step done _ 0 rfl (Nat.zero_le _) s j
  obtain ⟨hp, g, d, tk, os⟩ := s
  have sub := AutoSeq1.sub_list_list
  have same : ¬ (its.size != its2.size) = true := by simp [z1, z2]
  wp_walk using wpAny_loadPart' g1, wpAny_loadPart' g2
  refine ⟨plainId_quiet plain_eq_loop _, codeAny_builtin entry_eq_loop ?_⟩
  rw [Around.under_plainId plain_eq_loop _]
  exact loop
end
theorem rc_neL {prog : Program} {w : World} {A : Around} {E : Value → Shared → Prop} {s : Shared} {l b : Addr} {N : Nat} {Q : Value → Shared → Prop} (hu : A.units < cLine) (J : Nat → Shared → Prop) (step : ListI prog w A E l b N J)
    (done : ∀ s, J N s → Q (.bool false) s) (j : J 0 s) : wpAny (model prog w) A (richCompare .NotEq (.ref l) (.ref b)) Q E s := by
  obtain ⟨its, its2, m, m2, g1, g2, _⟩ := step _ _ j
  refine wpAny_richCompare_same_room (op := .NotEq) ⟨_, g1, rfl⟩ ⟨_, g2, rfl⟩ F.slot_list_ne (call_here F.slot_list_ne ⟨_, g1, rfl⟩ F.entry_list_ne (F.args_list_ne_2 _ _) ?_) hu
  refine ne_list (R := wants (fun v s' => v ≠ .notImplemented ∧ Q v s') E) l b N J step (fun s' q => ⟨?_, done s' q⟩) j
  intro z
  cases z
/-- x != y of two lists whose items are equal, one by one -/
def rNeL (D : Eqv) : R2 := fun x y H Q => DList D x y H ∧ ∀ H', L2.Same H H' → Q (.bl false) H'
theorem op_neL {X : Cx} {n : Nat} {D : Eqv} (mon : Mon D) (eq : EqG X n D) (room : Room (n + 1) X.A) : OpR X (compareOp .NotEq) (rNeL D) := by
  intro pins s σ H x y v u Q I rx ry h
  obtain ⟨⟨a, b, xs, ys, rfl, rfl, ha, hb, prs⟩, q⟩ := h
  cases (show v = Value.ref a from rx)
  cases (show u = Value.ref b from ry)
  have sub : Sub X (n + 1) X.A := ⟨room, rfl⟩
  show wpAny (model X.prog X.w) X.A (richCompare .NotEq (.ref a) (.ref b)) (EP X pins σ Q) X.xe s
  refine rc_neL (N := xs.length) room.units0 (fun _ s' => LoopI X pins σ H s') (fun i s' j => ?_) (fun s' j => ?_) ⟨H, I, Ext.rfl'⟩
  · obtain ⟨H1, I1, e1⟩ := id j
    obtain ⟨_, its, k, r, e⟩ := I1.hok a _ (e1 _ _ ha)
    obtain ⟨_, its2, k2, r2, e2⟩ := I1.hok b _ (e1 _ _ hb)
    refine ⟨its.toArray, its2.toArray, k, k2, e, e2, ?_, ?_, fun h1 h2 => turnG mon eq sub prs r r2 i h1 h2 s' j⟩
    · rw [List.size_toArray, ← r.length]
    · rw [List.size_toArray, ← r2.length, ← prs.1]
  · obtain ⟨H1, I1, e1⟩ := j
    exact ⟨.bl false, H1, I1, rfl, q H1 e1⟩
/-- len(o) by the own __len__ -/
def rLenO (C : Addr) (sp : Sp) (E : XK) : List V → Hp → VK → Prop := fun xs H Q => ∃ a dx fs, xs = [.ref a] ∧ H a = some (.ins C dx fs) ∧ sp [.ref a] H (fun v H' => ∃ i : Int, v = .int i ∧ 0 ≤ i ∧ i < 2 ^ 63 ∧ Q (.int i) H') E
theorem call_lenO {X : Cx} {CX : CXT} {n : Nat} {C g : Addr} {sp : Sp} {E : XK} (hs : PySem.W.findIn X.K (.ref C) "__len__" = some (some (.ref g))) (hf : PySem.W.isFn X.K (.ref g) = true) (F : FnR X.prog X.w X.K X.mg X.base CX n g sp) (hr : Room (n + 1) X.A) (hx : Passes CX X E) : CallR X (.builtin "len") (rLenO C sp E) := by
  intro pins s σ H xs us Q I r h
  obtain ⟨a, dx, fs, rfl, ha, q⟩ := h
  obtain rfl := Vals.ref1 r
  obtain ⟨ox, od, J⟩ := ins_inst I ha
  obtain ⟨m, hF⟩ := I.fr
  refine PySem.W.len_K hF I.ok.mod.kin J hs hf ?_
  refine wpAny_mono (wpAny_call (SlX.run_at (us := [.ref a]) (ws := [.ref a]) F (Room.in1 hr) I.env0.in1 hx I (.cons rfl .nil) q)) (fun w s' z => ?_) fun _ _ x => x
  obtain ⟨z', H', I', rz, i, ez, i0, i1, qz⟩ := z
  subst ez
  obtain ⟨t, ew⟩ : ∃ t, w = Value.int i t := rz
  subst ew
  exact ⟨⟨i0, i1⟩, .int i, H', I'.tok _, ⟨_, rfl⟩, qz⟩
/-! ### defs with a star parameter -/
structure StarAt (K : PySem.W.Frag) (x qual : Str) (st : Stmt) (f : Addr) (ps : List Str) (pv : Str) : Prop where
  ex : ∃ fd, Fun K x qual st f fd ∧ ∀ us rest : List Value, us.length = ps.length → bindArgs fd ⟨us ++ rest, []⟩ = (newTuple rest >>= fun t => pure (ps.zip us ++ [(pv, t)]))
theorem StarAt.kp {K : PySem.W.Frag} {x qual : Str} {st : Stmt} {f : Addr} {ps : List Str} {pv : Str} (A : StarAt K x qual st f ps pv) : PySem.W.keepIn K (.ref f) = true := by
  obtain ⟨_, F, _⟩ := A.ex
  exact F.kp
/-- what is asked of the arguments: the named ones, then a new tuple of the rest -/
def spStar (n : Nat) (sp : Sp) : Sp := fun vs H Q E => ∃ ws rest, vs = ws ++ rest ∧ ws.length = n ∧ rest.length ≤ sizeLine ∧ ∀ p, H p = none → sp (ws ++ [V.ref p]) (upd H p (.tup rest)) Q E
section
variable {P : Program} {w : World} {K : PySem.W.Frag} {mg : Str → Option Value} {base : Heap} {x qual pv : Str} {st : Stmt} {f : Addr} {N ps : List Str} {k : Nat} {sp : Sp}
theorem StarAt.okX (B : StarAt K x qual st f ps pv) (S : FnScope N (ps ++ [pv]) (defScope st))
    (walk : ∀ (cdv : Value) (A : Around) (outer : List Env) (s : Shared) (H : Hp) (vs : List V) (Q : VK) (E : XK), Room k (A.deeper (envOfC qual (defScope st) s.heap.objs.size f cdv)) → sp vs H Q E →
      ∃ t, PSs (cxOf (L2.CX P w) P w K mg base N qual (defScope st) f cdv A outer s H E) (defBody st) t ∧ t { nx := fun _ H' => Q .non H', rt := Q } (start N vs) H) : FnR P w K mg base (L2.CX P w) (k + 1) f (spStar ps.length sp) := by
  obtain ⟨fd, F, hb⟩ := B.ex
  obtain ⟨oc, od, kV, doc, pm, an, cdv, ct, osl, rfl, lk, hcd⟩ := F.ex
  exact StX.fn_star lk hcd S StX.cxUp hb fun A outer s H vs Q E hr h => walk cdv A outer s H vs Q E hr h
theorem StarAt.ok (B : StarAt K x qual st f ps pv) (S : FnScope N (ps ++ [pv]) (defScope st))
    (walk : ∀ (cdv : Value) (A : Around) (outer : List Env) (s : Shared) (H : Hp) (vs : List V) (Q : VK) (E : XK), Room k (A.deeper (envOfC qual (defScope st) s.heap.objs.size f cdv)) → sp vs H Q E →
      ∃ t, PSs (cxOf CX0 P w K mg base N qual (defScope st) f cdv A outer s H E).nox (defBody st) t ∧ t { nx := fun _ H' => Q .non H', rt := Q } (start N vs) H) : FnR P w K mg base CX0 (k + 1) f (spStar ps.length sp) := by
  obtain ⟨fd, F, hb⟩ := B.ex
  obtain ⟨oc, od, kV, doc, pm, an, cdv, ct, osl, rfl, lk, hcd⟩ := F.ex
  refine StX.fn_star lk hcd S StX.cxUp_none hb fun A outer s H vs Q E hr h => ?_
  obtain ⟨t, a, b⟩ := walk cdv A outer s H vs Q E hr h
  exact ⟨t, a.nox, b⟩
end
/-! ### == by an own __eq__, inside lists and tuples -/
theorem rcG_own {X : Cx} {CX : CXT} {n : Nat} {C f : Addr} {R : Addr → Addr → Hp → Prop} {E : XK} (F : FnR X.prog X.w X.K X.mg X.base CX n f (spEq R))
    (hs : PySem.W.findIn X.K (.ref C) "__eq__" = some (some (.ref f))) (hf : PySem.W.isFn X.K (.ref f) = true) (hx : Passes CX X E) : RcG X n (DIns C R) := by
  intro A pins s σ H x y u v sub I rx ry d
  obtain ⟨a, b, dx, dy, fs, gs, rfl, rfl, ha, hb, r⟩ := d
  cases (show u = Value.ref a from rx)
  cases (show v = Value.ref b from ry)
  obtain ⟨ox, od, J⟩ := ins_inst I ha
  obtain ⟨oy, od', J'⟩ := ins_inst I hb
  obtain ⟨m, hF⟩ := I.fr
  have e := I.env0
  have e0 : Env0 X.prog X.w X.K X.mg X.base A X.stack s H := ⟨by rw [sub.fr]; exact e.frames, e.mod, e.bs, e.bsz, e.funs, e.frf, e.hok, e.bare⟩
  refine PySem.W.cmp_K (op := .Eq) (tb := .ref C) sub.room.units0 hF I.ok.mod.kin J J'.type (notFirst_self _ _) hs hf ?_
  refine wpAny_mono (wpAny_call (SlX.run_at (us := [.ref a, .ref b]) (ws := [.ref a, .ref b]) (Q := fun v H' => v = .bl true ∧ L2.Same H H') F sub.room e0 hx I (.cons rfl (.cons rfl .nil)) ⟨a, b, rfl, r, fun H' ex => ⟨rfl, ex⟩⟩)) (fun w s' z => ?_) fun _ _ x => x
  obtain ⟨z', H', I', rz, rfl, ex⟩ := z
  cases (show w = Value.bool true from rz)
  exact ⟨rfl, H', I', ex⟩
theorem eqG_own {X : Cx} {CX : CXT} {n : Nat} {C f : Addr} {R : Addr → Addr → Hp → Prop} {E : XK} (F : FnR X.prog X.w X.K X.mg X.base CX n f (spEq R))
    (hs : PySem.W.findIn X.K (.ref C) "__eq__" = some (some (.ref f))) (hf : PySem.W.isFn X.K (.ref f) = true) (hx : Passes CX X E) : EqG X n (DIns C R) :=
  (rcG_own F hs hf hx).eqG fun _ _ _ ⟨a, b, _, _, _, _, h1, h2, _⟩ => ⟨a, b, h1, h2⟩
end U
namespace U
open PySem PySem.Spec PyProof.Rows L2 StX LamX
/-! ### defs with lambdas: the code object's place is told -/
structure CodeAt (K : PySem.W.Frag) (x qual : Str) (st : Stmt) (f c : Addr) (ps : List Str) : Prop where
  ex : ∃ (oc : Value) (od : Option Addr) (kV doc pm : Value) (an : Option Addr) (ct : Value) (osl : Array (Option Value)),
    K.lookup f = some ⟨oc, od, .func (PySem.W.fnOf x qual (defArgs st) (defBody st) (defScope st) .none kV doc pm an (.ref c) ct), osl⟩ ∧ PySem.W.codeIn K (.ref c) qual = true ∧ Binds K (PySem.W.fnOf x qual (defArgs st) (defBody st) (defScope st) .none kV doc pm an (.ref c) ct) ps []
section
variable {P : Program} {w : World} {K : PySem.W.Frag} {mg : Str → Option Value} {base : Heap} {k : Nat} {f c : Addr} {sp : Sp} {x qual : Str} {st : Stmt} {N ps : List Str}
theorem CodeAt.okG (B : CodeAt K x qual st f c ps) (S : FnScope N ps (defScope st)) (len : ∀ vs H Q E, sp vs H Q E → vs.length = ps.length)
    (walk : ∀ (A : Around) (outer : List Env) (s : Shared) (H : Hp) (vs : List V) (Q : VK) (E : XK), A.guards = some [] → Room k (A.deeper (envOfC qual (defScope st) s.heap.objs.size f (.ref c))) → sp vs H Q E →
      ∃ t, PSs (cxOf CX0 P w K mg base N qual (defScope st) f (.ref c) A outer s H E).nox (defBody st) t ∧ t { nx := fun _ H' => Q .non H', rt := Q } (start N vs) H) : FnG P w K mg base CX0 (k + 1) f sp := by
  obtain ⟨oc, od, kV, doc, pm, an, ct, osl, lk, hcd, bi⟩ := B.ex
  intro A outer s H us vs Q E g hr e0 r hs
  have hl := len _ _ _ _ hs
  have kin : K.In s.heap := e0.mod.kin.keeps fun b o e => (e0.bs b o e).1
  have lim : s.heap.NoLimit := e0.mod.nolimit.keeps fun b o e => (e0.bs b o e).1
  have names : ∀ y ∈ ps.zip us, (defScope st).names.lookup y.1 = some .local ∨ ((defScope st).names.lookup y.1 = some .cell ∧ ((cellsFrom (s.heap.objs.size + 1) (defScope st).names []).lookup y.1).isSome = true) := by
    rintro ⟨n, v⟩ hy
    rcases S.par n (List.of_mem_zip hy).1 with q | q
    · exact .inl q
    · exact .inr ⟨q, PySem.W.cellsFrom_some _ _ _ (.inl q)⟩
  have hb : BindsTo s (PySem.W.fnOf x qual (defArgs st) (defBody st) (defScope st) .none kV doc pm an (.ref c) ct) ⟨us, []⟩ (ps.zip us) := by
    have := bi s us kin (by rw [List.append_nil, ← r.length]; exact hl)
    rw [List.append_nil] at this
    exact this
  refine codeAny_call_function hr.depth (kin _ _ lk) rfl S.co S.gen rfl (PySem.W.codeRec_of kin hcd) (hb _ _ _ _ ?_)
  refine wpAny_newFunctionEnv_cells S.kind names fun env he s1 z => ?_
  subst he
  refine ⟨lim.keeps z.toInCall.keep, codeAny_func ?_⟩
  obtain ⟨t, ht, hq⟩ := walk A outer s H vs Q E g (hr.deeper _) hs
  have I : Inv (cxOf CX0 P w K mg base N qual (defScope st) f (.ref c) A outer s H E) [] (start N vs) H s1 := inv_start S hr.hd e0 hl r z
  refine wpAny_mono (ht.nox.run [] s1 (start N vs) H _ I hq) (fun fl s' h' => ?_) fun _ _ h' => h'
  match fl, h' with
  | .ret u, ⟨v, σ', H', J, rv, q⟩ => exact ⟨v, H', J.os, J.bare, J.base, J.hok, rv, q⟩
  | .next, ⟨σ', H', J, q⟩ => exact ⟨.non, H', J.os, J.bare, J.base, J.hok, rfl, q⟩
  | .brk, ⟨_, _, _, q⟩ => exact q.elim
  | .cont, ⟨_, _, _, q⟩ => exact q.elim
end
/-! ### the law's call, tables tracked -/
section
variable {P : Program} {w : World} {K : PySem.W.Frag} {mg mb : Str → Option Value} {k : Nat} {fa sc : Addr} {sp : Sp} {s1 : Shared} {us : List Value} {ns : List Int} {cs : List (Addr × Addr)}
theorem law_coreT (inK : K.In s1.heap) (glob : s1.heap.Ns mainGlobals mg) (blt : s1.heap.Ns builtinsNs mb) (blt2 : ∀ x : Str, x ≠ "__name__" → mb x = bootBuiltins x) (lim : s1.heap.NoLimit) (gens : s1.gens = #[])
    (tabs : ∀ p ∈ cs, s1.heap.get? p.2 = some { cls := .none, data := .fields #[] }) (offT : ∀ p ∈ cs, K.lookup p.2 = none) (code : ∀ p ∈ cs, PySem.W.CodeHd s1.heap p.1 p.2)
    (bmod : ∃ (bm : Addr) (ob : Obj), mg "__builtins__" = some (.ref bm) ∧ bm ≠ builtinsNs ∧ s1.heap.get? bm = some ob ∧ ob.cls = .type "module" ∧ ob.dict = some builtinsNs ∧ ob.data = .plain)
    (there : s1.heap.get? sc = some { cls := .type "list", data := .seq us.toArray }) (room : Room k callerA)
    (F : ∀ base : Heap, (∀ p ∈ cs, TabB base mg p.1 p.2) → FnG P w K mg base CX0 k fa sp)
    (H : Hp) (tbl : ∀ p ∈ cs, H p.2 = some (.tbl #[])) (only : ∀ b, H b = none ∨ (∃ p ∈ cs, b = p.2) ∨ ∃ o xs, H b = some (.frz o (.lst xs))) (hok : HOk P w H s1.heap) (just : ∀ b, H b ≠ none → b = sc ∨ ∃ p ∈ cs, b = p.2) (offK : H sc ≠ none → K.lookup sc = none)
    (prom : sp [.ref sc] H (fun v _ => v = .bl true) E0) :
    codeAny (model P w) callerA (.call (.ref fa) ⟨[.ref sc], []⟩) (fun r s' => r = .ok (.ret (.bool true)) ∧ OldK s1.heap s'.heap ∧ s'.os = s1.os ∧ AllBare s'.gens) s1 := by
  -- what is neither a list nor a bare record is not tracked
  have free : ∀ {b : Addr} {o : Obj}, s1.heap.get? b = some o → (∀ vs n, o.data ≠ .seq vs n) → o.data ≠ .fields #[] → H b = none := by
    intro b o e h1 h2
    cases hb : H b with
    | none => rfl
    | some u =>
      rcases just b (by rw [hb]; intro z; cases z) with z | ⟨p, hp, z⟩
      · rw [z, there] at e; cases e; exact absurd rfl (h1 _ _)
      · rw [z, tabs p hp] at e; cases e; exact absurd rfl h2
  have spaces : ∀ {b : Addr} {m : Str → Option Value}, s1.heap.Ns b m → (hidT s1.heap H).Ns b m := by
    rintro b m ⟨o, es, ep, e, d, r⟩
    refine ⟨o, es, ep, hidT_get e (free e ?_ ?_), d, r⟩
    · intro vs n z; rw [d] at z; cases z
    · intro z; rw [d] at z; cases z
  have inB : K.In (hidT s1.heap H) := by
    intro b o e
    refine hidT_get (inK b o e) ?_
    cases hb : H b with
    | none => rfl
    | some u =>
      rcases just b (by rw [hb]; intro z; cases z) with z | ⟨p, hp, z⟩
      · subst z
        have q := offK (by rw [hb]; intro z; cases z)
        rw [e] at q; cases q
      · rw [z, offT p hp] at e; cases e
  have md : Mod K mg (hidT s1.heap H) := by
    obtain ⟨mc, l1, l2⟩ := lim
    exact ⟨inB, spaces glob, ⟨mb, spaces blt, blt2⟩, ⟨mc, spaces l1, l2⟩⟩
  have tb : ∀ p ∈ cs, TabB (hidT s1.heap H) mg p.1 p.2 := by
    intro p hp
    have hT := tabs p hp
    refine ⟨?_, ?_, ?_⟩
    · obtain ⟨o, vs, file, tf, flags, tg, inF, text, tt, e1, r1, r2, r3, r⟩ := code p hp
      refine ⟨o, vs, file, tf, flags, tg, inF, text, tt, hidT_get e1 (free e1 ?_ ?_), r1, r2, r3, r⟩
      · intro vs n z; rw [r2] at z; cases z
      · intro z; rw [r2] at z; cases z; simp at r3
    · obtain ⟨bm, ob, b1, b2, b3, b4, b5, b6⟩ := bmod
      have nG : bm ≠ mainGlobals := by
        rintro rfl
        obtain ⟨o, es, ep, e, d, _⟩ := glob
        rw [e] at b3; cases b3; rw [d] at b6; cases b6
      have nP : bm ≠ p.2 := by
        intro z
        rw [z, hT] at b3; cases b3; cases b6
      refine ⟨bm, ob, b1, b2, nG, nP, hidT_get b3 (free b3 ?_ ?_), b4, b5, b6⟩
      · intro vs n z; rw [b6] at z; cases z
      · intro z; rw [b6] at z; cases z
    · intro z
      obtain ⟨o, es, ep, e, d, _⟩ := glob
      rw [z, hT] at e; cases e; cases d
  have env : Env0 P w K mg (hidT s1.heap H) callerA [] s1 H := by
    refine ⟨rfl, md, fun b o e => of_hidT e, Nat.le_of_eq (hidT_size _ _), trivial, fun b hb => ?_, hok, .of_eq gens⟩
    exact absurd hb List.not_mem_nil
  refine codeAny_mono (F (hidT s1.heap H) tb callerA [] s1 H [.ref sc] [.ref sc] (fun v _ => v = .bl true) E0 rfl room env (.cons rfl .nil) prom) fun r s' h => ?_
  match r, h with
  | .error e, h => exact h.elim
  | .ok .next, h => exact h.elim
  | .ok .brk, h => exact h.elim
  | .ok .cont, h => exact h.elim
  | .ok (.ret u), ⟨v, H', os, bare, un, hok', rv, q⟩ =>
    subst q
    cases (show u = Value.bool true from rv)
    have rest : ∀ b o, (¬ ∃ p ∈ cs, b = p.2) → s1.heap.get? b = some o → s'.heap.get? b = some o := by
      intro b o nb e
      cases hb : H b with
      | none => exact un.keep b o e hb (fun z => absurd z List.not_mem_nil) (by simp)
      | some u =>
        rcases only b with z | z | ⟨ob, xs, z⟩
        · rw [hb] at z; cases z
        · exact absurd z nb
        · have a1 := (hok b _ z).1
          have a2 := (hok' b _ (un.frzs b ob _ z)).1
          rw [e] at a1
          cases a1
          exact a2
    have grown : ∀ p ∈ cs, ∃ more : Array Value, s'.heap.get? p.2 = some { cls := .none, data := .fields more } := by
      intro p hp
      obtain ⟨more, z⟩ := un.tbls p.2 #[] (tbl p hp)
      exact ⟨_, hok' p.2 _ z⟩
    refine ⟨rfl, ⟨fun b o e => ?_, fun b o e => ?_⟩, os, bare⟩
    · by_cases hb : ∃ p ∈ cs, b = p.2
      · obtain ⟨p, hp, rfl⟩ := hb
        obtain ⟨more, hm⟩ := grown p hp
        rw [tabs p hp] at e
        cases e
        refine .inr (.inl ⟨((code p hp).tab (tabs p hp)).isCodeTable, rfl, #[], more, rfl, ?_⟩)
        rw [Array.empty_append]
        exact hm
      · exact .inl (rest b o hb e)
    · by_cases hb : ∃ p ∈ cs, b = p.2
      · obtain ⟨p, hp, rfl⟩ := hb
        obtain ⟨more, hm⟩ := grown p hp
        exact ⟨_, hm⟩
      · exact ⟨o, rest b o hb e⟩
theorem law_callT (inK : K.In s1.heap) (glob : s1.heap.Ns mainGlobals mg) (blt : s1.heap.Ns builtinsNs mb) (blt2 : ∀ x : Str, x ≠ "__name__" → mb x = bootBuiltins x) (lim : s1.heap.NoLimit) (gens : s1.gens = #[])
    (tabs : ∀ p ∈ cs, s1.heap.get? p.2 = some { cls := .none, data := .fields #[] }) (offT : ∀ p ∈ cs, K.lookup p.2 = none) (code : ∀ p ∈ cs, PySem.W.CodeHd s1.heap p.1 p.2)
    (bmod : ∃ (bm : Addr) (ob : Obj), mg "__builtins__" = some (.ref bm) ∧ bm ≠ builtinsNs ∧ s1.heap.get? bm = some ob ∧ ob.cls = .type "module" ∧ ob.dict = some builtinsNs ∧ ob.data = .plain)
    (there : s1.heap.get? sc = some { cls := .type "list", data := .seq us.toArray }) (inS : IntsAre us ns) (len : ns.length ≤ sizeLine) (room : Room k callerA)
    (F : ∀ base : Heap, (∀ p ∈ cs, TabB base mg p.1 p.2) → FnG P w K mg base CX0 k fa sp)
    (prom : ∀ H : Hp, (∀ p ∈ cs, H p.2 = some (.tbl #[])) → SqL K H sc (ns.map V.int) → sp [.ref sc] H (fun v _ => v = .bl true) E0) :
    codeAny (model P w) callerA (.call (.ref fa) ⟨[.ref sc], []⟩) (fun r s' => r = .ok (.ret (.bool true)) ∧ OldK s1.heap s'.heap ∧ s'.os = s1.os ∧ AllBare s'.gens) s1 := by
  classical
  have rv := vals_ints inS
  have scT : ¬ ∃ p ∈ cs, sc = p.2 := by
    rintro ⟨p, hp, z⟩
    have q := tabs p hp
    rw [← z, there] at q
    have q' : Data.seq us.toArray _ = Data.fields #[] := congrArg Obj.data (Option.some.inj q)
    cases q'
  have go := law_coreT (P := P) (w := w) (k := k) (fa := fa) (sp := sp) inK glob blt blt2 lim gens tabs offT code bmod there room F
  cases hk : K.lookup sc with
  | some o =>
    have e := inK sc o hk
    rw [there] at e
    cases e
    have at_ : ∀ p ∈ cs, (fun b => if ∃ p ∈ cs, b = p.2 then some (HO.tbl #[]) else none) p.2 = some (.tbl #[]) := fun p hp => if_pos ⟨p, hp, rfl⟩
    refine go (fun b => if ∃ p ∈ cs, b = p.2 then some (.tbl #[]) else none) at_ (fun b => ?_) (fun b u z => ?_) (fun b z => ?_) (fun z => absurd (if_neg scT) z) (prom _ at_ ?_)
    · by_cases hb : ∃ p ∈ cs, b = p.2
      · exact .inr (.inl hb)
      · exact .inl (if_neg hb)
    · by_cases hb : ∃ p ∈ cs, b = p.2
      · have z' := (if_pos hb).symm.trans z
        cases z'
        obtain ⟨p, hp, rfl⟩ := hb
        exact tabs p hp
      · have z' := (if_neg hb).symm.trans z
        cases z'
    · by_cases hb : ∃ p ∈ cs, b = p.2
      · exact .inr hb
      · exact absurd (if_neg hb) z
    · refine .inr ⟨_, us.toArray, _, hk, rfl, rfl, rfl, ?_, by simpa using rv⟩
      rw [List.size_toArray, inS.length]
      exact len
  | none =>
    have at_ : ∀ p ∈ cs, (fun b => if b = sc then some (HO.frz { cls := .type "list", data := .seq us.toArray } (.lst (ns.map V.int))) else if ∃ p ∈ cs, b = p.2 then some (HO.tbl #[]) else none) p.2 = some (.tbl #[]) := fun p hp => (if_neg fun z => scT ⟨p, hp, z.symm⟩).trans (if_pos ⟨p, hp, rfl⟩)
    refine go (fun b => if b = sc then some (.frz { cls := .type "list", data := .seq us.toArray } (.lst (ns.map V.int))) else if ∃ p ∈ cs, b = p.2 then some (.tbl #[]) else none) at_ (fun b => ?_) (fun b u z => ?_) (fun b z => ?_) (fun _ => hk) (prom _ at_ (.inl (.inr ⟨_, if_pos rfl⟩)))
    · by_cases hs : b = sc
      · exact .inr (.inr ⟨_, _, if_pos hs⟩)
      · by_cases hb : ∃ p ∈ cs, b = p.2
        · exact .inr (.inl hb)
        · exact .inl ((if_neg hs).trans (if_neg hb))
    · by_cases hs : b = sc
      · have z' := (if_pos hs).symm.trans z
        cases z'
        subst hs
        refine ⟨there, ?_, us, _, rv, there⟩
        rw [List.length_map]
        exact len
      · have z1 := (if_neg hs).symm.trans z
        by_cases hb : ∃ p ∈ cs, b = p.2
        · have z' := (if_pos hb).symm.trans z1
          cases z'
          obtain ⟨p, hp, rfl⟩ := hb
          exact tabs p hp
        · have z' := (if_neg hb).symm.trans z1
          cases z'
    · by_cases hs : b = sc
      · exact .inl hs
      · by_cases hb : ∃ p ∈ cs, b = p.2
        · exact .inr hb
        · exact absurd ((if_neg hs).trans (if_neg hb)) z
end
/-- the goal that k_head leaves where the law has lambdas -/
theorem walkT {l : PySem.W.OpenLaw} {n k : Nat} {q : Program} {loose : List Str} {XP : (Str → Option Value) → Heap → Prop} {YP : World → Heap → Prop} {d : DefRec}
    (hn : l.most = some n) (hn2 : n ≤ sizeLine) (hdf : d.params.defaults = []) (room : Room k callerA)
    (F : ∀ (w : World) (mg : Str → Option Value) (fa : Addr) (h : Heap), YP w h → h.Ns mainGlobals mg → mg d.name = some (.ref fa) →
      ∃ (K : PySem.W.Frag) (cs : List (Addr × Addr)) (sp : Sp), K.In h ∧ (∀ p ∈ cs, h.get? p.2 = some { cls := .none, data := .fields #[] }) ∧ (∀ p ∈ cs, K.lookup p.2 = none) ∧ (∀ p ∈ cs, PySem.W.CodeHd h p.1 p.2) ∧
        (∀ base : Heap, (∀ p ∈ cs, TabB base mg p.1 p.2) → FnG l.prog w K mg base CX0 k fa sp) ∧
        ∀ (H : Hp) (a : Addr) (ns : List Int), ns.length ≤ n → (∀ p ∈ cs, H p.2 = some (.tbl #[])) → SqL K H a (ns.map V.int) → sp [.ref a] H (fun v _ => v = .bl true) E0) :
    PySem.W.WalkO q loose XP YP l.row.toRowW d [] (fun f vs => PySem.call f vs) := by
  refine Att.attach_call hn hdf fun w s0 s1 mg mb fa o pm cd doc a vs ns G Y ho hd hcd hmg hobj hints hlen hg => ?_
  obtain ⟨K, cs, sp, inK, tabs, offT, code, fn, prom⟩ := F w mg fa _ Y G.T.g hmg
  exact law_callT inK G.T.g G.T.b G.T.builtins G.T.nolimit hg tabs offT code G.T.bmain hobj hints (Nat.le_trans hlen hn2) room fn fun H hT hS => prom H a ns hlen hT hS
/-! ### what a lambda's caller makes of its exceptions -/
theorem takes_len {X : Cx} {W : WX} (t : Takes X W) : Takes X (fun c d σ H => σ.length = X.N.length → W c d σ H) := fun u s' ⟨a, B, sI, pins, σ, H, cls, d, e, I, nb, up, sky, na, os, ag, w⟩ => t u s' ⟨a, B, sI, pins, σ, H, cls, d, e, I, nb, up, sky, na, os, ag, w I.len⟩
/-! ### heaps that grow but for the tables -/
end U
namespace U
open PySem PySem.Spec PyProof.Rows L2 StX LamX
end U
namespace U
open PySem PySem.Spec PyProof.Rows L2
/-! ### x not in a tuple, data of any depth -/
end U
namespace U
open PySem PySem.Spec PyProof.Rows L2
/-! ### dicts of ints in a list: in, not in, index -/
end U
namespace U
open PySem PySem.Spec PyProof.Rows L2 StX
/-- a list == [], whatever it holds -/
def rEqNil (K : PySem.W.Frag) : R2 := fun x y H Q => ∃ (a b : Addr) (xs : List V), x = .ref a ∧ y = .ref b ∧ SqL K H a xs ∧ SqL K H b [] ∧ Q (.bl xs.isEmpty) H
theorem op_eqNil {X : Cx} (hu : X.A.units < cLine) : OpR X (compareOp .Eq) (rEqNil X.K) := by
  intro pins s σ H x y v u Q I rx ry h
  obtain ⟨a, b, xs, rfl, rfl, ha, hb, q⟩ := h
  cases (show v = Value.ref a from rx)
  cases (show u = Value.ref b from ry)
  obtain ⟨its, rv, pl, _⟩ := I.list ha
  obtain ⟨its2, rv2, pl2, _⟩ := I.list hb
  cases rv2
  have hl := rv.length
  cases xs with
  | nil =>
    cases rv
    exact SeqAt.eq_listAt (e := fun _ => true) pl.isList pl2.isList rfl hu (fun j h1 => absurd h1 (Nat.not_lt_zero _)) ⟨.bl true, H, I, rfl, q⟩
  | cons x xs =>
    refine SeqAt.eq_list_lengthsAt pl.isList pl2.isList ?_ hu ⟨.bl false, H, I, rfl, q⟩
    simp only [List.length_cons] at hl
    simp
    intro z
    rw [z] at hl
    cases hl
end U
namespace U
open PySem PySem.Spec PyProof.Rows L2 StX NdefX
/-! ### a def of a class whose first statement is super().m(..) -/
/-- what is asked of the program around: the file of its code objects, super not hidden at the top -/
structure SupP (P : Program) (file : Str) : Prop where
  file : ((P.main.file : Str) == file) = true
  top : (P.main.scope.names.lookup ("super" : Str)).isSome = false
structure SupAt (K : PySem.W.Frag) (x qual : Str) (st : Stmt) (f c cc D : Addr) (ps : List Str) (file : Str) : Prop where
  ex : ∃ (oc : Value) (od : Option Addr) (kV doc pm : Value) (an : Option Addr) (ct : Value) (osl : Array (Option Value)),
    K.lookup f = some ⟨oc, od, .func (PySem.W.fnX x qual (defArgs st) (defBody st) (defScope st) [("__class__", cc)] .none kV doc pm an (.ref c) ct), osl⟩ ∧ PySem.W.codeIn K (.ref c) qual = true ∧ Binds K (PySem.W.fnX x qual (defArgs st) (defBody st) (defScope st) [("__class__", cc)] .none kV doc pm an (.ref c) ct) ps []
  code : ∃ (ccl : Value) (cdd : Option Addr) (vs : Array Value) (ccs : Array (Option Value)) (tf : Tok), K.lookup c = some ⟨ccl, cdd, .fields vs, ccs⟩ ∧ vs[2]? = some (.str file tf)
  cell : ∃ (cl : Value) (cld : Option Addr) (csl : Array (Option Value)), K.lookup cc = some ⟨cl, cld, .cell (some (.ref D)), csl⟩
  cls : ∃ cd, PySem.W.clsIn K D = some cd
  pos : ((defArgs st).posonlyargs ++ (defArgs st).args).head?.map (·.arg) = ps[0]?
  nosuper : PySem.W.nsIn K mainGlobals "super" = some none
  noop : PySem.W.nsIn K cStatics "thirdparty.any" = some none
  scS : (defScope st).names.lookup ("super" : Str) = some .globalImplicit
  scC : (defScope st).names.lookup ("__class__" : Str) = some .free
/-- the method that super().m finds, for an instance of the class at C -/
structure SupM (K : PySem.W.Frag) (C D : Addr) (m : Str) (f2 : Addr) : Prop where
  sub : PySem.W.mroIn K C (.ref D) = some true
  at_ : PySem.W.ks_superIn K C D m = some (some (.ref f2))
  ty : PySem.W.typeIn K (.ref f2) = some (.type "function")
  fi : PySem.W.fnIn K f2 = true
  cl : (m == ("__class__" : Str)) = false
section
variable {X : Cx} {pins : List (Addr × Obj)} {σ : L2.St} {H : Hp} {s : Shared} {C D dx x f2 : Addr} {fs : List (Str × V)} {m : Str}
/-- super().m(..) run within the def's own code -/
theorem run_super {CX : CXT} {k2 : Nat} {sp2 : Sp} {Q : VK} {E : XK} {t : TA} {body : List Stmt} {p0 p1 apos pos epos : Pos} {e : Expr} {qual : Str} {st : Stmt} {name : Str} {f c cc : Addr} {ps : List Str} {file s0 : Str}
    (B : SupAt X.K name qual st f c cc D ps file) (hP : SupP X.prog file) (M : SupM X.K C D m f2) (F : FnR X.prog X.w X.K X.mg X.base CX k2 f2 sp2) (hr : Room k2 X.A) (hx : Passes CX X E)
    (hsc : X.env.scope = defScope st) (hfu : X.env.func = some f) (hco : X.env.code = .ref c) (hcl : X.env.cells.lookup ("__class__" : Str) = some cc) (hps : ps[0]? = some s0) (hN : X.N[0]? = some s0) (hloc : X.env.scope.names.lookup s0 = some .local)
    (I : Inv X pins σ H s) (hv : σ[0]? = some (some (.ref x))) (ea : H x = some (.ins C dx fs)) (ha : PA X [e] t)
    (h : t σ H fun vs H1 => sp2 (.ref x :: vs) H1 Q E)
    (hint : interactive X.env = false) (hsw : swapsWith (.Call (.Attribute (.Call (.Name "super" p0) [] [] p1) m apos) [e] [] pos) none epos.line X.env = pure false)
    (hst : starEach [e] X.env = [(false, eval e X.env)]) (pl : Sem Bool)
    (he : eval (.Call (.Attribute (.Call (.Name "super" p0) [] [] p1) m apos) [e] [] pos) X.env = (do
      let ov ← attributeBase (.Call (.Name "super" p0) [] [] p1) m X.env (eval (.Call (.Name "super" p0) [] [] p1) X.env)
      standAt apos.atName
      let (f, first) ← holding [ov] (getMethod ov m pl)
      callWith pos f first (backTo pos (starEach [e] X.env)) [])) :
    PySem.wpAt (model X.prog X.w) X.A (.func body X.env) (exec (.Expr (.Call (.Attribute (.Call (.Name "super" p0) [] [] p1) m apos) [e] [] pos) epos) X.env)
      (fun fl s' => fl = .next ∧ ∃ v H2, Inv X pins σ H2 s' ∧ Q v H2) X.xe s := by
  obtain ⟨oc, od, kV, doc, pm, an, ct, osl, lk, hcd, bi⟩ := B.ex
  obtain ⟨ccl, cdd, vs2, ccs, tf, hcode, hvs⟩ := B.code
  obtain ⟨cl0, cld, csl, hcell⟩ := B.cell
  obtain ⟨cdD, hD⟩ := B.cls
  have KX := I.kIn
  obtain ⟨oD, hD1, hD2⟩ : ∃ oD, s.heap.get? D = some oD ∧ oD.data = .cls cdD := by
    unfold PySem.W.clsIn at hD
    split at hD
    · rename_i c d cd' sl ho
      cases hD
      exact ⟨_, KX _ _ ho, rfl⟩
    · cases hD
  obtain ⟨ar, har, har2⟩ : ∃ ar : Arg, ((defArgs st).posonlyargs ++ (defArgs st).args).head? = some ar ∧ ar.arg = s0 := by
    have := B.pos
    rw [hps] at this
    cases z : ((defArgs st).posonlyargs ++ (defArgs st).args).head? with
    | none => rw [z] at this; cases this
    | some ar => rw [z] at this; exact ⟨ar, rfl, Option.some.inj this⟩
  obtain ⟨mA, O, _, _, _, _⟩ := ins_get I.hok ea
  obtain ⟨odx, J, _⟩ := O.look
  refine PySem.ks_wpAt_Expr_any ?_ hint hsw
  refine PySem.ks_wpAt_MethodCall (pl := pl) ?_ he
  refine PySem.ks_wpAt_super_base (env := X.env) (fd := PySem.W.fnX name qual (defArgs st) (defBody st) (defScope st) [("__class__", cc)] .none kV doc pm an (.ref c) ct) (by show X.env.scope.names.lookup _ = _; rw [hsc]; exact B.scS) (by show X.env.scope.names.lookup _ = _; rw [hsc]; exact B.scC) M.cl hfu (KX _ _ lk) rfl (ar := ar) har hco (KX _ _ hcode) rfl hvs hP.file hP.top ?_
  have hgs : X.env.kindOf ("super" : Str) = some .globalImplicit := by show X.env.scope.names.lookup _ = _; rw [hsc]; exact B.scS
  refine PySem.W.ks_loadName_global I.ok.kind hgs ?_
  obtain ⟨mb, h1, h2⟩ := I.mod.blt
  refine Calls.loadGlobal_builtin (by rw [I.ok.glob]; exact I.mod.glob.keeps I.bk) (PySem.W.mg_none_of I.mod.kin I.mod.glob B.nosuper) (by rw [I.ok.blt]; exact h1.keeps I.bk) ((h2 "super" (by decide +kernel)).trans (by rfl)) ⟨rfl, ?_⟩
  refine wpAny_loadName_free I.ok.kind (by show X.env.scope.names.lookup _ = _; rw [hsc]; exact B.scC) hcl ⟨_, KX _ _ hcell, rfl⟩ ?_
  obtain ⟨mL, hns, hal⟩ := I.loc
  obtain ⟨u, ru, hlook⟩ := hal 0 s0 (.ref x) hN hv (Or.inl hloc)
  obtain rfl : u = Value.ref x := ru
  have hmL : mL s0 = some (.ref x) := by
    rcases hlook with ⟨_, z⟩ | ⟨z, _⟩
    · exact z
    · rcases z with z | z
      · rw [show X.env.kindOf s0 = some .local from hloc] at z; cases z
      · rw [show X.env.kindOf s0 = some .local from hloc] at z; cases z
  rw [har2]
  refine wpAny_loadName_local I.ok.kind hloc hns hmL ?_
  obtain ⟨hh, g, d, t0, os⟩ := s
  refine PySem.ks_wpAny_isType_cls hD1 hD2 ⟨rfl, ?_⟩
  refine PySem.ks_wpAny_call_super hD1 hD2 J.at_ J.cls (fun c e => ?_) (PySem.W.looks_mroIn KX M.sub) (fun h' ee kk => ?_)
  · have := J.no
    unfold PySem.W.notCls at this
    rw [e] at this
    exact Bool.noConfusion this
  -- the super object stands; its method
  have I2 : Inv X pins σ H ⟨h', g, d, t0, os⟩ := I.kept (t' := t0) kk
  have KX2 := I2.kIn
  cases hc : PySem.W.clsIn X.K C with
  | none => have := M.at_; unfold PySem.W.ks_superIn at this; rw [hc] at this; cases this
  | some cd =>
    have hm := M.at_
    unfold PySem.W.ks_superIn at hm
    rw [hc] at hm
    obtain ⟨of, hof, hofc⟩ : ∃ of, h'.get? f2 = some of ∧ of.cls = .type "function" := by
      have ht' : (X.K.lookup f2).map (·.cls) = some (.type "function") := M.ty
      cases z : X.K.lookup f2 with
      | none => rw [z] at ht'; cases ht'
      | some of => rw [z] at ht'; exact ⟨of, KX2 _ _ z, Option.some.inj ht'⟩
    refine PySem.ks_wpAny_getMethod_super ee (PySem.W.looks_opaque KX2 B.noop) (l₀ := cd.mro) ?_ rfl KX2 hm hof hofc (PySem.W.ks_ne KX J hc) M.cl ?_
    · exact fun A Q E s k q => wpAny_bind ((PySem.W.looks_clsIn KX2 hc) A _ E s k (wpAny_pure q))
    · have I3 : Inv X ((h'.objs.size, PySem.W.methodObj (.ref f2) (.ref x)) :: pins) σ H ⟨h'.push (PySem.W.methodObj (.ref f2) (.ref x)), g, d, t0 + 1, os⟩ := ClX.met_new I2
      refine ClX.callwith_cm I3 (ClX.base_none I2 (Nat.le_refl _)) M.fi (thn (ha.run pos _ _ σ H _ I3 h) fun us s3 ⟨vs, H2, I4, rv, q2⟩ => ⟨⟨ClX.pin_at I4, I4.kIn⟩, ?_⟩) hst rfl
      exact thn (ClX.run_cm F hr hx I4 rv q2) fun v s4 ⟨z, H3, I5, _, q3⟩ => ⟨rfl, z, H3, I5, q3⟩
end
/-- the def, by its first statement super().m(e) and the rest -/
theorem SupAt.okX {P : Program} {w : World} {K : PySem.W.Frag} {mg : Str → Option Value} {base : Heap} {CX : CXT} {k k2 : Nat} {name qual : Str} {st : Stmt} {f c cc D C f2 : Addr} {N ps : List Str} {file s0 m : Str} {sp sp2 : Sp} {p0 p1 apos pos epos : Pos} {e : Expr} {rest : List Stmt}
    (B : SupAt K name qual st f c cc D ps file) (hP : SupP P file) (M : SupM K C D m f2) (F : FnR P w K mg base CX k2 f2 sp2) (hk : k2 ≤ k)
    (S : NScope N ps ["__class__"] (defScope st)) (hps : ps[0]? = some s0) (hb : defBody st = .Expr (.Call (.Attribute (.Call (.Name "super" p0) [] [] p1) m apos) [e] [] pos) epos :: rest)
    (len : ∀ vs H Q E, sp vs H Q E → vs.length = ps.length)
    (walk : ∀ (A : Around) (outer : List Env) (s : Shared) (H : Hp) (vs : List V) (Q : VK) (E : XK) (X : Cx), X = ncx CX P w K mg base N ⟨name, qual, defArgs st, defBody st, defScope st, [("__class__", cc)], c⟩ f A outer s H E → Room k X.A → sp vs H Q E →
      Passes CX X E ∧ interactive X.env = false ∧ swapsWith (.Call (.Attribute (.Call (.Name "super" p0) [] [] p1) m apos) [e] [] pos) none epos.line X.env = pure false ∧ starEach [e] X.env = [(false, eval e X.env)] ∧
      (∃ pl : Sem Bool, eval (.Call (.Attribute (.Call (.Name "super" p0) [] [] p1) m apos) [e] [] pos) X.env = (do
        let ov ← attributeBase (.Call (.Name "super" p0) [] [] p1) m X.env (eval (.Call (.Name "super" p0) [] [] p1) X.env)
        standAt apos.atName
        let (f, first) ← holding [ov] (getMethod ov m pl)
        callWith pos f first (backTo pos (starEach [e] X.env)) [])) ∧
      ∃ (x dx : Addr) (fs : List (Str × V)) (t : TA), vs[0]? = some (.ref x) ∧ H x = some (.ins C dx fs) ∧ PA X [e] t ∧
        t (startF N vs [none]) H fun us H1 => sp2 (.ref x :: us) H1 (fun _ H2 => ∃ tt, PSs X rest tt ∧ tt { nx := fun _ H' => Q .non H', rt := Q } (startF N vs [none]) H2) E) :
    FnR P w K mg base CX (k + 1) f sp := by
  obtain ⟨oc, od, kV, doc, pm, an, ct, osl, lk, hcd, bi⟩ := B.ex
  intro A outer s H us vs Q E hr e0 r hs
  have hl := len _ _ _ _ hs
  have kin : K.In s.heap := e0.mod.kin.keeps fun b o e => (e0.bs b o e).1
  have lim : s.heap.NoLimit := e0.mod.nolimit.keeps fun b o e => (e0.bs b o e).1
  have hbn : BindsTo s (PySem.W.fnX name qual (defArgs st) (defBody st) (defScope st) [("__class__", cc)] .none kV doc pm an (.ref c) ct) ⟨us, []⟩ (ps.zip us) := by
    have := bi s us kin (by rw [List.append_nil, ← r.length]; exact hl)
    rw [List.append_nil] at this
    exact this
  refine codeAny_call_function hr.depth (kin _ _ lk) rfl S.co S.gen rfl (PySem.W.codeRec_of kin hcd) (hbn _ _ _ _ ?_)
  refine wpAny_newFunctionEnv S.nocell (fun ⟨n, _⟩ hy => S.par n (List.of_mem_zip hy).1) (fun h₁ hns hsb => ⟨lim.fresh _ hsb, ?_⟩) S.kind
  generalize hF : (⟨name, qual, defArgs st, defBody st, defScope st, [(("__class__" : Str), cc)], c⟩ : NF) = FF at walk
  have hFc : FF.cl = [(("__class__" : Str), cc)] := by rw [← hF]
  have hFs : FF.scope = defScope st := by rw [← hF]
  have hFb : FF.body = defBody st := by rw [← hF]
  have hFcc : FF.c = c := by rw [← hF]
  have henv : envF FF f s.heap.objs.size = PySem.W.envX qual (defScope st) s.heap.objs.size f (.ref c) [(("__class__" : Str), cc)] := by rw [← hF]
  have kp : ∀ b o, s.heap.get? b = some o → h₁.get? b = some o := fun b o e => hsb.extBut b o (Nat.ne_of_lt (Heap.lt_size e)) (Heap.get?_push_of_some _ e)
  obtain ⟨cl0, cld, csl, hcell⟩ := B.cell
  have CA : CellsAt FF.cl ["__class__"] [none] s.heap H := by
    rw [hFc]
    refine ⟨rfl, fun y a hy => ?_, fun a b a' h1 h2 => ?_, fun i y hi => ?_⟩
    · have : a = cc := by
        have hm := PySem.mem_of_lookup hy
        simp only [List.mem_singleton] at hm
        exact (Prod.mk.inj hm).2
      subst this
      exact ⟨(e0.bs _ _ (e0.mod.kin _ _ hcell)).2, _, _, kin _ _ hcell, rfl⟩
    · have m1 := PySem.mem_of_lookup h1
      have m2 := PySem.mem_of_lookup h2
      simp only [List.mem_singleton] at m1 m2
      rw [(Prod.mk.inj m1).1, (Prod.mk.inj m2).1]
    · match i, hi with
      | 0, hi =>
        cases hi
        exact ⟨cc, by simp [List.lookup], fun v hv => by cases hv⟩
      | i + 1, hi => simp at hi
  have I : Inv (ncx CX P w K mg base N FF f A outer s H E) [] (startF N vs [none]) H { s with heap := h₁, toks := s.toks + (ps.zip us).length } := inv_startN (by rw [hFs]; exact S) hr.hd e0 hl r CA hns kp
  obtain ⟨hx, hint, hsw, hst, ⟨pl, he⟩, x, dx, fs, t, hv0, ea, ha, hq⟩ := walk A outer s H vs Q E _ rfl (hr.deeper _) hs
  show codeAny _ _ (.func (defBody st) (PySem.W.envX qual (defScope st) s.heap.objs.size f (.ref c) [(("__class__" : Str), cc)])) _ _
  rw [← henv]
  refine PySem.ks_codeAny_funcAt ?_
  rw [hb]
  refine PySem.ks_wpAt_execs_cons ?_
  have hps0 : ps.length ≠ 0 := by
    intro z
    cases ps with
    | nil => cases hps
    | cons a b => cases z
  have hv : (startF N vs [none])[0]? = some (some (.ref x)) := by
    unfold startF
    rw [List.getElem?_append_left (by rw [List.length_map]; omega), List.getElem?_map, hv0]
    rfl
  have hN0 : N[0]? = some s0 := by
    have : (ps ++ [("__class__" : Str)])[0]? = some s0 := by rw [List.getElem?_append_left (by omega)]; exact hps
    rw [← S.pre, List.getElem?_take_of_lt (by simp)] at this
    exact this
  have hloc0 : (defScope st).names.lookup s0 = some .local := S.par s0 (List.mem_of_getElem? hps)
  refine PySem.ks_wpAt_mono (run_super (X := ncx CX P w K mg base N FF f A outer s H E) (body := _) B hP M F ((hr.deeper _).mono hk) hx hFs rfl (by show Value.ref FF.c = _; rw [hFcc]) (by show FF.cl.lookup _ = _; rw [hFc]; simp [List.lookup]) hps hN0 (by show FF.scope.names.lookup s0 = _; rw [hFs]; exact hloc0) I hv ea ha hq hint hsw hst pl he) (fun fl s' hh => ?_) fun e s' hh => hh
  obtain ⟨rfl, _, H2, I2, tt, htt, hqq⟩ := hh
  refine wpAt_of_wpAny ?_
  have fin : ∀ {σ' : L2.St} {H' : Hp} {v : V} {u : Value} {s' : Shared}, Inv (ncx CX P w K mg base N FF f A outer s H E) [] σ' H' s' → L2.RelV v u → Q v H' → CE outer P w H s Q u s' :=
    fun {σ' H' v u s'} J rv q => ⟨v, H', J.os, J.bare, J.base, J.hok, rv, q⟩
  refine wpAny_mono (htt.run [] _ (startF N vs [none]) H2 _ I2 hqq) (fun fl s' hs => ?_) fun e s' hs => hs
  cases fl with
  | ret u =>
    obtain ⟨v, σ', H', J, rv, q⟩ := hs
    exact fin J rv q
  | next =>
    obtain ⟨σ', H', J, q⟩ := hs
    exact fin (v := V.non) (u := Value.none) J rfl q
  | brk =>
    obtain ⟨_, _, _, q⟩ := hs
    exact False.elim q
  | cont =>
    obtain ⟨_, _, _, q⟩ := hs
    exact False.elim q
end U
namespace U
open PySem PySem.Spec PyProof.Rows L2 StX
/-! ### {o!r}, o an instance with its own __repr__ -/
end U
namespace U
open PySem PySem.Spec PyProof.Rows L2 GQ PySem.SeqAt MeetsSeq MeetsSeq2 MeetsSeq3 SeqRoads2
open AutoSeq1 (wpAny_loadPart')
/-! ### == of lists and tuples, with either result -/
/-- D x y H c: == of the two gives c -/
abbrev EqvB := V → V → Hp → Bool → Prop
def MonB (D : EqvB) : Prop := ∀ x y H H' c, Ext H H' → D x y H c → D x y H' c
def EqH (X : Cx) (n : Nat) (D : EqvB) : Prop :=
  ∀ (A : Around) (pins : List (Addr × Obj)) (s : Shared) (σ : L2.St) (H : Hp) (x y : V) (u v : Value) (c : Bool), Sub X n A → Inv X pins σ H s → RelV x u → RelV y v → D x y H c →
    wpAny (model X.prog X.w) A (eqBool u v) (fun r s' => r = c ∧ ∃ H', Inv X pins σ H' s' ∧ Ext H H') X.xe s
section
variable {X : Cx} {n m : Nat} {D D' : EqvB}
theorem EqH.mono (h : EqH X n D) (hn : n ≤ m) : EqH X m D := fun A pins s σ H x y u v c sb => h A pins s σ H x y u v c (sb.mono hn)
theorem EqH.or (h : EqH X n D) (h' : EqH X n D') : EqH X n (fun x y H c => D x y H c ∨ D' x y H c) := fun A pins s σ H x y u v c sb I rx ry d => by
  rcases d with d | d
  · exact h A pins s σ H x y u v c sb I rx ry d
  · exact h' A pins s σ H x y u v c sb I rx ry d
theorem MonB.or (h : MonB D) (h' : MonB D') : MonB (fun x y H c => D x y H c ∨ D' x y H c) := fun x y H H' c e d => d.elim (fun d => .inl (h x y H H' c e d)) fun d => .inr (h' x y H H' c e d)
end
end U
namespace PySem.W
open PySem PySem.Calls PyProof.Rows
end PySem.W
namespace U
open PySem PySem.Spec PyProof.Rows L2 StX
end U
namespace PM
open U
/-! ### one-to-one maps between parts of 0 .. n - 1 -/
abbrev PF := Int → Option Int
structure WF (n : Int) (f : PF) : Prop where
  dom : ∀ x y, f x = some y → 0 ≤ x ∧ x < n ∧ 0 ≤ y ∧ y < n
  inj : ∀ x x' y, f x = some y → f x' = some y → x = x'
def tabN (f : PF) (n : Nat) : List (Int × Int) := (List.range n).filterMap fun (i : Nat) => (f (i : Int)).map fun y => ((i : Int), y)
def tab (n : Int) (f : PF) : List (Int × Int) := tabN f n.toNat
theorem mem_tabN {f : PF} {n : Nat} {x y : Int} : (x, y) ∈ tabN f n ↔ f x = some y ∧ ∃ i : Nat, i < n ∧ x = (i : Int) := by
  unfold tabN
  rw [List.mem_filterMap]
  constructor
  · rintro ⟨i, hi, e⟩
    rw [List.mem_range] at hi
    cases h : f (i : Int) with
    | none => rw [h] at e; cases e
    | some z => rw [h] at e; cases e; exact ⟨h, i, hi, rfl⟩
  · rintro ⟨h, i, hi, rfl⟩
    exact ⟨i, List.mem_range.mpr hi, by rw [h]; rfl⟩
theorem mem_tab {n : Int} {f : PF} (w : WF n f) {x y : Int} : (x, y) ∈ tab n f ↔ f x = some y := by
  unfold tab
  rw [mem_tabN]
  constructor
  · exact fun h => h.1
  · intro h
    have := w.dom x y h
    exact ⟨h, x.toNat, by omega, by omega⟩
theorem keys_tabN (f : PF) (n : Nat) : ((tabN f n).map (·.1)).Nodup := by
  induction n with
  | zero => exact List.nodup_nil
  | succ n ih =>
    have e : tabN f (n + 1) = tabN f n ++ ((f (n : Int)).map fun y => ((n : Int), y)).toList := by
      unfold tabN
      rw [List.range_succ, List.filterMap_append]
      cases h : f (n : Int) <;> simp [h]
    rw [e, List.map_append, List.nodup_append]
    refine ⟨ih, ?_, ?_⟩
    · cases f (n : Int) <;> simp
    · intro a ha b hb e
      subst e
      obtain ⟨p, hp, rfl⟩ := List.mem_map.mp ha
      obtain ⟨x, y⟩ := p
      obtain ⟨_, i, hi, ex⟩ := mem_tabN.mp hp
      cases h : f (n : Int) with
      | none => rw [h] at hb; simp at hb
      | some z =>
        rw [h] at hb
        simp at hb
        omega
theorem keys_tab (n : Int) (f : PF) : ((tab n f).map (·.1)).Nodup := keys_tabN f _
theorem lk_tab {n : Int} {f : PF} (w : WF n f) (x : Int) : lk (tab n f) x = f x := by
  cases h : f x with
  | some y => exact lk_some (keys_tab n f) ((mem_tab w).mpr h)
  | none =>
    cases e : lk (tab n f) x with
    | none => rfl
    | some y =>
      have := (mem_tab w).mp (lk_mem e)
      rw [h] at this; cases this
theorem tab_len (n : Int) (f : PF) : (tab n f).length ≤ n.toNat := by
  unfold tab tabN
  exact Nat.le_trans (List.length_filterMap_le _ _) (by simp)
theorem vals_tab {n : Int} {f : PF} (w : WF n f) : ((tab n f).map (·.2)).Nodup := by
  have k := keys_tab n f
  have key : ∀ l : List (Int × Int), (∀ p ∈ l, f p.1 = some p.2) → (l.map (·.1)).Nodup → (l.map (·.2)).Nodup := by
    intro l
    induction l with
    | nil => intro _ _; exact List.nodup_nil
    | cons p r ih =>
      intro h nd
      rw [List.map_cons, List.nodup_cons] at nd ⊢
      refine ⟨fun hm => ?_, ih (fun q hq => h q (List.mem_cons_of_mem _ hq)) nd.2⟩
      obtain ⟨q, hq, e⟩ := List.mem_map.mp hm
      have h1 := h p List.mem_cons_self
      have h2 := h q (List.mem_cons_of_mem _ hq)
      rw [e] at h2
      have := w.inj _ _ _ h1 h2
      exact nd.1 (by rw [this]; exact List.mem_map.mpr ⟨q, hq, rfl⟩)
  exact key _ (fun p hp => (mem_tab w).mp hp) k
/-! ### the operations -/
def mul (f g : PF) : PF := fun x => (f x).bind g
def idn (n : Int) : PF := fun x => if 0 ≤ x ∧ x < n then some x else none
def emp : PF := fun _ => none
def inv (n : Int) (f : PF) : PF := fun y => ((tab n f).find? fun p => decide (p.2 = y)).map (·.1)
def le (f g : PF) : Prop := ∀ x y, f x = some y → g x = some y
theorem wf_mul {n : Int} {f g : PF} (wf : WF n f) (wg : WF n g) : WF n (mul f g) := by
  refine ⟨fun x y h => ?_, fun x x' y h h' => ?_⟩
  · unfold mul at h
    cases e : f x with
    | none => rw [e] at h; cases h
    | some z =>
      rw [e] at h
      have h1 := wf.dom x z e
      have h2 := wg.dom z y h
      omega
  · unfold mul at h h'
    cases e : f x with
    | none => rw [e] at h; cases h
    | some z =>
      cases e' : f x' with
      | none => rw [e'] at h'; cases h'
      | some z' =>
        rw [e] at h; rw [e'] at h'
        have := wg.inj z z' y h h'
        subst this
        exact wf.inj _ _ _ e e'
theorem wf_idn (n : Int) : WF n (idn n) := by
  refine ⟨fun x y h => ?_, fun x x' y h h' => ?_⟩
  · unfold idn at h
    split at h
    · cases h; omega
    · cases h
  · unfold idn at h h'
    split at h
    · split at h'
      · cases h; cases h'; rfl
      · cases h'
    · cases h
theorem inv_iff {n : Int} {f : PF} (w : WF n f) {x y : Int} : inv n f y = some x ↔ f x = some y := by
  unfold inv
  constructor
  · intro h
    cases e : (tab n f).find? (fun p => decide (p.2 = y)) with
    | none => rw [e] at h; cases h
    | some p =>
      rw [e] at h
      obtain ⟨a, b⟩ := p
      have h1 := List.find?_some e
      simp only [decide_eq_true_eq] at h1
      have h2 : a = x := Option.some.inj h
      subst h1 h2
      exact (mem_tab w).mp (List.mem_of_find?_eq_some e)
  · intro h
    have hm := (mem_tab w).mpr h
    cases e : (tab n f).find? (fun p => decide (p.2 = y)) with
    | none =>
      have := List.find?_eq_none.mp e _ hm
      simp at this
    | some p =>
      obtain ⟨a, b⟩ := p
      have h1 := List.find?_some e
      simp only [decide_eq_true_eq] at h1
      subst h1
      have h3 := (mem_tab w).mp (List.mem_of_find?_eq_some e)
      show some a = some x
      rw [w.inj _ _ _ h3 h]
theorem wf_inv {n : Int} {f : PF} (w : WF n f) : WF n (inv n f) := by
  refine ⟨fun y x h => ?_, fun y y' x h h' => ?_⟩
  · have := w.dom x y ((inv_iff w).mp h)
    omega
  · have h1 := (inv_iff w).mp h
    have h2 := (inv_iff w).mp h'
    rw [h1] at h2
    exact Option.some.inj h2
/-- a dict of pairs tells f -/
structure DI (l : List (Int × Int)) (f : PF) : Prop where
  nd : (l.map (·.1)).Nodup
  at_ : ∀ x, lk l x = f x
theorem DI.mem {l : List (Int × Int)} {f : PF} (d : DI l f) {x y : Int} : (x, y) ∈ l ↔ f x = some y := by
  rw [← d.at_]
  exact ⟨lk_some d.nd, lk_mem⟩
theorem di_tab {n : Int} {f : PF} (w : WF n f) : DI (tab n f) f := ⟨keys_tab n f, lk_tab w⟩
theorem DI.vals {n : Int} {l : List (Int × Int)} {f : PF} (d : DI l f) (w : WF n f) : (l.map (·.2)).Nodup := by
  obtain ⟨nd, _⟩ := id d
  have key : ∀ r : List (Int × Int), (∀ p ∈ r, f p.1 = some p.2) → (r.map (·.1)).Nodup → (r.map (·.2)).Nodup := by
    intro r
    induction r with
    | nil => intro _ _; exact List.nodup_nil
    | cons p r ih =>
      intro h nd
      rw [List.map_cons, List.nodup_cons] at nd ⊢
      refine ⟨fun hm => ?_, ih (fun q hq => h q (List.mem_cons_of_mem _ hq)) nd.2⟩
      obtain ⟨q, hq, e⟩ := List.mem_map.mp hm
      have h1 := h p List.mem_cons_self
      have h2 := h q (List.mem_cons_of_mem _ hq)
      rw [e] at h2
      have := w.inj _ _ _ h1 h2
      exact nd.1 (by rw [this]; exact List.mem_map.mpr ⟨q, hq, rfl⟩)
  exact key l (fun p hp => d.mem.mp hp) nd
theorem di_of {l : List (Int × Int)} {f : PF} (nd : (l.map (·.1)).Nodup) (h : ∀ x y, (x, y) ∈ l ↔ f x = some y) : DI l f := by
  refine ⟨nd, fun x => ?_⟩
  cases e : f x with
  | some y => exact lk_some nd ((h x y).mpr e)
  | none =>
    cases e2 : lk l x with
    | none => rfl
    | some y =>
      have := (h x y).mp (lk_mem e2)
      rw [e] at this; cases this
end PM
namespace PM
open U
/-! ### powers -/
def iter (f : PF) : Nat → PF
  | 0 => fun x => some x
  | k + 1 => fun x => (iter f k x).bind f
theorem iter_add (f : PF) (a b : Nat) (x : Int) : iter f (a + b) x = (iter f a x).bind (iter f b) := by
  induction b with
  | zero => simp [iter]
  | succ b ih =>
    show (iter f (a + b) x).bind f = _
    rw [ih]
    cases iter f a x <;> rfl
theorem iter_head (f : PF) (k : Nat) (x : Int) : iter f (k + 1) x = (f x).bind (iter f k) := by
  rw [Nat.add_comm, iter_add]; rfl
structure Row (f : PF) (e : Int) (r : List Int) : Prop where
  h0 : r[0]? = some e
  st : ∀ (i : Nat) (a b : Int), r[i]? = some a → r[i + 1]? = some b → f a = some b ∧ b ≠ e
theorem Row.ne {f : PF} {e : Int} {r : List Int} (w : ∀ x x' y, f x = some y → f x' = some y → x = x') (R : Row f e r) : ∀ (i k : Nat) (a : Int), r[i]? = some a → r[i + k + 1]? = some a → False
  | 0, k, a, h1, h2 => by
    rw [R.h0] at h1
    cases h1
    have hk : ∃ b, r[k]? = some b := by
      have : 0 + k + 1 < r.length := (List.getElem?_eq_some_iff.mp h2).1
      exact ⟨_, List.getElem?_eq_getElem (by omega)⟩
    obtain ⟨b, hb⟩ := hk
    have := R.st k b e hb (by rw [Nat.zero_add] at h2; exact h2)
    exact this.2 rfl
  | i + 1, k, a, h1, h2 => by
    have l1 : i + 1 < r.length := (List.getElem?_eq_some_iff.mp h1).1
    have l2 : i + 1 + k + 1 < r.length := (List.getElem?_eq_some_iff.mp h2).1
    obtain ⟨b, hb⟩ : ∃ b, r[i]? = some b := ⟨_, List.getElem?_eq_getElem (by omega)⟩
    obtain ⟨c, hc⟩ : ∃ c, r[i + k + 1]? = some c := ⟨_, List.getElem?_eq_getElem (by omega)⟩
    have e1 := (R.st i b a hb h1).1
    have h2' : r[i + k + 1 + 1]? = some a := by rw [show i + k + 1 + 1 = i + 1 + k + 1 by omega]; exact h2
    have e2 := (R.st (i + k + 1) c a hc h2').1
    have : b = c := w _ _ _ e1 e2
    subst this
    exact Row.ne w R i k b hb hc
theorem nodup_of_get {l : List Int} (h : ∀ (i k : Nat) (a : Int), l[i]? = some a → l[i + k + 1]? = some a → False) : l.Nodup := by
  induction l with
  | nil => exact List.nodup_nil
  | cons x r ih =>
    rw [List.nodup_cons]
    refine ⟨fun hm => ?_, ih fun i k a h1 h2 => ?_⟩
    · obtain ⟨j, hj⟩ := List.mem_iff_getElem?.mp hm
      exact h 0 j x rfl (by rw [Nat.zero_add]; exact hj)
    · refine h (i + 1) k a h1 ?_
      rw [show i + 1 + k + 1 = (i + k + 1) + 1 by omega]
      exact h2
theorem Row.nd {n : Int} {f : PF} {e : Int} {r : List Int} (w : WF n f) (R : Row f e r) : r.Nodup := nodup_of_get (R.ne w.inj)
theorem Row.dom {n : Int} {f : PF} {e : Int} {r : List Int} (w : WF n f) (R : Row f e r) (h1 : 0 ≤ e) (h2 : e < n) : ∀ x ∈ r, 0 ≤ x ∧ x < n := by
  intro x hx
  obtain ⟨i, hi⟩ := List.mem_iff_getElem?.mp hx
  cases i with
  | zero => rw [R.h0] at hi; cases hi; exact ⟨h1, h2⟩
  | succ i =>
    have l1 : i + 1 < r.length := (List.getElem?_eq_some_iff.mp hi).1
    obtain ⟨b, hb⟩ : ∃ b, r[i]? = some b := ⟨_, List.getElem?_eq_getElem (by omega)⟩
    have := w.dom _ _ (R.st i b x hb hi).1
    omega
theorem len_range {l : List Int} {n : Int} (nd : l.Nodup) (h : ∀ x ∈ l, 0 ≤ x ∧ x < n) : l.length ≤ n.toNat := by
  have : l.length ≤ ((List.range n.toNat).map fun (i : Nat) => (i : Int)).length := List.Nodup.length_le_of_subset nd (by
    intro x hx
    have := h x hx
    exact List.mem_map.mpr ⟨x.toNat, List.mem_range.mpr (by omega), Int.toNat_of_nonneg this.1⟩)
  simpa using this
theorem Row.more {f : PF} {e : Int} {pre : List Int} {z y : Int} (R : Row f e (pre ++ [z])) (h : f z = some y) (ne : y ≠ e) : Row f e (pre ++ [z] ++ [y]) := by
  refine ⟨?_, fun i a b h1 h2 => ?_⟩
  · rw [List.getElem?_append_left (by simp)]
    exact R.h0
  · by_cases hi : i + 1 < (pre ++ [z]).length
    · rw [List.getElem?_append_left hi] at h2
      rw [List.getElem?_append_left (by omega)] at h1
      exact R.st i a b h1 h2
    · have l2 : i + 1 < (pre ++ [z] ++ [y]).length := (List.getElem?_eq_some_iff.mp h2).1
      have e1 : i = pre.length := by simp at hi l2; omega
      subst e1
      rw [List.getElem?_append_left (by simp)] at h1
      have z1 : (pre ++ [z])[pre.length]? = some z := by simp
      rw [z1] at h1
      cases h1
      have z2 : (pre ++ [z] ++ [y])[pre.length + 1]? = some y := by simp
      rw [z2] at h2
      cases h2
      exact ⟨h, ne⟩
/-- f along an open row -/
theorem Row.openAt {f : PF} {e : Int} {r : List Int} (R : Row f e r) {z : Int} (hz : r[r.length - 1]? = some z) (hl : 0 < r.length) (ho : f z = none) (i : Nat) (a : Int) (hi : r[i]? = some a) : ∀ j : Nat, iter f j a = r[i + j]?
  | 0 => by rw [Nat.add_zero, hi]; rfl
  | j + 1 => by
    show (iter f j a).bind f = _
    rw [Row.openAt R hz hl ho i a hi j]
    cases e1 : r[i + j]? with
    | none =>
      have h1 := List.getElem?_eq_none_iff.mp e1
      exact (List.getElem?_eq_none_iff.mpr (by omega)).symm
    | some b =>
      show f b = _
      have l1 : i + j < r.length := (List.getElem?_eq_some_iff.mp e1).1
      cases e2 : r[i + (j + 1)]? with
      | some c => exact (R.st (i + j) b c e1 e2).1
      | none =>
        have h2 := List.getElem?_eq_none_iff.mp e2
        have : i + j = r.length - 1 := by omega
        rw [this, hz] at e1
        cases e1
        exact ho
/-- f along a closed row -/
theorem Row.closedAt {f : PF} {e : Int} {r : List Int} (R : Row f e r) {z : Int} (hz : r[r.length - 1]? = some z) (hl : 0 < r.length) (hc : f z = some e) (i : Nat) (a : Int) (hi : r[i]? = some a) : ∀ j : Nat, iter f j a = r[(i + j) % r.length]?
  | 0 => by
    have l1 : i < r.length := (List.getElem?_eq_some_iff.mp hi).1
    rw [Nat.add_zero, Nat.mod_eq_of_lt l1, hi]; rfl
  | j + 1 => by
    show (iter f j a).bind f = _
    rw [Row.closedAt R hz hl hc i a hi j]
    have l1 : (i + j) % r.length < r.length := Nat.mod_lt _ hl
    obtain ⟨b, e1⟩ : ∃ b, r[(i + j) % r.length]? = some b := ⟨_, List.getElem?_eq_getElem l1⟩
    rw [e1]
    show f b = _
    by_cases h : (i + j) % r.length = r.length - 1
    · rw [h, hz] at e1
      cases e1
      rw [hc]
      have : (i + (j + 1)) % r.length = 0 := by
        rw [show i + (j + 1) = (i + j) + 1 by omega, Nat.add_mod, h]
        by_cases h1 : r.length = 1
        · rw [h1]
        · rw [Nat.mod_eq_of_lt (show 1 < r.length by omega), show r.length - 1 + 1 = r.length by omega, Nat.mod_self]
      rw [this, R.h0]
    · have : (i + (j + 1)) % r.length = (i + j) % r.length + 1 := by
        rw [show i + (j + 1) = (i + j) + 1 by omega, Nat.add_mod]
        rw [Nat.mod_eq_of_lt (show 1 < r.length by omega), Nat.mod_eq_of_lt (by omega)]
      rw [this]
      obtain ⟨c, e2⟩ : ∃ c, r[(i + j) % r.length + 1]? = some c := ⟨_, List.getElem?_eq_getElem (by omega)⟩
      rw [e2]
      exact (R.st _ b c e1 e2).1
theorem wf_iter {n : Int} {f : PF} (w : WF n f) : ∀ k : Nat, WF n (iter f (k + 1))
  | 0 => w
  | k + 1 => wf_mul (wf_iter w k) w
end PM
namespace PM
open U
/-! ### the rules of the operators -/
theorem pf_ext {f g : PF} (h : ∀ x y, f x = some y ↔ g x = some y) : f = g := by
  funext x
  cases e : f x with
  | some y => exact ((h x y).mp e).symm
  | none =>
    cases e2 : g x with
    | none => rfl
    | some y => rw [(h x y).mpr e2] at e; cases e
theorem mul_iff {f g : PF} {x z : Int} : mul f g x = some z ↔ ∃ y, f x = some y ∧ g y = some z := by
  unfold mul
  cases e : f x with
  | none => simp
  | some y => simp
theorem idn_iff {n x y : Int} : idn n x = some y ↔ x = y ∧ 0 ≤ x ∧ x < n := by
  unfold idn
  split
  · rename_i h
    constructor
    · intro e; cases e; exact ⟨rfl, h⟩
    · rintro ⟨rfl, _⟩; rfl
  · rename_i h
    constructor
    · intro e; cases e
    · rintro ⟨_, q⟩; exact absurd q h
/-! ### parts -/
/-! ### powers -/
end PM
namespace PM
open U
/-! ### rows told by their first element -/
def IsRow (f : PF) (e : Int) (r : List Int) : Prop := ∃ pre z, r = pre ++ [z] ∧ Row f e r ∧ (f z = none ∨ f z = some e)
theorem IsRow.get {f : PF} {e : Int} {r r' : List Int} (h : IsRow f e r) (h' : IsRow f e r') : ∀ (i : Nat) (a : Int), r[i]? = some a → r'[i]? = some a
  | 0, a, e1 => by
    obtain ⟨_, _, _, R, _⟩ := h
    obtain ⟨_, _, _, R', _⟩ := h'
    rw [R.h0] at e1
    rw [R'.h0]
    exact e1
  | i + 1, a, e1 => by
    have ih := IsRow.get h h' i
    obtain ⟨_, _, _, R, _⟩ := h
    obtain ⟨pre', z', q', R', st'⟩ := h'
    have l1 : i + 1 < r.length := (List.getElem?_eq_some_iff.mp e1).1
    obtain ⟨b, hb⟩ : ∃ b, r[i]? = some b := ⟨_, List.getElem?_eq_getElem (by omega)⟩
    obtain ⟨f1, ne⟩ := R.st i b a hb e1
    have hb' := ih b hb
    cases e2 : r'[i + 1]? with
    | some c =>
      have := (R'.st i b c hb' e2).1
      rw [f1] at this
      exact this.symm
    | none =>
      exfalso
      have l2 : i < r'.length := (List.getElem?_eq_some_iff.mp hb').1
      have l3 := List.getElem?_eq_none_iff.mp e2
      subst q'
      rw [List.length_append, List.length_singleton] at l2 l3
      have ei : i = pre'.length := by omega
      subst ei
      have : (pre' ++ [z'])[pre'.length]? = some z' := by simp
      rw [this] at hb'
      cases hb'
      rcases st' with q | q
      · rw [f1] at q; cases q
      · rw [f1] at q; exact ne (Option.some.inj q)
theorem IsRow.uniq {f : PF} {e : Int} {r r' : List Int} (h : IsRow f e r) (h' : IsRow f e r') : r = r' := by
  apply List.ext_getElem?
  intro i
  cases e1 : r[i]? with
  | some a => exact (h.get h' i a e1).symm
  | none =>
    cases e2 : r'[i]? with
    | none => rfl
    | some a => rw [h'.get h i a e2] at e1; cases e1
theorem ex_row {n : Int} {f : PF} {e : Int} (w : WF n f) (h1 : 0 ≤ e) (h2 : e < n) : ∃ r, IsRow f e r := by
  refine Classical.byContradiction fun no => ?_
  have key : ∀ k : Nat, ∃ pre z, pre.length = k ∧ Row f e (pre ++ [z]) := by
    intro k
    induction k with
    | zero => exact ⟨[], e, rfl, rfl, fun i a b h1 h2 => by simp at h2⟩
    | succ k ih =>
      obtain ⟨pre, z, hl, R⟩ := ih
      cases hz : f z with
      | none => exact absurd ⟨_, pre, z, rfl, R, .inl hz⟩ no
      | some y =>
        by_cases hy : y = e
        · subst hy; exact absurd ⟨_, pre, z, rfl, R, .inr hz⟩ no
        · exact ⟨pre ++ [z], y, by simp [hl], R.more hz hy⟩
  obtain ⟨pre, z, hl, R⟩ := key n.toNat
  have := len_range (R.nd w) (R.dom w h1 h2)
  rw [List.length_append, List.length_singleton] at this
  omega
open Classical in
noncomputable def rowN (f : PF) (e : Int) : List Int := if h : ∃ r, IsRow f e r then h.choose else []
theorem rowN_eq {f : PF} {e : Int} {r : List Int} (h : IsRow f e r) : rowN f e = r := by
  have hx : ∃ r, IsRow f e r := ⟨r, h⟩
  unfold rowN
  rw [dif_pos hx]
  exact hx.choose_spec.uniq h
theorem rowN_is {n : Int} {f : PF} {e : Int} (w : WF n f) (h1 : 0 ≤ e) (h2 : e < n) : IsRow f e (rowN f e) := by
  obtain ⟨r, h⟩ := ex_row w h1 h2
  rw [rowN_eq h]
  exact h
theorem IsRow.head {f : PF} {e : Int} {r : List Int} (h : IsRow f e r) : r[0]? = some e := by
  obtain ⟨_, _, _, R, _⟩ := h
  exact R.h0
theorem IsRow.mem {f : PF} {e : Int} {r : List Int} (h : IsRow f e r) : e ∈ r := List.mem_of_getElem? h.head
theorem IsRow.dom {n : Int} {f : PF} {e : Int} {r : List Int} (w : WF n f) (h : IsRow f e r) (h1 : 0 ≤ e) (h2 : e < n) : ∀ x ∈ r, 0 ≤ x ∧ x < n := by
  obtain ⟨_, _, _, R, _⟩ := h
  exact R.dom w h1 h2
theorem IsRow.nd {n : Int} {f : PF} {e : Int} {r : List Int} (w : WF n f) (h : IsRow f e r) : r.Nodup := by
  obtain ⟨_, _, _, R, _⟩ := h
  exact R.nd w
/-! ### which rows are begun -/
noncomputable def seenL (f : PF) (s : List Int) : List Int := (s.map (rowN f)).flatten
theorem mem_seenL {f : PF} {s : List Int} {x : Int} : x ∈ seenL f s ↔ ∃ e ∈ s, x ∈ rowN f e := by
  unfold seenL
  rw [List.mem_flatten]
  constructor
  · rintro ⟨r, hr, hx⟩
    obtain ⟨e, he, rfl⟩ := List.mem_map.mp hr
    exact ⟨e, he, hx⟩
  · rintro ⟨e, he, hx⟩
    exact ⟨_, List.mem_map.mpr ⟨e, he, rfl⟩, hx⟩
noncomputable def stp (f : PF) (s : List Int) (x : Int) : List Int := if x ∈ seenL f s then s else s ++ [x]
def rgI (n : Nat) : List Int := (List.range n).map fun (i : Nat) => (i : Int)
theorem mem_rgI {n : Nat} {x : Int} : x ∈ rgI n ↔ 0 ≤ x ∧ x < (n : Int) := by
  unfold rgI
  rw [List.mem_map]
  constructor
  · rintro ⟨i, hi, rfl⟩
    rw [List.mem_range] at hi
    omega
  · rintro ⟨h1, h2⟩
    exact ⟨x.toNat, List.mem_range.mpr (by omega), by omega⟩
theorem rgI_succ (n : Nat) : rgI (n + 1) = rgI n ++ [(n : Int)] := by
  unfold rgI
  rw [List.range_succ, List.map_append]
  rfl
theorem rgI_lt (n : Nat) : (rgI n).Pairwise (· < ·) := by
  induction n with
  | zero => exact List.Pairwise.nil
  | succ n ih =>
    rw [rgI_succ, List.pairwise_append]
    refine ⟨ih, List.pairwise_singleton _ _, fun a ha b hb => ?_⟩
    have := mem_rgI.mp ha
    rw [List.mem_singleton] at hb
    omega
theorem nodup_of_lt {l : List Int} (h : l.Pairwise (· < ·)) : l.Nodup := List.Pairwise.imp (fun {a b} h => by omega) h
/-! ### closed rows -/
/-! ### all parts -/
/-! ### ordered by the first elements -/
end PM
namespace PM
open U
/-! ### powers by the law's own way; great exponents -/
theorem id_mul' {n : Int} {f : PF} (w : WF n f) : mul (idn n) f = f := by
  refine pf_ext fun x z => ?_
  rw [mul_iff]
  constructor
  · rintro ⟨y, h1, h2⟩
    obtain ⟨rfl, _⟩ := idn_iff.mp h1
    exact h2
  · intro h
    have := w.dom x z h
    exact ⟨x, idn_iff.mpr ⟨rfl, this.1, this.2.1⟩, h⟩
def pk (n : Int) (f : PF) : Nat → PF
  | 0 => idn n
  | k + 1 => iter f (k + 1)
theorem pk_succ {n : Int} {f : PF} (w : WF n f) (k : Nat) : mul (pk n f k) f = pk n f (k + 1) := by
  cases k with
  | zero => exact id_mul' w
  | succ k => rfl
theorem wf_pk {n : Int} {f : PF} (w : WF n f) : ∀ k : Nat, WF n (pk n f k)
  | 0 => wf_idn n
  | k + 1 => wf_iter w k
end PM
namespace PM
open U
/-! ### where powers repeat -/
end PM
namespace My
open PySem L2
def top (i : Nat) : Stmt := PySem.Challenge.pw_chainmaps_k73_keeping_sessions.main.body.getD i (.Pass ⟨0, 0, 0, 0⟩)
abbrev s_is_integer : Stmt := top 16
abbrev n_is_integer : List Str := ["value"]
theorem sc_is_integer : FnScope n_is_integer ["value"] (defScope s_is_integer) := ⟨rfl, rfl, rfl, by decide +kernel, rfl, by decide +kernel, by decide +kernel⟩
abbrev s_in_range : Stmt := top 17
abbrev n_in_range : List Str := ["value", "least", "most"]
theorem sc_in_range : FnScope n_in_range ["value", "least", "most"] (defScope s_in_range) := ⟨rfl, rfl, rfl, by decide +kernel, rfl, by decide +kernel, by decide +kernel⟩
abbrev s_check_size : Stmt := top 18
abbrev n_check_size : List Str := ["size"]
theorem sc_check_size : FnScope n_check_size ["size"] (defScope s_check_size) := ⟨rfl, rfl, rfl, by decide +kernel, rfl, by decide +kernel, by decide +kernel⟩
abbrev s_are_arrows : Stmt := top 20
abbrev n_are_arrows : List Str := ["size", "arrows", "targets", "source", "target"]
theorem sc_are_arrows : FnScope n_are_arrows ["size", "arrows"] (defScope s_are_arrows) := ⟨rfl, rfl, rfl, by decide +kernel, rfl, by decide +kernel, by decide +kernel⟩
abbrev s_common_size : Stmt := top 21
abbrev n_common_size : List Str := ["one", "other"]
theorem sc_common_size : FnScope n_common_size ["one", "other"] (defScope s_common_size) := ⟨rfl, rfl, rfl, by decide +kernel, rfl, by decide +kernel, by decide +kernel⟩
abbrev s_row_from : Stmt := top 22
abbrev n_row_from : List Str := ["arrows", "element", "row"]
theorem sc_row_from : FnScope n_row_from ["arrows", "element"] (defScope s_row_from) := ⟨rfl, rfl, rfl, by decide +kernel, rfl, by decide +kernel, by decide +kernel⟩
abbrev s_moved : Stmt := top 23
abbrev n_moved : List Str := ["arrows", "steps", "found", "seen", "targets", "source", "row", "closed", "place", "element", "target"]
theorem sc_moved : FnScope n_moved ["arrows", "steps"] (defScope s_moved) := ⟨rfl, rfl, rfl, by decide +kernel, rfl, by decide +kernel, by decide +kernel⟩
abbrev s_check_map : Stmt := top 27
abbrev n_check_map : List Str := ["value"]
theorem sc_check_map : FnScope n_check_map ["value"] (defScope s_check_map) := ⟨rfl, rfl, rfl, by decide +kernel, rfl, by decide +kernel, by decide +kernel⟩
abbrev s_check_maps : Stmt := top 28
abbrev n_check_maps : List Str := ["one", "other"]
theorem sc_check_maps : FnScope n_check_maps ["one", "other"] (defScope s_check_maps) := ⟨rfl, rfl, rfl, by decide +kernel, rfl, by decide +kernel, by decide +kernel⟩
abbrev s_is_step : Stmt := top 30
abbrev n_is_step : List Str := ["size", "value", "element"]
theorem sc_is_step : FnScope n_is_step ["size", "value"] (defScope s_is_step) := ⟨rfl, rfl, rfl, by decide +kernel, rfl, by decide +kernel, by decide +kernel⟩
abbrev s_first_invalid : Stmt := top 31
abbrev n_first_invalid : List Str := ["size", "value", "position", "step"]
theorem sc_first_invalid : FnScope n_first_invalid ["size", "value"] (defScope s_first_invalid) := ⟨rfl, rfl, rfl, by decide +kernel, rfl, by decide +kernel, by decide +kernel⟩
abbrev s_after_list : Stmt := top 32
abbrev n_after_list : List Str := ["arrows", "steps", "found", "places", "step", "one", "other", "source", "target"]
theorem sc_after_list : FnScope n_after_list ["arrows", "steps"] (defScope s_after_list) := ⟨rfl, rfl, rfl, by decide +kernel, rfl, by decide +kernel, by decide +kernel⟩
abbrev s_is_name : Stmt := top 35
abbrev n_is_name : List Str := ["value", "sign"]
theorem sc_is_name : FnScope n_is_name ["value"] (defScope s_is_name) := ⟨rfl, rfl, rfl, by decide +kernel, rfl, by decide +kernel, by decide +kernel⟩
abbrev s_check_user : Stmt := top 36
abbrev n_check_user : List Str := ["value"]
theorem sc_check_user : FnScope n_check_user ["value"] (defScope s_check_user) := ⟨rfl, rfl, rfl, by decide +kernel, rfl, by decide +kernel, by decide +kernel⟩
abbrev s_Map__init : Stmt := inClass (top 24) 0
abbrev n_Map__init : List Str := ["self", "size", "arrows", "source"]
theorem sc_Map__init : FnScope n_Map__init ["self", "size", "arrows"] (defScope s_Map__init) := ⟨rfl, rfl, rfl, by decide +kernel, rfl, by decide +kernel, by decide +kernel⟩
abbrev s_Map_identity : Stmt := inClass (top 24) 1
abbrev n_Map_identity : List Str := ["cls", "size", "element"]
theorem sc_Map_identity : FnScope n_Map_identity ["cls", "size"] (defScope s_Map_identity) := ⟨rfl, rfl, rfl, by decide +kernel, rfl, by decide +kernel, by decide +kernel⟩
abbrev s_Map_size : Stmt := inClass (top 24) 6
abbrev n_Map_size : List Str := ["self"]
theorem sc_Map_size : FnScope n_Map_size ["self"] (defScope s_Map_size) := ⟨rfl, rfl, rfl, by decide +kernel, rfl, by decide +kernel, by decide +kernel⟩
abbrev s_Map_arrows : Stmt := inClass (top 24) 7
abbrev n_Map_arrows : List Str := ["self"]
theorem sc_Map_arrows : FnScope n_Map_arrows ["self"] (defScope s_Map_arrows) := ⟨rfl, rfl, rfl, by decide +kernel, rfl, by decide +kernel, by decide +kernel⟩
abbrev s_Map__mul : Stmt := inClass (top 24) 8
abbrev n_Map__mul : List Str := ["self", "other", "size", "later", "source", "target"]
theorem sc_Map__mul : FnScope n_Map__mul ["self", "other"] (defScope s_Map__mul) := ⟨rfl, rfl, rfl, by decide +kernel, rfl, by decide +kernel, by decide +kernel⟩
abbrev s_Map__invert : Stmt := inClass (top 24) 9
abbrev s_Map_power : Stmt := inClass (top 24) 10
abbrev n_Map_power : List Str := ["self", "exponent", "arrows", "source", "target"]
theorem sc_Map_power : FnScope n_Map_power ["self", "exponent"] (defScope s_Map_power) := ⟨rfl, rfl, rfl, by decide +kernel, rfl, by decide +kernel, by decide +kernel⟩
abbrev s_Map__eq : Stmt := inClass (top 24) 25
abbrev n_Map__eq : List Str := ["self", "other"]
theorem sc_Map__eq : FnScope n_Map__eq ["self", "other"] (defScope s_Map__eq) := ⟨rfl, rfl, rfl, by decide +kernel, rfl, by decide +kernel, by decide +kernel⟩
abbrev s_Map__len : Stmt := inClass (top 24) 24
abbrev n_Map__len : List Str := ["self"]
theorem sc_Map__len : FnScope n_Map__len ["self"] (defScope s_Map__len) := ⟨rfl, rfl, rfl, by decide +kernel, rfl, by decide +kernel, by decide +kernel⟩
abbrev s_Session__init : Stmt := inClass (top 37) 0
abbrev n_Session__init : List Str := ["self", "size"]
theorem sc_Session__init : FnScope n_Session__init ["self", "size"] (defScope s_Session__init) := ⟨rfl, rfl, rfl, by decide +kernel, rfl, by decide +kernel, by decide +kernel⟩
abbrev s_Session_present : Stmt := inClass (top 37) 1
abbrev n_Session_present : List Str := ["self"]
theorem sc_Session_present : FnScope n_Session_present ["self"] (defScope s_Session_present) := ⟨rfl, rfl, rfl, by decide +kernel, rfl, by decide +kernel, by decide +kernel⟩
abbrev s_Session_log : Stmt := inClass (top 37) 2
abbrev n_Session_log : List Str := ["self"]
theorem sc_Session_log : FnScope n_Session_log ["self"] (defScope s_Session_log) := ⟨rfl, rfl, rfl, by decide +kernel, rfl, by decide +kernel, by decide +kernel⟩
abbrev s_Session_check_next : Stmt := inClass (top 37) 3
abbrev n_Session_check_next : List Str := ["self", "later"]
theorem sc_Session_check_next : FnScope n_Session_check_next ["self", "later"] (defScope s_Session_check_next) := ⟨rfl, rfl, rfl, by decide +kernel, rfl, by decide +kernel, by decide +kernel⟩
abbrev s_Session_change_to : Stmt := inClass (top 37) 4
abbrev n_Session_change_to : List Str := ["self", "user", "action", "later"]
theorem sc_Session_change_to : FnScope n_Session_change_to ["self", "user", "action", "later"] (defScope s_Session_change_to) := ⟨rfl, rfl, rfl, by decide +kernel, rfl, by decide +kernel, by decide +kernel⟩
abbrev s_Session_apply : Stmt := inClass (top 37) 5
abbrev n_Session_apply : List Str := ["self", "user", "factor"]
theorem sc_Session_apply : FnScope n_Session_apply ["self", "user", "factor"] (defScope s_Session_apply) := ⟨rfl, rfl, rfl, by decide +kernel, rfl, by decide +kernel, by decide +kernel⟩
abbrev s_Session_raise_to : Stmt := inClass (top 37) 6
abbrev n_Session_raise_to : List Str := ["self", "user", "exponent"]
theorem sc_Session_raise_to : FnScope n_Session_raise_to ["self", "user", "exponent"] (defScope s_Session_raise_to) := ⟨rfl, rfl, rfl, by decide +kernel, rfl, by decide +kernel, by decide +kernel⟩
abbrev s_Session_do_steps : Stmt := inClass (top 37) 7
abbrev n_Session_do_steps : List Str := ["self", "user", "steps", "problem", "later"]
theorem sc_Session_do_steps : FnScope n_Session_do_steps ["self", "user", "steps"] (defScope s_Session_do_steps) := ⟨rfl, rfl, rfl, by decide +kernel, rfl, by decide +kernel, by decide +kernel⟩
abbrev s_Session_undo : Stmt := inClass (top 37) 8
abbrev n_Session_undo : List Str := ["self", "user"]
theorem sc_Session_undo : FnScope n_Session_undo ["self", "user"] (defScope s_Session_undo) := ⟨rfl, rfl, rfl, by decide +kernel, rfl, by decide +kernel, by decide +kernel⟩
abbrev s_Session_at : Stmt := inClass (top 37) 9
abbrev n_Session_at : List Str := ["self", "number"]
theorem sc_Session_at : FnScope n_Session_at ["self", "number"] (defScope s_Session_at) := ⟨rfl, rfl, rfl, by decide +kernel, rfl, by decide +kernel, by decide +kernel⟩
abbrev s_Session__len : Stmt := inClass (top 37) 14
abbrev n_Session__len : List Str := ["self"]
theorem sc_Session__len : FnScope n_Session__len ["self"] (defScope s_Session__len) := ⟨rfl, rfl, rfl, by decide +kernel, rfl, by decide +kernel, by decide +kernel⟩
abbrev s_KeepingSession__init : Stmt := inClass (top 38) 0
abbrev n_KeepingSession__init : List Str := ["self", "size", "least", "__class__"]
theorem sc_KeepingSession__init : NdefX.NScope n_KeepingSession__init ["self", "size", "least"] ["__class__"] (defScope s_KeepingSession__init) := NdefX.nscope_by (by decide +kernel)
abbrev s_KeepingSession_least : Stmt := inClass (top 38) 1
abbrev n_KeepingSession_least : List Str := ["self"]
theorem sc_KeepingSession_least : FnScope n_KeepingSession_least ["self"] (defScope s_KeepingSession_least) := ⟨rfl, rfl, rfl, by decide +kernel, rfl, by decide +kernel, by decide +kernel⟩
abbrev s_KeepingSession_check_next : Stmt := inClass (top 38) 2
abbrev n_KeepingSession_check_next : List Str := ["self", "later", "__class__"]
theorem sc_KeepingSession_check_next : NdefX.NScope n_KeepingSession_check_next ["self", "later"] ["__class__"] (defScope s_KeepingSession_check_next) := NdefX.nscope_by (by decide +kernel)
abbrev s_NothingToUndo__init : Stmt := inClass (top 12) 0
abbrev n_NothingToUndo__init : List Str := ["self", "user"]
theorem sc_NothingToUndo__init : FnScope n_NothingToUndo__init ["self", "user"] (defScope s_NothingToUndo__init) := ⟨rfl, rfl, rfl, by decide +kernel, rfl, by decide +kernel, by decide +kernel⟩
abbrev s_NotLast__init : Stmt := inClass (top 11) 0
abbrev n_NotLast__init : List Str := ["self", "user"]
theorem sc_NotLast__init : FnScope n_NotLast__init ["self", "user"] (defScope s_NotLast__init) := ⟨rfl, rfl, rfl, by decide +kernel, rfl, by decide +kernel, by decide +kernel⟩
abbrev s_TooFew__init : Stmt := inClass (top 13) 0
abbrev n_TooFew__init : List Str := ["self", "number"]
theorem sc_TooFew__init : FnScope n_TooFew__init ["self", "number"] (defScope s_TooFew__init) := ⟨rfl, rfl, rfl, by decide +kernel, rfl, by decide +kernel, by decide +kernel⟩
abbrev s_InvalidNumber__init : Stmt := inClass (top 5) 0
abbrev s_InvalidMap__init : Stmt := inClass (top 2) 0
abbrev n_InvalidMap__init : List Str := ["self", "part"]
theorem sc_InvalidMap__init : FnScope n_InvalidMap__init ["self", "part"] (defScope s_InvalidMap__init) := ⟨rfl, rfl, rfl, by decide +kernel, rfl, by decide +kernel, by decide +kernel⟩
abbrev s_SizeMismatch__init : Stmt := inClass (top 7) 0
abbrev s_l_hand : Stmt := top 40
abbrev n_l_hand : List Str := ["_law_script", "_law_k", "_law_cell", "_law_seed"]
theorem sc_l_hand : FnScope n_l_hand ["_law_script", "_law_k"] (defScope s_l_hand) := ⟨rfl, rfl, rfl, by decide +kernel, rfl, by decide +kernel, by decide +kernel⟩
abbrev s_l_draw : Stmt := top 41
abbrev n_l_draw : List Str := ["_law_pool", "_law_size", "_law_found"]
theorem sc_l_draw : FnScope n_l_draw ["_law_pool", "_law_size"] (defScope s_l_draw) := ⟨rfl, rfl, rfl, by decide +kernel, rfl, by decide +kernel, by decide +kernel⟩
abbrev s_l_arrows : Stmt := top 42
abbrev n_l_arrows : List Str := ["_law_pool", "_law_size", "_law_left", "_law_found", "_law_rare", "_law_source"]
theorem sc_l_arrows : FnScope n_l_arrows ["_law_pool", "_law_size"] (defScope s_l_arrows) := ⟨rfl, rfl, rfl, by decide +kernel, rfl, by decide +kernel, by decide +kernel⟩
abbrev s_l_product : Stmt := top 43
abbrev n_l_product : List Str := ["_law_one", "_law_other", "_law_source"]
theorem sc_l_product : FnScope n_l_product ["_law_one", "_law_other"] (defScope s_l_product) := ⟨rfl, rfl, rfl, by decide +kernel, rfl, by decide +kernel, by decide +kernel⟩
abbrev s_l_full : Stmt := top 44
abbrev n_l_full : List Str := ["_law_size", "_law_source"]
theorem sc_l_full : FnScope n_l_full ["_law_size"] (defScope s_l_full) := ⟨rfl, rfl, rfl, by decide +kernel, rfl, by decide +kernel, by decide +kernel⟩
abbrev s_l_inverse : Stmt := top 45
abbrev n_l_inverse : List Str := ["_law_table", "_law_source"]
theorem sc_l_inverse : FnScope n_l_inverse ["_law_table"] (defScope s_l_inverse) := ⟨rfl, rfl, rfl, by decide +kernel, rfl, by decide +kernel, by decide +kernel⟩
abbrev s_l_power : Stmt := top 46
abbrev n_l_power : List Str := ["_law_table", "_law_size", "_law_exponent", "_law_found", "_law_turn"]
theorem sc_l_power : FnScope n_l_power ["_law_table", "_law_size", "_law_exponent"] (defScope s_l_power) := ⟨rfl, rfl, rfl, by decide +kernel, rfl, by decide +kernel, by decide +kernel⟩
abbrev s_l_step : Stmt := top 47
abbrev n_l_step : List Str := ["_law_pool", "_law_size", "_law_one"]
theorem sc_l_step : FnScope n_l_step ["_law_pool", "_law_size"] (defScope s_l_step) := ⟨rfl, rfl, rfl, by decide +kernel, rfl, by decide +kernel, by decide +kernel⟩
abbrev s_l_stepped : Stmt := top 48
abbrev n_l_stepped : List Str := ["_law_table", "_law_step_here", "_law_found", "_law_names", "_law_source"]
theorem sc_l_stepped : FnScope n_l_stepped ["_law_table", "_law_step_here"] (defScope s_l_stepped) := ⟨rfl, rfl, rfl, by decide +kernel, rfl, by decide +kernel, by decide +kernel⟩
abbrev s_l_caught : Stmt := top 49
abbrev n_l_caught : List Str := ["_law_call", "e"]
theorem sc_l_caught : FnScope n_l_caught ["_law_call"] (defScope s_l_caught) := ⟨rfl, rfl, rfl, by decide +kernel, rfl, by decide +kernel, by decide +kernel⟩
abbrev s_l_planned : Stmt := top 50
abbrev n_l_planned : List Str := ["_law_pool", "_law_size", "_law_table", "_law_way", "_law_factor", "_law_exponent", "_law_moves", "_law_later", "_law_step_here", "_law_turn"]
theorem sc_l_planned : FnScope n_l_planned ["_law_pool", "_law_size", "_law_table"] (defScope s_l_planned) := ⟨rfl, rfl, rfl, by decide +kernel, rfl, by decide +kernel, by decide +kernel⟩
abbrev s_l_done : Stmt := top 51
abbrev n_l_done : List Str := ["_law_session", "_law_size", "_law_user", "_law_plan", "_law_way", "_law_item", "e"]
theorem sc_l_done : FnScope n_l_done ["_law_session", "_law_size", "_law_user", "_law_plan"] (defScope s_l_done) := ⟨rfl, rfl, rfl, by decide +kernel, rfl, by decide +kernel, by decide +kernel⟩
abbrev s_law : Stmt := top 52
abbrev n_law : List Str := ["_law_script", "_law_k", "_law_pool", "_law_size", "_law_least", "_law_session", "_law_tables", "_law_log", "_law_turn", "_law_user", "_law_told", "_law_due", "_law_plan", "_law_number", "_law_table"]
theorem sc_law : FnScope n_law ["_law_script"] (defScope s_law) := ⟨rfl, rfl, rfl, by decide +kernel, rfl, by decide +kernel, by decide +kernel⟩
def fileOf (vs : Array Value) : Option Str := match (vs[2]? : Option Value) with | some (Value.str y _) => some y | _ => none
theorem file_of {vs : Array Value} {x : Str} (h : fileOf vs = some x) : ∃ t, vs[2]? = some (.str x t) := by
  unfold fileOf at h
  split at h
  · rename_i y t e
    cases h
    exact ⟨t, e⟩
  · cases h
set_option genInjectivity false
set_option genSizeOf false
structure Txt (K : PySem.W.Frag) (mg : Str → Option Value) where
  f_is_integer : Addr
  f_in_range : Addr
  f_check_size : Addr
  f_are_arrows : Addr
  f_common_size : Addr
  f_row_from : Addr
  f_moved : Addr
  f_check_map : Addr
  f_check_maps : Addr
  f_is_step : Addr
  f_first_invalid : Addr
  f_after_list : Addr
  f_is_name : Addr
  f_check_user : Addr
  f_l_hand : Addr
  f_l_draw : Addr
  f_l_arrows : Addr
  f_l_product : Addr
  f_l_full : Addr
  f_l_inverse : Addr
  f_l_power : Addr
  f_l_step : Addr
  f_l_stepped : Addr
  f_l_caught : Addr
  f_l_planned : Addr
  f_l_done : Addr
  f_law : Addr
  c_law : Addr
  P_law : Addr
  C_Map : Addr
  f_Map__init : Addr
  p_Map_identity : Addr
  f_Map_identity : Addr
  p_Map_size : Addr
  f_Map_size : Addr
  p_Map_arrows : Addr
  f_Map_arrows : Addr
  f_Map__mul : Addr
  f_Map__invert : Addr
  f_Map_power : Addr
  f_Map__eq : Addr
  f_Map__len : Addr
  C_Session : Addr
  f_Session__init : Addr
  p_Session_present : Addr
  f_Session_present : Addr
  f_Session_log : Addr
  f_Session_check_next : Addr
  f_Session_change_to : Addr
  f_Session_apply : Addr
  f_Session_raise_to : Addr
  f_Session_do_steps : Addr
  f_Session_undo : Addr
  f_Session_at : Addr
  f_Session__len : Addr
  C_KeepingSession : Addr
  f_KeepingSession__init : Addr
  c_KeepingSession__init : Addr
  cc_KeepingSession__init : Addr
  p_KeepingSession_least : Addr
  f_KeepingSession_least : Addr
  f_KeepingSession_check_next : Addr
  c_KeepingSession_check_next : Addr
  cc_KeepingSession_check_next : Addr
  C_NothingToUndo : Addr
  f_NothingToUndo__init : Addr
  C_NotLast : Addr
  f_NotLast__init : Addr
  C_TooFew : Addr
  f_TooFew__init : Addr
  C_InvalidNumber : Addr
  f_InvalidNumber__init : Addr
  C_InvalidMap : Addr
  f_InvalidMap__init : Addr
  C_SizeMismatch : Addr
  f_SizeMismatch__init : Addr
  A_is_integer : U.FnAt K "is_integer" "is_integer" s_is_integer f_is_integer ["value"]
  g_is_integer : mg "is_integer" = some (.ref f_is_integer)
  A_in_range : U.FnAt K "in_range" "in_range" s_in_range f_in_range ["value", "least", "most"]
  g_in_range : mg "in_range" = some (.ref f_in_range)
  A_check_size : U.FnAt K "check_size" "check_size" s_check_size f_check_size ["size"]
  g_check_size : mg "check_size" = some (.ref f_check_size)
  A_are_arrows : U.FnAt K "are_arrows" "are_arrows" s_are_arrows f_are_arrows ["size", "arrows"]
  g_are_arrows : mg "are_arrows" = some (.ref f_are_arrows)
  A_common_size : U.FnAt K "common_size" "common_size" s_common_size f_common_size ["one", "other"]
  g_common_size : mg "common_size" = some (.ref f_common_size)
  A_row_from : U.FnAt K "row_from" "row_from" s_row_from f_row_from ["arrows", "element"]
  g_row_from : mg "row_from" = some (.ref f_row_from)
  A_moved : U.FnAt K "moved" "moved" s_moved f_moved ["arrows", "steps"]
  g_moved : mg "moved" = some (.ref f_moved)
  A_check_map : U.FnAt K "check_map" "check_map" s_check_map f_check_map ["value"]
  g_check_map : mg "check_map" = some (.ref f_check_map)
  A_check_maps : U.FnAt K "check_maps" "check_maps" s_check_maps f_check_maps ["one", "other"]
  g_check_maps : mg "check_maps" = some (.ref f_check_maps)
  A_is_step : U.FnAt K "is_step" "is_step" s_is_step f_is_step ["size", "value"]
  g_is_step : mg "is_step" = some (.ref f_is_step)
  A_first_invalid : U.FnAt K "first_invalid" "first_invalid" s_first_invalid f_first_invalid ["size", "value"]
  g_first_invalid : mg "first_invalid" = some (.ref f_first_invalid)
  A_after_list : U.FnAt K "after_list" "after_list" s_after_list f_after_list ["arrows", "steps"]
  g_after_list : mg "after_list" = some (.ref f_after_list)
  A_is_name : U.FnAt K "is_name" "is_name" s_is_name f_is_name ["value"]
  g_is_name : mg "is_name" = some (.ref f_is_name)
  A_check_user : U.FnAt K "check_user" "check_user" s_check_user f_check_user ["value"]
  g_check_user : mg "check_user" = some (.ref f_check_user)
  A_l_hand : U.FnAt K "_law_hand" "_law_hand" s_l_hand f_l_hand ["_law_script", "_law_k"]
  g_l_hand : mg "_law_hand" = some (.ref f_l_hand)
  A_l_draw : U.FnAt K "_law_draw" "_law_draw" s_l_draw f_l_draw ["_law_pool", "_law_size"]
  g_l_draw : mg "_law_draw" = some (.ref f_l_draw)
  A_l_arrows : U.FnAt K "_law_arrows" "_law_arrows" s_l_arrows f_l_arrows ["_law_pool", "_law_size"]
  g_l_arrows : mg "_law_arrows" = some (.ref f_l_arrows)
  A_l_product : U.FnAt K "_law_product" "_law_product" s_l_product f_l_product ["_law_one", "_law_other"]
  g_l_product : mg "_law_product" = some (.ref f_l_product)
  A_l_full : U.FnAt K "_law_full" "_law_full" s_l_full f_l_full ["_law_size"]
  g_l_full : mg "_law_full" = some (.ref f_l_full)
  A_l_inverse : U.FnAt K "_law_inverse" "_law_inverse" s_l_inverse f_l_inverse ["_law_table"]
  g_l_inverse : mg "_law_inverse" = some (.ref f_l_inverse)
  A_l_power : U.FnAt K "_law_power" "_law_power" s_l_power f_l_power ["_law_table", "_law_size", "_law_exponent"]
  g_l_power : mg "_law_power" = some (.ref f_l_power)
  A_l_step : U.FnAt K "_law_step" "_law_step" s_l_step f_l_step ["_law_pool", "_law_size"]
  g_l_step : mg "_law_step" = some (.ref f_l_step)
  A_l_stepped : U.FnAt K "_law_stepped" "_law_stepped" s_l_stepped f_l_stepped ["_law_table", "_law_step_here"]
  g_l_stepped : mg "_law_stepped" = some (.ref f_l_stepped)
  A_l_caught : U.FnAt K "_law_caught" "_law_caught" s_l_caught f_l_caught ["_law_call"]
  g_l_caught : mg "_law_caught" = some (.ref f_l_caught)
  A_l_planned : U.FnAt K "_law_planned" "_law_planned" s_l_planned f_l_planned ["_law_pool", "_law_size", "_law_table"]
  g_l_planned : mg "_law_planned" = some (.ref f_l_planned)
  A_l_done : U.FnAt K "_law_done" "_law_done" s_l_done f_l_done ["_law_session", "_law_size", "_law_user", "_law_plan"]
  g_l_done : mg "_law_done" = some (.ref f_l_done)
  tm_law : P_law = 835
  hd_law : PySem.W.codeHdIn K c_law P_law = true
  nt_law : K.lookup P_law = none
  B_law : U.CodeAt K "law" "law" s_law f_law c_law ["_law_script"]
  K_law : PySem.W.keepIn K (.ref f_law) = true
  L_law : ∃ fd, Fun K "law" "law" s_law f_law fd ∧ ∀ (s : Shared) (u : Value), BindsTo s fd ⟨[u], []⟩ [("_law_script", u)]
  g_law : mg "law" = some (.ref f_law)
  g_Map : mg "Map" = some (.ref C_Map)
  o_Map : U.OwnC K C_Map
  kit_int_Map : PySem.W.kitOne K (.ref C_Map) (.type "int") = some false
  kit_bool_Map : PySem.W.kitOne K (.ref C_Map) (.type "bool") = some false
  kit_str_Map : PySem.W.kitOne K (.ref C_Map) (.type "str") = some false
  kit_tuple_Map : PySem.W.kitOne K (.ref C_Map) (.type "tuple") = some false
  kit_list_Map : PySem.W.kitOne K (.ref C_Map) (.type "list") = some false
  kn_NoneType_Map : PySem.W.kitOne K (.type "NoneType") (.ref C_Map) = some false
  nf_NoneType_Map : PySem.W.notFirst K C_Map (.type "NoneType") = true
  kn_int_Map : PySem.W.kitOne K (.type "int") (.ref C_Map) = some false
  nf_int_Map : PySem.W.notFirst K C_Map (.type "int") = true
  kn_bool_Map : PySem.W.kitOne K (.type "bool") (.ref C_Map) = some false
  nf_bool_Map : PySem.W.notFirst K C_Map (.type "bool") = true
  kn_str_Map : PySem.W.kitOne K (.type "str") (.ref C_Map) = some false
  nf_str_Map : PySem.W.notFirst K C_Map (.type "str") = true
  kn_list_Map : PySem.W.kitOne K (.type "list") (.ref C_Map) = some false
  nf_list_Map : PySem.W.notFirst K C_Map (.type "list") = true
  kn_dict_Map : PySem.W.kitOne K (.type "dict") (.ref C_Map) = some false
  nf_dict_Map : PySem.W.notFirst K C_Map (.type "dict") = true
  kn_tuple_Map : PySem.W.kitOne K (.type "tuple") (.ref C_Map) = some false
  nf_tuple_Map : PySem.W.notFirst K C_Map (.type "tuple") = true
  self_Map : PySem.W.kitOne K (.ref C_Map) (.ref C_Map) = some true
  na_own_size_Map : NoAttr K C_Map "own_size"
  na_own_arrows_Map : NoAttr K C_Map "own_arrows"
  ne_Map : PySem.W.findIn K (.ref C_Map) "__ne__" = some (some (.builtin "object.__ne__"))
  A_Map__init : U.FnAt K "__init__" "Map.__init__" s_Map__init f_Map__init ["self", "size", "arrows"]
  m_Map__init : PySem.W.findIn K (.ref C_Map) "__init__" = some (some (.ref f_Map__init))
  i_Map__init : PySem.W.isFn K (.ref f_Map__init) = true
  M_Map : Mk K C_Map f_Map__init
  R_Map : ClX.CRead K C_Map (.type "type")
  A_Map_identity : U.FnAt K "identity" "Map.identity" s_Map_identity f_Map_identity ["cls", "size"]
  cm_Map_identity : ClX.CMet K C_Map (.type "type") "identity" p_Map_identity f_Map_identity
  A_Map_size : U.FnAt K "size" "Map.size" s_Map_size f_Map_size ["self"]
  P_Map_size : PropOf K C_Map "size" p_Map_size f_Map_size
  A_Map_arrows : U.FnAt K "arrows" "Map.arrows" s_Map_arrows f_Map_arrows ["self"]
  P_Map_arrows : PropOf K C_Map "arrows" p_Map_arrows f_Map_arrows
  A_Map__mul : U.FnAt K "__mul__" "Map.__mul__" s_Map__mul f_Map__mul ["self", "other"]
  m_Map__mul : PySem.W.findIn K (.ref C_Map) "__mul__" = some (some (.ref f_Map__mul))
  i_Map__mul : PySem.W.isFn K (.ref f_Map__mul) = true
  A_Map__invert : U.FnAt K "__invert__" "Map.__invert__" s_Map__invert f_Map__invert ["self"]
  m_Map__invert : PySem.W.findIn K (.ref C_Map) "__invert__" = some (some (.ref f_Map__invert))
  i_Map__invert : PySem.W.isFn K (.ref f_Map__invert) = true
  A_Map_power : U.FnAt K "power" "Map.power" s_Map_power f_Map_power ["self", "exponent"]
  m_Map_power : PySem.W.findIn K (.ref C_Map) "power" = some (some (.ref f_Map_power))
  i_Map_power : PySem.W.isFn K (.ref f_Map_power) = true
  meth_Map_power : Meth K C_Map "power" f_Map_power
  A_Map__eq : U.FnAt K "__eq__" "Map.__eq__" s_Map__eq f_Map__eq ["self", "other"]
  m_Map__eq : PySem.W.findIn K (.ref C_Map) "__eq__" = some (some (.ref f_Map__eq))
  i_Map__eq : PySem.W.isFn K (.ref f_Map__eq) = true
  A_Map__len : U.FnAt K "__len__" "Map.__len__" s_Map__len f_Map__len ["self"]
  m_Map__len : PySem.W.findIn K (.ref C_Map) "__len__" = some (some (.ref f_Map__len))
  i_Map__len : PySem.W.isFn K (.ref f_Map__len) = true
  g_Session : mg "Session" = some (.ref C_Session)
  o_Session : U.OwnC K C_Session
  kit_int_Session : PySem.W.kitOne K (.ref C_Session) (.type "int") = some false
  kit_bool_Session : PySem.W.kitOne K (.ref C_Session) (.type "bool") = some false
  self_Session : PySem.W.kitOne K (.ref C_Session) (.ref C_Session) = some true
  na_own_present_Session : NoAttr K C_Session "own_present"
  na_own_log_Session : NoAttr K C_Session "own_log"
  na_own_earlier_Session : NoAttr K C_Session "own_earlier"
  A_Session__init : U.FnAt K "__init__" "Session.__init__" s_Session__init f_Session__init ["self", "size"]
  m_Session__init : PySem.W.findIn K (.ref C_Session) "__init__" = some (some (.ref f_Session__init))
  i_Session__init : PySem.W.isFn K (.ref f_Session__init) = true
  M_Session : Mk K C_Session f_Session__init
  A_Session_present : U.FnAt K "present" "Session.present" s_Session_present f_Session_present ["self"]
  P_Session_present : PropOf K C_Session "present" p_Session_present f_Session_present
  A_Session_log : U.FnAt K "log" "Session.log" s_Session_log f_Session_log ["self"]
  m_Session_log : PySem.W.findIn K (.ref C_Session) "log" = some (some (.ref f_Session_log))
  i_Session_log : PySem.W.isFn K (.ref f_Session_log) = true
  meth_Session_log : Meth K C_Session "log" f_Session_log
  A_Session_check_next : U.FnAt K "check_next" "Session.check_next" s_Session_check_next f_Session_check_next ["self", "later"]
  m_Session_check_next : PySem.W.findIn K (.ref C_Session) "check_next" = some (some (.ref f_Session_check_next))
  i_Session_check_next : PySem.W.isFn K (.ref f_Session_check_next) = true
  meth_Session_check_next : Meth K C_Session "check_next" f_Session_check_next
  A_Session_change_to : U.FnAt K "change_to" "Session.change_to" s_Session_change_to f_Session_change_to ["self", "user", "action", "later"]
  m_Session_change_to : PySem.W.findIn K (.ref C_Session) "change_to" = some (some (.ref f_Session_change_to))
  i_Session_change_to : PySem.W.isFn K (.ref f_Session_change_to) = true
  meth_Session_change_to : Meth K C_Session "change_to" f_Session_change_to
  A_Session_apply : U.FnAt K "apply" "Session.apply" s_Session_apply f_Session_apply ["self", "user", "factor"]
  m_Session_apply : PySem.W.findIn K (.ref C_Session) "apply" = some (some (.ref f_Session_apply))
  i_Session_apply : PySem.W.isFn K (.ref f_Session_apply) = true
  meth_Session_apply : Meth K C_Session "apply" f_Session_apply
  A_Session_raise_to : U.FnAt K "raise_to" "Session.raise_to" s_Session_raise_to f_Session_raise_to ["self", "user", "exponent"]
  m_Session_raise_to : PySem.W.findIn K (.ref C_Session) "raise_to" = some (some (.ref f_Session_raise_to))
  i_Session_raise_to : PySem.W.isFn K (.ref f_Session_raise_to) = true
  meth_Session_raise_to : Meth K C_Session "raise_to" f_Session_raise_to
  A_Session_do_steps : U.FnAt K "do_steps" "Session.do_steps" s_Session_do_steps f_Session_do_steps ["self", "user", "steps"]
  m_Session_do_steps : PySem.W.findIn K (.ref C_Session) "do_steps" = some (some (.ref f_Session_do_steps))
  i_Session_do_steps : PySem.W.isFn K (.ref f_Session_do_steps) = true
  meth_Session_do_steps : Meth K C_Session "do_steps" f_Session_do_steps
  A_Session_undo : U.FnAt K "undo" "Session.undo" s_Session_undo f_Session_undo ["self", "user"]
  m_Session_undo : PySem.W.findIn K (.ref C_Session) "undo" = some (some (.ref f_Session_undo))
  i_Session_undo : PySem.W.isFn K (.ref f_Session_undo) = true
  meth_Session_undo : Meth K C_Session "undo" f_Session_undo
  A_Session_at : U.FnAt K "at" "Session.at" s_Session_at f_Session_at ["self", "number"]
  m_Session_at : PySem.W.findIn K (.ref C_Session) "at" = some (some (.ref f_Session_at))
  i_Session_at : PySem.W.isFn K (.ref f_Session_at) = true
  meth_Session_at : Meth K C_Session "at" f_Session_at
  A_Session__len : U.FnAt K "__len__" "Session.__len__" s_Session__len f_Session__len ["self"]
  m_Session__len : PySem.W.findIn K (.ref C_Session) "__len__" = some (some (.ref f_Session__len))
  i_Session__len : PySem.W.isFn K (.ref f_Session__len) = true
  g_KeepingSession : mg "KeepingSession" = some (.ref C_KeepingSession)
  o_KeepingSession : U.OwnC K C_KeepingSession
  kit_int_KeepingSession : PySem.W.kitOne K (.ref C_KeepingSession) (.type "int") = some false
  kit_bool_KeepingSession : PySem.W.kitOne K (.ref C_KeepingSession) (.type "bool") = some false
  self_KeepingSession : PySem.W.kitOne K (.ref C_KeepingSession) (.ref C_KeepingSession) = some true
  na_own_present_KeepingSession : NoAttr K C_KeepingSession "own_present"
  na_own_log_KeepingSession : NoAttr K C_KeepingSession "own_log"
  na_own_earlier_KeepingSession : NoAttr K C_KeepingSession "own_earlier"
  na_own_least_KeepingSession : NoAttr K C_KeepingSession "own_least"
  P_KeepingSession_present : PropOf K C_KeepingSession "present" p_Session_present f_Session_present
  meth_KeepingSession_log : Meth K C_KeepingSession "log" f_Session_log
  meth_KeepingSession_change_to : Meth K C_KeepingSession "change_to" f_Session_change_to
  meth_KeepingSession_apply : Meth K C_KeepingSession "apply" f_Session_apply
  meth_KeepingSession_raise_to : Meth K C_KeepingSession "raise_to" f_Session_raise_to
  meth_KeepingSession_do_steps : Meth K C_KeepingSession "do_steps" f_Session_do_steps
  meth_KeepingSession_undo : Meth K C_KeepingSession "undo" f_Session_undo
  meth_KeepingSession_at : Meth K C_KeepingSession "at" f_Session_at
  m_KeepingSession___len : PySem.W.findIn K (.ref C_KeepingSession) "__len__" = some (some (.ref f_Session__len))
  i_KeepingSession___len : PySem.W.isFn K (.ref f_Session__len) = true
  sm_KeepingSession_init : U.SupM K C_KeepingSession C_KeepingSession "__init__" f_Session__init
  sm_KeepingSession_check_next : U.SupM K C_KeepingSession C_KeepingSession "check_next" f_Session_check_next
  A_KeepingSession__init : U.SupAt K "__init__" "KeepingSession.__init__" s_KeepingSession__init f_KeepingSession__init c_KeepingSession__init cc_KeepingSession__init C_KeepingSession ["self", "size", "least"] "/claim/cut.py"
  K_KeepingSession__init : PySem.W.keepIn K (.ref f_KeepingSession__init) = true
  m_KeepingSession__init : PySem.W.findIn K (.ref C_KeepingSession) "__init__" = some (some (.ref f_KeepingSession__init))
  i_KeepingSession__init : PySem.W.isFn K (.ref f_KeepingSession__init) = true
  M_KeepingSession : Mk K C_KeepingSession f_KeepingSession__init
  A_KeepingSession_least : U.FnAt K "least" "KeepingSession.least" s_KeepingSession_least f_KeepingSession_least ["self"]
  P_KeepingSession_least : PropOf K C_KeepingSession "least" p_KeepingSession_least f_KeepingSession_least
  A_KeepingSession_check_next : U.SupAt K "check_next" "KeepingSession.check_next" s_KeepingSession_check_next f_KeepingSession_check_next c_KeepingSession_check_next cc_KeepingSession_check_next C_KeepingSession ["self", "later"] "/claim/cut.py"
  K_KeepingSession_check_next : PySem.W.keepIn K (.ref f_KeepingSession_check_next) = true
  m_KeepingSession_check_next : PySem.W.findIn K (.ref C_KeepingSession) "check_next" = some (some (.ref f_KeepingSession_check_next))
  i_KeepingSession_check_next : PySem.W.isFn K (.ref f_KeepingSession_check_next) = true
  meth_KeepingSession_check_next : Meth K C_KeepingSession "check_next" f_KeepingSession_check_next
  g_NothingToUndo : mg "NothingToUndo" = some (.ref C_NothingToUndo)
  x_NothingToUndo : OexG K C_NothingToUndo
  xf_NothingToUndo : XfC K C_NothingToUndo
  xe_NothingToUndo : ExcC K C_NothingToUndo
  te_NothingToUndo : PySem.W.exmOne K (.ref C_NothingToUndo) (.ref C_NothingToUndo) = some true
  kit_LookupError_NothingToUndo : PySem.W.kitOne K (.ref C_NothingToUndo) (.type "LookupError") = some true
  na_user_NothingToUndo : PySem.W.findIn K (.ref C_NothingToUndo) "user" = some none
  A_NothingToUndo__init : U.FnAt K "__init__" "NothingToUndo.__init__" s_NothingToUndo__init f_NothingToUndo__init ["self", "user"]
  m_NothingToUndo__init : PySem.W.findIn K (.ref C_NothingToUndo) "__init__" = some (some (.ref f_NothingToUndo__init))
  ti_NothingToUndo__init : PySem.W.typeIn K (.ref f_NothingToUndo__init) = some (.type "function")
  g_NotLast : mg "NotLast" = some (.ref C_NotLast)
  x_NotLast : OexG K C_NotLast
  xf_NotLast : XfC K C_NotLast
  xe_NotLast : ExcC K C_NotLast
  te_NotLast : PySem.W.exmOne K (.ref C_NotLast) (.ref C_NotLast) = some true
  kit_RuntimeError_NotLast : PySem.W.kitOne K (.ref C_NotLast) (.type "RuntimeError") = some true
  te_NotLast_NothingToUndo : PySem.W.exmOne K (.ref C_NotLast) (.ref C_NothingToUndo) = some false
  na_user_NotLast : PySem.W.findIn K (.ref C_NotLast) "user" = some none
  A_NotLast__init : U.FnAt K "__init__" "NotLast.__init__" s_NotLast__init f_NotLast__init ["self", "user"]
  m_NotLast__init : PySem.W.findIn K (.ref C_NotLast) "__init__" = some (some (.ref f_NotLast__init))
  ti_NotLast__init : PySem.W.typeIn K (.ref f_NotLast__init) = some (.type "function")
  g_TooFew : mg "TooFew" = some (.ref C_TooFew)
  x_TooFew : OexG K C_TooFew
  xf_TooFew : XfC K C_TooFew
  xe_TooFew : ExcC K C_TooFew
  te_TooFew : PySem.W.exmOne K (.ref C_TooFew) (.ref C_TooFew) = some true
  kit_RuntimeError_TooFew : PySem.W.kitOne K (.ref C_TooFew) (.type "RuntimeError") = some true
  na_number_TooFew : PySem.W.findIn K (.ref C_TooFew) "number" = some none
  A_TooFew__init : U.FnAt K "__init__" "TooFew.__init__" s_TooFew__init f_TooFew__init ["self", "number"]
  m_TooFew__init : PySem.W.findIn K (.ref C_TooFew) "__init__" = some (some (.ref f_TooFew__init))
  ti_TooFew__init : PySem.W.typeIn K (.ref f_TooFew__init) = some (.type "function")
  g_InvalidNumber : mg "InvalidNumber" = some (.ref C_InvalidNumber)
  x_InvalidNumber : OexG K C_InvalidNumber
  xf_InvalidNumber : XfC K C_InvalidNumber
  xe_InvalidNumber : ExcC K C_InvalidNumber
  te_InvalidNumber : PySem.W.exmOne K (.ref C_InvalidNumber) (.ref C_InvalidNumber) = some true
  kit_ValueError_InvalidNumber : PySem.W.kitOne K (.ref C_InvalidNumber) (.type "ValueError") = some true
  na_value_InvalidNumber : PySem.W.findIn K (.ref C_InvalidNumber) "value" = some none
  A_InvalidNumber__init : U.FnAt K "__init__" "InvalidNumber.__init__" s_InvalidNumber__init f_InvalidNumber__init ["self", "value"]
  m_InvalidNumber__init : PySem.W.findIn K (.ref C_InvalidNumber) "__init__" = some (some (.ref f_InvalidNumber__init))
  ti_InvalidNumber__init : PySem.W.typeIn K (.ref f_InvalidNumber__init) = some (.type "function")
  g_InvalidMap : mg "InvalidMap" = some (.ref C_InvalidMap)
  x_InvalidMap : OexG K C_InvalidMap
  xf_InvalidMap : XfC K C_InvalidMap
  xe_InvalidMap : ExcC K C_InvalidMap
  te_InvalidMap : PySem.W.exmOne K (.ref C_InvalidMap) (.ref C_InvalidMap) = some true
  kit_ValueError_InvalidMap : PySem.W.kitOne K (.ref C_InvalidMap) (.type "ValueError") = some true
  na_part_InvalidMap : PySem.W.findIn K (.ref C_InvalidMap) "part" = some none
  A_InvalidMap__init : U.FnAt K "__init__" "InvalidMap.__init__" s_InvalidMap__init f_InvalidMap__init ["self", "part"]
  m_InvalidMap__init : PySem.W.findIn K (.ref C_InvalidMap) "__init__" = some (some (.ref f_InvalidMap__init))
  ti_InvalidMap__init : PySem.W.typeIn K (.ref f_InvalidMap__init) = some (.type "function")
  g_SizeMismatch : mg "SizeMismatch" = some (.ref C_SizeMismatch)
  x_SizeMismatch : OexG K C_SizeMismatch
  xf_SizeMismatch : XfC K C_SizeMismatch
  xe_SizeMismatch : ExcC K C_SizeMismatch
  te_SizeMismatch : PySem.W.exmOne K (.ref C_SizeMismatch) (.ref C_SizeMismatch) = some true
  kit_ValueError_SizeMismatch : PySem.W.kitOne K (.ref C_SizeMismatch) (.type "ValueError") = some true
  na_first_SizeMismatch : PySem.W.findIn K (.ref C_SizeMismatch) "first" = some none
  na_second_SizeMismatch : PySem.W.findIn K (.ref C_SizeMismatch) "second" = some none
  A_SizeMismatch__init : U.FnAt K "__init__" "SizeMismatch.__init__" s_SizeMismatch__init f_SizeMismatch__init ["self", "first", "second"]
  m_SizeMismatch__init : PySem.W.findIn K (.ref C_SizeMismatch) "__init__" = some (some (.ref f_SizeMismatch__init))
  ti_SizeMismatch__init : PySem.W.typeIn K (.ref f_SizeMismatch__init) = some (.type "function")
  n_isinstance : mg "isinstance" = none
  n_int : mg "int" = none
  n_bool : mg "bool" = none
  n_dict : mg "dict" = none
  n_len : mg "len" = none
  n_range : mg "range" = none
  n_list : mg "list" = none
  n_max : mg "max" = none
  n_min : mg "min" = none
  n_repr : mg "repr" = none
  n_abs : mg "abs" = none
  n_str : mg "str" = none
  n_tuple : mg "tuple" = none
  n_all : mg "all" = none
  n_enumerate : mg "enumerate" = none
  n_RuntimeError : mg "RuntimeError" = none
  v_MAX_SIZE : ∃ t, mg "MAX_SIZE" = some (.int 300 t)
  v_MAX_NAME : ∃ t, mg "MAX_NAME" = some (.int 8 t)
theorem mk_txt {K : PySem.W.Frag} {h : Heap} {mg : Str → Option Value} (X : K.In h) (G : h.Ns mainGlobals mg)
    {f_is_integer : Addr} {oc_is_integer kV_is_integer dc_is_integer pm_is_integer cd_is_integer ct_is_integer : Value} {od_is_integer an_is_integer : Option Addr} {sl_is_integer : Array (Option Value)}
    {f_in_range : Addr} {oc_in_range kV_in_range dc_in_range pm_in_range cd_in_range ct_in_range : Value} {od_in_range an_in_range : Option Addr} {sl_in_range : Array (Option Value)}
    {f_check_size : Addr} {oc_check_size kV_check_size dc_check_size pm_check_size cd_check_size ct_check_size : Value} {od_check_size an_check_size : Option Addr} {sl_check_size : Array (Option Value)}
    {f_are_arrows : Addr} {oc_are_arrows kV_are_arrows dc_are_arrows pm_are_arrows cd_are_arrows ct_are_arrows : Value} {od_are_arrows an_are_arrows : Option Addr} {sl_are_arrows : Array (Option Value)}
    {f_common_size : Addr} {oc_common_size kV_common_size dc_common_size pm_common_size cd_common_size ct_common_size : Value} {od_common_size an_common_size : Option Addr} {sl_common_size : Array (Option Value)}
    {f_row_from : Addr} {oc_row_from kV_row_from dc_row_from pm_row_from cd_row_from ct_row_from : Value} {od_row_from an_row_from : Option Addr} {sl_row_from : Array (Option Value)}
    {f_moved : Addr} {oc_moved kV_moved dc_moved pm_moved cd_moved ct_moved : Value} {od_moved an_moved : Option Addr} {sl_moved : Array (Option Value)}
    {f_check_map : Addr} {oc_check_map kV_check_map dc_check_map pm_check_map cd_check_map ct_check_map : Value} {od_check_map an_check_map : Option Addr} {sl_check_map : Array (Option Value)}
    {f_check_maps : Addr} {oc_check_maps kV_check_maps dc_check_maps pm_check_maps cd_check_maps ct_check_maps : Value} {od_check_maps an_check_maps : Option Addr} {sl_check_maps : Array (Option Value)}
    {f_is_step : Addr} {oc_is_step kV_is_step dc_is_step pm_is_step cd_is_step ct_is_step : Value} {od_is_step an_is_step : Option Addr} {sl_is_step : Array (Option Value)}
    {f_first_invalid : Addr} {oc_first_invalid kV_first_invalid dc_first_invalid pm_first_invalid cd_first_invalid ct_first_invalid : Value} {od_first_invalid an_first_invalid : Option Addr} {sl_first_invalid : Array (Option Value)}
    {f_after_list : Addr} {oc_after_list kV_after_list dc_after_list pm_after_list cd_after_list ct_after_list : Value} {od_after_list an_after_list : Option Addr} {sl_after_list : Array (Option Value)}
    {f_is_name : Addr} {oc_is_name kV_is_name dc_is_name pm_is_name cd_is_name ct_is_name : Value} {od_is_name an_is_name : Option Addr} {sl_is_name : Array (Option Value)}
    {f_check_user : Addr} {oc_check_user kV_check_user dc_check_user pm_check_user cd_check_user ct_check_user : Value} {od_check_user an_check_user : Option Addr} {sl_check_user : Array (Option Value)}
    {f_l_hand : Addr} {oc_l_hand kV_l_hand dc_l_hand pm_l_hand cd_l_hand ct_l_hand : Value} {od_l_hand an_l_hand : Option Addr} {sl_l_hand : Array (Option Value)}
    {f_l_draw : Addr} {oc_l_draw kV_l_draw dc_l_draw pm_l_draw cd_l_draw ct_l_draw : Value} {od_l_draw an_l_draw : Option Addr} {sl_l_draw : Array (Option Value)}
    {f_l_arrows : Addr} {oc_l_arrows kV_l_arrows dc_l_arrows pm_l_arrows cd_l_arrows ct_l_arrows : Value} {od_l_arrows an_l_arrows : Option Addr} {sl_l_arrows : Array (Option Value)}
    {f_l_product : Addr} {oc_l_product kV_l_product dc_l_product pm_l_product cd_l_product ct_l_product : Value} {od_l_product an_l_product : Option Addr} {sl_l_product : Array (Option Value)}
    {f_l_full : Addr} {oc_l_full kV_l_full dc_l_full pm_l_full cd_l_full ct_l_full : Value} {od_l_full an_l_full : Option Addr} {sl_l_full : Array (Option Value)}
    {f_l_inverse : Addr} {oc_l_inverse kV_l_inverse dc_l_inverse pm_l_inverse cd_l_inverse ct_l_inverse : Value} {od_l_inverse an_l_inverse : Option Addr} {sl_l_inverse : Array (Option Value)}
    {f_l_power : Addr} {oc_l_power kV_l_power dc_l_power pm_l_power cd_l_power ct_l_power : Value} {od_l_power an_l_power : Option Addr} {sl_l_power : Array (Option Value)}
    {f_l_step : Addr} {oc_l_step kV_l_step dc_l_step pm_l_step cd_l_step ct_l_step : Value} {od_l_step an_l_step : Option Addr} {sl_l_step : Array (Option Value)}
    {f_l_stepped : Addr} {oc_l_stepped kV_l_stepped dc_l_stepped pm_l_stepped cd_l_stepped ct_l_stepped : Value} {od_l_stepped an_l_stepped : Option Addr} {sl_l_stepped : Array (Option Value)}
    {f_l_caught : Addr} {oc_l_caught kV_l_caught dc_l_caught pm_l_caught cd_l_caught ct_l_caught : Value} {od_l_caught an_l_caught : Option Addr} {sl_l_caught : Array (Option Value)}
    {f_l_planned : Addr} {oc_l_planned kV_l_planned dc_l_planned pm_l_planned cd_l_planned ct_l_planned : Value} {od_l_planned an_l_planned : Option Addr} {sl_l_planned : Array (Option Value)}
    {f_l_done : Addr} {oc_l_done kV_l_done dc_l_done pm_l_done cd_l_done ct_l_done : Value} {od_l_done an_l_done : Option Addr} {sl_l_done : Array (Option Value)}
    {f_law c_law P_law : Addr} {oc_law kV_law dc_law pm_law ct_law : Value} {od_law an_law : Option Addr} {sl_law : Array (Option Value)}
    {C_Map : Addr}
    {f_Map__init : Addr} {oc_Map__init kV_Map__init dc_Map__init pm_Map__init cd_Map__init ct_Map__init : Value} {od_Map__init an_Map__init : Option Addr} {sl_Map__init : Array (Option Value)}
    {p_Map_identity : Addr} {r_Map_identity : List Value}
    {f_Map_identity : Addr} {oc_Map_identity kV_Map_identity dc_Map_identity pm_Map_identity cd_Map_identity ct_Map_identity : Value} {od_Map_identity an_Map_identity : Option Addr} {sl_Map_identity : Array (Option Value)}
    {p_Map_size : Addr} {r_Map_size : List Value}
    {f_Map_size : Addr} {oc_Map_size kV_Map_size dc_Map_size pm_Map_size cd_Map_size ct_Map_size : Value} {od_Map_size an_Map_size : Option Addr} {sl_Map_size : Array (Option Value)}
    {p_Map_arrows : Addr} {r_Map_arrows : List Value}
    {f_Map_arrows : Addr} {oc_Map_arrows kV_Map_arrows dc_Map_arrows pm_Map_arrows cd_Map_arrows ct_Map_arrows : Value} {od_Map_arrows an_Map_arrows : Option Addr} {sl_Map_arrows : Array (Option Value)}
    {f_Map__mul : Addr} {oc_Map__mul kV_Map__mul dc_Map__mul pm_Map__mul cd_Map__mul ct_Map__mul : Value} {od_Map__mul an_Map__mul : Option Addr} {sl_Map__mul : Array (Option Value)}
    {f_Map__invert : Addr} {oc_Map__invert kV_Map__invert dc_Map__invert pm_Map__invert cd_Map__invert ct_Map__invert : Value} {od_Map__invert an_Map__invert : Option Addr} {sl_Map__invert : Array (Option Value)}
    {f_Map_power : Addr} {oc_Map_power kV_Map_power dc_Map_power pm_Map_power cd_Map_power ct_Map_power : Value} {od_Map_power an_Map_power : Option Addr} {sl_Map_power : Array (Option Value)}
    {f_Map__eq : Addr} {oc_Map__eq kV_Map__eq dc_Map__eq pm_Map__eq cd_Map__eq ct_Map__eq : Value} {od_Map__eq an_Map__eq : Option Addr} {sl_Map__eq : Array (Option Value)}
    {f_Map__len : Addr} {oc_Map__len kV_Map__len dc_Map__len pm_Map__len cd_Map__len ct_Map__len : Value} {od_Map__len an_Map__len : Option Addr} {sl_Map__len : Array (Option Value)}
    {C_Session : Addr}
    {f_Session__init : Addr} {oc_Session__init kV_Session__init dc_Session__init pm_Session__init cd_Session__init ct_Session__init : Value} {od_Session__init an_Session__init : Option Addr} {sl_Session__init : Array (Option Value)}
    {p_Session_present : Addr} {r_Session_present : List Value}
    {f_Session_present : Addr} {oc_Session_present kV_Session_present dc_Session_present pm_Session_present cd_Session_present ct_Session_present : Value} {od_Session_present an_Session_present : Option Addr} {sl_Session_present : Array (Option Value)}
    {f_Session_log : Addr} {oc_Session_log kV_Session_log dc_Session_log pm_Session_log cd_Session_log ct_Session_log : Value} {od_Session_log an_Session_log : Option Addr} {sl_Session_log : Array (Option Value)}
    {f_Session_check_next : Addr} {oc_Session_check_next kV_Session_check_next dc_Session_check_next pm_Session_check_next cd_Session_check_next ct_Session_check_next : Value} {od_Session_check_next an_Session_check_next : Option Addr} {sl_Session_check_next : Array (Option Value)}
    {f_Session_change_to : Addr} {oc_Session_change_to kV_Session_change_to dc_Session_change_to pm_Session_change_to cd_Session_change_to ct_Session_change_to : Value} {od_Session_change_to an_Session_change_to : Option Addr} {sl_Session_change_to : Array (Option Value)}
    {f_Session_apply : Addr} {oc_Session_apply kV_Session_apply dc_Session_apply pm_Session_apply cd_Session_apply ct_Session_apply : Value} {od_Session_apply an_Session_apply : Option Addr} {sl_Session_apply : Array (Option Value)}
    {f_Session_raise_to : Addr} {oc_Session_raise_to kV_Session_raise_to dc_Session_raise_to pm_Session_raise_to cd_Session_raise_to ct_Session_raise_to : Value} {od_Session_raise_to an_Session_raise_to : Option Addr} {sl_Session_raise_to : Array (Option Value)}
    {f_Session_do_steps : Addr} {oc_Session_do_steps kV_Session_do_steps dc_Session_do_steps pm_Session_do_steps cd_Session_do_steps ct_Session_do_steps : Value} {od_Session_do_steps an_Session_do_steps : Option Addr} {sl_Session_do_steps : Array (Option Value)}
    {f_Session_undo : Addr} {oc_Session_undo kV_Session_undo dc_Session_undo pm_Session_undo cd_Session_undo ct_Session_undo : Value} {od_Session_undo an_Session_undo : Option Addr} {sl_Session_undo : Array (Option Value)}
    {f_Session_at : Addr} {oc_Session_at kV_Session_at dc_Session_at pm_Session_at cd_Session_at ct_Session_at : Value} {od_Session_at an_Session_at : Option Addr} {sl_Session_at : Array (Option Value)}
    {f_Session__len : Addr} {oc_Session__len kV_Session__len dc_Session__len pm_Session__len cd_Session__len ct_Session__len : Value} {od_Session__len an_Session__len : Option Addr} {sl_Session__len : Array (Option Value)}
    {C_KeepingSession : Addr}
    {f_KeepingSession__init c_KeepingSession__init cc_KeepingSession__init : Addr} {oc_KeepingSession__init kV_KeepingSession__init dc_KeepingSession__init pm_KeepingSession__init ct_KeepingSession__init : Value} {od_KeepingSession__init an_KeepingSession__init : Option Addr} {sl_KeepingSession__init : Array (Option Value)}
    {ccl_KeepingSession__init ccc_KeepingSession__init : Value} {cdd_KeepingSession__init ccd_KeepingSession__init : Option Addr} {vs_KeepingSession__init : Array Value} {ccs_KeepingSession__init cso_KeepingSession__init : Array (Option Value)} {cdt_KeepingSession__init : PySem.ClassData}
    {p_KeepingSession_least : Addr} {r_KeepingSession_least : List Value}
    {f_KeepingSession_least : Addr} {oc_KeepingSession_least kV_KeepingSession_least dc_KeepingSession_least pm_KeepingSession_least cd_KeepingSession_least ct_KeepingSession_least : Value} {od_KeepingSession_least an_KeepingSession_least : Option Addr} {sl_KeepingSession_least : Array (Option Value)}
    {f_KeepingSession_check_next c_KeepingSession_check_next cc_KeepingSession_check_next : Addr} {oc_KeepingSession_check_next kV_KeepingSession_check_next dc_KeepingSession_check_next pm_KeepingSession_check_next ct_KeepingSession_check_next : Value} {od_KeepingSession_check_next an_KeepingSession_check_next : Option Addr} {sl_KeepingSession_check_next : Array (Option Value)}
    {ccl_KeepingSession_check_next ccc_KeepingSession_check_next : Value} {cdd_KeepingSession_check_next ccd_KeepingSession_check_next : Option Addr} {vs_KeepingSession_check_next : Array Value} {ccs_KeepingSession_check_next cso_KeepingSession_check_next : Array (Option Value)} {cdt_KeepingSession_check_next : PySem.ClassData}
    {C_NothingToUndo : Addr} {nm_NothingToUndo q_NothingToUndo : Str} {N_NothingToUndo : Addr} {bs_NothingToUndo : List Value} {sn_NothingToUndo : List Str} {sub_NothingToUndo : List Value} {ab_NothingToUndo : Bool} {col_NothingToUndo : Option Bool} {dd_NothingToUndo : Option Addr} {m0_NothingToUndo m1_NothingToUndo m2_NothingToUndo m3_NothingToUndo m5_NothingToUndo : Option Value}
    {f_NothingToUndo__init : Addr} {oc_NothingToUndo__init kV_NothingToUndo__init dc_NothingToUndo__init pm_NothingToUndo__init cd_NothingToUndo__init ct_NothingToUndo__init : Value} {od_NothingToUndo__init an_NothingToUndo__init : Option Addr} {sl_NothingToUndo__init : Array (Option Value)}
    {C_NotLast : Addr} {nm_NotLast q_NotLast : Str} {N_NotLast : Addr} {bs_NotLast : List Value} {sn_NotLast : List Str} {sub_NotLast : List Value} {ab_NotLast : Bool} {col_NotLast : Option Bool} {dd_NotLast : Option Addr} {m0_NotLast m1_NotLast m2_NotLast m3_NotLast m5_NotLast : Option Value}
    {f_NotLast__init : Addr} {oc_NotLast__init kV_NotLast__init dc_NotLast__init pm_NotLast__init cd_NotLast__init ct_NotLast__init : Value} {od_NotLast__init an_NotLast__init : Option Addr} {sl_NotLast__init : Array (Option Value)}
    {C_TooFew : Addr} {nm_TooFew q_TooFew : Str} {N_TooFew : Addr} {bs_TooFew : List Value} {sn_TooFew : List Str} {sub_TooFew : List Value} {ab_TooFew : Bool} {col_TooFew : Option Bool} {dd_TooFew : Option Addr} {m0_TooFew m1_TooFew m2_TooFew m3_TooFew m5_TooFew : Option Value}
    {f_TooFew__init : Addr} {oc_TooFew__init kV_TooFew__init dc_TooFew__init pm_TooFew__init cd_TooFew__init ct_TooFew__init : Value} {od_TooFew__init an_TooFew__init : Option Addr} {sl_TooFew__init : Array (Option Value)}
    {C_InvalidNumber : Addr} {nm_InvalidNumber q_InvalidNumber : Str} {N_InvalidNumber : Addr} {bs_InvalidNumber : List Value} {sn_InvalidNumber : List Str} {sub_InvalidNumber : List Value} {ab_InvalidNumber : Bool} {col_InvalidNumber : Option Bool} {dd_InvalidNumber : Option Addr} {m0_InvalidNumber m1_InvalidNumber m2_InvalidNumber m3_InvalidNumber m5_InvalidNumber : Option Value}
    {f_InvalidNumber__init : Addr} {oc_InvalidNumber__init kV_InvalidNumber__init dc_InvalidNumber__init pm_InvalidNumber__init cd_InvalidNumber__init ct_InvalidNumber__init : Value} {od_InvalidNumber__init an_InvalidNumber__init : Option Addr} {sl_InvalidNumber__init : Array (Option Value)}
    {C_InvalidMap : Addr} {nm_InvalidMap q_InvalidMap : Str} {N_InvalidMap : Addr} {bs_InvalidMap : List Value} {sn_InvalidMap : List Str} {sub_InvalidMap : List Value} {ab_InvalidMap : Bool} {col_InvalidMap : Option Bool} {dd_InvalidMap : Option Addr} {m0_InvalidMap m1_InvalidMap m2_InvalidMap m3_InvalidMap m5_InvalidMap : Option Value}
    {f_InvalidMap__init : Addr} {oc_InvalidMap__init kV_InvalidMap__init dc_InvalidMap__init pm_InvalidMap__init cd_InvalidMap__init ct_InvalidMap__init : Value} {od_InvalidMap__init an_InvalidMap__init : Option Addr} {sl_InvalidMap__init : Array (Option Value)}
    {C_SizeMismatch : Addr} {nm_SizeMismatch q_SizeMismatch : Str} {N_SizeMismatch : Addr} {bs_SizeMismatch : List Value} {sn_SizeMismatch : List Str} {sub_SizeMismatch : List Value} {ab_SizeMismatch : Bool} {col_SizeMismatch : Option Bool} {dd_SizeMismatch : Option Addr} {m0_SizeMismatch m1_SizeMismatch m2_SizeMismatch m3_SizeMismatch m5_SizeMismatch : Option Value}
    {f_SizeMismatch__init : Addr} {oc_SizeMismatch__init kV_SizeMismatch__init dc_SizeMismatch__init pm_SizeMismatch__init cd_SizeMismatch__init ct_SizeMismatch__init : Value} {od_SizeMismatch__init an_SizeMismatch__init : Option Addr} {sl_SizeMismatch__init : Array (Option Value)}
    {t_MAX_SIZE : Tok}
    {t_MAX_NAME : Tok}
    (a_is_integer : PySem.W.nsIn K mainGlobals "is_integer" = some (some (.ref f_is_integer)))
    (l_is_integer : K.lookup f_is_integer = some ⟨oc_is_integer, od_is_integer, .func (PySem.W.fnOf "is_integer" "is_integer" (defArgs s_is_integer) (defBody s_is_integer) (defScope s_is_integer) .none kV_is_integer dc_is_integer pm_is_integer an_is_integer cd_is_integer ct_is_integer), sl_is_integer⟩)
    (c_is_integer : PySem.W.codeIn K cd_is_integer "is_integer" = true)
    (k_is_integer : PySem.W.keepIn K (.ref f_is_integer) = true)
    (a_in_range : PySem.W.nsIn K mainGlobals "in_range" = some (some (.ref f_in_range)))
    (l_in_range : K.lookup f_in_range = some ⟨oc_in_range, od_in_range, .func (PySem.W.fnOf "in_range" "in_range" (defArgs s_in_range) (defBody s_in_range) (defScope s_in_range) .none kV_in_range dc_in_range pm_in_range an_in_range cd_in_range ct_in_range), sl_in_range⟩)
    (c_in_range : PySem.W.codeIn K cd_in_range "in_range" = true)
    (k_in_range : PySem.W.keepIn K (.ref f_in_range) = true)
    (a_check_size : PySem.W.nsIn K mainGlobals "check_size" = some (some (.ref f_check_size)))
    (l_check_size : K.lookup f_check_size = some ⟨oc_check_size, od_check_size, .func (PySem.W.fnOf "check_size" "check_size" (defArgs s_check_size) (defBody s_check_size) (defScope s_check_size) .none kV_check_size dc_check_size pm_check_size an_check_size cd_check_size ct_check_size), sl_check_size⟩)
    (c_check_size : PySem.W.codeIn K cd_check_size "check_size" = true)
    (k_check_size : PySem.W.keepIn K (.ref f_check_size) = true)
    (a_are_arrows : PySem.W.nsIn K mainGlobals "are_arrows" = some (some (.ref f_are_arrows)))
    (l_are_arrows : K.lookup f_are_arrows = some ⟨oc_are_arrows, od_are_arrows, .func (PySem.W.fnOf "are_arrows" "are_arrows" (defArgs s_are_arrows) (defBody s_are_arrows) (defScope s_are_arrows) .none kV_are_arrows dc_are_arrows pm_are_arrows an_are_arrows cd_are_arrows ct_are_arrows), sl_are_arrows⟩)
    (c_are_arrows : PySem.W.codeIn K cd_are_arrows "are_arrows" = true)
    (k_are_arrows : PySem.W.keepIn K (.ref f_are_arrows) = true)
    (a_common_size : PySem.W.nsIn K mainGlobals "common_size" = some (some (.ref f_common_size)))
    (l_common_size : K.lookup f_common_size = some ⟨oc_common_size, od_common_size, .func (PySem.W.fnOf "common_size" "common_size" (defArgs s_common_size) (defBody s_common_size) (defScope s_common_size) .none kV_common_size dc_common_size pm_common_size an_common_size cd_common_size ct_common_size), sl_common_size⟩)
    (c_common_size : PySem.W.codeIn K cd_common_size "common_size" = true)
    (k_common_size : PySem.W.keepIn K (.ref f_common_size) = true)
    (a_row_from : PySem.W.nsIn K mainGlobals "row_from" = some (some (.ref f_row_from)))
    (l_row_from : K.lookup f_row_from = some ⟨oc_row_from, od_row_from, .func (PySem.W.fnOf "row_from" "row_from" (defArgs s_row_from) (defBody s_row_from) (defScope s_row_from) .none kV_row_from dc_row_from pm_row_from an_row_from cd_row_from ct_row_from), sl_row_from⟩)
    (c_row_from : PySem.W.codeIn K cd_row_from "row_from" = true)
    (k_row_from : PySem.W.keepIn K (.ref f_row_from) = true)
    (a_moved : PySem.W.nsIn K mainGlobals "moved" = some (some (.ref f_moved)))
    (l_moved : K.lookup f_moved = some ⟨oc_moved, od_moved, .func (PySem.W.fnOf "moved" "moved" (defArgs s_moved) (defBody s_moved) (defScope s_moved) .none kV_moved dc_moved pm_moved an_moved cd_moved ct_moved), sl_moved⟩)
    (c_moved : PySem.W.codeIn K cd_moved "moved" = true)
    (k_moved : PySem.W.keepIn K (.ref f_moved) = true)
    (a_check_map : PySem.W.nsIn K mainGlobals "check_map" = some (some (.ref f_check_map)))
    (l_check_map : K.lookup f_check_map = some ⟨oc_check_map, od_check_map, .func (PySem.W.fnOf "check_map" "check_map" (defArgs s_check_map) (defBody s_check_map) (defScope s_check_map) .none kV_check_map dc_check_map pm_check_map an_check_map cd_check_map ct_check_map), sl_check_map⟩)
    (c_check_map : PySem.W.codeIn K cd_check_map "check_map" = true)
    (k_check_map : PySem.W.keepIn K (.ref f_check_map) = true)
    (a_check_maps : PySem.W.nsIn K mainGlobals "check_maps" = some (some (.ref f_check_maps)))
    (l_check_maps : K.lookup f_check_maps = some ⟨oc_check_maps, od_check_maps, .func (PySem.W.fnOf "check_maps" "check_maps" (defArgs s_check_maps) (defBody s_check_maps) (defScope s_check_maps) .none kV_check_maps dc_check_maps pm_check_maps an_check_maps cd_check_maps ct_check_maps), sl_check_maps⟩)
    (c_check_maps : PySem.W.codeIn K cd_check_maps "check_maps" = true)
    (k_check_maps : PySem.W.keepIn K (.ref f_check_maps) = true)
    (a_is_step : PySem.W.nsIn K mainGlobals "is_step" = some (some (.ref f_is_step)))
    (l_is_step : K.lookup f_is_step = some ⟨oc_is_step, od_is_step, .func (PySem.W.fnOf "is_step" "is_step" (defArgs s_is_step) (defBody s_is_step) (defScope s_is_step) .none kV_is_step dc_is_step pm_is_step an_is_step cd_is_step ct_is_step), sl_is_step⟩)
    (c_is_step : PySem.W.codeIn K cd_is_step "is_step" = true)
    (k_is_step : PySem.W.keepIn K (.ref f_is_step) = true)
    (a_first_invalid : PySem.W.nsIn K mainGlobals "first_invalid" = some (some (.ref f_first_invalid)))
    (l_first_invalid : K.lookup f_first_invalid = some ⟨oc_first_invalid, od_first_invalid, .func (PySem.W.fnOf "first_invalid" "first_invalid" (defArgs s_first_invalid) (defBody s_first_invalid) (defScope s_first_invalid) .none kV_first_invalid dc_first_invalid pm_first_invalid an_first_invalid cd_first_invalid ct_first_invalid), sl_first_invalid⟩)
    (c_first_invalid : PySem.W.codeIn K cd_first_invalid "first_invalid" = true)
    (k_first_invalid : PySem.W.keepIn K (.ref f_first_invalid) = true)
    (a_after_list : PySem.W.nsIn K mainGlobals "after_list" = some (some (.ref f_after_list)))
    (l_after_list : K.lookup f_after_list = some ⟨oc_after_list, od_after_list, .func (PySem.W.fnOf "after_list" "after_list" (defArgs s_after_list) (defBody s_after_list) (defScope s_after_list) .none kV_after_list dc_after_list pm_after_list an_after_list cd_after_list ct_after_list), sl_after_list⟩)
    (c_after_list : PySem.W.codeIn K cd_after_list "after_list" = true)
    (k_after_list : PySem.W.keepIn K (.ref f_after_list) = true)
    (a_is_name : PySem.W.nsIn K mainGlobals "is_name" = some (some (.ref f_is_name)))
    (l_is_name : K.lookup f_is_name = some ⟨oc_is_name, od_is_name, .func (PySem.W.fnOf "is_name" "is_name" (defArgs s_is_name) (defBody s_is_name) (defScope s_is_name) .none kV_is_name dc_is_name pm_is_name an_is_name cd_is_name ct_is_name), sl_is_name⟩)
    (c_is_name : PySem.W.codeIn K cd_is_name "is_name" = true)
    (k_is_name : PySem.W.keepIn K (.ref f_is_name) = true)
    (a_check_user : PySem.W.nsIn K mainGlobals "check_user" = some (some (.ref f_check_user)))
    (l_check_user : K.lookup f_check_user = some ⟨oc_check_user, od_check_user, .func (PySem.W.fnOf "check_user" "check_user" (defArgs s_check_user) (defBody s_check_user) (defScope s_check_user) .none kV_check_user dc_check_user pm_check_user an_check_user cd_check_user ct_check_user), sl_check_user⟩)
    (c_check_user : PySem.W.codeIn K cd_check_user "check_user" = true)
    (k_check_user : PySem.W.keepIn K (.ref f_check_user) = true)
    (a_l_hand : PySem.W.nsIn K mainGlobals "_law_hand" = some (some (.ref f_l_hand)))
    (l_l_hand : K.lookup f_l_hand = some ⟨oc_l_hand, od_l_hand, .func (PySem.W.fnOf "_law_hand" "_law_hand" (defArgs s_l_hand) (defBody s_l_hand) (defScope s_l_hand) .none kV_l_hand dc_l_hand pm_l_hand an_l_hand cd_l_hand ct_l_hand), sl_l_hand⟩)
    (c_l_hand : PySem.W.codeIn K cd_l_hand "_law_hand" = true)
    (k_l_hand : PySem.W.keepIn K (.ref f_l_hand) = true)
    (a_l_draw : PySem.W.nsIn K mainGlobals "_law_draw" = some (some (.ref f_l_draw)))
    (l_l_draw : K.lookup f_l_draw = some ⟨oc_l_draw, od_l_draw, .func (PySem.W.fnOf "_law_draw" "_law_draw" (defArgs s_l_draw) (defBody s_l_draw) (defScope s_l_draw) .none kV_l_draw dc_l_draw pm_l_draw an_l_draw cd_l_draw ct_l_draw), sl_l_draw⟩)
    (c_l_draw : PySem.W.codeIn K cd_l_draw "_law_draw" = true)
    (k_l_draw : PySem.W.keepIn K (.ref f_l_draw) = true)
    (a_l_arrows : PySem.W.nsIn K mainGlobals "_law_arrows" = some (some (.ref f_l_arrows)))
    (l_l_arrows : K.lookup f_l_arrows = some ⟨oc_l_arrows, od_l_arrows, .func (PySem.W.fnOf "_law_arrows" "_law_arrows" (defArgs s_l_arrows) (defBody s_l_arrows) (defScope s_l_arrows) .none kV_l_arrows dc_l_arrows pm_l_arrows an_l_arrows cd_l_arrows ct_l_arrows), sl_l_arrows⟩)
    (c_l_arrows : PySem.W.codeIn K cd_l_arrows "_law_arrows" = true)
    (k_l_arrows : PySem.W.keepIn K (.ref f_l_arrows) = true)
    (a_l_product : PySem.W.nsIn K mainGlobals "_law_product" = some (some (.ref f_l_product)))
    (l_l_product : K.lookup f_l_product = some ⟨oc_l_product, od_l_product, .func (PySem.W.fnOf "_law_product" "_law_product" (defArgs s_l_product) (defBody s_l_product) (defScope s_l_product) .none kV_l_product dc_l_product pm_l_product an_l_product cd_l_product ct_l_product), sl_l_product⟩)
    (c_l_product : PySem.W.codeIn K cd_l_product "_law_product" = true)
    (k_l_product : PySem.W.keepIn K (.ref f_l_product) = true)
    (a_l_full : PySem.W.nsIn K mainGlobals "_law_full" = some (some (.ref f_l_full)))
    (l_l_full : K.lookup f_l_full = some ⟨oc_l_full, od_l_full, .func (PySem.W.fnOf "_law_full" "_law_full" (defArgs s_l_full) (defBody s_l_full) (defScope s_l_full) .none kV_l_full dc_l_full pm_l_full an_l_full cd_l_full ct_l_full), sl_l_full⟩)
    (c_l_full : PySem.W.codeIn K cd_l_full "_law_full" = true)
    (k_l_full : PySem.W.keepIn K (.ref f_l_full) = true)
    (a_l_inverse : PySem.W.nsIn K mainGlobals "_law_inverse" = some (some (.ref f_l_inverse)))
    (l_l_inverse : K.lookup f_l_inverse = some ⟨oc_l_inverse, od_l_inverse, .func (PySem.W.fnOf "_law_inverse" "_law_inverse" (defArgs s_l_inverse) (defBody s_l_inverse) (defScope s_l_inverse) .none kV_l_inverse dc_l_inverse pm_l_inverse an_l_inverse cd_l_inverse ct_l_inverse), sl_l_inverse⟩)
    (c_l_inverse : PySem.W.codeIn K cd_l_inverse "_law_inverse" = true)
    (k_l_inverse : PySem.W.keepIn K (.ref f_l_inverse) = true)
    (a_l_power : PySem.W.nsIn K mainGlobals "_law_power" = some (some (.ref f_l_power)))
    (l_l_power : K.lookup f_l_power = some ⟨oc_l_power, od_l_power, .func (PySem.W.fnOf "_law_power" "_law_power" (defArgs s_l_power) (defBody s_l_power) (defScope s_l_power) .none kV_l_power dc_l_power pm_l_power an_l_power cd_l_power ct_l_power), sl_l_power⟩)
    (c_l_power : PySem.W.codeIn K cd_l_power "_law_power" = true)
    (k_l_power : PySem.W.keepIn K (.ref f_l_power) = true)
    (a_l_step : PySem.W.nsIn K mainGlobals "_law_step" = some (some (.ref f_l_step)))
    (l_l_step : K.lookup f_l_step = some ⟨oc_l_step, od_l_step, .func (PySem.W.fnOf "_law_step" "_law_step" (defArgs s_l_step) (defBody s_l_step) (defScope s_l_step) .none kV_l_step dc_l_step pm_l_step an_l_step cd_l_step ct_l_step), sl_l_step⟩)
    (c_l_step : PySem.W.codeIn K cd_l_step "_law_step" = true)
    (k_l_step : PySem.W.keepIn K (.ref f_l_step) = true)
    (a_l_stepped : PySem.W.nsIn K mainGlobals "_law_stepped" = some (some (.ref f_l_stepped)))
    (l_l_stepped : K.lookup f_l_stepped = some ⟨oc_l_stepped, od_l_stepped, .func (PySem.W.fnOf "_law_stepped" "_law_stepped" (defArgs s_l_stepped) (defBody s_l_stepped) (defScope s_l_stepped) .none kV_l_stepped dc_l_stepped pm_l_stepped an_l_stepped cd_l_stepped ct_l_stepped), sl_l_stepped⟩)
    (c_l_stepped : PySem.W.codeIn K cd_l_stepped "_law_stepped" = true)
    (k_l_stepped : PySem.W.keepIn K (.ref f_l_stepped) = true)
    (a_l_caught : PySem.W.nsIn K mainGlobals "_law_caught" = some (some (.ref f_l_caught)))
    (l_l_caught : K.lookup f_l_caught = some ⟨oc_l_caught, od_l_caught, .func (PySem.W.fnOf "_law_caught" "_law_caught" (defArgs s_l_caught) (defBody s_l_caught) (defScope s_l_caught) .none kV_l_caught dc_l_caught pm_l_caught an_l_caught cd_l_caught ct_l_caught), sl_l_caught⟩)
    (c_l_caught : PySem.W.codeIn K cd_l_caught "_law_caught" = true)
    (k_l_caught : PySem.W.keepIn K (.ref f_l_caught) = true)
    (a_l_planned : PySem.W.nsIn K mainGlobals "_law_planned" = some (some (.ref f_l_planned)))
    (l_l_planned : K.lookup f_l_planned = some ⟨oc_l_planned, od_l_planned, .func (PySem.W.fnOf "_law_planned" "_law_planned" (defArgs s_l_planned) (defBody s_l_planned) (defScope s_l_planned) .none kV_l_planned dc_l_planned pm_l_planned an_l_planned cd_l_planned ct_l_planned), sl_l_planned⟩)
    (c_l_planned : PySem.W.codeIn K cd_l_planned "_law_planned" = true)
    (k_l_planned : PySem.W.keepIn K (.ref f_l_planned) = true)
    (a_l_done : PySem.W.nsIn K mainGlobals "_law_done" = some (some (.ref f_l_done)))
    (l_l_done : K.lookup f_l_done = some ⟨oc_l_done, od_l_done, .func (PySem.W.fnOf "_law_done" "_law_done" (defArgs s_l_done) (defBody s_l_done) (defScope s_l_done) .none kV_l_done dc_l_done pm_l_done an_l_done cd_l_done ct_l_done), sl_l_done⟩)
    (c_l_done : PySem.W.codeIn K cd_l_done "_law_done" = true)
    (k_l_done : PySem.W.keepIn K (.ref f_l_done) = true)
    (a_law : PySem.W.nsIn K mainGlobals "law" = some (some (.ref f_law)))
    (l_law : K.lookup f_law = some ⟨oc_law, od_law, .func (PySem.W.fnOf "law" "law" (defArgs s_law) (defBody s_law) (defScope s_law) .none kV_law dc_law pm_law an_law (.ref c_law) ct_law), sl_law⟩)
    (cd_law : PySem.W.codeIn K (.ref c_law) "law" = true)
    (k_law : PySem.W.keepIn K (.ref f_law) = true)
    (tm_law : P_law = 835)
    (hd_law : PySem.W.codeHdIn K c_law P_law = true)
    (nt_law : K.lookup P_law = none)
    (a_Map : PySem.W.nsIn K mainGlobals "Map" = some (some (.ref C_Map)))
    (pg_Map : PySem.W.plainGet K C_Map Str.empty = true)
    (hd_Map : PySem.W.hasDictIn K C_Map = true)
    (po_Map : PySem.W.plainOver K C_Map = true)
    (sa_Map : PySem.W.findIn K (.ref C_Map) "__setattr__" = some (some (.builtin "object.__setattr__")))
    (sf_Map : PySem.W.selfFirst K C_Map = true)
    (ca_Map : PySem.W.findIn K (.ref C_Map) "__class__" = some (some (.builtin "object.__class__")))
    (cn_Map : PySem.W.specialIn K (.builtin "object.__class__") "__get__" = some (some (.builtin "getset_descriptor.__get__")))
    (ct_Map : PySem.W.takesIn K (.builtin "object.__class__") = some true)
    (cm_Map : PySem.W.mroIn K C_Map (.type "object") = some true)
    (kc_Map : PySem.W.keepIn K (.ref C_Map) = true)
    (kit_int_Map : PySem.W.kitOne K (.ref C_Map) (.type "int") = some false)
    (kit_bool_Map : PySem.W.kitOne K (.ref C_Map) (.type "bool") = some false)
    (kit_str_Map : PySem.W.kitOne K (.ref C_Map) (.type "str") = some false)
    (kit_tuple_Map : PySem.W.kitOne K (.ref C_Map) (.type "tuple") = some false)
    (kit_list_Map : PySem.W.kitOne K (.ref C_Map) (.type "list") = some false)
    (kn_NoneType_Map : PySem.W.kitOne K (.type "NoneType") (.ref C_Map) = some false)
    (nf_NoneType_Map : PySem.W.notFirst K C_Map (.type "NoneType") = true)
    (kn_int_Map : PySem.W.kitOne K (.type "int") (.ref C_Map) = some false)
    (nf_int_Map : PySem.W.notFirst K C_Map (.type "int") = true)
    (kn_bool_Map : PySem.W.kitOne K (.type "bool") (.ref C_Map) = some false)
    (nf_bool_Map : PySem.W.notFirst K C_Map (.type "bool") = true)
    (kn_str_Map : PySem.W.kitOne K (.type "str") (.ref C_Map) = some false)
    (nf_str_Map : PySem.W.notFirst K C_Map (.type "str") = true)
    (kn_list_Map : PySem.W.kitOne K (.type "list") (.ref C_Map) = some false)
    (nf_list_Map : PySem.W.notFirst K C_Map (.type "list") = true)
    (kn_dict_Map : PySem.W.kitOne K (.type "dict") (.ref C_Map) = some false)
    (nf_dict_Map : PySem.W.notFirst K C_Map (.type "dict") = true)
    (kn_tuple_Map : PySem.W.kitOne K (.type "tuple") (.ref C_Map) = some false)
    (nf_tuple_Map : PySem.W.notFirst K C_Map (.type "tuple") = true)
    (self_Map : PySem.W.kitOne K (.ref C_Map) (.ref C_Map) = some true)
    (na_own_size_Map : PySem.W.findIn K (.ref C_Map) "own_size" = some none)
    (na_own_arrows_Map : PySem.W.findIn K (.ref C_Map) "own_arrows" = some none)
    (ne_Map : PySem.W.findIn K (.ref C_Map) "__ne__" = some (some (.builtin "object.__ne__")))
    (m_Map__init : PySem.W.findIn K (.ref C_Map) "__init__" = some (some (.ref f_Map__init)))
    (i_Map__init : PySem.W.isFn K (.ref f_Map__init) = true)
    (l_Map__init : K.lookup f_Map__init = some ⟨oc_Map__init, od_Map__init, .func (PySem.W.fnOf "__init__" "Map.__init__" (defArgs s_Map__init) (defBody s_Map__init) (defScope s_Map__init) .none kV_Map__init dc_Map__init pm_Map__init an_Map__init cd_Map__init ct_Map__init), sl_Map__init⟩)
    (c_Map__init : PySem.W.codeIn K cd_Map__init "Map.__init__" = true)
    (k_Map__init : PySem.W.keepIn K (.ref f_Map__init) = true)
    (mk_Map : PySem.W.makesIn K C_Map = true)
    (rd_Map : PySem.W.readsIn K C_Map (.type "type") = true)
    (ga_Map : PySem.W.specialIn K (.ref C_Map) "__getattribute__" = some (some (.builtin "type.__getattribute__")))
    (at_Map_identity : PySem.W.findCls K (.ref C_Map) (.type "type") "identity" = some (.get (.builtin "classmethod.__get__") (.ref p_Map_identity) .none (.ref C_Map)))
    (rc_Map_identity : PySem.W.recIn K p_Map_identity "classmethod" = some (.ref f_Map_identity :: r_Map_identity))
    (fi_Map_identity : PySem.W.fnIn K f_Map_identity = true)
    (l_Map_identity : K.lookup f_Map_identity = some ⟨oc_Map_identity, od_Map_identity, .func (PySem.W.fnOf "identity" "Map.identity" (defArgs s_Map_identity) (defBody s_Map_identity) (defScope s_Map_identity) .none kV_Map_identity dc_Map_identity pm_Map_identity an_Map_identity cd_Map_identity ct_Map_identity), sl_Map_identity⟩)
    (c_Map_identity : PySem.W.codeIn K cd_Map_identity "Map.identity" = true)
    (k_Map_identity : PySem.W.keepIn K (.ref f_Map_identity) = true)
    (m_Map_size : PySem.W.findIn K (.ref C_Map) "size" = some (some (.ref p_Map_size)))
    (s_get_Map_size : PySem.W.specialIn K (.ref p_Map_size) "__get__" = some (some (.builtin "property.__get__")))
    (tk_Map_size : PySem.W.takesIn K (.ref p_Map_size) = some true)
    (rc_Map_size : PySem.W.recIn K p_Map_size "property" = some (.ref f_Map_size :: r_Map_size))
    (l_Map_size : K.lookup f_Map_size = some ⟨oc_Map_size, od_Map_size, .func (PySem.W.fnOf "size" "Map.size" (defArgs s_Map_size) (defBody s_Map_size) (defScope s_Map_size) .none kV_Map_size dc_Map_size pm_Map_size an_Map_size cd_Map_size ct_Map_size), sl_Map_size⟩)
    (c_Map_size : PySem.W.codeIn K cd_Map_size "Map.size" = true)
    (k_Map_size : PySem.W.keepIn K (.ref f_Map_size) = true)
    (m_Map_arrows : PySem.W.findIn K (.ref C_Map) "arrows" = some (some (.ref p_Map_arrows)))
    (s_get_Map_arrows : PySem.W.specialIn K (.ref p_Map_arrows) "__get__" = some (some (.builtin "property.__get__")))
    (tk_Map_arrows : PySem.W.takesIn K (.ref p_Map_arrows) = some true)
    (rc_Map_arrows : PySem.W.recIn K p_Map_arrows "property" = some (.ref f_Map_arrows :: r_Map_arrows))
    (l_Map_arrows : K.lookup f_Map_arrows = some ⟨oc_Map_arrows, od_Map_arrows, .func (PySem.W.fnOf "arrows" "Map.arrows" (defArgs s_Map_arrows) (defBody s_Map_arrows) (defScope s_Map_arrows) .none kV_Map_arrows dc_Map_arrows pm_Map_arrows an_Map_arrows cd_Map_arrows ct_Map_arrows), sl_Map_arrows⟩)
    (c_Map_arrows : PySem.W.codeIn K cd_Map_arrows "Map.arrows" = true)
    (k_Map_arrows : PySem.W.keepIn K (.ref f_Map_arrows) = true)
    (m_Map__mul : PySem.W.findIn K (.ref C_Map) "__mul__" = some (some (.ref f_Map__mul)))
    (i_Map__mul : PySem.W.isFn K (.ref f_Map__mul) = true)
    (l_Map__mul : K.lookup f_Map__mul = some ⟨oc_Map__mul, od_Map__mul, .func (PySem.W.fnOf "__mul__" "Map.__mul__" (defArgs s_Map__mul) (defBody s_Map__mul) (defScope s_Map__mul) .none kV_Map__mul dc_Map__mul pm_Map__mul an_Map__mul cd_Map__mul ct_Map__mul), sl_Map__mul⟩)
    (c_Map__mul : PySem.W.codeIn K cd_Map__mul "Map.__mul__" = true)
    (k_Map__mul : PySem.W.keepIn K (.ref f_Map__mul) = true)
    (m_Map__invert : PySem.W.findIn K (.ref C_Map) "__invert__" = some (some (.ref f_Map__invert)))
    (i_Map__invert : PySem.W.isFn K (.ref f_Map__invert) = true)
    (l_Map__invert : K.lookup f_Map__invert = some ⟨oc_Map__invert, od_Map__invert, .func (PySem.W.fnOf "__invert__" "Map.__invert__" (defArgs s_Map__invert) (defBody s_Map__invert) (defScope s_Map__invert) .none kV_Map__invert dc_Map__invert pm_Map__invert an_Map__invert cd_Map__invert ct_Map__invert), sl_Map__invert⟩)
    (c_Map__invert : PySem.W.codeIn K cd_Map__invert "Map.__invert__" = true)
    (k_Map__invert : PySem.W.keepIn K (.ref f_Map__invert) = true)
    (m_Map_power : PySem.W.findIn K (.ref C_Map) "power" = some (some (.ref f_Map_power)))
    (i_Map_power : PySem.W.isFn K (.ref f_Map_power) = true)
    (l_Map_power : K.lookup f_Map_power = some ⟨oc_Map_power, od_Map_power, .func (PySem.W.fnOf "power" "Map.power" (defArgs s_Map_power) (defBody s_Map_power) (defScope s_Map_power) .none kV_Map_power dc_Map_power pm_Map_power an_Map_power cd_Map_power ct_Map_power), sl_Map_power⟩)
    (c_Map_power : PySem.W.codeIn K cd_Map_power "Map.power" = true)
    (k_Map_power : PySem.W.keepIn K (.ref f_Map_power) = true)
    (m_Map__eq : PySem.W.findIn K (.ref C_Map) "__eq__" = some (some (.ref f_Map__eq)))
    (i_Map__eq : PySem.W.isFn K (.ref f_Map__eq) = true)
    (l_Map__eq : K.lookup f_Map__eq = some ⟨oc_Map__eq, od_Map__eq, .func (PySem.W.fnOf "__eq__" "Map.__eq__" (defArgs s_Map__eq) (defBody s_Map__eq) (defScope s_Map__eq) .none kV_Map__eq dc_Map__eq pm_Map__eq an_Map__eq cd_Map__eq ct_Map__eq), sl_Map__eq⟩)
    (c_Map__eq : PySem.W.codeIn K cd_Map__eq "Map.__eq__" = true)
    (k_Map__eq : PySem.W.keepIn K (.ref f_Map__eq) = true)
    (m_Map__len : PySem.W.findIn K (.ref C_Map) "__len__" = some (some (.ref f_Map__len)))
    (i_Map__len : PySem.W.isFn K (.ref f_Map__len) = true)
    (l_Map__len : K.lookup f_Map__len = some ⟨oc_Map__len, od_Map__len, .func (PySem.W.fnOf "__len__" "Map.__len__" (defArgs s_Map__len) (defBody s_Map__len) (defScope s_Map__len) .none kV_Map__len dc_Map__len pm_Map__len an_Map__len cd_Map__len ct_Map__len), sl_Map__len⟩)
    (c_Map__len : PySem.W.codeIn K cd_Map__len "Map.__len__" = true)
    (k_Map__len : PySem.W.keepIn K (.ref f_Map__len) = true)
    (a_Session : PySem.W.nsIn K mainGlobals "Session" = some (some (.ref C_Session)))
    (pg_Session : PySem.W.plainGet K C_Session Str.empty = true)
    (hd_Session : PySem.W.hasDictIn K C_Session = true)
    (po_Session : PySem.W.plainOver K C_Session = true)
    (sa_Session : PySem.W.findIn K (.ref C_Session) "__setattr__" = some (some (.builtin "object.__setattr__")))
    (sf_Session : PySem.W.selfFirst K C_Session = true)
    (ca_Session : PySem.W.findIn K (.ref C_Session) "__class__" = some (some (.builtin "object.__class__")))
    (cn_Session : PySem.W.specialIn K (.builtin "object.__class__") "__get__" = some (some (.builtin "getset_descriptor.__get__")))
    (ct_Session : PySem.W.takesIn K (.builtin "object.__class__") = some true)
    (cm_Session : PySem.W.mroIn K C_Session (.type "object") = some true)
    (kc_Session : PySem.W.keepIn K (.ref C_Session) = true)
    (kit_int_Session : PySem.W.kitOne K (.ref C_Session) (.type "int") = some false)
    (kit_bool_Session : PySem.W.kitOne K (.ref C_Session) (.type "bool") = some false)
    (self_Session : PySem.W.kitOne K (.ref C_Session) (.ref C_Session) = some true)
    (na_own_present_Session : PySem.W.findIn K (.ref C_Session) "own_present" = some none)
    (na_own_log_Session : PySem.W.findIn K (.ref C_Session) "own_log" = some none)
    (na_own_earlier_Session : PySem.W.findIn K (.ref C_Session) "own_earlier" = some none)
    (m_Session__init : PySem.W.findIn K (.ref C_Session) "__init__" = some (some (.ref f_Session__init)))
    (i_Session__init : PySem.W.isFn K (.ref f_Session__init) = true)
    (l_Session__init : K.lookup f_Session__init = some ⟨oc_Session__init, od_Session__init, .func (PySem.W.fnOf "__init__" "Session.__init__" (defArgs s_Session__init) (defBody s_Session__init) (defScope s_Session__init) .none kV_Session__init dc_Session__init pm_Session__init an_Session__init cd_Session__init ct_Session__init), sl_Session__init⟩)
    (c_Session__init : PySem.W.codeIn K cd_Session__init "Session.__init__" = true)
    (k_Session__init : PySem.W.keepIn K (.ref f_Session__init) = true)
    (mk_Session : PySem.W.makesIn K C_Session = true)
    (m_Session_present : PySem.W.findIn K (.ref C_Session) "present" = some (some (.ref p_Session_present)))
    (s_get_Session_present : PySem.W.specialIn K (.ref p_Session_present) "__get__" = some (some (.builtin "property.__get__")))
    (tk_Session_present : PySem.W.takesIn K (.ref p_Session_present) = some true)
    (rc_Session_present : PySem.W.recIn K p_Session_present "property" = some (.ref f_Session_present :: r_Session_present))
    (l_Session_present : K.lookup f_Session_present = some ⟨oc_Session_present, od_Session_present, .func (PySem.W.fnOf "present" "Session.present" (defArgs s_Session_present) (defBody s_Session_present) (defScope s_Session_present) .none kV_Session_present dc_Session_present pm_Session_present an_Session_present cd_Session_present ct_Session_present), sl_Session_present⟩)
    (c_Session_present : PySem.W.codeIn K cd_Session_present "Session.present" = true)
    (k_Session_present : PySem.W.keepIn K (.ref f_Session_present) = true)
    (m_Session_log : PySem.W.findIn K (.ref C_Session) "log" = some (some (.ref f_Session_log)))
    (i_Session_log : PySem.W.isFn K (.ref f_Session_log) = true)
    (l_Session_log : K.lookup f_Session_log = some ⟨oc_Session_log, od_Session_log, .func (PySem.W.fnOf "log" "Session.log" (defArgs s_Session_log) (defBody s_Session_log) (defScope s_Session_log) .none kV_Session_log dc_Session_log pm_Session_log an_Session_log cd_Session_log ct_Session_log), sl_Session_log⟩)
    (c_Session_log : PySem.W.codeIn K cd_Session_log "Session.log" = true)
    (k_Session_log : PySem.W.keepIn K (.ref f_Session_log) = true)
    (m_Session_check_next : PySem.W.findIn K (.ref C_Session) "check_next" = some (some (.ref f_Session_check_next)))
    (i_Session_check_next : PySem.W.isFn K (.ref f_Session_check_next) = true)
    (l_Session_check_next : K.lookup f_Session_check_next = some ⟨oc_Session_check_next, od_Session_check_next, .func (PySem.W.fnOf "check_next" "Session.check_next" (defArgs s_Session_check_next) (defBody s_Session_check_next) (defScope s_Session_check_next) .none kV_Session_check_next dc_Session_check_next pm_Session_check_next an_Session_check_next cd_Session_check_next ct_Session_check_next), sl_Session_check_next⟩)
    (c_Session_check_next : PySem.W.codeIn K cd_Session_check_next "Session.check_next" = true)
    (k_Session_check_next : PySem.W.keepIn K (.ref f_Session_check_next) = true)
    (m_Session_change_to : PySem.W.findIn K (.ref C_Session) "change_to" = some (some (.ref f_Session_change_to)))
    (i_Session_change_to : PySem.W.isFn K (.ref f_Session_change_to) = true)
    (l_Session_change_to : K.lookup f_Session_change_to = some ⟨oc_Session_change_to, od_Session_change_to, .func (PySem.W.fnOf "change_to" "Session.change_to" (defArgs s_Session_change_to) (defBody s_Session_change_to) (defScope s_Session_change_to) .none kV_Session_change_to dc_Session_change_to pm_Session_change_to an_Session_change_to cd_Session_change_to ct_Session_change_to), sl_Session_change_to⟩)
    (c_Session_change_to : PySem.W.codeIn K cd_Session_change_to "Session.change_to" = true)
    (k_Session_change_to : PySem.W.keepIn K (.ref f_Session_change_to) = true)
    (m_Session_apply : PySem.W.findIn K (.ref C_Session) "apply" = some (some (.ref f_Session_apply)))
    (i_Session_apply : PySem.W.isFn K (.ref f_Session_apply) = true)
    (l_Session_apply : K.lookup f_Session_apply = some ⟨oc_Session_apply, od_Session_apply, .func (PySem.W.fnOf "apply" "Session.apply" (defArgs s_Session_apply) (defBody s_Session_apply) (defScope s_Session_apply) .none kV_Session_apply dc_Session_apply pm_Session_apply an_Session_apply cd_Session_apply ct_Session_apply), sl_Session_apply⟩)
    (c_Session_apply : PySem.W.codeIn K cd_Session_apply "Session.apply" = true)
    (k_Session_apply : PySem.W.keepIn K (.ref f_Session_apply) = true)
    (m_Session_raise_to : PySem.W.findIn K (.ref C_Session) "raise_to" = some (some (.ref f_Session_raise_to)))
    (i_Session_raise_to : PySem.W.isFn K (.ref f_Session_raise_to) = true)
    (l_Session_raise_to : K.lookup f_Session_raise_to = some ⟨oc_Session_raise_to, od_Session_raise_to, .func (PySem.W.fnOf "raise_to" "Session.raise_to" (defArgs s_Session_raise_to) (defBody s_Session_raise_to) (defScope s_Session_raise_to) .none kV_Session_raise_to dc_Session_raise_to pm_Session_raise_to an_Session_raise_to cd_Session_raise_to ct_Session_raise_to), sl_Session_raise_to⟩)
    (c_Session_raise_to : PySem.W.codeIn K cd_Session_raise_to "Session.raise_to" = true)
    (k_Session_raise_to : PySem.W.keepIn K (.ref f_Session_raise_to) = true)
    (m_Session_do_steps : PySem.W.findIn K (.ref C_Session) "do_steps" = some (some (.ref f_Session_do_steps)))
    (i_Session_do_steps : PySem.W.isFn K (.ref f_Session_do_steps) = true)
    (l_Session_do_steps : K.lookup f_Session_do_steps = some ⟨oc_Session_do_steps, od_Session_do_steps, .func (PySem.W.fnOf "do_steps" "Session.do_steps" (defArgs s_Session_do_steps) (defBody s_Session_do_steps) (defScope s_Session_do_steps) .none kV_Session_do_steps dc_Session_do_steps pm_Session_do_steps an_Session_do_steps cd_Session_do_steps ct_Session_do_steps), sl_Session_do_steps⟩)
    (c_Session_do_steps : PySem.W.codeIn K cd_Session_do_steps "Session.do_steps" = true)
    (k_Session_do_steps : PySem.W.keepIn K (.ref f_Session_do_steps) = true)
    (m_Session_undo : PySem.W.findIn K (.ref C_Session) "undo" = some (some (.ref f_Session_undo)))
    (i_Session_undo : PySem.W.isFn K (.ref f_Session_undo) = true)
    (l_Session_undo : K.lookup f_Session_undo = some ⟨oc_Session_undo, od_Session_undo, .func (PySem.W.fnOf "undo" "Session.undo" (defArgs s_Session_undo) (defBody s_Session_undo) (defScope s_Session_undo) .none kV_Session_undo dc_Session_undo pm_Session_undo an_Session_undo cd_Session_undo ct_Session_undo), sl_Session_undo⟩)
    (c_Session_undo : PySem.W.codeIn K cd_Session_undo "Session.undo" = true)
    (k_Session_undo : PySem.W.keepIn K (.ref f_Session_undo) = true)
    (m_Session_at : PySem.W.findIn K (.ref C_Session) "at" = some (some (.ref f_Session_at)))
    (i_Session_at : PySem.W.isFn K (.ref f_Session_at) = true)
    (l_Session_at : K.lookup f_Session_at = some ⟨oc_Session_at, od_Session_at, .func (PySem.W.fnOf "at" "Session.at" (defArgs s_Session_at) (defBody s_Session_at) (defScope s_Session_at) .none kV_Session_at dc_Session_at pm_Session_at an_Session_at cd_Session_at ct_Session_at), sl_Session_at⟩)
    (c_Session_at : PySem.W.codeIn K cd_Session_at "Session.at" = true)
    (k_Session_at : PySem.W.keepIn K (.ref f_Session_at) = true)
    (m_Session__len : PySem.W.findIn K (.ref C_Session) "__len__" = some (some (.ref f_Session__len)))
    (i_Session__len : PySem.W.isFn K (.ref f_Session__len) = true)
    (l_Session__len : K.lookup f_Session__len = some ⟨oc_Session__len, od_Session__len, .func (PySem.W.fnOf "__len__" "Session.__len__" (defArgs s_Session__len) (defBody s_Session__len) (defScope s_Session__len) .none kV_Session__len dc_Session__len pm_Session__len an_Session__len cd_Session__len ct_Session__len), sl_Session__len⟩)
    (c_Session__len : PySem.W.codeIn K cd_Session__len "Session.__len__" = true)
    (k_Session__len : PySem.W.keepIn K (.ref f_Session__len) = true)
    (a_KeepingSession : PySem.W.nsIn K mainGlobals "KeepingSession" = some (some (.ref C_KeepingSession)))
    (pg_KeepingSession : PySem.W.plainGet K C_KeepingSession Str.empty = true)
    (hd_KeepingSession : PySem.W.hasDictIn K C_KeepingSession = true)
    (po_KeepingSession : PySem.W.plainOver K C_KeepingSession = true)
    (sa_KeepingSession : PySem.W.findIn K (.ref C_KeepingSession) "__setattr__" = some (some (.builtin "object.__setattr__")))
    (sf_KeepingSession : PySem.W.selfFirst K C_KeepingSession = true)
    (ca_KeepingSession : PySem.W.findIn K (.ref C_KeepingSession) "__class__" = some (some (.builtin "object.__class__")))
    (cn_KeepingSession : PySem.W.specialIn K (.builtin "object.__class__") "__get__" = some (some (.builtin "getset_descriptor.__get__")))
    (ct_KeepingSession : PySem.W.takesIn K (.builtin "object.__class__") = some true)
    (cm_KeepingSession : PySem.W.mroIn K C_KeepingSession (.type "object") = some true)
    (kc_KeepingSession : PySem.W.keepIn K (.ref C_KeepingSession) = true)
    (kit_int_KeepingSession : PySem.W.kitOne K (.ref C_KeepingSession) (.type "int") = some false)
    (kit_bool_KeepingSession : PySem.W.kitOne K (.ref C_KeepingSession) (.type "bool") = some false)
    (self_KeepingSession : PySem.W.kitOne K (.ref C_KeepingSession) (.ref C_KeepingSession) = some true)
    (na_own_present_KeepingSession : PySem.W.findIn K (.ref C_KeepingSession) "own_present" = some none)
    (na_own_log_KeepingSession : PySem.W.findIn K (.ref C_KeepingSession) "own_log" = some none)
    (na_own_earlier_KeepingSession : PySem.W.findIn K (.ref C_KeepingSession) "own_earlier" = some none)
    (na_own_least_KeepingSession : PySem.W.findIn K (.ref C_KeepingSession) "own_least" = some none)
    (ih_Session_present_KeepingSession : PySem.W.findIn K (.ref C_KeepingSession) "present" = some (some (.ref p_Session_present)))
    (ih_Session_log_KeepingSession : PySem.W.findIn K (.ref C_KeepingSession) "log" = some (some (.ref f_Session_log)))
    (ih_Session_change_to_KeepingSession : PySem.W.findIn K (.ref C_KeepingSession) "change_to" = some (some (.ref f_Session_change_to)))
    (ih_Session_apply_KeepingSession : PySem.W.findIn K (.ref C_KeepingSession) "apply" = some (some (.ref f_Session_apply)))
    (ih_Session_raise_to_KeepingSession : PySem.W.findIn K (.ref C_KeepingSession) "raise_to" = some (some (.ref f_Session_raise_to)))
    (ih_Session_do_steps_KeepingSession : PySem.W.findIn K (.ref C_KeepingSession) "do_steps" = some (some (.ref f_Session_do_steps)))
    (ih_Session_undo_KeepingSession : PySem.W.findIn K (.ref C_KeepingSession) "undo" = some (some (.ref f_Session_undo)))
    (ih_Session_at_KeepingSession : PySem.W.findIn K (.ref C_KeepingSession) "at" = some (some (.ref f_Session_at)))
    (ih_Session__len_KeepingSession : PySem.W.findIn K (.ref C_KeepingSession) "__len__" = some (some (.ref f_Session__len)))
    (su_Session__init_KeepingSession : PySem.W.mroIn K C_KeepingSession (.ref C_KeepingSession) = some true)
    (kq_Session__init_KeepingSession : PySem.W.ks_superIn K C_KeepingSession C_KeepingSession "__init__" = some (some (.ref f_Session__init)))
    (st_Session__init_KeepingSession : PySem.W.typeIn K (.ref f_Session__init) = some (.type "function"))
    (sn_Session__init_KeepingSession : PySem.W.fnIn K f_Session__init = true)
    (su_Session_check_next_KeepingSession : PySem.W.mroIn K C_KeepingSession (.ref C_KeepingSession) = some true)
    (kq_Session_check_next_KeepingSession : PySem.W.ks_superIn K C_KeepingSession C_KeepingSession "check_next" = some (some (.ref f_Session_check_next)))
    (st_Session_check_next_KeepingSession : PySem.W.typeIn K (.ref f_Session_check_next) = some (.type "function"))
    (sn_Session_check_next_KeepingSession : PySem.W.fnIn K f_Session_check_next = true)
    (m_KeepingSession__init : PySem.W.findIn K (.ref C_KeepingSession) "__init__" = some (some (.ref f_KeepingSession__init)))
    (i_KeepingSession__init : PySem.W.isFn K (.ref f_KeepingSession__init) = true)
    (l_KeepingSession__init : K.lookup f_KeepingSession__init = some ⟨oc_KeepingSession__init, od_KeepingSession__init, .func (PySem.W.fnX "__init__" "KeepingSession.__init__" (defArgs s_KeepingSession__init) (defBody s_KeepingSession__init) (defScope s_KeepingSession__init) [("__class__", cc_KeepingSession__init)] .none kV_KeepingSession__init dc_KeepingSession__init pm_KeepingSession__init an_KeepingSession__init (.ref c_KeepingSession__init) ct_KeepingSession__init), sl_KeepingSession__init⟩)
    (cd_KeepingSession__init : PySem.W.codeIn K (.ref c_KeepingSession__init) "KeepingSession.__init__" = true)
    (k_KeepingSession__init : PySem.W.keepIn K (.ref f_KeepingSession__init) = true)
    (co_KeepingSession__init : K.lookup c_KeepingSession__init = some ⟨ccl_KeepingSession__init, cdd_KeepingSession__init, .fields vs_KeepingSession__init, ccs_KeepingSession__init⟩)
    (fl_KeepingSession__init : fileOf vs_KeepingSession__init = some ("/claim/cut.py" : Str))
    (ce_KeepingSession__init : K.lookup cc_KeepingSession__init = some ⟨ccc_KeepingSession__init, ccd_KeepingSession__init, .cell (some (.ref C_KeepingSession)), cso_KeepingSession__init⟩)
    (kd_KeepingSession__init : PySem.W.clsIn K C_KeepingSession = some cdt_KeepingSession__init)
    (ns_KeepingSession__init : PySem.W.nsIn K mainGlobals "super" = some none)
    (no_KeepingSession__init : PySem.W.nsIn K cStatics "thirdparty.any" = some none)
    (mk_KeepingSession : PySem.W.makesIn K C_KeepingSession = true)
    (m_KeepingSession_least : PySem.W.findIn K (.ref C_KeepingSession) "least" = some (some (.ref p_KeepingSession_least)))
    (s_get_KeepingSession_least : PySem.W.specialIn K (.ref p_KeepingSession_least) "__get__" = some (some (.builtin "property.__get__")))
    (tk_KeepingSession_least : PySem.W.takesIn K (.ref p_KeepingSession_least) = some true)
    (rc_KeepingSession_least : PySem.W.recIn K p_KeepingSession_least "property" = some (.ref f_KeepingSession_least :: r_KeepingSession_least))
    (l_KeepingSession_least : K.lookup f_KeepingSession_least = some ⟨oc_KeepingSession_least, od_KeepingSession_least, .func (PySem.W.fnOf "least" "KeepingSession.least" (defArgs s_KeepingSession_least) (defBody s_KeepingSession_least) (defScope s_KeepingSession_least) .none kV_KeepingSession_least dc_KeepingSession_least pm_KeepingSession_least an_KeepingSession_least cd_KeepingSession_least ct_KeepingSession_least), sl_KeepingSession_least⟩)
    (c_KeepingSession_least : PySem.W.codeIn K cd_KeepingSession_least "KeepingSession.least" = true)
    (k_KeepingSession_least : PySem.W.keepIn K (.ref f_KeepingSession_least) = true)
    (m_KeepingSession_check_next : PySem.W.findIn K (.ref C_KeepingSession) "check_next" = some (some (.ref f_KeepingSession_check_next)))
    (i_KeepingSession_check_next : PySem.W.isFn K (.ref f_KeepingSession_check_next) = true)
    (l_KeepingSession_check_next : K.lookup f_KeepingSession_check_next = some ⟨oc_KeepingSession_check_next, od_KeepingSession_check_next, .func (PySem.W.fnX "check_next" "KeepingSession.check_next" (defArgs s_KeepingSession_check_next) (defBody s_KeepingSession_check_next) (defScope s_KeepingSession_check_next) [("__class__", cc_KeepingSession_check_next)] .none kV_KeepingSession_check_next dc_KeepingSession_check_next pm_KeepingSession_check_next an_KeepingSession_check_next (.ref c_KeepingSession_check_next) ct_KeepingSession_check_next), sl_KeepingSession_check_next⟩)
    (cd_KeepingSession_check_next : PySem.W.codeIn K (.ref c_KeepingSession_check_next) "KeepingSession.check_next" = true)
    (k_KeepingSession_check_next : PySem.W.keepIn K (.ref f_KeepingSession_check_next) = true)
    (co_KeepingSession_check_next : K.lookup c_KeepingSession_check_next = some ⟨ccl_KeepingSession_check_next, cdd_KeepingSession_check_next, .fields vs_KeepingSession_check_next, ccs_KeepingSession_check_next⟩)
    (fl_KeepingSession_check_next : fileOf vs_KeepingSession_check_next = some ("/claim/cut.py" : Str))
    (ce_KeepingSession_check_next : K.lookup cc_KeepingSession_check_next = some ⟨ccc_KeepingSession_check_next, ccd_KeepingSession_check_next, .cell (some (.ref C_KeepingSession)), cso_KeepingSession_check_next⟩)
    (kd_KeepingSession_check_next : PySem.W.clsIn K C_KeepingSession = some cdt_KeepingSession_check_next)
    (ns_KeepingSession_check_next : PySem.W.nsIn K mainGlobals "super" = some none)
    (no_KeepingSession_check_next : PySem.W.nsIn K cStatics "thirdparty.any" = some none)
    (a_NothingToUndo : PySem.W.nsIn K mainGlobals "NothingToUndo" = some (some (.ref C_NothingToUndo)))
    (xl_NothingToUndo : K.lookup C_NothingToUndo = some (excClassObj nm_NothingToUndo q_NothingToUndo C_NothingToUndo N_NothingToUndo bs_NothingToUndo [.type "LookupError", .type "Exception", .type "BaseException", .type "object"] true sn_NothingToUndo sub_NothingToUndo ab_NothingToUndo col_NothingToUndo dd_NothingToUndo m0_NothingToUndo m1_NothingToUndo m2_NothingToUndo m3_NothingToUndo m5_NothingToUndo "LookupError.__new__"))
    (sa_NothingToUndo : PySem.W.findIn K (.ref C_NothingToUndo) "__setattr__" = some (some (.builtin "object.__setattr__")))
    (ex_NothingToUndo : PySem.W.subIn K (.ref C_NothingToUndo) (.type "BaseException") = some true)
    (ty_NothingToUndo : PySem.W.typeIn K (.ref C_NothingToUndo) = some (.type "type"))
    (kc_NothingToUndo : PySem.W.keepIn K (.ref C_NothingToUndo) = true)
    (hd_NothingToUndo : PySem.W.hasDictIn K C_NothingToUndo = true)
    (ga_NothingToUndo : PySem.W.findIn K (.ref C_NothingToUndo) "__getattribute__" = some (some (.builtin "BaseException.__getattribute__")))
    (gg_NothingToUndo : PySem.W.findIn K (.ref C_NothingToUndo) "__getattr__" = some none)
    (ss_NothingToUndo : PySem.W.subIn K (.ref C_NothingToUndo) (.ref C_NothingToUndo) = some true)
    (ca_NothingToUndo : PySem.W.findIn K (.ref C_NothingToUndo) "__class__" = some (some (.builtin "object.__class__")))
    (cn_NothingToUndo : PySem.W.specialIn K (.builtin "object.__class__") "__get__" = some (some (.builtin "getset_descriptor.__get__")))
    (ct_NothingToUndo : PySem.W.takesIn K (.builtin "object.__class__") = some true)
    (cm_NothingToUndo : PySem.W.mroIn K C_NothingToUndo (.type "object") = some true)
    (kit_LookupError_NothingToUndo : PySem.W.kitOne K (.ref C_NothingToUndo) (.type "LookupError") = some true)
    (na_user_NothingToUndo : PySem.W.findIn K (.ref C_NothingToUndo) "user" = some none)
    (m_NothingToUndo__init : PySem.W.findIn K (.ref C_NothingToUndo) "__init__" = some (some (.ref f_NothingToUndo__init)))
    (ti_NothingToUndo__init : PySem.W.typeIn K (.ref f_NothingToUndo__init) = some (.type "function"))
    (l_NothingToUndo__init : K.lookup f_NothingToUndo__init = some ⟨oc_NothingToUndo__init, od_NothingToUndo__init, .func (PySem.W.fnOf "__init__" "NothingToUndo.__init__" (defArgs s_NothingToUndo__init) (defBody s_NothingToUndo__init) (defScope s_NothingToUndo__init) .none kV_NothingToUndo__init dc_NothingToUndo__init pm_NothingToUndo__init an_NothingToUndo__init cd_NothingToUndo__init ct_NothingToUndo__init), sl_NothingToUndo__init⟩)
    (c_NothingToUndo__init : PySem.W.codeIn K cd_NothingToUndo__init "NothingToUndo.__init__" = true)
    (k_NothingToUndo__init : PySem.W.keepIn K (.ref f_NothingToUndo__init) = true)
    (a_NotLast : PySem.W.nsIn K mainGlobals "NotLast" = some (some (.ref C_NotLast)))
    (xl_NotLast : K.lookup C_NotLast = some (excClassObj nm_NotLast q_NotLast C_NotLast N_NotLast bs_NotLast [.type "RuntimeError", .type "Exception", .type "BaseException", .type "object"] true sn_NotLast sub_NotLast ab_NotLast col_NotLast dd_NotLast m0_NotLast m1_NotLast m2_NotLast m3_NotLast m5_NotLast "RuntimeError.__new__"))
    (sa_NotLast : PySem.W.findIn K (.ref C_NotLast) "__setattr__" = some (some (.builtin "object.__setattr__")))
    (ex_NotLast : PySem.W.subIn K (.ref C_NotLast) (.type "BaseException") = some true)
    (ty_NotLast : PySem.W.typeIn K (.ref C_NotLast) = some (.type "type"))
    (kc_NotLast : PySem.W.keepIn K (.ref C_NotLast) = true)
    (hd_NotLast : PySem.W.hasDictIn K C_NotLast = true)
    (ga_NotLast : PySem.W.findIn K (.ref C_NotLast) "__getattribute__" = some (some (.builtin "BaseException.__getattribute__")))
    (gg_NotLast : PySem.W.findIn K (.ref C_NotLast) "__getattr__" = some none)
    (ss_NotLast : PySem.W.subIn K (.ref C_NotLast) (.ref C_NotLast) = some true)
    (ca_NotLast : PySem.W.findIn K (.ref C_NotLast) "__class__" = some (some (.builtin "object.__class__")))
    (cn_NotLast : PySem.W.specialIn K (.builtin "object.__class__") "__get__" = some (some (.builtin "getset_descriptor.__get__")))
    (ct_NotLast : PySem.W.takesIn K (.builtin "object.__class__") = some true)
    (cm_NotLast : PySem.W.mroIn K C_NotLast (.type "object") = some true)
    (kit_RuntimeError_NotLast : PySem.W.kitOne K (.ref C_NotLast) (.type "RuntimeError") = some true)
    (te_NothingToUndo_NotLast : PySem.W.subIn K (.ref C_NotLast) (.ref C_NothingToUndo) = some false)
    (na_user_NotLast : PySem.W.findIn K (.ref C_NotLast) "user" = some none)
    (m_NotLast__init : PySem.W.findIn K (.ref C_NotLast) "__init__" = some (some (.ref f_NotLast__init)))
    (ti_NotLast__init : PySem.W.typeIn K (.ref f_NotLast__init) = some (.type "function"))
    (l_NotLast__init : K.lookup f_NotLast__init = some ⟨oc_NotLast__init, od_NotLast__init, .func (PySem.W.fnOf "__init__" "NotLast.__init__" (defArgs s_NotLast__init) (defBody s_NotLast__init) (defScope s_NotLast__init) .none kV_NotLast__init dc_NotLast__init pm_NotLast__init an_NotLast__init cd_NotLast__init ct_NotLast__init), sl_NotLast__init⟩)
    (c_NotLast__init : PySem.W.codeIn K cd_NotLast__init "NotLast.__init__" = true)
    (k_NotLast__init : PySem.W.keepIn K (.ref f_NotLast__init) = true)
    (a_TooFew : PySem.W.nsIn K mainGlobals "TooFew" = some (some (.ref C_TooFew)))
    (xl_TooFew : K.lookup C_TooFew = some (excClassObj nm_TooFew q_TooFew C_TooFew N_TooFew bs_TooFew [.type "RuntimeError", .type "Exception", .type "BaseException", .type "object"] true sn_TooFew sub_TooFew ab_TooFew col_TooFew dd_TooFew m0_TooFew m1_TooFew m2_TooFew m3_TooFew m5_TooFew "RuntimeError.__new__"))
    (sa_TooFew : PySem.W.findIn K (.ref C_TooFew) "__setattr__" = some (some (.builtin "object.__setattr__")))
    (ex_TooFew : PySem.W.subIn K (.ref C_TooFew) (.type "BaseException") = some true)
    (ty_TooFew : PySem.W.typeIn K (.ref C_TooFew) = some (.type "type"))
    (kc_TooFew : PySem.W.keepIn K (.ref C_TooFew) = true)
    (hd_TooFew : PySem.W.hasDictIn K C_TooFew = true)
    (ga_TooFew : PySem.W.findIn K (.ref C_TooFew) "__getattribute__" = some (some (.builtin "BaseException.__getattribute__")))
    (gg_TooFew : PySem.W.findIn K (.ref C_TooFew) "__getattr__" = some none)
    (ss_TooFew : PySem.W.subIn K (.ref C_TooFew) (.ref C_TooFew) = some true)
    (ca_TooFew : PySem.W.findIn K (.ref C_TooFew) "__class__" = some (some (.builtin "object.__class__")))
    (cn_TooFew : PySem.W.specialIn K (.builtin "object.__class__") "__get__" = some (some (.builtin "getset_descriptor.__get__")))
    (ct_TooFew : PySem.W.takesIn K (.builtin "object.__class__") = some true)
    (cm_TooFew : PySem.W.mroIn K C_TooFew (.type "object") = some true)
    (kit_RuntimeError_TooFew : PySem.W.kitOne K (.ref C_TooFew) (.type "RuntimeError") = some true)
    (na_number_TooFew : PySem.W.findIn K (.ref C_TooFew) "number" = some none)
    (m_TooFew__init : PySem.W.findIn K (.ref C_TooFew) "__init__" = some (some (.ref f_TooFew__init)))
    (ti_TooFew__init : PySem.W.typeIn K (.ref f_TooFew__init) = some (.type "function"))
    (l_TooFew__init : K.lookup f_TooFew__init = some ⟨oc_TooFew__init, od_TooFew__init, .func (PySem.W.fnOf "__init__" "TooFew.__init__" (defArgs s_TooFew__init) (defBody s_TooFew__init) (defScope s_TooFew__init) .none kV_TooFew__init dc_TooFew__init pm_TooFew__init an_TooFew__init cd_TooFew__init ct_TooFew__init), sl_TooFew__init⟩)
    (c_TooFew__init : PySem.W.codeIn K cd_TooFew__init "TooFew.__init__" = true)
    (k_TooFew__init : PySem.W.keepIn K (.ref f_TooFew__init) = true)
    (a_InvalidNumber : PySem.W.nsIn K mainGlobals "InvalidNumber" = some (some (.ref C_InvalidNumber)))
    (xl_InvalidNumber : K.lookup C_InvalidNumber = some (excClassObj nm_InvalidNumber q_InvalidNumber C_InvalidNumber N_InvalidNumber bs_InvalidNumber [.type "ValueError", .type "Exception", .type "BaseException", .type "object"] true sn_InvalidNumber sub_InvalidNumber ab_InvalidNumber col_InvalidNumber dd_InvalidNumber m0_InvalidNumber m1_InvalidNumber m2_InvalidNumber m3_InvalidNumber m5_InvalidNumber "ValueError.__new__"))
    (sa_InvalidNumber : PySem.W.findIn K (.ref C_InvalidNumber) "__setattr__" = some (some (.builtin "object.__setattr__")))
    (ex_InvalidNumber : PySem.W.subIn K (.ref C_InvalidNumber) (.type "BaseException") = some true)
    (ty_InvalidNumber : PySem.W.typeIn K (.ref C_InvalidNumber) = some (.type "type"))
    (kc_InvalidNumber : PySem.W.keepIn K (.ref C_InvalidNumber) = true)
    (hd_InvalidNumber : PySem.W.hasDictIn K C_InvalidNumber = true)
    (ga_InvalidNumber : PySem.W.findIn K (.ref C_InvalidNumber) "__getattribute__" = some (some (.builtin "BaseException.__getattribute__")))
    (gg_InvalidNumber : PySem.W.findIn K (.ref C_InvalidNumber) "__getattr__" = some none)
    (ss_InvalidNumber : PySem.W.subIn K (.ref C_InvalidNumber) (.ref C_InvalidNumber) = some true)
    (ca_InvalidNumber : PySem.W.findIn K (.ref C_InvalidNumber) "__class__" = some (some (.builtin "object.__class__")))
    (cn_InvalidNumber : PySem.W.specialIn K (.builtin "object.__class__") "__get__" = some (some (.builtin "getset_descriptor.__get__")))
    (ct_InvalidNumber : PySem.W.takesIn K (.builtin "object.__class__") = some true)
    (cm_InvalidNumber : PySem.W.mroIn K C_InvalidNumber (.type "object") = some true)
    (kit_ValueError_InvalidNumber : PySem.W.kitOne K (.ref C_InvalidNumber) (.type "ValueError") = some true)
    (na_value_InvalidNumber : PySem.W.findIn K (.ref C_InvalidNumber) "value" = some none)
    (m_InvalidNumber__init : PySem.W.findIn K (.ref C_InvalidNumber) "__init__" = some (some (.ref f_InvalidNumber__init)))
    (ti_InvalidNumber__init : PySem.W.typeIn K (.ref f_InvalidNumber__init) = some (.type "function"))
    (l_InvalidNumber__init : K.lookup f_InvalidNumber__init = some ⟨oc_InvalidNumber__init, od_InvalidNumber__init, .func (PySem.W.fnOf "__init__" "InvalidNumber.__init__" (defArgs s_InvalidNumber__init) (defBody s_InvalidNumber__init) (defScope s_InvalidNumber__init) .none kV_InvalidNumber__init dc_InvalidNumber__init pm_InvalidNumber__init an_InvalidNumber__init cd_InvalidNumber__init ct_InvalidNumber__init), sl_InvalidNumber__init⟩)
    (c_InvalidNumber__init : PySem.W.codeIn K cd_InvalidNumber__init "InvalidNumber.__init__" = true)
    (k_InvalidNumber__init : PySem.W.keepIn K (.ref f_InvalidNumber__init) = true)
    (a_InvalidMap : PySem.W.nsIn K mainGlobals "InvalidMap" = some (some (.ref C_InvalidMap)))
    (xl_InvalidMap : K.lookup C_InvalidMap = some (excClassObj nm_InvalidMap q_InvalidMap C_InvalidMap N_InvalidMap bs_InvalidMap [.type "ValueError", .type "Exception", .type "BaseException", .type "object"] true sn_InvalidMap sub_InvalidMap ab_InvalidMap col_InvalidMap dd_InvalidMap m0_InvalidMap m1_InvalidMap m2_InvalidMap m3_InvalidMap m5_InvalidMap "ValueError.__new__"))
    (sa_InvalidMap : PySem.W.findIn K (.ref C_InvalidMap) "__setattr__" = some (some (.builtin "object.__setattr__")))
    (ex_InvalidMap : PySem.W.subIn K (.ref C_InvalidMap) (.type "BaseException") = some true)
    (ty_InvalidMap : PySem.W.typeIn K (.ref C_InvalidMap) = some (.type "type"))
    (kc_InvalidMap : PySem.W.keepIn K (.ref C_InvalidMap) = true)
    (hd_InvalidMap : PySem.W.hasDictIn K C_InvalidMap = true)
    (ga_InvalidMap : PySem.W.findIn K (.ref C_InvalidMap) "__getattribute__" = some (some (.builtin "BaseException.__getattribute__")))
    (gg_InvalidMap : PySem.W.findIn K (.ref C_InvalidMap) "__getattr__" = some none)
    (ss_InvalidMap : PySem.W.subIn K (.ref C_InvalidMap) (.ref C_InvalidMap) = some true)
    (ca_InvalidMap : PySem.W.findIn K (.ref C_InvalidMap) "__class__" = some (some (.builtin "object.__class__")))
    (cn_InvalidMap : PySem.W.specialIn K (.builtin "object.__class__") "__get__" = some (some (.builtin "getset_descriptor.__get__")))
    (ct_InvalidMap : PySem.W.takesIn K (.builtin "object.__class__") = some true)
    (cm_InvalidMap : PySem.W.mroIn K C_InvalidMap (.type "object") = some true)
    (kit_ValueError_InvalidMap : PySem.W.kitOne K (.ref C_InvalidMap) (.type "ValueError") = some true)
    (na_part_InvalidMap : PySem.W.findIn K (.ref C_InvalidMap) "part" = some none)
    (m_InvalidMap__init : PySem.W.findIn K (.ref C_InvalidMap) "__init__" = some (some (.ref f_InvalidMap__init)))
    (ti_InvalidMap__init : PySem.W.typeIn K (.ref f_InvalidMap__init) = some (.type "function"))
    (l_InvalidMap__init : K.lookup f_InvalidMap__init = some ⟨oc_InvalidMap__init, od_InvalidMap__init, .func (PySem.W.fnOf "__init__" "InvalidMap.__init__" (defArgs s_InvalidMap__init) (defBody s_InvalidMap__init) (defScope s_InvalidMap__init) .none kV_InvalidMap__init dc_InvalidMap__init pm_InvalidMap__init an_InvalidMap__init cd_InvalidMap__init ct_InvalidMap__init), sl_InvalidMap__init⟩)
    (c_InvalidMap__init : PySem.W.codeIn K cd_InvalidMap__init "InvalidMap.__init__" = true)
    (k_InvalidMap__init : PySem.W.keepIn K (.ref f_InvalidMap__init) = true)
    (a_SizeMismatch : PySem.W.nsIn K mainGlobals "SizeMismatch" = some (some (.ref C_SizeMismatch)))
    (xl_SizeMismatch : K.lookup C_SizeMismatch = some (excClassObj nm_SizeMismatch q_SizeMismatch C_SizeMismatch N_SizeMismatch bs_SizeMismatch [.type "ValueError", .type "Exception", .type "BaseException", .type "object"] true sn_SizeMismatch sub_SizeMismatch ab_SizeMismatch col_SizeMismatch dd_SizeMismatch m0_SizeMismatch m1_SizeMismatch m2_SizeMismatch m3_SizeMismatch m5_SizeMismatch "ValueError.__new__"))
    (sa_SizeMismatch : PySem.W.findIn K (.ref C_SizeMismatch) "__setattr__" = some (some (.builtin "object.__setattr__")))
    (ex_SizeMismatch : PySem.W.subIn K (.ref C_SizeMismatch) (.type "BaseException") = some true)
    (ty_SizeMismatch : PySem.W.typeIn K (.ref C_SizeMismatch) = some (.type "type"))
    (kc_SizeMismatch : PySem.W.keepIn K (.ref C_SizeMismatch) = true)
    (hd_SizeMismatch : PySem.W.hasDictIn K C_SizeMismatch = true)
    (ga_SizeMismatch : PySem.W.findIn K (.ref C_SizeMismatch) "__getattribute__" = some (some (.builtin "BaseException.__getattribute__")))
    (gg_SizeMismatch : PySem.W.findIn K (.ref C_SizeMismatch) "__getattr__" = some none)
    (ss_SizeMismatch : PySem.W.subIn K (.ref C_SizeMismatch) (.ref C_SizeMismatch) = some true)
    (ca_SizeMismatch : PySem.W.findIn K (.ref C_SizeMismatch) "__class__" = some (some (.builtin "object.__class__")))
    (cn_SizeMismatch : PySem.W.specialIn K (.builtin "object.__class__") "__get__" = some (some (.builtin "getset_descriptor.__get__")))
    (ct_SizeMismatch : PySem.W.takesIn K (.builtin "object.__class__") = some true)
    (cm_SizeMismatch : PySem.W.mroIn K C_SizeMismatch (.type "object") = some true)
    (kit_ValueError_SizeMismatch : PySem.W.kitOne K (.ref C_SizeMismatch) (.type "ValueError") = some true)
    (na_first_SizeMismatch : PySem.W.findIn K (.ref C_SizeMismatch) "first" = some none)
    (na_second_SizeMismatch : PySem.W.findIn K (.ref C_SizeMismatch) "second" = some none)
    (m_SizeMismatch__init : PySem.W.findIn K (.ref C_SizeMismatch) "__init__" = some (some (.ref f_SizeMismatch__init)))
    (ti_SizeMismatch__init : PySem.W.typeIn K (.ref f_SizeMismatch__init) = some (.type "function"))
    (l_SizeMismatch__init : K.lookup f_SizeMismatch__init = some ⟨oc_SizeMismatch__init, od_SizeMismatch__init, .func (PySem.W.fnOf "__init__" "SizeMismatch.__init__" (defArgs s_SizeMismatch__init) (defBody s_SizeMismatch__init) (defScope s_SizeMismatch__init) .none kV_SizeMismatch__init dc_SizeMismatch__init pm_SizeMismatch__init an_SizeMismatch__init cd_SizeMismatch__init ct_SizeMismatch__init), sl_SizeMismatch__init⟩)
    (c_SizeMismatch__init : PySem.W.codeIn K cd_SizeMismatch__init "SizeMismatch.__init__" = true)
    (k_SizeMismatch__init : PySem.W.keepIn K (.ref f_SizeMismatch__init) = true)
    (z_isinstance : PySem.W.nsIn K mainGlobals "isinstance" = some none)
    (z_int : PySem.W.nsIn K mainGlobals "int" = some none)
    (z_bool : PySem.W.nsIn K mainGlobals "bool" = some none)
    (z_dict : PySem.W.nsIn K mainGlobals "dict" = some none)
    (z_len : PySem.W.nsIn K mainGlobals "len" = some none)
    (z_range : PySem.W.nsIn K mainGlobals "range" = some none)
    (z_list : PySem.W.nsIn K mainGlobals "list" = some none)
    (z_max : PySem.W.nsIn K mainGlobals "max" = some none)
    (z_min : PySem.W.nsIn K mainGlobals "min" = some none)
    (z_repr : PySem.W.nsIn K mainGlobals "repr" = some none)
    (z_abs : PySem.W.nsIn K mainGlobals "abs" = some none)
    (z_str : PySem.W.nsIn K mainGlobals "str" = some none)
    (z_tuple : PySem.W.nsIn K mainGlobals "tuple" = some none)
    (z_all : PySem.W.nsIn K mainGlobals "all" = some none)
    (z_enumerate : PySem.W.nsIn K mainGlobals "enumerate" = some none)
    (z_RuntimeError : PySem.W.nsIn K mainGlobals "RuntimeError" = some none)
    (v_MAX_SIZE : PySem.W.nsIn K mainGlobals "MAX_SIZE" = some (some (.int 300 t_MAX_SIZE)))
    (v_MAX_NAME : PySem.W.nsIn K mainGlobals "MAX_NAME" = some (some (.int 8 t_MAX_NAME))) :
    Nonempty (Txt K mg) := ⟨{
    f_is_integer := f_is_integer,
    A_is_integer := ⟨_, fun_mk (st := s_is_integer) l_is_integer c_is_integer k_is_integer, (fun_mk (st := s_is_integer) l_is_integer c_is_integer k_is_integer).binds (ps := ["value"]) fun _ _ _ _ _ _ us hl => match us, hl with | [_], _ => rfl⟩,
    g_is_integer := PySem.W.mg_of X G a_is_integer,
    f_in_range := f_in_range,
    A_in_range := ⟨_, fun_mk (st := s_in_range) l_in_range c_in_range k_in_range, (fun_mk (st := s_in_range) l_in_range c_in_range k_in_range).binds (ps := ["value", "least", "most"]) fun _ _ _ _ _ _ us hl => match us, hl with | [_, _, _], _ => rfl⟩,
    g_in_range := PySem.W.mg_of X G a_in_range,
    f_check_size := f_check_size,
    A_check_size := ⟨_, fun_mk (st := s_check_size) l_check_size c_check_size k_check_size, (fun_mk (st := s_check_size) l_check_size c_check_size k_check_size).binds (ps := ["size"]) fun _ _ _ _ _ _ us hl => match us, hl with | [_], _ => rfl⟩,
    g_check_size := PySem.W.mg_of X G a_check_size,
    f_are_arrows := f_are_arrows,
    A_are_arrows := ⟨_, fun_mk (st := s_are_arrows) l_are_arrows c_are_arrows k_are_arrows, (fun_mk (st := s_are_arrows) l_are_arrows c_are_arrows k_are_arrows).binds (ps := ["size", "arrows"]) fun _ _ _ _ _ _ us hl => match us, hl with | [_, _], _ => rfl⟩,
    g_are_arrows := PySem.W.mg_of X G a_are_arrows,
    f_common_size := f_common_size,
    A_common_size := ⟨_, fun_mk (st := s_common_size) l_common_size c_common_size k_common_size, (fun_mk (st := s_common_size) l_common_size c_common_size k_common_size).binds (ps := ["one", "other"]) fun _ _ _ _ _ _ us hl => match us, hl with | [_, _], _ => rfl⟩,
    g_common_size := PySem.W.mg_of X G a_common_size,
    f_row_from := f_row_from,
    A_row_from := ⟨_, fun_mk (st := s_row_from) l_row_from c_row_from k_row_from, (fun_mk (st := s_row_from) l_row_from c_row_from k_row_from).binds (ps := ["arrows", "element"]) fun _ _ _ _ _ _ us hl => match us, hl with | [_, _], _ => rfl⟩,
    g_row_from := PySem.W.mg_of X G a_row_from,
    f_moved := f_moved,
    A_moved := ⟨_, fun_mk (st := s_moved) l_moved c_moved k_moved, (fun_mk (st := s_moved) l_moved c_moved k_moved).binds (ps := ["arrows", "steps"]) fun _ _ _ _ _ _ us hl => match us, hl with | [_, _], _ => rfl⟩,
    g_moved := PySem.W.mg_of X G a_moved,
    f_check_map := f_check_map,
    A_check_map := ⟨_, fun_mk (st := s_check_map) l_check_map c_check_map k_check_map, (fun_mk (st := s_check_map) l_check_map c_check_map k_check_map).binds (ps := ["value"]) fun _ _ _ _ _ _ us hl => match us, hl with | [_], _ => rfl⟩,
    g_check_map := PySem.W.mg_of X G a_check_map,
    f_check_maps := f_check_maps,
    A_check_maps := ⟨_, fun_mk (st := s_check_maps) l_check_maps c_check_maps k_check_maps, (fun_mk (st := s_check_maps) l_check_maps c_check_maps k_check_maps).binds (ps := ["one", "other"]) fun _ _ _ _ _ _ us hl => match us, hl with | [_, _], _ => rfl⟩,
    g_check_maps := PySem.W.mg_of X G a_check_maps,
    f_is_step := f_is_step,
    A_is_step := ⟨_, fun_mk (st := s_is_step) l_is_step c_is_step k_is_step, (fun_mk (st := s_is_step) l_is_step c_is_step k_is_step).binds (ps := ["size", "value"]) fun _ _ _ _ _ _ us hl => match us, hl with | [_, _], _ => rfl⟩,
    g_is_step := PySem.W.mg_of X G a_is_step,
    f_first_invalid := f_first_invalid,
    A_first_invalid := ⟨_, fun_mk (st := s_first_invalid) l_first_invalid c_first_invalid k_first_invalid, (fun_mk (st := s_first_invalid) l_first_invalid c_first_invalid k_first_invalid).binds (ps := ["size", "value"]) fun _ _ _ _ _ _ us hl => match us, hl with | [_, _], _ => rfl⟩,
    g_first_invalid := PySem.W.mg_of X G a_first_invalid,
    f_after_list := f_after_list,
    A_after_list := ⟨_, fun_mk (st := s_after_list) l_after_list c_after_list k_after_list, (fun_mk (st := s_after_list) l_after_list c_after_list k_after_list).binds (ps := ["arrows", "steps"]) fun _ _ _ _ _ _ us hl => match us, hl with | [_, _], _ => rfl⟩,
    g_after_list := PySem.W.mg_of X G a_after_list,
    f_is_name := f_is_name,
    A_is_name := ⟨_, fun_mk (st := s_is_name) l_is_name c_is_name k_is_name, (fun_mk (st := s_is_name) l_is_name c_is_name k_is_name).binds (ps := ["value"]) fun _ _ _ _ _ _ us hl => match us, hl with | [_], _ => rfl⟩,
    g_is_name := PySem.W.mg_of X G a_is_name,
    f_check_user := f_check_user,
    A_check_user := ⟨_, fun_mk (st := s_check_user) l_check_user c_check_user k_check_user, (fun_mk (st := s_check_user) l_check_user c_check_user k_check_user).binds (ps := ["value"]) fun _ _ _ _ _ _ us hl => match us, hl with | [_], _ => rfl⟩,
    g_check_user := PySem.W.mg_of X G a_check_user,
    f_l_hand := f_l_hand,
    A_l_hand := ⟨_, fun_mk (st := s_l_hand) l_l_hand c_l_hand k_l_hand, (fun_mk (st := s_l_hand) l_l_hand c_l_hand k_l_hand).binds (ps := ["_law_script", "_law_k"]) fun _ _ _ _ _ _ us hl => match us, hl with | [_, _], _ => rfl⟩,
    g_l_hand := PySem.W.mg_of X G a_l_hand,
    f_l_draw := f_l_draw,
    A_l_draw := ⟨_, fun_mk (st := s_l_draw) l_l_draw c_l_draw k_l_draw, (fun_mk (st := s_l_draw) l_l_draw c_l_draw k_l_draw).binds (ps := ["_law_pool", "_law_size"]) fun _ _ _ _ _ _ us hl => match us, hl with | [_, _], _ => rfl⟩,
    g_l_draw := PySem.W.mg_of X G a_l_draw,
    f_l_arrows := f_l_arrows,
    A_l_arrows := ⟨_, fun_mk (st := s_l_arrows) l_l_arrows c_l_arrows k_l_arrows, (fun_mk (st := s_l_arrows) l_l_arrows c_l_arrows k_l_arrows).binds (ps := ["_law_pool", "_law_size"]) fun _ _ _ _ _ _ us hl => match us, hl with | [_, _], _ => rfl⟩,
    g_l_arrows := PySem.W.mg_of X G a_l_arrows,
    f_l_product := f_l_product,
    A_l_product := ⟨_, fun_mk (st := s_l_product) l_l_product c_l_product k_l_product, (fun_mk (st := s_l_product) l_l_product c_l_product k_l_product).binds (ps := ["_law_one", "_law_other"]) fun _ _ _ _ _ _ us hl => match us, hl with | [_, _], _ => rfl⟩,
    g_l_product := PySem.W.mg_of X G a_l_product,
    f_l_full := f_l_full,
    A_l_full := ⟨_, fun_mk (st := s_l_full) l_l_full c_l_full k_l_full, (fun_mk (st := s_l_full) l_l_full c_l_full k_l_full).binds (ps := ["_law_size"]) fun _ _ _ _ _ _ us hl => match us, hl with | [_], _ => rfl⟩,
    g_l_full := PySem.W.mg_of X G a_l_full,
    f_l_inverse := f_l_inverse,
    A_l_inverse := ⟨_, fun_mk (st := s_l_inverse) l_l_inverse c_l_inverse k_l_inverse, (fun_mk (st := s_l_inverse) l_l_inverse c_l_inverse k_l_inverse).binds (ps := ["_law_table"]) fun _ _ _ _ _ _ us hl => match us, hl with | [_], _ => rfl⟩,
    g_l_inverse := PySem.W.mg_of X G a_l_inverse,
    f_l_power := f_l_power,
    A_l_power := ⟨_, fun_mk (st := s_l_power) l_l_power c_l_power k_l_power, (fun_mk (st := s_l_power) l_l_power c_l_power k_l_power).binds (ps := ["_law_table", "_law_size", "_law_exponent"]) fun _ _ _ _ _ _ us hl => match us, hl with | [_, _, _], _ => rfl⟩,
    g_l_power := PySem.W.mg_of X G a_l_power,
    f_l_step := f_l_step,
    A_l_step := ⟨_, fun_mk (st := s_l_step) l_l_step c_l_step k_l_step, (fun_mk (st := s_l_step) l_l_step c_l_step k_l_step).binds (ps := ["_law_pool", "_law_size"]) fun _ _ _ _ _ _ us hl => match us, hl with | [_, _], _ => rfl⟩,
    g_l_step := PySem.W.mg_of X G a_l_step,
    f_l_stepped := f_l_stepped,
    A_l_stepped := ⟨_, fun_mk (st := s_l_stepped) l_l_stepped c_l_stepped k_l_stepped, (fun_mk (st := s_l_stepped) l_l_stepped c_l_stepped k_l_stepped).binds (ps := ["_law_table", "_law_step_here"]) fun _ _ _ _ _ _ us hl => match us, hl with | [_, _], _ => rfl⟩,
    g_l_stepped := PySem.W.mg_of X G a_l_stepped,
    f_l_caught := f_l_caught,
    A_l_caught := ⟨_, fun_mk (st := s_l_caught) l_l_caught c_l_caught k_l_caught, (fun_mk (st := s_l_caught) l_l_caught c_l_caught k_l_caught).binds (ps := ["_law_call"]) fun _ _ _ _ _ _ us hl => match us, hl with | [_], _ => rfl⟩,
    g_l_caught := PySem.W.mg_of X G a_l_caught,
    f_l_planned := f_l_planned,
    A_l_planned := ⟨_, fun_mk (st := s_l_planned) l_l_planned c_l_planned k_l_planned, (fun_mk (st := s_l_planned) l_l_planned c_l_planned k_l_planned).binds (ps := ["_law_pool", "_law_size", "_law_table"]) fun _ _ _ _ _ _ us hl => match us, hl with | [_, _, _], _ => rfl⟩,
    g_l_planned := PySem.W.mg_of X G a_l_planned,
    f_l_done := f_l_done,
    A_l_done := ⟨_, fun_mk (st := s_l_done) l_l_done c_l_done k_l_done, (fun_mk (st := s_l_done) l_l_done c_l_done k_l_done).binds (ps := ["_law_session", "_law_size", "_law_user", "_law_plan"]) fun _ _ _ _ _ _ us hl => match us, hl with | [_, _, _, _], _ => rfl⟩,
    g_l_done := PySem.W.mg_of X G a_l_done,
    c_law := c_law,
    P_law := P_law,
    f_law := f_law,
    tm_law := tm_law,
    hd_law := hd_law,
    nt_law := nt_law,
    B_law := ⟨_, _, _, _, _, _, _, _, l_law, cd_law, (fun_mk (st := s_law) l_law cd_law k_law).binds (ps := ["_law_script"]) fun _ _ _ _ _ _ us hl => match us, hl with | [_], _ => rfl⟩,
    K_law := k_law,
    L_law := ⟨_, fun_mk (st := s_law) l_law cd_law k_law, fun s v => .of_eq rfl⟩,
    g_law := PySem.W.mg_of X G a_law,
    C_Map := C_Map,
    g_Map := PySem.W.mg_of X G a_Map,
    o_Map := ⟨⟨pg_Map, hd_Map, po_Map, sa_Map⟩, sf_Map, ca_Map, cn_Map, ct_Map, cm_Map⟩,
    kit_int_Map := kit_int_Map,
    kit_bool_Map := kit_bool_Map,
    kit_str_Map := kit_str_Map,
    kit_tuple_Map := kit_tuple_Map,
    kit_list_Map := kit_list_Map,
    kn_NoneType_Map := kn_NoneType_Map,
    nf_NoneType_Map := nf_NoneType_Map,
    kn_int_Map := kn_int_Map,
    nf_int_Map := nf_int_Map,
    kn_bool_Map := kn_bool_Map,
    nf_bool_Map := nf_bool_Map,
    kn_str_Map := kn_str_Map,
    nf_str_Map := nf_str_Map,
    kn_list_Map := kn_list_Map,
    nf_list_Map := nf_list_Map,
    kn_dict_Map := kn_dict_Map,
    nf_dict_Map := nf_dict_Map,
    kn_tuple_Map := kn_tuple_Map,
    nf_tuple_Map := nf_tuple_Map,
    self_Map := self_Map,
    na_own_size_Map := na_own_size_Map,
    na_own_arrows_Map := na_own_arrows_Map,
    ne_Map := ne_Map,
    f_Map__init := f_Map__init,
    A_Map__init := ⟨_, fun_mk (st := s_Map__init) l_Map__init c_Map__init k_Map__init, (fun_mk (st := s_Map__init) l_Map__init c_Map__init k_Map__init).binds (ps := ["self", "size", "arrows"]) fun _ _ _ _ _ _ us hl => match us, hl with | [_, _, _], _ => rfl⟩,
    m_Map__init := m_Map__init,
    i_Map__init := i_Map__init,
    M_Map := ⟨mk_Map, m_Map__init, i_Map__init, kc_Map⟩,
    R_Map := ⟨rd_Map, ga_Map⟩,
    p_Map_identity := p_Map_identity,
    f_Map_identity := f_Map_identity,
    A_Map_identity := ⟨_, fun_mk (st := s_Map_identity) l_Map_identity c_Map_identity k_Map_identity, (fun_mk (st := s_Map_identity) l_Map_identity c_Map_identity k_Map_identity).binds (ps := ["cls", "size"]) fun _ _ _ _ _ _ us hl => match us, hl with | [_, _], _ => rfl⟩,
    cm_Map_identity := ⟨at_Map_identity, ⟨_, rc_Map_identity⟩, fi_Map_identity⟩,
    p_Map_size := p_Map_size,
    f_Map_size := f_Map_size,
    A_Map_size := ⟨_, fun_mk (st := s_Map_size) l_Map_size c_Map_size k_Map_size, (fun_mk (st := s_Map_size) l_Map_size c_Map_size k_Map_size).binds (ps := ["self"]) fun _ _ _ _ _ _ us hl => match us, hl with | [_], _ => rfl⟩,
    P_Map_size := ⟨m_Map_size, s_get_Map_size, tk_Map_size, _, rc_Map_size⟩,
    p_Map_arrows := p_Map_arrows,
    f_Map_arrows := f_Map_arrows,
    A_Map_arrows := ⟨_, fun_mk (st := s_Map_arrows) l_Map_arrows c_Map_arrows k_Map_arrows, (fun_mk (st := s_Map_arrows) l_Map_arrows c_Map_arrows k_Map_arrows).binds (ps := ["self"]) fun _ _ _ _ _ _ us hl => match us, hl with | [_], _ => rfl⟩,
    P_Map_arrows := ⟨m_Map_arrows, s_get_Map_arrows, tk_Map_arrows, _, rc_Map_arrows⟩,
    f_Map__mul := f_Map__mul,
    A_Map__mul := ⟨_, fun_mk (st := s_Map__mul) l_Map__mul c_Map__mul k_Map__mul, (fun_mk (st := s_Map__mul) l_Map__mul c_Map__mul k_Map__mul).binds (ps := ["self", "other"]) fun _ _ _ _ _ _ us hl => match us, hl with | [_, _], _ => rfl⟩,
    m_Map__mul := m_Map__mul,
    i_Map__mul := i_Map__mul,
    f_Map__invert := f_Map__invert,
    A_Map__invert := ⟨_, fun_mk (st := s_Map__invert) l_Map__invert c_Map__invert k_Map__invert, (fun_mk (st := s_Map__invert) l_Map__invert c_Map__invert k_Map__invert).binds (ps := ["self"]) fun _ _ _ _ _ _ us hl => match us, hl with | [_], _ => rfl⟩,
    m_Map__invert := m_Map__invert,
    i_Map__invert := i_Map__invert,
    f_Map_power := f_Map_power,
    A_Map_power := ⟨_, fun_mk (st := s_Map_power) l_Map_power c_Map_power k_Map_power, (fun_mk (st := s_Map_power) l_Map_power c_Map_power k_Map_power).binds (ps := ["self", "exponent"]) fun _ _ _ _ _ _ us hl => match us, hl with | [_, _], _ => rfl⟩,
    m_Map_power := m_Map_power,
    i_Map_power := i_Map_power,
    meth_Map_power := ⟨m_Map_power, i_Map_power, k_Map_power⟩,
    f_Map__eq := f_Map__eq,
    A_Map__eq := ⟨_, fun_mk (st := s_Map__eq) l_Map__eq c_Map__eq k_Map__eq, (fun_mk (st := s_Map__eq) l_Map__eq c_Map__eq k_Map__eq).binds (ps := ["self", "other"]) fun _ _ _ _ _ _ us hl => match us, hl with | [_, _], _ => rfl⟩,
    m_Map__eq := m_Map__eq,
    i_Map__eq := i_Map__eq,
    f_Map__len := f_Map__len,
    A_Map__len := ⟨_, fun_mk (st := s_Map__len) l_Map__len c_Map__len k_Map__len, (fun_mk (st := s_Map__len) l_Map__len c_Map__len k_Map__len).binds (ps := ["self"]) fun _ _ _ _ _ _ us hl => match us, hl with | [_], _ => rfl⟩,
    m_Map__len := m_Map__len,
    i_Map__len := i_Map__len,
    C_Session := C_Session,
    g_Session := PySem.W.mg_of X G a_Session,
    o_Session := ⟨⟨pg_Session, hd_Session, po_Session, sa_Session⟩, sf_Session, ca_Session, cn_Session, ct_Session, cm_Session⟩,
    kit_int_Session := kit_int_Session,
    kit_bool_Session := kit_bool_Session,
    self_Session := self_Session,
    na_own_present_Session := na_own_present_Session,
    na_own_log_Session := na_own_log_Session,
    na_own_earlier_Session := na_own_earlier_Session,
    f_Session__init := f_Session__init,
    A_Session__init := ⟨_, fun_mk (st := s_Session__init) l_Session__init c_Session__init k_Session__init, (fun_mk (st := s_Session__init) l_Session__init c_Session__init k_Session__init).binds (ps := ["self", "size"]) fun _ _ _ _ _ _ us hl => match us, hl with | [_, _], _ => rfl⟩,
    m_Session__init := m_Session__init,
    i_Session__init := i_Session__init,
    M_Session := ⟨mk_Session, m_Session__init, i_Session__init, kc_Session⟩,
    p_Session_present := p_Session_present,
    f_Session_present := f_Session_present,
    A_Session_present := ⟨_, fun_mk (st := s_Session_present) l_Session_present c_Session_present k_Session_present, (fun_mk (st := s_Session_present) l_Session_present c_Session_present k_Session_present).binds (ps := ["self"]) fun _ _ _ _ _ _ us hl => match us, hl with | [_], _ => rfl⟩,
    P_Session_present := ⟨m_Session_present, s_get_Session_present, tk_Session_present, _, rc_Session_present⟩,
    f_Session_log := f_Session_log,
    A_Session_log := ⟨_, fun_mk (st := s_Session_log) l_Session_log c_Session_log k_Session_log, (fun_mk (st := s_Session_log) l_Session_log c_Session_log k_Session_log).binds (ps := ["self"]) fun _ _ _ _ _ _ us hl => match us, hl with | [_], _ => rfl⟩,
    m_Session_log := m_Session_log,
    i_Session_log := i_Session_log,
    meth_Session_log := ⟨m_Session_log, i_Session_log, k_Session_log⟩,
    f_Session_check_next := f_Session_check_next,
    A_Session_check_next := ⟨_, fun_mk (st := s_Session_check_next) l_Session_check_next c_Session_check_next k_Session_check_next, (fun_mk (st := s_Session_check_next) l_Session_check_next c_Session_check_next k_Session_check_next).binds (ps := ["self", "later"]) fun _ _ _ _ _ _ us hl => match us, hl with | [_, _], _ => rfl⟩,
    m_Session_check_next := m_Session_check_next,
    i_Session_check_next := i_Session_check_next,
    meth_Session_check_next := ⟨m_Session_check_next, i_Session_check_next, k_Session_check_next⟩,
    f_Session_change_to := f_Session_change_to,
    A_Session_change_to := ⟨_, fun_mk (st := s_Session_change_to) l_Session_change_to c_Session_change_to k_Session_change_to, (fun_mk (st := s_Session_change_to) l_Session_change_to c_Session_change_to k_Session_change_to).binds (ps := ["self", "user", "action", "later"]) fun _ _ _ _ _ _ us hl => match us, hl with | [_, _, _, _], _ => rfl⟩,
    m_Session_change_to := m_Session_change_to,
    i_Session_change_to := i_Session_change_to,
    meth_Session_change_to := ⟨m_Session_change_to, i_Session_change_to, k_Session_change_to⟩,
    f_Session_apply := f_Session_apply,
    A_Session_apply := ⟨_, fun_mk (st := s_Session_apply) l_Session_apply c_Session_apply k_Session_apply, (fun_mk (st := s_Session_apply) l_Session_apply c_Session_apply k_Session_apply).binds (ps := ["self", "user", "factor"]) fun _ _ _ _ _ _ us hl => match us, hl with | [_, _, _], _ => rfl⟩,
    m_Session_apply := m_Session_apply,
    i_Session_apply := i_Session_apply,
    meth_Session_apply := ⟨m_Session_apply, i_Session_apply, k_Session_apply⟩,
    f_Session_raise_to := f_Session_raise_to,
    A_Session_raise_to := ⟨_, fun_mk (st := s_Session_raise_to) l_Session_raise_to c_Session_raise_to k_Session_raise_to, (fun_mk (st := s_Session_raise_to) l_Session_raise_to c_Session_raise_to k_Session_raise_to).binds (ps := ["self", "user", "exponent"]) fun _ _ _ _ _ _ us hl => match us, hl with | [_, _, _], _ => rfl⟩,
    m_Session_raise_to := m_Session_raise_to,
    i_Session_raise_to := i_Session_raise_to,
    meth_Session_raise_to := ⟨m_Session_raise_to, i_Session_raise_to, k_Session_raise_to⟩,
    f_Session_do_steps := f_Session_do_steps,
    A_Session_do_steps := ⟨_, fun_mk (st := s_Session_do_steps) l_Session_do_steps c_Session_do_steps k_Session_do_steps, (fun_mk (st := s_Session_do_steps) l_Session_do_steps c_Session_do_steps k_Session_do_steps).binds (ps := ["self", "user", "steps"]) fun _ _ _ _ _ _ us hl => match us, hl with | [_, _, _], _ => rfl⟩,
    m_Session_do_steps := m_Session_do_steps,
    i_Session_do_steps := i_Session_do_steps,
    meth_Session_do_steps := ⟨m_Session_do_steps, i_Session_do_steps, k_Session_do_steps⟩,
    f_Session_undo := f_Session_undo,
    A_Session_undo := ⟨_, fun_mk (st := s_Session_undo) l_Session_undo c_Session_undo k_Session_undo, (fun_mk (st := s_Session_undo) l_Session_undo c_Session_undo k_Session_undo).binds (ps := ["self", "user"]) fun _ _ _ _ _ _ us hl => match us, hl with | [_, _], _ => rfl⟩,
    m_Session_undo := m_Session_undo,
    i_Session_undo := i_Session_undo,
    meth_Session_undo := ⟨m_Session_undo, i_Session_undo, k_Session_undo⟩,
    f_Session_at := f_Session_at,
    A_Session_at := ⟨_, fun_mk (st := s_Session_at) l_Session_at c_Session_at k_Session_at, (fun_mk (st := s_Session_at) l_Session_at c_Session_at k_Session_at).binds (ps := ["self", "number"]) fun _ _ _ _ _ _ us hl => match us, hl with | [_, _], _ => rfl⟩,
    m_Session_at := m_Session_at,
    i_Session_at := i_Session_at,
    meth_Session_at := ⟨m_Session_at, i_Session_at, k_Session_at⟩,
    f_Session__len := f_Session__len,
    A_Session__len := ⟨_, fun_mk (st := s_Session__len) l_Session__len c_Session__len k_Session__len, (fun_mk (st := s_Session__len) l_Session__len c_Session__len k_Session__len).binds (ps := ["self"]) fun _ _ _ _ _ _ us hl => match us, hl with | [_], _ => rfl⟩,
    m_Session__len := m_Session__len,
    i_Session__len := i_Session__len,
    C_KeepingSession := C_KeepingSession,
    g_KeepingSession := PySem.W.mg_of X G a_KeepingSession,
    o_KeepingSession := ⟨⟨pg_KeepingSession, hd_KeepingSession, po_KeepingSession, sa_KeepingSession⟩, sf_KeepingSession, ca_KeepingSession, cn_KeepingSession, ct_KeepingSession, cm_KeepingSession⟩,
    kit_int_KeepingSession := kit_int_KeepingSession,
    kit_bool_KeepingSession := kit_bool_KeepingSession,
    self_KeepingSession := self_KeepingSession,
    na_own_present_KeepingSession := na_own_present_KeepingSession,
    na_own_log_KeepingSession := na_own_log_KeepingSession,
    na_own_earlier_KeepingSession := na_own_earlier_KeepingSession,
    na_own_least_KeepingSession := na_own_least_KeepingSession,
    P_KeepingSession_present := ⟨ih_Session_present_KeepingSession, s_get_Session_present, tk_Session_present, _, rc_Session_present⟩,
    meth_KeepingSession_log := ⟨ih_Session_log_KeepingSession, i_Session_log, k_Session_log⟩,
    meth_KeepingSession_change_to := ⟨ih_Session_change_to_KeepingSession, i_Session_change_to, k_Session_change_to⟩,
    meth_KeepingSession_apply := ⟨ih_Session_apply_KeepingSession, i_Session_apply, k_Session_apply⟩,
    meth_KeepingSession_raise_to := ⟨ih_Session_raise_to_KeepingSession, i_Session_raise_to, k_Session_raise_to⟩,
    meth_KeepingSession_do_steps := ⟨ih_Session_do_steps_KeepingSession, i_Session_do_steps, k_Session_do_steps⟩,
    meth_KeepingSession_undo := ⟨ih_Session_undo_KeepingSession, i_Session_undo, k_Session_undo⟩,
    meth_KeepingSession_at := ⟨ih_Session_at_KeepingSession, i_Session_at, k_Session_at⟩,
    m_KeepingSession___len := ih_Session__len_KeepingSession,
    i_KeepingSession___len := i_Session__len,
    sm_KeepingSession_init := ⟨su_Session__init_KeepingSession, kq_Session__init_KeepingSession, st_Session__init_KeepingSession, sn_Session__init_KeepingSession, by decide +kernel⟩,
    sm_KeepingSession_check_next := ⟨su_Session_check_next_KeepingSession, kq_Session_check_next_KeepingSession, st_Session_check_next_KeepingSession, sn_Session_check_next_KeepingSession, by decide +kernel⟩,
    f_KeepingSession__init := f_KeepingSession__init,
    c_KeepingSession__init := c_KeepingSession__init,
    cc_KeepingSession__init := cc_KeepingSession__init,
    A_KeepingSession__init := ⟨⟨_, _, _, _, _, _, _, _, l_KeepingSession__init, cd_KeepingSession__init, .all fun us hl => match us, hl with | [_, _, _], _ => rfl⟩, (match file_of fl_KeepingSession__init with | ⟨t, ht⟩ => ⟨_, _, _, _, t, co_KeepingSession__init, ht⟩), ⟨_, _, _, ce_KeepingSession__init⟩, ⟨_, kd_KeepingSession__init⟩, rfl, ns_KeepingSession__init, no_KeepingSession__init, by decide +kernel, by decide +kernel⟩,
    K_KeepingSession__init := k_KeepingSession__init,
    m_KeepingSession__init := m_KeepingSession__init,
    i_KeepingSession__init := i_KeepingSession__init,
    M_KeepingSession := ⟨mk_KeepingSession, m_KeepingSession__init, i_KeepingSession__init, kc_KeepingSession⟩,
    p_KeepingSession_least := p_KeepingSession_least,
    f_KeepingSession_least := f_KeepingSession_least,
    A_KeepingSession_least := ⟨_, fun_mk (st := s_KeepingSession_least) l_KeepingSession_least c_KeepingSession_least k_KeepingSession_least, (fun_mk (st := s_KeepingSession_least) l_KeepingSession_least c_KeepingSession_least k_KeepingSession_least).binds (ps := ["self"]) fun _ _ _ _ _ _ us hl => match us, hl with | [_], _ => rfl⟩,
    P_KeepingSession_least := ⟨m_KeepingSession_least, s_get_KeepingSession_least, tk_KeepingSession_least, _, rc_KeepingSession_least⟩,
    f_KeepingSession_check_next := f_KeepingSession_check_next,
    c_KeepingSession_check_next := c_KeepingSession_check_next,
    cc_KeepingSession_check_next := cc_KeepingSession_check_next,
    A_KeepingSession_check_next := ⟨⟨_, _, _, _, _, _, _, _, l_KeepingSession_check_next, cd_KeepingSession_check_next, .all fun us hl => match us, hl with | [_, _], _ => rfl⟩, (match file_of fl_KeepingSession_check_next with | ⟨t, ht⟩ => ⟨_, _, _, _, t, co_KeepingSession_check_next, ht⟩), ⟨_, _, _, ce_KeepingSession_check_next⟩, ⟨_, kd_KeepingSession_check_next⟩, rfl, ns_KeepingSession_check_next, no_KeepingSession_check_next, by decide +kernel, by decide +kernel⟩,
    K_KeepingSession_check_next := k_KeepingSession_check_next,
    m_KeepingSession_check_next := m_KeepingSession_check_next,
    i_KeepingSession_check_next := i_KeepingSession_check_next,
    meth_KeepingSession_check_next := ⟨m_KeepingSession_check_next, i_KeepingSession_check_next, k_KeepingSession_check_next⟩,
    C_NothingToUndo := C_NothingToUndo,
    g_NothingToUndo := PySem.W.mg_of X G a_NothingToUndo,
    x_NothingToUndo := ⟨⟨"LookupError", _, _, _, _, _, _, _, _, _, _, _, _, _, _, _, _, _, _, PySem.F.store_LookupError, PySem.F.excBase_LookupError, xl_NothingToUndo, by decide +kernel⟩, sa_NothingToUndo, ex_NothingToUndo, ty_NothingToUndo, kc_NothingToUndo⟩,
    xf_NothingToUndo := ⟨ga_NothingToUndo, gg_NothingToUndo, ex_NothingToUndo, hd_NothingToUndo⟩,
    xe_NothingToUndo := ⟨ga_NothingToUndo, gg_NothingToUndo, ex_NothingToUndo, hd_NothingToUndo, ca_NothingToUndo, cn_NothingToUndo, ct_NothingToUndo, cm_NothingToUndo⟩,
    te_NothingToUndo := PySem.W.exm_ref ex_NothingToUndo hd_NothingToUndo ty_NothingToUndo ss_NothingToUndo,
    kit_LookupError_NothingToUndo := kit_LookupError_NothingToUndo,
    na_user_NothingToUndo := na_user_NothingToUndo,
    f_NothingToUndo__init := f_NothingToUndo__init,
    A_NothingToUndo__init := ⟨_, fun_mk (st := s_NothingToUndo__init) l_NothingToUndo__init c_NothingToUndo__init k_NothingToUndo__init, (fun_mk (st := s_NothingToUndo__init) l_NothingToUndo__init c_NothingToUndo__init k_NothingToUndo__init).binds (ps := ["self", "user"]) fun _ _ _ _ _ _ us hl => match us, hl with | [_, _], _ => rfl⟩,
    m_NothingToUndo__init := m_NothingToUndo__init,
    ti_NothingToUndo__init := ti_NothingToUndo__init,
    C_NotLast := C_NotLast,
    g_NotLast := PySem.W.mg_of X G a_NotLast,
    x_NotLast := ⟨⟨"RuntimeError", _, _, _, _, _, _, _, _, _, _, _, _, _, _, _, _, _, _, PySem.F.store_RuntimeError, PySem.F.excBase_RuntimeError, xl_NotLast, by decide +kernel⟩, sa_NotLast, ex_NotLast, ty_NotLast, kc_NotLast⟩,
    xf_NotLast := ⟨ga_NotLast, gg_NotLast, ex_NotLast, hd_NotLast⟩,
    xe_NotLast := ⟨ga_NotLast, gg_NotLast, ex_NotLast, hd_NotLast, ca_NotLast, cn_NotLast, ct_NotLast, cm_NotLast⟩,
    te_NotLast := PySem.W.exm_ref ex_NotLast hd_NotLast ty_NotLast ss_NotLast,
    kit_RuntimeError_NotLast := kit_RuntimeError_NotLast,
    te_NotLast_NothingToUndo := PySem.W.exm_ref ex_NothingToUndo hd_NothingToUndo ty_NothingToUndo te_NothingToUndo_NotLast,
    na_user_NotLast := na_user_NotLast,
    f_NotLast__init := f_NotLast__init,
    A_NotLast__init := ⟨_, fun_mk (st := s_NotLast__init) l_NotLast__init c_NotLast__init k_NotLast__init, (fun_mk (st := s_NotLast__init) l_NotLast__init c_NotLast__init k_NotLast__init).binds (ps := ["self", "user"]) fun _ _ _ _ _ _ us hl => match us, hl with | [_, _], _ => rfl⟩,
    m_NotLast__init := m_NotLast__init,
    ti_NotLast__init := ti_NotLast__init,
    C_TooFew := C_TooFew,
    g_TooFew := PySem.W.mg_of X G a_TooFew,
    x_TooFew := ⟨⟨"RuntimeError", _, _, _, _, _, _, _, _, _, _, _, _, _, _, _, _, _, _, PySem.F.store_RuntimeError, PySem.F.excBase_RuntimeError, xl_TooFew, by decide +kernel⟩, sa_TooFew, ex_TooFew, ty_TooFew, kc_TooFew⟩,
    xf_TooFew := ⟨ga_TooFew, gg_TooFew, ex_TooFew, hd_TooFew⟩,
    xe_TooFew := ⟨ga_TooFew, gg_TooFew, ex_TooFew, hd_TooFew, ca_TooFew, cn_TooFew, ct_TooFew, cm_TooFew⟩,
    te_TooFew := PySem.W.exm_ref ex_TooFew hd_TooFew ty_TooFew ss_TooFew,
    kit_RuntimeError_TooFew := kit_RuntimeError_TooFew,
    na_number_TooFew := na_number_TooFew,
    f_TooFew__init := f_TooFew__init,
    A_TooFew__init := ⟨_, fun_mk (st := s_TooFew__init) l_TooFew__init c_TooFew__init k_TooFew__init, (fun_mk (st := s_TooFew__init) l_TooFew__init c_TooFew__init k_TooFew__init).binds (ps := ["self", "number"]) fun _ _ _ _ _ _ us hl => match us, hl with | [_, _], _ => rfl⟩,
    m_TooFew__init := m_TooFew__init,
    ti_TooFew__init := ti_TooFew__init,
    C_InvalidNumber := C_InvalidNumber,
    g_InvalidNumber := PySem.W.mg_of X G a_InvalidNumber,
    x_InvalidNumber := ⟨⟨"ValueError", _, _, _, _, _, _, _, _, _, _, _, _, _, _, _, _, _, _, PySem.F.store_ValueError, PySem.F.excBase_ValueError, xl_InvalidNumber, by decide +kernel⟩, sa_InvalidNumber, ex_InvalidNumber, ty_InvalidNumber, kc_InvalidNumber⟩,
    xf_InvalidNumber := ⟨ga_InvalidNumber, gg_InvalidNumber, ex_InvalidNumber, hd_InvalidNumber⟩,
    xe_InvalidNumber := ⟨ga_InvalidNumber, gg_InvalidNumber, ex_InvalidNumber, hd_InvalidNumber, ca_InvalidNumber, cn_InvalidNumber, ct_InvalidNumber, cm_InvalidNumber⟩,
    te_InvalidNumber := PySem.W.exm_ref ex_InvalidNumber hd_InvalidNumber ty_InvalidNumber ss_InvalidNumber,
    kit_ValueError_InvalidNumber := kit_ValueError_InvalidNumber,
    na_value_InvalidNumber := na_value_InvalidNumber,
    f_InvalidNumber__init := f_InvalidNumber__init,
    A_InvalidNumber__init := ⟨_, fun_mk (st := s_InvalidNumber__init) l_InvalidNumber__init c_InvalidNumber__init k_InvalidNumber__init, (fun_mk (st := s_InvalidNumber__init) l_InvalidNumber__init c_InvalidNumber__init k_InvalidNumber__init).binds (ps := ["self", "value"]) fun _ _ _ _ _ _ us hl => match us, hl with | [_, _], _ => rfl⟩,
    m_InvalidNumber__init := m_InvalidNumber__init,
    ti_InvalidNumber__init := ti_InvalidNumber__init,
    C_InvalidMap := C_InvalidMap,
    g_InvalidMap := PySem.W.mg_of X G a_InvalidMap,
    x_InvalidMap := ⟨⟨"ValueError", _, _, _, _, _, _, _, _, _, _, _, _, _, _, _, _, _, _, PySem.F.store_ValueError, PySem.F.excBase_ValueError, xl_InvalidMap, by decide +kernel⟩, sa_InvalidMap, ex_InvalidMap, ty_InvalidMap, kc_InvalidMap⟩,
    xf_InvalidMap := ⟨ga_InvalidMap, gg_InvalidMap, ex_InvalidMap, hd_InvalidMap⟩,
    xe_InvalidMap := ⟨ga_InvalidMap, gg_InvalidMap, ex_InvalidMap, hd_InvalidMap, ca_InvalidMap, cn_InvalidMap, ct_InvalidMap, cm_InvalidMap⟩,
    te_InvalidMap := PySem.W.exm_ref ex_InvalidMap hd_InvalidMap ty_InvalidMap ss_InvalidMap,
    kit_ValueError_InvalidMap := kit_ValueError_InvalidMap,
    na_part_InvalidMap := na_part_InvalidMap,
    f_InvalidMap__init := f_InvalidMap__init,
    A_InvalidMap__init := ⟨_, fun_mk (st := s_InvalidMap__init) l_InvalidMap__init c_InvalidMap__init k_InvalidMap__init, (fun_mk (st := s_InvalidMap__init) l_InvalidMap__init c_InvalidMap__init k_InvalidMap__init).binds (ps := ["self", "part"]) fun _ _ _ _ _ _ us hl => match us, hl with | [_, _], _ => rfl⟩,
    m_InvalidMap__init := m_InvalidMap__init,
    ti_InvalidMap__init := ti_InvalidMap__init,
    C_SizeMismatch := C_SizeMismatch,
    g_SizeMismatch := PySem.W.mg_of X G a_SizeMismatch,
    x_SizeMismatch := ⟨⟨"ValueError", _, _, _, _, _, _, _, _, _, _, _, _, _, _, _, _, _, _, PySem.F.store_ValueError, PySem.F.excBase_ValueError, xl_SizeMismatch, by decide +kernel⟩, sa_SizeMismatch, ex_SizeMismatch, ty_SizeMismatch, kc_SizeMismatch⟩,
    xf_SizeMismatch := ⟨ga_SizeMismatch, gg_SizeMismatch, ex_SizeMismatch, hd_SizeMismatch⟩,
    xe_SizeMismatch := ⟨ga_SizeMismatch, gg_SizeMismatch, ex_SizeMismatch, hd_SizeMismatch, ca_SizeMismatch, cn_SizeMismatch, ct_SizeMismatch, cm_SizeMismatch⟩,
    te_SizeMismatch := PySem.W.exm_ref ex_SizeMismatch hd_SizeMismatch ty_SizeMismatch ss_SizeMismatch,
    kit_ValueError_SizeMismatch := kit_ValueError_SizeMismatch,
    na_first_SizeMismatch := na_first_SizeMismatch,
    na_second_SizeMismatch := na_second_SizeMismatch,
    f_SizeMismatch__init := f_SizeMismatch__init,
    A_SizeMismatch__init := ⟨_, fun_mk (st := s_SizeMismatch__init) l_SizeMismatch__init c_SizeMismatch__init k_SizeMismatch__init, (fun_mk (st := s_SizeMismatch__init) l_SizeMismatch__init c_SizeMismatch__init k_SizeMismatch__init).binds (ps := ["self", "first", "second"]) fun _ _ _ _ _ _ us hl => match us, hl with | [_, _, _], _ => rfl⟩,
    m_SizeMismatch__init := m_SizeMismatch__init,
    ti_SizeMismatch__init := ti_SizeMismatch__init,
    n_isinstance := PySem.W.mg_none_of X G z_isinstance,
    n_int := PySem.W.mg_none_of X G z_int,
    n_bool := PySem.W.mg_none_of X G z_bool,
    n_dict := PySem.W.mg_none_of X G z_dict,
    n_len := PySem.W.mg_none_of X G z_len,
    n_range := PySem.W.mg_none_of X G z_range,
    n_list := PySem.W.mg_none_of X G z_list,
    n_max := PySem.W.mg_none_of X G z_max,
    n_min := PySem.W.mg_none_of X G z_min,
    n_repr := PySem.W.mg_none_of X G z_repr,
    n_abs := PySem.W.mg_none_of X G z_abs,
    n_str := PySem.W.mg_none_of X G z_str,
    n_tuple := PySem.W.mg_none_of X G z_tuple,
    n_all := PySem.W.mg_none_of X G z_all,
    n_enumerate := PySem.W.mg_none_of X G z_enumerate,
    n_RuntimeError := PySem.W.mg_none_of X G z_RuntimeError,
    v_MAX_SIZE := ⟨_, PySem.W.mg_of X G v_MAX_SIZE⟩,
    v_MAX_NAME := ⟨_, PySem.W.mg_of X G v_MAX_NAME⟩ }⟩
end My
namespace My
open PySem L2 U StX
/-! ### values of any known form -/
def knownV (C : Addr) (H : Hp) : V → Prop
  | .non => True | .bl _ => True | .int _ => True | .str _ => True
  | .ref a => (∃ xs, H a = some (.lst xs)) ∨ (∃ xs, H a = some (.tup xs)) ∨ (∃ kvs, H a = some (.dK kvs)) ∨ ∃ dx fs, H a = some (.ins C dx fs)
  | _ => False
def isI : V → Bool | .int _ => true | _ => false
def isB : V → Bool | .bl _ => true | _ => false
def inR : V → Int → Int → Bool | .int i, a, b => decide (a ≤ i) && decide (i ≤ b) | _, _, _ => false
section
variable {P : Program} {w : World} {K : PySem.W.Frag} {mg : Str → Option Value} {base : Heap}
theorem tyx_ins {H : Hp} {a C dx : Addr} {fs : List (Str × V)} (o : OwnC K C) (e : H a = some (.ins C dx fs)) : TyX K H (.ref a) (.ref C) := .base (.ins e o.cl o.ca o.cn o.ct o.cm)
/-- the type of a known value, and what isinstance says of it -/
theorem ty_known (T : Txt K mg) {H : Hp} {x : V} (h : knownV T.C_Map H x) : ∃ t, TyX K H x t ∧ PySem.W.kitOne K t (.type "int") = some (isI x || isB x) ∧ PySem.W.kitOne K t (.type "bool") = some (isB x) := by
  cases x with
  | non => exact ⟨_, .base .non, kit_ty (r := false) (by decide +kernel), kit_ty (r := false) (by decide +kernel)⟩
  | bl b => exact ⟨_, .base (.bl b), kit_ty (r := true) (by decide +kernel), kit_ty (r := true) (by decide +kernel)⟩
  | int i => exact ⟨_, .base (.int i), kit_ty (r := true) (by decide +kernel), kit_ty (r := false) (by decide +kernel)⟩
  | str z => exact ⟨_, .base (.str z), kit_ty (r := false) (by decide +kernel), kit_ty (r := false) (by decide +kernel)⟩
  | ref a =>
    rcases h with ⟨xs, e⟩ | ⟨xs, e⟩ | ⟨xs, e⟩ | ⟨dx, fs, e⟩
    · exact ⟨_, .base (.lst e), kit_ty (r := false) (by decide +kernel), kit_ty (r := false) (by decide +kernel)⟩
    · exact ⟨_, .base (.tup e), kit_ty (r := false) (by decide +kernel), kit_ty (r := false) (by decide +kernel)⟩
    · exact ⟨_, .base (.dK e), kit_ty (r := false) (by decide +kernel), kit_ty (r := false) (by decide +kernel)⟩
    · exact ⟨_, tyx_ins T.o_Map e, T.kit_int_Map, T.kit_bool_Map⟩
  | byt b => exact h.elim
  | flt b => exact h.elim
  | ty b => exact h.elim
def spIsInt (C : Addr) : Sp := fun vs H Q _ => ∃ x, vs = [x] ∧ knownV C H x ∧ Q (.bl (isI x)) H
theorem ok_is_integer (T : Txt K mg) : FnR P w K mg base CX0 1 T.f_is_integer (spIsInt T.C_Map) := by
  refine T.A_is_integer.ok sc_is_integer (fun vs H Q E h => ?_) (fun cdv A outer s H vs Q E hr h => ?_)
  · obtain ⟨x, rfl, _⟩ := h
    rfl
  · obtain ⟨x, rfl, hx, q⟩ := h
    refine ⟨_, pss_one (ps_ret (pe_and (pe_callB call_isi (by rfl) T.n_isinstance (by decide +kernel) (pa_cons (pv 0) (pa_cons (pe_bltn (v := .ty "int") (u := .type "int") (by rfl) T.n_int (by decide +kernel) rfl) pa_nil)))
      (pe_one (pe_not (pe_callB call_isi (by rfl) T.n_isinstance (by decide +kernel) (pa_cons (pv 0) (pa_cons (pe_bltn (v := .ty "bool") (u := .type "bool") (by rfl) T.n_bool (by decide +kernel) rfl) pa_nil))))))), ?_⟩
    obtain ⟨t, ht, k1, k2⟩ := ty_known T hx
    refine ⟨_, rfl, x, _, t, _, _, rfl, .ty _, ht, k1, _, rfl, ?_⟩
    refine ifB (fun hc => ?_) (fun hc => ?_)
    · refine ⟨_, rfl, x, _, t, _, _, rfl, .ty _, ht, k2, _, rfl, ?_⟩
      have e : (!isB x) = isI x := by cases x <;> first | rfl | cases hc
      rw [e]
      exact q
    · have e : isI x = false := by cases x <;> first | rfl | cases hc
      rw [e] at q
      exact q
def spInR (C : Addr) : Sp := fun vs H Q _ => ∃ x a b, vs = [x, .int a, .int b] ∧ knownV C H x ∧ Q (.bl (inR x a b)) H
theorem ok_in_range (T : Txt K mg) : FnR P w K mg base CX0 2 T.f_in_range (spInR T.C_Map) := by
  refine T.A_in_range.ok sc_in_range (fun vs H Q E h => ?_) (fun cdv A outer s H vs Q E hr h => ?_)
  · obtain ⟨x, a, b, rfl, _⟩ := h
    rfl
  · obtain ⟨x, a, b, rfl, hx, q⟩ := h
    refine ⟨_, pss_one (ps_ret (pe_and (pe_callR (ok_is_integer T) hr T.A_is_integer.kp rfl T.g_is_integer pass0 (pa_cons (pv 0) pa_nil))
      (pe_one (pe_chain op_le op_le (pv 1) (pv 0) (pv 2))))), ?_⟩
    refine ⟨_, rfl, x, rfl, hx, _, rfl, ?_⟩
    cases x with
    | int i =>
      refine iteT ⟨_, rfl, _, rfl, _, _, rfl, rfl, _, rfl, ?_⟩
      refine ifD (fun h => ?_) (fun h => ?_)
      · refine ⟨_, rfl, _, _, rfl, rfl, ?_⟩
        have e : inR (.int i) a b = decide (i ≤ b) := by simp [inR, h]
        rw [e] at q
        exact q
      · have e : inR (.int i) a b = false := by simp [inR, h]
        rw [e] at q
        exact q
    | _ => exact iteF q
/-! ### the law's draws -/
def spDraw : Sp := fun vs H Q _ => ∃ (p : Addr) (a b n : Int), vs = [.ref p, .int n] ∧ H p = some (.lst [.int a, .int b]) ∧ 0 ≤ a ∧ 0 ≤ b ∧ b < 2147483647 ∧ 0 < n ∧ n < 1073741824 ∧
  ∀ a' b' r : Int, 0 ≤ a' → 0 ≤ b' → b' < 2147483647 → 0 ≤ r → r < n → Q (.int r) (upd H p (.lst [.int a', .int b']))
theorem ok_draw (T : Txt K mg) : FnR P w K mg base CX0 1 T.f_l_draw spDraw := by
  refine T.A_l_draw.ok sc_l_draw (fun vs H Q E h => ?_) (fun cdv A outer s H vs Q E hr h => ?_)
  · obtain ⟨p, a, b, n, rfl, _⟩ := h
    rfl
  · obtain ⟨p, a, b, n, rfl, hp, ha, hb, hb2, hn, hn2, k⟩ := h
    refine ⟨_, pss_cons (ps_if (pt_cmpR op_gt (pe_ix ix_list (pv 0) pe_int (fun _ _ => rfl)) pe_int (nomark _))
        (pss_cons (ps_set (i := 2) sc_l_draw.nd rfl (Or.inl rfl) (pe_op op_mod (pe_ix ix_list (pv 0) pe_int (fun _ _ => rfl)) (pv 1)))
        (pss_cons (ps_asg (pe_op op_fdiv (pe_ix ix_list (pv 0) pe_int (fun _ _ => rfl)) (pv 1)) (pg_sub (pv 0) pe_int set_list))
        (pss_one (ps_ret (pv 2))))) pss_nil)
      (pss_cons (ps_asg (pe_op op_mod (pe_op op_add (pe_op op_mul (pe_ix ix_list (pv 0) pe_int (fun _ _ => rfl)) pe_int) pe_int) pe_int) (pg_sub (pv 0) pe_int set_list))
      (pss_one (ps_ret (pe_op op_mod (pe_op op_fdiv (pe_op op_mod (pe_op op_mul (pe_ix ix_list (pv 0) pe_int (fun _ _ => rfl)) (pe_ix ix_list (pv 0) pe_int (fun _ _ => rfl))) pe_int) pe_int) (pv 1))))), ?_⟩
    refine ⟨_, rfl, p, _, 0, _, rfl, rfl, SqL.of hp, rfl, _, _, rfl, rfl, _, rfl, ?_⟩
    refine ifD (fun h => ?_) (fun h => ?_)
    · refine ⟨_, rfl, p, _, 0, _, rfl, rfl, SqL.of hp, rfl, _, rfl, _, _, rfl, rfl, hn, ?_⟩
      refine ⟨_, rfl, p, _, 0, _, rfl, rfl, SqL.of hp, rfl, _, rfl, _, _, rfl, rfl, ⟨hn, hn2⟩, _, rfl, p, _, 0, _, rfl, rfl, hp, rfl, ?_⟩
      refine ⟨_, rfl, ?_⟩
      exact k (a / n) b (a % n) (Int.ediv_nonneg ha (by omega)) hb hb2 (Int.emod_nonneg _ (by omega)) (Int.emod_lt_of_pos _ hn)
    · have m1 : 0 ≤ (b * 48271 + 11) % 2147483647 := Int.emod_nonneg _ (by decide)
      have m2 : (b * 48271 + 11) % 2147483647 < 2147483647 := Int.emod_lt_of_pos _ (by decide)
      refine ⟨_, rfl, p, _, 1, _, rfl, rfl, SqL.of hp, rfl, _, _, rfl, rfl, .inr ⟨by decide, by decide⟩, _, _, rfl, rfl, _, _, rfl, rfl, (by show (0 : Int) < 2147483647; decide), _, rfl, p, _, 1, _, rfl, rfl, hp, rfl, ?_⟩
      refine ⟨_, rfl, p, _, 1, _, rfl, rfl, SqL.of upd_same, rfl, _, rfl, p, _, 1, _, rfl, rfl, SqL.of upd_same, rfl, _, _, rfl, rfl, .inl ⟨by omega, by omega⟩, _, _, rfl, rfl, (by show (0 : Int) < 2147483629; decide), _, _, rfl, rfl, ⟨by decide, by decide⟩, _, rfl, _, _, rfl, rfl, hn, ?_⟩
      exact k a ((b * 48271 + 11) % 2147483647) _ ha m1 m2 (Int.emod_nonneg _ (by omega)) (Int.emod_lt_of_pos _ hn)
end
end My
namespace My
open PySem L2 U StX PM
section
variable {P : Program} {w : World} {K : PySem.W.Frag} {mg : Str → Option Value} {base : Heap}
theorem head_int (xs : List V) (h : ∀ v ∈ xs, ∃ i, v = V.int i) : ∃ c, atI (xs ++ [V.int 0]) 0 = some (V.int c) := by
  cases xs with
  | nil => exact ⟨0, rfl⟩
  | cons a r =>
    obtain ⟨i, rfl⟩ := h a List.mem_cons_self
    refine ⟨i, atI_nat (j := 0) ?_⟩
    rfl
theorem cut_int (ns : List Int) (lo hi : Option Int) : ∀ v ∈ cutV (ns.map V.int) lo hi, ∃ i, v = V.int i := by
  intro v hv
  unfold cutV at hv
  have h1 := List.mem_of_mem_drop (List.mem_of_mem_take hv)
  obtain ⟨i, _, rfl⟩ := List.mem_map.mp h1
  exact ⟨i, rfl⟩
def spHand (K : PySem.W.Frag) : Sp := fun vs H Q _ => ∃ (a : Addr) (ns : List Int) (k : Int), vs = [.ref a, .int k] ∧ SqL K H a (ns.map V.int) ∧ ns.length ≤ 63 ∧
  ∀ p H' x y, H p = none → H' p = some (.lst [.int x, .int y]) → Same H H' → 0 ≤ x → 0 ≤ y → y < 2147483647 → Q (.ref p) H'
theorem ok_hand (T : Txt K mg) : FnR P w K mg base CX0 1 T.f_l_hand (spHand K) := by
  refine T.A_l_hand.ok sc_l_hand (fun vs H Q E h => ?_) (fun cdv A outer s H vs Q E hr h => ?_)
  · obtain ⟨a, ns, k, rfl, _⟩ := h
    rfl
  · obtain ⟨a, ns, k, rfl, hS, hl, q⟩ := h
    refine ⟨_, pss_cons (ps_set (i := 2) sc_l_hand.nd rfl (Or.inl rfl) (pe_ix ix_list (pe_op op_cat (pe_slice sl_list (pv 0) (po_some (pv 1)) (po_some (pe_op op_add (pv 1) pe_int))) (pe_lst (pa_cons pe_int pa_nil))) pe_int (fun _ _ => rfl)))
      (pss_cons (ps_set (i := 3) sc_l_hand.nd rfl (Or.inl rfl) (pe_op op_mod (pe_op op_mul (pe_op op_add (pe_op op_add (pe_op op_mod (pv 2) pe_int) (pe_op op_mul pe_int (pv 1))) pe_int) pe_int) pe_int))
      (pss_one (ps_ret (pe_lst (pa_cons (pe_op op_mul (pe_callTy call_int1 (by rfl) T.n_int (by decide +kernel) (pa_cons (pe_cmpR op_ge (pv 2) (pe_op op_pow pe_int pe_int) (nomark _)) pa_nil)) (pv 2)) (pa_cons (pv 3) pa_nil)))))), ?_⟩
    refine ⟨_, rfl, _, rfl, _, rfl, _, rfl, _, _, rfl, rfl, _, rfl, a, _, rfl, hS, fun p1 n1 => ?_⟩
    refine ⟨(by show 1 ≤ sizeLine; decide), fun p2 n2 => ?_⟩
    have n12 : p1 ≠ p2 := ne_of_none upd_same n2
    have hcl := cutV_length (ns.map V.int) (some k) (some (k + 1))
    rw [List.length_map] at hcl
    refine ⟨p1, p2, cutV (ns.map V.int) (some k) (some (k + 1)), [.int 0], rfl, rfl, (by rw [upd_ne n12, upd_same]), upd_same, ?_, fun p3 n3 => ?_⟩
    · show _ + 1 ≤ sizeLine
      exact Nat.le_trans (by omega : _ ≤ 64) (by decide)
    obtain ⟨c, hc⟩ := head_int _ (cut_int ns (some k) (some (k + 1)))
    refine ⟨p3, _, 0, .int c, rfl, rfl, SqL.of upd_same, hc, ?_⟩
    refine ⟨_, rfl, _, _, rfl, rfl, (by show (0 : Int) < 2147483647; decide), _, rfl, _, _, rfl, rfl, .inl ⟨by decide, by decide⟩, _, _, rfl, rfl, _, _, rfl, rfl, _, _, rfl, rfl, .inr ⟨by decide, by decide⟩, _, _, rfl, rfl, (by show (0 : Int) < 2147483629; decide), ?_⟩
    refine ⟨_, rfl, _, _, rfl, rfl, ⟨by decide, by decide, by decide⟩, _, _, rfl, rfl, .inr ⟨_, rfl, _, rfl, _, _, rfl, rfl, .inl ?_, _, rfl, (by show 2 ≤ sizeLine; decide), fun p4 n4 => ?_⟩⟩
    · cases decide ((10 : Int) ^ (18 : Int).toNat ≤ c) <;> exact ⟨by decide, by decide⟩
    · have s3 := ((Same.new (o := .lst (cutV (ns.map V.int) (some k) (some (k + 1)))) n1).trans (Same.new (o := .lst [.int 0]) n2)).trans (Same.new (o := .lst (cutV (ns.map V.int) (some k) (some (k + 1)) ++ [.int 0])) n3)
      refine q p4 _ _ _ (s3.free n4) upd_same (s3.trans (Same.new n4)) ?_ (Int.emod_nonneg _ (by decide)) ?_
      · cases hd : decide ((10 : Int) ^ (18 : Int).toNat ≤ c) with
        | true =>
          have := of_decide_eq_true hd
          have h10 : (0 : Int) ≤ 10 ^ (18 : Int).toNat := by decide
          show 0 ≤ 1 * c
          omega
        | false => show 0 ≤ 0 * c; omega
      · have := Int.emod_lt_of_pos ((c % 2147483647 + 7919 * k + 1) * 48271) (show (0 : Int) < 2147483629 by decide)
        omega
end
end My
namespace My
open PySem L2 U StX PM
section
variable {P : Program} {w : World} {K : PySem.W.Frag} {mg : Str → Option Value} {base : Heap}
def rowOk (n : Int) (p : Int × Int) : Bool := inR (.int p.1) 0 (n - 1) && inR (.int p.2) 0 (n - 1)
def okArr (n : Int) (l : List (Int × Int)) : Bool := l.all (rowOk n) && decide (l.map (·.2)).Nodup
def tgt (l : List (Int × Int)) : List (Key × V) := l.map fun p => (Sum.inl p.2, V.bl true)
theorem tgt_key {l : List (Int × Int)} {y : Int} : (Sum.inl y : Key) ∈ (tgt l).map (·.1) ↔ y ∈ l.map (·.2) := by
  unfold tgt
  rw [List.map_map]
  constructor
  · intro h
    obtain ⟨p, hp, e⟩ := List.mem_map.mp h
    exact List.mem_map.mpr ⟨p, hp, Sum.inl.inj e⟩
  · intro h
    obtain ⟨p, hp, e⟩ := List.mem_map.mp h
    exact List.mem_map.mpr ⟨p, hp, congrArg Sum.inl e⟩
theorem tgt_val {l : List (Int × Int)} {y : Int} : (valV (tgt l) (Sum.inl y : Key)).isSome = decide (y ∈ l.map (·.2)) := by
  by_cases h : y ∈ l.map (·.2)
  · have h' := tgt_key.mpr h
    rw [decide_eq_true h]
    cases e : valV (tgt l) (Sum.inl y : Key) with
    | some v => rfl
    | none =>
      obtain ⟨p, hp, e2⟩ := List.mem_map.mp h'
      exfalso
      unfold valV at e
      rw [Option.map_eq_none_iff, List.find?_eq_none] at e
      exact e p hp (by simp [e2])
  · rw [decide_eq_false h, valV_none fun z => h (tgt_key.mp z)]
    rfl
theorem okArr_step {n : Int} {l : List (Int × Int)} {i : Nat} {p : Int × Int} (h : l[i]? = some p) : okArr n (l.take (i + 1)) = (okArr n (l.take i) && (rowOk n p && !decide (p.2 ∈ (l.take i).map (·.2)))) := by
  rw [take_more h]
  unfold okArr
  rw [List.all_append, List.map_append]
  have e : decide (((l.take i).map (·.2) ++ [p].map (·.2)).Nodup) = (decide ((l.take i).map (·.2)).Nodup && !decide (p.2 ∈ (l.take i).map (·.2))) := by
    rw [Bool.eq_iff_iff]
    simp only [decide_eq_true_eq, Bool.and_eq_true, Bool.not_eq_true', decide_eq_false_iff_not]
    rw [List.nodup_append]
    constructor
    · rintro ⟨h1, _, h2⟩
      exact ⟨h1, fun hm => h2 _ hm _ (by simp) rfl⟩
    · rintro ⟨h1, h2⟩
      refine ⟨h1, by simp, fun a ha b hb e => ?_⟩
      simp at hb
      subst hb
      exact h2 (e ▸ ha)
  rw [e]
  simp only [List.all_cons, List.all_nil, Bool.and_true]
  cases (l.take i).all (rowOk n) <;> cases rowOk n p <;> cases decide ((l.take i).map (·.2)).Nodup <;> simp
theorem okArr_cut {n : Int} {l : List (Int × Int)} {i : Nat} (h : okArr n (l.take i) = false) : okArr n l = false := by
  cases e : okArr n l with
  | false => rfl
  | true =>
    unfold okArr at e h
    rw [Bool.and_eq_true] at e
    have h1 : (l.take i).all (rowOk n) = true := by
      rw [List.all_eq_true] at e ⊢
      exact fun p hp => e.1 p (List.mem_of_mem_take hp)
    have h2 : ((l.take i).map (·.2)).Nodup := by
      have := of_decide_eq_true e.2
      rw [List.map_take]
      exact List.Sublist.nodup (List.take_sublist _ _) this
    rw [h1, decide_eq_true h2] at h
    cases h
def spArr : Sp := fun vs H Q _ => ∃ (n : Int) (d : Addr) (l : List (Int × Int)), vs = [.int n, .ref d] ∧ H d = some (.dK (kvI l)) ∧ l.length ≤ 1000 ∧ ∀ H', Same H H' → Q (.bl (okArr n l)) H'
theorem ok_are_arrows (T : Txt K mg) : FnR P w K mg base CX0 3 T.f_are_arrows spArr := by
  refine T.A_are_arrows.ok sc_are_arrows (fun vs H Q E h => ?_) (fun cdv A outer s H vs Q E hr h => ?_)
  · obtain ⟨n, d, l, rfl, _⟩ := h
    rfl
  · obtain ⟨n, d, l, rfl, hd, hl, q⟩ := h
    have hu := hu_of hr
    refine ⟨_, pss_cons (ps_if (pt_not (pt_val (pe_callB call_isi (by rfl) T.n_isinstance (by decide +kernel) (pa_cons (pv 1) (pa_cons (pe_bltn (v := .ty "dict") (u := .type "dict") (by rfl) T.n_dict (by decide +kernel) rfl) pa_nil))))) (pss_one (ps_ret pe_bl)) pss_nil)
      (pss_cons (ps_set (i := 2) sc_are_arrows.nd rfl (Or.inl rfl) pe_dnewK)
      (pss_cons (ps_lock (ps_for PassesOwn.never rfl (pi_items (pv 1)) (pg_tup rfl (pgs_cons (pg_name (i := 3) sc_are_arrows.nd rfl (Or.inl rfl)) (pgs_cons (pg_name (i := 4) sc_are_arrows.nd rfl (Or.inl rfl)) pgs_nil)))
        (pss_cons (ps_if (PW.pt (pw_or (pt_not (pt_val (pe_callR (ok_in_range T) hr T.A_in_range.kp rfl T.g_in_range pass0 (pa_cons (pv 3) (pa_cons pe_int (pa_cons (pe_op op_sub (pv 0) pe_int) pa_nil))))))
            (pw_or (pt_not (pt_val (pe_callR (ok_in_range T) hr T.A_in_range.kp rfl T.g_in_range pass0 (pa_cons (pv 4) (pa_cons pe_int (pa_cons (pe_op op_sub (pv 0) pe_int) pa_nil))))))
            (pw_or1 (pt_cmp (pc_din hu (pv 4) (pv 2))))))) (pss_one (ps_ret pe_bl)) pss_nil)
        (pss_one (ps_dput hu (pv 2) (pv 4) pe_bl rfl)))))
      (pss_one (ps_ret pe_bl)))), ?_⟩
    refine ⟨_, rfl, _, _, _, _, true, rfl, .ty _, .base (.dK hd), kit_ty (by decide +kernel), _, rfl, ?_⟩
    refine iteF ?_
    intro t ht
    have ntd : t ≠ d := fun e => by rw [e, hd] at ht; cases ht
    have hd1 : (upd H t (.dK [])) d = some (.dK (kvI l)) := by rw [upd_ne ntd.symm]; exact hd
    refine ⟨d, _, hd1, trivial, fun od => ?_⟩
    refine ⟨_, rfl, d, od, kvI l, rfl, upd_same, ?_⟩
    refine for_it walk_items (fun i σ H' => ∃ v3 v4, σ = [some (.int n), some (.ref d), some (.ref t), v3, v4] ∧ H' d = some (.frz od (.dK (kvI l))) ∧ Off d H H' ∧ H' t = some (.dK (tgt (l.take i))) ∧ okArr n (l.take i) = true)
      ⟨none, none, rfl, upd_same, (Off.new ht).tr Off.lock, (by rw [upd_ne ntd]; exact upd_same), rfl⟩ (fun i σ H' _ ⟨_, _, _, p, _⟩ => p) ?_ ?_
    · rintro i v σ H' H'' hi ⟨v3, v4, rfl, p1, p2, p3, p4⟩ ⟨U, a, b, rfl, hU, rfl, e1, e2⟩
      rw [kvI_length] at hi
      obtain ⟨⟨x, y⟩, exy⟩ : ∃ p, l[i]? = some p := ⟨_, List.getElem?_eq_getElem hi⟩
      have ek : (kvI l)[i]? = some (Sum.inl x, V.int y) := by unfold kvI; rw [List.getElem?_map, exy]; rfl
      dsimp only at e1 e2
      rw [ek] at e1 e2
      cases e1; cases e2
      have nUd : d ≠ U := ne_of_none p1 hU
      have nUt : t ≠ U := ne_of_none p3 hU
      have d3 : (upd H' U (.tup [kV (Sum.inl x), .int y])) d = some (.frz od (.dK (kvI l))) := by rw [upd_ne nUd]; exact p1
      have t3 : (upd H' U (.tup [kV (Sum.inl x), .int y])) t = some (.dK (tgt (l.take i))) := by rw [upd_ne nUt]; exact p3
      have o3 : Off d H (upd H' U (.tup [kV (Sum.inl x), .int y])) := p2.tr (Off.new hU)
      have bad : (rowOk n (x, y) && !decide (y ∈ (l.take i).map (·.2))) = false → Q (.bl false) (upd (upd H' U (.tup [kV (Sum.inl x), .int y])) d (.dK (kvI l))) := by
        intro hb
        have h1 := okArr_step (n := n) exy
        rw [p4, hb] at h1
        have := q _ (o3.back hd)
        rw [okArr_cut h1] at this
        exact this
      refine ⟨U, [.int x, .int y], rfl, SqT.of upd_same, rfl, .int x, [.int y], rfl, .int y, [], rfl, rfl, ?_⟩
      refine ⟨_, rfl, _, rfl, _, _, rfl, rfl, .int x, 0, n - 1, rfl, trivial, _, rfl, ?_⟩
      refine ifNB (fun hc => iteT ⟨d3, bad ?_⟩) (fun hc => ?_)
      · simp [rowOk, hc]
      refine ⟨_, rfl, _, rfl, _, _, rfl, rfl, .int y, 0, n - 1, rfl, trivial, _, rfl, ?_⟩
      refine ifNB (fun hc2 => iteT ⟨d3, bad ?_⟩) (fun hc2 => ?_)
      · simp [rowOk, hc2]
      refine ⟨_, rfl, _, rfl, t, _, rfl, DGet.k (k := Sum.inl y) t3, _, rfl, ?_⟩
      rw [tgt_val]
      refine ifD (fun hm => ⟨d3, bad ?_⟩) (fun hm => ?_)
      · rw [decide_eq_true hm]; simp
      have hlen : (tgt (l.take i)).length ≤ 1000 := by unfold tgt; rw [List.length_map, List.length_take]; omega
      refine ⟨_, rfl, _, rfl, t, _, rfl, DPut.k (k := Sum.inl y) t3 (small1000 hlen), ?_⟩
      refine ⟨_, _, rfl, ?_, o3.mut ht, ?_, ?_⟩
      · rw [upd_ne ntd.symm]; exact d3
      · rw [upd_same, putK_new _ (valV_none fun z => hm (tgt_key.mp z)), take_more exy]
        unfold tgt
        rw [List.map_append]
        rfl
      · rw [okArr_step exy, p4, decide_eq_false hm]
        simp [rowOk, hc, hc2]
    · rintro σ H' ⟨v3, v4, rfl, p1, p2, p3, p4⟩
      rw [kvI_length, List.take_length] at p4
      have := q _ (p2.back hd)
      rw [p4] at this
      exact ⟨p1, this⟩
end
end My
namespace My
open PySem L2 U StX PM
section
variable {P : Program} {w : World} {K : PySem.W.Frag} {mg : Str → Option Value} {base : Heap}
theorem ne_fld : ¬ (("own_size" : Str) = "own_arrows") := by decide +kernel
/-- a map's attributes -/
def flds (n : Int) (D : Addr) : List (Str × V) := putF "own_arrows" (.ref D) (putF "own_size" (.int n) [])
theorem flds_size (n : Int) (D : Addr) : (flds n D).lookup ("own_size" : Str) = some (.int n) := by
  unfold flds
  rw [lookup_putF, if_neg ne_fld, lookup_putF, if_pos rfl]
theorem flds_arrows (n : Int) (D : Addr) : (flds n D).lookup ("own_arrows" : Str) = some (.ref D) := by
  unfold flds
  rw [lookup_putF, if_pos rfl]
theorem flds_no (n : Int) (D : Addr) {m : Str} (h1 : ¬ m = "own_arrows") (h2 : ¬ m = "own_size") : (flds n D).lookup m = none := by
  unfold flds
  rw [lookup_putF, if_neg h1, lookup_putF, if_neg h2]
  all_goals rfl
/-- a Map of n elements stands at m: the map f -/
structure IsMap (C : Addr) (H : Hp) (m : Addr) (n : Int) (f : PF) : Prop where
  ob : ∃ dx D, H m = some (.ins C dx (flds n D)) ∧ H D = some (.dK (kvI (tab n f)))
  wf : WF n f
  lo : 1 ≤ n
  hi : n ≤ 300
theorem IsMap.same {C : Addr} {H H' : Hp} {m : Addr} {n : Int} {f : PF} (a : IsMap C H m n f) (s : Same H H') : IsMap C H' m n f := by
  obtain ⟨⟨dx, D, h1, h2⟩, wf, lo, hi⟩ := a
  exact ⟨⟨dx, D, s _ _ h1, s _ _ h2⟩, wf, lo, hi⟩
theorem okArr_of {n : Int} {l : List (Int × Int)} {f : PF} (d : DI l f) (w : WF n f) : okArr n l = true := by
  unfold okArr
  rw [Bool.and_eq_true]
  refine ⟨List.all_eq_true.mpr fun p hp => ?_, decide_eq_true (d.vals w)⟩
  obtain ⟨x, y⟩ := p
  have h := w.dom x y (d.mem.mp hp)
  simp only [rowOk, inR, Bool.and_eq_true, decide_eq_true_eq]
  omega
theorem madeR_tab {l : List (Int × Int)} {f : PF} (d : DI l f) (n : Nat) : madeR (fun k => (lk l k).isSome) (fun x => x) (fun k => ((lk l k).map V.int).getD .non) n = kvI (tabN f n) := by
  induction n with
  | zero => rfl
  | succ n ih =>
    rw [madeR_succ, ih]
    have e : tabN f (n + 1) = tabN f n ++ ((f (n : Int)).map fun y => ((n : Int), y)).toList := by
      unfold tabN
      rw [List.range_succ, List.filterMap_append]
      cases h : f (n : Int) <;> simp [h]
    rw [e, d.at_]
    cases h : f (n : Int) with
    | none => simp
    | some y => simp [kvI]
def spInit (C : Addr) : Sp := fun vs H Q _ => ∃ (p dx d : Addr) (n : Int) (l : List (Int × Int)) (f : PF), vs = [.ref p, .int n, .ref d] ∧ H p = some (.ins C dx []) ∧ H d = some (.dK (kvI l)) ∧ DI l f ∧ WF n f ∧ 1 ≤ n ∧ n ≤ 300 ∧ l.length ≤ 1000 ∧
  ∀ (H' : Hp) (D : Addr), Off p H H' → H D = none → H' p = some (.ins C dx (flds n D)) → H' D = some (.dK (kvI (tab n f))) → Q .non H'
theorem ok_init (T : Txt K mg) : FnR P w K mg base CX0 4 T.f_Map__init (spInit T.C_Map) := by
  refine T.A_Map__init.ok sc_Map__init (fun vs H Q E h => ?_) (fun cdv A outer s H vs Q E hr h => ?_)
  · obtain ⟨p, dx, d, n, l, f, rfl, _⟩ := h
    rfl
  · obtain ⟨p, dx, d, n, l, f, rfl, hp, hd, di, wf, h1, h3, hl, q⟩ := h
    have hu := hu_of hr
    obtain ⟨tk, hms⟩ := T.v_MAX_SIZE
    refine ⟨_, pss_cons (ps_if (pt_not (pt_val (pe_callR (ok_in_range T) (hr.mono (by decide)) T.A_in_range.kp rfl T.g_in_range pass0 (pa_cons (pv 1) (pa_cons pe_int (pa_cons (pe_glob (v := .int 300) rfl hms ⟨_, rfl⟩) pa_nil)))))) (pss_one ps_never) pss_nil)
      (pss_cons (ps_if (pt_not (pt_val (pe_callR (ok_are_arrows T) hr T.A_are_arrows.kp rfl T.g_are_arrows pass0 (pa_cons (pv 1) (pa_cons (pv 2) pa_nil))))) (pss_one ps_never) pss_nil)
      (pss_cons (ps_fld (pv 0) (pv 1) rfl)
      (pss_one (ps_fld (pv 0) (pe_dc (own := [("source", 3)]) (g := gName 3) rfl sc_Map__init.nd (pi_range1 rfl T.n_range (pa_cons (pv 1) pa_nil)) (blkOk_by (own := [("source", 3)]) (N := n_Map__init) (sc := defScope s_Map__init) (by decide +kernel))
        (fun _ _ _ _ _ => pg_name (i := 3) sc_Map__init.nd rfl (Or.inl rfl)) (fun _ _ _ _ _ => pts_one (pt_cmp (pc_din hu (pv 3) (pv 2)))) (fun _ _ _ _ _ => pv 3) (fun _ _ _ _ _ => pe_dget hu (pv 2) (pv 3) (fun _ _ => rfl))) rfl)))), ?_⟩
    refine ⟨_, rfl, .int n, 1, 300, rfl, trivial, _, rfl, ?_⟩
    have e1 : inR (.int n) 1 300 = true := by simp [inR, h1, h3]
    rw [e1]
    refine iteF ⟨_, rfl, _, rfl, n, d, l, rfl, hd, hl, fun H1 s1 => ⟨_, rfl, ?_⟩⟩
    rw [okArr_of di wf]
    refine iteF ?_
    have hp1 := s1 _ _ hp
    have npd : p ≠ d := ne_of hp hd (by intro z; cases z)
    refine ⟨_, rfl, _, rfl, p, T.C_Map, dx, [], rfl, hp1, T.o_Map.cl, T.na_own_size_Map, (by show 0 < 1000; decide), ?_⟩
    have hd1 : (upd H1 p (.ins T.C_Map dx (putF "own_size" (.int n) []))) d = some (.dK (kvI l)) := by rw [upd_ne npd.symm]; exact s1 _ _ hd
    dsimp only [sFld]
    refine dc_range (n := n.toNat) (fun k => (lk l k).isSome) (fun k => ((lk l k).map V.int).getD .non) (fun R r => ⟨_, rfl, n, rfl, by omega, by omega, r⟩) (fun _ => rfl) ?_ (small1000 (by omega)) ?_
    · intro k hk H2 s2
      have hd2 := s2 _ _ hd1
      refine ⟨fun R r => ?_, fun hc => ⟨fun R r => ?_, fun R r => ?_⟩⟩
      · refine ⟨_, rfl, _, rfl, d, _, rfl, DGet.k (k := Sum.inl (0 + (k : Int))) hd2, _, rfl, ?_⟩
        rw [valV_kvI, Option.isSome_map, Int.zero_add]
        exact r
      · refine ⟨_, rfl, ?_⟩
        rw [Int.zero_add]
        exact r
      · cases hv : lk l (k : Int) with
        | none => rw [hv] at hc; cases hc
        | some y =>
          rw [hv] at r
          refine ⟨_, rfl, _, rfl, d, .int y, rfl, ?_, r⟩
          have := DGet.k (k := Sum.inl (0 + (k : Int))) hd2
          rw [valV_kvI, Int.zero_add, hv] at this
          rw [Int.zero_add]
          exact this
    · intro D H2 nD hD s2
      rw [madeR_tab di] at hD
      have hp2 := s2 _ _ (upd_same : (upd H1 p (.ins T.C_Map dx (putF "own_size" (.int n) []))) p = _)
      refine ⟨_, rfl, p, T.C_Map, dx, _, rfl, hp2, T.o_Map.cl, T.na_own_arrows_Map, (by show 1 < 1000; decide), ?_⟩
      have nDp : D ≠ p := fun e => by rw [e, upd_same] at nD; cases nD
      have nD1 : H1 D = none := by rw [upd_ne nDp] at nD; exact nD
      refine q _ D (fun b o hb e => ?_) (s1.free nD1) upd_same ?_
      · rw [upd_ne hb]
        refine s2 _ _ ?_
        rw [upd_ne hb]
        exact s1 _ _ e
      · rw [upd_ne nDp]
        exact hD
end
end My
namespace My
open PySem L2 U StX PM
/-! ### what a comprehension over pairs of ints makes -/
def madeI (c : Int → Int → Bool) (kf vi : Int → Int → Int) (l : List (Int × Int)) : List (Int × Int) := (l.filter fun p => c p.1 p.2).map fun p => (kf p.1 p.2, vi p.1 p.2)
theorem madeD_I (c : Int → Int → Bool) (kf vi : Int → Int → Int) (l : List (Int × Int)) : madeD c kf (fun x y => .int (vi x y)) l = kvI (madeI c kf vi l) := by
  unfold madeD madeI kvI
  rw [List.map_map]
  rfl
theorem kvI_keys (l : List (Int × Int)) : (kvI l).map (·.1) = (l.map (·.1)).map Sum.inl := by
  unfold kvI
  rw [List.map_map, List.map_map]
  rfl
theorem nd_inl {l : List Int} (h : l.Nodup) : (l.map (Sum.inl : Int → Key)).Nodup := by
  induction l with
  | nil => exact List.nodup_nil
  | cons a r ih =>
    rw [List.nodup_cons] at h
    rw [List.map_cons, List.nodup_cons]
    refine ⟨fun hm => ?_, ih h.2⟩
    obtain ⟨b, hb, e⟩ := List.mem_map.mp hm
    exact h.1 (Sum.inl.inj e ▸ hb)
theorem mem_madeI {c : Int → Int → Bool} {kf vi : Int → Int → Int} {l : List (Int × Int)} {a b : Int} : (a, b) ∈ madeI c kf vi l ↔ ∃ x y, (x, y) ∈ l ∧ c x y = true ∧ kf x y = a ∧ vi x y = b := by
  unfold madeI
  rw [List.mem_map]
  constructor
  · rintro ⟨⟨x, y⟩, h, e⟩
    have h1 := List.mem_filter.mp h
    cases e
    exact ⟨x, y, h1.1, h1.2, rfl, rfl⟩
  · rintro ⟨x, y, h1, h2, rfl, rfl⟩
    exact ⟨(x, y), List.mem_filter.mpr ⟨h1, h2⟩, rfl⟩
theorem madeI_len (c : Int → Int → Bool) (kf vi : Int → Int → Int) (l : List (Int × Int)) : (madeI c kf vi l).length ≤ l.length := by
  unfold madeI
  rw [List.length_map]
  exact List.length_filter_le _ _
/-- the sources kept -/
theorem nd_src {c : Int → Int → Bool} {vi : Int → Int → Int} {l : List (Int × Int)} (h : (l.map (·.1)).Nodup) : ((madeI c (fun x _ => x) vi l).map (·.1)).Nodup := by
  unfold madeI
  rw [List.map_map]
  exact List.Sublist.nodup ((List.filter_sublist (p := fun p : Int × Int => c p.1 p.2)).map (·.1)) h
/-- the targets for sources -/
theorem nd_tgt {c : Int → Int → Bool} {vi : Int → Int → Int} {l : List (Int × Int)} (h : (l.map (·.2)).Nodup) : ((madeI c (fun _ y => y) vi l).map (·.1)).Nodup := by
  unfold madeI
  rw [List.map_map]
  exact List.Sublist.nodup ((List.filter_sublist (p := fun p : Int × Int => c p.1 p.2)).map (·.2)) h
section
variable {P : Program} {w : World} {K : PySem.W.Frag} {mg : Str → Option Value} {base : Heap}
theorem mk_map {C : Addr} {H : Hp} {d : Addr} {n : Int} {l : List (Int × Int)} {f : PF} {Q : VK} {E : XK} (hd : H d = some (.dK (kvI l))) (di : DI l f) (wf : WF n f) (h1 : 1 ≤ n) (h3 : n ≤ 300) (hl : l.length ≤ 1000)
    (q : ∀ r H', H r = none → Same H H' → IsMap C H' r n f → Q (.ref r) H') (x dx : Addr) (hx : H x = none) (hdx : H dx = none) (ne : dx ≠ x) :
    spInit C [.ref x, .int n, .ref d] (upd (upd H dx (.own x)) x (.ins C dx [])) (fun v H2 => v = .non ∧ Q (.ref x) H2) E := by
  have s0 : Same H (upd (upd H dx (.own x)) x (.ins C dx [])) := fun b o e => by
    rw [upd_ne (ne_of_none e hx), upd_ne (ne_of_none e hdx)]
    exact e
  refine ⟨x, dx, d, n, l, f, rfl, upd_same, s0 _ _ hd, di, wf, h1, h3, hl, fun H' D o nD hp hD => ⟨rfl, ?_⟩⟩
  refine q x H' hx (fun b u e => o b u (ne_of_none e hx) (s0 b u e)) ⟨⟨dx, D, hp, hD⟩, wf, h1, h3⟩
/-! ### size, arrows, common_size -/
def spSize (C : Addr) : Sp := fun vs H Q _ => ∃ m n f, vs = [.ref m] ∧ IsMap C H m n f ∧ Q (.int n) H
theorem ok_size (T : Txt K mg) : FnR P w K mg base CX0 1 T.f_Map_size (spSize T.C_Map) := by
  refine T.A_Map_size.ok sc_Map_size (fun vs H Q E h => ?_) (fun cdv A outer s H vs Q E hr h => ?_)
  · obtain ⟨m, n, f, rfl, _⟩ := h
    rfl
  · obtain ⟨m, n, f, rfl, ⟨⟨dx, D, h1, h2⟩, _⟩, q⟩ := h
    refine ⟨_, pss_one (ps_ret (pe_fld (pv 0) rfl)), ?_⟩
    exact ⟨_, rfl, m, _, dx, _, _, rfl, h1, T.o_Map.cl, T.na_own_size_Map, flds_size _ _, q⟩
def spArrows (C : Addr) : Sp := fun vs H Q _ => ∃ m n f, vs = [.ref m] ∧ IsMap C H m n f ∧ ∀ p, H p = none → Q (.ref p) (upd H p (.dK (kvI (tab n f))))
theorem ok_arrows (T : Txt K mg) : FnR P w K mg base CX0 1 T.f_Map_arrows (spArrows T.C_Map) := by
  refine T.A_Map_arrows.ok sc_Map_arrows (fun vs H Q E h => ?_) (fun cdv A outer s H vs Q E hr h => ?_)
  · obtain ⟨m, n, f, rfl, _⟩ := h
    rfl
  · obtain ⟨m, n, f, rfl, ⟨⟨dx, D, h1, h2⟩, _⟩, q⟩ := h
    refine ⟨_, pss_one (ps_ret (pe_callTy call_dictD (by rfl) T.n_dict (by decide +kernel) (pa_cons (pe_fld (pv 0) rfl) pa_nil))), ?_⟩
    exact ⟨_, rfl, m, _, dx, _, _, rfl, h1, T.o_Map.cl, T.na_own_arrows_Map, flds_arrows _ _, D, _, rfl, Rd.of h2, q⟩
theorem at_map {C : Addr} {H : Hp} {m : Addr} {n : Int} {f : PF} (h : IsMap C H m n f) : ∃ dx fs, H m = some (.ins C dx fs) := by
  obtain ⟨⟨dx, D, h1, _⟩, _⟩ := h
  exact ⟨dx, _, h1⟩
def spCommon (C : Addr) : Sp := fun vs H Q _ => ∃ a b n f g, vs = [.ref a, .ref b] ∧ IsMap C H a n f ∧ IsMap C H b n g ∧ Q (.int n) H
theorem ok_common (T : Txt K mg) : FnR P w K mg base CX0 3 T.f_common_size (spCommon T.C_Map) := by
  refine T.A_common_size.ok sc_common_size (fun vs H Q E h => ?_) (fun cdv A outer s H vs Q E hr h => ?_)
  · obtain ⟨a, b, n, f, g, rfl, _⟩ := h
    rfl
  · obtain ⟨a, b, n, f, g, rfl, ha, hb, q⟩ := h
    refine ⟨_, pss_cons (ps_if (pt_cmpR op_ne (pe_propR (pv 0) T.o_Map.cl T.P_Map_size (ok_size T) hr) (pe_propR (pv 1) T.o_Map.cl T.P_Map_size (ok_size T) hr) (nomark _)) (pss_one ps_never) pss_nil)
      (pss_one (ps_ret (pe_propR (pv 0) T.o_Map.cl T.P_Map_size (ok_size T) hr))), ?_⟩
    obtain ⟨dx, fs, h1⟩ := at_map ha
    obtain ⟨dy, gs, h2⟩ := at_map hb
    refine ⟨_, rfl, a, dx, fs, rfl, h1, a, n, f, rfl, ha, _, rfl, b, dy, gs, rfl, h2, b, n, g, rfl, hb, rfl, _, rfl, ?_⟩
    refine iteNS rfl ?_
    exact ⟨_, rfl, a, dx, fs, rfl, h1, a, n, f, rfl, ha, q⟩
/-! ### the operators -/
def spOp (C : Addr) (op : PF → PF → PF) : Sp := fun vs H Q _ => ∃ a b n f g, vs = [.ref a, .ref b] ∧ IsMap C H a n f ∧ IsMap C H b n g ∧ ∀ r H', H r = none → Same H H' → IsMap C H' r n (op f g) → Q (.ref r) H'
theorem mul_di {n : Int} {f g : PF} (wf : WF n f) (wg : WF n g) : DI (madeI (fun _ y => (g y).isSome) (fun x _ => x) (fun _ y => (g y).getD 0) (tab n f)) (mul f g) := by
  refine di_of (nd_src (keys_tab n f)) fun a b => ?_
  rw [mem_madeI]
  constructor
  · rintro ⟨x, y, h1, h2, rfl, rfl⟩
    have e := (mem_tab wf).mp h1
    unfold mul
    rw [e]
    cases hg : g y with
    | none => rw [hg] at h2; cases h2
    | some z => show g y = _; rw [hg]; rfl
  · intro h
    unfold mul at h
    cases e : f a with
    | none => rw [e] at h; cases h
    | some y =>
      rw [e] at h
      have h' : g y = some b := h
      exact ⟨a, y, (mem_tab wf).mpr e, by rw [h']; rfl, rfl, by rw [h']; rfl⟩
theorem ok_mul (T : Txt K mg) : FnR P w K mg base CX0 6 T.f_Map__mul (spOp T.C_Map mul) := by
  refine T.A_Map__mul.ok sc_Map__mul (fun vs H Q E h => ?_) (fun cdv A outer s H vs Q E hr h => ?_)
  · obtain ⟨a, b, n, f, g, rfl, _⟩ := h
    rfl
  · obtain ⟨a, b, n, f, g, rfl, ha, hb, q⟩ := h
    have hu := hu_of hr
    refine ⟨_, pss_cons (ps_if (pt_not (pt_val (pe_callB call_isi (by rfl) T.n_isinstance (by decide +kernel) (pa_cons (pv 1) (pa_cons (pe_glob (v := .ref T.C_Map) rfl T.g_Map rfl) pa_nil))))) (pss_one ps_never) pss_nil)
      (pss_cons (ps_set (i := 2) sc_Map__mul.nd rfl (Or.inl rfl) (pe_callR (ok_common T) (hr.mono (by decide)) T.A_common_size.kp rfl T.g_common_size pass0 (pa_cons (pv 0) (pa_cons (pv 1) pa_nil))))
      (pss_cons (ps_set (i := 3) sc_Map__mul.nd rfl (Or.inr rfl) (pe_propR (pv 1) T.o_Map.cl T.P_Map_arrows (ok_arrows T) (hr.mono (by decide))))
      (pss_one (ps_ret (pe_makeR T.M_Map (ok_init T) hr rfl T.g_Map pass0 (pa_cons (pv 2) (pa_cons (pe_lock (pe_dc (own := [("source", 4), ("target", 5)]) (g := gTup K 2 (gCons (gName 4) (gCons (gName 5) gNil))) rfl sc_Map__mul.nd (pi_items (pe_fld (pv 0) rfl))
        (blkOk_by (own := [("source", 4), ("target", 5)]) (N := n_Map__mul) (sc := defScope s_Map__mul) (by decide +kernel))
        (fun _ _ _ _ _ => pg_tup rfl (pgs_cons (pg_name (i := 4) sc_Map__mul.nd rfl (Or.inl rfl)) (pgs_cons (pg_name (i := 5) sc_Map__mul.nd rfl (Or.inl rfl)) pgs_nil)))
        (fun _ _ _ _ _ => pts_one (pt_cmp (pc_din hu (pv 5) (pv 3)))) (fun _ _ _ _ _ => pv 4) (fun _ _ _ _ _ => pe_dget hu (pv 3) (pv 5) (fun _ _ => rfl)))) pa_nil))))))), ?_⟩
    obtain ⟨dx, D, h1, h2⟩ := id ha.ob
    obtain ⟨dy, gs, h3⟩ := at_map hb
    refine ⟨_, rfl, _, _, _, _, true, rfl, .own _, tyx_ins T.o_Map h3, T.self_Map, _, rfl, iteF ?_⟩
    refine ⟨_, rfl, _, rfl, a, b, n, f, g, rfl, ha, hb, ?_⟩
    refine ⟨_, rfl, b, dy, gs, rfl, h3, b, n, g, rfl, hb, fun p hp => ?_⟩
    refine ⟨_, rfl, ?_⟩
    have s1 : Same H (upd H p (.dK (kvI (tab n g)))) := Same.new hp
    have npD : D ≠ p := ne_of_none h2 hp
    refine dc_items (fun _ y => (g y).isSome) (fun x _ => x) (fun _ y => .int ((g y).getD 0)) (s1 _ _ h2) (fun H' R r o => ?_) (fun _ _ => rfl) ?_ ?_ ?_ ?_
    · refine ⟨_, rfl, a, _, dx, _, _, rfl, o _ _ (ne_of h1 h2 (by intro z; cases z)) (s1 _ _ h1), T.o_Map.cl, T.na_own_arrows_Map, flds_arrows _ _, r⟩
    · intro x y hxy H1 o
      have hl1 : H1 p = some (.dK (kvI (tab n g))) := o _ _ npD.symm upd_same
      refine ⟨fun R r => ?_, fun hc => ⟨fun R r => ⟨_, rfl, r⟩, fun R r => ?_⟩⟩
      · refine ⟨_, rfl, _, rfl, p, _, rfl, DGet.k (k := Sum.inl y) hl1, _, rfl, ?_⟩
        rw [valV_kvI, Option.isSome_map, lk_tab hb.wf]
        exact r
      · cases hv : g y with
        | none => rw [hv] at hc; cases hc
        | some z =>
          rw [hv] at r
          refine ⟨_, rfl, _, rfl, p, .int z, rfl, ?_, r⟩
          have := DGet.k (k := Sum.inl y) hl1
          rw [valV_kvI, lk_tab hb.wf, hv] at this
          exact this
    · rw [madeD_I, kvI_keys]
      exact nd_inl (nd_src (keys_tab n f))
    · have h9 := ha.hi
      exact small1000 (Nat.le_trans (tab_len n f) (by omega))
    · intro D2 H2 nD2 hD2 s2
      rw [madeD_I] at hD2
      have h9 := ha.hi
      refine mk_map hD2 (mul_di ha.wf hb.wf) (wf_mul ha.wf hb.wf) ha.lo ha.hi (Nat.le_trans (madeI_len ..) (Nat.le_trans (tab_len n f) (by omega))) fun r H3 nr s3 hm => ?_
      exact q r H3 ((s1.trans s2).free nr) ((s1.trans s2).trans s3) hm
end
end My
namespace My
open PySem L2 U StX PM
section
variable {P : Program} {w : World} {K : PySem.W.Frag} {mg : Str → Option Value} {base : Heap}
/-! ### ~f -/
theorem inv_di {n : Int} {f : PF} (wf : WF n f) : DI (madeI (fun _ _ => true) (fun _ y => y) (fun x _ => x) (tab n f)) (inv n f) := by
  refine di_of (nd_tgt (vals_tab wf)) fun a b => ?_
  rw [mem_madeI, inv_iff wf]
  constructor
  · rintro ⟨x, y, h1, _, rfl, rfl⟩
    exact (mem_tab wf).mp h1
  · intro h
    exact ⟨b, a, (mem_tab wf).mpr h, rfl, rfl, rfl⟩
/-! ### f & g, f - g -/
theorem isD_of {H : Hp} {a : Addr} {kvs : List (Key × V)} (h : H a = some (.dK kvs)) : IsD H a := by
  first | exact .inl ⟨_, .inl h⟩ | exact ⟨_, .inl h⟩ | exact .inl ⟨_, h⟩ | exact .inr (.inl ⟨_, h⟩)
end
end My
namespace My
open PySem L2 U StX PM
section
variable {P : Program} {w : World} {K : PySem.W.Frag} {mg : Str → Option Value} {base : Heap}
/-! ### is_part, <=, <, >= -/
/-! ### == -/
theorem nd_of_map {α β : Type} (h : α → β) : ∀ {l : List α}, (l.map h).Nodup → l.Nodup
  | [], _ => List.nodup_nil
  | a :: r, nd => by
    rw [List.map_cons, List.nodup_cons] at nd
    exact List.nodup_cons.mpr ⟨fun hm => nd.1 (List.mem_map.mpr ⟨a, hm, rfl⟩), nd_of_map h nd.2⟩
def eqB (n : Int) (f : PF) (n' : Int) (g : PF) : Bool := decide (n = n') && dEq (kvI (tab n f)) (kvI (tab n' g))
theorem eqB_self {n : Int} {f : PF} (w : WF n f) : eqB n f n f = true := by
  unfold eqB dEq
  rw [decide_eq_true rfl]
  simp only [Bool.true_and, beq_self_eq_true, List.all_eq_true, decide_eq_true_eq]
  intro p hp
  unfold kvI at hp
  obtain ⟨⟨x, y⟩, hq, rfl⟩ := List.mem_map.mp hp
  show valV (kvI (tab n f)) (Sum.inl x) = some (V.int y)
  rw [valV_kvI, lk_tab w, (mem_tab w).mp hq]
  rfl
def spEqM (C : Addr) : Sp := fun vs H Q _ => ∃ a b n f n' g, vs = [.ref a, .ref b] ∧ IsMap C H a n f ∧ IsMap C H b n' g ∧ Q (.bl (eqB n f n' g)) H
theorem ok_eq (T : Txt K mg) : FnR P w K mg base CX0 6 T.f_Map__eq (spEqM T.C_Map) := by
  refine T.A_Map__eq.ok sc_Map__eq (fun vs H Q E h => ?_) (fun cdv A outer s H vs Q E hr h => ?_)
  · obtain ⟨a, b, n, f, n', g, rfl, _⟩ := h
    rfl
  · obtain ⟨a, b, n, f, n', g, rfl, ha, hb, q⟩ := h
    have hu := hu_of hr
    obtain ⟨dx, D, h1, h2⟩ := id ha.ob
    obtain ⟨dy, D', h3, h4⟩ := id hb.ob
    refine ⟨_, pss_cons (ps_if (pt_not (pt_val (pe_callB call_isi (by rfl) T.n_isinstance (by decide +kernel) (pa_cons (pv 1) (pa_cons (pe_glob (v := .ref T.C_Map) rfl T.g_Map rfl) pa_nil))))) (pss_one (ps_ret pe_bl)) pss_nil)
      (pss_one (ps_ret (pe_and (pe_cmpR op_eq (pe_fld (pv 0) rfl) (pe_fld (pv 1) rfl) (nomark _)) (pe_one (pe_cmpR (op_eqDI (Nat.lt_of_succ_lt hu)) (pe_fld (pv 0) rfl) (pe_fld (pv 1) rfl) (nomark _)))))), ?_⟩
    refine ⟨_, rfl, _, _, _, _, true, rfl, .own _, tyx_ins T.o_Map h3, T.self_Map, _, rfl, iteF ?_⟩
    refine ⟨_, rfl, a, _, dx, _, _, rfl, h1, T.o_Map.cl, T.na_own_size_Map, flds_size _ _, _, rfl, b, _, dy, _, _, rfl, h3, T.o_Map.cl, T.na_own_size_Map, flds_size _ _, rfl, _, rfl, ?_⟩
    have e0 : decide (V.int n = V.int n') = decide (n = n') := by
      by_cases h : n = n'
      · subst h; simp
      · have : ¬ V.int n = V.int n' := fun z => h (V.int.inj z)
        simp [h]
    rw [e0]
    refine ifD (fun hn => ?_) (fun hn => ?_)
    · refine ⟨_, rfl, a, _, dx, _, _, rfl, h1, T.o_Map.cl, T.na_own_arrows_Map, flds_arrows _ _, _, rfl, b, _, dy, _, _, rfl, h3, T.o_Map.cl, T.na_own_arrows_Map, flds_arrows _ _, D, D', _, _, rfl, rfl, h2, h4, intVals_kvI _, intVals_kvI _, ?_⟩
      have := q
      unfold eqB at this
      rw [decide_eq_true hn, Bool.true_and] at this
      exact this
    · have := q
      unfold eqB at this
      rw [decide_eq_false hn, Bool.false_and] at this
      exact this
end
end My
namespace My
open PySem L2 U StX PM
section
variable {P : Program} {w : World} {K : PySem.W.Frag} {mg : Str → Option Value} {base : Heap}
def spChk : Sp := fun vs H Q _ => ∃ n : Int, vs = [.int n] ∧ 1 ≤ n ∧ n ≤ 300 ∧ Q .non H
theorem ok_check_size (T : Txt K mg) : FnR P w K mg base CX0 3 T.f_check_size spChk := by
  refine T.A_check_size.ok sc_check_size (fun vs H Q E h => ?_) (fun cdv A outer s H vs Q E hr h => ?_)
  · obtain ⟨n, rfl, _⟩ := h
    rfl
  · obtain ⟨n, rfl, h1, h3, q⟩ := h
    obtain ⟨tk, hms⟩ := T.v_MAX_SIZE
    refine ⟨_, pss_one (ps_if (pt_not (pt_val (pe_callR (ok_in_range T) hr T.A_in_range.kp rfl T.g_in_range pass0 (pa_cons (pv 0) (pa_cons pe_int (pa_cons (pe_glob (v := .int 300) rfl hms ⟨_, rfl⟩) pa_nil)))))) (pss_one ps_never) pss_nil), ?_⟩
    refine ⟨_, rfl, .int n, 1, 300, rfl, trivial, _, rfl, ?_⟩
    have e1 : inR (.int n) 1 300 = true := by simp [inR, h1, h3]
    rw [e1]
    exact iteF q
theorem di_id (N : Nat) : DI ((List.range N).map fun (i : Nat) => ((i : Int), (i : Int))) (idn (N : Int)) := by
  refine di_of ?_ fun a b => ?_
  · rw [List.map_map]
    have : ∀ n : Nat, ((List.range n).map ((fun p : Int × Int => p.1) ∘ fun (i : Nat) => ((i : Int), (i : Int)))).Nodup := by
      intro n
      induction n with
      | zero => exact List.nodup_nil
      | succ n ih =>
        rw [List.range_succ, List.map_append, List.nodup_append]
        refine ⟨ih, by simp, fun a ha b hb e => ?_⟩
        obtain ⟨i, hi, rfl⟩ := List.mem_map.mp ha
        rw [List.mem_range] at hi
        simp at hb
        have e' : (i : Int) = b := e
        omega
    exact this N
  · rw [List.mem_map]
    unfold idn
    constructor
    · rintro ⟨i, hi, e⟩
      rw [List.mem_range] at hi
      cases e
      rw [if_pos ⟨by omega, by omega⟩]
    · intro h
      split at h
      · rename_i hc
        cases h
        exact ⟨a.toNat, List.mem_range.mpr (by omega), by rw [Int.toNat_of_nonneg hc.1]⟩
      · cases h
theorem madeR_id (N : Nat) : madeR (fun _ => true) (fun x => x) (fun k => .int k) N = kvI ((List.range N).map fun (i : Nat) => ((i : Int), (i : Int))) := by
  unfold madeR kvI
  rw [List.map_map]
  congr 1
  exact List.filter_eq_self.mpr fun _ _ => rfl
def spNew (C : Addr) (op : Int → PF) : Sp := fun vs H Q _ => ∃ n : Int, vs = [.ref C, .int n] ∧ 1 ≤ n ∧ n ≤ 300 ∧ ∀ r H', H r = none → Same H H' → IsMap C H' r n (op n) → Q (.ref r) H'
theorem ok_identity (T : Txt K mg) : FnR P w K mg base CX0 6 T.f_Map_identity (spNew T.C_Map idn) := by
  refine T.A_Map_identity.ok sc_Map_identity (fun vs H Q E h => ?_) (fun cdv A outer s H vs Q E hr h => ?_)
  · obtain ⟨n, rfl, _⟩ := h
    rfl
  · obtain ⟨n, rfl, h1, h3, q⟩ := h
    refine ⟨_, pss_cons (ps_expr (pe_callR (ok_check_size T) (hr.mono (by decide)) T.A_check_size.kp rfl T.g_check_size pass0 (pa_cons (pv 1) pa_nil)))
      (pss_one (ps_ret (pe_makeL (i := 0) T.M_Map (ok_init T) hr rfl (Or.inl rfl) pass0 (pa_cons (pv 1) (pa_cons (pe_dc (own := [("element", 2)]) (g := gName 2) (tt := tYes) rfl sc_Map_identity.nd (pi_range1 rfl T.n_range (pa_cons (pv 1) pa_nil)) (blkOk_by (own := [("element", 2)]) (N := n_Map_identity) (sc := defScope s_Map_identity) (by decide +kernel))
        (fun _ _ _ _ _ => pg_name (i := 2) sc_Map_identity.nd rfl (Or.inl rfl)) (fun _ _ _ _ _ => pts_nil) (fun _ _ _ _ _ => pv 2) (fun _ _ _ _ _ => pv 2)) pa_nil))))), ?_⟩
    refine ⟨_, rfl, n, rfl, h1, h3, rfl, _, rfl, ?_⟩
    refine dc_range (n := n.toNat) (fun _ => true) (fun k => .int k) (fun R r => ⟨_, rfl, n, rfl, by omega, by omega, r⟩) (fun _ => rfl) ?_ (small1000 (by omega)) ?_
    · intro k hk H1 s1
      refine ⟨fun R r => r, fun _ => ⟨fun R r => ⟨_, rfl, ?_⟩, fun R r => ⟨_, rfl, ?_⟩⟩⟩
      · rw [Int.zero_add]; exact r
      · rw [Int.zero_add]; exact r
    · intro D H1 nD hD s1
      rw [madeR_id] at hD
      have e : ((n.toNat : Nat) : Int) = n := Int.toNat_of_nonneg (by omega)
      have di := di_id n.toNat
      rw [e] at di
      refine mk_map hD di (wf_idn n) h1 h3 (by simp; omega) fun r H3 nr s3 hm => ?_
      exact q r H3 (s1.free nr) (s1.trans s3) hm
/-! ### first_clash where there is none, | -/
theorem merge_lk : ∀ (r l : List (Int × Int)), (r.map (·.1)).Nodup → ∃ l', mergeK (kvI l) (kvI r) = kvI l' ∧ l'.length ≤ l.length + r.length ∧ ((l.map (·.1)).Nodup → (l'.map (·.1)).Nodup) ∧ ∀ z, lk l' z = (lk r z).or (lk l z)
  | [], l, _ => ⟨l, rfl, by simp, fun h => h, fun z => rfl⟩
  | (x, y) :: r, l, nd => by
    rw [List.map_cons, List.nodup_cons] at nd
    obtain ⟨l1, e1, n1, d1, k1⟩ := putK_lk (l := l) (x := x) (y := y)
    obtain ⟨l2, e2, n2, d2, k2⟩ := merge_lk r l1 nd.2
    refine ⟨l2, ?_, by simp; omega, fun h => d2 (d1 h), fun z => ?_⟩
    · show mergeK (putK (kvI l) (Sum.inl x) (V.int y)) (kvI r) = _
      rw [e1, e2]
    · rw [k2, k1, lk_cons]
      by_cases h : z = x
      · subst h
        rw [if_pos rfl, if_pos rfl, lk_none nd.1]
        rfl
      · have h' : ¬ x = z := fun q => h q.symm
        rw [if_neg h, if_neg h']
end
end My
namespace My
open PySem L2 U StX PM
section
variable {P : Program} {w : World} {K : PySem.W.Frag} {mg : Str → Option Value} {base : Heap}
theorem dgetI {H : Hp} {d : Addr} {l : List (Int × Int)} {f : PF} (h : H d = some (.dK (kvI l))) (di : DI l f) (x : Int) : DGet H d (.int x) ((f x).map V.int) := by
  have := DGet.k (k := Sum.inl x) h
  rw [valV_kvI, di.2] at this
  exact this
theorem lastI (pre : List Int) (z : Int) : atI ((pre ++ [z]).map V.int) (-1) = some (V.int z) := by
  rw [List.map_append]
  exact atI_last _ _
def spRow : Sp := fun vs H Q _ => ∃ d l n f e, vs = [.ref d, .int e] ∧ H d = some (.dK (kvI l)) ∧ DI l f ∧ WF n f ∧ n ≤ 300 ∧ 0 ≤ e ∧ e < n ∧
  ∀ r H' pre z, H r = none → Same H H' → H' r = some (.lst ((pre ++ [z]).map V.int)) → Row f e (pre ++ [z]) → (f z = none ∨ f z = some e) → Q (.ref r) H'
theorem ok_row_from (T : Txt K mg) : FnR P w K mg base CX0 1 T.f_row_from spRow := by
  refine T.A_row_from.ok sc_row_from (fun vs H Q E h => ?_) (fun cdv A outer s H vs Q E hr h => ?_)
  · obtain ⟨d, l, n, f, e, rfl, _⟩ := h
    rfl
  · obtain ⟨d, l, n, f, e, rfl, hd, di, wf, hn, e0, e1, q⟩ := h
    have hu := hu_of hr
    refine ⟨_, pss_cons (ps_set (i := 2) sc_row_from.nd rfl (Or.inl rfl) (pe_lst (pa_cons (pv 1) pa_nil)))
      (pss_cons (ps_while PassesOwn.never (PW.pt (pw_and (pt_cmp (pc_din hu (pe_ix ix_list (pv 2) (pe_un un_neg pe_int) (fun _ _ => rfl)) (pv 0)))
          (pw_and1 (pt_cmpR op_ne (pe_dget hu (pv 0) (pe_ix ix_list (pv 2) (pe_un un_neg pe_int) (fun _ _ => rfl)) (fun _ _ => rfl)) (pv 1) (nomark _)))))
        (pss_one (ps_expr (pe_bm PySem.F.plainAttrs_list PySem.F.slot_list_append PySem.F.type_list_append mt_append (pv 2) (pa_cons (pe_dget hu (pv 0) (pe_ix ix_list (pv 2) (pe_un un_neg pe_int) (fun _ _ => rfl)) (fun _ _ => rfl)) pa_nil)))))
      (pss_one (ps_ret (pv 2)))), ?_⟩
    refine ⟨_, rfl, (by show 1 ≤ sizeLine; decide), fun r hr0 => ?_⟩
    have row0 : Row f e ([] ++ [e]) := ⟨rfl, fun i a b h1 h2 => by simp at h2⟩
    refine ⟨fun m σ H' => ∃ pre z, σ = [some (.ref d), some (.int e), some (.ref r)] ∧ H' r = some (.lst ((pre ++ [z]).map V.int)) ∧ Same H H' ∧ Row f e (pre ++ [z]) ∧ m = 300 - pre.length, ⟨300, [], e, rfl, upd_same, Same.new hr0, row0, rfl⟩, ?_⟩
    rintro m σ H' ⟨pre, z, rfl, p1, p2, p3, rfl⟩
    have hd' := p2 _ _ hd
    have hlen := len_range (p3.nd wf) (p3.dom wf e0 e1)
    rw [List.length_append, List.length_singleton] at hlen
    refine ⟨_, rfl, 1, rfl, r, _, -1, .int z, rfl, rfl, SqL.of p1, lastI _ _, _, rfl, d, _, rfl, dgetI hd' di z, _, rfl, ?_⟩
    cases hz : f z with
    | none =>
      refine iteF ?_
      refine iteF ?_
      exact ⟨_, rfl, q r H' pre z hr0 p2 p1 p3 (.inl hz)⟩
    | some y =>
      refine iteT ?_
      refine ⟨_, rfl, _, rfl, 1, rfl, r, _, -1, .int z, rfl, rfl, SqL.of p1, lastI _ _, d, .int y, rfl, ?_, _, rfl, rfl, _, rfl, ?_⟩
      · have := dgetI hd' di z
        rw [hz] at this
        exact this
      have nr : d ≠ r := ne_of_none hd hr0
      refine ifN (fun hne => ?_) (fun heq => ?_)
      · have hne' : y ≠ e := fun z => hne (congrArg V.int z)
        have row' := p3.more hz hne'
        have hlen' := len_range (row'.nd wf) (row'.dom wf e0 e1)
        rw [List.length_append, List.length_append, List.length_singleton, List.length_singleton] at hlen'
        refine ⟨fun σ' H2 => ∃ m', m' < 300 - pre.length ∧ _, fun _ _ h => h, ?_⟩
        refine ⟨_, rfl, .inl ⟨rfl, _, SqL.of p1⟩, _, rfl, _, rfl, 1, rfl, r, _, -1, .int z, rfl, rfl, SqL.of p1, lastI _ _, d, .int y, rfl, ?_, r, _, .int y, rfl, rfl, p1, ?_, ?_⟩
        · have := dgetI hd' di z
          rw [hz] at this
          exact this
        · rw [List.length_map, List.length_append, List.length_singleton]
          exact small1000 (by omega)
        · refine ⟨300 - (pre ++ [z]).length, by rw [List.length_append, List.length_singleton]; omega, pre ++ [z], y, rfl, ?_, ?_, row', rfl⟩
          · rw [upd_same, List.map_append (l₁ := pre ++ [z])]
            rfl
          · intro b o h
            rw [upd_ne (ne_of_none h hr0)]
            exact p2 b o h
      · have : y = e := V.int.inj heq
        subst this
        exact ⟨_, rfl, q r H' pre z hr0 p2 p1 p3 (.inr hz)⟩
end
end My
namespace My
open PySem L2 U StX PM
/-! ### comprehensions over values and keys -/
theorem tgt_len (l : List (Int × Int)) (i : Nat) : (tgt (l.take i)).length ≤ l.length := by
  unfold tgt; rw [List.length_map, List.length_take]; omega
theorem dc_vals {d : Addr} {l : List (Int × Int)} {te : TE} {i : Nat} {tt : TT} {tk tv : TE} {vs : List Nat} {σ : L2.St} {H : Hp} {Q : VK}
    (hd : H d = some (.dK (kvI l))) (hte : ∀ H' (R : VK), R (.ref d) H' → Off d H H' → te σ H' R)
    (hw : ∀ a, wipe ((wipe σ vs).set i a) vs = wipe σ vs)
    (ht : ∀ (y : Int) (H1 : Hp) (R : Bool → Hp → Prop), R true H1 → tt ((wipe σ vs).set i (some (.int y))) H1 R) (hk : ∀ (y : Int) (H1 : Hp) (R : VK), R (.int y) H1 → tk ((wipe σ vs).set i (some (.int y))) H1 R) (hv : ∀ (y : Int) (H1 : Hp) (R : VK), R (.bl true) H1 → tv ((wipe σ vs).set i (some (.int y))) H1 R)
    (nd : (l.map (·.2)).Nodup) (hz : l.length < sizeLine)
    (hq : ∀ D H', H D = none → H' D = some (.dK (tgt l)) → L2.Same H H' → Q (.ref D) H') :
    tLockE (tDc (iVals te) (gName i) tt tk tv vs) σ H Q := by
  refine ⟨d, _, hd, trivial, fun od => ?_⟩
  refine hte _ _ ⟨d, od, kvI l, rfl, upd_same, fun D hD => ?_⟩ Off.lock
  have hDd : D ≠ d := fun e => by rw [e, upd_same] at hD; cases hD
  have hD0 : H D = none := by rw [upd_ne hDd] at hD; exact hD
  refine dc_it walk_values (fun k H' => H' d = some (.frz od (.dK (kvI l))) ∧ Off d H H' ∧ H' D = some (.dK (tgt (l.take k)))) ⟨?_, Off.lock.mut hD0, upd_same⟩ (fun k H' _ p => p.1) ?_ ?_
  · rw [upd_ne hDd.symm]; exact upd_same
  · rintro k v H' H'' hk1 ⟨p1, p2, p3⟩ ⟨rfl, kk, e1⟩
    obtain ⟨x, y, exy, rfl, rfl⟩ := kvI_get e1
    refine ⟨hw _, ?_⟩
    refine ht y _ _ ?_
    refine iteT ?_
    refine hk _ _ _ (hv _ _ _ ⟨_, Sum.inl y, rfl, p3, Nat.lt_of_le_of_lt (tgt_len ..) hz, ?_⟩)
    refine ⟨?_, p2.mut hD0, ?_⟩
    · rw [upd_ne hDd.symm]; exact p1
    · have nin : y ∉ (l.take k).map (·.2) := by
        intro hm
        have e2 : l.map (·.2) = (l.take k).map (·.2) ++ (l.drop k).map (·.2) := by rw [← List.map_append, List.take_append_drop]
        rw [e2, List.nodup_append] at nd
        refine nd.2.2 _ hm y (List.mem_map.mpr ⟨(x, y), ?_, rfl⟩) rfl
        refine List.mem_iff_getElem?.mpr ⟨0, ?_⟩
        rw [List.getElem?_drop]
        exact exy
      rw [upd_same, putK_new _ (valV_none fun z => nin (tgt_key.mp z)), take_more exy]
      unfold tgt
      rw [List.map_append]
      rfl
  · rintro H' ⟨p1, p2, p3⟩
    rw [kvI_length, List.take_length] at p3
    refine ⟨p1, hq D _ hD0 ?_ (p2.back hd)⟩
    rw [upd_ne hDd]
    exact p3
theorem lc_keys {d : Addr} {l : List (Int × Int)} {te : TE} {i : Nat} {tt : TT} {tv : TE} {vs : List Nat} {σ : L2.St} {H : Hp} {Q : VK} (c : Int → Bool) (vf : Int → V)
    (hd : H d = some (.dK (kvI l))) (hte : ∀ H' (R : VK), R (.ref d) H' → Off d H H' → te σ H' R)
    (hw : ∀ a, wipe ((wipe σ vs).set i a) vs = wipe σ vs)
    (hb : ∀ (x : Int) (H1 : Hp), Off d H H1 → (∀ R : Bool → Hp → Prop, R (c x) H1 → tt ((wipe σ vs).set i (some (.int x))) H1 R) ∧ (∀ R : VK, R (vf x) H1 → tv ((wipe σ vs).set i (some (.int x))) H1 R))
    (hz : l.length < sizeLine)
    (hq : ∀ D H', H D = none → H' D = some (.lst (madeL (fun x _ => c x) (fun x _ => vf x) l)) → L2.Same H H' → Q (.ref D) H') :
    tLockE (tLc (iKeys te) (gName i) tt tv vs) σ H Q := by
  refine ⟨d, _, hd, trivial, fun od => ?_⟩
  refine hte _ _ ⟨d, od, rfl, .inl ⟨kvI l, upd_same, fun D hD => ?_⟩⟩ Off.lock
  have hDd : D ≠ d := fun e => by rw [e, upd_same] at hD; cases hD
  have hD0 : H D = none := by rw [upd_ne hDd] at hD; exact hD
  refine lc_it walk_keys (fun k H' => H' d = some (.frz od (.dK (kvI l))) ∧ Off d H H' ∧ H' D = some (.lst (madeL (fun x _ => c x) (fun x _ => vf x) (l.take k)))) ⟨?_, Off.lock.mut hD0, upd_same⟩ (fun k H' _ p => p.1) ?_ ?_
  · rw [upd_ne hDd.symm]; exact upd_same
  · rintro k v H' H'' hk1 ⟨p1, p2, p3⟩ ⟨rfl, kk, vv, e1, rfl⟩
    obtain ⟨x, y, exy, rfl, rfl⟩ := kvI_get e1
    refine ⟨hw _, ?_⟩
    obtain ⟨b1, b2⟩ := hb x _ p2
    refine b1 _ ?_
    have st := madeL_step (c := fun x _ => c x) (vf := fun x _ => vf x) exy
    cases hc : c x with
    | true =>
      rw [hc, if_pos rfl] at st
      refine iteT (b2 _ ⟨_, p3, Nat.lt_of_le_of_lt (madeL_len ..) hz, ?_⟩)
      refine ⟨?_, p2.mut hD0, ?_⟩
      · rw [upd_ne hDd.symm]; exact p1
      · rw [upd_same, st]
    | false =>
      rw [hc, if_neg Bool.false_ne_true, List.append_nil] at st
      refine iteF ⟨p1, p2, ?_⟩
      rw [st]
      exact p3
  · rintro H' ⟨p1, p2, p3⟩
    rw [kvI_length, List.take_length] at p3
    refine ⟨p1, hq D _ hD0 ?_ (p2.back hd)⟩
    rw [upd_ne hDd]
    exact p3
/-! ### seen and found -/
def kvB (sl : List Int) : List (Key × V) := sl.map fun x => (Sum.inl x, V.bl true)
theorem kvB_key {sl : List Int} {x : Int} : (Sum.inl x : Key) ∈ (kvB sl).map (·.1) ↔ x ∈ sl := by
  unfold kvB
  rw [List.map_map]
  constructor
  · intro h
    obtain ⟨p, hp, e⟩ := List.mem_map.mp h
    cases Sum.inl.inj e
    exact hp
  · intro h
    exact List.mem_map.mpr ⟨x, h, rfl⟩
theorem kvB_val (sl : List Int) (x : Int) : (valV (kvB sl) (Sum.inl x : Key)).isSome = decide (x ∈ sl) := by
  by_cases h : x ∈ sl
  · rw [decide_eq_true h, ← valV_any, List.any_eq_true]
    exact ⟨(Sum.inl x, V.bl true), List.mem_map.mpr ⟨x, h, rfl⟩, by simp⟩
  · rw [decide_eq_false h, valV_none fun z => h (kvB_key.mp z)]
    rfl
theorem kvB_put (sl : List Int) (x : Int) : ∃ sl', putK (kvB sl) (Sum.inl x : Key) (V.bl true) = kvB sl' ∧ (∀ z, z ∈ sl' ↔ z ∈ sl ∨ z = x) ∧ (sl.Nodup → sl'.Nodup) := by
  by_cases h : x ∈ sl
  · refine ⟨sl, ?_, fun z => ⟨.inl, fun hz => ?_⟩, id⟩
    · unfold putK
      have e : ((kvB sl).any fun kv => decide (kv.1 = (Sum.inl x : Key))) = true := by
        rw [valV_any, kvB_val, decide_eq_true h]
      rw [if_pos e]
      unfold kvB
      rw [List.map_map]
      refine List.map_congr_left fun a _ => ?_
      show (if (Sum.inl a : Key) = Sum.inl x then ((Sum.inl a : Key), V.bl true) else (Sum.inl a, V.bl true)) = _
      split <;> rfl
    · rcases hz with hz | rfl
      · exact hz
      · exact h
  · refine ⟨sl ++ [x], ?_, fun z => by simp, fun nd => ?_⟩
    · rw [putK_new _ (valV_none fun z => h (kvB_key.mp z))]
      unfold kvB
      rw [List.map_append]
      rfl
    · rw [List.nodup_append]
      refine ⟨nd, by simp, fun a ha b hb e => ?_⟩
      simp at hb
      subst hb
      exact h (e ▸ ha)
structure Fnd (n : Int) (f : PF) (k : Nat) (fl : List (Int × Int)) (sl : List Int) : Prop where
  nd : (fl.map (·.1)).Nodup
  at_ : ∀ x, lk fl x = if x ∈ sl then iter f k x else none
  sn : sl.Nodup
  dm : ∀ x ∈ sl, 0 ≤ x ∧ x < n
theorem Fnd.len {n : Int} {f : PF} {k : Nat} {fl : List (Int × Int)} {sl : List Int} (h : Fnd n f k fl sl) : fl.length ≤ n.toNat := by
  have := len_range (n := n) h.nd (fun x hx => by
    obtain ⟨⟨a, b⟩, hp, rfl⟩ := List.mem_map.mp hx
    have e := lk_some h.nd hp
    rw [h.at_] at e
    by_cases hm : a ∈ sl
    · exact h.dm _ hm
    · rw [if_neg hm] at e; cases e)
  rw [List.length_map] at this
  exact this
theorem Fnd.slen {n : Int} {f : PF} {k : Nat} {fl : List (Int × Int)} {sl : List Int} (h : Fnd n f k fl sl) : sl.length ≤ n.toNat := len_range h.sn h.dm
theorem Fnd.put {n : Int} {f : PF} {k : Nat} {fl fl' : List (Int × Int)} {sl sl' : List Int} {x y : Int} (h : Fnd n f k fl sl) (h1 : ∀ z, z ∈ sl' ↔ z ∈ sl ∨ z = x) (h2 : sl.Nodup → sl'.Nodup) (hx : 0 ≤ x ∧ x < n)
    (e : iter f k x = some y) (n1 : (fl.map (·.1)).Nodup → (fl'.map (·.1)).Nodup) (a1 : ∀ z, lk fl' z = if z = x then some y else lk fl z) : Fnd n f k fl' sl' := by
  refine ⟨n1 h.nd, fun z => ?_, h2 h.sn, fun z hz => ?_⟩
  · rw [a1]
    by_cases hz : z = x
    · subst hz
      rw [if_pos rfl, if_pos ((h1 z).mpr (.inr rfl)), e]
    · rw [if_neg hz, h.at_]
      by_cases hs : z ∈ sl
      · rw [if_pos hs, if_pos ((h1 z).mpr (.inl hs))]
      · rw [if_neg hs, if_neg fun q => ((h1 z).mp q).elim hs hz]
  · rcases (h1 z).mp hz with q | rfl
    · exact h.dm z q
    · exact hx
theorem Fnd.skip {n : Int} {f : PF} {k : Nat} {fl : List (Int × Int)} {sl sl' : List Int} {x : Int} (h : Fnd n f k fl sl) (h1 : ∀ z, z ∈ sl' ↔ z ∈ sl ∨ z = x) (h2 : sl.Nodup → sl'.Nodup) (hx : 0 ≤ x ∧ x < n)
    (e : iter f k x = none) : Fnd n f k fl sl' := by
  refine ⟨h.nd, fun z => ?_, h2 h.sn, fun z hz => ?_⟩
  · rw [h.at_]
    by_cases hs : z ∈ sl
    · rw [if_pos hs, if_pos ((h1 z).mpr (.inl hs))]
    · rw [if_neg hs]
      by_cases hz : z = x
      · subst hz
        rw [if_pos ((h1 z).mpr (.inr rfl)), e]
      · rw [if_neg fun q => ((h1 z).mp q).elim hs hz]
  · rcases (h1 z).mp hz with q | rfl
    · exact h.dm z q
    · exact hx
theorem Fnd.di {n : Int} {f : PF} {k : Nat} {fl : List (Int × Int)} {sl : List Int} (h : Fnd n f (k + 1) fl sl) (all : ∀ x y, f x = some y → x ∈ sl) : DI fl (iter f (k + 1)) := by
  refine ⟨h.nd, fun x => ?_⟩
  rw [h.at_]
  by_cases hs : x ∈ sl
  · rw [if_pos hs]
  · rw [if_neg hs, iter_head]
    cases e : f x with
    | none => rfl
    | some y => exact absurd (all x y e) hs
end My
namespace My
open PySem L2 U StX PM
section
variable {P : Program} {w : World} {K : PySem.W.Frag} {mg : Str → Option Value} {base : Heap}
def spMoved : Sp := fun vs H Q _ => ∃ d l n f, ∃ k : Nat, vs = [.ref d, .int ((k + 1 : Nat) : Int)] ∧ H d = some (.dK (kvI l)) ∧ DI l f ∧ WF n f ∧ n ≤ 300 ∧ l.length ≤ 300 ∧
  ∀ r H' l', H r = none → Same H H' → H' r = some (.dK (kvI l')) → DI l' (iter f (k + 1)) → l'.length ≤ 300 → Q (.ref r) H'
theorem get_map {xs : List Int} {i : Nat} {a : Int} (h : xs[i]? = some a) : (xs.map V.int)[i]? = some (V.int a) := by
  rw [List.getElem?_map, h]; rfl
theorem for_cat {K : PySem.W.Frag} {t u : TE} {g : TG} {tb : TS} {D : Ends} {σ : L2.St} {H : Hp} (h : tLockE t σ H (fun x H1 => u σ H1 fun y H2 => rCat x y H2 fun z H3 => ∃ a, z = .ref a ∧ (∃ xs, SqL K H3 a xs) ∧ tFor (fun _ H R => R (Itl K a) H) g tb D σ H3)) :
    tFor (iList K (tOp rCat (tLockE t) u)) g tb D σ H := h
theorem Same.put {H H' : Hp} {p : Addr} {o : HO} (s : Same H H') (h : H p = none) : Same H (upd H' p o) := fun b u e => by rw [upd_ne (ne_of_none e h)]; exact s b u e
theorem at_mod {row : List Int} {j k : Nat} {y : Int} (h : row[(j + k) % row.length]? = some y) : atI (row.map V.int) ((((j : Nat) : Int) + ((k : Nat) : Int)) % (((row.map V.int).length : Nat) : Int)) = some (V.int y) := by
  have e : (((j : Nat) : Int) + ((k : Nat) : Int)) % (((row.map V.int).length : Nat) : Int) = (((j + k) % row.length : Nat) : Int) := by
    rw [List.length_map]
    push_cast
    rfl
  rw [e]
  exact atI_nat (get_map h)
theorem at_add {row : List Int} {j k : Nat} {y : Int} (h : row[j + k]? = some y) : atI (row.map V.int) (((j : Nat) : Int) + ((k : Nat) : Int)) = some (V.int y) := by
  have e : (((j : Nat) : Int) + ((k : Nat) : Int)) = ((j + k : Nat) : Int) := by
    push_cast
    rfl
  rw [e]
  exact atI_nat (get_map h)
theorem srcs {l : List (Int × Int)} {f : PF} (di : DI l f) {c : Int → Bool} {v : V} (h : v ∈ madeL (fun x _ => c x) (fun x _ => V.int x) l ++ (kvI l).map (fun kv => kV kv.1)) : ∃ x y, v = .int x ∧ f x = some y := by
  rcases List.mem_append.mp h with h | h
  · unfold madeL at h
    obtain ⟨⟨x, y⟩, hp, rfl⟩ := List.mem_map.mp h
    exact ⟨x, y, rfl, di.mem.mp (List.mem_filter.mp hp).1⟩
  · unfold kvI at h
    rw [List.map_map] at h
    obtain ⟨⟨x, y⟩, hp, rfl⟩ := List.mem_map.mp h
    exact ⟨x, y, rfl, di.mem.mp hp⟩
theorem srcs_all {l : List (Int × Int)} {f : PF} (di : DI l f) {c : Int → Bool} {x y : Int} (h : f x = some y) : V.int x ∈ madeL (fun x _ => c x) (fun x _ => V.int x) l ++ (kvI l).map (fun kv => kV kv.1) := by
  refine List.mem_append.mpr (.inr ?_)
  unfold kvI
  rw [List.map_map]
  exact List.mem_map.mpr ⟨(x, y), di.mem.mpr h, rfl⟩
theorem ok_moved (T : Txt K mg) : FnR P w K mg base CX0 2 T.f_moved spMoved := by
  refine T.A_moved.ok sc_moved (fun vs H Q E h => ?_) (fun cdv A outer s H vs Q E hr h => ?_)
  · obtain ⟨d, l, n, f, k, rfl, _⟩ := h
    rfl
  · obtain ⟨d, l, n, f, k, rfl, hd, di, wf, hn, hl, q⟩ := h
    have hu := hu_of hr
    refine ⟨_, pss_cons (ps_set (i := 2) sc_moved.nd rfl (Or.inl rfl) pe_dnewK)
      (pss_cons (ps_set (i := 3) sc_moved.nd rfl (Or.inl rfl) pe_dnewK)
      (pss_cons (ps_set (i := 4) sc_moved.nd rfl (Or.inr rfl) (pe_lock (pe_dc (own := [("target", 10)]) (g := gName 10) (tt := tYes) rfl sc_moved.nd (pi_values (pv 0))
          (blkOk_by (own := [("target", 10)]) (N := n_moved) (sc := defScope s_moved) (by decide +kernel))
          (fun _ _ _ _ _ => pg_name (i := 10) sc_moved.nd rfl (Or.inl rfl)) (fun _ _ _ _ _ => pts_nil) (fun _ _ _ _ _ => pv 10) (fun _ _ _ _ _ => pe_bl))))
      (pss_cons (ps_for PassesOwn.never rfl (pi_list (pe_op op_cat (pe_lock (pe_lc (own := [("element", 9)]) (g := gName 9) rfl sc_moved.nd (pi_keys (pv 0))
          (blkOk_by (own := [("element", 9)]) (N := n_moved) (sc := defScope s_moved) (by decide +kernel))
          (fun _ _ _ _ _ => pg_name (i := 9) sc_moved.nd rfl (Or.inl rfl)) (fun _ _ _ _ _ => pts_one (pt_cmp (pc_dnotin hu (pv 9) (pv 4)))) (fun _ _ _ _ _ => pv 9)))
          (pe_callTy (call_list_dK rfl) (by rfl) T.n_list (by decide +kernel) (pa_cons (pv 0) pa_nil)))) (pg_name (i := 5) sc_moved.nd rfl (Or.inl rfl))
        (pss_one (ps_if (pt_cmp (pc_dnotin hu (pv 5) (pv 3)))
          (pss_cons (ps_set (i := 6) sc_moved.nd rfl (Or.inl rfl) (pe_callR (ok_row_from T) hr T.A_row_from.kp rfl T.g_row_from pass0 (pa_cons (pv 0) (pa_cons (pv 5) pa_nil))))
          (pss_cons (ps_set (i := 7) sc_moved.nd rfl (Or.inl rfl) (pe_cmp (pc_din hu (pe_ix ix_list (pv 6) (pe_un un_neg pe_int) (fun _ _ => rfl)) (pv 0))))
          (pss_one (ps_for PassesOwn.never rfl (pi_enum rfl T.n_enumerate (pa_cons (pv 6) pa_nil)) (pg_tup rfl (pgs_cons (pg_name (i := 8) sc_moved.nd rfl (Or.inl rfl)) (pgs_cons (pg_name (i := 9) sc_moved.nd rfl (Or.inl rfl)) pgs_nil)))
            (pss_cons (ps_dput hu (pv 3) (pv 9) pe_bl rfl)
            (pss_one (ps_if (pt_val (pv 7))
              (pss_one (ps_dput hu (pv 2) (pv 9) (pe_ix ix_list (pv 6) (pe_op op_mod (pe_op op_add (pv 8) (pv 1)) (pe_callB call_len_seq (by rfl) T.n_len (by decide +kernel) (pa_cons (pv 6) pa_nil))) (fun _ _ => rfl)) rfl))
              (pss_one (ps_if (pt_cmpR op_lt (pe_op op_add (pv 8) (pv 1)) (pe_callB call_len_seq (by rfl) T.n_len (by decide +kernel) (pa_cons (pv 6) pa_nil)) (nomark _))
                (pss_one (ps_dput hu (pv 2) (pv 9) (pe_ix ix_list (pv 6) (pe_op op_add (pv 8) (pv 1)) (fun _ _ => rfl)) rfl)) pss_nil))))))))) pss_nil)))
      (pss_one (ps_ret (pv 2)))))), ?_⟩
    intro fo hfo
    intro se hse
    have nfs : fo ≠ se := ne_of_none upd_same hse
    have s1 : Same H (upd (upd H fo (.dK [])) se (.dK [])) := (Same.new hfo).trans (Same.new hse)
    have se0 : H se = none := (Same.new hfo).free hse
    have fo1 : (upd (upd H fo (.dK [])) se (.dK [])) fo = some (.dK (kvI [])) := by rw [upd_ne nfs, upd_same]; rfl
    have se1 : (upd (upd H fo (.dK [])) se (.dK [])) se = some (.dK (kvB [])) := upd_same
    have vnd := di.vals wf
    refine dc_vals (s1 _ _ hd) (fun H' R r o => ⟨_, rfl, r⟩) (fun _ => rfl) (fun _ _ _ r => r) (fun _ _ _ r => ⟨_, rfl, r⟩) (fun _ _ _ r => r) vnd (small1000 (by omega)) (fun tg H2 ntg htg s2 => ?_)
    have s12 := s1.trans s2
    have cd : ∀ (x : Int) (H1 : Hp), H1 tg = some (.dK (tgt l)) → DGet H1 tg (.int x) (valV (tgt l) (Sum.inl x)) := fun x H1 h => DGet.k (k := Sum.inl x) h
    have ntd : tg ≠ d := fun e => by rw [e, s1 _ _ hd] at ntg; cases ntg
    dsimp only [tSeq]
    refine for_cat ?_
    refine lc_keys (fun x => !decide (x ∈ l.map (·.2))) (fun x => .int x) (s12 _ _ hd) (fun H' R r o => ⟨_, rfl, r⟩) (fun _ => rfl) (fun x H1 o => ⟨fun R r => ?_, fun R r => ⟨_, rfl, r⟩⟩) (small1000 (by omega)) (fun L1 H3 nL1 hL1 s3 => ?_)
    · refine ⟨_, rfl, _, rfl, tg, _, rfl, cd x H1 (o _ _ ntd htg), _, rfl, ?_⟩
      rw [tgt_val]
      exact r
    have s13 := s12.trans s3
    refine ⟨_, rfl, d, _, rfl, s13 _ _ hd, fun L2 hL2 => ?_⟩
    have hlen1 := madeL_len (fun x _ => !decide (x ∈ l.map (·.2))) (fun x _ => V.int x) l l.length
    rw [List.take_length] at hlen1
    refine ⟨L1, L2, _, _, rfl, rfl, (by rw [upd_ne (ne_of_none hL1 hL2)]; exact hL1), upd_same, ?_, fun L3 hL3 => ?_⟩
    · rw [List.length_map, kvI_length]
      exact Nat.le_trans (by omega : _ ≤ 1000) (by decide)
    have s14 : Same H (upd H3 L2 (.lst ((kvI l).map fun kv => kV kv.1))) := s13.trans (Same.new hL2)
    have L30 : H L3 = none := s14.free hL3
    obtain ⟨S, eS⟩ : ∃ S, S = madeL (fun x _ => !decide (x ∈ l.map (·.2))) (fun x _ => V.int x) l ++ (kvI l).map (fun kv => kV kv.1) := ⟨_, rfl⟩
    have hS1 : ∀ v ∈ S, ∃ x y, v = .int x ∧ f x = some y := fun v hv => srcs di (eS ▸ hv)
    have hS2 : ∀ x y, f x = some y → V.int x ∈ S := fun x y h => eS ▸ srcs_all di h
    rw [← eS]
    refine ⟨L3, rfl, ⟨_, SqL.of upd_same⟩, ?_⟩
    have fo4 : (upd (upd H3 L2 (.lst ((kvI l).map fun kv => kV kv.1))) L3 (.lst S)) fo = some (.dK (kvI [])) := ((s2.trans s3).trans ((Same.new hL2).trans (Same.new hL3))) _ _ fo1
    have se4 : (upd (upd H3 L2 (.lst ((kvI l).map fun kv => kV kv.1))) L3 (.lst S)) se = some (.dK (kvB [])) := ((s2.trans s3).trans ((Same.new hL2).trans (Same.new hL3))) _ _ se1
    have nLf : L3 ≠ fo := fun e => by
      have := ((s2.trans s3).trans (Same.new (o := .lst ((kvI l).map fun kv => kV kv.1)) hL2)) _ _ fo1
      rw [← e, hL3] at this; cases this
    have nLs : L3 ≠ se := fun e => by
      have := ((s2.trans s3).trans (Same.new (o := .lst ((kvI l).map fun kv => kV kv.1)) hL2)) _ _ se1
      rw [← e, hL3] at this; cases this
    refine for_it (walk_list (xs := S)) (fun i σ H' => ∃ v5 v6 v7 v8 v9 v10 fl sl, σ = [some (.ref d), some (.int ((k + 1 : Nat) : Int)), some (.ref fo), some (.ref se), some (.ref tg), v5, v6, v7, v8, v9, v10] ∧ Same H H' ∧ H' L3 = some (.lst S) ∧ H' fo = some (.dK (kvI fl)) ∧ H' se = some (.dK (kvB sl)) ∧ Fnd n f (k + 1) fl sl ∧ ∀ x, V.int x ∈ S.take i → x ∈ sl)
      ⟨none, none, none, none, none, none, [], [], rfl, Same.put s14 L30, upd_same, fo4, se4, ⟨List.nodup_nil, fun _ => rfl, List.nodup_nil, fun _ h => nomatch h⟩, fun x h => by simp at h⟩ (fun i σ H' _ ⟨_, _, _, _, _, _, _, _, _, _, p, _⟩ => SqL.of p) ?_ ?_
    · rintro i v σ H' H'' hi ⟨v5, v6, v7, v8, v9, v10, fl, sl, rfl, p1, p2, p3, p4, p5, p6⟩ ⟨rfl, ev⟩
      obtain ⟨x, y, rfl, hxy⟩ := hS1 v (List.mem_of_getElem? ev)
      have hdx := wf.dom x y hxy
      have hd' := p1 _ _ hd
      refine ⟨_, rfl, _, rfl, se, _, rfl, DGet.k (k := Sum.inl x) p4, _, rfl, ?_⟩
      rw [kvB_val]
      refine ifNB (fun hc => ?_) (fun hc => ?_)
      · refine ⟨_, rfl, _, rfl, d, l, n, f, x, rfl, hd', di, wf, hn, hdx.1, hdx.2.1, fun r H2 pre z hr0 sr hr2 row ho => ?_⟩
        have q1 := p1.trans sr
        refine ⟨_, rfl, 1, rfl, r, _, -1, .int z, rfl, rfl, SqL.of hr2, lastI _ _, _, rfl, d, _, rfl, dgetI (q1 _ _ hd) di z, ?_⟩
        refine ⟨_, rfl, r, _, rfl, SqL.of hr2, ?_⟩
        have r0 : H r = none := p1.free hr0
        have nrL : r ≠ L3 := fun e => by rw [e, p2] at hr0; cases hr0
        have nrf : r ≠ fo := fun e => by rw [e, p3] at hr0; cases hr0
        have nrs : r ≠ se := fun e => by rw [e, p4] at hr0; cases hr0
        have hlast : (pre ++ [z])[(pre ++ [z]).length - 1]? = some z := by simp
        have hpos : 0 < (pre ++ [z]).length := by simp
        refine for_it (walk_enum (xs := (pre ++ [z]).map V.int)) (fun j σ H3 => ∃ v8 v9 fl' sl', σ = [some (.ref d), some (.int ((k + 1 : Nat) : Int)), some (.ref fo), some (.ref se), some (.ref tg), some (.int x), some (.ref r), some (.bl ((f z).map V.int).isSome), v8, v9, v10] ∧ Same H H3 ∧ H3 L3 = some (.lst S) ∧ H3 r = some (.lst ((pre ++ [z]).map V.int)) ∧ H3 fo = some (.dK (kvI fl')) ∧ H3 se = some (.dK (kvB sl')) ∧ Fnd n f (k + 1) fl' sl' ∧ (∀ a ∈ sl, a ∈ sl') ∧ ∀ a ∈ (pre ++ [z]).take j, a ∈ sl')
          ⟨v8, v9, fl, sl, rfl, q1, sr _ _ p2, hr2, sr _ _ p3, sr _ _ p4, p5, fun _ h => h, fun a h => by simp at h⟩ (fun j σ H3 _ ⟨_, _, _, _, _, _, _, p, _⟩ => SqL.of p) ?_ ?_
        · rintro j v σ H3 H4 hj ⟨w8, w9, fl', sl', rfl, t1, t2, t3, t4, t5, t6, t7, t8⟩ ⟨U, a, b, rfl, hU, rfl, e1, e2⟩
          rw [List.length_map] at hj
          obtain ⟨a0, ea⟩ : ∃ a, (pre ++ [z])[j]? = some a := ⟨_, List.getElem?_eq_getElem hj⟩
          dsimp only at e1 e2
          rw [get_map ea] at e2
          cases e1; cases e2
          have hda := row.dom wf hdx.1 hdx.2.1 a0 (List.mem_of_getElem? ea)
          refine ⟨U, [.int (j : Int), .int a0], rfl, SqT.of upd_same, rfl, .int (j : Int), [.int a0], rfl, .int a0, [], rfl, rfl, ?_⟩
          have u1 : Same H (upd H3 U (.tup [.int (j : Int), .int a0])) := t1.trans (Same.new hU)
          have u2 : (upd H3 U (.tup [.int (j : Int), .int a0])) L3 = _ := (Same.new hU) _ _ t2
          have u3 : (upd H3 U (.tup [.int (j : Int), .int a0])) r = _ := (Same.new hU) _ _ t3
          have u4 : (upd H3 U (.tup [.int (j : Int), .int a0])) fo = _ := (Same.new hU) _ _ t4
          have u5 : (upd H3 U (.tup [.int (j : Int), .int a0])) se = _ := (Same.new hU) _ _ t5
          have hsl := t6.slen
          have hfl := t6.len
          refine ⟨_, rfl, _, rfl, se, _, rfl, DPut.k (k := Sum.inl a0) u5 (small1000 (by unfold kvB; rw [List.length_map]; omega)), ?_⟩
          obtain ⟨sl2, es, hs1, hs2⟩ := kvB_put sl' a0
          rw [es]
          obtain ⟨H5, eH5⟩ : ∃ H5, H5 = upd (upd H3 U (.tup [.int (j : Int), .int a0])) se (.dK (kvB sl2)) := ⟨_, rfl⟩
          have w1 : Same H H5 := by rw [eH5]; exact Same.put u1 se0
          have w2 : H5 L3 = some (.lst S) := by rw [eH5, upd_ne nLs]; exact u2
          have w3 : H5 r = some (.lst ((pre ++ [z]).map V.int)) := by rw [eH5, upd_ne nrs]; exact u3
          have w4 : H5 fo = some (.dK (kvI fl')) := by rw [eH5, upd_ne nfs]; exact u4
          have w5 : H5 se = some (.dK (kvB sl2)) := by rw [eH5, upd_same]
          have m1 : ∀ a ∈ sl, a ∈ sl2 := fun a h => (hs1 a).mpr (.inl (t7 a h))
          have m2 : ∀ a ∈ (pre ++ [z]).take (j + 1), a ∈ sl2 := by
            intro a ha
            rw [take_more ea] at ha
            rcases List.mem_append.mp ha with h | h
            · exact (hs1 a).mpr (.inl (t8 a h))
            · simp at h
              exact (hs1 a).mpr (.inr h)
          rw [← eH5]
          refine ⟨_, rfl, _, rfl, ?_⟩
          rcases ho with ho | ho
          · rw [ho]
            refine iteF ?_
            have op := row.openAt hlast hpos ho j a0 ea (k + 1)
            refine ⟨_, rfl, _, rfl, _, _, rfl, rfl, _, rfl, r, _, rfl, .inl (SqL.of w3), _, _, rfl, rfl, _, rfl, ?_⟩
            refine ifD (fun hlt => ?_) (fun hge => ?_)
            · obtain ⟨y2, ey2⟩ : ∃ y2, (pre ++ [z])[j + (k + 1)]? = some y2 := ⟨_, List.getElem?_eq_getElem (by rw [List.length_map] at hlt; omega)⟩
              refine ⟨_, rfl, _, rfl, _, rfl, _, _, rfl, rfl, r, _, _, .int y2, rfl, rfl, SqL.of w3, at_add ey2, _, rfl, _, rfl, fo, _, rfl, DPut.k (k := Sum.inl a0) w4 (small1000 (by rw [kvI_length]; omega)), ?_⟩
              obtain ⟨fl2, ef, _, fn, fa⟩ := putK_lk (l := fl') (x := a0) (y := y2)
              rw [ef]
              rw [ey2] at op
              refine ⟨_, _, fl2, sl2, rfl, Same.put w1 hfo, ?_, ?_, upd_same, ?_, t6.put hs1 hs2 hda op fn fa, m1, m2⟩
              · rw [upd_ne nLf]; exact w2
              · rw [upd_ne nrf]; exact w3
              · rw [upd_ne nfs.symm]; exact w5
            · have : (pre ++ [z])[j + (k + 1)]? = none := List.getElem?_eq_none (by rw [List.length_map] at hge; omega)
              rw [this] at op
              exact ⟨_, _, fl', sl2, rfl, w1, w2, w3, w4, w5, t6.skip hs1 hs2 hda op, m1, m2⟩
          · rw [ho]
            refine iteT ?_
            have cl := row.closedAt hlast hpos ho j a0 ea (k + 1)
            obtain ⟨y2, ey2⟩ : ∃ y2, (pre ++ [z])[(j + (k + 1)) % (pre ++ [z]).length]? = some y2 := ⟨_, List.getElem?_eq_getElem (Nat.mod_lt _ hpos)⟩
            refine ⟨_, rfl, _, rfl, _, rfl, _, _, rfl, rfl, _, rfl, r, _, rfl, .inl (SqL.of w3), _, _, rfl, rfl, ?_, r, _, _, .int y2, rfl, rfl, SqL.of w3, at_mod ey2, _, rfl, _, rfl, fo, _, rfl, DPut.k (k := Sum.inl a0) w4 (small1000 (by rw [kvI_length]; omega)), ?_⟩
            · rw [List.length_map]
              omega
            obtain ⟨fl2, ef, _, fn, fa⟩ := putK_lk (l := fl') (x := a0) (y := y2)
            rw [ef]
            rw [ey2] at cl
            refine ⟨_, _, fl2, sl2, rfl, Same.put w1 hfo, ?_, ?_, upd_same, ?_, t6.put hs1 hs2 hda cl fn fa, m1, m2⟩
            · rw [upd_ne nLf]; exact w2
            · rw [upd_ne nrf]; exact w3
            · rw [upd_ne nfs.symm]; exact w5
        · rintro σ H3 ⟨w8, w9, fl', sl', rfl, t1, t2, t3, t4, t5, t6, t7, t8⟩
          rw [List.length_map, List.take_length] at t8
          refine ⟨_, _, _, _, _, _, fl', sl', rfl, t1, t2, t4, t5, t6, fun a ha => ?_⟩
          rw [take_more ev] at ha
          rcases List.mem_append.mp ha with h | h
          · exact t7 a (p6 a h)
          · simp at h
            subst h
            exact t8 a (List.mem_of_getElem? row.h0)
      · refine ⟨_, _, _, _, _, _, fl, sl, rfl, p1, p2, p3, p4, p5, fun a ha => ?_⟩
        rw [take_more ev] at ha
        rcases List.mem_append.mp ha with h | h
        · exact p6 a h
        · simp at h
          subst h
          exact of_decide_eq_true hc
    · rintro σ H' ⟨v5, v6, v7, v8, v9, v10, fl, sl, rfl, p1, p2, p3, p4, p5, p6⟩
      rw [List.take_length] at p6
      have hfl := p5.len
      exact ⟨_, rfl, q fo H' fl hfo p1 p3 (p5.di fun x y h => p6 x (hS2 x y h)) (by omega)⟩
end
end My
namespace My
open PySem L2 U StX PM
/-! ### f.power(e) -/
def pw (n : Int) (f : PF) (e : Int) : PF := if e = 0 then idn n else if e < 0 then iter (inv n f) e.natAbs else iter f e.natAbs
section
variable {P : Program} {w : World} {K : PySem.W.Frag} {mg : Str → Option Value} {base : Heap}
def spPow (C : Addr) : Sp := fun vs H Q _ => ∃ a n f e, vs = [.ref a, .int e] ∧ IsMap C H a n f ∧ ∀ r H', H r = none → Same H H' → IsMap C H' r n (pw n f e) → Q (.ref r) H'
theorem ok_power (T : Txt K mg) : FnR P w K mg base CX0 7 T.f_Map_power (spPow T.C_Map) := by
  refine T.A_Map_power.ok sc_Map_power (fun vs H Q E h => ?_) (fun cdv A outer s H vs Q E hr h => ?_)
  · obtain ⟨a, n, f, e, rfl, _⟩ := h
    rfl
  · obtain ⟨a, n, f, e, rfl, ha, q⟩ := h
    have hu := hu_of hr
    refine ⟨_, pss_cons (ps_if (pt_not (pt_val (pe_callR (ok_is_integer T) (hr.mono (by decide)) T.A_is_integer.kp rfl T.g_is_integer pass0 (pa_cons (pv 1) pa_nil)))) (pss_one ps_never) pss_nil)
      (pss_cons (ps_set (i := 2) sc_Map_power.nd rfl (Or.inl rfl) (pe_fld (pv 0) rfl))
      (pss_cons (ps_if (pt_cmpR op_lt (pv 1) pe_int (nomark _)) (pss_one (ps_lock (ps_setDc (i := 2) (own := [("source", 3), ("target", 4)]) (g := gTup K 2 (gCons (gName 3) (gCons (gName 4) gNil))) (tt := tYes) rfl sc_Map_power.nd rfl rfl (sw_dict rfl rfl rfl (by decide +kernel)) (pi_items (pe_fld (pv 0) rfl))
        (blkOk_by (own := [("source", 3), ("target", 4)]) (N := n_Map_power) (sc := defScope s_Map_power) (by decide +kernel))
        (fun _ _ _ _ _ => pg_tup rfl (pgs_cons (pg_name (i := 3) sc_Map_power.nd rfl (Or.inl rfl)) (pgs_cons (pg_name (i := 4) sc_Map_power.nd rfl (Or.inl rfl)) pgs_nil)))
        (fun _ _ _ _ _ => pts_nil) (fun _ _ _ _ _ => pv 4) (fun _ _ _ _ _ => pv 3)))) pss_nil)
      (pss_cons (ps_if (pt_cmpR op_eq (pv 1) pe_int (nomark _)) (pss_one (ps_ret (ClX.pe_cmeth (pe_glob (v := .ref T.C_Map) rfl T.g_Map rfl) T.R_Map T.cm_Map_identity (ok_identity T) hr pass0 (pa_cons (pe_fld (pv 0) rfl) pa_nil)))) pss_nil)
      (pss_one (ps_ret (pe_makeR T.M_Map (ok_init T) (hr.mono (by decide)) rfl T.g_Map pass0 (pa_cons (pe_fld (pv 0) rfl) (pa_cons (pe_callR (ok_moved T) (hr.mono (by decide)) T.A_moved.kp rfl T.g_moved pass0 (pa_cons (pv 2) (pa_cons (pe_callB call_abs (by rfl) T.n_abs (by decide +kernel) (pa_cons (pv 1) pa_nil)) pa_nil))) pa_nil)))))))), ?_⟩
    obtain ⟨dx, D, h1, h2⟩ := id ha.ob
    have h9 := ha.hi
    have ht := tab_len n f
    refine ⟨_, rfl, .int e, rfl, trivial, _, rfl, iteF ?_⟩
    refine ⟨_, rfl, a, _, dx, _, _, rfl, h1, T.o_Map.cl, T.na_own_arrows_Map, flds_arrows _ _, ?_⟩
    refine ⟨_, rfl, _, _, rfl, rfl, _, rfl, ?_⟩
    refine ifD (fun hneg => ?_) (fun hpos => ?_)
    · refine lock_asg ?_
      refine dc_items (fun _ _ => true) (fun _ y => y) (fun x _ => .int x) h2 (fun H' R r o => ?_) (fun _ _ => rfl) ?_ ?_ ?_ ?_
      · refine ⟨_, rfl, a, _, dx, _, _, rfl, o _ _ (ne_of h1 h2 (by intro z; cases z)) h1, T.o_Map.cl, T.na_own_arrows_Map, flds_arrows _ _, r⟩
      · intro x y hxy H1 o
        exact ⟨fun R r => r, fun _ => ⟨fun R r => ⟨_, rfl, r⟩, fun R r => ⟨_, rfl, r⟩⟩⟩
      · rw [madeD_I, kvI_keys]
        exact nd_inl (nd_tgt (vals_tab ha.wf))
      · exact small1000 (Nat.le_trans (tab_len n f) (by omega))
      · intro D2 H2 nD2 hD2 s2
        rw [madeD_I] at hD2
        refine ⟨_, rfl, rfl, _, rfl, ?_⟩
        refine ifD (fun h0 => ?_) (fun _ => ?_)
        · have : e = 0 := V.int.inj h0
          omega
        refine ⟨_, rfl, a, _, dx, _, _, rfl, s2 _ _ h1, T.o_Map.cl, T.na_own_size_Map, flds_size _ _, ?_⟩
        have ek : (if e < 0 then -e else e) = ((e.natAbs - 1 + 1 : Nat) : Int) := by rw [if_pos hneg]; omega
        refine ⟨_, rfl, _, rfl, _, rfl, ?_⟩
        rw [ek]
        refine ⟨D2, _, n, _, _, rfl, hD2, inv_di ha.wf, wf_inv ha.wf, ha.hi, Nat.le_trans (madeI_len ..) (by omega), fun r3 H3 l3 n3 s3 hr3 di3 hl3 => ?_⟩
        have ei : pw n f e = iter (inv n f) (e.natAbs - 1 + 1) := by
          unfold pw
          rw [if_neg (by omega), if_pos hneg, show e.natAbs - 1 + 1 = e.natAbs by omega]
        refine mk_map hr3 di3 (wf_iter (wf_inv ha.wf) _) ha.lo ha.hi (by omega) fun r H5 nr s5 hm => ?_
        rw [← ei] at hm
        exact q r H5 ((s2.trans s3).free nr) ((s2.trans s3).trans s5) hm
    · refine ⟨_, rfl, rfl, _, rfl, ?_⟩
      refine ifD (fun h0 => ?_) (fun hne => ?_)
      · have e0 : e = 0 := V.int.inj h0
        refine ⟨rfl, _, rfl, a, _, dx, _, _, rfl, h1, T.o_Map.cl, T.na_own_size_Map, flds_size _ _, n, rfl, ha.lo, ha.hi, fun r H' nr s1 hm => ?_⟩
        refine q r H' nr s1 ?_
        unfold pw
        rw [if_pos e0]
        exact hm
      · have hne' : e ≠ 0 := fun z => hne (congrArg V.int z)
        refine ⟨_, rfl, a, _, dx, _, _, rfl, h1, T.o_Map.cl, T.na_own_size_Map, flds_size _ _, ?_⟩
        have ek : (if e < 0 then -e else e) = ((e.natAbs - 1 + 1 : Nat) : Int) := by rw [if_neg hpos]; omega
        refine ⟨_, rfl, _, rfl, _, rfl, ?_⟩
        rw [ek]
        refine ⟨D, _, n, _, _, rfl, h2, di_tab ha.wf, ha.wf, ha.hi, by omega, fun r3 H3 l3 n3 s3 hr3 di3 hl3 => ?_⟩
        have ei : pw n f e = iter f (e.natAbs - 1 + 1) := by
          unfold pw
          rw [if_neg hne', if_neg hpos, show e.natAbs - 1 + 1 = e.natAbs by omega]
        refine mk_map hr3 di3 (wf_iter ha.wf _) ha.lo ha.hi (by omega) fun r H5 nr s5 hm => ?_
        rw [← ei] at hm
        exact q r H5 (s3.free nr) (s3.trans s5) hm
end
end My
namespace My
open PySem L2 U StX PM
/-! ### a drawn map -/
structure Drw (n : Int) (i : Nat) (l : List (Int × Int)) (ns : List Int) : Prop where
  kn : (l.map (·.1)).Nodup
  vn : (l.map (·.2)).Nodup
  nn : ns.Nodup
  lt : ∀ p ∈ l, 0 ≤ p.1 ∧ p.1 < i ∧ 0 ≤ p.2 ∧ p.2 < n
  nt : ∀ y ∈ ns, 0 ≤ y ∧ y < n ∧ y ∉ l.map (·.2)
  ln : l.length ≤ i
  le : l.length + ns.length = n.toNat
theorem Drw.more {n : Int} {i : Nat} {l : List (Int × Int)} {ns : List Int} (h : Drw n i l ns) : Drw n (i + 1) l ns := by
  refine ⟨h.kn, h.vn, h.nn, fun p hp => ?_, h.nt, Nat.le_succ_of_le h.ln, h.le⟩
  have := h.lt p hp
  omega
theorem not_erase {ns : List Int} {k : Nat} {y : Int} (nd : ns.Nodup) (h : ns[k]? = some y) : y ∉ ns.eraseIdx k := by
  obtain ⟨hk, e⟩ := List.getElem?_eq_some_iff.mp h
  have e1 : ns = ns.take k ++ y :: ns.drop (k + 1) := by
    rw [← e]
    simp
  rw [List.eraseIdx_eq_take_drop_succ]
  intro hm
  rw [e1, List.nodup_append, List.nodup_cons] at nd
  rcases List.mem_append.mp hm with h1 | h1
  · exact nd.2.2 y h1 y List.mem_cons_self rfl
  · exact nd.2.1.1 h1
theorem Drw.put {n : Int} {i : Nat} {l : List (Int × Int)} {ns : List Int} (h : Drw n i l ns) {k : Nat} {y : Int} (hy : ns[k]? = some y) : Drw n (i + 1) (l ++ [((i : Int), y)]) (ns.eraseIdx k) ∧ (i : Int) ∉ l.map (·.1) := by
  have hm := h.nt y (List.mem_of_getElem? hy)
  have hi : (i : Int) ∉ l.map (·.1) := by
    intro hm
    obtain ⟨p, hp, e⟩ := List.mem_map.mp hm
    have := h.lt p hp
    omega
  obtain ⟨hk, _⟩ := List.getElem?_eq_some_iff.mp hy
  refine ⟨⟨?_, ?_, ?_, ?_, ?_, ?_, ?_⟩, hi⟩
  · rw [List.map_append, List.nodup_append]
    refine ⟨h.kn, by simp, fun a ha b hb e => ?_⟩
    simp at hb
    subst hb
    exact hi (e ▸ ha)
  · rw [List.map_append, List.nodup_append]
    refine ⟨h.vn, by simp, fun a ha b hb e => ?_⟩
    simp at hb
    subst hb
    exact hm.2.2 (e ▸ ha)
  · exact List.Sublist.nodup (List.eraseIdx_sublist _ _) h.nn
  · intro p hp
    rcases List.mem_append.mp hp with hp | hp
    · have := h.lt p hp
      omega
    · simp at hp
      subst hp
      dsimp only
      omega
  · intro z hz
    have h1 := h.nt z (List.mem_of_mem_eraseIdx hz)
    refine ⟨h1.1, h1.2.1, fun hq => ?_⟩
    rw [List.map_append] at hq
    rcases List.mem_append.mp hq with hq | hq
    · exact h1.2.2 hq
    · simp at hq
      subst hq
      exact not_erase h.nn hy hz
  · have := h.ln
    simp
    omega
  · have := h.le
    rw [List.length_append, List.length_singleton, List.length_eraseIdx, if_pos hk]
    omega
theorem two_in {l : List (Int × Int)} (vn : (l.map (·.2)).Nodup) : ∀ {x x' y : Int}, (x, y) ∈ l → (x', y) ∈ l → x = x' := by
  induction l with
  | nil => intro _ _ _ h; cases h
  | cons p r ih =>
    intro x x' y h1 h2
    rw [List.map_cons, List.nodup_cons] at vn
    rcases List.mem_cons.mp h1 with e1 | e1 <;> rcases List.mem_cons.mp h2 with e2 | e2
    · subst e1; cases e2; rfl
    · subst e1; exact absurd (List.mem_map.mpr ⟨(x', y), e2, rfl⟩) vn.1
    · subst e2; exact absurd (List.mem_map.mpr ⟨(x, y), e1, rfl⟩) vn.1
    · exact ih vn.2 e1 e2
theorem Drw.wf {n : Int} {l : List (Int × Int)} {ns : List Int} (h0 : 0 ≤ n) (h : Drw n n.toNat l ns) : WF n (lk l) := by
  refine ⟨fun x y e => ?_, fun x x' y e e' => two_in h.vn (lk_mem e) (lk_mem e')⟩
  have := h.lt _ (lk_mem e)
  dsimp only at this
  omega
theorem rg0 (n : Int) : rgV 0 n = ((List.range n.toNat).map fun (i : Nat) => (i : Int)).map V.int := by
  unfold rgV
  rw [List.map_map, show (n - 0).toNat = n.toNat by omega]
  refine List.map_congr_left fun a _ => ?_
  show V.int (0 + (a : Int)) = V.int (a : Int)
  rw [Int.zero_add]
theorem drw0 (n : Int) : Drw n 0 [] ((List.range n.toNat).map fun (i : Nat) => (i : Int)) := by
  refine ⟨List.nodup_nil, List.nodup_nil, ?_, fun p h => (nomatch h), fun y hy => ?_, Nat.le_refl _, by simp⟩
  · have := (di_id n.toNat).nd
    rw [List.map_map] at this
    exact this
  · obtain ⟨i, hi, rfl⟩ := List.mem_map.mp hy
    rw [List.mem_range] at hi
    exact ⟨by omega, by omega, by simp⟩
section
variable {P : Program} {w : World} {K : PySem.W.Frag} {mg : Str → Option Value} {base : Heap}
def PoolAt (H : Hp) (p : Addr) : Prop := ∃ a b : Int, H p = some (.lst [.int a, .int b]) ∧ 0 ≤ a ∧ 0 ≤ b ∧ b < 2147483647
theorem Off.put {p q : Addr} {H H' : Hp} {o : HO} (a : Off p H H') (h : H q = none) : Off p H (upd H' q o) := a.mut h
theorem Off.at {p : Addr} {H H' : Hp} {o : HO} (a : Off p H H') : Off p H (upd H' p o) := fun b u hb e => by rw [upd_ne hb]; exact a b u hb e
end
end My
namespace My
open PySem L2 U StX PM
/-! ### values that are no maps; check_map -/
def nonMapV (H : Hp) : V → Prop
  | .non => True | .bl _ => True | .int _ => True | .str _ => True
  | .ref a => (∃ xs, H a = some (.lst xs)) ∨ (∃ xs, H a = some (.tup xs)) ∨ (∃ kvs, H a = some (.dK kvs))
  | _ => False
def spChkM (C CE : Addr) : Sp := fun vs H Q E => ∃ x, vs = [x] ∧ ((∃ a n f, x = .ref a ∧ IsMap C H a n f ∧ Q .non H) ∨ (nonMapV H x ∧ ∀ d, H d = none → E (.ref CE) (some d) (upd H d (.xd [("part", .str "map")]))))
section
variable {P : Program} {w : World} {K : PySem.W.Frag} {mg : Str → Option Value} {base : Heap}
theorem ok_ini_InvalidMap (T : Txt K mg) : FnR P w K mg base CX0 1 T.f_InvalidMap__init (spIni1 T.C_InvalidMap "part") := by
  refine T.A_InvalidMap__init.ok sc_InvalidMap__init (fun vs H Q E h => ?_) (fun cdv A outer s H vs Q E hr h => ?_)
  · obtain ⟨a, v, rfl, _⟩ := h
    rfl
  · obtain ⟨a, v, rfl, ha, q⟩ := h
    refine ⟨_, pss_one (ps_ostG (pv 0) (pv 1)), ?_⟩
    exact ⟨_, rfl, _, rfl, a, T.C_InvalidMap, rfl, T.x_InvalidMap, T.na_part_InvalidMap, .inl ⟨ha, fun dx h1 h2 => q dx h1 h2⟩⟩
theorem ty_nonmap (T : Txt K mg) {H : Hp} {x : V} (h : nonMapV H x) : ∃ t, TyX K H x t ∧ PySem.W.kitOne K t (.ref T.C_Map) = some false := by
  cases x with
  | non => exact ⟨_, .base .non, T.kn_NoneType_Map⟩
  | bl b => exact ⟨_, .base (.bl b), T.kn_bool_Map⟩
  | int i => exact ⟨_, .base (.int i), T.kn_int_Map⟩
  | str z => exact ⟨_, .base (.str z), T.kn_str_Map⟩
  | ref a =>
    rcases h with ⟨xs, e⟩ | ⟨xs, e⟩ | ⟨xs, e⟩
    · exact ⟨_, .base (.lst e), T.kn_list_Map⟩
    · exact ⟨_, .base (.tup e), T.kn_tuple_Map⟩
    · exact ⟨_, .base (.dK e), T.kn_dict_Map⟩
  | byt b => exact h.elim
  | flt b => exact h.elim
  | ty b => exact h.elim
theorem ok_check_map (T : Txt K mg) : FnR P w K mg base (L2.CX P w) 3 T.f_check_map (spChkM T.C_Map T.C_InvalidMap) := by
  refine T.A_check_map.okX sc_check_map (fun vs H Q E h => ?_) (fun cdv A outer s H vs Q E hr h => ?_)
  · obtain ⟨x, rfl, _⟩ := h
    rfl
  · obtain ⟨x, rfl, hx⟩ := h
    refine ⟨_, pss_one (ps_if (pt_not (pt_val (pe_callB call_isi (by rfl) T.n_isinstance (by decide +kernel) (pa_cons (pv 0) (pa_cons (pe_glob (v := .ref T.C_Map) rfl T.g_Map rfl) pa_nil)))))
      (pss_one (ps_raise rfl (takes_of rfl rfl rfl rfl) (pmk_oexG T.x_InvalidMap T.m_InvalidMap__init T.ti_InvalidMap__init (ok_ini_InvalidMap T) (hr.mono (by decide)) pass0 rfl T.g_InvalidMap (pa_cons pe_str pa_nil)))) pss_nil), ?_⟩
    rcases hx with ⟨a, n, f, rfl, hm, q⟩ | ⟨hx, q⟩
    · obtain ⟨dx, fs, h1⟩ := at_map hm
      exact ⟨_, rfl, _, _, _, _, true, rfl, .own _, tyx_ins T.o_Map h1, T.self_Map, _, rfl, iteF q⟩
    · obtain ⟨t, ht, hk⟩ := ty_nonmap T hx
      exact ⟨_, rfl, _, _, _, _, false, rfl, .own _, ht, hk, _, rfl, iteT (mk_one fun d hd => q d hd)⟩
end
/-! ### lists of rows -/
def RowsAt (H : Hp) : List Addr → List (List Int) → Prop
  | [], [] => True
  | a :: as, r :: rs => H a = some (.lst (r.map V.int)) ∧ RowsAt H as rs
  | _, _ => False
theorem RowsAt.len {H : Hp} : ∀ {as : List Addr} {rs : List (List Int)}, RowsAt H as rs → as.length = rs.length
  | [], [], _ => rfl
  | _ :: as, _ :: rs, h => by rw [List.length_cons, List.length_cons, RowsAt.len h.2]
  | [], _ :: _, h => h.elim
  | _ :: _, [], h => h.elim
theorem RowsAt.map {H H' : Hp} : ∀ {as : List Addr} {rs : List (List Int)}, RowsAt H as rs → (∀ a ∈ as, ∀ xs, H a = some (.lst xs) → H' a = some (.lst xs)) → RowsAt H' as rs
  | [], [], _, _ => trivial
  | _ :: as, _ :: rs, h, k => ⟨k _ List.mem_cons_self _ h.1, RowsAt.map h.2 fun a ha => k a (List.mem_cons_of_mem _ ha)⟩
  | [], _ :: _, h, _ => h.elim
  | _ :: _, [], h, _ => h.elim
theorem RowsAt.same {H H' : Hp} {as : List Addr} {rs : List (List Int)} (h : RowsAt H as rs) (s : Same H H') : RowsAt H' as rs := h.map fun a _ xs e => s a _ e
theorem RowsAt.off {H : Hp} {as : List Addr} {rs : List (List Int)} {p : Addr} {o : HO} (h : RowsAt H as rs) (n : p ∉ as) : RowsAt (upd H p o) as rs := h.map fun a ha xs e => by
  have hne : a ≠ p := fun z => n (z ▸ ha)
  rw [upd_ne hne]; exact e
theorem RowsAt.snoc {H : Hp} {a : Addr} {r : List Int} : ∀ {as : List Addr} {rs : List (List Int)}, RowsAt H as rs → H a = some (.lst (r.map V.int)) → RowsAt H (as ++ [a]) (rs ++ [r])
  | [], [], _, e => ⟨e, trivial⟩
  | _ :: as, _ :: rs, h, e => ⟨h.1, RowsAt.snoc h.2 e⟩
  | [], _ :: _, h, _ => h.elim
  | _ :: _, [], h, _ => h.elim
theorem RowsAt.get {H : Hp} : ∀ {as : List Addr} {rs : List (List Int)}, RowsAt H as rs → ∀ (i : Nat) (a : Addr), as[i]? = some a → ∃ r, rs[i]? = some r ∧ H a = some (.lst (r.map V.int))
  | [], [], _, i, a, e => by simp at e
  | b :: as, r :: rs, h, 0, a, e => by cases e; exact ⟨r, rfl, h.1⟩
  | _ :: as, _ :: rs, h, i + 1, a, e => RowsAt.get h.2 i a e
  | [], _ :: _, h, _, _, _ => h.elim
  | _ :: _, [], h, _, _, _ => h.elim
theorem RowsAt.mem {H : Hp} {as : List Addr} {rs : List (List Int)} (h : RowsAt H as rs) {a : Addr} (ha : a ∈ as) : ∃ r ∈ rs, H a = some (.lst (r.map V.int)) := by
  obtain ⟨i, hi⟩ := List.mem_iff_getElem?.mp ha
  obtain ⟨r, e1, e2⟩ := h.get i a hi
  exact ⟨r, List.mem_of_getElem? e1, e2⟩
end My
namespace My
open PySem L2 U StX PM
section
variable {P : Program} {w : World} {K : PySem.W.Frag} {mg : Str → Option Value} {base : Heap}
structure Prt (n : Int) (f : PF) (H H' : Hp) (lh se : Addr) (ex : List Addr) (b : List Int) (hs : List Addr) (sl : List Int) (st : List Int) : Prop where
  sm : Same H H'
  l : H' lh = some (.lst (hs.map V.ref))
  s : H' se = some (.dK (kvB sl))
  r : RowsAt H' hs (st.map (rowN f))
  m : ∀ x, x ∈ sl ↔ x ∈ seenL f (b ++ st)
  nd : sl.Nodup
  nw : ∀ a ∈ hs, H a = none ∧ a ≠ lh ∧ a ≠ se ∧ a ∉ ex
theorem Prt.slen {n : Int} {f : PF} {H H' : Hp} {lh se : Addr} {ex hs : List Addr} {b sl st : List Int} (wf : WF n f) (p : Prt n f H H' lh se ex b hs sl st) (h : ∀ e ∈ b ++ st, 0 ≤ e ∧ e < n) : sl.length ≤ n.toNat := by
  refine len_range p.nd fun x hx => ?_
  obtain ⟨e, he, hm⟩ := mem_seenL.mp ((p.m x).mp hx)
  have := h e he
  exact (rowN_is wf this.1 this.2).dom wf this.1 this.2 x hm
/-- one row more, from a new list r, its marks merged -/
theorem Prt.more {n : Int} {f : PF} {H H1 H2 H3 : Hp} {lh se : Addr} {ex hs : List Addr} {b sl sl' st : List Int} {e : Int} {r : Addr} (p : Prt n f H H1 lh se ex b hs sl st) (hl0 : H lh = none) (hs0 : H se = none) (nls : lh ≠ se) (hex : ∀ a ∈ ex, H1 a ≠ none)
    (hr : H1 r = none) (s2 : Same H1 H2) (hr2 : H2 r = some (.lst ((rowN f e).map V.int))) (m1 : ∀ z, z ∈ sl' ↔ z ∈ sl ∨ z ∈ rowN f e) (n1 : sl.Nodup → sl'.Nodup) (s3 : Same (upd H2 lh (.lst (hs.map V.ref ++ [.ref r]))) H3) :
    Prt n f H (upd H3 se (.dK (kvB sl'))) lh se ex b (hs ++ [r]) sl' (st ++ [e]) := by
  have rl : r ≠ lh := fun z => by rw [z, p.l] at hr; cases hr
  have rs : r ≠ se := fun z => by rw [z, p.s] at hr; cases hr
  have r0 : H r = none := p.sm.free hr
  have rx : r ∉ ex := fun z => hex r z hr
  refine ⟨?_, ?_, upd_same, ?_, ?_, n1 p.nd, ?_⟩
  · refine Same.put ?_ hs0
    exact (Same.put (p.sm.trans s2) hl0).trans s3
  · rw [upd_ne nls, s3 _ _ upd_same, List.map_append]
    rfl
  · rw [List.map_append]
    refine RowsAt.snoc ?_ ?_
    · have h1 := (p.r.same s2).off (p := lh) (o := .lst (hs.map V.ref ++ [.ref r])) (fun z => (p.nw lh z).2.1 rfl)
      exact (h1.same s3).off fun z => (p.nw se z).2.2.1 rfl
    · rw [upd_ne rs]
      exact s3 _ _ (by rw [upd_ne rl]; exact hr2)
  · intro x
    rw [m1, p.m, mem_seenL, mem_seenL]
    constructor
    · rintro (⟨e', h1, h2⟩ | h)
      · exact ⟨e', by rw [← List.append_assoc]; exact List.mem_append_left _ h1, h2⟩
      · exact ⟨e, by simp, h⟩
    · rintro ⟨e', h1, h2⟩
      rw [← List.append_assoc] at h1
      rcases List.mem_append.mp h1 with h1 | h1
      · exact .inl ⟨e', h1, h2⟩
      · rw [List.mem_singleton] at h1
        subst h1
        exact .inr h2
  · intro a ha
    rcases List.mem_append.mp ha with ha | ha
    · exact p.nw a ha
    · rw [List.mem_singleton] at ha
      subst ha
      exact ⟨r0, rl, rs, rx⟩
/-! ### cycles_of, chains_of -/
end
end My
namespace My
open PySem L2 U StX PM
/-! ### lists of ints: in, comprehensions -/
/-! ### rows with marks -/
def PairsAt (H : Hp) : List Addr → List Addr → List Bool → Prop
  | [], [], [] => True
  | p :: ps, a :: as, b :: bs => H p = some (.tup [.ref a, .bl b]) ∧ PairsAt H ps as bs
  | _, _, _ => False
theorem PairsAt.map {H H' : Hp} : ∀ {ps as : List Addr} {bs : List Bool}, PairsAt H ps as bs → (∀ p ∈ ps, ∀ xs, H p = some (.tup xs) → H' p = some (.tup xs)) → PairsAt H' ps as bs
  | [], [], [], _, _ => trivial
  | _ :: ps, _ :: as, _ :: bs, h, k => ⟨k _ List.mem_cons_self _ h.1, PairsAt.map h.2 fun a ha => k a (List.mem_cons_of_mem _ ha)⟩
  | [], [], _ :: _, h, _ => h.elim
  | [], _ :: _, _, h, _ => h.elim
  | _ :: _, [], _, h, _ => h.elim
  | _ :: _, _ :: _, [], h, _ => h.elim
theorem PairsAt.same {H H' : Hp} {ps as : List Addr} {bs : List Bool} (h : PairsAt H ps as bs) (s : Same H H') : PairsAt H' ps as bs := h.map fun a _ xs e => s a _ e
theorem PairsAt.off {H : Hp} {ps as : List Addr} {bs : List Bool} {q : Addr} {o u : HO} (h : PairsAt H ps as bs) (hq : H q = some u) (nt : ∀ xs, u ≠ .tup xs) : PairsAt (upd H q o) ps as bs := h.map fun a ha xs e => by
  have hne : a ≠ q := fun z => by subst z; rw [hq] at e; exact nt _ (Option.some.inj e)
  rw [upd_ne hne]; exact e
theorem PairsAt.snoc {H : Hp} {p a : Addr} {b : Bool} : ∀ {ps as : List Addr} {bs : List Bool}, PairsAt H ps as bs → H p = some (.tup [.ref a, .bl b]) → PairsAt H (ps ++ [p]) (as ++ [a]) (bs ++ [b])
  | [], [], [], _, e => ⟨e, trivial⟩
  | _ :: ps, _ :: as, _ :: bs, h, e => ⟨h.1, PairsAt.snoc h.2 e⟩
  | [], [], _ :: _, h, _ => h.elim
  | [], _ :: _, _, h, _ => h.elim
  | _ :: _, [], _, h, _ => h.elim
  | _ :: _, _ :: _, [], h, _ => h.elim
theorem PairsAt.len {H : Hp} : ∀ {ps as : List Addr} {bs : List Bool}, PairsAt H ps as bs → ps.length = as.length ∧ ps.length = bs.length
  | [], [], [], _ => ⟨rfl, rfl⟩
  | _ :: ps, _ :: as, _ :: bs, h => by
    have := PairsAt.len h.2
    simp [this.1.symm, this.2.symm]
  | [], [], _ :: _, h => h.elim
  | [], _ :: _, _, h => h.elim
  | _ :: _, [], _, h => h.elim
  | _ :: _, _ :: _, [], h => h.elim
theorem PairsAt.get {H : Hp} : ∀ {ps as : List Addr} {bs : List Bool}, PairsAt H ps as bs → ∀ (i : Nat) (p : Addr), ps[i]? = some p → ∃ a b, as[i]? = some a ∧ bs[i]? = some b ∧ H p = some (.tup [.ref a, .bl b])
  | [], [], [], _, i, a, e => by simp at e
  | _ :: ps, a :: as, b :: bs, h, 0, p, e => by cases e; exact ⟨a, b, rfl, rfl, h.1⟩
  | _ :: ps, _ :: as, _ :: bs, h, i + 1, p, e => PairsAt.get h.2 i p e
  | [], [], _ :: _, h, _, _, _ => h.elim
  | [], _ :: _, _, h, _, _, _ => h.elim
  | _ :: _, [], _, h, _, _, _ => h.elim
  | _ :: _, _ :: _, [], h, _, _, _ => h.elim
end My
namespace My
open PySem L2 U StX PM
/-! ### rows by their first elements -/
def RowsZ (f : PF) (H : Hp) (zs : List (Addr × Int)) : Prop := ∀ z ∈ zs, H z.1 = some (.lst ((rowN f z.2).map V.int))
theorem RowsZ.at {f : PF} {H : Hp} : ∀ {zs : List (Addr × Int)}, RowsZ f H zs → RowsAt H (zs.map (·.1)) ((zs.map (·.2)).map (rowN f))
  | [], _ => trivial
  | z :: zs, h => ⟨h z List.mem_cons_self, RowsZ.at fun x hx => h x (List.mem_cons_of_mem _ hx)⟩
/-! ### data that may be compared -/
end My
namespace My
open PySem L2 U StX PM
theorem SqL.same {K : PySem.W.Frag} {H H' : Hp} {a : Addr} {xs : List V} (h : SqL K H a xs) (s : Same H H') : SqL K H' a xs := by
  rcases h with (h | ⟨o, h⟩) | h
  · exact .inl (.inl (s _ _ h))
  · exact .inl (.inr ⟨o, s _ _ h⟩)
  · exact .inr h
theorem Same.off {H H1 H2 : Hp} {p : Addr} (s : Same H H1) (o : Off p H1 H2) (h : H p = none) : Same H H2 := fun b u e => o b u (ne_of_none e h) (s b u e)
theorem yes_ {σ : L2.St} {H : Hp} {A B : Hp → Prop} (h : A H) : tYes σ H (fun b H3 => if b = true then A H3 else B H3) := by
  show (if true = true then A H else B H)
  rw [if_pos rfl]
  exact h
theorem PoolAt.same {H H' : Hp} {p : Addr} (h : PoolAt H p) (s : Same H H') : PoolAt H' p := by
  obtain ⟨a, b, e, r⟩ := h
  exact ⟨a, b, s _ _ e, r⟩
theorem PoolAt.lst {H : Hp} {p : Addr} (h : PoolAt H p) : ∃ xs, H p = some (.lst xs) := by
  obtain ⟨a, b, e, r⟩ := h
  exact ⟨_, e⟩
theorem PoolAt.ne {H : Hp} {p q : Addr} (h : PoolAt H p) (hq : H q = none) : p ≠ q := by
  obtain ⟨xs, e⟩ := h.lst
  exact ne_of_none e hq
theorem IsMap.off {C p : Addr} {H H' : Hp} {m : Addr} {n : Int} {f : PF} (a : IsMap C H m n f) (o : Off p H H') (h : ∃ xs, H p = some (.lst xs)) : IsMap C H' m n f := by
  obtain ⟨⟨dx, D, h1, h2⟩, wf, lo, hi⟩ := a
  obtain ⟨xs, h⟩ := h
  exact ⟨⟨dx, D, o _ _ (fun e => by rw [e, h] at h1; cases h1) h1, o _ _ (fun e => by rw [e, h] at h2; cases h2) h2⟩, wf, lo, hi⟩
/-- Map(n, d) -/
theorem init_of {C : Addr} {H : Hp} {d : Addr} {n : Int} {l : List (Int × Int)} {f : PF} {R : VK} {E : XK} {x dx : Addr} (hd : H d = some (.dK (kvI l))) (di : DI l f) (wf : WF n f) (h1 : 1 ≤ n) (h3 : n ≤ 300) (hl : l.length ≤ 1000)
    (hx : H x = none) (hdx : H dx = none) (ne : dx ≠ x) (q : ∀ H', Same H H' → IsMap C H' x n f → R .non H') :
    spInit C [.ref x, .int n, .ref d] (upd (upd H dx (.own x)) x (.ins C dx [])) R E := by
  have s0 : Same H (upd (upd H dx (.own x)) x (.ins C dx [])) := fun b o e => by
    rw [upd_ne (ne_of_none e hx), upd_ne (ne_of_none e hdx)]
    exact e
  refine ⟨x, dx, d, n, l, f, rfl, upd_same, s0 _ _ hd, di, wf, h1, h3, hl, fun H' D o nD hp hD => ?_⟩
  exact q H' (fun b u e => o b u (ne_of_none e hx) (s0 b u e)) ⟨⟨dx, D, hp, hD⟩, wf, h1, h3⟩
/-- the law's draw, told by the pool alone -/
theorem draw_of {H : Hp} {p : Addr} {n : Int} {Q : VK} {E : XK} (h : PoolAt H p) (n0 : 0 < n) (n1 : n < 1073741824) (k : ∀ r H', 0 ≤ r → r < n → PoolAt H' p → Off p H H' → (∃ xs, H' = upd H p (.lst xs)) → Q (.int r) H') : spDraw [.ref p, .int n] H Q E := by
  obtain ⟨a, b, e, ha, hb, hc⟩ := h
  exact ⟨p, a, b, n, rfl, e, ha, hb, hc, n0, n1, fun a' b' r h1 h2 h3 h4 h5 => k r _ h4 h5 ⟨a', b', upd_same, h1, h2, h3⟩ Off.lock ⟨_, rfl⟩⟩
end My
namespace My
open PySem L2 U StX PM
theorem paired_at {α β : Type} {R : α → β → Prop} {xs : List α} {ys : List β} (h : Paired R xs ys) {i : Nat} {x : α} (e : xs[i]? = some x) : ∃ y, ys[i]? = some y ∧ R x y := by
  induction h generalizing i with
  | nil => cases e
  | cons r _ ih =>
    cases i with
    | zero => cases e; exact ⟨_, rfl, r⟩
    | succ i => exact ih e
theorem paired_len {α β : Type} {R : α → β → Prop} {xs : List α} {ys : List β} (h : Paired R xs ys) : xs.length = ys.length := by
  induction h with
  | nil => rfl
  | cons _ _ ih => rw [List.length_cons, List.length_cons, ih]
theorem PoolAt.put {H : Hp} {p q : Addr} {o : HO} (h : PoolAt H p) (n : p ≠ q) : PoolAt (upd H q o) p := by
  obtain ⟨a, b, e, r⟩ := h
  exact ⟨a, b, by rw [upd_ne n]; exact e, r⟩
theorem paired_snoc {α β : Type} {R : α → β → Prop} {xs : List α} {ys : List β} (h : Paired R xs ys) {x : α} {y : β} (r : R x y) : Paired R (xs ++ [x]) (ys ++ [y]) := by
  induction h with
  | nil => exact .cons r .nil
  | cons a _ ih => exact .cons a ih
theorem draw_R {i : Nat} {tb : TE} {σ : L2.St} {H : Hp} {Q : VK} {p : Addr} {n : Int} (hi : σ[i]? = some (some (.ref p))) (hb : ∀ R : VK, R (.int n) H → tb σ H R) (h : PoolAt H p) (n0 : 0 < n) (n1 : n < 1073741824)
    (k : ∀ r H', 0 ≤ r → r < n → PoolAt H' p → Off p H H' → Q (.int r) H') : tCallR spDraw E0 (tCons (tVar i) (tCons tb tNil)) σ H Q :=
  ⟨_, hi, hb _ (draw_of (E := E0) h n0 n1 fun r H' h1 h2 h3 h4 _ => k r H' h1 h2 h3 h4)⟩
theorem dgetL {H : Hp} {d : Addr} {l : List (Int × Int)} {f : PF} (h : H d = some (.dK (kvI l))) (di : DI l f) (i : Int) : DGet H d (.int i) ((f i).map V.int) := by
  have := DGet.k (k := Sum.inl i) h
  rw [valV_kvI, di.at_] at this
  exact this
theorem lay_all {k : Nat} {ds : List PyData} (h : ∀ d ∈ ds, PyData.canLay0 d = true ∧ PyData.depth d ≤ k) : PyData.canLayAll0 ds = true ∧ PyData.depthAll ds ≤ k := by
  induction ds with
  | nil => exact ⟨rfl, Nat.zero_le _⟩
  | cons p l ih =>
    obtain ⟨h1, h2⟩ := h p List.mem_cons_self
    obtain ⟨i1, i2⟩ := ih fun d hd => h d (List.mem_cons_of_mem _ hd)
    refine ⟨?_, ?_⟩
    · show (PyData.canLay0 p && PyData.canLayAll0 l) = true
      rw [i1, h1]; rfl
    · show max (PyData.depth p) (PyData.depthAll l) ≤ k
      omega
theorem shaped_all {ds : List PyData} (h : ∀ d ∈ ds, PyData.canLay0 d = true ∧ PyData.depth d ≤ 60) : SeqAt.shaped (.list ds) = true := by
  unfold SeqAt.shaped
  have h := lay_all h
  rw [Bool.and_eq_true]
  refine ⟨h.1, decide_eq_true ?_⟩
  show PyData.depthAll ds + 1 ≤ 64
  omega
theorem at_nat {xs : List V} {c : Int} (h0 : 0 ≤ c) (h1 : c.toNat < xs.length) : ∃ v, atI xs c = some v ∧ v ∈ xs := by
  obtain ⟨v, hv⟩ : ∃ v, xs[c.toNat]? = some v := ⟨_, List.getElem?_eq_getElem h1⟩
  have := atI_nat hv
  rw [show ((c.toNat : Nat) : Int) = c by omega] at this
  exact ⟨v, this, List.mem_of_getElem? hv⟩
theorem cut1 (v0 : V) (r : List V) : cutV (v0 :: r) (some 1) none = r ∧ ¬ (HT.sIx (v0 :: r).length 0 (some 1) = 0 ∧ HT.sIx (v0 :: r).length (v0 :: r).length none = (v0 :: r).length) := by
  have h : HT.sIx (v0 :: r).length 0 (some 1) = 1 := by
    show (if (1 : Int) < 0 then ((1 : Int) + (((v0 :: r).length : Nat) : Int)).toNat else min (1 : Int).toNat (v0 :: r).length) = 1
    rw [if_neg (by decide), List.length_cons]
    show min 1 _ = 1
    omega
  constructor
  · unfold cutV
    rw [h, HT.sIx_none]
    show r.take ((v0 :: r).length - 1) = r
    rw [List.length_cons, Nat.add_sub_cancel, List.take_length]
  · rintro ⟨h1, _⟩
    rw [h] at h1
    cases h1
theorem di_lenN {n : Int} {l : List (Int × Int)} {f : PF} (di : DI l f) (wf : WF n f) : l.length ≤ n.toNat := by
  have := len_range (l := l.map (·.1)) (n := n) di.nd fun x hx => by
    obtain ⟨⟨x', y'⟩, h1, rfl⟩ := List.mem_map.mp hx
    have := wf.dom x' y' (di.mem.mp h1)
    exact ⟨this.1, this.2.1⟩
  rwa [List.length_map] at this
end My
namespace My
open PySem L2 U StX PM
theorem nonMapV.same {H H' : Hp} {x : V} (h : nonMapV H x) (s : L2.Same H H') : nonMapV H' x := by
  cases x with
  | ref b =>
    rcases h with ⟨xs, e⟩ | ⟨xs, e⟩ | ⟨xs, e⟩
    · exact .inl ⟨_, s _ _ e⟩
    · exact .inr (.inl ⟨_, s _ _ e⟩)
    · exact .inr (.inr ⟨_, s _ _ e⟩)
  | _ => exact h
end My
namespace My
open PySem L2 U StX PM
/-! ### dict([(a, b) for x, y in d.items() if ..]) -/
theorem _root_.PySem.Paired.map {α β : Type} {R S : α → β → Prop} : ∀ {xs : List α} {ys : List β}, Paired R xs ys → (∀ x ∈ xs, ∀ y, R x y → S x y) → Paired S xs ys
  | _, _, .nil, _ => .nil
  | _, _, .cons h r, k => .cons (k _ List.mem_cons_self _ h) (PySem.Paired.map r fun x hx => k x (List.mem_cons_of_mem _ hx))
theorem madeI_step {c : Int → Int → Bool} {kf vi : Int → Int → Int} {l : List (Int × Int)} {i : Nat} {x y : Int} (h : l[i]? = some (x, y)) :
    madeI c kf vi (l.take (i + 1)) = madeI c kf vi (l.take i) ++ (if c x y = true then [(kf x y, vi x y)] else []) := by
  rw [take_more h]
  unfold madeI
  rw [List.filter_append, List.map_append]
  by_cases hc : c x y = true
  · simp [hc]
  · have hc' : c x y = false := by simpa using hc
    simp [hc']
theorem dict_of {m : List (Int × Int)} {g : PF} (di : DI m g) : ∃ l, mergeK [] (kvI m) = kvI l ∧ l.length ≤ m.length ∧ DI l g := by
  obtain ⟨l', e', n', d', k'⟩ := merge_lk m [] di.nd
  refine ⟨l', e', by simpa using n', d' (by simp), fun z => ?_⟩
  rw [k', ← di.at_]
  cases lk m z <;> rfl
/-- dict(..) of such a list -/
theorem dictP_of {K : PySem.W.Frag} {H : Hp} {D : Addr} {ps : List Addr} {m : List (Int × Int)} {Q : VK} {g : PF} (hD : H D = some (.lst (ps.map V.ref))) (hp : Paired (fun p (kv : Key × V) => H p = some (.tup [kV kv.1, kv.2])) ps (kvI m)) (di : DI m g)
    (hq : ∀ p l, H p = none → l.length ≤ m.length → DI l g → Q (.ref p) (upd H p (.dK (kvI l)))) :
    ∃ (a : Addr) (ps : List Addr) (kvs : List (Key × V)), [V.ref D] = [.ref a] ∧ SqL K H a (ps.map V.ref) ∧ Paired (fun p kv => SqT K H p [kV kv.1, kv.2]) ps kvs ∧ ∀ p, H p = none → Q (.ref p) (upd H p (.dK (mergeK [] kvs))) := by
  refine ⟨D, ps, _, rfl, SqL.of hD, hp.map fun p _ kv e => SqT.of e, fun p np => ?_⟩
  obtain ⟨l', e', n', d', k'⟩ := merge_lk m [] di.nd
  have e2 : mergeK [] (kvI m) = kvI l' := e'
  rw [e2]
  refine hq p l' np (by simpa using n') ⟨d' (by simp), fun z => ?_⟩
  rw [k', ← di.at_]
  cases lk m z <;> rfl
section
variable {P : Program} {w : World} {K : PySem.W.Frag} {mg : Str → Option Value} {base : Heap}
def spTimes : Sp := fun vs H Q _ => ∃ (d1 d2 : Addr) (l1 l2 : List (Int × Int)) (n : Int) (f g : PF), vs = [.ref d1, .ref d2] ∧ H d1 = some (.dK (kvI l1)) ∧ H d2 = some (.dK (kvI l2)) ∧ DI l1 f ∧ DI l2 g ∧ WF n f ∧ WF n g ∧ l1.length ≤ 1000 ∧
  ∀ p l H', Same H H' → H p = none → H' p = some (.dK (kvI l)) → DI l (mul f g) → l.length ≤ l1.length → Q (.ref p) H'
theorem mul_diL {l1 : List (Int × Int)} {f g : PF} (d1 : DI l1 f) : DI (madeI (fun _ y => (g y).isSome) (fun x _ => x) (fun _ y => (g y).getD 0) l1) (mul f g) := by
  refine di_of (nd_src d1.nd) fun a b => ?_
  rw [mem_madeI, mul_iff]
  constructor
  · rintro ⟨x, y, h1, h2, rfl, rfl⟩
    refine ⟨y, d1.mem.mp h1, ?_⟩
    cases hg : g y with
    | none => rw [hg] at h2; cases h2
    | some z => rfl
  · rintro ⟨y, h1, h2⟩
    exact ⟨a, y, d1.mem.mpr h1, by rw [h2]; rfl, rfl, by rw [h2]; rfl⟩
def spBack : Sp := fun vs H Q _ => ∃ (d : Addr) (l1 : List (Int × Int)) (n : Int) (f : PF), vs = [.ref d] ∧ H d = some (.dK (kvI l1)) ∧ DI l1 f ∧ WF n f ∧ l1.length ≤ 1000 ∧
  ∀ p l H', Same H H' → H p = none → H' p = some (.dK (kvI l)) → DI l (inv n f) → l.length ≤ l1.length → Q (.ref p) H'
theorem back_diL {n : Int} {l1 : List (Int × Int)} {f : PF} (wf : WF n f) (d1 : DI l1 f) : DI (madeI (fun _ _ => true) (fun _ y => y) (fun x _ => x) l1) (inv n f) := by
  refine di_of (nd_tgt (d1.vals wf)) fun a b => ?_
  rw [mem_madeI, inv_iff wf]
  constructor
  · rintro ⟨x, y, h1, _, rfl, rfl⟩
    exact d1.mem.mp h1
  · intro h
    exact ⟨b, a, d1.mem.mpr h, rfl, rfl, rfl⟩
end
end My
namespace My
open PySem L2 U StX PM
/-- [(a, b) for x in range(n)] -/
theorem lc_rangeT {wi : TI} {i : Nat} {tv : TE} {vs : List Nat} {σ : L2.St} {H0 H : Hp} {Q : VK} {n : Nat} (kf vi : Nat → Int) (hwi : ∀ R : It → Hp → Prop, R (Itr 0 n) H → wi σ H0 R)
    (hw : ∀ a, wipe ((wipe σ vs).set i a) vs = wipe σ vs) (hn : n < sizeLine)
    (hb : ∀ k : Nat, k < n → ∀ H1, L2.Same H H1 → ∀ R : VK, (∀ p, H1 p = none → R (.ref p) (upd H1 p (.tup [.int (kf k), .int (vi k)]))) → tv ((wipe σ vs).set i (some (.int (0 + (k : Nat))))) H1 R)
    (hq : ∀ (D : Addr) (ps : List Addr) (H' : Hp), H D = none → H' D = some (.lst (ps.map V.ref)) → Paired (fun p (kv : Key × V) => H' p = some (.tup [kV kv.1, kv.2])) ps (kvI ((List.range n).map fun k => (kf k, vi k))) → L2.Same H H' → Q (.ref D) H') :
    tLc wi (gName i) tYes tv vs σ H0 Q := by
  refine hwi _ fun D hD => ?_
  refine lc_it (walk_range (lo := 0)) (fun k H' => L2.Same H H' ∧ ∃ ps : List Addr, H' D = some (.lst (ps.map V.ref)) ∧ ps.length = k ∧ (∀ p ∈ ps, p ≠ D) ∧ Paired (fun p (kv : Key × V) => H' p = some (.tup [kV kv.1, kv.2])) ps (kvI ((List.range k).map fun k => (kf k, vi k))))
    ⟨Same.new hD, [], upd_same, rfl, (fun p h => nomatch h), .nil⟩ (fun _ _ _ _ => trivial) ?_ ?_
  · rintro k v H' H'' hk ⟨s1, ps, e1, hl, hne, hp⟩ ⟨rfl, rfl⟩
    refine ⟨hw _, yes_ ?_⟩
    refine hb k hk _ s1 _ fun p np => ?_
    have hpD : p ≠ D := (ne_of_none e1 np).symm
    refine ⟨_, by rw [upd_ne hpD.symm]; exact e1, by rw [List.length_map, hl]; omega, Same.put (s1.trans (Same.new np)) hD, ps ++ [p], by rw [upd_same, List.map_append]; rfl, by simp [hl], fun q hq' => ?_, ?_⟩
    · rcases List.mem_append.mp hq' with h | h
      · exact hne q h
      · rw [List.mem_singleton] at h; subst h; exact hpD
    · rw [List.range_succ, List.map_append, show kvI ((List.range k).map (fun k => (kf k, vi k)) ++ [k].map fun k => (kf k, vi k)) = kvI ((List.range k).map fun k => (kf k, vi k)) ++ [(Sum.inl (kf k), V.int (vi k))] from by unfold kvI; rw [List.map_append]; rfl]
      refine PySem.Paired.snoc (hp.map fun q hq' kv e => ?_) ?_
      · rw [upd_ne (hne q hq'), upd_ne (ne_of_none e np)]; exact e
      · rw [upd_ne hpD]; exact upd_same
  · rintro H' ⟨s1, ps, e1, hl, hne, hp⟩
    exact hq D ps H' hD e1 hp s1
theorem id_di (n : Nat) : DI ((List.range n).map fun k => (((k : Nat) : Int), ((k : Nat) : Int))) (idn (n : Int)) := by
  refine di_of ?_ fun x y => ?_
  · rw [List.map_map]
    have := nodup_of_lt (rgI_lt n)
    exact this
  · rw [idn_iff]
    constructor
    · intro h
      obtain ⟨k, hk, e⟩ := List.mem_map.mp h
      rw [List.mem_range] at hk
      cases e
      omega
    · rintro ⟨rfl, h1, h2⟩
      exact List.mem_map.mpr ⟨x.toNat, List.mem_range.mpr (by omega), by simp; omega⟩
end My
namespace My
open PySem L2 U StX PM
/-! ### texts of plain signs -/
def OkS (x : Str) : Prop := PyData.strOk x = true
end My
namespace My
open PySem L2 U StX PM
/-! ### steps -/
def isTp (H : Hp) : V → Prop | .ref a => ∃ xs, H a = some (.tup xs) | _ => False
def isSt : V → Bool | .str _ => true | _ => false
def nth (xs : List V) (i : Nat) : V := (xs[i]?).getD .non
/-- what is_step says of a tuple -/
def stepB (n : Int) (xs : List V) : Bool :=
  decide (2 ≤ xs.length) && (isSt (nth xs 0) && ((xs.drop 1).all (fun y => inR y 0 (n - 1)) &&
    (if nth xs 0 = .str "swap" then decide (xs.length = 3) && !decide (nth xs 1 = nth xs 2) else decide (nth xs 0 = .str "forget") && decide (xs.length = 2))))
/-- [.. for x in a tuple] -/
theorem lc_tup {K : PySem.W.Frag} {te : TE} {i : Nat} {tv : TE} {vs : List Nat} {σ : L2.St} {H : Hp} {Q : VK} {xs : List V} (vf : V → V) (hte : ∀ R : VK, (∀ a H', H' a = some (.tup xs) → L2.Same H H' → R (.ref a) H') → te σ H R) (hw : ∀ a, wipe ((wipe σ vs).set i a) vs = wipe σ vs)
    (hb : ∀ x ∈ xs, ∀ H1, L2.Same H H1 → ∀ R : VK, R (vf x) H1 → tv ((wipe σ vs).set i (some x)) H1 R) (hz : xs.length < sizeLine)
    (hq : ∀ D H', H D = none → H' D = some (.lst (xs.map vf)) → L2.Same H H' → Q (.ref D) H') : tLc (iTup K te) (gName i) tYes tv vs σ H Q := by
  refine hte _ fun a H0 ha s0 => ⟨a, rfl, ⟨_, SqT.of ha⟩, fun D hD => ?_⟩
  refine lc_it (walk_tup (xs := xs)) (fun k H' => L2.Same H0 H' ∧ H' D = some (.lst ((xs.take k).map vf))) ⟨Same.new hD, upd_same⟩ (fun k H' _ p => SqT.of (p.1 _ _ ha)) ?_ ?_
  · rintro k v H' H'' hk ⟨s1, e1⟩ ⟨rfl, ev⟩
    refine ⟨hw _, yes_ ?_⟩
    refine hb v (List.mem_of_getElem? ev) _ (s0.trans s1) _ ⟨_, e1, ?_, Same.put s1 hD, ?_⟩
    · rw [List.length_map]
      exact Nat.lt_of_le_of_lt (by rw [List.length_take]; omega) hz
    · rw [upd_same, take_more ev, List.map_append]
      rfl
  · rintro H' ⟨s1, e1⟩
    rw [List.take_length] at e1
    exact hq D H' (s0.free hD) e1 (s0.trans s1)
theorem dec_len (l : Nat) (k : Nat) : decide (V.int (l : Int) = V.int (k : Int)) = decide (l = k) := by
  by_cases h : l = k
  · subst h; simp
  · have : ¬ V.int (l : Int) = V.int (k : Int) := fun z => h (by have := V.int.inj z; omega)
    simp [h, this]
theorem ifn_cb {r : List V → Hp → VK → Prop} {t : TE} {A B : TS} {D : Ends} {σ : L2.St} {H : Hp} (h : t σ H fun x H1 => r [x] H1 fun v H2 => ∃ c, v = .bl c ∧ if (!c) = true then A D σ H2 else B D σ H2) : tIfS (tNot (tB (tCB r (tCons t tNil)))) A B D σ H := h
section
variable {P : Program} {w : World} {K : PySem.W.Frag} {mg : Str → Option Value} {base : Heap}
/-- the type of a known value, and what isinstance says of it -/
theorem ty_step (T : Txt K mg) {H : Hp} {x : V} (h : knownV T.C_Map H x) : ∃ t, TyX K H x t ∧ PySem.W.kitOne K t (.type "str") = some (isSt x) ∧ (∃ b, PySem.W.kitOne K t (.type "tuple") = some b ∧ (b = true ↔ isTp H x)) := by
  cases x with
  | non => exact ⟨_, .base .non, kit_ty (r := false) (by decide +kernel), false, kit_ty (r := false) (by decide +kernel), by simp [isTp]⟩
  | bl b => exact ⟨_, .base (.bl b), kit_ty (r := false) (by decide +kernel), false, kit_ty (r := false) (by decide +kernel), by simp [isTp]⟩
  | int i => exact ⟨_, .base (.int i), kit_ty (r := false) (by decide +kernel), false, kit_ty (r := false) (by decide +kernel), by simp [isTp]⟩
  | str z => exact ⟨_, .base (.str z), kit_ty (r := true) (by decide +kernel), false, kit_ty (r := false) (by decide +kernel), by simp [isTp]⟩
  | ref a =>
    rcases h with ⟨xs, e⟩ | ⟨xs, e⟩ | ⟨xs, e⟩ | ⟨dx, fs, e⟩
    · exact ⟨_, .base (.lst e), kit_ty (r := false) (by decide +kernel), false, kit_ty (r := false) (by decide +kernel), by simp [isTp, e]⟩
    · exact ⟨_, .base (.tup e), kit_ty (r := false) (by decide +kernel), true, kit_ty (r := true) (by decide +kernel), by simp [isTp, e]⟩
    · exact ⟨_, .base (.dK e), kit_ty (r := false) (by decide +kernel), false, kit_ty (r := false) (by decide +kernel), by simp [isTp, e]⟩
    · exact ⟨_, tyx_ins T.o_Map e, T.kit_str_Map, false, T.kit_tuple_Map, by simp [isTp, e]⟩
  | byt b => exact h.elim
  | flt b => exact h.elim
  | ty b => exact h.elim
def spStep (C : Addr) : Sp := fun vs H Q _ => ∃ n x, vs = [.int n, x] ∧ knownV C H x ∧ ((¬ isTp H x ∧ Q (.bl false) H) ∨ ∃ a xs, x = .ref a ∧ H a = some (.tup xs) ∧ (∀ y ∈ xs, knownV C H y) ∧ xs.length ≤ 100 ∧ ∀ H', Same H H' → Q (.bl (stepB n xs)) H')
theorem knownV.same {C : Addr} {H H' : Hp} {x : V} (h : knownV C H x) (s : Same H H') : knownV C H' x := by
  cases x with
  | ref a =>
    rcases h with ⟨xs, e⟩ | ⟨xs, e⟩ | ⟨xs, e⟩ | ⟨dx, fs, e⟩
    · exact .inl ⟨_, s _ _ e⟩
    · exact .inr (.inl ⟨_, s _ _ e⟩)
    · exact .inr (.inr (.inl ⟨_, s _ _ e⟩))
    · exact .inr (.inr (.inr ⟨_, _, s _ _ e⟩))
  | _ => exact h
theorem ok_is_step (T : Txt K mg) : FnR P w K mg base CX0 3 T.f_is_step (spStep T.C_Map) := by
  refine T.A_is_step.ok sc_is_step (fun vs H Q E h => ?_) (fun cdv A outer s H vs Q E hr h => ?_)
  · obtain ⟨n, x, rfl, _⟩ := h
    rfl
  · obtain ⟨n, x, rfl, hk, h⟩ := h
    have hu := hu_of hr
    refine ⟨_, (pss_cons (ps_if (PW.pt (pw_or (pt_not (pt_val (pe_callB call_isi (by rfl) T.n_isinstance (by decide +kernel) (pa_cons (pv 1) (pa_cons (pe_bltn (v := .ty "tuple") (u := .type "tuple") (by rfl) T.n_tuple (by decide +kernel) rfl) pa_nil))))) (pw_or (pt_cmpR op_lt (pe_callB call_len_seq (by rfl) T.n_len (by decide +kernel) (pa_cons (pv 1) pa_nil)) pe_int (nomark _)) (pw_or1 (pt_not (pt_val (pe_callB call_isi (by rfl) T.n_isinstance (by decide +kernel) (pa_cons (pe_ix ix_tup (pv 1) pe_int (fun _ _ => rfl)) (pa_cons (pe_bltn (v := .ty "str") (u := .type "str") (by rfl) T.n_str (by decide +kernel) rfl) pa_nil)))))))))
        (pss_one (ps_ret pe_bl)) pss_nil)
      (pss_cons (ps_if (pt_not (pt_val (pe_callB (cr_all rfl) (by rfl) T.n_all (by decide +kernel) (pa_cons (pe_lc (own := [("element", 2)]) (g := (gName 2)) (tt := tYes) rfl sc_is_step.nd (pi_tup (pe_slice sl_tup (pv 1) (po_some pe_int) po_none)) (blkOk_by (own := [("element", 2)]) (N := n_is_step) (sc := defScope s_is_step) (by decide +kernel)) (fun _ _ _ _ _ => (pg_name (i := 2) sc_is_step.nd rfl (Or.inl rfl))) (fun _ _ _ _ _ => pts_nil) (fun _ _ _ _ _ => (pe_callR (ok_in_range T) (hr.mono (by decide)) T.A_in_range.kp rfl T.g_in_range pass0 (pa_cons (pv 2) (pa_cons pe_int (pa_cons (pe_op op_sub (pv 0) pe_int) pa_nil)))))) pa_nil))))
        (pss_one (ps_ret pe_bl)) pss_nil)
      (pss_cons (ps_if (pt_cmpR op_eq (pe_ix ix_tup (pv 1) pe_int (fun _ _ => rfl)) pe_str (nomark _))
        (pss_one (ps_ret (pe_and (pe_cmpR op_eq (pe_callB call_len_seq (by rfl) T.n_len (by decide +kernel) (pa_cons (pv 1) pa_nil)) pe_int (nomark _)) (pe_one (pe_cmpR op_ne (pe_ix ix_tup (pv 1) pe_int (fun _ _ => rfl)) (pe_ix ix_tup (pv 1) pe_int (fun _ _ => rfl)) (nomark _)))))) pss_nil)
      (pss_one (ps_ret (pe_and (pe_cmpR op_eq (pe_ix ix_tup (pv 1) pe_int (fun _ _ => rfl)) pe_str (nomark _)) (pe_one (pe_cmpR op_eq (pe_callB call_len_seq (by rfl) T.n_len (by decide +kernel) (pa_cons (pv 1) pa_nil)) pe_int (nomark _))))))))), ?_⟩
    obtain ⟨t, ht, _, b, hb, hbi⟩ := ty_step T hk
    rcases h with ⟨hn, q⟩ | ⟨a, xs, rfl, hx, hel, hlen, q⟩
    · have : b = false := by
        cases b with
        | false => rfl
        | true => exact absurd (hbi.mp rfl) hn
      subst this
      exact ⟨_, rfl, x, _, t, _, _, rfl, .ty _, ht, hb, _, rfl, iteT (iteT q)⟩
    have : b = true := hbi.mpr ⟨xs, hx⟩
    subst this
    refine ⟨_, rfl, _, _, t, _, _, rfl, .ty _, ht, hb, _, rfl, iteF ?_⟩
    match xs, hx, hel, hlen, q with
    | [], hx, hel, hlen, q => exact ⟨_, rfl, a, [], rfl, .inr (SqT.of hx), _, _, rfl, rfl, _, rfl, iteT (iteT (q H (Same.refl _)))⟩
    | [v0], hx, hel, hlen, q => exact ⟨_, rfl, a, [v0], rfl, .inr (SqT.of hx), _, _, rfl, rfl, _, rfl, iteT (iteT (q H (Same.refl _)))⟩
    | v0 :: v1 :: rest, hx, hel, hlen, q =>
      refine ⟨_, rfl, a, _, rfl, .inr (SqT.of hx), _, _, rfl, rfl, _, rfl, ?_⟩
      have h2 : decide ((((v0 :: v1 :: rest).length : Nat) : Int) < 2) = false := decide_eq_false (by rw [List.length_cons, List.length_cons]; omega)
      rw [h2]
      refine iteF ?_
      obtain ⟨t0, ht0, hs0, _⟩ := ty_step T (hel v0 List.mem_cons_self)
      refine ⟨_, rfl, a, _, 0, v0, rfl, rfl, SqT.of hx, atI_nat (j := 0) rfl, v0, _, t0, _, _, rfl, .ty _, ht0, hs0, _, rfl, ?_⟩
      cases hst : isSt v0 with
      | false =>
        have e : stepB n (v0 :: v1 :: rest) = false := by
          unfold stepB
          rw [show nth (v0 :: v1 :: rest) 0 = v0 from rfl, hst, Bool.false_and, Bool.and_false]
        rw [e] at q
        exact iteT (q H (Same.refl _))
      | true =>
        refine iteF ?_
        dsimp only [tNext, tSeq]
        refine ifn_cb ?_
        obtain ⟨c1, c2⟩ := cut1 v0 (v1 :: rest)
        refine lc_tup (xs := v1 :: rest) (fun y => .bl (inR y 0 (n - 1))) (fun R rr => ⟨_, rfl, 1, rfl, a, _, rfl, SqT.of hx, c2, fun p hp => rr p _ (by rw [upd_same, c1]) (Same.new hp)⟩) (fun _ => rfl) (fun y hy H1 s1 R rr => ⟨_, rfl, _, rfl, _, _, rfl, rfl, y, 0, n - 1, rfl, (hel y (List.mem_cons_of_mem _ hy)).same s1, rr⟩) (small1000 (by simp only [List.length_cons] at hlen ⊢; omega)) (fun D H1 nD hD s1 => ?_)
        refine ⟨D, (v1 :: rest).map fun y => inR y 0 (n - 1), rfl, SqL.of (by rw [List.map_map]; exact hD), _, rfl, ?_⟩
        have hx1 := s1 _ _ hx
        have eall : (((v1 :: rest).map fun y => inR y 0 (n - 1)).all id) = ((v0 :: v1 :: rest).drop 1).all (fun y => inR y 0 (n - 1)) := by
          rw [List.all_map]; rfl
        rw [eall]
        have qs := q H1 s1
        unfold stepB at qs
        rw [show nth (v0 :: v1 :: rest) 0 = v0 from rfl, hst, Bool.true_and, decide_eq_true (show 2 ≤ (v0 :: v1 :: rest).length by rw [List.length_cons, List.length_cons]; omega), Bool.true_and] at qs
        cases hall : ((v0 :: v1 :: rest).drop 1).all (fun y => inR y 0 (n - 1)) with
        | false =>
          rw [hall, Bool.false_and] at qs
          exact iteT qs
        | true =>
          rw [hall, Bool.true_and] at qs
          refine iteF ?_
          obtain ⟨z, rfl⟩ : ∃ z, v0 = .str z := by
            cases v0 with
            | str z => exact ⟨z, rfl⟩
            | _ => cases hst
          refine ⟨_, rfl, a, _, 0, .str z, rfl, rfl, SqT.of hx1, atI_nat (j := 0) rfl, rfl, _, rfl, ?_⟩
          by_cases hz : V.str z = V.str "swap"
          · rw [if_pos hz] at qs
            rw [decide_eq_true hz]
            refine iteT ⟨_, rfl, a, _, rfl, .inr (SqT.of hx1), rfl, _, rfl, ?_⟩
            rw [show decide (V.int (((V.str z :: v1 :: rest).length : Nat) : Int) = V.int 3) = decide ((V.str z :: v1 :: rest).length = 3) from dec_len _ 3]
            cases hl3 : decide ((V.str z :: v1 :: rest).length = 3) with
            | false =>
              rw [hl3, Bool.false_and] at qs
              exact iteF qs
            | true =>
              rw [hl3, Bool.true_and] at qs
              have e3 := of_decide_eq_true hl3
              match rest, e3, hall, qs, hx1 with
              | [v2], _, hall, qs, hx1 =>
                obtain ⟨i1, rfl⟩ : ∃ i, v1 = .int i := by
                  simp only [List.drop_succ_cons, List.drop_zero, List.all_cons, Bool.and_eq_true] at hall
                  cases v1 with
                  | int i => exact ⟨i, rfl⟩
                  | _ => exact absurd hall.1 Bool.false_ne_true
                obtain ⟨i2, rfl⟩ : ∃ i, v2 = .int i := by
                  simp only [List.drop_succ_cons, List.drop_zero, List.all_cons, Bool.and_eq_true] at hall
                  cases v2 with
                  | int i => exact ⟨i, rfl⟩
                  | _ => exact absurd hall.2.1 Bool.false_ne_true
                exact iteT ⟨_, rfl, a, _, 1, .int i1, rfl, rfl, SqT.of hx1, rfl, _, rfl, a, _, 2, .int i2, rfl, rfl, SqT.of hx1, rfl, rfl, qs⟩
          · rw [if_neg hz] at qs
            rw [decide_eq_false hz]
            refine iteF ⟨_, rfl, a, _, 0, .str z, rfl, rfl, SqT.of hx1, atI_nat (j := 0) rfl, rfl, _, rfl, ?_⟩
            cases hf : decide (V.str z = V.str "forget") with
            | false =>
              rw [hf, Bool.false_and] at qs
              exact iteF qs
            | true =>
              rw [hf, Bool.true_and] at qs
              refine iteT ⟨_, rfl, a, _, rfl, .inr (SqT.of hx1), rfl, ?_⟩
              rw [show decide (V.int (((V.str z :: v1 :: rest).length : Nat) : Int) = V.int 2) = decide ((V.str z :: v1 :: rest).length = 2) from dec_len _ 2]
              exact qs
end
end My
namespace My
open PySem L2 U StX PM
def isLs (H : Hp) : V → Prop | .ref a => ∃ xs, H a = some (.lst xs) | _ => False
/-- what is_step says of a value -/
def StB (C : Addr) (n : Int) (H : Hp) (y : V) (b : Bool) : Prop := knownV C H y ∧ ((¬ isTp H y ∧ b = false) ∨ ∃ a xs, y = .ref a ∧ H a = some (.tup xs) ∧ (∀ z ∈ xs, knownV C H z) ∧ xs.length ≤ 100 ∧ b = stepB n xs)
theorem StB.same {C : Addr} {n : Int} {H H' : Hp} {y : V} {b : Bool} (h : StB C n H y b) (s : Same H H') : StB C n H' y b := by
  obtain ⟨hk, h⟩ := h
  refine ⟨hk.same s, ?_⟩
  rcases h with ⟨hn, e⟩ | ⟨a, xs, rfl, ha, hz, hl, e⟩
  · left
    refine ⟨?_, e⟩
    cases y with
    | ref a =>
      rcases hk with ⟨ys, e1⟩ | ⟨ys, e1⟩ | ⟨ys, e1⟩ | ⟨dx, fs, e1⟩
      · rintro ⟨zs, e2⟩
        rw [s _ _ e1] at e2; cases e2
      · exact absurd ⟨ys, e1⟩ hn
      · rintro ⟨zs, e2⟩
        rw [s _ _ e1] at e2; cases e2
      · rintro ⟨zs, e2⟩
        rw [s _ _ e1] at e2; cases e2
    | _ => exact id
  · exact .inr ⟨a, xs, rfl, s _ _ ha, fun z hz' => (hz z hz').same s, hl, e⟩
section
variable {P : Program} {w : World} {K : PySem.W.Frag} {mg : Str → Option Value} {base : Heap}
theorem ty_ls (T : Txt K mg) {H : Hp} {x : V} (h : knownV T.C_Map H x) : ∃ t, TyX K H x t ∧ ∃ b, PySem.W.kitOne K t (.type "list") = some b ∧ (b = true ↔ isLs H x) := by
  cases x with
  | non => exact ⟨_, .base .non, false, kit_ty (r := false) (by decide +kernel), by simp [isLs]⟩
  | bl b => exact ⟨_, .base (.bl b), false, kit_ty (r := false) (by decide +kernel), by simp [isLs]⟩
  | int i => exact ⟨_, .base (.int i), false, kit_ty (r := false) (by decide +kernel), by simp [isLs]⟩
  | str z => exact ⟨_, .base (.str z), false, kit_ty (r := false) (by decide +kernel), by simp [isLs]⟩
  | ref a =>
    rcases h with ⟨xs, e⟩ | ⟨xs, e⟩ | ⟨xs, e⟩ | ⟨dx, fs, e⟩
    · exact ⟨_, .base (.lst e), true, kit_ty (r := true) (by decide +kernel), by simp [isLs, e]⟩
    · exact ⟨_, .base (.tup e), false, kit_ty (r := false) (by decide +kernel), by simp [isLs, e]⟩
    · exact ⟨_, .base (.dK e), false, kit_ty (r := false) (by decide +kernel), by simp [isLs, e]⟩
    · exact ⟨_, tyx_ins T.o_Map e, false, T.kit_list_Map, by simp [isLs, e]⟩
  | byt b => exact h.elim
  | flt b => exact h.elim
  | ty b => exact h.elim
def spFI (C : Addr) : Sp := fun vs H Q _ => ∃ n x, vs = [.int n, x] ∧ knownV C H x ∧ ((¬ isLs H x ∧ ∀ t H', Same H H' → H' t = some (.tup [.non]) → Q (.ref t) H') ∨
  ∃ a ys k, x = .ref a ∧ H a = some (.lst ys) ∧ k ≤ ys.length ∧ (∀ i y, i < k → ys[i]? = some y → StB C n H y true) ∧
    ((k = ys.length ∧ ∀ H', Same H H' → Q .non H') ∨ ∃ y, ys[k]? = some y ∧ StB C n H y false ∧ ∀ t H', Same H H' → H' t = some (.tup [.int (k : Int)]) → Q (.ref t) H'))
theorem ok_first_invalid (T : Txt K mg) : FnR P w K mg base CX0 4 T.f_first_invalid (spFI T.C_Map) := by
  refine T.A_first_invalid.ok sc_first_invalid (fun vs H Q E h => ?_) (fun cdv A outer s H vs Q E hr h => ?_)
  · obtain ⟨n, x, rfl, _⟩ := h
    rfl
  · obtain ⟨n, x, rfl, hk, h⟩ := h
    refine ⟨_, (pss_cons (ps_if (pt_not (pt_val (pe_callB call_isi (by rfl) T.n_isinstance (by decide +kernel) (pa_cons (pv 1) (pa_cons (pe_bltn (v := .ty "list") (u := .type "list") (by rfl) T.n_list (by decide +kernel) rfl) pa_nil)))))
        (pss_one (ps_ret (pe_tup (pa_cons pe_non pa_nil)))) pss_nil)
      (pss_cons (ps_for PassesOwn.never rfl (pi_enum rfl T.n_enumerate (pa_cons (pv 1) pa_nil)) (pg_tup rfl (pgs_cons (pg_name (i := 2) sc_first_invalid.nd rfl (Or.inl rfl)) (pgs_cons (pg_name (i := 3) sc_first_invalid.nd rfl (Or.inl rfl)) pgs_nil)))
        (pss_one (ps_if (pt_not (pt_val (pe_callR (ok_is_step T) (hr.mono (by decide)) T.A_is_step.kp rfl T.g_is_step pass0 (pa_cons (pv 0) (pa_cons (pv 3) pa_nil)))))
        (pss_one (ps_ret (pe_tup (pa_cons (pv 2) pa_nil)))) pss_nil)))
      (pss_one (ps_ret pe_non)))), ?_⟩
    obtain ⟨t, ht, b, hb, hbi⟩ := ty_ls T hk
    rcases h with ⟨hn, q⟩ | ⟨a, ys, k, rfl, hx, hkl, hok, h⟩
    · have : b = false := by
        cases b with
        | false => rfl
        | true => exact absurd (hbi.mp rfl) hn
      subst this
      exact ⟨_, rfl, x, _, t, _, _, rfl, .ty _, ht, hb, _, rfl, iteT ⟨(by show 1 ≤ sizeLine; decide), fun p hp => q p _ (Same.new hp) upd_same⟩⟩
    have : b = true := hbi.mpr ⟨ys, hx⟩
    subst this
    refine ⟨_, rfl, _, _, t, _, _, rfl, .ty _, ht, hb, _, rfl, iteF ?_⟩
    refine ⟨_, rfl, a, ys, rfl, SqL.of hx, ?_⟩
    refine for_it (walk_enum (xs := ys)) (fun i σ H' => i ≤ k ∧ ∃ v2 v3, σ = [some (.int n), some (.ref a), v2, v3] ∧ Same H H')
      ⟨Nat.zero_le _, none, none, rfl, Same.refl _⟩ (fun i σ H' _ ⟨_, _, _, _, z⟩ => SqL.of (z _ _ hx)) ?_ ?_
    · rintro i v σ H' H'' hi ⟨hik, v2, v3, rfl, s1⟩ ⟨U, p, y, rfl, hU, rfl, e1, e2⟩
      cases e1
      replace e2 : ys[i]? = some y := e2
      have s2 := s1.trans (Same.new (o := .tup [.int (i : Nat), y]) hU)
      refine ⟨U, _, rfl, SqT.of upd_same, rfl, _, [_], rfl, _, [], rfl, rfl, ?_⟩
      have stp : ∀ b, StB T.C_Map n H y b → ∀ (R : VK) H1, Same H H1 → (∀ H2, Same H1 H2 → R (.bl b) H2) → spStep T.C_Map [.int n, y] H1 R E0 := fun b hb R H1 sx rr => by
        obtain ⟨hk1, h1⟩ := hb.same sx
        refine ⟨n, y, rfl, hk1, ?_⟩
        rcases h1 with ⟨hn, rfl⟩ | ⟨c, xs, rfl, hc, hz, hl, rfl⟩
        · exact .inl ⟨hn, rr _ (Same.refl _)⟩
        · exact .inr ⟨c, xs, rfl, hc, hz, hl, fun H2 s2 => rr H2 s2⟩
      by_cases hlt : i < k
      · refine ⟨_, rfl, _, rfl, ?_⟩
        dsimp only [tNil]
        refine stp true (hok i y hlt e2) _ _ s2 fun H2 s3 => ⟨_, rfl, iteF ?_⟩
        exact ⟨hlt, _, _, rfl, s2.trans s3⟩
      · have hik' : i = k := by omega
        subst hik'
        rcases h with ⟨hkk, _⟩ | ⟨y', ey, hy, q⟩
        · rw [hkk] at hi; omega
        rw [ey] at e2
        cases e2
        refine ⟨_, rfl, _, rfl, ?_⟩
        dsimp only [tNil]
        refine stp false hy _ _ s2 fun H2 s3 => ⟨_, rfl, iteT ⟨_, rfl, (by show 1 ≤ sizeLine; decide), fun t ht => ?_⟩⟩
        exact q t _ ((s2.trans s3).trans (Same.new ht)) upd_same
    · rintro σ H' ⟨hik, v2, v3, rfl, s1⟩
      rcases h with ⟨hkk, q⟩ | ⟨y', ey, hy, q⟩
      · exact q _ s1
      · have := (List.getElem?_eq_some_iff.mp ey).1
        omega
end
end My
namespace My
open PySem L2 U StX PM
/-! ### steps, plain -/
inductive Stp
  | sw (a b : Int)
  | fg (a : Int)
def Stp.vs : Stp → List V
  | .sw a b => [.str "swap", .int a, .int b]
  | .fg a => [.str "forget", .int a]
def Stp.ok (n : Int) : Stp → Prop
  | .sw a b => 0 ≤ a ∧ a < n ∧ 0 ≤ b ∧ b < n ∧ a ≠ b
  | .fg a => 0 ≤ a ∧ a < n
def stp1 (f : PF) : Stp → PF
  | .sw a b => fun x => (f x).map fun y => if y = a then b else if y = b then a else y
  | .fg a => fun x => if x = a then none else f x
def stps (f : PF) (l : List Stp) : PF := l.foldl stp1 f
theorem sw_iff {f : PF} {a b x z : Int} (h : a ≠ b) : stp1 f (.sw a b) x = some z ↔ (z = b ∧ f x = some a) ∨ (z = a ∧ f x = some b) ∨ (z ≠ a ∧ z ≠ b ∧ f x = some z) := by
  show ((f x).map fun y => if y = a then b else if y = b then a else y) = some z ↔ _
  cases e : f x with
  | none => simp
  | some y =>
    rw [Option.map_some, Option.some.injEq]
    by_cases h1 : y = a
    · subst h1
      rw [if_pos rfl]
      constructor
      · rintro rfl; exact .inl ⟨rfl, rfl⟩
      · rintro (⟨rfl, _⟩ | ⟨rfl, h2⟩ | ⟨h2, _, h3⟩)
        · rfl
        · cases h2; exact absurd rfl h
        · cases h3; exact absurd rfl h2
    · rw [if_neg h1]
      by_cases h2 : y = b
      · subst h2
        rw [if_pos rfl]
        constructor
        · rintro rfl; exact .inr (.inl ⟨rfl, rfl⟩)
        · rintro (⟨rfl, h3⟩ | ⟨rfl, _⟩ | ⟨_, h2, h3⟩)
          · cases h3; exact absurd rfl h
          · rfl
          · cases h3; exact absurd rfl h2
      · rw [if_neg h2]
        constructor
        · rintro rfl; exact .inr (.inr ⟨h1, h2, rfl⟩)
        · rintro (⟨rfl, h3⟩ | ⟨rfl, h3⟩ | ⟨_, _, h3⟩)
          · cases h3; exact absurd rfl h1
          · cases h3; exact absurd rfl h2
          · cases h3; rfl
theorem fg_iff {f : PF} {a x z : Int} : stp1 f (.fg a) x = some z ↔ x ≠ a ∧ f x = some z := by
  show (if x = a then none else f x) = some z ↔ _
  by_cases h : x = a
  · rw [if_pos h]; simp [h]
  · rw [if_neg h]; simp [h]
theorem wf_stp1 {n : Int} {f : PF} (w : WF n f) {s : Stp} (h : s.ok n) : WF n (stp1 f s) := by
  cases s with
  | fg a =>
    exact ⟨fun x y e => w.dom x y (fg_iff.mp e).2, fun x x' y e e' => w.inj x x' y (fg_iff.mp e).2 (fg_iff.mp e').2⟩
  | sw a b =>
    obtain ⟨h1, h2, h3, h4, h5⟩ := h
    refine ⟨fun x y e => ?_, fun x x' y e e' => ?_⟩
    · rcases (sw_iff h5).mp e with ⟨q, k⟩ | ⟨q, k⟩ | ⟨_, _, k⟩
      · have := w.dom x _ k; rw [q]; exact ⟨this.1, this.2.1, h3, h4⟩
      · have := w.dom x _ k; rw [q]; exact ⟨this.1, this.2.1, h1, h2⟩
      · exact w.dom x _ k
    · rcases (sw_iff h5).mp e with ⟨q, k⟩ | ⟨q, k⟩ | ⟨g1, g2, k⟩ <;> rcases (sw_iff h5).mp e' with ⟨q', k'⟩ | ⟨q', k'⟩ | ⟨g1', g2', k'⟩
      · exact w.inj _ _ _ k k'
      · exact absurd (q'.symm.trans q) h5
      · exact absurd q g2'
      · exact absurd (q.symm.trans q') h5
      · exact w.inj _ _ _ k k'
      · exact absurd q g1'
      · exact absurd q' g2
      · exact absurd q' g1
      · exact w.inj _ _ _ k k'
theorem wf_stps {n : Int} {l : List Stp} : ∀ {f : PF}, WF n f → (∀ s ∈ l, Stp.ok n s) → WF n (stps f l) := by
  induction l with
  | nil => intro f w _; exact w
  | cons s l ih => intro f w h; exact ih (wf_stp1 w (h s List.mem_cons_self)) fun t ht => h t (List.mem_cons_of_mem _ ht)
theorem stps_snoc (f : PF) (l : List Stp) (s : Stp) : stps f (l ++ [s]) = stp1 (stps f l) s := by
  unfold stps
  rw [List.foldl_append]
  rfl
end My
namespace My
open PySem L2 U StX PM
/-! ### dicts changed -/
theorem drop_kvI (l : List (Int × Int)) (x : Int) : dropK (kvI l) (Sum.inl x : Key) = kvI (l.filter fun p => decide (p.1 ≠ x)) := by
  unfold dropK kvI
  rw [List.filter_map]
  congr 1
  refine List.filter_congr fun p _ => ?_
  show decide ((Sum.inl p.1 : Key) ≠ Sum.inl x) = decide (p.1 ≠ x)
  refine decide_eq_decide.mpr ⟨fun h e => h (by rw [e]), fun h e => h (Sum.inl.inj e)⟩
theorem di_drop {l : List (Int × Int)} {f : PF} (d : DI l f) (x : Int) : DI (l.filter fun p => decide (p.1 ≠ x)) (fun z => if z = x then none else f z) := by
  refine di_of ((List.filter_sublist.map _).nodup d.nd) fun a b => ?_
  rw [List.mem_filter, decide_eq_true_eq, d.mem]
  by_cases h : a = x
  · rw [if_pos h]; simp [h]
  · rw [if_neg h]; simp [h]
theorem di_put {l : List (Int × Int)} {f : PF} (d : DI l f) (x y : Int) : ∃ l', putK (kvI l) (Sum.inl x : Key) (V.int y) = kvI l' ∧ l'.length ≤ l.length + 1 ∧ DI l' (fun z => if z = x then some y else f z) := by
  obtain ⟨l', e, n, nd, k⟩ := putK_lk (l := l) (x := x) (y := y)
  exact ⟨l', e, n, nd d.nd, fun z => by rw [k, d.at_]⟩
theorem val_di {l : List (Int × Int)} {f : PF} (d : DI l f) (x : Int) : valV (kvI l) (Sum.inl x : Key) = (f x).map V.int := by rw [valV_kvI, d.at_]
def Inv2 (f g : PF) : Prop := ∀ x y, g y = some x ↔ f x = some y
theorem inv_fg {f g : PF} (h : Inv2 f g) {a y : Int} (e : f a = some y) : Inv2 (stp1 f (.fg a)) (fun z => if z = y then none else g z) := by
  intro x z
  rw [fg_iff]
  dsimp only
  by_cases hz : z = y
  · rw [if_pos hz, hz]
    constructor
    · intro q; cases q
    · rintro ⟨q1, q2⟩
      have := (h x y).mpr q2
      rw [(h a y).mpr e] at this
      exact absurd (Option.some.inj this).symm q1
  · rw [if_neg hz, h]
    constructor
    · intro q
      refine ⟨fun e2 => ?_, q⟩
      rw [e2, e] at q
      exact hz (Option.some.inj q).symm
    · exact fun q => q.2
theorem fg_same {f : PF} {a : Int} (e : f a = none) : stp1 f (.fg a) = f := by
  funext x
  show (if x = a then none else f x) = f x
  by_cases h : x = a
  · rw [if_pos h, h, e]
  · rw [if_neg h]
/-- the inverse behind a swap -/
def swI (g : PF) (a b : Int) : PF := fun y => if y = b then g a else if y = a then g b else g y
theorem inv_sw {f g : PF} (h : Inv2 f g) {a b : Int} (hab : a ≠ b) : Inv2 (stp1 f (.sw a b)) (swI g a b) := by
  intro x y
  rw [sw_iff hab]
  unfold swI
  by_cases h1 : y = b
  · rw [if_pos h1, h]
    constructor
    · exact fun q => .inl ⟨h1, q⟩
    · rintro (⟨_, q⟩ | ⟨q, _⟩ | ⟨_, q, _⟩)
      · exact q
      · exact absurd (q.symm.trans h1) hab
      · exact absurd h1 q
  · rw [if_neg h1]
    by_cases h2 : y = a
    · rw [if_pos h2, h]
      constructor
      · exact fun q => .inr (.inl ⟨h2, q⟩)
      · rintro (⟨q, _⟩ | ⟨_, q⟩ | ⟨q, _, _⟩)
        · exact absurd q h1
        · exact q
        · exact absurd h2 q
    · rw [if_neg h2, h]
      constructor
      · exact fun q => .inr (.inr ⟨h2, h1, q⟩)
      · rintro (⟨q, _⟩ | ⟨q, _⟩ | ⟨_, _, q⟩)
        · exact absurd q h1
        · exact absurd q h2
        · exact q
/-- what a swap makes of the map, by the inverse -/
theorem sw_by {f g : PF} (h : Inv2 f g) {a b : Int} (hab : a ≠ b) (z : Int) : stp1 f (.sw a b) z = (if g b = some z then some a else if g a = some z then some b else f z) := by
  by_cases h1 : g b = some z
  · rw [if_pos h1]
    exact (sw_iff hab).mpr (.inr (.inl ⟨rfl, (h z b).mp h1⟩))
  · rw [if_neg h1]
    by_cases h2 : g a = some z
    · rw [if_pos h2]
      exact (sw_iff hab).mpr (.inl ⟨rfl, (h z a).mp h2⟩)
    · rw [if_neg h2]
      cases e : f z with
      | none =>
        show ((f z).map fun y => if y = a then b else if y = b then a else y) = none
        rw [e]; rfl
      | some y =>
        refine (sw_iff hab).mpr (.inr (.inr ⟨fun q => ?_, fun q => ?_, e⟩))
        · subst q; exact h2 ((h z y).mpr e)
        · subst q; exact h1 ((h z y).mpr e)
end My
local macro_rules | `(tactic| array_get_dec) => `(tactic| first | assumption | exact L2.upd_same | (refine U.carryNew (by assumption) ?_; array_get_dec) | (refine U.carry (by assumption) ?_; array_get_dec))
local macro_rules | `(tactic| array_mem_dec) => `(tactic| first | exact L2.Same.refl _ | assumption | (refine U.sameUp (by assumption) ?_; array_mem_dec) | (refine U.sameVia (by assumption) ?_; array_mem_dec))
local macro_rules | `(tactic| sizeOf_list_dec) => `(tactic| first | assumption | (refine U.freeVia (by assumption) ?_; sizeOf_list_dec) | (refine U.freeUp (o := _) (q := _) ?_; assumption))
local macro_rules | `(tactic| deriving_LawfulEq_tactic_step) => `(tactic| first | exact rfl | exact U.nil_le | exact U.one_le | exact U.two_le | exact U.three_le | exact L2.SqL.of (by array_get_dec) | exact L2.SqT.of (by array_get_dec) | exact ⟨_, L2.SqL.of (by array_get_dec)⟩ | exact ⟨_, L2.SqT.of (by array_get_dec)⟩ | exact Or.inl (by array_get_dec) | array_get_dec)
local macro_rules | `(tactic| and_intros) => `(tactic| repeat (first | refine And.intro (by deriving_LawfulEq_tactic_step) ?_ | (apply Exists.intro; refine And.intro (by deriving_LawfulEq_tactic_step) ?_) | (apply Exists.intro; apply Exists.intro; refine And.intro (by deriving_LawfulEq_tactic_step) ?_) | (apply Exists.intro; apply Exists.intro; apply Exists.intro; refine And.intro (by deriving_LawfulEq_tactic_step) ?_) | (apply Exists.intro; apply Exists.intro; apply Exists.intro; apply Exists.intro; refine And.intro (by deriving_LawfulEq_tactic_step) ?_)))
namespace My
open PySem L2 U StX PM
def putO (f : PF) (o : Option Int) (y : Int) : PF := match o with | none => f | some x => fun z => if z = x then some y else f z
def putI (g : PF) (y : Int) (o : Option Int) : PF := match o with | none => g | some x => fun z => if z = y then some x else g z
theorem sw_found {f g : PF} (h : Inv2 f g) {a b : Int} (hab : a ≠ b) : putO (putO f (g a) b) (g b) a = stp1 f (.sw a b) := by
  funext z
  rw [sw_by h hab]
  unfold putO
  cases ea : g a with
  | none =>
    cases eb : g b with
    | none => simp
    | some s2 => simp [eq_comm]
  | some s1 =>
    cases eb : g b with
    | none => simp [eq_comm]
    | some s2 => simp [eq_comm]
theorem sw_places (g : PF) {a b : Int} (hab : a ≠ b) : putI (putI (fun z => if z = b then none else if z = a then none else g z) b (g a)) a (g b) = swI g a b := by
  funext z
  unfold putI swI
  cases ea : g a with
  | none =>
    cases eb : g b with
    | none => 
      by_cases h1 : z = b
      · simp [h1]
      · by_cases h2 : z = a
        · simp [h2, eb]
        · simp [h1, h2]
    | some s2 =>
      by_cases h1 : z = b
      · subst h1; simp [Ne.symm hab]
      · by_cases h2 : z = a
        · subst h2; simp [h1]
        · simp [h1, h2]
  | some s1 =>
    cases eb : g b with
    | none =>
      by_cases h1 : z = b
      · simp [h1]
      · by_cases h2 : z = a
        · subst h2; simp [h1, eb]
        · simp [h1, h2]
    | some s2 =>
      by_cases h1 : z = b
      · subst h1; simp [Ne.symm hab]
      · by_cases h2 : z = a
        · subst h2; simp [h1]
        · simp [h1, h2]
def ov (o : Option Int) : V := (o.map V.int).getD .non
theorem ov_some {o : Option Int} {y : Int} (h : o = some y) : ov o = .int y := by rw [h]; rfl
theorem ov_none {o : Option Int} (h : o = none) : ov o = .non := by rw [h]; rfl
theorem pop2 {H : Hp} {G : Addr} {l2 : List (Int × Int)} {g : PF} (hG : H G = some (.dK (kvI l2))) (d : DI l2 g) (x : Int) {Q : VK}
    (hq : ∀ l' H', H' G = some (.dK (kvI l')) → DI l' (fun z => if z = x then none else g z) → l'.length ≤ l2.length → Off G H H' → Q (ov (g x)) H') :
    ∃ kvs k, H G = some (.dK kvs) ∧ V.int x = kV k ∧ (∀ v, valV kvs k = some v → Q v (upd H G (.dK (dropK kvs k)))) ∧ (valV kvs k = none → Q .non H) := by
  refine ⟨_, Sum.inl x, hG, rfl, fun v hv => ?_, fun hv => ?_⟩
  · rw [val_di d] at hv
    cases e : g x with
    | none => rw [e] at hv; cases hv
    | some y =>
      rw [e] at hv
      cases hv
      have := hq (l2.filter fun p => decide (p.1 ≠ x)) (upd H G (.dK (dropK (kvI l2) (Sum.inl x)))) (by rw [upd_same, drop_kvI]) (di_drop d x) (List.length_filter_le ..) Off.lock
      rw [ov_some e] at this
      exact this
  · rw [val_di d] at hv
    cases e : g x with
    | some y => rw [e] at hv; cases hv
    | none =>
      have e2 : (fun z => if z = x then none else g z) = g := by
        funext z
        by_cases h : z = x
        · rw [if_pos h, h, e]
        · rw [if_neg h]
      have := hq l2 H hG (by rw [e2]; exact d) (Nat.le_refl _) (fun _ _ _ h => h)
      rw [ov_none e] at this
      exact this
theorem pop2R {i : Nat} {ty : TE} {σ : L2.St} {H : Hp} {Q : VK} {G : Addr} {l2 : List (Int × Int)} {g : PF} (hσ : σ[i]? = some (some (.ref G))) (hG : H G = some (.dK (kvI l2))) (d : DI l2 g) (x : Int) (hty : ∀ R : VK, R (.int x) H → ty σ H R)
    (hq : ∀ l' H', H' G = some (.dK (kvI l')) → DI l' (fun z => if z = x then none else g z) → l'.length ≤ l2.length → Off G H H' → Q (ov (g x)) H') : tDPop2 (tVar i) ty (tC .non) σ H Q :=
  ⟨_, hσ, G, rfl, isD_of hG, hty _ (pop2 hG d x hq)⟩
theorem inv_diL {n : Int} {l : List (Int × Int)} {f : PF} (d : DI l f) (wf : WF n f) : DI (madeI (fun _ _ => true) (fun _ y => y) (fun x _ => x) l) (inv n f) := by
  refine di_of (nd_tgt (d.vals wf)) fun a b => ?_
  rw [mem_madeI, inv_iff wf]
  constructor
  · rintro ⟨x, y, h1, _, rfl, rfl⟩
    exact d.mem.mp h1
  · intro h
    exact ⟨b, a, d.mem.mpr h, rfl, rfl, rfl⟩
def spAft : Sp := fun vs H Q _ => ∃ (d a : Addr) (l : List (Int × Int)) (n : Int) (f : PF) (ts : List Addr) (ss : List Stp), vs = [.ref d, .ref a] ∧ H d = some (.dK (kvI l)) ∧ DI l f ∧ WF n f ∧ l.length ≤ 300 ∧ H a = some (.lst (ts.map V.ref)) ∧ Paired (fun t s => H t = some (.tup (Stp.vs s))) ts ss ∧ (∀ s ∈ ss, Stp.ok n s) ∧ ss.length ≤ 100 ∧
  ∀ p l' H', Same H H' → H p = none → H' p = some (.dK (kvI l')) → DI l' (stps f ss) → l'.length ≤ 600 → Q (.ref p) H'
section
variable {P : Program} {w : World} {K : PySem.W.Frag} {mg : Str → Option Value} {base : Heap}
theorem ok_after_list (T : Txt K mg) : FnR P w K mg base CX0 2 T.f_after_list spAft := by
  refine T.A_after_list.ok sc_after_list (fun vs H Q E h => ?_) (fun cdv A outer s H vs Q E hr h => ?_)
  · obtain ⟨d, a, l, n, f, ts, ss, rfl, _⟩ := h
    rfl
  · obtain ⟨d, a, l, n, f, ts, ss, rfl, hd, di, wf, hl, ha, hp, hok, hls, q⟩ := h
    have hu := hu_of hr
    refine ⟨_, (pss_cons (ps_set (i := 2) sc_after_list.nd rfl (Or.inl rfl) (pe_callTy call_dictD (by rfl) T.n_dict (by decide +kernel) (pa_cons (pv 0) pa_nil)))
      (pss_cons (ps_lock (ps_setDc (i := 3) (own := [("source", 7), ("target", 8)]) (g := (gTup K 2 (gCons (gName 7) (gCons (gName 8) gNil)))) (tt := tYes) rfl sc_after_list.nd rfl rfl (sw_dict rfl rfl rfl (by decide +kernel)) (pi_items (pv 0)) (blkOk_by (own := [("source", 7), ("target", 8)]) (N := n_after_list) (sc := defScope s_after_list) (by decide +kernel)) (fun _ _ _ _ _ => (pg_tup rfl (pgs_cons (pg_name (i := 7) sc_after_list.nd rfl (Or.inl rfl)) (pgs_cons (pg_name (i := 8) sc_after_list.nd rfl (Or.inl rfl)) pgs_nil)))) (fun _ _ _ _ _ => pts_nil) (fun _ _ _ _ _ => (pv 8)) (fun _ _ _ _ _ => (pv 7))))
      (pss_cons (ps_for PassesOwn.never rfl (pi_list (pv 1)) (pg_name (i := 4) sc_after_list.nd rfl (Or.inl rfl))
        (pss_one (ps_if (pt_cmpR op_eq (pe_ix ix_tup (pv 4) pe_int (fun _ _ => rfl)) pe_str (nomark _))
        (pss_one (ps_if (pt_cmp (pc_din hu (pe_ix ix_tup (pv 4) pe_int (fun _ _ => rfl)) (pv 2)))
        (pss_one (ps_expr (pe_dpop1 (pv 3) (pe_dpop1 (pv 2) (pe_ix ix_tup (pv 4) pe_int (fun _ _ => rfl)) ⟨rfl, rfl, rfl, rfl⟩) ⟨rfl, rfl, rfl, rfl⟩))) pss_nil)) (pss_cons (ps_par (i := 5) (j := 6) rfl sc_after_list.nd rfl rfl (by decide) rfl rfl (pa_cons (pe_dpop2 (pv 3) (pe_ix ix_tup (pv 4) pe_int (fun _ _ => rfl)) pe_non ⟨rfl, rfl, rfl, rfl⟩) (pa_cons (pe_dpop2 (pv 3) (pe_ix ix_tup (pv 4) pe_int (fun _ _ => rfl)) pe_non ⟨rfl, rfl, rfl, rfl⟩) pa_nil)) (by rfl))
      (pss_one (ps_for PassesOwn.never rfl (pi_tup (pe_tup (pa_cons (pe_tup (pa_cons (pv 5) (pa_cons (pe_ix ix_tup (pv 4) pe_int (fun _ _ => rfl)) pa_nil))) (pa_cons (pe_tup (pa_cons (pv 6) (pa_cons (pe_ix ix_tup (pv 4) pe_int (fun _ _ => rfl)) pa_nil))) pa_nil)))) (pg_tup rfl (pgs_cons (pg_name (i := 7) sc_after_list.nd rfl (Or.inl rfl)) (pgs_cons (pg_name (i := 8) sc_after_list.nd rfl (Or.inl rfl)) pgs_nil)))
        (pss_one (ps_if (pt_cmpR op_notN (pv 7) pe_non (nomark _))
        (pss_one (ps_asg (pe_tup (pa_cons (pv 8) (pa_cons (pv 7) pa_nil))) (pg_tup rfl (pgs_cons (pg_sub (pv 2) (pv 7) (set_dict hu)) (pgs_cons (pg_sub (pv 3) (pv 8) (set_dict hu)) pgs_nil))))) pss_nil))))))))
      (pss_one (ps_ret (pv 2)))))), ?_⟩
    refine ⟨_, rfl, d, _, rfl, .inl hd, fun F nF => ?_⟩
    have hd1 := (Same.new (o := .dK (kvI l)) nF) _ _ hd
    refine lock_asg ?_
    refine dc_items (fun _ _ => true) (fun _ y => y) (fun x _ => .int x) hd1 (fun H' R r o => ⟨_, rfl, r⟩) (fun _ _ => rfl) ?_ ?_ ?_ ?_
    · intro x y hxy H1 o
      exact ⟨fun R r => r, fun _ => ⟨fun R r => ⟨_, rfl, r⟩, fun R r => ⟨_, rfl, r⟩⟩⟩
    · rw [madeD_I, kvI_keys]
      exact nd_inl (nd_tgt (di.vals wf))
    · exact small1000 (by omega)
    intro G H2 nG hG s2
    rw [madeD_I] at hG
    have nGF : F ≠ G := ne_of_none upd_same nG
    have s02 : Same H H2 := (Same.new nF).trans s2
    have nG0 : H G = none := (Same.new nF).free nG
    have hF2 := s2 _ _ (upd_same (H := H) (a := F) (o := .dK (kvI l)))
    dsimp only [tNext, tSeq]
    refine ⟨_, rfl, a, rfl, ⟨_, SqL.of (s02 _ _ ha)⟩, ?_⟩
    refine for_it (walk_list (xs := ts.map V.ref)) (fun i σ H' => ∃ v4 v5 v6 v7 v8 l1 l2 g, σ = [some (.ref d), some (.ref a), some (.ref F), some (.ref G), v4, v5, v6, v7, v8] ∧ Same H H' ∧ H' F = some (.dK (kvI l1)) ∧ H' G = some (.dK (kvI l2)) ∧ DI l1 (stps f (ss.take i)) ∧ DI l2 g ∧ Inv2 (stps f (ss.take i)) g ∧ l1.length ≤ 300 + 2 * i ∧ l2.length ≤ 300 + 2 * i)
      ⟨_, _, _, _, _, l, _, inv n f, rfl, s02, hF2, hG, di, inv_diL di wf, fun x y => inv_iff wf, by omega, Nat.le_trans (madeI_len ..) (by omega)⟩ (fun i σ H' _ ⟨_, _, _, _, _, _, _, _, _, z, _⟩ => SqL.of (z _ _ ha)) ?_ ?_
    · rintro i v σ Ha0 Ha hi ⟨v4, v5, v6, v7, v8, l1, l2, g, rfl, sa, hF, hG, d1, d2, iv, le1, le2⟩ ⟨rfl, ev⟩
      rw [List.getElem?_map] at ev
      obtain ⟨t, et, rfl⟩ : ∃ t, ts[i]? = some t ∧ v = .ref t := by
        cases e : ts[i]? with
        | none => rw [e] at ev; cases ev
        | some t => rw [e] at ev; cases ev; exact ⟨t, rfl, rfl⟩
      obtain ⟨sp, es, ht0⟩ := paired_at hp et
      have ht := sa _ _ ht0
      have hi2 : i < ss.length := (List.getElem?_eq_some_iff.mp es).1
      have hsk := hok sp (List.mem_of_getElem? es)
      have etk : stps f (ss.take (i + 1)) = stp1 (stps f (ss.take i)) sp := by rw [take_more es, stps_snoc]
      cases sp with
      | fg x =>
        refine ⟨_, rfl, t, _, 0, .str "forget", rfl, rfl, SqT.of ht, rfl, rfl, _, rfl, iteT ?_⟩
        refine ⟨_, rfl, t, _, 1, .int x, rfl, rfl, SqT.of ht, rfl, _, rfl, F, _, rfl, DGet.k (k := Sum.inl x) hF, _, rfl, ?_⟩
        rw [val_di d1, Option.isSome_map]
        cases ex : stps f (ss.take i) x with
        | none =>
          refine iteF ?_
          refine ⟨_, _, _, _, _, l1, l2, g, rfl, sa, hF, hG, ?_, d2, ?_, by omega, by omega⟩
          · rw [etk, fg_same ex]; exact d1
          · rw [etk, fg_same ex]; exact iv
        | some y =>
          refine iteT ?_
          have hG1 : (upd Ha F (.dK (dropK (kvI l1) (Sum.inl x)))) G = some (.dK (kvI l2)) := by rw [upd_ne nGF.symm]; exact hG
          refine ⟨_, rfl, G, rfl, isD_of hG, _, rfl, F, rfl, isD_of hF, _, rfl, t, _, 1, .int x, rfl, rfl, SqT.of ht, rfl, _, Sum.inl x, .int y, hF, rfl, (by rw [val_di d1, ex]; rfl), _, Sum.inl y, .int x, hG1, rfl, (by rw [val_di d2, (iv x y).mpr ex]; rfl), ?_⟩
          refine ⟨_, _, _, _, _, l1.filter fun p => decide (p.1 ≠ x), l2.filter fun p => decide (p.1 ≠ y), fun z => if z = y then none else g z, rfl, Same.put (Same.put sa nF) nG0, ?_, ?_, ?_, di_drop d2 y, ?_, ?_, ?_⟩
          · rw [upd_ne nGF, upd_same, drop_kvI]
          · rw [upd_same, drop_kvI]
          · rw [etk]; exact di_drop d1 x
          · rw [etk]; exact inv_fg iv ex
          · have := List.length_filter_le (fun p : Int × Int => decide (p.1 ≠ x)) l1
            omega
          · have := List.length_filter_le (fun p : Int × Int => decide (p.1 ≠ y)) l2
            omega
      | sw x y =>
        obtain ⟨_, _, _, _, hxy⟩ := hsk
        refine ⟨_, rfl, t, _, 0, .str "swap", rfl, rfl, SqT.of ht, rfl, rfl, _, rfl, iteF ?_⟩
        dsimp only [tSeq, tPar, tCons]
        refine pop2R rfl hG d2 x (fun R r => ⟨_, rfl, t, _, 1, .int x, rfl, rfl, SqT.of ht, rfl, r⟩) fun l3 H3 hG3 d3 le3 o3 => ?_
        have ht3 : H3 t = _ := o3 _ _ (ne_of ht hG (by intro z; cases z)) ht
        refine pop2R rfl hG3 d3 y (fun R r => ⟨_, rfl, t, _, 2, .int y, rfl, rfl, SqT.of ht3, rfl, r⟩) fun l4 H4 hG4 d4 le4 o4 => ?_
        have ht4 : H4 t = _ := o4 _ _ (ne_of ht3 hG3 (by intro z; cases z)) ht3
        have hF4 : H4 F = some (.dK (kvI l1)) := o4 _ _ nGF (o3 _ _ nGF hF)
        have e3 : (if y = x then none else g y) = g y := if_neg (Ne.symm hxy)
        rw [e3]
        have s4 : Same H H4 := fun b o e => by
          have nb : b ≠ G := fun z => by rw [z, nG0] at e; cases e
          exact o4 _ _ nb (o3 _ _ nb (sa _ _ e))
        refine ⟨_, _, rfl, _, rfl, _, rfl, t, _, 2, .int y, rfl, rfl, SqT.of ht4, rfl, two_le, fun t1 n1 => ⟨_, rfl, _, rfl, t, _, 1, .int x, rfl, rfl, SqT.of (carryNew n1 ht4), rfl, two_le, fun t2 n2 => ⟨two_le, fun t3 n3 => ⟨t3, rfl, ⟨_, SqT.of upd_same⟩, ?_⟩⟩⟩⟩
        have k1 : (upd (upd (upd H4 t1 (.tup [ov (g x), .int y])) t2 (.tup [ov (g y), .int x])) t3 (.tup [.ref t1, .ref t2])) t1 = some (.tup [ov (g x), .int y]) := by array_get_dec
        have k2 : (upd (upd (upd H4 t1 (.tup [ov (g x), .int y])) t2 (.tup [ov (g y), .int x])) t3 (.tup [.ref t1, .ref t2])) t2 = some (.tup [ov (g y), .int x]) := by array_get_dec
        have k3 : (upd (upd (upd H4 t1 (.tup [ov (g x), .int y])) t2 (.tup [ov (g y), .int x])) t3 (.tup [.ref t1, .ref t2])) t3 = some (.tup [.ref t1, .ref t2]) := upd_same
        have kF : (upd (upd (upd H4 t1 (.tup [ov (g x), .int y])) t2 (.tup [ov (g y), .int x])) t3 (.tup [.ref t1, .ref t2])) F = some (.dK (kvI l1)) := by array_get_dec
        have kG : (upd (upd (upd H4 t1 (.tup [ov (g x), .int y])) t2 (.tup [ov (g y), .int x])) t3 (.tup [.ref t1, .ref t2])) G = some (.dK (kvI l4)) := by array_get_dec
        have kS : Same H (upd (upd (upd H4 t1 (.tup [ov (g x), .int y])) t2 (.tup [ov (g y), .int x])) t3 (.tup [.ref t1, .ref t2])) := by array_mem_dec
        generalize upd (upd (upd H4 t1 (.tup [ov (g x), .int y])) t2 (.tup [ov (g y), .int x])) t3 (.tup [.ref t1, .ref t2]) = H7 at k1 k2 k3 kF kG kS
        refine for_it (walk_tup (xs := [.ref t1, .ref t2])) (fun j σ H' => ∃ v7 v8 m1 m2, σ = [some (.ref d), some (.ref a), some (.ref F), some (.ref G), some (.ref t), some (ov (g x)), some (ov (g y)), v7, v8] ∧ (∀ b o, b ≠ F → b ≠ G → H7 b = some o → H' b = some o) ∧ H' F = some (.dK (kvI m1)) ∧ H' G = some (.dK (kvI m2)) ∧
            DI m1 (if j = 0 then stps f (ss.take i) else if j = 1 then putO (stps f (ss.take i)) (g x) y else putO (putO (stps f (ss.take i)) (g x) y) (g y) x) ∧
            DI m2 (if j = 0 then (fun z => if z = y then none else if z = x then none else g z) else if j = 1 then putI (fun z => if z = y then none else if z = x then none else g z) y (g x) else putI (putI (fun z => if z = y then none else if z = x then none else g z) y (g x)) x (g y)) ∧ m1.length ≤ 300 + 2 * i + j ∧ m2.length ≤ 300 + 2 * i + j)
          ⟨v7, v8, l1, l4, rfl, (fun _ _ _ _ h => h), kF, kG, d1, d4, by omega, by omega⟩ (fun j σ H' _ ⟨_, _, _, _, _, z, _⟩ => SqT.of (z _ _ (ne_of k3 kF (by intro z; cases z)) (ne_of k3 kG (by intro z; cases z)) k3)) ?_ ?_
        · rintro j v σ Hb0 Hb hj ⟨w7, w8, m1, m2, rfl, sb, bF, bG, e1, e2, lm1, lm2⟩ ⟨rfl, ev⟩
          have hj2 : j < 2 := hj
          have key : ∃ (tt : Addr) (o : Option Int) (tg : Int), v = .ref tt ∧ H7 tt = some (.tup [ov o, .int tg]) ∧
              (if j + 1 = 0 then stps f (ss.take i) else if j + 1 = 1 then putO (stps f (ss.take i)) (g x) y else putO (putO (stps f (ss.take i)) (g x) y) (g y) x) = putO (if j = 0 then stps f (ss.take i) else if j = 1 then putO (stps f (ss.take i)) (g x) y else putO (putO (stps f (ss.take i)) (g x) y) (g y) x) o tg ∧
              (if j + 1 = 0 then (fun z => if z = y then none else if z = x then none else g z) else if j + 1 = 1 then putI (fun z => if z = y then none else if z = x then none else g z) y (g x) else putI (putI (fun z => if z = y then none else if z = x then none else g z) y (g x)) x (g y)) = putI (if j = 0 then (fun z => if z = y then none else if z = x then none else g z) else if j = 1 then putI (fun z => if z = y then none else if z = x then none else g z) y (g x) else putI (putI (fun z => if z = y then none else if z = x then none else g z) y (g x)) x (g y)) tg o := by
            match j, hj, ev with
            | 0, _, ev => cases ev; exact ⟨t1, g x, y, rfl, k1, by simp, by simp⟩
            | 1, _, ev => cases ev; exact ⟨t2, g y, x, rfl, k2, by simp, by simp⟩
            | j + 2, hj, _ => exact absurd hj (by simp)
          obtain ⟨tt, o, tg, rfl, ht7, eF, eG⟩ := key
          have htt := sb _ _ (ne_of ht7 kF (by intro z; cases z)) (ne_of ht7 kG (by intro z; cases z)) ht7
          refine ⟨tt, _, rfl, SqT.of htt, rfl, ov o, [.int tg], rfl, .int tg, [], rfl, rfl, ?_⟩
          refine ⟨_, rfl, rfl, _, rfl, ?_⟩
          cases o with
          | none =>
            refine iteF ⟨_, _, m1, m2, rfl, sb, bF, bG, ?_, ?_, by omega, by omega⟩
            · rw [eF]; exact e1
            · rw [eG]; exact e2
          | some sr =>
            refine iteT ⟨_, rfl, _, rfl, two_le, fun u nu => ?_⟩
            have cF : (upd Hb u (.tup [.int tg, .int sr])) F = some (.dK (kvI m1)) := carryNew nu bF
            have cG : (upd Hb u (.tup [.int tg, .int sr])) G = some (.dK (kvI m2)) := carryNew nu bG
            obtain ⟨p1, q1, q2, q3⟩ := di_put e1 sr tg
            obtain ⟨p2, r1, r2, r3⟩ := di_put e2 tg sr
            refine ⟨u, _, rfl, SqT.of upd_same, rfl, .int tg, [.int sr], rfl, _, rfl, _, rfl, F, _, rfl, DPut.k (k := Sum.inl sr) cF (small1000 (by rw [kvI_length]; omega)), .int sr, [], rfl, _, rfl, _, rfl, G, _, rfl, DPut.k (k := Sum.inl tg) (by rw [upd_ne nGF.symm]; exact cG) (small1000 (by rw [kvI_length]; omega)), rfl, ?_⟩
            refine ⟨_, _, p1, p2, rfl, fun b o h1 h2 e => ?_, ?_, ?_, ?_, ?_, by omega, by omega⟩
            · rw [upd_ne h2, upd_ne h1]
              exact carryNew nu (sb _ _ h1 h2 e)
            · rw [upd_ne nGF, upd_same, q1]
            · rw [upd_same, r1]
            · rw [eF]; exact q3
            · rw [eG]; exact r3
        · rintro σ Hb ⟨w7, w8, m1, m2, rfl, sb, bF, bG, e1, e2, lm1, lm2⟩
          refine ⟨_, _, _, _, _, m1, m2, _, rfl, fun b o e => sb _ _ (ne_of_none e nF) (ne_of_none e nG0) (kS _ _ e), bF, bG, ?_, e2, ?_, ?_, ?_⟩
          · rw [etk, ← sw_found iv hxy]; exact e1
          · rw [etk, show (if [V.ref t1, V.ref t2].length = 0 then (fun z => if z = y then none else if z = x then none else g z) else if [V.ref t1, V.ref t2].length = 1 then putI (fun z => if z = y then none else if z = x then none else g z) y (g x) else putI (putI (fun z => if z = y then none else if z = x then none else g z) y (g x)) x (g y)) = swI g x y from sw_places g hxy]
            exact inv_sw iv hxy
          · have : [V.ref t1, V.ref t2].length = 2 := rfl
            omega
          · have : [V.ref t1, V.ref t2].length = 2 := rfl
            omega
    · rintro σ H' ⟨v4, v5, v6, v7, v8, l1, l2, g, rfl, sa, hF, hG, d1, d2, iv, le1, le2⟩
      rw [List.length_map, paired_len hp, List.take_length] at d1
      rw [List.length_map, paired_len hp] at le1
      exact ⟨_, rfl, q F l1 H' sa nF hF d1 (by omega)⟩
end
end My
namespace My
open PySem L2 U StX PM
theorem stepB_of {n : Int} {s : Stp} (h : s.ok n) : stepB n s.vs = true := by
  cases s with
  | fg a =>
    obtain ⟨h1, h2⟩ := h
    have h3 : a ≤ n - 1 := by omega
    have hs : ¬ (Str.ofString "forget" = Str.ofString "swap") := by decide +kernel
    simp [stepB, Stp.vs, nth, isSt, inR, h1, h3, hs]
  | sw a b =>
    obtain ⟨h1, h2, h3, h4, h5⟩ := h
    have h6 : a ≤ n - 1 := by omega
    have h7 : b ≤ n - 1 := by omega
    simp [stepB, Stp.vs, nth, isSt, inR, h1, h3, h5, h6, h7]
theorem known_vs {C : Addr} {H : Hp} (s : Stp) : ∀ z ∈ s.vs, knownV C H z := by
  cases s <;> (intro z hz; simp only [Stp.vs, List.mem_cons, List.not_mem_nil, or_false] at hz)
  · rcases hz with rfl | rfl | rfl <;> trivial
  · rcases hz with rfl | rfl <;> trivial
end My
namespace My
open PySem L2 U StX PM
theorem sw_diL {l : List (Int × Int)} {f : PF} (d : DI l f) (a b : Int) : DI (madeI (fun _ _ => true) (fun x _ => x) (fun _ y => if y = a then b else if y = b then a else y) l) (stp1 f (.sw a b)) := by
  refine di_of (nd_src d.nd) fun x z => ?_
  rw [mem_madeI]
  show _ ↔ ((f x).map fun y => if y = a then b else if y = b then a else y) = some z
  constructor
  · rintro ⟨x', y, h1, _, rfl, rfl⟩
    rw [d.mem.mp h1]; rfl
  · intro h
    cases e : f x with
    | none => rw [e] at h; cases h
    | some y =>
      rw [e] at h
      exact ⟨x, y, d.mem.mpr e, rfl, rfl, Option.some.inj h⟩
theorem di_two {a b : Int} (h : a ≠ b) : DI [(a, b), (b, a)] (fun y => if y = a then some b else if y = b then some a else none) := by
  refine ⟨by simp [h], fun x => ?_⟩
  rw [lk_cons, lk_cons]
  show (if a = x then some b else if b = x then some a else none) = _
  simp only [eq_comm]
theorem get_two (a b y : Int) : (((if y = a then some b else if y = b then some a else none : Option Int).map V.int).getD (.int y)) = V.int (if y = a then b else if y = b then a else y) := by
  by_cases h1 : y = a
  · simp [h1]
  · by_cases h2 : y = b
    · rw [if_neg h1, if_pos h2, if_neg h1, if_pos h2]; rfl
    · simp [h1, h2]
end My
namespace My
open PySem L2 U StX PM
/-! ### several maps -/
def MapsAt (C : Addr) (H : Hp) (n : Int) (xs : List V) (fs : List PF) : Prop := Paired (fun v f => ∃ a, v = V.ref a ∧ IsMap C H a n f) xs fs
theorem MapsAt.same {C : Addr} {H H' : Hp} {n : Int} {xs : List V} {fs : List PF} (h : MapsAt C H n xs fs) (s : Same H H') : MapsAt C H' n xs fs := PySem.Paired.map h fun v _ f ⟨a, e, m⟩ => ⟨a, e, m.same s⟩
theorem MapsAt.get {C : Addr} {H : Hp} {n : Int} {xs : List V} {fs : List PF} (h : MapsAt C H n xs fs) {i : Nat} {v : V} (e : xs[i]? = some v) : ∃ a f, v = .ref a ∧ fs[i]? = some f ∧ IsMap C H a n f := by
  obtain ⟨f, e2, a, e3, m⟩ := paired_at h e
  exact ⟨a, f, e3, e2, m⟩
end My
namespace My
open PySem L2 U StX PM
/-! ### products of several maps -/
def prodL : List PF → PF
  | [] => emp
  | f :: r => r.foldl mul f
def lenF (n : Int) (f : PF) : Int := ((tab n f).length : Nat)
def srv (n : Int) (f0 : PF) (fr : List PF) (k : Nat) : List Int := (List.range (k + 1)).map fun i => lenF n ((fr.take i).foldl mul f0)
def lossL (n : Int) (fs : List PF) : List Int := fs.map fun f => n - lenF n f
def maxZ (ls : List Int) : Int := ls.foldl (fun m x => if m > x then m else x) 0
def spLen (C : Addr) : Sp := fun vs H Q _ => ∃ m n f, vs = [.ref m] ∧ IsMap C H m n f ∧ Q (.int (lenF n f)) H
section
variable {P : Program} {w : World} {K : PySem.W.Frag} {mg : Str → Option Value} {base : Heap}
theorem ok_len (T : Txt K mg) : FnR P w K mg base CX0 1 T.f_Map__len (spLen T.C_Map) := by
  refine T.A_Map__len.ok sc_Map__len (fun vs H Q E h => ?_) (fun cdv A outer s H vs Q E hr h => ?_)
  · obtain ⟨m, n, f, rfl, _⟩ := h
    rfl
  · obtain ⟨m, n, f, rfl, ⟨⟨dx, D, h1, h2⟩, _⟩, q⟩ := h
    refine ⟨_, (pss_one (ps_ret (pe_callB call_lenD (by rfl) T.n_len (by decide +kernel) (pa_cons (pe_fld (pv 0) rfl) pa_nil)))), ?_⟩
    have q' : Q (.int ((kvI (tab n f)).length : Nat)) H := by rw [kvI_length]; exact q
    exact ⟨_, rfl, m, _, dx, _, _, rfl, h1, T.o_Map.cl, T.na_own_arrows_Map, flds_arrows _ _, D, _, rfl, h2, q'⟩
end
end My
namespace My
open PySem L2 U StX PM
/-- [(x, ..) for x in d if ..] -/
theorem lc_keysT {d : Addr} {l : List (Int × Int)} {te : TE} {i : Nat} {tt : TT} {tv : TE} {vs : List Nat} {σ : L2.St} {H : Hp} {Q : VK} (c : Int → Int → Bool) (vi : Int → Int → Int)
    (hd : H d = some (.dK (kvI l))) (hte : ∀ H' (R : VK), R (.ref d) H' → Off d H H' → te σ H' R)
    (hw : ∀ a, wipe ((wipe σ vs).set i a) vs = wipe σ vs)
    (hb : ∀ x y, (x, y) ∈ l → ∀ H1, Off d H H1 → Rd H1 d (.dK (kvI l)) → (∀ R : Bool → Hp → Prop, R (c x y) H1 → tt ((wipe σ vs).set i (some (.int x))) H1 R) ∧
      (c x y = true → ∀ R : VK, (∀ p, H1 p = none → R (.ref p) (upd H1 p (.tup [.int x, .int (vi x y)]))) → tv ((wipe σ vs).set i (some (.int x))) H1 R))
    (hz : l.length < sizeLine)
    (hq : ∀ (D : Addr) (ps : List Addr) (H' : Hp), H D = none → H' D = some (.lst (ps.map V.ref)) → Paired (fun p (kv : Key × V) => H' p = some (.tup [kV kv.1, kv.2])) ps (kvI (madeI c (fun x _ => x) vi l)) → L2.Same H H' → Q (.ref D) H') :
    tLockE (tLc (iKeys te) (gName i) tt tv vs) σ H Q := by
  refine ⟨d, _, hd, trivial, fun od => ?_⟩
  refine hte _ _ ⟨d, od, rfl, .inl ⟨kvI l, upd_same, fun D hD => ?_⟩⟩ Off.lock
  have hDd : D ≠ d := fun e => by rw [e, upd_same] at hD; cases hD
  have hD0 : H D = none := by rw [upd_ne hDd] at hD; exact hD
  refine lc_it walk_keys (fun k H' => H' d = some (.frz od (.dK (kvI l))) ∧ Off d H H' ∧ ∃ ps : List Addr, H' D = some (.lst (ps.map V.ref)) ∧ ps.length ≤ k ∧ (∀ p ∈ ps, p ≠ D ∧ p ≠ d) ∧ Paired (fun p (kv : Key × V) => H' p = some (.tup [kV kv.1, kv.2])) ps (kvI (madeI c (fun x _ => x) vi (l.take k)))) ⟨?_, Off.lock.mut hD0, [], upd_same, Nat.le_refl _, (fun p h => nomatch h), .nil⟩ (fun k H' _ p => p.1) ?_ ?_
  · rw [upd_ne hDd.symm]; exact upd_same
  · rintro k v H' H'' hk ⟨p1, p2, ps, p3, p4, p5, p6⟩ ⟨rfl, kk, vv, e1, rfl⟩
    obtain ⟨x, y, exy, rfl, rfl⟩ := kvI_get e1
    rw [kvI_length] at hk
    refine ⟨hw _, ?_⟩
    obtain ⟨b1, b2⟩ := hb x y (List.mem_of_getElem? exy) _ p2 (.inr ⟨od, p1⟩)
    refine b1 _ ?_
    have st := madeI_step (c := c) (kf := fun x _ => x) (vi := vi) exy
    cases hc : c x y with
    | true =>
      rw [hc, if_pos rfl] at st
      refine iteT (b2 hc _ fun p hp => ⟨_, carryNew hp p3, by rw [List.length_map]; omega, ?_⟩)
      have hpD : p ≠ D := (ne_of_none p3 hp).symm
      have hpd : p ≠ d := (ne_of_none p1 hp).symm
      refine ⟨?_, (p2.tr (Off.new hp)).mut hD0, ps ++ [p], ?_, ?_, ?_, ?_⟩
      · rw [upd_ne hDd.symm, upd_ne hpd.symm]; exact p1
      · rw [upd_same, List.map_append]; rfl
      · rw [List.length_append, List.length_singleton]; omega
      · intro q hq
        rcases List.mem_append.mp hq with h | h
        · exact p5 q h
        · rw [List.mem_singleton] at h
          subst h
          exact ⟨hpD, hpd⟩
      · rw [st, show kvI (madeI c (fun x _ => x) vi (l.take k) ++ [(x, vi x y)]) = kvI (madeI c (fun x _ => x) vi (l.take k)) ++ [(Sum.inl x, V.int (vi x y))] from by unfold kvI; rw [List.map_append]; rfl]
        refine PySem.Paired.snoc (p6.map fun q hq kv e => ?_) ?_
        · rw [upd_ne (p5 q hq).1, upd_ne (ne_of_none e hp)]; exact e
        · rw [upd_ne hpD]; exact upd_same
    | false =>
      rw [hc, if_neg Bool.false_ne_true, List.append_nil] at st
      refine iteF ⟨p1, p2, ps, p3, by omega, p5, ?_⟩
      rw [st]
      exact p6
  · rintro H' ⟨p1, p2, ps, p3, p4, p5, p6⟩
    rw [kvI_length, List.take_length] at p6
    refine ⟨p1, hq D ps _ hD0 ?_ (p6.map fun q hq kv e => ?_) (p2.back hd)⟩
    · rw [upd_ne hDd]
      exact p3
    · rw [upd_ne (p5 q hq).2]; exact e
section
variable {P : Program} {w : World} {K : PySem.W.Frag} {mg : Str → Option Value} {base : Heap}
theorem rd_get {H : Hp} {d : Addr} {l : List (Int × Int)} {f : PF} (h : Rd H d (.dK (kvI l))) (di : DI l f) (i : Int) : DGet H d (.int i) ((f i).map V.int) := by
  have : DGet H d (.int i) _ := .inl ⟨_, Sum.inl i, h, rfl, rfl⟩
  rw [valV_kvI, di.at_] at this
  exact this
theorem ok_l_product (T : Txt K mg) : FnR P w K mg base CX0 2 T.f_l_product spTimes := by
  refine T.A_l_product.ok sc_l_product (fun vs H Q E h => ?_) (fun cdv A outer s H vs Q E hr h => ?_)
  · obtain ⟨d1, d2, l1, l2, n, f, g, rfl, _⟩ := h
    rfl
  · obtain ⟨d1, d2, l1, l2, n, f, g, rfl, h1, h2, di1, di2, wf, wg, hl, q⟩ := h
    have hu := hu_of hr
    refine ⟨_, (pss_one (ps_ret (pe_callTy (call_dictP rfl) (by rfl) T.n_dict (by decide +kernel) (pa_cons (pe_lock (pe_lc (own := [("_law_source", 2)]) (g := (gName 2)) rfl sc_l_product.nd (pi_keys (pv 0)) (blkOk_by (own := [("_law_source", 2)]) (N := n_l_product) (sc := defScope s_l_product) (by decide +kernel)) (fun _ _ _ _ _ => (pg_name (i := 2) sc_l_product.nd rfl (Or.inl rfl))) (fun _ _ _ _ _ => (pts_one (pt_cmp (pc_din hu (pe_dget hu (pv 0) (pv 2) (fun _ _ => rfl)) (pv 1))))) (fun _ _ _ _ _ => (pe_tup (pa_cons (pv 2) (pa_cons (pe_dget hu (pv 1) (pe_dget hu (pv 0) (pv 2) (fun _ _ => rfl)) (fun _ _ => rfl)) pa_nil)))))) pa_nil)))), ?_⟩
    refine lc_keysT (fun _ y => (g y).isSome) (fun _ y => (g y).getD 0) h1 (fun H' R r o => ⟨_, rfl, r⟩) (fun _ => rfl) (fun x y hxy H1 o ho => ?_) (small1000 hl) (fun D ps H' nD hD hp s1 => ?_)
    · have h2' : Rd H1 d2 (.dK (kvI l2)) := by
        by_cases e : d2 = d1
        · subst e
          rw [h1] at h2
          rw [← HO.dK.inj (Option.some.inj h2)]
          exact ho
        · exact .inl (o _ _ e h2)
      have g1 := rd_get ho di1 x
      rw [di1.mem.mp hxy] at g1
      have g2 := rd_get h2' di2 y
      refine ⟨fun R r => ?_, fun hc R r => ?_⟩
      · refine ⟨_, rfl, _, rfl, d1, .int y, rfl, g1, _, rfl, d2, _, rfl, g2, _, rfl, ?_⟩
        rw [Option.isSome_map]
        exact r
      · cases hv : g y with
        | none => rw [hv] at hc; cases hc
        | some z =>
          rw [hv] at r g2
          exact ⟨_, rfl, _, rfl, _, rfl, _, rfl, d1, .int y, rfl, g1, d2, .int z, rfl, g2, two_le, fun p hp => r p hp⟩
    · refine dictP_of hD hp (mul_diL di1) fun p l np hl' dl => ?_
      exact q p l _ (s1.trans (Same.new np)) (s1.free np) upd_same dl (Nat.le_trans hl' (madeI_len ..))
/-- the law's draw of a map, rare or not -/
def spDrw2 : Sp := fun vs H Q _ => ∃ (p : Addr) (n : Int), vs = [.ref p, .int n] ∧ PoolAt H p ∧ 1 ≤ n ∧ n ≤ 300 ∧
  ∀ r H' l, H r = none → H' r = some (.dK (kvI l)) → DI l (lk l) → WF n (lk l) → l.length ≤ 1000 → PoolAt H' p → Off p H H' → Q (.ref r) H'
theorem ok_l_arrR (T : Txt K mg) : FnR P w K mg base CX0 2 T.f_l_arrows spDrw2 := by
  refine T.A_l_arrows.ok sc_l_arrows (fun vs H Q E h => ?_) (fun cdv A outer s H vs Q E hr h => ?_)
  · obtain ⟨p, n, rfl, _⟩ := h
    rfl
  · obtain ⟨p, n, rfl, pool, h1, h3, q⟩ := h
    have hu := hu_of hr
    refine ⟨_, (pss_cons (ps_par3 (i := 2) (j := 3) (l := 4) rfl sc_l_arrows.nd rfl rfl rfl (by decide) (by decide) (by decide) rfl rfl rfl (pa_cons (pe_listRg rfl rfl T.n_list (prg_1 rfl T.n_range (pv 1))) (pa_cons pe_dnewK (pa_cons (pe_op op_add pe_int (pe_callR (ok_draw T) (hr.mono (by decide)) T.A_l_draw.kp rfl T.g_l_draw pass0 (pa_cons (pv 0) (pa_cons pe_int pa_nil)))) pa_nil))) (by rfl))
      (pss_cons (ps_for PassesOwn.never rfl (pi_range1 rfl T.n_range (pa_cons (pv 1) pa_nil)) (pg_name (i := 5) sc_l_arrows.nd rfl (Or.inl rfl))
        (pss_one (ps_if (PW.pt (pw_or (pt_cmpR op_gt (pe_callR (ok_draw T) (hr.mono (by decide)) T.A_l_draw.kp rfl T.g_l_draw pass0 (pa_cons (pv 0) (pa_cons (pv 4) pa_nil))) pe_int (nomark _)) (pw_or1 (pt_cmpR op_eq (pv 4) pe_int (nomark _)))))
        (pss_one (ps_dput hu (pv 3) (pv 5) (pe_bm PySem.F.plainAttrs_list PySem.F.slot_list_pop PySem.F.type_list_pop mt_popAt (pv 2) (pa_cons (pe_callR (ok_draw T) (hr.mono (by decide)) T.A_l_draw.kp rfl T.g_l_draw pass0 (pa_cons (pv 0) (pa_cons (pe_callB call_len_seq (by rfl) T.n_len (by decide +kernel) (pa_cons (pv 2) pa_nil)) pa_nil))) pa_nil)) rfl)) pss_nil)))
      (pss_one (ps_ret (pv 3))))), ?_⟩
    refine ⟨_, rfl, n, rfl, RgOk.of_le (by decide) (by omega) (by decide) (by omega), fun lf hlf => ?_⟩
    intro fo hfo
    have lf0 : H lf = none := hlf
    have fo0 : H fo = none := (Same.new hlf).free hfo
    have npl : p ≠ lf := pool.ne lf0
    have npf : p ≠ fo := pool.ne fo0
    have nlf : lf ≠ fo := ne_of_none upd_same hfo
    refine draw_R rfl (fun R r => r) ((pool.put npl).put npf) (by decide) (by decide) fun w5 H1 w0 w1 pool1 off1 => ⟨_, _, rfl, rfl, ?_⟩
    refine ⟨_, _, _, rfl, ?_⟩
    have lf1 : H1 lf = some (.lst (((List.range n.toNat).map fun (i : Nat) => (i : Int)).map V.int)) := by
      rw [← rg0]
      exact off1 _ _ npl.symm (carryNew hfo upd_same)
    have fo1 : H1 fo = some (.dK (kvI [])) := off1 _ _ npf.symm upd_same
    have offH : Off p H H1 := ((Off.new hlf).tr (Off.new hfo)).tr off1
    refine ⟨_, rfl, n, rfl, by omega, by omega, ?_⟩
    refine for_it (walk_range (lo := 0) (n := n.toNat)) (fun i σ H' => ∃ v5 l ns, σ = [some (.ref p), some (.int n), some (.ref lf), some (.ref fo), some (.int (1 + w5)), v5] ∧ PoolAt H' p ∧ Off p H H' ∧ H' lf = some (.lst (ns.map V.int)) ∧ H' fo = some (.dK (kvI l)) ∧ Drw n i l ns)
      ⟨none, [], _, rfl, pool1, offH, lf1, fo1, drw0 n⟩ (fun _ _ _ _ _ => trivial) ?_ ?_
    · rintro i v σ Ha0 Ha hi ⟨v5, l, ns, rfl, poola, offa, lfa, foa, drw⟩ ⟨rfl, rfl⟩
      refine draw_R rfl (fun R r => ⟨_, rfl, r⟩) poola (by omega) (by omega) fun r2 H2 r20 r21 pool2 off2 => ⟨_, _, rfl, rfl, _, rfl, ?_⟩
      have lf2 := off2 _ _ npl.symm lfa
      have fo2 := off2 _ _ npf.symm foa
      have o2 := offa.tr off2
      have hlen := drw.le
      have hln := drw.ln
      refine ifD (fun h => iteT ?_) (fun h => ⟨_, rfl, rfl, _, rfl, ifD (fun h' => ?_) (fun h' => ?_)⟩)
      rotate_left 2
      · exact ⟨_, l, ns, rfl, pool2, o2, lf2, fo2, drw.more⟩
      all_goals
        refine ⟨_, rfl, .inl ⟨rfl, _, SqL.of lf2⟩, ?_⟩
        refine draw_R (n := (ns.length : Int)) rfl (fun R r => ⟨_, rfl, lf, _, rfl, .inl (SqL.of lf2), by rw [List.length_map]; exact r⟩) pool2 (by omega) (by omega) fun r4 H4 r40 r41 pool4 off4 => ?_
        obtain ⟨y, ey⟩ : ∃ y, ns[r4.toNat]? = some y := ⟨_, List.getElem?_eq_getElem (by omega)⟩
        obtain ⟨d1, d2⟩ := drw.put ey
        have lf4 := off4 _ _ npl.symm lf2
        have fo4 := off4 _ _ npf.symm fo2
        refine ⟨lf, _, r4, r4.toNat, .int y, rfl, rfl, lf4, by omega, by omega, ?_, get_map ey, ?_⟩
        · rw [List.length_map]
          exact PySem.seqIndex_of r40 (by omega)
        refine ⟨_, rfl, _, rfl, fo, _, rfl, DPut.k (k := Sum.inl (0 + (i : Nat) : Int)) (kvs := kvI l) (by rw [upd_ne nlf.symm]; exact fo4) (small1000 (by rw [kvI_length]; omega)), ?_⟩
        rw [Int.zero_add, putK_kvI d2]
        refine ⟨_, _, ns.eraseIdx r4.toNat, rfl, (pool4.put npl).put npf, ?_, ?_, upd_same, d1⟩
        · exact Off.put (Off.put (o2.tr off4) lf0) fo0
        · rw [upd_ne nlf, upd_same]
          congr 2
          apply List.ext_getElem?
          intro m
          simp [List.getElem?_eraseIdx]
          split <;> rfl
    · rintro σ Ha ⟨v5, l, ns, rfl, p1, p2, p3, p4, p5⟩
      have := p5.ln
      exact ⟨_, rfl, q fo Ha l fo0 p4 ⟨p5.kn, fun _ => rfl⟩ (p5.wf (by omega)) (by omega) p1 p2⟩
end
end My
namespace My
open PySem L2 U StX PM
/-- what the four calls give -/
structure Res (C : Addr) (H : Hp) (R r sv tp : Addr) (n : Int) (f0 : PF) (fr : List PF) : Prop where
  l : H R = some (.lst [.ref r, .int (n - lenF n (prodL (f0 :: fr))), .ref sv, .ref tp])
  m : IsMap C H r n (prodL (f0 :: fr))
  s : H sv = some (.lst ((srv n f0 fr fr.length).map V.int))
  t : H tp = some (.tup [.int (maxZ (lossL n (f0 :: fr))), .int (if (lossL n (f0 :: fr)).sum < n then (lossL n (f0 :: fr)).sum else n)])
theorem Res.same {C : Addr} {H H' : Hp} {R r sv tp : Addr} {n : Int} {f0 : PF} {fr : List PF} (h : Res C H R r sv tp n f0 fr) (s : Same H H') : Res C H' R r sv tp n f0 fr := ⟨s _ _ h.l, h.m.same s, s _ _ h.s, s _ _ h.t⟩
end My
namespace My
open PySem L2 U StX PM
def TabsAt (H : Hp) (n : Int) (ds : List Addr) (fs : List PF) : Prop := Paired (fun d f => ∃ l, H d = some (.dK (kvI l)) ∧ DI l f ∧ WF n f) ds fs
theorem TabsAt.same {H H' : Hp} {n : Int} {ds : List Addr} {fs : List PF} (h : TabsAt H n ds fs) (s : Same H H') : TabsAt H' n ds fs := PySem.Paired.map h fun v _ f ⟨l, e, d, w⟩ => ⟨l, s _ _ e, d, w⟩
theorem TabsAt.get {H : Hp} {n : Int} {ds : List Addr} {fs : List PF} (h : TabsAt H n ds fs) {i : Nat} {d : Addr} (e : ds[i]? = some d) : ∃ l f, fs[i]? = some f ∧ H d = some (.dK (kvI l)) ∧ DI l f ∧ WF n f := by
  obtain ⟨f, e2, l, h1, h2, h3⟩ := paired_at h e
  exact ⟨l, f, e2, h1, h2, h3⟩
theorem pick2 (c : Bool) (x y : V) : atI [x, y] (if c = true then 1 else 0) = some (if c = true then y else x) := by
  cases c <;> rfl
end My
namespace My
open PySem L2 U StX PM
theorem MapsAt.off {C p : Addr} {H H' : Hp} {n : Int} {xs : List V} {fs : List PF} (h : MapsAt C H n xs fs) (o : Off p H H') (hp : ∃ ys, H p = some (.lst ys)) : MapsAt C H' n xs fs := PySem.Paired.map h fun v _ f ⟨a, e, m⟩ => ⟨a, e, m.off o hp⟩
/-! ### == of results -/
def REq (C : Addr) : Addr → Addr → Hp → Prop := fun a b H => ∃ n f, IsMap C H a n f ∧ IsMap C H b n f
section
variable {P : Program} {w : World} {K : PySem.W.Frag} {mg : Str → Option Value} {base : Heap}
theorem ok_eqR (T : Txt K mg) : FnR P w K mg base CX0 6 T.f_Map__eq (spEq (REq T.C_Map)) := by
  refine (ok_eq T).imp ?_
  rintro vs H Q E ⟨a, b, rfl, ⟨n, f, h1, h2⟩, q⟩
  refine ⟨a, b, n, f, n, f, rfl, h1, h2, ?_⟩
  rw [eqB_self h1.wf]
  exact q H fun _ _ h => h
theorem eq_DI {X : Cx} (T : Txt X.K X.mg) : EqG X 6 (DIns T.C_Map (REq T.C_Map)) := eqG_own (ok_eqR T) T.m_Map__eq T.i_Map__eq pass0
theorem mon_DI (C : Addr) : Mon (DIns C (REq C)) := mon_ins fun a b H H' e ⟨n, f, h1, h2⟩ => ⟨n, f, h1.same e, h2.same e⟩
end
end My
namespace My
open PySem L2 U StX PM
theorem paired_ex {α β : Type} {R : α → β → Prop} : ∀ {xs : List α}, (∀ x ∈ xs, ∃ y, R x y) → ∃ ys, Paired R xs ys
  | [], _ => ⟨[], .nil⟩
  | x :: xs, h => by
    obtain ⟨y, hy⟩ := h x List.mem_cons_self
    obtain ⟨ys, hys⟩ := paired_ex (xs := xs) fun z hz => h z (List.mem_cons_of_mem _ hz)
    exact ⟨y :: ys, .cons hy hys⟩
/-- [.. for x in range(..)], each part a new object that draws make -/
theorem lc_rangeP {wi : TI} {i : Nat} {tv : TE} {vs : List Nat} {σ : L2.St} {H : Hp} {Q : VK} {n : Nat} {p : Addr} (pool : PoolAt H p) (Pk : Nat → Addr → Hp → Prop) (stab : ∀ k b H H' D, (∃ ys, H D = some (.lst ys)) → Off D H H' → Pk k b H → Pk k b H')
    (hwi : ∀ R : It → Hp → Prop, R (Itr 0 n) H → wi σ H R) (hw : ∀ a, wipe ((wipe σ vs).set i a) vs = wipe σ vs) (hn : n < sizeLine)
    (hb : ∀ k : Nat, k < n → ∀ H1, PoolAt H1 p → ∀ R : VK, (∀ b H2, PoolAt H2 p → Off p H1 H2 → H1 b = none → Pk k b H2 → R (.ref b) H2) → tv ((wipe σ vs).set i (some (.int (0 + (k : Nat))))) H1 R)
    (hq : ∀ (D : Addr) (bs : List Addr) (H' : Hp), PoolAt H' p → Off p H H' → H D = none → H' D = some (.lst (bs.map V.ref)) → bs.length = n → (∀ (k : Nat) (b : Addr), bs[k]? = some b → Pk k b H') → Q (.ref D) H') : tLc wi (gName i) tYes tv vs σ H Q := by
  refine hwi _ fun D hD => ?_
  have npD : p ≠ D := pool.ne hD
  refine lc_it (walk_range (lo := 0)) (fun k H' => PoolAt H' p ∧ Off p H H' ∧ ∃ bs : List Addr, H' D = some (.lst (bs.map V.ref)) ∧ bs.length = k ∧ ∀ (j : Nat) (b : Addr), bs[j]? = some b → Pk j b H') ⟨pool.put npD, Off.new hD, [], upd_same, rfl, fun j b e => by simp at e⟩ (fun _ _ _ _ => trivial) ?_ ?_
  · rintro k v H' H'' hk ⟨pool1, o1, bs, e1, hl, hbs⟩ ⟨rfl, rfl⟩
    refine ⟨hw _, yes_ ?_⟩
    refine hb k hk _ pool1 _ fun b H2 pool2 o2 nb eb => ?_
    have e2 := o2 _ _ npD.symm e1
    refine ⟨_, e2, by rw [List.length_map, hl]; omega, pool2.put npD, (o1.tr o2).mut hD, bs ++ [b], by rw [upd_same, List.map_append]; rfl, by simp [hl], fun j b' e => ?_⟩
    refine stab j b' H2 _ D ⟨_, e2⟩ Off.lock ?_
    by_cases hj : j < bs.length
    · rw [List.getElem?_append_left hj] at e
      exact stab _ _ _ _ p pool1.lst o2 (hbs j b' e)
    · have hl2 := (List.getElem?_eq_some_iff.mp e).1
      rw [List.length_append, List.length_singleton] at hl2
      have ej : j = k := by omega
      subst ej
      rw [List.getElem?_append_right (by omega), hl, Nat.sub_self] at e
      cases e
      exact eb
  · rintro H' ⟨pool1, o1, bs, e1, hl, hbs⟩
    exact hq D bs H' pool1 o1 hD e1 hl hbs
section
variable {P : Program} {w : World} {K : PySem.W.Frag} {mg : Str → Option Value} {base : Heap}
theorem TabsAt.off {p : Addr} {H H' : Hp} {n : Int} {ds : List Addr} {fs : List PF} (h : TabsAt H n ds fs) (o : Off p H H') (hp : ∃ ys, H p = some (.lst ys)) : TabsAt H' n ds fs := PySem.Paired.map h fun v _ f ⟨l, e, d, w⟩ => ⟨l, o _ _ (fun z => by obtain ⟨ys, e2⟩ := hp; rw [z, e2] at e; cases e) e, d, w⟩
end
end My
namespace My
open PySem L2 U StX PM
/-! ### names of users -/
def sgnOk (c : Str) : Bool := (!decide (c.cps.toList < ("a" : Str).cps.toList)) && (!decide (("z" : Str).cps.toList < c.cps.toList))
def nameS (z : Str) : Bool := decide (1 ≤ z.length) && decide (z.length ≤ 8) && z.cps.toList.all fun c => sgnOk ⟨#[c]⟩
def spNm : Sp := fun vs H Q _ => ∃ z : Str, vs = [.str z] ∧ nameS z = true ∧ ∀ H', Same H H' → Q (.bl true) H'
def spUsr : Sp := fun vs H Q _ => ∃ z : Str, vs = [.str z] ∧ nameS z = true ∧ ∀ H', Same H H' → Q .non H'
theorem cbS_of {r : List V → Hp → VK → Prop} {t : TE} {σ : L2.St} {H : Hp} {Q : VK} (h : t σ H fun x H1 => r [x] H1 Q) : tCB r (tCons t tNil) σ H Q := h
/-- [True for c in a text] -/
theorem lc_strT {te : TE} {i : Nat} {tv : TE} {vs : List Nat} {σ : L2.St} {H : Hp} {Q : VK} {z : Str} (hte : ∀ R : VK, R (.str z) H → te σ H R) (hw : ∀ a, wipe ((wipe σ vs).set i a) vs = wipe σ vs)
    (hb : ∀ c ∈ z.cps.toList, ∀ (H1 : Hp) (R : VK), R (.bl true) H1 → tv ((wipe σ vs).set i (some (.str ⟨#[c]⟩))) H1 R) (hz : z.cps.size < sizeLine)
    (hq : ∀ D H', H D = none → H' D = some (.lst ((List.replicate z.cps.size true).map V.bl)) → L2.Same H H' → Q (.ref D) H') : tLc (iStr te) (gName i) tYes tv vs σ H Q := by
  refine hte _ ⟨z, rfl, fun D hD => ?_⟩
  refine lc_it (walk_str (z := z)) (fun k H' => L2.Same H H' ∧ H' D = some (.lst ((List.replicate k true).map V.bl))) ⟨Same.new hD, upd_same⟩ (fun k H' _ p => trivial) ?_ ?_
  · rintro k v H' H'' hk ⟨s1, e1⟩ ⟨rfl, c, ec, rfl⟩
    refine ⟨hw _, yes_ ?_⟩
    have hm : c ∈ z.cps.toList := by
      have := Array.mem_of_getElem? ec
      simpa using this
    refine hb c hm _ _ ⟨_, e1, ?_, Same.put s1 hD, ?_⟩
    · rw [List.length_map, List.length_replicate]
      omega
    · rw [upd_same, List.replicate_succ', List.map_append]
      rfl
  · rintro H' ⟨s1, e1⟩
    exact hq D H' hD e1 s1
section
variable {P : Program} {w : World} {K : PySem.W.Frag} {mg : Str → Option Value} {base : Heap}
theorem ok_is_name (T : Txt K mg) : FnR P w K mg base CX0 2 T.f_is_name spNm := by
  refine T.A_is_name.ok sc_is_name (fun vs H Q E h => ?_) (fun cdv A outer s H vs Q E hr h => ?_)
  · obtain ⟨z, rfl, _⟩ := h
    rfl
  · obtain ⟨z, rfl, hz, q⟩ := h
    obtain ⟨_, h_MAX_NAME⟩ := T.v_MAX_NAME
    refine ⟨_, (pss_one (ps_ret (pe_and (pe_callB call_isi (by rfl) T.n_isinstance (by decide +kernel) (pa_cons (pv 0) (pa_cons (pe_bltn (v := .ty "str") (u := .type "str") (by rfl) T.n_str (by decide +kernel) rfl) pa_nil))) (pe_and (pe_chain op_le op_le pe_int (pe_callB call_len_str (by rfl) T.n_len (by decide +kernel) (pa_cons (pv 0) pa_nil)) (pe_glob (v := .int 8) rfl h_MAX_NAME ⟨_, rfl⟩)) (pe_one (pe_callB (cr_all rfl) (by rfl) T.n_all (by decide +kernel) (pa_cons (pe_lc (own := [("sign", 1)]) (g := (gName 1)) (tt := tYes) rfl sc_is_name.nd (pi_str (pv 0)) (blkOk_by (own := [("sign", 1)]) (N := n_is_name) (sc := defScope s_is_name) (by decide +kernel)) (fun _ _ _ _ _ => (pg_name (i := 1) sc_is_name.nd rfl (Or.inl rfl))) (fun _ _ _ _ _ => pts_nil) (fun _ _ _ _ _ => (pe_chain op_le_str op_le_str pe_str (pv 1) pe_str))) pa_nil))))))), ?_⟩
    unfold nameS at hz
    rw [Bool.and_eq_true, Bool.and_eq_true, decide_eq_true_eq, decide_eq_true_eq, List.all_eq_true] at hz
    obtain ⟨⟨z1, z2⟩, z3⟩ := hz
    refine ⟨_, rfl, _, _, _, _, true, rfl, .ty _, .base (.str _), kit_ty (by decide +kernel), _, rfl, iteT ?_⟩
    refine ⟨_, rfl, z, rfl, le_line (by omega), _, _, rfl, rfl, _, rfl, ?_⟩
    rw [decide_eq_true (show (1 : Int) ≤ ((z.length : Nat) : Int) by omega)]
    refine iteT ⟨_, _, rfl, rfl, _, rfl, ?_⟩
    rw [decide_eq_true (show ((z.length : Nat) : Int) ≤ (8 : Int) by omega)]
    refine iteT (cbS_of (lc_strT (z := z) (fun R r => ⟨_, rfl, r⟩) (fun _ => rfl) (fun c hc H1 R rr => ?_) (lt_line (by have : z.cps.size = z.length := rfl; omega)) (fun D H1 nD hD s1 => ?_)))
    · have h := z3 c hc
      unfold sgnOk at h
      rw [Bool.and_eq_true] at h
      refine ⟨_, rfl, _, _, rfl, rfl, _, rfl, ?_⟩
      rw [h.1]
      refine iteT ⟨_, _, rfl, rfl, ?_⟩
      rw [h.2]
      exact rr
    · refine ⟨D, _, rfl, SqL.of hD, ?_⟩
      have : (List.replicate z.cps.size true).all id = true := List.all_eq_true.mpr fun x hx => by rw [List.eq_of_mem_replicate hx]; rfl
      rw [this]
      exact q H1 s1
theorem ok_check_user (T : Txt K mg) : FnR P w K mg base CX0 3 T.f_check_user spUsr := by
  refine T.A_check_user.ok sc_check_user (fun vs H Q E h => ?_) (fun cdv A outer s H vs Q E hr h => ?_)
  · obtain ⟨z, rfl, _⟩ := h
    rfl
  · obtain ⟨z, rfl, hz, q⟩ := h
    refine ⟨_, (pss_one (ps_if (pt_not (pt_val (pe_callR (ok_is_name T) (hr.mono (by decide)) T.A_is_name.kp rfl T.g_is_name pass0 (pa_cons (pv 0) pa_nil))))
        (pss_one ps_never) pss_nil)), ?_⟩
    exact ⟨_, rfl, z, rfl, hz, fun H1 s1 => ⟨_, rfl, iteF (q H1 s1)⟩⟩
end
end My
namespace My
open PySem L2 U StX PM
/-! ### sessions -/
def sfl (m tl te : Addr) : List (Str × V) := [("own_present", .ref m), ("own_log", .ref tl), ("own_earlier", .ref te)]
structure SessAt (C CM : Addr) (H : Hp) (s : Addr) (n : Int) (lg : List (Str × Str)) (gs : List PF) (f : PF) : Prop where
  ob : ∃ dx m tl te ts ms, H s = some (.ins C dx (sfl m tl te)) ∧ IsMap CM H m n f ∧ H tl = some (.tup (ts.map V.ref)) ∧ Paired (fun t (p : Str × Str) => H t = some (.tup [.str p.1, .str p.2])) ts lg ∧ H te = some (.tup ms) ∧ MapsAt CM H n ms gs
  len : gs.length = lg.length
  sm : lg.length ≤ 1000
  ok : ∀ p ∈ lg, OkS p.1 ∧ OkS p.2
theorem SessAt.same {C CM : Addr} {H H' : Hp} {s : Addr} {n : Int} {lg : List (Str × Str)} {gs : List PF} {f : PF} (h : SessAt C CM H s n lg gs f) (x : Same H H') : SessAt C CM H' s n lg gs f := by
  obtain ⟨⟨dx, m, tl, te, ts, ms, h1, h2, h3, h4, h5, h6⟩, l, sm, ok⟩ := h
  exact ⟨⟨dx, m, tl, te, ts, ms, x _ _ h1, h2.same x, x _ _ h3, h4.map fun _ _ _ e => x _ _ e, x _ _ h5, h6.same x⟩, l, sm, ok⟩
/-- what the session's object hides -/
def SOb (H : Hp) (s : Addr) : Prop := ∃ C dx fs, H s = some (.ins C dx fs) ∧ fs.lookup ("own_size" : Str) = none
theorem SessAt.sob {C CM : Addr} {H : Hp} {s : Addr} {n : Int} {lg : List (Str × Str)} {gs : List PF} {f : PF} (h : SessAt C CM H s n lg gs f) : SOb H s := by
  obtain ⟨dx, m, tl, te, ts, ms, h1, _⟩ := h.ob
  exact ⟨C, dx, _, h1, rfl⟩
theorem IsMap.offS {C s : Addr} {H H' : Hp} {m : Addr} {n : Int} {f : PF} (h : IsMap C H m n f) (o : Off s H H') (e : SOb H s) : IsMap C H' m n f := by
  obtain ⟨C', dx', fs, e, el⟩ := e
  obtain ⟨⟨dx, D, h1, h2⟩, wf, lo, hi⟩ := h
  refine ⟨⟨dx, D, o _ _ (fun z => ?_) h1, o _ _ (fun z => ?_) h2⟩, wf, lo, hi⟩
  · rw [z, e] at h1
    have h3 := flds_size n D
    rw [← (HO.ins.inj (Option.some.inj h1)).2.2, el] at h3
    cases h3
  · rw [z, e] at h2
    cases h2
theorem MapsAt.offS {C s : Addr} {H H' : Hp} {n : Int} {xs : List V} {fs : List PF} (h : MapsAt C H n xs fs) (o : Off s H H') (e : SOb H s) : MapsAt C H' n xs fs := PySem.Paired.map h fun v _ f ⟨a, ea, m⟩ => ⟨a, ea, m.offS o e⟩
theorem tupS {s t : Addr} {H H' : Hp} {xs : List V} (h : H t = some (.tup xs)) (o : Off s H H') (e : SOb H s) : H' t = some (.tup xs) := o _ _ (fun z => by obtain ⟨C', dx', fs, e, el⟩ := e; rw [z, e] at h; cases h) h
theorem logS {s : Addr} {H H' : Hp} {ts : List Addr} {lg : List (Str × Str)} (h : Paired (fun t (p : Str × Str) => H t = some (.tup [.str p.1, .str p.2])) ts lg) (o : Off s H H') (e : SOb H s) : Paired (fun t (p : Str × Str) => H' t = some (.tup [.str p.1, .str p.2])) ts lg := h.map fun _ _ _ z => tupS z o e
theorem Off.same {p : Addr} {H H' : Hp} (s : Same H H') : Off p H H' := fun _ _ _ h => s _ _ h
theorem Off.upd {p : Addr} {H : Hp} {o : HO} : Off p H (upd H p o) := fun b u hb e => by rw [upd_ne hb]; exact e
theorem st_facts {p : Addr} {H H' : Hp} {o : HO} (g : upd H p o = H') : Off p H H' ∧ H' p = some o := by
  subst g
  exact ⟨Off.upd, upd_same⟩
section
variable {P : Program} {w : World} {K : PySem.W.Frag} {mg : Str → Option Value} {base : Heap}
theorem ok_check_next (T : Txt K mg) : FnR P w K mg base CX0 4 T.f_Session_check_next (fun vs H Q _ => ∃ (s m : Addr) (n : Int) (f : PF), vs = [.ref s, .ref m] ∧ IsMap T.C_Map H m n f ∧ Q .non H) := by
  refine T.A_Session_check_next.ok sc_Session_check_next (fun vs H Q E h => ?_) (fun cdv A outer s H vs Q E hr h => ?_)
  · obtain ⟨s, m, n, f, rfl, _⟩ := h
    rfl
  · obtain ⟨s, m, n, f, rfl, hm, q⟩ := h
    refine ⟨_, (pss_one (ps_expr (pe_callR (fnR_calm (ok_check_map T)) (hr.mono (by decide)) T.A_check_map.kp rfl T.g_check_map pass0 (pa_cons (pv 1) pa_nil)))), ?_⟩
    exact ⟨_, rfl, _, rfl, .inl ⟨m, n, f, rfl, hm, q⟩⟩
end
end My
namespace My
open PySem L2 U StX PM
def spCMs (C : Addr) : Sp := fun vs H Q _ => ∃ a b n f g, vs = [.ref a, .ref b] ∧ IsMap C H a n f ∧ IsMap C H b n g ∧ Q .non H
def argA (C : Addr) : Hp → Int → PF → V → PF → Prop := fun H n f x f' => ∃ m g, x = .ref m ∧ IsMap C H m n g ∧ f' = mul f g
def argP : Hp → Int → PF → V → PF → Prop := fun _ n f x f' => ∃ e : Int, x = .int e ∧ f' = pw n f e
def argS : Hp → Int → PF → V → PF → Prop := fun H n f x f' => ∃ (a : Addr) (ts : List Addr) (ss : List Stp), x = .ref a ∧ H a = some (.lst (ts.map V.ref)) ∧ Paired (fun t s => H t = some (.tup (Stp.vs s))) ts ss ∧ (∀ s ∈ ss, Stp.ok n s) ∧ ss.length ≤ 100 ∧ f' = stps f ss
theorem oks_apply : OkS "apply" := by unfold OkS; decide +kernel
theorem oks_power : OkS "power" := by unfold OkS; decide +kernel
theorem oks_steps : OkS "steps" := by unfold OkS; decide +kernel
section
variable {P : Program} {w : World} {K : PySem.W.Frag} {mg : Str → Option Value} {base : Heap}
theorem ok_check_maps (T : Txt K mg) : FnR P w K mg base CX0 5 T.f_check_maps (spCMs T.C_Map) := by
  refine T.A_check_maps.ok sc_check_maps (fun vs H Q E h => ?_) (fun cdv A outer s H vs Q E hr h => ?_)
  · obtain ⟨a, b, n, f, g, rfl, _⟩ := h
    rfl
  · obtain ⟨a, b, n, f, g, rfl, ha, hb, q⟩ := h
    refine ⟨_, (pss_cons (ps_expr (pe_callR (fnR_calm (ok_check_map T)) (hr.mono (by decide)) T.A_check_map.kp rfl T.g_check_map pass0 (pa_cons (pv 0) pa_nil)))
      (pss_cons (ps_expr (pe_callR (fnR_calm (ok_check_map T)) (hr.mono (by decide)) T.A_check_map.kp rfl T.g_check_map pass0 (pa_cons (pv 1) pa_nil)))
      (pss_one (ps_expr (pe_callR (ok_common T) (hr.mono (by decide)) T.A_common_size.kp rfl T.g_common_size pass0 (pa_cons (pv 0) (pa_cons (pv 1) pa_nil))))))), ?_⟩
    refine ⟨_, rfl, _, rfl, .inl ⟨a, n, f, rfl, ha, ?_⟩⟩
    refine ⟨_, rfl, _, rfl, .inl ⟨b, n, g, rfl, hb, ?_⟩⟩
    exact ⟨_, rfl, _, rfl, a, b, n, f, g, rfl, ha, hb, q⟩
end
end My
namespace My
open PySem L2 U StX PM
theorem paired_unsnoc {α β : Type} {R : α → β → Prop} : ∀ {xs : List α} {ys : List β} {y : β}, Paired R xs (ys ++ [y]) → ∃ xs0 x, xs = xs0 ++ [x] ∧ Paired R xs0 ys ∧ R x y
  | [], ys, y, h => by cases ys <;> cases h
  | [x], [], y, .cons r .nil => ⟨[], x, rfl, .nil, r⟩
  | x :: x2 :: xs, [], y, h => by cases h with | cons r t => cases t
  | x :: xs, y0 :: ys, y, .cons r t => by
    obtain ⟨xs0, x', e, p, r'⟩ := paired_unsnoc t
    exact ⟨x :: xs0, x', by rw [e]; rfl, .cons r p, r'⟩
def dTup (p : Str × Str) : PyData := .tuple [.str p.1, .str p.2]
theorem lay_tup {p : Str × Str} (h : OkS p.1 ∧ OkS p.2) : PyData.canLay0 (dTup p) = true ∧ PyData.depth (dTup p) ≤ 1 := by
  refine ⟨?_, by show 0 + 1 ≤ 1; decide⟩
  have h1 : PyData.canLay0 (.str p.1) = true := h.1
  have h2 : PyData.canLay0 (.str p.2) = true := h.2
  show (PyData.canLay0 (.str p.1) && (PyData.canLay0 (.str p.2) && true)) = true
  rw [h1, h2]; rfl
theorem shaped_log {lg : List (Str × Str)} (h : ∀ p ∈ lg, OkS p.1 ∧ OkS p.2) : SeqAt.shaped (.tuple (lg.map dTup)) = true ∧ SeqAt.shaped (.list (lg.map dTup)) = true := by
  have hh : ∀ d ∈ lg.map dTup, PyData.canLay0 d = true ∧ PyData.depth d ≤ 1 := fun d hd => by
    obtain ⟨p, hp, rfl⟩ := List.mem_map.mp hd
    exact lay_tup (h p hp)
  obtain ⟨h1, h2⟩ := lay_all hh
  constructor <;>
  · unfold SeqAt.shaped
    rw [Bool.and_eq_true]
    refine ⟨h1, decide_eq_true ?_⟩
    show PyData.depthAll (lg.map dTup) + 1 ≤ 64
    omega
theorem dp_log {K : PySem.W.Frag} {H : Hp} : ∀ {ts : List Addr} {lg : List (Str × Str)}, Paired (fun t (p : Str × Str) => H t = some (.tup [.str p.1, .str p.2])) ts lg → DpAll K H (ts.map V.ref) (lg.map dTup)
  | [], [], _ => .nil
  | t :: ts, p :: l, h => by
    cases h with
    | cons a r => exact .cons (.tup (SqT.of a) (.cons (.str _) (.cons (.str _) .nil))) (dp_log r)
  | [], _ :: _, h => by cases h
  | _ :: _, [], h => by cases h
theorem cut_last (xs : List V) (x : V) : cutV (xs ++ [x]) none (some (-1)) = xs ∧ ¬ (HT.sIx (xs ++ [x]).length 0 none = 0 ∧ HT.sIx (xs ++ [x]).length (xs ++ [x]).length (some (-1)) = (xs ++ [x]).length) := by
  have hl : (xs ++ [x]).length = xs.length + 1 := by simp
  have h1 : HT.sIx (xs ++ [x]).length (xs ++ [x]).length (some (-1)) = xs.length := by
    show (if (-1 : Int) < 0 then ((-1 : Int) + (((xs ++ [x]).length : Nat) : Int)).toNat else min (-1 : Int).toNat (xs ++ [x]).length) = xs.length
    rw [if_pos (by decide), hl]
    omega
  constructor
  · unfold cutV
    rw [h1, HT.sIx_none]
    simp
  · rintro ⟨_, h2⟩
    rw [h1, hl] at h2
    omega
theorem log_ne (lg0 : List (Str × Str)) (p : Str × Str) : PyData.eqv (.tuple ((lg0 ++ [p]).map dTup)) (.tuple []) = false := by cases lg0 <;> rfl
section
variable {P : Program} {w : World} {K : PySem.W.Frag} {mg : Str → Option Value} {base : Heap}
theorem ok_ini_NothingToUndo (T : Txt K mg) : FnR P w K mg base CX0 1 T.f_NothingToUndo__init (spIni1 T.C_NothingToUndo "user") := by
  refine T.A_NothingToUndo__init.ok sc_NothingToUndo__init (fun vs H Q E h => ?_) (fun cdv A outer s H vs Q E hr h => ?_)
  · obtain ⟨a, v, rfl, _⟩ := h
    rfl
  · obtain ⟨a, v, rfl, ha, q⟩ := h
    refine ⟨_, pss_one (ps_ostG (pv 0) (pv 1)), ?_⟩
    exact ⟨_, rfl, _, rfl, a, T.C_NothingToUndo, rfl, T.x_NothingToUndo, T.na_user_NothingToUndo, .inl ⟨ha, fun dx h1 h2 => q dx h1 h2⟩⟩
theorem ok_ini_NotLast (T : Txt K mg) : FnR P w K mg base CX0 1 T.f_NotLast__init (spIni1 T.C_NotLast "user") := by
  refine T.A_NotLast__init.ok sc_NotLast__init (fun vs H Q E h => ?_) (fun cdv A outer s H vs Q E hr h => ?_)
  · obtain ⟨a, v, rfl, _⟩ := h
    rfl
  · obtain ⟨a, v, rfl, ha, q⟩ := h
    refine ⟨_, pss_one (ps_ostG (pv 0) (pv 1)), ?_⟩
    exact ⟨_, rfl, _, rfl, a, T.C_NotLast, rfl, T.x_NotLast, T.na_user_NotLast, .inl ⟨ha, fun dx h1 h2 => q dx h1 h2⟩⟩
end
end My
namespace My
open PySem L2 U StX PM
/-! ### plain: powers -/
def sgn (n : Int) (f : PF) (e : Int) : PF := if e < 0 then inv n f else f
theorem wf_sgn {n : Int} {f : PF} (w : WF n f) (e : Int) : WF n (sgn n f e) := by
  unfold sgn
  by_cases h : e < 0
  · rw [if_pos h]; exact wf_inv w
  · rw [if_neg h]; exact w
theorem pw_sgn (n : Int) (f : PF) (e : Int) : pw n f e = pk n (sgn n f e) e.natAbs := by
  unfold pw sgn
  by_cases h0 : e = 0
  · subst h0; rfl
  · rw [if_neg h0]
    have : e.natAbs = (e.natAbs - 1) + 1 := by omega
    by_cases h : e < 0
    · rw [if_pos h, if_pos h, this]; rfl
    · rw [if_neg h, if_neg h, this]; rfl
/-- [(.., ..) for x in d] -/
theorem lc_keysK {d : Addr} {l : List (Int × Int)} {te : TE} {i : Nat} {tv : TE} {vs : List Nat} {σ : L2.St} {H : Hp} {Q : VK} (kf vi : Int → Int → Int)
    (hd : H d = some (.dK (kvI l))) (hte : ∀ H' (R : VK), R (.ref d) H' → Off d H H' → te σ H' R)
    (hw : ∀ a, wipe ((wipe σ vs).set i a) vs = wipe σ vs)
    (hb : ∀ x y, (x, y) ∈ l → ∀ H1, Off d H H1 → Rd H1 d (.dK (kvI l)) → ∀ R : VK, (∀ p, H1 p = none → R (.ref p) (upd H1 p (.tup [.int (kf x y), .int (vi x y)]))) → tv ((wipe σ vs).set i (some (.int x))) H1 R)
    (hz : l.length < sizeLine)
    (hq : ∀ (D : Addr) (ps : List Addr) (H' : Hp), H D = none → H' D = some (.lst (ps.map V.ref)) → Paired (fun p (kv : Key × V) => H' p = some (.tup [kV kv.1, kv.2])) ps (kvI (madeI (fun _ _ => true) kf vi l)) → L2.Same H H' → Q (.ref D) H') :
    tLockE (tLc (iKeys te) (gName i) tYes tv vs) σ H Q := by
  refine ⟨d, _, hd, trivial, fun od => ?_⟩
  refine hte _ _ ⟨d, od, rfl, .inl ⟨kvI l, upd_same, fun D hD => ?_⟩⟩ Off.lock
  have hDd : D ≠ d := fun e => by rw [e, upd_same] at hD; cases hD
  have hD0 : H D = none := by rw [upd_ne hDd] at hD; exact hD
  refine lc_it walk_keys (fun k H' => H' d = some (.frz od (.dK (kvI l))) ∧ Off d H H' ∧ ∃ ps : List Addr, H' D = some (.lst (ps.map V.ref)) ∧ ps.length ≤ k ∧ (∀ p ∈ ps, p ≠ D ∧ p ≠ d) ∧ Paired (fun p (kv : Key × V) => H' p = some (.tup [kV kv.1, kv.2])) ps (kvI (madeI (fun _ _ => true) kf vi (l.take k)))) ⟨?_, Off.lock.mut hD0, [], upd_same, Nat.le_refl _, (fun p h => nomatch h), .nil⟩ (fun k H' _ p => p.1) ?_ ?_
  · rw [upd_ne hDd.symm]; exact upd_same
  · rintro k v H' H'' hk ⟨p1, p2, ps, p3, p4, p5, p6⟩ ⟨rfl, kk, vv, e1, rfl⟩
    obtain ⟨x, y, exy, rfl, rfl⟩ := kvI_get e1
    rw [kvI_length] at hk
    refine ⟨hw _, yes_ ?_⟩
    have st := madeI_step (c := fun _ _ => true) (kf := kf) (vi := vi) exy
    rw [if_pos rfl] at st
    refine hb x y (List.mem_of_getElem? exy) _ p2 (.inr ⟨od, p1⟩) _ fun p hp => ⟨_, carryNew hp p3, by rw [List.length_map]; omega, ?_⟩
    have hpD : p ≠ D := (ne_of_none p3 hp).symm
    have hpd : p ≠ d := (ne_of_none p1 hp).symm
    refine ⟨?_, (p2.tr (Off.new hp)).mut hD0, ps ++ [p], ?_, ?_, ?_, ?_⟩
    · rw [upd_ne hDd.symm, upd_ne hpd.symm]; exact p1
    · rw [upd_same, List.map_append]; rfl
    · rw [List.length_append, List.length_singleton]; omega
    · intro q hq
      rcases List.mem_append.mp hq with h | h
      · exact p5 q h
      · rw [List.mem_singleton] at h
        subst h
        exact ⟨hpD, hpd⟩
    · rw [st, show kvI (madeI (fun _ _ => true) kf vi (l.take k) ++ [(kf x y, vi x y)]) = kvI (madeI (fun _ _ => true) kf vi (l.take k)) ++ [(Sum.inl (kf x y), V.int (vi x y))] from by unfold kvI; rw [List.map_append]; rfl]
      refine PySem.Paired.snoc (p6.map fun q hq kv e => ?_) ?_
      · rw [upd_ne (p5 q hq).1, upd_ne (ne_of_none e hp)]; exact e
      · rw [upd_ne hpD]; exact upd_same
  · rintro H' ⟨p1, p2, ps, p3, p4, p5, p6⟩
    rw [kvI_length, List.take_length] at p6
    refine ⟨p1, hq D ps _ hD0 ?_ (p6.map fun q hq kv e => ?_) (p2.back hd)⟩
    · rw [upd_ne hDd]
      exact p3
    · rw [upd_ne (p5 q hq).2]; exact e
theorem off_free {p t : Addr} {H H1 : Hp} (p1 : PoolAt H1 p) (o : Off p H H1) (nt : H1 t = none) : H t = none := by
  cases e : H t with
  | none => rfl
  | some u =>
    have := o _ _ (p1.ne nt).symm e
    rw [nt] at this
    cases this
theorem off_put {p t : Addr} {H H1 : Hp} {u : HO} (p1 : PoolAt H1 p) (o : Off p H H1) (nt : H1 t = none) : Off p H (upd H1 t u) := Off.put o (off_free p1 o nt)
theorem if_cut {tt : TT} {t1 t2 : TS} {D : Ends} {σ : L2.St} {H : Hp} (Φ : Bool → Hp → Prop) (h : ∀ R : Bool → Hp → Prop, (∀ b H', Φ b H' → R b H') → tt σ H R) (ht : ∀ H', Φ true H' → t1 D σ H') (hf : ∀ H', Φ false H' → t2 D σ H') : tIfS tt t1 t2 D σ H := h _ fun b H' z => by
  cases b with
  | true => exact iteT (ht H' z)
  | false => exact iteF (hf H' z)
def spStepL : Sp := fun vs H Q _ => ∃ (p : Addr) (n : Int), vs = [.ref p, .int n] ∧ PoolAt H p ∧ 1 ≤ n ∧ n ≤ 300 ∧ ∀ t s H', PoolAt H' p → Off p H H' → H t = none → H' t = some (.tup (Stp.vs s)) → Stp.ok n s → Q (.ref t) H'
def spStpd : Sp := fun vs H Q _ => ∃ (d t : Addr) (l : List (Int × Int)) (n : Int) (f : PF) (s : Stp), vs = [.ref d, .ref t] ∧ H d = some (.dK (kvI l)) ∧ DI l f ∧ WF n f ∧ n ≤ 300 ∧ H t = some (.tup (Stp.vs s)) ∧ Stp.ok n s ∧
  ∀ p l' H', Same H H' → H p = none → H' p = some (.dK (kvI l')) → DI l' (stp1 f s) → Q (.ref p) H'
def spFull : Sp := fun vs H Q _ => ∃ n : Int, vs = [.int n] ∧ 1 ≤ n ∧ n ≤ 300 ∧ ∀ p l H', Same H H' → H p = none → H' p = some (.dK (kvI l)) → DI l (idn n) → l.length ≤ n.toNat → Q (.ref p) H'
def spLPw : Sp := fun vs H Q _ => ∃ (d : Addr) (l : List (Int × Int)) (n : Int) (f : PF) (e : Int), vs = [.ref d, .int n, .int e] ∧ H d = some (.dK (kvI l)) ∧ DI l f ∧ WF n f ∧ 1 ≤ n ∧ n ≤ 300 ∧ e.natAbs ≤ 1000 ∧
  ∀ p l' H', Same H H' → H p = none → H' p = some (.dK (kvI l')) → DI l' (pw n f e) → Q (.ref p) H'
section
variable {P : Program} {w : World} {K : PySem.W.Frag} {mg : Str → Option Value} {base : Heap}
theorem ok_l_full (T : Txt K mg) : FnR P w K mg base CX0 2 T.f_l_full spFull := by
  refine T.A_l_full.ok sc_l_full (fun vs H Q E h => ?_) (fun cdv A outer s H vs Q E hr h => ?_)
  · obtain ⟨n, rfl, _⟩ := h
    rfl
  · obtain ⟨n, rfl, n1, n2, q⟩ := h
    refine ⟨_, (pss_one (ps_ret (pe_callTy (call_dictP rfl) (by rfl) T.n_dict (by decide +kernel) (pa_cons (pe_lc (own := [("_law_source", 1)]) (g := (gName 1)) (tt := tYes) rfl sc_l_full.nd (pi_range1 rfl T.n_range (pa_cons (pv 0) pa_nil)) (blkOk_by (own := [("_law_source", 1)]) (N := n_l_full) (sc := defScope s_l_full) (by decide +kernel)) (fun _ _ _ _ _ => (pg_name (i := 1) sc_l_full.nd rfl (Or.inl rfl))) (fun _ _ _ _ _ => pts_nil) (fun _ _ _ _ _ => (pe_tup (pa_cons (pv 1) (pa_cons (pv 1) pa_nil))))) pa_nil)))), ?_⟩
    dsimp only [tRet, tSeq, tAsg, tCB, tCons, tNil]
    refine lc_rangeT (n := n.toNat) (H := H) (fun k => (k : Int)) (fun k => (k : Int)) (fun R rr => ⟨_, rfl, n, rfl, by omega, by omega, rr⟩) (fun _ => rfl) (small1000 (by omega)) (fun k hk H1 s1 R r => ⟨_, rfl, _, rfl, (by show 2 ≤ sizeLine; decide), fun p hp => by rw [Int.zero_add]; exact r p hp⟩) (fun D ps H2 nD hD hp s2 => ?_)
    have di0 := id_di n.toNat
    rw [show ((n.toNat : Nat) : Int) = n by omega] at di0
    obtain ⟨l0, e0', hl0, dl0⟩ := dict_of di0
    refine ⟨D, ps, _, rfl, SqL.of hD, hp.map fun p _ kv e => SqT.of e, fun p0 np0 => ?_⟩
    rw [e0']
    rw [List.length_map, List.length_range] at hl0
    exact q p0 l0 _ (s2.trans (Same.new np0)) (s2.free np0) upd_same dl0 hl0
theorem ok_l_inverse (T : Txt K mg) : FnR P w K mg base CX0 2 T.f_l_inverse spBack := by
  refine T.A_l_inverse.ok sc_l_inverse (fun vs H Q E h => ?_) (fun cdv A outer s H vs Q E hr h => ?_)
  · obtain ⟨d1, l1, n, f, rfl, _⟩ := h
    rfl
  · obtain ⟨d1, l1, n, f, rfl, h1, di1, wf, hl, q⟩ := h
    have hu := hu_of hr
    refine ⟨_, (pss_one (ps_ret (pe_callTy (call_dictP rfl) (by rfl) T.n_dict (by decide +kernel) (pa_cons (pe_lock (pe_lc (own := [("_law_source", 1)]) (g := (gName 1)) (tt := tYes) rfl sc_l_inverse.nd (pi_keys (pv 0)) (blkOk_by (own := [("_law_source", 1)]) (N := n_l_inverse) (sc := defScope s_l_inverse) (by decide +kernel)) (fun _ _ _ _ _ => (pg_name (i := 1) sc_l_inverse.nd rfl (Or.inl rfl))) (fun _ _ _ _ _ => pts_nil) (fun _ _ _ _ _ => (pe_tup (pa_cons (pe_dget hu (pv 0) (pv 1) (fun _ _ => rfl)) (pa_cons (pv 1) pa_nil)))))) pa_nil)))), ?_⟩
    refine lc_keysK (fun _ y => y) (fun x _ => x) h1 (fun H' R r o => ⟨_, rfl, r⟩) (fun _ => rfl) (fun x y hxy H1 o ho R r => ?_) (small1000 hl) (fun D ps H' nD hD hp s1 => ?_)
    · have g1 := rd_get ho di1 x
      rw [di1.mem.mp hxy] at g1
      exact ⟨_, rfl, _, rfl, d1, .int y, rfl, g1, _, rfl, two_le, fun p hp => r p hp⟩
    · refine dictP_of hD hp (back_diL wf di1) fun p l np hl' dl => ?_
      exact q p l _ (s1.trans (Same.new np)) (s1.free np) upd_same dl (Nat.le_trans hl' (madeI_len ..))
theorem ok_l_pwr (T : Txt K mg) : FnR P w K mg base CX0 4 T.f_l_power spLPw := by
  refine T.A_l_power.ok sc_l_power (fun vs H Q E h => ?_) (fun cdv A outer s H vs Q E hr h => ?_)
  · obtain ⟨d, l, n, f, e, rfl, _⟩ := h
    rfl
  · obtain ⟨d, l, n, f, e, rfl, hd, di, wf, n1, n2, e1, q⟩ := h
    refine ⟨_, (pss_cons (ps_set (i := 3) sc_l_power.nd rfl (Or.inl rfl) (pe_callR (ok_l_full T) (hr.mono (by decide)) T.A_l_full.kp rfl T.g_l_full pass0 (pa_cons (pv 1) pa_nil)))
      (pss_cons (ps_for PassesOwn.never rfl (pi_range1 rfl T.n_range (pa_cons (pe_callB call_abs (by rfl) T.n_abs (by decide +kernel) (pa_cons (pv 2) pa_nil)) pa_nil)) (pg_name (i := 4) sc_l_power.nd rfl (Or.inl rfl))
        (pss_one (ps_set (i := 3) sc_l_power.nd rfl (Or.inl rfl) (pe_callR (ok_l_product T) (hr.mono (by decide)) T.A_l_product.kp rfl T.g_l_product pass0 (pa_cons (pv 3) (pa_cons (pe_ix ix_list (pe_lst (pa_cons (pv 0) (pa_cons (pe_callR (ok_l_inverse T) (hr.mono (by decide)) T.A_l_inverse.kp rfl T.g_l_inverse pass0 (pa_cons (pv 0) pa_nil)) pa_nil))) (pe_callTy call_int1 (by rfl) T.n_int (by decide +kernel) (pa_cons (pe_cmpR op_lt (pv 2) pe_int (nomark _)) pa_nil)) (fun _ _ => rfl)) pa_nil))))))
      (pss_one (ps_ret (pv 3))))), ?_⟩
    refine ⟨_, rfl, n, rfl, n1, n2, fun p0 l0 H2 s2 np0 hp0 dl0 hl0 => ?_⟩
    have lln := di_lenN di wf
    have s3 : Same H H2 := s2
    refine ⟨_, rfl, _, rfl, _, rfl, by omega, by omega, ?_⟩
    have wg := wf_sgn wf e
    refine for_it (walk_range (lo := 0)) (fun i σ H' => ∃ v4 p l', σ = [some (.ref d), some (.int n), some (.int e), some (.ref p), v4] ∧ Same H H' ∧ H p = none ∧ H' p = some (.dK (kvI l')) ∧ DI l' (pk n (sgn n f e) i) ∧ l'.length ≤ n.toNat)
      ⟨_, p0, l0, rfl, s2, np0, hp0, dl0, by omega⟩ (fun _ _ _ _ _ => trivial) ?_ ?_
    · rintro i v σ H' H'' hi ⟨v4, p, l', rfl, t1, t2, t3, t4, t5⟩ ⟨rfl, rfl⟩
      refine ⟨_, rfl, _, rfl, _, rfl, d, l, n, f, rfl, t1 _ _ hd, di, wf, by omega, fun pb lb H4 s4 npb hpb dib hlb => ?_⟩
      refine ⟨two_le, ?_⟩
      refine fun tq n_tq => ?_
      generalize g_tq : L2.upd _ tq _ = H5
      obtain ⟨s_H5, e_tq⟩ := U.upd_facts g_tq n_tq
      clear g_tq
      refine ⟨_, rfl, _, _, rfl, rfl, .inr ⟨_, rfl, tq, _, _, _, rfl, rfl, SqL.of e_tq, pick2 _ _ _, ?_⟩⟩
      have s15 := t1.trans (s4.trans s_H5)
      obtain ⟨ds, ls, eds, hds, dis, hls⟩ : ∃ ds ls, (if decide (e < 0) = true then V.ref pb else V.ref d) = .ref ds ∧ H5 ds = some (.dK (kvI ls)) ∧ DI ls (sgn n f e) ∧ ls.length ≤ 1000 := by
        unfold sgn
        by_cases h : e < 0
        · rw [decide_eq_true h, if_pos rfl, if_pos h]
          exact ⟨pb, lb, rfl, s_H5 _ _ hpb, dib, by omega⟩
        · rw [decide_eq_false h, if_neg Bool.false_ne_true, if_neg h]
          exact ⟨d, l, rfl, s15 _ _ hd, di, by omega⟩
      rw [eds]
      refine ⟨p, ds, l', ls, n, _, sgn n f e, rfl, (s4.trans s_H5) _ _ t3, hds, t4, dis, wf_pk wg i, wg, by omega, fun p2 l2 H6 s6 np2 hp2 dl2 hl2 => ?_⟩
      rw [pk_succ wg] at dl2
      exact ⟨_, p2, l2, rfl, s15.trans s6, s15.free np2, hp2, dl2, by omega⟩
    · rintro σ H' ⟨v4, p, l', rfl, t1, t2, t3, t4, t5⟩
      rw [show (if e < 0 then -e else e).toNat = e.natAbs by split <;> omega, ← pw_sgn] at t4
      exact ⟨_, rfl, q p l' H' t1 t2 t3 t4⟩
theorem ok_l_step (T : Txt K mg) : FnR P w K mg base CX0 3 T.f_l_step spStepL := by
  refine T.A_l_step.ok sc_l_step (fun vs H Q E h => ?_) (fun cdv A outer s H vs Q E hr h => ?_)
  · obtain ⟨p, n, rfl, _⟩ := h
    rfl
  · obtain ⟨p, n, rfl, pool, n1, n2, q⟩ := h
    refine ⟨_, (pss_cons (ps_if (PW.pt (pw_or (pt_cmpR op_eq (pv 1) pe_int (nomark _)) (pw_or1 (pt_cmpR op_eq (pe_callR (ok_draw T) (hr.mono (by decide)) T.A_l_draw.kp rfl T.g_l_draw pass0 (pa_cons (pv 0) (pa_cons pe_int pa_nil))) pe_int (nomark _)))))
        (pss_one (ps_ret (pe_tup (pa_cons pe_str (pa_cons (pe_callR (ok_draw T) (hr.mono (by decide)) T.A_l_draw.kp rfl T.g_l_draw pass0 (pa_cons (pv 0) (pa_cons (pv 1) pa_nil))) pa_nil))))) pss_nil)
      (pss_cons (ps_set (i := 2) sc_l_step.nd rfl (Or.inl rfl) (pe_callR (ok_draw T) (hr.mono (by decide)) T.A_l_draw.kp rfl T.g_l_draw pass0 (pa_cons (pv 0) (pa_cons (pv 1) pa_nil))))
      (pss_one (ps_ret (pe_tup (pa_cons pe_str (pa_cons (pv 2) (pa_cons (pe_op op_mod (pe_op op_add (pe_op op_add (pv 2) pe_int) (pe_callR (ok_draw T) (hr.mono (by decide)) T.A_l_draw.kp rfl T.g_l_draw pass0 (pa_cons (pv 0) (pa_cons (pe_op op_sub (pv 1) pe_int) pa_nil)))) (pv 1)) pa_nil)))))))), ?_⟩
    have fin : ∀ (H1 : Hp), PoolAt H1 p → Off p H H1 → ∀ s : Stp, Stp.ok n s → ∀ t, H1 t = none → Q (.ref t) (upd H1 t (.tup (Stp.vs s))) := fun H1 p1 o1 s hs t nt => q t s _ (p1.put (p1.ne nt)) (off_put p1 o1 nt) (off_free p1 o1 nt) upd_same hs
    refine if_cut (fun b H1 => PoolAt H1 p ∧ Off p H H1 ∧ (b = false → 2 ≤ n)) (fun R rr => ?_) (fun H1 ⟨p1, o1, _⟩ => ?_) (fun H1 ⟨p1, o1, n3⟩ => ?_)
    · refine ⟨_, rfl, rfl, _, rfl, ?_⟩
      refine ifD (fun h => ?_) (fun h => ?_)
      · exact rr _ _ ⟨pool, Off.same (Same.refl _), fun z => nomatch z⟩
      · have hn : n ≠ 1 := fun z => h (by rw [z])
        refine draw_R rfl (fun R r => r) pool (by omega) (by decide) fun r H1 r0 r1 p1 o1 => ⟨rfl, _, rfl, rr _ _ ⟨p1, o1, fun _ => by omega⟩⟩
    · refine draw_R rfl (fun R r => ⟨_, rfl, r⟩) p1 (by omega) (by omega) fun r H2 r0 r1 p2 o2 => ?_
      exact ⟨two_le, fun t nt => fin H2 p2 (o1.tr o2) (.fg r) ⟨r0, r1⟩ t nt⟩
    · have n3 := n3 rfl
      refine draw_R rfl (fun R r => ⟨_, rfl, r⟩) p1 (by omega) (by omega) fun r H2 r0 r1 p2 o2 => ?_
      refine ⟨_, rfl, _, rfl, _, _, rfl, rfl, ?_⟩
      refine draw_R rfl (fun R r => ⟨_, rfl, _, _, rfl, rfl, r⟩) p2 (by omega) (by omega) fun r2 H3 r20 r21 p3 o3 => ?_
      refine ⟨_, _, rfl, rfl, _, rfl, _, _, rfl, rfl, by omega, three_le, fun t nt => ?_⟩
      refine fin H3 p3 ((o1.tr o2).tr o3) (.sw r ((r + 1 + r2) % n)) ?_ t nt
      have m0 := Int.emod_nonneg (r + 1 + r2) (show n ≠ 0 by omega)
      have m1 := Int.emod_lt_of_pos (r + 1 + r2) (show 0 < n by omega)
      refine ⟨r0, r1, m0, m1, fun z => ?_⟩
      by_cases hlt : r + 1 + r2 < n
      · rw [Int.emod_eq_of_lt (by omega) hlt] at z; omega
      · have e : (r + 1 + r2) % n = r + 1 + r2 - n := by
          have h1 : (r + 1 + r2 - n) % n = (r + 1 + r2) % n := Int.sub_emod_right _ _
          rw [← h1]
          exact Int.emod_eq_of_lt (by omega) (by omega)
        omega
end
end My
namespace My
open PySem L2 U StX PM
/-- the law's model -/
def mdl (n : Int) (L G : Addr) : List (Key × V) := [(Sum.inr "size", .int n), (Sum.inr "tables", .ref L), (Sum.inr "log", .ref G)]
structure ModAt (H : Hp) (md : Addr) (n : Int) (lg : List (Str × Str)) (fs : List PF) : Prop where
  ob : ∃ L G ds us, H md = some (.dK (mdl n L G)) ∧ H L = some (.lst (ds.map V.ref)) ∧ TabsAt H n ds fs ∧ H G = some (.lst (us.map V.ref)) ∧ Paired (fun t (p : Str × Str) => H t = some (.tup [.str p.1, .str p.2])) us lg
theorem ModAt.same {H H' : Hp} {md : Addr} {n : Int} {lg : List (Str × Str)} {fs : List PF} (h : ModAt H md n lg fs) (s : Same H H') : ModAt H' md n lg fs := by
  obtain ⟨L, G, ds, us, h1, h2, h3, h4, h5⟩ := h.ob
  exact ⟨L, G, ds, us, s _ _ h1, s _ _ h2, h3.same s, s _ _ h4, h5.map fun _ _ _ z => s _ _ z⟩
section
variable {P : Program} {w : World} {K : PySem.W.Frag} {mg : Str → Option Value} {base : Heap}
theorem ok_l_stepped (T : Txt K mg) : FnR P w K mg base CX0 2 T.f_l_stepped spStpd := by
  refine T.A_l_stepped.ok sc_l_stepped (fun vs H Q E h => ?_) (fun cdv A outer s H vs Q E hr h => ?_)
  · obtain ⟨d, t, l, n, f, s, rfl, _⟩ := h
    rfl
  · obtain ⟨d, t, l, n, f, sp, rfl, hd, di, wf, n2, ht, hok, q⟩ := h
    have hu := hu_of hr
    have lln := di_lenN di wf
    refine ⟨_, (pss_cons (ps_set (i := 2) sc_l_stepped.nd rfl (Or.inr rfl) (pe_callTy call_dictD (by rfl) T.n_dict (by decide +kernel) (pa_cons (pv 0) pa_nil)))
      (pss_cons (ps_if (pt_cmpR op_eq (pe_ix ix_tup (pv 1) pe_int (fun _ _ => rfl)) pe_str (nomark _))
        (pss_cons (ps_expr (pe_dpop2 (pv 2) (pe_ix ix_tup (pv 1) pe_int (fun _ _ => rfl)) pe_non ⟨rfl, rfl, rfl, rfl⟩))
      (pss_one (ps_ret (pv 2)))) pss_nil)
      (pss_cons (ps_set (i := 3) sc_l_stepped.nd rfl (Or.inr rfl) (pe_callTy (call_dictP rfl) (by rfl) T.n_dict (by decide +kernel) (pa_cons (pe_lst (pa_cons (pe_tup (pa_cons (pe_ix ix_tup (pv 1) pe_int (fun _ _ => rfl)) (pa_cons (pe_ix ix_tup (pv 1) pe_int (fun _ _ => rfl)) pa_nil))) (pa_cons (pe_tup (pa_cons (pe_ix ix_tup (pv 1) pe_int (fun _ _ => rfl)) (pa_cons (pe_ix ix_tup (pv 1) pe_int (fun _ _ => rfl)) pa_nil))) pa_nil))) pa_nil)))
      (pss_one (ps_ret (pe_callTy (call_dictP rfl) (by rfl) T.n_dict (by decide +kernel) (pa_cons (pe_lock (pe_lc (own := [("_law_source", 4)]) (g := (gName 4)) (tt := tYes) rfl sc_l_stepped.nd (pi_keys (pv 2)) (blkOk_by (own := [("_law_source", 4)]) (N := n_l_stepped) (sc := defScope s_l_stepped) (by decide +kernel)) (fun _ _ _ _ _ => (pg_name (i := 4) sc_l_stepped.nd rfl (Or.inl rfl))) (fun _ _ _ _ _ => pts_nil) (fun _ _ _ _ _ => (pe_tup (pa_cons (pv 4) (pa_cons (pe_dget2 hu (pv 3) (pe_dget hu (pv 2) (pv 4) (fun _ _ => rfl)) (pe_dget hu (pv 2) (pv 4) (fun _ _ => rfl)) ⟨rfl, rfl, rfl, rfl⟩) pa_nil)))))) pa_nil))))))), ?_⟩
    refine ⟨_, rfl, d, _, rfl, .inl hd, ?_⟩
    refine fun N n_N => ?_
    generalize g_N : L2.upd _ N _ = H1
    obtain ⟨s_H1, e_N⟩ := U.upd_facts g_N n_N
    clear g_N
    have ht1 := s_H1 _ _ ht
    cases sp with
    | fg x =>
      refine ⟨_, rfl, t, _, 0, .str "forget", rfl, rfl, SqT.of ht1, rfl, rfl, _, rfl, iteT ?_⟩
      refine pop2R rfl e_N di x (fun R r => ⟨_, rfl, t, _, 1, .int x, rfl, rfl, SqT.of ht1, rfl, r⟩) fun l3 H3 hG3 d3 le3 o3 => ?_
      refine ⟨_, rfl, q N l3 H3 (fun c o e => o3 _ _ (ne_of_none e n_N) (s_H1 _ _ e)) n_N hG3 ?_⟩
      exact d3
    | sw x y =>
      obtain ⟨_, _, _, _, hxy⟩ := hok
      refine ⟨_, rfl, t, _, 0, .str "swap", rfl, rfl, SqT.of ht1, rfl, rfl, _, rfl, iteF ?_⟩
      refine ⟨_, rfl, t, _, 1, .int x, rfl, rfl, SqT.of ht1, rfl, _, rfl, t, _, 2, .int y, rfl, rfl, SqT.of ht1, rfl, two_le, ?_⟩
      refine fun p1 n_p1 => ?_
      generalize g_p1 : L2.upd _ p1 _ = H2
      obtain ⟨s_H2, e_p1⟩ := U.upd_facts g_p1 n_p1
      clear g_p1
      have ht2 := s_H2 _ _ ht1
      refine ⟨_, rfl, t, _, 2, .int y, rfl, rfl, SqT.of ht2, rfl, _, rfl, t, _, 1, .int x, rfl, rfl, SqT.of ht2, rfl, two_le, ?_⟩
      refine fun p2 n_p2 => ?_
      generalize g_p2 : L2.upd _ p2 _ = H3
      obtain ⟨s_H3, e_p2⟩ := U.upd_facts g_p2 n_p2
      clear g_p2
      refine ⟨two_le, ?_⟩
      refine fun D0 n_D0 => ?_
      generalize g_D0 : L2.upd _ D0 _ = H4
      obtain ⟨s_H4, e_D0⟩ := U.upd_facts g_D0 n_D0
      clear g_D0
      obtain ⟨l2, e2, _, d2⟩ := dict_of (di_two hxy)
      refine ⟨D0, [p1, p2], kvI [(x, y), (y, x)], rfl, SqL.of e_D0, .cons (SqT.of (by array_get_dec)) (.cons (SqT.of (by array_get_dec)) .nil), ?_⟩
      rw [e2]
      refine fun D n_D => ?_
      generalize g_D : L2.upd _ D _ = H5
      obtain ⟨s_H5, e_D⟩ := U.upd_facts g_D n_D
      clear g_D
      have hN2 : H5 N = some (.dK (kvI l)) := (by array_get_dec)
      have nDN : D ≠ N := (ne_of_none (U.carry (H' := H4) (by array_mem_dec) e_N) n_D).symm
      have s5 : Same H H5 := (by array_mem_dec)
      refine lc_keysK (fun x _ => x) (fun _ z => if z = x then y else if z = y then x else z) hN2 (fun H' R r o => ⟨_, rfl, r⟩) (fun _ => rfl) (fun z u hzu H6 o ho R r => ?_) (small1000 (by omega)) (fun D3 ps H' nD3 hD3 hp' s1 => ?_)
      · have h1 := o _ _ nDN e_D
        have g1 := rd_get ho di z
        rw [di.mem.mp hzu] at g1
        refine ⟨_, rfl, _, rfl, D, rfl, isD_of h1, _, rfl, _, rfl, N, .int u, rfl, g1, _, rfl, _, rfl, N, .int u, rfl, g1, _, dgetL h1 d2 u, ?_⟩
        rw [get_two]
        exact ⟨two_le, fun p hp => r p hp⟩
      · refine ⟨D3, ps, _, rfl, SqL.of hD3, hp'.map fun p _ kv e => SqT.of e, fun p np => ?_⟩
        obtain ⟨l9, e9, hl', dl⟩ := dict_of (sw_diL di x y)
        rw [e9]
        exact q p l9 _ ((s5.trans s1).trans (Same.new np)) ((s5.trans s1).free np) upd_same dl
end
end My
namespace My
open PySem PySem.Spec PyProof.Rows L2 U StX PM
def tMeth0R (C : Addr) (m : Str) (sp : Sp) (E : XK) (ta : TE) : TE := fun σ H Q => ta σ H fun x H1 => ∃ a dx fs, x = .ref a ∧ H1 a = some (.ins C dx fs) ∧ fs.lookup m = none ∧ sp [x] H1 Q E
theorem pe_meth0R {X : Cx} {CX : CXT} {k : Nat} {C f : Addr} {m : Str} {sp : Sp} {E : XK} {o : Expr} {ta : TE} {apos pos : Pos} {pl : Sem Bool} (he : PE X o ta) (c : Cls X.K C) (hm : Meth X.K C m f)
    (F : FnR X.prog X.w X.K X.mg X.base CX k f sp) (hr : Room k X.A) (hx : Passes CX X E)
    (ht : eval (.Call (.Attribute o m apos) [] [] pos) X.env = (do
      let ov ← eval o X.env
      standAt apos.atName
      let (f, first) ← holding [ov] (getMethod ov m pl)
      callWith pos f first (backTo pos (starEach [] X.env)) (backToKw pos (keywordEach [] X.env))) := by rfl) :
    PE X (.Call (.Attribute o m apos) [] [] pos) (tMeth0R C m sp E ta) := by
  refine ⟨fun pins s σ H Q I h => ?_⟩
  refine PySem.W.methodCall_KW (pl := pl) (thn (he.run pins s σ H _ I h) fun u s1 ⟨x, H1, I1, rx, a, dx, fs, ex, ea, l, q⟩ => ?_) ht
  subst ex
  obtain rfl : u = Value.ref a := rx
  refine getmeth_ok I1 ea c hm l ?_
  exact PySem.W.callWith_K0 (first := [.ref a]) I1.kIn hm.kp (wpAny_call (run_fnR (us := [.ref a]) (vs := [.ref a]) F hr hx I1 (.cons rfl .nil) q))
theorem log_eq {K : PySem.W.Frag} {H : Hp} {a b : Addr} {ts us : List Addr} {lg : List (Str × Str)} (h1 : H a = some (.lst (ts.map V.ref))) (p1 : Paired (fun t (p : Str × Str) => H t = some (.tup [.str p.1, .str p.2])) ts lg) (h2 : H b = some (.lst (us.map V.ref))) (p2 : Paired (fun t (p : Str × Str) => H t = some (.tup [.str p.1, .str p.2])) us lg) (ok : ∀ p ∈ lg, OkS p.1 ∧ OkS p.2) : ∃ d e, Dp K H (.ref a) d ∧ Dp K H (.ref b) e ∧ SeqAt.shaped d = true ∧ SeqAt.shaped e = true ∧ PyData.eqv d e = true := by
  obtain ⟨_, sh⟩ := shaped_log ok
  exact ⟨.list (lg.map dTup), .list (lg.map dTup), .lst (SqL.of h1) (dp_log p1), .lst (SqL.of h2) (dp_log p2), sh, sh, SeqAt.eqv_refl _ (SeqAt.canLay_of_shaped sh)⟩
end My
namespace My
open PySem L2 U StX PM
/-! ### what changes: the pool, the session, the model -/
def Sep (H : Hp) (p : Addr) : Prop := (∃ a b : Int, H p = some (.lst [.int a, .int b])) ∨ SOb H p ∨ (∃ n L G, H p = some (.dK (mdl n L G)))
theorem PoolAt.sep {H : Hp} {p : Addr} (h : PoolAt H p) : Sep H p := by
  obtain ⟨a, b, e, _⟩ := h
  exact .inl ⟨a, b, e⟩
theorem SessAt.sep {C CM : Addr} {H : Hp} {s : Addr} {n : Int} {lg : List (Str × Str)} {gs : List PF} {f : PF} (h : SessAt C CM H s n lg gs f) : Sep H s := .inr (.inl h.sob)
theorem ModAt.sep {H : Hp} {md : Addr} {n : Int} {lg : List (Str × Str)} {fs : List PF} (h : ModAt H md n lg fs) : Sep H md := by
  obtain ⟨L, G, ds, us, h1, _⟩ := h.ob
  exact .inr (.inr ⟨n, L, G, h1⟩)
theorem kvI_mdl {l : List (Int × Int)} {n : Int} {L G : Addr} (h : kvI l = mdl n L G) : False := by
  cases l with
  | nil => cases h
  | cons a b => cases h
theorem Sep.map {C : Addr} {H H' : Hp} {p m : Addr} {n : Int} {f : PF} (z : Sep H p) (o : Off p H H') (h : IsMap C H m n f) : IsMap C H' m n f := by
  rcases z with ⟨a, b, e⟩ | e | ⟨n', L, G, e⟩
  · exact h.off o ⟨_, e⟩
  · exact h.offS o e
  · obtain ⟨⟨dx, D, h1, h2⟩, wf, lo, hi⟩ := h
    refine ⟨⟨dx, D, o _ _ (fun z => ?_) h1, o _ _ (fun z => ?_) h2⟩, wf, lo, hi⟩
    · rw [z, e] at h1; cases h1
    · rw [z, e] at h2
      exact kvI_mdl (HO.dK.inj (Option.some.inj h2)).symm
theorem Sep.tup {H H' : Hp} {p t : Addr} {xs : List V} (z : Sep H p) (o : Off p H H') (h : H t = some (.tup xs)) : H' t = some (.tup xs) := o _ _ (fun e => by
  rcases z with ⟨a, b, z⟩ | ⟨_, _, _, z, _⟩ | ⟨n', L, G, z⟩ <;> (rw [e, z] at h; cases h)) h
theorem Sep.dk {H H' : Hp} {p t : Addr} {l : List (Int × Int)} (z : Sep H p) (o : Off p H H') (h : H t = some (.dK (kvI l))) : H' t = some (.dK (kvI l)) := o _ _ (fun e => by
  rcases z with ⟨a, b, z⟩ | ⟨_, _, _, z, _⟩ | ⟨n', L, G, z⟩
  · rw [e, z] at h; cases h
  · rw [e, z] at h; cases h
  · rw [e, z] at h
    exact kvI_mdl (HO.dK.inj (Option.some.inj h)).symm) h
theorem Sep.refs {H H' : Hp} {p t : Addr} {xs : List Addr} (z : Sep H p) (o : Off p H H') (h : H t = some (.lst (xs.map V.ref))) : H' t = some (.lst (xs.map V.ref)) := o _ _ (fun e => by
  rcases z with ⟨a, b, z⟩ | ⟨_, _, _, z, _⟩ | ⟨n', L, G, z⟩
  · rw [e, z] at h
    cases xs with
    | nil => cases h
    | cons x xs => cases h
  · rw [e, z] at h; cases h
  · rw [e, z] at h; cases h) h
theorem Sep.tups {H H' : Hp} {p : Addr} {ts : List Addr} {lg : List (Str × Str)} (z : Sep H p) (o : Off p H H') (h : Paired (fun t (p : Str × Str) => H t = some (.tup [.str p.1, .str p.2])) ts lg) : Paired (fun t (p : Str × Str) => H' t = some (.tup [.str p.1, .str p.2])) ts lg := h.map fun _ _ _ e => z.tup o e
theorem Sep.tabs {H H' : Hp} {p : Addr} {n : Int} {ds : List Addr} {fs : List PF} (z : Sep H p) (o : Off p H H') (h : TabsAt H n ds fs) : TabsAt H' n ds fs := PySem.Paired.map h fun _ _ _ ⟨l, e, d, w⟩ => ⟨l, z.dk o e, d, w⟩
theorem Sep.pool {H H' : Hp} {p q : Addr} (o : Off p H H') (ne : q ≠ p) (h : PoolAt H q) : PoolAt H' q := by
  obtain ⟨a, b, e, r⟩ := h
  exact ⟨a, b, o _ _ ne e, r⟩
theorem Sep.sess {C CM : Addr} {H H' : Hp} {p s : Addr} {n : Int} {lg : List (Str × Str)} {gs : List PF} {f : PF} (z : Sep H p) (o : Off p H H') (ne : s ≠ p) (h : SessAt C CM H s n lg gs f) : SessAt C CM H' s n lg gs f := by
  obtain ⟨⟨dx, m, tl, te, ts, ms, h1, h2, h3, h4, h5, h6⟩, l, sm, ok⟩ := h
  exact ⟨⟨dx, m, tl, te, ts, ms, o _ _ ne h1, z.map o h2, z.tup o h3, z.tups o h4, z.tup o h5, PySem.Paired.map h6 fun v _ f ⟨a, ea, mm⟩ => ⟨a, ea, z.map o mm⟩⟩, l, sm, ok⟩
theorem Sep.mod {H H' : Hp} {p md : Addr} {n : Int} {lg : List (Str × Str)} {fs : List PF} (z : Sep H p) (o : Off p H H') (ne : md ≠ p) (h : ModAt H md n lg fs) : ModAt H' md n lg fs := by
  obtain ⟨L, G, ds, us, h1, h2, h3, h4, h5⟩ := h.ob
  exact ⟨L, G, ds, us, o _ _ ne h1, z.refs o h2, z.tabs o h3, z.refs o h4, z.tups o h5⟩
/-- the three together -/
structure St3 (C CM : Addr) (H0 H : Hp) (p s md : Addr) (n : Int) (lg : List (Str × Str)) (gs : List PF) (f : PF) (lm : List (Str × Str)) (fm : List PF) : Prop where
  po : PoolAt H p
  se : SessAt C CM H s n lg gs f
  mo : ModAt H md n lm fm
  of : ∀ b o, b ≠ p → b ≠ s → b ≠ md → H0 b = some o → H b = some o
section
variable {C CM : Addr} {H0 H H' : Hp} {p s md : Addr} {n : Int} {lg lm lg' lm' : List (Str × Str)} {gs gs' fm fm' : List PF} {f f' : PF}
theorem St3.nps (z : St3 C CM H0 H p s md n lg gs f lm fm) : p ≠ s ∧ p ≠ md ∧ s ≠ md := by
  obtain ⟨a, b, e1, _⟩ := z.po
  obtain ⟨dx, m, tl, te, ts, ms, e2, _⟩ := z.se.ob
  obtain ⟨L, G, ds, us, e3, _⟩ := z.mo.ob
  exact ⟨ne_of e1 e2 (by intro w; cases w), ne_of e1 e3 (by intro w; cases w), ne_of e2 e3 (by intro w; cases w)⟩
theorem St3.same (z : St3 C CM H0 H p s md n lg gs f lm fm) (x : Same H H') : St3 C CM H0 H' p s md n lg gs f lm fm := ⟨z.po.same x, z.se.same x, z.mo.same x, fun b o h1 h2 h3 e => x _ _ (z.of b o h1 h2 h3 e)⟩
theorem St3.draw (z : St3 C CM H0 H p s md n lg gs f lm fm) (p' : PoolAt H' p) (o : Off p H H') : St3 C CM H0 H' p s md n lg gs f lm fm :=
  ⟨p', z.po.sep.sess o z.nps.1.symm z.se, z.po.sep.mod o z.nps.2.1.symm z.mo, fun b u h1 h2 h3 e => o _ _ h1 (z.of b u h1 h2 h3 e)⟩
theorem St3.act (z : St3 C CM H0 H p s md n lg gs f lm fm) (o : Off s H H') (h : SessAt C CM H' s n lg' gs' f') : St3 C CM H0 H' p s md n lg' gs' f' lm fm :=
  ⟨Sep.pool o z.nps.1 z.po, h, z.se.sep.mod o z.nps.2.2.symm z.mo, fun b u h1 h2 h3 e => o _ _ h2 (z.of b u h1 h2 h3 e)⟩
theorem St3.put (z : St3 C CM H0 H p s md n lg gs f lm fm) (o : Off md H H') (h : ModAt H' md n lm' fm') : St3 C CM H0 H' p s md n lg gs f lm' fm' :=
  ⟨Sep.pool o z.nps.2.1 z.po, z.mo.sep.sess o z.nps.2.2 z.se, h, fun b u h1 h2 h3 e => o _ _ h3 (z.of b u h1 h2 h3 e)⟩
end
/-- range(..) where the number is drawn -/
theorem lc_rangeQ {wi : TI} {i : Nat} {tv : TE} {vs : List Nat} {σ : L2.St} {H0 : Hp} {Q : VK} (Φ : Nat → Hp → Prop) (hwi : ∀ R : It → Hp → Prop, (∀ c H, Φ c H → R (Itr 0 c) H) → wi σ H0 R)
    (rest : ∀ c H, Φ c H → tLc (fun _ _ R => R (Itr 0 c) H) (gName i) tYes tv vs σ H Q) : tLc wi (gName i) tYes tv vs σ H0 Q := hwi _ fun c H φ => rest c H φ
theorem par_of {i j : Nat} {t1 t2 : TE} {D : Ends} {σ : L2.St} {H : Hp} (h : t1 σ H fun x H1 => t2 σ H1 fun y H2 => ∃ v w, [x, y] = [v, w] ∧ D.nx ((σ.set i (some v)).set j (some w)) H2) : tPar i j (tCons t1 (tCons t2 tNil)) D σ H := h
theorem nx_cut {a rest : TS} {D : Ends} {r : VK} {b c : L2.St → Hp → Prop} {σ : L2.St} {H : Hp} (M : L2.St → Hp → Prop) (h : ∀ nx : L2.St → Hp → Prop, (∀ σ' H', M σ' H' → nx σ' H') → a { D with nx := nx } σ H) (hM : ∀ σ' H', M σ' H' → rest D σ' H') : Ends.nx { nx := tSeq a rest D, rt := r, bk := b, ct := c } σ H := h _ hM
theorem TabsAt.snoc' {H : Hp} {n : Int} {ds : List Addr} {fs : List PF} {d : Addr} {f : PF} {l : List (Int × Int)} (h : TabsAt H n ds fs) (e : H d = some (.dK (kvI l))) (di : DI l f) (wf : WF n f) : TabsAt H n (ds ++ [d]) (fs ++ [f]) := paired_snoc h ⟨l, e, di, wf⟩
def actN (w : Nat) : Str := match w with | 0 => "apply" | 1 => "power" | _ => "steps"
theorem act_at : ∀ {w : Nat}, w < 3 → atI [V.str "apply", .str "power", .str "steps"] (w : Nat) = some (.str (actN w))
  | 0, _ => atI_nat (j := 0) rfl
  | 1, _ => atI_nat (j := 1) rfl
  | 2, _ => atI_nat (j := 2) rfl
end My
namespace My
open PySem L2 U StX PM
/-! ### sessions of any class, with or without a least number -/
def sfx (ex : Option Int) (m tl te : Addr) : List (Str × V) := ("own_present", .ref m) :: ("own_log", .ref tl) :: ("own_earlier", .ref te) :: (match ex with | none => [] | some l => [("own_least", .int l)])
theorem sfx_p (ex : Option Int) (m tl te : Addr) : (sfx ex m tl te).lookup ("own_present" : Str) = some (.ref m) := rfl
theorem sfx_l (ex : Option Int) (m tl te : Addr) : (sfx ex m tl te).lookup ("own_log" : Str) = some (.ref tl) := rfl
theorem sfx_e (ex : Option Int) (m tl te : Addr) : (sfx ex m tl te).lookup ("own_earlier" : Str) = some (.ref te) := rfl
theorem sfx_t (l : Int) (m tl te : Addr) : (sfx (some l) m tl te).lookup ("own_least" : Str) = some (.int l) := rfl
theorem sfx_put (l : Int) (m tl te : Addr) : putF "own_least" (.int l) (sfx none m tl te) = sfx (some l) m tl te := rfl
theorem sfx_pp (ex : Option Int) (m tl te m' : Addr) : putF "own_present" (.ref m') (sfx ex m tl te) = sfx ex m' tl te := by cases ex <;> rfl
theorem sfx_pl (ex : Option Int) (m tl te m' : Addr) : putF "own_log" (.ref m') (sfx ex m tl te) = sfx ex m m' te := by cases ex <;> rfl
theorem sfx_pe (ex : Option Int) (m tl te m' : Addr) : putF "own_earlier" (.ref m') (sfx ex m tl te) = sfx ex m tl m' := by cases ex <;> rfl
theorem sfx_len (ex : Option Int) (m tl te : Addr) : (sfx ex m tl te).length < 1000 := by
  cases ex
  · show 3 < 1000; decide
  · show 4 < 1000; decide
theorem sfx_no (ex : Option Int) (m tl te : Addr) : (sfx ex m tl te).lookup ("own_size" : Str) = none := by cases ex <;> rfl
theorem sfx_cn (ex : Option Int) (m tl te : Addr) : (sfx ex m tl te).lookup ("check_next" : Str) = none := by cases ex <;> rfl
theorem sfx_ct (ex : Option Int) (m tl te : Addr) : (sfx ex m tl te).lookup ("change_to" : Str) = none := by cases ex <;> rfl
/-- what a class of sessions has -/
structure SC (K : PySem.W.Frag) (C : Addr) : Prop where
  o : OwnC K C
  p : NoAttr K C "own_present"
  l : NoAttr K C "own_log"
  e : NoAttr K C "own_earlier"
structure SessX (ex : Option Int) (C CM : Addr) (H : Hp) (s : Addr) (n : Int) (lg : List (Str × Str)) (gs : List PF) (f : PF) : Prop where
  ob : ∃ dx m tl te ts ms, H s = some (.ins C dx (sfx ex m tl te)) ∧ IsMap CM H m n f ∧ H tl = some (.tup (ts.map V.ref)) ∧ Paired (fun t (p : Str × Str) => H t = some (.tup [.str p.1, .str p.2])) ts lg ∧ H te = some (.tup ms) ∧ MapsAt CM H n ms gs
  len : gs.length = lg.length
  sm : lg.length ≤ 1000
  ok : ∀ p ∈ lg, OkS p.1 ∧ OkS p.2
theorem SessX.same {ex : Option Int} {C CM : Addr} {H H' : Hp} {s : Addr} {n : Int} {lg : List (Str × Str)} {gs : List PF} {f : PF} (h : SessX ex C CM H s n lg gs f) (x : Same H H') : SessX ex C CM H' s n lg gs f := by
  obtain ⟨⟨dx, m, tl, te, ts, ms, h1, h2, h3, h4, h5, h6⟩, l, sm, ok⟩ := h
  exact ⟨⟨dx, m, tl, te, ts, ms, x _ _ h1, h2.same x, x _ _ h3, h4.map fun _ _ _ e => x _ _ e, x _ _ h5, h6.same x⟩, l, sm, ok⟩
theorem SessX.sob {ex : Option Int} {C CM : Addr} {H : Hp} {s : Addr} {n : Int} {lg : List (Str × Str)} {gs : List PF} {f : PF} (h : SessX ex C CM H s n lg gs f) : SOb H s := by
  obtain ⟨dx, m, tl, te, ts, ms, h1, _⟩ := h.ob
  exact ⟨C, dx, _, h1, sfx_no _ _ _ _⟩
def okx (ex : Option Int) (n : Int) (f : PF) : Prop := match ex with | none => True | some l => l ≤ ((tab n f).length : Nat)
def few (CT : Addr) (n : Int) (f : PF) (H : Hp) (E : XK) : Prop := ∀ H' d, Same H H' → H' d = none → E (.ref CT) (some d) (upd H' d (.xd [("number", .int ((tab n f).length : Nat))]))
theorem few.same {CT : Addr} {n : Int} {f : PF} {H H' : Hp} {E : XK} (h : few CT n f H E) (s : Same H H') : few CT n f H' E := fun H2 d s2 nd => h H2 d (s.trans s2) nd
def spNext (C CM CT : Addr) (ex : Option Int) : Sp := fun vs H Q E => ∃ (s m dx p tl te : Addr) (n : Int) (f : PF), vs = [.ref s, .ref m] ∧ H s = some (.ins C dx (sfx ex p tl te)) ∧ IsMap CM H m n f ∧ (okx ex n f → Q .non H) ∧ (¬ okx ex n f → few CT n f H E)
def spInitX (K : PySem.W.Frag) (CM : Addr) : Sp := fun vs H Q _ => ∃ (s dx C : Addr) (n : Int), vs = [.ref s, .int n] ∧ SC K C ∧ H s = some (.ins C dx []) ∧ 1 ≤ n ∧ n ≤ 300 ∧ ∀ H', Off s H H' → (∃ m tl te, H' s = some (.ins C dx (sfx none m tl te))) → SessX none C CM H' s n [] [] (idn n) → Q .non H'
def spChangeX (ex : Option Int) (C CM CT : Addr) : Sp := fun vs H Q E => ∃ (s m' : Addr) (u a : Str) (n : Int) (lg : List (Str × Str)) (gs : List PF) (f f' : PF), vs = [.ref s, .str u, .str a, .ref m'] ∧ SessX ex C CM H s n lg gs f ∧ IsMap CM H m' n f' ∧ OkS u ∧ OkS a ∧ lg.length < 1000 ∧
  (¬ okx ex n f' → few CT n f' H E) ∧ (okx ex n f' → ∀ H', Off s H H' → SessX ex C CM H' s n (lg ++ [(u, a)]) (gs ++ [f]) f' → IsMap CM H' m' n f' → Q (.ref m') H')
def spActX (ex : Option Int) (C CM CT : Addr) (arg : Hp → Int → PF → V → PF → Prop) (a : Str) : Sp := fun vs H Q E => ∃ (s : Addr) (u : Str) (x : V) (n : Int) (lg : List (Str × Str)) (gs : List PF) (f f' : PF), vs = [.ref s, .str u, x] ∧ SessX ex C CM H s n lg gs f ∧ nameS u = true ∧ OkS u ∧ lg.length < 1000 ∧ arg H n f x f' ∧
  (¬ okx ex n f' → few CT n f' H E) ∧ (okx ex n f' → ∀ m' H', Off s H H' → SessX ex C CM H' s n (lg ++ [(u, a)]) (gs ++ [f]) f' → IsMap CM H' m' n f' → Q (.ref m') H')
def spPresentX (ex : Option Int) (C CM : Addr) : Sp := fun vs H Q _ => ∃ (s : Addr) (n : Int) (lg : List (Str × Str)) (gs : List PF) (f : PF), vs = [.ref s] ∧ SessX ex C CM H s n lg gs f ∧ ∀ m, IsMap CM H m n f → Q (.ref m) H
def spLogX (ex : Option Int) (C CM : Addr) : Sp := fun vs H Q _ => ∃ (s : Addr) (n : Int) (lg : List (Str × Str)) (gs : List PF) (f : PF), vs = [.ref s] ∧ SessX ex C CM H s n lg gs f ∧ ∀ r ts, H r = none → Paired (fun t (p : Str × Str) => H t = some (.tup [.str p.1, .str p.2])) ts lg → Q (.ref r) (upd H r (.lst (ts.map V.ref)))
def spLenX (ex : Option Int) (C CM : Addr) : Sp := fun vs H Q _ => ∃ (s : Addr) (n : Int) (lg : List (Str × Str)) (gs : List PF) (f : PF), vs = [.ref s] ∧ SessX ex C CM H s n lg gs f ∧ Q (.int (lg.length : Nat)) H
def spAtX (ex : Option Int) (C CM : Addr) : Sp := fun vs H Q _ => ∃ (s : Addr) (n : Int) (lg : List (Str × Str)) (gs : List PF) (f : PF) (k : Nat) (g : PF), vs = [.ref s, .int (k : Nat)] ∧ SessX ex C CM H s n lg gs f ∧ (gs ++ [f])[k]? = some g ∧ ∀ m H', Same H H' → IsMap CM H' m n g → Q (.ref m) H'
section
variable {P : Program} {w : World} {K : PySem.W.Frag} {mg : Str → Option Value} {base : Heap}
theorem okx_init (T : Txt K mg) : FnR P w K mg base CX0 9 T.f_Session__init (spInitX K T.C_Map) := by
  refine T.A_Session__init.ok sc_Session__init (fun vs H Q E h => ?_) (fun cdv A outer s H vs Q E hr h => ?_)
  · obtain ⟨s, dx, C, n, rfl, _⟩ := h
    rfl
  · obtain ⟨s, dx, C, n, rfl, sc, hs, n1, n3, q⟩ := h
    refine ⟨_, (pss_cons (ps_expr (pe_callR (ok_check_size T) (hr.mono (by decide)) T.A_check_size.kp rfl T.g_check_size pass0 (pa_cons (pv 1) pa_nil)))
      (pss_cons (ps_fld (pv 0) (ClX.pe_cmeth (pe_glob (v := .ref T.C_Map) rfl T.g_Map rfl) T.R_Map T.cm_Map_identity (ok_identity T) (hr.mono (by decide)) pass0 (pa_cons (pv 1) pa_nil)) rfl)
      (pss_cons (ps_fld (pv 0) (pe_tup pa_nil) rfl)
      (pss_one (ps_fld (pv 0) (pe_tup pa_nil) rfl))))), ?_⟩
    refine ⟨_, rfl, n, rfl, n1, n3, ?_⟩
    refine ⟨rfl, _, rfl, n, rfl, n1, n3, fun r H1 nr s1 mr => ?_⟩
    have hs1 := s1 _ _ hs
    refine ⟨_, rfl, s, _, dx, _, rfl, hs1, sc.o.cl, sc.p, (by show 0 < 1000; decide), ?_⟩
    generalize g_Ha : L2.upd _ s _ = Ha
    obtain ⟨o_Ha, e_Ha⟩ := st_facts g_Ha
    clear g_Ha
    refine ⟨nil_le, ?_⟩
    refine fun t1 n_t1 => ?_
    generalize g_t1 : L2.upd _ t1 _ = Hb
    obtain ⟨s_Hb, e_t1⟩ := U.upd_facts g_t1 n_t1
    clear g_t1
    refine ⟨_, rfl, s, _, dx, _, rfl, s_Hb _ _ e_Ha, sc.o.cl, sc.l, (by show 1 < 1000; decide), ?_⟩
    generalize g_Hc : L2.upd _ s _ = Hc
    obtain ⟨o_Hc, e_Hc⟩ := st_facts g_Hc
    clear g_Hc
    refine ⟨nil_le, ?_⟩
    refine fun t2 n_t2 => ?_
    generalize g_t2 : L2.upd _ t2 _ = Hd
    obtain ⟨s_Hd, e_t2⟩ := U.upd_facts g_t2 n_t2
    clear g_t2
    refine ⟨_, rfl, s, _, dx, _, rfl, s_Hd _ _ e_Hc, sc.o.cl, sc.e, (by show 2 < 1000; decide), ?_⟩
    generalize g_He : L2.upd _ s _ = He
    obtain ⟨o_He, e_He⟩ := st_facts g_He
    clear g_He
    have so1 : SOb H1 s := ⟨_, _, _, hs1, rfl⟩
    have so2 : SOb Hb s := ⟨_, _, _, s_Hb _ _ e_Ha, rfl⟩
    have so3 : SOb Hd s := ⟨_, _, _, s_Hd _ _ e_Hc, rfl⟩
    have m2 := (((((mr.offS o_Ha so1).same s_Hb).offS o_Hc so2).same s_Hd).offS o_He so3)
    have f1 := tupS (s_Hd _ _ (tupS e_t1 o_Hc so2)) o_He so3
    have f2 := tupS e_t2 o_He so3
    refine q He (((((Off.same s1).tr o_Ha).tr (Off.same s_Hb)).tr o_Hc).tr (Off.same s_Hd) |>.tr o_He) ⟨_, _, _, e_He⟩ ⟨⟨dx, r, t1, t2, [], [], e_He, m2, f1, .nil, f2, .nil⟩, rfl, Nat.zero_le _, fun p hp => nomatch hp⟩
theorem okx_present (T : Txt K mg) {C : Addr} {ex : Option Int} (sc : SC K C) : FnR P w K mg base CX0 1 T.f_Session_present (spPresentX ex C T.C_Map) := by
  refine T.A_Session_present.ok sc_Session_present (fun vs H Q E h => ?_) (fun cdv A outer s H vs Q E hr h => ?_)
  · obtain ⟨s, n, lg, gs, f, rfl, _⟩ := h
    rfl
  · obtain ⟨s, n, lg, gs, f, rfl, ⟨⟨dx, m, tl, te, ts, ms, h1, h2, h3, h4, h5, h6⟩, hl, sm, ok⟩, q⟩ := h
    refine ⟨_, (pss_one (ps_ret (pe_fld (pv 0) rfl))), ?_⟩
    exact ⟨_, rfl, s, _, dx, _, _, rfl, h1, sc.o.cl, sc.p, sfx_p _ _ _ _, q m h2⟩
theorem okx_log (T : Txt K mg) {C : Addr} {ex : Option Int} (sc : SC K C) : FnR P w K mg base CX0 1 T.f_Session_log (spLogX ex C T.C_Map) := by
  refine T.A_Session_log.ok sc_Session_log (fun vs H Q E h => ?_) (fun cdv A outer s H vs Q E hr h => ?_)
  · obtain ⟨s, n, lg, gs, f, rfl, _⟩ := h
    rfl
  · obtain ⟨s, n, lg, gs, f, rfl, ⟨⟨dx, m, tl, te, ts, ms, h1, h2, h3, h4, h5, h6⟩, hl, sm, ok⟩, q⟩ := h
    refine ⟨_, (pss_one (ps_ret (pe_callTy call_list_of (by rfl) T.n_list (by decide +kernel) (pa_cons (pe_fld (pv 0) rfl) pa_nil)))), ?_⟩
    exact ⟨_, rfl, s, _, dx, _, _, rfl, h1, sc.o.cl, sc.l, sfx_l _ _ _ _, tl, _, rfl, .inr (SqT.of h3), fun r nr => q r ts nr h4⟩
theorem okx_len (T : Txt K mg) {C : Addr} {ex : Option Int} (sc : SC K C) : FnR P w K mg base CX0 1 T.f_Session__len (spLenX ex C T.C_Map) := by
  refine T.A_Session__len.ok sc_Session__len (fun vs H Q E h => ?_) (fun cdv A outer s H vs Q E hr h => ?_)
  · obtain ⟨s, n, lg, gs, f, rfl, _⟩ := h
    rfl
  · obtain ⟨s, n, lg, gs, f, rfl, ⟨⟨dx, m, tl, te, ts, ms, h1, h2, h3, h4, h5, h6⟩, hl, sm, ok⟩, q⟩ := h
    refine ⟨_, (pss_one (ps_ret (pe_callB call_len_seq (by rfl) T.n_len (by decide +kernel) (pa_cons (pe_fld (pv 0) rfl) pa_nil)))), ?_⟩
    refine ⟨_, rfl, s, _, dx, _, _, rfl, h1, sc.o.cl, sc.l, sfx_l _ _ _ _, tl, _, rfl, .inr (SqT.of h3), ?_⟩
    rw [List.length_map, paired_len h4]
    exact q
theorem okx_change_to (T : Txt K mg) {C CT g : Addr} {ex : Option Int} (sc : SC K C) (cn : Meth K C "check_next" g) (FN : FnR P w K mg base (L2.CX P w) 5 g (spNext C T.C_Map CT ex)) : FnR P w K mg base (L2.CX P w) 6 T.f_Session_change_to (spChangeX ex C T.C_Map CT) := by
  refine T.A_Session_change_to.okX sc_Session_change_to (fun vs H Q E h => ?_) (fun cdv A outer s H vs Q E hr h => ?_)
  · obtain ⟨s, m', u, a, n, lg, gs, f, f', rfl, _⟩ := h
    rfl
  · obtain ⟨s, m', u, a, n, lg, gs, f, f', rfl, ⟨⟨dx, m, tl, te, ts, ms, h1, h2, h3, h4, h5, h6⟩, hl, sm, ok⟩, hm', hu, ha, hlt, qf, q⟩ := h
    refine ⟨_, (pss_cons (ps_expr (pe_methR (pv 0) sc.o.cl cn (FN) (hr.mono (by decide)) (passes_call (takes_of rfl rfl rfl rfl) (fun _ _ _ _ h => h)) (pa_cons (pv 3) pa_nil)))
      (pss_cons (ps_fld (pv 0) (pe_tup (pa_star (pe_fld (pv 0) rfl) (pa_cons (pe_fld (pv 0) rfl) pa_nil))) rfl)
      (pss_cons (ps_fld (pv 0) (pe_tup (pa_star (pe_fld (pv 0) rfl) (pa_cons (pe_tup (pa_cons (pv 1) (pa_cons (pv 2) pa_nil))) pa_nil))) rfl)
      (pss_cons (ps_fld (pv 0) (pv 3) rfl)
      (pss_one (ps_ret (pv 3))))))), ?_⟩
    refine ⟨_, rfl, s, dx, _, rfl, h1, sfx_cn _ _ _ _, _, rfl, s, m', dx, m, tl, te, n, f', rfl, h1, hm', fun hk => ?_, qf⟩
    replace q := q hk
    have lms := paired_len h6
    have lts := paired_len h4
    refine ⟨_, rfl, s, _, dx, _, _, rfl, h1, sc.o.cl, sc.e, sfx_e _ _ _ _, te, ms, rfl, .inl (SqT.of h5), _, rfl, s, _, dx, _, _, rfl, h1, sc.o.cl, sc.p, sfx_p _ _ _ _, le_line (by simp only [List.length_append, List.length_cons, List.length_nil]; omega), ?_⟩
    refine fun t1 n_t1 => ?_
    generalize g_t1 : L2.upd _ t1 _ = Ha
    obtain ⟨s_Ha, e_t1⟩ := U.upd_facts g_t1 n_t1
    clear g_t1
    refine ⟨_, rfl, s, _, dx, _, rfl, s_Ha _ _ h1, sc.o.cl, sc.e, (sfx_len _ _ _ _), ?_⟩
    rw [sfx_pe]
    generalize g_Hb : L2.upd _ s _ = Hb
    obtain ⟨o_Hb, e_Hb⟩ := st_facts g_Hb
    clear g_Hb
    have so1 : SOb Ha s := ⟨_, _, _, s_Ha _ _ h1, sfx_no _ _ _ _⟩
    have f1 := tupS e_t1 o_Hb so1
    have g3 := tupS (s_Ha _ _ h3) o_Hb so1
    have g4 := logS (h4.map fun _ _ _ z => s_Ha _ _ z) o_Hb so1
    refine ⟨_, rfl, s, _, dx, _, _, rfl, e_Hb, sc.o.cl, sc.l, sfx_l _ _ _ _, tl, _, rfl, .inl (SqT.of g3), _, rfl, _, rfl, two_le, ?_⟩
    refine fun t2 n_t2 => ?_
    generalize g_t2 : L2.upd _ t2 _ = Hc
    obtain ⟨s_Hc, e_t2⟩ := U.upd_facts g_t2 n_t2
    clear g_t2
    refine ⟨le_line (by simp only [List.length_append, List.length_cons, List.length_nil, List.length_map]; omega), ?_⟩
    refine fun t3 n_t3 => ?_
    generalize g_t3 : L2.upd _ t3 _ = Hd
    obtain ⟨s_Hd, e_t3⟩ := U.upd_facts g_t3 n_t3
    clear g_t3
    have eD := s_Hd _ _ (s_Hc _ _ e_Hb)
    refine ⟨_, rfl, s, _, dx, _, rfl, eD, sc.o.cl, sc.l, (sfx_len _ _ _ _), ?_⟩
    rw [sfx_pl]
    generalize g_He : L2.upd _ s _ = He
    obtain ⟨o_He, e_He⟩ := st_facts g_He
    clear g_He
    refine ⟨_, rfl, _, rfl, s, _, dx, _, rfl, e_He, sc.o.cl, sc.p, (sfx_len _ _ _ _), ?_⟩
    rw [sfx_pp]
    generalize g_Hf : L2.upd _ s _ = Hf
    obtain ⟨o_Hf, e_Hf⟩ := st_facts g_Hf
    clear g_Hf
    have so2 : SOb Hd s := ⟨_, _, _, eD, sfx_no _ _ _ _⟩
    have so3 : SOb He s := ⟨_, _, _, e_He, sfx_no _ _ _ _⟩
    have sd : Same Hb Hd := s_Hc.trans s_Hd
    have mv : ∀ {x : Addr} {g : PF}, IsMap T.C_Map H x n g → IsMap T.C_Map Hf x n g := fun h => ((((h.same s_Ha).offS o_Hb so1).same sd).offS o_He so2).offS o_Hf so3
    have tv : ∀ {x : Addr} {xs : List V}, Hb x = some (.tup xs) → Hf x = some (.tup xs) := fun h => tupS (tupS (sd _ _ h) o_He so2) o_Hf so3
    have k3 : Hf t3 = _ := tupS (tupS e_t3 o_He so2) o_Hf so3
    have k2 : Hf t2 = _ := tupS (tupS (s_Hd _ _ e_t2) o_He so2) o_Hf so3
    refine ⟨_, rfl, q Hf ((((((Off.same s_Ha).tr o_Hb).tr (Off.same sd))).tr o_He).tr o_Hf) ⟨⟨dx, m', t3, t1, ts ++ [t2], ms ++ [.ref m], e_Hf, mv hm', ?_, paired_snoc (g4.map fun _ _ _ z => tv z) k2, tv f1, paired_snoc (PySem.Paired.map h6 fun v _ f ⟨a, ea, mm⟩ => ⟨a, ea, mv mm⟩) ⟨m, rfl, mv h2⟩⟩, by simp [hl], by simp; omega, ?_⟩ (mv hm')⟩
    · rw [k3, List.map_append]; rfl
    · intro p hp
      rcases List.mem_append.mp hp with hp | hp
      · exact ok p hp
      · rw [List.mem_singleton] at hp
        subst hp
        exact ⟨hu, ha⟩
end
end My
namespace My
open PySem L2 U StX PM
section
variable {P : Program} {w : World} {K : PySem.W.Frag} {mg : Str → Option Value} {base : Heap}
theorem okx_apply (T : Txt K mg) {C CT g : Addr} {ex : Option Int} (sc : SC K C) (ct : Meth K C "change_to" T.f_Session_change_to) (cn : Meth K C "check_next" g) (FN : FnR P w K mg base (L2.CX P w) 5 g (spNext C T.C_Map CT ex)) : FnR P w K mg base (L2.CX P w) 10 T.f_Session_apply (spActX ex C T.C_Map CT (argA T.C_Map) "apply") := by
  refine T.A_Session_apply.okX sc_Session_apply (fun vs H Q E h => ?_) (fun cdv A outer s H vs Q E hr h => ?_)
  · obtain ⟨s, u, x, n, lg, gs, f, f', rfl, _⟩ := h
    rfl
  · obtain ⟨s, u, x, n, lg, gs, f, f', rfl, hs, hn, hu, hl, ⟨b, g, rfl, hb, rfl⟩, qf, q⟩ := h
    refine ⟨_, (pss_cons (ps_expr (pe_callR (ok_check_user T) (hr.mono (by decide)) T.A_check_user.kp rfl T.g_check_user pass0 (pa_cons (pv 1) pa_nil)))
      (pss_cons (ps_expr (pe_callR (fnR_calm (ok_check_map T)) (hr.mono (by decide)) T.A_check_map.kp rfl T.g_check_map pass0 (pa_cons (pv 2) pa_nil)))
      (pss_cons (ps_expr (pe_callR (ok_check_maps T) (hr.mono (by decide)) T.A_check_maps.kp rfl T.g_check_maps pass0 (pa_cons (pe_fld (pv 0) rfl) (pa_cons (pv 2) pa_nil))))
      (pss_one (ps_ret (pe_methR (pv 0) sc.o.cl ct (okx_change_to T sc cn FN) (hr.mono (by decide)) (passes_call (takes_of rfl rfl rfl rfl) (fun _ _ _ _ h => h)) (pa_cons (pv 1) (pa_cons pe_str (pa_cons (pe_op (op_bin T.o_Map.sf T.m_Map__mul T.i_Map__mul (ok_mul T) (hr.mono (by decide)) pass0) (pe_fld (pv 0) rfl) (pv 2)) pa_nil))))))))), ?_⟩
    refine ⟨_, rfl, u, rfl, hn, fun H1 s1 => ?_⟩
    replace hs := hs.same s1
    replace hb := hb.same s1
    obtain ⟨dx, m, tl, te, ts, ms, h1, h2, h3, h4, h5, h6⟩ := id hs.ob
    refine ⟨_, rfl, _, rfl, .inl ⟨b, n, g, rfl, hb, ?_⟩⟩
    refine ⟨_, rfl, s, _, dx, _, _, rfl, h1, sc.o.cl, sc.p, sfx_p _ _ _ _, _, rfl, m, b, n, f, g, rfl, h2, hb, ?_⟩
    obtain ⟨ex, fx, e1⟩ := at_map h2
    obtain ⟨ey, fy, e2⟩ := at_map hb
    refine ⟨_, rfl, s, dx, _, rfl, h1, sfx_ct _ _ _ _, _, rfl, _, rfl, s, _, dx, _, _, rfl, h1, sc.o.cl, sc.p, sfx_p _ _ _ _, _, rfl, m, _, _, b, _, _, rfl, rfl, e1, e2, m, b, n, f, g, rfl, h2, hb, fun r H2 nr s2 hr2 => ?_⟩
    refine ⟨s, r, u, "apply", n, lg, gs, f, mul f g, rfl, hs.same s2, hr2, hu, oks_apply, hl, fun nk => (qf nk).same (by array_mem_dec), fun hk H3 o3 hs3 m3 => ?_⟩
    exact q hk r H3 ((Off.same (s1.trans s2)).tr o3) hs3 m3
theorem okx_raise (T : Txt K mg) {C CT g : Addr} {ex : Option Int} (sc : SC K C) (ct : Meth K C "change_to" T.f_Session_change_to) (cn : Meth K C "check_next" g) (FN : FnR P w K mg base (L2.CX P w) 5 g (spNext C T.C_Map CT ex)) : FnR P w K mg base (L2.CX P w) 10 T.f_Session_raise_to (spActX ex C T.C_Map CT argP "power") := by
  refine T.A_Session_raise_to.okX sc_Session_raise_to (fun vs H Q E h => ?_) (fun cdv A outer s H vs Q E hr h => ?_)
  · obtain ⟨s, u, x, n, lg, gs, f, f', rfl, _⟩ := h
    rfl
  · obtain ⟨s, u, x, n, lg, gs, f, f', rfl, hs, hn, hu, hl, ⟨e, rfl, rfl⟩, qf, q⟩ := h
    refine ⟨_, (pss_cons (ps_expr (pe_callR (ok_check_user T) (hr.mono (by decide)) T.A_check_user.kp rfl T.g_check_user pass0 (pa_cons (pv 1) pa_nil)))
      (pss_cons (ps_if (pt_not (pt_val (pe_callR (ok_is_integer T) (hr.mono (by decide)) T.A_is_integer.kp rfl T.g_is_integer pass0 (pa_cons (pv 2) pa_nil))))
        (pss_one ps_never) pss_nil)
      (pss_one (ps_ret (pe_methR (pv 0) sc.o.cl ct (okx_change_to T sc cn FN) (hr.mono (by decide)) (passes_call (takes_of rfl rfl rfl rfl) (fun _ _ _ _ h => h)) (pa_cons (pv 1) (pa_cons pe_str (pa_cons (pe_methR (pe_fld (pv 0) rfl) T.o_Map.cl T.meth_Map_power (ok_power T) (hr.mono (by decide)) pass0 (pa_cons (pv 2) pa_nil)) pa_nil)))))))), ?_⟩
    refine ⟨_, rfl, u, rfl, hn, fun H1 s1 => ?_⟩
    replace hs := hs.same s1
    obtain ⟨dx, m, tl, te, ts, ms, h1, h2, h3, h4, h5, h6⟩ := id hs.ob
    refine ⟨_, rfl, _, rfl, trivial, _, rfl, iteF ?_⟩
    obtain ⟨ex, D, e1, e2⟩ := id h2.ob
    refine ⟨_, rfl, s, dx, _, rfl, h1, sfx_ct _ _ _ _, _, rfl, _, rfl, s, _, dx, _, _, rfl, h1, sc.o.cl, sc.p, sfx_p _ _ _ _, m, ex, _, rfl, e1, flds_no _ _ (by decide +kernel) (by decide +kernel), _, rfl, m, n, f, e, rfl, h2, fun r H2 nr s2 hr2 => ?_⟩
    refine ⟨s, r, u, "power", n, lg, gs, f, pw n f e, rfl, hs.same s2, hr2, hu, oks_power, hl, fun nk => (qf nk).same (by array_mem_dec), fun hk H3 o3 hs3 m3 => ?_⟩
    exact q hk r H3 ((Off.same (s1.trans s2)).tr o3) hs3 m3
theorem okx_steps (T : Txt K mg) {C CT g : Addr} {ex : Option Int} (sc : SC K C) (ct : Meth K C "change_to" T.f_Session_change_to) (cn : Meth K C "check_next" g) (FN : FnR P w K mg base (L2.CX P w) 5 g (spNext C T.C_Map CT ex)) : FnR P w K mg base (L2.CX P w) 10 T.f_Session_do_steps (spActX ex C T.C_Map CT argS "steps") := by
  refine T.A_Session_do_steps.okX sc_Session_do_steps (fun vs H Q E h => ?_) (fun cdv A outer s H vs Q E hr h => ?_)
  · obtain ⟨s, u, x, n, lg, gs, f, f', rfl, _⟩ := h
    rfl
  · obtain ⟨s, u, x, n, lg, gs, f, f', rfl, hs, hn, hu, hl, ⟨a, ss0, ss, rfl, ha, hp, hok, hls, rfl⟩, qf, q⟩ := h
    refine ⟨_, (pss_cons (ps_expr (pe_callR (ok_check_user T) (hr.mono (by decide)) T.A_check_user.kp rfl T.g_check_user pass0 (pa_cons (pv 1) pa_nil)))
      (pss_cons (ps_set (i := 3) sc_Session_do_steps.nd rfl (Or.inl rfl) (pe_callR (ok_first_invalid T) (hr.mono (by decide)) T.A_first_invalid.kp rfl T.g_first_invalid pass0 (pa_cons (pe_propR (pe_fld (pv 0) rfl) T.o_Map.cl T.P_Map_size (ok_size T) (hr.mono (by decide))) (pa_cons (pv 2) pa_nil))))
      (pss_cons (ps_if (pt_cmpR op_notN (pv 3) pe_non (nomark _))
        (pss_one ps_never) pss_nil)
      (pss_cons (ps_set (i := 4) sc_Session_do_steps.nd rfl (Or.inl rfl) (pe_makeR T.M_Map (ok_init T) (hr.mono (by decide)) rfl T.g_Map pass0 (pa_cons (pe_propR (pe_fld (pv 0) rfl) T.o_Map.cl T.P_Map_size (ok_size T) (hr.mono (by decide))) (pa_cons (pe_callR (ok_after_list T) (hr.mono (by decide)) T.A_after_list.kp rfl T.g_after_list pass0 (pa_cons (pe_propR (pe_fld (pv 0) rfl) T.o_Map.cl T.P_Map_arrows (ok_arrows T) (hr.mono (by decide))) (pa_cons (pv 2) pa_nil))) pa_nil))))
      (pss_one (ps_ret (pe_methR (pv 0) sc.o.cl ct (okx_change_to T sc cn FN) (hr.mono (by decide)) (passes_call (takes_of rfl rfl rfl rfl) (fun _ _ _ _ h => h)) (pa_cons (pv 1) (pa_cons pe_str (pa_cons (pv 4) pa_nil)))))))))), ?_⟩
    refine ⟨_, rfl, u, rfl, hn, fun H1 s1 => ?_⟩
    replace hs := hs.same s1
    replace ha := s1 _ _ ha
    replace hp : Paired (fun t s => H1 t = some (.tup (Stp.vs s))) ss0 ss := hp.map fun t _ s e => s1 _ _ e
    obtain ⟨dx, m, tl, te, ts, ms, h1, h2, h3, h4, h5, h6⟩ := id hs.ob
    obtain ⟨ex, fx, e1⟩ := at_map h2
    have hlen := paired_len hp
    refine ⟨_, rfl, s, _, dx, _, _, rfl, h1, sc.o.cl, sc.p, sfx_p _ _ _ _, m, _, _, rfl, e1, m, n, f, rfl, h2, _, rfl, n, _, rfl, .inl ⟨_, ha⟩, .inr ⟨a, _, ss.length, rfl, ha, by rw [List.length_map, hlen]; exact Nat.le_refl _, fun i z hi ez => ?_, .inl ⟨by rw [List.length_map, hlen], fun H2 s2 => ⟨_, rfl, rfl, _, rfl, iteF ?_⟩⟩⟩⟩
    · rw [List.getElem?_map] at ez
      cases e : ss0[i]? with
      | none => rw [e] at ez; cases ez
      | some t =>
        rw [e] at ez
        cases ez
        obtain ⟨sp, es, ht⟩ := paired_at hp e
        exact ⟨.inr (.inl ⟨_, ht⟩), .inr ⟨t, _, rfl, ht, known_vs sp, by cases sp <;> simp [Stp.vs], (stepB_of (hok _ (List.mem_of_getElem? es))).symm⟩⟩
    · replace hs := hs.same s2
      replace h2 := h2.same s2
      replace h1 := s2 _ _ h1
      obtain ⟨ex, fx, e1⟩ := at_map h2
      refine ⟨_, rfl, s, _, dx, _, _, rfl, h1, sc.o.cl, sc.p, sfx_p _ _ _ _, m, _, _, rfl, e1, m, n, f, rfl, h2, ?_⟩
      refine ⟨_, rfl, s, _, dx, _, _, rfl, h1, sc.o.cl, sc.p, sfx_p _ _ _ _, m, _, _, rfl, e1, m, n, f, rfl, h2, fun D nD => ?_⟩
      have sD : Same H2 (upd H2 D (.dK (kvI (tab n f)))) := Same.new nD
      have tln := tab_len n f
      have h9 := h2.hi
      refine ⟨_, rfl, D, a, _, n, f, ss0, ss, rfl, upd_same, di_tab h2.wf, h2.wf, by omega, (s2.trans sD) _ _ ha, hp.map fun t _ s e => (s2.trans sD) _ _ e, hok, hls, fun p l' H3 s3 np hp3 di3 hl3 => ?_⟩
      refine fun r dr nr ndr ne => init_of hp3 di3 (wf_stps h2.wf hok) h2.lo h2.hi (by omega) nr ndr ne fun H4 s4 hr4 => ⟨rfl, ?_⟩
      have s24 := (sD.trans s3).trans s4
      refine ⟨_, rfl, s, dx, _, rfl, s24 _ _ h1, sfx_ct _ _ _ _, _, rfl, _, rfl, s, r, u, "steps", n, lg, gs, f, stps f ss, rfl, hs.same s24, hr4, hu, oks_steps, hl, fun nk => (qf nk).same (by array_mem_dec), fun hk H5 o5 hs5 m5 => ?_⟩
      exact q hk r H5 ((Off.same ((s1.trans s2).trans s24)).tr o5) hs5 m5
end
end My
namespace My
open PySem L2 U StX PM
def spUndoX (ex : Option Int) (C CM CN CL : Addr) : Sp := fun vs H Q E => ∃ (s : Addr) (u : Str) (n : Int) (lg : List (Str × Str)) (gs : List PF) (f : PF), vs = [.ref s, .str u] ∧ SessX ex C CM H s n lg gs f ∧ nameS u = true ∧
  ((lg = [] ∧ ∀ d H', Same H H' → H' d = none → E (.ref CN) (some d) (upd H' d (.xd [("user", .str u)]))) ∨
   (∃ lg0 v a, lg = lg0 ++ [(v, a)] ∧ v ≠ u ∧ ∀ d H', Same H H' → H' d = none → E (.ref CL) (some d) (upd H' d (.xd [("user", .str v)]))) ∨
   (∃ lg0 a gs0 g, lg = lg0 ++ [(u, a)] ∧ gs = gs0 ++ [g] ∧ ∀ m H', Off s H H' → SessX ex C CM H' s n lg0 gs0 g → IsMap CM H' m n g → Q (.ref m) H'))
section
variable {P : Program} {w : World} {K : PySem.W.Frag} {mg : Str → Option Value} {base : Heap}
theorem okx_undo (T : Txt K mg) {C : Addr} {ex : Option Int} (sc : SC K C) : FnR P w K mg base (L2.CX P w) 8 T.f_Session_undo (spUndoX ex C T.C_Map T.C_NothingToUndo T.C_NotLast) := by
  refine T.A_Session_undo.okX sc_Session_undo (fun vs H Q E h => ?_) (fun cdv A outer s H vs Q E hr h => ?_)
  · obtain ⟨s, u, n, lg, gs, f, rfl, _⟩ := h
    rfl
  · obtain ⟨s, u, n, lg, gs, f, rfl, hs, hn, h⟩ := h
    refine ⟨_, (pss_cons (ps_expr (pe_callR (ok_check_user T) (hr.mono (by decide)) T.A_check_user.kp rfl T.g_check_user pass0 (pa_cons (pv 1) pa_nil)))
      (pss_cons (ps_if (pt_cmpR (L2.op_eqD hr.units) (pe_fld (pv 0) rfl) (pe_tup pa_nil) (nomark _))
        (pss_one (ps_raise rfl (takes_of rfl rfl rfl rfl) (pmk_oexG T.x_NothingToUndo T.m_NothingToUndo__init T.ti_NothingToUndo__init (ok_ini_NothingToUndo T) (hr.mono (by decide)) pass0 rfl T.g_NothingToUndo (pa_cons (pv 1) pa_nil)))) pss_nil)
      (pss_cons (ps_if (pt_cmpR op_ne (pe_ix ix_tup (pe_ix ix_tup (pe_fld (pv 0) rfl) (pe_un un_neg pe_int) (fun _ _ => rfl)) pe_int (fun _ _ => rfl)) (pv 1) (nomark _))
        (pss_one (ps_raise rfl (takes_of rfl rfl rfl rfl) (pmk_oexG T.x_NotLast T.m_NotLast__init T.ti_NotLast__init (ok_ini_NotLast T) (hr.mono (by decide)) pass0 rfl T.g_NotLast (pa_cons (pe_ix ix_tup (pe_ix ix_tup (pe_fld (pv 0) rfl) (pe_un un_neg pe_int) (fun _ _ => rfl)) pe_int (fun _ _ => rfl)) pa_nil)))) pss_nil)
      (pss_cons (ps_fld (pv 0) (pe_ix ix_tup (pe_fld (pv 0) rfl) (pe_un un_neg pe_int) (fun _ _ => rfl)) rfl)
      (pss_cons (ps_fld (pv 0) (pe_slice sl_tup (pe_fld (pv 0) rfl) po_none (po_some (pe_un un_neg pe_int))) rfl)
      (pss_cons (ps_fld (pv 0) (pe_slice sl_tup (pe_fld (pv 0) rfl) po_none (po_some (pe_un un_neg pe_int))) rfl)
      (pss_one (ps_ret (pe_fld (pv 0) rfl))))))))), ?_⟩
    refine ⟨_, rfl, u, rfl, hn, fun H1 s1 => ?_⟩
    replace hs := hs.same s1
    obtain ⟨⟨dx, m, tl, te, ts, ms, h1, h2, h3, h4, h5, h6⟩, hlen, hsm, hok⟩ := id hs
    refine ⟨_, rfl, s, _, dx, _, _, rfl, h1, sc.o.cl, sc.l, sfx_l _ _ _ _, nil_le, ?_⟩
    refine fun t0 n_t0 => ?_
    generalize g_t0 : L2.upd _ t0 _ = H2
    obtain ⟨s_H2, e_t0⟩ := U.upd_facts g_t0 n_t0
    clear g_t0
    have g3 := s_H2 _ _ h3
    have g4 : Paired (fun t (p : Str × Str) => H2 t = some (.tup [.str p.1, .str p.2])) ts lg := h4.map fun _ _ _ z => s_H2 _ _ z
    have g1 := s_H2 _ _ h1
    obtain ⟨sh, _⟩ := shaped_log hok
    refine ⟨.tuple (lg.map dTup), .tuple [], .tup (SqT.of g3) (dp_log g4), .tup (SqT.of e_t0) .nil, sh, rfl, _, rfl, ?_⟩
    rcases h with ⟨rfl, q⟩ | ⟨lg0, v, a, rfl, hv, q⟩ | ⟨lg0, a, gs0, g, rfl, rfl, q⟩
    · refine iteT ⟨_, rfl, ?_⟩
      exact mk_one fun d hd => q d H2 (s1.trans s_H2) hd
    · rw [log_ne]
      obtain ⟨ts0, t, rfl, p0, et⟩ := paired_unsnoc g4
      replace g3 : H2 tl = some (.tup (ts0.map V.ref ++ [.ref t])) := by rw [List.map_append] at g3; exact g3
      refine iteF ?_
      refine ⟨_, rfl, s, _, dx, _, _, rfl, g1, sc.o.cl, sc.l, sfx_l _ _ _ _, 1, rfl, tl, _, -1, .ref t, rfl, rfl, SqT.of g3, atI_last _ _, t, _, 0, .str v, rfl, rfl, SqT.of et, rfl, _, rfl, rfl, _, rfl, ?_⟩
      rw [decide_eq_false (show ¬ (V.str v = V.str u) from fun z => hv (V.str.inj z))]
      refine iteT ?_
      refine ⟨_, rfl, s, _, dx, _, _, rfl, g1, sc.o.cl, sc.l, sfx_l _ _ _ _, 1, rfl, tl, _, -1, .ref t, rfl, rfl, SqT.of g3, atI_last _ _, t, _, 0, .str v, rfl, rfl, SqT.of et, rfl, ?_⟩
      exact mk_one fun d hd => q d H2 (s1.trans s_H2) hd
    · rw [log_ne]
      obtain ⟨ts0, t, rfl, p0, et⟩ := paired_unsnoc g4
      replace g3 : H2 tl = some (.tup (ts0.map V.ref ++ [.ref t])) := by rw [List.map_append] at g3; exact g3
      refine iteF ?_
      refine ⟨_, rfl, s, _, dx, _, _, rfl, g1, sc.o.cl, sc.l, sfx_l _ _ _ _, 1, rfl, tl, _, -1, .ref t, rfl, rfl, SqT.of g3, atI_last _ _, t, _, 0, .str u, rfl, rfl, SqT.of et, rfl, _, rfl, rfl, _, rfl, ?_⟩
      rw [decide_eq_true (rfl : V.str u = V.str u)]
      refine iteF ?_
      obtain ⟨ms0, vm, rfl, pm, b, rfl, hb⟩ := paired_unsnoc (h6.same s_H2)
      have g5 := s_H2 _ _ h5
      refine ⟨_, rfl, s, _, dx, _, _, rfl, g1, sc.o.cl, sc.e, sfx_e _ _ _ _, 1, rfl, te, _, -1, .ref b, rfl, rfl, SqT.of g5, atI_last _ _, ?_⟩
      refine ⟨_, rfl, s, _, dx, _, rfl, g1, sc.o.cl, sc.p, (sfx_len _ _ _ _), ?_⟩
      rw [sfx_pp]
      generalize g_H3 : L2.upd _ s _ = H3
      obtain ⟨o_H3, e_H3⟩ := st_facts g_H3
      clear g_H3
      have so2 : SOb H2 s := ⟨_, _, _, g1, sfx_no _ _ _ _⟩
      have k3 := tupS g3 o_H3 so2
      have k5 := tupS g5 o_H3 so2
      refine ⟨_, rfl, s, _, dx, _, _, rfl, e_H3, sc.o.cl, sc.l, sfx_l _ _ _ _, 1, rfl, -1, rfl, tl, _, rfl, SqT.of k3, (cut_last _ _).2, ?_⟩
      rw [(cut_last (ts0.map V.ref) (.ref t)).1]
      refine fun t1 n_t1 => ?_
      generalize g_t1 : L2.upd _ t1 _ = H4
      obtain ⟨s_H4, e_t1⟩ := U.upd_facts g_t1 n_t1
      clear g_t1
      refine ⟨_, rfl, s, _, dx, _, rfl, s_H4 _ _ e_H3, sc.o.cl, sc.l, (sfx_len _ _ _ _), ?_⟩
      rw [sfx_pl]
      generalize g_H5 : L2.upd _ s _ = H5
      obtain ⟨o_H5, e_H5⟩ := st_facts g_H5
      clear g_H5
      have so4 : SOb H4 s := ⟨_, _, _, s_H4 _ _ e_H3, sfx_no _ _ _ _⟩
      have j5 := tupS (s_H4 _ _ k5) o_H5 so4
      refine ⟨_, rfl, s, _, dx, _, _, rfl, e_H5, sc.o.cl, sc.e, sfx_e _ _ _ _, 1, rfl, -1, rfl, te, _, rfl, SqT.of j5, (cut_last _ _).2, ?_⟩
      rw [(cut_last ms0 (.ref b)).1]
      refine fun t2 n_t2 => ?_
      generalize g_t2 : L2.upd _ t2 _ = H6
      obtain ⟨s_H6, e_t2⟩ := U.upd_facts g_t2 n_t2
      clear g_t2
      refine ⟨_, rfl, s, _, dx, _, rfl, s_H6 _ _ e_H5, sc.o.cl, sc.e, (sfx_len _ _ _ _), ?_⟩
      rw [sfx_pe]
      generalize g_H7 : L2.upd _ s _ = H7
      obtain ⟨o_H7, e_H7⟩ := st_facts g_H7
      clear g_H7
      have so6 : SOb H6 s := ⟨_, _, _, s_H6 _ _ e_H5, sfx_no _ _ _ _⟩
      have mv : ∀ {x : Addr} {g : PF}, IsMap T.C_Map H2 x n g → IsMap T.C_Map H7 x n g := fun h => ((((h.offS o_H3 so2).same s_H4).offS o_H5 so4).same s_H6).offS o_H7 so6
      have tv : ∀ {x : Addr} {xs : List V}, H2 x = some (.tup xs) → H7 x = some (.tup xs) := fun h => tupS (s_H6 _ _ (tupS (s_H4 _ _ (tupS h o_H3 so2)) o_H5 so4)) o_H7 so6
      have f1 : H7 t1 = _ := tupS (s_H6 _ _ (tupS e_t1 o_H5 so4)) o_H7 so6
      have f2 : H7 t2 = _ := tupS e_t2 o_H7 so6
      refine ⟨_, rfl, s, _, dx, _, _, rfl, e_H7, sc.o.cl, sc.p, sfx_p _ _ _ _, ?_⟩
      refine q b H7 (((((((Off.same (s1.trans s_H2)).tr o_H3).tr (Off.same s_H4)).tr o_H5).tr (Off.same s_H6)).tr o_H7)) ⟨⟨dx, b, t1, t2, ts0, ms0, e_H7, mv hb, f1, p0.map fun _ _ _ z => tv z, f2, PySem.Paired.map pm fun v _ f ⟨a, ea, mm⟩ => ⟨a, ea, mv mm⟩⟩, by simpa using hlen, by simp at hsm; omega, fun p hp => hok p (List.mem_append_left _ hp)⟩ (mv hb)
theorem okx_at (T : Txt K mg) {C : Addr} {ex : Option Int} (sc : SC K C) : FnR P w K mg base CX0 4 T.f_Session_at (spAtX ex C T.C_Map) := by
  refine T.A_Session_at.ok sc_Session_at (fun vs H Q E h => ?_) (fun cdv A outer s H vs Q E hr h => ?_)
  · obtain ⟨s, n, lg, gs, f, k, g, rfl, _⟩ := h
    rfl
  · obtain ⟨s, n, lg, gs, f, k, g, rfl, hs, hk, q⟩ := h
    obtain ⟨⟨dx, m, tl, te, ts, ms, h1, h2, h3, h4, h5, h6⟩, hlen, hsm, hok⟩ := id hs
    refine ⟨_, (pss_cons (ps_if (pt_not (pt_val (pe_callR (ok_in_range T) (hr.mono (by decide)) T.A_in_range.kp rfl T.g_in_range pass0 (pa_cons (pv 1) (pa_cons pe_int (pa_cons (pe_callB call_len_seq (by rfl) T.n_len (by decide +kernel) (pa_cons (pe_fld (pv 0) rfl) pa_nil)) pa_nil))))))
        (pss_one ps_never) pss_nil)
      (pss_one (ps_ret (pe_ix ix_tup (pe_tup (pa_star (pe_fld (pv 0) rfl) (pa_cons (pe_fld (pv 0) rfl) pa_nil))) (pv 1) (fun _ _ => rfl))))), ?_⟩
    have lk := (List.getElem?_eq_some_iff.mp hk).1
    rw [List.length_append, List.length_singleton] at lk
    have lts := paired_len h4
    have lms := paired_len h6
    refine ⟨_, rfl, _, rfl, s, _, dx, _, _, rfl, h1, sc.o.cl, sc.l, sfx_l _ _ _ _, tl, _, rfl, .inr (SqT.of h3), _, _, _, rfl, trivial, _, rfl, ?_⟩
    have hin : inR (V.int (k : Nat)) 0 (((ts.map V.ref).length : Nat) : Int) = true := by
      simp only [inR, Bool.and_eq_true, decide_eq_true_eq, List.length_map]
      omega
    rw [hin]
    refine iteF ?_
    refine ⟨_, rfl, s, _, dx, _, _, rfl, h1, sc.o.cl, sc.e, sfx_e _ _ _ _, te, ms, rfl, .inl (SqT.of h5), _, rfl, s, _, dx, _, _, rfl, h1, sc.o.cl, sc.p, sfx_p _ _ _ _, le_line (by simp only [List.length_append, List.length_cons, List.length_nil]; omega), ?_⟩
    refine fun t1 n_t1 => ?_
    generalize g_t1 : L2.upd _ t1 _ = H1
    obtain ⟨s_H1, e_t1⟩ := U.upd_facts g_t1 n_t1
    clear g_t1
    have hpm : MapsAt T.C_Map H n (ms ++ [.ref m]) (gs ++ [f]) := paired_snoc h6 ⟨m, rfl, h2⟩
    obtain ⟨v, ev⟩ : ∃ v, (ms ++ [V.ref m])[k]? = some v := ⟨_, List.getElem?_eq_getElem (by rw [List.length_append, List.length_singleton]; omega)⟩
    obtain ⟨b, g', rfl, eg', hb⟩ := hpm.get ev
    rw [hk] at eg'
    cases eg'
    exact ⟨_, rfl, t1, _, _, .ref b, rfl, rfl, SqT.of e_t1, atI_nat ev, q b H1 s_H1 (hb.same s_H1)⟩
end
end My
namespace My
open PySem L2 U StX PM NdefX
/-! ### keeping sessions -/
theorem sc_keep {K : PySem.W.Frag} {mg : Str → Option Value} (T : Txt K mg) : SC K T.C_KeepingSession := ⟨T.o_KeepingSession, T.na_own_present_KeepingSession, T.na_own_log_KeepingSession, T.na_own_earlier_KeepingSession⟩
def spInitK (C CM : Addr) : Sp := fun vs H Q _ => ∃ (s dx : Addr) (n l : Int), vs = [.ref s, .int n, .int l] ∧ H s = some (.ins C dx []) ∧ 1 ≤ n ∧ n ≤ 300 ∧ 0 ≤ l ∧ l ≤ n ∧ ∀ H', Off s H H' → SessX (some l) C CM H' s n [] [] (idn n) → Q .non H'
def spLeast (C CM : Addr) : Sp := fun vs H Q _ => ∃ (s : Addr) (n l : Int) (lg : List (Str × Str)) (gs : List PF) (f : PF), vs = [.ref s] ∧ SessX (some l) C CM H s n lg gs f ∧ Q (.int l) H
section
variable {P : Program} {w : World} {K : PySem.W.Frag} {mg : Str → Option Value} {base : Heap}
theorem ok_ini_TooFew (T : Txt K mg) : FnR P w K mg base CX0 1 T.f_TooFew__init (spIni1 T.C_TooFew "number") := by
  refine T.A_TooFew__init.ok sc_TooFew__init (fun vs H Q E h => ?_) (fun cdv A outer s H vs Q E hr h => ?_)
  · obtain ⟨a, v, rfl, _⟩ := h
    rfl
  · obtain ⟨a, v, rfl, ha, q⟩ := h
    refine ⟨_, pss_one (ps_ostG (pv 0) (pv 1)), ?_⟩
    exact ⟨_, rfl, _, rfl, a, T.C_TooFew, rfl, T.x_TooFew, T.na_number_TooFew, .inl ⟨ha, fun dx h1 h2 => q dx h1 h2⟩⟩
theorem ok_least (T : Txt K mg) : FnR P w K mg base CX0 1 T.f_KeepingSession_least (spLeast T.C_KeepingSession T.C_Map) := by
  refine T.A_KeepingSession_least.ok sc_KeepingSession_least (fun vs H Q E h => ?_) (fun cdv A outer s H vs Q E hr h => ?_)
  · obtain ⟨s, n, l, lg, gs, f, rfl, _⟩ := h
    rfl
  · obtain ⟨s, n, l, lg, gs, f, rfl, hs, q⟩ := h
    obtain ⟨dx, m, tl, te, ts, ms, h1, _⟩ := hs.ob
    refine ⟨_, (pss_one (ps_ret (pe_fld (pv 0) rfl))), ?_⟩
    exact ⟨_, rfl, s, _, dx, _, _, rfl, h1, T.o_KeepingSession.cl, T.na_own_least_KeepingSession, sfx_t _ _ _ _, q⟩
theorem ok_k_next (hP : U.SupP P "/claim/cut.py") (T : Txt K mg) (l : Int) : FnR P w K mg base (L2.CX P w) 5 T.f_KeepingSession_check_next (spNext T.C_KeepingSession T.C_Map T.C_TooFew (some l)) := by
  refine T.A_KeepingSession_check_next.okX hP T.sm_KeepingSession_check_next (k2 := 4) (fnR_any (ok_check_next T)) (by decide) sc_KeepingSession_check_next rfl rfl (fun vs H Q E h => ?_) (fun A outer s0 H vs Q E X hX hr h => ?_)
  · obtain ⟨s, m, dx, p, tl, te, n, f, rfl, _⟩ := h
    rfl
  · obtain ⟨s, m, dx, p, tl, te, n, f, rfl, hs, hm, q, qf⟩ := h
    subst hX
    refine ⟨passes_call (takes_of rfl rfl rfl rfl) (fun _ _ _ _ h => h), rfl, rfl, rfl, ⟨_, rfl⟩, s, dx, _, _, rfl, hs, pa_cons (pv 1) pa_nil, ?_⟩
    refine ⟨_, rfl, s, m, n, f, rfl, hm, ?_⟩
    refine ⟨_, (pss_one (ps_if (pt_cmpR op_lt (pe_callB (call_lenO T.m_Map__len T.i_Map__len (ok_len T) (hr.mono (by decide)) pass0) (by rfl) T.n_len (by decide +kernel) (pa_cons (pv 1) pa_nil)) (pe_fld (pv 0) rfl) (nomark _))
        (pss_one (ps_raise rfl (takes_of rfl rfl rfl rfl) (pmk_oexG T.x_TooFew T.m_TooFew__init T.ti_TooFew__init (ok_ini_TooFew T) (hr.mono (by decide)) pass0 rfl T.g_TooFew (pa_cons (pe_callB (call_lenO T.m_Map__len T.i_Map__len (ok_len T) (hr.mono (by decide)) pass0) (by rfl) T.n_len (by decide +kernel) (pa_cons (pv 1) pa_nil)) pa_nil)))) pss_nil)), ?_⟩
    obtain ⟨ex, fx, e1⟩ := at_map hm
    have hlt := tab_len n f
    have hhi := hm.hi
    have elen : lenF n f = ((tab n f).length : Nat) := rfl
    refine ⟨_, rfl, m, ex, fx, rfl, e1, m, n, f, rfl, hm, _, rfl, by omega, by omega, _, rfl, s, _, dx, _, _, rfl, hs, T.o_KeepingSession.cl, T.na_own_least_KeepingSession, sfx_t _ _ _ _, _, _, rfl, rfl, _, rfl, ?_⟩
    refine ifD (fun hlt2 => ?_) (fun hlt2 => q (by show l ≤ _; omega))
    refine ⟨_, rfl, m, ex, fx, rfl, e1, m, n, f, rfl, hm, _, rfl, by omega, by omega, ?_⟩
    exact mk_one fun d hd => qf (show ¬ (l ≤ _) by omega) H d (Same.refl _) hd
theorem ok_k_init (hP : U.SupP P "/claim/cut.py") (T : Txt K mg) : FnR P w K mg base (L2.CX P w) 10 T.f_KeepingSession__init (spInitK T.C_KeepingSession T.C_Map) := by
  refine T.A_KeepingSession__init.okX hP T.sm_KeepingSession_init (k2 := 9) (fnR_any (okx_init T)) (by decide) sc_KeepingSession__init rfl rfl (fun vs H Q E h => ?_) (fun A outer s0 H vs Q E X hX hr h => ?_)
  · obtain ⟨s, dx, n, l, rfl, _⟩ := h
    rfl
  · obtain ⟨s, dx, n, l, rfl, hs, n1, n2, l0, l1, q⟩ := h
    subst hX
    refine ⟨passes_call (takes_of rfl rfl rfl rfl) (fun _ _ _ _ h => h), rfl, rfl, rfl, ⟨_, rfl⟩, s, dx, _, _, rfl, hs, pa_cons (pv 1) pa_nil, ?_⟩
    refine ⟨_, rfl, s, dx, _, n, rfl, sc_keep T, hs, n1, n2, fun H1 o1 ⟨m0, tl0, te0, e1⟩ se1 => ?_⟩
    refine ⟨_, (pss_cons (ps_if (pt_not (pt_val (pe_callR (ok_in_range T) (hr.mono (by decide)) T.A_in_range.kp rfl T.g_in_range pass0 (pa_cons (pv 2) (pa_cons pe_int (pa_cons (pv 1) pa_nil))))))
        (pss_one ps_never) pss_nil)
      (pss_one (ps_fld (pv 0) (pv 2) rfl))), ?_⟩
    refine ⟨_, rfl, _, rfl, _, _, _, rfl, trivial, _, rfl, ?_⟩
    have hin : inR (V.int l) 0 n = true := by simp [inR, l0, l1]
    rw [hin]
    refine iteF ?_
    refine ⟨_, rfl, _, rfl, s, _, dx, _, rfl, e1, T.o_KeepingSession.cl, T.na_own_least_KeepingSession, (sfx_len _ _ _ _), ?_⟩
    rw [sfx_put]
    generalize g_H2 : L2.upd _ s _ = H2
    obtain ⟨o_H2, e_H2⟩ := st_facts g_H2
    clear g_H2
    have so1 : SOb H1 s := ⟨_, _, _, e1, sfx_no _ _ _ _⟩
    obtain ⟨⟨dx', m, tl, te, ts, ms, h1, h2, h3, h4, h5, h6⟩, hl, sm, ok⟩ := se1
    rw [e1] at h1
    cases h1
    exact q H2 (o1.tr o_H2) ⟨⟨dx, m0, tl0, te0, ts, ms, e_H2, h2.offS o_H2 so1, tupS h3 o_H2 so1, logS h4 o_H2 so1, tupS h5 o_H2 so1, h6.offS o_H2 so1⟩, hl, sm, ok⟩
end
end My
namespace My
open PySem L2 U StX PM
theorem Sep.sessX {ex : Option Int} {C CM : Addr} {H H' : Hp} {p s : Addr} {n : Int} {lg : List (Str × Str)} {gs : List PF} {f : PF} (z : Sep H p) (o : Off p H H') (ne : s ≠ p) (h : SessX ex C CM H s n lg gs f) : SessX ex C CM H' s n lg gs f := by
  obtain ⟨⟨dx, m, tl, te, ts, ms, h1, h2, h3, h4, h5, h6⟩, l, sm, ok⟩ := h
  exact ⟨⟨dx, m, tl, te, ts, ms, o _ _ ne h1, z.map o h2, z.tup o h3, z.tups o h4, z.tup o h5, PySem.Paired.map h6 fun v _ f ⟨a, ea, mm⟩ => ⟨a, ea, z.map o mm⟩⟩, l, sm, ok⟩
theorem SessX.sep {ex : Option Int} {C CM : Addr} {H : Hp} {s : Addr} {n : Int} {lg : List (Str × Str)} {gs : List PF} {f : PF} (h : SessX ex C CM H s n lg gs f) : Sep H s := .inr (.inl h.sob)
/-- what the law plans -/
def PlanAt (H : Hp) (n : Int) (f : PF) (wn : Nat) (it : V) (f' : PF) : Prop :=
  (wn = 0 ∧ ∃ (df : Addr) (lf : List (Int × Int)) (g : PF), it = .ref df ∧ H df = some (.dK (kvI lf)) ∧ DI lf g ∧ WF n g ∧ lf.length ≤ 1000 ∧ f' = mul f g) ∨
  (wn = 1 ∧ ∃ e : Int, it = .int e ∧ f' = pw n f e) ∨
  (wn = 2 ∧ ∃ (Mv : Addr) (bs : List Addr) (ss : List Stp), it = .ref Mv ∧ H Mv = some (.lst (bs.map V.ref)) ∧ Paired (fun t s => H t = some (.tup (Stp.vs s))) bs ss ∧ (∀ s ∈ ss, Stp.ok n s) ∧ ss.length ≤ 3 ∧ f' = stps f ss)
theorem PlanAt.same {H H' : Hp} {n : Int} {f f' : PF} {wn : Nat} {it : V} (h : PlanAt H n f wn it f') (s : Same H H') : PlanAt H' n f wn it f' := by
  rcases h with ⟨e, df, lf, g, h1, h2, h3⟩ | h | ⟨e, Mv, bs, ss, h1, h2, h3, h4⟩
  · exact .inl ⟨e, df, lf, g, h1, s _ _ h2, h3⟩
  · exact .inr (.inl h)
  · exact .inr (.inr ⟨e, Mv, bs, ss, h1, s _ _ h2, h3.map fun _ _ _ e => s _ _ e, h4⟩)
def spPlan : Sp := fun vs H Q _ => ∃ (p d : Addr) (n : Int) (l : List (Int × Int)) (f : PF), vs = [.ref p, .int n, .ref d] ∧ PoolAt H p ∧ H d = some (.dK (kvI l)) ∧ DI l f ∧ WF n f ∧ 1 ≤ n ∧ n ≤ 6 ∧
  ∀ (R : Addr) (wn : Nat) (it : V) (dl : Addr) (l' : List (Int × Int)) (f' : PF) (H' : Hp), wn < 3 → PoolAt H' p → Off p H H' → H' R = some (.lst [.int (wn : Nat), it, .ref dl]) → PlanAt H' n f wn it f' → H' dl = some (.dK (kvI l')) → DI l' f' → WF n f' → Q (.ref R) H'
section
variable {P : Program} {w : World} {K : PySem.W.Frag} {mg : Str → Option Value} {base : Heap}
theorem ok_l_planned (T : Txt K mg) : FnR P w K mg base CX0 14 T.f_l_planned spPlan := by
  refine T.A_l_planned.ok sc_l_planned (fun vs H Q E h => ?_) (fun cdv A outer s H vs Q E hr h => ?_)
  · obtain ⟨p, d, n, l, f, rfl, _⟩ := h
    rfl
  · obtain ⟨p, d, n, l, f, rfl, po, hd, di, wf, n1, n6, q⟩ := h
    have hu := hu_of hr
    have lln := di_lenN di wf
    refine ⟨_, (pss_cons (ps_set (i := 3) sc_l_planned.nd rfl (Or.inl rfl) (pe_callR (ok_draw T) (hr.mono (by decide)) T.A_l_draw.kp rfl T.g_l_draw pass0 (pa_cons (pv 0) (pa_cons pe_int pa_nil))))
      (pss_cons (ps_if (pt_cmpR op_eq (pv 3) pe_int (nomark _))
        (pss_cons (ps_set (i := 4) sc_l_planned.nd rfl (Or.inl rfl) (pe_callR (ok_l_arrR T) (hr.mono (by decide)) T.A_l_arrows.kp rfl T.g_l_arrows pass0 (pa_cons (pv 0) (pa_cons (pv 1) pa_nil))))
      (pss_one (ps_ret (pe_lst (pa_cons (pv 3) (pa_cons (pv 4) (pa_cons (pe_callR (ok_l_product T) (hr.mono (by decide)) T.A_l_product.kp rfl T.g_l_product pass0 (pa_cons (pv 2) (pa_cons (pv 4) pa_nil))) pa_nil))))))) pss_nil)
      (pss_cons (ps_if (pt_cmpR op_eq (pv 3) pe_int (nomark _))
        (pss_cons (ps_set (i := 5) sc_l_planned.nd rfl (Or.inl rfl) (pe_op op_sub (pe_callR (ok_draw T) (hr.mono (by decide)) T.A_l_draw.kp rfl T.g_l_draw pass0 (pa_cons (pv 0) (pa_cons pe_int pa_nil))) pe_int))
      (pss_one (ps_ret (pe_lst (pa_cons (pv 3) (pa_cons (pv 5) (pa_cons (pe_callR (ok_l_pwr T) (hr.mono (by decide)) T.A_l_power.kp rfl T.g_l_power pass0 (pa_cons (pv 2) (pa_cons (pv 1) (pa_cons (pv 5) pa_nil)))) pa_nil))))))) pss_nil)
      (pss_cons (ps_par (i := 6) (j := 7) rfl sc_l_planned.nd rfl rfl (by decide) rfl rfl (pa_cons (pe_lc (own := [("_law_turn", 9)]) (g := (gName 9)) (tt := tYes) rfl sc_l_planned.nd (pi_range1 rfl T.n_range (pa_cons (pe_callR (ok_draw T) (hr.mono (by decide)) T.A_l_draw.kp rfl T.g_l_draw pass0 (pa_cons (pv 0) (pa_cons pe_int pa_nil))) pa_nil)) (blkOk_by (own := [("_law_turn", 9)]) (N := n_l_planned) (sc := defScope s_l_planned) (by decide +kernel)) (fun _ _ _ _ _ => (pg_name (i := 9) sc_l_planned.nd rfl (Or.inl rfl))) (fun _ _ _ _ _ => pts_nil) (fun _ _ _ _ _ => (pe_callR (ok_l_step T) (hr.mono (by decide)) T.A_l_step.kp rfl T.g_l_step pass0 (pa_cons (pv 0) (pa_cons (pv 1) pa_nil))))) (pa_cons (pv 2) pa_nil)) (by rfl))
      (pss_cons (ps_for PassesOwn.never rfl (pi_list (pv 6)) (pg_name (i := 8) sc_l_planned.nd rfl (Or.inl rfl))
        (pss_one (ps_set (i := 7) sc_l_planned.nd rfl (Or.inl rfl) (pe_callR (ok_l_stepped T) (hr.mono (by decide)) T.A_l_stepped.kp rfl T.g_l_stepped pass0 (pa_cons (pv 7) (pa_cons (pv 8) pa_nil))))))
      (pss_one (ps_ret (pe_lst (pa_cons (pv 3) (pa_cons (pv 6) (pa_cons (pv 7) pa_nil))))))))))), ?_⟩
    refine draw_R rfl (fun R r => r) po (by decide) (by decide) fun wy H2 w0 w1 p2 o2 => ?_
    have hd2 := po.sep.dk o2 hd
    refine ⟨_, rfl, rfl, _, rfl, ?_⟩
    refine ifD (fun h0 => ?_) (fun h0 => ?_)
    · have e0 : wy = 0 := V.int.inj h0
      subst e0
      refine ⟨_, rfl, _, rfl, p, n, rfl, p2, n1, by omega, fun df H3 lf nd3 hd3 di3 wf3 hl3 p3 o3 => ?_⟩
      have hd3' := p2.sep.dk o3 hd2
      refine ⟨_, rfl, _, rfl, _, rfl, _, rfl, d, df, l, lf, n, f, lk lf, rfl, hd3', hd3, di, di3, wf, wf3, by omega, fun dn l' H4 s4 ndn hdn dln hln => ⟨three_le, ?_⟩⟩
      refine fun R n_R => ?_
      generalize g_R : L2.upd _ R _ = H5
      obtain ⟨s_H5, e_R⟩ := U.upd_facts g_R n_R
      clear g_R
      have o5 : Off p H H5 := ((o2.tr o3).tr (Off.same s4)).tr (Off.same s_H5)
      exact q R 0 _ dn l' _ H5 (by decide) ((p3.same s4).same s_H5) o5 e_R (.inl ⟨rfl, df, lf, lk lf, rfl, s_H5 _ _ (s4 _ _ hd3), di3, wf3, hl3, rfl⟩) (s_H5 _ _ hdn) dln (wf_mul wf wf3)
    · refine ⟨_, rfl, rfl, _, rfl, ?_⟩
      refine ifD (fun h1 => ?_) (fun h1 => ?_)
      · have e1 : wy = 1 := V.int.inj h1
        subst e1
        refine draw_R rfl (fun R r => r) p2 (by decide) (by decide) fun r H3 r0 r1 p3 o3 => ⟨_, _, rfl, rfl, ?_⟩
        have hd3 := p2.sep.dk o3 hd2
        refine ⟨_, rfl, _, rfl, _, rfl, _, rfl, _, rfl, d, l, n, f, r - 4, rfl, hd3, di, wf, n1, by omega, by omega, fun dn l' H6 s6 ndn hdn dln => ⟨three_le, ?_⟩⟩
        refine fun R n_R => ?_
        generalize g_R : L2.upd _ R _ = H7
        obtain ⟨s_H7, e_R⟩ := U.upd_facts g_R n_R
        clear g_R
        have o7 : Off p H H7 := (((o2.tr o3).tr (Off.same s6)).tr (Off.same s_H7))
        exact q R 1 _ dn l' _ H7 (by decide) ((p3.same s6).same s_H7) o7 e_R (.inr (.inl ⟨rfl, _, rfl, rfl⟩)) (s_H7 _ _ hdn) dln (by rw [pw_sgn]; exact wf_pk (wf_sgn wf _) _)
      · have e2 : wy = 2 := by
          have h0' : wy ≠ 0 := fun e => h0 (by rw [e])
          have h1' : wy ≠ 1 := fun e => h1 (by rw [e])
          omega
        subst e2
        refine nx_cut (fun σ H' => ∃ (Mv : Addr) (bs : List Addr) (ss : List Stp), σ = [some (.ref p), some (.int n), some (.ref d), some (.int 2), none, none, some (.ref Mv), some (.ref d), none, none] ∧ PoolAt H' p ∧ Off p H H' ∧ H' d = some (.dK (kvI l)) ∧ H' Mv = some (.lst (bs.map V.ref)) ∧ Paired (fun t s => H' t = some (.tup (Stp.vs s))) bs ss ∧ (∀ s ∈ ss, Stp.ok n s) ∧ ss.length ≤ 3) (fun nx2 fin2 => ?_) ?_
        · refine par_of (lc_rangeQ (fun c H3 => c ≤ 3 ∧ PoolAt H3 p ∧ Off p H2 H3) (fun R rr => ?_) (fun c H3 ⟨c3, p3, o3⟩ => ?_))
          · refine draw_R rfl (fun R r => r) p2 (by decide) (by decide) fun c H3 c0 c1 p3 o3 => ⟨_, rfl, by omega, by omega, rr c.toNat H3 ⟨by omega, p3, o3⟩⟩
          · refine lc_rangeP (n := c) p3 (fun _ b H => ∃ s, H b = some (.tup (Stp.vs s)) ∧ Stp.ok n s) (fun k b H H' D hD o ⟨s, e, h⟩ => ⟨s, o _ _ (fun z => by obtain ⟨ys, e2⟩ := hD; rw [z, e2] at e; cases e) e, h⟩) (fun R r => r) (fun _ => rfl) (lt_line (by omega)) (fun k hk Hb poolb R rr => ?_) (fun Mv bs Hc poolc offc nD hD hbl hbs => ?_)
            · exact ⟨_, rfl, _, rfl, p, n, rfl, poolb, n1, by omega, fun t s H' p' o' nt ht hs => rr t H' p' o' nt ⟨s, ht, hs⟩⟩
            · obtain ⟨ss, hss⟩ : ∃ ss, Paired (fun b s => Hc b = some (.tup (Stp.vs s)) ∧ Stp.ok n s) bs ss := paired_ex fun b hb => by
                obtain ⟨j, hj⟩ := List.mem_iff_getElem?.mp hb
                exact hbs j b hj
              have lss := paired_len hss
              refine ⟨_, rfl, _, _, rfl, fin2 _ _ ⟨Mv, bs, ss, rfl, poolc, (o2.tr o3).tr offc, p3.sep.dk offc (p2.sep.dk o3 hd2), hD, hss.map fun _ _ _ e => e.1, fun s hs => ?_, by omega⟩⟩
              obtain ⟨j, hj⟩ := List.mem_iff_getElem?.mp hs
              obtain ⟨b, hb⟩ : ∃ b, bs[j]? = some b := ⟨_, List.getElem?_eq_getElem (by have := (List.getElem?_eq_some_iff.mp hj).1; omega)⟩
              obtain ⟨s', es, _, hk⟩ := paired_at hss hb
              rw [hj] at es
              cases es
              exact hk
        rintro _ H3 ⟨Mv, bs, ss, rfl, p3, o3, hd3, hMv, hps, hoks, hls⟩
        have lss := paired_len hps
        refine ⟨_, rfl, Mv, rfl, ⟨_, SqL.of hMv⟩, ?_⟩
        refine for_it (walk_list (xs := bs.map V.ref)) (fun i σ H' => ∃ v8 dk lk', σ = [some (.ref p), some (.int n), some (.ref d), some (.int 2), none, none, some (.ref Mv), some (.ref dk), v8, none] ∧ Same H3 H' ∧ H' dk = some (.dK (kvI lk')) ∧ DI lk' (stps f (ss.take i)) ∧ WF n (stps f (ss.take i)))
          ⟨_, d, l, rfl, Same.refl _, hd3, di, wf⟩ (fun i σ H' _ ⟨_, _, _, _, z, _⟩ => SqL.of (z _ _ hMv)) ?_ ?_
        · rintro i v σ Ha0 Ha hi ⟨v8, dk, lk', rfl, sa, hdk, dik, wfk⟩ ⟨rfl, ev⟩
          rw [List.getElem?_map] at ev
          cases e : bs[i]? with
          | none => rw [e] at ev; cases ev
          | some b =>
            rw [e] at ev
            cases ev
            obtain ⟨sp, es, ht⟩ := paired_at hps e
            have hsk := hoks sp (List.mem_of_getElem? es)
            have etk : stps f (ss.take (i + 1)) = stp1 (stps f (ss.take i)) sp := by rw [take_more es, stps_snoc]
            refine ⟨_, rfl, _, rfl, dk, b, lk', n, _, sp, rfl, hdk, dik, wfk, by omega, sa _ _ ht, hsk, fun p' l2 Hb sb np' hp' dl2 => ?_⟩
            exact ⟨_, p', l2, rfl, sa.trans sb, hp', by rw [etk]; exact dl2, by rw [etk]; exact wf_stp1 wfk hsk⟩
        · rintro σ Ha ⟨v8, dk, lk', rfl, sa, hdk, dik, wfk⟩
          rw [List.length_map, lss, List.take_length] at dik wfk
          refine ⟨_, rfl, _, rfl, _, rfl, three_le, ?_⟩
          refine fun R n_R => ?_
          generalize g_R : L2.upd _ R _ = H7
          obtain ⟨s_H7, e_R⟩ := U.upd_facts g_R n_R
          clear g_R
          have s37 : Same H3 H7 := sa.trans s_H7
          exact q R 2 _ dk lk' _ H7 (by decide) (p3.same s37) (o3.tr (Off.same s37)) e_R (.inr (.inr ⟨rfl, Mv, bs, ss, rfl, s37 _ _ hMv, hps.map fun _ _ _ e => s37 _ _ e, hoks, hls, rfl⟩)) (s_H7 _ _ hdk) dik wfk
end
end My
namespace My
open PySem L2 U StX PM
def spDone (T : Txt K mg) : Sp := fun vs H Q _ => ∃ (s R dl : Addr) (u : Str) (n l : Int) (lg : List (Str × Str)) (gs : List PF) (f f' : PF) (wn : Nat) (it : V), vs = [.ref s, .int n, .str u, .ref R] ∧ SessX (some l) T.C_KeepingSession T.C_Map H s n lg gs f ∧ H R = some (.lst [.int (wn : Nat), it, .ref dl]) ∧ PlanAt H n f wn it f' ∧ wn < 3 ∧ nameS u = true ∧ OkS u ∧ lg.length < 1000 ∧ 1 ≤ n ∧ n ≤ 6 ∧ WF n f' ∧
  (okx (some l) n f' → ∀ m' H', Off s H H' → SessX (some l) T.C_KeepingSession T.C_Map H' s n (lg ++ [(u, actN wn)]) (gs ++ [f]) f' → IsMap T.C_Map H' m' n f' → Q (.ref m') H') ∧
  (¬ okx (some l) n f' → ∀ p H', Same H H' → H' p = some (.lst [.str "few", .int ((tab n f').length : Nat), .bl true]) → Q (.ref p) H')
section
variable {P : Program} {w : World} {K : PySem.W.Frag} {mg : Str → Option Value} {base : Heap}
theorem ok_l_done (hP : U.SupP P "/claim/cut.py") (T : Txt K mg) : FnR P w K mg base CX0 16 T.f_l_done (spDone T) := by
  refine T.A_l_done.ok sc_l_done (fun vs H Q E h => ?_) (fun cdv A outer s0 H vs Q E hr h => ?_)
  · obtain ⟨s, R, dl, u, n, l, lg, gs, f, f', wn, it, rfl, _⟩ := h
    rfl
  · obtain ⟨s, R, dl, u, n, l, lg, gs, f, f', wn, it, rfl, se, hR, pl, hw, hn, hu, hlg, n1, n6, wf', q, qf⟩ := h
    refine ⟨_, (pss_cons (ps_par (i := 4) (j := 5) rfl sc_l_done.nd rfl rfl (by decide) rfl rfl (pa_cons (pe_ix ix_list (pv 3) pe_int (fun _ _ => rfl)) (pa_cons (pe_ix ix_list (pv 3) pe_int (fun _ _ => rfl)) pa_nil)) (by rfl))
      (pss_one (ps_try_as (i := 6) rfl rfl sc_l_done.nd rfl rfl ⟨rfl, by decide, .inl T.g_TooFew⟩ L2.takes0 (fun W pn xe tk _ => (pss_cons (ps_if (pt_cmpR op_eq (pv 4) pe_int (nomark _))
        (pss_one (ps_ret (pe_methRS (pv 0) (sc_keep T).o.cl T.meth_KeepingSession_apply (okx_apply T (sc_keep T) T.meth_KeepingSession_change_to T.meth_KeepingSession_check_next (ok_k_next hP T l)) (hr.mono (by decide)) (fun σ => passAt tk σ) (pa_cons (pv 2) (pa_cons (pe_makeR T.M_Map (ok_init T) (hr.mono (by decide)) rfl T.g_Map pass0 (pa_cons (pv 1) (pa_cons (pv 5) pa_nil))) pa_nil))))) pss_nil)
      (pss_one (ps_ret (pe_ifExp (pt_cmpR op_eq (pv 4) pe_int (nomark _)) (pe_methRS (pv 0) (sc_keep T).o.cl T.meth_KeepingSession_raise_to (okx_raise T (sc_keep T) T.meth_KeepingSession_change_to T.meth_KeepingSession_check_next (ok_k_next hP T l)) (hr.mono (by decide)) (fun σ => passAt tk σ) (pa_cons (pv 2) (pa_cons (pv 5) pa_nil))) (pe_methRS (pv 0) (sc_keep T).o.cl T.meth_KeepingSession_do_steps (okx_steps T (sc_keep T) T.meth_KeepingSession_change_to T.meth_KeepingSession_check_next (ok_k_next hP T l)) (hr.mono (by decide)) (fun σ => passAt tk σ) (pa_cons (pv 2) (pa_cons (pv 5) pa_nil)))))))) (fun a oe cls d pn hz hf => (pss_one (ps_ret (pe_lst (pa_cons pe_str (pa_cons (pe_xf T.xf_TooFew T.na_number_TooFew hz hf (pv 6)) (pa_cons (pe_callB (call_isH T.xe_TooFew hz hf) (by rfl) T.n_isinstance (by decide +kernel) (pa_cons (pv 6) (pa_cons (pe_bltn (v := .ty "RuntimeError") (u := .type "RuntimeError") (by rfl) T.n_RuntimeError (by decide +kernel) rfl) pa_nil))) pa_nil)))))))))), ?_⟩
    obtain ⟨dx, m, tl, te, ts, ms, h1, _⟩ := id se.ob
    refine ⟨_, rfl, R, _, 0, .int (wn : Nat), rfl, rfl, SqL.of hR, rfl, _, rfl, R, _, 1, it, rfl, rfl, SqL.of hR, rfl, _, _, rfl, ?_⟩
    rcases pl with ⟨rfl, df, lf, g, rfl, hdf, dif, wfg, hlf, rfl⟩ | ⟨rfl, e, rfl, rfl⟩ | ⟨rfl, Mv, bs, ss, rfl, hMv, hps, hoks, hls, rfl⟩
    · refine ⟨_, rfl, rfl, _, rfl, ifD (fun _ => ?_) (fun z => absurd rfl z)⟩
      refine ⟨_, rfl, s, dx, _, rfl, h1, rfl, _, rfl, _, rfl, _, rfl, fun mf dxf nmf ndxf nef => init_of hdf dif wfg n1 (by omega) hlf nmf ndxf nef fun H5 s5 m5 => ⟨rfl, ?_⟩⟩
      exact ⟨s, u, _, n, lg, gs, f, _, rfl, se.same s5, hn, hu, hlg, ⟨mf, g, rfl, m5, rfl⟩, fun nk H9 dd s9 hdd => ⟨true, T.te_TooFew, fun _ a na => ⟨_, rfl, rfl, rfl, dd, _, _, rfl, upd_same, rfl, _, rfl, dd, rfl, rfl, _, _, _, _, rfl, fun u r => r, T.kit_RuntimeError_TooFew, upd_same, three_le, fun p np => qf nk p _ ((s5.trans s9).trans ((Same.new hdd).trans (Same.new np))) upd_same⟩, fun z => nomatch z⟩, fun hk m' H6 o6 se6 m6 => q hk m' H6 ((Off.same s5).tr o6) se6 m6⟩
    · refine ⟨_, rfl, rfl, _, rfl, ifD (fun z => by cases (V.int.inj z)) (fun _ => ?_)⟩
      refine ⟨_, rfl, rfl, _, rfl, ifD (fun _ => ?_) (fun z => absurd rfl z)⟩
      exact ⟨_, rfl, s, dx, _, rfl, h1, rfl, _, rfl, _, rfl, s, u, _, n, lg, gs, f, _, rfl, se, hn, hu, hlg, ⟨e, rfl, rfl⟩, fun nk H9 dd s9 hdd => ⟨true, T.te_TooFew, fun _ a na => ⟨_, rfl, rfl, rfl, dd, _, _, rfl, upd_same, rfl, _, rfl, dd, rfl, rfl, _, _, _, _, rfl, fun u r => r, T.kit_RuntimeError_TooFew, upd_same, three_le, fun p np => qf nk p _ (s9.trans ((Same.new hdd).trans (Same.new np))) upd_same⟩, fun z => nomatch z⟩, fun hk m' H6 o6 se6 m6 => q hk m' H6 o6 se6 m6⟩
    · refine ⟨_, rfl, rfl, _, rfl, ifD (fun z => by cases (V.int.inj z)) (fun _ => ?_)⟩
      refine ⟨_, rfl, rfl, _, rfl, ifD (fun z => by cases (V.int.inj z)) (fun _ => ?_)⟩
      exact ⟨_, rfl, s, dx, _, rfl, h1, rfl, _, rfl, _, rfl, s, u, _, n, lg, gs, f, _, rfl, se, hn, hu, hlg, ⟨Mv, bs, ss, rfl, hMv, hps, hoks, by omega, rfl⟩, fun nk H9 dd s9 hdd => ⟨true, T.te_TooFew, fun _ a na => ⟨_, rfl, rfl, rfl, dd, _, _, rfl, upd_same, rfl, _, rfl, dd, rfl, rfl, _, _, _, _, rfl, fun u r => r, T.kit_RuntimeError_TooFew, upd_same, three_le, fun p np => qf nk p _ (s9.trans ((Same.new hdd).trans (Same.new np))) upd_same⟩, fun z => nomatch z⟩, fun hk m' H6 o6 se6 m6 => q hk m' H6 o6 se6 m6⟩
end
end My
namespace My
open PySem L2 U StX PM LamX
theorem pe_actE {Z : Cx} {W : WX} {f c' : Addr} {q a : Str} {tl : XK → Hp → VK → Prop} {p1 p2 : Pos} (n : Nat) (hn : Z.N.length = n)
    (act : ∀ (W' : WX) (E : XK), Takes Z W' → (∀ cls d σ' H', E cls d H' → W' cls d σ' H') → PE Z (.Call (.Name a p1) [] [] p2) (fun σZ HZ Q => σZ[0]? = some (some (.ref f)) ∧ HZ c' = some (CodeO c' q) ∧ tl E HZ Q)) (tk : Takes Z W) :
    PE Z (.Call (.Name a p1) [] [] p2) (fun σZ HZ Q => ∃ E : XK, (∀ cls d σ' H', E cls d H' → σ'.length = n → W cls d σ' H') ∧ σZ[0]? = some (some (.ref f)) ∧ HZ c' = some (CodeO c' q) ∧ tl E HZ Q) :=
  ⟨fun pins s σ H Q I ⟨E, hE, h⟩ => (act _ E (takes_len tk) fun cls d σ' H' h hl => hE cls d σ' H' h (hl.trans hn)).run pins s σ H Q I h⟩
/-! ### what a new lambda leaves -/
theorem IsMap.extN {C : Addr} {H H' : Hp} {m : Addr} {n : Int} {f : PF} (h : IsMap C H m n f) (x : ExtN H H') : IsMap C H' m n f := by
  obtain ⟨⟨dx, D, h1, h2⟩, wf, lo, hi⟩ := h
  exact ⟨⟨dx, D, x _ _ h1 (by intro ps z; cases z), x _ _ h2 (by intro ps z; cases z)⟩, wf, lo, hi⟩
theorem SqL.extN {K : PySem.W.Frag} {H H' : Hp} {a : Addr} {xs : List V} (h : SqL K H a xs) (s : ExtN H H') : SqL K H' a xs := by
  rcases h with (h | ⟨o, h⟩) | h
  · exact .inl (.inl (s _ _ h (by intro ps z; cases z)))
  · exact .inl (.inr ⟨o, s _ _ h (by intro ps z; cases z)⟩)
  · exact .inr h
theorem tups_extN {H H' : Hp} {ts : List Addr} {lg : List (Str × Str)} (x : ExtN H H') (h : Paired (fun t (p : Str × Str) => H t = some (.tup [.str p.1, .str p.2])) ts lg) : Paired (fun t (p : Str × Str) => H' t = some (.tup [.str p.1, .str p.2])) ts lg := h.map fun _ _ _ e => x _ _ e (by intro ps z; cases z)
theorem PoolAt.extN {H H' : Hp} {p : Addr} (h : PoolAt H p) (x : ExtN H H') : PoolAt H' p := by
  obtain ⟨a, b, e, r⟩ := h
  exact ⟨a, b, x _ _ e (by intro ps z; cases z), r⟩
theorem Sep.ex {H : Hp} {p : Addr} (z : Sep H p) : ∃ o, H p = some o ∧ (∀ ps, o ≠ .tbl ps) ∧ ∀ c q, o ≠ CodeO c q := by
  rcases z with ⟨a, b, z⟩ | ⟨_, _, _, z, _⟩ | ⟨n', L, G, z⟩
  · exact ⟨_, z, (fun ps w => by cases w), fun c q w => by unfold CodeO at w; cases w⟩
  · exact ⟨_, z, (fun ps w => by cases w), fun c q w => by unfold CodeO at w; cases w⟩
  · exact ⟨_, z, (fun ps w => by cases w), fun c q w => by unfold CodeO at w; cases w⟩
theorem Sep.tbs {T : List (Addr × Str)} {H H' : Hp} {p : Addr} (z : Sep H p) (h : Tabs T H) (o : Off p H H') : Tabs T H' := by
  obtain ⟨u, e, h1, h2⟩ := z.ex
  intro q hq
  obtain ⟨ps, g1, g2, g3⟩ := h q hq
  refine ⟨ps, o _ _ (fun w => ?_) g1, g2, fun pos cv hc => ?_⟩
  · rw [w, e] at g1
    exact h1 _ (Option.some.inj g1)
  · obtain ⟨c, e1, e2⟩ := g3 pos cv hc
    exact ⟨c, e1, o _ _ (fun w => by rw [w, e] at e2; exact h2 _ _ (Option.some.inj e2)) e2⟩
theorem SessX.extN {ex : Option Int} {C CM : Addr} {H H' : Hp} {s : Addr} {n : Int} {lg : List (Str × Str)} {gs : List PF} {f : PF} (h : SessX ex C CM H s n lg gs f) (x : ExtN H H') : SessX ex C CM H' s n lg gs f := by
  obtain ⟨⟨dx, m, tl, te, ts, ms, h1, h2, h3, h4, h5, h6⟩, l, sm, ok⟩ := h
  exact ⟨⟨dx, m, tl, te, ts, ms, x _ _ h1 (by intro ps z; cases z), h2.extN x, x _ _ h3 (by intro ps z; cases z), tups_extN x h4, x _ _ h5 (by intro ps z; cases z), PySem.Paired.map h6 fun v _ f ⟨a, ea, mm⟩ => ⟨a, ea, mm.extN x⟩⟩, l, sm, ok⟩
theorem TabsAt.extN {H H' : Hp} {n : Int} {ds : List Addr} {fs : List PF} (h : TabsAt H n ds fs) (x : ExtN H H') : TabsAt H' n ds fs := PySem.Paired.map h fun _ _ _ ⟨l, e, d, w⟩ => ⟨l, x _ _ e (by intro ps z; cases z), d, w⟩
theorem PlanAt.extN {H H' : Hp} {n : Int} {f f' : PF} {wn : Nat} {it : V} (h : PlanAt H n f wn it f') (x : ExtN H H') : PlanAt H' n f wn it f' := by
  rcases h with ⟨e, df, lf, g, h1, h2, h3⟩ | h | ⟨e, Mv, bs, ss, h1, h2, h3, h4⟩
  · exact .inl ⟨e, df, lf, g, h1, x _ _ h2 (by intro ps z; cases z), h3⟩
  · exact .inr (.inl h)
  · exact .inr (.inr ⟨e, Mv, bs, ss, h1, x _ _ h2 (by intro ps z; cases z), h3.map fun _ _ _ e => x _ _ e (by intro ps z; cases z), h4⟩)
/-- [.. for x in range(..)], the parts told by a property that new lists keep -/
theorem lc_rangeS {wi : TI} {i : Nat} {tv : TE} {vs : List Nat} {σ : L2.St} {H : Hp} {Q : VK} {n : Nat} (Pk : Nat → Addr → Hp → Prop) (stab : ∀ k b H H' D, (∃ ys, H D = some (.lst ys)) → Off D H H' → Pk k b H → Pk k b H') (mono : ∀ k b H H', L2.Same H H' → Pk k b H → Pk k b H')
    (hwi : ∀ R : It → Hp → Prop, R (Itr 0 n) H → wi σ H R) (hw : ∀ a, wipe ((wipe σ vs).set i a) vs = wipe σ vs) (hn : n < sizeLine)
    (hb : ∀ k : Nat, k < n → ∀ H1, L2.Same H H1 → ∀ R : VK, (∀ b H2, L2.Same H1 H2 → Pk k b H2 → R (.ref b) H2) → tv ((wipe σ vs).set i (some (.int (0 + (k : Nat))))) H1 R)
    (hq : ∀ (D : Addr) (bs : List Addr) (H' : Hp), L2.Same H H' → H' D = some (.lst (bs.map V.ref)) → bs.length = n → (∀ (k : Nat) (b : Addr), bs[k]? = some b → Pk k b H') → Q (.ref D) H') : tLc wi (gName i) tYes tv vs σ H Q := by
  refine hwi _ fun D hD => ?_
  refine lc_it (walk_range (lo := 0)) (fun k H' => L2.Same H H' ∧ ∃ bs : List Addr, H' D = some (.lst (bs.map V.ref)) ∧ bs.length = k ∧ ∀ (j : Nat) (b : Addr), bs[j]? = some b → Pk j b H') ⟨Same.new hD, [], upd_same, rfl, fun j b e => by simp at e⟩ (fun _ _ _ _ => trivial) ?_ ?_
  · rintro k v H' H'' hk ⟨s1, bs, e1, hl, hbs⟩ ⟨rfl, rfl⟩
    refine ⟨hw _, yes_ ?_⟩
    refine hb k hk _ s1 _ fun b H2 s2 eb => ?_
    have e2 := s2 _ _ e1
    refine ⟨_, e2, by rw [List.length_map, hl]; omega, Same.put (s1.trans s2) hD, bs ++ [b], by rw [upd_same, List.map_append]; rfl, by simp [hl], fun j b' e => ?_⟩
    refine stab j b' H2 _ D ⟨_, e2⟩ Off.lock ?_
    by_cases hj : j < bs.length
    · rw [List.getElem?_append_left hj] at e
      exact mono _ _ _ _ s2 (hbs j b' e)
    · have hl2 := (List.getElem?_eq_some_iff.mp e).1
      rw [List.length_append, List.length_singleton] at hl2
      have ej : j = k := by omega
      subst ej
      rw [List.getElem?_append_right (by omega), hl, Nat.sub_self] at e
      cases e
      exact eb
  · rintro H' ⟨s1, bs, e1, hl, hbs⟩
    exact hq D bs H' s1 e1 hl hbs
theorem lc_listS {K : PySem.W.Frag} {te : TE} {i : Nat} {tv : TE} {vs : List Nat} {σ : L2.St} {H : Hp} {Q : VK} {a : Addr} {xs : List V} (Pk : Nat → Addr → Hp → Prop) (stab : ∀ k b H H' D, (∃ ys, H D = some (.lst ys)) → Off D H H' → Pk k b H → Pk k b H') (mono : ∀ k b H H', L2.Same H H' → Pk k b H → Pk k b H')
    (hte : ∀ R : VK, R (.ref a) H → te σ H R) (ha : H a = some (.lst xs)) (hw : ∀ a, wipe ((wipe σ vs).set i a) vs = wipe σ vs) (hn : xs.length < sizeLine)
    (hb : ∀ (k : Nat) (x : V), xs[k]? = some x → ∀ H1, L2.Same H H1 → ∀ R : VK, (∀ b H2, L2.Same H1 H2 → Pk k b H2 → R (.ref b) H2) → tv ((wipe σ vs).set i (some x)) H1 R)
    (hq : ∀ (D : Addr) (bs : List Addr) (H' : Hp), L2.Same H H' → H' D = some (.lst (bs.map V.ref)) → bs.length = xs.length → (∀ (k : Nat) (b : Addr), bs[k]? = some b → Pk k b H') → Q (.ref D) H') : tLc (iList K te) (gName i) tYes tv vs σ H Q := by
  refine hte _ ⟨a, rfl, ⟨_, SqL.of ha⟩, fun D hD => ?_⟩
  refine lc_it (walk_list (xs := xs)) (fun k H' => L2.Same H H' ∧ ∃ bs : List Addr, H' D = some (.lst (bs.map V.ref)) ∧ bs.length = k ∧ ∀ (j : Nat) (b : Addr), bs[j]? = some b → Pk j b H') ⟨Same.new hD, [], upd_same, rfl, fun j b e => by simp at e⟩ (fun k H' _ p => SqL.of (p.1 _ _ ha)) ?_ ?_
  · rintro k v H' H'' hk ⟨s1, bs, e1, hl, hbs⟩ ⟨rfl, ev⟩
    refine ⟨hw _, yes_ ?_⟩
    refine hb k v ev _ s1 _ fun b H2 s2 eb => ?_
    have e2 := s2 _ _ e1
    refine ⟨_, e2, by rw [List.length_map, hl]; exact Nat.lt_trans hk hn, Same.put (s1.trans s2) hD, bs ++ [b], by rw [upd_same, List.map_append]; rfl, by simp [hl], fun j b' e => ?_⟩
    refine stab j b' H2 _ D ⟨_, e2⟩ Off.lock ?_
    by_cases hj : j < bs.length
    · rw [List.getElem?_append_left hj] at e
      exact mono _ _ _ _ s2 (hbs j b' e)
    · have hl2 := (List.getElem?_eq_some_iff.mp e).1
      rw [List.length_append, List.length_singleton] at hl2
      have ej : j = k := by omega
      subst ej
      rw [List.getElem?_append_right (by omega), hl, Nat.sub_self] at e
      cases e
      exact eb
  · rintro H' ⟨s1, bs, e1, hl, hbs⟩
    exact hq D bs H' s1 e1 hl hbs
theorem fnR_ex {α : Type} {P : Program} {w : World} {K : PySem.W.Frag} {mg : Str → Option Value} {base : Heap} {CX : CXT} {k : Nat} {f : Addr} {sp : α → Sp} (F : ∀ a, FnR P w K mg base CX k f (sp a)) : FnR P w K mg base CX k f (fun vs H Q E => ∃ a, sp a vs H Q E) := fun A outer s H us vs Q E hr e0 r ⟨a, h⟩ => F a A outer s H us vs Q E hr e0 r h
theorem tabN_full {f : PF} : ∀ (n : Nat), (∀ i : Nat, i < n → (f (i : Int)).isSome = true) → (tabN f n).length = n
  | 0, _ => rfl
  | n + 1, h => by
    have ih := tabN_full n fun i hi => h i (by omega)
    unfold tabN at ih ⊢
    rw [List.range_succ, List.filterMap_append, List.length_append, ih]
    have := h n (by omega)
    cases e : f (n : Int) with
    | none => rw [e] at this; cases this
    | some y => simp [e]
section
variable {P : Program} {w : World} {K : PySem.W.Frag} {mg : Str → Option Value} {base : Heap}
def lamTs (T : Txt K mg) : List (Addr × Str) := [(T.P_law, ("law" : Str) ++ ".<locals>." ++ "<lambda>")]
/-- what _law_caught makes of an exception -/
def ECau (T : Txt K mg) (Q : VK) : XK := fun cls d H' => ∃ dd, d = some dd ∧ ∃ u : Str, H' dd = some (.xd [("user", .str u)]) ∧
  ((cls = .ref T.C_NothingToUndo ∧ ∀ p H'', Same H' H'' → H' p = none → H'' p = some (.lst [.str "nothing", .str u]) → Q (.ref p) H'') ∨
   (cls = .ref T.C_NotLast ∧ ∀ p H'', Same H' H'' → H' p = none → H'' p = some (.lst [.str "last", .str u]) → Q (.ref p) H''))
def TT_l_caught (T : Txt K mg) : (XK → Hp → VK → Prop) → Hp → VK → Prop := fun tl H Q => tl (ECau T Q) H Q
theorem gives_caught {X : Cx} (T : Txt X.K X.mg) {cdg : Value} {q : Str} : GivesTo X n_l_caught "_law_caught" (defScope s_l_caught) T.f_l_caught cdg (defBody s_l_caught) "_law_call" q (TT_l_caught T) := by
  intro f c' s H Q tl act hc h
  refine ⟨_, (pss_one (ps_try_manyA rfl rfl sc_l_caught.nd L2.takes0 (fun W pn xe tk _ => (pss_one (ps_ret (pe_actE 2 rfl (fun W' E t h => act W' pn xe E _ _ t h) tk)))) (.cons (i := 1) rfl rfl ⟨rfl, by decide, .inl T.g_NothingToUndo⟩ (fun a oe cls d pn hz hf => (pss_one (ps_ret (pe_lst (pa_cons pe_str (pa_cons (pe_xf T.xf_NothingToUndo T.na_user_NothingToUndo hz hf (pv 1)) pa_nil)))))) (.cons (i := 1) rfl rfl ⟨rfl, by decide, .inl T.g_NotLast⟩ (fun a oe cls d pn hz hf => (pss_one (ps_ret (pe_lst (pa_cons pe_str (pa_cons (pe_xf T.xf_NotLast T.na_user_NotLast hz hf (pv 1)) pa_nil)))))) .nil)))), ?_⟩
  refine ⟨ECau T Q, fun cls d σ' H' hE hl => ?_, rfl, hc, h⟩
  match σ', hl with
  | [u0, u1], _ =>
    obtain ⟨dd, rfl, u, e, hE⟩ := hE
    rcases hE with ⟨rfl, q⟩ | ⟨rfl, q⟩
    · refine ⟨true, T.te_NothingToUndo, fun _ a na => ?_, fun z => nomatch z⟩
      exact ⟨_, rfl, rfl, rfl, dd, _, _, rfl, e, rfl, two_le, fun p np => q p _ (Same.new np) np upd_same⟩
    · refine ⟨false, T.te_NotLast_NothingToUndo, (fun z => nomatch z), fun _ => ⟨true, T.te_NotLast, fun _ a na => ?_, fun z => nomatch z⟩⟩
      exact ⟨_, rfl, rfl, rfl, dd, _, _, rfl, e, rfl, two_le, fun p np => q p _ (Same.new np) np upd_same⟩
/-- pool, session, and the law's two lists -/
structure KS (T : Txt K mg) (l n : Int) (H0 H : Hp) (p s L G : Addr) (lg : List (Str × Str)) (gs : List PF) (f : PF) : Prop where
  po : PoolAt H p
  se : SessX (some l) T.C_KeepingSession T.C_Map H s n lg gs f
  ta : ∃ ds, H L = some (.lst (ds.map V.ref)) ∧ TabsAt H n ds (gs ++ [f])
  lo : ∃ us, H G = some (.lst (us.map V.ref)) ∧ Paired (fun t (p : Str × Str) => H t = some (.tup [.str p.1, .str p.2])) us lg
  tb : Tabs (lamTs T) H
  ex : ExtN H0 H
  old : ∀ b o, H0 b = some o → (∀ ps, o ≠ .tbl ps) → b ≠ p ∧ b ≠ s
  okf : ∀ g ∈ gs ++ [f], l ≤ ((tab n g).length : Nat)
section
variable {T : Txt K mg} {l n : Int} {H0 H H' : Hp} {p s L G : Addr} {lg lg' : List (Str × Str)} {gs gs' : List PF} {f f' : PF}
theorem KS.nsp (z : KS T l n H0 H p s L G lg gs f) : s ≠ p := by
  obtain ⟨a, b, e1, _⟩ := z.po
  obtain ⟨dx, m, tl, te, ts, ms, e2, _⟩ := z.se.ob
  exact ne_of e2 e1 (by intro w; cases w)
theorem KS.same (z : KS T l n H0 H p s L G lg gs f) (x : Same H H') : KS T l n H0 H' p s L G lg gs f := by
  obtain ⟨ds, d1, d2⟩ := z.ta
  obtain ⟨us, u1, u2⟩ := z.lo
  exact ⟨z.po.same x, z.se.same x, ⟨ds, x _ _ d1, d2.same x⟩, ⟨us, x _ _ u1, u2.map fun _ _ _ e => x _ _ e⟩, z.tb.ext x, z.ex.trans (ExtN.of x), z.old, z.okf⟩
theorem KS.extN (z : KS T l n H0 H p s L G lg gs f) (x : ExtN H H') (t : Tabs (lamTs T) H') : KS T l n H0 H' p s L G lg gs f := by
  obtain ⟨ds, d1, d2⟩ := z.ta
  obtain ⟨us, u1, u2⟩ := z.lo
  exact ⟨z.po.extN x, z.se.extN x, ⟨ds, x _ _ d1 (by intro ps z; cases z), d2.extN x⟩, ⟨us, x _ _ u1 (by intro ps z; cases z), tups_extN x u2⟩, t, z.ex.trans x, z.old, z.okf⟩
theorem KS.draw (z : KS T l n H0 H p s L G lg gs f) (p' : PoolAt H' p) (o : Off p H H') : KS T l n H0 H' p s L G lg gs f := by
  obtain ⟨ds, d1, d2⟩ := z.ta
  obtain ⟨us, u1, u2⟩ := z.lo
  have sp := z.po.sep
  exact ⟨p', sp.sessX o z.nsp z.se, ⟨ds, sp.refs o d1, sp.tabs o d2⟩, ⟨us, sp.refs o u1, sp.tups o u2⟩, sp.tbs z.tb o, fun b u e h => o _ _ (z.old b u e h).1 (z.ex b u e h), z.old, z.okf⟩
/-- the session changed; the lists are behind -/
theorem KS.act (z : KS T l n H0 H p s L G lg gs f) (o : Off s H H') : PoolAt H' p ∧ (∃ ds, H' L = some (.lst (ds.map V.ref)) ∧ TabsAt H' n ds (gs ++ [f])) ∧ (∃ us, H' G = some (.lst (us.map V.ref)) ∧ Paired (fun t (p : Str × Str) => H' t = some (.tup [.str p.1, .str p.2])) us lg) ∧ Tabs (lamTs T) H' ∧ ExtN H0 H' := by
  obtain ⟨ds, d1, d2⟩ := z.ta
  obtain ⟨us, u1, u2⟩ := z.lo
  have sp := z.se.sep
  exact ⟨Sep.pool o z.nsp.symm z.po, ⟨ds, sp.refs o d1, sp.tabs o d2⟩, ⟨us, sp.refs o u1, sp.tups o u2⟩, sp.tbs z.tb o, fun b u e h => o _ _ (z.old b u e h).2 (z.ex b u e h)⟩
end
theorem len_tab {n : Int} {l : List (Int × Int)} {f : PF} (d : DI l f) (w : WF n f) : l.length = (tab n f).length := by
  have e := di_tab w
  have nd : ∀ {l : List (Int × Int)}, (l.map (·.1)).Nodup → l.Nodup := fun h => nd_of_map _ h
  refine Nat.le_antisymm (List.Nodup.length_le_of_subset (nd d.nd) fun p hp => ?_) (List.Nodup.length_le_of_subset (nd e.nd) fun p hp => ?_)
  · exact e.mem.mpr (d.mem.mp hp)
  · exact d.mem.mpr (e.mem.mp hp)
/-- what was told is what is due -/
def Match (K : PySem.W.Frag) (C : Addr) (n : Int) (H : Hp) (x y : V) : Prop := (∃ a b g, x = .ref a ∧ y = .ref b ∧ IsMap C H a n g ∧ IsMap C H b n g) ∨ (∃ a b d, x = .ref a ∧ y = .ref b ∧ Dp K H (.ref a) d ∧ Dp K H (.ref b) d ∧ SeqAt.shaped d = true)
theorem match_ne {C : Addr} {n : Int} {H : Hp} {x y : V} (h : Match K C n H x y) {Q : VK} (q : Q (.bl false) H) : rNeO C (spEqM C) E0 x y H Q ∨ L2.rNeD K x y H Q := by
  rcases h with ⟨a, b, g, rfl, rfl, m1, m2⟩ | ⟨a, b, d, rfl, rfl, p1, p2, sh⟩
  · obtain ⟨ex1, fx1, em1⟩ := at_map m1
    obtain ⟨ex2, fx2, em2⟩ := at_map m2
    refine .inl ⟨a, ex1, fx1, b, ex2, fx2, rfl, rfl, em1, em2, a, b, _, _, _, _, rfl, m1, m2, _, rfl, ?_⟩
    rw [eqB_self m1.wf]
    exact q
  · refine .inr ⟨d, d, p1, p2, sh, sh, ?_⟩
    rw [SeqAt.eqv_refl _ (SeqAt.canLay_of_shaped sh)]
    exact q
def MapK (C : Addr) (n : Int) (fs : List PF) : Nat → Addr → Hp → Prop := fun k b H => ∃ g, fs[k]? = some g ∧ IsMap C H b n g
theorem MapK.stab {C : Addr} {n : Int} {fs : List PF} : ∀ k b H H' D, (∃ ys, H D = some (.lst ys)) → Off D H H' → MapK C n fs k b H → MapK C n fs k b H' := fun k b H H' D e o ⟨g, eg, m⟩ => ⟨g, eg, m.off o e⟩
theorem MapK.mono {C : Addr} {n : Int} {fs : List PF} : ∀ k b H H', Same H H' → MapK C n fs k b H → MapK C n fs k b H' := fun k b H H' s ⟨g, eg, m⟩ => ⟨g, eg, m.same s⟩
def spLawT (K : PySem.W.Frag) {mg : Str → Option Value} (T : Txt K mg) : Sp := fun vs H Q _ => ∃ (a : Addr) (ns : List Int), vs = [.ref a] ∧ SqL K H a (ns.map V.int) ∧ ns.length ≤ 63 ∧ (∀ p ∈ [(T.c_law, T.P_law)], H p.2 = some (.tbl #[])) ∧ ∀ H', Q (.bl true) H'
end
end My
namespace My
open PySem L2 U StX PM LamX
section
variable {P : Program} {w : World} {K : PySem.W.Frag} {mg : Str → Option Value} {base : Heap}
theorem ok_law (hP : U.SupP P "/claim/cut.py") (T : Txt K mg) (tb : ∀ p ∈ [(T.c_law, T.P_law)], TabB base mg p.1 p.2) : FnG P w K mg base CX0 40 T.f_law (spLawT K T) := by
  have TBx := tb _ (List.Mem.head _)
  have hmT : (T.P_law, ("law" : Str) ++ ".<locals>." ++ "<lambda>") ∈ lamTs T := (by unfold lamTs; exact (List.Mem.head _))
  have huT : ∀ p ∈ lamTs T, p.1 = T.P_law → p.2 = ("law" : Str) ++ ".<locals>." ++ "<lambda>" := (by
      intro p hp e
      unfold lamTs at hp
      rw [List.mem_singleton] at hp
      rw [hp])
  obtain ⟨fdT, FT, hb_l_caught⟩ := T.A_l_caught.ex
  obtain ⟨ocT, odT, kVT, docT, pmT, anT, cdT, ctT, oslT, rfl, lk_l_caught, hcg_l_caught⟩ := FT.ex
  refine T.B_law.okG sc_law (fun vs H Q E h => ?_) (fun A outer s0 H vs Q E gd hr h => ?_)
  · obtain ⟨a, ns, rfl, _⟩ := h
    rfl
  · obtain ⟨a, ns, rfl, hS, hl, hT, q⟩ := h
    have hu := hu_of hr
    have t0 : Tabs (lamTs T) H := by
      intro p hp
      unfold lamTs at hp
      rw [List.mem_singleton] at hp
      rw [hp]
      exact TabS.nil (hT _ (List.Mem.head _))
    have hG_l_caught := gives_caught (X := (cxOf CX0 P w K mg base n_law "law" (defScope s_law) T.f_law (.ref T.c_law) A outer s0 H E).nox) T (cdg := cdT) (q := ("law" : Str) ++ ".<locals>." ++ "<lambda>")
    refine ⟨_, (pss_cons (ps_for PassesOwn.never rfl (pi_range1 rfl T.n_range (pa_cons (pe_callB (call_max2 rfl) (by rfl) T.n_max (by decide +kernel) (pa_cons pe_int (pa_cons (pe_callB (call_min2 rfl) (by rfl) T.n_min (by decide +kernel) (pa_cons (pe_callB call_len_seq (by rfl) T.n_len (by decide +kernel) (pa_cons (pv 0) pa_nil)) (pa_cons pe_int pa_nil))) pa_nil))) pa_nil)) (pg_name (i := 1) sc_law.nd rfl (Or.inl rfl))
        (pss_cons (ps_set (i := 2) sc_law.nd rfl (Or.inl rfl) (pe_callR (ok_hand T) (hr.mono (by decide)) T.A_l_hand.kp rfl T.g_l_hand pass0 (pa_cons (pv 0) (pa_cons (pv 1) pa_nil))))
      (pss_cons (ps_set (i := 3) sc_law.nd rfl (Or.inr rfl) (pe_op op_add pe_int (pe_callR (ok_draw T) (hr.mono (by decide)) T.A_l_draw.kp rfl T.g_l_draw pass0 (pa_cons (pv 2) (pa_cons pe_int pa_nil)))))
      (pss_cons (ps_set (i := 4) sc_law.nd rfl (Or.inl rfl) (pe_callR (ok_draw T) (hr.mono (by decide)) T.A_l_draw.kp rfl T.g_l_draw pass0 (pa_cons (pv 2) (pa_cons (pe_op op_add (pv 3) pe_int) pa_nil))))
      (pss_cons (ps_asg (pe_tup (pa_cons (pe_makeR T.M_KeepingSession (fnR_calm (ok_k_init hP T)) (hr.mono (by decide)) rfl T.g_KeepingSession pass0 (pa_cons (pv 3) (pa_cons (pv 4) pa_nil))) (pa_cons (pe_lst (pa_cons (pe_callR (ok_l_full T) (hr.mono (by decide)) T.A_l_full.kp rfl T.g_l_full pass0 (pa_cons (pv 3) pa_nil)) pa_nil)) (pa_cons (pe_lst pa_nil) pa_nil)))) (pg_tup rfl (pgs_cons (pg_name (i := 5) sc_law.nd rfl (Or.inr rfl)) (pgs_cons (pg_name (i := 6) sc_law.nd rfl (Or.inl rfl)) (pgs_cons (pg_name (i := 7) sc_law.nd rfl (Or.inl rfl)) pgs_nil)))))
      (pss_one (ps_for PassesOwn.never rfl (pi_range1 rfl T.n_range (pa_cons pe_int pa_nil)) (pg_name (i := 8) sc_law.nd rfl (Or.inl rfl))
        (pss_cons (ps_set (i := 9) sc_law.nd rfl (Or.inr rfl) (pe_ix ix_list (pe_lst (pa_cons pe_str (pa_cons pe_str pa_nil))) (pe_callR (ok_draw T) (hr.mono (by decide)) T.A_l_draw.kp rfl T.g_l_draw pass0 (pa_cons (pv 2) (pa_cons pe_int pa_nil))) (fun _ _ => rfl)))
      (pss_cons (ps_if (pt_cmpR op_eq (pe_callR (ok_draw T) (hr.mono (by decide)) T.A_l_draw.kp rfl T.g_l_draw pass0 (pa_cons (pv 2) (pa_cons pe_int pa_nil))) pe_int (nomark _))
        (pss_cons (ps_set (i := 10) sc_law.nd rfl (Or.inl rfl) (LamX.pe_lamcall (k := 12) (T := lamTs T) (TT := TT_l_caught T) rfl T.g_l_caught T.A_l_caught.kp lk_l_caught hcg_l_caught hb_l_caught sc_l_caught rfl (Or.inl rfl) hG_l_caught TBx rfl hmT huT (hr.mono (by decide)) (LamX.lamS_by (sc := defScope s_law) (by decide +kernel)) rfl (fun _ _ _ _ _ => rfl) (fun A' outer' s' H' E' f' c'' hr' => (pe_methR (pv 5) (sc_keep T).o.cl T.meth_KeepingSession_undo (fnR_ex fun ex => okx_undo T (sc_keep T) (ex := ex)) (hr'.mono (by decide)) (passes_call (takes_of rfl rfl rfl rfl) (fun _ _ _ _ h => h)) (pa_cons (pv 9) pa_nil)))))
      (pss_one (ps_if (pt_cmpR (op_eqNil hr.units0) (pv 7) (pe_lst pa_nil) (nomark _))
        (pss_one (ps_set (i := 11) sc_law.nd rfl (Or.inl rfl) (pe_lst (pa_cons pe_str (pa_cons (pv 9) pa_nil))))) (pss_one (ps_if (pt_cmpR op_ne (pe_ix ix_tup (pe_ix ix_list (pv 7) (pe_un un_neg pe_int) (fun _ _ => rfl)) pe_int (fun _ _ => rfl)) (pv 9) (nomark _))
        (pss_one (ps_set (i := 11) sc_law.nd rfl (Or.inl rfl) (pe_lst (pa_cons pe_str (pa_cons (pe_ix ix_tup (pe_ix ix_list (pv 7) (pe_un un_neg pe_int) (fun _ _ => rfl)) pe_int (fun _ _ => rfl)) pa_nil))))) (pss_cons (ps_par (i := 6) (j := 7) rfl sc_law.nd rfl rfl (by decide) rfl rfl (pa_cons (pe_slice sl_list (pv 6) po_none (po_some (pe_un un_neg pe_int))) (pa_cons (pe_slice sl_list (pv 7) po_none (po_some (pe_un un_neg pe_int))) pa_nil)) (by rfl))
      (pss_one (ps_set (i := 11) sc_law.nd rfl (Or.inl rfl) (pe_makeR T.M_Map (ok_init T) (hr.mono (by decide)) rfl T.g_Map pass0 (pa_cons (pv 3) (pa_cons (pe_ix ix_list (pv 6) (pe_un un_neg pe_int) (fun _ _ => rfl)) pa_nil))))))))))) (pss_cons (ps_set (i := 12) sc_law.nd rfl (Or.inl rfl) (pe_callR (ok_l_planned T) (hr.mono (by decide)) T.A_l_planned.kp rfl T.g_l_planned pass0 (pa_cons (pv 2) (pa_cons (pv 3) (pa_cons (pe_ix ix_list (pv 6) (pe_un un_neg pe_int) (fun _ _ => rfl)) pa_nil)))))
      (pss_cons (ps_par (i := 10) (j := 11) rfl sc_law.nd rfl rfl (by decide) rfl rfl (pa_cons (pe_callR (ok_l_done hP T) (hr.mono (by decide)) T.A_l_done.kp rfl T.g_l_done pass0 (pa_cons (pv 5) (pa_cons (pv 3) (pa_cons (pv 9) (pa_cons (pv 12) pa_nil))))) (pa_cons (pe_makeR T.M_Map (ok_init T) (hr.mono (by decide)) rfl T.g_Map pass0 (pa_cons (pv 3) (pa_cons (pe_ix ix_list (pv 12) pe_int (fun _ _ => rfl)) pa_nil))) pa_nil)) (by rfl))
      (pss_one (ps_if (pt_cmpR op_lt (pe_callB call_lenD (by rfl) T.n_len (by decide +kernel) (pa_cons (pe_ix ix_list (pv 12) pe_int (fun _ _ => rfl)) pa_nil)) (pv 4) (nomark _))
        (pss_one (ps_set (i := 11) sc_law.nd rfl (Or.inl rfl) (pe_lst (pa_cons pe_str (pa_cons (pe_callB call_lenD (by rfl) T.n_len (by decide +kernel) (pa_cons (pe_ix ix_list (pv 12) pe_int (fun _ _ => rfl)) pa_nil)) (pa_cons pe_bl pa_nil)))))) (pss_one (ps_par (i := 6) (j := 7) rfl sc_law.nd rfl rfl (by decide) rfl rfl (pa_cons (pe_op op_cat (pv 6) (pe_lst (pa_cons (pe_ix ix_list (pv 12) pe_int (fun _ _ => rfl)) pa_nil))) (pa_cons (pe_op op_cat (pv 7) (pe_lst (pa_cons (pe_tup (pa_cons (pv 9) (pa_cons (pe_ix ix_list (pe_lst (pa_cons pe_str (pa_cons pe_str (pa_cons pe_str pa_nil)))) (pe_ix ix_list (pv 12) pe_int (fun _ _ => rfl)) (fun _ _ => rfl)) pa_nil))) pa_nil))) pa_nil)) (by rfl))))))))
      (pss_cons (ps_if (PW.pt (pw_or (pt_cmpR (opR_or (op_neO T.o_Map T.ne_Map T.m_Map__eq T.i_Map__eq (ok_eq T) (hr.mono (by decide)) pass0) (L2.op_neD hr.units)) (pv 10) (pv 11) (nomark _)) (pw_or (pt_cmpR (op_neO T.o_Map T.ne_Map T.m_Map__eq T.i_Map__eq (ok_eq T) (hr.mono (by decide)) pass0) (pe_propR (pv 5) T.o_KeepingSession.cl T.P_KeepingSession_present (fnR_ex fun ex => okx_present T (sc_keep T) (ex := ex)) (hr.mono (by decide))) (pe_makeR T.M_Map (ok_init T) (hr.mono (by decide)) rfl T.g_Map pass0 (pa_cons (pv 3) (pa_cons (pe_ix ix_list (pv 6) (pe_un un_neg pe_int) (fun _ _ => rfl)) pa_nil))) (nomark _)) (pw_or1 (pt_cmpR (L2.op_neD hr.units) (pe_meth0R (pv 5) (sc_keep T).o.cl T.meth_KeepingSession_log (fnR_ex fun ex => okx_log T (sc_keep T) (ex := ex)) (hr.mono (by decide)) pass0) (pv 7) (nomark _))))))
        (pss_one (ps_ret pe_bl)) pss_nil)
      (pss_cons (ps_if (PW.pt (pw_or (pt_cmpR op_ne (pe_propR (pv 5) T.o_KeepingSession.cl T.P_KeepingSession_least (ok_least T) (hr.mono (by decide))) (pv 4) (nomark _)) (pw_or (pt_cmpR op_lt (pe_callB (call_lenO T.m_Map__len T.i_Map__len (ok_len T) (hr.mono (by decide)) pass0) (by rfl) T.n_len (by decide +kernel) (pa_cons (pe_propR (pv 5) T.o_KeepingSession.cl T.P_KeepingSession_present (fnR_ex fun ex => okx_present T (sc_keep T) (ex := ex)) (hr.mono (by decide))) pa_nil)) (pv 4) (nomark _)) (pw_or1 (pt_cmpR op_ne (pe_callB (call_lenO T.m_KeepingSession___len T.i_KeepingSession___len (fnR_ex fun ex => okx_len T (sc_keep T) (ex := ex)) (hr.mono (by decide)) pass0) (by rfl) T.n_len (by decide +kernel) (pa_cons (pv 5) pa_nil)) (pe_callB call_len_seq (by rfl) T.n_len (by decide +kernel) (pa_cons (pv 7) pa_nil)) (nomark _))))))
        (pss_one (ps_ret pe_bl)) pss_nil)
      (pss_one (ps_if (pt_cmpR (op_neL (mon_DI _) (eq_DI T) (hr.mono (by decide))) (pe_lc (own := [("_law_number", 13)]) (g := (gName 13)) (tt := tYes) rfl sc_law.nd (pi_range1 rfl T.n_range (pa_cons (pe_callB call_len_seq (by rfl) T.n_len (by decide +kernel) (pa_cons (pv 6) pa_nil)) pa_nil)) (blkOk_by (own := [("_law_number", 13)]) (N := n_law) (sc := defScope s_law) (by decide +kernel)) (fun _ _ _ _ _ => (pg_name (i := 13) sc_law.nd rfl (Or.inl rfl))) (fun _ _ _ _ _ => pts_nil) (fun _ _ _ _ _ => (pe_methR (pv 5) (sc_keep T).o.cl T.meth_KeepingSession_at (fnR_ex fun ex => okx_at T (sc_keep T) (ex := ex)) (hr.mono (by decide)) pass0 (pa_cons (pv 13) pa_nil)))) (pe_lc (own := [("_law_table", 14)]) (g := (gName 14)) (tt := tYes) rfl sc_law.nd (pi_list (pv 6)) (blkOk_by (own := [("_law_table", 14)]) (N := n_law) (sc := defScope s_law) (by decide +kernel)) (fun _ _ _ _ _ => (pg_name (i := 14) sc_law.nd rfl (Or.inl rfl))) (fun _ _ _ _ _ => pts_nil) (fun _ _ _ _ _ => (pe_makeR T.M_Map (ok_init T) (hr.mono (by decide)) rfl T.g_Map pass0 (pa_cons (pv 3) (pa_cons (pv 14) pa_nil))))) (nomark _))
        (pss_one (ps_ret pe_bl)) pss_nil)))))))))))))
      (pss_one (ps_ret pe_bl))), ?_⟩
    refine ⟨_, rfl, a, _, rfl, .inl hS, _, _, rfl, _, _, rfl, _, rfl, ?_, ?_, ?_⟩
    · rw [List.length_map]; (repeat' split) <;> omega
    · rw [List.length_map]; (repeat' split) <;> omega
    refine for_it (walk_range (lo := 0)) (fun i σ H' => ∃ v1 v2 v3 v4 v5 v6 v7 v8 v9 v10 v11 v12 v13 v14, σ = [some (.ref a), v1, v2, v3, v4, v5, v6, v7, v8, v9, v10, v11, v12, v13, v14] ∧ ExtN H H' ∧ Tabs (lamTs T) H')
      ⟨_, _, _, _, _, _, _, _, _, _, _, _, _, _, rfl, fun _ _ h _ => h, t0⟩ (fun _ _ _ _ _ => trivial) ?_ ?_
    · rintro k v σ H' H1 hk ⟨v1, v2, v3, v4, v5, v6, v7, v8, v9, v10, v11, v12, v13, v14, rfl, x1, t1⟩ ⟨rfl, rfl⟩
      refine ⟨_, rfl, _, rfl, a, ns, _, rfl, SqL.extN hS x1, hl, fun p H2 x y np hp s2 hx hy hy2 => ?_⟩
      have pool2 : PoolAt H2 p := ⟨x, y, hp, hx, hy, hy2⟩
      refine draw_R rfl (fun R r => r) pool2 (by decide) (by decide) fun r H3 r0 r1 pool3 off3 => ⟨_, _, rfl, rfl, ?_⟩
      have n1 : 1 ≤ 1 + r := by omega
      have n6 : 1 + r ≤ 6 := by omega
      obtain ⟨n, en⟩ : ∃ n, n = 1 + r := ⟨_, rfl⟩
      dsimp only [gName]
      rw [← en] at n1 n6 ⊢
      clear en r0 r1
      have old_p : ∀ b o, H b = some o → (∀ ps, o ≠ .tbl ps) → b ≠ p := fun b o e hp' z => by
        have := x1 _ _ e hp'
        rw [z, np] at this
        cases this
      have x3 : ExtN H H3 := fun b o e hp' => off3 _ _ (old_p b o e hp') (s2 _ _ (x1 _ _ e hp'))
      have t3 : Tabs (lamTs T) H3 := pool2.sep.tbs (t1.ext s2) off3
      refine draw_R rfl (fun R rr => ⟨_, rfl, _, _, rfl, rfl, rr⟩) pool3 (by omega) (by omega) fun l H4 l0 l1 pool4 off4 => ?_
      have x4 : ExtN H H4 := fun b o e hp' => off4 _ _ (old_p b o e hp') (x3 _ _ e hp')
      have t4 : Tabs (lamTs T) H4 := pool3.sep.tbs t3 off4
      refine ⟨_, rfl, _, rfl, fun s dx ns ndx nesd => ⟨s, dx, n, l, rfl, upd_same, n1, by omega, l0, by omega, fun H5 o5 se5 => ⟨rfl, ?_⟩⟩⟩
      have s5 : Same H4 H5 := fun c o e => o5 _ _ (ne_of_none e ns) (by rw [upd_ne (ne_of_none e ns), upd_ne (ne_of_none e ndx)]; exact e)
      have old_s : ∀ b o, H b = some o → (∀ ps, o ≠ .tbl ps) → b ≠ s := fun b o e hp' => ne_of_none (x4 _ _ e hp') ns
      refine ⟨_, rfl, n, rfl, n1, by omega, fun d ld H6 s6 nd hd dl hl => ⟨one_le, ?_⟩⟩
      refine fun Lt n_Lt => ?_
      generalize g_Lt : L2.upd _ Lt _ = H7
      obtain ⟨s_H7, e_Lt⟩ := U.upd_facts g_Lt n_Lt
      clear g_Lt
      refine ⟨nil_le, ?_⟩
      refine fun Lg n_Lg => ?_
      generalize g_Lg : L2.upd _ Lg _ = H8
      obtain ⟨s_H8, e_Lg⟩ := U.upd_facts g_Lg n_Lg
      clear g_Lg
      refine ⟨three_le, ?_⟩
      refine fun tt0 n_tt0 => ?_
      generalize g_tt0 : L2.upd _ tt0 _ = H9
      obtain ⟨s_H9, e_tt0⟩ := U.upd_facts g_tt0 n_tt0
      clear g_tt0
      refine ⟨tt0, _, rfl, SqT.of e_tt0, rfl, .ref s, [.ref Lt, .ref Lg], rfl, .ref Lt, [.ref Lg], rfl, .ref Lg, [], rfl, rfl, ?_⟩
      have s79 : Same H7 H9 := s_H8.trans s_H9
      have s59 : Same H5 H9 := (s6.trans s_H7).trans s79
      have k0 : KS T l n H H9 p s Lt Lg [] [] (idn n) := by
        refine ⟨(pool4.same s5).same s59, se5.same s59, ⟨[d], s79 _ _ e_Lt, .cons ⟨ld, (s_H7.trans s79) _ _ hd, dl, wf_idn n⟩ .nil⟩, ⟨[], s_H9 _ _ e_Lg, .nil⟩, (t4.ext s5).ext s59, x4.trans (ExtN.of (s5.trans s59)), fun b o e h => ⟨old_p b o e h, old_s b o e h⟩, fun g hg => ?_⟩
        simp only [List.nil_append, List.mem_singleton] at hg
        subst hg
        have := tabN_full (f := idn n) n.toNat fun i hi => by unfold idn; rw [if_pos (by omega)]; rfl
        unfold tab
        rw [this]
        omega
      clear pool2 pool3 off3 pool4 off4 x3 t3 x4 t4 o5 se5 s5 s6 s79 s59 s_H7 s_H8 s_H9 e_Lt e_Lg e_tt0 hp s2 hd dl hl n_Lt n_Lg n_tt0 nd old_p old_s
      refine ⟨20, rfl, by decide, by decide, ?_⟩
      refine for_it (walk_range (lo := 0)) (fun i σ H' => ∃ lg gs f L G w8 w9 w10 w11 w12 w13 w14, σ = [some (.ref a), some (.int (0 + (k : Nat))), some (.ref p), some (.int n), some (.int l), some (.ref s), some (.ref L), some (.ref G), w8, w9, w10, w11, w12, w13, w14] ∧ KS T l n H H' p s L G lg gs f ∧ lg.length ≤ i)
        ⟨[], [], idn n, Lt, Lg, _, _, _, _, _, _, _, rfl, k0, Nat.le_refl _⟩ (fun _ _ _ _ _ => trivial) ?_ ?_
      · clear k0 Lt Lg tt0 d ld
        rintro i v σ Ha0 Ha hi ⟨lg, gs, f, L, G, w8, w9, w10, w11, w12, w13, w14, rfl, ka, hli⟩ ⟨rfl, rfl⟩
        have hi20 : i < 20 := hi
        refine ⟨two_le, ?_⟩
        refine fun Lu n_Lu => ?_
        generalize g_Lu : L2.upd _ Lu _ = Hb
        obtain ⟨s_Hb, e_Lu⟩ := U.upd_facts g_Lu n_Lu
        clear g_Lu
        have npu := ka.po.ne n_Lu
        refine draw_R rfl (fun R r => r) (ka.po.same s_Hb) (by decide) (by decide) fun b Hc b0 b1 poolc offc => ?_
        have kc := (ka.same s_Hb).draw poolc offc
        obtain ⟨vu, hat, hmem⟩ := at_nat (xs := [V.str "ann", .str "bob"]) b0 (by simp; omega)
        refine ⟨Lu, _, b, vu, rfl, rfl, SqL.of (offc _ _ npu.symm e_Lu), hat, ?_⟩
        obtain ⟨u, rfl, hn, hok⟩ : ∃ u : Str, vu = .str u ∧ nameS u = true ∧ OkS u := by
          simp only [List.mem_cons, List.not_mem_nil, or_false] at hmem
          rcases hmem with rfl | rfl
          · exact ⟨_, rfl, by decide +kernel, by unfold OkS; decide +kernel⟩
          · exact ⟨_, rfl, by decide +kernel, by unfold OkS; decide +kernel⟩
        clear hmem hat offc poolc e_Lu s_Hb n_Lu npu ka
        refine nx_cut (fun σ H' => ∃ lg' gs' f' L' G' x y w12' , σ = [some (.ref a), some (.int (0 + (k : Nat))), some (.ref p), some (.int n), some (.int l), some (.ref s), some (.ref L'), some (.ref G'), some (.int (0 + (i : Nat))), some (.str u), some x, some y, w12', w13, w14] ∧ KS T l n H H' p s L' G' lg' gs' f' ∧ lg'.length ≤ i + 1 ∧ Match K T.C_Map n H' x y) (fun nx fin => ?_) ?_
        · refine draw_R rfl (fun R r => r) kc.po (by decide) (by decide) fun r4 Hd r40 r41 poold offd => ⟨rfl, _, rfl, ?_⟩
          have kd := kc.draw poold offd
          refine ifD (fun h4 => ?_) (fun h4 => ?_)
          · -- undo
            refine ⟨kd.tb, fun H1 x1 t1 => ?_⟩
            have k1 := kd.extN x1 t1
            obtain ⟨us, u1, u2⟩ := id k1.lo
            obtain ⟨ds, d1, d2⟩ := id k1.ta
            obtain ⟨dx, m, tl, te, ts, ms, h1, _⟩ := id k1.se.ob
            have str2 : ∀ (x y : Str), OkS x → OkS y → SeqAt.shaped (.list [.str x, .str y]) = true := fun x y hx hy => shaped_all fun d hd => by
              simp only [List.mem_cons, List.not_mem_nil, or_false] at hd
              rcases hd with rfl | rfl
              · exact ⟨hx, by show 0 ≤ 60; decide⟩
              · exact ⟨hy, by show 0 ≤ 60; decide⟩
            have mtch : ∀ {Hz : Hp} {x y : Str} {a b : Addr}, OkS x → OkS y → Hz a = some (.lst [.str x, .str y]) → Hz b = some (.lst [.str x, .str y]) → Match K T.C_Map n Hz (.ref a) (.ref b) := fun {Hz x y a b} hx hy ha hb => .inr ⟨a, b, .list [.str x, .str y], rfl, rfl, .lst (SqL.of ha) (.cons (.str _) (.cons (.str _) .nil)), .lst (SqL.of hb) (.cons (.str _) (.cons (.str _) .nil)), str2 x y hx hy⟩
            refine ⟨_, rfl, s, dx, _, rfl, h1, rfl, _, rfl, some l, s, u, n, lg, gs, f, rfl, k1.se, hn, ?_⟩
            rcases List.eq_nil_or_concat lg with rfl | ⟨lg0, ⟨v, a0⟩, elg⟩
            · refine .inl ⟨rfl, fun dd H2 s2 hd => ⟨dd, rfl, u, upd_same, .inl ⟨rfl, fun pz H3 s3 np3 e3 => ?_⟩⟩⟩
              have s13 : Same H1 H3 := (s2.trans (Same.new hd)).trans s3
              cases u2
              refine ⟨_, rfl, nil_le, ?_⟩
              refine fun e0 n_e0 => ?_
              generalize g_e0 : L2.upd _ e0 _ = H4
              obtain ⟨s_H4, e_e0⟩ := U.upd_facts g_e0 n_e0
              clear g_e0
              refine ⟨G, e0, _, rfl, rfl, SqL.of (s_H4 _ _ (s13 _ _ u1)), SqL.of e_e0, _, rfl, iteT ?_⟩
              refine ⟨_, rfl, two_le, ?_⟩
              refine fun e1 n_e1 => ?_
              generalize g_e1 : L2.upd _ e1 _ = H5
              obtain ⟨s_H5, e_e1⟩ := U.upd_facts g_e1 n_e1
              clear g_e1
              exact fin _ _ ⟨[], gs, f, L, G, _, _, _, rfl, k1.same (s13.trans (s_H4.trans s_H5)), Nat.zero_le _, mtch (by unfold OkS; decide +kernel) hok (s_H5 _ _ (s_H4 _ _ e3)) e_e1⟩
            · rw [List.concat_eq_append] at elg
              subst elg
              obtain ⟨us0, t, rfl, pu, et⟩ := paired_unsnoc u2
              have u1' : H1 G = some (.lst (us0.map V.ref ++ [.ref t])) := by rw [List.map_append] at u1; exact u1
              by_cases hv : v = u
              · subst hv
                obtain ⟨gs0, g, rfl⟩ : ∃ gs0 g, gs = gs0 ++ [g] := by
                  rcases List.eq_nil_or_concat gs with rfl | ⟨gs0, g, e⟩
                  · have := k1.se.len
                    simp at this
                  · exact ⟨gs0, g, by rw [e, List.concat_eq_append]⟩
                refine .inr (.inr ⟨lg0, a0, gs0, g, rfl, rfl, fun mt H2 o2 se2 m2 => ?_⟩)
                have sp1 := k1.se.sep
                obtain ⟨ds0, dl, rfl, p3, _⟩ := paired_unsnoc d2
                obtain ⟨ds00, dk, rfl, p30, lk', hdk, dik, wfk⟩ := paired_unsnoc p3
                obtain ⟨po2, _, _, tb2, x2⟩ := k1.act o2
                have k2 : H2 L = some (.lst ((ds00 ++ [dk]).map V.ref ++ [.ref dl])) := by
                  have := sp1.refs o2 d1
                  rw [List.map_append] at this
                  exact this
                have k3 := sp1.tabs o2 p3
                have k4' : H2 G = some (.lst (us0.map V.ref ++ [.ref t])) := by
                  have := sp1.refs o2 u1
                  rw [List.map_append] at this
                  exact this
                have k5 := sp1.tups o2 pu
                have ket := sp1.tup o2 et
                have hdk2 := sp1.dk o2 hdk
                refine ⟨_, rfl, nil_le, ?_⟩
                refine fun e0 n_e0 => ?_
                generalize g_e0 : L2.upd _ e0 _ = H3
                obtain ⟨s_H3, e_e0⟩ := U.upd_facts g_e0 n_e0
                clear g_e0
                refine ⟨G, e0, _, rfl, rfl, SqL.of (s_H3 _ _ k4'), SqL.of e_e0, _, rfl, ?_⟩
                rw [show (us0.map V.ref ++ [V.ref t]).isEmpty = false from by simp]
                refine iteF ?_
                refine ⟨_, rfl, 1, rfl, G, _, -1, .ref t, rfl, rfl, SqL.of (s_H3 _ _ k4'), atI_last _ _, t, _, 0, .str v, rfl, rfl, SqT.of (s_H3 _ _ ket), rfl, _, rfl, rfl, _, rfl, ?_⟩
                rw [decide_eq_true (rfl : V.str v = V.str v)]
                refine iteF ?_
                refine ⟨_, rfl, 1, rfl, -1, rfl, L, _, rfl, SqL.of (s_H3 _ _ k2), ?_⟩
                rw [(cut_last _ _).1]
                refine fun Ln n_Ln => ?_
                generalize g_Ln : L2.upd _ Ln _ = H4
                obtain ⟨s_H4, e_Ln⟩ := U.upd_facts g_Ln n_Ln
                clear g_Ln
                refine ⟨_, rfl, 1, rfl, -1, rfl, G, _, rfl, SqL.of (s_H4 _ _ (s_H3 _ _ k4')), ?_⟩
                rw [(cut_last _ _).1]
                refine fun Gn n_Gn => ?_
                generalize g_Gn : L2.upd _ Gn _ = H5
                obtain ⟨s_H5, e_Gn⟩ := U.upd_facts g_Gn n_Gn
                clear g_Gn
                refine ⟨_, _, rfl, ?_⟩
                have s25 : Same H2 H5 := (s_H3.trans s_H4).trans s_H5
                have eLn : H5 Ln = some (.lst (ds00.map V.ref ++ [.ref dk])) := by have := s_H5 _ _ e_Ln; rw [List.map_append] at this; exact this
                have llk := di_lenN dik wfk
                refine ⟨_, rfl, _, rfl, 1, rfl, Ln, _, -1, .ref dk, rfl, rfl, SqL.of eLn, atI_last _ _, fun mq dxq nmq ndxq neq => init_of (s25 _ _ hdk2) dik wfk n1 (by omega) (by omega) nmq ndxq neq fun H6 s6 mm2 => ⟨rfl, ?_⟩⟩
                have s26 := s25.trans s6
                refine fin _ _ ⟨lg0, gs0, g, Ln, Gn, _, _, _, rfl, ⟨po2.same s26, se2.same s26, ⟨ds00 ++ [dk], s6 _ _ (s_H5 _ _ e_Ln), k3.same s26⟩, ⟨us0, s6 _ _ e_Gn, k5.map fun _ _ _ e => s26 _ _ e⟩, tb2.ext s26, x2.trans (ExtN.of s26), k1.old, fun g' hg => k1.okf g' (List.mem_append_left _ hg)⟩, by simp at hli; omega, .inl ⟨_, _, g, rfl, rfl, m2.same s26, mm2⟩⟩
              · refine .inr (.inl ⟨lg0, v, a0, rfl, hv, fun dd H2 s2 hd => ⟨dd, rfl, v, upd_same, .inr ⟨rfl, fun pz H3 s3 np3 e3 => ?_⟩⟩⟩)
                have s13 : Same H1 H3 := (s2.trans (Same.new hd)).trans s3
                refine ⟨_, rfl, nil_le, ?_⟩
                refine fun e0 n_e0 => ?_
                generalize g_e0 : L2.upd _ e0 _ = H4
                obtain ⟨s_H4, e_e0⟩ := U.upd_facts g_e0 n_e0
                clear g_e0
                have s14 := s13.trans s_H4
                refine ⟨G, e0, _, rfl, rfl, SqL.of (s14 _ _ u1'), SqL.of e_e0, _, rfl, ?_⟩
                rw [show (us0.map V.ref ++ [V.ref t]).isEmpty = false from by simp]
                refine iteF ?_
                refine ⟨_, rfl, 1, rfl, G, _, -1, .ref t, rfl, rfl, SqL.of (s14 _ _ u1'), atI_last _ _, t, _, 0, .str v, rfl, rfl, SqT.of (s14 _ _ et), rfl, _, rfl, rfl, _, rfl, ?_⟩
                rw [decide_eq_false (show ¬ (V.str v = V.str u) from fun z => hv (V.str.inj z))]
                refine iteT ?_
                refine ⟨_, rfl, 1, rfl, G, _, -1, .ref t, rfl, rfl, SqL.of (s14 _ _ u1'), atI_last _ _, t, _, 0, .str v, rfl, rfl, SqT.of (s14 _ _ et), rfl, two_le, ?_⟩
                refine fun e1 n_e1 => ?_
                generalize g_e1 : L2.upd _ e1 _ = H5
                obtain ⟨s_H5, e_e1⟩ := U.upd_facts g_e1 n_e1
                clear g_e1
                exact fin _ _ ⟨_, gs, f, L, G, _, _, _, rfl, k1.same (s14.trans s_H5), by omega, mtch (by unfold OkS; decide +kernel) (k1.se.ok _ (List.mem_append_right _ (List.mem_singleton.mpr rfl))).1 (s_H5 _ _ (s_H4 _ _ e3)) e_e1⟩
          · -- an action
            obtain ⟨ds, d1, d2⟩ := id kd.ta
            obtain ⟨ds0, dl, rfl, p3, ll, hdl, dil, wfl⟩ := paired_unsnoc d2
            have d1' : Hd L = some (.lst (ds0.map V.ref ++ [.ref dl])) := by rw [List.map_append] at d1; exact d1
            refine ⟨_, rfl, _, rfl, _, rfl, 1, rfl, L, _, -1, .ref dl, rfl, rfl, SqL.of d1', atI_last _ _, p, dl, n, ll, f, rfl, kd.po, hdl, dil, wfl, n1, n6, fun R wn it dl2 l2 f2 He hw poe oe eR pl hdl2 dil2 wfl2 => ?_⟩
            have ke := kd.draw poe oe
            have ll2 := di_lenN dil2 wfl2
            refine ⟨_, rfl, _, rfl, _, rfl, _, rfl, s, R, dl2, u, n, l, lg, gs, f, f2, wn, it, rfl, ke.se, eR, pl, hw, hn, hok, by omega, n1, n6, wfl2, fun hk m' Hf of sef mf => ?_, fun nk pz Hf sf ez => ?_⟩
            · obtain ⟨pof, ⟨dsf, df1, df2⟩, ⟨usf, uf1, uf2⟩, tbf, xf⟩ := ke.act of
              obtain ⟨dx9, m9, tl9, te9, ts9, ms9, h19, _⟩ := id ke.se.ob
              have eRf := of _ _ (ne_of eR h19 (by intro w; cases w)) eR
              have hdf := ke.se.sep.dk of hdl2
              refine ⟨_, rfl, _, rfl, R, _, 2, .ref dl2, rfl, rfl, SqL.of eRf, rfl, fun mq dxq nmq ndxq neq => init_of hdf dil2 wfl2 n1 (by omega) (by omega) nmq ndxq neq fun Hg sg mm => ⟨rfl, _, _, rfl, ?_⟩⟩
              have eRg := sg _ _ eRf
              have hdg := sg _ _ hdf
              have lent := len_tab dil2 wfl2
              refine ⟨_, rfl, R, _, 2, .ref dl2, rfl, rfl, SqL.of eRg, rfl, dl2, _, rfl, hdg, _, rfl, _, _, rfl, rfl, _, rfl, ?_⟩
              rw [kvI_length, lent]
              refine ifD (fun z => ?_) (fun _ => ?_)
              · have : l ≤ ((tab n f2).length : Nat) := hk
                omega
              refine ⟨_, rfl, _, rfl, R, _, 2, .ref dl2, rfl, rfl, SqL.of eRg, rfl, one_le, ?_⟩
              refine fun q1 n_q1 => ?_
              generalize g_q1 : L2.upd _ q1 _ = H5
              obtain ⟨s_H5, e_q1⟩ := U.upd_facts g_q1 n_q1
              clear g_q1
              have lds := paired_len df2
              have lus := paired_len uf2
              have hlen := ke.se.len
              simp only [List.length_append, List.length_cons, List.length_nil] at lds
              refine ⟨L, q1, _, _, rfl, rfl, s_H5 _ _ (sg _ _ df1), e_q1, le_line (by simp only [List.length_append, List.length_map, List.length_cons, List.length_nil]; omega), ?_⟩
              refine fun Ln n_Ln => ?_
              generalize g_Ln : L2.upd _ Ln _ = H6
              obtain ⟨s_H6, e_Ln⟩ := U.upd_facts g_Ln n_Ln
              clear g_Ln
              refine ⟨_, rfl, _, rfl, three_le, ?_⟩
              refine fun qa n_qa => ?_
              generalize g_qa : L2.upd _ qa _ = H7
              obtain ⟨s_H7, e_qa⟩ := U.upd_facts g_qa n_qa
              clear g_qa
              have s57 : Same Hg H7 := (s_H5.trans s_H6).trans s_H7
              refine ⟨_, rfl, R, _, 0, .int (wn : Nat), rfl, rfl, SqL.of (s57 _ _ eRg), rfl, qa, _, _, _, rfl, rfl, SqL.of e_qa, act_at hw, two_le, ?_⟩
              refine fun qb n_qb => ?_
              generalize g_qb : L2.upd _ qb _ = H8
              obtain ⟨s_H8, e_qb⟩ := U.upd_facts g_qb n_qb
              clear g_qb
              refine ⟨one_le, ?_⟩
              refine fun qc n_qc => ?_
              generalize g_qc : L2.upd _ qc _ = H9
              obtain ⟨s_H9, e_qc⟩ := U.upd_facts g_qc n_qc
              clear g_qc
              have s79 : Same H7 H9 := s_H8.trans s_H9
              refine ⟨G, qc, _, _, rfl, rfl, s79 _ _ (s57 _ _ (sg _ _ uf1)), e_qc, le_line (by simp only [List.length_append, List.length_map, List.length_cons, List.length_nil]; omega), ?_⟩
              refine fun Gn n_Gn => ?_
              generalize g_Gn : L2.upd _ Gn _ = Hx
              obtain ⟨s_Hx, e_Gn⟩ := U.upd_facts g_Gn n_Gn
              clear g_Gn
              have sgx : Same Hg Hx := (s57.trans s79).trans s_Hx
              have sfx' : Same Hf Hx := sg.trans sgx
              have eLn : Hx Ln = some (.lst ((dsf ++ [dl2]).map V.ref)) := by
                rw [s_Hx _ _ (s79 _ _ (s_H7 _ _ e_Ln)), List.map_append]; rfl
              have eGn : Hx Gn = some (.lst ((usf ++ [qb]).map V.ref)) := by rw [e_Gn, List.map_append]; rfl
              have eqb : Hx qb = some (.tup [.str u, .str (actN wn)]) := s_Hx _ _ (s_H9 _ _ e_qb)
              refine ⟨_, _, rfl, fin _ _ ⟨_, _, f2, Ln, Gn, _, _, _, rfl, ⟨pof.same sfx', sef.same sfx', ⟨dsf ++ [dl2], eLn, TabsAt.snoc' (df2.same sfx') (sgx _ _ hdg) dil2 wfl2⟩, ⟨usf ++ [qb], eGn, paired_snoc (uf2.map fun _ _ _ e => sfx' _ _ e) eqb⟩, tbf.ext sfx', xf.trans (ExtN.of sfx'), ke.old, fun g hg => ?_⟩, by simp; omega, .inl ⟨m', mq, f2, rfl, rfl, mf.same sfx', mm.same sgx⟩⟩⟩
              rcases List.mem_append.mp hg with hg | hg
              · exact ke.okf g hg
              · rw [List.mem_singleton] at hg
                subst hg
                exact hk
            · have eRf := sf _ _ eR
              have hdf := sf _ _ hdl2
              have kf := ke.same sf
              refine ⟨_, rfl, _, rfl, R, _, 2, .ref dl2, rfl, rfl, SqL.of eRf, rfl, fun mq dxq nmq ndxq neq => init_of hdf dil2 wfl2 n1 (by omega) (by omega) nmq ndxq neq fun Hg sg mm => ⟨rfl, _, _, rfl, ?_⟩⟩
              have eRg := sg _ _ eRf
              have hdg := sg _ _ hdf
              have lent := len_tab dil2 wfl2
              refine ⟨_, rfl, R, _, 2, .ref dl2, rfl, rfl, SqL.of eRg, rfl, dl2, _, rfl, hdg, _, rfl, _, _, rfl, rfl, _, rfl, ?_⟩
              rw [kvI_length, lent]
              refine ifD (fun _ => ?_) (fun z => ?_)
              rotate_left
              · exact absurd (show l ≤ ((tab n f2).length : Nat) by omega) nk
              refine ⟨_, rfl, R, _, 2, .ref dl2, rfl, rfl, SqL.of eRg, rfl, dl2, _, rfl, hdg, three_le, ?_⟩
              rw [kvI_length, lent]
              refine fun e1 n_e1 => ?_
              generalize g_e1 : L2.upd _ e1 _ = H5
              obtain ⟨s_H5, e_e1⟩ := U.upd_facts g_e1 n_e1
              clear g_e1
              have dfew : ∀ {Hz : Hp} {z : Addr}, Hz z = some (.lst [.str "few", .int ((tab n f2).length : Nat), .bl true]) → Dp K Hz (.ref z) (.list [.str "few", .int ((tab n f2).length : Nat), .bool true]) := fun e => .lst (SqL.of e) (.cons (.str _) (.cons (.int _) (.cons (.bl _) .nil)))
              have shf : SeqAt.shaped (.list [.str "few", .int ((tab n f2).length : Nat), .bool true]) = true := shaped_all fun d hd => by
                simp only [List.mem_cons, List.not_mem_nil, or_false] at hd
                rcases hd with rfl | rfl | rfl
                · exact ⟨by decide +kernel, by show 0 ≤ 60; decide⟩
                · exact ⟨rfl, by show 0 ≤ 60; decide⟩
                · exact ⟨rfl, by show 0 ≤ 60; decide⟩
              exact fin _ _ ⟨lg, gs, f, L, G, _, _, _, rfl, kf.same (sg.trans s_H5), by omega, .inr ⟨pz, e1, _, rfl, rfl, dfew ((sg.trans s_H5) _ _ ez), dfew e_e1, shf⟩⟩
        · rintro _ Hd ⟨lg', gs', f', L', G', x, y, w12', rfl, kd, hld, hm⟩
          obtain ⟨dx, m, tl, te, ts, ms, h1, _⟩ := id kd.se.ob
          obtain ⟨ds, d1, d2⟩ := id kd.ta
          obtain ⟨us, u1, u2⟩ := id kd.lo
          have hgl := kd.se.len
          have lds := paired_len d2
          have lus := paired_len u2
          simp only [List.length_append, List.length_cons, List.length_nil] at lds
          obtain ⟨ds0, dl, eds, p3, ll, hdl, dil, wfl⟩ := paired_unsnoc d2
          have d1' : Hd L' = some (.lst (ds0.map V.ref ++ [.ref dl])) := by rw [eds, List.map_append] at d1; exact d1
          have lll := di_lenN dil wfl
          refine ⟨_, rfl, _, rfl, match_ne hm ⟨_, rfl, iteF ?_⟩⟩
          refine ⟨_, rfl, s, dx, _, rfl, h1, some l, s, n, lg', gs', f', rfl, kd.se, fun m' hm' => ⟨_, rfl, _, rfl, 1, rfl, L', _, -1, .ref dl, rfl, rfl, SqL.of d1', atI_last _ _, fun mq dxq nmq ndxq neq => init_of hdl dil wfl n1 (by omega) (by omega) nmq ndxq neq fun H1 s1 mm => ⟨rfl, ?_⟩⟩⟩
          obtain ⟨ex1, fx1, em1⟩ := at_map (hm'.same s1)
          obtain ⟨ex2, fx2, em2⟩ := at_map mm
          refine ⟨m', ex1, fx1, mq, ex2, fx2, rfl, rfl, em1, em2, m', mq, _, _, _, _, rfl, hm'.same s1, mm, _, rfl, _, rfl, ?_⟩
          rw [eqB_self mm.wf]
          refine iteF ?_
          refine ⟨_, rfl, s, dx, _, rfl, s1 _ _ h1, rfl, some l, s, n, lg', gs', f', rfl, kd.se.same s1, fun r ts' n_r pr => ?_⟩
          generalize g_r : L2.upd _ r _ = H2
          obtain ⟨s_H2, e_r⟩ := U.upd_facts g_r n_r
          clear g_r
          have s12 := s1.trans s_H2
          obtain ⟨d, e, a1, a2, a3, a4, a5⟩ := log_eq (K := K) e_r (pr.map fun _ _ _ z => s_H2 _ _ z) (s12 _ _ u1) (u2.map fun _ _ _ z => s12 _ _ z) kd.se.ok
          refine ⟨_, rfl, d, e, a1, a2, a3, a4, _, rfl, ?_⟩
          rw [a5]
          refine iteF ?_
          have h1b := s12 _ _ h1
          have seb := kd.se.same s12
          have hge : l ≤ ((tab n f').length : Nat) := kd.okf f' (List.mem_append_right _ (List.mem_singleton.mpr rfl))
          have htl := tab_len n f'
          refine ⟨_, rfl, s, dx, _, rfl, h1b, s, n, l, lg', gs', f', rfl, seb, _, rfl, rfl, _, rfl, ?_⟩
          rw [decide_eq_true rfl]
          refine iteF ?_
          refine ⟨_, rfl, s, dx, _, rfl, h1b, some l, s, n, lg', gs', f', rfl, seb, fun m2 hm2 => ?_⟩
          obtain ⟨ex3, fx3, em3⟩ := at_map hm2
          have elen : lenF n f' = ((tab n f').length : Nat) := rfl
          refine ⟨m2, ex3, fx3, rfl, em3, m2, n, f', rfl, hm2, _, rfl, by omega, by omega, _, rfl, _, _, rfl, rfl, _, rfl, ?_⟩
          refine ifD (fun z => by exfalso; omega) (fun _ => ?_)
          refine ⟨_, rfl, s, dx, _, rfl, h1b, some l, s, n, lg', gs', f', rfl, seb, _, rfl, by omega, by omega, _, rfl, G', _, rfl, .inl (SqL.of (s12 _ _ u1)), rfl, _, rfl, ?_⟩
          rw [List.length_map, lus, decide_eq_true rfl]
          refine iteF ?_
          dsimp only [tNext, tSeq, tIfS, tTest, tOp, tCons, tNil, tC]
          refine lc_rangeS (n := ds.length) (H := H2) (MapK T.C_Map n (gs' ++ [f'])) MapK.stab MapK.mono (fun R rr => ⟨_, rfl, L', _, rfl, .inl (SqL.of (s12 _ _ d1)), _, rfl, by rw [List.length_map]; omega, by rw [List.length_map]; omega, ?_⟩) (fun _ => rfl) (small1000 (by omega)) (fun kk hkk H3 s3 R rr => ?_) (fun D1 bs1 H3 s3 eD1 hl1 hb1 => ?_)
          · rw [List.length_map]
            exact rr
          · obtain ⟨g, eg⟩ : ∃ g, (gs' ++ [f'])[kk]? = some g := ⟨_, List.getElem?_eq_getElem (by rw [List.length_append, List.length_singleton]; omega)⟩
            have e0 : (0 + (kk : Nat) : Int) = (kk : Nat) := by omega
            exact ⟨_, rfl, s, dx, _, rfl, s3 _ _ h1b, rfl, _, rfl, some l, s, n, lg', gs', f', kk, g, by rw [Int.zero_add], seb.same s3, eg, fun mz Hz sz hz => rr mz Hz sz ⟨g, eg, hz⟩⟩
          refine lc_listS (a := L') (xs := ds.map V.ref) (H := H3) (MapK T.C_Map n (gs' ++ [f'])) MapK.stab MapK.mono (fun R rr => ⟨_, rfl, rr⟩) ((s12.trans s3) _ _ d1) (fun _ => rfl) (small1000 (by rw [List.length_map]; omega)) (fun kk xk ek H4 s4 R rr => ?_) (fun D2 bs2 H4 s4 eD2 hl2 hb2 => ?_)
          · rw [List.getElem?_map] at ek
            cases ekd : ds[kk]? with
            | none => rw [ekd] at ek; cases ek
            | some dk =>
              rw [ekd] at ek
              cases ek
              obtain ⟨lk', g, eg, hdk, dik, wfk⟩ := TabsAt.get d2 ekd
              have llk := di_lenN dik wfk
              exact ⟨_, rfl, _, rfl, fun mz dz nz ndz nez => init_of (((s12.trans s3).trans s4) _ _ hdk) dik wfk n1 (by omega) (by omega) nz ndz nez fun Hz sz hz => ⟨rfl, rr mz Hz sz ⟨g, eg, hz⟩⟩⟩
          rw [List.length_map] at hl2
          refine ⟨⟨D1, D2, _, _, rfl, rfl, s4 _ _ eD1, eD2, by rw [List.length_map, List.length_map, hl1, hl2], fun j xj yj e1 e2 => ?_⟩, fun H5 s5 => ⟨_, rfl, iteF ⟨lg', gs', f', L', G', _, _, _, _, _, _, _, rfl, kd.same (((s12.trans s3).trans s4).trans s5), hld⟩⟩⟩
          rw [List.getElem?_map] at e1 e2
          cases f1 : bs1[j]? with
          | none => rw [f1] at e1; cases e1
          | some b1 =>
            rw [f1] at e1
            cases e1
            cases f2 : bs2[j]? with
            | none => rw [f2] at e2; cases e2
            | some b2 =>
              rw [f2] at e2
              cases e2
              obtain ⟨g1, eg1, m1⟩ := hb1 j b1 f1
              obtain ⟨g2, eg2, m2'⟩ := hb2 j b2 f2
              rw [eg1] at eg2
              cases eg2
              obtain ⟨ex4, fx4, em4⟩ := at_map (m1.same s4)
              obtain ⟨ex5, fx5, em5⟩ := at_map m2'
              exact ⟨b1, b2, _, _, _, _, rfl, rfl, em4, em5, n, g1, m1.same s4, m2'⟩
      · rintro σ Ha ⟨lg, gs, f, L, G, w8, w9, w10, w11, w12, w13, w14, rfl, ka, hli⟩
        exact ⟨_, _, _, _, _, _, _, _, _, _, _, _, _, _, rfl, ka.ex, ka.tb⟩
    · rintro σ H' ⟨v1, v2, v3, v4, v5, v6, v7, v8, v9, v10, v11, v12, v13, v14, rfl, x1, t1⟩
      exact q H'
end
end My
namespace My
open PySem PySem.W PySem.Calls PyProof.Rows
def withTabs (K : Params → Frag) (ts : List Addr) : Params → Frag := fun P => K P ++ ts.map fun a => (a, tabObj #[])
theorem in_left {K : Params → Frag} {as ts : List Addr} {e : ∀ P, as = (withTabs K ts P).map (·.1)} {w : World} {h : Heap} (Y : (kHook (withTabs K ts) as e).says w h) : (K w.params).In h := fun a o q => Y a o (by
  unfold withTabs
  rw [List.lookup_append, q]
  rfl)
theorem in_right {K : Params → Frag} {as ts : List Addr} {e : ∀ P, as = (withTabs K ts P).map (·.1)} {w : World} {h : Heap} (Y : (kHook (withTabs K ts) as e).says w h) (d : (ts.all fun a => ((K w.params).lookup a).isNone) = true) : ∀ P ∈ ts, h.get? P = some (tabObj #[]) := fun P hP => Y P _ (by
  unfold withTabs
  rw [List.lookup_append, Option.isNone_iff_eq_none.mp (List.all_eq_true.mp d P hP)]
  show (ts.map fun a => (a, tabObj #[])).lookup P = _
  clear Y d e
  induction ts with
  | nil => cases hP
  | cons t r ih =>
    show (match P == t with | true => some (tabObj #[]) | false => (r.map fun a => (a, tabObj #[])).lookup P) = _
    cases z : P == t with
    | true => rfl
    | false =>
      rcases List.mem_cons.mp hP with rfl | hP
      · rw [beq_self_eq_true] at z; cases z
      · exact ih hP)
end My
theorem My.use_txt {K : PySem.W.Frag} {h : PySem.Heap} {mg : PySem.Str → Option PySem.Value} {G : Prop} (_ : K.In h) (TT : Nonempty (My.Txt K mg)) (k : My.Txt K mg → G) : G := by
  obtain ⟨T⟩ := TT
  exact k T
local macro_rules | `(tactic| o_headL ($h:ident $K $as $e)) => `(tactic| o_headL ((PySem.W.kHook (My.withTabs $K [835]) ($as ++ [835]) (fun _ => by kernel_rfl))))
open PySem PySem.W PyProof.Rows
set_option maxRecDepth 100000 in
set_option maxHeartbeats 0 in
theorem PySem.Challenge.cw_chainmaps_k73_keeping_sessions_holds : PySem.Challenge.rw_chainmaps_k73_keeping_sessions.Holds := by
  w_on; o_law; k_headL; (case hw => w_witness2)
  k_fill
  refine U.walkT (l := PySem.Challenge.rw_chainmaps_k73_keeping_sessions) (n := 63) (k := 40) rfl (by decide) rfl ⟨rfl, by decide, by decide⟩ ?F
  case F =>
    intro w mg fa h Y G hmg
    have KX := My.in_left Y
    have TX := My.in_right Y (by kernel_rfl)
    refine My.use_txt (mg := mg) KX ?TT (fun T => ?rest)
    case TT =>
      refine' My.mk_txt KX G ?a_is_integer ?l_is_integer ?c_is_integer ?k_is_integer ?a_in_range ?l_in_range ?c_in_range ?k_in_range ?a_check_size ?l_check_size ?c_check_size ?k_check_size ?a_are_arrows ?l_are_arrows ?c_are_arrows ?k_are_arrows ?a_common_size ?l_common_size ?c_common_size ?k_common_size ?a_row_from ?l_row_from ?c_row_from ?k_row_from ?a_moved ?l_moved ?c_moved ?k_moved ?a_check_map ?l_check_map ?c_check_map ?k_check_map ?a_check_maps ?l_check_maps ?c_check_maps ?k_check_maps ?a_is_step ?l_is_step ?c_is_step ?k_is_step ?a_first_invalid ?l_first_invalid ?c_first_invalid ?k_first_invalid ?a_after_list ?l_after_list ?c_after_list ?k_after_list ?a_is_name ?l_is_name ?c_is_name ?k_is_name ?a_check_user ?l_check_user ?c_check_user ?k_check_user ?a_l_hand ?l_l_hand ?c_l_hand ?k_l_hand ?a_l_draw ?l_l_draw ?c_l_draw ?k_l_draw ?a_l_arrows ?l_l_arrows ?c_l_arrows ?k_l_arrows ?a_l_product ?l_l_product ?c_l_product ?k_l_product ?a_l_full ?l_l_full ?c_l_full ?k_l_full ?a_l_inverse ?l_l_inverse ?c_l_inverse ?k_l_inverse ?a_l_power ?l_l_power ?c_l_power ?k_l_power ?a_l_step ?l_l_step ?c_l_step ?k_l_step ?a_l_stepped ?l_l_stepped ?c_l_stepped ?k_l_stepped ?a_l_caught ?l_l_caught ?c_l_caught ?k_l_caught ?a_l_planned ?l_l_planned ?c_l_planned ?k_l_planned ?a_l_done ?l_l_done ?c_l_done ?k_l_done ?a_law ?l_law ?cd_law ?k_law ?tm_law ?hd_law ?nt_law ?a_Map ?pg_Map ?hd_Map ?po_Map ?sa_Map ?sf_Map ?ca_Map ?cn_Map ?ct_Map ?cm_Map ?kc_Map ?kit_int_Map ?kit_bool_Map ?kit_str_Map ?kit_tuple_Map ?kit_list_Map ?kn_NoneType_Map ?nf_NoneType_Map ?kn_int_Map ?nf_int_Map ?kn_bool_Map ?nf_bool_Map ?kn_str_Map ?nf_str_Map ?kn_list_Map ?nf_list_Map ?kn_dict_Map ?nf_dict_Map ?kn_tuple_Map ?nf_tuple_Map ?self_Map ?na_own_size_Map ?na_own_arrows_Map ?ne_Map ?m_Map__init ?i_Map__init ?l_Map__init ?c_Map__init ?k_Map__init ?mk_Map ?rd_Map ?ga_Map ?at_Map_identity ?rc_Map_identity ?fi_Map_identity ?l_Map_identity ?c_Map_identity ?k_Map_identity ?m_Map_size ?s_get_Map_size ?tk_Map_size ?rc_Map_size ?l_Map_size ?c_Map_size ?k_Map_size ?m_Map_arrows ?s_get_Map_arrows ?tk_Map_arrows ?rc_Map_arrows ?l_Map_arrows ?c_Map_arrows ?k_Map_arrows ?m_Map__mul ?i_Map__mul ?l_Map__mul ?c_Map__mul ?k_Map__mul ?m_Map__invert ?i_Map__invert ?l_Map__invert ?c_Map__invert ?k_Map__invert ?m_Map_power ?i_Map_power ?l_Map_power ?c_Map_power ?k_Map_power ?m_Map__eq ?i_Map__eq ?l_Map__eq ?c_Map__eq ?k_Map__eq ?m_Map__len ?i_Map__len ?l_Map__len ?c_Map__len ?k_Map__len ?a_Session ?pg_Session ?hd_Session ?po_Session ?sa_Session ?sf_Session ?ca_Session ?cn_Session ?ct_Session ?cm_Session ?kc_Session ?kit_int_Session ?kit_bool_Session ?self_Session ?na_own_present_Session ?na_own_log_Session ?na_own_earlier_Session ?m_Session__init ?i_Session__init ?l_Session__init ?c_Session__init ?k_Session__init ?mk_Session ?m_Session_present ?s_get_Session_present ?tk_Session_present ?rc_Session_present ?l_Session_present ?c_Session_present ?k_Session_present ?m_Session_log ?i_Session_log ?l_Session_log ?c_Session_log ?k_Session_log ?m_Session_check_next ?i_Session_check_next ?l_Session_check_next ?c_Session_check_next ?k_Session_check_next ?m_Session_change_to ?i_Session_change_to ?l_Session_change_to ?c_Session_change_to ?k_Session_change_to ?m_Session_apply ?i_Session_apply ?l_Session_apply ?c_Session_apply ?k_Session_apply ?m_Session_raise_to ?i_Session_raise_to ?l_Session_raise_to ?c_Session_raise_to ?k_Session_raise_to ?m_Session_do_steps ?i_Session_do_steps ?l_Session_do_steps ?c_Session_do_steps ?k_Session_do_steps ?m_Session_undo ?i_Session_undo ?l_Session_undo ?c_Session_undo ?k_Session_undo ?m_Session_at ?i_Session_at ?l_Session_at ?c_Session_at ?k_Session_at ?m_Session__len ?i_Session__len ?l_Session__len ?c_Session__len ?k_Session__len ?a_KeepingSession ?pg_KeepingSession ?hd_KeepingSession ?po_KeepingSession ?sa_KeepingSession ?sf_KeepingSession ?ca_KeepingSession ?cn_KeepingSession ?ct_KeepingSession ?cm_KeepingSession ?kc_KeepingSession ?kit_int_KeepingSession ?kit_bool_KeepingSession ?self_KeepingSession ?na_own_present_KeepingSession ?na_own_log_KeepingSession ?na_own_earlier_KeepingSession ?na_own_least_KeepingSession ?ih_Session_present_KeepingSession ?ih_Session_log_KeepingSession ?ih_Session_change_to_KeepingSession ?ih_Session_apply_KeepingSession ?ih_Session_raise_to_KeepingSession ?ih_Session_do_steps_KeepingSession ?ih_Session_undo_KeepingSession ?ih_Session_at_KeepingSession ?ih_Session__len_KeepingSession ?su_Session__init_KeepingSession ?kq_Session__init_KeepingSession ?st_Session__init_KeepingSession ?sn_Session__init_KeepingSession ?su_Session_check_next_KeepingSession ?kq_Session_check_next_KeepingSession ?st_Session_check_next_KeepingSession ?sn_Session_check_next_KeepingSession ?m_KeepingSession__init ?i_KeepingSession__init ?l_KeepingSession__init ?cd_KeepingSession__init ?k_KeepingSession__init ?co_KeepingSession__init ?fl_KeepingSession__init ?ce_KeepingSession__init ?kd_KeepingSession__init ?ns_KeepingSession__init ?no_KeepingSession__init ?mk_KeepingSession ?m_KeepingSession_least ?s_get_KeepingSession_least ?tk_KeepingSession_least ?rc_KeepingSession_least ?l_KeepingSession_least ?c_KeepingSession_least ?k_KeepingSession_least ?m_KeepingSession_check_next ?i_KeepingSession_check_next ?l_KeepingSession_check_next ?cd_KeepingSession_check_next ?k_KeepingSession_check_next ?co_KeepingSession_check_next ?fl_KeepingSession_check_next ?ce_KeepingSession_check_next ?kd_KeepingSession_check_next ?ns_KeepingSession_check_next ?no_KeepingSession_check_next ?a_NothingToUndo ?xl_NothingToUndo ?sa_NothingToUndo ?ex_NothingToUndo ?ty_NothingToUndo ?kc_NothingToUndo ?hd_NothingToUndo ?ga_NothingToUndo ?gg_NothingToUndo ?ss_NothingToUndo ?ca_NothingToUndo ?cn_NothingToUndo ?ct_NothingToUndo ?cm_NothingToUndo ?kit_LookupError_NothingToUndo ?na_user_NothingToUndo ?m_NothingToUndo__init ?ti_NothingToUndo__init ?l_NothingToUndo__init ?c_NothingToUndo__init ?k_NothingToUndo__init ?a_NotLast ?xl_NotLast ?sa_NotLast ?ex_NotLast ?ty_NotLast ?kc_NotLast ?hd_NotLast ?ga_NotLast ?gg_NotLast ?ss_NotLast ?ca_NotLast ?cn_NotLast ?ct_NotLast ?cm_NotLast ?kit_RuntimeError_NotLast ?te_NothingToUndo_NotLast ?na_user_NotLast ?m_NotLast__init ?ti_NotLast__init ?l_NotLast__init ?c_NotLast__init ?k_NotLast__init ?a_TooFew ?xl_TooFew ?sa_TooFew ?ex_TooFew ?ty_TooFew ?kc_TooFew ?hd_TooFew ?ga_TooFew ?gg_TooFew ?ss_TooFew ?ca_TooFew ?cn_TooFew ?ct_TooFew ?cm_TooFew ?kit_RuntimeError_TooFew ?na_number_TooFew ?m_TooFew__init ?ti_TooFew__init ?l_TooFew__init ?c_TooFew__init ?k_TooFew__init ?a_InvalidNumber ?xl_InvalidNumber ?sa_InvalidNumber ?ex_InvalidNumber ?ty_InvalidNumber ?kc_InvalidNumber ?hd_InvalidNumber ?ga_InvalidNumber ?gg_InvalidNumber ?ss_InvalidNumber ?ca_InvalidNumber ?cn_InvalidNumber ?ct_InvalidNumber ?cm_InvalidNumber ?kit_ValueError_InvalidNumber ?na_value_InvalidNumber ?m_InvalidNumber__init ?ti_InvalidNumber__init ?l_InvalidNumber__init ?c_InvalidNumber__init ?k_InvalidNumber__init ?a_InvalidMap ?xl_InvalidMap ?sa_InvalidMap ?ex_InvalidMap ?ty_InvalidMap ?kc_InvalidMap ?hd_InvalidMap ?ga_InvalidMap ?gg_InvalidMap ?ss_InvalidMap ?ca_InvalidMap ?cn_InvalidMap ?ct_InvalidMap ?cm_InvalidMap ?kit_ValueError_InvalidMap ?na_part_InvalidMap ?m_InvalidMap__init ?ti_InvalidMap__init ?l_InvalidMap__init ?c_InvalidMap__init ?k_InvalidMap__init ?a_SizeMismatch ?xl_SizeMismatch ?sa_SizeMismatch ?ex_SizeMismatch ?ty_SizeMismatch ?kc_SizeMismatch ?hd_SizeMismatch ?ga_SizeMismatch ?gg_SizeMismatch ?ss_SizeMismatch ?ca_SizeMismatch ?cn_SizeMismatch ?ct_SizeMismatch ?cm_SizeMismatch ?kit_ValueError_SizeMismatch ?na_first_SizeMismatch ?na_second_SizeMismatch ?m_SizeMismatch__init ?ti_SizeMismatch__init ?l_SizeMismatch__init ?c_SizeMismatch__init ?k_SizeMismatch__init ?z_isinstance ?z_int ?z_bool ?z_dict ?z_len ?z_range ?z_list ?z_max ?z_min ?z_repr ?z_abs ?z_str ?z_tuple ?z_all ?z_enumerate ?z_RuntimeError ?v_MAX_SIZE ?v_MAX_NAME
      (case a_is_integer => as_aux_lemma => k_is)
      (case l_is_integer => as_aux_lemma => k_is)
      (case c_is_integer => as_aux_lemma => k_is)
      (case k_is_integer => as_aux_lemma => k_is)
      (case a_in_range => as_aux_lemma => k_is)
      (case l_in_range => as_aux_lemma => k_is)
      (case c_in_range => as_aux_lemma => k_is)
      (case k_in_range => as_aux_lemma => k_is)
      (case a_check_size => as_aux_lemma => k_is)
      (case l_check_size => as_aux_lemma => k_is)
      (case c_check_size => as_aux_lemma => k_is)
      (case k_check_size => as_aux_lemma => k_is)
      (case a_are_arrows => as_aux_lemma => k_is)
      (case l_are_arrows => as_aux_lemma => k_is)
      (case c_are_arrows => as_aux_lemma => k_is)
      (case k_are_arrows => as_aux_lemma => k_is)
      (case a_common_size => as_aux_lemma => k_is)
      (case l_common_size => as_aux_lemma => k_is)
      (case c_common_size => as_aux_lemma => k_is)
      (case k_common_size => as_aux_lemma => k_is)
      (case a_row_from => as_aux_lemma => k_is)
      (case l_row_from => as_aux_lemma => k_is)
      (case c_row_from => as_aux_lemma => k_is)
      (case k_row_from => as_aux_lemma => k_is)
      (case a_moved => as_aux_lemma => k_is)
      (case l_moved => as_aux_lemma => k_is)
      (case c_moved => as_aux_lemma => k_is)
      (case k_moved => as_aux_lemma => k_is)
      (case a_check_map => as_aux_lemma => k_is)
      (case l_check_map => as_aux_lemma => k_is)
      (case c_check_map => as_aux_lemma => k_is)
      (case k_check_map => as_aux_lemma => k_is)
      (case a_check_maps => as_aux_lemma => k_is)
      (case l_check_maps => as_aux_lemma => k_is)
      (case c_check_maps => as_aux_lemma => k_is)
      (case k_check_maps => as_aux_lemma => k_is)
      (case a_is_step => as_aux_lemma => k_is)
      (case l_is_step => as_aux_lemma => k_is)
      (case c_is_step => as_aux_lemma => k_is)
      (case k_is_step => as_aux_lemma => k_is)
      (case a_first_invalid => as_aux_lemma => k_is)
      (case l_first_invalid => as_aux_lemma => k_is)
      (case c_first_invalid => as_aux_lemma => k_is)
      (case k_first_invalid => as_aux_lemma => k_is)
      (case a_after_list => as_aux_lemma => k_is)
      (case l_after_list => as_aux_lemma => k_is)
      (case c_after_list => as_aux_lemma => k_is)
      (case k_after_list => as_aux_lemma => k_is)
      (case a_is_name => as_aux_lemma => k_is)
      (case l_is_name => as_aux_lemma => k_is)
      (case c_is_name => as_aux_lemma => k_is)
      (case k_is_name => as_aux_lemma => k_is)
      (case a_check_user => as_aux_lemma => k_is)
      (case l_check_user => as_aux_lemma => k_is)
      (case c_check_user => as_aux_lemma => k_is)
      (case k_check_user => as_aux_lemma => k_is)
      (case a_l_hand => as_aux_lemma => k_is)
      (case l_l_hand => as_aux_lemma => k_is)
      (case c_l_hand => as_aux_lemma => k_is)
      (case k_l_hand => as_aux_lemma => k_is)
      (case a_l_draw => as_aux_lemma => k_is)
      (case l_l_draw => as_aux_lemma => k_is)
      (case c_l_draw => as_aux_lemma => k_is)
      (case k_l_draw => as_aux_lemma => k_is)
      (case a_l_arrows => as_aux_lemma => k_is)
      (case l_l_arrows => as_aux_lemma => k_is)
      (case c_l_arrows => as_aux_lemma => k_is)
      (case k_l_arrows => as_aux_lemma => k_is)
      (case a_l_product => as_aux_lemma => k_is)
      (case l_l_product => as_aux_lemma => k_is)
      (case c_l_product => as_aux_lemma => k_is)
      (case k_l_product => as_aux_lemma => k_is)
      (case a_l_full => as_aux_lemma => k_is)
      (case l_l_full => as_aux_lemma => k_is)
      (case c_l_full => as_aux_lemma => k_is)
      (case k_l_full => as_aux_lemma => k_is)
      (case a_l_inverse => as_aux_lemma => k_is)
      (case l_l_inverse => as_aux_lemma => k_is)
      (case c_l_inverse => as_aux_lemma => k_is)
      (case k_l_inverse => as_aux_lemma => k_is)
      (case a_l_power => as_aux_lemma => k_is)
      (case l_l_power => as_aux_lemma => k_is)
      (case c_l_power => as_aux_lemma => k_is)
      (case k_l_power => as_aux_lemma => k_is)
      (case a_l_step => as_aux_lemma => k_is)
      (case l_l_step => as_aux_lemma => k_is)
      (case c_l_step => as_aux_lemma => k_is)
      (case k_l_step => as_aux_lemma => k_is)
      (case a_l_stepped => as_aux_lemma => k_is)
      (case l_l_stepped => as_aux_lemma => k_is)
      (case c_l_stepped => as_aux_lemma => k_is)
      (case k_l_stepped => as_aux_lemma => k_is)
      (case a_l_caught => as_aux_lemma => k_is)
      (case l_l_caught => as_aux_lemma => k_is)
      (case c_l_caught => as_aux_lemma => k_is)
      (case k_l_caught => as_aux_lemma => k_is)
      (case a_l_planned => as_aux_lemma => k_is)
      (case l_l_planned => as_aux_lemma => k_is)
      (case c_l_planned => as_aux_lemma => k_is)
      (case k_l_planned => as_aux_lemma => k_is)
      (case a_l_done => as_aux_lemma => k_is)
      (case l_l_done => as_aux_lemma => k_is)
      (case c_l_done => as_aux_lemma => k_is)
      (case k_l_done => as_aux_lemma => k_is)
      (case a_law => as_aux_lemma => k_is)
      (case l_law => as_aux_lemma => k_is)
      (case cd_law => as_aux_lemma => k_is)
      (case k_law => as_aux_lemma => k_is)
      (case tm_law => rfl)
      (case hd_law => as_aux_lemma => kernel_rfl)
      (case nt_law => as_aux_lemma => kernel_rfl)
      (case a_Map => as_aux_lemma => k_is)
      (case pg_Map => as_aux_lemma => k_is)
      (case hd_Map => as_aux_lemma => k_is)
      (case po_Map => as_aux_lemma => k_is)
      (case sa_Map => as_aux_lemma => k_is)
      (case sf_Map => as_aux_lemma => k_is)
      (case ca_Map => as_aux_lemma => k_is)
      (case cn_Map => as_aux_lemma => k_is)
      (case ct_Map => as_aux_lemma => k_is)
      (case cm_Map => as_aux_lemma => k_is)
      (case kc_Map => as_aux_lemma => k_is)
      (case kit_int_Map => as_aux_lemma => kernel_rfl)
      (case kit_bool_Map => as_aux_lemma => kernel_rfl)
      (case kit_str_Map => as_aux_lemma => kernel_rfl)
      (case kit_tuple_Map => as_aux_lemma => kernel_rfl)
      (case kit_list_Map => as_aux_lemma => kernel_rfl)
      (case kn_NoneType_Map => as_aux_lemma => kernel_rfl)
      (case nf_NoneType_Map => as_aux_lemma => kernel_rfl)
      (case kn_int_Map => as_aux_lemma => kernel_rfl)
      (case nf_int_Map => as_aux_lemma => kernel_rfl)
      (case kn_bool_Map => as_aux_lemma => kernel_rfl)
      (case nf_bool_Map => as_aux_lemma => kernel_rfl)
      (case kn_str_Map => as_aux_lemma => kernel_rfl)
      (case nf_str_Map => as_aux_lemma => kernel_rfl)
      (case kn_list_Map => as_aux_lemma => kernel_rfl)
      (case nf_list_Map => as_aux_lemma => kernel_rfl)
      (case kn_dict_Map => as_aux_lemma => kernel_rfl)
      (case nf_dict_Map => as_aux_lemma => kernel_rfl)
      (case kn_tuple_Map => as_aux_lemma => kernel_rfl)
      (case nf_tuple_Map => as_aux_lemma => kernel_rfl)
      (case self_Map => as_aux_lemma => kernel_rfl)
      (case na_own_size_Map => as_aux_lemma => k_is)
      (case na_own_arrows_Map => as_aux_lemma => k_is)
      (case ne_Map => as_aux_lemma => k_is)
      (case m_Map__init => as_aux_lemma => k_is)
      (case i_Map__init => as_aux_lemma => k_is)
      (case l_Map__init => as_aux_lemma => k_is)
      (case c_Map__init => as_aux_lemma => k_is)
      (case k_Map__init => as_aux_lemma => k_is)
      (case mk_Map => as_aux_lemma => k_is)
      (case rd_Map => as_aux_lemma => k_is)
      (case ga_Map => as_aux_lemma => k_is)
      (case at_Map_identity => as_aux_lemma => k_is)
      (case rc_Map_identity => as_aux_lemma => k_is)
      (case fi_Map_identity => as_aux_lemma => k_is)
      (case l_Map_identity => as_aux_lemma => k_is)
      (case c_Map_identity => as_aux_lemma => k_is)
      (case k_Map_identity => as_aux_lemma => k_is)
      (case m_Map_size => as_aux_lemma => k_is)
      (case s_get_Map_size => as_aux_lemma => k_is)
      (case tk_Map_size => as_aux_lemma => k_is)
      (case rc_Map_size => as_aux_lemma => k_is)
      (case l_Map_size => as_aux_lemma => k_is)
      (case c_Map_size => as_aux_lemma => k_is)
      (case k_Map_size => as_aux_lemma => k_is)
      (case m_Map_arrows => as_aux_lemma => k_is)
      (case s_get_Map_arrows => as_aux_lemma => k_is)
      (case tk_Map_arrows => as_aux_lemma => k_is)
      (case rc_Map_arrows => as_aux_lemma => k_is)
      (case l_Map_arrows => as_aux_lemma => k_is)
      (case c_Map_arrows => as_aux_lemma => k_is)
      (case k_Map_arrows => as_aux_lemma => k_is)
      (case m_Map__mul => as_aux_lemma => k_is)
      (case i_Map__mul => as_aux_lemma => k_is)
      (case l_Map__mul => as_aux_lemma => k_is)
      (case c_Map__mul => as_aux_lemma => k_is)
      (case k_Map__mul => as_aux_lemma => k_is)
      (case m_Map__invert => as_aux_lemma => k_is)
      (case i_Map__invert => as_aux_lemma => k_is)
      (case l_Map__invert => as_aux_lemma => k_is)
      (case c_Map__invert => as_aux_lemma => k_is)
      (case k_Map__invert => as_aux_lemma => k_is)
      (case m_Map_power => as_aux_lemma => k_is)
      (case i_Map_power => as_aux_lemma => k_is)
      (case l_Map_power => as_aux_lemma => k_is)
      (case c_Map_power => as_aux_lemma => k_is)
      (case k_Map_power => as_aux_lemma => k_is)
      (case m_Map__eq => as_aux_lemma => k_is)
      (case i_Map__eq => as_aux_lemma => k_is)
      (case l_Map__eq => as_aux_lemma => k_is)
      (case c_Map__eq => as_aux_lemma => k_is)
      (case k_Map__eq => as_aux_lemma => k_is)
      (case m_Map__len => as_aux_lemma => k_is)
      (case i_Map__len => as_aux_lemma => k_is)
      (case l_Map__len => as_aux_lemma => k_is)
      (case c_Map__len => as_aux_lemma => k_is)
      (case k_Map__len => as_aux_lemma => k_is)
      (case a_Session => as_aux_lemma => k_is)
      (case pg_Session => as_aux_lemma => k_is)
      (case hd_Session => as_aux_lemma => k_is)
      (case po_Session => as_aux_lemma => k_is)
      (case sa_Session => as_aux_lemma => k_is)
      (case sf_Session => as_aux_lemma => k_is)
      (case ca_Session => as_aux_lemma => k_is)
      (case cn_Session => as_aux_lemma => k_is)
      (case ct_Session => as_aux_lemma => k_is)
      (case cm_Session => as_aux_lemma => k_is)
      (case kc_Session => as_aux_lemma => k_is)
      (case kit_int_Session => as_aux_lemma => kernel_rfl)
      (case kit_bool_Session => as_aux_lemma => kernel_rfl)
      (case self_Session => as_aux_lemma => kernel_rfl)
      (case na_own_present_Session => as_aux_lemma => k_is)
      (case na_own_log_Session => as_aux_lemma => k_is)
      (case na_own_earlier_Session => as_aux_lemma => k_is)
      (case m_Session__init => as_aux_lemma => k_is)
      (case i_Session__init => as_aux_lemma => k_is)
      (case l_Session__init => as_aux_lemma => k_is)
      (case c_Session__init => as_aux_lemma => k_is)
      (case k_Session__init => as_aux_lemma => k_is)
      (case mk_Session => as_aux_lemma => k_is)
      (case m_Session_present => as_aux_lemma => k_is)
      (case s_get_Session_present => as_aux_lemma => k_is)
      (case tk_Session_present => as_aux_lemma => k_is)
      (case rc_Session_present => as_aux_lemma => k_is)
      (case l_Session_present => as_aux_lemma => k_is)
      (case c_Session_present => as_aux_lemma => k_is)
      (case k_Session_present => as_aux_lemma => k_is)
      (case m_Session_log => as_aux_lemma => k_is)
      (case i_Session_log => as_aux_lemma => k_is)
      (case l_Session_log => as_aux_lemma => k_is)
      (case c_Session_log => as_aux_lemma => k_is)
      (case k_Session_log => as_aux_lemma => k_is)
      (case m_Session_check_next => as_aux_lemma => k_is)
      (case i_Session_check_next => as_aux_lemma => k_is)
      (case l_Session_check_next => as_aux_lemma => k_is)
      (case c_Session_check_next => as_aux_lemma => k_is)
      (case k_Session_check_next => as_aux_lemma => k_is)
      (case m_Session_change_to => as_aux_lemma => k_is)
      (case i_Session_change_to => as_aux_lemma => k_is)
      (case l_Session_change_to => as_aux_lemma => k_is)
      (case c_Session_change_to => as_aux_lemma => k_is)
      (case k_Session_change_to => as_aux_lemma => k_is)
      (case m_Session_apply => as_aux_lemma => k_is)
      (case i_Session_apply => as_aux_lemma => k_is)
      (case l_Session_apply => as_aux_lemma => k_is)
      (case c_Session_apply => as_aux_lemma => k_is)
      (case k_Session_apply => as_aux_lemma => k_is)
      (case m_Session_raise_to => as_aux_lemma => k_is)
      (case i_Session_raise_to => as_aux_lemma => k_is)
      (case l_Session_raise_to => as_aux_lemma => k_is)
      (case c_Session_raise_to => as_aux_lemma => k_is)
      (case k_Session_raise_to => as_aux_lemma => k_is)
      (case m_Session_do_steps => as_aux_lemma => k_is)
      (case i_Session_do_steps => as_aux_lemma => k_is)
      (case l_Session_do_steps => as_aux_lemma => k_is)
      (case c_Session_do_steps => as_aux_lemma => k_is)
      (case k_Session_do_steps => as_aux_lemma => k_is)
      (case m_Session_undo => as_aux_lemma => k_is)
      (case i_Session_undo => as_aux_lemma => k_is)
      (case l_Session_undo => as_aux_lemma => k_is)
      (case c_Session_undo => as_aux_lemma => k_is)
      (case k_Session_undo => as_aux_lemma => k_is)
      (case m_Session_at => as_aux_lemma => k_is)
      (case i_Session_at => as_aux_lemma => k_is)
      (case l_Session_at => as_aux_lemma => k_is)
      (case c_Session_at => as_aux_lemma => k_is)
      (case k_Session_at => as_aux_lemma => k_is)
      (case m_Session__len => as_aux_lemma => k_is)
      (case i_Session__len => as_aux_lemma => k_is)
      (case l_Session__len => as_aux_lemma => k_is)
      (case c_Session__len => as_aux_lemma => k_is)
      (case k_Session__len => as_aux_lemma => k_is)
      (case a_KeepingSession => as_aux_lemma => k_is)
      (case pg_KeepingSession => as_aux_lemma => k_is)
      (case hd_KeepingSession => as_aux_lemma => k_is)
      (case po_KeepingSession => as_aux_lemma => k_is)
      (case sa_KeepingSession => as_aux_lemma => k_is)
      (case sf_KeepingSession => as_aux_lemma => k_is)
      (case ca_KeepingSession => as_aux_lemma => k_is)
      (case cn_KeepingSession => as_aux_lemma => k_is)
      (case ct_KeepingSession => as_aux_lemma => k_is)
      (case cm_KeepingSession => as_aux_lemma => k_is)
      (case kc_KeepingSession => as_aux_lemma => k_is)
      (case kit_int_KeepingSession => as_aux_lemma => kernel_rfl)
      (case kit_bool_KeepingSession => as_aux_lemma => kernel_rfl)
      (case self_KeepingSession => as_aux_lemma => kernel_rfl)
      (case na_own_present_KeepingSession => as_aux_lemma => k_is)
      (case na_own_log_KeepingSession => as_aux_lemma => k_is)
      (case na_own_earlier_KeepingSession => as_aux_lemma => k_is)
      (case na_own_least_KeepingSession => as_aux_lemma => k_is)
      (case ih_Session_present_KeepingSession => as_aux_lemma => k_is)
      (case ih_Session_log_KeepingSession => as_aux_lemma => k_is)
      (case ih_Session_change_to_KeepingSession => as_aux_lemma => k_is)
      (case ih_Session_apply_KeepingSession => as_aux_lemma => k_is)
      (case ih_Session_raise_to_KeepingSession => as_aux_lemma => k_is)
      (case ih_Session_do_steps_KeepingSession => as_aux_lemma => k_is)
      (case ih_Session_undo_KeepingSession => as_aux_lemma => k_is)
      (case ih_Session_at_KeepingSession => as_aux_lemma => k_is)
      (case ih_Session__len_KeepingSession => as_aux_lemma => k_is)
      (case su_Session__init_KeepingSession => as_aux_lemma => k_is)
      (case kq_Session__init_KeepingSession => as_aux_lemma => kernel_rfl)
      (case st_Session__init_KeepingSession => as_aux_lemma => k_is)
      (case sn_Session__init_KeepingSession => as_aux_lemma => k_is)
      (case su_Session_check_next_KeepingSession => as_aux_lemma => k_is)
      (case kq_Session_check_next_KeepingSession => as_aux_lemma => kernel_rfl)
      (case st_Session_check_next_KeepingSession => as_aux_lemma => k_is)
      (case sn_Session_check_next_KeepingSession => as_aux_lemma => k_is)
      (case m_KeepingSession__init => as_aux_lemma => k_is)
      (case i_KeepingSession__init => as_aux_lemma => k_is)
      (case l_KeepingSession__init => as_aux_lemma => k_is)
      (case cd_KeepingSession__init => as_aux_lemma => k_is)
      (case k_KeepingSession__init => as_aux_lemma => k_is)
      (case co_KeepingSession__init => as_aux_lemma => k_is)
      (case fl_KeepingSession__init => as_aux_lemma => kernel_rfl)
      (case ce_KeepingSession__init => as_aux_lemma => k_is)
      (case kd_KeepingSession__init => as_aux_lemma => k_is)
      (case ns_KeepingSession__init => as_aux_lemma => k_is)
      (case no_KeepingSession__init => as_aux_lemma => k_is)
      (case mk_KeepingSession => as_aux_lemma => k_is)
      (case m_KeepingSession_least => as_aux_lemma => k_is)
      (case s_get_KeepingSession_least => as_aux_lemma => k_is)
      (case tk_KeepingSession_least => as_aux_lemma => k_is)
      (case rc_KeepingSession_least => as_aux_lemma => k_is)
      (case l_KeepingSession_least => as_aux_lemma => k_is)
      (case c_KeepingSession_least => as_aux_lemma => k_is)
      (case k_KeepingSession_least => as_aux_lemma => k_is)
      (case m_KeepingSession_check_next => as_aux_lemma => k_is)
      (case i_KeepingSession_check_next => as_aux_lemma => k_is)
      (case l_KeepingSession_check_next => as_aux_lemma => k_is)
      (case cd_KeepingSession_check_next => as_aux_lemma => k_is)
      (case k_KeepingSession_check_next => as_aux_lemma => k_is)
      (case co_KeepingSession_check_next => as_aux_lemma => k_is)
      (case fl_KeepingSession_check_next => as_aux_lemma => kernel_rfl)
      (case ce_KeepingSession_check_next => as_aux_lemma => k_is)
      (case kd_KeepingSession_check_next => as_aux_lemma => k_is)
      (case ns_KeepingSession_check_next => as_aux_lemma => k_is)
      (case no_KeepingSession_check_next => as_aux_lemma => k_is)
      (case a_NothingToUndo => as_aux_lemma => k_is)
      (case xl_NothingToUndo => as_aux_lemma => k_is)
      (case sa_NothingToUndo => as_aux_lemma => k_is)
      (case ex_NothingToUndo => as_aux_lemma => k_is)
      (case ty_NothingToUndo => as_aux_lemma => k_is)
      (case kc_NothingToUndo => as_aux_lemma => k_is)
      (case hd_NothingToUndo => as_aux_lemma => k_is)
      (case ga_NothingToUndo => as_aux_lemma => k_is)
      (case gg_NothingToUndo => as_aux_lemma => k_is)
      (case ss_NothingToUndo => as_aux_lemma => k_is)
      (case ca_NothingToUndo => as_aux_lemma => k_is)
      (case cn_NothingToUndo => as_aux_lemma => k_is)
      (case ct_NothingToUndo => as_aux_lemma => k_is)
      (case cm_NothingToUndo => as_aux_lemma => k_is)
      (case kit_LookupError_NothingToUndo => as_aux_lemma => kernel_rfl)
      (case na_user_NothingToUndo => as_aux_lemma => k_is)
      (case m_NothingToUndo__init => as_aux_lemma => k_is)
      (case ti_NothingToUndo__init => as_aux_lemma => k_is)
      (case l_NothingToUndo__init => as_aux_lemma => k_is)
      (case c_NothingToUndo__init => as_aux_lemma => k_is)
      (case k_NothingToUndo__init => as_aux_lemma => k_is)
      (case a_NotLast => as_aux_lemma => k_is)
      (case xl_NotLast => as_aux_lemma => k_is)
      (case sa_NotLast => as_aux_lemma => k_is)
      (case ex_NotLast => as_aux_lemma => k_is)
      (case ty_NotLast => as_aux_lemma => k_is)
      (case kc_NotLast => as_aux_lemma => k_is)
      (case hd_NotLast => as_aux_lemma => k_is)
      (case ga_NotLast => as_aux_lemma => k_is)
      (case gg_NotLast => as_aux_lemma => k_is)
      (case ss_NotLast => as_aux_lemma => k_is)
      (case ca_NotLast => as_aux_lemma => k_is)
      (case cn_NotLast => as_aux_lemma => k_is)
      (case ct_NotLast => as_aux_lemma => k_is)
      (case cm_NotLast => as_aux_lemma => k_is)
      (case kit_RuntimeError_NotLast => as_aux_lemma => kernel_rfl)
      (case te_NothingToUndo_NotLast => as_aux_lemma => k_is)
      (case na_user_NotLast => as_aux_lemma => k_is)
      (case m_NotLast__init => as_aux_lemma => k_is)
      (case ti_NotLast__init => as_aux_lemma => k_is)
      (case l_NotLast__init => as_aux_lemma => k_is)
      (case c_NotLast__init => as_aux_lemma => k_is)
      (case k_NotLast__init => as_aux_lemma => k_is)
      (case a_TooFew => as_aux_lemma => k_is)
      (case xl_TooFew => as_aux_lemma => k_is)
      (case sa_TooFew => as_aux_lemma => k_is)
      (case ex_TooFew => as_aux_lemma => k_is)
      (case ty_TooFew => as_aux_lemma => k_is)
      (case kc_TooFew => as_aux_lemma => k_is)
      (case hd_TooFew => as_aux_lemma => k_is)
      (case ga_TooFew => as_aux_lemma => k_is)
      (case gg_TooFew => as_aux_lemma => k_is)
      (case ss_TooFew => as_aux_lemma => k_is)
      (case ca_TooFew => as_aux_lemma => k_is)
      (case cn_TooFew => as_aux_lemma => k_is)
      (case ct_TooFew => as_aux_lemma => k_is)
      (case cm_TooFew => as_aux_lemma => k_is)
      (case kit_RuntimeError_TooFew => as_aux_lemma => kernel_rfl)
      (case na_number_TooFew => as_aux_lemma => k_is)
      (case m_TooFew__init => as_aux_lemma => k_is)
      (case ti_TooFew__init => as_aux_lemma => k_is)
      (case l_TooFew__init => as_aux_lemma => k_is)
      (case c_TooFew__init => as_aux_lemma => k_is)
      (case k_TooFew__init => as_aux_lemma => k_is)
      (case a_InvalidNumber => as_aux_lemma => k_is)
      (case xl_InvalidNumber => as_aux_lemma => k_is)
      (case sa_InvalidNumber => as_aux_lemma => k_is)
      (case ex_InvalidNumber => as_aux_lemma => k_is)
      (case ty_InvalidNumber => as_aux_lemma => k_is)
      (case kc_InvalidNumber => as_aux_lemma => k_is)
      (case hd_InvalidNumber => as_aux_lemma => k_is)
      (case ga_InvalidNumber => as_aux_lemma => k_is)
      (case gg_InvalidNumber => as_aux_lemma => k_is)
      (case ss_InvalidNumber => as_aux_lemma => k_is)
      (case ca_InvalidNumber => as_aux_lemma => k_is)
      (case cn_InvalidNumber => as_aux_lemma => k_is)
      (case ct_InvalidNumber => as_aux_lemma => k_is)
      (case cm_InvalidNumber => as_aux_lemma => k_is)
      (case kit_ValueError_InvalidNumber => as_aux_lemma => kernel_rfl)
      (case na_value_InvalidNumber => as_aux_lemma => k_is)
      (case m_InvalidNumber__init => as_aux_lemma => k_is)
      (case ti_InvalidNumber__init => as_aux_lemma => k_is)
      (case l_InvalidNumber__init => as_aux_lemma => k_is)
      (case c_InvalidNumber__init => as_aux_lemma => k_is)
      (case k_InvalidNumber__init => as_aux_lemma => k_is)
      (case a_InvalidMap => as_aux_lemma => k_is)
      (case xl_InvalidMap => as_aux_lemma => k_is)
      (case sa_InvalidMap => as_aux_lemma => k_is)
      (case ex_InvalidMap => as_aux_lemma => k_is)
      (case ty_InvalidMap => as_aux_lemma => k_is)
      (case kc_InvalidMap => as_aux_lemma => k_is)
      (case hd_InvalidMap => as_aux_lemma => k_is)
      (case ga_InvalidMap => as_aux_lemma => k_is)
      (case gg_InvalidMap => as_aux_lemma => k_is)
      (case ss_InvalidMap => as_aux_lemma => k_is)
      (case ca_InvalidMap => as_aux_lemma => k_is)
      (case cn_InvalidMap => as_aux_lemma => k_is)
      (case ct_InvalidMap => as_aux_lemma => k_is)
      (case cm_InvalidMap => as_aux_lemma => k_is)
      (case kit_ValueError_InvalidMap => as_aux_lemma => kernel_rfl)
      (case na_part_InvalidMap => as_aux_lemma => k_is)
      (case m_InvalidMap__init => as_aux_lemma => k_is)
      (case ti_InvalidMap__init => as_aux_lemma => k_is)
      (case l_InvalidMap__init => as_aux_lemma => k_is)
      (case c_InvalidMap__init => as_aux_lemma => k_is)
      (case k_InvalidMap__init => as_aux_lemma => k_is)
      (case a_SizeMismatch => as_aux_lemma => k_is)
      (case xl_SizeMismatch => as_aux_lemma => k_is)
      (case sa_SizeMismatch => as_aux_lemma => k_is)
      (case ex_SizeMismatch => as_aux_lemma => k_is)
      (case ty_SizeMismatch => as_aux_lemma => k_is)
      (case kc_SizeMismatch => as_aux_lemma => k_is)
      (case hd_SizeMismatch => as_aux_lemma => k_is)
      (case ga_SizeMismatch => as_aux_lemma => k_is)
      (case gg_SizeMismatch => as_aux_lemma => k_is)
      (case ss_SizeMismatch => as_aux_lemma => k_is)
      (case ca_SizeMismatch => as_aux_lemma => k_is)
      (case cn_SizeMismatch => as_aux_lemma => k_is)
      (case ct_SizeMismatch => as_aux_lemma => k_is)
      (case cm_SizeMismatch => as_aux_lemma => k_is)
      (case kit_ValueError_SizeMismatch => as_aux_lemma => kernel_rfl)
      (case na_first_SizeMismatch => as_aux_lemma => k_is)
      (case na_second_SizeMismatch => as_aux_lemma => k_is)
      (case m_SizeMismatch__init => as_aux_lemma => k_is)
      (case ti_SizeMismatch__init => as_aux_lemma => k_is)
      (case l_SizeMismatch__init => as_aux_lemma => k_is)
      (case c_SizeMismatch__init => as_aux_lemma => k_is)
      (case k_SizeMismatch__init => as_aux_lemma => k_is)
      (case z_isinstance => as_aux_lemma => k_is)
      (case z_int => as_aux_lemma => k_is)
      (case z_bool => as_aux_lemma => k_is)
      (case z_dict => as_aux_lemma => k_is)
      (case z_len => as_aux_lemma => k_is)
      (case z_range => as_aux_lemma => k_is)
      (case z_list => as_aux_lemma => k_is)
      (case z_max => as_aux_lemma => k_is)
      (case z_min => as_aux_lemma => k_is)
      (case z_repr => as_aux_lemma => k_is)
      (case z_abs => as_aux_lemma => k_is)
      (case z_str => as_aux_lemma => k_is)
      (case z_tuple => as_aux_lemma => k_is)
      (case z_all => as_aux_lemma => k_is)
      (case z_enumerate => as_aux_lemma => k_is)
      (case z_RuntimeError => as_aux_lemma => k_is)
      (case v_MAX_SIZE => as_aux_lemma => k_is)
      (case v_MAX_NAME => as_aux_lemma => k_is)
    have hmg' : mg "law" = some (.ref fa) := hmg
    rw [T.g_law] at hmg'
    cases hmg'
    refine ⟨_, [(T.c_law, T.P_law)], My.spLawT _ T, KX, ?t1, ?t2, ?t3, (fun base tb => My.ok_law ⟨by kernel_rfl, by kernel_rfl⟩ T tb), fun H a ns hl hT hS => ⟨a, ns, rfl, hS, hl, hT, fun _ => rfl⟩⟩
    case t1 =>
      intro p hp
      simp only [List.mem_cons, List.not_mem_nil, or_false] at hp
      rcases hp with rfl
      · exact TX T.P_law (by rw [T.tm_law]; decide)
    case t2 =>
      intro p hp
      simp only [List.mem_cons, List.not_mem_nil, or_false] at hp
      rcases hp with rfl
      · exact T.nt_law
    case t3 =>
      intro p hp
      simp only [List.mem_cons, List.not_mem_nil, or_false] at hp
      rcases hp with rfl
      · exact PySem.W.codeHd_of_K KX T.hd_law
