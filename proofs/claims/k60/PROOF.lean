import PyProof.Rows.All
import Wide.All
import OpenK.AllK
import Wide.FinOn
import KE.OsRunLaw
import PySem.Challenge.RW_chainmaps_k60_partly_known_maps
import HandS.ForMost
import HandS.ForExc
import HandS.IsInst
import HandS.More
import HandS.SlotsOwn
import HandS.Property
import HandS.ClsMeth
import HandS.DictComp
import HandS.Conv
import HandS.Walk
import HandS.NoneIn
import HandS.CallLocal
import HandS.Star
import HandS.ExcInit
import HandS.ExcField
import HandS.ExcIs
import KE.KExcInit
import KE.KExcIs
import HandS.WordsExc
import HandS.ListItems
import HandS.Style
import HandS.TryMany
import HandS.RaiseMore
import HandS.FStr
import HandS.HotCalls
import KE.KItemsList
import KE.KOpsOwn
import HandS.OwnEq
import HandS.Lambda
import HandS.EndTab
import KE.KNestM
import HandS.Deep
import HandS.Nested
import KE.KSuper
import HandS.TupMul
import KE.GoesMore
import HandS.SetBool
import KE.KeyNested
import KE.KDictKeyed
import HandS.DictTup
import KE.KDictPairs
import PyProof.ListNew
import PyProof.Rows.SetFrom
import HandS.Finally
import KE.KDictWalk
import HandS.MakeKwOnly
set_option Elab.async false
set_option linter.all false
set_option maxRecDepth 100000
set_option maxHeartbeats 4000000
section
local macro_rules | `(tactic| first | refine $t:term | fail $s:str) => do { let t2 ← t.raw.replaceM fun n => (do { if n.getKind == `Lean.Parser.Term.syntheticHole then { let nm := n[1].getId.eraseMacroScopes; if nm == `hl then { return some (← `(by exact $(Lean.mkIdent `x))) } else { if nm == `hw || nm == `hc then { return some (← `(by contradiction)) } else { return none } } } else { return none } }); `(tactic| refine $(⟨t2⟩)) }
open PySem PySem.W PyProof.Rows
set_option maxRecDepth 100000 in
set_option maxHeartbeats 0 in
def My.hlStmt : Prop := by
  refine' (fun (P : Prop) (_ : P → False → PySem.Challenge.rw_chainmaps_k60_partly_known_maps.Holds) => P) _ ?h
  rotate_left
  intro x f
  w_on; o_law; k_headL
set_option maxRecDepth 100000 in
set_option maxHeartbeats 0 in
theorem My.hl : My.hlStmt := by
  refine HeadRun.left_oneK (by kernel_rfl) (by rfl) (fun s => by kernel_rfl) (Nat.ble_eq_true_of_le (Nat.le_refl _)) ?_
  intro w os
  kernel_rfl
end
namespace PySem.W
open PySem PySem.Calls PyProof.Rows
section
variable {prog : Program} {w : World} {A : Around} {E : Value → Shared → Prop} {s : Shared} {K : Frag} {x C L f : Addr} {h₀ : Heap} {m : Str → Option Value} {ox : Obj} {od : Option Obj} {b tb : Value}
theorem my_ne_K {Q : Value → Shared → Prop} (hu : A.units + 1 < cLine) (F : Fr h₀ L s.heap m) (X₀ : K.In h₀) (I : InstAt s.heap x ox C od) (hb : Looks (model prog w) s.heap (typeOf b) tb) (hn : notFirst K C tb = true)
    (hne : findIn K (.ref C) "__ne__" = some (some (.builtin "object.__ne__"))) (hob : mroIn K C (.type "object") = some true)
    (hs : findIn K (.ref C) "__eq__" = some (some (.ref f))) (hf : isFn K (.ref f) = true)
    (h : wpAny (model prog w) A.in1 (call (.ref f) [.ref x, b]) (fun v s' => ∃ c, v = .bool c ∧ Q (.bool (!c)) s') E s) : wpAny (model prog w) A (richCompare .NotEq (.ref x) b) Q E s := by
  have X := X₀.keeps F.keep
  have one : wpAny (model prog w) A (tryCompare (.ref x) "__ne__" b) (fun r s' => ∃ v, r = some v ∧ Q v s') E s := by
    unfold tryCompare
    simp only [callSpecialIfBound?, bindSpecialIfBound?]
    have sub : Looks (model prog w) s.heap (isInstance (.ref x) (.type "object")) true := I.type.andThen (looks_mroIn X hob)
    have fin : wpAny (model prog w) A (call (.builtin "object.__ne__") ([.ref x] ++ [b]) >>= fun v => pure (some v)) (fun r s' => ∃ c, r = some (.bool c) ∧ Q (.bool c) s') E s := by
      refine wpAny_bind (wpAny_call (codeAny_call_builtin PySem.F.slot_tuple_iterator_ne.plain PySem.F.cmpEntry_ne ?_))
      refine @check_slot (model prog w) _ _ s "object.__ne__" "object" "__ne__" (.ref x) [b] [] _ PySem.F.cmpKind_ne PySem.F.cmpSplit_ne sub (PySem.F.cmpArgs_ne _ _) ?_
      unfold Builtin.«object.__ne__»
      refine wpAny_bind (wpAny_of_eq (a := ((Value.ref x : Value), [b])) (by first | rfl | (simp only [Builtin.slotArgs]; rfl)) ?_)
      refine wpAny_bind (wpAny_cRoomFor hu ?_)
      refine wpAny_bind (ifBound_K X I hs hf (wpAny_mono h (fun v s' hv => ?_) fun _ _ e => e))
      obtain ⟨c, rfl, q⟩ := hv
      refine wpAny_bind (wpAny_truthy_bool ?_)
      exact wpAny_pure (wpAny_pure ⟨_, rfl, q⟩)
    refine wpAny_bind (wpAny_holding (wpAny_bind (wpAny_bind (wpAny_bind (I.type.here ((looks_findIn X hne).here ?_))))))
    refine wpAny_bind (wpAny_askSetting (wpAny_ite ?_))
    split
    · rw [PySem.F.slot_tuple_iterator_ne.bind (.ref x)]
      exact wpAny_bind (wpAny_pure (wpAny_pure (wpAny_mono fin (fun r s' z => by obtain ⟨c, rfl, q⟩ := z; exact wpAny_pure ⟨_, rfl, q⟩) fun _ _ e => e)))
    · rw [PySem.F.slot_tuple_iterator_ne.bind (.ref x)]
      exact wpAny_tryCatch (wpAny_bind (wpAny_pure (wpAny_pure (wpAny_mono fin (fun r s' z => by obtain ⟨c, rfl, q⟩ := z; exact wpAny_pure ⟨_, rfl, q⟩) fun _ _ e => e))))
  unfold richCompare
  simp only [oneThing_ref]
  refine wpAny_holding (wpAny_bind (wpAny_cRoomFor (Nat.lt_of_succ_lt hu) ?_))
  refine wpAny_bind (I.type.here (wpAny_bind (hb.here ?_)))
  split
  · rename_i q
    have e : subIn K tb (.ref C) = some false := by
      rcases Bool.or_eq_true_iff.mp hn with e | e
      · rw [beq_iff_eq.mp e] at q; simp at q
      · exact beq_iff_eq.mp e
    refine wpAny_bind ((looks_subIn X e).here ?_)
    simp only [Bool.false_eq_true, if_false]
    refine wpAny_bind (wpAny_mono one (fun r s' z => ?_) fun _ _ e => e)
    obtain ⟨v, rfl, hq⟩ := z
    exact wpAny_pure hq
  · refine wpAny_bind (wpAny_pure ?_)
    simp only [Bool.false_eq_true, if_false]
    refine wpAny_bind (wpAny_mono one (fun r s' z => ?_) fun _ _ e => e)
    obtain ⟨v, rfl, hq⟩ := z
    exact wpAny_pure hq
end
end PySem.W
namespace U
open PySem PySem.Spec PyProof.Rows L2
/-- what is asked of a plain own class -/
structure OwnC (K : PySem.W.Frag) (C : Addr) : Prop where
  cl : Cls K C
  sf : PySem.W.selfFirst K C = true
  ca : PySem.W.findIn K (.ref C) "__class__" = some (some (.builtin "object.__class__"))
  cn : PySem.W.specialIn K (.builtin "object.__class__") "__get__" = some (some (.builtin "getset_descriptor.__get__"))
  ct : PySem.W.takesIn K (.builtin "object.__class__") = some true
  cm : PySem.W.mroIn K C (.type "object") = some true
section
variable {X : Cx} {CX : CXT} {pins : List (Addr × Obj)} {σ : L2.St} {H : Hp} {s : Shared} {a C dx p g : Addr} {f : Str} {n : Nat} {sp : Sp} {E : XK} {v : V} {u : Value}
theorem ins_inst (I : Inv X pins σ H s) {fs : List (Str × V)} (ea : H a = some (.ins C dx fs)) : ∃ ox od, PySem.W.InstAt s.heap a ox C (some od) := by
  obtain ⟨mA, O, _⟩ := ins_get I.hok ea
  obtain ⟨od, J, _⟩ := O.look
  exact ⟨_, od, J⟩
/-- x op y, both instances of C -/
def rBin (C : Addr) (sp : Sp) (E : XK) : R2 := fun x y H Q => ∃ a dx fs b dy gs, x = .ref a ∧ y = .ref b ∧ H a = some (.ins C dx fs) ∧ H b = some (.ins C dy gs) ∧ sp [x, y] H Q E
theorem notFirst_self (K : PySem.W.Frag) (C : Addr) : PySem.W.notFirst K C (.ref C) = true := by
  unfold PySem.W.notFirst; simp
theorem op_cmp {op : CmpOp} (hop : ∀ a b, compareOp op a b = richCompare op a b) (hs : PySem.W.findIn X.K (.ref C) (cmpInfo op).2.1 = some (some (.ref g))) (hf : PySem.W.isFn X.K (.ref g) = true) (F : FnR X.prog X.w X.K X.mg X.base CX n g sp)
    (hr : Room n X.A) (hx : Passes CX X E) : OpR X (compareOp op) (rBin C sp E) := by
  intro pins s σ H x y v u Q I rx ry h
  obtain ⟨a, dx, vs, b, dy, ws, rfl, rfl, ha, hb, q⟩ := h
  cases (show v = Value.ref a from rx)
  cases (show u = Value.ref b from ry)
  obtain ⟨ox, od, J⟩ := ins_inst I ha
  obtain ⟨oy, od', J'⟩ := ins_inst I hb
  obtain ⟨m, hF⟩ := I.fr
  rw [hop]
  refine PySem.W.cmp_K (op := op) (tb := .ref C) hr.units0 hF I.ok.mod.kin J J'.type (notFirst_self _ _) hs hf ?_
  refine wpAny_mono (wpAny_call (run_fnR (us := [.ref a, .ref b]) (vs := [.ref a, .ref b]) F hr hx I (.cons rfl (.cons rfl .nil)) q)) (fun w s' z => ?_) fun _ _ x => x
  obtain ⟨z', H', I', rz, qz⟩ := z
  exact SlX.cmpback rz ⟨z', H', I', rz, qz⟩
end
end U
namespace U
open PySem PySem.Spec PyProof.Rows L2 StX
/-! ### a def of the text, with how its arguments bind -/
structure FnAt (K : PySem.W.Frag) (x qual : Str) (st : Stmt) (f : Addr) (ps : List Str) : Prop where
  ex : ∃ fd, Fun K x qual st f fd ∧ Binds K fd ps []
theorem FnAt.kp {K : PySem.W.Frag} {x qual : Str} {st : Stmt} {f : Addr} {ps : List Str} (A : FnAt K x qual st f ps) : PySem.W.keepIn K (.ref f) = true := by
  obtain ⟨fd, F, _⟩ := A.ex
  exact F.kp
section
variable {P : Program} {w : World} {K : PySem.W.Frag} {mg : Str → Option Value} {base : Heap}
theorem FnAt.ok {x qual : Str} {st : Stmt} {f : Addr} {N ps : List Str} {k : Nat} {sp : Sp} (A : FnAt K x qual st f ps) (S : FnScope N ps (defScope st)) (len : ∀ vs H Q E, sp vs H Q E → vs.length = ps.length)
    (hbody : ∀ (cdv : Value) (A : Around) (outer : List Env) (s : Shared) (H : Hp) (vs : List V) (Q : VK) (E : XK), Room k (A.deeper (envOfC qual (defScope st) s.heap.objs.size f cdv)) → sp vs H Q E →
      ∃ t, PSs (cxOf CX0 P w K mg base N qual (defScope st) f cdv A outer s H E).nox (defBody st) t ∧ t { nx := fun _ H' => Q .non H', rt := Q } (start N vs) H) : FnR P w K mg base CX0 (k + 1) f sp := by
  obtain ⟨fd, F, B⟩ := A.ex
  have R := (F.ok (P := P) (w := w) (mg := mg) (base := base) S len hbody).raw B .nil
  exact R.imp fun vs H Q E h => by rw [List.append_nil]; exact h
end
section
variable {X : Cx} {CX : CXT} {k i : Nat} {f C p g a dx : Addr} {sp : Sp} {E : XK} {x fl : Str} {e o : Expr} {es : List Expr} {ta te tf : TE} {t : TA} {pp pos : Pos} {fs : List (Str × V)}
/-- x(e, ..), x a def of the module -/
def tCallR (sp : Sp) (E : XK) (t : TA) : TE := fun σ H Q => t σ H fun vs H1 => sp vs H1 Q E
theorem pe_callR (F : FnR X.prog X.w X.K X.mg X.base CX k f sp) (hr : Room k X.A) (hk : PySem.W.keepIn X.K (.ref f) = true) (hg : Gl X x) (hm : X.mg x = some (.ref f)) (hx : Passes CX X E) (ha : PA X (e :: es) t) (hdb : (x == ("__debug__" : Str)) = false := by decide)
    (he : starEach (e :: es) X.env = (false, eval e X.env) :: starEach es X.env := by rfl) (hpl : (backTo pos (starEach es X.env)).any (·.1) = false := by rfl) : PE X (.Call (.Name x pp) (e :: es) [] pos) (tCallR sp E t) := by
  refine ⟨fun pins s σ H Q I h => ?_⟩
  refine wpAny_Call_Name_kw (ld_glob I hg hm ?_ hdb)
  refine PySem.W.callWith_K (h₀ := X.base) I.ok.mod.kin hk (thn (ha.run pos pins s σ H _ I h) fun us s1 ⟨vs, H1, I1, r, q⟩ => ⟨I1.kIn, ?_⟩) he hpl
  exact wpAny_call (run_fnR F hr hx I1 r q)
/-- e.f, a property -/
def tPropR (C : Addr) (sp : Sp) (ta : TE) : TE := fun σ H Q => ta σ H fun x H1 => ∃ a dx fs, x = .ref a ∧ H1 a = some (.ins C dx fs) ∧ sp [.ref a] H1 Q E0
theorem pe_propR (he : PE X e ta) (c : Cls X.K C) (hp : PropOf X.K C fl p g) (F : FnR X.prog X.w X.K X.mg X.base CX0 k g sp) (hr : Room (k + 1) X.A)
    (hab : attributeBase e fl X.env (eval e X.env) = eval e X.env := by rfl) : PE X (.Attribute e fl pos) (tPropR C sp ta) := by
  refine ⟨fun pins s σ H Q I h => ?_⟩
  refine attr_of hab (thn (he.run pins s σ H _ I h) fun u s1 ⟨x, H1, I1, rx, a, dx, fs, ex, ea, q⟩ => ?_)
  subst ex
  obtain rfl : u = Value.ref a := rx
  obtain ⟨mA, O, _, _, _, _⟩ := ins_get I1.hok ea
  obtain ⟨od, J, _⟩ := O.look
  obtain ⟨rest, hrec⟩ := hp.rec_
  have I2 := I1.tok (s1.toks + 1)
  have hc : (PySem.W.clsIn X.K C).isSome = true := by
    obtain ⟨cd, hc, _⟩ := PySem.W.any_some c.hd
    rw [hc]
    rfl
  refine PySem.W.get_bind I1.kIn J (PySem.W.plainGet_of (c.get fl)).1 (PySem.W.findObj_data hc hp.at_ hp.get hp.tak) (PySem.W.plainGet_of (c.get fl)).2 (wpAny_call (PySem.W.prop_get (s := { s1 with toks := s1.toks + 1 }) I1.kIn hrec ?_))
  refine codeAny_mono (F X.A.in1 X.stack { s1 with toks := s1.toks + 1 } H1 [.ref a] [.ref a] Q E0 hr.in1 I2.env0.in1 (.cons rfl .nil) q) fun r s' hq => ?_
  cases r with
  | error er => exact False.elim hq
  | ok fl =>
    cases fl with
    | ret u =>
      obtain ⟨v, H', I3, rv, q3⟩ := I2.after hq
      show wpAny _ _ (handedOut u) _ _ _
      rw [PySem.W.handedOut_of (handed_of rv)]
      exact wpAny_pure ⟨v, H', I3, rv, q3⟩
    | next => exact False.elim hq
    | brk => exact False.elim hq
    | cont => exact False.elim hq
/-- x(..), x a local that holds the class at C -/
def tMakeL (i : Nat) (C : Addr) (sp : Sp) (E : XK) (t : TA) : TE := fun σ H Q => σ[i]? = some (some (.ref C)) ∧ tMakeR C sp E t σ H Q
theorem pe_makeL (M : Mk X.K C f) (F : FnR X.prog X.w X.K X.mg X.base CX k f sp) (hr : Room (k + 1) X.A) (hN : X.N[i]? = some x) (hv : Vis X.env.scope x) (hx : Passes CX X E) (ha : PA X (e :: es) t) (hdb : (x == ("__debug__" : Str)) = false := by decide)
    (hcd : (x == ("__classdict__" : Str)) = false := by decide)
    (he : starEach (e :: es) X.env = (false, eval e X.env) :: starEach es X.env := by rfl) (hpl : (backTo pos (starEach es X.env)).any (·.1) = false := by rfl) : PE X (.Call (.Name x pp) (e :: es) [] pos) (tMakeL i C sp E t) := by
  refine ⟨fun pins s σ H Q I h => ?_⟩
  obtain ⟨hs, ht⟩ := h
  refine wpAny_Call_Name_kw (thn ((pe_var (pos := pp) hN hv hdb hcd).run pins s σ H (fun v H1 => v = .ref C ∧ H1 = H) I ⟨.ref C, hs, rfl, rfl⟩) fun u s1 ⟨v, H1, I1, r1, q1⟩ => ?_)
  obtain ⟨rfl, rfl⟩ := q1
  cases r1
  refine PySem.W.callWith_K (h₀ := X.base) I.ok.mod.kin M.kp (thn (ha.run pos pins s1 σ _ _ I1 ht) fun us s2 ⟨vs, H2, I2, r, q⟩ => ⟨I2.kIn, ?_⟩) he hpl
  exact run_makeR M F hr hx I2 r q
end
theorem ifD {c : Prop} [Decidable c] {A B : Prop} (h1 : c → A) (h2 : ¬ c → B) : if decide c = true then A else B := by
  by_cases h : c
  · rw [if_pos (decide_eq_true h)]; exact h1 h
  · rw [if_neg (by simp [h])]; exact h2 h
theorem ifB {c : Bool} {A B : Prop} (h1 : c = true → A) (h2 : c = false → B) : if c = true then A else B := by
  cases c with
  | true => rw [if_pos rfl]; exact h1 rfl
  | false => rw [if_neg Bool.false_ne_true]; exact h2 rfl
theorem ifNB {c : Bool} {A B : Prop} (h1 : c = false → A) (h2 : c = true → B) : if (!c) = true then A else B := by
  cases c with
  | true => exact iteF (h2 rfl)
  | false => exact iteT (h1 rfl)
end U
namespace U
open PySem PySem.Spec PyProof.Rows L2
/-- the ints' dicts compared -/
def dEq (ks ls : List (Key × V)) : Bool := ks.length == ls.length && ks.all fun p => decide (valV ls p.1 = some p.2)
def IntVals (ks : List (Key × V)) : Prop := ∀ p ∈ ks, ∃ i : Int, p.2 = .int i
theorem valV_mem {ls : List (Key × V)} {k : Key} {v : V} (h : valV ls k = some v) : ∃ p ∈ ls, p.2 = v := by
  unfold valV at h
  cases e : ls.find? (fun kv => decide (kv.1 = k)) with
  | none => rw [e] at h; cases h
  | some p =>
    rw [e] at h
    exact ⟨p, List.mem_of_find?_eq_some e, Option.some.inj h⟩
theorem hits_int {A : Around} {s : Shared} {ls : List (Key × V)} {vb : List (Key × Value)} (rb : KV ls vb) (il : IntVals ls) {ks : List (Key × V)} {va : List (Key × Value)} (ra : KV ks va) :
    IntVals ks → PySem.W.KeqHits A s vb va (ks.all fun p => decide (valV ls p.1 = some p.2)) := by
  unfold KV at ra
  induction ra with
  | nil => intro _; exact .nil
  | @cons p q ps qs h t ih =>
    intro hp
    obtain ⟨h1, h2⟩ := h
    obtain ⟨i, ei⟩ := hp p List.mem_cons_self
    obtain ⟨k, v⟩ := q
    have h1' : p.1 = k := h1
    subst h1'
    rw [ei] at h2
    obtain ⟨tk, ev⟩ := (show ∃ tk, v = Value.int i tk from h2)
    subst ev
    have rr : RelO (valV ls p.1) (valueAt vb p.1) := rb.val p.1
    rw [List.all_cons]
    cases e : valV ls p.1 with
    | none =>
      rw [e] at rr
      cases e2 : valueAt vb p.1 with
      | none => exact .miss e2
      | some y => rw [e2] at rr; exact rr.elim
    | some z =>
      rw [e] at rr
      obtain ⟨y, hy, ry⟩ := rr.some_of
      obtain ⟨p', hm, ep⟩ := valV_mem e
      obtain ⟨j, ej⟩ := il p' hm
      rw [ej] at ep
      subst ep
      obtain ⟨tk', ey⟩ := (show ∃ tk, y = Value.int j tk from ry)
      subst ey
      have b : decide (some (V.int j) = some p.2) = (i == j) := by
        rw [ei]
        by_cases h : i = j
        · subst h; simp
        · have h' : ¬ j = i := fun z => h z.symm
          simp [h, h']
      rw [b]
      exact .hit hy (SeqAt.EqAt.int_int i _ j _) (ih fun p' hm => hp p' (List.mem_cons_of_mem _ hm))
section
variable {X : Cx}
def rEqD : R2 := fun x y H Q => ∃ a b ks ls, x = .ref a ∧ y = .ref b ∧ H a = some (.dK ks) ∧ H b = some (.dK ls) ∧ IntVals ks ∧ IntVals ls ∧ Q (.bl (dEq ks ls)) H
def rNeD : R2 := fun x y H Q => ∃ a b ks ls, x = .ref a ∧ y = .ref b ∧ H a = some (.dK ks) ∧ H b = some (.dK ls) ∧ IntVals ks ∧ IntVals ls ∧ Q (.bl (!dEq ks ls)) H
theorem op_eqDI (hu : X.A.units < cLine) : OpR X (compareOp .Eq) rEqD := by
  intro pins s σ H x y v u Q I rx ry h
  obtain ⟨a, b, ks, ls, rfl, rfl, ea, eb, i1, i2, q⟩ := h
  cases (show v = Value.ref a from rx)
  cases (show u = Value.ref b from ry)
  obtain ⟨_, ya, va, ra, da⟩ := (show ObjOk X.prog X.w H s.heap a (.dK ks) from I.hok a _ ea)
  obtain ⟨_, yb, vb, rb, db⟩ := (show ObjOk X.prog X.w H s.heap b (.dK ls) from I.hok b _ eb)
  refine PySem.W.keq_eq (knd := mixKind X.prog X.w) ya yb da db hu (fun _ => hits_int rb i2 ra i1) (fin_bl I q ?_)
  unfold dEq
  rw [ra.length, rb.length]
end
end U
namespace U
open PySem PySem.Spec PyProof.Rows L2
/-! ### heaps -/
def Off (d : Addr) (H H' : Hp) : Prop := ∀ b o, b ≠ d → H b = some o → H' b = some o
theorem Same.new {H : Hp} {p : Addr} {o : HO} (h : H p = none) : L2.Same H (upd H p o) := fun b u e => by rw [upd_ne (ne_of_none e h)]; exact e
theorem Off.tr {d : Addr} {H H1 H2 : Hp} (a : Off d H H1) (b : Off d H1 H2) : Off d H H2 := fun c o hc e => b c o hc (a c o hc e)
theorem Off.lock {d : Addr} {H : Hp} {o : HO} : Off d H (upd H d o) := fun b u hb e => by rw [upd_ne hb]; exact e
theorem Off.new {d p : Addr} {H : Hp} {o : HO} (h : H p = none) : Off d H (upd H p o) := fun b u _ e => by rw [upd_ne (ne_of_none e h)]; exact e
theorem Off.free {d p : Addr} {H H' : Hp} {u : HO} (a : Off d H H') (hd : H' d = some u) (h : H' p = none) : H p = none := by
  cases e : H p with
  | none => rfl
  | some o =>
    by_cases hp : p = d
    · subst hp; rw [hd] at h; cases h
    · rw [a p o hp e] at h; cases h
theorem Off.back {d : Addr} {H H' : Hp} {u : HO} (a : Off d H H') (hd : H d = some u) : L2.Same H (upd H' d u) := fun b o e => by
  by_cases hb : b = d
  · subst hb; rw [hd] at e; cases e; exact upd_same
  · rw [upd_ne hb]; exact a b o hb e
/-- an object of the heap behind, that was not there ahead, may be changed -/
theorem Off.mut {d p : Addr} {H H' : Hp} {o : HO} (a : Off d H H') (h : H p = none) : Off d H (upd H' p o) := fun b u hb e => by rw [upd_ne (ne_of_none e h)]; exact a b u hb e
/-! ### a dict of ints -/
def kvI (l : List (Int × Int)) : List (Key × V) := l.map fun p => (Sum.inl p.1, V.int p.2)
theorem kvI_length (l : List (Int × Int)) : (kvI l).length = l.length := by simp [kvI]
theorem kvI_get {l : List (Int × Int)} {i : Nat} {k : Key} {v : V} (h : (kvI l)[i]? = some (k, v)) : ∃ x y, l[i]? = some (x, y) ∧ k = .inl x ∧ v = .int y := by
  unfold kvI at h
  rw [List.getElem?_map] at h
  cases e : l[i]? with
  | none => rw [e] at h; cases h
  | some p =>
    rw [e] at h
    obtain ⟨x, y⟩ := p
    cases h
    exact ⟨x, y, rfl, rfl, rfl⟩
def lk (l : List (Int × Int)) (x : Int) : Option Int := (l.find? fun p => decide (p.1 = x)).map (·.2)
theorem valV_kvI (l : List (Int × Int)) (x : Int) : valV (kvI l) (Sum.inl x : Key) = (lk l x).map V.int := by
  induction l with
  | nil => rfl
  | cons p r ih =>
    obtain ⟨a, b⟩ := p
    by_cases h : a = x
    · subst h
      rw [show kvI ((a, b) :: r) = (Sum.inl a, V.int b) :: kvI r from rfl, valV_pos rfl]
      simp [lk]
    · rw [show kvI ((a, b) :: r) = (Sum.inl a, V.int b) :: kvI r from rfl, valV_neg (fun z => h (Sum.inl.inj z)), ih]
      simp [lk, h]
theorem lk_none {l : List (Int × Int)} {x : Int} (h : x ∉ l.map (·.1)) : lk l x = none := by
  unfold lk
  rw [List.find?_eq_none.mpr]
  · rfl
  · intro p hp
    simp only [decide_eq_true_eq]
    exact fun e => h (List.mem_map.mpr ⟨p, hp, e⟩)
theorem lk_some {l : List (Int × Int)} (nd : (l.map (·.1)).Nodup) {x y : Int} (h : (x, y) ∈ l) : lk l x = some y := by
  induction l with
  | nil => cases h
  | cons p r ih =>
    obtain ⟨a, b⟩ := p
    rw [List.map_cons, List.nodup_cons] at nd
    rcases List.mem_cons.mp h with h | h
    · cases h; simp [lk]
    · have ne : ¬ a = x := fun z => nd.1 (by rw [z]; exact List.mem_map.mpr ⟨(x, y), h, rfl⟩)
      have := ih nd.2 h
      simpa [lk, ne] using this
theorem lk_mem {l : List (Int × Int)} {x y : Int} (h : lk l x = some y) : (x, y) ∈ l := by
  unfold lk at h
  cases e : l.find? (fun p => decide (p.1 = x)) with
  | none => rw [e] at h; cases h
  | some p =>
    rw [e] at h
    obtain ⟨a, b⟩ := p
    have h1 := List.find?_some e
    simp only [decide_eq_true_eq] at h1
    have h2 : b = y := Option.some.inj h
    subst h1 h2
    exact List.mem_of_find?_eq_some e
theorem intVals_kvI (l : List (Int × Int)) : IntVals (kvI l) := by
  intro p hp
  unfold kvI at hp
  obtain ⟨q, _, rfl⟩ := List.mem_map.mp hp
  exact ⟨q.2, rfl⟩
theorem putK_kvI {l : List (Int × Int)} {x y : Int} (h : x ∉ l.map (·.1)) : putK (kvI l) (Sum.inl x : Key) (V.int y) = kvI (l ++ [(x, y)]) := by
  have e : valV (kvI l) (Sum.inl x : Key) = none := by rw [valV_kvI, lk_none h]; rfl
  rw [putK_new _ e]
  simp [kvI]
theorem lk_append {l r : List (Int × Int)} {x : Int} : lk (l ++ r) x = (lk l x).or (lk r x) := by
  unfold lk
  rw [List.find?_append]
  cases l.find? (fun p => decide (p.1 = x)) <;> rfl
theorem lk_cons (a b : Int) (r : List (Int × Int)) (z : Int) : lk ((a, b) :: r) z = if a = z then some b else lk r z := by
  by_cases h : a = z <;> simp [lk, h]
theorem lk_mapOff (r : List (Int × Int)) (x y z : Int) (hz : ¬ z = x) : lk (r.map fun p => if p.1 = x then (p.1, y) else p) z = lk r z := by
  induction r with
  | nil => rfl
  | cons p r ih =>
    obtain ⟨a, b⟩ := p
    rw [List.map_cons]
    by_cases ha : a = x
    · subst ha
      have hz' : ¬ a = z := fun q => hz q.symm
      rw [if_pos rfl, lk_cons, lk_cons, if_neg hz', if_neg hz', ih]
    · rw [if_neg ha, lk_cons, lk_cons, ih]
theorem lk_mapPut {x y : Int} : ∀ (l : List (Int × Int)), x ∈ l.map (·.1) → ∀ z, lk (l.map fun p => if p.1 = x then (p.1, y) else p) z = if z = x then some y else lk l z
  | [], h, z => by cases h
  | (a, b) :: r, h, z => by
    by_cases hz : z = x
    · subst hz
      rw [if_pos rfl, List.map_cons]
      by_cases ha : a = z
      · subst ha
        rw [if_pos rfl, lk_cons, if_pos rfl]
      · rw [if_neg ha, lk_cons, if_neg ha]
        have h' : z ∈ r.map (·.1) := by
          rcases List.mem_cons.mp h with q | q
          · exact absurd q.symm ha
          · exact q
        rw [lk_mapPut r h' z, if_pos rfl]
    · rw [if_neg hz, lk_mapOff _ _ _ _ hz]
theorem putK_lk {l : List (Int × Int)} {x y : Int} : ∃ l', putK (kvI l) (Sum.inl x : Key) (V.int y) = kvI l' ∧ l'.length ≤ l.length + 1 ∧ ((l.map (·.1)).Nodup → (l'.map (·.1)).Nodup) ∧ ∀ z, lk l' z = if z = x then some y else lk l z := by
  by_cases h : x ∈ l.map (·.1)
  · refine ⟨l.map fun p => if p.1 = x then (p.1, y) else p, ?_, by simp, fun nd => ?_, fun z => ?_⟩
    · unfold putK
      rw [if_pos (by
        obtain ⟨p, hp, e⟩ := List.mem_map.mp h
        rw [List.any_eq_true]
        exact ⟨(Sum.inl p.1, V.int p.2), List.mem_map.mpr ⟨p, hp, rfl⟩, by simp [e]⟩)]
      unfold kvI
      rw [List.map_map, List.map_map]
      refine List.map_congr_left fun p _ => ?_
      by_cases e : p.1 = x
      · simp [e]
      · have e' : ¬ (Sum.inl p.1 : Key) = Sum.inl x := fun q => e (Sum.inl.inj q)
        simp [e]
    · have e : (l.map fun p => if p.1 = x then (p.1, y) else p).map (·.1) = l.map (·.1) := by
        rw [List.map_map]
        refine List.map_congr_left fun p _ => ?_
        by_cases e : p.1 = x <;> simp [e]
      rw [e]; exact nd
    · exact lk_mapPut l h z
  · refine ⟨l ++ [(x, y)], putK_kvI h, by simp, fun nd => ?_, fun z => ?_⟩
    · rw [List.map_append, List.nodup_append]
      refine ⟨nd, by simp, fun a ha b hb e => ?_⟩
      simp at hb
      subst hb
      exact h (e ▸ ha)
    · rw [lk_append]
      by_cases hz : z = x
      · subst hz; rw [lk_none h]; simp [lk]
      · have hz' : ¬ x = z := fun q => hz q.symm
        cases lk l z <;> simp [lk, hz, hz']
end U
namespace U
open PySem PySem.Spec PyProof.Rows L2
section
variable {J : It} {n : Nat} {G : Hp → Prop} {Y : Nat → Hp → V → Hp → Prop}
/-- a dict comprehension over a walk -/
theorem dc_it (w : Walk J n G Y) {g : TG} {tt : TT} {tk tv : TE} {vs : List Nat} {σ : L2.St} {H1 : Hp} {D : Addr} {Qd : Hp → Prop} (Pv : Nat → Hp → Prop) (h0 : Pv 0 (upd H1 D (.dK []))) (hG : ∀ i H, i ≤ n → Pv i H → G H)
    (hs : ∀ i x H H', i < n → Pv i H → Y i H x H' → g x (wipe σ vs) H' fun σ2 H2 => wipe σ2 vs = wipe σ vs ∧ tt σ2 H2 fun b H3 =>
      if b = true then tk σ2 H3 fun y H4 => tv σ2 H4 fun z H5 => ∃ kvs k, y = kV k ∧ H5 D = some (.dK kvs) ∧ kvs.length < sizeLine ∧ Pv (i + 1) (upd H5 D (.dK (putK kvs k z))) else Pv (i + 1) H3) (hd : ∀ H, Pv n H → Qd H) :
    ∃ W : Nat → Nat → Hp → Prop, (∃ m, W 0 m (upd H1 D (.dK []))) ∧ ∀ i m H, W i m H →
      (J.stop i H ∧ Qd H) ∨ (J.go i H ∧ ∃ Nx : Hp → Prop, (∀ H', Nx H' → ∃ m', m' < m ∧ W (i + 1) m' H') ∧ ∀ x H', J.yld i H x H' → g x (wipe σ vs) H' fun σ2 H2 => wipe σ2 vs = wipe σ vs ∧ tt σ2 H2 fun b H3 =>
        if b = true then tk σ2 H3 fun y H4 => tv σ2 H4 fun z H5 => ∃ kvs k, y = kV k ∧ H5 D = some (.dK kvs) ∧ kvs.length < sizeLine ∧ Nx (upd H5 D (.dK (putK kvs k z))) else Nx H3) := by
  refine ⟨fun i m H => m = n - i ∧ i ≤ n ∧ Pv i H, ⟨n, by simp, Nat.zero_le _, h0⟩, ?_⟩
  rintro i m H ⟨rfl, hi, p⟩
  have q := hG i H hi p
  by_cases hlt : i < n
  · exact .inr ⟨w.goes i H hlt q, Pv (i + 1), fun H' p' => ⟨n - (i + 1), by omega, rfl, hlt, p'⟩, fun x H' y => hs i x H H' hlt p (w.yields i H x H' hlt q y)⟩
  · have e : i = n := by omega
    subst e
    exact .inl ⟨w.stops H q, hd H p⟩
end
theorem take_more {α : Type} {l : List α} {i : Nat} {x : α} (h : l[i]? = some x) : l.take (i + 1) = l.take i ++ [x] := by
  rw [List.take_add_one, h]; rfl
theorem valV_none {kvs : List (Key × V)} {k : Key} (h : k ∉ kvs.map (·.1)) : valV kvs k = none := by
  unfold valV
  rw [List.find?_eq_none.mpr]
  · rfl
  · intro p hp
    simp only [decide_eq_true_eq]
    exact fun e => h (List.mem_map.mpr ⟨p, hp, e⟩)
/-- {k: v for x in range(lo, ..) if ..} -/
def madeR (c : Int → Bool) (kf : Int → Int) (vf : Int → V) (n : Nat) : List (Key × V) := ((List.range n).filter fun (i : Nat) => c (i : Int)).map fun (i : Nat) => ((Sum.inl (kf (i : Int)) : Key), vf (i : Int))
theorem madeR_succ (c : Int → Bool) (kf : Int → Int) (vf : Int → V) (n : Nat) : madeR c kf vf (n + 1) = madeR c kf vf n ++ (if c (n : Int) = true then [((Sum.inl (kf (n : Int)) : Key), vf (n : Int))] else []) := by
  unfold madeR
  rw [List.range_succ, List.filter_append, List.map_append]
  by_cases h : c (n : Int) = true
  · simp [h]
  · have h' : c (n : Int) = false := by simpa using h
    simp [h']
theorem madeR_len (c : Int → Bool) (kf : Int → Int) (vf : Int → V) (n : Nat) : (madeR c kf vf n).length ≤ n := by
  unfold madeR
  rw [List.length_map]
  exact Nat.le_trans (List.length_filter_le _ _) (by simp)
theorem madeR_keys {c : Int → Bool} {vf : Int → V} {n k : Nat} (h : (Sum.inl (k : Int) : Key) ∈ (madeR c (fun x => x) vf n).map (·.1)) : k < n := by
  unfold madeR at h
  rw [List.map_map] at h
  obtain ⟨i, hi, e⟩ := List.mem_map.mp h
  have h1 := (List.mem_filter.mp hi).1
  rw [List.mem_range] at h1
  have : (i : Int) = (k : Int) := Sum.inl.inj e
  omega
theorem dc_range {wi : TI} {i : Nat} {tt : TT} {tk tv : TE} {vs : List Nat} {σ : L2.St} {H0 H : Hp} {Q : VK} {n : Nat} (c : Int → Bool) (vf : Int → V) (hwi : ∀ R : It → Hp → Prop, R (Itr 0 n) H → wi σ H0 R)
    (hw : ∀ a, wipe ((wipe σ vs).set i a) vs = wipe σ vs)
    (hb : ∀ k : Nat, k < n → ∀ H1, L2.Same H H1 → (∀ R : Bool → Hp → Prop, R (c (k : Int)) H1 → tt ((wipe σ vs).set i (some (.int (0 + (k : Nat))))) H1 R) ∧
      (c (k : Int) = true → (∀ R : VK, R (.int (k : Int)) H1 → tk ((wipe σ vs).set i (some (.int (0 + (k : Nat))))) H1 R) ∧ ∀ R : VK, R (vf (k : Int)) H1 → tv ((wipe σ vs).set i (some (.int (0 + (k : Nat))))) H1 R))
    (hz : n < sizeLine) (hq : ∀ D H', H D = none → H' D = some (.dK (madeR c (fun x => x) vf n)) → L2.Same H H' → Q (.ref D) H') :
    tDc wi (gName i) tt tk tv vs σ H0 Q := by
  refine hwi _ ?_
  intro D hD
  refine dc_it walk_range (fun k H' => L2.Same H H' ∧ H' D = some (.dK (madeR c (fun x => x) vf k))) ⟨Same.new hD, upd_same⟩ (fun _ _ _ _ => trivial) ?_ ?_
  · rintro k v H' H'' hk ⟨p1, p2⟩ ⟨rfl, rfl⟩
    refine ⟨hw _, ?_⟩
    obtain ⟨b1, b2⟩ := hb k hk _ p1
    refine b1 _ ?_
    cases hc : c (k : Int) with
    | true =>
      refine iteT ?_
      obtain ⟨b3, b4⟩ := b2 hc
      refine b3 _ (b4 _ ⟨_, Sum.inl (k : Int), rfl, p2, Nat.lt_of_le_of_lt (madeR_len ..) (Nat.lt_trans hk hz), ?_, ?_⟩)
      · intro b o e
        rw [upd_ne (ne_of_none e hD)]
        exact p1 b o e
      · rw [upd_same, putK_new _ (valV_none fun z => Nat.lt_irrefl _ (madeR_keys z)), madeR_succ, if_pos hc]
    | false =>
      refine iteF ⟨p1, ?_⟩
      rw [madeR_succ, hc, p2]
      simp
  · rintro H' ⟨p1, p2⟩
    exact hq D _ hD p2 p1
end U
namespace U
open PySem PySem.Spec PyProof.Rows L2
/-- [v for x, y in d.items() if ..], the tests and parts reading alone -/
def madeL (c : Int → Int → Bool) (vf : Int → Int → V) (l : List (Int × Int)) : List V := (l.filter fun p => c p.1 p.2).map fun p => vf p.1 p.2
theorem madeL_step {c : Int → Int → Bool} {vf : Int → Int → V} {l : List (Int × Int)} {i : Nat} {x y : Int} (h : l[i]? = some (x, y)) :
    madeL c vf (l.take (i + 1)) = madeL c vf (l.take i) ++ (if c x y = true then [vf x y] else []) := by
  rw [take_more h]
  unfold madeL
  rw [List.filter_append, List.map_append]
  by_cases hc : c x y = true
  · simp [hc]
  · have hc' : c x y = false := by simpa using hc
    simp [hc']
theorem madeL_len (c : Int → Int → Bool) (vf : Int → Int → V) (l : List (Int × Int)) (i : Nat) : (madeL c vf (l.take i)).length ≤ l.length := by
  unfold madeL
  rw [List.length_map]
  exact Nat.le_trans (List.length_filter_le _ _) (by rw [List.length_take]; omega)
theorem lc_items {K : PySem.W.Frag} {d : Addr} {l : List (Int × Int)} {te : TE} {i j : Nat} {tt : TT} {tv : TE} {vs : List Nat} {σ : L2.St} {H : Hp} {Q : VK} (c : Int → Int → Bool) (vf : Int → Int → V)
    (hd : H d = some (.dK (kvI l))) (hte : ∀ H' (R : VK), R (.ref d) H' → Off d H H' → te σ H' R)
    (hw : ∀ a b, wipe (((wipe σ vs).set i a).set j b) vs = wipe σ vs)
    (hb : ∀ x y, (x, y) ∈ l → ∀ H1, Off d H H1 → (∀ R : Bool → Hp → Prop, R (c x y) H1 → tt (((wipe σ vs).set i (some (.int x))).set j (some (.int y))) H1 R) ∧
      (c x y = true → ∀ R : VK, R (vf x y) H1 → tv (((wipe σ vs).set i (some (.int x))).set j (some (.int y))) H1 R))
    (hz : l.length < sizeLine)
    (hq : ∀ D H', H D = none → H' D = some (.lst (madeL c vf l)) → L2.Same H H' → Q (.ref D) H') :
    tLockE (tLc (iItems te) (gTup K 2 (gCons (gName i) (gCons (gName j) gNil))) tt tv vs) σ H Q := by
  refine ⟨d, _, hd, trivial, fun od => ?_⟩
  refine hte _ _ ⟨d, od, kvI l, rfl, upd_same, fun D hD => ?_⟩ Off.lock
  have hDd : D ≠ d := fun e => by rw [e, upd_same] at hD; cases hD
  have hD0 : H D = none := by rw [upd_ne hDd] at hD; exact hD
  refine lc_it walk_items (fun k H' => H' d = some (.frz od (.dK (kvI l))) ∧ Off d H H' ∧ H' D = some (.lst (madeL c vf (l.take k)))) ⟨?_, Off.lock.mut hD0, upd_same⟩ (fun k H' _ p => p.1) ?_ ?_
  · rw [upd_ne hDd.symm]; exact upd_same
  · rintro k v H' H'' hk ⟨p1, p2, p3⟩ ⟨T, a, b, rfl, hT, rfl, e1, e2⟩
    rw [kvI_length] at hk
    obtain ⟨⟨x, y⟩, exy⟩ : ∃ p, l[k]? = some p := ⟨_, List.getElem?_eq_getElem hk⟩
    have ek : (kvI l)[k]? = some (Sum.inl x, V.int y) := by unfold kvI; rw [List.getElem?_map, exy]; rfl
    dsimp only at e1 e2
    rw [ek] at e1 e2
    cases e1; cases e2
    have nTd : d ≠ T := ne_of_none p1 hT
    have nTD : D ≠ T := ne_of_none p3 hT
    refine ⟨T, [.int x, .int y], rfl, SqT.of upd_same, rfl, .int x, [.int y], rfl, .int y, [], rfl, rfl, ?_⟩
    refine ⟨hw _ _, ?_⟩
    have o2 : Off d H (upd H' T (.tup [.int x, .int y])) := p2.tr (Off.new hT)
    obtain ⟨b1, b2⟩ := hb x y (List.mem_of_getElem? exy) _ o2
    refine b1 _ ?_
    have d3 : (upd H' T (.tup [.int x, .int y])) d = some (.frz od (.dK (kvI l))) := by rw [upd_ne nTd]; exact p1
    have D3 : (upd H' T (.tup [.int x, .int y])) D = some (.lst (madeL c vf (l.take k))) := by rw [upd_ne nTD]; exact p3
    have st := madeL_step (c := c) (vf := vf) exy
    cases hc : c x y with
    | true =>
      rw [hc, if_pos rfl] at st
      refine iteT (b2 hc _ ⟨_, D3, Nat.lt_of_le_of_lt (madeL_len ..) hz, ?_⟩)
      refine ⟨?_, o2.mut hD0, ?_⟩
      · rw [upd_ne hDd.symm]; exact d3
      · rw [upd_same, st]
    | false =>
      rw [hc, if_neg Bool.false_ne_true, List.append_nil] at st
      refine iteF ⟨d3, o2, ?_⟩
      rw [st]
      exact D3
  · rintro H' ⟨p1, p2, p3⟩
    rw [kvI_length, List.take_length] at p3
    refine ⟨p1, hq D _ hD0 ?_ (p2.back hd)⟩
    rw [upd_ne hDd]
    exact p3
end U
/-! ### own errors over any built-in error -/
namespace PySem
namespace GEX
open PySem.W PySem.Calls PyProof.Rows PySem.HandSPX Builtin Builtin.ObjectAttr
section
variable {prog : Program} {w : World} {A : Around} {E : Value → Shared → Prop} {R : Result → Shared → Prop} {hp : Heap} {gs : Array GenState} {dr : Drawn} {tn : Nat} {os : OsState}
/-- what is asked of the class's chain -/
structure Mro (m : List Value) : Prop where
  ob : m.contains (.type "object") = true
  ne : m.isEmpty = false
  ps : ∀ self : Value, refuseLoop self "__setattr__" m = pure ()
theorem mro_of {bmB bm : List Value} {B : String} (SF : StoreFacts B bmB "object.__setattr__" "object") (h : excTail bmB bm = true) (C : Addr) : Mro (.ref C :: bm) := by
  have h' : excTail bmB (.ref C :: bm) = true := h
  exact ⟨(excTail_contains "object" _ h').trans SF.hasOwner, rfl, fun self => excTail_pass self (SF.passes self) _ h'⟩
theorem osa_first {K : Frag} {nm : Str} {tk : Tok} {v : Value} {x C : Addr} {fv : Array Value} {cd : ClassData} (X : K.In hp) (hx : hp.get? x = some { cls := .ref C, data := .fields fv }) (hcd : clsIn K C = some cd) (hm : Mro cd.mro) (hh : cd.hasDict = true) (ha : findIn K (.ref C) nm = some none)
    (hq : ∀ h' tk' dx, (∀ b o, b ≠ x → hp.get? b = some o → h'.get? b = some o) → hp.objs.size ≤ dx → dx ≠ x → h'.get? x = some { cls := .ref C, dict := some dx, data := .fields fv } → h'.Ns1 dx (fun y => if y = nm then some v else none) → R (.ok (.ret .none)) ⟨h', gs, dr, tk', os⟩) :
    codeAny (model prog w) A (.call (.builtin "object.__setattr__") ⟨[.ref x, .str nm tk, v], []⟩) R ⟨hp, gs, dr, tn, os⟩ := by
  have I : InstAt hp x { cls := .ref C, data := .fields fv } C none := ⟨hx, rfl, rfl, trivial⟩
  have hxs : x ≠ hp.objs.size := Nat.ne_of_lt (Heap.lt_size hx)
  have S0 := F.store_object
  have l1 : Looks (model prog w) hp (isInstance (.ref x) (.type "object")) true := I.type.andThen (looks_mroIn X (by unfold mroIn; rw [hcd, Option.bind_some, if_neg (by rw [hm.ne]; decide), hm.ob]))
  refine codeAny_call_builtin S0.slot.plain S0.entry ?_
  refine @check_slot (model prog w) _ _ ⟨hp, gs, dr, tn, os⟩ "object.__setattr__" "object" "__setattr__" (.ref x) [.str nm tk, v] [] _ S0.kind S0.split l1 (S0.args (.ref x) (.str nm tk) v) ?_
  have l2 : Looks (model prog w) hp (mroOf (.ref C)) cd.mro := (looks_clsIn X hcd).andThen .now
  have l3 : Looks (model prog w) hp (storeTaker? none) none := .now
  have l4 : Looks (model prog w) hp (classData C) cd := looks_clsIn X hcd
  rw [osa_eq, refuse_eq]
  refine wpAny_bind (wpAny_bind (I.type.at (wpAny_bind (l2.at ?_)))); rw [hm.ps]
  refine wpAny_pure (wpAny_bind (I.type.at (wpAny_bind ((looks_findIn X ha).at (wpAny_bind (l3.at ?_))))))
  show wpAny _ _ (storeInOwnDict (.ref x) (.ref C) (.str nm tk) nm v false) _ _ _
  obtain ⟨c1, c2, c3, c4, c5, c6, c7, c8, c9, c10, c11⟩ := cd
  have hh' : c6 = true := hh
  subst hh'
  unfold storeInOwnDict ownDictForStores
  repeat (first | with_reducible refine HandSPX.store_in_new ?_ ?_ | with_reducible refine wpAny_loadPart_at hx ?_ | with_reducible refine l4.at ?_ | wp_step)
  · refine ⟨_, #[], _, (Heap.get?_update_ne _ _ _ _ hxs.symm).trans (Heap.get?_push_at rfl rfl), rfl, fun e he => ?_, fun _ => rfl⟩
    simp at he
  · intro h' tk' hn' hs
    have hx1 : (hp.push { cls := .type "dict", data := .dict #[] }).get? x = some { cls := .ref C, data := .fields fv } := Heap.get?_push_of_some _ hx
    exact hq h' tk' hp.objs.size (fun b o hb ho => (hs.2 b (Nat.ne_of_lt (Heap.lt_size ho))).trans ((Heap.get?_update_ne _ _ _ _ hb).trans (Heap.get?_push_of_some _ ho))) (Nat.le_refl _) hxs.symm ((hs.2 x hxs).trans (Heap.get?_update_self _ hx1 rfl)) hn'
theorem osa_more {K : Frag} {nm : Str} {tk : Tok} {v : Value} {x C dx : Addr} {fv : Array Value} {cd : ClassData} {m0 : Str → Option Value} {nl : List Str} (X : K.In hp) (hx : hp.get? x = some { cls := .ref C, dict := some dx, data := .fields fv }) (hns : hp.Ns1 dx m0) (hw : Within m0 nl) (hz : nl.length ≤ 1000) (hcd : clsIn K C = some cd) (hm : Mro cd.mro) (hh : cd.hasDict = true) (ha : findIn K (.ref C) nm = some none)
    (hq : ∀ h' tk', (∀ b o, b ≠ dx → hp.get? b = some o → h'.get? b = some o) → h'.Ns1 dx (fun y => if y = nm then some v else m0 y) → R (.ok (.ret .none)) ⟨h', gs, dr, tk', os⟩) :
    codeAny (model prog w) A (.call (.builtin "object.__setattr__") ⟨[.ref x, .str nm tk, v], []⟩) R ⟨hp, gs, dr, tn, os⟩ := by
  obtain ⟨oD, _, _, hoD, _, _⟩ := hns.count hw
  have I : InstAt hp x { cls := .ref C, dict := some dx, data := .fields fv } C (some oD) := ⟨hx, rfl, rfl, hoD⟩
  have S0 := F.store_object
  have l1 : Looks (model prog w) hp (isInstance (.ref x) (.type "object")) true := I.type.andThen (looks_mroIn X (by unfold mroIn; rw [hcd, Option.bind_some, if_neg (by rw [hm.ne]; decide), hm.ob]))
  refine codeAny_call_builtin S0.slot.plain S0.entry ?_
  refine @check_slot (model prog w) _ _ ⟨hp, gs, dr, tn, os⟩ "object.__setattr__" "object" "__setattr__" (.ref x) [.str nm tk, v] [] _ S0.kind S0.split l1 (S0.args (.ref x) (.str nm tk) v) ?_
  have l2 : Looks (model prog w) hp (mroOf (.ref C)) cd.mro := (looks_clsIn X hcd).andThen .now
  have l3 : Looks (model prog w) hp (storeTaker? none) none := .now
  have l4 : Looks (model prog w) hp (classData C) cd := looks_clsIn X hcd
  rw [osa_eq, refuse_eq]
  refine wpAny_bind (wpAny_bind (I.type.at (wpAny_bind (l2.at ?_)))); rw [hm.ps]
  refine wpAny_pure (wpAny_bind (I.type.at (wpAny_bind ((looks_findIn X ha).at (wpAny_bind (l3.at ?_))))))
  show wpAny _ _ (storeInOwnDict (.ref x) (.ref C) (.str nm tk) nm v false) _ _ _
  obtain ⟨c1, c2, c3, c4, c5, c6, c7, c8, c9, c10, c11⟩ := cd
  have hh' : c6 = true := hh
  subst hh'
  unfold storeInOwnDict ownDictForStores
  repeat (first | with_reducible refine OEX.store_in_old hns hw hz ?_ | with_reducible refine wpAny_loadPart_at hx ?_ | with_reducible refine l4.at ?_ | wp_step)
  intro h' tk' hn' hs
  exact hq h' tk' (fun b o hb ho => (hs.2 b hb).trans ho) hn'
end
end GEX
end PySem
namespace L2
open PySem PySem.Spec PyProof.Rows PySem.W
/-- what the written part says of an own error class -/
structure OexG (K : PySem.W.Frag) (C : Addr) : Prop where
  cls : ∃ B newId initId bmB nm q N bs bm sn sub ab col dd k0 k1 k2 k3 k5, PySem.StoreFacts B bmB "object.__setattr__" "object" ∧ ExcBaseFacts B newId initId bmB ∧ K.lookup C = some (excClassObj nm q C N bs bm true sn sub ab col dd k0 k1 k2 k3 k5 newId) ∧ PySem.W.excTail bmB bm = true
  sa : PySem.W.findIn K (.ref C) "__setattr__" = some (some (.builtin "object.__setattr__"))
  exC : PySem.W.subIn K (.ref C) (.type "BaseException") = some true
  tyC : PySem.W.typeIn K (.ref C) = some (.type "type")
  kC : PySem.W.keepIn K (.ref C) = true
section
variable {X : Cx} {pins : List (Addr × Obj)} {σ : St} {H : Hp} {s : Shared} {a C dx : Addr} {f : Str} {y : V} {u : Value} {fs : List (Str × V)} {Q : Unit → Shared → Prop} {E : Value → Shared → Prop} {A : Around}
theorem OexG.look {K : PySem.W.Frag} {C : Addr} (T : OexG K C) : ∃ cd, PySem.W.clsIn K C = some cd ∧ PySem.GEX.Mro cd.mro ∧ cd.hasDict = true := by
  obtain ⟨B, nI, iI, bmB, nm, q, N, bs, bm, sn, sub, ab, col, dd, k0, k1, k2, k3, k5, SF, _, hC, hb⟩ := T.cls
  refine ⟨{ name := nm, bases := bs, mro := .ref C :: bm, ns := N, qualname := q, hasDict := true, slotNames := sn, subclasses := sub, abstract := ab, collection := col, hasDel := false }, ?_, PySem.GEX.mro_of SF hb C, rfl⟩
  unfold PySem.W.clsIn
  rw [hC] <;> rfl
/-- self.f = y, none there as yet -/
theorem ostG_new (T : OexG X.K C) (I : Inv X pins σ H s) (e : H a = some (exo a C none)) (hno : PySem.W.findIn X.K (.ref C) f = some none) (ry : RelV y u)
    (k : ∀ dx s', H dx = none → dx ≠ a → Inv X pins σ (upd (upd H dx (exd dx [(f, y)])) a (exo a C (some dx))) s' → Q () s') : wpAny (model X.prog X.w) A (setAttr (.ref a) f u) Q E s := by
  obtain ⟨cd, hcd, hmr, hdc⟩ := T.look
  obtain ⟨t1, ho⟩ := exo_at I.hok e
  obtain ⟨h0, gs, dr, tn, os⟩ := s
  refine PySem.W.set_plain I.kIn (ox := ⟨.ref C, none, .fields #[.ref t1, .none, .none, .none, .bool false, .none], #[]⟩) (od := none) ⟨ho, rfl, rfl, trivial⟩ T.sa ?_
  refine PySem.GEX.osa_first I.kIn ho hcd hmr hdc hno fun h' tk' dx kp dn dne hx hn => ?_
  have dfree : H dx = none := I.hok.fresh dn
  have low : ∀ {b : Addr} {o : Obj}, h0.get? b = some o → b ≠ dx := fun q => Nat.ne_of_lt (Nat.lt_of_lt_of_le (Heap.lt_size q) dn)
  have apart : ∀ {b : Addr}, H b = none → b ≠ a := fun {b} n z => by subst z; rw [e] at n; cases n
  have U1 : Un X.fs [] H (upd (upd H dx (exd dx [(f, y)])) a (exo a C (some dx))) h0 h' := by
    refine ⟨fun b o q n _ _ => kp b o (apart n) q, fun b o q n _ _ => ⟨o.slots, kp b o (apart n) q⟩, fun b o q n _ => ?_, fun b o q _ => ?_, fun b xs q => ?_, fun b o v q => ?_, fun b ps q => ⟨#[], ?_⟩⟩
    · rw [upd_ne (apart n), upd_ne (low q)]; exact n
    · by_cases hb : b = a
      · subst hb; exact ⟨_, hx⟩
      · exact ⟨o, kp b o hb q⟩
    · rw [upd_ne (at_ne e q exo_tup), upd_ne (ne_of_none q dfree)]; exact q
    · rw [upd_ne (at_ne e q exo_frz), upd_ne (ne_of_none q dfree)]; exact q
    · rw [upd_ne (at_ne e q exo_tbl), upd_ne (ne_of_none q dfree), q]; simp
  refine k dx _ dfree dne (I.un (t' := tk') U1 fun b o q => ?_)
  by_cases hb : b = a
  · subst hb; rw [upd_same] at q; cases q
    exact exo_ok hx
  · rw [upd_ne hb] at q
    by_cases hd : b = dx
    · subst hd; rw [upd_same] at q; cases q
      exact exd_ok hn (relO_put (fs := []) ry fun _ => True.intro)
    · rw [upd_ne hd] at q
      refine (I.hok b o q).stay (fun c v hc z => kp c v ?_ z) (fun c hc => ?_) (fun c xs hc => ?_)
      · rcases hc with rfl | hc
        · exact hb
        · exact at_ne e hc exo_own
      · rw [upd_ne (at_ne e hc exo_own), upd_ne (ne_of_none hc dfree)]; exact hc
      · rw [upd_ne (at_ne e hc exo_tup), upd_ne (ne_of_none hc dfree)]; exact hc
theorem ostG_old (T : OexG X.K C) (I : Inv X pins σ H s) (e : H a = some (exo a C (some dx))) (ed : H dx = some (exd dx fs)) (hl : fs.length ≤ 900) (hno : PySem.W.findIn X.K (.ref C) f = some none) (ry : RelV y u)
    (k : ∀ s', Inv X pins σ (upd H dx (exd dx ((f, y) :: fs))) s' → Q () s') : wpAny (model X.prog X.w) A (setAttr (.ref a) f u) Q E s := by
  obtain ⟨cd, hcd, hmr, hdc⟩ := T.look
  obtain ⟨t1, ho⟩ := exo_at I.hok e
  obtain ⟨mA, hns, rel⟩ := exd_at I.hok ed
  have win := within_of rel
  obtain ⟨oD, _, _, hoD, _, _⟩ := hns.count win
  obtain ⟨h0, gs, dr, tn, os⟩ := s
  refine PySem.W.set_plain I.kIn (ox := ⟨.ref C, some dx, .fields #[.ref t1, .none, .none, .none, .bool false, .none], #[]⟩) (od := some oD) ⟨ho, rfl, rfl, hoD⟩ T.sa ?_
  refine PySem.GEX.osa_more I.kIn ho hns win (by rw [List.length_map]; omega) hcd hmr hdc hno fun h' tk' kp hn => ?_
  have there : ∃ o, h'.get? dx = some o := by
    obtain ⟨o, _, _, e', _⟩ := hn
    exact ⟨o, e'⟩
  exact k _ (I.write (t' := tk') (x := dx) (e := dx) (o := exd dx ((f, y) :: fs)) (by rw [ed]; exact True.intro) (.inl rfl) kp there (exd_ok hn (relO_put ry rel)))
end
/-- self.f = e, self an error being made -/
def tOstG (K : PySem.W.Frag) (f : Str) (to te : TE) : TS := fun D σ H => te σ H fun y H1 => to σ H1 fun x H2 => ∃ a C : Addr, x = .ref a ∧ OexG K C ∧ PySem.W.findIn K (.ref C) f = some none ∧
  ((H2 a = some (exo a C none) ∧ ∀ dx, H2 dx = none → dx ≠ a → D.nx σ (upd (upd H2 dx (exd dx [(f, y)])) a (exo a C (some dx)))) ∨
    ∃ (dx : Addr) (fs : List (Str × V)), H2 a = some (exo a C (some dx)) ∧ H2 dx = some (exd dx fs) ∧ fs.length ≤ 900 ∧ D.nx σ (upd H2 dx (exd dx ((f, y) :: fs))))
section
variable {X : Cx} {o e : Expr} {es : List Expr} {to te : TE} {ta : TA} {f : Str} {p p' pos : Pos}
theorem ps_ostG (ho : PE X o to) (he : PE X e te) (hs : swapsWith e (some (.Attribute o f p')) pos.line X.env = pure false := by rfl) : PS X (.Assign [.Attribute o f p'] e pos) (tOstG X.K f to te) := by
  refine ⟨fun pins s σ H D I h => plainObj_wpAny_Assign_Attribute (thn (he.run pins s σ H _ I h) fun v s1 ⟨y, H1, I1, r1, q1⟩ => thn (ho.run pins s1 σ H1 _ I1 q1) fun u s2 ⟨x, H2, I2, r2, a, C, ex, T, hno, q⟩ => ?_) hs⟩
  subst ex
  cases (show u = Value.ref a from r2)
  rcases q with ⟨ea, q⟩ | ⟨dx, fs, ea, ed, hl, q⟩
  · exact ostG_new T I2 ea hno r1 fun dx _ n ne J => ⟨σ, _, J, q dx n ne⟩
  · exact ostG_old T I2 ea ed hl hno r1 fun _ J => ⟨σ, _, J, q⟩
/-- C(e, ..) -/
theorem pmk_oexG {CX : CXT} {x : Str} {C fI : Addr} {k : Nat} {sp : Sp} (T : OexG X.K C) (iC : PySem.W.findIn X.K (.ref C) "__init__" = some (some (.ref fI))) (tI : PySem.W.typeIn X.K (.ref fI) = some (.type "function"))
    (F1 : FnR X.prog X.w X.K X.mg X.base CX k fI sp) (hr : Room (k + 1) X.A) (hx : Passes CX X (fun _ _ _ => False)) (hg : Gl X x) (hm : X.mg x = some (.ref C)) (ha : PA X (e :: es) ta)
    (hdb : (x == ("__debug__" : Str)) = false := by decide) (he : starEach (e :: es) X.env = (false, eval e X.env) :: starEach es X.env := by rfl) (hpl : (backTo pos (starEach es X.env)).any (·.1) = false := by rfl) :
    PMk X (.Call (.Name x p) (e :: es) [] pos) (tMkO C sp [] ta) := by
  intro pins s σ H Q I h
  obtain ⟨B, nI, iI, bmB, nm, q, N, bs, bm, sn, sub, ab, col, dd, k0, k1, k2, k3, k5, _, BF, hC, hbm⟩ := T.cls
  refine wpAny_Call_Name_kw (ld_glob I hg hm ?_ hdb)
  refine PySem.W.callWith_K (h₀ := X.base) I.ok.mod.kin T.kC (thn (ha.run pos pins s σ H _ I h) fun us s1 ⟨vs, H1, I1, r1, hz, q1⟩ => ⟨I1.kIn, ?_⟩) he hpl
  show wpAny _ _ (call (.ref C) us) _ _ _
  obtain ⟨h0, gs, dr, tn, os⟩ := s1
  have up : h0.objs.size ≤ h0.objs.size + 1 := Nat.le_succ _
  have hq := q1 (h0.objs.size + 1) (I1.hok.fresh up)
  rw [List.append_nil] at hq
  have kk : ∀ b o, h0.get? b = some o → ((h0.push (PySem.W.kdv_tup us)).push (PySem.HandSPX.excO C h0.objs.size)).get? b = some o := fun b o z => Heap.get?_push_of_some _ (Heap.get?_push_of_some _ z)
  have there : ((h0.push (PySem.W.kdv_tup us)).push (PySem.HandSPX.excO C h0.objs.size)).get? (h0.objs.size + 1) = some (PySem.HandSPX.excO C h0.objs.size) := by heap_get
  have I2 : Inv X pins σ (upd H1 (h0.objs.size + 1) (exo (h0.objs.size + 1) C none)) ⟨(h0.push (PySem.W.kdv_tup us)).push (PySem.HandSPX.excO C h0.objs.size), gs, dr, tn, os⟩ := I1.laid (t' := tn) kk up (exo_ok there)
  have r2 : Vals (V.ref (h0.objs.size + 1) :: vs) (Value.ref (h0.objs.size + 1) :: us) := .cons rfl r1
  have hus : us.length ≤ sizeLine := by rw [← Paired.length r1, sizeLine_eq]; omega
  refine wpAny_call (PySem.HandSPX.call_own BF (fun Y => PySem.W.excTail_contains Y bm hbm) (I1.kIn _ _ hC) (PySem.W.looks_findIn I1.kIn iC) (fun self => PySem.W.bind_fn I1.kIn self tI) hus ?_)
  refine codeAny_mono (F1 _ X.stack _ _ (Value.ref (h0.objs.size + 1) :: us) _ _ (fun _ _ _ => False) (hr.make C us []) (I2.env0.make C us []) r2 hq) fun r s' hq' => ?_
  cases r with
  | error er => exact hx pins σ _ _ er s' I2 hq'
  | ok fl =>
    cases fl with
    | ret u =>
      obtain ⟨v, H2, os2, bare2, un2, hok2, rv, ev, d, fs, ea, ed, hd1, q2⟩ := hq'
      subst ev
      obtain ⟨h2, g2, d2, t2, os'⟩ := s'
      exact ⟨rv, mk_end (raises_own T.exC T.tyC) I1 up kk un2 hok2 os2 bare2 ea ed hd1 q2⟩
    | next => exact False.elim hq'
    | brk => exact False.elim hq'
    | cont => exact False.elim hq'
end
end L2
namespace U
open PySem PySem.Spec PyProof.Rows L2 StX
/-- isinstance(e, c), e the error that the suite holds, with its dict -/
def rIsG (K : PySem.W.Frag) (D a dd : Addr) : List V → Hp → VK → Prop := fun xs H Q => ∃ (c : V) (cv : Value) (b : Bool) (fs : List (Str × V)), xs = [.ref a, c] ∧ (∀ u, RelV c u → u = cv) ∧ PySem.W.kitOne K (.ref D) cv = some b ∧ H dd = some (.xd fs) ∧ Q (.bl b) H
theorem call_isG {X : Cx} {a D dd : Addr} {oe : Obj} {pn : List (Addr × Obj)} (C : ExcC X.K D) (hz : Zc (.ref D) (some dd) oe) (hf : ∃ vs, oe.data = .fields vs) : CallR (X.suite a ((a, oe) :: pn)) (.builtin "isinstance") (rIsG X.K D a dd) := by
  intro pins s σ H xs us Q I r h
  obtain ⟨c, cv, b, fs, rfl, hcv, e, ed, q⟩ := h
  match us, r with
  | [_, _], .cons rx (.cons rt .nil) =>
    cases rx
    cases hcv _ rt
    obtain ⟨there, _⟩ := I.pin (a, oe) (List.mem_append.mpr (.inl List.mem_cons_self))
    obtain ⟨vs, hv⟩ := hf
    obtain ⟨mA, hns, _⟩ := I.hok dd _ ed
    obtain ⟨od, ho, _⟩ := lookIn_ns hns
    have J : PySem.W.InstAt s.heap a oe D (some od) := ⟨there, hz.1, by unfold PySem.W.notCls; rw [hv] <;> rfl, by rw [hz.2]; exact ho⟩
    have hcl : (PySem.W.clsIn X.K D).isSome = true := by
      obtain ⟨cd, hc, _⟩ := PySem.W.any_some C.hd
      rw [hc]; rfl
    exact PySem.W.kia_one (PySem.W.kitx_exc hcl C.hg C.hk C.hs C.ha C.hn C.ht C.hm) I.kIn J e (fun z => nomatch z) fun tk => ⟨.bl b, H, I.kept (t' := tk) fun _ _ z => z, rfl, q⟩
end U
namespace U
open PySem PySem.Spec PyProof.Rows L2 StX
section
variable {X : Cx} {CX : CXT} {e : Expr} {es : List Expr} {te : TE} {t : TA} {p apos cpos pos : Pos} {k i : Nat} {f : Addr} {sp : Sp} {x : Str}
/-- list(e.values()) -/
def tListVals (te : TE) : TE := fun σ H Q => te σ H fun x H1 => ∃ (d : Addr) (kvs : List (Key × V)), x = .ref d ∧ H1 d = some (.dK kvs) ∧ ∀ q, H1 q = none → Q (.ref q) (upd H1 q (.lst (kvs.map (·.2))))
theorem pe_listVals (hc : X.calm = true) (he : PE X e te) (hg : Gl X "list") (hm : X.mg "list" = none) (hv : bootBuiltins "list" = some (.type "list")) (hbase : attributeBase e "values" X.env (eval e X.env) = eval e X.env := by rfl) (hline : (apos.endLine == cpos.line) = true := by rfl)
    (hs : starEach [.Call (.Attribute e "values" apos) [] [] cpos] X.env = (false, eval (.Call (.Attribute e "values" apos) [] [] cpos) X.env) :: starEach [] X.env := by rfl) :
    PE X (.Call (.Name "list" p) [.Call (.Attribute e "values" apos) [] [] cpos] [] pos) (tListVals te) := by
  refine ⟨fun pins s σ H Q I hq => wpAny_Call_Name_kw (ld_blt I hg hm hv (PyProof.Rows.callWith_type1 ?_ hs rfl))⟩
  rw [hs]
  show wpAny _ _ (spliced ((false, eval (.Call (.Attribute e "values" apos) [] [] cpos) X.env) :: backTo pos (starEach [] X.env))) _ _ s
  refine Calls.spliced_cons (wpAny_Call_method (T := "dict") (id := "dict.values") hbase rfl hline F.plainAttrs_dict F.slot_dict_values F.type_dict_values (thn (he.run pins s σ H _ I hq) fun u s1 ⟨x, H1, I1, rx, d, kvs, ex, hd, q⟩ => ?_))
  subst ex
  cases (show u = Value.ref d from rx)
  obtain ⟨hz, hs0, vs, kv, hdo⟩ := I1.hok d _ hd
  obtain ⟨ep, hat⟩ := hdo.dictAt
  have lk : kvs.length = vs.length := Paired.length kv
  have I2 : Inv X pins σ H1 { s1 with heap := s1.heap.push { cls := .type "dict_values", data := .fields #[.ref d] } } := I1.kept (t' := s1.toks) fun b ob z => Heap.get?_push_of_some _ z
  refine ⟨hdo.typeIs, hdo.mapOf.noDict, ?_⟩
  show wpAny _ _ (callWith cpos (.builtin "dict.values") [.ref d] [] []) _ X.xe s1
  refine method_meetsIn F.slot_dict_values F.entry_dict_values rfl (PySem.evalArgs_none ⟨rfl, hdo.typeIs, F.args_dict_values_1 _, _, meets_dict_values (mixKind X.prog X.w) d hs0, ⟨vs, hdo⟩, Calls.spliced_nil ?_⟩)
  refine PySem.W.kdl_call (PySem.W.kdl_values (knd := mixKind X.prog X.w) (kvs := vs) (ep := ep)) (I1.ok.hd hc) ⟨⟨_, Heap.get?_push_size _ rfl, rfl, rfl⟩, hat.push _⟩ (by rw [← lk]; exact hz) fun h' tk acc c hk hS hacc => ?_
  refine ⟨.ref _, _, I2.laid (t' := tk) hk (Nat.le_refl _) (show ObjOk X.prog X.w _ _ _ (.lst (kvs.map (·.2))) from ⟨?_, acc.toList, c, ?_, ?_⟩), rfl, q _ (I2.hok.fresh (Nat.le_refl _))⟩
  · rw [List.length_map]; exact hz
  · have el : acc.toList.length = acc.size := by simp
    refine vals_of_at (by rw [List.length_map, el, hacc.1, lk]) fun j y w h1 h2 => ?_
    obtain ⟨kk, hky⟩ := hacc.2 j w (by rw [← Array.getElem?_toList]; exact h2)
    rw [List.getElem?_map] at h1
    cases e1 : kvs[j]? with
    | none => rw [e1] at h1; cases h1
    | some pr =>
      rw [e1] at h1
      obtain ⟨k1, v1⟩ := pr
      cases h1
      obtain ⟨u2, hu2, ru2⟩ := kv_get kv e1
      rw [hky] at hu2
      cases hu2
      exact ru2
  · rw [Array.toArray_toList]; exact hS
end
end U
namespace U
open PySem PySem.Spec PyProof.Rows L2
/-! ### own errors with one or two fields -/
def spIni1 (C : Addr) (f : Str) : Sp := fun vs H Q _ => ∃ (a : Addr) (v : V), vs = [.ref a, v] ∧ H a = some (exo a C none) ∧ ∀ dx, H dx = none → dx ≠ a → Q .non (upd (upd H dx (exd dx [(f, v)])) a (exo a C (some dx)))
theorem mk_one {C : Addr} {f : Str} {v : V} {H : Hp} {Q : XK} (h : ∀ d, H d = none → Q (.ref C) (some d) (upd H d (.xd [(f, v)]))) :
    [v].length ≤ 1000 ∧ ∀ a, H a = none → spIni1 C f (.ref a :: ([v] ++ [])) (upd H a (exo a C none))
      (fun z H2 => z = .non ∧ ∃ (d : Addr) (fs : List (Str × V)), H2 a = some (exo a C (some d)) ∧ H2 d = some (exd d fs) ∧ H d = none ∧ Q (.ref C) (some d) (upd (del H2 a) d (.xd fs))) (fun _ _ _ => False) := by
  refine ⟨(by show 1 ≤ 1000; decide), fun a ha => ⟨a, v, rfl, upd_same, fun dx hd ne => ⟨rfl, dx, [(f, v)], upd_same, ?_, ?_, ?_⟩⟩⟩
  · rw [upd_ne ne, upd_same]
  · rw [upd_ne ne] at hd; exact hd
  · rw [upd_ne ne] at hd
    have e : upd (del (upd (upd (upd H a (exo a C none)) dx (exd dx [(f, v)])) a (exo a C (some dx))) a) dx (.xd [(f, v)]) = upd H dx (.xd [(f, v)]) := by
      funext b
      by_cases h1 : b = dx
      · subst h1; rw [upd_same, upd_same]
      · rw [upd_ne h1, upd_ne h1]
        by_cases h2 : b = a
        · subst h2
          rw [ha]
          unfold del
          simp
        · unfold del
          simp only [h2, if_false]
          rw [upd_ne h2, upd_ne h1, upd_ne h2]
    rw [e]
    exact h dx hd
end U
namespace U
open PySem PySem.Spec PyProof.Rows L2
/-- isinstance(e, c), e the error that the suite holds; its class told by the reading -/
def rIsH (K : PySem.W.Frag) (D a : Addr) (cls : Value) (d : Option Addr) : List V → Hp → VK → Prop := fun xs H Q => ∃ dd, cls = .ref D ∧ d = some dd ∧ rIsG K D a dd xs H Q
theorem call_isH {X : Cx} {a D : Addr} {cls : Value} {d : Option Addr} {oe : Obj} {pn : List (Addr × Obj)} (C : ExcC X.K D) (hz : Zc cls d oe) (hf : ∃ vs, oe.data = .fields vs) : CallR (X.suite a ((a, oe) :: pn)) (.builtin "isinstance") (rIsH X.K D a cls d) := by
  intro pins s σ H xs us Q I r h
  obtain ⟨dd, rfl, rfl, h⟩ := h
  exact call_isG C hz hf pins s σ H xs us Q I r h
end U
namespace U
open PySem PySem.Spec PyProof.Rows L2 StX
/-! ### defs that are called where no repr runs around them -/
def FnG (P : Program) (w : World) (K : PySem.W.Frag) (mg : Str → Option Value) (base : Heap) (CX : CXT) (k : Nat) (f : Addr) (sp : Sp) : Prop :=
  ∀ (A : Around) (outer : List Env) (s : Shared) (H : Hp) (us : List Value) (vs : List V) (Q : VK) (E : XK), A.guards = some [] → Room k A → Env0 P w K mg base A outer s H → Vals vs us → sp vs H Q E → codeAny (model P w) A (.call (.ref f) ⟨us, []⟩) (CR CX outer P w H s Q E) s
section
variable {P : Program} {w : World} {K : PySem.W.Frag} {mg : Str → Option Value} {base : Heap} {CX : CXT} {j k : Nat} {f : Addr} {sp sp' : Sp}
theorem FnG.mono (F : FnG P w K mg base CX j f sp) (h : j ≤ k) : FnG P w K mg base CX k f sp := fun A outer s H us vs Q E g hr => F A outer s H us vs Q E g (hr.mono h)
theorem FnG.imp (F : FnG P w K mg base CX k f sp) (h : ∀ vs H Q E, sp' vs H Q E → sp vs H Q E) : FnG P w K mg base CX k f sp' := fun A outer s H us vs Q E g hr e0 r z => F A outer s H us vs Q E g hr e0 r (h _ _ _ _ z)
/-- the body's walk, with what is around -/
theorem bodyG {x qual : Str} {st : Stmt} {fd : FuncData} {N ps : List Str} (F : Fun K x qual st f fd) (S : FnScope N ps (defScope st)) (len : ∀ vs H Q E, sp vs H Q E → vs.length = ps.length)
    (hbody : ∀ (cdv : Value) (A : Around) (outer : List Env) (s : Shared) (H : Hp) (vs : List V) (Q : VK) (E : XK), A.guards = some [] → Room k (A.deeper (envOfC qual (defScope st) s.heap.objs.size f cdv)) → sp vs H Q E →
      ∃ t, PSs (cxOf CX P w K mg base N qual (defScope st) f cdv A outer s H E) (defBody st) t ∧ t { nx := fun _ H' => Q .non H', rt := Q } (start N vs) H)
    (A : Around) (outer : List Env) (s : Shared) (H : Hp) (args : Args) (us : List Value) (vs : List V) (Q : VK) (E : XK) (g : A.guards = some []) (hr : Room (k + 1) A) (e0 : Env0 P w K mg base A outer s H) (hb : BindsTo s fd args (ps.zip us)) (r : Vals vs us) (hs : sp vs H Q E) :
    codeAny (model P w) A (.call (.ref f) args) (CR CX outer P w H s Q E) s := by
  obtain ⟨oc, od, kV, doc, pm, an, cdv, ct, osl, rfl, lk, hcd⟩ := F.ex
  have hl := len _ _ _ _ hs
  have kin : K.In s.heap := e0.mod.kin.keeps fun b o e => (e0.bs b o e).1
  have lim : s.heap.NoLimit := e0.mod.nolimit.keeps fun b o e => (e0.bs b o e).1
  have names : ∀ y ∈ ps.zip us, (defScope st).names.lookup y.1 = some .local ∨ ((defScope st).names.lookup y.1 = some .cell ∧ ((cellsFrom (s.heap.objs.size + 1) (defScope st).names []).lookup y.1).isSome = true) := by
    rintro ⟨n, v⟩ hy
    rcases S.par n (List.of_mem_zip hy).1 with q | q
    · exact .inl q
    · exact .inr ⟨q, PySem.W.cellsFrom_some _ _ _ (.inl q)⟩
  refine codeAny_call_function hr.depth (kin _ _ lk) rfl S.co S.gen rfl (PySem.W.codeRec_of kin hcd) (hb _ _ _ _ ?_)
  refine wpAny_newFunctionEnv_cells S.kind names fun env he s1 z => ?_
  subst he
  refine ⟨lim.keeps z.toInCall.keep, codeAny_func ?_⟩
  obtain ⟨t, ht, hq⟩ := hbody cdv A outer s H vs Q E g (hr.deeper _) hs
  have I : Inv (cxOf CX P w K mg base N qual (defScope st) f cdv A outer s H E) [] (start N vs) H s1 := inv_start S hr.hd e0 hl r z
  refine wpAny_mono (ht.run [] s1 (start N vs) H _ I hq) (fun fl s' h' => ?_) fun _ _ h' => h'
  match fl, h' with
  | .ret u, ⟨v, σ', H', J, rv, q⟩ => exact ⟨v, H', J.os, J.bare, J.base, J.hok, rv, q⟩
  | .next, ⟨σ', H', J, q⟩ => exact ⟨.non, H', J.os, J.bare, J.base, J.hok, rfl, q⟩
  | .brk, ⟨_, _, _, q⟩ => exact q.elim
  | .cont, ⟨_, _, _, q⟩ => exact q.elim
theorem FnAt.okG {x qual : Str} {st : Stmt} {N ps : List Str} (B : FnAt K x qual st f ps) (S : FnScope N ps (defScope st)) (len : ∀ vs H Q E, sp vs H Q E → vs.length = ps.length)
    (hbody : ∀ (cdv : Value) (A : Around) (outer : List Env) (s : Shared) (H : Hp) (vs : List V) (Q : VK) (E : XK), A.guards = some [] → Room k (A.deeper (envOfC qual (defScope st) s.heap.objs.size f cdv)) → sp vs H Q E →
      ∃ t, PSs (cxOf CX0 P w K mg base N qual (defScope st) f cdv A outer s H E).nox (defBody st) t ∧ t { nx := fun _ H' => Q .non H', rt := Q } (start N vs) H) : FnG P w K mg base CX0 (k + 1) f sp := by
  obtain ⟨fd, F, bi⟩ := B.ex
  intro A outer s H us vs Q E g hr e0 r hs
  have hl : (us ++ []).length = ps.length := by rw [List.append_nil, ← r.length]; exact len _ _ _ _ hs
  refine bodyG F S len (fun cdv A outer s H vs Q E g hr hs => ?_) A outer s H ⟨us, []⟩ us vs Q E g hr e0 ?_ r hs
  · obtain ⟨t, h, q⟩ := hbody cdv A outer s H vs Q E g hr hs
    exact ⟨t, h.nox, q⟩
  · have := bi s us (e0.mod.kin.keeps fun b o e => (e0.bs b o e).1) hl
    rw [List.append_nil] at this
    exact this
end
section
variable {X : Cx} {CX : CXT} {pins : List (Addr × Obj)} {σ : L2.St} {H : Hp} {s : Shared} {f : Addr} {k : Nat} {sp : Sp} {x : Str} {e : Expr} {es : List Expr} {t : TA} {pp pos : Pos}
theorem run_G {Q : VK} {us : List Value} {vs : List V} {E : XK} (F : FnG X.prog X.w X.K X.mg X.base CX k f sp) (g : X.A.guards = some []) (hr : Room k X.A) (hx : PassesAt CX X σ E) (I : Inv X pins σ H s) (r : Vals vs us) (h : sp vs H Q E) :
    codeAny (model X.prog X.w) X.A (.call (.ref f) ⟨us, []⟩) (fun r s' => match r with | .ok (.ret v) => EP X pins σ Q v s' | .ok _ => False | .error e => X.xe e s') s := by
  refine codeAny_mono (F X.A X.stack s H us vs Q E g hr I.env0 r h) fun z s' hq => ?_
  match z, hq with
  | .error er, hq => exact hx pins H s er s' I hq
  | .ok (.ret w), hq => exact I.after hq
  | .ok .next, hq => exact hq.elim
  | .ok .brk, hq => exact hq.elim
  | .ok .cont, hq => exact hq.elim
/-- x(e, ..), x such a def -/
theorem pe_callG {E : XK} (F : FnG X.prog X.w X.K X.mg X.base CX k f sp) (g : X.A.guards = some []) (hr : Room k X.A) (hk : PySem.W.keepIn X.K (.ref f) = true) (hg : Gl X x) (hm : X.mg x = some (.ref f)) (hx : Passes CX X E) (ha : PA X (e :: es) t) (hdb : (x == ("__debug__" : Str)) = false := by decide)
    (he : starEach (e :: es) X.env = (false, eval e X.env) :: starEach es X.env := by rfl) (hpl : (backTo pos (starEach es X.env)).any (·.1) = false := by rfl) : PE X (.Call (.Name x pp) (e :: es) [] pos) (tCallR sp E t) := by
  refine ⟨fun pins s σ H Q I h => wpAny_Call_Name_kw (ld_glob I hg hm ?_ hdb)⟩
  exact PySem.W.callWith_K (h₀ := X.base) I.ok.mod.kin hk (thn (ha.run pos pins s σ H _ I h) fun us s1 ⟨vs, H1, I1, r, q⟩ => ⟨I1.kIn, wpAny_call (run_G F g hr (fun pins H s e s' => hx pins σ H s e s') I1 r q)⟩) he hpl
/-! ### repr -/
/-- repr(v), v a None, a bool, an int, a text, lists and tuples of them -/
def rRepr (K : PySem.W.Frag) : List V → Hp → VK → Prop := fun xs H Q => ∃ v d, xs = [v] ∧ Dp K H v d ∧ d.showable = true ∧ d.hasDict = false ∧ d.depth ≤ 60 ∧ d.shown.length ≤ sizeLine ∧ Q (.str d.shown) H
theorem call_repr (g : X.A.guards = some []) (hu : X.A.units + 64 < cLine) : CallR X (.builtin "repr") (rRepr X.K) := by
  intro pins s σ H xs us Q I r h
  obtain ⟨v, d, rfl, hd, hs, hn, hdp, hz, q⟩ := h
  obtain ⟨u, rfl, ru⟩ := r.one
  obtain ⟨as, rd⟩ := Dp.reads I d v u hd ru
  cases rd with
  | none =>
    simp only [PyData.shown] at q
    exact PySem.P.repr_of_none ⟨.str _, H, I.tok _, ⟨_, rfl⟩, q⟩
  | bool b =>
    simp only [PyData.shown] at q
    exact PySem.P.repr_of_bool ⟨.str _, H, I.tok _, ⟨_, rfl⟩, q⟩
  | int i t =>
    simp only [PyData.shown] at q
    exact PySem.P.repr_of_int (by simpa [PyData.showable] using hs) ⟨.str _, H, I.tok _, ⟨_, rfl⟩, q⟩
  | str x t =>
    simp only [PyData.shown] at q hz
    exact PySem.P.repr_of_str ⟨.str _, H, I.tok _, ⟨_, rfl⟩, q⟩ hz
  | list h1 h2 h3 h4 => exact repr_of_reads' (.list h1 h2 h3 h4) hs (PyData.noDict_hsm hn) g (by omega) (fun _ _ e => e) (fun h' u tk hk => ⟨.str _, H, I.kept (t' := tk) hk, ⟨_, rfl⟩, q⟩) hz
  | tuple h1 h2 h3 h4 => exact repr_of_reads' (.tuple h1 h2 h3 h4) hs (PyData.noDict_hsm hn) g (by omega) (fun _ _ e => e) (fun h' u tk hk => ⟨.str _, H, I.kept (t' := tk) hk, ⟨_, rfl⟩, q⟩) hz
  | dict h1 h2 h3 h4 h5 => simp [PyData.hasDict] at hn
/-! ### a dict of ints, shown -/
def dI (l : List (Int × Int)) : PyData := .dict (l.map fun p => (PyData.int p.1, PyData.int p.2))
end
end U
namespace U
open PySem PySem.Spec PyProof.Rows L2 StX
/-- what holds no other object -/
inductive Sc : V → PyData → Prop
  | non : Sc .non .none
  | bl (b : Bool) : Sc (.bl b) (.bool b)
  | int (i : Int) : Sc (.int i) (.int i)
  | str (x : Str) : Sc (.str x) (.str x)
def keyD : Key → PyData
  | .inl i => .int i
  | .inr x => .str x
theorem Sc.reads {h : Heap} {v : V} {d : PyData} {u : Value} (s : Sc v d) (r : RelV v u) : Reads h u d [] := by
  cases s with
  | non => cases r; exact .none
  | bl b => cases r; exact .bool b
  | int i => obtain ⟨t, rfl⟩ := r; exact .int i t
  | str x => obtain ⟨t, rfl⟩ := r; exact .str x t
theorem flat_reads {prog : Program} {w : World} {h : Heap} : ∀ {es : List DictEntry} {va : List (Key × Value)} {kvs : List (Key × V)} {ds : List PyData}, Pairs (mixKind prog w) es va → KV kvs va → Paired (fun kv d => Sc kv.2 d) kvs ds →
    ReadsAll h (es.map (·.key)) (kvs.map fun kv => keyD kv.1) [] ∧ ReadsAll h (es.map (·.val)) ds []
  | [], _, _, _, .nil, r, z => by
    cases r
    cases z
    exact ⟨.nil, .nil⟩
  | e :: es, _, _, _, .cons h1 h2 h3, r, z => by
    unfold KV at r
    cases r with
    | cons q r =>
      cases z with
      | cons zc z =>
        obtain ⟨g1, g2⟩ := flat_reads (h := h) h3 r z
        obtain ⟨q1, q2⟩ := q
        refine ⟨.cons (as := []) ?_ g1, .cons (as := []) ?_ g2⟩
        · show Reads h e.key (keyD _) []
          rw [q1]
          rcases keyIs_shape h1 with ⟨i, t, e1, e2⟩ | ⟨x, t, e1, e2⟩
          · rw [e1, e2]; exact .int i t
          · rw [e1, e2]; exact .str x t
        · show Reads h e.val _ []
          rw [h2]
          exact zc.reads q2
def flatD (kvs : List (Key × V)) (ds : List PyData) : PyData := .dict ((kvs.map fun kv => keyD kv.1).zip ds)
theorem dict_reads {X : Cx} {pins : List (Addr × Obj)} {σ : L2.St} {H : Hp} {s : Shared} {a : Addr} {kvs : List (Key × V)} {ds : List PyData} (I : Inv X pins σ H s) (ea : H a = some (.dK kvs)) (z : Paired (fun kv d => Sc kv.2 d) kvs ds) :
    ∃ as, Reads s.heap (.ref a) (flatD kvs ds) as ∧ sysModules ∉ as := by
  obtain ⟨_, ya, va, ra, o, es, ep, ho, hc, hd, _, hp, _⟩ := (show ObjOk X.prog X.w H s.heap a (.dK kvs) from I.hok a _ ea)
  obtain ⟨g1, g2⟩ := flat_reads (h := s.heap) hp ra z
  have lz : kvs.length = ds.length := Paired.length z
  have e1 : (((kvs.map fun kv => keyD kv.1).zip ds).map (·.1)) = kvs.map fun kv => keyD kv.1 := List.map_fst_zip (by rw [List.length_map, lz]; exact Nat.le_refl _)
  have e2 : (((kvs.map fun kv => keyD kv.1).zip ds).map (·.2)) = ds := List.map_snd_zip (by rw [List.length_map, lz]; exact Nat.le_refl _)
  refine ⟨a :: [] ++ [], .dict ho hc.1 hd (by rw [e1]; exact g1) (by rw [e2]; exact g2), ?_⟩
  simp only [List.append_nil, List.mem_singleton]
  intro e
  rw [← e] at ya
  simp at ya
section
variable {X : Cx} {CX : CXT} {k : Nat} {f C : Addr} {sp : Sp} {E : XK} {n : Nat} {g : Addr}
/-- repr(d), a dict of scalars -/
def rReprF : List V → Hp → VK → Prop := fun xs H Q => ∃ a kvs ds, xs = [.ref a] ∧ H a = some (.dK kvs) ∧ Paired (fun kv d => Sc kv.2 d) kvs ds ∧ (flatD kvs ds).showable = true ∧ (flatD kvs ds).depth ≤ 60 ∧ (flatD kvs ds).shown.length ≤ sizeLine ∧ Q (.str (flatD kvs ds).shown) H
theorem call_reprF (g : X.A.guards = some []) (hu : X.A.units + 64 < cLine) : CallR X (.builtin "repr") rReprF := by
  intro pins s σ H xs us Q I r h
  obtain ⟨a, kvs, ds, rfl, ea, z, hs, hdp, hz, q⟩ := h
  obtain ⟨u, rfl, ru⟩ := r.one
  cases (show u = Value.ref a from ru)
  obtain ⟨as, rd, hn⟩ := dict_reads I ea z
  exact repr_of_reads' rd hs (fun _ => hn) g (by omega) (fun _ _ e => e) (fun h' u tk hk => ⟨.str _, H, I.kept (t' := tk) hk, ⟨_, rfl⟩, q⟩) hz
/-- {d!r}, a dict of scalars -/
def tFmtF (te : TE) : TE := fun σ H Q => te σ H fun x H1 => ∃ a kvs ds, x = .ref a ∧ H1 a = some (.dK kvs) ∧ Paired (fun kv d => Sc kv.2 d) kvs ds ∧ (flatD kvs ds).showable = true ∧ (flatD kvs ds).depth ≤ 60 ∧ (flatD kvs ds).shown.length ≤ sizeLine ∧ Q (.str (flatD kvs ds).shown) H1
theorem pe_fmtF {e : Expr} {te : TE} {pos : Pos} (g : X.A.guards = some []) (hu : X.A.units + 64 < cLine) (he : PE X e te) : PE X (.FormattedValue e 114 none pos) (tFmtF te) := by
  refine ⟨fun pins s σ H Q I h => ?_⟩
  refine wpAny_FormattedValue_repr (thn (he.run pins s σ H _ I h) fun v s1 hv => ?_)
  obtain ⟨x, H1, I1, r1, a, kvs, ds, rfl, ea, z, hs, hdp, hz, q⟩ := hv
  cases (show v = Value.ref a from r1)
  obtain ⟨as, rd, hn⟩ := dict_reads I1 ea z
  refine pyReprObj_of_reads rd hs (fun _ => hn) g (by omega) (fun _ _ e => e) (fun h' u tk hk => ?_) hz
  have I2 : Inv X pins σ H1 { s1 with heap := h', toks := tk } := I1.kept (t' := tk) hk
  exact wpAny_formatField_str ⟨.str _, H1, I2, ⟨_, rfl⟩, q⟩ ⟨.str _, H1, I2.tok _, ⟨_, rfl⟩, q⟩ hz
/-- repr(x), x an instance with its own __repr__ -/
def rReprO (C : Addr) (sp : Sp) (E : XK) : List V → Hp → VK → Prop := fun xs H Q => ∃ a dx fs, xs = [.ref a] ∧ H a = some (.ins C dx fs) ∧ sp [.ref a] H (fun v H' => ∃ z : Str, v = .str z ∧ Q (.str z) H') E
theorem call_reprO (gd : X.A.guards = some []) (hs : PySem.W.findIn X.K (.ref C) "__repr__" = some (some (.ref g))) (hf : PySem.W.isFn X.K (.ref g) = true) (F : FnG X.prog X.w X.K X.mg X.base CX n g sp) (hr : Room (n + 1) X.A) (hx : Passes CX X E) : CallR X (.builtin "repr") (rReprO C sp E) := by
  intro pins s σ H xs us Q I r h
  obtain ⟨a, dx, fs, rfl, ea, q⟩ := h
  obtain ⟨u, rfl, ru⟩ := r.one
  cases (show u = Value.ref a from ru)
  obtain ⟨ox, od, J⟩ := ins_inst I ea
  obtain ⟨m, hF⟩ := I.fr
  refine PySem.W.repr_K (by have := hr.un; show X.A.units + 1 < cLine; omega) hF I.ok.mod.kin J hs hf ?_
  refine wpAny_call ?_
  refine codeAny_mono (F X.A.in1 X.stack s H [.ref a] [.ref a] _ E gd (Room.in1 hr) I.env0.in1 (.cons rfl .nil) q) fun z s' hq => ?_
  match z, hq with
  | .error er, hq => exact hx pins σ H s er s' I hq
  | .ok (.ret w), hq =>
    obtain ⟨v, H', I', rv, zt, ev, qz⟩ := I.after hq
    subst ev
    obtain ⟨tk, rfl⟩ := rv
    exact ⟨.str zt, H', I', ⟨tk, rfl⟩, qz⟩
  | .ok .next, hq => exact hq.elim
  | .ok .brk, hq => exact hq.elim
  | .ok .cont, hq => exact hq.elim
/-- x == y, x an instance of C, y a value of any known kind -/
def rEqV (K : PySem.W.Frag) (C : Addr) (sp : Sp) (E : XK) : R2 := fun x y H Q => ∃ a dx fs t, x = .ref a ∧ H a = some (.ins C dx fs) ∧ TyX K H y t ∧ PySem.W.notFirst K C t = true ∧ sp [x, y] H Q E
theorem op_eqV (hs : PySem.W.findIn X.K (.ref C) "__eq__" = some (some (.ref g))) (hf : PySem.W.isFn X.K (.ref g) = true) (F : FnR X.prog X.w X.K X.mg X.base CX n g sp) (hr : Room n X.A) (hx : Passes CX X E) : OpR X (compareOp .Eq) (rEqV X.K C sp E) := by
  intro pins s σ H x y v u Q I rx ry h
  obtain ⟨a, dx, vs, t, rfl, ha, ty, nf, q⟩ := h
  cases (show v = Value.ref a from rx)
  obtain ⟨ox, od, J⟩ := ins_inst I ha
  obtain ⟨Pq, Z, pq, _⟩ := kit_of I ry ty
  obtain ⟨m, hF⟩ := I.fr
  show wpAny _ _ (richCompare .Eq (.ref a) u) _ _ _
  refine PySem.W.cmp_K (op := .Eq) (tb := t) hr.units0 hF I.ok.mod.kin J (Z.ty _ _ I.kIn pq) nf hs hf ?_
  refine wpAny_mono (wpAny_call (run_fnR (us := [.ref a, u]) (vs := [.ref a, y]) F hr hx I (.cons rfl (.cons ry .nil)) q)) (fun w s' z => ?_) fun _ _ x => x
  obtain ⟨z', H', I', rz, qz⟩ := z
  exact SlX.cmpback rz ⟨z', H', I', rz, qz⟩
def rNeV (K : PySem.W.Frag) (C : Addr) (sp : Sp) (E : XK) : R2 := fun x y H Q => ∃ a dx fs t, x = .ref a ∧ H a = some (.ins C dx fs) ∧ TyX K H y t ∧ PySem.W.notFirst K C t = true ∧ sp [x, y] H (fun z H' => ∃ c, z = .bl c ∧ Q (.bl (!c)) H') E
theorem op_neV (oc : OwnC X.K C) (hne : PySem.W.findIn X.K (.ref C) "__ne__" = some (some (.builtin "object.__ne__"))) (hs : PySem.W.findIn X.K (.ref C) "__eq__" = some (some (.ref g))) (hf : PySem.W.isFn X.K (.ref g) = true) (F : FnR X.prog X.w X.K X.mg X.base CX n g sp)
    (hr : Room (n + 1) X.A) (hx : Passes CX X E) : OpR X (compareOp .NotEq) (rNeV X.K C sp E) := by
  intro pins s σ H x y v u Q I rx ry h
  obtain ⟨a, dx, vs, t, rfl, ha, ty, nf, q⟩ := h
  cases (show v = Value.ref a from rx)
  obtain ⟨ox, od, J⟩ := ins_inst I ha
  obtain ⟨Pq, Z, pq, _⟩ := kit_of I ry ty
  obtain ⟨m, hF⟩ := I.fr
  have hr1 : Room n X.A.in1 := Room.in1 hr
  refine PySem.W.my_ne_K (tb := t) (hu_of hr) hF I.ok.mod.kin J (Z.ty _ _ I.kIn pq) nf hne oc.cm hs hf ?_
  refine wpAny_mono (wpAny_call (SlX.run_at (us := [.ref a, u]) (ws := [.ref a, y]) F hr1 I.env0.in1 hx I (.cons rfl (.cons ry .nil)) q)) (fun w s' z => ?_) fun _ _ x => x
  obtain ⟨z', H', I', rz, c, ez, qz⟩ := z
  subst ez
  cases (show w = Value.bool c from rz)
  exact ⟨c, rfl, .bl (!c), H', I', rfl, qz⟩
end
end U
namespace U
open PySem PySem.Spec PyProof.Rows L2 StX
/-! ### the law's call, where no repr runs around it -/
section
variable {P : Program} {w : World} {K : PySem.W.Frag} {mg mb : Str → Option Value} {k : Nat} {fa sc : Addr} {sp : Sp} {s1 : Shared} {us : List Value} {ns : List Int}
/-- from an abstract heap that tracks at most the script -/
theorem law_core (inK : K.In s1.heap) (glob : s1.heap.Ns mainGlobals mg) (blt : s1.heap.Ns builtinsNs mb) (blt2 : ∀ x : Str, x ≠ "__name__" → mb x = bootBuiltins x) (lim : s1.heap.NoLimit) (gens : s1.gens = #[])
    (there : s1.heap.get? sc = some { cls := .type "list", data := .seq us.toArray }) (room : Room k callerA)
    (F : ∀ base : Heap, FnG P w K mg base CX0 k fa sp)
    (H : Hp) (only : Only H) (hok : HOk P w H s1.heap) (just : ∀ b, H b ≠ none → b = sc) (offK : H sc ≠ none → K.lookup sc = none)
    (prom : sp [.ref sc] H (fun v _ => v = .bl true) E0) :
    codeAny (model P w) callerA (.call (.ref fa) ⟨[.ref sc], []⟩) (fun r s' => r = .ok (.ret (.bool true)) ∧ OldK s1.heap s'.heap ∧ s'.os = s1.os ∧ AllBare s'.gens) s1 := by
  have isSc : ∀ {b : Addr} {u : HO}, H b = some u → b = sc := fun {b u} e => just b fun z => by rw [z] at e; cases e
  have free : ∀ {b : Addr} {o : Obj} {es : Array DictEntry} {ep : Nat}, s1.heap.get? b = some o → o.data = .dict es ep → H b = none := by
    intro b o es ep e d
    cases hb : H b with
    | none => rfl
    | some u =>
      have := isSc hb
      subst this
      rw [there] at e
      cases e
      exact absurd (show Data.seq us.toArray _ = Data.dict es ep from d) (by intro z; cases z)
  have spaces : ∀ {b : Addr} {m : Str → Option Value}, s1.heap.Ns b m → (hidT s1.heap H).Ns b m := by
    rintro b m ⟨o, es, ep, e, d, r⟩
    exact ⟨o, es, ep, hidT_get e (free e d), d, r⟩
  have inB : K.In (hidT s1.heap H) := by
    intro b o e
    refine hidT_get (inK b o e) ?_
    cases hb : H b with
    | none => rfl
    | some u =>
      have := isSc hb
      subst this
      have z := offK (by rw [hb]; intro z; cases z)
      rw [e] at z
      cases z
  have md : Mod K mg (hidT s1.heap H) := by
    obtain ⟨mc, l1, l2⟩ := lim
    exact ⟨inB, spaces glob, ⟨mb, spaces blt, blt2⟩, ⟨mc, spaces l1, l2⟩⟩
  have env : Env0 P w K mg (hidT s1.heap H) callerA [] s1 H := by
    refine ⟨rfl, md, fun b o e => of_hidT e, Nat.le_of_eq (hidT_size _ _), trivial, fun b hb => ?_, hok, .of_eq gens⟩
    exact absurd hb List.not_mem_nil
  refine codeAny_mono (F (hidT s1.heap H) callerA [] s1 H [.ref sc] [.ref sc] (fun v _ => v = .bl true) E0 rfl room env (.cons rfl .nil) prom) fun r s' h => ?_
  match r, h with
  | .error e, h => exact h.elim
  | .ok .next, h => exact h.elim
  | .ok .brk, h => exact h.elim
  | .ok .cont, h => exact h.elim
  | .ok (.ret u), ⟨v, H', os, bare, un, hok', rv, q⟩ =>
    subst q
    cases (show u = Value.bool true from rv)
    refine ⟨rfl, OldK.of_keep fun b o e => ?_, os, bare⟩
    cases hb : H b with
    | none => exact un.keep b o e hb (fun z => absurd z List.not_mem_nil) (by simp)
    | some u =>
      rcases only b with z | ⟨ob, xs, z⟩
      · rw [hb] at z
        cases z
      · have a1 := (hok b _ z).1
        have a2 := (hok' b _ (un.frzs b ob _ z)).1
        rw [e] at a1
        cases a1
        exact a2
theorem law_callG (inK : K.In s1.heap) (glob : s1.heap.Ns mainGlobals mg) (blt : s1.heap.Ns builtinsNs mb) (blt2 : ∀ x : Str, x ≠ "__name__" → mb x = bootBuiltins x) (lim : s1.heap.NoLimit) (gens : s1.gens = #[])
    (there : s1.heap.get? sc = some { cls := .type "list", data := .seq us.toArray }) (inS : IntsAre us ns) (len : ns.length ≤ sizeLine) (room : Room k callerA)
    (F : ∀ base : Heap, FnG P w K mg base CX0 k fa sp)
    (prom : ∀ H : Hp, SqL K H sc (ns.map V.int) → sp [.ref sc] H (fun v _ => v = .bl true) E0) :
    codeAny (model P w) callerA (.call (.ref fa) ⟨[.ref sc], []⟩) (fun r s' => r = .ok (.ret (.bool true)) ∧ OldK s1.heap s'.heap ∧ s'.os = s1.os ∧ AllBare s'.gens) s1 := by
  have rv := vals_ints inS
  have go := law_core (P := P) (w := w) (k := k) (fa := fa) (sp := sp) inK glob blt blt2 lim gens there room F
  cases hk : K.lookup sc with
  | some o =>
    have e := inK sc o hk
    rw [there] at e
    cases e
    refine go (fun _ => none) (fun _ => .inl rfl) (fun b u z => by cases (show (none : Option HO) = some u from z)) (fun b z => absurd rfl z) (fun z => absurd rfl z) (prom _ ?_)
    refine .inr ⟨_, us.toArray, _, hk, rfl, rfl, rfl, ?_, by simpa using rv⟩
    rw [List.size_toArray, inS.length]
    exact len
  | none =>
    have at_ : (fun b => if b = sc then some (HO.frz { cls := .type "list", data := .seq us.toArray } (.lst (ns.map V.int))) else none) sc = some (.frz { cls := .type "list", data := .seq us.toArray } (.lst (ns.map V.int))) := if_pos rfl
    refine go (fun b => if b = sc then some (.frz { cls := .type "list", data := .seq us.toArray } (.lst (ns.map V.int))) else none) (fun b => ?_) (fun b u z => ?_) (fun b z => ?_) (fun _ => hk) (prom _ (.inl (.inr ⟨_, at_⟩)))
    · by_cases hb : b = sc
      · subst hb
        exact .inr ⟨_, _, at_⟩
      · exact .inl (if_neg hb)
    · by_cases hb : b = sc
      · subst hb
        rw [at_] at z
        cases z
        refine ⟨there, ?_, us, _, rv, there⟩
        rw [List.length_map]
        exact len
      · have no := (if_neg hb).symm.trans z
        cases no
    · refine Classical.byContradiction fun hb => z (if_neg hb)
end
/-- the goal that k_head leaves, from the law's promise -/
theorem walkG {l : PySem.W.OpenLaw} {n k : Nat} {q : Program} {loose : List Str} {XP : (Str → Option Value) → Heap → Prop} {YP : World → Heap → Prop} {d : DefRec} {K : Params → PySem.W.Frag} {sp : PySem.W.Frag → Sp}
    (hn : l.most = some n) (hn2 : n ≤ sizeLine) (hdf : d.params.defaults = []) (room : Room k callerA) (hY : ∀ (w : World) (h : Heap), YP w h → (K w.params).In h)
    (F : ∀ (w : World) (mg : Str → Option Value) (fa : Addr) (h : Heap), (K w.params).In h → h.Ns mainGlobals mg → mg d.name = some (.ref fa) → ∀ base : Heap, FnG l.prog w (K w.params) mg base CX0 k fa (sp (K w.params)))
    (prom : ∀ (K : PySem.W.Frag) (H : Hp) (a : Addr) (ns : List Int), ns.length ≤ n → SqL K H a (ns.map V.int) → sp K [.ref a] H (fun v _ => v = .bl true) E0) :
    PySem.W.WalkO q loose XP YP l.row.toRowW d [] (fun f vs => PySem.call f vs) := by
  refine Att.attach_call hn hdf fun w s0 s1 mg mb fa o pm cd doc a vs ns G Y ho hd hcd hmg hobj hints hlen hg => ?_
  have inK := hY w _ Y
  exact law_callG inK G.T.g G.T.b G.T.builtins G.T.nolimit hg hobj hints (Nat.le_trans hlen hn2) room (F w mg fa _ inK G.T.g hmg) fun H hS => prom _ H a ns hlen hS
end U
namespace U
open PySem PySem.Spec PyProof.Rows L2 StX
/-! ### defs called while an exception is handled -/
end U
namespace U
open PySem PySem.Spec PyProof.Rows L2 StX
end U
namespace U
open PySem PySem.Spec PyProof.Rows L2 StX
section
variable {X : Cx} {CX : CXT} {C g : Addr} {n : Nat} {sp : Sp} {E : XK}
/-- x in o, by the own __contains__ -/
def rInO (C : Addr) (sp : Sp) (E : XK) : R2 := fun x y H Q => ∃ a dx fs, y = .ref a ∧ H a = some (.ins C dx fs) ∧ sp [y, x] H (fun z H' => ∃ c, z = .bl c ∧ Q (.bl c) H') E
theorem op_inO (hs : PySem.W.findIn X.K (.ref C) "__contains__" = some (some (.ref g))) (hf : PySem.W.isFn X.K (.ref g) = true) (F : FnR X.prog X.w X.K X.mg X.base CX n g sp)
    (hr : Room n X.A) (hx : Passes CX X E) : OpR X (compareOp .In) (rInO C sp E) := by
  intro pins s σ H x y v u Q I rx ry h
  obtain ⟨a, dx, vs, rfl, ha, q⟩ := h
  cases (show u = Value.ref a from ry)
  obtain ⟨ox, od, J⟩ := ins_inst I ha
  obtain ⟨m, hF⟩ := I.fr
  refine PySem.W.in_K hF I.ok.mod.kin J hs hf ?_
  refine wpAny_mono (wpAny_call (run_fnR (us := [.ref a, v]) (vs := [.ref a, x]) F hr hx I (.cons rfl (.cons rx .nil)) q)) (fun w s' z => ?_) fun _ _ x => x
  obtain ⟨z', H', I', rz, c, rfl, qz⟩ := z
  cases (show w = Value.bool c from rz)
  exact wpAny_pure ⟨.bl c, H', I', rfl, qz⟩
end
end U
namespace U
open PySem PySem.Spec PyProof.Rows L2 StX PySem.W
end U
namespace U
open PySem PySem.Spec PyProof.Rows L2 StX
/-! ### x op i, the class's own, i an int -/
/-! ### list(d.items()), the dict locked or not -/
end U
namespace U
open PySem PySem.Spec PyProof.Rows L2
/-! ### several clauses 'except x as n' -/
end U
namespace U
open PySem L2
/-! ### facts of heaps, for the search -/
theorem carry {H H' : Hp} {a : Addr} {o : HO} (s : L2.Same H H') (h : H a = some o) : H' a = some o := s a o h
theorem carryNew {H : Hp} {p a : Addr} {o u : HO} (hp : H p = none) (h : H a = some u) : upd H p o a = some u := (Same.new hp) a u h
theorem freeUp {H : Hp} {p q : Addr} {o : HO} (h : upd H q o p = none) : H p = none := by
  by_cases e : p = q
  · subst e; rw [upd_same] at h; cases h
  · rw [upd_ne e] at h; exact h
theorem freeVia {H H' : Hp} {p : Addr} (s : L2.Same H H') (h : H' p = none) : H p = none := s.free h
theorem sameUp {H H1 : Hp} {p : Addr} {o : HO} (hp : H1 p = none) (s : L2.Same H H1) : L2.Same H (upd H1 p o) := s.trans (Same.new hp)
theorem sameVia {H H1 H2 : Hp} (b : L2.Same H1 H2) (a : L2.Same H H1) : L2.Same H H2 := a.trans b
theorem upd_facts {H H1 : Hp} {p : Addr} {o : HO} (h : upd H p o = H1) (n : H p = none) : L2.Same H H1 ∧ H1 p = some o := by
  subst h
  exact ⟨Same.new n, upd_same⟩
theorem nil_le : ([] : List V).length ≤ sizeLine := by decide
theorem one_le {a : V} : [a].length ≤ sizeLine := by show 1 ≤ sizeLine; decide
theorem two_le {a b : V} : [a, b].length ≤ sizeLine := by show 2 ≤ sizeLine; decide
theorem three_le {a b c : V} : [a, b, c].length ≤ sizeLine := by show 3 ≤ sizeLine; decide
theorem lt_line {n : Nat} (h : n ≤ 100000) : n < sizeLine := Nat.lt_of_le_of_lt h (by decide)
end U
namespace U
open PySem PySem.Spec PyProof.Rows L2 GQ PySem.SeqAt MeetsSeq MeetsSeq2 MeetsSeq3 SeqRoads2
open AutoSeq1 (wpAny_loadPart')
/-! ### defs with a star parameter -/
structure StarAt (K : PySem.W.Frag) (x qual : Str) (st : Stmt) (f : Addr) (ps : List Str) (pv : Str) : Prop where
  ex : ∃ fd, Fun K x qual st f fd ∧ ∀ us rest : List Value, us.length = ps.length → bindArgs fd ⟨us ++ rest, []⟩ = (newTuple rest >>= fun t => pure (ps.zip us ++ [(pv, t)]))
theorem StarAt.kp {K : PySem.W.Frag} {x qual : Str} {st : Stmt} {f : Addr} {ps : List Str} {pv : Str} (A : StarAt K x qual st f ps pv) : PySem.W.keepIn K (.ref f) = true := by
  obtain ⟨_, F, _⟩ := A.ex
  exact F.kp
/-- what is asked of the arguments: the named ones, then a new tuple of the rest -/
def spStar (n : Nat) (sp : Sp) : Sp := fun vs H Q E => ∃ ws rest, vs = ws ++ rest ∧ ws.length = n ∧ rest.length ≤ sizeLine ∧ ∀ p, H p = none → sp (ws ++ [V.ref p]) (upd H p (.tup rest)) Q E
section
variable {P : Program} {w : World} {K : PySem.W.Frag} {mg : Str → Option Value} {base : Heap} {x qual pv : Str} {st : Stmt} {f : Addr} {N ps : List Str} {k : Nat} {sp : Sp}
theorem StarAt.ok (B : StarAt K x qual st f ps pv) (S : FnScope N (ps ++ [pv]) (defScope st))
    (walk : ∀ (cdv : Value) (A : Around) (outer : List Env) (s : Shared) (H : Hp) (vs : List V) (Q : VK) (E : XK), Room k (A.deeper (envOfC qual (defScope st) s.heap.objs.size f cdv)) → sp vs H Q E →
      ∃ t, PSs (cxOf CX0 P w K mg base N qual (defScope st) f cdv A outer s H E).nox (defBody st) t ∧ t { nx := fun _ H' => Q .non H', rt := Q } (start N vs) H) : FnR P w K mg base CX0 (k + 1) f (spStar ps.length sp) := by
  obtain ⟨fd, F, hb⟩ := B.ex
  obtain ⟨oc, od, kV, doc, pm, an, cdv, ct, osl, rfl, lk, hcd⟩ := F.ex
  refine StX.fn_star lk hcd S StX.cxUp_none hb fun A outer s H vs Q E hr h => ?_
  obtain ⟨t, a, b⟩ := walk cdv A outer s H vs Q E hr h
  exact ⟨t, a.nox, b⟩
end
/-! ### == by an own __eq__, inside lists and tuples -/
end U
namespace U
open PySem PySem.Spec PyProof.Rows L2 StX LamX
/-! ### defs with lambdas: the code object's place is told -/
structure CodeAt (K : PySem.W.Frag) (x qual : Str) (st : Stmt) (f c : Addr) (ps : List Str) : Prop where
  ex : ∃ (oc : Value) (od : Option Addr) (kV doc pm : Value) (an : Option Addr) (ct : Value) (osl : Array (Option Value)),
    K.lookup f = some ⟨oc, od, .func (PySem.W.fnOf x qual (defArgs st) (defBody st) (defScope st) .none kV doc pm an (.ref c) ct), osl⟩ ∧ PySem.W.codeIn K (.ref c) qual = true ∧ Binds K (PySem.W.fnOf x qual (defArgs st) (defBody st) (defScope st) .none kV doc pm an (.ref c) ct) ps []
section
variable {P : Program} {w : World} {K : PySem.W.Frag} {mg : Str → Option Value} {base : Heap} {k : Nat} {f c : Addr} {sp : Sp} {x qual : Str} {st : Stmt} {N ps : List Str}
theorem CodeAt.okG (B : CodeAt K x qual st f c ps) (S : FnScope N ps (defScope st)) (len : ∀ vs H Q E, sp vs H Q E → vs.length = ps.length)
    (walk : ∀ (A : Around) (outer : List Env) (s : Shared) (H : Hp) (vs : List V) (Q : VK) (E : XK), A.guards = some [] → Room k (A.deeper (envOfC qual (defScope st) s.heap.objs.size f (.ref c))) → sp vs H Q E →
      ∃ t, PSs (cxOf CX0 P w K mg base N qual (defScope st) f (.ref c) A outer s H E).nox (defBody st) t ∧ t { nx := fun _ H' => Q .non H', rt := Q } (start N vs) H) : FnG P w K mg base CX0 (k + 1) f sp := by
  obtain ⟨oc, od, kV, doc, pm, an, ct, osl, lk, hcd, bi⟩ := B.ex
  intro A outer s H us vs Q E g hr e0 r hs
  have hl := len _ _ _ _ hs
  have kin : K.In s.heap := e0.mod.kin.keeps fun b o e => (e0.bs b o e).1
  have lim : s.heap.NoLimit := e0.mod.nolimit.keeps fun b o e => (e0.bs b o e).1
  have names : ∀ y ∈ ps.zip us, (defScope st).names.lookup y.1 = some .local ∨ ((defScope st).names.lookup y.1 = some .cell ∧ ((cellsFrom (s.heap.objs.size + 1) (defScope st).names []).lookup y.1).isSome = true) := by
    rintro ⟨n, v⟩ hy
    rcases S.par n (List.of_mem_zip hy).1 with q | q
    · exact .inl q
    · exact .inr ⟨q, PySem.W.cellsFrom_some _ _ _ (.inl q)⟩
  have hb : BindsTo s (PySem.W.fnOf x qual (defArgs st) (defBody st) (defScope st) .none kV doc pm an (.ref c) ct) ⟨us, []⟩ (ps.zip us) := by
    have := bi s us kin (by rw [List.append_nil, ← r.length]; exact hl)
    rw [List.append_nil] at this
    exact this
  refine codeAny_call_function hr.depth (kin _ _ lk) rfl S.co S.gen rfl (PySem.W.codeRec_of kin hcd) (hb _ _ _ _ ?_)
  refine wpAny_newFunctionEnv_cells S.kind names fun env he s1 z => ?_
  subst he
  refine ⟨lim.keeps z.toInCall.keep, codeAny_func ?_⟩
  obtain ⟨t, ht, hq⟩ := walk A outer s H vs Q E g (hr.deeper _) hs
  have I : Inv (cxOf CX0 P w K mg base N qual (defScope st) f (.ref c) A outer s H E) [] (start N vs) H s1 := inv_start S hr.hd e0 hl r z
  refine wpAny_mono (ht.nox.run [] s1 (start N vs) H _ I hq) (fun fl s' h' => ?_) fun _ _ h' => h'
  match fl, h' with
  | .ret u, ⟨v, σ', H', J, rv, q⟩ => exact ⟨v, H', J.os, J.bare, J.base, J.hok, rv, q⟩
  | .next, ⟨σ', H', J, q⟩ => exact ⟨.non, H', J.os, J.bare, J.base, J.hok, rfl, q⟩
  | .brk, ⟨_, _, _, q⟩ => exact q.elim
  | .cont, ⟨_, _, _, q⟩ => exact q.elim
end
/-! ### the law's call, tables tracked -/
/-! ### what a lambda's caller makes of its exceptions -/
/-! ### heaps that grow but for the tables -/
end U
namespace U
open PySem PySem.Spec PyProof.Rows L2 StX LamX
end U
namespace U
open PySem PySem.Spec PyProof.Rows L2
/-! ### x not in a tuple, data of any depth -/
end U
namespace U
open PySem PySem.Spec PyProof.Rows L2
/-! ### dicts of ints in a list: in, not in, index -/
end U
namespace U
open PySem PySem.Spec PyProof.Rows L2 StX
end U
namespace U
open PySem PySem.Spec PyProof.Rows L2 StX NdefX
/-! ### a def of a class whose first statement is super().m(..) -/
end U
namespace U
open PySem PySem.Spec PyProof.Rows L2 StX
/-! ### {o!r}, o an instance with its own __repr__ -/
end U
namespace U
open PySem PySem.Spec PyProof.Rows L2 GQ PySem.SeqAt MeetsSeq MeetsSeq2 MeetsSeq3 SeqRoads2
open AutoSeq1 (wpAny_loadPart')
/-! ### == of lists and tuples, with either result -/
/-- D x y H c: == of the two gives c -/
abbrev EqvB := V → V → Hp → Bool → Prop
def MonB (D : EqvB) : Prop := ∀ x y H H' c, Ext H H' → D x y H c → D x y H' c
def EqH (X : Cx) (n : Nat) (D : EqvB) : Prop :=
  ∀ (A : Around) (pins : List (Addr × Obj)) (s : Shared) (σ : L2.St) (H : Hp) (x y : V) (u v : Value) (c : Bool), Sub X n A → Inv X pins σ H s → RelV x u → RelV y v → D x y H c →
    wpAny (model X.prog X.w) A (eqBool u v) (fun r s' => r = c ∧ ∃ H', Inv X pins σ H' s' ∧ Ext H H') X.xe s
section
variable {X : Cx} {n m : Nat} {D D' : EqvB}
theorem EqH.mono (h : EqH X n D) (hn : n ≤ m) : EqH X m D := fun A pins s σ H x y u v c sb => h A pins s σ H x y u v c (sb.mono hn)
theorem EqH.or (h : EqH X n D) (h' : EqH X n D') : EqH X n (fun x y H c => D x y H c ∨ D' x y H c) := fun A pins s σ H x y u v c sb I rx ry d => by
  rcases d with d | d
  · exact h A pins s σ H x y u v c sb I rx ry d
  · exact h' A pins s σ H x y u v c sb I rx ry d
theorem MonB.or (h : MonB D) (h' : MonB D') : MonB (fun x y H c => D x y H c ∨ D' x y H c) := fun x y H H' c e d => d.elim (fun d => .inl (h x y H H' c e d)) fun d => .inr (h' x y H H' c e d)
end
end U
namespace PySem.W
open PySem PySem.Calls PyProof.Rows
end PySem.W
namespace U
open PySem PySem.Spec PyProof.Rows L2 StX
end U
namespace U
open PySem PySem.Spec PyProof.Rows L2 StX
/-! ### C(*xs) -/
end U
namespace U
open PySem PySem.Spec PyProof.Rows L2 GQ PySem.SeqAt MeetsSeq MeetsSeq2 MeetsSeq3 SeqRoads2
open AutoSeq1 (wpAny_loadPart')
/-! ### != of lists, == and != of tuples of any lengths, in: with either result -/
/-- what != says, by what == says -/
def NeH (X : Cx) (n : Nat) (D : EqvB) : Prop :=
  ∀ (A : Around) (pins : List (Addr × Obj)) (s : Shared) (σ : L2.St) (H : Hp) (x y : V) (u v : Value) (c : Bool), Sub X n A → Inv X pins σ H s → RelV x u → RelV y v → D x y H c →
    wpAny (model X.prog X.w) A (richCompare .NotEq u v) (fun r s' => r = .bool (!c) ∧ ∃ H', Inv X pins σ H' s' ∧ Ext H H') X.xe s
section
variable {X : Cx} {n m : Nat} {D D' : EqvB}
theorem NeH.or (h : NeH X n D) (h' : NeH X n D') : NeH X n (fun x y H c => D x y H c ∨ D' x y H c) := fun A pins s σ H x y u v c sb I rx ry d => by
  rcases d with d | d
  · exact h A pins s σ H x y u v c sb I rx ry d
  · exact h' A pins s σ H x y u v c sb I rx ry d
end
end U
namespace U
open PySem PySem.Spec PyProof.Rows L2 StX
open PySem.AutoSeq1 (wpAny_loadPart')
/-! ### enumerate(a tuple) -/
/-! ### a tuple of one item, many times -/
end U
namespace PM
open U
/-! ### one-to-one maps between parts of 0 .. n - 1 -/
abbrev PF := Int → Option Int
structure WF (n : Int) (f : PF) : Prop where
  dom : ∀ x y, f x = some y → 0 ≤ x ∧ x < n ∧ 0 ≤ y ∧ y < n
  inj : ∀ x x' y, f x = some y → f x' = some y → x = x'
def tabN (f : PF) (n : Nat) : List (Int × Int) := (List.range n).filterMap fun (i : Nat) => (f (i : Int)).map fun y => ((i : Int), y)
def tab (n : Int) (f : PF) : List (Int × Int) := tabN f n.toNat
theorem mem_tabN {f : PF} {n : Nat} {x y : Int} : (x, y) ∈ tabN f n ↔ f x = some y ∧ ∃ i : Nat, i < n ∧ x = (i : Int) := by
  unfold tabN
  rw [List.mem_filterMap]
  constructor
  · rintro ⟨i, hi, e⟩
    rw [List.mem_range] at hi
    cases h : f (i : Int) with
    | none => rw [h] at e; cases e
    | some z => rw [h] at e; cases e; exact ⟨h, i, hi, rfl⟩
  · rintro ⟨h, i, hi, rfl⟩
    exact ⟨i, List.mem_range.mpr hi, by rw [h]; rfl⟩
theorem mem_tab {n : Int} {f : PF} (w : WF n f) {x y : Int} : (x, y) ∈ tab n f ↔ f x = some y := by
  unfold tab
  rw [mem_tabN]
  constructor
  · exact fun h => h.1
  · intro h
    have := w.dom x y h
    exact ⟨h, x.toNat, by omega, by omega⟩
theorem keys_tabN (f : PF) (n : Nat) : ((tabN f n).map (·.1)).Nodup := by
  induction n with
  | zero => exact List.nodup_nil
  | succ n ih =>
    have e : tabN f (n + 1) = tabN f n ++ ((f (n : Int)).map fun y => ((n : Int), y)).toList := by
      unfold tabN
      rw [List.range_succ, List.filterMap_append]
      cases h : f (n : Int) <;> simp [h]
    rw [e, List.map_append, List.nodup_append]
    refine ⟨ih, ?_, ?_⟩
    · cases f (n : Int) <;> simp
    · intro a ha b hb e
      subst e
      obtain ⟨p, hp, rfl⟩ := List.mem_map.mp ha
      obtain ⟨x, y⟩ := p
      obtain ⟨_, i, hi, ex⟩ := mem_tabN.mp hp
      cases h : f (n : Int) with
      | none => rw [h] at hb; simp at hb
      | some z =>
        rw [h] at hb
        simp at hb
        omega
theorem keys_tab (n : Int) (f : PF) : ((tab n f).map (·.1)).Nodup := keys_tabN f _
theorem lk_tab {n : Int} {f : PF} (w : WF n f) (x : Int) : lk (tab n f) x = f x := by
  cases h : f x with
  | some y => exact lk_some (keys_tab n f) ((mem_tab w).mpr h)
  | none =>
    cases e : lk (tab n f) x with
    | none => rfl
    | some y =>
      have := (mem_tab w).mp (lk_mem e)
      rw [h] at this; cases this
theorem tab_len (n : Int) (f : PF) : (tab n f).length ≤ n.toNat := by
  unfold tab tabN
  exact Nat.le_trans (List.length_filterMap_le _ _) (by simp)
theorem vals_tab {n : Int} {f : PF} (w : WF n f) : ((tab n f).map (·.2)).Nodup := by
  have k := keys_tab n f
  have key : ∀ l : List (Int × Int), (∀ p ∈ l, f p.1 = some p.2) → (l.map (·.1)).Nodup → (l.map (·.2)).Nodup := by
    intro l
    induction l with
    | nil => intro _ _; exact List.nodup_nil
    | cons p r ih =>
      intro h nd
      rw [List.map_cons, List.nodup_cons] at nd ⊢
      refine ⟨fun hm => ?_, ih (fun q hq => h q (List.mem_cons_of_mem _ hq)) nd.2⟩
      obtain ⟨q, hq, e⟩ := List.mem_map.mp hm
      have h1 := h p List.mem_cons_self
      have h2 := h q (List.mem_cons_of_mem _ hq)
      rw [e] at h2
      have := w.inj _ _ _ h1 h2
      exact nd.1 (by rw [this]; exact List.mem_map.mpr ⟨q, hq, rfl⟩)
  exact key _ (fun p hp => (mem_tab w).mp hp) k
/-! ### the operations -/
def idn (n : Int) : PF := fun x => if 0 ≤ x ∧ x < n then some x else none
def emp : PF := fun _ => none
def subf (f g : PF) : PF := fun x => if f x = g x then none else f x
def le (f g : PF) : Prop := ∀ x y, f x = some y → g x = some y
theorem wf_idn (n : Int) : WF n (idn n) := by
  refine ⟨fun x y h => ?_, fun x x' y h h' => ?_⟩
  · unfold idn at h
    split at h
    · cases h; omega
    · cases h
  · unfold idn at h h'
    split at h
    · split at h'
      · cases h; cases h'; rfl
      · cases h'
    · cases h
theorem wf_emp (n : Int) : WF n emp := ⟨fun _ _ h => (nomatch h), fun _ _ _ h => (nomatch h)⟩
theorem wf_le {n : Int} {f g : PF} (wg : WF n g) (h : le f g) : WF n f := ⟨fun x y e => wg.dom x y (h x y e), fun x x' y e e' => wg.inj _ _ _ (h _ _ e) (h _ _ e')⟩
theorem le_sub (f g : PF) : le (subf f g) f := by
  intro x y h
  unfold subf at h
  split at h
  · cases h
  · exact h
theorem wf_sub {n : Int} {f g : PF} (wf : WF n f) : WF n (subf f g) := wf_le wf (le_sub f g)
/-- a dict of pairs tells f -/
structure DI (l : List (Int × Int)) (f : PF) : Prop where
  nd : (l.map (·.1)).Nodup
  at_ : ∀ x, lk l x = f x
theorem DI.mem {l : List (Int × Int)} {f : PF} (d : DI l f) {x y : Int} : (x, y) ∈ l ↔ f x = some y := by
  rw [← d.at_]
  exact ⟨lk_some d.nd, lk_mem⟩
theorem di_tab {n : Int} {f : PF} (w : WF n f) : DI (tab n f) f := ⟨keys_tab n f, lk_tab w⟩
theorem DI.vals {n : Int} {l : List (Int × Int)} {f : PF} (d : DI l f) (w : WF n f) : (l.map (·.2)).Nodup := by
  obtain ⟨nd, _⟩ := id d
  have key : ∀ r : List (Int × Int), (∀ p ∈ r, f p.1 = some p.2) → (r.map (·.1)).Nodup → (r.map (·.2)).Nodup := by
    intro r
    induction r with
    | nil => intro _ _; exact List.nodup_nil
    | cons p r ih =>
      intro h nd
      rw [List.map_cons, List.nodup_cons] at nd ⊢
      refine ⟨fun hm => ?_, ih (fun q hq => h q (List.mem_cons_of_mem _ hq)) nd.2⟩
      obtain ⟨q, hq, e⟩ := List.mem_map.mp hm
      have h1 := h p List.mem_cons_self
      have h2 := h q (List.mem_cons_of_mem _ hq)
      rw [e] at h2
      have := w.inj _ _ _ h1 h2
      exact nd.1 (by rw [this]; exact List.mem_map.mpr ⟨q, hq, rfl⟩)
  exact key l (fun p hp => d.mem.mp hp) nd
theorem di_of {l : List (Int × Int)} {f : PF} (nd : (l.map (·.1)).Nodup) (h : ∀ x y, (x, y) ∈ l ↔ f x = some y) : DI l f := by
  refine ⟨nd, fun x => ?_⟩
  cases e : f x with
  | some y => exact lk_some nd ((h x y).mpr e)
  | none =>
    cases e2 : lk l x with
    | none => rfl
    | some y =>
      have := (h x y).mp (lk_mem e2)
      rw [e] at this; cases this
end PM
namespace PM
open U
/-! ### powers -/
def iter (f : PF) : Nat → PF
  | 0 => fun x => some x
  | k + 1 => fun x => (iter f k x).bind f
theorem iter_add (f : PF) (a b : Nat) (x : Int) : iter f (a + b) x = (iter f a x).bind (iter f b) := by
  induction b with
  | zero => simp [iter]
  | succ b ih =>
    show (iter f (a + b) x).bind f = _
    rw [ih]
    cases iter f a x <;> rfl
theorem iter_head (f : PF) (k : Nat) (x : Int) : iter f (k + 1) x = (f x).bind (iter f k) := by
  rw [Nat.add_comm, iter_add]; rfl
structure Row (f : PF) (e : Int) (r : List Int) : Prop where
  h0 : r[0]? = some e
  st : ∀ (i : Nat) (a b : Int), r[i]? = some a → r[i + 1]? = some b → f a = some b ∧ b ≠ e
theorem Row.ne {f : PF} {e : Int} {r : List Int} (w : ∀ x x' y, f x = some y → f x' = some y → x = x') (R : Row f e r) : ∀ (i k : Nat) (a : Int), r[i]? = some a → r[i + k + 1]? = some a → False
  | 0, k, a, h1, h2 => by
    rw [R.h0] at h1
    cases h1
    have hk : ∃ b, r[k]? = some b := by
      have : 0 + k + 1 < r.length := (List.getElem?_eq_some_iff.mp h2).1
      exact ⟨_, List.getElem?_eq_getElem (by omega)⟩
    obtain ⟨b, hb⟩ := hk
    have := R.st k b e hb (by rw [Nat.zero_add] at h2; exact h2)
    exact this.2 rfl
  | i + 1, k, a, h1, h2 => by
    have l1 : i + 1 < r.length := (List.getElem?_eq_some_iff.mp h1).1
    have l2 : i + 1 + k + 1 < r.length := (List.getElem?_eq_some_iff.mp h2).1
    obtain ⟨b, hb⟩ : ∃ b, r[i]? = some b := ⟨_, List.getElem?_eq_getElem (by omega)⟩
    obtain ⟨c, hc⟩ : ∃ c, r[i + k + 1]? = some c := ⟨_, List.getElem?_eq_getElem (by omega)⟩
    have e1 := (R.st i b a hb h1).1
    have h2' : r[i + k + 1 + 1]? = some a := by rw [show i + k + 1 + 1 = i + 1 + k + 1 by omega]; exact h2
    have e2 := (R.st (i + k + 1) c a hc h2').1
    have : b = c := w _ _ _ e1 e2
    subst this
    exact Row.ne w R i k b hb hc
theorem nodup_of_get {l : List Int} (h : ∀ (i k : Nat) (a : Int), l[i]? = some a → l[i + k + 1]? = some a → False) : l.Nodup := by
  induction l with
  | nil => exact List.nodup_nil
  | cons x r ih =>
    rw [List.nodup_cons]
    refine ⟨fun hm => ?_, ih fun i k a h1 h2 => ?_⟩
    · obtain ⟨j, hj⟩ := List.mem_iff_getElem?.mp hm
      exact h 0 j x rfl (by rw [Nat.zero_add]; exact hj)
    · refine h (i + 1) k a h1 ?_
      rw [show i + 1 + k + 1 = (i + k + 1) + 1 by omega]
      exact h2
theorem Row.nd {n : Int} {f : PF} {e : Int} {r : List Int} (w : WF n f) (R : Row f e r) : r.Nodup := nodup_of_get (R.ne w.inj)
theorem Row.dom {n : Int} {f : PF} {e : Int} {r : List Int} (w : WF n f) (R : Row f e r) (h1 : 0 ≤ e) (h2 : e < n) : ∀ x ∈ r, 0 ≤ x ∧ x < n := by
  intro x hx
  obtain ⟨i, hi⟩ := List.mem_iff_getElem?.mp hx
  cases i with
  | zero => rw [R.h0] at hi; cases hi; exact ⟨h1, h2⟩
  | succ i =>
    have l1 : i + 1 < r.length := (List.getElem?_eq_some_iff.mp hi).1
    obtain ⟨b, hb⟩ : ∃ b, r[i]? = some b := ⟨_, List.getElem?_eq_getElem (by omega)⟩
    have := w.dom _ _ (R.st i b x hb hi).1
    omega
theorem len_range {l : List Int} {n : Int} (nd : l.Nodup) (h : ∀ x ∈ l, 0 ≤ x ∧ x < n) : l.length ≤ n.toNat := by
  have : l.length ≤ ((List.range n.toNat).map fun (i : Nat) => (i : Int)).length := List.Nodup.length_le_of_subset nd (by
    intro x hx
    have := h x hx
    exact List.mem_map.mpr ⟨x.toNat, List.mem_range.mpr (by omega), Int.toNat_of_nonneg this.1⟩)
  simpa using this
theorem Row.more {f : PF} {e : Int} {pre : List Int} {z y : Int} (R : Row f e (pre ++ [z])) (h : f z = some y) (ne : y ≠ e) : Row f e (pre ++ [z] ++ [y]) := by
  refine ⟨?_, fun i a b h1 h2 => ?_⟩
  · rw [List.getElem?_append_left (by simp)]
    exact R.h0
  · by_cases hi : i + 1 < (pre ++ [z]).length
    · rw [List.getElem?_append_left hi] at h2
      rw [List.getElem?_append_left (by omega)] at h1
      exact R.st i a b h1 h2
    · have l2 : i + 1 < (pre ++ [z] ++ [y]).length := (List.getElem?_eq_some_iff.mp h2).1
      have e1 : i = pre.length := by simp at hi l2; omega
      subst e1
      rw [List.getElem?_append_left (by simp)] at h1
      have z1 : (pre ++ [z])[pre.length]? = some z := by simp
      rw [z1] at h1
      cases h1
      have z2 : (pre ++ [z] ++ [y])[pre.length + 1]? = some y := by simp
      rw [z2] at h2
      cases h2
      exact ⟨h, ne⟩
end PM
namespace PM
open U
/-! ### the rules of the operators -/
/-! ### parts -/
/-! ### powers -/
end PM
namespace PM
open U
/-! ### rows told by their first element -/
def IsRow (f : PF) (e : Int) (r : List Int) : Prop := ∃ pre z, r = pre ++ [z] ∧ Row f e r ∧ (f z = none ∨ f z = some e)
theorem IsRow.get {f : PF} {e : Int} {r r' : List Int} (h : IsRow f e r) (h' : IsRow f e r') : ∀ (i : Nat) (a : Int), r[i]? = some a → r'[i]? = some a
  | 0, a, e1 => by
    obtain ⟨_, _, _, R, _⟩ := h
    obtain ⟨_, _, _, R', _⟩ := h'
    rw [R.h0] at e1
    rw [R'.h0]
    exact e1
  | i + 1, a, e1 => by
    have ih := IsRow.get h h' i
    obtain ⟨_, _, _, R, _⟩ := h
    obtain ⟨pre', z', q', R', st'⟩ := h'
    have l1 : i + 1 < r.length := (List.getElem?_eq_some_iff.mp e1).1
    obtain ⟨b, hb⟩ : ∃ b, r[i]? = some b := ⟨_, List.getElem?_eq_getElem (by omega)⟩
    obtain ⟨f1, ne⟩ := R.st i b a hb e1
    have hb' := ih b hb
    cases e2 : r'[i + 1]? with
    | some c =>
      have := (R'.st i b c hb' e2).1
      rw [f1] at this
      exact this.symm
    | none =>
      exfalso
      have l2 : i < r'.length := (List.getElem?_eq_some_iff.mp hb').1
      have l3 := List.getElem?_eq_none_iff.mp e2
      subst q'
      rw [List.length_append, List.length_singleton] at l2 l3
      have ei : i = pre'.length := by omega
      subst ei
      have : (pre' ++ [z'])[pre'.length]? = some z' := by simp
      rw [this] at hb'
      cases hb'
      rcases st' with q | q
      · rw [f1] at q; cases q
      · rw [f1] at q; exact ne (Option.some.inj q)
open Classical in
noncomputable def rowN (f : PF) (e : Int) : List Int := if h : ∃ r, IsRow f e r then h.choose else []
theorem IsRow.head {f : PF} {e : Int} {r : List Int} (h : IsRow f e r) : r[0]? = some e := by
  obtain ⟨_, _, _, R, _⟩ := h
  exact R.h0
theorem IsRow.mem {f : PF} {e : Int} {r : List Int} (h : IsRow f e r) : e ∈ r := List.mem_of_getElem? h.head
theorem IsRow.dom {n : Int} {f : PF} {e : Int} {r : List Int} (w : WF n f) (h : IsRow f e r) (h1 : 0 ≤ e) (h2 : e < n) : ∀ x ∈ r, 0 ≤ x ∧ x < n := by
  obtain ⟨_, _, _, R, _⟩ := h
  exact R.dom w h1 h2
theorem IsRow.nd {n : Int} {f : PF} {e : Int} {r : List Int} (w : WF n f) (h : IsRow f e r) : r.Nodup := by
  obtain ⟨_, _, _, R, _⟩ := h
  exact R.nd w
/-! ### which rows are begun -/
noncomputable def seenL (f : PF) (s : List Int) : List Int := (s.map (rowN f)).flatten
theorem mem_seenL {f : PF} {s : List Int} {x : Int} : x ∈ seenL f s ↔ ∃ e ∈ s, x ∈ rowN f e := by
  unfold seenL
  rw [List.mem_flatten]
  constructor
  · rintro ⟨r, hr, hx⟩
    obtain ⟨e, he, rfl⟩ := List.mem_map.mp hr
    exact ⟨e, he, hx⟩
  · rintro ⟨e, he, hx⟩
    exact ⟨_, List.mem_map.mpr ⟨e, he, rfl⟩, hx⟩
/-! ### closed rows -/
/-! ### all parts -/
/-! ### ordered by the first elements -/
end PM
namespace PM
open U
/-! ### powers by the law's own way; great exponents -/
end PM
namespace PM
open U
/-! ### where powers repeat -/
end PM
set_option maxHeartbeats 600000
namespace U
open PySem PySem.Spec PyProof.Rows L2
/-! ### dicts whose keys are None and truth values -/
def oV : Option Bool → V
  | none => .non
  | some b => .bl b
def oVal : Option Bool → Value
  | none => .none
  | some b => .bool b
theorem oV_rel (k : Option Bool) : RelV (oV k) (oVal k) := by cases k <;> exact rfl
theorem oV_val {k : Option Bool} {u : Value} (h : RelV (oV k) u) : u = oVal k := by cases k <;> exact h
def isO : Option Bool → Value → Bool
  | none, .none => true
  | some k, .bool b => b == k
  | _, _ => false
theorem isO_shape {k : Option Bool} {v : Value} (h : isO k v = true) : v = oVal k := by
  cases k <;> cases v <;> first
    | rfl
    | exact congrArg Value.bool (eq_of_beq h)
    | exact absurd h Bool.false_ne_true
theorem isO_self (k : Option Bool) : isO k (oVal k) = true := by
  cases k with
  | none => rfl
  | some b => exact beq_self_eq_true b
def hO : Option Bool → Int
  | none => reduceHash 0xFCA86420
  | some b => PpSet.hB b
theorem pyHash_non {prog : Program} {w : World} {A : Around} {E : Value → Shared → Prop} {s : Shared} {Q : Int → Shared → Prop} (h : Q (hO none) { s with toks := s.toks + 1 }) :
    wpAny (model prog w) A (pyHash .none) Q E s :=
  W.pyHash_slot (T := "NoneType") rfl F.slot_NoneType_hash F.entry_NoneType_hash (F.args_NoneType_hash_1 _) (beq_builtin_none _) (.inl rfl) (wpAny_bind (wpAny_pure (wpAny_bind (wpAny_mkInt (wpAny_pure ⟨_, _, rfl, h⟩)))))
theorem oeq (a b : Option Bool) {A : Around} {s : Shared} : SeqAt.EqAt A s (oVal a) (oVal b) (decide (a = b)) := by
  cases a with
  | none =>
    cases b with
    | none => exact SeqAt.EqAt.same _
    | some b => exact SeqAt.EqAt.none_bool b
  | some a =>
    cases b with
    | none => exact SeqAt.EqAt.bool_none a
    | some b =>
      have := SeqAt.EqAt.bool_bool (A := A) (s := s) a b
      rw [show decide (some a = some b) = (a == b) by cases a <;> cases b <;> rfl]
      exact this
def oddK (prog : Program) (w : World) : PySem.KeyKind prog w (Option Bool) where
  is := isO
  hash := hO
  inj := fun v a b ha hb => by
    have e1 := isO_shape ha
    have e2 := isO_shape hb
    rw [e1] at e2
    cases a with
    | none =>
      cases b with
      | none => rfl
      | some b => exact nomatch e2
    | some a =>
      cases b with
      | none => exact nomatch e2
      | some b => rw [Value.bool.inj e2]
  byValue := fun k v h => by rw [isO_shape h]; cases k <;> rfl
  pyHash := fun {A E s k v Q} hv h => by
    rw [isO_shape hv]
    cases k with
    | none => exact pyHash_non h
    | some b => exact PpSet.pyHash_bool h
  eqBool := fun {A E s a b u v Q} hu hv h => by
    rw [isO_shape hu, isO_shape hv]
    exact oeq a b _ _ _ _ h
  «strs» := fun k x t v h => by cases k <;> exact absurd h Bool.false_ne_true
def OddO (P : Program) (w : World) (a : Addr) (ep : Nat) (kvs : List (Option Bool × V)) : HO := .ext fun h => (a == sysModules) = false ∧ ∃ vs, KV kvs vs ∧ h.DictAt (oddK P w) a vs ep
def OddD (P : Program) (w : World) (H : Hp) (a : Addr) (kvs : List (Option Bool × V)) : Prop := ∃ ep, H a = some (OddO P w a ep kvs)
section
variable {P : Program} {w : World} {H H' : Hp} {h : Heap} {a : Addr} {ep : Nat} {kvs : List (Option Bool × V)}
theorem OddD.same (x : OddD P w H a kvs) (s : Same H H') : OddD P w H' a kvs := by
  obtain ⟨ep, e⟩ := x
  exact ⟨ep, s _ _ e⟩
theorem oddO_ok {vs : List (Option Bool × Value)} (hs : (a == sysModules) = false) (k : KV kvs vs) (d : h.DictAt (oddK P w) a vs ep) : ObjOk P w H h a (OddO P w a ep kvs) :=
  ⟨⟨hs, vs, k, d⟩, (let ⟨o, _, ho, _⟩ := d; ⟨o, ho⟩), fun _ _ ⟨z, vs, k, d⟩ e => ⟨z, vs, k, d.at e⟩⟩
theorem odd_at (ok : HOk P w H h) (e : H a = some (OddO P w a ep kvs)) : (a == sysModules) = false ∧ ∃ vs, KV kvs vs ∧ h.DictAt (oddK P w) a vs ep := (ok a _ e).1
theorem kvO_get : ∀ {κ : Type} {kvs : List (κ × V)} {vs : List (κ × Value)} {i : Nat} {k : κ} {v : V}, KV kvs vs → kvs[i]? = some (k, v) → ∃ u, vs[i]? = some (k, u) ∧ RelV v u
  | _, _, _, i, k, v, .nil, e => by simp at e
  | _, (p :: ps), (q :: qs), 0, k, v, .cons r t, e => by
    simp only [List.getElem?_cons_zero, Option.some.injEq] at e
    subst e
    obtain ⟨q1, q2⟩ := q
    obtain ⟨r1, r2⟩ := r
    cases (show k = q1 from r1)
    exact ⟨q2, rfl, r2⟩
  | _, (p :: ps), (q :: qs), i + 1, k, v, .cons r t, e => by
    obtain ⟨u, h1, h2⟩ := kvO_get (i := i) t (by simpa using e)
    exact ⟨u, by simpa using h1, h2⟩
end
/-- isinstance(d, c) -/
def rIsD (P : Program) (w : World) (K : PySem.W.Frag) : List V → Hp → VK → Prop := fun xs H Q => ∃ (a : Addr) (c : V) (u : Value) (b : Bool) (kvs : List (Option Bool × V)), xs = [.ref a, c] ∧ ClsV c u ∧ OddD P w H a kvs ∧ PySem.W.kitOne K (.type "dict") u = some b ∧ Q (.bl b) H
theorem call_isD {X : Cx} : CallR X (.builtin "isinstance") (rIsD X.prog X.w X.K) := by
  intro pins s σ H xs us Q I r h
  obtain ⟨a, c, u, b, kvs, rfl, k, ⟨ep, e0⟩, e, q⟩ := h
  obtain ⟨u1, u2, rfl, r1, r2⟩ := vals2 r
  have e2 := k.eq r2
  subst e2
  cases (show u1 = Value.ref a from r1)
  obtain ⟨_, vs, _, o, es, h1, h2, _⟩ := odd_at I.hok e0
  have Z : PySem.W.KitX X.K (.ref a) (.type "dict") (PySem.W.KitAt a "dict") := PySem.W.kitx_dict
  have p : PySem.W.KitAt a "dict" s.heap := ⟨o, h1, h2.1⟩
  have hx : Value.ref a ≠ .builtin "__main__.__loader__#opaque" := Value.noConfusion
  exact PySem.W.kia_one Z I.kIn p e hx fun tk => ⟨.bl b, H, I.tok tk, rfl, q⟩
theorem vv_one {x y : V} {ws : List (Value × Value)} (h : VV [(x, y)] ws) : ∃ u1 u2, ws = [(u1, u2)] ∧ RelV x u1 ∧ RelV y u2 := by
  cases h with
  | cons g t =>
    cases t
    exact ⟨_, _, rfl, g.1, g.2⟩
theorem carO {P : Program} {w : World} (k : Option Bool) (u : Value) : Carries (oddK P w) [(oVal k, u)] [(k, u)] := ⟨isO_self k, rfl, True.intro⟩
theorem dict_nilO {P : Program} {w : World} {h : Heap} {a : Addr} (dd : h.DictOf (mixKind P w) a []) : h.DictOf (oddK P w) a [] := by
  obtain ⟨o, es, ep0, ho, hx, hdt, hk, hp, hnd⟩ := dd
  have hes : es.toList = [] := by
    cases z : es.toList with
    | nil => rfl
    | cons y ys =>
      rw [z] at hp
      cases hp
  refine ⟨o, es, ep0, ho, hx, hdt, fun e he => ?_, ?_, List.nodup_nil⟩
  · have : e ∈ es.toList := Array.mem_toList_iff.mpr he
    rw [hes] at this
    cases this
  · rw [hes]
    exact .nil
/-- {k: v} with one such key -/
def tDispO (P : Program) (w : World) (trs : List (TE × TE)) : TE := fun σ H Q => ∀ p, H p = none → tPairs trs σ (upd H p (.dK [])) fun ps H2 => H2 p = some (.dK []) ∧ ∃ (k : Option Bool) (v : V), ps = [(oV k, v)] ∧ ∀ ep, Q (.ref p) (upd H2 p (OddO P w p ep [(k, v)]))
theorem pe_dispO {X : Cx} {pos : Pos} {keys : List (Option Expr)} {values : List Expr} {trs : List (TE × TE)} (h : PPs X pos keys values trs) (hall : keys.all (·.isSome) = true) (hl : keys.length = values.length) (h0 : keys ≠ [])
    (h15 : keys.length ≤ 15) : PE X (.Dict keys values pos) (tDispO X.prog X.w trs) := by
  refine ⟨fun pins s σ H Q I q => ?_⟩
  have hn := I.hok.fresh (Nat.le_refl s.heap.objs.size)
  have I1 := I.laid (a := s.heap.objs.size) (o := .dK []) (h' := s.heap.push { cls := .type "dict", data := .dict #[] }) (t' := s.toks) (fun _ _ q => Heap.get?_push_of_some _ q) (Nat.le_refl _) (dk_empty s.heap I.big)
  refine wpAny_Dict_walk (knd := oddK X.prog X.w) hall hl h0 h15 (thn (h.run pins _ σ _ _ I1 (q _ hn)) fun ws s2 ⟨ps, H2, I2, rel, e, k, v, ep, q2⟩ => ?_)
  subst ep
  obtain ⟨z, hd, vs0, r0, dd⟩ := dk_of I2.hok e
  cases r0
  obtain ⟨u1, u2, rfl, g1, g2⟩ := vv_one rel
  have e1 := oV_val g1
  subst e1
  refine ⟨[(k, u2)], carO k u2, dict_nilO dd, fun h' dd' hs => ?_⟩
  obtain ⟨ep, da⟩ := dd'.dictAt
  have he : ∃ q, h'.get? s.heap.objs.size = some q := let ⟨q, _, hq, _⟩ := da; ⟨q, hq⟩
  have new : ObjOk X.prog X.w (upd H2 s.heap.objs.size (OddO X.prog X.w s.heap.objs.size ep [(k, v)])) h' s.heap.objs.size (OddO X.prog X.w s.heap.objs.size ep [(k, v)]) := oddO_ok hd (.cons ⟨rfl, g2⟩ .nil) da
  have I3 := d_write (t' := s2.toks + [(oVal k, u2)].length) I2 (by rw [e]; exact True.intro) hs he new
  exact ⟨.ref s.heap.objs.size, _, I3, rfl, q2 ep⟩
/-! ### for k, v in d.items() -/
def ItO (P : Program) (w : World) (d : Addr) (ep : Nat) (kvs : List (Option Bool × V)) : It :=
  ⟨fun i H => H d = some (OddO P w d ep kvs) ∧ i < kvs.length, fun i H x H' => ∃ T k v, kvs[i]? = some (k, v) ∧ x = .ref T ∧ H T = none ∧ H' = upd H T (.tup [oV k, v]), fun i H => H d = some (OddO P w d ep kvs) ∧ kvs.length ≤ i⟩
theorem walk_itemsO {P : Program} {w : World} {d : Addr} {ep : Nat} {kvs : List (Option Bool × V)} : Walk (ItO P w d ep kvs) kvs.length (fun H => H d = some (OddO P w d ep kvs)) (YPair (fun i => kvs[i]?.map fun kv => oV kv.1) (fun i => kvs[i]?.map Prod.snd)) := by
  refine ⟨fun _ _ hi q => ⟨q, hi⟩, fun _ q => ⟨q, Nat.le_refl _⟩, fun i H x H' _ _ y => ?_⟩
  obtain ⟨T, k, v, h1, h2, h3, h4⟩ := y
  exact ⟨T, oV k, v, h2, h3, h4, by simp [h1], by simp [h1]⟩
section
variable {P : Program} {w : World} {K : PySem.W.Frag} {d : Addr} {ep : Nat}
theorem turn_itemsO {kvs : List (Option Bool × V)} {elts : List Expr} {kk : Nat} {tpos : Pos} (it : Addr) :
    Turn P w K (.Tuple elts kk tpos) (ItO P w d ep kvs) [it] it (fun i h => ∃ ok ov, IsItemIter h it d i kvs.length ep ok ov) where
  mem := by simp
  obj := fun i h st b hb => by
    have e : b = it := by simpa using hb
    subst e
    obtain ⟨ok, ov, e⟩ := st
    exact ⟨_, e, fun v z => nomatch z⟩
  keep := fun i h h' st k => let ⟨ok, ov, e⟩ := st; ⟨ok, ov, k it (by simp) _ e⟩
  item := by
    intro X hP hw hK hc i pins s σ H E I hf st hg
    subst hP hw hK
    obtain ⟨hd, hi⟩ := hg
    obtain ⟨_, vs, kv, hm⟩ := odd_at I.hok hd
    obtain ⟨⟨k, v⟩, hkv⟩ : ∃ p, kvs[i]? = some p := ⟨kvs[i], List.getElem?_eq_getElem hi⟩
    obtain ⟨u, hu, ru⟩ := kvO_get kv hkv
    have hl : kvs.length = vs.length := Paired.length kv
    obtain ⟨ok, ov, he⟩ := st
    rw [hl] at he
    have hlt : it < s.heap.objs.size := Heap.lt_size he
    refine wpAny_pyNext_items_item he hm hu fun key h' hkey ho hT hz hk => ?_
    refine ⟨_, rfl, wpAny_letOwnedTupleGo_items (s := { s with heap := h' }) ho fun h'' he' sb => ?_⟩
    have hT2 : h''.get? s.heap.objs.size = some { cls := .type "tuple", data := .seq #[key, u] } := (sb.2 _ (Nat.ne_of_gt hlt)).trans hT
    have rk : RelV (oV k) key := by rw [isO_shape hkey]; exact oV_rel k
    have new : ObjOk X.prog X.w (upd H s.heap.objs.size (.tup [oV k, v])) h'' s.heap.objs.size (.tup [oV k, v]) :=
      ⟨by show 2 ≤ sizeLine; decide, [key, u], .cons rk (.cons ru .nil), ⟨_, hT2, rfl, _, rfl⟩⟩
    have I1 : Inv X pins σ (upd H s.heap.objs.size (.tup [oV k, v])) { s with heap := h'' } :=
      I.turnedNew (t' := s.toks) (ch := [it]) (fun b ob hb e => (sb.2 b (by simpa using hb)).trans (hk b ob (by simpa using hb) e)) hf (Nat.le_refl _) new
    refine ⟨.ref s.heap.objs.size, _, I1, rfl, ⟨_, k, v, hkv, rfl, I.hok.fresh (Nat.le_refl _), rfl⟩, ⟨key, u, ?_⟩, fun b hb => ?_⟩
    · rw [hl]; exact he'
    · have e : b = it := by simpa using hb
      rw [e, upd_ne (Nat.ne_of_lt hlt)]
      exact (hf it (by simp)).1
  done := by
    intro X hP hw hK hc i pins s σ H E I hf st hg
    subst hP hw hK
    obtain ⟨hd, hi⟩ := hg
    obtain ⟨f0, f1, f2, f3, f4, f5⟩ := hf it (by simp)
    obtain ⟨_, vs, kv, hm⟩ := odd_at I.hok hd
    have hl : kvs.length = vs.length := Paired.length kv
    obtain ⟨ok, ov, he⟩ := st
    rw [hl] at he
    exact wpAny_pyNext_items_end (I.ok.hd hc) he hm (List.getElem?_eq_none (by omega)) fun h' eb => ⟨rfl, I.turned (t' := s.toks) (fun b ob hb e => eb b ob hb e) f0 f1 f3 f4 f5⟩
  self := fun A i s Q E st h => let ⟨_, _, e⟩ := st; PySem.W.kcp_self e h
end
def iItemsO (P : Program) (w : World) (td : TE) : TI := fun σ H R => td σ H fun x H1 => ∃ d ep kvs, x = .ref d ∧ H1 d = some (OddO P w d ep kvs) ∧ R (ItO P w d ep kvs) H1
theorem pi_itemsO {X : Cx} {e : Expr} {td : TE} {apos cpos : Pos} {elts : List Expr} {kk : Nat} {tpos : Pos} (he : PE X e td) (hbase : attributeBase e "items" X.env (eval e X.env) = eval e X.env := by rfl) (hline : (apos.endLine == cpos.line) = true := by rfl) :
    PI X (.Tuple elts kk tpos) (.Call (.Attribute e "items" apos) [] [] cpos) (iItemsO X.prog X.w td) := by
  refine ⟨fun pins s σ H R I h => ?_⟩
  refine wpAny_Call_method (T := "dict") (id := "dict.items") hbase rfl hline F.plainAttrs_dict F.slot_dict_items F.type_dict_items (thn (he.run pins s σ H _ I h) fun u s1 ⟨x, H1, I1, rx, d, ep, kvs, ex, hd, q⟩ => ?_)
  subst ex
  obtain rfl : u = Value.ref d := rx
  obtain ⟨hs, vs, kv, hm⟩ := odd_at I1.hok hd
  have hl : kvs.length = vs.length := Paired.length kv
  refine ⟨hm.dictOf.typeIs, hm.dictOf.mapOf.noDict, ?_⟩
  have I2 : Inv X pins σ H1 { s1 with heap := s1.heap.push { cls := .type "dict_items", data := .fields #[.ref d] } } := I1.kept (t' := s1.toks) fun b ob q => Heap.get?_push_of_some _ q
  have fin : wpAny (model X.prog X.w) X.A (pyIter (.ref s1.heap.objs.size)) (PIE X pins σ (.Tuple elts kk tpos) R) X.xe { s1 with heap := s1.heap.push { cls := .type "dict_items", data := .fields #[.ref d] } } := by
    refine wpAny_pyIter_items (d := d) (knd := oddK X.prog X.w) ⟨_, Heap.get?_push_size _ rfl, rfl, rfl⟩ (hm.push _) (pi_one (tk := s1.toks) I2 _ (turn_itemsO _) ⟨.none, .none, ?_⟩ q)
    rw [hl]
    exact Heap.get?_push_size _ rfl
  show wpAny _ _ (callWith cpos (.builtin "dict.items") [.ref d] [] []) _ X.xe s1
  exact method_meetsIn F.slot_dict_items F.entry_dict_items rfl (PySem.evalArgs_none ⟨rfl, hm.dictOf.typeIs, F.args_dict_items_1 _, _, meets_dict_items (oddK X.prog X.w) d hs, ⟨vs, hm.dictOf⟩, fin⟩)
end U
set_option maxHeartbeats 1000000
namespace U
open PySem PySem.Spec PyProof.Rows L2
/-! ### dicts whose keys may be anything: None, truth values, tuples; built once, then read -/
def EnR (kv : V × V) (e : DictEntry) : Prop := RelV kv.1 e.key ∧ RelV kv.2 e.val
def RwO (a : Addr) (ep : Nat) (kvs : List (V × V)) : HO := .ext fun h => (a == sysModules) = false ∧ kvs.length ≤ sizeLine ∧ ∃ es, h.DictRaw a es ep ∧ Paired EnR kvs es.toList
def RwD (H : Hp) (a : Addr) (kvs : List (V × V)) : Prop := ∃ ep, H a = some (RwO a ep kvs)
section
variable {P : Program} {w : World} {H H' : Hp} {h : Heap} {a : Addr} {ep : Nat} {kvs : List (V × V)} {es : Array DictEntry}
theorem RwD.same (x : RwD H a kvs) (s : Same H H') : RwD H' a kvs := by
  obtain ⟨ep, e⟩ := x
  exact ⟨ep, s _ _ e⟩
end
/-! ### for v in d.values() -/
/-! ### for k, v in d.items() -/
end U
set_option maxHeartbeats 1000000
namespace U
open PySem PySem.Spec PyProof.Rows L2
/-! ### dict([(k, v)]), k None, a truth value, or a tuple of one int -/
/-! ### bool(o) by the own __bool__ -/
/-! ### len(set(xs)), a list of ints -/
end U
set_option maxHeartbeats 1000000
/-! x in d.values(); classes made with keyword-only parameters -/
namespace PySem
theorem entry_ci : entryFor table "proto.contains_iter" = some Builtin.«proto.contains_iter» := entryFor_of_fast (by kernel_rfl)
theorem plain_ci : plainId "proto.contains_iter" = true := by decide +kernel
theorem noContains_values : typeLookup (.type "dict_values") "__contains__" = pure none := by rw [typeLookup_type, builtinLookup_eq_fast]; kernel_rfl
section
variable {P : Program} {w : World} {A : Around} {E : Value → Shared → Prop}
theorem ci_loop {it d : Addr} {es : Array DictEntry} {ep : Nat} {ns : List Int} {x : Int} {t : Tok} {R : Result → Shared → Prop} (hh : A.handled = none) (hne : d ≠ it) (hn : ns.length = es.size) (hv : ∀ i (hi : i < es.size), ∃ n u, ns[i]? = some n ∧ es[i].val = .int n u) :
    ∀ (k i : Nat) (s : Shared), es.size - i = k → i ≤ es.size → s.heap.IsValIter it d i es.size ep → s.heap.DictRaw d es ep →
      (∀ h' tk, (∀ b o, b ≠ it → s.heap.get? b = some o → h'.get? b = some o) → R (.ok (.ret (.bool (decide (x ∈ ns.drop i))))) { s with heap := h', toks := tk }) →
      codeAny (model P w) A (.builtin "proto.contains_iter" ⟨[.ref it, .int x t], []⟩) R s := by
  intro k
  induction k with
  | zero =>
    intro i s hk hi st hm hR
    have hie : i = es.size := by omega
    refine codeAny_builtin entry_ci ?_
    rw [Around.under_plainId plain_ci _]
    show wpAny _ A.in1 (pyNext (.ref it) >>= _) _ _ s
    refine wpAny_bind (wpAny_pyNext_values_end_raw (A := A.in1) hh st hm (by omega) fun h' eb => ?_)
    have : decide (x ∈ ns.drop i) = false := by
      rw [List.drop_of_length_le (by omega)]
      simp
    have r := hR h' s.toks (fun b o hb e => eb b o hb e)
    rw [this] at r
    exact wpAny_bind (wpAny_rule (wpAny_pure r))
  | succ k ih =>
    intro i s hk hi st hm hR
    have hlt : i < es.size := by omega
    refine codeAny_builtin entry_ci ?_
    rw [Around.under_plainId plain_ci _]
    show wpAny _ A.in1 (pyNext (.ref it) >>= _) _ _ s
    refine wpAny_bind (wpAny_pyNext_values_item_raw (A := A.in1) st hm hlt fun h' st' sb => ?_)
    obtain ⟨n, u, en, ev⟩ := hv i hlt
    rw [ev]
    have ed : ns.drop i = n :: ns.drop (i + 1) := by
      obtain ⟨hi', e2⟩ := List.getElem?_eq_some_iff.mp en
      rw [List.drop_eq_getElem_cons hi', e2]
    show wpAny _ A.in1 (eqBool (.int n u) (.int x t) >>= _) _ _ _
    refine wpAny_bind (wpAny_eqBool_int ?_)
    by_cases h : n = x
    · have hb : (n == x) = true := beq_iff_eq.mpr h
      rw [hb]
      have : decide (x ∈ ns.drop i) = true := by rw [ed, ← h]; simp
      have r := hR h' s.toks (fun b o hb e => (sb.2 b hb).trans e)
      rw [this] at r
      show wpAny _ A.in1 (rule _ >>= _) _ _ _
      exact wpAny_bind (wpAny_rule (wpAny_pure r))
    · have hb : (n == x) = false := beq_eq_false_iff_ne.mpr h
      rw [hb]
      show wpAny _ A.in1 (pure _) _ _ _
      refine wpAny_pure ⟨plainId_quiet plain_ci _, ih (i + 1) { s with heap := h' } (by omega) (by omega) st' (hm.at fun o e => (sb.2 d hne).trans e) fun h'' tk k2 => ?_⟩
      have : decide (x ∈ ns.drop i) = decide (x ∈ ns.drop (i + 1)) := by
        rw [ed]
        exact decide_eq_decide.mpr ⟨fun z => (List.mem_cons.mp z).resolve_left fun e => h e.symm, fun z => List.mem_cons_of_mem _ z⟩
      have r := hR h'' tk (fun b o hb e => k2 b o hb ((sb.2 b hb).trans e))
      rw [this] at r
      exact r
end
end PySem
namespace U
open PySem PySem.Spec PyProof.Rows L2
def valsO (p d : Addr) : HO := .ext fun h => h.IsValuesView p d
theorem valsO_ok {P : Program} {w : World} {H : Hp} {h : Heap} {p d : Addr} (e : h.get? p = some { cls := .type "dict_values", data := .fields #[.ref d] }) : ObjOk P w H h p (valsO p d) :=
  ⟨⟨_, e, rfl, rfl⟩, ⟨_, e⟩, fun h1 h2 x k => let ⟨o, ho, r⟩ := x; ⟨o, k o ho, r⟩⟩
section
variable {X : Cx}
def rValsD : V → List V → Hp → VK → Prop := fun x xs H Q => ∃ (a : Addr) (kvs : List (Key × V)), x = .ref a ∧ xs = [] ∧ H a = some (.dK kvs) ∧ ∀ p, H p = none → Q (.ref p) (upd H p (valsO p a))
theorem mt_valsD : MtR X "dict.values" rValsD := by
  intro pins s σ H x xs v us Q I rx rxs h
  obtain ⟨a, kvs, rfl, rfl, ha, q⟩ := h
  cases rx
  cases rxs
  obtain ⟨z, hd, vs, rel, dd⟩ := dk_of I.hok ha
  obtain ⟨es, ep, dr, _⟩ := dd.raw
  refine call_meetsIn PySem.F.slot_dict_values dr.typeIs PySem.F.entry_dict_values (PySem.F.args_dict_values_1 _) (meets_dict_values_raw a hd) ⟨⟨es, ep, dr⟩, ?_⟩
  exact ⟨.ref s.heap.objs.size, upd H s.heap.objs.size (valsO s.heap.objs.size a), I.laid (t' := s.toks) (fun b u e => Heap.get?_push_of_some _ e) (Nat.le_refl _) (valsO_ok (Heap.get?_push_size _ rfl)), rfl, q _ (I.hok.fresh (Nat.le_refl _))⟩
theorem pe_dvals {o : Expr} {to : TE} {apos cpos : Pos} (ho : PE X o to) (hbase : attributeBase o "values" X.env (eval o X.env) = eval o X.env := by rfl) (hline : (apos.endLine == cpos.line) = true := by rfl) : PE X (.Call (.Attribute o "values" apos) [] [] cpos) (tBM0 X.K "dict" rValsD to) :=
  pe_bm0 PySem.F.plainAttrs_dict PySem.F.slot_dict_values PySem.F.type_dict_values mt_valsD ho hbase hline
/-- i in d.values(), ints -/
def rInVw (neg : Bool) : R2 := fun x y H Q => ∃ (i : Int) (p a : Addr) (ns : List Int) (kvs : List (Key × V)), x = .int i ∧ y = .ref p ∧ H p = some (valsO p a) ∧ H a = some (.dK kvs) ∧ kvs.map Prod.snd = ns.map V.int ∧ Q (.bl (if neg then !decide (i ∈ ns) else decide (i ∈ ns))) H
theorem in_vw {pins : List (Addr × Obj)} {s : Shared} {σ : L2.St} {H : Hp} {i : Int} {t : Tok} {p a : Addr} {ns : List Int} {kvs : List (Key × V)} {Q : Bool → Shared → Prop} {E : Value → Shared → Prop} {A : Around} (hc : A.handled = none) (I : Inv X pins σ H s) (hp : H p = some (valsO p a)) (ha : H a = some (.dK kvs)) (hn : kvs.map Prod.snd = ns.map V.int)
    (q : ∀ s', Inv X pins σ H s' → Q (decide (i ∈ ns)) s') : wpAny (model X.prog X.w) A (contains (.ref p) (.int i t)) Q E s := by
  have vw : s.heap.IsValuesView p a := (I.hok p _ hp).1
  obtain ⟨z, hd, vs, rel, dd⟩ := dk_of I.hok ha
  obtain ⟨es, ep, dr, hsz, hes⟩ := dd.raw
  unfold contains
  refine wpAny_holding ?_
  show wpAny _ A (specialOf (.ref p) "__contains__" >>= _) _ _ s
  refine wpAny_bind (wpAny_specialOf vw.typeIs noContains_values ?_)
  show wpAny _ A (callSpecialUnlessNone? (.ref p) "__contains__" [.int i t] _ >>= _) _ _ s
  refine wpAny_bind ?_
  unfold callSpecialUnlessNone?
  refine wpAny_bind (wpAny_specialOf vw.typeIs noContains_values (wpAny_pure ?_))
  refine wpAny_bind (wpAny_rule ?_)
  have hlen : ns.length = es.size := by
    have h1 := congrArg List.length hn
    rw [List.length_map, List.length_map] at h1
    rw [← h1, hsz, Paired.length rel]
  have hv : ∀ j (hj : j < es.size), ∃ n u, ns[j]? = some n ∧ es[j].val = .int n u := fun j hj => by
    obtain ⟨⟨k, v⟩, ekv⟩ : ∃ q, kvs[j]? = some q := ⟨kvs[j]'(by rw [Paired.length rel, ← hsz]; exact hj), List.getElem?_eq_getElem _⟩
    obtain ⟨u, hu, ru⟩ := kvO_get rel ekv
    obtain ⟨_, e2⟩ := hes j hj k u hu
    have e3 : (kvs.map Prod.snd)[j]? = some v := by rw [List.getElem?_map, ekv]; rfl
    rw [hn, List.getElem?_map] at e3
    obtain ⟨n, en, rfl⟩ := Option.map_eq_some_iff.mp e3
    obtain ⟨t', rfl⟩ := ru
    exact ⟨n, t', en, e2⟩
  have hlt : a < s.heap.objs.size := dr.lt_size
  refine wpAny_bind (wpAny_tryCatch (wpAny_pyIter_values_raw vw dr ?_))
  refine wpAny_bind (wpAny_runValue (ci_loop (P := X.prog) (w := X.w) (es := es) (ep := ep) hc (Nat.ne_of_lt hlt) hlen hv es.size 0 _ (Nat.sub_zero _) (Nat.zero_le _) ⟨_, Heap.get?_push_size _ rfl, rfl, rfl⟩ (dr.push _) fun h' tk k => ?_))
  rw [List.drop_zero] at *
  exact wpAny_pure (q _ (I.kept (t' := tk) fun b o e => k b o (Nat.ne_of_lt (Heap.lt_size e)) (Heap.get?_push_of_some _ e)))
theorem op_inVw (hc : X.calm = true) : OpR X (compareOp .In) (rInVw false) := by
  intro pins s σ H x y v u Q I rx ry h
  obtain ⟨i, p, a, ns, kvs, rfl, rfl, hp, ha, hn, q⟩ := h
  obtain ⟨t, rfl⟩ := rx
  cases ry
  show wpAny _ _ (contains (.ref p) (.int i t) >>= _) _ _ s
  exact wpAny_bind (in_vw (I.ok.hd hc) I hp ha hn fun s' I' => wpAny_pure ⟨.bl _, H, I', rfl, q⟩)
theorem op_notInVw (hc : X.calm = true) : OpR X (compareOp .NotIn) (rInVw true) := by
  intro pins s σ H x y v u Q I rx ry h
  obtain ⟨i, p, a, ns, kvs, rfl, rfl, hp, ha, hn, q⟩ := h
  obtain ⟨t, rfl⟩ := rx
  cases ry
  show wpAny _ _ (contains (.ref p) (.int i t) >>= _) _ _ s
  exact wpAny_bind (in_vw (I.ok.hd hc) I hp ha hn fun s' I' => wpAny_pure ⟨.bl _, H, I', rfl, q⟩)
/-! ### C(e, .., k = v, ..) -/
theorem kwd2 {K : PySem.W.Frag} {D e1 e2 : Addr} {n1 n2 : Str} (h1 : PySem.W.nsIn K D n1 = some (some (.ref e1))) (h2 : PySem.W.nsIn K D n2 = some (some (.ref e2))) : KwdV K (.ref D) [(n1, .ref e1), (n2, .ref e2)] := by
  refine .inr ⟨D, rfl, fun q hq => ?_⟩
  rcases List.mem_cons.mp hq with rfl | hq
  · exact ⟨_, h1, rfl⟩
  · rw [List.mem_singleton.mp hq]; exact ⟨_, h2, rfl⟩
def tMakeKS (C : Addr) (n m : Nat) (sp : Sp) (gV : List V → List V → List V) (E : L2.St → XK) (t tk : TA) : TE := fun σ H Q => t σ H fun vs H1 => tk σ H1 fun zs H2 => vs.length = n ∧ zs.length = m ∧ ∀ x dx, H2 x = none → H2 dx = none → dx ≠ x →
  sp (gV (.ref x :: vs) zs) (upd (upd H2 dx (.own x)) x (.ins C dx [])) (fun v H3 => v = .non ∧ Q (.ref x) H3) (E σ)
end
section
variable {X : Cx} {CX : CXT} {k n : Nat} {f C : Addr} {fd : FuncData} {ps ks : List Str} {sp : Sp} {x : Str} {p pos : Pos} {e : Expr} {es : List Expr} {kws : List Keyword} {t tk : TA} {g : List Value → List Value → List Value} {gV : List V → List V → List V}
/-- .. in a try body -/
theorem pe_makeKS {E : L2.St → XK} (M : Mk X.K C f) (F : FnOk X.prog X.w X.K X.mg X.base CX k f fd ps sp) (hr : Room (k + 1) X.A) (hg : Gl X x) (hm : X.mg x = some (.ref C)) (hb : KBn X.K fd ps (n + 1) ks g gV) (hx : ∀ σ, PassesAt CX X σ (E σ)) (ha : PA X (e :: es) t) (hkw : PK X kws tk)
    (hall : (backToKw pos (keywordEach kws X.env)).all (·.1.isSome) = true := by rfl) (hks : (backToKw pos (keywordEach kws X.env)).filterMap (·.1) = ks := by rfl) (hdb : (x == ("__debug__" : Str)) = false := by decide)
    (he : starEach (e :: es) X.env = (false, eval e X.env) :: starEach es X.env := by rfl) (hpl : ((backTo pos (starEach (e :: es) X.env)).any (·.1) || (backToKw pos (keywordEach kws X.env)).any (·.1.isNone)) = false := by rfl) :
    PE X (.Call (.Name x p) (e :: es) kws pos) (tMakeKS C n ks.length sp gV E t tk) := by
  refine ⟨fun pins s σ H Q I h => ?_⟩
  refine wpAny_Call_Name_kw (ld_glob I hg hm ?_ hdb)
  refine PySem.W.callWith_KW (h₀ := X.base) I.ok.mod.kin M.kp hall (thn (ha.run pos pins s σ H _ I h) fun us s1 ⟨vs, H1, I1, r, q⟩ => ?_) hpl he
  refine thn (hkw.run pos pins s1 σ H1 _ I1 q) fun ws s2 ⟨zs, H2, I2, rz, l1, l2, q2⟩ => ⟨I2.kIn, ?_⟩
  rw [hks]
  show wpAny _ _ (call (.ref C) us (ks.zip ws)) _ _ _
  have hq := q2 (s2.heap.objs.size + 1) s2.heap.objs.size (I2.hok.fresh (Nat.le_succ _)) (I2.hok.fresh (Nat.le_refl _)) (Nat.ne_of_lt (Nat.lt_succ_self _))
  have J := Inv.made (C := C) I2
  have r1 : Vals (V.ref (s2.heap.objs.size + 1) :: vs) (Value.ref (s2.heap.objs.size + 1) :: us) := .cons rfl r
  have r2 := hb.rel r1 rz
  have n1 : (Value.ref (s2.heap.objs.size + 1) :: us).length = n + 1 := by
    rw [List.length_cons, ← r.length, l1]
  refine wpAny_call (make_map (f := f) I2.kIn M.makes M.init (beq_iff_eq.mp M.fn) (codeAny_mono (F.run _ X.stack _ _ ⟨Value.ref (s2.heap.objs.size + 1) :: us, ks.zip ws⟩ (g (Value.ref (s2.heap.objs.size + 1) :: us) ws) _ _ (E σ) (hr.make C us (ks.zip ws))
    (J.env0.make C us (ks.zip ws)) (hb.to _ (Value.ref (s2.heap.objs.size + 1) :: us) ws J.kIn n1 (rz.length.symm.trans l2)) r2 hq) fun r s' hq' => ?_))
  cases r with
  | error e => exact hx σ pins _ _ e s' J hq'
  | ok fl =>
    cases fl with
    | ret u =>
      obtain ⟨v, H', I3, rv, ev, q3⟩ := J.after hq'
      subst ev
      exact ⟨rv, ⟨V.ref (s2.heap.objs.size + 1), H', I3, rfl, q3⟩⟩
    | next => exact False.elim hq'
    | brk => exact False.elim hq'
    | cont => exact False.elim hq'
end
end U
namespace My
open PySem L2
def top (i : Nat) : Stmt := PySem.Challenge.pw_chainmaps_k60_partly_known_maps.main.body.getD i (.Pass ⟨0, 0, 0, 0⟩)
abbrev s_is_integer : Stmt := top 11
abbrev n_is_integer : List Str := ["value"]
theorem sc_is_integer : FnScope n_is_integer ["value"] (defScope s_is_integer) := ⟨rfl, rfl, rfl, by decide +kernel, rfl, by decide +kernel, by decide +kernel⟩
abbrev s_in_range : Stmt := top 12
abbrev n_in_range : List Str := ["value", "least", "most"]
theorem sc_in_range : FnScope n_in_range ["value", "least", "most"] (defScope s_in_range) := ⟨rfl, rfl, rfl, by decide +kernel, rfl, by decide +kernel, by decide +kernel⟩
abbrev s_check_size : Stmt := top 13
abbrev n_check_size : List Str := ["size"]
theorem sc_check_size : FnScope n_check_size ["size"] (defScope s_check_size) := ⟨rfl, rfl, rfl, by decide +kernel, rfl, by decide +kernel, by decide +kernel⟩
abbrev s_are_arrows : Stmt := top 14
abbrev n_are_arrows : List Str := ["size", "arrows", "targets", "source", "target"]
theorem sc_are_arrows : FnScope n_are_arrows ["size", "arrows"] (defScope s_are_arrows) := ⟨rfl, rfl, rfl, by decide +kernel, rfl, by decide +kernel, by decide +kernel⟩
abbrev s_are_elements : Stmt := top 22
abbrev n_are_elements : List Str := ["size", "value", "one"]
theorem sc_are_elements : FnScope n_are_elements ["size", "value"] (defScope s_are_elements) := ⟨rfl, rfl, rfl, by decide +kernel, rfl, by decide +kernel, by decide +kernel⟩
abbrev s_Partial__init : Stmt := inClass (top 23) 0
abbrev n_Partial__init : List Str := ["self", "size", "arrows", "ends", "starts", "one"]
theorem sc_Partial__init : FnScope n_Partial__init ["self", "size", "arrows", "ends", "starts"] (defScope s_Partial__init) := ⟨rfl, rfl, rfl, by decide +kernel, rfl, by decide +kernel, by decide +kernel⟩
abbrev s_Partial_known : Stmt := inClass (top 23) 1
abbrev n_Partial_known : List Str := ["self"]
theorem sc_Partial_known : FnScope n_Partial_known ["self"] (defScope s_Partial_known) := ⟨rfl, rfl, rfl, by decide +kernel, rfl, by decide +kernel, by decide +kernel⟩
abbrev s_Partial_ends : Stmt := inClass (top 23) 2
abbrev n_Partial_ends : List Str := ["self"]
theorem sc_Partial_ends : FnScope n_Partial_ends ["self"] (defScope s_Partial_ends) := ⟨rfl, rfl, rfl, by decide +kernel, rfl, by decide +kernel, by decide +kernel⟩
abbrev s_Partial_starts : Stmt := inClass (top 23) 3
abbrev n_Partial_starts : List Str := ["self"]
theorem sc_Partial_starts : FnScope n_Partial_starts ["self"] (defScope s_Partial_starts) := ⟨rfl, rfl, rfl, by decide +kernel, rfl, by decide +kernel, by decide +kernel⟩
abbrev s_Partial__contains : Stmt := inClass (top 23) 4
abbrev n_Partial__contains : List Str := ["self", "value", "arrows", "known", "targets", "source", "target", "one"]
theorem sc_Partial__contains : FnScope n_Partial__contains ["self", "value"] (defScope s_Partial__contains) := ⟨rfl, rfl, rfl, by decide +kernel, rfl, by decide +kernel, by decide +kernel⟩
abbrev s_Partial__eq : Stmt := inClass (top 23) 6
abbrev n_Partial__eq : List Str := ["self", "other"]
theorem sc_Partial__eq : FnScope n_Partial__eq ["self", "other"] (defScope s_Partial__eq) := ⟨rfl, rfl, rfl, by decide +kernel, rfl, by decide +kernel, by decide +kernel⟩
abbrev s_Partial__repr : Stmt := inClass (top 23) 7
abbrev n_Partial__repr : List Str := ["self", "known"]
theorem sc_Partial__repr : FnScope n_Partial__repr ["self"] (defScope s_Partial__repr) := ⟨rfl, rfl, rfl, by decide +kernel, rfl, by decide +kernel, by decide +kernel⟩
abbrev s_Map__init : Stmt := inClass (top 18) 0
abbrev n_Map__init : List Str := ["self", "size", "arrows", "source"]
theorem sc_Map__init : FnScope n_Map__init ["self", "size", "arrows"] (defScope s_Map__init) := ⟨rfl, rfl, rfl, by decide +kernel, rfl, by decide +kernel, by decide +kernel⟩
abbrev s_Map_identity : Stmt := inClass (top 18) 1
abbrev n_Map_identity : List Str := ["cls", "size", "element"]
theorem sc_Map_identity : FnScope n_Map_identity ["cls", "size"] (defScope s_Map_identity) := ⟨rfl, rfl, rfl, by decide +kernel, rfl, by decide +kernel, by decide +kernel⟩
abbrev s_Map_empty : Stmt := inClass (top 18) 2
abbrev n_Map_empty : List Str := ["cls", "size"]
theorem sc_Map_empty : FnScope n_Map_empty ["cls", "size"] (defScope s_Map_empty) := ⟨rfl, rfl, rfl, by decide +kernel, rfl, by decide +kernel, by decide +kernel⟩
abbrev s_Map_size : Stmt := inClass (top 18) 6
abbrev n_Map_size : List Str := ["self"]
theorem sc_Map_size : FnScope n_Map_size ["self"] (defScope s_Map_size) := ⟨rfl, rfl, rfl, by decide +kernel, rfl, by decide +kernel, by decide +kernel⟩
abbrev s_Map_arrows : Stmt := inClass (top 18) 7
abbrev n_Map_arrows : List Str := ["self"]
theorem sc_Map_arrows : FnScope n_Map_arrows ["self"] (defScope s_Map_arrows) := ⟨rfl, rfl, rfl, by decide +kernel, rfl, by decide +kernel, by decide +kernel⟩
abbrev s_Map__eq : Stmt := inClass (top 18) 25
abbrev n_Map__eq : List Str := ["self", "other"]
theorem sc_Map__eq : FnScope n_Map__eq ["self", "other"] (defScope s_Map__eq) := ⟨rfl, rfl, rfl, by decide +kernel, rfl, by decide +kernel, by decide +kernel⟩
abbrev s_InvalidPartial__init : Stmt := inClass (top 8) 0
abbrev n_InvalidPartial__init : List Str := ["self", "part"]
theorem sc_InvalidPartial__init : FnScope n_InvalidPartial__init ["self", "part"] (defScope s_InvalidPartial__init) := ⟨rfl, rfl, rfl, by decide +kernel, rfl, by decide +kernel, by decide +kernel⟩
abbrev s_l_hand : Stmt := top 27
abbrev n_l_hand : List Str := ["_law_script", "_law_k", "_law_cell", "_law_seed"]
theorem sc_l_hand : FnScope n_l_hand ["_law_script", "_law_k"] (defScope s_l_hand) := ⟨rfl, rfl, rfl, by decide +kernel, rfl, by decide +kernel, by decide +kernel⟩
abbrev s_l_draw : Stmt := top 28
abbrev n_l_draw : List Str := ["_law_pool", "_law_size", "_law_found"]
theorem sc_l_draw : FnScope n_l_draw ["_law_pool", "_law_size"] (defScope s_l_draw) := ⟨rfl, rfl, rfl, by decide +kernel, rfl, by decide +kernel, by decide +kernel⟩
abbrev s_l_arrows : Stmt := top 29
abbrev n_l_arrows : List Str := ["_law_pool", "_law_size", "_law_left", "_law_found", "_law_rare", "_law_source"]
theorem sc_l_arrows : FnScope n_l_arrows ["_law_pool", "_law_size"] (defScope s_l_arrows) := ⟨rfl, rfl, rfl, by decide +kernel, rfl, by decide +kernel, by decide +kernel⟩
abbrev s_l_all : Stmt := top 30
abbrev n_l_all : List Str := ["_law_size", "_law_found", "_law_source", "_law_longer", "_law_table", "_law_target", "_law_more"]
theorem sc_l_all : FnScope n_l_all ["_law_size"] (defScope s_l_all) := ⟨rfl, rfl, rfl, by decide +kernel, rfl, by decide +kernel, by decide +kernel⟩
abbrev s_l_known : Stmt := top 31
abbrev n_l_known : List Str := ["_law_pool", "_law_size", "_law_table", "_law_closed", "_law_unmet", "_law_source", "_law_at"]
theorem sc_l_known : FnScope n_l_known ["_law_pool", "_law_size"] (defScope s_l_known) := ⟨rfl, rfl, rfl, by decide +kernel, rfl, by decide +kernel, by decide +kernel⟩
abbrev s_l_made : Stmt := top 32
abbrev n_l_made : List Str := ["_law_size", "_law_row"]
theorem sc_l_made : FnScope n_l_made ["_law_size", "_law_row"] (defScope s_l_made) := ⟨rfl, rfl, rfl, by decide +kernel, rfl, by decide +kernel, by decide +kernel⟩
abbrev s_l_fits : Stmt := top 33
abbrev n_l_fits : List Str := ["_law_table", "_law_row", "_law_source", "_law_at"]
theorem sc_l_fits : FnScope n_l_fits ["_law_table", "_law_row"] (defScope s_l_fits) := ⟨rfl, rfl, rfl, by decide +kernel, rfl, by decide +kernel, by decide +kernel⟩
abbrev s_l_told : Stmt := top 34
abbrev n_l_told : List Str := ["_law_size", "_law_table", "_law_closed", "_law_unmet", "e"]
theorem sc_l_told : FnScope n_l_told ["_law_size", "_law_table", "_law_closed", "_law_unmet"] (defScope s_l_told) := ⟨rfl, rfl, rfl, by decide +kernel, rfl, by decide +kernel, by decide +kernel⟩
abbrev s_l_parts_right : Stmt := top 35
abbrev n_l_parts_right : List Str := ["_law_pool", "_law_size", "_law_row", "_law_table", "_law_closed", "_law_unmet", "_law_odd", "_law_bad", "_law_spots", "_law_at"]
theorem sc_l_parts_right : FnScope n_l_parts_right ["_law_pool", "_law_size", "_law_row"] (defScope s_l_parts_right) := ⟨rfl, rfl, rfl, by decide +kernel, rfl, by decide +kernel, by decide +kernel⟩
abbrev s_l_shown : Stmt := top 36
abbrev n_l_shown : List Str := ["_law_size", "_law_row", "_law_partial", "_law_table", "_law_closed", "_law_unmet", "_law_known_here", "_law_front"]
theorem sc_l_shown : FnScope n_l_shown ["_law_size", "_law_row", "_law_partial"] (defScope s_l_shown) := ⟨rfl, rfl, rfl, by decide +kernel, rfl, by decide +kernel, by decide +kernel⟩
abbrev s_l_unlike : Stmt := top 37
abbrev n_l_unlike : List Str := ["_law_size", "_law_row", "_law_sources", "_law_targets", "_law_less", "_law_found", "_law_turned", "_law_at"]
theorem sc_l_unlike : FnScope n_l_unlike ["_law_size", "_law_row"] (defScope s_l_unlike) := ⟨rfl, rfl, rfl, by decide +kernel, rfl, by decide +kernel, by decide +kernel⟩
abbrev s_law : Stmt := top 38
abbrev n_law : List Str := ["_law_script", "_law_k", "_law_pool", "_law_size", "_law_row", "_law_given", "_law_partial", "_law_table", "_law_odd", "_law_others", "_law_value", "_law_other"]
theorem sc_law : FnScope n_law ["_law_script"] (defScope s_law) := ⟨rfl, rfl, rfl, by decide +kernel, rfl, by decide +kernel, by decide +kernel⟩
set_option genInjectivity false
set_option genSizeOf false
structure Txt (K : PySem.W.Frag) (mg : Str → Option Value) where
  f_is_integer : Addr
  f_in_range : Addr
  f_check_size : Addr
  f_are_arrows : Addr
  f_are_elements : Addr
  f_l_hand : Addr
  f_l_draw : Addr
  f_l_arrows : Addr
  f_l_all : Addr
  f_l_known : Addr
  f_l_made : Addr
  f_l_fits : Addr
  f_l_told : Addr
  f_l_parts_right : Addr
  f_l_shown : Addr
  f_l_unlike : Addr
  f_law : Addr
  C_Partial : Addr
  f_Partial__init : Addr
  e_Partial__init_ends : Addr
  e_Partial__init_starts : Addr
  p_Partial_known : Addr
  f_Partial_known : Addr
  p_Partial_ends : Addr
  f_Partial_ends : Addr
  p_Partial_starts : Addr
  f_Partial_starts : Addr
  f_Partial__contains : Addr
  f_Partial__eq : Addr
  f_Partial__repr : Addr
  C_Map : Addr
  f_Map__init : Addr
  p_Map_identity : Addr
  f_Map_identity : Addr
  p_Map_empty : Addr
  f_Map_empty : Addr
  p_Map_size : Addr
  f_Map_size : Addr
  p_Map_arrows : Addr
  f_Map_arrows : Addr
  f_Map__eq : Addr
  C_InvalidPartial : Addr
  f_InvalidPartial__init : Addr
  A_is_integer : U.FnAt K "is_integer" "is_integer" s_is_integer f_is_integer ["value"]
  g_is_integer : mg "is_integer" = some (.ref f_is_integer)
  A_in_range : U.FnAt K "in_range" "in_range" s_in_range f_in_range ["value", "least", "most"]
  g_in_range : mg "in_range" = some (.ref f_in_range)
  A_check_size : U.FnAt K "check_size" "check_size" s_check_size f_check_size ["size"]
  g_check_size : mg "check_size" = some (.ref f_check_size)
  A_are_arrows : U.FnAt K "are_arrows" "are_arrows" s_are_arrows f_are_arrows ["size", "arrows"]
  g_are_arrows : mg "are_arrows" = some (.ref f_are_arrows)
  A_are_elements : U.FnAt K "are_elements" "are_elements" s_are_elements f_are_elements ["size", "value"]
  g_are_elements : mg "are_elements" = some (.ref f_are_elements)
  A_l_hand : U.FnAt K "_law_hand" "_law_hand" s_l_hand f_l_hand ["_law_script", "_law_k"]
  g_l_hand : mg "_law_hand" = some (.ref f_l_hand)
  A_l_draw : U.FnAt K "_law_draw" "_law_draw" s_l_draw f_l_draw ["_law_pool", "_law_size"]
  g_l_draw : mg "_law_draw" = some (.ref f_l_draw)
  A_l_arrows : U.FnAt K "_law_arrows" "_law_arrows" s_l_arrows f_l_arrows ["_law_pool", "_law_size"]
  g_l_arrows : mg "_law_arrows" = some (.ref f_l_arrows)
  A_l_all : U.FnAt K "_law_all" "_law_all" s_l_all f_l_all ["_law_size"]
  g_l_all : mg "_law_all" = some (.ref f_l_all)
  A_l_known : U.FnAt K "_law_known" "_law_known" s_l_known f_l_known ["_law_pool", "_law_size"]
  g_l_known : mg "_law_known" = some (.ref f_l_known)
  A_l_made : U.FnAt K "_law_made" "_law_made" s_l_made f_l_made ["_law_size", "_law_row"]
  g_l_made : mg "_law_made" = some (.ref f_l_made)
  A_l_fits : U.FnAt K "_law_fits" "_law_fits" s_l_fits f_l_fits ["_law_table", "_law_row"]
  g_l_fits : mg "_law_fits" = some (.ref f_l_fits)
  A_l_told : U.FnAt K "_law_told" "_law_told" s_l_told f_l_told ["_law_size", "_law_table", "_law_closed", "_law_unmet"]
  g_l_told : mg "_law_told" = some (.ref f_l_told)
  A_l_parts_right : U.FnAt K "_law_parts_right" "_law_parts_right" s_l_parts_right f_l_parts_right ["_law_pool", "_law_size", "_law_row"]
  g_l_parts_right : mg "_law_parts_right" = some (.ref f_l_parts_right)
  A_l_shown : U.FnAt K "_law_shown" "_law_shown" s_l_shown f_l_shown ["_law_size", "_law_row", "_law_partial"]
  g_l_shown : mg "_law_shown" = some (.ref f_l_shown)
  A_l_unlike : U.FnAt K "_law_unlike" "_law_unlike" s_l_unlike f_l_unlike ["_law_size", "_law_row"]
  g_l_unlike : mg "_law_unlike" = some (.ref f_l_unlike)
  A_law : U.FnAt K "law" "law" s_law f_law ["_law_script"]
  L_law : ∃ fd, Fun K "law" "law" s_law f_law fd ∧ ∀ (s : Shared) (u : Value), BindsTo s fd ⟨[u], []⟩ [("_law_script", u)]
  g_law : mg "law" = some (.ref f_law)
  g_Partial : mg "Partial" = some (.ref C_Partial)
  o_Partial : U.OwnC K C_Partial
  kit_int_Partial : PySem.W.kitOne K (.ref C_Partial) (.type "int") = some false
  kit_bool_Partial : PySem.W.kitOne K (.ref C_Partial) (.type "bool") = some false
  kn_NoneType_Partial : PySem.W.kitOne K (.type "NoneType") (.ref C_Partial) = some false
  nf_NoneType_Partial : PySem.W.notFirst K C_Partial (.type "NoneType") = true
  kn_int_Partial : PySem.W.kitOne K (.type "int") (.ref C_Partial) = some false
  nf_int_Partial : PySem.W.notFirst K C_Partial (.type "int") = true
  kn_bool_Partial : PySem.W.kitOne K (.type "bool") (.ref C_Partial) = some false
  nf_bool_Partial : PySem.W.notFirst K C_Partial (.type "bool") = true
  kn_str_Partial : PySem.W.kitOne K (.type "str") (.ref C_Partial) = some false
  nf_str_Partial : PySem.W.notFirst K C_Partial (.type "str") = true
  kn_list_Partial : PySem.W.kitOne K (.type "list") (.ref C_Partial) = some false
  nf_list_Partial : PySem.W.notFirst K C_Partial (.type "list") = true
  kn_dict_Partial : PySem.W.kitOne K (.type "dict") (.ref C_Partial) = some false
  nf_dict_Partial : PySem.W.notFirst K C_Partial (.type "dict") = true
  kn_tuple_Partial : PySem.W.kitOne K (.type "tuple") (.ref C_Partial) = some false
  nf_tuple_Partial : PySem.W.notFirst K C_Partial (.type "tuple") = true
  self_Partial : PySem.W.kitOne K (.ref C_Partial) (.ref C_Partial) = some true
  na_own_known_Partial : NoAttr K C_Partial "own_known"
  na_own_ends_Partial : NoAttr K C_Partial "own_ends"
  na_own_starts_Partial : NoAttr K C_Partial "own_starts"
  ne_Partial : PySem.W.findIn K (.ref C_Partial) "__ne__" = some (some (.builtin "object.__ne__"))
  kl_Partial__init_ends : ∃ d n s, K.lookup e_Partial__init_ends = some ⟨.type "tuple", d, .seq #[] n, s⟩
  kl_Partial__init_starts : ∃ d n s, K.lookup e_Partial__init_starts = some ⟨.type "tuple", d, .seq #[] n, s⟩
  D_Partial__init : ∃ fd, FunD K "__init__" "Partial.__init__" (defArgs s_Partial__init) (defBody s_Partial__init) (defScope s_Partial__init) [] [("ends", .ref e_Partial__init_ends), ("starts", .ref e_Partial__init_starts)] f_Partial__init fd
  m_Partial__init : PySem.W.findIn K (.ref C_Partial) "__init__" = some (some (.ref f_Partial__init))
  i_Partial__init : PySem.W.isFn K (.ref f_Partial__init) = true
  M_Partial : Mk K C_Partial f_Partial__init
  A_Partial_known : U.FnAt K "known" "Partial.known" s_Partial_known f_Partial_known ["self"]
  P_Partial_known : PropOf K C_Partial "known" p_Partial_known f_Partial_known
  A_Partial_ends : U.FnAt K "ends" "Partial.ends" s_Partial_ends f_Partial_ends ["self"]
  P_Partial_ends : PropOf K C_Partial "ends" p_Partial_ends f_Partial_ends
  A_Partial_starts : U.FnAt K "starts" "Partial.starts" s_Partial_starts f_Partial_starts ["self"]
  P_Partial_starts : PropOf K C_Partial "starts" p_Partial_starts f_Partial_starts
  A_Partial__contains : U.FnAt K "__contains__" "Partial.__contains__" s_Partial__contains f_Partial__contains ["self", "value"]
  m_Partial__contains : PySem.W.findIn K (.ref C_Partial) "__contains__" = some (some (.ref f_Partial__contains))
  i_Partial__contains : PySem.W.isFn K (.ref f_Partial__contains) = true
  A_Partial__eq : U.FnAt K "__eq__" "Partial.__eq__" s_Partial__eq f_Partial__eq ["self", "other"]
  m_Partial__eq : PySem.W.findIn K (.ref C_Partial) "__eq__" = some (some (.ref f_Partial__eq))
  i_Partial__eq : PySem.W.isFn K (.ref f_Partial__eq) = true
  A_Partial__repr : U.FnAt K "__repr__" "Partial.__repr__" s_Partial__repr f_Partial__repr ["self"]
  m_Partial__repr : PySem.W.findIn K (.ref C_Partial) "__repr__" = some (some (.ref f_Partial__repr))
  i_Partial__repr : PySem.W.isFn K (.ref f_Partial__repr) = true
  g_Map : mg "Map" = some (.ref C_Map)
  o_Map : U.OwnC K C_Map
  kit_int_Map : PySem.W.kitOne K (.ref C_Map) (.type "int") = some false
  kit_bool_Map : PySem.W.kitOne K (.ref C_Map) (.type "bool") = some false
  kn_NoneType_Map : PySem.W.kitOne K (.type "NoneType") (.ref C_Map) = some false
  nf_NoneType_Map : PySem.W.notFirst K C_Map (.type "NoneType") = true
  kn_int_Map : PySem.W.kitOne K (.type "int") (.ref C_Map) = some false
  nf_int_Map : PySem.W.notFirst K C_Map (.type "int") = true
  kn_bool_Map : PySem.W.kitOne K (.type "bool") (.ref C_Map) = some false
  nf_bool_Map : PySem.W.notFirst K C_Map (.type "bool") = true
  kn_str_Map : PySem.W.kitOne K (.type "str") (.ref C_Map) = some false
  nf_str_Map : PySem.W.notFirst K C_Map (.type "str") = true
  kn_list_Map : PySem.W.kitOne K (.type "list") (.ref C_Map) = some false
  nf_list_Map : PySem.W.notFirst K C_Map (.type "list") = true
  kn_dict_Map : PySem.W.kitOne K (.type "dict") (.ref C_Map) = some false
  nf_dict_Map : PySem.W.notFirst K C_Map (.type "dict") = true
  kn_tuple_Map : PySem.W.kitOne K (.type "tuple") (.ref C_Map) = some false
  nf_tuple_Map : PySem.W.notFirst K C_Map (.type "tuple") = true
  kx_Map_Partial : PySem.W.kitOne K (.ref C_Map) (.ref C_Partial) = some false
  nf_Map_Partial : PySem.W.notFirst K C_Partial (.ref C_Map) = true
  self_Map : PySem.W.kitOne K (.ref C_Map) (.ref C_Map) = some true
  na_own_size_Map : NoAttr K C_Map "own_size"
  na_own_arrows_Map : NoAttr K C_Map "own_arrows"
  ne_Map : PySem.W.findIn K (.ref C_Map) "__ne__" = some (some (.builtin "object.__ne__"))
  A_Map__init : U.FnAt K "__init__" "Map.__init__" s_Map__init f_Map__init ["self", "size", "arrows"]
  m_Map__init : PySem.W.findIn K (.ref C_Map) "__init__" = some (some (.ref f_Map__init))
  i_Map__init : PySem.W.isFn K (.ref f_Map__init) = true
  M_Map : Mk K C_Map f_Map__init
  R_Map : ClX.CRead K C_Map (.type "type")
  A_Map_identity : U.FnAt K "identity" "Map.identity" s_Map_identity f_Map_identity ["cls", "size"]
  cm_Map_identity : ClX.CMet K C_Map (.type "type") "identity" p_Map_identity f_Map_identity
  A_Map_empty : U.FnAt K "empty" "Map.empty" s_Map_empty f_Map_empty ["cls", "size"]
  cm_Map_empty : ClX.CMet K C_Map (.type "type") "empty" p_Map_empty f_Map_empty
  A_Map_size : U.FnAt K "size" "Map.size" s_Map_size f_Map_size ["self"]
  P_Map_size : PropOf K C_Map "size" p_Map_size f_Map_size
  A_Map_arrows : U.FnAt K "arrows" "Map.arrows" s_Map_arrows f_Map_arrows ["self"]
  P_Map_arrows : PropOf K C_Map "arrows" p_Map_arrows f_Map_arrows
  A_Map__eq : U.FnAt K "__eq__" "Map.__eq__" s_Map__eq f_Map__eq ["self", "other"]
  m_Map__eq : PySem.W.findIn K (.ref C_Map) "__eq__" = some (some (.ref f_Map__eq))
  i_Map__eq : PySem.W.isFn K (.ref f_Map__eq) = true
  g_InvalidPartial : mg "InvalidPartial" = some (.ref C_InvalidPartial)
  x_InvalidPartial : OexG K C_InvalidPartial
  xf_InvalidPartial : XfC K C_InvalidPartial
  xe_InvalidPartial : ExcC K C_InvalidPartial
  te_InvalidPartial : PySem.W.exmOne K (.ref C_InvalidPartial) (.ref C_InvalidPartial) = some true
  kit_ValueError_InvalidPartial : PySem.W.kitOne K (.ref C_InvalidPartial) (.type "ValueError") = some true
  na_part_InvalidPartial : PySem.W.findIn K (.ref C_InvalidPartial) "part" = some none
  A_InvalidPartial__init : U.FnAt K "__init__" "InvalidPartial.__init__" s_InvalidPartial__init f_InvalidPartial__init ["self", "part"]
  m_InvalidPartial__init : PySem.W.findIn K (.ref C_InvalidPartial) "__init__" = some (some (.ref f_InvalidPartial__init))
  ti_InvalidPartial__init : PySem.W.typeIn K (.ref f_InvalidPartial__init) = some (.type "function")
  n_isinstance : mg "isinstance" = none
  n_int : mg "int" = none
  n_bool : mg "bool" = none
  n_dict : mg "dict" = none
  n_len : mg "len" = none
  n_range : mg "range" = none
  n_list : mg "list" = none
  n_tuple : mg "tuple" = none
  n_all : mg "all" = none
  n_any : mg "any" = none
  n_max : mg "max" = none
  n_min : mg "min" = none
  n_repr : mg "repr" = none
  n_str : mg "str" = none
  n_ValueError : mg "ValueError" = none
  v_MAX_SIZE : ∃ t, mg "MAX_SIZE" = some (.int 300 t)
theorem mk_txt {K : PySem.W.Frag} {h : Heap} {mg : Str → Option Value} (X : K.In h) (G : h.Ns mainGlobals mg)
    {f_is_integer : Addr} {oc_is_integer kV_is_integer dc_is_integer pm_is_integer cd_is_integer ct_is_integer : Value} {od_is_integer an_is_integer : Option Addr} {sl_is_integer : Array (Option Value)}
    {f_in_range : Addr} {oc_in_range kV_in_range dc_in_range pm_in_range cd_in_range ct_in_range : Value} {od_in_range an_in_range : Option Addr} {sl_in_range : Array (Option Value)}
    {f_check_size : Addr} {oc_check_size kV_check_size dc_check_size pm_check_size cd_check_size ct_check_size : Value} {od_check_size an_check_size : Option Addr} {sl_check_size : Array (Option Value)}
    {f_are_arrows : Addr} {oc_are_arrows kV_are_arrows dc_are_arrows pm_are_arrows cd_are_arrows ct_are_arrows : Value} {od_are_arrows an_are_arrows : Option Addr} {sl_are_arrows : Array (Option Value)}
    {f_are_elements : Addr} {oc_are_elements kV_are_elements dc_are_elements pm_are_elements cd_are_elements ct_are_elements : Value} {od_are_elements an_are_elements : Option Addr} {sl_are_elements : Array (Option Value)}
    {f_l_hand : Addr} {oc_l_hand kV_l_hand dc_l_hand pm_l_hand cd_l_hand ct_l_hand : Value} {od_l_hand an_l_hand : Option Addr} {sl_l_hand : Array (Option Value)}
    {f_l_draw : Addr} {oc_l_draw kV_l_draw dc_l_draw pm_l_draw cd_l_draw ct_l_draw : Value} {od_l_draw an_l_draw : Option Addr} {sl_l_draw : Array (Option Value)}
    {f_l_arrows : Addr} {oc_l_arrows kV_l_arrows dc_l_arrows pm_l_arrows cd_l_arrows ct_l_arrows : Value} {od_l_arrows an_l_arrows : Option Addr} {sl_l_arrows : Array (Option Value)}
    {f_l_all : Addr} {oc_l_all kV_l_all dc_l_all pm_l_all cd_l_all ct_l_all : Value} {od_l_all an_l_all : Option Addr} {sl_l_all : Array (Option Value)}
    {f_l_known : Addr} {oc_l_known kV_l_known dc_l_known pm_l_known cd_l_known ct_l_known : Value} {od_l_known an_l_known : Option Addr} {sl_l_known : Array (Option Value)}
    {f_l_made : Addr} {oc_l_made kV_l_made dc_l_made pm_l_made cd_l_made ct_l_made : Value} {od_l_made an_l_made : Option Addr} {sl_l_made : Array (Option Value)}
    {f_l_fits : Addr} {oc_l_fits kV_l_fits dc_l_fits pm_l_fits cd_l_fits ct_l_fits : Value} {od_l_fits an_l_fits : Option Addr} {sl_l_fits : Array (Option Value)}
    {f_l_told : Addr} {oc_l_told kV_l_told dc_l_told pm_l_told cd_l_told ct_l_told : Value} {od_l_told an_l_told : Option Addr} {sl_l_told : Array (Option Value)}
    {f_l_parts_right : Addr} {oc_l_parts_right kV_l_parts_right dc_l_parts_right pm_l_parts_right cd_l_parts_right ct_l_parts_right : Value} {od_l_parts_right an_l_parts_right : Option Addr} {sl_l_parts_right : Array (Option Value)}
    {f_l_shown : Addr} {oc_l_shown kV_l_shown dc_l_shown pm_l_shown cd_l_shown ct_l_shown : Value} {od_l_shown an_l_shown : Option Addr} {sl_l_shown : Array (Option Value)}
    {f_l_unlike : Addr} {oc_l_unlike kV_l_unlike dc_l_unlike pm_l_unlike cd_l_unlike ct_l_unlike : Value} {od_l_unlike an_l_unlike : Option Addr} {sl_l_unlike : Array (Option Value)}
    {f_law : Addr} {oc_law kV_law dc_law pm_law cd_law ct_law : Value} {od_law an_law : Option Addr} {sl_law : Array (Option Value)}
    {C_Partial : Addr}
    {f_Partial__init : Addr} {oc_Partial__init dc_Partial__init pm_Partial__init cd_Partial__init ct_Partial__init : Value} {od_Partial__init an_Partial__init : Option Addr} {sl_Partial__init : Array (Option Value)}
    {kD_Partial__init : Addr}
    {e_Partial__init_ends : Addr} {ed_Partial__init_ends : Option Addr} {en_Partial__init_ends : Nat} {es_Partial__init_ends : Array (Option Value)}
    {e_Partial__init_starts : Addr} {ed_Partial__init_starts : Option Addr} {en_Partial__init_starts : Nat} {es_Partial__init_starts : Array (Option Value)}
    {p_Partial_known : Addr} {r_Partial_known : List Value}
    {f_Partial_known : Addr} {oc_Partial_known kV_Partial_known dc_Partial_known pm_Partial_known cd_Partial_known ct_Partial_known : Value} {od_Partial_known an_Partial_known : Option Addr} {sl_Partial_known : Array (Option Value)}
    {p_Partial_ends : Addr} {r_Partial_ends : List Value}
    {f_Partial_ends : Addr} {oc_Partial_ends kV_Partial_ends dc_Partial_ends pm_Partial_ends cd_Partial_ends ct_Partial_ends : Value} {od_Partial_ends an_Partial_ends : Option Addr} {sl_Partial_ends : Array (Option Value)}
    {p_Partial_starts : Addr} {r_Partial_starts : List Value}
    {f_Partial_starts : Addr} {oc_Partial_starts kV_Partial_starts dc_Partial_starts pm_Partial_starts cd_Partial_starts ct_Partial_starts : Value} {od_Partial_starts an_Partial_starts : Option Addr} {sl_Partial_starts : Array (Option Value)}
    {f_Partial__contains : Addr} {oc_Partial__contains kV_Partial__contains dc_Partial__contains pm_Partial__contains cd_Partial__contains ct_Partial__contains : Value} {od_Partial__contains an_Partial__contains : Option Addr} {sl_Partial__contains : Array (Option Value)}
    {f_Partial__eq : Addr} {oc_Partial__eq kV_Partial__eq dc_Partial__eq pm_Partial__eq cd_Partial__eq ct_Partial__eq : Value} {od_Partial__eq an_Partial__eq : Option Addr} {sl_Partial__eq : Array (Option Value)}
    {f_Partial__repr : Addr} {oc_Partial__repr kV_Partial__repr dc_Partial__repr pm_Partial__repr cd_Partial__repr ct_Partial__repr : Value} {od_Partial__repr an_Partial__repr : Option Addr} {sl_Partial__repr : Array (Option Value)}
    {C_Map : Addr}
    {f_Map__init : Addr} {oc_Map__init kV_Map__init dc_Map__init pm_Map__init cd_Map__init ct_Map__init : Value} {od_Map__init an_Map__init : Option Addr} {sl_Map__init : Array (Option Value)}
    {p_Map_identity : Addr} {r_Map_identity : List Value}
    {f_Map_identity : Addr} {oc_Map_identity kV_Map_identity dc_Map_identity pm_Map_identity cd_Map_identity ct_Map_identity : Value} {od_Map_identity an_Map_identity : Option Addr} {sl_Map_identity : Array (Option Value)}
    {p_Map_empty : Addr} {r_Map_empty : List Value}
    {f_Map_empty : Addr} {oc_Map_empty kV_Map_empty dc_Map_empty pm_Map_empty cd_Map_empty ct_Map_empty : Value} {od_Map_empty an_Map_empty : Option Addr} {sl_Map_empty : Array (Option Value)}
    {p_Map_size : Addr} {r_Map_size : List Value}
    {f_Map_size : Addr} {oc_Map_size kV_Map_size dc_Map_size pm_Map_size cd_Map_size ct_Map_size : Value} {od_Map_size an_Map_size : Option Addr} {sl_Map_size : Array (Option Value)}
    {p_Map_arrows : Addr} {r_Map_arrows : List Value}
    {f_Map_arrows : Addr} {oc_Map_arrows kV_Map_arrows dc_Map_arrows pm_Map_arrows cd_Map_arrows ct_Map_arrows : Value} {od_Map_arrows an_Map_arrows : Option Addr} {sl_Map_arrows : Array (Option Value)}
    {f_Map__eq : Addr} {oc_Map__eq kV_Map__eq dc_Map__eq pm_Map__eq cd_Map__eq ct_Map__eq : Value} {od_Map__eq an_Map__eq : Option Addr} {sl_Map__eq : Array (Option Value)}
    {C_InvalidPartial : Addr} {nm_InvalidPartial q_InvalidPartial : Str} {N_InvalidPartial : Addr} {bs_InvalidPartial : List Value} {sn_InvalidPartial : List Str} {sub_InvalidPartial : List Value} {ab_InvalidPartial : Bool} {col_InvalidPartial : Option Bool} {dd_InvalidPartial : Option Addr} {m0_InvalidPartial m1_InvalidPartial m2_InvalidPartial m3_InvalidPartial m5_InvalidPartial : Option Value}
    {f_InvalidPartial__init : Addr} {oc_InvalidPartial__init kV_InvalidPartial__init dc_InvalidPartial__init pm_InvalidPartial__init cd_InvalidPartial__init ct_InvalidPartial__init : Value} {od_InvalidPartial__init an_InvalidPartial__init : Option Addr} {sl_InvalidPartial__init : Array (Option Value)}
    {t_MAX_SIZE : Tok}
    (a_is_integer : PySem.W.nsIn K mainGlobals "is_integer" = some (some (.ref f_is_integer)))
    (l_is_integer : K.lookup f_is_integer = some ⟨oc_is_integer, od_is_integer, .func (PySem.W.fnOf "is_integer" "is_integer" (defArgs s_is_integer) (defBody s_is_integer) (defScope s_is_integer) .none kV_is_integer dc_is_integer pm_is_integer an_is_integer cd_is_integer ct_is_integer), sl_is_integer⟩)
    (c_is_integer : PySem.W.codeIn K cd_is_integer "is_integer" = true)
    (k_is_integer : PySem.W.keepIn K (.ref f_is_integer) = true)
    (a_in_range : PySem.W.nsIn K mainGlobals "in_range" = some (some (.ref f_in_range)))
    (l_in_range : K.lookup f_in_range = some ⟨oc_in_range, od_in_range, .func (PySem.W.fnOf "in_range" "in_range" (defArgs s_in_range) (defBody s_in_range) (defScope s_in_range) .none kV_in_range dc_in_range pm_in_range an_in_range cd_in_range ct_in_range), sl_in_range⟩)
    (c_in_range : PySem.W.codeIn K cd_in_range "in_range" = true)
    (k_in_range : PySem.W.keepIn K (.ref f_in_range) = true)
    (a_check_size : PySem.W.nsIn K mainGlobals "check_size" = some (some (.ref f_check_size)))
    (l_check_size : K.lookup f_check_size = some ⟨oc_check_size, od_check_size, .func (PySem.W.fnOf "check_size" "check_size" (defArgs s_check_size) (defBody s_check_size) (defScope s_check_size) .none kV_check_size dc_check_size pm_check_size an_check_size cd_check_size ct_check_size), sl_check_size⟩)
    (c_check_size : PySem.W.codeIn K cd_check_size "check_size" = true)
    (k_check_size : PySem.W.keepIn K (.ref f_check_size) = true)
    (a_are_arrows : PySem.W.nsIn K mainGlobals "are_arrows" = some (some (.ref f_are_arrows)))
    (l_are_arrows : K.lookup f_are_arrows = some ⟨oc_are_arrows, od_are_arrows, .func (PySem.W.fnOf "are_arrows" "are_arrows" (defArgs s_are_arrows) (defBody s_are_arrows) (defScope s_are_arrows) .none kV_are_arrows dc_are_arrows pm_are_arrows an_are_arrows cd_are_arrows ct_are_arrows), sl_are_arrows⟩)
    (c_are_arrows : PySem.W.codeIn K cd_are_arrows "are_arrows" = true)
    (k_are_arrows : PySem.W.keepIn K (.ref f_are_arrows) = true)
    (a_are_elements : PySem.W.nsIn K mainGlobals "are_elements" = some (some (.ref f_are_elements)))
    (l_are_elements : K.lookup f_are_elements = some ⟨oc_are_elements, od_are_elements, .func (PySem.W.fnOf "are_elements" "are_elements" (defArgs s_are_elements) (defBody s_are_elements) (defScope s_are_elements) .none kV_are_elements dc_are_elements pm_are_elements an_are_elements cd_are_elements ct_are_elements), sl_are_elements⟩)
    (c_are_elements : PySem.W.codeIn K cd_are_elements "are_elements" = true)
    (k_are_elements : PySem.W.keepIn K (.ref f_are_elements) = true)
    (a_l_hand : PySem.W.nsIn K mainGlobals "_law_hand" = some (some (.ref f_l_hand)))
    (l_l_hand : K.lookup f_l_hand = some ⟨oc_l_hand, od_l_hand, .func (PySem.W.fnOf "_law_hand" "_law_hand" (defArgs s_l_hand) (defBody s_l_hand) (defScope s_l_hand) .none kV_l_hand dc_l_hand pm_l_hand an_l_hand cd_l_hand ct_l_hand), sl_l_hand⟩)
    (c_l_hand : PySem.W.codeIn K cd_l_hand "_law_hand" = true)
    (k_l_hand : PySem.W.keepIn K (.ref f_l_hand) = true)
    (a_l_draw : PySem.W.nsIn K mainGlobals "_law_draw" = some (some (.ref f_l_draw)))
    (l_l_draw : K.lookup f_l_draw = some ⟨oc_l_draw, od_l_draw, .func (PySem.W.fnOf "_law_draw" "_law_draw" (defArgs s_l_draw) (defBody s_l_draw) (defScope s_l_draw) .none kV_l_draw dc_l_draw pm_l_draw an_l_draw cd_l_draw ct_l_draw), sl_l_draw⟩)
    (c_l_draw : PySem.W.codeIn K cd_l_draw "_law_draw" = true)
    (k_l_draw : PySem.W.keepIn K (.ref f_l_draw) = true)
    (a_l_arrows : PySem.W.nsIn K mainGlobals "_law_arrows" = some (some (.ref f_l_arrows)))
    (l_l_arrows : K.lookup f_l_arrows = some ⟨oc_l_arrows, od_l_arrows, .func (PySem.W.fnOf "_law_arrows" "_law_arrows" (defArgs s_l_arrows) (defBody s_l_arrows) (defScope s_l_arrows) .none kV_l_arrows dc_l_arrows pm_l_arrows an_l_arrows cd_l_arrows ct_l_arrows), sl_l_arrows⟩)
    (c_l_arrows : PySem.W.codeIn K cd_l_arrows "_law_arrows" = true)
    (k_l_arrows : PySem.W.keepIn K (.ref f_l_arrows) = true)
    (a_l_all : PySem.W.nsIn K mainGlobals "_law_all" = some (some (.ref f_l_all)))
    (l_l_all : K.lookup f_l_all = some ⟨oc_l_all, od_l_all, .func (PySem.W.fnOf "_law_all" "_law_all" (defArgs s_l_all) (defBody s_l_all) (defScope s_l_all) .none kV_l_all dc_l_all pm_l_all an_l_all cd_l_all ct_l_all), sl_l_all⟩)
    (c_l_all : PySem.W.codeIn K cd_l_all "_law_all" = true)
    (k_l_all : PySem.W.keepIn K (.ref f_l_all) = true)
    (a_l_known : PySem.W.nsIn K mainGlobals "_law_known" = some (some (.ref f_l_known)))
    (l_l_known : K.lookup f_l_known = some ⟨oc_l_known, od_l_known, .func (PySem.W.fnOf "_law_known" "_law_known" (defArgs s_l_known) (defBody s_l_known) (defScope s_l_known) .none kV_l_known dc_l_known pm_l_known an_l_known cd_l_known ct_l_known), sl_l_known⟩)
    (c_l_known : PySem.W.codeIn K cd_l_known "_law_known" = true)
    (k_l_known : PySem.W.keepIn K (.ref f_l_known) = true)
    (a_l_made : PySem.W.nsIn K mainGlobals "_law_made" = some (some (.ref f_l_made)))
    (l_l_made : K.lookup f_l_made = some ⟨oc_l_made, od_l_made, .func (PySem.W.fnOf "_law_made" "_law_made" (defArgs s_l_made) (defBody s_l_made) (defScope s_l_made) .none kV_l_made dc_l_made pm_l_made an_l_made cd_l_made ct_l_made), sl_l_made⟩)
    (c_l_made : PySem.W.codeIn K cd_l_made "_law_made" = true)
    (k_l_made : PySem.W.keepIn K (.ref f_l_made) = true)
    (a_l_fits : PySem.W.nsIn K mainGlobals "_law_fits" = some (some (.ref f_l_fits)))
    (l_l_fits : K.lookup f_l_fits = some ⟨oc_l_fits, od_l_fits, .func (PySem.W.fnOf "_law_fits" "_law_fits" (defArgs s_l_fits) (defBody s_l_fits) (defScope s_l_fits) .none kV_l_fits dc_l_fits pm_l_fits an_l_fits cd_l_fits ct_l_fits), sl_l_fits⟩)
    (c_l_fits : PySem.W.codeIn K cd_l_fits "_law_fits" = true)
    (k_l_fits : PySem.W.keepIn K (.ref f_l_fits) = true)
    (a_l_told : PySem.W.nsIn K mainGlobals "_law_told" = some (some (.ref f_l_told)))
    (l_l_told : K.lookup f_l_told = some ⟨oc_l_told, od_l_told, .func (PySem.W.fnOf "_law_told" "_law_told" (defArgs s_l_told) (defBody s_l_told) (defScope s_l_told) .none kV_l_told dc_l_told pm_l_told an_l_told cd_l_told ct_l_told), sl_l_told⟩)
    (c_l_told : PySem.W.codeIn K cd_l_told "_law_told" = true)
    (k_l_told : PySem.W.keepIn K (.ref f_l_told) = true)
    (a_l_parts_right : PySem.W.nsIn K mainGlobals "_law_parts_right" = some (some (.ref f_l_parts_right)))
    (l_l_parts_right : K.lookup f_l_parts_right = some ⟨oc_l_parts_right, od_l_parts_right, .func (PySem.W.fnOf "_law_parts_right" "_law_parts_right" (defArgs s_l_parts_right) (defBody s_l_parts_right) (defScope s_l_parts_right) .none kV_l_parts_right dc_l_parts_right pm_l_parts_right an_l_parts_right cd_l_parts_right ct_l_parts_right), sl_l_parts_right⟩)
    (c_l_parts_right : PySem.W.codeIn K cd_l_parts_right "_law_parts_right" = true)
    (k_l_parts_right : PySem.W.keepIn K (.ref f_l_parts_right) = true)
    (a_l_shown : PySem.W.nsIn K mainGlobals "_law_shown" = some (some (.ref f_l_shown)))
    (l_l_shown : K.lookup f_l_shown = some ⟨oc_l_shown, od_l_shown, .func (PySem.W.fnOf "_law_shown" "_law_shown" (defArgs s_l_shown) (defBody s_l_shown) (defScope s_l_shown) .none kV_l_shown dc_l_shown pm_l_shown an_l_shown cd_l_shown ct_l_shown), sl_l_shown⟩)
    (c_l_shown : PySem.W.codeIn K cd_l_shown "_law_shown" = true)
    (k_l_shown : PySem.W.keepIn K (.ref f_l_shown) = true)
    (a_l_unlike : PySem.W.nsIn K mainGlobals "_law_unlike" = some (some (.ref f_l_unlike)))
    (l_l_unlike : K.lookup f_l_unlike = some ⟨oc_l_unlike, od_l_unlike, .func (PySem.W.fnOf "_law_unlike" "_law_unlike" (defArgs s_l_unlike) (defBody s_l_unlike) (defScope s_l_unlike) .none kV_l_unlike dc_l_unlike pm_l_unlike an_l_unlike cd_l_unlike ct_l_unlike), sl_l_unlike⟩)
    (c_l_unlike : PySem.W.codeIn K cd_l_unlike "_law_unlike" = true)
    (k_l_unlike : PySem.W.keepIn K (.ref f_l_unlike) = true)
    (a_law : PySem.W.nsIn K mainGlobals "law" = some (some (.ref f_law)))
    (l_law : K.lookup f_law = some ⟨oc_law, od_law, .func (PySem.W.fnOf "law" "law" (defArgs s_law) (defBody s_law) (defScope s_law) .none kV_law dc_law pm_law an_law cd_law ct_law), sl_law⟩)
    (c_law : PySem.W.codeIn K cd_law "law" = true)
    (k_law : PySem.W.keepIn K (.ref f_law) = true)
    (a_Partial : PySem.W.nsIn K mainGlobals "Partial" = some (some (.ref C_Partial)))
    (pg_Partial : PySem.W.plainGet K C_Partial Str.empty = true)
    (hd_Partial : PySem.W.hasDictIn K C_Partial = true)
    (po_Partial : PySem.W.plainOver K C_Partial = true)
    (sa_Partial : PySem.W.findIn K (.ref C_Partial) "__setattr__" = some (some (.builtin "object.__setattr__")))
    (sf_Partial : PySem.W.selfFirst K C_Partial = true)
    (ca_Partial : PySem.W.findIn K (.ref C_Partial) "__class__" = some (some (.builtin "object.__class__")))
    (cn_Partial : PySem.W.specialIn K (.builtin "object.__class__") "__get__" = some (some (.builtin "getset_descriptor.__get__")))
    (ct_Partial : PySem.W.takesIn K (.builtin "object.__class__") = some true)
    (cm_Partial : PySem.W.mroIn K C_Partial (.type "object") = some true)
    (kc_Partial : PySem.W.keepIn K (.ref C_Partial) = true)
    (kit_int_Partial : PySem.W.kitOne K (.ref C_Partial) (.type "int") = some false)
    (kit_bool_Partial : PySem.W.kitOne K (.ref C_Partial) (.type "bool") = some false)
    (kn_NoneType_Partial : PySem.W.kitOne K (.type "NoneType") (.ref C_Partial) = some false)
    (nf_NoneType_Partial : PySem.W.notFirst K C_Partial (.type "NoneType") = true)
    (kn_int_Partial : PySem.W.kitOne K (.type "int") (.ref C_Partial) = some false)
    (nf_int_Partial : PySem.W.notFirst K C_Partial (.type "int") = true)
    (kn_bool_Partial : PySem.W.kitOne K (.type "bool") (.ref C_Partial) = some false)
    (nf_bool_Partial : PySem.W.notFirst K C_Partial (.type "bool") = true)
    (kn_str_Partial : PySem.W.kitOne K (.type "str") (.ref C_Partial) = some false)
    (nf_str_Partial : PySem.W.notFirst K C_Partial (.type "str") = true)
    (kn_list_Partial : PySem.W.kitOne K (.type "list") (.ref C_Partial) = some false)
    (nf_list_Partial : PySem.W.notFirst K C_Partial (.type "list") = true)
    (kn_dict_Partial : PySem.W.kitOne K (.type "dict") (.ref C_Partial) = some false)
    (nf_dict_Partial : PySem.W.notFirst K C_Partial (.type "dict") = true)
    (kn_tuple_Partial : PySem.W.kitOne K (.type "tuple") (.ref C_Partial) = some false)
    (nf_tuple_Partial : PySem.W.notFirst K C_Partial (.type "tuple") = true)
    (self_Partial : PySem.W.kitOne K (.ref C_Partial) (.ref C_Partial) = some true)
    (na_own_known_Partial : PySem.W.findIn K (.ref C_Partial) "own_known" = some none)
    (na_own_ends_Partial : PySem.W.findIn K (.ref C_Partial) "own_ends" = some none)
    (na_own_starts_Partial : PySem.W.findIn K (.ref C_Partial) "own_starts" = some none)
    (ne_Partial : PySem.W.findIn K (.ref C_Partial) "__ne__" = some (some (.builtin "object.__ne__")))
    (m_Partial__init : PySem.W.findIn K (.ref C_Partial) "__init__" = some (some (.ref f_Partial__init)))
    (i_Partial__init : PySem.W.isFn K (.ref f_Partial__init) = true)
    (l_Partial__init : K.lookup f_Partial__init = some ⟨oc_Partial__init, od_Partial__init, .func (PySem.W.fnOf "__init__" "Partial.__init__" (defArgs s_Partial__init) (defBody s_Partial__init) (defScope s_Partial__init) .none (.ref kD_Partial__init) dc_Partial__init pm_Partial__init an_Partial__init cd_Partial__init ct_Partial__init), sl_Partial__init⟩)
    (c_Partial__init : PySem.W.codeIn K cd_Partial__init "Partial.__init__" = true)
    (k_Partial__init : PySem.W.keepIn K (.ref f_Partial__init) = true)
    (kw_Partial__init_ends : PySem.W.nsIn K kD_Partial__init "ends" = some (some (.ref e_Partial__init_ends)))
    (kl_Partial__init_ends : K.lookup e_Partial__init_ends = some ⟨.type "tuple", ed_Partial__init_ends, .seq #[] en_Partial__init_ends, es_Partial__init_ends⟩)
    (kw_Partial__init_starts : PySem.W.nsIn K kD_Partial__init "starts" = some (some (.ref e_Partial__init_starts)))
    (kl_Partial__init_starts : K.lookup e_Partial__init_starts = some ⟨.type "tuple", ed_Partial__init_starts, .seq #[] en_Partial__init_starts, es_Partial__init_starts⟩)
    (mk_Partial : PySem.W.makesIn K C_Partial = true)
    (m_Partial_known : PySem.W.findIn K (.ref C_Partial) "known" = some (some (.ref p_Partial_known)))
    (s_get_Partial_known : PySem.W.specialIn K (.ref p_Partial_known) "__get__" = some (some (.builtin "property.__get__")))
    (tk_Partial_known : PySem.W.takesIn K (.ref p_Partial_known) = some true)
    (rc_Partial_known : PySem.W.recIn K p_Partial_known "property" = some (.ref f_Partial_known :: r_Partial_known))
    (l_Partial_known : K.lookup f_Partial_known = some ⟨oc_Partial_known, od_Partial_known, .func (PySem.W.fnOf "known" "Partial.known" (defArgs s_Partial_known) (defBody s_Partial_known) (defScope s_Partial_known) .none kV_Partial_known dc_Partial_known pm_Partial_known an_Partial_known cd_Partial_known ct_Partial_known), sl_Partial_known⟩)
    (c_Partial_known : PySem.W.codeIn K cd_Partial_known "Partial.known" = true)
    (k_Partial_known : PySem.W.keepIn K (.ref f_Partial_known) = true)
    (m_Partial_ends : PySem.W.findIn K (.ref C_Partial) "ends" = some (some (.ref p_Partial_ends)))
    (s_get_Partial_ends : PySem.W.specialIn K (.ref p_Partial_ends) "__get__" = some (some (.builtin "property.__get__")))
    (tk_Partial_ends : PySem.W.takesIn K (.ref p_Partial_ends) = some true)
    (rc_Partial_ends : PySem.W.recIn K p_Partial_ends "property" = some (.ref f_Partial_ends :: r_Partial_ends))
    (l_Partial_ends : K.lookup f_Partial_ends = some ⟨oc_Partial_ends, od_Partial_ends, .func (PySem.W.fnOf "ends" "Partial.ends" (defArgs s_Partial_ends) (defBody s_Partial_ends) (defScope s_Partial_ends) .none kV_Partial_ends dc_Partial_ends pm_Partial_ends an_Partial_ends cd_Partial_ends ct_Partial_ends), sl_Partial_ends⟩)
    (c_Partial_ends : PySem.W.codeIn K cd_Partial_ends "Partial.ends" = true)
    (k_Partial_ends : PySem.W.keepIn K (.ref f_Partial_ends) = true)
    (m_Partial_starts : PySem.W.findIn K (.ref C_Partial) "starts" = some (some (.ref p_Partial_starts)))
    (s_get_Partial_starts : PySem.W.specialIn K (.ref p_Partial_starts) "__get__" = some (some (.builtin "property.__get__")))
    (tk_Partial_starts : PySem.W.takesIn K (.ref p_Partial_starts) = some true)
    (rc_Partial_starts : PySem.W.recIn K p_Partial_starts "property" = some (.ref f_Partial_starts :: r_Partial_starts))
    (l_Partial_starts : K.lookup f_Partial_starts = some ⟨oc_Partial_starts, od_Partial_starts, .func (PySem.W.fnOf "starts" "Partial.starts" (defArgs s_Partial_starts) (defBody s_Partial_starts) (defScope s_Partial_starts) .none kV_Partial_starts dc_Partial_starts pm_Partial_starts an_Partial_starts cd_Partial_starts ct_Partial_starts), sl_Partial_starts⟩)
    (c_Partial_starts : PySem.W.codeIn K cd_Partial_starts "Partial.starts" = true)
    (k_Partial_starts : PySem.W.keepIn K (.ref f_Partial_starts) = true)
    (m_Partial__contains : PySem.W.findIn K (.ref C_Partial) "__contains__" = some (some (.ref f_Partial__contains)))
    (i_Partial__contains : PySem.W.isFn K (.ref f_Partial__contains) = true)
    (l_Partial__contains : K.lookup f_Partial__contains = some ⟨oc_Partial__contains, od_Partial__contains, .func (PySem.W.fnOf "__contains__" "Partial.__contains__" (defArgs s_Partial__contains) (defBody s_Partial__contains) (defScope s_Partial__contains) .none kV_Partial__contains dc_Partial__contains pm_Partial__contains an_Partial__contains cd_Partial__contains ct_Partial__contains), sl_Partial__contains⟩)
    (c_Partial__contains : PySem.W.codeIn K cd_Partial__contains "Partial.__contains__" = true)
    (k_Partial__contains : PySem.W.keepIn K (.ref f_Partial__contains) = true)
    (m_Partial__eq : PySem.W.findIn K (.ref C_Partial) "__eq__" = some (some (.ref f_Partial__eq)))
    (i_Partial__eq : PySem.W.isFn K (.ref f_Partial__eq) = true)
    (l_Partial__eq : K.lookup f_Partial__eq = some ⟨oc_Partial__eq, od_Partial__eq, .func (PySem.W.fnOf "__eq__" "Partial.__eq__" (defArgs s_Partial__eq) (defBody s_Partial__eq) (defScope s_Partial__eq) .none kV_Partial__eq dc_Partial__eq pm_Partial__eq an_Partial__eq cd_Partial__eq ct_Partial__eq), sl_Partial__eq⟩)
    (c_Partial__eq : PySem.W.codeIn K cd_Partial__eq "Partial.__eq__" = true)
    (k_Partial__eq : PySem.W.keepIn K (.ref f_Partial__eq) = true)
    (m_Partial__repr : PySem.W.findIn K (.ref C_Partial) "__repr__" = some (some (.ref f_Partial__repr)))
    (i_Partial__repr : PySem.W.isFn K (.ref f_Partial__repr) = true)
    (l_Partial__repr : K.lookup f_Partial__repr = some ⟨oc_Partial__repr, od_Partial__repr, .func (PySem.W.fnOf "__repr__" "Partial.__repr__" (defArgs s_Partial__repr) (defBody s_Partial__repr) (defScope s_Partial__repr) .none kV_Partial__repr dc_Partial__repr pm_Partial__repr an_Partial__repr cd_Partial__repr ct_Partial__repr), sl_Partial__repr⟩)
    (c_Partial__repr : PySem.W.codeIn K cd_Partial__repr "Partial.__repr__" = true)
    (k_Partial__repr : PySem.W.keepIn K (.ref f_Partial__repr) = true)
    (a_Map : PySem.W.nsIn K mainGlobals "Map" = some (some (.ref C_Map)))
    (pg_Map : PySem.W.plainGet K C_Map Str.empty = true)
    (hd_Map : PySem.W.hasDictIn K C_Map = true)
    (po_Map : PySem.W.plainOver K C_Map = true)
    (sa_Map : PySem.W.findIn K (.ref C_Map) "__setattr__" = some (some (.builtin "object.__setattr__")))
    (sf_Map : PySem.W.selfFirst K C_Map = true)
    (ca_Map : PySem.W.findIn K (.ref C_Map) "__class__" = some (some (.builtin "object.__class__")))
    (cn_Map : PySem.W.specialIn K (.builtin "object.__class__") "__get__" = some (some (.builtin "getset_descriptor.__get__")))
    (ct_Map : PySem.W.takesIn K (.builtin "object.__class__") = some true)
    (cm_Map : PySem.W.mroIn K C_Map (.type "object") = some true)
    (kc_Map : PySem.W.keepIn K (.ref C_Map) = true)
    (kit_int_Map : PySem.W.kitOne K (.ref C_Map) (.type "int") = some false)
    (kit_bool_Map : PySem.W.kitOne K (.ref C_Map) (.type "bool") = some false)
    (kn_NoneType_Map : PySem.W.kitOne K (.type "NoneType") (.ref C_Map) = some false)
    (nf_NoneType_Map : PySem.W.notFirst K C_Map (.type "NoneType") = true)
    (kn_int_Map : PySem.W.kitOne K (.type "int") (.ref C_Map) = some false)
    (nf_int_Map : PySem.W.notFirst K C_Map (.type "int") = true)
    (kn_bool_Map : PySem.W.kitOne K (.type "bool") (.ref C_Map) = some false)
    (nf_bool_Map : PySem.W.notFirst K C_Map (.type "bool") = true)
    (kn_str_Map : PySem.W.kitOne K (.type "str") (.ref C_Map) = some false)
    (nf_str_Map : PySem.W.notFirst K C_Map (.type "str") = true)
    (kn_list_Map : PySem.W.kitOne K (.type "list") (.ref C_Map) = some false)
    (nf_list_Map : PySem.W.notFirst K C_Map (.type "list") = true)
    (kn_dict_Map : PySem.W.kitOne K (.type "dict") (.ref C_Map) = some false)
    (nf_dict_Map : PySem.W.notFirst K C_Map (.type "dict") = true)
    (kn_tuple_Map : PySem.W.kitOne K (.type "tuple") (.ref C_Map) = some false)
    (nf_tuple_Map : PySem.W.notFirst K C_Map (.type "tuple") = true)
    (self_Map : PySem.W.kitOne K (.ref C_Map) (.ref C_Map) = some true)
    (na_own_size_Map : PySem.W.findIn K (.ref C_Map) "own_size" = some none)
    (na_own_arrows_Map : PySem.W.findIn K (.ref C_Map) "own_arrows" = some none)
    (ne_Map : PySem.W.findIn K (.ref C_Map) "__ne__" = some (some (.builtin "object.__ne__")))
    (m_Map__init : PySem.W.findIn K (.ref C_Map) "__init__" = some (some (.ref f_Map__init)))
    (i_Map__init : PySem.W.isFn K (.ref f_Map__init) = true)
    (l_Map__init : K.lookup f_Map__init = some ⟨oc_Map__init, od_Map__init, .func (PySem.W.fnOf "__init__" "Map.__init__" (defArgs s_Map__init) (defBody s_Map__init) (defScope s_Map__init) .none kV_Map__init dc_Map__init pm_Map__init an_Map__init cd_Map__init ct_Map__init), sl_Map__init⟩)
    (c_Map__init : PySem.W.codeIn K cd_Map__init "Map.__init__" = true)
    (k_Map__init : PySem.W.keepIn K (.ref f_Map__init) = true)
    (mk_Map : PySem.W.makesIn K C_Map = true)
    (rd_Map : PySem.W.readsIn K C_Map (.type "type") = true)
    (ga_Map : PySem.W.specialIn K (.ref C_Map) "__getattribute__" = some (some (.builtin "type.__getattribute__")))
    (at_Map_identity : PySem.W.findCls K (.ref C_Map) (.type "type") "identity" = some (.get (.builtin "classmethod.__get__") (.ref p_Map_identity) .none (.ref C_Map)))
    (rc_Map_identity : PySem.W.recIn K p_Map_identity "classmethod" = some (.ref f_Map_identity :: r_Map_identity))
    (fi_Map_identity : PySem.W.fnIn K f_Map_identity = true)
    (l_Map_identity : K.lookup f_Map_identity = some ⟨oc_Map_identity, od_Map_identity, .func (PySem.W.fnOf "identity" "Map.identity" (defArgs s_Map_identity) (defBody s_Map_identity) (defScope s_Map_identity) .none kV_Map_identity dc_Map_identity pm_Map_identity an_Map_identity cd_Map_identity ct_Map_identity), sl_Map_identity⟩)
    (c_Map_identity : PySem.W.codeIn K cd_Map_identity "Map.identity" = true)
    (k_Map_identity : PySem.W.keepIn K (.ref f_Map_identity) = true)
    (at_Map_empty : PySem.W.findCls K (.ref C_Map) (.type "type") "empty" = some (.get (.builtin "classmethod.__get__") (.ref p_Map_empty) .none (.ref C_Map)))
    (rc_Map_empty : PySem.W.recIn K p_Map_empty "classmethod" = some (.ref f_Map_empty :: r_Map_empty))
    (fi_Map_empty : PySem.W.fnIn K f_Map_empty = true)
    (l_Map_empty : K.lookup f_Map_empty = some ⟨oc_Map_empty, od_Map_empty, .func (PySem.W.fnOf "empty" "Map.empty" (defArgs s_Map_empty) (defBody s_Map_empty) (defScope s_Map_empty) .none kV_Map_empty dc_Map_empty pm_Map_empty an_Map_empty cd_Map_empty ct_Map_empty), sl_Map_empty⟩)
    (c_Map_empty : PySem.W.codeIn K cd_Map_empty "Map.empty" = true)
    (k_Map_empty : PySem.W.keepIn K (.ref f_Map_empty) = true)
    (m_Map_size : PySem.W.findIn K (.ref C_Map) "size" = some (some (.ref p_Map_size)))
    (s_get_Map_size : PySem.W.specialIn K (.ref p_Map_size) "__get__" = some (some (.builtin "property.__get__")))
    (tk_Map_size : PySem.W.takesIn K (.ref p_Map_size) = some true)
    (rc_Map_size : PySem.W.recIn K p_Map_size "property" = some (.ref f_Map_size :: r_Map_size))
    (l_Map_size : K.lookup f_Map_size = some ⟨oc_Map_size, od_Map_size, .func (PySem.W.fnOf "size" "Map.size" (defArgs s_Map_size) (defBody s_Map_size) (defScope s_Map_size) .none kV_Map_size dc_Map_size pm_Map_size an_Map_size cd_Map_size ct_Map_size), sl_Map_size⟩)
    (c_Map_size : PySem.W.codeIn K cd_Map_size "Map.size" = true)
    (k_Map_size : PySem.W.keepIn K (.ref f_Map_size) = true)
    (m_Map_arrows : PySem.W.findIn K (.ref C_Map) "arrows" = some (some (.ref p_Map_arrows)))
    (s_get_Map_arrows : PySem.W.specialIn K (.ref p_Map_arrows) "__get__" = some (some (.builtin "property.__get__")))
    (tk_Map_arrows : PySem.W.takesIn K (.ref p_Map_arrows) = some true)
    (rc_Map_arrows : PySem.W.recIn K p_Map_arrows "property" = some (.ref f_Map_arrows :: r_Map_arrows))
    (l_Map_arrows : K.lookup f_Map_arrows = some ⟨oc_Map_arrows, od_Map_arrows, .func (PySem.W.fnOf "arrows" "Map.arrows" (defArgs s_Map_arrows) (defBody s_Map_arrows) (defScope s_Map_arrows) .none kV_Map_arrows dc_Map_arrows pm_Map_arrows an_Map_arrows cd_Map_arrows ct_Map_arrows), sl_Map_arrows⟩)
    (c_Map_arrows : PySem.W.codeIn K cd_Map_arrows "Map.arrows" = true)
    (k_Map_arrows : PySem.W.keepIn K (.ref f_Map_arrows) = true)
    (m_Map__eq : PySem.W.findIn K (.ref C_Map) "__eq__" = some (some (.ref f_Map__eq)))
    (i_Map__eq : PySem.W.isFn K (.ref f_Map__eq) = true)
    (l_Map__eq : K.lookup f_Map__eq = some ⟨oc_Map__eq, od_Map__eq, .func (PySem.W.fnOf "__eq__" "Map.__eq__" (defArgs s_Map__eq) (defBody s_Map__eq) (defScope s_Map__eq) .none kV_Map__eq dc_Map__eq pm_Map__eq an_Map__eq cd_Map__eq ct_Map__eq), sl_Map__eq⟩)
    (c_Map__eq : PySem.W.codeIn K cd_Map__eq "Map.__eq__" = true)
    (k_Map__eq : PySem.W.keepIn K (.ref f_Map__eq) = true)
    (a_InvalidPartial : PySem.W.nsIn K mainGlobals "InvalidPartial" = some (some (.ref C_InvalidPartial)))
    (xl_InvalidPartial : K.lookup C_InvalidPartial = some (excClassObj nm_InvalidPartial q_InvalidPartial C_InvalidPartial N_InvalidPartial bs_InvalidPartial [.type "ValueError", .type "Exception", .type "BaseException", .type "object"] true sn_InvalidPartial sub_InvalidPartial ab_InvalidPartial col_InvalidPartial dd_InvalidPartial m0_InvalidPartial m1_InvalidPartial m2_InvalidPartial m3_InvalidPartial m5_InvalidPartial "ValueError.__new__"))
    (sa_InvalidPartial : PySem.W.findIn K (.ref C_InvalidPartial) "__setattr__" = some (some (.builtin "object.__setattr__")))
    (ex_InvalidPartial : PySem.W.subIn K (.ref C_InvalidPartial) (.type "BaseException") = some true)
    (ty_InvalidPartial : PySem.W.typeIn K (.ref C_InvalidPartial) = some (.type "type"))
    (kc_InvalidPartial : PySem.W.keepIn K (.ref C_InvalidPartial) = true)
    (hd_InvalidPartial : PySem.W.hasDictIn K C_InvalidPartial = true)
    (ga_InvalidPartial : PySem.W.findIn K (.ref C_InvalidPartial) "__getattribute__" = some (some (.builtin "BaseException.__getattribute__")))
    (gg_InvalidPartial : PySem.W.findIn K (.ref C_InvalidPartial) "__getattr__" = some none)
    (ss_InvalidPartial : PySem.W.subIn K (.ref C_InvalidPartial) (.ref C_InvalidPartial) = some true)
    (ca_InvalidPartial : PySem.W.findIn K (.ref C_InvalidPartial) "__class__" = some (some (.builtin "object.__class__")))
    (cn_InvalidPartial : PySem.W.specialIn K (.builtin "object.__class__") "__get__" = some (some (.builtin "getset_descriptor.__get__")))
    (ct_InvalidPartial : PySem.W.takesIn K (.builtin "object.__class__") = some true)
    (cm_InvalidPartial : PySem.W.mroIn K C_InvalidPartial (.type "object") = some true)
    (kit_ValueError_InvalidPartial : PySem.W.kitOne K (.ref C_InvalidPartial) (.type "ValueError") = some true)
    (na_part_InvalidPartial : PySem.W.findIn K (.ref C_InvalidPartial) "part" = some none)
    (m_InvalidPartial__init : PySem.W.findIn K (.ref C_InvalidPartial) "__init__" = some (some (.ref f_InvalidPartial__init)))
    (ti_InvalidPartial__init : PySem.W.typeIn K (.ref f_InvalidPartial__init) = some (.type "function"))
    (l_InvalidPartial__init : K.lookup f_InvalidPartial__init = some ⟨oc_InvalidPartial__init, od_InvalidPartial__init, .func (PySem.W.fnOf "__init__" "InvalidPartial.__init__" (defArgs s_InvalidPartial__init) (defBody s_InvalidPartial__init) (defScope s_InvalidPartial__init) .none kV_InvalidPartial__init dc_InvalidPartial__init pm_InvalidPartial__init an_InvalidPartial__init cd_InvalidPartial__init ct_InvalidPartial__init), sl_InvalidPartial__init⟩)
    (c_InvalidPartial__init : PySem.W.codeIn K cd_InvalidPartial__init "InvalidPartial.__init__" = true)
    (k_InvalidPartial__init : PySem.W.keepIn K (.ref f_InvalidPartial__init) = true)
    (z_isinstance : PySem.W.nsIn K mainGlobals "isinstance" = some none)
    (z_int : PySem.W.nsIn K mainGlobals "int" = some none)
    (z_bool : PySem.W.nsIn K mainGlobals "bool" = some none)
    (z_dict : PySem.W.nsIn K mainGlobals "dict" = some none)
    (z_len : PySem.W.nsIn K mainGlobals "len" = some none)
    (z_range : PySem.W.nsIn K mainGlobals "range" = some none)
    (z_list : PySem.W.nsIn K mainGlobals "list" = some none)
    (z_tuple : PySem.W.nsIn K mainGlobals "tuple" = some none)
    (z_all : PySem.W.nsIn K mainGlobals "all" = some none)
    (z_any : PySem.W.nsIn K mainGlobals "any" = some none)
    (z_max : PySem.W.nsIn K mainGlobals "max" = some none)
    (z_min : PySem.W.nsIn K mainGlobals "min" = some none)
    (z_repr : PySem.W.nsIn K mainGlobals "repr" = some none)
    (z_str : PySem.W.nsIn K mainGlobals "str" = some none)
    (z_ValueError : PySem.W.nsIn K mainGlobals "ValueError" = some none)
    (v_MAX_SIZE : PySem.W.nsIn K mainGlobals "MAX_SIZE" = some (some (.int 300 t_MAX_SIZE)))
    (kit_x_Partial_Map : PySem.W.kitOne K (.ref C_Map) (.ref C_Partial) = some false)
    (nf_x_Partial_Map : PySem.W.notFirst K C_Partial (.ref C_Map) = true) :
    Nonempty (Txt K mg) := ⟨{
    f_is_integer := f_is_integer,
    A_is_integer := ⟨_, fun_mk (st := s_is_integer) l_is_integer c_is_integer k_is_integer, (fun_mk (st := s_is_integer) l_is_integer c_is_integer k_is_integer).binds (ps := ["value"]) fun _ _ _ _ _ _ us hl => match us, hl with | [_], _ => rfl⟩,
    g_is_integer := PySem.W.mg_of X G a_is_integer,
    f_in_range := f_in_range,
    A_in_range := ⟨_, fun_mk (st := s_in_range) l_in_range c_in_range k_in_range, (fun_mk (st := s_in_range) l_in_range c_in_range k_in_range).binds (ps := ["value", "least", "most"]) fun _ _ _ _ _ _ us hl => match us, hl with | [_, _, _], _ => rfl⟩,
    g_in_range := PySem.W.mg_of X G a_in_range,
    f_check_size := f_check_size,
    A_check_size := ⟨_, fun_mk (st := s_check_size) l_check_size c_check_size k_check_size, (fun_mk (st := s_check_size) l_check_size c_check_size k_check_size).binds (ps := ["size"]) fun _ _ _ _ _ _ us hl => match us, hl with | [_], _ => rfl⟩,
    g_check_size := PySem.W.mg_of X G a_check_size,
    f_are_arrows := f_are_arrows,
    A_are_arrows := ⟨_, fun_mk (st := s_are_arrows) l_are_arrows c_are_arrows k_are_arrows, (fun_mk (st := s_are_arrows) l_are_arrows c_are_arrows k_are_arrows).binds (ps := ["size", "arrows"]) fun _ _ _ _ _ _ us hl => match us, hl with | [_, _], _ => rfl⟩,
    g_are_arrows := PySem.W.mg_of X G a_are_arrows,
    f_are_elements := f_are_elements,
    A_are_elements := ⟨_, fun_mk (st := s_are_elements) l_are_elements c_are_elements k_are_elements, (fun_mk (st := s_are_elements) l_are_elements c_are_elements k_are_elements).binds (ps := ["size", "value"]) fun _ _ _ _ _ _ us hl => match us, hl with | [_, _], _ => rfl⟩,
    g_are_elements := PySem.W.mg_of X G a_are_elements,
    f_l_hand := f_l_hand,
    A_l_hand := ⟨_, fun_mk (st := s_l_hand) l_l_hand c_l_hand k_l_hand, (fun_mk (st := s_l_hand) l_l_hand c_l_hand k_l_hand).binds (ps := ["_law_script", "_law_k"]) fun _ _ _ _ _ _ us hl => match us, hl with | [_, _], _ => rfl⟩,
    g_l_hand := PySem.W.mg_of X G a_l_hand,
    f_l_draw := f_l_draw,
    A_l_draw := ⟨_, fun_mk (st := s_l_draw) l_l_draw c_l_draw k_l_draw, (fun_mk (st := s_l_draw) l_l_draw c_l_draw k_l_draw).binds (ps := ["_law_pool", "_law_size"]) fun _ _ _ _ _ _ us hl => match us, hl with | [_, _], _ => rfl⟩,
    g_l_draw := PySem.W.mg_of X G a_l_draw,
    f_l_arrows := f_l_arrows,
    A_l_arrows := ⟨_, fun_mk (st := s_l_arrows) l_l_arrows c_l_arrows k_l_arrows, (fun_mk (st := s_l_arrows) l_l_arrows c_l_arrows k_l_arrows).binds (ps := ["_law_pool", "_law_size"]) fun _ _ _ _ _ _ us hl => match us, hl with | [_, _], _ => rfl⟩,
    g_l_arrows := PySem.W.mg_of X G a_l_arrows,
    f_l_all := f_l_all,
    A_l_all := ⟨_, fun_mk (st := s_l_all) l_l_all c_l_all k_l_all, (fun_mk (st := s_l_all) l_l_all c_l_all k_l_all).binds (ps := ["_law_size"]) fun _ _ _ _ _ _ us hl => match us, hl with | [_], _ => rfl⟩,
    g_l_all := PySem.W.mg_of X G a_l_all,
    f_l_known := f_l_known,
    A_l_known := ⟨_, fun_mk (st := s_l_known) l_l_known c_l_known k_l_known, (fun_mk (st := s_l_known) l_l_known c_l_known k_l_known).binds (ps := ["_law_pool", "_law_size"]) fun _ _ _ _ _ _ us hl => match us, hl with | [_, _], _ => rfl⟩,
    g_l_known := PySem.W.mg_of X G a_l_known,
    f_l_made := f_l_made,
    A_l_made := ⟨_, fun_mk (st := s_l_made) l_l_made c_l_made k_l_made, (fun_mk (st := s_l_made) l_l_made c_l_made k_l_made).binds (ps := ["_law_size", "_law_row"]) fun _ _ _ _ _ _ us hl => match us, hl with | [_, _], _ => rfl⟩,
    g_l_made := PySem.W.mg_of X G a_l_made,
    f_l_fits := f_l_fits,
    A_l_fits := ⟨_, fun_mk (st := s_l_fits) l_l_fits c_l_fits k_l_fits, (fun_mk (st := s_l_fits) l_l_fits c_l_fits k_l_fits).binds (ps := ["_law_table", "_law_row"]) fun _ _ _ _ _ _ us hl => match us, hl with | [_, _], _ => rfl⟩,
    g_l_fits := PySem.W.mg_of X G a_l_fits,
    f_l_told := f_l_told,
    A_l_told := ⟨_, fun_mk (st := s_l_told) l_l_told c_l_told k_l_told, (fun_mk (st := s_l_told) l_l_told c_l_told k_l_told).binds (ps := ["_law_size", "_law_table", "_law_closed", "_law_unmet"]) fun _ _ _ _ _ _ us hl => match us, hl with | [_, _, _, _], _ => rfl⟩,
    g_l_told := PySem.W.mg_of X G a_l_told,
    f_l_parts_right := f_l_parts_right,
    A_l_parts_right := ⟨_, fun_mk (st := s_l_parts_right) l_l_parts_right c_l_parts_right k_l_parts_right, (fun_mk (st := s_l_parts_right) l_l_parts_right c_l_parts_right k_l_parts_right).binds (ps := ["_law_pool", "_law_size", "_law_row"]) fun _ _ _ _ _ _ us hl => match us, hl with | [_, _, _], _ => rfl⟩,
    g_l_parts_right := PySem.W.mg_of X G a_l_parts_right,
    f_l_shown := f_l_shown,
    A_l_shown := ⟨_, fun_mk (st := s_l_shown) l_l_shown c_l_shown k_l_shown, (fun_mk (st := s_l_shown) l_l_shown c_l_shown k_l_shown).binds (ps := ["_law_size", "_law_row", "_law_partial"]) fun _ _ _ _ _ _ us hl => match us, hl with | [_, _, _], _ => rfl⟩,
    g_l_shown := PySem.W.mg_of X G a_l_shown,
    f_l_unlike := f_l_unlike,
    A_l_unlike := ⟨_, fun_mk (st := s_l_unlike) l_l_unlike c_l_unlike k_l_unlike, (fun_mk (st := s_l_unlike) l_l_unlike c_l_unlike k_l_unlike).binds (ps := ["_law_size", "_law_row"]) fun _ _ _ _ _ _ us hl => match us, hl with | [_, _], _ => rfl⟩,
    g_l_unlike := PySem.W.mg_of X G a_l_unlike,
    f_law := f_law,
    A_law := ⟨_, fun_mk (st := s_law) l_law c_law k_law, (fun_mk (st := s_law) l_law c_law k_law).binds (ps := ["_law_script"]) fun _ _ _ _ _ _ us hl => match us, hl with | [_], _ => rfl⟩,
    L_law := ⟨_, fun_mk (st := s_law) l_law c_law k_law, fun s v => .of_eq rfl⟩,
    g_law := PySem.W.mg_of X G a_law,
    C_Partial := C_Partial,
    g_Partial := PySem.W.mg_of X G a_Partial,
    o_Partial := ⟨⟨pg_Partial, hd_Partial, po_Partial, sa_Partial⟩, sf_Partial, ca_Partial, cn_Partial, ct_Partial, cm_Partial⟩,
    kit_int_Partial := kit_int_Partial,
    kit_bool_Partial := kit_bool_Partial,
    kn_NoneType_Partial := kn_NoneType_Partial,
    nf_NoneType_Partial := nf_NoneType_Partial,
    kn_int_Partial := kn_int_Partial,
    nf_int_Partial := nf_int_Partial,
    kn_bool_Partial := kn_bool_Partial,
    nf_bool_Partial := nf_bool_Partial,
    kn_str_Partial := kn_str_Partial,
    nf_str_Partial := nf_str_Partial,
    kn_list_Partial := kn_list_Partial,
    nf_list_Partial := nf_list_Partial,
    kn_dict_Partial := kn_dict_Partial,
    nf_dict_Partial := nf_dict_Partial,
    kn_tuple_Partial := kn_tuple_Partial,
    nf_tuple_Partial := nf_tuple_Partial,
    self_Partial := self_Partial,
    na_own_known_Partial := na_own_known_Partial,
    na_own_ends_Partial := na_own_ends_Partial,
    na_own_starts_Partial := na_own_starts_Partial,
    ne_Partial := ne_Partial,
    e_Partial__init_ends := e_Partial__init_ends,
    kl_Partial__init_ends := ⟨_, _, _, kl_Partial__init_ends⟩,
    e_Partial__init_starts := e_Partial__init_starts,
    kl_Partial__init_starts := ⟨_, _, _, kl_Partial__init_starts⟩,
    f_Partial__init := f_Partial__init,
    D_Partial__init := ⟨_, ⟨⟨_, _, _, _, _, _, _, _, _, _, rfl, l_Partial__init, c_Partial__init, .inl ⟨rfl, rfl⟩, U.kwd2 kw_Partial__init_ends kw_Partial__init_starts⟩, k_Partial__init⟩⟩,
    m_Partial__init := m_Partial__init,
    i_Partial__init := i_Partial__init,
    M_Partial := ⟨mk_Partial, m_Partial__init, i_Partial__init, kc_Partial⟩,
    p_Partial_known := p_Partial_known,
    f_Partial_known := f_Partial_known,
    A_Partial_known := ⟨_, fun_mk (st := s_Partial_known) l_Partial_known c_Partial_known k_Partial_known, (fun_mk (st := s_Partial_known) l_Partial_known c_Partial_known k_Partial_known).binds (ps := ["self"]) fun _ _ _ _ _ _ us hl => match us, hl with | [_], _ => rfl⟩,
    P_Partial_known := ⟨m_Partial_known, s_get_Partial_known, tk_Partial_known, _, rc_Partial_known⟩,
    p_Partial_ends := p_Partial_ends,
    f_Partial_ends := f_Partial_ends,
    A_Partial_ends := ⟨_, fun_mk (st := s_Partial_ends) l_Partial_ends c_Partial_ends k_Partial_ends, (fun_mk (st := s_Partial_ends) l_Partial_ends c_Partial_ends k_Partial_ends).binds (ps := ["self"]) fun _ _ _ _ _ _ us hl => match us, hl with | [_], _ => rfl⟩,
    P_Partial_ends := ⟨m_Partial_ends, s_get_Partial_ends, tk_Partial_ends, _, rc_Partial_ends⟩,
    p_Partial_starts := p_Partial_starts,
    f_Partial_starts := f_Partial_starts,
    A_Partial_starts := ⟨_, fun_mk (st := s_Partial_starts) l_Partial_starts c_Partial_starts k_Partial_starts, (fun_mk (st := s_Partial_starts) l_Partial_starts c_Partial_starts k_Partial_starts).binds (ps := ["self"]) fun _ _ _ _ _ _ us hl => match us, hl with | [_], _ => rfl⟩,
    P_Partial_starts := ⟨m_Partial_starts, s_get_Partial_starts, tk_Partial_starts, _, rc_Partial_starts⟩,
    f_Partial__contains := f_Partial__contains,
    A_Partial__contains := ⟨_, fun_mk (st := s_Partial__contains) l_Partial__contains c_Partial__contains k_Partial__contains, (fun_mk (st := s_Partial__contains) l_Partial__contains c_Partial__contains k_Partial__contains).binds (ps := ["self", "value"]) fun _ _ _ _ _ _ us hl => match us, hl with | [_, _], _ => rfl⟩,
    m_Partial__contains := m_Partial__contains,
    i_Partial__contains := i_Partial__contains,
    f_Partial__eq := f_Partial__eq,
    A_Partial__eq := ⟨_, fun_mk (st := s_Partial__eq) l_Partial__eq c_Partial__eq k_Partial__eq, (fun_mk (st := s_Partial__eq) l_Partial__eq c_Partial__eq k_Partial__eq).binds (ps := ["self", "other"]) fun _ _ _ _ _ _ us hl => match us, hl with | [_, _], _ => rfl⟩,
    m_Partial__eq := m_Partial__eq,
    i_Partial__eq := i_Partial__eq,
    f_Partial__repr := f_Partial__repr,
    A_Partial__repr := ⟨_, fun_mk (st := s_Partial__repr) l_Partial__repr c_Partial__repr k_Partial__repr, (fun_mk (st := s_Partial__repr) l_Partial__repr c_Partial__repr k_Partial__repr).binds (ps := ["self"]) fun _ _ _ _ _ _ us hl => match us, hl with | [_], _ => rfl⟩,
    m_Partial__repr := m_Partial__repr,
    i_Partial__repr := i_Partial__repr,
    C_Map := C_Map,
    g_Map := PySem.W.mg_of X G a_Map,
    o_Map := ⟨⟨pg_Map, hd_Map, po_Map, sa_Map⟩, sf_Map, ca_Map, cn_Map, ct_Map, cm_Map⟩,
    kit_int_Map := kit_int_Map,
    kit_bool_Map := kit_bool_Map,
    kn_NoneType_Map := kn_NoneType_Map,
    nf_NoneType_Map := nf_NoneType_Map,
    kn_int_Map := kn_int_Map,
    nf_int_Map := nf_int_Map,
    kn_bool_Map := kn_bool_Map,
    nf_bool_Map := nf_bool_Map,
    kn_str_Map := kn_str_Map,
    nf_str_Map := nf_str_Map,
    kn_list_Map := kn_list_Map,
    nf_list_Map := nf_list_Map,
    kn_dict_Map := kn_dict_Map,
    nf_dict_Map := nf_dict_Map,
    kn_tuple_Map := kn_tuple_Map,
    nf_tuple_Map := nf_tuple_Map,
    kx_Map_Partial := kit_x_Partial_Map,
    nf_Map_Partial := nf_x_Partial_Map,
    self_Map := self_Map,
    na_own_size_Map := na_own_size_Map,
    na_own_arrows_Map := na_own_arrows_Map,
    ne_Map := ne_Map,
    f_Map__init := f_Map__init,
    A_Map__init := ⟨_, fun_mk (st := s_Map__init) l_Map__init c_Map__init k_Map__init, (fun_mk (st := s_Map__init) l_Map__init c_Map__init k_Map__init).binds (ps := ["self", "size", "arrows"]) fun _ _ _ _ _ _ us hl => match us, hl with | [_, _, _], _ => rfl⟩,
    m_Map__init := m_Map__init,
    i_Map__init := i_Map__init,
    M_Map := ⟨mk_Map, m_Map__init, i_Map__init, kc_Map⟩,
    R_Map := ⟨rd_Map, ga_Map⟩,
    p_Map_identity := p_Map_identity,
    f_Map_identity := f_Map_identity,
    A_Map_identity := ⟨_, fun_mk (st := s_Map_identity) l_Map_identity c_Map_identity k_Map_identity, (fun_mk (st := s_Map_identity) l_Map_identity c_Map_identity k_Map_identity).binds (ps := ["cls", "size"]) fun _ _ _ _ _ _ us hl => match us, hl with | [_, _], _ => rfl⟩,
    cm_Map_identity := ⟨at_Map_identity, ⟨_, rc_Map_identity⟩, fi_Map_identity⟩,
    p_Map_empty := p_Map_empty,
    f_Map_empty := f_Map_empty,
    A_Map_empty := ⟨_, fun_mk (st := s_Map_empty) l_Map_empty c_Map_empty k_Map_empty, (fun_mk (st := s_Map_empty) l_Map_empty c_Map_empty k_Map_empty).binds (ps := ["cls", "size"]) fun _ _ _ _ _ _ us hl => match us, hl with | [_, _], _ => rfl⟩,
    cm_Map_empty := ⟨at_Map_empty, ⟨_, rc_Map_empty⟩, fi_Map_empty⟩,
    p_Map_size := p_Map_size,
    f_Map_size := f_Map_size,
    A_Map_size := ⟨_, fun_mk (st := s_Map_size) l_Map_size c_Map_size k_Map_size, (fun_mk (st := s_Map_size) l_Map_size c_Map_size k_Map_size).binds (ps := ["self"]) fun _ _ _ _ _ _ us hl => match us, hl with | [_], _ => rfl⟩,
    P_Map_size := ⟨m_Map_size, s_get_Map_size, tk_Map_size, _, rc_Map_size⟩,
    p_Map_arrows := p_Map_arrows,
    f_Map_arrows := f_Map_arrows,
    A_Map_arrows := ⟨_, fun_mk (st := s_Map_arrows) l_Map_arrows c_Map_arrows k_Map_arrows, (fun_mk (st := s_Map_arrows) l_Map_arrows c_Map_arrows k_Map_arrows).binds (ps := ["self"]) fun _ _ _ _ _ _ us hl => match us, hl with | [_], _ => rfl⟩,
    P_Map_arrows := ⟨m_Map_arrows, s_get_Map_arrows, tk_Map_arrows, _, rc_Map_arrows⟩,
    f_Map__eq := f_Map__eq,
    A_Map__eq := ⟨_, fun_mk (st := s_Map__eq) l_Map__eq c_Map__eq k_Map__eq, (fun_mk (st := s_Map__eq) l_Map__eq c_Map__eq k_Map__eq).binds (ps := ["self", "other"]) fun _ _ _ _ _ _ us hl => match us, hl with | [_, _], _ => rfl⟩,
    m_Map__eq := m_Map__eq,
    i_Map__eq := i_Map__eq,
    C_InvalidPartial := C_InvalidPartial,
    g_InvalidPartial := PySem.W.mg_of X G a_InvalidPartial,
    x_InvalidPartial := ⟨⟨"ValueError", _, _, _, _, _, _, _, _, _, _, _, _, _, _, _, _, _, _, PySem.F.store_ValueError, PySem.F.excBase_ValueError, xl_InvalidPartial, by decide +kernel⟩, sa_InvalidPartial, ex_InvalidPartial, ty_InvalidPartial, kc_InvalidPartial⟩,
    xf_InvalidPartial := ⟨ga_InvalidPartial, gg_InvalidPartial, ex_InvalidPartial, hd_InvalidPartial⟩,
    xe_InvalidPartial := ⟨ga_InvalidPartial, gg_InvalidPartial, ex_InvalidPartial, hd_InvalidPartial, ca_InvalidPartial, cn_InvalidPartial, ct_InvalidPartial, cm_InvalidPartial⟩,
    te_InvalidPartial := PySem.W.exm_ref ex_InvalidPartial hd_InvalidPartial ty_InvalidPartial ss_InvalidPartial,
    kit_ValueError_InvalidPartial := kit_ValueError_InvalidPartial,
    na_part_InvalidPartial := na_part_InvalidPartial,
    f_InvalidPartial__init := f_InvalidPartial__init,
    A_InvalidPartial__init := ⟨_, fun_mk (st := s_InvalidPartial__init) l_InvalidPartial__init c_InvalidPartial__init k_InvalidPartial__init, (fun_mk (st := s_InvalidPartial__init) l_InvalidPartial__init c_InvalidPartial__init k_InvalidPartial__init).binds (ps := ["self", "part"]) fun _ _ _ _ _ _ us hl => match us, hl with | [_, _], _ => rfl⟩,
    m_InvalidPartial__init := m_InvalidPartial__init,
    ti_InvalidPartial__init := ti_InvalidPartial__init,
    n_isinstance := PySem.W.mg_none_of X G z_isinstance,
    n_int := PySem.W.mg_none_of X G z_int,
    n_bool := PySem.W.mg_none_of X G z_bool,
    n_dict := PySem.W.mg_none_of X G z_dict,
    n_len := PySem.W.mg_none_of X G z_len,
    n_range := PySem.W.mg_none_of X G z_range,
    n_list := PySem.W.mg_none_of X G z_list,
    n_tuple := PySem.W.mg_none_of X G z_tuple,
    n_all := PySem.W.mg_none_of X G z_all,
    n_any := PySem.W.mg_none_of X G z_any,
    n_max := PySem.W.mg_none_of X G z_max,
    n_min := PySem.W.mg_none_of X G z_min,
    n_repr := PySem.W.mg_none_of X G z_repr,
    n_str := PySem.W.mg_none_of X G z_str,
    n_ValueError := PySem.W.mg_none_of X G z_ValueError,
    v_MAX_SIZE := ⟨_, PySem.W.mg_of X G v_MAX_SIZE⟩ }⟩
end My
namespace My
open PySem L2 U StX
/-! ### values of any known form -/
def knownV (C : Addr) (H : Hp) : V → Prop
  | .non => True | .bl _ => True | .int _ => True | .str _ => True
  | .ref a => (∃ xs, H a = some (.lst xs)) ∨ (∃ xs, H a = some (.tup xs)) ∨ (∃ kvs, H a = some (.dK kvs)) ∨ ∃ dx fs, H a = some (.ins C dx fs)
  | _ => False
def isI : V → Bool | .int _ => true | _ => false
def isB : V → Bool | .bl _ => true | _ => false
def inR : V → Int → Int → Bool | .int i, a, b => decide (a ≤ i) && decide (i ≤ b) | _, _, _ => false
section
variable {P : Program} {w : World} {K : PySem.W.Frag} {mg : Str → Option Value} {base : Heap}
theorem tyx_ins {H : Hp} {a C dx : Addr} {fs : List (Str × V)} (o : OwnC K C) (e : H a = some (.ins C dx fs)) : TyX K H (.ref a) (.ref C) := .base (.ins e o.cl o.ca o.cn o.ct o.cm)
/-- the type of a known value, and what isinstance says of it -/
theorem ty_known (T : Txt K mg) {H : Hp} {x : V} (h : knownV T.C_Map H x) : ∃ t, TyX K H x t ∧ PySem.W.kitOne K t (.type "int") = some (isI x || isB x) ∧ PySem.W.kitOne K t (.type "bool") = some (isB x) := by
  cases x with
  | non => exact ⟨_, .base .non, kit_ty (r := false) (by decide +kernel), kit_ty (r := false) (by decide +kernel)⟩
  | bl b => exact ⟨_, .base (.bl b), kit_ty (r := true) (by decide +kernel), kit_ty (r := true) (by decide +kernel)⟩
  | int i => exact ⟨_, .base (.int i), kit_ty (r := true) (by decide +kernel), kit_ty (r := false) (by decide +kernel)⟩
  | str z => exact ⟨_, .base (.str z), kit_ty (r := false) (by decide +kernel), kit_ty (r := false) (by decide +kernel)⟩
  | ref a =>
    rcases h with ⟨xs, e⟩ | ⟨xs, e⟩ | ⟨xs, e⟩ | ⟨dx, fs, e⟩
    · exact ⟨_, .base (.lst e), kit_ty (r := false) (by decide +kernel), kit_ty (r := false) (by decide +kernel)⟩
    · exact ⟨_, .base (.tup e), kit_ty (r := false) (by decide +kernel), kit_ty (r := false) (by decide +kernel)⟩
    · exact ⟨_, .base (.dK e), kit_ty (r := false) (by decide +kernel), kit_ty (r := false) (by decide +kernel)⟩
    · exact ⟨_, tyx_ins T.o_Map e, T.kit_int_Map, T.kit_bool_Map⟩
  | byt b => exact h.elim
  | flt b => exact h.elim
  | ty b => exact h.elim
def spIsInt (C : Addr) : Sp := fun vs H Q _ => ∃ x, vs = [x] ∧ knownV C H x ∧ Q (.bl (isI x)) H
theorem ok_is_integer (T : Txt K mg) : FnR P w K mg base CX0 1 T.f_is_integer (spIsInt T.C_Map) := by
  refine T.A_is_integer.ok sc_is_integer (fun vs H Q E h => ?_) (fun cdv A outer s H vs Q E hr h => ?_)
  · obtain ⟨x, rfl, _⟩ := h
    rfl
  · obtain ⟨x, rfl, hx, q⟩ := h
    refine ⟨_, pss_one (ps_ret (pe_and (pe_callB call_isi (by rfl) T.n_isinstance (by decide +kernel) (pa_cons (pv 0) (pa_cons (pe_bltn (v := .ty "int") (u := .type "int") (by rfl) T.n_int (by decide +kernel) rfl) pa_nil)))
      (pe_one (pe_not (pe_callB call_isi (by rfl) T.n_isinstance (by decide +kernel) (pa_cons (pv 0) (pa_cons (pe_bltn (v := .ty "bool") (u := .type "bool") (by rfl) T.n_bool (by decide +kernel) rfl) pa_nil))))))), ?_⟩
    obtain ⟨t, ht, k1, k2⟩ := ty_known T hx
    refine ⟨_, rfl, x, _, t, _, _, rfl, .ty _, ht, k1, _, rfl, ?_⟩
    refine ifB (fun hc => ?_) (fun hc => ?_)
    · refine ⟨_, rfl, x, _, t, _, _, rfl, .ty _, ht, k2, _, rfl, ?_⟩
      have e : (!isB x) = isI x := by cases x <;> first | rfl | cases hc
      rw [e]
      exact q
    · have e : isI x = false := by cases x <;> first | rfl | cases hc
      rw [e] at q
      exact q
def spInR (C : Addr) : Sp := fun vs H Q _ => ∃ x a b, vs = [x, .int a, .int b] ∧ knownV C H x ∧ Q (.bl (inR x a b)) H
theorem ok_in_range (T : Txt K mg) : FnR P w K mg base CX0 2 T.f_in_range (spInR T.C_Map) := by
  refine T.A_in_range.ok sc_in_range (fun vs H Q E h => ?_) (fun cdv A outer s H vs Q E hr h => ?_)
  · obtain ⟨x, a, b, rfl, _⟩ := h
    rfl
  · obtain ⟨x, a, b, rfl, hx, q⟩ := h
    refine ⟨_, pss_one (ps_ret (pe_and (pe_callR (ok_is_integer T) hr T.A_is_integer.kp rfl T.g_is_integer pass0 (pa_cons (pv 0) pa_nil))
      (pe_one (pe_chain op_le op_le (pv 1) (pv 0) (pv 2))))), ?_⟩
    refine ⟨_, rfl, x, rfl, hx, _, rfl, ?_⟩
    cases x with
    | int i =>
      refine iteT ⟨_, rfl, _, rfl, _, _, rfl, rfl, _, rfl, ?_⟩
      refine ifD (fun h => ?_) (fun h => ?_)
      · refine ⟨_, rfl, _, _, rfl, rfl, ?_⟩
        have e : inR (.int i) a b = decide (i ≤ b) := by simp [inR, h]
        rw [e] at q
        exact q
      · have e : inR (.int i) a b = false := by simp [inR, h]
        rw [e] at q
        exact q
    | _ => exact iteF q
/-! ### the law's draws -/
def spDraw : Sp := fun vs H Q _ => ∃ (p : Addr) (a b n : Int), vs = [.ref p, .int n] ∧ H p = some (.lst [.int a, .int b]) ∧ 0 ≤ a ∧ 0 ≤ b ∧ b < 2147483647 ∧ 0 < n ∧ n < 1073741824 ∧
  ∀ a' b' r : Int, 0 ≤ a' → 0 ≤ b' → b' < 2147483647 → 0 ≤ r → r < n → Q (.int r) (upd H p (.lst [.int a', .int b']))
theorem ok_draw (T : Txt K mg) : FnR P w K mg base CX0 1 T.f_l_draw spDraw := by
  refine T.A_l_draw.ok sc_l_draw (fun vs H Q E h => ?_) (fun cdv A outer s H vs Q E hr h => ?_)
  · obtain ⟨p, a, b, n, rfl, _⟩ := h
    rfl
  · obtain ⟨p, a, b, n, rfl, hp, ha, hb, hb2, hn, hn2, k⟩ := h
    refine ⟨_, pss_cons (ps_if (pt_cmpR op_gt (pe_ix ix_list (pv 0) pe_int (fun _ _ => rfl)) pe_int (nomark _))
        (pss_cons (ps_set (i := 2) sc_l_draw.nd rfl (Or.inl rfl) (pe_op op_mod (pe_ix ix_list (pv 0) pe_int (fun _ _ => rfl)) (pv 1)))
        (pss_cons (ps_asg (pe_op op_fdiv (pe_ix ix_list (pv 0) pe_int (fun _ _ => rfl)) (pv 1)) (pg_sub (pv 0) pe_int set_list))
        (pss_one (ps_ret (pv 2))))) pss_nil)
      (pss_cons (ps_asg (pe_op op_mod (pe_op op_add (pe_op op_mul (pe_ix ix_list (pv 0) pe_int (fun _ _ => rfl)) pe_int) pe_int) pe_int) (pg_sub (pv 0) pe_int set_list))
      (pss_one (ps_ret (pe_op op_mod (pe_op op_fdiv (pe_op op_mod (pe_op op_mul (pe_ix ix_list (pv 0) pe_int (fun _ _ => rfl)) (pe_ix ix_list (pv 0) pe_int (fun _ _ => rfl))) pe_int) pe_int) (pv 1))))), ?_⟩
    refine ⟨_, rfl, p, _, 0, _, rfl, rfl, SqL.of hp, rfl, _, _, rfl, rfl, _, rfl, ?_⟩
    refine ifD (fun h => ?_) (fun h => ?_)
    · refine ⟨_, rfl, p, _, 0, _, rfl, rfl, SqL.of hp, rfl, _, rfl, _, _, rfl, rfl, hn, ?_⟩
      refine ⟨_, rfl, p, _, 0, _, rfl, rfl, SqL.of hp, rfl, _, rfl, _, _, rfl, rfl, ⟨hn, hn2⟩, _, rfl, p, _, 0, _, rfl, rfl, hp, rfl, ?_⟩
      refine ⟨_, rfl, ?_⟩
      exact k (a / n) b (a % n) (Int.ediv_nonneg ha (by omega)) hb hb2 (Int.emod_nonneg _ (by omega)) (Int.emod_lt_of_pos _ hn)
    · have m1 : 0 ≤ (b * 48271 + 11) % 2147483647 := Int.emod_nonneg _ (by decide)
      have m2 : (b * 48271 + 11) % 2147483647 < 2147483647 := Int.emod_lt_of_pos _ (by decide)
      refine ⟨_, rfl, p, _, 1, _, rfl, rfl, SqL.of hp, rfl, _, _, rfl, rfl, .inr ⟨by decide, by decide⟩, _, _, rfl, rfl, _, _, rfl, rfl, (by show (0 : Int) < 2147483647; decide), _, rfl, p, _, 1, _, rfl, rfl, hp, rfl, ?_⟩
      refine ⟨_, rfl, p, _, 1, _, rfl, rfl, SqL.of upd_same, rfl, _, rfl, p, _, 1, _, rfl, rfl, SqL.of upd_same, rfl, _, _, rfl, rfl, .inl ⟨by omega, by omega⟩, _, _, rfl, rfl, (by show (0 : Int) < 2147483629; decide), _, _, rfl, rfl, ⟨by decide, by decide⟩, _, rfl, _, _, rfl, rfl, hn, ?_⟩
      exact k a ((b * 48271 + 11) % 2147483647) _ ha m1 m2 (Int.emod_nonneg _ (by omega)) (Int.emod_lt_of_pos _ hn)
end
end My
namespace My
open PySem L2 U StX PM
section
variable {P : Program} {w : World} {K : PySem.W.Frag} {mg : Str → Option Value} {base : Heap}
theorem head_int (xs : List V) (h : ∀ v ∈ xs, ∃ i, v = V.int i) : ∃ c, atI (xs ++ [V.int 0]) 0 = some (V.int c) := by
  cases xs with
  | nil => exact ⟨0, rfl⟩
  | cons a r =>
    obtain ⟨i, rfl⟩ := h a List.mem_cons_self
    refine ⟨i, atI_nat (j := 0) ?_⟩
    rfl
theorem cut_int (ns : List Int) (lo hi : Option Int) : ∀ v ∈ cutV (ns.map V.int) lo hi, ∃ i, v = V.int i := by
  intro v hv
  unfold cutV at hv
  have h1 := List.mem_of_mem_drop (List.mem_of_mem_take hv)
  obtain ⟨i, _, rfl⟩ := List.mem_map.mp h1
  exact ⟨i, rfl⟩
def spHand (K : PySem.W.Frag) : Sp := fun vs H Q _ => ∃ (a : Addr) (ns : List Int) (k : Int), vs = [.ref a, .int k] ∧ SqL K H a (ns.map V.int) ∧ ns.length ≤ 63 ∧
  ∀ p H' x y, H p = none → H' p = some (.lst [.int x, .int y]) → Same H H' → 0 ≤ x → 0 ≤ y → y < 2147483647 → Q (.ref p) H'
theorem ok_hand (T : Txt K mg) : FnR P w K mg base CX0 1 T.f_l_hand (spHand K) := by
  refine T.A_l_hand.ok sc_l_hand (fun vs H Q E h => ?_) (fun cdv A outer s H vs Q E hr h => ?_)
  · obtain ⟨a, ns, k, rfl, _⟩ := h
    rfl
  · obtain ⟨a, ns, k, rfl, hS, hl, q⟩ := h
    refine ⟨_, pss_cons (ps_set (i := 2) sc_l_hand.nd rfl (Or.inl rfl) (pe_ix ix_list (pe_op op_cat (pe_slice sl_list (pv 0) (po_some (pv 1)) (po_some (pe_op op_add (pv 1) pe_int))) (pe_lst (pa_cons pe_int pa_nil))) pe_int (fun _ _ => rfl)))
      (pss_cons (ps_set (i := 3) sc_l_hand.nd rfl (Or.inl rfl) (pe_op op_mod (pe_op op_mul (pe_op op_add (pe_op op_add (pe_op op_mod (pv 2) pe_int) (pe_op op_mul pe_int (pv 1))) pe_int) pe_int) pe_int))
      (pss_one (ps_ret (pe_lst (pa_cons (pe_op op_mul (pe_callTy call_int1 (by rfl) T.n_int (by decide +kernel) (pa_cons (pe_cmpR op_ge (pv 2) (pe_op op_pow pe_int pe_int) (nomark _)) pa_nil)) (pv 2)) (pa_cons (pv 3) pa_nil)))))), ?_⟩
    refine ⟨_, rfl, _, rfl, _, rfl, _, rfl, _, _, rfl, rfl, _, rfl, a, _, rfl, hS, fun p1 n1 => ?_⟩
    refine ⟨(by show 1 ≤ sizeLine; decide), fun p2 n2 => ?_⟩
    have n12 : p1 ≠ p2 := ne_of_none upd_same n2
    have hcl := cutV_length (ns.map V.int) (some k) (some (k + 1))
    rw [List.length_map] at hcl
    refine ⟨p1, p2, cutV (ns.map V.int) (some k) (some (k + 1)), [.int 0], rfl, rfl, (by rw [upd_ne n12, upd_same]), upd_same, ?_, fun p3 n3 => ?_⟩
    · show _ + 1 ≤ sizeLine
      exact Nat.le_trans (by omega : _ ≤ 64) (by decide)
    obtain ⟨c, hc⟩ := head_int _ (cut_int ns (some k) (some (k + 1)))
    refine ⟨p3, _, 0, .int c, rfl, rfl, SqL.of upd_same, hc, ?_⟩
    refine ⟨_, rfl, _, _, rfl, rfl, (by show (0 : Int) < 2147483647; decide), _, rfl, _, _, rfl, rfl, .inl ⟨by decide, by decide⟩, _, _, rfl, rfl, _, _, rfl, rfl, _, _, rfl, rfl, .inr ⟨by decide, by decide⟩, _, _, rfl, rfl, (by show (0 : Int) < 2147483629; decide), ?_⟩
    refine ⟨_, rfl, _, _, rfl, rfl, ⟨by decide, by decide, by decide⟩, _, _, rfl, rfl, .inr ⟨_, rfl, _, rfl, _, _, rfl, rfl, .inl ?_, _, rfl, (by show 2 ≤ sizeLine; decide), fun p4 n4 => ?_⟩⟩
    · cases decide ((10 : Int) ^ (18 : Int).toNat ≤ c) <;> exact ⟨by decide, by decide⟩
    · have s3 := ((Same.new (o := .lst (cutV (ns.map V.int) (some k) (some (k + 1)))) n1).trans (Same.new (o := .lst [.int 0]) n2)).trans (Same.new (o := .lst (cutV (ns.map V.int) (some k) (some (k + 1)) ++ [.int 0])) n3)
      refine q p4 _ _ _ (s3.free n4) upd_same (s3.trans (Same.new n4)) ?_ (Int.emod_nonneg _ (by decide)) ?_
      · cases hd : decide ((10 : Int) ^ (18 : Int).toNat ≤ c) with
        | true =>
          have := of_decide_eq_true hd
          have h10 : (0 : Int) ≤ 10 ^ (18 : Int).toNat := by decide
          show 0 ≤ 1 * c
          omega
        | false => show 0 ≤ 0 * c; omega
      · have := Int.emod_lt_of_pos ((c % 2147483647 + 7919 * k + 1) * 48271) (show (0 : Int) < 2147483629 by decide)
        omega
end
end My
namespace My
open PySem L2 U StX PM
section
variable {P : Program} {w : World} {K : PySem.W.Frag} {mg : Str → Option Value} {base : Heap}
def rowOk (n : Int) (p : Int × Int) : Bool := inR (.int p.1) 0 (n - 1) && inR (.int p.2) 0 (n - 1)
def okArr (n : Int) (l : List (Int × Int)) : Bool := l.all (rowOk n) && decide (l.map (·.2)).Nodup
def tgt (l : List (Int × Int)) : List (Key × V) := l.map fun p => (Sum.inl p.2, V.bl true)
theorem tgt_key {l : List (Int × Int)} {y : Int} : (Sum.inl y : Key) ∈ (tgt l).map (·.1) ↔ y ∈ l.map (·.2) := by
  unfold tgt
  rw [List.map_map]
  constructor
  · intro h
    obtain ⟨p, hp, e⟩ := List.mem_map.mp h
    exact List.mem_map.mpr ⟨p, hp, Sum.inl.inj e⟩
  · intro h
    obtain ⟨p, hp, e⟩ := List.mem_map.mp h
    exact List.mem_map.mpr ⟨p, hp, congrArg Sum.inl e⟩
theorem tgt_val {l : List (Int × Int)} {y : Int} : (valV (tgt l) (Sum.inl y : Key)).isSome = decide (y ∈ l.map (·.2)) := by
  by_cases h : y ∈ l.map (·.2)
  · have h' := tgt_key.mpr h
    rw [decide_eq_true h]
    cases e : valV (tgt l) (Sum.inl y : Key) with
    | some v => rfl
    | none =>
      obtain ⟨p, hp, e2⟩ := List.mem_map.mp h'
      exfalso
      unfold valV at e
      rw [Option.map_eq_none_iff, List.find?_eq_none] at e
      exact e p hp (by simp [e2])
  · rw [decide_eq_false h, valV_none fun z => h (tgt_key.mp z)]
    rfl
theorem okArr_step {n : Int} {l : List (Int × Int)} {i : Nat} {p : Int × Int} (h : l[i]? = some p) : okArr n (l.take (i + 1)) = (okArr n (l.take i) && (rowOk n p && !decide (p.2 ∈ (l.take i).map (·.2)))) := by
  rw [take_more h]
  unfold okArr
  rw [List.all_append, List.map_append]
  have e : decide (((l.take i).map (·.2) ++ [p].map (·.2)).Nodup) = (decide ((l.take i).map (·.2)).Nodup && !decide (p.2 ∈ (l.take i).map (·.2))) := by
    rw [Bool.eq_iff_iff]
    simp only [decide_eq_true_eq, Bool.and_eq_true, Bool.not_eq_true', decide_eq_false_iff_not]
    rw [List.nodup_append]
    constructor
    · rintro ⟨h1, _, h2⟩
      exact ⟨h1, fun hm => h2 _ hm _ (by simp) rfl⟩
    · rintro ⟨h1, h2⟩
      refine ⟨h1, by simp, fun a ha b hb e => ?_⟩
      simp at hb
      subst hb
      exact h2 (e ▸ ha)
  rw [e]
  simp only [List.all_cons, List.all_nil, Bool.and_true]
  cases (l.take i).all (rowOk n) <;> cases rowOk n p <;> cases decide ((l.take i).map (·.2)).Nodup <;> simp
theorem okArr_cut {n : Int} {l : List (Int × Int)} {i : Nat} (h : okArr n (l.take i) = false) : okArr n l = false := by
  cases e : okArr n l with
  | false => rfl
  | true =>
    unfold okArr at e h
    rw [Bool.and_eq_true] at e
    have h1 : (l.take i).all (rowOk n) = true := by
      rw [List.all_eq_true] at e ⊢
      exact fun p hp => e.1 p (List.mem_of_mem_take hp)
    have h2 : ((l.take i).map (·.2)).Nodup := by
      have := of_decide_eq_true e.2
      rw [List.map_take]
      exact List.Sublist.nodup (List.take_sublist _ _) this
    rw [h1, decide_eq_true h2] at h
    cases h
def spArr : Sp := fun vs H Q _ => ∃ (n : Int) (d : Addr) (l : List (Int × Int)), vs = [.int n, .ref d] ∧ H d = some (.dK (kvI l)) ∧ l.length ≤ 1000 ∧ ∀ H', Same H H' → Q (.bl (okArr n l)) H'
theorem ok_are_arrows (T : Txt K mg) : FnR P w K mg base CX0 3 T.f_are_arrows spArr := by
  refine T.A_are_arrows.ok sc_are_arrows (fun vs H Q E h => ?_) (fun cdv A outer s H vs Q E hr h => ?_)
  · obtain ⟨n, d, l, rfl, _⟩ := h
    rfl
  · obtain ⟨n, d, l, rfl, hd, hl, q⟩ := h
    have hu := hu_of hr
    refine ⟨_, pss_cons (ps_if (pt_not (pt_val (pe_callB call_isi (by rfl) T.n_isinstance (by decide +kernel) (pa_cons (pv 1) (pa_cons (pe_bltn (v := .ty "dict") (u := .type "dict") (by rfl) T.n_dict (by decide +kernel) rfl) pa_nil))))) (pss_one (ps_ret pe_bl)) pss_nil)
      (pss_cons (ps_set (i := 2) sc_are_arrows.nd rfl (Or.inl rfl) pe_dnewK)
      (pss_cons (ps_lock (ps_for PassesOwn.never rfl (pi_items (pv 1)) (pg_tup rfl (pgs_cons (pg_name (i := 3) sc_are_arrows.nd rfl (Or.inl rfl)) (pgs_cons (pg_name (i := 4) sc_are_arrows.nd rfl (Or.inl rfl)) pgs_nil)))
        (pss_cons (ps_if (PW.pt (pw_or (pt_not (pt_val (pe_callR (ok_in_range T) hr T.A_in_range.kp rfl T.g_in_range pass0 (pa_cons (pv 3) (pa_cons pe_int (pa_cons (pe_op op_sub (pv 0) pe_int) pa_nil))))))
            (pw_or (pt_not (pt_val (pe_callR (ok_in_range T) hr T.A_in_range.kp rfl T.g_in_range pass0 (pa_cons (pv 4) (pa_cons pe_int (pa_cons (pe_op op_sub (pv 0) pe_int) pa_nil))))))
            (pw_or1 (pt_cmp (pc_din hu (pv 4) (pv 2))))))) (pss_one (ps_ret pe_bl)) pss_nil)
        (pss_one (ps_dput hu (pv 2) (pv 4) pe_bl rfl)))))
      (pss_one (ps_ret pe_bl)))), ?_⟩
    refine ⟨_, rfl, _, _, _, _, true, rfl, .ty _, .base (.dK hd), kit_ty (by decide +kernel), _, rfl, ?_⟩
    refine iteF ?_
    intro t ht
    have ntd : t ≠ d := fun e => by rw [e, hd] at ht; cases ht
    have hd1 : (upd H t (.dK [])) d = some (.dK (kvI l)) := by rw [upd_ne ntd.symm]; exact hd
    refine ⟨d, _, hd1, trivial, fun od => ?_⟩
    refine ⟨_, rfl, d, od, kvI l, rfl, upd_same, ?_⟩
    refine for_it walk_items (fun i σ H' => ∃ v3 v4, σ = [some (.int n), some (.ref d), some (.ref t), v3, v4] ∧ H' d = some (.frz od (.dK (kvI l))) ∧ Off d H H' ∧ H' t = some (.dK (tgt (l.take i))) ∧ okArr n (l.take i) = true)
      ⟨none, none, rfl, upd_same, (Off.new ht).tr Off.lock, (by rw [upd_ne ntd]; exact upd_same), rfl⟩ (fun i σ H' _ ⟨_, _, _, p, _⟩ => p) ?_ ?_
    · rintro i v σ H' H'' hi ⟨v3, v4, rfl, p1, p2, p3, p4⟩ ⟨U, a, b, rfl, hU, rfl, e1, e2⟩
      rw [kvI_length] at hi
      obtain ⟨⟨x, y⟩, exy⟩ : ∃ p, l[i]? = some p := ⟨_, List.getElem?_eq_getElem hi⟩
      have ek : (kvI l)[i]? = some (Sum.inl x, V.int y) := by unfold kvI; rw [List.getElem?_map, exy]; rfl
      dsimp only at e1 e2
      rw [ek] at e1 e2
      cases e1; cases e2
      have nUd : d ≠ U := ne_of_none p1 hU
      have nUt : t ≠ U := ne_of_none p3 hU
      have d3 : (upd H' U (.tup [kV (Sum.inl x), .int y])) d = some (.frz od (.dK (kvI l))) := by rw [upd_ne nUd]; exact p1
      have t3 : (upd H' U (.tup [kV (Sum.inl x), .int y])) t = some (.dK (tgt (l.take i))) := by rw [upd_ne nUt]; exact p3
      have o3 : Off d H (upd H' U (.tup [kV (Sum.inl x), .int y])) := p2.tr (Off.new hU)
      have bad : (rowOk n (x, y) && !decide (y ∈ (l.take i).map (·.2))) = false → Q (.bl false) (upd (upd H' U (.tup [kV (Sum.inl x), .int y])) d (.dK (kvI l))) := by
        intro hb
        have h1 := okArr_step (n := n) exy
        rw [p4, hb] at h1
        have := q _ (o3.back hd)
        rw [okArr_cut h1] at this
        exact this
      refine ⟨U, [.int x, .int y], rfl, SqT.of upd_same, rfl, .int x, [.int y], rfl, .int y, [], rfl, rfl, ?_⟩
      refine ⟨_, rfl, _, rfl, _, _, rfl, rfl, .int x, 0, n - 1, rfl, trivial, _, rfl, ?_⟩
      refine ifNB (fun hc => iteT ⟨d3, bad ?_⟩) (fun hc => ?_)
      · simp [rowOk, hc]
      refine ⟨_, rfl, _, rfl, _, _, rfl, rfl, .int y, 0, n - 1, rfl, trivial, _, rfl, ?_⟩
      refine ifNB (fun hc2 => iteT ⟨d3, bad ?_⟩) (fun hc2 => ?_)
      · simp [rowOk, hc2]
      refine ⟨_, rfl, _, rfl, t, _, rfl, DGet.k (k := Sum.inl y) t3, _, rfl, ?_⟩
      rw [tgt_val]
      refine ifD (fun hm => ⟨d3, bad ?_⟩) (fun hm => ?_)
      · rw [decide_eq_true hm]; simp
      have hlen : (tgt (l.take i)).length ≤ 1000 := by unfold tgt; rw [List.length_map, List.length_take]; omega
      refine ⟨_, rfl, _, rfl, t, _, rfl, DPut.k (k := Sum.inl y) t3 (small1000 hlen), ?_⟩
      refine ⟨_, _, rfl, ?_, o3.mut ht, ?_, ?_⟩
      · rw [upd_ne ntd.symm]; exact d3
      · rw [upd_same, putK_new _ (valV_none fun z => hm (tgt_key.mp z)), take_more exy]
        unfold tgt
        rw [List.map_append]
        rfl
      · rw [okArr_step exy, p4, decide_eq_false hm]
        simp [rowOk, hc, hc2]
    · rintro σ H' ⟨v3, v4, rfl, p1, p2, p3, p4⟩
      rw [kvI_length, List.take_length] at p4
      have := q _ (p2.back hd)
      rw [p4] at this
      exact ⟨p1, this⟩
end
end My
namespace My
open PySem L2 U StX PM
section
variable {P : Program} {w : World} {K : PySem.W.Frag} {mg : Str → Option Value} {base : Heap}
theorem ne_fld : ¬ (("own_size" : Str) = "own_arrows") := by decide +kernel
/-- a map's attributes -/
def flds (n : Int) (D : Addr) : List (Str × V) := putF "own_arrows" (.ref D) (putF "own_size" (.int n) [])
theorem flds_size (n : Int) (D : Addr) : (flds n D).lookup ("own_size" : Str) = some (.int n) := by
  unfold flds
  rw [lookup_putF, if_neg ne_fld, lookup_putF, if_pos rfl]
theorem flds_arrows (n : Int) (D : Addr) : (flds n D).lookup ("own_arrows" : Str) = some (.ref D) := by
  unfold flds
  rw [lookup_putF, if_pos rfl]
/-- a Map of n elements stands at m: the map f -/
structure IsMap (C : Addr) (H : Hp) (m : Addr) (n : Int) (f : PF) : Prop where
  ob : ∃ dx D, H m = some (.ins C dx (flds n D)) ∧ H D = some (.dK (kvI (tab n f)))
  wf : WF n f
  lo : 1 ≤ n
  hi : n ≤ 300
theorem IsMap.same {C : Addr} {H H' : Hp} {m : Addr} {n : Int} {f : PF} (a : IsMap C H m n f) (s : Same H H') : IsMap C H' m n f := by
  obtain ⟨⟨dx, D, h1, h2⟩, wf, lo, hi⟩ := a
  exact ⟨⟨dx, D, s _ _ h1, s _ _ h2⟩, wf, lo, hi⟩
theorem okArr_of {n : Int} {l : List (Int × Int)} {f : PF} (d : DI l f) (w : WF n f) : okArr n l = true := by
  unfold okArr
  rw [Bool.and_eq_true]
  refine ⟨List.all_eq_true.mpr fun p hp => ?_, decide_eq_true (d.vals w)⟩
  obtain ⟨x, y⟩ := p
  have h := w.dom x y (d.mem.mp hp)
  simp only [rowOk, inR, Bool.and_eq_true, decide_eq_true_eq]
  omega
theorem madeR_tab {l : List (Int × Int)} {f : PF} (d : DI l f) (n : Nat) : madeR (fun k => (lk l k).isSome) (fun x => x) (fun k => ((lk l k).map V.int).getD .non) n = kvI (tabN f n) := by
  induction n with
  | zero => rfl
  | succ n ih =>
    rw [madeR_succ, ih]
    have e : tabN f (n + 1) = tabN f n ++ ((f (n : Int)).map fun y => ((n : Int), y)).toList := by
      unfold tabN
      rw [List.range_succ, List.filterMap_append]
      cases h : f (n : Int) <;> simp [h]
    rw [e, d.at_]
    cases h : f (n : Int) with
    | none => simp
    | some y => simp [kvI]
def spInit (C : Addr) : Sp := fun vs H Q _ => ∃ (p dx d : Addr) (n : Int) (l : List (Int × Int)) (f : PF), vs = [.ref p, .int n, .ref d] ∧ H p = some (.ins C dx []) ∧ H d = some (.dK (kvI l)) ∧ DI l f ∧ WF n f ∧ 1 ≤ n ∧ n ≤ 300 ∧ l.length ≤ 1000 ∧
  ∀ (H' : Hp) (D : Addr), Off p H H' → H D = none → H' p = some (.ins C dx (flds n D)) → H' D = some (.dK (kvI (tab n f))) → Q .non H'
theorem ok_init (T : Txt K mg) : FnR P w K mg base CX0 4 T.f_Map__init (spInit T.C_Map) := by
  refine T.A_Map__init.ok sc_Map__init (fun vs H Q E h => ?_) (fun cdv A outer s H vs Q E hr h => ?_)
  · obtain ⟨p, dx, d, n, l, f, rfl, _⟩ := h
    rfl
  · obtain ⟨p, dx, d, n, l, f, rfl, hp, hd, di, wf, h1, h3, hl, q⟩ := h
    have hu := hu_of hr
    obtain ⟨tk, hms⟩ := T.v_MAX_SIZE
    refine ⟨_, pss_cons (ps_if (pt_not (pt_val (pe_callR (ok_in_range T) (hr.mono (by decide)) T.A_in_range.kp rfl T.g_in_range pass0 (pa_cons (pv 1) (pa_cons pe_int (pa_cons (pe_glob (v := .int 300) rfl hms ⟨_, rfl⟩) pa_nil)))))) (pss_one ps_never) pss_nil)
      (pss_cons (ps_if (pt_not (pt_val (pe_callR (ok_are_arrows T) hr T.A_are_arrows.kp rfl T.g_are_arrows pass0 (pa_cons (pv 1) (pa_cons (pv 2) pa_nil))))) (pss_one ps_never) pss_nil)
      (pss_cons (ps_fld (pv 0) (pv 1) rfl)
      (pss_one (ps_fld (pv 0) (pe_dc (own := [("source", 3)]) (g := gName 3) rfl sc_Map__init.nd (pi_range1 rfl T.n_range (pa_cons (pv 1) pa_nil)) (blkOk_by (own := [("source", 3)]) (N := n_Map__init) (sc := defScope s_Map__init) (by decide +kernel))
        (fun _ _ _ _ _ => pg_name (i := 3) sc_Map__init.nd rfl (Or.inl rfl)) (fun _ _ _ _ _ => pts_one (pt_cmp (pc_din hu (pv 3) (pv 2)))) (fun _ _ _ _ _ => pv 3) (fun _ _ _ _ _ => pe_dget hu (pv 2) (pv 3) (fun _ _ => rfl))) rfl)))), ?_⟩
    refine ⟨_, rfl, .int n, 1, 300, rfl, trivial, _, rfl, ?_⟩
    have e1 : inR (.int n) 1 300 = true := by simp [inR, h1, h3]
    rw [e1]
    refine iteF ⟨_, rfl, _, rfl, n, d, l, rfl, hd, hl, fun H1 s1 => ⟨_, rfl, ?_⟩⟩
    rw [okArr_of di wf]
    refine iteF ?_
    have hp1 := s1 _ _ hp
    have npd : p ≠ d := ne_of hp hd (by intro z; cases z)
    refine ⟨_, rfl, _, rfl, p, T.C_Map, dx, [], rfl, hp1, T.o_Map.cl, T.na_own_size_Map, (by show 0 < 1000; decide), ?_⟩
    have hd1 : (upd H1 p (.ins T.C_Map dx (putF "own_size" (.int n) []))) d = some (.dK (kvI l)) := by rw [upd_ne npd.symm]; exact s1 _ _ hd
    dsimp only [sFld]
    refine dc_range (n := n.toNat) (fun k => (lk l k).isSome) (fun k => ((lk l k).map V.int).getD .non) (fun R r => ⟨_, rfl, n, rfl, by omega, by omega, r⟩) (fun _ => rfl) ?_ (small1000 (by omega)) ?_
    · intro k hk H2 s2
      have hd2 := s2 _ _ hd1
      refine ⟨fun R r => ?_, fun hc => ⟨fun R r => ?_, fun R r => ?_⟩⟩
      · refine ⟨_, rfl, _, rfl, d, _, rfl, DGet.k (k := Sum.inl (0 + (k : Int))) hd2, _, rfl, ?_⟩
        rw [valV_kvI, Option.isSome_map, Int.zero_add]
        exact r
      · refine ⟨_, rfl, ?_⟩
        rw [Int.zero_add]
        exact r
      · cases hv : lk l (k : Int) with
        | none => rw [hv] at hc; cases hc
        | some y =>
          rw [hv] at r
          refine ⟨_, rfl, _, rfl, d, .int y, rfl, ?_, r⟩
          have := DGet.k (k := Sum.inl (0 + (k : Int))) hd2
          rw [valV_kvI, Int.zero_add, hv] at this
          rw [Int.zero_add]
          exact this
    · intro D H2 nD hD s2
      rw [madeR_tab di] at hD
      have hp2 := s2 _ _ (upd_same : (upd H1 p (.ins T.C_Map dx (putF "own_size" (.int n) []))) p = _)
      refine ⟨_, rfl, p, T.C_Map, dx, _, rfl, hp2, T.o_Map.cl, T.na_own_arrows_Map, (by show 1 < 1000; decide), ?_⟩
      have nDp : D ≠ p := fun e => by rw [e, upd_same] at nD; cases nD
      have nD1 : H1 D = none := by rw [upd_ne nDp] at nD; exact nD
      refine q _ D (fun b o hb e => ?_) (s1.free nD1) upd_same ?_
      · rw [upd_ne hb]
        refine s2 _ _ ?_
        rw [upd_ne hb]
        exact s1 _ _ e
      · rw [upd_ne nDp]
        exact hD
end
end My
namespace My
open PySem L2 U StX PM
/-! ### what a comprehension over pairs of ints makes -/
section
variable {P : Program} {w : World} {K : PySem.W.Frag} {mg : Str → Option Value} {base : Heap}
theorem mk_map {C : Addr} {H : Hp} {d : Addr} {n : Int} {l : List (Int × Int)} {f : PF} {Q : VK} {E : XK} (hd : H d = some (.dK (kvI l))) (di : DI l f) (wf : WF n f) (h1 : 1 ≤ n) (h3 : n ≤ 300) (hl : l.length ≤ 1000)
    (q : ∀ r H', H r = none → Same H H' → IsMap C H' r n f → Q (.ref r) H') (x dx : Addr) (hx : H x = none) (hdx : H dx = none) (ne : dx ≠ x) :
    spInit C [.ref x, .int n, .ref d] (upd (upd H dx (.own x)) x (.ins C dx [])) (fun v H2 => v = .non ∧ Q (.ref x) H2) E := by
  have s0 : Same H (upd (upd H dx (.own x)) x (.ins C dx [])) := fun b o e => by
    rw [upd_ne (ne_of_none e hx), upd_ne (ne_of_none e hdx)]
    exact e
  refine ⟨x, dx, d, n, l, f, rfl, upd_same, s0 _ _ hd, di, wf, h1, h3, hl, fun H' D o nD hp hD => ⟨rfl, ?_⟩⟩
  refine q x H' hx (fun b u e => o b u (ne_of_none e hx) (s0 b u e)) ⟨⟨dx, D, hp, hD⟩, wf, h1, h3⟩
/-! ### size, arrows, common_size -/
def spSize (C : Addr) : Sp := fun vs H Q _ => ∃ m n f, vs = [.ref m] ∧ IsMap C H m n f ∧ Q (.int n) H
theorem ok_size (T : Txt K mg) : FnR P w K mg base CX0 1 T.f_Map_size (spSize T.C_Map) := by
  refine T.A_Map_size.ok sc_Map_size (fun vs H Q E h => ?_) (fun cdv A outer s H vs Q E hr h => ?_)
  · obtain ⟨m, n, f, rfl, _⟩ := h
    rfl
  · obtain ⟨m, n, f, rfl, ⟨⟨dx, D, h1, h2⟩, _⟩, q⟩ := h
    refine ⟨_, pss_one (ps_ret (pe_fld (pv 0) rfl)), ?_⟩
    exact ⟨_, rfl, m, _, dx, _, _, rfl, h1, T.o_Map.cl, T.na_own_size_Map, flds_size _ _, q⟩
def spArrows (C : Addr) : Sp := fun vs H Q _ => ∃ m n f, vs = [.ref m] ∧ IsMap C H m n f ∧ ∀ p, H p = none → Q (.ref p) (upd H p (.dK (kvI (tab n f))))
theorem ok_arrows (T : Txt K mg) : FnR P w K mg base CX0 1 T.f_Map_arrows (spArrows T.C_Map) := by
  refine T.A_Map_arrows.ok sc_Map_arrows (fun vs H Q E h => ?_) (fun cdv A outer s H vs Q E hr h => ?_)
  · obtain ⟨m, n, f, rfl, _⟩ := h
    rfl
  · obtain ⟨m, n, f, rfl, ⟨⟨dx, D, h1, h2⟩, _⟩, q⟩ := h
    refine ⟨_, pss_one (ps_ret (pe_callTy call_dictD (by rfl) T.n_dict (by decide +kernel) (pa_cons (pe_fld (pv 0) rfl) pa_nil))), ?_⟩
    exact ⟨_, rfl, m, _, dx, _, _, rfl, h1, T.o_Map.cl, T.na_own_arrows_Map, flds_arrows _ _, D, _, rfl, Rd.of h2, q⟩
theorem at_map {C : Addr} {H : Hp} {m : Addr} {n : Int} {f : PF} (h : IsMap C H m n f) : ∃ dx fs, H m = some (.ins C dx fs) := by
  obtain ⟨⟨dx, D, h1, _⟩, _⟩ := h
  exact ⟨dx, _, h1⟩
/-! ### the operators -/
end
end My
namespace My
open PySem L2 U StX PM
section
variable {P : Program} {w : World} {K : PySem.W.Frag} {mg : Str → Option Value} {base : Heap}
/-! ### ~f -/
/-! ### f & g, f - g -/
theorem isD_of {H : Hp} {a : Addr} {kvs : List (Key × V)} (h : H a = some (.dK kvs)) : IsD H a := by
  first | exact .inl ⟨_, .inl h⟩ | exact ⟨_, .inl h⟩ | exact .inl ⟨_, h⟩ | exact .inr (.inl ⟨_, h⟩)
theorem scal_get (o : Option Int) (y : Int) : scal ((o.map V.int).getD .non) (.int y) = true := by cases o <;> rfl
theorem eq_get (o : Option Int) (y : Int) : decide ((o.map V.int).getD .non = V.int y) = decide (o = some y) := by
  cases o with
  | none => rfl
  | some z =>
    by_cases h : z = y
    · subst h; simp
    · have h1 : ¬ V.int z = V.int y := fun e => h (V.int.inj e)
      simp [h]
end
end My
namespace My
open PySem L2 U StX PM
section
variable {P : Program} {w : World} {K : PySem.W.Frag} {mg : Str → Option Value} {base : Heap}
/-! ### is_part, <=, <, >= -/
theorem all_made (l : List (Int × Int)) (p : Int → Int → Bool) : madeL (fun _ _ => true) (fun x y => .bl (p x y)) l = (l.map fun q => p q.1 q.2).map V.bl := by
  unfold madeL
  rw [List.map_map]
  congr 1
  induction l with
  | nil => rfl
  | cons a r ih => rw [List.filter_cons, if_pos rfl, ih]
/-! ### == -/
theorem nd_of_map {α β : Type} (h : α → β) : ∀ {l : List α}, (l.map h).Nodup → l.Nodup
  | [], _ => List.nodup_nil
  | a :: r, nd => by
    rw [List.map_cons, List.nodup_cons] at nd
    exact List.nodup_cons.mpr ⟨fun hm => nd.1 (List.mem_map.mpr ⟨a, hm, rfl⟩), nd_of_map h nd.2⟩
def eqB (n : Int) (f : PF) (n' : Int) (g : PF) : Bool := decide (n = n') && dEq (kvI (tab n f)) (kvI (tab n' g))
theorem eqB_self {n : Int} {f : PF} (w : WF n f) : eqB n f n f = true := by
  unfold eqB dEq
  rw [decide_eq_true rfl]
  simp only [Bool.true_and, beq_self_eq_true, List.all_eq_true, decide_eq_true_eq]
  intro p hp
  unfold kvI at hp
  obtain ⟨⟨x, y⟩, hq, rfl⟩ := List.mem_map.mp hp
  show valV (kvI (tab n f)) (Sum.inl x) = some (V.int y)
  rw [valV_kvI, lk_tab w, (mem_tab w).mp hq]
  rfl
theorem eqB_of {n : Int} {f g : PF} (wf : WF n f) (wg : WF n g) (h : eqB n f n g = true) : f = g := by
  unfold eqB dEq at h
  rw [Bool.and_eq_true, Bool.and_eq_true] at h
  obtain ⟨_, h1, h2⟩ := h
  have h1' : (tab n f).length = (tab n g).length := by simpa [kvI_length] using h1
  have key : ∀ x y, f x = some y → g x = some y := by
    intro x y e
    have hm : ((Sum.inl x : Key), V.int y) ∈ kvI (tab n f) := List.mem_map.mpr ⟨(x, y), (mem_tab wf).mpr e, rfl⟩
    have := List.all_eq_true.mp h2 _ hm
    have := of_decide_eq_true this
    rw [valV_kvI, lk_tab wg] at this
    cases hg : g x with
    | none => rw [hg] at this; cases this
    | some z => rw [hg] at this; cases this; rfl
  have sub : ∀ p ∈ tab n f, p ∈ tab n g := fun ⟨x, y⟩ hp => (mem_tab wg).mpr (key x y ((mem_tab wf).mp hp))
  have ndf : (tab n f).Nodup := by
    have := keys_tab n f
    exact nd_of_map _ this
  have perm : (tab n g) ⊆ (tab n f) := by
    intro p hp
    exact Classical.byContradiction fun hn => by
      have hlt : (tab n f).length < (tab n g).length := by
        have sp : (p :: tab n f).Nodup := List.nodup_cons.mpr ⟨hn, ndf⟩
        have : (p :: tab n f).length ≤ (tab n g).length := (List.Nodup.length_le_of_subset sp (by
          intro z hz
          rcases List.mem_cons.mp hz with e | e
          · rw [e]; exact hp
          · exact sub z e))
        exact this
      omega
  funext x
  cases e : f x with
  | some y => rw [key x y e]
  | none =>
    cases e2 : g x with
    | none => rfl
    | some y =>
      have := (mem_tab wf).mp (perm ((mem_tab wg).mpr e2))
      rw [e] at this
      cases this
def spEqM (C : Addr) : Sp := fun vs H Q _ => ∃ a b n f n' g, vs = [.ref a, .ref b] ∧ IsMap C H a n f ∧ IsMap C H b n' g ∧ Q (.bl (eqB n f n' g)) H
theorem ok_eq (T : Txt K mg) : FnR P w K mg base CX0 6 T.f_Map__eq (spEqM T.C_Map) := by
  refine T.A_Map__eq.ok sc_Map__eq (fun vs H Q E h => ?_) (fun cdv A outer s H vs Q E hr h => ?_)
  · obtain ⟨a, b, n, f, n', g, rfl, _⟩ := h
    rfl
  · obtain ⟨a, b, n, f, n', g, rfl, ha, hb, q⟩ := h
    have hu := hu_of hr
    obtain ⟨dx, D, h1, h2⟩ := id ha.ob
    obtain ⟨dy, D', h3, h4⟩ := id hb.ob
    refine ⟨_, pss_cons (ps_if (pt_not (pt_val (pe_callB call_isi (by rfl) T.n_isinstance (by decide +kernel) (pa_cons (pv 1) (pa_cons (pe_glob (v := .ref T.C_Map) rfl T.g_Map rfl) pa_nil))))) (pss_one (ps_ret pe_bl)) pss_nil)
      (pss_one (ps_ret (pe_and (pe_cmpR op_eq (pe_fld (pv 0) rfl) (pe_fld (pv 1) rfl) (nomark _)) (pe_one (pe_cmpR (op_eqDI (Nat.lt_of_succ_lt hu)) (pe_fld (pv 0) rfl) (pe_fld (pv 1) rfl) (nomark _)))))), ?_⟩
    refine ⟨_, rfl, _, _, _, _, true, rfl, .own _, tyx_ins T.o_Map h3, T.self_Map, _, rfl, iteF ?_⟩
    refine ⟨_, rfl, a, _, dx, _, _, rfl, h1, T.o_Map.cl, T.na_own_size_Map, flds_size _ _, _, rfl, b, _, dy, _, _, rfl, h3, T.o_Map.cl, T.na_own_size_Map, flds_size _ _, rfl, _, rfl, ?_⟩
    have e0 : decide (V.int n = V.int n') = decide (n = n') := by
      by_cases h : n = n'
      · subst h; simp
      · have : ¬ V.int n = V.int n' := fun z => h (V.int.inj z)
        simp [h]
    rw [e0]
    refine ifD (fun hn => ?_) (fun hn => ?_)
    · refine ⟨_, rfl, a, _, dx, _, _, rfl, h1, T.o_Map.cl, T.na_own_arrows_Map, flds_arrows _ _, _, rfl, b, _, dy, _, _, rfl, h3, T.o_Map.cl, T.na_own_arrows_Map, flds_arrows _ _, D, D', _, _, rfl, rfl, h2, h4, intVals_kvI _, intVals_kvI _, ?_⟩
      have := q
      unfold eqB at this
      rw [decide_eq_true hn, Bool.true_and] at this
      exact this
    · have := q
      unfold eqB at this
      rw [decide_eq_false hn, Bool.false_and] at this
      exact this
end
end My
namespace My
open PySem L2 U StX PM
section
variable {P : Program} {w : World} {K : PySem.W.Frag} {mg : Str → Option Value} {base : Heap}
def spChk : Sp := fun vs H Q _ => ∃ n : Int, vs = [.int n] ∧ 1 ≤ n ∧ n ≤ 300 ∧ Q .non H
theorem ok_check_size (T : Txt K mg) : FnR P w K mg base CX0 3 T.f_check_size spChk := by
  refine T.A_check_size.ok sc_check_size (fun vs H Q E h => ?_) (fun cdv A outer s H vs Q E hr h => ?_)
  · obtain ⟨n, rfl, _⟩ := h
    rfl
  · obtain ⟨n, rfl, h1, h3, q⟩ := h
    obtain ⟨tk, hms⟩ := T.v_MAX_SIZE
    refine ⟨_, pss_one (ps_if (pt_not (pt_val (pe_callR (ok_in_range T) hr T.A_in_range.kp rfl T.g_in_range pass0 (pa_cons (pv 0) (pa_cons pe_int (pa_cons (pe_glob (v := .int 300) rfl hms ⟨_, rfl⟩) pa_nil)))))) (pss_one ps_never) pss_nil), ?_⟩
    refine ⟨_, rfl, .int n, 1, 300, rfl, trivial, _, rfl, ?_⟩
    have e1 : inR (.int n) 1 300 = true := by simp [inR, h1, h3]
    rw [e1]
    exact iteF q
theorem di_id (N : Nat) : DI ((List.range N).map fun (i : Nat) => ((i : Int), (i : Int))) (idn (N : Int)) := by
  refine di_of ?_ fun a b => ?_
  · rw [List.map_map]
    have : ∀ n : Nat, ((List.range n).map ((fun p : Int × Int => p.1) ∘ fun (i : Nat) => ((i : Int), (i : Int)))).Nodup := by
      intro n
      induction n with
      | zero => exact List.nodup_nil
      | succ n ih =>
        rw [List.range_succ, List.map_append, List.nodup_append]
        refine ⟨ih, by simp, fun a ha b hb e => ?_⟩
        obtain ⟨i, hi, rfl⟩ := List.mem_map.mp ha
        rw [List.mem_range] at hi
        simp at hb
        have e' : (i : Int) = b := e
        omega
    exact this N
  · rw [List.mem_map]
    unfold idn
    constructor
    · rintro ⟨i, hi, e⟩
      rw [List.mem_range] at hi
      cases e
      rw [if_pos ⟨by omega, by omega⟩]
    · intro h
      split at h
      · rename_i hc
        cases h
        exact ⟨a.toNat, List.mem_range.mpr (by omega), by rw [Int.toNat_of_nonneg hc.1]⟩
      · cases h
theorem madeR_id (N : Nat) : madeR (fun _ => true) (fun x => x) (fun k => .int k) N = kvI ((List.range N).map fun (i : Nat) => ((i : Int), (i : Int))) := by
  unfold madeR kvI
  rw [List.map_map]
  congr 1
  exact List.filter_eq_self.mpr fun _ _ => rfl
def spNew (C : Addr) (op : Int → PF) : Sp := fun vs H Q _ => ∃ n : Int, vs = [.ref C, .int n] ∧ 1 ≤ n ∧ n ≤ 300 ∧ ∀ r H', H r = none → Same H H' → IsMap C H' r n (op n) → Q (.ref r) H'
theorem ok_identity (T : Txt K mg) : FnR P w K mg base CX0 6 T.f_Map_identity (spNew T.C_Map idn) := by
  refine T.A_Map_identity.ok sc_Map_identity (fun vs H Q E h => ?_) (fun cdv A outer s H vs Q E hr h => ?_)
  · obtain ⟨n, rfl, _⟩ := h
    rfl
  · obtain ⟨n, rfl, h1, h3, q⟩ := h
    refine ⟨_, pss_cons (ps_expr (pe_callR (ok_check_size T) (hr.mono (by decide)) T.A_check_size.kp rfl T.g_check_size pass0 (pa_cons (pv 1) pa_nil)))
      (pss_one (ps_ret (pe_makeL (i := 0) T.M_Map (ok_init T) hr rfl (Or.inl rfl) pass0 (pa_cons (pv 1) (pa_cons (pe_dc (own := [("element", 2)]) (g := gName 2) (tt := tYes) rfl sc_Map_identity.nd (pi_range1 rfl T.n_range (pa_cons (pv 1) pa_nil)) (blkOk_by (own := [("element", 2)]) (N := n_Map_identity) (sc := defScope s_Map_identity) (by decide +kernel))
        (fun _ _ _ _ _ => pg_name (i := 2) sc_Map_identity.nd rfl (Or.inl rfl)) (fun _ _ _ _ _ => pts_nil) (fun _ _ _ _ _ => pv 2) (fun _ _ _ _ _ => pv 2)) pa_nil))))), ?_⟩
    refine ⟨_, rfl, n, rfl, h1, h3, rfl, _, rfl, ?_⟩
    refine dc_range (n := n.toNat) (fun _ => true) (fun k => .int k) (fun R r => ⟨_, rfl, n, rfl, by omega, by omega, r⟩) (fun _ => rfl) ?_ (small1000 (by omega)) ?_
    · intro k hk H1 s1
      refine ⟨fun R r => r, fun _ => ⟨fun R r => ⟨_, rfl, ?_⟩, fun R r => ⟨_, rfl, ?_⟩⟩⟩
      · rw [Int.zero_add]; exact r
      · rw [Int.zero_add]; exact r
    · intro D H1 nD hD s1
      rw [madeR_id] at hD
      have e : ((n.toNat : Nat) : Int) = n := Int.toNat_of_nonneg (by omega)
      have di := di_id n.toNat
      rw [e] at di
      refine mk_map hD di (wf_idn n) h1 h3 (by simp; omega) fun r H3 nr s3 hm => ?_
      exact q r H3 (s1.free nr) (s1.trans s3) hm
theorem di_nil : DI [] emp := ⟨List.nodup_nil, fun _ => rfl⟩
theorem ok_empty (T : Txt K mg) : FnR P w K mg base CX0 6 T.f_Map_empty (spNew T.C_Map fun _ => emp) := by
  refine T.A_Map_empty.ok sc_Map_empty (fun vs H Q E h => ?_) (fun cdv A outer s H vs Q E hr h => ?_)
  · obtain ⟨n, rfl, _⟩ := h
    rfl
  · obtain ⟨n, rfl, h1, h3, q⟩ := h
    refine ⟨_, pss_cons (ps_expr (pe_callR (ok_check_size T) (hr.mono (by decide)) T.A_check_size.kp rfl T.g_check_size pass0 (pa_cons (pv 1) pa_nil)))
      (pss_one (ps_ret (pe_makeL (i := 0) T.M_Map (ok_init T) hr rfl (Or.inl rfl) pass0 (pa_cons (pv 1) (pa_cons pe_dnewK pa_nil))))), ?_⟩
    refine ⟨_, rfl, n, rfl, h1, h3, rfl, _, rfl, fun p hp => ?_⟩
    have s1 : Same H (upd H p (.dK [])) := Same.new hp
    refine mk_map (l := []) upd_same di_nil (wf_emp n) h1 h3 (by simp) fun r H3 nr s3 hm => ?_
    exact q r H3 (s1.free nr) (s1.trans s3) hm
/-! ### first_clash where there is none, | -/
theorem merge_lk : ∀ (r l : List (Int × Int)), (r.map (·.1)).Nodup → ∃ l', mergeK (kvI l) (kvI r) = kvI l' ∧ l'.length ≤ l.length + r.length ∧ ((l.map (·.1)).Nodup → (l'.map (·.1)).Nodup) ∧ ∀ z, lk l' z = (lk r z).or (lk l z)
  | [], l, _ => ⟨l, rfl, by simp, fun h => h, fun z => rfl⟩
  | (x, y) :: r, l, nd => by
    rw [List.map_cons, List.nodup_cons] at nd
    obtain ⟨l1, e1, n1, d1, k1⟩ := putK_lk (l := l) (x := x) (y := y)
    obtain ⟨l2, e2, n2, d2, k2⟩ := merge_lk r l1 nd.2
    refine ⟨l2, ?_, by simp; omega, fun h => d2 (d1 h), fun z => ?_⟩
    · show mergeK (putK (kvI l) (Sum.inl x) (V.int y)) (kvI r) = _
      rw [e1, e2]
    · rw [k2, k1, lk_cons]
      by_cases h : z = x
      · subst h
        rw [if_pos rfl, if_pos rfl, lk_none nd.1]
        rfl
      · have h' : ¬ x = z := fun q => h q.symm
        rw [if_neg h, if_neg h']
end
end My
namespace My
open PySem L2 U StX PM
/-! ### comprehensions over values and keys -/
theorem tgt_len (l : List (Int × Int)) (i : Nat) : (tgt (l.take i)).length ≤ l.length := by
  unfold tgt; rw [List.length_map, List.length_take]; omega
theorem dc_vals {d : Addr} {l : List (Int × Int)} {te : TE} {i : Nat} {tt : TT} {tk tv : TE} {vs : List Nat} {σ : L2.St} {H : Hp} {Q : VK}
    (hd : H d = some (.dK (kvI l))) (hte : ∀ H' (R : VK), R (.ref d) H' → Off d H H' → te σ H' R)
    (hw : ∀ a, wipe ((wipe σ vs).set i a) vs = wipe σ vs)
    (ht : ∀ (y : Int) (H1 : Hp) (R : Bool → Hp → Prop), R true H1 → tt ((wipe σ vs).set i (some (.int y))) H1 R) (hk : ∀ (y : Int) (H1 : Hp) (R : VK), R (.int y) H1 → tk ((wipe σ vs).set i (some (.int y))) H1 R) (hv : ∀ (y : Int) (H1 : Hp) (R : VK), R (.bl true) H1 → tv ((wipe σ vs).set i (some (.int y))) H1 R)
    (nd : (l.map (·.2)).Nodup) (hz : l.length < sizeLine)
    (hq : ∀ D H', H D = none → H' D = some (.dK (tgt l)) → L2.Same H H' → Q (.ref D) H') :
    tLockE (tDc (iVals te) (gName i) tt tk tv vs) σ H Q := by
  refine ⟨d, _, hd, trivial, fun od => ?_⟩
  refine hte _ _ ⟨d, od, kvI l, rfl, upd_same, fun D hD => ?_⟩ Off.lock
  have hDd : D ≠ d := fun e => by rw [e, upd_same] at hD; cases hD
  have hD0 : H D = none := by rw [upd_ne hDd] at hD; exact hD
  refine dc_it walk_values (fun k H' => H' d = some (.frz od (.dK (kvI l))) ∧ Off d H H' ∧ H' D = some (.dK (tgt (l.take k)))) ⟨?_, Off.lock.mut hD0, upd_same⟩ (fun k H' _ p => p.1) ?_ ?_
  · rw [upd_ne hDd.symm]; exact upd_same
  · rintro k v H' H'' hk1 ⟨p1, p2, p3⟩ ⟨rfl, kk, e1⟩
    obtain ⟨x, y, exy, rfl, rfl⟩ := kvI_get e1
    refine ⟨hw _, ?_⟩
    refine ht y _ _ ?_
    refine iteT ?_
    refine hk _ _ _ (hv _ _ _ ⟨_, Sum.inl y, rfl, p3, Nat.lt_of_le_of_lt (tgt_len ..) hz, ?_⟩)
    refine ⟨?_, p2.mut hD0, ?_⟩
    · rw [upd_ne hDd.symm]; exact p1
    · have nin : y ∉ (l.take k).map (·.2) := by
        intro hm
        have e2 : l.map (·.2) = (l.take k).map (·.2) ++ (l.drop k).map (·.2) := by rw [← List.map_append, List.take_append_drop]
        rw [e2, List.nodup_append] at nd
        refine nd.2.2 _ hm y (List.mem_map.mpr ⟨(x, y), ?_, rfl⟩) rfl
        refine List.mem_iff_getElem?.mpr ⟨0, ?_⟩
        rw [List.getElem?_drop]
        exact exy
      rw [upd_same, putK_new _ (valV_none fun z => nin (tgt_key.mp z)), take_more exy]
      unfold tgt
      rw [List.map_append]
      rfl
  · rintro H' ⟨p1, p2, p3⟩
    rw [kvI_length, List.take_length] at p3
    refine ⟨p1, hq D _ hD0 ?_ (p2.back hd)⟩
    rw [upd_ne hDd]
    exact p3
/-! ### seen and found -/
def kvB (sl : List Int) : List (Key × V) := sl.map fun x => (Sum.inl x, V.bl true)
structure Fnd (n : Int) (f : PF) (k : Nat) (fl : List (Int × Int)) (sl : List Int) : Prop where
  nd : (fl.map (·.1)).Nodup
  at_ : ∀ x, lk fl x = if x ∈ sl then iter f k x else none
  sn : sl.Nodup
  dm : ∀ x ∈ sl, 0 ≤ x ∧ x < n
theorem Fnd.len {n : Int} {f : PF} {k : Nat} {fl : List (Int × Int)} {sl : List Int} (h : Fnd n f k fl sl) : fl.length ≤ n.toNat := by
  have := len_range (n := n) h.nd (fun x hx => by
    obtain ⟨⟨a, b⟩, hp, rfl⟩ := List.mem_map.mp hx
    have e := lk_some h.nd hp
    rw [h.at_] at e
    by_cases hm : a ∈ sl
    · exact h.dm _ hm
    · rw [if_neg hm] at e; cases e)
  rw [List.length_map] at this
  exact this
theorem Fnd.put {n : Int} {f : PF} {k : Nat} {fl fl' : List (Int × Int)} {sl sl' : List Int} {x y : Int} (h : Fnd n f k fl sl) (h1 : ∀ z, z ∈ sl' ↔ z ∈ sl ∨ z = x) (h2 : sl.Nodup → sl'.Nodup) (hx : 0 ≤ x ∧ x < n)
    (e : iter f k x = some y) (n1 : (fl.map (·.1)).Nodup → (fl'.map (·.1)).Nodup) (a1 : ∀ z, lk fl' z = if z = x then some y else lk fl z) : Fnd n f k fl' sl' := by
  refine ⟨n1 h.nd, fun z => ?_, h2 h.sn, fun z hz => ?_⟩
  · rw [a1]
    by_cases hz : z = x
    · subst hz
      rw [if_pos rfl, if_pos ((h1 z).mpr (.inr rfl)), e]
    · rw [if_neg hz, h.at_]
      by_cases hs : z ∈ sl
      · rw [if_pos hs, if_pos ((h1 z).mpr (.inl hs))]
      · rw [if_neg hs, if_neg fun q => ((h1 z).mp q).elim hs hz]
  · rcases (h1 z).mp hz with q | rfl
    · exact h.dm z q
    · exact hx
theorem Fnd.di {n : Int} {f : PF} {k : Nat} {fl : List (Int × Int)} {sl : List Int} (h : Fnd n f (k + 1) fl sl) (all : ∀ x y, f x = some y → x ∈ sl) : DI fl (iter f (k + 1)) := by
  refine ⟨h.nd, fun x => ?_⟩
  rw [h.at_]
  by_cases hs : x ∈ sl
  · rw [if_pos hs]
  · rw [if_neg hs, iter_head]
    cases e : f x with
    | none => rfl
    | some y => exact absurd (all x y e) hs
end My
namespace My
open PySem L2 U StX PM
section
variable {P : Program} {w : World} {K : PySem.W.Frag} {mg : Str → Option Value} {base : Heap}
theorem get_map {xs : List Int} {i : Nat} {a : Int} (h : xs[i]? = some a) : (xs.map V.int)[i]? = some (V.int a) := by
  rw [List.getElem?_map, h]; rfl
theorem Same.put {H H' : Hp} {p : Addr} {o : HO} (s : Same H H') (h : H p = none) : Same H (upd H' p o) := fun b u e => by rw [upd_ne (ne_of_none e h)]; exact s b u e
end
end My
namespace My
open PySem L2 U StX PM
/-! ### a drawn map -/
structure Drw (n : Int) (i : Nat) (l : List (Int × Int)) (ns : List Int) : Prop where
  kn : (l.map (·.1)).Nodup
  vn : (l.map (·.2)).Nodup
  nn : ns.Nodup
  lt : ∀ p ∈ l, 0 ≤ p.1 ∧ p.1 < i ∧ 0 ≤ p.2 ∧ p.2 < n
  nt : ∀ y ∈ ns, 0 ≤ y ∧ y < n ∧ y ∉ l.map (·.2)
  ln : l.length ≤ i
  le : l.length + ns.length = n.toNat
theorem Drw.more {n : Int} {i : Nat} {l : List (Int × Int)} {ns : List Int} (h : Drw n i l ns) : Drw n (i + 1) l ns := by
  refine ⟨h.kn, h.vn, h.nn, fun p hp => ?_, h.nt, Nat.le_succ_of_le h.ln, h.le⟩
  have := h.lt p hp
  omega
theorem not_erase {ns : List Int} {k : Nat} {y : Int} (nd : ns.Nodup) (h : ns[k]? = some y) : y ∉ ns.eraseIdx k := by
  obtain ⟨hk, e⟩ := List.getElem?_eq_some_iff.mp h
  have e1 : ns = ns.take k ++ y :: ns.drop (k + 1) := by
    rw [← e]
    simp
  rw [List.eraseIdx_eq_take_drop_succ]
  intro hm
  rw [e1, List.nodup_append, List.nodup_cons] at nd
  rcases List.mem_append.mp hm with h1 | h1
  · exact nd.2.2 y h1 y List.mem_cons_self rfl
  · exact nd.2.1.1 h1
theorem Drw.put {n : Int} {i : Nat} {l : List (Int × Int)} {ns : List Int} (h : Drw n i l ns) {k : Nat} {y : Int} (hy : ns[k]? = some y) : Drw n (i + 1) (l ++ [((i : Int), y)]) (ns.eraseIdx k) ∧ (i : Int) ∉ l.map (·.1) := by
  have hm := h.nt y (List.mem_of_getElem? hy)
  have hi : (i : Int) ∉ l.map (·.1) := by
    intro hm
    obtain ⟨p, hp, e⟩ := List.mem_map.mp hm
    have := h.lt p hp
    omega
  obtain ⟨hk, _⟩ := List.getElem?_eq_some_iff.mp hy
  refine ⟨⟨?_, ?_, ?_, ?_, ?_, ?_, ?_⟩, hi⟩
  · rw [List.map_append, List.nodup_append]
    refine ⟨h.kn, by simp, fun a ha b hb e => ?_⟩
    simp at hb
    subst hb
    exact hi (e ▸ ha)
  · rw [List.map_append, List.nodup_append]
    refine ⟨h.vn, by simp, fun a ha b hb e => ?_⟩
    simp at hb
    subst hb
    exact hm.2.2 (e ▸ ha)
  · exact List.Sublist.nodup (List.eraseIdx_sublist _ _) h.nn
  · intro p hp
    rcases List.mem_append.mp hp with hp | hp
    · have := h.lt p hp
      omega
    · simp at hp
      subst hp
      dsimp only
      omega
  · intro z hz
    have h1 := h.nt z (List.mem_of_mem_eraseIdx hz)
    refine ⟨h1.1, h1.2.1, fun hq => ?_⟩
    rw [List.map_append] at hq
    rcases List.mem_append.mp hq with hq | hq
    · exact h1.2.2 hq
    · simp at hq
      subst hq
      exact not_erase h.nn hy hz
  · have := h.ln
    simp
    omega
  · have := h.le
    rw [List.length_append, List.length_singleton, List.length_eraseIdx, if_pos hk]
    omega
theorem two_in {l : List (Int × Int)} (vn : (l.map (·.2)).Nodup) : ∀ {x x' y : Int}, (x, y) ∈ l → (x', y) ∈ l → x = x' := by
  induction l with
  | nil => intro _ _ _ h; cases h
  | cons p r ih =>
    intro x x' y h1 h2
    rw [List.map_cons, List.nodup_cons] at vn
    rcases List.mem_cons.mp h1 with e1 | e1 <;> rcases List.mem_cons.mp h2 with e2 | e2
    · subst e1; cases e2; rfl
    · subst e1; exact absurd (List.mem_map.mpr ⟨(x', y), e2, rfl⟩) vn.1
    · subst e2; exact absurd (List.mem_map.mpr ⟨(x, y), e1, rfl⟩) vn.1
    · exact ih vn.2 e1 e2
theorem Drw.wf {n : Int} {l : List (Int × Int)} {ns : List Int} (h0 : 0 ≤ n) (h : Drw n n.toNat l ns) : WF n (lk l) := by
  refine ⟨fun x y e => ?_, fun x x' y e e' => two_in h.vn (lk_mem e) (lk_mem e')⟩
  have := h.lt _ (lk_mem e)
  dsimp only at this
  omega
theorem rg0 (n : Int) : rgV 0 n = ((List.range n.toNat).map fun (i : Nat) => (i : Int)).map V.int := by
  unfold rgV
  rw [List.map_map, show (n - 0).toNat = n.toNat by omega]
  refine List.map_congr_left fun a _ => ?_
  show V.int (0 + (a : Int)) = V.int (a : Int)
  rw [Int.zero_add]
theorem drw0 (n : Int) : Drw n 0 [] ((List.range n.toNat).map fun (i : Nat) => (i : Int)) := by
  refine ⟨List.nodup_nil, List.nodup_nil, ?_, fun p h => (nomatch h), fun y hy => ?_, Nat.le_refl _, by simp⟩
  · have := (di_id n.toNat).nd
    rw [List.map_map] at this
    exact this
  · obtain ⟨i, hi, rfl⟩ := List.mem_map.mp hy
    rw [List.mem_range] at hi
    exact ⟨by omega, by omega, by simp⟩
section
variable {P : Program} {w : World} {K : PySem.W.Frag} {mg : Str → Option Value} {base : Heap}
def PoolAt (H : Hp) (p : Addr) : Prop := ∃ a b : Int, H p = some (.lst [.int a, .int b]) ∧ 0 ≤ a ∧ 0 ≤ b ∧ b < 2147483647
theorem Off.put {p q : Addr} {H H' : Hp} {o : HO} (a : Off p H H') (h : H q = none) : Off p H (upd H' q o) := a.mut h
theorem Off.at {p : Addr} {H H' : Hp} {o : HO} (a : Off p H H') : Off p H (upd H' p o) := fun b u hb e => by rw [upd_ne hb]; exact a b u hb e
end
end My
namespace My
open PySem L2 U StX PM
/-! ### values that are no maps; check_map -/
def nonMapV (H : Hp) : V → Prop
  | .non => True | .bl _ => True | .int _ => True | .str _ => True
  | .ref a => (∃ xs, H a = some (.lst xs)) ∨ (∃ xs, H a = some (.tup xs)) ∨ (∃ kvs, H a = some (.dK kvs))
  | _ => False
section
variable {P : Program} {w : World} {K : PySem.W.Frag} {mg : Str → Option Value} {base : Heap}
theorem ty_nonmap (T : Txt K mg) {H : Hp} {x : V} (h : nonMapV H x) : ∃ t, TyX K H x t ∧ PySem.W.kitOne K t (.ref T.C_Map) = some false := by
  cases x with
  | non => exact ⟨_, .base .non, T.kn_NoneType_Map⟩
  | bl b => exact ⟨_, .base (.bl b), T.kn_bool_Map⟩
  | int i => exact ⟨_, .base (.int i), T.kn_int_Map⟩
  | str z => exact ⟨_, .base (.str z), T.kn_str_Map⟩
  | ref a =>
    rcases h with ⟨xs, e⟩ | ⟨xs, e⟩ | ⟨xs, e⟩
    · exact ⟨_, .base (.lst e), T.kn_list_Map⟩
    · exact ⟨_, .base (.tup e), T.kn_tuple_Map⟩
    · exact ⟨_, .base (.dK e), T.kn_dict_Map⟩
  | byt b => exact h.elim
  | flt b => exact h.elim
  | ty b => exact h.elim
end
/-! ### lists of rows -/
def RowsAt (H : Hp) : List Addr → List (List Int) → Prop
  | [], [] => True
  | a :: as, r :: rs => H a = some (.lst (r.map V.int)) ∧ RowsAt H as rs
  | _, _ => False
theorem RowsAt.len {H : Hp} : ∀ {as : List Addr} {rs : List (List Int)}, RowsAt H as rs → as.length = rs.length
  | [], [], _ => rfl
  | _ :: as, _ :: rs, h => by rw [List.length_cons, List.length_cons, RowsAt.len h.2]
  | [], _ :: _, h => h.elim
  | _ :: _, [], h => h.elim
theorem RowsAt.map {H H' : Hp} : ∀ {as : List Addr} {rs : List (List Int)}, RowsAt H as rs → (∀ a ∈ as, ∀ xs, H a = some (.lst xs) → H' a = some (.lst xs)) → RowsAt H' as rs
  | [], [], _, _ => trivial
  | _ :: as, _ :: rs, h, k => ⟨k _ List.mem_cons_self _ h.1, RowsAt.map h.2 fun a ha => k a (List.mem_cons_of_mem _ ha)⟩
  | [], _ :: _, h, _ => h.elim
  | _ :: _, [], h, _ => h.elim
theorem RowsAt.same {H H' : Hp} {as : List Addr} {rs : List (List Int)} (h : RowsAt H as rs) (s : Same H H') : RowsAt H' as rs := h.map fun a _ xs e => s a _ e
theorem RowsAt.off {H : Hp} {as : List Addr} {rs : List (List Int)} {p : Addr} {o : HO} (h : RowsAt H as rs) (n : p ∉ as) : RowsAt (upd H p o) as rs := h.map fun a ha xs e => by
  have hne : a ≠ p := fun z => n (z ▸ ha)
  rw [upd_ne hne]; exact e
theorem RowsAt.snoc {H : Hp} {a : Addr} {r : List Int} : ∀ {as : List Addr} {rs : List (List Int)}, RowsAt H as rs → H a = some (.lst (r.map V.int)) → RowsAt H (as ++ [a]) (rs ++ [r])
  | [], [], _, e => ⟨e, trivial⟩
  | _ :: as, _ :: rs, h, e => ⟨h.1, RowsAt.snoc h.2 e⟩
  | [], _ :: _, h, _ => h.elim
  | _ :: _, [], h, _ => h.elim
theorem RowsAt.get {H : Hp} : ∀ {as : List Addr} {rs : List (List Int)}, RowsAt H as rs → ∀ (i : Nat) (a : Addr), as[i]? = some a → ∃ r, rs[i]? = some r ∧ H a = some (.lst (r.map V.int))
  | [], [], _, i, a, e => by simp at e
  | b :: as, r :: rs, h, 0, a, e => by cases e; exact ⟨r, rfl, h.1⟩
  | _ :: as, _ :: rs, h, i + 1, a, e => RowsAt.get h.2 i a e
  | [], _ :: _, h, _, _, _ => h.elim
  | _ :: _, [], h, _, _, _ => h.elim
theorem RowsAt.mem {H : Hp} {as : List Addr} {rs : List (List Int)} (h : RowsAt H as rs) {a : Addr} (ha : a ∈ as) : ∃ r ∈ rs, H a = some (.lst (r.map V.int)) := by
  obtain ⟨i, hi⟩ := List.mem_iff_getElem?.mp ha
  obtain ⟨r, e1, e2⟩ := h.get i a hi
  exact ⟨r, List.mem_of_getElem? e1, e2⟩
theorem dp_ints {K : PySem.W.Frag} {H : Hp} : ∀ (r : List Int), DpAll K H (r.map V.int) (r.map PyData.int)
  | [] => .nil
  | x :: r => .cons (.int x) (dp_ints r)
end My
namespace My
open PySem L2 U StX PM
section
variable {P : Program} {w : World} {K : PySem.W.Frag} {mg : Str → Option Value} {base : Heap}
structure Prt (n : Int) (f : PF) (H H' : Hp) (lh se : Addr) (ex : List Addr) (b : List Int) (hs : List Addr) (sl : List Int) (st : List Int) : Prop where
  sm : Same H H'
  l : H' lh = some (.lst (hs.map V.ref))
  s : H' se = some (.dK (kvB sl))
  r : RowsAt H' hs (st.map (rowN f))
  m : ∀ x, x ∈ sl ↔ x ∈ seenL f (b ++ st)
  nd : sl.Nodup
  nw : ∀ a ∈ hs, H a = none ∧ a ≠ lh ∧ a ≠ se ∧ a ∉ ex
/-- one row more, from a new list r, its marks merged -/
theorem Prt.more {n : Int} {f : PF} {H H1 H2 H3 : Hp} {lh se : Addr} {ex hs : List Addr} {b sl sl' st : List Int} {e : Int} {r : Addr} (p : Prt n f H H1 lh se ex b hs sl st) (hl0 : H lh = none) (hs0 : H se = none) (nls : lh ≠ se) (hex : ∀ a ∈ ex, H1 a ≠ none)
    (hr : H1 r = none) (s2 : Same H1 H2) (hr2 : H2 r = some (.lst ((rowN f e).map V.int))) (m1 : ∀ z, z ∈ sl' ↔ z ∈ sl ∨ z ∈ rowN f e) (n1 : sl.Nodup → sl'.Nodup) (s3 : Same (upd H2 lh (.lst (hs.map V.ref ++ [.ref r]))) H3) :
    Prt n f H (upd H3 se (.dK (kvB sl'))) lh se ex b (hs ++ [r]) sl' (st ++ [e]) := by
  have rl : r ≠ lh := fun z => by rw [z, p.l] at hr; cases hr
  have rs : r ≠ se := fun z => by rw [z, p.s] at hr; cases hr
  have r0 : H r = none := p.sm.free hr
  have rx : r ∉ ex := fun z => hex r z hr
  refine ⟨?_, ?_, upd_same, ?_, ?_, n1 p.nd, ?_⟩
  · refine Same.put ?_ hs0
    exact (Same.put (p.sm.trans s2) hl0).trans s3
  · rw [upd_ne nls, s3 _ _ upd_same, List.map_append]
    rfl
  · rw [List.map_append]
    refine RowsAt.snoc ?_ ?_
    · have h1 := (p.r.same s2).off (p := lh) (o := .lst (hs.map V.ref ++ [.ref r])) (fun z => (p.nw lh z).2.1 rfl)
      exact (h1.same s3).off fun z => (p.nw se z).2.2.1 rfl
    · rw [upd_ne rs]
      exact s3 _ _ (by rw [upd_ne rl]; exact hr2)
  · intro x
    rw [m1, p.m, mem_seenL, mem_seenL]
    constructor
    · rintro (⟨e', h1, h2⟩ | h)
      · exact ⟨e', by rw [← List.append_assoc]; exact List.mem_append_left _ h1, h2⟩
      · exact ⟨e, by simp, h⟩
    · rintro ⟨e', h1, h2⟩
      rw [← List.append_assoc] at h1
      rcases List.mem_append.mp h1 with h1 | h1
      · exact .inl ⟨e', h1, h2⟩
      · rw [List.mem_singleton] at h1
        subst h1
        exact .inr h2
  · intro a ha
    rcases List.mem_append.mp ha with ha | ha
    · exact p.nw a ha
    · rw [List.mem_singleton] at ha
      subst ha
      exact ⟨r0, rl, rs, rx⟩
/-! ### cycles_of, chains_of -/
end
end My
namespace My
open PySem L2 U StX PM
/-- what holds between a statement and the rest -/
theorem seq_cut {a rest : TS} {D : Ends} {σ : L2.St} {H : Hp} (M : L2.St → Hp → Prop) (h : ∀ nx : L2.St → Hp → Prop, (∀ σ' H', M σ' H' → nx σ' H') → a { D with nx := nx } σ H) (hM : ∀ σ' H', M σ' H' → rest D σ' H') : tSeq a rest D σ H := h _ hM
theorem asg_of {t : TE} {D : Ends} {σ : L2.St} {H : Hp} {i : Nat} (h : t σ H (fun v H' => D.nx (σ.set i (some v)) H')) : tAsg t (gName i) D σ H := h
/-! ### lists of ints: in, comprehensions -/
theorem inV_ints (x : Int) (l : List Int) : inV (.int x) (l.map V.int) = decide (x ∈ l) := by
  unfold inV
  rw [Bool.eq_iff_iff, List.any_eq_true, decide_eq_true_eq]
  constructor
  · rintro ⟨v, hv, e⟩
    obtain ⟨y, hy, rfl⟩ := List.mem_map.mp hv
    have : y = x := by simpa [eqV] using e
    exact this ▸ hy
  · intro h
    exact ⟨.int x, List.mem_map.mpr ⟨x, h, rfl⟩, by simp [eqV]⟩
theorem flat_ints (l : List Int) : (l.map V.int).all flatV = true := by
  rw [List.all_eq_true]
  intro v hv
  obtain ⟨y, _, rfl⟩ := List.mem_map.mp hv
  rfl
/-- [v for x in xs if ..], a list of ints, the tests and parts reading alone -/
theorem lc_ints {K : PySem.W.Frag} {te : TE} {i : Nat} {tt : TT} {tv : TE} {vs : List Nat} {σ : L2.St} {H0 H : Hp} {Q : VK} {a : Addr} {xs : List Int} (c : Int → Bool) (vf : Int → V) (hte : ∀ R : VK, R (.ref a) H → te σ H0 R) (ha : H a = some (.lst (xs.map V.int)))
    (hw : ∀ a, wipe ((wipe σ vs).set i a) vs = wipe σ vs)
    (hb : ∀ (x : Int), x ∈ xs → ∀ (H1 : Hp), L2.Same H H1 → (∀ R : Bool → Hp → Prop, R (c x) H1 → tt ((wipe σ vs).set i (some (.int x))) H1 R) ∧ (c x = true → ∀ R : VK, R (vf x) H1 → tv ((wipe σ vs).set i (some (.int x))) H1 R))
    (hz : xs.length < sizeLine)
    (hq : ∀ D H', H D = none → H' D = some (.lst ((xs.filter c).map vf)) → L2.Same H H' → Q (.ref D) H') :
    tLc (iList K te) (gName i) tt tv vs σ H0 Q := by
  refine hte _ ⟨a, rfl, ⟨_, SqL.of ha⟩, fun D hD => ?_⟩
  refine lc_it (walk_list (xs := xs.map V.int)) (fun k H' => L2.Same H H' ∧ H' D = some (.lst (((xs.take k).filter c).map vf))) ⟨Same.new hD, upd_same⟩ (fun k H' _ p => SqL.of (p.1 _ _ ha)) ?_ ?_
  · rintro k v H' H'' hk1 ⟨p1, p2⟩ ⟨rfl, ev⟩
    rw [List.length_map] at hk1
    obtain ⟨y, ey⟩ : ∃ y, xs[k]? = some y := ⟨_, List.getElem?_eq_getElem hk1⟩
    have ev' : v = .int y := by
      have := get_map ey
      rw [this] at ev
      exact (Option.some.inj ev).symm
    subst ev'
    refine ⟨hw _, ?_⟩
    obtain ⟨b1, b2⟩ := hb y (List.mem_of_getElem? ey) _ p1
    refine b1 _ ?_
    have st : (xs.take (k + 1)).filter c = (xs.take k).filter c ++ (if c y = true then [y] else []) := by
      rw [take_more ey, List.filter_append]
      by_cases h : c y = true
      · simp [h]
      · have h' : c y = false := by simpa using h
        simp [h']
    cases hc : c y with
    | true =>
      refine iteT (b2 hc _ ⟨_, p2, ?_, Same.put p1 hD, ?_⟩)
      · refine Nat.lt_of_le_of_lt ?_ hz
        rw [List.length_map]
        exact Nat.le_trans (List.length_filter_le _ _) (by rw [List.length_take]; omega)
      · rw [upd_same, st, if_pos hc, List.map_append]
        rfl
    | false =>
      refine iteF ⟨p1, ?_⟩
      rw [st, hc, if_neg Bool.false_ne_true, List.append_nil]
      exact p2
  · rintro H' ⟨p1, p2⟩
    rw [List.length_map, List.take_length] at p2
    exact hq D _ hD p2 p1
/-! ### rows with marks -/
def PairsAt (H : Hp) : List Addr → List Addr → List Bool → Prop
  | [], [], [] => True
  | p :: ps, a :: as, b :: bs => H p = some (.tup [.ref a, .bl b]) ∧ PairsAt H ps as bs
  | _, _, _ => False
theorem PairsAt.map {H H' : Hp} : ∀ {ps as : List Addr} {bs : List Bool}, PairsAt H ps as bs → (∀ p ∈ ps, ∀ xs, H p = some (.tup xs) → H' p = some (.tup xs)) → PairsAt H' ps as bs
  | [], [], [], _, _ => trivial
  | _ :: ps, _ :: as, _ :: bs, h, k => ⟨k _ List.mem_cons_self _ h.1, PairsAt.map h.2 fun a ha => k a (List.mem_cons_of_mem _ ha)⟩
  | [], [], _ :: _, h, _ => h.elim
  | [], _ :: _, _, h, _ => h.elim
  | _ :: _, [], _, h, _ => h.elim
  | _ :: _, _ :: _, [], h, _ => h.elim
theorem PairsAt.same {H H' : Hp} {ps as : List Addr} {bs : List Bool} (h : PairsAt H ps as bs) (s : Same H H') : PairsAt H' ps as bs := h.map fun a _ xs e => s a _ e
theorem PairsAt.off {H : Hp} {ps as : List Addr} {bs : List Bool} {q : Addr} {o u : HO} (h : PairsAt H ps as bs) (hq : H q = some u) (nt : ∀ xs, u ≠ .tup xs) : PairsAt (upd H q o) ps as bs := h.map fun a ha xs e => by
  have hne : a ≠ q := fun z => by subst z; rw [hq] at e; exact nt _ (Option.some.inj e)
  rw [upd_ne hne]; exact e
theorem PairsAt.snoc {H : Hp} {p a : Addr} {b : Bool} : ∀ {ps as : List Addr} {bs : List Bool}, PairsAt H ps as bs → H p = some (.tup [.ref a, .bl b]) → PairsAt H (ps ++ [p]) (as ++ [a]) (bs ++ [b])
  | [], [], [], _, e => ⟨e, trivial⟩
  | _ :: ps, _ :: as, _ :: bs, h, e => ⟨h.1, PairsAt.snoc h.2 e⟩
  | [], [], _ :: _, h, _ => h.elim
  | [], _ :: _, _, h, _ => h.elim
  | _ :: _, [], _, h, _ => h.elim
  | _ :: _, _ :: _, [], h, _ => h.elim
theorem PairsAt.len {H : Hp} : ∀ {ps as : List Addr} {bs : List Bool}, PairsAt H ps as bs → ps.length = as.length ∧ ps.length = bs.length
  | [], [], [], _ => ⟨rfl, rfl⟩
  | _ :: ps, _ :: as, _ :: bs, h => by
    have := PairsAt.len h.2
    simp [this.1.symm, this.2.symm]
  | [], [], _ :: _, h => h.elim
  | [], _ :: _, _, h => h.elim
  | _ :: _, [], _, h => h.elim
  | _ :: _, _ :: _, [], h => h.elim
theorem PairsAt.get {H : Hp} : ∀ {ps as : List Addr} {bs : List Bool}, PairsAt H ps as bs → ∀ (i : Nat) (p : Addr), ps[i]? = some p → ∃ a b, as[i]? = some a ∧ bs[i]? = some b ∧ H p = some (.tup [.ref a, .bl b])
  | [], [], [], _, i, a, e => by simp at e
  | _ :: ps, a :: as, b :: bs, h, 0, p, e => by cases e; exact ⟨a, b, rfl, rfl, h.1⟩
  | _ :: ps, _ :: as, _ :: bs, h, i + 1, p, e => PairsAt.get h.2 i p e
  | [], [], _ :: _, h, _, _, _ => h.elim
  | [], _ :: _, _, h, _, _, _ => h.elim
  | _ :: _, [], _, h, _, _, _ => h.elim
  | _ :: _, _ :: _, [], h, _, _, _ => h.elim
end My
namespace My
open PySem L2 U StX PM
/-! ### rows by their first elements -/
def RowsZ (f : PF) (H : Hp) (zs : List (Addr × Int)) : Prop := ∀ z ∈ zs, H z.1 = some (.lst ((rowN f z.2).map V.int))
theorem RowsZ.at {f : PF} {H : Hp} : ∀ {zs : List (Addr × Int)}, RowsZ f H zs → RowsAt H (zs.map (·.1)) ((zs.map (·.2)).map (rowN f))
  | [], _ => trivial
  | z :: zs, h => ⟨h z List.mem_cons_self, RowsZ.at fun x hx => h x (List.mem_cons_of_mem _ hx)⟩
/-! ### data that may be compared -/
end My
namespace My
open PySem L2 U StX PM
theorem SqL.same {K : PySem.W.Frag} {H H' : Hp} {a : Addr} {xs : List V} (h : SqL K H a xs) (s : Same H H') : SqL K H' a xs := by
  rcases h with (h | ⟨o, h⟩) | h
  · exact .inl (.inl (s _ _ h))
  · exact .inl (.inr ⟨o, s _ _ h⟩)
  · exact .inr h
theorem Same.off {H H1 H2 : Hp} {p : Addr} (s : Same H H1) (o : Off p H1 H2) (h : H p = none) : Same H H2 := fun b u e => o b u (ne_of_none e h) (s b u e)
theorem yes_ {σ : L2.St} {H : Hp} {A B : Hp → Prop} (h : A H) : tYes σ H (fun b H3 => if b = true then A H3 else B H3) := by
  show (if true = true then A H else B H)
  rw [if_pos rfl]
  exact h
theorem PoolAt.same {H H' : Hp} {p : Addr} (h : PoolAt H p) (s : Same H H') : PoolAt H' p := by
  obtain ⟨a, b, e, r⟩ := h
  exact ⟨a, b, s _ _ e, r⟩
theorem PoolAt.lst {H : Hp} {p : Addr} (h : PoolAt H p) : ∃ xs, H p = some (.lst xs) := by
  obtain ⟨a, b, e, r⟩ := h
  exact ⟨_, e⟩
theorem PoolAt.ne {H : Hp} {p q : Addr} (h : PoolAt H p) (hq : H q = none) : p ≠ q := by
  obtain ⟨xs, e⟩ := h.lst
  exact ne_of_none e hq
def spLaw (K : PySem.W.Frag) : Sp := fun vs H Q _ => ∃ (a : Addr) (ns : List Int), vs = [.ref a] ∧ SqL K H a (ns.map V.int) ∧ ns.length ≤ 63 ∧ ∀ H', Q (.bl true) H'
theorem IsMap.off {C p : Addr} {H H' : Hp} {m : Addr} {n : Int} {f : PF} (a : IsMap C H m n f) (o : Off p H H') (h : ∃ xs, H p = some (.lst xs)) : IsMap C H' m n f := by
  obtain ⟨⟨dx, D, h1, h2⟩, wf, lo, hi⟩ := a
  obtain ⟨xs, h⟩ := h
  exact ⟨⟨dx, D, o _ _ (fun e => by rw [e, h] at h1; cases h1) h1, o _ _ (fun e => by rw [e, h] at h2; cases h2) h2⟩, wf, lo, hi⟩
/-- the law's draw, told by the pool alone -/
theorem draw_of {H : Hp} {p : Addr} {n : Int} {Q : VK} {E : XK} (h : PoolAt H p) (n0 : 0 < n) (n1 : n < 1073741824) (k : ∀ r H', 0 ≤ r → r < n → PoolAt H' p → Off p H H' → (∃ xs, H' = upd H p (.lst xs)) → Q (.int r) H') : spDraw [.ref p, .int n] H Q E := by
  obtain ⟨a, b, e, ha, hb, hc⟩ := h
  exact ⟨p, a, b, n, rfl, e, ha, hb, hc, n0, n1, fun a' b' r h1 h2 h3 h4 h5 => k r _ h4 h5 ⟨a', b', upd_same, h1, h2, h3⟩ Off.lock ⟨_, rfl⟩⟩
end My
namespace My
open PySem L2 U StX PM
theorem paired_at {α β : Type} {R : α → β → Prop} {xs : List α} {ys : List β} (h : Paired R xs ys) {i : Nat} {x : α} (e : xs[i]? = some x) : ∃ y, ys[i]? = some y ∧ R x y := by
  induction h generalizing i with
  | nil => cases e
  | cons r _ ih =>
    cases i with
    | zero => cases e; exact ⟨_, rfl, r⟩
    | succ i => exact ih e
theorem PoolAt.put {H : Hp} {p q : Addr} {o : HO} (h : PoolAt H p) (n : p ≠ q) : PoolAt (upd H q o) p := by
  obtain ⟨a, b, e, r⟩ := h
  exact ⟨a, b, by rw [upd_ne n]; exact e, r⟩
theorem draw_R {i : Nat} {tb : TE} {σ : L2.St} {H : Hp} {Q : VK} {p : Addr} {n : Int} (hi : σ[i]? = some (some (.ref p))) (hb : ∀ R : VK, R (.int n) H → tb σ H R) (h : PoolAt H p) (n0 : 0 < n) (n1 : n < 1073741824)
    (k : ∀ r H', 0 ≤ r → r < n → PoolAt H' p → Off p H H' → Q (.int r) H') : tCallR spDraw E0 (tCons (tVar i) (tCons tb tNil)) σ H Q :=
  ⟨_, hi, hb _ (draw_of (E := E0) h n0 n1 fun r H' h1 h2 h3 h4 _ => k r H' h1 h2 h3 h4)⟩
theorem di_lenN {n : Int} {l : List (Int × Int)} {f : PF} (di : DI l f) (wf : WF n f) : l.length ≤ n.toNat := by
  have := len_range (l := l.map (·.1)) (n := n) di.nd fun x hx => by
    obtain ⟨⟨x', y'⟩, h1, rfl⟩ := List.mem_map.mp hx
    have := wf.dom x' y' (di.mem.mp h1)
    exact ⟨this.1, this.2.1⟩
  rwa [List.length_map] at this
end My
namespace My
open PySem L2 U StX PM
/-! ### a map as a text -/
def dI (l : List (Int × Int)) : PyData := flatD (kvI l) (l.map fun p => .int p.2)
theorem dI_eq (l : List (Int × Int)) : dI l = .dict (l.map fun p => (PyData.int p.1, PyData.int p.2)) := by
  unfold dI flatD kvI
  rw [List.map_map]
  congr 1
  induction l with
  | nil => rfl
  | cons p r ih =>
    rw [List.map_cons, List.map_cons, List.map_cons, List.zip_cons_cons, ih]
    rfl
theorem dI_sc : ∀ (l : List (Int × Int)), Paired (fun kv d => Sc kv.2 d) (kvI l) (l.map fun p => PyData.int p.2)
  | [] => .nil
  | p :: r => .cons (.int p.2) (dI_sc r)
def small (i : Int) : Prop := i.natAbs < 1000000000
theorem small_log {i : Int} (h : small i) : i.natAbs.log2 < 1920 := by
  unfold small at h
  by_cases h0 : i.natAbs = 0
  · rw [h0]; decide
  · rw [Nat.log2_lt h0]
    exact Nat.lt_of_lt_of_le h (by decide)
theorem small_len {i : Int} (h : small i) : (Str.ofString (toString i)).length ≤ 10 := by
  have := int_text_length_le10 (a := i) (k := 9) (by decide) h
  rw [ofString_length]
  omega
def rowT (p : Int × Int) : Str := PyData.shown (.int p.1) ++ ": " ++ PyData.shown (.int p.2)
theorem dI_shown (l : List (Int × Int)) : (dI l).shown = dictText (l.map rowT) := by
  rw [dI_eq]
  simp only [PyData.shown]
  congr 1
  induction l with
  | nil => rfl
  | cons p r ih =>
    rw [List.map_cons, List.map_cons]
    simp only [PyData.shownKv]
    rw [ih]
    rfl
theorem rowT_len {p : Int × Int} (h1 : small p.1) (h2 : small p.2) : (rowT p).length ≤ 22 := by
  have a := small_len h1
  have b := small_len h2
  unfold rowT
  simp only [PyData.shown]
  rw [strLen_append, strLen_append]
  show _ + 2 + _ ≤ 22
  omega
theorem sum_le {l : List Nat} {B : Nat} (h : ∀ x ∈ l, x ≤ B) : l.sum ≤ l.length * B := by
  induction l with
  | nil => exact Nat.zero_le _
  | cons a r ih =>
    rw [List.sum_cons, List.length_cons, Nat.succ_mul]
    have := ih fun x hx => h x (List.mem_cons_of_mem _ hx)
    have := h a List.mem_cons_self
    omega
theorem dI_len {l : List (Int × Int)} (h : ∀ p ∈ l, small p.1 ∧ small p.2) (hl : l.length ≤ 1000) : (dI l).shown.length ≤ 30000 := by
  rw [dI_shown]
  have h1 := dictText_len_le (l.map rowT)
  have h2 : ((l.map rowT).map (·.length)).sum ≤ ((l.map rowT).map (·.length)).length * 22 := sum_le fun x hx => by
    rw [List.map_map] at hx
    obtain ⟨p, hp, rfl⟩ := List.mem_map.mp hx
    exact rowT_len (h p hp).1 (h p hp).2
  rw [List.length_map, List.length_map] at h2
  rw [List.length_map] at h1
  omega
theorem dI_able {l : List (Int × Int)} (h : ∀ p ∈ l, small p.1 ∧ small p.2) : (dI l).showable = true := by
  rw [dI_eq]
  simp only [PyData.showable]
  induction l with
  | nil => rfl
  | cons p r ih =>
    rw [List.map_cons]
    simp only [PyData.showableKv, PyData.showable]
    have := h p List.mem_cons_self
    rw [ih fun q hq => h q (List.mem_cons_of_mem _ hq), decide_eq_true (small_log this.1), decide_eq_true (small_log this.2)]
    rfl
theorem dI_depth (l : List (Int × Int)) : (dI l).depth ≤ 60 := by
  rw [dI_eq]
  show PyData.depthKv (l.map fun p => (PyData.int p.1, PyData.int p.2)) + 1 ≤ 60
  have : PyData.depthKv (l.map fun p => (PyData.int p.1, PyData.int p.2)) = 0 := by
    induction l with
    | nil => rfl
    | cons p r ih =>
      rw [List.map_cons]
      show max (max 0 0) (PyData.depthKv (r.map fun p => (PyData.int p.1, PyData.int p.2))) = 0
      rw [ih]
      rfl
  omega
theorem tab_small {n : Int} {f : PF} (wf : WF n f) (h : n ≤ 300) : ∀ p ∈ tab n f, small p.1 ∧ small p.2 := by
  rintro ⟨x, y⟩ hp
  have := wf.dom x y ((mem_tab wf).mp hp)
  unfold small
  constructor <;> (dsimp only; omega)
section
variable {P : Program} {w : World} {K : PySem.W.Frag} {mg : Str → Option Value} {base : Heap}
/-! ### == with any value -/
def spEqV (C : Addr) : Sp := fun vs H Q _ => ∃ a y, vs = [.ref a, y] ∧ ((∃ b n f n' g, y = .ref b ∧ IsMap C H a n f ∧ IsMap C H b n' g ∧ Q (.bl (eqB n f n' g)) H) ∨ (nonMapV H y ∧ Q (.bl false) H))
theorem ok_eqV (T : Txt K mg) : FnR P w K mg base CX0 6 T.f_Map__eq (spEqV T.C_Map) := by
  refine T.A_Map__eq.ok sc_Map__eq (fun vs H Q E h => ?_) (fun cdv A outer s H vs Q E hr h => ?_)
  · obtain ⟨a, y, rfl, _⟩ := h
    rfl
  · obtain ⟨a, y, rfl, h⟩ := h
    have hu := hu_of hr
    refine ⟨_, pss_cons (ps_if (pt_not (pt_val (pe_callB call_isi (by rfl) T.n_isinstance (by decide +kernel) (pa_cons (pv 1) (pa_cons (pe_glob (v := .ref T.C_Map) rfl T.g_Map rfl) pa_nil))))) (pss_one (ps_ret pe_bl)) pss_nil)
      (pss_one (ps_ret (pe_and (pe_cmpR op_eq (pe_fld (pv 0) rfl) (pe_fld (pv 1) rfl) (nomark _)) (pe_one (pe_cmpR (op_eqDI (Nat.lt_of_succ_lt hu)) (pe_fld (pv 0) rfl) (pe_fld (pv 1) rfl) (nomark _)))))), ?_⟩
    rcases h with ⟨b, n, f, n', g, rfl, ha, hb, q⟩ | ⟨hy, q⟩
    · obtain ⟨dx, D, h1, h2⟩ := id ha.ob
      obtain ⟨dy, D', h3, h4⟩ := id hb.ob
      refine ⟨_, rfl, _, _, _, _, true, rfl, .own _, tyx_ins T.o_Map h3, T.self_Map, _, rfl, iteF ?_⟩
      refine ⟨_, rfl, a, _, dx, _, _, rfl, h1, T.o_Map.cl, T.na_own_size_Map, flds_size _ _, _, rfl, b, _, dy, _, _, rfl, h3, T.o_Map.cl, T.na_own_size_Map, flds_size _ _, rfl, _, rfl, ?_⟩
      have e0 : decide (V.int n = V.int n') = decide (n = n') := by
        by_cases h : n = n'
        · subst h; simp
        · have : ¬ V.int n = V.int n' := fun z => h (V.int.inj z)
          simp [h]
      rw [e0]
      unfold eqB at q
      refine ifD (fun hn => ?_) (fun hn => ?_)
      · refine ⟨_, rfl, a, _, dx, _, _, rfl, h1, T.o_Map.cl, T.na_own_arrows_Map, flds_arrows _ _, _, rfl, b, _, dy, _, _, rfl, h3, T.o_Map.cl, T.na_own_arrows_Map, flds_arrows _ _, D, D', _, _, rfl, rfl, h2, h4, intVals_kvI _, intVals_kvI _, ?_⟩
        rw [decide_eq_true hn, Bool.true_and] at q
        exact q
      · rw [decide_eq_false hn, Bool.false_and] at q
        exact q
    · obtain ⟨t, ht, hk⟩ := ty_nonmap T hy
      exact ⟨_, rfl, _, _, _, _, false, rfl, .own _, ht, hk, _, rfl, iteT q⟩
end
end My
namespace My
open PySem L2 U StX PM
theorem nonMapV.same {H H' : Hp} {x : V} (h : nonMapV H x) (s : L2.Same H H') : nonMapV H' x := by
  cases x with
  | ref b =>
    rcases h with ⟨xs, e⟩ | ⟨xs, e⟩ | ⟨xs, e⟩
    · exact .inl ⟨_, s _ _ e⟩
    · exact .inr (.inl ⟨_, s _ _ e⟩)
    · exact .inr (.inr ⟨_, s _ _ e⟩)
  | _ => exact h
end My
namespace My
open PySem L2 U StX PM
/-! ### dict([(a, b) for x, y in d.items() if ..]) -/
theorem _root_.PySem.Paired.map {α β : Type} {R S : α → β → Prop} : ∀ {xs : List α} {ys : List β}, Paired R xs ys → (∀ x ∈ xs, ∀ y, R x y → S x y) → Paired S xs ys
  | _, _, .nil, _ => .nil
  | _, _, .cons h r, k => .cons (k _ List.mem_cons_self _ h) (PySem.Paired.map r fun x hx => k x (List.mem_cons_of_mem _ hx))
theorem dict_of {m : List (Int × Int)} {g : PF} (di : DI m g) : ∃ l, mergeK [] (kvI m) = kvI l ∧ l.length ≤ m.length ∧ DI l g := by
  obtain ⟨l', e', n', d', k'⟩ := merge_lk m [] di.nd
  refine ⟨l', e', by simpa using n', d' (by simp), fun z => ?_⟩
  rw [k', ← di.at_]
  cases lk m z <;> rfl
end My
namespace My
open PySem L2 U StX PM
/-- a part of a map by its pairs -/
theorem di_sub {l m : List (Int × Int)} {f : PF} (di : DI l f) (hs : m.Sublist l) : DI m (lk m) := by
  have : (m.map (·.1)).Nodup := (hs.map _).nodup di.nd
  exact ⟨this, fun _ => rfl⟩
theorem wf_sub {n : Int} {l m : List (Int × Int)} {f : PF} (di : DI l f) (wf : WF n f) (hs : m.Sublist l) : WF n (lk m) := by
  have key : ∀ x y, lk m x = some y → f x = some y := fun x y h => di.mem.mp (hs.subset (lk_mem h))
  exact ⟨fun x y h => wf.dom x y (key x y h), fun x x' y h h' => wf.inj x x' y (key _ _ h) (key _ _ h')⟩
end My
namespace My
open PySem L2 U StX PM
/-- [x for x in range(n) if ..] -/
theorem lc_rangeF {wi : TI} {i : Nat} {tt : TT} {tv : TE} {vs : List Nat} {σ : L2.St} {H0 H : Hp} {Q : VK} {n : Nat} (c : Int → Bool) (hwi : ∀ R : It → Hp → Prop, R (Itr 0 n) H → wi σ H0 R)
    (hw : ∀ a, wipe ((wipe σ vs).set i a) vs = wipe σ vs) (hn : n < sizeLine)
    (hb : ∀ k : Nat, k < n → ∀ H1, L2.Same H H1 → (∀ R : Bool → Hp → Prop, R (c (k : Int)) H1 → tt ((wipe σ vs).set i (some (.int (0 + (k : Nat))))) H1 R) ∧ ∀ R : VK, R (.int (0 + (k : Nat))) H1 → tv ((wipe σ vs).set i (some (.int (0 + (k : Nat))))) H1 R)
    (hq : ∀ (D : Addr) (H' : Hp), H D = none → H' D = some (.lst ((((List.range n).filter fun (k : Nat) => c (k : Int)).map fun (k : Nat) => (k : Int)).map V.int)) → L2.Same H H' → Q (.ref D) H') :
    tLc wi (gName i) tt tv vs σ H0 Q := by
  refine hwi _ fun D hD => ?_
  refine lc_it (walk_range (lo := 0)) (fun k H' => L2.Same H H' ∧ H' D = some (.lst ((((List.range k).filter fun (k : Nat) => c (k : Int)).map fun (k : Nat) => (k : Int)).map V.int)))
    ⟨Same.new hD, upd_same⟩ (fun _ _ _ _ => trivial) ?_ ?_
  · rintro k v H' H'' hk ⟨s1, e1⟩ ⟨rfl, rfl⟩
    refine ⟨hw _, ?_⟩
    obtain ⟨b1, b2⟩ := hb k hk _ s1
    refine b1 _ ?_
    have st : (((List.range (k + 1)).filter fun (k : Nat) => c (k : Int)).map fun (k : Nat) => (k : Int)) = (((List.range k).filter fun (k : Nat) => c (k : Int)).map fun (k : Nat) => (k : Int)) ++ (if c (k : Int) = true then [(k : Int)] else []) := by
      rw [List.range_succ, List.filter_append, List.map_append]
      by_cases h : c (k : Int) = true
      · simp [h]
      · have h' : c (k : Int) = false := by simpa using h
        simp [h']
    cases hc : c (k : Int) with
    | true =>
      refine iteT (b2 _ ⟨_, e1, ?_, Same.put s1 hD, ?_⟩)
      · rw [List.length_map, List.length_map]
        exact Nat.lt_of_le_of_lt (Nat.le_trans (List.length_filter_le _ _) (by rw [List.length_range]; omega)) hn
      · rw [upd_same, st, if_pos hc, List.map_append, Int.zero_add]
        rfl
    | false =>
      refine iteF ⟨s1, ?_⟩
      rw [st, hc, if_neg Bool.false_ne_true, List.append_nil]
      exact e1
  · rintro H' ⟨s1, e1⟩
    exact hq D H' hD e1 s1
theorem for_lst {K : PySem.W.Frag} {te : TE} {g : TG} {tb : TS} {D : Ends} {σ : L2.St} {H : Hp} (h : te σ H fun x H1 => ∃ a, x = V.ref a ∧ (∃ xs, SqL K H1 a xs) ∧ ∃ W : Nat → Nat → L2.St → Hp → Prop, (∃ m, W 0 m σ H1) ∧ ∀ i m σ H, W i m σ H →
    ((Itl K a).stop i H ∧ D.nx σ H) ∨ ((Itl K a).go i H ∧ ∃ N : L2.St → Hp → Prop, (∀ σ' H', N σ' H' → ∃ m', m' < m ∧ W (i + 1) m' σ' H') ∧ ∀ x H', (Itl K a).yld i H x H' → g x σ H' fun σ2 H2 => tb { D with nx := N, ct := N, bk := D.nx } σ2 H2)) : tFor (iList K te) g tb D σ H := h
section
variable {P : Program} {w : World} {K : PySem.W.Frag} {mg : Str → Option Value} {base : Heap}
theorem dget_l {H : Hp} {d : Addr} {l : List (Int × Int)} {f : PF} (h : H d = some (.dK (kvI l))) (di : DI l f) (i : Int) : DGet H d (.int i) ((f i).map V.int) := by
  have := DGet.k (k := Sum.inl i) h
  rw [valV_kvI, di.at_] at this
  exact this
end
end My
local macro_rules | `(tactic| array_get_dec) => `(tactic| first | assumption | exact L2.upd_same | (refine U.carryNew (by assumption) ?_; array_get_dec) | (refine U.carry (by assumption) ?_; array_get_dec))
local macro_rules | `(tactic| array_mem_dec) => `(tactic| first | exact L2.Same.refl _ | assumption | (refine U.sameUp (by assumption) ?_; array_mem_dec) | (refine U.sameVia (by assumption) ?_; array_mem_dec))
local macro_rules | `(tactic| sizeOf_list_dec) => `(tactic| first | assumption | (refine U.freeVia (by assumption) ?_; sizeOf_list_dec) | (refine U.freeUp (o := _) (q := _) ?_; assumption))
local macro_rules | `(tactic| deriving_LawfulEq_tactic_step) => `(tactic| first | exact rfl | exact U.nil_le | exact U.one_le | exact U.two_le | exact U.three_le | exact L2.SqL.of (by array_get_dec) | exact L2.SqT.of (by array_get_dec) | exact ⟨_, L2.SqL.of (by array_get_dec)⟩ | exact ⟨_, L2.SqT.of (by array_get_dec)⟩ | exact Or.inl (by array_get_dec) | array_get_dec)
local macro_rules | `(tactic| and_intros) => `(tactic| repeat (first | refine And.intro (by deriving_LawfulEq_tactic_step) ?_ | (apply Exists.intro; refine And.intro (by deriving_LawfulEq_tactic_step) ?_) | (apply Exists.intro; apply Exists.intro; refine And.intro (by deriving_LawfulEq_tactic_step) ?_) | (apply Exists.intro; apply Exists.intro; apply Exists.intro; refine And.intro (by deriving_LawfulEq_tactic_step) ?_) | (apply Exists.intro; apply Exists.intro; apply Exists.intro; apply Exists.intro; refine And.intro (by deriving_LawfulEq_tactic_step) ?_)))
namespace My
open PySem L2 U StX PM
/-! ### several maps -/
def MapsAt (C : Addr) (H : Hp) (n : Int) (xs : List V) (fs : List PF) : Prop := Paired (fun v f => ∃ a, v = V.ref a ∧ IsMap C H a n f) xs fs
theorem MapsAt.same {C : Addr} {H H' : Hp} {n : Int} {xs : List V} {fs : List PF} (h : MapsAt C H n xs fs) (s : Same H H') : MapsAt C H' n xs fs := PySem.Paired.map h fun v _ f ⟨a, e, m⟩ => ⟨a, e, m.same s⟩
theorem MapsAt.get {C : Addr} {H : Hp} {n : Int} {xs : List V} {fs : List PF} (h : MapsAt C H n xs fs) {i : Nat} {v : V} (e : xs[i]? = some v) : ∃ a f, v = .ref a ∧ fs[i]? = some f ∧ IsMap C H a n f := by
  obtain ⟨f, e2, a, e3, m⟩ := paired_at h e
  exact ⟨a, f, e3, e2, m⟩
end My
namespace My
open PySem L2 U StX PM
section
variable {P : Program} {w : World} {K : PySem.W.Frag} {mg : Str → Option Value} {base : Heap}
theorem rd_get {H : Hp} {d : Addr} {l : List (Int × Int)} {f : PF} (h : Rd H d (.dK (kvI l))) (di : DI l f) (i : Int) : DGet H d (.int i) ((f i).map V.int) := by
  have : DGet H d (.int i) _ := .inl ⟨_, Sum.inl i, h, rfl, rfl⟩
  rw [valV_kvI, di.at_] at this
  exact this
/-- the law's draw of a map, rare or not -/
def spDrw2 : Sp := fun vs H Q _ => ∃ (p : Addr) (n : Int), vs = [.ref p, .int n] ∧ PoolAt H p ∧ 1 ≤ n ∧ n ≤ 300 ∧
  ∀ r H' l, H r = none → H' r = some (.dK (kvI l)) → DI l (lk l) → WF n (lk l) → l.length ≤ 1000 → PoolAt H' p → Off p H H' → Q (.ref r) H'
theorem ok_l_arrR (T : Txt K mg) : FnR P w K mg base CX0 2 T.f_l_arrows spDrw2 := by
  refine T.A_l_arrows.ok sc_l_arrows (fun vs H Q E h => ?_) (fun cdv A outer s H vs Q E hr h => ?_)
  · obtain ⟨p, n, rfl, _⟩ := h
    rfl
  · obtain ⟨p, n, rfl, pool, h1, h3, q⟩ := h
    have hu := hu_of hr
    refine ⟨_, (pss_cons (ps_par3 (i := 2) (j := 3) (l := 4) rfl sc_l_arrows.nd rfl rfl rfl (by decide) (by decide) (by decide) rfl rfl rfl (pa_cons (pe_listRg rfl rfl T.n_list (prg_1 rfl T.n_range (pv 1))) (pa_cons pe_dnewK (pa_cons (pe_op op_add pe_int (pe_callR (ok_draw T) (hr.mono (by decide)) T.A_l_draw.kp rfl T.g_l_draw pass0 (pa_cons (pv 0) (pa_cons pe_int pa_nil)))) pa_nil))) (by rfl))
      (pss_cons (ps_for PassesOwn.never rfl (pi_range1 rfl T.n_range (pa_cons (pv 1) pa_nil)) (pg_name (i := 5) sc_l_arrows.nd rfl (Or.inl rfl))
        (pss_one (ps_if (PW.pt (pw_or (pt_cmpR op_gt (pe_callR (ok_draw T) (hr.mono (by decide)) T.A_l_draw.kp rfl T.g_l_draw pass0 (pa_cons (pv 0) (pa_cons (pv 4) pa_nil))) pe_int (nomark _)) (pw_or1 (pt_cmpR op_eq (pv 4) pe_int (nomark _)))))
        (pss_one (ps_dput hu (pv 3) (pv 5) (pe_bm PySem.F.plainAttrs_list PySem.F.slot_list_pop PySem.F.type_list_pop mt_popAt (pv 2) (pa_cons (pe_callR (ok_draw T) (hr.mono (by decide)) T.A_l_draw.kp rfl T.g_l_draw pass0 (pa_cons (pv 0) (pa_cons (pe_callB call_len_seq (by rfl) T.n_len (by decide +kernel) (pa_cons (pv 2) pa_nil)) pa_nil))) pa_nil)) rfl)) pss_nil)))
      (pss_one (ps_ret (pv 3))))), ?_⟩
    refine ⟨_, rfl, n, rfl, RgOk.of_le (by decide) (by omega) (by decide) (by omega), fun lf hlf => ?_⟩
    intro fo hfo
    have lf0 : H lf = none := hlf
    have fo0 : H fo = none := (Same.new hlf).free hfo
    have npl : p ≠ lf := pool.ne lf0
    have npf : p ≠ fo := pool.ne fo0
    have nlf : lf ≠ fo := ne_of_none upd_same hfo
    refine draw_R rfl (fun R r => r) ((pool.put npl).put npf) (by decide) (by decide) fun w5 H1 w0 w1 pool1 off1 => ⟨_, _, rfl, rfl, ?_⟩
    refine ⟨_, _, _, rfl, ?_⟩
    have lf1 : H1 lf = some (.lst (((List.range n.toNat).map fun (i : Nat) => (i : Int)).map V.int)) := by
      rw [← rg0]
      exact off1 _ _ npl.symm (carryNew hfo upd_same)
    have fo1 : H1 fo = some (.dK (kvI [])) := off1 _ _ npf.symm upd_same
    have offH : Off p H H1 := ((Off.new hlf).tr (Off.new hfo)).tr off1
    refine ⟨_, rfl, n, rfl, by omega, by omega, ?_⟩
    refine for_it (walk_range (lo := 0) (n := n.toNat)) (fun i σ H' => ∃ v5 l ns, σ = [some (.ref p), some (.int n), some (.ref lf), some (.ref fo), some (.int (1 + w5)), v5] ∧ PoolAt H' p ∧ Off p H H' ∧ H' lf = some (.lst (ns.map V.int)) ∧ H' fo = some (.dK (kvI l)) ∧ Drw n i l ns)
      ⟨none, [], _, rfl, pool1, offH, lf1, fo1, drw0 n⟩ (fun _ _ _ _ _ => trivial) ?_ ?_
    · rintro i v σ Ha0 Ha hi ⟨v5, l, ns, rfl, poola, offa, lfa, foa, drw⟩ ⟨rfl, rfl⟩
      refine draw_R rfl (fun R r => ⟨_, rfl, r⟩) poola (by omega) (by omega) fun r2 H2 r20 r21 pool2 off2 => ⟨_, _, rfl, rfl, _, rfl, ?_⟩
      have lf2 := off2 _ _ npl.symm lfa
      have fo2 := off2 _ _ npf.symm foa
      have o2 := offa.tr off2
      have hlen := drw.le
      have hln := drw.ln
      refine ifD (fun h => iteT ?_) (fun h => ⟨_, rfl, rfl, _, rfl, ifD (fun h' => ?_) (fun h' => ?_)⟩)
      rotate_left 2
      · exact ⟨_, l, ns, rfl, pool2, o2, lf2, fo2, drw.more⟩
      all_goals
        refine ⟨_, rfl, .inl ⟨rfl, _, SqL.of lf2⟩, ?_⟩
        refine draw_R (n := (ns.length : Int)) rfl (fun R r => ⟨_, rfl, lf, _, rfl, .inl (SqL.of lf2), by rw [List.length_map]; exact r⟩) pool2 (by omega) (by omega) fun r4 H4 r40 r41 pool4 off4 => ?_
        obtain ⟨y, ey⟩ : ∃ y, ns[r4.toNat]? = some y := ⟨_, List.getElem?_eq_getElem (by omega)⟩
        obtain ⟨d1, d2⟩ := drw.put ey
        have lf4 := off4 _ _ npl.symm lf2
        have fo4 := off4 _ _ npf.symm fo2
        refine ⟨lf, _, r4, r4.toNat, .int y, rfl, rfl, lf4, by omega, by omega, ?_, get_map ey, ?_⟩
        · rw [List.length_map]
          exact PySem.seqIndex_of r40 (by omega)
        refine ⟨_, rfl, _, rfl, fo, _, rfl, DPut.k (k := Sum.inl (0 + (i : Nat) : Int)) (kvs := kvI l) (by rw [upd_ne nlf.symm]; exact fo4) (small1000 (by rw [kvI_length]; omega)), ?_⟩
        rw [Int.zero_add, putK_kvI d2]
        refine ⟨_, _, ns.eraseIdx r4.toNat, rfl, (pool4.put npl).put npf, ?_, ?_, upd_same, d1⟩
        · exact Off.put (Off.put (o2.tr off4) lf0) fo0
        · rw [upd_ne nlf, upd_same]
          congr 2
          apply List.ext_getElem?
          intro m
          simp [List.getElem?_eraseIdx]
          split <;> rfl
    · rintro σ Ha ⟨v5, l, ns, rfl, p1, p2, p3, p4, p5⟩
      have := p5.ln
      exact ⟨_, rfl, q fo Ha l fo0 p4 ⟨p5.kn, fun _ => rfl⟩ (p5.wf (by omega)) (by omega) p1 p2⟩
end
end My
set_option maxHeartbeats 1000000
namespace My
open PySem L2 U StX PM
/-! ### values that are no arrows -/
theorem fnR_or {P : Program} {w : World} {K : PySem.W.Frag} {mg : Str → Option Value} {base : Heap} {CX : CXT} {k : Nat} {f : Addr} {sp1 sp2 : Sp} (F1 : FnR P w K mg base CX k f sp1) (F2 : FnR P w K mg base CX k f sp2) : FnR P w K mg base CX k f (fun vs H Q E => sp1 vs H Q E ∨ sp2 vs H Q E) := fun A outer s H us vs Q E hr e0 r h => h.elim (fun h => F1 A outer s H us vs Q E hr e0 r h) (fun h => F2 A outer s H us vs Q E hr e0 r h)
/-- a scalar or a tuple -/
def okV (H : Hp) : V → Prop
  | .non => True | .bl _ => True | .int _ => True | .str _ => True
  | .ref b => ∃ xs, H b = some (.tup xs)
  | _ => False
theorem okV.known {C : Addr} {H : Hp} {v : V} (h : okV H v) : knownV C H v := by
  cases v <;> first | exact h | exact .inr (.inl h) | exact h.elim
theorem okV.off {d : Addr} {H H' : Hp} {v : V} {o : HO} (h : okV H v) (f : Off d H H') (hd : H d = some o) (no : ∀ xs, o ≠ .tup xs) : okV H' v := by
  cases v <;> first | exact h | exact h.elim | skip
  obtain ⟨xs, e⟩ := h
  exact ⟨xs, f _ _ (fun z => by rw [z, hd] at e; exact no _ (Option.some.inj e)) e⟩
theorem okV.same {H H' : Hp} {v : V} (h : okV H v) (s : Same H H') : okV H' v := by
  cases v <;> first | exact h | exact h.elim | skip
  obtain ⟨xs, e⟩ := h
  exact ⟨xs, s _ _ e⟩
theorem kV_known {C : Addr} {H : Hp} (k : Key) : knownV C H (kV k) := by cases k <;> exact trivial
def badR (n : Int) (kv : Key × V) : Prop := inR (kV kv.1) 0 (n - 1) = false ∨ inR kv.2 0 (n - 1) = false
/-- a dict with a row that is none of arrows, and only good ones before it -/
def BadK (H : Hp) (n : Int) (kvs : List (Key × V)) : Prop := ∃ l kv post, kvs = kvI l ++ kv :: post ∧ okArr n l = true ∧ badR n kv ∧ okV H kv.2 ∧ kvs.length ≤ 1000
/-- a value that is no dict -/
def nonDi (H : Hp) : V → Prop
  | .non => True | .int _ => True | .str _ => True
  | .ref b => (∃ xs, H b = some (.lst xs)) ∨ ∃ xs, H b = some (.tup xs)
  | _ => False
def spAr2 : Sp := fun vs H Q _ => ∃ (n : Int) (x : V), vs = [.int n, x] ∧ ((∃ d kvs, x = .ref d ∧ H d = some (.dK kvs) ∧ BadK H n kvs) ∨ nonDi H x) ∧ ∀ H', Same H H' → Q (.bl false) H'
section
variable {P : Program} {w : World} {K : PySem.W.Frag} {mg : Str → Option Value} {base : Heap}
set_option pp.maxSteps 3000 in
theorem ok_ar2 (T : Txt K mg) : FnR P w K mg base CX0 3 T.f_are_arrows spAr2 := by
  refine T.A_are_arrows.ok sc_are_arrows (fun vs H Q E h => ?_) (fun cdv A outer s H vs Q E hr h => ?_)
  · obtain ⟨n, x, rfl, _⟩ := h
    rfl
  · obtain ⟨n, x, rfl, hx, q⟩ := h
    have hu := hu_of hr
    refine ⟨_, (pss_cons (ps_if (pt_not (pt_val (pe_callB call_isi (by rfl) T.n_isinstance (by decide +kernel) (pa_cons (pv 1) (pa_cons (pe_bltn (v := .ty "dict") (u := .type "dict") (by rfl) T.n_dict (by decide +kernel) rfl) pa_nil)))))
        (pss_one (ps_ret pe_bl)) pss_nil)
      (pss_cons (ps_set (i := 2) sc_are_arrows.nd rfl (Or.inl rfl) pe_dnewK)
      (pss_cons (ps_lock (ps_for PassesOwn.never rfl (pi_items (pv 1)) (pg_tup rfl (pgs_cons (pg_name (i := 3) sc_are_arrows.nd rfl (Or.inl rfl)) (pgs_cons (pg_name (i := 4) sc_are_arrows.nd rfl (Or.inl rfl)) pgs_nil)))
        (pss_cons (ps_if (PW.pt (pw_or (pt_not (pt_val (pe_callR (ok_in_range T) (hr.mono (by decide)) T.A_in_range.kp rfl T.g_in_range pass0 (pa_cons (pv 3) (pa_cons pe_int (pa_cons (pe_op op_sub (pv 0) pe_int) pa_nil)))))) (pw_or (pt_not (pt_val (pe_callR (ok_in_range T) (hr.mono (by decide)) T.A_in_range.kp rfl T.g_in_range pass0 (pa_cons (pv 4) (pa_cons pe_int (pa_cons (pe_op op_sub (pv 0) pe_int) pa_nil)))))) (pw_or1 (pt_cmp (pc_din hu (pv 4) (pv 2)))))))
        (pss_one (ps_ret pe_bl)) pss_nil)
      (pss_one (ps_dput hu (pv 2) (pv 4) pe_bl rfl)))))
      (pss_one (ps_ret pe_bl))))), ?_⟩
    rcases hx with ⟨d, kvs, rfl, hd, l, kv, post, ek, hok, hbad, hkv, hlen⟩ | hx
    · refine ⟨_, rfl, _, _, _, _, true, rfl, .ty _, .base (.dK hd), kit_ty (by decide +kernel), _, rfl, iteF ?_⟩
      intro t ht
      have ntd : t ≠ d := fun e => by rw [e, hd] at ht; cases ht
      have hd1 : (upd H t (.dK [])) d = some (.dK kvs) := by rw [upd_ne ntd.symm]; exact hd
      have hll : l.length < kvs.length := by rw [ek, List.length_append, kvI_length, List.length_cons]; omega
      refine ⟨d, _, hd1, trivial, fun od => ?_⟩
      refine ⟨_, rfl, d, od, kvs, rfl, upd_same, ?_⟩
      refine for_it walk_items (fun i σ H' => ∃ v3 v4, σ = [some (.int n), some (.ref d), some (.ref t), v3, v4] ∧ H' d = some (.frz od (.dK kvs)) ∧ Off d H H' ∧ H' t = some (.dK (tgt (l.take i))) ∧ i ≤ l.length)
        ⟨none, none, rfl, upd_same, (Off.new ht).tr Off.lock, (by rw [upd_ne ntd]; exact upd_same), Nat.zero_le _⟩ (fun i σ H' _ ⟨_, _, _, p, _⟩ => p) ?_ ?_
      · rintro i v σ H' H'' hi ⟨v3, v4, rfl, p1, p2, p3, p4⟩ ⟨U, a, b, rfl, hU, rfl, e1, e2⟩
        dsimp only at e1 e2
        have nUd : d ≠ U := ne_of_none p1 hU
        have nUt : t ≠ U := ne_of_none p3 hU
        have tkA : okArr n (l.take i) = true := by
          cases e : okArr n (l.take i) with
          | true => rfl
          | false => rw [okArr_cut e] at hok; cases hok
        by_cases hil : i < l.length
        · obtain ⟨⟨x, y⟩, exy⟩ : ∃ p, l[i]? = some p := ⟨_, List.getElem?_eq_getElem hil⟩
          have ek2 : kvs[i]? = some (Sum.inl x, V.int y) := by
            rw [ek, List.getElem?_append_left (by rw [kvI_length]; exact hil)]
            unfold kvI
            rw [List.getElem?_map, exy]
            rfl
          rw [ek2] at e1 e2
          cases e1; cases e2
          have d3 : (upd H' U (.tup [kV (Sum.inl x), .int y])) d = some (.frz od (.dK kvs)) := by rw [upd_ne nUd]; exact p1
          have t3 : (upd H' U (.tup [kV (Sum.inl x), .int y])) t = some (.dK (tgt (l.take i))) := by rw [upd_ne nUt]; exact p3
          have o3 : Off d H (upd H' U (.tup [kV (Sum.inl x), .int y])) := p2.tr (Off.new hU)
          have good : (rowOk n (x, y) && !decide (y ∈ (l.take i).map (·.2))) = true := by
            cases e : (rowOk n (x, y) && !decide (y ∈ (l.take i).map (·.2))) with
            | true => rfl
            | false =>
              have h1 := okArr_step (n := n) exy
              rw [tkA, e] at h1
              rw [okArr_cut h1] at hok
              cases hok
          unfold rowOk at good
          rw [Bool.and_eq_true, Bool.and_eq_true] at good
          refine ⟨U, [.int x, .int y], rfl, SqT.of upd_same, rfl, .int x, [.int y], rfl, .int y, [], rfl, rfl, ?_⟩
          refine ⟨_, rfl, _, rfl, _, _, rfl, rfl, .int x, 0, n - 1, rfl, trivial, _, rfl, ?_⟩
          rw [good.1.1]
          refine iteF ?_
          refine ⟨_, rfl, _, rfl, _, _, rfl, rfl, .int y, 0, n - 1, rfl, trivial, _, rfl, ?_⟩
          rw [good.1.2]
          refine iteF ?_
          refine ⟨_, rfl, _, rfl, t, _, rfl, DGet.k (k := Sum.inl y) t3, _, rfl, ?_⟩
          rw [tgt_val]
          have hm : ¬ y ∈ (l.take i).map (·.2) := by simpa using good.2
          rw [decide_eq_false hm]
          refine iteF ?_
          have hlen2 : (tgt (l.take i)).length ≤ 1000 := by unfold tgt; rw [List.length_map, List.length_take]; omega
          refine ⟨_, rfl, _, rfl, t, _, rfl, DPut.k (k := Sum.inl y) t3 (small1000 hlen2), ?_⟩
          refine ⟨_, _, rfl, ?_, o3.mut ht, ?_, by omega⟩
          · rw [upd_ne ntd.symm]; exact d3
          · rw [upd_same, putK_new _ (valV_none fun z => hm (tgt_key.mp z)), take_more exy]
            unfold tgt
            rw [List.map_append]
            rfl
        · have hie : i = l.length := by omega
          have ek2 : kvs[i]? = some kv := by
            rw [ek, List.getElem?_append_right (by rw [kvI_length]; omega), kvI_length, hie, Nat.sub_self]
            rfl
          rw [ek2] at e1 e2
          cases e1; cases e2
          have d3 : (upd H' U (.tup [kV kv.1, kv.2])) d = some (.frz od (.dK kvs)) := by rw [upd_ne nUd]; exact p1
          have o3 : Off d H (upd H' U (.tup [kV kv.1, kv.2])) := p2.tr (Off.new hU)
          have hkn : okV (upd H' U (.tup [kV kv.1, kv.2])) kv.2 := hkv.off o3 hd (fun _ z => by cases z)
          have fin : Q (.bl false) (upd (upd H' U (.tup [kV kv.1, kv.2])) d (.dK kvs)) := q _ (o3.back hd)
          refine ⟨U, [kV kv.1, kv.2], rfl, SqT.of upd_same, rfl, kV kv.1, [kv.2], rfl, kv.2, [], rfl, rfl, ?_⟩
          refine ⟨_, rfl, _, rfl, _, _, rfl, rfl, kV kv.1, 0, n - 1, rfl, kV_known _, _, rfl, ?_⟩
          refine ifNB (fun hc => iteT ⟨d3, fin⟩) (fun hc => ?_)
          refine ⟨_, rfl, _, rfl, _, _, rfl, rfl, kv.2, 0, n - 1, rfl, hkn.known, _, rfl, ?_⟩
          refine ifNB (fun hc2 => iteT ⟨d3, fin⟩) (fun hc2 => ?_)
          rcases hbad with h | h
          · rw [hc] at h; cases h
          · rw [hc2] at h; cases h
      · rintro σ H' ⟨v3, v4, rfl, p1, p2, p3, p4⟩
        omega
    · cases x with
      | non => exact ⟨_, rfl, _, _, _, _, false, rfl, .ty _, .base .non, kit_ty (by decide +kernel), _, rfl, iteT (q H (Same.refl H))⟩
      | int i => exact ⟨_, rfl, _, _, _, _, false, rfl, .ty _, .base (.int i), kit_ty (by decide +kernel), _, rfl, iteT (q H (Same.refl H))⟩
      | str z => exact ⟨_, rfl, _, _, _, _, false, rfl, .ty _, .base (.str z), kit_ty (by decide +kernel), _, rfl, iteT (q H (Same.refl H))⟩
      | ref b =>
        rcases hx with ⟨xs, e⟩ | ⟨xs, e⟩
        · exact ⟨_, rfl, _, _, _, _, false, rfl, .ty _, .base (.lst e), kit_ty (by decide +kernel), _, rfl, iteT (q H (Same.refl H))⟩
        · exact ⟨_, rfl, _, _, _, _, false, rfl, .ty _, .base (.tup e), kit_ty (by decide +kernel), _, rfl, iteT (q H (Same.refl H))⟩
      | _ => exact hx.elim
end
end My
set_option maxHeartbeats 1000000
namespace My
open PySem L2 U StX PM
/-! ### lists or tuples -/
theorem pi_or2 {X : Cx} {tg e : Expr} {w1 w2 : TI} (h1 : PI X tg e w1) (h2 : PI X tg e w2) : PI X tg e (fun σ H R => w1 σ H R ∨ w2 σ H R) :=
  ⟨fun pins s σ H R I h => h.elim (h1.run pins s σ H R I) (h2.run pins s σ H R I)⟩
def iSq (K : PySem.W.Frag) (te : TE) : TI := fun σ H R => iList K te σ H R ∨ iTup K te σ H R
theorem pi_sq {X : Cx} {tg e : Expr} {te : TE} (he : PE X e te) : PI X tg e (iSq X.K te) := pi_or2 (pi_list he) (pi_tup he)
inductive SeqOf (K : PySem.W.Frag) (H : Hp) (a : Addr) : List V → Prop
  | lst {xs : List V} (e : H a = some (.lst xs)) : SeqOf K H a xs
  | tup {xs : List V} (e : H a = some (.tup xs)) : SeqOf K H a xs
  | kt (e : ∃ d n s, K.lookup a = some ⟨.type "tuple", d, .seq #[] n, s⟩) : SeqOf K H a []
theorem SeqOf.same {K : PySem.W.Frag} {H H' : Hp} {a : Addr} {xs : List V} (h : SeqOf K H a xs) (s : Same H H') : SeqOf K H' a xs := by
  cases h with
  | lst e => exact .lst (s _ _ e)
  | tup e => exact .tup (s _ _ e)
  | kt e => exact .kt e
theorem sqT_kt {K : PySem.W.Frag} {H : Hp} {a : Addr} (e : ∃ d n s, K.lookup a = some ⟨.type "tuple", d, .seq #[] n, s⟩) : SqT K H a [] := by
  obtain ⟨d, n, s, e⟩ := e
  exact .inr ⟨_, #[], n, e, rfl, rfl, Nat.zero_le _, .nil⟩
theorem SeqOf.sq {K : PySem.W.Frag} {H : Hp} {a : Addr} {xs : List V} (h : SeqOf K H a xs) : SqL K H a xs ∨ SqT K H a xs := by
  cases h with
  | lst e => exact .inl (SqL.of e)
  | tup e => exact .inr (SqT.of e)
  | kt e => exact .inr (sqT_kt e)
theorem SeqOf.ty {K : PySem.W.Frag} {H : Hp} {a : Addr} {xs : List V} (h : SeqOf K H a xs) : ∃ t, TyX K H (.ref a) t ∧ PySem.W.kitAny K t [.type "list", .type "tuple"] = some true := by
  have tp : PySem.W.kitAny K (.type "tuple") [.type "list", .type "tuple"] = some true := kitAny_cons (kit_ty (show kitB "tuple" "list" = some false from rfl)) (fun _ => kitAny_cons (kit_ty (show kitB "tuple" "tuple" = some true from rfl)) (fun z => nomatch z) fun _ => rfl) fun z => nomatch z
  cases h with
  | lst e => exact ⟨_, .base (.lst e), kitAny_cons (kit_ty (show kitB "list" "list" = some true from rfl)) (fun z => nomatch z) fun _ => rfl⟩
  | tup e => exact ⟨_, .base (.tup e), tp⟩
  | kt e =>
    obtain ⟨d, n, s, e⟩ := e
    exact ⟨_, .kTuple e rfl, tp⟩
def nonSq (H : Hp) : V → Prop
  | .non => True | .int _ => True | .str _ => True
  | .ref a => ∃ kvs, H a = some (.dK kvs)
  | _ => False
theorem nonSq.same {H H' : Hp} {x : V} (h : nonSq H x) (s : Same H H') : nonSq H' x := by
  cases x <;> first | exact h | exact h.elim | skip
  obtain ⟨xs, e⟩ := h
  exact ⟨_, s _ _ e⟩
theorem nonSq_ty {K : PySem.W.Frag} {H : Hp} {x : V} (h : nonSq H x) : ∃ t, TyX K H x t ∧ PySem.W.kitAny K t [.type "list", .type "tuple"] = some false := by
  have go : ∀ {a : String}, kitB a "list" = some false → kitB a "tuple" = some false → PySem.W.kitAny K (.type a) [.type "list", .type "tuple"] = some false := fun h1 h2 =>
    kitAny_cons (kit_ty h1) (fun _ => kitAny_cons (kit_ty h2) (fun _ => kitAny_nil) fun z => nomatch z) fun z => nomatch z
  cases x with
  | non => exact ⟨_, .base .non, go rfl rfl⟩
  | int i => exact ⟨_, .base (.int i), go rfl rfl⟩
  | str z => exact ⟨_, .base (.str z), go rfl rfl⟩
  | ref a =>
    obtain ⟨xs, e⟩ := h
    exact ⟨_, .base (.dK e), go rfl rfl⟩
  | bl b => exact h.elim
  | byt b => exact h.elim
  | flt b => exact h.elim
  | ty b => exact h.elim
theorem two_cls : Paired ClsV [.ty "list", .ty "tuple"] [.type "list", .type "tuple"] := .cons (.ty _) (.cons (.ty _) .nil)
/-- [e for x in xs] -/
theorem lc_sq {K : PySem.W.Frag} {te : TE} {i : Nat} {tv : TE} {vs : List Nat} {σ : L2.St} {H : Hp} {Q : VK} {xs : List V} {a : Addr} (vf : V → V) (hs : SeqOf K H a xs) (hte : ∀ R : VK, R (.ref a) H → te σ H R) (hw : ∀ a, wipe ((wipe σ vs).set i a) vs = wipe σ vs)
    (hb : ∀ x, x ∈ xs → ∀ H1, Same H H1 → ∀ R : VK, (∀ H2, Same H1 H2 → R (vf x) H2) → tv ((wipe σ vs).set i (some x)) H1 R) (hz : xs.length < sizeLine)
    (hq : ∀ D H', H D = none → H' D = some (.lst (xs.map vf)) → Same H H' → Q (.ref D) H') : tLc (iSq K te) (gName i) tYes tv vs σ H Q := by
  have body : ∀ {J : It} {G : Hp → Prop} (W : Walk J xs.length G (YAt xs)) (hG : ∀ H', Same H H' → G H') (D : Addr) (hD : H D = none), ∃ W : Nat → Nat → Hp → Prop, (∃ m, W 0 m (upd H D (.lst []))) ∧ ∀ k m H1, W k m H1 → (J.stop k H1 ∧ Q (.ref D) H1) ∨ (J.go k H1 ∧ ∃ Nx : Hp → Prop, (∀ H', Nx H' → ∃ m', m' < m ∧ W (k + 1) m' H') ∧ ∀ x H', J.yld k H1 x H' → gName i x (wipe σ vs) H' fun σ2 H2 => wipe σ2 vs = wipe σ vs ∧ tYes σ2 H2 fun b H3 => if b = true then tv σ2 H3 fun y H4 => ∃ ys, H4 D = some (.lst ys) ∧ ys.length < sizeLine ∧ Nx (upd H4 D (.lst (ys ++ [y]))) else Nx H3) := by
    intro J G W hG D hD
    refine lc_it W (fun k H' => Same H H' ∧ H' D = some (.lst ((xs.take k).map vf))) ⟨Same.new hD, upd_same⟩ (fun k H' _ p => hG _ p.1) ?_ ?_
    · rintro k v H' H'' hk ⟨s1, e1⟩ ⟨rfl, ev⟩
      refine ⟨hw _, yes_ (hb v (List.mem_of_getElem? ev) _ s1 _ fun H2 s2 => ⟨_, s2 _ _ e1, ?_, Same.put (s1.trans s2) hD, ?_⟩)⟩
      · rw [List.length_map, List.length_take]
        omega
      · rw [upd_same, take_more ev, List.map_append]
        rfl
    · rintro H' ⟨s1, e1⟩
      rw [List.take_length] at e1
      exact hq D H' hD e1 s1
  cases hs with
  | lst e => exact .inl (hte _ ⟨a, rfl, ⟨_, SqL.of e⟩, fun D hD => body walk_list (fun H' s => SqL.of (s _ _ e)) D hD⟩)
  | tup e => exact .inr (hte _ ⟨a, rfl, ⟨_, SqT.of e⟩, fun D hD => body walk_tup (fun H' s => SqT.of (s _ _ e)) D hD⟩)
  | kt e => exact .inr (hte _ ⟨a, rfl, ⟨_, sqT_kt e⟩, fun D hD => body walk_tup (fun H' s => sqT_kt e) D hD⟩)
theorem nb_of {r : List V → Hp → VK → Prop} {t : TE} {σ : L2.St} {H : Hp} {R : Bool → Hp → Prop} (h : t σ H fun x H1 => r [x] H1 fun y H2 => ∃ b, y = .bl b ∧ R (!b) H2) : tNot (tB (tCB r (tCons t tNil))) σ H R := h
/-- a scalar -/
def scl : V → Prop
  | .non => True | .bl _ => True | .int _ => True | .str _ => True | _ => False
theorem scl.known {C : Addr} {H : Hp} {v : V} (h : scl v) : knownV C H v := by cases v <;> first | exact h | exact h.elim
def kOf : V → Key
  | .int i => Sum.inl i
  | _ => Sum.inl 0
/-- {x: True for x in xs} -/
def dcl (xs : List V) : List (Key × V) := xs.foldl (fun ks v => putK ks (kOf v) (.bl true)) []
theorem dcl_snoc (xs : List V) (v : V) : dcl (xs ++ [v]) = putK (dcl xs) (kOf v) (.bl true) := by
  unfold dcl
  rw [List.foldl_append]
  rfl
theorem dcl_len (xs : List V) : (dcl xs).length ≤ xs.length := by
  have go : ∀ (xs : List V) (acc : List (Key × V)), (xs.foldl (fun ks v => putK ks (kOf v) (.bl true)) acc).length ≤ acc.length + xs.length := by
    intro xs
    induction xs with
    | nil => intro acc; exact Nat.le_refl _
    | cons v xs ih =>
      intro acc
      refine Nat.le_trans (ih _) ?_
      have : (putK acc (kOf v) (.bl true)).length ≤ acc.length + 1 := by
        unfold putK
        split
        · rw [List.length_map]; omega
        · rw [List.length_append]; exact Nat.le_refl _
      show (putK acc (kOf v) (.bl true)).length + xs.length ≤ _
      rw [List.length_cons]
      omega
  have := go xs []
  simpa [dcl] using this
theorem dc_sq {K : PySem.W.Frag} {te : TE} {i : Nat} {vs : List Nat} {σ : L2.St} {H : Hp} {Q : VK} {xs : List V} {a : Addr} (hs : SeqOf K H a xs) (hk : ∀ v ∈ xs, v = kV (kOf v)) (hte : ∀ R : VK, R (.ref a) H → te σ H R) (hi : i < (wipe σ vs).length) (hw : ∀ a, wipe ((wipe σ vs).set i a) vs = wipe σ vs) (hz : xs.length < sizeLine)
    (hq : ∀ D H', H D = none → H' D = some (.dK (dcl xs)) → Same H H' → Q (.ref D) H') : tDc (iSq K te) (gName i) tYes (tVar i) (tC (.bl true)) vs σ H Q := by
  have body : ∀ {J : It} {G : Hp → Prop} (W : Walk J xs.length G (YAt xs)) (hG : ∀ H', Same H H' → G H') (D : Addr) (hD : H D = none), ∃ W : Nat → Nat → Hp → Prop, (∃ m, W 0 m (upd H D (.dK []))) ∧ ∀ i' m H1, W i' m H1 →
      (J.stop i' H1 ∧ Q (.ref D) H1) ∨ (J.go i' H1 ∧ ∃ Nx : Hp → Prop, (∀ H', Nx H' → ∃ m', m' < m ∧ W (i' + 1) m' H') ∧ ∀ x H', J.yld i' H1 x H' → gName i x (wipe σ vs) H' fun σ2 H2 => wipe σ2 vs = wipe σ vs ∧ tYes σ2 H2 fun b H3 =>
        if b = true then tVar i σ2 H3 fun y H4 => tC (.bl true) σ2 H4 fun z H5 => ∃ kvs k, y = kV k ∧ H5 D = some (.dK kvs) ∧ kvs.length < sizeLine ∧ Nx (upd H5 D (.dK (putK kvs k z))) else Nx H3) := by
    intro J G W hG D hD
    refine dc_it W (fun k H' => Same H H' ∧ H' D = some (.dK (dcl (xs.take k)))) ⟨Same.new hD, upd_same⟩ (fun k H' _ p => hG _ p.1) ?_ ?_
    · rintro k v H' H'' hk' ⟨s1, e1⟩ ⟨rfl, ev⟩
      have hv := hk v (List.mem_of_getElem? ev)
      refine ⟨hw _, yes_ ⟨v, List.getElem?_set_self hi, _, kOf v, hv, e1, ?_, Same.put s1 hD, ?_⟩⟩
      · have := dcl_len (xs.take k)
        rw [List.length_take] at this
        omega
      · rw [upd_same, take_more ev, dcl_snoc]
    · rintro H' ⟨s1, e1⟩
      rw [List.take_length] at e1
      exact hq D H' hD e1 s1
  cases hs with
  | lst e => exact .inl (hte _ ⟨a, rfl, ⟨_, SqL.of e⟩, fun D hD => body walk_list (fun H' s => SqL.of (s _ _ e)) D hD⟩)
  | tup e => exact .inr (hte _ ⟨a, rfl, ⟨_, SqT.of e⟩, fun D hD => body walk_tup (fun H' s => SqT.of (s _ _ e)) D hD⟩)
  | kt e => exact .inr (hte _ ⟨a, rfl, ⟨_, sqT_kt e⟩, fun D hD => body walk_tup (fun H' s => sqT_kt e) D hD⟩)
theorem ret_of {t : TE} {D : Ends} {σ : L2.St} {H : Hp} (h : t σ H D.rt) : tRet t D σ H := h
theorem op_of {r : R2} {ta tb : TE} {σ : L2.St} {H : Hp} {Q : VK} (h : ta σ H fun x H1 => tb σ H1 fun y H2 => r x y H2 Q) : tOp r ta tb σ H Q := h
theorem cb_of' {r : List V → Hp → VK → Prop} {t : TE} {σ : L2.St} {H : Hp} {Q : VK} (h : t σ H fun x H1 => r [x] H1 Q) : tCB r (tCons t tNil) σ H Q := h
def elOk (n : Int) (xs : List V) : Bool := xs.all (fun v => inR v 0 (n - 1)) && decide ((dcl xs).length = xs.length)
def spEl (K : PySem.W.Frag) : Sp := fun vs H Q _ => ∃ (n : Int) (x : V), vs = [.int n, x] ∧ ((∃ a xs, x = .ref a ∧ SeqOf K H a xs ∧ (∀ v ∈ xs, scl v) ∧ xs.length ≤ 1000 ∧ ∀ H', Same H H' → Q (.bl (elOk n xs)) H') ∨ (nonSq H x ∧ ∀ H', Same H H' → Q (.bl false) H'))
section
variable {P : Program} {w : World} {K : PySem.W.Frag} {mg : Str → Option Value} {base : Heap}
set_option pp.maxSteps 3000 in
theorem ok_elements (T : Txt K mg) : FnR P w K mg base CX0 4 T.f_are_elements (spEl K) := by
  refine T.A_are_elements.ok sc_are_elements (fun vs H Q E h => ?_) (fun cdv A outer s H vs Q E hr h => ?_)
  · obtain ⟨n, x, rfl, _⟩ := h
    rfl
  · obtain ⟨n, x, rfl, h⟩ := h
    have hu := hu_of hr
    refine ⟨_, (pss_cons (ps_if (PW.pt (pw_or (pt_not (pt_val (pe_callB call_isiT (by rfl) T.n_isinstance (by decide +kernel) (pa_cons (pv 1) (pa_cons (pe_tup (pa_cons (pe_bltn (v := .ty "list") (u := .type "list") (by rfl) T.n_list (by decide +kernel) rfl) (pa_cons (pe_bltn (v := .ty "tuple") (u := .type "tuple") (by rfl) T.n_tuple (by decide +kernel) rfl) pa_nil))) pa_nil))))) (pw_or1 (pt_not (pt_val (pe_callB (cr_all rfl) (by rfl) T.n_all (by decide +kernel) (pa_cons (pe_lc (own := [("one", 2)]) (g := (gName 2)) (tt := tYes) rfl sc_are_elements.nd (pi_sq (pv 1)) (blkOk_by (own := [("one", 2)]) (N := n_are_elements) (sc := defScope s_are_elements) (by decide +kernel)) (fun _ _ _ _ _ => (pg_name (i := 2) sc_are_elements.nd rfl (Or.inl rfl))) (fun _ _ _ _ _ => pts_nil) (fun _ _ _ _ _ => (pe_callR (ok_in_range T) (hr.mono (by decide)) T.A_in_range.kp rfl T.g_in_range pass0 (pa_cons (pv 2) (pa_cons pe_int (pa_cons (pe_op op_sub (pv 0) pe_int) pa_nil)))))) pa_nil)))))))
        (pss_one (ps_ret pe_bl)) pss_nil)
      (pss_one (ps_ret (pe_cmpR op_eq (pe_callB call_lenD (by rfl) T.n_len (by decide +kernel) (pa_cons (pe_dc (own := [("one", 2)]) (g := (gName 2)) (tt := tYes) rfl sc_are_elements.nd (pi_sq (pv 1)) (blkOk_by (own := [("one", 2)]) (N := n_are_elements) (sc := defScope s_are_elements) (by decide +kernel)) (fun _ _ _ _ _ => (pg_name (i := 2) sc_are_elements.nd rfl (Or.inl rfl))) (fun _ _ _ _ _ => pts_nil) (fun _ _ _ _ _ => (pv 2)) (fun _ _ _ _ _ => pe_bl)) pa_nil)) (pe_callB call_len_seq (by rfl) T.n_len (by decide +kernel) (pa_cons (pv 1) pa_nil)) (nomark _))))), ?_⟩
    rcases h with ⟨a, xs, rfl, hs, hsc, hlen, q⟩ | ⟨hx, q⟩
    · refine ⟨_, rfl, two_le, ?_⟩
      refine fun tp n_tp => ?_
      generalize g_tp : L2.upd _ tp _ = H1
      obtain ⟨s_H1, e_tp⟩ := U.upd_facts g_tp n_tp
      clear g_tp
      have hs1 := hs.same s_H1
      obtain ⟨t', ht, hk⟩ := hs1.ty
      refine ⟨_, tp, _, t', _, true, rfl, e_tp, two_cls, ht, hk, _, rfl, iteF ?_⟩
      refine nb_of (lc_sq (fun v => .bl (inR v 0 (n - 1))) hs1 (fun R r => ⟨_, rfl, r⟩) (fun _ => rfl) (fun v hv H2 s2 R r => ⟨_, rfl, _, rfl, _, _, rfl, rfl, v, 0, n - 1, rfl, (hsc v hv).known, r H2 (Same.refl _)⟩) (lt_line (by omega)) fun D H2 n_D e_D s_H2 => ?_)
      refine ⟨D, xs.map fun v => inR v 0 (n - 1), rfl, SqL.of (by rw [List.map_map]; exact e_D), _, rfl, ?_⟩
      have ea : (xs.map fun v => inR v 0 (n - 1)).all id = xs.all (fun v => inR v 0 (n - 1)) := by rw [List.all_map]; rfl
      rw [ea]
      cases hall : xs.all (fun v => inR v 0 (n - 1)) with
      | false =>
        refine iteT ?_
        have := q H2 (s_H1.trans s_H2)
        unfold elOk at this
        rw [hall] at this
        exact this
      | true =>
        refine iteF ?_
        have hs2 := hs1.same s_H2
        have hint : ∀ v ∈ xs, v = kV (kOf v) := fun v hv => by
          have := List.all_eq_true.mp hall v hv
          cases v <;> first | rfl | (simp [inR] at this)
        dsimp only [tNext]
        refine ret_of (op_of (cb_of' (dc_sq hs2 hint (fun R r => ⟨_, rfl, r⟩) (by show 2 < 3; decide) (fun _ => rfl) (lt_line (by omega)) fun D2 H3 n_D2 e_D2 s_H3 => ?_)))
        refine ⟨D2, _, rfl, e_D2, _, rfl, a, xs, rfl, (hs2.same s_H3).sq, rfl, ?_⟩
        have := q H3 ((s_H1.trans s_H2).trans s_H3)
        unfold elOk at this
        rw [hall, Bool.true_and] at this
        have e : decide (V.int ((dcl xs).length : Nat) = V.int (xs.length : Nat)) = decide ((dcl xs).length = xs.length) := decide_eq_decide.mpr ⟨fun z => by have := V.int.inj z; omega, fun z => by rw [z]⟩
        rw [e]
        exact this
    · refine ⟨_, rfl, two_le, ?_⟩
      refine fun tp n_tp => ?_
      generalize g_tp : L2.upd _ tp _ = H1
      obtain ⟨s_H1, e_tp⟩ := U.upd_facts g_tp n_tp
      clear g_tp
      obtain ⟨t', ht, hk⟩ := nonSq_ty (K := K) (hx.same s_H1)
      exact ⟨_, tp, _, t', _, false, rfl, e_tp, two_cls, ht, hk, _, rfl, iteT (q H1 s_H1)⟩
end
end My
set_option maxHeartbeats 1000000
namespace My
open PySem L2 U StX PM
theorem pe_dvalsK {X : Cx} {K0 : PySem.W.Frag} (hK : X.K = K0) {o : Expr} {to : TE} {apos cpos : Pos} (ho : PE X o to) (hbase : attributeBase o "values" X.env (eval o X.env) = eval o X.env := by rfl) (hline : (apos.endLine == cpos.line) = true := by rfl) : PE X (.Call (.Attribute o "values" apos) [] [] cpos) (tBM0 K0 "dict" rValsD to) := by
  subst hK
  exact pe_dvals ho hbase hline
/-! ### Partial(size, arrows, ends, starts) -/
def partE (CE : Addr) (E : XK) (H : Hp) (z : Str) : Prop := ∀ H' d, Same H H' → H' d = none → E (.ref CE) (some d) (upd H' d (.xd [("part", .str z)]))
inductive BadA (P : Program) (w : World) (H : Hp) (n : Int) : V → Prop
  | inz {d : Addr} {l : List (Int × Int)} : H d = some (.dK (kvI l)) → l.length ≤ 1000 → okArr n l = false → BadA P w H n (.ref d)
  | dk {d : Addr} {kvs : List (Key × V)} : H d = some (.dK kvs) → BadK H n kvs → BadA P w H n (.ref d)
  | odd {d : Addr} {k : Option Bool} {i : Int} : OddD P w H d [(k, .int i)] → BadA P w H n (.ref d)
  | non {x : V} : nonDi H x → BadA P w H n x
theorem BadK.same {H H' : Hp} {n : Int} {kvs : List (Key × V)} (h : BadK H n kvs) (s : Same H H') : BadK H' n kvs := by
  obtain ⟨l, kv, post, e, a, b, c, d⟩ := h
  exact ⟨l, kv, post, e, a, b, c.same s, d⟩
theorem nonDi.same {H H' : Hp} {x : V} (h : nonDi H x) (s : Same H H') : nonDi H' x := by
  cases x <;> first | exact h | exact h.elim | skip
  rcases h with ⟨xs, e⟩ | ⟨xs, e⟩
  · exact .inl ⟨xs, s _ _ e⟩
  · exact .inr ⟨xs, s _ _ e⟩
theorem BadA.same {P : Program} {w : World} {H H' : Hp} {n : Int} {x : V} (h : BadA P w H n x) (s : Same H H') : BadA P w H' n x := by
  cases h with
  | inz e a b => exact .inz (s _ _ e) a b
  | dk e b => exact .dk (s _ _ e) (b.same s)
  | odd e => exact .odd (e.same s)
  | non e => exact .non (e.same s)
theorem oV_known {C : Addr} {H : Hp} (k : Option Bool) : knownV C H (oV k) := by cases k <;> exact trivial
theorem oV_inR (k : Option Bool) (a b : Int) : inR (oV k) a b = false := by cases k <;> rfl
def spArO (P : Program) (w : World) : Sp := fun vs H Q _ => ∃ (n i : Int) (d : Addr) (k : Option Bool), vs = [.int n, .ref d] ∧ OddD P w H d [(k, .int i)] ∧ ∀ H', Same H H' → Q (.bl false) H'
def spArB (P : Program) (w : World) : Sp := fun vs H Q _ => ∃ (n : Int) (x : V), vs = [.int n, x] ∧ ((∃ d l f, x = .ref d ∧ H d = some (.dK (kvI l)) ∧ DI l f ∧ WF n f ∧ l.length ≤ 1000 ∧ ∀ H', Same H H' → Q (.bl true) H') ∨ (BadA P w H n x ∧ ∀ H', Same H H' → Q (.bl false) H'))
/-- a partly known map stands at s -/
def pfl (m te tt : Addr) : List (Str × V) := putF "own_starts" (.ref tt) (putF "own_ends" (.ref te) (putF "own_known" (.ref m) []))
theorem pne1 : ¬ (("own_known" : Str) = "own_ends") := by decide +kernel
theorem pne2 : ¬ (("own_known" : Str) = "own_starts") := by decide +kernel
theorem pne3 : ¬ (("own_ends" : Str) = "own_starts") := by decide +kernel
theorem pfl_known (m te tt : Addr) : (pfl m te tt).lookup ("own_known" : Str) = some (.ref m) := by
  unfold pfl
  rw [lookup_putF, if_neg pne2, lookup_putF, if_neg pne1, lookup_putF, if_pos rfl]
theorem pfl_ends (m te tt : Addr) : (pfl m te tt).lookup ("own_ends" : Str) = some (.ref te) := by
  unfold pfl
  rw [lookup_putF, if_neg pne3, lookup_putF, if_pos rfl]
theorem pfl_starts (m te tt : Addr) : (pfl m te tt).lookup ("own_starts" : Str) = some (.ref tt) := by
  unfold pfl
  rw [lookup_putF, if_pos rfl]
structure IsPart (C CM : Addr) (H : Hp) (s : Addr) (n : Int) (f : PF) (es ts : List Int) : Prop where
  ob : ∃ dx m te tt, H s = some (.ins C dx (pfl m te tt)) ∧ IsMap CM H m n f ∧ H te = some (.tup (es.map V.int)) ∧ H tt = some (.tup (ts.map V.int))
  el : es.length ≤ 300
  tl : ts.length ≤ 300
theorem IsPart.same {C CM : Addr} {H H' : Hp} {s : Addr} {n : Int} {f : PF} {es ts : List Int} (h : IsPart C CM H s n f es ts) (z : Same H H') : IsPart C CM H' s n f es ts := by
  obtain ⟨⟨dx, m, te, tt, a, b, c, d⟩, l1, l2⟩ := h
  exact ⟨⟨dx, m, te, tt, z _ _ a, b.same z, z _ _ c, z _ _ d⟩, l1, l2⟩
/-- the elements of E in order -/
def ascE (n : Int) (E : List Int) : List Int := ((List.range n.toNat).filter fun (k : Nat) => decide ((k : Int) ∈ E)).map fun (k : Nat) => (k : Int)
theorem ascE_len (n : Int) (E : List Int) (h : n ≤ 300) : (ascE n E).length ≤ 300 := by
  unfold ascE
  rw [List.length_map]
  exact Nat.le_trans (List.length_filter_le _ _) (by rw [List.length_range]; omega)
def GoodS (K : PySem.W.Frag) (H : Hp) (n : Int) (v : V) (E : List Int) (c : Int → Bool) : Prop := ∃ a, v = .ref a ∧ SeqOf K H a (E.map V.int) ∧ elOk n (E.map V.int) = true ∧ E.length ≤ 1000 ∧ ∀ i ∈ E, c i = false
def BadS (K : PySem.W.Frag) (H : Hp) (n : Int) (v : V) (c : Int → Bool) : Prop := nonSq H v ∨ ∃ a xs, v = .ref a ∧ SeqOf K H a xs ∧ (∀ z ∈ xs, scl z) ∧ xs.length ≤ 1000 ∧ (elOk n xs = false ∨ ∃ E : List Int, xs = E.map V.int ∧ elOk n xs = true ∧ ∃ i ∈ E, c i = true)
theorem GoodS.same {K : PySem.W.Frag} {H H' : Hp} {n : Int} {v : V} {E : List Int} {c : Int → Bool} (h : GoodS K H n v E c) (s : Same H H') : GoodS K H' n v E c := by
  obtain ⟨a, e, b, r⟩ := h
  exact ⟨a, e, b.same s, r⟩
theorem BadS.same {K : PySem.W.Frag} {H H' : Hp} {n : Int} {v : V} {c : Int → Bool} (h : BadS K H n v c) (s : Same H H') : BadS K H' n v c := by
  rcases h with h | ⟨a, xs, e, b, r⟩
  · exact .inl (h.same s)
  · exact .inr ⟨a, xs, e, b.same s, r⟩
def cE (f : PF) (i : Int) : Bool := (f i).isSome
def cS (l : List (Int × Int)) (i : Int) : Bool := decide (i ∈ l.map (·.2))
/-- a scalar, a tuple or a list -/
def okS (H : Hp) (x : V) : Prop := okV H x ∨ ∃ a xs, x = .ref a ∧ H a = some (.lst xs)
theorem okS.known {C : Addr} {H : Hp} {v : V} (h : okS H v) : knownV C H v := by
  rcases h with h | ⟨a, xs, rfl, e⟩
  · exact h.known
  · exact .inl ⟨xs, e⟩
theorem okS.same {H H' : Hp} {v : V} (h : okS H v) (s : Same H H') : okS H' v := by
  rcases h with h | ⟨a, xs, rfl, e⟩
  · exact .inl (h.same s)
  · exact .inr ⟨a, xs, rfl, s _ _ e⟩
def spPI (P : Program) (w : World) (K : PySem.W.Frag) (C CM CE : Addr) : Sp := fun vs H Q E => ∃ (s dx : Addr) (x y e t : V), vs = [.ref s, x, y, e, t] ∧ H s = some (.ins C dx []) ∧
  ((okS H x ∧ inR x 1 300 = false ∧ partE CE E H "size") ∨ ∃ n, x = .int n ∧ 1 ≤ n ∧ n ≤ 300 ∧
    ((BadA P w H n y ∧ partE CE E H "arrows") ∨ ∃ d l f, y = .ref d ∧ H d = some (.dK (kvI l)) ∧ DI l f ∧ WF n f ∧ l.length ≤ 1000 ∧
      ((BadS K H n e (cE f) ∧ partE CE E H "ends") ∨ ∃ Es, GoodS K H n e Es (cE f) ∧
        ((BadS K H n t (cS l) ∧ partE CE E H "starts") ∨ ∃ Ts, GoodS K H n t Ts (cS l) ∧
          ∀ H', Off s H H' → (∀ H'', (∀ b o, (H b = none ∨ b = s) → H' b = some o → H'' b = some o) → IsPart C CM H'' s n f (ascE n Es) (ascE n Ts)) → Q .non H'))))
theorem bb_of {r : List V → Hp → VK → Prop} {t : TE} {σ : L2.St} {H : Hp} {R : Bool → Hp → Prop} (h : t σ H fun x H1 => r [x] H1 fun y H2 => ∃ b, y = .bl b ∧ R b H2) : tB (tCB r (tCons t tNil)) σ H R := h
theorem offS {p : Addr} {H H' : Hp} (s : Same H H') : Off p H H' := fun _ _ _ h => s _ _ h
theorem SeqOf.off {K : PySem.W.Frag} {H H' : Hp} {a s C dx : Addr} {fs : List (Str × V)} {xs : List V} (h : SeqOf K H a xs) (z : Off s H H') (hs : H s = some (.ins C dx fs)) : SeqOf K H' a xs := by
  cases h with
  | lst e => exact .lst (z _ _ (fun c => by subst c; rw [hs] at e; cases e) e)
  | tup e => exact .tup (z _ _ (fun c => by subst c; rw [hs] at e; cases e) e)
  | kt e => exact .kt e
theorem anyE (c : Int → Bool) (E : List Int) : (E.map c).any id = E.any c := by rw [List.any_map]; rfl
theorem any_no {c : Int → Bool} {E : List Int} (h : ∀ i ∈ E, c i = false) : E.any c = false := by
  rw [Bool.eq_false_iff, Ne, List.any_eq_true]
  rintro ⟨i, hi, e⟩
  rw [h i hi] at e; cases e
theorem any_yes {c : Int → Bool} {E : List Int} (h : ∃ i ∈ E, c i = true) : E.any c = true := List.any_eq_true.mpr h
def cV (c : Int → Bool) : V → V
  | .int i => .bl (c i)
  | _ => .non
theorem cV_map (c : Int → Bool) (E : List Int) : (E.map V.int).map (cV c) = (E.map c).map V.bl := by rw [List.map_map, List.map_map]; rfl
/-- any([.. for x in xs]), xs ints -/
theorem any_sq {K : PySem.W.Frag} {te : TE} {i : Nat} {tv : TE} {vs : List Nat} {σ : L2.St} {H : Hp} {R : Bool → Hp → Prop} {E : List Int} {a : Addr} (c : Int → Bool) (hs : SeqOf K H a (E.map V.int)) (hte : ∀ R : VK, R (.ref a) H → te σ H R) (hw : ∀ a, wipe ((wipe σ vs).set i a) vs = wipe σ vs)
    (hb : ∀ x : Int, x ∈ E → ∀ H1, Same H H1 → ∀ R : VK, (∀ H2, Same H1 H2 → R (.bl (c x)) H2) → tv ((wipe σ vs).set i (some (.int x))) H1 R) (hz : E.length ≤ 1000)
    (hq : ∀ H', Same H H' → R (E.any c) H') : tB (tCB (rAny K) (tCons (tLc (iSq K te) (gName i) tYes tv vs) tNil)) σ H R := by
  refine bb_of (lc_sq (cV c) hs hte hw (fun x hx H1 s1 R r => ?_) (by rw [List.length_map]; exact lt_line (by omega)) fun D H' nD eD s' => ⟨D, E.map c, rfl, SqL.of (by rw [← cV_map]; exact eD), _, rfl, ?_⟩)
  · obtain ⟨z, hz, rfl⟩ := List.mem_map.mp hx
    exact hb z hz H1 s1 R r
  · rw [anyE]
    exact hq H' s'
theorem kvI_snd (l : List (Int × Int)) : (kvI l).map Prod.snd = (l.map (·.2)).map V.int := by
  unfold kvI
  rw [List.map_map, List.map_map]
  rfl
theorem scl_ints {E : List Int} : ∀ z ∈ E.map V.int, scl z := fun z hz => by
  obtain ⟨i, _, rfl⟩ := List.mem_map.mp hz
  trivial
theorem nx_seq {a rest : TS} {D : Ends} {σ : L2.St} {H : Hp} (h : a { D with nx := rest D } σ H) : tSeq a rest D σ H := h
theorem fld_of {K : PySem.W.Frag} {ta tv : TE} {f : Str} {D : Ends} {σ : L2.St} {H : Hp} (h : tv σ H fun y H1 => ta σ H1 fun x H2 => ∃ a C dx fs, x = .ref a ∧ H2 a = some (.ins C dx fs) ∧ Cls K C ∧ NoAttr K C f ∧ fs.length < 1000 ∧ D.nx σ (upd H2 a (.ins C dx (putF f y fs)))) : sFld K ta tv f D σ H := h
theorem mkR_of {C : Addr} {E : XK} {t : TA} {σ : L2.St} {H : Hp} {Q : VK} {d : Addr} {n : Int} {l : List (Int × Int)} {f : PF} (ht : ∀ R : List V → Hp → Prop, R [.int n, .ref d] H → t σ H R) (hd : H d = some (.dK (kvI l))) (di : DI l f) (wf : WF n f) (h1 : 1 ≤ n) (h3 : n ≤ 300) (hl : l.length ≤ 1000)
    (q : ∀ r H', H r = none → Same H H' → IsMap C H' r n f → Q (.ref r) H') : tMakeR C (spInit C) E t σ H Q := ht _ (mk_map hd di wf h1 h3 hl q)
theorem mkR_ofN {C : Addr} {E : XK} {t : TA} {σ : L2.St} {H : Hp} {Q : VK} {d : Addr} {n : Int} {l : List (Int × Int)} {f : PF} (ht : ∀ R : List V → Hp → Prop, R [.int n, .ref d] H → t σ H R) (hd : H d = some (.dK (kvI l))) (di : DI l f) (wf : WF n f) (h1 : 1 ≤ n) (h3 : n ≤ 300) (hl : l.length ≤ 1000)
    (q : ∀ r dm D H', H r = none → Same H H' → H D = none → H' r = some (.ins C dm (flds n D)) → H' D = some (.dK (kvI (tab n f))) → Q (.ref r) H') : tMakeR C (spInit C) E t σ H Q := by
  refine ht _ fun x dx hx hdx ne => ?_
  have s0 : Same H (upd (upd H dx (.own x)) x (.ins C dx [])) := fun b o e => by
    rw [upd_ne (ne_of_none e hx), upd_ne (ne_of_none e hdx)]
    exact e
  refine ⟨x, dx, d, n, l, f, rfl, upd_same, s0 _ _ hd, di, wf, h1, h3, hl, fun H' D o nD hp hD => ⟨rfl, ?_⟩⟩
  refine q x dx D H' hx (fun b u e => o b u (ne_of_none e hx) (s0 b u e)) ?_ hp hD
  cases e : H D with
  | none => rfl
  | some u => rw [s0 _ _ e] at nD; cases nD
section
variable {P : Program} {w : World} {K : PySem.W.Frag} {mg : Str → Option Value} {base : Heap}
theorem ok_arO (T : Txt K mg) : FnR P w K mg base CX0 3 T.f_are_arrows (spArO P w) := by
  refine T.A_are_arrows.ok sc_are_arrows (fun vs H Q E h => ?_) (fun cdv A outer s H vs Q E hr h => ?_)
  · obtain ⟨n, i, d, x, rfl, _⟩ := h
    rfl
  · obtain ⟨n, i, d, x, rfl, ⟨ep, hd⟩, q⟩ := h
    have hu := hu_of hr
    refine ⟨_, (pss_cons (ps_if (pt_not (pt_val (pe_callB call_isD (by rfl) T.n_isinstance (by decide +kernel) (pa_cons (pv 1) (pa_cons (pe_bltn (v := .ty "dict") (u := .type "dict") (by rfl) T.n_dict (by decide +kernel) rfl) pa_nil)))))
        (pss_one (ps_ret pe_bl)) pss_nil)
      (pss_cons (ps_set (i := 2) sc_are_arrows.nd rfl (Or.inl rfl) pe_dnewK)
      (pss_cons (ps_for PassesOwn.never rfl (pi_itemsO (pv 1)) (pg_tup rfl (pgs_cons (pg_name (i := 3) sc_are_arrows.nd rfl (Or.inl rfl)) (pgs_cons (pg_name (i := 4) sc_are_arrows.nd rfl (Or.inl rfl)) pgs_nil)))
        (pss_cons (ps_if (PW.pt (pw_or (pt_not (pt_val (pe_callR (ok_in_range T) (hr.mono (by decide)) T.A_in_range.kp rfl T.g_in_range pass0 (pa_cons (pv 3) (pa_cons pe_int (pa_cons (pe_op op_sub (pv 0) pe_int) pa_nil)))))) (pw_or (pt_not (pt_val (pe_callR (ok_in_range T) (hr.mono (by decide)) T.A_in_range.kp rfl T.g_in_range pass0 (pa_cons (pv 4) (pa_cons pe_int (pa_cons (pe_op op_sub (pv 0) pe_int) pa_nil)))))) (pw_or1 (pt_cmp (pc_din hu (pv 4) (pv 2)))))))
        (pss_one (ps_ret pe_bl)) pss_nil)
      (pss_one (ps_dput hu (pv 2) (pv 4) pe_bl rfl))))
      (pss_one (ps_ret pe_bl))))), ?_⟩
    refine ⟨_, rfl, d, _, _, true, [(x, .int i)], rfl, .ty _, ⟨ep, hd⟩, kit_ty (by decide +kernel), _, rfl, iteF ?_⟩
    intro t ht
    have s1 : Same H (upd H t (.dK [])) := Same.new ht
    refine ⟨_, rfl, d, ep, _, rfl, s1 _ _ hd, ?_⟩
    refine for_it walk_itemsO (fun k σ H' => ∃ v3 v4, σ = [some (.int n), some (.ref d), some (.ref t), v3, v4] ∧ Same H H' ∧ k = 0)
      ⟨none, none, rfl, s1, rfl⟩ (fun k σ H' _ ⟨_, _, _, p, _⟩ => p _ _ hd) ?_ ?_
    · rintro k v σ H' H'' hk2 ⟨v3, v4, rfl, p1, rfl⟩ ⟨U, a, b, rfl, hU, rfl, e1, e2⟩
      cases e1; cases e2
      have s3 : Same H (upd H' U (.tup [oV x, .int i])) := p1.trans (Same.new hU)
      refine ⟨U, [oV x, .int i], rfl, SqT.of upd_same, rfl, oV x, [.int i], rfl, .int i, [], rfl, rfl, ?_⟩
      refine ⟨_, rfl, _, rfl, _, _, rfl, rfl, oV x, 0, n - 1, rfl, oV_known x, _, rfl, ?_⟩
      rw [oV_inR]
      exact iteT (iteT (q _ s3))
    · rintro σ H' ⟨v3, v4, rfl, p1, z⟩
      cases z
theorem ok_arB (T : Txt K mg) : FnR P w K mg base CX0 3 T.f_are_arrows (spArB P w) := by
  intro A outer s H us vs Q E hr e0 r h
  obtain ⟨n, x, rfl, h⟩ := h
  refine fnR_or (ok_are_arrows T) (fnR_or (ok_ar2 T) (ok_arO T)) A outer s H us [.int n, x] Q E hr e0 r ?_
  rcases h with ⟨d, l, f, rfl, hd, di, wf, hl, q⟩ | ⟨hx, q⟩
  · exact .inl ⟨n, d, l, rfl, hd, hl, by rw [okArr_of di wf]; exact q⟩
  · cases hx with
    | inz e a b => exact .inl ⟨n, _, _, rfl, e, a, by rw [b]; exact q⟩
    | dk e b => exact .inr (.inl ⟨n, _, rfl, .inl ⟨_, _, rfl, e, b⟩, q⟩)
    | odd e => exact .inr (.inr ⟨n, _, _, _, rfl, e, q⟩)
    | non e => exact .inr (.inl ⟨n, _, rfl, .inr e, q⟩)
theorem ok_ini_InvalidPartial (T : Txt K mg) : FnR P w K mg base CX0 1 T.f_InvalidPartial__init (spIni1 T.C_InvalidPartial "part") := by
  refine T.A_InvalidPartial__init.ok sc_InvalidPartial__init (fun vs H Q E h => ?_) (fun cdv A outer s H vs Q E hr h => ?_)
  · obtain ⟨a, v, rfl, _⟩ := h
    rfl
  · obtain ⟨a, v, rfl, ha, q⟩ := h
    refine ⟨_, pss_one (ps_ostG (pv 0) (pv 1)), ?_⟩
    exact ⟨_, rfl, _, rfl, a, T.C_InvalidPartial, rfl, T.x_InvalidPartial, T.na_part_InvalidPartial, .inl ⟨ha, fun dx h1 h2 => q dx h1 h2⟩⟩
set_option pp.maxSteps 3000 in
theorem okF_pi (T : Txt K mg) {fd : FuncData} (F : FunD K "__init__" "Partial.__init__" (defArgs s_Partial__init) (defBody s_Partial__init) (defScope s_Partial__init) [] [("ends", .ref T.e_Partial__init_ends), ("starts", .ref T.e_Partial__init_starts)] T.f_Partial__init fd) : FnOk P w K mg base (L2.CX P w) 8 T.f_Partial__init fd ["self", "size", "arrows", "ends", "starts"] (spPI P w K T.C_Partial T.C_Map T.C_InvalidPartial) := by
  refine F.ok sc_Partial__init (fun vs H Q E h => ?_) (fun cdv A outer s H vs Q E hr h => ?_)
  · obtain ⟨s, dx, x, y, e, t, rfl, _⟩ := h
    rfl
  · obtain ⟨s, dx, x, y, e, t, rfl, hs, h⟩ := h
    have hu := hu_of hr
    obtain ⟨_, h_MAX_SIZE⟩ := T.v_MAX_SIZE
    refine ⟨_, (pss_cons (ps_if (pt_not (pt_val (pe_callR (ok_in_range T) (hr.mono (by decide)) T.A_in_range.kp rfl T.g_in_range pass0 (pa_cons (pv 1) (pa_cons pe_int (pa_cons (pe_glob (v := .int 300) rfl h_MAX_SIZE ⟨_, rfl⟩) pa_nil))))))
        (pss_one (ps_raise rfl (takes_of rfl rfl rfl rfl) (pmk_oexG T.x_InvalidPartial T.m_InvalidPartial__init T.ti_InvalidPartial__init (ok_ini_InvalidPartial T) (hr.mono (by decide)) pass0 rfl T.g_InvalidPartial (pa_cons pe_str pa_nil)))) pss_nil)
      (pss_cons (ps_if (pt_not (pt_val (pe_callR (ok_arB (P := P) (w := w) T) (hr.mono (by decide)) T.A_are_arrows.kp rfl T.g_are_arrows pass0 (pa_cons (pv 1) (pa_cons (pv 2) pa_nil)))))
        (pss_one (ps_raise rfl (takes_of rfl rfl rfl rfl) (pmk_oexG T.x_InvalidPartial T.m_InvalidPartial__init T.ti_InvalidPartial__init (ok_ini_InvalidPartial T) (hr.mono (by decide)) pass0 rfl T.g_InvalidPartial (pa_cons pe_str pa_nil)))) pss_nil)
      (pss_cons (ps_if (PW.pt (pw_or (pt_not (pt_val (pe_callR (ok_elements T) (hr.mono (by decide)) T.A_are_elements.kp rfl T.g_are_elements pass0 (pa_cons (pv 1) (pa_cons (pv 3) pa_nil))))) (pw_or1 (pt_val (pe_callB (cr_any rfl) (by rfl) T.n_any (by decide +kernel) (pa_cons (pe_lc (own := [("one", 5)]) (g := (gName 5)) (tt := tYes) rfl sc_Partial__init.nd (pi_sq (pv 3)) (blkOk_by (own := [("one", 5)]) (N := n_Partial__init) (sc := defScope s_Partial__init) (by decide +kernel)) (fun _ _ _ _ _ => (pg_name (i := 5) sc_Partial__init.nd rfl (Or.inl rfl))) (fun _ _ _ _ _ => pts_nil) (fun _ _ _ _ _ => (pe_cmp (pc_din hu (pv 5) (pv 2))))) pa_nil))))))
        (pss_one (ps_raise rfl (takes_of rfl rfl rfl rfl) (pmk_oexG T.x_InvalidPartial T.m_InvalidPartial__init T.ti_InvalidPartial__init (ok_ini_InvalidPartial T) (hr.mono (by decide)) pass0 rfl T.g_InvalidPartial (pa_cons pe_str pa_nil)))) pss_nil)
      (pss_cons (ps_if (PW.pt (pw_or (pt_not (pt_val (pe_callR (ok_elements T) (hr.mono (by decide)) T.A_are_elements.kp rfl T.g_are_elements pass0 (pa_cons (pv 1) (pa_cons (pv 4) pa_nil))))) (pw_or1 (pt_val (pe_callB (cr_any rfl) (by rfl) T.n_any (by decide +kernel) (pa_cons (pe_lc (own := [("one", 5)]) (g := (gName 5)) (tt := tYes) rfl sc_Partial__init.nd (pi_sq (pv 4)) (blkOk_by (own := [("one", 5)]) (N := n_Partial__init) (sc := defScope s_Partial__init) (by decide +kernel)) (fun _ _ _ _ _ => (pg_name (i := 5) sc_Partial__init.nd rfl (Or.inl rfl))) (fun _ _ _ _ _ => pts_nil) (fun _ _ _ _ _ => (pe_cmpR (op_inVw (by rfl)) (pv 5) (pe_dvalsK (K0 := K) rfl (pv 2)) (by rfl)))) pa_nil))))))
        (pss_one (ps_raise rfl (takes_of rfl rfl rfl rfl) (pmk_oexG T.x_InvalidPartial T.m_InvalidPartial__init T.ti_InvalidPartial__init (ok_ini_InvalidPartial T) (hr.mono (by decide)) pass0 rfl T.g_InvalidPartial (pa_cons pe_str pa_nil)))) pss_nil)
      (pss_cons (ps_fld (pv 0) (pe_makeR T.M_Map (ok_init T) (hr.mono (by decide)) rfl T.g_Map pass0 (pa_cons (pv 1) (pa_cons (pv 2) pa_nil))) rfl)
      (pss_cons (ps_fld (pv 0) (pe_callTy call_tuple_of (by rfl) T.n_tuple (by decide +kernel) (pa_cons (pe_lc (own := [("one", 5)]) (g := (gName 5)) (tt := (tTest (tOp (rIn K false) (tVar 5) (tVar 3)))) rfl sc_Partial__init.nd (pi_range1 rfl T.n_range (pa_cons (pv 1) pa_nil)) (blkOk_by (own := [("one", 5)]) (N := n_Partial__init) (sc := defScope s_Partial__init) (by decide +kernel)) (fun _ _ _ _ _ => (pg_name (i := 5) sc_Partial__init.nd rfl (Or.inl rfl))) (fun _ _ _ _ _ => (pts_one (pt_cmpR op_in_seq (pv 5) (pv 3) (by rfl)))) (fun _ _ _ _ _ => (pv 5))) pa_nil)) rfl)
      (pss_one (ps_fld (pv 0) (pe_callTy call_tuple_of (by rfl) T.n_tuple (by decide +kernel) (pa_cons (pe_lc (own := [("one", 5)]) (g := (gName 5)) (tt := (tTest (tOp (rIn K false) (tVar 5) (tVar 4)))) rfl sc_Partial__init.nd (pi_range1 rfl T.n_range (pa_cons (pv 1) pa_nil)) (blkOk_by (own := [("one", 5)]) (N := n_Partial__init) (sc := defScope s_Partial__init) (by decide +kernel)) (fun _ _ _ _ _ => (pg_name (i := 5) sc_Partial__init.nd rfl (Or.inl rfl))) (fun _ _ _ _ _ => (pts_one (pt_cmpR op_in_seq (pv 5) (pv 4) (by rfl)))) (fun _ _ _ _ _ => (pv 5))) pa_nil)) rfl)))))))), ?_⟩
    have hTC := T.C_Partial
    rcases h with ⟨hx, hb, er⟩ | ⟨n, rfl, h1, h3, h⟩
    · refine ⟨_, rfl, x, 1, 300, rfl, hx.known, _, rfl, ?_⟩
      rw [hb]
      exact iteT (mk_one fun d hd => er H d (Same.refl H) hd)
    refine ⟨_, rfl, .int n, 1, 300, rfl, trivial, _, rfl, ?_⟩
    have e1 : inR (.int n) 1 300 = true := by simp [inR, h1, h3]
    rw [e1]
    refine iteF ?_
    rcases h with ⟨hy, er⟩ | ⟨d, l, f, rfl, hd, di, wf, hl, h⟩
    · exact ⟨_, rfl, _, rfl, n, y, rfl, .inr ⟨hy, fun H1 s1 => ⟨_, rfl, iteT (mk_one fun d hd => er H1 d s1 hd)⟩⟩⟩
    refine ⟨_, rfl, _, rfl, n, _, rfl, .inl ⟨d, l, f, rfl, hd, di, wf, hl, fun H1 s1 => ⟨_, rfl, iteF ?_⟩⟩⟩
    have hd1 := s1 _ _ hd
    have hbE : ∀ (E : List Int) (Hx : Hp), Same H1 Hx → ∀ z : Int, z ∈ E → ∀ H2, Same Hx H2 → ∀ R : VK, (∀ H3, Same H2 H3 → R (.bl (cE f z)) H3) → tDIn (tVar 5) (tVar 2) ((wipe (L2.start n_Partial__init [V.ref s, .int n, .ref d, e, t]) (List.map (fun x => x.snd) [(("one" : Str), 5)])).set 5 (some (.int z))) H2 R := fun E Hx sx z hz H2 s2 R r => by
      refine ⟨_, rfl, _, rfl, d, _, rfl, dget_l (s2 _ _ (sx _ _ hd1)) di z, ?_⟩
      rw [Option.isSome_map]
      exact r _ (Same.refl _)
    have hbS : ∀ (E : List Int) (Hx : Hp), Same H1 Hx → ∀ z : Int, z ∈ E → ∀ H2, Same Hx H2 → ∀ R : VK, (∀ H3, Same H2 H3 → R (.bl (cS l z)) H3) → tOp (rInVw false) (tVar 5) (tBM0 K "dict" rValsD (tVar 2)) ((wipe (L2.start n_Partial__init [V.ref s, .int n, .ref d, e, t]) (List.map (fun x => x.snd) [(("one" : Str), 5)])).set 5 (some (.int z))) H2 R := fun E Hx sx z hz H2 s2 R r => by
      have hd2 := s2 _ _ (sx _ _ hd1)
      refine ⟨_, rfl, _, rfl, .inr (.inr (.inl ⟨rfl, .inl ⟨_, hd2⟩⟩)), d, _, rfl, rfl, hd2, fun p np => ⟨z, p, d, l.map (·.2), _, rfl, rfl, upd_same, Same.new np _ _ hd2, kvI_snd l, ?_⟩⟩
      exact r _ (Same.new np)
    rcases h with ⟨hE, er⟩ | ⟨Es, ⟨a, rfl, hsa, hoa, hla, hca⟩, h⟩
    · rcases hE with hE | ⟨a, xs, rfl, hs1, hsc, hlen, hE⟩
      · refine ⟨_, rfl, _, rfl, n, e, rfl, .inr ⟨hE.same s1, fun H2 s2 => ⟨_, rfl, iteT (iteT (mk_one fun d hd => er H2 d (s1.trans s2) hd))⟩⟩⟩
      · refine ⟨_, rfl, _, rfl, n, _, rfl, .inl ⟨a, xs, rfl, hs1.same s1, hsc, hlen, fun H2 s2 => ⟨_, rfl, ?_⟩⟩⟩
        rcases hE with hE | ⟨E', rfl, hE, hc⟩
        · rw [hE]
          exact iteT (iteT (mk_one fun d hd => er H2 d (s1.trans s2) hd))
        · rw [hE]
          refine iteF (any_sq (cE f) ((hs1.same s1).same s2) (fun R r => ⟨_, rfl, r⟩) (fun _ => rfl) (hbE E' H2 s2) (by rw [List.length_map] at hlen; exact hlen) fun H3 s3 => ?_)
          rw [any_yes hc]
          exact iteT (mk_one fun d hd => er H3 d ((s1.trans s2).trans s3) hd)
    refine ⟨_, rfl, _, rfl, n, _, rfl, .inl ⟨a, _, rfl, hsa.same s1, scl_ints, by rw [List.length_map]; exact hla, fun H2 s2 => ⟨_, rfl, ?_⟩⟩⟩
    rw [hoa]
    refine iteF (any_sq (cE f) ((hsa.same s1).same s2) (fun R r => ⟨_, rfl, r⟩) (fun _ => rfl) (hbE Es H2 s2) hla fun H3 s3 => ?_)
    rw [any_no hca]
    refine iteF ?_
    have s13 : Same H1 H3 := s2.trans s3
    have s03 : Same H H3 := s1.trans s13
    rcases h with ⟨hE, er⟩ | ⟨Ts, ⟨b, rfl, hsb, hob, hlb, hcb⟩, q⟩
    · rcases hE with hE | ⟨b, xs, rfl, hs1, hsc, hlen, hE⟩
      · refine ⟨_, rfl, _, rfl, n, t, rfl, .inr ⟨hE.same s03, fun H4 s4 => ⟨_, rfl, iteT (iteT (mk_one fun d hd => er H4 d (s03.trans s4) hd))⟩⟩⟩
      · refine ⟨_, rfl, _, rfl, n, _, rfl, .inl ⟨b, xs, rfl, hs1.same s03, hsc, hlen, fun H4 s4 => ⟨_, rfl, ?_⟩⟩⟩
        rcases hE with hE | ⟨E', rfl, hE, hc⟩
        · rw [hE]
          exact iteT (iteT (mk_one fun d hd => er H4 d (s03.trans s4) hd))
        · rw [hE]
          refine iteF (any_sq (cS l) ((hs1.same s03).same s4) (fun R r => ⟨_, rfl, r⟩) (fun _ => rfl) (hbS E' H4 (s13.trans s4)) (by rw [List.length_map] at hlen; exact hlen) fun H5 s5 => ?_)
          rw [any_yes hc]
          exact iteT (mk_one fun d hd => er H5 d ((s03.trans s4).trans s5) hd)
    refine ⟨_, rfl, _, rfl, n, _, rfl, .inl ⟨b, _, rfl, hsb.same s03, scl_ints, by rw [List.length_map]; exact hlb, fun H4 s4 => ⟨_, rfl, ?_⟩⟩⟩
    rw [hob]
    refine iteF (any_sq (cS l) ((hsb.same s03).same s4) (fun R r => ⟨_, rfl, r⟩) (fun _ => rfl) (hbS Ts H4 (s13.trans s4)) hlb fun H5 s5 => ?_)
    rw [any_no hcb]
    refine iteF ?_
    have s05 : Same H H5 := (s03.trans s4).trans s5
    dsimp only [tNext, tSeq]
    refine fld_of (mkR_ofN (fun R r => ⟨_, rfl, _, rfl, r⟩) (s05 _ _ hd) di wf h1 h3 hl fun m dm D0 H6 n_m s6 n_D0 e_m6 e_D6 => ?_)
    have s06 : Same H H6 := s05.trans s6
    have hs6 := s06 _ _ hs
    refine ⟨_, rfl, s, T.C_Partial, dx, [], rfl, hs6, T.o_Partial.cl, T.na_own_known_Partial, (by show 0 < 1000; decide), ?_⟩
    have o7 : Off s H6 (upd H6 s (.ins T.C_Partial dx (putF "own_known" (.ref m) []))) := Off.lock
    generalize eH7 : upd H6 s (.ins T.C_Partial dx (putF "own_known" (.ref m) [])) = H7 at o7 ⊢
    have hs7 : H7 s = some (.ins T.C_Partial dx (putF "own_known" (.ref m) [])) := by rw [← eH7]; exact upd_same
    have hsa7 := (hsa.same s06).off o7 hs6
    dsimp only [tSeq]
    refine fld_of ?_
    refine cb_of' ?_
    refine (lc_rangeF (n := n.toNat) (fun i => decide (i ∈ Es)) (fun R r => ⟨_, rfl, n, rfl, by omega, by omega, r⟩) (fun _ => rfl) (small1000 (by omega)) (fun k hk H8 s8 => ⟨fun R r => ⟨_, rfl, _, rfl, ⟨a, _, rfl, (hsa7.same s8).sq, rfl, flat_ints _, _, rfl, ?_⟩⟩, fun R r => ⟨_, rfl, r⟩⟩) fun D H8 n_D e_D s8 => ?_)
    · show R (inV (.int (0 + (k : Int))) (Es.map V.int)) H8
      rw [inV_ints, Int.zero_add]
      exact r
    refine ⟨D, _, rfl, .inl ⟨SqL.of e_D, fun te n_te => ?_⟩⟩
    have s9 : Same H7 (upd H8 te (.tup (((((List.range n.toNat).filter fun (k : Nat) => decide ((k : Int) ∈ Es)).map fun (k : Nat) => (k : Int)).map V.int)))) := s8.trans (Same.new n_te)
    have e_te := (upd_same : (upd H8 te (.tup (((((List.range n.toNat).filter fun (k : Nat) => decide ((k : Int) ∈ Es)).map fun (k : Nat) => (k : Int)).map V.int)))) te = _)
    refine ⟨_, rfl, s, T.C_Partial, dx, _, rfl, s9 _ _ hs7, T.o_Partial.cl, T.na_own_ends_Partial, (by show 1 < 1000; decide), ?_⟩
    have o10 : Off s (upd H8 te (.tup (((((List.range n.toNat).filter fun (k : Nat) => decide ((k : Int) ∈ Es)).map fun (k : Nat) => (k : Int)).map V.int)))) (upd (upd H8 te (.tup (((((List.range n.toNat).filter fun (k : Nat) => decide ((k : Int) ∈ Es)).map fun (k : Nat) => (k : Int)).map V.int)))) s (.ins T.C_Partial dx (putF "own_ends" (.ref te) (putF "own_known" (.ref m) [])))) := Off.lock
    generalize eH9 : (upd H8 te (.tup (((((List.range n.toNat).filter fun (k : Nat) => decide ((k : Int) ∈ Es)).map fun (k : Nat) => (k : Int)).map V.int)))) = H9 at s9 e_te o10 ⊢
    have hs9 := s9 _ _ hs7
    generalize eH10 : upd H9 s (.ins T.C_Partial dx (putF "own_ends" (.ref te) (putF "own_known" (.ref m) []))) = H10 at o10 ⊢
    have hs10 : H10 s = some (.ins T.C_Partial dx (putF "own_ends" (.ref te) (putF "own_known" (.ref m) []))) := by rw [← eH10]; exact upd_same
    have hsb10 := (((hsb.same s06).off o7 hs6).same s9).off o10 hs9
    dsimp only
    refine fld_of ?_
    refine cb_of' ?_
    refine (lc_rangeF (n := n.toNat) (fun i => decide (i ∈ Ts)) (fun R r => ⟨_, rfl, n, rfl, by omega, by omega, r⟩) (fun _ => rfl) (small1000 (by omega)) (fun k hk H11 s11 => ⟨fun R r => ⟨_, rfl, _, rfl, ⟨b, _, rfl, (hsb10.same s11).sq, rfl, flat_ints _, _, rfl, ?_⟩⟩, fun R r => ⟨_, rfl, r⟩⟩) fun D2 H11 n_D2 e_D2 s11 => ?_)
    · show R (inV (.int (0 + (k : Int))) (Ts.map V.int)) H11
      rw [inV_ints, Int.zero_add]
      exact r
    refine ⟨D2, _, rfl, .inl ⟨SqL.of e_D2, fun tt n_tt => ?_⟩⟩
    have s12 : Same H10 (upd H11 tt (.tup (((((List.range n.toNat).filter fun (k : Nat) => decide ((k : Int) ∈ Ts)).map fun (k : Nat) => (k : Int)).map V.int)))) := s11.trans (Same.new n_tt)
    have e_tt := (upd_same : (upd H11 tt (.tup (((((List.range n.toNat).filter fun (k : Nat) => decide ((k : Int) ∈ Ts)).map fun (k : Nat) => (k : Int)).map V.int)))) tt = _)
    refine ⟨_, rfl, s, T.C_Partial, dx, _, rfl, s12 _ _ hs10, T.o_Partial.cl, T.na_own_starts_Partial, (by show 2 < 1000; decide), ?_⟩
    generalize eH12 : (upd H11 tt (.tup (((((List.range n.toNat).filter fun (k : Nat) => decide ((k : Int) ∈ Ts)).map fun (k : Nat) => (k : Int)).map V.int)))) = H12 at s12 e_tt ⊢
    have hs12 := s12 _ _ hs10
    have ne_of' : ∀ {Hx : Hp} {c : Addr} {o : HO} {fs : List (Str × V)}, Hx s = some (.ins T.C_Partial dx fs) → Hx c = some o → (∀ fs, o ≠ .ins T.C_Partial dx fs) → c ≠ s := fun h1 h2 h3 z => by subst z; rw [h1] at h2; cases h2; exact h3 _ rfl
    have hs5 := s05 _ _ hs
    have nm : m ≠ s := fun z => by rw [z, hs5] at n_m; cases n_m
    have nD0 : D0 ≠ s := fun z => by rw [z, hs5] at n_D0; cases n_D0
    have nte : te ≠ s := ne_of' hs9 e_te (fun _ z => by cases z)
    have ntt : tt ≠ s := ne_of' hs12 e_tt (fun _ z => by cases z)
    have e_m12 := s12 _ _ (o10 _ _ nm (s9 _ _ (o7 _ _ nm e_m6)))
    have e_D12 := s12 _ _ (o10 _ _ nD0 (s9 _ _ (o7 _ _ nD0 e_D6)))
    have e_te12 := s12 _ _ (o10 _ _ nte e_te)
    have nz : ∀ {Hx : Hp} {a : Addr}, Off s H Hx → a ≠ s → Hx a = none → H a = none := fun o ne e => by
      cases hx : H _ with
      | none => rfl
      | some v => rw [o _ _ ne hx] at e; cases e
    have zm : H m = none := nz (offS s05) nm n_m
    have zD : H D0 = none := nz (offS s05) nD0 n_D0
    have zte : H te = none := nz (((offS s06).tr o7).tr (offS s8)) nte n_te
    have ztt : H tt = none := nz (((((offS s06).tr o7).tr (offS s9)).tr o10).tr (offS s11)) ntt n_tt
    refine q _ ?_ fun H'' kp => ⟨⟨dx, m, te, tt, kp _ _ (.inr rfl) upd_same, ⟨⟨dm, D0, kp _ _ (.inl zm) (by rw [upd_ne nm]; exact e_m12), kp _ _ (.inl zD) (by rw [upd_ne nD0]; exact e_D12)⟩, wf, h1, h3⟩, kp _ _ (.inl zte) (by rw [upd_ne nte]; exact e_te12), kp _ _ (.inl ztt) (by rw [upd_ne ntt]; exact e_tt)⟩, ascE_len n Es h3, ascE_len n Ts h3⟩
    exact ((((offS s06).tr o7).tr (offS s9)).tr o10).tr ((offS s12).tr Off.lock)
end
end My
set_option maxHeartbeats 1000000
namespace My
open PySem L2 U StX PM
/-! ### known, ends, starts, in, ==, repr of partly known maps -/
def spKnown (C CM : Addr) : Sp := fun vs H Q _ => ∃ s n f es ts, vs = [.ref s] ∧ IsPart C CM H s n f es ts ∧ ∀ m, IsMap CM H m n f → Q (.ref m) H
def spEnds (C CM : Addr) : Sp := fun vs H Q _ => ∃ s n f es ts, vs = [.ref s] ∧ IsPart C CM H s n f es ts ∧ ∀ t, H t = some (.tup (es.map V.int)) → Q (.ref t) H
def spStarts (C CM : Addr) : Sp := fun vs H Q _ => ∃ s n f es ts, vs = [.ref s] ∧ IsPart C CM H s n f es ts ∧ ∀ t, H t = some (.tup (ts.map V.int)) → Q (.ref t) H
/-- f fits the knowledge -/
def fitB (n : Int) (f g : PF) (es ts : List Int) : Bool := (tab n g).all (fun p => decide (f p.1 = some p.2)) && !(es.any (fun e => (f e).isSome)) && !(ts.any fun t => decide (t ∈ (tab n f).map (·.2)))
def spInP (C CM : Addr) : Sp := fun vs H Q _ => ∃ s n g es ts x, vs = [.ref s, x] ∧ IsPart C CM H s n g es ts ∧ ((nonMapV H x ∧ Q (.bl false) H) ∨ ∃ a n' f, x = .ref a ∧ IsMap CM H a n' f ∧ ∀ H', Same H H' → Q (.bl (decide (n' = n) && fitB n f g es ts)) H')
def nonPartV (CM : Addr) (H : Hp) (y : V) : Prop := nonMapV H y ∨ ∃ a n f, y = .ref a ∧ IsMap CM H a n f
def eqP (n : Int) (f : PF) (es ts : List Int) (n' : Int) (f' : PF) (es' ts' : List Int) : Bool := decide (es = es') && decide (ts = ts') && eqB n f n' f'
def spEqP (C CM : Addr) : Sp := fun vs H Q _ => ∃ s n f es ts y, vs = [.ref s, y] ∧ IsPart C CM H s n f es ts ∧ ((nonPartV CM H y ∧ Q (.bl false) H) ∨ ∃ b n' f' es' ts', y = .ref b ∧ IsPart C CM H b n' f' es' ts' ∧ Q (.bl (eqP n f es ts n' f' es' ts')) H)
def tuD (l : List Int) : PyData := .tuple (l.map PyData.int)
def okTu (l : List Int) : Prop := (tuD l).showable = true ∧ (tuD l).hasDict = false ∧ (tuD l).depth ≤ 60 ∧ (tuD l).shown.length ≤ 1000
def reprP (n : Int) (f : PF) (es ts : List Int) : Str := Str.empty ++ "Partial(" ++ toString n ++ ", " ++ (dI (tab n f)).shown ++ ", ends=" ++ (tuD es).shown ++ ", starts=" ++ (tuD ts).shown ++ ")"
def spReprP (C CM : Addr) : Sp := fun vs H Q _ => ∃ s n f es ts, vs = [.ref s] ∧ IsPart C CM H s n f es ts ∧ okTu es ∧ okTu ts ∧ ∀ H', Same H H' → Q (.str (reprP n f es ts)) H'
def tFmtL (K : PySem.W.Frag) (te : TE) : TE := fun σ H Q => te σ H fun x H1 => ∃ a d, x = .ref a ∧ Dp K H1 (.ref a) d ∧ d.showable = true ∧ d.hasDict = false ∧ d.depth ≤ 60 ∧ d.shown.length ≤ sizeLine ∧ Q (.str d.shown) H1
theorem pe_fmtL {X : Cx} {e : Expr} {te : TE} {pos : PySem.Pos} (g : X.A.guards = some []) (hu : X.A.units + 64 < cLine) (he : PE X e te) : PE X (.FormattedValue e 114 none pos) (tFmtL X.K te) := by
  refine ⟨fun pins s σ H Q I h => ?_⟩
  refine wpAny_FormattedValue_repr (thn (he.run pins s σ H _ I h) fun v s1 hv => ?_)
  obtain ⟨x, H1, I1, r1, a, d, rfl, hd, hs, hn, hdp, hz, q⟩ := hv
  cases (show v = Value.ref a from r1)
  obtain ⟨as, rd⟩ := Dp.reads I1 d _ _ hd r1
  refine pyReprObj_of_reads rd hs (PyData.noDict_hsm hn) g (by omega) (fun _ _ e => e) (fun h' u tk hk => ?_) hz
  have I2 : Inv X pins σ H1 { s1 with heap := h', toks := tk } := I1.kept (t' := tk) hk
  exact wpAny_formatField_str ⟨.str _, H1, I2, ⟨_, rfl⟩, q⟩ ⟨.str _, H1, I2.tok _, ⟨_, rfl⟩, q⟩ hz
theorem decN {i j : Int} : decide (V.int i = V.int j) = decide (i = j) := decide_eq_decide.mpr ⟨fun z => V.int.inj z, fun z => by rw [z]⟩
theorem dp_tu {K : PySem.W.Frag} {H : Hp} {t : Addr} {l : List Int} (h : H t = some (.tup (l.map V.int))) : Dp K H (.ref t) (tuD l) := .tup (SqT.of h) (dp_ints l)
theorem lay_tu (l : List Int) : PyData.canLayAll0 (l.map PyData.int) = true ∧ PyData.depthAll (l.map PyData.int) ≤ 1 := by
  induction l with
  | nil => exact ⟨rfl, Nat.zero_le _⟩
  | cons p l ih =>
    refine ⟨?_, ?_⟩
    · show (PyData.canLay0 (.int p) && PyData.canLayAll0 (l.map PyData.int)) = true
      rw [ih.1]; rfl
    · show max (PyData.depth (.int p)) (PyData.depthAll (l.map PyData.int)) ≤ 1
      have : PyData.depth (.int p) = 0 := rfl
      omega
theorem shp_tu (l : List Int) : SeqAt.shaped (tuD l) = true := by
  unfold tuD SeqAt.shaped
  have h := lay_tu l
  rw [Bool.and_eq_true]
  refine ⟨h.1, decide_eq_true ?_⟩
  show PyData.depthAll (l.map PyData.int) + 1 ≤ 64
  omega
/-- [.. for x in t], t a tuple of ints -/
theorem lc_tupC {K : PySem.W.Frag} {te : TE} {i : Nat} {tv : TE} {vs : List Nat} {σ : L2.St} {H0 H : Hp} {Q : VK} {E : List Int} {a : Addr} (c : Int → Bool) (hte : ∀ R : VK, R (.ref a) H → te σ H0 R) (ha : H a = some (.tup (E.map V.int))) (hw : ∀ a, wipe ((wipe σ vs).set i a) vs = wipe σ vs)
    (hb : ∀ x : Int, ∀ H1, Same H H1 → ∀ R : VK, R (.bl (c x)) H1 → tv ((wipe σ vs).set i (some (.int x))) H1 R) (hz : E.length < sizeLine)
    (hq : ∀ D H', H D = none → H' D = some (.lst ((E.map c).map V.bl)) → Same H H' → Q (.ref D) H') : tLc (iTup K te) (gName i) tYes tv vs σ H0 Q := by
  refine hte _ ⟨a, rfl, ⟨_, SqT.of ha⟩, fun D hD => ?_⟩
  refine lc_it (walk_tup (xs := E.map V.int)) (fun k H' => Same H H' ∧ H' D = some (.lst (((E.take k).map c).map V.bl))) ⟨Same.new hD, upd_same⟩ (fun k H' _ p => SqT.of (p.1 _ _ ha)) ?_ ?_
  · rintro k v H' H'' hk ⟨s1, e1⟩ ⟨rfl, ev⟩
    rw [List.getElem?_map] at ev
    cases ex : E[k]? with
    | none => rw [ex] at ev; cases ev
    | some x =>
      rw [ex] at ev
      cases ev
      refine ⟨hw _, yes_ (hb x _ s1 _ ⟨_, e1, ?_, Same.put s1 hD, ?_⟩)⟩
      · rw [List.length_map, List.length_map, List.length_take]
        omega
      · rw [upd_same, take_more ex, List.map_append, List.map_append]
        rfl
  · rintro H' ⟨s1, e1⟩
    rw [List.length_map, List.take_length] at e1
    exact hq D H' hD e1 s1
theorem len_app {a b : Str} {i j : Nat} (h1 : a.length ≤ i) (h2 : b.length ≤ j) : (a ++ b).length ≤ i + j := by rw [strLen_append]; omega
theorem nv_of {r : List V → Hp → VK → Prop} {t : TE} {σ : L2.St} {H : Hp} {Q : VK} (h : t σ H fun x H1 => r [x] H1 fun y H2 => ∃ c, y = .bl c ∧ Q (.bl (!c)) H2) : tNotV (tCB r (tCons t tNil)) σ H Q := h
theorem asgT_of {t : TE} {g : TG} {D : Ends} {σ : L2.St} {H : Hp} (h : t σ H fun v H' => g v σ H' fun σ' H'' => D.nx σ' H'') : tAsg t g D σ H := h
theorem eqv_tu : ∀ (l l' : List Int), PyData.eqv (tuD l) (tuD l') = decide (l = l')
  | [], [] => rfl
  | [], _ :: _ => by rw [decide_eq_false (by intro z; cases z)]; rfl
  | _ :: _, [] => by rw [decide_eq_false (by intro z; cases z)]; rfl
  | p :: l, q :: l' => by
    have ih := eqv_tu l l'
    have e : PyData.eqv (tuD (p :: l)) (tuD (q :: l')) = ((p == q) && PyData.eqv (tuD l) (tuD l')) := rfl
    rw [e, ih]
    by_cases h1 : p = q <;> by_cases h3 : l = l' <;> simp [h1, h3]
section
variable {P : Program} {w : World} {K : PySem.W.Frag} {mg : Str → Option Value} {base : Heap}
theorem ty_nonPart (T : Txt K mg) {H : Hp} {x : V} (h : nonPartV T.C_Map H x) : ∃ t, TyX K H x t ∧ PySem.W.kitOne K t (.ref T.C_Partial) = some false := by
  rcases h with h | ⟨a, n, f, rfl, hm⟩
  · cases x with
    | non => exact ⟨_, .base .non, T.kn_NoneType_Partial⟩
    | bl b => exact ⟨_, .base (.bl b), T.kn_bool_Partial⟩
    | int i => exact ⟨_, .base (.int i), T.kn_int_Partial⟩
    | str z => exact ⟨_, .base (.str z), T.kn_str_Partial⟩
    | ref a =>
      rcases h with ⟨xs, e⟩ | ⟨xs, e⟩ | ⟨xs, e⟩
      · exact ⟨_, .base (.lst e), T.kn_list_Partial⟩
      · exact ⟨_, .base (.tup e), T.kn_tuple_Partial⟩
      · exact ⟨_, .base (.dK e), T.kn_dict_Partial⟩
    | byt b => exact h.elim
    | flt b => exact h.elim
    | ty b => exact h.elim
  · obtain ⟨dx, fs, e⟩ := at_map hm
    exact ⟨_, tyx_ins T.o_Map e, T.kx_Map_Partial⟩
theorem ok_known (T : Txt K mg) : FnR P w K mg base CX0 1 T.f_Partial_known (spKnown T.C_Partial T.C_Map) := by
  refine T.A_Partial_known.ok sc_Partial_known (fun vs H Q E h => ?_) (fun cdv A outer s H vs Q E hr h => ?_)
  · obtain ⟨a, n, f, es, ts, rfl, _⟩ := h
    rfl
  · obtain ⟨a, n, f, es, ts, rfl, ⟨⟨dx, m, te, tt, h1, hm, h2, h3⟩, _, _⟩, q⟩ := h
    refine ⟨_, pss_one (ps_ret (pe_fld (pv 0) rfl)), ?_⟩
    exact ⟨_, rfl, a, _, dx, _, _, rfl, h1, T.o_Partial.cl, T.na_own_known_Partial, pfl_known _ _ _, q m hm⟩
theorem ok_ends (T : Txt K mg) : FnR P w K mg base CX0 1 T.f_Partial_ends (spEnds T.C_Partial T.C_Map) := by
  refine T.A_Partial_ends.ok sc_Partial_ends (fun vs H Q E h => ?_) (fun cdv A outer s H vs Q E hr h => ?_)
  · obtain ⟨a, n, f, es, ts, rfl, _⟩ := h
    rfl
  · obtain ⟨a, n, f, es, ts, rfl, ⟨⟨dx, m, te, tt, h1, hm, h2, h3⟩, _, _⟩, q⟩ := h
    refine ⟨_, pss_one (ps_ret (pe_fld (pv 0) rfl)), ?_⟩
    exact ⟨_, rfl, a, _, dx, _, _, rfl, h1, T.o_Partial.cl, T.na_own_ends_Partial, pfl_ends _ _ _, q te h2⟩
theorem ok_starts (T : Txt K mg) : FnR P w K mg base CX0 1 T.f_Partial_starts (spStarts T.C_Partial T.C_Map) := by
  refine T.A_Partial_starts.ok sc_Partial_starts (fun vs H Q E h => ?_) (fun cdv A outer s H vs Q E hr h => ?_)
  · obtain ⟨a, n, f, es, ts, rfl, _⟩ := h
    rfl
  · obtain ⟨a, n, f, es, ts, rfl, ⟨⟨dx, m, te, tt, h1, hm, h2, h3⟩, _, _⟩, q⟩ := h
    refine ⟨_, pss_one (ps_ret (pe_fld (pv 0) rfl)), ?_⟩
    exact ⟨_, rfl, a, _, dx, _, _, rfl, h1, T.o_Partial.cl, T.na_own_starts_Partial, pfl_starts _ _ _, q tt h3⟩
set_option pp.maxSteps 3000 in
theorem ok_eqP (T : Txt K mg) : FnR P w K mg base CX0 10 T.f_Partial__eq (spEqP T.C_Partial T.C_Map) := by
  refine T.A_Partial__eq.ok sc_Partial__eq (fun vs H Q E h => ?_) (fun cdv A outer s H vs Q E hr h => ?_)
  · obtain ⟨a, n, f, es, ts, y, rfl, _⟩ := h
    rfl
  · obtain ⟨a, n, f, es, ts, y, rfl, hp, h⟩ := h
    have hu := hu_of hr
    refine ⟨_, (pss_cons (ps_if (pt_not (pt_val (pe_callB call_isi (by rfl) T.n_isinstance (by decide +kernel) (pa_cons (pv 1) (pa_cons (pe_glob (v := .ref T.C_Partial) rfl T.g_Partial rfl) pa_nil)))))
        (pss_one (ps_ret pe_bl)) pss_nil)
      (pss_cons (ps_if (PW.pt (pw_or (pt_cmpR (L2.op_neD hr.units) (pe_fld (pv 0) rfl) (pe_fld (pv 1) rfl) (nomark _)) (pw_or1 (pt_cmpR (L2.op_neD hr.units) (pe_fld (pv 0) rfl) (pe_fld (pv 1) rfl) (nomark _)))))
        (pss_one (ps_ret pe_bl)) pss_nil)
      (pss_one (ps_ret (pe_cmpR (op_cmp (fun _ _ => rfl) T.m_Map__eq T.i_Map__eq (ok_eq T) (hr.mono (by decide)) pass0) (pe_fld (pv 0) rfl) (pe_fld (pv 1) rfl) (nomark _)))))), ?_⟩
    obtain ⟨dx, m, te, tt, h1, hm, h2, h3⟩ := id hp.ob
    rcases h with ⟨hy, q⟩ | ⟨b, n', f', es', ts', rfl, hb, q⟩
    · obtain ⟨t, ht, hk⟩ := ty_nonPart T hy
      exact ⟨_, rfl, _, _, _, _, false, rfl, .own _, ht, hk, _, rfl, iteT q⟩
    · obtain ⟨dy, m', te', tt', g1, gm, g2, g3⟩ := id hb.ob
      refine ⟨_, rfl, _, _, _, _, true, rfl, .own _, tyx_ins T.o_Partial g1, T.self_Partial, _, rfl, iteF ?_⟩
      refine ⟨_, rfl, a, _, dx, _, _, rfl, h1, T.o_Partial.cl, T.na_own_ends_Partial, pfl_ends _ _ _, _, rfl, b, _, dy, _, _, rfl, g1, T.o_Partial.cl, T.na_own_ends_Partial, pfl_ends _ _ _, tuD es, tuD es', dp_tu h2, dp_tu g2, shp_tu _, shp_tu _, _, rfl, ?_⟩
      rw [eqv_tu]
      unfold eqP at q
      by_cases he : es = es'
      case neg =>
        rw [decide_eq_false he] at q ⊢
        exact iteT (iteT q)
      rw [decide_eq_true he, Bool.true_and] at q
      rw [decide_eq_true he]
      refine iteF ⟨_, rfl, a, _, dx, _, _, rfl, h1, T.o_Partial.cl, T.na_own_starts_Partial, pfl_starts _ _ _, _, rfl, b, _, dy, _, _, rfl, g1, T.o_Partial.cl, T.na_own_starts_Partial, pfl_starts _ _ _, tuD ts, tuD ts', dp_tu h3, dp_tu g3, shp_tu _, shp_tu _, _, rfl, ?_⟩
      rw [eqv_tu]
      by_cases hs : ts = ts'
      case neg =>
        rw [decide_eq_false hs] at q ⊢
        exact iteT q
      rw [decide_eq_true hs, Bool.true_and] at q
      rw [decide_eq_true hs]
      refine iteF ⟨_, rfl, a, _, dx, _, _, rfl, h1, T.o_Partial.cl, T.na_own_known_Partial, pfl_known _ _ _, _, rfl, b, _, dy, _, _, rfl, g1, T.o_Partial.cl, T.na_own_known_Partial, pfl_known _ _ _, ?_⟩
      exact ⟨m, _, _, m', _, _, rfl, rfl, (at_map hm).choose_spec.choose_spec, (at_map gm).choose_spec.choose_spec, m, m', n, f, n', f', rfl, hm, gm, q⟩
set_option pp.maxSteps 3000 in
theorem ok_inP (T : Txt K mg) : FnR P w K mg base CX0 6 T.f_Partial__contains (spInP T.C_Partial T.C_Map) := by
  refine T.A_Partial__contains.ok sc_Partial__contains (fun vs H Q E h => ?_) (fun cdv A outer s H vs Q E hr h => ?_)
  · obtain ⟨a, n, f, es, ts, y, rfl, _⟩ := h
    rfl
  · obtain ⟨a, n, g, es, ts, y, rfl, hp, h⟩ := h
    have hu := hu_of hr
    refine ⟨_, (pss_cons (ps_if (PW.pt (pw_or (pt_not (pt_val (pe_callB call_isi (by rfl) T.n_isinstance (by decide +kernel) (pa_cons (pv 1) (pa_cons (pe_glob (v := .ref T.C_Map) rfl T.g_Map rfl) pa_nil))))) (pw_or1 (pt_cmpR op_ne (pe_propR (pv 1) T.o_Map.cl T.P_Map_size (ok_size T) (hr.mono (by decide))) (pe_propR (pe_fld (pv 0) rfl) T.o_Map.cl T.P_Map_size (ok_size T) (hr.mono (by decide))) (nomark _)))))
        (pss_one (ps_ret pe_bl)) pss_nil)
      (pss_cons (ps_asg (pe_tup (pa_cons (pe_propR (pv 1) T.o_Map.cl T.P_Map_arrows (ok_arrows T) (hr.mono (by decide))) (pa_cons (pe_propR (pe_fld (pv 0) rfl) T.o_Map.cl T.P_Map_arrows (ok_arrows T) (hr.mono (by decide))) pa_nil))) (pg_tup rfl (pgs_cons (pg_name (i := 2) sc_Partial__contains.nd rfl (Or.inr rfl)) (pgs_cons (pg_name (i := 3) sc_Partial__contains.nd rfl (Or.inl rfl)) pgs_nil))))
      (pss_cons (ps_if (pt_not (pt_val (pe_callB (cr_all rfl) (by rfl) T.n_all (by decide +kernel) (pa_cons (pe_lock (pe_lc (own := [("source", 5), ("target", 6)]) (g := (gTup K 2 (gCons (gName 5) (gCons (gName 6) gNil)))) (tt := tYes) rfl sc_Partial__contains.nd (pi_items (pv 3)) (blkOk_by (own := [("source", 5), ("target", 6)]) (N := n_Partial__contains) (sc := defScope s_Partial__contains) (by decide +kernel)) (fun _ _ _ _ _ => (pg_tup rfl (pgs_cons (pg_name (i := 5) sc_Partial__contains.nd rfl (Or.inl rfl)) (pgs_cons (pg_name (i := 6) sc_Partial__contains.nd rfl (Or.inl rfl)) pgs_nil)))) (fun _ _ _ _ _ => pts_nil) (fun _ _ _ _ _ => (pe_cmpR op_eq (pe_dget1 hu (pv 2) (pv 5) ⟨rfl, rfl, rfl, rfl⟩) (pv 6) (nomark _))))) pa_nil))))
        (pss_one (ps_ret pe_bl)) pss_nil)
      (pss_cons (ps_set (i := 4) sc_Partial__contains.nd rfl (Or.inr rfl) (pe_lock (pe_dc (own := [("target", 6)]) (g := (gName 6)) (tt := tYes) rfl sc_Partial__contains.nd (pi_values (pv 2)) (blkOk_by (own := [("target", 6)]) (N := n_Partial__contains) (sc := defScope s_Partial__contains) (by decide +kernel)) (fun _ _ _ _ _ => (pg_name (i := 6) sc_Partial__contains.nd rfl (Or.inl rfl))) (fun _ _ _ _ _ => pts_nil) (fun _ _ _ _ _ => (pv 6)) (fun _ _ _ _ _ => pe_bl))))
      (pss_cons (ps_if (pt_val (pe_callB (cr_any rfl) (by rfl) T.n_any (by decide +kernel) (pa_cons (pe_lc (own := [("one", 7)]) (g := (gName 7)) (tt := tYes) rfl sc_Partial__contains.nd (pi_tup (pe_fld (pv 0) rfl)) (blkOk_by (own := [("one", 7)]) (N := n_Partial__contains) (sc := defScope s_Partial__contains) (by decide +kernel)) (fun _ _ _ _ _ => (pg_name (i := 7) sc_Partial__contains.nd rfl (Or.inl rfl))) (fun _ _ _ _ _ => pts_nil) (fun _ _ _ _ _ => (pe_cmp (pc_din hu (pv 7) (pv 2))))) pa_nil)))
        (pss_one (ps_ret pe_bl)) pss_nil)
      (pss_one (ps_ret (pe_not (pe_callB (cr_any rfl) (by rfl) T.n_any (by decide +kernel) (pa_cons (pe_lc (own := [("one", 7)]) (g := (gName 7)) (tt := tYes) rfl sc_Partial__contains.nd (pi_tup (pe_fld (pv 0) rfl)) (blkOk_by (own := [("one", 7)]) (N := n_Partial__contains) (sc := defScope s_Partial__contains) (by decide +kernel)) (fun _ _ _ _ _ => (pg_name (i := 7) sc_Partial__contains.nd rfl (Or.inl rfl))) (fun _ _ _ _ _ => pts_nil) (fun _ _ _ _ _ => (pe_cmp (pc_din hu (pv 7) (pv 4))))) pa_nil)))))))))), ?_⟩
    obtain ⟨dx, m, te, tt, h1, hm, h2, h3⟩ := id hp.ob
    obtain ⟨dm, fm, em⟩ := at_map hm
    rcases h with ⟨hy, q⟩ | ⟨b, n', f, rfl, hb, q⟩
    · obtain ⟨t, ht, hk⟩ := ty_nonmap T hy
      exact ⟨_, rfl, _, _, _, _, false, rfl, .own _, ht, hk, _, rfl, iteT (iteT q)⟩
    · obtain ⟨dy, fy, ey⟩ := at_map hb
      refine ⟨_, rfl, _, _, _, _, true, rfl, .own _, tyx_ins T.o_Map ey, T.self_Map, _, rfl, iteF ?_⟩
      refine ⟨_, rfl, b, dy, _, rfl, ey, b, n', f, rfl, hb, _, rfl, a, _, dx, _, _, rfl, h1, T.o_Partial.cl, T.na_own_known_Partial, pfl_known _ _ _, m, dm, _, rfl, em, m, n, g, rfl, hm, rfl, _, rfl, ?_⟩
      rw [decN]
      by_cases hn : n' = n
      case neg =>
        rw [decide_eq_false hn, Bool.false_and] at q
        rw [decide_eq_false hn]
        exact iteT (q H (Same.refl H))
      subst hn
      rw [decide_eq_true rfl]
      refine iteF ?_
      dsimp only [tNext, tSeq]
      refine asgT_of ?_
      refine ⟨_, rfl, b, dy, _, rfl, ey, b, _, f, rfl, hb, fun A1 n_A1 => ?_⟩
      have s1 : Same H (upd H A1 (.dK (kvI (tab n' f)))) := Same.new n_A1
      have e_A1 : (upd H A1 (.dK (kvI (tab n' f)))) A1 = _ := upd_same
      generalize upd H A1 (.dK (kvI (tab n' f))) = H1 at s1 e_A1 ⊢
      refine ⟨_, rfl, a, _, dx, _, _, rfl, s1 _ _ h1, T.o_Partial.cl, T.na_own_known_Partial, pfl_known _ _ _, m, dm, _, rfl, s1 _ _ em, m, _, g, rfl, hm.same s1, fun A2 n_A2 => ?_⟩
      have s2 : Same H1 (upd H1 A2 (.dK (kvI (tab n' g)))) := Same.new n_A2
      have e_A2 : (upd H1 A2 (.dK (kvI (tab n' g)))) A2 = _ := upd_same
      generalize upd H1 A2 (.dK (kvI (tab n' g))) = H2 at s2 e_A2 ⊢
      refine ⟨by show 2 ≤ sizeLine; decide, fun t n_t => ⟨t, [.ref A1, .ref A2], rfl, SqT.of upd_same, rfl, _, _, rfl, _, _, rfl, rfl, ?_⟩⟩
      have s3 : Same H2 (upd H2 t (.tup [.ref A1, .ref A2])) := Same.new n_t
      generalize upd H2 t (.tup [.ref A1, .ref A2]) = H3 at s3 ⊢
      have e1 := s3 _ _ (s2 _ _ e_A1)
      have e2 := s3 _ _ e_A2
      have ne12 : A1 ≠ A2 := fun z => by rw [z, n_A2] at e_A1; cases e_A1
      have s03 : Same H H3 := (s1.trans s2).trans s3
      have tlf := tab_len n' f
      have tlg := tab_len n' g
      have h9 := hm.hi
      have hA : ∀ x, lk (tab n' f) x = f x := fun x => (di_tab hb.wf).at_ x
      dsimp only [tSeq]
      refine nb_of (lc_items (l := tab n' g) (fun _ _ => true) (fun x y => .bl (decide (lk (tab n' f) x = some y))) e2 (fun H' R r o => ⟨_, rfl, r⟩) (fun _ _ => rfl) ?_ (small1000 (by omega)) ?_)
      · intro x y hxy H4 o
        have e4 := o _ _ ne12 e1
        refine ⟨fun R k => k, fun _ R k => ?_⟩
        refine ⟨_, rfl, A1, rfl, isD_of e4, _, rfl, _, DGet.k (k := Sum.inl x) e4, _, rfl, ?_⟩
        rw [valV_kvI]
        refine ⟨scal_get _ _, ?_⟩
        rw [eq_get]
        exact k
      intro D H4 n_D e_D s4
      rw [all_made (tab n' g) fun x y => decide (lk (tab n' f) x = some y)] at e_D
      refine ⟨D, _, rfl, SqL.of e_D, _, rfl, ?_⟩
      rw [List.all_map]
      unfold fitB at q
      have ea : (tab n' g).all (id ∘ fun p => decide (lk (tab n' f) p.1 = some p.2)) = (tab n' g).all fun p => decide (f p.1 = some p.2) := by
        congr 1
        funext p
        show decide (lk (tab n' f) p.1 = some p.2) = _
        rw [hA]
      rw [ea]
      rw [decide_eq_true rfl, Bool.true_and] at q
      cases hall : (tab n' g).all fun p => decide (f p.1 = some p.2) with
      | false =>
        rw [hall] at q
        exact iteT (q H4 (s03.trans s4))
      | true =>
      rw [hall, Bool.true_and] at q
      refine iteF ?_
      dsimp only [tNext, tSeq]
      refine asg_of (dc_vals (s4 _ _ e1) (fun H' R r o => ⟨_, rfl, r⟩) (fun _ => rfl) (fun _ _ _ r => r) (fun _ _ _ r => ⟨_, rfl, r⟩) (fun _ _ _ r => r) (vals_tab hb.wf) (small1000 (by omega)) (fun tg H5 n_tg e_tg s5 => ?_))
      have s05 : Same H H5 := (s03.trans s4).trans s5
      dsimp only [tSeq]
      refine bb_of (lc_tupC (H := H5) (fun i => (f i).isSome) (fun R r => ⟨_, rfl, a, _, dx, _, _, rfl, s05 _ _ h1, T.o_Partial.cl, T.na_own_ends_Partial, pfl_ends _ _ _, r⟩) (s05 _ _ h2) (fun _ => rfl) (fun x H6 s6 R r => ?_) ?_ fun D2 H6 n_D2 e_D2 s6 => ⟨D2, _, rfl, SqL.of e_D2, _, rfl, ?_⟩)
      · refine ⟨_, rfl, _, rfl, A1, _, rfl, dget_l (s6 _ _ (s5 _ _ (s4 _ _ e1))) (di_tab hb.wf) x, ?_⟩
        rw [Option.isSome_map]
        exact r
      · exact small1000 (by have := hp.el; omega)
      rw [anyE]
      have s06 := s05.trans s6
      cases he : es.any fun i => (f i).isSome with
      | true =>
        rw [he] at q
        exact iteT (q H6 s06)
      | false =>
      rw [he, Bool.not_false, Bool.true_and] at q
      refine iteF ?_
      dsimp only [tNext, tSeq]
      refine ret_of (nv_of (lc_tupC (H := H6) (fun i => decide (i ∈ (tab n' f).map (·.2))) (fun R r => ⟨_, rfl, a, _, dx, _, _, rfl, s06 _ _ h1, T.o_Partial.cl, T.na_own_starts_Partial, pfl_starts _ _ _, r⟩) (s06 _ _ h3) (fun _ => rfl) (fun x H7 s7 R r => ?_) ?_ fun D3 H7 n_D3 e_D3 s7 => ⟨D3, _, rfl, SqL.of e_D3, _, rfl, ?_⟩))
      · refine ⟨_, rfl, _, rfl, tg, _, rfl, DGet.k (k := Sum.inl x) (s7 _ _ (s6 _ _ e_tg)), ?_⟩
        rw [tgt_val]
        exact r
      · exact small1000 (by have := hp.tl; omega)
      rw [anyE]
      exact q H7 (s06.trans s7)
set_option pp.maxSteps 3000 in
theorem ok_reprP (T : Txt K mg) : FnG P w K mg base CX0 10 T.f_Partial__repr (spReprP T.C_Partial T.C_Map) := by
  refine T.A_Partial__repr.okG sc_Partial__repr (fun vs H Q E h => ?_) (fun cdv A outer s H vs Q E gd hr h => ?_)
  · obtain ⟨a, n, f, es, ts, rfl, _⟩ := h
    rfl
  · obtain ⟨a, n, f, es, ts, rfl, hp, oe, ot, q⟩ := h
    have hu := hu_of hr
    refine ⟨_, pss_cons (ps_set (i := 1) sc_Partial__repr.nd rfl (Or.inl rfl) (pe_fld (pv 0) rfl)) (pss_one (ps_ret (pe_joined (.cons pe_str (.cons (pe_fmt (pe_propR (pv 1) T.o_Map.cl T.P_Map_size (ok_size T) (hr.mono (by decide)))) (.cons pe_str (.cons (pe_fmtF gd hr.units (pe_propR (pv 1) T.o_Map.cl T.P_Map_arrows (ok_arrows T) (hr.mono (by decide)))) (.cons pe_str (.cons (pe_fmtL gd hr.units (pe_fld (pv 0) rfl)) (.cons pe_str (.cons (pe_fmtL gd hr.units (pe_fld (pv 0) rfl)) (.cons pe_str .nil)))))))))))), ?_⟩
    obtain ⟨dx, m, te, tt, h1, hm, h2, h3⟩ := id hp.ob
    obtain ⟨dm, fm, em⟩ := at_map hm
    have hn : small n := by have := hm.lo; have := hm.hi; unfold small; omega
    have hs := tab_small hm.wf hm.hi
    have tl := tab_len n f
    have h9 := hm.hi
    have l1 := small_len hn
    have l2 := dI_len hs (by omega)
    have big : 50000 ≤ sizeLine := by decide
    have c1 : (Str.empty ++ Str.ofString "Partial(").length ≤ 8 := by decide
    have c2 := len_app c1 l1
    have c3 := len_app c2 (show (Str.ofString ", ").length ≤ 2 by decide)
    have c4 := len_app c3 l2
    have c5 := len_app c4 (show (Str.ofString ", ends=").length ≤ 7 by decide)
    have c6 := len_app c5 oe.2.2.2
    have c7 := len_app c6 (show (Str.ofString ", starts=").length ≤ 9 by decide)
    have c8 := len_app c7 ot.2.2.2
    have c9 := len_app c8 (show (Str.ofString ")").length ≤ 1 by decide)
    dsimp only [tSeq]
    refine asg_of ?_
    refine ⟨_, rfl, a, _, dx, _, _, rfl, h1, T.o_Partial.cl, T.na_own_known_Partial, pfl_known _ _ _, ?_⟩
    dsimp only
    refine ret_of ?_
    refine ⟨_, rfl, Nat.le_trans c1 (by omega), ?_⟩
    refine ⟨_, rfl, m, dm, _, rfl, em, m, n, f, rfl, hm, .inr ⟨n, rfl, small_log hn, _, rfl, Nat.le_trans c2 (by omega), ?_⟩⟩
    refine ⟨_, rfl, Nat.le_trans c3 (by omega), ?_⟩
    refine ⟨_, rfl, m, dm, _, rfl, em, m, n, f, rfl, hm, fun p hp' => ⟨p, kvI (tab n f), _, rfl, upd_same, dI_sc _, dI_able hs, dI_depth _, Nat.le_trans l2 (by omega), _, rfl, Nat.le_trans c4 (by omega), ?_⟩⟩
    have s1 : Same H (upd H p (.dK (kvI (tab n f)))) := Same.new hp'
    generalize upd H p (.dK (kvI (tab n f))) = H1 at s1 ⊢
    refine ⟨_, rfl, Nat.le_trans c5 (by omega), ?_⟩
    refine ⟨_, rfl, a, _, dx, _, _, rfl, s1 _ _ h1, T.o_Partial.cl, T.na_own_ends_Partial, pfl_ends _ _ _, te, tuD es, rfl, dp_tu (s1 _ _ h2), oe.1, oe.2.1, oe.2.2.1, Nat.le_trans oe.2.2.2 (by omega), _, rfl, Nat.le_trans c6 (by omega), ?_⟩
    refine ⟨_, rfl, Nat.le_trans c7 (by omega), ?_⟩
    refine ⟨_, rfl, a, _, dx, _, _, rfl, s1 _ _ h1, T.o_Partial.cl, T.na_own_starts_Partial, pfl_starts _ _ _, tt, tuD ts, rfl, dp_tu (s1 _ _ h3), ot.1, ot.2.1, ot.2.2.1, Nat.le_trans ot.2.2.2 (by omega), _, rfl, Nat.le_trans c8 (by omega), ?_⟩
    exact ⟨_, rfl, Nat.le_trans c9 (by omega), q H1 s1⟩
end
end My
set_option maxHeartbeats 1000000
namespace My
open PySem L2 U StX PM
def TabK (H : Hp) (n k : Int) (d : Addr) : Prop := ∃ l f, H d = some (.dK (kvI l)) ∧ DI l f ∧ WF n f ∧ ∀ x, k ≤ x → f x = none
theorem TabK.same {H H' : Hp} {n k : Int} {d : Addr} (h : TabK H n k d) (s : Same H H') : TabK H' n k d := by
  obtain ⟨l, f, e, r⟩ := h
  exact ⟨l, f, s _ _ e, r⟩
def spAll : Sp := fun vs H Q _ => ∃ n, vs = [.int n] ∧ 1 ≤ n ∧ n ≤ 5 ∧ ∀ (L : Addr) (ds : List Addr) (H' : Hp), H L = none → H' L = some (.lst (ds.map V.ref)) → (∀ d ∈ ds, TabK H' n n d ∧ H d = none) → ds.length ≤ 8000 → Same H H' → Q (.ref L) H'
theorem TabK.mono {H : Hp} {n k k' : Int} {d : Addr} (h : TabK H n k d) (hk : k ≤ k') : TabK H n k' d := by
  obtain ⟨l, f, e, di, wf, z⟩ := h
  exact ⟨l, f, e, di, wf, fun x hx => z x (by omega)⟩
/-- one arrow more -/
def putP (f : PF) (x y : Int) : PF := fun z => if z = x then some y else f z
theorem di_putP {l : List (Int × Int)} {f : PF} (di : DI l f) {x y : Int} (h : f x = none) : DI (l ++ [(x, y)]) (putP f x y) := by
  have hx : x ∉ l.map (·.1) := fun hm => by
    obtain ⟨⟨a, b⟩, hp, e⟩ := List.mem_map.mp hm
    have := di.mem.mp hp
    dsimp only at e
    rw [e, h] at this
    cases this
  refine di_of ?_ fun a b => ?_
  · rw [List.map_append, List.nodup_append]
    refine ⟨di.nd, by simp, fun a ha b hb e => ?_⟩
    rw [List.map_cons, List.map_nil, List.mem_singleton] at hb
    rw [e, hb] at ha
    exact hx ha
  · rw [List.mem_append, List.mem_singleton, di.mem]
    unfold putP
    constructor
    · rintro (e | e)
      · have : a ≠ x := fun z => by rw [z, h] at e; cases e
        rw [if_neg this]; exact e
      · cases e
        rw [if_pos rfl]
    · intro e
      by_cases ha : a = x
      · rw [if_pos ha] at e
        cases e
        exact .inr (by rw [ha])
      · rw [if_neg ha] at e
        exact .inl e
theorem wf_putP {n : Int} {f : PF} (wf : WF n f) {x y : Int} (x0 : 0 ≤ x) (x1 : x < n) (y0 : 0 ≤ y) (y1 : y < n) (h : ∀ z, f z ≠ some y) : WF n (putP f x y) := by
  unfold putP
  refine ⟨fun a b e => ?_, fun a a' b e e' => ?_⟩
  · by_cases ha : a = x
    · rw [if_pos ha] at e
      cases e
      exact ⟨by omega, by omega, y0, y1⟩
    · rw [if_neg ha] at e
      exact wf.dom a b e
  · by_cases ha : a = x
    · rw [if_pos ha] at e
      cases e
      by_cases ha' : a' = x
      · rw [ha, ha']
      · rw [if_neg ha'] at e'
        exact absurd e' (h a')
    · rw [if_neg ha] at e
      by_cases ha' : a' = x
      · rw [if_pos ha'] at e'
        cases e'
        exact absurd e (h a)
      · rw [if_neg ha'] at e'
        exact wf.inj a a' b e e'
theorem kvI_put {l : List (Int × Int)} {f : PF} (di : DI l f) {x y : Int} (h : f x = none) : putK (kvI l) (Sum.inl x) (.int y) = kvI (l ++ [(x, y)]) := by
  rw [putK_new _ (by rw [valV_kvI, di.at_, h]; rfl)]
  unfold kvI
  rw [List.map_append]
  rfl
theorem TabK.put {H' : Hp} {n k : Int} {M : Addr} {l : List (Int × Int)} {f : PF} {t : Int} (di : DI l f) (wf : WF n f) (z : ∀ x, k ≤ x → f x = none) (k0 : 0 ≤ k) (k1 : k < n) (t0 : 0 ≤ t) (t1 : t < n) (ht : t ∉ l.map (·.2)) (e : H' M = some (.dK (putK (kvI l) (Sum.inl k) (.int t)))) : TabK H' n (k + 1) M := by
  have hk := z k (Int.le_refl _)
  refine ⟨l ++ [(k, t)], putP f k t, by rw [e, kvI_put di hk], di_putP di hk, wf_putP wf k0 k1 t0 t1 (fun x hx => ht (List.mem_map.mpr ⟨(x, t), di.mem.mpr hx, rfl⟩)), fun x hx => ?_⟩
  unfold putP
  rw [if_neg (by omega)]
  exact z x (by omega)
section
variable {P : Program} {w : World} {K : PySem.W.Frag} {mg : Str → Option Value} {base : Heap}
set_option pp.maxSteps 3000 in
theorem ok_l_all (T : Txt K mg) : FnR P w K mg base CX0 2 T.f_l_all spAll := by
  refine T.A_l_all.ok sc_l_all (fun vs H Q E h => ?_) (fun cdv A outer s H vs Q E hr h => ?_)
  · obtain ⟨n, rfl, _⟩ := h
    rfl
  · obtain ⟨n, rfl, h1, h5, q⟩ := h
    have hu := hu_of hr
    refine ⟨_, (pss_cons (ps_set (i := 1) sc_l_all.nd rfl (Or.inl rfl) (pe_lst (pa_cons pe_dnewK pa_nil)))
      (pss_cons (ps_for PassesOwn.never rfl (pi_range1 rfl T.n_range (pa_cons (pv 0) pa_nil)) (pg_name (i := 2) sc_l_all.nd rfl (Or.inl rfl))
        (pss_cons (ps_set (i := 3) sc_l_all.nd rfl (Or.inl rfl) (pe_lst pa_nil))
      (pss_cons (ps_for PassesOwn.never rfl (pi_list (pv 1)) (pg_name (i := 4) sc_l_all.nd rfl (Or.inl rfl))
        (pss_cons (ps_expr (pe_bm PySem.F.plainAttrs_list PySem.F.slot_list_append PySem.F.type_list_append mt_append (pv 3) (pa_cons (pv 4) pa_nil)))
      (pss_one (ps_for PassesOwn.never rfl (pi_range1 rfl T.n_range (pa_cons (pv 0) pa_nil)) (pg_name (i := 5) sc_l_all.nd rfl (Or.inl rfl))
        (pss_one (ps_if (pt_cmpR (op_notInVw (by rfl)) (pv 5) (pe_dvalsK (K0 := K) rfl (pv 4)) (by rfl))
        (pss_cons (ps_set (i := 6) sc_l_all.nd rfl (Or.inl rfl) (pe_callTy call_dictD (by rfl) T.n_dict (by decide +kernel) (pa_cons (pv 4) pa_nil)))
      (pss_cons (ps_dput hu (pv 6) (pv 2) (pv 5) rfl)
      (pss_one (ps_expr (pe_bm PySem.F.plainAttrs_list PySem.F.slot_list_append PySem.F.type_list_append mt_append (pv 3) (pa_cons (pv 6) pa_nil)))))) pss_nil))))))
      (pss_one (ps_set (i := 1) sc_l_all.nd rfl (Or.inl rfl) (pv 3))))))
      (pss_one (ps_ret (pv 1))))), ?_⟩
    refine fun D0 n_D0 => ?_
    generalize g_D0 : L2.upd _ D0 _ = H1
    obtain ⟨s_H1, e_D0⟩ := U.upd_facts g_D0 n_D0
    clear g_D0
    refine ⟨by show 1 ≤ sizeLine; decide, ?_⟩
    refine fun F0 n_F0 => ?_
    generalize g_F0 : L2.upd _ F0 _ = H2
    obtain ⟨s_H2, e_F0⟩ := U.upd_facts g_F0 n_F0
    clear g_F0
    refine ⟨_, rfl, n, rfl, by omega, by omega, ?_⟩
    refine for_it (walk_range (lo := 0)) (fun k σ H' => ∃ (F : Addr) (ds : List Addr) (v2 v3 v4 v5 v6 : Option V), σ = [some (.int n), some (.ref F), v2, v3, v4, v5, v6] ∧ H F = none ∧ H' F = some (.lst (ds.map V.ref)) ∧ (∀ d ∈ ds, TabK H' n k d ∧ H d = none) ∧ ds.length ≤ 6 ^ k ∧ Same H H')
      ⟨F0, [D0], _, _, _, _, _, rfl, ?_, e_F0, fun d hd => ?_, Nat.le_refl _, (by array_mem_dec)⟩ (fun _ _ _ _ _ => trivial) ?_ ?_
    · cases hF : H F0 with
      | none => rfl
      | some o => rw [s_H1 _ _ hF] at n_F0; cases n_F0
    · rw [List.mem_singleton] at hd
      subst hd
      refine ⟨?_, n_D0⟩
      exact ⟨[], fun _ => none, s_H2 _ _ e_D0, ⟨List.nodup_nil, fun _ => rfl⟩, ⟨fun _ _ z => (by cases z), fun _ _ _ z => (by cases z)⟩, fun _ _ => rfl⟩
    · rintro k v σ Ha0 Ha hk ⟨F, ds, v2, v3, v4, v5, v6, rfl, nF, eF, hds, hdl, sa⟩ ⟨rfl, rfl⟩
      have e0 : (0 + (k : Nat) : Int) = (k : Int) := by omega
      have hk5 : k < 5 := by omega
      have kn : (k : Int) < n := by omega
      have p6 : 6 ^ k ≤ 1296 := by
        have : k = 0 ∨ k = 1 ∨ k = 2 ∨ k = 3 ∨ k = 4 := by omega
        rcases this with rfl | rfl | rfl | rfl | rfl <;> decide
      have bigS : 50000 ≤ sizeLine := by decide
      dsimp only [gName]
      rw [e0]
      refine nx_seq ?_
      refine asg_of ?_
      refine ⟨nil_le, ?_⟩
      refine fun G n_G => ?_
      generalize g_G : L2.upd _ G _ = Hb
      obtain ⟨s_Hb, e_G⟩ := U.upd_facts g_G n_G
      clear g_G
      have nG : H G = none := by
        cases hF : H G with
        | none => rfl
        | some o => rw [sa _ _ hF] at n_G; cases n_G
      have nFG : F ≠ G := fun z => by rw [z, n_G] at eF; cases eF
      refine nx_seq ?_
      refine ⟨_, rfl, F, rfl, ⟨_, SqL.of (s_Hb _ _ eF)⟩, ?_⟩
      refine for_it (walk_list (xs := ds.map V.ref)) (fun j σ H' => ∃ (gs : List Addr) (v4 v5 v6 : Option V), σ = [some (.int n), some (.ref F), some (.int k), some (.ref G), v4, v5, v6] ∧ Same Ha H' ∧ H' G = some (.lst (gs.map V.ref)) ∧ gs.length ≤ 6 * j ∧ ∀ g ∈ gs, TabK H' n (k + 1) g ∧ H g = none)
        ⟨[], _, _, _, rfl, s_Hb, e_G, Nat.le_refl _, fun g h => nomatch h⟩ (fun j σ H' _ ⟨gs, v4, v5, v6, _, p, _⟩ => SqL.of (p _ _ eF)) ?_ ?_
      · rintro j v σ Hc0 Hc hj ⟨gs, v4, v5, v6, rfl, sc, eG, hgl, hgs⟩ ⟨rfl, ev⟩
        rw [List.length_map] at hj
        rw [List.getElem?_map] at ev
        cases ed : ds[j]? with
        | none => rw [ed] at ev; cases ev
        | some d =>
        rw [ed] at ev
        cases ev
        obtain ⟨l, f, hd, di, wf, hz⟩ := (hds d (List.mem_of_getElem? ed)).1.same sc
        have nHd := (hds d (List.mem_of_getElem? ed)).2
        have nGd : d ≠ G := fun z => by
          obtain ⟨l', f', hd', _⟩ := (hds d (List.mem_of_getElem? ed)).1
          rw [z, n_G] at hd'; cases hd'
        dsimp only [tSeq]
        refine ⟨_, rfl, .inl ⟨rfl, _, SqL.of eG⟩, _, rfl, G, _, .ref d, rfl, rfl, eG, Nat.lt_of_lt_of_le (by rw [List.length_map]; omega) bigS, ?_⟩
        have sc1 : Same Ha (upd Hc G (.lst (gs.map V.ref ++ [.ref d]))) := fun b o e => by
          have : b ≠ G := fun z => by rw [z, n_G] at e; cases e
          rw [upd_ne this]; exact sc _ _ e
        have eG1 : (upd Hc G (.lst (gs.map V.ref ++ [.ref d]))) G = some (.lst ((gs ++ [d]).map V.ref)) := by rw [upd_same, List.map_append]; rfl
        have kp1 : ∀ g, TabK Hc n (k + 1) g → TabK (upd Hc G (.lst (gs.map V.ref ++ [.ref d]))) n (k + 1) g := fun g ⟨l, f, e, r⟩ => ⟨l, f, by rw [upd_ne (fun z => by rw [z, eG] at e; cases e)]; exact e, r⟩
        have hg1 : ∀ g ∈ gs ++ [d], TabK (upd Hc G (.lst (gs.map V.ref ++ [.ref d]))) n (k + 1) g ∧ H g = none := fun g hg => by
          rcases List.mem_append.mp hg with hg | hg
          · exact ⟨kp1 g (hgs g hg).1, (hgs g hg).2⟩
          · rw [List.mem_singleton] at hg
            subst hg
            exact ⟨kp1 g (TabK.mono ⟨l, f, hd, di, wf, hz⟩ (by omega)), nHd⟩
        generalize upd Hc G (.lst (gs.map V.ref ++ [.ref d])) = Hd at sc1 eG1 hg1 ⊢
        refine ⟨_, rfl, n, rfl, by omega, by omega, ?_⟩
        refine for_it (walk_range (lo := 0)) (fun t σ H' => ∃ (gs' : List Addr) (v5 v6 : Option V), σ = [some (.int n), some (.ref F), some (.int k), some (.ref G), some (.ref d), v5, v6] ∧ Same Ha H' ∧ H' G = some (.lst (gs'.map V.ref)) ∧ gs'.length ≤ 6 * j + 1 + t ∧ ∀ g ∈ gs', TabK H' n (k + 1) g ∧ H g = none)
          ⟨gs ++ [d], _, _, rfl, sc1, eG1, by rw [List.length_append, List.length_singleton]; omega, hg1⟩ (fun _ _ _ _ _ => trivial) ?_ ?_
        · rintro t v σ He0 He ht ⟨gs', v5, v6, rfl, se, eGe, hgl', hgs'⟩ ⟨rfl, rfl⟩
          have e0 : (0 + (t : Nat) : Int) = (t : Int) := by omega
          dsimp only [gName]
          rw [e0]
          have hde : He d = some (.dK (kvI l)) := by
            obtain ⟨l', f', hd', _⟩ := (hds d (List.mem_of_getElem? ed)).1
            have h1 := sc _ _ hd'
            rw [hd] at h1
            rw [h1]
            exact se _ _ hd'
          refine ⟨_, rfl, _, rfl, .inr (.inr (.inl ⟨rfl, .inl ⟨_, hde⟩⟩)), d, _, rfl, rfl, hde, fun p np => ⟨t, p, d, l.map (·.2), _, rfl, rfl, upd_same, Same.new np _ _ hde, kvI_snd l, _, rfl, ?_⟩⟩
          have sf : Same He (upd He p (valsO p d)) := Same.new np
          generalize upd He p (valsO p d) = Hf at sf ⊢
          by_cases hm : (t : Int) ∈ l.map (·.2)
          · rw [decide_eq_true hm]
            exact iteF ⟨gs', _, _, rfl, se.trans sf, sf _ _ eGe, by omega, fun g hg => ⟨(hgs' g hg).1.same sf, (hgs' g hg).2⟩⟩
          · rw [decide_eq_false hm]
            refine iteT ?_
            dsimp only [tSeq]
            refine asg_of ?_
            refine ⟨_, rfl, d, _, rfl, .inl (sf _ _ hde), ?_⟩
            refine fun M n_M => ?_
            generalize g_M : L2.upd _ M _ = Hg
            obtain ⟨s_Hg, e_M⟩ := U.upd_facts g_M n_M
            clear g_M
            have nMG : M ≠ G := fun z => by rw [z, sf _ _ eGe] at n_M; cases n_M
            refine ⟨_, rfl, _, rfl, _, rfl, M, _, rfl, DPut.k (k := Sum.inl (k : Int)) e_M (small1000 (by have := di_lenN di wf; rw [kvI_length]; omega)), ?_⟩
            have sh : Same Hf (upd Hg M (.dK (putK (kvI l) (Sum.inl (k : Int)) (.int t)))) := fun b o e => by
              have : b ≠ M := fun z => by rw [z, n_M] at e; cases e
              rw [upd_ne this]; exact s_Hg _ _ e
            have eM : (upd Hg M (.dK (putK (kvI l) (Sum.inl (k : Int)) (.int t)))) M = _ := upd_same
            generalize upd Hg M (.dK (putK (kvI l) (Sum.inl (k : Int)) (.int t))) = Hh at sh eM ⊢
            have eGh := sh _ _ (sf _ _ eGe)
            refine ⟨_, rfl, .inl ⟨rfl, _, SqL.of eGh⟩, _, rfl, G, _, .ref M, rfl, rfl, eGh, Nat.lt_of_lt_of_le (by rw [List.length_map]; omega) bigS, ?_⟩
            have skp : ∀ g, TabK Hh n (k + 1) g → TabK (upd Hh G (.lst (gs'.map V.ref ++ [.ref M]))) n (k + 1) g := fun g ⟨l, f, e, r⟩ => ⟨l, f, by rw [upd_ne (fun z => by rw [z, eGh] at e; cases e)]; exact e, r⟩
            refine ⟨gs' ++ [M], _, _, rfl, fun b o e => ?_, by rw [upd_same, List.map_append]; rfl, by rw [List.length_append, List.length_singleton]; omega, fun g hg => ?_⟩
            · have : b ≠ G := fun z => by rw [z, n_G] at e; cases e
              rw [upd_ne this]; exact sh _ _ (sf _ _ (se _ _ e))
            · rcases List.mem_append.mp hg with hg | hg
              · exact ⟨skp g ((hgs' g hg).1.same (fun b o e => sh _ _ (sf _ _ e))), (hgs' g hg).2⟩
              · rw [List.mem_singleton] at hg
                subst hg
                refine ⟨skp g (TabK.put di wf hz (by omega) kn (by omega) (by omega) hm eM), ?_⟩
                cases hx : H g with
                | none => rfl
                | some o => rw [sf _ _ (se _ _ (sa _ _ hx))] at n_M; cases n_M
        · rintro σ He ⟨gs', v5, v6, rfl, se, eGe, hgl', hgs'⟩
          exact ⟨gs', _, _, _, rfl, se, eGe, by omega, hgs'⟩
      · rintro σ Hc ⟨gs, v4, v5, v6, rfl, sc, eG, hgl, hgs⟩
        rw [List.length_map] at hgl
        dsimp only
        refine asg_of ?_
        refine ⟨_, rfl, G, gs, _, _, _, _, _, rfl, nG, eG, hgs, ?_, fun b o e => sc _ _ (sa _ _ e)⟩
        rw [Nat.pow_succ]
        omega
    · rintro σ Ha ⟨F, ds, v2, v3, v4, v5, v6, rfl, nF, eF, hds, hdl, sa⟩
      dsimp only
      refine ret_of ?_
      refine ⟨_, rfl, q F ds Ha nF eF (fun d hd => ?_) ?_ sa⟩
      · have := hds d hd
        rw [show ((n.toNat : Nat) : Int) = n by omega] at this
        exact this
      · have : 6 ^ n.toNat ≤ 6 ^ 5 := Nat.pow_le_pow_right (by decide) (by omega)
        have h6 : (6 : Nat) ^ 5 = 7776 := by decide
        exact Nat.le_trans (Nat.le_trans hdl this) (by rw [h6]; decide)
end
end My
set_option maxHeartbeats 1000000
namespace My
open PySem L2 U StX PM
/-- [(x, d[x]) for x in d if ..], the test draws -/
theorem lc_keysD {p d : Addr} {l : List (Int × Int)} {te : TE} {i : Nat} {tt : TT} {tv : TE} {vs : List Nat} {σ : L2.St} {H : Hp} {Q : VK} (hd : H d = some (.dK (kvI l))) (pool : PoolAt H p) (hte : ∀ H' (R : VK), R (.ref d) H' → te σ H' R)
    (hw : ∀ a, wipe ((wipe σ vs).set i a) vs = wipe σ vs)
    (hb : ∀ x H1, PoolAt H1 p → Rd H1 d (.dK (kvI l)) → ∀ R : Bool → Hp → Prop, (∀ b H2, PoolAt H2 p → Off p H1 H2 → R b H2) → tt ((wipe σ vs).set i (some (.int x))) H1 R)
    (hv : ∀ x y, (x, y) ∈ l → ∀ H1, Rd H1 d (.dK (kvI l)) → ∀ R : VK, (∀ t, H1 t = none → R (.ref t) (upd H1 t (.tup [.int x, .int y]))) → tv ((wipe σ vs).set i (some (.int x))) H1 R)
    (hz : l.length < sizeLine)
    (hq : ∀ (D : Addr) (ps : List Addr) (m : List (Int × Int)) (H' : Hp), H D = none → H' D = some (.lst (ps.map V.ref)) → Paired (fun p (kv : Key × V) => H' p = some (.tup [kV kv.1, kv.2])) ps (kvI m) → m.Sublist l → PoolAt H' p → Off p H H' → Q (.ref D) H') :
    tLockE (tLc (iKeys te) (gName i) tt tv vs) σ H Q := by
  have npd : d ≠ p := fun z => by obtain ⟨xs, e⟩ := pool.lst; rw [z, e] at hd; cases hd
  refine ⟨d, _, hd, trivial, fun od => ?_⟩
  refine hte _ _ ⟨d, od, rfl, .inl ⟨kvI l, upd_same, fun D hD => ?_⟩⟩
  have hDd : D ≠ d := fun e => by rw [e, upd_same] at hD; cases hD
  have hD0 : H D = none := by rw [upd_ne hDd] at hD; exact hD
  have npD : p ≠ D := pool.ne hD0
  refine lc_it walk_keys (fun k H' => H' d = some (.frz od (.dK (kvI l))) ∧ PoolAt H' p ∧ (∀ c o, c ≠ d → c ≠ p → H c = some o → H' c = some o) ∧ ∃ (m : List (Int × Int)) (ps : List Addr), H' D = some (.lst (ps.map V.ref)) ∧ ps.length ≤ k ∧ (∀ q ∈ ps, q ≠ D ∧ q ≠ d ∧ q ≠ p) ∧ Paired (fun p (kv : Key × V) => H' p = some (.tup [kV kv.1, kv.2])) ps (kvI m) ∧ m.Sublist (l.take k))
    ⟨?_, (pool.put npd.symm).put npD, fun c o hc hp ec => ?_, [], [], upd_same, Nat.le_refl _, (fun p h => nomatch h), .nil, List.Sublist.refl _⟩ (fun k H' _ p => p.1) ?_ ?_
  · rw [upd_ne hDd.symm]; exact upd_same
  · rw [upd_ne (ne_of_none ec hD0), upd_ne hc]; exact ec
  · rintro k v H' H'' hk ⟨p1, p2, p3, m, ps, e1, hl, hne, hp, hs⟩ ⟨rfl, kk, vv, ek, rfl⟩
    obtain ⟨x, y, exy, rfl, rfl⟩ := kvI_get ek
    rw [kvI_length] at hk
    refine ⟨hw _, ?_⟩
    refine hb x _ p2 (.inr ⟨od, p1⟩) _ fun b H2 pool2 o2 => ?_
    have d2 := o2 _ _ npd p1
    have D2 := o2 _ _ npD.symm e1
    have off2 : ∀ c o, c ≠ d → c ≠ p → H c = some o → H2 c = some o := fun c o hc hp ec => o2 _ _ hp (p3 c o hc hp ec)
    have hp2 : Paired (fun p (kv : Key × V) => H2 p = some (.tup [kV kv.1, kv.2])) ps (kvI m) := hp.map fun q hq kv e => o2 _ _ (hne q hq).2.2 e
    cases b with
    | true =>
      refine iteT (hv x y (List.mem_of_getElem? exy) _ (.inr ⟨od, d2⟩) _ fun t ht => ⟨_, carryNew ht D2, by rw [List.length_map]; omega, ?_⟩)
      have htD : t ≠ D := (ne_of_none D2 ht).symm
      have htd : t ≠ d := (ne_of_none d2 ht).symm
      have htp : t ≠ p := (pool2.ne ht).symm
      refine ⟨?_, (pool2.put htp.symm).put npD, fun c o hc hp ec => ?_, m ++ [(x, y)], ps ++ [t], ?_, ?_, ?_, ?_, ?_⟩
      · rw [upd_ne hDd.symm, upd_ne htd.symm]; exact d2
      · have := off2 c o hc hp ec
        rw [upd_ne (ne_of_none ec hD0), upd_ne (ne_of_none this ht)]; exact this
      · rw [upd_same, List.map_append]; rfl
      · rw [List.length_append, List.length_singleton]; omega
      · intro q hq'
        rcases List.mem_append.mp hq' with h | h
        · exact hne q h
        · rw [List.mem_singleton] at h; subst h; exact ⟨htD, htd, htp⟩
      · rw [show kvI (m ++ [(x, y)]) = kvI m ++ [(Sum.inl x, V.int y)] from by unfold kvI; rw [List.map_append]; rfl]
        refine PySem.Paired.snoc (hp2.map fun q hq' kv e => ?_) ?_
        · rw [upd_ne (hne q hq').1, upd_ne (ne_of_none e ht)]; exact e
        · rw [upd_ne htD]; exact upd_same
      · rw [take_more exy]
        exact hs.append (List.Sublist.refl _)
    | false =>
      refine iteF ⟨d2, pool2, off2, m, ps, D2, by omega, hne, hp2, ?_⟩
      rw [take_more exy]
      exact hs.trans (List.sublist_append_left _ _)
  · rintro H' ⟨p1, p2, p3, m, ps, e1, hl, hne, hp, hs⟩
    rw [kvI_length, List.take_length] at hs
    refine ⟨p1, hq D ps m _ hD0 ?_ (hp.map fun q hq' kv e => ?_) hs (p2.put npd.symm) ?_⟩
    · rw [upd_ne hDd]; exact e1
    · rw [upd_ne (hne q hq').2.1]; exact e
    · intro c o hz ec
      by_cases hcd : c = d
      · subst hcd
        rw [upd_same]
        rw [hd] at ec
        exact ec
      · rw [upd_ne hcd]; exact p3 c o hcd hz ec
/-- the part of range(n) that S tells -/
def sel (n : Nat) (S : Nat → Bool) : List Int := ((List.range n).filter S).map fun (k : Nat) => (k : Int)
theorem sel_step (k : Nat) (S : Nat → Bool) (b : Bool) : sel (k + 1) (fun i => if i = k then b else S i) = sel k S ++ (if b = true then [(k : Int)] else []) := by
  unfold sel
  rw [List.range_succ, List.filter_append, List.map_append]
  have e : List.filter (fun i => if i = k then b else S i) (List.range k) = List.filter S (List.range k) := by
    refine List.filter_congr fun i hi => ?_
    have := List.mem_range.mp hi
    rw [if_neg (by omega)]
  rw [e]
  congr 1
  cases b <;> simp
/-- [x for x in range(n) if ..], the test draws -/
theorem lc_rangeD {wi : TI} {i : Nat} {tt : TT} {tv : TE} {vs : List Nat} {σ : L2.St} {H0 H : Hp} {Q : VK} {p : Addr} {n : Nat} (c : Int → Prop) (hwi : ∀ R : It → Hp → Prop, R (Itr 0 n) H → wi σ H0 R) (pool : PoolAt H p)
    (hw : ∀ a, wipe ((wipe σ vs).set i a) vs = wipe σ vs) (hn : n < sizeLine)
    (hb : ∀ k : Nat, k < n → ∀ H1, PoolAt H1 p → Off p H H1 → ∀ R : Bool → Hp → Prop, (∀ b H2, (b = true → c (k : Int)) → PoolAt H2 p → Off p H1 H2 → R b H2) → tt ((wipe σ vs).set i (some (.int (0 + (k : Nat))))) H1 R)
    (hv : ∀ (k : Nat) H1 (R : VK), R (.int (0 + (k : Nat))) H1 → tv ((wipe σ vs).set i (some (.int (0 + (k : Nat))))) H1 R)
    (hq : ∀ (D : Addr) (S : Nat → Bool) (H' : Hp), H D = none → H' D = some (.lst ((sel n S).map V.int)) → (∀ k, k < n → S k = true → c (k : Int)) → PoolAt H' p → Off p H H' → Q (.ref D) H') :
    tLc wi (gName i) tt tv vs σ H0 Q := by
  refine hwi _ fun D hD => ?_
  have npD : p ≠ D := pool.ne hD
  refine lc_it (walk_range (lo := 0)) (fun k H' => PoolAt H' p ∧ Off p H H' ∧ ∃ S : Nat → Bool, H' D = some (.lst ((sel k S).map V.int)) ∧ ∀ j, j < k → S j = true → c (j : Int))
    ⟨pool.put npD, Off.new hD, fun _ => false, upd_same, fun j hj => by omega⟩ (fun _ _ _ _ => trivial) ?_ ?_
  · rintro k v H' H'' hk ⟨pool1, o1, S, e1, hc⟩ ⟨rfl, rfl⟩
    refine ⟨hw _, ?_⟩
    refine hb k hk _ pool1 o1 _ fun b H2 hbc pool2 o2 => ?_
    have e2 := o2 _ _ npD.symm e1
    have hc' : ∀ j, j < k + 1 → (if j = k then b else S j) = true → c (j : Int) := fun j hj h => by
      by_cases hjk : j = k
      · rw [if_pos hjk] at h
        rw [hjk]
        exact hbc h
      · rw [if_neg hjk] at h
        exact hc j (by omega) h
    have st := sel_step k S b
    have lenS : (sel k S).length ≤ k := by
      unfold sel
      rw [List.length_map]
      exact Nat.le_trans (List.length_filter_le _ _) (by rw [List.length_range]; omega)
    cases b with
    | true =>
      refine iteT (hv _ _ _ ⟨_, e2, by rw [List.length_map]; omega, pool2.put npD, (o1.tr o2).mut hD, _, ?_, hc'⟩)
      rw [upd_same, st, if_pos rfl, List.map_append, Int.zero_add]
      rfl
    | false =>
      refine iteF ⟨pool2, o1.tr o2, _, ?_, hc'⟩
      rw [st, if_neg Bool.false_ne_true, List.append_nil]
      exact e2
  · rintro H' ⟨pool1, o1, S, e1, hc⟩
    exact hq D S H' hD e1 hc pool1 o1
structure RowP (H : Hp) (n : Int) (r d c u : Addr) (l : List (Int × Int)) (f : PF) (Ec Eu : List Int) : Prop where
  er : H r = some (.lst [.ref d, .ref c, .ref u])
  ed : H d = some (.dK (kvI l))
  di : DI l f
  wf : WF n f
  ec : H c = some (.lst (Ec.map V.int))
  eu : H u = some (.lst (Eu.map V.int))
  ac : ∃ S, Ec = sel n.toNat S
  au : ∃ S, Eu = sel n.toNat S
  hc : ∀ i ∈ Ec, f i = none
  hu : ∀ i ∈ Eu, i ∉ l.map (·.2)
theorem RowP.same {H H' : Hp} {n : Int} {r d c u : Addr} {l : List (Int × Int)} {f : PF} {Ec Eu : List Int} (h : RowP H n r d c u l f Ec Eu) (s : Same H H') : RowP H' n r d c u l f Ec Eu :=
  ⟨s _ _ h.er, s _ _ h.ed, h.di, h.wf, s _ _ h.ec, s _ _ h.eu, h.ac, h.au, h.hc, h.hu⟩
def spKn : Sp := fun vs H Q _ => ∃ (p : Addr) (n : Int), vs = [.ref p, .int n] ∧ PoolAt H p ∧ 1 ≤ n ∧ n ≤ 5 ∧ ∀ r d c u l f Ec Eu H', H r = none → H d = none → H c = none → H u = none → RowP H' n r d c u l f Ec Eu → PoolAt H' p → Off p H H' → Q (.ref r) H'
theorem mem_sel {n : Nat} {S : Nat → Bool} {i : Int} (h : i ∈ sel n S) : ∃ k : Nat, k < n ∧ S k = true ∧ i = (k : Int) := by
  unfold sel at h
  obtain ⟨k, hk, rfl⟩ := List.mem_map.mp h
  rw [List.mem_filter, List.mem_range] at hk
  exact ⟨k, hk.1, hk.2, rfl⟩
theorem lc_intsS {K : PySem.W.Frag} {te : TE} {i : Nat} {tt : TT} {tv : TE} {vs : List Nat} {σ : L2.St} {H0 H : Hp} {Q : VK} {a : Addr} {xs : List Int} (c : Int → Bool) (vf : Int → V) (hte : ∀ R : VK, R (.ref a) H → te σ H0 R) (ha : H a = some (.lst (xs.map V.int)))
    (hw : ∀ a, wipe ((wipe σ vs).set i a) vs = wipe σ vs)
    (hb : ∀ (x : Int), x ∈ xs → ∀ (H1 : Hp), L2.Same H H1 → (∀ R : Bool → Hp → Prop, (∀ H2, L2.Same H1 H2 → R (c x) H2) → tt ((wipe σ vs).set i (some (.int x))) H1 R) ∧ (∀ H2 (R : VK), R (vf x) H2 → tv ((wipe σ vs).set i (some (.int x))) H2 R))
    (hz : xs.length < sizeLine)
    (hq : ∀ D H', H D = none → H' D = some (.lst ((xs.filter c).map vf)) → L2.Same H H' → Q (.ref D) H') :
    tLc (iList K te) (gName i) tt tv vs σ H0 Q := by
  refine hte _ ⟨a, rfl, ⟨_, SqL.of ha⟩, fun D hD => ?_⟩
  refine lc_it (walk_list (xs := xs.map V.int)) (fun k H' => L2.Same H H' ∧ H' D = some (.lst (((xs.take k).filter c).map vf))) ⟨Same.new hD, upd_same⟩ (fun k H' _ p => SqL.of (p.1 _ _ ha)) ?_ ?_
  · rintro k v H' H'' hk1 ⟨p1, p2⟩ ⟨rfl, ev⟩
    rw [List.length_map] at hk1
    obtain ⟨y, ey⟩ : ∃ y, xs[k]? = some y := ⟨_, List.getElem?_eq_getElem hk1⟩
    have ev' : v = .int y := by
      have := get_map ey
      rw [this] at ev
      exact (Option.some.inj ev).symm
    subst ev'
    refine ⟨hw _, ?_⟩
    obtain ⟨b1, b2⟩ := hb y (List.mem_of_getElem? ey) _ p1
    refine b1 _ fun H2 s2 => ?_
    have q1 := p1.trans s2
    have q2 := s2 _ _ p2
    have st : (xs.take (k + 1)).filter c = (xs.take k).filter c ++ (if c y = true then [y] else []) := by
      rw [take_more ey, List.filter_append]
      by_cases h : c y = true
      · simp [h]
      · have h' : c y = false := by simpa using h
        simp [h']
    cases hc : c y with
    | true =>
      refine iteT (b2 H2 _ ⟨_, q2, ?_, Same.put q1 hD, ?_⟩)
      · refine Nat.lt_of_le_of_lt ?_ hz
        rw [List.length_map]
        exact Nat.le_trans (List.length_filter_le _ _) (by rw [List.length_take]; omega)
      · rw [upd_same, st, if_pos hc, List.map_append]
        rfl
    | false =>
      refine iteF ⟨q1, ?_⟩
      rw [st, hc, if_neg Bool.false_ne_true, List.append_nil]
      exact q2
  · rintro H' ⟨p1, p2⟩
    rw [List.length_map, List.take_length] at p2
    exact hq D _ hD p2 p1
theorem sel_len {n : Nat} {E : List Int} {b : Nat} (h : ∃ S, E = sel n S) (hn : n ≤ b) : E.length ≤ b := by
  obtain ⟨S, rfl⟩ := h
  unfold sel
  rw [List.length_map]
  exact Nat.le_trans (List.length_filter_le _ _) (by rw [List.length_range]; exact hn)
theorem dpI {K : PySem.W.Frag} {H : Hp} : ∀ ns : List Int, DpAll K H (ns.map V.int) (ns.map PyData.int) := dp_ints
theorem shI (l : List Int) : SeqAt.shaped (.list (l.map PyData.int)) = true := shp_tu l
theorem eqv_nil (l : List Int) : PyData.eqv (.list (l.map PyData.int)) (.list []) = decide (l = []) := by
  cases l <;> rfl
theorem ne_nil {K : PySem.W.Frag} {H : Hp} {W : Addr} {l : List Int} {Q : VK} (h : H W = some (.lst (l.map V.int))) {t : Addr} (ht : H t = some (.lst [])) (q : Q (.bl (!decide (l = []))) H) : L2.rNeD K (.ref W) (.ref t) H Q :=
  ⟨.list (l.map PyData.int), .list [], .lst (SqL.of h) (dpI l), .lst (SqL.of ht) .nil, shI l, by decide +kernel, by rw [eqv_nil]; exact q⟩
theorem eq_nil {K : PySem.W.Frag} {H : Hp} {W : Addr} {l : List Int} {Q : VK} (h : H W = some (.lst (l.map V.int))) {t : Addr} (ht : H t = some (.lst [])) (q : Q (.bl (decide (l = []))) H) : L2.rEqD K (.ref W) (.ref t) H Q :=
  ⟨.list (l.map PyData.int), .list [], .lst (SqL.of h) (dpI l), .lst (SqL.of ht) .nil, shI l, by decide +kernel, by rw [eqv_nil]; exact q⟩
theorem nil_any (l : List Int) (c : Int → Bool) : (!decide (l.filter c = [])) = l.any c := by
  induction l with
  | nil => rfl
  | cons x r ih =>
    rw [List.filter_cons, List.any_cons]
    cases c x with
    | true => rfl
    | false => exact ih
section
variable {P : Program} {w : World} {K : PySem.W.Frag} {mg : Str → Option Value} {base : Heap}
set_option pp.maxSteps 3000 in
theorem ok_l_known (T : Txt K mg) : FnR P w K mg base CX0 4 T.f_l_known spKn := by
  refine T.A_l_known.ok sc_l_known (fun vs H Q E h => ?_) (fun cdv A outer s H vs Q E hr h => ?_)
  · obtain ⟨p, n, rfl, _⟩ := h
    rfl
  · obtain ⟨p, n, rfl, pool, h1, h5, q⟩ := h
    have hu := hu_of hr
    refine ⟨_, (pss_cons (ps_set (i := 2) sc_l_known.nd rfl (Or.inr rfl) (pe_callR (ok_l_arrR T) (hr.mono (by decide)) T.A_l_arrows.kp rfl T.g_l_arrows pass0 (pa_cons (pv 0) (pa_cons (pv 1) pa_nil))))
      (pss_cons (ps_set (i := 2) sc_l_known.nd rfl (Or.inr rfl) (pe_callTy (call_dictP rfl) (by rfl) T.n_dict (by decide +kernel) (pa_cons (pe_lock (pe_lc (own := [("_law_source", 5)]) (g := (gName 5)) rfl sc_l_known.nd (pi_keys (pv 2)) (blkOk_by (own := [("_law_source", 5)]) (N := n_l_known) (sc := defScope s_l_known) (by decide +kernel)) (fun _ _ _ _ _ => (pg_name (i := 5) sc_l_known.nd rfl (Or.inl rfl))) (fun _ _ _ _ _ => (pts_one (pt_cmpR op_eq (pe_callR (ok_draw T) (hr.mono (by decide)) T.A_l_draw.kp rfl T.g_l_draw pass0 (pa_cons (pv 0) (pa_cons pe_int pa_nil))) pe_int (nomark _)))) (fun _ _ _ _ _ => (pe_tup (pa_cons (pv 5) (pa_cons (pe_dget hu (pv 2) (pv 5) (fun _ _ => rfl)) pa_nil)))))) pa_nil)))
      (pss_cons (ps_setLc (i := 3) (own := [("_law_at", 6)]) (g := (gName 6)) rfl sc_l_known.nd rfl rfl (sw_true rfl rfl rfl (by decide +kernel)) (pi_range1 rfl T.n_range (pa_cons (pv 1) pa_nil)) (blkOk_by (own := [("_law_at", 6)]) (N := n_l_known) (sc := defScope s_l_known) (by decide +kernel)) (fun _ _ _ _ _ => (pg_name (i := 6) sc_l_known.nd rfl (Or.inl rfl))) (fun _ _ _ _ _ => (pts_one (PW.pt (pw_and (pt_cmp (pc_dnotin hu (pv 6) (pv 2))) (pw_and1 (pt_cmpR op_eq (pe_callR (ok_draw T) (hr.mono (by decide)) T.A_l_draw.kp rfl T.g_l_draw pass0 (pa_cons (pv 0) (pa_cons pe_int pa_nil))) pe_int (nomark _))))))) (fun _ _ _ _ _ => (pv 6)))
      (pss_cons (ps_setLc (i := 4) (own := [("_law_at", 6)]) (g := (gName 6)) rfl sc_l_known.nd rfl rfl (sw_true rfl rfl rfl (by decide +kernel)) (pi_range1 rfl T.n_range (pa_cons (pv 1) pa_nil)) (blkOk_by (own := [("_law_at", 6)]) (N := n_l_known) (sc := defScope s_l_known) (by decide +kernel)) (fun _ _ _ _ _ => (pg_name (i := 6) sc_l_known.nd rfl (Or.inl rfl))) (fun _ _ _ _ _ => (pts_one (PW.pt (pw_and (pt_cmpR (op_notInVw (by rfl)) (pv 6) (pe_dvalsK (K0 := K) rfl (pv 2)) (by rfl)) (pw_and1 (pt_cmpR op_eq (pe_callR (ok_draw T) (hr.mono (by decide)) T.A_l_draw.kp rfl T.g_l_draw pass0 (pa_cons (pv 0) (pa_cons pe_int pa_nil))) pe_int (nomark _))))))) (fun _ _ _ _ _ => (pv 6)))
      (pss_one (ps_ret (pe_lst (pa_cons (pv 2) (pa_cons (pv 3) (pa_cons (pv 4) pa_nil)))))))))), ?_⟩
    refine nx_seq ?_
    refine asg_of ?_
    refine ⟨_, rfl, _, rfl, p, n, rfl, pool, h1, by omega, fun d0 H1 l0 n_d0 e_d0 di0 wf0 hl0 pool1 o1 => ?_⟩
    dsimp only
    refine nx_seq ?_
    refine asg_of ?_
    refine cb_of' ?_
    refine lc_keysD e_d0 pool1 (fun H' R r => ⟨_, rfl, r⟩) (fun _ => rfl) (fun x Hx poolx rdx R k => ?_) (fun x y hxy Hx rdx R k => ?_) (small1000 hl0) fun D ps m H2 n_D e_D hps hps' pool2 o2 => ?_
    · refine draw_R rfl (fun R r => r) poolx (by decide) (by decide) fun r H2 r0 r1 pool2 o2 => ⟨rfl, _, rfl, k _ _ pool2 o2⟩
    · have hg := rd_get rdx di0 x
      rw [di0.mem.mp hxy] at hg
      exact ⟨_, rfl, _, rfl, _, rfl, d0, _, rfl, hg, two_le, k⟩
    refine ⟨D, ps, kvI m, rfl, SqL.of e_D, hps.map fun _ _ _ e => SqT.of e, ?_⟩
    refine fun d n_d => ?_
    generalize g_d : L2.upd _ d _ = H3
    obtain ⟨s_H3, e_d⟩ := U.upd_facts g_d n_d
    clear g_d
    obtain ⟨l, el, hll, di⟩ := dict_of (di_sub di0 hps')
    have wf : WF n (lk m) := wf_sub di0 wf0 hps'
    have e_d' : H3 d = some (.dK (kvI l)) := by rw [e_d]; exact congrArg _ (congrArg _ el)
    have pool3 : PoolAt H3 p := pool2.same s_H3
    have o3 : Off p H H3 := (o1.tr o2).tr (offS s_H3)
    have n_d' : H d = none := by
      cases hx : H d with
      | none => rfl
      | some o =>
        by_cases hp : d = p
        · exact absurd hp (pool2.ne n_d).symm
        · rw [(o1.tr o2) _ _ hp hx] at n_d; cases n_d
    have ndp : d ≠ p := (pool2.ne n_d).symm
    have hlen : l.length ≤ 1000 := by have := di_lenN di wf; omega
    dsimp only
    refine nx_seq ?_
    refine asg_of ?_
    refine lc_rangeD (n := n.toNat) (fun i => lk m i = none) (fun R r => ⟨_, rfl, n, rfl, by omega, by omega, r⟩) pool3 (fun _ => rfl) (small1000 (by omega)) (fun k hk Hx poolx ox R kk => ?_) (fun k Hx R r => ⟨_, rfl, r⟩) fun c S1 H4 n_c e_c hc pool4 o4 => ?_
    · refine ⟨_, rfl, _, rfl, d, _, rfl, dget_l (ox _ _ ndp e_d') di _, _, rfl, ?_⟩
      rw [Int.zero_add]
      cases hg : lk m (k : Int) with
      | some y => exact iteF (kk false _ (fun z => nomatch z) poolx fun _ _ _ e => e)
      | none =>
        refine iteT ?_
        exact draw_R rfl (fun R r => r) poolx (by decide) (by decide) fun r H2 r0 r1 pool2 o2 => ⟨rfl, _, rfl, kk _ _ (fun _ => hg) pool2 o2⟩
    have nc' : H c = none := by
      cases hx : H c with
      | none => rfl
      | some o =>
        by_cases hp : c = p
        · exact absurd hp (pool3.ne n_c).symm
        · rw [o3 _ _ hp hx] at n_c; cases n_c
    have ncp : c ≠ p := (pool3.ne n_c).symm
    have o04 := o3.tr o4
    have e_d4 := o4 _ _ ndp e_d'
    dsimp only
    refine nx_seq ?_
    refine asg_of ?_
    refine lc_rangeD (n := n.toNat) (fun i => i ∉ l.map (·.2)) (fun R r => ⟨_, rfl, n, rfl, by omega, by omega, r⟩) pool4 (fun _ => rfl) (small1000 (by omega)) (fun k hk Hx poolx ox R kk => ?_) (fun k Hx R r => ⟨_, rfl, r⟩) fun u S2 H5 n_u e_u hu' pool5 o5 => ?_
    · have hdx := ox _ _ ndp e_d4
      refine ⟨_, rfl, _, rfl, .inr (.inr (.inl ⟨rfl, .inl ⟨_, hdx⟩⟩)), d, _, rfl, rfl, hdx, fun v nv => ⟨_, v, d, l.map (·.2), _, rfl, rfl, upd_same, Same.new nv _ _ hdx, kvI_snd l, _, rfl, ?_⟩⟩
      have pv' : PoolAt (upd Hx v (valsO v d)) p := poolx.put (poolx.ne nv)
      rw [Int.zero_add]
      by_cases hm : (k : Int) ∈ l.map (·.2)
      · rw [decide_eq_true hm]
        exact iteF (kk false _ (fun z => nomatch z) pv' (Off.new nv))
      · rw [decide_eq_false hm]
        refine iteT ?_
        exact draw_R rfl (fun R r => r) pv' (by decide) (by decide) fun r H2 r0 r1 pool2 o2 => ⟨rfl, _, rfl, kk _ _ (fun _ => hm) pool2 ((Off.new nv).tr o2)⟩
    have nu' : H u = none := by
      cases hx : H u with
      | none => rfl
      | some o =>
        by_cases hp : u = p
        · exact absurd hp (pool4.ne n_u).symm
        · rw [o04 _ _ hp hx] at n_u; cases n_u
    dsimp only
    refine ret_of ?_
    refine ⟨_, rfl, _, rfl, _, rfl, three_le, ?_⟩
    refine fun r n_r => ?_
    generalize g_r : L2.upd _ r _ = H6
    obtain ⟨s_H6, e_r⟩ := U.upd_facts g_r n_r
    clear g_r
    have nr' : H r = none := by
      cases hx : H r with
      | none => rfl
      | some o =>
        by_cases hp : r = p
        · exact absurd hp (pool5.ne n_r).symm
        · rw [(o04.tr o5) _ _ hp hx] at n_r; cases n_r
    refine q r d c u l (lk m) _ _ H6 nr' n_d' nc' nu' ⟨e_r, s_H6 _ _ (o5 _ _ ndp e_d4), di, wf, s_H6 _ _ (o5 _ _ ncp e_c), s_H6 _ _ e_u, ⟨S1, rfl⟩, ⟨S2, rfl⟩, fun i hi => ?_, fun i hi => ?_⟩ (pool5.same s_H6) ((o04.tr o5).tr (offS s_H6))
    · obtain ⟨k, hk, hs, rfl⟩ := mem_sel hi
      exact hc k hk hs
    · obtain ⟨k, hk, hs, rfl⟩ := mem_sel hi
      exact hu' k hk hs
def fitL (lt : List (Int × Int)) (ft : PF) (l : List (Int × Int)) (Ec Eu : List Int) : Bool := (l.all fun p => decide (ft p.1 = some p.2)) && !(Ec.any fun i => (ft i).isSome) && !(Eu.any fun i => decide (i ∈ lt.map (·.2)))
def spFits : Sp := fun vs H Q _ => ∃ (dt r d c u : Addr) (n : Int) (lt l : List (Int × Int)) (ft f : PF) (Ec Eu : List Int), vs = [.ref dt, .ref r] ∧ H dt = some (.dK (kvI lt)) ∧ DI lt ft ∧ WF n ft ∧ RowP H n r d c u l f Ec Eu ∧ n ≤ 5 ∧ d ≠ dt ∧ ∀ H', Same H H' → Q (.bl (fitL lt ft l Ec Eu)) H'
theorem tt_of {r : R2} {ta tb : TE} {σ : L2.St} {H : Hp} {R : Bool → Hp → Prop} (h : ta σ H fun x H1 => tb σ H1 fun y H2 => r x y H2 fun v H3 => ∃ k, v = .bl k ∧ R k H3) : tTest (tOp r ta tb) σ H R := h
set_option pp.maxSteps 3000 in
theorem ok_l_fits (T : Txt K mg) : FnR P w K mg base CX0 4 T.f_l_fits spFits := by
  refine T.A_l_fits.ok sc_l_fits (fun vs H Q E h => ?_) (fun cdv A outer s H vs Q E hr h => ?_)
  · obtain ⟨dt, r, d, c, u, n, lt, l, ft, f, Ec, Eu, rfl, _⟩ := h
    rfl
  · obtain ⟨dt, r, d, c, u, n, lt, l, ft, f, Ec, Eu, rfl, hdt, dit, wft, row, h5, nd, q⟩ := h
    have hu := hu_of hr
    refine ⟨_, (pss_cons (ps_lock (ps_for PassesOwn.never rfl (pi_keys (pe_ix ix_list (pv 1) pe_int (fun _ _ => rfl))) (pg_name (i := 2) sc_l_fits.nd rfl (Or.inl rfl))
        (pss_one (ps_if (PW.pt (pw_or (pt_cmp (pc_dnotin hu (pv 2) (pv 0))) (pw_or1 (pt_cmpR op_ne (pe_dget hu (pv 0) (pv 2) (fun _ _ => rfl)) (pe_dget hu (pe_ix ix_list (pv 1) pe_int (fun _ _ => rfl)) (pv 2) (fun _ _ => rfl)) (nomark _)))))
        (pss_one (ps_ret pe_bl)) pss_nil))))
      (pss_cons (ps_if (pt_cmpR (L2.op_neD hr.units) (pe_lc (own := [("_law_at", 3)]) (g := (gName 3)) rfl sc_l_fits.nd (pi_list (pe_ix ix_list (pv 1) pe_int (fun _ _ => rfl))) (blkOk_by (own := [("_law_at", 3)]) (N := n_l_fits) (sc := defScope s_l_fits) (by decide +kernel)) (fun _ _ _ _ _ => (pg_name (i := 3) sc_l_fits.nd rfl (Or.inl rfl))) (fun _ _ _ _ _ => (pts_one (pt_cmp (pc_din hu (pv 3) (pv 0))))) (fun _ _ _ _ _ => (pv 3))) (pe_lst pa_nil) (nomark _))
        (pss_one (ps_ret pe_bl)) pss_nil)
      (pss_one (ps_ret (pe_cmpR (L2.op_eqD hr.units) (pe_lc (own := [("_law_at", 3)]) (g := (gName 3)) rfl sc_l_fits.nd (pi_list (pe_ix ix_list (pv 1) pe_int (fun _ _ => rfl))) (blkOk_by (own := [("_law_at", 3)]) (N := n_l_fits) (sc := defScope s_l_fits) (by decide +kernel)) (fun _ _ _ _ _ => (pg_name (i := 3) sc_l_fits.nd rfl (Or.inl rfl))) (fun _ _ _ _ _ => (pts_one (pt_cmpR (op_inVw (by rfl)) (pv 3) (pe_dvalsK (K0 := K) rfl (pv 0)) (by rfl)))) (fun _ _ _ _ _ => (pv 3))) (pe_lst pa_nil) (nomark _)))))), ?_⟩
    have hd := row.ed
    have hne : ∀ a, a = d → H a = some (.dK (kvI l)) := fun a e => by rw [e]; exact hd
    refine nx_seq ?_
    refine ⟨d, _, hd, trivial, fun od => ?_⟩
    have nrd : r ≠ d := fun z => by have := row.er; rw [z, hd] at this; cases this
    have oF : Off d H (upd H d (.frz od (.dK (kvI l)))) := Off.lock
    have eF : (upd H d (.frz od (.dK (kvI l)))) d = some (.frz od (.dK (kvI l))) := upd_same
    generalize upd H d (.frz od (.dK (kvI l))) = HF at oF eF ⊢
    have er := oF _ _ nrd row.er
    have edt := oF _ _ nd.symm hdt
    refine ⟨_, rfl, r, _, 0, _, rfl, rfl, SqL.of er, rfl, d, od, rfl, .inl ⟨kvI l, eF, ?_⟩⟩
    have hll : l.length ≤ 1000 := by have := di_lenN row.di row.wf; omega
    refine for_it walk_keys (fun k σ H' => ∃ v2 v3, σ = [some (.ref dt), some (.ref r), v2, v3] ∧ Same HF H' ∧ ∀ p ∈ l.take k, ft p.1 = some p.2)
      ⟨_, _, rfl, Same.refl _, fun p hp => by simp at hp⟩ (fun k σ H' _ ⟨_, _, _, p, _⟩ => p _ _ eF) ?_ ?_
    · rintro k v σ Ha0 Ha hk ⟨v2, v3, rfl, sa, hall⟩ ⟨rfl, kk, vv, ek, rfl⟩
      obtain ⟨x, y, exy, rfl, rfl⟩ := kvI_get ek
      have hm := List.mem_of_getElem? exy
      have eda := sa _ _ eF
      have ebk : Same H (upd Ha d (.dK (kvI l))) := Off.back (fun c o hc e => sa _ _ (oF c o hc e)) hd
      have bad : ft x ≠ some y → Q (.bl false) (upd Ha d (.dK (kvI l))) := fun hb => by
        have := q _ ebk
        have e : fitL lt ft l Ec Eu = false := by
          unfold fitL
          have : (l.all fun p => decide (ft p.1 = some p.2)) = false := by
            rw [Bool.eq_false_iff, Ne, List.all_eq_true]
            intro h
            exact hb (of_decide_eq_true (h (x, y) hm))
          rw [this, Bool.false_and, Bool.false_and]
        rw [e] at this
        exact this
      refine ⟨_, rfl, _, rfl, dt, _, rfl, dget_l (sa _ _ edt) dit x, _, rfl, ?_⟩
      cases hf : ft x with
      | none => exact iteT (iteT ⟨eda, bad (by rw [hf]; exact fun z => nomatch z)⟩)
      | some z =>
        refine iteF ?_
        have hg := dget_l (sa _ _ edt) dit x
        have hg2 := rd_get (H := Ha) (.inr ⟨od, eda⟩) row.di x
        rw [hf] at hg
        rw [row.di.mem.mp hm] at hg2
        refine ⟨_, rfl, _, rfl, dt, _, rfl, hg, _, rfl, r, _, 0, _, rfl, rfl, SqL.of (sa _ _ er), rfl, _, rfl, d, _, rfl, hg2, rfl, _, rfl, ?_⟩
        rw [decN]
        by_cases hzy : z = y
        · rw [decide_eq_true hzy]
          refine iteF ⟨_, _, rfl, sa, fun p hp => ?_⟩
          rw [take_more exy] at hp
          rcases List.mem_append.mp hp with hp | hp
          · exact hall p hp
          · rw [List.mem_singleton] at hp
            subst hp
            rw [hf, hzy]
        · rw [decide_eq_false hzy]
          exact iteT ⟨eda, bad (by rw [hf]; exact fun e => hzy (Option.some.inj e))⟩
    rintro σ Ha ⟨v2, v3, rfl, sa, hall⟩
    rw [kvI_length, List.take_length] at hall
    have eda := sa _ _ eF
    have ebk : Same H (upd Ha d (.dK (kvI l))) := Off.back (fun c o hc e => sa _ _ (oF c o hc e)) hd
    refine ⟨eda, ?_⟩
    generalize upd Ha d (.dK (kvI l)) = Hb at ebk ⊢
    have hall' : (l.all fun p => decide (ft p.1 = some p.2)) = true := List.all_eq_true.mpr fun p hp => decide_eq_true (hall p hp)
    unfold fitL at q
    rw [hall', Bool.true_and] at q
    have hEc : Ec.length ≤ 1000 := sel_len row.ac (by omega)
    have hEu : Eu.length ≤ 1000 := sel_len row.au (by omega)
    dsimp only
    refine nx_seq ?_
    refine tt_of ?_
    refine lc_ints (H := Hb) (fun i => (ft i).isSome) V.int (fun R rr => ⟨_, rfl, r, _, 1, _, rfl, rfl, SqL.of (ebk _ _ row.er), rfl, rr⟩) (ebk _ _ row.ec) (fun _ => rfl) (fun x hx Hx sx => ⟨fun R rr => ⟨_, rfl, _, rfl, dt, _, rfl, dget_l (sx _ _ (ebk _ _ hdt)) dit x, _, rfl, ?_⟩, fun _ R rr => ⟨_, rfl, rr⟩⟩) (small1000 hEc) fun D Hc n_D e_D sc => ?_
    · rw [Option.isSome_map]; exact rr
    refine ⟨nil_le, fun t n_t => ?_⟩
    have sd : Same Hc (upd Hc t (.lst [])) := Same.new n_t
    have e_t : (upd Hc t (.lst [])) t = some (.lst []) := upd_same
    generalize upd Hc t (.lst []) = Hd at sd e_t ⊢
    refine ne_nil (sd _ _ e_D) e_t ⟨_, rfl, ?_⟩
    rw [nil_any]
    have sH := (ebk.trans sc).trans sd
    cases hc : Ec.any fun i => (ft i).isSome with
    | true =>
      rw [hc] at q
      exact iteT (q Hd sH)
    | false =>
    rw [hc, Bool.not_false, Bool.true_and] at q
    refine iteF ?_
    dsimp only [tNext]
    refine ret_of ?_
    refine op_of ?_
    refine lc_intsS (H := Hd) (fun i => decide (i ∈ lt.map (·.2))) V.int (fun R rr => ⟨_, rfl, r, _, 2, _, rfl, rfl, SqL.of (sH _ _ row.er), rfl, rr⟩) (sH _ _ row.eu) (fun _ => rfl) (fun x hx Hx sx => ?_) (small1000 hEu) fun D2 He n_D2 e_D2 se => ?_
    · have hdx := sx _ _ (sH _ _ hdt)
      refine ⟨fun R rr => ⟨_, rfl, _, rfl, .inr (.inr (.inl ⟨rfl, .inl ⟨_, hdx⟩⟩)), dt, _, rfl, rfl, hdx, fun p np => ⟨x, p, dt, lt.map (·.2), _, rfl, rfl, upd_same, Same.new np _ _ hdx, kvI_snd lt, _, rfl, ?_⟩⟩, fun H2 R rr => ⟨_, rfl, rr⟩⟩
      exact rr _ (Same.new np)
    refine ⟨nil_le, fun t2 n_t2 => ?_⟩
    have sf : Same He (upd He t2 (.lst [])) := Same.new n_t2
    have e_t2 : (upd He t2 (.lst [])) t2 = some (.lst []) := upd_same
    generalize upd He t2 (.lst []) = Hf at sf e_t2 ⊢
    refine eq_nil (sf _ _ e_D2) e_t2 ?_
    have := q Hf ((sH.trans se).trans sf)
    rw [← nil_any] at this
    rw [Bool.not_not] at this
    exact this
end
end My
set_option maxHeartbeats 1000000
namespace My
open PySem L2 U StX PM
theorem ix_listK {X : Cx} {K : PySem.W.Frag} (hK : X.K = K) : IxR X (rIxL K) := by
  subst hK
  exact ix_list
theorem fnO_calm {P : Program} {w : World} {K : PySem.W.Frag} {mg : Str → Option Value} {base : Heap} {k : Nat} {f : Addr} {fd : FuncData} {ps : List Str} {sp : Sp} (F : FnOk P w K mg base (L2.CX P w) k f fd ps sp) : FnOk P w K mg base CX0 k f fd ps (fun vs H Q _ => sp vs H Q E0) := by
  refine ⟨fun vs H Q E h => F.len vs H Q E0 h, fun A outer s H args us vs Q E hr e0 hb r h => ?_⟩
  refine codeAny_mono (F.run A outer s H args us vs Q E0 hr e0 hb r h) fun r s' hq => ?_
  cases r with
  | error e =>
    obtain ⟨_, _, _, _, _, _, _, _, _, _, _, _, z⟩ := hq
    exact z.elim
  | ok fl => cases fl <;> exact hq
theorem new_part {P : Program} {w : World} {K : PySem.W.Frag} {C CM CE : Addr} {H : Hp} {n : Int} {d : Addr} {l : List (Int × Int)} {f : PF} {e t : V} {Es Ts : List Int} {Q : VK} {E : XK} (h1 : 1 ≤ n) (h3 : n ≤ 300) (hd : H d = some (.dK (kvI l))) (di : DI l f) (wf : WF n f) (hl : l.length ≤ 1000)
    (ge : GoodS K H n e Es (cE f)) (gt : GoodS K H n t Ts (cS l)) (q : ∀ s H', H s = none → Same H H' → IsPart C CM H' s n f (ascE n Es) (ascE n Ts) → Q (.ref s) H') (x dx : Addr) (hx : H x = none) (hdx : H dx = none) (ne : dx ≠ x) :
    spPI P w K C CM CE [.ref x, .int n, .ref d, e, t] (upd (upd H dx (.own x)) x (.ins C dx [])) (fun v H2 => v = .non ∧ Q (.ref x) H2) E := by
  have s0 : Same H (upd (upd H dx (.own x)) x (.ins C dx [])) := fun b o e => by
    rw [upd_ne (ne_of_none e hx), upd_ne (ne_of_none e hdx)]
    exact e
  exact ⟨x, dx, .int n, .ref d, e, t, rfl, upd_same, .inr ⟨n, rfl, h1, h3, .inr ⟨d, l, f, rfl, s0 _ _ hd, di, wf, hl, .inr ⟨Es, ge.same s0, .inr ⟨Ts, gt.same s0, fun H' o ip => ⟨rfl, q x H' hx (fun b u e => o b u (ne_of_none e hx) (s0 b u e)) (ip H' fun b o _ e => e)⟩⟩⟩⟩⟩⟩
theorem new_partN {P : Program} {w : World} {K : PySem.W.Frag} {C CM CE : Addr} {H : Hp} {n : Int} {d : Addr} {l : List (Int × Int)} {f : PF} {e t : V} {Es Ts : List Int} {Q : VK} {E : XK} (h1 : 1 ≤ n) (h3 : n ≤ 300) (hd : H d = some (.dK (kvI l))) (di : DI l f) (wf : WF n f) (hl : l.length ≤ 1000)
    (ge : GoodS K H n e Es (cE f)) (gt : GoodS K H n t Ts (cS l)) (q : ∀ s H', H s = none → Same H H' → (∀ H'', (∀ b o, H b = none → H' b = some o → H'' b = some o) → IsPart C CM H'' s n f (ascE n Es) (ascE n Ts)) → Q (.ref s) H') (x dx : Addr) (hx : H x = none) (hdx : H dx = none) (ne : dx ≠ x) :
    spPI P w K C CM CE [.ref x, .int n, .ref d, e, t] (upd (upd H dx (.own x)) x (.ins C dx [])) (fun v H2 => v = .non ∧ Q (.ref x) H2) E := by
  have s0 : Same H (upd (upd H dx (.own x)) x (.ins C dx [])) := fun b o e => by
    rw [upd_ne (ne_of_none e hx), upd_ne (ne_of_none e hdx)]
    exact e
  have back : ∀ b, (upd (upd H dx (.own x)) x (.ins C dx [])) b = none → H b = none := fun b e => by
    cases hb : H b with
    | none => rfl
    | some o => rw [s0 _ _ hb] at e; cases e
  exact ⟨x, dx, .int n, .ref d, e, t, rfl, upd_same, .inr ⟨n, rfl, h1, h3, .inr ⟨d, l, f, rfl, s0 _ _ hd, di, wf, hl, .inr ⟨Es, ge.same s0, .inr ⟨Ts, gt.same s0, fun H' o ip => ⟨rfl, q x H' hx (fun b u e => o b u (ne_of_none e hx) (s0 b u e)) fun H'' kp => ip H'' fun b o hb e => kp b o (hb.elim (back b) fun z => by rw [z]; exact hx) e⟩⟩⟩⟩⟩⟩
/-- one of the ways of being refused, and the part that is told -/
def BadP (P : Program) (w : World) (K : PySem.W.Frag) (H : Hp) (x y e t : V) (z : Str) : Prop := (okS H x ∧ inR x 1 300 = false ∧ z = "size") ∨ ∃ n, x = .int n ∧ 1 ≤ n ∧ n ≤ 300 ∧ ((BadA P w H n y ∧ z = "arrows") ∨ ∃ d l f, y = .ref d ∧ H d = some (.dK (kvI l)) ∧ DI l f ∧ WF n f ∧ l.length ≤ 1000 ∧
  ((BadS K H n e (cE f) ∧ z = "ends") ∨ ∃ Es, GoodS K H n e Es (cE f) ∧ BadS K H n t (cS l) ∧ z = "starts"))
theorem BadP.same {P : Program} {w : World} {K : PySem.W.Frag} {H H' : Hp} {x y e t : V} {z : Str} (h : BadP P w K H x y e t z) (s : Same H H') : BadP P w K H' x y e t z := by
  rcases h with ⟨a, b, c⟩ | ⟨n, a, b, c, ⟨d, e⟩ | ⟨d, l, f, e1, e2, e3, e4, e5, ⟨e6, e7⟩ | ⟨Es, e6, e7, e8⟩⟩⟩
  · exact .inl ⟨a.same s, b, c⟩
  · exact .inr ⟨n, a, b, c, .inl ⟨d.same s, e⟩⟩
  · exact .inr ⟨n, a, b, c, .inr ⟨d, l, f, e1, s _ _ e2, e3, e4, e5, .inl ⟨e6.same s, e7⟩⟩⟩
  · exact .inr ⟨n, a, b, c, .inr ⟨d, l, f, e1, s _ _ e2, e3, e4, e5, .inr ⟨Es, e6.same s, e7.same s, e8⟩⟩⟩
theorem bad_part {P : Program} {w : World} {K : PySem.W.Frag} {C CM CE : Addr} {H : Hp} {s dx : Addr} {x y e t : V} {z : Str} {Q : VK} {E : XK} (h : BadP P w K H x y e t z) (hs : H s = some (.ins C dx [])) (q : partE CE E H z) : spPI P w K C CM CE [.ref s, x, y, e, t] H Q E := by
  refine ⟨s, dx, x, y, e, t, rfl, hs, ?_⟩
  rcases h with ⟨a, b, rfl⟩ | ⟨n, a, b, c, ⟨d, rfl⟩ | ⟨d, l, f, e1, e2, e3, e4, e5, ⟨e6, rfl⟩ | ⟨Es, e6, e7, rfl⟩⟩⟩
  · exact .inl ⟨a, b, q⟩
  · exact .inr ⟨n, a, b, c, .inl ⟨d, q⟩⟩
  · exact .inr ⟨n, a, b, c, .inr ⟨d, l, f, e1, e2, e3, e4, e5, .inl ⟨e6, q⟩⟩⟩
  · exact .inr ⟨n, a, b, c, .inr ⟨d, l, f, e1, e2, e3, e4, e5, .inr ⟨Es, e6, .inl ⟨e7, q⟩⟩⟩⟩
def spTold (P : Program) (w : World) (K : PySem.W.Frag) : Sp := fun vs H Q _ => ∃ x y e t z, vs = [x, y, e, t] ∧ BadP P w K H x y e t z ∧ ∀ r H', Same H H' → H' r = some (.lst [.str z, .bl true]) → Q (.ref r) H'
theorem sel_nd (n : Nat) (S : Nat → Bool) : (sel n S).Nodup := by
  unfold sel
  have h : ((List.range n).filter S).Nodup := List.filter_sublist.nodup List.nodup_range
  generalize (List.range n).filter S = L at h
  induction L with
  | nil => exact List.nodup_nil
  | cons a r ih =>
    rw [List.nodup_cons] at h
    rw [List.map_cons, List.nodup_cons]
    refine ⟨fun hm => ?_, ih h.2⟩
    obtain ⟨b, hb, e⟩ := List.mem_map.mp hm
    have : b = a := by omega
    exact h.1 (this ▸ hb)
theorem dcl_ints (E acc : List Int) (h : ∀ i ∈ E, i ∉ acc) (nd : E.Nodup) : (E.map V.int).foldl (fun ks v => putK ks (kOf v) (.bl true)) (acc.map fun i => ((Sum.inl i : Key), V.bl true)) = (acc ++ E).map fun i => ((Sum.inl i : Key), V.bl true) := by
  induction E generalizing acc with
  | nil => rw [List.append_nil]; rfl
  | cons x r ih =>
    rw [List.nodup_cons] at nd
    have hx := h x List.mem_cons_self
    rw [List.map_cons, List.foldl_cons]
    have e : putK (acc.map fun i => ((Sum.inl i : Key), V.bl true)) (kOf (.int x)) (.bl true) = (acc ++ [x]).map fun i => ((Sum.inl i : Key), V.bl true) := by
      show putK (acc.map fun i => ((Sum.inl i : Key), V.bl true)) (Sum.inl x) (.bl true) = _
      rw [putK_new _ (valV_none fun z => ?_), List.map_append]
      · rfl
      · obtain ⟨⟨k, v⟩, hk, e⟩ := List.mem_map.mp z
        obtain ⟨i, hi, e2⟩ := List.mem_map.mp hk
        cases e2
        cases e
        exact hx hi
    rw [e, ih (acc ++ [x]) (fun i hi hm => ?_) nd.2, List.append_assoc]
    · rfl
    · rcases List.mem_append.mp hm with hm | hm
      · exact h i (List.mem_cons_of_mem _ hi) hm
      · rw [List.mem_singleton] at hm
        subst hm
        exact nd.1 hi
theorem elOk_of {N : Int} {E : List Int} (h : ∀ i ∈ E, 0 ≤ i ∧ i < N) (nd : E.Nodup) : elOk N (E.map V.int) = true := by
  unfold elOk
  rw [Bool.and_eq_true]
  refine ⟨List.all_eq_true.mpr fun v hv => ?_, decide_eq_true ?_⟩
  · obtain ⟨i, hi, rfl⟩ := List.mem_map.mp hv
    have := h i hi
    simp only [inR, Bool.and_eq_true, decide_eq_true_eq]
    omega
  · unfold dcl
    have := dcl_ints E [] (fun i _ z => nomatch z) nd
    rw [List.map_nil] at this
    rw [this, List.length_map, List.length_map, List.nil_append]
theorem ascE_sel {n : Int} {E E' : List Int} (h : ∃ S, E = sel n.toNat S) (hm : ∀ i, i ∈ E' ↔ i ∈ E) : ascE n E' = E := by
  obtain ⟨S, rfl⟩ := h
  unfold ascE
  show _ = sel n.toNat S
  unfold sel
  congr 1
  refine List.filter_congr fun k hk => ?_
  rw [Bool.eq_iff_iff, decide_eq_true_eq, hm]
  unfold sel
  rw [List.mem_map]
  constructor
  · rintro ⟨j, hj, e⟩
    have : j = k := by omega
    rw [← this]
    exact (List.mem_filter.mp hj).2
  · intro hs
    exact ⟨k, List.mem_filter.mpr ⟨hk, hs⟩, rfl⟩
theorem sel_rng {n : Int} {E : List Int} (h : ∃ S, E = sel n.toNat S) : ∀ i ∈ E, 0 ≤ i ∧ i < n := by
  obtain ⟨S, rfl⟩ := h
  intro i hi
  obtain ⟨k, hk, _, rfl⟩ := mem_sel hi
  omega
/-- a list or tuple of the elements of E in some order -/
theorem goodS {K : PySem.W.Frag} {H : Hp} {n N : Int} {a : Addr} {E E' : List Int} {c : Int → Bool} (hs : SeqOf K H a (E'.map V.int)) (h : ∃ S, E = sel n.toNat S) (hm : ∀ i, i ∈ E' ↔ i ∈ E) (nd : E'.Nodup) (hl : E'.length ≤ 1000) (hN : n ≤ N) (hc : ∀ i ∈ E, c i = false) : GoodS K H N (.ref a) E' c := by
  refine ⟨a, rfl, hs, elOk_of (fun i hi => ?_) nd, hl, fun i hi => hc i ((hm i).mp hi)⟩
  have := sel_rng h i ((hm i).mp hi)
  omega
theorem RowP.gE {K : PySem.W.Frag} {H : Hp} {n N : Int} {r d c u : Addr} {l : List (Int × Int)} {f g : PF} {Ec Eu : List Int} (row : RowP H n r d c u l f Ec Eu) (hN : n ≤ N) (h1 : 1 ≤ n) (h5 : n ≤ 5) (hg : ∀ i ∈ Ec, g i = none) : GoodS K H N (.ref c) Ec (cE g) := by
  have nd : Ec.Nodup := by obtain ⟨S, e⟩ := row.ac; rw [e]; exact sel_nd _ _
  exact goodS (.lst row.ec) row.ac (fun i => Iff.rfl) nd (sel_len row.ac (by omega)) hN fun i hi => by unfold cE; rw [hg i hi]; rfl
theorem RowP.gS {K : PySem.W.Frag} {H : Hp} {n N : Int} {r d c u : Addr} {l m : List (Int × Int)} {f : PF} {Ec Eu : List Int} (row : RowP H n r d c u l f Ec Eu) (hN : n ≤ N) (h1 : 1 ≤ n) (h5 : n ≤ 5) (hg : ∀ i ∈ Eu, i ∉ m.map (·.2)) : GoodS K H N (.ref u) Eu (cS m) := by
  have nd : Eu.Nodup := by obtain ⟨S, e⟩ := row.au; rw [e]; exact sel_nd _ _
  exact goodS (.lst row.eu) row.au (fun i => Iff.rfl) nd (sel_len row.au (by omega)) hN fun i hi => decide_eq_false (hg i hi)
def spMade (K : PySem.W.Frag) (C CM : Addr) : Sp := fun vs H Q _ => ∃ n r d c u l f Ec Eu, vs = [.int n, .ref r] ∧ RowP H n r d c u l f Ec Eu ∧ 1 ≤ n ∧ n ≤ 5 ∧ ∀ s H', H s = none → Same H H' → IsPart C CM H' s n f Ec Eu → Q (.ref s) H'
section
variable {P : Program} {w : World} {K : PySem.W.Frag} {mg : Str → Option Value} {base : Heap}
def psPI : List Str := ["self", "size", "arrows", "ends", "starts"]
theorem kbs (T : Txt K mg) {fd : FuncData} (F : FunD K "__init__" "Partial.__init__" (defArgs s_Partial__init) (defBody s_Partial__init) (defScope s_Partial__init) [] [("ends", .ref T.e_Partial__init_ends), ("starts", .ref T.e_Partial__init_starts)] T.f_Partial__init fd) :
    (∃ g, KBn K fd psPI 3 ["ends", "starts"] g (fun vs zs => vs ++ zs)) := by
  obtain ⟨mv, h⟩ := F.kbinds0 (ps := psPI) 3 ["ends", "starts"] [] (fun us mv ws => us ++ (mv ++ ws)) (by simp) (fun q hq => nomatch hq) (fun r1 r2 r3 => r1.append (r2.append r3)) (fun D doc pm an cdv ct us mv ws l1 l2 l3 => by
    match us, l1 with
    | [a, b, c], _ =>
      match mv, l2 with
      | [], _ =>
        match ws, l3 with
        | [d, e], _ => rfl)
  exact ⟨_, h⟩
theorem kbs1 (T : Txt K mg) {fd : FuncData} (F : FunD K "__init__" "Partial.__init__" (defArgs s_Partial__init) (defBody s_Partial__init) (defScope s_Partial__init) [] [("ends", .ref T.e_Partial__init_ends), ("starts", .ref T.e_Partial__init_starts)] T.f_Partial__init fd) :
    (∃ g, KBn K fd psPI 3 ["starts"] g (fun vs zs => vs ++ ([.ref T.e_Partial__init_ends] ++ zs))) := by
  obtain ⟨mv, h⟩ := F.kbinds0 (ps := psPI) 3 ["starts"] [("ends", .ref T.e_Partial__init_ends)] (fun us mv ws => us ++ (mv ++ ws)) (by simp) (fun q hq => by rw [List.mem_singleton.mp hq]; exact List.mem_cons_self) (fun r1 r2 r3 => r1.append (r2.append r3)) (fun D doc pm an cdv ct us mv ws l1 l2 l3 => by
    match us, l1 with
    | [a, b, c], _ =>
      match mv, l2 with
      | [m], _ =>
        match ws, l3 with
        | [d], _ => exact ⟨_, _, _, _, _, _, rfl, rfl, rfl⟩)
  exact ⟨_, h⟩
theorem kbs2 (T : Txt K mg) {fd : FuncData} (F : FunD K "__init__" "Partial.__init__" (defArgs s_Partial__init) (defBody s_Partial__init) (defScope s_Partial__init) [] [("ends", .ref T.e_Partial__init_ends), ("starts", .ref T.e_Partial__init_starts)] T.f_Partial__init fd) :
    (∃ g, KBn K fd psPI 3 ["ends"] g (fun vs zs => vs ++ (zs ++ [.ref T.e_Partial__init_starts]))) := by
  obtain ⟨mv, h⟩ := F.kbinds0 (ps := psPI) 3 ["ends"] [("starts", .ref T.e_Partial__init_starts)] (fun us mv ws => us ++ (ws ++ mv)) (by simp) (fun q hq => by rw [List.mem_singleton.mp hq]; exact List.mem_cons_of_mem _ List.mem_cons_self) (fun r1 r2 r3 => r1.append (r3.append r2)) (fun D doc pm an cdv ct us mv ws l1 l2 l3 => by
    match us, l1 with
    | [a, b, c], _ =>
      match mv, l2 with
      | [m], _ =>
        match ws, l3 with
        | [d], _ => exact ⟨_, _, _, _, _, _, rfl, rfl, rfl⟩)
  exact ⟨_, h⟩
theorem ok_l_made (T : Txt K mg) : FnR P w K mg base CX0 11 T.f_l_made (spMade K T.C_Partial T.C_Map) := by
  refine T.A_l_made.ok sc_l_made (fun vs H Q E h => ?_) (fun cdv A outer s H vs Q E hr h => ?_)
  · obtain ⟨n, r, d, c, u, l, f, Ec, Eu, rfl, _⟩ := h
    rfl
  · obtain ⟨n, r, d, c, u, l, f, Ec, Eu, rfl, row, h1, h5, q⟩ := h
    have hu := hu_of hr
    obtain ⟨fd, F⟩ := T.D_Partial__init
    obtain ⟨g, kb_ends_starts⟩ := kbs T F
    refine ⟨_, (pss_one (ps_ret (pe_makeK T.M_Partial (fnO_calm (okF_pi (P := P) (w := w) (base := base) T F)) (hr.mono (by decide)) rfl T.g_Partial kb_ends_starts pass0 (pa_cons (pv 0) (pa_cons (pe_ix ix_list (pv 1) pe_int (fun _ _ => rfl)) pa_nil)) (pk_cons (pe_ix ix_list (pv 1) pe_int (fun _ _ => rfl)) (pk_cons (pe_ix ix_list (pv 1) pe_int (fun _ _ => rfl)) pk_nil))))), ?_⟩
    refine ⟨_, rfl, _, rfl, r, _, 0, _, rfl, rfl, SqL.of row.er, rfl, _, rfl, r, _, 1, _, rfl, rfl, SqL.of row.er, rfl, _, rfl, r, _, 2, _, rfl, rfl, SqL.of row.er, rfl, rfl, rfl, ?_⟩
    refine new_part h1 (by omega) row.ed row.di row.wf (by have := di_lenN row.di row.wf; omega) (row.gE (Int.le_refl _) h1 h5 row.hc) (row.gS (Int.le_refl _) h1 h5 row.hu) fun s' H' ns sH ip => ?_
    rw [ascE_sel row.ac fun i => Iff.rfl, ascE_sel row.au fun i => Iff.rfl] at ip
    exact q s' H' ns sH ip
set_option pp.maxSteps 3000 in
theorem ok_l_told (T : Txt K mg) : FnR P w K mg base CX0 11 T.f_l_told (spTold P w K) := by
  refine T.A_l_told.ok sc_l_told (fun vs H Q E h => ?_) (fun cdv A outer s H vs Q E hr h => ?_)
  · obtain ⟨x, y, e, t, z, rfl, _⟩ := h
    rfl
  · obtain ⟨x, y, e, t, z, rfl, hb, q⟩ := h
    have hu := hu_of hr
    obtain ⟨fd, F⟩ := T.D_Partial__init
    obtain ⟨g, kb_ends_starts⟩ := kbs T F
    refine ⟨_, (pss_one (ps_try_as (i := 4) rfl rfl sc_l_told.nd rfl rfl ⟨rfl, by decide, .inl T.g_InvalidPartial⟩ L2.takes0 (fun W pn xe tk _ => (pss_one (ps_ret (pe_makeKS T.M_Partial (okF_pi (P := P) (w := w) (base := base) T F) (hr.mono (by decide)) rfl T.g_Partial kb_ends_starts (fun σ => passAt tk σ) (pa_cons (pv 0) (pa_cons (pv 1) pa_nil)) (pk_cons (pv 2) (pk_cons (pv 3) pk_nil)))))) (fun a oe cls d pn hz hf => (pss_one (ps_ret (pe_lst (pa_cons (pe_xf T.xf_InvalidPartial T.na_part_InvalidPartial hz hf (pv 4)) (pa_cons (pe_callB (call_isH T.xe_InvalidPartial hz hf) (by rfl) T.n_isinstance (by decide +kernel) (pa_cons (pv 4) (pa_cons (pe_bltn (v := .ty "ValueError") (u := .type "ValueError") (by rfl) T.n_ValueError (by decide +kernel) rfl) pa_nil))) pa_nil)))))))), ?_⟩
    refine ⟨_, rfl, _, rfl, _, rfl, _, rfl, rfl, rfl, fun p dx np nd nn => ?_⟩
    have s0 : Same H (upd (upd H dx (.own p)) p (.ins T.C_Partial dx [])) := (Same.new nd).trans (Same.new (by rw [upd_ne nn.symm]; exact np))
    generalize e0 : upd (upd H dx (.own p)) p (.ins T.C_Partial dx []) = H0 at s0 ⊢
    have ep : H0 p = some (.ins T.C_Partial dx []) := by rw [← e0]; exact upd_same
    refine bad_part (hb.same s0) ep fun H' d s' nd' => ?_
    refine ⟨true, T.te_InvalidPartial, fun _ a na => ?_, fun z => nomatch z⟩
    refine ⟨_, rfl, rfl, rfl, d, _, _, rfl, upd_same, rfl, ?_⟩
    exact ⟨_, rfl, d, rfl, rfl, _, _, _, _, rfl, fun u r => r, T.kit_ValueError_InvalidPartial, upd_same, two_le, fun p' np' => q p' _ (((s0.trans s').trans (Same.new nd')).trans (Same.new np')) upd_same⟩
end
end My
set_option maxHeartbeats 1000000
namespace My
open PySem L2 U StX PM
/-- [(a, b) for x in range(..)] -/
theorem lc_rangeTT {wi : TI} {i : Nat} {tv : TE} {vs : List Nat} {σ : L2.St} {H0 H : Hp} {Q : VK} {lo : Int} {n : Nat} (g : Nat → Int × Int) (hwi : ∀ R : It → Hp → Prop, R (Itr lo n) H → wi σ H0 R)
    (hw : ∀ a, wipe ((wipe σ vs).set i a) vs = wipe σ vs) (hn : n < sizeLine)
    (hb : ∀ k : Nat, k < n → ∀ H1, L2.Same H H1 → ∀ R : VK, (∀ t, H1 t = none → R (.ref t) (upd H1 t (.tup [.int (g k).1, .int (g k).2]))) → tv ((wipe σ vs).set i (some (.int (lo + (k : Nat))))) H1 R)
    (hq : ∀ (D : Addr) (ps : List Addr) (H' : Hp), H D = none → H' D = some (.lst (ps.map V.ref)) → Paired (fun p (kv : Key × V) => H' p = some (.tup [kV kv.1, kv.2])) ps (kvI ((List.range n).map g)) → L2.Same H H' → Q (.ref D) H') :
    tLc wi (gName i) tYes tv vs σ H0 Q := by
  refine hwi _ fun D hD => ?_
  refine lc_it (walk_range (lo := lo)) (fun k H' => L2.Same H H' ∧ ∃ ps : List Addr, H' D = some (.lst (ps.map V.ref)) ∧ ps.length = k ∧ (∀ q ∈ ps, q ≠ D) ∧ Paired (fun p (kv : Key × V) => H' p = some (.tup [kV kv.1, kv.2])) ps (kvI ((List.range k).map g)))
    ⟨Same.new hD, [], upd_same, rfl, (fun p h => nomatch h), .nil⟩ (fun _ _ _ _ => trivial) ?_ ?_
  · rintro k v H' H'' hk ⟨s1, ps, e1, hl, hne, hp⟩ ⟨rfl, rfl⟩
    refine ⟨hw _, yes_ (hb k hk _ s1 _ fun t ht => ⟨_, carryNew ht e1, by rw [List.length_map]; omega, ?_⟩)⟩
    have htD : t ≠ D := (ne_of_none e1 ht).symm
    refine ⟨Same.put (s1.trans (Same.new ht)) hD, ps ++ [t], ?_, by rw [List.length_append, List.length_singleton, hl], ?_, ?_⟩
    · rw [upd_same, List.map_append]; rfl
    · intro q hq'
      rcases List.mem_append.mp hq' with h | h
      · exact hne q h
      · rw [List.mem_singleton] at h; subst h; exact htD
    · rw [List.range_succ, List.map_append, show kvI ((List.range k).map g ++ [k].map g) = kvI ((List.range k).map g) ++ [(Sum.inl (g k).1, V.int (g k).2)] from by unfold kvI; rw [List.map_append]; rfl]
      refine PySem.Paired.snoc (hp.map fun q hq' kv e => ?_) ?_
      · rw [upd_ne (hne q hq'), upd_ne (ne_of_none e ht)]; exact e
      · rw [upd_ne htD]; exact upd_same
  · rintro H' ⟨s1, ps, e1, hl, hne, hp⟩
    exact hq D ps H' hD e1 hp s1
theorem get_int {l : List Int} {k : Nat} (h : k < l.length) : (l.map V.int)[k]? = some (.int (l.getD k 0)) := by
  rw [List.getElem?_map, List.getElem?_eq_getElem h, List.getD_eq_getElem?_getD, List.getElem?_eq_getElem h]
  rfl
theorem atI_m1 {xs : List V} {v : V} (h : xs[xs.length - 1]? = some v) : atI xs (-1) = some v := by
  rcases List.eq_nil_or_concat xs with rfl | ⟨ys, y, rfl⟩
  · simp at h
  · rw [List.concat_eq_append] at h ⊢
    have e : (ys ++ [y])[(ys ++ [y]).length - 1]? = some y := by simp
    rw [e] at h
    cases h
    exact atI_last _ _
theorem mkK_of {P : Program} {w : World} {K : PySem.W.Frag} {C CM CE : Addr} {ks : List Str} {H : Hp} {n : Int} {d : Addr} {l : List (Int × Int)} {f : PF} {e t : V} {Es Ts : List Int} {Q : VK} {E : XK} {ta tk : TA} {σ : L2.St} (hk2 : ks.length = 2) (ht : ∀ R : List V → Hp → Prop, R [.int n, .ref d] H → ta σ H R) (hk : ∀ R : List V → Hp → Prop, R [e, t] H → tk σ H R) (h1 : 1 ≤ n) (h3 : n ≤ 300) (hd : H d = some (.dK (kvI l))) (di : DI l f) (wf : WF n f) (hl : l.length ≤ 1000)
    (ge : GoodS K H n e Es (cE f)) (gt : GoodS K H n t Ts (cS l)) (q : ∀ s H', H s = none → Same H H' → IsPart C CM H' s n f (ascE n Es) (ascE n Ts) → Q (.ref s) H') : tMakeK C 2 ks.length (fun vs H Q _ => spPI P w K C CM CE vs H Q E0) (fun vs zs => vs ++ zs) E ta tk σ H Q := by
  refine ht _ (hk _ ⟨rfl, hk2.symm, ?_⟩)
  exact new_part h1 h3 hd di wf hl ge gt q
theorem lst1_of {t : TE} {σ : L2.St} {H : Hp} {Q : VK} (h : t σ H fun x H1 => [x].length ≤ sizeLine ∧ ∀ p, H1 p = none → Q (.ref p) (upd H1 p (.lst [x]))) : tLst (tCons t tNil) σ H Q := h
theorem ta1_of {t : TE} {σ : L2.St} {H : Hp} {R : List V → Hp → Prop} (h : t σ H fun x H1 => R [x] H1) : tCons t tNil σ H R := h
/-- another map of the same knowledge -/
def Oth (n : Int) (l : List (Int × Int)) (f : PF) (m : List (Int × Int)) : Prop := ∃ g, DI m g ∧ WF n g ∧ g ≠ f ∧ (∀ i, f i = none → g i = none) ∧ ∀ x y, g x = some y → y ∈ l.map (·.2)
theorem at_l {l : List (Int × Int)} {k : Nat} (h : k < l.length) : ((l.map (·.1)).getD k 0, (l.map (·.2)).getD k 0) ∈ l := by
  have e : l[k]? = some l[k] := List.getElem?_eq_getElem h
  have : ((l.map (·.1)).getD k 0, (l.map (·.2)).getD k 0) = l[k] := by
    rw [List.getD_eq_getElem?_getD, List.getD_eq_getElem?_getD, List.getElem?_map, List.getElem?_map, e]
    rfl
  rw [this]
  exact List.getElem_mem h
theorem less_eq : ∀ l : List (Int × Int), ((List.range (l.length - 1)).map fun k => ((l.map (·.1)).getD (k + 1) 0, (l.map (·.2)).getD (k + 1) 0)) = l.tail
  | [] => rfl
  | p :: r => by
    refine List.ext_getElem? fun i => ?_
    rw [List.tail_cons, List.getElem?_map]
    by_cases hi : i < r.length
    · rw [List.getElem?_eq_getElem (show i < (List.range ((p :: r).length - 1)).length by simpa using hi), List.getElem_range, List.getElem?_eq_getElem hi]
      show some (((p :: r).map (·.1)).getD (i + 1) 0, ((p :: r).map (·.2)).getD (i + 1) 0) = some r[i]
      rw [List.getD_eq_getElem?_getD, List.getD_eq_getElem?_getD, List.getElem?_map, List.getElem?_map, List.getElem?_cons_succ, List.getElem?_eq_getElem hi]
      rfl
    · rw [List.getElem?_eq_none (by simpa using hi), List.getElem?_eq_none (by omega)]
      rfl
theorem less_ok {n : Int} {l : List (Int × Int)} {f : PF} (di : DI l f) (wf : WF n f) (h : l ≠ []) : Oth n l f ((List.range (l.length - 1)).map fun k => ((l.map (·.1)).getD (k + 1) 0, (l.map (·.2)).getD (k + 1) 0)) := by
  rw [less_eq]
  have hs : l.tail.Sublist l := List.tail_sublist l
  refine ⟨lk l.tail, di_sub di hs, wf_sub di wf hs, fun e => ?_, fun i hi => ?_, fun x y e => ?_⟩
  · obtain ⟨⟨x, y⟩, r, rfl⟩ := List.exists_cons_of_ne_nil h
    have h1 : f x = some y := di.mem.mp List.mem_cons_self
    rw [← e] at h1
    have h2 := lk_mem h1
    have nd := di.nd
    rw [List.map_cons, List.nodup_cons] at nd
    exact nd.1 (List.mem_map.mpr ⟨_, h2, rfl⟩)
  · cases e : lk l.tail i with
    | none => rfl
    | some y =>
      have := di.mem.mp (hs.subset (lk_mem e))
      rw [hi] at this; cases this
  · exact List.mem_map.mpr ⟨_, hs.subset (lk_mem e), rfl⟩
theorem turned_ok {n : Int} {l : List (Int × Int)} {f : PF} (di : DI l f) (wf : WF n f) (h : 2 ≤ l.length) : Oth n l f ((List.range l.length).map fun k => ((l.map (·.1)).getD k 0, (l.map (·.2)).getD (if k = 0 then l.length - 1 else k - 1) 0)) := by
  have hm : ∀ x y, (x, y) ∈ ((List.range l.length).map fun k => ((l.map (·.1)).getD k 0, (l.map (·.2)).getD (if k = 0 then l.length - 1 else k - 1) 0)) → ∃ k, k < l.length ∧ x = (l.map (·.1)).getD k 0 ∧ y = (l.map (·.2)).getD (if k = 0 then l.length - 1 else k - 1) 0 := fun x y hm => by
    obtain ⟨k, hk, e⟩ := List.mem_map.mp hm
    cases e
    exact ⟨k, List.mem_range.mp hk, rfl, rfl⟩
  have hks : (((List.range l.length).map fun k => ((l.map (·.1)).getD k 0, (l.map (·.2)).getD (if k = 0 then l.length - 1 else k - 1) 0)).map (·.1)) = l.map (·.1) := by
    rw [List.map_map]
    refine List.ext_getElem? fun i => ?_
    rw [List.getElem?_map]
    by_cases hi : i < l.length
    · rw [List.getElem?_eq_getElem (by simpa using hi), List.getElem_range, List.getElem?_map, List.getElem?_eq_getElem hi]
      show some ((l.map (·.1)).getD i 0) = some l[i].1
      rw [List.getD_eq_getElem?_getD, List.getElem?_map, List.getElem?_eq_getElem hi]
      rfl
    · rw [List.getElem?_eq_none (by simpa using hi), List.getElem?_eq_none (by simpa using hi)]
      rfl
  generalize hM : ((List.range l.length).map fun k => ((l.map (·.1)).getD k 0, (l.map (·.2)).getD (if k = 0 then l.length - 1 else k - 1) 0)) = m at hm hks
  have dm : DI m (lk m) := ⟨by rw [hks]; exact di.nd, fun _ => rfl⟩
  have rot : ∀ k, k < l.length → (if k = 0 then l.length - 1 else k - 1) < l.length := fun k hk => by split <;> omega
  have vinj : ∀ i j, i < l.length → j < l.length → (l.map (·.2)).getD i 0 = (l.map (·.2)).getD j 0 → i = j := fun i j hi hj e => by
    have nd := di.vals wf
    refine (List.getElem?_inj (by rw [List.length_map]; exact hi) nd).mp ?_
    rw [List.getD_eq_getElem?_getD, List.getD_eq_getElem?_getD] at e
    rw [List.getElem?_map, List.getElem?_map, List.getElem?_eq_getElem hi, List.getElem?_eq_getElem hj] at e ⊢
    exact congrArg some e
  have fk : ∀ k, k < l.length → f ((l.map (·.1)).getD k 0) = some ((l.map (·.2)).getD k 0) := fun k hk => di.mem.mp (at_l hk)
  refine ⟨lk m, dm, ⟨fun x y e => ?_, fun x x' y e e' => ?_⟩, fun e => ?_, fun i hi => ?_, fun x y e => ?_⟩
  · obtain ⟨k, hk, rfl, rfl⟩ := hm x y (lk_mem e)
    have h1 := wf.dom _ _ (fk k hk)
    have h2 := wf.dom _ _ (fk _ (rot k hk))
    omega
  · obtain ⟨k, hk, rfl, rfl⟩ := hm x y (lk_mem e)
    obtain ⟨k', hk', rfl, e2⟩ := hm x' _ (lk_mem e')
    have h3 := vinj _ _ (rot k hk) (rot k' hk') e2
    have : k = k' := by
      by_cases hk0 : k = 0 <;> by_cases hk0' : k' = 0 <;> simp only [hk0, hk0', if_true, if_false] at h3 <;> omega
    rw [this]
  · have h0 : ((l.map (·.1)).getD 0 0, (l.map (·.2)).getD (l.length - 1) 0) ∈ m := by
      rw [← hM]
      exact List.mem_map.mpr ⟨0, List.mem_range.mpr (by omega), rfl⟩
    have h1 := dm.mem.mp h0
    rw [e, fk 0 (by omega)] at h1
    have := vinj 0 (l.length - 1) (by omega) (by omega) (Option.some.inj h1)
    omega
  · cases e : lk m i with
    | none => rfl
    | some y =>
      obtain ⟨k, hk, rfl, _⟩ := hm i y (lk_mem e)
      rw [fk k hk] at hi; cases hi
  · obtain ⟨k, hk, rfl, rfl⟩ := hm x y (lk_mem e)
    exact List.mem_map.mpr ⟨_, at_l (rot k hk), rfl⟩
/-- the dict of another map, and its partly known map -/
theorem Oth.dict {n : Int} {l m : List (Int × Int)} {f : PF} (h : Oth n l f m) : ∃ l' g, mergeK [] (kvI m) = kvI l' ∧ DI l' g ∧ WF n g ∧ g ≠ f ∧ (∀ i, f i = none → g i = none) ∧ ∀ i, i ∈ l'.map (·.2) → i ∈ l.map (·.2) := by
  obtain ⟨g, di, wf, ne, hn, hv⟩ := h
  obtain ⟨l', e, _, di'⟩ := dict_of di
  refine ⟨l', g, e, di', wf, ne, hn, fun i hi => ?_⟩
  obtain ⟨⟨x, y⟩, hp, rfl⟩ := List.mem_map.mp hi
  exact hv x y (di'.mem.mp hp)
def spUn (C CM : Addr) : Sp := fun vs H Q _ => ∃ n r d c u l f Ec Eu, vs = [.int n, .ref r] ∧ RowP H n r d c u l f Ec Eu ∧ 1 ≤ n ∧ n ≤ 5 ∧ ∀ (L : Addr) (os : List Addr) (H' : Hp), H' L = some (.lst (os.map V.ref)) → os.length ≤ 2 → (∀ o ∈ os, ∃ f', f' ≠ f ∧ IsPart C CM H' o n f' Ec Eu) → Same H H' → H L = none → Q (.ref L) H'
section
variable {P : Program} {w : World} {K : PySem.W.Frag} {mg : Str → Option Value} {base : Heap}
set_option pp.maxSteps 3000 in
theorem ok_l_unlike (T : Txt K mg) : FnR P w K mg base CX0 11 T.f_l_unlike (spUn T.C_Partial T.C_Map) := by
  refine T.A_l_unlike.ok sc_l_unlike (fun vs H Q E h => ?_) (fun cdv A outer s H vs Q E hr h => ?_)
  · obtain ⟨n, r, d, c, u, l, f, Ec, Eu, rfl, _⟩ := h
    rfl
  · obtain ⟨n, r, d, c, u, l, f, Ec, Eu, rfl, row, h1, h5, q⟩ := h
    have hu := hu_of hr
    obtain ⟨fd, F⟩ := T.D_Partial__init
    obtain ⟨g, kb_ends_starts⟩ := kbs T F
    refine ⟨_, (pss_cons (ps_asg (pe_tup (pa_cons (pe_callTy (call_list_dK rfl) (by rfl) T.n_list (by decide +kernel) (pa_cons (pe_ix ix_list (pv 1) pe_int (fun _ _ => rfl)) pa_nil)) (pa_cons (pe_listVals rfl (pe_ix ix_list (pv 1) pe_int (fun _ _ => rfl)) rfl T.n_list (by decide +kernel)) pa_nil))) (pg_tup rfl (pgs_cons (pg_name (i := 2) sc_l_unlike.nd rfl (Or.inr rfl)) (pgs_cons (pg_name (i := 3) sc_l_unlike.nd rfl (Or.inr rfl)) pgs_nil))))
      (pss_cons (ps_if (pt_cmpR (L2.op_eqD hr.units) (pv 2) (pe_lst pa_nil) (nomark _))
        (pss_one (ps_ret (pe_lst pa_nil))) pss_nil)
      (pss_cons (ps_set (i := 4) sc_l_unlike.nd rfl (Or.inl rfl) (pe_callTy (call_dictP rfl) (by rfl) T.n_dict (by decide +kernel) (pa_cons (pe_lc (own := [("_law_at", 7)]) (g := (gName 7)) (tt := tYes) rfl sc_l_unlike.nd (pi_range2 (by rfl) T.n_range (pa_cons pe_int (pa_cons (pe_callB call_len_seq (by rfl) T.n_len (by decide +kernel) (pa_cons (pv 2) pa_nil)) pa_nil))) (blkOk_by (own := [("_law_at", 7)]) (N := n_l_unlike) (sc := defScope s_l_unlike) (by decide +kernel)) (fun _ _ _ _ _ => (pg_name (i := 7) sc_l_unlike.nd rfl (Or.inl rfl))) (fun _ _ _ _ _ => pts_nil) (fun _ _ _ _ _ => (pe_tup (pa_cons (pe_ix (ix_listK (K := K) rfl) (pv 2) (pv 7) (fun _ _ => rfl)) (pa_cons (pe_ix (ix_listK (K := K) rfl) (pv 3) (pv 7) (fun _ _ => rfl)) pa_nil))))) pa_nil)))
      (pss_cons (ps_set (i := 5) sc_l_unlike.nd rfl (Or.inl rfl) (pe_lst (pa_cons (pe_makeK T.M_Partial (fnO_calm (okF_pi (P := P) (w := w) (base := base) T F)) (hr.mono (by decide)) rfl T.g_Partial kb_ends_starts pass0 (pa_cons (pv 0) (pa_cons (pv 4) pa_nil)) (pk_cons (pe_ix ix_list (pv 1) pe_int (fun _ _ => rfl)) (pk_cons (pe_ix ix_list (pv 1) pe_int (fun _ _ => rfl)) pk_nil))) pa_nil)))
      (pss_cons (ps_if (pt_cmpR op_gt (pe_callB call_len_seq (by rfl) T.n_len (by decide +kernel) (pa_cons (pv 2) pa_nil)) pe_int (nomark _))
        (pss_cons (ps_set (i := 6) sc_l_unlike.nd rfl (Or.inl rfl) (pe_callTy (call_dictP rfl) (by rfl) T.n_dict (by decide +kernel) (pa_cons (pe_lc (own := [("_law_at", 7)]) (g := (gName 7)) (tt := tYes) rfl sc_l_unlike.nd (pi_range1 rfl T.n_range (pa_cons (pe_callB call_len_seq (by rfl) T.n_len (by decide +kernel) (pa_cons (pv 2) pa_nil)) pa_nil)) (blkOk_by (own := [("_law_at", 7)]) (N := n_l_unlike) (sc := defScope s_l_unlike) (by decide +kernel)) (fun _ _ _ _ _ => (pg_name (i := 7) sc_l_unlike.nd rfl (Or.inl rfl))) (fun _ _ _ _ _ => pts_nil) (fun _ _ _ _ _ => (pe_tup (pa_cons (pe_ix (ix_listK (K := K) rfl) (pv 2) (pv 7) (fun _ _ => rfl)) (pa_cons (pe_ix (ix_listK (K := K) rfl) (pv 3) (pe_op op_sub (pv 7) pe_int) (fun _ _ => rfl)) pa_nil))))) pa_nil)))
      (pss_one (ps_expr (pe_bm PySem.F.plainAttrs_list PySem.F.slot_list_append PySem.F.type_list_append mt_append (pv 5) (pa_cons (pe_makeK T.M_Partial (fnO_calm (okF_pi (P := P) (w := w) (base := base) T F)) (hr.mono (by decide)) rfl T.g_Partial kb_ends_starts pass0 (pa_cons (pv 0) (pa_cons (pv 6) pa_nil)) (pk_cons (pe_ix ix_list (pv 1) pe_int (fun _ _ => rfl)) (pk_cons (pe_ix ix_list (pv 1) pe_int (fun _ _ => rfl)) pk_nil))) pa_nil))))) pss_nil)
      (pss_one (ps_ret (pv 5)))))))), ?_⟩
    have hll : l.length ≤ 5 := by have := di_lenN row.di row.wf; omega
    have nz : ∀ {Hx : Hp} {a : Addr}, Same H Hx → Hx a = none → H a = none := fun sx e => by
      cases hF : H _ with
      | none => rfl
      | some o => rw [sx _ _ hF] at e; cases e
    refine nx_seq ?_
    refine asgT_of ?_
    refine ⟨_, rfl, r, _, 0, _, rfl, rfl, SqL.of row.er, rfl, d, kvI l, rfl, row.ed, ?_⟩
    refine fun A1 n_A1 => ?_
    generalize g_A1 : L2.upd _ A1 _ = H1
    obtain ⟨s_H1, e_A1⟩ := U.upd_facts g_A1 n_A1
    clear g_A1
    refine ⟨_, rfl, r, _, 0, _, rfl, rfl, SqL.of (s_H1 _ _ row.er), rfl, d, kvI l, rfl, s_H1 _ _ row.ed, ?_⟩
    refine fun A2 n_A2 => ?_
    generalize g_A2 : L2.upd _ A2 _ = H2
    obtain ⟨s_H2, e_A2⟩ := U.upd_facts g_A2 n_A2
    clear g_A2
    refine ⟨two_le, ?_⟩
    refine fun tu n_tu => ?_
    generalize g_tu : L2.upd _ tu _ = H3
    obtain ⟨s_H3, e_tu⟩ := U.upd_facts g_tu n_tu
    clear g_tu
    refine ⟨tu, [.ref A1, .ref A2], rfl, SqT.of e_tu, rfl, _, _, rfl, _, _, rfl, rfl, ?_⟩
    have e1 : H3 A1 = some (.lst ((l.map (·.1)).map V.int)) := by
      have := s_H3 _ _ (s_H2 _ _ e_A1)
      rw [this]
      unfold kvI
      rw [List.map_map, List.map_map]
      rfl
    have e2 : H3 A2 = some (.lst ((l.map (·.2)).map V.int)) := by
      have := s_H3 _ _ e_A2
      rw [this]
      exact congrArg _ (congrArg _ (kvI_snd l))
    have s3 : Same H H3 := (s_H1.trans s_H2).trans s_H3
    clear e_A1 e_A2
    dsimp only
    refine nx_seq ?_
    refine tt_of ⟨_, rfl, nil_le, ?_⟩
    refine fun w0 n_w0 => ?_
    generalize g_w0 : L2.upd _ w0 _ = H4
    obtain ⟨s_H4, e_w0⟩ := U.upd_facts g_w0 n_w0
    clear g_w0
    refine eq_nil (s_H4 _ _ e1) e_w0 ⟨_, rfl, ?_⟩
    have s4 := s3.trans s_H4
    by_cases hl0 : l = []
    · rw [decide_eq_true (by rw [hl0]; rfl)]
      refine iteT ?_
      refine ret_of ⟨nil_le, fun p hp => q p [] _ upd_same (by decide) (fun o h => nomatch h) (s4.trans (Same.new hp)) (nz s4 hp)⟩
    · rw [decide_eq_false (by rw [List.map_eq_nil_iff]; exact hl0)]
      refine iteF ?_
      dsimp only [tNext]
      refine nx_seq ?_
      refine asg_of ?_
      refine cb_of' ?_
      have el1 := s_H4 _ _ e1
      have el2 := s_H4 _ _ e2
      refine lc_rangeTT (H := H4) (lo := 1) (n := l.length - 1) (fun k => ((l.map (·.1)).getD (k + 1) 0, (l.map (·.2)).getD (k + 1) 0)) (fun R rr => ⟨_, rfl, A1, _, rfl, .inl (SqL.of el1), 1, (l.length : Int), by rw [List.length_map, List.length_map], by omega, ?_⟩) (fun _ => rfl) (small1000 (by omega)) (fun k hk Hx sx R rr => ?_) fun D ps H5 n_D e_D hps s5 => ?_
      · rw [show ((l.length : Int) - 1).toNat = l.length - 1 by omega]
        exact rr
      · have ek : (1 + (k : Nat) : Int) = ((k + 1 : Nat) : Int) := by omega
        refine ⟨_, rfl, _, rfl, A1, _, _, _, rfl, rfl, SqL.of (sx _ _ el1), by rw [ek]; exact atI_nat (get_int (by rw [List.length_map]; omega)), _, rfl, _, rfl, A2, _, _, _, rfl, rfl, SqL.of (sx _ _ el2), by rw [ek]; exact atI_nat (get_int (by rw [List.length_map]; omega)), two_le, rr⟩
      refine ⟨D, ps, _, rfl, SqL.of e_D, hps.map fun _ _ _ e => SqT.of e, ?_⟩
      obtain ⟨l1, g1, em1, di1, wf1, ne1, hn1, hv1⟩ := (less_ok row.di row.wf hl0).dict
      refine fun d1 n_d1 => ?_
      generalize g_d1 : L2.upd _ d1 _ = H6
      obtain ⟨s_H6, e_d1⟩ := U.upd_facts g_d1 n_d1
      clear g_d1
      have e_d1' : H6 d1 = some (.dK (kvI l1)) := by rw [e_d1]; exact congrArg _ (congrArg _ em1)
      have s6 : Same H H6 := (s4.trans s5).trans s_H6
      dsimp only
      refine nx_seq ?_
      refine asg_of ?_
      have row6 := row.same s6
      refine lst1_of ?_
      refine mkK_of rfl (fun R rr => ⟨_, rfl, _, rfl, rr⟩) (fun R rr => ⟨_, rfl, r, _, 1, _, rfl, rfl, SqL.of row6.er, rfl, _, rfl, r, _, 2, _, rfl, rfl, SqL.of row6.er, rfl, rr⟩) h1 (by omega) e_d1' di1 wf1 (by have := di_lenN di1 wf1; omega) (row6.gE (Int.le_refl _) h1 h5 fun i hi => hn1 i (row.hc i hi)) (row6.gS (Int.le_refl _) h1 h5 fun i hi hm => row.hu i hi (hv1 i hm)) fun o1 H7 n_o1 s7 ip1 => ?_
      rw [ascE_sel row.ac fun i => Iff.rfl, ascE_sel row.au fun i => Iff.rfl] at ip1
      refine ⟨by show 1 ≤ sizeLine; decide, ?_⟩
      refine fun F n_F => ?_
      generalize g_F : L2.upd _ F _ = H8
      obtain ⟨s_H8, e_F⟩ := U.upd_facts g_F n_F
      clear g_F
      have s8 : Same H H8 := (s6.trans s7).trans s_H8
      have n_F' : H F = none := nz (s6.trans s7) n_F
      dsimp only
      have el1' : H8 A1 = some (.lst ((l.map (·.1)).map V.int)) := s_H8 _ _ (s7 _ _ (s_H6 _ _ (s5 _ _ el1)))
      have el2' : H8 A2 = some (.lst ((l.map (·.2)).map V.int)) := s_H8 _ _ (s7 _ _ (s_H6 _ _ (s5 _ _ el2)))
      have ip8 := ip1.same s_H8
      refine nx_seq ?_
      refine tt_of ⟨_, rfl, A1, _, rfl, .inl (SqL.of el1'), _, _, rfl, rfl, _, rfl, ?_⟩
      refine ifD (fun hlt => ?A) (fun hlt => ?B)
      case B =>
        dsimp only [tNext]
        refine ret_of ?_
        refine ⟨_, rfl, q F [o1] H8 e_F (by show 1 ≤ 2; decide) (fun o ho => ?_) s8 n_F'⟩
        rw [List.mem_singleton] at ho
        subst ho
        exact ⟨g1, ne1, ip8⟩
      have h2 : 2 ≤ l.length := by rw [List.length_map, List.length_map] at hlt; omega
      refine nx_seq ?_
      refine asg_of ?_
      refine cb_of' ?_
      refine lc_rangeTT (H := H8) (lo := 0) (n := l.length) (fun k => ((l.map (·.1)).getD k 0, (l.map (·.2)).getD (if k = 0 then l.length - 1 else k - 1) 0)) (fun R rr => ⟨_, rfl, A1, _, rfl, .inl (SqL.of el1'), (l.length : Int), by rw [List.length_map, List.length_map], by omega, by omega, rr⟩) (fun _ => rfl) (small1000 (by omega)) (fun k hk Hx sx R rr => ?_) fun D2 ps2 H9 n_D2 e_D2 hps2 s9 => ?_
      · have ek : (0 + (k : Nat) : Int) = (k : Int) := by omega
        refine ⟨_, rfl, _, rfl, A1, _, _, _, rfl, rfl, SqL.of (sx _ _ el1'), by rw [ek]; exact atI_nat (get_int (by rw [List.length_map]; omega)), _, rfl, _, rfl, _, _, rfl, rfl, A2, _, _, _, rfl, rfl, SqL.of (sx _ _ el2'), ?_, two_le, rr⟩
        by_cases hk0 : k = 0
        · rw [if_pos hk0, hk0]
          have := get_int (l := l.map (·.2)) (k := l.length - 1) (by rw [List.length_map]; omega)
          refine atI_m1 ?_
          rw [List.length_map, List.length_map]
          exact this
        · rw [if_neg hk0, show (0 + (k : Nat) - 1 : Int) = ((k - 1 : Nat) : Int) by omega]
          exact atI_nat (get_int (by rw [List.length_map]; omega))
      refine ⟨D2, ps2, _, rfl, SqL.of e_D2, hps2.map fun _ _ _ e => SqT.of e, ?_⟩
      obtain ⟨l2, g2, em2, di2, wf2, ne2, hn2, hv2⟩ := (turned_ok row.di row.wf h2).dict
      refine fun d2 n_d2 => ?_
      generalize g_d2 : L2.upd _ d2 _ = H10
      obtain ⟨s_H10, e_d2⟩ := U.upd_facts g_d2 n_d2
      clear g_d2
      have e_d2' : H10 d2 = some (.dK (kvI l2)) := by rw [e_d2]; exact congrArg _ (congrArg _ em2)
      have s10 : Same H H10 := (s8.trans s9).trans s_H10
      have row10 := row.same s10
      have eF10 := s_H10 _ _ (s9 _ _ e_F)
      refine ⟨_, rfl, .inl ⟨rfl, _, SqL.of eF10⟩, ?_⟩
      refine ta1_of ?_
      refine mkK_of rfl (fun R rr => ⟨_, rfl, _, rfl, rr⟩) (fun R rr => ⟨_, rfl, r, _, 1, _, rfl, rfl, SqL.of row10.er, rfl, _, rfl, r, _, 2, _, rfl, rfl, SqL.of row10.er, rfl, rr⟩) h1 (by omega) e_d2' di2 wf2 (by have := di_lenN di2 wf2; omega) (row10.gE (Int.le_refl _) h1 h5 fun i hi => hn2 i (row.hc i hi)) (row10.gS (Int.le_refl _) h1 h5 fun i hi hm => row.hu i hi (hv2 i hm)) fun o2 H11 n_o2 s11 ip2 => ?_
      rw [ascE_sel row.ac fun i => Iff.rfl, ascE_sel row.au fun i => Iff.rfl] at ip2
      have eF11 := s11 _ _ eF10
      refine ⟨F, _, .ref o2, rfl, rfl, eF11, lt_line (by show 1 ≤ _; decide), ?_⟩
      dsimp only
      refine ret_of ?_
      have stf : Off F H11 (upd H11 F (.lst ([.ref o1] ++ [.ref o2]))) := Off.lock
      have eFF : (upd H11 F (.lst ([.ref o1] ++ [.ref o2]))) F = some (.lst ([o1, o2].map V.ref)) := upd_same
      generalize upd H11 F (.lst ([.ref o1] ++ [.ref o2])) = HZ at stf eFF ⊢
      have kp : ∀ {o n f a b}, IsPart T.C_Partial T.C_Map H11 o n f a b → IsPart T.C_Partial T.C_Map HZ o n f a b := fun ip => by
        obtain ⟨⟨dx, m, te, tt, a, b, c, e⟩, l1, l2⟩ := ip
        have nf : ∀ {b o}, H11 b = some o → (∀ xs, o ≠ .lst xs) → b ≠ F := fun e1 e2 z => by rw [z, eF11] at e1; cases e1; exact e2 _ rfl
        obtain ⟨⟨dy, D, m1, m2⟩, w1, w2, w3⟩ := b
        exact ⟨⟨dx, m, te, tt, stf _ _ (nf a fun _ z => by cases z) a, ⟨⟨dy, D, stf _ _ (nf m1 fun _ z => by cases z) m1, stf _ _ (nf m2 fun _ z => by cases z) m2⟩, w1, w2, w3⟩, stf _ _ (nf c fun _ z => by cases z) c, stf _ _ (nf e fun _ z => by cases z) e⟩, l1, l2⟩
      refine ⟨_, rfl, q F [o1, o2] HZ eFF (by show 2 ≤ 2; decide) (fun o ho => ?_) (fun b o e => ?_) n_F'⟩
      · rcases List.mem_cons.mp ho with rfl | ho
        · exact ⟨g1, ne1, kp (((ip8.same s9).same s_H10).same s11)⟩
        · rw [List.mem_singleton] at ho
          subst ho
          exact ⟨g2, ne2, kp ip2⟩
      · have : b ≠ F := fun z => by rw [z, n_F'] at e; cases e
        exact stf _ _ this (s11 _ _ (s10 _ _ e))
end
end My
set_option maxHeartbeats 1000000
namespace My
open PySem L2 U StX PM
/-! ### what is shown -/
def okTuB (l : List Int) : Bool := (tuD l).showable && !(tuD l).hasDict && decide ((tuD l).depth ≤ 60) && decide ((tuD l).shown.length ≤ 1000)
def subs : List Int → List (List Int)
  | [] => [[]]
  | x :: r => (subs r) ++ (subs r).map (x :: ·)
theorem filter_subs (p : Int → Bool) : ∀ l : List Int, l.filter p ∈ subs l
  | [] => List.mem_singleton.mpr rfl
  | x :: r => by
    have ih := filter_subs p r
    rw [List.filter_cons]
    show _ ∈ subs r ++ (subs r).map (x :: ·)
    cases p x with
    | true => exact List.mem_append_right _ (List.mem_map.mpr ⟨_, ih, rfl⟩)
    | false => exact List.mem_append_left _ ih
theorem sel_subs (n : Nat) (S : Nat → Bool) : sel n S ∈ subs ((List.range n).map fun (k : Nat) => (k : Int)) := by
  have : sel n S = ((List.range n).map fun (k : Nat) => (k : Int)).filter (fun i => S i.toNat) := by
    unfold sel
    rw [List.filter_map]
    rfl
  rw [this]
  exact filter_subs _ _
theorem all_subs : (List.range 6).all (fun n => (subs ((List.range n).map fun (k : Nat) => (k : Int))).all okTuB) = true := by decide +kernel
theorem okTu_sel {n : Int} {E : List Int} (h : ∃ S, E = sel n.toNat S) (h5 : n ≤ 5) : okTu E := by
  obtain ⟨S, rfl⟩ := h
  have h1 := List.all_eq_true.mp all_subs n.toNat (List.mem_range.mpr (by omega))
  have h2 := List.all_eq_true.mp h1 _ (sel_subs n.toNat S)
  unfold okTuB at h2
  simp only [Bool.and_eq_true, decide_eq_true_eq, Bool.not_eq_true'] at h2
  exact ⟨h2.1.1.1, h2.1.1.2, h2.1.2, h2.2⟩
theorem eqv_two (a b : List Int) : PyData.eqv (.list [tuD a, tuD b]) (.list [tuD a, tuD b]) = true := by
  have e : PyData.eqv (.list [tuD a, tuD b]) (.list [tuD a, tuD b]) = (PyData.eqv (tuD a) (tuD a) && (PyData.eqv (tuD b) (tuD b) && true)) := rfl
  rw [e, eqv_tu, eqv_tu, decide_eq_true rfl, decide_eq_true rfl]
  rfl
theorem shp_two (a b : List Int) : SeqAt.shaped (.list [tuD a, tuD b]) = true := by
  unfold SeqAt.shaped
  have h1 := lay_tu a
  have h2 := lay_tu b
  rw [Bool.and_eq_true]
  refine ⟨?_, decide_eq_true ?_⟩
  · show (PyData.canLayAll0 (a.map PyData.int) && (PyData.canLayAll0 (b.map PyData.int) && true)) = true
    rw [h1.1, h2.1]
    rfl
  · show max (PyData.depthAll (a.map PyData.int) + 1) (max (PyData.depthAll (b.map PyData.int) + 1) 0) + 1 ≤ 64
    omega
theorem or_of {t u : TT} {b nx : TS} {D : Ends} {σ : L2.St} {H : Hp} (h : t σ H fun c H1 => if c = true then (if true = true then b D σ H1 else nx D σ H1) else u σ H1 fun c2 H2 => if c2 = true then b D σ H2 else nx D σ H2) : tIfS (tOr t u) b nx D σ H := by
  have : (tOr t u) σ H (fun c H' => if c = true then b D σ H' else nx D σ H') := h
  exact this
theorem prR_of {C : Addr} {sp : Sp} {t : TE} {σ : L2.St} {H : Hp} {Q : VK} (h : t σ H fun x H1 => ∃ a dx fs, x = .ref a ∧ H1 a = some (.ins C dx fs) ∧ sp [.ref a] H1 Q E0) : tPropR C sp t σ H Q := h
theorem ne_maps {K : PySem.W.Frag} {mg : Str → Option Value} (T : Txt K mg) {H : Hp} {a b : Addr} {n m : Int} {f g : PF} {Q : VK} (ha : IsMap T.C_Map H a n f) (hb : IsMap T.C_Map H b m g) (q : Q (.bl (!eqB n f m g)) H) : rNeV K T.C_Map (spEqV T.C_Map) E0 (.ref a) (.ref b) H Q := by
  obtain ⟨d1, l1, e1⟩ := at_map ha
  obtain ⟨d2, l2, e2⟩ := at_map hb
  exact ⟨a, d1, l1, _, rfl, e1, tyx_ins T.o_Map e2, notFirst_self _ _, a, _, rfl, .inl ⟨b, n, f, m, g, rfl, ha, hb, _, rfl, q⟩⟩
def spShown (C CM : Addr) : Sp := fun vs H Q _ => ∃ n r d c u o l f Ec Eu, vs = [.int n, .ref r, .ref o] ∧ RowP H n r d c u l f Ec Eu ∧ 1 ≤ n ∧ n ≤ 5 ∧ IsPart C CM H o n f Ec Eu ∧ ∀ H', Same H H' → Q (.bl true) H'
section
variable {P : Program} {w : World} {K : PySem.W.Frag} {mg : Str → Option Value} {base : Heap}
set_option pp.maxSteps 3000 in
theorem ok_l_shown (T : Txt K mg) : FnG P w K mg base CX0 16 T.f_l_shown (spShown T.C_Partial T.C_Map) := by
  refine T.A_l_shown.okG sc_l_shown (fun vs H Q E h => ?_) (fun cdv A outer s H vs Q E gd hr h => ?_)
  · obtain ⟨n, r, d, c, u, o, l, f, Ec, Eu, rfl, _⟩ := h
    rfl
  · obtain ⟨n, r, d, c, u, o, l, f, Ec, Eu, rfl, row, h1, h5, ip, q⟩ := h
    have hu := hu_of hr
    refine ⟨_, (pss_cons (ps_asg (pv 1) (pg_lst rfl (pgs_cons (pg_name (i := 3) sc_l_shown.nd rfl (Or.inl rfl)) (pgs_cons (pg_name (i := 4) sc_l_shown.nd rfl (Or.inl rfl)) (pgs_cons (pg_name (i := 5) sc_l_shown.nd rfl (Or.inl rfl)) pgs_nil)))))
      (pss_cons (ps_if (PW.pt (pw_or (pt_cmpR (op_neV T.o_Map T.ne_Map T.m_Map__eq T.i_Map__eq (ok_eqV T) (hr.mono (by decide)) pass0) (pe_propR (pv 2) T.o_Partial.cl T.P_Partial_known (ok_known T) (hr.mono (by decide))) (pe_makeR T.M_Map (ok_init T) (hr.mono (by decide)) rfl T.g_Map pass0 (pa_cons (pv 0) (pa_cons (pv 3) pa_nil))) (nomark _)) (pw_or1 (pt_cmpR (L2.op_neD hr.units) (pe_lst (pa_cons (pe_propR (pv 2) T.o_Partial.cl T.P_Partial_ends (ok_ends T) (hr.mono (by decide))) (pa_cons (pe_propR (pv 2) T.o_Partial.cl T.P_Partial_starts (ok_starts T) (hr.mono (by decide))) pa_nil))) (pe_lst (pa_cons (pe_callTy call_tuple_of (by rfl) T.n_tuple (by decide +kernel) (pa_cons (pv 4) pa_nil)) (pa_cons (pe_callTy call_tuple_of (by rfl) T.n_tuple (by decide +kernel) (pa_cons (pv 5) pa_nil)) pa_nil))) (nomark _)))))
        (pss_one (ps_ret pe_bl)) pss_nil)
      (pss_cons (ps_set (i := 6) sc_l_shown.nd rfl (Or.inl rfl) (pe_propR (pe_makeR T.M_Map (ok_init T) (hr.mono (by decide)) rfl T.g_Map pass0 (pa_cons (pv 0) (pa_cons (pv 3) pa_nil))) T.o_Map.cl T.P_Map_arrows (ok_arrows T) (hr.mono (by decide))))
      (pss_cons (ps_set (i := 7) sc_l_shown.nd rfl (Or.inl rfl) (pe_op op_add_str (pe_op op_add_str (pe_op op_add_str (pe_op op_add_str pe_str (pe_callTy call_str_int (by rfl) T.n_str (by decide +kernel) (pa_cons (pv 0) pa_nil))) pe_str) (pe_callB (call_reprF gd hr.units) (by rfl) T.n_repr (by decide +kernel) (pa_cons (pv 6) pa_nil))) pe_str))
      (pss_one (ps_ret (pe_cmpR op_eq (pe_callB (call_reprO gd T.m_Partial__repr T.i_Partial__repr (ok_reprP T) (hr.mono (by decide)) pass0) (by rfl) T.n_repr (by decide +kernel) (pa_cons (pv 2) pa_nil)) (pe_op op_add_str (pe_op op_add_str (pe_op op_add_str (pe_op op_add_str (pv 7) (pe_callB (call_repr gd hr.units) (by rfl) T.n_repr (by decide +kernel) (pa_cons (pe_callTy call_tuple_of (by rfl) T.n_tuple (by decide +kernel) (pa_cons (pv 4) pa_nil)) pa_nil))) pe_str) (pe_callB (call_repr gd hr.units) (by rfl) T.n_repr (by decide +kernel) (pa_cons (pe_callTy call_tuple_of (by rfl) T.n_tuple (by decide +kernel) (pa_cons (pv 5) pa_nil)) pa_nil))) pe_str) (nomark _)))))))), ?_⟩
    obtain ⟨dx, m, te, tt, io, im, ie, it⟩ := id ip.ob
    have hl : l.length ≤ 1000 := by have := di_lenN row.di row.wf; omega
    have oe := okTu_sel row.ac h5
    have ot := okTu_sel row.au h5
    refine nx_seq ?_
    refine asgT_of ?_
    refine ⟨_, rfl, r, _, rfl, SqL.of row.er, rfl, _, _, rfl, _, _, rfl, _, _, rfl, rfl, ?_⟩
    dsimp only
    refine nx_seq ?_
    refine or_of ?_
    refine tt_of ?_
    refine ⟨_, rfl, o, dx, _, rfl, io, o, n, f, Ec, Eu, rfl, ip, fun m' hm' => ?_⟩
    refine mkR_of (fun R rr => ⟨_, rfl, _, rfl, rr⟩) row.ed row.di row.wf h1 (by omega) hl fun m1 H1 n_m1 s1 im1 => ?_
    refine ne_maps T (hm'.same s1) im1 ⟨_, rfl, ?_⟩
    rw [eqB_self row.wf]
    refine iteF ?_
    refine tt_of ?_
    refine ⟨_, rfl, o, dx, _, rfl, s1 _ _ io, o, n, f, Ec, Eu, rfl, ip.same s1, fun te' he' => ?_⟩
    refine ⟨_, rfl, o, dx, _, rfl, s1 _ _ io, o, n, f, Ec, Eu, rfl, ip.same s1, fun tt' ht' => ?_⟩
    refine ⟨two_le, fun L1 n_L1 => ?_⟩
    have s2 : Same H1 (upd H1 L1 (.lst [.ref te', .ref tt'])) := Same.new n_L1
    have e_L1 : (upd H1 L1 (.lst [.ref te', .ref tt'])) L1 = some (.lst [.ref te', .ref tt']) := upd_same
    generalize upd H1 L1 (.lst [.ref te', .ref tt']) = H2 at s2 e_L1 ⊢
    have row2 := (row.same s1).same s2
    refine ⟨_, rfl, c, _, rfl, .inl ⟨SqL.of row2.ec, fun t1 n_t1 => ?_⟩⟩
    have s3 : Same H2 (upd H2 t1 (.tup (Ec.map V.int))) := Same.new n_t1
    have e_t1 : (upd H2 t1 (.tup (Ec.map V.int))) t1 = some (.tup (Ec.map V.int)) := upd_same
    generalize upd H2 t1 (.tup (Ec.map V.int)) = H3 at s3 e_t1 ⊢
    refine ⟨_, rfl, u, _, rfl, .inl ⟨SqL.of (s3 _ _ row2.eu), fun t2 n_t2 => ?_⟩⟩
    have s4 : Same H3 (upd H3 t2 (.tup (Eu.map V.int))) := Same.new n_t2
    have e_t2 : (upd H3 t2 (.tup (Eu.map V.int))) t2 = some (.tup (Eu.map V.int)) := upd_same
    generalize upd H3 t2 (.tup (Eu.map V.int)) = H4 at s4 e_t2 ⊢
    refine ⟨two_le, fun L2' n_L2 => ?_⟩
    have s5 : Same H4 (upd H4 L2' (.lst [.ref t1, .ref t2])) := Same.new n_L2
    have e_L2 : (upd H4 L2' (.lst [.ref t1, .ref t2])) L2' = some (.lst [.ref t1, .ref t2]) := upd_same
    generalize upd H4 L2' (.lst [.ref t1, .ref t2]) = H5 at s5 e_L2 ⊢
    have s25 : Same H2 H5 := (s3.trans s4).trans s5
    refine ⟨.list [tuD Ec, tuD Eu], .list [tuD Ec, tuD Eu], .lst (SqL.of (s25 _ _ e_L1)) (.cons (dp_tu (s25 _ _ (s2 _ _ he'))) (.cons (dp_tu (s25 _ _ (s2 _ _ ht'))) .nil)), .lst (SqL.of e_L2) (.cons (dp_tu (s5 _ _ (s4 _ _ e_t1))) (.cons (dp_tu (s5 _ _ e_t2)) .nil)), shp_two _ _, shp_two _ _, _, rfl, ?_⟩
    rw [eqv_two]
    refine iteF ?_
    have s05 : Same H H5 := (s1.trans s2).trans s25
    have row5 := row.same s05
    dsimp only [tNext]
    refine nx_seq ?_
    refine asg_of ?_
    refine prR_of ?_
    refine mkR_of (fun R rr => ⟨_, rfl, _, rfl, rr⟩) row5.ed row.di row.wf h1 (by omega) hl fun m2 H6 n_m2 s6 im2 => ?_
    obtain ⟨dm2, fm2, em2⟩ := at_map im2
    refine ⟨m2, dm2, fm2, rfl, em2, m2, n, f, rfl, im2, fun A1 n_A1 => ?_⟩
    have s7 : Same H6 (upd H6 A1 (.dK (kvI (tab n f)))) := Same.new n_A1
    have e_A1 : (upd H6 A1 (.dK (kvI (tab n f)))) A1 = some (.dK (kvI (tab n f))) := upd_same
    generalize upd H6 A1 (.dK (kvI (tab n f))) = H7 at s7 e_A1 ⊢
    have hn : small n := by unfold small; omega
    have hs := tab_small row.wf (show n ≤ 300 by omega)
    have tl := tab_len n f
    have l1 := small_len hn
    have l2 := dI_len hs (by omega)
    have big : 50000 ≤ sizeLine := by decide
    have c1 : (Str.ofString "Partial(").length ≤ 8 := by decide
    have c2 := len_app c1 l1
    have c3 := len_app c2 (show (Str.ofString ", ").length ≤ 2 by decide)
    have c4 := len_app c3 l2
    have c5 := len_app c4 (show (Str.ofString ", ends=").length ≤ 7 by decide)
    have c6 := len_app c5 oe.2.2.2
    have c7 := len_app c6 (show (Str.ofString ", starts=").length ≤ 9 by decide)
    have c8 := len_app c7 ot.2.2.2
    have s07 : Same H H7 := (s05.trans s6).trans s7
    dsimp only
    refine nx_seq ?_
    refine asg_of ?_
    refine ⟨_, rfl, n, rfl, small_log hn, _, _, rfl, rfl, Nat.le_trans (Nat.add_le_add c1 l1) (by omega), _, _, rfl, rfl, Nat.le_trans (Nat.add_le_add c2 (show (Str.ofString ", ").length ≤ 2 by decide)) (by omega), _, rfl, A1, kvI (tab n f), _, rfl, e_A1, dI_sc _, dI_able hs, dI_depth _, Nat.le_trans l2 (by omega), _, _, rfl, rfl, Nat.le_trans (Nat.add_le_add c3 l2) (by omega), _, _, rfl, rfl, Nat.le_trans (Nat.add_le_add c4 (show (Str.ofString ", ends=").length ≤ 7 by decide)) (by omega), ?_⟩
    dsimp only
    refine ret_of ?_
    refine op_of ?_
    refine ⟨_, rfl, o, dx, _, rfl, s07 _ _ io, o, n, f, Ec, Eu, rfl, ip.same s07, oe, ot, fun H8 s8 => ⟨_, rfl, ?_⟩⟩
    have row8 := row.same (s07.trans s8)
    refine ⟨_, rfl, _, rfl, c, _, rfl, .inl ⟨SqL.of row8.ec, fun t3 n_t3 => ?_⟩⟩
    have s9 : Same H8 (upd H8 t3 (.tup (Ec.map V.int))) := Same.new n_t3
    have e_t3 : (upd H8 t3 (.tup (Ec.map V.int))) t3 = some (.tup (Ec.map V.int)) := upd_same
    generalize upd H8 t3 (.tup (Ec.map V.int)) = H9 at s9 e_t3 ⊢
    refine ⟨_, _, rfl, dp_tu e_t3, oe.1, oe.2.1, oe.2.2.1, Nat.le_trans oe.2.2.2 (by omega), _, _, rfl, rfl, Nat.le_trans (Nat.add_le_add c5 oe.2.2.2) (by omega), _, _, rfl, rfl, Nat.le_trans (Nat.add_le_add c6 (show (Str.ofString ", starts=").length ≤ 9 by decide)) (by omega), _, rfl, u, _, rfl, .inl ⟨SqL.of (s9 _ _ row8.eu), fun t4 n_t4 => ?_⟩⟩
    have s10 : Same H9 (upd H9 t4 (.tup (Eu.map V.int))) := Same.new n_t4
    have e_t4 : (upd H9 t4 (.tup (Eu.map V.int))) t4 = some (.tup (Eu.map V.int)) := upd_same
    generalize upd H9 t4 (.tup (Eu.map V.int)) = H10 at s10 e_t4 ⊢
    refine ⟨_, _, rfl, dp_tu e_t4, ot.1, ot.2.1, ot.2.2.1, Nat.le_trans ot.2.2.2 (by omega), _, _, rfl, rfl, Nat.le_trans (Nat.add_le_add c7 ot.2.2.2) (by omega), _, _, rfl, rfl, Nat.le_trans (Nat.add_le_add c8 (show (Str.ofString ")").length ≤ 1 by decide)) (by omega), rfl, ?_⟩
    have := q H10 (((s07.trans s8).trans s9).trans s10)
    have e0 : Str.empty ++ Str.ofString "Partial(" = Str.ofString "Partial(" := by decide +kernel
    unfold reprP
    rw [e0]
    rw [show (flatD (kvI (tab n f)) ((tab n f).map fun p => PyData.int p.2)) = dI (tab n f) from rfl]
    rw [decide_eq_true rfl]
    exact this
end
end My
set_option maxHeartbeats 1000000
namespace My
open PySem L2 U StX PM
/-! ### displays -/
theorem cons_of {t : TE} {ts : TA} {σ : L2.St} {H : Hp} {R : List V → Hp → Prop} (h : t σ H fun x H1 => ts σ H1 fun xs H2 => R (x :: xs) H2) : tCons t ts σ H R := h
theorem consC_of {v : V} {ts : TA} {σ : L2.St} {H : Hp} {R : List V → Hp → Prop} (h : ts σ H fun xs H2 => R (v :: xs) H2) : tCons (tC v) ts σ H R := h
theorem lst_of {ta : TA} {σ : L2.St} {H : Hp} {Q : VK} (h : ta σ H fun xs H1 => xs.length ≤ sizeLine ∧ ∀ p, H1 p = none → Q (.ref p) (upd H1 p (.lst xs))) : tLst ta σ H Q := h
theorem lstk_of {ta : TA} {σ : L2.St} {H : Hp} {Q : VK} (xs : List V) (h : ∀ R : List V → Hp → Prop, R xs H → ta σ H R) (hl : xs.length ≤ 100) (q : ∀ p H', H p = none → H' p = some (.lst xs) → Same H H' → Q (.ref p) H') : tLst ta σ H Q :=
  h _ ⟨Nat.le_trans hl (by decide), fun p hp => q p _ hp upd_same (Same.new hp)⟩
theorem tupk_of {ta : TA} {σ : L2.St} {H : Hp} {Q : VK} (xs : List V) (h : ∀ R : List V → Hp → Prop, R xs H → ta σ H R) (hl : xs.length ≤ 100) (q : ∀ p H', H p = none → H' p = some (.tup xs) → Same H H' → Q (.ref p) H') : tTup ta σ H Q :=
  h _ ⟨Nat.le_trans hl (by decide), fun p hp => q p _ hp upd_same (Same.new hp)⟩
theorem Same.put2 {H : Hp} {p : Addr} {o o' : HO} (h : H p = none) : Same H (upd (upd H p o) p o') := Same.put (Same.new h) h
theorem disp1_of {tk tv : TE} {σ : L2.St} {H : Hp} {Q : VK} (k : Key) (v : V) (h1 : ∀ H (R : VK), R (kV k) H → tk σ H R) (h2 : ∀ H (R : VK), R v H → tv σ H R) (q : ∀ p H', H p = none → H' p = some (.dK [(k, v)]) → Same H H' → Q (.ref p) H') : tDisp [(tk, tv)] σ H Q := by
  intro p hp
  refine h1 _ _ (h2 _ _ ⟨upd_same, [(k, v)], rfl, by show 1 ≤ 15; decide, ?_⟩)
  exact q p _ hp (by rw [upd_same]; rfl) (Same.put2 hp)
theorem disp2_of {tk tv tk' tv' : TE} {σ : L2.St} {H : Hp} {Q : VK} (k k' : Int) (v v' : V) (h1 : ∀ H (R : VK), R (.int k) H → tk σ H R) (h2 : ∀ H (R : VK), R v H → tv σ H R) (h3 : ∀ H (R : VK), R (.int k') H → tk' σ H R) (h4 : ∀ H (R : VK), R v' H → tv' σ H R) (ne : k' ≠ k)
    (q : ∀ p H', H p = none → H' p = some (.dK [(Sum.inl k, v), (Sum.inl k', v')]) → Same H H' → Q (.ref p) H') : tDisp [(tk, tv), (tk', tv')] σ H Q := by
  intro p hp
  refine h1 _ _ (h2 _ _ (h3 _ _ (h4 _ _ ⟨upd_same, [(Sum.inl k, v), (Sum.inl k', v')], rfl, by show 2 ≤ 15; decide, ?_⟩)))
  refine q p _ hp ?_ (Same.put2 hp)
  rw [upd_same]
  have : mergeK [] [((Sum.inl k : Key), v), (Sum.inl k', v')] = [(Sum.inl k, v), (Sum.inl k', v')] := by
    show putK [((Sum.inl k : Key), v)] (Sum.inl k') v' = _
    rw [putK_new _ (valV_none fun z => ?_)]
    · rfl
    · rw [List.map_cons, List.map_nil, List.mem_singleton] at z
      exact ne (Sum.inl.inj z)
  rw [this]
theorem dispO_of {P : Program} {w : World} {tk tv : TE} {σ : L2.St} {H : Hp} {Q : VK} (k : Option Bool) (v : V) (h1 : ∀ H (R : VK), R (oV k) H → tk σ H R) (h2 : ∀ H (R : VK), R v H → tv σ H R) (q : ∀ p H', H p = none → OddD P w H' p [(k, v)] → Same H H' → Q (.ref p) H') : tDispO P w [(tk, tv)] σ H Q := by
  intro p hp
  refine h1 _ _ (h2 _ _ ⟨upd_same, k, v, rfl, fun ep => ?_⟩)
  exact q p _ hp ⟨ep, upd_same⟩ (Same.put2 hp)
theorem dnew_of {σ : L2.St} {H : Hp} {Q : VK} (q : ∀ p H', H p = none → H' p = some (.dK []) → Same H H' → Q (.ref p) H') : tDNewK σ H Q := fun p hp => q p _ hp upd_same (Same.new hp)
/-- [[x] for x in d] -/
theorem lc_keysL {d : Addr} {l : List (Int × Int)} {te : TE} {i : Nat} {tv : TE} {vs : List Nat} {σ : L2.St} {H : Hp} {Q : VK} (hd : H d = some (.dK (kvI l))) (hte : ∀ H' (R : VK), R (.ref d) H' → te σ H' R)
    (hw : ∀ a, wipe ((wipe σ vs).set i a) vs = wipe σ vs)
    (hv : ∀ x H1 (R : VK), (∀ t, H1 t = none → R (.ref t) (upd H1 t (.lst [.int x]))) → tv ((wipe σ vs).set i (some (.int x))) H1 R) (hz : l.length < sizeLine)
    (hq : ∀ (D : Addr) (ps : List Addr) (H' : Hp), H D = none → H' D = some (.lst (ps.map V.ref)) → ps.length = l.length → (∀ q ∈ ps, H q = none ∧ ∃ x, x ∈ l.map (·.1) ∧ H' q = some (.lst [.int x])) → Same H H' → Q (.ref D) H') :
    tLockE (tLc (iKeys te) (gName i) tYes tv vs) σ H Q := by
  refine ⟨d, _, hd, trivial, fun od => ?_⟩
  refine hte _ _ ⟨d, od, rfl, .inl ⟨kvI l, upd_same, fun D hD => ?_⟩⟩
  have hDd : D ≠ d := fun e => by rw [e, upd_same] at hD; cases hD
  have hD0 : H D = none := by rw [upd_ne hDd] at hD; exact hD
  refine lc_it walk_keys (fun k H' => H' d = some (.frz od (.dK (kvI l))) ∧ Off d H H' ∧ ∃ ps : List Addr, H' D = some (.lst (ps.map V.ref)) ∧ ps.length = k ∧ (∀ q ∈ ps, q ≠ D ∧ q ≠ d ∧ H q = none ∧ ∃ x, x ∈ l.map (·.1) ∧ H' q = some (.lst [.int x]))) ⟨?_, Off.lock.mut hD0, [], upd_same, rfl, (fun p h => nomatch h)⟩ (fun k H' _ p => p.1) ?_ ?_
  · rw [upd_ne hDd.symm]; exact upd_same
  · rintro k v H' H'' hk ⟨p1, p2, ps, p3, p4, p5⟩ ⟨rfl, kk, vv, ek, rfl⟩
    obtain ⟨x, y, exy, rfl, rfl⟩ := kvI_get ek
    rw [kvI_length] at hk
    refine ⟨hw _, yes_ (hv x _ _ fun t ht => ⟨_, carryNew ht p3, by rw [List.length_map]; omega, ?_⟩)⟩
    have htD : t ≠ D := (ne_of_none p3 ht).symm
    have htd : t ≠ d := (ne_of_none p1 ht).symm
    have ht0 : H t = none := by
      cases e : H t with
      | none => rfl
      | some o => rw [p2 _ _ htd e] at ht; cases ht
    refine ⟨?_, (p2.mut ht0).mut hD0, ps ++ [t], ?_, by rw [List.length_append, List.length_singleton, p4], fun q hq' => ?_⟩
    · rw [upd_ne hDd.symm, upd_ne htd.symm]; exact p1
    · rw [upd_same, List.map_append]; rfl
    · rcases List.mem_append.mp hq' with h | h
      · obtain ⟨a, b, c, x', hx', e⟩ := p5 q h
        exact ⟨a, b, c, x', hx', by rw [upd_ne a, upd_ne (ne_of_none e ht)]; exact e⟩
      · rw [List.mem_singleton] at h
        subst h
        exact ⟨htD, htd, ht0, x, List.mem_map.mpr ⟨_, List.mem_of_getElem? exy, rfl⟩, by rw [upd_ne htD]; exact upd_same⟩
  · rintro H' ⟨p1, p2, ps, p3, p4, p5⟩
    refine ⟨p1, hq D ps _ hD0 (by rw [upd_ne hDd]; exact p3) (by rw [p4, kvI_length]) (fun q hq' => ?_) (p2.back hd)⟩
    obtain ⟨a, b, c, x', hx', e⟩ := p5 q hq'
    exact ⟨c, x', hx', by rw [upd_ne b]; exact e⟩
/-- [[x] for x in d.values()] -/
theorem lc_valsL {d : Addr} {l : List (Int × Int)} {te : TE} {i : Nat} {tv : TE} {vs : List Nat} {σ : L2.St} {H : Hp} {Q : VK} (hd : H d = some (.dK (kvI l))) (hte : ∀ H' (R : VK), R (.ref d) H' → te σ H' R)
    (hw : ∀ a, wipe ((wipe σ vs).set i a) vs = wipe σ vs)
    (hv : ∀ x H1 (R : VK), (∀ t, H1 t = none → R (.ref t) (upd H1 t (.lst [.int x]))) → tv ((wipe σ vs).set i (some (.int x))) H1 R) (hz : l.length < sizeLine)
    (hq : ∀ (D : Addr) (ps : List Addr) (H' : Hp), H D = none → H' D = some (.lst (ps.map V.ref)) → ps.length = l.length → (∀ q ∈ ps, H q = none ∧ ∃ x, x ∈ l.map (·.2) ∧ H' q = some (.lst [.int x])) → Same H H' → Q (.ref D) H') :
    tLockE (tLc (iVals te) (gName i) tYes tv vs) σ H Q := by
  refine ⟨d, _, hd, trivial, fun od => ?_⟩
  refine hte _ _ ⟨d, od, kvI l, rfl, upd_same, fun D hD => ?_⟩
  have hDd : D ≠ d := fun e => by rw [e, upd_same] at hD; cases hD
  have hD0 : H D = none := by rw [upd_ne hDd] at hD; exact hD
  refine lc_it walk_values (fun k H' => H' d = some (.frz od (.dK (kvI l))) ∧ Off d H H' ∧ ∃ ps : List Addr, H' D = some (.lst (ps.map V.ref)) ∧ ps.length = k ∧ (∀ q ∈ ps, q ≠ D ∧ q ≠ d ∧ H q = none ∧ ∃ x, x ∈ l.map (·.2) ∧ H' q = some (.lst [.int x]))) ⟨?_, Off.lock.mut hD0, [], upd_same, rfl, (fun p h => nomatch h)⟩ (fun k H' _ p => p.1) ?_ ?_
  · rw [upd_ne hDd.symm]; exact upd_same
  · rintro k v H' H'' hk ⟨p1, p2, ps, p3, p4, p5⟩ ⟨rfl, kk, ek⟩
    obtain ⟨x, y, exy, rfl, rfl⟩ := kvI_get ek
    rw [kvI_length] at hk
    refine ⟨hw _, yes_ (hv y _ _ fun t ht => ⟨_, carryNew ht p3, by rw [List.length_map]; omega, ?_⟩)⟩
    have htD : t ≠ D := (ne_of_none p3 ht).symm
    have htd : t ≠ d := (ne_of_none p1 ht).symm
    have ht0 : H t = none := by
      cases e : H t with
      | none => rfl
      | some o => rw [p2 _ _ htd e] at ht; cases ht
    refine ⟨?_, (p2.mut ht0).mut hD0, ps ++ [t], ?_, by rw [List.length_append, List.length_singleton, p4], fun q hq' => ?_⟩
    · rw [upd_ne hDd.symm, upd_ne htd.symm]; exact p1
    · rw [upd_same, List.map_append]; rfl
    · rcases List.mem_append.mp hq' with h | h
      · obtain ⟨a, b, c, x', hx', e⟩ := p5 q h
        exact ⟨a, b, c, x', hx', by rw [upd_ne a, upd_ne (ne_of_none e ht)]; exact e⟩
      · rw [List.mem_singleton] at h
        subst h
        exact ⟨htD, htd, ht0, y, List.mem_map.mpr ⟨_, List.mem_of_getElem? exy, rfl⟩, by rw [upd_ne htD]; exact upd_same⟩
  · rintro H' ⟨p1, p2, ps, p3, p4, p5⟩
    refine ⟨p1, hq D ps _ hD0 (by rw [upd_ne hDd]; exact p3) (by rw [p4, kvI_length]) (fun q hq' => ?_) (p2.back hd)⟩
    obtain ⟨a, b, c, x', hx', e⟩ := p5 q hq'
    exact ⟨c, x', hx', by rw [upd_ne b]; exact e⟩
end My
set_option maxHeartbeats 1000000
namespace My
open PySem L2 U StX PM
theorem tup_of {ta : TA} {σ : L2.St} {H : Hp} {Q : VK} (h : ta σ H fun xs H1 => xs.length ≤ sizeLine ∧ ∀ p, H1 p = none → Q (.ref p) (upd H1 p (.tup xs))) : tTup ta σ H Q := h
theorem dup_bad {n y : Int} : okArr n [(0, y), (1, y)] = false := by
  unfold okArr
  simp
theorem RowP.off {H H' : Hp} {n : Int} {p r d c u : Addr} {l : List (Int × Int)} {f : PF} {Ec Eu : List Int} (h : RowP H n r d c u l f Ec Eu) (o : Off p H H') (ne : r ≠ p ∧ d ≠ p ∧ c ≠ p ∧ u ≠ p) : RowP H' n r d c u l f Ec Eu :=
  ⟨o _ _ ne.1 h.er, o _ _ ne.2.1 h.ed, h.di, h.wf, o _ _ ne.2.2.1 h.ec, o _ _ ne.2.2.2 h.eu, h.ac, h.au, h.hc, h.hu⟩
/-- a value that stands off p -/
def OffP (p : Addr) (v : V) : Prop := ∀ a, v = .ref a → a ≠ p
theorem okV.offP {p : Addr} {H H' : Hp} {v : V} (h : okV H v) (pool : PoolAt H p) (o : Off p H H') : okV H' v := by
  obtain ⟨xs, e⟩ := pool.lst
  exact h.off o e fun ys z => by cases z
theorem BadA.offP {P : Program} {w : World} {H H' : Hp} {p : Addr} {n : Int} {v : V} (h : BadA P w H n v) (hv : OffP p v) (pool : PoolAt H p) (o : Off p H H') : BadA P w H' n v := by
  cases h with
  | inz e a b => exact .inz (o _ _ (hv _ rfl) e) a b
  | dk e b =>
    obtain ⟨l, kv, post, h1, h2, h3, h4, h5⟩ := b
    exact .dk (o _ _ (hv _ rfl) e) ⟨l, kv, post, h1, h2, h3, h4.offP pool o, h5⟩
  | odd e =>
    obtain ⟨ep, e⟩ := e
    exact .odd ⟨ep, o _ _ (hv _ rfl) e⟩
  | non e =>
    refine .non ?_
    cases v <;> first | exact e | exact e.elim | skip
    rcases e with ⟨xs, e⟩ | ⟨xs, e⟩
    · exact .inl ⟨xs, o _ _ (hv _ rfl) e⟩
    · exact .inr ⟨xs, o _ _ (hv _ rfl) e⟩
theorem SeqOf.offP {K : PySem.W.Frag} {H H' : Hp} {a p : Addr} {xs : List V} (h : SeqOf K H a xs) (ne : a ≠ p) (o : Off p H H') : SeqOf K H' a xs := by
  cases h with
  | lst e => exact .lst (o _ _ ne e)
  | tup e => exact .tup (o _ _ ne e)
  | kt e => exact .kt e
theorem BadS.offP {K : PySem.W.Frag} {H H' : Hp} {p : Addr} {n : Int} {v : V} {c : Int → Bool} (h : BadS K H n v c) (hv : OffP p v) (o : Off p H H') : BadS K H' n v c := by
  rcases h with h | ⟨a, xs, rfl, hs, r⟩
  · refine .inl ?_
    cases v <;> first | exact h | exact h.elim | skip
    obtain ⟨kvs, e⟩ := h
    exact ⟨kvs, o _ _ (hv _ rfl) e⟩
  · exact .inr ⟨a, xs, rfl, hs.offP (hv _ rfl) o, r⟩
theorem elOk_one {n : Int} {v : V} (h : inR v 0 (n - 1) = false) : elOk n [v] = false := by
  unfold elOk
  rw [List.all_cons, h, Bool.false_and, Bool.false_and]
theorem elOk_dup {n : Int} : elOk n [.int 0, .int 0] = false := by
  unfold elOk
  have : decide ((dcl [V.int 0, V.int 0]).length = [V.int 0, V.int 0].length) = false := by decide +kernel
  rw [this, Bool.and_false]
theorem bad1 {K : PySem.W.Frag} {H : Hp} {n : Int} {a : Addr} {v : V} {c : Int → Bool} (e : H a = some (.lst [v])) (h : inR v 0 (n - 1) = false) (hs : scl v) : BadS K H n (.ref a) c :=
  .inr ⟨a, [v], rfl, .lst e, fun z hz => by rw [List.mem_singleton.mp hz]; exact hs, by show 1 ≤ 1000; decide, .inl (elOk_one h)⟩
theorem badK1 {K : PySem.W.Frag} {H : Hp} {n : Int} {a : Addr} {x : Int} {c : Int → Bool} (e : H a = some (.lst [.int x])) (h0 : 0 ≤ x) (h1 : x < n) (hc : c x = true) : BadS K H n (.ref a) c :=
  .inr ⟨a, [.int x], rfl, .lst e, fun z hz => by rw [List.mem_singleton.mp hz]; trivial, by show 1 ≤ 1000; decide, .inr ⟨[x], rfl, elOk_of (fun i hi => by rw [List.mem_singleton.mp hi]; exact ⟨h0, h1⟩) (by simp), x, List.mem_singleton.mpr rfl, hc⟩⟩
theorem badDup {K : PySem.W.Frag} {H : Hp} {n : Int} {a : Addr} {c : Int → Bool} (e : SeqOf K H a [.int 0, .int 0]) : BadS K H n (.ref a) c :=
  .inr ⟨a, _, rfl, e, fun z hz => by
    rcases List.mem_cons.mp hz with rfl | hz
    · trivial
    · rw [List.mem_singleton.mp hz]; trivial, by show 2 ≤ 1000; decide, .inl elOk_dup⟩
theorem badK {H : Hp} {n : Int} {k : Key} {v : V} (h : inR (kV k) 0 (n - 1) = false ∨ inR v 0 (n - 1) = false) (hv : okV H v) : BadK H n [(k, v)] := ⟨[], (k, v), [], rfl, by unfold okArr; simp, h, hv, by show 1 ≤ 1000; decide⟩
theorem told_ne {K : PySem.W.Frag} {H : Hp} {a b : Addr} {z : Str} {Q : VK} (ha : H a = some (.lst [.str z, .bl true])) (hb : H b = some (.lst [.str z, .bl true])) (sh : SeqAt.shaped (.list [.str z, .bool true]) = true) (ev : PyData.eqv (.list [.str z, .bool true]) (.list [.str z, .bool true]) = true) (q : Q (.bl false) H) : L2.rNeD K (.ref a) (.ref b) H Q :=
  ⟨_, _, .lst (SqL.of ha) (.cons (.str _) (.cons (.bl _) .nil)), .lst (SqL.of hb) (.cons (.str _) (.cons (.bl _) .nil)), sh, sh, by rw [ev]; exact q⟩
theorem told_eq {K : PySem.W.Frag} {H : Hp} {a b : Addr} {z : Str} {Q : VK} (ha : H a = some (.lst [.str z, .bl true])) (hb : H b = some (.lst [.str z, .bl true])) (sh : SeqAt.shaped (.list [.str z, .bool true]) = true) (ev : PyData.eqv (.list [.str z, .bool true]) (.list [.str z, .bool true]) = true) (q : Q (.bl true) H) : L2.rEqD K (.ref a) (.ref b) H Q :=
  ⟨_, _, .lst (SqL.of ha) (.cons (.str _) (.cons (.bl _) .nil)), .lst (SqL.of hb) (.cons (.str _) (.cons (.bl _) .nil)), sh, sh, by rw [ev]; exact q⟩
theorem spots_of {K : PySem.W.Frag} {p : Addr} {n : Int} {σ : L2.St} {H : Hp} {Q : VK} (h1v : σ[1]? = some (some (.int n))) (h1 : 1 ≤ n) (pool : PoolAt H p) (q : ∀ (L : Addr) (xs : List V) H', H L = none → H' L = some (.lst xs) → xs.length = 11 → (∀ (c : Int → Bool), ∀ v ∈ xs, BadS K H' n v c ∧ OffP p v) → Same H H' → Q (.ref L) H') :
    tLst (tCons (tC V.non) (tCons (tC (V.int 5)) (tCons tDNewK (tCons (tC (V.str ("0"))) (tCons (tLst (tCons (tVar 1) tNil)) (tCons (tLst (tCons (tUn (rU fun i => V.int (-i)) (tC (V.int 1))) tNil)) (tCons (tLst (tCons (tC (V.bl true)) tNil)) (tCons (tLst (tCons (tC V.non) tNil)) (tCons (tLst (tCons (tC (V.str ("0"))) tNil)) (tCons (tLst (tCons (tC (V.int 0)) (tCons (tC (V.int 0)) tNil))) (tCons (tTup (tCons (tC (V.int 0)) (tCons (tC (V.int 0)) tNil))) tNil))))))))))) σ H Q := by
  have hn0 : inR (.int n) 0 (n - 1) = false := by
    have : ¬ (n ≤ n - 1) := by omega
    simp only [inR, decide_eq_false this, Bool.and_false]
  have hm1 : inR (.int (-1)) 0 (n - 1) = false := by simp [inR]
  refine lst_of ?_
  refine consC_of (consC_of (cons_of ?_))
  refine dnew_of fun a1 G1 n_a1 e_a1 t1 => ?_
  refine consC_of (cons_of ?_)
  refine lstk_of [.int n] (fun R r => ⟨_, h1v, r⟩) (by show 1 ≤ 100; decide) fun a2 G2 n_a2 e_a2 t2 => ?_
  refine cons_of ?_
  refine lstk_of [.int (-1)] (fun R r => ⟨1, rfl, r⟩) (by show 1 ≤ 100; decide) fun a3 G3 n_a3 e_a3 t3 => ?_
  refine cons_of ?_
  refine lstk_of [.bl true] (fun R r => r) (by show 1 ≤ 100; decide) fun a4 G4 n_a4 e_a4 t4 => ?_
  refine cons_of ?_
  refine lstk_of [.non] (fun R r => r) (by show 1 ≤ 100; decide) fun a5 G5 n_a5 e_a5 t5 => ?_
  refine cons_of ?_
  refine lstk_of [.str "0"] (fun R r => r) (by show 1 ≤ 100; decide) fun a6 G6 n_a6 e_a6 t6 => ?_
  refine cons_of ?_
  refine lstk_of [.int 0, .int 0] (fun R r => r) (by show 2 ≤ 100; decide) fun a7 G7 n_a7 e_a7 t7 => ?_
  refine cons_of ?_
  refine tupk_of [.int 0, .int 0] (fun R r => r) (by show 2 ≤ 100; decide) fun a8 G8 n_a8 e_a8 t8 => ?_
  refine ⟨by show 11 ≤ sizeLine; decide, fun L n_L => ?_⟩
  have t9 : Same G8 (upd G8 L (.lst [.non, .int 5, .ref a1, .str "0", .ref a2, .ref a3, .ref a4, .ref a5, .ref a6, .ref a7, .ref a8])) := Same.new n_L
  have e_L : (upd G8 L (.lst [.non, .int 5, .ref a1, .str "0", .ref a2, .ref a3, .ref a4, .ref a5, .ref a6, .ref a7, .ref a8])) L = some (.lst [.non, .int 5, .ref a1, .str "0", .ref a2, .ref a3, .ref a4, .ref a5, .ref a6, .ref a7, .ref a8]) := upd_same
  have q2 := t1.trans t2
  have q3 := q2.trans t3
  have q4 := q3.trans t4
  have q5 := q4.trans t5
  have q6 := q5.trans t6
  have q7 := q6.trans t7
  have q8 := q7.trans t8
  have pG : ∀ {Hx : Hp}, Same H Hx → PoolAt Hx p := fun s => pool.same s
  have n_L' : H L = none := by
    cases hx : H L with
    | none => rfl
    | some o => rw [q8 _ _ hx] at n_L; cases n_L
  generalize upd G8 L (.lst [.non, .int 5, .ref a1, .str "0", .ref a2, .ref a3, .ref a4, .ref a5, .ref a6, .ref a7, .ref a8]) = G9 at t9 e_L ⊢
  have m8 := t9
  have m7 := t8.trans m8
  have m6 := t7.trans m7
  have m5 := t6.trans m6
  have m4 := t5.trans m5
  have m3 := t4.trans m4
  have m2 := t3.trans m3
  have m1 := t2.trans m2
  refine q L _ G9 n_L' e_L rfl (fun c v hv => ?_) (q8.trans t9)
  have off : ∀ {Hx : Hp} {a : Addr}, PoolAt Hx p → Hx a = none → OffP p (.ref a) := fun h1 h2 b e => by cases e; exact (h1.ne h2).symm
  simp only [List.mem_cons, List.not_mem_nil, or_false] at hv
  rcases hv with rfl | rfl | rfl | rfl | rfl | rfl | rfl | rfl | rfl | rfl | rfl
  · exact ⟨.inl trivial, fun b e => by cases e⟩
  · exact ⟨.inl trivial, fun b e => by cases e⟩
  · exact ⟨.inl ⟨_, m1 _ _ e_a1⟩, off pool n_a1⟩
  · exact ⟨.inl trivial, fun b e => by cases e⟩
  · exact ⟨bad1 (m2 _ _ e_a2) hn0 trivial, off (pG t1) n_a2⟩
  · exact ⟨bad1 (m3 _ _ e_a3) hm1 trivial, off (pG q2) n_a3⟩
  · exact ⟨bad1 (m4 _ _ e_a4) rfl trivial, off (pG q3) n_a4⟩
  · exact ⟨bad1 (m5 _ _ e_a5) rfl trivial, off (pG q4) n_a5⟩
  · exact ⟨bad1 (m6 _ _ e_a6) rfl trivial, off (pG q5) n_a6⟩
  · exact ⟨badDup (.lst (m7 _ _ e_a7)), off (pG q6) n_a7⟩
  · exact ⟨badDup (.tup (m8 _ _ e_a8)), off (pG q7) n_a8⟩
def spRight : Sp := fun vs H Q _ => ∃ p n r d c u l f Ec Eu, vs = [.ref p, .int n, .ref r] ∧ PoolAt H p ∧ RowP H n r d c u l f Ec Eu ∧ (r ≠ p ∧ d ≠ p ∧ c ≠ p ∧ u ≠ p) ∧ 1 ≤ n ∧ n ≤ 5 ∧ ∀ H', PoolAt H' p → Off p H H' → Q (.bl true) H'
section
variable {P : Program} {w : World} {K : PySem.W.Frag} {mg : Str → Option Value} {base : Heap}
set_option pp.maxSteps 3000 in
theorem ok_l_parts_right (T : Txt K mg) : FnR P w K mg base CX0 16 T.f_l_parts_right spRight := by
  refine T.A_l_parts_right.ok sc_l_parts_right (fun vs H Q E h => ?_) (fun cdv A outer s H vs Q E hr h => ?_)
  · obtain ⟨p, n, r, d, c, u, l, f, Ec, Eu, rfl, _⟩ := h
    rfl
  · obtain ⟨p, n, r, d, c, u, l, f, Ec, Eu, rfl, pool, row, ne, h1, h5, q⟩ := h
    have hu := hu_of hr
    refine ⟨_, (pss_cons (ps_asg (pv 2) (pg_lst rfl (pgs_cons (pg_name (i := 3) sc_l_parts_right.nd rfl (Or.inl rfl)) (pgs_cons (pg_name (i := 4) sc_l_parts_right.nd rfl (Or.inl rfl)) (pgs_cons (pg_name (i := 5) sc_l_parts_right.nd rfl (Or.inl rfl)) pgs_nil)))))
      (pss_cons (ps_for PassesOwn.never rfl (pi_list (pe_lst (pa_cons pe_int (pa_cons pe_int (pa_cons pe_non (pa_cons pe_bl (pa_cons pe_str (pa_cons (pe_lst (pa_cons pe_int pa_nil)) pa_nil)))))))) (pg_name (i := 6) sc_l_parts_right.nd rfl (Or.inl rfl))
        (pss_one (ps_if (pt_cmpR (L2.op_neD hr.units) (pe_callR (ok_l_told (P := P) (w := w) (base := base) T) (hr.mono (by decide)) T.A_l_told.kp rfl T.g_l_told pass0 (pa_cons (pv 6) (pa_cons pe_non (pa_cons pe_non (pa_cons pe_non pa_nil))))) (pe_lst (pa_cons pe_str (pa_cons pe_bl pa_nil))) (nomark _))
        (pss_one (ps_ret pe_bl)) pss_nil)))
      (pss_cons (ps_set (i := 7) sc_l_parts_right.nd rfl (Or.inl rfl) (pe_lst (pa_cons pe_non (pa_cons (pe_lst pa_nil) (pa_cons (pe_tup (pa_cons (pe_tup (pa_cons pe_int (pa_cons pe_int pa_nil))) pa_nil)) (pa_cons (pe_disp (pps_cons pe_int (pv 1) pps_nil) (by rfl) (by rfl) (fun z => by cases z) (by decide)) (pa_cons (pe_disp (pps_cons (pv 1) pe_int pps_nil) (by rfl) (by rfl) (fun z => by cases z) (by decide)) (pa_cons (pe_disp (pps_cons (pe_un un_neg pe_int) pe_int pps_nil) (by rfl) (by rfl) (fun z => by cases z) (by decide)) (pa_cons (pe_dispO (pps_cons pe_bl pe_int pps_nil) (by rfl) (by rfl) (fun z => by cases z) (by decide)) (pa_cons (pe_disp (pps_cons pe_str pe_int pps_nil) (by rfl) (by rfl) (fun z => by cases z) (by decide)) (pa_cons (pe_disp (pps_cons pe_int pe_non pps_nil) (by rfl) (by rfl) (fun z => by cases z) (by decide)) (pa_cons (pe_disp (pps_cons pe_int pe_int (pps_cons pe_int pe_int pps_nil)) (by rfl) (by rfl) (fun z => by cases z) (by decide)) pa_nil))))))))))))
      (pss_cons (ps_if (pt_cmpR (L2.op_neD hr.units) (pe_callR (ok_l_told (P := P) (w := w) (base := base) T) (hr.mono (by decide)) T.A_l_told.kp rfl T.g_l_told pass0 (pa_cons (pv 1) (pa_cons (pe_ix ix_list (pv 7) (pe_callR (ok_draw T) (hr.mono (by decide)) T.A_l_draw.kp rfl T.g_l_draw pass0 (pa_cons (pv 0) (pa_cons pe_int pa_nil))) (fun _ _ => rfl)) (pa_cons pe_non (pa_cons pe_non pa_nil))))) (pe_lst (pa_cons pe_str (pa_cons pe_bl pa_nil))) (nomark _))
        (pss_one (ps_ret pe_bl)) pss_nil)
      (pss_cons (ps_set (i := 8) sc_l_parts_right.nd rfl (Or.inl rfl) (pe_op op_cat (pe_lst (pa_cons pe_non (pa_cons pe_int (pa_cons pe_dnewK (pa_cons pe_str (pa_cons (pe_lst (pa_cons (pv 1) pa_nil)) (pa_cons (pe_lst (pa_cons (pe_un un_neg pe_int) pa_nil)) (pa_cons (pe_lst (pa_cons pe_bl pa_nil)) (pa_cons (pe_lst (pa_cons pe_non pa_nil)) (pa_cons (pe_lst (pa_cons pe_str pa_nil)) (pa_cons (pe_lst (pa_cons pe_int (pa_cons pe_int pa_nil))) (pa_cons (pe_tup (pa_cons pe_int (pa_cons pe_int pa_nil))) pa_nil)))))))))))) (pe_lock (pe_lc (own := [("_law_at", 9)]) (g := (gName 9)) (tt := tYes) rfl sc_l_parts_right.nd (pi_keys (pv 3)) (blkOk_by (own := [("_law_at", 9)]) (N := n_l_parts_right) (sc := defScope s_l_parts_right) (by decide +kernel)) (fun _ _ _ _ _ => (pg_name (i := 9) sc_l_parts_right.nd rfl (Or.inl rfl))) (fun _ _ _ _ _ => pts_nil) (fun _ _ _ _ _ => (pe_lst (pa_cons (pv 9) pa_nil)))))))
      (pss_cons (ps_if (pt_cmpR (L2.op_neD hr.units) (pe_callR (ok_l_told (P := P) (w := w) (base := base) T) (hr.mono (by decide)) T.A_l_told.kp rfl T.g_l_told pass0 (pa_cons (pv 1) (pa_cons (pv 3) (pa_cons (pe_ix ix_list (pv 8) (pe_callR (ok_draw T) (hr.mono (by decide)) T.A_l_draw.kp rfl T.g_l_draw pass0 (pa_cons (pv 0) (pa_cons (pe_callB call_len_seq (by rfl) T.n_len (by decide +kernel) (pa_cons (pv 8) pa_nil)) pa_nil))) (fun _ _ => rfl)) (pa_cons pe_non pa_nil))))) (pe_lst (pa_cons pe_str (pa_cons pe_bl pa_nil))) (nomark _))
        (pss_one (ps_ret pe_bl)) pss_nil)
      (pss_cons (ps_set (i := 8) sc_l_parts_right.nd rfl (Or.inl rfl) (pe_op op_cat (pe_lst (pa_cons pe_non (pa_cons pe_int (pa_cons pe_dnewK (pa_cons pe_str (pa_cons (pe_lst (pa_cons (pv 1) pa_nil)) (pa_cons (pe_lst (pa_cons (pe_un un_neg pe_int) pa_nil)) (pa_cons (pe_lst (pa_cons pe_bl pa_nil)) (pa_cons (pe_lst (pa_cons pe_non pa_nil)) (pa_cons (pe_lst (pa_cons pe_str pa_nil)) (pa_cons (pe_lst (pa_cons pe_int (pa_cons pe_int pa_nil))) (pa_cons (pe_tup (pa_cons pe_int (pa_cons pe_int pa_nil))) pa_nil)))))))))))) (pe_lock (pe_lc (own := [("_law_at", 9)]) (g := (gName 9)) (tt := tYes) rfl sc_l_parts_right.nd (pi_values (pv 3)) (blkOk_by (own := [("_law_at", 9)]) (N := n_l_parts_right) (sc := defScope s_l_parts_right) (by decide +kernel)) (fun _ _ _ _ _ => (pg_name (i := 9) sc_l_parts_right.nd rfl (Or.inl rfl))) (fun _ _ _ _ _ => pts_nil) (fun _ _ _ _ _ => (pe_lst (pa_cons (pv 9) pa_nil)))))))
      (pss_one (ps_ret (pe_cmpR (L2.op_eqD hr.units) (pe_callR (ok_l_told (P := P) (w := w) (base := base) T) (hr.mono (by decide)) T.A_l_told.kp rfl T.g_l_told pass0 (pa_cons (pv 1) (pa_cons (pv 3) (pa_cons (pv 4) (pa_cons (pe_ix ix_list (pv 8) (pe_callR (ok_draw T) (hr.mono (by decide)) T.A_l_draw.kp rfl T.g_l_draw pass0 (pa_cons (pv 0) (pa_cons (pe_callB call_len_seq (by rfl) T.n_len (by decide +kernel) (pa_cons (pv 8) pa_nil)) pa_nil))) (fun _ _ => rfl)) pa_nil))))) (pe_lst (pa_cons pe_str (pa_cons pe_bl pa_nil))) (nomark _))))))))))), ?_⟩
    have hn0 : inR (.int n) 0 (n - 1) = false := by
      have : ¬ (n ≤ n - 1) := by omega
      simp only [inR, decide_eq_false this, Bool.and_false]
    have hm1 : inR (.int (-1)) 0 (n - 1) = false := by simp [inR]
    refine nx_seq ?_
    refine asgT_of ?_
    refine ⟨_, rfl, r, _, rfl, SqL.of row.er, rfl, _, _, rfl, _, _, rfl, _, _, rfl, rfl, ?_⟩
    dsimp only
    refine nx_seq ?_
    refine for_lst ?_
    refine lst_of ?_
    refine consC_of (consC_of (consC_of (consC_of (consC_of (cons_of ?_)))))
    refine lstk_of [.int 3] (fun R r => r) (by show 1 ≤ 100; decide) fun b0 H1 n_b0 e_b0 s_b0 => ?_
    refine ⟨by show 6 ≤ sizeLine; decide, fun L1 n_L1 => ?_⟩
    have s_L1 : Same H1 (upd H1 L1 (.lst [.int 0, .int 301, .non, .bl true, .str "3", .ref b0])) := Same.new n_L1
    have e_L1 : (upd H1 L1 (.lst [.int 0, .int 301, .non, .bl true, .str "3", .ref b0])) L1 = some (.lst [.int 0, .int 301, .non, .bl true, .str "3", .ref b0]) := upd_same
    generalize upd H1 L1 (.lst [.int 0, .int 301, .non, .bl true, .str "3", .ref b0]) = H2 at s_L1 e_L1 ⊢
    have hodd : ∀ v ∈ [V.int 0, .int 301, .non, .bl true, .str "3", .ref b0], okS H2 v ∧ inR v 1 300 = false := fun v hv => by
      simp only [List.mem_cons, List.not_mem_nil, or_false] at hv
      rcases hv with rfl | rfl | rfl | rfl | rfl | rfl
      · exact ⟨.inl trivial, by decide⟩
      · exact ⟨.inl trivial, by decide⟩
      · exact ⟨.inl trivial, rfl⟩
      · exact ⟨.inl trivial, rfl⟩
      · exact ⟨.inl trivial, rfl⟩
      · exact ⟨.inr ⟨b0, _, rfl, s_L1 _ _ e_b0⟩, rfl⟩
    have s02 : Same H H2 := s_b0.trans s_L1
    refine ⟨L1, rfl, ⟨_, SqL.of e_L1⟩, ?_⟩
    refine for_it (walk_list (xs := [V.int 0, .int 301, .non, .bl true, .str "3", .ref b0])) (fun k σ H' => ∃ v6, σ = [some (.ref p), some (.int n), some (.ref r), some (.ref d), some (.ref c), some (.ref u), v6, none, none, none] ∧ Same H2 H')
      ⟨_, rfl, Same.refl _⟩ (fun k σ H' _ ⟨_, _, z⟩ => SqL.of (z _ _ e_L1)) ?_ ?_
    · rintro k v σ Ha0 Ha hk ⟨v6, rfl, sa⟩ ⟨rfl, ev⟩
      obtain ⟨ho, hi⟩ := hodd v (List.mem_of_getElem? ev)
      refine tt_of ?_
      refine ⟨_, rfl, v, .non, .non, .non, "size", rfl, .inl ⟨ho.same sa, hi, rfl⟩, fun r1 Hb sb eb => ?_⟩
      refine lstk_of [.str "size", .bl true] (fun R r => r) (by show 2 ≤ 100; decide) fun t1 Hc n_t1 e_t1 sc => ?_
      exact told_ne (sc _ _ eb) e_t1 (by decide +kernel) (by decide +kernel) ⟨_, rfl, iteF ⟨_, rfl, (sa.trans sb).trans sc⟩⟩
    rintro σ H3 ⟨v6, rfl, s3⟩
    have pool3 : PoolAt H3 p := pool.same (s02.trans s3)
    dsimp only
    refine nx_seq ?_
    refine asg_of ?_
    refine lst_of ?_
    refine consC_of (cons_of ?_)
    refine lstk_of [] (fun R r => r) (by show 0 ≤ 100; decide) fun a1 G1 n_a1 e_a1 t1 => ?_
    refine cons_of ?_
    refine tup_of ?_
    refine cons_of ?_
    refine tupk_of [.int 0, .int 0] (fun R r => r) (by show 2 ≤ 100; decide) fun a2 G2 n_a2 e_a2 t2 => ?_
    refine ⟨one_le, fun a3 n_a3 => ?_⟩
    have t3 : Same G2 (upd G2 a3 (.tup [.ref a2])) := Same.new n_a3
    have e_a3 : (upd G2 a3 (.tup [.ref a2])) a3 = some (.tup [.ref a2]) := upd_same
    generalize upd G2 a3 (.tup [.ref a2]) = G3 at t3 e_a3 ⊢
    refine cons_of ?_
    refine disp1_of (Sum.inl 0) (.int n) (fun H R r => r) (fun H R r => ⟨_, rfl, r⟩) fun a4 G4 n_a4 e_a4 t4 => ?_
    refine cons_of ?_
    refine disp1_of (Sum.inl n) (.int 0) (fun H R r => ⟨_, rfl, r⟩) (fun H R r => r) fun a5 G5 n_a5 e_a5 t5 => ?_
    refine cons_of ?_
    refine disp1_of (Sum.inl (-1)) (.int 0) (fun H R r => ⟨1, rfl, r⟩) (fun H R r => r) fun a6 G6 n_a6 e_a6 t6 => ?_
    refine cons_of ?_
    refine dispO_of (some true) (.int 0) (fun H R r => r) (fun H R r => r) fun a7 G7 n_a7 e_a7 t7 => ?_
    refine cons_of ?_
    refine disp1_of (Sum.inr "0") (.int 0) (fun H R r => r) (fun H R r => r) fun a8 G8 n_a8 e_a8 t8 => ?_
    refine cons_of ?_
    refine disp1_of (Sum.inl 0) .non (fun H R r => r) (fun H R r => r) fun a9 G9 n_a9 e_a9 t9 => ?_
    refine cons_of ?_
    refine disp2_of 0 1 (.int 0) (.int 0) (fun H R r => r) (fun H R r => r) (fun H R r => r) (fun H R r => r) (by decide) fun a10 G10 n_a10 e_a10 t10 => ?_
    refine ⟨by show 10 ≤ sizeLine; decide, fun L3 n_L3 => ?_⟩
    have t11 : Same G10 (upd G10 L3 (.lst [.non, .ref a1, .ref a3, .ref a4, .ref a5, .ref a6, .ref a7, .ref a8, .ref a9, .ref a10])) := Same.new n_L3
    have e_L3 : (upd G10 L3 (.lst [.non, .ref a1, .ref a3, .ref a4, .ref a5, .ref a6, .ref a7, .ref a8, .ref a9, .ref a10])) L3 = some (.lst [.non, .ref a1, .ref a3, .ref a4, .ref a5, .ref a6, .ref a7, .ref a8, .ref a9, .ref a10]) := upd_same
    have pG : ∀ {Hx : Hp}, Same H3 Hx → PoolAt Hx p := fun s => pool3.same s
    have q1 := t1
    have q2 := q1.trans t2
    have q3 := q2.trans t3
    have q4 := q3.trans t4
    have q5 := q4.trans t5
    have q6 := q5.trans t6
    have q7 := q6.trans t7
    have q8 := q7.trans t8
    have q9 := q8.trans t9
    have q10 := q9.trans t10
    have m10 := t11
    have m9 := t10.trans m10
    have m8 := t9.trans m9
    have m7 := t8.trans m8
    have m6 := t7.trans m7
    have m5 := t6.trans m6
    have m4 := t5.trans m5
    have m3 := t4.trans m4
    have m1 := (t2.trans t3).trans m3
    have nL3 : L3 ≠ p := ((pG q10).ne n_L3).symm
    generalize upd G10 L3 (.lst [.non, .ref a1, .ref a3, .ref a4, .ref a5, .ref a6, .ref a7, .ref a8, .ref a9, .ref a10]) = G11 at t11 e_L3 m1 m3 m4 m5 m6 m7 m8 m9 m10 ⊢
    have hbad : ∀ v ∈ [V.non, .ref a1, .ref a3, .ref a4, .ref a5, .ref a6, .ref a7, .ref a8, .ref a9, .ref a10], BadA P w G11 n v ∧ OffP p v := fun v hv => by
      have off : ∀ {Hx : Hp} {a : Addr}, PoolAt Hx p → Hx a = none → OffP p (.ref a) := fun h1 h2 b e => by cases e; exact (h1.ne h2).symm
      simp only [List.mem_cons, List.not_mem_nil, or_false] at hv
      rcases hv with rfl | rfl | rfl | rfl | rfl | rfl | rfl | rfl | rfl | rfl
      · exact ⟨.non trivial, fun b e => by cases e⟩
      · exact ⟨.non (.inl ⟨_, m1 _ _ e_a1⟩), off pool3 n_a1⟩
      · exact ⟨.non (.inr ⟨_, m3 _ _ e_a3⟩), off (pG q2) n_a3⟩
      · exact ⟨.dk (m4 _ _ e_a4) (badK (.inr hn0) trivial), off (pG q3) n_a4⟩
      · exact ⟨.dk (m5 _ _ e_a5) (badK (.inl hn0) trivial), off (pG q4) n_a5⟩
      · exact ⟨.dk (m6 _ _ e_a6) (badK (.inl hm1) trivial), off (pG q5) n_a6⟩
      · exact ⟨.odd (e_a7.same m7), off (pG q6) n_a7⟩
      · exact ⟨.dk (m8 _ _ e_a8) (badK (.inl rfl) trivial), off (pG q7) n_a8⟩
      · exact ⟨.dk (m9 _ _ e_a9) (badK (.inr rfl) trivial), off (pG q8) n_a9⟩
      · exact ⟨.inz (l := [(0, 0), (1, 0)]) (m10 _ _ e_a10) (by show 2 ≤ 1000; decide) dup_bad, off (pG q9) n_a10⟩
    have q11 : Same H3 G11 := q10.trans t11
    clear m1 m3 m4 m5 m6 m7 m8 m9 m10 q1 q2 q3 q4 q5 q6 q7 q8 q9 t1 t2 t3 t4 t5 t6 t7 t8 t9 t10 t11 e_a1 e_a2 e_a3 e_a4 e_a5 e_a6 e_a7 e_a8 e_a9 e_a10 n_a1 n_a2 n_a3 n_a4 n_a5 n_a6 n_a7 n_a8 n_a9 n_a10
    have pool4 := pG q11
    dsimp only
    refine nx_seq ?_
    refine tt_of ?_
    refine ⟨_, rfl, _, rfl, ?_⟩
    refine draw_R rfl (fun R r => r) pool4 (by decide) (by decide) fun k5 H5 k0 k1 pool5 o5 => ?_
    obtain ⟨v5, hv5⟩ : ∃ v, [V.non, .ref a1, .ref a3, .ref a4, .ref a5, .ref a6, .ref a7, .ref a8, .ref a9, .ref a10][k5.toNat]? = some v := ⟨_, List.getElem?_eq_getElem (by show k5.toNat < 10; omega)⟩
    obtain ⟨b5, f5⟩ := hbad v5 (List.mem_of_getElem? hv5)
    have at5 : atI [V.non, .ref a1, .ref a3, .ref a4, .ref a5, .ref a6, .ref a7, .ref a8, .ref a9, .ref a10] k5 = some v5 := by
      rw [show k5 = ((k5.toNat : Nat) : Int) by omega]
      exact atI_nat hv5
    refine ⟨L3, _, k5, v5, rfl, rfl, SqL.of (o5 _ _ nL3 e_L3), at5, .int n, v5, .non, .non, "arrows", rfl, .inr ⟨n, rfl, h1, by omega, .inl ⟨b5.offP f5 pool4 o5, rfl⟩⟩, fun r6 H6 s6 e6 => ?_⟩
    refine lstk_of [.str "arrows", .bl true] (fun R r => r) (by show 2 ≤ 100; decide) fun t6 H7 n_t6 e_t6 s7 => ?_
    refine told_ne (s7 _ _ e6) e_t6 (by decide +kernel) (by decide +kernel) ⟨_, rfl, iteF ?_⟩
    have pool7 := (pool5.same s6).same s7
    have o7 : Off p H H7 := (((offS (s02.trans s3)).tr (offS q11)).tr o5).tr (offS (s6.trans s7))
    clear hbad e_L3 e_L1 e_b0
    have row7 := row.off o7 ne
    dsimp only [tNext]
    refine nx_seq ?_
    refine asg_of ?_
    refine op_of ?_
    refine spots_of (K := K) (p := p) rfl h1 pool7 fun S1 xs1 H8 n_S1 e_S1 hx1 hs1 s8 => ?_
    have row8 := row7.same s8
    have hll : l.length ≤ 5 := by have := di_lenN row.di row.wf; omega
    refine lc_keysL row8.ed (fun H' R r => ⟨_, rfl, r⟩) (fun _ => rfl) (fun x Hx R r => ⟨_, rfl, one_le, r⟩) (small1000 (by omega)) fun D1 ps1 H9 n_D1 e_D1 hp1 hps1 s9 => ?_
    refine ⟨S1, D1, _, _, rfl, rfl, s9 _ _ e_S1, e_D1, by rw [List.length_map, hx1, hp1]; exact Nat.le_trans (show 11 + l.length ≤ 100 by omega) (by decide), ?_⟩
    refine fun Z1 n_Z1 => ?_
    generalize g_Z1 : L2.upd _ Z1 _ = H10
    obtain ⟨s_H10, e_Z1⟩ := U.upd_facts g_Z1 n_Z1
    clear g_Z1
    have pool8 := pool7.same s8
    have pool10 := (pool8.same s9).same s_H10
    have nZ1 : Z1 ≠ p := ((pool8.same s9).ne n_Z1).symm
    have hz1 : ∀ v ∈ xs1 ++ ps1.map V.ref, BadS K H10 n v (cE f) ∧ OffP p v := fun v hv => by
      rcases List.mem_append.mp hv with hv | hv
      · obtain ⟨b, o⟩ := hs1 (cE f) v hv
        exact ⟨(b.same s9).same s_H10, o⟩
      · obtain ⟨a, ha, rfl⟩ := List.mem_map.mp hv
        obtain ⟨n0, x, hx, e⟩ := hps1 a ha
        obtain ⟨⟨x', y⟩, hm, rfl⟩ := List.mem_map.mp hx
        have hf := row.di.mem.mp hm
        have hr := row.wf.dom _ _ hf
        refine ⟨badK1 (s_H10 _ _ e) hr.1 hr.2.1 (by unfold cE; rw [hf]; rfl), fun b e => ?_⟩
        cases e
        exact (pool8.ne n0).symm
    have hzl : (xs1 ++ ps1.map V.ref).length = 11 + l.length := by rw [List.length_append, List.length_map, hx1, hp1]
    generalize xs1 ++ ps1.map V.ref = zs1 at e_Z1 hz1 hzl
    dsimp only
    refine nx_seq ?_
    refine tt_of ?_
    refine ⟨_, rfl, _, rfl, _, rfl, ?_⟩
    refine draw_R (n := (zs1.length : Int)) rfl (fun R r => ⟨_, rfl, Z1, zs1, rfl, .inl (SqL.of e_Z1), r⟩) pool10 (by omega) (by omega) fun k11 H11 k0 k1 pool11 o11 => ?_
    obtain ⟨v11, hv11⟩ : ∃ v, zs1[k11.toNat]? = some v := ⟨_, List.getElem?_eq_getElem (by omega)⟩
    obtain ⟨b11, f11⟩ := hz1 v11 (List.mem_of_getElem? hv11)
    have at11 : atI zs1 k11 = some v11 := by
      rw [show k11 = ((k11.toNat : Nat) : Int) by omega]
      exact atI_nat hv11
    have o7b : Off p H7 H11 := (offS ((s8.trans s9).trans s_H10)).tr o11
    have row11 := row7.off o7b ne
    refine ⟨Z1, _, k11, v11, rfl, rfl, SqL.of (o11 _ _ nZ1 e_Z1), at11, .int n, .ref d, v11, .non, "ends", rfl, .inr ⟨n, rfl, h1, by omega, .inr ⟨d, l, f, rfl, row11.ed, row.di, row.wf, by omega, .inl ⟨b11.offP f11 o11, rfl⟩⟩⟩, fun r12 H12 s12 e12 => ?_⟩
    refine lstk_of [.str "ends", .bl true] (fun R r => r) (by show 2 ≤ 100; decide) fun t12 H13 n_t12 e_t12 s13 => ?_
    refine told_ne (s13 _ _ e12) e_t12 (by decide +kernel) (by decide +kernel) ⟨_, rfl, iteF ?_⟩
    have pool13 := (pool11.same s12).same s13
    have o13 : Off p H H13 := (o7.tr o7b).tr (offS (s12.trans s13))
    have row13 := row.off o13 ne
    clear hz1 hs1 hps1 e_S1 e_D1 e_Z1 at11 hv11 b11 f11 at5 hv5 b5 f5
    dsimp only [tNext]
    refine nx_seq ?_
    refine asg_of ?_
    refine op_of ?_
    refine spots_of (K := K) (p := p) rfl h1 pool13 fun S1 xs1 H14 n_S1 e_S1 hx1 hs1 s14 => ?_
    have row14 := row13.same s14
    refine lc_valsL row14.ed (fun H' R r => ⟨_, rfl, r⟩) (fun _ => rfl) (fun x Hx R r => ⟨_, rfl, one_le, r⟩) (small1000 (by omega)) fun D1 ps1 H15 n_D1 e_D1 hp1 hps1 s15 => ?_
    refine ⟨S1, D1, _, _, rfl, rfl, s15 _ _ e_S1, e_D1, by rw [List.length_map, hx1, hp1]; exact Nat.le_trans (show 11 + l.length ≤ 100 by omega) (by decide), ?_⟩
    refine fun Z1 n_Z1 => ?_
    generalize g_Z1 : L2.upd _ Z1 _ = H16
    obtain ⟨s_H16, e_Z1⟩ := U.upd_facts g_Z1 n_Z1
    clear g_Z1
    have pool14 := pool13.same s14
    have pool16 := (pool14.same s15).same s_H16
    have nZ1 : Z1 ≠ p := ((pool14.same s15).ne n_Z1).symm
    have hz1 : ∀ v ∈ xs1 ++ ps1.map V.ref, BadS K H16 n v (cS l) ∧ OffP p v := fun v hv => by
      rcases List.mem_append.mp hv with hv | hv
      · obtain ⟨b, o⟩ := hs1 (cS l) v hv
        exact ⟨(b.same s15).same s_H16, o⟩
      · obtain ⟨a, ha, rfl⟩ := List.mem_map.mp hv
        obtain ⟨n0, x, hx, e⟩ := hps1 a ha
        obtain ⟨⟨x', y⟩, hm, e2⟩ := List.mem_map.mp hx
        dsimp only at e2
        subst e2
        have hf := row.di.mem.mp hm
        have hr := row.wf.dom _ _ hf
        refine ⟨badK1 (s_H16 _ _ e) hr.2.2.1 hr.2.2.2 (decide_eq_true hx), fun b e => ?_⟩
        cases e
        exact (pool14.ne n0).symm
    have hzl : (xs1 ++ ps1.map V.ref).length = 11 + l.length := by rw [List.length_append, List.length_map, hx1, hp1]
    generalize xs1 ++ ps1.map V.ref = zs1 at e_Z1 hz1 hzl
    dsimp only
    refine ret_of ?_
    refine op_of ?_
    refine ⟨_, rfl, _, rfl, _, rfl, _, rfl, ?_⟩
    refine draw_R (n := (zs1.length : Int)) rfl (fun R r => ⟨_, rfl, Z1, zs1, rfl, .inl (SqL.of e_Z1), r⟩) pool16 (by omega) (by omega) fun k17 H17 k0 k1 pool17 o17 => ?_
    obtain ⟨v17, hv17⟩ : ∃ v, zs1[k17.toNat]? = some v := ⟨_, List.getElem?_eq_getElem (by omega)⟩
    obtain ⟨b17, f17⟩ := hz1 v17 (List.mem_of_getElem? hv17)
    have at17 : atI zs1 k17 = some v17 := by
      rw [show k17 = ((k17.toNat : Nat) : Int) by omega]
      exact atI_nat hv17
    have o13b : Off p H13 H17 := (offS ((s14.trans s15).trans s_H16)).tr o17
    have row17 := row13.off o13b ne
    refine ⟨Z1, _, k17, v17, rfl, rfl, SqL.of (o17 _ _ nZ1 e_Z1), at17, .int n, .ref d, .ref c, v17, "starts", rfl, .inr ⟨n, rfl, h1, by omega, .inr ⟨d, l, f, rfl, row17.ed, row.di, row.wf, by omega, .inr ⟨Ec, row17.gE (Int.le_refl _) h1 h5 row.hc, b17.offP f17 o17, rfl⟩⟩⟩, fun r18 H18 s18 e18 => ?_⟩
    refine lstk_of [.str "starts", .bl true] (fun R r => r) (by show 2 ≤ 100; decide) fun t18 H19 n_t18 e_t18 s19 => ?_
    refine told_eq (s19 _ _ e18) e_t18 (by decide +kernel) (by decide +kernel) ?_
    exact q H19 ((pool17.same s18).same s19) ((o13.tr o13b).tr (offS (s18.trans s19)))
end
end My
set_option maxHeartbeats 1000000
namespace My
open PySem L2 U StX PM
theorem op_eqVK {X : Cx} {K0 : PySem.W.Frag} {CX : CXT} {C g : Addr} {n : Nat} {sp : Sp} {E : XK} (hK : X.K = K0) (hs : PySem.W.findIn X.K (.ref C) "__eq__" = some (some (.ref g))) (hf : PySem.W.isFn X.K (.ref g) = true) (F : FnR X.prog X.w X.K X.mg X.base CX n g sp) (hr : Room n X.A) (hx : Passes CX X E) : OpR X (compareOp .Eq) (rEqV K0 C sp E) := by
  subst hK
  exact op_eqV hs hf F hr hx
theorem op_neVK {X : Cx} {K0 : PySem.W.Frag} {CX : CXT} {C g : Addr} {n : Nat} {sp : Sp} {E : XK} (hK : X.K = K0) (oc : OwnC X.K C) (hne : PySem.W.findIn X.K (.ref C) "__ne__" = some (some (.builtin "object.__ne__"))) (hs : PySem.W.findIn X.K (.ref C) "__eq__" = some (some (.ref g))) (hf : PySem.W.isFn X.K (.ref g) = true) (F : FnR X.prog X.w X.K X.mg X.base CX n g sp) (hr : Room (n + 1) X.A) (hx : Passes CX X E) : OpR X (compareOp .NotEq) (rNeV K0 C sp E) := by
  subst hK
  exact op_neV oc hne hs hf F hr hx
theorem mkK_ofN {P : Program} {w : World} {K : PySem.W.Frag} {C CM CE : Addr} {ks : List Str} {H : Hp} {n : Int} {d : Addr} {l : List (Int × Int)} {f : PF} {e t : V} {Es Ts : List Int} {Q : VK} {E : XK} {ta tk : TA} {σ : L2.St} (hk2 : ks.length = 2) (ht : ∀ R : List V → Hp → Prop, R [.int n, .ref d] H → ta σ H R) (hk : ∀ R : List V → Hp → Prop, R [e, t] H → tk σ H R) (h1 : 1 ≤ n) (h3 : n ≤ 300) (hd : H d = some (.dK (kvI l))) (di : DI l f) (wf : WF n f) (hl : l.length ≤ 1000)
    (ge : GoodS K H n e Es (cE f)) (gt : GoodS K H n t Ts (cS l)) (q : ∀ s H', H s = none → Same H H' → (∀ H'', (∀ b o, H b = none → H' b = some o → H'' b = some o) → IsPart C CM H'' s n f (ascE n Es) (ascE n Ts)) → Q (.ref s) H') : tMakeK C 2 ks.length (fun vs H Q _ => spPI P w K C CM CE vs H Q E0) (fun vs zs => vs ++ zs) E ta tk σ H Q := by
  refine ht _ (hk _ ⟨rfl, hk2.symm, ?_⟩)
  exact new_partN h1 h3 hd di wf hl ge gt q
/-- Partial(n, d, starts = t) -/
theorem mkK1_of {P : Program} {w : World} {K : PySem.W.Frag} {C CM CE ae : Addr} {ks : List Str} {H : Hp} {n : Int} {d : Addr} {l : List (Int × Int)} {f : PF} {t : V} {Ts : List Int} {Q : VK} {E : XK} {ta tk : TA} {σ : L2.St} (hk2 : ks.length = 1) (ht : ∀ R : List V → Hp → Prop, R [.int n, .ref d] H → ta σ H R) (hk : ∀ R : List V → Hp → Prop, R [t] H → tk σ H R) (h1 : 1 ≤ n) (h3 : n ≤ 300) (hd : H d = some (.dK (kvI l))) (di : DI l f) (wf : WF n f) (hl : l.length ≤ 1000)
    (ge : GoodS K H n (.ref ae) [] (cE f)) (gt : GoodS K H n t Ts (cS l)) (q : ∀ s H', H s = none → Same H H' → IsPart C CM H' s n f (ascE n []) (ascE n Ts) → Q (.ref s) H') : tMakeK C 2 ks.length (fun vs H Q _ => spPI P w K C CM CE vs H Q E0) (fun vs zs => vs ++ ([.ref ae] ++ zs)) E ta tk σ H Q := by
  refine ht _ (hk _ ⟨rfl, hk2.symm, ?_⟩)
  exact new_part h1 h3 hd di wf hl ge gt q
/-- Partial(n, d, ends = e) -/
theorem mkK2_of {P : Program} {w : World} {K : PySem.W.Frag} {C CM CE as : Addr} {ks : List Str} {H : Hp} {n : Int} {d : Addr} {l : List (Int × Int)} {f : PF} {e : V} {Es : List Int} {Q : VK} {E : XK} {ta tk : TA} {σ : L2.St} (hk2 : ks.length = 1) (ht : ∀ R : List V → Hp → Prop, R [.int n, .ref d] H → ta σ H R) (hk : ∀ R : List V → Hp → Prop, R [e] H → tk σ H R) (h1 : 1 ≤ n) (h3 : n ≤ 300) (hd : H d = some (.dK (kvI l))) (di : DI l f) (wf : WF n f) (hl : l.length ≤ 1000)
    (ge : GoodS K H n e Es (cE f)) (gt : GoodS K H n (.ref as) [] (cS l)) (q : ∀ s H', H s = none → Same H H' → IsPart C CM H' s n f (ascE n Es) (ascE n []) → Q (.ref s) H') : tMakeK C 2 ks.length (fun vs H Q _ => spPI P w K C CM CE vs H Q E0) (fun vs zs => vs ++ (zs ++ [.ref as])) E ta tk σ H Q := by
  refine ht _ (hk _ ⟨rfl, hk2.symm, ?_⟩)
  exact new_part h1 h3 hd di wf hl ge gt q
theorem goodNil {K : PySem.W.Frag} {H : Hp} {n : Int} {a : Addr} {c : Int → Bool} (h : ∃ d m s, K.lookup a = some ⟨.type "tuple", d, .seq #[] m, s⟩) : GoodS K H n (.ref a) [] c :=
  ⟨a, rfl, .kt h, rfl, Nat.zero_le _, fun i hi => nomatch hi⟩
theorem ascE_nil (n : Int) : ascE n [] = [] := by
  unfold ascE
  rw [List.map_eq_nil_iff, List.filter_eq_nil_iff]
  intro k _
  simp
theorem nzS {H H' : Hp} {a : Addr} (s : Same H H') (e : H' a = none) : H a = none := by
  cases hx : H a with
  | none => rfl
  | some o => rw [s _ _ hx] at e; cases e
/-- a value that no == finds alike -/
def Diff (C CM : Addr) (H : Hp) (n : Int) (f : PF) (Ec Eu : List Int) (v : V) : Prop := nonPartV CM H v ∨ ∃ b n' f' es' ts', v = .ref b ∧ IsPart C CM H b n' f' es' ts' ∧ eqP n f Ec Eu n' f' es' ts' = false
theorem Diff.same {C CM : Addr} {H H' : Hp} {n : Int} {f : PF} {Ec Eu : List Int} {v : V} (h : Diff C CM H n f Ec Eu v) (s : Same H H') : Diff C CM H' n f Ec Eu v := by
  rcases h with (h | ⟨a, m, g, e, h⟩) | ⟨b, n', f', es', ts', e, h, q⟩
  · exact .inl (.inl (h.same s))
  · exact .inl (.inr ⟨a, m, g, e, h.same s⟩)
  · exact .inr ⟨b, n', f', es', ts', e, h.same s, q⟩
theorem Diff.put {C CM : Addr} {H : Hp} {n : Int} {f : PF} {Ec Eu : List Int} {v : V} {O : Addr} {xs ys : List V} (h : Diff C CM H n f Ec Eu v) (e : H O = some (.lst xs)) : Diff C CM (upd H O (.lst ys)) n f Ec Eu v := by
  have nf : ∀ (b : Addr) (o : HO), H b = some o → (∀ zs, o ≠ .lst zs) → (upd H O (.lst ys)) b = some o := fun b o e1 e2 => by
    have hb : b ≠ O := fun z => by rw [z, e] at e1; cases e1; exact e2 _ rfl
    rw [upd_ne hb]; exact e1
  have mp : ∀ {a m g}, IsMap CM H a m g → IsMap CM (upd H O (.lst ys)) a m g := fun h => by
    obtain ⟨⟨dx, D, m1, m2⟩, w1, w2, w3⟩ := h
    exact ⟨⟨dx, D, nf _ _ m1 (fun _ z => by cases z), nf _ _ m2 (fun _ z => by cases z)⟩, w1, w2, w3⟩
  rcases h with (h | ⟨a, m, g, rfl, h⟩) | ⟨b, n', f', es', ts', rfl, h, q⟩
  · refine .inl (.inl ?_)
    cases v <;> first | exact h | exact h.elim | skip
    rename_i a
    by_cases ha : a = O
    · exact .inl ⟨_, by rw [ha]; exact upd_same⟩
    · rcases h with ⟨zs, e1⟩ | ⟨zs, e1⟩ | ⟨zs, e1⟩
      · exact .inl ⟨zs, by rw [upd_ne ha]; exact e1⟩
      · exact .inr (.inl ⟨zs, by rw [upd_ne ha]; exact e1⟩)
      · exact .inr (.inr ⟨zs, by rw [upd_ne ha]; exact e1⟩)
  · exact .inl (.inr ⟨a, m, g, rfl, mp h⟩)
  · obtain ⟨⟨dx, m, te, tt, a, b', c, e'⟩, l1, l2⟩ := h
    exact .inr ⟨b, n', f', es', ts', rfl, ⟨⟨dx, m, te, tt, nf _ _ a (fun _ z => by cases z), mp b', nf _ _ c (fun _ z => by cases z), nf _ _ e' (fun _ z => by cases z)⟩, l1, l2⟩, q⟩
theorem ne_eqB {n n' : Int} {f g : PF} (h : n ≠ n') : eqB n f n' g = false := by
  unfold eqB
  rw [decide_eq_false h, Bool.false_and]
theorem ne_eqB2 {n : Int} {f g : PF} (wf : WF n f) (wg : WF n g) (h : g ≠ f) : eqB n f n g = false := by
  cases e : eqB n f n g with
  | false => rfl
  | true => exact absurd (eqB_of wf wg e).symm h
theorem eqP_B {n n' : Int} {f f' : PF} {es ts es' ts' : List Int} (h : eqB n f n' f' = false) : eqP n f es ts n' f' es' ts' = false := by
  unfold eqP
  rw [h, Bool.and_false]
theorem eqP_E {n n' : Int} {f f' : PF} {es ts es' ts' : List Int} (h : es ≠ es') : eqP n f es ts n' f' es' ts' = false := by
  unfold eqP
  rw [decide_eq_false h, Bool.false_and, Bool.false_and]
theorem eqP_T {n n' : Int} {f f' : PF} {es ts es' ts' : List Int} (h : ts ≠ ts') : eqP n f es ts n' f' es' ts' = false := by
  unfold eqP
  rw [decide_eq_false h, Bool.and_false, Bool.false_and]
theorem eqP_self {n : Int} {f : PF} {es ts : List Int} (wf : WF n f) : eqP n f es ts n f es ts = true := by
  unfold eqP
  rw [decide_eq_true rfl, decide_eq_true rfl, eqB_self wf]
  rfl
theorem mem_tab2 {n : Int} {l : List (Int × Int)} {f : PF} (di : DI l f) (wf : WF n f) (i : Int) : i ∈ (tab n f).map (·.2) ↔ i ∈ l.map (·.2) := by
  constructor
  · intro h
    obtain ⟨⟨x, y⟩, hm, rfl⟩ := List.mem_map.mp h
    exact List.mem_map.mpr ⟨(x, y), di.mem.mpr ((mem_tab wf).mp hm), rfl⟩
  · intro h
    obtain ⟨⟨x, y⟩, hm, rfl⟩ := List.mem_map.mp h
    exact List.mem_map.mpr ⟨(x, y), (mem_tab wf).mpr (di.mem.mp hm), rfl⟩
theorem fit_eq {n : Int} {l lt : List (Int × Int)} {f ft : PF} {Ec Eu : List Int} (di : DI l f) (wf : WF n f) (dit : DI lt ft) (wft : WF n ft) : fitB n ft f Ec Eu = fitL lt ft l Ec Eu := by
  unfold fitB fitL
  have e1 : (tab n f).all (fun p => decide (ft p.1 = some p.2)) = l.all fun p => decide (ft p.1 = some p.2) := by
    rw [Bool.eq_iff_iff, List.all_eq_true, List.all_eq_true]
    constructor
    · rintro h ⟨x, y⟩ hm
      exact h (x, y) ((mem_tab wf).mpr (di.mem.mp hm))
    · rintro h ⟨x, y⟩ hm
      exact h (x, y) (di.mem.mpr ((mem_tab wf).mp hm))
  have e2 : (fun t : Int => decide (t ∈ (tab n ft).map (·.2))) = fun t => decide (t ∈ lt.map (·.2)) := by
    funext t
    exact decide_eq_decide.mpr (mem_tab2 dit wft t)
  rw [e1, e2]
/-- [x for x in xs if ..], no test holds -/
theorem lc_none {K : PySem.W.Frag} {te : TE} {i : Nat} {tt : TT} {tv : TE} {vs : List Nat} {σ : L2.St} {H0 H : Hp} {Q : VK} {a : Addr} {xs : List V} (hte : ∀ R : VK, R (.ref a) H → te σ H0 R) (ha : H a = some (.lst xs)) (hw : ∀ a, wipe ((wipe σ vs).set i a) vs = wipe σ vs)
    (hb : ∀ x, x ∈ xs → ∀ H1, Same H H1 → ∀ R : Bool → Hp → Prop, (∀ H2, Same H1 H2 → R false H2) → tt ((wipe σ vs).set i (some x)) H1 R)
    (hq : ∀ D H', H D = none → H' D = some (.lst []) → Same H H' → Q (.ref D) H') : tLc (iList K te) (gName i) tt tv vs σ H0 Q := by
  refine hte _ ⟨a, rfl, ⟨_, SqL.of ha⟩, fun D hD => ?_⟩
  refine lc_it (walk_list (xs := xs)) (fun k H' => Same H H' ∧ H' D = some (.lst [])) ⟨Same.new hD, upd_same⟩ (fun k H' _ p => SqL.of (p.1 _ _ ha)) ?_ ?_
  · rintro k v H' H'' hk ⟨s1, e1⟩ ⟨rfl, ev⟩
    refine ⟨hw _, hb v (List.mem_of_getElem? ev) _ s1 _ fun H2 s2 => iteF ⟨s1.trans s2, s2 _ _ e1⟩⟩
  · rintro H' ⟨s1, e1⟩
    exact hq D H' hD e1 s1
section
variable {P : Program} {w : World} {K : PySem.W.Frag} {mg : Str → Option Value} {base : Heap}
theorem diff_ty (T : Txt K mg) {H : Hp} {n : Int} {f : PF} {Ec Eu : List Int} {v : V} (h : Diff T.C_Partial T.C_Map H n f Ec Eu v) : ∃ t, TyX K H v t ∧ PySem.W.notFirst K T.C_Partial t = true := by
  rcases h with (h | ⟨a, m, g, rfl, h⟩) | ⟨b, n', f', es', ts', rfl, h, q⟩
  · cases v with
    | non => exact ⟨_, .base .non, T.nf_NoneType_Partial⟩
    | bl b => exact ⟨_, .base (.bl b), T.nf_bool_Partial⟩
    | int i => exact ⟨_, .base (.int i), T.nf_int_Partial⟩
    | str z => exact ⟨_, .base (.str z), T.nf_str_Partial⟩
    | ref a =>
      rcases h with ⟨xs, e⟩ | ⟨xs, e⟩ | ⟨xs, e⟩
      · exact ⟨_, .base (.lst e), T.nf_list_Partial⟩
      · exact ⟨_, .base (.tup e), T.nf_tuple_Partial⟩
      · exact ⟨_, .base (.dK e), T.nf_dict_Partial⟩
    | byt b => exact h.elim
    | flt b => exact h.elim
    | ty b => exact h.elim
  · obtain ⟨dx, fs, e⟩ := at_map h
    exact ⟨_, tyx_ins T.o_Map e, T.nf_Map_Partial⟩
  · obtain ⟨dx, m, te, tt, e, _⟩ := h.ob
    exact ⟨_, tyx_ins T.o_Partial e, notFirst_self _ _⟩
theorem diff_sp {C CM : Addr} {H : Hp} {s : Addr} {n : Int} {f : PF} {Ec Eu : List Int} {v : V} {Q : VK} {E : XK} (ip : IsPart C CM H s n f Ec Eu) (h : Diff C CM H n f Ec Eu v) (q : Q (.bl false) H) : spEqP C CM [.ref s, v] H Q E := by
  rcases h with h | ⟨b, n', f', es', ts', rfl, h, e⟩
  · exact ⟨s, n, f, Ec, Eu, v, rfl, ip, .inl ⟨h, q⟩⟩
  · exact ⟨s, n, f, Ec, Eu, _, rfl, ip, .inr ⟨b, n', f', es', ts', rfl, h, by rw [e]; exact q⟩⟩
theorem diff_eq (T : Txt K mg) {H : Hp} {s : Addr} {n : Int} {f : PF} {Ec Eu : List Int} {v : V} {Q : VK} (ip : IsPart T.C_Partial T.C_Map H s n f Ec Eu) (h : Diff T.C_Partial T.C_Map H n f Ec Eu v) (q : Q (.bl false) H) : rEqV K T.C_Partial (spEqP T.C_Partial T.C_Map) E0 (.ref s) v H Q := by
  obtain ⟨t, ht, hk⟩ := diff_ty T h
  obtain ⟨dx, m, te, tt, e, _⟩ := ip.ob
  exact ⟨s, dx, _, t, rfl, e, ht, hk, diff_sp ip h q⟩
theorem diff_ne (T : Txt K mg) {H : Hp} {s : Addr} {n : Int} {f : PF} {Ec Eu : List Int} {v : V} {Q : VK} (ip : IsPart T.C_Partial T.C_Map H s n f Ec Eu) (h : Diff T.C_Partial T.C_Map H n f Ec Eu v) (q : Q (.bl true) H) : rNeV K T.C_Partial (spEqP T.C_Partial T.C_Map) E0 (.ref s) v H Q := by
  obtain ⟨t, ht, hk⟩ := diff_ty T h
  obtain ⟨dx, m, te, tt, e, _⟩ := ip.ob
  exact ⟨s, dx, _, t, rfl, e, ht, hk, diff_sp ip h ⟨_, rfl, q⟩⟩
set_option pp.maxSteps 6000 in
theorem ok_law (T : Txt K mg) : FnG P w K mg base CX0 40 T.f_law (spLaw K) := by
  refine T.A_law.okG sc_law (fun vs H Q E h => ?_) (fun cdv A outer s H vs Q E gd hr h => ?_)
  · obtain ⟨a, ns, rfl, _⟩ := h
    rfl
  · obtain ⟨a, ns, rfl, hS, hl, q⟩ := h
    have hu := hu_of hr
    obtain ⟨fd, F⟩ := T.D_Partial__init
    obtain ⟨g1, kb_ends_starts⟩ := kbs T F
    obtain ⟨g2, kb_starts⟩ := kbs1 T F
    obtain ⟨g3, kb_ends⟩ := kbs2 T F
    refine ⟨_, (pss_cons (ps_for PassesOwn.never rfl (pi_range1 rfl T.n_range (pa_cons (pe_callB (call_max2 rfl) (by rfl) T.n_max (by decide +kernel) (pa_cons pe_int (pa_cons (pe_callB (call_min2 rfl) (by rfl) T.n_min (by decide +kernel) (pa_cons (pe_callB call_len_seq (by rfl) T.n_len (by decide +kernel) (pa_cons (pv 0) pa_nil)) (pa_cons pe_int pa_nil))) pa_nil))) pa_nil)) (pg_name (i := 1) sc_law.nd rfl (Or.inl rfl))
        (pss_cons (ps_set (i := 2) sc_law.nd rfl (Or.inl rfl) (pe_callR (ok_hand T) (hr.mono (by decide)) T.A_l_hand.kp rfl T.g_l_hand pass0 (pa_cons (pv 0) (pa_cons (pv 1) pa_nil))))
      (pss_cons (ps_set (i := 3) sc_law.nd rfl (Or.inl rfl) (pe_op op_add pe_int (pe_callR (ok_draw T) (hr.mono (by decide)) T.A_l_draw.kp rfl T.g_l_draw pass0 (pa_cons (pv 2) (pa_cons pe_int pa_nil)))))
      (pss_cons (ps_set (i := 4) sc_law.nd rfl (Or.inl rfl) (pe_callR (ok_l_known T) (hr.mono (by decide)) T.A_l_known.kp rfl T.g_l_known pass0 (pa_cons (pv 2) (pa_cons (pv 3) pa_nil))))
      (pss_cons (ps_set (i := 5) sc_law.nd rfl (Or.inl rfl) (pe_lst (pa_cons (pe_callTy call_dictD (by rfl) T.n_dict (by decide +kernel) (pa_cons (pe_ix ix_list (pv 4) pe_int (fun _ _ => rfl)) pa_nil)) (pa_cons (pe_revL (pe_callTy call_list_of (by rfl) T.n_list (by decide +kernel) (pa_cons (pe_ix ix_list (pv 4) pe_int (fun _ _ => rfl)) pa_nil))) (pa_cons (pe_callTy call_tuple_of (by rfl) T.n_tuple (by decide +kernel) (pa_cons (pe_revL (pe_ix ix_list (pv 4) pe_int (fun _ _ => rfl))) pa_nil)) pa_nil)))))
      (pss_cons (ps_set (i := 6) sc_law.nd rfl (Or.inr rfl) (pe_makeK T.M_Partial (fnO_calm (okF_pi (P := P) (w := w) (base := base) T F)) (hr.mono (by decide)) rfl T.g_Partial kb_ends_starts pass0 (pa_cons (pv 3) (pa_cons (pe_ix ix_list (pv 5) pe_int (fun _ _ => rfl)) pa_nil)) (pk_cons (pe_ix ix_list (pv 5) pe_int (fun _ _ => rfl)) (pk_cons (pe_ix ix_list (pv 5) pe_int (fun _ _ => rfl)) pk_nil))))
      (pss_cons (ps_expr (pe_dclear (pe_ix ix_list (pv 5) pe_int (fun _ _ => rfl))))
      (pss_cons (ps_expr (pe_bm PySem.F.plainAttrs_list PySem.F.slot_list_append PySem.F.type_list_append mt_append (pe_ix ix_list (pv 5) pe_int (fun _ _ => rfl)) (pa_cons pe_non pa_nil)))
      (pss_cons (ps_if (PW.pt (pw_or (pt_not (pt_val (pe_callG (ok_l_shown T) gd (hr.mono (by decide)) T.A_l_shown.kp rfl T.g_l_shown pass0 (pa_cons (pv 3) (pa_cons (pv 4) (pa_cons (pv 6) pa_nil)))))) (pw_or1 (pt_cmpR (op_neV T.o_Partial T.ne_Partial T.m_Partial__eq T.i_Partial__eq (ok_eqP T) (hr.mono (by decide)) pass0) (pv 6) (pe_callR (ok_l_made (P := P) (w := w) (base := base) T) (hr.mono (by decide)) T.A_l_made.kp rfl T.g_l_made pass0 (pa_cons (pv 3) (pa_cons (pv 4) pa_nil))) (nomark _)))))
        (pss_one (ps_ret pe_bl)) pss_nil)
      (pss_cons (ps_for PassesOwn.never rfl (pi_list (pe_callR (ok_l_all T) (hr.mono (by decide)) T.A_l_all.kp rfl T.g_l_all pass0 (pa_cons (pv 3) pa_nil))) (pg_name (i := 7) sc_law.nd rfl (Or.inl rfl))
        (pss_one (ps_if (pt_cmpR op_ne (pe_cmpR (op_inO T.m_Partial__contains T.i_Partial__contains (ok_inP T) (hr.mono (by decide)) pass0) (pe_makeR T.M_Map (ok_init T) (hr.mono (by decide)) rfl T.g_Map pass0 (pa_cons (pv 3) (pa_cons (pv 7) pa_nil))) (pv 6) (by rfl)) (pe_callR (ok_l_fits T) (hr.mono (by decide)) T.A_l_fits.kp rfl T.g_l_fits pass0 (pa_cons (pv 7) (pa_cons (pv 4) pa_nil))) (nomark _))
        (pss_one (ps_ret pe_bl)) pss_nil)))
      (pss_cons (ps_set (i := 8) sc_law.nd rfl (Or.inl rfl) (pe_lst (pa_cons (ClX.pe_cmeth (pe_glob (v := .ref T.C_Map) rfl T.g_Map rfl) T.R_Map T.cm_Map_empty (ok_empty T) (hr.mono (by decide)) pass0 (pa_cons (pe_op op_add (pv 3) pe_int) pa_nil)) (pa_cons pe_non (pa_cons pe_dnewK (pa_cons (pe_ix ix_list (pv 4) pe_int (fun _ _ => rfl)) (pa_cons pe_int (pa_cons (ClX.pe_cmeth (pe_glob (v := .ref T.C_Map) rfl T.g_Map rfl) T.R_Map T.cm_Map_identity (ok_identity T) (hr.mono (by decide)) pass0 (pa_cons (pe_op op_add (pv 3) pe_int) pa_nil)) pa_nil))))))))
      (pss_cons (ps_if (pt_cmpR (L2.op_neD hr.units) (pe_lc (own := [("_law_value", 10)]) (g := (gName 10)) rfl sc_law.nd (pi_list (pv 8)) (blkOk_by (own := [("_law_value", 10)]) (N := n_law) (sc := defScope s_law) (by decide +kernel)) (fun _ _ _ _ _ => (pg_name (i := 10) sc_law.nd rfl (Or.inl rfl))) (fun _ _ _ _ _ => (pts_one (pt_cmpR (op_inO T.m_Partial__contains T.i_Partial__contains (ok_inP T) (hr.mono (by decide)) pass0) (pv 10) (pv 6) (by rfl)))) (fun _ _ _ _ _ => (pv 10))) (pe_lst pa_nil) (nomark _))
        (pss_one (ps_ret pe_bl)) pss_nil)
      (pss_cons (ps_set (i := 9) sc_law.nd rfl (Or.inl rfl) (pe_lst (pa_cons (pe_makeK T.M_Partial (fnO_calm (okF_pi (P := P) (w := w) (base := base) T F)) (hr.mono (by decide)) rfl T.g_Partial kb_ends_starts pass0 (pa_cons (pe_op op_add (pv 3) pe_int) (pa_cons (pe_ix ix_list (pv 4) pe_int (fun _ _ => rfl)) pa_nil)) (pk_cons (pe_ix ix_list (pv 4) pe_int (fun _ _ => rfl)) (pk_cons (pe_ix ix_list (pv 4) pe_int (fun _ _ => rfl)) pk_nil))) (pa_cons (pe_propR (pv 6) T.o_Partial.cl T.P_Partial_known (ok_known T) (hr.mono (by decide))) (pa_cons pe_non (pa_cons (pe_callB (call_reprO gd T.m_Partial__repr T.i_Partial__repr (ok_reprP T) (hr.mono (by decide)) pass0) (by rfl) T.n_repr (by decide +kernel) (pa_cons (pv 6) pa_nil)) pa_nil))))))
      (pss_cons (ps_set (i := 9) sc_law.nd rfl (Or.inl rfl) (pe_op op_cat (pv 9) (pe_callR (ok_l_unlike (P := P) (w := w) (base := base) T) (hr.mono (by decide)) T.A_l_unlike.kp rfl T.g_l_unlike pass0 (pa_cons (pv 3) (pa_cons (pv 4) pa_nil)))))
      (pss_cons (ps_if (pt_cmpR (L2.op_neD hr.units) (pe_ix ix_list (pv 4) pe_int (fun _ _ => rfl)) (pe_lst pa_nil) (nomark _))
        (pss_one (ps_expr (pe_bm PySem.F.plainAttrs_list PySem.F.slot_list_append PySem.F.type_list_append mt_append (pv 9) (pa_cons (pe_makeK T.M_Partial (fnO_calm (okF_pi (P := P) (w := w) (base := base) T F)) (hr.mono (by decide)) rfl T.g_Partial kb_starts pass0 (pa_cons (pv 3) (pa_cons (pe_ix ix_list (pv 4) pe_int (fun _ _ => rfl)) pa_nil)) (pk_cons (pe_ix ix_list (pv 4) pe_int (fun _ _ => rfl)) pk_nil)) pa_nil)))) pss_nil)
      (pss_cons (ps_if (pt_cmpR (L2.op_neD hr.units) (pe_ix ix_list (pv 4) pe_int (fun _ _ => rfl)) (pe_lst pa_nil) (nomark _))
        (pss_one (ps_expr (pe_bm PySem.F.plainAttrs_list PySem.F.slot_list_append PySem.F.type_list_append mt_append (pv 9) (pa_cons (pe_makeK T.M_Partial (fnO_calm (okF_pi (P := P) (w := w) (base := base) T F)) (hr.mono (by decide)) rfl T.g_Partial kb_ends pass0 (pa_cons (pv 3) (pa_cons (pe_ix ix_list (pv 4) pe_int (fun _ _ => rfl)) pa_nil)) (pk_cons (pe_ix ix_list (pv 4) pe_int (fun _ _ => rfl)) pk_nil)) pa_nil)))) pss_nil)
      (pss_cons (ps_if (pt_cmpR (L2.op_neD hr.units) (pe_lc (own := [("_law_other", 11)]) (g := (gName 11)) rfl sc_law.nd (pi_list (pv 9)) (blkOk_by (own := [("_law_other", 11)]) (N := n_law) (sc := defScope s_law) (by decide +kernel)) (fun _ _ _ _ _ => (pg_name (i := 11) sc_law.nd rfl (Or.inl rfl))) (fun _ _ _ _ _ => (pts_one (PW.pt (pw_or (pt_cmpR (op_eqVK (K0 := K) rfl T.m_Partial__eq T.i_Partial__eq (ok_eqP T) (hr.mono (by decide)) pass0) (pv 6) (pv 11) (nomark _)) (pw_or1 (pt_not (pt_cmpR (op_neVK (K0 := K) rfl T.o_Partial T.ne_Partial T.m_Partial__eq T.i_Partial__eq (ok_eqP T) (hr.mono (by decide)) pass0) (pv 6) (pv 11) (nomark _)))))))) (fun _ _ _ _ _ => (pv 11))) (pe_lst pa_nil) (nomark _))
        (pss_one (ps_ret pe_bl)) pss_nil)
      (pss_one (ps_if (pt_not (pt_val (pe_callR (ok_l_parts_right T) (hr.mono (by decide)) T.A_l_parts_right.kp rfl T.g_l_parts_right pass0 (pa_cons (pv 2) (pa_cons (pv 3) (pa_cons (pv 4) pa_nil))))))
        (pss_one (ps_ret pe_bl)) pss_nil)))))))))))))))))))
      (pss_one (ps_ret pe_bl))), ?_⟩
    refine ⟨_, rfl, a, _, rfl, .inl hS, _, _, rfl, _, _, rfl, _, rfl, ?_, ?_, ?_⟩
    · rw [List.length_map]; (repeat' split) <;> omega
    · rw [List.length_map]; (repeat' split) <;> omega
    refine for_it (walk_range (lo := 0)) (fun i σ H' => ∃ v1 v2 v3 v4 v5 v6 v7 v8 v9 v10 v11, σ = [some (.ref a), v1, v2, v3, v4, v5, v6, v7, v8, v9, v10, v11] ∧ Same H H')
      ⟨_, _, _, _, _, _, _, _, _, _, _, rfl, Same.refl _⟩ (fun _ _ _ _ _ => trivial) ?_ ?_
    · rintro k v σ H' H1 hk ⟨v1, v2, v3, v4, v5, v6, v7, v8, v9, v10, v11, rfl, p1⟩ ⟨rfl, rfl⟩
      dsimp only [gName]
      refine nx_seq ?_
      refine asg_of ?_
      refine ⟨_, rfl, _, rfl, a, ns, _, rfl, SqL.same hS p1, hl, fun p H2 x y np hp s2 hx hy hy2 => ?_⟩
      have p0 : H p = none := p1.free np
      have pool2 : PoolAt H2 p := ⟨x, y, hp, hx, hy, hy2⟩
      dsimp only
      refine nx_seq ?_
      refine asg_of ?_
      refine draw_R rfl (fun R r => r) pool2 (by decide) (by decide) fun rr H3 r0 r1 pool3 off3 => ⟨_, _, rfl, rfl, ?_⟩
      have n1 : 1 ≤ 1 + rr := by omega
      have n5 : 1 + rr ≤ 5 := by omega
      dsimp only
      generalize 1 + rr = n at n1 n5 ⊢
      have sH2 : Same H H2 := p1.trans s2
      have sH3 : Same H H3 := Same.off sH2 off3 p0
      refine nx_seq ?_
      refine asg_of ?_
      refine ⟨_, rfl, _, rfl, p, n, rfl, pool3, n1, n5, fun r d c u l f Ec Eu H4 nr nd nc nun row pool4 o4 => ?_⟩
      have sH4 : Same H H4 := Same.off sH3 o4 p0
      have nep : r ≠ p ∧ d ≠ p ∧ c ≠ p ∧ u ≠ p := ⟨(pool3.ne nr).symm, (pool3.ne nd).symm, (pool3.ne nc).symm, (pool3.ne nun).symm⟩
      have hll : l.length ≤ 5 := by have := di_lenN row.di row.wf; omega
      have hEc : Ec.length ≤ 1000 := sel_len row.ac (by omega)
      have hEu : Eu.length ≤ 1000 := sel_len row.au (by omega)
      dsimp only
      refine nx_seq ?_
      refine asg_of ?_
      refine lst_of ?_
      refine ⟨_, rfl, r, _, 0, _, rfl, rfl, SqL.of row.er, rfl, d, kvI l, rfl, .inl row.ed, fun g0 n_g0 => ?_⟩
      have s5 : Same H4 (upd H4 g0 (.dK (kvI l))) := Same.new n_g0
      have e_g0 : (upd H4 g0 (.dK (kvI l))) g0 = some (.dK (kvI l)) := upd_same
      generalize upd H4 g0 (.dK (kvI l)) = H5 at s5 e_g0 ⊢
      have row5 := row.same s5
      refine ⟨_, rfl, r, _, 1, _, rfl, rfl, SqL.of row5.er, rfl, c, _, rfl, .inl (SqL.of row5.ec), fun g9 n_g9 => ?_⟩
      have s6 : Same H5 (upd H5 g9 (.lst (Ec.map V.int))) := Same.new n_g9
      have e_g9 : (upd H5 g9 (.lst (Ec.map V.int))) g9 = some (.lst (Ec.map V.int)) := upd_same
      generalize upd H5 g9 (.lst (Ec.map V.int)) = H6 at s6 e_g9 ⊢
      refine ⟨g9, _, rfl, SqL.of e_g9, fun g1 n_g1 => ?_⟩
      have s7 : Same H6 (upd H6 g1 (.lst (Ec.map V.int).reverse)) := Same.new n_g1
      have e_g1 : (upd H6 g1 (.lst (Ec.map V.int).reverse)) g1 = some (.lst (Ec.reverse.map V.int)) := by rw [upd_same, List.map_reverse]
      generalize upd H6 g1 (.lst (Ec.map V.int).reverse) = H7 at s7 e_g1 ⊢
      have row7 := (row5.same s6).same s7
      refine ⟨_, rfl, r, _, 2, _, rfl, rfl, SqL.of row7.er, rfl, u, _, rfl, SqL.of row7.eu, fun g8 n_g8 => ?_⟩
      have s8 : Same H7 (upd H7 g8 (.lst (Eu.map V.int).reverse)) := Same.new n_g8
      have e_g8 : (upd H7 g8 (.lst (Eu.map V.int).reverse)) g8 = some (.lst (Eu.map V.int).reverse) := upd_same
      generalize upd H7 g8 (.lst (Eu.map V.int).reverse) = H8 at s8 e_g8 ⊢
      refine ⟨g8, _, rfl, .inl ⟨SqL.of e_g8, fun g2 n_g2 => ?_⟩⟩
      have s9 : Same H8 (upd H8 g2 (.tup (Eu.map V.int).reverse)) := Same.new n_g2
      have e_g2 : (upd H8 g2 (.tup (Eu.map V.int).reverse)) g2 = some (.tup (Eu.reverse.map V.int)) := by rw [upd_same, List.map_reverse]
      generalize upd H8 g2 (.tup (Eu.map V.int).reverse) = H9 at s9 e_g2 ⊢
      refine ⟨three_le, fun Lg n_Lg => ?_⟩
      have s10 : Same H9 (upd H9 Lg (.lst [.ref g0, .ref g1, .ref g2])) := Same.new n_Lg
      have e_Lg : (upd H9 Lg (.lst [.ref g0, .ref g1, .ref g2])) Lg = some (.lst [.ref g0, .ref g1, .ref g2]) := upd_same
      generalize upd H9 Lg (.lst [.ref g0, .ref g1, .ref g2]) = H10 at s10 e_Lg ⊢
      have m8 := s9.trans s10
      have m7 := s8.trans m8
      have m6 := s7.trans m7
      have m5 := s6.trans m6
      have s410 : Same H4 H10 := s5.trans m5
      have e_g0' := m5 _ _ e_g0
      have e_g1' := m7 _ _ e_g1
      have e_g2' := s10 _ _ e_g2
      have sH10 : Same H H10 := sH4.trans s410
      have z_g0 : H g0 = none := nzS sH4 n_g0
      have z_g1 : H g1 = none := nzS ((sH4.trans s5).trans s6) n_g1
      have row10 := row.same s410
      have pool10 := pool4.same s410
      have ngr : g0 ≠ g1 := fun z => by rw [z] at e_g0'; rw [e_g0'] at e_g1'; cases e_g1'
      have n4g1 : H4 g1 = none := nzS (s5.trans s6) n_g1
      clear e_g0 e_g1 e_g2 e_g9 e_g8 m8 m7 m6 m5
      dsimp only
      refine nx_seq ?_
      refine asg_of ?_
      have ndC : Ec.Nodup := by obtain ⟨S, e⟩ := row.ac; rw [e]; exact sel_nd _ _
      have ndU : Eu.Nodup := by obtain ⟨S, e⟩ := row.au; rw [e]; exact sel_nd _ _
      refine mkK_ofN (Es := Ec.reverse) (Ts := Eu.reverse) rfl (fun R rr => ⟨_, rfl, _, rfl, Lg, _, 0, _, rfl, rfl, SqL.of e_Lg, rfl, rr⟩) (fun R rr => ⟨_, rfl, Lg, _, 1, _, rfl, rfl, SqL.of e_Lg, rfl, _, rfl, Lg, _, 2, _, rfl, rfl, SqL.of e_Lg, rfl, rr⟩) n1 (by omega) e_g0' row.di row.wf (by omega) ?_ ?_ fun s H11 n_s s11 ips => ?_
      · exact goodS (.lst e_g1') row.ac (fun i => List.mem_reverse) ((List.reverse_perm Ec).nodup_iff.mpr ndC) (by rw [List.length_reverse]; exact hEc) (Int.le_refl _) fun i hi => by unfold cE; rw [row.hc i hi]; rfl
      · exact goodS (.tup e_g2') row.au (fun i => List.mem_reverse) ((List.reverse_perm Eu).nodup_iff.mpr ndU) (by rw [List.length_reverse]; exact hEu) (Int.le_refl _) fun i hi => decide_eq_false (row.hu i hi)
      rw [ascE_sel row.ac fun i => List.mem_reverse, ascE_sel row.au fun i => List.mem_reverse] at ips
      dsimp only
      have e_Lg11 := s11 _ _ e_Lg
      refine nx_seq ?_
      refine ⟨_, rfl, Lg, _, 0, _, rfl, rfl, SqL.of e_Lg11, rfl, .inr (.inr (.inl ⟨rfl, .inl ⟨_, s11 _ _ e_g0'⟩⟩)), g0, _, rfl, rfl, s11 _ _ e_g0', ?_⟩
      have o12 : Off g0 H11 (upd H11 g0 (.dK [])) := Off.lock
      generalize upd H11 g0 (.dK []) = H12 at o12 ⊢
      have nLg0 : Lg ≠ g0 := fun z => by rw [z, e_g0'] at e_Lg; cases e_Lg
      have e_Lg12 := o12 _ _ nLg0 e_Lg11
      have e_g112 := o12 _ _ ngr.symm (s11 _ _ e_g1')
      dsimp only
      refine nx_seq ?_
      refine ⟨_, rfl, Lg, _, 1, _, rfl, rfl, SqL.of e_Lg12, rfl, .inl ⟨rfl, _, SqL.of e_g112⟩, g1, _, .non, rfl, rfl, e_g112, lt_line (by rw [List.length_map, List.length_reverse]; omega), ?_⟩
      have o13 : Off g1 H12 (upd H12 g1 (.lst (Ec.reverse.map V.int ++ [.non]))) := Off.lock
      generalize upd H12 g1 (.lst (Ec.reverse.map V.int ++ [.non])) = H13 at o13 ⊢
      have hne0 : ∀ {b}, H10 b = none → b ≠ g0 := fun e z => by rw [z, e_g0'] at e; cases e
      have hne1 : ∀ {b}, H10 b = none → b ≠ g1 := fun e z => by rw [z, e_g1'] at e; cases e
      have ip13 : IsPart T.C_Partial T.C_Map H13 s n f Ec Eu := ips H13 fun b o hb e => o13 _ _ (hne1 hb) (o12 _ _ (hne0 hb) e)
      have s413 : Same H4 H13 := fun b o e => o13 _ _ (ne_of_none e n4g1) (o12 _ _ (ne_of_none e n_g0) (s11 _ _ (s410 _ _ e)))
      have row13 := row.same s413
      have pool13 := pool4.same s413
      have sH13 : Same H H13 := sH4.trans s413
      clear ips e_Lg e_Lg11 e_Lg12 e_g0' e_g1' e_g2' e_g112 o12 o13
      dsimp only
      refine nx_seq ?_
      refine or_of ?_
      refine ⟨_, rfl, _, rfl, _, rfl, n, r, d, c, u, s, l, f, Ec, Eu, rfl, row13, n1, n5, ip13, fun H14 s14 => ⟨_, rfl, iteF ?_⟩⟩
      have row14 := row13.same s14
      refine tt_of ?_
      refine ⟨_, rfl, _, rfl, _, rfl, n, r, d, c, u, l, f, Ec, Eu, rfl, row14, n1, n5, fun s' H15 n_s' s15 ip' => ?_⟩
      have s1315 : Same H13 H15 := s14.trans s15
      have ip15 := ip13.same s1315
      obtain ⟨dx, mk, te, tt, e_s, _⟩ := id ip15.ob
      obtain ⟨dx', mk', te', tt', e_s', _⟩ := id ip'.ob
      refine ⟨s, dx, _, _, rfl, e_s, tyx_ins T.o_Partial e_s', notFirst_self _ _, s, n, f, Ec, Eu, _, rfl, ip15, .inr ⟨s', n, f, Ec, Eu, rfl, ip', _, rfl, _, rfl, ?_⟩⟩
      rw [eqP_self row.wf]
      refine iteF ?_
      have row15 := row13.same s1315
      dsimp only [tNext]
      refine nx_seq ?_
      refine ⟨_, rfl, n, rfl, n1, n5, fun La ds H16 n_La e_La hds hdl s16 => ?_⟩
      refine ⟨La, rfl, ⟨_, SqL.of e_La⟩, ?_⟩
      refine for_it (walk_list (xs := ds.map V.ref)) (fun j σ H' => ∃ v7, σ = [some (.ref a), some (.int (0 + (k : Nat))), some (.ref p), some (.int n), some (.ref r), some (.ref Lg), some (.ref s), v7, v8, v9, v10, v11] ∧ Same H16 H')
        ⟨_, rfl, Same.refl _⟩ (fun j σ H' _ ⟨_, _, z⟩ => SqL.of (z _ _ e_La)) ?_ ?_
      · rintro j v σ Ha0 Ha hj ⟨v7, rfl, sa⟩ ⟨rfl, ev⟩
        rw [List.getElem?_map] at ev
        cases ed : ds[j]? with
        | none => rw [ed] at ev; cases ev
        | some dt =>
        rw [ed] at ev
        cases ev
        obtain ⟨⟨lt, ft, e_dt, dit, wft, _⟩, n_dt⟩ := hds dt (List.mem_of_getElem? ed)
        have ip16 := ip15.same (s16.trans sa)
        have ndt : d ≠ dt := fun z => by rw [← z, row15.ed] at n_dt; cases n_dt
        refine tt_of ?_
        refine op_of ?_
        refine mkR_of (fun R rr => ⟨_, rfl, _, rfl, rr⟩) (sa _ _ e_dt) dit wft n1 (by omega) (by have := di_lenN dit wft; omega) fun m Hb n_m sb im => ?_
        refine ⟨_, rfl, s, dx, _, rfl, sb _ _ (sa _ _ (s16 _ _ e_s)), s, n, f, Ec, Eu, _, rfl, ip16.same sb, .inr ⟨m, n, ft, rfl, im, fun Hc sc => ⟨_, rfl, ?_⟩⟩⟩
        refine ⟨_, rfl, _, rfl, dt, r, d, c, u, n, lt, l, ft, f, Ec, Eu, rfl, sc _ _ (sb _ _ (sa _ _ e_dt)), dit, wft, row15.same (((s16.trans sa).trans sb).trans sc), n5, ndt, fun Hd sd => ⟨rfl, _, rfl, ?_⟩⟩
        rw [decide_eq_true rfl, Bool.true_and, fit_eq row.di row.wf dit wft, decide_eq_true rfl]
        exact iteF ⟨_, rfl, ((sa.trans sb).trans sc).trans sd⟩
      rintro σ H17 ⟨v7, rfl, s17⟩
      have s1517 : Same H15 H17 := s16.trans s17
      have ip17 := ip15.same s1517
      have row17 := row15.same s1517
      have e_s17 := s1517 _ _ e_s
      have s1317 : Same H13 H17 := s1315.trans s1517
      dsimp only
      refine nx_seq ?_
      refine asg_of ?_
      refine lst_of ?_
      refine cons_of ?_
      refine ⟨rfl, _, rfl, _, _, rfl, rfl, n + 1, rfl, by omega, by omega, fun m1 H18 n_m1 s18 im1 => ?_⟩
      refine consC_of (cons_of ?_)
      refine dnew_of fun w1 H19 n_w1 e_w1 s19 => ?_
      have row19 := (row17.same s18).same s19
      refine cons_of ?_
      refine ⟨_, rfl, r, _, 0, _, rfl, rfl, SqL.of row19.er, rfl, ?_⟩
      refine consC_of (cons_of ?_)
      refine ⟨rfl, _, rfl, _, _, rfl, rfl, n + 1, rfl, by omega, by omega, fun m2 H20 n_m2 s20 im2 => ?_⟩
      refine ⟨by show 6 ≤ sizeLine; decide, fun Lo n_Lo => ?_⟩
      have s21 : Same H20 (upd H20 Lo (.lst [.ref m1, .non, .ref w1, .ref d, .int 5, .ref m2])) := Same.new n_Lo
      have e_Lo : (upd H20 Lo (.lst [.ref m1, .non, .ref w1, .ref d, .int 5, .ref m2])) Lo = some (.lst [.ref m1, .non, .ref w1, .ref d, .int 5, .ref m2]) := upd_same
      generalize upd H20 Lo (.lst [.ref m1, .non, .ref w1, .ref d, .int 5, .ref m2]) = H21 at s21 e_Lo ⊢
      have s1721 : Same H17 H21 := ((s18.trans s19).trans s20).trans s21
      have ip21 := ip17.same s1721
      have e_s21 := s1721 _ _ e_s17
      have hodd : ∀ v ∈ [V.ref m1, .non, .ref w1, .ref d, .int 5, .ref m2], nonMapV H21 v ∨ ∃ m g, v = .ref m ∧ IsMap T.C_Map H21 m (n + 1) g := fun v hv => by
        simp only [List.mem_cons, List.not_mem_nil, or_false] at hv
        rcases hv with rfl | rfl | rfl | rfl | rfl | rfl
        · exact .inr ⟨_, _, rfl, ((im1.same s19).same s20).same s21⟩
        · exact .inl trivial
        · exact .inl (.inr (.inr ⟨_, s21 _ _ (s20 _ _ e_w1)⟩))
        · exact .inl (.inr (.inr ⟨_, s21 _ _ (s20 _ _ row19.ed)⟩))
        · exact .inl trivial
        · exact .inr ⟨_, _, rfl, im2.same s21⟩
      dsimp only
      refine nx_seq ?_
      refine tt_of ?_
      refine lc_none (H := H21) (fun R rr => ⟨_, rfl, rr⟩) e_Lo (fun _ => rfl) (fun x hx Hx sx R rr => ?_) fun D1 H22 n_D1 e_D1 s22 => ?_
      · rcases hodd x hx with hx | ⟨m, g, rfl, im⟩
        · exact ⟨_, rfl, _, rfl, s, dx, _, rfl, sx _ _ e_s21, s, n, f, Ec, Eu, x, rfl, ip21.same sx, .inl ⟨hx.same sx, _, rfl, _, rfl, rr _ (Same.refl _)⟩⟩
        · refine ⟨_, rfl, _, rfl, s, dx, _, rfl, sx _ _ e_s21, s, n, f, Ec, Eu, _, rfl, ip21.same sx, .inr ⟨m, n + 1, g, rfl, im.same sx, fun H' s' => ⟨_, rfl, _, rfl, ?_⟩⟩⟩
          rw [decide_eq_false (show ¬ n + 1 = n by omega), Bool.false_and]
          exact rr _ s'
      refine ⟨nil_le, fun w2 n_w2 => ?_⟩
      have s23 : Same H22 (upd H22 w2 (.lst [])) := Same.new n_w2
      have e_w2 : (upd H22 w2 (.lst [])) w2 = some (.lst []) := upd_same
      generalize upd H22 w2 (.lst []) = H23 at s23 e_w2 ⊢
      refine ne_nil (l := []) (s23 _ _ e_D1) e_w2 ⟨_, rfl, iteF ?_⟩
      have s1723 : Same H17 H23 := (s1721.trans s22).trans s23
      have ip23 := ip17.same s1723
      have row23 := row17.same s1723
      have e_s23 := s1723 _ _ e_s17
      clear hodd e_Lo e_D1 e_w2 e_w1 im1 im2
      dsimp only [tNext]
      refine nx_seq ?_
      refine asg_of ?_
      refine lst_of ?_
      refine cons_of ?_
      have wf1 : WF (n + 1) f := ⟨fun x y e => by have := row.wf.dom x y e; omega, row.wf.inj⟩
      refine mkK_of rfl (fun R rr => ⟨_, rfl, _, _, rfl, rfl, _, rfl, r, _, 0, _, rfl, rfl, SqL.of row23.er, rfl, rr⟩) (fun R rr => ⟨_, rfl, r, _, 1, _, rfl, rfl, SqL.of row23.er, rfl, _, rfl, r, _, 2, _, rfl, rfl, SqL.of row23.er, rfl, rr⟩) (n := n + 1) (by omega) (by omega) row23.ed row.di wf1 (by omega) (row23.gE (by omega) n1 n5 row.hc) (row23.gS (by omega) n1 n5 row.hu) fun b1 H24 n_b1 s24 ipb1 => ?_
      refine cons_of ?_
      refine ⟨_, rfl, s, dx, _, rfl, s24 _ _ e_s23, s, n, f, Ec, Eu, rfl, ip23.same s24, fun m3 im3 => ?_⟩
      refine consC_of (cons_of ?_)
      have oe := okTu_sel row.ac n5
      have ot := okTu_sel row.au n5
      refine ⟨_, rfl, s, dx, _, rfl, s24 _ _ e_s23, s, n, f, Ec, Eu, rfl, ip23.same s24, oe, ot, fun H25 s25 => ⟨_, rfl, ?_⟩⟩
      refine ⟨by show 4 ≤ sizeLine; decide, ?_⟩
      generalize reprP n f Ec Eu = zz
      intro O n_O
      have s26 : Same H25 (upd H25 O (.lst [.ref b1, .ref m3, .non, .str zz])) := Same.new n_O
      have e_O : (upd H25 O (.lst [.ref b1, .ref m3, .non, .str zz])) O = some (.lst [.ref b1, .ref m3, .non, .str zz]) := upd_same
      generalize upd H25 O (.lst [.ref b1, .ref m3, .non, .str zz]) = H26 at s26 e_O ⊢
      have s1726 : Same H17 H26 := ((s1723.trans s24).trans s25).trans s26
      have row26 := row17.same s1726
      dsimp only
      refine nx_seq ?_
      refine asg_of ?_
      refine op_of ?_
      refine ⟨_, rfl, _, rfl, _, rfl, n, r, d, c, u, l, f, Ec, Eu, rfl, row26, n1, n5, fun Lu os H27 e_Lu hol hos s27 n_Lu => ?_⟩
      refine ⟨O, Lu, _, _, rfl, rfl, s27 _ _ e_O, e_Lu, by rw [List.length_map]; exact Nat.le_trans (Nat.add_le_add_left hol 4) (by decide), fun O2 n_O2 => ?_⟩
      have s28 : Same H27 (upd H27 O2 (.lst ([.ref b1, .ref m3, .non, .str zz] ++ os.map V.ref))) := Same.new n_O2
      have e_O2 : (upd H27 O2 (.lst ([.ref b1, .ref m3, .non, .str zz] ++ os.map V.ref))) O2 = some (.lst ([.ref b1, .ref m3, .non, .str zz] ++ os.map V.ref)) := upd_same
      generalize upd H27 O2 (.lst ([.ref b1, .ref m3, .non, .str zz] ++ os.map V.ref)) = H28 at s28 e_O2 ⊢
      have hdf : ∀ v ∈ [V.ref b1, .ref m3, .non, .str zz] ++ os.map V.ref, Diff T.C_Partial T.C_Map H28 n f Ec Eu v := fun v hv => by
        rcases List.mem_append.mp hv with hv | hv
        · simp only [List.mem_cons, List.not_mem_nil, or_false] at hv
          rcases hv with rfl | rfl | rfl | rfl
          · exact .inr ⟨b1, _, _, _, _, rfl, (((ipb1.same s25).same s26).same s27).same s28, eqP_B (ne_eqB (by omega))⟩
          · exact .inl (.inr ⟨m3, n, f, rfl, (((im3.same s25).same s26).same s27).same s28⟩)
          · exact .inl (.inl trivial)
          · exact .inl (.inl trivial)
        · obtain ⟨o, ho, rfl⟩ := List.mem_map.mp hv
          obtain ⟨f', nf, ipo⟩ := hos o ho
          obtain ⟨_, _, _, _, _, imo, _⟩ := ipo.ob
          exact .inr ⟨o, n, f', Ec, Eu, rfl, ipo.same s28, eqP_B (ne_eqB2 row.wf imo.wf nf)⟩
      have hlen : ([V.ref b1, .ref m3, .non, .str zz] ++ os.map V.ref).length ≤ 6 := by rw [List.length_append, List.length_map]; show 4 + os.length ≤ 6; omega
      generalize [V.ref b1, .ref m3, .non, .str zz] ++ os.map V.ref = vs1 at e_O2 hdf hlen
      have s1727 : Same H17 H27 := s1726.trans s27
      have row27 := row17.same s1727
      dsimp only
      have z_O2 : H17 O2 = none := nzS s1727 n_O2
      have M0 : ∀ (k : Nat) (H' : Hp), (∃ vs, H' O2 = some (.lst vs) ∧ vs.length ≤ k ∧ (∀ v ∈ vs, Diff T.C_Partial T.C_Map H' n f Ec Eu v) ∧ Same H27 H') → True := fun _ _ _ => trivial
      refine seq_cut (fun σ' H' => σ' = [some (.ref a), some (.int (0 + (k : Nat))), some (.ref p), some (.int n), some (.ref r), some (.ref Lg), some (.ref s), v7, some (.ref Lo), some (.ref O2), v10, v11] ∧ ∃ vs, H' O2 = some (.lst vs) ∧ vs.length ≤ 7 ∧ (∀ v ∈ vs, Diff T.C_Partial T.C_Map H' n f Ec Eu v) ∧ Same H27 H') (fun nx fin => ?_) ?_
      · have row28 := row27.same s28
        refine tt_of ?_
        refine ⟨_, rfl, r, _, 1, _, rfl, rfl, SqL.of row28.er, rfl, nil_le, fun w3 n_w3 => ?_⟩
        have s29 : Same H28 (upd H28 w3 (.lst [])) := Same.new n_w3
        have e_w3 : (upd H28 w3 (.lst [])) w3 = some (.lst []) := upd_same
        generalize upd H28 w3 (.lst []) = H29 at s29 e_w3 ⊢
        have row29 := row28.same s29
        refine ne_nil row29.ec e_w3 ⟨_, rfl, ?_⟩
        by_cases hE : Ec = []
        · rw [decide_eq_true hE]
          exact iteF (fin _ _ ⟨rfl, vs1, s29 _ _ e_O2, by omega, fun v hv => (hdf v hv).same s29, s28.trans s29⟩)
        · rw [decide_eq_false hE]
          refine iteT ?_
          refine ⟨_, rfl, .inl ⟨rfl, _, SqL.of (s29 _ _ e_O2)⟩, ?_⟩
          refine ta1_of ?_
          refine mkK1_of rfl (fun R rr => ⟨_, rfl, _, rfl, r, _, 0, _, rfl, rfl, SqL.of row29.er, rfl, rr⟩) (fun R rr => ⟨_, rfl, r, _, 2, _, rfl, rfl, SqL.of row29.er, rfl, rr⟩) n1 (by omega) row29.ed row.di row.wf (by omega) (goodNil T.kl_Partial__init_ends) (row29.gS (Int.le_refl _) n1 n5 row.hu) fun b2 H30 n_b2 s30 ipb2 => ?_
          have e_O30 := s30 _ _ (s29 _ _ e_O2)
          refine ⟨O2, _, .ref b2, rfl, rfl, e_O30, lt_line (by omega), ?_⟩
          refine fin _ _ ⟨rfl, vs1 ++ [.ref b2], upd_same, by rw [List.length_append]; show vs1.length + 1 ≤ 7; omega, fun v hv => ?_, fun b o e => ?_⟩
          · rcases List.mem_append.mp hv with hv | hv
            · exact (((hdf v hv).same s29).same s30).put e_O30
            · rw [List.mem_singleton] at hv
              subst hv
              refine Diff.put (.inr ⟨b2, _, _, _, _, rfl, ipb2, eqP_E ?_⟩) e_O30
              rw [ascE_nil]
              exact hE
          · rw [upd_ne (ne_of_none e n_O2)]
            exact s30 _ _ (s29 _ _ (s28 _ _ e))
      rintro σ H31 ⟨rfl, vs2, e_O31, hlen2, hdf2, s31⟩
      refine seq_cut (fun σ' H' => σ' = [some (.ref a), some (.int (0 + (k : Nat))), some (.ref p), some (.int n), some (.ref r), some (.ref Lg), some (.ref s), v7, some (.ref Lo), some (.ref O2), v10, v11] ∧ ∃ vs, H' O2 = some (.lst vs) ∧ vs.length ≤ 8 ∧ (∀ v ∈ vs, Diff T.C_Partial T.C_Map H' n f Ec Eu v) ∧ Same H27 H') (fun nx fin => ?_) ?_
      · have row31 := row27.same s31
        refine tt_of ?_
        refine ⟨_, rfl, r, _, 2, _, rfl, rfl, SqL.of row31.er, rfl, nil_le, fun w3 n_w3 => ?_⟩
        have s29 : Same H31 (upd H31 w3 (.lst [])) := Same.new n_w3
        have e_w3 : (upd H31 w3 (.lst [])) w3 = some (.lst []) := upd_same
        generalize upd H31 w3 (.lst []) = H29 at s29 e_w3 ⊢
        have row29 := row31.same s29
        refine ne_nil row29.eu e_w3 ⟨_, rfl, ?_⟩
        by_cases hE : Eu = []
        · rw [decide_eq_true hE]
          exact iteF (fin _ _ ⟨rfl, vs2, s29 _ _ e_O31, by omega, fun v hv => (hdf2 v hv).same s29, s31.trans s29⟩)
        · rw [decide_eq_false hE]
          refine iteT ?_
          refine ⟨_, rfl, .inl ⟨rfl, _, SqL.of (s29 _ _ e_O31)⟩, ?_⟩
          refine ta1_of ?_
          refine mkK2_of rfl (fun R rr => ⟨_, rfl, _, rfl, r, _, 0, _, rfl, rfl, SqL.of row29.er, rfl, rr⟩) (fun R rr => ⟨_, rfl, r, _, 1, _, rfl, rfl, SqL.of row29.er, rfl, rr⟩) n1 (by omega) row29.ed row.di row.wf (by omega) (row29.gE (Int.le_refl _) n1 n5 row.hc) (goodNil T.kl_Partial__init_starts) fun b2 H30 n_b2 s30 ipb2 => ?_
          have e_O30 := s30 _ _ (s29 _ _ e_O31)
          refine ⟨O2, _, .ref b2, rfl, rfl, e_O30, lt_line (by omega), ?_⟩
          refine fin _ _ ⟨rfl, vs2 ++ [.ref b2], upd_same, by rw [List.length_append]; show vs2.length + 1 ≤ 8; omega, fun v hv => ?_, fun b o e => ?_⟩
          · rcases List.mem_append.mp hv with hv | hv
            · exact (((hdf2 v hv).same s29).same s30).put e_O30
            · rw [List.mem_singleton] at hv
              subst hv
              refine Diff.put (.inr ⟨b2, _, _, _, _, rfl, ipb2, eqP_T ?_⟩) e_O30
              rw [ascE_nil]
              exact hE
          · rw [upd_ne (ne_of_none e n_O2)]
            exact s30 _ _ (s29 _ _ (s31 _ _ e))
      rintro σ H32 ⟨rfl, vs3, e_O32, hlen3, hdf3, s32⟩
      have s1732 : Same H17 H32 := s1727.trans s32
      have ip32 := ip17.same s1732
      have row32 := row17.same s1732
      refine nx_seq ?_
      refine tt_of ?_
      refine lc_none (H := H32) (fun R rr => ⟨_, rfl, rr⟩) e_O32 (fun _ => rfl) (fun x hx Hx sx R rr => ?_) fun D1 H33 n_D1 e_D1 s33 => ?_
      · have dv := (hdf3 x hx).same sx
        exact ⟨_, rfl, _, rfl, diff_eq T (ip32.same sx) dv ⟨_, rfl, iteF ⟨_, rfl, _, rfl, diff_ne T (ip32.same sx) dv ⟨_, rfl, rr _ (Same.refl _)⟩⟩⟩⟩
      refine ⟨nil_le, fun w2 n_w2 => ?_⟩
      have s34 : Same H33 (upd H33 w2 (.lst [])) := Same.new n_w2
      have e_w2 : (upd H33 w2 (.lst [])) w2 = some (.lst []) := upd_same
      generalize upd H33 w2 (.lst []) = H34 at s34 e_w2 ⊢
      refine ne_nil (l := []) (s34 _ _ e_D1) e_w2 ⟨_, rfl, iteF ?_⟩
      have s1334 : Same H13 H34 := ((s1317.trans s1732).trans s33).trans s34
      dsimp only [tNext]
      refine ⟨_, rfl, _, rfl, _, rfl, p, n, r, d, c, u, l, f, Ec, Eu, rfl, pool13.same s1334, row13.same s1334, nep, n1, n5, fun H35 pool35 o35 => ⟨_, rfl, iteF ?_⟩⟩
      exact ⟨_, _, _, _, _, _, _, _, _, _, _, rfl, Same.off (sH13.trans s1334) o35 p0⟩
    · rintro σ H' ⟨v1, v2, v3, v4, v5, v6, v7, v8, v9, v10, v11, rfl, p1⟩
      exact q H'
end
end My
namespace My
open PySem L2
theorem walk {l : PySem.W.OpenLaw} {q : Program} {loose : List Str} {XP : (Str → Option Value) → Heap → Prop} {YP : World → Heap → Prop} {d : DefRec} {K : Params → PySem.W.Frag} (hn : l.most = some 63) (hdf : d.params.defaults = []) (hnm : d.name = "law")
    (hY : ∀ (w : World) (h : Heap), YP w h → (K w.params).In h)
    (ok : ∀ (P : Program) (w : World) (K : PySem.W.Frag) (mg : Str → Option Value) (base : Heap) (T : Txt K mg), U.FnG P w K mg base CX0 40 T.f_law (spLaw K))
    (F : ∀ (w : World) (mg : Str → Option Value) (h : Heap), (K w.params).In h → h.Ns mainGlobals mg → Nonempty (Txt (K w.params) mg)) :
    PySem.W.WalkO q loose XP YP l.row.toRowW d [] (fun f vs => PySem.call f vs) := by
  refine U.walkG (n := 63) (k := 40) (sp := spLaw) hn (by decide) hdf ⟨rfl, by decide, by decide⟩ hY ?_ (fun K H a ns hl hS => ⟨a, ns, rfl, hS, hl, fun _ => rfl⟩)
  intro w mg fa h KX G hmg base
  obtain ⟨T⟩ := F w mg h KX G
  rw [hnm, T.g_law] at hmg
  cases hmg
  exact ok _ _ _ _ _ T
end My
local macro_rules | `(tactic| first | refine $t:term | fail $s:str) => do { let t2 ← t.raw.replaceM fun n => (do { if n.getKind == `Lean.Parser.Term.syntheticHole then { let nm := n[1].getId.eraseMacroScopes; if nm == `hl then { return some (Lean.mkIdent `My.hl) } else { return none } } else { return none } }); `(tactic| refine $(⟨t2⟩)) }
open PySem PySem.W PyProof.Rows
set_option maxRecDepth 100000 in
set_option maxHeartbeats 0 in
theorem PySem.Challenge.cw_chainmaps_k60_partly_known_maps_holds : PySem.Challenge.rw_chainmaps_k60_partly_known_maps.Holds := by
  w_on; o_law; k_headL; (case hw => w_witness2)
  k_fill
  refine My.walk (l := PySem.Challenge.rw_chainmaps_k60_partly_known_maps) rfl rfl rfl (fun w h Y => PySem.W.kIn_of Y) (fun _ _ _ _ _ T => My.ok_law T) ?F
  case F =>
    intro w mg h KX G
    refine' My.mk_txt KX G ?a_is_integer ?l_is_integer ?c_is_integer ?k_is_integer ?a_in_range ?l_in_range ?c_in_range ?k_in_range ?a_check_size ?l_check_size ?c_check_size ?k_check_size ?a_are_arrows ?l_are_arrows ?c_are_arrows ?k_are_arrows ?a_are_elements ?l_are_elements ?c_are_elements ?k_are_elements ?a_l_hand ?l_l_hand ?c_l_hand ?k_l_hand ?a_l_draw ?l_l_draw ?c_l_draw ?k_l_draw ?a_l_arrows ?l_l_arrows ?c_l_arrows ?k_l_arrows ?a_l_all ?l_l_all ?c_l_all ?k_l_all ?a_l_known ?l_l_known ?c_l_known ?k_l_known ?a_l_made ?l_l_made ?c_l_made ?k_l_made ?a_l_fits ?l_l_fits ?c_l_fits ?k_l_fits ?a_l_told ?l_l_told ?c_l_told ?k_l_told ?a_l_parts_right ?l_l_parts_right ?c_l_parts_right ?k_l_parts_right ?a_l_shown ?l_l_shown ?c_l_shown ?k_l_shown ?a_l_unlike ?l_l_unlike ?c_l_unlike ?k_l_unlike ?a_law ?l_law ?c_law ?k_law ?a_Partial ?pg_Partial ?hd_Partial ?po_Partial ?sa_Partial ?sf_Partial ?ca_Partial ?cn_Partial ?ct_Partial ?cm_Partial ?kc_Partial ?kit_int_Partial ?kit_bool_Partial ?kn_NoneType_Partial ?nf_NoneType_Partial ?kn_int_Partial ?nf_int_Partial ?kn_bool_Partial ?nf_bool_Partial ?kn_str_Partial ?nf_str_Partial ?kn_list_Partial ?nf_list_Partial ?kn_dict_Partial ?nf_dict_Partial ?kn_tuple_Partial ?nf_tuple_Partial ?self_Partial ?na_own_known_Partial ?na_own_ends_Partial ?na_own_starts_Partial ?ne_Partial ?m_Partial__init ?i_Partial__init ?l_Partial__init ?c_Partial__init ?k_Partial__init ?kw_Partial__init_ends ?kl_Partial__init_ends ?kw_Partial__init_starts ?kl_Partial__init_starts ?mk_Partial ?m_Partial_known ?s_get_Partial_known ?tk_Partial_known ?rc_Partial_known ?l_Partial_known ?c_Partial_known ?k_Partial_known ?m_Partial_ends ?s_get_Partial_ends ?tk_Partial_ends ?rc_Partial_ends ?l_Partial_ends ?c_Partial_ends ?k_Partial_ends ?m_Partial_starts ?s_get_Partial_starts ?tk_Partial_starts ?rc_Partial_starts ?l_Partial_starts ?c_Partial_starts ?k_Partial_starts ?m_Partial__contains ?i_Partial__contains ?l_Partial__contains ?c_Partial__contains ?k_Partial__contains ?m_Partial__eq ?i_Partial__eq ?l_Partial__eq ?c_Partial__eq ?k_Partial__eq ?m_Partial__repr ?i_Partial__repr ?l_Partial__repr ?c_Partial__repr ?k_Partial__repr ?a_Map ?pg_Map ?hd_Map ?po_Map ?sa_Map ?sf_Map ?ca_Map ?cn_Map ?ct_Map ?cm_Map ?kc_Map ?kit_int_Map ?kit_bool_Map ?kn_NoneType_Map ?nf_NoneType_Map ?kn_int_Map ?nf_int_Map ?kn_bool_Map ?nf_bool_Map ?kn_str_Map ?nf_str_Map ?kn_list_Map ?nf_list_Map ?kn_dict_Map ?nf_dict_Map ?kn_tuple_Map ?nf_tuple_Map ?self_Map ?na_own_size_Map ?na_own_arrows_Map ?ne_Map ?m_Map__init ?i_Map__init ?l_Map__init ?c_Map__init ?k_Map__init ?mk_Map ?rd_Map ?ga_Map ?at_Map_identity ?rc_Map_identity ?fi_Map_identity ?l_Map_identity ?c_Map_identity ?k_Map_identity ?at_Map_empty ?rc_Map_empty ?fi_Map_empty ?l_Map_empty ?c_Map_empty ?k_Map_empty ?m_Map_size ?s_get_Map_size ?tk_Map_size ?rc_Map_size ?l_Map_size ?c_Map_size ?k_Map_size ?m_Map_arrows ?s_get_Map_arrows ?tk_Map_arrows ?rc_Map_arrows ?l_Map_arrows ?c_Map_arrows ?k_Map_arrows ?m_Map__eq ?i_Map__eq ?l_Map__eq ?c_Map__eq ?k_Map__eq ?a_InvalidPartial ?xl_InvalidPartial ?sa_InvalidPartial ?ex_InvalidPartial ?ty_InvalidPartial ?kc_InvalidPartial ?hd_InvalidPartial ?ga_InvalidPartial ?gg_InvalidPartial ?ss_InvalidPartial ?ca_InvalidPartial ?cn_InvalidPartial ?ct_InvalidPartial ?cm_InvalidPartial ?kit_ValueError_InvalidPartial ?na_part_InvalidPartial ?m_InvalidPartial__init ?ti_InvalidPartial__init ?l_InvalidPartial__init ?c_InvalidPartial__init ?k_InvalidPartial__init ?z_isinstance ?z_int ?z_bool ?z_dict ?z_len ?z_range ?z_list ?z_tuple ?z_all ?z_any ?z_max ?z_min ?z_repr ?z_str ?z_ValueError ?v_MAX_SIZE ?kit_x_Partial_Map ?nf_x_Partial_Map
    (case a_is_integer => as_aux_lemma => k_is)
    (case l_is_integer => as_aux_lemma => k_is)
    (case c_is_integer => as_aux_lemma => k_is)
    (case k_is_integer => as_aux_lemma => k_is)
    (case a_in_range => as_aux_lemma => k_is)
    (case l_in_range => as_aux_lemma => k_is)
    (case c_in_range => as_aux_lemma => k_is)
    (case k_in_range => as_aux_lemma => k_is)
    (case a_check_size => as_aux_lemma => k_is)
    (case l_check_size => as_aux_lemma => k_is)
    (case c_check_size => as_aux_lemma => k_is)
    (case k_check_size => as_aux_lemma => k_is)
    (case a_are_arrows => as_aux_lemma => k_is)
    (case l_are_arrows => as_aux_lemma => k_is)
    (case c_are_arrows => as_aux_lemma => k_is)
    (case k_are_arrows => as_aux_lemma => k_is)
    (case a_are_elements => as_aux_lemma => k_is)
    (case l_are_elements => as_aux_lemma => k_is)
    (case c_are_elements => as_aux_lemma => k_is)
    (case k_are_elements => as_aux_lemma => k_is)
    (case a_l_hand => as_aux_lemma => k_is)
    (case l_l_hand => as_aux_lemma => k_is)
    (case c_l_hand => as_aux_lemma => k_is)
    (case k_l_hand => as_aux_lemma => k_is)
    (case a_l_draw => as_aux_lemma => k_is)
    (case l_l_draw => as_aux_lemma => k_is)
    (case c_l_draw => as_aux_lemma => k_is)
    (case k_l_draw => as_aux_lemma => k_is)
    (case a_l_arrows => as_aux_lemma => k_is)
    (case l_l_arrows => as_aux_lemma => k_is)
    (case c_l_arrows => as_aux_lemma => k_is)
    (case k_l_arrows => as_aux_lemma => k_is)
    (case a_l_all => as_aux_lemma => k_is)
    (case l_l_all => as_aux_lemma => k_is)
    (case c_l_all => as_aux_lemma => k_is)
    (case k_l_all => as_aux_lemma => k_is)
    (case a_l_known => as_aux_lemma => k_is)
    (case l_l_known => as_aux_lemma => k_is)
    (case c_l_known => as_aux_lemma => k_is)
    (case k_l_known => as_aux_lemma => k_is)
    (case a_l_made => as_aux_lemma => k_is)
    (case l_l_made => as_aux_lemma => k_is)
    (case c_l_made => as_aux_lemma => k_is)
    (case k_l_made => as_aux_lemma => k_is)
    (case a_l_fits => as_aux_lemma => k_is)
    (case l_l_fits => as_aux_lemma => k_is)
    (case c_l_fits => as_aux_lemma => k_is)
    (case k_l_fits => as_aux_lemma => k_is)
    (case a_l_told => as_aux_lemma => k_is)
    (case l_l_told => as_aux_lemma => k_is)
    (case c_l_told => as_aux_lemma => k_is)
    (case k_l_told => as_aux_lemma => k_is)
    (case a_l_parts_right => as_aux_lemma => k_is)
    (case l_l_parts_right => as_aux_lemma => k_is)
    (case c_l_parts_right => as_aux_lemma => k_is)
    (case k_l_parts_right => as_aux_lemma => k_is)
    (case a_l_shown => as_aux_lemma => k_is)
    (case l_l_shown => as_aux_lemma => k_is)
    (case c_l_shown => as_aux_lemma => k_is)
    (case k_l_shown => as_aux_lemma => k_is)
    (case a_l_unlike => as_aux_lemma => k_is)
    (case l_l_unlike => as_aux_lemma => k_is)
    (case c_l_unlike => as_aux_lemma => k_is)
    (case k_l_unlike => as_aux_lemma => k_is)
    (case a_law => as_aux_lemma => k_is)
    (case l_law => as_aux_lemma => k_is)
    (case c_law => as_aux_lemma => k_is)
    (case k_law => as_aux_lemma => k_is)
    (case a_Partial => as_aux_lemma => k_is)
    (case pg_Partial => as_aux_lemma => k_is)
    (case hd_Partial => as_aux_lemma => k_is)
    (case po_Partial => as_aux_lemma => k_is)
    (case sa_Partial => as_aux_lemma => k_is)
    (case sf_Partial => as_aux_lemma => k_is)
    (case ca_Partial => as_aux_lemma => k_is)
    (case cn_Partial => as_aux_lemma => k_is)
    (case ct_Partial => as_aux_lemma => k_is)
    (case cm_Partial => as_aux_lemma => k_is)
    (case kc_Partial => as_aux_lemma => k_is)
    (case kit_int_Partial => as_aux_lemma => kernel_rfl)
    (case kit_bool_Partial => as_aux_lemma => kernel_rfl)
    (case kn_NoneType_Partial => as_aux_lemma => kernel_rfl)
    (case nf_NoneType_Partial => as_aux_lemma => kernel_rfl)
    (case kn_int_Partial => as_aux_lemma => kernel_rfl)
    (case nf_int_Partial => as_aux_lemma => kernel_rfl)
    (case kn_bool_Partial => as_aux_lemma => kernel_rfl)
    (case nf_bool_Partial => as_aux_lemma => kernel_rfl)
    (case kn_str_Partial => as_aux_lemma => kernel_rfl)
    (case nf_str_Partial => as_aux_lemma => kernel_rfl)
    (case kn_list_Partial => as_aux_lemma => kernel_rfl)
    (case nf_list_Partial => as_aux_lemma => kernel_rfl)
    (case kn_dict_Partial => as_aux_lemma => kernel_rfl)
    (case nf_dict_Partial => as_aux_lemma => kernel_rfl)
    (case kn_tuple_Partial => as_aux_lemma => kernel_rfl)
    (case nf_tuple_Partial => as_aux_lemma => kernel_rfl)
    (case self_Partial => as_aux_lemma => kernel_rfl)
    (case na_own_known_Partial => as_aux_lemma => k_is)
    (case na_own_ends_Partial => as_aux_lemma => k_is)
    (case na_own_starts_Partial => as_aux_lemma => k_is)
    (case ne_Partial => as_aux_lemma => k_is)
    (case m_Partial__init => as_aux_lemma => k_is)
    (case i_Partial__init => as_aux_lemma => k_is)
    (case l_Partial__init => as_aux_lemma => k_is)
    (case c_Partial__init => as_aux_lemma => k_is)
    (case k_Partial__init => as_aux_lemma => k_is)
    (case kw_Partial__init_ends => as_aux_lemma => k_is)
    (case kl_Partial__init_ends => as_aux_lemma => k_is)
    (case kw_Partial__init_starts => as_aux_lemma => k_is)
    (case kl_Partial__init_starts => as_aux_lemma => k_is)
    (case mk_Partial => as_aux_lemma => k_is)
    (case m_Partial_known => as_aux_lemma => k_is)
    (case s_get_Partial_known => as_aux_lemma => k_is)
    (case tk_Partial_known => as_aux_lemma => k_is)
    (case rc_Partial_known => as_aux_lemma => k_is)
    (case l_Partial_known => as_aux_lemma => k_is)
    (case c_Partial_known => as_aux_lemma => k_is)
    (case k_Partial_known => as_aux_lemma => k_is)
    (case m_Partial_ends => as_aux_lemma => k_is)
    (case s_get_Partial_ends => as_aux_lemma => k_is)
    (case tk_Partial_ends => as_aux_lemma => k_is)
    (case rc_Partial_ends => as_aux_lemma => k_is)
    (case l_Partial_ends => as_aux_lemma => k_is)
    (case c_Partial_ends => as_aux_lemma => k_is)
    (case k_Partial_ends => as_aux_lemma => k_is)
    (case m_Partial_starts => as_aux_lemma => k_is)
    (case s_get_Partial_starts => as_aux_lemma => k_is)
    (case tk_Partial_starts => as_aux_lemma => k_is)
    (case rc_Partial_starts => as_aux_lemma => k_is)
    (case l_Partial_starts => as_aux_lemma => k_is)
    (case c_Partial_starts => as_aux_lemma => k_is)
    (case k_Partial_starts => as_aux_lemma => k_is)
    (case m_Partial__contains => as_aux_lemma => k_is)
    (case i_Partial__contains => as_aux_lemma => k_is)
    (case l_Partial__contains => as_aux_lemma => k_is)
    (case c_Partial__contains => as_aux_lemma => k_is)
    (case k_Partial__contains => as_aux_lemma => k_is)
    (case m_Partial__eq => as_aux_lemma => k_is)
    (case i_Partial__eq => as_aux_lemma => k_is)
    (case l_Partial__eq => as_aux_lemma => k_is)
    (case c_Partial__eq => as_aux_lemma => k_is)
    (case k_Partial__eq => as_aux_lemma => k_is)
    (case m_Partial__repr => as_aux_lemma => k_is)
    (case i_Partial__repr => as_aux_lemma => k_is)
    (case l_Partial__repr => as_aux_lemma => k_is)
    (case c_Partial__repr => as_aux_lemma => k_is)
    (case k_Partial__repr => as_aux_lemma => k_is)
    (case a_Map => as_aux_lemma => k_is)
    (case pg_Map => as_aux_lemma => k_is)
    (case hd_Map => as_aux_lemma => k_is)
    (case po_Map => as_aux_lemma => k_is)
    (case sa_Map => as_aux_lemma => k_is)
    (case sf_Map => as_aux_lemma => k_is)
    (case ca_Map => as_aux_lemma => k_is)
    (case cn_Map => as_aux_lemma => k_is)
    (case ct_Map => as_aux_lemma => k_is)
    (case cm_Map => as_aux_lemma => k_is)
    (case kc_Map => as_aux_lemma => k_is)
    (case kit_int_Map => as_aux_lemma => kernel_rfl)
    (case kit_bool_Map => as_aux_lemma => kernel_rfl)
    (case kn_NoneType_Map => as_aux_lemma => kernel_rfl)
    (case nf_NoneType_Map => as_aux_lemma => kernel_rfl)
    (case kn_int_Map => as_aux_lemma => kernel_rfl)
    (case nf_int_Map => as_aux_lemma => kernel_rfl)
    (case kn_bool_Map => as_aux_lemma => kernel_rfl)
    (case nf_bool_Map => as_aux_lemma => kernel_rfl)
    (case kn_str_Map => as_aux_lemma => kernel_rfl)
    (case nf_str_Map => as_aux_lemma => kernel_rfl)
    (case kn_list_Map => as_aux_lemma => kernel_rfl)
    (case nf_list_Map => as_aux_lemma => kernel_rfl)
    (case kn_dict_Map => as_aux_lemma => kernel_rfl)
    (case nf_dict_Map => as_aux_lemma => kernel_rfl)
    (case kn_tuple_Map => as_aux_lemma => kernel_rfl)
    (case nf_tuple_Map => as_aux_lemma => kernel_rfl)
    (case self_Map => as_aux_lemma => kernel_rfl)
    (case na_own_size_Map => as_aux_lemma => k_is)
    (case na_own_arrows_Map => as_aux_lemma => k_is)
    (case ne_Map => as_aux_lemma => k_is)
    (case m_Map__init => as_aux_lemma => k_is)
    (case i_Map__init => as_aux_lemma => k_is)
    (case l_Map__init => as_aux_lemma => k_is)
    (case c_Map__init => as_aux_lemma => k_is)
    (case k_Map__init => as_aux_lemma => k_is)
    (case mk_Map => as_aux_lemma => k_is)
    (case rd_Map => as_aux_lemma => k_is)
    (case ga_Map => as_aux_lemma => k_is)
    (case at_Map_identity => as_aux_lemma => k_is)
    (case rc_Map_identity => as_aux_lemma => k_is)
    (case fi_Map_identity => as_aux_lemma => k_is)
    (case l_Map_identity => as_aux_lemma => k_is)
    (case c_Map_identity => as_aux_lemma => k_is)
    (case k_Map_identity => as_aux_lemma => k_is)
    (case at_Map_empty => as_aux_lemma => k_is)
    (case rc_Map_empty => as_aux_lemma => k_is)
    (case fi_Map_empty => as_aux_lemma => k_is)
    (case l_Map_empty => as_aux_lemma => k_is)
    (case c_Map_empty => as_aux_lemma => k_is)
    (case k_Map_empty => as_aux_lemma => k_is)
    (case m_Map_size => as_aux_lemma => k_is)
    (case s_get_Map_size => as_aux_lemma => k_is)
    (case tk_Map_size => as_aux_lemma => k_is)
    (case rc_Map_size => as_aux_lemma => k_is)
    (case l_Map_size => as_aux_lemma => k_is)
    (case c_Map_size => as_aux_lemma => k_is)
    (case k_Map_size => as_aux_lemma => k_is)
    (case m_Map_arrows => as_aux_lemma => k_is)
    (case s_get_Map_arrows => as_aux_lemma => k_is)
    (case tk_Map_arrows => as_aux_lemma => k_is)
    (case rc_Map_arrows => as_aux_lemma => k_is)
    (case l_Map_arrows => as_aux_lemma => k_is)
    (case c_Map_arrows => as_aux_lemma => k_is)
    (case k_Map_arrows => as_aux_lemma => k_is)
    (case m_Map__eq => as_aux_lemma => k_is)
    (case i_Map__eq => as_aux_lemma => k_is)
    (case l_Map__eq => as_aux_lemma => k_is)
    (case c_Map__eq => as_aux_lemma => k_is)
    (case k_Map__eq => as_aux_lemma => k_is)
    (case a_InvalidPartial => as_aux_lemma => k_is)
    (case xl_InvalidPartial => as_aux_lemma => k_is)
    (case sa_InvalidPartial => as_aux_lemma => k_is)
    (case ex_InvalidPartial => as_aux_lemma => k_is)
    (case ty_InvalidPartial => as_aux_lemma => k_is)
    (case kc_InvalidPartial => as_aux_lemma => k_is)
    (case hd_InvalidPartial => as_aux_lemma => k_is)
    (case ga_InvalidPartial => as_aux_lemma => k_is)
    (case gg_InvalidPartial => as_aux_lemma => k_is)
    (case ss_InvalidPartial => as_aux_lemma => k_is)
    (case ca_InvalidPartial => as_aux_lemma => k_is)
    (case cn_InvalidPartial => as_aux_lemma => k_is)
    (case ct_InvalidPartial => as_aux_lemma => k_is)
    (case cm_InvalidPartial => as_aux_lemma => k_is)
    (case kit_ValueError_InvalidPartial => as_aux_lemma => kernel_rfl)
    (case na_part_InvalidPartial => as_aux_lemma => k_is)
    (case m_InvalidPartial__init => as_aux_lemma => k_is)
    (case ti_InvalidPartial__init => as_aux_lemma => k_is)
    (case l_InvalidPartial__init => as_aux_lemma => k_is)
    (case c_InvalidPartial__init => as_aux_lemma => k_is)
    (case k_InvalidPartial__init => as_aux_lemma => k_is)
    (case z_isinstance => as_aux_lemma => k_is)
    (case z_int => as_aux_lemma => k_is)
    (case z_bool => as_aux_lemma => k_is)
    (case z_dict => as_aux_lemma => k_is)
    (case z_len => as_aux_lemma => k_is)
    (case z_range => as_aux_lemma => k_is)
    (case z_list => as_aux_lemma => k_is)
    (case z_tuple => as_aux_lemma => k_is)
    (case z_all => as_aux_lemma => k_is)
    (case z_any => as_aux_lemma => k_is)
    (case z_max => as_aux_lemma => k_is)
    (case z_min => as_aux_lemma => k_is)
    (case z_repr => as_aux_lemma => k_is)
    (case z_str => as_aux_lemma => k_is)
    (case z_ValueError => as_aux_lemma => k_is)
    (case v_MAX_SIZE => as_aux_lemma => k_is)
    (case kit_x_Partial_Map => as_aux_lemma => kernel_rfl)
    (case nf_x_Partial_Map => as_aux_lemma => kernel_rfl)
