import PyProof.Rows.All
import Wide.All
import OpenK.AllK
import Wide.FinOn
import KE.OsRunLaw
import PySem.Challenge.RW_chainmaps_k19_great_maps
import HandS.ForMost
import HandS.ForExc
import HandS.IsInst
import HandS.More
import HandS.SlotsOwn
import HandS.Property
import HandS.ClsMeth
import HandS.DictComp
import HandS.Conv
import HandS.Walk
import HandS.NoneIn
import HandS.CallLocal
import HandS.Star
import HandS.ExcInit
import HandS.ExcField
import HandS.ExcIs
import KE.KExcInit
import KE.KExcIs
import HandS.WordsExc
import HandS.ListItems
import HandS.Style
import HandS.TryMany
import HandS.RaiseMore
import HandS.FStr
import HandS.HotCalls
import KE.KItemsList
import KE.KOpsOwn
import HandS.OwnEq
import HandS.Lambda
import HandS.EndTab
import KE.KNestM
import HandS.Deep
import HandS.Nested
import KE.KSuper
import HandS.SortInts
import HandS.Wide
import HandS.WideBits
set_option Elab.async false
set_option linter.all false
set_option maxRecDepth 100000
set_option maxHeartbeats 4000000
section
local macro_rules | `(tactic| first | refine $t:term | fail $s:str) => do { let t2 ← t.raw.replaceM fun n => (do { if n.getKind == `Lean.Parser.Term.syntheticHole then { let nm := n[1].getId.eraseMacroScopes; if nm == `hl then { return some (← `(by exact $(Lean.mkIdent `x))) } else { if nm == `hw || nm == `hc then { return some (← `(by contradiction)) } else { return none } } } else { return none } }); `(tactic| refine $(⟨t2⟩)) }
open PySem PySem.W PyProof.Rows
set_option maxRecDepth 100000 in
set_option maxHeartbeats 0 in
def My.hlStmt : Prop := by
  refine' (fun (P : Prop) (_ : P → False → PySem.Challenge.rw_chainmaps_k19_great_maps.Holds) => P) _ ?h
  rotate_left
  intro x f
  w_on; o_law; k_headL
set_option maxRecDepth 100000 in
set_option maxHeartbeats 0 in
theorem My.hl : My.hlStmt := by
  refine HeadRun.left_oneK (by kernel_rfl) (by rfl) (fun s => by kernel_rfl) (Nat.ble_eq_true_of_le (Nat.le_refl _)) ?_
  intro w os
  kernel_rfl
end
namespace PySem.W
open PySem PySem.Calls PyProof.Rows
section
variable {prog : Program} {w : World} {A : Around} {E : Value → Shared → Prop} {s : Shared} {K : Frag} {x C L f : Addr} {h₀ : Heap} {m : Str → Option Value} {ox : Obj} {od : Option Obj} {b tb : Value}
theorem my_ne_K {Q : Value → Shared → Prop} (hu : A.units + 1 < cLine) (F : Fr h₀ L s.heap m) (X₀ : K.In h₀) (I : InstAt s.heap x ox C od) (hb : Looks (model prog w) s.heap (typeOf b) tb) (hn : notFirst K C tb = true)
    (hne : findIn K (.ref C) "__ne__" = some (some (.builtin "object.__ne__"))) (hob : mroIn K C (.type "object") = some true)
    (hs : findIn K (.ref C) "__eq__" = some (some (.ref f))) (hf : isFn K (.ref f) = true)
    (h : wpAny (model prog w) A.in1 (call (.ref f) [.ref x, b]) (fun v s' => ∃ c, v = .bool c ∧ Q (.bool (!c)) s') E s) : wpAny (model prog w) A (richCompare .NotEq (.ref x) b) Q E s := by
  have X := X₀.keeps F.keep
  have one : wpAny (model prog w) A (tryCompare (.ref x) "__ne__" b) (fun r s' => ∃ v, r = some v ∧ Q v s') E s := by
    unfold tryCompare
    simp only [callSpecialIfBound?, bindSpecialIfBound?]
    have sub : Looks (model prog w) s.heap (isInstance (.ref x) (.type "object")) true := I.type.andThen (looks_mroIn X hob)
    have fin : wpAny (model prog w) A (call (.builtin "object.__ne__") ([.ref x] ++ [b]) >>= fun v => pure (some v)) (fun r s' => ∃ c, r = some (.bool c) ∧ Q (.bool c) s') E s := by
      refine wpAny_bind (wpAny_call (codeAny_call_builtin PySem.F.slot_tuple_iterator_ne.plain PySem.F.cmpEntry_ne ?_))
      refine @check_slot (model prog w) _ _ s "object.__ne__" "object" "__ne__" (.ref x) [b] [] _ PySem.F.cmpKind_ne PySem.F.cmpSplit_ne sub (PySem.F.cmpArgs_ne _ _) ?_
      unfold Builtin.«object.__ne__»
      refine wpAny_bind (wpAny_of_eq (a := ((Value.ref x : Value), [b])) (by first | rfl | (simp only [Builtin.slotArgs]; rfl)) ?_)
      refine wpAny_bind (wpAny_cRoomFor hu ?_)
      refine wpAny_bind (ifBound_K X I hs hf (wpAny_mono h (fun v s' hv => ?_) fun _ _ e => e))
      obtain ⟨c, rfl, q⟩ := hv
      refine wpAny_bind (wpAny_truthy_bool ?_)
      exact wpAny_pure (wpAny_pure ⟨_, rfl, q⟩)
    refine wpAny_bind (wpAny_holding (wpAny_bind (wpAny_bind (wpAny_bind (I.type.here ((looks_findIn X hne).here ?_))))))
    refine wpAny_bind (wpAny_askSetting (wpAny_ite ?_))
    split
    · rw [PySem.F.slot_tuple_iterator_ne.bind (.ref x)]
      exact wpAny_bind (wpAny_pure (wpAny_pure (wpAny_mono fin (fun r s' z => by obtain ⟨c, rfl, q⟩ := z; exact wpAny_pure ⟨_, rfl, q⟩) fun _ _ e => e)))
    · rw [PySem.F.slot_tuple_iterator_ne.bind (.ref x)]
      exact wpAny_tryCatch (wpAny_bind (wpAny_pure (wpAny_pure (wpAny_mono fin (fun r s' z => by obtain ⟨c, rfl, q⟩ := z; exact wpAny_pure ⟨_, rfl, q⟩) fun _ _ e => e))))
  unfold richCompare
  simp only [oneThing_ref]
  refine wpAny_holding (wpAny_bind (wpAny_cRoomFor (Nat.lt_of_succ_lt hu) ?_))
  refine wpAny_bind (I.type.here (wpAny_bind (hb.here ?_)))
  split
  · rename_i q
    have e : subIn K tb (.ref C) = some false := by
      rcases Bool.or_eq_true_iff.mp hn with e | e
      · rw [beq_iff_eq.mp e] at q; simp at q
      · exact beq_iff_eq.mp e
    refine wpAny_bind ((looks_subIn X e).here ?_)
    simp only [Bool.false_eq_true, if_false]
    refine wpAny_bind (wpAny_mono one (fun r s' z => ?_) fun _ _ e => e)
    obtain ⟨v, rfl, hq⟩ := z
    exact wpAny_pure hq
  · refine wpAny_bind (wpAny_pure ?_)
    simp only [Bool.false_eq_true, if_false]
    refine wpAny_bind (wpAny_mono one (fun r s' z => ?_) fun _ _ e => e)
    obtain ⟨v, rfl, hq⟩ := z
    exact wpAny_pure hq
end
end PySem.W
namespace U
open PySem PySem.Spec PyProof.Rows L2
/-- what is asked of a plain own class -/
structure OwnC (K : PySem.W.Frag) (C : Addr) : Prop where
  cl : Cls K C
  sf : PySem.W.selfFirst K C = true
  ca : PySem.W.findIn K (.ref C) "__class__" = some (some (.builtin "object.__class__"))
  cn : PySem.W.specialIn K (.builtin "object.__class__") "__get__" = some (some (.builtin "getset_descriptor.__get__"))
  ct : PySem.W.takesIn K (.builtin "object.__class__") = some true
  cm : PySem.W.mroIn K C (.type "object") = some true
section
variable {X : Cx} {CX : CXT} {pins : List (Addr × Obj)} {σ : L2.St} {H : Hp} {s : Shared} {a C dx p g : Addr} {f : Str} {n : Nat} {sp : Sp} {E : XK} {v : V} {u : Value}
theorem ins_inst (I : Inv X pins σ H s) {fs : List (Str × V)} (ea : H a = some (.ins C dx fs)) : ∃ ox od, PySem.W.InstAt s.heap a ox C (some od) := by
  obtain ⟨mA, O, _⟩ := ins_get I.hok ea
  obtain ⟨od, J, _⟩ := O.look
  exact ⟨_, od, J⟩
theorem notFirst_self (K : PySem.W.Frag) (C : Addr) : PySem.W.notFirst K C (.ref C) = true := by
  unfold PySem.W.notFirst; simp
/-- x != y by the own __eq__ -/
def rNeO (C : Addr) (sp : Sp) (E : XK) : R2 := fun x y H Q => ∃ a dx fs b dy gs, x = .ref a ∧ y = .ref b ∧ H a = some (.ins C dx fs) ∧ H b = some (.ins C dy gs) ∧ sp [x, y] H (fun z H' => ∃ c, z = .bl c ∧ Q (.bl (!c)) H') E
theorem op_neO (oc : OwnC X.K C) (hne : PySem.W.findIn X.K (.ref C) "__ne__" = some (some (.builtin "object.__ne__"))) (hs : PySem.W.findIn X.K (.ref C) "__eq__" = some (some (.ref g))) (hf : PySem.W.isFn X.K (.ref g) = true) (F : FnR X.prog X.w X.K X.mg X.base CX n g sp)
    (hr : Room (n + 1) X.A) (hx : Passes CX X E) : OpR X (compareOp .NotEq) (rNeO C sp E) := by
  intro pins s σ H x y v u Q I rx ry h
  obtain ⟨a, dx, vs, b, dy, ws, rfl, rfl, ha, hb, q⟩ := h
  cases (show v = Value.ref a from rx)
  cases (show u = Value.ref b from ry)
  obtain ⟨ox, od, J⟩ := ins_inst I ha
  obtain ⟨oy, od', J'⟩ := ins_inst I hb
  obtain ⟨m, hF⟩ := I.fr
  have hr1 : Room n X.A.in1 := Room.in1 hr
  refine PySem.W.my_ne_K (tb := .ref C) (hu_of hr) hF I.ok.mod.kin J J'.type (notFirst_self _ _) hne oc.cm hs hf ?_
  refine wpAny_mono (wpAny_call (SlX.run_at (us := [.ref a, .ref b]) (ws := [.ref a, .ref b]) F hr1 I.env0.in1 hx I (.cons rfl (.cons rfl .nil)) q)) (fun w s' z => ?_) fun _ _ x => x
  obtain ⟨z', H', I', rz, c, ez, qz⟩ := z
  subst ez
  cases (show w = Value.bool c from rz)
  exact ⟨c, rfl, .bl (!c), H', I', rfl, qz⟩
end
end U
namespace U
open PySem PySem.Spec PyProof.Rows L2 StX
/-! ### a def of the text, with how its arguments bind -/
structure FnAt (K : PySem.W.Frag) (x qual : Str) (st : Stmt) (f : Addr) (ps : List Str) : Prop where
  ex : ∃ fd, Fun K x qual st f fd ∧ Binds K fd ps []
theorem FnAt.kp {K : PySem.W.Frag} {x qual : Str} {st : Stmt} {f : Addr} {ps : List Str} (A : FnAt K x qual st f ps) : PySem.W.keepIn K (.ref f) = true := by
  obtain ⟨fd, F, _⟩ := A.ex
  exact F.kp
section
variable {P : Program} {w : World} {K : PySem.W.Frag} {mg : Str → Option Value} {base : Heap}
theorem FnAt.ok {x qual : Str} {st : Stmt} {f : Addr} {N ps : List Str} {k : Nat} {sp : Sp} (A : FnAt K x qual st f ps) (S : FnScope N ps (defScope st)) (len : ∀ vs H Q E, sp vs H Q E → vs.length = ps.length)
    (hbody : ∀ (cdv : Value) (A : Around) (outer : List Env) (s : Shared) (H : Hp) (vs : List V) (Q : VK) (E : XK), Room k (A.deeper (envOfC qual (defScope st) s.heap.objs.size f cdv)) → sp vs H Q E →
      ∃ t, PSs (cxOf CX0 P w K mg base N qual (defScope st) f cdv A outer s H E).nox (defBody st) t ∧ t { nx := fun _ H' => Q .non H', rt := Q } (start N vs) H) : FnR P w K mg base CX0 (k + 1) f sp := by
  obtain ⟨fd, F, B⟩ := A.ex
  have R := (F.ok (P := P) (w := w) (mg := mg) (base := base) S len hbody).raw B .nil
  exact R.imp fun vs H Q E h => by rw [List.append_nil]; exact h
end
section
variable {X : Cx} {CX : CXT} {k i : Nat} {f C p g a dx : Addr} {sp : Sp} {E : XK} {x fl : Str} {e o : Expr} {es : List Expr} {ta te tf : TE} {t : TA} {pp pos : Pos} {fs : List (Str × V)}
/-- x(e, ..), x a def of the module -/
def tCallR (sp : Sp) (E : XK) (t : TA) : TE := fun σ H Q => t σ H fun vs H1 => sp vs H1 Q E
theorem pe_callR (F : FnR X.prog X.w X.K X.mg X.base CX k f sp) (hr : Room k X.A) (hk : PySem.W.keepIn X.K (.ref f) = true) (hg : Gl X x) (hm : X.mg x = some (.ref f)) (hx : Passes CX X E) (ha : PA X (e :: es) t) (hdb : (x == ("__debug__" : Str)) = false := by decide)
    (he : starEach (e :: es) X.env = (false, eval e X.env) :: starEach es X.env := by rfl) (hpl : (backTo pos (starEach es X.env)).any (·.1) = false := by rfl) : PE X (.Call (.Name x pp) (e :: es) [] pos) (tCallR sp E t) := by
  refine ⟨fun pins s σ H Q I h => ?_⟩
  refine wpAny_Call_Name_kw (ld_glob I hg hm ?_ hdb)
  refine PySem.W.callWith_K (h₀ := X.base) I.ok.mod.kin hk (thn (ha.run pos pins s σ H _ I h) fun us s1 ⟨vs, H1, I1, r, q⟩ => ⟨I1.kIn, ?_⟩) he hpl
  exact wpAny_call (run_fnR F hr hx I1 r q)
/-- e.f, a property -/
def tPropR (C : Addr) (sp : Sp) (ta : TE) : TE := fun σ H Q => ta σ H fun x H1 => ∃ a dx fs, x = .ref a ∧ H1 a = some (.ins C dx fs) ∧ sp [.ref a] H1 Q E0
theorem pe_propR (he : PE X e ta) (c : Cls X.K C) (hp : PropOf X.K C fl p g) (F : FnR X.prog X.w X.K X.mg X.base CX0 k g sp) (hr : Room (k + 1) X.A)
    (hab : attributeBase e fl X.env (eval e X.env) = eval e X.env := by rfl) : PE X (.Attribute e fl pos) (tPropR C sp ta) := by
  refine ⟨fun pins s σ H Q I h => ?_⟩
  refine attr_of hab (thn (he.run pins s σ H _ I h) fun u s1 ⟨x, H1, I1, rx, a, dx, fs, ex, ea, q⟩ => ?_)
  subst ex
  obtain rfl : u = Value.ref a := rx
  obtain ⟨mA, O, _, _, _, _⟩ := ins_get I1.hok ea
  obtain ⟨od, J, _⟩ := O.look
  obtain ⟨rest, hrec⟩ := hp.rec_
  have I2 := I1.tok (s1.toks + 1)
  have hc : (PySem.W.clsIn X.K C).isSome = true := by
    obtain ⟨cd, hc, _⟩ := PySem.W.any_some c.hd
    rw [hc]
    rfl
  refine PySem.W.get_bind I1.kIn J (PySem.W.plainGet_of (c.get fl)).1 (PySem.W.findObj_data hc hp.at_ hp.get hp.tak) (PySem.W.plainGet_of (c.get fl)).2 (wpAny_call (PySem.W.prop_get (s := { s1 with toks := s1.toks + 1 }) I1.kIn hrec ?_))
  refine codeAny_mono (F X.A.in1 X.stack { s1 with toks := s1.toks + 1 } H1 [.ref a] [.ref a] Q E0 hr.in1 I2.env0.in1 (.cons rfl .nil) q) fun r s' hq => ?_
  cases r with
  | error er => exact False.elim hq
  | ok fl =>
    cases fl with
    | ret u =>
      obtain ⟨v, H', I3, rv, q3⟩ := I2.after hq
      show wpAny _ _ (handedOut u) _ _ _
      rw [PySem.W.handedOut_of (handed_of rv)]
      exact wpAny_pure ⟨v, H', I3, rv, q3⟩
    | next => exact False.elim hq
    | brk => exact False.elim hq
    | cont => exact False.elim hq
/-- x(..), x a local that holds the class at C -/
def tMakeL (i : Nat) (C : Addr) (sp : Sp) (E : XK) (t : TA) : TE := fun σ H Q => σ[i]? = some (some (.ref C)) ∧ tMakeR C sp E t σ H Q
theorem pe_makeL (M : Mk X.K C f) (F : FnR X.prog X.w X.K X.mg X.base CX k f sp) (hr : Room (k + 1) X.A) (hN : X.N[i]? = some x) (hv : Vis X.env.scope x) (hx : Passes CX X E) (ha : PA X (e :: es) t) (hdb : (x == ("__debug__" : Str)) = false := by decide)
    (hcd : (x == ("__classdict__" : Str)) = false := by decide)
    (he : starEach (e :: es) X.env = (false, eval e X.env) :: starEach es X.env := by rfl) (hpl : (backTo pos (starEach es X.env)).any (·.1) = false := by rfl) : PE X (.Call (.Name x pp) (e :: es) [] pos) (tMakeL i C sp E t) := by
  refine ⟨fun pins s σ H Q I h => ?_⟩
  obtain ⟨hs, ht⟩ := h
  refine wpAny_Call_Name_kw (thn ((pe_var (pos := pp) hN hv hdb hcd).run pins s σ H (fun v H1 => v = .ref C ∧ H1 = H) I ⟨.ref C, hs, rfl, rfl⟩) fun u s1 ⟨v, H1, I1, r1, q1⟩ => ?_)
  obtain ⟨rfl, rfl⟩ := q1
  cases r1
  refine PySem.W.callWith_K (h₀ := X.base) I.ok.mod.kin M.kp (thn (ha.run pos pins s1 σ _ _ I1 ht) fun us s2 ⟨vs, H2, I2, r, q⟩ => ⟨I2.kIn, ?_⟩) he hpl
  exact run_makeR M F hr hx I2 r q
end
theorem ifD {c : Prop} [Decidable c] {A B : Prop} (h1 : c → A) (h2 : ¬ c → B) : if decide c = true then A else B := by
  by_cases h : c
  · rw [if_pos (decide_eq_true h)]; exact h1 h
  · rw [if_neg (by simp [h])]; exact h2 h
theorem ifN {c : Prop} [Decidable c] {A B : Prop} (h1 : ¬ c → A) (h2 : c → B) : if (!decide c) = true then A else B := by
  by_cases h : c
  · rw [if_neg (by simp [h])]; exact h2 h
  · rw [if_pos (by simp [h])]; exact h1 h
theorem ifB {c : Bool} {A B : Prop} (h1 : c = true → A) (h2 : c = false → B) : if c = true then A else B := by
  cases c with
  | true => rw [if_pos rfl]; exact h1 rfl
  | false => rw [if_neg Bool.false_ne_true]; exact h2 rfl
theorem ifNB {c : Bool} {A B : Prop} (h1 : c = false → A) (h2 : c = true → B) : if (!c) = true then A else B := by
  cases c with
  | true => exact iteF (h2 rfl)
  | false => exact iteT (h1 rfl)
end U
namespace U
open PySem PySem.Spec PyProof.Rows L2
/-- the ints' dicts compared -/
def dEq (ks ls : List (Key × V)) : Bool := ks.length == ls.length && ks.all fun p => decide (valV ls p.1 = some p.2)
def IntVals (ks : List (Key × V)) : Prop := ∀ p ∈ ks, ∃ i : Int, p.2 = .int i
theorem valV_mem {ls : List (Key × V)} {k : Key} {v : V} (h : valV ls k = some v) : ∃ p ∈ ls, p.2 = v := by
  unfold valV at h
  cases e : ls.find? (fun kv => decide (kv.1 = k)) with
  | none => rw [e] at h; cases h
  | some p =>
    rw [e] at h
    exact ⟨p, List.mem_of_find?_eq_some e, Option.some.inj h⟩
theorem hits_int {A : Around} {s : Shared} {ls : List (Key × V)} {vb : List (Key × Value)} (rb : KV ls vb) (il : IntVals ls) {ks : List (Key × V)} {va : List (Key × Value)} (ra : KV ks va) :
    IntVals ks → PySem.W.KeqHits A s vb va (ks.all fun p => decide (valV ls p.1 = some p.2)) := by
  unfold KV at ra
  induction ra with
  | nil => intro _; exact .nil
  | @cons p q ps qs h t ih =>
    intro hp
    obtain ⟨h1, h2⟩ := h
    obtain ⟨i, ei⟩ := hp p List.mem_cons_self
    obtain ⟨k, v⟩ := q
    have h1' : p.1 = k := h1
    subst h1'
    rw [ei] at h2
    obtain ⟨tk, ev⟩ := (show ∃ tk, v = Value.int i tk from h2)
    subst ev
    have rr : RelO (valV ls p.1) (valueAt vb p.1) := rb.val p.1
    rw [List.all_cons]
    cases e : valV ls p.1 with
    | none =>
      rw [e] at rr
      cases e2 : valueAt vb p.1 with
      | none => exact .miss e2
      | some y => rw [e2] at rr; exact rr.elim
    | some z =>
      rw [e] at rr
      obtain ⟨y, hy, ry⟩ := rr.some_of
      obtain ⟨p', hm, ep⟩ := valV_mem e
      obtain ⟨j, ej⟩ := il p' hm
      rw [ej] at ep
      subst ep
      obtain ⟨tk', ey⟩ := (show ∃ tk, y = Value.int j tk from ry)
      subst ey
      have b : decide (some (V.int j) = some p.2) = (i == j) := by
        rw [ei]
        by_cases h : i = j
        · subst h; simp
        · have h' : ¬ j = i := fun z => h z.symm
          simp [h, h']
      rw [b]
      exact .hit hy (SeqAt.EqAt.int_int i _ j _) (ih fun p' hm => hp p' (List.mem_cons_of_mem _ hm))
section
variable {X : Cx}
def rEqD : R2 := fun x y H Q => ∃ a b ks ls, x = .ref a ∧ y = .ref b ∧ H a = some (.dK ks) ∧ H b = some (.dK ls) ∧ IntVals ks ∧ IntVals ls ∧ Q (.bl (dEq ks ls)) H
theorem op_eqDI (hu : X.A.units < cLine) : OpR X (compareOp .Eq) rEqD := by
  intro pins s σ H x y v u Q I rx ry h
  obtain ⟨a, b, ks, ls, rfl, rfl, ea, eb, i1, i2, q⟩ := h
  cases (show v = Value.ref a from rx)
  cases (show u = Value.ref b from ry)
  obtain ⟨_, ya, va, ra, da⟩ := (show ObjOk X.prog X.w H s.heap a (.dK ks) from I.hok a _ ea)
  obtain ⟨_, yb, vb, rb, db⟩ := (show ObjOk X.prog X.w H s.heap b (.dK ls) from I.hok b _ eb)
  refine PySem.W.keq_eq (knd := mixKind X.prog X.w) ya yb da db hu (fun _ => hits_int rb i2 ra i1) (fin_bl I q ?_)
  unfold dEq
  rw [ra.length, rb.length]
end
end U
namespace U
open PySem PySem.Spec PyProof.Rows L2
/-! ### heaps -/
def Off (d : Addr) (H H' : Hp) : Prop := ∀ b o, b ≠ d → H b = some o → H' b = some o
theorem Same.new {H : Hp} {p : Addr} {o : HO} (h : H p = none) : L2.Same H (upd H p o) := fun b u e => by rw [upd_ne (ne_of_none e h)]; exact e
theorem Off.tr {d : Addr} {H H1 H2 : Hp} (a : Off d H H1) (b : Off d H1 H2) : Off d H H2 := fun c o hc e => b c o hc (a c o hc e)
theorem Off.lock {d : Addr} {H : Hp} {o : HO} : Off d H (upd H d o) := fun b u hb e => by rw [upd_ne hb]; exact e
theorem Off.new {d p : Addr} {H : Hp} {o : HO} (h : H p = none) : Off d H (upd H p o) := fun b u _ e => by rw [upd_ne (ne_of_none e h)]; exact e
theorem Off.free {d p : Addr} {H H' : Hp} {u : HO} (a : Off d H H') (hd : H' d = some u) (h : H' p = none) : H p = none := by
  cases e : H p with
  | none => rfl
  | some o =>
    by_cases hp : p = d
    · subst hp; rw [hd] at h; cases h
    · rw [a p o hp e] at h; cases h
theorem Off.back {d : Addr} {H H' : Hp} {u : HO} (a : Off d H H') (hd : H d = some u) : L2.Same H (upd H' d u) := fun b o e => by
  by_cases hb : b = d
  · subst hb; rw [hd] at e; cases e; exact upd_same
  · rw [upd_ne hb]; exact a b o hb e
/-- an object of the heap behind, that was not there ahead, may be changed -/
theorem Off.mut {d p : Addr} {H H' : Hp} {o : HO} (a : Off d H H') (h : H p = none) : Off d H (upd H' p o) := fun b u hb e => by rw [upd_ne (ne_of_none e h)]; exact a b u hb e
/-! ### a dict of ints -/
def kvI (l : List (Int × Int)) : List (Key × V) := l.map fun p => (Sum.inl p.1, V.int p.2)
theorem kvI_length (l : List (Int × Int)) : (kvI l).length = l.length := by simp [kvI]
theorem kvI_get {l : List (Int × Int)} {i : Nat} {k : Key} {v : V} (h : (kvI l)[i]? = some (k, v)) : ∃ x y, l[i]? = some (x, y) ∧ k = .inl x ∧ v = .int y := by
  unfold kvI at h
  rw [List.getElem?_map] at h
  cases e : l[i]? with
  | none => rw [e] at h; cases h
  | some p =>
    rw [e] at h
    obtain ⟨x, y⟩ := p
    cases h
    exact ⟨x, y, rfl, rfl, rfl⟩
def lk (l : List (Int × Int)) (x : Int) : Option Int := (l.find? fun p => decide (p.1 = x)).map (·.2)
theorem valV_kvI (l : List (Int × Int)) (x : Int) : valV (kvI l) (Sum.inl x : Key) = (lk l x).map V.int := by
  induction l with
  | nil => rfl
  | cons p r ih =>
    obtain ⟨a, b⟩ := p
    by_cases h : a = x
    · subst h
      rw [show kvI ((a, b) :: r) = (Sum.inl a, V.int b) :: kvI r from rfl, valV_pos rfl]
      simp [lk]
    · rw [show kvI ((a, b) :: r) = (Sum.inl a, V.int b) :: kvI r from rfl, valV_neg (fun z => h (Sum.inl.inj z)), ih]
      simp [lk, h]
theorem lk_none {l : List (Int × Int)} {x : Int} (h : x ∉ l.map (·.1)) : lk l x = none := by
  unfold lk
  rw [List.find?_eq_none.mpr]
  · rfl
  · intro p hp
    simp only [decide_eq_true_eq]
    exact fun e => h (List.mem_map.mpr ⟨p, hp, e⟩)
theorem lk_some {l : List (Int × Int)} (nd : (l.map (·.1)).Nodup) {x y : Int} (h : (x, y) ∈ l) : lk l x = some y := by
  induction l with
  | nil => cases h
  | cons p r ih =>
    obtain ⟨a, b⟩ := p
    rw [List.map_cons, List.nodup_cons] at nd
    rcases List.mem_cons.mp h with h | h
    · cases h; simp [lk]
    · have ne : ¬ a = x := fun z => nd.1 (by rw [z]; exact List.mem_map.mpr ⟨(x, y), h, rfl⟩)
      have := ih nd.2 h
      simpa [lk, ne] using this
theorem lk_mem {l : List (Int × Int)} {x y : Int} (h : lk l x = some y) : (x, y) ∈ l := by
  unfold lk at h
  cases e : l.find? (fun p => decide (p.1 = x)) with
  | none => rw [e] at h; cases h
  | some p =>
    rw [e] at h
    obtain ⟨a, b⟩ := p
    have h1 := List.find?_some e
    simp only [decide_eq_true_eq] at h1
    have h2 : b = y := Option.some.inj h
    subst h1 h2
    exact List.mem_of_find?_eq_some e
theorem intVals_kvI (l : List (Int × Int)) : IntVals (kvI l) := by
  intro p hp
  unfold kvI at hp
  obtain ⟨q, _, rfl⟩ := List.mem_map.mp hp
  exact ⟨q.2, rfl⟩
theorem putK_kvI {l : List (Int × Int)} {x y : Int} (h : x ∉ l.map (·.1)) : putK (kvI l) (Sum.inl x : Key) (V.int y) = kvI (l ++ [(x, y)]) := by
  have e : valV (kvI l) (Sum.inl x : Key) = none := by rw [valV_kvI, lk_none h]; rfl
  rw [putK_new _ e]
  simp [kvI]
theorem lk_append {l r : List (Int × Int)} {x : Int} : lk (l ++ r) x = (lk l x).or (lk r x) := by
  unfold lk
  rw [List.find?_append]
  cases l.find? (fun p => decide (p.1 = x)) <;> rfl
theorem lk_cons (a b : Int) (r : List (Int × Int)) (z : Int) : lk ((a, b) :: r) z = if a = z then some b else lk r z := by
  by_cases h : a = z <;> simp [lk, h]
theorem lk_mapOff (r : List (Int × Int)) (x y z : Int) (hz : ¬ z = x) : lk (r.map fun p => if p.1 = x then (p.1, y) else p) z = lk r z := by
  induction r with
  | nil => rfl
  | cons p r ih =>
    obtain ⟨a, b⟩ := p
    rw [List.map_cons]
    by_cases ha : a = x
    · subst ha
      have hz' : ¬ a = z := fun q => hz q.symm
      rw [if_pos rfl, lk_cons, lk_cons, if_neg hz', if_neg hz', ih]
    · rw [if_neg ha, lk_cons, lk_cons, ih]
theorem lk_mapPut {x y : Int} : ∀ (l : List (Int × Int)), x ∈ l.map (·.1) → ∀ z, lk (l.map fun p => if p.1 = x then (p.1, y) else p) z = if z = x then some y else lk l z
  | [], h, z => by cases h
  | (a, b) :: r, h, z => by
    by_cases hz : z = x
    · subst hz
      rw [if_pos rfl, List.map_cons]
      by_cases ha : a = z
      · subst ha
        rw [if_pos rfl, lk_cons, if_pos rfl]
      · rw [if_neg ha, lk_cons, if_neg ha]
        have h' : z ∈ r.map (·.1) := by
          rcases List.mem_cons.mp h with q | q
          · exact absurd q.symm ha
          · exact q
        rw [lk_mapPut r h' z, if_pos rfl]
    · rw [if_neg hz, lk_mapOff _ _ _ _ hz]
theorem putK_lk {l : List (Int × Int)} {x y : Int} : ∃ l', putK (kvI l) (Sum.inl x : Key) (V.int y) = kvI l' ∧ l'.length ≤ l.length + 1 ∧ ((l.map (·.1)).Nodup → (l'.map (·.1)).Nodup) ∧ ∀ z, lk l' z = if z = x then some y else lk l z := by
  by_cases h : x ∈ l.map (·.1)
  · refine ⟨l.map fun p => if p.1 = x then (p.1, y) else p, ?_, by simp, fun nd => ?_, fun z => ?_⟩
    · unfold putK
      rw [if_pos (by
        obtain ⟨p, hp, e⟩ := List.mem_map.mp h
        rw [List.any_eq_true]
        exact ⟨(Sum.inl p.1, V.int p.2), List.mem_map.mpr ⟨p, hp, rfl⟩, by simp [e]⟩)]
      unfold kvI
      rw [List.map_map, List.map_map]
      refine List.map_congr_left fun p _ => ?_
      by_cases e : p.1 = x
      · simp [e]
      · have e' : ¬ (Sum.inl p.1 : Key) = Sum.inl x := fun q => e (Sum.inl.inj q)
        simp [e]
    · have e : (l.map fun p => if p.1 = x then (p.1, y) else p).map (·.1) = l.map (·.1) := by
        rw [List.map_map]
        refine List.map_congr_left fun p _ => ?_
        by_cases e : p.1 = x <;> simp [e]
      rw [e]; exact nd
    · exact lk_mapPut l h z
  · refine ⟨l ++ [(x, y)], putK_kvI h, by simp, fun nd => ?_, fun z => ?_⟩
    · rw [List.map_append, List.nodup_append]
      refine ⟨nd, by simp, fun a ha b hb e => ?_⟩
      simp at hb
      subst hb
      exact h (e ▸ ha)
    · rw [lk_append]
      by_cases hz : z = x
      · subst hz; rw [lk_none h]; simp [lk]
      · have hz' : ¬ x = z := fun q => hz q.symm
        cases lk l z <;> simp [lk, hz, hz']
end U
namespace U
open PySem PySem.Spec PyProof.Rows L2
section
variable {J : It} {n : Nat} {G : Hp → Prop} {Y : Nat → Hp → V → Hp → Prop}
/-- a dict comprehension over a walk -/
theorem dc_it (w : Walk J n G Y) {g : TG} {tt : TT} {tk tv : TE} {vs : List Nat} {σ : L2.St} {H1 : Hp} {D : Addr} {Qd : Hp → Prop} (Pv : Nat → Hp → Prop) (h0 : Pv 0 (upd H1 D (.dK []))) (hG : ∀ i H, i ≤ n → Pv i H → G H)
    (hs : ∀ i x H H', i < n → Pv i H → Y i H x H' → g x (wipe σ vs) H' fun σ2 H2 => wipe σ2 vs = wipe σ vs ∧ tt σ2 H2 fun b H3 =>
      if b = true then tk σ2 H3 fun y H4 => tv σ2 H4 fun z H5 => ∃ kvs k, y = kV k ∧ H5 D = some (.dK kvs) ∧ kvs.length < sizeLine ∧ Pv (i + 1) (upd H5 D (.dK (putK kvs k z))) else Pv (i + 1) H3) (hd : ∀ H, Pv n H → Qd H) :
    ∃ W : Nat → Nat → Hp → Prop, (∃ m, W 0 m (upd H1 D (.dK []))) ∧ ∀ i m H, W i m H →
      (J.stop i H ∧ Qd H) ∨ (J.go i H ∧ ∃ Nx : Hp → Prop, (∀ H', Nx H' → ∃ m', m' < m ∧ W (i + 1) m' H') ∧ ∀ x H', J.yld i H x H' → g x (wipe σ vs) H' fun σ2 H2 => wipe σ2 vs = wipe σ vs ∧ tt σ2 H2 fun b H3 =>
        if b = true then tk σ2 H3 fun y H4 => tv σ2 H4 fun z H5 => ∃ kvs k, y = kV k ∧ H5 D = some (.dK kvs) ∧ kvs.length < sizeLine ∧ Nx (upd H5 D (.dK (putK kvs k z))) else Nx H3) := by
  refine ⟨fun i m H => m = n - i ∧ i ≤ n ∧ Pv i H, ⟨n, by simp, Nat.zero_le _, h0⟩, ?_⟩
  rintro i m H ⟨rfl, hi, p⟩
  have q := hG i H hi p
  by_cases hlt : i < n
  · exact .inr ⟨w.goes i H hlt q, Pv (i + 1), fun H' p' => ⟨n - (i + 1), by omega, rfl, hlt, p'⟩, fun x H' y => hs i x H H' hlt p (w.yields i H x H' hlt q y)⟩
  · have e : i = n := by omega
    subst e
    exact .inl ⟨w.stops H q, hd H p⟩
end
/-- what a comprehension over pairs makes -/
def madeD (c : Int → Int → Bool) (kf : Int → Int → Int) (vf : Int → Int → V) (l : List (Int × Int)) : List (Key × V) := (l.filter fun p => c p.1 p.2).map fun p => (Sum.inl (kf p.1 p.2), vf p.1 p.2)
theorem take_more {α : Type} {l : List α} {i : Nat} {x : α} (h : l[i]? = some x) : l.take (i + 1) = l.take i ++ [x] := by
  rw [List.take_add_one, h]; rfl
theorem valV_none {kvs : List (Key × V)} {k : Key} (h : k ∉ kvs.map (·.1)) : valV kvs k = none := by
  unfold valV
  rw [List.find?_eq_none.mpr]
  · rfl
  · intro p hp
    simp only [decide_eq_true_eq]
    exact fun e => h (List.mem_map.mpr ⟨p, hp, e⟩)
theorem madeD_step {c : Int → Int → Bool} {kf : Int → Int → Int} {vf : Int → Int → V} {l : List (Int × Int)} {i : Nat} {x y : Int} (h : l[i]? = some (x, y)) (nd : ((madeD c kf vf l).map (·.1)).Nodup) (hc : c x y = true) :
    putK (madeD c kf vf (l.take i)) (Sum.inl (kf x y)) (vf x y) = madeD c kf vf (l.take (i + 1)) := by
  have e : madeD c kf vf (l.take (i + 1)) = madeD c kf vf (l.take i) ++ [(Sum.inl (kf x y), vf x y)] := by
    rw [take_more h]
    unfold madeD
    rw [List.filter_append, List.map_append]
    simp [hc]
  have e2 : madeD c kf vf l = madeD c kf vf (l.take (i + 1)) ++ madeD c kf vf (l.drop (i + 1)) := by
    unfold madeD
    rw [← List.map_append, ← List.filter_append, List.take_append_drop]
  rw [e2, e, List.map_append, List.map_append] at nd
  have nd1 := (List.nodup_append.mp nd).1
  have nin : (Sum.inl (kf x y) : Key) ∉ (madeD c kf vf (l.take i)).map (·.1) := by
    intro hm
    exact (List.nodup_append.mp nd1).2.2 _ hm _ (by simp) rfl
  rw [putK_new _ (valV_none nin), e]
theorem madeD_skip {c : Int → Int → Bool} {kf : Int → Int → Int} {vf : Int → Int → V} {l : List (Int × Int)} {i : Nat} {x y : Int} (h : l[i]? = some (x, y)) (hc : c x y = false) :
    madeD c kf vf (l.take (i + 1)) = madeD c kf vf (l.take i) := by
  rw [take_more h]
  unfold madeD
  rw [List.filter_append, List.map_append]
  simp [hc]
theorem madeD_len (c : Int → Int → Bool) (kf : Int → Int → Int) (vf : Int → Int → V) (l : List (Int × Int)) (i : Nat) : (madeD c kf vf (l.take i)).length ≤ l.length := by
  unfold madeD
  rw [List.length_map]
  exact Nat.le_trans (List.length_filter_le _ _) (by rw [List.length_take]; omega)
/-- {k: v for x, y in d.items() if ..}, the tests and parts reading alone -/
theorem dc_items {K : PySem.W.Frag} {d : Addr} {l : List (Int × Int)} {te : TE} {i j : Nat} {tt : TT} {tk tv : TE} {vs : List Nat} {σ : L2.St} {H : Hp} {Q : VK} (c : Int → Int → Bool) (kf : Int → Int → Int) (vf : Int → Int → V)
    (hd : H d = some (.dK (kvI l))) (hte : ∀ H' (R : VK), R (.ref d) H' → Off d H H' → te σ H' R)
    (hw : ∀ a b, wipe (((wipe σ vs).set i a).set j b) vs = wipe σ vs)
    (hb : ∀ x y, (x, y) ∈ l → ∀ H1, Off d H H1 → (∀ R : Bool → Hp → Prop, R (c x y) H1 → tt (((wipe σ vs).set i (some (.int x))).set j (some (.int y))) H1 R) ∧
      (c x y = true → (∀ R : VK, R (.int (kf x y)) H1 → tk (((wipe σ vs).set i (some (.int x))).set j (some (.int y))) H1 R) ∧ ∀ R : VK, R (vf x y) H1 → tv (((wipe σ vs).set i (some (.int x))).set j (some (.int y))) H1 R))
    (nd : ((madeD c kf vf l).map (·.1)).Nodup) (hz : l.length < sizeLine)
    (hq : ∀ D H', H D = none → H' D = some (.dK (madeD c kf vf l)) → L2.Same H H' → Q (.ref D) H') :
    tLockE (tDc (iItems te) (gTup K 2 (gCons (gName i) (gCons (gName j) gNil))) tt tk tv vs) σ H Q := by
  refine ⟨d, _, hd, trivial, fun od => ?_⟩
  refine hte _ _ ⟨d, od, kvI l, rfl, upd_same, fun D hD => ?_⟩ Off.lock
  have hDd : D ≠ d := fun e => by rw [e, upd_same] at hD; cases hD
  have hD0 : H D = none := by rw [upd_ne hDd] at hD; exact hD
  refine dc_it walk_items (fun k H' => H' d = some (.frz od (.dK (kvI l))) ∧ Off d H H' ∧ H' D = some (.dK (madeD c kf vf (l.take k)))) ⟨?_, Off.lock.mut hD0, upd_same⟩ (fun k H' _ p => p.1) ?_ ?_
  · rw [upd_ne hDd.symm]; exact upd_same
  · rintro k v H' H'' hk ⟨p1, p2, p3⟩ ⟨T, a, b, rfl, hT, rfl, e1, e2⟩
    rw [kvI_length] at hk
    obtain ⟨⟨x, y⟩, exy⟩ : ∃ p, l[k]? = some p := ⟨_, List.getElem?_eq_getElem hk⟩
    have ek : (kvI l)[k]? = some (Sum.inl x, V.int y) := by unfold kvI; rw [List.getElem?_map, exy]; rfl
    dsimp only at e1 e2
    rw [ek] at e1 e2
    cases e1; cases e2
    have nTd : d ≠ T := ne_of_none p1 hT
    have nTD : D ≠ T := ne_of_none p3 hT
    refine ⟨T, [.int x, .int y], rfl, SqT.of upd_same, rfl, .int x, [.int y], rfl, .int y, [], rfl, rfl, ?_⟩
    refine ⟨hw _ _, ?_⟩
    have o2 : Off d H (upd H' T (.tup [.int x, .int y])) := p2.tr (Off.new hT)
    obtain ⟨b1, b2⟩ := hb x y (List.mem_of_getElem? exy) _ o2
    refine b1 _ ?_
    have d3 : (upd H' T (.tup [.int x, .int y])) d = some (.frz od (.dK (kvI l))) := by rw [upd_ne nTd]; exact p1
    have D3 : (upd H' T (.tup [.int x, .int y])) D = some (.dK (madeD c kf vf (l.take k))) := by rw [upd_ne nTD]; exact p3
    cases hc : c x y with
    | true =>
      refine iteT ?_
      obtain ⟨b3, b4⟩ := b2 hc
      refine b3 _ (b4 _ ⟨_, Sum.inl (kf x y), rfl, D3, Nat.lt_of_le_of_lt (madeD_len ..) hz, ?_⟩)
      refine ⟨?_, o2.mut hD0, ?_⟩
      · rw [upd_ne hDd.symm]; exact d3
      · rw [upd_same, madeD_step exy nd hc]
    | false =>
      refine iteF ⟨d3, o2, ?_⟩
      rw [madeD_skip exy hc]
      exact D3
  · rintro H' ⟨p1, p2, p3⟩
    rw [kvI_length, List.take_length] at p3
    refine ⟨p1, hq D _ hD0 ?_ (p2.back hd)⟩
    rw [upd_ne hDd]
    exact p3
/-- {k: v for x in range(lo, ..) if ..} -/
def madeR (c : Int → Bool) (kf : Int → Int) (vf : Int → V) (n : Nat) : List (Key × V) := ((List.range n).filter fun (i : Nat) => c (i : Int)).map fun (i : Nat) => ((Sum.inl (kf (i : Int)) : Key), vf (i : Int))
theorem madeR_succ (c : Int → Bool) (kf : Int → Int) (vf : Int → V) (n : Nat) : madeR c kf vf (n + 1) = madeR c kf vf n ++ (if c (n : Int) = true then [((Sum.inl (kf (n : Int)) : Key), vf (n : Int))] else []) := by
  unfold madeR
  rw [List.range_succ, List.filter_append, List.map_append]
  by_cases h : c (n : Int) = true
  · simp [h]
  · have h' : c (n : Int) = false := by simpa using h
    simp [h']
theorem madeR_len (c : Int → Bool) (kf : Int → Int) (vf : Int → V) (n : Nat) : (madeR c kf vf n).length ≤ n := by
  unfold madeR
  rw [List.length_map]
  exact Nat.le_trans (List.length_filter_le _ _) (by simp)
theorem madeR_keys {c : Int → Bool} {vf : Int → V} {n k : Nat} (h : (Sum.inl (k : Int) : Key) ∈ (madeR c (fun x => x) vf n).map (·.1)) : k < n := by
  unfold madeR at h
  rw [List.map_map] at h
  obtain ⟨i, hi, e⟩ := List.mem_map.mp h
  have h1 := (List.mem_filter.mp hi).1
  rw [List.mem_range] at h1
  have : (i : Int) = (k : Int) := Sum.inl.inj e
  omega
theorem dc_range {wi : TI} {i : Nat} {tt : TT} {tk tv : TE} {vs : List Nat} {σ : L2.St} {H0 H : Hp} {Q : VK} {n : Nat} (c : Int → Bool) (vf : Int → V) (hwi : ∀ R : It → Hp → Prop, R (Itr 0 n) H → wi σ H0 R)
    (hw : ∀ a, wipe ((wipe σ vs).set i a) vs = wipe σ vs)
    (hb : ∀ k : Nat, k < n → ∀ H1, L2.Same H H1 → (∀ R : Bool → Hp → Prop, R (c (k : Int)) H1 → tt ((wipe σ vs).set i (some (.int (0 + (k : Nat))))) H1 R) ∧
      (c (k : Int) = true → (∀ R : VK, R (.int (k : Int)) H1 → tk ((wipe σ vs).set i (some (.int (0 + (k : Nat))))) H1 R) ∧ ∀ R : VK, R (vf (k : Int)) H1 → tv ((wipe σ vs).set i (some (.int (0 + (k : Nat))))) H1 R))
    (hz : n < sizeLine) (hq : ∀ D H', H D = none → H' D = some (.dK (madeR c (fun x => x) vf n)) → L2.Same H H' → Q (.ref D) H') :
    tDc wi (gName i) tt tk tv vs σ H0 Q := by
  refine hwi _ ?_
  intro D hD
  refine dc_it walk_range (fun k H' => L2.Same H H' ∧ H' D = some (.dK (madeR c (fun x => x) vf k))) ⟨Same.new hD, upd_same⟩ (fun _ _ _ _ => trivial) ?_ ?_
  · rintro k v H' H'' hk ⟨p1, p2⟩ ⟨rfl, rfl⟩
    refine ⟨hw _, ?_⟩
    obtain ⟨b1, b2⟩ := hb k hk _ p1
    refine b1 _ ?_
    cases hc : c (k : Int) with
    | true =>
      refine iteT ?_
      obtain ⟨b3, b4⟩ := b2 hc
      refine b3 _ (b4 _ ⟨_, Sum.inl (k : Int), rfl, p2, Nat.lt_of_le_of_lt (madeR_len ..) (Nat.lt_trans hk hz), ?_, ?_⟩)
      · intro b o e
        rw [upd_ne (ne_of_none e hD)]
        exact p1 b o e
      · rw [upd_same, putK_new _ (valV_none fun z => Nat.lt_irrefl _ (madeR_keys z)), madeR_succ, if_pos hc]
    | false =>
      refine iteF ⟨p1, ?_⟩
      rw [madeR_succ, hc, p2]
      simp
  · rintro H' ⟨p1, p2⟩
    exact hq D _ hD p2 p1
end U
namespace U
open PySem PySem.Spec PyProof.Rows L2
section
variable {X : Cx}
theorem sw_dict {kx vx : Expr} {gs : List Comprehension} {scope : Scope} {pos py : Pos} {y : Str} {l : Nat} {env : Env} (hk : env.scope.kind = .function) (hy : env.scope.names.lookup y = some .local) (hl : (py.line == pos.line) = true)
    (ha : (scope.names.any fun (n, k) => n == y && (k == .local || k == .cell)) = false) : swapsWith (.DictComp kx vx gs scope pos) (some (.Name y py)) l env = pure true := by
  have ky : env.kindOf y = some .local := hy
  have hb : env.blockKind = .function := by unfold Env.blockKind; rw [hk]; rfl
  unfold swapsWith
  simp only [hb, ky, ha, Expr.pos, hl]
  rfl
/-- name = {..} on one line, the name a local -/
theorem ps_setDc {i : Nat} {y : Str} {py : Pos} {kx vx tg iter : Expr} {ifs : List Expr} {scope : Scope} {own : List (Str × Nat)} {pos spos : Pos} {wi : TI} {g : TG} {tt : TT} {tk tv : TE} (hc : X.calm = true) (hN : X.N.Nodup) (hy : X.N[i]? = some y) (hyl : X.env.scope.names.lookup y = some .local)
    (hsw : swapsWith (.DictComp kx vx [⟨tg, iter, ifs, 0⟩] scope pos) (some (.Name y py)) spos.line X.env = pure true) (hi : PI X tg iter wi) (ok : BlkOk X.N X.env.scope scope own)
    (hg : ∀ (s : Shared) (H : Hp) (C : Addr) (cl : List (Str × Addr)) (fp : List Addr), PG (X.blk s H scope (compEnvC scope cl C X.env) fp) tg g) (ht : ∀ (s : Shared) (H : Hp) (C : Addr) (cl : List (Str × Addr)) (fp : List Addr), PTs (X.blk s H scope (compEnvC scope cl C X.env) fp) ifs tt)
    (hk : ∀ (s : Shared) (H : Hp) (C : Addr) (cl : List (Str × Addr)) (fp : List Addr), PE (X.blk s H scope (compEnvC scope cl C X.env) fp) kx tk)
    (he : ∀ (s : Shared) (H : Hp) (C : Addr) (cl : List (Str × Addr)) (fp : List Addr), PE (X.blk s H scope (compEnvC scope cl C X.env) fp) vx tv) (hs : ∀ x, foldedSetIterable iter X.env x = pure x := by intro _; rfl) :
    PS X (.Assign [.Name y py] (.DictComp kx vx [⟨tg, iter, ifs, 0⟩] scope pos) spos) (tAsg (tDc wi g tt tk tv (own.map (·.2))) (gName i)) := by
  refine ⟨fun pins s σ H D I h => ?_⟩
  rw [exec_Assign_Name_used _ _ _ _ hsw]
  refine wpAny_bind (wpAny_standAt (wpAny_bind ?_))
  show wpAny _ X.A (do let _ ← comprehension (.DictComp kx vx [⟨tg, iter, ifs, 0⟩] scope pos) scope X.env (firstIterPos [⟨tg, iter, ifs, 0⟩] pos) newDict false (eval iter X.env) (some (assign (.Name y py) X.env))) _ _ s
  have h : tDc wi g tt tk tv (own.map (·.2)) σ H (fun x H1 => gName i x σ H1 D.nx) := h
  refine wpAny_bind (thn (dc_core (Qf := fun _ s' => SP X pins D .next s') hc hN I hi ok hg ht hk he hs h fun L C s' m H' I' q hn f => ?_) fun _ s' hq => wpAny_pure (wpAny_pure hq))
  show wpAny _ _ (assign (.Name y py) X.env (.ref L)) _ _ _
  refine wpAny_assign_Name (store_ok2 (v := V.ref L) I' hN hy (.inl hyl) rfl (fun s2 I2 ⟨a, sb, ha⟩ => ?_) (.inr hyl))
  obtain ⟨f0, f1, f2, f3, f4, f5⟩ := f
  have haC : C ≠ a := by
    rcases ha with z | z
    · rw [z]; exact f1
    · exact fun e => f4 y a z e.symm
  refine ⟨m, hn.sameBut sb haC, fun h3 sb3 => ?_⟩
  exact ⟨_, H', I2.turned (t' := s2.toks) (fun b o hb e => (sb3.2 b hb).trans e) f0 f1 f3 f4 f5, q⟩
end
/-- x = e under the lock -/
theorem lock_asg {t : TE} {D : Ends} {σ : L2.St} {H : Hp} {i : Nat} (h : tLockE t σ H (fun v H' => D.nx (σ.set i (some v)) H')) : tLock (tAsg t (gName i)) D σ H := h
/-- [v for x, y in d.items() if ..], the tests and parts reading alone -/
def madeL (c : Int → Int → Bool) (vf : Int → Int → V) (l : List (Int × Int)) : List V := (l.filter fun p => c p.1 p.2).map fun p => vf p.1 p.2
theorem madeL_step {c : Int → Int → Bool} {vf : Int → Int → V} {l : List (Int × Int)} {i : Nat} {x y : Int} (h : l[i]? = some (x, y)) :
    madeL c vf (l.take (i + 1)) = madeL c vf (l.take i) ++ (if c x y = true then [vf x y] else []) := by
  rw [take_more h]
  unfold madeL
  rw [List.filter_append, List.map_append]
  by_cases hc : c x y = true
  · simp [hc]
  · have hc' : c x y = false := by simpa using hc
    simp [hc']
theorem madeL_len (c : Int → Int → Bool) (vf : Int → Int → V) (l : List (Int × Int)) (i : Nat) : (madeL c vf (l.take i)).length ≤ l.length := by
  unfold madeL
  rw [List.length_map]
  exact Nat.le_trans (List.length_filter_le _ _) (by rw [List.length_take]; omega)
theorem lc_items {K : PySem.W.Frag} {d : Addr} {l : List (Int × Int)} {te : TE} {i j : Nat} {tt : TT} {tv : TE} {vs : List Nat} {σ : L2.St} {H : Hp} {Q : VK} (c : Int → Int → Bool) (vf : Int → Int → V)
    (hd : H d = some (.dK (kvI l))) (hte : ∀ H' (R : VK), R (.ref d) H' → Off d H H' → te σ H' R)
    (hw : ∀ a b, wipe (((wipe σ vs).set i a).set j b) vs = wipe σ vs)
    (hb : ∀ x y, (x, y) ∈ l → ∀ H1, Off d H H1 → (∀ R : Bool → Hp → Prop, R (c x y) H1 → tt (((wipe σ vs).set i (some (.int x))).set j (some (.int y))) H1 R) ∧
      (c x y = true → ∀ R : VK, R (vf x y) H1 → tv (((wipe σ vs).set i (some (.int x))).set j (some (.int y))) H1 R))
    (hz : l.length < sizeLine)
    (hq : ∀ D H', H D = none → H' D = some (.lst (madeL c vf l)) → L2.Same H H' → Q (.ref D) H') :
    tLockE (tLc (iItems te) (gTup K 2 (gCons (gName i) (gCons (gName j) gNil))) tt tv vs) σ H Q := by
  refine ⟨d, _, hd, trivial, fun od => ?_⟩
  refine hte _ _ ⟨d, od, kvI l, rfl, upd_same, fun D hD => ?_⟩ Off.lock
  have hDd : D ≠ d := fun e => by rw [e, upd_same] at hD; cases hD
  have hD0 : H D = none := by rw [upd_ne hDd] at hD; exact hD
  refine lc_it walk_items (fun k H' => H' d = some (.frz od (.dK (kvI l))) ∧ Off d H H' ∧ H' D = some (.lst (madeL c vf (l.take k)))) ⟨?_, Off.lock.mut hD0, upd_same⟩ (fun k H' _ p => p.1) ?_ ?_
  · rw [upd_ne hDd.symm]; exact upd_same
  · rintro k v H' H'' hk ⟨p1, p2, p3⟩ ⟨T, a, b, rfl, hT, rfl, e1, e2⟩
    rw [kvI_length] at hk
    obtain ⟨⟨x, y⟩, exy⟩ : ∃ p, l[k]? = some p := ⟨_, List.getElem?_eq_getElem hk⟩
    have ek : (kvI l)[k]? = some (Sum.inl x, V.int y) := by unfold kvI; rw [List.getElem?_map, exy]; rfl
    dsimp only at e1 e2
    rw [ek] at e1 e2
    cases e1; cases e2
    have nTd : d ≠ T := ne_of_none p1 hT
    have nTD : D ≠ T := ne_of_none p3 hT
    refine ⟨T, [.int x, .int y], rfl, SqT.of upd_same, rfl, .int x, [.int y], rfl, .int y, [], rfl, rfl, ?_⟩
    refine ⟨hw _ _, ?_⟩
    have o2 : Off d H (upd H' T (.tup [.int x, .int y])) := p2.tr (Off.new hT)
    obtain ⟨b1, b2⟩ := hb x y (List.mem_of_getElem? exy) _ o2
    refine b1 _ ?_
    have d3 : (upd H' T (.tup [.int x, .int y])) d = some (.frz od (.dK (kvI l))) := by rw [upd_ne nTd]; exact p1
    have D3 : (upd H' T (.tup [.int x, .int y])) D = some (.lst (madeL c vf (l.take k))) := by rw [upd_ne nTD]; exact p3
    have st := madeL_step (c := c) (vf := vf) exy
    cases hc : c x y with
    | true =>
      rw [hc, if_pos rfl] at st
      refine iteT (b2 hc _ ⟨_, D3, Nat.lt_of_le_of_lt (madeL_len ..) hz, ?_⟩)
      refine ⟨?_, o2.mut hD0, ?_⟩
      · rw [upd_ne hDd.symm]; exact d3
      · rw [upd_same, st]
    | false =>
      rw [hc, if_neg Bool.false_ne_true, List.append_nil] at st
      refine iteF ⟨d3, o2, ?_⟩
      rw [st]
      exact D3
  · rintro H' ⟨p1, p2, p3⟩
    rw [kvI_length, List.take_length] at p3
    refine ⟨p1, hq D _ hD0 ?_ (p2.back hd)⟩
    rw [upd_ne hDd]
    exact p3
end U
/-! ### own errors over any built-in error -/
namespace PySem
namespace GEX
open PySem.W PySem.Calls PyProof.Rows PySem.HandSPX Builtin Builtin.ObjectAttr
section
variable {prog : Program} {w : World} {A : Around} {E : Value → Shared → Prop} {R : Result → Shared → Prop} {hp : Heap} {gs : Array GenState} {dr : Drawn} {tn : Nat} {os : OsState}
/-- what is asked of the class's chain -/
structure Mro (m : List Value) : Prop where
  ob : m.contains (.type "object") = true
  ne : m.isEmpty = false
  ps : ∀ self : Value, refuseLoop self "__setattr__" m = pure ()
theorem mro_of {bmB bm : List Value} {B : String} (SF : StoreFacts B bmB "object.__setattr__" "object") (h : excTail bmB bm = true) (C : Addr) : Mro (.ref C :: bm) := by
  have h' : excTail bmB (.ref C :: bm) = true := h
  exact ⟨(excTail_contains "object" _ h').trans SF.hasOwner, rfl, fun self => excTail_pass self (SF.passes self) _ h'⟩
theorem osa_first {K : Frag} {nm : Str} {tk : Tok} {v : Value} {x C : Addr} {fv : Array Value} {cd : ClassData} (X : K.In hp) (hx : hp.get? x = some { cls := .ref C, data := .fields fv }) (hcd : clsIn K C = some cd) (hm : Mro cd.mro) (hh : cd.hasDict = true) (ha : findIn K (.ref C) nm = some none)
    (hq : ∀ h' tk' dx, (∀ b o, b ≠ x → hp.get? b = some o → h'.get? b = some o) → hp.objs.size ≤ dx → dx ≠ x → h'.get? x = some { cls := .ref C, dict := some dx, data := .fields fv } → h'.Ns1 dx (fun y => if y = nm then some v else none) → R (.ok (.ret .none)) ⟨h', gs, dr, tk', os⟩) :
    codeAny (model prog w) A (.call (.builtin "object.__setattr__") ⟨[.ref x, .str nm tk, v], []⟩) R ⟨hp, gs, dr, tn, os⟩ := by
  have I : InstAt hp x { cls := .ref C, data := .fields fv } C none := ⟨hx, rfl, rfl, trivial⟩
  have hxs : x ≠ hp.objs.size := Nat.ne_of_lt (Heap.lt_size hx)
  have S0 := F.store_object
  have l1 : Looks (model prog w) hp (isInstance (.ref x) (.type "object")) true := I.type.andThen (looks_mroIn X (by unfold mroIn; rw [hcd, Option.bind_some, if_neg (by rw [hm.ne]; decide), hm.ob]))
  refine codeAny_call_builtin S0.slot.plain S0.entry ?_
  refine @check_slot (model prog w) _ _ ⟨hp, gs, dr, tn, os⟩ "object.__setattr__" "object" "__setattr__" (.ref x) [.str nm tk, v] [] _ S0.kind S0.split l1 (S0.args (.ref x) (.str nm tk) v) ?_
  have l2 : Looks (model prog w) hp (mroOf (.ref C)) cd.mro := (looks_clsIn X hcd).andThen .now
  have l3 : Looks (model prog w) hp (storeTaker? none) none := .now
  have l4 : Looks (model prog w) hp (classData C) cd := looks_clsIn X hcd
  rw [osa_eq, refuse_eq]
  refine wpAny_bind (wpAny_bind (I.type.at (wpAny_bind (l2.at ?_)))); rw [hm.ps]
  refine wpAny_pure (wpAny_bind (I.type.at (wpAny_bind ((looks_findIn X ha).at (wpAny_bind (l3.at ?_))))))
  show wpAny _ _ (storeInOwnDict (.ref x) (.ref C) (.str nm tk) nm v false) _ _ _
  obtain ⟨c1, c2, c3, c4, c5, c6, c7, c8, c9, c10, c11⟩ := cd
  have hh' : c6 = true := hh
  subst hh'
  unfold storeInOwnDict ownDictForStores
  repeat (first | with_reducible refine HandSPX.store_in_new ?_ ?_ | with_reducible refine wpAny_loadPart_at hx ?_ | with_reducible refine l4.at ?_ | wp_step)
  · refine ⟨_, #[], _, (Heap.get?_update_ne _ _ _ _ hxs.symm).trans (Heap.get?_push_at rfl rfl), rfl, fun e he => ?_, fun _ => rfl⟩
    simp at he
  · intro h' tk' hn' hs
    have hx1 : (hp.push { cls := .type "dict", data := .dict #[] }).get? x = some { cls := .ref C, data := .fields fv } := Heap.get?_push_of_some _ hx
    exact hq h' tk' hp.objs.size (fun b o hb ho => (hs.2 b (Nat.ne_of_lt (Heap.lt_size ho))).trans ((Heap.get?_update_ne _ _ _ _ hb).trans (Heap.get?_push_of_some _ ho))) (Nat.le_refl _) hxs.symm ((hs.2 x hxs).trans (Heap.get?_update_self _ hx1 rfl)) hn'
theorem osa_more {K : Frag} {nm : Str} {tk : Tok} {v : Value} {x C dx : Addr} {fv : Array Value} {cd : ClassData} {m0 : Str → Option Value} {nl : List Str} (X : K.In hp) (hx : hp.get? x = some { cls := .ref C, dict := some dx, data := .fields fv }) (hns : hp.Ns1 dx m0) (hw : Within m0 nl) (hz : nl.length ≤ 1000) (hcd : clsIn K C = some cd) (hm : Mro cd.mro) (hh : cd.hasDict = true) (ha : findIn K (.ref C) nm = some none)
    (hq : ∀ h' tk', (∀ b o, b ≠ dx → hp.get? b = some o → h'.get? b = some o) → h'.Ns1 dx (fun y => if y = nm then some v else m0 y) → R (.ok (.ret .none)) ⟨h', gs, dr, tk', os⟩) :
    codeAny (model prog w) A (.call (.builtin "object.__setattr__") ⟨[.ref x, .str nm tk, v], []⟩) R ⟨hp, gs, dr, tn, os⟩ := by
  obtain ⟨oD, _, _, hoD, _, _⟩ := hns.count hw
  have I : InstAt hp x { cls := .ref C, dict := some dx, data := .fields fv } C (some oD) := ⟨hx, rfl, rfl, hoD⟩
  have S0 := F.store_object
  have l1 : Looks (model prog w) hp (isInstance (.ref x) (.type "object")) true := I.type.andThen (looks_mroIn X (by unfold mroIn; rw [hcd, Option.bind_some, if_neg (by rw [hm.ne]; decide), hm.ob]))
  refine codeAny_call_builtin S0.slot.plain S0.entry ?_
  refine @check_slot (model prog w) _ _ ⟨hp, gs, dr, tn, os⟩ "object.__setattr__" "object" "__setattr__" (.ref x) [.str nm tk, v] [] _ S0.kind S0.split l1 (S0.args (.ref x) (.str nm tk) v) ?_
  have l2 : Looks (model prog w) hp (mroOf (.ref C)) cd.mro := (looks_clsIn X hcd).andThen .now
  have l3 : Looks (model prog w) hp (storeTaker? none) none := .now
  have l4 : Looks (model prog w) hp (classData C) cd := looks_clsIn X hcd
  rw [osa_eq, refuse_eq]
  refine wpAny_bind (wpAny_bind (I.type.at (wpAny_bind (l2.at ?_)))); rw [hm.ps]
  refine wpAny_pure (wpAny_bind (I.type.at (wpAny_bind ((looks_findIn X ha).at (wpAny_bind (l3.at ?_))))))
  show wpAny _ _ (storeInOwnDict (.ref x) (.ref C) (.str nm tk) nm v false) _ _ _
  obtain ⟨c1, c2, c3, c4, c5, c6, c7, c8, c9, c10, c11⟩ := cd
  have hh' : c6 = true := hh
  subst hh'
  unfold storeInOwnDict ownDictForStores
  repeat (first | with_reducible refine OEX.store_in_old hns hw hz ?_ | with_reducible refine wpAny_loadPart_at hx ?_ | with_reducible refine l4.at ?_ | wp_step)
  intro h' tk' hn' hs
  exact hq h' tk' (fun b o hb ho => (hs.2 b hb).trans ho) hn'
end
end GEX
end PySem
namespace L2
open PySem PySem.Spec PyProof.Rows PySem.W
/-- what the written part says of an own error class -/
structure OexG (K : PySem.W.Frag) (C : Addr) : Prop where
  cls : ∃ B newId initId bmB nm q N bs bm sn sub ab col dd k0 k1 k2 k3 k5, PySem.StoreFacts B bmB "object.__setattr__" "object" ∧ ExcBaseFacts B newId initId bmB ∧ K.lookup C = some (excClassObj nm q C N bs bm true sn sub ab col dd k0 k1 k2 k3 k5 newId) ∧ PySem.W.excTail bmB bm = true
  sa : PySem.W.findIn K (.ref C) "__setattr__" = some (some (.builtin "object.__setattr__"))
  exC : PySem.W.subIn K (.ref C) (.type "BaseException") = some true
  tyC : PySem.W.typeIn K (.ref C) = some (.type "type")
  kC : PySem.W.keepIn K (.ref C) = true
section
variable {X : Cx} {pins : List (Addr × Obj)} {σ : St} {H : Hp} {s : Shared} {a C dx : Addr} {f : Str} {y : V} {u : Value} {fs : List (Str × V)} {Q : Unit → Shared → Prop} {E : Value → Shared → Prop} {A : Around}
theorem OexG.look {K : PySem.W.Frag} {C : Addr} (T : OexG K C) : ∃ cd, PySem.W.clsIn K C = some cd ∧ PySem.GEX.Mro cd.mro ∧ cd.hasDict = true := by
  obtain ⟨B, nI, iI, bmB, nm, q, N, bs, bm, sn, sub, ab, col, dd, k0, k1, k2, k3, k5, SF, _, hC, hb⟩ := T.cls
  refine ⟨{ name := nm, bases := bs, mro := .ref C :: bm, ns := N, qualname := q, hasDict := true, slotNames := sn, subclasses := sub, abstract := ab, collection := col, hasDel := false }, ?_, PySem.GEX.mro_of SF hb C, rfl⟩
  unfold PySem.W.clsIn
  rw [hC] <;> rfl
/-- self.f = y, none there as yet -/
theorem ostG_new (T : OexG X.K C) (I : Inv X pins σ H s) (e : H a = some (exo a C none)) (hno : PySem.W.findIn X.K (.ref C) f = some none) (ry : RelV y u)
    (k : ∀ dx s', H dx = none → dx ≠ a → Inv X pins σ (upd (upd H dx (exd dx [(f, y)])) a (exo a C (some dx))) s' → Q () s') : wpAny (model X.prog X.w) A (setAttr (.ref a) f u) Q E s := by
  obtain ⟨cd, hcd, hmr, hdc⟩ := T.look
  obtain ⟨t1, ho⟩ := exo_at I.hok e
  obtain ⟨h0, gs, dr, tn, os⟩ := s
  refine PySem.W.set_plain I.kIn (ox := ⟨.ref C, none, .fields #[.ref t1, .none, .none, .none, .bool false, .none], #[]⟩) (od := none) ⟨ho, rfl, rfl, trivial⟩ T.sa ?_
  refine PySem.GEX.osa_first I.kIn ho hcd hmr hdc hno fun h' tk' dx kp dn dne hx hn => ?_
  have dfree : H dx = none := I.hok.fresh dn
  have low : ∀ {b : Addr} {o : Obj}, h0.get? b = some o → b ≠ dx := fun q => Nat.ne_of_lt (Nat.lt_of_lt_of_le (Heap.lt_size q) dn)
  have apart : ∀ {b : Addr}, H b = none → b ≠ a := fun {b} n z => by subst z; rw [e] at n; cases n
  have U1 : Un X.fs [] H (upd (upd H dx (exd dx [(f, y)])) a (exo a C (some dx))) h0 h' := by
    refine ⟨fun b o q n _ _ => kp b o (apart n) q, fun b o q n _ _ => ⟨o.slots, kp b o (apart n) q⟩, fun b o q n _ => ?_, fun b o q _ => ?_, fun b xs q => ?_, fun b o v q => ?_, fun b ps q => ⟨#[], ?_⟩⟩
    · rw [upd_ne (apart n), upd_ne (low q)]; exact n
    · by_cases hb : b = a
      · subst hb; exact ⟨_, hx⟩
      · exact ⟨o, kp b o hb q⟩
    · rw [upd_ne (at_ne e q exo_tup), upd_ne (ne_of_none q dfree)]; exact q
    · rw [upd_ne (at_ne e q exo_frz), upd_ne (ne_of_none q dfree)]; exact q
    · rw [upd_ne (at_ne e q exo_tbl), upd_ne (ne_of_none q dfree), q]; simp
  refine k dx _ dfree dne (I.un (t' := tk') U1 fun b o q => ?_)
  by_cases hb : b = a
  · subst hb; rw [upd_same] at q; cases q
    exact exo_ok hx
  · rw [upd_ne hb] at q
    by_cases hd : b = dx
    · subst hd; rw [upd_same] at q; cases q
      exact exd_ok hn (relO_put (fs := []) ry fun _ => True.intro)
    · rw [upd_ne hd] at q
      refine (I.hok b o q).stay (fun c v hc z => kp c v ?_ z) (fun c hc => ?_) (fun c xs hc => ?_)
      · rcases hc with rfl | hc
        · exact hb
        · exact at_ne e hc exo_own
      · rw [upd_ne (at_ne e hc exo_own), upd_ne (ne_of_none hc dfree)]; exact hc
      · rw [upd_ne (at_ne e hc exo_tup), upd_ne (ne_of_none hc dfree)]; exact hc
theorem ostG_old (T : OexG X.K C) (I : Inv X pins σ H s) (e : H a = some (exo a C (some dx))) (ed : H dx = some (exd dx fs)) (hl : fs.length ≤ 900) (hno : PySem.W.findIn X.K (.ref C) f = some none) (ry : RelV y u)
    (k : ∀ s', Inv X pins σ (upd H dx (exd dx ((f, y) :: fs))) s' → Q () s') : wpAny (model X.prog X.w) A (setAttr (.ref a) f u) Q E s := by
  obtain ⟨cd, hcd, hmr, hdc⟩ := T.look
  obtain ⟨t1, ho⟩ := exo_at I.hok e
  obtain ⟨mA, hns, rel⟩ := exd_at I.hok ed
  have win := within_of rel
  obtain ⟨oD, _, _, hoD, _, _⟩ := hns.count win
  obtain ⟨h0, gs, dr, tn, os⟩ := s
  refine PySem.W.set_plain I.kIn (ox := ⟨.ref C, some dx, .fields #[.ref t1, .none, .none, .none, .bool false, .none], #[]⟩) (od := some oD) ⟨ho, rfl, rfl, hoD⟩ T.sa ?_
  refine PySem.GEX.osa_more I.kIn ho hns win (by rw [List.length_map]; omega) hcd hmr hdc hno fun h' tk' kp hn => ?_
  have there : ∃ o, h'.get? dx = some o := by
    obtain ⟨o, _, _, e', _⟩ := hn
    exact ⟨o, e'⟩
  exact k _ (I.write (t' := tk') (x := dx) (e := dx) (o := exd dx ((f, y) :: fs)) (by rw [ed]; exact True.intro) (.inl rfl) kp there (exd_ok hn (relO_put ry rel)))
end
/-- self.f = e, self an error being made -/
def tOstG (K : PySem.W.Frag) (f : Str) (to te : TE) : TS := fun D σ H => te σ H fun y H1 => to σ H1 fun x H2 => ∃ a C : Addr, x = .ref a ∧ OexG K C ∧ PySem.W.findIn K (.ref C) f = some none ∧
  ((H2 a = some (exo a C none) ∧ ∀ dx, H2 dx = none → dx ≠ a → D.nx σ (upd (upd H2 dx (exd dx [(f, y)])) a (exo a C (some dx)))) ∨
    ∃ (dx : Addr) (fs : List (Str × V)), H2 a = some (exo a C (some dx)) ∧ H2 dx = some (exd dx fs) ∧ fs.length ≤ 900 ∧ D.nx σ (upd H2 dx (exd dx ((f, y) :: fs))))
section
variable {X : Cx} {o e : Expr} {es : List Expr} {to te : TE} {ta : TA} {f : Str} {p p' pos : Pos}
theorem ps_ostG (ho : PE X o to) (he : PE X e te) (hs : swapsWith e (some (.Attribute o f p')) pos.line X.env = pure false := by rfl) : PS X (.Assign [.Attribute o f p'] e pos) (tOstG X.K f to te) := by
  refine ⟨fun pins s σ H D I h => plainObj_wpAny_Assign_Attribute (thn (he.run pins s σ H _ I h) fun v s1 ⟨y, H1, I1, r1, q1⟩ => thn (ho.run pins s1 σ H1 _ I1 q1) fun u s2 ⟨x, H2, I2, r2, a, C, ex, T, hno, q⟩ => ?_) hs⟩
  subst ex
  cases (show u = Value.ref a from r2)
  rcases q with ⟨ea, q⟩ | ⟨dx, fs, ea, ed, hl, q⟩
  · exact ostG_new T I2 ea hno r1 fun dx _ n ne J => ⟨σ, _, J, q dx n ne⟩
  · exact ostG_old T I2 ea ed hl hno r1 fun _ J => ⟨σ, _, J, q⟩
/-- C(e, ..) -/
theorem pmk_oexG {CX : CXT} {x : Str} {C fI : Addr} {k : Nat} {sp : Sp} (T : OexG X.K C) (iC : PySem.W.findIn X.K (.ref C) "__init__" = some (some (.ref fI))) (tI : PySem.W.typeIn X.K (.ref fI) = some (.type "function"))
    (F1 : FnR X.prog X.w X.K X.mg X.base CX k fI sp) (hr : Room (k + 1) X.A) (hx : Passes CX X (fun _ _ _ => False)) (hg : Gl X x) (hm : X.mg x = some (.ref C)) (ha : PA X (e :: es) ta)
    (hdb : (x == ("__debug__" : Str)) = false := by decide) (he : starEach (e :: es) X.env = (false, eval e X.env) :: starEach es X.env := by rfl) (hpl : (backTo pos (starEach es X.env)).any (·.1) = false := by rfl) :
    PMk X (.Call (.Name x p) (e :: es) [] pos) (tMkO C sp [] ta) := by
  intro pins s σ H Q I h
  obtain ⟨B, nI, iI, bmB, nm, q, N, bs, bm, sn, sub, ab, col, dd, k0, k1, k2, k3, k5, _, BF, hC, hbm⟩ := T.cls
  refine wpAny_Call_Name_kw (ld_glob I hg hm ?_ hdb)
  refine PySem.W.callWith_K (h₀ := X.base) I.ok.mod.kin T.kC (thn (ha.run pos pins s σ H _ I h) fun us s1 ⟨vs, H1, I1, r1, hz, q1⟩ => ⟨I1.kIn, ?_⟩) he hpl
  show wpAny _ _ (call (.ref C) us) _ _ _
  obtain ⟨h0, gs, dr, tn, os⟩ := s1
  have up : h0.objs.size ≤ h0.objs.size + 1 := Nat.le_succ _
  have hq := q1 (h0.objs.size + 1) (I1.hok.fresh up)
  rw [List.append_nil] at hq
  have kk : ∀ b o, h0.get? b = some o → ((h0.push (PySem.W.kdv_tup us)).push (PySem.HandSPX.excO C h0.objs.size)).get? b = some o := fun b o z => Heap.get?_push_of_some _ (Heap.get?_push_of_some _ z)
  have there : ((h0.push (PySem.W.kdv_tup us)).push (PySem.HandSPX.excO C h0.objs.size)).get? (h0.objs.size + 1) = some (PySem.HandSPX.excO C h0.objs.size) := by heap_get
  have I2 : Inv X pins σ (upd H1 (h0.objs.size + 1) (exo (h0.objs.size + 1) C none)) ⟨(h0.push (PySem.W.kdv_tup us)).push (PySem.HandSPX.excO C h0.objs.size), gs, dr, tn, os⟩ := I1.laid (t' := tn) kk up (exo_ok there)
  have r2 : Vals (V.ref (h0.objs.size + 1) :: vs) (Value.ref (h0.objs.size + 1) :: us) := .cons rfl r1
  have hus : us.length ≤ sizeLine := by rw [← Paired.length r1, sizeLine_eq]; omega
  refine wpAny_call (PySem.HandSPX.call_own BF (fun Y => PySem.W.excTail_contains Y bm hbm) (I1.kIn _ _ hC) (PySem.W.looks_findIn I1.kIn iC) (fun self => PySem.W.bind_fn I1.kIn self tI) hus ?_)
  refine codeAny_mono (F1 _ X.stack _ _ (Value.ref (h0.objs.size + 1) :: us) _ _ (fun _ _ _ => False) (hr.make C us []) (I2.env0.make C us []) r2 hq) fun r s' hq' => ?_
  cases r with
  | error er => exact hx pins σ _ _ er s' I2 hq'
  | ok fl =>
    cases fl with
    | ret u =>
      obtain ⟨v, H2, os2, bare2, un2, hok2, rv, ev, d, fs, ea, ed, hd1, q2⟩ := hq'
      subst ev
      obtain ⟨h2, g2, d2, t2, os'⟩ := s'
      exact ⟨rv, mk_end (raises_own T.exC T.tyC) I1 up kk un2 hok2 os2 bare2 ea ed hd1 q2⟩
    | next => exact False.elim hq'
    | brk => exact False.elim hq'
    | cont => exact False.elim hq'
end
end L2
namespace U
open PySem PySem.Spec PyProof.Rows L2 StX
section
variable {P : Program} {w : World} {K : PySem.W.Frag} {mg : Str → Option Value} {base : Heap}
/-- a def that may raise -/
theorem FnAt.okX {x qual : Str} {st : Stmt} {f : Addr} {N ps : List Str} {k : Nat} {sp : Sp} (A : FnAt K x qual st f ps) (S : FnScope N ps (defScope st)) (len : ∀ vs H Q E, sp vs H Q E → vs.length = ps.length)
    (hbody : ∀ (cdv : Value) (A : Around) (outer : List Env) (s : Shared) (H : Hp) (vs : List V) (Q : VK) (E : XK), Room k (A.deeper (envOfC qual (defScope st) s.heap.objs.size f cdv)) → sp vs H Q E →
      ∃ t, PSs (cxOf (L2.CX P w) P w K mg base N qual (defScope st) f cdv A outer s H E) (defBody st) t ∧ t { nx := fun _ H' => Q .non H', rt := Q } (start N vs) H) : FnR P w K mg base (L2.CX P w) (k + 1) f sp := by
  obtain ⟨fd, F, B⟩ := A.ex
  have R := (F.okX (P := P) (w := w) (mg := mg) (base := base) S len hbody).raw B .nil
  exact R.imp fun vs H Q E h => by rw [List.append_nil]; exact h
end
end U
namespace U
open PySem PySem.Spec PyProof.Rows L2 StX
section
variable {X : Cx} {CX : CXT} {e : Expr} {es : List Expr} {te : TE} {t : TA} {p apos cpos pos : Pos} {k i : Nat} {f : Addr} {sp : Sp} {x : Str}
/-- d.update(e), two dicts -/
def rUpdD : V → List V → Hp → VK → Prop := fun x vs H Q => ∃ a b ks ls, x = .ref a ∧ vs = [.ref b] ∧ a ≠ b ∧ H a = some (.dK ks) ∧ H b = some (.dK ls) ∧ ks.length + ls.length ≤ sizeLine ∧ Q .non (upd H a (.dK (mergeK ks ls)))
theorem mt_updD : MtR X "dict.update" rUpdD := by
  intro pins s σ H x vs v us Q I rx rv h
  obtain ⟨a, b, ks, ls, rfl, rfl, hab, ea, eb, hz, q⟩ := h
  cases (show v = Value.ref a from rx)
  obtain ⟨u, rfl, ru⟩ := rv.one
  cases (show u = Value.ref b from ru)
  obtain ⟨z1, ya, va, ra, da⟩ := (show ObjOk X.prog X.w H s.heap a (.dK ks) from I.hok a _ ea)
  obtain ⟨z2, yb, vb, rb, db⟩ := (show ObjOk X.prog X.w H s.heap b (.dK ls) from I.hok b _ eb)
  refine call_meetsIn PySem.F.slot_dict_update da.typeIs PySem.F.entry_dict_update (PySem.F.args_dict_update_2 _ _) (meets_dict_update (mixKind X.prog X.w) a b hab yb) ⟨va, vb, da, db, by rw [← ra.length, ← rb.length]; exact hz, fun h' d2 _ k2 => ?_⟩
  have there : ∃ o, h'.get? a = some o := by
    obtain ⟨o, _, _, e', _⟩ := id d2
    exact ⟨o, e'⟩
  refine ⟨.non, _, I.write (t' := s.toks) (x := a) (e := a) (o := .dK (mergeK ks ls)) (by rw [ea]; exact True.intro) (.inl rfl) (fun c o hc e => (k2.2 c hc).trans e) there ?_, rfl, q⟩
  exact ⟨Nat.le_trans (length_mergeK ls ks) hz, ya, _, rb.merge ra, d2⟩
end
end U
namespace U
open PySem PySem.Spec PyProof.Rows L2
/-- e, and what it gives is locked for good -/
def tFrz (t : TE) : TE := fun σ H Q => t σ H fun x H1 => ∃ d u, x = .ref d ∧ H1 d = some u ∧ Mut (some u) ∧ ∀ od, Q x (upd H1 d (.frz od u))
theorem pe_frz {X : Cx} {e : Expr} {t : TE} (h : PE X e t) : PE X e (tFrz t) := by
  refine ⟨fun pins s σ H Q I hw => thn (h.run pins s σ H _ I hw) fun v s1 ⟨x, H1, I1, r, d, u, ex, hd, mu, q⟩ => ?_⟩
  obtain ⟨od, I2⟩ := I1.lock hd mu
  exact ⟨x, _, I2, r, q od⟩
section
variable {P : Program} {w : World} {K : PySem.W.Frag} {mg : Str → Option Value} {base : Heap}
/-- a def that may raise, called where it does not -/
theorem fnR_calm {k : Nat} {f : Addr} {sp : Sp} (F : FnR P w K mg base (L2.CX P w) k f sp) : FnR P w K mg base CX0 k f (fun vs H Q _ => sp vs H Q E0) := by
  intro A outer s H us vs Q E hr e0 r h
  refine codeAny_mono (F A outer s H us vs Q E0 hr e0 r h) fun r s' hq => ?_
  cases r with
  | error e =>
    obtain ⟨_, _, _, _, _, _, _, _, _, _, _, _, z⟩ := hq
    exact z.elim
  | ok fl => cases fl <;> exact hq
end
/-! ### own errors with one or two fields -/
def spIni1 (C : Addr) (f : Str) : Sp := fun vs H Q _ => ∃ (a : Addr) (v : V), vs = [.ref a, v] ∧ H a = some (exo a C none) ∧ ∀ dx, H dx = none → dx ≠ a → Q .non (upd (upd H dx (exd dx [(f, v)])) a (exo a C (some dx)))
theorem mk_one {C : Addr} {f : Str} {v : V} {H : Hp} {Q : XK} (h : ∀ d, H d = none → Q (.ref C) (some d) (upd H d (.xd [(f, v)]))) :
    [v].length ≤ 1000 ∧ ∀ a, H a = none → spIni1 C f (.ref a :: ([v] ++ [])) (upd H a (exo a C none))
      (fun z H2 => z = .non ∧ ∃ (d : Addr) (fs : List (Str × V)), H2 a = some (exo a C (some d)) ∧ H2 d = some (exd d fs) ∧ H d = none ∧ Q (.ref C) (some d) (upd (del H2 a) d (.xd fs))) (fun _ _ _ => False) := by
  refine ⟨(by show 1 ≤ 1000; decide), fun a ha => ⟨a, v, rfl, upd_same, fun dx hd ne => ⟨rfl, dx, [(f, v)], upd_same, ?_, ?_, ?_⟩⟩⟩
  · rw [upd_ne ne, upd_same]
  · rw [upd_ne ne] at hd; exact hd
  · rw [upd_ne ne] at hd
    have e : upd (del (upd (upd (upd H a (exo a C none)) dx (exd dx [(f, v)])) a (exo a C (some dx))) a) dx (.xd [(f, v)]) = upd H dx (.xd [(f, v)]) := by
      funext b
      by_cases h1 : b = dx
      · subst h1; rw [upd_same, upd_same]
      · rw [upd_ne h1, upd_ne h1]
        by_cases h2 : b = a
        · subst h2
          rw [ha]
          unfold del
          simp
        · unfold del
          simp only [h2, if_false]
          rw [upd_ne h2, upd_ne h1, upd_ne h2]
    rw [e]
    exact h dx hd
end U
namespace U
open PySem PySem.Spec PyProof.Rows L2
end U
namespace U
open PySem PySem.Spec PyProof.Rows L2 StX
/-! ### defs that are called where no repr runs around them -/
def FnG (P : Program) (w : World) (K : PySem.W.Frag) (mg : Str → Option Value) (base : Heap) (CX : CXT) (k : Nat) (f : Addr) (sp : Sp) : Prop :=
  ∀ (A : Around) (outer : List Env) (s : Shared) (H : Hp) (us : List Value) (vs : List V) (Q : VK) (E : XK), A.guards = some [] → Room k A → Env0 P w K mg base A outer s H → Vals vs us → sp vs H Q E → codeAny (model P w) A (.call (.ref f) ⟨us, []⟩) (CR CX outer P w H s Q E) s
section
variable {P : Program} {w : World} {K : PySem.W.Frag} {mg : Str → Option Value} {base : Heap} {CX : CXT} {j k : Nat} {f : Addr} {sp sp' : Sp}
theorem FnG.mono (F : FnG P w K mg base CX j f sp) (h : j ≤ k) : FnG P w K mg base CX k f sp := fun A outer s H us vs Q E g hr => F A outer s H us vs Q E g (hr.mono h)
theorem FnG.imp (F : FnG P w K mg base CX k f sp) (h : ∀ vs H Q E, sp' vs H Q E → sp vs H Q E) : FnG P w K mg base CX k f sp' := fun A outer s H us vs Q E g hr e0 r z => F A outer s H us vs Q E g hr e0 r (h _ _ _ _ z)
/-- the body's walk, with what is around -/
theorem bodyG {x qual : Str} {st : Stmt} {fd : FuncData} {N ps : List Str} (F : Fun K x qual st f fd) (S : FnScope N ps (defScope st)) (len : ∀ vs H Q E, sp vs H Q E → vs.length = ps.length)
    (hbody : ∀ (cdv : Value) (A : Around) (outer : List Env) (s : Shared) (H : Hp) (vs : List V) (Q : VK) (E : XK), A.guards = some [] → Room k (A.deeper (envOfC qual (defScope st) s.heap.objs.size f cdv)) → sp vs H Q E →
      ∃ t, PSs (cxOf CX P w K mg base N qual (defScope st) f cdv A outer s H E) (defBody st) t ∧ t { nx := fun _ H' => Q .non H', rt := Q } (start N vs) H)
    (A : Around) (outer : List Env) (s : Shared) (H : Hp) (args : Args) (us : List Value) (vs : List V) (Q : VK) (E : XK) (g : A.guards = some []) (hr : Room (k + 1) A) (e0 : Env0 P w K mg base A outer s H) (hb : BindsTo s fd args (ps.zip us)) (r : Vals vs us) (hs : sp vs H Q E) :
    codeAny (model P w) A (.call (.ref f) args) (CR CX outer P w H s Q E) s := by
  obtain ⟨oc, od, kV, doc, pm, an, cdv, ct, osl, rfl, lk, hcd⟩ := F.ex
  have hl := len _ _ _ _ hs
  have kin : K.In s.heap := e0.mod.kin.keeps fun b o e => (e0.bs b o e).1
  have lim : s.heap.NoLimit := e0.mod.nolimit.keeps fun b o e => (e0.bs b o e).1
  have names : ∀ y ∈ ps.zip us, (defScope st).names.lookup y.1 = some .local ∨ ((defScope st).names.lookup y.1 = some .cell ∧ ((cellsFrom (s.heap.objs.size + 1) (defScope st).names []).lookup y.1).isSome = true) := by
    rintro ⟨n, v⟩ hy
    rcases S.par n (List.of_mem_zip hy).1 with q | q
    · exact .inl q
    · exact .inr ⟨q, PySem.W.cellsFrom_some _ _ _ (.inl q)⟩
  refine codeAny_call_function hr.depth (kin _ _ lk) rfl S.co S.gen rfl (PySem.W.codeRec_of kin hcd) (hb _ _ _ _ ?_)
  refine wpAny_newFunctionEnv_cells S.kind names fun env he s1 z => ?_
  subst he
  refine ⟨lim.keeps z.toInCall.keep, codeAny_func ?_⟩
  obtain ⟨t, ht, hq⟩ := hbody cdv A outer s H vs Q E g (hr.deeper _) hs
  have I : Inv (cxOf CX P w K mg base N qual (defScope st) f cdv A outer s H E) [] (start N vs) H s1 := inv_start S hr.hd e0 hl r z
  refine wpAny_mono (ht.run [] s1 (start N vs) H _ I hq) (fun fl s' h' => ?_) fun _ _ h' => h'
  match fl, h' with
  | .ret u, ⟨v, σ', H', J, rv, q⟩ => exact ⟨v, H', J.os, J.bare, J.base, J.hok, rv, q⟩
  | .next, ⟨σ', H', J, q⟩ => exact ⟨.non, H', J.os, J.bare, J.base, J.hok, rfl, q⟩
  | .brk, ⟨_, _, _, q⟩ => exact q.elim
  | .cont, ⟨_, _, _, q⟩ => exact q.elim
theorem FnAt.okG {x qual : Str} {st : Stmt} {N ps : List Str} (B : FnAt K x qual st f ps) (S : FnScope N ps (defScope st)) (len : ∀ vs H Q E, sp vs H Q E → vs.length = ps.length)
    (hbody : ∀ (cdv : Value) (A : Around) (outer : List Env) (s : Shared) (H : Hp) (vs : List V) (Q : VK) (E : XK), A.guards = some [] → Room k (A.deeper (envOfC qual (defScope st) s.heap.objs.size f cdv)) → sp vs H Q E →
      ∃ t, PSs (cxOf CX0 P w K mg base N qual (defScope st) f cdv A outer s H E).nox (defBody st) t ∧ t { nx := fun _ H' => Q .non H', rt := Q } (start N vs) H) : FnG P w K mg base CX0 (k + 1) f sp := by
  obtain ⟨fd, F, bi⟩ := B.ex
  intro A outer s H us vs Q E g hr e0 r hs
  have hl : (us ++ []).length = ps.length := by rw [List.append_nil, ← r.length]; exact len _ _ _ _ hs
  refine bodyG F S len (fun cdv A outer s H vs Q E g hr hs => ?_) A outer s H ⟨us, []⟩ us vs Q E g hr e0 ?_ r hs
  · obtain ⟨t, h, q⟩ := hbody cdv A outer s H vs Q E g hr hs
    exact ⟨t, h.nox, q⟩
  · have := bi s us (e0.mod.kin.keeps fun b o e => (e0.bs b o e).1) hl
    rw [List.append_nil] at this
    exact this
end
section
variable {X : Cx} {CX : CXT} {pins : List (Addr × Obj)} {σ : L2.St} {H : Hp} {s : Shared} {f : Addr} {k : Nat} {sp : Sp} {x : Str} {e : Expr} {es : List Expr} {t : TA} {pp pos : Pos}
theorem run_G {Q : VK} {us : List Value} {vs : List V} {E : XK} (F : FnG X.prog X.w X.K X.mg X.base CX k f sp) (g : X.A.guards = some []) (hr : Room k X.A) (hx : PassesAt CX X σ E) (I : Inv X pins σ H s) (r : Vals vs us) (h : sp vs H Q E) :
    codeAny (model X.prog X.w) X.A (.call (.ref f) ⟨us, []⟩) (fun r s' => match r with | .ok (.ret v) => EP X pins σ Q v s' | .ok _ => False | .error e => X.xe e s') s := by
  refine codeAny_mono (F X.A X.stack s H us vs Q E g hr I.env0 r h) fun z s' hq => ?_
  match z, hq with
  | .error er, hq => exact hx pins H s er s' I hq
  | .ok (.ret w), hq => exact I.after hq
  | .ok .next, hq => exact hq.elim
  | .ok .brk, hq => exact hq.elim
  | .ok .cont, hq => exact hq.elim
/-- x(e, ..), x such a def -/
theorem pe_callG {E : XK} (F : FnG X.prog X.w X.K X.mg X.base CX k f sp) (g : X.A.guards = some []) (hr : Room k X.A) (hk : PySem.W.keepIn X.K (.ref f) = true) (hg : Gl X x) (hm : X.mg x = some (.ref f)) (hx : Passes CX X E) (ha : PA X (e :: es) t) (hdb : (x == ("__debug__" : Str)) = false := by decide)
    (he : starEach (e :: es) X.env = (false, eval e X.env) :: starEach es X.env := by rfl) (hpl : (backTo pos (starEach es X.env)).any (·.1) = false := by rfl) : PE X (.Call (.Name x pp) (e :: es) [] pos) (tCallR sp E t) := by
  refine ⟨fun pins s σ H Q I h => wpAny_Call_Name_kw (ld_glob I hg hm ?_ hdb)⟩
  exact PySem.W.callWith_K (h₀ := X.base) I.ok.mod.kin hk (thn (ha.run pos pins s σ H _ I h) fun us s1 ⟨vs, H1, I1, r, q⟩ => ⟨I1.kIn, wpAny_call (run_G F g hr (fun pins H s e s' => hx pins σ H s e s') I1 r q)⟩) he hpl
/-! ### repr -/
/-- repr(v), v a None, a bool, an int, a text, lists and tuples of them -/
def rRepr (K : PySem.W.Frag) : List V → Hp → VK → Prop := fun xs H Q => ∃ v d, xs = [v] ∧ Dp K H v d ∧ d.showable = true ∧ d.hasDict = false ∧ d.depth ≤ 60 ∧ d.shown.length ≤ sizeLine ∧ Q (.str d.shown) H
theorem call_repr (g : X.A.guards = some []) (hu : X.A.units + 64 < cLine) : CallR X (.builtin "repr") (rRepr X.K) := by
  intro pins s σ H xs us Q I r h
  obtain ⟨v, d, rfl, hd, hs, hn, hdp, hz, q⟩ := h
  obtain ⟨u, rfl, ru⟩ := r.one
  obtain ⟨as, rd⟩ := Dp.reads I d v u hd ru
  cases rd with
  | none =>
    simp only [PyData.shown] at q
    exact PySem.P.repr_of_none ⟨.str _, H, I.tok _, ⟨_, rfl⟩, q⟩
  | bool b =>
    simp only [PyData.shown] at q
    exact PySem.P.repr_of_bool ⟨.str _, H, I.tok _, ⟨_, rfl⟩, q⟩
  | int i t =>
    simp only [PyData.shown] at q
    exact PySem.P.repr_of_int (by simpa [PyData.showable] using hs) ⟨.str _, H, I.tok _, ⟨_, rfl⟩, q⟩
  | str x t =>
    simp only [PyData.shown] at q hz
    exact PySem.P.repr_of_str ⟨.str _, H, I.tok _, ⟨_, rfl⟩, q⟩ hz
  | list h1 h2 h3 h4 => exact repr_of_reads' (.list h1 h2 h3 h4) hs (PyData.noDict_hsm hn) g (by omega) (fun _ _ e => e) (fun h' u tk hk => ⟨.str _, H, I.kept (t' := tk) hk, ⟨_, rfl⟩, q⟩) hz
  | tuple h1 h2 h3 h4 => exact repr_of_reads' (.tuple h1 h2 h3 h4) hs (PyData.noDict_hsm hn) g (by omega) (fun _ _ e => e) (fun h' u tk hk => ⟨.str _, H, I.kept (t' := tk) hk, ⟨_, rfl⟩, q⟩) hz
  | dict h1 h2 h3 h4 h5 => simp [PyData.hasDict] at hn
/-! ### a dict of ints, shown -/
end
end U
namespace U
open PySem PySem.Spec PyProof.Rows L2 StX
/-- what holds no other object -/
inductive Sc : V → PyData → Prop
  | non : Sc .non .none
  | bl (b : Bool) : Sc (.bl b) (.bool b)
  | int (i : Int) : Sc (.int i) (.int i)
  | str (x : Str) : Sc (.str x) (.str x)
theorem Sc.reads {h : Heap} {v : V} {d : PyData} {u : Value} (s : Sc v d) (r : RelV v u) : Reads h u d [] := by
  cases s with
  | non => cases r; exact .none
  | bl b => cases r; exact .bool b
  | int i => obtain ⟨t, rfl⟩ := r; exact .int i t
  | str x => obtain ⟨t, rfl⟩ := r; exact .str x t
section
variable {X : Cx} {CX : CXT} {k : Nat} {f C : Addr} {sp : Sp} {E : XK} {n : Nat} {g : Addr}
/-- repr(x), x an instance with its own __repr__ -/
def rReprO (C : Addr) (sp : Sp) (E : XK) : List V → Hp → VK → Prop := fun xs H Q => ∃ a dx fs, xs = [.ref a] ∧ H a = some (.ins C dx fs) ∧ sp [.ref a] H (fun v H' => ∃ z : Str, v = .str z ∧ Q (.str z) H') E
theorem call_reprO (gd : X.A.guards = some []) (hs : PySem.W.findIn X.K (.ref C) "__repr__" = some (some (.ref g))) (hf : PySem.W.isFn X.K (.ref g) = true) (F : FnG X.prog X.w X.K X.mg X.base CX n g sp) (hr : Room (n + 1) X.A) (hx : Passes CX X E) : CallR X (.builtin "repr") (rReprO C sp E) := by
  intro pins s σ H xs us Q I r h
  obtain ⟨a, dx, fs, rfl, ea, q⟩ := h
  obtain ⟨u, rfl, ru⟩ := r.one
  cases (show u = Value.ref a from ru)
  obtain ⟨ox, od, J⟩ := ins_inst I ea
  obtain ⟨m, hF⟩ := I.fr
  refine PySem.W.repr_K (by have := hr.un; show X.A.units + 1 < cLine; omega) hF I.ok.mod.kin J hs hf ?_
  refine wpAny_call ?_
  refine codeAny_mono (F X.A.in1 X.stack s H [.ref a] [.ref a] _ E gd (Room.in1 hr) I.env0.in1 (.cons rfl .nil) q) fun z s' hq => ?_
  match z, hq with
  | .error er, hq => exact hx pins σ H s er s' I hq
  | .ok (.ret w), hq =>
    obtain ⟨v, H', I', rv, zt, ev, qz⟩ := I.after hq
    subst ev
    obtain ⟨tk, rfl⟩ := rv
    exact ⟨.str zt, H', I', ⟨tk, rfl⟩, qz⟩
  | .ok .next, hq => exact hq.elim
  | .ok .brk, hq => exact hq.elim
  | .ok .cont, hq => exact hq.elim
/-- x == y, x an instance of C, y a value of any known kind -/
def rEqV (K : PySem.W.Frag) (C : Addr) (sp : Sp) (E : XK) : R2 := fun x y H Q => ∃ a dx fs t, x = .ref a ∧ H a = some (.ins C dx fs) ∧ TyX K H y t ∧ PySem.W.notFirst K C t = true ∧ sp [x, y] H Q E
theorem op_eqV (hs : PySem.W.findIn X.K (.ref C) "__eq__" = some (some (.ref g))) (hf : PySem.W.isFn X.K (.ref g) = true) (F : FnR X.prog X.w X.K X.mg X.base CX n g sp) (hr : Room n X.A) (hx : Passes CX X E) : OpR X (compareOp .Eq) (rEqV X.K C sp E) := by
  intro pins s σ H x y v u Q I rx ry h
  obtain ⟨a, dx, vs, t, rfl, ha, ty, nf, q⟩ := h
  cases (show v = Value.ref a from rx)
  obtain ⟨ox, od, J⟩ := ins_inst I ha
  obtain ⟨Pq, Z, pq, _⟩ := kit_of I ry ty
  obtain ⟨m, hF⟩ := I.fr
  show wpAny _ _ (richCompare .Eq (.ref a) u) _ _ _
  refine PySem.W.cmp_K (op := .Eq) (tb := t) hr.units0 hF I.ok.mod.kin J (Z.ty _ _ I.kIn pq) nf hs hf ?_
  refine wpAny_mono (wpAny_call (run_fnR (us := [.ref a, u]) (vs := [.ref a, y]) F hr hx I (.cons rfl (.cons ry .nil)) q)) (fun w s' z => ?_) fun _ _ x => x
  obtain ⟨z', H', I', rz, qz⟩ := z
  exact SlX.cmpback rz ⟨z', H', I', rz, qz⟩
def rNeV (K : PySem.W.Frag) (C : Addr) (sp : Sp) (E : XK) : R2 := fun x y H Q => ∃ a dx fs t, x = .ref a ∧ H a = some (.ins C dx fs) ∧ TyX K H y t ∧ PySem.W.notFirst K C t = true ∧ sp [x, y] H (fun z H' => ∃ c, z = .bl c ∧ Q (.bl (!c)) H') E
theorem op_neV (oc : OwnC X.K C) (hne : PySem.W.findIn X.K (.ref C) "__ne__" = some (some (.builtin "object.__ne__"))) (hs : PySem.W.findIn X.K (.ref C) "__eq__" = some (some (.ref g))) (hf : PySem.W.isFn X.K (.ref g) = true) (F : FnR X.prog X.w X.K X.mg X.base CX n g sp)
    (hr : Room (n + 1) X.A) (hx : Passes CX X E) : OpR X (compareOp .NotEq) (rNeV X.K C sp E) := by
  intro pins s σ H x y v u Q I rx ry h
  obtain ⟨a, dx, vs, t, rfl, ha, ty, nf, q⟩ := h
  cases (show v = Value.ref a from rx)
  obtain ⟨ox, od, J⟩ := ins_inst I ha
  obtain ⟨Pq, Z, pq, _⟩ := kit_of I ry ty
  obtain ⟨m, hF⟩ := I.fr
  have hr1 : Room n X.A.in1 := Room.in1 hr
  refine PySem.W.my_ne_K (tb := t) (hu_of hr) hF I.ok.mod.kin J (Z.ty _ _ I.kIn pq) nf hne oc.cm hs hf ?_
  refine wpAny_mono (wpAny_call (SlX.run_at (us := [.ref a, u]) (ws := [.ref a, y]) F hr1 I.env0.in1 hx I (.cons rfl (.cons ry .nil)) q)) (fun w s' z => ?_) fun _ _ x => x
  obtain ⟨z', H', I', rz, c, ez, qz⟩ := z
  subst ez
  cases (show w = Value.bool c from rz)
  exact ⟨c, rfl, .bl (!c), H', I', rfl, qz⟩
end
end U
namespace U
open PySem PySem.Spec PyProof.Rows L2 StX
/-! ### the law's call, where no repr runs around it -/
section
variable {P : Program} {w : World} {K : PySem.W.Frag} {mg mb : Str → Option Value} {k : Nat} {fa sc : Addr} {sp : Sp} {s1 : Shared} {us : List Value} {ns : List Int}
/-- from an abstract heap that tracks at most the script -/
theorem law_core (inK : K.In s1.heap) (glob : s1.heap.Ns mainGlobals mg) (blt : s1.heap.Ns builtinsNs mb) (blt2 : ∀ x : Str, x ≠ "__name__" → mb x = bootBuiltins x) (lim : s1.heap.NoLimit) (gens : s1.gens = #[])
    (there : s1.heap.get? sc = some { cls := .type "list", data := .seq us.toArray }) (room : Room k callerA)
    (F : ∀ base : Heap, FnG P w K mg base CX0 k fa sp)
    (H : Hp) (only : Only H) (hok : HOk P w H s1.heap) (just : ∀ b, H b ≠ none → b = sc) (offK : H sc ≠ none → K.lookup sc = none)
    (prom : sp [.ref sc] H (fun v _ => v = .bl true) E0) :
    codeAny (model P w) callerA (.call (.ref fa) ⟨[.ref sc], []⟩) (fun r s' => r = .ok (.ret (.bool true)) ∧ OldK s1.heap s'.heap ∧ s'.os = s1.os ∧ AllBare s'.gens) s1 := by
  have isSc : ∀ {b : Addr} {u : HO}, H b = some u → b = sc := fun {b u} e => just b fun z => by rw [z] at e; cases e
  have free : ∀ {b : Addr} {o : Obj} {es : Array DictEntry} {ep : Nat}, s1.heap.get? b = some o → o.data = .dict es ep → H b = none := by
    intro b o es ep e d
    cases hb : H b with
    | none => rfl
    | some u =>
      have := isSc hb
      subst this
      rw [there] at e
      cases e
      exact absurd (show Data.seq us.toArray _ = Data.dict es ep from d) (by intro z; cases z)
  have spaces : ∀ {b : Addr} {m : Str → Option Value}, s1.heap.Ns b m → (hidT s1.heap H).Ns b m := by
    rintro b m ⟨o, es, ep, e, d, r⟩
    exact ⟨o, es, ep, hidT_get e (free e d), d, r⟩
  have inB : K.In (hidT s1.heap H) := by
    intro b o e
    refine hidT_get (inK b o e) ?_
    cases hb : H b with
    | none => rfl
    | some u =>
      have := isSc hb
      subst this
      have z := offK (by rw [hb]; intro z; cases z)
      rw [e] at z
      cases z
  have md : Mod K mg (hidT s1.heap H) := by
    obtain ⟨mc, l1, l2⟩ := lim
    exact ⟨inB, spaces glob, ⟨mb, spaces blt, blt2⟩, ⟨mc, spaces l1, l2⟩⟩
  have env : Env0 P w K mg (hidT s1.heap H) callerA [] s1 H := by
    refine ⟨rfl, md, fun b o e => of_hidT e, Nat.le_of_eq (hidT_size _ _), trivial, fun b hb => ?_, hok, .of_eq gens⟩
    exact absurd hb List.not_mem_nil
  refine codeAny_mono (F (hidT s1.heap H) callerA [] s1 H [.ref sc] [.ref sc] (fun v _ => v = .bl true) E0 rfl room env (.cons rfl .nil) prom) fun r s' h => ?_
  match r, h with
  | .error e, h => exact h.elim
  | .ok .next, h => exact h.elim
  | .ok .brk, h => exact h.elim
  | .ok .cont, h => exact h.elim
  | .ok (.ret u), ⟨v, H', os, bare, un, hok', rv, q⟩ =>
    subst q
    cases (show u = Value.bool true from rv)
    refine ⟨rfl, OldK.of_keep fun b o e => ?_, os, bare⟩
    cases hb : H b with
    | none => exact un.keep b o e hb (fun z => absurd z List.not_mem_nil) (by simp)
    | some u =>
      rcases only b with z | ⟨ob, xs, z⟩
      · rw [hb] at z
        cases z
      · have a1 := (hok b _ z).1
        have a2 := (hok' b _ (un.frzs b ob _ z)).1
        rw [e] at a1
        cases a1
        exact a2
theorem law_callG (inK : K.In s1.heap) (glob : s1.heap.Ns mainGlobals mg) (blt : s1.heap.Ns builtinsNs mb) (blt2 : ∀ x : Str, x ≠ "__name__" → mb x = bootBuiltins x) (lim : s1.heap.NoLimit) (gens : s1.gens = #[])
    (there : s1.heap.get? sc = some { cls := .type "list", data := .seq us.toArray }) (inS : IntsAre us ns) (len : ns.length ≤ sizeLine) (room : Room k callerA)
    (F : ∀ base : Heap, FnG P w K mg base CX0 k fa sp)
    (prom : ∀ H : Hp, SqL K H sc (ns.map V.int) → sp [.ref sc] H (fun v _ => v = .bl true) E0) :
    codeAny (model P w) callerA (.call (.ref fa) ⟨[.ref sc], []⟩) (fun r s' => r = .ok (.ret (.bool true)) ∧ OldK s1.heap s'.heap ∧ s'.os = s1.os ∧ AllBare s'.gens) s1 := by
  have rv := vals_ints inS
  have go := law_core (P := P) (w := w) (k := k) (fa := fa) (sp := sp) inK glob blt blt2 lim gens there room F
  cases hk : K.lookup sc with
  | some o =>
    have e := inK sc o hk
    rw [there] at e
    cases e
    refine go (fun _ => none) (fun _ => .inl rfl) (fun b u z => by cases (show (none : Option HO) = some u from z)) (fun b z => absurd rfl z) (fun z => absurd rfl z) (prom _ ?_)
    refine .inr ⟨_, us.toArray, _, hk, rfl, rfl, rfl, ?_, by simpa using rv⟩
    rw [List.size_toArray, inS.length]
    exact len
  | none =>
    have at_ : (fun b => if b = sc then some (HO.frz { cls := .type "list", data := .seq us.toArray } (.lst (ns.map V.int))) else none) sc = some (.frz { cls := .type "list", data := .seq us.toArray } (.lst (ns.map V.int))) := if_pos rfl
    refine go (fun b => if b = sc then some (.frz { cls := .type "list", data := .seq us.toArray } (.lst (ns.map V.int))) else none) (fun b => ?_) (fun b u z => ?_) (fun b z => ?_) (fun _ => hk) (prom _ (.inl (.inr ⟨_, at_⟩)))
    · by_cases hb : b = sc
      · subst hb
        exact .inr ⟨_, _, at_⟩
      · exact .inl (if_neg hb)
    · by_cases hb : b = sc
      · subst hb
        rw [at_] at z
        cases z
        refine ⟨there, ?_, us, _, rv, there⟩
        rw [List.length_map]
        exact len
      · have no := (if_neg hb).symm.trans z
        cases no
    · refine Classical.byContradiction fun hb => z (if_neg hb)
end
/-- the goal that k_head leaves, from the law's promise -/
theorem walkG {l : PySem.W.OpenLaw} {n k : Nat} {q : Program} {loose : List Str} {XP : (Str → Option Value) → Heap → Prop} {YP : World → Heap → Prop} {d : DefRec} {K : Params → PySem.W.Frag} {sp : PySem.W.Frag → Sp}
    (hn : l.most = some n) (hn2 : n ≤ sizeLine) (hdf : d.params.defaults = []) (room : Room k callerA) (hY : ∀ (w : World) (h : Heap), YP w h → (K w.params).In h)
    (F : ∀ (w : World) (mg : Str → Option Value) (fa : Addr) (h : Heap), (K w.params).In h → h.Ns mainGlobals mg → mg d.name = some (.ref fa) → ∀ base : Heap, FnG l.prog w (K w.params) mg base CX0 k fa (sp (K w.params)))
    (prom : ∀ (K : PySem.W.Frag) (H : Hp) (a : Addr) (ns : List Int), ns.length ≤ n → SqL K H a (ns.map V.int) → sp K [.ref a] H (fun v _ => v = .bl true) E0) :
    PySem.W.WalkO q loose XP YP l.row.toRowW d [] (fun f vs => PySem.call f vs) := by
  refine Att.attach_call hn hdf fun w s0 s1 mg mb fa o pm cd doc a vs ns G Y ho hd hcd hmg hobj hints hlen hg => ?_
  have inK := hY w _ Y
  exact law_callG inK G.T.g G.T.b G.T.builtins G.T.nolimit hg hobj hints (Nat.le_trans hlen hn2) room (F w mg fa _ inK G.T.g hmg) fun H hS => prom _ H a ns hlen hS
end U
namespace U
open PySem PySem.Spec PyProof.Rows L2 StX
/-! ### defs called while an exception is handled -/
end U
namespace U
open PySem PySem.Spec PyProof.Rows L2 StX
end U
namespace U
open PySem PySem.Spec PyProof.Rows L2 StX
end U
namespace U
open PySem PySem.Spec PyProof.Rows L2 StX PySem.W
end U
namespace U
open PySem PySem.Spec PyProof.Rows L2 StX
/-! ### x op i, the class's own, i an int -/
/-! ### list(d.items()), the dict locked or not -/
end U
namespace U
open PySem PySem.Spec PyProof.Rows L2
/-! ### several clauses 'except x as n' -/
end U
namespace U
open PySem L2
/-! ### facts of heaps, for the search -/
theorem carry {H H' : Hp} {a : Addr} {o : HO} (s : L2.Same H H') (h : H a = some o) : H' a = some o := s a o h
theorem carryNew {H : Hp} {p a : Addr} {o u : HO} (hp : H p = none) (h : H a = some u) : upd H p o a = some u := (Same.new hp) a u h
theorem freeUp {H : Hp} {p q : Addr} {o : HO} (h : upd H q o p = none) : H p = none := by
  by_cases e : p = q
  · subst e; rw [upd_same] at h; cases h
  · rw [upd_ne e] at h; exact h
theorem freeVia {H H' : Hp} {p : Addr} (s : L2.Same H H') (h : H' p = none) : H p = none := s.free h
theorem sameUp {H H1 : Hp} {p : Addr} {o : HO} (hp : H1 p = none) (s : L2.Same H H1) : L2.Same H (upd H1 p o) := s.trans (Same.new hp)
theorem sameVia {H H1 H2 : Hp} (b : L2.Same H1 H2) (a : L2.Same H H1) : L2.Same H H2 := a.trans b
theorem upd_facts {H H1 : Hp} {p : Addr} {o : HO} (h : upd H p o = H1) (n : H p = none) : L2.Same H H1 ∧ H1 p = some o := by
  subst h
  exact ⟨Same.new n, upd_same⟩
theorem nil_le : ([] : List V).length ≤ sizeLine := by decide
theorem one_le {a : V} : [a].length ≤ sizeLine := by show 1 ≤ sizeLine; decide
theorem two_le {a b : V} : [a, b].length ≤ sizeLine := by show 2 ≤ sizeLine; decide
theorem three_le {a b c : V} : [a, b, c].length ≤ sizeLine := by show 3 ≤ sizeLine; decide
theorem lt_line {n : Nat} (h : n ≤ 100000) : n < sizeLine := Nat.lt_of_le_of_lt h (by decide)
end U
namespace U
open PySem PySem.Spec PyProof.Rows L2 GQ PySem.SeqAt MeetsSeq MeetsSeq2 MeetsSeq3 SeqRoads2
open AutoSeq1 (wpAny_loadPart')
/-! ### defs with a star parameter -/
structure StarAt (K : PySem.W.Frag) (x qual : Str) (st : Stmt) (f : Addr) (ps : List Str) (pv : Str) : Prop where
  ex : ∃ fd, Fun K x qual st f fd ∧ ∀ us rest : List Value, us.length = ps.length → bindArgs fd ⟨us ++ rest, []⟩ = (newTuple rest >>= fun t => pure (ps.zip us ++ [(pv, t)]))
theorem StarAt.kp {K : PySem.W.Frag} {x qual : Str} {st : Stmt} {f : Addr} {ps : List Str} {pv : Str} (A : StarAt K x qual st f ps pv) : PySem.W.keepIn K (.ref f) = true := by
  obtain ⟨_, F, _⟩ := A.ex
  exact F.kp
/-- what is asked of the arguments: the named ones, then a new tuple of the rest -/
def spStar (n : Nat) (sp : Sp) : Sp := fun vs H Q E => ∃ ws rest, vs = ws ++ rest ∧ ws.length = n ∧ rest.length ≤ sizeLine ∧ ∀ p, H p = none → sp (ws ++ [V.ref p]) (upd H p (.tup rest)) Q E
section
variable {P : Program} {w : World} {K : PySem.W.Frag} {mg : Str → Option Value} {base : Heap} {x qual pv : Str} {st : Stmt} {f : Addr} {N ps : List Str} {k : Nat} {sp : Sp}
theorem StarAt.okX (B : StarAt K x qual st f ps pv) (S : FnScope N (ps ++ [pv]) (defScope st))
    (walk : ∀ (cdv : Value) (A : Around) (outer : List Env) (s : Shared) (H : Hp) (vs : List V) (Q : VK) (E : XK), Room k (A.deeper (envOfC qual (defScope st) s.heap.objs.size f cdv)) → sp vs H Q E →
      ∃ t, PSs (cxOf (L2.CX P w) P w K mg base N qual (defScope st) f cdv A outer s H E) (defBody st) t ∧ t { nx := fun _ H' => Q .non H', rt := Q } (start N vs) H) : FnR P w K mg base (L2.CX P w) (k + 1) f (spStar ps.length sp) := by
  obtain ⟨fd, F, hb⟩ := B.ex
  obtain ⟨oc, od, kV, doc, pm, an, cdv, ct, osl, rfl, lk, hcd⟩ := F.ex
  exact StX.fn_star lk hcd S StX.cxUp hb fun A outer s H vs Q E hr h => walk cdv A outer s H vs Q E hr h
theorem StarAt.ok (B : StarAt K x qual st f ps pv) (S : FnScope N (ps ++ [pv]) (defScope st))
    (walk : ∀ (cdv : Value) (A : Around) (outer : List Env) (s : Shared) (H : Hp) (vs : List V) (Q : VK) (E : XK), Room k (A.deeper (envOfC qual (defScope st) s.heap.objs.size f cdv)) → sp vs H Q E →
      ∃ t, PSs (cxOf CX0 P w K mg base N qual (defScope st) f cdv A outer s H E).nox (defBody st) t ∧ t { nx := fun _ H' => Q .non H', rt := Q } (start N vs) H) : FnR P w K mg base CX0 (k + 1) f (spStar ps.length sp) := by
  obtain ⟨fd, F, hb⟩ := B.ex
  obtain ⟨oc, od, kV, doc, pm, an, cdv, ct, osl, rfl, lk, hcd⟩ := F.ex
  refine StX.fn_star lk hcd S StX.cxUp_none hb fun A outer s H vs Q E hr h => ?_
  obtain ⟨t, a, b⟩ := walk cdv A outer s H vs Q E hr h
  exact ⟨t, a.nox, b⟩
end
/-! ### == by an own __eq__, inside lists and tuples -/
end U
namespace U
open PySem PySem.Spec PyProof.Rows L2 StX LamX
/-! ### defs with lambdas: the code object's place is told -/
structure CodeAt (K : PySem.W.Frag) (x qual : Str) (st : Stmt) (f c : Addr) (ps : List Str) : Prop where
  ex : ∃ (oc : Value) (od : Option Addr) (kV doc pm : Value) (an : Option Addr) (ct : Value) (osl : Array (Option Value)),
    K.lookup f = some ⟨oc, od, .func (PySem.W.fnOf x qual (defArgs st) (defBody st) (defScope st) .none kV doc pm an (.ref c) ct), osl⟩ ∧ PySem.W.codeIn K (.ref c) qual = true ∧ Binds K (PySem.W.fnOf x qual (defArgs st) (defBody st) (defScope st) .none kV doc pm an (.ref c) ct) ps []
section
variable {P : Program} {w : World} {K : PySem.W.Frag} {mg : Str → Option Value} {base : Heap} {k : Nat} {f c : Addr} {sp : Sp} {x qual : Str} {st : Stmt} {N ps : List Str}
theorem CodeAt.okG (B : CodeAt K x qual st f c ps) (S : FnScope N ps (defScope st)) (len : ∀ vs H Q E, sp vs H Q E → vs.length = ps.length)
    (walk : ∀ (A : Around) (outer : List Env) (s : Shared) (H : Hp) (vs : List V) (Q : VK) (E : XK), A.guards = some [] → Room k (A.deeper (envOfC qual (defScope st) s.heap.objs.size f (.ref c))) → sp vs H Q E →
      ∃ t, PSs (cxOf CX0 P w K mg base N qual (defScope st) f (.ref c) A outer s H E).nox (defBody st) t ∧ t { nx := fun _ H' => Q .non H', rt := Q } (start N vs) H) : FnG P w K mg base CX0 (k + 1) f sp := by
  obtain ⟨oc, od, kV, doc, pm, an, ct, osl, lk, hcd, bi⟩ := B.ex
  intro A outer s H us vs Q E g hr e0 r hs
  have hl := len _ _ _ _ hs
  have kin : K.In s.heap := e0.mod.kin.keeps fun b o e => (e0.bs b o e).1
  have lim : s.heap.NoLimit := e0.mod.nolimit.keeps fun b o e => (e0.bs b o e).1
  have names : ∀ y ∈ ps.zip us, (defScope st).names.lookup y.1 = some .local ∨ ((defScope st).names.lookup y.1 = some .cell ∧ ((cellsFrom (s.heap.objs.size + 1) (defScope st).names []).lookup y.1).isSome = true) := by
    rintro ⟨n, v⟩ hy
    rcases S.par n (List.of_mem_zip hy).1 with q | q
    · exact .inl q
    · exact .inr ⟨q, PySem.W.cellsFrom_some _ _ _ (.inl q)⟩
  have hb : BindsTo s (PySem.W.fnOf x qual (defArgs st) (defBody st) (defScope st) .none kV doc pm an (.ref c) ct) ⟨us, []⟩ (ps.zip us) := by
    have := bi s us kin (by rw [List.append_nil, ← r.length]; exact hl)
    rw [List.append_nil] at this
    exact this
  refine codeAny_call_function hr.depth (kin _ _ lk) rfl S.co S.gen rfl (PySem.W.codeRec_of kin hcd) (hb _ _ _ _ ?_)
  refine wpAny_newFunctionEnv_cells S.kind names fun env he s1 z => ?_
  subst he
  refine ⟨lim.keeps z.toInCall.keep, codeAny_func ?_⟩
  obtain ⟨t, ht, hq⟩ := walk A outer s H vs Q E g (hr.deeper _) hs
  have I : Inv (cxOf CX0 P w K mg base N qual (defScope st) f (.ref c) A outer s H E) [] (start N vs) H s1 := inv_start S hr.hd e0 hl r z
  refine wpAny_mono (ht.nox.run [] s1 (start N vs) H _ I hq) (fun fl s' h' => ?_) fun _ _ h' => h'
  match fl, h' with
  | .ret u, ⟨v, σ', H', J, rv, q⟩ => exact ⟨v, H', J.os, J.bare, J.base, J.hok, rv, q⟩
  | .next, ⟨σ', H', J, q⟩ => exact ⟨.non, H', J.os, J.bare, J.base, J.hok, rfl, q⟩
  | .brk, ⟨_, _, _, q⟩ => exact q.elim
  | .cont, ⟨_, _, _, q⟩ => exact q.elim
end
/-! ### the law's call, tables tracked -/
/-! ### what a lambda's caller makes of its exceptions -/
/-! ### heaps that grow but for the tables -/
end U
namespace U
open PySem PySem.Spec PyProof.Rows L2 StX LamX
end U
namespace U
open PySem PySem.Spec PyProof.Rows L2
/-! ### x not in a tuple, data of any depth -/
def rNotInT (K : PySem.W.Frag) : R2 := fun x y H Q => ∃ (d : PyData) (p : Addr) (xs : List V) (ds : List PyData), y = .ref p ∧ Dp K H x d ∧ SqT K H p xs ∧ DpAll K H xs ds ∧ SeqAt.shaped d = true ∧ SeqAt.shaped (.list ds) = true ∧ Q (.bl (!ds.any fun z => PyData.eqv z d)) H
theorem op_notInT {X : Cx} (hu : X.A.units + 65 < cLine) : OpR X (compareOp .NotIn) (rNotInT X.K) := by
  intro pins s σ H x y v u Q I rx ry h
  obtain ⟨d, p, xs, ds, rfl, hd, hp, ha, sd, sl, q⟩ := h
  cases (show u = Value.ref p from ry)
  obtain ⟨as, r1⟩ := Dp.reads I d x v hd rx
  obtain ⟨its, rv, pl, hlen⟩ := I.tuple hp
  have lay : PyData.canLayAll0 ds = true := SeqAt.canLay_of_shaped sl
  have room : X.A.units + 1 + min (PyData.depthAll ds) d.depth < cLine := room_in_shaped sd hu
  obtain ⟨bs, r2⟩ := Dp.readsAll I ds _ its ha rv
  have hmap : its.map (SeqAt.readOf s.heap) = ds := SeqAt.readsAll_map ds its bs lay r2
  have items := SeqAt.items_eqAt (vs := its.toArray) (show ReadsAll s.heap its.toArray.toList ds bs from r2) r1 lay (SeqAt.canLay_of_shaped sd) room
  refine SeqAt.notIn_tupleAt (fun w => PyData.eqv (SeqAt.readOf s.heap w) d) pl items ⟨.bl _, H, I, rfl, ?_⟩
  have e : its.toArray.any (fun w => PyData.eqv (SeqAt.readOf s.heap w) d) = ds.any fun z => PyData.eqv z d := by
    rw [← hmap, List.any_map]
    simp
    rfl
  rw [e]
  exact q
end U
namespace U
open PySem PySem.Spec PyProof.Rows L2
/-! ### dicts of ints in a list: in, not in, index -/
end U
namespace U
open PySem PySem.Spec PyProof.Rows L2 StX
end U
namespace U
open PySem PySem.Spec PyProof.Rows L2 StX NdefX
/-! ### a def of a class whose first statement is super().m(..) -/
/-- what is asked of the program around: the file of its code objects, super not hidden at the top -/
structure SupP (P : Program) (file : Str) : Prop where
  file : ((P.main.file : Str) == file) = true
  top : (P.main.scope.names.lookup ("super" : Str)).isSome = false
structure SupAt (K : PySem.W.Frag) (x qual : Str) (st : Stmt) (f c cc D : Addr) (ps : List Str) (file : Str) : Prop where
  ex : ∃ (oc : Value) (od : Option Addr) (kV doc pm : Value) (an : Option Addr) (ct : Value) (osl : Array (Option Value)),
    K.lookup f = some ⟨oc, od, .func (PySem.W.fnX x qual (defArgs st) (defBody st) (defScope st) [("__class__", cc)] .none kV doc pm an (.ref c) ct), osl⟩ ∧ PySem.W.codeIn K (.ref c) qual = true ∧ Binds K (PySem.W.fnX x qual (defArgs st) (defBody st) (defScope st) [("__class__", cc)] .none kV doc pm an (.ref c) ct) ps []
  code : ∃ (ccl : Value) (cdd : Option Addr) (vs : Array Value) (ccs : Array (Option Value)) (tf : Tok), K.lookup c = some ⟨ccl, cdd, .fields vs, ccs⟩ ∧ vs[2]? = some (.str file tf)
  cell : ∃ (cl : Value) (cld : Option Addr) (csl : Array (Option Value)), K.lookup cc = some ⟨cl, cld, .cell (some (.ref D)), csl⟩
  cls : ∃ cd, PySem.W.clsIn K D = some cd
  pos : ((defArgs st).posonlyargs ++ (defArgs st).args).head?.map (·.arg) = ps[0]?
  nosuper : PySem.W.nsIn K mainGlobals "super" = some none
  noop : PySem.W.nsIn K cStatics "thirdparty.any" = some none
  scS : (defScope st).names.lookup ("super" : Str) = some .globalImplicit
  scC : (defScope st).names.lookup ("__class__" : Str) = some .free
/-- the method that super().m finds, for an instance of the class at C -/
structure SupM (K : PySem.W.Frag) (C D : Addr) (m : Str) (f2 : Addr) : Prop where
  sub : PySem.W.mroIn K C (.ref D) = some true
  at_ : PySem.W.ks_superIn K C D m = some (some (.ref f2))
  ty : PySem.W.typeIn K (.ref f2) = some (.type "function")
  fi : PySem.W.fnIn K f2 = true
  cl : (m == ("__class__" : Str)) = false
section
variable {X : Cx} {pins : List (Addr × Obj)} {σ : L2.St} {H : Hp} {s : Shared} {C D dx x f2 : Addr} {fs : List (Str × V)} {m : Str}
/-- super().m(..) run within the def's own code -/
theorem run_super {CX : CXT} {k2 : Nat} {sp2 : Sp} {Q : VK} {E : XK} {t : TA} {body : List Stmt} {p0 p1 apos pos epos : Pos} {e : Expr} {qual : Str} {st : Stmt} {name : Str} {f c cc : Addr} {ps : List Str} {file s0 : Str}
    (B : SupAt X.K name qual st f c cc D ps file) (hP : SupP X.prog file) (M : SupM X.K C D m f2) (F : FnR X.prog X.w X.K X.mg X.base CX k2 f2 sp2) (hr : Room k2 X.A) (hx : Passes CX X E)
    (hsc : X.env.scope = defScope st) (hfu : X.env.func = some f) (hco : X.env.code = .ref c) (hcl : X.env.cells.lookup ("__class__" : Str) = some cc) (hps : ps[0]? = some s0) (hN : X.N[0]? = some s0) (hloc : X.env.scope.names.lookup s0 = some .local)
    (I : Inv X pins σ H s) (hv : σ[0]? = some (some (.ref x))) (ea : H x = some (.ins C dx fs)) (ha : PA X [e] t)
    (h : t σ H fun vs H1 => sp2 (.ref x :: vs) H1 Q E)
    (hint : interactive X.env = false) (hsw : swapsWith (.Call (.Attribute (.Call (.Name "super" p0) [] [] p1) m apos) [e] [] pos) none epos.line X.env = pure false)
    (hst : starEach [e] X.env = [(false, eval e X.env)]) (pl : Sem Bool)
    (he : eval (.Call (.Attribute (.Call (.Name "super" p0) [] [] p1) m apos) [e] [] pos) X.env = (do
      let ov ← attributeBase (.Call (.Name "super" p0) [] [] p1) m X.env (eval (.Call (.Name "super" p0) [] [] p1) X.env)
      standAt apos.atName
      let (f, first) ← holding [ov] (getMethod ov m pl)
      callWith pos f first (backTo pos (starEach [e] X.env)) [])) :
    PySem.wpAt (model X.prog X.w) X.A (.func body X.env) (exec (.Expr (.Call (.Attribute (.Call (.Name "super" p0) [] [] p1) m apos) [e] [] pos) epos) X.env)
      (fun fl s' => fl = .next ∧ ∃ v H2, Inv X pins σ H2 s' ∧ Q v H2) X.xe s := by
  obtain ⟨oc, od, kV, doc, pm, an, ct, osl, lk, hcd, bi⟩ := B.ex
  obtain ⟨ccl, cdd, vs2, ccs, tf, hcode, hvs⟩ := B.code
  obtain ⟨cl0, cld, csl, hcell⟩ := B.cell
  obtain ⟨cdD, hD⟩ := B.cls
  have KX := I.kIn
  obtain ⟨oD, hD1, hD2⟩ : ∃ oD, s.heap.get? D = some oD ∧ oD.data = .cls cdD := by
    unfold PySem.W.clsIn at hD
    split at hD
    · rename_i c d cd' sl ho
      cases hD
      exact ⟨_, KX _ _ ho, rfl⟩
    · cases hD
  obtain ⟨ar, har, har2⟩ : ∃ ar : Arg, ((defArgs st).posonlyargs ++ (defArgs st).args).head? = some ar ∧ ar.arg = s0 := by
    have := B.pos
    rw [hps] at this
    cases z : ((defArgs st).posonlyargs ++ (defArgs st).args).head? with
    | none => rw [z] at this; cases this
    | some ar => rw [z] at this; exact ⟨ar, rfl, Option.some.inj this⟩
  obtain ⟨mA, O, _, _, _, _⟩ := ins_get I.hok ea
  obtain ⟨odx, J, _⟩ := O.look
  refine PySem.ks_wpAt_Expr_any ?_ hint hsw
  refine PySem.ks_wpAt_MethodCall (pl := pl) ?_ he
  refine PySem.ks_wpAt_super_base (env := X.env) (fd := PySem.W.fnX name qual (defArgs st) (defBody st) (defScope st) [("__class__", cc)] .none kV doc pm an (.ref c) ct) (by show X.env.scope.names.lookup _ = _; rw [hsc]; exact B.scS) (by show X.env.scope.names.lookup _ = _; rw [hsc]; exact B.scC) M.cl hfu (KX _ _ lk) rfl (ar := ar) har hco (KX _ _ hcode) rfl hvs hP.file hP.top ?_
  have hgs : X.env.kindOf ("super" : Str) = some .globalImplicit := by show X.env.scope.names.lookup _ = _; rw [hsc]; exact B.scS
  refine PySem.W.ks_loadName_global I.ok.kind hgs ?_
  obtain ⟨mb, h1, h2⟩ := I.mod.blt
  refine Calls.loadGlobal_builtin (by rw [I.ok.glob]; exact I.mod.glob.keeps I.bk) (PySem.W.mg_none_of I.mod.kin I.mod.glob B.nosuper) (by rw [I.ok.blt]; exact h1.keeps I.bk) ((h2 "super" (by decide +kernel)).trans (by rfl)) ⟨rfl, ?_⟩
  refine wpAny_loadName_free I.ok.kind (by show X.env.scope.names.lookup _ = _; rw [hsc]; exact B.scC) hcl ⟨_, KX _ _ hcell, rfl⟩ ?_
  obtain ⟨mL, hns, hal⟩ := I.loc
  obtain ⟨u, ru, hlook⟩ := hal 0 s0 (.ref x) hN hv (Or.inl hloc)
  obtain rfl : u = Value.ref x := ru
  have hmL : mL s0 = some (.ref x) := by
    rcases hlook with ⟨_, z⟩ | ⟨z, _⟩
    · exact z
    · rcases z with z | z
      · rw [show X.env.kindOf s0 = some .local from hloc] at z; cases z
      · rw [show X.env.kindOf s0 = some .local from hloc] at z; cases z
  rw [har2]
  refine wpAny_loadName_local I.ok.kind hloc hns hmL ?_
  obtain ⟨hh, g, d, t0, os⟩ := s
  refine PySem.ks_wpAny_isType_cls hD1 hD2 ⟨rfl, ?_⟩
  refine PySem.ks_wpAny_call_super hD1 hD2 J.at_ J.cls (fun c e => ?_) (PySem.W.looks_mroIn KX M.sub) (fun h' ee kk => ?_)
  · have := J.no
    unfold PySem.W.notCls at this
    rw [e] at this
    exact Bool.noConfusion this
  -- the super object stands; its method
  have I2 : Inv X pins σ H ⟨h', g, d, t0, os⟩ := I.kept (t' := t0) kk
  have KX2 := I2.kIn
  cases hc : PySem.W.clsIn X.K C with
  | none => have := M.at_; unfold PySem.W.ks_superIn at this; rw [hc] at this; cases this
  | some cd =>
    have hm := M.at_
    unfold PySem.W.ks_superIn at hm
    rw [hc] at hm
    obtain ⟨of, hof, hofc⟩ : ∃ of, h'.get? f2 = some of ∧ of.cls = .type "function" := by
      have ht' : (X.K.lookup f2).map (·.cls) = some (.type "function") := M.ty
      cases z : X.K.lookup f2 with
      | none => rw [z] at ht'; cases ht'
      | some of => rw [z] at ht'; exact ⟨of, KX2 _ _ z, Option.some.inj ht'⟩
    refine PySem.ks_wpAny_getMethod_super ee (PySem.W.looks_opaque KX2 B.noop) (l₀ := cd.mro) ?_ rfl KX2 hm hof hofc (PySem.W.ks_ne KX J hc) M.cl ?_
    · exact fun A Q E s k q => wpAny_bind ((PySem.W.looks_clsIn KX2 hc) A _ E s k (wpAny_pure q))
    · have I3 : Inv X ((h'.objs.size, PySem.W.methodObj (.ref f2) (.ref x)) :: pins) σ H ⟨h'.push (PySem.W.methodObj (.ref f2) (.ref x)), g, d, t0 + 1, os⟩ := ClX.met_new I2
      refine ClX.callwith_cm I3 (ClX.base_none I2 (Nat.le_refl _)) M.fi (thn (ha.run pos _ _ σ H _ I3 h) fun us s3 ⟨vs, H2, I4, rv, q2⟩ => ⟨⟨ClX.pin_at I4, I4.kIn⟩, ?_⟩) hst rfl
      exact thn (ClX.run_cm F hr hx I4 rv q2) fun v s4 ⟨z, H3, I5, _, q3⟩ => ⟨rfl, z, H3, I5, q3⟩
end
/-- the def, by its first statement super().m(e) and the rest -/
theorem SupAt.okX {P : Program} {w : World} {K : PySem.W.Frag} {mg : Str → Option Value} {base : Heap} {CX : CXT} {k k2 : Nat} {name qual : Str} {st : Stmt} {f c cc D C f2 : Addr} {N ps : List Str} {file s0 m : Str} {sp sp2 : Sp} {p0 p1 apos pos epos : Pos} {e : Expr} {rest : List Stmt}
    (B : SupAt K name qual st f c cc D ps file) (hP : SupP P file) (M : SupM K C D m f2) (F : FnR P w K mg base CX k2 f2 sp2) (hk : k2 ≤ k)
    (S : NScope N ps ["__class__"] (defScope st)) (hps : ps[0]? = some s0) (hb : defBody st = .Expr (.Call (.Attribute (.Call (.Name "super" p0) [] [] p1) m apos) [e] [] pos) epos :: rest)
    (len : ∀ vs H Q E, sp vs H Q E → vs.length = ps.length)
    (walk : ∀ (A : Around) (outer : List Env) (s : Shared) (H : Hp) (vs : List V) (Q : VK) (E : XK) (X : Cx), X = ncx CX P w K mg base N ⟨name, qual, defArgs st, defBody st, defScope st, [("__class__", cc)], c⟩ f A outer s H E → Room k X.A → sp vs H Q E →
      Passes CX X E ∧ interactive X.env = false ∧ swapsWith (.Call (.Attribute (.Call (.Name "super" p0) [] [] p1) m apos) [e] [] pos) none epos.line X.env = pure false ∧ starEach [e] X.env = [(false, eval e X.env)] ∧
      (∃ pl : Sem Bool, eval (.Call (.Attribute (.Call (.Name "super" p0) [] [] p1) m apos) [e] [] pos) X.env = (do
        let ov ← attributeBase (.Call (.Name "super" p0) [] [] p1) m X.env (eval (.Call (.Name "super" p0) [] [] p1) X.env)
        standAt apos.atName
        let (f, first) ← holding [ov] (getMethod ov m pl)
        callWith pos f first (backTo pos (starEach [e] X.env)) [])) ∧
      ∃ (x dx : Addr) (fs : List (Str × V)) (t : TA), vs[0]? = some (.ref x) ∧ H x = some (.ins C dx fs) ∧ PA X [e] t ∧
        t (startF N vs [none]) H fun us H1 => sp2 (.ref x :: us) H1 (fun _ H2 => ∃ tt, PSs X rest tt ∧ tt { nx := fun _ H' => Q .non H', rt := Q } (startF N vs [none]) H2) E) :
    FnR P w K mg base CX (k + 1) f sp := by
  obtain ⟨oc, od, kV, doc, pm, an, ct, osl, lk, hcd, bi⟩ := B.ex
  intro A outer s H us vs Q E hr e0 r hs
  have hl := len _ _ _ _ hs
  have kin : K.In s.heap := e0.mod.kin.keeps fun b o e => (e0.bs b o e).1
  have lim : s.heap.NoLimit := e0.mod.nolimit.keeps fun b o e => (e0.bs b o e).1
  have hbn : BindsTo s (PySem.W.fnX name qual (defArgs st) (defBody st) (defScope st) [("__class__", cc)] .none kV doc pm an (.ref c) ct) ⟨us, []⟩ (ps.zip us) := by
    have := bi s us kin (by rw [List.append_nil, ← r.length]; exact hl)
    rw [List.append_nil] at this
    exact this
  refine codeAny_call_function hr.depth (kin _ _ lk) rfl S.co S.gen rfl (PySem.W.codeRec_of kin hcd) (hbn _ _ _ _ ?_)
  refine wpAny_newFunctionEnv S.nocell (fun ⟨n, _⟩ hy => S.par n (List.of_mem_zip hy).1) (fun h₁ hns hsb => ⟨lim.fresh _ hsb, ?_⟩) S.kind
  generalize hF : (⟨name, qual, defArgs st, defBody st, defScope st, [(("__class__" : Str), cc)], c⟩ : NF) = FF at walk
  have hFc : FF.cl = [(("__class__" : Str), cc)] := by rw [← hF]
  have hFs : FF.scope = defScope st := by rw [← hF]
  have hFb : FF.body = defBody st := by rw [← hF]
  have hFcc : FF.c = c := by rw [← hF]
  have henv : envF FF f s.heap.objs.size = PySem.W.envX qual (defScope st) s.heap.objs.size f (.ref c) [(("__class__" : Str), cc)] := by rw [← hF]
  have kp : ∀ b o, s.heap.get? b = some o → h₁.get? b = some o := fun b o e => hsb.extBut b o (Nat.ne_of_lt (Heap.lt_size e)) (Heap.get?_push_of_some _ e)
  obtain ⟨cl0, cld, csl, hcell⟩ := B.cell
  have CA : CellsAt FF.cl ["__class__"] [none] s.heap H := by
    rw [hFc]
    refine ⟨rfl, fun y a hy => ?_, fun a b a' h1 h2 => ?_, fun i y hi => ?_⟩
    · have : a = cc := by
        have hm := PySem.mem_of_lookup hy
        simp only [List.mem_singleton] at hm
        exact (Prod.mk.inj hm).2
      subst this
      exact ⟨(e0.bs _ _ (e0.mod.kin _ _ hcell)).2, _, _, kin _ _ hcell, rfl⟩
    · have m1 := PySem.mem_of_lookup h1
      have m2 := PySem.mem_of_lookup h2
      simp only [List.mem_singleton] at m1 m2
      rw [(Prod.mk.inj m1).1, (Prod.mk.inj m2).1]
    · match i, hi with
      | 0, hi =>
        cases hi
        exact ⟨cc, by simp [List.lookup], fun v hv => by cases hv⟩
      | i + 1, hi => simp at hi
  have I : Inv (ncx CX P w K mg base N FF f A outer s H E) [] (startF N vs [none]) H { s with heap := h₁, toks := s.toks + (ps.zip us).length } := inv_startN (by rw [hFs]; exact S) hr.hd e0 hl r CA hns kp
  obtain ⟨hx, hint, hsw, hst, ⟨pl, he⟩, x, dx, fs, t, hv0, ea, ha, hq⟩ := walk A outer s H vs Q E _ rfl (hr.deeper _) hs
  show codeAny _ _ (.func (defBody st) (PySem.W.envX qual (defScope st) s.heap.objs.size f (.ref c) [(("__class__" : Str), cc)])) _ _
  rw [← henv]
  refine PySem.ks_codeAny_funcAt ?_
  rw [hb]
  refine PySem.ks_wpAt_execs_cons ?_
  have hps0 : ps.length ≠ 0 := by
    intro z
    cases ps with
    | nil => cases hps
    | cons a b => cases z
  have hv : (startF N vs [none])[0]? = some (some (.ref x)) := by
    unfold startF
    rw [List.getElem?_append_left (by rw [List.length_map]; omega), List.getElem?_map, hv0]
    rfl
  have hN0 : N[0]? = some s0 := by
    have : (ps ++ [("__class__" : Str)])[0]? = some s0 := by rw [List.getElem?_append_left (by omega)]; exact hps
    rw [← S.pre, List.getElem?_take_of_lt (by simp)] at this
    exact this
  have hloc0 : (defScope st).names.lookup s0 = some .local := S.par s0 (List.mem_of_getElem? hps)
  refine PySem.ks_wpAt_mono (run_super (X := ncx CX P w K mg base N FF f A outer s H E) (body := _) B hP M F ((hr.deeper _).mono hk) hx hFs rfl (by show Value.ref FF.c = _; rw [hFcc]) (by show FF.cl.lookup _ = _; rw [hFc]; simp [List.lookup]) hps hN0 (by show FF.scope.names.lookup s0 = _; rw [hFs]; exact hloc0) I hv ea ha hq hint hsw hst pl he) (fun fl s' hh => ?_) fun e s' hh => hh
  obtain ⟨rfl, _, H2, I2, tt, htt, hqq⟩ := hh
  refine wpAt_of_wpAny ?_
  have fin : ∀ {σ' : L2.St} {H' : Hp} {v : V} {u : Value} {s' : Shared}, Inv (ncx CX P w K mg base N FF f A outer s H E) [] σ' H' s' → L2.RelV v u → Q v H' → CE outer P w H s Q u s' :=
    fun {σ' H' v u s'} J rv q => ⟨v, H', J.os, J.bare, J.base, J.hok, rv, q⟩
  refine wpAny_mono (htt.run [] _ (startF N vs [none]) H2 _ I2 hqq) (fun fl s' hs => ?_) fun e s' hs => hs
  cases fl with
  | ret u =>
    obtain ⟨v, σ', H', J, rv, q⟩ := hs
    exact fin J rv q
  | next =>
    obtain ⟨σ', H', J, q⟩ := hs
    exact fin (v := V.non) (u := Value.none) J rfl q
  | brk =>
    obtain ⟨_, _, _, q⟩ := hs
    exact False.elim q
  | cont =>
    obtain ⟨_, _, _, q⟩ := hs
    exact False.elim q
end U
namespace U
open PySem PySem.Spec PyProof.Rows L2 StX
/-! ### {o!r}, o an instance with its own __repr__ -/
end U
namespace U
open PySem PySem.Spec PyProof.Rows L2 GQ PySem.SeqAt MeetsSeq MeetsSeq2 MeetsSeq3 SeqRoads2
open AutoSeq1 (wpAny_loadPart')
/-! ### == of lists and tuples, with either result -/
/-- D x y H c: == of the two gives c -/
abbrev EqvB := V → V → Hp → Bool → Prop
def MonB (D : EqvB) : Prop := ∀ x y H H' c, Ext H H' → D x y H c → D x y H' c
def EqH (X : Cx) (n : Nat) (D : EqvB) : Prop :=
  ∀ (A : Around) (pins : List (Addr × Obj)) (s : Shared) (σ : L2.St) (H : Hp) (x y : V) (u v : Value) (c : Bool), Sub X n A → Inv X pins σ H s → RelV x u → RelV y v → D x y H c →
    wpAny (model X.prog X.w) A (eqBool u v) (fun r s' => r = c ∧ ∃ H', Inv X pins σ H' s' ∧ Ext H H') X.xe s
section
variable {X : Cx} {n m : Nat} {D D' : EqvB}
theorem EqH.mono (h : EqH X n D) (hn : n ≤ m) : EqH X m D := fun A pins s σ H x y u v c sb => h A pins s σ H x y u v c (sb.mono hn)
theorem EqH.or (h : EqH X n D) (h' : EqH X n D') : EqH X n (fun x y H c => D x y H c ∨ D' x y H c) := fun A pins s σ H x y u v c sb I rx ry d => by
  rcases d with d | d
  · exact h A pins s σ H x y u v c sb I rx ry d
  · exact h' A pins s σ H x y u v c sb I rx ry d
theorem MonB.or (h : MonB D) (h' : MonB D') : MonB (fun x y H c => D x y H c ∨ D' x y H c) := fun x y H H' c e d => d.elim (fun d => .inl (h x y H H' c e d)) fun d => .inr (h' x y H H' c e d)
end
end U
namespace PySem.W
open PySem PySem.Calls PyProof.Rows
end PySem.W
namespace U
open PySem PySem.Spec PyProof.Rows L2 StX
end U
namespace PM
open U
/-! ### one-to-one maps between parts of 0 .. n - 1 -/
abbrev PF := Int → Option Int
structure WF (n : Int) (f : PF) : Prop where
  dom : ∀ x y, f x = some y → 0 ≤ x ∧ x < n ∧ 0 ≤ y ∧ y < n
  inj : ∀ x x' y, f x = some y → f x' = some y → x = x'
def tabN (f : PF) (n : Nat) : List (Int × Int) := (List.range n).filterMap fun (i : Nat) => (f (i : Int)).map fun y => ((i : Int), y)
def tab (n : Int) (f : PF) : List (Int × Int) := tabN f n.toNat
theorem mem_tabN {f : PF} {n : Nat} {x y : Int} : (x, y) ∈ tabN f n ↔ f x = some y ∧ ∃ i : Nat, i < n ∧ x = (i : Int) := by
  unfold tabN
  rw [List.mem_filterMap]
  constructor
  · rintro ⟨i, hi, e⟩
    rw [List.mem_range] at hi
    cases h : f (i : Int) with
    | none => rw [h] at e; cases e
    | some z => rw [h] at e; cases e; exact ⟨h, i, hi, rfl⟩
  · rintro ⟨h, i, hi, rfl⟩
    exact ⟨i, List.mem_range.mpr hi, by rw [h]; rfl⟩
theorem mem_tab {n : Int} {f : PF} (w : WF n f) {x y : Int} : (x, y) ∈ tab n f ↔ f x = some y := by
  unfold tab
  rw [mem_tabN]
  constructor
  · exact fun h => h.1
  · intro h
    have := w.dom x y h
    exact ⟨h, x.toNat, by omega, by omega⟩
theorem keys_tabN (f : PF) (n : Nat) : ((tabN f n).map (·.1)).Nodup := by
  induction n with
  | zero => exact List.nodup_nil
  | succ n ih =>
    have e : tabN f (n + 1) = tabN f n ++ ((f (n : Int)).map fun y => ((n : Int), y)).toList := by
      unfold tabN
      rw [List.range_succ, List.filterMap_append]
      cases h : f (n : Int) <;> simp [h]
    rw [e, List.map_append, List.nodup_append]
    refine ⟨ih, ?_, ?_⟩
    · cases f (n : Int) <;> simp
    · intro a ha b hb e
      subst e
      obtain ⟨p, hp, rfl⟩ := List.mem_map.mp ha
      obtain ⟨x, y⟩ := p
      obtain ⟨_, i, hi, ex⟩ := mem_tabN.mp hp
      cases h : f (n : Int) with
      | none => rw [h] at hb; simp at hb
      | some z =>
        rw [h] at hb
        simp at hb
        omega
theorem keys_tab (n : Int) (f : PF) : ((tab n f).map (·.1)).Nodup := keys_tabN f _
theorem lk_tab {n : Int} {f : PF} (w : WF n f) (x : Int) : lk (tab n f) x = f x := by
  cases h : f x with
  | some y => exact lk_some (keys_tab n f) ((mem_tab w).mpr h)
  | none =>
    cases e : lk (tab n f) x with
    | none => rfl
    | some y =>
      have := (mem_tab w).mp (lk_mem e)
      rw [h] at this; cases this
theorem tab_len (n : Int) (f : PF) : (tab n f).length ≤ n.toNat := by
  unfold tab tabN
  exact Nat.le_trans (List.length_filterMap_le _ _) (by simp)
theorem vals_tab {n : Int} {f : PF} (w : WF n f) : ((tab n f).map (·.2)).Nodup := by
  have k := keys_tab n f
  have key : ∀ l : List (Int × Int), (∀ p ∈ l, f p.1 = some p.2) → (l.map (·.1)).Nodup → (l.map (·.2)).Nodup := by
    intro l
    induction l with
    | nil => intro _ _; exact List.nodup_nil
    | cons p r ih =>
      intro h nd
      rw [List.map_cons, List.nodup_cons] at nd ⊢
      refine ⟨fun hm => ?_, ih (fun q hq => h q (List.mem_cons_of_mem _ hq)) nd.2⟩
      obtain ⟨q, hq, e⟩ := List.mem_map.mp hm
      have h1 := h p List.mem_cons_self
      have h2 := h q (List.mem_cons_of_mem _ hq)
      rw [e] at h2
      have := w.inj _ _ _ h1 h2
      exact nd.1 (by rw [this]; exact List.mem_map.mpr ⟨q, hq, rfl⟩)
  exact key _ (fun p hp => (mem_tab w).mp hp) k
/-! ### the operations -/
def mul (f g : PF) : PF := fun x => (f x).bind g
def idn (n : Int) : PF := fun x => if 0 ≤ x ∧ x < n then some x else none
def emp : PF := fun _ => none
def inv (n : Int) (f : PF) : PF := fun y => ((tab n f).find? fun p => decide (p.2 = y)).map (·.1)
def le (f g : PF) : Prop := ∀ x y, f x = some y → g x = some y
theorem wf_mul {n : Int} {f g : PF} (wf : WF n f) (wg : WF n g) : WF n (mul f g) := by
  refine ⟨fun x y h => ?_, fun x x' y h h' => ?_⟩
  · unfold mul at h
    cases e : f x with
    | none => rw [e] at h; cases h
    | some z =>
      rw [e] at h
      have h1 := wf.dom x z e
      have h2 := wg.dom z y h
      omega
  · unfold mul at h h'
    cases e : f x with
    | none => rw [e] at h; cases h
    | some z =>
      cases e' : f x' with
      | none => rw [e'] at h'; cases h'
      | some z' =>
        rw [e] at h; rw [e'] at h'
        have := wg.inj z z' y h h'
        subst this
        exact wf.inj _ _ _ e e'
theorem wf_idn (n : Int) : WF n (idn n) := by
  refine ⟨fun x y h => ?_, fun x x' y h h' => ?_⟩
  · unfold idn at h
    split at h
    · cases h; omega
    · cases h
  · unfold idn at h h'
    split at h
    · split at h'
      · cases h; cases h'; rfl
      · cases h'
    · cases h
theorem inv_iff {n : Int} {f : PF} (w : WF n f) {x y : Int} : inv n f y = some x ↔ f x = some y := by
  unfold inv
  constructor
  · intro h
    cases e : (tab n f).find? (fun p => decide (p.2 = y)) with
    | none => rw [e] at h; cases h
    | some p =>
      rw [e] at h
      obtain ⟨a, b⟩ := p
      have h1 := List.find?_some e
      simp only [decide_eq_true_eq] at h1
      have h2 : a = x := Option.some.inj h
      subst h1 h2
      exact (mem_tab w).mp (List.mem_of_find?_eq_some e)
  · intro h
    have hm := (mem_tab w).mpr h
    cases e : (tab n f).find? (fun p => decide (p.2 = y)) with
    | none =>
      have := List.find?_eq_none.mp e _ hm
      simp at this
    | some p =>
      obtain ⟨a, b⟩ := p
      have h1 := List.find?_some e
      simp only [decide_eq_true_eq] at h1
      subst h1
      have h3 := (mem_tab w).mp (List.mem_of_find?_eq_some e)
      show some a = some x
      rw [w.inj _ _ _ h3 h]
theorem wf_inv {n : Int} {f : PF} (w : WF n f) : WF n (inv n f) := by
  refine ⟨fun y x h => ?_, fun y y' x h h' => ?_⟩
  · have := w.dom x y ((inv_iff w).mp h)
    omega
  · have h1 := (inv_iff w).mp h
    have h2 := (inv_iff w).mp h'
    rw [h1] at h2
    exact Option.some.inj h2
/-- a dict of pairs tells f -/
structure DI (l : List (Int × Int)) (f : PF) : Prop where
  nd : (l.map (·.1)).Nodup
  at_ : ∀ x, lk l x = f x
theorem DI.mem {l : List (Int × Int)} {f : PF} (d : DI l f) {x y : Int} : (x, y) ∈ l ↔ f x = some y := by
  rw [← d.at_]
  exact ⟨lk_some d.nd, lk_mem⟩
theorem di_tab {n : Int} {f : PF} (w : WF n f) : DI (tab n f) f := ⟨keys_tab n f, lk_tab w⟩
theorem DI.vals {n : Int} {l : List (Int × Int)} {f : PF} (d : DI l f) (w : WF n f) : (l.map (·.2)).Nodup := by
  obtain ⟨nd, _⟩ := id d
  have key : ∀ r : List (Int × Int), (∀ p ∈ r, f p.1 = some p.2) → (r.map (·.1)).Nodup → (r.map (·.2)).Nodup := by
    intro r
    induction r with
    | nil => intro _ _; exact List.nodup_nil
    | cons p r ih =>
      intro h nd
      rw [List.map_cons, List.nodup_cons] at nd ⊢
      refine ⟨fun hm => ?_, ih (fun q hq => h q (List.mem_cons_of_mem _ hq)) nd.2⟩
      obtain ⟨q, hq, e⟩ := List.mem_map.mp hm
      have h1 := h p List.mem_cons_self
      have h2 := h q (List.mem_cons_of_mem _ hq)
      rw [e] at h2
      have := w.inj _ _ _ h1 h2
      exact nd.1 (by rw [this]; exact List.mem_map.mpr ⟨q, hq, rfl⟩)
  exact key l (fun p hp => d.mem.mp hp) nd
theorem di_of {l : List (Int × Int)} {f : PF} (nd : (l.map (·.1)).Nodup) (h : ∀ x y, (x, y) ∈ l ↔ f x = some y) : DI l f := by
  refine ⟨nd, fun x => ?_⟩
  cases e : f x with
  | some y => exact lk_some nd ((h x y).mpr e)
  | none =>
    cases e2 : lk l x with
    | none => rfl
    | some y =>
      have := (h x y).mp (lk_mem e2)
      rw [e] at this; cases this
end PM
namespace PM
open U
/-! ### powers -/
def iter (f : PF) : Nat → PF
  | 0 => fun x => some x
  | k + 1 => fun x => (iter f k x).bind f
theorem iter_add (f : PF) (a b : Nat) (x : Int) : iter f (a + b) x = (iter f a x).bind (iter f b) := by
  induction b with
  | zero => simp [iter]
  | succ b ih =>
    show (iter f (a + b) x).bind f = _
    rw [ih]
    cases iter f a x <;> rfl
theorem iter_head (f : PF) (k : Nat) (x : Int) : iter f (k + 1) x = (f x).bind (iter f k) := by
  rw [Nat.add_comm, iter_add]; rfl
structure Row (f : PF) (e : Int) (r : List Int) : Prop where
  h0 : r[0]? = some e
  st : ∀ (i : Nat) (a b : Int), r[i]? = some a → r[i + 1]? = some b → f a = some b ∧ b ≠ e
theorem Row.ne {f : PF} {e : Int} {r : List Int} (w : ∀ x x' y, f x = some y → f x' = some y → x = x') (R : Row f e r) : ∀ (i k : Nat) (a : Int), r[i]? = some a → r[i + k + 1]? = some a → False
  | 0, k, a, h1, h2 => by
    rw [R.h0] at h1
    cases h1
    have hk : ∃ b, r[k]? = some b := by
      have : 0 + k + 1 < r.length := (List.getElem?_eq_some_iff.mp h2).1
      exact ⟨_, List.getElem?_eq_getElem (by omega)⟩
    obtain ⟨b, hb⟩ := hk
    have := R.st k b e hb (by rw [Nat.zero_add] at h2; exact h2)
    exact this.2 rfl
  | i + 1, k, a, h1, h2 => by
    have l1 : i + 1 < r.length := (List.getElem?_eq_some_iff.mp h1).1
    have l2 : i + 1 + k + 1 < r.length := (List.getElem?_eq_some_iff.mp h2).1
    obtain ⟨b, hb⟩ : ∃ b, r[i]? = some b := ⟨_, List.getElem?_eq_getElem (by omega)⟩
    obtain ⟨c, hc⟩ : ∃ c, r[i + k + 1]? = some c := ⟨_, List.getElem?_eq_getElem (by omega)⟩
    have e1 := (R.st i b a hb h1).1
    have h2' : r[i + k + 1 + 1]? = some a := by rw [show i + k + 1 + 1 = i + 1 + k + 1 by omega]; exact h2
    have e2 := (R.st (i + k + 1) c a hc h2').1
    have : b = c := w _ _ _ e1 e2
    subst this
    exact Row.ne w R i k b hb hc
theorem nodup_of_get {l : List Int} (h : ∀ (i k : Nat) (a : Int), l[i]? = some a → l[i + k + 1]? = some a → False) : l.Nodup := by
  induction l with
  | nil => exact List.nodup_nil
  | cons x r ih =>
    rw [List.nodup_cons]
    refine ⟨fun hm => ?_, ih fun i k a h1 h2 => ?_⟩
    · obtain ⟨j, hj⟩ := List.mem_iff_getElem?.mp hm
      exact h 0 j x rfl (by rw [Nat.zero_add]; exact hj)
    · refine h (i + 1) k a h1 ?_
      rw [show i + 1 + k + 1 = (i + k + 1) + 1 by omega]
      exact h2
theorem Row.nd {n : Int} {f : PF} {e : Int} {r : List Int} (w : WF n f) (R : Row f e r) : r.Nodup := nodup_of_get (R.ne w.inj)
theorem Row.dom {n : Int} {f : PF} {e : Int} {r : List Int} (w : WF n f) (R : Row f e r) (h1 : 0 ≤ e) (h2 : e < n) : ∀ x ∈ r, 0 ≤ x ∧ x < n := by
  intro x hx
  obtain ⟨i, hi⟩ := List.mem_iff_getElem?.mp hx
  cases i with
  | zero => rw [R.h0] at hi; cases hi; exact ⟨h1, h2⟩
  | succ i =>
    have l1 : i + 1 < r.length := (List.getElem?_eq_some_iff.mp hi).1
    obtain ⟨b, hb⟩ : ∃ b, r[i]? = some b := ⟨_, List.getElem?_eq_getElem (by omega)⟩
    have := w.dom _ _ (R.st i b x hb hi).1
    omega
theorem len_range {l : List Int} {n : Int} (nd : l.Nodup) (h : ∀ x ∈ l, 0 ≤ x ∧ x < n) : l.length ≤ n.toNat := by
  have : l.length ≤ ((List.range n.toNat).map fun (i : Nat) => (i : Int)).length := List.Nodup.length_le_of_subset nd (by
    intro x hx
    have := h x hx
    exact List.mem_map.mpr ⟨x.toNat, List.mem_range.mpr (by omega), Int.toNat_of_nonneg this.1⟩)
  simpa using this
theorem Row.more {f : PF} {e : Int} {pre : List Int} {z y : Int} (R : Row f e (pre ++ [z])) (h : f z = some y) (ne : y ≠ e) : Row f e (pre ++ [z] ++ [y]) := by
  refine ⟨?_, fun i a b h1 h2 => ?_⟩
  · rw [List.getElem?_append_left (by simp)]
    exact R.h0
  · by_cases hi : i + 1 < (pre ++ [z]).length
    · rw [List.getElem?_append_left hi] at h2
      rw [List.getElem?_append_left (by omega)] at h1
      exact R.st i a b h1 h2
    · have l2 : i + 1 < (pre ++ [z] ++ [y]).length := (List.getElem?_eq_some_iff.mp h2).1
      have e1 : i = pre.length := by simp at hi l2; omega
      subst e1
      rw [List.getElem?_append_left (by simp)] at h1
      have z1 : (pre ++ [z])[pre.length]? = some z := by simp
      rw [z1] at h1
      cases h1
      have z2 : (pre ++ [z] ++ [y])[pre.length + 1]? = some y := by simp
      rw [z2] at h2
      cases h2
      exact ⟨h, ne⟩
/-- f along an open row -/
theorem Row.openAt {f : PF} {e : Int} {r : List Int} (R : Row f e r) {z : Int} (hz : r[r.length - 1]? = some z) (hl : 0 < r.length) (ho : f z = none) (i : Nat) (a : Int) (hi : r[i]? = some a) : ∀ j : Nat, iter f j a = r[i + j]?
  | 0 => by rw [Nat.add_zero, hi]; rfl
  | j + 1 => by
    show (iter f j a).bind f = _
    rw [Row.openAt R hz hl ho i a hi j]
    cases e1 : r[i + j]? with
    | none =>
      have h1 := List.getElem?_eq_none_iff.mp e1
      exact (List.getElem?_eq_none_iff.mpr (by omega)).symm
    | some b =>
      show f b = _
      have l1 : i + j < r.length := (List.getElem?_eq_some_iff.mp e1).1
      cases e2 : r[i + (j + 1)]? with
      | some c => exact (R.st (i + j) b c e1 e2).1
      | none =>
        have h2 := List.getElem?_eq_none_iff.mp e2
        have : i + j = r.length - 1 := by omega
        rw [this, hz] at e1
        cases e1
        exact ho
/-- f along a closed row -/
theorem Row.closedAt {f : PF} {e : Int} {r : List Int} (R : Row f e r) {z : Int} (hz : r[r.length - 1]? = some z) (hl : 0 < r.length) (hc : f z = some e) (i : Nat) (a : Int) (hi : r[i]? = some a) : ∀ j : Nat, iter f j a = r[(i + j) % r.length]?
  | 0 => by
    have l1 : i < r.length := (List.getElem?_eq_some_iff.mp hi).1
    rw [Nat.add_zero, Nat.mod_eq_of_lt l1, hi]; rfl
  | j + 1 => by
    show (iter f j a).bind f = _
    rw [Row.closedAt R hz hl hc i a hi j]
    have l1 : (i + j) % r.length < r.length := Nat.mod_lt _ hl
    obtain ⟨b, e1⟩ : ∃ b, r[(i + j) % r.length]? = some b := ⟨_, List.getElem?_eq_getElem l1⟩
    rw [e1]
    show f b = _
    by_cases h : (i + j) % r.length = r.length - 1
    · rw [h, hz] at e1
      cases e1
      rw [hc]
      have : (i + (j + 1)) % r.length = 0 := by
        rw [show i + (j + 1) = (i + j) + 1 by omega, Nat.add_mod, h]
        by_cases h1 : r.length = 1
        · rw [h1]
        · rw [Nat.mod_eq_of_lt (show 1 < r.length by omega), show r.length - 1 + 1 = r.length by omega, Nat.mod_self]
      rw [this, R.h0]
    · have : (i + (j + 1)) % r.length = (i + j) % r.length + 1 := by
        rw [show i + (j + 1) = (i + j) + 1 by omega, Nat.add_mod]
        rw [Nat.mod_eq_of_lt (show 1 < r.length by omega), Nat.mod_eq_of_lt (by omega)]
      rw [this]
      obtain ⟨c, e2⟩ : ∃ c, r[(i + j) % r.length + 1]? = some c := ⟨_, List.getElem?_eq_getElem (by omega)⟩
      rw [e2]
      exact (R.st _ b c e1 e2).1
theorem wf_iter {n : Int} {f : PF} (w : WF n f) : ∀ k : Nat, WF n (iter f (k + 1))
  | 0 => w
  | k + 1 => wf_mul (wf_iter w k) w
end PM
namespace PM
open U
/-! ### the rules of the operators -/
/-! ### parts -/
/-! ### powers -/
end PM
namespace PM
open U
/-! ### rows told by their first element -/
def IsRow (f : PF) (e : Int) (r : List Int) : Prop := ∃ pre z, r = pre ++ [z] ∧ Row f e r ∧ (f z = none ∨ f z = some e)
theorem IsRow.get {f : PF} {e : Int} {r r' : List Int} (h : IsRow f e r) (h' : IsRow f e r') : ∀ (i : Nat) (a : Int), r[i]? = some a → r'[i]? = some a
  | 0, a, e1 => by
    obtain ⟨_, _, _, R, _⟩ := h
    obtain ⟨_, _, _, R', _⟩ := h'
    rw [R.h0] at e1
    rw [R'.h0]
    exact e1
  | i + 1, a, e1 => by
    have ih := IsRow.get h h' i
    obtain ⟨_, _, _, R, _⟩ := h
    obtain ⟨pre', z', q', R', st'⟩ := h'
    have l1 : i + 1 < r.length := (List.getElem?_eq_some_iff.mp e1).1
    obtain ⟨b, hb⟩ : ∃ b, r[i]? = some b := ⟨_, List.getElem?_eq_getElem (by omega)⟩
    obtain ⟨f1, ne⟩ := R.st i b a hb e1
    have hb' := ih b hb
    cases e2 : r'[i + 1]? with
    | some c =>
      have := (R'.st i b c hb' e2).1
      rw [f1] at this
      exact this.symm
    | none =>
      exfalso
      have l2 : i < r'.length := (List.getElem?_eq_some_iff.mp hb').1
      have l3 := List.getElem?_eq_none_iff.mp e2
      subst q'
      rw [List.length_append, List.length_singleton] at l2 l3
      have ei : i = pre'.length := by omega
      subst ei
      have : (pre' ++ [z'])[pre'.length]? = some z' := by simp
      rw [this] at hb'
      cases hb'
      rcases st' with q | q
      · rw [f1] at q; cases q
      · rw [f1] at q; exact ne (Option.some.inj q)
theorem IsRow.uniq {f : PF} {e : Int} {r r' : List Int} (h : IsRow f e r) (h' : IsRow f e r') : r = r' := by
  apply List.ext_getElem?
  intro i
  cases e1 : r[i]? with
  | some a => exact (h.get h' i a e1).symm
  | none =>
    cases e2 : r'[i]? with
    | none => rfl
    | some a => rw [h'.get h i a e2] at e1; cases e1
theorem ex_row {n : Int} {f : PF} {e : Int} (w : WF n f) (h1 : 0 ≤ e) (h2 : e < n) : ∃ r, IsRow f e r := by
  refine Classical.byContradiction fun no => ?_
  have key : ∀ k : Nat, ∃ pre z, pre.length = k ∧ Row f e (pre ++ [z]) := by
    intro k
    induction k with
    | zero => exact ⟨[], e, rfl, rfl, fun i a b h1 h2 => by simp at h2⟩
    | succ k ih =>
      obtain ⟨pre, z, hl, R⟩ := ih
      cases hz : f z with
      | none => exact absurd ⟨_, pre, z, rfl, R, .inl hz⟩ no
      | some y =>
        by_cases hy : y = e
        · subst hy; exact absurd ⟨_, pre, z, rfl, R, .inr hz⟩ no
        · exact ⟨pre ++ [z], y, by simp [hl], R.more hz hy⟩
  obtain ⟨pre, z, hl, R⟩ := key n.toNat
  have := len_range (R.nd w) (R.dom w h1 h2)
  rw [List.length_append, List.length_singleton] at this
  omega
open Classical in
noncomputable def rowN (f : PF) (e : Int) : List Int := if h : ∃ r, IsRow f e r then h.choose else []
theorem rowN_eq {f : PF} {e : Int} {r : List Int} (h : IsRow f e r) : rowN f e = r := by
  have hx : ∃ r, IsRow f e r := ⟨r, h⟩
  unfold rowN
  rw [dif_pos hx]
  exact hx.choose_spec.uniq h
theorem rowN_is {n : Int} {f : PF} {e : Int} (w : WF n f) (h1 : 0 ≤ e) (h2 : e < n) : IsRow f e (rowN f e) := by
  obtain ⟨r, h⟩ := ex_row w h1 h2
  rw [rowN_eq h]
  exact h
theorem IsRow.head {f : PF} {e : Int} {r : List Int} (h : IsRow f e r) : r[0]? = some e := by
  obtain ⟨_, _, _, R, _⟩ := h
  exact R.h0
theorem IsRow.mem {f : PF} {e : Int} {r : List Int} (h : IsRow f e r) : e ∈ r := List.mem_of_getElem? h.head
theorem IsRow.dom {n : Int} {f : PF} {e : Int} {r : List Int} (w : WF n f) (h : IsRow f e r) (h1 : 0 ≤ e) (h2 : e < n) : ∀ x ∈ r, 0 ≤ x ∧ x < n := by
  obtain ⟨_, _, _, R, _⟩ := h
  exact R.dom w h1 h2
theorem IsRow.nd {n : Int} {f : PF} {e : Int} {r : List Int} (w : WF n f) (h : IsRow f e r) : r.Nodup := by
  obtain ⟨_, _, _, R, _⟩ := h
  exact R.nd w
/-- what is no target -/
def nonT (n : Int) (f : PF) (e : Int) : Bool := (inv n f e).isNone
theorem nonT_iff {n : Int} {f : PF} (w : WF n f) {e : Int} : nonT n f e = true ↔ ∀ x, f x ≠ some e := by
  unfold nonT
  rw [Option.isNone_iff_eq_none]
  constructor
  · intro h x hx
    rw [(inv_iff w).mpr hx] at h
    cases h
  · intro h
    cases q : inv n f e with
    | none => rfl
    | some x => exact absurd ((inv_iff w).mp q) (h x)
/-! ### which rows are begun -/
noncomputable def seenL (f : PF) (s : List Int) : List Int := (s.map (rowN f)).flatten
theorem mem_seenL {f : PF} {s : List Int} {x : Int} : x ∈ seenL f s ↔ ∃ e ∈ s, x ∈ rowN f e := by
  unfold seenL
  rw [List.mem_flatten]
  constructor
  · rintro ⟨r, hr, hx⟩
    obtain ⟨e, he, rfl⟩ := List.mem_map.mp hr
    exact ⟨e, he, hx⟩
  · rintro ⟨e, he, hx⟩
    exact ⟨_, List.mem_map.mpr ⟨e, he, rfl⟩, hx⟩
noncomputable def stp (f : PF) (s : List Int) (x : Int) : List Int := if x ∈ seenL f s then s else s ++ [x]
noncomputable def selL (f : PF) (b l : List Int) : List Int := l.foldl (stp f) b
theorem selL_append (f : PF) (b l m : List Int) : selL f b (l ++ m) = selL f (selL f b l) m := by
  unfold selL
  rw [List.foldl_append]
theorem selL_one (f : PF) (b l : List Int) (x : Int) : selL f b (l ++ [x]) = stp f (selL f b l) x := by
  rw [selL_append]
  rfl
theorem selL_sub (f : PF) : ∀ (l b : List Int), ∃ c, selL f b l = b ++ c ∧ c.Sublist l ∧ ∀ x ∈ c, x ∉ seenL f b
  | [], b => ⟨[], by simp [selL], List.Sublist.slnil, fun x h => (nomatch h)⟩
  | x :: l, b => by
    by_cases h : x ∈ seenL f b
    · obtain ⟨c, h1, h2, h3⟩ := selL_sub f l b
      refine ⟨c, ?_, h2.cons x, h3⟩
      rw [← h1]
      show selL f (stp f b x) l = _
      unfold stp
      rw [if_pos h]
    · obtain ⟨c, h1, h2, h3⟩ := selL_sub f l (b ++ [x])
      refine ⟨x :: c, ?_, h2.cons_cons x, fun y hy => ?_⟩
      · rw [show b ++ x :: c = b ++ [x] ++ c by simp, ← h1]
        show selL f (stp f b x) l = _
        unfold stp
        rw [if_neg h]
      · rcases List.mem_cons.mp hy with rfl | hy
        · exact h
        · intro hs
          obtain ⟨e, he, hx⟩ := mem_seenL.mp hs
          exact h3 y hy (mem_seenL.mpr ⟨e, List.mem_append_left _ he, hx⟩)
def rgI (n : Nat) : List Int := (List.range n).map fun (i : Nat) => (i : Int)
theorem mem_rgI {n : Nat} {x : Int} : x ∈ rgI n ↔ 0 ≤ x ∧ x < (n : Int) := by
  unfold rgI
  rw [List.mem_map]
  constructor
  · rintro ⟨i, hi, rfl⟩
    rw [List.mem_range] at hi
    omega
  · rintro ⟨h1, h2⟩
    exact ⟨x.toNat, List.mem_range.mpr (by omega), by omega⟩
theorem rgI_succ (n : Nat) : rgI (n + 1) = rgI n ++ [(n : Int)] := by
  unfold rgI
  rw [List.range_succ, List.map_append]
  rfl
theorem rgI_lt (n : Nat) : (rgI n).Pairwise (· < ·) := by
  induction n with
  | zero => exact List.Pairwise.nil
  | succ n ih =>
    rw [rgI_succ, List.pairwise_append]
    refine ⟨ih, List.pairwise_singleton _ _, fun a ha b hb => ?_⟩
    have := mem_rgI.mp ha
    rw [List.mem_singleton] at hb
    omega
theorem nodup_of_lt {l : List Int} (h : l.Pairwise (· < ·)) : l.Nodup := List.Pairwise.imp (fun {a b} h => by omega) h
def nons (n : Int) (f : PF) : List Int := (rgI n.toNat).filter (nonT n f)
theorem nons_dom {n : Int} {f : PF} {e : Int} (h : e ∈ nons n f) : 0 ≤ e ∧ e < n ∧ nonT n f e = true := by
  obtain ⟨h1, h2⟩ := List.mem_filter.mp h
  have := mem_rgI.mp h1
  exact ⟨this.1, by omega, h2⟩
/-! ### closed rows -/
noncomputable def clo (f : PF) (e : Int) : Bool := match (rowN f e).getLast? with
  | some z => (f z).isSome
  | none => false
theorem clo_eq {f : PF} {e z : Int} {pre : List Int} (h : IsRow f e (pre ++ [z])) : clo f e = (f z).isSome := by
  unfold clo
  rw [rowN_eq h, List.getLast?_append]
  rfl
/-! ### all parts -/
noncomputable def cycS (n : Int) (f : PF) : List Int := (selL f (nons n f) (rgI n.toNat)).drop (nons n f).length
theorem cycS_eq (n : Int) (f : PF) : selL f (nons n f) (rgI n.toNat) = nons n f ++ cycS n f := by
  obtain ⟨c, h, _, _⟩ := selL_sub f (rgI n.toNat) (nons n f)
  unfold cycS
  rw [h, List.drop_left]
theorem cycS_sub (n : Int) (f : PF) : (cycS n f).Sublist (rgI n.toNat) ∧ ∀ x ∈ cycS n f, x ∉ seenL f (nons n f) := by
  obtain ⟨c, h, h1, h2⟩ := selL_sub f (rgI n.toNat) (nons n f)
  rw [cycS_eq] at h
  have := List.append_cancel_left h
  rw [this]
  exact ⟨h1, h2⟩
theorem cycS_dom {n : Int} {f : PF} {e : Int} (h : e ∈ cycS n f) : 0 ≤ e ∧ e < n := by
  have := mem_rgI.mp ((cycS_sub n f).1.subset h)
  exact ⟨this.1, by omega⟩
theorem nons_lt (n : Int) (f : PF) : (nons n f).Pairwise (· < ·) := (rgI_lt _).sublist List.filter_sublist
theorem cycS_lt (n : Int) (f : PF) : (cycS n f).Pairwise (· < ·) := (rgI_lt _).sublist (cycS_sub n f).1
/-! ### ordered by the first elements -/
end PM
namespace PM
open U
/-! ### powers by the law's own way; great exponents -/
end PM
namespace PM
open U
/-! ### where powers repeat -/
def maxL (l : List Nat) (m : Nat) : Nat := l.foldl (fun m x => if m < x then x else m) m
def lcmL (l : List Nat) (m : Nat) : Nat := l.foldl (fun m x => m / Nat.gcd m x * x) m
theorem lcm_form (a x : Nat) : a / Nat.gcd a x * x = Nat.lcm a x := by
  unfold Nat.lcm
  rw [Nat.mul_comm a x, Nat.mul_div_assoc x (Nat.gcd_dvd_left a x), Nat.mul_comm]
theorem lcmL_dvd : ∀ (l : List Nat) (m k : Nat), lcmL l m ∣ k ↔ m ∣ k ∧ ∀ x ∈ l, x ∣ k
  | [], m, k => ⟨fun h => ⟨h, fun x hx => nomatch hx⟩, fun h => h.1⟩
  | y :: l, m, k => by
    show lcmL l (m / Nat.gcd m y * y) ∣ k ↔ _
    rw [lcmL_dvd l, lcm_form]
    constructor
    · rintro ⟨h1, h2⟩
      refine ⟨Nat.dvd_trans (Nat.dvd_lcm_left m y) h1, fun x hx => ?_⟩
      rcases List.mem_cons.mp hx with rfl | hx
      · exact Nat.dvd_trans (Nat.dvd_lcm_right m _) h1
      · exact h2 x hx
    · rintro ⟨h1, h2⟩
      exact ⟨Nat.lcm_dvd h1 (h2 y List.mem_cons_self), fun x hx => h2 x (List.mem_cons_of_mem _ hx)⟩
noncomputable def lens (f : PF) (s : List Int) : List Nat := s.map fun e => (rowN f e).length
noncomputable def idxN (n : Int) (f : PF) : Nat := maxL (lens f (nons n f)) 1
noncomputable def perN (n : Int) (f : PF) : Nat := lcmL (lens f (cycS n f)) 1
theorem row_pos {n : Int} {f : PF} (w : WF n f) {e : Int} (h1 : 0 ≤ e) (h2 : e < n) : 0 < (rowN f e).length := by
  obtain ⟨pre, z, q, _, _⟩ := rowN_is w h1 h2
  rw [q]
  simp
theorem row_le {n : Int} {f : PF} (w : WF n f) {e : Int} (h1 : 0 ≤ e) (h2 : e < n) : (rowN f e).length ≤ n.toNat := len_range ((rowN_is w h1 h2).nd w) ((rowN_is w h1 h2).dom w h1 h2)
end PM
namespace My
open PySem L2
def top (i : Nat) : Stmt := PySem.Challenge.pw_chainmaps_k19_great_maps.main.body.getD i (.Pass ⟨0, 0, 0, 0⟩)
abbrev s_is_integer : Stmt := top 12
abbrev n_is_integer : List Str := ["value"]
theorem sc_is_integer : FnScope n_is_integer ["value"] (defScope s_is_integer) := ⟨rfl, rfl, rfl, by decide +kernel, rfl, by decide +kernel, by decide +kernel⟩
abbrev s_in_range : Stmt := top 13
abbrev n_in_range : List Str := ["value", "least", "most"]
theorem sc_in_range : FnScope n_in_range ["value", "least", "most"] (defScope s_in_range) := ⟨rfl, rfl, rfl, by decide +kernel, rfl, by decide +kernel, by decide +kernel⟩
abbrev s_check_size : Stmt := top 14
abbrev n_check_size : List Str := ["size"]
theorem sc_check_size : FnScope n_check_size ["size"] (defScope s_check_size) := ⟨rfl, rfl, rfl, by decide +kernel, rfl, by decide +kernel, by decide +kernel⟩
abbrev s_check_elements : Stmt := top 15
abbrev n_check_elements : List Str := ["size", "points", "seen", "element"]
theorem sc_check_elements : FnScope n_check_elements ["size", "points"] (defScope s_check_elements) := ⟨rfl, rfl, rfl, by decide +kernel, rfl, by decide +kernel, by decide +kernel⟩
abbrev s_are_arrows : Stmt := top 16
abbrev n_are_arrows : List Str := ["size", "arrows", "targets", "source", "target"]
theorem sc_are_arrows : FnScope n_are_arrows ["size", "arrows"] (defScope s_are_arrows) := ⟨rfl, rfl, rfl, by decide +kernel, rfl, by decide +kernel, by decide +kernel⟩
abbrev s_row_from : Stmt := top 18
abbrev n_row_from : List Str := ["arrows", "element", "row"]
theorem sc_row_from : FnScope n_row_from ["arrows", "element"] (defScope s_row_from) := ⟨rfl, rfl, rfl, by decide +kernel, rfl, by decide +kernel, by decide +kernel⟩
abbrev s_moved : Stmt := top 19
abbrev n_moved : List Str := ["arrows", "steps", "found", "seen", "targets", "source", "row", "closed", "place", "element", "target"]
theorem sc_moved : FnScope n_moved ["arrows", "steps"] (defScope s_moved) := ⟨rfl, rfl, rfl, by decide +kernel, rfl, by decide +kernel, by decide +kernel⟩
abbrev s_check_map : Stmt := top 23
abbrev n_check_map : List Str := ["value"]
theorem sc_check_map : FnScope n_check_map ["value"] (defScope s_check_map) := ⟨rfl, rfl, rfl, by decide +kernel, rfl, by decide +kernel, by decide +kernel⟩
abbrev s_greatest_divisor : Stmt := top 26
abbrev n_greatest_divisor : List Str := ["one", "other"]
theorem sc_greatest_divisor : FnScope n_greatest_divisor ["one", "other"] (defScope s_greatest_divisor) := ⟨rfl, rfl, rfl, by decide +kernel, rfl, by decide +kernel, by decide +kernel⟩
abbrev s_largest : Stmt := top 27
abbrev n_largest : List Str := ["numbers", "least", "found", "number"]
theorem sc_largest : FnScope n_largest ["numbers", "least"] (defScope s_largest) := ⟨rfl, rfl, rfl, by decide +kernel, rfl, by decide +kernel, by decide +kernel⟩
abbrev s_parts_of : Stmt := top 28
abbrev n_parts_of : List Str := ["given", "arrows", "targets", "cycles", "chains", "seen", "element", "target", "one"]
theorem sc_parts_of : FnScope n_parts_of ["given"] (defScope s_parts_of) := ⟨rfl, rfl, rfl, by decide +kernel, rfl, by decide +kernel, by decide +kernel⟩
abbrev s_are_counts : Stmt := top 29
abbrev n_are_counts : List Str := ["value", "one", "number"]
theorem sc_are_counts : FnScope n_are_counts ["value"] (defScope s_are_counts) := ⟨rfl, rfl, rfl, by decide +kernel, rfl, by decide +kernel, by decide +kernel⟩
abbrev s_ordered : Stmt := top 30
abbrev n_ordered : List Str := ["counts", "length"]
theorem sc_ordered : FnScope n_ordered ["counts"] (defScope s_ordered) := ⟨rfl, rfl, rfl, by decide +kernel, rfl, by decide +kernel, by decide +kernel⟩
abbrev s_counts_of : Stmt := top 35
abbrev n_counts_of : List Str := ["parts", "found", "part"]
theorem sc_counts_of : FnScope n_counts_of ["parts"] (defScope s_counts_of) := ⟨rfl, rfl, rfl, by decide +kernel, rfl, by decide +kernel, by decide +kernel⟩
abbrev s_shape_of : Stmt := top 36
abbrev n_shape_of : List Str := ["given", "cycles", "chains"]
theorem sc_shape_of : FnScope n_shape_of ["given"] (defScope s_shape_of) := ⟨rfl, rfl, rfl, by decide +kernel, rfl, by decide +kernel, by decide +kernel⟩
abbrev s_common_multiple : Stmt := top 38
abbrev n_common_multiple : List Str := ["numbers", "found", "number"]
theorem sc_common_multiple : FnScope n_common_multiple ["numbers"] (defScope s_common_multiple) := ⟨rfl, rfl, rfl, by decide +kernel, rfl, by decide +kernel, by decide +kernel⟩
abbrev s_repetition_of : Stmt := top 39
abbrev n_repetition_of : List Str := ["cycles", "chains"]
theorem sc_repetition_of : FnScope n_repetition_of ["cycles", "chains"] (defScope s_repetition_of) := ⟨rfl, rfl, rfl, by decide +kernel, rfl, by decide +kernel, by decide +kernel⟩
abbrev s_repetition : Stmt := top 40
abbrev n_repetition : List Str := ["given", "cycles", "chains", "cycle", "chain"]
theorem sc_repetition : FnScope n_repetition ["given"] (defScope s_repetition) := ⟨rfl, rfl, rfl, by decide +kernel, rfl, by decide +kernel, by decide +kernel⟩
abbrev s_fate : Stmt := top 41
abbrev n_fate : List Str := ["given", "element", "arrows", "row"]
theorem sc_fate : FnScope n_fate ["given", "element"] (defScope s_fate) := ⟨rfl, rfl, rfl, by decide +kernel, rfl, by decide +kernel, by decide +kernel⟩
abbrev s_are_lengths : Stmt := top 44
abbrev n_are_lengths : List Str := ["value", "length"]
theorem sc_are_lengths : FnScope n_are_lengths ["value"] (defScope s_are_lengths) := ⟨rfl, rfl, rfl, by decide +kernel, rfl, by decide +kernel, by decide +kernel⟩
abbrev s_counted : Stmt := top 45
abbrev n_counted : List Str := ["lengths", "found", "length"]
theorem sc_counted : FnScope n_counted ["lengths"] (defScope s_counted) := ⟨rfl, rfl, rfl, by decide +kernel, rfl, by decide +kernel, by decide +kernel⟩
abbrev s_Map__init : Stmt := inClass (top 20) 0
abbrev n_Map__init : List Str := ["self", "size", "arrows", "source"]
theorem sc_Map__init : FnScope n_Map__init ["self", "size", "arrows"] (defScope s_Map__init) := ⟨rfl, rfl, rfl, by decide +kernel, rfl, by decide +kernel, by decide +kernel⟩
abbrev s_Map_identity : Stmt := inClass (top 20) 1
abbrev n_Map_identity : List Str := ["cls", "size", "element"]
theorem sc_Map_identity : FnScope n_Map_identity ["cls", "size"] (defScope s_Map_identity) := ⟨rfl, rfl, rfl, by decide +kernel, rfl, by decide +kernel, by decide +kernel⟩
abbrev s_Map_size : Stmt := inClass (top 20) 6
abbrev n_Map_size : List Str := ["self"]
theorem sc_Map_size : FnScope n_Map_size ["self"] (defScope s_Map_size) := ⟨rfl, rfl, rfl, by decide +kernel, rfl, by decide +kernel, by decide +kernel⟩
abbrev s_Map_arrows : Stmt := inClass (top 20) 7
abbrev n_Map_arrows : List Str := ["self"]
theorem sc_Map_arrows : FnScope n_Map_arrows ["self"] (defScope s_Map_arrows) := ⟨rfl, rfl, rfl, by decide +kernel, rfl, by decide +kernel, by decide +kernel⟩
abbrev s_Map_power : Stmt := inClass (top 20) 10
abbrev n_Map_power : List Str := ["self", "exponent", "arrows", "source", "target"]
theorem sc_Map_power : FnScope n_Map_power ["self", "exponent"] (defScope s_Map_power) := ⟨rfl, rfl, rfl, by decide +kernel, rfl, by decide +kernel, by decide +kernel⟩
abbrev s_Map__call : Stmt := inClass (top 20) 22
abbrev n_Map__call : List Str := ["self", "element"]
theorem sc_Map__call : FnScope n_Map__call ["self", "element"] (defScope s_Map__call) := ⟨rfl, rfl, rfl, by decide +kernel, rfl, by decide +kernel, by decide +kernel⟩
abbrev s_Map_is_source : Stmt := inClass (top 20) 27
abbrev n_Map_is_source : List Str := ["self", "value"]
theorem sc_Map_is_source : FnScope n_Map_is_source ["self", "value"] (defScope s_Map_is_source) := ⟨rfl, rfl, rfl, by decide +kernel, rfl, by decide +kernel, by decide +kernel⟩
abbrev s_Shape__init : Stmt := inClass (top 34) 0
abbrev n_Shape__init : List Str := ["self", "cycles", "chains"]
theorem sc_Shape__init : FnScope n_Shape__init ["self", "cycles", "chains"] (defScope s_Shape__init) := ⟨rfl, rfl, rfl, by decide +kernel, rfl, by decide +kernel, by decide +kernel⟩
abbrev s_Shape__eq : Stmt := inClass (top 34) 7
abbrev n_Shape__eq : List Str := ["self", "other"]
theorem sc_Shape__eq : FnScope n_Shape__eq ["self", "other"] (defScope s_Shape__eq) := ⟨rfl, rfl, rfl, by decide +kernel, rfl, by decide +kernel, by decide +kernel⟩
abbrev s_GreatMap__init : Stmt := inClass (top 46) 0
abbrev n_GreatMap__init : List Str := ["self", "cycles", "chains"]
theorem sc_GreatMap__init : FnScope n_GreatMap__init ["self", "cycles", "chains"] (defScope s_GreatMap__init) := ⟨rfl, rfl, rfl, by decide +kernel, rfl, by decide +kernel, by decide +kernel⟩
abbrev s_GreatMap_cycles : Stmt := inClass (top 46) 1
abbrev n_GreatMap_cycles : List Str := ["self"]
theorem sc_GreatMap_cycles : FnScope n_GreatMap_cycles ["self"] (defScope s_GreatMap_cycles) := ⟨rfl, rfl, rfl, by decide +kernel, rfl, by decide +kernel, by decide +kernel⟩
abbrev s_GreatMap_chains : Stmt := inClass (top 46) 2
abbrev n_GreatMap_chains : List Str := ["self"]
theorem sc_GreatMap_chains : FnScope n_GreatMap_chains ["self"] (defScope s_GreatMap_chains) := ⟨rfl, rfl, rfl, by decide +kernel, rfl, by decide +kernel, by decide +kernel⟩
abbrev s_GreatMap_length_at : Stmt := inClass (top 46) 3
abbrev n_GreatMap_length_at : List Str := ["self", "place", "lengths"]
theorem sc_GreatMap_length_at : FnScope n_GreatMap_length_at ["self", "place"] (defScope s_GreatMap_length_at) := ⟨rfl, rfl, rfl, by decide +kernel, rfl, by decide +kernel, by decide +kernel⟩
abbrev s_GreatMap_after : Stmt := inClass (top 46) 4
abbrev n_GreatMap_after : List Str := ["self", "place", "exponent", "length", "kind", "index", "offset"]
theorem sc_GreatMap_after : FnScope n_GreatMap_after ["self", "place", "exponent"] (defScope s_GreatMap_after) := ⟨rfl, rfl, rfl, by decide +kernel, rfl, by decide +kernel, by decide +kernel⟩
abbrev s_GreatMap_fate : Stmt := inClass (top 46) 5
abbrev n_GreatMap_fate : List Str := ["self", "place", "length"]
theorem sc_GreatMap_fate : FnScope n_GreatMap_fate ["self", "place"] (defScope s_GreatMap_fate) := ⟨rfl, rfl, rfl, by decide +kernel, rfl, by decide +kernel, by decide +kernel⟩
abbrev s_GreatMap_repetition : Stmt := inClass (top 46) 6
abbrev n_GreatMap_repetition : List Str := ["self"]
theorem sc_GreatMap_repetition : FnScope n_GreatMap_repetition ["self"] (defScope s_GreatMap_repetition) := ⟨rfl, rfl, rfl, by decide +kernel, rfl, by decide +kernel, by decide +kernel⟩
abbrev s_GreatMap_shape : Stmt := inClass (top 46) 7
abbrev n_GreatMap_shape : List Str := ["self"]
theorem sc_GreatMap_shape : FnScope n_GreatMap_shape ["self"] (defScope s_GreatMap_shape) := ⟨rfl, rfl, rfl, by decide +kernel, rfl, by decide +kernel, by decide +kernel⟩
abbrev s_GreatMap__eq : Stmt := inClass (top 46) 8
abbrev n_GreatMap__eq : List Str := ["self", "other"]
theorem sc_GreatMap__eq : FnScope n_GreatMap__eq ["self", "other"] (defScope s_GreatMap__eq) := ⟨rfl, rfl, rfl, by decide +kernel, rfl, by decide +kernel, by decide +kernel⟩
abbrev s_GreatMap__repr : Stmt := inClass (top 46) 9
abbrev n_GreatMap__repr : List Str := ["self"]
theorem sc_GreatMap__repr : FnScope n_GreatMap__repr ["self"] (defScope s_GreatMap__repr) := ⟨rfl, rfl, rfl, by decide +kernel, rfl, by decide +kernel, by decide +kernel⟩
abbrev s_InvalidMap__init : Stmt := inClass (top 2) 0
abbrev n_InvalidMap__init : List Str := ["self", "part"]
theorem sc_InvalidMap__init : FnScope n_InvalidMap__init ["self", "part"] (defScope s_InvalidMap__init) := ⟨rfl, rfl, rfl, by decide +kernel, rfl, by decide +kernel, by decide +kernel⟩
abbrev s_InvalidNumber__init : Stmt := inClass (top 6) 0
abbrev n_InvalidNumber__init : List Str := ["self", "value"]
theorem sc_InvalidNumber__init : FnScope n_InvalidNumber__init ["self", "value"] (defScope s_InvalidNumber__init) := ⟨rfl, rfl, rfl, by decide +kernel, rfl, by decide +kernel, by decide +kernel⟩
abbrev s_InvalidSize__init : Stmt := inClass (top 3) 0
abbrev s_InvalidElement__init : Stmt := inClass (top 4) 0
abbrev n_InvalidElement__init : List Str := ["self", "value"]
theorem sc_InvalidElement__init : FnScope n_InvalidElement__init ["self", "value"] (defScope s_InvalidElement__init) := ⟨rfl, rfl, rfl, by decide +kernel, rfl, by decide +kernel, by decide +kernel⟩
abbrev s_InvalidShape__init : Stmt := inClass (top 5) 0
abbrev s_l_hand : Stmt := top 48
abbrev n_l_hand : List Str := ["_law_script", "_law_k", "_law_cell", "_law_seed"]
theorem sc_l_hand : FnScope n_l_hand ["_law_script", "_law_k"] (defScope s_l_hand) := ⟨rfl, rfl, rfl, by decide +kernel, rfl, by decide +kernel, by decide +kernel⟩
abbrev s_l_draw : Stmt := top 49
abbrev n_l_draw : List Str := ["_law_pool", "_law_size", "_law_found"]
theorem sc_l_draw : FnScope n_l_draw ["_law_pool", "_law_size"] (defScope s_l_draw) := ⟨rfl, rfl, rfl, by decide +kernel, rfl, by decide +kernel, by decide +kernel⟩
abbrev s_l_lengths : Stmt := top 50
abbrev n_l_lengths : List Str := ["_law_pool", "_law_most", "_law_turn"]
theorem sc_l_lengths : FnScope n_l_lengths ["_law_pool", "_law_most"] (defScope s_l_lengths) := ⟨rfl, rfl, rfl, by decide +kernel, rfl, by decide +kernel, by decide +kernel⟩
abbrev s_l_places : Stmt := top 51
abbrev n_l_places : List Str := ["_law_cycles", "_law_chains", "_law_found", "_law_kind", "_law_lengths_here", "_law_index", "_law_length", "_law_offset"]
theorem sc_l_places : FnScope n_l_places ["_law_cycles", "_law_chains"] (defScope s_l_places) := ⟨rfl, rfl, rfl, by decide +kernel, rfl, by decide +kernel, by decide +kernel⟩
abbrev s_l_small : Stmt := top 52
abbrev n_l_small : List Str := ["_law_pool", "_law_cycles", "_law_chains", "_law_great", "_law_places_here", "_law_arrows", "_law_at", "_law_kind", "_law_index", "_law_offset", "_law_length", "_law_given", "_law_place", "_law_exponent", "_law_end"]
theorem sc_l_small : FnScope n_l_small ["_law_pool", "_law_cycles", "_law_chains"] (defScope s_l_small) := ⟨rfl, rfl, rfl, by decide +kernel, rfl, by decide +kernel, by decide +kernel⟩
abbrev s_l_huge : Stmt := top 53
abbrev n_l_huge : List Str := ["_law_pool", "_law_cycle", "_law_chain", "_law_great", "_law_offset", "_law_far", "_law_exponent", "_law_due", "_law_index", "_law_period", "_law_number"]
theorem sc_l_huge : FnScope n_l_huge ["_law_pool"] (defScope s_l_huge) := ⟨rfl, rfl, rfl, by decide +kernel, rfl, by decide +kernel, by decide +kernel⟩
abbrev s_law : Stmt := top 54
abbrev n_law : List Str := ["_law_script", "_law_k", "_law_pool", "_law_cycles", "_law_chains", "_law_great", "_law_rows", "_law_held"]
theorem sc_law : FnScope n_law ["_law_script"] (defScope s_law) := ⟨rfl, rfl, rfl, by decide +kernel, rfl, by decide +kernel, by decide +kernel⟩
set_option genInjectivity false
set_option genSizeOf false
structure Txt (K : PySem.W.Frag) (mg : Str → Option Value) where
  f_is_integer : Addr
  f_in_range : Addr
  f_check_size : Addr
  f_check_elements : Addr
  f_are_arrows : Addr
  f_row_from : Addr
  f_moved : Addr
  f_check_map : Addr
  f_greatest_divisor : Addr
  f_largest : Addr
  f_parts_of : Addr
  f_are_counts : Addr
  f_ordered : Addr
  f_counts_of : Addr
  f_shape_of : Addr
  f_common_multiple : Addr
  f_repetition_of : Addr
  f_repetition : Addr
  f_fate : Addr
  f_are_lengths : Addr
  f_counted : Addr
  f_l_hand : Addr
  f_l_draw : Addr
  f_l_lengths : Addr
  f_l_places : Addr
  f_l_small : Addr
  f_l_huge : Addr
  f_law : Addr
  C_Shape : Addr
  f_Shape__init : Addr
  f_Shape__eq : Addr
  C_GreatMap : Addr
  f_GreatMap__init : Addr
  p_GreatMap_cycles : Addr
  f_GreatMap_cycles : Addr
  p_GreatMap_chains : Addr
  f_GreatMap_chains : Addr
  f_GreatMap_length_at : Addr
  f_GreatMap_after : Addr
  f_GreatMap_fate : Addr
  f_GreatMap_repetition : Addr
  f_GreatMap_shape : Addr
  f_GreatMap__eq : Addr
  f_GreatMap__repr : Addr
  C_Map : Addr
  f_Map__init : Addr
  p_Map_identity : Addr
  f_Map_identity : Addr
  p_Map_size : Addr
  f_Map_size : Addr
  p_Map_arrows : Addr
  f_Map_arrows : Addr
  f_Map_power : Addr
  f_Map__call : Addr
  f_Map_is_source : Addr
  C_InvalidMap : Addr
  f_InvalidMap__init : Addr
  C_InvalidNumber : Addr
  f_InvalidNumber__init : Addr
  C_InvalidSize : Addr
  f_InvalidSize__init : Addr
  C_InvalidElement : Addr
  f_InvalidElement__init : Addr
  C_InvalidShape : Addr
  f_InvalidShape__init : Addr
  A_is_integer : U.FnAt K "is_integer" "is_integer" s_is_integer f_is_integer ["value"]
  g_is_integer : mg "is_integer" = some (.ref f_is_integer)
  A_in_range : U.FnAt K "in_range" "in_range" s_in_range f_in_range ["value", "least", "most"]
  g_in_range : mg "in_range" = some (.ref f_in_range)
  A_check_size : U.FnAt K "check_size" "check_size" s_check_size f_check_size ["size"]
  g_check_size : mg "check_size" = some (.ref f_check_size)
  A_check_elements : U.FnAt K "check_elements" "check_elements" s_check_elements f_check_elements ["size", "points"]
  g_check_elements : mg "check_elements" = some (.ref f_check_elements)
  A_are_arrows : U.FnAt K "are_arrows" "are_arrows" s_are_arrows f_are_arrows ["size", "arrows"]
  g_are_arrows : mg "are_arrows" = some (.ref f_are_arrows)
  A_row_from : U.FnAt K "row_from" "row_from" s_row_from f_row_from ["arrows", "element"]
  g_row_from : mg "row_from" = some (.ref f_row_from)
  A_moved : U.FnAt K "moved" "moved" s_moved f_moved ["arrows", "steps"]
  g_moved : mg "moved" = some (.ref f_moved)
  A_check_map : U.FnAt K "check_map" "check_map" s_check_map f_check_map ["value"]
  g_check_map : mg "check_map" = some (.ref f_check_map)
  A_greatest_divisor : U.FnAt K "greatest_divisor" "greatest_divisor" s_greatest_divisor f_greatest_divisor ["one", "other"]
  g_greatest_divisor : mg "greatest_divisor" = some (.ref f_greatest_divisor)
  A_largest : U.FnAt K "largest" "largest" s_largest f_largest ["numbers", "least"]
  g_largest : mg "largest" = some (.ref f_largest)
  A_parts_of : U.FnAt K "parts_of" "parts_of" s_parts_of f_parts_of ["given"]
  g_parts_of : mg "parts_of" = some (.ref f_parts_of)
  A_are_counts : U.FnAt K "are_counts" "are_counts" s_are_counts f_are_counts ["value"]
  g_are_counts : mg "are_counts" = some (.ref f_are_counts)
  A_ordered : U.FnAt K "ordered" "ordered" s_ordered f_ordered ["counts"]
  g_ordered : mg "ordered" = some (.ref f_ordered)
  A_counts_of : U.FnAt K "counts_of" "counts_of" s_counts_of f_counts_of ["parts"]
  g_counts_of : mg "counts_of" = some (.ref f_counts_of)
  A_shape_of : U.FnAt K "shape_of" "shape_of" s_shape_of f_shape_of ["given"]
  g_shape_of : mg "shape_of" = some (.ref f_shape_of)
  A_common_multiple : U.FnAt K "common_multiple" "common_multiple" s_common_multiple f_common_multiple ["numbers"]
  g_common_multiple : mg "common_multiple" = some (.ref f_common_multiple)
  A_repetition_of : U.FnAt K "repetition_of" "repetition_of" s_repetition_of f_repetition_of ["cycles", "chains"]
  g_repetition_of : mg "repetition_of" = some (.ref f_repetition_of)
  A_repetition : U.FnAt K "repetition" "repetition" s_repetition f_repetition ["given"]
  g_repetition : mg "repetition" = some (.ref f_repetition)
  A_fate : U.FnAt K "fate" "fate" s_fate f_fate ["given", "element"]
  g_fate : mg "fate" = some (.ref f_fate)
  A_are_lengths : U.FnAt K "are_lengths" "are_lengths" s_are_lengths f_are_lengths ["value"]
  g_are_lengths : mg "are_lengths" = some (.ref f_are_lengths)
  A_counted : U.FnAt K "counted" "counted" s_counted f_counted ["lengths"]
  g_counted : mg "counted" = some (.ref f_counted)
  A_l_hand : U.FnAt K "_law_hand" "_law_hand" s_l_hand f_l_hand ["_law_script", "_law_k"]
  g_l_hand : mg "_law_hand" = some (.ref f_l_hand)
  A_l_draw : U.FnAt K "_law_draw" "_law_draw" s_l_draw f_l_draw ["_law_pool", "_law_size"]
  g_l_draw : mg "_law_draw" = some (.ref f_l_draw)
  A_l_lengths : U.FnAt K "_law_lengths" "_law_lengths" s_l_lengths f_l_lengths ["_law_pool", "_law_most"]
  g_l_lengths : mg "_law_lengths" = some (.ref f_l_lengths)
  A_l_places : U.FnAt K "_law_places" "_law_places" s_l_places f_l_places ["_law_cycles", "_law_chains"]
  g_l_places : mg "_law_places" = some (.ref f_l_places)
  A_l_small : U.FnAt K "_law_small" "_law_small" s_l_small f_l_small ["_law_pool", "_law_cycles", "_law_chains"]
  g_l_small : mg "_law_small" = some (.ref f_l_small)
  A_l_huge : U.FnAt K "_law_huge" "_law_huge" s_l_huge f_l_huge ["_law_pool"]
  g_l_huge : mg "_law_huge" = some (.ref f_l_huge)
  A_law : U.FnAt K "law" "law" s_law f_law ["_law_script"]
  L_law : ∃ fd, Fun K "law" "law" s_law f_law fd ∧ ∀ (s : Shared) (u : Value), BindsTo s fd ⟨[u], []⟩ [("_law_script", u)]
  g_law : mg "law" = some (.ref f_law)
  g_Shape : mg "Shape" = some (.ref C_Shape)
  o_Shape : U.OwnC K C_Shape
  kit_int_Shape : PySem.W.kitOne K (.ref C_Shape) (.type "int") = some false
  kit_bool_Shape : PySem.W.kitOne K (.ref C_Shape) (.type "bool") = some false
  kn_NoneType_Shape : PySem.W.kitOne K (.type "NoneType") (.ref C_Shape) = some false
  nf_NoneType_Shape : PySem.W.notFirst K C_Shape (.type "NoneType") = true
  kn_int_Shape : PySem.W.kitOne K (.type "int") (.ref C_Shape) = some false
  nf_int_Shape : PySem.W.notFirst K C_Shape (.type "int") = true
  kn_bool_Shape : PySem.W.kitOne K (.type "bool") (.ref C_Shape) = some false
  nf_bool_Shape : PySem.W.notFirst K C_Shape (.type "bool") = true
  kn_str_Shape : PySem.W.kitOne K (.type "str") (.ref C_Shape) = some false
  nf_str_Shape : PySem.W.notFirst K C_Shape (.type "str") = true
  kn_list_Shape : PySem.W.kitOne K (.type "list") (.ref C_Shape) = some false
  nf_list_Shape : PySem.W.notFirst K C_Shape (.type "list") = true
  kn_dict_Shape : PySem.W.kitOne K (.type "dict") (.ref C_Shape) = some false
  nf_dict_Shape : PySem.W.notFirst K C_Shape (.type "dict") = true
  kn_tuple_Shape : PySem.W.kitOne K (.type "tuple") (.ref C_Shape) = some false
  nf_tuple_Shape : PySem.W.notFirst K C_Shape (.type "tuple") = true
  self_Shape : PySem.W.kitOne K (.ref C_Shape) (.ref C_Shape) = some true
  na_own_cycles_Shape : NoAttr K C_Shape "own_cycles"
  na_own_chains_Shape : NoAttr K C_Shape "own_chains"
  ne_Shape : PySem.W.findIn K (.ref C_Shape) "__ne__" = some (some (.builtin "object.__ne__"))
  A_Shape__init : U.FnAt K "__init__" "Shape.__init__" s_Shape__init f_Shape__init ["self", "cycles", "chains"]
  m_Shape__init : PySem.W.findIn K (.ref C_Shape) "__init__" = some (some (.ref f_Shape__init))
  i_Shape__init : PySem.W.isFn K (.ref f_Shape__init) = true
  M_Shape : Mk K C_Shape f_Shape__init
  A_Shape__eq : U.FnAt K "__eq__" "Shape.__eq__" s_Shape__eq f_Shape__eq ["self", "other"]
  m_Shape__eq : PySem.W.findIn K (.ref C_Shape) "__eq__" = some (some (.ref f_Shape__eq))
  i_Shape__eq : PySem.W.isFn K (.ref f_Shape__eq) = true
  g_GreatMap : mg "GreatMap" = some (.ref C_GreatMap)
  o_GreatMap : U.OwnC K C_GreatMap
  kit_int_GreatMap : PySem.W.kitOne K (.ref C_GreatMap) (.type "int") = some false
  kit_bool_GreatMap : PySem.W.kitOne K (.ref C_GreatMap) (.type "bool") = some false
  kit_list_GreatMap : PySem.W.kitOne K (.ref C_GreatMap) (.type "list") = some false
  kit_tuple_GreatMap : PySem.W.kitOne K (.ref C_GreatMap) (.type "tuple") = some false
  kn_NoneType_GreatMap : PySem.W.kitOne K (.type "NoneType") (.ref C_GreatMap) = some false
  nf_NoneType_GreatMap : PySem.W.notFirst K C_GreatMap (.type "NoneType") = true
  kn_int_GreatMap : PySem.W.kitOne K (.type "int") (.ref C_GreatMap) = some false
  nf_int_GreatMap : PySem.W.notFirst K C_GreatMap (.type "int") = true
  kn_bool_GreatMap : PySem.W.kitOne K (.type "bool") (.ref C_GreatMap) = some false
  nf_bool_GreatMap : PySem.W.notFirst K C_GreatMap (.type "bool") = true
  kn_str_GreatMap : PySem.W.kitOne K (.type "str") (.ref C_GreatMap) = some false
  nf_str_GreatMap : PySem.W.notFirst K C_GreatMap (.type "str") = true
  kn_list_GreatMap : PySem.W.kitOne K (.type "list") (.ref C_GreatMap) = some false
  nf_list_GreatMap : PySem.W.notFirst K C_GreatMap (.type "list") = true
  kn_dict_GreatMap : PySem.W.kitOne K (.type "dict") (.ref C_GreatMap) = some false
  nf_dict_GreatMap : PySem.W.notFirst K C_GreatMap (.type "dict") = true
  kn_tuple_GreatMap : PySem.W.kitOne K (.type "tuple") (.ref C_GreatMap) = some false
  nf_tuple_GreatMap : PySem.W.notFirst K C_GreatMap (.type "tuple") = true
  self_GreatMap : PySem.W.kitOne K (.ref C_GreatMap) (.ref C_GreatMap) = some true
  na_own_cycles_GreatMap : NoAttr K C_GreatMap "own_cycles"
  na_own_chains_GreatMap : NoAttr K C_GreatMap "own_chains"
  ne_GreatMap : PySem.W.findIn K (.ref C_GreatMap) "__ne__" = some (some (.builtin "object.__ne__"))
  A_GreatMap__init : U.FnAt K "__init__" "GreatMap.__init__" s_GreatMap__init f_GreatMap__init ["self", "cycles", "chains"]
  m_GreatMap__init : PySem.W.findIn K (.ref C_GreatMap) "__init__" = some (some (.ref f_GreatMap__init))
  i_GreatMap__init : PySem.W.isFn K (.ref f_GreatMap__init) = true
  M_GreatMap : Mk K C_GreatMap f_GreatMap__init
  A_GreatMap_cycles : U.FnAt K "cycles" "GreatMap.cycles" s_GreatMap_cycles f_GreatMap_cycles ["self"]
  P_GreatMap_cycles : PropOf K C_GreatMap "cycles" p_GreatMap_cycles f_GreatMap_cycles
  A_GreatMap_chains : U.FnAt K "chains" "GreatMap.chains" s_GreatMap_chains f_GreatMap_chains ["self"]
  P_GreatMap_chains : PropOf K C_GreatMap "chains" p_GreatMap_chains f_GreatMap_chains
  A_GreatMap_length_at : U.FnAt K "length_at" "GreatMap.length_at" s_GreatMap_length_at f_GreatMap_length_at ["self", "place"]
  m_GreatMap_length_at : PySem.W.findIn K (.ref C_GreatMap) "length_at" = some (some (.ref f_GreatMap_length_at))
  i_GreatMap_length_at : PySem.W.isFn K (.ref f_GreatMap_length_at) = true
  meth_GreatMap_length_at : Meth K C_GreatMap "length_at" f_GreatMap_length_at
  A_GreatMap_after : U.FnAt K "after" "GreatMap.after" s_GreatMap_after f_GreatMap_after ["self", "place", "exponent"]
  m_GreatMap_after : PySem.W.findIn K (.ref C_GreatMap) "after" = some (some (.ref f_GreatMap_after))
  i_GreatMap_after : PySem.W.isFn K (.ref f_GreatMap_after) = true
  meth_GreatMap_after : Meth K C_GreatMap "after" f_GreatMap_after
  A_GreatMap_fate : U.FnAt K "fate" "GreatMap.fate" s_GreatMap_fate f_GreatMap_fate ["self", "place"]
  m_GreatMap_fate : PySem.W.findIn K (.ref C_GreatMap) "fate" = some (some (.ref f_GreatMap_fate))
  i_GreatMap_fate : PySem.W.isFn K (.ref f_GreatMap_fate) = true
  meth_GreatMap_fate : Meth K C_GreatMap "fate" f_GreatMap_fate
  A_GreatMap_repetition : U.FnAt K "repetition" "GreatMap.repetition" s_GreatMap_repetition f_GreatMap_repetition ["self"]
  m_GreatMap_repetition : PySem.W.findIn K (.ref C_GreatMap) "repetition" = some (some (.ref f_GreatMap_repetition))
  i_GreatMap_repetition : PySem.W.isFn K (.ref f_GreatMap_repetition) = true
  meth_GreatMap_repetition : Meth K C_GreatMap "repetition" f_GreatMap_repetition
  A_GreatMap_shape : U.FnAt K "shape" "GreatMap.shape" s_GreatMap_shape f_GreatMap_shape ["self"]
  m_GreatMap_shape : PySem.W.findIn K (.ref C_GreatMap) "shape" = some (some (.ref f_GreatMap_shape))
  i_GreatMap_shape : PySem.W.isFn K (.ref f_GreatMap_shape) = true
  meth_GreatMap_shape : Meth K C_GreatMap "shape" f_GreatMap_shape
  A_GreatMap__eq : U.FnAt K "__eq__" "GreatMap.__eq__" s_GreatMap__eq f_GreatMap__eq ["self", "other"]
  m_GreatMap__eq : PySem.W.findIn K (.ref C_GreatMap) "__eq__" = some (some (.ref f_GreatMap__eq))
  i_GreatMap__eq : PySem.W.isFn K (.ref f_GreatMap__eq) = true
  A_GreatMap__repr : U.FnAt K "__repr__" "GreatMap.__repr__" s_GreatMap__repr f_GreatMap__repr ["self"]
  m_GreatMap__repr : PySem.W.findIn K (.ref C_GreatMap) "__repr__" = some (some (.ref f_GreatMap__repr))
  i_GreatMap__repr : PySem.W.isFn K (.ref f_GreatMap__repr) = true
  g_Map : mg "Map" = some (.ref C_Map)
  o_Map : U.OwnC K C_Map
  kit_int_Map : PySem.W.kitOne K (.ref C_Map) (.type "int") = some false
  kit_bool_Map : PySem.W.kitOne K (.ref C_Map) (.type "bool") = some false
  kn_NoneType_Map : PySem.W.kitOne K (.type "NoneType") (.ref C_Map) = some false
  nf_NoneType_Map : PySem.W.notFirst K C_Map (.type "NoneType") = true
  kn_int_Map : PySem.W.kitOne K (.type "int") (.ref C_Map) = some false
  nf_int_Map : PySem.W.notFirst K C_Map (.type "int") = true
  kn_bool_Map : PySem.W.kitOne K (.type "bool") (.ref C_Map) = some false
  nf_bool_Map : PySem.W.notFirst K C_Map (.type "bool") = true
  kn_str_Map : PySem.W.kitOne K (.type "str") (.ref C_Map) = some false
  nf_str_Map : PySem.W.notFirst K C_Map (.type "str") = true
  kn_list_Map : PySem.W.kitOne K (.type "list") (.ref C_Map) = some false
  nf_list_Map : PySem.W.notFirst K C_Map (.type "list") = true
  kn_dict_Map : PySem.W.kitOne K (.type "dict") (.ref C_Map) = some false
  nf_dict_Map : PySem.W.notFirst K C_Map (.type "dict") = true
  kn_tuple_Map : PySem.W.kitOne K (.type "tuple") (.ref C_Map) = some false
  nf_tuple_Map : PySem.W.notFirst K C_Map (.type "tuple") = true
  kx_Map_Shape : PySem.W.kitOne K (.ref C_Map) (.ref C_Shape) = some false
  nf_Map_Shape : PySem.W.notFirst K C_Shape (.ref C_Map) = true
  self_Map : PySem.W.kitOne K (.ref C_Map) (.ref C_Map) = some true
  na_own_size_Map : NoAttr K C_Map "own_size"
  na_own_arrows_Map : NoAttr K C_Map "own_arrows"
  A_Map__init : U.FnAt K "__init__" "Map.__init__" s_Map__init f_Map__init ["self", "size", "arrows"]
  m_Map__init : PySem.W.findIn K (.ref C_Map) "__init__" = some (some (.ref f_Map__init))
  i_Map__init : PySem.W.isFn K (.ref f_Map__init) = true
  M_Map : Mk K C_Map f_Map__init
  R_Map : ClX.CRead K C_Map (.type "type")
  A_Map_identity : U.FnAt K "identity" "Map.identity" s_Map_identity f_Map_identity ["cls", "size"]
  cm_Map_identity : ClX.CMet K C_Map (.type "type") "identity" p_Map_identity f_Map_identity
  A_Map_size : U.FnAt K "size" "Map.size" s_Map_size f_Map_size ["self"]
  P_Map_size : PropOf K C_Map "size" p_Map_size f_Map_size
  A_Map_arrows : U.FnAt K "arrows" "Map.arrows" s_Map_arrows f_Map_arrows ["self"]
  P_Map_arrows : PropOf K C_Map "arrows" p_Map_arrows f_Map_arrows
  A_Map_power : U.FnAt K "power" "Map.power" s_Map_power f_Map_power ["self", "exponent"]
  m_Map_power : PySem.W.findIn K (.ref C_Map) "power" = some (some (.ref f_Map_power))
  i_Map_power : PySem.W.isFn K (.ref f_Map_power) = true
  meth_Map_power : Meth K C_Map "power" f_Map_power
  A_Map__call : U.FnAt K "__call__" "Map.__call__" s_Map__call f_Map__call ["self", "element"]
  m_Map__call : PySem.W.findIn K (.ref C_Map) "__call__" = some (some (.ref f_Map__call))
  i_Map__call : PySem.W.isFn K (.ref f_Map__call) = true
  fi_Map__call : PySem.W.fnIn K f_Map__call = true
  A_Map_is_source : U.FnAt K "is_source" "Map.is_source" s_Map_is_source f_Map_is_source ["self", "value"]
  m_Map_is_source : PySem.W.findIn K (.ref C_Map) "is_source" = some (some (.ref f_Map_is_source))
  i_Map_is_source : PySem.W.isFn K (.ref f_Map_is_source) = true
  meth_Map_is_source : Meth K C_Map "is_source" f_Map_is_source
  g_InvalidMap : mg "InvalidMap" = some (.ref C_InvalidMap)
  x_InvalidMap : OexG K C_InvalidMap
  xf_InvalidMap : XfC K C_InvalidMap
  xe_InvalidMap : ExcC K C_InvalidMap
  te_InvalidMap : PySem.W.exmOne K (.ref C_InvalidMap) (.ref C_InvalidMap) = some true
  kit_ValueError_InvalidMap : PySem.W.kitOne K (.ref C_InvalidMap) (.type "ValueError") = some true
  na_part_InvalidMap : PySem.W.findIn K (.ref C_InvalidMap) "part" = some none
  A_InvalidMap__init : U.FnAt K "__init__" "InvalidMap.__init__" s_InvalidMap__init f_InvalidMap__init ["self", "part"]
  m_InvalidMap__init : PySem.W.findIn K (.ref C_InvalidMap) "__init__" = some (some (.ref f_InvalidMap__init))
  ti_InvalidMap__init : PySem.W.typeIn K (.ref f_InvalidMap__init) = some (.type "function")
  g_InvalidNumber : mg "InvalidNumber" = some (.ref C_InvalidNumber)
  x_InvalidNumber : OexG K C_InvalidNumber
  xf_InvalidNumber : XfC K C_InvalidNumber
  xe_InvalidNumber : ExcC K C_InvalidNumber
  te_InvalidNumber : PySem.W.exmOne K (.ref C_InvalidNumber) (.ref C_InvalidNumber) = some true
  kit_ValueError_InvalidNumber : PySem.W.kitOne K (.ref C_InvalidNumber) (.type "ValueError") = some true
  na_value_InvalidNumber : PySem.W.findIn K (.ref C_InvalidNumber) "value" = some none
  A_InvalidNumber__init : U.FnAt K "__init__" "InvalidNumber.__init__" s_InvalidNumber__init f_InvalidNumber__init ["self", "value"]
  m_InvalidNumber__init : PySem.W.findIn K (.ref C_InvalidNumber) "__init__" = some (some (.ref f_InvalidNumber__init))
  ti_InvalidNumber__init : PySem.W.typeIn K (.ref f_InvalidNumber__init) = some (.type "function")
  g_InvalidSize : mg "InvalidSize" = some (.ref C_InvalidSize)
  x_InvalidSize : OexG K C_InvalidSize
  xf_InvalidSize : XfC K C_InvalidSize
  xe_InvalidSize : ExcC K C_InvalidSize
  te_InvalidSize : PySem.W.exmOne K (.ref C_InvalidSize) (.ref C_InvalidSize) = some true
  kit_ValueError_InvalidSize : PySem.W.kitOne K (.ref C_InvalidSize) (.type "ValueError") = some true
  na_value_InvalidSize : PySem.W.findIn K (.ref C_InvalidSize) "value" = some none
  A_InvalidSize__init : U.FnAt K "__init__" "InvalidSize.__init__" s_InvalidSize__init f_InvalidSize__init ["self", "value"]
  m_InvalidSize__init : PySem.W.findIn K (.ref C_InvalidSize) "__init__" = some (some (.ref f_InvalidSize__init))
  ti_InvalidSize__init : PySem.W.typeIn K (.ref f_InvalidSize__init) = some (.type "function")
  g_InvalidElement : mg "InvalidElement" = some (.ref C_InvalidElement)
  x_InvalidElement : OexG K C_InvalidElement
  xf_InvalidElement : XfC K C_InvalidElement
  xe_InvalidElement : ExcC K C_InvalidElement
  te_InvalidElement : PySem.W.exmOne K (.ref C_InvalidElement) (.ref C_InvalidElement) = some true
  kit_ValueError_InvalidElement : PySem.W.kitOne K (.ref C_InvalidElement) (.type "ValueError") = some true
  na_value_InvalidElement : PySem.W.findIn K (.ref C_InvalidElement) "value" = some none
  A_InvalidElement__init : U.FnAt K "__init__" "InvalidElement.__init__" s_InvalidElement__init f_InvalidElement__init ["self", "value"]
  m_InvalidElement__init : PySem.W.findIn K (.ref C_InvalidElement) "__init__" = some (some (.ref f_InvalidElement__init))
  ti_InvalidElement__init : PySem.W.typeIn K (.ref f_InvalidElement__init) = some (.type "function")
  g_InvalidShape : mg "InvalidShape" = some (.ref C_InvalidShape)
  x_InvalidShape : OexG K C_InvalidShape
  xf_InvalidShape : XfC K C_InvalidShape
  xe_InvalidShape : ExcC K C_InvalidShape
  te_InvalidShape : PySem.W.exmOne K (.ref C_InvalidShape) (.ref C_InvalidShape) = some true
  kit_ValueError_InvalidShape : PySem.W.kitOne K (.ref C_InvalidShape) (.type "ValueError") = some true
  na_part_InvalidShape : PySem.W.findIn K (.ref C_InvalidShape) "part" = some none
  A_InvalidShape__init : U.FnAt K "__init__" "InvalidShape.__init__" s_InvalidShape__init f_InvalidShape__init ["self", "part"]
  m_InvalidShape__init : PySem.W.findIn K (.ref C_InvalidShape) "__init__" = some (some (.ref f_InvalidShape__init))
  ti_InvalidShape__init : PySem.W.typeIn K (.ref f_InvalidShape__init) = some (.type "function")
  n_isinstance : mg "isinstance" = none
  n_int : mg "int" = none
  n_bool : mg "bool" = none
  n_dict : mg "dict" = none
  n_len : mg "len" = none
  n_range : mg "range" = none
  n_list : mg "list" = none
  n_tuple : mg "tuple" = none
  n_max : mg "max" = none
  n_min : mg "min" = none
  n_all : mg "all" = none
  n_sorted : mg "sorted" = none
  n_abs : mg "abs" = none
  n_enumerate : mg "enumerate" = none
  n_repr : mg "repr" = none
  v_MAX_SIZE : ∃ t, mg "MAX_SIZE" = some (.int 300 t)
  v_MAX_PARTS : ∃ t, mg "MAX_PARTS" = some (.int 100 t)
  v_MAX_NUMBER : ∃ t, mg "MAX_NUMBER" = some (.int 1000000000000000000000000000000 t)
theorem mk_txt {K : PySem.W.Frag} {h : Heap} {mg : Str → Option Value} (X : K.In h) (G : h.Ns mainGlobals mg)
    {f_is_integer : Addr} {oc_is_integer kV_is_integer dc_is_integer pm_is_integer cd_is_integer ct_is_integer : Value} {od_is_integer an_is_integer : Option Addr} {sl_is_integer : Array (Option Value)}
    {f_in_range : Addr} {oc_in_range kV_in_range dc_in_range pm_in_range cd_in_range ct_in_range : Value} {od_in_range an_in_range : Option Addr} {sl_in_range : Array (Option Value)}
    {f_check_size : Addr} {oc_check_size kV_check_size dc_check_size pm_check_size cd_check_size ct_check_size : Value} {od_check_size an_check_size : Option Addr} {sl_check_size : Array (Option Value)}
    {f_check_elements : Addr} {oc_check_elements kV_check_elements dc_check_elements pm_check_elements cd_check_elements ct_check_elements : Value} {od_check_elements an_check_elements : Option Addr} {sl_check_elements : Array (Option Value)}
    {f_are_arrows : Addr} {oc_are_arrows kV_are_arrows dc_are_arrows pm_are_arrows cd_are_arrows ct_are_arrows : Value} {od_are_arrows an_are_arrows : Option Addr} {sl_are_arrows : Array (Option Value)}
    {f_row_from : Addr} {oc_row_from kV_row_from dc_row_from pm_row_from cd_row_from ct_row_from : Value} {od_row_from an_row_from : Option Addr} {sl_row_from : Array (Option Value)}
    {f_moved : Addr} {oc_moved kV_moved dc_moved pm_moved cd_moved ct_moved : Value} {od_moved an_moved : Option Addr} {sl_moved : Array (Option Value)}
    {f_check_map : Addr} {oc_check_map kV_check_map dc_check_map pm_check_map cd_check_map ct_check_map : Value} {od_check_map an_check_map : Option Addr} {sl_check_map : Array (Option Value)}
    {f_greatest_divisor : Addr} {oc_greatest_divisor kV_greatest_divisor dc_greatest_divisor pm_greatest_divisor cd_greatest_divisor ct_greatest_divisor : Value} {od_greatest_divisor an_greatest_divisor : Option Addr} {sl_greatest_divisor : Array (Option Value)}
    {f_largest : Addr} {oc_largest kV_largest dc_largest pm_largest cd_largest ct_largest : Value} {od_largest an_largest : Option Addr} {sl_largest : Array (Option Value)}
    {f_parts_of : Addr} {oc_parts_of kV_parts_of dc_parts_of pm_parts_of cd_parts_of ct_parts_of : Value} {od_parts_of an_parts_of : Option Addr} {sl_parts_of : Array (Option Value)}
    {f_are_counts : Addr} {oc_are_counts kV_are_counts dc_are_counts pm_are_counts cd_are_counts ct_are_counts : Value} {od_are_counts an_are_counts : Option Addr} {sl_are_counts : Array (Option Value)}
    {f_ordered : Addr} {oc_ordered kV_ordered dc_ordered pm_ordered cd_ordered ct_ordered : Value} {od_ordered an_ordered : Option Addr} {sl_ordered : Array (Option Value)}
    {f_counts_of : Addr} {oc_counts_of kV_counts_of dc_counts_of pm_counts_of cd_counts_of ct_counts_of : Value} {od_counts_of an_counts_of : Option Addr} {sl_counts_of : Array (Option Value)}
    {f_shape_of : Addr} {oc_shape_of kV_shape_of dc_shape_of pm_shape_of cd_shape_of ct_shape_of : Value} {od_shape_of an_shape_of : Option Addr} {sl_shape_of : Array (Option Value)}
    {f_common_multiple : Addr} {oc_common_multiple kV_common_multiple dc_common_multiple pm_common_multiple cd_common_multiple ct_common_multiple : Value} {od_common_multiple an_common_multiple : Option Addr} {sl_common_multiple : Array (Option Value)}
    {f_repetition_of : Addr} {oc_repetition_of kV_repetition_of dc_repetition_of pm_repetition_of cd_repetition_of ct_repetition_of : Value} {od_repetition_of an_repetition_of : Option Addr} {sl_repetition_of : Array (Option Value)}
    {f_repetition : Addr} {oc_repetition kV_repetition dc_repetition pm_repetition cd_repetition ct_repetition : Value} {od_repetition an_repetition : Option Addr} {sl_repetition : Array (Option Value)}
    {f_fate : Addr} {oc_fate kV_fate dc_fate pm_fate cd_fate ct_fate : Value} {od_fate an_fate : Option Addr} {sl_fate : Array (Option Value)}
    {f_are_lengths : Addr} {oc_are_lengths kV_are_lengths dc_are_lengths pm_are_lengths cd_are_lengths ct_are_lengths : Value} {od_are_lengths an_are_lengths : Option Addr} {sl_are_lengths : Array (Option Value)}
    {f_counted : Addr} {oc_counted kV_counted dc_counted pm_counted cd_counted ct_counted : Value} {od_counted an_counted : Option Addr} {sl_counted : Array (Option Value)}
    {f_l_hand : Addr} {oc_l_hand kV_l_hand dc_l_hand pm_l_hand cd_l_hand ct_l_hand : Value} {od_l_hand an_l_hand : Option Addr} {sl_l_hand : Array (Option Value)}
    {f_l_draw : Addr} {oc_l_draw kV_l_draw dc_l_draw pm_l_draw cd_l_draw ct_l_draw : Value} {od_l_draw an_l_draw : Option Addr} {sl_l_draw : Array (Option Value)}
    {f_l_lengths : Addr} {oc_l_lengths kV_l_lengths dc_l_lengths pm_l_lengths cd_l_lengths ct_l_lengths : Value} {od_l_lengths an_l_lengths : Option Addr} {sl_l_lengths : Array (Option Value)}
    {f_l_places : Addr} {oc_l_places kV_l_places dc_l_places pm_l_places cd_l_places ct_l_places : Value} {od_l_places an_l_places : Option Addr} {sl_l_places : Array (Option Value)}
    {f_l_small : Addr} {oc_l_small kV_l_small dc_l_small pm_l_small cd_l_small ct_l_small : Value} {od_l_small an_l_small : Option Addr} {sl_l_small : Array (Option Value)}
    {f_l_huge : Addr} {oc_l_huge kV_l_huge dc_l_huge pm_l_huge cd_l_huge ct_l_huge : Value} {od_l_huge an_l_huge : Option Addr} {sl_l_huge : Array (Option Value)}
    {f_law : Addr} {oc_law kV_law dc_law pm_law cd_law ct_law : Value} {od_law an_law : Option Addr} {sl_law : Array (Option Value)}
    {C_Shape : Addr}
    {f_Shape__init : Addr} {oc_Shape__init kV_Shape__init dc_Shape__init pm_Shape__init cd_Shape__init ct_Shape__init : Value} {od_Shape__init an_Shape__init : Option Addr} {sl_Shape__init : Array (Option Value)}
    {f_Shape__eq : Addr} {oc_Shape__eq kV_Shape__eq dc_Shape__eq pm_Shape__eq cd_Shape__eq ct_Shape__eq : Value} {od_Shape__eq an_Shape__eq : Option Addr} {sl_Shape__eq : Array (Option Value)}
    {C_GreatMap : Addr}
    {f_GreatMap__init : Addr} {oc_GreatMap__init kV_GreatMap__init dc_GreatMap__init pm_GreatMap__init cd_GreatMap__init ct_GreatMap__init : Value} {od_GreatMap__init an_GreatMap__init : Option Addr} {sl_GreatMap__init : Array (Option Value)}
    {p_GreatMap_cycles : Addr} {r_GreatMap_cycles : List Value}
    {f_GreatMap_cycles : Addr} {oc_GreatMap_cycles kV_GreatMap_cycles dc_GreatMap_cycles pm_GreatMap_cycles cd_GreatMap_cycles ct_GreatMap_cycles : Value} {od_GreatMap_cycles an_GreatMap_cycles : Option Addr} {sl_GreatMap_cycles : Array (Option Value)}
    {p_GreatMap_chains : Addr} {r_GreatMap_chains : List Value}
    {f_GreatMap_chains : Addr} {oc_GreatMap_chains kV_GreatMap_chains dc_GreatMap_chains pm_GreatMap_chains cd_GreatMap_chains ct_GreatMap_chains : Value} {od_GreatMap_chains an_GreatMap_chains : Option Addr} {sl_GreatMap_chains : Array (Option Value)}
    {f_GreatMap_length_at : Addr} {oc_GreatMap_length_at kV_GreatMap_length_at dc_GreatMap_length_at pm_GreatMap_length_at cd_GreatMap_length_at ct_GreatMap_length_at : Value} {od_GreatMap_length_at an_GreatMap_length_at : Option Addr} {sl_GreatMap_length_at : Array (Option Value)}
    {f_GreatMap_after : Addr} {oc_GreatMap_after kV_GreatMap_after dc_GreatMap_after pm_GreatMap_after cd_GreatMap_after ct_GreatMap_after : Value} {od_GreatMap_after an_GreatMap_after : Option Addr} {sl_GreatMap_after : Array (Option Value)}
    {f_GreatMap_fate : Addr} {oc_GreatMap_fate kV_GreatMap_fate dc_GreatMap_fate pm_GreatMap_fate cd_GreatMap_fate ct_GreatMap_fate : Value} {od_GreatMap_fate an_GreatMap_fate : Option Addr} {sl_GreatMap_fate : Array (Option Value)}
    {f_GreatMap_repetition : Addr} {oc_GreatMap_repetition kV_GreatMap_repetition dc_GreatMap_repetition pm_GreatMap_repetition cd_GreatMap_repetition ct_GreatMap_repetition : Value} {od_GreatMap_repetition an_GreatMap_repetition : Option Addr} {sl_GreatMap_repetition : Array (Option Value)}
    {f_GreatMap_shape : Addr} {oc_GreatMap_shape kV_GreatMap_shape dc_GreatMap_shape pm_GreatMap_shape cd_GreatMap_shape ct_GreatMap_shape : Value} {od_GreatMap_shape an_GreatMap_shape : Option Addr} {sl_GreatMap_shape : Array (Option Value)}
    {f_GreatMap__eq : Addr} {oc_GreatMap__eq kV_GreatMap__eq dc_GreatMap__eq pm_GreatMap__eq cd_GreatMap__eq ct_GreatMap__eq : Value} {od_GreatMap__eq an_GreatMap__eq : Option Addr} {sl_GreatMap__eq : Array (Option Value)}
    {f_GreatMap__repr : Addr} {oc_GreatMap__repr kV_GreatMap__repr dc_GreatMap__repr pm_GreatMap__repr cd_GreatMap__repr ct_GreatMap__repr : Value} {od_GreatMap__repr an_GreatMap__repr : Option Addr} {sl_GreatMap__repr : Array (Option Value)}
    {C_Map : Addr}
    {f_Map__init : Addr} {oc_Map__init kV_Map__init dc_Map__init pm_Map__init cd_Map__init ct_Map__init : Value} {od_Map__init an_Map__init : Option Addr} {sl_Map__init : Array (Option Value)}
    {p_Map_identity : Addr} {r_Map_identity : List Value}
    {f_Map_identity : Addr} {oc_Map_identity kV_Map_identity dc_Map_identity pm_Map_identity cd_Map_identity ct_Map_identity : Value} {od_Map_identity an_Map_identity : Option Addr} {sl_Map_identity : Array (Option Value)}
    {p_Map_size : Addr} {r_Map_size : List Value}
    {f_Map_size : Addr} {oc_Map_size kV_Map_size dc_Map_size pm_Map_size cd_Map_size ct_Map_size : Value} {od_Map_size an_Map_size : Option Addr} {sl_Map_size : Array (Option Value)}
    {p_Map_arrows : Addr} {r_Map_arrows : List Value}
    {f_Map_arrows : Addr} {oc_Map_arrows kV_Map_arrows dc_Map_arrows pm_Map_arrows cd_Map_arrows ct_Map_arrows : Value} {od_Map_arrows an_Map_arrows : Option Addr} {sl_Map_arrows : Array (Option Value)}
    {f_Map_power : Addr} {oc_Map_power kV_Map_power dc_Map_power pm_Map_power cd_Map_power ct_Map_power : Value} {od_Map_power an_Map_power : Option Addr} {sl_Map_power : Array (Option Value)}
    {f_Map__call : Addr} {oc_Map__call kV_Map__call dc_Map__call pm_Map__call cd_Map__call ct_Map__call : Value} {od_Map__call an_Map__call : Option Addr} {sl_Map__call : Array (Option Value)}
    {f_Map_is_source : Addr} {oc_Map_is_source kV_Map_is_source dc_Map_is_source pm_Map_is_source cd_Map_is_source ct_Map_is_source : Value} {od_Map_is_source an_Map_is_source : Option Addr} {sl_Map_is_source : Array (Option Value)}
    {C_InvalidMap : Addr} {nm_InvalidMap q_InvalidMap : Str} {N_InvalidMap : Addr} {bs_InvalidMap : List Value} {sn_InvalidMap : List Str} {sub_InvalidMap : List Value} {ab_InvalidMap : Bool} {col_InvalidMap : Option Bool} {dd_InvalidMap : Option Addr} {m0_InvalidMap m1_InvalidMap m2_InvalidMap m3_InvalidMap m5_InvalidMap : Option Value}
    {f_InvalidMap__init : Addr} {oc_InvalidMap__init kV_InvalidMap__init dc_InvalidMap__init pm_InvalidMap__init cd_InvalidMap__init ct_InvalidMap__init : Value} {od_InvalidMap__init an_InvalidMap__init : Option Addr} {sl_InvalidMap__init : Array (Option Value)}
    {C_InvalidNumber : Addr} {nm_InvalidNumber q_InvalidNumber : Str} {N_InvalidNumber : Addr} {bs_InvalidNumber : List Value} {sn_InvalidNumber : List Str} {sub_InvalidNumber : List Value} {ab_InvalidNumber : Bool} {col_InvalidNumber : Option Bool} {dd_InvalidNumber : Option Addr} {m0_InvalidNumber m1_InvalidNumber m2_InvalidNumber m3_InvalidNumber m5_InvalidNumber : Option Value}
    {f_InvalidNumber__init : Addr} {oc_InvalidNumber__init kV_InvalidNumber__init dc_InvalidNumber__init pm_InvalidNumber__init cd_InvalidNumber__init ct_InvalidNumber__init : Value} {od_InvalidNumber__init an_InvalidNumber__init : Option Addr} {sl_InvalidNumber__init : Array (Option Value)}
    {C_InvalidSize : Addr} {nm_InvalidSize q_InvalidSize : Str} {N_InvalidSize : Addr} {bs_InvalidSize : List Value} {sn_InvalidSize : List Str} {sub_InvalidSize : List Value} {ab_InvalidSize : Bool} {col_InvalidSize : Option Bool} {dd_InvalidSize : Option Addr} {m0_InvalidSize m1_InvalidSize m2_InvalidSize m3_InvalidSize m5_InvalidSize : Option Value}
    {f_InvalidSize__init : Addr} {oc_InvalidSize__init kV_InvalidSize__init dc_InvalidSize__init pm_InvalidSize__init cd_InvalidSize__init ct_InvalidSize__init : Value} {od_InvalidSize__init an_InvalidSize__init : Option Addr} {sl_InvalidSize__init : Array (Option Value)}
    {C_InvalidElement : Addr} {nm_InvalidElement q_InvalidElement : Str} {N_InvalidElement : Addr} {bs_InvalidElement : List Value} {sn_InvalidElement : List Str} {sub_InvalidElement : List Value} {ab_InvalidElement : Bool} {col_InvalidElement : Option Bool} {dd_InvalidElement : Option Addr} {m0_InvalidElement m1_InvalidElement m2_InvalidElement m3_InvalidElement m5_InvalidElement : Option Value}
    {f_InvalidElement__init : Addr} {oc_InvalidElement__init kV_InvalidElement__init dc_InvalidElement__init pm_InvalidElement__init cd_InvalidElement__init ct_InvalidElement__init : Value} {od_InvalidElement__init an_InvalidElement__init : Option Addr} {sl_InvalidElement__init : Array (Option Value)}
    {C_InvalidShape : Addr} {nm_InvalidShape q_InvalidShape : Str} {N_InvalidShape : Addr} {bs_InvalidShape : List Value} {sn_InvalidShape : List Str} {sub_InvalidShape : List Value} {ab_InvalidShape : Bool} {col_InvalidShape : Option Bool} {dd_InvalidShape : Option Addr} {m0_InvalidShape m1_InvalidShape m2_InvalidShape m3_InvalidShape m5_InvalidShape : Option Value}
    {f_InvalidShape__init : Addr} {oc_InvalidShape__init kV_InvalidShape__init dc_InvalidShape__init pm_InvalidShape__init cd_InvalidShape__init ct_InvalidShape__init : Value} {od_InvalidShape__init an_InvalidShape__init : Option Addr} {sl_InvalidShape__init : Array (Option Value)}
    {t_MAX_SIZE : Tok}
    {t_MAX_PARTS : Tok}
    {t_MAX_NUMBER : Tok}
    (a_is_integer : PySem.W.nsIn K mainGlobals "is_integer" = some (some (.ref f_is_integer)))
    (l_is_integer : K.lookup f_is_integer = some ⟨oc_is_integer, od_is_integer, .func (PySem.W.fnOf "is_integer" "is_integer" (defArgs s_is_integer) (defBody s_is_integer) (defScope s_is_integer) .none kV_is_integer dc_is_integer pm_is_integer an_is_integer cd_is_integer ct_is_integer), sl_is_integer⟩)
    (c_is_integer : PySem.W.codeIn K cd_is_integer "is_integer" = true)
    (k_is_integer : PySem.W.keepIn K (.ref f_is_integer) = true)
    (a_in_range : PySem.W.nsIn K mainGlobals "in_range" = some (some (.ref f_in_range)))
    (l_in_range : K.lookup f_in_range = some ⟨oc_in_range, od_in_range, .func (PySem.W.fnOf "in_range" "in_range" (defArgs s_in_range) (defBody s_in_range) (defScope s_in_range) .none kV_in_range dc_in_range pm_in_range an_in_range cd_in_range ct_in_range), sl_in_range⟩)
    (c_in_range : PySem.W.codeIn K cd_in_range "in_range" = true)
    (k_in_range : PySem.W.keepIn K (.ref f_in_range) = true)
    (a_check_size : PySem.W.nsIn K mainGlobals "check_size" = some (some (.ref f_check_size)))
    (l_check_size : K.lookup f_check_size = some ⟨oc_check_size, od_check_size, .func (PySem.W.fnOf "check_size" "check_size" (defArgs s_check_size) (defBody s_check_size) (defScope s_check_size) .none kV_check_size dc_check_size pm_check_size an_check_size cd_check_size ct_check_size), sl_check_size⟩)
    (c_check_size : PySem.W.codeIn K cd_check_size "check_size" = true)
    (k_check_size : PySem.W.keepIn K (.ref f_check_size) = true)
    (a_check_elements : PySem.W.nsIn K mainGlobals "check_elements" = some (some (.ref f_check_elements)))
    (l_check_elements : K.lookup f_check_elements = some ⟨oc_check_elements, od_check_elements, .func (PySem.W.fnOf "check_elements" "check_elements" (defArgs s_check_elements) (defBody s_check_elements) (defScope s_check_elements) .none kV_check_elements dc_check_elements pm_check_elements an_check_elements cd_check_elements ct_check_elements), sl_check_elements⟩)
    (c_check_elements : PySem.W.codeIn K cd_check_elements "check_elements" = true)
    (k_check_elements : PySem.W.keepIn K (.ref f_check_elements) = true)
    (a_are_arrows : PySem.W.nsIn K mainGlobals "are_arrows" = some (some (.ref f_are_arrows)))
    (l_are_arrows : K.lookup f_are_arrows = some ⟨oc_are_arrows, od_are_arrows, .func (PySem.W.fnOf "are_arrows" "are_arrows" (defArgs s_are_arrows) (defBody s_are_arrows) (defScope s_are_arrows) .none kV_are_arrows dc_are_arrows pm_are_arrows an_are_arrows cd_are_arrows ct_are_arrows), sl_are_arrows⟩)
    (c_are_arrows : PySem.W.codeIn K cd_are_arrows "are_arrows" = true)
    (k_are_arrows : PySem.W.keepIn K (.ref f_are_arrows) = true)
    (a_row_from : PySem.W.nsIn K mainGlobals "row_from" = some (some (.ref f_row_from)))
    (l_row_from : K.lookup f_row_from = some ⟨oc_row_from, od_row_from, .func (PySem.W.fnOf "row_from" "row_from" (defArgs s_row_from) (defBody s_row_from) (defScope s_row_from) .none kV_row_from dc_row_from pm_row_from an_row_from cd_row_from ct_row_from), sl_row_from⟩)
    (c_row_from : PySem.W.codeIn K cd_row_from "row_from" = true)
    (k_row_from : PySem.W.keepIn K (.ref f_row_from) = true)
    (a_moved : PySem.W.nsIn K mainGlobals "moved" = some (some (.ref f_moved)))
    (l_moved : K.lookup f_moved = some ⟨oc_moved, od_moved, .func (PySem.W.fnOf "moved" "moved" (defArgs s_moved) (defBody s_moved) (defScope s_moved) .none kV_moved dc_moved pm_moved an_moved cd_moved ct_moved), sl_moved⟩)
    (c_moved : PySem.W.codeIn K cd_moved "moved" = true)
    (k_moved : PySem.W.keepIn K (.ref f_moved) = true)
    (a_check_map : PySem.W.nsIn K mainGlobals "check_map" = some (some (.ref f_check_map)))
    (l_check_map : K.lookup f_check_map = some ⟨oc_check_map, od_check_map, .func (PySem.W.fnOf "check_map" "check_map" (defArgs s_check_map) (defBody s_check_map) (defScope s_check_map) .none kV_check_map dc_check_map pm_check_map an_check_map cd_check_map ct_check_map), sl_check_map⟩)
    (c_check_map : PySem.W.codeIn K cd_check_map "check_map" = true)
    (k_check_map : PySem.W.keepIn K (.ref f_check_map) = true)
    (a_greatest_divisor : PySem.W.nsIn K mainGlobals "greatest_divisor" = some (some (.ref f_greatest_divisor)))
    (l_greatest_divisor : K.lookup f_greatest_divisor = some ⟨oc_greatest_divisor, od_greatest_divisor, .func (PySem.W.fnOf "greatest_divisor" "greatest_divisor" (defArgs s_greatest_divisor) (defBody s_greatest_divisor) (defScope s_greatest_divisor) .none kV_greatest_divisor dc_greatest_divisor pm_greatest_divisor an_greatest_divisor cd_greatest_divisor ct_greatest_divisor), sl_greatest_divisor⟩)
    (c_greatest_divisor : PySem.W.codeIn K cd_greatest_divisor "greatest_divisor" = true)
    (k_greatest_divisor : PySem.W.keepIn K (.ref f_greatest_divisor) = true)
    (a_largest : PySem.W.nsIn K mainGlobals "largest" = some (some (.ref f_largest)))
    (l_largest : K.lookup f_largest = some ⟨oc_largest, od_largest, .func (PySem.W.fnOf "largest" "largest" (defArgs s_largest) (defBody s_largest) (defScope s_largest) .none kV_largest dc_largest pm_largest an_largest cd_largest ct_largest), sl_largest⟩)
    (c_largest : PySem.W.codeIn K cd_largest "largest" = true)
    (k_largest : PySem.W.keepIn K (.ref f_largest) = true)
    (a_parts_of : PySem.W.nsIn K mainGlobals "parts_of" = some (some (.ref f_parts_of)))
    (l_parts_of : K.lookup f_parts_of = some ⟨oc_parts_of, od_parts_of, .func (PySem.W.fnOf "parts_of" "parts_of" (defArgs s_parts_of) (defBody s_parts_of) (defScope s_parts_of) .none kV_parts_of dc_parts_of pm_parts_of an_parts_of cd_parts_of ct_parts_of), sl_parts_of⟩)
    (c_parts_of : PySem.W.codeIn K cd_parts_of "parts_of" = true)
    (k_parts_of : PySem.W.keepIn K (.ref f_parts_of) = true)
    (a_are_counts : PySem.W.nsIn K mainGlobals "are_counts" = some (some (.ref f_are_counts)))
    (l_are_counts : K.lookup f_are_counts = some ⟨oc_are_counts, od_are_counts, .func (PySem.W.fnOf "are_counts" "are_counts" (defArgs s_are_counts) (defBody s_are_counts) (defScope s_are_counts) .none kV_are_counts dc_are_counts pm_are_counts an_are_counts cd_are_counts ct_are_counts), sl_are_counts⟩)
    (c_are_counts : PySem.W.codeIn K cd_are_counts "are_counts" = true)
    (k_are_counts : PySem.W.keepIn K (.ref f_are_counts) = true)
    (a_ordered : PySem.W.nsIn K mainGlobals "ordered" = some (some (.ref f_ordered)))
    (l_ordered : K.lookup f_ordered = some ⟨oc_ordered, od_ordered, .func (PySem.W.fnOf "ordered" "ordered" (defArgs s_ordered) (defBody s_ordered) (defScope s_ordered) .none kV_ordered dc_ordered pm_ordered an_ordered cd_ordered ct_ordered), sl_ordered⟩)
    (c_ordered : PySem.W.codeIn K cd_ordered "ordered" = true)
    (k_ordered : PySem.W.keepIn K (.ref f_ordered) = true)
    (a_counts_of : PySem.W.nsIn K mainGlobals "counts_of" = some (some (.ref f_counts_of)))
    (l_counts_of : K.lookup f_counts_of = some ⟨oc_counts_of, od_counts_of, .func (PySem.W.fnOf "counts_of" "counts_of" (defArgs s_counts_of) (defBody s_counts_of) (defScope s_counts_of) .none kV_counts_of dc_counts_of pm_counts_of an_counts_of cd_counts_of ct_counts_of), sl_counts_of⟩)
    (c_counts_of : PySem.W.codeIn K cd_counts_of "counts_of" = true)
    (k_counts_of : PySem.W.keepIn K (.ref f_counts_of) = true)
    (a_shape_of : PySem.W.nsIn K mainGlobals "shape_of" = some (some (.ref f_shape_of)))
    (l_shape_of : K.lookup f_shape_of = some ⟨oc_shape_of, od_shape_of, .func (PySem.W.fnOf "shape_of" "shape_of" (defArgs s_shape_of) (defBody s_shape_of) (defScope s_shape_of) .none kV_shape_of dc_shape_of pm_shape_of an_shape_of cd_shape_of ct_shape_of), sl_shape_of⟩)
    (c_shape_of : PySem.W.codeIn K cd_shape_of "shape_of" = true)
    (k_shape_of : PySem.W.keepIn K (.ref f_shape_of) = true)
    (a_common_multiple : PySem.W.nsIn K mainGlobals "common_multiple" = some (some (.ref f_common_multiple)))
    (l_common_multiple : K.lookup f_common_multiple = some ⟨oc_common_multiple, od_common_multiple, .func (PySem.W.fnOf "common_multiple" "common_multiple" (defArgs s_common_multiple) (defBody s_common_multiple) (defScope s_common_multiple) .none kV_common_multiple dc_common_multiple pm_common_multiple an_common_multiple cd_common_multiple ct_common_multiple), sl_common_multiple⟩)
    (c_common_multiple : PySem.W.codeIn K cd_common_multiple "common_multiple" = true)
    (k_common_multiple : PySem.W.keepIn K (.ref f_common_multiple) = true)
    (a_repetition_of : PySem.W.nsIn K mainGlobals "repetition_of" = some (some (.ref f_repetition_of)))
    (l_repetition_of : K.lookup f_repetition_of = some ⟨oc_repetition_of, od_repetition_of, .func (PySem.W.fnOf "repetition_of" "repetition_of" (defArgs s_repetition_of) (defBody s_repetition_of) (defScope s_repetition_of) .none kV_repetition_of dc_repetition_of pm_repetition_of an_repetition_of cd_repetition_of ct_repetition_of), sl_repetition_of⟩)
    (c_repetition_of : PySem.W.codeIn K cd_repetition_of "repetition_of" = true)
    (k_repetition_of : PySem.W.keepIn K (.ref f_repetition_of) = true)
    (a_repetition : PySem.W.nsIn K mainGlobals "repetition" = some (some (.ref f_repetition)))
    (l_repetition : K.lookup f_repetition = some ⟨oc_repetition, od_repetition, .func (PySem.W.fnOf "repetition" "repetition" (defArgs s_repetition) (defBody s_repetition) (defScope s_repetition) .none kV_repetition dc_repetition pm_repetition an_repetition cd_repetition ct_repetition), sl_repetition⟩)
    (c_repetition : PySem.W.codeIn K cd_repetition "repetition" = true)
    (k_repetition : PySem.W.keepIn K (.ref f_repetition) = true)
    (a_fate : PySem.W.nsIn K mainGlobals "fate" = some (some (.ref f_fate)))
    (l_fate : K.lookup f_fate = some ⟨oc_fate, od_fate, .func (PySem.W.fnOf "fate" "fate" (defArgs s_fate) (defBody s_fate) (defScope s_fate) .none kV_fate dc_fate pm_fate an_fate cd_fate ct_fate), sl_fate⟩)
    (c_fate : PySem.W.codeIn K cd_fate "fate" = true)
    (k_fate : PySem.W.keepIn K (.ref f_fate) = true)
    (a_are_lengths : PySem.W.nsIn K mainGlobals "are_lengths" = some (some (.ref f_are_lengths)))
    (l_are_lengths : K.lookup f_are_lengths = some ⟨oc_are_lengths, od_are_lengths, .func (PySem.W.fnOf "are_lengths" "are_lengths" (defArgs s_are_lengths) (defBody s_are_lengths) (defScope s_are_lengths) .none kV_are_lengths dc_are_lengths pm_are_lengths an_are_lengths cd_are_lengths ct_are_lengths), sl_are_lengths⟩)
    (c_are_lengths : PySem.W.codeIn K cd_are_lengths "are_lengths" = true)
    (k_are_lengths : PySem.W.keepIn K (.ref f_are_lengths) = true)
    (a_counted : PySem.W.nsIn K mainGlobals "counted" = some (some (.ref f_counted)))
    (l_counted : K.lookup f_counted = some ⟨oc_counted, od_counted, .func (PySem.W.fnOf "counted" "counted" (defArgs s_counted) (defBody s_counted) (defScope s_counted) .none kV_counted dc_counted pm_counted an_counted cd_counted ct_counted), sl_counted⟩)
    (c_counted : PySem.W.codeIn K cd_counted "counted" = true)
    (k_counted : PySem.W.keepIn K (.ref f_counted) = true)
    (a_l_hand : PySem.W.nsIn K mainGlobals "_law_hand" = some (some (.ref f_l_hand)))
    (l_l_hand : K.lookup f_l_hand = some ⟨oc_l_hand, od_l_hand, .func (PySem.W.fnOf "_law_hand" "_law_hand" (defArgs s_l_hand) (defBody s_l_hand) (defScope s_l_hand) .none kV_l_hand dc_l_hand pm_l_hand an_l_hand cd_l_hand ct_l_hand), sl_l_hand⟩)
    (c_l_hand : PySem.W.codeIn K cd_l_hand "_law_hand" = true)
    (k_l_hand : PySem.W.keepIn K (.ref f_l_hand) = true)
    (a_l_draw : PySem.W.nsIn K mainGlobals "_law_draw" = some (some (.ref f_l_draw)))
    (l_l_draw : K.lookup f_l_draw = some ⟨oc_l_draw, od_l_draw, .func (PySem.W.fnOf "_law_draw" "_law_draw" (defArgs s_l_draw) (defBody s_l_draw) (defScope s_l_draw) .none kV_l_draw dc_l_draw pm_l_draw an_l_draw cd_l_draw ct_l_draw), sl_l_draw⟩)
    (c_l_draw : PySem.W.codeIn K cd_l_draw "_law_draw" = true)
    (k_l_draw : PySem.W.keepIn K (.ref f_l_draw) = true)
    (a_l_lengths : PySem.W.nsIn K mainGlobals "_law_lengths" = some (some (.ref f_l_lengths)))
    (l_l_lengths : K.lookup f_l_lengths = some ⟨oc_l_lengths, od_l_lengths, .func (PySem.W.fnOf "_law_lengths" "_law_lengths" (defArgs s_l_lengths) (defBody s_l_lengths) (defScope s_l_lengths) .none kV_l_lengths dc_l_lengths pm_l_lengths an_l_lengths cd_l_lengths ct_l_lengths), sl_l_lengths⟩)
    (c_l_lengths : PySem.W.codeIn K cd_l_lengths "_law_lengths" = true)
    (k_l_lengths : PySem.W.keepIn K (.ref f_l_lengths) = true)
    (a_l_places : PySem.W.nsIn K mainGlobals "_law_places" = some (some (.ref f_l_places)))
    (l_l_places : K.lookup f_l_places = some ⟨oc_l_places, od_l_places, .func (PySem.W.fnOf "_law_places" "_law_places" (defArgs s_l_places) (defBody s_l_places) (defScope s_l_places) .none kV_l_places dc_l_places pm_l_places an_l_places cd_l_places ct_l_places), sl_l_places⟩)
    (c_l_places : PySem.W.codeIn K cd_l_places "_law_places" = true)
    (k_l_places : PySem.W.keepIn K (.ref f_l_places) = true)
    (a_l_small : PySem.W.nsIn K mainGlobals "_law_small" = some (some (.ref f_l_small)))
    (l_l_small : K.lookup f_l_small = some ⟨oc_l_small, od_l_small, .func (PySem.W.fnOf "_law_small" "_law_small" (defArgs s_l_small) (defBody s_l_small) (defScope s_l_small) .none kV_l_small dc_l_small pm_l_small an_l_small cd_l_small ct_l_small), sl_l_small⟩)
    (c_l_small : PySem.W.codeIn K cd_l_small "_law_small" = true)
    (k_l_small : PySem.W.keepIn K (.ref f_l_small) = true)
    (a_l_huge : PySem.W.nsIn K mainGlobals "_law_huge" = some (some (.ref f_l_huge)))
    (l_l_huge : K.lookup f_l_huge = some ⟨oc_l_huge, od_l_huge, .func (PySem.W.fnOf "_law_huge" "_law_huge" (defArgs s_l_huge) (defBody s_l_huge) (defScope s_l_huge) .none kV_l_huge dc_l_huge pm_l_huge an_l_huge cd_l_huge ct_l_huge), sl_l_huge⟩)
    (c_l_huge : PySem.W.codeIn K cd_l_huge "_law_huge" = true)
    (k_l_huge : PySem.W.keepIn K (.ref f_l_huge) = true)
    (a_law : PySem.W.nsIn K mainGlobals "law" = some (some (.ref f_law)))
    (l_law : K.lookup f_law = some ⟨oc_law, od_law, .func (PySem.W.fnOf "law" "law" (defArgs s_law) (defBody s_law) (defScope s_law) .none kV_law dc_law pm_law an_law cd_law ct_law), sl_law⟩)
    (c_law : PySem.W.codeIn K cd_law "law" = true)
    (k_law : PySem.W.keepIn K (.ref f_law) = true)
    (a_Shape : PySem.W.nsIn K mainGlobals "Shape" = some (some (.ref C_Shape)))
    (pg_Shape : PySem.W.plainGet K C_Shape Str.empty = true)
    (hd_Shape : PySem.W.hasDictIn K C_Shape = true)
    (po_Shape : PySem.W.plainOver K C_Shape = true)
    (sa_Shape : PySem.W.findIn K (.ref C_Shape) "__setattr__" = some (some (.builtin "object.__setattr__")))
    (sf_Shape : PySem.W.selfFirst K C_Shape = true)
    (ca_Shape : PySem.W.findIn K (.ref C_Shape) "__class__" = some (some (.builtin "object.__class__")))
    (cn_Shape : PySem.W.specialIn K (.builtin "object.__class__") "__get__" = some (some (.builtin "getset_descriptor.__get__")))
    (ct_Shape : PySem.W.takesIn K (.builtin "object.__class__") = some true)
    (cm_Shape : PySem.W.mroIn K C_Shape (.type "object") = some true)
    (kc_Shape : PySem.W.keepIn K (.ref C_Shape) = true)
    (kit_int_Shape : PySem.W.kitOne K (.ref C_Shape) (.type "int") = some false)
    (kit_bool_Shape : PySem.W.kitOne K (.ref C_Shape) (.type "bool") = some false)
    (kn_NoneType_Shape : PySem.W.kitOne K (.type "NoneType") (.ref C_Shape) = some false)
    (nf_NoneType_Shape : PySem.W.notFirst K C_Shape (.type "NoneType") = true)
    (kn_int_Shape : PySem.W.kitOne K (.type "int") (.ref C_Shape) = some false)
    (nf_int_Shape : PySem.W.notFirst K C_Shape (.type "int") = true)
    (kn_bool_Shape : PySem.W.kitOne K (.type "bool") (.ref C_Shape) = some false)
    (nf_bool_Shape : PySem.W.notFirst K C_Shape (.type "bool") = true)
    (kn_str_Shape : PySem.W.kitOne K (.type "str") (.ref C_Shape) = some false)
    (nf_str_Shape : PySem.W.notFirst K C_Shape (.type "str") = true)
    (kn_list_Shape : PySem.W.kitOne K (.type "list") (.ref C_Shape) = some false)
    (nf_list_Shape : PySem.W.notFirst K C_Shape (.type "list") = true)
    (kn_dict_Shape : PySem.W.kitOne K (.type "dict") (.ref C_Shape) = some false)
    (nf_dict_Shape : PySem.W.notFirst K C_Shape (.type "dict") = true)
    (kn_tuple_Shape : PySem.W.kitOne K (.type "tuple") (.ref C_Shape) = some false)
    (nf_tuple_Shape : PySem.W.notFirst K C_Shape (.type "tuple") = true)
    (self_Shape : PySem.W.kitOne K (.ref C_Shape) (.ref C_Shape) = some true)
    (na_own_cycles_Shape : PySem.W.findIn K (.ref C_Shape) "own_cycles" = some none)
    (na_own_chains_Shape : PySem.W.findIn K (.ref C_Shape) "own_chains" = some none)
    (ne_Shape : PySem.W.findIn K (.ref C_Shape) "__ne__" = some (some (.builtin "object.__ne__")))
    (m_Shape__init : PySem.W.findIn K (.ref C_Shape) "__init__" = some (some (.ref f_Shape__init)))
    (i_Shape__init : PySem.W.isFn K (.ref f_Shape__init) = true)
    (l_Shape__init : K.lookup f_Shape__init = some ⟨oc_Shape__init, od_Shape__init, .func (PySem.W.fnOf "__init__" "Shape.__init__" (defArgs s_Shape__init) (defBody s_Shape__init) (defScope s_Shape__init) .none kV_Shape__init dc_Shape__init pm_Shape__init an_Shape__init cd_Shape__init ct_Shape__init), sl_Shape__init⟩)
    (c_Shape__init : PySem.W.codeIn K cd_Shape__init "Shape.__init__" = true)
    (k_Shape__init : PySem.W.keepIn K (.ref f_Shape__init) = true)
    (mk_Shape : PySem.W.makesIn K C_Shape = true)
    (m_Shape__eq : PySem.W.findIn K (.ref C_Shape) "__eq__" = some (some (.ref f_Shape__eq)))
    (i_Shape__eq : PySem.W.isFn K (.ref f_Shape__eq) = true)
    (l_Shape__eq : K.lookup f_Shape__eq = some ⟨oc_Shape__eq, od_Shape__eq, .func (PySem.W.fnOf "__eq__" "Shape.__eq__" (defArgs s_Shape__eq) (defBody s_Shape__eq) (defScope s_Shape__eq) .none kV_Shape__eq dc_Shape__eq pm_Shape__eq an_Shape__eq cd_Shape__eq ct_Shape__eq), sl_Shape__eq⟩)
    (c_Shape__eq : PySem.W.codeIn K cd_Shape__eq "Shape.__eq__" = true)
    (k_Shape__eq : PySem.W.keepIn K (.ref f_Shape__eq) = true)
    (a_GreatMap : PySem.W.nsIn K mainGlobals "GreatMap" = some (some (.ref C_GreatMap)))
    (pg_GreatMap : PySem.W.plainGet K C_GreatMap Str.empty = true)
    (hd_GreatMap : PySem.W.hasDictIn K C_GreatMap = true)
    (po_GreatMap : PySem.W.plainOver K C_GreatMap = true)
    (sa_GreatMap : PySem.W.findIn K (.ref C_GreatMap) "__setattr__" = some (some (.builtin "object.__setattr__")))
    (sf_GreatMap : PySem.W.selfFirst K C_GreatMap = true)
    (ca_GreatMap : PySem.W.findIn K (.ref C_GreatMap) "__class__" = some (some (.builtin "object.__class__")))
    (cn_GreatMap : PySem.W.specialIn K (.builtin "object.__class__") "__get__" = some (some (.builtin "getset_descriptor.__get__")))
    (ct_GreatMap : PySem.W.takesIn K (.builtin "object.__class__") = some true)
    (cm_GreatMap : PySem.W.mroIn K C_GreatMap (.type "object") = some true)
    (kc_GreatMap : PySem.W.keepIn K (.ref C_GreatMap) = true)
    (kit_int_GreatMap : PySem.W.kitOne K (.ref C_GreatMap) (.type "int") = some false)
    (kit_bool_GreatMap : PySem.W.kitOne K (.ref C_GreatMap) (.type "bool") = some false)
    (kit_list_GreatMap : PySem.W.kitOne K (.ref C_GreatMap) (.type "list") = some false)
    (kit_tuple_GreatMap : PySem.W.kitOne K (.ref C_GreatMap) (.type "tuple") = some false)
    (kn_NoneType_GreatMap : PySem.W.kitOne K (.type "NoneType") (.ref C_GreatMap) = some false)
    (nf_NoneType_GreatMap : PySem.W.notFirst K C_GreatMap (.type "NoneType") = true)
    (kn_int_GreatMap : PySem.W.kitOne K (.type "int") (.ref C_GreatMap) = some false)
    (nf_int_GreatMap : PySem.W.notFirst K C_GreatMap (.type "int") = true)
    (kn_bool_GreatMap : PySem.W.kitOne K (.type "bool") (.ref C_GreatMap) = some false)
    (nf_bool_GreatMap : PySem.W.notFirst K C_GreatMap (.type "bool") = true)
    (kn_str_GreatMap : PySem.W.kitOne K (.type "str") (.ref C_GreatMap) = some false)
    (nf_str_GreatMap : PySem.W.notFirst K C_GreatMap (.type "str") = true)
    (kn_list_GreatMap : PySem.W.kitOne K (.type "list") (.ref C_GreatMap) = some false)
    (nf_list_GreatMap : PySem.W.notFirst K C_GreatMap (.type "list") = true)
    (kn_dict_GreatMap : PySem.W.kitOne K (.type "dict") (.ref C_GreatMap) = some false)
    (nf_dict_GreatMap : PySem.W.notFirst K C_GreatMap (.type "dict") = true)
    (kn_tuple_GreatMap : PySem.W.kitOne K (.type "tuple") (.ref C_GreatMap) = some false)
    (nf_tuple_GreatMap : PySem.W.notFirst K C_GreatMap (.type "tuple") = true)
    (self_GreatMap : PySem.W.kitOne K (.ref C_GreatMap) (.ref C_GreatMap) = some true)
    (na_own_cycles_GreatMap : PySem.W.findIn K (.ref C_GreatMap) "own_cycles" = some none)
    (na_own_chains_GreatMap : PySem.W.findIn K (.ref C_GreatMap) "own_chains" = some none)
    (ne_GreatMap : PySem.W.findIn K (.ref C_GreatMap) "__ne__" = some (some (.builtin "object.__ne__")))
    (m_GreatMap__init : PySem.W.findIn K (.ref C_GreatMap) "__init__" = some (some (.ref f_GreatMap__init)))
    (i_GreatMap__init : PySem.W.isFn K (.ref f_GreatMap__init) = true)
    (l_GreatMap__init : K.lookup f_GreatMap__init = some ⟨oc_GreatMap__init, od_GreatMap__init, .func (PySem.W.fnOf "__init__" "GreatMap.__init__" (defArgs s_GreatMap__init) (defBody s_GreatMap__init) (defScope s_GreatMap__init) .none kV_GreatMap__init dc_GreatMap__init pm_GreatMap__init an_GreatMap__init cd_GreatMap__init ct_GreatMap__init), sl_GreatMap__init⟩)
    (c_GreatMap__init : PySem.W.codeIn K cd_GreatMap__init "GreatMap.__init__" = true)
    (k_GreatMap__init : PySem.W.keepIn K (.ref f_GreatMap__init) = true)
    (mk_GreatMap : PySem.W.makesIn K C_GreatMap = true)
    (m_GreatMap_cycles : PySem.W.findIn K (.ref C_GreatMap) "cycles" = some (some (.ref p_GreatMap_cycles)))
    (s_get_GreatMap_cycles : PySem.W.specialIn K (.ref p_GreatMap_cycles) "__get__" = some (some (.builtin "property.__get__")))
    (tk_GreatMap_cycles : PySem.W.takesIn K (.ref p_GreatMap_cycles) = some true)
    (rc_GreatMap_cycles : PySem.W.recIn K p_GreatMap_cycles "property" = some (.ref f_GreatMap_cycles :: r_GreatMap_cycles))
    (l_GreatMap_cycles : K.lookup f_GreatMap_cycles = some ⟨oc_GreatMap_cycles, od_GreatMap_cycles, .func (PySem.W.fnOf "cycles" "GreatMap.cycles" (defArgs s_GreatMap_cycles) (defBody s_GreatMap_cycles) (defScope s_GreatMap_cycles) .none kV_GreatMap_cycles dc_GreatMap_cycles pm_GreatMap_cycles an_GreatMap_cycles cd_GreatMap_cycles ct_GreatMap_cycles), sl_GreatMap_cycles⟩)
    (c_GreatMap_cycles : PySem.W.codeIn K cd_GreatMap_cycles "GreatMap.cycles" = true)
    (k_GreatMap_cycles : PySem.W.keepIn K (.ref f_GreatMap_cycles) = true)
    (m_GreatMap_chains : PySem.W.findIn K (.ref C_GreatMap) "chains" = some (some (.ref p_GreatMap_chains)))
    (s_get_GreatMap_chains : PySem.W.specialIn K (.ref p_GreatMap_chains) "__get__" = some (some (.builtin "property.__get__")))
    (tk_GreatMap_chains : PySem.W.takesIn K (.ref p_GreatMap_chains) = some true)
    (rc_GreatMap_chains : PySem.W.recIn K p_GreatMap_chains "property" = some (.ref f_GreatMap_chains :: r_GreatMap_chains))
    (l_GreatMap_chains : K.lookup f_GreatMap_chains = some ⟨oc_GreatMap_chains, od_GreatMap_chains, .func (PySem.W.fnOf "chains" "GreatMap.chains" (defArgs s_GreatMap_chains) (defBody s_GreatMap_chains) (defScope s_GreatMap_chains) .none kV_GreatMap_chains dc_GreatMap_chains pm_GreatMap_chains an_GreatMap_chains cd_GreatMap_chains ct_GreatMap_chains), sl_GreatMap_chains⟩)
    (c_GreatMap_chains : PySem.W.codeIn K cd_GreatMap_chains "GreatMap.chains" = true)
    (k_GreatMap_chains : PySem.W.keepIn K (.ref f_GreatMap_chains) = true)
    (m_GreatMap_length_at : PySem.W.findIn K (.ref C_GreatMap) "length_at" = some (some (.ref f_GreatMap_length_at)))
    (i_GreatMap_length_at : PySem.W.isFn K (.ref f_GreatMap_length_at) = true)
    (l_GreatMap_length_at : K.lookup f_GreatMap_length_at = some ⟨oc_GreatMap_length_at, od_GreatMap_length_at, .func (PySem.W.fnOf "length_at" "GreatMap.length_at" (defArgs s_GreatMap_length_at) (defBody s_GreatMap_length_at) (defScope s_GreatMap_length_at) .none kV_GreatMap_length_at dc_GreatMap_length_at pm_GreatMap_length_at an_GreatMap_length_at cd_GreatMap_length_at ct_GreatMap_length_at), sl_GreatMap_length_at⟩)
    (c_GreatMap_length_at : PySem.W.codeIn K cd_GreatMap_length_at "GreatMap.length_at" = true)
    (k_GreatMap_length_at : PySem.W.keepIn K (.ref f_GreatMap_length_at) = true)
    (m_GreatMap_after : PySem.W.findIn K (.ref C_GreatMap) "after" = some (some (.ref f_GreatMap_after)))
    (i_GreatMap_after : PySem.W.isFn K (.ref f_GreatMap_after) = true)
    (l_GreatMap_after : K.lookup f_GreatMap_after = some ⟨oc_GreatMap_after, od_GreatMap_after, .func (PySem.W.fnOf "after" "GreatMap.after" (defArgs s_GreatMap_after) (defBody s_GreatMap_after) (defScope s_GreatMap_after) .none kV_GreatMap_after dc_GreatMap_after pm_GreatMap_after an_GreatMap_after cd_GreatMap_after ct_GreatMap_after), sl_GreatMap_after⟩)
    (c_GreatMap_after : PySem.W.codeIn K cd_GreatMap_after "GreatMap.after" = true)
    (k_GreatMap_after : PySem.W.keepIn K (.ref f_GreatMap_after) = true)
    (m_GreatMap_fate : PySem.W.findIn K (.ref C_GreatMap) "fate" = some (some (.ref f_GreatMap_fate)))
    (i_GreatMap_fate : PySem.W.isFn K (.ref f_GreatMap_fate) = true)
    (l_GreatMap_fate : K.lookup f_GreatMap_fate = some ⟨oc_GreatMap_fate, od_GreatMap_fate, .func (PySem.W.fnOf "fate" "GreatMap.fate" (defArgs s_GreatMap_fate) (defBody s_GreatMap_fate) (defScope s_GreatMap_fate) .none kV_GreatMap_fate dc_GreatMap_fate pm_GreatMap_fate an_GreatMap_fate cd_GreatMap_fate ct_GreatMap_fate), sl_GreatMap_fate⟩)
    (c_GreatMap_fate : PySem.W.codeIn K cd_GreatMap_fate "GreatMap.fate" = true)
    (k_GreatMap_fate : PySem.W.keepIn K (.ref f_GreatMap_fate) = true)
    (m_GreatMap_repetition : PySem.W.findIn K (.ref C_GreatMap) "repetition" = some (some (.ref f_GreatMap_repetition)))
    (i_GreatMap_repetition : PySem.W.isFn K (.ref f_GreatMap_repetition) = true)
    (l_GreatMap_repetition : K.lookup f_GreatMap_repetition = some ⟨oc_GreatMap_repetition, od_GreatMap_repetition, .func (PySem.W.fnOf "repetition" "GreatMap.repetition" (defArgs s_GreatMap_repetition) (defBody s_GreatMap_repetition) (defScope s_GreatMap_repetition) .none kV_GreatMap_repetition dc_GreatMap_repetition pm_GreatMap_repetition an_GreatMap_repetition cd_GreatMap_repetition ct_GreatMap_repetition), sl_GreatMap_repetition⟩)
    (c_GreatMap_repetition : PySem.W.codeIn K cd_GreatMap_repetition "GreatMap.repetition" = true)
    (k_GreatMap_repetition : PySem.W.keepIn K (.ref f_GreatMap_repetition) = true)
    (m_GreatMap_shape : PySem.W.findIn K (.ref C_GreatMap) "shape" = some (some (.ref f_GreatMap_shape)))
    (i_GreatMap_shape : PySem.W.isFn K (.ref f_GreatMap_shape) = true)
    (l_GreatMap_shape : K.lookup f_GreatMap_shape = some ⟨oc_GreatMap_shape, od_GreatMap_shape, .func (PySem.W.fnOf "shape" "GreatMap.shape" (defArgs s_GreatMap_shape) (defBody s_GreatMap_shape) (defScope s_GreatMap_shape) .none kV_GreatMap_shape dc_GreatMap_shape pm_GreatMap_shape an_GreatMap_shape cd_GreatMap_shape ct_GreatMap_shape), sl_GreatMap_shape⟩)
    (c_GreatMap_shape : PySem.W.codeIn K cd_GreatMap_shape "GreatMap.shape" = true)
    (k_GreatMap_shape : PySem.W.keepIn K (.ref f_GreatMap_shape) = true)
    (m_GreatMap__eq : PySem.W.findIn K (.ref C_GreatMap) "__eq__" = some (some (.ref f_GreatMap__eq)))
    (i_GreatMap__eq : PySem.W.isFn K (.ref f_GreatMap__eq) = true)
    (l_GreatMap__eq : K.lookup f_GreatMap__eq = some ⟨oc_GreatMap__eq, od_GreatMap__eq, .func (PySem.W.fnOf "__eq__" "GreatMap.__eq__" (defArgs s_GreatMap__eq) (defBody s_GreatMap__eq) (defScope s_GreatMap__eq) .none kV_GreatMap__eq dc_GreatMap__eq pm_GreatMap__eq an_GreatMap__eq cd_GreatMap__eq ct_GreatMap__eq), sl_GreatMap__eq⟩)
    (c_GreatMap__eq : PySem.W.codeIn K cd_GreatMap__eq "GreatMap.__eq__" = true)
    (k_GreatMap__eq : PySem.W.keepIn K (.ref f_GreatMap__eq) = true)
    (m_GreatMap__repr : PySem.W.findIn K (.ref C_GreatMap) "__repr__" = some (some (.ref f_GreatMap__repr)))
    (i_GreatMap__repr : PySem.W.isFn K (.ref f_GreatMap__repr) = true)
    (l_GreatMap__repr : K.lookup f_GreatMap__repr = some ⟨oc_GreatMap__repr, od_GreatMap__repr, .func (PySem.W.fnOf "__repr__" "GreatMap.__repr__" (defArgs s_GreatMap__repr) (defBody s_GreatMap__repr) (defScope s_GreatMap__repr) .none kV_GreatMap__repr dc_GreatMap__repr pm_GreatMap__repr an_GreatMap__repr cd_GreatMap__repr ct_GreatMap__repr), sl_GreatMap__repr⟩)
    (c_GreatMap__repr : PySem.W.codeIn K cd_GreatMap__repr "GreatMap.__repr__" = true)
    (k_GreatMap__repr : PySem.W.keepIn K (.ref f_GreatMap__repr) = true)
    (a_Map : PySem.W.nsIn K mainGlobals "Map" = some (some (.ref C_Map)))
    (pg_Map : PySem.W.plainGet K C_Map Str.empty = true)
    (hd_Map : PySem.W.hasDictIn K C_Map = true)
    (po_Map : PySem.W.plainOver K C_Map = true)
    (sa_Map : PySem.W.findIn K (.ref C_Map) "__setattr__" = some (some (.builtin "object.__setattr__")))
    (sf_Map : PySem.W.selfFirst K C_Map = true)
    (ca_Map : PySem.W.findIn K (.ref C_Map) "__class__" = some (some (.builtin "object.__class__")))
    (cn_Map : PySem.W.specialIn K (.builtin "object.__class__") "__get__" = some (some (.builtin "getset_descriptor.__get__")))
    (ct_Map : PySem.W.takesIn K (.builtin "object.__class__") = some true)
    (cm_Map : PySem.W.mroIn K C_Map (.type "object") = some true)
    (kc_Map : PySem.W.keepIn K (.ref C_Map) = true)
    (kit_int_Map : PySem.W.kitOne K (.ref C_Map) (.type "int") = some false)
    (kit_bool_Map : PySem.W.kitOne K (.ref C_Map) (.type "bool") = some false)
    (kn_NoneType_Map : PySem.W.kitOne K (.type "NoneType") (.ref C_Map) = some false)
    (nf_NoneType_Map : PySem.W.notFirst K C_Map (.type "NoneType") = true)
    (kn_int_Map : PySem.W.kitOne K (.type "int") (.ref C_Map) = some false)
    (nf_int_Map : PySem.W.notFirst K C_Map (.type "int") = true)
    (kn_bool_Map : PySem.W.kitOne K (.type "bool") (.ref C_Map) = some false)
    (nf_bool_Map : PySem.W.notFirst K C_Map (.type "bool") = true)
    (kn_str_Map : PySem.W.kitOne K (.type "str") (.ref C_Map) = some false)
    (nf_str_Map : PySem.W.notFirst K C_Map (.type "str") = true)
    (kn_list_Map : PySem.W.kitOne K (.type "list") (.ref C_Map) = some false)
    (nf_list_Map : PySem.W.notFirst K C_Map (.type "list") = true)
    (kn_dict_Map : PySem.W.kitOne K (.type "dict") (.ref C_Map) = some false)
    (nf_dict_Map : PySem.W.notFirst K C_Map (.type "dict") = true)
    (kn_tuple_Map : PySem.W.kitOne K (.type "tuple") (.ref C_Map) = some false)
    (nf_tuple_Map : PySem.W.notFirst K C_Map (.type "tuple") = true)
    (self_Map : PySem.W.kitOne K (.ref C_Map) (.ref C_Map) = some true)
    (na_own_size_Map : PySem.W.findIn K (.ref C_Map) "own_size" = some none)
    (na_own_arrows_Map : PySem.W.findIn K (.ref C_Map) "own_arrows" = some none)
    (m_Map__init : PySem.W.findIn K (.ref C_Map) "__init__" = some (some (.ref f_Map__init)))
    (i_Map__init : PySem.W.isFn K (.ref f_Map__init) = true)
    (l_Map__init : K.lookup f_Map__init = some ⟨oc_Map__init, od_Map__init, .func (PySem.W.fnOf "__init__" "Map.__init__" (defArgs s_Map__init) (defBody s_Map__init) (defScope s_Map__init) .none kV_Map__init dc_Map__init pm_Map__init an_Map__init cd_Map__init ct_Map__init), sl_Map__init⟩)
    (c_Map__init : PySem.W.codeIn K cd_Map__init "Map.__init__" = true)
    (k_Map__init : PySem.W.keepIn K (.ref f_Map__init) = true)
    (mk_Map : PySem.W.makesIn K C_Map = true)
    (rd_Map : PySem.W.readsIn K C_Map (.type "type") = true)
    (ga_Map : PySem.W.specialIn K (.ref C_Map) "__getattribute__" = some (some (.builtin "type.__getattribute__")))
    (at_Map_identity : PySem.W.findCls K (.ref C_Map) (.type "type") "identity" = some (.get (.builtin "classmethod.__get__") (.ref p_Map_identity) .none (.ref C_Map)))
    (rc_Map_identity : PySem.W.recIn K p_Map_identity "classmethod" = some (.ref f_Map_identity :: r_Map_identity))
    (fi_Map_identity : PySem.W.fnIn K f_Map_identity = true)
    (l_Map_identity : K.lookup f_Map_identity = some ⟨oc_Map_identity, od_Map_identity, .func (PySem.W.fnOf "identity" "Map.identity" (defArgs s_Map_identity) (defBody s_Map_identity) (defScope s_Map_identity) .none kV_Map_identity dc_Map_identity pm_Map_identity an_Map_identity cd_Map_identity ct_Map_identity), sl_Map_identity⟩)
    (c_Map_identity : PySem.W.codeIn K cd_Map_identity "Map.identity" = true)
    (k_Map_identity : PySem.W.keepIn K (.ref f_Map_identity) = true)
    (m_Map_size : PySem.W.findIn K (.ref C_Map) "size" = some (some (.ref p_Map_size)))
    (s_get_Map_size : PySem.W.specialIn K (.ref p_Map_size) "__get__" = some (some (.builtin "property.__get__")))
    (tk_Map_size : PySem.W.takesIn K (.ref p_Map_size) = some true)
    (rc_Map_size : PySem.W.recIn K p_Map_size "property" = some (.ref f_Map_size :: r_Map_size))
    (l_Map_size : K.lookup f_Map_size = some ⟨oc_Map_size, od_Map_size, .func (PySem.W.fnOf "size" "Map.size" (defArgs s_Map_size) (defBody s_Map_size) (defScope s_Map_size) .none kV_Map_size dc_Map_size pm_Map_size an_Map_size cd_Map_size ct_Map_size), sl_Map_size⟩)
    (c_Map_size : PySem.W.codeIn K cd_Map_size "Map.size" = true)
    (k_Map_size : PySem.W.keepIn K (.ref f_Map_size) = true)
    (m_Map_arrows : PySem.W.findIn K (.ref C_Map) "arrows" = some (some (.ref p_Map_arrows)))
    (s_get_Map_arrows : PySem.W.specialIn K (.ref p_Map_arrows) "__get__" = some (some (.builtin "property.__get__")))
    (tk_Map_arrows : PySem.W.takesIn K (.ref p_Map_arrows) = some true)
    (rc_Map_arrows : PySem.W.recIn K p_Map_arrows "property" = some (.ref f_Map_arrows :: r_Map_arrows))
    (l_Map_arrows : K.lookup f_Map_arrows = some ⟨oc_Map_arrows, od_Map_arrows, .func (PySem.W.fnOf "arrows" "Map.arrows" (defArgs s_Map_arrows) (defBody s_Map_arrows) (defScope s_Map_arrows) .none kV_Map_arrows dc_Map_arrows pm_Map_arrows an_Map_arrows cd_Map_arrows ct_Map_arrows), sl_Map_arrows⟩)
    (c_Map_arrows : PySem.W.codeIn K cd_Map_arrows "Map.arrows" = true)
    (k_Map_arrows : PySem.W.keepIn K (.ref f_Map_arrows) = true)
    (m_Map_power : PySem.W.findIn K (.ref C_Map) "power" = some (some (.ref f_Map_power)))
    (i_Map_power : PySem.W.isFn K (.ref f_Map_power) = true)
    (l_Map_power : K.lookup f_Map_power = some ⟨oc_Map_power, od_Map_power, .func (PySem.W.fnOf "power" "Map.power" (defArgs s_Map_power) (defBody s_Map_power) (defScope s_Map_power) .none kV_Map_power dc_Map_power pm_Map_power an_Map_power cd_Map_power ct_Map_power), sl_Map_power⟩)
    (c_Map_power : PySem.W.codeIn K cd_Map_power "Map.power" = true)
    (k_Map_power : PySem.W.keepIn K (.ref f_Map_power) = true)
    (m_Map__call : PySem.W.findIn K (.ref C_Map) "__call__" = some (some (.ref f_Map__call)))
    (i_Map__call : PySem.W.isFn K (.ref f_Map__call) = true)
    (l_Map__call : K.lookup f_Map__call = some ⟨oc_Map__call, od_Map__call, .func (PySem.W.fnOf "__call__" "Map.__call__" (defArgs s_Map__call) (defBody s_Map__call) (defScope s_Map__call) .none kV_Map__call dc_Map__call pm_Map__call an_Map__call cd_Map__call ct_Map__call), sl_Map__call⟩)
    (c_Map__call : PySem.W.codeIn K cd_Map__call "Map.__call__" = true)
    (k_Map__call : PySem.W.keepIn K (.ref f_Map__call) = true)
    (fi_Map__call : PySem.W.fnIn K f_Map__call = true)
    (m_Map_is_source : PySem.W.findIn K (.ref C_Map) "is_source" = some (some (.ref f_Map_is_source)))
    (i_Map_is_source : PySem.W.isFn K (.ref f_Map_is_source) = true)
    (l_Map_is_source : K.lookup f_Map_is_source = some ⟨oc_Map_is_source, od_Map_is_source, .func (PySem.W.fnOf "is_source" "Map.is_source" (defArgs s_Map_is_source) (defBody s_Map_is_source) (defScope s_Map_is_source) .none kV_Map_is_source dc_Map_is_source pm_Map_is_source an_Map_is_source cd_Map_is_source ct_Map_is_source), sl_Map_is_source⟩)
    (c_Map_is_source : PySem.W.codeIn K cd_Map_is_source "Map.is_source" = true)
    (k_Map_is_source : PySem.W.keepIn K (.ref f_Map_is_source) = true)
    (a_InvalidMap : PySem.W.nsIn K mainGlobals "InvalidMap" = some (some (.ref C_InvalidMap)))
    (xl_InvalidMap : K.lookup C_InvalidMap = some (excClassObj nm_InvalidMap q_InvalidMap C_InvalidMap N_InvalidMap bs_InvalidMap [.type "ValueError", .type "Exception", .type "BaseException", .type "object"] true sn_InvalidMap sub_InvalidMap ab_InvalidMap col_InvalidMap dd_InvalidMap m0_InvalidMap m1_InvalidMap m2_InvalidMap m3_InvalidMap m5_InvalidMap "ValueError.__new__"))
    (sa_InvalidMap : PySem.W.findIn K (.ref C_InvalidMap) "__setattr__" = some (some (.builtin "object.__setattr__")))
    (ex_InvalidMap : PySem.W.subIn K (.ref C_InvalidMap) (.type "BaseException") = some true)
    (ty_InvalidMap : PySem.W.typeIn K (.ref C_InvalidMap) = some (.type "type"))
    (kc_InvalidMap : PySem.W.keepIn K (.ref C_InvalidMap) = true)
    (hd_InvalidMap : PySem.W.hasDictIn K C_InvalidMap = true)
    (ga_InvalidMap : PySem.W.findIn K (.ref C_InvalidMap) "__getattribute__" = some (some (.builtin "BaseException.__getattribute__")))
    (gg_InvalidMap : PySem.W.findIn K (.ref C_InvalidMap) "__getattr__" = some none)
    (ss_InvalidMap : PySem.W.subIn K (.ref C_InvalidMap) (.ref C_InvalidMap) = some true)
    (ca_InvalidMap : PySem.W.findIn K (.ref C_InvalidMap) "__class__" = some (some (.builtin "object.__class__")))
    (cn_InvalidMap : PySem.W.specialIn K (.builtin "object.__class__") "__get__" = some (some (.builtin "getset_descriptor.__get__")))
    (ct_InvalidMap : PySem.W.takesIn K (.builtin "object.__class__") = some true)
    (cm_InvalidMap : PySem.W.mroIn K C_InvalidMap (.type "object") = some true)
    (kit_ValueError_InvalidMap : PySem.W.kitOne K (.ref C_InvalidMap) (.type "ValueError") = some true)
    (na_part_InvalidMap : PySem.W.findIn K (.ref C_InvalidMap) "part" = some none)
    (m_InvalidMap__init : PySem.W.findIn K (.ref C_InvalidMap) "__init__" = some (some (.ref f_InvalidMap__init)))
    (ti_InvalidMap__init : PySem.W.typeIn K (.ref f_InvalidMap__init) = some (.type "function"))
    (l_InvalidMap__init : K.lookup f_InvalidMap__init = some ⟨oc_InvalidMap__init, od_InvalidMap__init, .func (PySem.W.fnOf "__init__" "InvalidMap.__init__" (defArgs s_InvalidMap__init) (defBody s_InvalidMap__init) (defScope s_InvalidMap__init) .none kV_InvalidMap__init dc_InvalidMap__init pm_InvalidMap__init an_InvalidMap__init cd_InvalidMap__init ct_InvalidMap__init), sl_InvalidMap__init⟩)
    (c_InvalidMap__init : PySem.W.codeIn K cd_InvalidMap__init "InvalidMap.__init__" = true)
    (k_InvalidMap__init : PySem.W.keepIn K (.ref f_InvalidMap__init) = true)
    (a_InvalidNumber : PySem.W.nsIn K mainGlobals "InvalidNumber" = some (some (.ref C_InvalidNumber)))
    (xl_InvalidNumber : K.lookup C_InvalidNumber = some (excClassObj nm_InvalidNumber q_InvalidNumber C_InvalidNumber N_InvalidNumber bs_InvalidNumber [.type "ValueError", .type "Exception", .type "BaseException", .type "object"] true sn_InvalidNumber sub_InvalidNumber ab_InvalidNumber col_InvalidNumber dd_InvalidNumber m0_InvalidNumber m1_InvalidNumber m2_InvalidNumber m3_InvalidNumber m5_InvalidNumber "ValueError.__new__"))
    (sa_InvalidNumber : PySem.W.findIn K (.ref C_InvalidNumber) "__setattr__" = some (some (.builtin "object.__setattr__")))
    (ex_InvalidNumber : PySem.W.subIn K (.ref C_InvalidNumber) (.type "BaseException") = some true)
    (ty_InvalidNumber : PySem.W.typeIn K (.ref C_InvalidNumber) = some (.type "type"))
    (kc_InvalidNumber : PySem.W.keepIn K (.ref C_InvalidNumber) = true)
    (hd_InvalidNumber : PySem.W.hasDictIn K C_InvalidNumber = true)
    (ga_InvalidNumber : PySem.W.findIn K (.ref C_InvalidNumber) "__getattribute__" = some (some (.builtin "BaseException.__getattribute__")))
    (gg_InvalidNumber : PySem.W.findIn K (.ref C_InvalidNumber) "__getattr__" = some none)
    (ss_InvalidNumber : PySem.W.subIn K (.ref C_InvalidNumber) (.ref C_InvalidNumber) = some true)
    (ca_InvalidNumber : PySem.W.findIn K (.ref C_InvalidNumber) "__class__" = some (some (.builtin "object.__class__")))
    (cn_InvalidNumber : PySem.W.specialIn K (.builtin "object.__class__") "__get__" = some (some (.builtin "getset_descriptor.__get__")))
    (ct_InvalidNumber : PySem.W.takesIn K (.builtin "object.__class__") = some true)
    (cm_InvalidNumber : PySem.W.mroIn K C_InvalidNumber (.type "object") = some true)
    (kit_ValueError_InvalidNumber : PySem.W.kitOne K (.ref C_InvalidNumber) (.type "ValueError") = some true)
    (na_value_InvalidNumber : PySem.W.findIn K (.ref C_InvalidNumber) "value" = some none)
    (m_InvalidNumber__init : PySem.W.findIn K (.ref C_InvalidNumber) "__init__" = some (some (.ref f_InvalidNumber__init)))
    (ti_InvalidNumber__init : PySem.W.typeIn K (.ref f_InvalidNumber__init) = some (.type "function"))
    (l_InvalidNumber__init : K.lookup f_InvalidNumber__init = some ⟨oc_InvalidNumber__init, od_InvalidNumber__init, .func (PySem.W.fnOf "__init__" "InvalidNumber.__init__" (defArgs s_InvalidNumber__init) (defBody s_InvalidNumber__init) (defScope s_InvalidNumber__init) .none kV_InvalidNumber__init dc_InvalidNumber__init pm_InvalidNumber__init an_InvalidNumber__init cd_InvalidNumber__init ct_InvalidNumber__init), sl_InvalidNumber__init⟩)
    (c_InvalidNumber__init : PySem.W.codeIn K cd_InvalidNumber__init "InvalidNumber.__init__" = true)
    (k_InvalidNumber__init : PySem.W.keepIn K (.ref f_InvalidNumber__init) = true)
    (a_InvalidSize : PySem.W.nsIn K mainGlobals "InvalidSize" = some (some (.ref C_InvalidSize)))
    (xl_InvalidSize : K.lookup C_InvalidSize = some (excClassObj nm_InvalidSize q_InvalidSize C_InvalidSize N_InvalidSize bs_InvalidSize [.type "ValueError", .type "Exception", .type "BaseException", .type "object"] true sn_InvalidSize sub_InvalidSize ab_InvalidSize col_InvalidSize dd_InvalidSize m0_InvalidSize m1_InvalidSize m2_InvalidSize m3_InvalidSize m5_InvalidSize "ValueError.__new__"))
    (sa_InvalidSize : PySem.W.findIn K (.ref C_InvalidSize) "__setattr__" = some (some (.builtin "object.__setattr__")))
    (ex_InvalidSize : PySem.W.subIn K (.ref C_InvalidSize) (.type "BaseException") = some true)
    (ty_InvalidSize : PySem.W.typeIn K (.ref C_InvalidSize) = some (.type "type"))
    (kc_InvalidSize : PySem.W.keepIn K (.ref C_InvalidSize) = true)
    (hd_InvalidSize : PySem.W.hasDictIn K C_InvalidSize = true)
    (ga_InvalidSize : PySem.W.findIn K (.ref C_InvalidSize) "__getattribute__" = some (some (.builtin "BaseException.__getattribute__")))
    (gg_InvalidSize : PySem.W.findIn K (.ref C_InvalidSize) "__getattr__" = some none)
    (ss_InvalidSize : PySem.W.subIn K (.ref C_InvalidSize) (.ref C_InvalidSize) = some true)
    (ca_InvalidSize : PySem.W.findIn K (.ref C_InvalidSize) "__class__" = some (some (.builtin "object.__class__")))
    (cn_InvalidSize : PySem.W.specialIn K (.builtin "object.__class__") "__get__" = some (some (.builtin "getset_descriptor.__get__")))
    (ct_InvalidSize : PySem.W.takesIn K (.builtin "object.__class__") = some true)
    (cm_InvalidSize : PySem.W.mroIn K C_InvalidSize (.type "object") = some true)
    (kit_ValueError_InvalidSize : PySem.W.kitOne K (.ref C_InvalidSize) (.type "ValueError") = some true)
    (na_value_InvalidSize : PySem.W.findIn K (.ref C_InvalidSize) "value" = some none)
    (m_InvalidSize__init : PySem.W.findIn K (.ref C_InvalidSize) "__init__" = some (some (.ref f_InvalidSize__init)))
    (ti_InvalidSize__init : PySem.W.typeIn K (.ref f_InvalidSize__init) = some (.type "function"))
    (l_InvalidSize__init : K.lookup f_InvalidSize__init = some ⟨oc_InvalidSize__init, od_InvalidSize__init, .func (PySem.W.fnOf "__init__" "InvalidSize.__init__" (defArgs s_InvalidSize__init) (defBody s_InvalidSize__init) (defScope s_InvalidSize__init) .none kV_InvalidSize__init dc_InvalidSize__init pm_InvalidSize__init an_InvalidSize__init cd_InvalidSize__init ct_InvalidSize__init), sl_InvalidSize__init⟩)
    (c_InvalidSize__init : PySem.W.codeIn K cd_InvalidSize__init "InvalidSize.__init__" = true)
    (k_InvalidSize__init : PySem.W.keepIn K (.ref f_InvalidSize__init) = true)
    (a_InvalidElement : PySem.W.nsIn K mainGlobals "InvalidElement" = some (some (.ref C_InvalidElement)))
    (xl_InvalidElement : K.lookup C_InvalidElement = some (excClassObj nm_InvalidElement q_InvalidElement C_InvalidElement N_InvalidElement bs_InvalidElement [.type "ValueError", .type "Exception", .type "BaseException", .type "object"] true sn_InvalidElement sub_InvalidElement ab_InvalidElement col_InvalidElement dd_InvalidElement m0_InvalidElement m1_InvalidElement m2_InvalidElement m3_InvalidElement m5_InvalidElement "ValueError.__new__"))
    (sa_InvalidElement : PySem.W.findIn K (.ref C_InvalidElement) "__setattr__" = some (some (.builtin "object.__setattr__")))
    (ex_InvalidElement : PySem.W.subIn K (.ref C_InvalidElement) (.type "BaseException") = some true)
    (ty_InvalidElement : PySem.W.typeIn K (.ref C_InvalidElement) = some (.type "type"))
    (kc_InvalidElement : PySem.W.keepIn K (.ref C_InvalidElement) = true)
    (hd_InvalidElement : PySem.W.hasDictIn K C_InvalidElement = true)
    (ga_InvalidElement : PySem.W.findIn K (.ref C_InvalidElement) "__getattribute__" = some (some (.builtin "BaseException.__getattribute__")))
    (gg_InvalidElement : PySem.W.findIn K (.ref C_InvalidElement) "__getattr__" = some none)
    (ss_InvalidElement : PySem.W.subIn K (.ref C_InvalidElement) (.ref C_InvalidElement) = some true)
    (ca_InvalidElement : PySem.W.findIn K (.ref C_InvalidElement) "__class__" = some (some (.builtin "object.__class__")))
    (cn_InvalidElement : PySem.W.specialIn K (.builtin "object.__class__") "__get__" = some (some (.builtin "getset_descriptor.__get__")))
    (ct_InvalidElement : PySem.W.takesIn K (.builtin "object.__class__") = some true)
    (cm_InvalidElement : PySem.W.mroIn K C_InvalidElement (.type "object") = some true)
    (kit_ValueError_InvalidElement : PySem.W.kitOne K (.ref C_InvalidElement) (.type "ValueError") = some true)
    (na_value_InvalidElement : PySem.W.findIn K (.ref C_InvalidElement) "value" = some none)
    (m_InvalidElement__init : PySem.W.findIn K (.ref C_InvalidElement) "__init__" = some (some (.ref f_InvalidElement__init)))
    (ti_InvalidElement__init : PySem.W.typeIn K (.ref f_InvalidElement__init) = some (.type "function"))
    (l_InvalidElement__init : K.lookup f_InvalidElement__init = some ⟨oc_InvalidElement__init, od_InvalidElement__init, .func (PySem.W.fnOf "__init__" "InvalidElement.__init__" (defArgs s_InvalidElement__init) (defBody s_InvalidElement__init) (defScope s_InvalidElement__init) .none kV_InvalidElement__init dc_InvalidElement__init pm_InvalidElement__init an_InvalidElement__init cd_InvalidElement__init ct_InvalidElement__init), sl_InvalidElement__init⟩)
    (c_InvalidElement__init : PySem.W.codeIn K cd_InvalidElement__init "InvalidElement.__init__" = true)
    (k_InvalidElement__init : PySem.W.keepIn K (.ref f_InvalidElement__init) = true)
    (a_InvalidShape : PySem.W.nsIn K mainGlobals "InvalidShape" = some (some (.ref C_InvalidShape)))
    (xl_InvalidShape : K.lookup C_InvalidShape = some (excClassObj nm_InvalidShape q_InvalidShape C_InvalidShape N_InvalidShape bs_InvalidShape [.type "ValueError", .type "Exception", .type "BaseException", .type "object"] true sn_InvalidShape sub_InvalidShape ab_InvalidShape col_InvalidShape dd_InvalidShape m0_InvalidShape m1_InvalidShape m2_InvalidShape m3_InvalidShape m5_InvalidShape "ValueError.__new__"))
    (sa_InvalidShape : PySem.W.findIn K (.ref C_InvalidShape) "__setattr__" = some (some (.builtin "object.__setattr__")))
    (ex_InvalidShape : PySem.W.subIn K (.ref C_InvalidShape) (.type "BaseException") = some true)
    (ty_InvalidShape : PySem.W.typeIn K (.ref C_InvalidShape) = some (.type "type"))
    (kc_InvalidShape : PySem.W.keepIn K (.ref C_InvalidShape) = true)
    (hd_InvalidShape : PySem.W.hasDictIn K C_InvalidShape = true)
    (ga_InvalidShape : PySem.W.findIn K (.ref C_InvalidShape) "__getattribute__" = some (some (.builtin "BaseException.__getattribute__")))
    (gg_InvalidShape : PySem.W.findIn K (.ref C_InvalidShape) "__getattr__" = some none)
    (ss_InvalidShape : PySem.W.subIn K (.ref C_InvalidShape) (.ref C_InvalidShape) = some true)
    (ca_InvalidShape : PySem.W.findIn K (.ref C_InvalidShape) "__class__" = some (some (.builtin "object.__class__")))
    (cn_InvalidShape : PySem.W.specialIn K (.builtin "object.__class__") "__get__" = some (some (.builtin "getset_descriptor.__get__")))
    (ct_InvalidShape : PySem.W.takesIn K (.builtin "object.__class__") = some true)
    (cm_InvalidShape : PySem.W.mroIn K C_InvalidShape (.type "object") = some true)
    (kit_ValueError_InvalidShape : PySem.W.kitOne K (.ref C_InvalidShape) (.type "ValueError") = some true)
    (na_part_InvalidShape : PySem.W.findIn K (.ref C_InvalidShape) "part" = some none)
    (m_InvalidShape__init : PySem.W.findIn K (.ref C_InvalidShape) "__init__" = some (some (.ref f_InvalidShape__init)))
    (ti_InvalidShape__init : PySem.W.typeIn K (.ref f_InvalidShape__init) = some (.type "function"))
    (l_InvalidShape__init : K.lookup f_InvalidShape__init = some ⟨oc_InvalidShape__init, od_InvalidShape__init, .func (PySem.W.fnOf "__init__" "InvalidShape.__init__" (defArgs s_InvalidShape__init) (defBody s_InvalidShape__init) (defScope s_InvalidShape__init) .none kV_InvalidShape__init dc_InvalidShape__init pm_InvalidShape__init an_InvalidShape__init cd_InvalidShape__init ct_InvalidShape__init), sl_InvalidShape__init⟩)
    (c_InvalidShape__init : PySem.W.codeIn K cd_InvalidShape__init "InvalidShape.__init__" = true)
    (k_InvalidShape__init : PySem.W.keepIn K (.ref f_InvalidShape__init) = true)
    (z_isinstance : PySem.W.nsIn K mainGlobals "isinstance" = some none)
    (z_int : PySem.W.nsIn K mainGlobals "int" = some none)
    (z_bool : PySem.W.nsIn K mainGlobals "bool" = some none)
    (z_dict : PySem.W.nsIn K mainGlobals "dict" = some none)
    (z_len : PySem.W.nsIn K mainGlobals "len" = some none)
    (z_range : PySem.W.nsIn K mainGlobals "range" = some none)
    (z_list : PySem.W.nsIn K mainGlobals "list" = some none)
    (z_tuple : PySem.W.nsIn K mainGlobals "tuple" = some none)
    (z_max : PySem.W.nsIn K mainGlobals "max" = some none)
    (z_min : PySem.W.nsIn K mainGlobals "min" = some none)
    (z_all : PySem.W.nsIn K mainGlobals "all" = some none)
    (z_sorted : PySem.W.nsIn K mainGlobals "sorted" = some none)
    (z_abs : PySem.W.nsIn K mainGlobals "abs" = some none)
    (z_enumerate : PySem.W.nsIn K mainGlobals "enumerate" = some none)
    (z_repr : PySem.W.nsIn K mainGlobals "repr" = some none)
    (v_MAX_SIZE : PySem.W.nsIn K mainGlobals "MAX_SIZE" = some (some (.int 300 t_MAX_SIZE)))
    (v_MAX_PARTS : PySem.W.nsIn K mainGlobals "MAX_PARTS" = some (some (.int 100 t_MAX_PARTS)))
    (v_MAX_NUMBER : PySem.W.nsIn K mainGlobals "MAX_NUMBER" = some (some (.int 1000000000000000000000000000000 t_MAX_NUMBER)))
    (kit_x_Shape_Map : PySem.W.kitOne K (.ref C_Map) (.ref C_Shape) = some false)
    (nf_x_Shape_Map : PySem.W.notFirst K C_Shape (.ref C_Map) = true) :
    Nonempty (Txt K mg) := ⟨{
    f_is_integer := f_is_integer,
    A_is_integer := ⟨_, fun_mk (st := s_is_integer) l_is_integer c_is_integer k_is_integer, (fun_mk (st := s_is_integer) l_is_integer c_is_integer k_is_integer).binds (ps := ["value"]) fun _ _ _ _ _ _ us hl => match us, hl with | [_], _ => rfl⟩,
    g_is_integer := PySem.W.mg_of X G a_is_integer,
    f_in_range := f_in_range,
    A_in_range := ⟨_, fun_mk (st := s_in_range) l_in_range c_in_range k_in_range, (fun_mk (st := s_in_range) l_in_range c_in_range k_in_range).binds (ps := ["value", "least", "most"]) fun _ _ _ _ _ _ us hl => match us, hl with | [_, _, _], _ => rfl⟩,
    g_in_range := PySem.W.mg_of X G a_in_range,
    f_check_size := f_check_size,
    A_check_size := ⟨_, fun_mk (st := s_check_size) l_check_size c_check_size k_check_size, (fun_mk (st := s_check_size) l_check_size c_check_size k_check_size).binds (ps := ["size"]) fun _ _ _ _ _ _ us hl => match us, hl with | [_], _ => rfl⟩,
    g_check_size := PySem.W.mg_of X G a_check_size,
    f_check_elements := f_check_elements,
    A_check_elements := ⟨_, fun_mk (st := s_check_elements) l_check_elements c_check_elements k_check_elements, (fun_mk (st := s_check_elements) l_check_elements c_check_elements k_check_elements).binds (ps := ["size", "points"]) fun _ _ _ _ _ _ us hl => match us, hl with | [_, _], _ => rfl⟩,
    g_check_elements := PySem.W.mg_of X G a_check_elements,
    f_are_arrows := f_are_arrows,
    A_are_arrows := ⟨_, fun_mk (st := s_are_arrows) l_are_arrows c_are_arrows k_are_arrows, (fun_mk (st := s_are_arrows) l_are_arrows c_are_arrows k_are_arrows).binds (ps := ["size", "arrows"]) fun _ _ _ _ _ _ us hl => match us, hl with | [_, _], _ => rfl⟩,
    g_are_arrows := PySem.W.mg_of X G a_are_arrows,
    f_row_from := f_row_from,
    A_row_from := ⟨_, fun_mk (st := s_row_from) l_row_from c_row_from k_row_from, (fun_mk (st := s_row_from) l_row_from c_row_from k_row_from).binds (ps := ["arrows", "element"]) fun _ _ _ _ _ _ us hl => match us, hl with | [_, _], _ => rfl⟩,
    g_row_from := PySem.W.mg_of X G a_row_from,
    f_moved := f_moved,
    A_moved := ⟨_, fun_mk (st := s_moved) l_moved c_moved k_moved, (fun_mk (st := s_moved) l_moved c_moved k_moved).binds (ps := ["arrows", "steps"]) fun _ _ _ _ _ _ us hl => match us, hl with | [_, _], _ => rfl⟩,
    g_moved := PySem.W.mg_of X G a_moved,
    f_check_map := f_check_map,
    A_check_map := ⟨_, fun_mk (st := s_check_map) l_check_map c_check_map k_check_map, (fun_mk (st := s_check_map) l_check_map c_check_map k_check_map).binds (ps := ["value"]) fun _ _ _ _ _ _ us hl => match us, hl with | [_], _ => rfl⟩,
    g_check_map := PySem.W.mg_of X G a_check_map,
    f_greatest_divisor := f_greatest_divisor,
    A_greatest_divisor := ⟨_, fun_mk (st := s_greatest_divisor) l_greatest_divisor c_greatest_divisor k_greatest_divisor, (fun_mk (st := s_greatest_divisor) l_greatest_divisor c_greatest_divisor k_greatest_divisor).binds (ps := ["one", "other"]) fun _ _ _ _ _ _ us hl => match us, hl with | [_, _], _ => rfl⟩,
    g_greatest_divisor := PySem.W.mg_of X G a_greatest_divisor,
    f_largest := f_largest,
    A_largest := ⟨_, fun_mk (st := s_largest) l_largest c_largest k_largest, (fun_mk (st := s_largest) l_largest c_largest k_largest).binds (ps := ["numbers", "least"]) fun _ _ _ _ _ _ us hl => match us, hl with | [_, _], _ => rfl⟩,
    g_largest := PySem.W.mg_of X G a_largest,
    f_parts_of := f_parts_of,
    A_parts_of := ⟨_, fun_mk (st := s_parts_of) l_parts_of c_parts_of k_parts_of, (fun_mk (st := s_parts_of) l_parts_of c_parts_of k_parts_of).binds (ps := ["given"]) fun _ _ _ _ _ _ us hl => match us, hl with | [_], _ => rfl⟩,
    g_parts_of := PySem.W.mg_of X G a_parts_of,
    f_are_counts := f_are_counts,
    A_are_counts := ⟨_, fun_mk (st := s_are_counts) l_are_counts c_are_counts k_are_counts, (fun_mk (st := s_are_counts) l_are_counts c_are_counts k_are_counts).binds (ps := ["value"]) fun _ _ _ _ _ _ us hl => match us, hl with | [_], _ => rfl⟩,
    g_are_counts := PySem.W.mg_of X G a_are_counts,
    f_ordered := f_ordered,
    A_ordered := ⟨_, fun_mk (st := s_ordered) l_ordered c_ordered k_ordered, (fun_mk (st := s_ordered) l_ordered c_ordered k_ordered).binds (ps := ["counts"]) fun _ _ _ _ _ _ us hl => match us, hl with | [_], _ => rfl⟩,
    g_ordered := PySem.W.mg_of X G a_ordered,
    f_counts_of := f_counts_of,
    A_counts_of := ⟨_, fun_mk (st := s_counts_of) l_counts_of c_counts_of k_counts_of, (fun_mk (st := s_counts_of) l_counts_of c_counts_of k_counts_of).binds (ps := ["parts"]) fun _ _ _ _ _ _ us hl => match us, hl with | [_], _ => rfl⟩,
    g_counts_of := PySem.W.mg_of X G a_counts_of,
    f_shape_of := f_shape_of,
    A_shape_of := ⟨_, fun_mk (st := s_shape_of) l_shape_of c_shape_of k_shape_of, (fun_mk (st := s_shape_of) l_shape_of c_shape_of k_shape_of).binds (ps := ["given"]) fun _ _ _ _ _ _ us hl => match us, hl with | [_], _ => rfl⟩,
    g_shape_of := PySem.W.mg_of X G a_shape_of,
    f_common_multiple := f_common_multiple,
    A_common_multiple := ⟨_, fun_mk (st := s_common_multiple) l_common_multiple c_common_multiple k_common_multiple, (fun_mk (st := s_common_multiple) l_common_multiple c_common_multiple k_common_multiple).binds (ps := ["numbers"]) fun _ _ _ _ _ _ us hl => match us, hl with | [_], _ => rfl⟩,
    g_common_multiple := PySem.W.mg_of X G a_common_multiple,
    f_repetition_of := f_repetition_of,
    A_repetition_of := ⟨_, fun_mk (st := s_repetition_of) l_repetition_of c_repetition_of k_repetition_of, (fun_mk (st := s_repetition_of) l_repetition_of c_repetition_of k_repetition_of).binds (ps := ["cycles", "chains"]) fun _ _ _ _ _ _ us hl => match us, hl with | [_, _], _ => rfl⟩,
    g_repetition_of := PySem.W.mg_of X G a_repetition_of,
    f_repetition := f_repetition,
    A_repetition := ⟨_, fun_mk (st := s_repetition) l_repetition c_repetition k_repetition, (fun_mk (st := s_repetition) l_repetition c_repetition k_repetition).binds (ps := ["given"]) fun _ _ _ _ _ _ us hl => match us, hl with | [_], _ => rfl⟩,
    g_repetition := PySem.W.mg_of X G a_repetition,
    f_fate := f_fate,
    A_fate := ⟨_, fun_mk (st := s_fate) l_fate c_fate k_fate, (fun_mk (st := s_fate) l_fate c_fate k_fate).binds (ps := ["given", "element"]) fun _ _ _ _ _ _ us hl => match us, hl with | [_, _], _ => rfl⟩,
    g_fate := PySem.W.mg_of X G a_fate,
    f_are_lengths := f_are_lengths,
    A_are_lengths := ⟨_, fun_mk (st := s_are_lengths) l_are_lengths c_are_lengths k_are_lengths, (fun_mk (st := s_are_lengths) l_are_lengths c_are_lengths k_are_lengths).binds (ps := ["value"]) fun _ _ _ _ _ _ us hl => match us, hl with | [_], _ => rfl⟩,
    g_are_lengths := PySem.W.mg_of X G a_are_lengths,
    f_counted := f_counted,
    A_counted := ⟨_, fun_mk (st := s_counted) l_counted c_counted k_counted, (fun_mk (st := s_counted) l_counted c_counted k_counted).binds (ps := ["lengths"]) fun _ _ _ _ _ _ us hl => match us, hl with | [_], _ => rfl⟩,
    g_counted := PySem.W.mg_of X G a_counted,
    f_l_hand := f_l_hand,
    A_l_hand := ⟨_, fun_mk (st := s_l_hand) l_l_hand c_l_hand k_l_hand, (fun_mk (st := s_l_hand) l_l_hand c_l_hand k_l_hand).binds (ps := ["_law_script", "_law_k"]) fun _ _ _ _ _ _ us hl => match us, hl with | [_, _], _ => rfl⟩,
    g_l_hand := PySem.W.mg_of X G a_l_hand,
    f_l_draw := f_l_draw,
    A_l_draw := ⟨_, fun_mk (st := s_l_draw) l_l_draw c_l_draw k_l_draw, (fun_mk (st := s_l_draw) l_l_draw c_l_draw k_l_draw).binds (ps := ["_law_pool", "_law_size"]) fun _ _ _ _ _ _ us hl => match us, hl with | [_, _], _ => rfl⟩,
    g_l_draw := PySem.W.mg_of X G a_l_draw,
    f_l_lengths := f_l_lengths,
    A_l_lengths := ⟨_, fun_mk (st := s_l_lengths) l_l_lengths c_l_lengths k_l_lengths, (fun_mk (st := s_l_lengths) l_l_lengths c_l_lengths k_l_lengths).binds (ps := ["_law_pool", "_law_most"]) fun _ _ _ _ _ _ us hl => match us, hl with | [_, _], _ => rfl⟩,
    g_l_lengths := PySem.W.mg_of X G a_l_lengths,
    f_l_places := f_l_places,
    A_l_places := ⟨_, fun_mk (st := s_l_places) l_l_places c_l_places k_l_places, (fun_mk (st := s_l_places) l_l_places c_l_places k_l_places).binds (ps := ["_law_cycles", "_law_chains"]) fun _ _ _ _ _ _ us hl => match us, hl with | [_, _], _ => rfl⟩,
    g_l_places := PySem.W.mg_of X G a_l_places,
    f_l_small := f_l_small,
    A_l_small := ⟨_, fun_mk (st := s_l_small) l_l_small c_l_small k_l_small, (fun_mk (st := s_l_small) l_l_small c_l_small k_l_small).binds (ps := ["_law_pool", "_law_cycles", "_law_chains"]) fun _ _ _ _ _ _ us hl => match us, hl with | [_, _, _], _ => rfl⟩,
    g_l_small := PySem.W.mg_of X G a_l_small,
    f_l_huge := f_l_huge,
    A_l_huge := ⟨_, fun_mk (st := s_l_huge) l_l_huge c_l_huge k_l_huge, (fun_mk (st := s_l_huge) l_l_huge c_l_huge k_l_huge).binds (ps := ["_law_pool"]) fun _ _ _ _ _ _ us hl => match us, hl with | [_], _ => rfl⟩,
    g_l_huge := PySem.W.mg_of X G a_l_huge,
    f_law := f_law,
    A_law := ⟨_, fun_mk (st := s_law) l_law c_law k_law, (fun_mk (st := s_law) l_law c_law k_law).binds (ps := ["_law_script"]) fun _ _ _ _ _ _ us hl => match us, hl with | [_], _ => rfl⟩,
    L_law := ⟨_, fun_mk (st := s_law) l_law c_law k_law, fun s v => .of_eq rfl⟩,
    g_law := PySem.W.mg_of X G a_law,
    C_Shape := C_Shape,
    g_Shape := PySem.W.mg_of X G a_Shape,
    o_Shape := ⟨⟨pg_Shape, hd_Shape, po_Shape, sa_Shape⟩, sf_Shape, ca_Shape, cn_Shape, ct_Shape, cm_Shape⟩,
    kit_int_Shape := kit_int_Shape,
    kit_bool_Shape := kit_bool_Shape,
    kn_NoneType_Shape := kn_NoneType_Shape,
    nf_NoneType_Shape := nf_NoneType_Shape,
    kn_int_Shape := kn_int_Shape,
    nf_int_Shape := nf_int_Shape,
    kn_bool_Shape := kn_bool_Shape,
    nf_bool_Shape := nf_bool_Shape,
    kn_str_Shape := kn_str_Shape,
    nf_str_Shape := nf_str_Shape,
    kn_list_Shape := kn_list_Shape,
    nf_list_Shape := nf_list_Shape,
    kn_dict_Shape := kn_dict_Shape,
    nf_dict_Shape := nf_dict_Shape,
    kn_tuple_Shape := kn_tuple_Shape,
    nf_tuple_Shape := nf_tuple_Shape,
    self_Shape := self_Shape,
    na_own_cycles_Shape := na_own_cycles_Shape,
    na_own_chains_Shape := na_own_chains_Shape,
    ne_Shape := ne_Shape,
    f_Shape__init := f_Shape__init,
    A_Shape__init := ⟨_, fun_mk (st := s_Shape__init) l_Shape__init c_Shape__init k_Shape__init, (fun_mk (st := s_Shape__init) l_Shape__init c_Shape__init k_Shape__init).binds (ps := ["self", "cycles", "chains"]) fun _ _ _ _ _ _ us hl => match us, hl with | [_, _, _], _ => rfl⟩,
    m_Shape__init := m_Shape__init,
    i_Shape__init := i_Shape__init,
    M_Shape := ⟨mk_Shape, m_Shape__init, i_Shape__init, kc_Shape⟩,
    f_Shape__eq := f_Shape__eq,
    A_Shape__eq := ⟨_, fun_mk (st := s_Shape__eq) l_Shape__eq c_Shape__eq k_Shape__eq, (fun_mk (st := s_Shape__eq) l_Shape__eq c_Shape__eq k_Shape__eq).binds (ps := ["self", "other"]) fun _ _ _ _ _ _ us hl => match us, hl with | [_, _], _ => rfl⟩,
    m_Shape__eq := m_Shape__eq,
    i_Shape__eq := i_Shape__eq,
    C_GreatMap := C_GreatMap,
    g_GreatMap := PySem.W.mg_of X G a_GreatMap,
    o_GreatMap := ⟨⟨pg_GreatMap, hd_GreatMap, po_GreatMap, sa_GreatMap⟩, sf_GreatMap, ca_GreatMap, cn_GreatMap, ct_GreatMap, cm_GreatMap⟩,
    kit_int_GreatMap := kit_int_GreatMap,
    kit_bool_GreatMap := kit_bool_GreatMap,
    kit_list_GreatMap := kit_list_GreatMap,
    kit_tuple_GreatMap := kit_tuple_GreatMap,
    kn_NoneType_GreatMap := kn_NoneType_GreatMap,
    nf_NoneType_GreatMap := nf_NoneType_GreatMap,
    kn_int_GreatMap := kn_int_GreatMap,
    nf_int_GreatMap := nf_int_GreatMap,
    kn_bool_GreatMap := kn_bool_GreatMap,
    nf_bool_GreatMap := nf_bool_GreatMap,
    kn_str_GreatMap := kn_str_GreatMap,
    nf_str_GreatMap := nf_str_GreatMap,
    kn_list_GreatMap := kn_list_GreatMap,
    nf_list_GreatMap := nf_list_GreatMap,
    kn_dict_GreatMap := kn_dict_GreatMap,
    nf_dict_GreatMap := nf_dict_GreatMap,
    kn_tuple_GreatMap := kn_tuple_GreatMap,
    nf_tuple_GreatMap := nf_tuple_GreatMap,
    self_GreatMap := self_GreatMap,
    na_own_cycles_GreatMap := na_own_cycles_GreatMap,
    na_own_chains_GreatMap := na_own_chains_GreatMap,
    ne_GreatMap := ne_GreatMap,
    f_GreatMap__init := f_GreatMap__init,
    A_GreatMap__init := ⟨_, fun_mk (st := s_GreatMap__init) l_GreatMap__init c_GreatMap__init k_GreatMap__init, (fun_mk (st := s_GreatMap__init) l_GreatMap__init c_GreatMap__init k_GreatMap__init).binds (ps := ["self", "cycles", "chains"]) fun _ _ _ _ _ _ us hl => match us, hl with | [_, _, _], _ => rfl⟩,
    m_GreatMap__init := m_GreatMap__init,
    i_GreatMap__init := i_GreatMap__init,
    M_GreatMap := ⟨mk_GreatMap, m_GreatMap__init, i_GreatMap__init, kc_GreatMap⟩,
    p_GreatMap_cycles := p_GreatMap_cycles,
    f_GreatMap_cycles := f_GreatMap_cycles,
    A_GreatMap_cycles := ⟨_, fun_mk (st := s_GreatMap_cycles) l_GreatMap_cycles c_GreatMap_cycles k_GreatMap_cycles, (fun_mk (st := s_GreatMap_cycles) l_GreatMap_cycles c_GreatMap_cycles k_GreatMap_cycles).binds (ps := ["self"]) fun _ _ _ _ _ _ us hl => match us, hl with | [_], _ => rfl⟩,
    P_GreatMap_cycles := ⟨m_GreatMap_cycles, s_get_GreatMap_cycles, tk_GreatMap_cycles, _, rc_GreatMap_cycles⟩,
    p_GreatMap_chains := p_GreatMap_chains,
    f_GreatMap_chains := f_GreatMap_chains,
    A_GreatMap_chains := ⟨_, fun_mk (st := s_GreatMap_chains) l_GreatMap_chains c_GreatMap_chains k_GreatMap_chains, (fun_mk (st := s_GreatMap_chains) l_GreatMap_chains c_GreatMap_chains k_GreatMap_chains).binds (ps := ["self"]) fun _ _ _ _ _ _ us hl => match us, hl with | [_], _ => rfl⟩,
    P_GreatMap_chains := ⟨m_GreatMap_chains, s_get_GreatMap_chains, tk_GreatMap_chains, _, rc_GreatMap_chains⟩,
    f_GreatMap_length_at := f_GreatMap_length_at,
    A_GreatMap_length_at := ⟨_, fun_mk (st := s_GreatMap_length_at) l_GreatMap_length_at c_GreatMap_length_at k_GreatMap_length_at, (fun_mk (st := s_GreatMap_length_at) l_GreatMap_length_at c_GreatMap_length_at k_GreatMap_length_at).binds (ps := ["self", "place"]) fun _ _ _ _ _ _ us hl => match us, hl with | [_, _], _ => rfl⟩,
    m_GreatMap_length_at := m_GreatMap_length_at,
    i_GreatMap_length_at := i_GreatMap_length_at,
    meth_GreatMap_length_at := ⟨m_GreatMap_length_at, i_GreatMap_length_at, k_GreatMap_length_at⟩,
    f_GreatMap_after := f_GreatMap_after,
    A_GreatMap_after := ⟨_, fun_mk (st := s_GreatMap_after) l_GreatMap_after c_GreatMap_after k_GreatMap_after, (fun_mk (st := s_GreatMap_after) l_GreatMap_after c_GreatMap_after k_GreatMap_after).binds (ps := ["self", "place", "exponent"]) fun _ _ _ _ _ _ us hl => match us, hl with | [_, _, _], _ => rfl⟩,
    m_GreatMap_after := m_GreatMap_after,
    i_GreatMap_after := i_GreatMap_after,
    meth_GreatMap_after := ⟨m_GreatMap_after, i_GreatMap_after, k_GreatMap_after⟩,
    f_GreatMap_fate := f_GreatMap_fate,
    A_GreatMap_fate := ⟨_, fun_mk (st := s_GreatMap_fate) l_GreatMap_fate c_GreatMap_fate k_GreatMap_fate, (fun_mk (st := s_GreatMap_fate) l_GreatMap_fate c_GreatMap_fate k_GreatMap_fate).binds (ps := ["self", "place"]) fun _ _ _ _ _ _ us hl => match us, hl with | [_, _], _ => rfl⟩,
    m_GreatMap_fate := m_GreatMap_fate,
    i_GreatMap_fate := i_GreatMap_fate,
    meth_GreatMap_fate := ⟨m_GreatMap_fate, i_GreatMap_fate, k_GreatMap_fate⟩,
    f_GreatMap_repetition := f_GreatMap_repetition,
    A_GreatMap_repetition := ⟨_, fun_mk (st := s_GreatMap_repetition) l_GreatMap_repetition c_GreatMap_repetition k_GreatMap_repetition, (fun_mk (st := s_GreatMap_repetition) l_GreatMap_repetition c_GreatMap_repetition k_GreatMap_repetition).binds (ps := ["self"]) fun _ _ _ _ _ _ us hl => match us, hl with | [_], _ => rfl⟩,
    m_GreatMap_repetition := m_GreatMap_repetition,
    i_GreatMap_repetition := i_GreatMap_repetition,
    meth_GreatMap_repetition := ⟨m_GreatMap_repetition, i_GreatMap_repetition, k_GreatMap_repetition⟩,
    f_GreatMap_shape := f_GreatMap_shape,
    A_GreatMap_shape := ⟨_, fun_mk (st := s_GreatMap_shape) l_GreatMap_shape c_GreatMap_shape k_GreatMap_shape, (fun_mk (st := s_GreatMap_shape) l_GreatMap_shape c_GreatMap_shape k_GreatMap_shape).binds (ps := ["self"]) fun _ _ _ _ _ _ us hl => match us, hl with | [_], _ => rfl⟩,
    m_GreatMap_shape := m_GreatMap_shape,
    i_GreatMap_shape := i_GreatMap_shape,
    meth_GreatMap_shape := ⟨m_GreatMap_shape, i_GreatMap_shape, k_GreatMap_shape⟩,
    f_GreatMap__eq := f_GreatMap__eq,
    A_GreatMap__eq := ⟨_, fun_mk (st := s_GreatMap__eq) l_GreatMap__eq c_GreatMap__eq k_GreatMap__eq, (fun_mk (st := s_GreatMap__eq) l_GreatMap__eq c_GreatMap__eq k_GreatMap__eq).binds (ps := ["self", "other"]) fun _ _ _ _ _ _ us hl => match us, hl with | [_, _], _ => rfl⟩,
    m_GreatMap__eq := m_GreatMap__eq,
    i_GreatMap__eq := i_GreatMap__eq,
    f_GreatMap__repr := f_GreatMap__repr,
    A_GreatMap__repr := ⟨_, fun_mk (st := s_GreatMap__repr) l_GreatMap__repr c_GreatMap__repr k_GreatMap__repr, (fun_mk (st := s_GreatMap__repr) l_GreatMap__repr c_GreatMap__repr k_GreatMap__repr).binds (ps := ["self"]) fun _ _ _ _ _ _ us hl => match us, hl with | [_], _ => rfl⟩,
    m_GreatMap__repr := m_GreatMap__repr,
    i_GreatMap__repr := i_GreatMap__repr,
    C_Map := C_Map,
    g_Map := PySem.W.mg_of X G a_Map,
    o_Map := ⟨⟨pg_Map, hd_Map, po_Map, sa_Map⟩, sf_Map, ca_Map, cn_Map, ct_Map, cm_Map⟩,
    kit_int_Map := kit_int_Map,
    kit_bool_Map := kit_bool_Map,
    kn_NoneType_Map := kn_NoneType_Map,
    nf_NoneType_Map := nf_NoneType_Map,
    kn_int_Map := kn_int_Map,
    nf_int_Map := nf_int_Map,
    kn_bool_Map := kn_bool_Map,
    nf_bool_Map := nf_bool_Map,
    kn_str_Map := kn_str_Map,
    nf_str_Map := nf_str_Map,
    kn_list_Map := kn_list_Map,
    nf_list_Map := nf_list_Map,
    kn_dict_Map := kn_dict_Map,
    nf_dict_Map := nf_dict_Map,
    kn_tuple_Map := kn_tuple_Map,
    nf_tuple_Map := nf_tuple_Map,
    kx_Map_Shape := kit_x_Shape_Map,
    nf_Map_Shape := nf_x_Shape_Map,
    self_Map := self_Map,
    na_own_size_Map := na_own_size_Map,
    na_own_arrows_Map := na_own_arrows_Map,
    f_Map__init := f_Map__init,
    A_Map__init := ⟨_, fun_mk (st := s_Map__init) l_Map__init c_Map__init k_Map__init, (fun_mk (st := s_Map__init) l_Map__init c_Map__init k_Map__init).binds (ps := ["self", "size", "arrows"]) fun _ _ _ _ _ _ us hl => match us, hl with | [_, _, _], _ => rfl⟩,
    m_Map__init := m_Map__init,
    i_Map__init := i_Map__init,
    M_Map := ⟨mk_Map, m_Map__init, i_Map__init, kc_Map⟩,
    R_Map := ⟨rd_Map, ga_Map⟩,
    p_Map_identity := p_Map_identity,
    f_Map_identity := f_Map_identity,
    A_Map_identity := ⟨_, fun_mk (st := s_Map_identity) l_Map_identity c_Map_identity k_Map_identity, (fun_mk (st := s_Map_identity) l_Map_identity c_Map_identity k_Map_identity).binds (ps := ["cls", "size"]) fun _ _ _ _ _ _ us hl => match us, hl with | [_, _], _ => rfl⟩,
    cm_Map_identity := ⟨at_Map_identity, ⟨_, rc_Map_identity⟩, fi_Map_identity⟩,
    p_Map_size := p_Map_size,
    f_Map_size := f_Map_size,
    A_Map_size := ⟨_, fun_mk (st := s_Map_size) l_Map_size c_Map_size k_Map_size, (fun_mk (st := s_Map_size) l_Map_size c_Map_size k_Map_size).binds (ps := ["self"]) fun _ _ _ _ _ _ us hl => match us, hl with | [_], _ => rfl⟩,
    P_Map_size := ⟨m_Map_size, s_get_Map_size, tk_Map_size, _, rc_Map_size⟩,
    p_Map_arrows := p_Map_arrows,
    f_Map_arrows := f_Map_arrows,
    A_Map_arrows := ⟨_, fun_mk (st := s_Map_arrows) l_Map_arrows c_Map_arrows k_Map_arrows, (fun_mk (st := s_Map_arrows) l_Map_arrows c_Map_arrows k_Map_arrows).binds (ps := ["self"]) fun _ _ _ _ _ _ us hl => match us, hl with | [_], _ => rfl⟩,
    P_Map_arrows := ⟨m_Map_arrows, s_get_Map_arrows, tk_Map_arrows, _, rc_Map_arrows⟩,
    f_Map_power := f_Map_power,
    A_Map_power := ⟨_, fun_mk (st := s_Map_power) l_Map_power c_Map_power k_Map_power, (fun_mk (st := s_Map_power) l_Map_power c_Map_power k_Map_power).binds (ps := ["self", "exponent"]) fun _ _ _ _ _ _ us hl => match us, hl with | [_, _], _ => rfl⟩,
    m_Map_power := m_Map_power,
    i_Map_power := i_Map_power,
    meth_Map_power := ⟨m_Map_power, i_Map_power, k_Map_power⟩,
    f_Map__call := f_Map__call,
    A_Map__call := ⟨_, fun_mk (st := s_Map__call) l_Map__call c_Map__call k_Map__call, (fun_mk (st := s_Map__call) l_Map__call c_Map__call k_Map__call).binds (ps := ["self", "element"]) fun _ _ _ _ _ _ us hl => match us, hl with | [_, _], _ => rfl⟩,
    m_Map__call := m_Map__call,
    i_Map__call := i_Map__call,
    fi_Map__call := fi_Map__call,
    f_Map_is_source := f_Map_is_source,
    A_Map_is_source := ⟨_, fun_mk (st := s_Map_is_source) l_Map_is_source c_Map_is_source k_Map_is_source, (fun_mk (st := s_Map_is_source) l_Map_is_source c_Map_is_source k_Map_is_source).binds (ps := ["self", "value"]) fun _ _ _ _ _ _ us hl => match us, hl with | [_, _], _ => rfl⟩,
    m_Map_is_source := m_Map_is_source,
    i_Map_is_source := i_Map_is_source,
    meth_Map_is_source := ⟨m_Map_is_source, i_Map_is_source, k_Map_is_source⟩,
    C_InvalidMap := C_InvalidMap,
    g_InvalidMap := PySem.W.mg_of X G a_InvalidMap,
    x_InvalidMap := ⟨⟨"ValueError", _, _, _, _, _, _, _, _, _, _, _, _, _, _, _, _, _, _, PySem.F.store_ValueError, PySem.F.excBase_ValueError, xl_InvalidMap, by decide +kernel⟩, sa_InvalidMap, ex_InvalidMap, ty_InvalidMap, kc_InvalidMap⟩,
    xf_InvalidMap := ⟨ga_InvalidMap, gg_InvalidMap, ex_InvalidMap, hd_InvalidMap⟩,
    xe_InvalidMap := ⟨ga_InvalidMap, gg_InvalidMap, ex_InvalidMap, hd_InvalidMap, ca_InvalidMap, cn_InvalidMap, ct_InvalidMap, cm_InvalidMap⟩,
    te_InvalidMap := PySem.W.exm_ref ex_InvalidMap hd_InvalidMap ty_InvalidMap ss_InvalidMap,
    kit_ValueError_InvalidMap := kit_ValueError_InvalidMap,
    na_part_InvalidMap := na_part_InvalidMap,
    f_InvalidMap__init := f_InvalidMap__init,
    A_InvalidMap__init := ⟨_, fun_mk (st := s_InvalidMap__init) l_InvalidMap__init c_InvalidMap__init k_InvalidMap__init, (fun_mk (st := s_InvalidMap__init) l_InvalidMap__init c_InvalidMap__init k_InvalidMap__init).binds (ps := ["self", "part"]) fun _ _ _ _ _ _ us hl => match us, hl with | [_, _], _ => rfl⟩,
    m_InvalidMap__init := m_InvalidMap__init,
    ti_InvalidMap__init := ti_InvalidMap__init,
    C_InvalidNumber := C_InvalidNumber,
    g_InvalidNumber := PySem.W.mg_of X G a_InvalidNumber,
    x_InvalidNumber := ⟨⟨"ValueError", _, _, _, _, _, _, _, _, _, _, _, _, _, _, _, _, _, _, PySem.F.store_ValueError, PySem.F.excBase_ValueError, xl_InvalidNumber, by decide +kernel⟩, sa_InvalidNumber, ex_InvalidNumber, ty_InvalidNumber, kc_InvalidNumber⟩,
    xf_InvalidNumber := ⟨ga_InvalidNumber, gg_InvalidNumber, ex_InvalidNumber, hd_InvalidNumber⟩,
    xe_InvalidNumber := ⟨ga_InvalidNumber, gg_InvalidNumber, ex_InvalidNumber, hd_InvalidNumber, ca_InvalidNumber, cn_InvalidNumber, ct_InvalidNumber, cm_InvalidNumber⟩,
    te_InvalidNumber := PySem.W.exm_ref ex_InvalidNumber hd_InvalidNumber ty_InvalidNumber ss_InvalidNumber,
    kit_ValueError_InvalidNumber := kit_ValueError_InvalidNumber,
    na_value_InvalidNumber := na_value_InvalidNumber,
    f_InvalidNumber__init := f_InvalidNumber__init,
    A_InvalidNumber__init := ⟨_, fun_mk (st := s_InvalidNumber__init) l_InvalidNumber__init c_InvalidNumber__init k_InvalidNumber__init, (fun_mk (st := s_InvalidNumber__init) l_InvalidNumber__init c_InvalidNumber__init k_InvalidNumber__init).binds (ps := ["self", "value"]) fun _ _ _ _ _ _ us hl => match us, hl with | [_, _], _ => rfl⟩,
    m_InvalidNumber__init := m_InvalidNumber__init,
    ti_InvalidNumber__init := ti_InvalidNumber__init,
    C_InvalidSize := C_InvalidSize,
    g_InvalidSize := PySem.W.mg_of X G a_InvalidSize,
    x_InvalidSize := ⟨⟨"ValueError", _, _, _, _, _, _, _, _, _, _, _, _, _, _, _, _, _, _, PySem.F.store_ValueError, PySem.F.excBase_ValueError, xl_InvalidSize, by decide +kernel⟩, sa_InvalidSize, ex_InvalidSize, ty_InvalidSize, kc_InvalidSize⟩,
    xf_InvalidSize := ⟨ga_InvalidSize, gg_InvalidSize, ex_InvalidSize, hd_InvalidSize⟩,
    xe_InvalidSize := ⟨ga_InvalidSize, gg_InvalidSize, ex_InvalidSize, hd_InvalidSize, ca_InvalidSize, cn_InvalidSize, ct_InvalidSize, cm_InvalidSize⟩,
    te_InvalidSize := PySem.W.exm_ref ex_InvalidSize hd_InvalidSize ty_InvalidSize ss_InvalidSize,
    kit_ValueError_InvalidSize := kit_ValueError_InvalidSize,
    na_value_InvalidSize := na_value_InvalidSize,
    f_InvalidSize__init := f_InvalidSize__init,
    A_InvalidSize__init := ⟨_, fun_mk (st := s_InvalidSize__init) l_InvalidSize__init c_InvalidSize__init k_InvalidSize__init, (fun_mk (st := s_InvalidSize__init) l_InvalidSize__init c_InvalidSize__init k_InvalidSize__init).binds (ps := ["self", "value"]) fun _ _ _ _ _ _ us hl => match us, hl with | [_, _], _ => rfl⟩,
    m_InvalidSize__init := m_InvalidSize__init,
    ti_InvalidSize__init := ti_InvalidSize__init,
    C_InvalidElement := C_InvalidElement,
    g_InvalidElement := PySem.W.mg_of X G a_InvalidElement,
    x_InvalidElement := ⟨⟨"ValueError", _, _, _, _, _, _, _, _, _, _, _, _, _, _, _, _, _, _, PySem.F.store_ValueError, PySem.F.excBase_ValueError, xl_InvalidElement, by decide +kernel⟩, sa_InvalidElement, ex_InvalidElement, ty_InvalidElement, kc_InvalidElement⟩,
    xf_InvalidElement := ⟨ga_InvalidElement, gg_InvalidElement, ex_InvalidElement, hd_InvalidElement⟩,
    xe_InvalidElement := ⟨ga_InvalidElement, gg_InvalidElement, ex_InvalidElement, hd_InvalidElement, ca_InvalidElement, cn_InvalidElement, ct_InvalidElement, cm_InvalidElement⟩,
    te_InvalidElement := PySem.W.exm_ref ex_InvalidElement hd_InvalidElement ty_InvalidElement ss_InvalidElement,
    kit_ValueError_InvalidElement := kit_ValueError_InvalidElement,
    na_value_InvalidElement := na_value_InvalidElement,
    f_InvalidElement__init := f_InvalidElement__init,
    A_InvalidElement__init := ⟨_, fun_mk (st := s_InvalidElement__init) l_InvalidElement__init c_InvalidElement__init k_InvalidElement__init, (fun_mk (st := s_InvalidElement__init) l_InvalidElement__init c_InvalidElement__init k_InvalidElement__init).binds (ps := ["self", "value"]) fun _ _ _ _ _ _ us hl => match us, hl with | [_, _], _ => rfl⟩,
    m_InvalidElement__init := m_InvalidElement__init,
    ti_InvalidElement__init := ti_InvalidElement__init,
    C_InvalidShape := C_InvalidShape,
    g_InvalidShape := PySem.W.mg_of X G a_InvalidShape,
    x_InvalidShape := ⟨⟨"ValueError", _, _, _, _, _, _, _, _, _, _, _, _, _, _, _, _, _, _, PySem.F.store_ValueError, PySem.F.excBase_ValueError, xl_InvalidShape, by decide +kernel⟩, sa_InvalidShape, ex_InvalidShape, ty_InvalidShape, kc_InvalidShape⟩,
    xf_InvalidShape := ⟨ga_InvalidShape, gg_InvalidShape, ex_InvalidShape, hd_InvalidShape⟩,
    xe_InvalidShape := ⟨ga_InvalidShape, gg_InvalidShape, ex_InvalidShape, hd_InvalidShape, ca_InvalidShape, cn_InvalidShape, ct_InvalidShape, cm_InvalidShape⟩,
    te_InvalidShape := PySem.W.exm_ref ex_InvalidShape hd_InvalidShape ty_InvalidShape ss_InvalidShape,
    kit_ValueError_InvalidShape := kit_ValueError_InvalidShape,
    na_part_InvalidShape := na_part_InvalidShape,
    f_InvalidShape__init := f_InvalidShape__init,
    A_InvalidShape__init := ⟨_, fun_mk (st := s_InvalidShape__init) l_InvalidShape__init c_InvalidShape__init k_InvalidShape__init, (fun_mk (st := s_InvalidShape__init) l_InvalidShape__init c_InvalidShape__init k_InvalidShape__init).binds (ps := ["self", "part"]) fun _ _ _ _ _ _ us hl => match us, hl with | [_, _], _ => rfl⟩,
    m_InvalidShape__init := m_InvalidShape__init,
    ti_InvalidShape__init := ti_InvalidShape__init,
    n_isinstance := PySem.W.mg_none_of X G z_isinstance,
    n_int := PySem.W.mg_none_of X G z_int,
    n_bool := PySem.W.mg_none_of X G z_bool,
    n_dict := PySem.W.mg_none_of X G z_dict,
    n_len := PySem.W.mg_none_of X G z_len,
    n_range := PySem.W.mg_none_of X G z_range,
    n_list := PySem.W.mg_none_of X G z_list,
    n_tuple := PySem.W.mg_none_of X G z_tuple,
    n_max := PySem.W.mg_none_of X G z_max,
    n_min := PySem.W.mg_none_of X G z_min,
    n_all := PySem.W.mg_none_of X G z_all,
    n_sorted := PySem.W.mg_none_of X G z_sorted,
    n_abs := PySem.W.mg_none_of X G z_abs,
    n_enumerate := PySem.W.mg_none_of X G z_enumerate,
    n_repr := PySem.W.mg_none_of X G z_repr,
    v_MAX_SIZE := ⟨_, PySem.W.mg_of X G v_MAX_SIZE⟩,
    v_MAX_PARTS := ⟨_, PySem.W.mg_of X G v_MAX_PARTS⟩,
    v_MAX_NUMBER := ⟨_, PySem.W.mg_of X G v_MAX_NUMBER⟩ }⟩
end My
namespace My
open PySem L2 U StX
/-! ### values of any known form -/
def knownV (C : Addr) (H : Hp) : V → Prop
  | .non => True | .bl _ => True | .int _ => True | .str _ => True
  | .ref a => (∃ xs, H a = some (.lst xs)) ∨ (∃ xs, H a = some (.tup xs)) ∨ (∃ kvs, H a = some (.dK kvs)) ∨ ∃ dx fs, H a = some (.ins C dx fs)
  | _ => False
def isI : V → Bool | .int _ => true | _ => false
def isB : V → Bool | .bl _ => true | _ => false
def inR : V → Int → Int → Bool | .int i, a, b => decide (a ≤ i) && decide (i ≤ b) | _, _, _ => false
section
variable {P : Program} {w : World} {K : PySem.W.Frag} {mg : Str → Option Value} {base : Heap}
theorem tyx_ins {H : Hp} {a C dx : Addr} {fs : List (Str × V)} (o : OwnC K C) (e : H a = some (.ins C dx fs)) : TyX K H (.ref a) (.ref C) := .base (.ins e o.cl o.ca o.cn o.ct o.cm)
/-- the type of a known value, and what isinstance says of it -/
theorem ty_known (T : Txt K mg) {H : Hp} {x : V} (h : knownV T.C_Map H x) : ∃ t, TyX K H x t ∧ PySem.W.kitOne K t (.type "int") = some (isI x || isB x) ∧ PySem.W.kitOne K t (.type "bool") = some (isB x) := by
  cases x with
  | non => exact ⟨_, .base .non, kit_ty (r := false) (by decide +kernel), kit_ty (r := false) (by decide +kernel)⟩
  | bl b => exact ⟨_, .base (.bl b), kit_ty (r := true) (by decide +kernel), kit_ty (r := true) (by decide +kernel)⟩
  | int i => exact ⟨_, .base (.int i), kit_ty (r := true) (by decide +kernel), kit_ty (r := false) (by decide +kernel)⟩
  | str z => exact ⟨_, .base (.str z), kit_ty (r := false) (by decide +kernel), kit_ty (r := false) (by decide +kernel)⟩
  | ref a =>
    rcases h with ⟨xs, e⟩ | ⟨xs, e⟩ | ⟨xs, e⟩ | ⟨dx, fs, e⟩
    · exact ⟨_, .base (.lst e), kit_ty (r := false) (by decide +kernel), kit_ty (r := false) (by decide +kernel)⟩
    · exact ⟨_, .base (.tup e), kit_ty (r := false) (by decide +kernel), kit_ty (r := false) (by decide +kernel)⟩
    · exact ⟨_, .base (.dK e), kit_ty (r := false) (by decide +kernel), kit_ty (r := false) (by decide +kernel)⟩
    · exact ⟨_, tyx_ins T.o_Map e, T.kit_int_Map, T.kit_bool_Map⟩
  | byt b => exact h.elim
  | flt b => exact h.elim
  | ty b => exact h.elim
def spIsInt (C : Addr) : Sp := fun vs H Q _ => ∃ x, vs = [x] ∧ knownV C H x ∧ Q (.bl (isI x)) H
theorem ok_is_integer (T : Txt K mg) : FnR P w K mg base CX0 1 T.f_is_integer (spIsInt T.C_Map) := by
  refine T.A_is_integer.ok sc_is_integer (fun vs H Q E h => ?_) (fun cdv A outer s H vs Q E hr h => ?_)
  · obtain ⟨x, rfl, _⟩ := h
    rfl
  · obtain ⟨x, rfl, hx, q⟩ := h
    refine ⟨_, pss_one (ps_ret (pe_and (pe_callB call_isi (by rfl) T.n_isinstance (by decide +kernel) (pa_cons (pv 0) (pa_cons (pe_bltn (v := .ty "int") (u := .type "int") (by rfl) T.n_int (by decide +kernel) rfl) pa_nil)))
      (pe_one (pe_not (pe_callB call_isi (by rfl) T.n_isinstance (by decide +kernel) (pa_cons (pv 0) (pa_cons (pe_bltn (v := .ty "bool") (u := .type "bool") (by rfl) T.n_bool (by decide +kernel) rfl) pa_nil))))))), ?_⟩
    obtain ⟨t, ht, k1, k2⟩ := ty_known T hx
    refine ⟨_, rfl, x, _, t, _, _, rfl, .ty _, ht, k1, _, rfl, ?_⟩
    refine ifB (fun hc => ?_) (fun hc => ?_)
    · refine ⟨_, rfl, x, _, t, _, _, rfl, .ty _, ht, k2, _, rfl, ?_⟩
      have e : (!isB x) = isI x := by cases x <;> first | rfl | cases hc
      rw [e]
      exact q
    · have e : isI x = false := by cases x <;> first | rfl | cases hc
      rw [e] at q
      exact q
def spInR (C : Addr) : Sp := fun vs H Q _ => ∃ x a b, vs = [x, .int a, .int b] ∧ knownV C H x ∧ Q (.bl (inR x a b)) H
theorem ok_in_range (T : Txt K mg) : FnR P w K mg base CX0 2 T.f_in_range (spInR T.C_Map) := by
  refine T.A_in_range.ok sc_in_range (fun vs H Q E h => ?_) (fun cdv A outer s H vs Q E hr h => ?_)
  · obtain ⟨x, a, b, rfl, _⟩ := h
    rfl
  · obtain ⟨x, a, b, rfl, hx, q⟩ := h
    refine ⟨_, pss_one (ps_ret (pe_and (pe_callR (ok_is_integer T) hr T.A_is_integer.kp rfl T.g_is_integer pass0 (pa_cons (pv 0) pa_nil))
      (pe_one (pe_chain op_le op_le (pv 1) (pv 0) (pv 2))))), ?_⟩
    refine ⟨_, rfl, x, rfl, hx, _, rfl, ?_⟩
    cases x with
    | int i =>
      refine iteT ⟨_, rfl, _, rfl, _, _, rfl, rfl, _, rfl, ?_⟩
      refine ifD (fun h => ?_) (fun h => ?_)
      · refine ⟨_, rfl, _, _, rfl, rfl, ?_⟩
        have e : inR (.int i) a b = decide (i ≤ b) := by simp [inR, h]
        rw [e] at q
        exact q
      · have e : inR (.int i) a b = false := by simp [inR, h]
        rw [e] at q
        exact q
    | _ => exact iteF q
/-! ### the law's draws -/
def spDraw : Sp := fun vs H Q _ => ∃ (p : Addr) (a b n : Int), vs = [.ref p, .int n] ∧ H p = some (.lst [.int a, .int b]) ∧ 0 ≤ a ∧ 0 ≤ b ∧ b < 2147483647 ∧ 0 < n ∧ n < 1073741824 ∧
  ∀ a' b' r : Int, 0 ≤ a' → 0 ≤ b' → b' < 2147483647 → 0 ≤ r → r < n → Q (.int r) (upd H p (.lst [.int a', .int b']))
theorem ok_draw (T : Txt K mg) : FnR P w K mg base CX0 1 T.f_l_draw spDraw := by
  refine T.A_l_draw.ok sc_l_draw (fun vs H Q E h => ?_) (fun cdv A outer s H vs Q E hr h => ?_)
  · obtain ⟨p, a, b, n, rfl, _⟩ := h
    rfl
  · obtain ⟨p, a, b, n, rfl, hp, ha, hb, hb2, hn, hn2, k⟩ := h
    refine ⟨_, pss_cons (ps_if (pt_cmpR op_gt (pe_ix ix_list (pv 0) pe_int (fun _ _ => rfl)) pe_int (nomark _))
        (pss_cons (ps_set (i := 2) sc_l_draw.nd rfl (Or.inl rfl) (pe_op op_mod (pe_ix ix_list (pv 0) pe_int (fun _ _ => rfl)) (pv 1)))
        (pss_cons (ps_asg (pe_op op_fdiv (pe_ix ix_list (pv 0) pe_int (fun _ _ => rfl)) (pv 1)) (pg_sub (pv 0) pe_int set_list))
        (pss_one (ps_ret (pv 2))))) pss_nil)
      (pss_cons (ps_asg (pe_op op_mod (pe_op op_add (pe_op op_mul (pe_ix ix_list (pv 0) pe_int (fun _ _ => rfl)) pe_int) pe_int) pe_int) (pg_sub (pv 0) pe_int set_list))
      (pss_one (ps_ret (pe_op op_mod (pe_op op_fdiv (pe_op op_mod (pe_op op_mul (pe_ix ix_list (pv 0) pe_int (fun _ _ => rfl)) (pe_ix ix_list (pv 0) pe_int (fun _ _ => rfl))) pe_int) pe_int) (pv 1))))), ?_⟩
    refine ⟨_, rfl, p, _, 0, _, rfl, rfl, SqL.of hp, rfl, _, _, rfl, rfl, _, rfl, ?_⟩
    refine ifD (fun h => ?_) (fun h => ?_)
    · refine ⟨_, rfl, p, _, 0, _, rfl, rfl, SqL.of hp, rfl, _, rfl, _, _, rfl, rfl, hn, ?_⟩
      refine ⟨_, rfl, p, _, 0, _, rfl, rfl, SqL.of hp, rfl, _, rfl, _, _, rfl, rfl, ⟨hn, hn2⟩, _, rfl, p, _, 0, _, rfl, rfl, hp, rfl, ?_⟩
      refine ⟨_, rfl, ?_⟩
      exact k (a / n) b (a % n) (Int.ediv_nonneg ha (by omega)) hb hb2 (Int.emod_nonneg _ (by omega)) (Int.emod_lt_of_pos _ hn)
    · have m1 : 0 ≤ (b * 48271 + 11) % 2147483647 := Int.emod_nonneg _ (by decide)
      have m2 : (b * 48271 + 11) % 2147483647 < 2147483647 := Int.emod_lt_of_pos _ (by decide)
      refine ⟨_, rfl, p, _, 1, _, rfl, rfl, SqL.of hp, rfl, _, _, rfl, rfl, .inr ⟨by decide, by decide⟩, _, _, rfl, rfl, _, _, rfl, rfl, (by show (0 : Int) < 2147483647; decide), _, rfl, p, _, 1, _, rfl, rfl, hp, rfl, ?_⟩
      refine ⟨_, rfl, p, _, 1, _, rfl, rfl, SqL.of upd_same, rfl, _, rfl, p, _, 1, _, rfl, rfl, SqL.of upd_same, rfl, _, _, rfl, rfl, .inl ⟨by omega, by omega⟩, _, _, rfl, rfl, (by show (0 : Int) < 2147483629; decide), _, _, rfl, rfl, ⟨by decide, by decide⟩, _, rfl, _, _, rfl, rfl, hn, ?_⟩
      exact k a ((b * 48271 + 11) % 2147483647) _ ha m1 m2 (Int.emod_nonneg _ (by omega)) (Int.emod_lt_of_pos _ hn)
end
end My
namespace My
open PySem L2 U StX PM
section
variable {P : Program} {w : World} {K : PySem.W.Frag} {mg : Str → Option Value} {base : Heap}
theorem head_int (xs : List V) (h : ∀ v ∈ xs, ∃ i, v = V.int i) : ∃ c, atI (xs ++ [V.int 0]) 0 = some (V.int c) := by
  cases xs with
  | nil => exact ⟨0, rfl⟩
  | cons a r =>
    obtain ⟨i, rfl⟩ := h a List.mem_cons_self
    refine ⟨i, atI_nat (j := 0) ?_⟩
    rfl
theorem cut_int (ns : List Int) (lo hi : Option Int) : ∀ v ∈ cutV (ns.map V.int) lo hi, ∃ i, v = V.int i := by
  intro v hv
  unfold cutV at hv
  have h1 := List.mem_of_mem_drop (List.mem_of_mem_take hv)
  obtain ⟨i, _, rfl⟩ := List.mem_map.mp h1
  exact ⟨i, rfl⟩
def spHand (K : PySem.W.Frag) : Sp := fun vs H Q _ => ∃ (a : Addr) (ns : List Int) (k : Int), vs = [.ref a, .int k] ∧ SqL K H a (ns.map V.int) ∧ ns.length ≤ 63 ∧
  ∀ p H' x y, H p = none → H' p = some (.lst [.int x, .int y]) → Same H H' → 0 ≤ x → 0 ≤ y → y < 2147483647 → Q (.ref p) H'
theorem ok_hand (T : Txt K mg) : FnR P w K mg base CX0 1 T.f_l_hand (spHand K) := by
  refine T.A_l_hand.ok sc_l_hand (fun vs H Q E h => ?_) (fun cdv A outer s H vs Q E hr h => ?_)
  · obtain ⟨a, ns, k, rfl, _⟩ := h
    rfl
  · obtain ⟨a, ns, k, rfl, hS, hl, q⟩ := h
    refine ⟨_, pss_cons (ps_set (i := 2) sc_l_hand.nd rfl (Or.inl rfl) (pe_ix ix_list (pe_op op_cat (pe_slice sl_list (pv 0) (po_some (pv 1)) (po_some (pe_op op_add (pv 1) pe_int))) (pe_lst (pa_cons pe_int pa_nil))) pe_int (fun _ _ => rfl)))
      (pss_cons (ps_set (i := 3) sc_l_hand.nd rfl (Or.inl rfl) (pe_op op_mod (pe_op op_mul (pe_op op_add (pe_op op_add (pe_op op_mod (pv 2) pe_int) (pe_op op_mul pe_int (pv 1))) pe_int) pe_int) pe_int))
      (pss_one (ps_ret (pe_lst (pa_cons (pe_op op_mul (pe_callTy call_int1 (by rfl) T.n_int (by decide +kernel) (pa_cons (pe_cmpR op_ge (pv 2) (pe_op op_pow pe_int pe_int) (nomark _)) pa_nil)) (pv 2)) (pa_cons (pv 3) pa_nil)))))), ?_⟩
    refine ⟨_, rfl, _, rfl, _, rfl, _, rfl, _, _, rfl, rfl, _, rfl, a, _, rfl, hS, fun p1 n1 => ?_⟩
    refine ⟨(by show 1 ≤ sizeLine; decide), fun p2 n2 => ?_⟩
    have n12 : p1 ≠ p2 := ne_of_none upd_same n2
    have hcl := cutV_length (ns.map V.int) (some k) (some (k + 1))
    rw [List.length_map] at hcl
    refine ⟨p1, p2, cutV (ns.map V.int) (some k) (some (k + 1)), [.int 0], rfl, rfl, (by rw [upd_ne n12, upd_same]), upd_same, ?_, fun p3 n3 => ?_⟩
    · show _ + 1 ≤ sizeLine
      exact Nat.le_trans (by omega : _ ≤ 64) (by decide)
    obtain ⟨c, hc⟩ := head_int _ (cut_int ns (some k) (some (k + 1)))
    refine ⟨p3, _, 0, .int c, rfl, rfl, SqL.of upd_same, hc, ?_⟩
    refine ⟨_, rfl, _, _, rfl, rfl, (by show (0 : Int) < 2147483647; decide), _, rfl, _, _, rfl, rfl, .inl ⟨by decide, by decide⟩, _, _, rfl, rfl, _, _, rfl, rfl, _, _, rfl, rfl, .inr ⟨by decide, by decide⟩, _, _, rfl, rfl, (by show (0 : Int) < 2147483629; decide), ?_⟩
    refine ⟨_, rfl, _, _, rfl, rfl, ⟨by decide, by decide, by decide⟩, _, _, rfl, rfl, .inr ⟨_, rfl, _, rfl, _, _, rfl, rfl, .inl ?_, _, rfl, (by show 2 ≤ sizeLine; decide), fun p4 n4 => ?_⟩⟩
    · cases decide ((10 : Int) ^ (18 : Int).toNat ≤ c) <;> exact ⟨by decide, by decide⟩
    · have s3 := ((Same.new (o := .lst (cutV (ns.map V.int) (some k) (some (k + 1)))) n1).trans (Same.new (o := .lst [.int 0]) n2)).trans (Same.new (o := .lst (cutV (ns.map V.int) (some k) (some (k + 1)) ++ [.int 0])) n3)
      refine q p4 _ _ _ (s3.free n4) upd_same (s3.trans (Same.new n4)) ?_ (Int.emod_nonneg _ (by decide)) ?_
      · cases hd : decide ((10 : Int) ^ (18 : Int).toNat ≤ c) with
        | true =>
          have := of_decide_eq_true hd
          have h10 : (0 : Int) ≤ 10 ^ (18 : Int).toNat := by decide
          show 0 ≤ 1 * c
          omega
        | false => show 0 ≤ 0 * c; omega
      · have := Int.emod_lt_of_pos ((c % 2147483647 + 7919 * k + 1) * 48271) (show (0 : Int) < 2147483629 by decide)
        omega
end
end My
namespace My
open PySem L2 U StX PM
section
variable {P : Program} {w : World} {K : PySem.W.Frag} {mg : Str → Option Value} {base : Heap}
def rowOk (n : Int) (p : Int × Int) : Bool := inR (.int p.1) 0 (n - 1) && inR (.int p.2) 0 (n - 1)
def okArr (n : Int) (l : List (Int × Int)) : Bool := l.all (rowOk n) && decide (l.map (·.2)).Nodup
def tgt (l : List (Int × Int)) : List (Key × V) := l.map fun p => (Sum.inl p.2, V.bl true)
theorem tgt_key {l : List (Int × Int)} {y : Int} : (Sum.inl y : Key) ∈ (tgt l).map (·.1) ↔ y ∈ l.map (·.2) := by
  unfold tgt
  rw [List.map_map]
  constructor
  · intro h
    obtain ⟨p, hp, e⟩ := List.mem_map.mp h
    exact List.mem_map.mpr ⟨p, hp, Sum.inl.inj e⟩
  · intro h
    obtain ⟨p, hp, e⟩ := List.mem_map.mp h
    exact List.mem_map.mpr ⟨p, hp, congrArg Sum.inl e⟩
theorem tgt_val {l : List (Int × Int)} {y : Int} : (valV (tgt l) (Sum.inl y : Key)).isSome = decide (y ∈ l.map (·.2)) := by
  by_cases h : y ∈ l.map (·.2)
  · have h' := tgt_key.mpr h
    rw [decide_eq_true h]
    cases e : valV (tgt l) (Sum.inl y : Key) with
    | some v => rfl
    | none =>
      obtain ⟨p, hp, e2⟩ := List.mem_map.mp h'
      exfalso
      unfold valV at e
      rw [Option.map_eq_none_iff, List.find?_eq_none] at e
      exact e p hp (by simp [e2])
  · rw [decide_eq_false h, valV_none fun z => h (tgt_key.mp z)]
    rfl
theorem okArr_step {n : Int} {l : List (Int × Int)} {i : Nat} {p : Int × Int} (h : l[i]? = some p) : okArr n (l.take (i + 1)) = (okArr n (l.take i) && (rowOk n p && !decide (p.2 ∈ (l.take i).map (·.2)))) := by
  rw [take_more h]
  unfold okArr
  rw [List.all_append, List.map_append]
  have e : decide (((l.take i).map (·.2) ++ [p].map (·.2)).Nodup) = (decide ((l.take i).map (·.2)).Nodup && !decide (p.2 ∈ (l.take i).map (·.2))) := by
    rw [Bool.eq_iff_iff]
    simp only [decide_eq_true_eq, Bool.and_eq_true, Bool.not_eq_true', decide_eq_false_iff_not]
    rw [List.nodup_append]
    constructor
    · rintro ⟨h1, _, h2⟩
      exact ⟨h1, fun hm => h2 _ hm _ (by simp) rfl⟩
    · rintro ⟨h1, h2⟩
      refine ⟨h1, by simp, fun a ha b hb e => ?_⟩
      simp at hb
      subst hb
      exact h2 (e ▸ ha)
  rw [e]
  simp only [List.all_cons, List.all_nil, Bool.and_true]
  cases (l.take i).all (rowOk n) <;> cases rowOk n p <;> cases decide ((l.take i).map (·.2)).Nodup <;> simp
theorem okArr_cut {n : Int} {l : List (Int × Int)} {i : Nat} (h : okArr n (l.take i) = false) : okArr n l = false := by
  cases e : okArr n l with
  | false => rfl
  | true =>
    unfold okArr at e h
    rw [Bool.and_eq_true] at e
    have h1 : (l.take i).all (rowOk n) = true := by
      rw [List.all_eq_true] at e ⊢
      exact fun p hp => e.1 p (List.mem_of_mem_take hp)
    have h2 : ((l.take i).map (·.2)).Nodup := by
      have := of_decide_eq_true e.2
      rw [List.map_take]
      exact List.Sublist.nodup (List.take_sublist _ _) this
    rw [h1, decide_eq_true h2] at h
    cases h
def spArr : Sp := fun vs H Q _ => ∃ (n : Int) (d : Addr) (l : List (Int × Int)), vs = [.int n, .ref d] ∧ H d = some (.dK (kvI l)) ∧ l.length ≤ 1000 ∧ ∀ H', Same H H' → Q (.bl (okArr n l)) H'
theorem ok_are_arrows (T : Txt K mg) : FnR P w K mg base CX0 3 T.f_are_arrows spArr := by
  refine T.A_are_arrows.ok sc_are_arrows (fun vs H Q E h => ?_) (fun cdv A outer s H vs Q E hr h => ?_)
  · obtain ⟨n, d, l, rfl, _⟩ := h
    rfl
  · obtain ⟨n, d, l, rfl, hd, hl, q⟩ := h
    have hu := hu_of hr
    refine ⟨_, pss_cons (ps_if (pt_not (pt_val (pe_callB call_isi (by rfl) T.n_isinstance (by decide +kernel) (pa_cons (pv 1) (pa_cons (pe_bltn (v := .ty "dict") (u := .type "dict") (by rfl) T.n_dict (by decide +kernel) rfl) pa_nil))))) (pss_one (ps_ret pe_bl)) pss_nil)
      (pss_cons (ps_set (i := 2) sc_are_arrows.nd rfl (Or.inl rfl) pe_dnewK)
      (pss_cons (ps_lock (ps_for PassesOwn.never rfl (pi_items (pv 1)) (pg_tup rfl (pgs_cons (pg_name (i := 3) sc_are_arrows.nd rfl (Or.inl rfl)) (pgs_cons (pg_name (i := 4) sc_are_arrows.nd rfl (Or.inl rfl)) pgs_nil)))
        (pss_cons (ps_if (PW.pt (pw_or (pt_not (pt_val (pe_callR (ok_in_range T) hr T.A_in_range.kp rfl T.g_in_range pass0 (pa_cons (pv 3) (pa_cons pe_int (pa_cons (pe_op op_sub (pv 0) pe_int) pa_nil))))))
            (pw_or (pt_not (pt_val (pe_callR (ok_in_range T) hr T.A_in_range.kp rfl T.g_in_range pass0 (pa_cons (pv 4) (pa_cons pe_int (pa_cons (pe_op op_sub (pv 0) pe_int) pa_nil))))))
            (pw_or1 (pt_cmp (pc_din hu (pv 4) (pv 2))))))) (pss_one (ps_ret pe_bl)) pss_nil)
        (pss_one (ps_dput hu (pv 2) (pv 4) pe_bl rfl)))))
      (pss_one (ps_ret pe_bl)))), ?_⟩
    refine ⟨_, rfl, _, _, _, _, true, rfl, .ty _, .base (.dK hd), kit_ty (by decide +kernel), _, rfl, ?_⟩
    refine iteF ?_
    intro t ht
    have ntd : t ≠ d := fun e => by rw [e, hd] at ht; cases ht
    have hd1 : (upd H t (.dK [])) d = some (.dK (kvI l)) := by rw [upd_ne ntd.symm]; exact hd
    refine ⟨d, _, hd1, trivial, fun od => ?_⟩
    refine ⟨_, rfl, d, od, kvI l, rfl, upd_same, ?_⟩
    refine for_it walk_items (fun i σ H' => ∃ v3 v4, σ = [some (.int n), some (.ref d), some (.ref t), v3, v4] ∧ H' d = some (.frz od (.dK (kvI l))) ∧ Off d H H' ∧ H' t = some (.dK (tgt (l.take i))) ∧ okArr n (l.take i) = true)
      ⟨none, none, rfl, upd_same, (Off.new ht).tr Off.lock, (by rw [upd_ne ntd]; exact upd_same), rfl⟩ (fun i σ H' _ ⟨_, _, _, p, _⟩ => p) ?_ ?_
    · rintro i v σ H' H'' hi ⟨v3, v4, rfl, p1, p2, p3, p4⟩ ⟨U, a, b, rfl, hU, rfl, e1, e2⟩
      rw [kvI_length] at hi
      obtain ⟨⟨x, y⟩, exy⟩ : ∃ p, l[i]? = some p := ⟨_, List.getElem?_eq_getElem hi⟩
      have ek : (kvI l)[i]? = some (Sum.inl x, V.int y) := by unfold kvI; rw [List.getElem?_map, exy]; rfl
      dsimp only at e1 e2
      rw [ek] at e1 e2
      cases e1; cases e2
      have nUd : d ≠ U := ne_of_none p1 hU
      have nUt : t ≠ U := ne_of_none p3 hU
      have d3 : (upd H' U (.tup [kV (Sum.inl x), .int y])) d = some (.frz od (.dK (kvI l))) := by rw [upd_ne nUd]; exact p1
      have t3 : (upd H' U (.tup [kV (Sum.inl x), .int y])) t = some (.dK (tgt (l.take i))) := by rw [upd_ne nUt]; exact p3
      have o3 : Off d H (upd H' U (.tup [kV (Sum.inl x), .int y])) := p2.tr (Off.new hU)
      have bad : (rowOk n (x, y) && !decide (y ∈ (l.take i).map (·.2))) = false → Q (.bl false) (upd (upd H' U (.tup [kV (Sum.inl x), .int y])) d (.dK (kvI l))) := by
        intro hb
        have h1 := okArr_step (n := n) exy
        rw [p4, hb] at h1
        have := q _ (o3.back hd)
        rw [okArr_cut h1] at this
        exact this
      refine ⟨U, [.int x, .int y], rfl, SqT.of upd_same, rfl, .int x, [.int y], rfl, .int y, [], rfl, rfl, ?_⟩
      refine ⟨_, rfl, _, rfl, _, _, rfl, rfl, .int x, 0, n - 1, rfl, trivial, _, rfl, ?_⟩
      refine ifNB (fun hc => iteT ⟨d3, bad ?_⟩) (fun hc => ?_)
      · simp [rowOk, hc]
      refine ⟨_, rfl, _, rfl, _, _, rfl, rfl, .int y, 0, n - 1, rfl, trivial, _, rfl, ?_⟩
      refine ifNB (fun hc2 => iteT ⟨d3, bad ?_⟩) (fun hc2 => ?_)
      · simp [rowOk, hc2]
      refine ⟨_, rfl, _, rfl, t, _, rfl, DGet.k (k := Sum.inl y) t3, _, rfl, ?_⟩
      rw [tgt_val]
      refine ifD (fun hm => ⟨d3, bad ?_⟩) (fun hm => ?_)
      · rw [decide_eq_true hm]; simp
      have hlen : (tgt (l.take i)).length ≤ 1000 := by unfold tgt; rw [List.length_map, List.length_take]; omega
      refine ⟨_, rfl, _, rfl, t, _, rfl, DPut.k (k := Sum.inl y) t3 (small1000 hlen), ?_⟩
      refine ⟨_, _, rfl, ?_, o3.mut ht, ?_, ?_⟩
      · rw [upd_ne ntd.symm]; exact d3
      · rw [upd_same, putK_new _ (valV_none fun z => hm (tgt_key.mp z)), take_more exy]
        unfold tgt
        rw [List.map_append]
        rfl
      · rw [okArr_step exy, p4, decide_eq_false hm]
        simp [rowOk, hc, hc2]
    · rintro σ H' ⟨v3, v4, rfl, p1, p2, p3, p4⟩
      rw [kvI_length, List.take_length] at p4
      have := q _ (p2.back hd)
      rw [p4] at this
      exact ⟨p1, this⟩
end
end My
namespace My
open PySem L2 U StX PM
section
variable {P : Program} {w : World} {K : PySem.W.Frag} {mg : Str → Option Value} {base : Heap}
theorem ne_fld : ¬ (("own_size" : Str) = "own_arrows") := by decide +kernel
/-- a map's attributes -/
def flds (n : Int) (D : Addr) : List (Str × V) := putF "own_arrows" (.ref D) (putF "own_size" (.int n) [])
theorem flds_size (n : Int) (D : Addr) : (flds n D).lookup ("own_size" : Str) = some (.int n) := by
  unfold flds
  rw [lookup_putF, if_neg ne_fld, lookup_putF, if_pos rfl]
theorem flds_arrows (n : Int) (D : Addr) : (flds n D).lookup ("own_arrows" : Str) = some (.ref D) := by
  unfold flds
  rw [lookup_putF, if_pos rfl]
theorem flds_no (n : Int) (D : Addr) {m : Str} (h1 : ¬ m = "own_arrows") (h2 : ¬ m = "own_size") : (flds n D).lookup m = none := by
  unfold flds
  rw [lookup_putF, if_neg h1, lookup_putF, if_neg h2]
  all_goals rfl
/-- a Map of n elements stands at m: the map f -/
structure IsMap (C : Addr) (H : Hp) (m : Addr) (n : Int) (f : PF) : Prop where
  ob : ∃ dx D, H m = some (.ins C dx (flds n D)) ∧ H D = some (.dK (kvI (tab n f)))
  wf : WF n f
  lo : 1 ≤ n
  hi : n ≤ 300
theorem IsMap.same {C : Addr} {H H' : Hp} {m : Addr} {n : Int} {f : PF} (a : IsMap C H m n f) (s : Same H H') : IsMap C H' m n f := by
  obtain ⟨⟨dx, D, h1, h2⟩, wf, lo, hi⟩ := a
  exact ⟨⟨dx, D, s _ _ h1, s _ _ h2⟩, wf, lo, hi⟩
theorem okArr_of {n : Int} {l : List (Int × Int)} {f : PF} (d : DI l f) (w : WF n f) : okArr n l = true := by
  unfold okArr
  rw [Bool.and_eq_true]
  refine ⟨List.all_eq_true.mpr fun p hp => ?_, decide_eq_true (d.vals w)⟩
  obtain ⟨x, y⟩ := p
  have h := w.dom x y (d.mem.mp hp)
  simp only [rowOk, inR, Bool.and_eq_true, decide_eq_true_eq]
  omega
theorem madeR_tab {l : List (Int × Int)} {f : PF} (d : DI l f) (n : Nat) : madeR (fun k => (lk l k).isSome) (fun x => x) (fun k => ((lk l k).map V.int).getD .non) n = kvI (tabN f n) := by
  induction n with
  | zero => rfl
  | succ n ih =>
    rw [madeR_succ, ih]
    have e : tabN f (n + 1) = tabN f n ++ ((f (n : Int)).map fun y => ((n : Int), y)).toList := by
      unfold tabN
      rw [List.range_succ, List.filterMap_append]
      cases h : f (n : Int) <;> simp [h]
    rw [e, d.at_]
    cases h : f (n : Int) with
    | none => simp
    | some y => simp [kvI]
def spInit (C : Addr) : Sp := fun vs H Q _ => ∃ (p dx d : Addr) (n : Int) (l : List (Int × Int)) (f : PF), vs = [.ref p, .int n, .ref d] ∧ H p = some (.ins C dx []) ∧ H d = some (.dK (kvI l)) ∧ DI l f ∧ WF n f ∧ 1 ≤ n ∧ n ≤ 300 ∧ l.length ≤ 1000 ∧
  ∀ (H' : Hp) (D : Addr), Off p H H' → H D = none → H' p = some (.ins C dx (flds n D)) → H' D = some (.dK (kvI (tab n f))) → Q .non H'
theorem ok_init (T : Txt K mg) : FnR P w K mg base CX0 4 T.f_Map__init (spInit T.C_Map) := by
  refine T.A_Map__init.ok sc_Map__init (fun vs H Q E h => ?_) (fun cdv A outer s H vs Q E hr h => ?_)
  · obtain ⟨p, dx, d, n, l, f, rfl, _⟩ := h
    rfl
  · obtain ⟨p, dx, d, n, l, f, rfl, hp, hd, di, wf, h1, h3, hl, q⟩ := h
    have hu := hu_of hr
    obtain ⟨tk, hms⟩ := T.v_MAX_SIZE
    refine ⟨_, pss_cons (ps_if (pt_not (pt_val (pe_callR (ok_in_range T) (hr.mono (by decide)) T.A_in_range.kp rfl T.g_in_range pass0 (pa_cons (pv 1) (pa_cons pe_int (pa_cons (pe_glob (v := .int 300) rfl hms ⟨_, rfl⟩) pa_nil)))))) (pss_one ps_never) pss_nil)
      (pss_cons (ps_if (pt_not (pt_val (pe_callR (ok_are_arrows T) hr T.A_are_arrows.kp rfl T.g_are_arrows pass0 (pa_cons (pv 1) (pa_cons (pv 2) pa_nil))))) (pss_one ps_never) pss_nil)
      (pss_cons (ps_fld (pv 0) (pv 1) rfl)
      (pss_one (ps_fld (pv 0) (pe_dc (own := [("source", 3)]) (g := gName 3) rfl sc_Map__init.nd (pi_range1 rfl T.n_range (pa_cons (pv 1) pa_nil)) (blkOk_by (own := [("source", 3)]) (N := n_Map__init) (sc := defScope s_Map__init) (by decide +kernel))
        (fun _ _ _ _ _ => pg_name (i := 3) sc_Map__init.nd rfl (Or.inl rfl)) (fun _ _ _ _ _ => pts_one (pt_cmp (pc_din hu (pv 3) (pv 2)))) (fun _ _ _ _ _ => pv 3) (fun _ _ _ _ _ => pe_dget hu (pv 2) (pv 3) (fun _ _ => rfl))) rfl)))), ?_⟩
    refine ⟨_, rfl, .int n, 1, 300, rfl, trivial, _, rfl, ?_⟩
    have e1 : inR (.int n) 1 300 = true := by simp [inR, h1, h3]
    rw [e1]
    refine iteF ⟨_, rfl, _, rfl, n, d, l, rfl, hd, hl, fun H1 s1 => ⟨_, rfl, ?_⟩⟩
    rw [okArr_of di wf]
    refine iteF ?_
    have hp1 := s1 _ _ hp
    have npd : p ≠ d := ne_of hp hd (by intro z; cases z)
    refine ⟨_, rfl, _, rfl, p, T.C_Map, dx, [], rfl, hp1, T.o_Map.cl, T.na_own_size_Map, (by show 0 < 1000; decide), ?_⟩
    have hd1 : (upd H1 p (.ins T.C_Map dx (putF "own_size" (.int n) []))) d = some (.dK (kvI l)) := by rw [upd_ne npd.symm]; exact s1 _ _ hd
    dsimp only [sFld]
    refine dc_range (n := n.toNat) (fun k => (lk l k).isSome) (fun k => ((lk l k).map V.int).getD .non) (fun R r => ⟨_, rfl, n, rfl, by omega, by omega, r⟩) (fun _ => rfl) ?_ (small1000 (by omega)) ?_
    · intro k hk H2 s2
      have hd2 := s2 _ _ hd1
      refine ⟨fun R r => ?_, fun hc => ⟨fun R r => ?_, fun R r => ?_⟩⟩
      · refine ⟨_, rfl, _, rfl, d, _, rfl, DGet.k (k := Sum.inl (0 + (k : Int))) hd2, _, rfl, ?_⟩
        rw [valV_kvI, Option.isSome_map, Int.zero_add]
        exact r
      · refine ⟨_, rfl, ?_⟩
        rw [Int.zero_add]
        exact r
      · cases hv : lk l (k : Int) with
        | none => rw [hv] at hc; cases hc
        | some y =>
          rw [hv] at r
          refine ⟨_, rfl, _, rfl, d, .int y, rfl, ?_, r⟩
          have := DGet.k (k := Sum.inl (0 + (k : Int))) hd2
          rw [valV_kvI, Int.zero_add, hv] at this
          rw [Int.zero_add]
          exact this
    · intro D H2 nD hD s2
      rw [madeR_tab di] at hD
      have hp2 := s2 _ _ (upd_same : (upd H1 p (.ins T.C_Map dx (putF "own_size" (.int n) []))) p = _)
      refine ⟨_, rfl, p, T.C_Map, dx, _, rfl, hp2, T.o_Map.cl, T.na_own_arrows_Map, (by show 1 < 1000; decide), ?_⟩
      have nDp : D ≠ p := fun e => by rw [e, upd_same] at nD; cases nD
      have nD1 : H1 D = none := by rw [upd_ne nDp] at nD; exact nD
      refine q _ D (fun b o hb e => ?_) (s1.free nD1) upd_same ?_
      · rw [upd_ne hb]
        refine s2 _ _ ?_
        rw [upd_ne hb]
        exact s1 _ _ e
      · rw [upd_ne nDp]
        exact hD
end
end My
namespace My
open PySem L2 U StX PM
/-! ### what a comprehension over pairs of ints makes -/
def madeI (c : Int → Int → Bool) (kf vi : Int → Int → Int) (l : List (Int × Int)) : List (Int × Int) := (l.filter fun p => c p.1 p.2).map fun p => (kf p.1 p.2, vi p.1 p.2)
theorem madeD_I (c : Int → Int → Bool) (kf vi : Int → Int → Int) (l : List (Int × Int)) : madeD c kf (fun x y => .int (vi x y)) l = kvI (madeI c kf vi l) := by
  unfold madeD madeI kvI
  rw [List.map_map]
  rfl
theorem kvI_keys (l : List (Int × Int)) : (kvI l).map (·.1) = (l.map (·.1)).map Sum.inl := by
  unfold kvI
  rw [List.map_map, List.map_map]
  rfl
theorem nd_inl {l : List Int} (h : l.Nodup) : (l.map (Sum.inl : Int → Key)).Nodup := by
  induction l with
  | nil => exact List.nodup_nil
  | cons a r ih =>
    rw [List.nodup_cons] at h
    rw [List.map_cons, List.nodup_cons]
    refine ⟨fun hm => ?_, ih h.2⟩
    obtain ⟨b, hb, e⟩ := List.mem_map.mp hm
    exact h.1 (Sum.inl.inj e ▸ hb)
theorem mem_madeI {c : Int → Int → Bool} {kf vi : Int → Int → Int} {l : List (Int × Int)} {a b : Int} : (a, b) ∈ madeI c kf vi l ↔ ∃ x y, (x, y) ∈ l ∧ c x y = true ∧ kf x y = a ∧ vi x y = b := by
  unfold madeI
  rw [List.mem_map]
  constructor
  · rintro ⟨⟨x, y⟩, h, e⟩
    have h1 := List.mem_filter.mp h
    cases e
    exact ⟨x, y, h1.1, h1.2, rfl, rfl⟩
  · rintro ⟨x, y, h1, h2, rfl, rfl⟩
    exact ⟨(x, y), List.mem_filter.mpr ⟨h1, h2⟩, rfl⟩
theorem madeI_len (c : Int → Int → Bool) (kf vi : Int → Int → Int) (l : List (Int × Int)) : (madeI c kf vi l).length ≤ l.length := by
  unfold madeI
  rw [List.length_map]
  exact List.length_filter_le _ _
/-- the targets for sources -/
theorem nd_tgt {c : Int → Int → Bool} {vi : Int → Int → Int} {l : List (Int × Int)} (h : (l.map (·.2)).Nodup) : ((madeI c (fun _ y => y) vi l).map (·.1)).Nodup := by
  unfold madeI
  rw [List.map_map]
  exact List.Sublist.nodup ((List.filter_sublist (p := fun p : Int × Int => c p.1 p.2)).map (·.2)) h
section
variable {P : Program} {w : World} {K : PySem.W.Frag} {mg : Str → Option Value} {base : Heap}
theorem mk_map {C : Addr} {H : Hp} {d : Addr} {n : Int} {l : List (Int × Int)} {f : PF} {Q : VK} {E : XK} (hd : H d = some (.dK (kvI l))) (di : DI l f) (wf : WF n f) (h1 : 1 ≤ n) (h3 : n ≤ 300) (hl : l.length ≤ 1000)
    (q : ∀ r H', H r = none → Same H H' → IsMap C H' r n f → Q (.ref r) H') (x dx : Addr) (hx : H x = none) (hdx : H dx = none) (ne : dx ≠ x) :
    spInit C [.ref x, .int n, .ref d] (upd (upd H dx (.own x)) x (.ins C dx [])) (fun v H2 => v = .non ∧ Q (.ref x) H2) E := by
  have s0 : Same H (upd (upd H dx (.own x)) x (.ins C dx [])) := fun b o e => by
    rw [upd_ne (ne_of_none e hx), upd_ne (ne_of_none e hdx)]
    exact e
  refine ⟨x, dx, d, n, l, f, rfl, upd_same, s0 _ _ hd, di, wf, h1, h3, hl, fun H' D o nD hp hD => ⟨rfl, ?_⟩⟩
  refine q x H' hx (fun b u e => o b u (ne_of_none e hx) (s0 b u e)) ⟨⟨dx, D, hp, hD⟩, wf, h1, h3⟩
/-! ### size, arrows, common_size -/
def spSize (C : Addr) : Sp := fun vs H Q _ => ∃ m n f, vs = [.ref m] ∧ IsMap C H m n f ∧ Q (.int n) H
theorem ok_size (T : Txt K mg) : FnR P w K mg base CX0 1 T.f_Map_size (spSize T.C_Map) := by
  refine T.A_Map_size.ok sc_Map_size (fun vs H Q E h => ?_) (fun cdv A outer s H vs Q E hr h => ?_)
  · obtain ⟨m, n, f, rfl, _⟩ := h
    rfl
  · obtain ⟨m, n, f, rfl, ⟨⟨dx, D, h1, h2⟩, _⟩, q⟩ := h
    refine ⟨_, pss_one (ps_ret (pe_fld (pv 0) rfl)), ?_⟩
    exact ⟨_, rfl, m, _, dx, _, _, rfl, h1, T.o_Map.cl, T.na_own_size_Map, flds_size _ _, q⟩
def spArrows (C : Addr) : Sp := fun vs H Q _ => ∃ m n f, vs = [.ref m] ∧ IsMap C H m n f ∧ ∀ p, H p = none → Q (.ref p) (upd H p (.dK (kvI (tab n f))))
theorem ok_arrows (T : Txt K mg) : FnR P w K mg base CX0 1 T.f_Map_arrows (spArrows T.C_Map) := by
  refine T.A_Map_arrows.ok sc_Map_arrows (fun vs H Q E h => ?_) (fun cdv A outer s H vs Q E hr h => ?_)
  · obtain ⟨m, n, f, rfl, _⟩ := h
    rfl
  · obtain ⟨m, n, f, rfl, ⟨⟨dx, D, h1, h2⟩, _⟩, q⟩ := h
    refine ⟨_, pss_one (ps_ret (pe_callTy call_dictD (by rfl) T.n_dict (by decide +kernel) (pa_cons (pe_fld (pv 0) rfl) pa_nil))), ?_⟩
    exact ⟨_, rfl, m, _, dx, _, _, rfl, h1, T.o_Map.cl, T.na_own_arrows_Map, flds_arrows _ _, D, _, rfl, Rd.of h2, q⟩
theorem at_map {C : Addr} {H : Hp} {m : Addr} {n : Int} {f : PF} (h : IsMap C H m n f) : ∃ dx fs, H m = some (.ins C dx fs) := by
  obtain ⟨⟨dx, D, h1, _⟩, _⟩ := h
  exact ⟨dx, _, h1⟩
/-! ### the operators -/
end
end My
namespace My
open PySem L2 U StX PM
section
variable {P : Program} {w : World} {K : PySem.W.Frag} {mg : Str → Option Value} {base : Heap}
/-! ### ~f -/
theorem inv_di {n : Int} {f : PF} (wf : WF n f) : DI (madeI (fun _ _ => true) (fun _ y => y) (fun x _ => x) (tab n f)) (inv n f) := by
  refine di_of (nd_tgt (vals_tab wf)) fun a b => ?_
  rw [mem_madeI, inv_iff wf]
  constructor
  · rintro ⟨x, y, h1, _, rfl, rfl⟩
    exact (mem_tab wf).mp h1
  · intro h
    exact ⟨b, a, (mem_tab wf).mpr h, rfl, rfl, rfl⟩
/-! ### f & g, f - g -/
theorem isD_of {H : Hp} {a : Addr} {kvs : List (Key × V)} (h : H a = some (.dK kvs)) : IsD H a := by
  first | exact .inl ⟨_, .inl h⟩ | exact ⟨_, .inl h⟩ | exact .inl ⟨_, h⟩ | exact .inr (.inl ⟨_, h⟩)
end
end My
namespace My
open PySem L2 U StX PM
section
variable {P : Program} {w : World} {K : PySem.W.Frag} {mg : Str → Option Value} {base : Heap}
/-! ### is_part, <=, <, >= -/
/-! ### == -/
theorem nd_of_map {α β : Type} (h : α → β) : ∀ {l : List α}, (l.map h).Nodup → l.Nodup
  | [], _ => List.nodup_nil
  | a :: r, nd => by
    rw [List.map_cons, List.nodup_cons] at nd
    exact List.nodup_cons.mpr ⟨fun hm => nd.1 (List.mem_map.mpr ⟨a, hm, rfl⟩), nd_of_map h nd.2⟩
end
end My
namespace My
open PySem L2 U StX PM
section
variable {P : Program} {w : World} {K : PySem.W.Frag} {mg : Str → Option Value} {base : Heap}
def spChk : Sp := fun vs H Q _ => ∃ n : Int, vs = [.int n] ∧ 1 ≤ n ∧ n ≤ 300 ∧ Q .non H
theorem ok_check_size (T : Txt K mg) : FnR P w K mg base CX0 3 T.f_check_size spChk := by
  refine T.A_check_size.ok sc_check_size (fun vs H Q E h => ?_) (fun cdv A outer s H vs Q E hr h => ?_)
  · obtain ⟨n, rfl, _⟩ := h
    rfl
  · obtain ⟨n, rfl, h1, h3, q⟩ := h
    obtain ⟨tk, hms⟩ := T.v_MAX_SIZE
    refine ⟨_, pss_one (ps_if (pt_not (pt_val (pe_callR (ok_in_range T) hr T.A_in_range.kp rfl T.g_in_range pass0 (pa_cons (pv 0) (pa_cons pe_int (pa_cons (pe_glob (v := .int 300) rfl hms ⟨_, rfl⟩) pa_nil)))))) (pss_one ps_never) pss_nil), ?_⟩
    refine ⟨_, rfl, .int n, 1, 300, rfl, trivial, _, rfl, ?_⟩
    have e1 : inR (.int n) 1 300 = true := by simp [inR, h1, h3]
    rw [e1]
    exact iteF q
theorem di_id (N : Nat) : DI ((List.range N).map fun (i : Nat) => ((i : Int), (i : Int))) (idn (N : Int)) := by
  refine di_of ?_ fun a b => ?_
  · rw [List.map_map]
    have : ∀ n : Nat, ((List.range n).map ((fun p : Int × Int => p.1) ∘ fun (i : Nat) => ((i : Int), (i : Int)))).Nodup := by
      intro n
      induction n with
      | zero => exact List.nodup_nil
      | succ n ih =>
        rw [List.range_succ, List.map_append, List.nodup_append]
        refine ⟨ih, by simp, fun a ha b hb e => ?_⟩
        obtain ⟨i, hi, rfl⟩ := List.mem_map.mp ha
        rw [List.mem_range] at hi
        simp at hb
        have e' : (i : Int) = b := e
        omega
    exact this N
  · rw [List.mem_map]
    unfold idn
    constructor
    · rintro ⟨i, hi, e⟩
      rw [List.mem_range] at hi
      cases e
      rw [if_pos ⟨by omega, by omega⟩]
    · intro h
      split at h
      · rename_i hc
        cases h
        exact ⟨a.toNat, List.mem_range.mpr (by omega), by rw [Int.toNat_of_nonneg hc.1]⟩
      · cases h
theorem madeR_id (N : Nat) : madeR (fun _ => true) (fun x => x) (fun k => .int k) N = kvI ((List.range N).map fun (i : Nat) => ((i : Int), (i : Int))) := by
  unfold madeR kvI
  rw [List.map_map]
  congr 1
  exact List.filter_eq_self.mpr fun _ _ => rfl
def spNew (C : Addr) (op : Int → PF) : Sp := fun vs H Q _ => ∃ n : Int, vs = [.ref C, .int n] ∧ 1 ≤ n ∧ n ≤ 300 ∧ ∀ r H', H r = none → Same H H' → IsMap C H' r n (op n) → Q (.ref r) H'
theorem ok_identity (T : Txt K mg) : FnR P w K mg base CX0 6 T.f_Map_identity (spNew T.C_Map idn) := by
  refine T.A_Map_identity.ok sc_Map_identity (fun vs H Q E h => ?_) (fun cdv A outer s H vs Q E hr h => ?_)
  · obtain ⟨n, rfl, _⟩ := h
    rfl
  · obtain ⟨n, rfl, h1, h3, q⟩ := h
    refine ⟨_, pss_cons (ps_expr (pe_callR (ok_check_size T) (hr.mono (by decide)) T.A_check_size.kp rfl T.g_check_size pass0 (pa_cons (pv 1) pa_nil)))
      (pss_one (ps_ret (pe_makeL (i := 0) T.M_Map (ok_init T) hr rfl (Or.inl rfl) pass0 (pa_cons (pv 1) (pa_cons (pe_dc (own := [("element", 2)]) (g := gName 2) (tt := tYes) rfl sc_Map_identity.nd (pi_range1 rfl T.n_range (pa_cons (pv 1) pa_nil)) (blkOk_by (own := [("element", 2)]) (N := n_Map_identity) (sc := defScope s_Map_identity) (by decide +kernel))
        (fun _ _ _ _ _ => pg_name (i := 2) sc_Map_identity.nd rfl (Or.inl rfl)) (fun _ _ _ _ _ => pts_nil) (fun _ _ _ _ _ => pv 2) (fun _ _ _ _ _ => pv 2)) pa_nil))))), ?_⟩
    refine ⟨_, rfl, n, rfl, h1, h3, rfl, _, rfl, ?_⟩
    refine dc_range (n := n.toNat) (fun _ => true) (fun k => .int k) (fun R r => ⟨_, rfl, n, rfl, by omega, by omega, r⟩) (fun _ => rfl) ?_ (small1000 (by omega)) ?_
    · intro k hk H1 s1
      refine ⟨fun R r => r, fun _ => ⟨fun R r => ⟨_, rfl, ?_⟩, fun R r => ⟨_, rfl, ?_⟩⟩⟩
      · rw [Int.zero_add]; exact r
      · rw [Int.zero_add]; exact r
    · intro D H1 nD hD s1
      rw [madeR_id] at hD
      have e : ((n.toNat : Nat) : Int) = n := Int.toNat_of_nonneg (by omega)
      have di := di_id n.toNat
      rw [e] at di
      refine mk_map hD di (wf_idn n) h1 h3 (by simp; omega) fun r H3 nr s3 hm => ?_
      exact q r H3 (s1.free nr) (s1.trans s3) hm
/-! ### first_clash where there is none, | -/
end
end My
namespace My
open PySem L2 U StX PM
section
variable {P : Program} {w : World} {K : PySem.W.Frag} {mg : Str → Option Value} {base : Heap}
theorem dgetI {H : Hp} {d : Addr} {l : List (Int × Int)} {f : PF} (h : H d = some (.dK (kvI l))) (di : DI l f) (x : Int) : DGet H d (.int x) ((f x).map V.int) := by
  have := DGet.k (k := Sum.inl x) h
  rw [valV_kvI, di.2] at this
  exact this
theorem lastI (pre : List Int) (z : Int) : atI ((pre ++ [z]).map V.int) (-1) = some (V.int z) := by
  rw [List.map_append]
  exact atI_last _ _
def spRow : Sp := fun vs H Q _ => ∃ d l n f e, vs = [.ref d, .int e] ∧ H d = some (.dK (kvI l)) ∧ DI l f ∧ WF n f ∧ n ≤ 300 ∧ 0 ≤ e ∧ e < n ∧
  ∀ r H' pre z, H r = none → Same H H' → H' r = some (.lst ((pre ++ [z]).map V.int)) → Row f e (pre ++ [z]) → (f z = none ∨ f z = some e) → Q (.ref r) H'
theorem ok_row_from (T : Txt K mg) : FnR P w K mg base CX0 1 T.f_row_from spRow := by
  refine T.A_row_from.ok sc_row_from (fun vs H Q E h => ?_) (fun cdv A outer s H vs Q E hr h => ?_)
  · obtain ⟨d, l, n, f, e, rfl, _⟩ := h
    rfl
  · obtain ⟨d, l, n, f, e, rfl, hd, di, wf, hn, e0, e1, q⟩ := h
    have hu := hu_of hr
    refine ⟨_, pss_cons (ps_set (i := 2) sc_row_from.nd rfl (Or.inl rfl) (pe_lst (pa_cons (pv 1) pa_nil)))
      (pss_cons (ps_while PassesOwn.never (PW.pt (pw_and (pt_cmp (pc_din hu (pe_ix ix_list (pv 2) (pe_un un_neg pe_int) (fun _ _ => rfl)) (pv 0)))
          (pw_and1 (pt_cmpR op_ne (pe_dget hu (pv 0) (pe_ix ix_list (pv 2) (pe_un un_neg pe_int) (fun _ _ => rfl)) (fun _ _ => rfl)) (pv 1) (nomark _)))))
        (pss_one (ps_expr (pe_bm PySem.F.plainAttrs_list PySem.F.slot_list_append PySem.F.type_list_append mt_append (pv 2) (pa_cons (pe_dget hu (pv 0) (pe_ix ix_list (pv 2) (pe_un un_neg pe_int) (fun _ _ => rfl)) (fun _ _ => rfl)) pa_nil)))))
      (pss_one (ps_ret (pv 2)))), ?_⟩
    refine ⟨_, rfl, (by show 1 ≤ sizeLine; decide), fun r hr0 => ?_⟩
    have row0 : Row f e ([] ++ [e]) := ⟨rfl, fun i a b h1 h2 => by simp at h2⟩
    refine ⟨fun m σ H' => ∃ pre z, σ = [some (.ref d), some (.int e), some (.ref r)] ∧ H' r = some (.lst ((pre ++ [z]).map V.int)) ∧ Same H H' ∧ Row f e (pre ++ [z]) ∧ m = 300 - pre.length, ⟨300, [], e, rfl, upd_same, Same.new hr0, row0, rfl⟩, ?_⟩
    rintro m σ H' ⟨pre, z, rfl, p1, p2, p3, rfl⟩
    have hd' := p2 _ _ hd
    have hlen := len_range (p3.nd wf) (p3.dom wf e0 e1)
    rw [List.length_append, List.length_singleton] at hlen
    refine ⟨_, rfl, 1, rfl, r, _, -1, .int z, rfl, rfl, SqL.of p1, lastI _ _, _, rfl, d, _, rfl, dgetI hd' di z, _, rfl, ?_⟩
    cases hz : f z with
    | none =>
      refine iteF ?_
      refine iteF ?_
      exact ⟨_, rfl, q r H' pre z hr0 p2 p1 p3 (.inl hz)⟩
    | some y =>
      refine iteT ?_
      refine ⟨_, rfl, _, rfl, 1, rfl, r, _, -1, .int z, rfl, rfl, SqL.of p1, lastI _ _, d, .int y, rfl, ?_, _, rfl, rfl, _, rfl, ?_⟩
      · have := dgetI hd' di z
        rw [hz] at this
        exact this
      have nr : d ≠ r := ne_of_none hd hr0
      refine ifN (fun hne => ?_) (fun heq => ?_)
      · have hne' : y ≠ e := fun z => hne (congrArg V.int z)
        have row' := p3.more hz hne'
        have hlen' := len_range (row'.nd wf) (row'.dom wf e0 e1)
        rw [List.length_append, List.length_append, List.length_singleton, List.length_singleton] at hlen'
        refine ⟨fun σ' H2 => ∃ m', m' < 300 - pre.length ∧ _, fun _ _ h => h, ?_⟩
        refine ⟨_, rfl, .inl ⟨rfl, _, SqL.of p1⟩, _, rfl, _, rfl, 1, rfl, r, _, -1, .int z, rfl, rfl, SqL.of p1, lastI _ _, d, .int y, rfl, ?_, r, _, .int y, rfl, rfl, p1, ?_, ?_⟩
        · have := dgetI hd' di z
          rw [hz] at this
          exact this
        · rw [List.length_map, List.length_append, List.length_singleton]
          exact small1000 (by omega)
        · refine ⟨300 - (pre ++ [z]).length, by rw [List.length_append, List.length_singleton]; omega, pre ++ [z], y, rfl, ?_, ?_, row', rfl⟩
          · rw [upd_same, List.map_append (l₁ := pre ++ [z])]
            rfl
          · intro b o h
            rw [upd_ne (ne_of_none h hr0)]
            exact p2 b o h
      · have : y = e := V.int.inj heq
        subst this
        exact ⟨_, rfl, q r H' pre z hr0 p2 p1 p3 (.inr hz)⟩
end
end My
namespace My
open PySem L2 U StX PM
/-! ### comprehensions over values and keys -/
theorem tgt_len (l : List (Int × Int)) (i : Nat) : (tgt (l.take i)).length ≤ l.length := by
  unfold tgt; rw [List.length_map, List.length_take]; omega
theorem dc_vals {d : Addr} {l : List (Int × Int)} {te : TE} {i : Nat} {tt : TT} {tk tv : TE} {vs : List Nat} {σ : L2.St} {H : Hp} {Q : VK}
    (hd : H d = some (.dK (kvI l))) (hte : ∀ H' (R : VK), R (.ref d) H' → Off d H H' → te σ H' R)
    (hw : ∀ a, wipe ((wipe σ vs).set i a) vs = wipe σ vs)
    (ht : ∀ (y : Int) (H1 : Hp) (R : Bool → Hp → Prop), R true H1 → tt ((wipe σ vs).set i (some (.int y))) H1 R) (hk : ∀ (y : Int) (H1 : Hp) (R : VK), R (.int y) H1 → tk ((wipe σ vs).set i (some (.int y))) H1 R) (hv : ∀ (y : Int) (H1 : Hp) (R : VK), R (.bl true) H1 → tv ((wipe σ vs).set i (some (.int y))) H1 R)
    (nd : (l.map (·.2)).Nodup) (hz : l.length < sizeLine)
    (hq : ∀ D H', H D = none → H' D = some (.dK (tgt l)) → L2.Same H H' → Q (.ref D) H') :
    tLockE (tDc (iVals te) (gName i) tt tk tv vs) σ H Q := by
  refine ⟨d, _, hd, trivial, fun od => ?_⟩
  refine hte _ _ ⟨d, od, kvI l, rfl, upd_same, fun D hD => ?_⟩ Off.lock
  have hDd : D ≠ d := fun e => by rw [e, upd_same] at hD; cases hD
  have hD0 : H D = none := by rw [upd_ne hDd] at hD; exact hD
  refine dc_it walk_values (fun k H' => H' d = some (.frz od (.dK (kvI l))) ∧ Off d H H' ∧ H' D = some (.dK (tgt (l.take k)))) ⟨?_, Off.lock.mut hD0, upd_same⟩ (fun k H' _ p => p.1) ?_ ?_
  · rw [upd_ne hDd.symm]; exact upd_same
  · rintro k v H' H'' hk1 ⟨p1, p2, p3⟩ ⟨rfl, kk, e1⟩
    obtain ⟨x, y, exy, rfl, rfl⟩ := kvI_get e1
    refine ⟨hw _, ?_⟩
    refine ht y _ _ ?_
    refine iteT ?_
    refine hk _ _ _ (hv _ _ _ ⟨_, Sum.inl y, rfl, p3, Nat.lt_of_le_of_lt (tgt_len ..) hz, ?_⟩)
    refine ⟨?_, p2.mut hD0, ?_⟩
    · rw [upd_ne hDd.symm]; exact p1
    · have nin : y ∉ (l.take k).map (·.2) := by
        intro hm
        have e2 : l.map (·.2) = (l.take k).map (·.2) ++ (l.drop k).map (·.2) := by rw [← List.map_append, List.take_append_drop]
        rw [e2, List.nodup_append] at nd
        refine nd.2.2 _ hm y (List.mem_map.mpr ⟨(x, y), ?_, rfl⟩) rfl
        refine List.mem_iff_getElem?.mpr ⟨0, ?_⟩
        rw [List.getElem?_drop]
        exact exy
      rw [upd_same, putK_new _ (valV_none fun z => nin (tgt_key.mp z)), take_more exy]
      unfold tgt
      rw [List.map_append]
      rfl
  · rintro H' ⟨p1, p2, p3⟩
    rw [kvI_length, List.take_length] at p3
    refine ⟨p1, hq D _ hD0 ?_ (p2.back hd)⟩
    rw [upd_ne hDd]
    exact p3
theorem lc_keys {d : Addr} {l : List (Int × Int)} {te : TE} {i : Nat} {tt : TT} {tv : TE} {vs : List Nat} {σ : L2.St} {H : Hp} {Q : VK} (c : Int → Bool) (vf : Int → V)
    (hd : H d = some (.dK (kvI l))) (hte : ∀ H' (R : VK), R (.ref d) H' → Off d H H' → te σ H' R)
    (hw : ∀ a, wipe ((wipe σ vs).set i a) vs = wipe σ vs)
    (hb : ∀ (x : Int) (H1 : Hp), Off d H H1 → (∀ R : Bool → Hp → Prop, R (c x) H1 → tt ((wipe σ vs).set i (some (.int x))) H1 R) ∧ (∀ R : VK, R (vf x) H1 → tv ((wipe σ vs).set i (some (.int x))) H1 R))
    (hz : l.length < sizeLine)
    (hq : ∀ D H', H D = none → H' D = some (.lst (madeL (fun x _ => c x) (fun x _ => vf x) l)) → L2.Same H H' → Q (.ref D) H') :
    tLockE (tLc (iKeys te) (gName i) tt tv vs) σ H Q := by
  refine ⟨d, _, hd, trivial, fun od => ?_⟩
  refine hte _ _ ⟨d, od, rfl, .inl ⟨kvI l, upd_same, fun D hD => ?_⟩⟩ Off.lock
  have hDd : D ≠ d := fun e => by rw [e, upd_same] at hD; cases hD
  have hD0 : H D = none := by rw [upd_ne hDd] at hD; exact hD
  refine lc_it walk_keys (fun k H' => H' d = some (.frz od (.dK (kvI l))) ∧ Off d H H' ∧ H' D = some (.lst (madeL (fun x _ => c x) (fun x _ => vf x) (l.take k)))) ⟨?_, Off.lock.mut hD0, upd_same⟩ (fun k H' _ p => p.1) ?_ ?_
  · rw [upd_ne hDd.symm]; exact upd_same
  · rintro k v H' H'' hk1 ⟨p1, p2, p3⟩ ⟨rfl, kk, vv, e1, rfl⟩
    obtain ⟨x, y, exy, rfl, rfl⟩ := kvI_get e1
    refine ⟨hw _, ?_⟩
    obtain ⟨b1, b2⟩ := hb x _ p2
    refine b1 _ ?_
    have st := madeL_step (c := fun x _ => c x) (vf := fun x _ => vf x) exy
    cases hc : c x with
    | true =>
      rw [hc, if_pos rfl] at st
      refine iteT (b2 _ ⟨_, p3, Nat.lt_of_le_of_lt (madeL_len ..) hz, ?_⟩)
      refine ⟨?_, p2.mut hD0, ?_⟩
      · rw [upd_ne hDd.symm]; exact p1
      · rw [upd_same, st]
    | false =>
      rw [hc, if_neg Bool.false_ne_true, List.append_nil] at st
      refine iteF ⟨p1, p2, ?_⟩
      rw [st]
      exact p3
  · rintro H' ⟨p1, p2, p3⟩
    rw [kvI_length, List.take_length] at p3
    refine ⟨p1, hq D _ hD0 ?_ (p2.back hd)⟩
    rw [upd_ne hDd]
    exact p3
/-! ### seen and found -/
def kvB (sl : List Int) : List (Key × V) := sl.map fun x => (Sum.inl x, V.bl true)
theorem kvB_key {sl : List Int} {x : Int} : (Sum.inl x : Key) ∈ (kvB sl).map (·.1) ↔ x ∈ sl := by
  unfold kvB
  rw [List.map_map]
  constructor
  · intro h
    obtain ⟨p, hp, e⟩ := List.mem_map.mp h
    cases Sum.inl.inj e
    exact hp
  · intro h
    exact List.mem_map.mpr ⟨x, h, rfl⟩
theorem kvB_val (sl : List Int) (x : Int) : (valV (kvB sl) (Sum.inl x : Key)).isSome = decide (x ∈ sl) := by
  by_cases h : x ∈ sl
  · rw [decide_eq_true h, ← valV_any, List.any_eq_true]
    exact ⟨(Sum.inl x, V.bl true), List.mem_map.mpr ⟨x, h, rfl⟩, by simp⟩
  · rw [decide_eq_false h, valV_none fun z => h (kvB_key.mp z)]
    rfl
theorem kvB_put (sl : List Int) (x : Int) : ∃ sl', putK (kvB sl) (Sum.inl x : Key) (V.bl true) = kvB sl' ∧ (∀ z, z ∈ sl' ↔ z ∈ sl ∨ z = x) ∧ (sl.Nodup → sl'.Nodup) := by
  by_cases h : x ∈ sl
  · refine ⟨sl, ?_, fun z => ⟨.inl, fun hz => ?_⟩, id⟩
    · unfold putK
      have e : ((kvB sl).any fun kv => decide (kv.1 = (Sum.inl x : Key))) = true := by
        rw [valV_any, kvB_val, decide_eq_true h]
      rw [if_pos e]
      unfold kvB
      rw [List.map_map]
      refine List.map_congr_left fun a _ => ?_
      show (if (Sum.inl a : Key) = Sum.inl x then ((Sum.inl a : Key), V.bl true) else (Sum.inl a, V.bl true)) = _
      split <;> rfl
    · rcases hz with hz | rfl
      · exact hz
      · exact h
  · refine ⟨sl ++ [x], ?_, fun z => by simp, fun nd => ?_⟩
    · rw [putK_new _ (valV_none fun z => h (kvB_key.mp z))]
      unfold kvB
      rw [List.map_append]
      rfl
    · rw [List.nodup_append]
      refine ⟨nd, by simp, fun a ha b hb e => ?_⟩
      simp at hb
      subst hb
      exact h (e ▸ ha)
structure Fnd (n : Int) (f : PF) (k : Nat) (fl : List (Int × Int)) (sl : List Int) : Prop where
  nd : (fl.map (·.1)).Nodup
  at_ : ∀ x, lk fl x = if x ∈ sl then iter f k x else none
  sn : sl.Nodup
  dm : ∀ x ∈ sl, 0 ≤ x ∧ x < n
theorem Fnd.len {n : Int} {f : PF} {k : Nat} {fl : List (Int × Int)} {sl : List Int} (h : Fnd n f k fl sl) : fl.length ≤ n.toNat := by
  have := len_range (n := n) h.nd (fun x hx => by
    obtain ⟨⟨a, b⟩, hp, rfl⟩ := List.mem_map.mp hx
    have e := lk_some h.nd hp
    rw [h.at_] at e
    by_cases hm : a ∈ sl
    · exact h.dm _ hm
    · rw [if_neg hm] at e; cases e)
  rw [List.length_map] at this
  exact this
theorem Fnd.slen {n : Int} {f : PF} {k : Nat} {fl : List (Int × Int)} {sl : List Int} (h : Fnd n f k fl sl) : sl.length ≤ n.toNat := len_range h.sn h.dm
theorem Fnd.put {n : Int} {f : PF} {k : Nat} {fl fl' : List (Int × Int)} {sl sl' : List Int} {x y : Int} (h : Fnd n f k fl sl) (h1 : ∀ z, z ∈ sl' ↔ z ∈ sl ∨ z = x) (h2 : sl.Nodup → sl'.Nodup) (hx : 0 ≤ x ∧ x < n)
    (e : iter f k x = some y) (n1 : (fl.map (·.1)).Nodup → (fl'.map (·.1)).Nodup) (a1 : ∀ z, lk fl' z = if z = x then some y else lk fl z) : Fnd n f k fl' sl' := by
  refine ⟨n1 h.nd, fun z => ?_, h2 h.sn, fun z hz => ?_⟩
  · rw [a1]
    by_cases hz : z = x
    · subst hz
      rw [if_pos rfl, if_pos ((h1 z).mpr (.inr rfl)), e]
    · rw [if_neg hz, h.at_]
      by_cases hs : z ∈ sl
      · rw [if_pos hs, if_pos ((h1 z).mpr (.inl hs))]
      · rw [if_neg hs, if_neg fun q => ((h1 z).mp q).elim hs hz]
  · rcases (h1 z).mp hz with q | rfl
    · exact h.dm z q
    · exact hx
theorem Fnd.skip {n : Int} {f : PF} {k : Nat} {fl : List (Int × Int)} {sl sl' : List Int} {x : Int} (h : Fnd n f k fl sl) (h1 : ∀ z, z ∈ sl' ↔ z ∈ sl ∨ z = x) (h2 : sl.Nodup → sl'.Nodup) (hx : 0 ≤ x ∧ x < n)
    (e : iter f k x = none) : Fnd n f k fl sl' := by
  refine ⟨h.nd, fun z => ?_, h2 h.sn, fun z hz => ?_⟩
  · rw [h.at_]
    by_cases hs : z ∈ sl
    · rw [if_pos hs, if_pos ((h1 z).mpr (.inl hs))]
    · rw [if_neg hs]
      by_cases hz : z = x
      · subst hz
        rw [if_pos ((h1 z).mpr (.inr rfl)), e]
      · rw [if_neg fun q => ((h1 z).mp q).elim hs hz]
  · rcases (h1 z).mp hz with q | rfl
    · exact h.dm z q
    · exact hx
theorem Fnd.di {n : Int} {f : PF} {k : Nat} {fl : List (Int × Int)} {sl : List Int} (h : Fnd n f (k + 1) fl sl) (all : ∀ x y, f x = some y → x ∈ sl) : DI fl (iter f (k + 1)) := by
  refine ⟨h.nd, fun x => ?_⟩
  rw [h.at_]
  by_cases hs : x ∈ sl
  · rw [if_pos hs]
  · rw [if_neg hs, iter_head]
    cases e : f x with
    | none => rfl
    | some y => exact absurd (all x y e) hs
end My
namespace My
open PySem L2 U StX PM
section
variable {P : Program} {w : World} {K : PySem.W.Frag} {mg : Str → Option Value} {base : Heap}
def spMoved : Sp := fun vs H Q _ => ∃ d l n f, ∃ k : Nat, vs = [.ref d, .int ((k + 1 : Nat) : Int)] ∧ H d = some (.dK (kvI l)) ∧ DI l f ∧ WF n f ∧ n ≤ 300 ∧ l.length ≤ 300 ∧
  ∀ r H' l', H r = none → Same H H' → H' r = some (.dK (kvI l')) → DI l' (iter f (k + 1)) → l'.length ≤ 300 → Q (.ref r) H'
theorem get_map {xs : List Int} {i : Nat} {a : Int} (h : xs[i]? = some a) : (xs.map V.int)[i]? = some (V.int a) := by
  rw [List.getElem?_map, h]; rfl
theorem for_cat {K : PySem.W.Frag} {t u : TE} {g : TG} {tb : TS} {D : Ends} {σ : L2.St} {H : Hp} (h : tLockE t σ H (fun x H1 => u σ H1 fun y H2 => rCat x y H2 fun z H3 => ∃ a, z = .ref a ∧ (∃ xs, SqL K H3 a xs) ∧ tFor (fun _ H R => R (Itl K a) H) g tb D σ H3)) :
    tFor (iList K (tOp rCat (tLockE t) u)) g tb D σ H := h
theorem Same.put {H H' : Hp} {p : Addr} {o : HO} (s : Same H H') (h : H p = none) : Same H (upd H' p o) := fun b u e => by rw [upd_ne (ne_of_none e h)]; exact s b u e
theorem at_mod {row : List Int} {j k : Nat} {y : Int} (h : row[(j + k) % row.length]? = some y) : atI (row.map V.int) ((((j : Nat) : Int) + ((k : Nat) : Int)) % (((row.map V.int).length : Nat) : Int)) = some (V.int y) := by
  have e : (((j : Nat) : Int) + ((k : Nat) : Int)) % (((row.map V.int).length : Nat) : Int) = (((j + k) % row.length : Nat) : Int) := by
    rw [List.length_map]
    push_cast
    rfl
  rw [e]
  exact atI_nat (get_map h)
theorem at_add {row : List Int} {j k : Nat} {y : Int} (h : row[j + k]? = some y) : atI (row.map V.int) (((j : Nat) : Int) + ((k : Nat) : Int)) = some (V.int y) := by
  have e : (((j : Nat) : Int) + ((k : Nat) : Int)) = ((j + k : Nat) : Int) := by
    push_cast
    rfl
  rw [e]
  exact atI_nat (get_map h)
theorem srcs {l : List (Int × Int)} {f : PF} (di : DI l f) {c : Int → Bool} {v : V} (h : v ∈ madeL (fun x _ => c x) (fun x _ => V.int x) l ++ (kvI l).map (fun kv => kV kv.1)) : ∃ x y, v = .int x ∧ f x = some y := by
  rcases List.mem_append.mp h with h | h
  · unfold madeL at h
    obtain ⟨⟨x, y⟩, hp, rfl⟩ := List.mem_map.mp h
    exact ⟨x, y, rfl, di.mem.mp (List.mem_filter.mp hp).1⟩
  · unfold kvI at h
    rw [List.map_map] at h
    obtain ⟨⟨x, y⟩, hp, rfl⟩ := List.mem_map.mp h
    exact ⟨x, y, rfl, di.mem.mp hp⟩
theorem srcs_all {l : List (Int × Int)} {f : PF} (di : DI l f) {c : Int → Bool} {x y : Int} (h : f x = some y) : V.int x ∈ madeL (fun x _ => c x) (fun x _ => V.int x) l ++ (kvI l).map (fun kv => kV kv.1) := by
  refine List.mem_append.mpr (.inr ?_)
  unfold kvI
  rw [List.map_map]
  exact List.mem_map.mpr ⟨(x, y), di.mem.mpr h, rfl⟩
theorem ok_moved (T : Txt K mg) : FnR P w K mg base CX0 2 T.f_moved spMoved := by
  refine T.A_moved.ok sc_moved (fun vs H Q E h => ?_) (fun cdv A outer s H vs Q E hr h => ?_)
  · obtain ⟨d, l, n, f, k, rfl, _⟩ := h
    rfl
  · obtain ⟨d, l, n, f, k, rfl, hd, di, wf, hn, hl, q⟩ := h
    have hu := hu_of hr
    refine ⟨_, pss_cons (ps_set (i := 2) sc_moved.nd rfl (Or.inl rfl) pe_dnewK)
      (pss_cons (ps_set (i := 3) sc_moved.nd rfl (Or.inl rfl) pe_dnewK)
      (pss_cons (ps_set (i := 4) sc_moved.nd rfl (Or.inr rfl) (pe_lock (pe_dc (own := [("target", 10)]) (g := gName 10) (tt := tYes) rfl sc_moved.nd (pi_values (pv 0))
          (blkOk_by (own := [("target", 10)]) (N := n_moved) (sc := defScope s_moved) (by decide +kernel))
          (fun _ _ _ _ _ => pg_name (i := 10) sc_moved.nd rfl (Or.inl rfl)) (fun _ _ _ _ _ => pts_nil) (fun _ _ _ _ _ => pv 10) (fun _ _ _ _ _ => pe_bl))))
      (pss_cons (ps_for PassesOwn.never rfl (pi_list (pe_op op_cat (pe_lock (pe_lc (own := [("element", 9)]) (g := gName 9) rfl sc_moved.nd (pi_keys (pv 0))
          (blkOk_by (own := [("element", 9)]) (N := n_moved) (sc := defScope s_moved) (by decide +kernel))
          (fun _ _ _ _ _ => pg_name (i := 9) sc_moved.nd rfl (Or.inl rfl)) (fun _ _ _ _ _ => pts_one (pt_cmp (pc_dnotin hu (pv 9) (pv 4)))) (fun _ _ _ _ _ => pv 9)))
          (pe_callTy (call_list_dK rfl) (by rfl) T.n_list (by decide +kernel) (pa_cons (pv 0) pa_nil)))) (pg_name (i := 5) sc_moved.nd rfl (Or.inl rfl))
        (pss_one (ps_if (pt_cmp (pc_dnotin hu (pv 5) (pv 3)))
          (pss_cons (ps_set (i := 6) sc_moved.nd rfl (Or.inl rfl) (pe_callR (ok_row_from T) hr T.A_row_from.kp rfl T.g_row_from pass0 (pa_cons (pv 0) (pa_cons (pv 5) pa_nil))))
          (pss_cons (ps_set (i := 7) sc_moved.nd rfl (Or.inl rfl) (pe_cmp (pc_din hu (pe_ix ix_list (pv 6) (pe_un un_neg pe_int) (fun _ _ => rfl)) (pv 0))))
          (pss_one (ps_for PassesOwn.never rfl (pi_enum rfl T.n_enumerate (pa_cons (pv 6) pa_nil)) (pg_tup rfl (pgs_cons (pg_name (i := 8) sc_moved.nd rfl (Or.inl rfl)) (pgs_cons (pg_name (i := 9) sc_moved.nd rfl (Or.inl rfl)) pgs_nil)))
            (pss_cons (ps_dput hu (pv 3) (pv 9) pe_bl rfl)
            (pss_one (ps_if (pt_val (pv 7))
              (pss_one (ps_dput hu (pv 2) (pv 9) (pe_ix ix_list (pv 6) (pe_op op_mod (pe_op op_add (pv 8) (pv 1)) (pe_callB call_len_seq (by rfl) T.n_len (by decide +kernel) (pa_cons (pv 6) pa_nil))) (fun _ _ => rfl)) rfl))
              (pss_one (ps_if (pt_cmpR op_lt (pe_op op_add (pv 8) (pv 1)) (pe_callB call_len_seq (by rfl) T.n_len (by decide +kernel) (pa_cons (pv 6) pa_nil)) (nomark _))
                (pss_one (ps_dput hu (pv 2) (pv 9) (pe_ix ix_list (pv 6) (pe_op op_add (pv 8) (pv 1)) (fun _ _ => rfl)) rfl)) pss_nil))))))))) pss_nil)))
      (pss_one (ps_ret (pv 2)))))), ?_⟩
    intro fo hfo
    intro se hse
    have nfs : fo ≠ se := ne_of_none upd_same hse
    have s1 : Same H (upd (upd H fo (.dK [])) se (.dK [])) := (Same.new hfo).trans (Same.new hse)
    have se0 : H se = none := (Same.new hfo).free hse
    have fo1 : (upd (upd H fo (.dK [])) se (.dK [])) fo = some (.dK (kvI [])) := by rw [upd_ne nfs, upd_same]; rfl
    have se1 : (upd (upd H fo (.dK [])) se (.dK [])) se = some (.dK (kvB [])) := upd_same
    have vnd := di.vals wf
    refine dc_vals (s1 _ _ hd) (fun H' R r o => ⟨_, rfl, r⟩) (fun _ => rfl) (fun _ _ _ r => r) (fun _ _ _ r => ⟨_, rfl, r⟩) (fun _ _ _ r => r) vnd (small1000 (by omega)) (fun tg H2 ntg htg s2 => ?_)
    have s12 := s1.trans s2
    have cd : ∀ (x : Int) (H1 : Hp), H1 tg = some (.dK (tgt l)) → DGet H1 tg (.int x) (valV (tgt l) (Sum.inl x)) := fun x H1 h => DGet.k (k := Sum.inl x) h
    have ntd : tg ≠ d := fun e => by rw [e, s1 _ _ hd] at ntg; cases ntg
    dsimp only [tSeq]
    refine for_cat ?_
    refine lc_keys (fun x => !decide (x ∈ l.map (·.2))) (fun x => .int x) (s12 _ _ hd) (fun H' R r o => ⟨_, rfl, r⟩) (fun _ => rfl) (fun x H1 o => ⟨fun R r => ?_, fun R r => ⟨_, rfl, r⟩⟩) (small1000 (by omega)) (fun L1 H3 nL1 hL1 s3 => ?_)
    · refine ⟨_, rfl, _, rfl, tg, _, rfl, cd x H1 (o _ _ ntd htg), _, rfl, ?_⟩
      rw [tgt_val]
      exact r
    have s13 := s12.trans s3
    refine ⟨_, rfl, d, _, rfl, s13 _ _ hd, fun L2 hL2 => ?_⟩
    have hlen1 := madeL_len (fun x _ => !decide (x ∈ l.map (·.2))) (fun x _ => V.int x) l l.length
    rw [List.take_length] at hlen1
    refine ⟨L1, L2, _, _, rfl, rfl, (by rw [upd_ne (ne_of_none hL1 hL2)]; exact hL1), upd_same, ?_, fun L3 hL3 => ?_⟩
    · rw [List.length_map, kvI_length]
      exact Nat.le_trans (by omega : _ ≤ 1000) (by decide)
    have s14 : Same H (upd H3 L2 (.lst ((kvI l).map fun kv => kV kv.1))) := s13.trans (Same.new hL2)
    have L30 : H L3 = none := s14.free hL3
    obtain ⟨S, eS⟩ : ∃ S, S = madeL (fun x _ => !decide (x ∈ l.map (·.2))) (fun x _ => V.int x) l ++ (kvI l).map (fun kv => kV kv.1) := ⟨_, rfl⟩
    have hS1 : ∀ v ∈ S, ∃ x y, v = .int x ∧ f x = some y := fun v hv => srcs di (eS ▸ hv)
    have hS2 : ∀ x y, f x = some y → V.int x ∈ S := fun x y h => eS ▸ srcs_all di h
    rw [← eS]
    refine ⟨L3, rfl, ⟨_, SqL.of upd_same⟩, ?_⟩
    have fo4 : (upd (upd H3 L2 (.lst ((kvI l).map fun kv => kV kv.1))) L3 (.lst S)) fo = some (.dK (kvI [])) := ((s2.trans s3).trans ((Same.new hL2).trans (Same.new hL3))) _ _ fo1
    have se4 : (upd (upd H3 L2 (.lst ((kvI l).map fun kv => kV kv.1))) L3 (.lst S)) se = some (.dK (kvB [])) := ((s2.trans s3).trans ((Same.new hL2).trans (Same.new hL3))) _ _ se1
    have nLf : L3 ≠ fo := fun e => by
      have := ((s2.trans s3).trans (Same.new (o := .lst ((kvI l).map fun kv => kV kv.1)) hL2)) _ _ fo1
      rw [← e, hL3] at this; cases this
    have nLs : L3 ≠ se := fun e => by
      have := ((s2.trans s3).trans (Same.new (o := .lst ((kvI l).map fun kv => kV kv.1)) hL2)) _ _ se1
      rw [← e, hL3] at this; cases this
    refine for_it (walk_list (xs := S)) (fun i σ H' => ∃ v5 v6 v7 v8 v9 v10 fl sl, σ = [some (.ref d), some (.int ((k + 1 : Nat) : Int)), some (.ref fo), some (.ref se), some (.ref tg), v5, v6, v7, v8, v9, v10] ∧ Same H H' ∧ H' L3 = some (.lst S) ∧ H' fo = some (.dK (kvI fl)) ∧ H' se = some (.dK (kvB sl)) ∧ Fnd n f (k + 1) fl sl ∧ ∀ x, V.int x ∈ S.take i → x ∈ sl)
      ⟨none, none, none, none, none, none, [], [], rfl, Same.put s14 L30, upd_same, fo4, se4, ⟨List.nodup_nil, fun _ => rfl, List.nodup_nil, fun _ h => nomatch h⟩, fun x h => by simp at h⟩ (fun i σ H' _ ⟨_, _, _, _, _, _, _, _, _, _, p, _⟩ => SqL.of p) ?_ ?_
    · rintro i v σ H' H'' hi ⟨v5, v6, v7, v8, v9, v10, fl, sl, rfl, p1, p2, p3, p4, p5, p6⟩ ⟨rfl, ev⟩
      obtain ⟨x, y, rfl, hxy⟩ := hS1 v (List.mem_of_getElem? ev)
      have hdx := wf.dom x y hxy
      have hd' := p1 _ _ hd
      refine ⟨_, rfl, _, rfl, se, _, rfl, DGet.k (k := Sum.inl x) p4, _, rfl, ?_⟩
      rw [kvB_val]
      refine ifNB (fun hc => ?_) (fun hc => ?_)
      · refine ⟨_, rfl, _, rfl, d, l, n, f, x, rfl, hd', di, wf, hn, hdx.1, hdx.2.1, fun r H2 pre z hr0 sr hr2 row ho => ?_⟩
        have q1 := p1.trans sr
        refine ⟨_, rfl, 1, rfl, r, _, -1, .int z, rfl, rfl, SqL.of hr2, lastI _ _, _, rfl, d, _, rfl, dgetI (q1 _ _ hd) di z, ?_⟩
        refine ⟨_, rfl, r, _, rfl, SqL.of hr2, ?_⟩
        have r0 : H r = none := p1.free hr0
        have nrL : r ≠ L3 := fun e => by rw [e, p2] at hr0; cases hr0
        have nrf : r ≠ fo := fun e => by rw [e, p3] at hr0; cases hr0
        have nrs : r ≠ se := fun e => by rw [e, p4] at hr0; cases hr0
        have hlast : (pre ++ [z])[(pre ++ [z]).length - 1]? = some z := by simp
        have hpos : 0 < (pre ++ [z]).length := by simp
        refine for_it (walk_enum (xs := (pre ++ [z]).map V.int)) (fun j σ H3 => ∃ v8 v9 fl' sl', σ = [some (.ref d), some (.int ((k + 1 : Nat) : Int)), some (.ref fo), some (.ref se), some (.ref tg), some (.int x), some (.ref r), some (.bl ((f z).map V.int).isSome), v8, v9, v10] ∧ Same H H3 ∧ H3 L3 = some (.lst S) ∧ H3 r = some (.lst ((pre ++ [z]).map V.int)) ∧ H3 fo = some (.dK (kvI fl')) ∧ H3 se = some (.dK (kvB sl')) ∧ Fnd n f (k + 1) fl' sl' ∧ (∀ a ∈ sl, a ∈ sl') ∧ ∀ a ∈ (pre ++ [z]).take j, a ∈ sl')
          ⟨v8, v9, fl, sl, rfl, q1, sr _ _ p2, hr2, sr _ _ p3, sr _ _ p4, p5, fun _ h => h, fun a h => by simp at h⟩ (fun j σ H3 _ ⟨_, _, _, _, _, _, _, p, _⟩ => SqL.of p) ?_ ?_
        · rintro j v σ H3 H4 hj ⟨w8, w9, fl', sl', rfl, t1, t2, t3, t4, t5, t6, t7, t8⟩ ⟨U, a, b, rfl, hU, rfl, e1, e2⟩
          rw [List.length_map] at hj
          obtain ⟨a0, ea⟩ : ∃ a, (pre ++ [z])[j]? = some a := ⟨_, List.getElem?_eq_getElem hj⟩
          dsimp only at e1 e2
          rw [get_map ea] at e2
          cases e1; cases e2
          have hda := row.dom wf hdx.1 hdx.2.1 a0 (List.mem_of_getElem? ea)
          refine ⟨U, [.int (j : Int), .int a0], rfl, SqT.of upd_same, rfl, .int (j : Int), [.int a0], rfl, .int a0, [], rfl, rfl, ?_⟩
          have u1 : Same H (upd H3 U (.tup [.int (j : Int), .int a0])) := t1.trans (Same.new hU)
          have u2 : (upd H3 U (.tup [.int (j : Int), .int a0])) L3 = _ := (Same.new hU) _ _ t2
          have u3 : (upd H3 U (.tup [.int (j : Int), .int a0])) r = _ := (Same.new hU) _ _ t3
          have u4 : (upd H3 U (.tup [.int (j : Int), .int a0])) fo = _ := (Same.new hU) _ _ t4
          have u5 : (upd H3 U (.tup [.int (j : Int), .int a0])) se = _ := (Same.new hU) _ _ t5
          have hsl := t6.slen
          have hfl := t6.len
          refine ⟨_, rfl, _, rfl, se, _, rfl, DPut.k (k := Sum.inl a0) u5 (small1000 (by unfold kvB; rw [List.length_map]; omega)), ?_⟩
          obtain ⟨sl2, es, hs1, hs2⟩ := kvB_put sl' a0
          rw [es]
          obtain ⟨H5, eH5⟩ : ∃ H5, H5 = upd (upd H3 U (.tup [.int (j : Int), .int a0])) se (.dK (kvB sl2)) := ⟨_, rfl⟩
          have w1 : Same H H5 := by rw [eH5]; exact Same.put u1 se0
          have w2 : H5 L3 = some (.lst S) := by rw [eH5, upd_ne nLs]; exact u2
          have w3 : H5 r = some (.lst ((pre ++ [z]).map V.int)) := by rw [eH5, upd_ne nrs]; exact u3
          have w4 : H5 fo = some (.dK (kvI fl')) := by rw [eH5, upd_ne nfs]; exact u4
          have w5 : H5 se = some (.dK (kvB sl2)) := by rw [eH5, upd_same]
          have m1 : ∀ a ∈ sl, a ∈ sl2 := fun a h => (hs1 a).mpr (.inl (t7 a h))
          have m2 : ∀ a ∈ (pre ++ [z]).take (j + 1), a ∈ sl2 := by
            intro a ha
            rw [take_more ea] at ha
            rcases List.mem_append.mp ha with h | h
            · exact (hs1 a).mpr (.inl (t8 a h))
            · simp at h
              exact (hs1 a).mpr (.inr h)
          rw [← eH5]
          refine ⟨_, rfl, _, rfl, ?_⟩
          rcases ho with ho | ho
          · rw [ho]
            refine iteF ?_
            have op := row.openAt hlast hpos ho j a0 ea (k + 1)
            refine ⟨_, rfl, _, rfl, _, _, rfl, rfl, _, rfl, r, _, rfl, .inl (SqL.of w3), _, _, rfl, rfl, _, rfl, ?_⟩
            refine ifD (fun hlt => ?_) (fun hge => ?_)
            · obtain ⟨y2, ey2⟩ : ∃ y2, (pre ++ [z])[j + (k + 1)]? = some y2 := ⟨_, List.getElem?_eq_getElem (by rw [List.length_map] at hlt; omega)⟩
              refine ⟨_, rfl, _, rfl, _, rfl, _, _, rfl, rfl, r, _, _, .int y2, rfl, rfl, SqL.of w3, at_add ey2, _, rfl, _, rfl, fo, _, rfl, DPut.k (k := Sum.inl a0) w4 (small1000 (by rw [kvI_length]; omega)), ?_⟩
              obtain ⟨fl2, ef, _, fn, fa⟩ := putK_lk (l := fl') (x := a0) (y := y2)
              rw [ef]
              rw [ey2] at op
              refine ⟨_, _, fl2, sl2, rfl, Same.put w1 hfo, ?_, ?_, upd_same, ?_, t6.put hs1 hs2 hda op fn fa, m1, m2⟩
              · rw [upd_ne nLf]; exact w2
              · rw [upd_ne nrf]; exact w3
              · rw [upd_ne nfs.symm]; exact w5
            · have : (pre ++ [z])[j + (k + 1)]? = none := List.getElem?_eq_none (by rw [List.length_map] at hge; omega)
              rw [this] at op
              exact ⟨_, _, fl', sl2, rfl, w1, w2, w3, w4, w5, t6.skip hs1 hs2 hda op, m1, m2⟩
          · rw [ho]
            refine iteT ?_
            have cl := row.closedAt hlast hpos ho j a0 ea (k + 1)
            obtain ⟨y2, ey2⟩ : ∃ y2, (pre ++ [z])[(j + (k + 1)) % (pre ++ [z]).length]? = some y2 := ⟨_, List.getElem?_eq_getElem (Nat.mod_lt _ hpos)⟩
            refine ⟨_, rfl, _, rfl, _, rfl, _, _, rfl, rfl, _, rfl, r, _, rfl, .inl (SqL.of w3), _, _, rfl, rfl, ?_, r, _, _, .int y2, rfl, rfl, SqL.of w3, at_mod ey2, _, rfl, _, rfl, fo, _, rfl, DPut.k (k := Sum.inl a0) w4 (small1000 (by rw [kvI_length]; omega)), ?_⟩
            · rw [List.length_map]
              omega
            obtain ⟨fl2, ef, _, fn, fa⟩ := putK_lk (l := fl') (x := a0) (y := y2)
            rw [ef]
            rw [ey2] at cl
            refine ⟨_, _, fl2, sl2, rfl, Same.put w1 hfo, ?_, ?_, upd_same, ?_, t6.put hs1 hs2 hda cl fn fa, m1, m2⟩
            · rw [upd_ne nLf]; exact w2
            · rw [upd_ne nrf]; exact w3
            · rw [upd_ne nfs.symm]; exact w5
        · rintro σ H3 ⟨w8, w9, fl', sl', rfl, t1, t2, t3, t4, t5, t6, t7, t8⟩
          rw [List.length_map, List.take_length] at t8
          refine ⟨_, _, _, _, _, _, fl', sl', rfl, t1, t2, t4, t5, t6, fun a ha => ?_⟩
          rw [take_more ev] at ha
          rcases List.mem_append.mp ha with h | h
          · exact t7 a (p6 a h)
          · simp at h
            subst h
            exact t8 a (List.mem_of_getElem? row.h0)
      · refine ⟨_, _, _, _, _, _, fl, sl, rfl, p1, p2, p3, p4, p5, fun a ha => ?_⟩
        rw [take_more ev] at ha
        rcases List.mem_append.mp ha with h | h
        · exact p6 a h
        · simp at h
          subst h
          exact of_decide_eq_true hc
    · rintro σ H' ⟨v5, v6, v7, v8, v9, v10, fl, sl, rfl, p1, p2, p3, p4, p5, p6⟩
      rw [List.take_length] at p6
      have hfl := p5.len
      exact ⟨_, rfl, q fo H' fl hfo p1 p3 (p5.di fun x y h => p6 x (hS2 x y h)) (by omega)⟩
end
end My
namespace My
open PySem L2 U StX PM
/-! ### f.power(e) -/
def pw (n : Int) (f : PF) (e : Int) : PF := if e = 0 then idn n else if e < 0 then iter (inv n f) e.natAbs else iter f e.natAbs
end My
namespace My
open PySem L2 U StX PM
/-! ### a drawn map -/
structure Drw (n : Int) (i : Nat) (l : List (Int × Int)) (ns : List Int) : Prop where
  kn : (l.map (·.1)).Nodup
  vn : (l.map (·.2)).Nodup
  nn : ns.Nodup
  lt : ∀ p ∈ l, 0 ≤ p.1 ∧ p.1 < i ∧ 0 ≤ p.2 ∧ p.2 < n
  nt : ∀ y ∈ ns, 0 ≤ y ∧ y < n ∧ y ∉ l.map (·.2)
  ln : l.length ≤ i
  le : l.length + ns.length = n.toNat
theorem Drw.more {n : Int} {i : Nat} {l : List (Int × Int)} {ns : List Int} (h : Drw n i l ns) : Drw n (i + 1) l ns := by
  refine ⟨h.kn, h.vn, h.nn, fun p hp => ?_, h.nt, Nat.le_succ_of_le h.ln, h.le⟩
  have := h.lt p hp
  omega
theorem not_erase {ns : List Int} {k : Nat} {y : Int} (nd : ns.Nodup) (h : ns[k]? = some y) : y ∉ ns.eraseIdx k := by
  obtain ⟨hk, e⟩ := List.getElem?_eq_some_iff.mp h
  have e1 : ns = ns.take k ++ y :: ns.drop (k + 1) := by
    rw [← e]
    simp
  rw [List.eraseIdx_eq_take_drop_succ]
  intro hm
  rw [e1, List.nodup_append, List.nodup_cons] at nd
  rcases List.mem_append.mp hm with h1 | h1
  · exact nd.2.2 y h1 y List.mem_cons_self rfl
  · exact nd.2.1.1 h1
theorem Drw.put {n : Int} {i : Nat} {l : List (Int × Int)} {ns : List Int} (h : Drw n i l ns) {k : Nat} {y : Int} (hy : ns[k]? = some y) : Drw n (i + 1) (l ++ [((i : Int), y)]) (ns.eraseIdx k) ∧ (i : Int) ∉ l.map (·.1) := by
  have hm := h.nt y (List.mem_of_getElem? hy)
  have hi : (i : Int) ∉ l.map (·.1) := by
    intro hm
    obtain ⟨p, hp, e⟩ := List.mem_map.mp hm
    have := h.lt p hp
    omega
  obtain ⟨hk, _⟩ := List.getElem?_eq_some_iff.mp hy
  refine ⟨⟨?_, ?_, ?_, ?_, ?_, ?_, ?_⟩, hi⟩
  · rw [List.map_append, List.nodup_append]
    refine ⟨h.kn, by simp, fun a ha b hb e => ?_⟩
    simp at hb
    subst hb
    exact hi (e ▸ ha)
  · rw [List.map_append, List.nodup_append]
    refine ⟨h.vn, by simp, fun a ha b hb e => ?_⟩
    simp at hb
    subst hb
    exact hm.2.2 (e ▸ ha)
  · exact List.Sublist.nodup (List.eraseIdx_sublist _ _) h.nn
  · intro p hp
    rcases List.mem_append.mp hp with hp | hp
    · have := h.lt p hp
      omega
    · simp at hp
      subst hp
      dsimp only
      omega
  · intro z hz
    have h1 := h.nt z (List.mem_of_mem_eraseIdx hz)
    refine ⟨h1.1, h1.2.1, fun hq => ?_⟩
    rw [List.map_append] at hq
    rcases List.mem_append.mp hq with hq | hq
    · exact h1.2.2 hq
    · simp at hq
      subst hq
      exact not_erase h.nn hy hz
  · have := h.ln
    simp
    omega
  · have := h.le
    rw [List.length_append, List.length_singleton, List.length_eraseIdx, if_pos hk]
    omega
theorem two_in {l : List (Int × Int)} (vn : (l.map (·.2)).Nodup) : ∀ {x x' y : Int}, (x, y) ∈ l → (x', y) ∈ l → x = x' := by
  induction l with
  | nil => intro _ _ _ h; cases h
  | cons p r ih =>
    intro x x' y h1 h2
    rw [List.map_cons, List.nodup_cons] at vn
    rcases List.mem_cons.mp h1 with e1 | e1 <;> rcases List.mem_cons.mp h2 with e2 | e2
    · subst e1; cases e2; rfl
    · subst e1; exact absurd (List.mem_map.mpr ⟨(x', y), e2, rfl⟩) vn.1
    · subst e2; exact absurd (List.mem_map.mpr ⟨(x, y), e1, rfl⟩) vn.1
    · exact ih vn.2 e1 e2
theorem Drw.wf {n : Int} {l : List (Int × Int)} {ns : List Int} (h0 : 0 ≤ n) (h : Drw n n.toNat l ns) : WF n (lk l) := by
  refine ⟨fun x y e => ?_, fun x x' y e e' => two_in h.vn (lk_mem e) (lk_mem e')⟩
  have := h.lt _ (lk_mem e)
  dsimp only at this
  omega
section
variable {P : Program} {w : World} {K : PySem.W.Frag} {mg : Str → Option Value} {base : Heap}
def PoolAt (H : Hp) (p : Addr) : Prop := ∃ a b : Int, H p = some (.lst [.int a, .int b]) ∧ 0 ≤ a ∧ 0 ≤ b ∧ b < 2147483647
theorem Off.put {p q : Addr} {H H' : Hp} {o : HO} (a : Off p H H') (h : H q = none) : Off p H (upd H' q o) := a.mut h
theorem Off.at {p : Addr} {H H' : Hp} {o : HO} (a : Off p H H') : Off p H (upd H' p o) := fun b u hb e => by rw [upd_ne hb]; exact a b u hb e
end
end My
namespace My
open PySem L2 U StX PM
/-! ### expressions over maps: new objects alone -/
theorem dEq_di {l l' : List (Int × Int)} {f : PF} (d : DI l f) (d' : DI l' f) : dEq (kvI l) (kvI l') = true := by
  have n1 := nd_of_map _ d.nd
  have n2 := nd_of_map _ d'.nd
  have s1 : ∀ p ∈ l, p ∈ l' := by
    rintro ⟨x, y⟩ hp
    exact d'.mem.mpr (d.mem.mp hp)
  have s2 : ∀ p ∈ l', p ∈ l := by
    rintro ⟨x, y⟩ hp
    exact d.mem.mpr (d'.mem.mp hp)
  have l1 := List.Nodup.length_le_of_subset n1 s1
  have l2 := List.Nodup.length_le_of_subset n2 s2
  unfold dEq
  rw [kvI_length, kvI_length, Bool.and_eq_true]
  refine ⟨by rw [beq_iff_eq]; omega, List.all_eq_true.mpr fun p hp => ?_⟩
  unfold kvI at hp
  obtain ⟨⟨x, y⟩, hm, rfl⟩ := List.mem_map.mp hp
  rw [decide_eq_true_eq, valV_kvI, d'.at_, d.mem.mp hm]
  rfl
/-! ### dict([(x, x) for x in one.arrows]) -/
end My
namespace My
open PySem L2 U StX PM
/-! ### values that are no maps; check_map -/
def nonMapV (H : Hp) : V → Prop
  | .non => True | .bl _ => True | .int _ => True | .str _ => True
  | .ref a => (∃ xs, H a = some (.lst xs)) ∨ (∃ xs, H a = some (.tup xs)) ∨ (∃ kvs, H a = some (.dK kvs))
  | _ => False
def spChkM (C CE : Addr) : Sp := fun vs H Q E => ∃ x, vs = [x] ∧ ((∃ a n f, x = .ref a ∧ IsMap C H a n f ∧ Q .non H) ∨ (nonMapV H x ∧ ∀ d, H d = none → E (.ref CE) (some d) (upd H d (.xd [("part", .str "map")]))))
section
variable {P : Program} {w : World} {K : PySem.W.Frag} {mg : Str → Option Value} {base : Heap}
theorem ok_ini_InvalidMap (T : Txt K mg) : FnR P w K mg base CX0 1 T.f_InvalidMap__init (spIni1 T.C_InvalidMap "part") := by
  refine T.A_InvalidMap__init.ok sc_InvalidMap__init (fun vs H Q E h => ?_) (fun cdv A outer s H vs Q E hr h => ?_)
  · obtain ⟨a, v, rfl, _⟩ := h
    rfl
  · obtain ⟨a, v, rfl, ha, q⟩ := h
    refine ⟨_, pss_one (ps_ostG (pv 0) (pv 1)), ?_⟩
    exact ⟨_, rfl, _, rfl, a, T.C_InvalidMap, rfl, T.x_InvalidMap, T.na_part_InvalidMap, .inl ⟨ha, fun dx h1 h2 => q dx h1 h2⟩⟩
theorem ty_nonmap (T : Txt K mg) {H : Hp} {x : V} (h : nonMapV H x) : ∃ t, TyX K H x t ∧ PySem.W.kitOne K t (.ref T.C_Map) = some false := by
  cases x with
  | non => exact ⟨_, .base .non, T.kn_NoneType_Map⟩
  | bl b => exact ⟨_, .base (.bl b), T.kn_bool_Map⟩
  | int i => exact ⟨_, .base (.int i), T.kn_int_Map⟩
  | str z => exact ⟨_, .base (.str z), T.kn_str_Map⟩
  | ref a =>
    rcases h with ⟨xs, e⟩ | ⟨xs, e⟩ | ⟨xs, e⟩
    · exact ⟨_, .base (.lst e), T.kn_list_Map⟩
    · exact ⟨_, .base (.tup e), T.kn_tuple_Map⟩
    · exact ⟨_, .base (.dK e), T.kn_dict_Map⟩
  | byt b => exact h.elim
  | flt b => exact h.elim
  | ty b => exact h.elim
theorem ok_check_map (T : Txt K mg) : FnR P w K mg base (L2.CX P w) 3 T.f_check_map (spChkM T.C_Map T.C_InvalidMap) := by
  refine T.A_check_map.okX sc_check_map (fun vs H Q E h => ?_) (fun cdv A outer s H vs Q E hr h => ?_)
  · obtain ⟨x, rfl, _⟩ := h
    rfl
  · obtain ⟨x, rfl, hx⟩ := h
    refine ⟨_, pss_one (ps_if (pt_not (pt_val (pe_callB call_isi (by rfl) T.n_isinstance (by decide +kernel) (pa_cons (pv 0) (pa_cons (pe_glob (v := .ref T.C_Map) rfl T.g_Map rfl) pa_nil)))))
      (pss_one (ps_raise rfl (takes_of rfl rfl rfl rfl) (pmk_oexG T.x_InvalidMap T.m_InvalidMap__init T.ti_InvalidMap__init (ok_ini_InvalidMap T) (hr.mono (by decide)) pass0 rfl T.g_InvalidMap (pa_cons pe_str pa_nil)))) pss_nil), ?_⟩
    rcases hx with ⟨a, n, f, rfl, hm, q⟩ | ⟨hx, q⟩
    · obtain ⟨dx, fs, h1⟩ := at_map hm
      exact ⟨_, rfl, _, _, _, _, true, rfl, .own _, tyx_ins T.o_Map h1, T.self_Map, _, rfl, iteF q⟩
    · obtain ⟨t, ht, hk⟩ := ty_nonmap T hx
      exact ⟨_, rfl, _, _, _, _, false, rfl, .own _, ht, hk, _, rfl, iteT (mk_one fun d hd => q d hd)⟩
end
/-! ### lists of rows -/
def RowsAt (H : Hp) : List Addr → List (List Int) → Prop
  | [], [] => True
  | a :: as, r :: rs => H a = some (.lst (r.map V.int)) ∧ RowsAt H as rs
  | _, _ => False
theorem RowsAt.len {H : Hp} : ∀ {as : List Addr} {rs : List (List Int)}, RowsAt H as rs → as.length = rs.length
  | [], [], _ => rfl
  | _ :: as, _ :: rs, h => by rw [List.length_cons, List.length_cons, RowsAt.len h.2]
  | [], _ :: _, h => h.elim
  | _ :: _, [], h => h.elim
theorem RowsAt.map {H H' : Hp} : ∀ {as : List Addr} {rs : List (List Int)}, RowsAt H as rs → (∀ a ∈ as, ∀ xs, H a = some (.lst xs) → H' a = some (.lst xs)) → RowsAt H' as rs
  | [], [], _, _ => trivial
  | _ :: as, _ :: rs, h, k => ⟨k _ List.mem_cons_self _ h.1, RowsAt.map h.2 fun a ha => k a (List.mem_cons_of_mem _ ha)⟩
  | [], _ :: _, h, _ => h.elim
  | _ :: _, [], h, _ => h.elim
theorem RowsAt.same {H H' : Hp} {as : List Addr} {rs : List (List Int)} (h : RowsAt H as rs) (s : Same H H') : RowsAt H' as rs := h.map fun a _ xs e => s a _ e
theorem RowsAt.off {H : Hp} {as : List Addr} {rs : List (List Int)} {p : Addr} {o : HO} (h : RowsAt H as rs) (n : p ∉ as) : RowsAt (upd H p o) as rs := h.map fun a ha xs e => by
  have hne : a ≠ p := fun z => n (z ▸ ha)
  rw [upd_ne hne]; exact e
theorem RowsAt.snoc {H : Hp} {a : Addr} {r : List Int} : ∀ {as : List Addr} {rs : List (List Int)}, RowsAt H as rs → H a = some (.lst (r.map V.int)) → RowsAt H (as ++ [a]) (rs ++ [r])
  | [], [], _, e => ⟨e, trivial⟩
  | _ :: as, _ :: rs, h, e => ⟨h.1, RowsAt.snoc h.2 e⟩
  | [], _ :: _, h, _ => h.elim
  | _ :: _, [], h, _ => h.elim
theorem RowsAt.get {H : Hp} : ∀ {as : List Addr} {rs : List (List Int)}, RowsAt H as rs → ∀ (i : Nat) (a : Addr), as[i]? = some a → ∃ r, rs[i]? = some r ∧ H a = some (.lst (r.map V.int))
  | [], [], _, i, a, e => by simp at e
  | b :: as, r :: rs, h, 0, a, e => by cases e; exact ⟨r, rfl, h.1⟩
  | _ :: as, _ :: rs, h, i + 1, a, e => RowsAt.get h.2 i a e
  | [], _ :: _, h, _, _, _ => h.elim
  | _ :: _, [], h, _, _, _ => h.elim
theorem RowsAt.mem {H : Hp} {as : List Addr} {rs : List (List Int)} (h : RowsAt H as rs) {a : Addr} (ha : a ∈ as) : ∃ r ∈ rs, H a = some (.lst (r.map V.int)) := by
  obtain ⟨i, hi⟩ := List.mem_iff_getElem?.mp ha
  obtain ⟨r, e1, e2⟩ := h.get i a hi
  exact ⟨r, List.mem_of_getElem? e1, e2⟩
/-- {x: True for x in xs}, a list of unlike ints -/
theorem dc_ints {K : PySem.W.Frag} {te : TE} {i : Nat} {tt : TT} {tk tv : TE} {vs : List Nat} {σ : L2.St} {H0 H : Hp} {Q : VK} {a : Addr} {xs : List Int} (hte : ∀ R : VK, R (.ref a) H → te σ H0 R) (ha : H a = some (.lst (xs.map V.int)))
    (hw : ∀ a, wipe ((wipe σ vs).set i a) vs = wipe σ vs)
    (ht : ∀ (y : Int) (H1 : Hp) (R : Bool → Hp → Prop), R true H1 → tt ((wipe σ vs).set i (some (.int y))) H1 R) (hk : ∀ (y : Int) (H1 : Hp) (R : VK), R (.int y) H1 → tk ((wipe σ vs).set i (some (.int y))) H1 R) (hv : ∀ (y : Int) (H1 : Hp) (R : VK), R (.bl true) H1 → tv ((wipe σ vs).set i (some (.int y))) H1 R)
    (nd : xs.Nodup) (hz : xs.length < sizeLine)
    (hq : ∀ D H', H D = none → H' D = some (.dK (kvB xs)) → L2.Same H H' → Q (.ref D) H') :
    tDc (iList K te) (gName i) tt tk tv vs σ H0 Q := by
  refine hte _ ⟨a, rfl, ⟨_, SqL.of ha⟩, fun D hD => ?_⟩
  have hDa : D ≠ a := fun e => by rw [e, ha] at hD; cases hD
  refine dc_it (walk_list (xs := xs.map V.int)) (fun k H' => L2.Same H H' ∧ H' D = some (.dK (kvB (xs.take k)))) ⟨Same.new hD, upd_same⟩ (fun k H' _ p => SqL.of (p.1 _ _ ha)) ?_ ?_
  · rintro k v H' H'' hk1 ⟨p1, p2⟩ ⟨rfl, ev⟩
    rw [List.length_map] at hk1
    obtain ⟨y, ey⟩ : ∃ y, xs[k]? = some y := ⟨_, List.getElem?_eq_getElem hk1⟩
    have ev' : v = .int y := by
      have := get_map ey
      rw [this] at ev
      exact (Option.some.inj ev).symm
    subst ev'
    refine ⟨hw _, ?_⟩
    refine ht y _ _ (iteT (hk y _ _ (hv y _ _ ⟨_, Sum.inl y, rfl, p2, ?_, ?_, ?_⟩)))
    · refine Nat.lt_of_le_of_lt ?_ hz
      unfold kvB
      rw [List.length_map, List.length_take]
      omega
    · exact Same.put p1 hD
    · have nin : y ∉ xs.take k := by
        intro hm
        have e2 : xs = xs.take k ++ xs.drop k := (List.take_append_drop k xs).symm
        rw [e2, List.nodup_append] at nd
        refine nd.2.2 y hm y (List.mem_iff_getElem?.mpr ⟨0, ?_⟩) rfl
        rw [List.getElem?_drop]
        exact ey
      rw [upd_same, putK_new _ (valV_none fun z => nin (kvB_key.mp z)), take_more ey]
      unfold kvB
      rw [List.map_append]
      rfl
  · rintro H' ⟨p1, p2⟩
    rw [List.length_map, List.take_length] at p2
    exact hq D _ hD p2 p1
/-- one dict of marks merged into another -/
theorem kvB_merge : ∀ (xs sl : List Int), ∃ sl', mergeK (kvB sl) (kvB xs) = kvB sl' ∧ (∀ z, z ∈ sl' ↔ z ∈ sl ∨ z ∈ xs) ∧ (sl.Nodup → sl'.Nodup)
  | [], sl => ⟨sl, rfl, fun z => by simp, id⟩
  | x :: xs, sl => by
    obtain ⟨s1, e1, m1, n1⟩ := kvB_put sl x
    obtain ⟨s2, e2, m2, n2⟩ := kvB_merge xs s1
    refine ⟨s2, ?_, fun z => ?_, fun nd => n2 (n1 nd)⟩
    · show mergeK (putK (kvB sl) (Sum.inl x) (V.bl true)) (kvB xs) = _
      rw [e1, e2]
    · rw [m2, m1, List.mem_cons]
      constructor
      · rintro ((h | h) | h)
        · exact .inl h
        · exact .inr (.inl h)
        · exact .inr (.inr h)
      · rintro (h | h | h)
        · exact .inl (.inl h)
        · exact .inl (.inr h)
        · exact .inr h
theorem kvB_len (sl : List Int) : (kvB sl).length = sl.length := by simp [kvB]
end My
namespace My
open PySem L2 U StX PM
section
variable {P : Program} {w : World} {K : PySem.W.Frag} {mg : Str → Option Value} {base : Heap}
theorem upd_upd {H : Hp} {p : Addr} {o o' : HO} : upd (upd H p o) p o' = upd H p o' := by
  funext b
  by_cases h : b = p
  · subst h; rw [upd_same, upd_same]
  · rw [upd_ne h, upd_ne h, upd_ne h]
theorem tgt_tab {n : Int} {f : PF} (wf : WF n f) (x : Int) : (valV (tgt (tab n f)) (Sum.inl x : Key)).isSome = !nonT n f x := by
  rw [tgt_val]
  cases h : nonT n f x with
  | true =>
    have := (nonT_iff wf).mp h
    refine decide_eq_false fun hm => ?_
    obtain ⟨⟨a, b⟩, hp, rfl⟩ := List.mem_map.mp hm
    exact this a ((mem_tab wf).mp hp)
  | false =>
    refine decide_eq_true ?_
    unfold nonT at h
    cases e : inv n f x with
    | none => rw [e] at h; cases h
    | some y => exact List.mem_map.mpr ⟨(y, x), (mem_tab wf).mpr ((inv_iff wf).mp e), rfl⟩
/-- {t: True for t in e.values()}, e a dict just made -/
theorem dc_valsF {l : List (Int × Int)} {te : TE} {i : Nat} {tt : TT} {tk tv : TE} {vs : List Nat} {σ : L2.St} {H0 H : Hp} {Q : VK}
    (hte : ∀ R : VK, (∀ d od, H d = none → R (.ref d) (upd H d (.frz od (.dK (kvI l))))) → te σ H0 R)
    (hw : ∀ a, wipe ((wipe σ vs).set i a) vs = wipe σ vs)
    (ht : ∀ (y : Int) (H1 : Hp) (R : Bool → Hp → Prop), R true H1 → tt ((wipe σ vs).set i (some (.int y))) H1 R) (hk : ∀ (y : Int) (H1 : Hp) (R : VK), R (.int y) H1 → tk ((wipe σ vs).set i (some (.int y))) H1 R) (hv : ∀ (y : Int) (H1 : Hp) (R : VK), R (.bl true) H1 → tv ((wipe σ vs).set i (some (.int y))) H1 R)
    (nd : (l.map (·.2)).Nodup) (hz : l.length < sizeLine)
    (hq : ∀ D H', H D = none → H' D = some (.dK (tgt l)) → L2.Same H H' → Q (.ref D) H') :
    tDc (iVals te) (gName i) tt tk tv vs σ H0 Q := by
  refine hte _ fun d od hd => ⟨d, od, kvI l, rfl, upd_same, fun D hD => ?_⟩
  have hDd : D ≠ d := fun e => by rw [e, upd_same] at hD; cases hD
  have hD0 : H D = none := by rw [upd_ne hDd] at hD; exact hD
  refine dc_it walk_values (fun k H' => H' d = some (.frz od (.dK (kvI l))) ∧ L2.Same H H' ∧ H' D = some (.dK (tgt (l.take k)))) ⟨?_, Same.put (Same.new hd) hD0, upd_same⟩ (fun k H' _ p => p.1) ?_ ?_
  · rw [upd_ne hDd.symm]; exact upd_same
  · rintro k v H' H'' hk1 ⟨p1, p2, p3⟩ ⟨rfl, kk, e1⟩
    obtain ⟨x, y, exy, rfl, rfl⟩ := kvI_get e1
    refine ⟨hw _, ?_⟩
    refine ht y _ _ ?_
    refine iteT ?_
    refine hk _ _ _ (hv _ _ _ ⟨_, Sum.inl y, rfl, p3, Nat.lt_of_le_of_lt (tgt_len ..) hz, ?_⟩)
    refine ⟨?_, Same.put p2 hD0, ?_⟩
    · rw [upd_ne hDd.symm]; exact p1
    · have nin : y ∉ (l.take k).map (·.2) := by
        intro hm
        have e2 : l.map (·.2) = (l.take k).map (·.2) ++ (l.drop k).map (·.2) := by rw [← List.map_append, List.take_append_drop]
        rw [e2, List.nodup_append] at nd
        refine nd.2.2 _ hm y (List.mem_map.mpr ⟨(x, y), ?_, rfl⟩) rfl
        refine List.mem_iff_getElem?.mpr ⟨0, ?_⟩
        rw [List.getElem?_drop]
        exact exy
      rw [upd_same, putK_new _ (valV_none fun z => nin (tgt_key.mp z)), take_more exy]
      unfold tgt
      rw [List.map_append]
      rfl
  · rintro H' ⟨p1, p2, p3⟩
    rw [kvI_length, List.take_length] at p3
    exact hq D _ hD0 p3 p2
structure Prt (n : Int) (f : PF) (H H' : Hp) (lh se : Addr) (ex : List Addr) (b : List Int) (hs : List Addr) (sl : List Int) (st : List Int) : Prop where
  sm : Same H H'
  l : H' lh = some (.lst (hs.map V.ref))
  s : H' se = some (.dK (kvB sl))
  r : RowsAt H' hs (st.map (rowN f))
  m : ∀ x, x ∈ sl ↔ x ∈ seenL f (b ++ st)
  nd : sl.Nodup
  nw : ∀ a ∈ hs, H a = none ∧ a ≠ lh ∧ a ≠ se ∧ a ∉ ex
theorem Prt.slen {n : Int} {f : PF} {H H' : Hp} {lh se : Addr} {ex hs : List Addr} {b sl st : List Int} (wf : WF n f) (p : Prt n f H H' lh se ex b hs sl st) (h : ∀ e ∈ b ++ st, 0 ≤ e ∧ e < n) : sl.length ≤ n.toNat := by
  refine len_range p.nd fun x hx => ?_
  obtain ⟨e, he, hm⟩ := mem_seenL.mp ((p.m x).mp hx)
  have := h e he
  exact (rowN_is wf this.1 this.2).dom wf this.1 this.2 x hm
/-- one row more, from a new list r, its marks merged -/
theorem Prt.more {n : Int} {f : PF} {H H1 H2 H3 : Hp} {lh se : Addr} {ex hs : List Addr} {b sl sl' st : List Int} {e : Int} {r : Addr} (p : Prt n f H H1 lh se ex b hs sl st) (hl0 : H lh = none) (hs0 : H se = none) (nls : lh ≠ se) (hex : ∀ a ∈ ex, H1 a ≠ none)
    (hr : H1 r = none) (s2 : Same H1 H2) (hr2 : H2 r = some (.lst ((rowN f e).map V.int))) (m1 : ∀ z, z ∈ sl' ↔ z ∈ sl ∨ z ∈ rowN f e) (n1 : sl.Nodup → sl'.Nodup) (s3 : Same (upd H2 lh (.lst (hs.map V.ref ++ [.ref r]))) H3) :
    Prt n f H (upd H3 se (.dK (kvB sl'))) lh se ex b (hs ++ [r]) sl' (st ++ [e]) := by
  have rl : r ≠ lh := fun z => by rw [z, p.l] at hr; cases hr
  have rs : r ≠ se := fun z => by rw [z, p.s] at hr; cases hr
  have r0 : H r = none := p.sm.free hr
  have rx : r ∉ ex := fun z => hex r z hr
  refine ⟨?_, ?_, upd_same, ?_, ?_, n1 p.nd, ?_⟩
  · refine Same.put ?_ hs0
    exact (Same.put (p.sm.trans s2) hl0).trans s3
  · rw [upd_ne nls, s3 _ _ upd_same, List.map_append]
    rfl
  · rw [List.map_append]
    refine RowsAt.snoc ?_ ?_
    · have h1 := (p.r.same s2).off (p := lh) (o := .lst (hs.map V.ref ++ [.ref r])) (fun z => (p.nw lh z).2.1 rfl)
      exact (h1.same s3).off fun z => (p.nw se z).2.2.1 rfl
    · rw [upd_ne rs]
      exact s3 _ _ (by rw [upd_ne rl]; exact hr2)
  · intro x
    rw [m1, p.m, mem_seenL, mem_seenL]
    constructor
    · rintro (⟨e', h1, h2⟩ | h)
      · exact ⟨e', by rw [← List.append_assoc]; exact List.mem_append_left _ h1, h2⟩
      · exact ⟨e, by simp, h⟩
    · rintro ⟨e', h1, h2⟩
      rw [← List.append_assoc] at h1
      rcases List.mem_append.mp h1 with h1 | h1
      · exact .inl ⟨e', h1, h2⟩
      · rw [List.mem_singleton] at h1
        subst h1
        exact .inr h2
  · intro a ha
    rcases List.mem_append.mp ha with ha | ha
    · exact p.nw a ha
    · rw [List.mem_singleton] at ha
      subst ha
      exact ⟨r0, rl, rs, rx⟩
def spParts (C : Addr) : Sp := fun vs H Q _ => ∃ a n f, vs = [.ref a] ∧ IsMap C H a n f ∧ ∀ t lc lh cs hs H', Same H H' → H' t = some (.tup [.ref lc, .ref lh]) → H' lc = some (.lst (cs.map V.ref)) → H' lh = some (.lst (hs.map V.ref)) →
  RowsAt H' cs ((cycS n f).map (rowN f)) → RowsAt H' hs ((nons n f).map (rowN f)) → H lc = none → H lh = none → lc ≠ lh → (∀ a ∈ cs, H a = none ∧ a ≠ lc ∧ a ≠ lh) → (∀ a ∈ hs, H a = none ∧ a ≠ lc ∧ a ≠ lh) → Q (.ref t) H'
theorem ok_parts_of (T : Txt K mg) : FnR P w K mg base CX0 3 T.f_parts_of (spParts T.C_Map) := by
  refine T.A_parts_of.ok sc_parts_of (fun vs H Q E h => ?_) (fun cdv A outer s H vs Q E hr h => ?_)
  · obtain ⟨a, n, f, rfl, _⟩ := h
    rfl
  · obtain ⟨a, n, f, rfl, hm, q⟩ := h
    have hu := hu_of hr
    refine ⟨_, pss_cons (ps_par (i := 1) (j := 2) rfl sc_parts_of.nd rfl rfl (by decide) rfl rfl (pa_cons (pe_propR (pv 0) T.o_Map.cl T.P_Map_arrows (ok_arrows T) (hr.mono (by decide)))
          (pa_cons (pe_dc (own := [("target", 7)]) (g := gName 7) (tt := tYes) rfl sc_parts_of.nd (pi_values (pe_frz (pe_propR (pv 0) T.o_Map.cl T.P_Map_arrows (ok_arrows T) (hr.mono (by decide)))))
            (blkOk_by (own := [("target", 7)]) (N := n_parts_of) (sc := defScope s_parts_of) (by decide +kernel))
            (fun _ _ _ _ _ => pg_name (i := 7) sc_parts_of.nd rfl (Or.inl rfl)) (fun _ _ _ _ _ => pts_nil) (fun _ _ _ _ _ => pv 7) (fun _ _ _ _ _ => pe_bl)) pa_nil)) (by rfl))
      (pss_cons (ps_par3 (i := 3) (j := 4) (l := 5) rfl sc_parts_of.nd rfl rfl rfl (by decide) (by decide) (by decide) rfl rfl rfl (pa_cons (pe_lst pa_nil) (pa_cons (pe_lst pa_nil) (pa_cons pe_dnewK pa_nil))) (by rfl))
      (pss_cons (ps_for PassesOwn.never rfl (pi_range1 rfl T.n_range (pa_cons (pe_propR (pv 0) T.o_Map.cl T.P_Map_size (ok_size T) (hr.mono (by decide))) pa_nil)) (pg_name (i := 6) sc_parts_of.nd rfl (Or.inl rfl))
        (pss_one (ps_if (pt_cmp (pc_dnotin hu (pv 6) (pv 2)))
          (pss_cons (ps_expr (pe_bm PySem.F.plainAttrs_list PySem.F.slot_list_append PySem.F.type_list_append mt_append (pv 4) (pa_cons (pe_callR (ok_row_from T) (hr.mono (by decide)) T.A_row_from.kp rfl T.g_row_from pass0 (pa_cons (pv 1) (pa_cons (pv 6) pa_nil))) pa_nil)))
          (pss_one (ps_expr (pe_bm PySem.F.plainAttrs_dict PySem.F.slot_dict_update PySem.F.type_dict_update mt_updD (pv 5) (pa_cons (pe_dc (own := [("one", 8)]) (g := gName 8) (tt := tYes) rfl sc_parts_of.nd (pi_list (pe_ix ix_list (pv 4) (pe_un un_neg pe_int) (fun _ _ => rfl)))
            (blkOk_by (own := [("one", 8)]) (N := n_parts_of) (sc := defScope s_parts_of) (by decide +kernel))
            (fun _ _ _ _ _ => pg_name (i := 8) sc_parts_of.nd rfl (Or.inl rfl)) (fun _ _ _ _ _ => pts_nil) (fun _ _ _ _ _ => pv 8) (fun _ _ _ _ _ => pe_bl)) pa_nil))))) pss_nil)))
      (pss_cons (ps_for PassesOwn.never rfl (pi_range1 rfl T.n_range (pa_cons (pe_propR (pv 0) T.o_Map.cl T.P_Map_size (ok_size T) (hr.mono (by decide))) pa_nil)) (pg_name (i := 6) sc_parts_of.nd rfl (Or.inl rfl))
        (pss_one (ps_if (pt_cmp (pc_dnotin hu (pv 6) (pv 5)))
          (pss_cons (ps_expr (pe_bm PySem.F.plainAttrs_list PySem.F.slot_list_append PySem.F.type_list_append mt_append (pv 3) (pa_cons (pe_callR (ok_row_from T) (hr.mono (by decide)) T.A_row_from.kp rfl T.g_row_from pass0 (pa_cons (pv 1) (pa_cons (pv 6) pa_nil))) pa_nil)))
          (pss_one (ps_expr (pe_bm PySem.F.plainAttrs_dict PySem.F.slot_dict_update PySem.F.type_dict_update mt_updD (pv 5) (pa_cons (pe_dc (own := [("one", 8)]) (g := gName 8) (tt := tYes) rfl sc_parts_of.nd (pi_list (pe_ix ix_list (pv 3) (pe_un un_neg pe_int) (fun _ _ => rfl)))
            (blkOk_by (own := [("one", 8)]) (N := n_parts_of) (sc := defScope s_parts_of) (by decide +kernel))
            (fun _ _ _ _ _ => pg_name (i := 8) sc_parts_of.nd rfl (Or.inl rfl)) (fun _ _ _ _ _ => pts_nil) (fun _ _ _ _ _ => pv 8) (fun _ _ _ _ _ => pe_bl)) pa_nil))))) pss_nil)))
      (pss_one (ps_ret (pe_tup (pa_cons (pv 3) (pa_cons (pv 4) pa_nil)))))))), ?_⟩
    obtain ⟨dx, fs, h1⟩ := at_map hm
    have wf := hm.wf
    have hn3 := hm.hi
    have hn1 := hm.lo
    have tl := tab_len n f
    refine ⟨_, rfl, a, dx, fs, rfl, h1, a, n, f, rfl, hm, fun d hd => ?_⟩
    have s1 : Same H (upd H d (.dK (kvI (tab n f)))) := Same.new hd
    refine dc_valsF (H := upd H d (.dK (kvI (tab n f)))) (l := tab n f) (fun R r => ?_) (fun _ => rfl) (fun _ _ _ r => r) (fun _ _ _ r => ⟨_, rfl, r⟩) (fun _ _ _ r => r) (vals_tab wf) (small1000 (by omega)) (fun tg H2 ntg htg s2 => ?_)
    · refine ⟨_, rfl, a, dx, fs, rfl, s1 _ _ h1, a, n, f, rfl, hm.same s1, fun p hp => ⟨p, _, rfl, upd_same, trivial, fun od => ?_⟩⟩
      rw [upd_upd]
      exact r p od hp
    refine ⟨_, _, rfl, ?_⟩
    have s12 := s1.trans s2
    have hd2 : H2 d = some (.dK (kvI (tab n f))) := s2 _ _ upd_same
    refine ⟨(by show 0 ≤ sizeLine; decide), fun lc hlc => ⟨(by show 0 ≤ sizeLine; decide), fun lh hlh => fun se hse => ⟨_, _, _, rfl, ?_⟩⟩⟩
    have nlc : lc ≠ lh := ne_of_none upd_same hlh
    have ncs : lc ≠ se := ne_of_none (by rw [upd_ne nlc]; exact upd_same) hse
    have nhs : lh ≠ se := ne_of_none upd_same hse
    have s3 : Same H2 (upd (upd (upd H2 lc (.lst [])) lh (.lst [])) se (.dK [])) := ((Same.new hlc).trans (Same.new hlh)).trans (Same.new hse)
    have hlh2 : H2 lh = none := (Same.new hlc).free hlh
    have hse2 : H2 se = none := ((Same.new hlc).trans (Same.new hlh)).free hse
    refine ⟨_, rfl, a, dx, fs, rfl, (s12.trans s3) _ _ h1, a, n, f, rfl, hm.same (s12.trans s3), n, rfl, by omega, by omega, ?_⟩
    refine for_it (walk_range (lo := 0) (n := n.toNat)) (fun i σ H' => ∃ v6 v7 v8 hs sl, σ = [some (.ref a), some (.ref d), some (.ref tg), some (.ref lc), some (.ref lh), some (.ref se), v6, v7, v8] ∧ H' lc = some (.lst []) ∧ Prt n f H2 H' lh se [lc] [] hs sl ((rgI i).filter (nonT n f)))
      ⟨none, none, none, [], [], rfl, ?_, s3, ?_, upd_same, trivial, fun x => ?_, List.nodup_nil, fun a h => nomatch h⟩ (fun _ _ _ _ _ => trivial) ?_ ?_
    · rw [upd_ne ncs, upd_ne nlc, upd_same]
    · rw [upd_ne nhs, upd_same]; rfl
    · exact ⟨fun h => (nomatch h), fun h => (nomatch h)⟩
    · rintro i v σ H' H'' hi ⟨v6, v7, v8, hs, sl, rfl, c1, p⟩ ⟨rfl, rfl⟩
      have x0 : (0 : Int) ≤ 0 + (i : Nat) := by omega
      have x1 : (0 : Int) + (i : Nat) < n := by omega
      refine ⟨_, rfl, _, rfl, tg, _, rfl, DGet.k (k := Sum.inl (0 + (i : Nat) : Int)) (p.sm _ _ htg), _, rfl, ?_⟩
      rw [tgt_tab wf]
      have hst : ∀ e ∈ [] ++ (rgI i).filter (nonT n f), 0 ≤ e ∧ e < n := fun e he => by
        have := mem_rgI.mp (List.mem_filter.mp he).1
        omega
      have hsl := p.slen wf hst
      have hlen := p.r.len
      rw [List.length_map] at hlen
      have hfl : ((rgI i).filter (nonT n f)).length ≤ i := Nat.le_trans (List.length_filter_le _ _) (by simp [rgI])
      refine ifNB (fun hc => ?_) (fun hc => ?_)
      · have hnt : nonT n f (0 + (i : Nat)) = true := by simpa using hc
        refine ⟨_, rfl, .inl ⟨rfl, _, SqL.of p.l⟩, _, rfl, _, rfl, d, tab n f, n, f, 0 + (i : Nat), rfl, p.sm _ _ hd2, di_tab wf, wf, hn3, x0, x1, fun r H3 pre z hr0 sr hr2 row ho => ?_⟩
        have hrow : IsRow f (0 + (i : Nat)) (pre ++ [z]) := ⟨pre, z, rfl, row, ho⟩
        rw [← rowN_eq hrow] at hr2
        refine ⟨lh, _, .ref r, rfl, rfl, sr _ _ p.l, ?_, ?_⟩
        · rw [List.length_map]; exact small1000 (by omega)
        have rl : r ≠ lh := fun z => by rw [z, p.l] at hr0; cases hr0
        have rs : r ≠ se := fun z => by rw [z, p.s] at hr0; cases hr0
        have hs4 : (upd H3 lh (.lst (hs.map V.ref ++ [.ref r]))) se = some (.dK (kvB sl)) := by rw [upd_ne nhs.symm]; exact sr _ _ p.s
        have nrow := (rowN_is wf x0 x1).nd wf
        have drow := (rowN_is wf x0 x1).dom wf x0 x1
        have lrow := len_range nrow drow
        refine ⟨_, rfl, .inr (.inr (.inl ⟨rfl, .inl ⟨_, hs4⟩⟩)), ?_⟩
        refine dc_ints (a := r) (xs := rowN f (0 + (i : Nat))) (H := upd H3 lh (.lst (hs.map V.ref ++ [.ref r]))) (fun R rr => ?_) (by rw [upd_ne rl]; exact hr2) (fun _ => rfl) (fun _ _ _ r => r) (fun _ _ _ r => ⟨_, rfl, r⟩) (fun _ _ _ r => r) nrow (small1000 (by omega)) (fun D H5 nD hD s5 => ?_)
        · exact ⟨_, rfl, 1, rfl, lh, _, -1, _, rfl, rfl, SqL.of upd_same, atI_last _ _, rr⟩
        obtain ⟨sl', em, m1, n1⟩ := kvB_merge (rowN f (0 + (i : Nat))) sl
        refine ⟨se, D, _, _, rfl, rfl, ?_, s5 _ _ hs4, hD, ?_, ?_⟩
        · exact ne_of_none hs4 nD
        · rw [kvB_len, kvB_len]; exact Nat.le_trans (by omega : _ ≤ 1000) (by decide)
        rw [em]
        have pm := p.more hlh2 hse2 nhs (fun a ha => by rw [List.mem_singleton] at ha; rw [ha, c1]; simp) hr0 sr hr2 m1 n1 s5
        refine ⟨_, _, _, hs ++ [r], sl', rfl, ?_, ?_⟩
        · rw [upd_ne ncs]; exact s5 _ _ (by rw [upd_ne nlc]; exact sr _ _ c1)
        · rw [rgI_succ, List.filter_append, List.filter_cons_of_pos (by rw [Int.zero_add] at hnt; exact hnt), List.filter_nil]
          rw [Int.zero_add] at pm
          exact pm
      · have hnt : nonT n f ((i : Nat) : Int) = false := by rw [Int.zero_add] at hc; simpa using hc
        refine ⟨_, _, _, hs, sl, rfl, c1, ?_⟩
        rw [rgI_succ, List.filter_append, List.filter_cons_of_neg (by rw [hnt]; exact Bool.false_ne_true), List.filter_nil, List.append_nil]
        exact p
    · rintro σ H3 ⟨v6, v7, v8, hs, sl, rfl, c1, p⟩
      have s13 : Same H H3 := s12.trans p.sm
      refine ⟨_, rfl, a, dx, fs, rfl, s13 _ _ h1, a, n, f, rfl, hm.same s13, n, rfl, by omega, by omega, ?_⟩
      refine for_it (walk_range (lo := 0) (n := n.toNat)) (fun i σ H' => ∃ v6 v7 v8 cs sl st, σ = [some (.ref a), some (.ref d), some (.ref tg), some (.ref lc), some (.ref lh), some (.ref se), v6, v7, v8] ∧ Prt n f H2 H' lc se [lh] (nons n f) cs sl st ∧ selL f (nons n f) (rgI i) = nons n f ++ st ∧ H' lh = some (.lst (hs.map V.ref)) ∧ RowsAt H' hs ((nons n f).map (rowN f)))
        ⟨_, _, _, [], sl, [], rfl, ⟨p.sm, c1, p.s, trivial, fun x => ?_, p.nd, fun a h => nomatch h⟩, by simp [selL, rgI], p.l, p.r⟩ (fun _ _ _ _ _ => trivial) ?_ ?_
      · rw [List.append_nil]; exact p.m x
      · rintro i v σ H' H'' hi ⟨v6, v7, v8, cs, sl, st, rfl, p', est, e1, e2⟩ ⟨rfl, rfl⟩
        have x0 : (0 : Int) ≤ 0 + (i : Nat) := by omega
        have x1 : (0 : Int) + (i : Nat) < n := by omega
        obtain ⟨c, ec, hc1, hc2⟩ := selL_sub f (rgI i) (nons n f)
        rw [est] at ec
        have ec := List.append_cancel_left ec
        subst ec
        have hst : ∀ e ∈ nons n f ++ st, 0 ≤ e ∧ e < n := fun e he => by
          rcases List.mem_append.mp he with he | he
          · have := nons_dom he
            exact ⟨this.1, this.2.1⟩
          · have := mem_rgI.mp (hc1.subset he)
            omega
        have hsl := p'.slen wf hst
        have hlen := p'.r.len
        rw [List.length_map] at hlen
        have hfl : st.length ≤ i := Nat.le_trans hc1.length_le (by simp [rgI])
        refine ⟨_, rfl, _, rfl, se, _, rfl, DGet.k (k := Sum.inl (0 + (i : Nat) : Int)) p'.s, _, rfl, ?_⟩
        rw [kvB_val]
        refine ifN (fun hc => ?_) (fun hc => ?_)
        · have hns : ((i : Nat) : Int) ∉ seenL f (nons n f ++ st) := fun h => hc (by rw [Int.zero_add]; exact (p'.m _).mpr h)
          refine ⟨_, rfl, .inl ⟨rfl, _, SqL.of p'.l⟩, _, rfl, _, rfl, d, tab n f, n, f, 0 + (i : Nat), rfl, p'.sm _ _ hd2, di_tab wf, wf, hn3, x0, x1, fun r H3 pre z hr0 sr hr2 row ho => ?_⟩
          have hrow : IsRow f (0 + (i : Nat)) (pre ++ [z]) := ⟨pre, z, rfl, row, ho⟩
          rw [← rowN_eq hrow] at hr2
          refine ⟨lc, _, .ref r, rfl, rfl, sr _ _ p'.l, ?_, ?_⟩
          · rw [List.length_map]; exact small1000 (by omega)
          have rl : r ≠ lc := fun z => by rw [z, p'.l] at hr0; cases hr0
          have hs4 : (upd H3 lc (.lst (cs.map V.ref ++ [.ref r]))) se = some (.dK (kvB sl)) := by rw [upd_ne ncs.symm]; exact sr _ _ p'.s
          have nrow := (rowN_is wf x0 x1).nd wf
          have drow := (rowN_is wf x0 x1).dom wf x0 x1
          have lrow := len_range nrow drow
          refine ⟨_, rfl, .inr (.inr (.inl ⟨rfl, .inl ⟨_, hs4⟩⟩)), ?_⟩
          refine dc_ints (a := r) (xs := rowN f (0 + (i : Nat))) (H := upd H3 lc (.lst (cs.map V.ref ++ [.ref r]))) (fun R rr => ?_) (by rw [upd_ne rl]; exact hr2) (fun _ => rfl) (fun _ _ _ r => r) (fun _ _ _ r => ⟨_, rfl, r⟩) (fun _ _ _ r => r) nrow (small1000 (by omega)) (fun D H5 nD hD s5 => ?_)
          · exact ⟨_, rfl, 1, rfl, lc, _, -1, _, rfl, rfl, SqL.of upd_same, atI_last _ _, rr⟩
          obtain ⟨sl', em, m1, n1⟩ := kvB_merge (rowN f (0 + (i : Nat))) sl
          refine ⟨se, D, _, _, rfl, rfl, ?_, s5 _ _ hs4, hD, ?_, ?_⟩
          · exact ne_of_none hs4 nD
          · rw [kvB_len, kvB_len]; exact Nat.le_trans (by omega : _ ≤ 1000) (by decide)
          rw [em]
          have pm := p'.more hlc hse2 ncs (fun a ha => by rw [List.mem_singleton] at ha; rw [ha, e1]; simp) hr0 sr hr2 m1 n1 s5
          refine ⟨_, _, _, cs ++ [r], sl', st ++ [((i : Nat) : Int)], rfl, ?_, ?_, ?_, ?_⟩
          · rw [Int.zero_add] at pm
            exact pm
          · rw [rgI_succ, selL_one, est]
            unfold stp
            rw [if_neg hns, List.append_assoc]
          · rw [upd_ne nhs]; exact s5 _ _ (by rw [upd_ne nlc.symm]; exact sr _ _ e1)
          · have g1 := (e2.same sr).off (p := lc) (o := .lst (cs.map V.ref ++ [.ref r])) (fun z => (p.nw lc z).2.2.2 (by simp))
            exact (g1.same s5).off fun z => (p.nw se z).2.2.1 rfl
        · have hns : ((i : Nat) : Int) ∈ seenL f (nons n f ++ st) := (p'.m _).mp (by rw [Int.zero_add] at hc; exact hc)
          refine ⟨_, _, _, cs, sl, st, rfl, p', ?_, e1, e2⟩
          rw [rgI_succ, selL_one, est]
          unfold stp
          rw [if_pos hns]
      · rintro σ H4 ⟨v6, v7, v8, cs, sl', st, rfl, p', est, e1, e2⟩
        rw [cycS_eq] at est
        have est := List.append_cancel_left est
        subst est
        refine ⟨_, rfl, _, rfl, (by show 2 ≤ sizeLine; decide), fun t ht => ?_⟩
        have s5 : Same H4 (upd H4 t (.tup [.ref lc, .ref lh])) := Same.new ht
        refine q t lc lh cs hs _ ((s12.trans p'.sm).trans s5) upd_same (s5 _ _ p'.l) (s5 _ _ e1) (p'.r.same s5) (e2.same s5) (s12.free hlc) (s12.free hlh2) nlc (fun a ha => ?_) (fun a ha => ?_)
        · have := p'.nw a ha
          exact ⟨s12.free this.1, this.2.1, by simpa using this.2.2.2⟩
        · have := p.nw a ha
          exact ⟨s12.free this.1, by simpa using this.2.2.2, this.2.1⟩
/-! ### cycles_of, chains_of -/
end
end My
namespace My
open PySem L2 U StX PM
/-! ### lists of ints: in, comprehensions -/
/-! ### rows with marks -/
def PairsAt (H : Hp) : List Addr → List Addr → List Bool → Prop
  | [], [], [] => True
  | p :: ps, a :: as, b :: bs => H p = some (.tup [.ref a, .bl b]) ∧ PairsAt H ps as bs
  | _, _, _ => False
theorem PairsAt.map {H H' : Hp} : ∀ {ps as : List Addr} {bs : List Bool}, PairsAt H ps as bs → (∀ p ∈ ps, ∀ xs, H p = some (.tup xs) → H' p = some (.tup xs)) → PairsAt H' ps as bs
  | [], [], [], _, _ => trivial
  | _ :: ps, _ :: as, _ :: bs, h, k => ⟨k _ List.mem_cons_self _ h.1, PairsAt.map h.2 fun a ha => k a (List.mem_cons_of_mem _ ha)⟩
  | [], [], _ :: _, h, _ => h.elim
  | [], _ :: _, _, h, _ => h.elim
  | _ :: _, [], _, h, _ => h.elim
  | _ :: _, _ :: _, [], h, _ => h.elim
theorem PairsAt.same {H H' : Hp} {ps as : List Addr} {bs : List Bool} (h : PairsAt H ps as bs) (s : Same H H') : PairsAt H' ps as bs := h.map fun a _ xs e => s a _ e
theorem PairsAt.off {H : Hp} {ps as : List Addr} {bs : List Bool} {q : Addr} {o u : HO} (h : PairsAt H ps as bs) (hq : H q = some u) (nt : ∀ xs, u ≠ .tup xs) : PairsAt (upd H q o) ps as bs := h.map fun a ha xs e => by
  have hne : a ≠ q := fun z => by subst z; rw [hq] at e; exact nt _ (Option.some.inj e)
  rw [upd_ne hne]; exact e
theorem PairsAt.len {H : Hp} : ∀ {ps as : List Addr} {bs : List Bool}, PairsAt H ps as bs → ps.length = as.length ∧ ps.length = bs.length
  | [], [], [], _ => ⟨rfl, rfl⟩
  | _ :: ps, _ :: as, _ :: bs, h => by
    have := PairsAt.len h.2
    simp [this.1.symm, this.2.symm]
  | [], [], _ :: _, h => h.elim
  | [], _ :: _, _, h => h.elim
  | _ :: _, [], _, h => h.elim
  | _ :: _, _ :: _, [], h => h.elim
theorem PairsAt.get {H : Hp} : ∀ {ps as : List Addr} {bs : List Bool}, PairsAt H ps as bs → ∀ (i : Nat) (p : Addr), ps[i]? = some p → ∃ a b, as[i]? = some a ∧ bs[i]? = some b ∧ H p = some (.tup [.ref a, .bl b])
  | [], [], [], _, i, a, e => by simp at e
  | _ :: ps, a :: as, b :: bs, h, 0, p, e => by cases e; exact ⟨a, b, rfl, rfl, h.1⟩
  | _ :: ps, _ :: as, _ :: bs, h, i + 1, p, e => PairsAt.get h.2 i p e
  | [], [], _ :: _, h, _, _, _ => h.elim
  | [], _ :: _, _, h, _, _, _ => h.elim
  | _ :: _, [], _, h, _, _, _ => h.elim
  | _ :: _, _ :: _, [], h, _, _, _ => h.elim
end My
namespace My
open PySem L2 U StX PM
/-- [v for .. in xs if ..], any list, the tests and parts reading alone -/
theorem lc_lst {α : Type} {K : PySem.W.Frag} {te : TE} {g : TG} {tt : TT} {tv : TE} {vs : List Nat} {σ : L2.St} {H0 H : Hp} {Q : VK} {a : Addr} {xs : List α} (e : α → V) (sx : α → L2.St) (c : α → Bool) (vf : α → V) (hte : ∀ R : VK, R (.ref a) H → te σ H0 R) (ha : H a = some (.lst (xs.map e)))
    (hg : ∀ x ∈ xs, ∀ (H1 : Hp), L2.Same H H1 → ∀ R : L2.St → Hp → Prop, R (sx x) H1 → g (e x) (wipe σ vs) H1 R) (hw : ∀ x ∈ xs, wipe (sx x) vs = wipe σ vs)
    (hb : ∀ x ∈ xs, ∀ (H1 : Hp), L2.Same H H1 → (∀ R : Bool → Hp → Prop, R (c x) H1 → tt (sx x) H1 R) ∧ (c x = true → ∀ R : VK, R (vf x) H1 → tv (sx x) H1 R))
    (hz : xs.length < sizeLine)
    (hq : ∀ D H', H D = none → H' D = some (.lst ((xs.filter c).map vf)) → L2.Same H H' → Q (.ref D) H') :
    tLc (iList K te) g tt tv vs σ H0 Q := by
  refine hte _ ⟨a, rfl, ⟨_, SqL.of ha⟩, fun D hD => ?_⟩
  refine lc_it (walk_list (xs := xs.map e)) (fun k H' => L2.Same H H' ∧ H' D = some (.lst (((xs.take k).filter c).map vf))) ⟨Same.new hD, upd_same⟩ (fun k H' _ p => SqL.of (p.1 _ _ ha)) ?_ ?_
  · rintro k v H' H'' hk1 ⟨p1, p2⟩ ⟨rfl, ev⟩
    rw [List.length_map] at hk1
    obtain ⟨y, ey⟩ : ∃ y, xs[k]? = some y := ⟨_, List.getElem?_eq_getElem hk1⟩
    have ev' : v = e y := by
      rw [List.getElem?_map, ey] at ev
      exact (Option.some.inj ev).symm
    subst ev'
    have hy := List.mem_of_getElem? ey
    refine hg y hy _ p1 _ ⟨hw y hy, ?_⟩
    obtain ⟨b1, b2⟩ := hb y hy _ p1
    refine b1 _ ?_
    have st : (xs.take (k + 1)).filter c = (xs.take k).filter c ++ (if c y = true then [y] else []) := by
      rw [take_more ey, List.filter_append]
      by_cases h : c y = true
      · simp [h]
      · have h' : c y = false := by simpa using h
        simp [h']
    cases hc : c y with
    | true =>
      refine iteT (b2 hc _ ⟨_, p2, ?_, Same.put p1 hD, ?_⟩)
      · refine Nat.lt_of_le_of_lt ?_ hz
        rw [List.length_map]
        exact Nat.le_trans (List.length_filter_le _ _) (by rw [List.length_take]; omega)
      · rw [upd_same, st, if_pos hc, List.map_append]
        rfl
    | false =>
      refine iteF ⟨p1, ?_⟩
      rw [st, hc, if_neg Bool.false_ne_true, List.append_nil]
      exact p2
  · rintro H' ⟨p1, p2⟩
    rw [List.length_map, List.take_length] at p2
    exact hq D _ hD p2 p1
/-! ### rows by their first elements -/
def RowsZ (f : PF) (H : Hp) (zs : List (Addr × Int)) : Prop := ∀ z ∈ zs, H z.1 = some (.lst ((rowN f z.2).map V.int))
theorem RowsZ.at {f : PF} {H : Hp} : ∀ {zs : List (Addr × Int)}, RowsZ f H zs → RowsAt H (zs.map (·.1)) ((zs.map (·.2)).map (rowN f))
  | [], _ => trivial
  | z :: zs, h => ⟨h z List.mem_cons_self, RowsZ.at fun x hx => h x (List.mem_cons_of_mem _ hx)⟩
/-! ### data that may be compared -/
end My
namespace My
open PySem L2 U StX PM
theorem SqL.same {K : PySem.W.Frag} {H H' : Hp} {a : Addr} {xs : List V} (h : SqL K H a xs) (s : Same H H') : SqL K H' a xs := by
  rcases h with (h | ⟨o, h⟩) | h
  · exact .inl (.inl (s _ _ h))
  · exact .inl (.inr ⟨o, s _ _ h⟩)
  · exact .inr h
theorem Same.off {H H1 H2 : Hp} {p : Addr} (s : Same H H1) (o : Off p H1 H2) (h : H p = none) : Same H H2 := fun b u e => o b u (ne_of_none e h) (s b u e)
theorem yes_ {σ : L2.St} {H : Hp} {A B : Hp → Prop} (h : A H) : tYes σ H (fun b H3 => if b = true then A H3 else B H3) := by
  show (if true = true then A H else B H)
  rw [if_pos rfl]
  exact h
theorem PoolAt.same {H H' : Hp} {p : Addr} (h : PoolAt H p) (s : Same H H') : PoolAt H' p := by
  obtain ⟨a, b, e, r⟩ := h
  exact ⟨a, b, s _ _ e, r⟩
theorem PoolAt.lst {H : Hp} {p : Addr} (h : PoolAt H p) : ∃ xs, H p = some (.lst xs) := by
  obtain ⟨a, b, e, r⟩ := h
  exact ⟨_, e⟩
theorem PoolAt.ne {H : Hp} {p q : Addr} (h : PoolAt H p) (hq : H q = none) : p ≠ q := by
  obtain ⟨xs, e⟩ := h.lst
  exact ne_of_none e hq
def spLaw (K : PySem.W.Frag) : Sp := fun vs H Q _ => ∃ (a : Addr) (ns : List Int), vs = [.ref a] ∧ SqL K H a (ns.map V.int) ∧ ns.length ≤ 63 ∧ ∀ H', Q (.bl true) H'
theorem IsMap.off {C p : Addr} {H H' : Hp} {m : Addr} {n : Int} {f : PF} (a : IsMap C H m n f) (o : Off p H H') (h : ∃ xs, H p = some (.lst xs)) : IsMap C H' m n f := by
  obtain ⟨⟨dx, D, h1, h2⟩, wf, lo, hi⟩ := a
  obtain ⟨xs, h⟩ := h
  exact ⟨⟨dx, D, o _ _ (fun e => by rw [e, h] at h1; cases h1) h1, o _ _ (fun e => by rw [e, h] at h2; cases h2) h2⟩, wf, lo, hi⟩
/-- Map(n, d) -/
theorem init_of {C : Addr} {H : Hp} {d : Addr} {n : Int} {l : List (Int × Int)} {f : PF} {R : VK} {E : XK} {x dx : Addr} (hd : H d = some (.dK (kvI l))) (di : DI l f) (wf : WF n f) (h1 : 1 ≤ n) (h3 : n ≤ 300) (hl : l.length ≤ 1000)
    (hx : H x = none) (hdx : H dx = none) (ne : dx ≠ x) (q : ∀ H', Same H H' → IsMap C H' x n f → R .non H') :
    spInit C [.ref x, .int n, .ref d] (upd (upd H dx (.own x)) x (.ins C dx [])) R E := by
  have s0 : Same H (upd (upd H dx (.own x)) x (.ins C dx [])) := fun b o e => by
    rw [upd_ne (ne_of_none e hx), upd_ne (ne_of_none e hdx)]
    exact e
  refine ⟨x, dx, d, n, l, f, rfl, upd_same, s0 _ _ hd, di, wf, h1, h3, hl, fun H' D o nD hp hD => ?_⟩
  exact q H' (fun b u e => o b u (ne_of_none e hx) (s0 b u e)) ⟨⟨dx, D, hp, hD⟩, wf, h1, h3⟩
/-- the law's draw, told by the pool alone -/
theorem draw_of {H : Hp} {p : Addr} {n : Int} {Q : VK} {E : XK} (h : PoolAt H p) (n0 : 0 < n) (n1 : n < 1073741824) (k : ∀ r H', 0 ≤ r → r < n → PoolAt H' p → Off p H H' → (∃ xs, H' = upd H p (.lst xs)) → Q (.int r) H') : spDraw [.ref p, .int n] H Q E := by
  obtain ⟨a, b, e, ha, hb, hc⟩ := h
  exact ⟨p, a, b, n, rfl, e, ha, hb, hc, n0, n1, fun a' b' r h1 h2 h3 h4 h5 => k r _ h4 h5 ⟨a', b', upd_same, h1, h2, h3⟩ Off.lock ⟨_, rfl⟩⟩
end My
namespace My
open PySem L2 U StX PM
theorem paired_at {α β : Type} {R : α → β → Prop} {xs : List α} {ys : List β} (h : Paired R xs ys) {i : Nat} {x : α} (e : xs[i]? = some x) : ∃ y, ys[i]? = some y ∧ R x y := by
  induction h generalizing i with
  | nil => cases e
  | cons r _ ih =>
    cases i with
    | zero => cases e; exact ⟨_, rfl, r⟩
    | succ i => exact ih e
theorem PoolAt.put {H : Hp} {p q : Addr} {o : HO} (h : PoolAt H p) (n : p ≠ q) : PoolAt (upd H q o) p := by
  obtain ⟨a, b, e, r⟩ := h
  exact ⟨a, b, by rw [upd_ne n]; exact e, r⟩
theorem draw_R {i : Nat} {tb : TE} {σ : L2.St} {H : Hp} {Q : VK} {p : Addr} {n : Int} (hi : σ[i]? = some (some (.ref p))) (hb : ∀ R : VK, R (.int n) H → tb σ H R) (h : PoolAt H p) (n0 : 0 < n) (n1 : n < 1073741824)
    (k : ∀ r H', 0 ≤ r → r < n → PoolAt H' p → Off p H H' → Q (.int r) H') : tCallR spDraw E0 (tCons (tVar i) (tCons tb tNil)) σ H Q :=
  ⟨_, hi, hb _ (draw_of (E := E0) h n0 n1 fun r H' h1 h2 h3 h4 _ => k r H' h1 h2 h3 h4)⟩
theorem dgetL {H : Hp} {d : Addr} {l : List (Int × Int)} {f : PF} (h : H d = some (.dK (kvI l))) (di : DI l f) (i : Int) : DGet H d (.int i) ((f i).map V.int) := by
  have := DGet.k (k := Sum.inl i) h
  rw [valV_kvI, di.at_] at this
  exact this
theorem lay_all {k : Nat} {ds : List PyData} (h : ∀ d ∈ ds, PyData.canLay0 d = true ∧ PyData.depth d ≤ k) : PyData.canLayAll0 ds = true ∧ PyData.depthAll ds ≤ k := by
  induction ds with
  | nil => exact ⟨rfl, Nat.zero_le _⟩
  | cons p l ih =>
    obtain ⟨h1, h2⟩ := h p List.mem_cons_self
    obtain ⟨i1, i2⟩ := ih fun d hd => h d (List.mem_cons_of_mem _ hd)
    refine ⟨?_, ?_⟩
    · show (PyData.canLay0 p && PyData.canLayAll0 l) = true
      rw [i1, h1]; rfl
    · show max (PyData.depth p) (PyData.depthAll l) ≤ k
      omega
theorem shaped_all {ds : List PyData} (h : ∀ d ∈ ds, PyData.canLay0 d = true ∧ PyData.depth d ≤ 60) : SeqAt.shaped (.list ds) = true := by
  unfold SeqAt.shaped
  have h := lay_all h
  rw [Bool.and_eq_true]
  refine ⟨h.1, decide_eq_true ?_⟩
  show PyData.depthAll ds + 1 ≤ 64
  omega
theorem PoolAt.netup {H : Hp} {p t : Addr} {xs : List V} (h : PoolAt H p) (e : H t = some (.tup xs)) : t ≠ p := fun z => by
  obtain ⟨ys, e2⟩ := h.lst
  rw [z, e2] at e; cases e
end My
namespace My
open PySem L2 U StX PM
/-! ### a map as a text -/
def small (i : Int) : Prop := i.natAbs < 1000000000
theorem sum_le {l : List Nat} {B : Nat} (h : ∀ x ∈ l, x ≤ B) : l.sum ≤ l.length * B := by
  induction l with
  | nil => exact Nat.zero_le _
  | cons a r ih =>
    rw [List.sum_cons, List.length_cons, Nat.succ_mul]
    have := ih fun x hx => h x (List.mem_cons_of_mem _ hx)
    have := h a List.mem_cons_self
    omega
end My
namespace My
open PySem L2 U StX PM
theorem nonMapV.same {H H' : Hp} {x : V} (h : nonMapV H x) (s : L2.Same H H') : nonMapV H' x := by
  cases x with
  | ref b =>
    rcases h with ⟨xs, e⟩ | ⟨xs, e⟩ | ⟨xs, e⟩
    · exact .inl ⟨_, s _ _ e⟩
    · exact .inr (.inl ⟨_, s _ _ e⟩)
    · exact .inr (.inr ⟨_, s _ _ e⟩)
  | _ => exact h
end My
namespace My
open PySem L2 U StX PM
/-! ### dict([(a, b) for x, y in d.items() if ..]) -/
theorem _root_.PySem.Paired.map {α β : Type} {R S : α → β → Prop} : ∀ {xs : List α} {ys : List β}, Paired R xs ys → (∀ x ∈ xs, ∀ y, R x y → S x y) → Paired S xs ys
  | _, _, .nil, _ => .nil
  | _, _, .cons h r, k => .cons (k _ List.mem_cons_self _ h) (PySem.Paired.map r fun x hx => k x (List.mem_cons_of_mem _ hx))
end My
namespace My
open PySem L2 U StX PM
def spPowX (C CE : Addr) : Sp := fun vs H Q E => ∃ a n f x, vs = [.ref a, x] ∧ IsMap C H a n f ∧ ((∃ e, x = .int e ∧ ∀ r H', H r = none → Same H H' → IsMap C H' r n (pw n f e) → Q (.ref r) H') ∨
  (knownV C H x ∧ isI x = false ∧ ∀ d, H d = none → E (.ref CE) (some d) (upd H d (.xd [("value", x)]))))
section
variable {P : Program} {w : World} {K : PySem.W.Frag} {mg : Str → Option Value} {base : Heap}
theorem ok_ini_InvalidNumber (T : Txt K mg) : FnR P w K mg base CX0 1 T.f_InvalidNumber__init (spIni1 T.C_InvalidNumber "value") := by
  refine T.A_InvalidNumber__init.ok sc_InvalidNumber__init (fun vs H Q E h => ?_) (fun cdv A outer s H vs Q E hr h => ?_)
  · obtain ⟨a, v, rfl, _⟩ := h
    rfl
  · obtain ⟨a, v, rfl, ha, q⟩ := h
    refine ⟨_, pss_one (ps_ostG (pv 0) (pv 1)), ?_⟩
    exact ⟨_, rfl, _, rfl, a, T.C_InvalidNumber, rfl, T.x_InvalidNumber, T.na_value_InvalidNumber, .inl ⟨ha, fun dx h1 h2 => q dx h1 h2⟩⟩
theorem okX_power (T : Txt K mg) : FnR P w K mg base (L2.CX P w) 7 T.f_Map_power (spPowX T.C_Map T.C_InvalidNumber) := by
  refine T.A_Map_power.okX sc_Map_power (fun vs H Q E h => ?_) (fun cdv A outer s H vs Q E hr h => ?_)
  · obtain ⟨a, n, f, x, rfl, _⟩ := h
    rfl
  · obtain ⟨a, n, f, x, rfl, ha, hx⟩ := h
    have hu := hu_of hr
    refine ⟨_, pss_cons (ps_if (pt_not (pt_val (pe_callR (ok_is_integer T) (hr.mono (by decide)) T.A_is_integer.kp rfl T.g_is_integer pass0 (pa_cons (pv 1) pa_nil)))) (pss_one (ps_raise rfl (takes_of rfl rfl rfl rfl) (pmk_oexG T.x_InvalidNumber T.m_InvalidNumber__init T.ti_InvalidNumber__init (ok_ini_InvalidNumber T) (hr.mono (by decide)) pass0 rfl T.g_InvalidNumber (pa_cons (pv 1) pa_nil)))) pss_nil)
      (pss_cons (ps_set (i := 2) sc_Map_power.nd rfl (Or.inl rfl) (pe_fld (pv 0) rfl))
      (pss_cons (ps_if (pt_cmpR op_lt (pv 1) pe_int (nomark _)) (pss_one (ps_lock (ps_setDc (i := 2) (own := [("source", 3), ("target", 4)]) (g := gTup K 2 (gCons (gName 3) (gCons (gName 4) gNil))) (tt := tYes) rfl sc_Map_power.nd rfl rfl (sw_dict rfl rfl rfl (by decide +kernel)) (pi_items (pe_fld (pv 0) rfl))
        (blkOk_by (own := [("source", 3), ("target", 4)]) (N := n_Map_power) (sc := defScope s_Map_power) (by decide +kernel))
        (fun _ _ _ _ _ => pg_tup rfl (pgs_cons (pg_name (i := 3) sc_Map_power.nd rfl (Or.inl rfl)) (pgs_cons (pg_name (i := 4) sc_Map_power.nd rfl (Or.inl rfl)) pgs_nil)))
        (fun _ _ _ _ _ => pts_nil) (fun _ _ _ _ _ => pv 4) (fun _ _ _ _ _ => pv 3)))) pss_nil)
      (pss_cons (ps_if (pt_cmpR op_eq (pv 1) pe_int (nomark _)) (pss_one (ps_ret (ClX.pe_cmeth (pe_glob (v := .ref T.C_Map) rfl T.g_Map rfl) T.R_Map T.cm_Map_identity (ok_identity T) hr pass0 (pa_cons (pe_fld (pv 0) rfl) pa_nil)))) pss_nil)
      (pss_one (ps_ret (pe_makeR T.M_Map (ok_init T) (hr.mono (by decide)) rfl T.g_Map pass0 (pa_cons (pe_fld (pv 0) rfl) (pa_cons (pe_callR (ok_moved T) (hr.mono (by decide)) T.A_moved.kp rfl T.g_moved pass0 (pa_cons (pv 2) (pa_cons (pe_callB call_abs (by rfl) T.n_abs (by decide +kernel) (pa_cons (pv 1) pa_nil)) pa_nil))) pa_nil)))))))), ?_⟩
    obtain ⟨dx, D, h1, h2⟩ := id ha.ob
    have h9 := ha.hi
    have ht := tab_len n f
    rcases hx with ⟨e, rfl, q⟩ | ⟨hk, hi, qx⟩
    rotate_left
    · refine ⟨_, rfl, x, rfl, hk, _, rfl, ?_⟩
      rw [hi]
      exact iteT ⟨_, rfl, mk_one fun d hd => qx d hd⟩
    refine ⟨_, rfl, .int e, rfl, trivial, _, rfl, iteF ?_⟩
    refine ⟨_, rfl, a, _, dx, _, _, rfl, h1, T.o_Map.cl, T.na_own_arrows_Map, flds_arrows _ _, ?_⟩
    refine ⟨_, rfl, _, _, rfl, rfl, _, rfl, ?_⟩
    refine ifD (fun hneg => ?_) (fun hpos => ?_)
    · refine lock_asg ?_
      refine dc_items (fun _ _ => true) (fun _ y => y) (fun x _ => .int x) h2 (fun H' R r o => ?_) (fun _ _ => rfl) ?_ ?_ ?_ ?_
      · refine ⟨_, rfl, a, _, dx, _, _, rfl, o _ _ (ne_of h1 h2 (by intro z; cases z)) h1, T.o_Map.cl, T.na_own_arrows_Map, flds_arrows _ _, r⟩
      · intro x y hxy H1 o
        exact ⟨fun R r => r, fun _ => ⟨fun R r => ⟨_, rfl, r⟩, fun R r => ⟨_, rfl, r⟩⟩⟩
      · rw [madeD_I, kvI_keys]
        exact nd_inl (nd_tgt (vals_tab ha.wf))
      · exact small1000 (Nat.le_trans (tab_len n f) (by omega))
      · intro D2 H2 nD2 hD2 s2
        rw [madeD_I] at hD2
        refine ⟨_, rfl, rfl, _, rfl, ?_⟩
        refine ifD (fun h0 => ?_) (fun _ => ?_)
        · have : e = 0 := V.int.inj h0
          omega
        refine ⟨_, rfl, a, _, dx, _, _, rfl, s2 _ _ h1, T.o_Map.cl, T.na_own_size_Map, flds_size _ _, ?_⟩
        have ek : (if e < 0 then -e else e) = ((e.natAbs - 1 + 1 : Nat) : Int) := by rw [if_pos hneg]; omega
        refine ⟨_, rfl, _, rfl, _, rfl, ?_⟩
        rw [ek]
        refine ⟨D2, _, n, _, _, rfl, hD2, inv_di ha.wf, wf_inv ha.wf, ha.hi, Nat.le_trans (madeI_len ..) (by omega), fun r3 H3 l3 n3 s3 hr3 di3 hl3 => ?_⟩
        have ei : pw n f e = iter (inv n f) (e.natAbs - 1 + 1) := by
          unfold pw
          rw [if_neg (by omega), if_pos hneg, show e.natAbs - 1 + 1 = e.natAbs by omega]
        refine mk_map hr3 di3 (wf_iter (wf_inv ha.wf) _) ha.lo ha.hi (by omega) fun r H5 nr s5 hm => ?_
        rw [← ei] at hm
        exact q r H5 ((s2.trans s3).free nr) ((s2.trans s3).trans s5) hm
    · refine ⟨_, rfl, rfl, _, rfl, ?_⟩
      refine ifD (fun h0 => ?_) (fun hne => ?_)
      · have e0 : e = 0 := V.int.inj h0
        refine ⟨rfl, _, rfl, a, _, dx, _, _, rfl, h1, T.o_Map.cl, T.na_own_size_Map, flds_size _ _, n, rfl, ha.lo, ha.hi, fun r H' nr s1 hm => ?_⟩
        refine q r H' nr s1 ?_
        unfold pw
        rw [if_pos e0]
        exact hm
      · have hne' : e ≠ 0 := fun z => hne (congrArg V.int z)
        refine ⟨_, rfl, a, _, dx, _, _, rfl, h1, T.o_Map.cl, T.na_own_size_Map, flds_size _ _, ?_⟩
        have ek : (if e < 0 then -e else e) = ((e.natAbs - 1 + 1 : Nat) : Int) := by rw [if_neg hpos]; omega
        refine ⟨_, rfl, _, rfl, _, rfl, ?_⟩
        rw [ek]
        refine ⟨D, _, n, _, _, rfl, h2, di_tab ha.wf, ha.wf, ha.hi, by omega, fun r3 H3 l3 n3 s3 hr3 di3 hl3 => ?_⟩
        have ei : pw n f e = iter f (e.natAbs - 1 + 1) := by
          unfold pw
          rw [if_neg hne', if_neg hpos, show e.natAbs - 1 + 1 = e.natAbs by omega]
        refine mk_map hr3 di3 (wf_iter ha.wf _) ha.lo ha.hi (by omega) fun r H5 nr s5 hm => ?_
        rw [← ei] at hm
        exact q r H5 (s3.free nr) (s3.trans s5) hm
/-! ### repr while an exception is handled -/
/-! ### what repr says of a value -/
end
end My
namespace My
open PySem L2 U StX PM
/-! ### texts of plain signs -/
def OkS (x : Str) : Prop := PyData.strOk x = true
end My
local macro_rules | `(tactic| array_get_dec) => `(tactic| first | assumption | exact L2.upd_same | (refine U.carryNew (by assumption) ?_; array_get_dec) | (refine U.carry (by assumption) ?_; array_get_dec))
local macro_rules | `(tactic| array_mem_dec) => `(tactic| first | exact L2.Same.refl _ | assumption | (refine U.sameUp (by assumption) ?_; array_mem_dec) | (refine U.sameVia (by assumption) ?_; array_mem_dec))
local macro_rules | `(tactic| sizeOf_list_dec) => `(tactic| first | assumption | (refine U.freeVia (by assumption) ?_; sizeOf_list_dec) | (refine U.freeUp (o := _) (q := _) ?_; assumption))
local macro_rules | `(tactic| deriving_LawfulEq_tactic_step) => `(tactic| first | exact rfl | exact U.nil_le | exact U.one_le | exact U.two_le | exact U.three_le | exact L2.SqL.of (by array_get_dec) | exact L2.SqT.of (by array_get_dec) | exact ⟨_, L2.SqL.of (by array_get_dec)⟩ | exact ⟨_, L2.SqT.of (by array_get_dec)⟩ | exact Or.inl (by array_get_dec) | array_get_dec)
local macro_rules | `(tactic| and_intros) => `(tactic| repeat (first | refine And.intro (by deriving_LawfulEq_tactic_step) ?_ | (apply Exists.intro; refine And.intro (by deriving_LawfulEq_tactic_step) ?_) | (apply Exists.intro; apply Exists.intro; refine And.intro (by deriving_LawfulEq_tactic_step) ?_) | (apply Exists.intro; apply Exists.intro; apply Exists.intro; refine And.intro (by deriving_LawfulEq_tactic_step) ?_) | (apply Exists.intro; apply Exists.intro; apply Exists.intro; apply Exists.intro; refine And.intro (by deriving_LawfulEq_tactic_step) ?_)))
namespace My
open PySem L2 U StX PM
/-! ### several maps -/
def MapsAt (C : Addr) (H : Hp) (n : Int) (xs : List V) (fs : List PF) : Prop := Paired (fun v f => ∃ a, v = V.ref a ∧ IsMap C H a n f) xs fs
theorem MapsAt.same {C : Addr} {H H' : Hp} {n : Int} {xs : List V} {fs : List PF} (h : MapsAt C H n xs fs) (s : Same H H') : MapsAt C H' n xs fs := PySem.Paired.map h fun v _ f ⟨a, e, m⟩ => ⟨a, e, m.same s⟩
theorem MapsAt.get {C : Addr} {H : Hp} {n : Int} {xs : List V} {fs : List PF} (h : MapsAt C H n xs fs) {i : Nat} {v : V} (e : xs[i]? = some v) : ∃ a f, v = .ref a ∧ fs[i]? = some f ∧ IsMap C H a n f := by
  obtain ⟨f, e2, a, e3, m⟩ := paired_at h e
  exact ⟨a, f, e3, e2, m⟩
end My
namespace My
open PySem L2 U StX PM
section
variable {P : Program} {w : World} {K : PySem.W.Frag} {mg : Str → Option Value} {base : Heap}
theorem ok_ini_InvalidElement (T : Txt K mg) : FnR P w K mg base CX0 1 T.f_InvalidElement__init (spIni1 T.C_InvalidElement "value") := by
  refine T.A_InvalidElement__init.ok sc_InvalidElement__init (fun vs H Q E h => ?_) (fun cdv A outer s H vs Q E hr h => ?_)
  · obtain ⟨a, v, rfl, _⟩ := h
    rfl
  · obtain ⟨a, v, rfl, ha, q⟩ := h
    refine ⟨_, pss_one (ps_ostG (pv 0) (pv 1)), ?_⟩
    exact ⟨_, rfl, _, rfl, a, T.C_InvalidElement, rfl, T.x_InvalidElement, T.na_value_InvalidElement, .inl ⟨ha, fun dx h1 h2 => q dx h1 h2⟩⟩
def spChkE (C CE : Addr) : Sp := fun vs H Q E => ∃ (n : Int) (l : Addr) (x : V), vs = [.int n, .ref l] ∧ H l = some (.lst [x]) ∧ knownV C H x ∧
  ((inR x 0 (n - 1) = true ∧ ∀ H', Same H H' → Q .non H') ∨ (inR x 0 (n - 1) = false ∧ ∀ H', Same H H' → ∀ d, H' d = none → E (.ref CE) (some d) (upd H' d (.xd [("value", x)]))))
theorem okX_check_elements (T : Txt K mg) : FnR P w K mg base (L2.CX P w) 4 T.f_check_elements (spChkE T.C_Map T.C_InvalidElement) := by
  refine T.A_check_elements.okX sc_check_elements (fun vs H Q E h => ?_) (fun cdv A outer s H vs Q E hr h => ?_)
  · obtain ⟨n, l, x, rfl, _⟩ := h
    rfl
  · obtain ⟨n, l, x, rfl, hl, hk, h⟩ := h
    have hu := hu_of hr
    refine ⟨_, (pss_cons (ps_set (i := 2) sc_check_elements.nd rfl (Or.inl rfl) pe_dnewK)
      (pss_one (ps_for (passes_of rfl) rfl (pi_list (pv 1)) (pg_name (i := 3) sc_check_elements.nd rfl (Or.inl rfl))
        (pss_cons (ps_if (PW.pt (pw_or (pt_not (pt_val (pe_callR (ok_in_range T) (hr.mono (by decide)) T.A_in_range.kp rfl T.g_in_range pass0 (pa_cons (pv 3) (pa_cons pe_int (pa_cons (pe_op op_sub (pv 0) pe_int) pa_nil)))))) (pw_or1 (pt_cmp (pc_din hu (pv 3) (pv 2))))))
        (pss_one (ps_raise rfl (takes_of rfl rfl rfl rfl) (pmk_oexG T.x_InvalidElement T.m_InvalidElement__init T.ti_InvalidElement__init (ok_ini_InvalidElement T) (hr.mono (by decide)) pass0 rfl T.g_InvalidElement (pa_cons (pv 3) pa_nil)))) pss_nil)
      (pss_one (ps_dput hu (pv 2) (pv 3) pe_bl rfl)))))), ?_⟩
    refine fun se n_se => ?_
    generalize g_se : L2.upd _ se _ = H1
    obtain ⟨s_H1, e_se⟩ := U.upd_facts g_se n_se
    clear g_se
    have hl1 := s_H1 _ _ hl
    refine ⟨_, rfl, l, rfl, ⟨_, SqL.of hl1⟩, ?_⟩
    refine for_it (walk_list (xs := [x])) (fun i σ H' => ∃ v3, σ = [some (.int n), some (.ref l), some (.ref se), v3] ∧ Same H H' ∧ (i = 0 → H' = H1) ∧ (i = 1 → inR x 0 (n - 1) = true)) ⟨_, rfl, s_H1, fun _ => rfl, fun z => nomatch z⟩ (fun i σ H' _ ⟨_, _, z, _⟩ => SqL.of (z _ _ hl)) ?_ ?_
    · rintro i v σ H0 H' hi ⟨v3, rfl, sh, h0, _⟩ ⟨rfl, ev⟩
      have i0 : i = 0 := by simp at hi; exact hi
      subst i0
      cases ev
      cases h0 rfl
      refine ⟨_, rfl, _, rfl, _, _, rfl, rfl, x, 0, n - 1, rfl, ?_, _, rfl, ?_⟩
      · cases x with
        | ref a =>
          rcases hk with ⟨xs, e⟩ | ⟨xs, e⟩ | ⟨xs, e⟩ | ⟨dx, fs, e⟩
          · exact .inl ⟨_, s_H1 _ _ e⟩
          · exact .inr (.inl ⟨_, s_H1 _ _ e⟩)
          · exact .inr (.inr (.inl ⟨_, s_H1 _ _ e⟩))
          · exact .inr (.inr (.inr ⟨_, _, s_H1 _ _ e⟩))
        | _ => exact hk
      rcases h with ⟨hr1, q⟩ | ⟨hr1, q⟩
      · rw [hr1]
        refine iteF ?_
        obtain ⟨i, rfl⟩ : ∃ i, x = .int i := by cases x <;> first | exact ⟨_, rfl⟩ | cases hr1
        refine ⟨_, rfl, _, rfl, se, _, rfl, dgetI (l := []) (f := emp) e_se ⟨List.Pairwise.nil, fun _ => rfl⟩ i, _, rfl, iteF ?_⟩
        exact ⟨_, rfl, _, rfl, se, _, rfl, .k (k := Sum.inl i) e_se (by show 0 < sizeLine; decide), _, rfl, Same.put s_H1 n_se, (fun z => nomatch z), (fun _ => rfl)⟩
      · rw [hr1]
        exact iteT (iteT ⟨_, rfl, mk_one fun d hd => q _ s_H1 d hd⟩)
    · rintro σ H' ⟨v3, rfl, sh, _, h1⟩
      rcases h with ⟨_, q⟩ | ⟨hr1, _⟩
      · exact q _ sh
      · rw [h1 rfl] at hr1
        cases hr1
noncomputable def fateV (f : PF) (e : Int) : V := if clo f e then .non else .int (((rowN f e).length : Int) - 1)
def spFate (C CM CE : Addr) : Sp := fun vs H Q E => ∃ x e, vs = [x, e] ∧ ((nonMapV H x ∧ ∀ d, H d = none → E (.ref CM) (some d) (upd H d (.xd [("part", .str "map")]))) ∨
  ∃ a n f, x = .ref a ∧ IsMap C H a n f ∧ knownV C H e ∧ ((inR e 0 (n - 1) = false ∧ ∀ H', Same H H' → ∀ d, H' d = none → E (.ref CE) (some d) (upd H' d (.xd [("value", e)]))) ∨
    (∃ i, e = .int i ∧ 0 ≤ i ∧ i < n ∧ ∀ H', Same H H' → Q (fateV f i) H')))
theorem okX_fate (T : Txt K mg) : FnR P w K mg base (L2.CX P w) 7 T.f_fate (spFate T.C_Map T.C_InvalidMap T.C_InvalidElement) := by
  refine T.A_fate.okX sc_fate (fun vs H Q E h => ?_) (fun cdv A outer s H vs Q E hr h => ?_)
  · obtain ⟨x, e, rfl, _⟩ := h
    rfl
  · obtain ⟨x, e, rfl, h⟩ := h
    have hu := hu_of hr
    refine ⟨_, (pss_cons (ps_expr (pe_callR (ok_check_map T) (hr.mono (by decide)) T.A_check_map.kp rfl T.g_check_map (passes_call (takes_of rfl rfl rfl rfl) (fun _ _ _ _ h => h)) (pa_cons (pv 0) pa_nil)))
      (pss_cons (ps_expr (pe_callR (okX_check_elements T) (hr.mono (by decide)) T.A_check_elements.kp rfl T.g_check_elements (passes_call (takes_of rfl rfl rfl rfl) (fun _ _ _ _ h => h)) (pa_cons (pe_propR (pv 0) T.o_Map.cl T.P_Map_size (ok_size T) (hr.mono (by decide))) (pa_cons (pe_lst (pa_cons (pv 1) pa_nil)) pa_nil))))
      (pss_cons (ps_set (i := 2) sc_fate.nd rfl (Or.inl rfl) (pe_propR (pv 0) T.o_Map.cl T.P_Map_arrows (ok_arrows T) (hr.mono (by decide))))
      (pss_cons (ps_set (i := 3) sc_fate.nd rfl (Or.inl rfl) (pe_callR (ok_row_from T) (hr.mono (by decide)) T.A_row_from.kp rfl T.g_row_from pass0 (pa_cons (pv 2) (pa_cons (pv 1) pa_nil))))
      (pss_one (ps_ret (pe_ifExp (pt_cmp (pc_din hu (pe_ix ix_list (pv 3) (pe_un un_neg pe_int) (fun _ _ => rfl)) (pv 2))) pe_non (pe_op op_sub (pe_callB call_len_seq (by rfl) T.n_len (by decide +kernel) (pa_cons (pv 3) pa_nil)) pe_int)))))))), ?_⟩
    rcases h with ⟨hx, q⟩ | ⟨a, n, f, rfl, hm, hk, h⟩
    · exact ⟨_, rfl, _, rfl, .inr ⟨hx, q⟩⟩
    refine ⟨_, rfl, _, rfl, .inl ⟨a, n, f, rfl, hm, ?_⟩⟩
    obtain ⟨dx, fs, em⟩ := at_map hm
    refine ⟨_, rfl, a, dx, fs, rfl, em, a, n, f, rfl, hm, _, rfl, one_le, ?_⟩
    refine fun l1 n_l1 => ?_
    generalize g_l1 : L2.upd _ l1 _ = H1
    obtain ⟨s_H1, e_l1⟩ := U.upd_facts g_l1 n_l1
    clear g_l1
    have kn : knownV T.C_Map H1 e := by
      cases e with
      | ref a =>
        rcases hk with ⟨xs, e⟩ | ⟨xs, e⟩ | ⟨xs, e⟩ | ⟨dx, fs, e⟩
        · exact .inl ⟨_, s_H1 _ _ e⟩
        · exact .inr (.inl ⟨_, s_H1 _ _ e⟩)
        · exact .inr (.inr (.inl ⟨_, s_H1 _ _ e⟩))
        · exact .inr (.inr (.inr ⟨_, _, s_H1 _ _ e⟩))
      | _ => exact hk
    refine ⟨n, l1, e, rfl, e_l1, kn, ?_⟩
    rcases h with ⟨hr1, q⟩ | ⟨i, rfl, i0, i1, q⟩
    · exact .inr ⟨hr1, fun H' s' d nd => q H' (s_H1.trans s') d nd⟩
    refine .inl ⟨by simp only [inR, Bool.and_eq_true, decide_eq_true_eq]; omega, fun H2 s2 => ?_⟩
    have hm2 := (hm.same s_H1).same s2
    obtain ⟨dy, fy, em2⟩ := at_map hm2
    refine ⟨_, rfl, a, dy, fy, rfl, em2, a, n, f, rfl, hm2, ?_⟩
    refine fun p np => ?_
    refine ⟨_, rfl, _, rfl, p, _, n, f, i, rfl, upd_same, di_tab hm2.wf, hm2.wf, hm2.hi, i0, i1, fun r H3 pre z nr s3 er R st => ?_⟩
    have ep := s3 _ _ (upd_same (H := H2) (a := p) (o := .dK (kvI (tab n f))))
    refine ⟨_, rfl, 1, rfl, r, _, -1, .int z, rfl, rfl, SqL.of er, lastI _ _, _, rfl, p, _, rfl, dgetI ep (di_tab hm2.wf) z, _, rfl, ?_⟩
    have row : IsRow f i (pre ++ [z]) := ⟨pre, z, rfl, R, st⟩
    have fin := q H3 (((s_H1.trans s2).trans (Same.new np)).trans s3)
    unfold fateV at fin
    rw [clo_eq row, rowN_eq row] at fin
    rcases st with st | st
    · rw [st] at fin ⊢
      refine iteF ⟨_, rfl, r, _, rfl, .inl (SqL.of er), _, _, rfl, rfl, ?_⟩
      rw [List.length_map]
      exact fin
    · rw [st] at fin ⊢
      exact iteT fin
end
end My
namespace My
open PM
/-! ### maps made of blocks, one behind the other -/
abbrev Blk := Bool × Nat × Nat
def tot (bs : List (Bool × Nat)) : Nat := (bs.map (·.2)).sum
def strt : Nat → List (Bool × Nat) → List Blk
  | _, [] => []
  | s, (c, L) :: r => (c, s, L) :: strt (s + L) r
def inB (x : Int) (b : Blk) : Bool := decide ((b.2.1 : Int) ≤ x) && decide (x < (b.2.1 : Int) + (b.2.2 : Int))
def nxt (b : Blk) (x : Int) : Option Int := if x + 1 < (b.2.1 : Int) + (b.2.2 : Int) then some (x + 1) else if b.1 then some (b.2.1 : Int) else none
def bmap (bs : List (Bool × Nat)) : PF := fun x => ((strt 0 bs).find? (inB x)).bind fun b => nxt b x
theorem inB_iff {x : Int} {b : Blk} : inB x b = true ↔ (b.2.1 : Int) ≤ x ∧ x < (b.2.1 : Int) + (b.2.2 : Int) := by
  unfold inB
  rw [Bool.and_eq_true, decide_eq_true_eq, decide_eq_true_eq]
theorem tot_cons (c : Bool) (L : Nat) (r : List (Bool × Nat)) : tot ((c, L) :: r) = L + tot r := by simp [tot]
theorem strt_rng : ∀ {bs : List (Bool × Nat)} {s : Nat} {b : Blk}, b ∈ strt s bs → s ≤ b.2.1 ∧ b.2.1 + b.2.2 ≤ s + tot bs
  | [], _, _, h => nomatch h
  | (c, L) :: r, s, b, h => by
    rw [tot_cons]
    rcases List.mem_cons.mp h with rfl | h
    · exact ⟨Nat.le_refl _, by show s + L ≤ _; omega⟩
    · have := strt_rng h
      omega
theorem strt_mem : ∀ {bs : List (Bool × Nat)} {s : Nat} {b : Blk}, b ∈ strt s bs → (b.1, b.2.2) ∈ bs
  | [], _, _, h => nomatch h
  | (c, L) :: r, s, b, h => by
    rcases List.mem_cons.mp h with rfl | h
    · exact List.mem_cons_self
    · exact List.mem_cons_of_mem _ (strt_mem h)
theorem strt_ex : ∀ {bs : List (Bool × Nat)} {s : Nat} {x : Int}, (s : Int) ≤ x → x < (s : Int) + (tot bs : Nat) → ∃ b ∈ strt s bs, inB x b = true
  | [], s, x, h1, h2 => by simp [tot] at h2; omega
  | (c, L) :: r, s, x, h1, h2 => by
    rw [tot_cons] at h2
    by_cases h : x < (s : Int) + (L : Int)
    · exact ⟨(c, s, L), List.mem_cons_self, inB_iff.mpr ⟨h1, h⟩⟩
    · obtain ⟨b, hb, hi⟩ := strt_ex (bs := r) (s := s + L) (x := x) (by omega) (by omega)
      exact ⟨b, List.mem_cons_of_mem _ hb, hi⟩
theorem strt_uniq : ∀ {bs : List (Bool × Nat)} {s : Nat} {b b' : Blk} {x : Int}, b ∈ strt s bs → b' ∈ strt s bs → inB x b = true → inB x b' = true → b = b'
  | [], _, _, _, _, h, _, _, _ => nomatch h
  | (c, L) :: r, s, b, b', x, h, h', i, i' => by
    rw [inB_iff] at i i'
    rcases List.mem_cons.mp h with rfl | h
    · rcases List.mem_cons.mp h' with rfl | h'
      · rfl
      · have := strt_rng h'
        dsimp only at i
        omega
    · rcases List.mem_cons.mp h' with rfl | h'
      · have := strt_rng h
        dsimp only at i'
        omega
      · exact strt_uniq h h' (inB_iff.mpr i) (inB_iff.mpr i')
theorem bmap_in {bs : List (Bool × Nat)} {b : Blk} {x : Int} (h : b ∈ strt 0 bs) (i : inB x b = true) : bmap bs x = nxt b x := by
  unfold bmap
  cases e : (strt 0 bs).find? (inB x) with
  | none => exact absurd i (by simpa using List.find?_eq_none.mp e b h)
  | some b' =>
    have h1 := List.find?_some e
    have h2 := List.mem_of_find?_eq_some e
    rw [strt_uniq h2 h h1 i]
    rfl
theorem nxt_in {b : Blk} {x y : Int} (i : inB x b = true) (h : nxt b x = some y) : inB y b = true := by
  rw [inB_iff] at i ⊢
  unfold nxt at h
  by_cases h1 : x + 1 < (b.2.1 : Int) + (b.2.2 : Int)
  · rw [if_pos h1] at h
    cases h
    omega
  · rw [if_neg h1] at h
    cases hc : b.1 with
    | false => rw [hc] at h; cases h
    | true =>
      rw [hc] at h
      cases h
      omega
theorem bmap_blk {bs : List (Bool × Nat)} {x y : Int} (h : bmap bs x = some y) : ∃ b ∈ strt 0 bs, inB x b = true ∧ inB y b = true ∧ nxt b x = some y := by
  unfold bmap at h
  cases e : (strt 0 bs).find? (inB x) with
  | none => rw [e] at h; cases h
  | some b =>
    rw [e] at h
    have i := List.find?_some e
    exact ⟨b, List.mem_of_find?_eq_some e, i, nxt_in i h, h⟩
theorem wf_bmap (bs : List (Bool × Nat)) {n : Int} (hn : n = (tot bs : Nat)) : WF n (bmap bs) := by
  subst hn
  refine ⟨fun x y h => ?_, fun x x' y h h' => ?_⟩
  · obtain ⟨b, hb, i, j, _⟩ := bmap_blk h
    have := strt_rng hb
    rw [inB_iff] at i j
    omega
  · obtain ⟨b, hb, i, j, e⟩ := bmap_blk h
    obtain ⟨b', hb', i', j', e'⟩ := bmap_blk h'
    have := strt_uniq hb hb' j j'
    subst this
    rw [inB_iff] at i i'
    unfold nxt at e e'
    by_cases h1 : x + 1 < (b.2.1 : Int) + (b.2.2 : Int)
    · rw [if_pos h1] at e
      cases e
      by_cases h2 : x' + 1 < (b.2.1 : Int) + (b.2.2 : Int)
      · rw [if_pos h2] at e'
        have := Option.some.inj e'
        omega
      · rw [if_neg h2] at e'
        cases hc : b.1 with
        | false => rw [hc] at e'; cases e'
        | true =>
          rw [hc, if_pos rfl] at e'
          have := Option.some.inj e'
          omega
    · rw [if_neg h1] at e
      cases hc : b.1 with
      | false => rw [hc] at e; cases e
      | true =>
        rw [hc, if_pos rfl] at e
        have e := Option.some.inj e
        by_cases h2 : x' + 1 < (b.2.1 : Int) + (b.2.2 : Int)
        · rw [if_pos h2] at e'
          have := Option.some.inj e'
          omega
        · omega
/-! ### its rows -/
def ivl (s L : Nat) : List Int := (List.range L).map fun i : Nat => ((s + i : Nat) : Int)
theorem ivl_get {s L i : Nat} {a : Int} : (ivl s L)[i]? = some a ↔ i < L ∧ a = ((s + i : Nat) : Int) := by
  unfold ivl
  rw [List.getElem?_map]
  by_cases h : i < L
  · rw [List.getElem?_range h]
    constructor
    · intro e
      cases e
      exact ⟨h, rfl⟩
    · rintro ⟨_, rfl⟩
      rfl
  · rw [List.getElem?_eq_none (by rw [List.length_range]; omega)]
    constructor
    · intro e; cases e
    · rintro ⟨h', _⟩; exact absurd h' h
theorem ivl_len (s L : Nat) : (ivl s L).length = L := by simp [ivl]
theorem row_blk {bs : List (Bool × Nat)} {b : Blk} (hb : b ∈ strt 0 bs) (hL : 1 ≤ b.2.2) : IsRow (bmap bs) (b.2.1 : Int) (ivl b.2.1 b.2.2) := by
  obtain ⟨c, s, L⟩ := b
  dsimp only at hL ⊢
  refine ⟨ivl s (L - 1), ((s + (L - 1) : Nat) : Int), ?_, ⟨ivl_get.mpr ⟨hL, by simp⟩, fun i a b h1 h2 => ?_⟩, ?_⟩
  · unfold ivl
    rw [show L = (L - 1) + 1 by omega, List.range_succ, List.map_append]
    simp
  · obtain ⟨g1, rfl⟩ := ivl_get.mp h1
    obtain ⟨g2, rfl⟩ := ivl_get.mp h2
    refine ⟨?_, by omega⟩
    rw [bmap_in hb (inB_iff.mpr ⟨by show (s : Int) ≤ _; omega, by show _ < (s : Int) + (L : Int); omega⟩)]
    unfold nxt
    rw [if_pos (by show _ < (s : Int) + (L : Int); omega)]
    congr 1
  · rw [bmap_in hb (inB_iff.mpr ⟨by show (s : Int) ≤ _; omega, by show _ < (s : Int) + (L : Int); omega⟩)]
    unfold nxt
    rw [if_neg (by show ¬ (_ < (s : Int) + (L : Int)); omega)]
    cases c with
    | true => exact .inr rfl
    | false => exact .inl rfl
theorem iter_blk {bs : List (Bool × Nat)} {b : Blk} (hb : b ∈ strt 0 bs) {e : Int} {r : List Int} (R : Row (bmap bs) e r) (he : inB e b = true) : ∀ (i : Nat) (a : Int), r[i]? = some a → inB a b = true
  | 0, a, h => by
    rw [R.h0] at h
    cases h
    exact he
  | i + 1, a, h => by
    have l1 : i + 1 < r.length := (List.getElem?_eq_some_iff.mp h).1
    obtain ⟨c, hc⟩ : ∃ c, r[i]? = some c := ⟨_, List.getElem?_eq_getElem (by omega)⟩
    have ic := iter_blk hb R he i c hc
    have := (R.st i c a hc h).1
    rw [bmap_in hb ic] at this
    exact nxt_in ic this
theorem rowN_in {bs : List (Bool × Nat)} {b : Blk} (hb : b ∈ strt 0 bs) {e x : Int} (he : inB e b = true) (h : x ∈ rowN (bmap bs) e) : inB x b = true := by
  have r0 := strt_rng hb
  have w := wf_bmap bs rfl
  rw [inB_iff] at he
  have R := rowN_is w (e := e) (by omega) (by omega)
  obtain ⟨pre, z, eq, R', _⟩ := R
  obtain ⟨i, hi⟩ := List.mem_iff_getElem?.mp h
  exact iter_blk hb R' (inB_iff.mpr he) i x hi
theorem asc_eq : ∀ {l m : List Int}, l.Pairwise (· < ·) → m.Pairwise (· < ·) → (∀ x, x ∈ l ↔ x ∈ m) → l = m
  | [], [], _, _, _ => rfl
  | [], b :: m, _, _, h => absurd ((h b).mpr List.mem_cons_self) (by simp)
  | a :: l, [], _, _, h => absurd ((h a).mp List.mem_cons_self) (by simp)
  | a :: l, b :: m, h1, h2, h => by
    rw [List.pairwise_cons] at h1 h2
    have e : a = b := by
      have ha := (h a).mp List.mem_cons_self
      have hb := (h b).mpr List.mem_cons_self
      rcases List.mem_cons.mp ha with ha | ha
      · exact ha
      · rcases List.mem_cons.mp hb with hb | hb
        · exact hb.symm
        · have := h1.1 _ hb
          have := h2.1 _ ha
          omega
    subst e
    rw [asc_eq h1.2 h2.2 fun x => ?_]
    constructor
    · intro hx
      rcases List.mem_cons.mp ((h x).mp (List.mem_cons_of_mem _ hx)) with e | e
      · have := h1.1 _ hx; omega
      · exact e
    · intro hx
      rcases List.mem_cons.mp ((h x).mpr (List.mem_cons_of_mem _ hx)) with e | e
      · have := h2.1 _ hx; omega
      · exact e
theorem strt_asc : ∀ {bs : List (Bool × Nat)} {s : Nat}, (∀ p ∈ bs, 1 ≤ p.2) → (strt s bs).Pairwise fun a b => a.2.1 < b.2.1
  | [], _, _ => .nil
  | (c, L) :: r, s, h => by
    refine .cons (fun b hb => ?_) (strt_asc fun p hp => h p (List.mem_cons_of_mem _ hp))
    have := strt_rng hb
    have := h (c, L) List.mem_cons_self
    show s < b.2.1
    dsimp only at *
    omega
def stO (bs : List (Bool × Nat)) (c : Bool) : List Int := ((strt 0 bs).filter fun b => b.1 == c).map fun b => (b.2.1 : Int)
theorem stO_asc {bs : List (Bool × Nat)} (h : ∀ p ∈ bs, 1 ≤ p.2) (c : Bool) : (stO bs c).Pairwise (· < ·) := by
  unfold stO
  rw [List.pairwise_map]
  exact ((strt_asc h).sublist List.filter_sublist).imp fun {a b} h => by omega
theorem stO_mem {bs : List (Bool × Nat)} {c : Bool} {e : Int} : e ∈ stO bs c ↔ ∃ s L, (c, s, L) ∈ strt 0 bs ∧ e = (s : Nat) := by
  unfold stO
  rw [List.mem_map]
  constructor
  · rintro ⟨⟨c', s, L⟩, hb, rfl⟩
    rw [List.mem_filter] at hb
    have : c' = c := by simpa using hb.2
    subst this
    exact ⟨s, L, hb.1, rfl⟩
  · rintro ⟨s, L, hb, rfl⟩
    exact ⟨(c, s, L), List.mem_filter.mpr ⟨hb, by simp⟩, rfl⟩
theorem nons_blk {bs : List (Bool × Nat)} (h : ∀ p ∈ bs, 1 ≤ p.2) {n : Int} (hn : n = (tot bs : Nat)) : nons n (bmap bs) = stO bs false := by
  have w := wf_bmap bs hn
  refine asc_eq (nons_lt n _) (stO_asc h false) fun e => ?_
  rw [stO_mem]
  constructor
  · intro he
    obtain ⟨h1, h2, h3⟩ := nons_dom he
    rw [nonT_iff w] at h3
    obtain ⟨⟨c, s, L⟩, hb, i⟩ := strt_ex (bs := bs) (s := 0) (x := e) (by omega) (by omega)
    have i' := inB_iff.mp i
    dsimp only at i'
    have hes : e = (s : Int) := Classical.byContradiction fun hne => by
      have i2 : inB (e - 1) (c, s, L) = true := inB_iff.mpr ⟨by dsimp only; omega, by dsimp only; omega⟩
      refine h3 (e - 1) ?_
      rw [bmap_in hb i2]
      unfold nxt
      rw [if_pos (by dsimp only; omega)]
      congr 1
      omega
    cases c with
    | false => exact ⟨s, L, hb, hes⟩
    | true =>
      have hL := h _ (strt_mem hb)
      dsimp only at hL
      have i2 : inB ((s : Int) + (L : Int) - 1) (true, s, L) = true := inB_iff.mpr ⟨by dsimp only; omega, by dsimp only; omega⟩
      refine absurd ?_ (h3 ((s : Int) + (L : Int) - 1))
      rw [bmap_in hb i2]
      unfold nxt
      rw [if_neg (by dsimp only; omega), hes]
      rfl
  · rintro ⟨s, L, hb, rfl⟩
    have r0 := strt_rng hb
    have hL := h _ (strt_mem hb)
    dsimp only at hL r0
    unfold nons
    rw [List.mem_filter, mem_rgI]
    refine ⟨by omega, (nonT_iff w).mpr fun x hx => ?_⟩
    obtain ⟨b, hb', i, j, e⟩ := bmap_blk hx
    have : b = (false, s, L) := strt_uniq hb' hb j (inB_iff.mpr ⟨by dsimp only; omega, by dsimp only; omega⟩)
    subst this
    have i' := inB_iff.mp i
    unfold nxt at e
    dsimp only at e i'
    by_cases h1 : x + 1 < (s : Int) + (L : Int)
    · rw [if_pos h1] at e
      have := Option.some.inj e
      omega
    · rw [if_neg h1] at e
      cases e
theorem sel_mem {f : PF} : ∀ {l b : List Int} {e : Int}, e ∈ selL f b l → e ∈ b ∨ ∃ l1 l2, l = l1 ++ e :: l2 ∧ e ∉ seenL f (selL f b l1)
  | [], b, e, h => .inl h
  | x :: l, b, e, h => by
    have h' : e ∈ selL f (stp f b x) l := h
    rcases sel_mem h' with h1 | ⟨l1, l2, rfl, hn⟩
    · unfold stp at h1
      by_cases hx : x ∈ seenL f b
      · rw [if_pos hx] at h1
        exact .inl h1
      · rw [if_neg hx] at h1
        rcases List.mem_append.mp h1 with h1 | h1
        · exact .inl h1
        · rw [List.mem_singleton] at h1
          subst h1
          exact .inr ⟨[], l, rfl, hx⟩
    · exact .inr ⟨x :: l1, l2, rfl, hn⟩
theorem sel_has {f : PF} {b l : List Int} {x : Int} (hx : x ∈ rowN f x) : x ∈ seenL f (selL f b (l ++ [x])) := by
  rw [selL_one]
  unfold stp
  by_cases h : x ∈ seenL f (selL f b l)
  · rw [if_pos h]; exact h
  · rw [if_neg h]
    exact mem_seenL.mpr ⟨x, List.mem_append_right _ (List.mem_singleton.mpr rfl), hx⟩
theorem sel_mono {f : PF} : ∀ {l b : List Int} {e : Int}, e ∈ b → e ∈ selL f b l
  | [], _, _, h => h
  | x :: l, b, e, h => by
    show e ∈ selL f (stp f b x) l
    refine sel_mono ?_
    unfold stp
    by_cases hx : x ∈ seenL f b
    · rw [if_pos hx]; exact h
    · rw [if_neg hx]; exact List.mem_append_left _ h
theorem sel_from {f : PF} {l b : List Int} {e : Int} (h : e ∈ selL f b l) : e ∈ b ∨ e ∈ l := by
  rcases sel_mem h with h | ⟨l1, l2, rfl, _⟩
  · exact .inl h
  · exact .inr (List.mem_append_right _ List.mem_cons_self)
theorem cycS_blk {bs : List (Bool × Nat)} (h : ∀ p ∈ bs, 1 ≤ p.2) {n : Int} (hn : n = (tot bs : Nat)) : cycS n (bmap bs) = stO bs true := by
  have w := wf_bmap bs hn
  have hN := nons_blk h hn
  have hsel := cycS_eq n (bmap bs)
  -- what a row of the list holds lies in the row's block
  have own : ∀ x : Int, 0 ≤ x → x < n → x ∈ rowN (bmap bs) x := fun x h1 h2 => (rowN_is w h1 h2).mem
  have only : ∀ (s L : Nat) (m1 m2 : List Int), (true, s, L) ∈ strt 0 bs → (m1 ++ (s : Int) :: m2).Pairwise (· < ·) → (∀ x ∈ m1, 0 ≤ x ∧ x < n) → ∀ e' ∈ selL (bmap bs) (nons n (bmap bs)) (m1 ++ [(s : Int)]), (s : Int) ∈ rowN (bmap bs) e' → e' = (s : Int) := by
    intro s L m1 m2 hb asc dom e' he' hr
    have hL := h _ (strt_mem hb)
    have r0 := strt_rng hb
    dsimp only at hL r0
    have is : inB (s : Int) (true, s, L) = true := inB_iff.mpr ⟨by dsimp only; omega, by dsimp only; omega⟩
    rcases sel_from he' with hm | hm
    · rw [hN] at hm
      obtain ⟨s', L', hb', rfl⟩ := stO_mem.mp hm
      have hL' := h _ (strt_mem hb')
      dsimp only at hL'
      have is' : inB (s' : Int) (false, s', L') = true := inB_iff.mpr ⟨by dsimp only; omega, by dsimp only; omega⟩
      have := strt_uniq hb' hb (rowN_in hb' is' hr) is
      cases this
    · have de : 0 ≤ e' ∧ e' < n ∧ e' ≤ s := by
        rcases List.mem_append.mp hm with hm | hm
        · have := dom e' hm
          have := (List.pairwise_append.mp asc).2.2 e' hm (s : Int) List.mem_cons_self
          omega
        · rw [List.mem_singleton] at hm
          subst hm
          omega
      obtain ⟨b', hb', i'⟩ := strt_ex (bs := bs) (s := 0) (x := e') (by omega) (by omega)
      have := strt_uniq hb' hb (rowN_in hb' i' hr) is
      subst this
      have := inB_iff.mp i'
      dsimp only at this
      omega
  refine asc_eq (cycS_lt n _) (stO_asc h true) fun e => ?_
  rw [stO_mem]
  constructor
  · intro he
    obtain ⟨d1, d2⟩ := cycS_dom he
    obtain ⟨⟨c, s, L⟩, hb, i⟩ := strt_ex (bs := bs) (s := 0) (x := e) (by omega) (by omega)
    have i' := inB_iff.mp i
    have hL := h _ (strt_mem hb)
    dsimp only at i' hL
    have hns := (cycS_sub n (bmap bs)).2 e he
    have rb := rowN_eq (row_blk hb hL)
    dsimp only at rb
    cases c with
    | false =>
      refine absurd (mem_seenL.mpr ⟨(s : Nat), ?_, ?_⟩) hns
      · rw [hN]; exact stO_mem.mpr ⟨s, L, hb, rfl⟩
      · rw [rb]
        obtain ⟨k, hk⟩ : ∃ k : Nat, e = ((s + k : Nat) : Int) ∧ k < L := ⟨(e - s).toNat, by omega, by omega⟩
        exact List.mem_of_getElem? (ivl_get.mpr ⟨hk.2, hk.1⟩)
    | true =>
      refine ⟨s, L, hb, Classical.byContradiction fun hne => ?_⟩
      have he2 : e ∈ selL (bmap bs) (nons n (bmap bs)) (rgI n.toNat) := by rw [hsel]; exact List.mem_append_right _ he
      rcases sel_mem he2 with h1 | ⟨l1, l2, el, hn'⟩
      · exact absurd (mem_seenL.mpr ⟨e, h1, own e d1 d2⟩) hns
      · -- s stands ahead of e
        have asc := rgI_lt n.toNat
        rw [el] at asc
        have hs : (s : Int) ∈ l1 := by
          have hm : (s : Int) ∈ rgI n.toNat := mem_rgI.mpr ⟨by omega, by have := strt_rng hb; dsimp only at this; omega⟩
          rw [el] at hm
          rcases List.mem_append.mp hm with hm | hm
          · exact hm
          · rcases List.mem_cons.mp hm with hm | hm
            · exact absurd hm.symm hne
            · have := (List.pairwise_cons.mp (List.pairwise_append.mp asc).2.1).1 _ hm
              omega
        obtain ⟨m1, m2, em⟩ := List.append_of_mem hs
        have hsn : (s : Int) ∈ rowN (bmap bs) (s : Int) := own _ (by omega) (by have := strt_rng hb; dsimp only at this; omega)
        have hss := sel_has (f := bmap bs) (b := nons n (bmap bs)) (l := m1) hsn
        obtain ⟨e', he', hr⟩ := mem_seenL.mp hss
        have he1 : e' ∈ selL (bmap bs) (nons n (bmap bs)) l1 := by
          rw [em, show m1 ++ (s : Int) :: m2 = (m1 ++ [(s : Int)]) ++ m2 by simp, selL_append]
          exact sel_mono he'
        have dom1 : ∀ x ∈ m1, 0 ≤ x ∧ x < n := fun x hx => by
          have : x ∈ rgI n.toNat := by rw [el, em]; simp [hx]
          have := mem_rgI.mp this
          omega
        have asc1 : (m1 ++ (s : Int) :: m2).Pairwise (· < ·) := by rw [← em]; exact (List.pairwise_append.mp asc).1
        have := only s L m1 m2 hb asc1 dom1 e' he' hr
        subst this
        refine hn' (mem_seenL.mpr ⟨_, he1, ?_⟩)
        rw [rb]
        obtain ⟨k, hk⟩ : ∃ k : Nat, e = ((s + k : Nat) : Int) ∧ k < L := ⟨(e - s).toNat, by omega, by omega⟩
        exact List.mem_of_getElem? (ivl_get.mpr ⟨hk.2, hk.1⟩)
  · rintro ⟨s, L, hb, rfl⟩
    have hL := h _ (strt_mem hb)
    have r0 := strt_rng hb
    dsimp only at hL r0
    have hm : (s : Int) ∈ rgI n.toNat := mem_rgI.mpr ⟨by omega, by omega⟩
    obtain ⟨m1, m2, em⟩ := List.append_of_mem hm
    have asc := rgI_lt n.toNat
    rw [em] at asc
    have dom1 : ∀ x ∈ m1, 0 ≤ x ∧ x < n := fun x hx => by
      have : x ∈ rgI n.toNat := by rw [em]; simp [hx]
      have := mem_rgI.mp this
      omega
    have hsn : (s : Int) ∈ rowN (bmap bs) (s : Int) := own _ (by omega) (by omega)
    obtain ⟨e', he', hr⟩ := mem_seenL.mp (sel_has (f := bmap bs) (b := nons n (bmap bs)) (l := m1) hsn)
    have := only s L m1 m2 hb asc dom1 e' he' hr
    subst this
    have h2 : (s : Int) ∈ selL (bmap bs) (nons n (bmap bs)) (rgI n.toNat) := by
      rw [em, show m1 ++ (s : Int) :: m2 = (m1 ++ [(s : Int)]) ++ m2 by simp, selL_append]
      exact sel_mono he'
    rw [hsel] at h2
    rcases List.mem_append.mp h2 with h2 | h2
    · rw [hN] at h2
      obtain ⟨s', L', hb', e⟩ := stO_mem.mp h2
      have hL' := h _ (strt_mem hb')
      dsimp only at hL'
      have := strt_uniq hb' hb (x := (s : Int)) (inB_iff.mpr ⟨by dsimp only; omega, by dsimp only; omega⟩) (inB_iff.mpr ⟨by dsimp only; omega, by dsimp only; omega⟩)
      cases this
    · exact h2
theorem strt_lens : ∀ (bs : List (Bool × Nat)) (s : Nat) (c : Bool), ((strt s bs).filter fun b => b.1 == c).map (fun b => b.2.2) = (bs.filter fun b => b.1 == c).map (·.2)
  | [], _, _ => rfl
  | (c', L) :: r, s, c => by
    show (((c', s, L) :: strt (s + L) r).filter fun b => b.1 == c).map (fun b => b.2.2) = _
    rw [List.filter_cons, List.filter_cons]
    by_cases h : c' = c
    · subst h
      simp [strt_lens r (s + L)]
    · have : (c' == c) = false := by simpa using h
      simp [this, strt_lens r (s + L)]
theorem lens_stO {bs : List (Bool × Nat)} (h : ∀ p ∈ bs, 1 ≤ p.2) (c : Bool) : lens (bmap bs) (stO bs c) = (bs.filter fun b => b.1 == c).map (·.2) := by
  rw [← strt_lens bs 0 c]
  unfold lens stO
  rw [List.map_map]
  refine List.map_congr_left fun b hb => ?_
  have hb' := (List.mem_filter.mp hb).1
  show (rowN (bmap bs) (b.2.1 : Int)).length = b.2.2
  rw [rowN_eq (row_blk hb' (h _ (strt_mem hb'))), ivl_len]
/-- the lengths of the parts of a map of blocks -/
theorem lens_blk {bs : List (Bool × Nat)} (h : ∀ p ∈ bs, 1 ≤ p.2) {n : Int} (hn : n = (tot bs : Nat)) : lens (bmap bs) (nons n (bmap bs)) = (bs.filter fun b => b.1 == false).map (·.2) ∧ lens (bmap bs) (cycS n (bmap bs)) = (bs.filter fun b => b.1 == true).map (·.2) := by
  rw [nons_blk h hn, cycS_blk h hn]
  exact ⟨lens_stO h false, lens_stO h true⟩
end My
namespace My
open PySem L2 U StX PM
/-! ### counts -/
def Bg : Int := ((2 ^ 1000 : Nat) : Int)
theorem Bg_ge : (10 ^ 60 : Int) ≤ Bg := by decide +kernel
theorem Bg_nat {x : Int} (h0 : 0 ≤ x) (h : x < Bg) : x.natAbs < 2 ^ 1000 := by
  unfold Bg at h
  omega
theorem Bg_mul {x y : Int} (h0 : 0 ≤ x) (h : x < Bg) (h1 : 0 ≤ y) (h2 : y < Bg) : CMulW x y := wide_mul (Bg_nat h0 h) (Bg_nat h1 h2) (by decide) (by decide) (by decide)
theorem Bg_div {x y : Int} (h1 : 0 < y) (h2 : y < Bg) : CDivW x y := wide_div h1 (Bg_nat (by omega) h2) (by decide) (by decide)
def Pos (l : List (Int × Int)) : Prop := ∀ p ∈ l, 0 < p.1 ∧ 0 < p.2 ∧ (p.1 < Bg ∧ p.2 < Bg)
def Asc (l : List (Int × Int)) : Prop := (l.map (·.1)).Pairwise (· < ·) ∧ Pos l
theorem Asc.nd {l : List (Int × Int)} (h : Asc l) : (l.map (·.1)).Nodup := nodup_of_lt h.1
theorem asc_uniq {l m : List (Int × Int)} (h1 : Asc l) (h2 : Asc m) (h : ∀ p, p ∈ l ↔ p ∈ m) : l = m := by
  have e := asc_eq h1.1 h2.1 fun x => by
    rw [List.mem_map, List.mem_map]
    constructor <;> rintro ⟨p, hp, rfl⟩
    · exact ⟨p, (h p).mp hp, rfl⟩
    · exact ⟨p, (h p).mpr hp, rfl⟩
  have d1 : DI l (lk l) := ⟨h1.nd, fun _ => rfl⟩
  have d2 : DI m (lk m) := ⟨h2.nd, fun _ => rfl⟩
  apply List.ext_getElem?
  intro i
  cases e1 : l[i]? with
  | none =>
    have : l.length = m.length := by have := congrArg List.length e; simpa using this
    rw [List.getElem?_eq_none_iff] at e1
    rw [List.getElem?_eq_none (by omega)]
  | some p =>
    have e2 : (l.map (·.1))[i]? = some p.1 := by rw [List.getElem?_map, e1]; rfl
    rw [e, List.getElem?_map] at e2
    cases e3 : m[i]? with
    | none => rw [e3] at e2; cases e2
    | some p' =>
      rw [e3] at e2
      have e4 : p'.1 = p.1 := Option.some.inj e2
      have a1 := d2.mem.mp ((h p).mp (List.mem_of_getElem? e1))
      have a2 := d2.mem.mp (List.mem_of_getElem? e3)
      rw [e4, a1] at a2
      have e5 := Option.some.inj a2
      congr 1
      exact Prod.ext e4.symm e5
def spAreC : Sp := fun vs H Q _ => ∃ (d : Addr) (l : List (Int × Int)), vs = [.ref d] ∧ H d = some (.dK (kvI l)) ∧ Pos l ∧ l.length ≤ 1000 ∧ ∀ H', Same H H' → Q (.bl true) H'
def spOrd : Sp := fun vs H Q _ => ∃ (d : Addr) (l : List (Int × Int)), vs = [.ref d] ∧ H d = some (.dK (kvI l)) ∧ (l.map (·.1)).Nodup ∧ Pos l ∧ l.length ≤ 1000 ∧ ∀ p cs H', Same H H' → H p = none → H' p = some (.dK (kvI cs)) → cs.Perm l → Asc cs → Q (.ref p) H'
/-- {x: .. for x in a list of ints that is made here} -/
theorem dc_intsX {K : PySem.W.Frag} {te : TE} {i : Nat} {tk tv : TE} {vs : List Nat} {σ : L2.St} {H0 : Hp} {Q : VK} (vf : Int → Int) (Φ : Addr → List Int → Hp → Prop) (hte : ∀ R : VK, (∀ a xs H, Φ a xs H → R (.ref a) H) → te σ H0 R) (ha : ∀ a xs H, Φ a xs H → H a = some (.lst (xs.map V.int)) ∧ xs.Nodup ∧ xs.length < sizeLine)
    (hw : ∀ a, wipe ((wipe σ vs).set i a) vs = wipe σ vs)
    (hk : ∀ (y : Int) (H1 : Hp) (R : VK), R (.int y) H1 → tk ((wipe σ vs).set i (some (.int y))) H1 R) (hv : ∀ a xs H, Φ a xs H → ∀ y ∈ xs, ∀ (H1 : Hp), L2.Same H H1 → ∀ (R : VK), R (.int (vf y)) H1 → tv ((wipe σ vs).set i (some (.int y))) H1 R)
    (hq : ∀ a xs H, Φ a xs H → ∀ D H', H D = none → H' D = some (.dK (kvI (xs.map fun x => (x, vf x)))) → L2.Same H H' → Q (.ref D) H') :
    tDc (iList K te) (gName i) tYes tk tv vs σ H0 Q := by
  refine hte _ fun a xs H φ => ?_
  obtain ⟨hx, nd, hz⟩ := ha a xs H φ
  refine ⟨a, rfl, ⟨_, SqL.of hx⟩, fun D hD => ?_⟩
  refine dc_it (walk_list (xs := xs.map V.int)) (fun k H' => L2.Same H H' ∧ H' D = some (.dK (kvI ((xs.take k).map fun x => (x, vf x))))) ⟨Same.new hD, upd_same⟩ (fun k H' _ p => SqL.of (p.1 _ _ hx)) ?_ ?_
  · rintro k v H' H'' hk1 ⟨p1, p2⟩ ⟨rfl, ev⟩
    rw [List.length_map] at hk1
    obtain ⟨y, ey⟩ : ∃ y, xs[k]? = some y := ⟨_, List.getElem?_eq_getElem hk1⟩
    have ev' : v = .int y := by
      have := get_map ey
      rw [this] at ev
      exact (Option.some.inj ev).symm
    subst ev'
    refine ⟨hw _, yes_ ?_⟩
    refine hk y _ _ (hv a xs H φ y (List.mem_of_getElem? ey) _ p1 _ ⟨_, Sum.inl y, rfl, p2, ?_, ?_, ?_⟩)
    · refine Nat.lt_of_le_of_lt ?_ hz
      rw [kvI_length, List.length_map, List.length_take]
      omega
    · exact Same.put p1 hD
    · have nin : y ∉ ((xs.take k).map fun x => (x, vf x)).map (·.1) := by
        rw [List.map_map]
        have : ((xs.take k).map ((fun p : Int × Int => p.1) ∘ fun x => (x, vf x))) = xs.take k := by
          rw [show ((fun p : Int × Int => p.1) ∘ fun x => (x, vf x)) = id from rfl, List.map_id]
        rw [this]
        intro hm
        have e2 : xs = xs.take k ++ xs.drop k := (List.take_append_drop k xs).symm
        rw [e2, List.nodup_append] at nd
        refine nd.2.2 y hm y (List.mem_iff_getElem?.mpr ⟨0, ?_⟩) rfl
        rw [List.getElem?_drop]
        exact ey
      rw [upd_same, putK_kvI nin, take_more ey, List.map_append]
      rfl
  · rintro H' ⟨p1, p2⟩
    rw [List.length_map, List.take_length] at p2
    exact hq a xs H φ D H' hD p2 p1
theorem keys_madeL (l : List (Int × Int)) : madeL (fun _ _ => true) (fun x _ => V.int x) l = (l.map (·.1)).map V.int := by
  unfold madeL
  rw [List.map_map, List.filter_eq_self.mpr fun _ _ => rfl]
  rfl
theorem ord_perm {l : List (Int × Int)} (nd : (l.map (·.1)).Nodup) {ns : List Int} (hp : ns.Perm (l.map (·.1))) (hs : ns.Pairwise (· ≤ ·)) : (ns.map fun x => (x, (lk l x).getD 0)).Perm l ∧ ((ns.map fun x => (x, (lk l x).getD 0)).map (·.1)).Pairwise (· < ·) := by
  have di : DI l (lk l) := ⟨nd, fun _ => rfl⟩
  have hnd : ns.Nodup := hp.nodup_iff.mpr nd
  constructor
  · have h1 := hp.map (fun x => (x, (lk l x).getD 0))
    refine h1.trans ?_
    rw [List.map_map]
    have : l.map ((fun x => (x, (lk l x).getD 0)) ∘ fun p : Int × Int => p.1) = l := by
      conv => rhs; rw [← List.map_id l]
      refine List.map_congr_left fun p hp' => ?_
      have := di.mem.mp (show (p.1, p.2) ∈ l from hp')
      show (p.1, (lk l p.1).getD 0) = p
      rw [this]
      rfl
    rw [this]
  · rw [List.map_map, show ((fun p : Int × Int => p.1) ∘ fun x => (x, (lk l x).getD 0)) = id from rfl, List.map_id]
    have := List.Pairwise.and hs hnd
    exact this.imp fun {a b} h => by omega
section
variable {P : Program} {w : World} {K : PySem.W.Frag} {mg : Str → Option Value} {base : Heap}
theorem ok_are_counts (T : Txt K mg) : FnR P w K mg base CX0 3 T.f_are_counts spAreC := by
  refine T.A_are_counts.ok sc_are_counts (fun vs H Q E h => ?_) (fun cdv A outer s H vs Q E hr h => ?_)
  · obtain ⟨d, l, rfl, _⟩ := h
    rfl
  · obtain ⟨d, l, rfl, hd, hp, hl, q⟩ := h
    refine ⟨_, (pss_cons (ps_if (pt_not (pt_val (pe_callB call_isi (by rfl) T.n_isinstance (by decide +kernel) (pa_cons (pv 0) (pa_cons (pe_bltn (v := .ty "dict") (u := .type "dict") (by rfl) T.n_dict (by decide +kernel) rfl) pa_nil)))))
        (pss_one (ps_ret pe_bl)) pss_nil)
      (pss_one (ps_ret (pe_callB (cr_all rfl) (by rfl) T.n_all (by decide +kernel) (pa_cons (pe_lock (pe_lc (own := [("one", 1), ("number", 2)]) (g := (gTup K 2 (gCons (gName 1) (gCons (gName 2) gNil)))) (tt := tYes) rfl sc_are_counts.nd (pi_items (pv 0)) (blkOk_by (own := [("one", 1), ("number", 2)]) (N := n_are_counts) (sc := defScope s_are_counts) (by decide +kernel)) (fun _ _ _ _ _ => (pg_tup rfl (pgs_cons (pg_name (i := 1) sc_are_counts.nd rfl (Or.inl rfl)) (pgs_cons (pg_name (i := 2) sc_are_counts.nd rfl (Or.inl rfl)) pgs_nil)))) (fun _ _ _ _ _ => pts_nil) (fun _ _ _ _ _ => (pe_and (pe_callR (ok_is_integer T) (hr.mono (by decide)) T.A_is_integer.kp rfl T.g_is_integer pass0 (pa_cons (pv 1) pa_nil)) (pe_and (pe_callR (ok_is_integer T) (hr.mono (by decide)) T.A_is_integer.kp rfl T.g_is_integer pass0 (pa_cons (pv 2) pa_nil)) (pe_and (pe_cmpR op_gt (pv 1) pe_int (nomark _)) (pe_one (pe_cmpR op_gt (pv 2) pe_int (nomark _))))))))) pa_nil))))), ?_⟩
    refine ⟨_, rfl, _, _, _, _, true, rfl, .ty _, .base (.dK hd), kit_ty (by decide +kernel), _, rfl, iteF ?_⟩
    refine lc_items (fun _ _ => true) (fun x y => .bl true) hd (fun H' R r o => ⟨_, rfl, r⟩) (fun _ _ => rfl) (fun x y hxy H1 o => ⟨fun R r => r, fun _ R r => ?_⟩) (small1000 hl) (fun D H1 nD hD s1 => ?_)
    · obtain ⟨h1, h2, _⟩ := hp _ hxy
      dsimp only at h1 h2
      refine ⟨_, rfl, _, rfl, trivial, _, rfl, iteT ⟨_, rfl, _, rfl, trivial, _, rfl, iteT ⟨_, rfl, _, _, rfl, rfl, _, rfl, ?_⟩⟩⟩
      rw [decide_eq_true h1]
      refine iteT ⟨_, rfl, _, _, rfl, rfl, ?_⟩
      show R (.bl (decide (0 < y))) H1
      rw [decide_eq_true h2]
      exact r
    · refine ⟨D, List.replicate l.length true, rfl, SqL.of ?_, ?_⟩
      · rw [hD]
        congr 2
        unfold madeL
        simp [List.map_const']
      · have : (List.replicate l.length true).all id = true := List.all_eq_true.mpr fun x hx => by rw [List.eq_of_mem_replicate hx]; rfl
        rw [this]
        exact q H1 s1
theorem ok_ordered (T : Txt K mg) : FnR P w K mg base CX0 3 T.f_ordered spOrd := by
  refine T.A_ordered.ok sc_ordered (fun vs H Q E h => ?_) (fun cdv A outer s H vs Q E hr h => ?_)
  · obtain ⟨d, l, rfl, _⟩ := h
    rfl
  · obtain ⟨d, l, rfl, hd, nd, hp, hl, q⟩ := h
    have hu := hu_of hr
    refine ⟨_, (pss_one (ps_ret (pe_dc (own := [("length", 1)]) (g := (gName 1)) (tt := tYes) rfl sc_ordered.nd (pi_list (pe_callB cr_sortedI (by rfl) T.n_sorted (by decide +kernel) (pa_cons (pe_lock (pe_lc (own := [("length", 1)]) (g := (gName 1)) (tt := tYes) rfl sc_ordered.nd (pi_keys (pv 0)) (blkOk_by (own := [("length", 1)]) (N := n_ordered) (sc := defScope s_ordered) (by decide +kernel)) (fun _ _ _ _ _ => (pg_name (i := 1) sc_ordered.nd rfl (Or.inl rfl))) (fun _ _ _ _ _ => pts_nil) (fun _ _ _ _ _ => (pe_callTy call_int1 (by rfl) T.n_int (by decide +kernel) (pa_cons (pv 1) pa_nil))))) pa_nil))) (blkOk_by (own := [("length", 1)]) (N := n_ordered) (sc := defScope s_ordered) (by decide +kernel)) (fun _ _ _ _ _ => (pg_name (i := 1) sc_ordered.nd rfl (Or.inl rfl))) (fun _ _ _ _ _ => pts_nil) (fun _ _ _ _ _ => (pv 1)) (fun _ _ _ _ _ => (pe_dget hu (pv 0) (pv 1) (fun _ _ => rfl)))))), ?_⟩
    refine dc_intsX (fun x => (lk l x).getD 0) (fun a xs H' => H' a = some (.lst (xs.map V.int)) ∧ xs.Perm (l.map (·.1)) ∧ xs.Pairwise (· ≤ ·) ∧ Same H H') (fun R rr => ?_) (fun a xs H' ⟨e, hp', _, _⟩ => ⟨e, hp'.nodup_iff.mpr nd, ?_⟩) (fun _ => rfl) (fun y H1 R r => ⟨_, rfl, r⟩) (fun a xs H' ⟨e, hp', _, s'⟩ y hy H1 s1 R r => ?_) (fun a xs H' ⟨e, hp', hs', s'⟩ D H1 nD hD s1 => ?_)
    · refine lc_keys (fun _ => true) (fun x => .int x) hd (fun H' R r o => ⟨_, rfl, r⟩) (fun _ => rfl) (fun x H1 o => ⟨fun R r => r, fun R r => ?_⟩) (small1000 hl) (fun D H1 nD hD s1 => ?_)
      · exact ⟨_, rfl, .inl ⟨_, rfl, r⟩⟩
      · rw [keys_madeL] at hD
        exact ⟨D, _, rfl, SqL.of hD, fun ns' p hp' hs' np => rr p ns' _ ⟨upd_same, hp', hs', s1.trans (Same.new np)⟩⟩
    · have := hp'.length_eq
      rw [List.length_map] at this
      exact small1000 (by omega)
    · have hm : y ∈ l.map (·.1) := hp'.mem_iff.mp hy
      obtain ⟨⟨y', z⟩, hz, rfl⟩ := List.mem_map.mp hm
      have di : DI l (lk l) := ⟨nd, fun _ => rfl⟩
      have e1 := di.mem.mp hz
      have g := dgetL (s1 _ _ (s' _ _ hd)) di y'
      dsimp only at r ⊢
      rw [e1] at g r
      exact ⟨_, rfl, _, rfl, d, .int z, rfl, g, r⟩
    · obtain ⟨o1, o2⟩ := ord_perm nd hp' hs'
      exact q D _ H1 (s'.trans s1) (s'.free nD) hD o1 ⟨o2, fun p hp2 => hp p (o1.mem_iff.mp hp2)⟩
end
end My
namespace My
open PySem L2 U StX PM
/-! ### shapes -/
def shf (D1 D2 : Addr) : List (Str × V) := [("own_cycles", .ref D1), ("own_chains", .ref D2)]
structure IsShape (C : Addr) (H : Hp) (s : Addr) (cs hs : List (Int × Int)) : Prop where
  ob : ∃ dx D1 D2, H s = some (.ins C dx (shf D1 D2)) ∧ H D1 = some (.dK (kvI cs)) ∧ H D2 = some (.dK (kvI hs))
  a1 : Asc cs
  a2 : Asc hs
  l1 : cs.length ≤ 1000
  l2 : hs.length ≤ 1000
theorem IsShape.same {C : Addr} {H H' : Hp} {s : Addr} {cs hs : List (Int × Int)} (h : IsShape C H s cs hs) (x : Same H H') : IsShape C H' s cs hs := by
  obtain ⟨⟨dx, D1, D2, h1, h2, h3⟩, a1, a2, l1, l2⟩ := h
  exact ⟨⟨dx, D1, D2, x _ _ h1, x _ _ h2, x _ _ h3⟩, a1, a2, l1, l2⟩
theorem Off.ofS {p : Addr} {H H' : Hp} (s : Same H H') : Off p H H' := fun _ _ _ h => s _ _ h
theorem stF {p : Addr} {H H' : Hp} {o : HO} (g : upd H p o = H') : Off p H H' ∧ H' p = some o := by
  subst g
  exact ⟨Off.lock, upd_same⟩
def spInitSh (C : Addr) : Sp := fun vs H Q _ => ∃ (s dx d1 d2 : Addr) (l1 l2 : List (Int × Int)), vs = [.ref s, .ref d1, .ref d2] ∧ H s = some (.ins C dx []) ∧ H d1 = some (.dK (kvI l1)) ∧ H d2 = some (.dK (kvI l2)) ∧ (l1.map (·.1)).Nodup ∧ (l2.map (·.1)).Nodup ∧ Pos l1 ∧ Pos l2 ∧ l1.length ≤ 1000 ∧ l2.length ≤ 1000 ∧
  ∀ cs hs H', Off s H H' → cs.Perm l1 → hs.Perm l2 → IsShape C H' s cs hs → Q .non H'
def spShEq (C : Addr) : Sp := fun vs H Q _ => ∃ (a b : Addr) (cs hs cs' hs' : List (Int × Int)), vs = [.ref a, .ref b] ∧ IsShape C H a cs hs ∧ IsShape C H b cs' hs' ∧ cs = cs' ∧ hs = hs' ∧ Q (.bl true) H
section
variable {P : Program} {w : World} {K : PySem.W.Frag} {mg : Str → Option Value} {base : Heap}
theorem ok_sh_init (T : Txt K mg) : FnR P w K mg base CX0 5 T.f_Shape__init (spInitSh T.C_Shape) := by
  refine T.A_Shape__init.ok sc_Shape__init (fun vs H Q E h => ?_) (fun cdv A outer s H vs Q E hr h => ?_)
  · obtain ⟨s, dx, d1, d2, l1, l2, rfl, _⟩ := h
    rfl
  · obtain ⟨s, dx, d1, d2, l1, l2, rfl, hs, hd1, hd2, n1, n2, p1, p2, b1, b2, q⟩ := h
    refine ⟨_, (pss_cons (ps_if (pt_not (pt_val (pe_callR (ok_are_counts T) (hr.mono (by decide)) T.A_are_counts.kp rfl T.g_are_counts pass0 (pa_cons (pv 1) pa_nil))))
        (pss_one ps_never) pss_nil)
      (pss_cons (ps_if (pt_not (pt_val (pe_callR (ok_are_counts T) (hr.mono (by decide)) T.A_are_counts.kp rfl T.g_are_counts pass0 (pa_cons (pv 2) pa_nil))))
        (pss_one ps_never) pss_nil)
      (pss_cons (ps_fld (pv 0) (pe_callR (ok_ordered T) (hr.mono (by decide)) T.A_ordered.kp rfl T.g_ordered pass0 (pa_cons (pv 1) pa_nil)) rfl)
      (pss_one (ps_fld (pv 0) (pe_callR (ok_ordered T) (hr.mono (by decide)) T.A_ordered.kp rfl T.g_ordered pass0 (pa_cons (pv 2) pa_nil)) rfl))))), ?_⟩
    refine ⟨_, rfl, d1, l1, rfl, hd1, p1, b1, fun H1 s1 => ⟨_, rfl, iteF ?_⟩⟩
    refine ⟨_, rfl, d2, l2, rfl, s1 _ _ hd2, p2, b2, fun H2 s2 => ⟨_, rfl, iteF ?_⟩⟩
    have s12 := s1.trans s2
    refine ⟨_, rfl, d1, l1, rfl, s12 _ _ hd1, n1, p1, b1, fun D1 cs H3 s3 nD1 hD1 pm1 as1 => ?_⟩
    have s13 := s12.trans s3
    have hs3 := s13 _ _ hs
    refine ⟨_, rfl, s, _, dx, _, rfl, hs3, T.o_Shape.cl, T.na_own_cycles_Shape, (by show 0 < 1000; decide), ?_⟩
    generalize g4 : upd _ s _ = H4
    obtain ⟨o4, e4⟩ := stF g4
    clear g4
    have nd2 : d2 ≠ s := ne_of hd2 hs (by intro z; cases z)
    have hd24 := o4 _ _ nd2 (s13 _ _ hd2)
    have nD1s : D1 ≠ s := (ne_of_none (s12 _ _ hs) nD1).symm
    have hD14 := o4 _ _ nD1s hD1
    refine ⟨_, rfl, d2, l2, rfl, hd24, n2, p2, b2, fun D2 hs' H5 s5 nD2 hD2 pm2 as2 => ?_⟩
    refine ⟨_, rfl, s, _, dx, _, rfl, s5 _ _ e4, T.o_Shape.cl, T.na_own_chains_Shape, (by show 1 < 1000; decide), ?_⟩
    generalize g6 : upd _ s _ = H6
    obtain ⟨o6, e6⟩ := stF g6
    clear g6
    have nD2s : D2 ≠ s := (ne_of_none e4 nD2).symm
    refine q cs hs' H6 ((((Off.ofS s13).tr o4).tr (Off.ofS s5)).tr o6) pm1 pm2 ⟨⟨dx, D1, D2, e6, o6 _ _ nD1s (s5 _ _ hD14), o6 _ _ nD2s hD2⟩, as1, as2, by rw [pm1.length_eq]; exact b1, by rw [pm2.length_eq]; exact b2⟩
theorem ok_sh_eq (T : Txt K mg) : FnR P w K mg base CX0 2 T.f_Shape__eq (spShEq T.C_Shape) := by
  refine T.A_Shape__eq.ok sc_Shape__eq (fun vs H Q E h => ?_) (fun cdv A outer s H vs Q E hr h => ?_)
  · obtain ⟨a, b, cs, hs, cs', hs', rfl, _⟩ := h
    rfl
  · obtain ⟨a, b, cs, hs, cs', hs', rfl, ⟨⟨dx, D1, D2, h1, h2, h3⟩, as1, as2, _⟩, ⟨⟨dx', D1', D2', h1', h2', h3'⟩, _⟩, rfl, rfl, q⟩ := h
    refine ⟨_, (pss_cons (ps_if (pt_not (pt_val (pe_callB call_isi (by rfl) T.n_isinstance (by decide +kernel) (pa_cons (pv 1) (pa_cons (pe_glob (v := .ref T.C_Shape) rfl T.g_Shape rfl) pa_nil)))))
        (pss_one (ps_ret pe_bl)) pss_nil)
      (pss_one (ps_ret (pe_and (pe_cmpR (U.op_eqDI hr.units0) (pe_fld (pv 0) rfl) (pe_fld (pv 1) rfl) (nomark _)) (pe_one (pe_cmpR (U.op_eqDI hr.units0) (pe_fld (pv 0) rfl) (pe_fld (pv 1) rfl) (nomark _))))))), ?_⟩
    refine ⟨_, rfl, _, _, _, _, true, rfl, .own _, tyx_ins T.o_Shape h1', T.self_Shape, _, rfl, iteF ?_⟩
    refine ⟨_, rfl, a, _, dx, _, _, rfl, h1, T.o_Shape.cl, T.na_own_cycles_Shape, rfl, _, rfl, b, _, dx', _, _, rfl, h1', T.o_Shape.cl, T.na_own_cycles_Shape, rfl, D1, D1', _, _, rfl, rfl, h2, h2', intVals_kvI _, intVals_kvI _, _, rfl, ?_⟩
    have di1 : DI cs (lk cs) := ⟨as1.nd, fun _ => rfl⟩
    have di2 : DI hs (lk hs) := ⟨as2.nd, fun _ => rfl⟩
    rw [dEq_di di1 di1]
    refine iteT ⟨_, rfl, a, _, dx, _, _, rfl, h1, T.o_Shape.cl, T.na_own_chains_Shape, rfl, _, rfl, b, _, dx', _, _, rfl, h1', T.o_Shape.cl, T.na_own_chains_Shape, rfl, D2, D2', _, _, rfl, rfl, h3, h3', intVals_kvI _, intVals_kvI _, ?_⟩
    rw [dEq_di di2 di2]
    exact q
end
end My
namespace My
open PySem L2 U StX PM
/-! ### counts of lengths -/
def cN (Ls : List Nat) (x : Int) : Nat := (Ls.filter fun L : Nat => decide ((L : Int) = x)).length
def cnt (Ls : List Nat) : PF := fun x => if cN Ls x = 0 then none else some (cN Ls x : Nat)
theorem cN_snoc (Ls : List Nat) (L : Nat) (x : Int) : cN (Ls ++ [L]) x = cN Ls x + if (L : Int) = x then 1 else 0 := by
  unfold cN
  rw [List.filter_append, List.length_append]
  by_cases h : (L : Int) = x
  · simp [h]
  · simp [h]
theorem cnt_get (Ls : List Nat) (x : Int) : (cnt Ls x).getD 0 = (cN Ls x : Nat) := by
  unfold cnt
  by_cases h : cN Ls x = 0
  · rw [if_pos h, h]; rfl
  · rw [if_neg h]; rfl
theorem cnt_snoc (Ls : List Nat) (L : Nat) : cnt (Ls ++ [L]) = fun z => if z = (L : Int) then some ((cnt Ls z).getD 0 + 1) else cnt Ls z := by
  funext z
  rw [cnt_get]
  unfold cnt
  rw [cN_snoc]
  by_cases h : z = (L : Int)
  · rw [if_pos h, if_pos h.symm, if_neg (by omega)]
    congr 1
  · have h' : ¬ ((L : Int) = z) := fun e => h e.symm
    simp only [if_neg h, if_neg h', Nat.add_zero]
theorem di_putZ {l : List (Int × Int)} {f : PF} (d : DI l f) (x y : Int) : ∃ l', putK (kvI l) (Sum.inl x : Key) (V.int y) = kvI l' ∧ l'.length ≤ l.length + 1 ∧ DI l' (fun z => if z = x then some y else f z) := by
  obtain ⟨l', e, hl, hn, hk⟩ := putK_lk (l := l) (x := x) (y := y)
  exact ⟨l', e, hl, hn d.nd, fun z => by rw [hk, d.at_]⟩
theorem getDI0 (o : Option Int) : ((o.map V.int).getD (V.int 0)) = V.int (o.getD 0) := by cases o <;> rfl
def spCnt : Sp := fun vs H Q _ => ∃ (a : Addr) (ps : List Addr) (rs : List (List Int)), vs = [.ref a] ∧ H a = some (.lst (ps.map V.ref)) ∧ RowsAt H ps rs ∧ ps.length ≤ 1000 ∧ ∀ p l H', Same H H' → H p = none → H' p = some (.dK (kvI l)) → DI l (cnt (rs.map (·.length))) → l.length ≤ 1000 → Q (.ref p) H'
theorem cnt_pos {Ls : List Nat} (h : ∀ L ∈ Ls, 1 ≤ L) (hx : ∀ L ∈ Ls, L ≤ 1000) (hl : Ls.length ≤ 1000) {l : List (Int × Int)} (d : DI l (cnt Ls)) : Pos l := by
  rintro ⟨x, y⟩ hp
  have e := d.mem.mp hp
  unfold cnt at e
  by_cases h0 : cN Ls x = 0
  · rw [if_pos h0] at e; cases e
  · rw [if_neg h0] at e
    have ey := Option.some.inj e
    have hle : cN Ls x ≤ Ls.length := List.length_filter_le _ _
    have : ∃ L ∈ Ls, (L : Int) = x := by
      unfold cN at h0
      obtain ⟨L, hL⟩ : ∃ L, L ∈ Ls.filter fun L : Nat => decide ((L : Int) = x) := List.exists_mem_of_length_pos (by omega)
      rw [List.mem_filter, decide_eq_true_eq] at hL
      exact ⟨L, hL⟩
    obtain ⟨L, hL, rfl⟩ := this
    have := h L hL
    dsimp only
    refine ⟨by omega, by omega, ?_⟩
    have := Bg_ge
    have := hx L hL
    omega
def spShape (C CS : Addr) : Sp := fun vs H Q _ => ∃ (m : Addr) (n : Int) (f : PF), vs = [.ref m] ∧ IsMap C H m n f ∧ ∀ s cs hs H', Same H H' → IsShape CS H' s cs hs → DI cs (cnt (lens f (cycS n f))) → DI hs (cnt (lens f (nons n f))) → Q (.ref s) H'
theorem di_perm {l m : List (Int × Int)} {f : PF} (d : DI l f) (h : m.Perm l) : DI m f := by
  refine di_of ((h.map _).nodup_iff.mpr d.nd) fun x y => ?_
  rw [h.mem_iff]
  exact d.mem
theorem rows_lens {f : PF} {s : List Int} : (s.map (rowN f)).map (·.length) = lens f s := by
  unfold lens
  rw [List.map_map]
  rfl
section
variable {P : Program} {w : World} {K : PySem.W.Frag} {mg : Str → Option Value} {base : Heap}
theorem ok_counts_of (T : Txt K mg) : FnR P w K mg base CX0 2 T.f_counts_of spCnt := by
  refine T.A_counts_of.ok sc_counts_of (fun vs H Q E h => ?_) (fun cdv A outer s H vs Q E hr h => ?_)
  · obtain ⟨a, ps, rs, rfl, _⟩ := h
    rfl
  · obtain ⟨a, ps, rs, rfl, ha, hr0, hl, q⟩ := h
    have hu := hu_of hr
    refine ⟨_, (pss_cons (ps_set (i := 1) sc_counts_of.nd rfl (Or.inl rfl) pe_dnewK)
      (pss_cons (ps_for PassesOwn.never rfl (pi_list (pv 0)) (pg_name (i := 2) sc_counts_of.nd rfl (Or.inl rfl))
        (pss_one (ps_dput hu (pv 1) (pe_callB call_len_seq (by rfl) T.n_len (by decide +kernel) (pa_cons (pv 2) pa_nil)) (pe_op op_add (pe_dget2 hu (pv 1) (pe_callB call_len_seq (by rfl) T.n_len (by decide +kernel) (pa_cons (pv 2) pa_nil)) pe_int ⟨rfl, rfl, rfl, rfl⟩) pe_int) rfl)))
      (pss_one (ps_ret (pv 1))))), ?_⟩
    refine fun D n_D => ?_
    generalize g_D : L2.upd _ D _ = H1
    obtain ⟨s_H1, e_D⟩ := U.upd_facts g_D n_D
    clear g_D
    have hln := hr0.len
    refine ⟨_, rfl, a, rfl, ⟨_, SqL.of (s_H1 _ _ ha)⟩, ?_⟩
    refine for_it (walk_list (xs := ps.map V.ref)) (fun i σ H' => ∃ v2 l, σ = [some (.ref a), some (.ref D), v2] ∧ Same H H' ∧ H' D = some (.dK (kvI l)) ∧ DI l (cnt ((rs.take i).map (·.length))) ∧ l.length ≤ i)
      ⟨_, [], rfl, s_H1, e_D, ⟨List.nodup_nil, fun _ => rfl⟩, Nat.le_refl _⟩ (fun i σ H' _ ⟨_, _, _, z, _⟩ => SqL.of (z _ _ ha)) ?_ ?_
    · rintro i v σ Ha0 Ha hi ⟨v2, l, rfl, sa, eD, di, hli⟩ ⟨rfl, ev⟩
      rw [List.length_map] at hi
      rw [List.getElem?_map] at ev
      cases e : ps[i]? with
      | none => rw [e] at ev; cases ev
      | some b =>
        rw [e] at ev
        cases ev
        obtain ⟨r, er, hb0⟩ := hr0.get i b e
        have hb := sa _ _ hb0
        have g := dgetL eD di (((r.map V.int).length : Nat) : Int)
        refine ⟨_, rfl, D, rfl, isD_of eD, _, rfl, b, _, rfl, .inl (SqL.of hb), _, g, ?_⟩
        rw [getDI0]
        refine ⟨_, _, rfl, rfl, _, rfl, _, rfl, b, _, rfl, .inl (SqL.of hb), D, _, rfl, DPut.k (k := Sum.inl _) eD (small1000 (by rw [kvI_length]; omega)), ?_⟩
        obtain ⟨l', e', hl', di'⟩ := di_putZ di (((r.map V.int).length : Nat) : Int) ((cnt ((rs.take i).map (·.length)) (((r.map V.int).length : Nat) : Int)).getD 0 + 1)
        rw [e']
        refine ⟨_, l', rfl, Same.put sa n_D, upd_same, ?_, by omega⟩
        rw [take_more er, List.map_append]
        have := cnt_snoc ((rs.take i).map (·.length)) r.length
        rw [show [r].map (·.length) = [r.length] from rfl, this]
        rw [List.length_map] at di'
        refine ⟨di'.nd, fun z => ?_⟩
        rw [di'.at_]
        by_cases hz : z = (r.length : Int)
        · subst hz; rfl
        · rw [if_neg hz, if_neg hz]
    · rintro σ Ha ⟨v2, l, rfl, sa, eD, di, hli⟩
      rw [List.length_map, hln, List.take_length] at di
      rw [List.length_map] at hli
      exact ⟨_, rfl, q D l Ha sa n_D eD di (by omega)⟩
end
end My
namespace My
open PySem L2 U PM
/-! ### one block more; lists of blocks off counts -/
def blk (c : Bool) (l : List (Int × Int)) : List (Bool × Nat) := l.flatMap fun p => List.replicate p.2.toNat (c, p.1.toNat)
/-! ### blocks off a map of counts with keys 1 .. 11 -/
end My
namespace My
open PySem L2 U StX PM
/-! ### check_shape, shape_of, map_of -/
theorem Asc.pos {l : List (Int × Int)} (h : Asc l) : ∀ p ∈ l, 0 < p.1 ∧ 0 < p.2 := fun p hp => ⟨(h.2 p hp).1, (h.2 p hp).2.1⟩
theorem initS_of {C : Addr} {H : Hp} {d1 d2 : Addr} {l1 l2 : List (Int × Int)} {R : VK} {E : XK} {x dx : Addr} (hd1 : H d1 = some (.dK (kvI l1))) (hd2 : H d2 = some (.dK (kvI l2))) (n1 : (l1.map (·.1)).Nodup) (n2 : (l2.map (·.1)).Nodup) (p1 : Pos l1) (p2 : Pos l2) (b1 : l1.length ≤ 1000) (b2 : l2.length ≤ 1000)
    (nx : H x = none) (ndx : H dx = none) (ne : dx ≠ x) (q : ∀ cs hs H', Same H H' → cs.Perm l1 → hs.Perm l2 → IsShape C H' x cs hs → R .non H') : spInitSh C [.ref x, .ref d1, .ref d2] (upd (upd H dx (.own x)) x (.ins C dx [])) R E := by
  have s0 : Same H (upd (upd H dx (.own x)) x (.ins C dx [])) := (Same.new ndx).trans (Same.new (by rw [upd_ne ne.symm]; exact nx))
  refine ⟨x, dx, d1, d2, l1, l2, rfl, upd_same, s0 _ _ hd1, s0 _ _ hd2, n1, n2, p1, p2, b1, b2, fun cs hs H' o pm1 pm2 sh => q cs hs H' (fun b u e => ?_) pm1 pm2 sh⟩
  exact o _ _ (ne_of_none e nx) (s0 _ _ e)
section
variable {P : Program} {w : World} {K : PySem.W.Frag} {mg : Str → Option Value} {base : Heap}
theorem ok_shape_of (T : Txt K mg) : FnR P w K mg base CX0 7 T.f_shape_of (spShape T.C_Map T.C_Shape) := by
  refine T.A_shape_of.ok sc_shape_of (fun vs H Q E h => ?_) (fun cdv A outer s H vs Q E hr h => ?_)
  · obtain ⟨a, n, f, rfl, _⟩ := h
    rfl
  · obtain ⟨a, n, f, rfl, hm, q⟩ := h
    refine ⟨_, (pss_cons (ps_expr (pe_callR (fnR_calm (ok_check_map T)) (hr.mono (by decide)) T.A_check_map.kp rfl T.g_check_map pass0 (pa_cons (pv 0) pa_nil)))
      (pss_cons (ps_asg (pe_callR (ok_parts_of T) (hr.mono (by decide)) T.A_parts_of.kp rfl T.g_parts_of pass0 (pa_cons (pv 0) pa_nil)) (pg_tup rfl (pgs_cons (pg_name (i := 1) sc_shape_of.nd rfl (Or.inl rfl)) (pgs_cons (pg_name (i := 2) sc_shape_of.nd rfl (Or.inl rfl)) pgs_nil))))
      (pss_one (ps_ret (pe_makeR T.M_Shape (ok_sh_init T) (hr.mono (by decide)) rfl T.g_Shape pass0 (pa_cons (pe_callR (ok_counts_of T) (hr.mono (by decide)) T.A_counts_of.kp rfl T.g_counts_of pass0 (pa_cons (pv 1) pa_nil)) (pa_cons (pe_callR (ok_counts_of T) (hr.mono (by decide)) T.A_counts_of.kp rfl T.g_counts_of pass0 (pa_cons (pv 2) pa_nil)) pa_nil))))))), ?_⟩
    refine ⟨_, rfl, _, rfl, .inl ⟨a, n, f, rfl, hm, ?_⟩⟩
    refine ⟨_, rfl, a, n, f, rfl, hm, fun t lc lh cs hs H1 s1 e1 e2 e3 r1 r2 n1 n2 n3 w1 w2 => ?_⟩
    have lc1 := r1.len
    have lc2 := r2.len
    rw [List.length_map] at lc1 lc2
    have hn := hm.hi
    have b1 : (cycS n f).length ≤ 300 := by
      have := (cycS_sub n f).1.length_le
      have e : (rgI n.toNat).length = n.toNat := by simp [rgI]
      omega
    have b2 : (nons n f).length ≤ 300 := by
      have := List.length_filter_le (nonT n f) (rgI n.toNat)
      have e : (rgI n.toNat).length = n.toNat := by simp [rgI]
      unfold nons
      omega
    refine ⟨t, _, rfl, SqT.of e1, rfl, .ref lc, [.ref lh], rfl, .ref lh, [], rfl, rfl, ?_⟩
    refine ⟨_, rfl, lc, cs, _, rfl, e2, r1, by omega, fun d1 l1 H2 s2 nd1 hd1 di1 hl1 => ?_⟩
    refine ⟨_, rfl, lh, hs, _, rfl, s2 _ _ e3, r2.same s2, by omega, fun d2 l2 H3 s3 nd2 hd2 di2 hl2 => ?_⟩
    rw [rows_lens] at di1 di2
    have pos : ∀ st : List Int, (∀ e ∈ st, 0 ≤ e ∧ e < n) → ∀ L ∈ lens f st, 1 ≤ L := fun st hst L hL => by
      unfold lens at hL
      obtain ⟨e, he, rfl⟩ := List.mem_map.mp hL
      exact row_pos hm.wf (hst e he).1 (hst e he).2
    have mx : ∀ st : List Int, (∀ e ∈ st, 0 ≤ e ∧ e < n) → ∀ L ∈ lens f st, L ≤ 1000 := fun st hst L hL => by
      unfold lens at hL
      obtain ⟨e, he, rfl⟩ := List.mem_map.mp hL
      have := row_le hm.wf (hst e he).1 (hst e he).2
      omega
    refine fun x dx nx ndx ne => initS_of (s3 _ _ hd1) hd2 di1.nd di2.nd (cnt_pos (pos _ fun e he => cycS_dom he) (mx _ fun e he => cycS_dom he) (by unfold lens; rw [List.length_map]; omega) di1) (cnt_pos (pos _ fun e he => ⟨(nons_dom he).1, (nons_dom he).2.1⟩) (mx _ fun e he => ⟨(nons_dom he).1, (nons_dom he).2.1⟩) (by unfold lens; rw [List.length_map]; omega) di2) hl1 hl2 nx ndx ne fun cs' hs' H4 s4 pm1 pm2 sh => ⟨rfl, ?_⟩
    exact q x cs' hs' H4 (((s1.trans s2).trans s3).trans s4) sh (di_perm di1 pm1) (di_perm di2 pm2)
end
end My
namespace My
open PM
/-! ### bags of lengths -/
/-! ### powers of counts -/
def gI (L e : Int) : Int := (Nat.gcd L.toNat e.toNat : Nat)
theorem gI_nat (L e : Nat) : gI (L : Int) (e : Int) = (Nat.gcd L e : Nat) := by
  unfold gI
  rw [Int.toNat_natCast, Int.toNat_natCast]
def hp1 (e : Int) (p : Int × Int) : Int × Int := (p.1 / e + 1, p.2 * (p.1 % e))
def hp2 (e : Int) (p : Int × Int) : Int × Int := (p.1 / e, p.2 * (if 0 < p.1 / e then e - p.1 % e else 0))
def hq (cs : List (Int × Int)) (e : Int) : List (Int × Int) := cs.flatMap fun p => [hp1 e p, hp2 e p]
end My
namespace My
open PySem L2 U StX PM
/-! ### powers of shapes -/
def spGcdN : Sp := fun vs H Q _ => ∃ a b : Int, vs = [.int a, .int b] ∧ 0 ≤ a ∧ 0 ≤ b ∧ Q (.int (gI a b)) H
section
variable {P : Program} {w : World} {K : PySem.W.Frag} {mg : Str → Option Value} {base : Heap}
theorem ok_gcd (T : Txt K mg) : FnR P w K mg base CX0 1 T.f_greatest_divisor spGcdN := by
  refine T.A_greatest_divisor.ok sc_greatest_divisor (fun vs H Q E h => ?_) (fun cdv A outer s H vs Q E hr h => ?_)
  · obtain ⟨a, b, rfl, _⟩ := h
    rfl
  · obtain ⟨a, b, rfl, ha, hb, q⟩ := h
    obtain ⟨a, rfl⟩ : ∃ k : Nat, a = (k : Int) := ⟨a.toNat, by omega⟩
    obtain ⟨b, rfl⟩ : ∃ k : Nat, b = (k : Int) := ⟨b.toNat, by omega⟩
    rw [gI_nat] at q
    refine ⟨_, (pss_cons (ps_while PassesOwn.never (pt_cmpR op_gt (pv 1) pe_int (nomark _))
        (pss_one (ps_par (i := 0) (j := 1) rfl sc_greatest_divisor.nd rfl rfl (by decide) rfl rfl (pa_cons (pv 1) (pa_cons (pe_op op_mod (pv 0) (pv 1)) pa_nil)) (by rfl))))
      (pss_one (ps_ret (pv 0)))), ?_⟩
    refine ⟨fun m σ H' => ∃ x y : Nat, σ = [some (.int (x : Int)), some (.int (y : Int))] ∧ H' = H ∧ Nat.gcd x y = Nat.gcd a b ∧ m = y, ⟨b, a, b, rfl, rfl, rfl, rfl⟩, ?_⟩
    rintro m σ H' ⟨x, y, rfl, rfl, hg, rfl⟩
    refine ⟨_, rfl, _, _, rfl, rfl, _, rfl, ?_⟩
    refine ifD (fun h => ?_) (fun h => ?_)
    · refine ⟨fun σ' H2 => ∃ m', m' < m ∧ _, fun _ _ h => h, ?_⟩
      refine ⟨_, rfl, _, rfl, _, rfl, _, _, rfl, rfl, h, _, _, rfl, ?_⟩
      refine ⟨x % m, Nat.mod_lt _ (by omega), m, x % m, rfl, rfl, ?_, rfl⟩
      rw [← hg, Nat.gcd_comm x m, Nat.gcd_rec m x, Nat.gcd_comm]
    · have : m = 0 := by omega
      subst this
      rw [Nat.gcd_zero_right] at hg
      rw [← hg] at q
      exact ⟨_, rfl, q⟩
end
end My
namespace My
open PySem L2 U StX PM
def isSrc (f : PF) : V → Bool | .int i => (f i).isSome | _ => false
def tgtV (f : PF) : V → Option Int | .int i => f i | _ => none
def spSrc (C : Addr) : Sp := fun vs H Q _ => ∃ a n f x, vs = [.ref a, x] ∧ IsMap C H a n f ∧ knownV C H x ∧ Q (.bl (isSrc f x)) H
def spTgt (C : Addr) : Sp := fun vs H Q _ => ∃ a n f x, vs = [.ref a, x] ∧ IsMap C H a n f ∧ knownV C H x ∧ Q (match tgtV f x with | some y => .int y | none => .non) H
section
variable {P : Program} {w : World} {K : PySem.W.Frag} {mg : Str → Option Value} {base : Heap}
theorem dget_tab {H : Hp} {D : Addr} {n : Int} {f : PF} (h : H D = some (.dK (kvI (tab n f)))) (wf : WF n f) (i : Int) : DGet H D (.int i) ((f i).map V.int) := by
  have := DGet.k (k := Sum.inl i) h
  rw [valV_kvI, lk_tab wf] at this
  exact this
theorem ok_is_source (T : Txt K mg) : FnR P w K mg base CX0 3 T.f_Map_is_source (spSrc T.C_Map) := by
  refine T.A_Map_is_source.ok sc_Map_is_source (fun vs H Q E h => ?_) (fun cdv A outer s H vs Q E hr h => ?_)
  · obtain ⟨a, n, f, x, rfl, _⟩ := h
    rfl
  · obtain ⟨a, n, f, x, rfl, ha, hx, q⟩ := h
    have hu := hu_of hr
    refine ⟨_, (pss_one (ps_ret (pe_and (pe_callR (ok_in_range T) (hr.mono (by decide)) T.A_in_range.kp rfl T.g_in_range pass0 (pa_cons (pv 1) (pa_cons pe_int (pa_cons (pe_op op_sub (pe_fld (pv 0) rfl) pe_int) pa_nil)))) (pe_one (pe_cmp (pc_din hu (pv 1) (pe_fld (pv 0) rfl))))))), ?_⟩
    obtain ⟨dx, D, h1, h2⟩ := id ha.ob
    refine ⟨_, rfl, _, rfl, a, _, dx, _, _, rfl, h1, T.o_Map.cl, T.na_own_size_Map, flds_size _ _, _, _, rfl, rfl, x, 0, n - 1, rfl, hx, _, rfl, ?_⟩
    cases x with
    | int i =>
      refine ifB (fun hc => ?_) (fun hc => ?_)
      · refine ⟨_, rfl, _, rfl, a, _, dx, _, _, rfl, h1, T.o_Map.cl, T.na_own_arrows_Map, flds_arrows _ _, D, _, rfl, dget_tab h2 ha.wf i, ?_⟩
        rw [Option.isSome_map]
        exact q
      · have e : f i = none := by
          cases h : f i with
          | none => rfl
          | some y =>
            have := ha.wf.dom i y h
            simp only [inR, Bool.and_eq_false_iff, decide_eq_false_iff_not] at hc
            omega
        have e2 : isSrc f (.int i) = false := by show (f i).isSome = false; rw [e]; rfl
        rw [e2] at q
        exact q
    | _ => exact iteF q
theorem ok_call (T : Txt K mg) : FnR P w K mg base CX0 4 T.f_Map__call (spTgt T.C_Map) := by
  refine T.A_Map__call.ok sc_Map__call (fun vs H Q E h => ?_) (fun cdv A outer s H vs Q E hr h => ?_)
  · obtain ⟨a, n, f, x, rfl, _⟩ := h
    rfl
  · obtain ⟨a, n, f, x, rfl, ha, hx, q⟩ := h
    have hu := hu_of hr
    refine ⟨_, (pss_one (ps_ret (pe_ifExp (pt_val (pe_methR (pv 0) T.o_Map.cl T.meth_Map_is_source (ok_is_source T) (hr.mono (by decide)) pass0 (pa_cons (pv 1) pa_nil))) (pe_dget hu (pe_fld (pv 0) rfl) (pv 1) (fun _ _ => rfl)) pe_non))), ?_⟩
    obtain ⟨dx, D, h1, h2⟩ := id ha.ob
    refine ⟨_, rfl, a, dx, _, rfl, h1, flds_no _ _ (by decide +kernel) (by decide +kernel), _, rfl, a, n, f, x, rfl, ha, hx, _, rfl, ?_⟩
    cases x with
    | int i =>
      show if (f i).isSome = true then _ else _
      have q' : _ := q
      dsimp only [tgtV] at q'
      cases hf : f i with
      | none =>
        rw [hf] at q'
        exact iteF q'
      | some y =>
        rw [hf] at q'
        have := dget_tab h2 ha.wf i
        rw [hf] at this
        exact iteT ⟨_, rfl, a, _, dx, _, _, rfl, h1, T.o_Map.cl, T.na_own_arrows_Map, flds_arrows _ _, _, rfl, D, .int y, rfl, this, q'⟩
    | _ => exact iteF q
/-! ### repr, the empty dict too -/
end
end My
namespace My
open PySem L2 U StX PM PyProof.Rows
/-! ### great maps: made, read -/
/-- {xs!r}, a list of what repr says by the text alone -/
def tFmtL (K : PySem.W.Frag) (te : TE) : TE := fun σ H Q => te σ H fun x H1 => ∃ a d, x = .ref a ∧ Dp K H1 (.ref a) d ∧ d.showable = true ∧ d.hasDict = false ∧ d.depth ≤ 60 ∧ d.shown.length ≤ sizeLine ∧ Q (.str d.shown) H1
theorem pe_fmtL {X : Cx} {e : Expr} {te : TE} {pos : PySem.Pos} (g : X.A.guards = some []) (hu : X.A.units + 64 < cLine) (he : PE X e te) : PE X (.FormattedValue e 114 none pos) (tFmtL X.K te) := by
  refine ⟨fun pins s σ H Q I h => ?_⟩
  refine wpAny_FormattedValue_repr (thn (he.run pins s σ H _ I h) fun v s1 hv => ?_)
  obtain ⟨x, H1, I1, r1, a, d, rfl, hd, hs, hn, hdp, hz, q⟩ := hv
  cases (show v = Value.ref a from r1)
  obtain ⟨as, rd⟩ := Dp.reads I1 d _ _ hd r1
  refine pyReprObj_of_reads rd hs (PyData.noDict_hsm hn) g (by omega) (fun _ _ e => e) (fun h' u tk hk => ?_) hz
  have I2 : Inv X pins σ H1 { s1 with heap := h', toks := tk } := I1.kept (t' := tk) hk
  exact wpAny_formatField_str ⟨.str _, H1, I2, ⟨_, rfl⟩, q⟩ ⟨.str _, H1, I2.tok _, ⟨_, rfl⟩, q⟩ hz
def vN (l : List Nat) : List V := l.map fun (n : Nat) => V.int n
theorem vN_len (l : List Nat) : (vN l).length = l.length := List.length_map ..
def big30 : Int := 1000000000000000000000000000000
def gflds (D1 D2 : Addr) : List (Str × V) := putF "own_chains" (.ref D2) (putF "own_cycles" (.ref D1) [])
theorem ne_gfld : ¬ (("own_cycles" : Str) = "own_chains") := by decide +kernel
theorem gflds_cy (D1 D2 : Addr) : (gflds D1 D2).lookup ("own_cycles" : Str) = some (.ref D1) := by
  unfold gflds
  rw [lookup_putF, if_neg ne_gfld, lookup_putF, if_pos rfl]
theorem gflds_ch (D1 D2 : Addr) : (gflds D1 D2).lookup ("own_chains" : Str) = some (.ref D2) := by
  unfold gflds
  rw [lookup_putF, if_pos rfl]
theorem gflds_no (D1 D2 : Addr) {m : Str} (h1 : ¬ m = "own_chains") (h2 : ¬ m = "own_cycles") : (gflds D1 D2).lookup m = none := by
  unfold gflds
  rw [lookup_putF, if_neg h1, lookup_putF, if_neg h2]
  all_goals rfl
def LenL (l : List Nat) : Prop := l.length ≤ 100 ∧ ∀ n ∈ l, 1 ≤ n ∧ (n : Int) ≤ big30
structure IsGreat (C : Addr) (H : Hp) (g : Addr) (cy ch : List Nat) : Prop where
  ob : ∃ dx D1 D2, H g = some (.ins C dx (gflds D1 D2)) ∧ H D1 = some (.lst (vN cy)) ∧ H D2 = some (.lst (vN ch))
  l1 : LenL cy
  l2 : LenL ch
theorem IsGreat.same {C : Addr} {H H' : Hp} {g : Addr} {cy ch : List Nat} (h : IsGreat C H g cy ch) (s : Same H H') : IsGreat C H' g cy ch := by
  obtain ⟨⟨dx, D1, D2, e1, e2, e3⟩, l1, l2⟩ := h
  exact ⟨⟨dx, D1, D2, s _ _ e1, s _ _ e2, s _ _ e3⟩, l1, l2⟩
theorem IsGreat.at_ {C : Addr} {H : Hp} {g : Addr} {cy ch : List Nat} (h : IsGreat C H g cy ch) : ∃ dx fs, H g = some (.ins C dx fs) := by
  obtain ⟨⟨dx, D1, D2, e1, e2, e3⟩, l1, l2⟩ := h
  exact ⟨_, _, e1⟩
/-- the two lists of a great map stand elsewhere -/
def GNe (C : Addr) (H : Hp) (g z : Addr) : Prop := ∃ dx D1 D2, H g = some (.ins C dx (gflds D1 D2)) ∧ D1 ≠ z ∧ D2 ≠ z
theorem GNe.same {C : Addr} {H H' : Hp} {g z : Addr} (h : GNe C H g z) (s : Same H H') : GNe C H' g z := by
  obtain ⟨dx, D1, D2, e, h⟩ := h
  exact ⟨dx, D1, D2, s _ _ e, h⟩
theorem gflds_inj {D1 D2 E1 E2 : Addr} (h : gflds D1 D2 = gflds E1 E2) : D1 = E1 ∧ D2 = E2 := by
  have h1 := gflds_cy D1 D2
  have h2 := gflds_ch D1 D2
  rw [h, gflds_cy] at h1
  rw [h, gflds_ch] at h2
  cases h1; cases h2
  exact ⟨rfl, rfl⟩
theorem IsGreat.off {C : Addr} {H H' : Hp} {g z : Addr} {cy ch : List Nat} (h : IsGreat C H g cy ch) (ne : GNe C H g z) (hz : g ≠ z) (o : Off z H H') : IsGreat C H' g cy ch := by
  obtain ⟨⟨dx, D1, D2, e1, e2, e3⟩, l1, l2⟩ := h
  obtain ⟨dy, E1, E2, f1, n1, n2⟩ := ne
  rw [e1] at f1
  have f1 := Option.some.inj f1
  have f2 : gflds D1 D2 = gflds E1 E2 := by injection f1
  obtain ⟨rfl, rfl⟩ := gflds_inj f2
  exact ⟨⟨dx, D1, D2, o _ _ hz e1, o _ _ n1 e2, o _ _ n2 e3⟩, l1, l2⟩
theorem GNe.off {C : Addr} {H H' : Hp} {g z : Addr} (h : GNe C H g z) (hz : g ≠ z) (o : Off z H H') : GNe C H' g z := by
  obtain ⟨dx, D1, D2, e, h⟩ := h
  exact ⟨dx, D1, D2, o _ _ hz e, h⟩
def spAL : Sp := fun vs H Q _ => ∃ a l, vs = [.ref a] ∧ H a = some (.lst (vN l)) ∧ LenL l ∧ ∀ H', Same H H' → Q (.bl true) H'
def spGI (C : Addr) : Sp := fun vs H Q _ => ∃ (p dx a b : Addr) (cy ch : List Nat), vs = [.ref p, .ref a, .ref b] ∧ H p = some (.ins C dx []) ∧ H a = some (.lst (vN cy)) ∧ H b = some (.lst (vN ch)) ∧ LenL cy ∧ LenL ch ∧
  ∀ H', Off p H H' → IsGreat C H' p cy ch → (∀ z o, H z = some o → GNe C H' p z) → Q .non H'
def spGL (C : Addr) (pick : List Nat → List Nat → List Nat) : Sp := fun vs H Q _ => ∃ (g : Addr) (cy ch : List Nat), vs = [.ref g] ∧ IsGreat C H g cy ch ∧ ∀ p, H p = none → Q (.ref p) (upd H p (.lst (vN (pick cy ch))))
theorem initG_of {C : Addr} {H : Hp} {a b : Addr} {cy ch : List Nat} {R : VK} {E : XK} {x dx : Addr} (ha : H a = some (.lst (vN cy))) (hb : H b = some (.lst (vN ch))) (l1 : LenL cy) (l2 : LenL ch)
    (hx : H x = none) (hdx : H dx = none) (ne : dx ≠ x) (q : ∀ H', Same H H' → IsGreat C H' x cy ch → (∀ z o, H z = some o → GNe C H' x z) → R .non H') :
    spGI C [.ref x, .ref a, .ref b] (upd (upd H dx (.own x)) x (.ins C dx [])) R E := by
  have s0 : Same H (upd (upd H dx (.own x)) x (.ins C dx [])) := fun b o e => by
    rw [upd_ne (ne_of_none e hx), upd_ne (ne_of_none e hdx)]
    exact e
  exact ⟨x, dx, a, b, cy, ch, rfl, upd_same, s0 _ _ ha, s0 _ _ hb, l1, l2, fun H' o g n => q H' (fun b u e => o b u (ne_of_none e hx) (s0 b u e)) g fun z o e => n z o (s0 _ _ e)⟩
section
variable {P : Program} {w : World} {K : PySem.W.Frag} {mg : Str → Option Value} {base : Heap}
theorem ok_are_lengths (T : Txt K mg) : FnR P w K mg base CX0 3 T.f_are_lengths spAL := by
  refine T.A_are_lengths.ok sc_are_lengths (fun vs H Q E h => ?_) (fun cdv A outer s H vs Q E hr h => ?_)
  · obtain ⟨a, l, rfl, _⟩ := h
    rfl
  · obtain ⟨a, l, rfl, ha, ⟨hl, hv⟩, q⟩ := h
    obtain ⟨_, h_MAX_PARTS⟩ := T.v_MAX_PARTS
    obtain ⟨_, h_MAX_NUMBER⟩ := T.v_MAX_NUMBER
    refine ⟨_, (pss_cons (ps_if (PW.pt (pw_or (pt_not (pt_val (pe_callB call_isi (by rfl) T.n_isinstance (by decide +kernel) (pa_cons (pv 0) (pa_cons (pe_bltn (v := .ty "list") (u := .type "list") (by rfl) T.n_list (by decide +kernel) rfl) pa_nil))))) (pw_or1 (pt_cmpR op_gt (pe_callB call_len_seq (by rfl) T.n_len (by decide +kernel) (pa_cons (pv 0) pa_nil)) (pe_glob (v := .int 100) rfl h_MAX_PARTS ⟨_, rfl⟩) (nomark _)))))
        (pss_one (ps_ret pe_bl)) pss_nil)
      (pss_one (ps_ret (pe_callB (cr_all rfl) (by rfl) T.n_all (by decide +kernel) (pa_cons (pe_lc (own := [("length", 1)]) (g := (gName 1)) (tt := tYes) rfl sc_are_lengths.nd (pi_list (pv 0)) (blkOk_by (own := [("length", 1)]) (N := n_are_lengths) (sc := defScope s_are_lengths) (by decide +kernel)) (fun _ _ _ _ _ => (pg_name (i := 1) sc_are_lengths.nd rfl (Or.inl rfl))) (fun _ _ _ _ _ => pts_nil) (fun _ _ _ _ _ => (pe_callR (ok_in_range T) (hr.mono (by decide)) T.A_in_range.kp rfl T.g_in_range pass0 (pa_cons (pv 1) (pa_cons pe_int (pa_cons (pe_glob (v := .int 1000000000000000000000000000000) rfl h_MAX_NUMBER ⟨_, rfl⟩) pa_nil)))))) pa_nil))))), ?_⟩
    refine ⟨_, rfl, _, _, _, _, _, rfl, .ty _, .base (.lst ha), kit_ty (r := true) (by decide +kernel), _, rfl, iteF ?_⟩
    refine ⟨_, rfl, a, _, rfl, .inl (SqL.of ha), _, _, rfl, rfl, _, rfl, ?_⟩
    refine ifD (fun h => absurd h (by rw [vN_len]; omega)) (fun _ => ?_)
    dsimp only [tNext, tRet, tCB, tCons]
    refine lc_lst (xs := l) (fun (n : Nat) => V.int n) (fun n => [some (.ref a), some (.int n)]) (fun _ => true) (fun n => .bl (inR (.int (n : Int)) 1 big30)) (fun R r => ⟨_, rfl, r⟩) ha (fun y hy' H1 s1 R r => r) (fun y _ => rfl) (fun y hy' H1 s1 => ⟨fun R r => r, fun _ R r => ⟨_, rfl, _, 1, big30, rfl, trivial, r⟩⟩) (lt_line (by omega)) (fun D H1 nD hD s1 => ?_)
    rw [List.filter_eq_self.mpr (fun _ _ => rfl)] at hD
    refine ⟨D, l.map fun (n : Nat) => inR (.int (n : Int)) 1 big30, rfl, SqL.of (by rw [List.map_map]; exact hD), ?_⟩
    rw [show ((l.map fun (n : Nat) => inR (.int (n : Int)) 1 big30).all id) = true by
      rw [List.all_map, List.all_eq_true]
      intro n hn
      have := hv n hn
      simp only [Function.comp, id, inR, Bool.and_eq_true, decide_eq_true_eq]
      omega]
    exact q H1 s1
theorem ok_ginit (T : Txt K mg) : FnR P w K mg base CX0 5 T.f_GreatMap__init (spGI T.C_GreatMap) := by
  refine T.A_GreatMap__init.ok sc_GreatMap__init (fun vs H Q E h => ?_) (fun cdv A outer s H vs Q E hr h => ?_)
  · obtain ⟨p, dx, a, b, cy, ch, rfl, _⟩ := h
    rfl
  · obtain ⟨p, dx, a, b, cy, ch, rfl, hp, ha, hb, l1, l2, q⟩ := h
    refine ⟨_, (pss_cons (ps_if (pt_not (pt_val (pe_callR (ok_are_lengths T) (hr.mono (by decide)) T.A_are_lengths.kp rfl T.g_are_lengths pass0 (pa_cons (pv 1) pa_nil))))
        (pss_one ps_never) pss_nil)
      (pss_cons (ps_if (pt_not (pt_val (pe_callR (ok_are_lengths T) (hr.mono (by decide)) T.A_are_lengths.kp rfl T.g_are_lengths pass0 (pa_cons (pv 2) pa_nil))))
        (pss_one ps_never) pss_nil)
      (pss_cons (ps_fld (pv 0) (pe_callTy call_list_of (by rfl) T.n_list (by decide +kernel) (pa_cons (pv 1) pa_nil)) rfl)
      (pss_one (ps_fld (pv 0) (pe_callTy call_list_of (by rfl) T.n_list (by decide +kernel) (pa_cons (pv 2) pa_nil)) rfl))))), ?_⟩
    refine ⟨_, rfl, a, cy, rfl, ha, l1, fun H1 s1 => ⟨_, rfl, iteF ?_⟩⟩
    refine ⟨_, rfl, b, ch, rfl, s1 _ _ hb, l2, fun H2 s2 => ⟨_, rfl, iteF ?_⟩⟩
    have s12 := s1.trans s2
    refine ⟨_, rfl, a, _, rfl, .inl (SqL.of (s12 _ _ ha)), fun D1 n1 => ?_⟩
    have hp2 := s12 _ _ hp
    have nD1p : D1 ≠ p := (ne_of_none hp2 n1).symm
    refine ⟨_, rfl, p, T.C_GreatMap, dx, [], rfl, carryNew n1 hp2, T.o_GreatMap.cl, T.na_own_cycles_GreatMap, (by show 0 < 1000; decide), ?_⟩
    have nbp : b ≠ p := ne_of hb hp (by intro z; cases z)
    have hb3 : (upd (upd H2 D1 (.lst (vN cy))) p (.ins T.C_GreatMap dx (putF "own_cycles" (.ref D1) []))) b = some (.lst (vN ch)) := by
      rw [upd_ne nbp]; exact carryNew n1 (s12 _ _ hb)
    refine ⟨_, rfl, b, _, rfl, .inl (SqL.of hb3), fun D2 n2 => ?_⟩
    have nD2p : D2 ≠ p := fun z => by rw [z, upd_same] at n2; cases n2
    have n2' : (upd H2 D1 (.lst (vN cy))) D2 = none := by rw [upd_ne nD2p] at n2; exact n2
    have nD21 : D2 ≠ D1 := fun z => by rw [z, upd_same] at n2'; cases n2'
    refine ⟨_, rfl, p, T.C_GreatMap, dx, _, rfl, (by rw [upd_ne nD2p.symm]; exact upd_same), T.o_GreatMap.cl, T.na_own_chains_GreatMap, (by show 1 < 1000; decide), ?_⟩
    refine q _ (fun c o hc e => ?_) ⟨⟨dx, D1, D2, upd_same, ?_, ?_⟩, l1, l2⟩ (fun z o e => ⟨dx, D1, D2, upd_same, (ne_of_none (s12 _ _ e) n1).symm, (ne_of_none (s12 _ _ e) (freeUp n2')).symm⟩)
    · rw [upd_ne hc, upd_ne (fun z => by rw [z] at e; rw [carryNew n1 (s12 _ _ e)] at n2'; cases n2'), upd_ne hc]
      exact carryNew n1 (s12 _ _ e)
    · rw [upd_ne nD1p, upd_ne nD21.symm, upd_ne nD1p, upd_same]
    · rw [upd_ne nD2p, upd_same]
theorem ok_g_cycles (T : Txt K mg) : FnR P w K mg base CX0 1 T.f_GreatMap_cycles (spGL T.C_GreatMap fun cy _ => cy) := by
  refine T.A_GreatMap_cycles.ok sc_GreatMap_cycles (fun vs H Q E h => ?_) (fun cdv A outer s H vs Q E hr h => ?_)
  · obtain ⟨g, cy, ch, rfl, _⟩ := h
    rfl
  · obtain ⟨g, cy, ch, rfl, ⟨⟨dx, D1, D2, e1, e2, e3⟩, _⟩, q⟩ := h
    refine ⟨_, (pss_one (ps_ret (pe_callTy call_list_of (by rfl) T.n_list (by decide +kernel) (pa_cons (pe_fld (pv 0) rfl) pa_nil)))), ?_⟩
    exact ⟨_, rfl, g, _, dx, _, _, rfl, e1, T.o_GreatMap.cl, T.na_own_cycles_GreatMap, gflds_cy _ _, D1, _, rfl, .inl (SqL.of e2), fun p np => q p np⟩
theorem ok_g_chains (T : Txt K mg) : FnR P w K mg base CX0 1 T.f_GreatMap_chains (spGL T.C_GreatMap fun _ ch => ch) := by
  refine T.A_GreatMap_chains.ok sc_GreatMap_chains (fun vs H Q E h => ?_) (fun cdv A outer s H vs Q E hr h => ?_)
  · obtain ⟨g, cy, ch, rfl, _⟩ := h
    rfl
  · obtain ⟨g, cy, ch, rfl, ⟨⟨dx, D1, D2, e1, e2, e3⟩, _⟩, q⟩ := h
    refine ⟨_, (pss_one (ps_ret (pe_callTy call_list_of (by rfl) T.n_list (by decide +kernel) (pa_cons (pe_fld (pv 0) rfl) pa_nil)))), ?_⟩
    exact ⟨_, rfl, g, _, dx, _, _, rfl, e1, T.o_GreatMap.cl, T.na_own_chains_GreatMap, gflds_ch _ _, D2, _, rfl, .inl (SqL.of e3), fun p np => q p np⟩
/-! ### places -/
def kd (b : Bool) : Str := if b then "cycle" else "chain"
def PlaceG (H : Hp) (cy ch : List Nat) (a : Addr) (b : Bool) (i m n : Nat) : Prop := H a = some (.tup [.str (kd b), .int i, .int m]) ∧ (if b then cy else ch)[i]? = some n ∧ m < n
theorem PlaceG.same {H H' : Hp} {cy ch : List Nat} {a : Addr} {b : Bool} {i m n : Nat} (h : PlaceG H cy ch a b i m n) (s : Same H H') : PlaceG H' cy ch a b i m n := ⟨s _ _ h.1, h.2⟩
end
end My
namespace My
open PySem L2 U StX PM
theorem units65 {k : Nat} {A : Around} (r : Room k A) : A.units + 65 < cLine := by have := r.un; omega
def kinds : List PyData := [.str "cycle", .str "chain"]
theorem kshape (b : Bool) : SeqAt.shaped (.str (kd b)) = true := by
  cases b <;> decide +kernel
theorem kshapeL : SeqAt.shaped (.list kinds) = true := by decide +kernel
theorem kany (b : Bool) : (!kinds.any fun z => PyData.eqv z (.str (kd b))) = false := by
  cases b <;> decide +kernel
theorem kcyc (b : Bool) : decide (V.str (kd b) = V.str "cycle") = b := by
  cases b <;> decide +kernel
def aftV (b : Bool) (m n : Nat) (e : Int) : Option Int := if b then some ((m + e) % n) else if 0 ≤ m + e ∧ m + e < n then some (m + e) else none
def IsAft (H : Hp) (b : Bool) (i : Nat) (o : Option Int) (v : V) : Prop := match o with
  | none => v = .non
  | some x => ∃ t, v = .ref t ∧ H t = some (.tup [.str (kd b), .int i, .int x])
def spLA (C : Addr) : Sp := fun vs H Q _ => ∃ (p a : Addr) (cy ch : List Nat) (b : Bool) (i m n : Nat), vs = [.ref p, .ref a] ∧ IsGreat C H p cy ch ∧ PlaceG H cy ch a b i m n ∧ ∀ H', Same H H' → Q (.int n) H'
def spAft (C : Addr) : Sp := fun vs H Q _ => ∃ (p a : Addr) (cy ch : List Nat) (b : Bool) (i m n : Nat) (e : Int), vs = [.ref p, .ref a, .int e] ∧ IsGreat C H p cy ch ∧ PlaceG H cy ch a b i m n ∧ ∀ v H', Same H H' → IsAft H' b i (aftV b m n e) v → Q v H'
def fatG (b : Bool) (m n : Nat) : V := if b then .non else .int ((n : Int) - 1 - m)
def spFat (C : Addr) : Sp := fun vs H Q _ => ∃ (p a : Addr) (cy ch : List Nat) (b : Bool) (i m n : Nat), vs = [.ref p, .ref a] ∧ IsGreat C H p cy ch ∧ PlaceG H cy ch a b i m n ∧ ∀ H', Same H H' → Q (fatG b m n) H'
section
variable {P : Program} {w : World} {K : PySem.W.Frag} {mg : Str → Option Value} {base : Heap}
theorem ok_length_at (T : Txt K mg) : FnR P w K mg base CX0 5 T.f_GreatMap_length_at (spLA T.C_GreatMap) := by
  refine T.A_GreatMap_length_at.ok sc_GreatMap_length_at (fun vs H Q E h => ?_) (fun cdv A outer s H vs Q E hr h => ?_)
  · obtain ⟨p, a, cy, ch, b, i, m, n, rfl, _⟩ := h
    rfl
  · obtain ⟨p, a, cy, ch, b, i, m, n, rfl, hp, ⟨ha, hi, hm⟩, q⟩ := h
    refine ⟨_, (pss_cons (ps_if (PW.pt (pw_or (pt_not (pt_val (pe_callB call_isi (by rfl) T.n_isinstance (by decide +kernel) (pa_cons (pv 1) (pa_cons (pe_bltn (v := .ty "tuple") (u := .type "tuple") (by rfl) T.n_tuple (by decide +kernel) rfl) pa_nil))))) (pw_or (pt_cmpR op_ne (pe_callB call_len_seq (by rfl) T.n_len (by decide +kernel) (pa_cons (pv 1) pa_nil)) pe_int (nomark _)) (pw_or1 (pt_cmpR (op_notInT (units65 hr)) (pe_ix ix_tup (pv 1) pe_int (fun _ _ => rfl)) (pe_tup (pa_cons pe_str (pa_cons pe_str pa_nil))) (by rfl))))))
        (pss_one ps_never) pss_nil)
      (pss_cons (ps_set (i := 2) sc_GreatMap_length_at.nd rfl (Or.inl rfl) (pe_ifExp (pt_cmpR op_eq (pe_ix ix_tup (pv 1) pe_int (fun _ _ => rfl)) pe_str (nomark _)) (pe_fld (pv 0) rfl) (pe_fld (pv 0) rfl)))
      (pss_cons (ps_if (PW.pt (pw_or (pt_not (pt_val (pe_callR (ok_in_range T) (hr.mono (by decide)) T.A_in_range.kp rfl T.g_in_range pass0 (pa_cons (pe_ix ix_tup (pv 1) pe_int (fun _ _ => rfl)) (pa_cons pe_int (pa_cons (pe_op op_sub (pe_callB call_len_seq (by rfl) T.n_len (by decide +kernel) (pa_cons (pv 2) pa_nil)) pe_int) pa_nil)))))) (pw_or1 (pt_not (pt_val (pe_callR (ok_in_range T) (hr.mono (by decide)) T.A_in_range.kp rfl T.g_in_range pass0 (pa_cons (pe_ix ix_tup (pv 1) pe_int (fun _ _ => rfl)) (pa_cons pe_int (pa_cons (pe_op op_sub (pe_ix ix_list (pv 2) (pe_ix ix_tup (pv 1) pe_int (fun _ _ => rfl)) (fun _ _ => rfl)) pe_int) pa_nil)))))))))
        (pss_one ps_never) pss_nil)
      (pss_one (ps_ret (pe_ix ix_list (pv 2) (pe_ix ix_tup (pv 1) pe_int (fun _ _ => rfl)) (fun _ _ => rfl))))))), ?_⟩
    refine ⟨_, rfl, _, _, _, _, _, rfl, .ty _, .base (.tup ha), kit_ty (r := true) (by decide +kernel), _, rfl, iteF ?_⟩
    refine ⟨_, rfl, a, _, rfl, .inr (SqT.of ha), rfl, _, rfl, iteF ?_⟩
    refine ⟨_, rfl, a, _, 0, _, rfl, rfl, SqT.of ha, atI_nat (j := 0) rfl, two_le, ?_⟩
    refine fun t n_t => ?_
    generalize g_t : L2.upd _ t _ = H1
    obtain ⟨s_H1, e_t⟩ := U.upd_facts g_t n_t
    clear g_t
    refine ⟨.str (kd b), t, _, kinds, rfl, .str _, SqT.of e_t, .cons (.str _) (.cons (.str _) .nil), kshape b, kshapeL, _, rfl, ?_⟩
    rw [kany b]
    refine iteF ?_
    have ha1 := s_H1 _ _ ha
    have hp1 := hp.same s_H1
    obtain ⟨⟨dx, D1, D2, g1, g2, g3⟩, l1, l2⟩ := hp1
    refine ⟨_, rfl, a, _, 0, _, rfl, rfl, SqT.of ha1, atI_nat (j := 0) rfl, rfl, _, rfl, ?_⟩
    rw [kcyc b]
    have hil : i < (if b then cy else ch).length := by
      rw [List.getElem?_eq_some_iff] at hi
      exact hi.1
    have hi' : (vN (if b then cy else ch))[i]? = some (.int n) := by unfold vN; rw [List.getElem?_map, hi]; rfl
    cases b with
    | true =>
      replace hi' : (vN cy)[i]? = some (.int n) := hi'
      replace hil : i < cy.length := hil
      refine iteT ⟨_, rfl, _, _, _, _, _, rfl, g1, T.o_GreatMap.cl, T.na_own_cycles_GreatMap, gflds_cy D1 D2, ?_⟩
      refine ⟨_, rfl, a, _, 1, _, rfl, rfl, SqT.of ha1, atI_nat (j := 1) rfl, ?_⟩
      refine ⟨_, rfl, D1, _, rfl, .inl (SqL.of g2), _, _, rfl, rfl, ?_⟩
      rw [vN_len]
      refine ⟨_, _, _, rfl, trivial, _, rfl, ?_⟩
      rw [show inR (.int (i : Int)) 0 ((cy.length : Int) - 1) = true by simp only [inR, Bool.and_eq_true, decide_eq_true_eq]; omega]
      refine iteF ?_
      refine ⟨_, rfl, a, _, 2, _, rfl, rfl, SqT.of ha1, atI_nat (j := 2) rfl, ?_⟩
      refine ⟨_, rfl, _, rfl, a, _, 1, _, rfl, rfl, SqT.of ha1, atI_nat (j := 1) rfl, D1, _, (i : Int), _, rfl, rfl, SqL.of g2, atI_nat (j := i) hi', _, _, rfl, rfl, ?_⟩
      refine ⟨_, _, _, rfl, trivial, _, rfl, ?_⟩
      rw [show inR (.int (m : Int)) 0 ((n : Int) - 1) = true by simp only [inR, Bool.and_eq_true, decide_eq_true_eq]; omega]
      refine iteF ?_
      exact ⟨_, rfl, _, rfl, a, _, 1, _, rfl, rfl, SqT.of ha1, atI_nat (j := 1) rfl, D1, _, (i : Int), _, rfl, rfl, SqL.of g2, atI_nat (j := i) hi', q H1 s_H1⟩
    | false =>
      replace hi' : (vN ch)[i]? = some (.int n) := hi'
      replace hil : i < ch.length := hil
      refine iteF ⟨_, rfl, _, _, _, _, _, rfl, g1, T.o_GreatMap.cl, T.na_own_chains_GreatMap, gflds_ch D1 D2, ?_⟩
      refine ⟨_, rfl, a, _, 1, _, rfl, rfl, SqT.of ha1, atI_nat (j := 1) rfl, ?_⟩
      refine ⟨_, rfl, D2, _, rfl, .inl (SqL.of g3), _, _, rfl, rfl, ?_⟩
      rw [vN_len]
      refine ⟨_, _, _, rfl, trivial, _, rfl, ?_⟩
      rw [show inR (.int (i : Int)) 0 ((ch.length : Int) - 1) = true by simp only [inR, Bool.and_eq_true, decide_eq_true_eq]; omega]
      refine iteF ?_
      refine ⟨_, rfl, a, _, 2, _, rfl, rfl, SqT.of ha1, atI_nat (j := 2) rfl, ?_⟩
      refine ⟨_, rfl, _, rfl, a, _, 1, _, rfl, rfl, SqT.of ha1, atI_nat (j := 1) rfl, D2, _, (i : Int), _, rfl, rfl, SqL.of g3, atI_nat (j := i) hi', _, _, rfl, rfl, ?_⟩
      refine ⟨_, _, _, rfl, trivial, _, rfl, ?_⟩
      rw [show inR (.int (m : Int)) 0 ((n : Int) - 1) = true by simp only [inR, Bool.and_eq_true, decide_eq_true_eq]; omega]
      refine iteF ?_
      exact ⟨_, rfl, _, rfl, a, _, 1, _, rfl, rfl, SqT.of ha1, atI_nat (j := 1) rfl, D2, _, (i : Int), _, rfl, rfl, SqL.of g3, atI_nat (j := i) hi', q H1 s_H1⟩
theorem ok_after (T : Txt K mg) : FnR P w K mg base CX0 7 T.f_GreatMap_after (spAft T.C_GreatMap) := by
  refine T.A_GreatMap_after.ok sc_GreatMap_after (fun vs H Q E h => ?_) (fun cdv A outer s H vs Q E hr h => ?_)
  · obtain ⟨p, a, cy, ch, b, i, m, n, e, rfl, _⟩ := h
    rfl
  · obtain ⟨p, a, cy, ch, b, i, m, n, e, rfl, hp, pl, q⟩ := h
    refine ⟨_, (pss_cons (ps_set (i := 3) sc_GreatMap_after.nd rfl (Or.inl rfl) (pe_methR (pv 0) T.o_GreatMap.cl T.meth_GreatMap_length_at (ok_length_at T) (hr.mono (by decide)) pass0 (pa_cons (pv 1) pa_nil)))
      (pss_cons (ps_if (pt_not (pt_val (pe_callR (ok_is_integer T) (hr.mono (by decide)) T.A_is_integer.kp rfl T.g_is_integer pass0 (pa_cons (pv 2) pa_nil))))
        (pss_one ps_never) pss_nil)
      (pss_cons (ps_asg (pv 1) (pg_tup rfl (pgs_cons (pg_name (i := 4) sc_GreatMap_after.nd rfl (Or.inl rfl)) (pgs_cons (pg_name (i := 5) sc_GreatMap_after.nd rfl (Or.inl rfl)) (pgs_cons (pg_name (i := 6) sc_GreatMap_after.nd rfl (Or.inl rfl)) pgs_nil)))))
      (pss_cons (ps_if (pt_cmpR op_eq (pv 4) pe_str (nomark _))
        (pss_one (ps_ret (pe_tup (pa_cons (pv 4) (pa_cons (pv 5) (pa_cons (pe_op op_mod (pe_op op_add (pv 6) (pv 2)) (pv 3)) pa_nil)))))) pss_nil)
      (pss_one (ps_ret (pe_ifExp (pt_chain op_le op_lt pe_int (pe_op op_add (pv 6) (pv 2)) (pv 3)) (pe_tup (pa_cons (pv 4) (pa_cons (pv 5) (pa_cons (pe_op op_add (pv 6) (pv 2)) pa_nil)))) pe_non))))))), ?_⟩
    obtain ⟨dx, D1, D2, g1, _, _⟩ := hp.ob
    refine ⟨_, rfl, p, _, _, rfl, g1, gflds_no _ _ (by decide +kernel) (by decide +kernel), _, rfl, p, a, cy, ch, b, i, m, n, rfl, hp, pl, fun H1 s1 => ?_⟩
    refine ⟨_, rfl, _, rfl, trivial, _, rfl, iteF ?_⟩
    have ha1 := s1 _ _ pl.1
    refine ⟨_, rfl, a, [.str (kd b), .int i, .int m], rfl, SqT.of ha1, rfl, .str (kd b), [.int i, .int m], rfl, .int i, [.int m], rfl, .int m, [], rfl, rfl, ?_⟩
    refine ⟨_, rfl, rfl, _, rfl, ?_⟩
    rw [kcyc b]
    have hn : (0 : Int) < n := by have := pl.2.2; omega
    cases b with
    | true =>
      refine iteT ⟨_, rfl, _, rfl, _, rfl, _, rfl, _, _, rfl, rfl, _, rfl, _, _, rfl, rfl, hn, three_le, fun t nt => ?_⟩
      exact q _ _ (s1.trans (Same.new nt)) ⟨t, rfl, upd_same⟩
    | false =>
      refine iteF ⟨_, rfl, _, rfl, _, _, rfl, rfl, _, _, rfl, rfl, _, rfl, ?_⟩
      have z : aftV false m n e = if 0 ≤ (m : Int) + e ∧ (m : Int) + e < n then some ((m : Int) + e) else none := rfl
      rw [z] at q
      refine ifD (fun h => ?_) (fun h => ?_)
      · refine ⟨_, rfl, _, _, rfl, rfl, _, rfl, ?_⟩
        refine ifD (fun h2 => ?_) (fun h2 => ?_)
        · refine ⟨_, rfl, _, rfl, _, rfl, _, rfl, _, _, rfl, rfl, three_le, fun t nt => ?_⟩
          refine q _ _ (s1.trans (Same.new nt)) ?_
          rw [if_pos ⟨h, h2⟩]
          exact ⟨t, rfl, upd_same⟩
        · refine q _ _ s1 ?_
          rw [if_neg (fun z => h2 z.2)]
          rfl
      · refine ⟨_, rfl, iteF ?_⟩
        refine q _ _ s1 ?_
        rw [if_neg (fun z => h z.1)]
        rfl
theorem ok_g_fate (T : Txt K mg) : FnR P w K mg base CX0 7 T.f_GreatMap_fate (spFat T.C_GreatMap) := by
  refine T.A_GreatMap_fate.ok sc_GreatMap_fate (fun vs H Q E h => ?_) (fun cdv A outer s H vs Q E hr h => ?_)
  · obtain ⟨p, a, cy, ch, b, i, m, n, rfl, _⟩ := h
    rfl
  · obtain ⟨p, a, cy, ch, b, i, m, n, rfl, hp, pl, q⟩ := h
    refine ⟨_, (pss_cons (ps_set (i := 2) sc_GreatMap_fate.nd rfl (Or.inl rfl) (pe_methR (pv 0) T.o_GreatMap.cl T.meth_GreatMap_length_at (ok_length_at T) (hr.mono (by decide)) pass0 (pa_cons (pv 1) pa_nil)))
      (pss_one (ps_ret (pe_ifExp (pt_cmpR op_eq (pe_ix ix_tup (pv 1) pe_int (fun _ _ => rfl)) pe_str (nomark _)) pe_non (pe_op op_sub (pe_op op_sub (pv 2) pe_int) (pe_ix ix_tup (pv 1) pe_int (fun _ _ => rfl))))))), ?_⟩
    obtain ⟨dx, D1, D2, g1, _, _⟩ := hp.ob
    refine ⟨_, rfl, p, _, _, rfl, g1, gflds_no _ _ (by decide +kernel) (by decide +kernel), _, rfl, p, a, cy, ch, b, i, m, n, rfl, hp, pl, fun H1 s1 => ?_⟩
    have ha1 := s1 _ _ pl.1
    refine ⟨_, rfl, a, _, 0, _, rfl, rfl, SqT.of ha1, atI_nat (j := 0) rfl, rfl, _, rfl, ?_⟩
    rw [kcyc b]
    cases b with
    | true => exact iteT (q H1 s1)
    | false =>
      exact iteF ⟨_, rfl, _, _, rfl, rfl, _, rfl, a, _, 2, _, rfl, rfl, SqT.of ha1, atI_nat (j := 2) rfl, _, _, rfl, rfl, q H1 s1⟩
end
end My
namespace My
open PySem L2 U StX PM
/-! ### repetition, shape -/
def RepL (l : List Nat) : Prop := (∀ n ∈ l, 1 ≤ n ∧ (n : Int) < Bg) ∧ ∀ i, ((lcmL (l.take i) 1 : Nat) : Int) < Bg
theorem lcmL_snoc (ns : List Nat) (n m : Nat) : lcmL (ns ++ [n]) m = lcmL ns m / Nat.gcd (lcmL ns m) n * n := by
  unfold lcmL
  rw [List.foldl_append]
  rfl
theorem repL_2520 {l : List Nat} (h : ∀ n ∈ l, 1 ≤ n ∧ n ∣ 2520) : RepL l := by
  have b : (2520 : Int) < Bg := by have := Bg_ge; omega
  refine ⟨fun n hn => ⟨(h n hn).1, ?_⟩, fun i => ?_⟩
  · have := Nat.le_of_dvd (by decide) (h n hn).2
    omega
  · have dv : lcmL (l.take i) 1 ∣ 2520 := (lcmL_dvd _ _ _).mpr ⟨by decide, fun x hx => (h x (List.mem_of_mem_take hx)).2⟩
    have := Nat.le_of_dvd (by decide) dv
    omega
def spLarge : Sp := fun vs H Q _ => ∃ (l : Addr) (ns : List Nat) (m : Nat), vs = [.ref l, .int m] ∧ H l = some (.lst (vN ns)) ∧ Q (.int (maxL ns m : Nat)) H
def spMult : Sp := fun vs H Q _ => ∃ (l : Addr) (ns : List Nat), vs = [.ref l] ∧ H l = some (.lst (vN ns)) ∧ RepL ns ∧ Q (.int (lcmL ns 1 : Nat)) H
def spRepO : Sp := fun vs H Q _ => ∃ (l m : Addr) (ns ms : List Nat), vs = [.ref l, .ref m] ∧ H l = some (.lst (vN ns)) ∧ H m = some (.lst (vN ms)) ∧ RepL ns ∧
  ∀ t, H t = none → Q (.ref t) (upd H t (.tup [.int (maxL ms 1 : Nat), .int (lcmL ns 1 : Nat)]))
def spGRep (C : Addr) : Sp := fun vs H Q _ => ∃ (g : Addr) (cy ch : List Nat), vs = [.ref g] ∧ IsGreat C H g cy ch ∧ RepL cy ∧ ∀ t, H t = none → Q (.ref t) (upd H t (.tup [.int (maxL ch 1 : Nat), .int (lcmL cy 1 : Nat)]))
def spCtd : Sp := fun vs H Q _ => ∃ (a : Addr) (ls : List Nat), vs = [.ref a] ∧ H a = some (.lst (vN ls)) ∧ ls.length ≤ 1000 ∧ ∀ p l H', Same H H' → H p = none → H' p = some (.dK (kvI l)) → DI l (cnt ls) → l.length ≤ 1000 → Q (.ref p) H'
def spGSh (C CS : Addr) : Sp := fun vs H Q _ => ∃ (g : Addr) (cy ch : List Nat), vs = [.ref g] ∧ IsGreat C H g cy ch ∧ (∀ n ∈ cy, n ≤ 1000) ∧ (∀ n ∈ ch, n ≤ 1000) ∧ ∀ s cs hs H', Same H H' → IsShape CS H' s cs hs → DI cs (cnt cy) → DI hs (cnt ch) → Q (.ref s) H'
section
variable {P : Program} {w : World} {K : PySem.W.Frag} {mg : Str → Option Value} {base : Heap}
theorem ok_largest (T : Txt K mg) : FnR P w K mg base CX0 1 T.f_largest spLarge := by
  refine T.A_largest.ok sc_largest (fun vs H Q E h => ?_) (fun cdv A outer s H vs Q E hr h => ?_)
  · obtain ⟨l, ns, m, rfl, _⟩ := h
    rfl
  · obtain ⟨l, ns, m, rfl, hl, q⟩ := h
    refine ⟨_, (pss_cons (ps_set (i := 2) sc_largest.nd rfl (Or.inl rfl) (pv 1))
      (pss_cons (ps_for PassesOwn.never rfl (pi_list (pv 0)) (pg_name (i := 3) sc_largest.nd rfl (Or.inl rfl))
        (pss_one (ps_if (pt_cmpR op_gt (pv 3) (pv 2) (nomark _))
        (pss_one (ps_set (i := 2) sc_largest.nd rfl (Or.inl rfl) (pv 3))) pss_nil)))
      (pss_one (ps_ret (pv 2))))), ?_⟩
    refine ⟨_, rfl, _, rfl, l, rfl, ⟨_, SqL.of hl⟩, ?_⟩
    refine for_it (walk_list (xs := ns.map fun (n : Nat) => V.int n)) (fun i σ H' => H' = H ∧ ∃ v3, σ = [some (.ref l), some (.int m), some (.int (maxL (ns.take i) m : Nat)), v3]) ⟨rfl, _, rfl⟩ (fun i σ H' _ ⟨z, _⟩ => by rw [z]; exact SqL.of hl) ?_ ?_
    · rintro i v σ H0 H' hi ⟨rfl, v3, rfl⟩ ⟨rfl, ev⟩
      rw [List.getElem?_map] at ev
      obtain ⟨n, hn, rfl⟩ := Option.map_eq_some_iff.mp ev
      have e1 : ns.take (i + 1) = ns.take i ++ [n] := by rw [List.take_succ, hn]; rfl
      have e2 : maxL (ns.take (i + 1)) m = if maxL (ns.take i) m < n then n else maxL (ns.take i) m := by
        rw [e1]; unfold maxL; rw [List.foldl_append]; rfl
      refine ⟨_, rfl, _, rfl, _, _, rfl, rfl, _, rfl, ?_⟩
      refine ifD (fun h => ?_) (fun h => ?_)
      · refine ⟨_, rfl, rfl, some (.int n), ?_⟩
        rw [e2, if_pos (by omega)]
        rfl
      · refine ⟨rfl, some (.int n), ?_⟩
        rw [e2, if_neg (by omega)]
        rfl
    · rintro σ H' ⟨rfl, v3, rfl⟩
      rw [List.length_map, List.take_length]
      exact ⟨_, rfl, q⟩
theorem ok_common_multiple (T : Txt K mg) : FnR P w K mg base CX0 3 T.f_common_multiple spMult := by
  refine T.A_common_multiple.ok sc_common_multiple (fun vs H Q E h => ?_) (fun cdv A outer s H vs Q E hr h => ?_)
  · obtain ⟨l, ns, rfl, _⟩ := h
    rfl
  · obtain ⟨l, ns, rfl, hl, hd, q⟩ := h
    refine ⟨_, (pss_cons (ps_set (i := 1) sc_common_multiple.nd rfl (Or.inl rfl) pe_int)
      (pss_cons (ps_for PassesOwn.never rfl (pi_list (pv 0)) (pg_name (i := 2) sc_common_multiple.nd rfl (Or.inl rfl))
        (pss_one (ps_set (i := 1) sc_common_multiple.nd rfl (Or.inl rfl) (pe_op L2.op_mulW (pe_op L2.op_fdivW (pv 1) (pe_callR (ok_gcd T) (hr.mono (by decide)) T.A_greatest_divisor.kp rfl T.g_greatest_divisor pass0 (pa_cons (pv 1) (pa_cons (pv 2) pa_nil)))) (pv 2)))))
      (pss_one (ps_ret (pv 1))))), ?_⟩
    refine ⟨_, rfl, l, rfl, ⟨_, SqL.of hl⟩, ?_⟩
    refine for_it (walk_list (xs := ns.map fun (n : Nat) => V.int n)) (fun i σ H' => H' = H ∧ ∃ v2, σ = [some (.ref l), some (.int (lcmL (ns.take i) 1 : Nat)), v2]) ⟨rfl, _, rfl⟩ (fun i σ H' _ ⟨z, _⟩ => by rw [z]; exact SqL.of hl) ?_ ?_
    · rintro i v σ H0 H' hi ⟨rfl, v2, rfl⟩ ⟨rfl, ev⟩
      rw [List.getElem?_map] at ev
      obtain ⟨n, hn, rfl⟩ := Option.map_eq_some_iff.mp ev
      have e1 : ns.take (i + 1) = ns.take i ++ [n] := by rw [List.take_succ, hn]; rfl
      obtain ⟨n1, n2⟩ := hd.1 n (List.mem_of_getElem? hn)
      have le1 := hd.2 i
      have gp : 0 < Nat.gcd (lcmL (ns.take i) 1) n := Nat.gcd_pos_of_pos_right _ (by omega)
      have gl := Nat.gcd_le_right (lcmL (ns.take i) 1) (show 0 < n by omega)
      have dl : lcmL (ns.take i) 1 / Nat.gcd (lcmL (ns.take i) 1) n ≤ lcmL (ns.take i) 1 := Nat.div_le_self _ _
      have dp : (0 : Int) ≤ ((lcmL (ns.take i) 1 / Nat.gcd (lcmL (ns.take i) 1) n : Nat) : Int) := Int.natCast_nonneg _
      have dc : ((lcmL (ns.take i) 1 : Nat) : Int) / ((Nat.gcd (lcmL (ns.take i) 1) n : Nat) : Int) = ((lcmL (ns.take i) 1 / Nat.gcd (lcmL (ns.take i) 1) n : Nat) : Int) := (Int.natCast_ediv _ _).symm
      have eg : gI (lcmL (ns.take i) 1 : Nat) n = (Nat.gcd (lcmL (ns.take i) 1) n : Nat) := gI_nat ..
      refine ⟨_, rfl, _, rfl, _, rfl, _, _, rfl, by omega, by omega, _, _, rfl, rfl, Bg_div (by rw [eg]; omega) (by rw [eg]; omega), _, rfl, _, _, rfl, rfl, Bg_mul (by rw [eg, dc]; exact dp) (by rw [eg, dc]; exact Int.lt_of_le_of_lt (Int.ofNat_le.mpr dl) le1) (by omega) n2, rfl, some (.int n), ?_⟩
      rw [e1, lcmL_snoc, eg]
      push_cast
      rfl
    · rintro σ H' ⟨rfl, v3, rfl⟩
      rw [List.length_map, List.take_length]
      exact ⟨_, rfl, q⟩
theorem ok_repetition_of (T : Txt K mg) : FnR P w K mg base CX0 5 T.f_repetition_of spRepO := by
  refine T.A_repetition_of.ok sc_repetition_of (fun vs H Q E h => ?_) (fun cdv A outer s H vs Q E hr h => ?_)
  · obtain ⟨l, m, ns, ms, rfl, _⟩ := h
    rfl
  · obtain ⟨l, m, ns, ms, rfl, hl, hm, hd, q⟩ := h
    refine ⟨_, (pss_one (ps_ret (pe_tup (pa_cons (pe_callR (ok_largest T) (hr.mono (by decide)) T.A_largest.kp rfl T.g_largest pass0 (pa_cons (pv 1) (pa_cons pe_int pa_nil))) (pa_cons (pe_callR (ok_common_multiple T) (hr.mono (by decide)) T.A_common_multiple.kp rfl T.g_common_multiple pass0 (pa_cons (pv 0) pa_nil)) pa_nil))))), ?_⟩
    exact ⟨_, rfl, m, ms, 1, rfl, hm, _, rfl, l, ns, rfl, hl, hd, two_le, fun t nt => q t nt⟩
theorem ok_g_rep (T : Txt K mg) : FnR P w K mg base CX0 7 T.f_GreatMap_repetition (spGRep T.C_GreatMap) := by
  refine T.A_GreatMap_repetition.ok sc_GreatMap_repetition (fun vs H Q E h => ?_) (fun cdv A outer s H vs Q E hr h => ?_)
  · obtain ⟨g, cy, ch, rfl, _⟩ := h
    rfl
  · obtain ⟨g, cy, ch, rfl, ⟨⟨dx, D1, D2, e1, e2, e3⟩, _⟩, hd, q⟩ := h
    refine ⟨_, (pss_one (ps_ret (pe_callR (ok_repetition_of T) (hr.mono (by decide)) T.A_repetition_of.kp rfl T.g_repetition_of pass0 (pa_cons (pe_fld (pv 0) rfl) (pa_cons (pe_fld (pv 0) rfl) pa_nil))))), ?_⟩
    exact ⟨_, rfl, g, _, dx, _, _, rfl, e1, T.o_GreatMap.cl, T.na_own_cycles_GreatMap, gflds_cy _ _, _, rfl, g, _, dx, _, _, rfl, e1, T.o_GreatMap.cl, T.na_own_chains_GreatMap, gflds_ch _ _, D1, D2, cy, ch, rfl, e2, e3, hd, q⟩
theorem ok_counted (T : Txt K mg) : FnR P w K mg base CX0 2 T.f_counted spCtd := by
  refine T.A_counted.ok sc_counted (fun vs H Q E h => ?_) (fun cdv A outer s H vs Q E hr h => ?_)
  · obtain ⟨a, ls, rfl, _⟩ := h
    rfl
  · obtain ⟨a, ls, rfl, ha, hl, q⟩ := h
    have hu := hu_of hr
    refine ⟨_, (pss_cons (ps_set (i := 1) sc_counted.nd rfl (Or.inl rfl) pe_dnewK)
      (pss_cons (ps_for PassesOwn.never rfl (pi_list (pv 0)) (pg_name (i := 2) sc_counted.nd rfl (Or.inl rfl))
        (pss_one (ps_dput hu (pv 1) (pv 2) (pe_op op_add (pe_dget2 hu (pv 1) (pv 2) pe_int ⟨rfl, rfl, rfl, rfl⟩) pe_int) rfl)))
      (pss_one (ps_ret (pv 1))))), ?_⟩
    refine fun D n_D => ?_
    generalize g_D : L2.upd _ D _ = H1
    obtain ⟨s_H1, e_D⟩ := U.upd_facts g_D n_D
    clear g_D
    refine ⟨_, rfl, a, rfl, ⟨_, SqL.of (s_H1 _ _ ha)⟩, ?_⟩
    refine for_it (walk_list (xs := vN ls)) (fun i σ H' => ∃ v2 l, σ = [some (.ref a), some (.ref D), v2] ∧ Same H H' ∧ H' D = some (.dK (kvI l)) ∧ DI l (cnt (ls.take i)) ∧ l.length ≤ i)
      ⟨_, [], rfl, s_H1, e_D, ⟨List.nodup_nil, fun _ => rfl⟩, Nat.le_refl _⟩ (fun i σ H' _ ⟨_, _, _, z, _⟩ => SqL.of (z _ _ ha)) ?_ ?_
    · rintro i v σ Ha0 Ha hi ⟨v2, l, rfl, sa, eD, di, hli⟩ ⟨rfl, ev⟩
      rw [vN_len] at hi
      unfold vN at ev
      rw [List.getElem?_map] at ev
      obtain ⟨n, hn, rfl⟩ := Option.map_eq_some_iff.mp ev
      have g := dgetL eD di (n : Int)
      refine ⟨_, rfl, D, rfl, isD_of eD, _, rfl, _, g, ?_⟩
      rw [getDI0]
      refine ⟨_, _, rfl, rfl, _, rfl, _, rfl, D, _, rfl, DPut.k (k := Sum.inl _) eD (small1000 (by rw [kvI_length]; omega)), ?_⟩
      obtain ⟨l', e', hl', di'⟩ := di_putZ di (n : Int) ((cnt (ls.take i) (n : Int)).getD 0 + 1)
      rw [e']
      refine ⟨_, l', rfl, Same.put sa n_D, upd_same, ?_, by omega⟩
      rw [take_more hn, cnt_snoc]
      refine (?_ : (fun z => _) = (fun z => _)) ▸ di'
      funext z
      by_cases h : z = (n : Int)
      · rw [if_pos h, if_pos h, h]
      · rw [if_neg h, if_neg h]
    · rintro σ Hb ⟨v2, l, rfl, sb, eD, di, hlb⟩
      rw [vN_len, List.take_length] at di
      rw [vN_len] at hlb
      exact ⟨_, rfl, q D l _ sb n_D eD di (by omega)⟩
theorem ok_g_shape (T : Txt K mg) : FnR P w K mg base CX0 7 T.f_GreatMap_shape (spGSh T.C_GreatMap T.C_Shape) := by
  refine T.A_GreatMap_shape.ok sc_GreatMap_shape (fun vs H Q E h => ?_) (fun cdv A outer s H vs Q E hr h => ?_)
  · obtain ⟨g, cy, ch, rfl, _⟩ := h
    rfl
  · obtain ⟨g, cy, ch, rfl, hg, b1, b2, q⟩ := h
    have l1 := hg.l1
    have l2 := hg.l2
    obtain ⟨dx, D1, D2, e1, e2, e3⟩ := hg.ob
    refine ⟨_, (pss_one (ps_ret (pe_makeR T.M_Shape (ok_sh_init T) (hr.mono (by decide)) rfl T.g_Shape pass0 (pa_cons (pe_callR (ok_counted T) (hr.mono (by decide)) T.A_counted.kp rfl T.g_counted pass0 (pa_cons (pe_fld (pv 0) rfl) pa_nil)) (pa_cons (pe_callR (ok_counted T) (hr.mono (by decide)) T.A_counted.kp rfl T.g_counted pass0 (pa_cons (pe_fld (pv 0) rfl) pa_nil)) pa_nil))))), ?_⟩
    refine ⟨_, rfl, g, _, dx, _, _, rfl, e1, T.o_GreatMap.cl, T.na_own_cycles_GreatMap, gflds_cy _ _, D1, cy, rfl, e2, by have := l1.1; omega, fun p1 la H1 s1 n1 d1 i1 k1 => ?_⟩
    have e1' := s1 _ _ e1
    refine ⟨_, rfl, g, _, dx, _, _, rfl, e1', T.o_GreatMap.cl, T.na_own_chains_GreatMap, gflds_ch _ _, D2, ch, rfl, s1 _ _ e3, by have := l2.1; omega, fun p2 lb H2 s2 n2 d2 i2 k2 => ?_⟩
    refine fun x dx nx ndx ne => initS_of (s2 _ _ d1) d2 i1.nd i2.nd (cnt_pos (fun L hL => (l1.2 L hL).1) b1 (by have := l1.1; omega) i1) (cnt_pos (fun L hL => (l2.2 L hL).1) b2 (by have := l2.1; omega) i2) k1 k2 nx ndx ne fun cs hs H3 s3 pm1 pm2 sh => ?_
    exact ⟨rfl, q x cs hs H3 ((s1.trans s2).trans s3) sh (di_perm i1 pm1) (di_perm i2 pm2)⟩
end
end My
namespace My
open PySem L2 U StX PM
theorem lc_listN {K : PySem.W.Frag} {te : TE} {i : Nat} {tv : TE} {vs : List Nat} {σ : L2.St} {H : Hp} {Q : VK} {xs : List V} {a : Addr} (vf : Nat → V) (hte : ∀ R : VK, R (.ref a) H → te σ H R) (ha : H a = some (.lst xs)) (hw : ∀ a, wipe ((wipe σ vs).set i a) vs = wipe σ vs)
    (hb : ∀ (k : Nat) (x : V), xs[k]? = some x → ∀ H1, L2.Same H H1 → ∀ R : VK, R (vf k) H1 → tv ((wipe σ vs).set i (some x)) H1 R) (hz : xs.length < sizeLine)
    (hq : ∀ D H', H D = none → H' D = some (.lst ((List.range xs.length).map vf)) → L2.Same H H' → Q (.ref D) H') : tLc (iList K te) (gName i) tYes tv vs σ H Q := by
  refine hte _ ⟨a, rfl, ⟨_, SqL.of ha⟩, fun D hD => ?_⟩
  refine lc_it (walk_list (xs := xs)) (fun k H' => L2.Same H H' ∧ H' D = some (.lst ((List.range k).map vf))) ⟨Same.new hD, upd_same⟩ (fun k H' _ p => SqL.of (p.1 _ _ ha)) ?_ ?_
  · rintro k v H' H'' hk ⟨s1, e1⟩ ⟨rfl, ev⟩
    refine ⟨hw _, yes_ ?_⟩
    refine hb k v ev _ s1 _ ⟨_, e1, ?_, Same.put s1 hD, ?_⟩
    · rw [List.length_map, List.length_range]
      omega
    · rw [upd_same, List.range_succ, List.map_append]
      rfl
  · rintro H' ⟨s1, e1⟩
    exact hq D H' hD e1 s1
theorem lens_eq {H : Hp} {f : PF} : ∀ {as : List Addr} {s : List Int}, RowsAt H as (s.map (rowN f)) → (List.range (as.map V.ref).length).map (fun k => V.int (((lens f s)[k]?).getD 0 : Nat)) = (lens f s).map fun (n : Nat) => V.int n := by
  intro as s h
  have hl := h.len
  apply List.ext_getElem?
  intro k
  rw [List.getElem?_map, List.getElem?_map]
  by_cases hk : k < (as.map V.ref).length
  · rw [List.getElem?_range hk]
    have : k < (lens f s).length := by unfold lens; simp at hk hl ⊢; omega
    show some (V.int (((lens f s)[k]?).getD 0 : Nat)) = _
    rw [List.getElem?_eq_getElem this]
    rfl
  · rw [List.getElem?_eq_none_iff.mpr (by rw [List.length_range]; omega), List.getElem?_eq_none_iff.mpr (by unfold lens; simp at hk hl ⊢; omega)]
    rfl
theorem lens_at {H : Hp} {f : PF} {as : List Addr} {s : List Int} (h : RowsAt H as (s.map (rowN f))) {k : Nat} {x : V} (hx : (as.map V.ref)[k]? = some x) : ∃ (a : Addr) (r : List Int), x = .ref a ∧ H a = some (.lst (r.map V.int)) ∧ ((lens f s)[k]?).getD 0 = r.length := by
  rw [List.getElem?_map] at hx
  obtain ⟨a, ha, rfl⟩ := Option.map_eq_some_iff.mp hx
  obtain ⟨r, hr, e⟩ := h.get k a ha
  refine ⟨a, r, rfl, e, ?_⟩
  rw [List.getElem?_map] at hr
  obtain ⟨z, hz, rfl⟩ := Option.map_eq_some_iff.mp hr
  unfold lens
  rw [List.getElem?_map, hz]
  rfl
theorem call_len_at {X : Cx} {K0 : PySem.W.Frag} (hK : X.K = K0) : CallR X (.builtin "len") (fun xs H Q => ∃ p ys, xs = [V.ref p] ∧ (SqL K0 H p ys ∨ SqT K0 H p ys) ∧ Q (V.int (ys.length : Nat)) H) := by
  subst hK
  exact call_len_seq
def lN (l : List Nat) : PyData := .list (l.map fun (n : Nat) => PyData.int n)
theorem lay_lN (l : List Nat) : PyData.canLay0 (lN l) = true ∧ PyData.depth (lN l) ≤ 60 := by
  have h := lay_all (k := 0) (ds := l.map fun (n : Nat) => PyData.int n) (fun d hd => by
    obtain ⟨n, _, rfl⟩ := List.mem_map.mp hd
    exact ⟨rfl, Nat.le_refl _⟩)
  refine ⟨h.1, ?_⟩
  show PyData.depthAll _ + 1 ≤ 60
  omega
theorem shN (l : List Nat) : SeqAt.shaped (lN l) = true := shaped_all fun d hd => by
    obtain ⟨n, _, rfl⟩ := List.mem_map.mp hd
    exact ⟨rfl, Nat.zero_le _⟩
theorem shNN (a b : List Nat) : SeqAt.shaped (.list [lN a, lN b]) = true := shaped_all fun d hd => by
  simp only [List.mem_cons, List.not_mem_nil, or_false] at hd
  rcases hd with rfl | rfl
  · exact lay_lN _
  · exact lay_lN _
theorem dpsN {K : PySem.W.Frag} {H : Hp} : ∀ (l : List Nat), DpAll K H (vN l) (l.map fun (n : Nat) => PyData.int n)
  | [] => .nil
  | _ :: r => .cons (.int _) (dpsN r)
theorem dpN {K : PySem.W.Frag} {H : Hp} {a : Addr} {l : List Nat} (h : H a = some (.lst (vN l))) : Dp K H (.ref a) (lN l) := .lst (SqL.of h) (dpsN l)
theorem eqNs : ∀ (a b : List Nat), PyData.eqvAll (a.map fun (n : Nat) => PyData.int n) (b.map fun (n : Nat) => PyData.int n) = decide (a = b)
  | [], [] => rfl
  | [], _ :: _ => rfl
  | _ :: _, [] => rfl
  | x :: r, y :: s => by
    show (((x : Int) == (y : Int)) && PyData.eqvAll (r.map fun (n : Nat) => PyData.int n) (s.map fun (n : Nat) => PyData.int n)) = _
    rw [eqNs r s]
    by_cases h : x = y
    · subst h
      simp
    · have : ¬ (x : Int) = (y : Int) := by omega
      simp [h, this]
theorem eqN (a b : List Nat) : PyData.eqv (lN a) (lN b) = decide (a = b) := eqNs a b
/-! short lists of small numbers -/
def SmL (l : List Nat) : Prop := l.length ≤ 3 ∧ ∀ n ∈ l, 1 ≤ n ∧ n ≤ 7
def sevens : List Nat := [1, 2, 3, 4, 5, 6, 7]
def allS : List (List Nat) := [[]] ++ sevens.map (fun a => [a]) ++ sevens.flatMap (fun a => sevens.map fun b => [a, b]) ++ sevens.flatMap (fun a => sevens.flatMap fun b => sevens.map fun c => [a, b, c])
theorem mem7 {n : Nat} (h : 1 ≤ n ∧ n ≤ 7) : n ∈ sevens := by
  unfold sevens
  simp only [List.mem_cons, List.not_mem_nil, or_false]
  omega
theorem SmL.mem {l : List Nat} (h : SmL l) : l ∈ allS := by
  obtain ⟨h1, h2⟩ := h
  unfold allS
  match l, h1, h2 with
  | [], _, _ => simp
  | [a], _, h2 => 
    have := mem7 (h2 a (by simp))
    simp [this]
  | [a, b], _, h2 =>
    have := mem7 (h2 a (by simp))
    have := mem7 (h2 b (by simp))
    simp [*]
  | [a, b, c], _, h2 =>
    have := mem7 (h2 a (by simp))
    have := mem7 (h2 b (by simp))
    have h3 := mem7 (h2 c (by simp))
    simp
    exact ⟨a, mem7 (h2 a (by simp)), b, mem7 (h2 b (by simp)), c, h3, rfl, rfl, rfl⟩
  | _ :: _ :: _ :: _ :: _, h1, _ => simp at h1
def okN (l : List Nat) : Bool := (lN l).showable && !(lN l).hasDict && decide ((lN l).depth ≤ 60) && decide ((lN l).shown.length ≤ 100) && PyData.strOk (lN l).shown
theorem okN_all : (allS.all okN) = true := by decide +kernel
theorem SmL.ok {l : List Nat} (h : SmL l) : (lN l).showable = true ∧ (lN l).hasDict = false ∧ (lN l).depth ≤ 60 ∧ (lN l).shown.length ≤ 100 ∧ OkS (lN l).shown := by
  have h := List.all_eq_true.mp okN_all l h.mem
  unfold okN at h
  simp only [Bool.and_eq_true, decide_eq_true_eq, Bool.not_eq_true'] at h
  exact ⟨h.1.1.1.1, h.1.1.1.2, h.1.1.2, h.1.2, h.2⟩
theorem SmL.len {l : List Nat} (h : SmL l) : LenL l := ⟨by have := h.1; omega, fun n hn => by have := h.2 n hn; unfold big30; omega⟩
theorem SmL.rep {l : List Nat} (h : SmL l) : RepL l := repL_2520 fun n hn => ⟨(h.2 n hn).1, by
  have := h.2 n hn
  have : n = 1 ∨ n = 2 ∨ n = 3 ∨ n = 4 ∨ n = 5 ∨ n = 6 ∨ n = 7 := by omega
  rcases this with rfl | rfl | rfl | rfl | rfl | rfl | rfl <;> decide⟩
def reprG (cy ch : List Nat) : Str := Str.empty ++ "GreatMap(" ++ (lN cy).shown ++ ", " ++ (lN ch).shown ++ ")"
def spGEqV (C : Addr) : Sp := fun vs H Q _ => ∃ a y, vs = [.ref a, y] ∧ ((∃ b cy ch cy' ch', y = .ref b ∧ IsGreat C H a cy ch ∧ IsGreat C H b cy' ch' ∧ Q (.bl (decide (cy = cy') && decide (ch = ch'))) H) ∨ (∃ l xs, y = .ref l ∧ H l = some (.lst xs) ∧ Q (.bl false) H))
def spGRpr (C : Addr) : Sp := fun vs H Q _ => ∃ a cy ch, vs = [.ref a] ∧ IsGreat C H a cy ch ∧ SmL cy ∧ SmL ch ∧ Q (.str (reprG cy ch)) H
def spMRep (C : Addr) : Sp := fun vs H Q _ => ∃ a n f, vs = [.ref a] ∧ IsMap C H a n f ∧ RepL (lens f (cycS n f)) ∧ ∀ t H', Same H H' → H t = none → H' t = some (.tup [.int (idxN n f : Nat), .int (perN n f : Nat)]) → Q (.ref t) H'
section
variable {P : Program} {w : World} {K : PySem.W.Frag} {mg : Str → Option Value} {base : Heap}
theorem ok_m_rep (T : Txt K mg) : FnR P w K mg base (L2.CX P w) 7 T.f_repetition (spMRep T.C_Map) := by
  refine T.A_repetition.okX sc_repetition (fun vs H Q E h => ?_) (fun cdv A outer s H vs Q E hr h => ?_)
  · obtain ⟨a, n, f, rfl, _⟩ := h
    rfl
  · obtain ⟨a, n, f, rfl, hm, rl, q⟩ := h
    refine ⟨_, (pss_cons (ps_expr (pe_callR (ok_check_map T) (hr.mono (by decide)) T.A_check_map.kp rfl T.g_check_map (passes_call (takes_of rfl rfl rfl rfl) (fun _ _ _ _ h => h)) (pa_cons (pv 0) pa_nil)))
      (pss_cons (ps_asg (pe_callR (ok_parts_of T) (hr.mono (by decide)) T.A_parts_of.kp rfl T.g_parts_of pass0 (pa_cons (pv 0) pa_nil)) (pg_tup rfl (pgs_cons (pg_name (i := 1) sc_repetition.nd rfl (Or.inl rfl)) (pgs_cons (pg_name (i := 2) sc_repetition.nd rfl (Or.inl rfl)) pgs_nil))))
      (pss_one (ps_ret (pe_callR (ok_repetition_of T) (hr.mono (by decide)) T.A_repetition_of.kp rfl T.g_repetition_of pass0 (pa_cons (pe_lc (own := [("cycle", 3)]) (g := (gName 3)) (tt := tYes) rfl sc_repetition.nd (pi_list (pv 1)) (blkOk_by (own := [("cycle", 3)]) (N := n_repetition) (sc := defScope s_repetition) (by decide +kernel)) (fun _ _ _ _ _ => (pg_name (i := 3) sc_repetition.nd rfl (Or.inl rfl))) (fun _ _ _ _ _ => pts_nil) (fun _ _ _ _ _ => (pe_callB (call_len_at (K0 := K) (by rfl)) (by rfl) T.n_len (by decide +kernel) (pa_cons (pv 3) pa_nil)))) (pa_cons (pe_lc (own := [("chain", 4)]) (g := (gName 4)) (tt := tYes) rfl sc_repetition.nd (pi_list (pv 2)) (blkOk_by (own := [("chain", 4)]) (N := n_repetition) (sc := defScope s_repetition) (by decide +kernel)) (fun _ _ _ _ _ => (pg_name (i := 4) sc_repetition.nd rfl (Or.inl rfl))) (fun _ _ _ _ _ => pts_nil) (fun _ _ _ _ _ => (pe_callB (call_len_at (K0 := K) (by rfl)) (by rfl) T.n_len (by decide +kernel) (pa_cons (pv 4) pa_nil)))) pa_nil))))))), ?_⟩
    refine ⟨_, rfl, _, rfl, .inl ⟨a, n, f, rfl, hm, ?_⟩⟩
    refine ⟨_, rfl, a, n, f, rfl, hm, fun t lc lh cs hs H1 s1 e1 e2 e3 r1 r2 n1 n2 n3 w1 w2 => ?_⟩
    refine ⟨t, [.ref lc, .ref lh], rfl, SqT.of e1, rfl, .ref lc, [.ref lh], rfl, .ref lh, [], rfl, rfl, ?_⟩
    have hn := hm.hi
    have c1 : cs.length ≤ 300 := by
      have := r1.len
      have h2 := ((cycS_sub n f).1).length_le
      have : (rgI n.toNat).length = n.toNat := by unfold rgI; simp
      simp at *
      omega
    have c2 : hs.length ≤ 300 := by
      have := r2.len
      have h2 : (nons n f).length ≤ (rgI n.toNat).length := List.length_filter_le _ _
      have : (rgI n.toNat).length = n.toNat := by unfold rgI; simp
      simp at *
      omega
    dsimp only [tRet, tCallR, tCons, tNil]
    refine lc_listN (fun k => V.int (((lens f (cycS n f))[k]?).getD 0 : Nat)) (fun R r => ⟨_, rfl, r⟩) e2 (fun _ => rfl) (fun k x hx H2 s2 R r => ?_) (lt_line (by rw [List.length_map]; omega)) (fun D1 H2 nD1 eD1 s2 => ?_)
    · obtain ⟨b, row, rfl, eb, el⟩ := lens_at r1 hx
      refine ⟨_, rfl, b, _, rfl, .inl (SqL.of (s2 _ _ eb)), ?_⟩
      rw [List.length_map, ← el]
      exact r
    rw [lens_eq r1] at eD1
    refine lc_listN (fun k => V.int (((lens f (nons n f))[k]?).getD 0 : Nat)) (fun R r => ⟨_, rfl, r⟩) (s2 _ _ e3) (fun _ => rfl) (fun k x hx H3 s3 R r => ?_) (lt_line (by rw [List.length_map]; omega)) (fun D2 H3 nD2 eD2 s3 => ?_)
    · obtain ⟨b, row, rfl, eb, el⟩ := lens_at r2 hx
      refine ⟨_, rfl, b, _, rfl, .inl (SqL.of (s3 _ _ (s2 _ _ eb))), ?_⟩
      rw [List.length_map, ← el]
      exact r
    rw [lens_eq r2] at eD2
    refine ⟨D1, D2, _, _, rfl, s3 _ _ eD1, eD2, rl, fun t' nt' => ?_⟩
    exact q t' _ (((s1.trans s2).trans s3).trans (Same.new nt')) (((s1.trans s2).trans s3).free nt') upd_same
theorem ok_eqV (T : Txt K mg) : FnR P w K mg base CX0 6 T.f_GreatMap__eq (spGEqV T.C_GreatMap) := by
  refine T.A_GreatMap__eq.ok sc_GreatMap__eq (fun vs H Q E h => ?_) (fun cdv A outer s H vs Q E hr h => ?_)
  · obtain ⟨a, y, rfl, _⟩ := h
    rfl
  · obtain ⟨a, y, rfl, h⟩ := h
    have hu := hu_of hr
    refine ⟨_, (pss_cons (ps_if (pt_not (pt_val (pe_callB call_isi (by rfl) T.n_isinstance (by decide +kernel) (pa_cons (pv 1) (pa_cons (pe_glob (v := .ref T.C_GreatMap) rfl T.g_GreatMap rfl) pa_nil)))))
        (pss_one (ps_ret pe_bl)) pss_nil)
      (pss_one (ps_ret (pe_and (pe_cmpR (L2.op_eqD hr.units) (pe_fld (pv 0) rfl) (pe_fld (pv 1) rfl) (nomark _)) (pe_one (pe_cmpR (L2.op_eqD hr.units) (pe_fld (pv 0) rfl) (pe_fld (pv 1) rfl) (nomark _))))))), ?_⟩
    rcases h with ⟨b, cy, ch, cy', ch', rfl, ha, hb, q⟩ | ⟨l, xs, rfl, hl, q⟩
    · obtain ⟨dx, D1, D2, h1, h2, h3⟩ := ha.ob
      obtain ⟨dy, E1, E2, g1, g2, g3⟩ := hb.ob
      refine ⟨_, rfl, _, _, _, _, true, rfl, .own _, tyx_ins T.o_GreatMap g1, T.self_GreatMap, _, rfl, iteF ?_⟩
      refine ⟨_, rfl, a, _, dx, _, _, rfl, h1, T.o_GreatMap.cl, T.na_own_cycles_GreatMap, gflds_cy _ _, _, rfl, b, _, dy, _, _, rfl, g1, T.o_GreatMap.cl, T.na_own_cycles_GreatMap, gflds_cy _ _, lN cy, lN cy', dpN h2, dpN g2, shN _, shN _, _, rfl, ?_⟩
      rw [eqN]
      refine ifD (fun hc => ?_) (fun hc => ?_)
      · refine ⟨_, rfl, a, _, dx, _, _, rfl, h1, T.o_GreatMap.cl, T.na_own_chains_GreatMap, gflds_ch _ _, _, rfl, b, _, dy, _, _, rfl, g1, T.o_GreatMap.cl, T.na_own_chains_GreatMap, gflds_ch _ _, lN ch, lN ch', dpN h3, dpN g3, shN _, shN _, ?_⟩
        rw [eqN]
        rw [decide_eq_true hc, Bool.true_and] at q
        exact q
      · rw [decide_eq_false hc, Bool.false_and] at q
        exact q
    · exact ⟨_, rfl, _, _, _, _, false, rfl, .own _, .base (.lst hl), T.kn_list_GreatMap, _, rfl, iteT q⟩
theorem ok_repr (T : Txt K mg) : FnG P w K mg base CX0 5 T.f_GreatMap__repr (spGRpr T.C_GreatMap) := by
  refine T.A_GreatMap__repr.okG sc_GreatMap__repr (fun vs H Q E h => ?_) (fun cdv A outer s H vs Q E gd hr h => ?_)
  · obtain ⟨a, cy, ch, rfl, _⟩ := h
    rfl
  · obtain ⟨a, cy, ch, rfl, ha, s1, s2, q⟩ := h
    refine ⟨_, pss_one (ps_ret (pe_joined (.cons pe_str (.cons (pe_fmtL gd hr.units (pe_fld (pv 0) rfl)) (.cons pe_str (.cons (pe_fmtL gd hr.units (pe_fld (pv 0) rfl)) (.cons pe_str .nil))))))), ?_⟩
    obtain ⟨dx, D1, D2, h1, h2, h3⟩ := ha.ob
    obtain ⟨a1, a2, a3, a4, a5⟩ := s1.ok
    obtain ⟨b1, b2, b3, b4, b5⟩ := s2.ok
    have e1 : (Str.empty ++ Str.ofString "GreatMap(").length = 9 := rfl
    have e2 : (Str.empty ++ Str.ofString "GreatMap(" ++ (lN cy).shown).length = 9 + (lN cy).shown.length := by rw [strLen_append, e1]
    have e3 : (Str.empty ++ Str.ofString "GreatMap(" ++ (lN cy).shown ++ Str.ofString ", ").length = 9 + (lN cy).shown.length + 2 := by rw [strLen_append, e2]; rfl
    have e4 : (Str.empty ++ Str.ofString "GreatMap(" ++ (lN cy).shown ++ Str.ofString ", " ++ (lN ch).shown).length = 9 + (lN cy).shown.length + 2 + (lN ch).shown.length := by rw [strLen_append, e3]
    have e5 : (Str.empty ++ Str.ofString "GreatMap(" ++ (lN cy).shown ++ Str.ofString ", " ++ (lN ch).shown ++ Str.ofString ")").length = 9 + (lN cy).shown.length + 2 + (lN ch).shown.length + 1 := by rw [strLen_append, e4]; rfl
    have big : 50000 ≤ sizeLine := by decide
    refine ⟨_, rfl, by rw [e1]; omega, ?_⟩
    refine ⟨_, rfl, a, _, dx, _, _, rfl, h1, T.o_GreatMap.cl, T.na_own_cycles_GreatMap, gflds_cy _ _, D1, lN cy, rfl, dpN h2, a1, a2, a3, Nat.le_trans a4 (by omega), _, rfl, by rw [e2]; omega, ?_⟩
    refine ⟨_, rfl, by rw [e3]; omega, ?_⟩
    refine ⟨_, rfl, a, _, dx, _, _, rfl, h1, T.o_GreatMap.cl, T.na_own_chains_GreatMap, gflds_ch _ _, D2, lN ch, rfl, dpN h3, b1, b2, b3, Nat.le_trans b4 (by omega), _, rfl, by rw [e4]; omega, ?_⟩
    exact ⟨_, rfl, by rw [e5]; omega, q⟩
end
end My
namespace My
open PySem L2 U StX PM
/-! ### powers and rows of maps made of blocks -/
theorem modS {a L : Int} (hL : 0 < L) : (a + 1) % L = if a % L + 1 < L then a % L + 1 else 0 := by
  have h1 := Int.emod_add_mul_ediv a L
  have h2 := Int.emod_nonneg a (show L ≠ 0 by omega)
  have h3 := Int.emod_lt_of_pos a hL
  by_cases h : a % L + 1 < L
  · rw [if_pos h, show a + 1 = (a % L + 1) + L * (a / L) by omega, Int.add_mul_emod_self_left, Int.emod_eq_of_lt (by omega) h]
  · rw [if_neg h, show a + 1 = 0 + L * (a / L + 1) by rw [Int.mul_add]; omega, Int.add_mul_emod_self_left, Int.zero_emod]
theorem modP {a L : Int} (hL : 0 < L) : (a - 1) % L = if 0 < a % L then a % L - 1 else L - 1 := by
  have h1 := Int.emod_add_mul_ediv a L
  have h2 := Int.emod_nonneg a (show L ≠ 0 by omega)
  have h3 := Int.emod_lt_of_pos a hL
  by_cases h : 0 < a % L
  · rw [if_pos h, show a - 1 = (a % L - 1) + L * (a / L) by omega, Int.add_mul_emod_self_left, Int.emod_eq_of_lt (by omega) (by omega)]
  · rw [if_neg h, show a - 1 = (L - 1) + L * (a / L - 1) by rw [Int.mul_sub]; omega, Int.add_mul_emod_self_left, Int.emod_eq_of_lt (by omega) (by omega)]
section
variable {bs : List (Bool × Nat)} {c : Bool} {s L : Nat}
theorem inB_of {x : Int} (h0 : 0 ≤ x) (h1 : x < L) : inB ((s : Int) + x) (c, s, L) = true := inB_iff.mpr ⟨by show (s : Int) ≤ _; omega, by show _ < (s : Int) + (L : Int); omega⟩
theorem bm (hb : (c, s, L) ∈ strt 0 bs) {x : Int} (h0 : 0 ≤ x) (h1 : x < L) : bmap bs ((s : Int) + x) = if x + 1 < L then some ((s : Int) + (x + 1)) else if c then some (s : Int) else none := by
  rw [bmap_in hb (inB_of h0 h1)]
  unfold nxt
  dsimp only
  by_cases h : x + 1 < L
  · rw [if_pos h, if_pos (by omega), Int.add_assoc]
  · rw [if_neg h, if_neg (by omega)]
theorem bmI (hb : (c, s, L) ∈ strt 0 bs) {n : Int} (hn : n = (tot bs : Nat)) {x : Int} (h0 : 0 ≤ x) (h1 : x < L) : inv n (bmap bs) ((s : Int) + x) = if 0 < x then some ((s : Int) + (x - 1)) else if c then some ((s : Int) + ((L : Int) - 1)) else none := by
  have wf := wf_bmap bs hn
  by_cases h : 0 < x
  · rw [if_pos h, inv_iff wf, bm hb (by omega) (by omega), if_pos (by omega), show x - 1 + 1 = x by omega]
  · have x0 : x = 0 := by omega
    subst x0
    rw [if_neg h]
    cases c with
    | true =>
      rw [if_pos rfl, inv_iff wf, bm hb (by omega) (by omega), if_neg (by omega), if_pos rfl, Int.add_zero]
    | false =>
      rw [if_neg Bool.false_ne_true]
      cases e : inv n (bmap bs) ((s : Int) + 0) with
      | none => rfl
      | some z =>
        rw [inv_iff wf] at e
        obtain ⟨b, hb', i1, i2, nx⟩ := bmap_blk e
        have := strt_uniq hb hb' (inB_of h0 h1) i2
        subst this
        rw [inB_iff] at i1
        unfold nxt at nx
        dsimp only at nx i1
        by_cases h : z + 1 < (s : Int) + (L : Int)
        · rw [if_pos h] at nx
          have := Option.some.inj nx
          omega
        · rw [if_neg h, if_neg Bool.false_ne_true] at nx
          cases nx
theorem iter_pos (hb : (c, s, L) ∈ strt 0 bs) {o : Nat} (ho : o < L) : ∀ k : Nat, iter (bmap bs) k ((s : Int) + o) = (aftV c o L k).map fun z => (s : Int) + z
  | 0 => by
    show some _ = _
    unfold aftV
    cases c with
    | true =>
      rw [if_pos rfl, show (o : Int) + ((0 : Nat) : Int) = o by omega, Int.emod_eq_of_lt (by omega) (by omega)]
      rfl
    | false =>
      rw [if_neg Bool.false_ne_true, show (o : Int) + ((0 : Nat) : Int) = o by omega, if_pos (by omega)]
      rfl
  | k + 1 => by
    show (iter (bmap bs) k ((s : Int) + o)).bind (bmap bs) = _
    rw [iter_pos hb ho k]
    unfold aftV
    have hL : (0 : Int) < L := by omega
    rw [show (o : Int) + ((k + 1 : Nat) : Int) = ((o : Int) + (k : Nat)) + 1 by omega]
    cases c with
    | true =>
      rw [if_pos rfl, if_pos rfl, Option.map_some, Option.bind_some, bm hb (Int.emod_nonneg _ (by omega)) (Int.emod_lt_of_pos _ hL), modS hL]
      by_cases h : ((o : Int) + (k : Nat)) % L + 1 < L
      · rw [if_pos h, if_pos h]; rfl
      · rw [if_neg h, if_neg h, if_pos rfl]
        show some _ = some ((s : Int) + 0)
        rw [Int.add_zero]
    | false =>
      rw [if_neg Bool.false_ne_true, if_neg Bool.false_ne_true]
      by_cases h : 0 ≤ (o : Int) + (k : Nat) ∧ (o : Int) + (k : Nat) < L
      · rw [if_pos h, Option.map_some, Option.bind_some, bm hb h.1 h.2]
        by_cases h2 : (o : Int) + (k : Nat) + 1 < L
        · rw [if_pos h2, if_pos (by omega)]; rfl
        · rw [if_neg h2, if_neg Bool.false_ne_true, if_neg (by omega)]; rfl
      · rw [if_neg h, if_neg (by omega)]; rfl
theorem iter_neg (hb : (c, s, L) ∈ strt 0 bs) {n : Int} (hn : n = (tot bs : Nat)) {o : Nat} (ho : o < L) : ∀ k : Nat, iter (inv n (bmap bs)) k ((s : Int) + o) = (aftV c o L (-(k : Int))).map fun z => (s : Int) + z
  | 0 => by
    show some _ = _
    unfold aftV
    cases c with
    | true =>
      rw [if_pos rfl, show (o : Int) + -((0 : Nat) : Int) = o by omega, Int.emod_eq_of_lt (by omega) (by omega)]
      rfl
    | false =>
      rw [if_neg Bool.false_ne_true, show (o : Int) + -((0 : Nat) : Int) = o by omega, if_pos (by omega)]
      rfl
  | k + 1 => by
    show (iter (inv n (bmap bs)) k ((s : Int) + o)).bind (inv n (bmap bs)) = _
    rw [iter_neg hb hn ho k]
    unfold aftV
    have hL : (0 : Int) < L := by omega
    rw [show (o : Int) + -((k + 1 : Nat) : Int) = ((o : Int) + -(k : Nat)) - 1 by omega]
    cases c with
    | true =>
      rw [if_pos rfl, if_pos rfl, Option.map_some, Option.bind_some, bmI hb hn (Int.emod_nonneg _ (by omega)) (Int.emod_lt_of_pos _ hL), modP hL]
      by_cases h : 0 < ((o : Int) + -(k : Nat)) % L
      · rw [if_pos h, if_pos h]; rfl
      · rw [if_neg h, if_neg h, if_pos rfl]
        rfl
    | false =>
      rw [if_neg Bool.false_ne_true, if_neg Bool.false_ne_true]
      by_cases h : 0 ≤ (o : Int) + -(k : Nat) ∧ (o : Int) + -(k : Nat) < L
      · rw [if_pos h, Option.map_some, Option.bind_some, bmI hb hn h.1 h.2]
        by_cases h2 : 0 < (o : Int) + -(k : Nat)
        · rw [if_pos h2, if_pos (by omega)]; rfl
        · rw [if_neg h2, if_neg Bool.false_ne_true, if_neg (by omega)]; rfl
      · rw [if_neg h, if_neg (by omega)]; rfl
theorem pw_blk (hb : (c, s, L) ∈ strt 0 bs) {n : Int} (hn : n = (tot bs : Nat)) {o : Nat} (ho : o < L) (e : Int) : pw n (bmap bs) e ((s : Int) + o) = (aftV c o L e).map fun z => (s : Int) + z := by
  unfold pw
  by_cases h0 : e = 0
  · subst h0
    rw [if_pos rfl]
    have r := strt_rng hb
    dsimp only at r
    have h := iter_pos hb ho 0
    show idn n ((s : Int) + o) = (aftV c o L ((0 : Nat) : Int)).map _
    rw [← h]
    show idn n ((s : Int) + o) = some _
    unfold idn
    rw [if_pos (by omega)]
  · rw [if_neg h0]
    by_cases h1 : e < 0
    · rw [if_pos h1, iter_neg hb hn ho, show -((e.natAbs : Nat) : Int) = e by omega]
    · rw [if_neg h1, iter_pos hb ho, show ((e.natAbs : Nat) : Int) = e by omega]
theorem fate_blk (hb : (c, s, L) ∈ strt 0 bs) {o : Nat} (ho : o < L) : fateV (bmap bs) ((s : Int) + o) = fatG c o L := by
  have hL : (0 : Int) < L := by omega
  cases c with
  | false =>
    have row : IsRow (bmap bs) ((s : Int) + o) (ivl (s + o) (L - o - 1) ++ [((s + (L - 1) : Nat) : Int)]) := by
      have e : ivl (s + o) (L - o - 1) ++ [((s + (L - 1) : Nat) : Int)] = ivl (s + o) (L - o) := by
        unfold ivl
        rw [show L - o = (L - o - 1) + 1 by omega, List.range_succ, List.map_append]
        simp
        omega
      refine ⟨_, _, rfl, ⟨?_, fun i a b h1 h2 => ?_⟩, .inl ?_⟩
      · rw [e]; exact ivl_get.mpr ⟨by omega, by omega⟩
      · rw [e] at h1 h2
        obtain ⟨g1, rfl⟩ := ivl_get.mp h1
        obtain ⟨g2, rfl⟩ := ivl_get.mp h2
        refine ⟨?_, by omega⟩
        rw [show ((s + o + i : Nat) : Int) = (s : Int) + ((o + i : Nat) : Int) by omega, bm hb (by omega) (by omega), if_pos (by omega)]
        congr 1
        omega
      · rw [show ((s + (L - 1) : Nat) : Int) = (s : Int) + ((L - 1 : Nat) : Int) by omega, bm hb (by omega) (by omega), if_neg (by omega)]
        rfl
    have last : bmap bs (((s + (L - 1) : Nat) : Int)) = none := by
      rw [show ((s + (L - 1) : Nat) : Int) = (s : Int) + ((L - 1 : Nat) : Int) by omega, bm hb (by omega) (by omega), if_neg (by omega)]
      rfl
    unfold fateV
    rw [clo_eq row, rowN_eq row, last]
    show (if (none : Option Int).isSome = true then V.non else _) = V.int _
    rw [if_neg (by decide)]
    congr 1
    rw [List.length_append, ivl_len]
    simp
    omega
  | true =>
    let g : Nat → Int := fun i => (s : Int) + ((o : Int) + (i : Nat)) % L
    have st : ∀ i, bmap bs (g i) = some (g (i + 1)) := fun i => by
      show bmap bs ((s : Int) + ((o : Int) + (i : Nat)) % L) = some ((s : Int) + ((o : Int) + ((i + 1 : Nat) : Int)) % L)
      rw [bm hb (Int.emod_nonneg _ (by omega)) (Int.emod_lt_of_pos _ hL), show (o : Int) + ((i + 1 : Nat) : Int) = ((o : Int) + (i : Nat)) + 1 by omega, modS hL]
      by_cases h : ((o : Int) + (i : Nat)) % L + 1 < L
      · rw [if_pos h, if_pos h]
      · rw [if_neg h, if_neg h, if_pos rfl, Int.add_zero]
    have g0 : g 0 = (s : Int) + o := by
      show (s : Int) + ((o : Int) + ((0 : Nat) : Int)) % L = _
      rw [show (o : Int) + ((0 : Nat) : Int) = o by omega, Int.emod_eq_of_lt (by omega) (by omega)]
    have gL : g L = (s : Int) + o := by
      show (s : Int) + ((o : Int) + (L : Int)) % L = _
      rw [Int.add_emod_right, Int.emod_eq_of_lt (by omega) (by omega)]
    have gne : ∀ i, 0 < i → i < L → g i ≠ (s : Int) + o := fun i h1 h2 e => by
      have e : (s : Int) + ((o : Int) + (i : Nat)) % L = (s : Int) + o := e
      by_cases h : (o : Int) + (i : Nat) < L
      · rw [Int.emod_eq_of_lt (by omega) h] at e
        omega
      · rw [show (o : Int) + (i : Nat) = ((o : Int) + (i : Nat) - L) + L by omega, Int.add_emod_right, Int.emod_eq_of_lt (by omega) (by omega)] at e
        omega
    have row : IsRow (bmap bs) ((s : Int) + o) ((List.range (L - 1)).map g ++ [g (L - 1)]) := by
      have e : (List.range (L - 1)).map g ++ [g (L - 1)] = (List.range L).map g := by
        rw [show L = (L - 1) + 1 by omega, List.range_succ, List.map_append]
        rfl
      have get : ∀ {i : Nat} {a : Int}, ((List.range L).map g)[i]? = some a → i < L ∧ a = g i := fun {i a} h => by
        rw [List.getElem?_map] at h
        obtain ⟨j, hj, rfl⟩ := Option.map_eq_some_iff.mp h
        have := List.getElem?_eq_some_iff.mp hj
        obtain ⟨h1, h2⟩ := this
        rw [List.length_range] at h1
        rw [List.getElem_range] at h2
        exact ⟨h1, by rw [h2]⟩
      refine ⟨_, _, rfl, ⟨?_, fun i a b h1 h2 => ?_⟩, .inr ?_⟩
      · rw [e, List.getElem?_map, List.getElem?_range (by omega)]
        exact congrArg some g0
      · rw [e] at h1 h2
        obtain ⟨k1, rfl⟩ := get h1
        obtain ⟨k2, rfl⟩ := get h2
        exact ⟨st i, gne (i + 1) (by omega) k2⟩
      · rw [st, show L - 1 + 1 = L by omega, gL]
    unfold fateV
    rw [clo_eq row, st]
    rfl
end
end My
namespace My
open PySem PySem.Spec PyProof.Rows L2 U StX PM
/-! ### the law's lengths and places -/
def tMeth0R (C : Addr) (m : Str) (sp : Sp) (E : XK) (ta : TE) : TE := fun σ H Q => ta σ H fun x H1 => ∃ a dx fs, x = .ref a ∧ H1 a = some (.ins C dx fs) ∧ fs.lookup m = none ∧ sp [x] H1 Q E
theorem pe_meth0R {X : Cx} {CX : CXT} {k : Nat} {C f : Addr} {m : Str} {sp : Sp} {E : XK} {o : Expr} {ta : TE} {apos pos : PySem.Pos} {pl : Sem Bool} (he : PE X o ta) (c : Cls X.K C) (hm : Meth X.K C m f)
    (F : FnR X.prog X.w X.K X.mg X.base CX k f sp) (hr : Room k X.A) (hx : Passes CX X E)
    (ht : eval (.Call (.Attribute o m apos) [] [] pos) X.env = (do
      let ov ← eval o X.env
      standAt apos.atName
      let (f, first) ← holding [ov] (getMethod ov m pl)
      callWith pos f first (backTo pos (starEach [] X.env)) (backToKw pos (keywordEach [] X.env))) := by rfl) :
    PE X (.Call (.Attribute o m apos) [] [] pos) (tMeth0R C m sp E ta) := by
  refine ⟨fun pins s σ H Q I h => ?_⟩
  refine PySem.W.methodCall_KW (pl := pl) (thn (he.run pins s σ H _ I h) fun u s1 ⟨x, H1, I1, rx, a, dx, fs, ex, ea, l, q⟩ => ?_) ht
  subst ex
  obtain rfl : u = Value.ref a := rx
  refine getmeth_ok I1 ea c hm l ?_
  exact PySem.W.callWith_K0 (first := [.ref a]) I1.kIn hm.kp (wpAny_call (run_fnR (us := [.ref a]) (vs := [.ref a]) F hr hx I1 (.cons rfl .nil) q))
theorem lc_rangeN {wi : TI} {i : Nat} {tv : TE} {vs : List Nat} {σ : L2.St} {H : Hp} {Q : VK} {n : Nat} (o : Nat → HO)
    (hwi : ∀ R : It → Hp → Prop, R (Itr 0 n) H → wi σ H R) (hw : ∀ a, wipe ((wipe σ vs).set i a) vs = wipe σ vs) (hn : n < sizeLine)
    (hb : ∀ k : Nat, k < n → ∀ H1, L2.Same H H1 → ∀ R : VK, (∀ b H2, L2.Same H1 H2 → H1 b = none → H2 b = some (o k) → R (.ref b) H2) → tv ((wipe σ vs).set i (some (.int (0 + (k : Nat))))) H1 R)
    (hq : ∀ (D : Addr) (bs : List Addr) (H' : Hp), L2.Same H H' → H D = none → H' D = some (.lst (bs.map V.ref)) → bs.length = n → (∀ (k : Nat) (b : Addr), bs[k]? = some b → H' b = some (o k)) → Q (.ref D) H') : tLc wi (gName i) tYes tv vs σ H Q := by
  refine hwi _ fun D hD => ?_
  refine lc_it (walk_range (lo := 0)) (fun k H' => L2.Same H H' ∧ ∃ bs : List Addr, H' D = some (.lst (bs.map V.ref)) ∧ bs.length = k ∧ ∀ (j : Nat) (b : Addr), bs[j]? = some b → H' b = some (o j) ∧ b ≠ D) ⟨Same.new hD, [], upd_same, rfl, fun j b e => by simp at e⟩ (fun _ _ _ _ => trivial) ?_ ?_
  · rintro k v H' H'' hk ⟨s2, bs, e1, hl, hbs⟩ ⟨rfl, rfl⟩
    refine ⟨hw _, yes_ ?_⟩
    refine hb k hk _ s2 _ fun b H2 s3 nb eb => ?_
    have e2 := s3 _ _ e1
    have nbD : b ≠ D := fun z => by rw [z, e1] at nb; cases nb
    refine ⟨_, e2, by rw [List.length_map, hl]; exact Nat.lt_trans hk hn, Same.put (s2.trans s3) hD, bs ++ [b], by rw [upd_same, List.map_append]; rfl, by simp [hl], fun j b' e => ?_⟩
    by_cases hj : j < bs.length
    · rw [List.getElem?_append_left hj] at e
      obtain ⟨h1, h2⟩ := hbs j b' e
      exact ⟨by rw [upd_ne h2]; exact s3 _ _ h1, h2⟩
    · have hl2 := (List.getElem?_eq_some_iff.mp e).1
      rw [List.length_append, List.length_singleton] at hl2
      have ej : j = k := by omega
      subst ej
      rw [List.getElem?_append_right (by omega), hl, Nat.sub_self] at e
      cases e
      exact ⟨by rw [upd_ne nbD]; exact eb, nbD⟩
  · rintro H' ⟨s2, bs, e1, hl, hbs⟩
    exact hq D bs H' s2 hD e1 hl fun k b e => (hbs k b e).1
def spLens : Sp := fun vs H Q _ => ∃ p : Addr, vs = [.ref p, .int 7] ∧ PoolAt H p ∧ ∀ l D H', SmL l → PoolAt H' p → Off p H H' → H D = none → H' D = some (.lst (vN l)) → Q (.ref D) H'
def plT (x : Bool × Nat × Nat) : HO := .tup [.str (kd x.1), .int x.2.1, .int x.2.2]
def PlAt (H : Hp) (ps : List Addr) (xs : List (Bool × Nat × Nat)) : Prop := ps.length = xs.length ∧ ∀ (k : Nat) (p : Addr), ps[k]? = some p → ∃ x, xs[k]? = some x ∧ H p = some (plT x)
theorem PlAt.same {H H' : Hp} {ps : List Addr} {xs : List (Bool × Nat × Nat)} (h : PlAt H ps xs) (s : Same H H') : PlAt H' ps xs := ⟨h.1, fun k p e => by
  obtain ⟨x, e1, e2⟩ := h.2 k p e
  exact ⟨x, e1, s _ _ e2⟩⟩
theorem PlAt.app {H : Hp} {ps qs : List Addr} {xs ys : List (Bool × Nat × Nat)} (h1 : PlAt H ps xs) (h2 : PlAt H qs ys) : PlAt H (ps ++ qs) (xs ++ ys) := by
  refine ⟨by rw [List.length_append, List.length_append, h1.1, h2.1], fun k p e => ?_⟩
  by_cases hk : k < ps.length
  · rw [List.getElem?_append_left hk] at e
    rw [List.getElem?_append_left (by rw [← h1.1]; exact hk)]
    exact h1.2 k p e
  · rw [List.getElem?_append_right (by omega)] at e
    rw [List.getElem?_append_right (by rw [← h1.1]; omega), ← h1.1]
    exact h2.2 _ p e
theorem PlAt.gen {H : Hp} {bs : List Addr} {n : Nat} (g : Nat → Bool × Nat × Nat) (hl : bs.length = n) (h : ∀ (k : Nat) (b : Addr), bs[k]? = some b → H b = some (plT (g k))) : PlAt H bs ((List.range n).map g) := by
  refine ⟨by rw [List.length_map, List.length_range, hl], fun k p e => ⟨g k, ?_, h k p e⟩⟩
  have := (List.getElem?_eq_some_iff.mp e).1
  rw [List.getElem?_map, List.getElem?_range (by omega)]
  rfl
def plk (b : Bool) (l : List Nat) (k : Nat) : List (Bool × Nat × Nat) := (List.range k).flatMap fun i => (List.range ((l[i]?).getD 0)).map fun o => (b, i, o)
theorem plk_succ (b : Bool) (l : List Nat) (k : Nat) {n : Nat} (h : l[k]? = some n) : plk b l (k + 1) = plk b l k ++ (List.range n).map fun o => (b, k, o) := by
  unfold plk
  rw [List.range_succ, List.flatMap_append]
  simp [h]
def plcs (cy ch : List Nat) : List (Bool × Nat × Nat) := plk true cy cy.length ++ plk false ch ch.length
def plsI (cy ch : List Nat) (i : Nat) : List (Bool × Nat × Nat) := (if 1 ≤ i then plk true cy cy.length else []) ++ (if 2 ≤ i then plk false ch ch.length else [])
def spPlc : Sp := fun vs H Q _ => ∃ (a b : Addr) (cy ch : List Nat), vs = [.ref a, .ref b] ∧ H a = some (.lst (vN cy)) ∧ H b = some (.lst (vN ch)) ∧ SmL cy ∧ SmL ch ∧ ∀ ps D H', Same H H' → H D = none → H' D = some (.lst (ps.map V.ref)) → PlAt H' ps (plcs cy ch) → Q (.ref D) H'
section
variable {P : Program} {w : World} {K : PySem.W.Frag} {mg : Str → Option Value} {base : Heap}
theorem ok_l_lengths (T : Txt K mg) : FnR P w K mg base CX0 3 T.f_l_lengths spLens := by
  refine T.A_l_lengths.ok sc_l_lengths (fun vs H Q E h => ?_) (fun cdv A outer s H vs Q E hr h => ?_)
  · obtain ⟨p, rfl, _⟩ := h
    rfl
  · obtain ⟨p, rfl, hp, q⟩ := h
    refine ⟨_, (pss_one (ps_ret (pe_lc (own := [("_law_turn", 2)]) (g := (gName 2)) (tt := tYes) rfl sc_l_lengths.nd (pi_range1 rfl T.n_range (pa_cons (pe_callR (ok_draw T) (hr.mono (by decide)) T.A_l_draw.kp rfl T.g_l_draw pass0 (pa_cons (pv 0) (pa_cons pe_int pa_nil))) pa_nil)) (blkOk_by (own := [("_law_turn", 2)]) (N := n_l_lengths) (sc := defScope s_l_lengths) (by decide +kernel)) (fun _ _ _ _ _ => (pg_name (i := 2) sc_l_lengths.nd rfl (Or.inl rfl))) (fun _ _ _ _ _ => pts_nil) (fun _ _ _ _ _ => (pe_op op_add pe_int (pe_callR (ok_draw T) (hr.mono (by decide)) T.A_l_draw.kp rfl T.g_l_draw pass0 (pa_cons (pv 0) (pa_cons (pv 1) pa_nil)))))))), ?_⟩
    dsimp only [tRet, tLc, iRng1, tCallR, tCons, tNil, tC]
    refine ⟨_, rfl, draw_of (E := E0) hp (by decide) (by decide) fun n H1 n0 n1 pool1 off1 _ => ⟨n, rfl, by omega, by omega, fun D hD => ?_⟩⟩
    have npD : p ≠ D := pool1.ne hD
    refine lc_it (walk_range (lo := 0)) (fun k H' => PoolAt H' p ∧ Off p H1 H' ∧ ∃ l : List Nat, H' D = some (.lst (vN l)) ∧ l.length = k ∧ ∀ x ∈ l, 1 ≤ x ∧ x ≤ 7) ⟨pool1.put npD, Off.new hD, [], upd_same, rfl, fun x hx => nomatch hx⟩ (fun _ _ _ _ => trivial) ?_ ?_
    · rintro k v H' H'' hk ⟨pool2, o2, l, e1, hl, hx⟩ ⟨rfl, rfl⟩
      refine ⟨rfl, yes_ ?_⟩
      dsimp only [tOp, tCallR, tCons, tNil, tC]
      refine ⟨_, rfl, _, rfl, draw_of (E := E0) pool2 (by decide) (by decide) fun r H3 r0 r1 pool3 o3 _ => ?_⟩
      have e2 := o3 _ _ npD.symm e1
      refine ⟨_, _, rfl, rfl, _, e2, lt_line (by rw [vN_len]; omega), pool3.put npD, (o2.tr o3).mut hD, l ++ [(1 + r).toNat], ?_, by simp [hl], fun x hx' => ?_⟩
      · rw [upd_same]
        have ev : V.int (1 + r) = V.int (((1 + r).toNat : Nat) : Int) := by congr 1; omega
        show some (HO.lst (vN l ++ [V.int (1 + r)])) = _
        rw [ev]
        unfold vN
        rw [List.map_append]
        rfl
      · rcases List.mem_append.mp hx' with h | h
        · exact hx x h
        · rw [List.mem_singleton] at h
          omega
    · rintro H' ⟨pool2, o2, l, e1, hl, hx⟩
      have nD : H D = none := by
        cases e : H D with
        | none => rfl
        | some o => exact absurd (off1 _ _ npD.symm e) (by rw [hD]; intro z; cases z)
      exact q l D H' ⟨by omega, hx⟩ pool2 (off1.tr o2) nD e1
theorem ok_l_places (T : Txt K mg) : FnR P w K mg base CX0 3 T.f_l_places spPlc := by
  refine T.A_l_places.ok sc_l_places (fun vs H Q E h => ?_) (fun cdv A outer s H vs Q E hr h => ?_)
  · obtain ⟨a, b, cy, ch, rfl, _⟩ := h
    rfl
  · obtain ⟨a, b, cy, ch, rfl, ha, hb, m1, m2, q⟩ := h
    refine ⟨_, (pss_cons (ps_set (i := 2) sc_l_places.nd rfl (Or.inl rfl) (pe_lst pa_nil))
      (pss_cons (ps_for PassesOwn.never rfl (pi_list (pe_lst (pa_cons (pe_tup (pa_cons pe_str (pa_cons (pv 0) pa_nil))) (pa_cons (pe_tup (pa_cons pe_str (pa_cons (pv 1) pa_nil))) pa_nil)))) (pg_tup rfl (pgs_cons (pg_name (i := 3) sc_l_places.nd rfl (Or.inr rfl)) (pgs_cons (pg_name (i := 4) sc_l_places.nd rfl (Or.inl rfl)) pgs_nil)))
        (pss_one (ps_for PassesOwn.never rfl (pi_enum rfl T.n_enumerate (pa_cons (pv 4) pa_nil)) (pg_tup rfl (pgs_cons (pg_name (i := 5) sc_l_places.nd rfl (Or.inr rfl)) (pgs_cons (pg_name (i := 6) sc_l_places.nd rfl (Or.inl rfl)) pgs_nil)))
        (pss_one (ps_set (i := 2) sc_l_places.nd rfl (Or.inl rfl) (pe_op op_cat (pv 2) (pe_lc (own := [("_law_offset", 7)]) (g := (gName 7)) (tt := tYes) rfl sc_l_places.nd (pi_range1 rfl T.n_range (pa_cons (pv 6) pa_nil)) (blkOk_by (own := [("_law_offset", 7)]) (N := n_l_places) (sc := defScope s_l_places) (by decide +kernel)) (fun _ _ _ _ _ => (pg_name (i := 7) sc_l_places.nd rfl (Or.inl rfl))) (fun _ _ _ _ _ => pts_nil) (fun _ _ _ _ _ => (pe_tup (pa_cons (pv 3) (pa_cons (pv 5) (pa_cons (pv 7) pa_nil))))))))))))
      (pss_one (ps_ret (pv 2))))), ?_⟩
    refine ⟨nil_le, ?_⟩
    refine fun F n_F => ?_
    generalize g_F : L2.upd _ F _ = H1
    obtain ⟨s_H1, e_F⟩ := U.upd_facts g_F n_F
    clear g_F
    refine ⟨_, rfl, two_le, ?_⟩
    refine fun t1 n_t1 => ?_
    generalize g_t1 : L2.upd _ t1 _ = H2
    obtain ⟨s_H2, e_t1⟩ := U.upd_facts g_t1 n_t1
    clear g_t1
    refine ⟨_, rfl, two_le, ?_⟩
    refine fun t2 n_t2 => ?_
    generalize g_t2 : L2.upd _ t2 _ = H3
    obtain ⟨s_H3, e_t2⟩ := U.upd_facts g_t2 n_t2
    clear g_t2
    refine ⟨two_le, ?_⟩
    refine fun Lp n_Lp => ?_
    generalize g_Lp : L2.upd _ Lp _ = H4
    obtain ⟨s_H4, e_Lp⟩ := U.upd_facts g_Lp n_Lp
    clear g_Lp
    refine ⟨Lp, rfl, ⟨_, SqL.of e_Lp⟩, ?_⟩
    have s4 : Same H H4 := ((s_H1.trans s_H2).trans s_H3).trans s_H4
    have f1 := s_H4 _ _ (s_H3 _ _ e_t1)
    have f2 := s_H4 _ _ e_t2
    have fF := s_H4 _ _ (s_H3 _ _ (s_H2 _ _ e_F))
    have fa := s4 _ _ ha
    have fb := s4 _ _ hb
    refine for_it (walk_list (xs := [.ref t1, .ref t2])) (fun i σ H' => ∃ v3 v4 v5 v6 v7 G ps, σ = [some (.ref a), some (.ref b), some (.ref G), v3, v4, v5, v6, v7] ∧ Same H4 H' ∧ H G = none ∧ H' G = some (.lst (ps.map V.ref)) ∧ PlAt H' ps (plsI cy ch i) ∧ ps.length ≤ 21 * i)
      ⟨_, _, _, _, _, F, [], rfl, Same.refl _, n_F, fF, ⟨rfl, fun k p e => by simp at e⟩, Nat.zero_le _⟩ (fun i σ H' _ ⟨_, _, _, _, _, _, _, _, z, _⟩ => SqL.of (z _ _ e_Lp)) ?_ ?_
    · rintro i v σ Ha0 Ha hi ⟨v3, v4, v5, v6, v7, G, ps, rfl, sa, nG, eG, pl, hps⟩ ⟨rfl, ev⟩
      obtain ⟨bb, l, X, tt, rfl, et, eX, ml, hnext⟩ : ∃ (bb : Bool) (l : List Nat) (X tt : Addr), v = .ref tt ∧ Ha tt = some (.tup [.str (kd bb), .ref X]) ∧ Ha X = some (.lst (vN l)) ∧ SmL l ∧ plsI cy ch (i + 1) = plsI cy ch i ++ plk bb l l.length := by
        match i, hi with
        | 0, _ => cases ev; exact ⟨true, cy, a, t1, rfl, sa _ _ f1, sa _ _ fa, m1, by simp [plsI]⟩
        | 1, _ => cases ev; exact ⟨false, ch, b, t2, rfl, sa _ _ f2, sa _ _ fb, m2, by simp [plsI]⟩
      have hi2 : i ≤ 1 := by simp at hi; omega
      have hl3 := ml.1
      refine ⟨tt, [.str (kd bb), .ref X], rfl, SqT.of et, rfl, .str (kd bb), [.ref X], rfl, .ref X, [], rfl, rfl, ?_⟩
      refine ⟨_, rfl, X, vN l, rfl, SqL.of eX, ?_⟩
      refine for_it (walk_enum (xs := vN l)) (fun j σ H' => ∃ v5 v6 v7 G ps, σ = [some (.ref a), some (.ref b), some (.ref G), some (.str (kd bb)), some (.ref X), v5, v6, v7] ∧ Same Ha H' ∧ H G = none ∧ H' G = some (.lst (ps.map V.ref)) ∧ PlAt H' ps (plsI cy ch i ++ plk bb l j) ∧ ps.length ≤ 21 * i + 7 * j)
        ⟨_, _, _, G, ps, rfl, Same.refl _, nG, eG, by rw [show plk bb l 0 = [] from rfl, List.append_nil]; exact pl, by omega⟩ (fun j σ H' _ ⟨_, _, _, _, _, _, z, _⟩ => SqL.of (z _ _ eX)) ?_ ?_
      · rintro j v σ Hb0 Hb hj ⟨w5, w6, w7, G', ps', rfl, sb, nG', eG', pl', hps'⟩ ⟨u0, x, y, rfl, n_u0, rfl, e1, e2⟩
        rw [vN_len] at hj
        dsimp only at e1 e2
        unfold vN at e2
        rw [List.getElem?_map] at e2
        obtain ⟨n, hn, rfl⟩ := Option.map_eq_some_iff.mp e2
        cases e1
        have hn7 := ml.2 n (List.mem_of_getElem? hn)
        generalize g_u0 : L2.upd _ u0 _ = Hc
        obtain ⟨s_Hc, e_u0⟩ := U.upd_facts g_u0 n_u0
        clear g_u0
        refine ⟨u0, [.int j, .int n], rfl, SqT.of e_u0, rfl, .int j, [.int n], rfl, .int n, [], rfl, rfl, ?_⟩
        refine ⟨_, rfl, ?_⟩
        refine lc_rangeN (n := n) (fun o => .tup [.str (kd bb), .int j, .int (0 + (o : Nat))]) (fun R r => ⟨_, rfl, (n : Int), rfl, by omega, by omega, r⟩) (fun _ => rfl) (lt_line (by omega)) (fun k hk H1 s1 R r => ⟨_, rfl, _, rfl, _, rfl, three_le, fun t nt => r t _ (Same.new nt) nt upd_same⟩) (fun D bs Hd sd nD eD hl hat => ?_)
        have hG := sd _ _ (s_Hc _ _ eG')
        refine ⟨G', D, _, _, rfl, rfl, hG, eD, Nat.le_of_lt (lt_line (by rw [List.length_map, List.length_map]; omega)), fun p np => ?_⟩
        have sall : Same Hb0 (upd Hd p (.lst (ps'.map V.ref ++ bs.map V.ref))) := (s_Hc.trans sd).trans (Same.new np)
        refine ⟨_, _, _, p, ps' ++ bs, rfl, sb.trans sall, (s4.trans (sa.trans (sb.trans (s_Hc.trans sd)))).free np, by rw [List.map_append]; exact upd_same, ?_, by rw [List.length_append]; omega⟩
        rw [plk_succ bb l j hn, ← List.append_assoc]
        refine PlAt.app (pl'.same sall) ((PlAt.gen (fun o => (bb, j, o)) hl fun k b hb => ?_).same (Same.new np))
        have := hat k b hb
        rw [Int.zero_add] at this
        exact this
      · rintro σ Hb ⟨w5, w6, w7, G', ps', rfl, sb, nG', eG', pl', hps'⟩
        rw [vN_len] at pl' hps'
        exact ⟨_, _, _, _, _, G', ps', rfl, sa.trans sb, nG', eG', by rw [hnext]; exact pl', by omega⟩
    · rintro σ Hb ⟨v3, v4, v5, v6, v7, G, ps, rfl, sb, nG, eG, pl, hps⟩
      exact ⟨_, rfl, q ps G Hb (s4.trans sb) nG eG pl⟩
end
end My
namespace My
open PySem PySem.Spec PyProof.Rows L2 U StX PM
/-! ### places and blocks -/
def pr2 (e : Bool × Nat × Nat) : Bool × Nat := (e.1, e.2.2)
def spread (es : List (Bool × Nat × Nat)) : List (Bool × Nat × Nat) := es.flatMap fun e => (List.range e.2.2).map fun o => (e.1, e.2.1, o)
def entK (b : Bool) (l : List Nat) : List (Bool × Nat × Nat) := (List.range l.length).map fun i => (b, i, (l[i]?).getD 0)
def ent (cy ch : List Nat) : List (Bool × Nat × Nat) := entK true cy ++ entK false ch
def blG (cy ch : List Nat) : List (Bool × Nat) := (ent cy ch).map pr2
theorem plcs_spread (cy ch : List Nat) : plcs cy ch = spread (ent cy ch) := by
  unfold plcs spread ent entK plk
  rw [List.flatMap_append]
  congr 1 <;> · rw [List.flatMap_map]
theorem spread_at : ∀ (es : List (Bool × Nat × Nat)) (s k : Nat) (b : Bool) (i o : Nat), (spread es)[k]? = some (b, i, o) → ∃ st L, (b, i, L) ∈ es ∧ (b, st, L) ∈ strt s (es.map pr2) ∧ o < L ∧ s + k = st + o ∧ s ≤ st ∧ ∀ o', o' < L → (spread es)[st - s + o']? = some (b, i, o')
  | [], s, k, b, i, o, h => by simp [spread] at h
  | (c, j, L) :: r, s, k, b, i, o, h => by
    have e : spread ((c, j, L) :: r) = ((List.range L).map fun o => (c, j, o)) ++ spread r := by simp [spread]
    have el : ((List.range L).map fun o => (c, j, o)).length = L := by simp
    rw [e] at h
    by_cases hk : k < L
    · rw [List.getElem?_append_left (by rw [el]; exact hk), List.getElem?_map, List.getElem?_range hk] at h
      cases h
      refine ⟨s, L, List.mem_cons_self, List.mem_cons_self, hk, rfl, Nat.le_refl _, fun o' ho => ?_⟩
      rw [e, Nat.sub_self, Nat.zero_add, List.getElem?_append_left (by rw [el]; exact ho), List.getElem?_map, List.getElem?_range ho]
      rfl
    · rw [List.getElem?_append_right (by rw [el]; omega), el] at h
      obtain ⟨st, L', h1, h2, h3, h4, h5, h6⟩ := spread_at r (s + L) (k - L) b i o h
      refine ⟨st, L', List.mem_cons_of_mem _ h1, List.mem_cons_of_mem _ h2, h3, by omega, by omega, fun o' ho => ?_⟩
      rw [e, List.getElem?_append_right (by rw [el]; omega), el, show st - s + o' - L = st - (s + L) + o' by omega]
      exact h6 o' ho
theorem spread_len : ∀ es : List (Bool × Nat × Nat), (spread es).length = tot (es.map pr2)
  | [] => rfl
  | (c, j, L) :: r => by
    have e : spread ((c, j, L) :: r) = ((List.range L).map fun o => (c, j, o)) ++ spread r := by simp [spread]
    rw [e, List.length_append, spread_len r, List.map_cons]
    show _ = tot ((c, L) :: r.map pr2)
    rw [tot_cons]
    simp
theorem mem_entK {b c : Bool} {l : List Nat} {i L : Nat} (h : (b, i, L) ∈ entK c l) : b = c ∧ l[i]? = some L := by
  unfold entK at h
  obtain ⟨k, hk, e⟩ := List.mem_map.mp h
  rw [List.mem_range] at hk
  cases e
  refine ⟨rfl, ?_⟩
  rw [List.getElem?_eq_getElem hk]
  rfl
theorem mem_ent {b : Bool} {cy ch : List Nat} {i L : Nat} (h : (b, i, L) ∈ ent cy ch) : (if b then cy else ch)[i]? = some L := by
  unfold ent at h
  rcases List.mem_append.mp h with h | h
  · obtain ⟨rfl, h'⟩ := mem_entK h
    exact h'
  · obtain ⟨rfl, h'⟩ := mem_entK h
    exact h'
theorem entK_snd (b : Bool) (l : List Nat) : ((entK b l).map pr2).map (·.2) = l := by
  unfold entK
  rw [List.map_map, List.map_map]
  apply List.ext_getElem?
  intro k
  rw [List.getElem?_map]
  by_cases hk : k < l.length
  · rw [List.getElem?_range hk, List.getElem?_eq_getElem hk]
    simp [pr2, hk]
  · rw [List.getElem?_eq_none (by rw [List.length_range]; omega), List.getElem?_eq_none (by omega)]
    rfl
theorem entK_fst (b : Bool) (l : List Nat) : ∀ x ∈ (entK b l).map pr2, x.1 = b := by
  intro x hx
  obtain ⟨e, he, rfl⟩ := List.mem_map.mp hx
  obtain ⟨i, _, rfl⟩ := List.mem_map.mp he
  rfl
theorem blG_eq (cy ch : List Nat) : blG cy ch = (entK true cy).map pr2 ++ (entK false ch).map pr2 := by unfold blG ent; rw [List.map_append]
theorem filt_self {l : List (Bool × Nat)} {c : Bool} (h : ∀ x ∈ l, x.1 = c) : l.filter (fun b => b.1 == c) = l := List.filter_eq_self.mpr fun b hb => by rw [h b hb]; simp
theorem filt_none {l : List (Bool × Nat)} {c d : Bool} (h : ∀ x ∈ l, x.1 = c) (hd : c ≠ d) : l.filter (fun b => b.1 == d) = [] := List.filter_eq_nil_iff.mpr fun b hb => by rw [h b hb]; simpa using hd
theorem blG_cy (cy ch : List Nat) : ((blG cy ch).filter fun b => b.1 == true).map (·.2) = cy := by
  rw [blG_eq, List.filter_append, filt_self (entK_fst true cy), filt_none (entK_fst false ch) (by decide), List.append_nil, entK_snd]
theorem blG_ch (cy ch : List Nat) : ((blG cy ch).filter fun b => b.1 == false).map (·.2) = ch := by
  rw [blG_eq, List.filter_append, filt_none (entK_fst true cy) (by decide), filt_self (entK_fst false ch), List.nil_append, entK_snd]
theorem tot_blG (cy ch : List Nat) : tot (blG cy ch) = cy.sum + ch.sum := by
  unfold tot
  rw [blG_eq, List.map_append, List.sum_append, entK_snd, entK_snd]
theorem SmL.sum {l : List Nat} (h : SmL l) : l.sum ≤ 21 := by
  have := sum_le (B := 7) fun x hx => (h.2 x hx).2
  have := h.1
  omega
theorem sum_ge {l : List Nat} (h : ∀ x ∈ l, 1 ≤ x) (hn : l ≠ []) : 1 ≤ l.sum := by
  cases l with
  | nil => exact absurd rfl hn
  | cons a r => rw [List.sum_cons]; have := h a List.mem_cons_self; omega
theorem blG_pos {cy ch : List Nat} (h1 : SmL cy) (h2 : SmL ch) : ∀ p ∈ blG cy ch, 1 ≤ p.2 := by
  intro p hp
  have hm : p.2 ∈ (blG cy ch).map (·.2) := List.mem_map.mpr ⟨p, hp, rfl⟩
  rw [blG_eq, List.map_append, entK_snd, entK_snd] at hm
  rcases List.mem_append.mp hm with h | h
  · exact (h1.2 _ h).1
  · exact (h2.2 _ h).1
/-- what stands at a place -/
theorem plc_at {cy ch : List Nat} {k : Nat} {b : Bool} {i o : Nat} (h : (plcs cy ch)[k]? = some (b, i, o)) : ∃ st L, (if b then cy else ch)[i]? = some L ∧ (b, st, L) ∈ strt 0 (blG cy ch) ∧ o < L ∧ k = st + o ∧ ∀ o', o' < L → (plcs cy ch)[st + o']? = some (b, i, o') := by
  rw [plcs_spread] at h ⊢
  obtain ⟨st, L, h1, h2, h3, h4, h5, h6⟩ := spread_at _ 0 k b i o h
  refine ⟨st, L, mem_ent h1, h2, h3, by omega, fun o' ho => ?_⟩
  have := h6 o' ho
  rwa [Nat.sub_zero] at this
theorem plcs_len (cy ch : List Nat) : (plcs cy ch).length = tot (blG cy ch) := by rw [plcs_spread, spread_len]; rfl
theorem idx_G {cy ch : List Nat} (h1 : SmL cy) (h2 : SmL ch) {n : Int} (hn : n = (tot (blG cy ch) : Nat)) : idxN n (bmap (blG cy ch)) = maxL ch 1 ∧ perN n (bmap (blG cy ch)) = lcmL cy 1 ∧ lens (bmap (blG cy ch)) (cycS n (bmap (blG cy ch))) = cy ∧ lens (bmap (blG cy ch)) (nons n (bmap (blG cy ch))) = ch := by
  obtain ⟨e1, e2⟩ := lens_blk (blG_pos h1 h2) hn
  rw [blG_ch] at e1
  rw [blG_cy] at e2
  unfold idxN perN
  rw [e1, e2]
  exact ⟨rfl, rfl, rfl, rfl⟩
/-! shown -/
def rtD (x y : Nat) : PyData := .tuple [.int x, .int y]
def afD (b : Bool) (i x : Nat) : PyData := .tuple [.str (kd b), .int i, .int x]
def okRp (d : PyData) : Bool := d.showable && !d.hasDict && decide (d.depth ≤ 60) && decide (d.shown.length ≤ 1000)
theorem okRp_of {d : PyData} (h : okRp d = true) : d.showable = true ∧ d.hasDict = false ∧ d.depth ≤ 60 ∧ d.shown.length ≤ sizeLine := by
  unfold okRp at h
  simp only [Bool.and_eq_true, decide_eq_true_eq, Bool.not_eq_true'] at h
  exact ⟨h.1.1.1, h.1.1.2, h.1.2, Nat.le_trans h.2 (by decide)⟩
def divs : List Nat := [1, 2, 3, 4, 5, 6, 7, 10, 12, 14, 15, 20, 21, 28, 30, 35, 42, 60, 70, 84, 105, 140, 210, 420]
theorem ok_rt {cy ch : List Nat} (h1 : SmL cy) (h2 : SmL ch) : okRp (rtD (maxL ch 1) (lcmL cy 1)) = true := by
  have a := List.all_eq_true.mp (show (allS.all fun l => decide (maxL l 1 ≤ 7)) = true by decide +kernel) ch h2.mem
  have b := List.all_eq_true.mp (show (allS.all fun l => decide (lcmL l 1 ∈ divs)) = true by decide +kernel) cy h1.mem
  rw [decide_eq_true_eq] at a b
  have c := List.all_eq_true.mp (show ((List.range 8).all fun x => divs.all fun y => okRp (rtD x y)) = true by decide +kernel) _ (List.mem_range.mpr (by omega : maxL ch 1 < 8))
  exact List.all_eq_true.mp c _ b
theorem ok_af (b : Bool) {i x : Nat} (hi : i < 3) (hx : x < 7) : okRp (afD b i x) = true := by
  have c := List.all_eq_true.mp (show ((List.range 3).all fun i => (List.range 7).all fun x => okRp (afD true i x) && okRp (afD false i x)) = true by decide +kernel) i (List.mem_range.mpr hi)
  have c := List.all_eq_true.mp c x (List.mem_range.mpr hx)
  rw [Bool.and_eq_true] at c
  cases b
  · exact c.2
  · exact c.1
theorem ok_in {x : Nat} (hx : x < 7) : okRp (.int x) = true :=
  List.all_eq_true.mp (show ((List.range 7).all fun x => okRp (.int (x : Nat))) = true by decide +kernel) x (List.mem_range.mpr hx)
end My
namespace My
open PySem PySem.Spec PyProof.Rows L2 U StX PM
/-- the arrows at a place -/
theorem bm_plc {cy ch : List Nat} {k : Nat} {b : Bool} {i o L : Nat} (h : (plcs cy ch)[k]? = some (b, i, o)) (hL : (if b then cy else ch)[i]? = some L) : o < L ∧ o ≤ k ∧ bmap (blG cy ch) (k : Int) = if (o : Int) + 1 < L then some ((k : Int) + 1) else if b then some ((k : Int) - o) else none := by
  obtain ⟨st, L', h1, h2, h3, h4, h5⟩ := plc_at h
  rw [hL] at h1
  cases h1
  refine ⟨h3, by omega, ?_⟩
  rw [show (k : Int) = (st : Int) + (o : Int) by omega, bm h2 (by omega) (by omega)]
  by_cases hh : (o : Int) + 1 < L
  · rw [if_pos hh, if_pos hh, Int.add_assoc]
  · rw [if_neg hh, if_neg hh]
    cases b with
    | true => rw [if_pos rfl, if_pos rfl]; congr 1; omega
    | false => rfl
def upto (f : PF) (i : Nat) : PF := fun x => if 0 ≤ x ∧ x < i then f x else none
theorem upto_some {f : PF} {i : Nat} {y : Int} (h : f (i : Int) = some y) : (fun z => if z = (i : Int) then some y else upto f i z) = upto f (i + 1) := by
  funext z
  unfold upto
  by_cases e : z = (i : Int)
  · rw [if_pos e, e, if_pos (by omega), h]
  · rw [if_neg e]
    by_cases c : 0 ≤ z ∧ z < i
    · rw [if_pos c, if_pos (by omega)]
    · rw [if_neg c, if_neg (by omega)]
theorem upto_none {f : PF} {i : Nat} (h : f (i : Int) = none) : upto f (i + 1) = upto f i := by
  funext z
  unfold upto
  by_cases e : z = (i : Int)
  · rw [e, if_pos (by omega), h, if_neg (by omega)]
  · by_cases c : 0 ≤ z ∧ z < i
    · rw [if_pos c, if_pos (by omega)]
    · rw [if_neg c, if_neg (by omega)]
theorem upto_all {f : PF} {i : Nat} (h : ∀ x y, f x = some y → 0 ≤ x ∧ x < i) : upto f i = f := by
  funext z
  unfold upto
  by_cases c : 0 ≤ z ∧ z < i
  · rw [if_pos c]
  · rw [if_neg c]
    cases e : f z with
    | none => rfl
    | some y => exact absurd (h z y e) c
theorem PlAt.off {H H' : Hp} {p : Addr} {ps : List Addr} {xs : List (Bool × Nat × Nat)} (h : PlAt H ps xs) (o : Off p H H') (e : ∃ ys, H p = some (.lst ys)) : PlAt H' ps xs := ⟨h.1, fun k q e1 => by
  obtain ⟨x, a, b⟩ := h.2 k q e1
  obtain ⟨ys, e⟩ := e
  unfold plT at b
  exact ⟨x, a, o _ _ (fun z => by rw [z, e] at b; cases b) b⟩⟩
theorem PlAt.at_ {H : Hp} {ps : List Addr} {xs : List (Bool × Nat × Nat)} (h : PlAt H ps xs) {k : Nat} {v : V} (e : (ps.map V.ref)[k]? = some v) : ∃ p b i o, v = .ref p ∧ ps[k]? = some p ∧ xs[k]? = some (b, i, o) ∧ H p = some (.tup [.str (kd b), .int i, .int o]) := by
  rw [List.getElem?_map] at e
  obtain ⟨p, hp, rfl⟩ := Option.map_eq_some_iff.mp e
  obtain ⟨⟨b, i, o⟩, h1, h2⟩ := h.2 k p hp
  exact ⟨p, b, i, o, rfl, hp, h1, h2⟩
theorem plc_L {cy ch : List Nat} {k : Nat} {b : Bool} {i o : Nat} (h : (plcs cy ch)[k]? = some (b, i, o)) : ∃ L, (if b then cy else ch)[i]? = some L ∧ o < L := by
  obtain ⟨st, L, h1, h2, h3, h4, h5⟩ := plc_at h
  exact ⟨L, h1, h3⟩
def spSm : Sp := fun vs H Q _ => ∃ (p a b : Addr) (cy ch : List Nat), vs = [.ref p, .ref a, .ref b] ∧ PoolAt H p ∧ H a = some (.lst (vN cy)) ∧ H b = some (.lst (vN ch)) ∧ a ≠ p ∧ b ≠ p ∧ SmL cy ∧ SmL ch ∧ cy ++ ch ≠ [] ∧ ∀ H', PoolAt H' p → Off p H H' → Q (.bl true) H'
theorem asc_eqD {l m : List (Int × Int)} {f : PF} (h1 : Asc l) (h2 : Asc m) (d1 : DI l f) (d2 : DI m f) : l = m := asc_uniq h1 h2 fun ⟨x, y⟩ => by rw [d1.mem, d2.mem]
section
variable {P : Program} {w : World} {K : PySem.W.Frag} {mg : Str → Option Value} {base : Heap}
theorem ok_l_small (T : Txt K mg) : FnG P w K mg base CX0 20 T.f_l_small spSm := by
  refine T.A_l_small.okG sc_l_small (fun vs H Q E h => ?_) (fun cdv A outer s H vs Q E gd hr h => ?_)
  · obtain ⟨p, a, b, cy, ch, rfl, _⟩ := h
    rfl
  · obtain ⟨p, a, b, cy, ch, rfl, pool, ha, hb, nap, nbp, m1, m2, nn, q⟩ := h
    have hu := hu_of hr
    refine ⟨_, (pss_cons (ps_par (i := 3) (j := 4) rfl sc_l_small.nd rfl rfl (by decide) rfl rfl (pa_cons (pe_makeR T.M_GreatMap (ok_ginit T) (hr.mono (by decide)) rfl T.g_GreatMap pass0 (pa_cons (pv 1) (pa_cons (pv 2) pa_nil))) (pa_cons (pe_callR (ok_l_places T) (hr.mono (by decide)) T.A_l_places.kp rfl T.g_l_places pass0 (pa_cons (pv 1) (pa_cons (pv 2) pa_nil))) pa_nil)) (by rfl))
      (pss_cons (ps_set (i := 5) sc_l_small.nd rfl (Or.inl rfl) pe_dnewK)
      (pss_cons (ps_for PassesOwn.never rfl (pi_enum rfl T.n_enumerate (pa_cons (pv 4) pa_nil)) (pg_tup rfl (pgs_cons (pg_name (i := 6) sc_l_small.nd rfl (Or.inl rfl)) (pgs_cons (pg_tup rfl (pgs_cons (pg_name (i := 7) sc_l_small.nd rfl (Or.inl rfl)) (pgs_cons (pg_name (i := 8) sc_l_small.nd rfl (Or.inl rfl)) (pgs_cons (pg_name (i := 9) sc_l_small.nd rfl (Or.inl rfl)) pgs_nil)))) pgs_nil)))
        (pss_cons (ps_set (i := 10) sc_l_small.nd rfl (Or.inl rfl) (pe_ifExp (pt_cmpR op_eq (pv 7) pe_str (nomark _)) (pe_ix ix_list (pv 1) (pv 8) (fun _ _ => rfl)) (pe_ix ix_list (pv 2) (pv 8) (fun _ _ => rfl))))
      (pss_one (ps_if (pt_cmpR op_lt (pe_op op_add (pv 9) pe_int) (pv 10) (nomark _))
        (pss_one (ps_dput hu (pv 5) (pv 6) (pe_op op_add (pv 6) pe_int) rfl)) (pss_one (ps_if (pt_cmpR op_eq (pv 7) pe_str (nomark _))
        (pss_one (ps_dput hu (pv 5) (pv 6) (pe_op op_sub (pv 6) (pv 9)) rfl)) pss_nil))))))
      (pss_cons (ps_set (i := 11) sc_l_small.nd rfl (Or.inl rfl) (pe_makeR T.M_Map (ok_init T) (hr.mono (by decide)) rfl T.g_Map pass0 (pa_cons (pe_callB call_len_seq (by rfl) T.n_len (by decide +kernel) (pa_cons (pv 4) pa_nil)) (pa_cons (pv 5) pa_nil))))
      (pss_cons (ps_if (PW.pt (pw_or (pt_cmpR op_ne (pe_callB (call_repr gd hr.units) (by rfl) T.n_repr (by decide +kernel) (pa_cons (pe_meth0R (pv 3) T.o_GreatMap.cl T.meth_GreatMap_repetition (ok_g_rep T) (hr.mono (by decide)) pass0) pa_nil)) (pe_callB (call_repr gd hr.units) (by rfl) T.n_repr (by decide +kernel) (pa_cons (pe_callR (fnR_calm (ok_m_rep T)) (hr.mono (by decide)) T.A_repetition.kp rfl T.g_repetition pass0 (pa_cons (pv 11) pa_nil)) pa_nil)) (nomark _)) (pw_or1 (pt_cmpR (op_neO T.o_Shape T.ne_Shape T.m_Shape__eq T.i_Shape__eq (ok_sh_eq T) (hr.mono (by decide)) pass0) (pe_meth0R (pv 3) T.o_GreatMap.cl T.meth_GreatMap_shape (ok_g_shape T) (hr.mono (by decide)) pass0) (pe_callR (ok_shape_of T) (hr.mono (by decide)) T.A_shape_of.kp rfl T.g_shape_of pass0 (pa_cons (pv 11) pa_nil)) (nomark _)))))
        (pss_one (ps_ret pe_bl)) pss_nil)
      (pss_cons (ps_for PassesOwn.never rfl (pi_enum rfl T.n_enumerate (pa_cons (pv 4) pa_nil)) (pg_tup rfl (pgs_cons (pg_name (i := 6) sc_l_small.nd rfl (Or.inl rfl)) (pgs_cons (pg_name (i := 12) sc_l_small.nd rfl (Or.inl rfl)) pgs_nil)))
        (pss_cons (ps_if (pt_cmpR op_ne (pe_callB (call_repr gd hr.units) (by rfl) T.n_repr (by decide +kernel) (pa_cons (pe_methR (pv 3) T.o_GreatMap.cl T.meth_GreatMap_fate (ok_g_fate T) (hr.mono (by decide)) pass0 (pa_cons (pv 12) pa_nil)) pa_nil)) (pe_callB (call_repr gd hr.units) (by rfl) T.n_repr (by decide +kernel) (pa_cons (pe_callR (fnR_calm (okX_fate T)) (hr.mono (by decide)) T.A_fate.kp rfl T.g_fate pass0 (pa_cons (pv 11) (pa_cons (pv 6) pa_nil))) pa_nil)) (nomark _))
        (pss_one (ps_ret pe_bl)) pss_nil)
      (pss_cons (ps_set (i := 13) sc_l_small.nd rfl (Or.inl rfl) (pe_ix ix_list (pe_lst (pa_cons pe_int (pa_cons pe_int (pa_cons (pe_un un_neg pe_int) (pa_cons pe_int (pa_cons (pe_un un_neg pe_int) (pa_cons pe_int (pa_cons (pe_op op_pow pe_int pe_int) pa_nil)))))))) (pe_callR (ok_draw T) (hr.mono (by decide)) T.A_l_draw.kp rfl T.g_l_draw pass0 (pa_cons (pv 0) (pa_cons pe_int pa_nil))) (fun _ _ => rfl)))
      (pss_cons (ps_set (i := 14) sc_l_small.nd rfl (Or.inl rfl) (pe_callO (pe_methR (pv 11) T.o_Map.cl T.meth_Map_power (fnR_calm (okX_power T)) (hr.mono (by decide)) pass0 (pa_cons (pv 13) pa_nil)) ⟨T.m_Map__call, T.i_Map__call, T.fi_Map__call⟩ (ok_call T) (hr.mono (by decide)) pass0 (pa_cons (pv 6) pa_nil)))
      (pss_one (ps_if (pt_cmpR op_ne (pe_callB (call_repr gd hr.units) (by rfl) T.n_repr (by decide +kernel) (pa_cons (pe_methR (pv 3) T.o_GreatMap.cl T.meth_GreatMap_after (ok_after T) (hr.mono (by decide)) pass0 (pa_cons (pv 12) (pa_cons (pv 13) pa_nil))) pa_nil)) (pe_callB (call_repr gd hr.units) (by rfl) T.n_repr (by decide +kernel) (pa_cons (pe_ifExp (pt_cmpR op_isN (pv 14) pe_non (nomark _)) pe_non (pe_ix ix_list (pv 4) (pv 14) (fun _ _ => rfl))) pa_nil)) (nomark _))
        (pss_one (ps_ret pe_bl)) pss_nil))))))
      (pss_one (ps_ret pe_bl)))))))), ?_⟩
    have tb : tot (blG cy ch) = cy.sum + ch.sum := tot_blG cy ch
    have tl : tot (blG cy ch) ≤ 42 := by have := m1.sum; have := m2.sum; omega
    have tp : 1 ≤ tot (blG cy ch) := by
      rw [tb, ← List.sum_append]
      exact sum_ge (fun x hx => by
        rcases List.mem_append.mp hx with h | h
        · exact (m1.2 x h).1
        · exact (m2.2 x h).1) nn
    obtain ⟨n, hn⟩ : ∃ n : Int, n = (tot (blG cy ch) : Nat) := ⟨_, rfl⟩
    obtain ⟨f, ef⟩ : ∃ f, f = bmap (blG cy ch) := ⟨_, rfl⟩
    have wf : WF n f := by rw [ef]; exact wf_bmap _ hn
    refine ⟨_, rfl, _, rfl, fun g dx ng ndx ne => initG_of ha hb m1.len m2.len ng ndx ne fun H1 s1 hg gne => ?_⟩
    have gp : GNe T.C_GreatMap H1 g p := by
      obtain ⟨xs, e⟩ := pool.lst
      exact gne _ _ e
    have ngp : g ≠ p := (pool.ne ng).symm
    refine ⟨rfl, _, rfl, _, rfl, a, b, cy, ch, rfl, s1 _ _ ha, s1 _ _ hb, m1, m2, fun ps G H2 s2 nG eG pl => ?_⟩
    refine ⟨_, _, rfl, ?_⟩
    refine fun D n_D => ?_
    generalize g_D : L2.upd _ D _ = H3
    obtain ⟨s_H3, e_D⟩ := U.upd_facts g_D n_D
    clear g_D
    have s13 : Same H H3 := (s1.trans s2).trans s_H3
    have nGp : p ≠ G := ne_of_none (by exact s1 _ _ pool.lst.choose_spec) nG
    have pool3 := pool.same s13
    have hg3 := (hg.same s2).same s_H3
    have gp3 := (gp.same s2).same s_H3
    have pl3 := pl.same s_H3
    have eG3 := s_H3 _ _ eG
    have pll : ps.length = tot (blG cy ch) := by rw [pl.1, plcs_len]
    refine ⟨_, rfl, G, ps.map V.ref, rfl, SqL.of eG3, ?_⟩
    refine for_it (walk_enum (xs := ps.map V.ref)) (fun i σ H' => ∃ v6 v7 v8 v9 v10 l, σ = [some (.ref p), some (.ref a), some (.ref b), some (.ref g), some (.ref G), some (.ref D), v6, v7, v8, v9, v10, none, none, none, none] ∧ Same H2 H' ∧ H' D = some (.dK (kvI l)) ∧ DI l (upto f i) ∧ l.length ≤ i)
      ⟨_, _, _, _, _, [], rfl, s_H3, e_D, ⟨List.nodup_nil, fun x => by unfold upto; rw [if_neg (by omega)]; rfl⟩, Nat.le_refl _⟩ (fun i σ H' _ ⟨_, _, _, _, _, _, _, z, _⟩ => SqL.of (z _ _ eG)) ?_ ?_
    · rintro k v σ Ha0 Ha hk ⟨v6, v7, v8, v9, v10, l, rfl, sa, eD, di, hl⟩ ⟨u0, x, y, rfl, n_u0, rfl, e1, e2⟩
      cases e1
      obtain ⟨t, bb, i, o, rfl, et1, et2, et3⟩ := PlAt.at_ (pl.same sa) e2
      generalize g_u0 : L2.upd _ u0 _ = Hb
      obtain ⟨s_Hb, e_u0⟩ := U.upd_facts g_u0 n_u0
      clear g_u0
      have et4 := s_Hb _ _ et3
      obtain ⟨L, hL, hoL⟩ := plc_L et2
      obtain ⟨_, hok, hf⟩ := bm_plc et2 hL
      rw [← ef] at hf
      refine ⟨u0, [.int k, .ref t], rfl, SqT.of e_u0, rfl, .int k, [.ref t], rfl, .ref t, [], rfl, t, [.str (kd bb), .int i, .int o], rfl, SqT.of et4, rfl, .str (kd bb), [.int i, .int o], rfl, .int i, [.int o], rfl, .int o, [], rfl, rfl, rfl, ?_⟩
      have hb1 := s_Hb _ _ (sa _ _ (s2 _ _ (s1 _ _ ha)))
      have hb2 := s_Hb _ _ (sa _ _ (s2 _ _ (s1 _ _ hb)))
      have eD2 := s_Hb _ _ eD
      have sab := sa.trans s_Hb
      have hL' : (vN (if bb then cy else ch))[i]? = some (.int L) := by unfold vN; rw [List.getElem?_map, hL]; rfl
      have nD2 : H2 D = none := n_D
      have fin : ∀ y : Int, f (k : Int) = some y → ∀ v6 v7 v8 v9 v10, ∃ w6 w7 w8 w9 w10 l', [some (V.ref p), some (V.ref a), some (V.ref b), some (V.ref g), some (V.ref G), some (V.ref D), v6, v7, v8, v9, v10, none, none, none, none] = [some (V.ref p), some (V.ref a), some (V.ref b), some (V.ref g), some (V.ref G), some (V.ref D), w6, w7, w8, w9, w10, none, none, none, none] ∧ Same H2 (upd Hb D (.dK (putK (kvI l) (Sum.inl (k : Int)) (.int y)))) ∧ (upd Hb D (.dK (putK (kvI l) (Sum.inl (k : Int)) (.int y)))) D = some (.dK (kvI l')) ∧ DI l' (upto f (k + 1)) ∧ l'.length ≤ k + 1 := by
        intro y hy v6 v7 v8 v9 v10
        obtain ⟨l', e', hl', di'⟩ := di_putZ di (k : Int) y
        rw [upto_some hy] at di'
        exact ⟨_, _, _, _, _, l', rfl, Same.put sab nD2, by rw [upd_same, e'], di', by omega⟩
      rw [List.length_map] at hk
      have small : (kvI l).length < sizeLine := by rw [kvI_length]; exact lt_line (by omega)
      refine ⟨_, rfl, rfl, _, rfl, ?_⟩
      rw [kcyc bb]
      cases bb with
      | true =>
        refine iteT ⟨_, rfl, _, rfl, a, vN cy, (i : Int), _, rfl, rfl, SqL.of hb1, atI_nat (j := i) hL', ?_⟩
        refine ⟨_, rfl, _, _, rfl, rfl, _, rfl, _, _, rfl, rfl, _, rfl, ?_⟩
        refine ifD (fun h => ?_) (fun h => ?_)
        · rw [if_pos h] at hf
          refine ⟨_, rfl, _, _, rfl, rfl, _, rfl, _, rfl, D, _, rfl, DPut.k (k := Sum.inl _) eD2 small, ?_⟩
          exact fin _ hf _ _ _ _ _
        · rw [if_neg h, if_pos rfl] at hf
          refine ⟨_, rfl, rfl, _, rfl, iteT ⟨_, rfl, _, rfl, _, _, rfl, rfl, _, rfl, _, rfl, D, _, rfl, DPut.k (k := Sum.inl _) eD2 small, ?_⟩⟩
          exact fin _ hf _ _ _ _ _
      | false =>
        refine iteF ⟨_, rfl, _, rfl, b, vN ch, (i : Int), _, rfl, rfl, SqL.of hb2, atI_nat (j := i) hL', ?_⟩
        refine ⟨_, rfl, _, _, rfl, rfl, _, rfl, _, _, rfl, rfl, _, rfl, ?_⟩
        refine ifD (fun h => ?_) (fun h => ?_)
        · rw [if_pos h] at hf
          refine ⟨_, rfl, _, _, rfl, rfl, _, rfl, _, rfl, D, _, rfl, DPut.k (k := Sum.inl _) eD2 small, ?_⟩
          exact fin _ hf _ _ _ _ _
        · rw [if_neg h, if_neg Bool.false_ne_true] at hf
          refine ⟨_, rfl, rfl, _, rfl, iteF ?_⟩
          exact ⟨_, _, _, _, _, l, rfl, sab, eD2, by rw [upto_none hf]; exact di, by omega⟩
    · rintro σ Ha ⟨v6, v7, v8, v9, v10, l, rfl, sa, eD, di, hl⟩
      rw [List.length_map, pll] at di hl
      rw [upto_all (fun x y h => by have := wf.dom x y h; omega)] at di
      have pool4 := (pool3.same (Same.refl _))
      refine ⟨_, rfl, G, _, rfl, .inl (SqL.of (sa _ _ eG)), _, rfl, ?_⟩
      rw [List.length_map, pll, ← hn]
      refine fun m dx nm ndx ne => init_of eD di wf (by omega) (by omega) (by omega) nm ndx ne fun H4 s4 hm => ⟨rfl, ?_⟩
      have s24 := sa.trans s4
      have hg4 := (hg.same s2).same s24
      have gp4 := (gp.same s2).same s24
      have pool4 := ((pool.same s1).same s2).same s24
      have pl4 := pl.same s24
      have eG4 := s24 _ _ eG
      obtain ⟨i1, i2, i3, i4⟩ := idx_G m1 m2 hn
      rw [← ef] at i1 i2 i3 i4
      obtain ⟨dg, fg, eg⟩ := hg4.at_
      have hg4o := hg4.ob
      obtain ⟨dgx, D1, D2, eg1, eg2, eg3⟩ := hg4o
      obtain ⟨r1, r2, r3, r4⟩ := okRp_of (ok_rt m1 m2)
      refine ⟨_, rfl, g, _, _, rfl, eg1, gflds_no _ _ (by decide +kernel) (by decide +kernel), g, cy, ch, rfl, hg4, m1.rep, ?_⟩
      refine fun t1 n_t1 => ?_
      generalize g_t1 : L2.upd _ t1 _ = H5
      obtain ⟨s_H5, e_t1⟩ := U.upd_facts g_t1 n_t1
      clear g_t1
      refine ⟨.ref t1, rtD (maxL ch 1) (lcmL cy 1), rfl, .tup (SqT.of e_t1) (.cons (.int _) (.cons (.int _) .nil)), r1, r2, r3, r4, ?_⟩
      refine ⟨_, rfl, m, n, f, rfl, hm.same s_H5, by rw [i3]; exact m1.rep, fun t2 H6 s6 n6 e6 => ?_⟩
      rw [i1, i2] at e6
      refine ⟨.ref t2, rtD (maxL ch 1) (lcmL cy 1), rfl, .tup (SqT.of e6) (.cons (.int _) (.cons (.int _) .nil)), r1, r2, r3, r4, rfl, _, rfl, ?_⟩
      rw [decide_eq_true rfl]
      refine iteF ?_
      have s46 := s_H5.trans s6
      refine ⟨_, rfl, g, _, _, rfl, s46 _ _ eg1, gflds_no _ _ (by decide +kernel) (by decide +kernel), g, cy, ch, rfl, hg4.same s46, fun x hx => by have := (m1.2 x hx).2; omega, fun x hx => by have := (m2.2 x hx).2; omega, fun sh1 c1 h1 H7 s7 is1 d1 d2 => ?_⟩
      refine ⟨_, rfl, m, n, f, rfl, (hm.same s46).same s7, fun sh2 c2 h2 H8 s8 is2 d3 d4 => ?_⟩
      rw [i3] at d3
      rw [i4] at d4
      have is1' := is1.same s8
      obtain ⟨⟨dxa, Da1, Da2, ea1, ea2, ea3⟩, _⟩ := id is1'
      obtain ⟨⟨dxb, Db1, Db2, eb1, eb2, eb3⟩, _⟩ := id is2
      refine ⟨sh1, _, _, sh2, _, _, rfl, rfl, ea1, eb1, sh1, sh2, c1, h1, c2, h2, rfl, is1', is2, asc_eqD is1'.a1 is2.a1 d1 d3, asc_eqD is1'.a2 is2.a2 d2 d4, _, rfl, _, rfl, iteF ?_⟩
      have s48 := (s46.trans s7).trans s8
      have hg8 := hg4.same s48
      have gp8 := gp4.same s48
      have pool8 := pool4.same s48
      have pl8 := pl4.same s48
      have eG8 := s48 _ _ eG4
      have hm8 := hm.same s48
      have s08 : Same H H8 := ((s1.trans s2).trans s24).trans s48
      clear is1 is2 is1' ea1 ea2 ea3 eb1 eb2 eb3 d1 d2 d3 d4 s46 s7 s8 hg4 gp4 pool4 pl4 eG4 hm
      refine ⟨_, rfl, G, ps.map V.ref, rfl, SqL.of eG8, ?_⟩
      refine for_it (walk_enum (xs := ps.map V.ref)) (fun i σ H' => ∃ v6 v12 v13 v14, σ = [some (.ref p), some (.ref a), some (.ref b), some (.ref g), some (.ref G), some (.ref D), v6, v7, v8, v9, v10, some (.ref m), v12, v13, v14] ∧ Off p H8 H' ∧ PoolAt H' p)
        ⟨_, _, _, _, rfl, Off.ofS (Same.refl _), pool8⟩ (fun i σ H' _ ⟨_, _, _, _, _, z, _⟩ => SqL.of (z _ _ nGp.symm eG8)) ?_ ?_
      · rintro k v σ Ha0 Hc hk ⟨w6, w12, w13, w14, rfl, oa, poolA⟩ ⟨u0, x, y, rfl, n_u0, rfl, e1, e2⟩
        cases e1
        obtain ⟨t, bb, i, o, rfl, et1, et2, et3⟩ := PlAt.at_ (pl8.off oa pool8.lst) e2
        generalize g_u0 : L2.upd _ u0 _ = Hb
        obtain ⟨s_Hb, e_u0⟩ := U.upd_facts g_u0 n_u0
        clear g_u0
        obtain ⟨st, L, hL, hbk, hoL, ek, h5⟩ := plc_at et2
        have hgb := (hg8.off gp8 ngp oa).same s_Hb
        have gpb := (gp8.off ngp oa).same s_Hb
        have hmb := (hm8.off oa pool8.lst).same s_Hb
        have poolb := poolA.same s_Hb
        have plb := (pl8.off oa pool8.lst).same s_Hb
        have eGb := s_Hb _ _ (oa _ _ nGp.symm eG8)
        have etb := s_Hb _ _ et3
        have hkn : (k : Int) < n := by
          rw [List.length_map, pll] at hk
          omega
        have hib : i < 3 := by
          have h := (List.getElem?_eq_some_iff.mp hL).1
          cases bb with
          | true => exact Nat.lt_of_lt_of_le h m1.1
          | false => exact Nat.lt_of_lt_of_le h m2.1
        have hL7 : L ≤ 7 := by
          have h := List.mem_of_getElem? hL
          cases bb with
          | true => exact (m1.2 _ h).2
          | false => exact (m2.2 _ h).2
        have hfat : fateV f (k : Int) = fatG bb o L := by
          rw [ef, ek, Int.natCast_add]
          exact fate_blk hbk hoL
        obtain ⟨fd, okfd, dpfd⟩ : ∃ fd : PyData, okRp fd = true ∧ ∀ H', Dp K H' (fatG bb o L) fd := by
          cases bb with
          | true => exact ⟨.none, by decide +kernel, fun _ => .non⟩
          | false =>
            refine ⟨.int ((L : Int) - 1 - o), ?_, fun _ => .int _⟩
            have := ok_in (x := L - 1 - o) (by omega)
            rw [show ((L - 1 - o : Nat) : Int) = (L : Int) - 1 - o by omega] at this
            exact this
        obtain ⟨f1, f2, f3, f4⟩ := okRp_of okfd
        obtain ⟨dgy, D3, D4, eb1, eb2, eb3⟩ := hgb.ob
        refine ⟨u0, [.int k, .ref t], rfl, SqT.of e_u0, rfl, .int k, [.ref t], rfl, .ref t, [], rfl, rfl, ?_⟩
        refine ⟨_, rfl, g, _, _, rfl, eb1, gflds_no _ _ (by decide +kernel) (by decide +kernel), _, rfl, g, t, cy, ch, bb, i, o, L, rfl, hgb, ⟨etb, hL, hoL⟩, fun Hd sd => ?_⟩
        refine ⟨_, fd, rfl, dpfd _, f1, f2, f3, f4, ?_⟩
        refine ⟨_, rfl, _, rfl, _, _, rfl, .inr ⟨m, n, f, rfl, hmb.same sd, trivial, .inr ⟨k, rfl, by omega, hkn, fun He se => ?_⟩⟩⟩
        rw [hfat]
        refine ⟨_, fd, rfl, dpfd _, f1, f2, f3, f4, rfl, _, rfl, ?_⟩
        rw [decide_eq_true rfl]
        refine iteF ?_
        have sbe := sd.trans se
        have e30 : (10 : Int) ^ (30 : Int).toNat = 10 ^ 30 := rfl
        refine ⟨_, rfl, _, rfl, _, _, rfl, rfl, ⟨by decide, by decide, by decide⟩, (by show 7 ≤ sizeLine; decide), ?_⟩
        refine fun xl n_xl => ?_
        generalize g_xl : L2.upd _ xl _ = Hf
        obtain ⟨s_Hf, e_xl⟩ := U.upd_facts g_xl n_xl
        clear g_xl
        have npx : p ≠ xl := (poolb.same sbe).ne n_xl
        have sbf := sbe.trans s_Hf
        refine draw_R rfl (fun R r => r) (poolb.same sbf) (by decide) (by decide) fun r Hg r0 r1 poolg og => ?_
        have exl := og _ _ npx.symm e_xl
        obtain ⟨e, hxe⟩ : ∃ e : Int, atI [V.int 0, .int 1, .int (-1), .int 2, .int (-3), .int 7, .int ((10 : Int) ^ (30 : Int).toNat)] r = some (.int e) := by
          have : r = 0 ∨ r = 1 ∨ r = 2 ∨ r = 3 ∨ r = 4 ∨ r = 5 ∨ r = 6 := by omega
          rcases this with rfl | rfl | rfl | rfl | rfl | rfl | rfl <;> exact ⟨_, rfl⟩
        refine ⟨xl, _, r, _, rfl, rfl, SqL.of exl, hxe, ?_⟩
        have hgg := (hgb.same sbf).off (gpb.same sbf) ngp og
        have gpg := (gpb.same sbf).off ngp og
        have hmg := (hmb.same sbf).off og (poolb.same sbf).lst
        have plg := (plb.same sbf).off og (poolb.same sbf).lst
        have eGg := og _ _ nGp.symm (sbf _ _ eGb)
        have etg := og _ _ (poolb.netup etb) (sbf _ _ etb)
        have offg : Off p H8 Hg := ((oa.tr (Off.ofS s_Hb)).tr (Off.ofS sbf)).tr og
        obtain ⟨dm, fm, em⟩ := at_map hmg
        obtain ⟨dm2, D5, em2, _⟩ := id hmg.ob
        have hpw : pw n f e (k : Int) = (aftV bb o L e).map fun z => (st : Int) + z := by
          rw [ef, ek, Int.natCast_add]
          exact pw_blk hbk hn hoL e
        refine ⟨_, rfl, m, dm2, _, rfl, em2, flds_no _ _ (by decide +kernel) (by decide +kernel), _, rfl, m, n, f, .int e, rfl, hmg, .inl ⟨e, rfl, fun c Hh nc sc hc => ?_⟩⟩
        obtain ⟨dc, Dc, ec, _⟩ := id hc.ob
        refine ⟨c, rfl, _, rfl, .inr ⟨_, _, ec⟩, c, n, _, .int k, rfl, hc, trivial, ?_⟩
        have hgh := hgg.same sc
        obtain ⟨dgz, D6, D7, ez1, ez2, ez3⟩ := hgh.ob
        cases eo : aftV bb o L e with
        | none =>
          rw [eo] at hpw
          have : tgtV (pw n f e) (.int k) = none := hpw
          rw [this]
          refine ⟨_, rfl, g, _, _, rfl, ez1, gflds_no _ _ (by decide +kernel) (by decide +kernel), _, rfl, _, rfl, g, t, cy, ch, bb, i, o, L, e, rfl, hgh, ⟨sc _ _ etg, hL, hoL⟩, fun v Hi si hv => ?_⟩
          rw [eo] at hv
          cases (show v = V.non from hv)
          refine ⟨.non, .none, rfl, .non, by decide +kernel, by decide +kernel, by decide +kernel, by decide +kernel, ?_⟩
          refine ⟨_, rfl, rfl, _, rfl, ifD (fun _ => ?_) (fun h => absurd rfl h)⟩
          refine ⟨.non, .none, rfl, .non, by decide +kernel, by decide +kernel, by decide +kernel, by decide +kernel, rfl, _, rfl, ?_⟩
          rw [decide_eq_true rfl]
          exact iteF ⟨_, _, _, _, rfl, offg.tr (Off.ofS (sc.trans si)), poolg.same (sc.trans si)⟩
        | some z =>
          rw [eo] at hpw
          have : tgtV (pw n f e) (.int k) = some ((st : Int) + z) := hpw
          rw [this]
          refine ⟨_, rfl, g, _, _, rfl, ez1, gflds_no _ _ (by decide +kernel) (by decide +kernel), _, rfl, _, rfl, g, t, cy, ch, bb, i, o, L, e, rfl, hgh, ⟨sc _ _ etg, hL, hoL⟩, fun v Hi si hv => ?_⟩
          rw [eo] at hv
          obtain ⟨tv, rfl, etv⟩ := hv
          have hz : 0 ≤ z ∧ z < L := by
            unfold aftV at eo
            cases bb with
            | true =>
              rw [if_pos rfl] at eo
              cases eo
              exact ⟨Int.emod_nonneg _ (by omega), Int.emod_lt_of_pos _ (by omega)⟩
            | false =>
              rw [if_neg Bool.false_ne_true] at eo
              by_cases hh : 0 ≤ (o : Int) + e ∧ (o : Int) + e < L
              · rw [if_pos hh] at eo
                cases eo
                exact hh
              · rw [if_neg hh] at eo
                cases eo
          obtain ⟨zn, rfl⟩ := Int.eq_ofNat_of_zero_le hz.1
          have hzn : zn < L := by have := hz.2; omega
          have h6 := h5 zn hzn
          have hlt := (List.getElem?_eq_some_iff.mp h6).1
          have sci := sc.trans si
          have pli := plg.same sci
          obtain ⟨t2, ht2⟩ : ∃ t2, ps[st + zn]? = some t2 := ⟨_, List.getElem?_eq_getElem (by rw [pli.1]; exact hlt)⟩
          obtain ⟨x2, hx2, et2'⟩ := pli.2 _ _ ht2
          rw [h6] at hx2
          cases hx2
          obtain ⟨a1, a2, a3, a4⟩ := okRp_of (ok_af bb hib (show zn < 7 by omega))
          refine ⟨.ref tv, afD bb i zn, rfl, .tup (SqT.of etv) (.cons (.str _) (.cons (.int _) (.cons (.int _) .nil))), a1, a2, a3, a4, ?_⟩
          refine ⟨_, rfl, rfl, _, rfl, ifD (fun h => nomatch h) (fun _ => ?_)⟩
          refine ⟨_, rfl, _, rfl, G, ps.map V.ref, (st : Int) + (zn : Int), .ref t2, rfl, rfl, SqL.of (sci _ _ eGg), ?_, ?_⟩
          · rw [← Int.natCast_add]
            exact atI_nat (by rw [List.getElem?_map, ht2]; rfl)
          refine ⟨.ref t2, afD bb i zn, rfl, .tup (SqT.of et2') (.cons (.str _) (.cons (.int _) (.cons (.int _) .nil))), a1, a2, a3, a4, rfl, _, rfl, ?_⟩
          rw [decide_eq_true rfl]
          exact iteF ⟨_, _, _, _, rfl, offg.tr (Off.ofS sci), poolg.same sci⟩
      · rintro σ Hb ⟨w6, w12, w13, w14, rfl, oa, poolA⟩
        exact q Hb poolA ((Off.ofS s08).tr oa)
end
end My
namespace My
open PySem PySem.Spec PyProof.Rows L2 U StX PM
/-! ### the great ones -/
theorem lcm2_d (c : Nat) : c ∣ lcmL [c, 6] 1 ∧ 6 ∣ lcmL [c, 6] 1 ∧ ∀ k, c ∣ k → 6 ∣ k → lcmL [c, 6] 1 ∣ k := by
  have h := (lcmL_dvd [c, 6] 1 (lcmL [c, 6] 1)).mp (Nat.dvd_refl _)
  exact ⟨h.2 c (by simp), h.2 6 (by simp), fun k h1 h2 => (lcmL_dvd [c, 6] 1 k).mpr ⟨Nat.one_dvd _, fun x hx => by
    simp only [List.mem_cons, List.not_mem_nil, or_false] at hx
    rcases hx with rfl | rfl
    · exact h1
    · exact h2⟩⟩
theorem lcm2_pos {c : Nat} (h : 1 ≤ c) : 6 ≤ lcmL [c, 6] 1 := by
  obtain ⟨h1, h2, h3⟩ := lcm2_d c
  have : lcmL [c, 6] 1 ∣ 6 * c := h3 _ ⟨6, Nat.mul_comm _ _⟩ ⟨c, rfl⟩
  refine Nat.le_of_dvd (Nat.pos_of_ne_zero fun e => ?_) h2
  rw [e, Nat.zero_dvd] at this
  omega
theorem lcm2_in {c : Nat} (h : 1 ≤ c) : ∃ k, lcmL [c, 6] 1 = k * c ∧ (k = 1 ∨ k = 2 ∨ k = 3 ∨ k = 6) := by
  obtain ⟨⟨k, hk⟩, h2, h3⟩ := lcm2_d c
  have d : lcmL [c, 6] 1 ∣ 6 * c := h3 _ ⟨6, Nat.mul_comm _ _⟩ ⟨c, rfl⟩
  rw [hk, Nat.mul_comm 6 c] at d
  have d6 : k ∣ 6 := Nat.dvd_of_mul_dvd_mul_left (by omega) d
  refine ⟨k, by rw [hk, Nat.mul_comm], ?_⟩
  have := Nat.le_of_dvd (by decide) d6
  have : k = 0 ∨ k = 1 ∨ k = 2 ∨ k = 3 ∨ k = 4 ∨ k = 5 ∨ k = 6 := by omega
  rcases this with rfl | rfl | rfl | rfl | rfl | rfl | rfl
  · exact absurd d6 (by decide)
  · simp
  · simp
  · simp
  · exact absurd d6 (by decide)
  · exact absurd d6 (by decide)
  · simp
theorem lcm2_no {c d : Nat} (h : 1 ≤ c) (hd : d = 2 ∨ d = 3) : ¬ ((lcmL [c, 6] 1 / d) % c = 0 ∧ (lcmL [c, 6] 1 / d) % 6 = 0) := by
  rintro ⟨h1, h2⟩
  obtain ⟨_, _, h3⟩ := lcm2_d c
  have p := lcm2_pos h
  have := h3 _ (Nat.dvd_of_mod_eq_zero h1) (Nat.dvd_of_mod_eq_zero h2)
  have := Nat.le_of_dvd (by rcases hd with rfl | rfl <;> omega) this
  rcases hd with rfl | rfl <;> omega
theorem repL2 {c : Nat} (h : 1 ≤ c) (h2 : (c : Int) < 10 ^ 30) : RepL [c, 6] := by
  have b := Bg_ge
  refine ⟨fun n hn => ?_, fun i => ?_⟩
  · simp only [List.mem_cons, List.not_mem_nil, or_false] at hn
    rcases hn with rfl | rfl
    · exact ⟨h, by omega⟩
    · exact ⟨by decide, by omega⟩
  · have d : lcmL ([c, 6].take i) 1 ∣ 6 * c := (lcmL_dvd _ _ _).mpr ⟨Nat.one_dvd _, fun x hx => by
      have hx := List.mem_of_mem_take hx
      simp only [List.mem_cons, List.not_mem_nil, or_false] at hx
      rcases hx with rfl | rfl
      · exact ⟨6, Nat.mul_comm _ _⟩
      · exact ⟨c, rfl⟩⟩
    have := Nat.le_of_dvd (by omega) d
    omega
theorem inV4 {c k : Nat} (h : k = 1 ∨ k = 2 ∨ k = 3 ∨ k = 6) : inV (.int ((k * c : Nat) : Int)) [.int c, .int (2 * (c : Int)), .int (3 * (c : Int)), .int (6 * (c : Int))] = true := by
  rcases h with rfl | rfl | rfl | rfl <;> simp [inV, eqV] <;> omega
def spHg : Sp := fun vs H Q _ => ∃ p : Addr, vs = [.ref p] ∧ PoolAt H p ∧ ∀ H', Off p H H' → PoolAt H' p → Q (.bl true) H'
theorem dp3 {K : PySem.W.Frag} {H : Hp} {t : Addr} {s : Str} {a b : Int} (h : H t = some (.tup [.str s, .int a, .int b])) : Dp K H (.ref t) (.tuple [.str s, .int a, .int b]) := .tup (SqT.of h) (.cons (.str _) (.cons (.int _) (.cons (.int _) .nil)))
theorem sh3 (b : Bool) (x y : Int) : SeqAt.shaped (.tuple [.str (kd b), .int x, .int y]) = true := by
  have h1 : PyData.canLay0 (.tuple [.str (kd b), .int x, .int y]) = true := by
    show (PyData.strOk (kd b) && true) = true
    cases b <;> decide +kernel
  show (PyData.canLay0 (.tuple [.str (kd b), .int x, .int y]) && _) = true
  rw [h1]
  rfl
section
variable {P : Program} {w : World} {K : PySem.W.Frag} {mg : Str → Option Value} {base : Heap}
theorem ok_l_huge (T : Txt K mg) : FnG P w K mg base CX0 20 T.f_l_huge spHg := by
  refine T.A_l_huge.okG sc_l_huge (fun vs H Q E h => ?_) (fun cdv A outer s H vs Q E gd hr h => ?_)
  · obtain ⟨p, rfl, _⟩ := h
    rfl
  · obtain ⟨p, rfl, pool, q⟩ := h
    have hu := hu_of hr
    refine ⟨_, (pss_cons (ps_asg (pe_tup (pa_cons (pe_op op_add (pe_op op_pow pe_int pe_int) (pe_callR (ok_draw T) (hr.mono (by decide)) T.A_l_draw.kp rfl T.g_l_draw pass0 (pa_cons (pv 0) (pa_cons (pe_op op_pow pe_int pe_int) pa_nil)))) (pa_cons (pe_op op_add (pe_op op_pow pe_int pe_int) (pe_callR (ok_draw T) (hr.mono (by decide)) T.A_l_draw.kp rfl T.g_l_draw pass0 (pa_cons (pv 0) (pa_cons (pe_op op_pow pe_int pe_int) pa_nil)))) pa_nil))) (pg_tup rfl (pgs_cons (pg_name (i := 1) sc_l_huge.nd rfl (Or.inr rfl)) (pgs_cons (pg_name (i := 2) sc_l_huge.nd rfl (Or.inl rfl)) pgs_nil))))
      (pss_cons (ps_set (i := 3) sc_l_huge.nd rfl (Or.inl rfl) (pe_makeR T.M_GreatMap (ok_ginit T) (hr.mono (by decide)) rfl T.g_GreatMap pass0 (pa_cons (pe_lst (pa_cons (pv 1) (pa_cons pe_int pa_nil))) (pa_cons (pe_lst (pa_cons (pv 2) (pa_cons pe_int pa_nil))) pa_nil))))
      (pss_cons (ps_par (i := 4) (j := 5) rfl sc_l_huge.nd rfl rfl (by decide) rfl rfl (pa_cons (pe_op op_add (pe_op op_pow pe_int pe_int) (pe_callR (ok_draw T) (hr.mono (by decide)) T.A_l_draw.kp rfl T.g_l_draw pass0 (pa_cons (pv 0) (pa_cons (pe_op op_pow pe_int pe_int) pa_nil)))) (pa_cons (pe_op op_add (pe_op op_pow pe_int pe_int) (pe_callR (ok_draw T) (hr.mono (by decide)) T.A_l_draw.kp rfl T.g_l_draw pass0 (pa_cons (pv 0) (pa_cons (pe_op op_pow pe_int pe_int) pa_nil)))) pa_nil)) (by rfl))
      (pss_cons (ps_for PassesOwn.never rfl (pi_list (pe_lst (pa_cons (pv 5) (pa_cons (pe_un un_neg (pv 5)) (pa_cons pe_int (pa_cons (pe_op op_sub (pe_op op_sub (pv 2) (pv 4)) pe_int) (pa_cons (pe_op op_sub (pv 2) (pv 4)) (pa_cons (pe_un un_neg (pv 4)) (pa_cons (pe_op op_sub (pe_un un_neg (pv 4)) pe_int) pa_nil))))))))) (pg_name (i := 6) sc_l_huge.nd rfl (Or.inl rfl))
        (pss_cons (ps_if (pt_cmpR (L2.op_neD hr.units) (pe_methR (pv 3) T.o_GreatMap.cl T.meth_GreatMap_after (ok_after T) (hr.mono (by decide)) pass0 (pa_cons (pe_tup (pa_cons pe_str (pa_cons pe_int (pa_cons (pv 4) pa_nil)))) (pa_cons (pv 6) pa_nil))) (pe_tup (pa_cons pe_str (pa_cons pe_int (pa_cons (pe_op op_mod (pe_op op_add (pv 4) (pv 6)) (pv 1)) pa_nil)))) (nomark _))
        (pss_one (ps_ret pe_bl)) pss_nil)
      (pss_cons (ps_set (i := 7) sc_l_huge.nd rfl (Or.inl rfl) (pe_ifExp (pt_chain op_le op_lt pe_int (pe_op op_add (pv 4) (pv 6)) (pv 2)) (pe_tup (pa_cons pe_str (pa_cons pe_int (pa_cons (pe_op op_add (pv 4) (pv 6)) pa_nil)))) pe_non))
      (pss_one (ps_if (pt_cmpR (L2.op_neD hr.units) (pe_methR (pv 3) T.o_GreatMap.cl T.meth_GreatMap_after (ok_after T) (hr.mono (by decide)) pass0 (pa_cons (pe_tup (pa_cons pe_str (pa_cons pe_int (pa_cons (pv 4) pa_nil)))) (pa_cons (pv 6) pa_nil))) (pv 7) (nomark _))
        (pss_one (ps_ret pe_bl)) pss_nil)))))
      (pss_cons (ps_if (PW.pt (pw_or (pt_cmpR op_ne (pe_methR (pv 3) T.o_GreatMap.cl T.meth_GreatMap_fate (ok_g_fate T) (hr.mono (by decide)) pass0 (pa_cons (pe_tup (pa_cons pe_str (pa_cons pe_int (pa_cons (pv 4) pa_nil)))) pa_nil)) (pe_op op_sub (pe_op op_sub (pv 2) pe_int) (pv 4)) (nomark _)) (pw_or1 (pt_cmpR op_notN (pe_methR (pv 3) T.o_GreatMap.cl T.meth_GreatMap_fate (ok_g_fate T) (hr.mono (by decide)) pass0 (pa_cons (pe_tup (pa_cons pe_str (pa_cons pe_int (pa_cons pe_int pa_nil)))) pa_nil)) pe_non (nomark _)))))
        (pss_one (ps_ret pe_bl)) pss_nil)
      (pss_cons (ps_asg (pe_meth0R (pv 3) T.o_GreatMap.cl T.meth_GreatMap_repetition (ok_g_rep T) (hr.mono (by decide)) pass0) (pg_tup rfl (pgs_cons (pg_name (i := 8) sc_l_huge.nd rfl (Or.inl rfl)) (pgs_cons (pg_name (i := 9) sc_l_huge.nd rfl (Or.inr rfl)) pgs_nil))))
      (pss_cons (ps_if (PW.pt (pw_or (pt_cmpR op_ne (pv 8) (pv 2) (nomark _)) (pw_or (pt_cmpR op_ne (pe_op op_mod (pv 9) (pv 1)) pe_int (nomark _)) (pw_or1 (pt_cmpR op_ne (pe_op op_mod (pv 9) pe_int) pe_int (nomark _))))))
        (pss_one (ps_ret pe_bl)) pss_nil)
      (pss_cons (ps_if (pt_cmpR op_notIn_seq (pv 9) (pe_lst (pa_cons (pv 1) (pa_cons (pe_op L2.op_mulW pe_int (pv 1)) (pa_cons (pe_op L2.op_mulW pe_int (pv 1)) (pa_cons (pe_op L2.op_mulW pe_int (pv 1)) pa_nil))))) (by rfl))
        (pss_one (ps_ret pe_bl)) pss_nil)
      (pss_one (ps_ret (pe_cmpR (L2.op_eqD hr.units) (pe_lc (own := [("_law_number", 10)]) (g := (gName 10)) rfl sc_l_huge.nd (pi_tup (pe_tup (pa_cons pe_int (pa_cons pe_int pa_nil)))) (blkOk_by (own := [("_law_number", 10)]) (N := n_l_huge) (sc := defScope s_l_huge) (by decide +kernel)) (fun _ _ _ _ _ => (pg_name (i := 10) sc_l_huge.nd rfl (Or.inl rfl))) (fun _ _ _ _ _ => (pts_one (PW.pt (pw_and (pt_cmpR op_eq (pe_op op_mod (pe_op L2.op_fdivW (pv 9) (pv 10)) (pv 1)) pe_int (nomark _)) (pw_and1 (pt_cmpR op_eq (pe_op op_mod (pe_op L2.op_fdivW (pv 9) (pv 10)) pe_int) pe_int (nomark _))))))) (fun _ _ _ _ _ => (pv 10))) (pe_lst pa_nil) (nomark _)))))))))))), ?_⟩
    have E9 : (10 : Int) ^ (9 : Int).toNat = 10 ^ 9 := rfl
    have E27 : (10 : Int) ^ (27 : Int).toNat = 10 ^ 27 := rfl
    have E28 : (10 : Int) ^ (28 : Int).toNat = 10 ^ 28 := rfl
    have E29 : (10 : Int) ^ (29 : Int).toNat = 10 ^ 29 := rfl
    have dec : CPow 10 9 := ⟨by decide, by decide, by decide⟩
    refine ⟨_, _, rfl, rfl, ⟨by decide, by decide, by decide⟩, ?_⟩
    refine draw_R rfl (fun R r => ⟨_, _, rfl, rfl, dec, r⟩) pool (by decide) (by decide) fun r1 H1 a0 a9 pool1 off1 => ⟨_, _, rfl, rfl, ?_⟩
    refine ⟨_, _, rfl, rfl, ⟨by decide, by decide, by decide⟩, ?_⟩
    refine draw_R rfl (fun R r => ⟨_, _, rfl, rfl, dec, r⟩) pool1 (by decide) (by decide) fun r2 H2 b0 b9 pool2 off2 => ⟨_, _, rfl, rfl, ?_⟩
    rw [E9] at a9 b9
    obtain ⟨c, ec⟩ : ∃ c : Nat, (10 : Int) ^ (29 : Int).toNat + r1 = (c : Int) := ⟨_, (Int.toNat_of_nonneg (by rw [E29]; omega)).symm⟩
    obtain ⟨h, eh⟩ : ∃ c : Nat, (10 : Int) ^ (28 : Int).toNat + r2 = (c : Int) := ⟨_, (Int.toNat_of_nonneg (by rw [E28]; omega)).symm⟩
    refine ⟨two_le, ?_⟩
    refine fun t1 n_t1 => ?_
    generalize g_t1 : L2.upd _ t1 _ = H3
    obtain ⟨s_H3, e_t1⟩ := U.upd_facts g_t1 n_t1
    clear g_t1
    refine ⟨t1, [.int ((10 : Int) ^ (29 : Int).toNat + r1), .int ((10 : Int) ^ (28 : Int).toNat + r2)], rfl, SqT.of e_t1, rfl, .int ((10 : Int) ^ (29 : Int).toNat + r1), [.int ((10 : Int) ^ (28 : Int).toNat + r2)], rfl, .int ((10 : Int) ^ (28 : Int).toNat + r2), [], rfl, rfl, ?_⟩
    rw [ec, eh]
    rw [E29] at ec
    rw [E28] at eh
    refine ⟨_, rfl, two_le, ?_⟩
    refine fun l1 n_l1 => ?_
    generalize g_l1 : L2.upd _ l1 _ = H4
    obtain ⟨s_H4, e_l1⟩ := U.upd_facts g_l1 n_l1
    clear g_l1
    refine ⟨_, rfl, two_le, ?_⟩
    refine fun l2 n_l2 => ?_
    generalize g_l2 : L2.upd _ l2 _ = H5
    obtain ⟨s_H5, e_l2⟩ := U.upd_facts g_l2 n_l2
    clear g_l2
    have lc : LenL [c, 6] := ⟨(by show 2 ≤ 100; decide), fun n hn => by
      simp only [List.mem_cons, List.not_mem_nil, or_false] at hn
      unfold big30
      rcases hn with rfl | rfl <;> omega⟩
    have lh : LenL [h, 1] := ⟨(by show 2 ≤ 100; decide), fun n hn => by
      simp only [List.mem_cons, List.not_mem_nil, or_false] at hn
      unfold big30
      rcases hn with rfl | rfl <;> omega⟩
    refine fun g dx ng ndx ne => initG_of (cy := [c, 6]) (ch := [h, 1]) (s_H5 _ _ e_l1) e_l2 lc lh ng ndx ne fun H6 s6 hg gne => ⟨rfl, ?_⟩
    have s26 := ((s_H3.trans s_H4).trans s_H5).trans s6
    have pool6 := pool2.same s26
    have gp : GNe T.C_GreatMap H6 g p := by
      obtain ⟨xs, e⟩ := (((pool2.same s_H3).same s_H4).same s_H5).lst
      exact gne _ _ e
    have ngp : g ≠ p := ((((pool2.same s_H3).same s_H4).same s_H5).ne ng).symm
    have off6 : Off p H H6 := (off1.tr off2).tr (Off.ofS s26)
    refine ⟨_, _, rfl, rfl, ⟨by decide, by decide, by decide⟩, ?_⟩
    refine draw_R rfl (fun R r => ⟨_, _, rfl, rfl, dec, r⟩) pool6 (by decide) (by decide) fun r3 H7 c0 c9 pool7 off7 => ⟨_, _, rfl, rfl, ?_⟩
    refine ⟨_, _, rfl, rfl, ⟨by decide, by decide, by decide⟩, ?_⟩
    refine draw_R rfl (fun R r => ⟨_, _, rfl, rfl, dec, r⟩) pool7 (by decide) (by decide) fun r4 H8 d0 d9 pool8 off8 => ⟨_, _, rfl, rfl, ?_⟩
    rw [E9] at c9
    obtain ⟨o, eo⟩ : ∃ c : Nat, (10 : Int) ^ (27 : Int).toNat + r3 = (c : Int) := ⟨_, (Int.toNat_of_nonneg (by rw [E27]; omega)).symm⟩
    refine ⟨.int ((10 : Int) ^ (27 : Int).toNat + r3), .int ((10 : Int) ^ (60 : Int).toNat + r4), rfl, ?_⟩
    rw [eo]
    rw [E27] at eo
    generalize (10 : Int) ^ (60 : Int).toNat + r4 = far
    have hg8 := (hg.off gp ngp off7).off (gp.off ngp off7) ngp off8
    have off08 : Off p H H8 := (off6.tr off7).tr off8
    clear hg gne gp off6 off7 off8 off1 off2 pool pool1 pool2 pool6 pool7 s26 s6 s_H3 s_H4 s_H5 e_l1 e_l2 e_t1
    have hoc : o < c := by omega
    have hoh : o < h := by omega
    refine ⟨_, rfl, _, rfl, _, rfl, _, rfl, _, rfl, _, _, rfl, rfl, _, _, rfl, rfl, _, rfl, _, rfl, _, _, rfl, rfl, _, rfl, _, rfl, _, rfl, _, rfl, _, _, rfl, rfl, (by show 7 ≤ sizeLine; decide), ?_⟩
    refine fun xl n_xl => ?_
    generalize g_xl : L2.upd _ xl _ = H9
    obtain ⟨s_H9, e_xl⟩ := U.upd_facts g_xl n_xl
    clear g_xl
    replace e_xl : H9 xl = some (.lst [.int far, .int (-far), .int 0, .int ((h : Int) - o - 1), .int ((h : Int) - o), .int (-(o : Int)), .int (-(o : Int) - 1)]) := e_xl
    refine ⟨xl, rfl, ⟨_, SqL.of e_xl⟩, ?_⟩
    refine for_it (walk_list (xs := [.int far, .int (-far), .int 0, .int ((h : Int) - o - 1), .int ((h : Int) - o), .int (-(o : Int)), .int (-(o : Int) - 1)])) (fun i σ H' => ∃ v6 v7, σ = [some (.ref p), some (.int c), some (.int h), some (.ref g), some (.int o), some (.int far), v6, v7, none, none, none] ∧ Same H9 H')
      ⟨_, _, rfl, Same.refl _⟩ (fun i σ H' _ ⟨_, _, _, z⟩ => SqL.of (z _ _ e_xl)) ?_ ?_
    · rintro k v σ Ha0 Ha hk ⟨v6, v7, rfl, sa⟩ ⟨rfl, ev⟩
      obtain ⟨e, rfl⟩ : ∃ e, v = .int e := by
        have hm := List.mem_of_getElem? ev
        simp only [List.mem_cons, List.not_mem_nil, or_false] at hm
        rcases hm with rfl | rfl | rfl | rfl | rfl | rfl | rfl <;> exact ⟨_, rfl⟩
      have hga := (hg8.same s_H9).same sa
      obtain ⟨dgy, D3, D4, eb1, eb2, eb3⟩ := hga.ob
      refine ⟨_, rfl, g, _, _, rfl, eb1, gflds_no _ _ (by decide +kernel) (by decide +kernel), _, rfl, three_le, ?_⟩
      refine fun u1 n_u1 => ?_
      generalize g_u1 : L2.upd _ u1 _ = Hb
      obtain ⟨s_Hb, e_u1⟩ := U.upd_facts g_u1 n_u1
      clear g_u1
      have hgb := hga.same s_Hb
      refine ⟨_, rfl, g, u1, [c, 6], [h, 1], true, 0, o, c, e, rfl, hgb, ⟨e_u1, rfl, hoc⟩, fun v Hc sc hv => ?_⟩
      obtain ⟨tv, rfl, etv⟩ := hv
      refine ⟨_, rfl, _, rfl, _, _, rfl, rfl, _, rfl, _, _, rfl, rfl, (by omega), three_le, ?_⟩
      refine fun u2 n_u2 => ?_
      generalize g_u2 : L2.upd _ u2 _ = Hd
      obtain ⟨s_Hd, e_u2⟩ := U.upd_facts g_u2 n_u2
      clear g_u2
      have dd1 : Dp K Hd (.ref tv) (.tuple [.str (kd true), .int ((0 : Nat) : Int), .int (((o : Int) + e) % c)]) := dp3 (s_Hd _ _ etv)
      have dd2 : Dp K Hd (.ref u2) (.tuple [.str (kd true), .int ((0 : Nat) : Int), .int (((o : Int) + e) % c)]) := dp3 e_u2
      refine ⟨_, _, dd1, dd2, sh3 true _ _, sh3 true _ _, _, rfl, ?_⟩
      rw [SeqAt.eqv_refl _ (SeqAt.canLay_of_shaped (sh3 true _ _))]
      refine iteF ?_
      have hgd := (hgb.same sc).same s_Hd
      have sad := ((sa.trans s_Hb).trans sc).trans s_Hd
      clear dd1 dd2 etv e_u1 e_u2 hgb hga sa s_Hb sc s_Hd eb1 eb2 eb3
      -- the due one of the chain
      have av : aftV false o h e = if 0 ≤ (o : Int) + e ∧ (o : Int) + e < h then some ((o : Int) + e) else none := rfl
      refine ⟨_, rfl, _, rfl, _, _, rfl, rfl, _, _, rfl, rfl, _, rfl, ?_⟩
      refine ifD (fun h1 => ?_) (fun h1 => ?_)
      · refine ⟨_, rfl, _, _, rfl, rfl, _, rfl, ?_⟩
        refine ifD (fun h2 => ?_) (fun h2 => ?_)
        · rw [if_pos ⟨h1, h2⟩] at av
          refine ⟨_, rfl, _, rfl, _, _, rfl, rfl, three_le, ?_⟩
          refine fun u3 n_u3 => ?_
          generalize g_u3 : L2.upd _ u3 _ = He
          obtain ⟨s_He, e_u3⟩ := U.upd_facts g_u3 n_u3
          clear g_u3
          have hge := hgd.same s_He
          obtain ⟨dgz, D5, D6, ez1, ez2, ez3⟩ := hge.ob
          refine ⟨_, rfl, g, _, _, rfl, ez1, gflds_no _ _ (by decide +kernel) (by decide +kernel), _, rfl, three_le, ?_⟩
          refine fun u4 n_u4 => ?_
          generalize g_u4 : L2.upd _ u4 _ = Hf
          obtain ⟨s_Hf, e_u4⟩ := U.upd_facts g_u4 n_u4
          clear g_u4
          refine ⟨_, rfl, g, u4, [c, 6], [h, 1], false, 0, o, h, e, rfl, hge.same s_Hf, ⟨e_u4, rfl, hoh⟩, fun v Hg sg hv => ?_⟩
          rw [av] at hv
          obtain ⟨tv, rfl, etv⟩ := hv
          have dd1 : Dp K Hg (.ref tv) (.tuple [.str (kd false), .int ((0 : Nat) : Int), .int ((o : Int) + e)]) := dp3 etv
          have dd2 : Dp K Hg (.ref u3) (.tuple [.str (kd false), .int ((0 : Nat) : Int), .int ((o : Int) + e)]) := dp3 (sg _ _ (s_Hf _ _ e_u3))
          refine ⟨_, rfl, _, _, dd1, dd2, sh3 false _ _, sh3 false _ _, _, rfl, ?_⟩
          rw [SeqAt.eqv_refl _ (SeqAt.canLay_of_shaped (sh3 false _ _))]
          exact iteF ⟨_, _, rfl, sad.trans (s_He.trans (s_Hf.trans sg))⟩
        · rw [if_neg (fun z => h2 z.2)] at av
          have hge := hgd.same (Same.refl _)
          obtain ⟨dgz, D5, D6, ez1, ez2, ez3⟩ := hge.ob
          refine ⟨_, rfl, g, _, _, rfl, ez1, gflds_no _ _ (by decide +kernel) (by decide +kernel), _, rfl, three_le, ?_⟩
          refine fun u4 n_u4 => ?_
          generalize g_u4 : L2.upd _ u4 _ = Hf
          obtain ⟨s_Hf, e_u4⟩ := U.upd_facts g_u4 n_u4
          clear g_u4
          refine ⟨_, rfl, g, u4, [c, 6], [h, 1], false, 0, o, h, e, rfl, hge.same s_Hf, ⟨e_u4, rfl, hoh⟩, fun v Hg sg hv => ?_⟩
          rw [av] at hv
          cases (show v = V.non from hv)
          exact ⟨_, rfl, _, _, .non, .non, by decide +kernel, by decide +kernel, _, rfl, iteF ⟨_, _, rfl, sad.trans (s_Hf.trans sg)⟩⟩
      · rw [if_neg (fun z => h1 z.1)] at av
        refine ⟨_, rfl, iteF ?_⟩
        have hge := hgd.same (Same.refl _)
        obtain ⟨dgz, D5, D6, ez1, ez2, ez3⟩ := hge.ob
        refine ⟨_, rfl, g, _, _, rfl, ez1, gflds_no _ _ (by decide +kernel) (by decide +kernel), _, rfl, three_le, ?_⟩
        refine fun u4 n_u4 => ?_
        generalize g_u4 : L2.upd _ u4 _ = Hf
        obtain ⟨s_Hf, e_u4⟩ := U.upd_facts g_u4 n_u4
        clear g_u4
        refine ⟨_, rfl, g, u4, [c, 6], [h, 1], false, 0, o, h, e, rfl, hge.same s_Hf, ⟨e_u4, rfl, hoh⟩, fun v Hg sg hv => ?_⟩
        rw [av] at hv
        cases (show v = V.non from hv)
        exact ⟨_, rfl, _, _, .non, .non, by decide +kernel, by decide +kernel, _, rfl, iteF ⟨_, _, rfl, sad.trans (s_Hf.trans sg)⟩⟩
    · rintro σ Ha ⟨v6, v7, rfl, sa⟩
      have hga := (hg8.same s_H9).same sa
      obtain ⟨dgy, D3, D4, eb1, eb2, eb3⟩ := hga.ob
      refine ⟨_, rfl, g, _, _, rfl, eb1, gflds_no _ _ (by decide +kernel) (by decide +kernel), _, rfl, three_le, ?_⟩
      refine fun u1 n_u1 => ?_
      generalize g_u1 : L2.upd _ u1 _ = Hb
      obtain ⟨s_Hb, e_u1⟩ := U.upd_facts g_u1 n_u1
      clear g_u1
      refine ⟨g, u1, [c, 6], [h, 1], false, 0, o, h, rfl, hga.same s_Hb, ⟨e_u1, rfl, hoh⟩, fun Hc sc => ?_⟩
      refine ⟨_, rfl, _, _, rfl, rfl, _, rfl, _, _, rfl, rfl, rfl, _, rfl, ifB (fun z => ?_) (fun _ => ?_)⟩
      · simp [fatG] at z
      have sac := s_Hb.trans sc
      refine ⟨_, rfl, g, _, _, rfl, sac _ _ eb1, gflds_no _ _ (by decide +kernel) (by decide +kernel), three_le, ?_⟩
      refine fun u2 n_u2 => ?_
      generalize g_u2 : L2.upd _ u2 _ = Hd
      obtain ⟨s_Hd, e_u2⟩ := U.upd_facts g_u2 n_u2
      clear g_u2
      refine ⟨g, u2, [c, 6], [h, 1], true, 1, 5, 6, rfl, (hga.same sac).same s_Hd, ⟨e_u2, rfl, by decide⟩, fun He se => ⟨rfl, _, rfl, ifB (fun z => ?_) (fun _ => ?_)⟩⟩
      · simp [fatG] at z
      have sae := (sac.trans s_Hd).trans se
      have hge := hga.same sae
      obtain ⟨dgz, D5, D6, ez1, ez2, ez3⟩ := hge.ob
      refine ⟨_, rfl, g, _, _, rfl, ez1, gflds_no _ _ (by decide +kernel) (by decide +kernel), g, [c, 6], [h, 1], rfl, hge, repL2 (by omega) (by omega), ?_⟩
      refine fun u3 n_u3 => ?_
      generalize g_u3 : L2.upd _ u3 _ = Hf
      obtain ⟨s_Hf, e_u3⟩ := U.upd_facts g_u3 n_u3
      clear g_u3
      obtain ⟨Pd, ePd⟩ : ∃ Pd, Pd = lcmL [c, 6] 1 := ⟨_, rfl⟩
      have c1 : 1 ≤ c := by omega
      obtain ⟨d1, d2, d3⟩ := lcm2_d c
      obtain ⟨kk, hk1, hk2⟩ := lcm2_in c1
      have no2 := lcm2_no (d := 2) c1 (.inl rfl)
      have no3 := lcm2_no (d := 3) c1 (.inr rfl)
      have pos := lcm2_pos c1
      have emx : maxL [h, 1] 1 = h := by
        show (if (if 1 < h then h else 1) < 1 then 1 else if 1 < h then h else 1) = h
        rw [if_pos (show 1 < h by omega), if_neg (by omega)]
      rw [← ePd] at e_u3 d1 d2 d3 hk1 no2 no3 pos
      rw [emx] at e_u3
      refine ⟨u3, [.int (h : Nat), .int (Pd : Nat)], rfl, SqT.of e_u3, rfl, .int (h : Nat), [.int (Pd : Nat)], rfl, .int (Pd : Nat), [], rfl, rfl, ?_⟩
      refine ⟨_, rfl, _, rfl, rfl, _, rfl, ifB (fun z => ?_) (fun _ => ?_)⟩
      · simp at z
      refine ⟨_, rfl, _, rfl, _, _, rfl, rfl, (by show (0 : Int) < c; omega), rfl, _, rfl, ifB (fun z => ?_) (fun _ => ?_)⟩
      · replace z : (!decide (V.int ((Pd : Int) % (c : Int)) = V.int 0)) = true := z
        rw [show ((Pd : Nat) : Int) % (c : Int) = 0 by rw [← Int.natCast_emod, Nat.mod_eq_zero_of_dvd d1]; rfl] at z
        simp at z
      refine ⟨_, rfl, _, _, rfl, rfl, (by show (0 : Int) < 6; decide), rfl, _, rfl, ifB (fun z => ?_) (fun _ => ?_)⟩
      · replace z : (!decide (V.int ((Pd : Int) % (6 : Int)) = V.int 0)) = true := z
        rw [show ((Pd : Nat) : Int) % (6 : Int) = 0 by omega] at z
        simp at z
      have Bg' := Bg_ge
      have cB : (c : Int) < Bg := by omega
      have c0 : (0 : Int) ≤ c := by omega
      refine ⟨_, rfl, _, rfl, _, rfl, _, _, rfl, rfl, Bg_mul (by decide) (by omega) c0 cB, _, rfl, _, _, rfl, rfl, Bg_mul (by decide) (by omega) c0 cB, _, rfl, _, _, rfl, rfl, Bg_mul (by decide) (by omega) c0 cB, (by show 4 ≤ sizeLine; decide), ?_⟩
      refine fun u4 n_u4 => ?_
      generalize g_u4 : L2.upd _ u4 _ = Hg
      obtain ⟨s_Hg, e_u4⟩ := U.upd_facts g_u4 n_u4
      clear g_u4
      replace e_u4 : Hg u4 = some (.lst [.int c, .int (2 * (c : Int)), .int (3 * (c : Int)), .int (6 * (c : Int))]) := e_u4
      refine ⟨u4, _, rfl, .inl (SqL.of e_u4), rfl, rfl, _, rfl, ?_⟩
      refine ifB (fun z => ?_) (fun _ => ?_)
      · replace z : (!inV (.int (Pd : Int)) [.int c, .int (2 * (c : Int)), .int (3 * (c : Int)), .int (6 * (c : Int))]) = true := z
        rw [hk1, inV4 hk2] at z
        cases z
      dsimp only [tRet, tOp]
      refine ⟨two_le, ?_⟩
      refine fun u5 n_u5 => ?_
      generalize g_u5 : L2.upd _ u5 _ = Hh
      obtain ⟨s_Hh, e_u5⟩ := U.upd_facts g_u5 n_u5
      clear g_u5
      refine ⟨u5, rfl, ⟨_, SqT.of e_u5⟩, fun D hD => ?_⟩
      refine lc_it (walk_tup (xs := [.int 2, .int 3])) (fun k H' => Same Hh H' ∧ H' D = some (.lst [])) ⟨Same.new hD, upd_same⟩ (fun k H' _ z => SqT.of (z.1 _ _ e_u5)) ?_ ?_
      · rintro k v H' H'' hk ⟨s1, e1⟩ ⟨rfl, ev⟩
        refine ⟨rfl, ?_⟩
        obtain ⟨d, rfl, hd⟩ : ∃ d : Nat, v = .int d ∧ (d = 2 ∨ d = 3) := by
          match k, hk, ev with
          | 0, _, ev => cases ev; exact ⟨2, rfl, .inl rfl⟩
          | 1, _, ev => cases ev; exact ⟨3, rfl, .inr rfl⟩
        have dB : (d : Int) < Bg := by omega
        have no := lcm2_no c1 hd
        rw [← ePd] at no
        refine ⟨_, rfl, _, rfl, _, _, rfl, rfl, Bg_div (by omega) dB, _, rfl, _, _, rfl, rfl, (by show (0 : Int) < c; omega), rfl, _, rfl, ifB (fun z1 => ?_) (fun _ => iteF ⟨s1, e1⟩)⟩
        refine ⟨_, rfl, _, rfl, _, _, rfl, rfl, Bg_div (by omega) dB, _, _, rfl, rfl, (by show (0 : Int) < 6; decide), rfl, _, rfl, ifB (fun z2 => ?_) (fun _ => ⟨s1, e1⟩)⟩
        replace z1 : decide (V.int ((Pd : Int) / (d : Int) % (c : Int)) = V.int 0) = true := z1
        replace z2 : decide (V.int ((Pd : Int) / (d : Int) % (6 : Int)) = V.int 0) = true := z2
        simp only [decide_eq_true_eq, V.int.injEq] at z1 z2
        refine absurd ⟨?_, ?_⟩ no
        · rw [← Int.natCast_ediv, ← Int.natCast_emod] at z1
          exact Int.natCast_inj.mp z1
        · have : ((Pd / d : Nat) : Int) % 6 = 0 := by rw [Int.natCast_ediv]; exact z2
          omega
      · rintro H' ⟨s1, e1⟩
        refine ⟨nil_le, ?_⟩
        refine fun u6 n_u6 => ?_
        generalize g_u6 : L2.upd _ u6 _ = Hi
        obtain ⟨s_Hi, e_u6⟩ := U.upd_facts g_u6 n_u6
        clear g_u6
        refine ⟨.list [], .list [], .lst (SqL.of (s_Hi _ _ e1)) .nil, .lst (SqL.of e_u6) .nil, by decide +kernel, by decide +kernel, ?_⟩
        have sz := (((((sae.trans s_Hf).trans s_Hg).trans s_Hh).trans s1).trans s_Hi)
        have sy : Same H8 Hi := (s_H9.trans sa).trans sz
        exact q Hi (off08.tr (Off.ofS sy)) (pool8.same sy)
end
end My
namespace My
open PySem PySem.Spec PyProof.Rows L2 U StX PM
theorem GNe.offZ {C : Addr} {H H' : Hp} {g z y : Addr} (h : GNe C H g z) (hy : g ≠ y) (o : Off y H H') : GNe C H' g z := by
  obtain ⟨dx, D1, D2, e, h⟩ := h
  exact ⟨dx, D1, D2, o _ _ hy e, h⟩
theorem di2 : DI [(2, 100)] (cnt (List.replicate 100 2)) := by
  refine ⟨by decide, fun x => ?_⟩
  by_cases h : x = 2
  · subst h
    decide +kernel
  · have z : cN (List.replicate 100 2) x = 0 := by
      unfold cN
      rw [List.filter_eq_nil_iff.mpr fun L hL => by
        rw [List.eq_of_mem_replicate hL]
        simp
        omega]
      rfl
    unfold cnt
    rw [if_pos z]
    have h' : ¬ (2 : Int) = x := fun e => h e.symm
    simp [lk, h, h']
theorem pos2 : Pos [(2, 100)] := by
  have := Bg_ge
  intro p hp
  simp only [List.mem_cons, List.not_mem_nil, or_false] at hp
  subst hp
  exact ⟨by decide, by decide, by show (2 : Int) < Bg; omega, by show (100 : Int) < Bg; omega⟩
theorem di0 : DI [] (cnt []) := ⟨List.nodup_nil, fun x => rfl⟩
section
variable {P : Program} {w : World} {K : PySem.W.Frag} {mg : Str → Option Value} {base : Heap}
theorem ok_law (T : Txt K mg) : FnG P w K mg base CX0 40 T.f_law (spLaw K) := by
  refine T.A_law.okG sc_law (fun vs H Q E h => ?_) (fun cdv A outer s H vs Q E gd hr h => ?_)
  · obtain ⟨a, ns, rfl, _⟩ := h
    rfl
  · obtain ⟨a, ns, rfl, hS, hl, q⟩ := h
    have hu := hu_of hr
    obtain ⟨_, h_MAX_PARTS⟩ := T.v_MAX_PARTS
    refine ⟨_, (pss_cons (ps_if (PW.pt (pw_or (pt_cmpR op_ne (pe_glob (v := .int 100) rfl h_MAX_PARTS ⟨_, rfl⟩) pe_int (nomark _)) (pw_or1 (pt_cmpR (L2.op_neD hr.units) (pe_meth0R (pe_makeR T.M_GreatMap (ok_ginit T) (hr.mono (by decide)) rfl T.g_GreatMap pass0 (pa_cons (pe_lst pa_nil) (pa_cons (pe_lst pa_nil) pa_nil))) T.o_GreatMap.cl T.meth_GreatMap_repetition (ok_g_rep T) (hr.mono (by decide)) pass0) (pe_tup (pa_cons pe_int (pa_cons pe_int pa_nil))) (nomark _)))))
        (pss_one (ps_ret pe_bl)) pss_nil)
      (pss_cons (ps_if (pt_cmpR (op_neO T.o_Shape T.ne_Shape T.m_Shape__eq T.i_Shape__eq (ok_sh_eq T) (hr.mono (by decide)) pass0) (pe_meth0R (pe_makeR T.M_GreatMap (ok_ginit T) (hr.mono (by decide)) rfl T.g_GreatMap pass0 (pa_cons (pe_op op_rep (pe_lst (pa_cons pe_int pa_nil)) pe_int) (pa_cons (pe_lst pa_nil) pa_nil))) T.o_GreatMap.cl T.meth_GreatMap_shape (ok_g_shape T) (hr.mono (by decide)) pass0) (pe_makeR T.M_Shape (ok_sh_init T) (hr.mono (by decide)) rfl T.g_Shape pass0 (pa_cons (pe_disp (pps_cons pe_int pe_int pps_nil) (by rfl) (by rfl) (fun z => by cases z) (by decide)) (pa_cons pe_dnewK pa_nil))) (nomark _))
        (pss_one (ps_ret pe_bl)) pss_nil)
      (pss_cons (ps_for PassesOwn.never rfl (pi_range1 rfl T.n_range (pa_cons (pe_callB (call_max2 rfl) (by rfl) T.n_max (by decide +kernel) (pa_cons pe_int (pa_cons (pe_callB (call_min2 rfl) (by rfl) T.n_min (by decide +kernel) (pa_cons (pe_callB call_len_seq (by rfl) T.n_len (by decide +kernel) (pa_cons (pv 0) pa_nil)) (pa_cons pe_int pa_nil))) pa_nil))) pa_nil)) (pg_name (i := 1) sc_law.nd rfl (Or.inl rfl))
        (pss_cons (ps_set (i := 2) sc_law.nd rfl (Or.inl rfl) (pe_callR (ok_hand T) (hr.mono (by decide)) T.A_l_hand.kp rfl T.g_l_hand pass0 (pa_cons (pv 0) (pa_cons (pv 1) pa_nil))))
      (pss_cons (ps_par (i := 3) (j := 4) rfl sc_law.nd rfl rfl (by decide) rfl rfl (pa_cons (pe_callR (ok_l_lengths T) (hr.mono (by decide)) T.A_l_lengths.kp rfl T.g_l_lengths pass0 (pa_cons (pv 2) (pa_cons pe_int pa_nil))) (pa_cons (pe_callR (ok_l_lengths T) (hr.mono (by decide)) T.A_l_lengths.kp rfl T.g_l_lengths pass0 (pa_cons (pv 2) (pa_cons pe_int pa_nil))) pa_nil)) (by rfl))
      (pss_cons (ps_set (i := 5) sc_law.nd rfl (Or.inl rfl) (pe_makeR T.M_GreatMap (ok_ginit T) (hr.mono (by decide)) rfl T.g_GreatMap pass0 (pa_cons (pv 3) (pa_cons (pv 4) pa_nil))))
      (pss_cons (ps_if (PW.pt (pw_or (pt_cmpR (L2.op_neD hr.units) (pe_lst (pa_cons (pe_propR (pv 5) T.o_GreatMap.cl T.P_GreatMap_cycles (ok_g_cycles T) (hr.mono (by decide))) (pa_cons (pe_propR (pv 5) T.o_GreatMap.cl T.P_GreatMap_chains (ok_g_chains T) (hr.mono (by decide))) pa_nil))) (pe_lst (pa_cons (pv 3) (pa_cons (pv 4) pa_nil))) (nomark _)) (pw_or1 (pt_cmpR (op_neV T.o_GreatMap T.ne_GreatMap T.m_GreatMap__eq T.i_GreatMap__eq (ok_eqV T) (hr.mono (by decide)) pass0) (pv 5) (pe_makeR T.M_GreatMap (ok_ginit T) (hr.mono (by decide)) rfl T.g_GreatMap pass0 (pa_cons (pe_callTy call_list_of (by rfl) T.n_list (by decide +kernel) (pa_cons (pv 3) pa_nil)) (pa_cons (pv 4) pa_nil))) (nomark _)))))
        (pss_one (ps_ret pe_bl)) pss_nil)
      (pss_cons (ps_if (PW.pt (pw_or (pt_cmpR op_ne (pe_callB (call_reprO gd T.m_GreatMap__repr T.i_GreatMap__repr (ok_repr T) (hr.mono (by decide)) pass0) (by rfl) T.n_repr (by decide +kernel) (pa_cons (pv 5) pa_nil)) (pe_op op_add_str (pe_op op_add_str (pe_op op_add_str (pe_op op_add_str pe_str (pe_callB (call_repr gd hr.units) (by rfl) T.n_repr (by decide +kernel) (pa_cons (pv 3) pa_nil))) pe_str) (pe_callB (call_repr gd hr.units) (by rfl) T.n_repr (by decide +kernel) (pa_cons (pv 4) pa_nil))) pe_str) (nomark _)) (pw_or1 (pt_cmpR (op_eqV T.m_GreatMap__eq T.i_GreatMap__eq (ok_eqV T) (hr.mono (by decide)) pass0) (pv 5) (pe_lst (pa_cons (pv 3) (pa_cons (pv 4) pa_nil))) (nomark _)))))
        (pss_one (ps_ret pe_bl)) pss_nil)
      (pss_cons (ps_if (pt_cmpR op_ne (pe_cmpR (op_eqV T.m_GreatMap__eq T.i_GreatMap__eq (ok_eqV T) (hr.mono (by decide)) pass0) (pv 5) (pe_makeR T.M_GreatMap (ok_ginit T) (hr.mono (by decide)) rfl T.g_GreatMap pass0 (pa_cons (pv 4) (pa_cons (pv 3) pa_nil))) (nomark _)) (pe_cmpR (L2.op_eqD hr.units) (pv 4) (pv 3) (nomark _)) (nomark _))
        (pss_one (ps_ret pe_bl)) pss_nil)
      (pss_cons (ps_expr (pe_bm PySem.F.plainAttrs_list PySem.F.slot_list_append PySem.F.type_list_append mt_append (pe_propR (pv 5) T.o_GreatMap.cl T.P_GreatMap_cycles (ok_g_cycles T) (hr.mono (by decide))) (pa_cons pe_non pa_nil)))
      (pss_cons (ps_expr (pe_bm0 PySem.F.plainAttrs_list PySem.F.slot_list_clear PySem.F.type_list_clear mt_clear (pe_propR (pv 5) T.o_GreatMap.cl T.P_GreatMap_chains (ok_g_chains T) (hr.mono (by decide)))))
      (pss_cons (ps_if (pt_cmpR (L2.op_neD hr.units) (pe_lst (pa_cons (pe_propR (pv 5) T.o_GreatMap.cl T.P_GreatMap_cycles (ok_g_cycles T) (hr.mono (by decide))) (pa_cons (pe_propR (pv 5) T.o_GreatMap.cl T.P_GreatMap_chains (ok_g_chains T) (hr.mono (by decide))) pa_nil))) (pe_lst (pa_cons (pv 3) (pa_cons (pv 4) pa_nil))) (nomark _))
        (pss_one (ps_ret pe_bl)) pss_nil)
      (pss_cons (ps_if (pt_cmpR (L2.op_neD hr.units) (pe_meth0R (pv 5) T.o_GreatMap.cl T.meth_GreatMap_repetition (ok_g_rep T) (hr.mono (by decide)) pass0) (pe_meth0R (pe_makeR T.M_GreatMap (ok_ginit T) (hr.mono (by decide)) rfl T.g_GreatMap pass0 (pa_cons (pv 3) (pa_cons (pv 4) pa_nil))) T.o_GreatMap.cl T.meth_GreatMap_repetition (ok_g_rep T) (hr.mono (by decide)) pass0) (nomark _))
        (pss_one (ps_ret pe_bl)) pss_nil)
      (pss_cons (ps_set (i := 6) sc_law.nd rfl (Or.inl rfl) (pe_lst (pa_cons (pe_callTy call_list_of (by rfl) T.n_list (by decide +kernel) (pa_cons (pv 3) pa_nil)) (pa_cons (pe_callTy call_list_of (by rfl) T.n_list (by decide +kernel) (pa_cons (pv 4) pa_nil)) pa_nil))))
      (pss_cons (ps_set (i := 7) sc_law.nd rfl (Or.inl rfl) (pe_makeR T.M_GreatMap (ok_ginit T) (hr.mono (by decide)) rfl T.g_GreatMap pass0 (pa_cons (pe_ix ix_list (pv 6) pe_int (fun _ _ => rfl)) (pa_cons (pe_ix ix_list (pv 6) pe_int (fun _ _ => rfl)) pa_nil))))
      (pss_cons (ps_expr (pe_bm PySem.F.plainAttrs_list PySem.F.slot_list_append PySem.F.type_list_append mt_append (pe_ix ix_list (pv 6) pe_int (fun _ _ => rfl)) (pa_cons pe_int pa_nil)))
      (pss_cons (ps_expr (pe_bm PySem.F.plainAttrs_list PySem.F.slot_list_append PySem.F.type_list_append mt_append (pe_ix ix_list (pv 6) pe_int (fun _ _ => rfl)) (pa_cons pe_int pa_nil)))
      (pss_cons (ps_if (pt_cmpR (op_neV T.o_GreatMap T.ne_GreatMap T.m_GreatMap__eq T.i_GreatMap__eq (ok_eqV T) (hr.mono (by decide)) pass0) (pv 7) (pv 5) (nomark _))
        (pss_one (ps_ret pe_bl)) pss_nil)
      (pss_one (ps_if (PW.pt (pw_or (PW.pt (pw_and (pt_cmpR (L2.op_neD hr.units) (pe_op op_cat (pv 3) (pv 4)) (pe_lst pa_nil) (nomark _)) (pw_and1 (pt_not (pt_val (pe_callG (ok_l_small T) gd (hr.mono (by decide)) T.A_l_small.kp rfl T.g_l_small pass0 (pa_cons (pv 2) (pa_cons (pv 3) (pa_cons (pv 4) pa_nil))))))))) (pw_or1 (pt_not (pt_val (pe_callG (ok_l_huge T) gd (hr.mono (by decide)) T.A_l_huge.kp rfl T.g_l_huge pass0 (pa_cons (pv 2) pa_nil)))))))
        (pss_one (ps_ret pe_bl)) pss_nil))))))))))))))))))
      (pss_one (ps_ret pe_bl))))), ?_⟩
    have L0 : LenL [] := ⟨by decide, fun n hn => nomatch hn⟩
    refine ⟨rfl, _, rfl, ifB (fun z => by simp at z) (fun _ => ?_)⟩
    refine ⟨nil_le, ?_⟩
    refine fun l1 n_l1 => ?_
    generalize g_l1 : L2.upd _ l1 _ = H1
    obtain ⟨s_H1, e_l1⟩ := U.upd_facts g_l1 n_l1
    clear g_l1
    refine ⟨nil_le, ?_⟩
    refine fun l2 n_l2 => ?_
    generalize g_l2 : L2.upd _ l2 _ = H2
    obtain ⟨s_H2, e_l2⟩ := U.upd_facts g_l2 n_l2
    clear g_l2
    refine fun g1 dx ng ndx ne => initG_of (cy := []) (ch := []) (s_H2 _ _ e_l1) e_l2 L0 L0 ng ndx ne fun H3 s3 hg3 _ => ⟨rfl, ?_⟩
    obtain ⟨dg3, D1, D2, eg1, _, _⟩ := hg3.ob
    refine ⟨g1, _, _, rfl, eg1, gflds_no _ _ (by decide +kernel) (by decide +kernel), g1, [], [], rfl, hg3, repL_2520 (l := []) (fun n hn => nomatch hn), ?_⟩
    refine fun t1 n_t1 => ?_
    generalize g_t1 : L2.upd _ t1 _ = H4
    obtain ⟨s_H4, e_t1⟩ := U.upd_facts g_t1 n_t1
    clear g_t1
    refine ⟨two_le, ?_⟩
    refine fun t2 n_t2 => ?_
    generalize g_t2 : L2.upd _ t2 _ = H5
    obtain ⟨s_H5, e_t2⟩ := U.upd_facts g_t2 n_t2
    clear g_t2
    have dd1 : Dp K H5 (.ref t1) (.tuple [.int 1, .int 1]) := .tup (SqT.of (s_H5 _ _ e_t1)) (.cons (.int 1) (.cons (.int 1) .nil))
    have dd2 : Dp K H5 (.ref t2) (.tuple [.int 1, .int 1]) := .tup (SqT.of e_t2) (.cons (.int 1) (.cons (.int 1) .nil))
    refine ⟨_, _, dd1, dd2, by decide +kernel, by decide +kernel, _, rfl, ?_⟩
    refine ifB (fun z => absurd z (by decide +kernel)) (fun _ => ?_)
    have s05 := (((s_H1.trans s_H2).trans s3).trans s_H4).trans s_H5
    clear dd1 dd2 e_l1 e_l2 e_t1 e_t2 eg1 hg3
    -- the shape of many
    refine ⟨one_le, ?_⟩
    refine fun l3 n_l3 => ?_
    generalize g_l3 : L2.upd _ l3 _ = H6
    obtain ⟨s_H6, e_l3⟩ := U.upd_facts g_l3 n_l3
    clear g_l3
    refine ⟨l3, 100, _, rfl, rfl, e_l3, by decide, by decide, by decide, ?_⟩
    refine fun l4 n_l4 => ?_
    generalize g_l4 : L2.upd _ l4 _ = H7
    obtain ⟨s_H7, e_l4⟩ := U.upd_facts g_l4 n_l4
    clear g_l4
    replace e_l4 : H7 l4 = some (.lst (vN (List.replicate 100 2))) := by rw [e_l4]; rfl
    refine ⟨nil_le, ?_⟩
    refine fun l5 n_l5 => ?_
    generalize g_l5 : L2.upd _ l5 _ = H8
    obtain ⟨s_H8, e_l5⟩ := U.upd_facts g_l5 n_l5
    clear g_l5
    refine fun g2 dx ng ndx ne => initG_of (cy := List.replicate 100 2) (ch := []) (s_H8 _ _ e_l4) e_l5 ⟨by decide, fun n hn => by rw [List.eq_of_mem_replicate hn]; decide⟩ L0 ng ndx ne fun H9 s9 hg9 _ => ⟨rfl, ?_⟩
    obtain ⟨dg9, D1, D2, eg1, _, _⟩ := hg9.ob
    refine ⟨g2, _, _, rfl, eg1, gflds_no _ _ (by decide +kernel) (by decide +kernel), g2, _, [], rfl, hg9, fun n hn => by rw [List.eq_of_mem_replicate hn]; decide, (fun n hn => nomatch hn), fun sh1 c1 h1 H10 s10 is1 d1 d2 => ?_⟩
    refine fun D5 n_D5 => ?_
    refine ⟨upd_same, [(Sum.inl 2, .int 100)], rfl, by show 1 ≤ 15; decide, ?_⟩
    generalize g_D5 : upd (upd H10 D5 _) D5 _ = H11
    have e_D5 : H11 D5 = some (.dK (kvI [(2, 100)])) := by rw [← g_D5, upd_same]; rfl
    have s_H11 : Same H10 H11 := by rw [← g_D5]; exact Same.put (Same.new n_D5) n_D5
    clear g_D5
    refine fun D6 n_D6 => ?_
    generalize g_D6 : L2.upd _ D6 _ = H12
    obtain ⟨s_H12, e_D6⟩ := U.upd_facts g_D6 n_D6
    clear g_D6
    refine fun sh2 dx nx ndx ne => initS_of (l1 := [(2, 100)]) (l2 := []) (s_H12 _ _ e_D5) e_D6 (by decide) List.nodup_nil pos2 (fun p hp => nomatch hp) (by decide) (by decide) nx ndx ne fun c2 h2 H13 s13 pm1 pm2 is2 => ⟨rfl, ?_⟩
    have s1013 := (s_H11.trans s_H12).trans s13
    have is1' := is1.same s1013
    obtain ⟨⟨dxa, Da1, Da2, ea1, ea2, ea3⟩, _⟩ := id is1'
    obtain ⟨⟨dxb, Db1, Db2, eb1, eb2, eb3⟩, _⟩ := id is2
    refine ⟨sh1, _, _, sh2, _, _, rfl, rfl, ea1, eb1, sh1, sh2, c1, h1, c2, h2, rfl, is1', is2, asc_eqD is1'.a1 is2.a1 d1 (di_perm di2 pm1), asc_eqD is1'.a2 is2.a2 d2 (di_perm di0 pm2), _, rfl, _, rfl, iteF ?_⟩
    have s013 : Same H H13 := (((((s05.trans s_H6).trans s_H7).trans s_H8).trans s9).trans s10).trans s1013
    clear is1 is2 is1' ea1 ea2 ea3 eb1 eb2 eb3 d1 d2 pm1 pm2 s1013 s_H11 s_H12 s13 s10 s9 s_H8 s_H7 s_H6 s05 e_D5 e_D6 hg9 eg1 e_l3 e_l4 e_l5
    have hS := SqL.same hS s013
    refine ⟨_, rfl, a, _, rfl, .inl hS, _, _, rfl, _, _, rfl, _, rfl, ?_, ?_, ?_⟩
    · rw [List.length_map]; (repeat' split) <;> omega
    · rw [List.length_map]; (repeat' split) <;> omega
    refine for_it (walk_range (lo := 0)) (fun i σ H' => ∃ v1 v2 v3 v4 v5 v6 v7, σ = [some (.ref a), v1, v2, v3, v4, v5, v6, v7] ∧ Same H13 H')
      ⟨_, _, _, _, _, _, _, rfl, Same.refl _⟩ (fun _ _ _ _ _ => trivial) ?_ ?_
    · rintro k v σ H' H1 hk ⟨v1, v2, v3, v4, v5, v6, v7, rfl, p1⟩ ⟨rfl, rfl⟩
      refine ⟨_, rfl, _, rfl, a, ns, _, rfl, SqL.same hS p1, hl, fun p H2 x y np hp s2 hx hy hy2 => ?_⟩
      have p0 : H13 p = none := p1.free np
      have pool2 : PoolAt H2 p := ⟨x, y, hp, hx, hy, hy2⟩
      refine ⟨_, rfl, p, rfl, pool2, fun cy A1 H3 sm1 pool3 off3 nA1 eA1 => ⟨_, rfl, p, rfl, pool3, fun ch A2 H4 sm2 pool4 off4 nA2 eA2 => ⟨_, _, rfl, ?_⟩⟩⟩
      have nA1p : A1 ≠ p := (pool2.ne nA1).symm
      have nA2p : A2 ≠ p := (pool3.ne nA2).symm
      replace eA1 := off4 _ _ nA1p eA1
      refine ⟨_, rfl, _, rfl, fun g dx ng ndx ne => initG_of eA1 eA2 sm1.len sm2.len ng ndx ne fun H5 s5 hg5 _ => ⟨rfl, ?_⟩⟩
      have sH5 : Same H13 H5 := (Same.off (Same.off (p1.trans s2) off3 p0) off4 p0).trans s5
      have pool5 := pool4.same s5
      replace eA1 := s5 _ _ eA1
      replace eA2 := s5 _ _ eA2
      obtain ⟨dg, D1, D2, eg, _, _⟩ := hg5.ob
      clear s5 off3 off4 hp s2 p1 pool4 pool3 pool2
      -- the properties
      refine ⟨_, rfl, g, _, _, rfl, eg, g, cy, ch, rfl, hg5, ?_⟩
      refine fun b1 n_b1 => ?_
      generalize g_b1 : L2.upd _ b1 _ = H6
      obtain ⟨s_H6, e_b1⟩ := U.upd_facts g_b1 n_b1
      clear g_b1
      refine ⟨_, rfl, g, _, _, rfl, s_H6 _ _ eg, g, cy, ch, rfl, hg5.same s_H6, ?_⟩
      refine fun b2 n_b2 => ?_
      generalize g_b2 : L2.upd _ b2 _ = H7
      obtain ⟨s_H7, e_b2⟩ := U.upd_facts g_b2 n_b2
      clear g_b2
      refine ⟨two_le, ?_⟩
      refine fun b3 n_b3 => ?_
      generalize g_b3 : L2.upd _ b3 _ = H8
      obtain ⟨s_H8, e_b3⟩ := U.upd_facts g_b3 n_b3
      clear g_b3
      refine ⟨_, rfl, _, rfl, two_le, ?_⟩
      refine fun b4 n_b4 => ?_
      generalize g_b4 : L2.upd _ b4 _ = H9
      obtain ⟨s_H9, e_b4⟩ := U.upd_facts g_b4 n_b4
      clear g_b4
      have s58 := (s_H6.trans s_H7).trans s_H8
      have s59 := s58.trans s_H9
      refine ⟨.list [lN cy, lN ch], .list [lN cy, lN ch], .lst (SqL.of (s_H9 _ _ e_b3)) (.cons (dpN (s_H9 _ _ (s_H8 _ _ (s_H7 _ _ e_b1)))) (.cons (dpN (s_H9 _ _ (s_H8 _ _ e_b2))) .nil)), .lst (SqL.of e_b4) (.cons (dpN (s59 _ _ eA1)) (.cons (dpN (s59 _ _ eA2)) .nil)), shNN _ _, shNN _ _, _, rfl, ?_⟩
      rw [SeqAt.eqv_refl _ (SeqAt.canLay_of_shaped (shNN _ _))]
      refine iteF ?_
      refine ⟨_, rfl, _, rfl, A1, _, rfl, .inl (SqL.of (s59 _ _ eA1)), ?_⟩
      refine fun b5 n_b5 => ?_
      generalize g_b5 : L2.upd _ b5 _ = H10
      obtain ⟨s_H10, e_b5⟩ := U.upd_facts g_b5 n_b5
      clear g_b5
      have s510 := s59.trans s_H10
      refine ⟨_, rfl, fun g2 dx ng2 ndx ne => initG_of (cy := cy) e_b5 (s510 _ _ eA2) sm1.len sm2.len ng2 ndx ne fun H11 s11 hg11 _ => ⟨rfl, ?_⟩⟩
      have s511 := s510.trans s11
      obtain ⟨dg2, D3, D4, eg2, _, _⟩ := hg11.ob
      refine ⟨g, _, _, _, rfl, s511 _ _ eg, tyx_ins T.o_GreatMap eg2, notFirst_self _ _, g, .ref g2, rfl, .inl ⟨g2, cy, ch, cy, ch, rfl, hg5.same s511, hg11, _, rfl, _, rfl, ifB (fun z => by simp at z) (fun _ => ?_)⟩⟩
      clear eg2 hg11 s510 s59 s58 s11 s_H10 s_H9 s_H8 s_H7 s_H6 e_b1 e_b2 e_b3 e_b4 e_b5
      replace eA1 := s511 _ _ eA1
      replace eA2 := s511 _ _ eA2
      replace eg := s511 _ _ eg
      replace hg5 := hg5.same s511
      replace pool5 := pool5.same s511
      replace sH5 := sH5.trans s511
      clear s511
      -- repr
      obtain ⟨x1, x2, x3, x4, x5⟩ := sm1.ok
      obtain ⟨y1, y2, y3, y4, y5⟩ := sm2.ok
      have big : 50000 ≤ sizeLine := by decide
      have q0 : (Str.ofString "GreatMap(").length = 9 := rfl
      have q1 : (Str.ofString "GreatMap(" ++ (lN cy).shown).length = 9 + (lN cy).shown.length := by rw [strLen_append, q0]
      have q2 : (Str.ofString "GreatMap(" ++ (lN cy).shown ++ Str.ofString ", ").length = 9 + (lN cy).shown.length + 2 := by rw [strLen_append, q1]; rfl
      have q3 : (Str.ofString "GreatMap(" ++ (lN cy).shown ++ Str.ofString ", " ++ (lN ch).shown).length = 9 + (lN cy).shown.length + 2 + (lN ch).shown.length := by rw [strLen_append, q2]
      have z1 : (Str.ofString ", ").length = 2 := rfl
      have z2 : (Str.ofString ")").length = 1 := rfl
      have eR : reprG cy ch = Str.ofString "GreatMap(" ++ (lN cy).shown ++ Str.ofString ", " ++ (lN ch).shown ++ Str.ofString ")" := by
        unfold reprG
        rw [show Str.empty ++ Str.ofString "GreatMap(" = Str.ofString "GreatMap(" from rfl]
      refine ⟨_, rfl, g, _, _, rfl, eg, g, cy, ch, rfl, hg5, sm1, sm2, _, rfl, ?_⟩
      refine ⟨_, rfl, .ref A1, lN cy, rfl, dpN eA1, x1, x2, x3, Nat.le_trans x4 (by omega), _, _, rfl, rfl, by rw [q0]; omega, ?_⟩
      refine ⟨_, _, rfl, rfl, by rw [q1, z1]; omega, ?_⟩
      refine ⟨_, rfl, .ref A2, lN ch, rfl, dpN eA2, y1, y2, y3, Nat.le_trans y4 (by omega), _, _, rfl, rfl, by rw [q2]; omega, ?_⟩
      refine ⟨_, _, rfl, rfl, by rw [q3, z2]; omega, rfl, _, rfl, ?_⟩
      rw [eR, decide_eq_true rfl]
      refine iteF ?_
      refine ⟨_, rfl, _, rfl, _, rfl, two_le, ?_⟩
      refine fun b6 n_b6 => ?_
      generalize g_b6 : L2.upd _ b6 _ = H12
      obtain ⟨s_H12, e_b6⟩ := U.upd_facts g_b6 n_b6
      clear g_b6
      refine ⟨g, _, _, _, rfl, s_H12 _ _ eg, .base (.lst e_b6), T.nf_list_GreatMap, g, .ref b6, rfl, .inr ⟨b6, _, rfl, e_b6, _, rfl, iteF ?_⟩⟩
      clear q0 q1 q2 q3 z1 z2 eR
      -- chains and cycles changed
      refine ⟨_, rfl, _, rfl, _, rfl, fun g3 dx ng3 ndx ne => initG_of (cy := ch) (ch := cy) (s_H12 _ _ eA2) (s_H12 _ _ eA1) sm2.len sm1.len ng3 ndx ne fun H13' s13 hg13 _ => ⟨rfl, ?_⟩⟩
      obtain ⟨dg3, D3, D4, eg3, _, _⟩ := hg13.ob
      have s53 := s_H12.trans s13
      refine ⟨g, _, _, _, rfl, s53 _ _ eg, tyx_ins T.o_GreatMap eg3, notFirst_self _ _, g, .ref g3, rfl, .inl ⟨g3, cy, ch, ch, cy, rfl, hg5.same s53, hg13, ?_⟩⟩
      refine ⟨_, rfl, _, rfl, lN ch, lN cy, dpN (s53 _ _ eA2), dpN (s53 _ _ eA1), shN _, shN _, rfl, _, rfl, ?_⟩
      rw [eqN, show (decide (cy = ch) && decide (ch = cy)) = decide (ch = cy) by
        by_cases e : cy = ch
        · rw [e]; simp
        · have : ¬ ch = cy := fun z => e z.symm
          simp [e, this], decide_eq_true rfl]
      refine iteF ?_
      replace eA1 := s53 _ _ eA1
      replace eA2 := s53 _ _ eA2
      replace eg := s53 _ _ eg
      replace hg5 := hg5.same s53
      replace pool5 := pool5.same s53
      replace sH5 := sH5.trans s53
      clear s53 s_H12 s13 hg13 eg3 e_b6
      -- the lists given out
      refine ⟨_, rfl, g, _, _, rfl, eg, g, cy, ch, rfl, hg5, ?_⟩
      refine fun b1 n_b1 => ?_
      generalize g_b1 : L2.upd _ b1 _ = H6
      obtain ⟨s_H6, e_b1⟩ := U.upd_facts g_b1 n_b1
      clear g_b1
      refine ⟨.inl ⟨rfl, _, SqL.of e_b1⟩, b1, _, .non, rfl, rfl, e_b1, lt_line (by rw [vN_len]; show cy.length ≤ _; have := sm1.1; omega), ?_⟩
      have s56 : Same H13' (upd H6 b1 (.lst (vN cy ++ [.non]))) := Same.put s_H6 n_b1
      generalize upd H6 b1 (.lst (vN cy ++ [.non])) = H7 at s56 ⊢
      refine ⟨_, rfl, g, _, _, rfl, s56 _ _ eg, g, cy, ch, rfl, hg5.same s56, ?_⟩
      refine fun b2 n_b2 => ?_
      generalize g_b2 : L2.upd _ b2 _ = H8
      obtain ⟨s_H8, e_b2⟩ := U.upd_facts g_b2 n_b2
      clear g_b2
      refine ⟨.inl ⟨rfl, _, SqL.of e_b2⟩, b2, _, rfl, rfl, e_b2, ?_⟩
      have s59 : Same H13' (upd H8 b2 (.lst [])) := s56.trans (Same.put s_H8 n_b2)
      generalize upd H8 b2 (.lst []) = H9 at s59 ⊢
      replace eA1 := s59 _ _ eA1
      replace eA2 := s59 _ _ eA2
      replace eg := s59 _ _ eg
      replace hg5 := hg5.same s59
      replace pool5 := pool5.same s59
      replace sH5 := sH5.trans s59
      clear s59 s56 s_H6 s_H8 e_b1 e_b2
      refine ⟨_, rfl, g, _, _, rfl, eg, g, cy, ch, rfl, hg5, ?_⟩
      refine fun b1 n_b1 => ?_
      generalize g_b1 : L2.upd _ b1 _ = H6
      obtain ⟨s_H6, e_b1⟩ := U.upd_facts g_b1 n_b1
      clear g_b1
      refine ⟨_, rfl, g, _, _, rfl, s_H6 _ _ eg, g, cy, ch, rfl, hg5.same s_H6, ?_⟩
      refine fun b2 n_b2 => ?_
      generalize g_b2 : L2.upd _ b2 _ = H7
      obtain ⟨s_H7, e_b2⟩ := U.upd_facts g_b2 n_b2
      clear g_b2
      refine ⟨two_le, ?_⟩
      refine fun b3 n_b3 => ?_
      generalize g_b3 : L2.upd _ b3 _ = H8
      obtain ⟨s_H8, e_b3⟩ := U.upd_facts g_b3 n_b3
      clear g_b3
      refine ⟨_, rfl, _, rfl, two_le, ?_⟩
      refine fun b4 n_b4 => ?_
      generalize g_b4 : L2.upd _ b4 _ = H10
      obtain ⟨s_H10, e_b4⟩ := U.upd_facts g_b4 n_b4
      clear g_b4
      have s58 := (s_H6.trans s_H7).trans s_H8
      have s59 := s58.trans s_H10
      refine ⟨.list [lN cy, lN ch], .list [lN cy, lN ch], .lst (SqL.of (s_H10 _ _ e_b3)) (.cons (dpN (s_H10 _ _ (s_H8 _ _ (s_H7 _ _ e_b1)))) (.cons (dpN (s_H10 _ _ (s_H8 _ _ e_b2))) .nil)), .lst (SqL.of e_b4) (.cons (dpN (s59 _ _ eA1)) (.cons (dpN (s59 _ _ eA2)) .nil)), shNN _ _, shNN _ _, _, rfl, ?_⟩
      rw [SeqAt.eqv_refl _ (SeqAt.canLay_of_shaped (shNN _ _))]
      refine iteF ?_
      -- repetition
      refine ⟨_, rfl, g, _, _, rfl, s59 _ _ eg, gflds_no _ _ (by decide +kernel) (by decide +kernel), g, cy, ch, rfl, hg5.same s59, sm1.rep, ?_⟩
      refine fun r1 n_r1 => ?_
      generalize g_r1 : L2.upd _ r1 _ = H11
      obtain ⟨s_H11, e_r1⟩ := U.upd_facts g_r1 n_r1
      clear g_r1
      have s51 := s59.trans s_H11
      refine ⟨_, rfl, _, rfl, fun g4 dx ng4 ndx ne => initG_of (s51 _ _ eA1) (s51 _ _ eA2) sm1.len sm2.len ng4 ndx ne fun H12 s12 hg12 _ => ⟨rfl, ?_⟩⟩
      obtain ⟨dg4, D3, D4, eg4, _, _⟩ := hg12.ob
      refine ⟨g4, _, _, rfl, eg4, gflds_no _ _ (by decide +kernel) (by decide +kernel), g4, cy, ch, rfl, hg12, sm1.rep, ?_⟩
      refine fun r2 n_r2 => ?_
      generalize g_r2 : L2.upd _ r2 _ = H14
      obtain ⟨s_H14, e_r2⟩ := U.upd_facts g_r2 n_r2
      clear g_r2
      have dd1 : Dp K H14 (.ref r1) (rtD (maxL ch 1) (lcmL cy 1)) := .tup (SqT.of (s_H14 _ _ (s12 _ _ e_r1))) (.cons (.int _) (.cons (.int _) .nil))
      have dd2 : Dp K H14 (.ref r2) (rtD (maxL ch 1) (lcmL cy 1)) := .tup (SqT.of e_r2) (.cons (.int _) (.cons (.int _) .nil))
      refine ⟨_, _, dd1, dd2, rfl, rfl, _, rfl, ?_⟩
      rw [SeqAt.eqv_refl _ (SeqAt.canLay_of_shaped rfl)]
      refine iteF ?_
      have s514 := (s51.trans s12).trans s_H14
      replace eA1 := s514 _ _ eA1
      replace eA2 := s514 _ _ eA2
      replace eg := s514 _ _ eg
      replace hg5 := hg5.same s514
      replace pool5 := pool5.same s514
      replace sH5 := sH5.trans s514
      clear s514 s51 s12 s_H14 s_H11 s59 s58 s_H10 s_H8 s_H7 s_H6 e_b1 e_b2 e_b3 e_b4 e_r1 e_r2 dd1 dd2 hg12 eg4
      -- rows
      refine ⟨_, rfl, A1, _, rfl, .inl (SqL.of eA1), ?_⟩
      refine fun R1 n_R1 => ?_
      generalize g_R1 : L2.upd _ R1 _ = H6
      obtain ⟨s_H6, e_R1⟩ := U.upd_facts g_R1 n_R1
      clear g_R1
      refine ⟨_, rfl, A2, _, rfl, .inl (SqL.of (s_H6 _ _ eA2)), ?_⟩
      refine fun R2 n_R2 => ?_
      generalize g_R2 : L2.upd _ R2 _ = H7
      obtain ⟨s_H7, e_R2⟩ := U.upd_facts g_R2 n_R2
      clear g_R2
      refine ⟨two_le, ?_⟩
      refine fun RW n_RW => ?_
      generalize g_RW : L2.upd _ RW _ = H8
      obtain ⟨s_H8, e_RW⟩ := U.upd_facts g_RW n_RW
      clear g_RW
      have eR1 := s_H8 _ _ (s_H7 _ _ e_R1)
      have eR2 := s_H8 _ _ e_R2
      have n12 : R1 ≠ R2 := ne_of_none e_R1 n_R2
      have nW1 : RW ≠ R1 := (ne_of_none (s_H7 _ _ e_R1) n_RW).symm
      have f1 : H14 R1 = none := n_R1
      have f2 : H14 R2 = none := s_H6.free n_R2
      refine ⟨_, rfl, RW, _, 0, .ref R1, rfl, rfl, SqL.of e_RW, atI_nat (j := 0) rfl, _, rfl, RW, _, 1, .ref R2, rfl, rfl, SqL.of e_RW, atI_nat (j := 1) rfl, fun hd dx nh ndx ne => initG_of (cy := cy) (ch := ch) eR1 eR2 sm1.len sm2.len nh ndx ne fun H9 s9 hh gne => ⟨rfl, ?_⟩⟩
      have g1 := gne _ _ eR1
      have g2 := gne _ _ eR2
      have nh1 : hd ≠ R1 := (ne_of_none eR1 nh).symm
      have nh2 : hd ≠ R2 := (ne_of_none eR2 nh).symm
      have eW9 := s9 _ _ e_RW
      refine ⟨_, rfl, RW, _, 0, .ref R1, rfl, rfl, SqL.of eW9, atI_nat (j := 0) rfl, .inl ⟨rfl, _, SqL.of (s9 _ _ eR1)⟩, R1, vN cy, .int 1, rfl, rfl, s9 _ _ eR1, lt_line (by rw [vN_len]; have := sm1.1; omega), ?_⟩
      have s149 : Same H14 H9 := ((s_H6.trans s_H7).trans s_H8).trans s9
      have o1 : Off R1 H9 (upd H9 R1 (.lst (vN cy ++ [.int 1]))) := Off.lock
      have t1 : Same H14 (upd H9 R1 (.lst (vN cy ++ [.int 1]))) := Same.put s149 f1
      generalize upd H9 R1 (.lst (vN cy ++ [.int 1])) = H10 at o1 t1 ⊢
      have eR2' := o1 _ _ n12.symm (s9 _ _ eR2)
      refine ⟨_, rfl, RW, _, 1, .ref R2, rfl, rfl, SqL.of (o1 _ _ nW1 eW9), atI_nat (j := 1) rfl, .inl ⟨rfl, _, SqL.of eR2'⟩, R2, vN ch, .int 1, rfl, rfl, eR2', lt_line (by rw [vN_len]; have := sm2.1; omega), ?_⟩
      have o2 : Off R2 H10 (upd H10 R2 (.lst (vN ch ++ [.int 1]))) := Off.lock
      have t2 : Same H14 (upd H10 R2 (.lst (vN ch ++ [.int 1]))) := Same.put t1 f2
      generalize upd H10 R2 (.lst (vN ch ++ [.int 1])) = H11 at o2 t2 ⊢
      have hh2 := (hh.off g1 nh1 o1).off (g2.offZ nh1 o1) nh2 o2
      obtain ⟨dh, D3, D4, eh, _, _⟩ := hh2.ob
      replace eA1 := t2 _ _ eA1
      replace eA2 := t2 _ _ eA2
      replace eg := t2 _ _ eg
      replace hg5 := hg5.same t2
      replace pool5 := pool5.same t2
      replace sH5 := sH5.trans t2
      refine ⟨_, rfl, _, rfl, hd, _, _, _, rfl, eh, tyx_ins T.o_GreatMap eg, notFirst_self _ _, hd, .ref g, rfl, .inl ⟨g, cy, ch, cy, ch, rfl, hh2, hg5, _, rfl, _, rfl, ifB (fun z => by simp at z) (fun _ => ?_)⟩⟩
      clear o1 o2 t1 t2 hh hh2 g1 g2 gne eh eR1 eR2 eR2' eW9 s9 s149 f1 f2 s_H6 s_H7 s_H8 e_R1 e_R2 e_RW
      -- small and huge
      refine ⟨_, rfl, _, rfl, A1, A2, _, _, rfl, rfl, eA1, eA2, Nat.le_of_lt (lt_line (by rw [vN_len, vN_len]; have := sm1.1; have := sm2.1; omega)), ?_⟩
      refine fun ct n_ct => ?_
      generalize g_ct : L2.upd _ ct _ = H12
      obtain ⟨s_H12, e_ct⟩ := U.upd_facts g_ct n_ct
      clear g_ct
      refine ⟨nil_le, ?_⟩
      refine fun et n_et => ?_
      generalize g_et : L2.upd _ et _ = H15
      obtain ⟨s_H15, e_et⟩ := U.upd_facts g_et n_et
      clear g_et
      have s15 := s_H12.trans s_H15
      have ect : H15 ct = some (.lst (vN (cy ++ ch))) := by
        have := s_H15 _ _ e_ct
        unfold vN at this ⊢
        rw [List.map_append]
        exact this
      refine ⟨lN (cy ++ ch), lN [], dpN ect, dpN (l := []) e_et, shN _, shN _, _, rfl, ?_⟩
      rw [eqN]
      have pool15 := pool5.same s15
      have sH15 := sH5.trans s15
      refine ifB (fun z => ?_) (fun z => ?_)
      · have hne : cy ++ ch ≠ [] := fun e => by rw [e] at z; simp at z
        refine ⟨_, rfl, _, rfl, _, rfl, p, A1, A2, cy, ch, rfl, pool15, s15 _ _ eA1, s15 _ _ eA2, nA1p, nA2p, sm1, sm2, hne, fun Hy pooly offy => ⟨_, rfl, iteF ?_⟩⟩
        exact ⟨_, rfl, p, rfl, pooly, fun Hz offz poolz => ⟨_, rfl, iteF ⟨_, _, _, _, _, _, _, rfl, Same.off (Same.off sH15 offy p0) offz p0⟩⟩⟩
      · refine iteF ?_
        exact ⟨_, rfl, p, rfl, pool15, fun Hz offz poolz => ⟨_, rfl, iteF ⟨_, _, _, _, _, _, _, rfl, Same.off sH15 offz p0⟩⟩⟩
    · rintro σ H' ⟨v1, v2, v3, v4, v5, v6, v7, rfl, p1⟩
      exact q H'
end
end My
namespace My
open PySem L2
theorem walk {l : PySem.W.OpenLaw} {q : Program} {loose : List Str} {XP : (Str → Option Value) → Heap → Prop} {YP : World → Heap → Prop} {d : DefRec} {K : Params → PySem.W.Frag} (hn : l.most = some 63) (hdf : d.params.defaults = []) (hnm : d.name = "law")
    (hY : ∀ (w : World) (h : Heap), YP w h → (K w.params).In h)
    (ok : ∀ (P : Program) (w : World) (K : PySem.W.Frag) (mg : Str → Option Value) (base : Heap) (T : Txt K mg), U.FnG P w K mg base CX0 40 T.f_law (spLaw K))
    (F : ∀ (w : World) (mg : Str → Option Value) (h : Heap), (K w.params).In h → h.Ns mainGlobals mg → Nonempty (Txt (K w.params) mg)) :
    PySem.W.WalkO q loose XP YP l.row.toRowW d [] (fun f vs => PySem.call f vs) := by
  refine U.walkG (n := 63) (k := 40) (sp := spLaw) hn (by decide) hdf ⟨rfl, by decide, by decide⟩ hY ?_ (fun K H a ns hl hS => ⟨a, ns, rfl, hS, hl, fun _ => rfl⟩)
  intro w mg fa h KX G hmg base
  obtain ⟨T⟩ := F w mg h KX G
  rw [hnm, T.g_law] at hmg
  cases hmg
  exact ok _ _ _ _ _ T
end My
local macro_rules | `(tactic| first | refine $t:term | fail $s:str) => do { let t2 ← t.raw.replaceM fun n => (do { if n.getKind == `Lean.Parser.Term.syntheticHole then { let nm := n[1].getId.eraseMacroScopes; if nm == `hl then { return some (Lean.mkIdent `My.hl) } else { return none } } else { return none } }); `(tactic| refine $(⟨t2⟩)) }
open PySem PySem.W PyProof.Rows
set_option maxRecDepth 100000 in
set_option maxHeartbeats 0 in
theorem PySem.Challenge.cw_chainmaps_k19_great_maps_holds : PySem.Challenge.rw_chainmaps_k19_great_maps.Holds := by
  w_on; o_law; k_headL; (case hw => w_witness2)
  k_fill
  refine My.walk (l := PySem.Challenge.rw_chainmaps_k19_great_maps) rfl rfl rfl (fun w h Y => PySem.W.kIn_of Y) (fun _ _ _ _ _ T => My.ok_law T) ?F
  case F =>
    intro w mg h KX G
    refine' My.mk_txt KX G ?a_is_integer ?l_is_integer ?c_is_integer ?k_is_integer ?a_in_range ?l_in_range ?c_in_range ?k_in_range ?a_check_size ?l_check_size ?c_check_size ?k_check_size ?a_check_elements ?l_check_elements ?c_check_elements ?k_check_elements ?a_are_arrows ?l_are_arrows ?c_are_arrows ?k_are_arrows ?a_row_from ?l_row_from ?c_row_from ?k_row_from ?a_moved ?l_moved ?c_moved ?k_moved ?a_check_map ?l_check_map ?c_check_map ?k_check_map ?a_greatest_divisor ?l_greatest_divisor ?c_greatest_divisor ?k_greatest_divisor ?a_largest ?l_largest ?c_largest ?k_largest ?a_parts_of ?l_parts_of ?c_parts_of ?k_parts_of ?a_are_counts ?l_are_counts ?c_are_counts ?k_are_counts ?a_ordered ?l_ordered ?c_ordered ?k_ordered ?a_counts_of ?l_counts_of ?c_counts_of ?k_counts_of ?a_shape_of ?l_shape_of ?c_shape_of ?k_shape_of ?a_common_multiple ?l_common_multiple ?c_common_multiple ?k_common_multiple ?a_repetition_of ?l_repetition_of ?c_repetition_of ?k_repetition_of ?a_repetition ?l_repetition ?c_repetition ?k_repetition ?a_fate ?l_fate ?c_fate ?k_fate ?a_are_lengths ?l_are_lengths ?c_are_lengths ?k_are_lengths ?a_counted ?l_counted ?c_counted ?k_counted ?a_l_hand ?l_l_hand ?c_l_hand ?k_l_hand ?a_l_draw ?l_l_draw ?c_l_draw ?k_l_draw ?a_l_lengths ?l_l_lengths ?c_l_lengths ?k_l_lengths ?a_l_places ?l_l_places ?c_l_places ?k_l_places ?a_l_small ?l_l_small ?c_l_small ?k_l_small ?a_l_huge ?l_l_huge ?c_l_huge ?k_l_huge ?a_law ?l_law ?c_law ?k_law ?a_Shape ?pg_Shape ?hd_Shape ?po_Shape ?sa_Shape ?sf_Shape ?ca_Shape ?cn_Shape ?ct_Shape ?cm_Shape ?kc_Shape ?kit_int_Shape ?kit_bool_Shape ?kn_NoneType_Shape ?nf_NoneType_Shape ?kn_int_Shape ?nf_int_Shape ?kn_bool_Shape ?nf_bool_Shape ?kn_str_Shape ?nf_str_Shape ?kn_list_Shape ?nf_list_Shape ?kn_dict_Shape ?nf_dict_Shape ?kn_tuple_Shape ?nf_tuple_Shape ?self_Shape ?na_own_cycles_Shape ?na_own_chains_Shape ?ne_Shape ?m_Shape__init ?i_Shape__init ?l_Shape__init ?c_Shape__init ?k_Shape__init ?mk_Shape ?m_Shape__eq ?i_Shape__eq ?l_Shape__eq ?c_Shape__eq ?k_Shape__eq ?a_GreatMap ?pg_GreatMap ?hd_GreatMap ?po_GreatMap ?sa_GreatMap ?sf_GreatMap ?ca_GreatMap ?cn_GreatMap ?ct_GreatMap ?cm_GreatMap ?kc_GreatMap ?kit_int_GreatMap ?kit_bool_GreatMap ?kit_list_GreatMap ?kit_tuple_GreatMap ?kn_NoneType_GreatMap ?nf_NoneType_GreatMap ?kn_int_GreatMap ?nf_int_GreatMap ?kn_bool_GreatMap ?nf_bool_GreatMap ?kn_str_GreatMap ?nf_str_GreatMap ?kn_list_GreatMap ?nf_list_GreatMap ?kn_dict_GreatMap ?nf_dict_GreatMap ?kn_tuple_GreatMap ?nf_tuple_GreatMap ?self_GreatMap ?na_own_cycles_GreatMap ?na_own_chains_GreatMap ?ne_GreatMap ?m_GreatMap__init ?i_GreatMap__init ?l_GreatMap__init ?c_GreatMap__init ?k_GreatMap__init ?mk_GreatMap ?m_GreatMap_cycles ?s_get_GreatMap_cycles ?tk_GreatMap_cycles ?rc_GreatMap_cycles ?l_GreatMap_cycles ?c_GreatMap_cycles ?k_GreatMap_cycles ?m_GreatMap_chains ?s_get_GreatMap_chains ?tk_GreatMap_chains ?rc_GreatMap_chains ?l_GreatMap_chains ?c_GreatMap_chains ?k_GreatMap_chains ?m_GreatMap_length_at ?i_GreatMap_length_at ?l_GreatMap_length_at ?c_GreatMap_length_at ?k_GreatMap_length_at ?m_GreatMap_after ?i_GreatMap_after ?l_GreatMap_after ?c_GreatMap_after ?k_GreatMap_after ?m_GreatMap_fate ?i_GreatMap_fate ?l_GreatMap_fate ?c_GreatMap_fate ?k_GreatMap_fate ?m_GreatMap_repetition ?i_GreatMap_repetition ?l_GreatMap_repetition ?c_GreatMap_repetition ?k_GreatMap_repetition ?m_GreatMap_shape ?i_GreatMap_shape ?l_GreatMap_shape ?c_GreatMap_shape ?k_GreatMap_shape ?m_GreatMap__eq ?i_GreatMap__eq ?l_GreatMap__eq ?c_GreatMap__eq ?k_GreatMap__eq ?m_GreatMap__repr ?i_GreatMap__repr ?l_GreatMap__repr ?c_GreatMap__repr ?k_GreatMap__repr ?a_Map ?pg_Map ?hd_Map ?po_Map ?sa_Map ?sf_Map ?ca_Map ?cn_Map ?ct_Map ?cm_Map ?kc_Map ?kit_int_Map ?kit_bool_Map ?kn_NoneType_Map ?nf_NoneType_Map ?kn_int_Map ?nf_int_Map ?kn_bool_Map ?nf_bool_Map ?kn_str_Map ?nf_str_Map ?kn_list_Map ?nf_list_Map ?kn_dict_Map ?nf_dict_Map ?kn_tuple_Map ?nf_tuple_Map ?self_Map ?na_own_size_Map ?na_own_arrows_Map ?m_Map__init ?i_Map__init ?l_Map__init ?c_Map__init ?k_Map__init ?mk_Map ?rd_Map ?ga_Map ?at_Map_identity ?rc_Map_identity ?fi_Map_identity ?l_Map_identity ?c_Map_identity ?k_Map_identity ?m_Map_size ?s_get_Map_size ?tk_Map_size ?rc_Map_size ?l_Map_size ?c_Map_size ?k_Map_size ?m_Map_arrows ?s_get_Map_arrows ?tk_Map_arrows ?rc_Map_arrows ?l_Map_arrows ?c_Map_arrows ?k_Map_arrows ?m_Map_power ?i_Map_power ?l_Map_power ?c_Map_power ?k_Map_power ?m_Map__call ?i_Map__call ?l_Map__call ?c_Map__call ?k_Map__call ?fi_Map__call ?m_Map_is_source ?i_Map_is_source ?l_Map_is_source ?c_Map_is_source ?k_Map_is_source ?a_InvalidMap ?xl_InvalidMap ?sa_InvalidMap ?ex_InvalidMap ?ty_InvalidMap ?kc_InvalidMap ?hd_InvalidMap ?ga_InvalidMap ?gg_InvalidMap ?ss_InvalidMap ?ca_InvalidMap ?cn_InvalidMap ?ct_InvalidMap ?cm_InvalidMap ?kit_ValueError_InvalidMap ?na_part_InvalidMap ?m_InvalidMap__init ?ti_InvalidMap__init ?l_InvalidMap__init ?c_InvalidMap__init ?k_InvalidMap__init ?a_InvalidNumber ?xl_InvalidNumber ?sa_InvalidNumber ?ex_InvalidNumber ?ty_InvalidNumber ?kc_InvalidNumber ?hd_InvalidNumber ?ga_InvalidNumber ?gg_InvalidNumber ?ss_InvalidNumber ?ca_InvalidNumber ?cn_InvalidNumber ?ct_InvalidNumber ?cm_InvalidNumber ?kit_ValueError_InvalidNumber ?na_value_InvalidNumber ?m_InvalidNumber__init ?ti_InvalidNumber__init ?l_InvalidNumber__init ?c_InvalidNumber__init ?k_InvalidNumber__init ?a_InvalidSize ?xl_InvalidSize ?sa_InvalidSize ?ex_InvalidSize ?ty_InvalidSize ?kc_InvalidSize ?hd_InvalidSize ?ga_InvalidSize ?gg_InvalidSize ?ss_InvalidSize ?ca_InvalidSize ?cn_InvalidSize ?ct_InvalidSize ?cm_InvalidSize ?kit_ValueError_InvalidSize ?na_value_InvalidSize ?m_InvalidSize__init ?ti_InvalidSize__init ?l_InvalidSize__init ?c_InvalidSize__init ?k_InvalidSize__init ?a_InvalidElement ?xl_InvalidElement ?sa_InvalidElement ?ex_InvalidElement ?ty_InvalidElement ?kc_InvalidElement ?hd_InvalidElement ?ga_InvalidElement ?gg_InvalidElement ?ss_InvalidElement ?ca_InvalidElement ?cn_InvalidElement ?ct_InvalidElement ?cm_InvalidElement ?kit_ValueError_InvalidElement ?na_value_InvalidElement ?m_InvalidElement__init ?ti_InvalidElement__init ?l_InvalidElement__init ?c_InvalidElement__init ?k_InvalidElement__init ?a_InvalidShape ?xl_InvalidShape ?sa_InvalidShape ?ex_InvalidShape ?ty_InvalidShape ?kc_InvalidShape ?hd_InvalidShape ?ga_InvalidShape ?gg_InvalidShape ?ss_InvalidShape ?ca_InvalidShape ?cn_InvalidShape ?ct_InvalidShape ?cm_InvalidShape ?kit_ValueError_InvalidShape ?na_part_InvalidShape ?m_InvalidShape__init ?ti_InvalidShape__init ?l_InvalidShape__init ?c_InvalidShape__init ?k_InvalidShape__init ?z_isinstance ?z_int ?z_bool ?z_dict ?z_len ?z_range ?z_list ?z_tuple ?z_max ?z_min ?z_all ?z_sorted ?z_abs ?z_enumerate ?z_repr ?v_MAX_SIZE ?v_MAX_PARTS ?v_MAX_NUMBER ?kit_x_Shape_Map ?nf_x_Shape_Map
    (case a_is_integer => as_aux_lemma => k_is)
    (case l_is_integer => as_aux_lemma => k_is)
    (case c_is_integer => as_aux_lemma => k_is)
    (case k_is_integer => as_aux_lemma => k_is)
    (case a_in_range => as_aux_lemma => k_is)
    (case l_in_range => as_aux_lemma => k_is)
    (case c_in_range => as_aux_lemma => k_is)
    (case k_in_range => as_aux_lemma => k_is)
    (case a_check_size => as_aux_lemma => k_is)
    (case l_check_size => as_aux_lemma => k_is)
    (case c_check_size => as_aux_lemma => k_is)
    (case k_check_size => as_aux_lemma => k_is)
    (case a_check_elements => as_aux_lemma => k_is)
    (case l_check_elements => as_aux_lemma => k_is)
    (case c_check_elements => as_aux_lemma => k_is)
    (case k_check_elements => as_aux_lemma => k_is)
    (case a_are_arrows => as_aux_lemma => k_is)
    (case l_are_arrows => as_aux_lemma => k_is)
    (case c_are_arrows => as_aux_lemma => k_is)
    (case k_are_arrows => as_aux_lemma => k_is)
    (case a_row_from => as_aux_lemma => k_is)
    (case l_row_from => as_aux_lemma => k_is)
    (case c_row_from => as_aux_lemma => k_is)
    (case k_row_from => as_aux_lemma => k_is)
    (case a_moved => as_aux_lemma => k_is)
    (case l_moved => as_aux_lemma => k_is)
    (case c_moved => as_aux_lemma => k_is)
    (case k_moved => as_aux_lemma => k_is)
    (case a_check_map => as_aux_lemma => k_is)
    (case l_check_map => as_aux_lemma => k_is)
    (case c_check_map => as_aux_lemma => k_is)
    (case k_check_map => as_aux_lemma => k_is)
    (case a_greatest_divisor => as_aux_lemma => k_is)
    (case l_greatest_divisor => as_aux_lemma => k_is)
    (case c_greatest_divisor => as_aux_lemma => k_is)
    (case k_greatest_divisor => as_aux_lemma => k_is)
    (case a_largest => as_aux_lemma => k_is)
    (case l_largest => as_aux_lemma => k_is)
    (case c_largest => as_aux_lemma => k_is)
    (case k_largest => as_aux_lemma => k_is)
    (case a_parts_of => as_aux_lemma => k_is)
    (case l_parts_of => as_aux_lemma => k_is)
    (case c_parts_of => as_aux_lemma => k_is)
    (case k_parts_of => as_aux_lemma => k_is)
    (case a_are_counts => as_aux_lemma => k_is)
    (case l_are_counts => as_aux_lemma => k_is)
    (case c_are_counts => as_aux_lemma => k_is)
    (case k_are_counts => as_aux_lemma => k_is)
    (case a_ordered => as_aux_lemma => k_is)
    (case l_ordered => as_aux_lemma => k_is)
    (case c_ordered => as_aux_lemma => k_is)
    (case k_ordered => as_aux_lemma => k_is)
    (case a_counts_of => as_aux_lemma => k_is)
    (case l_counts_of => as_aux_lemma => k_is)
    (case c_counts_of => as_aux_lemma => k_is)
    (case k_counts_of => as_aux_lemma => k_is)
    (case a_shape_of => as_aux_lemma => k_is)
    (case l_shape_of => as_aux_lemma => k_is)
    (case c_shape_of => as_aux_lemma => k_is)
    (case k_shape_of => as_aux_lemma => k_is)
    (case a_common_multiple => as_aux_lemma => k_is)
    (case l_common_multiple => as_aux_lemma => k_is)
    (case c_common_multiple => as_aux_lemma => k_is)
    (case k_common_multiple => as_aux_lemma => k_is)
    (case a_repetition_of => as_aux_lemma => k_is)
    (case l_repetition_of => as_aux_lemma => k_is)
    (case c_repetition_of => as_aux_lemma => k_is)
    (case k_repetition_of => as_aux_lemma => k_is)
    (case a_repetition => as_aux_lemma => k_is)
    (case l_repetition => as_aux_lemma => k_is)
    (case c_repetition => as_aux_lemma => k_is)
    (case k_repetition => as_aux_lemma => k_is)
    (case a_fate => as_aux_lemma => k_is)
    (case l_fate => as_aux_lemma => k_is)
    (case c_fate => as_aux_lemma => k_is)
    (case k_fate => as_aux_lemma => k_is)
    (case a_are_lengths => as_aux_lemma => k_is)
    (case l_are_lengths => as_aux_lemma => k_is)
    (case c_are_lengths => as_aux_lemma => k_is)
    (case k_are_lengths => as_aux_lemma => k_is)
    (case a_counted => as_aux_lemma => k_is)
    (case l_counted => as_aux_lemma => k_is)
    (case c_counted => as_aux_lemma => k_is)
    (case k_counted => as_aux_lemma => k_is)
    (case a_l_hand => as_aux_lemma => k_is)
    (case l_l_hand => as_aux_lemma => k_is)
    (case c_l_hand => as_aux_lemma => k_is)
    (case k_l_hand => as_aux_lemma => k_is)
    (case a_l_draw => as_aux_lemma => k_is)
    (case l_l_draw => as_aux_lemma => k_is)
    (case c_l_draw => as_aux_lemma => k_is)
    (case k_l_draw => as_aux_lemma => k_is)
    (case a_l_lengths => as_aux_lemma => k_is)
    (case l_l_lengths => as_aux_lemma => k_is)
    (case c_l_lengths => as_aux_lemma => k_is)
    (case k_l_lengths => as_aux_lemma => k_is)
    (case a_l_places => as_aux_lemma => k_is)
    (case l_l_places => as_aux_lemma => k_is)
    (case c_l_places => as_aux_lemma => k_is)
    (case k_l_places => as_aux_lemma => k_is)
    (case a_l_small => as_aux_lemma => k_is)
    (case l_l_small => as_aux_lemma => k_is)
    (case c_l_small => as_aux_lemma => k_is)
    (case k_l_small => as_aux_lemma => k_is)
    (case a_l_huge => as_aux_lemma => k_is)
    (case l_l_huge => as_aux_lemma => k_is)
    (case c_l_huge => as_aux_lemma => k_is)
    (case k_l_huge => as_aux_lemma => k_is)
    (case a_law => as_aux_lemma => k_is)
    (case l_law => as_aux_lemma => k_is)
    (case c_law => as_aux_lemma => k_is)
    (case k_law => as_aux_lemma => k_is)
    (case a_Shape => as_aux_lemma => k_is)
    (case pg_Shape => as_aux_lemma => k_is)
    (case hd_Shape => as_aux_lemma => k_is)
    (case po_Shape => as_aux_lemma => k_is)
    (case sa_Shape => as_aux_lemma => k_is)
    (case sf_Shape => as_aux_lemma => k_is)
    (case ca_Shape => as_aux_lemma => k_is)
    (case cn_Shape => as_aux_lemma => k_is)
    (case ct_Shape => as_aux_lemma => k_is)
    (case cm_Shape => as_aux_lemma => k_is)
    (case kc_Shape => as_aux_lemma => k_is)
    (case kit_int_Shape => as_aux_lemma => kernel_rfl)
    (case kit_bool_Shape => as_aux_lemma => kernel_rfl)
    (case kn_NoneType_Shape => as_aux_lemma => kernel_rfl)
    (case nf_NoneType_Shape => as_aux_lemma => kernel_rfl)
    (case kn_int_Shape => as_aux_lemma => kernel_rfl)
    (case nf_int_Shape => as_aux_lemma => kernel_rfl)
    (case kn_bool_Shape => as_aux_lemma => kernel_rfl)
    (case nf_bool_Shape => as_aux_lemma => kernel_rfl)
    (case kn_str_Shape => as_aux_lemma => kernel_rfl)
    (case nf_str_Shape => as_aux_lemma => kernel_rfl)
    (case kn_list_Shape => as_aux_lemma => kernel_rfl)
    (case nf_list_Shape => as_aux_lemma => kernel_rfl)
    (case kn_dict_Shape => as_aux_lemma => kernel_rfl)
    (case nf_dict_Shape => as_aux_lemma => kernel_rfl)
    (case kn_tuple_Shape => as_aux_lemma => kernel_rfl)
    (case nf_tuple_Shape => as_aux_lemma => kernel_rfl)
    (case self_Shape => as_aux_lemma => kernel_rfl)
    (case na_own_cycles_Shape => as_aux_lemma => k_is)
    (case na_own_chains_Shape => as_aux_lemma => k_is)
    (case ne_Shape => as_aux_lemma => k_is)
    (case m_Shape__init => as_aux_lemma => k_is)
    (case i_Shape__init => as_aux_lemma => k_is)
    (case l_Shape__init => as_aux_lemma => k_is)
    (case c_Shape__init => as_aux_lemma => k_is)
    (case k_Shape__init => as_aux_lemma => k_is)
    (case mk_Shape => as_aux_lemma => k_is)
    (case m_Shape__eq => as_aux_lemma => k_is)
    (case i_Shape__eq => as_aux_lemma => k_is)
    (case l_Shape__eq => as_aux_lemma => k_is)
    (case c_Shape__eq => as_aux_lemma => k_is)
    (case k_Shape__eq => as_aux_lemma => k_is)
    (case a_GreatMap => as_aux_lemma => k_is)
    (case pg_GreatMap => as_aux_lemma => k_is)
    (case hd_GreatMap => as_aux_lemma => k_is)
    (case po_GreatMap => as_aux_lemma => k_is)
    (case sa_GreatMap => as_aux_lemma => k_is)
    (case sf_GreatMap => as_aux_lemma => k_is)
    (case ca_GreatMap => as_aux_lemma => k_is)
    (case cn_GreatMap => as_aux_lemma => k_is)
    (case ct_GreatMap => as_aux_lemma => k_is)
    (case cm_GreatMap => as_aux_lemma => k_is)
    (case kc_GreatMap => as_aux_lemma => k_is)
    (case kit_int_GreatMap => as_aux_lemma => kernel_rfl)
    (case kit_bool_GreatMap => as_aux_lemma => kernel_rfl)
    (case kit_list_GreatMap => as_aux_lemma => kernel_rfl)
    (case kit_tuple_GreatMap => as_aux_lemma => kernel_rfl)
    (case kn_NoneType_GreatMap => as_aux_lemma => kernel_rfl)
    (case nf_NoneType_GreatMap => as_aux_lemma => kernel_rfl)
    (case kn_int_GreatMap => as_aux_lemma => kernel_rfl)
    (case nf_int_GreatMap => as_aux_lemma => kernel_rfl)
    (case kn_bool_GreatMap => as_aux_lemma => kernel_rfl)
    (case nf_bool_GreatMap => as_aux_lemma => kernel_rfl)
    (case kn_str_GreatMap => as_aux_lemma => kernel_rfl)
    (case nf_str_GreatMap => as_aux_lemma => kernel_rfl)
    (case kn_list_GreatMap => as_aux_lemma => kernel_rfl)
    (case nf_list_GreatMap => as_aux_lemma => kernel_rfl)
    (case kn_dict_GreatMap => as_aux_lemma => kernel_rfl)
    (case nf_dict_GreatMap => as_aux_lemma => kernel_rfl)
    (case kn_tuple_GreatMap => as_aux_lemma => kernel_rfl)
    (case nf_tuple_GreatMap => as_aux_lemma => kernel_rfl)
    (case self_GreatMap => as_aux_lemma => kernel_rfl)
    (case na_own_cycles_GreatMap => as_aux_lemma => k_is)
    (case na_own_chains_GreatMap => as_aux_lemma => k_is)
    (case ne_GreatMap => as_aux_lemma => k_is)
    (case m_GreatMap__init => as_aux_lemma => k_is)
    (case i_GreatMap__init => as_aux_lemma => k_is)
    (case l_GreatMap__init => as_aux_lemma => k_is)
    (case c_GreatMap__init => as_aux_lemma => k_is)
    (case k_GreatMap__init => as_aux_lemma => k_is)
    (case mk_GreatMap => as_aux_lemma => k_is)
    (case m_GreatMap_cycles => as_aux_lemma => k_is)
    (case s_get_GreatMap_cycles => as_aux_lemma => k_is)
    (case tk_GreatMap_cycles => as_aux_lemma => k_is)
    (case rc_GreatMap_cycles => as_aux_lemma => k_is)
    (case l_GreatMap_cycles => as_aux_lemma => k_is)
    (case c_GreatMap_cycles => as_aux_lemma => k_is)
    (case k_GreatMap_cycles => as_aux_lemma => k_is)
    (case m_GreatMap_chains => as_aux_lemma => k_is)
    (case s_get_GreatMap_chains => as_aux_lemma => k_is)
    (case tk_GreatMap_chains => as_aux_lemma => k_is)
    (case rc_GreatMap_chains => as_aux_lemma => k_is)
    (case l_GreatMap_chains => as_aux_lemma => k_is)
    (case c_GreatMap_chains => as_aux_lemma => k_is)
    (case k_GreatMap_chains => as_aux_lemma => k_is)
    (case m_GreatMap_length_at => as_aux_lemma => k_is)
    (case i_GreatMap_length_at => as_aux_lemma => k_is)
    (case l_GreatMap_length_at => as_aux_lemma => k_is)
    (case c_GreatMap_length_at => as_aux_lemma => k_is)
    (case k_GreatMap_length_at => as_aux_lemma => k_is)
    (case m_GreatMap_after => as_aux_lemma => k_is)
    (case i_GreatMap_after => as_aux_lemma => k_is)
    (case l_GreatMap_after => as_aux_lemma => k_is)
    (case c_GreatMap_after => as_aux_lemma => k_is)
    (case k_GreatMap_after => as_aux_lemma => k_is)
    (case m_GreatMap_fate => as_aux_lemma => k_is)
    (case i_GreatMap_fate => as_aux_lemma => k_is)
    (case l_GreatMap_fate => as_aux_lemma => k_is)
    (case c_GreatMap_fate => as_aux_lemma => k_is)
    (case k_GreatMap_fate => as_aux_lemma => k_is)
    (case m_GreatMap_repetition => as_aux_lemma => k_is)
    (case i_GreatMap_repetition => as_aux_lemma => k_is)
    (case l_GreatMap_repetition => as_aux_lemma => k_is)
    (case c_GreatMap_repetition => as_aux_lemma => k_is)
    (case k_GreatMap_repetition => as_aux_lemma => k_is)
    (case m_GreatMap_shape => as_aux_lemma => k_is)
    (case i_GreatMap_shape => as_aux_lemma => k_is)
    (case l_GreatMap_shape => as_aux_lemma => k_is)
    (case c_GreatMap_shape => as_aux_lemma => k_is)
    (case k_GreatMap_shape => as_aux_lemma => k_is)
    (case m_GreatMap__eq => as_aux_lemma => k_is)
    (case i_GreatMap__eq => as_aux_lemma => k_is)
    (case l_GreatMap__eq => as_aux_lemma => k_is)
    (case c_GreatMap__eq => as_aux_lemma => k_is)
    (case k_GreatMap__eq => as_aux_lemma => k_is)
    (case m_GreatMap__repr => as_aux_lemma => k_is)
    (case i_GreatMap__repr => as_aux_lemma => k_is)
    (case l_GreatMap__repr => as_aux_lemma => k_is)
    (case c_GreatMap__repr => as_aux_lemma => k_is)
    (case k_GreatMap__repr => as_aux_lemma => k_is)
    (case a_Map => as_aux_lemma => k_is)
    (case pg_Map => as_aux_lemma => k_is)
    (case hd_Map => as_aux_lemma => k_is)
    (case po_Map => as_aux_lemma => k_is)
    (case sa_Map => as_aux_lemma => k_is)
    (case sf_Map => as_aux_lemma => k_is)
    (case ca_Map => as_aux_lemma => k_is)
    (case cn_Map => as_aux_lemma => k_is)
    (case ct_Map => as_aux_lemma => k_is)
    (case cm_Map => as_aux_lemma => k_is)
    (case kc_Map => as_aux_lemma => k_is)
    (case kit_int_Map => as_aux_lemma => kernel_rfl)
    (case kit_bool_Map => as_aux_lemma => kernel_rfl)
    (case kn_NoneType_Map => as_aux_lemma => kernel_rfl)
    (case nf_NoneType_Map => as_aux_lemma => kernel_rfl)
    (case kn_int_Map => as_aux_lemma => kernel_rfl)
    (case nf_int_Map => as_aux_lemma => kernel_rfl)
    (case kn_bool_Map => as_aux_lemma => kernel_rfl)
    (case nf_bool_Map => as_aux_lemma => kernel_rfl)
    (case kn_str_Map => as_aux_lemma => kernel_rfl)
    (case nf_str_Map => as_aux_lemma => kernel_rfl)
    (case kn_list_Map => as_aux_lemma => kernel_rfl)
    (case nf_list_Map => as_aux_lemma => kernel_rfl)
    (case kn_dict_Map => as_aux_lemma => kernel_rfl)
    (case nf_dict_Map => as_aux_lemma => kernel_rfl)
    (case kn_tuple_Map => as_aux_lemma => kernel_rfl)
    (case nf_tuple_Map => as_aux_lemma => kernel_rfl)
    (case self_Map => as_aux_lemma => kernel_rfl)
    (case na_own_size_Map => as_aux_lemma => k_is)
    (case na_own_arrows_Map => as_aux_lemma => k_is)
    (case m_Map__init => as_aux_lemma => k_is)
    (case i_Map__init => as_aux_lemma => k_is)
    (case l_Map__init => as_aux_lemma => k_is)
    (case c_Map__init => as_aux_lemma => k_is)
    (case k_Map__init => as_aux_lemma => k_is)
    (case mk_Map => as_aux_lemma => k_is)
    (case rd_Map => as_aux_lemma => k_is)
    (case ga_Map => as_aux_lemma => k_is)
    (case at_Map_identity => as_aux_lemma => k_is)
    (case rc_Map_identity => as_aux_lemma => k_is)
    (case fi_Map_identity => as_aux_lemma => k_is)
    (case l_Map_identity => as_aux_lemma => k_is)
    (case c_Map_identity => as_aux_lemma => k_is)
    (case k_Map_identity => as_aux_lemma => k_is)
    (case m_Map_size => as_aux_lemma => k_is)
    (case s_get_Map_size => as_aux_lemma => k_is)
    (case tk_Map_size => as_aux_lemma => k_is)
    (case rc_Map_size => as_aux_lemma => k_is)
    (case l_Map_size => as_aux_lemma => k_is)
    (case c_Map_size => as_aux_lemma => k_is)
    (case k_Map_size => as_aux_lemma => k_is)
    (case m_Map_arrows => as_aux_lemma => k_is)
    (case s_get_Map_arrows => as_aux_lemma => k_is)
    (case tk_Map_arrows => as_aux_lemma => k_is)
    (case rc_Map_arrows => as_aux_lemma => k_is)
    (case l_Map_arrows => as_aux_lemma => k_is)
    (case c_Map_arrows => as_aux_lemma => k_is)
    (case k_Map_arrows => as_aux_lemma => k_is)
    (case m_Map_power => as_aux_lemma => k_is)
    (case i_Map_power => as_aux_lemma => k_is)
    (case l_Map_power => as_aux_lemma => k_is)
    (case c_Map_power => as_aux_lemma => k_is)
    (case k_Map_power => as_aux_lemma => k_is)
    (case m_Map__call => as_aux_lemma => k_is)
    (case i_Map__call => as_aux_lemma => k_is)
    (case l_Map__call => as_aux_lemma => k_is)
    (case c_Map__call => as_aux_lemma => k_is)
    (case k_Map__call => as_aux_lemma => k_is)
    (case fi_Map__call => as_aux_lemma => k_is)
    (case m_Map_is_source => as_aux_lemma => k_is)
    (case i_Map_is_source => as_aux_lemma => k_is)
    (case l_Map_is_source => as_aux_lemma => k_is)
    (case c_Map_is_source => as_aux_lemma => k_is)
    (case k_Map_is_source => as_aux_lemma => k_is)
    (case a_InvalidMap => as_aux_lemma => k_is)
    (case xl_InvalidMap => as_aux_lemma => k_is)
    (case sa_InvalidMap => as_aux_lemma => k_is)
    (case ex_InvalidMap => as_aux_lemma => k_is)
    (case ty_InvalidMap => as_aux_lemma => k_is)
    (case kc_InvalidMap => as_aux_lemma => k_is)
    (case hd_InvalidMap => as_aux_lemma => k_is)
    (case ga_InvalidMap => as_aux_lemma => k_is)
    (case gg_InvalidMap => as_aux_lemma => k_is)
    (case ss_InvalidMap => as_aux_lemma => k_is)
    (case ca_InvalidMap => as_aux_lemma => k_is)
    (case cn_InvalidMap => as_aux_lemma => k_is)
    (case ct_InvalidMap => as_aux_lemma => k_is)
    (case cm_InvalidMap => as_aux_lemma => k_is)
    (case kit_ValueError_InvalidMap => as_aux_lemma => kernel_rfl)
    (case na_part_InvalidMap => as_aux_lemma => k_is)
    (case m_InvalidMap__init => as_aux_lemma => k_is)
    (case ti_InvalidMap__init => as_aux_lemma => k_is)
    (case l_InvalidMap__init => as_aux_lemma => k_is)
    (case c_InvalidMap__init => as_aux_lemma => k_is)
    (case k_InvalidMap__init => as_aux_lemma => k_is)
    (case a_InvalidNumber => as_aux_lemma => k_is)
    (case xl_InvalidNumber => as_aux_lemma => k_is)
    (case sa_InvalidNumber => as_aux_lemma => k_is)
    (case ex_InvalidNumber => as_aux_lemma => k_is)
    (case ty_InvalidNumber => as_aux_lemma => k_is)
    (case kc_InvalidNumber => as_aux_lemma => k_is)
    (case hd_InvalidNumber => as_aux_lemma => k_is)
    (case ga_InvalidNumber => as_aux_lemma => k_is)
    (case gg_InvalidNumber => as_aux_lemma => k_is)
    (case ss_InvalidNumber => as_aux_lemma => k_is)
    (case ca_InvalidNumber => as_aux_lemma => k_is)
    (case cn_InvalidNumber => as_aux_lemma => k_is)
    (case ct_InvalidNumber => as_aux_lemma => k_is)
    (case cm_InvalidNumber => as_aux_lemma => k_is)
    (case kit_ValueError_InvalidNumber => as_aux_lemma => kernel_rfl)
    (case na_value_InvalidNumber => as_aux_lemma => k_is)
    (case m_InvalidNumber__init => as_aux_lemma => k_is)
    (case ti_InvalidNumber__init => as_aux_lemma => k_is)
    (case l_InvalidNumber__init => as_aux_lemma => k_is)
    (case c_InvalidNumber__init => as_aux_lemma => k_is)
    (case k_InvalidNumber__init => as_aux_lemma => k_is)
    (case a_InvalidSize => as_aux_lemma => k_is)
    (case xl_InvalidSize => as_aux_lemma => k_is)
    (case sa_InvalidSize => as_aux_lemma => k_is)
    (case ex_InvalidSize => as_aux_lemma => k_is)
    (case ty_InvalidSize => as_aux_lemma => k_is)
    (case kc_InvalidSize => as_aux_lemma => k_is)
    (case hd_InvalidSize => as_aux_lemma => k_is)
    (case ga_InvalidSize => as_aux_lemma => k_is)
    (case gg_InvalidSize => as_aux_lemma => k_is)
    (case ss_InvalidSize => as_aux_lemma => k_is)
    (case ca_InvalidSize => as_aux_lemma => k_is)
    (case cn_InvalidSize => as_aux_lemma => k_is)
    (case ct_InvalidSize => as_aux_lemma => k_is)
    (case cm_InvalidSize => as_aux_lemma => k_is)
    (case kit_ValueError_InvalidSize => as_aux_lemma => kernel_rfl)
    (case na_value_InvalidSize => as_aux_lemma => k_is)
    (case m_InvalidSize__init => as_aux_lemma => k_is)
    (case ti_InvalidSize__init => as_aux_lemma => k_is)
    (case l_InvalidSize__init => as_aux_lemma => k_is)
    (case c_InvalidSize__init => as_aux_lemma => k_is)
    (case k_InvalidSize__init => as_aux_lemma => k_is)
    (case a_InvalidElement => as_aux_lemma => k_is)
    (case xl_InvalidElement => as_aux_lemma => k_is)
    (case sa_InvalidElement => as_aux_lemma => k_is)
    (case ex_InvalidElement => as_aux_lemma => k_is)
    (case ty_InvalidElement => as_aux_lemma => k_is)
    (case kc_InvalidElement => as_aux_lemma => k_is)
    (case hd_InvalidElement => as_aux_lemma => k_is)
    (case ga_InvalidElement => as_aux_lemma => k_is)
    (case gg_InvalidElement => as_aux_lemma => k_is)
    (case ss_InvalidElement => as_aux_lemma => k_is)
    (case ca_InvalidElement => as_aux_lemma => k_is)
    (case cn_InvalidElement => as_aux_lemma => k_is)
    (case ct_InvalidElement => as_aux_lemma => k_is)
    (case cm_InvalidElement => as_aux_lemma => k_is)
    (case kit_ValueError_InvalidElement => as_aux_lemma => kernel_rfl)
    (case na_value_InvalidElement => as_aux_lemma => k_is)
    (case m_InvalidElement__init => as_aux_lemma => k_is)
    (case ti_InvalidElement__init => as_aux_lemma => k_is)
    (case l_InvalidElement__init => as_aux_lemma => k_is)
    (case c_InvalidElement__init => as_aux_lemma => k_is)
    (case k_InvalidElement__init => as_aux_lemma => k_is)
    (case a_InvalidShape => as_aux_lemma => k_is)
    (case xl_InvalidShape => as_aux_lemma => k_is)
    (case sa_InvalidShape => as_aux_lemma => k_is)
    (case ex_InvalidShape => as_aux_lemma => k_is)
    (case ty_InvalidShape => as_aux_lemma => k_is)
    (case kc_InvalidShape => as_aux_lemma => k_is)
    (case hd_InvalidShape => as_aux_lemma => k_is)
    (case ga_InvalidShape => as_aux_lemma => k_is)
    (case gg_InvalidShape => as_aux_lemma => k_is)
    (case ss_InvalidShape => as_aux_lemma => k_is)
    (case ca_InvalidShape => as_aux_lemma => k_is)
    (case cn_InvalidShape => as_aux_lemma => k_is)
    (case ct_InvalidShape => as_aux_lemma => k_is)
    (case cm_InvalidShape => as_aux_lemma => k_is)
    (case kit_ValueError_InvalidShape => as_aux_lemma => kernel_rfl)
    (case na_part_InvalidShape => as_aux_lemma => k_is)
    (case m_InvalidShape__init => as_aux_lemma => k_is)
    (case ti_InvalidShape__init => as_aux_lemma => k_is)
    (case l_InvalidShape__init => as_aux_lemma => k_is)
    (case c_InvalidShape__init => as_aux_lemma => k_is)
    (case k_InvalidShape__init => as_aux_lemma => k_is)
    (case z_isinstance => as_aux_lemma => k_is)
    (case z_int => as_aux_lemma => k_is)
    (case z_bool => as_aux_lemma => k_is)
    (case z_dict => as_aux_lemma => k_is)
    (case z_len => as_aux_lemma => k_is)
    (case z_range => as_aux_lemma => k_is)
    (case z_list => as_aux_lemma => k_is)
    (case z_tuple => as_aux_lemma => k_is)
    (case z_max => as_aux_lemma => k_is)
    (case z_min => as_aux_lemma => k_is)
    (case z_all => as_aux_lemma => k_is)
    (case z_sorted => as_aux_lemma => k_is)
    (case z_abs => as_aux_lemma => k_is)
    (case z_enumerate => as_aux_lemma => k_is)
    (case z_repr => as_aux_lemma => k_is)
    (case v_MAX_SIZE => as_aux_lemma => k_is)
    (case v_MAX_PARTS => as_aux_lemma => k_is)
    (case v_MAX_NUMBER => as_aux_lemma => k_is)
    (case kit_x_Shape_Map => as_aux_lemma => kernel_rfl)
    (case nf_x_Shape_Map => as_aux_lemma => kernel_rfl)
