import PyProof.Rows.All
import Wide.All
import OpenK.AllK
import Wide.FinOn
import KE.OsRunLaw
import PySem.Challenge.RW_chainmaps_k01_map_objects
import HandS.ForMost
import HandS.ForExc
import HandS.IsInst
import HandS.More
import HandS.SlotsOwn
import HandS.Property
import HandS.ClsMeth
import HandS.DictComp
import HandS.Conv
import HandS.Walk
import HandS.NoneIn
import HandS.CallLocal
import HandS.Star
import HandS.ExcInit
import HandS.ExcField
import HandS.ExcIs
import KE.KExcInit
import KE.KExcIs
import HandS.WordsExc
import HandS.ListItems
import HandS.Style
import HandS.TryMany
import HandS.RaiseMore
import HandS.FStr
import HandS.HotCalls
import KE.KItemsList
import KE.KOpsOwn
import HandS.OwnEq
import HandS.Lambda
import HandS.EndTab
import KE.KNestM
import HandS.Deep
import HandS.Nested
import KE.KSuper
import HandS.TupMul
import KE.GoesMore
import HandS.SetBool
import KE.KeyNested
import KE.KDictKeyed
import HandS.DictTup
import KE.KDictPairs
import PyProof.ListNew
import PyProof.Rows.SetFrom
import HandS.Finally
set_option Elab.async false
set_option linter.all false
set_option maxRecDepth 100000
set_option maxHeartbeats 4000000
section
local macro_rules | `(tactic| first | refine $t:term | fail $s:str) => do { let t2 ← t.raw.replaceM fun n => (do { if n.getKind == `Lean.Parser.Term.syntheticHole then { let nm := n[1].getId.eraseMacroScopes; if nm == `hl then { return some (← `(by exact $(Lean.mkIdent `x))) } else { if nm == `hw || nm == `hc then { return some (← `(by contradiction)) } else { return none } } } else { return none } }); `(tactic| refine $(⟨t2⟩)) }
open PySem PySem.W PyProof.Rows
set_option maxRecDepth 100000 in
set_option maxHeartbeats 0 in
def My.hlStmt : Prop := by
  refine' (fun (P : Prop) (_ : P → False → PySem.Challenge.rw_chainmaps_k01_map_objects.Holds) => P) _ ?h
  rotate_left
  intro x f
  w_on; o_law; k_headL
set_option maxRecDepth 100000 in
set_option maxHeartbeats 0 in
theorem My.hl : My.hlStmt := by
  refine HeadRun.left_oneK (by kernel_rfl) (by rfl) (fun s => by kernel_rfl) (Nat.ble_eq_true_of_le (Nat.le_refl _)) ?_
  intro w os
  kernel_rfl
end
namespace PySem.W
open PySem PySem.Calls PyProof.Rows
section
variable {prog : Program} {w : World} {A : Around} {E : Value → Shared → Prop} {s : Shared} {K : Frag} {x C L f : Addr} {h₀ : Heap} {m : Str → Option Value} {ox : Obj} {od : Option Obj} {b tb : Value}
theorem my_ne_K {Q : Value → Shared → Prop} (hu : A.units + 1 < cLine) (F : Fr h₀ L s.heap m) (X₀ : K.In h₀) (I : InstAt s.heap x ox C od) (hb : Looks (model prog w) s.heap (typeOf b) tb) (hn : notFirst K C tb = true)
    (hne : findIn K (.ref C) "__ne__" = some (some (.builtin "object.__ne__"))) (hob : mroIn K C (.type "object") = some true)
    (hs : findIn K (.ref C) "__eq__" = some (some (.ref f))) (hf : isFn K (.ref f) = true)
    (h : wpAny (model prog w) A.in1 (call (.ref f) [.ref x, b]) (fun v s' => ∃ c, v = .bool c ∧ Q (.bool (!c)) s') E s) : wpAny (model prog w) A (richCompare .NotEq (.ref x) b) Q E s := by
  have X := X₀.keeps F.keep
  have one : wpAny (model prog w) A (tryCompare (.ref x) "__ne__" b) (fun r s' => ∃ v, r = some v ∧ Q v s') E s := by
    unfold tryCompare
    simp only [callSpecialIfBound?, bindSpecialIfBound?]
    have sub : Looks (model prog w) s.heap (isInstance (.ref x) (.type "object")) true := I.type.andThen (looks_mroIn X hob)
    have fin : wpAny (model prog w) A (call (.builtin "object.__ne__") ([.ref x] ++ [b]) >>= fun v => pure (some v)) (fun r s' => ∃ c, r = some (.bool c) ∧ Q (.bool c) s') E s := by
      refine wpAny_bind (wpAny_call (codeAny_call_builtin PySem.F.slot_tuple_iterator_ne.plain PySem.F.cmpEntry_ne ?_))
      refine @check_slot (model prog w) _ _ s "object.__ne__" "object" "__ne__" (.ref x) [b] [] _ PySem.F.cmpKind_ne PySem.F.cmpSplit_ne sub (PySem.F.cmpArgs_ne _ _) ?_
      unfold Builtin.«object.__ne__»
      refine wpAny_bind (wpAny_of_eq (a := ((Value.ref x : Value), [b])) (by first | rfl | (simp only [Builtin.slotArgs]; rfl)) ?_)
      refine wpAny_bind (wpAny_cRoomFor hu ?_)
      refine wpAny_bind (ifBound_K X I hs hf (wpAny_mono h (fun v s' hv => ?_) fun _ _ e => e))
      obtain ⟨c, rfl, q⟩ := hv
      refine wpAny_bind (wpAny_truthy_bool ?_)
      exact wpAny_pure (wpAny_pure ⟨_, rfl, q⟩)
    refine wpAny_bind (wpAny_holding (wpAny_bind (wpAny_bind (wpAny_bind (I.type.here ((looks_findIn X hne).here ?_))))))
    refine wpAny_bind (wpAny_askSetting (wpAny_ite ?_))
    split
    · rw [PySem.F.slot_tuple_iterator_ne.bind (.ref x)]
      exact wpAny_bind (wpAny_pure (wpAny_pure (wpAny_mono fin (fun r s' z => by obtain ⟨c, rfl, q⟩ := z; exact wpAny_pure ⟨_, rfl, q⟩) fun _ _ e => e)))
    · rw [PySem.F.slot_tuple_iterator_ne.bind (.ref x)]
      exact wpAny_tryCatch (wpAny_bind (wpAny_pure (wpAny_pure (wpAny_mono fin (fun r s' z => by obtain ⟨c, rfl, q⟩ := z; exact wpAny_pure ⟨_, rfl, q⟩) fun _ _ e => e))))
  unfold richCompare
  simp only [oneThing_ref]
  refine wpAny_holding (wpAny_bind (wpAny_cRoomFor (Nat.lt_of_succ_lt hu) ?_))
  refine wpAny_bind (I.type.here (wpAny_bind (hb.here ?_)))
  split
  · rename_i q
    have e : subIn K tb (.ref C) = some false := by
      rcases Bool.or_eq_true_iff.mp hn with e | e
      · rw [beq_iff_eq.mp e] at q; simp at q
      · exact beq_iff_eq.mp e
    refine wpAny_bind ((looks_subIn X e).here ?_)
    simp only [Bool.false_eq_true, if_false]
    refine wpAny_bind (wpAny_mono one (fun r s' z => ?_) fun _ _ e => e)
    obtain ⟨v, rfl, hq⟩ := z
    exact wpAny_pure hq
  · refine wpAny_bind (wpAny_pure ?_)
    simp only [Bool.false_eq_true, if_false]
    refine wpAny_bind (wpAny_mono one (fun r s' z => ?_) fun _ _ e => e)
    obtain ⟨v, rfl, hq⟩ := z
    exact wpAny_pure hq
end
end PySem.W
namespace U
open PySem PySem.Spec PyProof.Rows L2
/-- what is asked of a plain own class -/
structure OwnC (K : PySem.W.Frag) (C : Addr) : Prop where
  cl : Cls K C
  sf : PySem.W.selfFirst K C = true
  ca : PySem.W.findIn K (.ref C) "__class__" = some (some (.builtin "object.__class__"))
  cn : PySem.W.specialIn K (.builtin "object.__class__") "__get__" = some (some (.builtin "getset_descriptor.__get__"))
  ct : PySem.W.takesIn K (.builtin "object.__class__") = some true
  cm : PySem.W.mroIn K C (.type "object") = some true
section
variable {X : Cx} {CX : CXT} {pins : List (Addr × Obj)} {σ : L2.St} {H : Hp} {s : Shared} {a C dx p g : Addr} {f : Str} {n : Nat} {sp : Sp} {E : XK} {v : V} {u : Value}
theorem ins_inst (I : Inv X pins σ H s) {fs : List (Str × V)} (ea : H a = some (.ins C dx fs)) : ∃ ox od, PySem.W.InstAt s.heap a ox C (some od) := by
  obtain ⟨mA, O, _⟩ := ins_get I.hok ea
  obtain ⟨od, J, _⟩ := O.look
  exact ⟨_, od, J⟩
theorem notFirst_self (K : PySem.W.Frag) (C : Addr) : PySem.W.notFirst K C (.ref C) = true := by
  unfold PySem.W.notFirst; simp
end
end U
namespace U
open PySem PySem.Spec PyProof.Rows L2 StX
/-! ### a def of the text, with how its arguments bind -/
structure FnAt (K : PySem.W.Frag) (x qual : Str) (st : Stmt) (f : Addr) (ps : List Str) : Prop where
  ex : ∃ fd, Fun K x qual st f fd ∧ Binds K fd ps []
theorem FnAt.kp {K : PySem.W.Frag} {x qual : Str} {st : Stmt} {f : Addr} {ps : List Str} (A : FnAt K x qual st f ps) : PySem.W.keepIn K (.ref f) = true := by
  obtain ⟨fd, F, _⟩ := A.ex
  exact F.kp
section
variable {P : Program} {w : World} {K : PySem.W.Frag} {mg : Str → Option Value} {base : Heap}
theorem FnAt.ok {x qual : Str} {st : Stmt} {f : Addr} {N ps : List Str} {k : Nat} {sp : Sp} (A : FnAt K x qual st f ps) (S : FnScope N ps (defScope st)) (len : ∀ vs H Q E, sp vs H Q E → vs.length = ps.length)
    (hbody : ∀ (cdv : Value) (A : Around) (outer : List Env) (s : Shared) (H : Hp) (vs : List V) (Q : VK) (E : XK), Room k (A.deeper (envOfC qual (defScope st) s.heap.objs.size f cdv)) → sp vs H Q E →
      ∃ t, PSs (cxOf CX0 P w K mg base N qual (defScope st) f cdv A outer s H E).nox (defBody st) t ∧ t { nx := fun _ H' => Q .non H', rt := Q } (start N vs) H) : FnR P w K mg base CX0 (k + 1) f sp := by
  obtain ⟨fd, F, B⟩ := A.ex
  have R := (F.ok (P := P) (w := w) (mg := mg) (base := base) S len hbody).raw B .nil
  exact R.imp fun vs H Q E h => by rw [List.append_nil]; exact h
/-- a def that raises nothing, where exceptions are told -/
theorem fnR_any {CX : CXT} {k : Nat} {f : Addr} {sp : Sp} (F : FnR P w K mg base CX0 k f sp) : FnR P w K mg base CX k f sp := by
  intro A outer s H us vs Q E hr e0 r h
  refine codeAny_mono (F A outer s H us vs Q E hr e0 r h) fun r s' hq => ?_
  cases r with
  | error e => exact False.elim hq
  | ok fl => cases fl <;> exact hq
end
section
variable {X : Cx} {CX : CXT} {k i : Nat} {f C p g a dx : Addr} {sp : Sp} {E : XK} {x fl : Str} {e o : Expr} {es : List Expr} {ta te tf : TE} {t : TA} {pp pos : Pos} {fs : List (Str × V)}
/-- x(e, ..), x a def of the module -/
def tCallR (sp : Sp) (E : XK) (t : TA) : TE := fun σ H Q => t σ H fun vs H1 => sp vs H1 Q E
theorem pe_callR (F : FnR X.prog X.w X.K X.mg X.base CX k f sp) (hr : Room k X.A) (hk : PySem.W.keepIn X.K (.ref f) = true) (hg : Gl X x) (hm : X.mg x = some (.ref f)) (hx : Passes CX X E) (ha : PA X (e :: es) t) (hdb : (x == ("__debug__" : Str)) = false := by decide)
    (he : starEach (e :: es) X.env = (false, eval e X.env) :: starEach es X.env := by rfl) (hpl : (backTo pos (starEach es X.env)).any (·.1) = false := by rfl) : PE X (.Call (.Name x pp) (e :: es) [] pos) (tCallR sp E t) := by
  refine ⟨fun pins s σ H Q I h => ?_⟩
  refine wpAny_Call_Name_kw (ld_glob I hg hm ?_ hdb)
  refine PySem.W.callWith_K (h₀ := X.base) I.ok.mod.kin hk (thn (ha.run pos pins s σ H _ I h) fun us s1 ⟨vs, H1, I1, r, q⟩ => ⟨I1.kIn, ?_⟩) he hpl
  exact wpAny_call (run_fnR F hr hx I1 r q)
/-- e.f, a property -/
def tPropR (C : Addr) (sp : Sp) (ta : TE) : TE := fun σ H Q => ta σ H fun x H1 => ∃ a dx fs, x = .ref a ∧ H1 a = some (.ins C dx fs) ∧ sp [.ref a] H1 Q E0
theorem pe_propR (he : PE X e ta) (c : Cls X.K C) (hp : PropOf X.K C fl p g) (F : FnR X.prog X.w X.K X.mg X.base CX0 k g sp) (hr : Room (k + 1) X.A)
    (hab : attributeBase e fl X.env (eval e X.env) = eval e X.env := by rfl) : PE X (.Attribute e fl pos) (tPropR C sp ta) := by
  refine ⟨fun pins s σ H Q I h => ?_⟩
  refine attr_of hab (thn (he.run pins s σ H _ I h) fun u s1 ⟨x, H1, I1, rx, a, dx, fs, ex, ea, q⟩ => ?_)
  subst ex
  obtain rfl : u = Value.ref a := rx
  obtain ⟨mA, O, _, _, _, _⟩ := ins_get I1.hok ea
  obtain ⟨od, J, _⟩ := O.look
  obtain ⟨rest, hrec⟩ := hp.rec_
  have I2 := I1.tok (s1.toks + 1)
  have hc : (PySem.W.clsIn X.K C).isSome = true := by
    obtain ⟨cd, hc, _⟩ := PySem.W.any_some c.hd
    rw [hc]
    rfl
  refine PySem.W.get_bind I1.kIn J (PySem.W.plainGet_of (c.get fl)).1 (PySem.W.findObj_data hc hp.at_ hp.get hp.tak) (PySem.W.plainGet_of (c.get fl)).2 (wpAny_call (PySem.W.prop_get (s := { s1 with toks := s1.toks + 1 }) I1.kIn hrec ?_))
  refine codeAny_mono (F X.A.in1 X.stack { s1 with toks := s1.toks + 1 } H1 [.ref a] [.ref a] Q E0 hr.in1 I2.env0.in1 (.cons rfl .nil) q) fun r s' hq => ?_
  cases r with
  | error er => exact False.elim hq
  | ok fl =>
    cases fl with
    | ret u =>
      obtain ⟨v, H', I3, rv, q3⟩ := I2.after hq
      show wpAny _ _ (handedOut u) _ _ _
      rw [PySem.W.handedOut_of (handed_of rv)]
      exact wpAny_pure ⟨v, H', I3, rv, q3⟩
    | next => exact False.elim hq
    | brk => exact False.elim hq
    | cont => exact False.elim hq
end
theorem ifD {c : Prop} [Decidable c] {A B : Prop} (h1 : c → A) (h2 : ¬ c → B) : if decide c = true then A else B := by
  by_cases h : c
  · rw [if_pos (decide_eq_true h)]; exact h1 h
  · rw [if_neg (by simp [h])]; exact h2 h
theorem ifB {c : Bool} {A B : Prop} (h1 : c = true → A) (h2 : c = false → B) : if c = true then A else B := by
  cases c with
  | true => rw [if_pos rfl]; exact h1 rfl
  | false => rw [if_neg Bool.false_ne_true]; exact h2 rfl
theorem ifNB {c : Bool} {A B : Prop} (h1 : c = false → A) (h2 : c = true → B) : if (!c) = true then A else B := by
  cases c with
  | true => exact iteF (h2 rfl)
  | false => exact iteT (h1 rfl)
end U
namespace U
open PySem PySem.Spec PyProof.Rows L2
/-- the ints' dicts compared -/
def dEq (ks ls : List (Key × V)) : Bool := ks.length == ls.length && ks.all fun p => decide (valV ls p.1 = some p.2)
def IntVals (ks : List (Key × V)) : Prop := ∀ p ∈ ks, ∃ i : Int, p.2 = .int i
theorem valV_mem {ls : List (Key × V)} {k : Key} {v : V} (h : valV ls k = some v) : ∃ p ∈ ls, p.2 = v := by
  unfold valV at h
  cases e : ls.find? (fun kv => decide (kv.1 = k)) with
  | none => rw [e] at h; cases h
  | some p =>
    rw [e] at h
    exact ⟨p, List.mem_of_find?_eq_some e, Option.some.inj h⟩
theorem hits_int {A : Around} {s : Shared} {ls : List (Key × V)} {vb : List (Key × Value)} (rb : KV ls vb) (il : IntVals ls) {ks : List (Key × V)} {va : List (Key × Value)} (ra : KV ks va) :
    IntVals ks → PySem.W.KeqHits A s vb va (ks.all fun p => decide (valV ls p.1 = some p.2)) := by
  unfold KV at ra
  induction ra with
  | nil => intro _; exact .nil
  | @cons p q ps qs h t ih =>
    intro hp
    obtain ⟨h1, h2⟩ := h
    obtain ⟨i, ei⟩ := hp p List.mem_cons_self
    obtain ⟨k, v⟩ := q
    have h1' : p.1 = k := h1
    subst h1'
    rw [ei] at h2
    obtain ⟨tk, ev⟩ := (show ∃ tk, v = Value.int i tk from h2)
    subst ev
    have rr : RelO (valV ls p.1) (valueAt vb p.1) := rb.val p.1
    rw [List.all_cons]
    cases e : valV ls p.1 with
    | none =>
      rw [e] at rr
      cases e2 : valueAt vb p.1 with
      | none => exact .miss e2
      | some y => rw [e2] at rr; exact rr.elim
    | some z =>
      rw [e] at rr
      obtain ⟨y, hy, ry⟩ := rr.some_of
      obtain ⟨p', hm, ep⟩ := valV_mem e
      obtain ⟨j, ej⟩ := il p' hm
      rw [ej] at ep
      subst ep
      obtain ⟨tk', ey⟩ := (show ∃ tk, y = Value.int j tk from ry)
      subst ey
      have b : decide (some (V.int j) = some p.2) = (i == j) := by
        rw [ei]
        by_cases h : i = j
        · subst h; simp
        · have h' : ¬ j = i := fun z => h z.symm
          simp [h, h']
      rw [b]
      exact .hit hy (SeqAt.EqAt.int_int i _ j _) (ih fun p' hm => hp p' (List.mem_cons_of_mem _ hm))
section
variable {X : Cx}
def rEqD : R2 := fun x y H Q => ∃ a b ks ls, x = .ref a ∧ y = .ref b ∧ H a = some (.dK ks) ∧ H b = some (.dK ls) ∧ IntVals ks ∧ IntVals ls ∧ Q (.bl (dEq ks ls)) H
def rNeD : R2 := fun x y H Q => ∃ a b ks ls, x = .ref a ∧ y = .ref b ∧ H a = some (.dK ks) ∧ H b = some (.dK ls) ∧ IntVals ks ∧ IntVals ls ∧ Q (.bl (!dEq ks ls)) H
theorem op_eqDI (hu : X.A.units < cLine) : OpR X (compareOp .Eq) rEqD := by
  intro pins s σ H x y v u Q I rx ry h
  obtain ⟨a, b, ks, ls, rfl, rfl, ea, eb, i1, i2, q⟩ := h
  cases (show v = Value.ref a from rx)
  cases (show u = Value.ref b from ry)
  obtain ⟨_, ya, va, ra, da⟩ := (show ObjOk X.prog X.w H s.heap a (.dK ks) from I.hok a _ ea)
  obtain ⟨_, yb, vb, rb, db⟩ := (show ObjOk X.prog X.w H s.heap b (.dK ls) from I.hok b _ eb)
  refine PySem.W.keq_eq (knd := mixKind X.prog X.w) ya yb da db hu (fun _ => hits_int rb i2 ra i1) (fin_bl I q ?_)
  unfold dEq
  rw [ra.length, rb.length]
end
end U
namespace U
open PySem PySem.Spec PyProof.Rows L2
/-! ### heaps -/
def Off (d : Addr) (H H' : Hp) : Prop := ∀ b o, b ≠ d → H b = some o → H' b = some o
theorem Same.new {H : Hp} {p : Addr} {o : HO} (h : H p = none) : L2.Same H (upd H p o) := fun b u e => by rw [upd_ne (ne_of_none e h)]; exact e
theorem Off.tr {d : Addr} {H H1 H2 : Hp} (a : Off d H H1) (b : Off d H1 H2) : Off d H H2 := fun c o hc e => b c o hc (a c o hc e)
theorem Off.lock {d : Addr} {H : Hp} {o : HO} : Off d H (upd H d o) := fun b u hb e => by rw [upd_ne hb]; exact e
theorem Off.new {d p : Addr} {H : Hp} {o : HO} (h : H p = none) : Off d H (upd H p o) := fun b u _ e => by rw [upd_ne (ne_of_none e h)]; exact e
theorem Off.free {d p : Addr} {H H' : Hp} {u : HO} (a : Off d H H') (hd : H' d = some u) (h : H' p = none) : H p = none := by
  cases e : H p with
  | none => rfl
  | some o =>
    by_cases hp : p = d
    · subst hp; rw [hd] at h; cases h
    · rw [a p o hp e] at h; cases h
theorem Off.back {d : Addr} {H H' : Hp} {u : HO} (a : Off d H H') (hd : H d = some u) : L2.Same H (upd H' d u) := fun b o e => by
  by_cases hb : b = d
  · subst hb; rw [hd] at e; cases e; exact upd_same
  · rw [upd_ne hb]; exact a b o hb e
/-- an object of the heap behind, that was not there ahead, may be changed -/
theorem Off.mut {d p : Addr} {H H' : Hp} {o : HO} (a : Off d H H') (h : H p = none) : Off d H (upd H' p o) := fun b u hb e => by rw [upd_ne (ne_of_none e h)]; exact a b u hb e
/-! ### a dict of ints -/
def kvI (l : List (Int × Int)) : List (Key × V) := l.map fun p => (Sum.inl p.1, V.int p.2)
theorem kvI_length (l : List (Int × Int)) : (kvI l).length = l.length := by simp [kvI]
def lk (l : List (Int × Int)) (x : Int) : Option Int := (l.find? fun p => decide (p.1 = x)).map (·.2)
theorem valV_kvI (l : List (Int × Int)) (x : Int) : valV (kvI l) (Sum.inl x : Key) = (lk l x).map V.int := by
  induction l with
  | nil => rfl
  | cons p r ih =>
    obtain ⟨a, b⟩ := p
    by_cases h : a = x
    · subst h
      rw [show kvI ((a, b) :: r) = (Sum.inl a, V.int b) :: kvI r from rfl, valV_pos rfl]
      simp [lk]
    · rw [show kvI ((a, b) :: r) = (Sum.inl a, V.int b) :: kvI r from rfl, valV_neg (fun z => h (Sum.inl.inj z)), ih]
      simp [lk, h]
theorem lk_none {l : List (Int × Int)} {x : Int} (h : x ∉ l.map (·.1)) : lk l x = none := by
  unfold lk
  rw [List.find?_eq_none.mpr]
  · rfl
  · intro p hp
    simp only [decide_eq_true_eq]
    exact fun e => h (List.mem_map.mpr ⟨p, hp, e⟩)
theorem lk_some {l : List (Int × Int)} (nd : (l.map (·.1)).Nodup) {x y : Int} (h : (x, y) ∈ l) : lk l x = some y := by
  induction l with
  | nil => cases h
  | cons p r ih =>
    obtain ⟨a, b⟩ := p
    rw [List.map_cons, List.nodup_cons] at nd
    rcases List.mem_cons.mp h with h | h
    · cases h; simp [lk]
    · have ne : ¬ a = x := fun z => nd.1 (by rw [z]; exact List.mem_map.mpr ⟨(x, y), h, rfl⟩)
      have := ih nd.2 h
      simpa [lk, ne] using this
theorem lk_mem {l : List (Int × Int)} {x y : Int} (h : lk l x = some y) : (x, y) ∈ l := by
  unfold lk at h
  cases e : l.find? (fun p => decide (p.1 = x)) with
  | none => rw [e] at h; cases h
  | some p =>
    rw [e] at h
    obtain ⟨a, b⟩ := p
    have h1 := List.find?_some e
    simp only [decide_eq_true_eq] at h1
    have h2 : b = y := Option.some.inj h
    subst h1 h2
    exact List.mem_of_find?_eq_some e
theorem intVals_kvI (l : List (Int × Int)) : IntVals (kvI l) := by
  intro p hp
  unfold kvI at hp
  obtain ⟨q, _, rfl⟩ := List.mem_map.mp hp
  exact ⟨q.2, rfl⟩
theorem putK_kvI {l : List (Int × Int)} {x y : Int} (h : x ∉ l.map (·.1)) : putK (kvI l) (Sum.inl x : Key) (V.int y) = kvI (l ++ [(x, y)]) := by
  have e : valV (kvI l) (Sum.inl x : Key) = none := by rw [valV_kvI, lk_none h]; rfl
  rw [putK_new _ e]
  simp [kvI]
end U
namespace U
open PySem PySem.Spec PyProof.Rows L2
section
variable {J : It} {n : Nat} {G : Hp → Prop} {Y : Nat → Hp → V → Hp → Prop}
/-- a dict comprehension over a walk -/
theorem dc_it (w : Walk J n G Y) {g : TG} {tt : TT} {tk tv : TE} {vs : List Nat} {σ : L2.St} {H1 : Hp} {D : Addr} {Qd : Hp → Prop} (Pv : Nat → Hp → Prop) (h0 : Pv 0 (upd H1 D (.dK []))) (hG : ∀ i H, i ≤ n → Pv i H → G H)
    (hs : ∀ i x H H', i < n → Pv i H → Y i H x H' → g x (wipe σ vs) H' fun σ2 H2 => wipe σ2 vs = wipe σ vs ∧ tt σ2 H2 fun b H3 =>
      if b = true then tk σ2 H3 fun y H4 => tv σ2 H4 fun z H5 => ∃ kvs k, y = kV k ∧ H5 D = some (.dK kvs) ∧ kvs.length < sizeLine ∧ Pv (i + 1) (upd H5 D (.dK (putK kvs k z))) else Pv (i + 1) H3) (hd : ∀ H, Pv n H → Qd H) :
    ∃ W : Nat → Nat → Hp → Prop, (∃ m, W 0 m (upd H1 D (.dK []))) ∧ ∀ i m H, W i m H →
      (J.stop i H ∧ Qd H) ∨ (J.go i H ∧ ∃ Nx : Hp → Prop, (∀ H', Nx H' → ∃ m', m' < m ∧ W (i + 1) m' H') ∧ ∀ x H', J.yld i H x H' → g x (wipe σ vs) H' fun σ2 H2 => wipe σ2 vs = wipe σ vs ∧ tt σ2 H2 fun b H3 =>
        if b = true then tk σ2 H3 fun y H4 => tv σ2 H4 fun z H5 => ∃ kvs k, y = kV k ∧ H5 D = some (.dK kvs) ∧ kvs.length < sizeLine ∧ Nx (upd H5 D (.dK (putK kvs k z))) else Nx H3) := by
  refine ⟨fun i m H => m = n - i ∧ i ≤ n ∧ Pv i H, ⟨n, by simp, Nat.zero_le _, h0⟩, ?_⟩
  rintro i m H ⟨rfl, hi, p⟩
  have q := hG i H hi p
  by_cases hlt : i < n
  · exact .inr ⟨w.goes i H hlt q, Pv (i + 1), fun H' p' => ⟨n - (i + 1), by omega, rfl, hlt, p'⟩, fun x H' y => hs i x H H' hlt p (w.yields i H x H' hlt q y)⟩
  · have e : i = n := by omega
    subst e
    exact .inl ⟨w.stops H q, hd H p⟩
end
theorem take_more {α : Type} {l : List α} {i : Nat} {x : α} (h : l[i]? = some x) : l.take (i + 1) = l.take i ++ [x] := by
  rw [List.take_add_one, h]; rfl
theorem valV_none {kvs : List (Key × V)} {k : Key} (h : k ∉ kvs.map (·.1)) : valV kvs k = none := by
  unfold valV
  rw [List.find?_eq_none.mpr]
  · rfl
  · intro p hp
    simp only [decide_eq_true_eq]
    exact fun e => h (List.mem_map.mpr ⟨p, hp, e⟩)
/-- {k: v for x in range(lo, ..) if ..} -/
def madeR (c : Int → Bool) (kf : Int → Int) (vf : Int → V) (n : Nat) : List (Key × V) := ((List.range n).filter fun (i : Nat) => c (i : Int)).map fun (i : Nat) => ((Sum.inl (kf (i : Int)) : Key), vf (i : Int))
theorem madeR_succ (c : Int → Bool) (kf : Int → Int) (vf : Int → V) (n : Nat) : madeR c kf vf (n + 1) = madeR c kf vf n ++ (if c (n : Int) = true then [((Sum.inl (kf (n : Int)) : Key), vf (n : Int))] else []) := by
  unfold madeR
  rw [List.range_succ, List.filter_append, List.map_append]
  by_cases h : c (n : Int) = true
  · simp [h]
  · have h' : c (n : Int) = false := by simpa using h
    simp [h']
theorem madeR_len (c : Int → Bool) (kf : Int → Int) (vf : Int → V) (n : Nat) : (madeR c kf vf n).length ≤ n := by
  unfold madeR
  rw [List.length_map]
  exact Nat.le_trans (List.length_filter_le _ _) (by simp)
theorem madeR_keys {c : Int → Bool} {vf : Int → V} {n k : Nat} (h : (Sum.inl (k : Int) : Key) ∈ (madeR c (fun x => x) vf n).map (·.1)) : k < n := by
  unfold madeR at h
  rw [List.map_map] at h
  obtain ⟨i, hi, e⟩ := List.mem_map.mp h
  have h1 := (List.mem_filter.mp hi).1
  rw [List.mem_range] at h1
  have : (i : Int) = (k : Int) := Sum.inl.inj e
  omega
theorem dc_range {wi : TI} {i : Nat} {tt : TT} {tk tv : TE} {vs : List Nat} {σ : L2.St} {H0 H : Hp} {Q : VK} {n : Nat} (c : Int → Bool) (vf : Int → V) (hwi : ∀ R : It → Hp → Prop, R (Itr 0 n) H → wi σ H0 R)
    (hw : ∀ a, wipe ((wipe σ vs).set i a) vs = wipe σ vs)
    (hb : ∀ k : Nat, k < n → ∀ H1, L2.Same H H1 → (∀ R : Bool → Hp → Prop, R (c (k : Int)) H1 → tt ((wipe σ vs).set i (some (.int (0 + (k : Nat))))) H1 R) ∧
      (c (k : Int) = true → (∀ R : VK, R (.int (k : Int)) H1 → tk ((wipe σ vs).set i (some (.int (0 + (k : Nat))))) H1 R) ∧ ∀ R : VK, R (vf (k : Int)) H1 → tv ((wipe σ vs).set i (some (.int (0 + (k : Nat))))) H1 R))
    (hz : n < sizeLine) (hq : ∀ D H', H D = none → H' D = some (.dK (madeR c (fun x => x) vf n)) → L2.Same H H' → Q (.ref D) H') :
    tDc wi (gName i) tt tk tv vs σ H0 Q := by
  refine hwi _ ?_
  intro D hD
  refine dc_it walk_range (fun k H' => L2.Same H H' ∧ H' D = some (.dK (madeR c (fun x => x) vf k))) ⟨Same.new hD, upd_same⟩ (fun _ _ _ _ => trivial) ?_ ?_
  · rintro k v H' H'' hk ⟨p1, p2⟩ ⟨rfl, rfl⟩
    refine ⟨hw _, ?_⟩
    obtain ⟨b1, b2⟩ := hb k hk _ p1
    refine b1 _ ?_
    cases hc : c (k : Int) with
    | true =>
      refine iteT ?_
      obtain ⟨b3, b4⟩ := b2 hc
      refine b3 _ (b4 _ ⟨_, Sum.inl (k : Int), rfl, p2, Nat.lt_of_le_of_lt (madeR_len ..) (Nat.lt_trans hk hz), ?_, ?_⟩)
      · intro b o e
        rw [upd_ne (ne_of_none e hD)]
        exact p1 b o e
      · rw [upd_same, putK_new _ (valV_none fun z => Nat.lt_irrefl _ (madeR_keys z)), madeR_succ, if_pos hc]
    | false =>
      refine iteF ⟨p1, ?_⟩
      rw [madeR_succ, hc, p2]
      simp
  · rintro H' ⟨p1, p2⟩
    exact hq D _ hD p2 p1
end U
namespace U
open PySem PySem.Spec PyProof.Rows L2
end U
/-! ### own errors over any built-in error -/
namespace PySem
namespace GEX
open PySem.W PySem.Calls PyProof.Rows PySem.HandSPX Builtin Builtin.ObjectAttr
section
variable {prog : Program} {w : World} {A : Around} {E : Value → Shared → Prop} {R : Result → Shared → Prop} {hp : Heap} {gs : Array GenState} {dr : Drawn} {tn : Nat} {os : OsState}
/-- what is asked of the class's chain -/
structure Mro (m : List Value) : Prop where
  ob : m.contains (.type "object") = true
  ne : m.isEmpty = false
  ps : ∀ self : Value, refuseLoop self "__setattr__" m = pure ()
theorem mro_of {bmB bm : List Value} {B : String} (SF : StoreFacts B bmB "object.__setattr__" "object") (h : excTail bmB bm = true) (C : Addr) : Mro (.ref C :: bm) := by
  have h' : excTail bmB (.ref C :: bm) = true := h
  exact ⟨(excTail_contains "object" _ h').trans SF.hasOwner, rfl, fun self => excTail_pass self (SF.passes self) _ h'⟩
theorem osa_first {K : Frag} {nm : Str} {tk : Tok} {v : Value} {x C : Addr} {fv : Array Value} {cd : ClassData} (X : K.In hp) (hx : hp.get? x = some { cls := .ref C, data := .fields fv }) (hcd : clsIn K C = some cd) (hm : Mro cd.mro) (hh : cd.hasDict = true) (ha : findIn K (.ref C) nm = some none)
    (hq : ∀ h' tk' dx, (∀ b o, b ≠ x → hp.get? b = some o → h'.get? b = some o) → hp.objs.size ≤ dx → dx ≠ x → h'.get? x = some { cls := .ref C, dict := some dx, data := .fields fv } → h'.Ns1 dx (fun y => if y = nm then some v else none) → R (.ok (.ret .none)) ⟨h', gs, dr, tk', os⟩) :
    codeAny (model prog w) A (.call (.builtin "object.__setattr__") ⟨[.ref x, .str nm tk, v], []⟩) R ⟨hp, gs, dr, tn, os⟩ := by
  have I : InstAt hp x { cls := .ref C, data := .fields fv } C none := ⟨hx, rfl, rfl, trivial⟩
  have hxs : x ≠ hp.objs.size := Nat.ne_of_lt (Heap.lt_size hx)
  have S0 := F.store_object
  have l1 : Looks (model prog w) hp (isInstance (.ref x) (.type "object")) true := I.type.andThen (looks_mroIn X (by unfold mroIn; rw [hcd, Option.bind_some, if_neg (by rw [hm.ne]; decide), hm.ob]))
  refine codeAny_call_builtin S0.slot.plain S0.entry ?_
  refine @check_slot (model prog w) _ _ ⟨hp, gs, dr, tn, os⟩ "object.__setattr__" "object" "__setattr__" (.ref x) [.str nm tk, v] [] _ S0.kind S0.split l1 (S0.args (.ref x) (.str nm tk) v) ?_
  have l2 : Looks (model prog w) hp (mroOf (.ref C)) cd.mro := (looks_clsIn X hcd).andThen .now
  have l3 : Looks (model prog w) hp (storeTaker? none) none := .now
  have l4 : Looks (model prog w) hp (classData C) cd := looks_clsIn X hcd
  rw [osa_eq, refuse_eq]
  refine wpAny_bind (wpAny_bind (I.type.at (wpAny_bind (l2.at ?_)))); rw [hm.ps]
  refine wpAny_pure (wpAny_bind (I.type.at (wpAny_bind ((looks_findIn X ha).at (wpAny_bind (l3.at ?_))))))
  show wpAny _ _ (storeInOwnDict (.ref x) (.ref C) (.str nm tk) nm v false) _ _ _
  obtain ⟨c1, c2, c3, c4, c5, c6, c7, c8, c9, c10, c11⟩ := cd
  have hh' : c6 = true := hh
  subst hh'
  unfold storeInOwnDict ownDictForStores
  repeat (first | with_reducible refine HandSPX.store_in_new ?_ ?_ | with_reducible refine wpAny_loadPart_at hx ?_ | with_reducible refine l4.at ?_ | wp_step)
  · refine ⟨_, #[], _, (Heap.get?_update_ne _ _ _ _ hxs.symm).trans (Heap.get?_push_at rfl rfl), rfl, fun e he => ?_, fun _ => rfl⟩
    simp at he
  · intro h' tk' hn' hs
    have hx1 : (hp.push { cls := .type "dict", data := .dict #[] }).get? x = some { cls := .ref C, data := .fields fv } := Heap.get?_push_of_some _ hx
    exact hq h' tk' hp.objs.size (fun b o hb ho => (hs.2 b (Nat.ne_of_lt (Heap.lt_size ho))).trans ((Heap.get?_update_ne _ _ _ _ hb).trans (Heap.get?_push_of_some _ ho))) (Nat.le_refl _) hxs.symm ((hs.2 x hxs).trans (Heap.get?_update_self _ hx1 rfl)) hn'
theorem osa_more {K : Frag} {nm : Str} {tk : Tok} {v : Value} {x C dx : Addr} {fv : Array Value} {cd : ClassData} {m0 : Str → Option Value} {nl : List Str} (X : K.In hp) (hx : hp.get? x = some { cls := .ref C, dict := some dx, data := .fields fv }) (hns : hp.Ns1 dx m0) (hw : Within m0 nl) (hz : nl.length ≤ 1000) (hcd : clsIn K C = some cd) (hm : Mro cd.mro) (hh : cd.hasDict = true) (ha : findIn K (.ref C) nm = some none)
    (hq : ∀ h' tk', (∀ b o, b ≠ dx → hp.get? b = some o → h'.get? b = some o) → h'.Ns1 dx (fun y => if y = nm then some v else m0 y) → R (.ok (.ret .none)) ⟨h', gs, dr, tk', os⟩) :
    codeAny (model prog w) A (.call (.builtin "object.__setattr__") ⟨[.ref x, .str nm tk, v], []⟩) R ⟨hp, gs, dr, tn, os⟩ := by
  obtain ⟨oD, _, _, hoD, _, _⟩ := hns.count hw
  have I : InstAt hp x { cls := .ref C, dict := some dx, data := .fields fv } C (some oD) := ⟨hx, rfl, rfl, hoD⟩
  have S0 := F.store_object
  have l1 : Looks (model prog w) hp (isInstance (.ref x) (.type "object")) true := I.type.andThen (looks_mroIn X (by unfold mroIn; rw [hcd, Option.bind_some, if_neg (by rw [hm.ne]; decide), hm.ob]))
  refine codeAny_call_builtin S0.slot.plain S0.entry ?_
  refine @check_slot (model prog w) _ _ ⟨hp, gs, dr, tn, os⟩ "object.__setattr__" "object" "__setattr__" (.ref x) [.str nm tk, v] [] _ S0.kind S0.split l1 (S0.args (.ref x) (.str nm tk) v) ?_
  have l2 : Looks (model prog w) hp (mroOf (.ref C)) cd.mro := (looks_clsIn X hcd).andThen .now
  have l3 : Looks (model prog w) hp (storeTaker? none) none := .now
  have l4 : Looks (model prog w) hp (classData C) cd := looks_clsIn X hcd
  rw [osa_eq, refuse_eq]
  refine wpAny_bind (wpAny_bind (I.type.at (wpAny_bind (l2.at ?_)))); rw [hm.ps]
  refine wpAny_pure (wpAny_bind (I.type.at (wpAny_bind ((looks_findIn X ha).at (wpAny_bind (l3.at ?_))))))
  show wpAny _ _ (storeInOwnDict (.ref x) (.ref C) (.str nm tk) nm v false) _ _ _
  obtain ⟨c1, c2, c3, c4, c5, c6, c7, c8, c9, c10, c11⟩ := cd
  have hh' : c6 = true := hh
  subst hh'
  unfold storeInOwnDict ownDictForStores
  repeat (first | with_reducible refine OEX.store_in_old hns hw hz ?_ | with_reducible refine wpAny_loadPart_at hx ?_ | with_reducible refine l4.at ?_ | wp_step)
  intro h' tk' hn' hs
  exact hq h' tk' (fun b o hb ho => (hs.2 b hb).trans ho) hn'
end
end GEX
end PySem
namespace L2
open PySem PySem.Spec PyProof.Rows PySem.W
/-- what the written part says of an own error class -/
structure OexG (K : PySem.W.Frag) (C : Addr) : Prop where
  cls : ∃ B newId initId bmB nm q N bs bm sn sub ab col dd k0 k1 k2 k3 k5, PySem.StoreFacts B bmB "object.__setattr__" "object" ∧ ExcBaseFacts B newId initId bmB ∧ K.lookup C = some (excClassObj nm q C N bs bm true sn sub ab col dd k0 k1 k2 k3 k5 newId) ∧ PySem.W.excTail bmB bm = true
  sa : PySem.W.findIn K (.ref C) "__setattr__" = some (some (.builtin "object.__setattr__"))
  exC : PySem.W.subIn K (.ref C) (.type "BaseException") = some true
  tyC : PySem.W.typeIn K (.ref C) = some (.type "type")
  kC : PySem.W.keepIn K (.ref C) = true
section
variable {X : Cx} {pins : List (Addr × Obj)} {σ : St} {H : Hp} {s : Shared} {a C dx : Addr} {f : Str} {y : V} {u : Value} {fs : List (Str × V)} {Q : Unit → Shared → Prop} {E : Value → Shared → Prop} {A : Around}
theorem OexG.look {K : PySem.W.Frag} {C : Addr} (T : OexG K C) : ∃ cd, PySem.W.clsIn K C = some cd ∧ PySem.GEX.Mro cd.mro ∧ cd.hasDict = true := by
  obtain ⟨B, nI, iI, bmB, nm, q, N, bs, bm, sn, sub, ab, col, dd, k0, k1, k2, k3, k5, SF, _, hC, hb⟩ := T.cls
  refine ⟨{ name := nm, bases := bs, mro := .ref C :: bm, ns := N, qualname := q, hasDict := true, slotNames := sn, subclasses := sub, abstract := ab, collection := col, hasDel := false }, ?_, PySem.GEX.mro_of SF hb C, rfl⟩
  unfold PySem.W.clsIn
  rw [hC] <;> rfl
/-- self.f = y, none there as yet -/
theorem ostG_new (T : OexG X.K C) (I : Inv X pins σ H s) (e : H a = some (exo a C none)) (hno : PySem.W.findIn X.K (.ref C) f = some none) (ry : RelV y u)
    (k : ∀ dx s', H dx = none → dx ≠ a → Inv X pins σ (upd (upd H dx (exd dx [(f, y)])) a (exo a C (some dx))) s' → Q () s') : wpAny (model X.prog X.w) A (setAttr (.ref a) f u) Q E s := by
  obtain ⟨cd, hcd, hmr, hdc⟩ := T.look
  obtain ⟨t1, ho⟩ := exo_at I.hok e
  obtain ⟨h0, gs, dr, tn, os⟩ := s
  refine PySem.W.set_plain I.kIn (ox := ⟨.ref C, none, .fields #[.ref t1, .none, .none, .none, .bool false, .none], #[]⟩) (od := none) ⟨ho, rfl, rfl, trivial⟩ T.sa ?_
  refine PySem.GEX.osa_first I.kIn ho hcd hmr hdc hno fun h' tk' dx kp dn dne hx hn => ?_
  have dfree : H dx = none := I.hok.fresh dn
  have low : ∀ {b : Addr} {o : Obj}, h0.get? b = some o → b ≠ dx := fun q => Nat.ne_of_lt (Nat.lt_of_lt_of_le (Heap.lt_size q) dn)
  have apart : ∀ {b : Addr}, H b = none → b ≠ a := fun {b} n z => by subst z; rw [e] at n; cases n
  have U1 : Un X.fs [] H (upd (upd H dx (exd dx [(f, y)])) a (exo a C (some dx))) h0 h' := by
    refine ⟨fun b o q n _ _ => kp b o (apart n) q, fun b o q n _ _ => ⟨o.slots, kp b o (apart n) q⟩, fun b o q n _ => ?_, fun b o q _ => ?_, fun b xs q => ?_, fun b o v q => ?_, fun b ps q => ⟨#[], ?_⟩⟩
    · rw [upd_ne (apart n), upd_ne (low q)]; exact n
    · by_cases hb : b = a
      · subst hb; exact ⟨_, hx⟩
      · exact ⟨o, kp b o hb q⟩
    · rw [upd_ne (at_ne e q exo_tup), upd_ne (ne_of_none q dfree)]; exact q
    · rw [upd_ne (at_ne e q exo_frz), upd_ne (ne_of_none q dfree)]; exact q
    · rw [upd_ne (at_ne e q exo_tbl), upd_ne (ne_of_none q dfree), q]; simp
  refine k dx _ dfree dne (I.un (t' := tk') U1 fun b o q => ?_)
  by_cases hb : b = a
  · subst hb; rw [upd_same] at q; cases q
    exact exo_ok hx
  · rw [upd_ne hb] at q
    by_cases hd : b = dx
    · subst hd; rw [upd_same] at q; cases q
      exact exd_ok hn (relO_put (fs := []) ry fun _ => True.intro)
    · rw [upd_ne hd] at q
      refine (I.hok b o q).stay (fun c v hc z => kp c v ?_ z) (fun c hc => ?_) (fun c xs hc => ?_)
      · rcases hc with rfl | hc
        · exact hb
        · exact at_ne e hc exo_own
      · rw [upd_ne (at_ne e hc exo_own), upd_ne (ne_of_none hc dfree)]; exact hc
      · rw [upd_ne (at_ne e hc exo_tup), upd_ne (ne_of_none hc dfree)]; exact hc
theorem ostG_old (T : OexG X.K C) (I : Inv X pins σ H s) (e : H a = some (exo a C (some dx))) (ed : H dx = some (exd dx fs)) (hl : fs.length ≤ 900) (hno : PySem.W.findIn X.K (.ref C) f = some none) (ry : RelV y u)
    (k : ∀ s', Inv X pins σ (upd H dx (exd dx ((f, y) :: fs))) s' → Q () s') : wpAny (model X.prog X.w) A (setAttr (.ref a) f u) Q E s := by
  obtain ⟨cd, hcd, hmr, hdc⟩ := T.look
  obtain ⟨t1, ho⟩ := exo_at I.hok e
  obtain ⟨mA, hns, rel⟩ := exd_at I.hok ed
  have win := within_of rel
  obtain ⟨oD, _, _, hoD, _, _⟩ := hns.count win
  obtain ⟨h0, gs, dr, tn, os⟩ := s
  refine PySem.W.set_plain I.kIn (ox := ⟨.ref C, some dx, .fields #[.ref t1, .none, .none, .none, .bool false, .none], #[]⟩) (od := some oD) ⟨ho, rfl, rfl, hoD⟩ T.sa ?_
  refine PySem.GEX.osa_more I.kIn ho hns win (by rw [List.length_map]; omega) hcd hmr hdc hno fun h' tk' kp hn => ?_
  have there : ∃ o, h'.get? dx = some o := by
    obtain ⟨o, _, _, e', _⟩ := hn
    exact ⟨o, e'⟩
  exact k _ (I.write (t' := tk') (x := dx) (e := dx) (o := exd dx ((f, y) :: fs)) (by rw [ed]; exact True.intro) (.inl rfl) kp there (exd_ok hn (relO_put ry rel)))
end
/-- self.f = e, self an error being made -/
def tOstG (K : PySem.W.Frag) (f : Str) (to te : TE) : TS := fun D σ H => te σ H fun y H1 => to σ H1 fun x H2 => ∃ a C : Addr, x = .ref a ∧ OexG K C ∧ PySem.W.findIn K (.ref C) f = some none ∧
  ((H2 a = some (exo a C none) ∧ ∀ dx, H2 dx = none → dx ≠ a → D.nx σ (upd (upd H2 dx (exd dx [(f, y)])) a (exo a C (some dx)))) ∨
    ∃ (dx : Addr) (fs : List (Str × V)), H2 a = some (exo a C (some dx)) ∧ H2 dx = some (exd dx fs) ∧ fs.length ≤ 900 ∧ D.nx σ (upd H2 dx (exd dx ((f, y) :: fs))))
section
variable {X : Cx} {o e : Expr} {es : List Expr} {to te : TE} {ta : TA} {f : Str} {p p' pos : Pos}
theorem ps_ostG (ho : PE X o to) (he : PE X e te) (hs : swapsWith e (some (.Attribute o f p')) pos.line X.env = pure false := by rfl) : PS X (.Assign [.Attribute o f p'] e pos) (tOstG X.K f to te) := by
  refine ⟨fun pins s σ H D I h => plainObj_wpAny_Assign_Attribute (thn (he.run pins s σ H _ I h) fun v s1 ⟨y, H1, I1, r1, q1⟩ => thn (ho.run pins s1 σ H1 _ I1 q1) fun u s2 ⟨x, H2, I2, r2, a, C, ex, T, hno, q⟩ => ?_) hs⟩
  subst ex
  cases (show u = Value.ref a from r2)
  rcases q with ⟨ea, q⟩ | ⟨dx, fs, ea, ed, hl, q⟩
  · exact ostG_new T I2 ea hno r1 fun dx _ n ne J => ⟨σ, _, J, q dx n ne⟩
  · exact ostG_old T I2 ea ed hl hno r1 fun _ J => ⟨σ, _, J, q⟩
/-- C(e, ..) -/
theorem pmk_oexG {CX : CXT} {x : Str} {C fI : Addr} {k : Nat} {sp : Sp} (T : OexG X.K C) (iC : PySem.W.findIn X.K (.ref C) "__init__" = some (some (.ref fI))) (tI : PySem.W.typeIn X.K (.ref fI) = some (.type "function"))
    (F1 : FnR X.prog X.w X.K X.mg X.base CX k fI sp) (hr : Room (k + 1) X.A) (hx : Passes CX X (fun _ _ _ => False)) (hg : Gl X x) (hm : X.mg x = some (.ref C)) (ha : PA X (e :: es) ta)
    (hdb : (x == ("__debug__" : Str)) = false := by decide) (he : starEach (e :: es) X.env = (false, eval e X.env) :: starEach es X.env := by rfl) (hpl : (backTo pos (starEach es X.env)).any (·.1) = false := by rfl) :
    PMk X (.Call (.Name x p) (e :: es) [] pos) (tMkO C sp [] ta) := by
  intro pins s σ H Q I h
  obtain ⟨B, nI, iI, bmB, nm, q, N, bs, bm, sn, sub, ab, col, dd, k0, k1, k2, k3, k5, _, BF, hC, hbm⟩ := T.cls
  refine wpAny_Call_Name_kw (ld_glob I hg hm ?_ hdb)
  refine PySem.W.callWith_K (h₀ := X.base) I.ok.mod.kin T.kC (thn (ha.run pos pins s σ H _ I h) fun us s1 ⟨vs, H1, I1, r1, hz, q1⟩ => ⟨I1.kIn, ?_⟩) he hpl
  show wpAny _ _ (call (.ref C) us) _ _ _
  obtain ⟨h0, gs, dr, tn, os⟩ := s1
  have up : h0.objs.size ≤ h0.objs.size + 1 := Nat.le_succ _
  have hq := q1 (h0.objs.size + 1) (I1.hok.fresh up)
  rw [List.append_nil] at hq
  have kk : ∀ b o, h0.get? b = some o → ((h0.push (PySem.W.kdv_tup us)).push (PySem.HandSPX.excO C h0.objs.size)).get? b = some o := fun b o z => Heap.get?_push_of_some _ (Heap.get?_push_of_some _ z)
  have there : ((h0.push (PySem.W.kdv_tup us)).push (PySem.HandSPX.excO C h0.objs.size)).get? (h0.objs.size + 1) = some (PySem.HandSPX.excO C h0.objs.size) := by heap_get
  have I2 : Inv X pins σ (upd H1 (h0.objs.size + 1) (exo (h0.objs.size + 1) C none)) ⟨(h0.push (PySem.W.kdv_tup us)).push (PySem.HandSPX.excO C h0.objs.size), gs, dr, tn, os⟩ := I1.laid (t' := tn) kk up (exo_ok there)
  have r2 : Vals (V.ref (h0.objs.size + 1) :: vs) (Value.ref (h0.objs.size + 1) :: us) := .cons rfl r1
  have hus : us.length ≤ sizeLine := by rw [← Paired.length r1, sizeLine_eq]; omega
  refine wpAny_call (PySem.HandSPX.call_own BF (fun Y => PySem.W.excTail_contains Y bm hbm) (I1.kIn _ _ hC) (PySem.W.looks_findIn I1.kIn iC) (fun self => PySem.W.bind_fn I1.kIn self tI) hus ?_)
  refine codeAny_mono (F1 _ X.stack _ _ (Value.ref (h0.objs.size + 1) :: us) _ _ (fun _ _ _ => False) (hr.make C us []) (I2.env0.make C us []) r2 hq) fun r s' hq' => ?_
  cases r with
  | error er => exact hx pins σ _ _ er s' I2 hq'
  | ok fl =>
    cases fl with
    | ret u =>
      obtain ⟨v, H2, os2, bare2, un2, hok2, rv, ev, d, fs, ea, ed, hd1, q2⟩ := hq'
      subst ev
      obtain ⟨h2, g2, d2, t2, os'⟩ := s'
      exact ⟨rv, mk_end (raises_own T.exC T.tyC) I1 up kk un2 hok2 os2 bare2 ea ed hd1 q2⟩
    | next => exact False.elim hq'
    | brk => exact False.elim hq'
    | cont => exact False.elim hq'
end
end L2
namespace U
open PySem PySem.Spec PyProof.Rows L2 StX
section
variable {P : Program} {w : World} {K : PySem.W.Frag} {mg : Str → Option Value} {base : Heap}
/-- a def that may raise -/
theorem FnAt.okX {x qual : Str} {st : Stmt} {f : Addr} {N ps : List Str} {k : Nat} {sp : Sp} (A : FnAt K x qual st f ps) (S : FnScope N ps (defScope st)) (len : ∀ vs H Q E, sp vs H Q E → vs.length = ps.length)
    (hbody : ∀ (cdv : Value) (A : Around) (outer : List Env) (s : Shared) (H : Hp) (vs : List V) (Q : VK) (E : XK), Room k (A.deeper (envOfC qual (defScope st) s.heap.objs.size f cdv)) → sp vs H Q E →
      ∃ t, PSs (cxOf (L2.CX P w) P w K mg base N qual (defScope st) f cdv A outer s H E) (defBody st) t ∧ t { nx := fun _ H' => Q .non H', rt := Q } (start N vs) H) : FnR P w K mg base (L2.CX P w) (k + 1) f sp := by
  obtain ⟨fd, F, B⟩ := A.ex
  have R := (F.okX (P := P) (w := w) (mg := mg) (base := base) S len hbody).raw B .nil
  exact R.imp fun vs H Q E h => by rw [List.append_nil]; exact h
end
/-- isinstance(e, c), e the error that the suite holds, with its dict -/
def rIsG (K : PySem.W.Frag) (D a dd : Addr) : List V → Hp → VK → Prop := fun xs H Q => ∃ (c : V) (cv : Value) (b : Bool) (fs : List (Str × V)), xs = [.ref a, c] ∧ (∀ u, RelV c u → u = cv) ∧ PySem.W.kitOne K (.ref D) cv = some b ∧ H dd = some (.xd fs) ∧ Q (.bl b) H
theorem call_isG {X : Cx} {a D dd : Addr} {oe : Obj} {pn : List (Addr × Obj)} (C : ExcC X.K D) (hz : Zc (.ref D) (some dd) oe) (hf : ∃ vs, oe.data = .fields vs) : CallR (X.suite a ((a, oe) :: pn)) (.builtin "isinstance") (rIsG X.K D a dd) := by
  intro pins s σ H xs us Q I r h
  obtain ⟨c, cv, b, fs, rfl, hcv, e, ed, q⟩ := h
  match us, r with
  | [_, _], .cons rx (.cons rt .nil) =>
    cases rx
    cases hcv _ rt
    obtain ⟨there, _⟩ := I.pin (a, oe) (List.mem_append.mpr (.inl List.mem_cons_self))
    obtain ⟨vs, hv⟩ := hf
    obtain ⟨mA, hns, _⟩ := I.hok dd _ ed
    obtain ⟨od, ho, _⟩ := lookIn_ns hns
    have J : PySem.W.InstAt s.heap a oe D (some od) := ⟨there, hz.1, by unfold PySem.W.notCls; rw [hv] <;> rfl, by rw [hz.2]; exact ho⟩
    have hcl : (PySem.W.clsIn X.K D).isSome = true := by
      obtain ⟨cd, hc, _⟩ := PySem.W.any_some C.hd
      rw [hc]; rfl
    exact PySem.W.kia_one (PySem.W.kitx_exc hcl C.hg C.hk C.hs C.ha C.hn C.ht C.hm) I.kIn J e (fun z => nomatch z) fun tk => ⟨.bl b, H, I.kept (t' := tk) fun _ _ z => z, rfl, q⟩
end U
namespace U
open PySem PySem.Spec PyProof.Rows L2 StX
end U
namespace U
open PySem PySem.Spec PyProof.Rows L2
/-! ### own errors with one or two fields -/
def spIni1 (C : Addr) (f : Str) : Sp := fun vs H Q _ => ∃ (a : Addr) (v : V), vs = [.ref a, v] ∧ H a = some (exo a C none) ∧ ∀ dx, H dx = none → dx ≠ a → Q .non (upd (upd H dx (exd dx [(f, v)])) a (exo a C (some dx)))
theorem mk_one {C : Addr} {f : Str} {v : V} {H : Hp} {Q : XK} (h : ∀ d, H d = none → Q (.ref C) (some d) (upd H d (.xd [(f, v)]))) :
    [v].length ≤ 1000 ∧ ∀ a, H a = none → spIni1 C f (.ref a :: ([v] ++ [])) (upd H a (exo a C none))
      (fun z H2 => z = .non ∧ ∃ (d : Addr) (fs : List (Str × V)), H2 a = some (exo a C (some d)) ∧ H2 d = some (exd d fs) ∧ H d = none ∧ Q (.ref C) (some d) (upd (del H2 a) d (.xd fs))) (fun _ _ _ => False) := by
  refine ⟨(by show 1 ≤ 1000; decide), fun a ha => ⟨a, v, rfl, upd_same, fun dx hd ne => ⟨rfl, dx, [(f, v)], upd_same, ?_, ?_, ?_⟩⟩⟩
  · rw [upd_ne ne, upd_same]
  · rw [upd_ne ne] at hd; exact hd
  · rw [upd_ne ne] at hd
    have e : upd (del (upd (upd (upd H a (exo a C none)) dx (exd dx [(f, v)])) a (exo a C (some dx))) a) dx (.xd [(f, v)]) = upd H dx (.xd [(f, v)]) := by
      funext b
      by_cases h1 : b = dx
      · subst h1; rw [upd_same, upd_same]
      · rw [upd_ne h1, upd_ne h1]
        by_cases h2 : b = a
        · subst h2
          rw [ha]
          unfold del
          simp
        · unfold del
          simp only [h2, if_false]
          rw [upd_ne h2, upd_ne h1, upd_ne h2]
    rw [e]
    exact h dx hd
end U
namespace U
open PySem PySem.Spec PyProof.Rows L2
/-- isinstance(e, c), e the error that the suite holds; its class told by the reading -/
def rIsH (K : PySem.W.Frag) (D a : Addr) (cls : Value) (d : Option Addr) : List V → Hp → VK → Prop := fun xs H Q => ∃ dd, cls = .ref D ∧ d = some dd ∧ rIsG K D a dd xs H Q
theorem call_isH {X : Cx} {a D : Addr} {cls : Value} {d : Option Addr} {oe : Obj} {pn : List (Addr × Obj)} (C : ExcC X.K D) (hz : Zc cls d oe) (hf : ∃ vs, oe.data = .fields vs) : CallR (X.suite a ((a, oe) :: pn)) (.builtin "isinstance") (rIsH X.K D a cls d) := by
  intro pins s σ H xs us Q I r h
  obtain ⟨dd, rfl, rfl, h⟩ := h
  exact call_isG C hz hf pins s σ H xs us Q I r h
end U
namespace U
open PySem PySem.Spec PyProof.Rows L2 StX
/-! ### defs that are called where no repr runs around them -/
def FnG (P : Program) (w : World) (K : PySem.W.Frag) (mg : Str → Option Value) (base : Heap) (CX : CXT) (k : Nat) (f : Addr) (sp : Sp) : Prop :=
  ∀ (A : Around) (outer : List Env) (s : Shared) (H : Hp) (us : List Value) (vs : List V) (Q : VK) (E : XK), A.guards = some [] → Room k A → Env0 P w K mg base A outer s H → Vals vs us → sp vs H Q E → codeAny (model P w) A (.call (.ref f) ⟨us, []⟩) (CR CX outer P w H s Q E) s
section
variable {P : Program} {w : World} {K : PySem.W.Frag} {mg : Str → Option Value} {base : Heap} {CX : CXT} {j k : Nat} {f : Addr} {sp sp' : Sp}
theorem FnG.mono (F : FnG P w K mg base CX j f sp) (h : j ≤ k) : FnG P w K mg base CX k f sp := fun A outer s H us vs Q E g hr => F A outer s H us vs Q E g (hr.mono h)
theorem FnG.imp (F : FnG P w K mg base CX k f sp) (h : ∀ vs H Q E, sp' vs H Q E → sp vs H Q E) : FnG P w K mg base CX k f sp' := fun A outer s H us vs Q E g hr e0 r z => F A outer s H us vs Q E g hr e0 r (h _ _ _ _ z)
/-- the body's walk, with what is around -/
theorem bodyG {x qual : Str} {st : Stmt} {fd : FuncData} {N ps : List Str} (F : Fun K x qual st f fd) (S : FnScope N ps (defScope st)) (len : ∀ vs H Q E, sp vs H Q E → vs.length = ps.length)
    (hbody : ∀ (cdv : Value) (A : Around) (outer : List Env) (s : Shared) (H : Hp) (vs : List V) (Q : VK) (E : XK), A.guards = some [] → Room k (A.deeper (envOfC qual (defScope st) s.heap.objs.size f cdv)) → sp vs H Q E →
      ∃ t, PSs (cxOf CX P w K mg base N qual (defScope st) f cdv A outer s H E) (defBody st) t ∧ t { nx := fun _ H' => Q .non H', rt := Q } (start N vs) H)
    (A : Around) (outer : List Env) (s : Shared) (H : Hp) (args : Args) (us : List Value) (vs : List V) (Q : VK) (E : XK) (g : A.guards = some []) (hr : Room (k + 1) A) (e0 : Env0 P w K mg base A outer s H) (hb : BindsTo s fd args (ps.zip us)) (r : Vals vs us) (hs : sp vs H Q E) :
    codeAny (model P w) A (.call (.ref f) args) (CR CX outer P w H s Q E) s := by
  obtain ⟨oc, od, kV, doc, pm, an, cdv, ct, osl, rfl, lk, hcd⟩ := F.ex
  have hl := len _ _ _ _ hs
  have kin : K.In s.heap := e0.mod.kin.keeps fun b o e => (e0.bs b o e).1
  have lim : s.heap.NoLimit := e0.mod.nolimit.keeps fun b o e => (e0.bs b o e).1
  have names : ∀ y ∈ ps.zip us, (defScope st).names.lookup y.1 = some .local ∨ ((defScope st).names.lookup y.1 = some .cell ∧ ((cellsFrom (s.heap.objs.size + 1) (defScope st).names []).lookup y.1).isSome = true) := by
    rintro ⟨n, v⟩ hy
    rcases S.par n (List.of_mem_zip hy).1 with q | q
    · exact .inl q
    · exact .inr ⟨q, PySem.W.cellsFrom_some _ _ _ (.inl q)⟩
  refine codeAny_call_function hr.depth (kin _ _ lk) rfl S.co S.gen rfl (PySem.W.codeRec_of kin hcd) (hb _ _ _ _ ?_)
  refine wpAny_newFunctionEnv_cells S.kind names fun env he s1 z => ?_
  subst he
  refine ⟨lim.keeps z.toInCall.keep, codeAny_func ?_⟩
  obtain ⟨t, ht, hq⟩ := hbody cdv A outer s H vs Q E g (hr.deeper _) hs
  have I : Inv (cxOf CX P w K mg base N qual (defScope st) f cdv A outer s H E) [] (start N vs) H s1 := inv_start S hr.hd e0 hl r z
  refine wpAny_mono (ht.run [] s1 (start N vs) H _ I hq) (fun fl s' h' => ?_) fun _ _ h' => h'
  match fl, h' with
  | .ret u, ⟨v, σ', H', J, rv, q⟩ => exact ⟨v, H', J.os, J.bare, J.base, J.hok, rv, q⟩
  | .next, ⟨σ', H', J, q⟩ => exact ⟨.non, H', J.os, J.bare, J.base, J.hok, rfl, q⟩
  | .brk, ⟨_, _, _, q⟩ => exact q.elim
  | .cont, ⟨_, _, _, q⟩ => exact q.elim
theorem FnAt.okG {x qual : Str} {st : Stmt} {N ps : List Str} (B : FnAt K x qual st f ps) (S : FnScope N ps (defScope st)) (len : ∀ vs H Q E, sp vs H Q E → vs.length = ps.length)
    (hbody : ∀ (cdv : Value) (A : Around) (outer : List Env) (s : Shared) (H : Hp) (vs : List V) (Q : VK) (E : XK), A.guards = some [] → Room k (A.deeper (envOfC qual (defScope st) s.heap.objs.size f cdv)) → sp vs H Q E →
      ∃ t, PSs (cxOf CX0 P w K mg base N qual (defScope st) f cdv A outer s H E).nox (defBody st) t ∧ t { nx := fun _ H' => Q .non H', rt := Q } (start N vs) H) : FnG P w K mg base CX0 (k + 1) f sp := by
  obtain ⟨fd, F, bi⟩ := B.ex
  intro A outer s H us vs Q E g hr e0 r hs
  have hl : (us ++ []).length = ps.length := by rw [List.append_nil, ← r.length]; exact len _ _ _ _ hs
  refine bodyG F S len (fun cdv A outer s H vs Q E g hr hs => ?_) A outer s H ⟨us, []⟩ us vs Q E g hr e0 ?_ r hs
  · obtain ⟨t, h, q⟩ := hbody cdv A outer s H vs Q E g hr hs
    exact ⟨t, h.nox, q⟩
  · have := bi s us (e0.mod.kin.keeps fun b o e => (e0.bs b o e).1) hl
    rw [List.append_nil] at this
    exact this
end
section
variable {X : Cx} {CX : CXT} {pins : List (Addr × Obj)} {σ : L2.St} {H : Hp} {s : Shared} {f : Addr} {k : Nat} {sp : Sp} {x : Str} {e : Expr} {es : List Expr} {t : TA} {pp pos : Pos}
theorem run_G {Q : VK} {us : List Value} {vs : List V} {E : XK} (F : FnG X.prog X.w X.K X.mg X.base CX k f sp) (g : X.A.guards = some []) (hr : Room k X.A) (hx : PassesAt CX X σ E) (I : Inv X pins σ H s) (r : Vals vs us) (h : sp vs H Q E) :
    codeAny (model X.prog X.w) X.A (.call (.ref f) ⟨us, []⟩) (fun r s' => match r with | .ok (.ret v) => EP X pins σ Q v s' | .ok _ => False | .error e => X.xe e s') s := by
  refine codeAny_mono (F X.A X.stack s H us vs Q E g hr I.env0 r h) fun z s' hq => ?_
  match z, hq with
  | .error er, hq => exact hx pins H s er s' I hq
  | .ok (.ret w), hq => exact I.after hq
  | .ok .next, hq => exact hq.elim
  | .ok .brk, hq => exact hq.elim
  | .ok .cont, hq => exact hq.elim
/-- x(e, ..), x such a def -/
theorem pe_callG {E : XK} (F : FnG X.prog X.w X.K X.mg X.base CX k f sp) (g : X.A.guards = some []) (hr : Room k X.A) (hk : PySem.W.keepIn X.K (.ref f) = true) (hg : Gl X x) (hm : X.mg x = some (.ref f)) (hx : Passes CX X E) (ha : PA X (e :: es) t) (hdb : (x == ("__debug__" : Str)) = false := by decide)
    (he : starEach (e :: es) X.env = (false, eval e X.env) :: starEach es X.env := by rfl) (hpl : (backTo pos (starEach es X.env)).any (·.1) = false := by rfl) : PE X (.Call (.Name x pp) (e :: es) [] pos) (tCallR sp E t) := by
  refine ⟨fun pins s σ H Q I h => wpAny_Call_Name_kw (ld_glob I hg hm ?_ hdb)⟩
  exact PySem.W.callWith_K (h₀ := X.base) I.ok.mod.kin hk (thn (ha.run pos pins s σ H _ I h) fun us s1 ⟨vs, H1, I1, r, q⟩ => ⟨I1.kIn, wpAny_call (run_G F g hr (fun pins H s e s' => hx pins σ H s e s') I1 r q)⟩) he hpl
/-! ### repr -/
/-! ### a dict of ints, shown -/
def dI (l : List (Int × Int)) : PyData := .dict (l.map fun p => (PyData.int p.1, PyData.int p.2))
end
end U
namespace U
open PySem PySem.Spec PyProof.Rows L2 StX
/-- what holds no other object -/
inductive Sc : V → PyData → Prop
  | non : Sc .non .none
  | bl (b : Bool) : Sc (.bl b) (.bool b)
  | int (i : Int) : Sc (.int i) (.int i)
  | str (x : Str) : Sc (.str x) (.str x)
def keyD : Key → PyData
  | .inl i => .int i
  | .inr x => .str x
theorem Sc.reads {h : Heap} {v : V} {d : PyData} {u : Value} (s : Sc v d) (r : RelV v u) : Reads h u d [] := by
  cases s with
  | non => cases r; exact .none
  | bl b => cases r; exact .bool b
  | int i => obtain ⟨t, rfl⟩ := r; exact .int i t
  | str x => obtain ⟨t, rfl⟩ := r; exact .str x t
theorem flat_reads {prog : Program} {w : World} {h : Heap} : ∀ {es : List DictEntry} {va : List (Key × Value)} {kvs : List (Key × V)} {ds : List PyData}, Pairs (mixKind prog w) es va → KV kvs va → Paired (fun kv d => Sc kv.2 d) kvs ds →
    ReadsAll h (es.map (·.key)) (kvs.map fun kv => keyD kv.1) [] ∧ ReadsAll h (es.map (·.val)) ds []
  | [], _, _, _, .nil, r, z => by
    cases r
    cases z
    exact ⟨.nil, .nil⟩
  | e :: es, _, _, _, .cons h1 h2 h3, r, z => by
    unfold KV at r
    cases r with
    | cons q r =>
      cases z with
      | cons zc z =>
        obtain ⟨g1, g2⟩ := flat_reads (h := h) h3 r z
        obtain ⟨q1, q2⟩ := q
        refine ⟨.cons (as := []) ?_ g1, .cons (as := []) ?_ g2⟩
        · show Reads h e.key (keyD _) []
          rw [q1]
          rcases keyIs_shape h1 with ⟨i, t, e1, e2⟩ | ⟨x, t, e1, e2⟩
          · rw [e1, e2]; exact .int i t
          · rw [e1, e2]; exact .str x t
        · show Reads h e.val _ []
          rw [h2]
          exact zc.reads q2
def flatD (kvs : List (Key × V)) (ds : List PyData) : PyData := .dict ((kvs.map fun kv => keyD kv.1).zip ds)
theorem dict_reads {X : Cx} {pins : List (Addr × Obj)} {σ : L2.St} {H : Hp} {s : Shared} {a : Addr} {kvs : List (Key × V)} {ds : List PyData} (I : Inv X pins σ H s) (ea : H a = some (.dK kvs)) (z : Paired (fun kv d => Sc kv.2 d) kvs ds) :
    ∃ as, Reads s.heap (.ref a) (flatD kvs ds) as ∧ sysModules ∉ as := by
  obtain ⟨_, ya, va, ra, o, es, ep, ho, hc, hd, _, hp, _⟩ := (show ObjOk X.prog X.w H s.heap a (.dK kvs) from I.hok a _ ea)
  obtain ⟨g1, g2⟩ := flat_reads (h := s.heap) hp ra z
  have lz : kvs.length = ds.length := Paired.length z
  have e1 : (((kvs.map fun kv => keyD kv.1).zip ds).map (·.1)) = kvs.map fun kv => keyD kv.1 := List.map_fst_zip (by rw [List.length_map, lz]; exact Nat.le_refl _)
  have e2 : (((kvs.map fun kv => keyD kv.1).zip ds).map (·.2)) = ds := List.map_snd_zip (by rw [List.length_map, lz]; exact Nat.le_refl _)
  refine ⟨a :: [] ++ [], .dict ho hc.1 hd (by rw [e1]; exact g1) (by rw [e2]; exact g2), ?_⟩
  simp only [List.append_nil, List.mem_singleton]
  intro e
  rw [← e] at ya
  simp at ya
section
variable {X : Cx} {CX : CXT} {k : Nat} {f C : Addr} {sp : Sp} {E : XK} {n : Nat} {g : Addr}
/-- repr(d), a dict of scalars -/
def rReprF : List V → Hp → VK → Prop := fun xs H Q => ∃ a kvs ds, xs = [.ref a] ∧ H a = some (.dK kvs) ∧ Paired (fun kv d => Sc kv.2 d) kvs ds ∧ (flatD kvs ds).showable = true ∧ (flatD kvs ds).depth ≤ 60 ∧ (flatD kvs ds).shown.length ≤ sizeLine ∧ Q (.str (flatD kvs ds).shown) H
theorem call_reprF (g : X.A.guards = some []) (hu : X.A.units + 64 < cLine) : CallR X (.builtin "repr") rReprF := by
  intro pins s σ H xs us Q I r h
  obtain ⟨a, kvs, ds, rfl, ea, z, hs, hdp, hz, q⟩ := h
  obtain ⟨u, rfl, ru⟩ := r.one
  cases (show u = Value.ref a from ru)
  obtain ⟨as, rd, hn⟩ := dict_reads I ea z
  exact repr_of_reads' rd hs (fun _ => hn) g (by omega) (fun _ _ e => e) (fun h' u tk hk => ⟨.str _, H, I.kept (t' := tk) hk, ⟨_, rfl⟩, q⟩) hz
/-- {d!r}, a dict of scalars -/
def tFmtF (te : TE) : TE := fun σ H Q => te σ H fun x H1 => ∃ a kvs ds, x = .ref a ∧ H1 a = some (.dK kvs) ∧ Paired (fun kv d => Sc kv.2 d) kvs ds ∧ (flatD kvs ds).showable = true ∧ (flatD kvs ds).depth ≤ 60 ∧ (flatD kvs ds).shown.length ≤ sizeLine ∧ Q (.str (flatD kvs ds).shown) H1
theorem pe_fmtF {e : Expr} {te : TE} {pos : Pos} (g : X.A.guards = some []) (hu : X.A.units + 64 < cLine) (he : PE X e te) : PE X (.FormattedValue e 114 none pos) (tFmtF te) := by
  refine ⟨fun pins s σ H Q I h => ?_⟩
  refine wpAny_FormattedValue_repr (thn (he.run pins s σ H _ I h) fun v s1 hv => ?_)
  obtain ⟨x, H1, I1, r1, a, kvs, ds, rfl, ea, z, hs, hdp, hz, q⟩ := hv
  cases (show v = Value.ref a from r1)
  obtain ⟨as, rd, hn⟩ := dict_reads I1 ea z
  refine pyReprObj_of_reads rd hs (fun _ => hn) g (by omega) (fun _ _ e => e) (fun h' u tk hk => ?_) hz
  have I2 : Inv X pins σ H1 { s1 with heap := h', toks := tk } := I1.kept (t' := tk) hk
  exact wpAny_formatField_str ⟨.str _, H1, I2, ⟨_, rfl⟩, q⟩ ⟨.str _, H1, I2.tok _, ⟨_, rfl⟩, q⟩ hz
/-- repr(x), x an instance with its own __repr__ -/
def rReprO (C : Addr) (sp : Sp) (E : XK) : List V → Hp → VK → Prop := fun xs H Q => ∃ a dx fs, xs = [.ref a] ∧ H a = some (.ins C dx fs) ∧ sp [.ref a] H (fun v H' => ∃ z : Str, v = .str z ∧ Q (.str z) H') E
theorem call_reprO (gd : X.A.guards = some []) (hs : PySem.W.findIn X.K (.ref C) "__repr__" = some (some (.ref g))) (hf : PySem.W.isFn X.K (.ref g) = true) (F : FnG X.prog X.w X.K X.mg X.base CX n g sp) (hr : Room (n + 1) X.A) (hx : Passes CX X E) : CallR X (.builtin "repr") (rReprO C sp E) := by
  intro pins s σ H xs us Q I r h
  obtain ⟨a, dx, fs, rfl, ea, q⟩ := h
  obtain ⟨u, rfl, ru⟩ := r.one
  cases (show u = Value.ref a from ru)
  obtain ⟨ox, od, J⟩ := ins_inst I ea
  obtain ⟨m, hF⟩ := I.fr
  refine PySem.W.repr_K (by have := hr.un; show X.A.units + 1 < cLine; omega) hF I.ok.mod.kin J hs hf ?_
  refine wpAny_call ?_
  refine codeAny_mono (F X.A.in1 X.stack s H [.ref a] [.ref a] _ E gd (Room.in1 hr) I.env0.in1 (.cons rfl .nil) q) fun z s' hq => ?_
  match z, hq with
  | .error er, hq => exact hx pins σ H s er s' I hq
  | .ok (.ret w), hq =>
    obtain ⟨v, H', I', rv, zt, ev, qz⟩ := I.after hq
    subst ev
    obtain ⟨tk, rfl⟩ := rv
    exact ⟨.str zt, H', I', ⟨tk, rfl⟩, qz⟩
  | .ok .next, hq => exact hq.elim
  | .ok .brk, hq => exact hq.elim
  | .ok .cont, hq => exact hq.elim
/-- x == y, x an instance of C, y a value of any known kind -/
def rEqV (K : PySem.W.Frag) (C : Addr) (sp : Sp) (E : XK) : R2 := fun x y H Q => ∃ a dx fs t, x = .ref a ∧ H a = some (.ins C dx fs) ∧ TyX K H y t ∧ PySem.W.notFirst K C t = true ∧ sp [x, y] H Q E
theorem op_eqV (hs : PySem.W.findIn X.K (.ref C) "__eq__" = some (some (.ref g))) (hf : PySem.W.isFn X.K (.ref g) = true) (F : FnR X.prog X.w X.K X.mg X.base CX n g sp) (hr : Room n X.A) (hx : Passes CX X E) : OpR X (compareOp .Eq) (rEqV X.K C sp E) := by
  intro pins s σ H x y v u Q I rx ry h
  obtain ⟨a, dx, vs, t, rfl, ha, ty, nf, q⟩ := h
  cases (show v = Value.ref a from rx)
  obtain ⟨ox, od, J⟩ := ins_inst I ha
  obtain ⟨Pq, Z, pq, _⟩ := kit_of I ry ty
  obtain ⟨m, hF⟩ := I.fr
  show wpAny _ _ (richCompare .Eq (.ref a) u) _ _ _
  refine PySem.W.cmp_K (op := .Eq) (tb := t) hr.units0 hF I.ok.mod.kin J (Z.ty _ _ I.kIn pq) nf hs hf ?_
  refine wpAny_mono (wpAny_call (run_fnR (us := [.ref a, u]) (vs := [.ref a, y]) F hr hx I (.cons rfl (.cons ry .nil)) q)) (fun w s' z => ?_) fun _ _ x => x
  obtain ⟨z', H', I', rz, qz⟩ := z
  exact SlX.cmpback rz ⟨z', H', I', rz, qz⟩
def rNeV (K : PySem.W.Frag) (C : Addr) (sp : Sp) (E : XK) : R2 := fun x y H Q => ∃ a dx fs t, x = .ref a ∧ H a = some (.ins C dx fs) ∧ TyX K H y t ∧ PySem.W.notFirst K C t = true ∧ sp [x, y] H (fun z H' => ∃ c, z = .bl c ∧ Q (.bl (!c)) H') E
theorem op_neV (oc : OwnC X.K C) (hne : PySem.W.findIn X.K (.ref C) "__ne__" = some (some (.builtin "object.__ne__"))) (hs : PySem.W.findIn X.K (.ref C) "__eq__" = some (some (.ref g))) (hf : PySem.W.isFn X.K (.ref g) = true) (F : FnR X.prog X.w X.K X.mg X.base CX n g sp)
    (hr : Room (n + 1) X.A) (hx : Passes CX X E) : OpR X (compareOp .NotEq) (rNeV X.K C sp E) := by
  intro pins s σ H x y v u Q I rx ry h
  obtain ⟨a, dx, vs, t, rfl, ha, ty, nf, q⟩ := h
  cases (show v = Value.ref a from rx)
  obtain ⟨ox, od, J⟩ := ins_inst I ha
  obtain ⟨Pq, Z, pq, _⟩ := kit_of I ry ty
  obtain ⟨m, hF⟩ := I.fr
  have hr1 : Room n X.A.in1 := Room.in1 hr
  refine PySem.W.my_ne_K (tb := t) (hu_of hr) hF I.ok.mod.kin J (Z.ty _ _ I.kIn pq) nf hne oc.cm hs hf ?_
  refine wpAny_mono (wpAny_call (SlX.run_at (us := [.ref a, u]) (ws := [.ref a, y]) F hr1 I.env0.in1 hx I (.cons rfl (.cons ry .nil)) q)) (fun w s' z => ?_) fun _ _ x => x
  obtain ⟨z', H', I', rz, c, ez, qz⟩ := z
  subst ez
  cases (show w = Value.bool c from rz)
  exact ⟨c, rfl, .bl (!c), H', I', rfl, qz⟩
end
end U
namespace U
open PySem PySem.Spec PyProof.Rows L2 StX
/-! ### the law's call, where no repr runs around it -/
section
variable {P : Program} {w : World} {K : PySem.W.Frag} {mg mb : Str → Option Value} {k : Nat} {fa sc : Addr} {sp : Sp} {s1 : Shared} {us : List Value} {ns : List Int}
/-- from an abstract heap that tracks at most the script -/
theorem law_core (inK : K.In s1.heap) (glob : s1.heap.Ns mainGlobals mg) (blt : s1.heap.Ns builtinsNs mb) (blt2 : ∀ x : Str, x ≠ "__name__" → mb x = bootBuiltins x) (lim : s1.heap.NoLimit) (gens : s1.gens = #[])
    (there : s1.heap.get? sc = some { cls := .type "list", data := .seq us.toArray }) (room : Room k callerA)
    (F : ∀ base : Heap, FnG P w K mg base CX0 k fa sp)
    (H : Hp) (only : Only H) (hok : HOk P w H s1.heap) (just : ∀ b, H b ≠ none → b = sc) (offK : H sc ≠ none → K.lookup sc = none)
    (prom : sp [.ref sc] H (fun v _ => v = .bl true) E0) :
    codeAny (model P w) callerA (.call (.ref fa) ⟨[.ref sc], []⟩) (fun r s' => r = .ok (.ret (.bool true)) ∧ OldK s1.heap s'.heap ∧ s'.os = s1.os ∧ AllBare s'.gens) s1 := by
  have isSc : ∀ {b : Addr} {u : HO}, H b = some u → b = sc := fun {b u} e => just b fun z => by rw [z] at e; cases e
  have free : ∀ {b : Addr} {o : Obj} {es : Array DictEntry} {ep : Nat}, s1.heap.get? b = some o → o.data = .dict es ep → H b = none := by
    intro b o es ep e d
    cases hb : H b with
    | none => rfl
    | some u =>
      have := isSc hb
      subst this
      rw [there] at e
      cases e
      exact absurd (show Data.seq us.toArray _ = Data.dict es ep from d) (by intro z; cases z)
  have spaces : ∀ {b : Addr} {m : Str → Option Value}, s1.heap.Ns b m → (hidT s1.heap H).Ns b m := by
    rintro b m ⟨o, es, ep, e, d, r⟩
    exact ⟨o, es, ep, hidT_get e (free e d), d, r⟩
  have inB : K.In (hidT s1.heap H) := by
    intro b o e
    refine hidT_get (inK b o e) ?_
    cases hb : H b with
    | none => rfl
    | some u =>
      have := isSc hb
      subst this
      have z := offK (by rw [hb]; intro z; cases z)
      rw [e] at z
      cases z
  have md : Mod K mg (hidT s1.heap H) := by
    obtain ⟨mc, l1, l2⟩ := lim
    exact ⟨inB, spaces glob, ⟨mb, spaces blt, blt2⟩, ⟨mc, spaces l1, l2⟩⟩
  have env : Env0 P w K mg (hidT s1.heap H) callerA [] s1 H := by
    refine ⟨rfl, md, fun b o e => of_hidT e, Nat.le_of_eq (hidT_size _ _), trivial, fun b hb => ?_, hok, .of_eq gens⟩
    exact absurd hb List.not_mem_nil
  refine codeAny_mono (F (hidT s1.heap H) callerA [] s1 H [.ref sc] [.ref sc] (fun v _ => v = .bl true) E0 rfl room env (.cons rfl .nil) prom) fun r s' h => ?_
  match r, h with
  | .error e, h => exact h.elim
  | .ok .next, h => exact h.elim
  | .ok .brk, h => exact h.elim
  | .ok .cont, h => exact h.elim
  | .ok (.ret u), ⟨v, H', os, bare, un, hok', rv, q⟩ =>
    subst q
    cases (show u = Value.bool true from rv)
    refine ⟨rfl, OldK.of_keep fun b o e => ?_, os, bare⟩
    cases hb : H b with
    | none => exact un.keep b o e hb (fun z => absurd z List.not_mem_nil) (by simp)
    | some u =>
      rcases only b with z | ⟨ob, xs, z⟩
      · rw [hb] at z
        cases z
      · have a1 := (hok b _ z).1
        have a2 := (hok' b _ (un.frzs b ob _ z)).1
        rw [e] at a1
        cases a1
        exact a2
theorem law_callG (inK : K.In s1.heap) (glob : s1.heap.Ns mainGlobals mg) (blt : s1.heap.Ns builtinsNs mb) (blt2 : ∀ x : Str, x ≠ "__name__" → mb x = bootBuiltins x) (lim : s1.heap.NoLimit) (gens : s1.gens = #[])
    (there : s1.heap.get? sc = some { cls := .type "list", data := .seq us.toArray }) (inS : IntsAre us ns) (len : ns.length ≤ sizeLine) (room : Room k callerA)
    (F : ∀ base : Heap, FnG P w K mg base CX0 k fa sp)
    (prom : ∀ H : Hp, SqL K H sc (ns.map V.int) → sp [.ref sc] H (fun v _ => v = .bl true) E0) :
    codeAny (model P w) callerA (.call (.ref fa) ⟨[.ref sc], []⟩) (fun r s' => r = .ok (.ret (.bool true)) ∧ OldK s1.heap s'.heap ∧ s'.os = s1.os ∧ AllBare s'.gens) s1 := by
  have rv := vals_ints inS
  have go := law_core (P := P) (w := w) (k := k) (fa := fa) (sp := sp) inK glob blt blt2 lim gens there room F
  cases hk : K.lookup sc with
  | some o =>
    have e := inK sc o hk
    rw [there] at e
    cases e
    refine go (fun _ => none) (fun _ => .inl rfl) (fun b u z => by cases (show (none : Option HO) = some u from z)) (fun b z => absurd rfl z) (fun z => absurd rfl z) (prom _ ?_)
    refine .inr ⟨_, us.toArray, _, hk, rfl, rfl, rfl, ?_, by simpa using rv⟩
    rw [List.size_toArray, inS.length]
    exact len
  | none =>
    have at_ : (fun b => if b = sc then some (HO.frz { cls := .type "list", data := .seq us.toArray } (.lst (ns.map V.int))) else none) sc = some (.frz { cls := .type "list", data := .seq us.toArray } (.lst (ns.map V.int))) := if_pos rfl
    refine go (fun b => if b = sc then some (.frz { cls := .type "list", data := .seq us.toArray } (.lst (ns.map V.int))) else none) (fun b => ?_) (fun b u z => ?_) (fun b z => ?_) (fun _ => hk) (prom _ (.inl (.inr ⟨_, at_⟩)))
    · by_cases hb : b = sc
      · subst hb
        exact .inr ⟨_, _, at_⟩
      · exact .inl (if_neg hb)
    · by_cases hb : b = sc
      · subst hb
        rw [at_] at z
        cases z
        refine ⟨there, ?_, us, _, rv, there⟩
        rw [List.length_map]
        exact len
      · have no := (if_neg hb).symm.trans z
        cases no
    · refine Classical.byContradiction fun hb => z (if_neg hb)
end
/-- the goal that k_head leaves, from the law's promise -/
theorem walkG {l : PySem.W.OpenLaw} {n k : Nat} {q : Program} {loose : List Str} {XP : (Str → Option Value) → Heap → Prop} {YP : World → Heap → Prop} {d : DefRec} {K : Params → PySem.W.Frag} {sp : PySem.W.Frag → Sp}
    (hn : l.most = some n) (hn2 : n ≤ sizeLine) (hdf : d.params.defaults = []) (room : Room k callerA) (hY : ∀ (w : World) (h : Heap), YP w h → (K w.params).In h)
    (F : ∀ (w : World) (mg : Str → Option Value) (fa : Addr) (h : Heap), (K w.params).In h → h.Ns mainGlobals mg → mg d.name = some (.ref fa) → ∀ base : Heap, FnG l.prog w (K w.params) mg base CX0 k fa (sp (K w.params)))
    (prom : ∀ (K : PySem.W.Frag) (H : Hp) (a : Addr) (ns : List Int), ns.length ≤ n → SqL K H a (ns.map V.int) → sp K [.ref a] H (fun v _ => v = .bl true) E0) :
    PySem.W.WalkO q loose XP YP l.row.toRowW d [] (fun f vs => PySem.call f vs) := by
  refine Att.attach_call hn hdf fun w s0 s1 mg mb fa o pm cd doc a vs ns G Y ho hd hcd hmg hobj hints hlen hg => ?_
  have inK := hY w _ Y
  exact law_callG inK G.T.g G.T.b G.T.builtins G.T.nolimit hg hobj hints (Nat.le_trans hlen hn2) room (F w mg fa _ inK G.T.g hmg) fun H hS => prom _ H a ns hlen hS
end U
namespace U
open PySem PySem.Spec PyProof.Rows L2 StX
theorem callR_or {X : Cx} {f : Value} {r1 r2 : List V → Hp → VK → Prop} (h1 : CallR X f r1) (h2 : CallR X f r2) : CallR X f (fun xs H Q => r1 xs H Q ∨ r2 xs H Q) := by
  intro pins s σ H xs us Q I r h
  rcases h with h | h
  · exact h1 pins s σ H xs us Q I r h
  · exact h2 pins s σ H xs us Q I r h
/-! ### defs called while an exception is handled -/
end U
namespace U
open PySem PySem.Spec PyProof.Rows L2 StX
end U
namespace U
open PySem PySem.Spec PyProof.Rows L2 StX
end U
namespace U
open PySem PySem.Spec PyProof.Rows L2 StX PySem.W
end U
namespace U
open PySem PySem.Spec PyProof.Rows L2 StX
/-! ### x op i, the class's own, i an int -/
/-! ### list(d.items()), the dict locked or not -/
def rItemsR : V → Hp → VK → Prop := fun x H Q => ∃ (d : Addr) (kvs : List (Key × V)), x = .ref d ∧ Rd H d (.dK kvs) ∧
  ∀ (H' : Hp) (p : Addr) (ts : List Addr), (∀ b o, H b = some o → H' b = some o) → H p = none → (∀ t ∈ ts, H t = none) → p ∉ ts → H' p = some (.lst (ts.map V.ref)) → Paired (fun (t : Addr) (q : Key × V) => H' t = some (.tup [kV q.1, q.2])) ts kvs → Q (.ref p) H'
def tItemsR (te : TE) : TE := fun σ H Q => te σ H fun x H1 => rItemsR x H1 Q
theorem pe_itemsR {X : Cx} {e : Expr} {te : TE} {p apos cpos pos : Pos} (hc : X.calm = true) (he : PE X e te) (hg : Gl X "list") (hm : X.mg "list" = none) (hv : bootBuiltins "list" = some (.type "list")) (hbase : attributeBase e "items" X.env (eval e X.env) = eval e X.env := by rfl) (hline : (apos.endLine == cpos.line) = true := by rfl)
    (hs : starEach [.Call (.Attribute e "items" apos) [] [] cpos] X.env = (false, eval (.Call (.Attribute e "items" apos) [] [] cpos) X.env) :: starEach [] X.env := by rfl) :
    PE X (.Call (.Name "list" p) [.Call (.Attribute e "items" apos) [] [] cpos] [] pos) (tItemsR te) := by
  refine ⟨fun pins s σ H Q I hq => wpAny_Call_Name_kw (ld_blt I hg hm hv (PyProof.Rows.callWith_type1 ?_ hs rfl))⟩
  rw [hs]
  show wpAny _ _ (spliced ((false, eval (.Call (.Attribute e "items" apos) [] [] cpos) X.env) :: backTo pos (starEach [] X.env))) _ _ s
  refine Calls.spliced_cons (wpAny_Call_method (T := "dict") (id := "dict.items") hbase rfl hline F.plainAttrs_dict F.slot_dict_items F.type_dict_items (thn (he.run pins s σ H _ I hq) fun u s1 ⟨x, H1, I1, rx, d, kvs, ex, hd, q⟩ => ?_))
  subst ex
  obtain rfl : u = Value.ref d := rx
  obtain ⟨hz, hs0, vs, kv, hdo⟩ := dk_rd I1.hok hd
  obtain ⟨ep, hat⟩ := hdo.dictAt
  have lk : kvs.length = vs.length := Paired.length kv
  have I2 : Inv X pins σ H1 { s1 with heap := s1.heap.push { cls := .type "dict_items", data := .fields #[.ref d] } } := I1.kept (t' := s1.toks) fun b ob q => Heap.get?_push_of_some _ q
  refine ⟨hdo.typeIs, hdo.mapOf.noDict, ?_⟩
  show wpAny _ _ (callWith cpos (.builtin "dict.items") [.ref d] [] []) _ X.xe s1
  refine method_meetsIn F.slot_dict_items F.entry_dict_items rfl (PySem.evalArgs_none ⟨rfl, hdo.typeIs, F.args_dict_items_1 _, _, meets_dict_items (mixKind X.prog X.w) d hs0, ⟨vs, hdo⟩, Calls.spliced_nil ?_⟩)
  refine PySem.W.kdx_call (knd := mixKind X.prog X.w) (kvs := vs) (ep := ep) (I1.ok.hd hc) ⟨_, Heap.get?_push_size _ rfl, rfl, rfl⟩ (hat.push _) (by omega) fun h' tk acc c as hk hS hl hG hacc => ?_
  obtain ⟨H', k1, k2, k3, k4, k5, k6, J⟩ := LiI.items_laid (tk := tk) I2 hz kv hk hS hl hG hacc
  exact ⟨.ref _, H', J, rfl, q H' _ as k1 k2 k3 k4 k5 k6⟩
end U
namespace U
open PySem PySem.Spec PyProof.Rows L2
/-! ### several clauses 'except x as n' -/
end U
namespace U
open PySem L2
/-! ### facts of heaps, for the search -/
theorem carry {H H' : Hp} {a : Addr} {o : HO} (s : L2.Same H H') (h : H a = some o) : H' a = some o := s a o h
theorem carryNew {H : Hp} {p a : Addr} {o u : HO} (hp : H p = none) (h : H a = some u) : upd H p o a = some u := (Same.new hp) a u h
theorem freeUp {H : Hp} {p q : Addr} {o : HO} (h : upd H q o p = none) : H p = none := by
  by_cases e : p = q
  · subst e; rw [upd_same] at h; cases h
  · rw [upd_ne e] at h; exact h
theorem freeVia {H H' : Hp} {p : Addr} (s : L2.Same H H') (h : H' p = none) : H p = none := s.free h
theorem sameUp {H H1 : Hp} {p : Addr} {o : HO} (hp : H1 p = none) (s : L2.Same H H1) : L2.Same H (upd H1 p o) := s.trans (Same.new hp)
theorem sameVia {H H1 H2 : Hp} (b : L2.Same H1 H2) (a : L2.Same H H1) : L2.Same H H2 := a.trans b
theorem upd_facts {H H1 : Hp} {p : Addr} {o : HO} (h : upd H p o = H1) (n : H p = none) : L2.Same H H1 ∧ H1 p = some o := by
  subst h
  exact ⟨Same.new n, upd_same⟩
theorem nil_le : ([] : List V).length ≤ sizeLine := by decide
theorem one_le {a : V} : [a].length ≤ sizeLine := by show 1 ≤ sizeLine; decide
theorem two_le {a b : V} : [a, b].length ≤ sizeLine := by show 2 ≤ sizeLine; decide
theorem three_le {a b c : V} : [a, b, c].length ≤ sizeLine := by show 3 ≤ sizeLine; decide
theorem lt_line {n : Nat} (h : n ≤ 100000) : n < sizeLine := Nat.lt_of_le_of_lt h (by decide)
end U
namespace U
open PySem PySem.Spec PyProof.Rows L2 GQ PySem.SeqAt MeetsSeq MeetsSeq2 MeetsSeq3 SeqRoads2
open AutoSeq1 (wpAny_loadPart')
/-- len(o) by the own __len__ -/
def rLenO (C : Addr) (sp : Sp) (E : XK) : List V → Hp → VK → Prop := fun xs H Q => ∃ a dx fs, xs = [.ref a] ∧ H a = some (.ins C dx fs) ∧ sp [.ref a] H (fun v H' => ∃ i : Int, v = .int i ∧ 0 ≤ i ∧ i < 2 ^ 63 ∧ Q (.int i) H') E
theorem call_lenO {X : Cx} {CX : CXT} {n : Nat} {C g : Addr} {sp : Sp} {E : XK} (hs : PySem.W.findIn X.K (.ref C) "__len__" = some (some (.ref g))) (hf : PySem.W.isFn X.K (.ref g) = true) (F : FnR X.prog X.w X.K X.mg X.base CX n g sp) (hr : Room (n + 1) X.A) (hx : Passes CX X E) : CallR X (.builtin "len") (rLenO C sp E) := by
  intro pins s σ H xs us Q I r h
  obtain ⟨a, dx, fs, rfl, ha, q⟩ := h
  obtain rfl := Vals.ref1 r
  obtain ⟨ox, od, J⟩ := ins_inst I ha
  obtain ⟨m, hF⟩ := I.fr
  refine PySem.W.len_K hF I.ok.mod.kin J hs hf ?_
  refine wpAny_mono (wpAny_call (SlX.run_at (us := [.ref a]) (ws := [.ref a]) F (Room.in1 hr) I.env0.in1 hx I (.cons rfl .nil) q)) (fun w s' z => ?_) fun _ _ x => x
  obtain ⟨z', H', I', rz, i, ez, i0, i1, qz⟩ := z
  subst ez
  obtain ⟨t, ew⟩ : ∃ t, w = Value.int i t := rz
  subst ew
  exact ⟨⟨i0, i1⟩, .int i, H', I'.tok _, ⟨_, rfl⟩, qz⟩
/-! ### defs with a star parameter -/
structure StarAt (K : PySem.W.Frag) (x qual : Str) (st : Stmt) (f : Addr) (ps : List Str) (pv : Str) : Prop where
  ex : ∃ fd, Fun K x qual st f fd ∧ ∀ us rest : List Value, us.length = ps.length → bindArgs fd ⟨us ++ rest, []⟩ = (newTuple rest >>= fun t => pure (ps.zip us ++ [(pv, t)]))
theorem StarAt.kp {K : PySem.W.Frag} {x qual : Str} {st : Stmt} {f : Addr} {ps : List Str} {pv : Str} (A : StarAt K x qual st f ps pv) : PySem.W.keepIn K (.ref f) = true := by
  obtain ⟨_, F, _⟩ := A.ex
  exact F.kp
/-- what is asked of the arguments: the named ones, then a new tuple of the rest -/
def spStar (n : Nat) (sp : Sp) : Sp := fun vs H Q E => ∃ ws rest, vs = ws ++ rest ∧ ws.length = n ∧ rest.length ≤ sizeLine ∧ ∀ p, H p = none → sp (ws ++ [V.ref p]) (upd H p (.tup rest)) Q E
section
variable {P : Program} {w : World} {K : PySem.W.Frag} {mg : Str → Option Value} {base : Heap} {x qual pv : Str} {st : Stmt} {f : Addr} {N ps : List Str} {k : Nat} {sp : Sp}
theorem StarAt.okX (B : StarAt K x qual st f ps pv) (S : FnScope N (ps ++ [pv]) (defScope st))
    (walk : ∀ (cdv : Value) (A : Around) (outer : List Env) (s : Shared) (H : Hp) (vs : List V) (Q : VK) (E : XK), Room k (A.deeper (envOfC qual (defScope st) s.heap.objs.size f cdv)) → sp vs H Q E →
      ∃ t, PSs (cxOf (L2.CX P w) P w K mg base N qual (defScope st) f cdv A outer s H E) (defBody st) t ∧ t { nx := fun _ H' => Q .non H', rt := Q } (start N vs) H) : FnR P w K mg base (L2.CX P w) (k + 1) f (spStar ps.length sp) := by
  obtain ⟨fd, F, hb⟩ := B.ex
  obtain ⟨oc, od, kV, doc, pm, an, cdv, ct, osl, rfl, lk, hcd⟩ := F.ex
  exact StX.fn_star lk hcd S StX.cxUp hb fun A outer s H vs Q E hr h => walk cdv A outer s H vs Q E hr h
theorem StarAt.ok (B : StarAt K x qual st f ps pv) (S : FnScope N (ps ++ [pv]) (defScope st))
    (walk : ∀ (cdv : Value) (A : Around) (outer : List Env) (s : Shared) (H : Hp) (vs : List V) (Q : VK) (E : XK), Room k (A.deeper (envOfC qual (defScope st) s.heap.objs.size f cdv)) → sp vs H Q E →
      ∃ t, PSs (cxOf CX0 P w K mg base N qual (defScope st) f cdv A outer s H E).nox (defBody st) t ∧ t { nx := fun _ H' => Q .non H', rt := Q } (start N vs) H) : FnR P w K mg base CX0 (k + 1) f (spStar ps.length sp) := by
  obtain ⟨fd, F, hb⟩ := B.ex
  obtain ⟨oc, od, kV, doc, pm, an, cdv, ct, osl, rfl, lk, hcd⟩ := F.ex
  refine StX.fn_star lk hcd S StX.cxUp_none hb fun A outer s H vs Q E hr h => ?_
  obtain ⟨t, a, b⟩ := walk cdv A outer s H vs Q E hr h
  exact ⟨t, a.nox, b⟩
end
/-! ### == by an own __eq__, inside lists and tuples -/
end U
namespace U
open PySem PySem.Spec PyProof.Rows L2 StX LamX
/-! ### defs with lambdas: the code object's place is told -/
structure CodeAt (K : PySem.W.Frag) (x qual : Str) (st : Stmt) (f c : Addr) (ps : List Str) : Prop where
  ex : ∃ (oc : Value) (od : Option Addr) (kV doc pm : Value) (an : Option Addr) (ct : Value) (osl : Array (Option Value)),
    K.lookup f = some ⟨oc, od, .func (PySem.W.fnOf x qual (defArgs st) (defBody st) (defScope st) .none kV doc pm an (.ref c) ct), osl⟩ ∧ PySem.W.codeIn K (.ref c) qual = true ∧ Binds K (PySem.W.fnOf x qual (defArgs st) (defBody st) (defScope st) .none kV doc pm an (.ref c) ct) ps []
section
variable {P : Program} {w : World} {K : PySem.W.Frag} {mg : Str → Option Value} {base : Heap} {k : Nat} {f c : Addr} {sp : Sp} {x qual : Str} {st : Stmt} {N ps : List Str}
theorem CodeAt.okG (B : CodeAt K x qual st f c ps) (S : FnScope N ps (defScope st)) (len : ∀ vs H Q E, sp vs H Q E → vs.length = ps.length)
    (walk : ∀ (A : Around) (outer : List Env) (s : Shared) (H : Hp) (vs : List V) (Q : VK) (E : XK), A.guards = some [] → Room k (A.deeper (envOfC qual (defScope st) s.heap.objs.size f (.ref c))) → sp vs H Q E →
      ∃ t, PSs (cxOf CX0 P w K mg base N qual (defScope st) f (.ref c) A outer s H E).nox (defBody st) t ∧ t { nx := fun _ H' => Q .non H', rt := Q } (start N vs) H) : FnG P w K mg base CX0 (k + 1) f sp := by
  obtain ⟨oc, od, kV, doc, pm, an, ct, osl, lk, hcd, bi⟩ := B.ex
  intro A outer s H us vs Q E g hr e0 r hs
  have hl := len _ _ _ _ hs
  have kin : K.In s.heap := e0.mod.kin.keeps fun b o e => (e0.bs b o e).1
  have lim : s.heap.NoLimit := e0.mod.nolimit.keeps fun b o e => (e0.bs b o e).1
  have names : ∀ y ∈ ps.zip us, (defScope st).names.lookup y.1 = some .local ∨ ((defScope st).names.lookup y.1 = some .cell ∧ ((cellsFrom (s.heap.objs.size + 1) (defScope st).names []).lookup y.1).isSome = true) := by
    rintro ⟨n, v⟩ hy
    rcases S.par n (List.of_mem_zip hy).1 with q | q
    · exact .inl q
    · exact .inr ⟨q, PySem.W.cellsFrom_some _ _ _ (.inl q)⟩
  have hb : BindsTo s (PySem.W.fnOf x qual (defArgs st) (defBody st) (defScope st) .none kV doc pm an (.ref c) ct) ⟨us, []⟩ (ps.zip us) := by
    have := bi s us kin (by rw [List.append_nil, ← r.length]; exact hl)
    rw [List.append_nil] at this
    exact this
  refine codeAny_call_function hr.depth (kin _ _ lk) rfl S.co S.gen rfl (PySem.W.codeRec_of kin hcd) (hb _ _ _ _ ?_)
  refine wpAny_newFunctionEnv_cells S.kind names fun env he s1 z => ?_
  subst he
  refine ⟨lim.keeps z.toInCall.keep, codeAny_func ?_⟩
  obtain ⟨t, ht, hq⟩ := walk A outer s H vs Q E g (hr.deeper _) hs
  have I : Inv (cxOf CX0 P w K mg base N qual (defScope st) f (.ref c) A outer s H E) [] (start N vs) H s1 := inv_start S hr.hd e0 hl r z
  refine wpAny_mono (ht.nox.run [] s1 (start N vs) H _ I hq) (fun fl s' h' => ?_) fun _ _ h' => h'
  match fl, h' with
  | .ret u, ⟨v, σ', H', J, rv, q⟩ => exact ⟨v, H', J.os, J.bare, J.base, J.hok, rv, q⟩
  | .next, ⟨σ', H', J, q⟩ => exact ⟨.non, H', J.os, J.bare, J.base, J.hok, rfl, q⟩
  | .brk, ⟨_, _, _, q⟩ => exact q.elim
  | .cont, ⟨_, _, _, q⟩ => exact q.elim
end
/-! ### the law's call, tables tracked -/
/-! ### what a lambda's caller makes of its exceptions -/
/-! ### heaps that grow but for the tables -/
end U
namespace U
open PySem PySem.Spec PyProof.Rows L2 StX LamX
section
variable {X : Cx} {CX : CXT} {k : Nat} {f C : Addr} {sp : Sp} {E : XK} {x : Str} {p pos : Pos} {e : Expr} {es : List Expr} {t : TA}
/-- C(e, ..) in a try: what __init__ raises is told by the slots -/
def tMakeRS (C : Addr) (sp : Sp) (E : L2.St → XK) (t : TA) : TE := fun σ H Q => t σ H fun vs H1 => ∀ x dx, H1 x = none → H1 dx = none → dx ≠ x →
  sp (V.ref x :: vs) (upd (upd H1 dx (.own x)) x (.ins C dx [])) (fun v H2 => v = .non ∧ Q (.ref x) H2) (E σ)
theorem pe_makeRS {E : L2.St → XK} (M : Mk X.K C f) (F : FnR X.prog X.w X.K X.mg X.base CX k f sp) (hr : Room (k + 1) X.A) (hg : Gl X x) (hm : X.mg x = some (.ref C)) (hx : ∀ σ, PassesAt CX X σ (E σ)) (ha : PA X (e :: es) t) (hdb : (x == ("__debug__" : Str)) = false := by decide)
    (he : starEach (e :: es) X.env = (false, eval e X.env) :: starEach es X.env := by rfl) (hpl : (backTo pos (starEach es X.env)).any (·.1) = false := by rfl) : PE X (.Call (.Name x p) (e :: es) [] pos) (tMakeRS C sp E t) := by
  refine ⟨fun pins s σ H Q I h => ?_⟩
  refine wpAny_Call_Name_kw (ld_glob I hg hm ?_ hdb)
  refine PySem.W.callWith_K (h₀ := X.base) I.ok.mod.kin M.kp (thn (ha.run pos pins s σ H _ I h) fun us s1 ⟨vs, H1, I1, r, q⟩ => ⟨I1.kIn, ?_⟩) he hpl
  have q2 := q (s1.heap.objs.size + 1) s1.heap.objs.size (I1.hok.fresh (Nat.le_succ _)) (I1.hok.fresh (Nat.le_refl _)) (Nat.ne_of_lt (Nat.lt_succ_self _))
  have J := Inv.made (C := C) I1
  have rr : Vals (V.ref (s1.heap.objs.size + 1) :: vs) (Value.ref (s1.heap.objs.size + 1) :: us) := .cons rfl r
  refine wpAny_call (make_map (f := f) I1.kIn M.makes M.init (beq_iff_eq.mp M.fn) (codeAny_mono (F _ X.stack _ _ (Value.ref (s1.heap.objs.size + 1) :: us) _ _ (E σ) (hr.make C us []) (J.env0.make C us []) rr q2) fun z s' hz => ?_))
  match z, hz with
  | .error er, hz => exact hx σ pins _ _ er s' J hz
  | .ok (.ret u), hz =>
    obtain ⟨v, H', J', rv, ev, q3⟩ := J.after hz
    subst ev
    exact ⟨rv, ⟨V.ref (s1.heap.objs.size + 1), H', J', rfl, q3⟩⟩
  | .ok .next, hz => exact False.elim hz
  | .ok .brk, hz => exact False.elim hz
  | .ok .cont, hz => exact False.elim hz
end
end U
namespace U
open PySem PySem.Spec PyProof.Rows L2
/-! ### x not in a tuple, data of any depth -/
end U
namespace U
open PySem PySem.Spec PyProof.Rows L2
/-! ### dicts of ints in a list: in, not in, index -/
end U
namespace U
open PySem PySem.Spec PyProof.Rows L2 StX
end U
namespace U
open PySem PySem.Spec PyProof.Rows L2 StX NdefX
/-! ### a def of a class whose first statement is super().m(..) -/
/-- what is asked of the program around: the file of its code objects, super not hidden at the top -/
structure SupP (P : Program) (file : Str) : Prop where
  file : ((P.main.file : Str) == file) = true
  top : (P.main.scope.names.lookup ("super" : Str)).isSome = false
structure SupAt (K : PySem.W.Frag) (x qual : Str) (st : Stmt) (f c cc D : Addr) (ps : List Str) (file : Str) : Prop where
  ex : ∃ (oc : Value) (od : Option Addr) (kV doc pm : Value) (an : Option Addr) (ct : Value) (osl : Array (Option Value)),
    K.lookup f = some ⟨oc, od, .func (PySem.W.fnX x qual (defArgs st) (defBody st) (defScope st) [("__class__", cc)] .none kV doc pm an (.ref c) ct), osl⟩ ∧ PySem.W.codeIn K (.ref c) qual = true ∧ Binds K (PySem.W.fnX x qual (defArgs st) (defBody st) (defScope st) [("__class__", cc)] .none kV doc pm an (.ref c) ct) ps []
  code : ∃ (ccl : Value) (cdd : Option Addr) (vs : Array Value) (ccs : Array (Option Value)) (tf : Tok), K.lookup c = some ⟨ccl, cdd, .fields vs, ccs⟩ ∧ vs[2]? = some (.str file tf)
  cell : ∃ (cl : Value) (cld : Option Addr) (csl : Array (Option Value)), K.lookup cc = some ⟨cl, cld, .cell (some (.ref D)), csl⟩
  cls : ∃ cd, PySem.W.clsIn K D = some cd
  pos : ((defArgs st).posonlyargs ++ (defArgs st).args).head?.map (·.arg) = ps[0]?
  nosuper : PySem.W.nsIn K mainGlobals "super" = some none
  noop : PySem.W.nsIn K cStatics "thirdparty.any" = some none
  scS : (defScope st).names.lookup ("super" : Str) = some .globalImplicit
  scC : (defScope st).names.lookup ("__class__" : Str) = some .free
/-- the method that super().m finds, for an instance of the class at C -/
structure SupM (K : PySem.W.Frag) (C D : Addr) (m : Str) (f2 : Addr) : Prop where
  sub : PySem.W.mroIn K C (.ref D) = some true
  at_ : PySem.W.ks_superIn K C D m = some (some (.ref f2))
  ty : PySem.W.typeIn K (.ref f2) = some (.type "function")
  fi : PySem.W.fnIn K f2 = true
  cl : (m == ("__class__" : Str)) = false
section
variable {X : Cx} {pins : List (Addr × Obj)} {σ : L2.St} {H : Hp} {s : Shared} {C D dx x f2 : Addr} {fs : List (Str × V)} {m : Str}
/-- super().m(..) run within the def's own code -/
theorem run_super {CX : CXT} {k2 : Nat} {sp2 : Sp} {Q : VK} {E : XK} {t : TA} {body : List Stmt} {p0 p1 apos pos epos : Pos} {e : Expr} {qual : Str} {st : Stmt} {name : Str} {f c cc : Addr} {ps : List Str} {file s0 : Str}
    (B : SupAt X.K name qual st f c cc D ps file) (hP : SupP X.prog file) (M : SupM X.K C D m f2) (F : FnR X.prog X.w X.K X.mg X.base CX k2 f2 sp2) (hr : Room k2 X.A) (hx : Passes CX X E)
    (hsc : X.env.scope = defScope st) (hfu : X.env.func = some f) (hco : X.env.code = .ref c) (hcl : X.env.cells.lookup ("__class__" : Str) = some cc) (hps : ps[0]? = some s0) (hN : X.N[0]? = some s0) (hloc : X.env.scope.names.lookup s0 = some .local)
    (I : Inv X pins σ H s) (hv : σ[0]? = some (some (.ref x))) (ea : H x = some (.ins C dx fs)) (ha : PA X [e] t)
    (h : t σ H fun vs H1 => sp2 (.ref x :: vs) H1 Q E)
    (hint : interactive X.env = false) (hsw : swapsWith (.Call (.Attribute (.Call (.Name "super" p0) [] [] p1) m apos) [e] [] pos) none epos.line X.env = pure false)
    (hst : starEach [e] X.env = [(false, eval e X.env)]) (pl : Sem Bool)
    (he : eval (.Call (.Attribute (.Call (.Name "super" p0) [] [] p1) m apos) [e] [] pos) X.env = (do
      let ov ← attributeBase (.Call (.Name "super" p0) [] [] p1) m X.env (eval (.Call (.Name "super" p0) [] [] p1) X.env)
      standAt apos.atName
      let (f, first) ← holding [ov] (getMethod ov m pl)
      callWith pos f first (backTo pos (starEach [e] X.env)) [])) :
    PySem.wpAt (model X.prog X.w) X.A (.func body X.env) (exec (.Expr (.Call (.Attribute (.Call (.Name "super" p0) [] [] p1) m apos) [e] [] pos) epos) X.env)
      (fun fl s' => fl = .next ∧ ∃ v H2, Inv X pins σ H2 s' ∧ Q v H2) X.xe s := by
  obtain ⟨oc, od, kV, doc, pm, an, ct, osl, lk, hcd, bi⟩ := B.ex
  obtain ⟨ccl, cdd, vs2, ccs, tf, hcode, hvs⟩ := B.code
  obtain ⟨cl0, cld, csl, hcell⟩ := B.cell
  obtain ⟨cdD, hD⟩ := B.cls
  have KX := I.kIn
  obtain ⟨oD, hD1, hD2⟩ : ∃ oD, s.heap.get? D = some oD ∧ oD.data = .cls cdD := by
    unfold PySem.W.clsIn at hD
    split at hD
    · rename_i c d cd' sl ho
      cases hD
      exact ⟨_, KX _ _ ho, rfl⟩
    · cases hD
  obtain ⟨ar, har, har2⟩ : ∃ ar : Arg, ((defArgs st).posonlyargs ++ (defArgs st).args).head? = some ar ∧ ar.arg = s0 := by
    have := B.pos
    rw [hps] at this
    cases z : ((defArgs st).posonlyargs ++ (defArgs st).args).head? with
    | none => rw [z] at this; cases this
    | some ar => rw [z] at this; exact ⟨ar, rfl, Option.some.inj this⟩
  obtain ⟨mA, O, _, _, _, _⟩ := ins_get I.hok ea
  obtain ⟨odx, J, _⟩ := O.look
  refine PySem.ks_wpAt_Expr_any ?_ hint hsw
  refine PySem.ks_wpAt_MethodCall (pl := pl) ?_ he
  refine PySem.ks_wpAt_super_base (env := X.env) (fd := PySem.W.fnX name qual (defArgs st) (defBody st) (defScope st) [("__class__", cc)] .none kV doc pm an (.ref c) ct) (by show X.env.scope.names.lookup _ = _; rw [hsc]; exact B.scS) (by show X.env.scope.names.lookup _ = _; rw [hsc]; exact B.scC) M.cl hfu (KX _ _ lk) rfl (ar := ar) har hco (KX _ _ hcode) rfl hvs hP.file hP.top ?_
  have hgs : X.env.kindOf ("super" : Str) = some .globalImplicit := by show X.env.scope.names.lookup _ = _; rw [hsc]; exact B.scS
  refine PySem.W.ks_loadName_global I.ok.kind hgs ?_
  obtain ⟨mb, h1, h2⟩ := I.mod.blt
  refine Calls.loadGlobal_builtin (by rw [I.ok.glob]; exact I.mod.glob.keeps I.bk) (PySem.W.mg_none_of I.mod.kin I.mod.glob B.nosuper) (by rw [I.ok.blt]; exact h1.keeps I.bk) ((h2 "super" (by decide +kernel)).trans (by rfl)) ⟨rfl, ?_⟩
  refine wpAny_loadName_free I.ok.kind (by show X.env.scope.names.lookup _ = _; rw [hsc]; exact B.scC) hcl ⟨_, KX _ _ hcell, rfl⟩ ?_
  obtain ⟨mL, hns, hal⟩ := I.loc
  obtain ⟨u, ru, hlook⟩ := hal 0 s0 (.ref x) hN hv (Or.inl hloc)
  obtain rfl : u = Value.ref x := ru
  have hmL : mL s0 = some (.ref x) := by
    rcases hlook with ⟨_, z⟩ | ⟨z, _⟩
    · exact z
    · rcases z with z | z
      · rw [show X.env.kindOf s0 = some .local from hloc] at z; cases z
      · rw [show X.env.kindOf s0 = some .local from hloc] at z; cases z
  rw [har2]
  refine wpAny_loadName_local I.ok.kind hloc hns hmL ?_
  obtain ⟨hh, g, d, t0, os⟩ := s
  refine PySem.ks_wpAny_isType_cls hD1 hD2 ⟨rfl, ?_⟩
  refine PySem.ks_wpAny_call_super hD1 hD2 J.at_ J.cls (fun c e => ?_) (PySem.W.looks_mroIn KX M.sub) (fun h' ee kk => ?_)
  · have := J.no
    unfold PySem.W.notCls at this
    rw [e] at this
    exact Bool.noConfusion this
  -- the super object stands; its method
  have I2 : Inv X pins σ H ⟨h', g, d, t0, os⟩ := I.kept (t' := t0) kk
  have KX2 := I2.kIn
  cases hc : PySem.W.clsIn X.K C with
  | none => have := M.at_; unfold PySem.W.ks_superIn at this; rw [hc] at this; cases this
  | some cd =>
    have hm := M.at_
    unfold PySem.W.ks_superIn at hm
    rw [hc] at hm
    obtain ⟨of, hof, hofc⟩ : ∃ of, h'.get? f2 = some of ∧ of.cls = .type "function" := by
      have ht' : (X.K.lookup f2).map (·.cls) = some (.type "function") := M.ty
      cases z : X.K.lookup f2 with
      | none => rw [z] at ht'; cases ht'
      | some of => rw [z] at ht'; exact ⟨of, KX2 _ _ z, Option.some.inj ht'⟩
    refine PySem.ks_wpAny_getMethod_super ee (PySem.W.looks_opaque KX2 B.noop) (l₀ := cd.mro) ?_ rfl KX2 hm hof hofc (PySem.W.ks_ne KX J hc) M.cl ?_
    · exact fun A Q E s k q => wpAny_bind ((PySem.W.looks_clsIn KX2 hc) A _ E s k (wpAny_pure q))
    · have I3 : Inv X ((h'.objs.size, PySem.W.methodObj (.ref f2) (.ref x)) :: pins) σ H ⟨h'.push (PySem.W.methodObj (.ref f2) (.ref x)), g, d, t0 + 1, os⟩ := ClX.met_new I2
      refine ClX.callwith_cm I3 (ClX.base_none I2 (Nat.le_refl _)) M.fi (thn (ha.run pos _ _ σ H _ I3 h) fun us s3 ⟨vs, H2, I4, rv, q2⟩ => ⟨⟨ClX.pin_at I4, I4.kIn⟩, ?_⟩) hst rfl
      exact thn (ClX.run_cm F hr hx I4 rv q2) fun v s4 ⟨z, H3, I5, _, q3⟩ => ⟨rfl, z, H3, I5, q3⟩
end
/-- the def, by its first statement super().m(e) and the rest -/
theorem SupAt.okX {P : Program} {w : World} {K : PySem.W.Frag} {mg : Str → Option Value} {base : Heap} {CX : CXT} {k k2 : Nat} {name qual : Str} {st : Stmt} {f c cc D C f2 : Addr} {N ps : List Str} {file s0 m : Str} {sp sp2 : Sp} {p0 p1 apos pos epos : Pos} {e : Expr} {rest : List Stmt}
    (B : SupAt K name qual st f c cc D ps file) (hP : SupP P file) (M : SupM K C D m f2) (F : FnR P w K mg base CX k2 f2 sp2) (hk : k2 ≤ k)
    (S : NScope N ps ["__class__"] (defScope st)) (hps : ps[0]? = some s0) (hb : defBody st = .Expr (.Call (.Attribute (.Call (.Name "super" p0) [] [] p1) m apos) [e] [] pos) epos :: rest)
    (len : ∀ vs H Q E, sp vs H Q E → vs.length = ps.length)
    (walk : ∀ (A : Around) (outer : List Env) (s : Shared) (H : Hp) (vs : List V) (Q : VK) (E : XK) (X : Cx), X = ncx CX P w K mg base N ⟨name, qual, defArgs st, defBody st, defScope st, [("__class__", cc)], c⟩ f A outer s H E → Room k X.A → sp vs H Q E →
      Passes CX X E ∧ interactive X.env = false ∧ swapsWith (.Call (.Attribute (.Call (.Name "super" p0) [] [] p1) m apos) [e] [] pos) none epos.line X.env = pure false ∧ starEach [e] X.env = [(false, eval e X.env)] ∧
      (∃ pl : Sem Bool, eval (.Call (.Attribute (.Call (.Name "super" p0) [] [] p1) m apos) [e] [] pos) X.env = (do
        let ov ← attributeBase (.Call (.Name "super" p0) [] [] p1) m X.env (eval (.Call (.Name "super" p0) [] [] p1) X.env)
        standAt apos.atName
        let (f, first) ← holding [ov] (getMethod ov m pl)
        callWith pos f first (backTo pos (starEach [e] X.env)) [])) ∧
      ∃ (x dx : Addr) (fs : List (Str × V)) (t : TA), vs[0]? = some (.ref x) ∧ H x = some (.ins C dx fs) ∧ PA X [e] t ∧
        t (startF N vs [none]) H fun us H1 => sp2 (.ref x :: us) H1 (fun _ H2 => ∃ tt, PSs X rest tt ∧ tt { nx := fun _ H' => Q .non H', rt := Q } (startF N vs [none]) H2) E) :
    FnR P w K mg base CX (k + 1) f sp := by
  obtain ⟨oc, od, kV, doc, pm, an, ct, osl, lk, hcd, bi⟩ := B.ex
  intro A outer s H us vs Q E hr e0 r hs
  have hl := len _ _ _ _ hs
  have kin : K.In s.heap := e0.mod.kin.keeps fun b o e => (e0.bs b o e).1
  have lim : s.heap.NoLimit := e0.mod.nolimit.keeps fun b o e => (e0.bs b o e).1
  have hbn : BindsTo s (PySem.W.fnX name qual (defArgs st) (defBody st) (defScope st) [("__class__", cc)] .none kV doc pm an (.ref c) ct) ⟨us, []⟩ (ps.zip us) := by
    have := bi s us kin (by rw [List.append_nil, ← r.length]; exact hl)
    rw [List.append_nil] at this
    exact this
  refine codeAny_call_function hr.depth (kin _ _ lk) rfl S.co S.gen rfl (PySem.W.codeRec_of kin hcd) (hbn _ _ _ _ ?_)
  refine wpAny_newFunctionEnv S.nocell (fun ⟨n, _⟩ hy => S.par n (List.of_mem_zip hy).1) (fun h₁ hns hsb => ⟨lim.fresh _ hsb, ?_⟩) S.kind
  generalize hF : (⟨name, qual, defArgs st, defBody st, defScope st, [(("__class__" : Str), cc)], c⟩ : NF) = FF at walk
  have hFc : FF.cl = [(("__class__" : Str), cc)] := by rw [← hF]
  have hFs : FF.scope = defScope st := by rw [← hF]
  have hFb : FF.body = defBody st := by rw [← hF]
  have hFcc : FF.c = c := by rw [← hF]
  have henv : envF FF f s.heap.objs.size = PySem.W.envX qual (defScope st) s.heap.objs.size f (.ref c) [(("__class__" : Str), cc)] := by rw [← hF]
  have kp : ∀ b o, s.heap.get? b = some o → h₁.get? b = some o := fun b o e => hsb.extBut b o (Nat.ne_of_lt (Heap.lt_size e)) (Heap.get?_push_of_some _ e)
  obtain ⟨cl0, cld, csl, hcell⟩ := B.cell
  have CA : CellsAt FF.cl ["__class__"] [none] s.heap H := by
    rw [hFc]
    refine ⟨rfl, fun y a hy => ?_, fun a b a' h1 h2 => ?_, fun i y hi => ?_⟩
    · have : a = cc := by
        have hm := PySem.mem_of_lookup hy
        simp only [List.mem_singleton] at hm
        exact (Prod.mk.inj hm).2
      subst this
      exact ⟨(e0.bs _ _ (e0.mod.kin _ _ hcell)).2, _, _, kin _ _ hcell, rfl⟩
    · have m1 := PySem.mem_of_lookup h1
      have m2 := PySem.mem_of_lookup h2
      simp only [List.mem_singleton] at m1 m2
      rw [(Prod.mk.inj m1).1, (Prod.mk.inj m2).1]
    · match i, hi with
      | 0, hi =>
        cases hi
        exact ⟨cc, by simp [List.lookup], fun v hv => by cases hv⟩
      | i + 1, hi => simp at hi
  have I : Inv (ncx CX P w K mg base N FF f A outer s H E) [] (startF N vs [none]) H { s with heap := h₁, toks := s.toks + (ps.zip us).length } := inv_startN (by rw [hFs]; exact S) hr.hd e0 hl r CA hns kp
  obtain ⟨hx, hint, hsw, hst, ⟨pl, he⟩, x, dx, fs, t, hv0, ea, ha, hq⟩ := walk A outer s H vs Q E _ rfl (hr.deeper _) hs
  show codeAny _ _ (.func (defBody st) (PySem.W.envX qual (defScope st) s.heap.objs.size f (.ref c) [(("__class__" : Str), cc)])) _ _
  rw [← henv]
  refine PySem.ks_codeAny_funcAt ?_
  rw [hb]
  refine PySem.ks_wpAt_execs_cons ?_
  have hps0 : ps.length ≠ 0 := by
    intro z
    cases ps with
    | nil => cases hps
    | cons a b => cases z
  have hv : (startF N vs [none])[0]? = some (some (.ref x)) := by
    unfold startF
    rw [List.getElem?_append_left (by rw [List.length_map]; omega), List.getElem?_map, hv0]
    rfl
  have hN0 : N[0]? = some s0 := by
    have : (ps ++ [("__class__" : Str)])[0]? = some s0 := by rw [List.getElem?_append_left (by omega)]; exact hps
    rw [← S.pre, List.getElem?_take_of_lt (by simp)] at this
    exact this
  have hloc0 : (defScope st).names.lookup s0 = some .local := S.par s0 (List.mem_of_getElem? hps)
  refine PySem.ks_wpAt_mono (run_super (X := ncx CX P w K mg base N FF f A outer s H E) (body := _) B hP M F ((hr.deeper _).mono hk) hx hFs rfl (by show Value.ref FF.c = _; rw [hFcc]) (by show FF.cl.lookup _ = _; rw [hFc]; simp [List.lookup]) hps hN0 (by show FF.scope.names.lookup s0 = _; rw [hFs]; exact hloc0) I hv ea ha hq hint hsw hst pl he) (fun fl s' hh => ?_) fun e s' hh => hh
  obtain ⟨rfl, _, H2, I2, tt, htt, hqq⟩ := hh
  refine wpAt_of_wpAny ?_
  have fin : ∀ {σ' : L2.St} {H' : Hp} {v : V} {u : Value} {s' : Shared}, Inv (ncx CX P w K mg base N FF f A outer s H E) [] σ' H' s' → L2.RelV v u → Q v H' → CE outer P w H s Q u s' :=
    fun {σ' H' v u s'} J rv q => ⟨v, H', J.os, J.bare, J.base, J.hok, rv, q⟩
  refine wpAny_mono (htt.run [] _ (startF N vs [none]) H2 _ I2 hqq) (fun fl s' hs => ?_) fun e s' hs => hs
  cases fl with
  | ret u =>
    obtain ⟨v, σ', H', J, rv, q⟩ := hs
    exact fin J rv q
  | next =>
    obtain ⟨σ', H', J, q⟩ := hs
    exact fin (v := V.non) (u := Value.none) J rfl q
  | brk =>
    obtain ⟨_, _, _, q⟩ := hs
    exact False.elim q
  | cont =>
    obtain ⟨_, _, _, q⟩ := hs
    exact False.elim q
end U
namespace U
open PySem PySem.Spec PyProof.Rows L2 StX
/-! ### {o!r}, o an instance with its own __repr__ -/
end U
namespace U
open PySem PySem.Spec PyProof.Rows L2 GQ PySem.SeqAt MeetsSeq MeetsSeq2 MeetsSeq3 SeqRoads2
open AutoSeq1 (wpAny_loadPart')
/-! ### == of lists and tuples, with either result -/
/-- D x y H c: == of the two gives c -/
abbrev EqvB := V → V → Hp → Bool → Prop
def EqH (X : Cx) (n : Nat) (D : EqvB) : Prop :=
  ∀ (A : Around) (pins : List (Addr × Obj)) (s : Shared) (σ : L2.St) (H : Hp) (x y : V) (u v : Value) (c : Bool), Sub X n A → Inv X pins σ H s → RelV x u → RelV y v → D x y H c →
    wpAny (model X.prog X.w) A (eqBool u v) (fun r s' => r = c ∧ ∃ H', Inv X pins σ H' s' ∧ Ext H H') X.xe s
section
variable {X : Cx} {n m : Nat} {D D' : EqvB}
theorem EqH.mono (h : EqH X n D) (hn : n ≤ m) : EqH X m D := fun A pins s σ H x y u v c sb => h A pins s σ H x y u v c (sb.mono hn)
end
end U
namespace PySem.W
open PySem PySem.Calls PyProof.Rows
end PySem.W
namespace U
open PySem PySem.Spec PyProof.Rows L2 StX
end U
namespace U
open PySem PySem.Spec PyProof.Rows L2 StX
/-! ### C(*xs) -/
end U
namespace U
open PySem PySem.Spec PyProof.Rows L2 GQ PySem.SeqAt MeetsSeq MeetsSeq2 MeetsSeq3 SeqRoads2
open AutoSeq1 (wpAny_loadPart')
/-! ### != of lists, == and != of tuples of any lengths, in: with either result -/
end U
namespace U
open PySem PySem.Spec PyProof.Rows L2 StX
open PySem.AutoSeq1 (wpAny_loadPart')
/-! ### enumerate(a tuple) -/
/-! ### a tuple of one item, many times -/
end U
namespace PM
open U
/-! ### one-to-one maps between parts of 0 .. n - 1 -/
abbrev PF := Int → Option Int
structure WF (n : Int) (f : PF) : Prop where
  dom : ∀ x y, f x = some y → 0 ≤ x ∧ x < n ∧ 0 ≤ y ∧ y < n
  inj : ∀ x x' y, f x = some y → f x' = some y → x = x'
def tabN (f : PF) (n : Nat) : List (Int × Int) := (List.range n).filterMap fun (i : Nat) => (f (i : Int)).map fun y => ((i : Int), y)
def tab (n : Int) (f : PF) : List (Int × Int) := tabN f n.toNat
theorem mem_tabN {f : PF} {n : Nat} {x y : Int} : (x, y) ∈ tabN f n ↔ f x = some y ∧ ∃ i : Nat, i < n ∧ x = (i : Int) := by
  unfold tabN
  rw [List.mem_filterMap]
  constructor
  · rintro ⟨i, hi, e⟩
    rw [List.mem_range] at hi
    cases h : f (i : Int) with
    | none => rw [h] at e; cases e
    | some z => rw [h] at e; cases e; exact ⟨h, i, hi, rfl⟩
  · rintro ⟨h, i, hi, rfl⟩
    exact ⟨i, List.mem_range.mpr hi, by rw [h]; rfl⟩
theorem mem_tab {n : Int} {f : PF} (w : WF n f) {x y : Int} : (x, y) ∈ tab n f ↔ f x = some y := by
  unfold tab
  rw [mem_tabN]
  constructor
  · exact fun h => h.1
  · intro h
    have := w.dom x y h
    exact ⟨h, x.toNat, by omega, by omega⟩
theorem keys_tabN (f : PF) (n : Nat) : ((tabN f n).map (·.1)).Nodup := by
  induction n with
  | zero => exact List.nodup_nil
  | succ n ih =>
    have e : tabN f (n + 1) = tabN f n ++ ((f (n : Int)).map fun y => ((n : Int), y)).toList := by
      unfold tabN
      rw [List.range_succ, List.filterMap_append]
      cases h : f (n : Int) <;> simp [h]
    rw [e, List.map_append, List.nodup_append]
    refine ⟨ih, ?_, ?_⟩
    · cases f (n : Int) <;> simp
    · intro a ha b hb e
      subst e
      obtain ⟨p, hp, rfl⟩ := List.mem_map.mp ha
      obtain ⟨x, y⟩ := p
      obtain ⟨_, i, hi, ex⟩ := mem_tabN.mp hp
      cases h : f (n : Int) with
      | none => rw [h] at hb; simp at hb
      | some z =>
        rw [h] at hb
        simp at hb
        omega
theorem keys_tab (n : Int) (f : PF) : ((tab n f).map (·.1)).Nodup := keys_tabN f _
theorem lk_tab {n : Int} {f : PF} (w : WF n f) (x : Int) : lk (tab n f) x = f x := by
  cases h : f x with
  | some y => exact lk_some (keys_tab n f) ((mem_tab w).mpr h)
  | none =>
    cases e : lk (tab n f) x with
    | none => rfl
    | some y =>
      have := (mem_tab w).mp (lk_mem e)
      rw [h] at this; cases this
theorem tab_len (n : Int) (f : PF) : (tab n f).length ≤ n.toNat := by
  unfold tab tabN
  exact Nat.le_trans (List.length_filterMap_le _ _) (by simp)
/-! ### the operations -/
def idn (n : Int) : PF := fun x => if 0 ≤ x ∧ x < n then some x else none
def le (f g : PF) : Prop := ∀ x y, f x = some y → g x = some y
/-- a dict of pairs tells f -/
structure DI (l : List (Int × Int)) (f : PF) : Prop where
  nd : (l.map (·.1)).Nodup
  at_ : ∀ x, lk l x = f x
theorem DI.mem {l : List (Int × Int)} {f : PF} (d : DI l f) {x y : Int} : (x, y) ∈ l ↔ f x = some y := by
  rw [← d.at_]
  exact ⟨lk_some d.nd, lk_mem⟩
theorem di_tab {n : Int} {f : PF} (w : WF n f) : DI (tab n f) f := ⟨keys_tab n f, lk_tab w⟩
theorem DI.vals {n : Int} {l : List (Int × Int)} {f : PF} (d : DI l f) (w : WF n f) : (l.map (·.2)).Nodup := by
  obtain ⟨nd, _⟩ := id d
  have key : ∀ r : List (Int × Int), (∀ p ∈ r, f p.1 = some p.2) → (r.map (·.1)).Nodup → (r.map (·.2)).Nodup := by
    intro r
    induction r with
    | nil => intro _ _; exact List.nodup_nil
    | cons p r ih =>
      intro h nd
      rw [List.map_cons, List.nodup_cons] at nd ⊢
      refine ⟨fun hm => ?_, ih (fun q hq => h q (List.mem_cons_of_mem _ hq)) nd.2⟩
      obtain ⟨q, hq, e⟩ := List.mem_map.mp hm
      have h1 := h p List.mem_cons_self
      have h2 := h q (List.mem_cons_of_mem _ hq)
      rw [e] at h2
      have := w.inj _ _ _ h1 h2
      exact nd.1 (by rw [this]; exact List.mem_map.mpr ⟨q, hq, rfl⟩)
  exact key l (fun p hp => d.mem.mp hp) nd
theorem di_of {l : List (Int × Int)} {f : PF} (nd : (l.map (·.1)).Nodup) (h : ∀ x y, (x, y) ∈ l ↔ f x = some y) : DI l f := by
  refine ⟨nd, fun x => ?_⟩
  cases e : f x with
  | some y => exact lk_some nd ((h x y).mpr e)
  | none =>
    cases e2 : lk l x with
    | none => rfl
    | some y =>
      have := (h x y).mp (lk_mem e2)
      rw [e] at this; cases this
end PM
namespace PM
open U
/-! ### powers -/
def iter (f : PF) : Nat → PF
  | 0 => fun x => some x
  | k + 1 => fun x => (iter f k x).bind f
structure Row (f : PF) (e : Int) (r : List Int) : Prop where
  h0 : r[0]? = some e
  st : ∀ (i : Nat) (a b : Int), r[i]? = some a → r[i + 1]? = some b → f a = some b ∧ b ≠ e
theorem Row.ne {f : PF} {e : Int} {r : List Int} (w : ∀ x x' y, f x = some y → f x' = some y → x = x') (R : Row f e r) : ∀ (i k : Nat) (a : Int), r[i]? = some a → r[i + k + 1]? = some a → False
  | 0, k, a, h1, h2 => by
    rw [R.h0] at h1
    cases h1
    have hk : ∃ b, r[k]? = some b := by
      have : 0 + k + 1 < r.length := (List.getElem?_eq_some_iff.mp h2).1
      exact ⟨_, List.getElem?_eq_getElem (by omega)⟩
    obtain ⟨b, hb⟩ := hk
    have := R.st k b e hb (by rw [Nat.zero_add] at h2; exact h2)
    exact this.2 rfl
  | i + 1, k, a, h1, h2 => by
    have l1 : i + 1 < r.length := (List.getElem?_eq_some_iff.mp h1).1
    have l2 : i + 1 + k + 1 < r.length := (List.getElem?_eq_some_iff.mp h2).1
    obtain ⟨b, hb⟩ : ∃ b, r[i]? = some b := ⟨_, List.getElem?_eq_getElem (by omega)⟩
    obtain ⟨c, hc⟩ : ∃ c, r[i + k + 1]? = some c := ⟨_, List.getElem?_eq_getElem (by omega)⟩
    have e1 := (R.st i b a hb h1).1
    have h2' : r[i + k + 1 + 1]? = some a := by rw [show i + k + 1 + 1 = i + 1 + k + 1 by omega]; exact h2
    have e2 := (R.st (i + k + 1) c a hc h2').1
    have : b = c := w _ _ _ e1 e2
    subst this
    exact Row.ne w R i k b hb hc
theorem nodup_of_get {l : List Int} (h : ∀ (i k : Nat) (a : Int), l[i]? = some a → l[i + k + 1]? = some a → False) : l.Nodup := by
  induction l with
  | nil => exact List.nodup_nil
  | cons x r ih =>
    rw [List.nodup_cons]
    refine ⟨fun hm => ?_, ih fun i k a h1 h2 => ?_⟩
    · obtain ⟨j, hj⟩ := List.mem_iff_getElem?.mp hm
      exact h 0 j x rfl (by rw [Nat.zero_add]; exact hj)
    · refine h (i + 1) k a h1 ?_
      rw [show i + 1 + k + 1 = (i + k + 1) + 1 by omega]
      exact h2
theorem Row.nd {n : Int} {f : PF} {e : Int} {r : List Int} (w : WF n f) (R : Row f e r) : r.Nodup := nodup_of_get (R.ne w.inj)
theorem Row.dom {n : Int} {f : PF} {e : Int} {r : List Int} (w : WF n f) (R : Row f e r) (h1 : 0 ≤ e) (h2 : e < n) : ∀ x ∈ r, 0 ≤ x ∧ x < n := by
  intro x hx
  obtain ⟨i, hi⟩ := List.mem_iff_getElem?.mp hx
  cases i with
  | zero => rw [R.h0] at hi; cases hi; exact ⟨h1, h2⟩
  | succ i =>
    have l1 : i + 1 < r.length := (List.getElem?_eq_some_iff.mp hi).1
    obtain ⟨b, hb⟩ : ∃ b, r[i]? = some b := ⟨_, List.getElem?_eq_getElem (by omega)⟩
    have := w.dom _ _ (R.st i b x hb hi).1
    omega
theorem Row.more {f : PF} {e : Int} {pre : List Int} {z y : Int} (R : Row f e (pre ++ [z])) (h : f z = some y) (ne : y ≠ e) : Row f e (pre ++ [z] ++ [y]) := by
  refine ⟨?_, fun i a b h1 h2 => ?_⟩
  · rw [List.getElem?_append_left (by simp)]
    exact R.h0
  · by_cases hi : i + 1 < (pre ++ [z]).length
    · rw [List.getElem?_append_left hi] at h2
      rw [List.getElem?_append_left (by omega)] at h1
      exact R.st i a b h1 h2
    · have l2 : i + 1 < (pre ++ [z] ++ [y]).length := (List.getElem?_eq_some_iff.mp h2).1
      have e1 : i = pre.length := by simp at hi l2; omega
      subst e1
      rw [List.getElem?_append_left (by simp)] at h1
      have z1 : (pre ++ [z])[pre.length]? = some z := by simp
      rw [z1] at h1
      cases h1
      have z2 : (pre ++ [z] ++ [y])[pre.length + 1]? = some y := by simp
      rw [z2] at h2
      cases h2
      exact ⟨h, ne⟩
end PM
namespace PM
open U
/-! ### the rules of the operators -/
/-! ### parts -/
/-! ### powers -/
end PM
namespace PM
open U
/-! ### rows told by their first element -/
def IsRow (f : PF) (e : Int) (r : List Int) : Prop := ∃ pre z, r = pre ++ [z] ∧ Row f e r ∧ (f z = none ∨ f z = some e)
theorem IsRow.get {f : PF} {e : Int} {r r' : List Int} (h : IsRow f e r) (h' : IsRow f e r') : ∀ (i : Nat) (a : Int), r[i]? = some a → r'[i]? = some a
  | 0, a, e1 => by
    obtain ⟨_, _, _, R, _⟩ := h
    obtain ⟨_, _, _, R', _⟩ := h'
    rw [R.h0] at e1
    rw [R'.h0]
    exact e1
  | i + 1, a, e1 => by
    have ih := IsRow.get h h' i
    obtain ⟨_, _, _, R, _⟩ := h
    obtain ⟨pre', z', q', R', st'⟩ := h'
    have l1 : i + 1 < r.length := (List.getElem?_eq_some_iff.mp e1).1
    obtain ⟨b, hb⟩ : ∃ b, r[i]? = some b := ⟨_, List.getElem?_eq_getElem (by omega)⟩
    obtain ⟨f1, ne⟩ := R.st i b a hb e1
    have hb' := ih b hb
    cases e2 : r'[i + 1]? with
    | some c =>
      have := (R'.st i b c hb' e2).1
      rw [f1] at this
      exact this.symm
    | none =>
      exfalso
      have l2 : i < r'.length := (List.getElem?_eq_some_iff.mp hb').1
      have l3 := List.getElem?_eq_none_iff.mp e2
      subst q'
      rw [List.length_append, List.length_singleton] at l2 l3
      have ei : i = pre'.length := by omega
      subst ei
      have : (pre' ++ [z'])[pre'.length]? = some z' := by simp
      rw [this] at hb'
      cases hb'
      rcases st' with q | q
      · rw [f1] at q; cases q
      · rw [f1] at q; exact ne (Option.some.inj q)
open Classical in
noncomputable def rowN (f : PF) (e : Int) : List Int := if h : ∃ r, IsRow f e r then h.choose else []
theorem IsRow.head {f : PF} {e : Int} {r : List Int} (h : IsRow f e r) : r[0]? = some e := by
  obtain ⟨_, _, _, R, _⟩ := h
  exact R.h0
theorem IsRow.mem {f : PF} {e : Int} {r : List Int} (h : IsRow f e r) : e ∈ r := List.mem_of_getElem? h.head
theorem IsRow.dom {n : Int} {f : PF} {e : Int} {r : List Int} (w : WF n f) (h : IsRow f e r) (h1 : 0 ≤ e) (h2 : e < n) : ∀ x ∈ r, 0 ≤ x ∧ x < n := by
  obtain ⟨_, _, _, R, _⟩ := h
  exact R.dom w h1 h2
theorem IsRow.nd {n : Int} {f : PF} {e : Int} {r : List Int} (w : WF n f) (h : IsRow f e r) : r.Nodup := by
  obtain ⟨_, _, _, R, _⟩ := h
  exact R.nd w
/-! ### which rows are begun -/
noncomputable def seenL (f : PF) (s : List Int) : List Int := (s.map (rowN f)).flatten
theorem mem_seenL {f : PF} {s : List Int} {x : Int} : x ∈ seenL f s ↔ ∃ e ∈ s, x ∈ rowN f e := by
  unfold seenL
  rw [List.mem_flatten]
  constructor
  · rintro ⟨r, hr, hx⟩
    obtain ⟨e, he, rfl⟩ := List.mem_map.mp hr
    exact ⟨e, he, hx⟩
  · rintro ⟨e, he, hx⟩
    exact ⟨_, List.mem_map.mpr ⟨e, he, rfl⟩, hx⟩
/-! ### closed rows -/
/-! ### all parts -/
/-! ### ordered by the first elements -/
end PM
namespace PM
open U
/-! ### powers by the law's own way; great exponents -/
end PM
namespace PM
open U
/-! ### where powers repeat -/
end PM
set_option maxHeartbeats 600000
namespace U
open PySem PySem.Spec PyProof.Rows L2
/-! ### dicts whose keys are None and truth values -/
def oV : Option Bool → V
  | none => .non
  | some b => .bl b
def oVal : Option Bool → Value
  | none => .none
  | some b => .bool b
theorem oV_rel (k : Option Bool) : RelV (oV k) (oVal k) := by cases k <;> exact rfl
theorem oV_val {k : Option Bool} {u : Value} (h : RelV (oV k) u) : u = oVal k := by cases k <;> exact h
def isO : Option Bool → Value → Bool
  | none, .none => true
  | some k, .bool b => b == k
  | _, _ => false
theorem isO_shape {k : Option Bool} {v : Value} (h : isO k v = true) : v = oVal k := by
  cases k <;> cases v <;> first
    | rfl
    | exact congrArg Value.bool (eq_of_beq h)
    | exact absurd h Bool.false_ne_true
theorem isO_self (k : Option Bool) : isO k (oVal k) = true := by
  cases k with
  | none => rfl
  | some b => exact beq_self_eq_true b
def hO : Option Bool → Int
  | none => reduceHash 0xFCA86420
  | some b => PpSet.hB b
theorem pyHash_non {prog : Program} {w : World} {A : Around} {E : Value → Shared → Prop} {s : Shared} {Q : Int → Shared → Prop} (h : Q (hO none) { s with toks := s.toks + 1 }) :
    wpAny (model prog w) A (pyHash .none) Q E s :=
  W.pyHash_slot (T := "NoneType") rfl F.slot_NoneType_hash F.entry_NoneType_hash (F.args_NoneType_hash_1 _) (beq_builtin_none _) (.inl rfl) (wpAny_bind (wpAny_pure (wpAny_bind (wpAny_mkInt (wpAny_pure ⟨_, _, rfl, h⟩)))))
theorem oeq (a b : Option Bool) {A : Around} {s : Shared} : SeqAt.EqAt A s (oVal a) (oVal b) (decide (a = b)) := by
  cases a with
  | none =>
    cases b with
    | none => exact SeqAt.EqAt.same _
    | some b => exact SeqAt.EqAt.none_bool b
  | some a =>
    cases b with
    | none => exact SeqAt.EqAt.bool_none a
    | some b =>
      have := SeqAt.EqAt.bool_bool (A := A) (s := s) a b
      rw [show decide (some a = some b) = (a == b) by cases a <;> cases b <;> rfl]
      exact this
def oddK (prog : Program) (w : World) : PySem.KeyKind prog w (Option Bool) where
  is := isO
  hash := hO
  inj := fun v a b ha hb => by
    have e1 := isO_shape ha
    have e2 := isO_shape hb
    rw [e1] at e2
    cases a with
    | none =>
      cases b with
      | none => rfl
      | some b => exact nomatch e2
    | some a =>
      cases b with
      | none => exact nomatch e2
      | some b => rw [Value.bool.inj e2]
  byValue := fun k v h => by rw [isO_shape h]; cases k <;> rfl
  pyHash := fun {A E s k v Q} hv h => by
    rw [isO_shape hv]
    cases k with
    | none => exact pyHash_non h
    | some b => exact PpSet.pyHash_bool h
  eqBool := fun {A E s a b u v Q} hu hv h => by
    rw [isO_shape hu, isO_shape hv]
    exact oeq a b _ _ _ _ h
  «strs» := fun k x t v h => by cases k <;> exact absurd h Bool.false_ne_true
def OddO (P : Program) (w : World) (a : Addr) (ep : Nat) (kvs : List (Option Bool × V)) : HO := .ext fun h => (a == sysModules) = false ∧ ∃ vs, KV kvs vs ∧ h.DictAt (oddK P w) a vs ep
def OddD (P : Program) (w : World) (H : Hp) (a : Addr) (kvs : List (Option Bool × V)) : Prop := ∃ ep, H a = some (OddO P w a ep kvs)
section
variable {P : Program} {w : World} {H H' : Hp} {h : Heap} {a : Addr} {ep : Nat} {kvs : List (Option Bool × V)}
theorem OddD.same (x : OddD P w H a kvs) (s : Same H H') : OddD P w H' a kvs := by
  obtain ⟨ep, e⟩ := x
  exact ⟨ep, s _ _ e⟩
end
/-! ### for k, v in d.items() -/
end U
set_option maxHeartbeats 1000000
namespace U
open PySem PySem.Spec PyProof.Rows L2
/-! ### dicts whose keys may be anything: None, truth values, tuples; built once, then read -/
def EnR (kv : V × V) (e : DictEntry) : Prop := RelV kv.1 e.key ∧ RelV kv.2 e.val
def RwO (a : Addr) (ep : Nat) (kvs : List (V × V)) : HO := .ext fun h => (a == sysModules) = false ∧ kvs.length ≤ sizeLine ∧ ∃ es, h.DictRaw a es ep ∧ Paired EnR kvs es.toList
def RwD (H : Hp) (a : Addr) (kvs : List (V × V)) : Prop := ∃ ep, H a = some (RwO a ep kvs)
section
variable {P : Program} {w : World} {H H' : Hp} {h : Heap} {a : Addr} {ep : Nat} {kvs : List (V × V)} {es : Array DictEntry}
theorem RwD.same (x : RwD H a kvs) (s : Same H H') : RwD H' a kvs := by
  obtain ⟨ep, e⟩ := x
  exact ⟨ep, s _ _ e⟩
theorem rwO_ok (hs : (a == sysModules) = false) (hz : kvs.length ≤ sizeLine) (d : h.DictRaw a es ep) (k : Paired EnR kvs es.toList) : ObjOk P w H h a (RwO a ep kvs) :=
  ⟨⟨hs, hz, es, d, k⟩, (let ⟨o, ho, _⟩ := d; ⟨o, ho⟩), fun _ _ ⟨z, y, es, d, k⟩ e => ⟨z, y, es, d.at e, k⟩⟩
theorem rw_at (ok : HOk P w H h) (e : H a = some (RwO a ep kvs)) : (a == sysModules) = false ∧ kvs.length ≤ sizeLine ∧ ∃ es, h.DictRaw a es ep ∧ Paired EnR kvs es.toList := (ok a _ e).1
theorem en_get : ∀ {kvs : List (V × V)} {es : List DictEntry} {i : Nat} {kv : V × V}, Paired EnR kvs es → kvs[i]? = some kv → ∃ e, es[i]? = some e ∧ EnR kv e
  | _, _, i, kv, .nil, e => by simp at e
  | (p :: ps), (q :: qs), 0, kv, .cons r t, e => by
    simp only [List.getElem?_cons_zero, Option.some.injEq] at e
    subst e
    exact ⟨q, rfl, r⟩
  | (p :: ps), (q :: qs), i + 1, kv, .cons r t, e => by
    obtain ⟨u, h1, h2⟩ := en_get (i := i) t (by simpa using e)
    exact ⟨u, by simpa using h1, h2⟩
theorem en_at (k : Paired EnR kvs es.toList) {i : Nat} {kv : V × V} (e : kvs[i]? = some kv) : ∃ hi : i < es.size, EnR kv es[i] := by
  obtain ⟨q, h1, h2⟩ := en_get k e
  have h3 : es[i]? = some q := by rw [← Array.getElem?_toList]; exact h1
  obtain ⟨hi, h4⟩ := Array.getElem?_eq_some_iff.mp h3
  exact ⟨hi, by rw [h4]; exact h2⟩
theorem en_len (k : Paired EnR kvs es.toList) : kvs.length = es.size := by
  rw [Paired.length k, Array.length_toList]
end
/-- isinstance(d, c) -/
def rIsW (K : PySem.W.Frag) : List V → Hp → VK → Prop := fun xs H Q => ∃ (a : Addr) (c : V) (u : Value) (b : Bool) (kvs : List (V × V)), xs = [.ref a, c] ∧ ClsV c u ∧ RwD H a kvs ∧ PySem.W.kitOne K (.type "dict") u = some b ∧ Q (.bl b) H
theorem call_isW {X : Cx} : CallR X (.builtin "isinstance") (rIsW X.K) := by
  intro pins s σ H xs us Q I r h
  obtain ⟨a, c, u, b, kvs, rfl, k, ⟨ep, e0⟩, e, q⟩ := h
  obtain ⟨u1, u2, rfl, r1, r2⟩ := vals2 r
  have e2 := k.eq r2
  subst e2
  cases (show u1 = Value.ref a from r1)
  obtain ⟨_, _, es, ⟨o, h1, h2, _⟩, _⟩ := rw_at I.hok e0
  have Z : PySem.W.KitX X.K (.ref a) (.type "dict") (PySem.W.KitAt a "dict") := PySem.W.kitx_dict
  have p : PySem.W.KitAt a "dict" s.heap := ⟨o, h1, h2.1⟩
  have hx : Value.ref a ≠ .builtin "__main__.__loader__#opaque" := Value.noConfusion
  exact PySem.W.kia_one Z I.kIn p e hx fun tk => ⟨.bl b, H, I.tok tk, rfl, q⟩
/-- list(d) -/
def rListW : List V → Hp → VK → Prop := fun xs H Q => ∃ (a : Addr) (kvs : List (V × V)), xs = [.ref a] ∧ RwD H a kvs ∧ ∀ p, H p = none → Q (.ref p) (upd H p (.lst (kvs.map Prod.fst)))
theorem call_listW {X : Cx} (hc : X.calm = true) : CallR X (.type "list") rListW := by
  intro pins s σ H xs us Q I r h
  obtain ⟨a, kvs, rfl, ⟨ep, e0⟩, q⟩ := h
  obtain ⟨u, rfl, rx⟩ := vals1 r
  obtain rfl : u = Value.ref a := rx
  obtain ⟨lo, hz, es, dr, k⟩ := rw_at I.hok e0
  have hl := en_len k
  refine PySem.W.kdl_call (PySem.KdlSrc.rawDict (es := es) (ep := ep) lo) (I.ok.hd hc) dr (by rw [← hl]; exact hz) fun h' tk acc' c' hkeep hS hacc => ?_
  refine ⟨.ref s.heap.objs.size, upd H s.heap.objs.size (.lst (kvs.map Prod.fst)), I.laid hkeep (Nat.le_refl _) (show ObjOk X.prog X.w _ _ _ (.lst (kvs.map Prod.fst)) from ⟨?_, acc'.toList, c', ?_, ?_⟩), rfl, q _ (I.hok.fresh (Nat.le_refl _))⟩
  · rw [List.length_map]; exact hz
  · have el : acc'.toList.length = acc'.size := by simp
    refine vals_of_at (by rw [List.length_map, el, hacc.1, hl]) fun j x w h1 h2 => ?_
    obtain ⟨hi, e⟩ := hacc.2 j w (by rw [← Array.getElem?_toList]; exact h2)
    rw [List.getElem?_map] at h1
    obtain ⟨kv, ekv, rfl⟩ := Option.map_eq_some_iff.mp h1
    obtain ⟨hi', g1, _⟩ := en_at k ekv
    rw [e]
    exact g1
  · rw [Array.toArray_toList]; exact hS
/-! ### for v in d.values() -/
def ItvW (d : Addr) (ep : Nat) (kvs : List (V × V)) : It :=
  ⟨fun i H => H d = some (RwO d ep kvs) ∧ i < kvs.length, fun i H x H' => H' = H ∧ ∃ k, kvs[i]? = some (k, x), fun i H => H d = some (RwO d ep kvs) ∧ kvs.length ≤ i⟩
theorem walk_valuesW {d : Addr} {ep : Nat} {kvs : List (V × V)} : Walk (ItvW d ep kvs) kvs.length (fun H => H d = some (RwO d ep kvs)) (fun i H x H' => H' = H ∧ ∃ k, kvs[i]? = some (k, x)) :=
  ⟨fun _ _ hi q => ⟨q, hi⟩, fun _ q => ⟨q, Nat.le_refl _⟩, fun i H x H' _ _ y => y⟩
section
variable {P : Program} {w : World} {K : PySem.W.Frag} {d : Addr} {ep : Nat}
theorem turn_valsW {kvs : List (V × V)} {tg : Expr} (it : Addr) : Turn P w K tg (ItvW d ep kvs) [it] it (fun i h => h.IsValIter it d i kvs.length ep) where
  mem := by simp
  obj := fun i h st b hb => by
    have e : b = it := by simpa using hb
    subst e
    obtain ⟨oi, e, c, dd⟩ := st
    exact ⟨oi, e, fun v z => by rw [dd] at z; cases z⟩
  keep := fun i h h' st k => st.at fun oi e => k it (by simp) oi e
  item := by
    intro X hP hw hK hc i pins s σ H E I hf st hg
    subst hP hw hK
    obtain ⟨hd, hi⟩ := hg
    obtain ⟨f0, f1, f2, f3, f4, f5⟩ := hf it (by simp)
    obtain ⟨_, hz, es, hm, k⟩ := rw_at I.hok hd
    obtain ⟨⟨kk, v⟩, hkv⟩ : ∃ p, kvs[i]? = some p := ⟨kvs[i], List.getElem?_eq_getElem hi⟩
    obtain ⟨hi', _, ru⟩ := en_at k hkv
    have hl := en_len k
    rw [hl] at st
    refine wpAny_pyNext_values_item_raw st hm hi' fun h' st' sb => ?_
    have I1 : Inv X pins σ H { s with heap := h' } := I.turned (t' := s.toks) (fun b ob hb e => (sb.2 b hb).trans e) f0 f1 f3 f4 f5
    obtain ⟨oi, e, c, dd⟩ := id st'
    refine ⟨es[i].val, rfl, go_of (s := { s with heap := h' }) e c dd (by decide) ⟨v, H, I1, ru, ⟨rfl, kk, hkv⟩, ?_, fun b hb => (hf b hb).1⟩⟩
    show h'.IsValIter it d (i + 1) kvs.length _
    rw [hl]
    exact st'
  done := by
    intro X hP hw hK hc i pins s σ H E I hf st hg
    subst hP hw hK
    obtain ⟨hd, hi⟩ := hg
    obtain ⟨f0, f1, f2, f3, f4, f5⟩ := hf it (by simp)
    obtain ⟨_, hz, es, hm, k⟩ := rw_at I.hok hd
    have hl := en_len k
    rw [hl] at st
    exact wpAny_pyNext_values_end_raw (I.ok.hd hc) st hm (by omega) fun h' eb => ⟨rfl, I.turned (t' := s.toks) (fun b ob hb e => eb b ob hb e) f0 f1 f3 f4 f5⟩
  self := fun A i s Q E st h => wpAny_pyIter_valiter st h
end
def iValsW (td : TE) : TI := fun σ H R => td σ H fun x H1 => ∃ d ep kvs, x = .ref d ∧ H1 d = some (RwO d ep kvs) ∧ R (ItvW d ep kvs) H1
theorem pi_valuesW {X : Cx} {tg e : Expr} {td : TE} {apos cpos : Pos} (he : PE X e td) (hbase : attributeBase e "values" X.env (eval e X.env) = eval e X.env := by rfl) (hline : (apos.endLine == cpos.line) = true := by rfl) : PI X tg (.Call (.Attribute e "values" apos) [] [] cpos) (iValsW td) := by
  refine ⟨fun pins s σ H R I h => ?_⟩
  refine wpAny_Call_method (T := "dict") (id := "dict.values") hbase rfl hline F.plainAttrs_dict F.slot_dict_values F.type_dict_values (thn (he.run pins s σ H _ I h) fun u s1 ⟨x, H1, I1, rx, d, ep, kvs, ex, hd, q⟩ => ?_)
  subst ex
  obtain rfl : u = Value.ref d := rx
  obtain ⟨hs, hz, es, hm, k⟩ := rw_at I1.hok hd
  have hl := en_len k
  have hnd : ∀ o, s1.heap.get? d = some o → o.dict = none := fun o e => by
    obtain ⟨o', e', x, _⟩ := hm
    rw [e'] at e
    cases e
    exact x.2.1
  refine ⟨hm.typeIs, ?_, ?_⟩
  · intro a ea
    cases ea
    obtain ⟨o', e', x, _⟩ := hm
    exact ⟨o', e', x.2.1⟩
  have I2 : Inv X pins σ H1 { s1 with heap := s1.heap.push { cls := .type "dict_values", data := .fields #[.ref d] } } := I1.kept (t' := s1.toks) fun b ob q => Heap.get?_push_of_some _ q
  have fin : wpAny (model X.prog X.w) X.A (pyIter (.ref s1.heap.objs.size)) (PIE X pins σ tg R) X.xe { s1 with heap := s1.heap.push { cls := .type "dict_values", data := .fields #[.ref d] } } := by
    refine wpAny_pyIter_values_raw (d := d) (es := es) (ep := ep) ⟨_, Heap.get?_push_size _ rfl, rfl, rfl⟩ (hm.push _) (pi_one (tk := s1.toks) I2 _ (turn_valsW _) ⟨_, Heap.get?_push_size _ rfl, rfl, ?_⟩ q)
    rw [hl] <;> rfl
  show wpAny _ _ (callWith cpos (.builtin "dict.values") [.ref d] [] []) _ X.xe s1
  exact method_meetsIn F.slot_dict_values F.entry_dict_values rfl (PySem.evalArgs_none ⟨rfl, hm.typeIs, F.args_dict_values_1 _, _, meets_dict_values_raw d hs, ⟨es, ep, hm⟩, fin⟩)
/-! ### for k, v in d.items() -/
def ItW (d : Addr) (ep : Nat) (kvs : List (V × V)) : It :=
  ⟨fun i H => H d = some (RwO d ep kvs) ∧ i < kvs.length, fun i H x H' => ∃ T k v, kvs[i]? = some (k, v) ∧ x = .ref T ∧ H T = none ∧ H' = upd H T (.tup [k, v]), fun i H => H d = some (RwO d ep kvs) ∧ kvs.length ≤ i⟩
theorem walk_itemsW {d : Addr} {ep : Nat} {kvs : List (V × V)} : Walk (ItW d ep kvs) kvs.length (fun H => H d = some (RwO d ep kvs)) (YPair (fun i => kvs[i]?.map Prod.fst) (fun i => kvs[i]?.map Prod.snd)) := by
  refine ⟨fun _ _ hi q => ⟨q, hi⟩, fun _ q => ⟨q, Nat.le_refl _⟩, fun i H x H' _ _ y => ?_⟩
  obtain ⟨T, k, v, h1, h2, h3, h4⟩ := y
  exact ⟨T, k, v, h2, h3, h4, by simp [h1], by simp [h1]⟩
section
variable {P : Program} {w : World} {K : PySem.W.Frag} {d : Addr} {ep : Nat}
theorem turn_itemsW {kvs : List (V × V)} {elts : List Expr} {kk : Nat} {tpos : Pos} (it : Addr) :
    Turn P w K (.Tuple elts kk tpos) (ItW d ep kvs) [it] it (fun i h => ∃ ok ov, IsItemIter h it d i kvs.length ep ok ov) where
  mem := by simp
  obj := fun i h st b hb => by
    have e : b = it := by simpa using hb
    subst e
    obtain ⟨ok, ov, e⟩ := st
    exact ⟨_, e, fun v z => nomatch z⟩
  keep := fun i h h' st k => let ⟨ok, ov, e⟩ := st; ⟨ok, ov, k it (by simp) _ e⟩
  item := by
    intro X hP hw hK hc i pins s σ H E I hf st hg
    subst hP hw hK
    obtain ⟨hd, hi⟩ := hg
    obtain ⟨_, hz, es, hm, kx⟩ := rw_at I.hok hd
    obtain ⟨⟨k, v⟩, hkv⟩ : ∃ p, kvs[i]? = some p := ⟨kvs[i], List.getElem?_eq_getElem hi⟩
    obtain ⟨hi', rk, ru⟩ := en_at kx hkv
    have hl := en_len kx
    obtain ⟨ok, ov, he⟩ := st
    rw [hl] at he
    have hlt : it < s.heap.objs.size := Heap.lt_size he
    refine DT.nextI he hm hi' fun h' ho hT hz hk => ?_
    refine ⟨_, rfl, wpAny_letOwnedTupleGo_items (s := { s with heap := h' }) ho fun h'' he' sb => ?_⟩
    have hT2 : h''.get? s.heap.objs.size = some { cls := .type "tuple", data := .seq #[es[i].key, es[i].val] } := (sb.2 _ (Nat.ne_of_gt hlt)).trans hT
    have new : ObjOk X.prog X.w (upd H s.heap.objs.size (.tup [k, v])) h'' s.heap.objs.size (.tup [k, v]) :=
      ⟨by show 2 ≤ sizeLine; decide, [es[i].key, es[i].val], .cons rk (.cons ru .nil), ⟨_, hT2, rfl, _, rfl⟩⟩
    have I1 : Inv X pins σ (upd H s.heap.objs.size (.tup [k, v])) { s with heap := h'' } :=
      I.turnedNew (t' := s.toks) (ch := [it]) (fun b ob hb e => (sb.2 b (by simpa using hb)).trans (hk b ob (by simpa using hb) e)) hf (Nat.le_refl _) new
    refine ⟨.ref s.heap.objs.size, _, I1, rfl, ⟨_, k, v, hkv, rfl, I.hok.fresh (Nat.le_refl _), rfl⟩, ⟨es[i].key, es[i].val, ?_⟩, fun b hb => ?_⟩
    · rw [hl]; exact he'
    · have e : b = it := by simpa using hb
      rw [e, upd_ne (Nat.ne_of_lt hlt)]
      exact (hf it (by simp)).1
  done := by
    intro X hP hw hK hc i pins s σ H E I hf st hg
    subst hP hw hK
    obtain ⟨hd, hi⟩ := hg
    obtain ⟨f0, f1, f2, f3, f4, f5⟩ := hf it (by simp)
    obtain ⟨_, hz, es, hm, kx⟩ := rw_at I.hok hd
    have hl := en_len kx
    obtain ⟨ok, ov, he⟩ := st
    rw [hl] at he
    exact DT.endI (I.ok.hd hc) he hm (by omega) fun h' eb => ⟨rfl, I.turned (t' := s.toks) (fun b ob hb e => eb b ob hb e) f0 f1 f3 f4 f5⟩
  self := fun A i s Q E st h => let ⟨_, _, e⟩ := st; PySem.W.kcp_self e h
end
def iItemsW (td : TE) : TI := fun σ H R => td σ H fun x H1 => ∃ d ep kvs, x = .ref d ∧ H1 d = some (RwO d ep kvs) ∧ R (ItW d ep kvs) H1
theorem pi_itemsW {X : Cx} {e : Expr} {td : TE} {apos cpos : Pos} {elts : List Expr} {kk : Nat} {tpos : Pos} (he : PE X e td) (hbase : attributeBase e "items" X.env (eval e X.env) = eval e X.env := by rfl) (hline : (apos.endLine == cpos.line) = true := by rfl) :
    PI X (.Tuple elts kk tpos) (.Call (.Attribute e "items" apos) [] [] cpos) (iItemsW td) := by
  refine ⟨fun pins s σ H R I h => ?_⟩
  refine wpAny_Call_method (T := "dict") (id := "dict.items") hbase rfl hline F.plainAttrs_dict F.slot_dict_items F.type_dict_items (thn (he.run pins s σ H _ I h) fun u s1 ⟨x, H1, I1, rx, d, ep, kvs, ex, hd, q⟩ => ?_)
  subst ex
  obtain rfl : u = Value.ref d := rx
  obtain ⟨hs, hz, es, hm, k⟩ := rw_at I1.hok hd
  have hl := en_len k
  refine ⟨hm.typeIs, ?_, ?_⟩
  · intro a ea
    cases ea
    obtain ⟨o', e', x, _⟩ := hm
    exact ⟨o', e', x.2.1⟩
  have I2 : Inv X pins σ H1 { s1 with heap := s1.heap.push { cls := .type "dict_items", data := .fields #[.ref d] } } := I1.kept (t' := s1.toks) fun b ob q => Heap.get?_push_of_some _ q
  have fin : wpAny (model X.prog X.w) X.A (pyIter (.ref s1.heap.objs.size)) (PIE X pins σ (.Tuple elts kk tpos) R) X.xe { s1 with heap := s1.heap.push { cls := .type "dict_items", data := .fields #[.ref d] } } := by
    refine wpAny_pyIter_items_raw (d := d) (es := es) (ep := ep) ⟨_, Heap.get?_push_size _ rfl, rfl, rfl⟩ (hm.push _) (pi_one (tk := s1.toks) I2 _ (turn_itemsW _) ⟨.none, .none, ?_⟩ q)
    rw [hl]
    exact Heap.get?_push_size _ rfl
  show wpAny _ _ (callWith cpos (.builtin "dict.items") [.ref d] [] []) _ X.xe s1
  exact method_meetsIn F.slot_dict_items F.entry_dict_items rfl (PySem.evalArgs_none ⟨rfl, hm.typeIs, F.args_dict_items_1 _, _, meets_dict_items_raw d hs, ⟨es, ep, hm⟩, fin⟩)
end U
set_option maxHeartbeats 1000000
namespace U
open PySem PySem.Spec PyProof.Rows L2
/-! ### dict([(k, v)]), k None, a truth value, or a tuple of one int -/
def rDictW (K : PySem.W.Frag) : List V → Hp → VK → Prop := fun xs H Q => ∃ (a p : Addr) (x v : V), xs = [.ref a] ∧ SqL K H a [.ref p] ∧ SqT K H p [x, v] ∧ ((∃ k, x = oV k) ∨ ∃ (b : Addr) (i : Int), x = .ref b ∧ SqT K H b [.int i]) ∧
  ∀ q ep, H q = none → Q (.ref q) (upd H q (RwO q ep [(x, v)]))
theorem one_en {es : Array DictEntry} {x v : V} (h1 : es.size = 1) (h : ∀ hi : 0 < es.size, RelV x es[0].key ∧ RelV v es[0].val) : Paired EnR [(x, v)] es.toList := by
  obtain ⟨l⟩ := es
  match l, h1 with
  | [e], _ => exact .cons (h (by simp)) .nil
theorem call_dictW {X : Cx} (hc : X.calm = true) (hu : X.A.units + 2 < cLine) : CallR X (.type "dict") (rDictW X.K) := by
  intro pins s σ H xs us Q I r h
  obtain ⟨a, p, x, v, rfl, hq, hp, hx, q⟩ := h
  obtain ⟨u, rfl, rx⟩ := vals1 r
  obtain rfl : u = Value.ref a := rx
  obtain ⟨its, rv, pl, hz⟩ := I.list hq
  have ei := refs_at (ps := [p]) rv
  subst ei
  obtain ⟨its2, rv2, tp, _⟩ := I.tuple hp
  obtain ⟨kx, y, ei2, rk, ry⟩ := vals2 rv2
  subst ei2
  obtain ⟨o, n, ho, hcl, hd, hdat⟩ := pl
  have hsm : (s.heap.objs.size == sysModules) = false := beq_eq_false_iff_ne.mpr (Nat.ne_of_gt I.big)
  have PA := PySem.PairArg.list (prog := X.prog) (w := X.w) a (#[Value.ref p]) (fun _ => p) [(kx, y)]
  have ok : PySem.PlainSeq "list" s.heap a #[Value.ref p] ∧ PySem.PairItems s.heap #[Value.ref p] (fun _ => p) [(kx, y)] := by
    refine ⟨⟨o, n, ho, hcl, hd, hdat⟩, rfl, fun j k v e => ?_⟩
    match j, e with
    | 0, e =>
      cases e
      exact ⟨rfl, .inl tp⟩
  have fin : ∀ h' tk es ep, h'.DictRaw s.heap.objs.size es ep → Paired EnR [(x, v)] es.toList → (∀ b ob, s.heap.get? b = some ob → h'.get? b = some ob) → EP X pins σ Q (.ref s.heap.objs.size) { s with heap := h', toks := tk } := fun h' tk es ep dr pe k =>
    ⟨.ref s.heap.objs.size, upd H s.heap.objs.size (RwO s.heap.objs.size ep [(x, v)]), I.laid (t' := tk) k (Nat.le_refl _) (rwO_ok hsm (by show 1 ≤ sizeLine; decide) dr pe), rfl, q _ ep (I.hok.fresh (Nat.le_refl _))⟩
  rcases hx with ⟨k, rfl⟩ | ⟨b, i, rfl, hb⟩
  · have ek := oV_val rk
    subst ek
    refine PySem.call_dict_pairs (knd := oddK X.prog X.w) (kvs := [(k, y)]) PA (I.ok.hd hc) ok ⟨rfl, fun j key w e => ?_⟩ (by show 1 ≤ sizeLine; decide) fun h' tk hd' hk => ?_
    · match j, e with
      | 0, e =>
        cases e
        exact ⟨k, rfl, isO_self k⟩
    · obtain ⟨es, ep, dr, hs, hx⟩ := hd'.raw
      refine fin h' tk es ep dr (one_en hs fun hi => ?_) (fun b ob e => hk b ob (by simp) e)
      obtain ⟨h1, h2⟩ := hx 0 hi k y rfl
      rw [isO_shape h1, h2]
      exact ⟨oV_rel k, ry⟩
  · cases (show kx = Value.ref b from rk)
    obtain ⟨its3, rv3, tp3, _⟩ := I.tuple hb
    obtain ⟨z, ei3, rz⟩ := vals1 rv3
    subst ei3
    have key : ∀ h', (∀ b o, s.heap.get? b = some o → h'.get? b = some o) → IsTupleKey (mixKind X.prog X.w) h' [Sum.inl i] b := fun h' k => by
      obtain ⟨o3, ho3, hc3, n3, hd3⟩ := tp3
      exact ⟨o3, _, n3, k _ _ ho3, hc3, hd3, .cons (kV_is (P := X.prog) (w := X.w) (k := Sum.inl i) rz) .nil⟩
    refine PySem.call_dict_pairsH (knd := tupleKind (mixKind X.prog X.w)) (ps := [([Sum.inl i], b, y)]) PA (I.ok.hd hc) (by show X.A.units + 1 + 1 < cLine; exact hu) ok ⟨rfl, fun j key w e => ?_⟩ (fun h' hk x hx => ?_) (by show 1 ≤ sizeLine; decide) fun h' tk hd' hk => ?_
    · match j, e with
      | 0, e =>
        cases e
        exact ⟨_, b, rfl, rfl⟩
    · rw [List.mem_singleton.mp hx]
      have hlt : b < s.heap.objs.size := by
        obtain ⟨o3, ho3, _⟩ := tp3
        exact Heap.lt_size ho3
      obtain ⟨o3, ho3, hc3, n3, hd3⟩ := tp3
      exact ⟨o3, _, n3, hk _ _ (Nat.ne_of_lt hlt) (by simp) ho3, hc3, hd3, .cons (kV_is (P := X.prog) (w := X.w) (k := Sum.inl i) rz) .nil⟩
    · obtain ⟨es, ep, dr, hs, hx⟩ := hd'.raw
      refine fin h' tk es ep dr (one_en hs fun hi => ?_) (fun b ob e => hk b ob (by simp) e)
      obtain ⟨y', e1, e2, e3, _⟩ := hx 0 hi
      cases e1
      rw [e2, e3]
      exact ⟨rfl, ry⟩
/-! ### bool(o) by the own __bool__ -/
def rBoolO (C : Addr) (sp : Sp) (E : XK) : List V → Hp → VK → Prop := fun xs H Q => ∃ a dx fs, xs = [.ref a] ∧ H a = some (.ins C dx fs) ∧ sp [.ref a] H (fun v H' => ∃ b, v = .bl b ∧ Q (.bl b) H') E
theorem call_boolO {X : Cx} {CX : CXT} {n : Nat} {C g : Addr} {sp : Sp} {E : XK} (hs : PySem.W.findIn X.K (.ref C) "__bool__" = some (some (.ref g))) (hf : PySem.W.isFn X.K (.ref g) = true) (F : FnR X.prog X.w X.K X.mg X.base CX n g sp) (hr : Room (n + 2) X.A) (hx : Passes CX X E) : CallR X (.type "bool") (rBoolO C sp E) := by
  intro pins s σ H xs us Q I r h
  obtain ⟨a, dx, fs, rfl, ha, q⟩ := h
  obtain rfl := Vals.ref1 r
  obtain ⟨ox, od, J⟩ := ins_inst I ha
  obtain ⟨m, hF⟩ := I.fr
  refine callType_codes (Q₁ := fun obj s₁ => ∃ b, obj = Value.bool b ∧ EP X pins σ Q (.bool b) s₁) PySem.F.called_bool (PySem.F.typeCall_bool_1 _) PySem.F.entry_object_init ?_ fun obj s₁ h₁ => ?_
  · have run : wpAny (model X.prog X.w) X.A.in1.in1 (call (.ref g) [.ref a]) (PySem.W.BoolBack fun b s' => EP X pins σ Q (.bool b) s') X.xe s := by
      refine wpAny_mono (wpAny_call (SlX.run_at (us := [.ref a]) (ws := [.ref a]) F (Room.in1 (Room.in1 hr)) I.env0.in1.in1 hx I (.cons rfl .nil) q)) (fun w s' z => ?_) fun _ _ x => x
      obtain ⟨z', H', I', rz, b, ez, qz⟩ := z
      subst ez
      cases (show w = Value.bool b from rz)
      exact ⟨.bl b, H', I', rfl, qz⟩
    have tr : wpAny (model X.prog X.w) X.A.in1.in1 (truthy (.ref a)) (fun b s' => EP X pins σ Q (.bool b) s') X.xe s := PySem.W.truthy_K hF I.ok.mod.kin J hs hf run
    have f1 := PySem.F.conv_sub_bool
    refine codeAny_call_builtin PySem.F.called_bool.plain PySem.F.entry_bool_new (wpAny_of_eq (PySem.F.newCall_bool_1 _) ?_)
    unfold Builtin.«bool.__new__»
    clear run
    repeat (any_goals (first | assumption | (with_reducible refine wpAny_mono tr (fun b s' hb => ?_) (fun _ _ x => ?_)) | wp_step))
    all_goals first | exact ⟨_, rfl, hb⟩ | exact x | skip
  · obtain ⟨b, rfl, q1⟩ := h₁
    refine ⟨rfl, PySem.F.args_object_init_2 _ _, ?_⟩
    exact (object_init_meets PySem.F.called_bool.init.lookup PySem.F.called_bool.made (by decide)) X.prog X.w X.A.in1 _ s₁ ⟨rfl, rfl, q1⟩
/-- bool(d) -/
def rBoolD : List V → Hp → VK → Prop := fun xs H Q => ∃ (a : Addr) (kvs : List (Key × V)), xs = [.ref a] ∧ H a = some (.dK kvs) ∧ Q (.bl (!kvs.isEmpty)) H
theorem call_boolD {X : Cx} : CallR X (.type "bool") rBoolD := by
  intro pins s σ H xs us Q I r h
  obtain ⟨a, kvs, rfl, ha, q⟩ := h
  obtain rfl := Vals.ref1 r
  refine callType_codes (Q₁ := fun obj s₁ => ∃ b, obj = Value.bool b ∧ EP X pins σ Q (.bool b) s₁) PySem.F.called_bool (PySem.F.typeCall_bool_1 _) PySem.F.entry_object_init ?_ fun obj s₁ h₁ => ?_
  · have tr : wpAny (model X.prog X.w) X.A.in1.in1 (truthy (.ref a)) (fun b s' => EP X pins σ Q (.bool b) s') X.xe s := d_truth I (.inl ha) fun s' I' => ⟨.bl _, H, I', rfl, q⟩
    have f1 := PySem.F.conv_sub_bool
    refine codeAny_call_builtin PySem.F.called_bool.plain PySem.F.entry_bool_new (wpAny_of_eq (PySem.F.newCall_bool_1 _) ?_)
    unfold Builtin.«bool.__new__»
    repeat (any_goals (first | assumption | (with_reducible refine wpAny_mono tr (fun b s' hb => ?_) (fun _ _ x => ?_)) | wp_step))
    all_goals first | exact ⟨_, rfl, hb⟩ | exact x | skip
  · obtain ⟨b, rfl, q1⟩ := h₁
    refine ⟨rfl, PySem.F.args_object_init_2 _ _, ?_⟩
    exact (object_init_meets PySem.F.called_bool.init.lookup PySem.F.called_bool.made (by decide)) X.prog X.w X.A.in1 _ s₁ ⟨rfl, rfl, q1⟩
/-! ### len(set(xs)), a list of ints -/
def fmet (ns : List Int) : List Int := firstMet (fun i => ns.getD i 0) ns.length
def tLenSetI (K : PySem.W.Frag) (ta : TE) : TE := fun σ H Q => ta σ H fun x H1 => ∃ (l : Addr) (ns : List Int), x = .ref l ∧ SqL K H1 l (ns.map V.int) ∧ ns.length ≤ 1000 ∧ Q (.int (fmet ns).length) H1
theorem pe_lenSetI {X : Cx} {a : Expr} {ta : TE} {p p2 q pos : Pos} (hc : X.calm = true) (hg : Gl X "len") (hm : X.mg "len" = none) (hg2 : Gl X "set") (hm2 : X.mg "set" = none) (ha : PE X a ta)
    (na : starEach [a] X.env = (false, eval a X.env) :: starEach [] X.env := by rfl) : PE X (.Call (.Name "len" p) [.Call (.Name "set" p2) [a] [] q] [] pos) (tLenSetI X.K ta) := by
  refine ⟨fun pins s σ H Q I h => ?_⟩
  refine Call_ (ld_blt I hg hm boot_len ?_)
  refine PyProof.Rows.callWith_builtin1 (PyProof.Rows.args_cons ?_ rfl) rfl rfl
  refine Call_ (ld_blt I hg2 hm2 boot_set ?_)
  refine PyProof.Rows.callWith_type1 (PyProof.Rows.args_cons (thn (ha.run pins s σ H _ I h) fun v s1 ⟨x, H1, I1, r1, q1⟩ => PyProof.Rows.args_nil ?_) na) na rfl
  obtain ⟨l, ns, rfl, hq, h1, q1⟩ := q1
  cases r1
  obtain ⟨its, r, pl, hz⟩ := I1.list hq
  have hi : IntsAre its.toArray.toList ns := ints_of_vals r
  have hl : its.toArray.size = ns.length := by rw [List.size_toArray, ← r.length, List.length_map]
  refine PySem.call_set_list (I1.ok.hd hc) pl.isList hi (by rw [hl]; unfold scanBound; omega) fun h' tk hS hk => ?_
  refine PyProof.Rows.args_nil ?_
  rw [hl] at hS
  obtain ⟨o, es, ep, t, ho, hex, hd, _, _, _, hf, hn⟩ := hS
  have I2 : Inv X pins σ H1 { s1 with heap := h', toks := tk } := I1.kept fun b o e => hk b o (Heap.lt_size e) e
  have hle := firstMet_length_le (fun i => ns.getD i 0) ns.length
  refine call_len_set ho hex hd hf (by rw [hn]; omega) ⟨.int (fmet ns).length, H1, I2.tok _, ⟨_, by rw [hn]; rfl⟩, q1⟩
theorem fmet_nodup {ns : List Int} (h : ns.Nodup) : (fmet ns).length = ns.length := by
  have key : ∀ k, k ≤ ns.length → firstMet (fun i => ns.getD i 0) k = ns.take k := by
    intro k
    induction k with
    | zero => intro _; rw [firstMet_zero, List.take_zero]
    | succ k ih =>
      intro hk
      rw [firstMet_succ, ih (by omega)]
      have e : ns.getD k 0 = ns[k] := by rw [List.getD_eq_getElem?_getD, List.getElem?_eq_getElem (by omega)]; rfl
      rw [List.take_add_one, List.getElem?_eq_getElem (by omega)]
      unfold step_dedup
      rw [e]
      have hn : ns[k] ∉ ns.take k := fun hm => by
        obtain ⟨j, hj, ej⟩ := List.mem_iff_getElem.mp hm
        rw [List.length_take] at hj
        rw [List.getElem_take] at ej
        have := (List.getElem_inj h).mp ej
        omega
      simp [hn]
  unfold fmet
  rw [key _ (Nat.le_refl _), List.take_length]
end U
namespace My
open PySem L2
def top (i : Nat) : Stmt := PySem.Challenge.pw_chainmaps_k01_map_objects.main.body.getD i (.Pass ⟨0, 0, 0, 0⟩)
abbrev s_is_integer : Stmt := top 10
abbrev n_is_integer : List Str := ["value"]
theorem sc_is_integer : FnScope n_is_integer ["value"] (defScope s_is_integer) := ⟨rfl, rfl, rfl, by decide +kernel, rfl, by decide +kernel, by decide +kernel⟩
abbrev s_in_range : Stmt := top 11
abbrev n_in_range : List Str := ["value", "least", "most"]
theorem sc_in_range : FnScope n_in_range ["value", "least", "most"] (defScope s_in_range) := ⟨rfl, rfl, rfl, by decide +kernel, rfl, by decide +kernel, by decide +kernel⟩
abbrev s_are_arrows : Stmt := top 13
abbrev n_are_arrows : List Str := ["size", "arrows", "targets", "source", "target"]
theorem sc_are_arrows : FnScope n_are_arrows ["size", "arrows"] (defScope s_are_arrows) := ⟨rfl, rfl, rfl, by decide +kernel, rfl, by decide +kernel, by decide +kernel⟩
abbrev s_Map__init : Stmt := inClass (top 17) 0
abbrev n_Map__init : List Str := ["self", "size", "arrows", "source"]
theorem sc_Map__init : FnScope n_Map__init ["self", "size", "arrows"] (defScope s_Map__init) := ⟨rfl, rfl, rfl, by decide +kernel, rfl, by decide +kernel, by decide +kernel⟩
abbrev s_Map_size : Stmt := inClass (top 17) 6
abbrev n_Map_size : List Str := ["self"]
theorem sc_Map_size : FnScope n_Map_size ["self"] (defScope s_Map_size) := ⟨rfl, rfl, rfl, by decide +kernel, rfl, by decide +kernel, by decide +kernel⟩
abbrev s_Map_arrows : Stmt := inClass (top 17) 7
abbrev n_Map_arrows : List Str := ["self"]
theorem sc_Map_arrows : FnScope n_Map_arrows ["self"] (defScope s_Map_arrows) := ⟨rfl, rfl, rfl, by decide +kernel, rfl, by decide +kernel, by decide +kernel⟩
abbrev s_Map__bool : Stmt := inClass (top 17) 23
abbrev n_Map__bool : List Str := ["self"]
theorem sc_Map__bool : FnScope n_Map__bool ["self"] (defScope s_Map__bool) := ⟨rfl, rfl, rfl, by decide +kernel, rfl, by decide +kernel, by decide +kernel⟩
abbrev s_Map__len : Stmt := inClass (top 17) 24
abbrev n_Map__len : List Str := ["self"]
theorem sc_Map__len : FnScope n_Map__len ["self"] (defScope s_Map__len) := ⟨rfl, rfl, rfl, by decide +kernel, rfl, by decide +kernel, by decide +kernel⟩
abbrev s_Map__eq : Stmt := inClass (top 17) 25
abbrev n_Map__eq : List Str := ["self", "other"]
theorem sc_Map__eq : FnScope n_Map__eq ["self", "other"] (defScope s_Map__eq) := ⟨rfl, rfl, rfl, by decide +kernel, rfl, by decide +kernel, by decide +kernel⟩
abbrev s_Map__repr : Stmt := inClass (top 17) 26
abbrev n_Map__repr : List Str := ["self"]
theorem sc_Map__repr : FnScope n_Map__repr ["self"] (defScope s_Map__repr) := ⟨rfl, rfl, rfl, by decide +kernel, rfl, by decide +kernel, by decide +kernel⟩
abbrev s_InvalidMap__init : Stmt := inClass (top 2) 0
abbrev n_InvalidMap__init : List Str := ["self", "part"]
theorem sc_InvalidMap__init : FnScope n_InvalidMap__init ["self", "part"] (defScope s_InvalidMap__init) := ⟨rfl, rfl, rfl, by decide +kernel, rfl, by decide +kernel, by decide +kernel⟩
abbrev s_l_hand : Stmt := top 21
abbrev n_l_hand : List Str := ["_law_script", "_law_k", "_law_cell", "_law_seed"]
theorem sc_l_hand : FnScope n_l_hand ["_law_script", "_law_k"] (defScope s_l_hand) := ⟨rfl, rfl, rfl, by decide +kernel, rfl, by decide +kernel, by decide +kernel⟩
abbrev s_l_draw : Stmt := top 22
abbrev n_l_draw : List Str := ["_law_pool", "_law_size", "_law_found"]
theorem sc_l_draw : FnScope n_l_draw ["_law_pool", "_law_size"] (defScope s_l_draw) := ⟨rfl, rfl, rfl, by decide +kernel, rfl, by decide +kernel, by decide +kernel⟩
abbrev s_l_arrows : Stmt := top 23
abbrev n_l_arrows : List Str := ["_law_pool", "_law_size", "_law_way", "_law_left", "_law_found", "_law_source"]
theorem sc_l_arrows : FnScope n_l_arrows ["_law_pool", "_law_size", "_law_way"] (defScope s_l_arrows) := ⟨rfl, rfl, rfl, by decide +kernel, rfl, by decide +kernel, by decide +kernel⟩
abbrev s_l_made : Stmt := top 24
abbrev n_l_made : List Str := ["_law_size", "_law_arrows_here", "e"]
theorem sc_l_made : FnScope n_l_made ["_law_size", "_law_arrows_here"] (defScope s_l_made) := ⟨rfl, rfl, rfl, by decide +kernel, rfl, by decide +kernel, by decide +kernel⟩
abbrev s_l_bent : Stmt := top 25
abbrev n_l_bent : List Str := ["_law_pool", "_law_size", "_law_arrows_here", "_law_at", "_law_odd", "_law_some", "_law_way"]
theorem sc_l_bent : FnScope n_l_bent ["_law_pool", "_law_size", "_law_arrows_here"] (defScope s_l_bent) := ⟨rfl, rfl, rfl, by decide +kernel, rfl, by decide +kernel, by decide +kernel⟩
abbrev s_l_good : Stmt := top 26
abbrev n_l_good : List Str := ["_law_size", "_law_arrows_here", "_law_numbers", "_law_target", "_law_number"]
theorem sc_l_good : FnScope n_l_good ["_law_size", "_law_arrows_here"] (defScope s_l_good) := ⟨rfl, rfl, rfl, by decide +kernel, rfl, by decide +kernel, by decide +kernel⟩
abbrev s_l_shown : Stmt := top 27
abbrev n_l_shown : List Str := ["_law_given", "_law_size", "_law_arrows_here", "_law_rows", "_law_other", "_law_less", "_law_source"]
theorem sc_l_shown : FnScope n_l_shown ["_law_given", "_law_size", "_law_arrows_here"] (defScope s_l_shown) := ⟨rfl, rfl, rfl, by decide +kernel, rfl, by decide +kernel, by decide +kernel⟩
abbrev s_law : Stmt := top 28
abbrev n_law : List Str := ["_law_script", "_law_whole", "_law_k", "_law_pool", "_law_size", "_law_arrows_here", "_law_odd", "_law_thing", "_law_told", "_law_kept", "_law_given", "_law_number", "_law_turn"]
theorem sc_law : FnScope n_law ["_law_script"] (defScope s_law) := ⟨rfl, rfl, rfl, by decide +kernel, rfl, by decide +kernel, by decide +kernel⟩
set_option genInjectivity false
set_option genSizeOf false
structure Txt (K : PySem.W.Frag) (mg : Str → Option Value) where
  f_is_integer : Addr
  f_in_range : Addr
  f_are_arrows : Addr
  f_l_hand : Addr
  f_l_draw : Addr
  f_l_arrows : Addr
  f_l_made : Addr
  f_l_bent : Addr
  f_l_good : Addr
  f_l_shown : Addr
  f_law : Addr
  C_Map : Addr
  f_Map__init : Addr
  p_Map_size : Addr
  f_Map_size : Addr
  p_Map_arrows : Addr
  f_Map_arrows : Addr
  f_Map__bool : Addr
  f_Map__len : Addr
  f_Map__eq : Addr
  f_Map__repr : Addr
  C_InvalidMap : Addr
  f_InvalidMap__init : Addr
  A_is_integer : U.FnAt K "is_integer" "is_integer" s_is_integer f_is_integer ["value"]
  g_is_integer : mg "is_integer" = some (.ref f_is_integer)
  A_in_range : U.FnAt K "in_range" "in_range" s_in_range f_in_range ["value", "least", "most"]
  g_in_range : mg "in_range" = some (.ref f_in_range)
  A_are_arrows : U.FnAt K "are_arrows" "are_arrows" s_are_arrows f_are_arrows ["size", "arrows"]
  g_are_arrows : mg "are_arrows" = some (.ref f_are_arrows)
  A_l_hand : U.FnAt K "_law_hand" "_law_hand" s_l_hand f_l_hand ["_law_script", "_law_k"]
  g_l_hand : mg "_law_hand" = some (.ref f_l_hand)
  A_l_draw : U.FnAt K "_law_draw" "_law_draw" s_l_draw f_l_draw ["_law_pool", "_law_size"]
  g_l_draw : mg "_law_draw" = some (.ref f_l_draw)
  A_l_arrows : U.FnAt K "_law_arrows" "_law_arrows" s_l_arrows f_l_arrows ["_law_pool", "_law_size", "_law_way"]
  g_l_arrows : mg "_law_arrows" = some (.ref f_l_arrows)
  A_l_made : U.FnAt K "_law_made" "_law_made" s_l_made f_l_made ["_law_size", "_law_arrows_here"]
  g_l_made : mg "_law_made" = some (.ref f_l_made)
  A_l_bent : U.FnAt K "_law_bent" "_law_bent" s_l_bent f_l_bent ["_law_pool", "_law_size", "_law_arrows_here"]
  g_l_bent : mg "_law_bent" = some (.ref f_l_bent)
  A_l_good : U.FnAt K "_law_good" "_law_good" s_l_good f_l_good ["_law_size", "_law_arrows_here"]
  g_l_good : mg "_law_good" = some (.ref f_l_good)
  A_l_shown : U.FnAt K "_law_shown" "_law_shown" s_l_shown f_l_shown ["_law_given", "_law_size", "_law_arrows_here"]
  g_l_shown : mg "_law_shown" = some (.ref f_l_shown)
  A_law : U.FnAt K "law" "law" s_law f_law ["_law_script"]
  L_law : ∃ fd, Fun K "law" "law" s_law f_law fd ∧ ∀ (s : Shared) (u : Value), BindsTo s fd ⟨[u], []⟩ [("_law_script", u)]
  g_law : mg "law" = some (.ref f_law)
  g_Map : mg "Map" = some (.ref C_Map)
  o_Map : U.OwnC K C_Map
  kit_int_Map : PySem.W.kitOne K (.ref C_Map) (.type "int") = some false
  kit_bool_Map : PySem.W.kitOne K (.ref C_Map) (.type "bool") = some false
  kn_NoneType_Map : PySem.W.kitOne K (.type "NoneType") (.ref C_Map) = some false
  nf_NoneType_Map : PySem.W.notFirst K C_Map (.type "NoneType") = true
  kn_int_Map : PySem.W.kitOne K (.type "int") (.ref C_Map) = some false
  nf_int_Map : PySem.W.notFirst K C_Map (.type "int") = true
  kn_bool_Map : PySem.W.kitOne K (.type "bool") (.ref C_Map) = some false
  nf_bool_Map : PySem.W.notFirst K C_Map (.type "bool") = true
  kn_str_Map : PySem.W.kitOne K (.type "str") (.ref C_Map) = some false
  nf_str_Map : PySem.W.notFirst K C_Map (.type "str") = true
  kn_list_Map : PySem.W.kitOne K (.type "list") (.ref C_Map) = some false
  nf_list_Map : PySem.W.notFirst K C_Map (.type "list") = true
  kn_dict_Map : PySem.W.kitOne K (.type "dict") (.ref C_Map) = some false
  nf_dict_Map : PySem.W.notFirst K C_Map (.type "dict") = true
  kn_tuple_Map : PySem.W.kitOne K (.type "tuple") (.ref C_Map) = some false
  nf_tuple_Map : PySem.W.notFirst K C_Map (.type "tuple") = true
  self_Map : PySem.W.kitOne K (.ref C_Map) (.ref C_Map) = some true
  na_own_size_Map : NoAttr K C_Map "own_size"
  na_own_arrows_Map : NoAttr K C_Map "own_arrows"
  ne_Map : PySem.W.findIn K (.ref C_Map) "__ne__" = some (some (.builtin "object.__ne__"))
  A_Map__init : U.FnAt K "__init__" "Map.__init__" s_Map__init f_Map__init ["self", "size", "arrows"]
  m_Map__init : PySem.W.findIn K (.ref C_Map) "__init__" = some (some (.ref f_Map__init))
  i_Map__init : PySem.W.isFn K (.ref f_Map__init) = true
  M_Map : Mk K C_Map f_Map__init
  A_Map_size : U.FnAt K "size" "Map.size" s_Map_size f_Map_size ["self"]
  P_Map_size : PropOf K C_Map "size" p_Map_size f_Map_size
  A_Map_arrows : U.FnAt K "arrows" "Map.arrows" s_Map_arrows f_Map_arrows ["self"]
  P_Map_arrows : PropOf K C_Map "arrows" p_Map_arrows f_Map_arrows
  A_Map__bool : U.FnAt K "__bool__" "Map.__bool__" s_Map__bool f_Map__bool ["self"]
  m_Map__bool : PySem.W.findIn K (.ref C_Map) "__bool__" = some (some (.ref f_Map__bool))
  i_Map__bool : PySem.W.isFn K (.ref f_Map__bool) = true
  A_Map__len : U.FnAt K "__len__" "Map.__len__" s_Map__len f_Map__len ["self"]
  m_Map__len : PySem.W.findIn K (.ref C_Map) "__len__" = some (some (.ref f_Map__len))
  i_Map__len : PySem.W.isFn K (.ref f_Map__len) = true
  A_Map__eq : U.FnAt K "__eq__" "Map.__eq__" s_Map__eq f_Map__eq ["self", "other"]
  m_Map__eq : PySem.W.findIn K (.ref C_Map) "__eq__" = some (some (.ref f_Map__eq))
  i_Map__eq : PySem.W.isFn K (.ref f_Map__eq) = true
  A_Map__repr : U.FnAt K "__repr__" "Map.__repr__" s_Map__repr f_Map__repr ["self"]
  m_Map__repr : PySem.W.findIn K (.ref C_Map) "__repr__" = some (some (.ref f_Map__repr))
  i_Map__repr : PySem.W.isFn K (.ref f_Map__repr) = true
  g_InvalidMap : mg "InvalidMap" = some (.ref C_InvalidMap)
  x_InvalidMap : OexG K C_InvalidMap
  xf_InvalidMap : XfC K C_InvalidMap
  xe_InvalidMap : ExcC K C_InvalidMap
  te_InvalidMap : PySem.W.exmOne K (.ref C_InvalidMap) (.ref C_InvalidMap) = some true
  kit_ValueError_InvalidMap : PySem.W.kitOne K (.ref C_InvalidMap) (.type "ValueError") = some true
  na_part_InvalidMap : PySem.W.findIn K (.ref C_InvalidMap) "part" = some none
  A_InvalidMap__init : U.FnAt K "__init__" "InvalidMap.__init__" s_InvalidMap__init f_InvalidMap__init ["self", "part"]
  m_InvalidMap__init : PySem.W.findIn K (.ref C_InvalidMap) "__init__" = some (some (.ref f_InvalidMap__init))
  ti_InvalidMap__init : PySem.W.typeIn K (.ref f_InvalidMap__init) = some (.type "function")
  n_isinstance : mg "isinstance" = none
  n_int : mg "int" = none
  n_bool : mg "bool" = none
  n_dict : mg "dict" = none
  n_len : mg "len" = none
  n_range : mg "range" = none
  n_list : mg "list" = none
  n_max : mg "max" = none
  n_min : mg "min" = none
  n_repr : mg "repr" = none
  n_str : mg "str" = none
  n_set : mg "set" = none
  n_ValueError : mg "ValueError" = none
  v_MAX_SIZE : ∃ t, mg "MAX_SIZE" = some (.int 300 t)
theorem mk_txt {K : PySem.W.Frag} {h : Heap} {mg : Str → Option Value} (X : K.In h) (G : h.Ns mainGlobals mg)
    {f_is_integer : Addr} {oc_is_integer kV_is_integer dc_is_integer pm_is_integer cd_is_integer ct_is_integer : Value} {od_is_integer an_is_integer : Option Addr} {sl_is_integer : Array (Option Value)}
    {f_in_range : Addr} {oc_in_range kV_in_range dc_in_range pm_in_range cd_in_range ct_in_range : Value} {od_in_range an_in_range : Option Addr} {sl_in_range : Array (Option Value)}
    {f_are_arrows : Addr} {oc_are_arrows kV_are_arrows dc_are_arrows pm_are_arrows cd_are_arrows ct_are_arrows : Value} {od_are_arrows an_are_arrows : Option Addr} {sl_are_arrows : Array (Option Value)}
    {f_l_hand : Addr} {oc_l_hand kV_l_hand dc_l_hand pm_l_hand cd_l_hand ct_l_hand : Value} {od_l_hand an_l_hand : Option Addr} {sl_l_hand : Array (Option Value)}
    {f_l_draw : Addr} {oc_l_draw kV_l_draw dc_l_draw pm_l_draw cd_l_draw ct_l_draw : Value} {od_l_draw an_l_draw : Option Addr} {sl_l_draw : Array (Option Value)}
    {f_l_arrows : Addr} {oc_l_arrows kV_l_arrows dc_l_arrows pm_l_arrows cd_l_arrows ct_l_arrows : Value} {od_l_arrows an_l_arrows : Option Addr} {sl_l_arrows : Array (Option Value)}
    {f_l_made : Addr} {oc_l_made kV_l_made dc_l_made pm_l_made cd_l_made ct_l_made : Value} {od_l_made an_l_made : Option Addr} {sl_l_made : Array (Option Value)}
    {f_l_bent : Addr} {oc_l_bent kV_l_bent dc_l_bent pm_l_bent cd_l_bent ct_l_bent : Value} {od_l_bent an_l_bent : Option Addr} {sl_l_bent : Array (Option Value)}
    {f_l_good : Addr} {oc_l_good kV_l_good dc_l_good pm_l_good cd_l_good ct_l_good : Value} {od_l_good an_l_good : Option Addr} {sl_l_good : Array (Option Value)}
    {f_l_shown : Addr} {oc_l_shown kV_l_shown dc_l_shown pm_l_shown cd_l_shown ct_l_shown : Value} {od_l_shown an_l_shown : Option Addr} {sl_l_shown : Array (Option Value)}
    {f_law : Addr} {oc_law kV_law dc_law pm_law cd_law ct_law : Value} {od_law an_law : Option Addr} {sl_law : Array (Option Value)}
    {C_Map : Addr}
    {f_Map__init : Addr} {oc_Map__init kV_Map__init dc_Map__init pm_Map__init cd_Map__init ct_Map__init : Value} {od_Map__init an_Map__init : Option Addr} {sl_Map__init : Array (Option Value)}
    {p_Map_size : Addr} {r_Map_size : List Value}
    {f_Map_size : Addr} {oc_Map_size kV_Map_size dc_Map_size pm_Map_size cd_Map_size ct_Map_size : Value} {od_Map_size an_Map_size : Option Addr} {sl_Map_size : Array (Option Value)}
    {p_Map_arrows : Addr} {r_Map_arrows : List Value}
    {f_Map_arrows : Addr} {oc_Map_arrows kV_Map_arrows dc_Map_arrows pm_Map_arrows cd_Map_arrows ct_Map_arrows : Value} {od_Map_arrows an_Map_arrows : Option Addr} {sl_Map_arrows : Array (Option Value)}
    {f_Map__bool : Addr} {oc_Map__bool kV_Map__bool dc_Map__bool pm_Map__bool cd_Map__bool ct_Map__bool : Value} {od_Map__bool an_Map__bool : Option Addr} {sl_Map__bool : Array (Option Value)}
    {f_Map__len : Addr} {oc_Map__len kV_Map__len dc_Map__len pm_Map__len cd_Map__len ct_Map__len : Value} {od_Map__len an_Map__len : Option Addr} {sl_Map__len : Array (Option Value)}
    {f_Map__eq : Addr} {oc_Map__eq kV_Map__eq dc_Map__eq pm_Map__eq cd_Map__eq ct_Map__eq : Value} {od_Map__eq an_Map__eq : Option Addr} {sl_Map__eq : Array (Option Value)}
    {f_Map__repr : Addr} {oc_Map__repr kV_Map__repr dc_Map__repr pm_Map__repr cd_Map__repr ct_Map__repr : Value} {od_Map__repr an_Map__repr : Option Addr} {sl_Map__repr : Array (Option Value)}
    {C_InvalidMap : Addr} {nm_InvalidMap q_InvalidMap : Str} {N_InvalidMap : Addr} {bs_InvalidMap : List Value} {sn_InvalidMap : List Str} {sub_InvalidMap : List Value} {ab_InvalidMap : Bool} {col_InvalidMap : Option Bool} {dd_InvalidMap : Option Addr} {m0_InvalidMap m1_InvalidMap m2_InvalidMap m3_InvalidMap m5_InvalidMap : Option Value}
    {f_InvalidMap__init : Addr} {oc_InvalidMap__init kV_InvalidMap__init dc_InvalidMap__init pm_InvalidMap__init cd_InvalidMap__init ct_InvalidMap__init : Value} {od_InvalidMap__init an_InvalidMap__init : Option Addr} {sl_InvalidMap__init : Array (Option Value)}
    {t_MAX_SIZE : Tok}
    (a_is_integer : PySem.W.nsIn K mainGlobals "is_integer" = some (some (.ref f_is_integer)))
    (l_is_integer : K.lookup f_is_integer = some ⟨oc_is_integer, od_is_integer, .func (PySem.W.fnOf "is_integer" "is_integer" (defArgs s_is_integer) (defBody s_is_integer) (defScope s_is_integer) .none kV_is_integer dc_is_integer pm_is_integer an_is_integer cd_is_integer ct_is_integer), sl_is_integer⟩)
    (c_is_integer : PySem.W.codeIn K cd_is_integer "is_integer" = true)
    (k_is_integer : PySem.W.keepIn K (.ref f_is_integer) = true)
    (a_in_range : PySem.W.nsIn K mainGlobals "in_range" = some (some (.ref f_in_range)))
    (l_in_range : K.lookup f_in_range = some ⟨oc_in_range, od_in_range, .func (PySem.W.fnOf "in_range" "in_range" (defArgs s_in_range) (defBody s_in_range) (defScope s_in_range) .none kV_in_range dc_in_range pm_in_range an_in_range cd_in_range ct_in_range), sl_in_range⟩)
    (c_in_range : PySem.W.codeIn K cd_in_range "in_range" = true)
    (k_in_range : PySem.W.keepIn K (.ref f_in_range) = true)
    (a_are_arrows : PySem.W.nsIn K mainGlobals "are_arrows" = some (some (.ref f_are_arrows)))
    (l_are_arrows : K.lookup f_are_arrows = some ⟨oc_are_arrows, od_are_arrows, .func (PySem.W.fnOf "are_arrows" "are_arrows" (defArgs s_are_arrows) (defBody s_are_arrows) (defScope s_are_arrows) .none kV_are_arrows dc_are_arrows pm_are_arrows an_are_arrows cd_are_arrows ct_are_arrows), sl_are_arrows⟩)
    (c_are_arrows : PySem.W.codeIn K cd_are_arrows "are_arrows" = true)
    (k_are_arrows : PySem.W.keepIn K (.ref f_are_arrows) = true)
    (a_l_hand : PySem.W.nsIn K mainGlobals "_law_hand" = some (some (.ref f_l_hand)))
    (l_l_hand : K.lookup f_l_hand = some ⟨oc_l_hand, od_l_hand, .func (PySem.W.fnOf "_law_hand" "_law_hand" (defArgs s_l_hand) (defBody s_l_hand) (defScope s_l_hand) .none kV_l_hand dc_l_hand pm_l_hand an_l_hand cd_l_hand ct_l_hand), sl_l_hand⟩)
    (c_l_hand : PySem.W.codeIn K cd_l_hand "_law_hand" = true)
    (k_l_hand : PySem.W.keepIn K (.ref f_l_hand) = true)
    (a_l_draw : PySem.W.nsIn K mainGlobals "_law_draw" = some (some (.ref f_l_draw)))
    (l_l_draw : K.lookup f_l_draw = some ⟨oc_l_draw, od_l_draw, .func (PySem.W.fnOf "_law_draw" "_law_draw" (defArgs s_l_draw) (defBody s_l_draw) (defScope s_l_draw) .none kV_l_draw dc_l_draw pm_l_draw an_l_draw cd_l_draw ct_l_draw), sl_l_draw⟩)
    (c_l_draw : PySem.W.codeIn K cd_l_draw "_law_draw" = true)
    (k_l_draw : PySem.W.keepIn K (.ref f_l_draw) = true)
    (a_l_arrows : PySem.W.nsIn K mainGlobals "_law_arrows" = some (some (.ref f_l_arrows)))
    (l_l_arrows : K.lookup f_l_arrows = some ⟨oc_l_arrows, od_l_arrows, .func (PySem.W.fnOf "_law_arrows" "_law_arrows" (defArgs s_l_arrows) (defBody s_l_arrows) (defScope s_l_arrows) .none kV_l_arrows dc_l_arrows pm_l_arrows an_l_arrows cd_l_arrows ct_l_arrows), sl_l_arrows⟩)
    (c_l_arrows : PySem.W.codeIn K cd_l_arrows "_law_arrows" = true)
    (k_l_arrows : PySem.W.keepIn K (.ref f_l_arrows) = true)
    (a_l_made : PySem.W.nsIn K mainGlobals "_law_made" = some (some (.ref f_l_made)))
    (l_l_made : K.lookup f_l_made = some ⟨oc_l_made, od_l_made, .func (PySem.W.fnOf "_law_made" "_law_made" (defArgs s_l_made) (defBody s_l_made) (defScope s_l_made) .none kV_l_made dc_l_made pm_l_made an_l_made cd_l_made ct_l_made), sl_l_made⟩)
    (c_l_made : PySem.W.codeIn K cd_l_made "_law_made" = true)
    (k_l_made : PySem.W.keepIn K (.ref f_l_made) = true)
    (a_l_bent : PySem.W.nsIn K mainGlobals "_law_bent" = some (some (.ref f_l_bent)))
    (l_l_bent : K.lookup f_l_bent = some ⟨oc_l_bent, od_l_bent, .func (PySem.W.fnOf "_law_bent" "_law_bent" (defArgs s_l_bent) (defBody s_l_bent) (defScope s_l_bent) .none kV_l_bent dc_l_bent pm_l_bent an_l_bent cd_l_bent ct_l_bent), sl_l_bent⟩)
    (c_l_bent : PySem.W.codeIn K cd_l_bent "_law_bent" = true)
    (k_l_bent : PySem.W.keepIn K (.ref f_l_bent) = true)
    (a_l_good : PySem.W.nsIn K mainGlobals "_law_good" = some (some (.ref f_l_good)))
    (l_l_good : K.lookup f_l_good = some ⟨oc_l_good, od_l_good, .func (PySem.W.fnOf "_law_good" "_law_good" (defArgs s_l_good) (defBody s_l_good) (defScope s_l_good) .none kV_l_good dc_l_good pm_l_good an_l_good cd_l_good ct_l_good), sl_l_good⟩)
    (c_l_good : PySem.W.codeIn K cd_l_good "_law_good" = true)
    (k_l_good : PySem.W.keepIn K (.ref f_l_good) = true)
    (a_l_shown : PySem.W.nsIn K mainGlobals "_law_shown" = some (some (.ref f_l_shown)))
    (l_l_shown : K.lookup f_l_shown = some ⟨oc_l_shown, od_l_shown, .func (PySem.W.fnOf "_law_shown" "_law_shown" (defArgs s_l_shown) (defBody s_l_shown) (defScope s_l_shown) .none kV_l_shown dc_l_shown pm_l_shown an_l_shown cd_l_shown ct_l_shown), sl_l_shown⟩)
    (c_l_shown : PySem.W.codeIn K cd_l_shown "_law_shown" = true)
    (k_l_shown : PySem.W.keepIn K (.ref f_l_shown) = true)
    (a_law : PySem.W.nsIn K mainGlobals "law" = some (some (.ref f_law)))
    (l_law : K.lookup f_law = some ⟨oc_law, od_law, .func (PySem.W.fnOf "law" "law" (defArgs s_law) (defBody s_law) (defScope s_law) .none kV_law dc_law pm_law an_law cd_law ct_law), sl_law⟩)
    (c_law : PySem.W.codeIn K cd_law "law" = true)
    (k_law : PySem.W.keepIn K (.ref f_law) = true)
    (a_Map : PySem.W.nsIn K mainGlobals "Map" = some (some (.ref C_Map)))
    (pg_Map : PySem.W.plainGet K C_Map Str.empty = true)
    (hd_Map : PySem.W.hasDictIn K C_Map = true)
    (po_Map : PySem.W.plainOver K C_Map = true)
    (sa_Map : PySem.W.findIn K (.ref C_Map) "__setattr__" = some (some (.builtin "object.__setattr__")))
    (sf_Map : PySem.W.selfFirst K C_Map = true)
    (ca_Map : PySem.W.findIn K (.ref C_Map) "__class__" = some (some (.builtin "object.__class__")))
    (cn_Map : PySem.W.specialIn K (.builtin "object.__class__") "__get__" = some (some (.builtin "getset_descriptor.__get__")))
    (ct_Map : PySem.W.takesIn K (.builtin "object.__class__") = some true)
    (cm_Map : PySem.W.mroIn K C_Map (.type "object") = some true)
    (kc_Map : PySem.W.keepIn K (.ref C_Map) = true)
    (kit_int_Map : PySem.W.kitOne K (.ref C_Map) (.type "int") = some false)
    (kit_bool_Map : PySem.W.kitOne K (.ref C_Map) (.type "bool") = some false)
    (kn_NoneType_Map : PySem.W.kitOne K (.type "NoneType") (.ref C_Map) = some false)
    (nf_NoneType_Map : PySem.W.notFirst K C_Map (.type "NoneType") = true)
    (kn_int_Map : PySem.W.kitOne K (.type "int") (.ref C_Map) = some false)
    (nf_int_Map : PySem.W.notFirst K C_Map (.type "int") = true)
    (kn_bool_Map : PySem.W.kitOne K (.type "bool") (.ref C_Map) = some false)
    (nf_bool_Map : PySem.W.notFirst K C_Map (.type "bool") = true)
    (kn_str_Map : PySem.W.kitOne K (.type "str") (.ref C_Map) = some false)
    (nf_str_Map : PySem.W.notFirst K C_Map (.type "str") = true)
    (kn_list_Map : PySem.W.kitOne K (.type "list") (.ref C_Map) = some false)
    (nf_list_Map : PySem.W.notFirst K C_Map (.type "list") = true)
    (kn_dict_Map : PySem.W.kitOne K (.type "dict") (.ref C_Map) = some false)
    (nf_dict_Map : PySem.W.notFirst K C_Map (.type "dict") = true)
    (kn_tuple_Map : PySem.W.kitOne K (.type "tuple") (.ref C_Map) = some false)
    (nf_tuple_Map : PySem.W.notFirst K C_Map (.type "tuple") = true)
    (self_Map : PySem.W.kitOne K (.ref C_Map) (.ref C_Map) = some true)
    (na_own_size_Map : PySem.W.findIn K (.ref C_Map) "own_size" = some none)
    (na_own_arrows_Map : PySem.W.findIn K (.ref C_Map) "own_arrows" = some none)
    (ne_Map : PySem.W.findIn K (.ref C_Map) "__ne__" = some (some (.builtin "object.__ne__")))
    (m_Map__init : PySem.W.findIn K (.ref C_Map) "__init__" = some (some (.ref f_Map__init)))
    (i_Map__init : PySem.W.isFn K (.ref f_Map__init) = true)
    (l_Map__init : K.lookup f_Map__init = some ⟨oc_Map__init, od_Map__init, .func (PySem.W.fnOf "__init__" "Map.__init__" (defArgs s_Map__init) (defBody s_Map__init) (defScope s_Map__init) .none kV_Map__init dc_Map__init pm_Map__init an_Map__init cd_Map__init ct_Map__init), sl_Map__init⟩)
    (c_Map__init : PySem.W.codeIn K cd_Map__init "Map.__init__" = true)
    (k_Map__init : PySem.W.keepIn K (.ref f_Map__init) = true)
    (mk_Map : PySem.W.makesIn K C_Map = true)
    (m_Map_size : PySem.W.findIn K (.ref C_Map) "size" = some (some (.ref p_Map_size)))
    (s_get_Map_size : PySem.W.specialIn K (.ref p_Map_size) "__get__" = some (some (.builtin "property.__get__")))
    (tk_Map_size : PySem.W.takesIn K (.ref p_Map_size) = some true)
    (rc_Map_size : PySem.W.recIn K p_Map_size "property" = some (.ref f_Map_size :: r_Map_size))
    (l_Map_size : K.lookup f_Map_size = some ⟨oc_Map_size, od_Map_size, .func (PySem.W.fnOf "size" "Map.size" (defArgs s_Map_size) (defBody s_Map_size) (defScope s_Map_size) .none kV_Map_size dc_Map_size pm_Map_size an_Map_size cd_Map_size ct_Map_size), sl_Map_size⟩)
    (c_Map_size : PySem.W.codeIn K cd_Map_size "Map.size" = true)
    (k_Map_size : PySem.W.keepIn K (.ref f_Map_size) = true)
    (m_Map_arrows : PySem.W.findIn K (.ref C_Map) "arrows" = some (some (.ref p_Map_arrows)))
    (s_get_Map_arrows : PySem.W.specialIn K (.ref p_Map_arrows) "__get__" = some (some (.builtin "property.__get__")))
    (tk_Map_arrows : PySem.W.takesIn K (.ref p_Map_arrows) = some true)
    (rc_Map_arrows : PySem.W.recIn K p_Map_arrows "property" = some (.ref f_Map_arrows :: r_Map_arrows))
    (l_Map_arrows : K.lookup f_Map_arrows = some ⟨oc_Map_arrows, od_Map_arrows, .func (PySem.W.fnOf "arrows" "Map.arrows" (defArgs s_Map_arrows) (defBody s_Map_arrows) (defScope s_Map_arrows) .none kV_Map_arrows dc_Map_arrows pm_Map_arrows an_Map_arrows cd_Map_arrows ct_Map_arrows), sl_Map_arrows⟩)
    (c_Map_arrows : PySem.W.codeIn K cd_Map_arrows "Map.arrows" = true)
    (k_Map_arrows : PySem.W.keepIn K (.ref f_Map_arrows) = true)
    (m_Map__bool : PySem.W.findIn K (.ref C_Map) "__bool__" = some (some (.ref f_Map__bool)))
    (i_Map__bool : PySem.W.isFn K (.ref f_Map__bool) = true)
    (l_Map__bool : K.lookup f_Map__bool = some ⟨oc_Map__bool, od_Map__bool, .func (PySem.W.fnOf "__bool__" "Map.__bool__" (defArgs s_Map__bool) (defBody s_Map__bool) (defScope s_Map__bool) .none kV_Map__bool dc_Map__bool pm_Map__bool an_Map__bool cd_Map__bool ct_Map__bool), sl_Map__bool⟩)
    (c_Map__bool : PySem.W.codeIn K cd_Map__bool "Map.__bool__" = true)
    (k_Map__bool : PySem.W.keepIn K (.ref f_Map__bool) = true)
    (m_Map__len : PySem.W.findIn K (.ref C_Map) "__len__" = some (some (.ref f_Map__len)))
    (i_Map__len : PySem.W.isFn K (.ref f_Map__len) = true)
    (l_Map__len : K.lookup f_Map__len = some ⟨oc_Map__len, od_Map__len, .func (PySem.W.fnOf "__len__" "Map.__len__" (defArgs s_Map__len) (defBody s_Map__len) (defScope s_Map__len) .none kV_Map__len dc_Map__len pm_Map__len an_Map__len cd_Map__len ct_Map__len), sl_Map__len⟩)
    (c_Map__len : PySem.W.codeIn K cd_Map__len "Map.__len__" = true)
    (k_Map__len : PySem.W.keepIn K (.ref f_Map__len) = true)
    (m_Map__eq : PySem.W.findIn K (.ref C_Map) "__eq__" = some (some (.ref f_Map__eq)))
    (i_Map__eq : PySem.W.isFn K (.ref f_Map__eq) = true)
    (l_Map__eq : K.lookup f_Map__eq = some ⟨oc_Map__eq, od_Map__eq, .func (PySem.W.fnOf "__eq__" "Map.__eq__" (defArgs s_Map__eq) (defBody s_Map__eq) (defScope s_Map__eq) .none kV_Map__eq dc_Map__eq pm_Map__eq an_Map__eq cd_Map__eq ct_Map__eq), sl_Map__eq⟩)
    (c_Map__eq : PySem.W.codeIn K cd_Map__eq "Map.__eq__" = true)
    (k_Map__eq : PySem.W.keepIn K (.ref f_Map__eq) = true)
    (m_Map__repr : PySem.W.findIn K (.ref C_Map) "__repr__" = some (some (.ref f_Map__repr)))
    (i_Map__repr : PySem.W.isFn K (.ref f_Map__repr) = true)
    (l_Map__repr : K.lookup f_Map__repr = some ⟨oc_Map__repr, od_Map__repr, .func (PySem.W.fnOf "__repr__" "Map.__repr__" (defArgs s_Map__repr) (defBody s_Map__repr) (defScope s_Map__repr) .none kV_Map__repr dc_Map__repr pm_Map__repr an_Map__repr cd_Map__repr ct_Map__repr), sl_Map__repr⟩)
    (c_Map__repr : PySem.W.codeIn K cd_Map__repr "Map.__repr__" = true)
    (k_Map__repr : PySem.W.keepIn K (.ref f_Map__repr) = true)
    (a_InvalidMap : PySem.W.nsIn K mainGlobals "InvalidMap" = some (some (.ref C_InvalidMap)))
    (xl_InvalidMap : K.lookup C_InvalidMap = some (excClassObj nm_InvalidMap q_InvalidMap C_InvalidMap N_InvalidMap bs_InvalidMap [.type "ValueError", .type "Exception", .type "BaseException", .type "object"] true sn_InvalidMap sub_InvalidMap ab_InvalidMap col_InvalidMap dd_InvalidMap m0_InvalidMap m1_InvalidMap m2_InvalidMap m3_InvalidMap m5_InvalidMap "ValueError.__new__"))
    (sa_InvalidMap : PySem.W.findIn K (.ref C_InvalidMap) "__setattr__" = some (some (.builtin "object.__setattr__")))
    (ex_InvalidMap : PySem.W.subIn K (.ref C_InvalidMap) (.type "BaseException") = some true)
    (ty_InvalidMap : PySem.W.typeIn K (.ref C_InvalidMap) = some (.type "type"))
    (kc_InvalidMap : PySem.W.keepIn K (.ref C_InvalidMap) = true)
    (hd_InvalidMap : PySem.W.hasDictIn K C_InvalidMap = true)
    (ga_InvalidMap : PySem.W.findIn K (.ref C_InvalidMap) "__getattribute__" = some (some (.builtin "BaseException.__getattribute__")))
    (gg_InvalidMap : PySem.W.findIn K (.ref C_InvalidMap) "__getattr__" = some none)
    (ss_InvalidMap : PySem.W.subIn K (.ref C_InvalidMap) (.ref C_InvalidMap) = some true)
    (ca_InvalidMap : PySem.W.findIn K (.ref C_InvalidMap) "__class__" = some (some (.builtin "object.__class__")))
    (cn_InvalidMap : PySem.W.specialIn K (.builtin "object.__class__") "__get__" = some (some (.builtin "getset_descriptor.__get__")))
    (ct_InvalidMap : PySem.W.takesIn K (.builtin "object.__class__") = some true)
    (cm_InvalidMap : PySem.W.mroIn K C_InvalidMap (.type "object") = some true)
    (kit_ValueError_InvalidMap : PySem.W.kitOne K (.ref C_InvalidMap) (.type "ValueError") = some true)
    (na_part_InvalidMap : PySem.W.findIn K (.ref C_InvalidMap) "part" = some none)
    (m_InvalidMap__init : PySem.W.findIn K (.ref C_InvalidMap) "__init__" = some (some (.ref f_InvalidMap__init)))
    (ti_InvalidMap__init : PySem.W.typeIn K (.ref f_InvalidMap__init) = some (.type "function"))
    (l_InvalidMap__init : K.lookup f_InvalidMap__init = some ⟨oc_InvalidMap__init, od_InvalidMap__init, .func (PySem.W.fnOf "__init__" "InvalidMap.__init__" (defArgs s_InvalidMap__init) (defBody s_InvalidMap__init) (defScope s_InvalidMap__init) .none kV_InvalidMap__init dc_InvalidMap__init pm_InvalidMap__init an_InvalidMap__init cd_InvalidMap__init ct_InvalidMap__init), sl_InvalidMap__init⟩)
    (c_InvalidMap__init : PySem.W.codeIn K cd_InvalidMap__init "InvalidMap.__init__" = true)
    (k_InvalidMap__init : PySem.W.keepIn K (.ref f_InvalidMap__init) = true)
    (z_isinstance : PySem.W.nsIn K mainGlobals "isinstance" = some none)
    (z_int : PySem.W.nsIn K mainGlobals "int" = some none)
    (z_bool : PySem.W.nsIn K mainGlobals "bool" = some none)
    (z_dict : PySem.W.nsIn K mainGlobals "dict" = some none)
    (z_len : PySem.W.nsIn K mainGlobals "len" = some none)
    (z_range : PySem.W.nsIn K mainGlobals "range" = some none)
    (z_list : PySem.W.nsIn K mainGlobals "list" = some none)
    (z_max : PySem.W.nsIn K mainGlobals "max" = some none)
    (z_min : PySem.W.nsIn K mainGlobals "min" = some none)
    (z_repr : PySem.W.nsIn K mainGlobals "repr" = some none)
    (z_str : PySem.W.nsIn K mainGlobals "str" = some none)
    (z_set : PySem.W.nsIn K mainGlobals "set" = some none)
    (z_ValueError : PySem.W.nsIn K mainGlobals "ValueError" = some none)
    (v_MAX_SIZE : PySem.W.nsIn K mainGlobals "MAX_SIZE" = some (some (.int 300 t_MAX_SIZE))) :
    Nonempty (Txt K mg) := ⟨{
    f_is_integer := f_is_integer,
    A_is_integer := ⟨_, fun_mk (st := s_is_integer) l_is_integer c_is_integer k_is_integer, (fun_mk (st := s_is_integer) l_is_integer c_is_integer k_is_integer).binds (ps := ["value"]) fun _ _ _ _ _ _ us hl => match us, hl with | [_], _ => rfl⟩,
    g_is_integer := PySem.W.mg_of X G a_is_integer,
    f_in_range := f_in_range,
    A_in_range := ⟨_, fun_mk (st := s_in_range) l_in_range c_in_range k_in_range, (fun_mk (st := s_in_range) l_in_range c_in_range k_in_range).binds (ps := ["value", "least", "most"]) fun _ _ _ _ _ _ us hl => match us, hl with | [_, _, _], _ => rfl⟩,
    g_in_range := PySem.W.mg_of X G a_in_range,
    f_are_arrows := f_are_arrows,
    A_are_arrows := ⟨_, fun_mk (st := s_are_arrows) l_are_arrows c_are_arrows k_are_arrows, (fun_mk (st := s_are_arrows) l_are_arrows c_are_arrows k_are_arrows).binds (ps := ["size", "arrows"]) fun _ _ _ _ _ _ us hl => match us, hl with | [_, _], _ => rfl⟩,
    g_are_arrows := PySem.W.mg_of X G a_are_arrows,
    f_l_hand := f_l_hand,
    A_l_hand := ⟨_, fun_mk (st := s_l_hand) l_l_hand c_l_hand k_l_hand, (fun_mk (st := s_l_hand) l_l_hand c_l_hand k_l_hand).binds (ps := ["_law_script", "_law_k"]) fun _ _ _ _ _ _ us hl => match us, hl with | [_, _], _ => rfl⟩,
    g_l_hand := PySem.W.mg_of X G a_l_hand,
    f_l_draw := f_l_draw,
    A_l_draw := ⟨_, fun_mk (st := s_l_draw) l_l_draw c_l_draw k_l_draw, (fun_mk (st := s_l_draw) l_l_draw c_l_draw k_l_draw).binds (ps := ["_law_pool", "_law_size"]) fun _ _ _ _ _ _ us hl => match us, hl with | [_, _], _ => rfl⟩,
    g_l_draw := PySem.W.mg_of X G a_l_draw,
    f_l_arrows := f_l_arrows,
    A_l_arrows := ⟨_, fun_mk (st := s_l_arrows) l_l_arrows c_l_arrows k_l_arrows, (fun_mk (st := s_l_arrows) l_l_arrows c_l_arrows k_l_arrows).binds (ps := ["_law_pool", "_law_size", "_law_way"]) fun _ _ _ _ _ _ us hl => match us, hl with | [_, _, _], _ => rfl⟩,
    g_l_arrows := PySem.W.mg_of X G a_l_arrows,
    f_l_made := f_l_made,
    A_l_made := ⟨_, fun_mk (st := s_l_made) l_l_made c_l_made k_l_made, (fun_mk (st := s_l_made) l_l_made c_l_made k_l_made).binds (ps := ["_law_size", "_law_arrows_here"]) fun _ _ _ _ _ _ us hl => match us, hl with | [_, _], _ => rfl⟩,
    g_l_made := PySem.W.mg_of X G a_l_made,
    f_l_bent := f_l_bent,
    A_l_bent := ⟨_, fun_mk (st := s_l_bent) l_l_bent c_l_bent k_l_bent, (fun_mk (st := s_l_bent) l_l_bent c_l_bent k_l_bent).binds (ps := ["_law_pool", "_law_size", "_law_arrows_here"]) fun _ _ _ _ _ _ us hl => match us, hl with | [_, _, _], _ => rfl⟩,
    g_l_bent := PySem.W.mg_of X G a_l_bent,
    f_l_good := f_l_good,
    A_l_good := ⟨_, fun_mk (st := s_l_good) l_l_good c_l_good k_l_good, (fun_mk (st := s_l_good) l_l_good c_l_good k_l_good).binds (ps := ["_law_size", "_law_arrows_here"]) fun _ _ _ _ _ _ us hl => match us, hl with | [_, _], _ => rfl⟩,
    g_l_good := PySem.W.mg_of X G a_l_good,
    f_l_shown := f_l_shown,
    A_l_shown := ⟨_, fun_mk (st := s_l_shown) l_l_shown c_l_shown k_l_shown, (fun_mk (st := s_l_shown) l_l_shown c_l_shown k_l_shown).binds (ps := ["_law_given", "_law_size", "_law_arrows_here"]) fun _ _ _ _ _ _ us hl => match us, hl with | [_, _, _], _ => rfl⟩,
    g_l_shown := PySem.W.mg_of X G a_l_shown,
    f_law := f_law,
    A_law := ⟨_, fun_mk (st := s_law) l_law c_law k_law, (fun_mk (st := s_law) l_law c_law k_law).binds (ps := ["_law_script"]) fun _ _ _ _ _ _ us hl => match us, hl with | [_], _ => rfl⟩,
    L_law := ⟨_, fun_mk (st := s_law) l_law c_law k_law, fun s v => .of_eq rfl⟩,
    g_law := PySem.W.mg_of X G a_law,
    C_Map := C_Map,
    g_Map := PySem.W.mg_of X G a_Map,
    o_Map := ⟨⟨pg_Map, hd_Map, po_Map, sa_Map⟩, sf_Map, ca_Map, cn_Map, ct_Map, cm_Map⟩,
    kit_int_Map := kit_int_Map,
    kit_bool_Map := kit_bool_Map,
    kn_NoneType_Map := kn_NoneType_Map,
    nf_NoneType_Map := nf_NoneType_Map,
    kn_int_Map := kn_int_Map,
    nf_int_Map := nf_int_Map,
    kn_bool_Map := kn_bool_Map,
    nf_bool_Map := nf_bool_Map,
    kn_str_Map := kn_str_Map,
    nf_str_Map := nf_str_Map,
    kn_list_Map := kn_list_Map,
    nf_list_Map := nf_list_Map,
    kn_dict_Map := kn_dict_Map,
    nf_dict_Map := nf_dict_Map,
    kn_tuple_Map := kn_tuple_Map,
    nf_tuple_Map := nf_tuple_Map,
    self_Map := self_Map,
    na_own_size_Map := na_own_size_Map,
    na_own_arrows_Map := na_own_arrows_Map,
    ne_Map := ne_Map,
    f_Map__init := f_Map__init,
    A_Map__init := ⟨_, fun_mk (st := s_Map__init) l_Map__init c_Map__init k_Map__init, (fun_mk (st := s_Map__init) l_Map__init c_Map__init k_Map__init).binds (ps := ["self", "size", "arrows"]) fun _ _ _ _ _ _ us hl => match us, hl with | [_, _, _], _ => rfl⟩,
    m_Map__init := m_Map__init,
    i_Map__init := i_Map__init,
    M_Map := ⟨mk_Map, m_Map__init, i_Map__init, kc_Map⟩,
    p_Map_size := p_Map_size,
    f_Map_size := f_Map_size,
    A_Map_size := ⟨_, fun_mk (st := s_Map_size) l_Map_size c_Map_size k_Map_size, (fun_mk (st := s_Map_size) l_Map_size c_Map_size k_Map_size).binds (ps := ["self"]) fun _ _ _ _ _ _ us hl => match us, hl with | [_], _ => rfl⟩,
    P_Map_size := ⟨m_Map_size, s_get_Map_size, tk_Map_size, _, rc_Map_size⟩,
    p_Map_arrows := p_Map_arrows,
    f_Map_arrows := f_Map_arrows,
    A_Map_arrows := ⟨_, fun_mk (st := s_Map_arrows) l_Map_arrows c_Map_arrows k_Map_arrows, (fun_mk (st := s_Map_arrows) l_Map_arrows c_Map_arrows k_Map_arrows).binds (ps := ["self"]) fun _ _ _ _ _ _ us hl => match us, hl with | [_], _ => rfl⟩,
    P_Map_arrows := ⟨m_Map_arrows, s_get_Map_arrows, tk_Map_arrows, _, rc_Map_arrows⟩,
    f_Map__bool := f_Map__bool,
    A_Map__bool := ⟨_, fun_mk (st := s_Map__bool) l_Map__bool c_Map__bool k_Map__bool, (fun_mk (st := s_Map__bool) l_Map__bool c_Map__bool k_Map__bool).binds (ps := ["self"]) fun _ _ _ _ _ _ us hl => match us, hl with | [_], _ => rfl⟩,
    m_Map__bool := m_Map__bool,
    i_Map__bool := i_Map__bool,
    f_Map__len := f_Map__len,
    A_Map__len := ⟨_, fun_mk (st := s_Map__len) l_Map__len c_Map__len k_Map__len, (fun_mk (st := s_Map__len) l_Map__len c_Map__len k_Map__len).binds (ps := ["self"]) fun _ _ _ _ _ _ us hl => match us, hl with | [_], _ => rfl⟩,
    m_Map__len := m_Map__len,
    i_Map__len := i_Map__len,
    f_Map__eq := f_Map__eq,
    A_Map__eq := ⟨_, fun_mk (st := s_Map__eq) l_Map__eq c_Map__eq k_Map__eq, (fun_mk (st := s_Map__eq) l_Map__eq c_Map__eq k_Map__eq).binds (ps := ["self", "other"]) fun _ _ _ _ _ _ us hl => match us, hl with | [_, _], _ => rfl⟩,
    m_Map__eq := m_Map__eq,
    i_Map__eq := i_Map__eq,
    f_Map__repr := f_Map__repr,
    A_Map__repr := ⟨_, fun_mk (st := s_Map__repr) l_Map__repr c_Map__repr k_Map__repr, (fun_mk (st := s_Map__repr) l_Map__repr c_Map__repr k_Map__repr).binds (ps := ["self"]) fun _ _ _ _ _ _ us hl => match us, hl with | [_], _ => rfl⟩,
    m_Map__repr := m_Map__repr,
    i_Map__repr := i_Map__repr,
    C_InvalidMap := C_InvalidMap,
    g_InvalidMap := PySem.W.mg_of X G a_InvalidMap,
    x_InvalidMap := ⟨⟨"ValueError", _, _, _, _, _, _, _, _, _, _, _, _, _, _, _, _, _, _, PySem.F.store_ValueError, PySem.F.excBase_ValueError, xl_InvalidMap, by decide +kernel⟩, sa_InvalidMap, ex_InvalidMap, ty_InvalidMap, kc_InvalidMap⟩,
    xf_InvalidMap := ⟨ga_InvalidMap, gg_InvalidMap, ex_InvalidMap, hd_InvalidMap⟩,
    xe_InvalidMap := ⟨ga_InvalidMap, gg_InvalidMap, ex_InvalidMap, hd_InvalidMap, ca_InvalidMap, cn_InvalidMap, ct_InvalidMap, cm_InvalidMap⟩,
    te_InvalidMap := PySem.W.exm_ref ex_InvalidMap hd_InvalidMap ty_InvalidMap ss_InvalidMap,
    kit_ValueError_InvalidMap := kit_ValueError_InvalidMap,
    na_part_InvalidMap := na_part_InvalidMap,
    f_InvalidMap__init := f_InvalidMap__init,
    A_InvalidMap__init := ⟨_, fun_mk (st := s_InvalidMap__init) l_InvalidMap__init c_InvalidMap__init k_InvalidMap__init, (fun_mk (st := s_InvalidMap__init) l_InvalidMap__init c_InvalidMap__init k_InvalidMap__init).binds (ps := ["self", "part"]) fun _ _ _ _ _ _ us hl => match us, hl with | [_, _], _ => rfl⟩,
    m_InvalidMap__init := m_InvalidMap__init,
    ti_InvalidMap__init := ti_InvalidMap__init,
    n_isinstance := PySem.W.mg_none_of X G z_isinstance,
    n_int := PySem.W.mg_none_of X G z_int,
    n_bool := PySem.W.mg_none_of X G z_bool,
    n_dict := PySem.W.mg_none_of X G z_dict,
    n_len := PySem.W.mg_none_of X G z_len,
    n_range := PySem.W.mg_none_of X G z_range,
    n_list := PySem.W.mg_none_of X G z_list,
    n_max := PySem.W.mg_none_of X G z_max,
    n_min := PySem.W.mg_none_of X G z_min,
    n_repr := PySem.W.mg_none_of X G z_repr,
    n_str := PySem.W.mg_none_of X G z_str,
    n_set := PySem.W.mg_none_of X G z_set,
    n_ValueError := PySem.W.mg_none_of X G z_ValueError,
    v_MAX_SIZE := ⟨_, PySem.W.mg_of X G v_MAX_SIZE⟩ }⟩
end My
namespace My
open PySem L2 U StX
/-! ### values of any known form -/
def knownV (C : Addr) (H : Hp) : V → Prop
  | .non => True | .bl _ => True | .int _ => True | .str _ => True
  | .ref a => (∃ xs, H a = some (.lst xs)) ∨ (∃ xs, H a = some (.tup xs)) ∨ (∃ kvs, H a = some (.dK kvs)) ∨ ∃ dx fs, H a = some (.ins C dx fs)
  | _ => False
def isI : V → Bool | .int _ => true | _ => false
def isB : V → Bool | .bl _ => true | _ => false
def inR : V → Int → Int → Bool | .int i, a, b => decide (a ≤ i) && decide (i ≤ b) | _, _, _ => false
section
variable {P : Program} {w : World} {K : PySem.W.Frag} {mg : Str → Option Value} {base : Heap}
theorem tyx_ins {H : Hp} {a C dx : Addr} {fs : List (Str × V)} (o : OwnC K C) (e : H a = some (.ins C dx fs)) : TyX K H (.ref a) (.ref C) := .base (.ins e o.cl o.ca o.cn o.ct o.cm)
/-- the type of a known value, and what isinstance says of it -/
theorem ty_known (T : Txt K mg) {H : Hp} {x : V} (h : knownV T.C_Map H x) : ∃ t, TyX K H x t ∧ PySem.W.kitOne K t (.type "int") = some (isI x || isB x) ∧ PySem.W.kitOne K t (.type "bool") = some (isB x) := by
  cases x with
  | non => exact ⟨_, .base .non, kit_ty (r := false) (by decide +kernel), kit_ty (r := false) (by decide +kernel)⟩
  | bl b => exact ⟨_, .base (.bl b), kit_ty (r := true) (by decide +kernel), kit_ty (r := true) (by decide +kernel)⟩
  | int i => exact ⟨_, .base (.int i), kit_ty (r := true) (by decide +kernel), kit_ty (r := false) (by decide +kernel)⟩
  | str z => exact ⟨_, .base (.str z), kit_ty (r := false) (by decide +kernel), kit_ty (r := false) (by decide +kernel)⟩
  | ref a =>
    rcases h with ⟨xs, e⟩ | ⟨xs, e⟩ | ⟨xs, e⟩ | ⟨dx, fs, e⟩
    · exact ⟨_, .base (.lst e), kit_ty (r := false) (by decide +kernel), kit_ty (r := false) (by decide +kernel)⟩
    · exact ⟨_, .base (.tup e), kit_ty (r := false) (by decide +kernel), kit_ty (r := false) (by decide +kernel)⟩
    · exact ⟨_, .base (.dK e), kit_ty (r := false) (by decide +kernel), kit_ty (r := false) (by decide +kernel)⟩
    · exact ⟨_, tyx_ins T.o_Map e, T.kit_int_Map, T.kit_bool_Map⟩
  | byt b => exact h.elim
  | flt b => exact h.elim
  | ty b => exact h.elim
def spIsInt (C : Addr) : Sp := fun vs H Q _ => ∃ x, vs = [x] ∧ knownV C H x ∧ Q (.bl (isI x)) H
theorem ok_is_integer (T : Txt K mg) : FnR P w K mg base CX0 1 T.f_is_integer (spIsInt T.C_Map) := by
  refine T.A_is_integer.ok sc_is_integer (fun vs H Q E h => ?_) (fun cdv A outer s H vs Q E hr h => ?_)
  · obtain ⟨x, rfl, _⟩ := h
    rfl
  · obtain ⟨x, rfl, hx, q⟩ := h
    refine ⟨_, pss_one (ps_ret (pe_and (pe_callB call_isi (by rfl) T.n_isinstance (by decide +kernel) (pa_cons (pv 0) (pa_cons (pe_bltn (v := .ty "int") (u := .type "int") (by rfl) T.n_int (by decide +kernel) rfl) pa_nil)))
      (pe_one (pe_not (pe_callB call_isi (by rfl) T.n_isinstance (by decide +kernel) (pa_cons (pv 0) (pa_cons (pe_bltn (v := .ty "bool") (u := .type "bool") (by rfl) T.n_bool (by decide +kernel) rfl) pa_nil))))))), ?_⟩
    obtain ⟨t, ht, k1, k2⟩ := ty_known T hx
    refine ⟨_, rfl, x, _, t, _, _, rfl, .ty _, ht, k1, _, rfl, ?_⟩
    refine ifB (fun hc => ?_) (fun hc => ?_)
    · refine ⟨_, rfl, x, _, t, _, _, rfl, .ty _, ht, k2, _, rfl, ?_⟩
      have e : (!isB x) = isI x := by cases x <;> first | rfl | cases hc
      rw [e]
      exact q
    · have e : isI x = false := by cases x <;> first | rfl | cases hc
      rw [e] at q
      exact q
def spInR (C : Addr) : Sp := fun vs H Q _ => ∃ x a b, vs = [x, .int a, .int b] ∧ knownV C H x ∧ Q (.bl (inR x a b)) H
theorem ok_in_range (T : Txt K mg) : FnR P w K mg base CX0 2 T.f_in_range (spInR T.C_Map) := by
  refine T.A_in_range.ok sc_in_range (fun vs H Q E h => ?_) (fun cdv A outer s H vs Q E hr h => ?_)
  · obtain ⟨x, a, b, rfl, _⟩ := h
    rfl
  · obtain ⟨x, a, b, rfl, hx, q⟩ := h
    refine ⟨_, pss_one (ps_ret (pe_and (pe_callR (ok_is_integer T) hr T.A_is_integer.kp rfl T.g_is_integer pass0 (pa_cons (pv 0) pa_nil))
      (pe_one (pe_chain op_le op_le (pv 1) (pv 0) (pv 2))))), ?_⟩
    refine ⟨_, rfl, x, rfl, hx, _, rfl, ?_⟩
    cases x with
    | int i =>
      refine iteT ⟨_, rfl, _, rfl, _, _, rfl, rfl, _, rfl, ?_⟩
      refine ifD (fun h => ?_) (fun h => ?_)
      · refine ⟨_, rfl, _, _, rfl, rfl, ?_⟩
        have e : inR (.int i) a b = decide (i ≤ b) := by simp [inR, h]
        rw [e] at q
        exact q
      · have e : inR (.int i) a b = false := by simp [inR, h]
        rw [e] at q
        exact q
    | _ => exact iteF q
/-! ### the law's draws -/
def spDraw : Sp := fun vs H Q _ => ∃ (p : Addr) (a b n : Int), vs = [.ref p, .int n] ∧ H p = some (.lst [.int a, .int b]) ∧ 0 ≤ a ∧ 0 ≤ b ∧ b < 2147483647 ∧ 0 < n ∧ n < 1073741824 ∧
  ∀ a' b' r : Int, 0 ≤ a' → 0 ≤ b' → b' < 2147483647 → 0 ≤ r → r < n → Q (.int r) (upd H p (.lst [.int a', .int b']))
theorem ok_draw (T : Txt K mg) : FnR P w K mg base CX0 1 T.f_l_draw spDraw := by
  refine T.A_l_draw.ok sc_l_draw (fun vs H Q E h => ?_) (fun cdv A outer s H vs Q E hr h => ?_)
  · obtain ⟨p, a, b, n, rfl, _⟩ := h
    rfl
  · obtain ⟨p, a, b, n, rfl, hp, ha, hb, hb2, hn, hn2, k⟩ := h
    refine ⟨_, pss_cons (ps_if (pt_cmpR op_gt (pe_ix ix_list (pv 0) pe_int (fun _ _ => rfl)) pe_int (nomark _))
        (pss_cons (ps_set (i := 2) sc_l_draw.nd rfl (Or.inl rfl) (pe_op op_mod (pe_ix ix_list (pv 0) pe_int (fun _ _ => rfl)) (pv 1)))
        (pss_cons (ps_asg (pe_op op_fdiv (pe_ix ix_list (pv 0) pe_int (fun _ _ => rfl)) (pv 1)) (pg_sub (pv 0) pe_int set_list))
        (pss_one (ps_ret (pv 2))))) pss_nil)
      (pss_cons (ps_asg (pe_op op_mod (pe_op op_add (pe_op op_mul (pe_ix ix_list (pv 0) pe_int (fun _ _ => rfl)) pe_int) pe_int) pe_int) (pg_sub (pv 0) pe_int set_list))
      (pss_one (ps_ret (pe_op op_mod (pe_op op_fdiv (pe_op op_mod (pe_op op_mul (pe_ix ix_list (pv 0) pe_int (fun _ _ => rfl)) (pe_ix ix_list (pv 0) pe_int (fun _ _ => rfl))) pe_int) pe_int) (pv 1))))), ?_⟩
    refine ⟨_, rfl, p, _, 0, _, rfl, rfl, SqL.of hp, rfl, _, _, rfl, rfl, _, rfl, ?_⟩
    refine ifD (fun h => ?_) (fun h => ?_)
    · refine ⟨_, rfl, p, _, 0, _, rfl, rfl, SqL.of hp, rfl, _, rfl, _, _, rfl, rfl, hn, ?_⟩
      refine ⟨_, rfl, p, _, 0, _, rfl, rfl, SqL.of hp, rfl, _, rfl, _, _, rfl, rfl, ⟨hn, hn2⟩, _, rfl, p, _, 0, _, rfl, rfl, hp, rfl, ?_⟩
      refine ⟨_, rfl, ?_⟩
      exact k (a / n) b (a % n) (Int.ediv_nonneg ha (by omega)) hb hb2 (Int.emod_nonneg _ (by omega)) (Int.emod_lt_of_pos _ hn)
    · have m1 : 0 ≤ (b * 48271 + 11) % 2147483647 := Int.emod_nonneg _ (by decide)
      have m2 : (b * 48271 + 11) % 2147483647 < 2147483647 := Int.emod_lt_of_pos _ (by decide)
      refine ⟨_, rfl, p, _, 1, _, rfl, rfl, SqL.of hp, rfl, _, _, rfl, rfl, .inr ⟨by decide, by decide⟩, _, _, rfl, rfl, _, _, rfl, rfl, (by show (0 : Int) < 2147483647; decide), _, rfl, p, _, 1, _, rfl, rfl, hp, rfl, ?_⟩
      refine ⟨_, rfl, p, _, 1, _, rfl, rfl, SqL.of upd_same, rfl, _, rfl, p, _, 1, _, rfl, rfl, SqL.of upd_same, rfl, _, _, rfl, rfl, .inl ⟨by omega, by omega⟩, _, _, rfl, rfl, (by show (0 : Int) < 2147483629; decide), _, _, rfl, rfl, ⟨by decide, by decide⟩, _, rfl, _, _, rfl, rfl, hn, ?_⟩
      exact k a ((b * 48271 + 11) % 2147483647) _ ha m1 m2 (Int.emod_nonneg _ (by omega)) (Int.emod_lt_of_pos _ hn)
end
end My
namespace My
open PySem L2 U StX PM
section
variable {P : Program} {w : World} {K : PySem.W.Frag} {mg : Str → Option Value} {base : Heap}
theorem head_int (xs : List V) (h : ∀ v ∈ xs, ∃ i, v = V.int i) : ∃ c, atI (xs ++ [V.int 0]) 0 = some (V.int c) := by
  cases xs with
  | nil => exact ⟨0, rfl⟩
  | cons a r =>
    obtain ⟨i, rfl⟩ := h a List.mem_cons_self
    refine ⟨i, atI_nat (j := 0) ?_⟩
    rfl
theorem cut_int (ns : List Int) (lo hi : Option Int) : ∀ v ∈ cutV (ns.map V.int) lo hi, ∃ i, v = V.int i := by
  intro v hv
  unfold cutV at hv
  have h1 := List.mem_of_mem_drop (List.mem_of_mem_take hv)
  obtain ⟨i, _, rfl⟩ := List.mem_map.mp h1
  exact ⟨i, rfl⟩
def spHand (K : PySem.W.Frag) : Sp := fun vs H Q _ => ∃ (a : Addr) (ns : List Int) (k : Int), vs = [.ref a, .int k] ∧ SqL K H a (ns.map V.int) ∧ ns.length ≤ 63 ∧
  ∀ p H' x y, H p = none → H' p = some (.lst [.int x, .int y]) → Same H H' → 0 ≤ x → 0 ≤ y → y < 2147483647 → Q (.ref p) H'
theorem ok_hand (T : Txt K mg) : FnR P w K mg base CX0 1 T.f_l_hand (spHand K) := by
  refine T.A_l_hand.ok sc_l_hand (fun vs H Q E h => ?_) (fun cdv A outer s H vs Q E hr h => ?_)
  · obtain ⟨a, ns, k, rfl, _⟩ := h
    rfl
  · obtain ⟨a, ns, k, rfl, hS, hl, q⟩ := h
    refine ⟨_, pss_cons (ps_set (i := 2) sc_l_hand.nd rfl (Or.inl rfl) (pe_ix ix_list (pe_op op_cat (pe_slice sl_list (pv 0) (po_some (pv 1)) (po_some (pe_op op_add (pv 1) pe_int))) (pe_lst (pa_cons pe_int pa_nil))) pe_int (fun _ _ => rfl)))
      (pss_cons (ps_set (i := 3) sc_l_hand.nd rfl (Or.inl rfl) (pe_op op_mod (pe_op op_mul (pe_op op_add (pe_op op_add (pe_op op_mod (pv 2) pe_int) (pe_op op_mul pe_int (pv 1))) pe_int) pe_int) pe_int))
      (pss_one (ps_ret (pe_lst (pa_cons (pe_op op_mul (pe_callTy call_int1 (by rfl) T.n_int (by decide +kernel) (pa_cons (pe_cmpR op_ge (pv 2) (pe_op op_pow pe_int pe_int) (nomark _)) pa_nil)) (pv 2)) (pa_cons (pv 3) pa_nil)))))), ?_⟩
    refine ⟨_, rfl, _, rfl, _, rfl, _, rfl, _, _, rfl, rfl, _, rfl, a, _, rfl, hS, fun p1 n1 => ?_⟩
    refine ⟨(by show 1 ≤ sizeLine; decide), fun p2 n2 => ?_⟩
    have n12 : p1 ≠ p2 := ne_of_none upd_same n2
    have hcl := cutV_length (ns.map V.int) (some k) (some (k + 1))
    rw [List.length_map] at hcl
    refine ⟨p1, p2, cutV (ns.map V.int) (some k) (some (k + 1)), [.int 0], rfl, rfl, (by rw [upd_ne n12, upd_same]), upd_same, ?_, fun p3 n3 => ?_⟩
    · show _ + 1 ≤ sizeLine
      exact Nat.le_trans (by omega : _ ≤ 64) (by decide)
    obtain ⟨c, hc⟩ := head_int _ (cut_int ns (some k) (some (k + 1)))
    refine ⟨p3, _, 0, .int c, rfl, rfl, SqL.of upd_same, hc, ?_⟩
    refine ⟨_, rfl, _, _, rfl, rfl, (by show (0 : Int) < 2147483647; decide), _, rfl, _, _, rfl, rfl, .inl ⟨by decide, by decide⟩, _, _, rfl, rfl, _, _, rfl, rfl, _, _, rfl, rfl, .inr ⟨by decide, by decide⟩, _, _, rfl, rfl, (by show (0 : Int) < 2147483629; decide), ?_⟩
    refine ⟨_, rfl, _, _, rfl, rfl, ⟨by decide, by decide, by decide⟩, _, _, rfl, rfl, .inr ⟨_, rfl, _, rfl, _, _, rfl, rfl, .inl ?_, _, rfl, (by show 2 ≤ sizeLine; decide), fun p4 n4 => ?_⟩⟩
    · cases decide ((10 : Int) ^ (18 : Int).toNat ≤ c) <;> exact ⟨by decide, by decide⟩
    · have s3 := ((Same.new (o := .lst (cutV (ns.map V.int) (some k) (some (k + 1)))) n1).trans (Same.new (o := .lst [.int 0]) n2)).trans (Same.new (o := .lst (cutV (ns.map V.int) (some k) (some (k + 1)) ++ [.int 0])) n3)
      refine q p4 _ _ _ (s3.free n4) upd_same (s3.trans (Same.new n4)) ?_ (Int.emod_nonneg _ (by decide)) ?_
      · cases hd : decide ((10 : Int) ^ (18 : Int).toNat ≤ c) with
        | true =>
          have := of_decide_eq_true hd
          have h10 : (0 : Int) ≤ 10 ^ (18 : Int).toNat := by decide
          show 0 ≤ 1 * c
          omega
        | false => show 0 ≤ 0 * c; omega
      · have := Int.emod_lt_of_pos ((c % 2147483647 + 7919 * k + 1) * 48271) (show (0 : Int) < 2147483629 by decide)
        omega
end
end My
namespace My
open PySem L2 U StX PM
section
variable {P : Program} {w : World} {K : PySem.W.Frag} {mg : Str → Option Value} {base : Heap}
def rowOk (n : Int) (p : Int × Int) : Bool := inR (.int p.1) 0 (n - 1) && inR (.int p.2) 0 (n - 1)
def okArr (n : Int) (l : List (Int × Int)) : Bool := l.all (rowOk n) && decide (l.map (·.2)).Nodup
def tgt (l : List (Int × Int)) : List (Key × V) := l.map fun p => (Sum.inl p.2, V.bl true)
theorem tgt_key {l : List (Int × Int)} {y : Int} : (Sum.inl y : Key) ∈ (tgt l).map (·.1) ↔ y ∈ l.map (·.2) := by
  unfold tgt
  rw [List.map_map]
  constructor
  · intro h
    obtain ⟨p, hp, e⟩ := List.mem_map.mp h
    exact List.mem_map.mpr ⟨p, hp, Sum.inl.inj e⟩
  · intro h
    obtain ⟨p, hp, e⟩ := List.mem_map.mp h
    exact List.mem_map.mpr ⟨p, hp, congrArg Sum.inl e⟩
theorem tgt_val {l : List (Int × Int)} {y : Int} : (valV (tgt l) (Sum.inl y : Key)).isSome = decide (y ∈ l.map (·.2)) := by
  by_cases h : y ∈ l.map (·.2)
  · have h' := tgt_key.mpr h
    rw [decide_eq_true h]
    cases e : valV (tgt l) (Sum.inl y : Key) with
    | some v => rfl
    | none =>
      obtain ⟨p, hp, e2⟩ := List.mem_map.mp h'
      exfalso
      unfold valV at e
      rw [Option.map_eq_none_iff, List.find?_eq_none] at e
      exact e p hp (by simp [e2])
  · rw [decide_eq_false h, valV_none fun z => h (tgt_key.mp z)]
    rfl
theorem okArr_step {n : Int} {l : List (Int × Int)} {i : Nat} {p : Int × Int} (h : l[i]? = some p) : okArr n (l.take (i + 1)) = (okArr n (l.take i) && (rowOk n p && !decide (p.2 ∈ (l.take i).map (·.2)))) := by
  rw [take_more h]
  unfold okArr
  rw [List.all_append, List.map_append]
  have e : decide (((l.take i).map (·.2) ++ [p].map (·.2)).Nodup) = (decide ((l.take i).map (·.2)).Nodup && !decide (p.2 ∈ (l.take i).map (·.2))) := by
    rw [Bool.eq_iff_iff]
    simp only [decide_eq_true_eq, Bool.and_eq_true, Bool.not_eq_true', decide_eq_false_iff_not]
    rw [List.nodup_append]
    constructor
    · rintro ⟨h1, _, h2⟩
      exact ⟨h1, fun hm => h2 _ hm _ (by simp) rfl⟩
    · rintro ⟨h1, h2⟩
      refine ⟨h1, by simp, fun a ha b hb e => ?_⟩
      simp at hb
      subst hb
      exact h2 (e ▸ ha)
  rw [e]
  simp only [List.all_cons, List.all_nil, Bool.and_true]
  cases (l.take i).all (rowOk n) <;> cases rowOk n p <;> cases decide ((l.take i).map (·.2)).Nodup <;> simp
theorem okArr_cut {n : Int} {l : List (Int × Int)} {i : Nat} (h : okArr n (l.take i) = false) : okArr n l = false := by
  cases e : okArr n l with
  | false => rfl
  | true =>
    unfold okArr at e h
    rw [Bool.and_eq_true] at e
    have h1 : (l.take i).all (rowOk n) = true := by
      rw [List.all_eq_true] at e ⊢
      exact fun p hp => e.1 p (List.mem_of_mem_take hp)
    have h2 : ((l.take i).map (·.2)).Nodup := by
      have := of_decide_eq_true e.2
      rw [List.map_take]
      exact List.Sublist.nodup (List.take_sublist _ _) this
    rw [h1, decide_eq_true h2] at h
    cases h
def spArr : Sp := fun vs H Q _ => ∃ (n : Int) (d : Addr) (l : List (Int × Int)), vs = [.int n, .ref d] ∧ H d = some (.dK (kvI l)) ∧ l.length ≤ 1000 ∧ ∀ H', Same H H' → Q (.bl (okArr n l)) H'
theorem ok_are_arrows (T : Txt K mg) : FnR P w K mg base CX0 3 T.f_are_arrows spArr := by
  refine T.A_are_arrows.ok sc_are_arrows (fun vs H Q E h => ?_) (fun cdv A outer s H vs Q E hr h => ?_)
  · obtain ⟨n, d, l, rfl, _⟩ := h
    rfl
  · obtain ⟨n, d, l, rfl, hd, hl, q⟩ := h
    have hu := hu_of hr
    refine ⟨_, pss_cons (ps_if (pt_not (pt_val (pe_callB call_isi (by rfl) T.n_isinstance (by decide +kernel) (pa_cons (pv 1) (pa_cons (pe_bltn (v := .ty "dict") (u := .type "dict") (by rfl) T.n_dict (by decide +kernel) rfl) pa_nil))))) (pss_one (ps_ret pe_bl)) pss_nil)
      (pss_cons (ps_set (i := 2) sc_are_arrows.nd rfl (Or.inl rfl) pe_dnewK)
      (pss_cons (ps_lock (ps_for PassesOwn.never rfl (pi_items (pv 1)) (pg_tup rfl (pgs_cons (pg_name (i := 3) sc_are_arrows.nd rfl (Or.inl rfl)) (pgs_cons (pg_name (i := 4) sc_are_arrows.nd rfl (Or.inl rfl)) pgs_nil)))
        (pss_cons (ps_if (PW.pt (pw_or (pt_not (pt_val (pe_callR (ok_in_range T) hr T.A_in_range.kp rfl T.g_in_range pass0 (pa_cons (pv 3) (pa_cons pe_int (pa_cons (pe_op op_sub (pv 0) pe_int) pa_nil))))))
            (pw_or (pt_not (pt_val (pe_callR (ok_in_range T) hr T.A_in_range.kp rfl T.g_in_range pass0 (pa_cons (pv 4) (pa_cons pe_int (pa_cons (pe_op op_sub (pv 0) pe_int) pa_nil))))))
            (pw_or1 (pt_cmp (pc_din hu (pv 4) (pv 2))))))) (pss_one (ps_ret pe_bl)) pss_nil)
        (pss_one (ps_dput hu (pv 2) (pv 4) pe_bl rfl)))))
      (pss_one (ps_ret pe_bl)))), ?_⟩
    refine ⟨_, rfl, _, _, _, _, true, rfl, .ty _, .base (.dK hd), kit_ty (by decide +kernel), _, rfl, ?_⟩
    refine iteF ?_
    intro t ht
    have ntd : t ≠ d := fun e => by rw [e, hd] at ht; cases ht
    have hd1 : (upd H t (.dK [])) d = some (.dK (kvI l)) := by rw [upd_ne ntd.symm]; exact hd
    refine ⟨d, _, hd1, trivial, fun od => ?_⟩
    refine ⟨_, rfl, d, od, kvI l, rfl, upd_same, ?_⟩
    refine for_it walk_items (fun i σ H' => ∃ v3 v4, σ = [some (.int n), some (.ref d), some (.ref t), v3, v4] ∧ H' d = some (.frz od (.dK (kvI l))) ∧ Off d H H' ∧ H' t = some (.dK (tgt (l.take i))) ∧ okArr n (l.take i) = true)
      ⟨none, none, rfl, upd_same, (Off.new ht).tr Off.lock, (by rw [upd_ne ntd]; exact upd_same), rfl⟩ (fun i σ H' _ ⟨_, _, _, p, _⟩ => p) ?_ ?_
    · rintro i v σ H' H'' hi ⟨v3, v4, rfl, p1, p2, p3, p4⟩ ⟨U, a, b, rfl, hU, rfl, e1, e2⟩
      rw [kvI_length] at hi
      obtain ⟨⟨x, y⟩, exy⟩ : ∃ p, l[i]? = some p := ⟨_, List.getElem?_eq_getElem hi⟩
      have ek : (kvI l)[i]? = some (Sum.inl x, V.int y) := by unfold kvI; rw [List.getElem?_map, exy]; rfl
      dsimp only at e1 e2
      rw [ek] at e1 e2
      cases e1; cases e2
      have nUd : d ≠ U := ne_of_none p1 hU
      have nUt : t ≠ U := ne_of_none p3 hU
      have d3 : (upd H' U (.tup [kV (Sum.inl x), .int y])) d = some (.frz od (.dK (kvI l))) := by rw [upd_ne nUd]; exact p1
      have t3 : (upd H' U (.tup [kV (Sum.inl x), .int y])) t = some (.dK (tgt (l.take i))) := by rw [upd_ne nUt]; exact p3
      have o3 : Off d H (upd H' U (.tup [kV (Sum.inl x), .int y])) := p2.tr (Off.new hU)
      have bad : (rowOk n (x, y) && !decide (y ∈ (l.take i).map (·.2))) = false → Q (.bl false) (upd (upd H' U (.tup [kV (Sum.inl x), .int y])) d (.dK (kvI l))) := by
        intro hb
        have h1 := okArr_step (n := n) exy
        rw [p4, hb] at h1
        have := q _ (o3.back hd)
        rw [okArr_cut h1] at this
        exact this
      refine ⟨U, [.int x, .int y], rfl, SqT.of upd_same, rfl, .int x, [.int y], rfl, .int y, [], rfl, rfl, ?_⟩
      refine ⟨_, rfl, _, rfl, _, _, rfl, rfl, .int x, 0, n - 1, rfl, trivial, _, rfl, ?_⟩
      refine ifNB (fun hc => iteT ⟨d3, bad ?_⟩) (fun hc => ?_)
      · simp [rowOk, hc]
      refine ⟨_, rfl, _, rfl, _, _, rfl, rfl, .int y, 0, n - 1, rfl, trivial, _, rfl, ?_⟩
      refine ifNB (fun hc2 => iteT ⟨d3, bad ?_⟩) (fun hc2 => ?_)
      · simp [rowOk, hc2]
      refine ⟨_, rfl, _, rfl, t, _, rfl, DGet.k (k := Sum.inl y) t3, _, rfl, ?_⟩
      rw [tgt_val]
      refine ifD (fun hm => ⟨d3, bad ?_⟩) (fun hm => ?_)
      · rw [decide_eq_true hm]; simp
      have hlen : (tgt (l.take i)).length ≤ 1000 := by unfold tgt; rw [List.length_map, List.length_take]; omega
      refine ⟨_, rfl, _, rfl, t, _, rfl, DPut.k (k := Sum.inl y) t3 (small1000 hlen), ?_⟩
      refine ⟨_, _, rfl, ?_, o3.mut ht, ?_, ?_⟩
      · rw [upd_ne ntd.symm]; exact d3
      · rw [upd_same, putK_new _ (valV_none fun z => hm (tgt_key.mp z)), take_more exy]
        unfold tgt
        rw [List.map_append]
        rfl
      · rw [okArr_step exy, p4, decide_eq_false hm]
        simp [rowOk, hc, hc2]
    · rintro σ H' ⟨v3, v4, rfl, p1, p2, p3, p4⟩
      rw [kvI_length, List.take_length] at p4
      have := q _ (p2.back hd)
      rw [p4] at this
      exact ⟨p1, this⟩
end
end My
namespace My
open PySem L2 U StX PM
section
variable {P : Program} {w : World} {K : PySem.W.Frag} {mg : Str → Option Value} {base : Heap}
theorem ne_fld : ¬ (("own_size" : Str) = "own_arrows") := by decide +kernel
/-- a map's attributes -/
def flds (n : Int) (D : Addr) : List (Str × V) := putF "own_arrows" (.ref D) (putF "own_size" (.int n) [])
theorem flds_size (n : Int) (D : Addr) : (flds n D).lookup ("own_size" : Str) = some (.int n) := by
  unfold flds
  rw [lookup_putF, if_neg ne_fld, lookup_putF, if_pos rfl]
theorem flds_arrows (n : Int) (D : Addr) : (flds n D).lookup ("own_arrows" : Str) = some (.ref D) := by
  unfold flds
  rw [lookup_putF, if_pos rfl]
/-- a Map of n elements stands at m: the map f -/
structure IsMap (C : Addr) (H : Hp) (m : Addr) (n : Int) (f : PF) : Prop where
  ob : ∃ dx D, H m = some (.ins C dx (flds n D)) ∧ H D = some (.dK (kvI (tab n f)))
  wf : WF n f
  lo : 1 ≤ n
  hi : n ≤ 300
theorem IsMap.same {C : Addr} {H H' : Hp} {m : Addr} {n : Int} {f : PF} (a : IsMap C H m n f) (s : Same H H') : IsMap C H' m n f := by
  obtain ⟨⟨dx, D, h1, h2⟩, wf, lo, hi⟩ := a
  exact ⟨⟨dx, D, s _ _ h1, s _ _ h2⟩, wf, lo, hi⟩
theorem okArr_of {n : Int} {l : List (Int × Int)} {f : PF} (d : DI l f) (w : WF n f) : okArr n l = true := by
  unfold okArr
  rw [Bool.and_eq_true]
  refine ⟨List.all_eq_true.mpr fun p hp => ?_, decide_eq_true (d.vals w)⟩
  obtain ⟨x, y⟩ := p
  have h := w.dom x y (d.mem.mp hp)
  simp only [rowOk, inR, Bool.and_eq_true, decide_eq_true_eq]
  omega
theorem madeR_tab {l : List (Int × Int)} {f : PF} (d : DI l f) (n : Nat) : madeR (fun k => (lk l k).isSome) (fun x => x) (fun k => ((lk l k).map V.int).getD .non) n = kvI (tabN f n) := by
  induction n with
  | zero => rfl
  | succ n ih =>
    rw [madeR_succ, ih]
    have e : tabN f (n + 1) = tabN f n ++ ((f (n : Int)).map fun y => ((n : Int), y)).toList := by
      unfold tabN
      rw [List.range_succ, List.filterMap_append]
      cases h : f (n : Int) <;> simp [h]
    rw [e, d.at_]
    cases h : f (n : Int) with
    | none => simp
    | some y => simp [kvI]
def spInit (C : Addr) : Sp := fun vs H Q _ => ∃ (p dx d : Addr) (n : Int) (l : List (Int × Int)) (f : PF), vs = [.ref p, .int n, .ref d] ∧ H p = some (.ins C dx []) ∧ H d = some (.dK (kvI l)) ∧ DI l f ∧ WF n f ∧ 1 ≤ n ∧ n ≤ 300 ∧ l.length ≤ 1000 ∧
  ∀ (H' : Hp) (D : Addr), Off p H H' → H D = none → H' p = some (.ins C dx (flds n D)) → H' D = some (.dK (kvI (tab n f))) → Q .non H'
theorem ok_init (T : Txt K mg) : FnR P w K mg base CX0 4 T.f_Map__init (spInit T.C_Map) := by
  refine T.A_Map__init.ok sc_Map__init (fun vs H Q E h => ?_) (fun cdv A outer s H vs Q E hr h => ?_)
  · obtain ⟨p, dx, d, n, l, f, rfl, _⟩ := h
    rfl
  · obtain ⟨p, dx, d, n, l, f, rfl, hp, hd, di, wf, h1, h3, hl, q⟩ := h
    have hu := hu_of hr
    obtain ⟨tk, hms⟩ := T.v_MAX_SIZE
    refine ⟨_, pss_cons (ps_if (pt_not (pt_val (pe_callR (ok_in_range T) (hr.mono (by decide)) T.A_in_range.kp rfl T.g_in_range pass0 (pa_cons (pv 1) (pa_cons pe_int (pa_cons (pe_glob (v := .int 300) rfl hms ⟨_, rfl⟩) pa_nil)))))) (pss_one ps_never) pss_nil)
      (pss_cons (ps_if (pt_not (pt_val (pe_callR (ok_are_arrows T) hr T.A_are_arrows.kp rfl T.g_are_arrows pass0 (pa_cons (pv 1) (pa_cons (pv 2) pa_nil))))) (pss_one ps_never) pss_nil)
      (pss_cons (ps_fld (pv 0) (pv 1) rfl)
      (pss_one (ps_fld (pv 0) (pe_dc (own := [("source", 3)]) (g := gName 3) rfl sc_Map__init.nd (pi_range1 rfl T.n_range (pa_cons (pv 1) pa_nil)) (blkOk_by (own := [("source", 3)]) (N := n_Map__init) (sc := defScope s_Map__init) (by decide +kernel))
        (fun _ _ _ _ _ => pg_name (i := 3) sc_Map__init.nd rfl (Or.inl rfl)) (fun _ _ _ _ _ => pts_one (pt_cmp (pc_din hu (pv 3) (pv 2)))) (fun _ _ _ _ _ => pv 3) (fun _ _ _ _ _ => pe_dget hu (pv 2) (pv 3) (fun _ _ => rfl))) rfl)))), ?_⟩
    refine ⟨_, rfl, .int n, 1, 300, rfl, trivial, _, rfl, ?_⟩
    have e1 : inR (.int n) 1 300 = true := by simp [inR, h1, h3]
    rw [e1]
    refine iteF ⟨_, rfl, _, rfl, n, d, l, rfl, hd, hl, fun H1 s1 => ⟨_, rfl, ?_⟩⟩
    rw [okArr_of di wf]
    refine iteF ?_
    have hp1 := s1 _ _ hp
    have npd : p ≠ d := ne_of hp hd (by intro z; cases z)
    refine ⟨_, rfl, _, rfl, p, T.C_Map, dx, [], rfl, hp1, T.o_Map.cl, T.na_own_size_Map, (by show 0 < 1000; decide), ?_⟩
    have hd1 : (upd H1 p (.ins T.C_Map dx (putF "own_size" (.int n) []))) d = some (.dK (kvI l)) := by rw [upd_ne npd.symm]; exact s1 _ _ hd
    dsimp only [sFld]
    refine dc_range (n := n.toNat) (fun k => (lk l k).isSome) (fun k => ((lk l k).map V.int).getD .non) (fun R r => ⟨_, rfl, n, rfl, by omega, by omega, r⟩) (fun _ => rfl) ?_ (small1000 (by omega)) ?_
    · intro k hk H2 s2
      have hd2 := s2 _ _ hd1
      refine ⟨fun R r => ?_, fun hc => ⟨fun R r => ?_, fun R r => ?_⟩⟩
      · refine ⟨_, rfl, _, rfl, d, _, rfl, DGet.k (k := Sum.inl (0 + (k : Int))) hd2, _, rfl, ?_⟩
        rw [valV_kvI, Option.isSome_map, Int.zero_add]
        exact r
      · refine ⟨_, rfl, ?_⟩
        rw [Int.zero_add]
        exact r
      · cases hv : lk l (k : Int) with
        | none => rw [hv] at hc; cases hc
        | some y =>
          rw [hv] at r
          refine ⟨_, rfl, _, rfl, d, .int y, rfl, ?_, r⟩
          have := DGet.k (k := Sum.inl (0 + (k : Int))) hd2
          rw [valV_kvI, Int.zero_add, hv] at this
          rw [Int.zero_add]
          exact this
    · intro D H2 nD hD s2
      rw [madeR_tab di] at hD
      have hp2 := s2 _ _ (upd_same : (upd H1 p (.ins T.C_Map dx (putF "own_size" (.int n) []))) p = _)
      refine ⟨_, rfl, p, T.C_Map, dx, _, rfl, hp2, T.o_Map.cl, T.na_own_arrows_Map, (by show 1 < 1000; decide), ?_⟩
      have nDp : D ≠ p := fun e => by rw [e, upd_same] at nD; cases nD
      have nD1 : H1 D = none := by rw [upd_ne nDp] at nD; exact nD
      refine q _ D (fun b o hb e => ?_) (s1.free nD1) upd_same ?_
      · rw [upd_ne hb]
        refine s2 _ _ ?_
        rw [upd_ne hb]
        exact s1 _ _ e
      · rw [upd_ne nDp]
        exact hD
end
end My
namespace My
open PySem L2 U StX PM
/-! ### what a comprehension over pairs of ints makes -/
section
variable {P : Program} {w : World} {K : PySem.W.Frag} {mg : Str → Option Value} {base : Heap}
/-! ### size, arrows, common_size -/
def spSize (C : Addr) : Sp := fun vs H Q _ => ∃ m n f, vs = [.ref m] ∧ IsMap C H m n f ∧ Q (.int n) H
theorem ok_size (T : Txt K mg) : FnR P w K mg base CX0 1 T.f_Map_size (spSize T.C_Map) := by
  refine T.A_Map_size.ok sc_Map_size (fun vs H Q E h => ?_) (fun cdv A outer s H vs Q E hr h => ?_)
  · obtain ⟨m, n, f, rfl, _⟩ := h
    rfl
  · obtain ⟨m, n, f, rfl, ⟨⟨dx, D, h1, h2⟩, _⟩, q⟩ := h
    refine ⟨_, pss_one (ps_ret (pe_fld (pv 0) rfl)), ?_⟩
    exact ⟨_, rfl, m, _, dx, _, _, rfl, h1, T.o_Map.cl, T.na_own_size_Map, flds_size _ _, q⟩
def spArrows (C : Addr) : Sp := fun vs H Q _ => ∃ m n f, vs = [.ref m] ∧ IsMap C H m n f ∧ ∀ p, H p = none → Q (.ref p) (upd H p (.dK (kvI (tab n f))))
theorem ok_arrows (T : Txt K mg) : FnR P w K mg base CX0 1 T.f_Map_arrows (spArrows T.C_Map) := by
  refine T.A_Map_arrows.ok sc_Map_arrows (fun vs H Q E h => ?_) (fun cdv A outer s H vs Q E hr h => ?_)
  · obtain ⟨m, n, f, rfl, _⟩ := h
    rfl
  · obtain ⟨m, n, f, rfl, ⟨⟨dx, D, h1, h2⟩, _⟩, q⟩ := h
    refine ⟨_, pss_one (ps_ret (pe_callTy call_dictD (by rfl) T.n_dict (by decide +kernel) (pa_cons (pe_fld (pv 0) rfl) pa_nil))), ?_⟩
    exact ⟨_, rfl, m, _, dx, _, _, rfl, h1, T.o_Map.cl, T.na_own_arrows_Map, flds_arrows _ _, D, _, rfl, Rd.of h2, q⟩
theorem at_map {C : Addr} {H : Hp} {m : Addr} {n : Int} {f : PF} (h : IsMap C H m n f) : ∃ dx fs, H m = some (.ins C dx fs) := by
  obtain ⟨⟨dx, D, h1, _⟩, _⟩ := h
  exact ⟨dx, _, h1⟩
/-! ### the operators -/
end
end My
namespace My
open PySem L2 U StX PM
section
variable {P : Program} {w : World} {K : PySem.W.Frag} {mg : Str → Option Value} {base : Heap}
/-! ### is_part, <=, <, >= -/
/-! ### == -/
def eqB (n : Int) (f : PF) (n' : Int) (g : PF) : Bool := decide (n = n') && dEq (kvI (tab n f)) (kvI (tab n' g))
theorem eqB_self {n : Int} {f : PF} (w : WF n f) : eqB n f n f = true := by
  unfold eqB dEq
  rw [decide_eq_true rfl]
  simp only [Bool.true_and, beq_self_eq_true, List.all_eq_true, decide_eq_true_eq]
  intro p hp
  unfold kvI at hp
  obtain ⟨⟨x, y⟩, hq, rfl⟩ := List.mem_map.mp hp
  show valV (kvI (tab n f)) (Sum.inl x) = some (V.int y)
  rw [valV_kvI, lk_tab w, (mem_tab w).mp hq]
  rfl
end
end My
namespace My
open PySem L2 U StX PM
section
variable {P : Program} {w : World} {K : PySem.W.Frag} {mg : Str → Option Value} {base : Heap}
theorem di_id (N : Nat) : DI ((List.range N).map fun (i : Nat) => ((i : Int), (i : Int))) (idn (N : Int)) := by
  refine di_of ?_ fun a b => ?_
  · rw [List.map_map]
    have : ∀ n : Nat, ((List.range n).map ((fun p : Int × Int => p.1) ∘ fun (i : Nat) => ((i : Int), (i : Int)))).Nodup := by
      intro n
      induction n with
      | zero => exact List.nodup_nil
      | succ n ih =>
        rw [List.range_succ, List.map_append, List.nodup_append]
        refine ⟨ih, by simp, fun a ha b hb e => ?_⟩
        obtain ⟨i, hi, rfl⟩ := List.mem_map.mp ha
        rw [List.mem_range] at hi
        simp at hb
        have e' : (i : Int) = b := e
        omega
    exact this N
  · rw [List.mem_map]
    unfold idn
    constructor
    · rintro ⟨i, hi, e⟩
      rw [List.mem_range] at hi
      cases e
      rw [if_pos ⟨by omega, by omega⟩]
    · intro h
      split at h
      · rename_i hc
        cases h
        exact ⟨a.toNat, List.mem_range.mpr (by omega), by rw [Int.toNat_of_nonneg hc.1]⟩
      · cases h
/-! ### first_clash where there is none, | -/
end
end My
namespace My
open PySem L2 U StX PM
/-! ### comprehensions over values and keys -/
/-! ### seen and found -/
def kvB (sl : List Int) : List (Key × V) := sl.map fun x => (Sum.inl x, V.bl true)
structure Fnd (n : Int) (f : PF) (k : Nat) (fl : List (Int × Int)) (sl : List Int) : Prop where
  nd : (fl.map (·.1)).Nodup
  at_ : ∀ x, lk fl x = if x ∈ sl then iter f k x else none
  sn : sl.Nodup
  dm : ∀ x ∈ sl, 0 ≤ x ∧ x < n
theorem Fnd.put {n : Int} {f : PF} {k : Nat} {fl fl' : List (Int × Int)} {sl sl' : List Int} {x y : Int} (h : Fnd n f k fl sl) (h1 : ∀ z, z ∈ sl' ↔ z ∈ sl ∨ z = x) (h2 : sl.Nodup → sl'.Nodup) (hx : 0 ≤ x ∧ x < n)
    (e : iter f k x = some y) (n1 : (fl.map (·.1)).Nodup → (fl'.map (·.1)).Nodup) (a1 : ∀ z, lk fl' z = if z = x then some y else lk fl z) : Fnd n f k fl' sl' := by
  refine ⟨n1 h.nd, fun z => ?_, h2 h.sn, fun z hz => ?_⟩
  · rw [a1]
    by_cases hz : z = x
    · subst hz
      rw [if_pos rfl, if_pos ((h1 z).mpr (.inr rfl)), e]
    · rw [if_neg hz, h.at_]
      by_cases hs : z ∈ sl
      · rw [if_pos hs, if_pos ((h1 z).mpr (.inl hs))]
      · rw [if_neg hs, if_neg fun q => ((h1 z).mp q).elim hs hz]
  · rcases (h1 z).mp hz with q | rfl
    · exact h.dm z q
    · exact hx
end My
namespace My
open PySem L2 U StX PM
section
variable {P : Program} {w : World} {K : PySem.W.Frag} {mg : Str → Option Value} {base : Heap}
theorem get_map {xs : List Int} {i : Nat} {a : Int} (h : xs[i]? = some a) : (xs.map V.int)[i]? = some (V.int a) := by
  rw [List.getElem?_map, h]; rfl
theorem Same.put {H H' : Hp} {p : Addr} {o : HO} (s : Same H H') (h : H p = none) : Same H (upd H' p o) := fun b u e => by rw [upd_ne (ne_of_none e h)]; exact s b u e
end
end My
namespace My
open PySem L2 U StX PM
/-! ### a drawn map -/
structure Drw (n : Int) (i : Nat) (l : List (Int × Int)) (ns : List Int) : Prop where
  kn : (l.map (·.1)).Nodup
  vn : (l.map (·.2)).Nodup
  nn : ns.Nodup
  lt : ∀ p ∈ l, 0 ≤ p.1 ∧ p.1 < i ∧ 0 ≤ p.2 ∧ p.2 < n
  nt : ∀ y ∈ ns, 0 ≤ y ∧ y < n ∧ y ∉ l.map (·.2)
  ln : l.length ≤ i
  le : l.length + ns.length = n.toNat
theorem Drw.more {n : Int} {i : Nat} {l : List (Int × Int)} {ns : List Int} (h : Drw n i l ns) : Drw n (i + 1) l ns := by
  refine ⟨h.kn, h.vn, h.nn, fun p hp => ?_, h.nt, Nat.le_succ_of_le h.ln, h.le⟩
  have := h.lt p hp
  omega
theorem not_erase {ns : List Int} {k : Nat} {y : Int} (nd : ns.Nodup) (h : ns[k]? = some y) : y ∉ ns.eraseIdx k := by
  obtain ⟨hk, e⟩ := List.getElem?_eq_some_iff.mp h
  have e1 : ns = ns.take k ++ y :: ns.drop (k + 1) := by
    rw [← e]
    simp
  rw [List.eraseIdx_eq_take_drop_succ]
  intro hm
  rw [e1, List.nodup_append, List.nodup_cons] at nd
  rcases List.mem_append.mp hm with h1 | h1
  · exact nd.2.2 y h1 y List.mem_cons_self rfl
  · exact nd.2.1.1 h1
theorem Drw.put {n : Int} {i : Nat} {l : List (Int × Int)} {ns : List Int} (h : Drw n i l ns) {k : Nat} {y : Int} (hy : ns[k]? = some y) : Drw n (i + 1) (l ++ [((i : Int), y)]) (ns.eraseIdx k) ∧ (i : Int) ∉ l.map (·.1) := by
  have hm := h.nt y (List.mem_of_getElem? hy)
  have hi : (i : Int) ∉ l.map (·.1) := by
    intro hm
    obtain ⟨p, hp, e⟩ := List.mem_map.mp hm
    have := h.lt p hp
    omega
  obtain ⟨hk, _⟩ := List.getElem?_eq_some_iff.mp hy
  refine ⟨⟨?_, ?_, ?_, ?_, ?_, ?_, ?_⟩, hi⟩
  · rw [List.map_append, List.nodup_append]
    refine ⟨h.kn, by simp, fun a ha b hb e => ?_⟩
    simp at hb
    subst hb
    exact hi (e ▸ ha)
  · rw [List.map_append, List.nodup_append]
    refine ⟨h.vn, by simp, fun a ha b hb e => ?_⟩
    simp at hb
    subst hb
    exact hm.2.2 (e ▸ ha)
  · exact List.Sublist.nodup (List.eraseIdx_sublist _ _) h.nn
  · intro p hp
    rcases List.mem_append.mp hp with hp | hp
    · have := h.lt p hp
      omega
    · simp at hp
      subst hp
      dsimp only
      omega
  · intro z hz
    have h1 := h.nt z (List.mem_of_mem_eraseIdx hz)
    refine ⟨h1.1, h1.2.1, fun hq => ?_⟩
    rw [List.map_append] at hq
    rcases List.mem_append.mp hq with hq | hq
    · exact h1.2.2 hq
    · simp at hq
      subst hq
      exact not_erase h.nn hy hz
  · have := h.ln
    simp
    omega
  · have := h.le
    rw [List.length_append, List.length_singleton, List.length_eraseIdx, if_pos hk]
    omega
theorem two_in {l : List (Int × Int)} (vn : (l.map (·.2)).Nodup) : ∀ {x x' y : Int}, (x, y) ∈ l → (x', y) ∈ l → x = x' := by
  induction l with
  | nil => intro _ _ _ h; cases h
  | cons p r ih =>
    intro x x' y h1 h2
    rw [List.map_cons, List.nodup_cons] at vn
    rcases List.mem_cons.mp h1 with e1 | e1 <;> rcases List.mem_cons.mp h2 with e2 | e2
    · subst e1; cases e2; rfl
    · subst e1; exact absurd (List.mem_map.mpr ⟨(x', y), e2, rfl⟩) vn.1
    · subst e2; exact absurd (List.mem_map.mpr ⟨(x, y), e1, rfl⟩) vn.1
    · exact ih vn.2 e1 e2
theorem Drw.wf {n : Int} {l : List (Int × Int)} {ns : List Int} (h0 : 0 ≤ n) (h : Drw n n.toNat l ns) : WF n (lk l) := by
  refine ⟨fun x y e => ?_, fun x x' y e e' => two_in h.vn (lk_mem e) (lk_mem e')⟩
  have := h.lt _ (lk_mem e)
  dsimp only at this
  omega
theorem rg0 (n : Int) : rgV 0 n = ((List.range n.toNat).map fun (i : Nat) => (i : Int)).map V.int := by
  unfold rgV
  rw [List.map_map, show (n - 0).toNat = n.toNat by omega]
  refine List.map_congr_left fun a _ => ?_
  show V.int (0 + (a : Int)) = V.int (a : Int)
  rw [Int.zero_add]
theorem drw0 (n : Int) : Drw n 0 [] ((List.range n.toNat).map fun (i : Nat) => (i : Int)) := by
  refine ⟨List.nodup_nil, List.nodup_nil, ?_, fun p h => (nomatch h), fun y hy => ?_, Nat.le_refl _, by simp⟩
  · have := (di_id n.toNat).nd
    rw [List.map_map] at this
    exact this
  · obtain ⟨i, hi, rfl⟩ := List.mem_map.mp hy
    rw [List.mem_range] at hi
    exact ⟨by omega, by omega, by simp⟩
section
variable {P : Program} {w : World} {K : PySem.W.Frag} {mg : Str → Option Value} {base : Heap}
def PoolAt (H : Hp) (p : Addr) : Prop := ∃ a b : Int, H p = some (.lst [.int a, .int b]) ∧ 0 ≤ a ∧ 0 ≤ b ∧ b < 2147483647
def spDrwn : Sp := fun vs H Q _ => ∃ (p : Addr) (n way : Int), vs = [.ref p, .int n, .int way] ∧ PoolAt H p ∧ 1 ≤ n ∧ n ≤ 300 ∧
  ∀ r H' l, H r = none → H' r = some (.dK (kvI l)) → DI l (lk l) → WF n (lk l) → l.length ≤ 1000 → PoolAt H' p → Off p H H' → Q (.ref r) H'
theorem Off.put {p q : Addr} {H H' : Hp} {o : HO} (a : Off p H H') (h : H q = none) : Off p H (upd H' q o) := a.mut h
theorem Off.at {p : Addr} {H H' : Hp} {o : HO} (a : Off p H H') : Off p H (upd H' p o) := fun b u hb e => by rw [upd_ne hb]; exact a b u hb e
theorem ok_l_arrows (T : Txt K mg) : FnR P w K mg base CX0 2 T.f_l_arrows spDrwn := by
  refine T.A_l_arrows.ok sc_l_arrows (fun vs H Q E h => ?_) (fun cdv A outer s H vs Q E hr h => ?_)
  · obtain ⟨p, n, way, rfl, _⟩ := h
    rfl
  · obtain ⟨p, n, way, rfl, ⟨a0, b0, hp, ha0, hb0, hb1⟩, h1, h3, q⟩ := h
    have hu := hu_of hr
    refine ⟨_, pss_cons (ps_par (i := 3) (j := 4) rfl sc_l_arrows.nd rfl rfl (by decide) rfl rfl (pa_cons (pe_listRg rfl rfl T.n_list (prg_1 rfl T.n_range (pv 1))) (pa_cons pe_dnewK pa_nil)) (by rfl))
      (pss_cons (ps_for PassesOwn.never rfl (pi_range1 rfl T.n_range (pa_cons (pv 1) pa_nil)) (pg_name (i := 5) sc_l_arrows.nd rfl (Or.inl rfl))
        (pss_one (ps_if (pt_cmpR op_lt (pe_callR (ok_draw T) hr T.A_l_draw.kp rfl T.g_l_draw pass0 (pa_cons (pv 0) (pa_cons pe_int pa_nil))) (pv 2) (nomark _))
          (pss_one (ps_dput hu (pv 4) (pv 5) (pe_bm PySem.F.plainAttrs_list PySem.F.slot_list_pop PySem.F.type_list_pop mt_popAt (pv 3) (pa_cons (pe_callR (ok_draw T) hr T.A_l_draw.kp rfl T.g_l_draw pass0 (pa_cons (pv 0) (pa_cons (pe_callB call_len_seq (by rfl) T.n_len (by decide +kernel) (pa_cons (pv 3) pa_nil)) pa_nil))) pa_nil)) rfl)) pss_nil)))
      (pss_one (ps_ret (pv 4)))), ?_⟩
    refine ⟨_, rfl, n, rfl, RgOk.of_le (by decide) (by omega) (by decide) (by omega), fun lf hlf => ?_⟩
    intro fo hfo
    refine ⟨_, _, rfl, ?_⟩
    have lf0 : H lf = none := hlf
    have fo0 : H fo = none := (Same.new hlf).free hfo
    have npl : p ≠ lf := ne_of_none hp lf0
    have npf : p ≠ fo := ne_of_none hp fo0
    have nlf : lf ≠ fo := ne_of_none upd_same hfo
    refine ⟨_, rfl, n, rfl, by omega, by omega, ?_⟩
    refine for_it (walk_range (lo := 0) (n := n.toNat)) (fun i σ H' => ∃ v5 l ns, σ = [some (.ref p), some (.int n), some (.int way), some (.ref lf), some (.ref fo), v5] ∧ PoolAt H' p ∧ Off p H H' ∧ H' lf = some (.lst (ns.map V.int)) ∧ H' fo = some (.dK (kvI l)) ∧ Drw n i l ns)
      ⟨none, [], _, rfl, ⟨a0, b0, ?_, ha0, hb0, hb1⟩, ?_, ?_, upd_same, drw0 n⟩ (fun _ _ _ _ _ => trivial) ?_ ?_
    · rw [upd_ne npf, upd_ne npl]; exact hp
    · exact (Off.new hlf).tr (Off.new hfo)
    · rw [upd_ne nlf, upd_same, rg0]
    · rintro i v σ H' H'' hi ⟨v5, l, ns, rfl, ⟨a1, b1, e1, ha1, hb1, hb2⟩, p2, p3, p4, p5⟩ ⟨rfl, rfl⟩
      refine ⟨_, rfl, p, a1, b1, 4, rfl, e1, ha1, hb1, hb2, by decide, by decide, fun a2 b2 r2 ha2 hb2 hb3 hr2 hr3 => ?_⟩
      refine ⟨_, rfl, _, _, rfl, rfl, _, rfl, ?_⟩
      have o2 : Off p H (upd H'' p (.lst [.int a2, .int b2])) := Off.at p2
      have l2 : (upd H'' p (.lst [.int a2, .int b2])) lf = some (.lst (ns.map V.int)) := by rw [upd_ne npl.symm]; exact p3
      have f2 : (upd H'' p (.lst [.int a2, .int b2])) fo = some (.dK (kvI l)) := by rw [upd_ne npf.symm]; exact p4
      refine ifD (fun hlt => ?_) (fun _ => ?_)
      · have hlen := p5.le
        have hln := p5.ln
        have hl0 : 0 < ns.length := by omega
        refine ⟨_, rfl, .inl ⟨rfl, _, SqL.of l2⟩, _, rfl, _, rfl, lf, _, rfl, .inl (SqL.of l2), ?_⟩
        rw [List.length_map]
        refine ⟨p, a2, b2, (ns.length : Int), rfl, upd_same, ha2, hb2, hb3, by omega, by omega, fun a4 b4 r4 ha4 hb4 hb5 hr4 hr5 => ?_⟩
        obtain ⟨y, ey⟩ : ∃ y, ns[r4.toNat]? = some y := ⟨_, List.getElem?_eq_getElem (by omega)⟩
        obtain ⟨d1, d2⟩ := p5.put ey
        refine ⟨lf, _, r4, r4.toNat, .int y, rfl, rfl, (by rw [upd_ne npl.symm]; exact l2), by omega, by omega, ?_, get_map ey, ?_⟩
        · rw [List.length_map]
          exact PySem.seqIndex_of hr4 (by omega)
        refine ⟨_, rfl, _, rfl, fo, _, rfl, DPut.k (k := Sum.inl (0 + (i : Nat) : Int)) (kvs := kvI l) (by rw [upd_ne nlf.symm, upd_ne npf.symm]; exact f2) (small1000 (by rw [kvI_length]; omega)), ?_⟩
        rw [Int.zero_add, putK_kvI d2]
        refine ⟨_, _, ns.eraseIdx r4.toNat, rfl, ⟨a4, b4, ?_, ha4, hb4, hb5⟩, ?_, ?_, upd_same, d1⟩
        · rw [upd_ne npf, upd_ne npl, upd_same]
        · exact Off.put (Off.put (Off.at o2) lf0) fo0
        · rw [upd_ne nlf, upd_same]
          congr 2
          apply List.ext_getElem?
          intro m
          simp [List.getElem?_eraseIdx]
          split <;> rfl
      · exact ⟨_, l, ns, rfl, ⟨a2, b2, upd_same, ha2, hb2, hb3⟩, o2, l2, f2, p5.more⟩
    · rintro σ H' ⟨v5, l, ns, rfl, p1, p2, p3, p4, p5⟩
      have := p5.ln
      exact ⟨_, rfl, q fo H' l fo0 p4 ⟨p5.kn, fun _ => rfl⟩ (p5.wf (by omega)) (by omega) p1 p2⟩
end
end My
namespace My
open PySem L2 U StX PM
/-! ### values that are no maps; check_map -/
def nonMapV (H : Hp) : V → Prop
  | .non => True | .bl _ => True | .int _ => True | .str _ => True
  | .ref a => (∃ xs, H a = some (.lst xs)) ∨ (∃ xs, H a = some (.tup xs)) ∨ (∃ kvs, H a = some (.dK kvs))
  | _ => False
section
variable {P : Program} {w : World} {K : PySem.W.Frag} {mg : Str → Option Value} {base : Heap}
theorem ok_ini_InvalidMap (T : Txt K mg) : FnR P w K mg base CX0 1 T.f_InvalidMap__init (spIni1 T.C_InvalidMap "part") := by
  refine T.A_InvalidMap__init.ok sc_InvalidMap__init (fun vs H Q E h => ?_) (fun cdv A outer s H vs Q E hr h => ?_)
  · obtain ⟨a, v, rfl, _⟩ := h
    rfl
  · obtain ⟨a, v, rfl, ha, q⟩ := h
    refine ⟨_, pss_one (ps_ostG (pv 0) (pv 1)), ?_⟩
    exact ⟨_, rfl, _, rfl, a, T.C_InvalidMap, rfl, T.x_InvalidMap, T.na_part_InvalidMap, .inl ⟨ha, fun dx h1 h2 => q dx h1 h2⟩⟩
theorem ty_nonmap (T : Txt K mg) {H : Hp} {x : V} (h : nonMapV H x) : ∃ t, TyX K H x t ∧ PySem.W.kitOne K t (.ref T.C_Map) = some false := by
  cases x with
  | non => exact ⟨_, .base .non, T.kn_NoneType_Map⟩
  | bl b => exact ⟨_, .base (.bl b), T.kn_bool_Map⟩
  | int i => exact ⟨_, .base (.int i), T.kn_int_Map⟩
  | str z => exact ⟨_, .base (.str z), T.kn_str_Map⟩
  | ref a =>
    rcases h with ⟨xs, e⟩ | ⟨xs, e⟩ | ⟨xs, e⟩
    · exact ⟨_, .base (.lst e), T.kn_list_Map⟩
    · exact ⟨_, .base (.tup e), T.kn_tuple_Map⟩
    · exact ⟨_, .base (.dK e), T.kn_dict_Map⟩
  | byt b => exact h.elim
  | flt b => exact h.elim
  | ty b => exact h.elim
end
/-! ### lists of rows -/
def RowsAt (H : Hp) : List Addr → List (List Int) → Prop
  | [], [] => True
  | a :: as, r :: rs => H a = some (.lst (r.map V.int)) ∧ RowsAt H as rs
  | _, _ => False
theorem RowsAt.map {H H' : Hp} : ∀ {as : List Addr} {rs : List (List Int)}, RowsAt H as rs → (∀ a ∈ as, ∀ xs, H a = some (.lst xs) → H' a = some (.lst xs)) → RowsAt H' as rs
  | [], [], _, _ => trivial
  | _ :: as, _ :: rs, h, k => ⟨k _ List.mem_cons_self _ h.1, RowsAt.map h.2 fun a ha => k a (List.mem_cons_of_mem _ ha)⟩
  | [], _ :: _, h, _ => h.elim
  | _ :: _, [], h, _ => h.elim
theorem RowsAt.same {H H' : Hp} {as : List Addr} {rs : List (List Int)} (h : RowsAt H as rs) (s : Same H H') : RowsAt H' as rs := h.map fun a _ xs e => s a _ e
theorem RowsAt.off {H : Hp} {as : List Addr} {rs : List (List Int)} {p : Addr} {o : HO} (h : RowsAt H as rs) (n : p ∉ as) : RowsAt (upd H p o) as rs := h.map fun a ha xs e => by
  have hne : a ≠ p := fun z => n (z ▸ ha)
  rw [upd_ne hne]; exact e
theorem RowsAt.snoc {H : Hp} {a : Addr} {r : List Int} : ∀ {as : List Addr} {rs : List (List Int)}, RowsAt H as rs → H a = some (.lst (r.map V.int)) → RowsAt H (as ++ [a]) (rs ++ [r])
  | [], [], _, e => ⟨e, trivial⟩
  | _ :: as, _ :: rs, h, e => ⟨h.1, RowsAt.snoc h.2 e⟩
  | [], _ :: _, h, _ => h.elim
  | _ :: _, [], h, _ => h.elim
theorem RowsAt.get {H : Hp} : ∀ {as : List Addr} {rs : List (List Int)}, RowsAt H as rs → ∀ (i : Nat) (a : Addr), as[i]? = some a → ∃ r, rs[i]? = some r ∧ H a = some (.lst (r.map V.int))
  | [], [], _, i, a, e => by simp at e
  | b :: as, r :: rs, h, 0, a, e => by cases e; exact ⟨r, rfl, h.1⟩
  | _ :: as, _ :: rs, h, i + 1, a, e => RowsAt.get h.2 i a e
  | [], _ :: _, h, _, _, _ => h.elim
  | _ :: _, [], h, _, _, _ => h.elim
theorem RowsAt.mem {H : Hp} {as : List Addr} {rs : List (List Int)} (h : RowsAt H as rs) {a : Addr} (ha : a ∈ as) : ∃ r ∈ rs, H a = some (.lst (r.map V.int)) := by
  obtain ⟨i, hi⟩ := List.mem_iff_getElem?.mp ha
  obtain ⟨r, e1, e2⟩ := h.get i a hi
  exact ⟨r, List.mem_of_getElem? e1, e2⟩
end My
namespace My
open PySem L2 U StX PM
section
variable {P : Program} {w : World} {K : PySem.W.Frag} {mg : Str → Option Value} {base : Heap}
structure Prt (n : Int) (f : PF) (H H' : Hp) (lh se : Addr) (ex : List Addr) (b : List Int) (hs : List Addr) (sl : List Int) (st : List Int) : Prop where
  sm : Same H H'
  l : H' lh = some (.lst (hs.map V.ref))
  s : H' se = some (.dK (kvB sl))
  r : RowsAt H' hs (st.map (rowN f))
  m : ∀ x, x ∈ sl ↔ x ∈ seenL f (b ++ st)
  nd : sl.Nodup
  nw : ∀ a ∈ hs, H a = none ∧ a ≠ lh ∧ a ≠ se ∧ a ∉ ex
/-- one row more, from a new list r, its marks merged -/
theorem Prt.more {n : Int} {f : PF} {H H1 H2 H3 : Hp} {lh se : Addr} {ex hs : List Addr} {b sl sl' st : List Int} {e : Int} {r : Addr} (p : Prt n f H H1 lh se ex b hs sl st) (hl0 : H lh = none) (hs0 : H se = none) (nls : lh ≠ se) (hex : ∀ a ∈ ex, H1 a ≠ none)
    (hr : H1 r = none) (s2 : Same H1 H2) (hr2 : H2 r = some (.lst ((rowN f e).map V.int))) (m1 : ∀ z, z ∈ sl' ↔ z ∈ sl ∨ z ∈ rowN f e) (n1 : sl.Nodup → sl'.Nodup) (s3 : Same (upd H2 lh (.lst (hs.map V.ref ++ [.ref r]))) H3) :
    Prt n f H (upd H3 se (.dK (kvB sl'))) lh se ex b (hs ++ [r]) sl' (st ++ [e]) := by
  have rl : r ≠ lh := fun z => by rw [z, p.l] at hr; cases hr
  have rs : r ≠ se := fun z => by rw [z, p.s] at hr; cases hr
  have r0 : H r = none := p.sm.free hr
  have rx : r ∉ ex := fun z => hex r z hr
  refine ⟨?_, ?_, upd_same, ?_, ?_, n1 p.nd, ?_⟩
  · refine Same.put ?_ hs0
    exact (Same.put (p.sm.trans s2) hl0).trans s3
  · rw [upd_ne nls, s3 _ _ upd_same, List.map_append]
    rfl
  · rw [List.map_append]
    refine RowsAt.snoc ?_ ?_
    · have h1 := (p.r.same s2).off (p := lh) (o := .lst (hs.map V.ref ++ [.ref r])) (fun z => (p.nw lh z).2.1 rfl)
      exact (h1.same s3).off fun z => (p.nw se z).2.2.1 rfl
    · rw [upd_ne rs]
      exact s3 _ _ (by rw [upd_ne rl]; exact hr2)
  · intro x
    rw [m1, p.m, mem_seenL, mem_seenL]
    constructor
    · rintro (⟨e', h1, h2⟩ | h)
      · exact ⟨e', by rw [← List.append_assoc]; exact List.mem_append_left _ h1, h2⟩
      · exact ⟨e, by simp, h⟩
    · rintro ⟨e', h1, h2⟩
      rw [← List.append_assoc] at h1
      rcases List.mem_append.mp h1 with h1 | h1
      · exact .inl ⟨e', h1, h2⟩
      · rw [List.mem_singleton] at h1
        subst h1
        exact .inr h2
  · intro a ha
    rcases List.mem_append.mp ha with ha | ha
    · exact p.nw a ha
    · rw [List.mem_singleton] at ha
      subst ha
      exact ⟨r0, rl, rs, rx⟩
/-! ### cycles_of, chains_of -/
end
end My
namespace My
open PySem L2 U StX PM
theorem asg_of {t : TE} {D : Ends} {σ : L2.St} {H : Hp} {i : Nat} (h : t σ H (fun v H' => D.nx (σ.set i (some v)) H')) : tAsg t (gName i) D σ H := h
/-! ### lists of ints: in, comprehensions -/
/-! ### rows with marks -/
def PairsAt (H : Hp) : List Addr → List Addr → List Bool → Prop
  | [], [], [] => True
  | p :: ps, a :: as, b :: bs => H p = some (.tup [.ref a, .bl b]) ∧ PairsAt H ps as bs
  | _, _, _ => False
theorem PairsAt.map {H H' : Hp} : ∀ {ps as : List Addr} {bs : List Bool}, PairsAt H ps as bs → (∀ p ∈ ps, ∀ xs, H p = some (.tup xs) → H' p = some (.tup xs)) → PairsAt H' ps as bs
  | [], [], [], _, _ => trivial
  | _ :: ps, _ :: as, _ :: bs, h, k => ⟨k _ List.mem_cons_self _ h.1, PairsAt.map h.2 fun a ha => k a (List.mem_cons_of_mem _ ha)⟩
  | [], [], _ :: _, h, _ => h.elim
  | [], _ :: _, _, h, _ => h.elim
  | _ :: _, [], _, h, _ => h.elim
  | _ :: _, _ :: _, [], h, _ => h.elim
theorem PairsAt.same {H H' : Hp} {ps as : List Addr} {bs : List Bool} (h : PairsAt H ps as bs) (s : Same H H') : PairsAt H' ps as bs := h.map fun a _ xs e => s a _ e
theorem PairsAt.off {H : Hp} {ps as : List Addr} {bs : List Bool} {q : Addr} {o u : HO} (h : PairsAt H ps as bs) (hq : H q = some u) (nt : ∀ xs, u ≠ .tup xs) : PairsAt (upd H q o) ps as bs := h.map fun a ha xs e => by
  have hne : a ≠ q := fun z => by subst z; rw [hq] at e; exact nt _ (Option.some.inj e)
  rw [upd_ne hne]; exact e
theorem PairsAt.get {H : Hp} : ∀ {ps as : List Addr} {bs : List Bool}, PairsAt H ps as bs → ∀ (i : Nat) (p : Addr), ps[i]? = some p → ∃ a b, as[i]? = some a ∧ bs[i]? = some b ∧ H p = some (.tup [.ref a, .bl b])
  | [], [], [], _, i, a, e => by simp at e
  | _ :: ps, a :: as, b :: bs, h, 0, p, e => by cases e; exact ⟨a, b, rfl, rfl, h.1⟩
  | _ :: ps, _ :: as, _ :: bs, h, i + 1, p, e => PairsAt.get h.2 i p e
  | [], [], _ :: _, h, _, _, _ => h.elim
  | [], _ :: _, _, h, _, _, _ => h.elim
  | _ :: _, [], _, h, _, _, _ => h.elim
  | _ :: _, _ :: _, [], h, _, _, _ => h.elim
end My
namespace My
open PySem L2 U StX PM
/-! ### rows by their first elements -/
def RowsZ (f : PF) (H : Hp) (zs : List (Addr × Int)) : Prop := ∀ z ∈ zs, H z.1 = some (.lst ((rowN f z.2).map V.int))
theorem RowsZ.at {f : PF} {H : Hp} : ∀ {zs : List (Addr × Int)}, RowsZ f H zs → RowsAt H (zs.map (·.1)) ((zs.map (·.2)).map (rowN f))
  | [], _ => trivial
  | z :: zs, h => ⟨h z List.mem_cons_self, RowsZ.at fun x hx => h x (List.mem_cons_of_mem _ hx)⟩
/-! ### data that may be compared -/
end My
namespace My
open PySem L2 U StX PM
theorem SqL.same {K : PySem.W.Frag} {H H' : Hp} {a : Addr} {xs : List V} (h : SqL K H a xs) (s : Same H H') : SqL K H' a xs := by
  rcases h with (h | ⟨o, h⟩) | h
  · exact .inl (.inl (s _ _ h))
  · exact .inl (.inr ⟨o, s _ _ h⟩)
  · exact .inr h
theorem Same.off {H H1 H2 : Hp} {p : Addr} (s : Same H H1) (o : Off p H1 H2) (h : H p = none) : Same H H2 := fun b u e => o b u (ne_of_none e h) (s b u e)
theorem yes_ {σ : L2.St} {H : Hp} {A B : Hp → Prop} (h : A H) : tYes σ H (fun b H3 => if b = true then A H3 else B H3) := by
  show (if true = true then A H else B H)
  rw [if_pos rfl]
  exact h
theorem PoolAt.same {H H' : Hp} {p : Addr} (h : PoolAt H p) (s : Same H H') : PoolAt H' p := by
  obtain ⟨a, b, e, r⟩ := h
  exact ⟨a, b, s _ _ e, r⟩
theorem PoolAt.lst {H : Hp} {p : Addr} (h : PoolAt H p) : ∃ xs, H p = some (.lst xs) := by
  obtain ⟨a, b, e, r⟩ := h
  exact ⟨_, e⟩
theorem PoolAt.ne {H : Hp} {p q : Addr} (h : PoolAt H p) (hq : H q = none) : p ≠ q := by
  obtain ⟨xs, e⟩ := h.lst
  exact ne_of_none e hq
def spLaw (K : PySem.W.Frag) : Sp := fun vs H Q _ => ∃ (a : Addr) (ns : List Int), vs = [.ref a] ∧ SqL K H a (ns.map V.int) ∧ ns.length ≤ 63 ∧ ∀ H', Q (.bl true) H'
theorem IsMap.off {C p : Addr} {H H' : Hp} {m : Addr} {n : Int} {f : PF} (a : IsMap C H m n f) (o : Off p H H') (h : ∃ xs, H p = some (.lst xs)) : IsMap C H' m n f := by
  obtain ⟨⟨dx, D, h1, h2⟩, wf, lo, hi⟩ := a
  obtain ⟨xs, h⟩ := h
  exact ⟨⟨dx, D, o _ _ (fun e => by rw [e, h] at h1; cases h1) h1, o _ _ (fun e => by rw [e, h] at h2; cases h2) h2⟩, wf, lo, hi⟩
/-- Map(n, d) -/
theorem init_of {C : Addr} {H : Hp} {d : Addr} {n : Int} {l : List (Int × Int)} {f : PF} {R : VK} {E : XK} {x dx : Addr} (hd : H d = some (.dK (kvI l))) (di : DI l f) (wf : WF n f) (h1 : 1 ≤ n) (h3 : n ≤ 300) (hl : l.length ≤ 1000)
    (hx : H x = none) (hdx : H dx = none) (ne : dx ≠ x) (q : ∀ H', Same H H' → IsMap C H' x n f → R .non H') :
    spInit C [.ref x, .int n, .ref d] (upd (upd H dx (.own x)) x (.ins C dx [])) R E := by
  have s0 : Same H (upd (upd H dx (.own x)) x (.ins C dx [])) := fun b o e => by
    rw [upd_ne (ne_of_none e hx), upd_ne (ne_of_none e hdx)]
    exact e
  refine ⟨x, dx, d, n, l, f, rfl, upd_same, s0 _ _ hd, di, wf, h1, h3, hl, fun H' D o nD hp hD => ?_⟩
  exact q H' (fun b u e => o b u (ne_of_none e hx) (s0 b u e)) ⟨⟨dx, D, hp, hD⟩, wf, h1, h3⟩
/-- the law's draw, told by the pool alone -/
theorem draw_of {H : Hp} {p : Addr} {n : Int} {Q : VK} {E : XK} (h : PoolAt H p) (n0 : 0 < n) (n1 : n < 1073741824) (k : ∀ r H', 0 ≤ r → r < n → PoolAt H' p → Off p H H' → (∃ xs, H' = upd H p (.lst xs)) → Q (.int r) H') : spDraw [.ref p, .int n] H Q E := by
  obtain ⟨a, b, e, ha, hb, hc⟩ := h
  exact ⟨p, a, b, n, rfl, e, ha, hb, hc, n0, n1, fun a' b' r h1 h2 h3 h4 h5 => k r _ h4 h5 ⟨a', b', upd_same, h1, h2, h3⟩ Off.lock ⟨_, rfl⟩⟩
end My
namespace My
open PySem L2 U StX PM
theorem PoolAt.put {H : Hp} {p q : Addr} {o : HO} (h : PoolAt H p) (n : p ≠ q) : PoolAt (upd H q o) p := by
  obtain ⟨a, b, e, r⟩ := h
  exact ⟨a, b, by rw [upd_ne n]; exact e, r⟩
theorem draw_R {i : Nat} {tb : TE} {σ : L2.St} {H : Hp} {Q : VK} {p : Addr} {n : Int} (hi : σ[i]? = some (some (.ref p))) (hb : ∀ R : VK, R (.int n) H → tb σ H R) (h : PoolAt H p) (n0 : 0 < n) (n1 : n < 1073741824)
    (k : ∀ r H', 0 ≤ r → r < n → PoolAt H' p → Off p H H' → Q (.int r) H') : tCallR spDraw E0 (tCons (tVar i) (tCons tb tNil)) σ H Q :=
  ⟨_, hi, hb _ (draw_of (E := E0) h n0 n1 fun r H' h1 h2 h3 h4 _ => k r H' h1 h2 h3 h4)⟩
theorem cut1 (v0 : V) (r : List V) : cutV (v0 :: r) (some 1) none = r ∧ ¬ (HT.sIx (v0 :: r).length 0 (some 1) = 0 ∧ HT.sIx (v0 :: r).length (v0 :: r).length none = (v0 :: r).length) := by
  have h : HT.sIx (v0 :: r).length 0 (some 1) = 1 := by
    show (if (1 : Int) < 0 then ((1 : Int) + (((v0 :: r).length : Nat) : Int)).toNat else min (1 : Int).toNat (v0 :: r).length) = 1
    rw [if_neg (by decide), List.length_cons]
    show min 1 _ = 1
    omega
  constructor
  · unfold cutV
    rw [h, HT.sIx_none]
    show r.take ((v0 :: r).length - 1) = r
    rw [List.length_cons, Nat.add_sub_cancel, List.take_length]
  · rintro ⟨h1, _⟩
    rw [h] at h1
    cases h1
end My
namespace My
open PySem L2 U StX PM
/-! ### a map as a text -/
def dI (l : List (Int × Int)) : PyData := flatD (kvI l) (l.map fun p => .int p.2)
theorem dI_eq (l : List (Int × Int)) : dI l = .dict (l.map fun p => (PyData.int p.1, PyData.int p.2)) := by
  unfold dI flatD kvI
  rw [List.map_map]
  congr 1
  induction l with
  | nil => rfl
  | cons p r ih =>
    rw [List.map_cons, List.map_cons, List.map_cons, List.zip_cons_cons, ih]
    rfl
theorem dI_sc : ∀ (l : List (Int × Int)), Paired (fun kv d => Sc kv.2 d) (kvI l) (l.map fun p => PyData.int p.2)
  | [] => .nil
  | p :: r => .cons (.int p.2) (dI_sc r)
def small (i : Int) : Prop := i.natAbs < 1000000000
theorem small_log {i : Int} (h : small i) : i.natAbs.log2 < 1920 := by
  unfold small at h
  by_cases h0 : i.natAbs = 0
  · rw [h0]; decide
  · rw [Nat.log2_lt h0]
    exact Nat.lt_of_lt_of_le h (by decide)
theorem small_len {i : Int} (h : small i) : (Str.ofString (toString i)).length ≤ 10 := by
  have := int_text_length_le10 (a := i) (k := 9) (by decide) h
  rw [ofString_length]
  omega
def rowT (p : Int × Int) : Str := PyData.shown (.int p.1) ++ ": " ++ PyData.shown (.int p.2)
theorem dI_shown (l : List (Int × Int)) : (dI l).shown = dictText (l.map rowT) := by
  rw [dI_eq]
  simp only [PyData.shown]
  congr 1
  induction l with
  | nil => rfl
  | cons p r ih =>
    rw [List.map_cons, List.map_cons]
    simp only [PyData.shownKv]
    rw [ih]
    rfl
theorem rowT_len {p : Int × Int} (h1 : small p.1) (h2 : small p.2) : (rowT p).length ≤ 22 := by
  have a := small_len h1
  have b := small_len h2
  unfold rowT
  simp only [PyData.shown]
  rw [strLen_append, strLen_append]
  show _ + 2 + _ ≤ 22
  omega
theorem sum_le {l : List Nat} {B : Nat} (h : ∀ x ∈ l, x ≤ B) : l.sum ≤ l.length * B := by
  induction l with
  | nil => exact Nat.zero_le _
  | cons a r ih =>
    rw [List.sum_cons, List.length_cons, Nat.succ_mul]
    have := ih fun x hx => h x (List.mem_cons_of_mem _ hx)
    have := h a List.mem_cons_self
    omega
theorem dI_len {l : List (Int × Int)} (h : ∀ p ∈ l, small p.1 ∧ small p.2) (hl : l.length ≤ 1000) : (dI l).shown.length ≤ 30000 := by
  rw [dI_shown]
  have h1 := dictText_len_le (l.map rowT)
  have h2 : ((l.map rowT).map (·.length)).sum ≤ ((l.map rowT).map (·.length)).length * 22 := sum_le fun x hx => by
    rw [List.map_map] at hx
    obtain ⟨p, hp, rfl⟩ := List.mem_map.mp hx
    exact rowT_len (h p hp).1 (h p hp).2
  rw [List.length_map, List.length_map] at h2
  rw [List.length_map] at h1
  omega
theorem dI_able {l : List (Int × Int)} (h : ∀ p ∈ l, small p.1 ∧ small p.2) : (dI l).showable = true := by
  rw [dI_eq]
  simp only [PyData.showable]
  induction l with
  | nil => rfl
  | cons p r ih =>
    rw [List.map_cons]
    simp only [PyData.showableKv, PyData.showable]
    have := h p List.mem_cons_self
    rw [ih fun q hq => h q (List.mem_cons_of_mem _ hq), decide_eq_true (small_log this.1), decide_eq_true (small_log this.2)]
    rfl
theorem dI_depth (l : List (Int × Int)) : (dI l).depth ≤ 60 := by
  rw [dI_eq]
  show PyData.depthKv (l.map fun p => (PyData.int p.1, PyData.int p.2)) + 1 ≤ 60
  have : PyData.depthKv (l.map fun p => (PyData.int p.1, PyData.int p.2)) = 0 := by
    induction l with
    | nil => rfl
    | cons p r ih =>
      rw [List.map_cons]
      show max (max 0 0) (PyData.depthKv (r.map fun p => (PyData.int p.1, PyData.int p.2))) = 0
      rw [ih]
      rfl
  omega
def reprM (n : Int) (l : List (Int × Int)) : Str := Str.empty ++ "Map(" ++ toString n ++ ", " ++ (dI l).shown ++ ")"
theorem tab_small {n : Int} {f : PF} (wf : WF n f) (h : n ≤ 300) : ∀ p ∈ tab n f, small p.1 ∧ small p.2 := by
  rintro ⟨x, y⟩ hp
  have := wf.dom x y ((mem_tab wf).mp hp)
  unfold small
  constructor <;> (dsimp only; omega)
def spRepr (C : Addr) : Sp := fun vs H Q _ => ∃ a n f, vs = [.ref a] ∧ IsMap C H a n f ∧ ((reprM n (tab n f)).length ≤ 40000 → Q (.str (reprM n (tab n f))) H)
section
variable {P : Program} {w : World} {K : PySem.W.Frag} {mg : Str → Option Value} {base : Heap}
theorem ok_repr (T : Txt K mg) : FnG P w K mg base CX0 5 T.f_Map__repr (spRepr T.C_Map) := by
  refine T.A_Map__repr.okG sc_Map__repr (fun vs H Q E h => ?_) (fun cdv A outer s H vs Q E gd hr h => ?_)
  · obtain ⟨a, n, f, rfl, _⟩ := h
    rfl
  · obtain ⟨a, n, f, rfl, ha, q⟩ := h
    refine ⟨_, pss_one (ps_ret (pe_joined (.cons pe_str (.cons (pe_fmt (pe_fld (pv 0) rfl)) (.cons pe_str (.cons (pe_fmtF gd hr.units (pe_fld (pv 0) rfl)) (.cons pe_str .nil))))))), ?_⟩
    obtain ⟨dx, D, h1, h2⟩ := id ha.ob
    have hn : small n := by have := ha.lo; have := ha.hi; unfold small; omega
    have hs := tab_small ha.wf ha.hi
    have tl := tab_len n f
    have h9 := ha.hi
    have l1 := small_len hn
    have l2 := dI_len hs (by omega)
    have e1 : (Str.empty ++ Str.ofString "Map(").length = 4 := rfl
    have e2 : (Str.empty ++ Str.ofString "Map(" ++ Str.ofString (toString n)).length = 4 + (Str.ofString (toString n)).length := by rw [strLen_append, e1]
    have e3 : (Str.empty ++ Str.ofString "Map(" ++ Str.ofString (toString n) ++ Str.ofString ", ").length = 4 + (Str.ofString (toString n)).length + 2 := by rw [strLen_append, e2]; rfl
    have e4 : (Str.empty ++ Str.ofString "Map(" ++ Str.ofString (toString n) ++ Str.ofString ", " ++ (dI (tab n f)).shown).length = 4 + (Str.ofString (toString n)).length + 2 + (dI (tab n f)).shown.length := by rw [strLen_append, e3]
    have e5 : (Str.empty ++ Str.ofString "Map(" ++ Str.ofString (toString n) ++ Str.ofString ", " ++ (dI (tab n f)).shown ++ Str.ofString ")").length = 4 + (Str.ofString (toString n)).length + 2 + (dI (tab n f)).shown.length + 1 := by rw [strLen_append, e4]; rfl
    have big : 50000 ≤ sizeLine := by decide
    refine ⟨_, rfl, by rw [e1]; omega, ?_⟩
    refine ⟨_, rfl, a, _, dx, _, _, rfl, h1, T.o_Map.cl, T.na_own_size_Map, flds_size _ _, .inr ⟨n, rfl, small_log hn, _, rfl, by rw [e2]; omega, ?_⟩⟩
    refine ⟨_, rfl, by rw [e3]; omega, ?_⟩
    refine ⟨_, rfl, a, _, dx, _, _, rfl, h1, T.o_Map.cl, T.na_own_arrows_Map, flds_arrows _ _, D, kvI (tab n f), _, rfl, h2, dI_sc _, dI_able hs, dI_depth _, Nat.le_trans l2 (by omega), _, rfl, by rw [show (flatD (kvI (tab n f)) ((tab n f).map fun p => PyData.int p.2)) = dI (tab n f) from rfl, e4]; omega, ?_⟩
    refine ⟨_, rfl, by rw [show (flatD (kvI (tab n f)) ((tab n f).map fun p => PyData.int p.2)) = dI (tab n f) from rfl, e5]; omega, ?_⟩
    exact q (by unfold reprM; rw [e5]; omega)
/-! ### == with any value -/
def spEqV (C : Addr) : Sp := fun vs H Q _ => ∃ a y, vs = [.ref a, y] ∧ ((∃ b n f n' g, y = .ref b ∧ IsMap C H a n f ∧ IsMap C H b n' g ∧ Q (.bl (eqB n f n' g)) H) ∨ (nonMapV H y ∧ Q (.bl false) H))
theorem ok_eqV (T : Txt K mg) : FnR P w K mg base CX0 6 T.f_Map__eq (spEqV T.C_Map) := by
  refine T.A_Map__eq.ok sc_Map__eq (fun vs H Q E h => ?_) (fun cdv A outer s H vs Q E hr h => ?_)
  · obtain ⟨a, y, rfl, _⟩ := h
    rfl
  · obtain ⟨a, y, rfl, h⟩ := h
    have hu := hu_of hr
    refine ⟨_, pss_cons (ps_if (pt_not (pt_val (pe_callB call_isi (by rfl) T.n_isinstance (by decide +kernel) (pa_cons (pv 1) (pa_cons (pe_glob (v := .ref T.C_Map) rfl T.g_Map rfl) pa_nil))))) (pss_one (ps_ret pe_bl)) pss_nil)
      (pss_one (ps_ret (pe_and (pe_cmpR op_eq (pe_fld (pv 0) rfl) (pe_fld (pv 1) rfl) (nomark _)) (pe_one (pe_cmpR (op_eqDI (Nat.lt_of_succ_lt hu)) (pe_fld (pv 0) rfl) (pe_fld (pv 1) rfl) (nomark _)))))), ?_⟩
    rcases h with ⟨b, n, f, n', g, rfl, ha, hb, q⟩ | ⟨hy, q⟩
    · obtain ⟨dx, D, h1, h2⟩ := id ha.ob
      obtain ⟨dy, D', h3, h4⟩ := id hb.ob
      refine ⟨_, rfl, _, _, _, _, true, rfl, .own _, tyx_ins T.o_Map h3, T.self_Map, _, rfl, iteF ?_⟩
      refine ⟨_, rfl, a, _, dx, _, _, rfl, h1, T.o_Map.cl, T.na_own_size_Map, flds_size _ _, _, rfl, b, _, dy, _, _, rfl, h3, T.o_Map.cl, T.na_own_size_Map, flds_size _ _, rfl, _, rfl, ?_⟩
      have e0 : decide (V.int n = V.int n') = decide (n = n') := by
        by_cases h : n = n'
        · subst h; simp
        · have : ¬ V.int n = V.int n' := fun z => h (V.int.inj z)
          simp [h]
      rw [e0]
      unfold eqB at q
      refine ifD (fun hn => ?_) (fun hn => ?_)
      · refine ⟨_, rfl, a, _, dx, _, _, rfl, h1, T.o_Map.cl, T.na_own_arrows_Map, flds_arrows _ _, _, rfl, b, _, dy, _, _, rfl, h3, T.o_Map.cl, T.na_own_arrows_Map, flds_arrows _ _, D, D', _, _, rfl, rfl, h2, h4, intVals_kvI _, intVals_kvI _, ?_⟩
        rw [decide_eq_true hn, Bool.true_and] at q
        exact q
      · rw [decide_eq_false hn, Bool.false_and] at q
        exact q
    · obtain ⟨t, ht, hk⟩ := ty_nonmap T hy
      exact ⟨_, rfl, _, _, _, _, false, rfl, .own _, ht, hk, _, rfl, iteT q⟩
end
end My
set_option maxHeartbeats 1000000
local macro_rules | `(tactic| array_get_dec) => `(tactic| first | assumption | exact L2.upd_same | (refine U.carryNew (by assumption) ?_; array_get_dec) | (refine U.carry (by assumption) ?_; array_get_dec))
local macro_rules | `(tactic| array_mem_dec) => `(tactic| first | exact L2.Same.refl _ | assumption | (refine U.sameUp (by assumption) ?_; array_mem_dec) | (refine U.sameVia (by assumption) ?_; array_mem_dec))
local macro_rules | `(tactic| sizeOf_list_dec) => `(tactic| first | assumption | (refine U.freeVia (by assumption) ?_; sizeOf_list_dec) | (refine U.freeUp (o := _) (q := _) ?_; assumption))
local macro_rules | `(tactic| deriving_LawfulEq_tactic_step) => `(tactic| first | exact rfl | exact U.nil_le | exact U.one_le | exact U.two_le | exact U.three_le | exact L2.SqL.of (by array_get_dec) | exact L2.SqT.of (by array_get_dec) | exact ⟨_, L2.SqL.of (by array_get_dec)⟩ | exact ⟨_, L2.SqT.of (by array_get_dec)⟩ | exact Or.inl (by array_get_dec) | array_get_dec)
local macro_rules | `(tactic| and_intros) => `(tactic| repeat (first | refine And.intro (by deriving_LawfulEq_tactic_step) ?_ | (apply Exists.intro; refine And.intro (by deriving_LawfulEq_tactic_step) ?_) | (apply Exists.intro; apply Exists.intro; refine And.intro (by deriving_LawfulEq_tactic_step) ?_) | (apply Exists.intro; apply Exists.intro; apply Exists.intro; refine And.intro (by deriving_LawfulEq_tactic_step) ?_) | (apply Exists.intro; apply Exists.intro; apply Exists.intro; apply Exists.intro; refine And.intro (by deriving_LawfulEq_tactic_step) ?_)))
namespace My
open PySem L2 U StX PM
/-! ### values that are no arrows -/
theorem fnR_or {P : Program} {w : World} {K : PySem.W.Frag} {mg : Str → Option Value} {base : Heap} {CX : CXT} {k : Nat} {f : Addr} {sp1 sp2 : Sp} (F1 : FnR P w K mg base CX k f sp1) (F2 : FnR P w K mg base CX k f sp2) : FnR P w K mg base CX k f (fun vs H Q E => sp1 vs H Q E ∨ sp2 vs H Q E) := fun A outer s H us vs Q E hr e0 r h => h.elim (fun h => F1 A outer s H us vs Q E hr e0 r h) (fun h => F2 A outer s H us vs Q E hr e0 r h)
/-- a scalar or a tuple -/
def okV (H : Hp) : V → Prop
  | .non => True | .bl _ => True | .int _ => True | .str _ => True
  | .ref b => ∃ xs, H b = some (.tup xs)
  | _ => False
theorem okV.known {C : Addr} {H : Hp} {v : V} (h : okV H v) : knownV C H v := by
  cases v <;> first | exact h | exact .inr (.inl h) | exact h.elim
theorem okV.off {d : Addr} {H H' : Hp} {v : V} {o : HO} (h : okV H v) (f : Off d H H') (hd : H d = some o) (no : ∀ xs, o ≠ .tup xs) : okV H' v := by
  cases v <;> first | exact h | exact h.elim | skip
  obtain ⟨xs, e⟩ := h
  exact ⟨xs, f _ _ (fun z => by rw [z, hd] at e; exact no _ (Option.some.inj e)) e⟩
theorem okV.same {H H' : Hp} {v : V} (h : okV H v) (s : Same H H') : okV H' v := by
  cases v <;> first | exact h | exact h.elim | skip
  obtain ⟨xs, e⟩ := h
  exact ⟨xs, s _ _ e⟩
theorem kV_known {C : Addr} {H : Hp} (k : Key) : knownV C H (kV k) := by cases k <;> exact trivial
def badR (n : Int) (kv : Key × V) : Prop := inR (kV kv.1) 0 (n - 1) = false ∨ inR kv.2 0 (n - 1) = false
/-- a dict with a row that is none of arrows, and only good ones before it -/
def BadK (H : Hp) (n : Int) (kvs : List (Key × V)) : Prop := ∃ l kv post, kvs = kvI l ++ kv :: post ∧ okArr n l = true ∧ badR n kv ∧ okV H kv.2 ∧ kvs.length ≤ 1000
/-- a value that is no dict -/
def nonDi (H : Hp) : V → Prop
  | .non => True | .int _ => True | .str _ => True
  | .ref b => (∃ xs, H b = some (.lst xs)) ∨ ∃ xs, H b = some (.tup xs)
  | _ => False
def spAr2 : Sp := fun vs H Q _ => ∃ (n : Int) (x : V), vs = [.int n, x] ∧ ((∃ d kvs, x = .ref d ∧ H d = some (.dK kvs) ∧ BadK H n kvs) ∨ nonDi H x) ∧ ∀ H', Same H H' → Q (.bl false) H'
def spAr3 : Sp := fun vs H Q _ => ∃ (n i : Int) (d : Addr) (x : V), vs = [.int n, .ref d] ∧ RwD H d [(x, .int i)] ∧ okV H x ∧ inR x 0 (n - 1) = false ∧ ∀ H', Same H H' → Q (.bl false) H'
section
variable {P : Program} {w : World} {K : PySem.W.Frag} {mg : Str → Option Value} {base : Heap}
set_option pp.maxSteps 3000 in
theorem ok_ar2 (T : Txt K mg) : FnR P w K mg base CX0 3 T.f_are_arrows spAr2 := by
  refine T.A_are_arrows.ok sc_are_arrows (fun vs H Q E h => ?_) (fun cdv A outer s H vs Q E hr h => ?_)
  · obtain ⟨n, x, rfl, _⟩ := h
    rfl
  · obtain ⟨n, x, rfl, hx, q⟩ := h
    have hu := hu_of hr
    refine ⟨_, (pss_cons (ps_if (pt_not (pt_val (pe_callB call_isi (by rfl) T.n_isinstance (by decide +kernel) (pa_cons (pv 1) (pa_cons (pe_bltn (v := .ty "dict") (u := .type "dict") (by rfl) T.n_dict (by decide +kernel) rfl) pa_nil)))))
        (pss_one (ps_ret pe_bl)) pss_nil)
      (pss_cons (ps_set (i := 2) sc_are_arrows.nd rfl (Or.inl rfl) pe_dnewK)
      (pss_cons (ps_lock (ps_for PassesOwn.never rfl (pi_items (pv 1)) (pg_tup rfl (pgs_cons (pg_name (i := 3) sc_are_arrows.nd rfl (Or.inl rfl)) (pgs_cons (pg_name (i := 4) sc_are_arrows.nd rfl (Or.inl rfl)) pgs_nil)))
        (pss_cons (ps_if (PW.pt (pw_or (pt_not (pt_val (pe_callR (ok_in_range T) (hr.mono (by decide)) T.A_in_range.kp rfl T.g_in_range pass0 (pa_cons (pv 3) (pa_cons pe_int (pa_cons (pe_op op_sub (pv 0) pe_int) pa_nil)))))) (pw_or (pt_not (pt_val (pe_callR (ok_in_range T) (hr.mono (by decide)) T.A_in_range.kp rfl T.g_in_range pass0 (pa_cons (pv 4) (pa_cons pe_int (pa_cons (pe_op op_sub (pv 0) pe_int) pa_nil)))))) (pw_or1 (pt_cmp (pc_din hu (pv 4) (pv 2)))))))
        (pss_one (ps_ret pe_bl)) pss_nil)
      (pss_one (ps_dput hu (pv 2) (pv 4) pe_bl rfl)))))
      (pss_one (ps_ret pe_bl))))), ?_⟩
    rcases hx with ⟨d, kvs, rfl, hd, l, kv, post, ek, hok, hbad, hkv, hlen⟩ | hx
    · refine ⟨_, rfl, _, _, _, _, true, rfl, .ty _, .base (.dK hd), kit_ty (by decide +kernel), _, rfl, iteF ?_⟩
      intro t ht
      have ntd : t ≠ d := fun e => by rw [e, hd] at ht; cases ht
      have hd1 : (upd H t (.dK [])) d = some (.dK kvs) := by rw [upd_ne ntd.symm]; exact hd
      have hll : l.length < kvs.length := by rw [ek, List.length_append, kvI_length, List.length_cons]; omega
      refine ⟨d, _, hd1, trivial, fun od => ?_⟩
      refine ⟨_, rfl, d, od, kvs, rfl, upd_same, ?_⟩
      refine for_it walk_items (fun i σ H' => ∃ v3 v4, σ = [some (.int n), some (.ref d), some (.ref t), v3, v4] ∧ H' d = some (.frz od (.dK kvs)) ∧ Off d H H' ∧ H' t = some (.dK (tgt (l.take i))) ∧ i ≤ l.length)
        ⟨none, none, rfl, upd_same, (Off.new ht).tr Off.lock, (by rw [upd_ne ntd]; exact upd_same), Nat.zero_le _⟩ (fun i σ H' _ ⟨_, _, _, p, _⟩ => p) ?_ ?_
      · rintro i v σ H' H'' hi ⟨v3, v4, rfl, p1, p2, p3, p4⟩ ⟨U, a, b, rfl, hU, rfl, e1, e2⟩
        dsimp only at e1 e2
        have nUd : d ≠ U := ne_of_none p1 hU
        have nUt : t ≠ U := ne_of_none p3 hU
        have tkA : okArr n (l.take i) = true := by
          cases e : okArr n (l.take i) with
          | true => rfl
          | false => rw [okArr_cut e] at hok; cases hok
        by_cases hil : i < l.length
        · obtain ⟨⟨x, y⟩, exy⟩ : ∃ p, l[i]? = some p := ⟨_, List.getElem?_eq_getElem hil⟩
          have ek2 : kvs[i]? = some (Sum.inl x, V.int y) := by
            rw [ek, List.getElem?_append_left (by rw [kvI_length]; exact hil)]
            unfold kvI
            rw [List.getElem?_map, exy]
            rfl
          rw [ek2] at e1 e2
          cases e1; cases e2
          have d3 : (upd H' U (.tup [kV (Sum.inl x), .int y])) d = some (.frz od (.dK kvs)) := by rw [upd_ne nUd]; exact p1
          have t3 : (upd H' U (.tup [kV (Sum.inl x), .int y])) t = some (.dK (tgt (l.take i))) := by rw [upd_ne nUt]; exact p3
          have o3 : Off d H (upd H' U (.tup [kV (Sum.inl x), .int y])) := p2.tr (Off.new hU)
          have good : (rowOk n (x, y) && !decide (y ∈ (l.take i).map (·.2))) = true := by
            cases e : (rowOk n (x, y) && !decide (y ∈ (l.take i).map (·.2))) with
            | true => rfl
            | false =>
              have h1 := okArr_step (n := n) exy
              rw [tkA, e] at h1
              rw [okArr_cut h1] at hok
              cases hok
          unfold rowOk at good
          rw [Bool.and_eq_true, Bool.and_eq_true] at good
          refine ⟨U, [.int x, .int y], rfl, SqT.of upd_same, rfl, .int x, [.int y], rfl, .int y, [], rfl, rfl, ?_⟩
          refine ⟨_, rfl, _, rfl, _, _, rfl, rfl, .int x, 0, n - 1, rfl, trivial, _, rfl, ?_⟩
          rw [good.1.1]
          refine iteF ?_
          refine ⟨_, rfl, _, rfl, _, _, rfl, rfl, .int y, 0, n - 1, rfl, trivial, _, rfl, ?_⟩
          rw [good.1.2]
          refine iteF ?_
          refine ⟨_, rfl, _, rfl, t, _, rfl, DGet.k (k := Sum.inl y) t3, _, rfl, ?_⟩
          rw [tgt_val]
          have hm : ¬ y ∈ (l.take i).map (·.2) := by simpa using good.2
          rw [decide_eq_false hm]
          refine iteF ?_
          have hlen2 : (tgt (l.take i)).length ≤ 1000 := by unfold tgt; rw [List.length_map, List.length_take]; omega
          refine ⟨_, rfl, _, rfl, t, _, rfl, DPut.k (k := Sum.inl y) t3 (small1000 hlen2), ?_⟩
          refine ⟨_, _, rfl, ?_, o3.mut ht, ?_, by omega⟩
          · rw [upd_ne ntd.symm]; exact d3
          · rw [upd_same, putK_new _ (valV_none fun z => hm (tgt_key.mp z)), take_more exy]
            unfold tgt
            rw [List.map_append]
            rfl
        · have hie : i = l.length := by omega
          have ek2 : kvs[i]? = some kv := by
            rw [ek, List.getElem?_append_right (by rw [kvI_length]; omega), kvI_length, hie, Nat.sub_self]
            rfl
          rw [ek2] at e1 e2
          cases e1; cases e2
          have d3 : (upd H' U (.tup [kV kv.1, kv.2])) d = some (.frz od (.dK kvs)) := by rw [upd_ne nUd]; exact p1
          have o3 : Off d H (upd H' U (.tup [kV kv.1, kv.2])) := p2.tr (Off.new hU)
          have hkn : okV (upd H' U (.tup [kV kv.1, kv.2])) kv.2 := hkv.off o3 hd (fun _ z => by cases z)
          have fin : Q (.bl false) (upd (upd H' U (.tup [kV kv.1, kv.2])) d (.dK kvs)) := q _ (o3.back hd)
          refine ⟨U, [kV kv.1, kv.2], rfl, SqT.of upd_same, rfl, kV kv.1, [kv.2], rfl, kv.2, [], rfl, rfl, ?_⟩
          refine ⟨_, rfl, _, rfl, _, _, rfl, rfl, kV kv.1, 0, n - 1, rfl, kV_known _, _, rfl, ?_⟩
          refine ifNB (fun hc => iteT ⟨d3, fin⟩) (fun hc => ?_)
          refine ⟨_, rfl, _, rfl, _, _, rfl, rfl, kv.2, 0, n - 1, rfl, hkn.known, _, rfl, ?_⟩
          refine ifNB (fun hc2 => iteT ⟨d3, fin⟩) (fun hc2 => ?_)
          rcases hbad with h | h
          · rw [hc] at h; cases h
          · rw [hc2] at h; cases h
      · rintro σ H' ⟨v3, v4, rfl, p1, p2, p3, p4⟩
        omega
    · cases x with
      | non => exact ⟨_, rfl, _, _, _, _, false, rfl, .ty _, .base .non, kit_ty (by decide +kernel), _, rfl, iteT (q H (Same.refl H))⟩
      | int i => exact ⟨_, rfl, _, _, _, _, false, rfl, .ty _, .base (.int i), kit_ty (by decide +kernel), _, rfl, iteT (q H (Same.refl H))⟩
      | str z => exact ⟨_, rfl, _, _, _, _, false, rfl, .ty _, .base (.str z), kit_ty (by decide +kernel), _, rfl, iteT (q H (Same.refl H))⟩
      | ref b =>
        rcases hx with ⟨xs, e⟩ | ⟨xs, e⟩
        · exact ⟨_, rfl, _, _, _, _, false, rfl, .ty _, .base (.lst e), kit_ty (by decide +kernel), _, rfl, iteT (q H (Same.refl H))⟩
        · exact ⟨_, rfl, _, _, _, _, false, rfl, .ty _, .base (.tup e), kit_ty (by decide +kernel), _, rfl, iteT (q H (Same.refl H))⟩
      | _ => exact hx.elim
theorem ok_ar3 (T : Txt K mg) : FnR P w K mg base CX0 3 T.f_are_arrows spAr3 := by
  refine T.A_are_arrows.ok sc_are_arrows (fun vs H Q E h => ?_) (fun cdv A outer s H vs Q E hr h => ?_)
  · obtain ⟨n, i, d, x, rfl, _⟩ := h
    rfl
  · obtain ⟨n, i, d, x, rfl, ⟨ep, hd⟩, hk, hb, q⟩ := h
    have hu := hu_of hr
    refine ⟨_, (pss_cons (ps_if (pt_not (pt_val (pe_callB call_isW (by rfl) T.n_isinstance (by decide +kernel) (pa_cons (pv 1) (pa_cons (pe_bltn (v := .ty "dict") (u := .type "dict") (by rfl) T.n_dict (by decide +kernel) rfl) pa_nil)))))
        (pss_one (ps_ret pe_bl)) pss_nil)
      (pss_cons (ps_set (i := 2) sc_are_arrows.nd rfl (Or.inl rfl) pe_dnewK)
      (pss_cons (ps_for PassesOwn.never rfl (pi_itemsW (pv 1)) (pg_tup rfl (pgs_cons (pg_name (i := 3) sc_are_arrows.nd rfl (Or.inl rfl)) (pgs_cons (pg_name (i := 4) sc_are_arrows.nd rfl (Or.inl rfl)) pgs_nil)))
        (pss_cons (ps_if (PW.pt (pw_or (pt_not (pt_val (pe_callR (ok_in_range T) (hr.mono (by decide)) T.A_in_range.kp rfl T.g_in_range pass0 (pa_cons (pv 3) (pa_cons pe_int (pa_cons (pe_op op_sub (pv 0) pe_int) pa_nil)))))) (pw_or (pt_not (pt_val (pe_callR (ok_in_range T) (hr.mono (by decide)) T.A_in_range.kp rfl T.g_in_range pass0 (pa_cons (pv 4) (pa_cons pe_int (pa_cons (pe_op op_sub (pv 0) pe_int) pa_nil)))))) (pw_or1 (pt_cmp (pc_din hu (pv 4) (pv 2)))))))
        (pss_one (ps_ret pe_bl)) pss_nil)
      (pss_one (ps_dput hu (pv 2) (pv 4) pe_bl rfl))))
      (pss_one (ps_ret pe_bl))))), ?_⟩
    refine ⟨_, rfl, d, _, _, true, [(x, .int i)], rfl, .ty _, ⟨ep, hd⟩, kit_ty (by decide +kernel), _, rfl, iteF ?_⟩
    intro t ht
    have s1 : Same H (upd H t (.dK [])) := Same.new ht
    refine ⟨_, rfl, d, ep, _, rfl, s1 _ _ hd, ?_⟩
    refine for_it walk_itemsW (fun k σ H' => ∃ v3 v4, σ = [some (.int n), some (.ref d), some (.ref t), v3, v4] ∧ Same H H' ∧ k = 0)
      ⟨none, none, rfl, s1, rfl⟩ (fun k σ H' _ ⟨_, _, _, p, _⟩ => p _ _ hd) ?_ ?_
    · rintro k v σ H' H'' hk2 ⟨v3, v4, rfl, p1, rfl⟩ ⟨U, a, b, rfl, hU, rfl, e1, e2⟩
      cases e1; cases e2
      have s3 : Same H (upd H' U (.tup [x, .int i])) := p1.trans (Same.new hU)
      refine ⟨U, [x, .int i], rfl, SqT.of upd_same, rfl, x, [.int i], rfl, .int i, [], rfl, rfl, ?_⟩
      refine ⟨_, rfl, _, rfl, _, _, rfl, rfl, x, 0, n - 1, rfl, (hk.same s3).known, _, rfl, ?_⟩
      rw [hb]
      exact iteT (iteT (q _ s3))
    · rintro σ H' ⟨v3, v4, rfl, p1, z⟩
      cases z
end
end My
set_option maxHeartbeats 1000000
namespace My
open PySem L2 U StX PM
/-! ### Map(size, arrows), any values -/
def partE (CE : Addr) (E : XK) (H : Hp) (z : Str) : Prop := ∀ H' d, Same H H' → H' d = none → E (.ref CE) (some d) (upd H' d (.xd [("part", .str z)]))
inductive Bad (H : Hp) (n : Int) : V → Prop
  | dk {d : Addr} {kvs : List (Key × V)} : H d = some (.dK kvs) → BadK H n kvs → Bad H n (.ref d)
  | dup {d : Addr} {y : Int} : H d = some (.dK (kvI [(0, y), (1, y)])) → 0 ≤ y → y < n → 1 < n → Bad H n (.ref d)
  | rw {d : Addr} {x : V} {i : Int} : RwD H d [(x, .int i)] → okV H x → inR x 0 (n - 1) = false → Bad H n (.ref d)
  | non {x : V} : nonDi H x → Bad H n x
theorem BadK.same {H H' : Hp} {n : Int} {kvs : List (Key × V)} (h : BadK H n kvs) (s : Same H H') : BadK H' n kvs := by
  obtain ⟨l, kv, post, e, a, b, c, d⟩ := h
  exact ⟨l, kv, post, e, a, b, c.same s, d⟩
theorem nonDi.same {H H' : Hp} {x : V} (h : nonDi H x) (s : Same H H') : nonDi H' x := by
  cases x <;> first | exact h | exact h.elim | skip
  rcases h with ⟨xs, e⟩ | ⟨xs, e⟩
  · exact .inl ⟨xs, s _ _ e⟩
  · exact .inr ⟨xs, s _ _ e⟩
theorem Bad.same {H H' : Hp} {n : Int} {x : V} (h : Bad H n x) (s : Same H H') : Bad H' n x := by
  cases h with
  | dk e b => exact .dk (s _ _ e) (b.same s)
  | dup e a b c => exact .dup (s _ _ e) a b c
  | rw e a b => exact .rw (e.same s) (a.same s) b
  | non e => exact .non (e.same s)
def spArB : Sp := fun vs H Q _ => ∃ (n : Int) (x : V), vs = [.int n, x] ∧ Bad H n x ∧ ∀ H', Same H H' → Q (.bl false) H'
def spInX (C CE : Addr) : Sp := fun vs H Q E => ∃ (s dx : Addr) (x y : V), vs = [.ref s, x, y] ∧ H s = some (.ins C dx []) ∧ ((okV H x ∧ inR x 1 300 = false ∧ partE CE E H "size") ∨ ∃ n, x = .int n ∧ 1 ≤ n ∧ n ≤ 300 ∧ Bad H n y ∧ partE CE E H "arrows")
def spMade (C : Addr) : Sp := fun vs H Q _ => ∃ (x y : V), vs = [x, y] ∧
  ((okV H x ∧ inR x 1 300 = false ∧ ∀ p H', Same H H' → H' p = some (.lst [.str "size", .bl true]) → Q (.ref p) H') ∨
   (∃ n, x = .int n ∧ 1 ≤ n ∧ n ≤ 300 ∧ Bad H n y ∧ ∀ p H', Same H H' → H' p = some (.lst [.str "arrows", .bl true]) → Q (.ref p) H') ∨
   ∃ n d l f, x = .int n ∧ y = .ref d ∧ H d = some (.dK (kvI l)) ∧ DI l f ∧ WF n f ∧ 1 ≤ n ∧ n ≤ 300 ∧ l.length ≤ 1000 ∧ ∀ p m H', Same H H' → H' p = some (.lst [.str "made", .ref m]) → IsMap C H' m n f → Q (.ref p) H')
theorem dup_bad {n y : Int} : okArr n [(0, y), (1, y)] = false := by
  unfold okArr
  simp
section
variable {P : Program} {w : World} {K : PySem.W.Frag} {mg : Str → Option Value} {base : Heap}
theorem ok_arB (T : Txt K mg) : FnR P w K mg base CX0 3 T.f_are_arrows spArB := by
  intro A outer s H us vs Q E hr e0 r h
  obtain ⟨n, x, rfl, hx, q⟩ := h
  refine fnR_or (ok_are_arrows T) (fnR_or (ok_ar2 T) (ok_ar3 T)) A outer s H us [.int n, x] Q E hr e0 r ?_
  cases hx with
  | dk e b => exact .inr (.inl ⟨n, _, rfl, .inl ⟨_, _, rfl, e, b⟩, q⟩)
  | dup e a b c => exact .inl ⟨n, _, _, rfl, e, (by show 2 ≤ 1000; decide), by rw [dup_bad]; exact q⟩
  | rw e a b => exact .inr (.inr ⟨n, _, _, _, rfl, e, a, b, q⟩)
  | non e => exact .inr (.inl ⟨n, _, rfl, .inr e, q⟩)
theorem okX_in (T : Txt K mg) : FnR P w K mg base (L2.CX P w) 4 T.f_Map__init (spInX T.C_Map T.C_InvalidMap) := by
  refine T.A_Map__init.okX sc_Map__init (fun vs H Q E h => ?_) (fun cdv A outer s H vs Q E hr h => ?_)
  · obtain ⟨s, dx, x, y, rfl, _⟩ := h
    rfl
  · obtain ⟨s, dx, x, y, rfl, hs, h⟩ := h
    have hu := hu_of hr
    obtain ⟨_, h_MAX_SIZE⟩ := T.v_MAX_SIZE
    refine ⟨_, (pss_cons (ps_if (pt_not (pt_val (pe_callR (ok_in_range T) (hr.mono (by decide)) T.A_in_range.kp rfl T.g_in_range pass0 (pa_cons (pv 1) (pa_cons pe_int (pa_cons (pe_glob (v := .int 300) rfl h_MAX_SIZE ⟨_, rfl⟩) pa_nil))))))
        (pss_one (ps_raise rfl (takes_of rfl rfl rfl rfl) (pmk_oexG T.x_InvalidMap T.m_InvalidMap__init T.ti_InvalidMap__init (ok_ini_InvalidMap T) (hr.mono (by decide)) pass0 rfl T.g_InvalidMap (pa_cons pe_str pa_nil)))) pss_nil)
      (pss_cons (ps_if (pt_not (pt_val (pe_callR (ok_arB T) (hr.mono (by decide)) T.A_are_arrows.kp rfl T.g_are_arrows pass0 (pa_cons (pv 1) (pa_cons (pv 2) pa_nil)))))
        (pss_one (ps_raise rfl (takes_of rfl rfl rfl rfl) (pmk_oexG T.x_InvalidMap T.m_InvalidMap__init T.ti_InvalidMap__init (ok_ini_InvalidMap T) (hr.mono (by decide)) pass0 rfl T.g_InvalidMap (pa_cons pe_str pa_nil)))) pss_nil)
      (pss_cons (ps_fld (pv 0) (pv 1) rfl)
      (pss_one (ps_fld (pv 0) (pe_dc (own := [("source", 3)]) (g := (gName 3)) rfl sc_Map__init.nd (pi_range1 rfl T.n_range (pa_cons (pv 1) pa_nil)) (blkOk_by (own := [("source", 3)]) (N := n_Map__init) (sc := defScope s_Map__init) (by decide +kernel)) (fun _ _ _ _ _ => (pg_name (i := 3) sc_Map__init.nd rfl (Or.inl rfl))) (fun _ _ _ _ _ => (pts_one (pt_cmp (pc_din hu (pv 3) (pv 2))))) (fun _ _ _ _ _ => (pv 3)) (fun _ _ _ _ _ => (pe_dget hu (pv 2) (pv 3) (fun _ _ => rfl)))) rfl))))), ?_⟩
    rcases h with ⟨hx, hb, e⟩ | ⟨n, rfl, h1, h3, hy, e⟩
    · refine ⟨_, rfl, x, 1, 300, rfl, hx.known, _, rfl, ?_⟩
      rw [hb]
      exact iteT (mk_one fun d hd => e H d (Same.refl H) hd)
    · refine ⟨_, rfl, .int n, 1, 300, rfl, trivial, _, rfl, ?_⟩
      have e1 : inR (.int n) 1 300 = true := by simp [inR, h1, h3]
      rw [e1]
      refine iteF ⟨_, rfl, _, rfl, n, y, rfl, hy, fun H1 s1 => ⟨_, rfl, iteT (mk_one fun d hd => e H1 d s1 hd)⟩⟩
theorem okX_inV (T : Txt K mg) : FnR P w K mg base (L2.CX P w) 4 T.f_Map__init (fun vs H Q E => spInit T.C_Map vs H Q E ∨ spInX T.C_Map T.C_InvalidMap vs H Q E) := fnR_or (fnR_any (ok_init T)) (okX_in T)
theorem ok_l_made (T : Txt K mg) : FnR P w K mg base CX0 9 T.f_l_made (spMade T.C_Map) := by
  refine T.A_l_made.ok sc_l_made (fun vs H Q E h => ?_) (fun cdv A outer s H vs Q E hr h => ?_)
  · obtain ⟨x, y, rfl, _⟩ := h
    rfl
  · obtain ⟨x, y, rfl, h⟩ := h
    refine ⟨_, (pss_one (ps_try_as (i := 2) rfl rfl sc_l_made.nd rfl rfl ⟨rfl, by decide, .inl T.g_InvalidMap⟩ L2.takes0 (fun W pn xe tk _ => (pss_one (ps_ret (pe_lst (pa_cons pe_str (pa_cons (pe_makeRS T.M_Map (okX_inV (P := P) (w := w) T) (hr.mono (by decide)) rfl T.g_Map (fun σ => passAt tk σ) (pa_cons (pv 0) (pa_cons (pv 1) pa_nil))) pa_nil)))))) (fun a oe cls d pn hz hf => (pss_one (ps_ret (pe_lst (pa_cons (pe_xf T.xf_InvalidMap T.na_part_InvalidMap hz hf (pv 2)) (pa_cons (pe_callB (call_isH T.xe_InvalidMap hz hf) (by rfl) T.n_isinstance (by decide +kernel) (pa_cons (pv 2) (pa_cons (pe_bltn (v := .ty "ValueError") (u := .type "ValueError") (by rfl) T.n_ValueError (by decide +kernel) rfl) pa_nil))) pa_nil)))))))), ?_⟩
    refine ⟨_, rfl, _, rfl, fun p dx np nd nn => ?_⟩
    have s0 : Same H (upd (upd H dx (.own p)) p (.ins T.C_Map dx [])) := (Same.new nd).trans (Same.new (by rw [upd_ne nn.symm]; exact np))
    rcases h with ⟨hx, hb, q⟩ | ⟨n, rfl, h1, h3, hy, q⟩ | ⟨n, d, l, f, rfl, rfl, hd, di, wf, h1, h3, hl, q⟩
    · generalize e0 : upd (upd H dx (.own p)) p (.ins T.C_Map dx []) = H0 at s0 ⊢
      have ep : H0 p = some (.ins T.C_Map dx []) := by rw [← e0]; exact upd_same
      refine .inr ⟨p, dx, x, y, rfl, ep, .inl ⟨hx.same s0, hb, fun H' d s' nd' => ?_⟩⟩
      refine ⟨true, T.te_InvalidMap, fun _ a na => ?_, fun z => nomatch z⟩
      refine ⟨_, rfl, rfl, rfl, d, _, _, rfl, upd_same, rfl, ?_⟩
      exact ⟨_, rfl, d, rfl, rfl, _, _, _, _, rfl, fun u r => r, T.kit_ValueError_InvalidMap, upd_same, two_le, fun p' np' => q p' _ (((s0.trans s').trans (Same.new nd')).trans (Same.new np')) upd_same⟩
    · generalize e0 : upd (upd H dx (.own p)) p (.ins T.C_Map dx []) = H0 at s0 ⊢
      have ep : H0 p = some (.ins T.C_Map dx []) := by rw [← e0]; exact upd_same
      refine .inr ⟨p, dx, .int n, y, rfl, ep, .inr ⟨n, rfl, h1, h3, hy.same s0, fun H' d s' nd' => ?_⟩⟩
      refine ⟨true, T.te_InvalidMap, fun _ a na => ?_, fun z => nomatch z⟩
      refine ⟨_, rfl, rfl, rfl, d, _, _, rfl, upd_same, rfl, ?_⟩
      exact ⟨_, rfl, d, rfl, rfl, _, _, _, _, rfl, fun u r => r, T.kit_ValueError_InvalidMap, upd_same, two_le, fun p' np' => q p' _ (((s0.trans s').trans (Same.new nd')).trans (Same.new np')) upd_same⟩
    · refine .inl (init_of hd di wf h1 h3 hl np nd nn fun H' s' hm => ⟨rfl, ?_⟩)
      exact ⟨two_le, fun p' np' => q p' p _ (s'.trans (Same.new np')) upd_same (hm.same (Same.new np'))⟩
end
end My
set_option maxHeartbeats 1000000
namespace My
open PySem L2 U StX PM
/-! ### _law_good -/
theorem nd_all {n : Int} {l : List (Int × Int)} (h : okArr n l = true) : ∀ p ∈ l, inR (.int p.1) 0 (n - 1) = true ∧ inR (.int p.2) 0 (n - 1) = true := fun p hp => by
  unfold okArr at h
  rw [Bool.and_eq_true, List.all_eq_true] at h
  have := h.1 p hp
  unfold rowOk at this
  rw [Bool.and_eq_true] at this
  exact this
/-- the test of a number -/
theorem num_rd {K : PySem.W.Frag} {σ : L2.St} {H : Hp} {R : Bool → Hp → Prop} {n : Int} {v : V} (h0 : σ[0]? = some (some (.int n))) (h4 : σ[4]? = some (some v)) (hv : okV H v) (q : R (!inR v 0 (n - 1)) H) :
    tOr (tNot (tB (tCB (rIsi K) (tCons (tVar 4) (tCons (tC (V.ty "int")) tNil))))) (tOr (tB (tCB (rIsi K) (tCons (tVar 4) (tCons (tC (V.ty "bool")) tNil)))) (tNot (tTest (tChain (rI0 fun i j => V.bl (decide (i ≤ j))) (rI0 fun i j => V.bl (decide (i < j))) (tC (V.int 0)) (tVar 4) (tVar 0))))) σ H R := by
  cases v with
  | int i =>
    refine ⟨_, h4, _, _, _, _, true, rfl, .ty _, .base (.int i), kit_ty (by decide +kernel), _, rfl, iteF ?_⟩
    refine ⟨_, h4, _, _, _, _, false, rfl, .ty _, .base (.int i), kit_ty (by decide +kernel), _, rfl, iteF ?_⟩
    refine ⟨_, h4, 0, i, rfl, rfl, _, rfl, ?_⟩
    by_cases h1 : (0 : Int) ≤ i
    · rw [decide_eq_true h1]
      refine iteT ⟨_, h0, i, n, rfl, rfl, _, rfl, ?_⟩
      have e : inR (.int i) 0 (n - 1) = decide (i < n) := by
        show (decide ((0 : Int) ≤ i) && decide (i ≤ n - 1)) = _
        rw [decide_eq_true h1, Bool.true_and]
        exact decide_eq_decide.mpr ⟨fun _ => by omega, fun _ => by omega⟩
      rw [← e]
      exact q
    · rw [decide_eq_false h1]
      refine iteF ⟨_, rfl, ?_⟩
      have e : inR (.int i) 0 (n - 1) = false := by
        show (decide ((0 : Int) ≤ i) && decide (i ≤ n - 1)) = _
        rw [decide_eq_false h1, Bool.false_and]
      rw [e] at q
      exact q
  | bl b =>
    refine ⟨_, h4, _, _, _, _, true, rfl, .ty _, .base (.bl b), kit_ty (by decide +kernel), _, rfl, iteF ?_⟩
    exact ⟨_, h4, _, _, _, _, true, rfl, .ty _, .base (.bl b), kit_ty (by decide +kernel), _, rfl, iteT q⟩
  | non => exact ⟨_, h4, _, _, _, _, false, rfl, .ty _, .base .non, kit_ty (by decide +kernel), _, rfl, iteT q⟩
  | str z => exact ⟨_, h4, _, _, _, _, false, rfl, .ty _, .base (.str z), kit_ty (by decide +kernel), _, rfl, iteT q⟩
  | ref b =>
    obtain ⟨xs, e⟩ := hv
    exact ⟨_, h4, _, _, _, _, false, rfl, .ty _, .base (.tup e), kit_ty (by decide +kernel), _, rfl, iteT q⟩
  | _ => exact hv.elim
/-- what the loop over the numbers asks of a dict -/
def GdK (H : Hp) (n : Int) (kvs : List (Key × V)) (b : Bool) : Prop := kvs.length ≤ 1000 ∧
  ((b = false ∧ BadK H n kvs) ∨ ∃ l, kvs = kvI l ∧ (∀ p ∈ l, inR (.int p.1) 0 (n - 1) = true ∧ inR (.int p.2) 0 (n - 1) = true) ∧ decide ((fmet (l.map (·.2))).length = l.length) = b)
def numsK (kvs : List (Key × V)) : List V := (kvs.map fun kv => kV kv.1) ++ kvs.map (·.2)
theorem kV_ok (H : Hp) (k : Key) : okV H (kV k) := by cases k <;> exact trivial
theorem nums_ok {H : Hp} {n : Int} {kvs : List (Key × V)} {b : Bool} (h : GdK H n kvs b) {i : Nat} {v : V} (hi : (numsK kvs)[i]? = some v) (hb : ∀ (j : Nat) (u : V), j < i → (numsK kvs)[j]? = some u → inR u 0 (n - 1) = true) : okV H v := by
  by_cases hk : i < kvs.length
  · unfold numsK at hi
    rw [List.getElem?_append_left (by rw [List.length_map]; exact hk), List.getElem?_map] at hi
    obtain ⟨kv, _, rfl⟩ := Option.map_eq_some_iff.mp hi
    exact kV_ok H _
  · have hi2 := hi
    unfold numsK at hi2
    rw [List.getElem?_append_right (by rw [List.length_map]; omega), List.length_map, List.getElem?_map] at hi2
    obtain ⟨kv, ekv, rfl⟩ := Option.map_eq_some_iff.mp hi2
    rcases h.2 with ⟨_, l, bk, post, e, h1, h2, h3, h4⟩ | ⟨l, rfl, h1, _⟩
    · by_cases c1 : i - kvs.length < l.length
      · rw [e, List.getElem?_append_left (by rw [kvI_length, ← e]; exact c1)] at ekv
        unfold kvI at ekv
        rw [List.getElem?_map] at ekv
        obtain ⟨p, _, rfl⟩ := Option.map_eq_some_iff.mp ekv
        exact trivial
      · by_cases c2 : i - kvs.length = l.length
        · rw [c2, e, List.getElem?_append_right (by rw [kvI_length]; exact Nat.le_refl _), kvI_length, Nat.sub_self] at ekv
          cases ekv
          exact h3
        · exfalso
          have ll : l.length < kvs.length := by rw [e, List.length_append, kvI_length, List.length_cons]; omega
          have eb : kvs[l.length]? = some bk := by rw [e, List.getElem?_append_right (by rw [kvI_length]; exact Nat.le_refl _), kvI_length, Nat.sub_self]; rfl
          rcases h2 with h2 | h2
          · have := hb l.length (kV bk.1) (by omega) (by
              unfold numsK
              rw [List.getElem?_append_left (by rw [List.length_map]; exact ll), List.getElem?_map, eb]
              rfl)
            rw [this] at h2
            cases h2
          · have := hb (kvs.length + l.length) bk.2 (by omega) (by
              unfold numsK
              rw [List.getElem?_append_right (by rw [List.length_map]; omega), List.length_map, Nat.add_sub_cancel_left, List.getElem?_map, eb]
              rfl)
            rw [this] at h2
            cases h2
    · unfold kvI at ekv
      rw [List.getElem?_map] at ekv
      obtain ⟨p, _, rfl⟩ := Option.map_eq_some_iff.mp ekv
      exact trivial
/-- all numbers are good: ints, and the set tells -/
theorem nums_all {H : Hp} {n : Int} {kvs : List (Key × V)} {b : Bool} (h : GdK H n kvs b) (hb : ∀ (j : Nat) (u : V), (numsK kvs)[j]? = some u → inR u 0 (n - 1) = true) : ∃ l, kvs = kvI l ∧ decide ((fmet (l.map (·.2))).length = l.length) = b := by
  rcases h.2 with ⟨_, l, bk, post, e, h1, h2, h3, h4⟩ | ⟨l, rfl, h1, h2⟩
  · exfalso
    have ll : l.length < kvs.length := by rw [e, List.length_append, kvI_length, List.length_cons]; omega
    have eb : kvs[l.length]? = some bk := by rw [e, List.getElem?_append_right (by rw [kvI_length]; exact Nat.le_refl _), kvI_length, Nat.sub_self]; rfl
    rcases h2 with h2 | h2
    · have := hb l.length (kV bk.1) (by
        unfold numsK
        rw [List.getElem?_append_left (by rw [List.length_map]; exact ll), List.getElem?_map, eb]
        rfl)
      rw [this] at h2
      cases h2
    · have := hb (kvs.length + l.length) bk.2 (by
        unfold numsK
        rw [List.getElem?_append_right (by rw [List.length_map]; omega), List.length_map, Nat.add_sub_cancel_left, List.getElem?_map, eb]
        rfl)
      rw [this] at h2
      cases h2
  · exact ⟨l, rfl, h2⟩
theorem cut_tail {xs ys : List V} : cutV (xs ++ ys) (some (xs.length : Nat)) none = ys := by
  unfold cutV
  have h1 : HT.sIx (xs ++ ys).length 0 (some (xs.length : Nat)) = xs.length := by
    show (if ((xs.length : Nat) : Int) < 0 then (((xs.length : Nat) : Int) + (((xs ++ ys).length : Nat) : Int)).toNat else min ((xs.length : Nat) : Int).toNat (xs ++ ys).length) = _
    rw [if_neg (by omega), List.length_append]
    omega
  have h2 : HT.sIx (xs ++ ys).length (xs ++ ys).length none = (xs ++ ys).length := rfl
  rw [h1, h2, List.drop_left, List.length_append, Nat.add_sub_cancel_left, List.take_length]
def spGd1 : Sp := fun vs H Q _ => ∃ (n : Int) (x : V), vs = [.int n, x] ∧ ((∃ d kvs b, x = .ref d ∧ H d = some (.dK kvs) ∧ GdK H n kvs b ∧ ∀ H', Same H H' → Q (.bl b) H') ∨ (nonDi H x ∧ Q (.bl false) H))
section
variable {P : Program} {w : World} {K : PySem.W.Frag} {mg : Str → Option Value} {base : Heap}
set_option pp.maxSteps 3000 in
theorem ok_gd1 (T : Txt K mg) : FnR P w K mg base CX0 4 T.f_l_good spGd1 := by
  refine T.A_l_good.ok sc_l_good (fun vs H Q E h => ?_) (fun cdv A outer s H vs Q E hr h => ?_)
  · obtain ⟨n, x, rfl, _⟩ := h
    rfl
  · obtain ⟨n, x, rfl, h⟩ := h
    have hu := hu_of hr
    refine ⟨_, (pss_cons (ps_if (pt_not (pt_val (pe_callB call_isi (by rfl) T.n_isinstance (by decide +kernel) (pa_cons (pv 1) (pa_cons (pe_bltn (v := .ty "dict") (u := .type "dict") (by rfl) T.n_dict (by decide +kernel) rfl) pa_nil)))))
        (pss_one (ps_ret pe_bl)) pss_nil)
      (pss_cons (ps_set (i := 2) sc_l_good.nd rfl (Or.inl rfl) (pe_callTy (call_list_dK rfl) (by rfl) T.n_list (by decide +kernel) (pa_cons (pv 1) pa_nil)))
      (pss_cons (ps_lock (ps_for PassesOwn.never rfl (pi_values (pv 1)) (pg_name (i := 3) sc_l_good.nd rfl (Or.inl rfl))
        (pss_one (ps_expr (pe_bm PySem.F.plainAttrs_list PySem.F.slot_list_append PySem.F.type_list_append mt_append (pv 2) (pa_cons (pv 3) pa_nil))))))
      (pss_cons (ps_for PassesOwn.never rfl (pi_list (pv 2)) (pg_name (i := 4) sc_l_good.nd rfl (Or.inl rfl))
        (pss_one (ps_if (PW.pt (pw_or (pt_not (pt_val (pe_callB call_isi (by rfl) T.n_isinstance (by decide +kernel) (pa_cons (pv 4) (pa_cons (pe_bltn (v := .ty "int") (u := .type "int") (by rfl) T.n_int (by decide +kernel) rfl) pa_nil))))) (pw_or (pt_val (pe_callB call_isi (by rfl) T.n_isinstance (by decide +kernel) (pa_cons (pv 4) (pa_cons (pe_bltn (v := .ty "bool") (u := .type "bool") (by rfl) T.n_bool (by decide +kernel) rfl) pa_nil)))) (pw_or1 (pt_not (pt_chain op_le op_lt pe_int (pv 4) (pv 0)))))))
        (pss_one (ps_ret pe_bl)) pss_nil)))
      (pss_one (ps_ret (pe_cmpR op_eq (pe_lenSetI rfl rfl T.n_len rfl T.n_set (pe_slice sl_list (pv 2) (po_some (pe_callB call_lenD (by rfl) T.n_len (by decide +kernel) (pa_cons (pv 1) pa_nil))) po_none)) (pe_callB call_lenD (by rfl) T.n_len (by decide +kernel) (pa_cons (pv 1) pa_nil)) (nomark _)))))))), ?_⟩
    rcases h with ⟨d, kvs, b, rfl, hd, hg, q⟩ | ⟨hx, q⟩
    · refine ⟨_, rfl, _, _, _, _, true, rfl, .ty _, .base (.dK hd), kit_ty (by decide +kernel), _, rfl, iteF ?_⟩
      refine ⟨_, rfl, d, kvs, rfl, hd, fun L nL => ?_⟩
      have hlen := hg.1
      have nLd : L ≠ d := fun e => by rw [e, hd] at nL; cases nL
      have hd1 : (upd H L (.lst (kvs.map fun kv => kV kv.1))) d = some (.dK kvs) := by rw [upd_ne nLd.symm]; exact hd
      refine ⟨d, _, hd1, trivial, fun od => ?_⟩
      refine ⟨_, rfl, d, od, kvs, rfl, upd_same, ?_⟩
      refine for_it walk_values (fun i σ H' => ∃ v3 v4, σ = [some (.int n), some (.ref d), some (.ref L), v3, v4] ∧ H' d = some (.frz od (.dK kvs)) ∧ Off d H H' ∧ H' L = some (.lst ((kvs.map fun kv => kV kv.1) ++ (kvs.take i).map (·.2))))
        ⟨none, none, rfl, upd_same, (Off.new nL).tr Off.lock, (by rw [upd_ne nLd, upd_same, List.take_zero, List.map_nil, List.append_nil])⟩ (fun i σ H' _ ⟨_, _, _, p, _⟩ => p) ?_ ?_
      · rintro i v σ H' H'' hi ⟨v3, v4, rfl, p1, p2, p3⟩ ⟨rfl, k0, ek⟩
        refine ⟨_, rfl, .inl ⟨rfl, _, SqL.of p3⟩, _, rfl, L, _, v, rfl, rfl, p3, ?_, ?_⟩
        · rw [List.length_append, List.length_map, List.length_map, List.length_take]
          exact lt_line (by omega)
        · refine ⟨_, _, rfl, (by rw [upd_ne nLd.symm]; exact p1), p2.mut nL, ?_⟩
          rw [upd_same, take_more ek, List.map_append, List.append_assoc]
          rfl
      · rintro σ H' ⟨v3, v4, rfl, p1, p2, p3⟩
        refine ⟨p1, ?_⟩
        rw [List.take_length] at p3
        have sb : Same H (upd H' d (.dK kvs)) := p2.back hd
        have eL : (upd H' d (.dK kvs)) L = some (.lst (numsK kvs)) := by rw [upd_ne nLd]; exact p3
        have ed : (upd H' d (.dK kvs)) d = some (.dK kvs) := upd_same
        generalize upd H' d (.dK kvs) = H2 at sb eL ed ⊢
        refine ⟨_, rfl, L, rfl, ⟨_, SqL.of eL⟩, ?_⟩
        refine for_it (walk_list (xs := numsK kvs)) (fun i σ H3 => ∃ v4, σ = [some (.int n), some (.ref d), some (.ref L), v3, v4] ∧ H3 = H2 ∧ ∀ (j : Nat) (u : V), j < i → (numsK kvs)[j]? = some u → inR u 0 (n - 1) = true)
          ⟨_, rfl, rfl, fun j u z => absurd z (Nat.not_lt_zero _)⟩ (fun i σ H3 _ ⟨_, _, z, _⟩ => by rw [z]; exact SqL.of eL) ?_ ?_
        · rintro i v σ H3 H4 hi ⟨v4, rfl, rfl, hgood⟩ ⟨rfl, ev⟩
          have hov := nums_ok hg ev hgood
          refine num_rd (v := v) rfl rfl (hov.same sb) ?_
          cases e : inR v 0 (n - 1) with
          | false =>
            refine iteT ?_
            rcases hg.2 with ⟨rfl, _⟩ | ⟨l, rfl, h1, h2⟩
            · exact q _ sb
            · exfalso
              have hm : v ∈ numsK (kvI l) := List.mem_of_getElem? ev
              unfold numsK kvI at hm
              rcases List.mem_append.mp hm with hm | hm
              · rw [List.map_map] at hm
                obtain ⟨p, hp, rfl⟩ := List.mem_map.mp hm
                have := (h1 p hp).1
                have e' : inR (.int p.1) 0 (n - 1) = false := e
                rw [this] at e'
                cases e'
              · rw [List.map_map] at hm
                obtain ⟨p, hp, rfl⟩ := List.mem_map.mp hm
                have := (h1 p hp).2
                have e' : inR (.int p.2) 0 (n - 1) = false := e
                rw [this] at e'
                cases e'
          | true =>
            refine iteF ⟨_, rfl, rfl, fun j u hj ej => ?_⟩
            by_cases hji : j < i
            · exact hgood j u hji ej
            · have : j = i := by omega
              subst this
              rw [ev] at ej
              cases ej
              exact e
        · rintro σ H3 ⟨v4, rfl, rfl, hgood⟩
          obtain ⟨l, rfl, hb⟩ := nums_all hg fun j u ej => hgood j u (List.getElem?_eq_some_iff.mp ej).1 ej
          refine ⟨_, rfl, _, rfl, d, _, rfl, ed, _, rfl, L, _, rfl, SqL.of eL, fun L2 nL2 => ?_⟩
          have c1 : (kvI l).length = ((kvI l).map fun kv => kV kv.1).length := by rw [List.length_map]
          have c2 : cutV (numsK (kvI l)) (some ((kvI l).length : Nat)) none = (l.map (·.2)).map V.int := by
            unfold numsK
            rw [c1, cut_tail]
            unfold kvI
            rw [List.map_map, List.map_map]
            rfl
          refine ⟨L2, l.map (·.2), rfl, SqL.of (by rw [upd_same, c2]), (by rw [List.length_map]; rw [kvI_length] at hlen; exact hlen), ?_⟩
          have s2 := Same.new (o := .lst (cutV (numsK (kvI l)) (some ((kvI l).length : Nat)) none)) nL2
          refine ⟨_, rfl, d, _, rfl, s2 _ _ ed, rfl, ?_⟩
          have : decide (V.int ((fmet (l.map (·.2))).length : Nat) = V.int ((kvI l).length : Nat)) = b := by
            rw [← hb, kvI_length]
            refine decide_eq_decide.mpr ⟨fun z => ?_, fun z => by rw [z]⟩
            have := V.int.inj z
            omega
          rw [this]
          exact q _ (sb.trans s2)
    · cases x with
      | non => exact ⟨_, rfl, _, _, _, _, false, rfl, .ty _, .base .non, kit_ty (by decide +kernel), _, rfl, iteT q⟩
      | int i => exact ⟨_, rfl, _, _, _, _, false, rfl, .ty _, .base (.int i), kit_ty (by decide +kernel), _, rfl, iteT q⟩
      | str z => exact ⟨_, rfl, _, _, _, _, false, rfl, .ty _, .base (.str z), kit_ty (by decide +kernel), _, rfl, iteT q⟩
      | ref b =>
        rcases hx with ⟨xs, e⟩ | ⟨xs, e⟩
        · exact ⟨_, rfl, _, _, _, _, false, rfl, .ty _, .base (.lst e), kit_ty (by decide +kernel), _, rfl, iteT q⟩
        · exact ⟨_, rfl, _, _, _, _, false, rfl, .ty _, .base (.tup e), kit_ty (by decide +kernel), _, rfl, iteT q⟩
      | _ => exact hx.elim
def spGd3 : Sp := fun vs H Q _ => ∃ (n i : Int) (d : Addr) (x : V), vs = [.int n, .ref d] ∧ RwD H d [(x, .int i)] ∧ okV H x ∧ inR x 0 (n - 1) = false ∧ ∀ H', Same H H' → Q (.bl false) H'
theorem ok_gd3 (T : Txt K mg) : FnR P w K mg base CX0 4 T.f_l_good spGd3 := by
  refine T.A_l_good.ok sc_l_good (fun vs H Q E h => ?_) (fun cdv A outer s H vs Q E hr h => ?_)
  · obtain ⟨n, i, d, x, rfl, _⟩ := h
    rfl
  · obtain ⟨n, i, d, x, rfl, ⟨ep, hd⟩, hk, hb, q⟩ := h
    have hu := hu_of hr
    refine ⟨_, (pss_cons (ps_if (pt_not (pt_val (pe_callB call_isW (by rfl) T.n_isinstance (by decide +kernel) (pa_cons (pv 1) (pa_cons (pe_bltn (v := .ty "dict") (u := .type "dict") (by rfl) T.n_dict (by decide +kernel) rfl) pa_nil)))))
        (pss_one (ps_ret pe_bl)) pss_nil)
      (pss_cons (ps_set (i := 2) sc_l_good.nd rfl (Or.inl rfl) (pe_callTy (call_listW rfl) (by rfl) T.n_list (by decide +kernel) (pa_cons (pv 1) pa_nil)))
      (pss_cons (ps_for PassesOwn.never rfl (pi_valuesW (pv 1)) (pg_name (i := 3) sc_l_good.nd rfl (Or.inl rfl))
        (pss_one (ps_expr (pe_bm PySem.F.plainAttrs_list PySem.F.slot_list_append PySem.F.type_list_append mt_append (pv 2) (pa_cons (pv 3) pa_nil)))))
      (pss_cons (ps_for PassesOwn.never rfl (pi_list (pv 2)) (pg_name (i := 4) sc_l_good.nd rfl (Or.inl rfl))
        (pss_one (ps_if (PW.pt (pw_or (pt_not (pt_val (pe_callB call_isi (by rfl) T.n_isinstance (by decide +kernel) (pa_cons (pv 4) (pa_cons (pe_bltn (v := .ty "int") (u := .type "int") (by rfl) T.n_int (by decide +kernel) rfl) pa_nil))))) (pw_or (pt_val (pe_callB call_isi (by rfl) T.n_isinstance (by decide +kernel) (pa_cons (pv 4) (pa_cons (pe_bltn (v := .ty "bool") (u := .type "bool") (by rfl) T.n_bool (by decide +kernel) rfl) pa_nil)))) (pw_or1 (pt_not (pt_chain op_le op_lt pe_int (pv 4) (pv 0)))))))
        (pss_one (ps_ret pe_bl)) pss_nil)))
      (pss_one (ps_ret (pe_cmpR op_eq (pe_lenSetI rfl rfl T.n_len rfl T.n_set (pe_slice sl_list (pv 2) (po_some (pe_callB call_lenD (by rfl) T.n_len (by decide +kernel) (pa_cons (pv 1) pa_nil))) po_none)) (pe_callB call_lenD (by rfl) T.n_len (by decide +kernel) (pa_cons (pv 1) pa_nil)) (nomark _)))))))), ?_⟩
    refine ⟨_, rfl, d, _, _, true, [(x, .int i)], rfl, .ty _, ⟨ep, hd⟩, kit_ty (by decide +kernel), _, rfl, iteF ?_⟩
    refine ⟨_, rfl, d, _, rfl, ⟨ep, hd⟩, ?_⟩
    refine fun L n_L => ?_
    generalize g_L : L2.upd _ L _ = H1
    obtain ⟨s_H1, e_L⟩ := U.upd_facts g_L n_L
    clear g_L
    refine ⟨_, rfl, d, ep, _, rfl, s_H1 _ _ hd, ?_⟩
    refine for_it walk_valuesW (fun k σ H' => ∃ v3 v4, σ = [some (.int n), some (.ref d), some (.ref L), v3, v4] ∧ H' d = some (RwO d ep [(x, .int i)]) ∧ (∀ b o, b ≠ L → H b = some o → H' b = some o) ∧ H' L = some (.lst (x :: (if k = 0 then [] else [.int i]))))
      ⟨none, none, rfl, s_H1 _ _ hd, fun b o _ e => s_H1 _ _ e, e_L⟩ (fun k σ H' _ ⟨_, _, _, p, _⟩ => p) ?_ ?_
    · rintro k v σ H' H'' hk2 ⟨v3, v4, rfl, p0, p1, p2⟩ ⟨rfl, k0, ek⟩
      have hk0 : k = 0 := by simpa using hk2
      subst hk0
      cases ek
      have nLd : L ≠ d := fun e => by rw [e, hd] at n_L; cases n_L
      refine ⟨_, rfl, .inl ⟨rfl, _, SqL.of p2⟩, _, rfl, L, _, .int i, rfl, rfl, p2, (by show 1 < sizeLine; decide), ?_⟩
      refine ⟨_, _, rfl, (by rw [upd_ne nLd.symm]; exact p0), fun b o hb e => by rw [upd_ne hb]; exact p1 _ _ hb e, ?_⟩
      rw [upd_same]
      rfl
    · rintro σ H' ⟨v3, v4, rfl, p0, p1, p2⟩
      have p2' : H' L = some (.lst [x, .int i]) := p2
      have sh : Same H H' := fun b o e => p1 b o (fun z => by rw [z, n_L] at e; cases e) e
      refine ⟨_, rfl, L, rfl, ⟨_, SqL.of p2'⟩, ?_⟩
      refine for_it (walk_list (xs := [x, .int i])) (fun k σ H3 => ∃ v4, σ = [some (.int n), some (.ref d), some (.ref L), v3, v4] ∧ H3 = H' ∧ k = 0)
        ⟨_, rfl, rfl, rfl⟩ (fun k σ H3 _ ⟨_, _, z, _⟩ => by rw [z]; exact SqL.of p2') ?_ ?_
      · rintro k v σ H3 H4 hi ⟨v4, rfl, rfl, rfl⟩ ⟨rfl, ev⟩
        cases ev
        refine num_rd (v := x) rfl rfl (hk.same sh) ?_
        rw [hb]
        exact iteT (q _ sh)
      · rintro σ H3 ⟨v4, rfl, rfl, z⟩
        cases z
def spGd : Sp := fun vs H Q _ => ∃ (n : Int) (x : V), vs = [.int n, x] ∧ ((∃ d l f, x = .ref d ∧ H d = some (.dK (kvI l)) ∧ DI l f ∧ WF n f ∧ l.length ≤ 1000 ∧ ∀ H', Same H H' → Q (.bl true) H') ∨ (Bad H n x ∧ ∀ H', Same H H' → Q (.bl false) H'))
theorem ok_good (T : Txt K mg) : FnR P w K mg base CX0 4 T.f_l_good spGd := by
  intro A outer s H us vs Q E hr e0 r h
  obtain ⟨n, x, rfl, h⟩ := h
  refine fnR_or (ok_gd1 T) (ok_gd3 T) A outer s H us [.int n, x] Q E hr e0 r ?_
  rcases h with ⟨d, l, f, rfl, hd, di, wf, hl, q⟩ | ⟨hx, q⟩
  · refine .inl ⟨n, _, rfl, .inl ⟨d, _, true, rfl, hd, ⟨by rw [kvI_length]; exact hl, .inr ⟨l, rfl, nd_all (okArr_of di wf), ?_⟩⟩, q⟩⟩
    rw [fmet_nodup (di.vals wf), List.length_map, decide_eq_true rfl]
  · cases hx with
    | dk e b => exact .inl ⟨n, _, rfl, .inl ⟨_, _, false, rfl, e, ⟨(by obtain ⟨_, _, _, _, _, _, _, z⟩ := b; exact z), .inl ⟨rfl, b⟩⟩, q⟩⟩
    | dup e a b c =>
      refine .inl ⟨n, _, rfl, .inl ⟨_, _, false, rfl, e, ⟨(by show 2 ≤ 1000; decide), .inr ⟨_, rfl, fun p hp => ?_, ?_⟩⟩, q⟩⟩
      · rcases List.mem_cons.mp hp with rfl | hp
        · simp [inR]; omega
        · rw [List.mem_singleton.mp hp]; simp [inR]; omega
      · rename_i y
        have : fmet [y, y] = [y] := by
          unfold fmet
          show PyProof.Rows.firstMet _ 2 = _
          rw [PyProof.Rows.firstMet_succ, PyProof.Rows.firstMet_succ, PyProof.Rows.firstMet_zero]
          unfold PyProof.Rows.step_dedup
          simp
        show decide ((fmet [y, y]).length = 2) = false
        rw [this]
        rfl
    | rw e a b => exact .inr ⟨n, _, _, _, rfl, e, a, b, q⟩
    | non e => exact .inl ⟨n, _, rfl, .inr ⟨e, q _ (Same.refl H)⟩⟩
end
end My
set_option maxHeartbeats 1000000
namespace My
open PySem L2 U StX PM
/-! ### _law_bent -/
theorem units2 {k : Nat} {A : Around} (r : Room k A) : A.units + 2 < cLine := by
  have := r.un
  omega
theorem Bad.off {H H' : Hp} {p : Addr} {n : Int} {v : V} (h : Bad H n v) (hp : PoolAt H p) (ne : v ≠ .ref p) (o : Off p H H') : Bad H' n v := by
  obtain ⟨xs, e0⟩ := hp.lst
  have nt : ∀ {b : Addr} {ys : List V}, H b = some (.tup ys) → b ≠ p := fun e z => by rw [z, e0] at e; cases e
  have ok : ∀ {x : V}, okV H x → okV H' x := fun {x} h => by
    cases x <;> first | exact h | exact h.elim | skip
    obtain ⟨ys, e⟩ := h
    exact ⟨ys, o _ _ (nt e) e⟩
  cases h with
  | dk e b =>
    obtain ⟨l, kv, post, a1, a2, a3, a4, a5⟩ := b
    exact .dk (o _ _ (fun z => by rw [z, e0] at e; cases e) e) ⟨l, kv, post, a1, a2, a3, ok a4, a5⟩
  | dup e a b c => exact .dup (o _ _ (fun z => by rw [z, e0] at e; cases e) e) a b c
  | rw e a b =>
    obtain ⟨ep, e⟩ := e
    exact .rw ⟨ep, o _ _ (fun z => by rw [z, e0] at e; cases e) e⟩ (ok a) b
  | non e =>
    refine .non ?_
    cases v <;> first | exact e | exact e.elim | skip
    have nb : ∀ {b : Addr}, V.ref b ≠ .ref p → b ≠ p := fun h z => h (by rw [z])
    rcases e with ⟨ys, e⟩ | ⟨ys, e⟩
    · exact .inl ⟨ys, o _ _ (nb ne) e⟩
    · exact .inr ⟨ys, o _ _ (nb ne) e⟩
/-- a row is changed to a bad one, or put behind -/
theorem put_bad {H : Hp} {n y : Int} {l : List (Int × Int)} {f : PF} {v : V} (di : DI l f) (wf : WF n f) (hl : l.length ≤ 300) (hv : okV H v) (hb : inR v 0 (n - 1) = false) : BadK H n (putK (kvI l) (Sum.inl y) v) := by
  have ok := okArr_of di wf
  have cut : ∀ i, okArr n (l.take i) = true := fun i => by
    cases e : okArr n (l.take i) with
    | true => rfl
    | false => rw [okArr_cut e] at ok; cases ok
  by_cases h : y ∈ l.map (·.1)
  · obtain ⟨p, hp, rfl⟩ := List.mem_map.mp h
    obtain ⟨i, hi, ei⟩ := List.mem_iff_getElem.mp hp
    have sp : l = l.take i ++ p :: l.drop (i + 1) := by
      rw [← ei, ← List.drop_eq_getElem_cons hi, List.take_append_drop]
    have nd := di.nd
    have e1 : putK (kvI l) (Sum.inl p.1 : Key) v = kvI (l.take i) ++ (Sum.inl p.1, v) :: kvI (l.drop (i + 1)) := by
      unfold putK
      have ha : ((kvI l).any fun kv => decide (kv.1 = (Sum.inl p.1 : Key))) = true := by
        rw [List.any_eq_true]
        exact ⟨(Sum.inl p.1, .int p.2), List.mem_map.mpr ⟨p, hp, rfl⟩, decide_eq_true rfl⟩
      rw [if_pos ha]
      have nin : ∀ (m : List (Int × Int)), p.1 ∉ m.map (·.1) → (kvI m).map (fun kv => if kv.1 = (Sum.inl p.1 : Key) then (kv.1, v) else kv) = kvI m := fun m hm => by
        unfold kvI
        rw [List.map_map]
        refine List.map_congr_left fun q hq => ?_
        show (if (Sum.inl q.1 : Key) = Sum.inl p.1 then _ else _) = _
        rw [if_neg fun z => hm (List.mem_map.mpr ⟨q, hq, Sum.inl.inj z⟩)]
      have nd2 := nd
      rw [sp, List.map_append, List.map_cons, List.nodup_append] at nd2
      obtain ⟨_, n2, n3⟩ := nd2
      rw [List.nodup_cons] at n2
      have h1 : p.1 ∉ (l.take i).map (·.1) := fun z => n3 _ z _ List.mem_cons_self rfl
      calc (kvI l).map (fun kv => if kv.1 = (Sum.inl p.1 : Key) then (kv.1, v) else kv)
          = (kvI (l.take i ++ p :: l.drop (i + 1))).map (fun kv => if kv.1 = (Sum.inl p.1 : Key) then (kv.1, v) else kv) := by rw [← sp]
        _ = _ := by
          have : kvI (l.take i ++ p :: l.drop (i + 1)) = kvI (l.take i) ++ (Sum.inl p.1, .int p.2) :: kvI (l.drop (i + 1)) := by
            unfold kvI
            rw [List.map_append, List.map_cons]
          rw [this, List.map_append, List.map_cons, nin _ h1, nin _ n2.1]
          show _ ++ (if (Sum.inl p.1 : Key) = Sum.inl p.1 then _ else _) :: _ = _
          rw [if_pos rfl]
    refine ⟨l.take i, _, kvI (l.drop (i + 1)), e1, cut i, .inr hb, hv, ?_⟩
    rw [e1, List.length_append, List.length_cons, kvI_length, kvI_length, List.length_take, List.length_drop]
    omega
  · have e1 : putK (kvI l) (Sum.inl y : Key) v = kvI l ++ [(Sum.inl y, v)] := putK_new _ (by
      rw [valV_kvI, di.at_]
      cases e : f y with
      | none => rfl
      | some z => exact absurd (List.mem_map.mpr ⟨(y, z), di.mem.mpr e, rfl⟩) h)
    refine ⟨l, _, [], e1, ok, .inr hb, hv, ?_⟩
    rw [e1, List.length_append, kvI_length, List.length_singleton]
    omega
/-- the odd values -/
structure OddA (H : Hp) (p : Addr) (n : Int) (v : V) : Prop where
  ok : okV H v
  bad : inR v 0 (n - 1) = false
  form : (∃ k : Key, v = kV k) ∨ (∃ o, v = oV o) ∨ ∃ (b : Addr) (i : Int), v = .ref b ∧ H b = some (.tup [.int i])
theorem OddA.off {H H' : Hp} {p : Addr} {n : Int} {v : V} (h : OddA H p n v) (hp : PoolAt H p) (o : Off p H H') : OddA H' p n v := by
  obtain ⟨xs, e0⟩ := hp.lst
  have nt : ∀ {b : Addr} {ys : List V}, H b = some (.tup ys) → b ≠ p := fun e z => by rw [z, e0] at e; cases e
  refine ⟨?_, h.bad, ?_⟩
  · have := h.ok
    cases v <;> first | exact this | exact this.elim | skip
    obtain ⟨ys, e⟩ := this
    exact ⟨ys, o _ _ (nt e) e⟩
  · rcases h.form with h | h | ⟨b, i, e, hb⟩
    · exact .inl h
    · exact .inr (.inl h)
    · exact .inr (.inr ⟨b, i, e, o _ _ (nt hb) hb⟩)
theorem OddA.same {H H' : Hp} {p : Addr} {n : Int} {v : V} (h : OddA H p n v) (s : Same H H') : OddA H' p n v := by
  refine ⟨h.ok.same s, h.bad, ?_⟩
  rcases h.form with h | h | ⟨b, i, e, hb⟩
  · exact .inl h
  · exact .inr (.inl h)
  · exact .inr (.inr ⟨b, i, e, s _ _ hb⟩)
theorem OffS' {p : Addr} {H H1 H2 : Hp} (o : Off p H H1) (s : Same H1 H2) : Off p H H2 := fun b u hb e => s _ _ (o b u hb e)
def spBent (K : PySem.W.Frag) : Sp := fun vs H Q _ => ∃ (p d : Addr) (n : Int) (l : List (Int × Int)) (f : PF), vs = [.ref p, .int n, .ref d] ∧ PoolAt H p ∧ H d = some (.dK (kvI l)) ∧ DI l f ∧ WF n f ∧ l.length ≤ 300 ∧ 1 ≤ n ∧ n ≤ 300 ∧
  ∀ v H', Bad H' n v → v ≠ .ref p → PoolAt H' p → Off p H H' → Q v H'
section
variable {P : Program} {w : World} {K : PySem.W.Frag} {mg : Str → Option Value} {base : Heap}
set_option pp.maxSteps 3000 in
theorem ok_bent (T : Txt K mg) : FnR P w K mg base CX0 5 T.f_l_bent (spBent K) := by
  refine T.A_l_bent.ok sc_l_bent (fun vs H Q E h => ?_) (fun cdv A outer s H vs Q E hr h => ?_)
  · obtain ⟨p, d, n, l, f, rfl, _⟩ := h
    rfl
  · obtain ⟨p, d, n, l, f, rfl, hp, hd, di, wf, hl, h1, h3, q⟩ := h
    have hu := hu_of hr
    refine ⟨_, (pss_cons (ps_par (i := 3) (j := 4) rfl sc_l_bent.nd rfl rfl (by decide) rfl rfl (pa_cons (pe_callR (ok_draw T) (hr.mono (by decide)) T.A_l_draw.kp rfl T.g_l_draw pass0 (pa_cons (pv 0) (pa_cons (pv 1) pa_nil))) (pa_cons (pe_ix ix_list (pe_lst (pa_cons pe_non (pa_cons (pv 1) (pa_cons (pe_un un_neg pe_int) (pa_cons pe_bl (pa_cons pe_str (pa_cons (pe_tup (pa_cons pe_int pa_nil)) (pa_cons pe_bl pa_nil)))))))) (pe_callR (ok_draw T) (hr.mono (by decide)) T.A_l_draw.kp rfl T.g_l_draw pass0 (pa_cons (pv 0) (pa_cons pe_int pa_nil))) (fun _ _ => rfl)) pa_nil)) (by rfl))
      (pss_cons (ps_set (i := 5) sc_l_bent.nd rfl (Or.inl rfl) (pe_callTy call_dictD (by rfl) T.n_dict (by decide +kernel) (pa_cons (pv 2) pa_nil)))
      (pss_cons (ps_set (i := 6) sc_l_bent.nd rfl (Or.inl rfl) (pe_callR (ok_draw T) (hr.mono (by decide)) T.A_l_draw.kp rfl T.g_l_draw pass0 (pa_cons (pv 0) (pa_cons pe_int pa_nil))))
      (pss_cons (ps_if (pt_cmpR op_eq (pv 6) pe_int (nomark _))
        (pss_cons (ps_dput hu (pv 5) (pv 3) (pv 4) rfl)
      (pss_one (ps_ret (pv 5)))) pss_nil)
      (pss_cons (ps_if (pt_cmpR op_eq (pv 6) pe_int (nomark _))
        (pss_one (ps_ret (pe_callTy (callR_or (call_dictP rfl) (call_dictW rfl (units2 hr))) (by rfl) T.n_dict (by decide +kernel) (pa_cons (pe_lst (pa_cons (pe_tup (pa_cons (pv 4) (pa_cons (pv 3) pa_nil))) pa_nil)) pa_nil)))) pss_nil)
      (pss_cons (ps_if (PW.pt (pw_and (pt_cmpR op_eq (pv 6) pe_int (nomark _)) (pw_and1 (pt_cmpR op_gt (pv 1) pe_int (nomark _)))))
        (pss_one (ps_ret (pe_disp (pps_cons pe_int (pv 3) (pps_cons pe_int (pv 3) pps_nil)) (by rfl) (by rfl) (fun z => by cases z) (by decide)))) pss_nil)
      (pss_one (ps_ret (pe_ix ix_list (pe_lst (pa_cons pe_non (pa_cons (pe_lst pa_nil) (pa_cons (pe_itemsR rfl (pv 2) rfl T.n_list (by decide +kernel)) (pa_cons (pe_tup (pa_cons pe_int (pa_cons pe_int pa_nil))) (pa_cons pe_str (pa_cons pe_int pa_nil))))))) (pe_callR (ok_draw T) (hr.mono (by decide)) T.A_l_draw.kp rfl T.g_l_draw pass0 (pa_cons (pv 0) (pa_cons pe_int pa_nil))) (fun _ _ => rfl)))))))))), ?_⟩
    have hdp : d ≠ p := fun z => by
      obtain ⟨xs, e⟩ := hp.lst
      rw [z, e] at hd
      cases hd
    refine draw_R rfl (fun R r => ⟨_, rfl, r⟩) hp (by omega) (by omega) fun at0 H1 a0 a1 hp1 o1 => ?_
    refine ⟨_, rfl, _, rfl, (by show 1 ≤ sizeLine; decide), ?_⟩
    refine fun t1 n_t1 => ?_
    generalize g_t1 : L2.upd _ t1 _ = H2
    obtain ⟨s_H2, e_t1⟩ := U.upd_facts g_t1 n_t1
    clear g_t1
    refine ⟨(by show 7 ≤ sizeLine; decide), ?_⟩
    refine fun t2 n_t2 => ?_
    generalize g_t2 : L2.upd _ t2 _ = H3
    obtain ⟨s_H3, e_t2⟩ := U.upd_facts g_t2 n_t2
    clear g_t2
    have hp3 : PoolAt H3 p := hp1.same (by array_mem_dec)
    refine draw_R rfl (fun R r => r) hp3 (by decide) (by decide) fun r1 H4 r0 r9 hp4 o4 => ?_
    have n1 : t1 ≠ p := fun z => hp1.ne n_t1 z.symm
    have n2 : t2 ≠ p := fun z => (hp1.same s_H2).ne n_t2 z.symm
    have k1 : H4 t1 = some (.tup [.int 0]) := o4 _ _ n1 (by array_get_dec)
    have k2 : H4 t2 = some (.lst [.non, .int n, .int (-1), .bl true, .str "0", .ref t1, .bl false]) := o4 _ _ n2 e_t2
    obtain ⟨k, rfl⟩ : ∃ k : Nat, r1 = k := ⟨r1.toNat, by omega⟩
    have hk : k < 7 := by omega
    have key : ∃ v, ([.non, .int n, .int (-1), .bl true, .str "0", .ref t1, .bl false] : List V)[k]? = some v ∧ OddA H4 p n v := by
      match k, hk with
      | 0, _ => exact ⟨_, rfl, trivial, rfl, .inr (.inl ⟨none, rfl⟩)⟩
      | 1, _ => exact ⟨_, rfl, trivial, by simp [inR]; omega, .inl ⟨Sum.inl n, rfl⟩⟩
      | 2, _ => exact ⟨_, rfl, trivial, by simp [inR], .inl ⟨Sum.inl (-1), rfl⟩⟩
      | 3, _ => exact ⟨_, rfl, trivial, rfl, .inr (.inl ⟨some true, rfl⟩)⟩
      | 4, _ => exact ⟨_, rfl, trivial, rfl, .inl ⟨Sum.inr "0", rfl⟩⟩
      | 5, _ => exact ⟨_, rfl, ⟨_, k1⟩, rfl, .inr (.inr ⟨t1, 0, rfl, k1⟩)⟩
      | 6, _ => exact ⟨_, rfl, trivial, rfl, .inr (.inl ⟨some false, rfl⟩)⟩
    obtain ⟨v, ev, hv⟩ := key
    refine ⟨t2, _, k, v, rfl, rfl, SqL.of k2, atI_nat ev, ?_⟩
    refine ⟨_, _, rfl, ?_⟩
    have o14 : Off p H H4 := (OffS' o1 (s_H2.trans s_H3)).tr o4
    have hd4 := o14 _ _ hdp hd
    clear k1 k2 ev e_t1 e_t2 s_H2 s_H3 n_t1 n_t2
    refine ⟨_, rfl, d, _, rfl, .inl hd4, ?_⟩
    refine fun D n_D => ?_
    generalize g_D : L2.upd _ D _ = H5
    obtain ⟨s_H5, e_D⟩ := U.upd_facts g_D n_D
    clear g_D
    have hp5 := hp4.same s_H5
    have hv5 := hv.same s_H5
    have nDp : D ≠ p := fun z => hp4.ne n_D z.symm
    refine draw_R rfl (fun R r => r) hp5 (by decide) (by decide) fun way H6 w0 w9 hp6 o6 => ?_
    have hv6 := hv5.off hp5 o6
    have e_D6 : H6 D = some (.dK (kvI l)) := o6 _ _ nDp e_D
    have hd6 : H6 d = some (.dK (kvI l)) := o6 _ _ hdp (s_H5 _ _ hd4)
    have o16 : Off p H H6 := (OffS' o14 s_H5).tr o6
    have nDn : H D = none := by
      obtain ⟨xs, ex⟩ := hp4.lst
      exact Off.free o14 ex n_D
    clear s_H5 n_D e_D
    refine ⟨_, rfl, rfl, _, rfl, ifD (fun _ => ?_) (fun _ => ?_)⟩
    · refine ⟨_, rfl, _, rfl, _, rfl, D, _, rfl, DPut.k (k := Sum.inl at0) e_D6 (by rw [kvI_length]; exact lt_line (by omega)), ?_⟩
      refine ⟨_, rfl, q _ _ (.dk upd_same ?_) (fun z => nDp (V.ref.inj z)) (hp6.put nDp.symm) (fun b o hb e => ?_)⟩
      · have hok : okV (upd H6 D (.dK (putK (kvI l) (Sum.inl at0) v))) v := hv6.ok.off (d := D) Off.lock e_D6 (fun _ z => by cases z)
        exact put_bad di wf hl hok hv6.bad
      · have hbD : b ≠ D := ne_of_none e nDn
        rw [upd_ne hbD]
        exact o16 _ _ hb e
    dsimp only [tNext]
    refine ⟨_, rfl, rfl, _, rfl, ifD (fun _ => ?_) (fun _ => ?_)⟩
    · refine ⟨_, rfl, _, rfl, two_le, ?_⟩
      refine fun u1 n_u1 => ?_
      generalize g_u1 : L2.upd _ u1 _ = H7
      obtain ⟨s_H7, e_u1⟩ := U.upd_facts g_u1 n_u1
      clear g_u1
      refine ⟨one_le, ?_⟩
      refine fun u2 n_u2 => ?_
      generalize g_u2 : L2.upd _ u2 _ = H8
      obtain ⟨s_H8, e_u2⟩ := U.upd_facts g_u2 n_u2
      clear g_u2
      have hv8 := (hv6.same s_H7).same s_H8
      have e_u1' : H8 u1 = some (.tup [v, .int at0]) := (by array_get_dec)
      have s68 : Same H6 H8 := (by array_mem_dec)
      have hp8 := hp6.same s68
      rcases hv8.form with ⟨k, rfl⟩ | hf
      · refine .inl ⟨u2, [u1], [(k, .int at0)], rfl, SqL.of e_u2, .cons (SqT.of e_u1') .nil, ?_⟩
        refine fun u3 n_u3 => ?_
        generalize g_u3 : L2.upd _ u3 _ = H9
        obtain ⟨s_H9, e_u3⟩ := U.upd_facts g_u3 n_u3
        clear g_u3
        have n3 : u3 ≠ p := fun z => hp8.ne n_u3 z.symm
        exact q _ H9 (.dk e_u3 ⟨[], (k, .int at0), [], rfl, rfl, .inl hv8.bad, trivial, (by show 1 ≤ 1000; decide)⟩) (fun z => n3 (V.ref.inj z)) (hp8.same s_H9) (OffS' (OffS' o16 s68) s_H9)
      · refine .inr ⟨u2, u1, v, .int at0, rfl, SqL.of e_u2, SqT.of e_u1', ?_, ?_⟩
        · rcases hf with hf | ⟨b, i, e, hb⟩
          · exact .inl hf
          · exact .inr ⟨b, i, e, SqT.of hb⟩
        intro u3 ep n_u3
        have n3 : u3 ≠ p := fun z => hp8.ne n_u3 z.symm
        have s9 : Same H8 (upd H8 u3 (RwO u3 ep [(v, .int at0)])) := Same.new n_u3
        exact q _ _ (.rw ⟨ep, upd_same⟩ (hv8.ok.same s9) hv8.bad) (fun z => n3 (V.ref.inj z)) (hp8.same s9) (OffS' (OffS' o16 s68) s9)
    dsimp only [tNext]
    have last : ∀ (σ : L2.St), σ[0]? = some (some (.ref p)) → σ[2]? = some (some (.ref d)) → tRet (tOp (rIxL K) (tLst (tCons (tC V.non) (tCons (tLst tNil) (tCons (tItemsR (tVar 2)) (tCons (tTup (tCons (tC (V.int 0)) (tCons (tC (V.int 1)) tNil))) (tCons (tC (V.str "{}")) (tCons (tC (V.int 5)) tNil))))))) (tCallR spDraw E0 (tCons (tVar 0) (tCons (tC (V.int 6)) tNil)))) { nx := fun x H' => Q V.non H', rt := Q } σ H6 := by
      intro σ h0 h2
      refine ⟨Nat.zero_le _, ?_⟩
      refine fun y1 n_y1 => ?_
      generalize g_y1 : L2.upd _ y1 _ = G1
      obtain ⟨s_G1, e_y1⟩ := U.upd_facts g_y1 n_y1
      clear g_y1
      refine ⟨_, h2, d, kvI l, rfl, .inl (s_G1 _ _ hd6), fun G2 y2 ts s_G2 n_y2 n_ts pts e_y2 prs => ?_⟩
      have sG12 : Same G1 G2 := s_G2
      refine ⟨two_le, ?_⟩
      refine fun y3 n_y3 => ?_
      generalize g_y3 : L2.upd _ y3 _ = G3
      obtain ⟨s_G3, e_y3⟩ := U.upd_facts g_y3 n_y3
      clear g_y3
      refine ⟨(by show 6 ≤ sizeLine; decide), ?_⟩
      refine fun y4 n_y4 => ?_
      generalize g_y4 : L2.upd _ y4 _ = G4
      obtain ⟨s_G4, e_y4⟩ := U.upd_facts g_y4 n_y4
      clear g_y4
      have hp4' : PoolAt G4 p := hp6.same ((s_G1.trans sG12).trans (s_G3.trans s_G4))
      have g1 : G4 y1 = some (.lst []) := s_G4 _ _ (s_G3 _ _ (sG12 _ _ e_y1))
      have g2 : G4 y2 = some (.lst (ts.map V.ref)) := s_G4 _ _ (s_G3 _ _ e_y2)
      have g3 : G4 y3 = some (.tup [.int 0, .int 1]) := s_G4 _ _ e_y3
      have m1 : y1 ≠ p := fun z => hp6.ne n_y1 z.symm
      have m2 : y2 ≠ p := fun z => (hp6.same s_G1).ne n_y2 z.symm
      have m3 : y3 ≠ p := fun z => (hp6.same (s_G1.trans sG12)).ne n_y3 z.symm
      have m4 : y4 ≠ p := fun z => (hp6.same ((s_G1.trans sG12).trans s_G3)).ne n_y4 z.symm
      have sAll : Same H6 G4 := (s_G1.trans sG12).trans (s_G3.trans s_G4)
      refine draw_R h0 (fun R r => r) hp4' (by decide) (by decide) fun r G5 r0 r9 hp5' o5' => ?_
      obtain ⟨k, rfl⟩ : ∃ k : Nat, r = k := ⟨r.toNat, by omega⟩
      have hk : k < 6 := by omega
      have key : ∃ v, ([.non, .ref y1, .ref y2, .ref y3, .str "{}", .int 5] : List V)[k]? = some v ∧ nonDi G5 v ∧ v ≠ .ref p := by
        match k, hk with
        | 0, _ => exact ⟨_, rfl, trivial, (fun z => by cases z)⟩
        | 1, _ => exact ⟨_, rfl, .inl ⟨_, o5' _ _ m1 g1⟩, fun z => m1 (V.ref.inj z)⟩
        | 2, _ => exact ⟨_, rfl, .inl ⟨_, o5' _ _ m2 g2⟩, fun z => m2 (V.ref.inj z)⟩
        | 3, _ => exact ⟨_, rfl, .inr ⟨_, o5' _ _ m3 g3⟩, fun z => m3 (V.ref.inj z)⟩
        | 4, _ => exact ⟨_, rfl, trivial, (fun z => by cases z)⟩
        | 5, _ => exact ⟨_, rfl, trivial, (fun z => by cases z)⟩
      obtain ⟨u, eu, hu1, hu2⟩ := key
      exact ⟨y4, _, k, u, rfl, rfl, SqL.of (o5' _ _ m4 e_y4), atI_nat eu, q u G5 (.non hu1) hu2 hp5' ((OffS' o16 sAll).tr o5')⟩
    refine ⟨_, rfl, rfl, _, rfl, ifD (fun _ => ?_) (fun _ => ?_)⟩
    · refine ⟨_, rfl, _, _, rfl, rfl, _, rfl, ifD (fun h => ?_) (fun _ => last _ rfl rfl)⟩
      refine fun D2 n_D2 => ?_
      refine ⟨_, rfl, _, rfl, upd_same, [(Sum.inl 0, .int at0), (Sum.inl 1, .int at0)], rfl, by show 2 ≤ 15; decide, ?_⟩
      have nD2 : D2 ≠ p := fun z => hp6.ne n_D2 z.symm
      have s7 : Same H6 (upd (upd H6 D2 (.dK [])) D2 (.dK (mergeK [] [(Sum.inl 0, V.int at0), (Sum.inl 1, V.int at0)]))) := Same.put (Same.new n_D2) n_D2
      have e7 : (upd (upd H6 D2 (.dK [])) D2 (.dK (mergeK [] [(Sum.inl 0, V.int at0), (Sum.inl 1, V.int at0)]))) D2 = some (.dK (kvI [(0, at0), (1, at0)])) := upd_same
      exact q _ _ (.dup e7 a0 a1 (by simpa using h)) (fun z => nD2 (V.ref.inj z)) (hp6.same s7) (OffS' o16 s7)
    · exact last _ rfl rfl
end
end My
set_option maxHeartbeats 1000000
namespace My
open PySem L2 U StX PM
/-! ### _law_shown -/
def lenF (n : Int) (f : PF) : Int := ((tab n f).length : Nat)
theorem lenF_le (n : Int) (f : PF) (h : 0 ≤ n) : 0 ≤ lenF n f ∧ lenF n f ≤ n := by
  have := tab_len n f
  unfold lenF
  omega
def spLen (C : Addr) : Sp := fun vs H Q _ => ∃ m n f, vs = [.ref m] ∧ IsMap C H m n f ∧ Q (.int (lenF n f)) H
def dPair (p : Int × Int) : PyData := .tuple [.int p.1, .int p.2]
theorem dp_pairs {K : PySem.W.Frag} {H : Hp} : ∀ {ts : List Addr} {l : List (Int × Int)}, Paired (fun (t : Addr) (q : Key × V) => H t = some (.tup [kV q.1, q.2])) ts (kvI l) → DpAll K H (ts.map V.ref) (l.map dPair)
  | [], [], _ => .nil
  | t :: ts, p :: l, h => by
    cases h with
    | cons a r => exact .cons (.tup (SqT.of a) (.cons (.int _) (.cons (.int _) .nil))) (dp_pairs r)
  | [], _ :: _, h => by cases h
  | _ :: _, [], h => by cases h
theorem lay_pairs (l : List (Int × Int)) : PyData.canLayAll0 (l.map dPair) = true ∧ PyData.depthAll (l.map dPair) ≤ 1 := by
  induction l with
  | nil => exact ⟨rfl, Nat.zero_le _⟩
  | cons p l ih =>
    refine ⟨?_, ?_⟩
    · show (PyData.canLay0 (dPair p) && PyData.canLayAll0 (l.map dPair)) = true
      rw [ih.1]; rfl
    · show max (PyData.depth (dPair p)) (PyData.depthAll (l.map dPair)) ≤ 1
      have : PyData.depth (dPair p) = 1 := rfl
      omega
theorem shaped_pairs (l : List (Int × Int)) : SeqAt.shaped (.list (l.map dPair)) = true := by
  unfold SeqAt.shaped
  have h := lay_pairs l
  rw [Bool.and_eq_true]
  refine ⟨h.1, decide_eq_true ?_⟩
  show PyData.depthAll (l.map dPair) + 1 ≤ 64
  omega
theorem nd_pairs {l : List (Int × Int)} (h : (l.map (·.1)).Nodup) : l.Nodup := by
  induction l with
  | nil => exact List.nodup_nil
  | cons p l ih =>
    rw [List.map_cons, List.nodup_cons] at h
    rw [List.nodup_cons]
    exact ⟨fun hp => h.1 (List.mem_map.mpr ⟨p, hp, rfl⟩), ih h.2⟩
theorem di_len {l r : List (Int × Int)} {f : PF} (a : DI l f) (b : DI r f) : l.length = r.length := by
  refine Nat.le_antisymm (List.Nodup.length_le_of_subset (nd_pairs a.nd) fun p hp => ?_) (List.Nodup.length_le_of_subset (nd_pairs b.nd) fun p hp => ?_)
  · exact b.mem.mpr (a.mem.mp hp)
  · exact a.mem.mpr (b.mem.mp hp)
theorem merge_new : ∀ (r l : List (Int × Int)), ((l ++ r).map (·.1)).Nodup → mergeK (kvI l) (kvI r) = kvI (l ++ r)
  | [], l, _ => by rw [List.append_nil]; rfl
  | (x, y) :: r, l, nd => by
    have e : l ++ (x, y) :: r = (l ++ [(x, y)]) ++ r := by simp
    have hx : x ∉ l.map (·.1) := by
      rw [List.map_append, List.map_cons] at nd
      have := (List.nodup_append.mp nd).2.2
      intro h
      exact this x h x List.mem_cons_self rfl
    show mergeK (putK (kvI l) (Sum.inl x) (V.int y)) (kvI r) = _
    rw [putK_kvI hx, e]
    rw [e] at nd
    exact merge_new r (l ++ [(x, y)]) nd
theorem merge_nil {m : List (Int × Int)} (nd : (m.map (·.1)).Nodup) : mergeK [] (kvI m) = kvI m := merge_new m [] nd
/-- a part of a map by its pairs -/
theorem di_sub {l m : List (Int × Int)} {f : PF} (di : DI l f) (hs : m.Sublist l) : DI m (lk m) := by
  have : (m.map (·.1)).Nodup := (hs.map _).nodup di.nd
  exact ⟨this, fun _ => rfl⟩
theorem wf_subl {n : Int} {l m : List (Int × Int)} {f : PF} (di : DI l f) (wf : WF n f) (hs : m.Sublist l) : WF n (lk m) := by
  have key : ∀ x y, lk m x = some y → f x = some y := fun x y h => di.mem.mp (hs.subset (lk_mem h))
  exact ⟨fun x y h => wf.dom x y (key x y h), fun x x' y h h' => wf.inj x x' y (key _ _ h) (key _ _ h')⟩
theorem size_R {K : PySem.W.Frag} {C : Addr} {i : Nat} {σ : L2.St} {H : Hp} {Q : VK} {m : Addr} {n : Int} {f : PF} (hi : σ[i]? = some (some (.ref m))) (hm : IsMap C H m n f) (q : Q (.int n) H) : tPropR C (spSize C) (tVar i) σ H Q := by
  obtain ⟨dx, fs, h1⟩ := at_map hm
  exact ⟨_, hi, m, dx, fs, rfl, h1, m, n, f, rfl, hm, q⟩
def spBoolM (C : Addr) : Sp := fun vs H Q _ => ∃ (m : Addr) (n : Int) (f : PF), vs = [.ref m] ∧ IsMap C H m n f ∧ Q (.bl (!(tab n f).isEmpty)) H
def spShown (C : Addr) : Sp := fun vs H Q _ => ∃ (m d : Addr) (n : Int) (l : List (Int × Int)) (f : PF), vs = [.ref m, .int n, .ref d] ∧ IsMap C H m n f ∧ H d = some (.dK (kvI l)) ∧ DI l f ∧ l.length ≤ 1000 ∧ ∀ H', Same H H' → Q (.bl true) H'
section
variable {P : Program} {w : World} {K : PySem.W.Frag} {mg : Str → Option Value} {base : Heap}
/-- a new list of the rows of a map -/
def RowsA (H : Hp) (L : Addr) (l : List (Int × Int)) : Prop := ∃ ts : List Addr, H L = some (.lst (ts.map V.ref)) ∧ Paired (fun (t : Addr) (q : Key × V) => H t = some (.tup [kV q.1, q.2])) ts (kvI l)
theorem prd_same {H H' : Hp} (s : Same H H') : ∀ {ts : List Addr} {kvs : List (Key × V)}, Paired (fun (t : Addr) (q : Key × V) => H t = some (.tup [kV q.1, q.2])) ts kvs → Paired (fun (t : Addr) (q : Key × V) => H' t = some (.tup [kV q.1, q.2])) ts kvs
  | _, _, .nil => .nil
  | _, _, .cons a r => .cons (s _ _ a) (prd_same s r)
theorem prd_len {R : Addr → Key × V → Prop} : ∀ {ts : List Addr} {kvs : List (Key × V)}, Paired R ts kvs → ts.length = kvs.length
  | _, _, .nil => rfl
  | _, _, .cons _ r => by rw [List.length_cons, List.length_cons, prd_len r]
theorem prd_app {R : Addr → Key × V → Prop} : ∀ {ts us : List Addr} {kvs ls : List (Key × V)}, Paired R ts kvs → Paired R us ls → Paired R (ts ++ us) (kvs ++ ls)
  | _, _, _, _, .nil, h => h
  | _, _, _, _, .cons a r, h => .cons a (prd_app r h)
theorem prd_rev {R : Addr → Key × V → Prop} : ∀ {ts : List Addr} {kvs : List (Key × V)}, Paired R ts kvs → Paired R ts.reverse kvs.reverse
  | _, _, .nil => .nil
  | _, _, .cons a r => by rw [List.reverse_cons, List.reverse_cons]; exact prd_app (prd_rev r) (.cons a .nil)
theorem prd_tail {R : Addr → Key × V → Prop} : ∀ {ts : List Addr} {kvs : List (Key × V)}, Paired R ts kvs → Paired R ts.tail kvs.tail
  | _, _, .nil => .nil
  | _, _, .cons _ r => r
theorem prd_sq {K : PySem.W.Frag} {H : Hp} : ∀ {ts : List Addr} {kvs : List (Key × V)}, Paired (fun (t : Addr) (q : Key × V) => H t = some (.tup [kV q.1, q.2])) ts kvs → Paired (fun p kv => SqT K H p [kV kv.1, kv.2]) ts kvs
  | _, _, .nil => .nil
  | _, _, .cons a r => .cons (SqT.of a) (prd_sq r)
theorem RowsA.same {H H' : Hp} {L : Addr} {l : List (Int × Int)} (h : RowsA H L l) (s : Same H H') : RowsA H' L l := by
  obtain ⟨ts, e, p⟩ := h
  exact ⟨ts, s _ _ e, prd_same s p⟩
theorem tabN_succ (f : PF) (k : Nat) : tabN f (k + 1) = tabN f k ++ ((f (k : Int)).map fun y => ((k : Int), y)).toList := by
  unfold tabN
  rw [List.range_succ, List.filterMap_append]
  cases h : f (k : Int) <;> simp [h]
/-- [(s, d[s]) for s in range(n) if s in d] -/
theorem lc_rows {i : Nat} {vs : List Nat} {σ : L2.St} {H : Hp} {Q : VK} {d : Addr} {l : List (Int × Int)} {f : PF} {n : Int} (h1 : σ[1]? = some (some (.int n))) (h0 : 0 ≤ n) (hn : n ≤ 300) (hd : H d = some (.dK (kvI l))) (di : DI l f) (hi : i < (wipe σ vs).length) (h2 : (wipe σ vs)[2]? = some (some (.ref d))) (hi2 : i ≠ 2)
    (hw : ∀ a, wipe ((wipe σ vs).set i a) vs = wipe σ vs) (hq : ∀ D H', H D = none → RowsA H' D (tab n f) → Same H H' → Q (.ref D) H') :
    tLc (iRng1 (tCons (tVar 1) tNil)) (gName i) (tB (tDIn (tVar i) (tVar 2))) (tTup (tCons (tVar i) (tCons (tDGet (tVar 2) (tVar i)) tNil))) vs σ H Q := by
  refine ⟨_, h1, n, rfl, by omega, by omega, fun D hD => ?_⟩
  refine lc_it (walk_range (lo := 0) (n := n.toNat)) (fun k H' => Same H H' ∧ ∃ ts : List Addr, H' D = some (.lst (ts.map V.ref)) ∧ (∀ t ∈ ts, t ≠ D) ∧ Paired (fun (t : Addr) (q : Key × V) => H' t = some (.tup [kV q.1, q.2])) ts (kvI (tabN f k))) ⟨Same.new hD, [], upd_same, (fun _ z => by cases z), .nil⟩ (fun _ _ _ _ => trivial) ?_ ?_
  · rintro k v H' H'' hk ⟨s1, ts, e1, ht, pr⟩ ⟨rfl, ev⟩
    have ev' : v = .int (k : Nat) := by
      rw [ev]
      show V.int (0 + (k : Int)) = _
      rw [Int.zero_add]
    subst ev'
    have hd1 := s1 _ _ hd
    have v2 : ∀ (x : V), ((wipe σ vs).set i (some x))[2]? = some (some (.ref d)) := fun x => by rw [List.getElem?_set_ne hi2]; exact h2
    have vi : ∀ (x : V), ((wipe σ vs).set i (some x))[i]? = some (some x) := fun x => List.getElem?_set_self hi
    refine ⟨hw _, _, vi _, _, v2 _, d, _, rfl, DGet.k (k := Sum.inl (k : Int)) hd1, _, rfl, ?_⟩
    rw [valV_kvI, di.at_, Option.isSome_map]
    have hlen : (tabN f k).length ≤ k := by
      have := tab_len (k : Int) f
      unfold tab at this
      rw [Int.toNat_natCast] at this
      exact this
    cases e : f (k : Int) with
    | none =>
      refine iteF ⟨s1, ts, e1, ht, ?_⟩
      rw [tabN_succ, e]
      simpa using pr
    | some y =>
      refine iteT ⟨_, vi _, _, v2 _, _, vi _, d, .int y, rfl, ?_, two_le, fun q nq => ?_⟩
      · have := DGet.k (k := Sum.inl (k : Int)) hd1
        rw [valV_kvI, di.at_, e] at this
        exact this
      have nqD : q ≠ D := (ne_of_none e1 nq).symm
      have s2 := Same.new (o := .tup [.int (k : Nat), .int y]) nq
      have hlt : ts.length < sizeLine := by
        rw [prd_len pr, kvI_length]
        exact lt_line (by omega)
      refine ⟨_, s2 _ _ e1, by rw [List.length_map]; exact hlt, Same.put (s1.trans s2) hD, ts ++ [q], ?_, ?_, ?_⟩
      · rw [upd_same, List.map_append]; rfl
      · intro t h
        rcases List.mem_append.mp h with h | h
        · exact ht t h
        · rw [List.mem_singleton.mp h]; exact nqD
      · rw [tabN_succ, e]
        have : kvI (tabN f k ++ ((some y).map fun y => ((k : Int), y)).toList) = kvI (tabN f k) ++ [(Sum.inl (k : Int), V.int y)] := by
          unfold kvI
          rw [List.map_append]
          rfl
        rw [this]
        have keep : ∀ {us : List Addr} {ls : List (Key × V)}, (∀ t ∈ us, t ≠ D) → Paired (fun (t : Addr) (q : Key × V) => H'' t = some (.tup [kV q.1, q.2])) us ls → Paired (fun (t : Addr) (z : Key × V) => upd (upd H'' q (.tup [.int (k : Nat), .int y])) D (.lst (ts.map V.ref ++ [V.ref q])) t = some (.tup [kV z.1, z.2])) us ls := fun {us} => by
          induction us with
          | nil => intro ls _ h; cases h; exact .nil
          | cons u us ih =>
            intro ls hu h
            cases h with
            | cons a r => exact .cons (by rw [upd_ne (hu u List.mem_cons_self), upd_ne (ne_of_none a nq)]; exact a) (ih (fun t ht => hu t (List.mem_cons_of_mem _ ht)) r)
        refine prd_app (keep ht pr) (.cons ?_ .nil)
        rw [upd_ne nqD, upd_same]
        rfl
  · rintro H' ⟨s1, ts, e1, ht, pr⟩
    exact hq D H' hD ⟨ts, e1, pr⟩ s1
theorem rows_dp {K : PySem.W.Frag} {H : Hp} {L : Addr} {l : List (Int × Int)} (h : RowsA H L l) : Dp K H (.ref L) (.list (l.map dPair)) := by
  obtain ⟨ts, e, p⟩ := h
  exact .lst (SqL.of e) (dp_pairs p)
theorem nx_seq {a rest : TS} {D : Ends} {σ : L2.St} {H : Hp} (h : a { D with nx := rest D } σ H) : tSeq a rest D σ H := h
theorem di_perm {l m : List (Int × Int)} {f : PF} (d : DI l f) (h : m.Perm l) : DI m f := by
  refine di_of ((h.map _).nodup_iff.mpr d.nd) fun x y => ?_
  rw [h.mem_iff]
  exact d.mem
theorem eqM {T : Txt K mg} {H : Hp} {m m' : Addr} {n n' : Int} {f g : PF} {Q : VK} (h : IsMap T.C_Map H m n f) (h' : IsMap T.C_Map H m' n' g) (q : Q (.bl (eqB n f n' g)) H) : rEqV K T.C_Map (spEqV T.C_Map) E0 (.ref m) (.ref m') H Q := by
  obtain ⟨dx, fs, e1⟩ := at_map h
  obtain ⟨dx', fs', e2⟩ := at_map h'
  exact ⟨m, dx, fs, _, rfl, e1, tyx_ins T.o_Map e2, notFirst_self _ _, m, _, rfl, .inl ⟨m', _, _, _, _, rfl, h, h', q⟩⟩
theorem neM {T : Txt K mg} {H : Hp} {m m' : Addr} {n n' : Int} {f g : PF} {Q : VK} (h : IsMap T.C_Map H m n f) (h' : IsMap T.C_Map H m' n' g) (q : Q (.bl (!eqB n f n' g)) H) : rNeV K T.C_Map (spEqV T.C_Map) E0 (.ref m) (.ref m') H Q := by
  obtain ⟨dx, fs, e1⟩ := at_map h
  obtain ⟨dx', fs', e2⟩ := at_map h'
  exact ⟨m, dx, fs, _, rfl, e1, tyx_ins T.o_Map e2, notFirst_self _ _, m, _, rfl, .inl ⟨m', _, _, _, _, rfl, h, h', _, rfl, q⟩⟩
theorem ok_len (T : Txt K mg) : FnR P w K mg base CX0 1 T.f_Map__len (spLen T.C_Map) := by
  refine T.A_Map__len.ok sc_Map__len (fun vs H Q E h => ?_) (fun cdv A outer s H vs Q E hr h => ?_)
  · obtain ⟨m, n, f, rfl, _⟩ := h
    rfl
  · obtain ⟨m, n, f, rfl, ⟨⟨dx, D, h1, h2⟩, _⟩, q⟩ := h
    refine ⟨_, (pss_one (ps_ret (pe_callB call_lenD (by rfl) T.n_len (by decide +kernel) (pa_cons (pe_fld (pv 0) rfl) pa_nil)))), ?_⟩
    have q' : Q (.int ((kvI (tab n f)).length : Nat)) H := by rw [kvI_length]; exact q
    exact ⟨_, rfl, m, _, dx, _, _, rfl, h1, T.o_Map.cl, T.na_own_arrows_Map, flds_arrows _ _, D, _, rfl, h2, q'⟩
/-- len(m) -/
theorem len_R {C : Addr} {H : Hp} {m : Addr} {n : Int} {f : PF} {Q : VK} (hm : IsMap C H m n f) (q : Q (.int (lenF n f)) H) : rLenO C (spLen C) E0 [.ref m] H Q := by
  obtain ⟨dx, fs, h1⟩ := at_map hm
  have h9 := hm.hi
  have h8 := hm.lo
  have := lenF_le n f (by omega)
  exact ⟨m, dx, fs, rfl, h1, m, n, f, rfl, hm, _, rfl, by omega, by omega, q⟩
theorem lenV {C : Addr} {i : Nat} {σ : L2.St} {H : Hp} {Q : VK} {m : Addr} {n : Int} {f : PF} (hi : σ[i]? = some (some (.ref m))) (hm : IsMap C H m n f) (q : Q (.int (lenF n f)) H) : tCB (rLenO C (spLen C) E0) (tCons (tVar i) tNil) σ H Q := ⟨_, hi, len_R hm q⟩
theorem ok_bool (T : Txt K mg) : FnR P w K mg base CX0 1 T.f_Map__bool (spBoolM T.C_Map) := by
  refine T.A_Map__bool.ok sc_Map__bool (fun vs H Q E h => ?_) (fun cdv A outer s H vs Q E hr h => ?_)
  · obtain ⟨m, n, f, rfl, _⟩ := h
    rfl
  · obtain ⟨m, n, f, rfl, ⟨⟨dx, D, h1, h2⟩, _⟩, q⟩ := h
    refine ⟨_, (pss_one (ps_ret (pe_callTy call_boolD (by rfl) T.n_bool (by decide +kernel) (pa_cons (pe_fld (pv 0) rfl) pa_nil)))), ?_⟩
    refine ⟨_, rfl, m, _, dx, _, _, rfl, h1, T.o_Map.cl, T.na_own_arrows_Map, flds_arrows _ _, D, _, rfl, h2, ?_⟩
    have e : (kvI (tab n f)).isEmpty = (tab n f).isEmpty := by unfold kvI; cases tab n f <;> rfl
    rw [e]
    exact q
set_option pp.maxSteps 1500 in
theorem ok_shown (T : Txt K mg) : FnG P w K mg base CX0 12 T.f_l_shown (spShown T.C_Map) := by
  refine T.A_l_shown.okG sc_l_shown (fun vs H Q E h => ?_) (fun cdv A outer s H vs Q E gd hr h => ?_)
  · obtain ⟨m, d, n, l, f, rfl, _⟩ := h
    rfl
  · obtain ⟨m, d, n, l, f, rfl, hm, hd, di, hl, q⟩ := h
    have hu := hu_of hr
    refine ⟨_, (pss_cons (ps_setLc (i := 3) (own := [("_law_source", 6)]) (g := (gName 6)) rfl sc_l_shown.nd rfl rfl (sw_true rfl rfl rfl (by decide +kernel)) (pi_range1 rfl T.n_range (pa_cons (pv 1) pa_nil)) (blkOk_by (own := [("_law_source", 6)]) (N := n_l_shown) (sc := defScope s_l_shown) (by decide +kernel)) (fun _ _ _ _ _ => (pg_name (i := 6) sc_l_shown.nd rfl (Or.inl rfl))) (fun _ _ _ _ _ => (pts_one (pt_cmp (pc_din hu (pv 6) (pv 2))))) (fun _ _ _ _ _ => (pe_tup (pa_cons (pv 6) (pa_cons (pe_dget hu (pv 2) (pv 6) (fun _ _ => rfl)) pa_nil)))))
      (pss_cons (ps_if (PW.pt (pw_or (pt_cmpR op_ne (pe_propR (pv 0) T.o_Map.cl T.P_Map_size (ok_size T) (hr.mono (by decide))) (pv 1) (nomark _)) (pw_or (pt_cmpR (L2.op_neD hr.units) (pe_itemsR rfl (pe_propR (pv 0) T.o_Map.cl T.P_Map_arrows (ok_arrows T) (hr.mono (by decide))) rfl T.n_list (by decide +kernel)) (pv 3) (nomark _)) (pw_or1 (pt_cmpR op_ne (pe_callB (call_lenO T.m_Map__len T.i_Map__len (ok_len T) (hr.mono (by decide)) pass0) (by rfl) T.n_len (by decide +kernel) (pa_cons (pv 0) pa_nil)) (pe_callB call_len_seq (by rfl) T.n_len (by decide +kernel) (pa_cons (pv 3) pa_nil)) (nomark _))))))
        (pss_one (ps_ret pe_bl)) pss_nil)
      (pss_cons (ps_if (PW.pt (pw_or (pt_cmpR op_ne (pe_callTy (call_boolO T.m_Map__bool T.i_Map__bool (ok_bool T) (hr.mono (by decide)) pass0) (by rfl) T.n_bool (by decide +kernel) (pa_cons (pv 0) pa_nil)) (pe_cmpR (L2.op_neD hr.units) (pv 3) (pe_lst pa_nil) (nomark _)) (nomark _)) (pw_or1 (pt_cmpR op_ne (pe_callB (call_reprO gd T.m_Map__repr T.i_Map__repr (ok_repr T) (hr.mono (by decide)) pass0) (by rfl) T.n_repr (by decide +kernel) (pa_cons (pv 0) pa_nil)) (pe_op op_add_str (pe_op op_add_str (pe_op op_add_str (pe_op op_add_str pe_str (pe_callTy call_str_int (by rfl) T.n_str (by decide +kernel) (pa_cons (pv 1) pa_nil))) pe_str) (pe_callB (call_reprF gd hr.units) (by rfl) T.n_repr (by decide +kernel) (pa_cons (pe_callTy (call_dictP rfl) (by rfl) T.n_dict (by decide +kernel) (pa_cons (pv 3) pa_nil)) pa_nil))) pe_str) (nomark _)))))
        (pss_one (ps_ret pe_bl)) pss_nil)
      (pss_cons (ps_expr (pe_dclear (pe_propR (pv 0) T.o_Map.cl T.P_Map_arrows (ok_arrows T) (hr.mono (by decide)))))
      (pss_cons (ps_set (i := 4) sc_l_shown.nd rfl (Or.inl rfl) (pe_makeR T.M_Map (ok_init T) (hr.mono (by decide)) rfl T.g_Map pass0 (pa_cons (pv 1) (pa_cons (pe_callTy (call_dictP rfl) (by rfl) T.n_dict (by decide +kernel) (pa_cons (pe_revL (pv 3)) pa_nil)) pa_nil))))
      (pss_cons (ps_if (PW.pt (pw_or (pt_cmpR (op_neV T.o_Map T.ne_Map T.m_Map__eq T.i_Map__eq (ok_eqV T) (hr.mono (by decide)) pass0) (pv 0) (pv 4) (nomark _)) (pw_or (pt_not (pt_cmpR (op_eqV T.m_Map__eq T.i_Map__eq (ok_eqV T) (hr.mono (by decide)) pass0) (pv 0) (pv 4) (nomark _))) (pw_or (pt_cmpR (op_eqV T.m_Map__eq T.i_Map__eq (ok_eqV T) (hr.mono (by decide)) pass0) (pv 0) (pe_callTy (call_dictP rfl) (by rfl) T.n_dict (by decide +kernel) (pa_cons (pv 3) pa_nil)) (nomark _)) (pw_or1 (pt_cmpR (op_eqV T.m_Map__eq T.i_Map__eq (ok_eqV T) (hr.mono (by decide)) pass0) (pv 0) (pe_callB (call_reprO gd T.m_Map__repr T.i_Map__repr (ok_repr T) (hr.mono (by decide)) pass0) (by rfl) T.n_repr (by decide +kernel) (pa_cons (pv 0) pa_nil)) (nomark _)))))))
        (pss_one (ps_ret pe_bl)) pss_nil)
      (pss_cons (ps_set (i := 5) sc_l_shown.nd rfl (Or.inl rfl) (pe_makeR T.M_Map (ok_init T) (hr.mono (by decide)) rfl T.g_Map pass0 (pa_cons (pv 1) (pa_cons (pe_callTy (call_dictP rfl) (by rfl) T.n_dict (by decide +kernel) (pa_cons (pe_slice sl_list (pv 3) (po_some pe_int) po_none) pa_nil)) pa_nil))))
      (pss_one (ps_ret (pe_and (pe_cmpR op_eq (pe_cmpR (op_eqV T.m_Map__eq T.i_Map__eq (ok_eqV T) (hr.mono (by decide)) pass0) (pv 0) (pv 5) (nomark _)) (pe_cmpR (L2.op_eqD hr.units) (pv 3) (pe_lst pa_nil) (nomark _)) (nomark _)) (pe_one (pe_or (pe_cmpR op_eq (pv 1) pe_int (nomark _)) (pe_one (pe_cmpR (op_neV T.o_Map T.ne_Map T.m_Map__eq T.i_Map__eq (ok_eqV T) (hr.mono (by decide)) pass0) (pv 0) (pe_makeR T.M_Map (ok_init T) (hr.mono (by decide)) rfl T.g_Map pass0 (pa_cons (pe_op op_add (pv 1) pe_int) (pa_cons (pe_callTy (call_dictP rfl) (by rfl) T.n_dict (by decide +kernel) (pa_cons (pv 3) pa_nil)) pa_nil))) (nomark _))))))))))))))), ?_⟩
    have h8 := hm.lo
    have h9 := hm.hi
    have wf := hm.wf
    have dt := di_tab wf
    have tl := tab_len n f
    refine nx_seq (asg_of (lc_rows (i := 6) rfl (by omega) h9 hd di (by show 6 < 7; decide) rfl (by decide) (fun _ => rfl) fun L H1 n_L hL s_H1 => ?_))
    have hm1 := hm.same s_H1
    obtain ⟨ts, e_L, pr⟩ := id hL
    refine size_R (K := K) rfl hm1 ⟨_, rfl, rfl, _, rfl, ?_⟩
    rw [show decide (V.int n = V.int n) = true from decide_eq_true rfl]
    refine iteF ?_
    obtain ⟨dx, fs, em⟩ := at_map hm1
    refine ⟨_, rfl, m, dx, fs, rfl, em, m, n, f, rfl, hm1, ?_⟩
    refine fun a1 n_a1 => ?_
    generalize g_a1 : L2.upd _ a1 _ = H2
    obtain ⟨s_H2, e_a1⟩ := U.upd_facts g_a1 n_a1
    clear g_a1
    refine ⟨a1, _, rfl, .inl e_a1, fun H3 a2 ts2 s_H3 n_a2 n_ts p_ts e_a2 pr2 => ?_⟩
    have s13 : Same H1 H3 := s_H2.trans s_H3
    have sh := shaped_pairs (tab n f)
    refine ⟨_, rfl, .list _, .list _, .lst (SqL.of e_a2) (dp_pairs pr2), rows_dp (hL.same s13), sh, sh, _, rfl, ?_⟩
    rw [SeqAt.eqv_refl _ (SeqAt.canLay_of_shaped sh)]
    refine iteF ?_
    have hm3 := hm1.same s13
    have hL3 := hL.same s13
    refine lenV rfl hm3 ⟨_, rfl, L, _, rfl, .inl (SqL.of (s13 _ _ e_L)), rfl, _, rfl, ?_⟩
    have le : (ts.map V.ref).length = (tab n f).length := by rw [List.length_map, prd_len pr, kvI_length]
    rw [le]
    rw [show decide (V.int (lenF n f) = V.int ((tab n f).length : Nat)) = true from decide_eq_true rfl]
    refine iteF ?_
    dsimp only [tNext]
    obtain ⟨dx3, fs3, em3⟩ := at_map hm3
    refine ⟨_, rfl, m, dx3, fs3, rfl, em3, m, n, f, rfl, hm3, _, rfl, ?_⟩
    refine ⟨_, rfl, Nat.zero_le _, ?_⟩
    refine fun a3 n_a3 => ?_
    generalize g_a3 : L2.upd _ a3 _ = H4
    obtain ⟨s_H4, e_a3⟩ := U.upd_facts g_a3 n_a3
    clear g_a3
    have hL4 := hL3.same s_H4
    have hm4 := hm3.same s_H4
    refine ⟨.list ((tab n f).map dPair), .list [], rows_dp hL4, .lst (SqL.of e_a3) .nil, sh, rfl, rfl, _, rfl, ?_⟩
    have ee : PyData.eqv (.list ((tab n f).map dPair)) (.list []) = (tab n f).isEmpty := by cases tab n f <;> rfl
    rw [ee, show decide (V.bl (!(tab n f).isEmpty) = V.bl (!(tab n f).isEmpty)) = true from decide_eq_true rfl]
    refine iteF ?_
    obtain ⟨dx4, fs4, em4⟩ := at_map hm4
    have nsm : small n := by unfold small; omega
    have hs := tab_small wf h9
    have l1 := small_len nsm
    have l2 := dI_len hs (by omega)
    have big : 50000 ≤ sizeLine := by decide
    refine ⟨_, rfl, m, dx4, fs4, rfl, em4, m, n, f, rfl, hm4, fun hz => ⟨_, rfl, ?_⟩⟩
    have f1 : (Str.ofString "Map(").length = 4 := rfl
    have f2 : (Str.ofString "Map(" ++ Str.ofString (toString n)).length = 4 + (Str.ofString (toString n)).length := by rw [strLen_append, f1]
    have f3 : (Str.ofString "Map(" ++ Str.ofString (toString n) ++ Str.ofString ", ").length = 4 + (Str.ofString (toString n)).length + 2 := by rw [strLen_append, f2]; rfl
    have f4 : (Str.ofString "Map(" ++ Str.ofString (toString n) ++ Str.ofString ", " ++ (dI (tab n f)).shown).length = 4 + (Str.ofString (toString n)).length + 2 + (dI (tab n f)).shown.length := by rw [strLen_append, f3]
    refine ⟨_, rfl, n, rfl, small_log nsm, _, _, rfl, rfl, by rw [f1]; omega, ?_⟩
    refine ⟨_, _, rfl, rfl, by rw [f2]; show _ + 2 ≤ _; omega, ?_⟩
    obtain ⟨ts4, e_L4, pr4⟩ := id hL4
    refine ⟨_, rfl, L, ts4, kvI (tab n f), rfl, SqL.of e_L4, prd_sq pr4, ?_⟩
    rw [merge_nil dt.nd]
    refine fun a4 n_a4 => ?_
    generalize g_a4 : L2.upd _ a4 _ = H5
    obtain ⟨s_H5, e_a4⟩ := U.upd_facts g_a4 n_a4
    clear g_a4
    refine ⟨a4, _, _, rfl, e_a4, dI_sc _, dI_able hs, dI_depth _, Nat.le_trans l2 (by omega), ?_⟩
    rw [show (flatD (kvI (tab n f)) ((tab n f).map fun p => PyData.int p.2)) = dI (tab n f) from rfl]
    refine ⟨_, _, rfl, rfl, by rw [f3]; omega, ?_⟩
    refine ⟨_, _, rfl, rfl, by rw [f4]; show _ + 1 ≤ _; omega, ?_⟩
    have er : reprM n (tab n f) = Str.ofString "Map(" ++ Str.ofString (toString n) ++ Str.ofString ", " ++ (dI (tab n f)).shown ++ Str.ofString ")" := by
      unfold reprM
      rw [PySem.Str.empty_append]
    refine ⟨rfl, _, rfl, ?_⟩
    rw [show decide (V.str (reprM n (tab n f)) = V.str (Str.ofString "Map(" ++ Str.ofString (toString n) ++ Str.ofString ", " ++ (dI (tab n f)).shown ++ Str.ofString ")")) = true from decide_eq_true (by rw [er])]
    refine iteF ?_
    dsimp only [tNext]
    have hm5 := hm4.same s_H5
    have hL5 := hL4.same s_H5
    obtain ⟨dx5, fs5, em5⟩ := at_map hm5
    refine ⟨_, rfl, m, dx5, fs5, rfl, em5, m, n, f, rfl, hm5, ?_⟩
    refine fun c1 n_c1 => ⟨.inr (.inr (.inl ⟨rfl, .inl ⟨_, upd_same⟩⟩)), c1, _, rfl, rfl, upd_same, ?_⟩
    have s56 : Same H5 (upd (upd H5 c1 (.dK (kvI (tab n f)))) c1 (.dK [])) := Same.put (Same.new n_c1) n_c1
    generalize upd (upd H5 c1 (.dK (kvI (tab n f)))) c1 (.dK []) = H6 at s56 ⊢
    have hm6 := hm5.same s56
    have hL6 := hL5.same s56
    obtain ⟨ts6, e_L6, pr6⟩ := id hL6
    dsimp only
    refine ⟨_, rfl, _, rfl, L, _, rfl, SqL.of e_L6, ?_⟩
    refine fun b1 n_b1 => ?_
    generalize g_b1 : L2.upd _ b1 _ = H7
    obtain ⟨s_H7, e_b1⟩ := U.upd_facts g_b1 n_b1
    clear g_b1
    have dr : DI (tab n f).reverse f := di_perm dt (List.reverse_perm _)
    have kr : (kvI (tab n f)).reverse = kvI (tab n f).reverse := by unfold kvI; rw [List.map_reverse]
    have pr7 := prd_rev (prd_same s_H7 pr6)
    rw [kr] at pr7
    refine ⟨b1, ts6.reverse, kvI (tab n f).reverse, rfl, SqL.of (by rw [e_b1, List.map_reverse]), prd_sq pr7, ?_⟩
    rw [merge_nil dr.nd]
    refine fun b2 n_b2 => ?_
    generalize g_b2 : L2.upd _ b2 _ = H8
    obtain ⟨s_H8, e_b2⟩ := U.upd_facts g_b2 n_b2
    clear g_b2
    refine fun x dx nx ndx ne => init_of e_b2 dr wf h8 h9 (by rw [List.length_reverse]; omega) nx ndx ne fun H9 s9 ho => ⟨rfl, ?_⟩
    have s69 : Same H6 H9 := (s_H7.trans s_H8).trans s9
    have hm9 := hm6.same s69
    have hL9 := hL6.same s69
    dsimp only
    refine ⟨_, rfl, _, rfl, neM (T := T) hm9 ho ⟨_, rfl, ?_⟩⟩
    rw [eqB_self wf]
    refine iteF ?_
    refine ⟨_, rfl, _, rfl, eqM (T := T) hm9 ho ⟨_, rfl, ?_⟩⟩
    rw [eqB_self wf]
    refine iteF ?_
    obtain ⟨ts9, e_L9, pr9⟩ := id hL9
    refine ⟨_, rfl, _, rfl, L, ts9, kvI (tab n f), rfl, SqL.of e_L9, prd_sq pr9, ?_⟩
    rw [merge_nil dt.nd]
    refine fun b3 n_b3 => ?_
    generalize g_b3 : L2.upd _ b3 _ = Ha
    obtain ⟨s_Ha, e_b3⟩ := U.upd_facts g_b3 n_b3
    clear g_b3
    have hma := hm9.same s_Ha
    obtain ⟨dxa, fsa, ema⟩ := at_map hma
    refine ⟨m, dxa, fsa, _, rfl, ema, .base (.dK e_b3), T.nf_dict_Map, m, _, rfl, .inr ⟨.inr (.inr ⟨_, e_b3⟩), _, rfl, ?_⟩⟩
    refine iteF ?_
    refine ⟨_, rfl, _, rfl, m, dxa, fsa, rfl, ema, m, n, f, rfl, hma, fun hz => ⟨_, rfl, ?_⟩⟩
    refine ⟨m, dxa, fsa, _, rfl, ema, .base (.str _), T.nf_str_Map, m, _, rfl, .inr ⟨trivial, _, rfl, ?_⟩⟩
    refine iteF ?_
    dsimp only [tNext]
    have hLa := hL9.same s_Ha
    obtain ⟨tsa, e_La, pra⟩ := id hLa
    refine ⟨_, rfl, _, rfl, _, rfl, L, _, rfl, SqL.of e_La, ?_⟩
    refine fun b4 n_b4 => ?_
    generalize g_b4 : L2.upd _ b4 _ = Hb
    obtain ⟨s_Hb, e_b4⟩ := U.upd_facts g_b4 n_b4
    clear g_b4
    have ct : cutV (tsa.map V.ref) (some 1) none = tsa.tail.map V.ref := by
      cases tsa with
      | nil => rfl
      | cons a r => rw [List.map_cons]; exact (cut1 _ _).1
    rw [ct] at e_b4
    have sl : (tab n f).tail.Sublist (tab n f) := List.tail_sublist _
    have dl := di_sub dt sl
    have wl := wf_subl dt wf sl
    have kt : (kvI (tab n f)).tail = kvI (tab n f).tail := by cases tab n f <;> rfl
    have prb := prd_tail (prd_same s_Hb pra)
    rw [kt] at prb
    refine ⟨b4, tsa.tail, kvI (tab n f).tail, rfl, SqL.of e_b4, prd_sq prb, ?_⟩
    rw [merge_nil dl.nd]
    refine fun b5 n_b5 => ?_
    generalize g_b5 : L2.upd _ b5 _ = Hc
    obtain ⟨s_Hc, e_b5⟩ := U.upd_facts g_b5 n_b5
    clear g_b5
    refine fun y dy ny ndy ney => init_of e_b5 dl wl h8 h9 (by rw [List.length_tail]; omega) ny ndy ney fun Hd sd hy => ⟨rfl, ?_⟩
    have sad : Same Ha Hd := (s_Hb.trans s_Hc).trans sd
    have hmd := hma.same sad
    have hLd := hLa.same sad
    have s0d : Same H Hd := ((((s_H1.trans s13).trans (s_H4.trans s_H5)).trans s56).trans s69).trans (s_Ha.trans sad)
    refine ⟨_, rfl, _, rfl, eqM (T := T) hmd hy ?_⟩
    refine ⟨_, rfl, Nat.zero_le _, ?_⟩
    refine fun b6 n_b6 => ?_
    generalize g_b6 : L2.upd _ b6 _ = He
    obtain ⟨s_He, e_b6⟩ := U.upd_facts g_b6 n_b6
    clear g_b6
    refine ⟨.list ((tab n f).map dPair), .list [], rows_dp (hLd.same s_He), .lst (SqL.of e_b6) .nil, sh, rfl, ?_⟩
    have el : eqB n f n (lk (tab n f).tail) = (tab n f).isEmpty := by
      have dlt := di_tab wl
      have hl2 := di_len dlt dl
      unfold eqB dEq
      rw [decide_eq_true rfl, Bool.true_and, kvI_length, kvI_length]
      cases e : tab n f with
      | nil =>
        rw [e] at hl2
        have : tab n (lk ([] : List (Int × Int)).tail) = [] := List.eq_nil_of_length_eq_zero hl2
        rw [this]
        rfl
      | cons p r =>
        rw [e] at hl2
        rw [hl2]
        show ((r.length + 1) == r.length && _) = false
        have : ((r.length + 1) == r.length) = false := by
          rw [beq_eq_false_iff_ne]
          omega
        rw [this, Bool.false_and]
    rw [ee, el]
    refine ⟨rfl, _, rfl, ?_⟩
    rw [show decide (V.bl (tab n f).isEmpty = V.bl (tab n f).isEmpty) = true from decide_eq_true rfl]
    refine iteT ⟨_, rfl, rfl, _, rfl, ifD (fun _ => q _ (s0d.trans s_He)) (fun h => ?_)⟩
    have hn : n ≠ 300 := fun z => h (by rw [z])
    have hme := hmd.same s_He
    have hLe := hLd.same s_He
    obtain ⟨tse, e_Le, pre⟩ := id hLe
    refine ⟨_, rfl, _, rfl, _, _, rfl, rfl, _, rfl, L, tse, kvI (tab n f), rfl, SqL.of e_Le, prd_sq pre, ?_⟩
    rw [merge_nil dt.nd]
    refine fun b7 n_b7 => ?_
    generalize g_b7 : L2.upd _ b7 _ = Hf
    obtain ⟨s_Hf, e_b7⟩ := U.upd_facts g_b7 n_b7
    clear g_b7
    have wf1 : WF (n + 1) f := ⟨fun x y h => by have := wf.dom x y h; omega, wf.inj⟩
    refine fun z dz nz ndz nez => init_of (n := n + 1) e_b7 dt wf1 (by omega) (by omega) (by omega) nz ndz nez fun Hg sg hz => ⟨rfl, ?_⟩
    have s0g : Same H Hg := (s0d.trans s_He).trans (s_Hf.trans sg)
    refine neM (T := T) (hme.same (s_Hf.trans sg)) hz ?_
    have en : eqB n f (n + 1) f = false := by
      unfold eqB
      rw [decide_eq_false (by omega), Bool.false_and]
    rw [en]
    exact q _ s0g
end
end My
set_option maxHeartbeats 2000000
namespace My
open PySem L2 U StX PM
/-! ### the law -/
/-- [(k, g k) for k in range(N)] -/
theorem lc_grid {i : Nat} {tv : TE} {vs : List Nat} {σ : L2.St} {H : Hp} {Q : VK} {N : Nat} (g : Nat → Int) (h9 : N ≤ 1000) (hi : i < (wipe σ vs).length) (hw : ∀ a, wipe ((wipe σ vs).set i a) vs = wipe σ vs)
    (hv : ∀ (k : Nat) (H1 : Hp) (R : VK), R (.int (g k)) H1 → tv ((wipe σ vs).set i (some (.int (k : Nat)))) H1 R)
    (hq : ∀ D H', H D = none → RowsA H' D ((List.range N).map fun (k : Nat) => ((k : Int), g k)) → Same H H' → Q (.ref D) H') :
    tLc (iRng1 (tCons (tC (.int (N : Nat))) tNil)) (gName i) tYes (tTup (tCons (tVar i) (tCons tv tNil))) vs σ H Q := by
  refine ⟨_, rfl, by omega, by omega, fun D hD => ?_⟩
  refine lc_it (walk_range (lo := 0) (n := N)) (fun k H' => Same H H' ∧ ∃ ts : List Addr, H' D = some (.lst (ts.map V.ref)) ∧ ts.length = k ∧ (∀ t ∈ ts, t ≠ D) ∧ Paired (fun (t : Addr) (q : Key × V) => H' t = some (.tup [kV q.1, q.2])) ts (kvI ((List.range k).map fun (k : Nat) => ((k : Int), g k)))) ⟨Same.new hD, [], upd_same, rfl, (fun _ z => by cases z), .nil⟩ (fun _ _ _ _ => trivial) ?_ ?_
  · rintro k v H' H'' hk ⟨s1, ts, e1, hl, ht, pr⟩ ⟨rfl, ev⟩
    have ev' : v = .int (k : Nat) := by
      rw [ev]
      show V.int (0 + (k : Int)) = _
      rw [Int.zero_add]
    subst ev'
    refine ⟨hw _, yes_ ?_⟩
    refine ⟨_, List.getElem?_set_self hi, hv k _ _ ⟨two_le, fun q nq => ?_⟩⟩
    have nqD : q ≠ D := (ne_of_none e1 nq).symm
    have s2 := Same.new (o := .tup [.int (k : Nat), .int (g k)]) nq
    refine ⟨_, s2 _ _ e1, by rw [List.length_map, hl]; exact lt_line (by omega), Same.put (s1.trans s2) hD, ts ++ [q], ?_, by rw [List.length_append, hl]; rfl, ?_, ?_⟩
    · rw [upd_same, List.map_append]; rfl
    · intro t h
      rcases List.mem_append.mp h with h | h
      · exact ht t h
      · rw [List.mem_singleton.mp h]; exact nqD
    · have : kvI ((List.range (k + 1)).map fun (k : Nat) => ((k : Int), g k)) = kvI ((List.range k).map fun (k : Nat) => ((k : Int), g k)) ++ [(Sum.inl (k : Int), V.int (g k))] := by
        rw [List.range_succ, List.map_append]
        unfold kvI
        rw [List.map_append]
        rfl
      rw [this]
      have keep : ∀ {us : List Addr} {ls : List (Key × V)}, (∀ t ∈ us, t ≠ D) → Paired (fun (t : Addr) (q : Key × V) => H'' t = some (.tup [kV q.1, q.2])) us ls → Paired (fun (t : Addr) (z : Key × V) => upd (upd H'' q (.tup [.int (k : Nat), .int (g k)])) D (.lst (ts.map V.ref ++ [V.ref q])) t = some (.tup [kV z.1, z.2])) us ls := fun {us} => by
        induction us with
        | nil => intro ls _ h; cases h; exact .nil
        | cons u us ih =>
          intro ls hu h
          cases h with
          | cons a r => exact .cons (by rw [upd_ne (hu u List.mem_cons_self), upd_ne (ne_of_none a nq)]; exact a) (ih (fun t ht => hu t (List.mem_cons_of_mem _ ht)) r)
      refine prd_app (keep ht pr) (.cons ?_ .nil)
      rw [upd_ne nqD, upd_same]
      rfl
  · rintro H' ⟨s1, ts, e1, hl, ht, pr⟩
    exact hq D H' hD ⟨ts, e1, pr⟩ s1
def whole : List (Int × Int) := (List.range 300).map fun (k : Nat) => ((k : Int), 299 - (k : Int))
theorem whole_nd : (whole.map (·.1)).Nodup := by decide +kernel
theorem whole_wf : WF 300 (lk whole) := by
  have key : ∀ x y, lk whole x = some y → 0 ≤ x ∧ x < 300 ∧ y = 299 - x := fun x y h => by
    have hm : (x, y) ∈ whole := lk_mem h
    unfold whole at hm
    obtain ⟨k, hk, e⟩ := List.mem_map.mp hm
    have := List.mem_range.mp hk
    have e1 := congrArg Prod.fst e
    have e2 := congrArg Prod.snd e
    dsimp only at e1 e2
    omega
  refine ⟨fun x y h => ?_, fun x x' y h h' => ?_⟩
  · have := key x y h; omega
  · have := key x y h
    have := key x' y h'
    omega
theorem whole_len : whole.length = 300 := by
  unfold whole
  rw [List.length_map, List.length_range]
theorem cb_of {r : List V → Hp → VK → Prop} {t : TE} {σ : L2.St} {H : Hp} {Q : VK} (h : t σ H fun x H1 => r [x] H1 Q) : tCB r (tCons t tNil) σ H Q := h
theorem op_of {r : R2} {ta tb : TE} {σ : L2.St} {H : Hp} {Q : VK} (h : ta σ H fun x H1 => tb σ H1 fun y H2 => r x y H2 Q) : tOp r ta tb σ H Q := h
theorem Bad.mut {H : Hp} {n : Int} {v : V} {D : Addr} {ys zs : List V} (h : Bad H n v) (e : H D = some (.lst ys)) : Bad (upd H D (.lst zs)) n v := by
  have nl : ∀ {b : Addr} {o : HO}, H b = some o → (∀ xs, o ≠ .lst xs) → b ≠ D := fun e' no z => by rw [z, e] at e'; exact no _ (Option.some.inj e').symm
  have ok : ∀ {x : V}, okV H x → okV (upd H D (.lst zs)) x := fun {x} h => by
    cases x <;> first | exact h | exact h.elim | skip
    obtain ⟨ys, e⟩ := h
    exact ⟨ys, by rw [upd_ne (nl e fun _ z => by cases z)]; exact e⟩
  cases h with
  | dk e' b =>
    obtain ⟨l, kv, post, a1, a2, a3, a4, a5⟩ := b
    exact .dk (by rw [upd_ne (nl e' fun _ z => by cases z)]; exact e') ⟨l, kv, post, a1, a2, a3, ok a4, a5⟩
  | dup e' a b c => exact .dup (by rw [upd_ne (nl e' fun _ z => by cases z)]; exact e') a b c
  | rw e' a b =>
    obtain ⟨ep, e'⟩ := e'
    exact .rw ⟨ep, by rw [upd_ne (nl e' fun _ z => by cases z)]; exact e'⟩ (ok a) b
  | non e' =>
    refine .non ?_
    cases v <;> first | exact e' | exact e'.elim | skip
    rename_i b
    by_cases hb : b = D
    · rw [hb]; exact .inl ⟨zs, upd_same⟩
    · rcases e' with ⟨xs, e'⟩ | ⟨xs, e'⟩
      · exact .inl ⟨xs, by rw [upd_ne hb]; exact e'⟩
      · exact .inr ⟨xs, by rw [upd_ne hb]; exact e'⟩
theorem st_is {X : L2.St → Hp → Prop} {σ σ' : L2.St} {H : Hp} (e : σ = σ') (h : X σ' H) : X σ H := by rw [e]; exact h
/-- Map(n, d): what is new alone makes the map -/
theorem init_new {C : Addr} {H : Hp} {d : Addr} {n : Int} {l : List (Int × Int)} {f : PF} {R : VK} {E : XK} {x dx : Addr} (hd : H d = some (.dK (kvI l))) (di : DI l f) (wf : WF n f) (h1 : 1 ≤ n) (h3 : n ≤ 300) (hl : l.length ≤ 1000)
    (hx : H x = none) (hdx : H dx = none) (ne : dx ≠ x) (q : ∀ H', Same H H' → (∀ H'', (∀ b o, H b = none → H' b = some o → H'' b = some o) → IsMap C H'' x n f) → R .non H') :
    spInit C [.ref x, .int n, .ref d] (upd (upd H dx (.own x)) x (.ins C dx [])) R E := by
  have s0 : Same H (upd (upd H dx (.own x)) x (.ins C dx [])) := fun b o e => by
    rw [upd_ne (ne_of_none e hx), upd_ne (ne_of_none e hdx)]
    exact e
  refine ⟨x, dx, d, n, l, f, rfl, upd_same, s0 _ _ hd, di, wf, h1, h3, hl, fun H' D o nD hp hD => ?_⟩
  have nH : H D = none := by
    cases e : H D with
    | none => rfl
    | some u => rw [s0 _ _ e] at nD; cases nD
  exact q H' (fun b u e => o b u (ne_of_none e hx) (s0 b u e)) fun H'' k => ⟨⟨dx, D, k _ _ hx hp, k _ _ nH hD⟩, wf, h1, h3⟩
/-- [_law_bent(..) for turn in range(5)] -/
theorem lc_bent {K : PySem.W.Frag} {i : Nat} {vs : List Nat} {σ : L2.St} {H : Hp} {Q : VK} {p d : Addr} {n : Int} {l : List (Int × Int)} {f : PF} (hp : PoolAt H p) (hd : H d = some (.dK (kvI l))) (di : DI l f) (wf : WF n f) (hl : l.length ≤ 300) (h1 : 1 ≤ n) (h3 : n ≤ 300)
    (hw : ∀ a, wipe ((wipe σ vs).set i a) vs = wipe σ vs) (hr : ∀ (x : V) (H1 : Hp) (R : List V → Hp → Prop), R [.ref p, .int n, .ref d] H1 → (tCons (tVar 3) (tCons (tVar 4) (tCons (tVar 5) tNil))) ((wipe σ vs).set i (some x)) H1 R)
    (hq : ∀ D us H', H D = none → H' D = some (.lst us) → us.length = 5 → (∀ v ∈ us, Bad H' n v) → PoolAt H' p → Off p H H' → Q (.ref D) H') :
    tLc (iRng1 (tCons (tC (.int 5)) tNil)) (gName i) tYes (tCallR (spBent K) E0 (tCons (tVar 3) (tCons (tVar 4) (tCons (tVar 5) tNil)))) vs σ H Q := by
  refine ⟨_, rfl, by omega, by omega, fun D hD => ?_⟩
  have nDp : D ≠ p := fun z => hp.ne hD z.symm
  have ndp : d ≠ p := fun z => by
    obtain ⟨xs, e⟩ := hp.lst
    rw [z, e] at hd
    cases hd
  refine lc_it (walk_range (lo := 0) (n := 5)) (fun k H' => Off p H H' ∧ PoolAt H' p ∧ ∃ us : List V, H' D = some (.lst us) ∧ us.length = k ∧ ∀ v ∈ us, Bad H' n v ∧ v ≠ .ref p) ⟨Off.new hD, hp.same (Same.new hD), [], upd_same, rfl, fun _ z => by cases z⟩ (fun _ _ _ _ => trivial) ?_ ?_
  · rintro k v H' H'' hk ⟨o1, pool, us, e1, hlu, hu⟩ ⟨rfl, ev⟩
    refine ⟨hw _, yes_ (hr _ _ _ ⟨p, d, n, l, f, rfl, pool, o1 _ _ ndp hd, di, wf, hl, h1, h3, fun u H3 hb hne pool3 o3 => ?_⟩)⟩
    have e3 := o3 _ _ nDp e1
    have o13 := o1.tr o3
    refine ⟨us, e3, by rw [hlu]; exact Nat.lt_of_lt_of_le hk (by show 5 ≤ sizeLine; decide), o13.mut hD, pool3.put nDp.symm, us ++ [u], upd_same, by rw [List.length_append, hlu]; rfl, fun v hv => ?_⟩
    rcases List.mem_append.mp hv with hv | hv
    · obtain ⟨b1, b2⟩ := hu v hv
      exact ⟨(b1.off pool b2 o3).mut e3, b2⟩
    · rw [List.mem_singleton.mp hv]
      exact ⟨hb.mut e3, hne⟩
  · rintro H' ⟨o1, pool, us, e1, hlu, hu⟩
    exact hq D us H' hD e1 hlu (fun v hv => (hu v hv).1) pool o1
/-- what is told, equal -/
theorem told_eq {K : PySem.W.Frag} {H : Hp} {p t : Addr} {z : Str} {R : Bool → Hp → Prop} (h1 : H p = some (.lst [.str z, .bl true])) (h2 : H t = some (.lst [.str z, .bl true])) (sh : SeqAt.shaped (.list [.str z, .bool true]) = true) (r : R false H) : L2.rNeD K (.ref p) (.ref t) H fun x H' => ∃ k, x = .bl k ∧ R k H' := by
  refine ⟨.list [.str z, .bool true], .list [.str z, .bool true], .lst (SqL.of h1) (.cons (.str _) (.cons (.bl _) .nil)), .lst (SqL.of h2) (.cons (.str _) (.cons (.bl _) .nil)), sh, sh, _, rfl, ?_⟩
  rw [SeqAt.eqv_refl _ (SeqAt.canLay_of_shaped sh)]
  exact r
section
variable {P : Program} {w : World} {K : PySem.W.Frag} {mg : Str → Option Value} {base : Heap}
set_option pp.maxSteps 5000 in
theorem ok_law (T : Txt K mg) : FnG P w K mg base CX0 40 T.f_law (spLaw K) := by
  refine T.A_law.okG sc_law (fun vs H Q E h => ?_) (fun cdv A outer s H vs Q E gd hr h => ?_)
  · obtain ⟨a, ns, rfl, _⟩ := h
    rfl
  · obtain ⟨a, ns, rfl, hS, hl, q⟩ := h
    have hu := hu_of hr
    obtain ⟨_, h_MAX_SIZE⟩ := T.v_MAX_SIZE
    refine ⟨_, (pss_cons (ps_set (i := 1) sc_law.nd rfl (Or.inl rfl) (pe_callTy (call_dictP rfl) (by rfl) T.n_dict (by decide +kernel) (pa_cons (pe_lc (own := [("_law_number", 11)]) (g := (gName 11)) (tt := tYes) rfl sc_law.nd (pi_range1 rfl T.n_range (pa_cons pe_int pa_nil)) (blkOk_by (own := [("_law_number", 11)]) (N := n_law) (sc := defScope s_law) (by decide +kernel)) (fun _ _ _ _ _ => (pg_name (i := 11) sc_law.nd rfl (Or.inl rfl))) (fun _ _ _ _ _ => pts_nil) (fun _ _ _ _ _ => (pe_tup (pa_cons (pv 11) (pa_cons (pe_op op_sub pe_int (pv 11)) pa_nil))))) pa_nil)))
      (pss_cons (ps_if (PW.pt (pw_or (pt_cmpR op_ne (pe_glob (v := .int 300) rfl h_MAX_SIZE ⟨_, rfl⟩) pe_int (nomark _)) (pw_or1 (pt_not (pt_val (pe_callG (ok_shown T) gd (hr.mono (by decide)) T.A_l_shown.kp rfl T.g_l_shown pass0 (pa_cons (pe_makeR T.M_Map (ok_init T) (hr.mono (by decide)) rfl T.g_Map pass0 (pa_cons pe_int (pa_cons (pv 1) pa_nil))) (pa_cons pe_int (pa_cons (pv 1) pa_nil)))))))))
        (pss_one (ps_ret pe_bl)) pss_nil)
      (pss_cons (ps_for PassesOwn.never rfl (pi_range1 rfl T.n_range (pa_cons (pe_callB (call_max2 rfl) (by rfl) T.n_max (by decide +kernel) (pa_cons pe_int (pa_cons (pe_callB (call_min2 rfl) (by rfl) T.n_min (by decide +kernel) (pa_cons (pe_callB call_len_seq (by rfl) T.n_len (by decide +kernel) (pa_cons (pv 0) pa_nil)) (pa_cons pe_int pa_nil))) pa_nil))) pa_nil)) (pg_name (i := 2) sc_law.nd rfl (Or.inl rfl))
        (pss_cons (ps_set (i := 3) sc_law.nd rfl (Or.inr rfl) (pe_callR (ok_hand T) (hr.mono (by decide)) T.A_l_hand.kp rfl T.g_l_hand pass0 (pa_cons (pv 0) (pa_cons (pv 2) pa_nil))))
      (pss_cons (ps_set (i := 4) sc_law.nd rfl (Or.inr rfl) (pe_op op_add pe_int (pe_callR (ok_draw T) (hr.mono (by decide)) T.A_l_draw.kp rfl T.g_l_draw pass0 (pa_cons (pv 3) (pa_cons pe_int pa_nil)))))
      (pss_cons (ps_set (i := 5) sc_law.nd rfl (Or.inr rfl) (pe_callR (ok_l_arrows T) (hr.mono (by decide)) T.A_l_arrows.kp rfl T.g_l_arrows pass0 (pa_cons (pv 3) (pa_cons (pv 4) (pa_cons pe_int pa_nil)))))
      (pss_cons (ps_set (i := 6) sc_law.nd rfl (Or.inl rfl) (pe_ix ix_list (pe_lst (pa_cons pe_non (pa_cons pe_int (pa_cons pe_int (pa_cons pe_bl (pa_cons pe_str (pa_cons (pe_un un_neg pe_int) (pa_cons (pe_tup (pa_cons pe_int pa_nil)) (pa_cons (pe_op op_pow pe_int pe_int) pa_nil))))))))) (pe_callR (ok_draw T) (hr.mono (by decide)) T.A_l_draw.kp rfl T.g_l_draw pass0 (pa_cons (pv 3) (pa_cons pe_int pa_nil))) (fun _ _ => rfl)))
      (pss_cons (ps_if (PW.pt (pw_or (pt_cmpR (L2.op_neD hr.units) (pe_callR (ok_l_made (P := P) (w := w) T) (hr.mono (by decide)) T.A_l_made.kp rfl T.g_l_made pass0 (pa_cons (pv 6) (pa_cons (pv 5) pa_nil))) (pe_lst (pa_cons pe_str (pa_cons pe_bl pa_nil))) (nomark _)) (pw_or1 (pt_cmpR (L2.op_neD hr.units) (pe_callR (ok_l_made (P := P) (w := w) T) (hr.mono (by decide)) T.A_l_made.kp rfl T.g_l_made pass0 (pa_cons (pv 6) (pa_cons pe_non pa_nil))) (pe_lst (pa_cons pe_str (pa_cons pe_bl pa_nil))) (nomark _)))))
        (pss_one (ps_ret pe_bl)) pss_nil)
      (pss_cons (ps_for PassesOwn.never rfl (pi_list (pe_op op_cat (pe_lst (pa_cons (pv 5) pa_nil)) (pe_lc (own := [("_law_turn", 12)]) (g := (gName 12)) (tt := tYes) rfl sc_law.nd (pi_range1 rfl T.n_range (pa_cons pe_int pa_nil)) (blkOk_by (own := [("_law_turn", 12)]) (N := n_law) (sc := defScope s_law) (by decide +kernel)) (fun _ _ _ _ _ => (pg_name (i := 12) sc_law.nd rfl (Or.inl rfl))) (fun _ _ _ _ _ => pts_nil) (fun _ _ _ _ _ => (pe_callR (ok_bent T) (hr.mono (by decide)) T.A_l_bent.kp rfl T.g_l_bent pass0 (pa_cons (pv 3) (pa_cons (pv 4) (pa_cons (pv 5) pa_nil)))))))) (pg_name (i := 7) sc_law.nd rfl (Or.inl rfl))
        (pss_cons (ps_set (i := 8) sc_law.nd rfl (Or.inl rfl) (pe_callR (ok_l_made (P := P) (w := w) T) (hr.mono (by decide)) T.A_l_made.kp rfl T.g_l_made pass0 (pa_cons (pv 4) (pa_cons (pv 7) pa_nil))))
      (pss_one (ps_if (pt_not (pt_val (pe_callR (ok_good T) (hr.mono (by decide)) T.A_l_good.kp rfl T.g_l_good pass0 (pa_cons (pv 4) (pa_cons (pv 7) pa_nil)))))
        (pss_one (ps_if (pt_cmpR (L2.op_neD hr.units) (pv 8) (pe_lst (pa_cons pe_str (pa_cons pe_bl pa_nil))) (nomark _))
        (pss_one (ps_ret pe_bl)) pss_nil)) (pss_one (ps_if (PW.pt (pw_or (pt_cmpR op_ne (pe_ix ix_list (pv 8) pe_int (fun _ _ => rfl)) pe_str (nomark _)) (pw_or1 (pt_not (pt_val (pe_callG (ok_shown T) gd (hr.mono (by decide)) T.A_l_shown.kp rfl T.g_l_shown pass0 (pa_cons (pe_ix ix_list (pv 8) pe_int (fun _ _ => rfl)) (pa_cons (pv 4) (pa_cons (pv 7) pa_nil)))))))))
        (pss_one (ps_ret pe_bl)) pss_nil))))))
      (pss_cons (ps_set (i := 9) sc_law.nd rfl (Or.inl rfl) (pe_callTy call_dictD (by rfl) T.n_dict (by decide +kernel) (pa_cons (pv 5) pa_nil)))
      (pss_cons (ps_set (i := 10) sc_law.nd rfl (Or.inl rfl) (pe_makeR T.M_Map (ok_init T) (hr.mono (by decide)) rfl T.g_Map pass0 (pa_cons (pv 4) (pa_cons (pv 5) pa_nil))))
      (pss_cons (ps_expr (pe_dclear (pv 5)))
      (pss_one (ps_if (pt_not (pt_val (pe_callG (ok_shown T) gd (hr.mono (by decide)) T.A_l_shown.kp rfl T.g_l_shown pass0 (pa_cons (pv 10) (pa_cons (pv 4) (pa_cons (pv 9) pa_nil))))))
        (pss_one (ps_ret pe_bl)) pss_nil))))))))))))
      (pss_one (ps_ret pe_bl))))), ?_⟩
    refine nx_seq (asg_of (cb_of (lc_grid (N := 300) (fun k => 299 - (k : Int)) (by decide) (by show 11 < 13; decide) (fun _ => rfl) (fun k H1 R r => ⟨_, rfl, _, _, rfl, rfl, r⟩) fun L H1 n_L hL s_H1 => ?_)))
    obtain ⟨ts, e_L, pr⟩ := hL
    refine ⟨L, ts, kvI whole, rfl, SqL.of e_L, prd_sq pr, ?_⟩
    rw [merge_nil whole_nd]
    refine fun W n_W => ?_
    generalize g_W : L2.upd _ W _ = H2
    obtain ⟨s_H2, e_W⟩ := U.upd_facts g_W n_W
    clear g_W
    have dW : DI whole (lk whole) := ⟨whole_nd, fun _ => rfl⟩
    refine ⟨rfl, _, rfl, ?_⟩
    rw [show (!decide (V.int 300 = V.int 300)) = false from rfl]
    refine iteF ?_
    refine ⟨_, rfl, fun x dx nx ndx ne => init_of e_W dW whole_wf (by decide) (by decide) (by rw [whole_len]; decide) nx ndx ne fun H3 s3 hmW => ⟨rfl, ?_⟩⟩
    refine ⟨_, rfl, x, W, 300, whole, _, rfl, hmW, s3 _ _ e_W, dW, by rw [whole_len]; decide, fun H4 s4 => ⟨_, rfl, iteF ?_⟩⟩
    have s04 : Same H H4 := ((s_H1.trans s_H2).trans s3).trans s4
    clear s_H1 s_H2 e_L pr e_W n_W n_L hmW
    dsimp only [tNext]
    refine ⟨_, rfl, a, _, rfl, .inl (SqL.same hS s04), _, _, rfl, _, _, rfl, _, rfl, ?_, ?_, ?_⟩
    · rw [List.length_map]; (repeat' split) <;> omega
    · rw [List.length_map]; (repeat' split) <;> omega
    refine for_it (walk_range (lo := 0)) (fun i σ H' => ∃ v2 v3 v4 v5 v6 v7 v8 v9 v10 v11 v12, σ = [some (.ref a), some (.ref W), v2, v3, v4, v5, v6, v7, v8, v9, v10, v11, v12] ∧ Same H H')
      ⟨_, _, _, _, _, _, _, _, _, _, _, rfl, s04⟩ (fun _ _ _ _ _ => trivial) ?_ ?_
    · rintro k v σ H' Hx hk ⟨v2, v3, v4, v5, v6, v7, v8, v9, v10, v11, v12, rfl, p1⟩ ⟨rfl, rfl⟩
      refine ⟨_, rfl, _, rfl, a, ns, _, rfl, SqL.same hS p1, hl, fun p H5 px py np hp s5 hx hy hy2 => ?_⟩
      have p0 : H p = none := p1.free np
      have pool5 : PoolAt H5 p := ⟨px, py, hp, hx, hy, hy2⟩
      have s05 : Same H H5 := p1.trans s5
      refine draw_R rfl (fun R r => r) pool5 (by decide) (by decide) fun r H6 r0 r9 pool6 o6 => ⟨_, _, rfl, rfl, ?_⟩
      obtain ⟨n, en⟩ : ∃ n : Int, n = 1 + r := ⟨_, rfl⟩
      have n1 : 1 ≤ n := by omega
      have n8 : n ≤ 8 := by omega
      have s06 : Same H H6 := Same.off s05 o6 p0
      refine ⟨_, rfl, _, rfl, p, 1 + r, 3, rfl, pool6, by omega, by omega, fun d H7 l nd hd di wf hll pool7 o7 => ?_⟩
      rw [← en] at wf
      dsimp only [gName]
      refine st_is (σ' := [some (.ref a), some (.ref W), some (.int (0 + (k : Nat))), some (.ref p), some (.int n), some (.ref d), v6, v7, v8, v9, v10, v11, v12]) (by rw [en]; rfl) ?_
      have ndp : d ≠ p := fun z => by
        obtain ⟨xs, e⟩ := pool7.lst
        rw [z, e] at hd
        cases hd
      have nd0 : H d = none := s06.free nd
      have s07 : Same H H7 := Same.off s06 o7 p0
      clear s06 s05 o6 o7
      refine nx_seq (asg_of (op_of ⟨_, rfl, one_le, ?_⟩))
      refine fun t1 n_t1 => ?_
      generalize g_t1 : L2.upd _ t1 _ = H8
      obtain ⟨s_H8, e_t1⟩ := U.upd_facts g_t1 n_t1
      clear g_t1
      refine ⟨_, _, rfl, rfl, ⟨by decide, by decide, by decide⟩, (by show 8 ≤ sizeLine; decide), ?_⟩
      refine fun t2 n_t2 => ?_
      generalize g_t2 : L2.upd _ t2 _ = H9
      obtain ⟨s_H9, e_t2⟩ := U.upd_facts g_t2 n_t2
      clear g_t2
      have pool9 : PoolAt H9 p := pool7.same (by array_mem_dec)
      refine draw_R rfl (fun R r => r) pool9 (by decide) (by decide) fun r2 Ha z0 z9 poola o9 => ?_
      have m1 : t1 ≠ p := fun z => pool7.ne n_t1 z.symm
      have m2 : t2 ≠ p := fun z => (pool7.same s_H8).ne n_t2 z.symm
      have k1 : Ha t1 = some (.tup [.int 3]) := o9 _ _ m1 (by array_get_dec)
      obtain ⟨j, rfl⟩ : ∃ j : Nat, r2 = j := ⟨r2.toNat, by omega⟩
      have hj : j < 8 := by omega
      have k2 := o9 _ _ m2 e_t2
      have key : ∃ v, ([V.non, .int 0, .int 301, .bl true, .str "3", .int (-1), .ref t1, .int (10 ^ (30 : Int).toNat)] : List V)[j]? = some v ∧ okV Ha v ∧ inR v 1 300 = false := by
        match j, hj with
        | 0, _ => exact ⟨_, rfl, trivial, rfl⟩
        | 1, _ => exact ⟨_, rfl, trivial, by decide⟩
        | 2, _ => exact ⟨_, rfl, trivial, by decide⟩
        | 3, _ => exact ⟨_, rfl, trivial, rfl⟩
        | 4, _ => exact ⟨_, rfl, trivial, rfl⟩
        | 5, _ => exact ⟨_, rfl, trivial, by decide⟩
        | 6, _ => exact ⟨_, rfl, ⟨_, k1⟩, rfl⟩
        | 7, _ => exact ⟨_, rfl, trivial, by decide⟩
      obtain ⟨v, ev, hv1, hv2⟩ := key
      refine ⟨t2, _, j, v, rfl, rfl, SqL.of k2, atI_nat ev, ?_⟩
      have hda : Ha d = some (.dK (kvI l)) := o9 _ _ ndp (by array_get_dec)
      have s0a : Same H Ha := Same.off ((s07.trans s_H8).trans s_H9) o9 p0
      clear k1 k2 e_t1 e_t2 s_H8 s_H9 n_t1 n_t2 s07 o9
      refine nx_seq ⟨_, rfl, _, rfl, v, .ref d, rfl, .inl ⟨hv1, hv2, fun q1 Hb sb eq1 => ⟨two_le, ?_⟩⟩⟩
      refine fun q2 n_q2 => ?_
      generalize g_q2 : L2.upd _ q2 _ = Hc
      obtain ⟨s_Hc, e_q2⟩ := U.upd_facts g_q2 n_q2
      clear g_q2
      refine told_eq (s_Hc _ _ eq1) e_q2 (by decide +kernel) (iteF ?_)
      have sac : Same Ha Hc := sb.trans s_Hc
      refine ⟨_, rfl, v, .non, rfl, .inl ⟨hv1.same sac, hv2, fun q3 Hd sd eq3 => ⟨two_le, ?_⟩⟩⟩
      refine fun q4 n_q4 => ?_
      generalize g_q4 : L2.upd _ q4 _ = He
      obtain ⟨s_He, e_q4⟩ := U.upd_facts g_q4 n_q4
      clear g_q4
      refine told_eq (s_He _ _ eq3) e_q4 (by decide +kernel) (iteF ?_)
      have sae : Same Ha He := (sac.trans sd).trans s_He
      have poole := poola.same sae
      have hde := sae _ _ hda
      have s0e := s0a.trans sae
      clear sac sb sd s_Hc s_He e_q2 e_q4 eq1 eq3 n_q2 n_q4
      dsimp only [tNext]
      refine nx_seq ⟨_, rfl, one_le, ?_⟩
      refine fun e1 n_e1 => ?_
      generalize g_e1 : L2.upd _ e1 _ = Hf
      obtain ⟨s_Hf, e_e1⟩ := U.upd_facts g_e1 n_e1
      clear g_e1
      have poolf := poole.same s_Hf
      have hdf := s_Hf _ _ hde
      have ne1 : e1 ≠ p := fun z => poole.ne n_e1 z.symm
      have ll8 : l.length ≤ 8 := by
        have := di_len di (di_tab wf)
        have := tab_len n (lk l)
        omega
      refine lc_bent poolf hdf di wf (by omega) n1 (by omega) (fun _ => rfl) (fun x H1 R r => ⟨_, rfl, _, rfl, _, rfl, r⟩) fun D us Hg nD eD hlu hbad poolg og => ?_
      have eg1 : Hg e1 = some (.lst [.ref d]) := og _ _ ne1 e_e1
      have hdg : Hg d = some (.dK (kvI l)) := og _ _ ndp hdf
      have s0g : Same H Hg := Same.off (s0e.trans s_Hf) og p0
      refine ⟨e1, D, _, _, rfl, rfl, eg1, eD, (by rw [hlu]; show 6 ≤ sizeLine; decide), ?_⟩
      refine fun u1 n_u1 => ?_
      generalize g_u1 : L2.upd _ u1 _ = Hh
      obtain ⟨s_Hh, e_u1⟩ := U.upd_facts g_u1 n_u1
      clear g_u1
      have e_u : Hh u1 = some (.lst (V.ref d :: us)) := e_u1
      have hbh : ∀ v ∈ us, Bad Hh n v := fun v hv => (hbad v hv).same s_Hh
      have hdh := s_Hh _ _ hdg
      have s0h := s0g.trans s_Hh
      clear e_u1 s_Hf e_e1 n_e1 s0e poole poolf hdf hde eg1 og eD hbad sae s0a poola hda
      refine ⟨u1, rfl, ⟨_, SqL.of e_u⟩, ?_⟩
      refine for_it (walk_list (xs := V.ref d :: us)) (fun i σ H' => ∃ w7 w8, σ = [some (.ref a), some (.ref W), some (.int (0 + (k : Nat))), some (.ref p), some (.int n), some (.ref d), some v, w7, w8, v9, v10, v11, v12] ∧ Same Hh H')
        ⟨_, _, rfl, Same.refl Hh⟩ (fun i σ H' _ ⟨_, _, _, z⟩ => SqL.of (z _ _ e_u)) ?_ ?_
      · rintro i z σ Hi0 Hi hi ⟨w7, w8, rfl, si⟩ ⟨rfl, ez⟩
        have hdi := si _ _ hdh
        have hz : z = .ref d ∨ Bad Hh n z := by
          rcases List.mem_cons.mp (List.mem_of_getElem? ez) with h | h
          · exact .inl h
          · exact .inr (hbh z h)
        rcases hz with rfl | hz
        · refine nx_seq ⟨_, rfl, _, rfl, .int n, .ref d, rfl, .inr (.inr ⟨n, d, l, _, rfl, rfl, hdi, di, wf, n1, by omega, hll, fun q1 m1 Hj sj eq1 hm => ?_⟩)⟩
          have hdj := sj _ _ hdi
          refine ⟨_, rfl, _, rfl, n, .ref d, rfl, .inl ⟨d, l, _, rfl, hdj, di, wf, hll, fun Hk sk => ⟨_, rfl, iteF ?_⟩⟩⟩
          have eq2 := sk _ _ eq1
          have hmk := hm.same sk
          refine ⟨_, rfl, q1, _, 0, _, rfl, rfl, SqL.of eq2, rfl, rfl, _, rfl, ?_⟩
          rw [show (!decide (V.str "made" = V.str "made")) = false from by rw [decide_eq_true rfl]; rfl]
          refine iteF ?_
          refine ⟨_, rfl, q1, _, 1, _, rfl, rfl, SqL.of eq2, rfl, _, rfl, _, rfl, m1, d, n, l, _, rfl, hmk, sk _ _ hdj, di, hll, fun Hl sl => ⟨_, rfl, iteF ?_⟩⟩
          exact ⟨_, _, rfl, ((si.trans sj).trans sk).trans sl⟩
        · have hzi := hz.same si
          refine nx_seq ⟨_, rfl, _, rfl, .int n, z, rfl, .inr (.inl ⟨n, rfl, n1, by omega, hzi, fun q1 Hj sj eq1 => ?_⟩)⟩
          refine ⟨_, rfl, _, rfl, n, z, rfl, .inr ⟨hzi.same sj, fun Hk sk => ⟨_, rfl, iteT ?_⟩⟩⟩
          refine ⟨_, rfl, two_le, ?_⟩
          refine fun q2 n_q2 => ?_
          generalize g_q2 : L2.upd _ q2 _ = Hl
          obtain ⟨s_Hl, e_q2⟩ := U.upd_facts g_q2 n_q2
          clear g_q2
          refine told_eq (s_Hl _ _ (sk _ _ eq1)) e_q2 (by decide +kernel) (iteF ?_)
          exact ⟨_, _, rfl, ((si.trans sj).trans sk).trans s_Hl⟩
      · rintro σ Hi ⟨w7, w8, rfl, si⟩
        have hdi := si _ _ hdh
        have s0i := s0h.trans si
        refine nx_seq ⟨_, rfl, d, _, rfl, .inl hdi, ?_⟩
        refine fun kp n_kp => ?_
        generalize g_kp : L2.upd _ kp _ = Hj
        obtain ⟨s_Hj, e_kp⟩ := U.upd_facts g_kp n_kp
        clear g_kp
        refine nx_seq ⟨_, rfl, _, rfl, fun y dy ny ndy ney => init_new (s_Hj _ _ hdi) di wf n1 (by omega) hll ny ndy ney fun Hk sk mk => ⟨rfl, ?_⟩⟩
        have hdk := sk _ _ (s_Hj _ _ hdi)
        refine nx_seq ⟨_, rfl, .inr (.inr (.inl ⟨rfl, .inl ⟨_, hdk⟩⟩)), d, _, rfl, rfl, hdk, ?_⟩
        have nkd : kp ≠ d := fun z => by rw [z, hdi] at n_kp; cases n_kp
        have e_kp2 : (upd Hk d (.dK [])) kp = some (.dK (kvI l)) := by rw [upd_ne nkd]; exact sk _ _ e_kp
        have hm2 : IsMap T.C_Map (upd Hk d (.dK [])) y n (lk l) := mk _ fun b o nb e => by
          have : b ≠ d := fun z => by rw [z, s_Hj _ _ hdi] at nb; cases nb
          rw [upd_ne this]
          exact e
        have s0l : Same H (upd Hk d (.dK [])) := Same.put ((s0i.trans s_Hj).trans sk) nd0
        refine ⟨_, rfl, _, rfl, _, rfl, y, kp, n, l, _, rfl, hm2, e_kp2, di, hll, fun Hl sl => ⟨_, rfl, iteF ?_⟩⟩
        exact ⟨_, _, _, _, _, _, _, _, _, _, _, rfl, s0l.trans sl⟩
    · rintro σ H' ⟨v2, v3, v4, v5, v6, v7, v8, v9, v10, v11, v12, rfl, p1⟩
      exact q H'
end
end My
namespace My
open PySem L2
theorem walk {l : PySem.W.OpenLaw} {q : Program} {loose : List Str} {XP : (Str → Option Value) → Heap → Prop} {YP : World → Heap → Prop} {d : DefRec} {K : Params → PySem.W.Frag} (hn : l.most = some 63) (hdf : d.params.defaults = []) (hnm : d.name = "law")
    (hY : ∀ (w : World) (h : Heap), YP w h → (K w.params).In h)
    (ok : ∀ (P : Program) (w : World) (K : PySem.W.Frag) (mg : Str → Option Value) (base : Heap) (T : Txt K mg), U.FnG P w K mg base CX0 40 T.f_law (spLaw K))
    (F : ∀ (w : World) (mg : Str → Option Value) (h : Heap), (K w.params).In h → h.Ns mainGlobals mg → Nonempty (Txt (K w.params) mg)) :
    PySem.W.WalkO q loose XP YP l.row.toRowW d [] (fun f vs => PySem.call f vs) := by
  refine U.walkG (n := 63) (k := 40) (sp := spLaw) hn (by decide) hdf ⟨rfl, by decide, by decide⟩ hY ?_ (fun K H a ns hl hS => ⟨a, ns, rfl, hS, hl, fun _ => rfl⟩)
  intro w mg fa h KX G hmg base
  obtain ⟨T⟩ := F w mg h KX G
  rw [hnm, T.g_law] at hmg
  cases hmg
  exact ok _ _ _ _ _ T
end My
local macro_rules | `(tactic| first | refine $t:term | fail $s:str) => do { let t2 ← t.raw.replaceM fun n => (do { if n.getKind == `Lean.Parser.Term.syntheticHole then { let nm := n[1].getId.eraseMacroScopes; if nm == `hl then { return some (Lean.mkIdent `My.hl) } else { return none } } else { return none } }); `(tactic| refine $(⟨t2⟩)) }
open PySem PySem.W PyProof.Rows
set_option maxRecDepth 100000 in
set_option maxHeartbeats 0 in
theorem PySem.Challenge.cw_chainmaps_k01_map_objects_holds : PySem.Challenge.rw_chainmaps_k01_map_objects.Holds := by
  w_on; o_law; k_headL; (case hw => w_witness2)
  k_fill
  refine My.walk (l := PySem.Challenge.rw_chainmaps_k01_map_objects) rfl rfl rfl (fun w h Y => PySem.W.kIn_of Y) (fun _ _ _ _ _ T => My.ok_law T) ?F
  case F =>
    intro w mg h KX G
    refine' My.mk_txt KX G ?a_is_integer ?l_is_integer ?c_is_integer ?k_is_integer ?a_in_range ?l_in_range ?c_in_range ?k_in_range ?a_are_arrows ?l_are_arrows ?c_are_arrows ?k_are_arrows ?a_l_hand ?l_l_hand ?c_l_hand ?k_l_hand ?a_l_draw ?l_l_draw ?c_l_draw ?k_l_draw ?a_l_arrows ?l_l_arrows ?c_l_arrows ?k_l_arrows ?a_l_made ?l_l_made ?c_l_made ?k_l_made ?a_l_bent ?l_l_bent ?c_l_bent ?k_l_bent ?a_l_good ?l_l_good ?c_l_good ?k_l_good ?a_l_shown ?l_l_shown ?c_l_shown ?k_l_shown ?a_law ?l_law ?c_law ?k_law ?a_Map ?pg_Map ?hd_Map ?po_Map ?sa_Map ?sf_Map ?ca_Map ?cn_Map ?ct_Map ?cm_Map ?kc_Map ?kit_int_Map ?kit_bool_Map ?kn_NoneType_Map ?nf_NoneType_Map ?kn_int_Map ?nf_int_Map ?kn_bool_Map ?nf_bool_Map ?kn_str_Map ?nf_str_Map ?kn_list_Map ?nf_list_Map ?kn_dict_Map ?nf_dict_Map ?kn_tuple_Map ?nf_tuple_Map ?self_Map ?na_own_size_Map ?na_own_arrows_Map ?ne_Map ?m_Map__init ?i_Map__init ?l_Map__init ?c_Map__init ?k_Map__init ?mk_Map ?m_Map_size ?s_get_Map_size ?tk_Map_size ?rc_Map_size ?l_Map_size ?c_Map_size ?k_Map_size ?m_Map_arrows ?s_get_Map_arrows ?tk_Map_arrows ?rc_Map_arrows ?l_Map_arrows ?c_Map_arrows ?k_Map_arrows ?m_Map__bool ?i_Map__bool ?l_Map__bool ?c_Map__bool ?k_Map__bool ?m_Map__len ?i_Map__len ?l_Map__len ?c_Map__len ?k_Map__len ?m_Map__eq ?i_Map__eq ?l_Map__eq ?c_Map__eq ?k_Map__eq ?m_Map__repr ?i_Map__repr ?l_Map__repr ?c_Map__repr ?k_Map__repr ?a_InvalidMap ?xl_InvalidMap ?sa_InvalidMap ?ex_InvalidMap ?ty_InvalidMap ?kc_InvalidMap ?hd_InvalidMap ?ga_InvalidMap ?gg_InvalidMap ?ss_InvalidMap ?ca_InvalidMap ?cn_InvalidMap ?ct_InvalidMap ?cm_InvalidMap ?kit_ValueError_InvalidMap ?na_part_InvalidMap ?m_InvalidMap__init ?ti_InvalidMap__init ?l_InvalidMap__init ?c_InvalidMap__init ?k_InvalidMap__init ?z_isinstance ?z_int ?z_bool ?z_dict ?z_len ?z_range ?z_list ?z_max ?z_min ?z_repr ?z_str ?z_set ?z_ValueError ?v_MAX_SIZE
    (case a_is_integer => as_aux_lemma => k_is)
    (case l_is_integer => as_aux_lemma => k_is)
    (case c_is_integer => as_aux_lemma => k_is)
    (case k_is_integer => as_aux_lemma => k_is)
    (case a_in_range => as_aux_lemma => k_is)
    (case l_in_range => as_aux_lemma => k_is)
    (case c_in_range => as_aux_lemma => k_is)
    (case k_in_range => as_aux_lemma => k_is)
    (case a_are_arrows => as_aux_lemma => k_is)
    (case l_are_arrows => as_aux_lemma => k_is)
    (case c_are_arrows => as_aux_lemma => k_is)
    (case k_are_arrows => as_aux_lemma => k_is)
    (case a_l_hand => as_aux_lemma => k_is)
    (case l_l_hand => as_aux_lemma => k_is)
    (case c_l_hand => as_aux_lemma => k_is)
    (case k_l_hand => as_aux_lemma => k_is)
    (case a_l_draw => as_aux_lemma => k_is)
    (case l_l_draw => as_aux_lemma => k_is)
    (case c_l_draw => as_aux_lemma => k_is)
    (case k_l_draw => as_aux_lemma => k_is)
    (case a_l_arrows => as_aux_lemma => k_is)
    (case l_l_arrows => as_aux_lemma => k_is)
    (case c_l_arrows => as_aux_lemma => k_is)
    (case k_l_arrows => as_aux_lemma => k_is)
    (case a_l_made => as_aux_lemma => k_is)
    (case l_l_made => as_aux_lemma => k_is)
    (case c_l_made => as_aux_lemma => k_is)
    (case k_l_made => as_aux_lemma => k_is)
    (case a_l_bent => as_aux_lemma => k_is)
    (case l_l_bent => as_aux_lemma => k_is)
    (case c_l_bent => as_aux_lemma => k_is)
    (case k_l_bent => as_aux_lemma => k_is)
    (case a_l_good => as_aux_lemma => k_is)
    (case l_l_good => as_aux_lemma => k_is)
    (case c_l_good => as_aux_lemma => k_is)
    (case k_l_good => as_aux_lemma => k_is)
    (case a_l_shown => as_aux_lemma => k_is)
    (case l_l_shown => as_aux_lemma => k_is)
    (case c_l_shown => as_aux_lemma => k_is)
    (case k_l_shown => as_aux_lemma => k_is)
    (case a_law => as_aux_lemma => k_is)
    (case l_law => as_aux_lemma => k_is)
    (case c_law => as_aux_lemma => k_is)
    (case k_law => as_aux_lemma => k_is)
    (case a_Map => as_aux_lemma => k_is)
    (case pg_Map => as_aux_lemma => k_is)
    (case hd_Map => as_aux_lemma => k_is)
    (case po_Map => as_aux_lemma => k_is)
    (case sa_Map => as_aux_lemma => k_is)
    (case sf_Map => as_aux_lemma => k_is)
    (case ca_Map => as_aux_lemma => k_is)
    (case cn_Map => as_aux_lemma => k_is)
    (case ct_Map => as_aux_lemma => k_is)
    (case cm_Map => as_aux_lemma => k_is)
    (case kc_Map => as_aux_lemma => k_is)
    (case kit_int_Map => as_aux_lemma => kernel_rfl)
    (case kit_bool_Map => as_aux_lemma => kernel_rfl)
    (case kn_NoneType_Map => as_aux_lemma => kernel_rfl)
    (case nf_NoneType_Map => as_aux_lemma => kernel_rfl)
    (case kn_int_Map => as_aux_lemma => kernel_rfl)
    (case nf_int_Map => as_aux_lemma => kernel_rfl)
    (case kn_bool_Map => as_aux_lemma => kernel_rfl)
    (case nf_bool_Map => as_aux_lemma => kernel_rfl)
    (case kn_str_Map => as_aux_lemma => kernel_rfl)
    (case nf_str_Map => as_aux_lemma => kernel_rfl)
    (case kn_list_Map => as_aux_lemma => kernel_rfl)
    (case nf_list_Map => as_aux_lemma => kernel_rfl)
    (case kn_dict_Map => as_aux_lemma => kernel_rfl)
    (case nf_dict_Map => as_aux_lemma => kernel_rfl)
    (case kn_tuple_Map => as_aux_lemma => kernel_rfl)
    (case nf_tuple_Map => as_aux_lemma => kernel_rfl)
    (case self_Map => as_aux_lemma => kernel_rfl)
    (case na_own_size_Map => as_aux_lemma => k_is)
    (case na_own_arrows_Map => as_aux_lemma => k_is)
    (case ne_Map => as_aux_lemma => k_is)
    (case m_Map__init => as_aux_lemma => k_is)
    (case i_Map__init => as_aux_lemma => k_is)
    (case l_Map__init => as_aux_lemma => k_is)
    (case c_Map__init => as_aux_lemma => k_is)
    (case k_Map__init => as_aux_lemma => k_is)
    (case mk_Map => as_aux_lemma => k_is)
    (case m_Map_size => as_aux_lemma => k_is)
    (case s_get_Map_size => as_aux_lemma => k_is)
    (case tk_Map_size => as_aux_lemma => k_is)
    (case rc_Map_size => as_aux_lemma => k_is)
    (case l_Map_size => as_aux_lemma => k_is)
    (case c_Map_size => as_aux_lemma => k_is)
    (case k_Map_size => as_aux_lemma => k_is)
    (case m_Map_arrows => as_aux_lemma => k_is)
    (case s_get_Map_arrows => as_aux_lemma => k_is)
    (case tk_Map_arrows => as_aux_lemma => k_is)
    (case rc_Map_arrows => as_aux_lemma => k_is)
    (case l_Map_arrows => as_aux_lemma => k_is)
    (case c_Map_arrows => as_aux_lemma => k_is)
    (case k_Map_arrows => as_aux_lemma => k_is)
    (case m_Map__bool => as_aux_lemma => k_is)
    (case i_Map__bool => as_aux_lemma => k_is)
    (case l_Map__bool => as_aux_lemma => k_is)
    (case c_Map__bool => as_aux_lemma => k_is)
    (case k_Map__bool => as_aux_lemma => k_is)
    (case m_Map__len => as_aux_lemma => k_is)
    (case i_Map__len => as_aux_lemma => k_is)
    (case l_Map__len => as_aux_lemma => k_is)
    (case c_Map__len => as_aux_lemma => k_is)
    (case k_Map__len => as_aux_lemma => k_is)
    (case m_Map__eq => as_aux_lemma => k_is)
    (case i_Map__eq => as_aux_lemma => k_is)
    (case l_Map__eq => as_aux_lemma => k_is)
    (case c_Map__eq => as_aux_lemma => k_is)
    (case k_Map__eq => as_aux_lemma => k_is)
    (case m_Map__repr => as_aux_lemma => k_is)
    (case i_Map__repr => as_aux_lemma => k_is)
    (case l_Map__repr => as_aux_lemma => k_is)
    (case c_Map__repr => as_aux_lemma => k_is)
    (case k_Map__repr => as_aux_lemma => k_is)
    (case a_InvalidMap => as_aux_lemma => k_is)
    (case xl_InvalidMap => as_aux_lemma => k_is)
    (case sa_InvalidMap => as_aux_lemma => k_is)
    (case ex_InvalidMap => as_aux_lemma => k_is)
    (case ty_InvalidMap => as_aux_lemma => k_is)
    (case kc_InvalidMap => as_aux_lemma => k_is)
    (case hd_InvalidMap => as_aux_lemma => k_is)
    (case ga_InvalidMap => as_aux_lemma => k_is)
    (case gg_InvalidMap => as_aux_lemma => k_is)
    (case ss_InvalidMap => as_aux_lemma => k_is)
    (case ca_InvalidMap => as_aux_lemma => k_is)
    (case cn_InvalidMap => as_aux_lemma => k_is)
    (case ct_InvalidMap => as_aux_lemma => k_is)
    (case cm_InvalidMap => as_aux_lemma => k_is)
    (case kit_ValueError_InvalidMap => as_aux_lemma => kernel_rfl)
    (case na_part_InvalidMap => as_aux_lemma => k_is)
    (case m_InvalidMap__init => as_aux_lemma => k_is)
    (case ti_InvalidMap__init => as_aux_lemma => k_is)
    (case l_InvalidMap__init => as_aux_lemma => k_is)
    (case c_InvalidMap__init => as_aux_lemma => k_is)
    (case k_InvalidMap__init => as_aux_lemma => k_is)
    (case z_isinstance => as_aux_lemma => k_is)
    (case z_int => as_aux_lemma => k_is)
    (case z_bool => as_aux_lemma => k_is)
    (case z_dict => as_aux_lemma => k_is)
    (case z_len => as_aux_lemma => k_is)
    (case z_range => as_aux_lemma => k_is)
    (case z_list => as_aux_lemma => k_is)
    (case z_max => as_aux_lemma => k_is)
    (case z_min => as_aux_lemma => k_is)
    (case z_repr => as_aux_lemma => k_is)
    (case z_str => as_aux_lemma => k_is)
    (case z_set => as_aux_lemma => k_is)
    (case z_ValueError => as_aux_lemma => k_is)
    (case v_MAX_SIZE => as_aux_lemma => k_is)
