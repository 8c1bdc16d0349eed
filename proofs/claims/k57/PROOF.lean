import PyProof.Rows.All
import Wide.All
import OpenK.AllK
import Wide.FinOn
import KE.OsRunLaw
import PySem.Challenge.RW_chainmaps_k57_whole_losing_words_or_evid
import HandS.ForMost
import HandS.ForExc
import HandS.IsInst
import HandS.More
import HandS.SlotsOwn
import HandS.Property
import HandS.ClsMeth
import HandS.DictComp
import HandS.Conv
import HandS.Walk
import HandS.NoneIn
import HandS.CallLocal
import HandS.Star
import HandS.ExcInit
import HandS.ExcField
import HandS.ExcIs
import KE.KExcInit
import KE.KExcIs
import HandS.WordsExc
import HandS.ListItems
import HandS.Style
import HandS.TryMany
import HandS.RaiseMore
import HandS.FStr
import HandS.HotCalls
import KE.KItemsList
import KE.KOpsOwn
import HandS.OwnEq
import HandS.Lambda
import HandS.EndTab
import KE.KNestM
import HandS.Deep
import HandS.Nested
import KE.KSuper
import HandS.TupMul
import KE.GoesMore
import HandS.TupAny
import HandS.Zip
import KE.KDictZip
import KE.KDictCopyH
import PyProof.Rows.TupDisplay
import HandS.SortInts
import PyProof.Rows.SortShellAny
set_option Elab.async false
set_option linter.all false
set_option maxRecDepth 100000
set_option maxHeartbeats 4000000
section
local macro_rules | `(tactic| first | refine $t:term | fail $s:str) => do { let t2 ← t.raw.replaceM fun n => (do { if n.getKind == `Lean.Parser.Term.syntheticHole then { let nm := n[1].getId.eraseMacroScopes; if nm == `hl then { return some (← `(by exact $(Lean.mkIdent `x))) } else { if nm == `hw || nm == `hc then { return some (← `(by contradiction)) } else { return none } } } else { return none } }); `(tactic| refine $(⟨t2⟩)) }
open PySem PySem.W PyProof.Rows
set_option maxRecDepth 100000 in
set_option maxHeartbeats 0 in
def My.hlStmt : Prop := by
  refine' (fun (P : Prop) (_ : P → False → PySem.Challenge.rw_chainmaps_k57_whole_losing_words_or_evid.Holds) => P) _ ?h
  rotate_left
  intro x f
  w_on; o_law; k_headL
set_option maxRecDepth 100000 in
set_option maxHeartbeats 0 in
theorem My.hl : My.hlStmt := by
  refine HeadRun.left_oneK (by kernel_rfl) (by rfl) (fun s => by kernel_rfl) (Nat.ble_eq_true_of_le (Nat.le_refl _)) ?_
  intro w os
  kernel_rfl
end
namespace PySem.W
open PySem PySem.Calls PyProof.Rows
section
variable {prog : Program} {w : World} {A : Around} {E : Value → Shared → Prop} {s : Shared} {K : Frag} {x C L f : Addr} {h₀ : Heap} {m : Str → Option Value} {ox : Obj} {od : Option Obj} {b tb : Value}
theorem my_ne_K {Q : Value → Shared → Prop} (hu : A.units + 1 < cLine) (F : Fr h₀ L s.heap m) (X₀ : K.In h₀) (I : InstAt s.heap x ox C od) (hb : Looks (model prog w) s.heap (typeOf b) tb) (hn : notFirst K C tb = true)
    (hne : findIn K (.ref C) "__ne__" = some (some (.builtin "object.__ne__"))) (hob : mroIn K C (.type "object") = some true)
    (hs : findIn K (.ref C) "__eq__" = some (some (.ref f))) (hf : isFn K (.ref f) = true)
    (h : wpAny (model prog w) A.in1 (call (.ref f) [.ref x, b]) (fun v s' => ∃ c, v = .bool c ∧ Q (.bool (!c)) s') E s) : wpAny (model prog w) A (richCompare .NotEq (.ref x) b) Q E s := by
  have X := X₀.keeps F.keep
  have one : wpAny (model prog w) A (tryCompare (.ref x) "__ne__" b) (fun r s' => ∃ v, r = some v ∧ Q v s') E s := by
    unfold tryCompare
    simp only [callSpecialIfBound?, bindSpecialIfBound?]
    have sub : Looks (model prog w) s.heap (isInstance (.ref x) (.type "object")) true := I.type.andThen (looks_mroIn X hob)
    have fin : wpAny (model prog w) A (call (.builtin "object.__ne__") ([.ref x] ++ [b]) >>= fun v => pure (some v)) (fun r s' => ∃ c, r = some (.bool c) ∧ Q (.bool c) s') E s := by
      refine wpAny_bind (wpAny_call (codeAny_call_builtin PySem.F.slot_tuple_iterator_ne.plain PySem.F.cmpEntry_ne ?_))
      refine @check_slot (model prog w) _ _ s "object.__ne__" "object" "__ne__" (.ref x) [b] [] _ PySem.F.cmpKind_ne PySem.F.cmpSplit_ne sub (PySem.F.cmpArgs_ne _ _) ?_
      unfold Builtin.«object.__ne__»
      refine wpAny_bind (wpAny_of_eq (a := ((Value.ref x : Value), [b])) (by first | rfl | (simp only [Builtin.slotArgs]; rfl)) ?_)
      refine wpAny_bind (wpAny_cRoomFor hu ?_)
      refine wpAny_bind (ifBound_K X I hs hf (wpAny_mono h (fun v s' hv => ?_) fun _ _ e => e))
      obtain ⟨c, rfl, q⟩ := hv
      refine wpAny_bind (wpAny_truthy_bool ?_)
      exact wpAny_pure (wpAny_pure ⟨_, rfl, q⟩)
    refine wpAny_bind (wpAny_holding (wpAny_bind (wpAny_bind (wpAny_bind (I.type.here ((looks_findIn X hne).here ?_))))))
    refine wpAny_bind (wpAny_askSetting (wpAny_ite ?_))
    split
    · rw [PySem.F.slot_tuple_iterator_ne.bind (.ref x)]
      exact wpAny_bind (wpAny_pure (wpAny_pure (wpAny_mono fin (fun r s' z => by obtain ⟨c, rfl, q⟩ := z; exact wpAny_pure ⟨_, rfl, q⟩) fun _ _ e => e)))
    · rw [PySem.F.slot_tuple_iterator_ne.bind (.ref x)]
      exact wpAny_tryCatch (wpAny_bind (wpAny_pure (wpAny_pure (wpAny_mono fin (fun r s' z => by obtain ⟨c, rfl, q⟩ := z; exact wpAny_pure ⟨_, rfl, q⟩) fun _ _ e => e))))
  unfold richCompare
  simp only [oneThing_ref]
  refine wpAny_holding (wpAny_bind (wpAny_cRoomFor (Nat.lt_of_succ_lt hu) ?_))
  refine wpAny_bind (I.type.here (wpAny_bind (hb.here ?_)))
  split
  · rename_i q
    have e : subIn K tb (.ref C) = some false := by
      rcases Bool.or_eq_true_iff.mp hn with e | e
      · rw [beq_iff_eq.mp e] at q; simp at q
      · exact beq_iff_eq.mp e
    refine wpAny_bind ((looks_subIn X e).here ?_)
    simp only [Bool.false_eq_true, if_false]
    refine wpAny_bind (wpAny_mono one (fun r s' z => ?_) fun _ _ e => e)
    obtain ⟨v, rfl, hq⟩ := z
    exact wpAny_pure hq
  · refine wpAny_bind (wpAny_pure ?_)
    simp only [Bool.false_eq_true, if_false]
    refine wpAny_bind (wpAny_mono one (fun r s' z => ?_) fun _ _ e => e)
    obtain ⟨v, rfl, hq⟩ := z
    exact wpAny_pure hq
end
end PySem.W
namespace U
open PySem PySem.Spec PyProof.Rows L2
/-- what is asked of a plain own class -/
structure OwnC (K : PySem.W.Frag) (C : Addr) : Prop where
  cl : Cls K C
  sf : PySem.W.selfFirst K C = true
  ca : PySem.W.findIn K (.ref C) "__class__" = some (some (.builtin "object.__class__"))
  cn : PySem.W.specialIn K (.builtin "object.__class__") "__get__" = some (some (.builtin "getset_descriptor.__get__"))
  ct : PySem.W.takesIn K (.builtin "object.__class__") = some true
  cm : PySem.W.mroIn K C (.type "object") = some true
section
variable {X : Cx} {CX : CXT} {pins : List (Addr × Obj)} {σ : L2.St} {H : Hp} {s : Shared} {a C dx p g : Addr} {f : Str} {n : Nat} {sp : Sp} {E : XK} {v : V} {u : Value}
theorem ins_inst (I : Inv X pins σ H s) {fs : List (Str × V)} (ea : H a = some (.ins C dx fs)) : ∃ ox od, PySem.W.InstAt s.heap a ox C (some od) := by
  obtain ⟨mA, O, _⟩ := ins_get I.hok ea
  obtain ⟨od, J, _⟩ := O.look
  exact ⟨_, od, J⟩
/-- x op y, both instances of C -/
def rBin (C : Addr) (sp : Sp) (E : XK) : R2 := fun x y H Q => ∃ a dx fs b dy gs, x = .ref a ∧ y = .ref b ∧ H a = some (.ins C dx fs) ∧ H b = some (.ins C dy gs) ∧ sp [x, y] H Q E
theorem op_bin {op : Operator} (hc : PySem.W.selfFirst X.K C = true) (hs : PySem.W.findIn X.K (.ref C) (PySem.dunder op.info.2) = some (some (.ref g))) (hf : PySem.W.isFn X.K (.ref g) = true) (F : FnR X.prog X.w X.K X.mg X.base CX n g sp)
    (hr : Room n X.A) (hx : Passes CX X E) : OpR X (binaryOp op) (rBin C sp E) := by
  intro pins s σ H x y v u Q I rx ry h
  obtain ⟨a, dx, vs, b, dy, ws, rfl, rfl, ha, hb, q⟩ := h
  cases (show v = Value.ref a from rx)
  cases (show u = Value.ref b from ry)
  obtain ⟨ox, od, J⟩ := ins_inst I ha
  obtain ⟨oy, od', J'⟩ := ins_inst I hb
  obtain ⟨m, hF⟩ := I.fr
  refine PySem.W.binop_K (op := op) hF I.ok.mod.kin J J'.type hc hs hf ?_
  refine wpAny_mono (wpAny_call (run_fnR (us := [.ref a, .ref b]) (vs := [.ref a, .ref b]) F hr hx I (.cons rfl (.cons rfl .nil)) q)) (fun w s' z => ?_) fun _ _ x => x
  obtain ⟨z', H', I', rz, qz⟩ := z
  exact SlX.cmpback rz ⟨z', H', I', rz, qz⟩
theorem notFirst_self (K : PySem.W.Frag) (C : Addr) : PySem.W.notFirst K C (.ref C) = true := by
  unfold PySem.W.notFirst; simp
end
end U
namespace U
open PySem PySem.Spec PyProof.Rows L2 StX
/-! ### a def of the text, with how its arguments bind -/
structure FnAt (K : PySem.W.Frag) (x qual : Str) (st : Stmt) (f : Addr) (ps : List Str) : Prop where
  ex : ∃ fd, Fun K x qual st f fd ∧ Binds K fd ps []
theorem FnAt.kp {K : PySem.W.Frag} {x qual : Str} {st : Stmt} {f : Addr} {ps : List Str} (A : FnAt K x qual st f ps) : PySem.W.keepIn K (.ref f) = true := by
  obtain ⟨fd, F, _⟩ := A.ex
  exact F.kp
section
variable {P : Program} {w : World} {K : PySem.W.Frag} {mg : Str → Option Value} {base : Heap}
theorem FnAt.ok {x qual : Str} {st : Stmt} {f : Addr} {N ps : List Str} {k : Nat} {sp : Sp} (A : FnAt K x qual st f ps) (S : FnScope N ps (defScope st)) (len : ∀ vs H Q E, sp vs H Q E → vs.length = ps.length)
    (hbody : ∀ (cdv : Value) (A : Around) (outer : List Env) (s : Shared) (H : Hp) (vs : List V) (Q : VK) (E : XK), Room k (A.deeper (envOfC qual (defScope st) s.heap.objs.size f cdv)) → sp vs H Q E →
      ∃ t, PSs (cxOf CX0 P w K mg base N qual (defScope st) f cdv A outer s H E).nox (defBody st) t ∧ t { nx := fun _ H' => Q .non H', rt := Q } (start N vs) H) : FnR P w K mg base CX0 (k + 1) f sp := by
  obtain ⟨fd, F, B⟩ := A.ex
  have R := (F.ok (P := P) (w := w) (mg := mg) (base := base) S len hbody).raw B .nil
  exact R.imp fun vs H Q E h => by rw [List.append_nil]; exact h
end
section
variable {X : Cx} {CX : CXT} {k i : Nat} {f C p g a dx : Addr} {sp : Sp} {E : XK} {x fl : Str} {e o : Expr} {es : List Expr} {ta te tf : TE} {t : TA} {pp pos : Pos} {fs : List (Str × V)}
/-- x(e, ..), x a def of the module -/
def tCallR (sp : Sp) (E : XK) (t : TA) : TE := fun σ H Q => t σ H fun vs H1 => sp vs H1 Q E
theorem pe_callR (F : FnR X.prog X.w X.K X.mg X.base CX k f sp) (hr : Room k X.A) (hk : PySem.W.keepIn X.K (.ref f) = true) (hg : Gl X x) (hm : X.mg x = some (.ref f)) (hx : Passes CX X E) (ha : PA X (e :: es) t) (hdb : (x == ("__debug__" : Str)) = false := by decide)
    (he : starEach (e :: es) X.env = (false, eval e X.env) :: starEach es X.env := by rfl) (hpl : (backTo pos (starEach es X.env)).any (·.1) = false := by rfl) : PE X (.Call (.Name x pp) (e :: es) [] pos) (tCallR sp E t) := by
  refine ⟨fun pins s σ H Q I h => ?_⟩
  refine wpAny_Call_Name_kw (ld_glob I hg hm ?_ hdb)
  refine PySem.W.callWith_K (h₀ := X.base) I.ok.mod.kin hk (thn (ha.run pos pins s σ H _ I h) fun us s1 ⟨vs, H1, I1, r, q⟩ => ⟨I1.kIn, ?_⟩) he hpl
  exact wpAny_call (run_fnR F hr hx I1 r q)
/-- e.f, a property -/
def tPropR (C : Addr) (sp : Sp) (ta : TE) : TE := fun σ H Q => ta σ H fun x H1 => ∃ a dx fs, x = .ref a ∧ H1 a = some (.ins C dx fs) ∧ sp [.ref a] H1 Q E0
theorem pe_propR (he : PE X e ta) (c : Cls X.K C) (hp : PropOf X.K C fl p g) (F : FnR X.prog X.w X.K X.mg X.base CX0 k g sp) (hr : Room (k + 1) X.A)
    (hab : attributeBase e fl X.env (eval e X.env) = eval e X.env := by rfl) : PE X (.Attribute e fl pos) (tPropR C sp ta) := by
  refine ⟨fun pins s σ H Q I h => ?_⟩
  refine attr_of hab (thn (he.run pins s σ H _ I h) fun u s1 ⟨x, H1, I1, rx, a, dx, fs, ex, ea, q⟩ => ?_)
  subst ex
  obtain rfl : u = Value.ref a := rx
  obtain ⟨mA, O, _, _, _, _⟩ := ins_get I1.hok ea
  obtain ⟨od, J, _⟩ := O.look
  obtain ⟨rest, hrec⟩ := hp.rec_
  have I2 := I1.tok (s1.toks + 1)
  have hc : (PySem.W.clsIn X.K C).isSome = true := by
    obtain ⟨cd, hc, _⟩ := PySem.W.any_some c.hd
    rw [hc]
    rfl
  refine PySem.W.get_bind I1.kIn J (PySem.W.plainGet_of (c.get fl)).1 (PySem.W.findObj_data hc hp.at_ hp.get hp.tak) (PySem.W.plainGet_of (c.get fl)).2 (wpAny_call (PySem.W.prop_get (s := { s1 with toks := s1.toks + 1 }) I1.kIn hrec ?_))
  refine codeAny_mono (F X.A.in1 X.stack { s1 with toks := s1.toks + 1 } H1 [.ref a] [.ref a] Q E0 hr.in1 I2.env0.in1 (.cons rfl .nil) q) fun r s' hq => ?_
  cases r with
  | error er => exact False.elim hq
  | ok fl =>
    cases fl with
    | ret u =>
      obtain ⟨v, H', I3, rv, q3⟩ := I2.after hq
      show wpAny _ _ (handedOut u) _ _ _
      rw [PySem.W.handedOut_of (handed_of rv)]
      exact wpAny_pure ⟨v, H', I3, rv, q3⟩
    | next => exact False.elim hq
    | brk => exact False.elim hq
    | cont => exact False.elim hq
/-- x(..), x a local that holds the class at C -/
def tMakeL (i : Nat) (C : Addr) (sp : Sp) (E : XK) (t : TA) : TE := fun σ H Q => σ[i]? = some (some (.ref C)) ∧ tMakeR C sp E t σ H Q
theorem pe_makeL (M : Mk X.K C f) (F : FnR X.prog X.w X.K X.mg X.base CX k f sp) (hr : Room (k + 1) X.A) (hN : X.N[i]? = some x) (hv : Vis X.env.scope x) (hx : Passes CX X E) (ha : PA X (e :: es) t) (hdb : (x == ("__debug__" : Str)) = false := by decide)
    (hcd : (x == ("__classdict__" : Str)) = false := by decide)
    (he : starEach (e :: es) X.env = (false, eval e X.env) :: starEach es X.env := by rfl) (hpl : (backTo pos (starEach es X.env)).any (·.1) = false := by rfl) : PE X (.Call (.Name x pp) (e :: es) [] pos) (tMakeL i C sp E t) := by
  refine ⟨fun pins s σ H Q I h => ?_⟩
  obtain ⟨hs, ht⟩ := h
  refine wpAny_Call_Name_kw (thn ((pe_var (pos := pp) hN hv hdb hcd).run pins s σ H (fun v H1 => v = .ref C ∧ H1 = H) I ⟨.ref C, hs, rfl, rfl⟩) fun u s1 ⟨v, H1, I1, r1, q1⟩ => ?_)
  obtain ⟨rfl, rfl⟩ := q1
  cases r1
  refine PySem.W.callWith_K (h₀ := X.base) I.ok.mod.kin M.kp (thn (ha.run pos pins s1 σ _ _ I1 ht) fun us s2 ⟨vs, H2, I2, r, q⟩ => ⟨I2.kIn, ?_⟩) he hpl
  exact run_makeR M F hr hx I2 r q
end
theorem ifD {c : Prop} [Decidable c] {A B : Prop} (h1 : c → A) (h2 : ¬ c → B) : if decide c = true then A else B := by
  by_cases h : c
  · rw [if_pos (decide_eq_true h)]; exact h1 h
  · rw [if_neg (by simp [h])]; exact h2 h
theorem ifN {c : Prop} [Decidable c] {A B : Prop} (h1 : ¬ c → A) (h2 : c → B) : if (!decide c) = true then A else B := by
  by_cases h : c
  · rw [if_neg (by simp [h])]; exact h2 h
  · rw [if_pos (by simp [h])]; exact h1 h
theorem ifB {c : Bool} {A B : Prop} (h1 : c = true → A) (h2 : c = false → B) : if c = true then A else B := by
  cases c with
  | true => rw [if_pos rfl]; exact h1 rfl
  | false => rw [if_neg Bool.false_ne_true]; exact h2 rfl
theorem ifNB {c : Bool} {A B : Prop} (h1 : c = false → A) (h2 : c = true → B) : if (!c) = true then A else B := by
  cases c with
  | true => exact iteF (h2 rfl)
  | false => exact iteT (h1 rfl)
end U
namespace U
open PySem PySem.Spec PyProof.Rows L2
/-- the ints' dicts compared -/
def dEq (ks ls : List (Key × V)) : Bool := ks.length == ls.length && ks.all fun p => decide (valV ls p.1 = some p.2)
def IntVals (ks : List (Key × V)) : Prop := ∀ p ∈ ks, ∃ i : Int, p.2 = .int i
theorem valV_mem {ls : List (Key × V)} {k : Key} {v : V} (h : valV ls k = some v) : ∃ p ∈ ls, p.2 = v := by
  unfold valV at h
  cases e : ls.find? (fun kv => decide (kv.1 = k)) with
  | none => rw [e] at h; cases h
  | some p =>
    rw [e] at h
    exact ⟨p, List.mem_of_find?_eq_some e, Option.some.inj h⟩
theorem hits_int {A : Around} {s : Shared} {ls : List (Key × V)} {vb : List (Key × Value)} (rb : KV ls vb) (il : IntVals ls) {ks : List (Key × V)} {va : List (Key × Value)} (ra : KV ks va) :
    IntVals ks → PySem.W.KeqHits A s vb va (ks.all fun p => decide (valV ls p.1 = some p.2)) := by
  unfold KV at ra
  induction ra with
  | nil => intro _; exact .nil
  | @cons p q ps qs h t ih =>
    intro hp
    obtain ⟨h1, h2⟩ := h
    obtain ⟨i, ei⟩ := hp p List.mem_cons_self
    obtain ⟨k, v⟩ := q
    have h1' : p.1 = k := h1
    subst h1'
    rw [ei] at h2
    obtain ⟨tk, ev⟩ := (show ∃ tk, v = Value.int i tk from h2)
    subst ev
    have rr : RelO (valV ls p.1) (valueAt vb p.1) := rb.val p.1
    rw [List.all_cons]
    cases e : valV ls p.1 with
    | none =>
      rw [e] at rr
      cases e2 : valueAt vb p.1 with
      | none => exact .miss e2
      | some y => rw [e2] at rr; exact rr.elim
    | some z =>
      rw [e] at rr
      obtain ⟨y, hy, ry⟩ := rr.some_of
      obtain ⟨p', hm, ep⟩ := valV_mem e
      obtain ⟨j, ej⟩ := il p' hm
      rw [ej] at ep
      subst ep
      obtain ⟨tk', ey⟩ := (show ∃ tk, y = Value.int j tk from ry)
      subst ey
      have b : decide (some (V.int j) = some p.2) = (i == j) := by
        rw [ei]
        by_cases h : i = j
        · subst h; simp
        · have h' : ¬ j = i := fun z => h z.symm
          simp [h, h']
      rw [b]
      exact .hit hy (SeqAt.EqAt.int_int i _ j _) (ih fun p' hm => hp p' (List.mem_cons_of_mem _ hm))
theorem my_copyOf {prog : Program} {w : World} {KK : Type} [DecidableEq KK] {knd : KeyKind prog w KK} {A : Around} {E : Value → Shared → Prop} {s : Shared} {id : String} {d : Addr} {kvs : List (KK × Value)} {Q : Value → Shared → Prop} (hd : (d == sysModules) = false)
    (hm : s.heap.DictOf knd d kvs) (hsz : kvs.length ≤ sizeLine)
    (h : ∀ h', h'.DictOf knd s.heap.objs.size kvs → (∀ b o, s.heap.get? b = some o → h'.get? b = some o) → Q (.ref s.heap.objs.size) { s with heap := h' }) :
    wpAny (model prog w) A (Builtin.Dict.copyOf id (.ref d)) Q E s := by
  obtain ⟨o, es, ep, ho, hc, hdat, hk, hp, hn⟩ := (_root_.id hm : s.heap.DictOf knd d kvs)
  have hes : es.size ≤ sizeLine + 1 := by
    have e1 := hp.length
    have e2 : es.toList.length = es.size := by simp
    omega
  have fin : ∀ es' : Array DictEntry, es' = es → Q (.ref s.heap.objs.size) { s with heap := s.heap.push { cls := .type "dict", data := .dict es' } } := by
    rintro es' rfl
    exact h _ ⟨_, es', 0, Heap.get?_push_size _ rfl, ⟨rfl, rfl, rfl⟩, rfl, hk, hp, hn⟩ fun b o' e => Heap.get?_push_of_some _ e
  unfold Builtin.Dict.copyOf
  refine wpAny_bind (wpAny_pure ?_)
  unfold Builtin.Dict.showsAll
  rw [if_neg (by rw [hd]; exact Bool.false_ne_true)]
  refine wpAny_bind (wpAny_pure (wpAny_bind (wpAny_dictEntries ho hdat ?_)))
  by_cases hemp : es.isEmpty = true
  · rw [if_pos hemp]
    exact wpAny_bind (wpAny_rule (wpAny_newObj_type (fin #[] (Array.isEmpty_iff.mp hemp).symm)))
  · rw [if_neg hemp]
    refine wpAny_bind ?_
    unfold Builtin.Dict.readDirectly
    refine wpAny_bind (wpAny_isInstance hm.typeIs isSubtype_dict_dict ?_)
    simp only [Bool.not_true, Bool.false_eq_true, if_false]
    refine wpAny_bind (wpAny_specialOf hm.typeIs F.slot_dict_iter.lookup (wpAny_pure ?_))
    simp only [beq_self_eq_true, if_true]
    exact wpAny_bind (wpAny_entriesForEmpty (knd := knd) ho hdat hk (wpAny_newObj_type (fin es rfl) hes))
section
variable {X : Cx}
def rEqD : R2 := fun x y H Q => ∃ a b ks ls, x = .ref a ∧ y = .ref b ∧ H a = some (.dK ks) ∧ H b = some (.dK ls) ∧ IntVals ks ∧ IntVals ls ∧ Q (.bl (dEq ks ls)) H
def rNeD : R2 := fun x y H Q => ∃ a b ks ls, x = .ref a ∧ y = .ref b ∧ H a = some (.dK ks) ∧ H b = some (.dK ls) ∧ IntVals ks ∧ IntVals ls ∧ Q (.bl (!dEq ks ls)) H
theorem op_eqDI (hu : X.A.units < cLine) : OpR X (compareOp .Eq) rEqD := by
  intro pins s σ H x y v u Q I rx ry h
  obtain ⟨a, b, ks, ls, rfl, rfl, ea, eb, i1, i2, q⟩ := h
  cases (show v = Value.ref a from rx)
  cases (show u = Value.ref b from ry)
  obtain ⟨_, ya, va, ra, da⟩ := (show ObjOk X.prog X.w H s.heap a (.dK ks) from I.hok a _ ea)
  obtain ⟨_, yb, vb, rb, db⟩ := (show ObjOk X.prog X.w H s.heap b (.dK ls) from I.hok b _ eb)
  refine PySem.W.keq_eq (knd := mixKind X.prog X.w) ya yb da db hu (fun _ => hits_int rb i2 ra i1) (fin_bl I q ?_)
  unfold dEq
  rw [ra.length, rb.length]
/-- d | e, two dicts -/
def rOrD : R2 := fun x y H Q => ∃ a b ks ls, x = .ref a ∧ y = .ref b ∧ H a = some (.dK ks) ∧ H b = some (.dK ls) ∧ ks.length + ls.length ≤ sizeLine ∧ ∀ p, H p = none → Q (.ref p) (upd H p (.dK (mergeK ks ls)))
theorem op_orD : OpR X (binaryOp .BitOr) rOrD := by
  intro pins s σ H x y v u Q I rx ry h
  obtain ⟨a, b, ks, ls, rfl, rfl, ea, eb, hz, q⟩ := h
  cases (show v = Value.ref a from rx)
  cases (show u = Value.ref b from ry)
  obtain ⟨z1, ya, va, ra, da⟩ := (show ObjOk X.prog X.w H s.heap a (.dK ks) from I.hok a _ ea)
  obtain ⟨z2, yb, vb, rb, db⟩ := (show ObjOk X.prog X.w H s.heap b (.dK ls) from I.hok b _ eb)
  refine wpAny_binaryOp_same (op := .BitOr) da.typeIs db.typeIs PySem.F.fills_dict_or PySem.F.slot_dict_or (wpAny_call_entry PySem.F.slot_dict_or da.typeIs PySem.F.entry_dict_or ?_ (PySem.F.args_dict_or_2 _ _))
  show wpAny _ _ (Builtin.Dict.dictSlotArgs "__or__" ⟨[.ref a, .ref b], []⟩ >>= _) _ _ s
  refine wpAny_bind ?_
  unfold Builtin.Dict.dictSlotArgs
  refine wpAny_bind (wpAny_notOrdered_dict da.typeIs ?_)
  show wpAny _ _ (pure (Value.ref a, Value.ref b)) _ _ s
  refine wpAny_pure ?_
  show wpAny _ _ (_ >>= _) _ _ s
  refine wpAny_bind ?_
  refine wpAny_bind (wpAny_isInstance (T := "dict") da.typeIs PySem.F.sub_dict_dict ?_)
  show wpAny _ _ (isInstance (Value.ref b) (Value.type "dict")) _ _ s
  refine wpAny_isInstance (T := "dict") db.typeIs PySem.F.sub_dict_dict ?_
  rw [show (!true) = false from rfl, if_neg Bool.false_ne_true]
  have lv : va.length ≤ sizeLine := by rw [← ra.length]; exact z1
  have hb0 : b ≠ s.heap.objs.size := Nat.ne_of_lt (I.hok.lt eb)
  refine wpAny_bind (my_copyOf ya da lv fun h1 d1 k1 => ?_)
  refine wpAny_bind (wpAny_pure (wpAny_holding ?_))
  have db1 : h1.DictOf (mixKind X.prog X.w) b vb := by
    obtain ⟨ob, es, ep, e, c⟩ := db
    exact ⟨ob, es, ep, k1 _ _ e, c⟩
  unfold Builtin.Dict.updateFrom
  refine wpAny_bind (wpAny_typeOf (s := { s with heap := h1 }) db1.typeIs ?_)
  rw [if_neg (by decide)]
  refine wpAny_bind ?_
  unfold Builtin.Dict.merge
  refine wpAny_bind ?_
  unfold Builtin.Dict.readDirectly
  refine wpAny_bind (wpAny_isInstance (s := { s with heap := h1 }) db1.typeIs isSubtype_dict_dict ?_)
  simp only [Bool.not_true, Bool.false_eq_true, if_false]
  refine wpAny_bind (wpAny_specialOf (s := { s with heap := h1 }) db1.typeIs F.slot_dict_iter.lookup (wpAny_pure ?_))
  simp only [beq_self_eq_true, if_true]
  refine wpAny_bind (wpAny_pure ?_)
  refine wpAny_mergeDict (s := { s with heap := h1 }) (knd := mixKind X.prog X.w) (hsz := by rw [← ra.length, ← rb.length]; exact hz) hb0.symm yb d1 db1 fun h2 d2 _ k2 => ?_
  refine wpAny_bind (wpAny_pure (wpAny_pure ⟨_, rfl, by simp, ?_⟩))
  refine ⟨.ref s.heap.objs.size, _, I.laid (t' := s.toks) (h' := h2) (o := .dK (mergeK ks ls)) (fun c o e => (k2.2 c (Nat.ne_of_lt (Heap.lt_size e))).trans (k1 c o e)) (Nat.le_refl _) ?_, rfl, q _ (I.hok.fresh (Nat.le_refl _))⟩
  refine dk_new (Nat.le_trans (length_mergeK ls ks) hz) ?_ (rb.merge ra) d2
  exact beq_eq_false_iff_ne.mpr (Nat.ne_of_gt I.big)
end
end U
namespace U
open PySem PySem.Spec PyProof.Rows L2
/-! ### heaps -/
def Off (d : Addr) (H H' : Hp) : Prop := ∀ b o, b ≠ d → H b = some o → H' b = some o
theorem Same.new {H : Hp} {p : Addr} {o : HO} (h : H p = none) : L2.Same H (upd H p o) := fun b u e => by rw [upd_ne (ne_of_none e h)]; exact e
theorem Off.tr {d : Addr} {H H1 H2 : Hp} (a : Off d H H1) (b : Off d H1 H2) : Off d H H2 := fun c o hc e => b c o hc (a c o hc e)
theorem Off.lock {d : Addr} {H : Hp} {o : HO} : Off d H (upd H d o) := fun b u hb e => by rw [upd_ne hb]; exact e
theorem Off.new {d p : Addr} {H : Hp} {o : HO} (h : H p = none) : Off d H (upd H p o) := fun b u _ e => by rw [upd_ne (ne_of_none e h)]; exact e
theorem Off.free {d p : Addr} {H H' : Hp} {u : HO} (a : Off d H H') (hd : H' d = some u) (h : H' p = none) : H p = none := by
  cases e : H p with
  | none => rfl
  | some o =>
    by_cases hp : p = d
    · subst hp; rw [hd] at h; cases h
    · rw [a p o hp e] at h; cases h
theorem Off.back {d : Addr} {H H' : Hp} {u : HO} (a : Off d H H') (hd : H d = some u) : L2.Same H (upd H' d u) := fun b o e => by
  by_cases hb : b = d
  · subst hb; rw [hd] at e; cases e; exact upd_same
  · rw [upd_ne hb]; exact a b o hb e
/-- an object of the heap behind, that was not there ahead, may be changed -/
theorem Off.mut {d p : Addr} {H H' : Hp} {o : HO} (a : Off d H H') (h : H p = none) : Off d H (upd H' p o) := fun b u hb e => by rw [upd_ne (ne_of_none e h)]; exact a b u hb e
/-! ### a dict of ints -/
def kvI (l : List (Int × Int)) : List (Key × V) := l.map fun p => (Sum.inl p.1, V.int p.2)
theorem kvI_length (l : List (Int × Int)) : (kvI l).length = l.length := by simp [kvI]
def lk (l : List (Int × Int)) (x : Int) : Option Int := (l.find? fun p => decide (p.1 = x)).map (·.2)
theorem valV_kvI (l : List (Int × Int)) (x : Int) : valV (kvI l) (Sum.inl x : Key) = (lk l x).map V.int := by
  induction l with
  | nil => rfl
  | cons p r ih =>
    obtain ⟨a, b⟩ := p
    by_cases h : a = x
    · subst h
      rw [show kvI ((a, b) :: r) = (Sum.inl a, V.int b) :: kvI r from rfl, valV_pos rfl]
      simp [lk]
    · rw [show kvI ((a, b) :: r) = (Sum.inl a, V.int b) :: kvI r from rfl, valV_neg (fun z => h (Sum.inl.inj z)), ih]
      simp [lk, h]
theorem lk_none {l : List (Int × Int)} {x : Int} (h : x ∉ l.map (·.1)) : lk l x = none := by
  unfold lk
  rw [List.find?_eq_none.mpr]
  · rfl
  · intro p hp
    simp only [decide_eq_true_eq]
    exact fun e => h (List.mem_map.mpr ⟨p, hp, e⟩)
theorem lk_some {l : List (Int × Int)} (nd : (l.map (·.1)).Nodup) {x y : Int} (h : (x, y) ∈ l) : lk l x = some y := by
  induction l with
  | nil => cases h
  | cons p r ih =>
    obtain ⟨a, b⟩ := p
    rw [List.map_cons, List.nodup_cons] at nd
    rcases List.mem_cons.mp h with h | h
    · cases h; simp [lk]
    · have ne : ¬ a = x := fun z => nd.1 (by rw [z]; exact List.mem_map.mpr ⟨(x, y), h, rfl⟩)
      have := ih nd.2 h
      simpa [lk, ne] using this
theorem lk_mem {l : List (Int × Int)} {x y : Int} (h : lk l x = some y) : (x, y) ∈ l := by
  unfold lk at h
  cases e : l.find? (fun p => decide (p.1 = x)) with
  | none => rw [e] at h; cases h
  | some p =>
    rw [e] at h
    obtain ⟨a, b⟩ := p
    have h1 := List.find?_some e
    simp only [decide_eq_true_eq] at h1
    have h2 : b = y := Option.some.inj h
    subst h1 h2
    exact List.mem_of_find?_eq_some e
theorem intVals_kvI (l : List (Int × Int)) : IntVals (kvI l) := by
  intro p hp
  unfold kvI at hp
  obtain ⟨q, _, rfl⟩ := List.mem_map.mp hp
  exact ⟨q.2, rfl⟩
theorem putK_kvI {l : List (Int × Int)} {x y : Int} (h : x ∉ l.map (·.1)) : putK (kvI l) (Sum.inl x : Key) (V.int y) = kvI (l ++ [(x, y)]) := by
  have e : valV (kvI l) (Sum.inl x : Key) = none := by rw [valV_kvI, lk_none h]; rfl
  rw [putK_new _ e]
  simp [kvI]
theorem lk_append {l r : List (Int × Int)} {x : Int} : lk (l ++ r) x = (lk l x).or (lk r x) := by
  unfold lk
  rw [List.find?_append]
  cases l.find? (fun p => decide (p.1 = x)) <;> rfl
theorem lk_cons (a b : Int) (r : List (Int × Int)) (z : Int) : lk ((a, b) :: r) z = if a = z then some b else lk r z := by
  by_cases h : a = z <;> simp [lk, h]
theorem lk_mapOff (r : List (Int × Int)) (x y z : Int) (hz : ¬ z = x) : lk (r.map fun p => if p.1 = x then (p.1, y) else p) z = lk r z := by
  induction r with
  | nil => rfl
  | cons p r ih =>
    obtain ⟨a, b⟩ := p
    rw [List.map_cons]
    by_cases ha : a = x
    · subst ha
      have hz' : ¬ a = z := fun q => hz q.symm
      rw [if_pos rfl, lk_cons, lk_cons, if_neg hz', if_neg hz', ih]
    · rw [if_neg ha, lk_cons, lk_cons, ih]
theorem lk_mapPut {x y : Int} : ∀ (l : List (Int × Int)), x ∈ l.map (·.1) → ∀ z, lk (l.map fun p => if p.1 = x then (p.1, y) else p) z = if z = x then some y else lk l z
  | [], h, z => by cases h
  | (a, b) :: r, h, z => by
    by_cases hz : z = x
    · subst hz
      rw [if_pos rfl, List.map_cons]
      by_cases ha : a = z
      · subst ha
        rw [if_pos rfl, lk_cons, if_pos rfl]
      · rw [if_neg ha, lk_cons, if_neg ha]
        have h' : z ∈ r.map (·.1) := by
          rcases List.mem_cons.mp h with q | q
          · exact absurd q.symm ha
          · exact q
        rw [lk_mapPut r h' z, if_pos rfl]
    · rw [if_neg hz, lk_mapOff _ _ _ _ hz]
theorem putK_lk {l : List (Int × Int)} {x y : Int} : ∃ l', putK (kvI l) (Sum.inl x : Key) (V.int y) = kvI l' ∧ l'.length ≤ l.length + 1 ∧ ((l.map (·.1)).Nodup → (l'.map (·.1)).Nodup) ∧ ∀ z, lk l' z = if z = x then some y else lk l z := by
  by_cases h : x ∈ l.map (·.1)
  · refine ⟨l.map fun p => if p.1 = x then (p.1, y) else p, ?_, by simp, fun nd => ?_, fun z => ?_⟩
    · unfold putK
      rw [if_pos (by
        obtain ⟨p, hp, e⟩ := List.mem_map.mp h
        rw [List.any_eq_true]
        exact ⟨(Sum.inl p.1, V.int p.2), List.mem_map.mpr ⟨p, hp, rfl⟩, by simp [e]⟩)]
      unfold kvI
      rw [List.map_map, List.map_map]
      refine List.map_congr_left fun p _ => ?_
      by_cases e : p.1 = x
      · simp [e]
      · have e' : ¬ (Sum.inl p.1 : Key) = Sum.inl x := fun q => e (Sum.inl.inj q)
        simp [e]
    · have e : (l.map fun p => if p.1 = x then (p.1, y) else p).map (·.1) = l.map (·.1) := by
        rw [List.map_map]
        refine List.map_congr_left fun p _ => ?_
        by_cases e : p.1 = x <;> simp [e]
      rw [e]; exact nd
    · exact lk_mapPut l h z
  · refine ⟨l ++ [(x, y)], putK_kvI h, by simp, fun nd => ?_, fun z => ?_⟩
    · rw [List.map_append, List.nodup_append]
      refine ⟨nd, by simp, fun a ha b hb e => ?_⟩
      simp at hb
      subst hb
      exact h (e ▸ ha)
    · rw [lk_append]
      by_cases hz : z = x
      · subst hz; rw [lk_none h]; simp [lk]
      · have hz' : ¬ x = z := fun q => hz q.symm
        cases lk l z <;> simp [lk, hz, hz']
end U
namespace U
open PySem PySem.Spec PyProof.Rows L2
section
variable {J : It} {n : Nat} {G : Hp → Prop} {Y : Nat → Hp → V → Hp → Prop}
/-- a dict comprehension over a walk -/
theorem dc_it (w : Walk J n G Y) {g : TG} {tt : TT} {tk tv : TE} {vs : List Nat} {σ : L2.St} {H1 : Hp} {D : Addr} {Qd : Hp → Prop} (Pv : Nat → Hp → Prop) (h0 : Pv 0 (upd H1 D (.dK []))) (hG : ∀ i H, i ≤ n → Pv i H → G H)
    (hs : ∀ i x H H', i < n → Pv i H → Y i H x H' → g x (wipe σ vs) H' fun σ2 H2 => wipe σ2 vs = wipe σ vs ∧ tt σ2 H2 fun b H3 =>
      if b = true then tk σ2 H3 fun y H4 => tv σ2 H4 fun z H5 => ∃ kvs k, y = kV k ∧ H5 D = some (.dK kvs) ∧ kvs.length < sizeLine ∧ Pv (i + 1) (upd H5 D (.dK (putK kvs k z))) else Pv (i + 1) H3) (hd : ∀ H, Pv n H → Qd H) :
    ∃ W : Nat → Nat → Hp → Prop, (∃ m, W 0 m (upd H1 D (.dK []))) ∧ ∀ i m H, W i m H →
      (J.stop i H ∧ Qd H) ∨ (J.go i H ∧ ∃ Nx : Hp → Prop, (∀ H', Nx H' → ∃ m', m' < m ∧ W (i + 1) m' H') ∧ ∀ x H', J.yld i H x H' → g x (wipe σ vs) H' fun σ2 H2 => wipe σ2 vs = wipe σ vs ∧ tt σ2 H2 fun b H3 =>
        if b = true then tk σ2 H3 fun y H4 => tv σ2 H4 fun z H5 => ∃ kvs k, y = kV k ∧ H5 D = some (.dK kvs) ∧ kvs.length < sizeLine ∧ Nx (upd H5 D (.dK (putK kvs k z))) else Nx H3) := by
  refine ⟨fun i m H => m = n - i ∧ i ≤ n ∧ Pv i H, ⟨n, by simp, Nat.zero_le _, h0⟩, ?_⟩
  rintro i m H ⟨rfl, hi, p⟩
  have q := hG i H hi p
  by_cases hlt : i < n
  · exact .inr ⟨w.goes i H hlt q, Pv (i + 1), fun H' p' => ⟨n - (i + 1), by omega, rfl, hlt, p'⟩, fun x H' y => hs i x H H' hlt p (w.yields i H x H' hlt q y)⟩
  · have e : i = n := by omega
    subst e
    exact .inl ⟨w.stops H q, hd H p⟩
end
/-- what a comprehension over pairs makes -/
def madeD (c : Int → Int → Bool) (kf : Int → Int → Int) (vf : Int → Int → V) (l : List (Int × Int)) : List (Key × V) := (l.filter fun p => c p.1 p.2).map fun p => (Sum.inl (kf p.1 p.2), vf p.1 p.2)
theorem take_more {α : Type} {l : List α} {i : Nat} {x : α} (h : l[i]? = some x) : l.take (i + 1) = l.take i ++ [x] := by
  rw [List.take_add_one, h]; rfl
theorem valV_none {kvs : List (Key × V)} {k : Key} (h : k ∉ kvs.map (·.1)) : valV kvs k = none := by
  unfold valV
  rw [List.find?_eq_none.mpr]
  · rfl
  · intro p hp
    simp only [decide_eq_true_eq]
    exact fun e => h (List.mem_map.mpr ⟨p, hp, e⟩)
theorem madeD_step {c : Int → Int → Bool} {kf : Int → Int → Int} {vf : Int → Int → V} {l : List (Int × Int)} {i : Nat} {x y : Int} (h : l[i]? = some (x, y)) (nd : ((madeD c kf vf l).map (·.1)).Nodup) (hc : c x y = true) :
    putK (madeD c kf vf (l.take i)) (Sum.inl (kf x y)) (vf x y) = madeD c kf vf (l.take (i + 1)) := by
  have e : madeD c kf vf (l.take (i + 1)) = madeD c kf vf (l.take i) ++ [(Sum.inl (kf x y), vf x y)] := by
    rw [take_more h]
    unfold madeD
    rw [List.filter_append, List.map_append]
    simp [hc]
  have e2 : madeD c kf vf l = madeD c kf vf (l.take (i + 1)) ++ madeD c kf vf (l.drop (i + 1)) := by
    unfold madeD
    rw [← List.map_append, ← List.filter_append, List.take_append_drop]
  rw [e2, e, List.map_append, List.map_append] at nd
  have nd1 := (List.nodup_append.mp nd).1
  have nin : (Sum.inl (kf x y) : Key) ∉ (madeD c kf vf (l.take i)).map (·.1) := by
    intro hm
    exact (List.nodup_append.mp nd1).2.2 _ hm _ (by simp) rfl
  rw [putK_new _ (valV_none nin), e]
theorem madeD_skip {c : Int → Int → Bool} {kf : Int → Int → Int} {vf : Int → Int → V} {l : List (Int × Int)} {i : Nat} {x y : Int} (h : l[i]? = some (x, y)) (hc : c x y = false) :
    madeD c kf vf (l.take (i + 1)) = madeD c kf vf (l.take i) := by
  rw [take_more h]
  unfold madeD
  rw [List.filter_append, List.map_append]
  simp [hc]
theorem madeD_len (c : Int → Int → Bool) (kf : Int → Int → Int) (vf : Int → Int → V) (l : List (Int × Int)) (i : Nat) : (madeD c kf vf (l.take i)).length ≤ l.length := by
  unfold madeD
  rw [List.length_map]
  exact Nat.le_trans (List.length_filter_le _ _) (by rw [List.length_take]; omega)
/-- {k: v for x, y in d.items() if ..}, the tests and parts reading alone -/
theorem dc_items {K : PySem.W.Frag} {d : Addr} {l : List (Int × Int)} {te : TE} {i j : Nat} {tt : TT} {tk tv : TE} {vs : List Nat} {σ : L2.St} {H : Hp} {Q : VK} (c : Int → Int → Bool) (kf : Int → Int → Int) (vf : Int → Int → V)
    (hd : H d = some (.dK (kvI l))) (hte : ∀ H' (R : VK), R (.ref d) H' → Off d H H' → te σ H' R)
    (hw : ∀ a b, wipe (((wipe σ vs).set i a).set j b) vs = wipe σ vs)
    (hb : ∀ x y, (x, y) ∈ l → ∀ H1, Off d H H1 → (∀ R : Bool → Hp → Prop, R (c x y) H1 → tt (((wipe σ vs).set i (some (.int x))).set j (some (.int y))) H1 R) ∧
      (c x y = true → (∀ R : VK, R (.int (kf x y)) H1 → tk (((wipe σ vs).set i (some (.int x))).set j (some (.int y))) H1 R) ∧ ∀ R : VK, R (vf x y) H1 → tv (((wipe σ vs).set i (some (.int x))).set j (some (.int y))) H1 R))
    (nd : ((madeD c kf vf l).map (·.1)).Nodup) (hz : l.length < sizeLine)
    (hq : ∀ D H', H D = none → H' D = some (.dK (madeD c kf vf l)) → L2.Same H H' → Q (.ref D) H') :
    tLockE (tDc (iItems te) (gTup K 2 (gCons (gName i) (gCons (gName j) gNil))) tt tk tv vs) σ H Q := by
  refine ⟨d, _, hd, trivial, fun od => ?_⟩
  refine hte _ _ ⟨d, od, kvI l, rfl, upd_same, fun D hD => ?_⟩ Off.lock
  have hDd : D ≠ d := fun e => by rw [e, upd_same] at hD; cases hD
  have hD0 : H D = none := by rw [upd_ne hDd] at hD; exact hD
  refine dc_it walk_items (fun k H' => H' d = some (.frz od (.dK (kvI l))) ∧ Off d H H' ∧ H' D = some (.dK (madeD c kf vf (l.take k)))) ⟨?_, Off.lock.mut hD0, upd_same⟩ (fun k H' _ p => p.1) ?_ ?_
  · rw [upd_ne hDd.symm]; exact upd_same
  · rintro k v H' H'' hk ⟨p1, p2, p3⟩ ⟨T, a, b, rfl, hT, rfl, e1, e2⟩
    rw [kvI_length] at hk
    obtain ⟨⟨x, y⟩, exy⟩ : ∃ p, l[k]? = some p := ⟨_, List.getElem?_eq_getElem hk⟩
    have ek : (kvI l)[k]? = some (Sum.inl x, V.int y) := by unfold kvI; rw [List.getElem?_map, exy]; rfl
    dsimp only at e1 e2
    rw [ek] at e1 e2
    cases e1; cases e2
    have nTd : d ≠ T := ne_of_none p1 hT
    have nTD : D ≠ T := ne_of_none p3 hT
    refine ⟨T, [.int x, .int y], rfl, SqT.of upd_same, rfl, .int x, [.int y], rfl, .int y, [], rfl, rfl, ?_⟩
    refine ⟨hw _ _, ?_⟩
    have o2 : Off d H (upd H' T (.tup [.int x, .int y])) := p2.tr (Off.new hT)
    obtain ⟨b1, b2⟩ := hb x y (List.mem_of_getElem? exy) _ o2
    refine b1 _ ?_
    have d3 : (upd H' T (.tup [.int x, .int y])) d = some (.frz od (.dK (kvI l))) := by rw [upd_ne nTd]; exact p1
    have D3 : (upd H' T (.tup [.int x, .int y])) D = some (.dK (madeD c kf vf (l.take k))) := by rw [upd_ne nTD]; exact p3
    cases hc : c x y with
    | true =>
      refine iteT ?_
      obtain ⟨b3, b4⟩ := b2 hc
      refine b3 _ (b4 _ ⟨_, Sum.inl (kf x y), rfl, D3, Nat.lt_of_le_of_lt (madeD_len ..) hz, ?_⟩)
      refine ⟨?_, o2.mut hD0, ?_⟩
      · rw [upd_ne hDd.symm]; exact d3
      · rw [upd_same, madeD_step exy nd hc]
    | false =>
      refine iteF ⟨d3, o2, ?_⟩
      rw [madeD_skip exy hc]
      exact D3
  · rintro H' ⟨p1, p2, p3⟩
    rw [kvI_length, List.take_length] at p3
    refine ⟨p1, hq D _ hD0 ?_ (p2.back hd)⟩
    rw [upd_ne hDd]
    exact p3
/-- {k: v for x in range(lo, ..) if ..} -/
def madeR (c : Int → Bool) (kf : Int → Int) (vf : Int → V) (n : Nat) : List (Key × V) := ((List.range n).filter fun (i : Nat) => c (i : Int)).map fun (i : Nat) => ((Sum.inl (kf (i : Int)) : Key), vf (i : Int))
theorem madeR_succ (c : Int → Bool) (kf : Int → Int) (vf : Int → V) (n : Nat) : madeR c kf vf (n + 1) = madeR c kf vf n ++ (if c (n : Int) = true then [((Sum.inl (kf (n : Int)) : Key), vf (n : Int))] else []) := by
  unfold madeR
  rw [List.range_succ, List.filter_append, List.map_append]
  by_cases h : c (n : Int) = true
  · simp [h]
  · have h' : c (n : Int) = false := by simpa using h
    simp [h']
theorem madeR_len (c : Int → Bool) (kf : Int → Int) (vf : Int → V) (n : Nat) : (madeR c kf vf n).length ≤ n := by
  unfold madeR
  rw [List.length_map]
  exact Nat.le_trans (List.length_filter_le _ _) (by simp)
theorem madeR_keys {c : Int → Bool} {vf : Int → V} {n k : Nat} (h : (Sum.inl (k : Int) : Key) ∈ (madeR c (fun x => x) vf n).map (·.1)) : k < n := by
  unfold madeR at h
  rw [List.map_map] at h
  obtain ⟨i, hi, e⟩ := List.mem_map.mp h
  have h1 := (List.mem_filter.mp hi).1
  rw [List.mem_range] at h1
  have : (i : Int) = (k : Int) := Sum.inl.inj e
  omega
theorem dc_range {wi : TI} {i : Nat} {tt : TT} {tk tv : TE} {vs : List Nat} {σ : L2.St} {H0 H : Hp} {Q : VK} {n : Nat} (c : Int → Bool) (vf : Int → V) (hwi : ∀ R : It → Hp → Prop, R (Itr 0 n) H → wi σ H0 R)
    (hw : ∀ a, wipe ((wipe σ vs).set i a) vs = wipe σ vs)
    (hb : ∀ k : Nat, k < n → ∀ H1, L2.Same H H1 → (∀ R : Bool → Hp → Prop, R (c (k : Int)) H1 → tt ((wipe σ vs).set i (some (.int (0 + (k : Nat))))) H1 R) ∧
      (c (k : Int) = true → (∀ R : VK, R (.int (k : Int)) H1 → tk ((wipe σ vs).set i (some (.int (0 + (k : Nat))))) H1 R) ∧ ∀ R : VK, R (vf (k : Int)) H1 → tv ((wipe σ vs).set i (some (.int (0 + (k : Nat))))) H1 R))
    (hz : n < sizeLine) (hq : ∀ D H', H D = none → H' D = some (.dK (madeR c (fun x => x) vf n)) → L2.Same H H' → Q (.ref D) H') :
    tDc wi (gName i) tt tk tv vs σ H0 Q := by
  refine hwi _ ?_
  intro D hD
  refine dc_it walk_range (fun k H' => L2.Same H H' ∧ H' D = some (.dK (madeR c (fun x => x) vf k))) ⟨Same.new hD, upd_same⟩ (fun _ _ _ _ => trivial) ?_ ?_
  · rintro k v H' H'' hk ⟨p1, p2⟩ ⟨rfl, rfl⟩
    refine ⟨hw _, ?_⟩
    obtain ⟨b1, b2⟩ := hb k hk _ p1
    refine b1 _ ?_
    cases hc : c (k : Int) with
    | true =>
      refine iteT ?_
      obtain ⟨b3, b4⟩ := b2 hc
      refine b3 _ (b4 _ ⟨_, Sum.inl (k : Int), rfl, p2, Nat.lt_of_le_of_lt (madeR_len ..) (Nat.lt_trans hk hz), ?_, ?_⟩)
      · intro b o e
        rw [upd_ne (ne_of_none e hD)]
        exact p1 b o e
      · rw [upd_same, putK_new _ (valV_none fun z => Nat.lt_irrefl _ (madeR_keys z)), madeR_succ, if_pos hc]
    | false =>
      refine iteF ⟨p1, ?_⟩
      rw [madeR_succ, hc, p2]
      simp
  · rintro H' ⟨p1, p2⟩
    exact hq D _ hD p2 p1
end U
namespace U
open PySem PySem.Spec PyProof.Rows L2
end U
/-! ### own errors over any built-in error -/
namespace PySem
namespace GEX
open PySem.W PySem.Calls PyProof.Rows PySem.HandSPX Builtin Builtin.ObjectAttr
section
variable {prog : Program} {w : World} {A : Around} {E : Value → Shared → Prop} {R : Result → Shared → Prop} {hp : Heap} {gs : Array GenState} {dr : Drawn} {tn : Nat} {os : OsState}
/-- what is asked of the class's chain -/
structure Mro (m : List Value) : Prop where
  ob : m.contains (.type "object") = true
  ne : m.isEmpty = false
  ps : ∀ self : Value, refuseLoop self "__setattr__" m = pure ()
theorem mro_of {bmB bm : List Value} {B : String} (SF : StoreFacts B bmB "object.__setattr__" "object") (h : excTail bmB bm = true) (C : Addr) : Mro (.ref C :: bm) := by
  have h' : excTail bmB (.ref C :: bm) = true := h
  exact ⟨(excTail_contains "object" _ h').trans SF.hasOwner, rfl, fun self => excTail_pass self (SF.passes self) _ h'⟩
theorem osa_first {K : Frag} {nm : Str} {tk : Tok} {v : Value} {x C : Addr} {fv : Array Value} {cd : ClassData} (X : K.In hp) (hx : hp.get? x = some { cls := .ref C, data := .fields fv }) (hcd : clsIn K C = some cd) (hm : Mro cd.mro) (hh : cd.hasDict = true) (ha : findIn K (.ref C) nm = some none)
    (hq : ∀ h' tk' dx, (∀ b o, b ≠ x → hp.get? b = some o → h'.get? b = some o) → hp.objs.size ≤ dx → dx ≠ x → h'.get? x = some { cls := .ref C, dict := some dx, data := .fields fv } → h'.Ns1 dx (fun y => if y = nm then some v else none) → R (.ok (.ret .none)) ⟨h', gs, dr, tk', os⟩) :
    codeAny (model prog w) A (.call (.builtin "object.__setattr__") ⟨[.ref x, .str nm tk, v], []⟩) R ⟨hp, gs, dr, tn, os⟩ := by
  have I : InstAt hp x { cls := .ref C, data := .fields fv } C none := ⟨hx, rfl, rfl, trivial⟩
  have hxs : x ≠ hp.objs.size := Nat.ne_of_lt (Heap.lt_size hx)
  have S0 := F.store_object
  have l1 : Looks (model prog w) hp (isInstance (.ref x) (.type "object")) true := I.type.andThen (looks_mroIn X (by unfold mroIn; rw [hcd, Option.bind_some, if_neg (by rw [hm.ne]; decide), hm.ob]))
  refine codeAny_call_builtin S0.slot.plain S0.entry ?_
  refine @check_slot (model prog w) _ _ ⟨hp, gs, dr, tn, os⟩ "object.__setattr__" "object" "__setattr__" (.ref x) [.str nm tk, v] [] _ S0.kind S0.split l1 (S0.args (.ref x) (.str nm tk) v) ?_
  have l2 : Looks (model prog w) hp (mroOf (.ref C)) cd.mro := (looks_clsIn X hcd).andThen .now
  have l3 : Looks (model prog w) hp (storeTaker? none) none := .now
  have l4 : Looks (model prog w) hp (classData C) cd := looks_clsIn X hcd
  rw [osa_eq, refuse_eq]
  refine wpAny_bind (wpAny_bind (I.type.at (wpAny_bind (l2.at ?_)))); rw [hm.ps]
  refine wpAny_pure (wpAny_bind (I.type.at (wpAny_bind ((looks_findIn X ha).at (wpAny_bind (l3.at ?_))))))
  show wpAny _ _ (storeInOwnDict (.ref x) (.ref C) (.str nm tk) nm v false) _ _ _
  obtain ⟨c1, c2, c3, c4, c5, c6, c7, c8, c9, c10, c11⟩ := cd
  have hh' : c6 = true := hh
  subst hh'
  unfold storeInOwnDict ownDictForStores
  repeat (first | with_reducible refine HandSPX.store_in_new ?_ ?_ | with_reducible refine wpAny_loadPart_at hx ?_ | with_reducible refine l4.at ?_ | wp_step)
  · refine ⟨_, #[], _, (Heap.get?_update_ne _ _ _ _ hxs.symm).trans (Heap.get?_push_at rfl rfl), rfl, fun e he => ?_, fun _ => rfl⟩
    simp at he
  · intro h' tk' hn' hs
    have hx1 : (hp.push { cls := .type "dict", data := .dict #[] }).get? x = some { cls := .ref C, data := .fields fv } := Heap.get?_push_of_some _ hx
    exact hq h' tk' hp.objs.size (fun b o hb ho => (hs.2 b (Nat.ne_of_lt (Heap.lt_size ho))).trans ((Heap.get?_update_ne _ _ _ _ hb).trans (Heap.get?_push_of_some _ ho))) (Nat.le_refl _) hxs.symm ((hs.2 x hxs).trans (Heap.get?_update_self _ hx1 rfl)) hn'
theorem osa_more {K : Frag} {nm : Str} {tk : Tok} {v : Value} {x C dx : Addr} {fv : Array Value} {cd : ClassData} {m0 : Str → Option Value} {nl : List Str} (X : K.In hp) (hx : hp.get? x = some { cls := .ref C, dict := some dx, data := .fields fv }) (hns : hp.Ns1 dx m0) (hw : Within m0 nl) (hz : nl.length ≤ 1000) (hcd : clsIn K C = some cd) (hm : Mro cd.mro) (hh : cd.hasDict = true) (ha : findIn K (.ref C) nm = some none)
    (hq : ∀ h' tk', (∀ b o, b ≠ dx → hp.get? b = some o → h'.get? b = some o) → h'.Ns1 dx (fun y => if y = nm then some v else m0 y) → R (.ok (.ret .none)) ⟨h', gs, dr, tk', os⟩) :
    codeAny (model prog w) A (.call (.builtin "object.__setattr__") ⟨[.ref x, .str nm tk, v], []⟩) R ⟨hp, gs, dr, tn, os⟩ := by
  obtain ⟨oD, _, _, hoD, _, _⟩ := hns.count hw
  have I : InstAt hp x { cls := .ref C, dict := some dx, data := .fields fv } C (some oD) := ⟨hx, rfl, rfl, hoD⟩
  have S0 := F.store_object
  have l1 : Looks (model prog w) hp (isInstance (.ref x) (.type "object")) true := I.type.andThen (looks_mroIn X (by unfold mroIn; rw [hcd, Option.bind_some, if_neg (by rw [hm.ne]; decide), hm.ob]))
  refine codeAny_call_builtin S0.slot.plain S0.entry ?_
  refine @check_slot (model prog w) _ _ ⟨hp, gs, dr, tn, os⟩ "object.__setattr__" "object" "__setattr__" (.ref x) [.str nm tk, v] [] _ S0.kind S0.split l1 (S0.args (.ref x) (.str nm tk) v) ?_
  have l2 : Looks (model prog w) hp (mroOf (.ref C)) cd.mro := (looks_clsIn X hcd).andThen .now
  have l3 : Looks (model prog w) hp (storeTaker? none) none := .now
  have l4 : Looks (model prog w) hp (classData C) cd := looks_clsIn X hcd
  rw [osa_eq, refuse_eq]
  refine wpAny_bind (wpAny_bind (I.type.at (wpAny_bind (l2.at ?_)))); rw [hm.ps]
  refine wpAny_pure (wpAny_bind (I.type.at (wpAny_bind ((looks_findIn X ha).at (wpAny_bind (l3.at ?_))))))
  show wpAny _ _ (storeInOwnDict (.ref x) (.ref C) (.str nm tk) nm v false) _ _ _
  obtain ⟨c1, c2, c3, c4, c5, c6, c7, c8, c9, c10, c11⟩ := cd
  have hh' : c6 = true := hh
  subst hh'
  unfold storeInOwnDict ownDictForStores
  repeat (first | with_reducible refine OEX.store_in_old hns hw hz ?_ | with_reducible refine wpAny_loadPart_at hx ?_ | with_reducible refine l4.at ?_ | wp_step)
  intro h' tk' hn' hs
  exact hq h' tk' (fun b o hb ho => (hs.2 b hb).trans ho) hn'
end
end GEX
end PySem
namespace L2
open PySem PySem.Spec PyProof.Rows PySem.W
/-- what the written part says of an own error class -/
structure OexG (K : PySem.W.Frag) (C : Addr) : Prop where
  cls : ∃ B newId initId bmB nm q N bs bm sn sub ab col dd k0 k1 k2 k3 k5, PySem.StoreFacts B bmB "object.__setattr__" "object" ∧ ExcBaseFacts B newId initId bmB ∧ K.lookup C = some (excClassObj nm q C N bs bm true sn sub ab col dd k0 k1 k2 k3 k5 newId) ∧ PySem.W.excTail bmB bm = true
  sa : PySem.W.findIn K (.ref C) "__setattr__" = some (some (.builtin "object.__setattr__"))
  exC : PySem.W.subIn K (.ref C) (.type "BaseException") = some true
  tyC : PySem.W.typeIn K (.ref C) = some (.type "type")
  kC : PySem.W.keepIn K (.ref C) = true
section
variable {X : Cx} {pins : List (Addr × Obj)} {σ : St} {H : Hp} {s : Shared} {a C dx : Addr} {f : Str} {y : V} {u : Value} {fs : List (Str × V)} {Q : Unit → Shared → Prop} {E : Value → Shared → Prop} {A : Around}
theorem OexG.look {K : PySem.W.Frag} {C : Addr} (T : OexG K C) : ∃ cd, PySem.W.clsIn K C = some cd ∧ PySem.GEX.Mro cd.mro ∧ cd.hasDict = true := by
  obtain ⟨B, nI, iI, bmB, nm, q, N, bs, bm, sn, sub, ab, col, dd, k0, k1, k2, k3, k5, SF, _, hC, hb⟩ := T.cls
  refine ⟨{ name := nm, bases := bs, mro := .ref C :: bm, ns := N, qualname := q, hasDict := true, slotNames := sn, subclasses := sub, abstract := ab, collection := col, hasDel := false }, ?_, PySem.GEX.mro_of SF hb C, rfl⟩
  unfold PySem.W.clsIn
  rw [hC] <;> rfl
/-- self.f = y, none there as yet -/
theorem ostG_new (T : OexG X.K C) (I : Inv X pins σ H s) (e : H a = some (exo a C none)) (hno : PySem.W.findIn X.K (.ref C) f = some none) (ry : RelV y u)
    (k : ∀ dx s', H dx = none → dx ≠ a → Inv X pins σ (upd (upd H dx (exd dx [(f, y)])) a (exo a C (some dx))) s' → Q () s') : wpAny (model X.prog X.w) A (setAttr (.ref a) f u) Q E s := by
  obtain ⟨cd, hcd, hmr, hdc⟩ := T.look
  obtain ⟨t1, ho⟩ := exo_at I.hok e
  obtain ⟨h0, gs, dr, tn, os⟩ := s
  refine PySem.W.set_plain I.kIn (ox := ⟨.ref C, none, .fields #[.ref t1, .none, .none, .none, .bool false, .none], #[]⟩) (od := none) ⟨ho, rfl, rfl, trivial⟩ T.sa ?_
  refine PySem.GEX.osa_first I.kIn ho hcd hmr hdc hno fun h' tk' dx kp dn dne hx hn => ?_
  have dfree : H dx = none := I.hok.fresh dn
  have low : ∀ {b : Addr} {o : Obj}, h0.get? b = some o → b ≠ dx := fun q => Nat.ne_of_lt (Nat.lt_of_lt_of_le (Heap.lt_size q) dn)
  have apart : ∀ {b : Addr}, H b = none → b ≠ a := fun {b} n z => by subst z; rw [e] at n; cases n
  have U1 : Un X.fs [] H (upd (upd H dx (exd dx [(f, y)])) a (exo a C (some dx))) h0 h' := by
    refine ⟨fun b o q n _ _ => kp b o (apart n) q, fun b o q n _ _ => ⟨o.slots, kp b o (apart n) q⟩, fun b o q n _ => ?_, fun b o q _ => ?_, fun b xs q => ?_, fun b o v q => ?_, fun b ps q => ⟨#[], ?_⟩⟩
    · rw [upd_ne (apart n), upd_ne (low q)]; exact n
    · by_cases hb : b = a
      · subst hb; exact ⟨_, hx⟩
      · exact ⟨o, kp b o hb q⟩
    · rw [upd_ne (at_ne e q exo_tup), upd_ne (ne_of_none q dfree)]; exact q
    · rw [upd_ne (at_ne e q exo_frz), upd_ne (ne_of_none q dfree)]; exact q
    · rw [upd_ne (at_ne e q exo_tbl), upd_ne (ne_of_none q dfree), q]; simp
  refine k dx _ dfree dne (I.un (t' := tk') U1 fun b o q => ?_)
  by_cases hb : b = a
  · subst hb; rw [upd_same] at q; cases q
    exact exo_ok hx
  · rw [upd_ne hb] at q
    by_cases hd : b = dx
    · subst hd; rw [upd_same] at q; cases q
      exact exd_ok hn (relO_put (fs := []) ry fun _ => True.intro)
    · rw [upd_ne hd] at q
      refine (I.hok b o q).stay (fun c v hc z => kp c v ?_ z) (fun c hc => ?_) (fun c xs hc => ?_)
      · rcases hc with rfl | hc
        · exact hb
        · exact at_ne e hc exo_own
      · rw [upd_ne (at_ne e hc exo_own), upd_ne (ne_of_none hc dfree)]; exact hc
      · rw [upd_ne (at_ne e hc exo_tup), upd_ne (ne_of_none hc dfree)]; exact hc
theorem ostG_old (T : OexG X.K C) (I : Inv X pins σ H s) (e : H a = some (exo a C (some dx))) (ed : H dx = some (exd dx fs)) (hl : fs.length ≤ 900) (hno : PySem.W.findIn X.K (.ref C) f = some none) (ry : RelV y u)
    (k : ∀ s', Inv X pins σ (upd H dx (exd dx ((f, y) :: fs))) s' → Q () s') : wpAny (model X.prog X.w) A (setAttr (.ref a) f u) Q E s := by
  obtain ⟨cd, hcd, hmr, hdc⟩ := T.look
  obtain ⟨t1, ho⟩ := exo_at I.hok e
  obtain ⟨mA, hns, rel⟩ := exd_at I.hok ed
  have win := within_of rel
  obtain ⟨oD, _, _, hoD, _, _⟩ := hns.count win
  obtain ⟨h0, gs, dr, tn, os⟩ := s
  refine PySem.W.set_plain I.kIn (ox := ⟨.ref C, some dx, .fields #[.ref t1, .none, .none, .none, .bool false, .none], #[]⟩) (od := some oD) ⟨ho, rfl, rfl, hoD⟩ T.sa ?_
  refine PySem.GEX.osa_more I.kIn ho hns win (by rw [List.length_map]; omega) hcd hmr hdc hno fun h' tk' kp hn => ?_
  have there : ∃ o, h'.get? dx = some o := by
    obtain ⟨o, _, _, e', _⟩ := hn
    exact ⟨o, e'⟩
  exact k _ (I.write (t' := tk') (x := dx) (e := dx) (o := exd dx ((f, y) :: fs)) (by rw [ed]; exact True.intro) (.inl rfl) kp there (exd_ok hn (relO_put ry rel)))
end
/-- self.f = e, self an error being made -/
def tOstG (K : PySem.W.Frag) (f : Str) (to te : TE) : TS := fun D σ H => te σ H fun y H1 => to σ H1 fun x H2 => ∃ a C : Addr, x = .ref a ∧ OexG K C ∧ PySem.W.findIn K (.ref C) f = some none ∧
  ((H2 a = some (exo a C none) ∧ ∀ dx, H2 dx = none → dx ≠ a → D.nx σ (upd (upd H2 dx (exd dx [(f, y)])) a (exo a C (some dx)))) ∨
    ∃ (dx : Addr) (fs : List (Str × V)), H2 a = some (exo a C (some dx)) ∧ H2 dx = some (exd dx fs) ∧ fs.length ≤ 900 ∧ D.nx σ (upd H2 dx (exd dx ((f, y) :: fs))))
section
variable {X : Cx} {o e : Expr} {es : List Expr} {to te : TE} {ta : TA} {f : Str} {p p' pos : Pos}
theorem ps_ostG (ho : PE X o to) (he : PE X e te) (hs : swapsWith e (some (.Attribute o f p')) pos.line X.env = pure false := by rfl) : PS X (.Assign [.Attribute o f p'] e pos) (tOstG X.K f to te) := by
  refine ⟨fun pins s σ H D I h => plainObj_wpAny_Assign_Attribute (thn (he.run pins s σ H _ I h) fun v s1 ⟨y, H1, I1, r1, q1⟩ => thn (ho.run pins s1 σ H1 _ I1 q1) fun u s2 ⟨x, H2, I2, r2, a, C, ex, T, hno, q⟩ => ?_) hs⟩
  subst ex
  cases (show u = Value.ref a from r2)
  rcases q with ⟨ea, q⟩ | ⟨dx, fs, ea, ed, hl, q⟩
  · exact ostG_new T I2 ea hno r1 fun dx _ n ne J => ⟨σ, _, J, q dx n ne⟩
  · exact ostG_old T I2 ea ed hl hno r1 fun _ J => ⟨σ, _, J, q⟩
/-- C(e, ..) -/
theorem pmk_oexG {CX : CXT} {x : Str} {C fI : Addr} {k : Nat} {sp : Sp} (T : OexG X.K C) (iC : PySem.W.findIn X.K (.ref C) "__init__" = some (some (.ref fI))) (tI : PySem.W.typeIn X.K (.ref fI) = some (.type "function"))
    (F1 : FnR X.prog X.w X.K X.mg X.base CX k fI sp) (hr : Room (k + 1) X.A) (hx : Passes CX X (fun _ _ _ => False)) (hg : Gl X x) (hm : X.mg x = some (.ref C)) (ha : PA X (e :: es) ta)
    (hdb : (x == ("__debug__" : Str)) = false := by decide) (he : starEach (e :: es) X.env = (false, eval e X.env) :: starEach es X.env := by rfl) (hpl : (backTo pos (starEach es X.env)).any (·.1) = false := by rfl) :
    PMk X (.Call (.Name x p) (e :: es) [] pos) (tMkO C sp [] ta) := by
  intro pins s σ H Q I h
  obtain ⟨B, nI, iI, bmB, nm, q, N, bs, bm, sn, sub, ab, col, dd, k0, k1, k2, k3, k5, _, BF, hC, hbm⟩ := T.cls
  refine wpAny_Call_Name_kw (ld_glob I hg hm ?_ hdb)
  refine PySem.W.callWith_K (h₀ := X.base) I.ok.mod.kin T.kC (thn (ha.run pos pins s σ H _ I h) fun us s1 ⟨vs, H1, I1, r1, hz, q1⟩ => ⟨I1.kIn, ?_⟩) he hpl
  show wpAny _ _ (call (.ref C) us) _ _ _
  obtain ⟨h0, gs, dr, tn, os⟩ := s1
  have up : h0.objs.size ≤ h0.objs.size + 1 := Nat.le_succ _
  have hq := q1 (h0.objs.size + 1) (I1.hok.fresh up)
  rw [List.append_nil] at hq
  have kk : ∀ b o, h0.get? b = some o → ((h0.push (PySem.W.kdv_tup us)).push (PySem.HandSPX.excO C h0.objs.size)).get? b = some o := fun b o z => Heap.get?_push_of_some _ (Heap.get?_push_of_some _ z)
  have there : ((h0.push (PySem.W.kdv_tup us)).push (PySem.HandSPX.excO C h0.objs.size)).get? (h0.objs.size + 1) = some (PySem.HandSPX.excO C h0.objs.size) := by heap_get
  have I2 : Inv X pins σ (upd H1 (h0.objs.size + 1) (exo (h0.objs.size + 1) C none)) ⟨(h0.push (PySem.W.kdv_tup us)).push (PySem.HandSPX.excO C h0.objs.size), gs, dr, tn, os⟩ := I1.laid (t' := tn) kk up (exo_ok there)
  have r2 : Vals (V.ref (h0.objs.size + 1) :: vs) (Value.ref (h0.objs.size + 1) :: us) := .cons rfl r1
  have hus : us.length ≤ sizeLine := by rw [← Paired.length r1, sizeLine_eq]; omega
  refine wpAny_call (PySem.HandSPX.call_own BF (fun Y => PySem.W.excTail_contains Y bm hbm) (I1.kIn _ _ hC) (PySem.W.looks_findIn I1.kIn iC) (fun self => PySem.W.bind_fn I1.kIn self tI) hus ?_)
  refine codeAny_mono (F1 _ X.stack _ _ (Value.ref (h0.objs.size + 1) :: us) _ _ (fun _ _ _ => False) (hr.make C us []) (I2.env0.make C us []) r2 hq) fun r s' hq' => ?_
  cases r with
  | error er => exact hx pins σ _ _ er s' I2 hq'
  | ok fl =>
    cases fl with
    | ret u =>
      obtain ⟨v, H2, os2, bare2, un2, hok2, rv, ev, d, fs, ea, ed, hd1, q2⟩ := hq'
      subst ev
      obtain ⟨h2, g2, d2, t2, os'⟩ := s'
      exact ⟨rv, mk_end (raises_own T.exC T.tyC) I1 up kk un2 hok2 os2 bare2 ea ed hd1 q2⟩
    | next => exact False.elim hq'
    | brk => exact False.elim hq'
    | cont => exact False.elim hq'
end
end L2
namespace U
open PySem PySem.Spec PyProof.Rows L2 StX
section
variable {P : Program} {w : World} {K : PySem.W.Frag} {mg : Str → Option Value} {base : Heap}
/-- a def that may raise -/
theorem FnAt.okX {x qual : Str} {st : Stmt} {f : Addr} {N ps : List Str} {k : Nat} {sp : Sp} (A : FnAt K x qual st f ps) (S : FnScope N ps (defScope st)) (len : ∀ vs H Q E, sp vs H Q E → vs.length = ps.length)
    (hbody : ∀ (cdv : Value) (A : Around) (outer : List Env) (s : Shared) (H : Hp) (vs : List V) (Q : VK) (E : XK), Room k (A.deeper (envOfC qual (defScope st) s.heap.objs.size f cdv)) → sp vs H Q E →
      ∃ t, PSs (cxOf (L2.CX P w) P w K mg base N qual (defScope st) f cdv A outer s H E) (defBody st) t ∧ t { nx := fun _ H' => Q .non H', rt := Q } (start N vs) H) : FnR P w K mg base (L2.CX P w) (k + 1) f sp := by
  obtain ⟨fd, F, B⟩ := A.ex
  have R := (F.okX (P := P) (w := w) (mg := mg) (base := base) S len hbody).raw B .nil
  exact R.imp fun vs H Q E h => by rw [List.append_nil]; exact h
end
end U
namespace U
open PySem PySem.Spec PyProof.Rows L2 StX
end U
namespace U
open PySem PySem.Spec PyProof.Rows L2
section
variable {P : Program} {w : World} {K : PySem.W.Frag} {mg : Str → Option Value} {base : Heap}
/-- a def that may raise, called where it does not -/
theorem fnR_calm {k : Nat} {f : Addr} {sp : Sp} (F : FnR P w K mg base (L2.CX P w) k f sp) : FnR P w K mg base CX0 k f (fun vs H Q _ => sp vs H Q E0) := by
  intro A outer s H us vs Q E hr e0 r h
  refine codeAny_mono (F A outer s H us vs Q E0 hr e0 r h) fun r s' hq => ?_
  cases r with
  | error e =>
    obtain ⟨_, _, _, _, _, _, _, _, _, _, _, _, z⟩ := hq
    exact z.elim
  | ok fl => cases fl <;> exact hq
end
/-! ### own errors with one or two fields -/
def spIni1 (C : Addr) (f : Str) : Sp := fun vs H Q _ => ∃ (a : Addr) (v : V), vs = [.ref a, v] ∧ H a = some (exo a C none) ∧ ∀ dx, H dx = none → dx ≠ a → Q .non (upd (upd H dx (exd dx [(f, v)])) a (exo a C (some dx)))
def spIni2 (C : Addr) (f g : Str) : Sp := fun vs H Q _ => ∃ (a : Addr) (v u : V), vs = [.ref a, v, u] ∧ H a = some (exo a C none) ∧ ∀ dx, H dx = none → dx ≠ a → Q .non (upd (upd (upd H dx (exd dx [(f, v)])) a (exo a C (some dx))) dx (exd dx [(g, u), (f, v)]))
theorem mk_one {C : Addr} {f : Str} {v : V} {H : Hp} {Q : XK} (h : ∀ d, H d = none → Q (.ref C) (some d) (upd H d (.xd [(f, v)]))) :
    [v].length ≤ 1000 ∧ ∀ a, H a = none → spIni1 C f (.ref a :: ([v] ++ [])) (upd H a (exo a C none))
      (fun z H2 => z = .non ∧ ∃ (d : Addr) (fs : List (Str × V)), H2 a = some (exo a C (some d)) ∧ H2 d = some (exd d fs) ∧ H d = none ∧ Q (.ref C) (some d) (upd (del H2 a) d (.xd fs))) (fun _ _ _ => False) := by
  refine ⟨(by show 1 ≤ 1000; decide), fun a ha => ⟨a, v, rfl, upd_same, fun dx hd ne => ⟨rfl, dx, [(f, v)], upd_same, ?_, ?_, ?_⟩⟩⟩
  · rw [upd_ne ne, upd_same]
  · rw [upd_ne ne] at hd; exact hd
  · rw [upd_ne ne] at hd
    have e : upd (del (upd (upd (upd H a (exo a C none)) dx (exd dx [(f, v)])) a (exo a C (some dx))) a) dx (.xd [(f, v)]) = upd H dx (.xd [(f, v)]) := by
      funext b
      by_cases h1 : b = dx
      · subst h1; rw [upd_same, upd_same]
      · rw [upd_ne h1, upd_ne h1]
        by_cases h2 : b = a
        · subst h2
          rw [ha]
          unfold del
          simp
        · unfold del
          simp only [h2, if_false]
          rw [upd_ne h2, upd_ne h1, upd_ne h2]
    rw [e]
    exact h dx hd
theorem mk_two {C : Addr} {f g : Str} {v u : V} {H : Hp} {Q : XK} (h : ∀ d, H d = none → Q (.ref C) (some d) (upd H d (.xd [(g, u), (f, v)]))) :
    [v, u].length ≤ 1000 ∧ ∀ a, H a = none → spIni2 C f g (.ref a :: ([v, u] ++ [])) (upd H a (exo a C none))
      (fun z H2 => z = .non ∧ ∃ (d : Addr) (fs : List (Str × V)), H2 a = some (exo a C (some d)) ∧ H2 d = some (exd d fs) ∧ H d = none ∧ Q (.ref C) (some d) (upd (del H2 a) d (.xd fs))) (fun _ _ _ => False) := by
  refine ⟨(by show 2 ≤ 1000; decide), fun a ha => ⟨a, v, u, rfl, upd_same, fun dx hd ne => ⟨rfl, dx, [(g, u), (f, v)], ?_, upd_same, ?_, ?_⟩⟩⟩
  · rw [upd_ne ne.symm, upd_same]
  · rw [upd_ne ne] at hd; exact hd
  · rw [upd_ne ne] at hd
    have e : upd (del (upd (upd (upd (upd H a (exo a C none)) dx (exd dx [(f, v)])) a (exo a C (some dx))) dx (exd dx [(g, u), (f, v)])) a) dx (.xd [(g, u), (f, v)]) = upd H dx (.xd [(g, u), (f, v)]) := by
      funext b
      by_cases h1 : b = dx
      · subst h1; rw [upd_same, upd_same]
      · rw [upd_ne h1, upd_ne h1]
        by_cases h2 : b = a
        · subst h2
          rw [ha]
          unfold del
          simp
        · unfold del
          simp only [h2, if_false]
          rw [upd_ne h1, upd_ne h2, upd_ne h1, upd_ne h2]
    rw [e]
    exact h dx hd
end U
namespace U
open PySem PySem.Spec PyProof.Rows L2
end U
namespace U
open PySem PySem.Spec PyProof.Rows L2 StX
/-! ### defs that are called where no repr runs around them -/
def FnG (P : Program) (w : World) (K : PySem.W.Frag) (mg : Str → Option Value) (base : Heap) (CX : CXT) (k : Nat) (f : Addr) (sp : Sp) : Prop :=
  ∀ (A : Around) (outer : List Env) (s : Shared) (H : Hp) (us : List Value) (vs : List V) (Q : VK) (E : XK), A.guards = some [] → Room k A → Env0 P w K mg base A outer s H → Vals vs us → sp vs H Q E → codeAny (model P w) A (.call (.ref f) ⟨us, []⟩) (CR CX outer P w H s Q E) s
section
variable {P : Program} {w : World} {K : PySem.W.Frag} {mg : Str → Option Value} {base : Heap} {CX : CXT} {j k : Nat} {f : Addr} {sp sp' : Sp}
theorem FnG.mono (F : FnG P w K mg base CX j f sp) (h : j ≤ k) : FnG P w K mg base CX k f sp := fun A outer s H us vs Q E g hr => F A outer s H us vs Q E g (hr.mono h)
theorem FnG.imp (F : FnG P w K mg base CX k f sp) (h : ∀ vs H Q E, sp' vs H Q E → sp vs H Q E) : FnG P w K mg base CX k f sp' := fun A outer s H us vs Q E g hr e0 r z => F A outer s H us vs Q E g hr e0 r (h _ _ _ _ z)
/-- the body's walk, with what is around -/
theorem bodyG {x qual : Str} {st : Stmt} {fd : FuncData} {N ps : List Str} (F : Fun K x qual st f fd) (S : FnScope N ps (defScope st)) (len : ∀ vs H Q E, sp vs H Q E → vs.length = ps.length)
    (hbody : ∀ (cdv : Value) (A : Around) (outer : List Env) (s : Shared) (H : Hp) (vs : List V) (Q : VK) (E : XK), A.guards = some [] → Room k (A.deeper (envOfC qual (defScope st) s.heap.objs.size f cdv)) → sp vs H Q E →
      ∃ t, PSs (cxOf CX P w K mg base N qual (defScope st) f cdv A outer s H E) (defBody st) t ∧ t { nx := fun _ H' => Q .non H', rt := Q } (start N vs) H)
    (A : Around) (outer : List Env) (s : Shared) (H : Hp) (args : Args) (us : List Value) (vs : List V) (Q : VK) (E : XK) (g : A.guards = some []) (hr : Room (k + 1) A) (e0 : Env0 P w K mg base A outer s H) (hb : BindsTo s fd args (ps.zip us)) (r : Vals vs us) (hs : sp vs H Q E) :
    codeAny (model P w) A (.call (.ref f) args) (CR CX outer P w H s Q E) s := by
  obtain ⟨oc, od, kV, doc, pm, an, cdv, ct, osl, rfl, lk, hcd⟩ := F.ex
  have hl := len _ _ _ _ hs
  have kin : K.In s.heap := e0.mod.kin.keeps fun b o e => (e0.bs b o e).1
  have lim : s.heap.NoLimit := e0.mod.nolimit.keeps fun b o e => (e0.bs b o e).1
  have names : ∀ y ∈ ps.zip us, (defScope st).names.lookup y.1 = some .local ∨ ((defScope st).names.lookup y.1 = some .cell ∧ ((cellsFrom (s.heap.objs.size + 1) (defScope st).names []).lookup y.1).isSome = true) := by
    rintro ⟨n, v⟩ hy
    rcases S.par n (List.of_mem_zip hy).1 with q | q
    · exact .inl q
    · exact .inr ⟨q, PySem.W.cellsFrom_some _ _ _ (.inl q)⟩
  refine codeAny_call_function hr.depth (kin _ _ lk) rfl S.co S.gen rfl (PySem.W.codeRec_of kin hcd) (hb _ _ _ _ ?_)
  refine wpAny_newFunctionEnv_cells S.kind names fun env he s1 z => ?_
  subst he
  refine ⟨lim.keeps z.toInCall.keep, codeAny_func ?_⟩
  obtain ⟨t, ht, hq⟩ := hbody cdv A outer s H vs Q E g (hr.deeper _) hs
  have I : Inv (cxOf CX P w K mg base N qual (defScope st) f cdv A outer s H E) [] (start N vs) H s1 := inv_start S hr.hd e0 hl r z
  refine wpAny_mono (ht.run [] s1 (start N vs) H _ I hq) (fun fl s' h' => ?_) fun _ _ h' => h'
  match fl, h' with
  | .ret u, ⟨v, σ', H', J, rv, q⟩ => exact ⟨v, H', J.os, J.bare, J.base, J.hok, rv, q⟩
  | .next, ⟨σ', H', J, q⟩ => exact ⟨.non, H', J.os, J.bare, J.base, J.hok, rfl, q⟩
  | .brk, ⟨_, _, _, q⟩ => exact q.elim
  | .cont, ⟨_, _, _, q⟩ => exact q.elim
theorem FnAt.okG {x qual : Str} {st : Stmt} {N ps : List Str} (B : FnAt K x qual st f ps) (S : FnScope N ps (defScope st)) (len : ∀ vs H Q E, sp vs H Q E → vs.length = ps.length)
    (hbody : ∀ (cdv : Value) (A : Around) (outer : List Env) (s : Shared) (H : Hp) (vs : List V) (Q : VK) (E : XK), A.guards = some [] → Room k (A.deeper (envOfC qual (defScope st) s.heap.objs.size f cdv)) → sp vs H Q E →
      ∃ t, PSs (cxOf CX0 P w K mg base N qual (defScope st) f cdv A outer s H E).nox (defBody st) t ∧ t { nx := fun _ H' => Q .non H', rt := Q } (start N vs) H) : FnG P w K mg base CX0 (k + 1) f sp := by
  obtain ⟨fd, F, bi⟩ := B.ex
  intro A outer s H us vs Q E g hr e0 r hs
  have hl : (us ++ []).length = ps.length := by rw [List.append_nil, ← r.length]; exact len _ _ _ _ hs
  refine bodyG F S len (fun cdv A outer s H vs Q E g hr hs => ?_) A outer s H ⟨us, []⟩ us vs Q E g hr e0 ?_ r hs
  · obtain ⟨t, h, q⟩ := hbody cdv A outer s H vs Q E g hr hs
    exact ⟨t, h.nox, q⟩
  · have := bi s us (e0.mod.kin.keeps fun b o e => (e0.bs b o e).1) hl
    rw [List.append_nil] at this
    exact this
end
section
variable {X : Cx} {CX : CXT} {pins : List (Addr × Obj)} {σ : L2.St} {H : Hp} {s : Shared} {f : Addr} {k : Nat} {sp : Sp} {x : Str} {e : Expr} {es : List Expr} {t : TA} {pp pos : Pos}
theorem run_G {Q : VK} {us : List Value} {vs : List V} {E : XK} (F : FnG X.prog X.w X.K X.mg X.base CX k f sp) (g : X.A.guards = some []) (hr : Room k X.A) (hx : PassesAt CX X σ E) (I : Inv X pins σ H s) (r : Vals vs us) (h : sp vs H Q E) :
    codeAny (model X.prog X.w) X.A (.call (.ref f) ⟨us, []⟩) (fun r s' => match r with | .ok (.ret v) => EP X pins σ Q v s' | .ok _ => False | .error e => X.xe e s') s := by
  refine codeAny_mono (F X.A X.stack s H us vs Q E g hr I.env0 r h) fun z s' hq => ?_
  match z, hq with
  | .error er, hq => exact hx pins H s er s' I hq
  | .ok (.ret w), hq => exact I.after hq
  | .ok .next, hq => exact hq.elim
  | .ok .brk, hq => exact hq.elim
  | .ok .cont, hq => exact hq.elim
/-- x(e, ..), x such a def -/
theorem pe_callG {E : XK} (F : FnG X.prog X.w X.K X.mg X.base CX k f sp) (g : X.A.guards = some []) (hr : Room k X.A) (hk : PySem.W.keepIn X.K (.ref f) = true) (hg : Gl X x) (hm : X.mg x = some (.ref f)) (hx : Passes CX X E) (ha : PA X (e :: es) t) (hdb : (x == ("__debug__" : Str)) = false := by decide)
    (he : starEach (e :: es) X.env = (false, eval e X.env) :: starEach es X.env := by rfl) (hpl : (backTo pos (starEach es X.env)).any (·.1) = false := by rfl) : PE X (.Call (.Name x pp) (e :: es) [] pos) (tCallR sp E t) := by
  refine ⟨fun pins s σ H Q I h => wpAny_Call_Name_kw (ld_glob I hg hm ?_ hdb)⟩
  exact PySem.W.callWith_K (h₀ := X.base) I.ok.mod.kin hk (thn (ha.run pos pins s σ H _ I h) fun us s1 ⟨vs, H1, I1, r, q⟩ => ⟨I1.kIn, wpAny_call (run_G F g hr (fun pins H s e s' => hx pins σ H s e s') I1 r q)⟩) he hpl
/-! ### repr -/
/-- repr(v), v a None, a bool, an int, a text, lists and tuples of them -/
def rRepr (K : PySem.W.Frag) : List V → Hp → VK → Prop := fun xs H Q => ∃ v d, xs = [v] ∧ Dp K H v d ∧ d.showable = true ∧ d.hasDict = false ∧ d.depth ≤ 60 ∧ d.shown.length ≤ sizeLine ∧ Q (.str d.shown) H
theorem call_repr (g : X.A.guards = some []) (hu : X.A.units + 64 < cLine) : CallR X (.builtin "repr") (rRepr X.K) := by
  intro pins s σ H xs us Q I r h
  obtain ⟨v, d, rfl, hd, hs, hn, hdp, hz, q⟩ := h
  obtain ⟨u, rfl, ru⟩ := r.one
  obtain ⟨as, rd⟩ := Dp.reads I d v u hd ru
  cases rd with
  | none =>
    simp only [PyData.shown] at q
    exact PySem.P.repr_of_none ⟨.str _, H, I.tok _, ⟨_, rfl⟩, q⟩
  | bool b =>
    simp only [PyData.shown] at q
    exact PySem.P.repr_of_bool ⟨.str _, H, I.tok _, ⟨_, rfl⟩, q⟩
  | int i t =>
    simp only [PyData.shown] at q
    exact PySem.P.repr_of_int (by simpa [PyData.showable] using hs) ⟨.str _, H, I.tok _, ⟨_, rfl⟩, q⟩
  | str x t =>
    simp only [PyData.shown] at q hz
    exact PySem.P.repr_of_str ⟨.str _, H, I.tok _, ⟨_, rfl⟩, q⟩ hz
  | list h1 h2 h3 h4 => exact repr_of_reads' (.list h1 h2 h3 h4) hs (PyData.noDict_hsm hn) g (by omega) (fun _ _ e => e) (fun h' u tk hk => ⟨.str _, H, I.kept (t' := tk) hk, ⟨_, rfl⟩, q⟩) hz
  | tuple h1 h2 h3 h4 => exact repr_of_reads' (.tuple h1 h2 h3 h4) hs (PyData.noDict_hsm hn) g (by omega) (fun _ _ e => e) (fun h' u tk hk => ⟨.str _, H, I.kept (t' := tk) hk, ⟨_, rfl⟩, q⟩) hz
  | dict h1 h2 h3 h4 h5 => simp [PyData.hasDict] at hn
/-- repr of a scalar, whatever runs around -/
def rRepr0 : List V → Hp → VK → Prop := fun xs H Q => (xs = [.non] ∧ Q (.str "None") H) ∨ (∃ b, xs = [.bl b] ∧ Q (.str (if b then "True" else "False")) H) ∨ ∃ i : Int, xs = [.int i] ∧ i.natAbs.log2 < 1920 ∧ Q (.str (toString i)) H
theorem call_repr0 : CallR X (.builtin "repr") rRepr0 := by
  intro pins s σ H xs us Q I r h
  rcases h with ⟨rfl, q⟩ | ⟨b, rfl, q⟩ | ⟨i, rfl, hz, q⟩
  · obtain ⟨u, rfl, ru⟩ := r.one
    cases ru
    exact PySem.P.repr_of_none ⟨.str _, H, I.tok _, ⟨_, rfl⟩, q⟩
  · obtain ⟨u, rfl, ru⟩ := r.one
    cases ru
    exact PySem.P.repr_of_bool ⟨.str _, H, I.tok _, ⟨_, rfl⟩, q⟩
  · obtain ⟨u, rfl, ru⟩ := r.one
    obtain ⟨t, rfl⟩ := ru
    exact PySem.P.repr_of_int hz ⟨.str _, H, I.tok _, ⟨_, rfl⟩, q⟩
/-! ### a dict of ints, shown -/
end
end U
namespace U
open PySem PySem.Spec PyProof.Rows L2 StX
/-- what holds no other object -/
inductive Sc : V → PyData → Prop
  | non : Sc .non .none
  | bl (b : Bool) : Sc (.bl b) (.bool b)
  | int (i : Int) : Sc (.int i) (.int i)
  | str (x : Str) : Sc (.str x) (.str x)
def keyD : Key → PyData
  | .inl i => .int i
  | .inr x => .str x
theorem Sc.reads {h : Heap} {v : V} {d : PyData} {u : Value} (s : Sc v d) (r : RelV v u) : Reads h u d [] := by
  cases s with
  | non => cases r; exact .none
  | bl b => cases r; exact .bool b
  | int i => obtain ⟨t, rfl⟩ := r; exact .int i t
  | str x => obtain ⟨t, rfl⟩ := r; exact .str x t
theorem flat_reads {prog : Program} {w : World} {h : Heap} : ∀ {es : List DictEntry} {va : List (Key × Value)} {kvs : List (Key × V)} {ds : List PyData}, Pairs (mixKind prog w) es va → KV kvs va → Paired (fun kv d => Sc kv.2 d) kvs ds →
    ReadsAll h (es.map (·.key)) (kvs.map fun kv => keyD kv.1) [] ∧ ReadsAll h (es.map (·.val)) ds []
  | [], _, _, _, .nil, r, z => by
    cases r
    cases z
    exact ⟨.nil, .nil⟩
  | e :: es, _, _, _, .cons h1 h2 h3, r, z => by
    unfold KV at r
    cases r with
    | cons q r =>
      cases z with
      | cons zc z =>
        obtain ⟨g1, g2⟩ := flat_reads (h := h) h3 r z
        obtain ⟨q1, q2⟩ := q
        refine ⟨.cons (as := []) ?_ g1, .cons (as := []) ?_ g2⟩
        · show Reads h e.key (keyD _) []
          rw [q1]
          rcases keyIs_shape h1 with ⟨i, t, e1, e2⟩ | ⟨x, t, e1, e2⟩
          · rw [e1, e2]; exact .int i t
          · rw [e1, e2]; exact .str x t
        · show Reads h e.val _ []
          rw [h2]
          exact zc.reads q2
def flatD (kvs : List (Key × V)) (ds : List PyData) : PyData := .dict ((kvs.map fun kv => keyD kv.1).zip ds)
theorem dict_reads {X : Cx} {pins : List (Addr × Obj)} {σ : L2.St} {H : Hp} {s : Shared} {a : Addr} {kvs : List (Key × V)} {ds : List PyData} (I : Inv X pins σ H s) (ea : H a = some (.dK kvs)) (z : Paired (fun kv d => Sc kv.2 d) kvs ds) :
    ∃ as, Reads s.heap (.ref a) (flatD kvs ds) as ∧ sysModules ∉ as := by
  obtain ⟨_, ya, va, ra, o, es, ep, ho, hc, hd, _, hp, _⟩ := (show ObjOk X.prog X.w H s.heap a (.dK kvs) from I.hok a _ ea)
  obtain ⟨g1, g2⟩ := flat_reads (h := s.heap) hp ra z
  have lz : kvs.length = ds.length := Paired.length z
  have e1 : (((kvs.map fun kv => keyD kv.1).zip ds).map (·.1)) = kvs.map fun kv => keyD kv.1 := List.map_fst_zip (by rw [List.length_map, lz]; exact Nat.le_refl _)
  have e2 : (((kvs.map fun kv => keyD kv.1).zip ds).map (·.2)) = ds := List.map_snd_zip (by rw [List.length_map, lz]; exact Nat.le_refl _)
  refine ⟨a :: [] ++ [], .dict ho hc.1 hd (by rw [e1]; exact g1) (by rw [e2]; exact g2), ?_⟩
  simp only [List.append_nil, List.mem_singleton]
  intro e
  rw [← e] at ya
  simp at ya
section
variable {X : Cx} {CX : CXT} {k : Nat} {f C : Addr} {sp : Sp} {E : XK} {n : Nat} {g : Addr}
/-- repr(d), a dict of scalars -/
def rReprF : List V → Hp → VK → Prop := fun xs H Q => ∃ a kvs ds, xs = [.ref a] ∧ H a = some (.dK kvs) ∧ Paired (fun kv d => Sc kv.2 d) kvs ds ∧ (flatD kvs ds).showable = true ∧ (flatD kvs ds).depth ≤ 60 ∧ (flatD kvs ds).shown.length ≤ sizeLine ∧ Q (.str (flatD kvs ds).shown) H
theorem call_reprF (g : X.A.guards = some []) (hu : X.A.units + 64 < cLine) : CallR X (.builtin "repr") rReprF := by
  intro pins s σ H xs us Q I r h
  obtain ⟨a, kvs, ds, rfl, ea, z, hs, hdp, hz, q⟩ := h
  obtain ⟨u, rfl, ru⟩ := r.one
  cases (show u = Value.ref a from ru)
  obtain ⟨as, rd, hn⟩ := dict_reads I ea z
  exact repr_of_reads' rd hs (fun _ => hn) g (by omega) (fun _ _ e => e) (fun h' u tk hk => ⟨.str _, H, I.kept (t' := tk) hk, ⟨_, rfl⟩, q⟩) hz
def rNeV (K : PySem.W.Frag) (C : Addr) (sp : Sp) (E : XK) : R2 := fun x y H Q => ∃ a dx fs t, x = .ref a ∧ H a = some (.ins C dx fs) ∧ TyX K H y t ∧ PySem.W.notFirst K C t = true ∧ sp [x, y] H (fun z H' => ∃ c, z = .bl c ∧ Q (.bl (!c)) H') E
theorem op_neV (oc : OwnC X.K C) (hne : PySem.W.findIn X.K (.ref C) "__ne__" = some (some (.builtin "object.__ne__"))) (hs : PySem.W.findIn X.K (.ref C) "__eq__" = some (some (.ref g))) (hf : PySem.W.isFn X.K (.ref g) = true) (F : FnR X.prog X.w X.K X.mg X.base CX n g sp)
    (hr : Room (n + 1) X.A) (hx : Passes CX X E) : OpR X (compareOp .NotEq) (rNeV X.K C sp E) := by
  intro pins s σ H x y v u Q I rx ry h
  obtain ⟨a, dx, vs, t, rfl, ha, ty, nf, q⟩ := h
  cases (show v = Value.ref a from rx)
  obtain ⟨ox, od, J⟩ := ins_inst I ha
  obtain ⟨Pq, Z, pq, _⟩ := kit_of I ry ty
  obtain ⟨m, hF⟩ := I.fr
  have hr1 : Room n X.A.in1 := Room.in1 hr
  refine PySem.W.my_ne_K (tb := t) (hu_of hr) hF I.ok.mod.kin J (Z.ty _ _ I.kIn pq) nf hne oc.cm hs hf ?_
  refine wpAny_mono (wpAny_call (SlX.run_at (us := [.ref a, u]) (ws := [.ref a, y]) F hr1 I.env0.in1 hx I (.cons rfl (.cons ry .nil)) q)) (fun w s' z => ?_) fun _ _ x => x
  obtain ⟨z', H', I', rz, c, ez, qz⟩ := z
  subst ez
  cases (show w = Value.bool c from rz)
  exact ⟨c, rfl, .bl (!c), H', I', rfl, qz⟩
end
end U
namespace U
open PySem PySem.Spec PyProof.Rows L2 StX
/-! ### the law's call, where no repr runs around it -/
section
variable {P : Program} {w : World} {K : PySem.W.Frag} {mg mb : Str → Option Value} {k : Nat} {fa sc : Addr} {sp : Sp} {s1 : Shared} {us : List Value} {ns : List Int}
/-- from an abstract heap that tracks at most the script -/
theorem law_core (inK : K.In s1.heap) (glob : s1.heap.Ns mainGlobals mg) (blt : s1.heap.Ns builtinsNs mb) (blt2 : ∀ x : Str, x ≠ "__name__" → mb x = bootBuiltins x) (lim : s1.heap.NoLimit) (gens : s1.gens = #[])
    (there : s1.heap.get? sc = some { cls := .type "list", data := .seq us.toArray }) (room : Room k callerA)
    (F : ∀ base : Heap, FnG P w K mg base CX0 k fa sp)
    (H : Hp) (only : Only H) (hok : HOk P w H s1.heap) (just : ∀ b, H b ≠ none → b = sc) (offK : H sc ≠ none → K.lookup sc = none)
    (prom : sp [.ref sc] H (fun v _ => v = .bl true) E0) :
    codeAny (model P w) callerA (.call (.ref fa) ⟨[.ref sc], []⟩) (fun r s' => r = .ok (.ret (.bool true)) ∧ OldK s1.heap s'.heap ∧ s'.os = s1.os ∧ AllBare s'.gens) s1 := by
  have isSc : ∀ {b : Addr} {u : HO}, H b = some u → b = sc := fun {b u} e => just b fun z => by rw [z] at e; cases e
  have free : ∀ {b : Addr} {o : Obj} {es : Array DictEntry} {ep : Nat}, s1.heap.get? b = some o → o.data = .dict es ep → H b = none := by
    intro b o es ep e d
    cases hb : H b with
    | none => rfl
    | some u =>
      have := isSc hb
      subst this
      rw [there] at e
      cases e
      exact absurd (show Data.seq us.toArray _ = Data.dict es ep from d) (by intro z; cases z)
  have spaces : ∀ {b : Addr} {m : Str → Option Value}, s1.heap.Ns b m → (hidT s1.heap H).Ns b m := by
    rintro b m ⟨o, es, ep, e, d, r⟩
    exact ⟨o, es, ep, hidT_get e (free e d), d, r⟩
  have inB : K.In (hidT s1.heap H) := by
    intro b o e
    refine hidT_get (inK b o e) ?_
    cases hb : H b with
    | none => rfl
    | some u =>
      have := isSc hb
      subst this
      have z := offK (by rw [hb]; intro z; cases z)
      rw [e] at z
      cases z
  have md : Mod K mg (hidT s1.heap H) := by
    obtain ⟨mc, l1, l2⟩ := lim
    exact ⟨inB, spaces glob, ⟨mb, spaces blt, blt2⟩, ⟨mc, spaces l1, l2⟩⟩
  have env : Env0 P w K mg (hidT s1.heap H) callerA [] s1 H := by
    refine ⟨rfl, md, fun b o e => of_hidT e, Nat.le_of_eq (hidT_size _ _), trivial, fun b hb => ?_, hok, .of_eq gens⟩
    exact absurd hb List.not_mem_nil
  refine codeAny_mono (F (hidT s1.heap H) callerA [] s1 H [.ref sc] [.ref sc] (fun v _ => v = .bl true) E0 rfl room env (.cons rfl .nil) prom) fun r s' h => ?_
  match r, h with
  | .error e, h => exact h.elim
  | .ok .next, h => exact h.elim
  | .ok .brk, h => exact h.elim
  | .ok .cont, h => exact h.elim
  | .ok (.ret u), ⟨v, H', os, bare, un, hok', rv, q⟩ =>
    subst q
    cases (show u = Value.bool true from rv)
    refine ⟨rfl, OldK.of_keep fun b o e => ?_, os, bare⟩
    cases hb : H b with
    | none => exact un.keep b o e hb (fun z => absurd z List.not_mem_nil) (by simp)
    | some u =>
      rcases only b with z | ⟨ob, xs, z⟩
      · rw [hb] at z
        cases z
      · have a1 := (hok b _ z).1
        have a2 := (hok' b _ (un.frzs b ob _ z)).1
        rw [e] at a1
        cases a1
        exact a2
theorem law_callG (inK : K.In s1.heap) (glob : s1.heap.Ns mainGlobals mg) (blt : s1.heap.Ns builtinsNs mb) (blt2 : ∀ x : Str, x ≠ "__name__" → mb x = bootBuiltins x) (lim : s1.heap.NoLimit) (gens : s1.gens = #[])
    (there : s1.heap.get? sc = some { cls := .type "list", data := .seq us.toArray }) (inS : IntsAre us ns) (len : ns.length ≤ sizeLine) (room : Room k callerA)
    (F : ∀ base : Heap, FnG P w K mg base CX0 k fa sp)
    (prom : ∀ H : Hp, SqL K H sc (ns.map V.int) → sp [.ref sc] H (fun v _ => v = .bl true) E0) :
    codeAny (model P w) callerA (.call (.ref fa) ⟨[.ref sc], []⟩) (fun r s' => r = .ok (.ret (.bool true)) ∧ OldK s1.heap s'.heap ∧ s'.os = s1.os ∧ AllBare s'.gens) s1 := by
  have rv := vals_ints inS
  have go := law_core (P := P) (w := w) (k := k) (fa := fa) (sp := sp) inK glob blt blt2 lim gens there room F
  cases hk : K.lookup sc with
  | some o =>
    have e := inK sc o hk
    rw [there] at e
    cases e
    refine go (fun _ => none) (fun _ => .inl rfl) (fun b u z => by cases (show (none : Option HO) = some u from z)) (fun b z => absurd rfl z) (fun z => absurd rfl z) (prom _ ?_)
    refine .inr ⟨_, us.toArray, _, hk, rfl, rfl, rfl, ?_, by simpa using rv⟩
    rw [List.size_toArray, inS.length]
    exact len
  | none =>
    have at_ : (fun b => if b = sc then some (HO.frz { cls := .type "list", data := .seq us.toArray } (.lst (ns.map V.int))) else none) sc = some (.frz { cls := .type "list", data := .seq us.toArray } (.lst (ns.map V.int))) := if_pos rfl
    refine go (fun b => if b = sc then some (.frz { cls := .type "list", data := .seq us.toArray } (.lst (ns.map V.int))) else none) (fun b => ?_) (fun b u z => ?_) (fun b z => ?_) (fun _ => hk) (prom _ (.inl (.inr ⟨_, at_⟩)))
    · by_cases hb : b = sc
      · subst hb
        exact .inr ⟨_, _, at_⟩
      · exact .inl (if_neg hb)
    · by_cases hb : b = sc
      · subst hb
        rw [at_] at z
        cases z
        refine ⟨there, ?_, us, _, rv, there⟩
        rw [List.length_map]
        exact len
      · have no := (if_neg hb).symm.trans z
        cases no
    · refine Classical.byContradiction fun hb => z (if_neg hb)
end
/-- the goal that k_head leaves, from the law's promise -/
theorem walkG {l : PySem.W.OpenLaw} {n k : Nat} {q : Program} {loose : List Str} {XP : (Str → Option Value) → Heap → Prop} {YP : World → Heap → Prop} {d : DefRec} {K : Params → PySem.W.Frag} {sp : PySem.W.Frag → Sp}
    (hn : l.most = some n) (hn2 : n ≤ sizeLine) (hdf : d.params.defaults = []) (room : Room k callerA) (hY : ∀ (w : World) (h : Heap), YP w h → (K w.params).In h)
    (F : ∀ (w : World) (mg : Str → Option Value) (fa : Addr) (h : Heap), (K w.params).In h → h.Ns mainGlobals mg → mg d.name = some (.ref fa) → ∀ base : Heap, FnG l.prog w (K w.params) mg base CX0 k fa (sp (K w.params)))
    (prom : ∀ (K : PySem.W.Frag) (H : Hp) (a : Addr) (ns : List Int), ns.length ≤ n → SqL K H a (ns.map V.int) → sp K [.ref a] H (fun v _ => v = .bl true) E0) :
    PySem.W.WalkO q loose XP YP l.row.toRowW d [] (fun f vs => PySem.call f vs) := by
  refine Att.attach_call hn hdf fun w s0 s1 mg mb fa o pm cd doc a vs ns G Y ho hd hcd hmg hobj hints hlen hg => ?_
  have inK := hY w _ Y
  exact law_callG inK G.T.g G.T.b G.T.builtins G.T.nolimit hg hobj hints (Nat.le_trans hlen hn2) room (F w mg fa _ inK G.T.g hmg) fun H hS => prom _ H a ns hlen hS
end U
namespace U
open PySem PySem.Spec PyProof.Rows L2 StX
theorem callR_or {X : Cx} {f : Value} {r1 r2 : List V → Hp → VK → Prop} (h1 : CallR X f r1) (h2 : CallR X f r2) : CallR X f (fun xs H Q => r1 xs H Q ∨ r2 xs H Q) := by
  intro pins s σ H xs us Q I r h
  rcases h with h | h
  · exact h1 pins s σ H xs us Q I r h
  · exact h2 pins s σ H xs us Q I r h
/-! ### defs called while an exception is handled -/
end U
namespace U
open PySem PySem.Spec PyProof.Rows L2 StX
end U
namespace U
open PySem PySem.Spec PyProof.Rows L2 StX
end U
namespace U
open PySem PySem.Spec PyProof.Rows L2 StX PySem.W
end U
namespace U
open PySem PySem.Spec PyProof.Rows L2 StX
/-! ### x op i, the class's own, i an int -/
/-! ### list(d.items()), the dict locked or not -/
end U
namespace U
open PySem PySem.Spec PyProof.Rows L2
/-! ### several clauses 'except x as n' -/
end U
namespace U
open PySem L2
/-! ### facts of heaps, for the search -/
theorem carry {H H' : Hp} {a : Addr} {o : HO} (s : L2.Same H H') (h : H a = some o) : H' a = some o := s a o h
theorem carryNew {H : Hp} {p a : Addr} {o u : HO} (hp : H p = none) (h : H a = some u) : upd H p o a = some u := (Same.new hp) a u h
theorem freeUp {H : Hp} {p q : Addr} {o : HO} (h : upd H q o p = none) : H p = none := by
  by_cases e : p = q
  · subst e; rw [upd_same] at h; cases h
  · rw [upd_ne e] at h; exact h
theorem freeVia {H H' : Hp} {p : Addr} (s : L2.Same H H') (h : H' p = none) : H p = none := s.free h
theorem sameUp {H H1 : Hp} {p : Addr} {o : HO} (hp : H1 p = none) (s : L2.Same H H1) : L2.Same H (upd H1 p o) := s.trans (Same.new hp)
theorem sameVia {H H1 H2 : Hp} (b : L2.Same H1 H2) (a : L2.Same H H1) : L2.Same H H2 := a.trans b
theorem upd_facts {H H1 : Hp} {p : Addr} {o : HO} (h : upd H p o = H1) (n : H p = none) : L2.Same H H1 ∧ H1 p = some o := by
  subst h
  exact ⟨Same.new n, upd_same⟩
theorem nil_le : ([] : List V).length ≤ sizeLine := by decide
theorem one_le {a : V} : [a].length ≤ sizeLine := by show 1 ≤ sizeLine; decide
theorem two_le {a b : V} : [a, b].length ≤ sizeLine := by show 2 ≤ sizeLine; decide
theorem three_le {a b c : V} : [a, b, c].length ≤ sizeLine := by show 3 ≤ sizeLine; decide
theorem le_line {n : Nat} (h : n ≤ 100000) : n ≤ sizeLine := Nat.le_trans h (by decide)
theorem lt_line {n : Nat} (h : n ≤ 100000) : n < sizeLine := Nat.lt_of_le_of_lt h (by decide)
end U
namespace U
open PySem PySem.Spec PyProof.Rows L2 GQ PySem.SeqAt MeetsSeq MeetsSeq2 MeetsSeq3 SeqRoads2
open AutoSeq1 (wpAny_loadPart')
/-- len(o) by the own __len__ -/
def rLenO (C : Addr) (sp : Sp) (E : XK) : List V → Hp → VK → Prop := fun xs H Q => ∃ a dx fs, xs = [.ref a] ∧ H a = some (.ins C dx fs) ∧ sp [.ref a] H (fun v H' => ∃ i : Int, v = .int i ∧ 0 ≤ i ∧ i < 2 ^ 63 ∧ Q (.int i) H') E
theorem call_lenO {X : Cx} {CX : CXT} {n : Nat} {C g : Addr} {sp : Sp} {E : XK} (hs : PySem.W.findIn X.K (.ref C) "__len__" = some (some (.ref g))) (hf : PySem.W.isFn X.K (.ref g) = true) (F : FnR X.prog X.w X.K X.mg X.base CX n g sp) (hr : Room (n + 1) X.A) (hx : Passes CX X E) : CallR X (.builtin "len") (rLenO C sp E) := by
  intro pins s σ H xs us Q I r h
  obtain ⟨a, dx, fs, rfl, ha, q⟩ := h
  obtain rfl := Vals.ref1 r
  obtain ⟨ox, od, J⟩ := ins_inst I ha
  obtain ⟨m, hF⟩ := I.fr
  refine PySem.W.len_K hF I.ok.mod.kin J hs hf ?_
  refine wpAny_mono (wpAny_call (SlX.run_at (us := [.ref a]) (ws := [.ref a]) F (Room.in1 hr) I.env0.in1 hx I (.cons rfl .nil) q)) (fun w s' z => ?_) fun _ _ x => x
  obtain ⟨z', H', I', rz, i, ez, i0, i1, qz⟩ := z
  subst ez
  obtain ⟨t, ew⟩ : ∃ t, w = Value.int i t := rz
  subst ew
  exact ⟨⟨i0, i1⟩, .int i, H', I'.tok _, ⟨_, rfl⟩, qz⟩
/-! ### defs with a star parameter -/
structure StarAt (K : PySem.W.Frag) (x qual : Str) (st : Stmt) (f : Addr) (ps : List Str) (pv : Str) : Prop where
  ex : ∃ fd, Fun K x qual st f fd ∧ ∀ us rest : List Value, us.length = ps.length → bindArgs fd ⟨us ++ rest, []⟩ = (newTuple rest >>= fun t => pure (ps.zip us ++ [(pv, t)]))
theorem StarAt.kp {K : PySem.W.Frag} {x qual : Str} {st : Stmt} {f : Addr} {ps : List Str} {pv : Str} (A : StarAt K x qual st f ps pv) : PySem.W.keepIn K (.ref f) = true := by
  obtain ⟨_, F, _⟩ := A.ex
  exact F.kp
/-- what is asked of the arguments: the named ones, then a new tuple of the rest -/
def spStar (n : Nat) (sp : Sp) : Sp := fun vs H Q E => ∃ ws rest, vs = ws ++ rest ∧ ws.length = n ∧ rest.length ≤ sizeLine ∧ ∀ p, H p = none → sp (ws ++ [V.ref p]) (upd H p (.tup rest)) Q E
section
variable {P : Program} {w : World} {K : PySem.W.Frag} {mg : Str → Option Value} {base : Heap} {x qual pv : Str} {st : Stmt} {f : Addr} {N ps : List Str} {k : Nat} {sp : Sp}
theorem StarAt.okX (B : StarAt K x qual st f ps pv) (S : FnScope N (ps ++ [pv]) (defScope st))
    (walk : ∀ (cdv : Value) (A : Around) (outer : List Env) (s : Shared) (H : Hp) (vs : List V) (Q : VK) (E : XK), Room k (A.deeper (envOfC qual (defScope st) s.heap.objs.size f cdv)) → sp vs H Q E →
      ∃ t, PSs (cxOf (L2.CX P w) P w K mg base N qual (defScope st) f cdv A outer s H E) (defBody st) t ∧ t { nx := fun _ H' => Q .non H', rt := Q } (start N vs) H) : FnR P w K mg base (L2.CX P w) (k + 1) f (spStar ps.length sp) := by
  obtain ⟨fd, F, hb⟩ := B.ex
  obtain ⟨oc, od, kV, doc, pm, an, cdv, ct, osl, rfl, lk, hcd⟩ := F.ex
  exact StX.fn_star lk hcd S StX.cxUp hb fun A outer s H vs Q E hr h => walk cdv A outer s H vs Q E hr h
theorem StarAt.ok (B : StarAt K x qual st f ps pv) (S : FnScope N (ps ++ [pv]) (defScope st))
    (walk : ∀ (cdv : Value) (A : Around) (outer : List Env) (s : Shared) (H : Hp) (vs : List V) (Q : VK) (E : XK), Room k (A.deeper (envOfC qual (defScope st) s.heap.objs.size f cdv)) → sp vs H Q E →
      ∃ t, PSs (cxOf CX0 P w K mg base N qual (defScope st) f cdv A outer s H E).nox (defBody st) t ∧ t { nx := fun _ H' => Q .non H', rt := Q } (start N vs) H) : FnR P w K mg base CX0 (k + 1) f (spStar ps.length sp) := by
  obtain ⟨fd, F, hb⟩ := B.ex
  obtain ⟨oc, od, kV, doc, pm, an, cdv, ct, osl, rfl, lk, hcd⟩ := F.ex
  refine StX.fn_star lk hcd S StX.cxUp_none hb fun A outer s H vs Q E hr h => ?_
  obtain ⟨t, a, b⟩ := walk cdv A outer s H vs Q E hr h
  exact ⟨t, a.nox, b⟩
end
/-! ### == by an own __eq__, inside lists and tuples -/
end U
namespace U
open PySem PySem.Spec PyProof.Rows L2 StX LamX
/-! ### defs with lambdas: the code object's place is told -/
structure CodeAt (K : PySem.W.Frag) (x qual : Str) (st : Stmt) (f c : Addr) (ps : List Str) : Prop where
  ex : ∃ (oc : Value) (od : Option Addr) (kV doc pm : Value) (an : Option Addr) (ct : Value) (osl : Array (Option Value)),
    K.lookup f = some ⟨oc, od, .func (PySem.W.fnOf x qual (defArgs st) (defBody st) (defScope st) .none kV doc pm an (.ref c) ct), osl⟩ ∧ PySem.W.codeIn K (.ref c) qual = true ∧ Binds K (PySem.W.fnOf x qual (defArgs st) (defBody st) (defScope st) .none kV doc pm an (.ref c) ct) ps []
section
variable {P : Program} {w : World} {K : PySem.W.Frag} {mg : Str → Option Value} {base : Heap} {k : Nat} {f c : Addr} {sp : Sp} {x qual : Str} {st : Stmt} {N ps : List Str}
theorem CodeAt.okG (B : CodeAt K x qual st f c ps) (S : FnScope N ps (defScope st)) (len : ∀ vs H Q E, sp vs H Q E → vs.length = ps.length)
    (walk : ∀ (A : Around) (outer : List Env) (s : Shared) (H : Hp) (vs : List V) (Q : VK) (E : XK), A.guards = some [] → Room k (A.deeper (envOfC qual (defScope st) s.heap.objs.size f (.ref c))) → sp vs H Q E →
      ∃ t, PSs (cxOf CX0 P w K mg base N qual (defScope st) f (.ref c) A outer s H E).nox (defBody st) t ∧ t { nx := fun _ H' => Q .non H', rt := Q } (start N vs) H) : FnG P w K mg base CX0 (k + 1) f sp := by
  obtain ⟨oc, od, kV, doc, pm, an, ct, osl, lk, hcd, bi⟩ := B.ex
  intro A outer s H us vs Q E g hr e0 r hs
  have hl := len _ _ _ _ hs
  have kin : K.In s.heap := e0.mod.kin.keeps fun b o e => (e0.bs b o e).1
  have lim : s.heap.NoLimit := e0.mod.nolimit.keeps fun b o e => (e0.bs b o e).1
  have names : ∀ y ∈ ps.zip us, (defScope st).names.lookup y.1 = some .local ∨ ((defScope st).names.lookup y.1 = some .cell ∧ ((cellsFrom (s.heap.objs.size + 1) (defScope st).names []).lookup y.1).isSome = true) := by
    rintro ⟨n, v⟩ hy
    rcases S.par n (List.of_mem_zip hy).1 with q | q
    · exact .inl q
    · exact .inr ⟨q, PySem.W.cellsFrom_some _ _ _ (.inl q)⟩
  have hb : BindsTo s (PySem.W.fnOf x qual (defArgs st) (defBody st) (defScope st) .none kV doc pm an (.ref c) ct) ⟨us, []⟩ (ps.zip us) := by
    have := bi s us kin (by rw [List.append_nil, ← r.length]; exact hl)
    rw [List.append_nil] at this
    exact this
  refine codeAny_call_function hr.depth (kin _ _ lk) rfl S.co S.gen rfl (PySem.W.codeRec_of kin hcd) (hb _ _ _ _ ?_)
  refine wpAny_newFunctionEnv_cells S.kind names fun env he s1 z => ?_
  subst he
  refine ⟨lim.keeps z.toInCall.keep, codeAny_func ?_⟩
  obtain ⟨t, ht, hq⟩ := walk A outer s H vs Q E g (hr.deeper _) hs
  have I : Inv (cxOf CX0 P w K mg base N qual (defScope st) f (.ref c) A outer s H E) [] (start N vs) H s1 := inv_start S hr.hd e0 hl r z
  refine wpAny_mono (ht.nox.run [] s1 (start N vs) H _ I hq) (fun fl s' h' => ?_) fun _ _ h' => h'
  match fl, h' with
  | .ret u, ⟨v, σ', H', J, rv, q⟩ => exact ⟨v, H', J.os, J.bare, J.base, J.hok, rv, q⟩
  | .next, ⟨σ', H', J, q⟩ => exact ⟨.non, H', J.os, J.bare, J.base, J.hok, rfl, q⟩
  | .brk, ⟨_, _, _, q⟩ => exact q.elim
  | .cont, ⟨_, _, _, q⟩ => exact q.elim
end
/-! ### the law's call, tables tracked -/
/-! ### what a lambda's caller makes of its exceptions -/
/-! ### heaps that grow but for the tables -/
end U
namespace U
open PySem PySem.Spec PyProof.Rows L2 StX LamX
section
variable {X : Cx} {CX : CXT} {k : Nat} {f C : Addr} {sp : Sp} {E : XK} {x : Str} {p pos : Pos} {e : Expr} {es : List Expr} {t : TA}
/-- x() -/
def tCall0 (sp : Sp) (E : XK) : TE := fun _ H Q => sp [] H Q E
theorem pe_call0R (F : FnR X.prog X.w X.K X.mg X.base CX k f sp) (hr : Room k X.A) (hk : PySem.W.keepIn X.K (.ref f) = true) (hg : Gl X x) (hm : X.mg x = some (.ref f)) (hx : Passes CX X E) (hdb : (x == ("__debug__" : Str)) = false := by decide) : PE X (.Call (.Name x p) [] [] pos) (tCall0 sp E) := by
  refine ⟨fun pins s σ H Q I h => ?_⟩
  refine wpAny_Call_Name_kw (ld_glob I hg hm ?_ hdb)
  exact PySem.W.callWith_K0 I.kIn hk (wpAny_call (run_fnR (us := []) F hr hx I .nil h))
end
end U
namespace U
open PySem PySem.Spec PyProof.Rows L2
/-! ### x not in a tuple, data of any depth -/
end U
namespace U
open PySem PySem.Spec PyProof.Rows L2
/-! ### dicts of ints in a list: in, not in, index -/
end U
namespace U
open PySem PySem.Spec PyProof.Rows L2 StX
/-- a list == [], whatever it holds -/
def rEqNil (K : PySem.W.Frag) : R2 := fun x y H Q => ∃ (a b : Addr) (xs : List V), x = .ref a ∧ y = .ref b ∧ SqL K H a xs ∧ SqL K H b [] ∧ Q (.bl xs.isEmpty) H
theorem op_eqNil {X : Cx} (hu : X.A.units < cLine) : OpR X (compareOp .Eq) (rEqNil X.K) := by
  intro pins s σ H x y v u Q I rx ry h
  obtain ⟨a, b, xs, rfl, rfl, ha, hb, q⟩ := h
  cases (show v = Value.ref a from rx)
  cases (show u = Value.ref b from ry)
  obtain ⟨its, rv, pl, _⟩ := I.list ha
  obtain ⟨its2, rv2, pl2, _⟩ := I.list hb
  cases rv2
  have hl := rv.length
  cases xs with
  | nil =>
    cases rv
    exact SeqAt.eq_listAt (e := fun _ => true) pl.isList pl2.isList rfl hu (fun j h1 => absurd h1 (Nat.not_lt_zero _)) ⟨.bl true, H, I, rfl, q⟩
  | cons x xs =>
    refine SeqAt.eq_list_lengthsAt pl.isList pl2.isList ?_ hu ⟨.bl false, H, I, rfl, q⟩
    simp only [List.length_cons] at hl
    simp
    intro z
    rw [z] at hl
    cases hl
end U
namespace U
open PySem PySem.Spec PyProof.Rows L2 StX NdefX
/-! ### a def of a class whose first statement is super().m(..) -/
/-- what is asked of the program around: the file of its code objects, super not hidden at the top -/
structure SupP (P : Program) (file : Str) : Prop where
  file : ((P.main.file : Str) == file) = true
  top : (P.main.scope.names.lookup ("super" : Str)).isSome = false
structure SupAt (K : PySem.W.Frag) (x qual : Str) (st : Stmt) (f c cc D : Addr) (ps : List Str) (file : Str) : Prop where
  ex : ∃ (oc : Value) (od : Option Addr) (kV doc pm : Value) (an : Option Addr) (ct : Value) (osl : Array (Option Value)),
    K.lookup f = some ⟨oc, od, .func (PySem.W.fnX x qual (defArgs st) (defBody st) (defScope st) [("__class__", cc)] .none kV doc pm an (.ref c) ct), osl⟩ ∧ PySem.W.codeIn K (.ref c) qual = true ∧ Binds K (PySem.W.fnX x qual (defArgs st) (defBody st) (defScope st) [("__class__", cc)] .none kV doc pm an (.ref c) ct) ps []
  code : ∃ (ccl : Value) (cdd : Option Addr) (vs : Array Value) (ccs : Array (Option Value)) (tf : Tok), K.lookup c = some ⟨ccl, cdd, .fields vs, ccs⟩ ∧ vs[2]? = some (.str file tf)
  cell : ∃ (cl : Value) (cld : Option Addr) (csl : Array (Option Value)), K.lookup cc = some ⟨cl, cld, .cell (some (.ref D)), csl⟩
  cls : ∃ cd, PySem.W.clsIn K D = some cd
  pos : ((defArgs st).posonlyargs ++ (defArgs st).args).head?.map (·.arg) = ps[0]?
  nosuper : PySem.W.nsIn K mainGlobals "super" = some none
  noop : PySem.W.nsIn K cStatics "thirdparty.any" = some none
  scS : (defScope st).names.lookup ("super" : Str) = some .globalImplicit
  scC : (defScope st).names.lookup ("__class__" : Str) = some .free
/-- the method that super().m finds, for an instance of the class at C -/
structure SupM (K : PySem.W.Frag) (C D : Addr) (m : Str) (f2 : Addr) : Prop where
  sub : PySem.W.mroIn K C (.ref D) = some true
  at_ : PySem.W.ks_superIn K C D m = some (some (.ref f2))
  ty : PySem.W.typeIn K (.ref f2) = some (.type "function")
  fi : PySem.W.fnIn K f2 = true
  cl : (m == ("__class__" : Str)) = false
section
variable {X : Cx} {pins : List (Addr × Obj)} {σ : L2.St} {H : Hp} {s : Shared} {C D dx x f2 : Addr} {fs : List (Str × V)} {m : Str}
/-- super().m(..) run within the def's own code -/
theorem run_super {CX : CXT} {k2 : Nat} {sp2 : Sp} {Q : VK} {E : XK} {t : TA} {body : List Stmt} {p0 p1 apos pos epos : Pos} {e : Expr} {qual : Str} {st : Stmt} {name : Str} {f c cc : Addr} {ps : List Str} {file s0 : Str}
    (B : SupAt X.K name qual st f c cc D ps file) (hP : SupP X.prog file) (M : SupM X.K C D m f2) (F : FnR X.prog X.w X.K X.mg X.base CX k2 f2 sp2) (hr : Room k2 X.A) (hx : Passes CX X E)
    (hsc : X.env.scope = defScope st) (hfu : X.env.func = some f) (hco : X.env.code = .ref c) (hcl : X.env.cells.lookup ("__class__" : Str) = some cc) (hps : ps[0]? = some s0) (hN : X.N[0]? = some s0) (hloc : X.env.scope.names.lookup s0 = some .local)
    (I : Inv X pins σ H s) (hv : σ[0]? = some (some (.ref x))) (ea : H x = some (.ins C dx fs)) (ha : PA X [e] t)
    (h : t σ H fun vs H1 => sp2 (.ref x :: vs) H1 Q E)
    (hint : interactive X.env = false) (hsw : swapsWith (.Call (.Attribute (.Call (.Name "super" p0) [] [] p1) m apos) [e] [] pos) none epos.line X.env = pure false)
    (hst : starEach [e] X.env = [(false, eval e X.env)]) (pl : Sem Bool)
    (he : eval (.Call (.Attribute (.Call (.Name "super" p0) [] [] p1) m apos) [e] [] pos) X.env = (do
      let ov ← attributeBase (.Call (.Name "super" p0) [] [] p1) m X.env (eval (.Call (.Name "super" p0) [] [] p1) X.env)
      standAt apos.atName
      let (f, first) ← holding [ov] (getMethod ov m pl)
      callWith pos f first (backTo pos (starEach [e] X.env)) [])) :
    PySem.wpAt (model X.prog X.w) X.A (.func body X.env) (exec (.Expr (.Call (.Attribute (.Call (.Name "super" p0) [] [] p1) m apos) [e] [] pos) epos) X.env)
      (fun fl s' => fl = .next ∧ ∃ v H2, Inv X pins σ H2 s' ∧ Q v H2) X.xe s := by
  obtain ⟨oc, od, kV, doc, pm, an, ct, osl, lk, hcd, bi⟩ := B.ex
  obtain ⟨ccl, cdd, vs2, ccs, tf, hcode, hvs⟩ := B.code
  obtain ⟨cl0, cld, csl, hcell⟩ := B.cell
  obtain ⟨cdD, hD⟩ := B.cls
  have KX := I.kIn
  obtain ⟨oD, hD1, hD2⟩ : ∃ oD, s.heap.get? D = some oD ∧ oD.data = .cls cdD := by
    unfold PySem.W.clsIn at hD
    split at hD
    · rename_i c d cd' sl ho
      cases hD
      exact ⟨_, KX _ _ ho, rfl⟩
    · cases hD
  obtain ⟨ar, har, har2⟩ : ∃ ar : Arg, ((defArgs st).posonlyargs ++ (defArgs st).args).head? = some ar ∧ ar.arg = s0 := by
    have := B.pos
    rw [hps] at this
    cases z : ((defArgs st).posonlyargs ++ (defArgs st).args).head? with
    | none => rw [z] at this; cases this
    | some ar => rw [z] at this; exact ⟨ar, rfl, Option.some.inj this⟩
  obtain ⟨mA, O, _, _, _, _⟩ := ins_get I.hok ea
  obtain ⟨odx, J, _⟩ := O.look
  refine PySem.ks_wpAt_Expr_any ?_ hint hsw
  refine PySem.ks_wpAt_MethodCall (pl := pl) ?_ he
  refine PySem.ks_wpAt_super_base (env := X.env) (fd := PySem.W.fnX name qual (defArgs st) (defBody st) (defScope st) [("__class__", cc)] .none kV doc pm an (.ref c) ct) (by show X.env.scope.names.lookup _ = _; rw [hsc]; exact B.scS) (by show X.env.scope.names.lookup _ = _; rw [hsc]; exact B.scC) M.cl hfu (KX _ _ lk) rfl (ar := ar) har hco (KX _ _ hcode) rfl hvs hP.file hP.top ?_
  have hgs : X.env.kindOf ("super" : Str) = some .globalImplicit := by show X.env.scope.names.lookup _ = _; rw [hsc]; exact B.scS
  refine PySem.W.ks_loadName_global I.ok.kind hgs ?_
  obtain ⟨mb, h1, h2⟩ := I.mod.blt
  refine Calls.loadGlobal_builtin (by rw [I.ok.glob]; exact I.mod.glob.keeps I.bk) (PySem.W.mg_none_of I.mod.kin I.mod.glob B.nosuper) (by rw [I.ok.blt]; exact h1.keeps I.bk) ((h2 "super" (by decide +kernel)).trans (by rfl)) ⟨rfl, ?_⟩
  refine wpAny_loadName_free I.ok.kind (by show X.env.scope.names.lookup _ = _; rw [hsc]; exact B.scC) hcl ⟨_, KX _ _ hcell, rfl⟩ ?_
  obtain ⟨mL, hns, hal⟩ := I.loc
  obtain ⟨u, ru, hlook⟩ := hal 0 s0 (.ref x) hN hv (Or.inl hloc)
  obtain rfl : u = Value.ref x := ru
  have hmL : mL s0 = some (.ref x) := by
    rcases hlook with ⟨_, z⟩ | ⟨z, _⟩
    · exact z
    · rcases z with z | z
      · rw [show X.env.kindOf s0 = some .local from hloc] at z; cases z
      · rw [show X.env.kindOf s0 = some .local from hloc] at z; cases z
  rw [har2]
  refine wpAny_loadName_local I.ok.kind hloc hns hmL ?_
  obtain ⟨hh, g, d, t0, os⟩ := s
  refine PySem.ks_wpAny_isType_cls hD1 hD2 ⟨rfl, ?_⟩
  refine PySem.ks_wpAny_call_super hD1 hD2 J.at_ J.cls (fun c e => ?_) (PySem.W.looks_mroIn KX M.sub) (fun h' ee kk => ?_)
  · have := J.no
    unfold PySem.W.notCls at this
    rw [e] at this
    exact Bool.noConfusion this
  -- the super object stands; its method
  have I2 : Inv X pins σ H ⟨h', g, d, t0, os⟩ := I.kept (t' := t0) kk
  have KX2 := I2.kIn
  cases hc : PySem.W.clsIn X.K C with
  | none => have := M.at_; unfold PySem.W.ks_superIn at this; rw [hc] at this; cases this
  | some cd =>
    have hm := M.at_
    unfold PySem.W.ks_superIn at hm
    rw [hc] at hm
    obtain ⟨of, hof, hofc⟩ : ∃ of, h'.get? f2 = some of ∧ of.cls = .type "function" := by
      have ht' : (X.K.lookup f2).map (·.cls) = some (.type "function") := M.ty
      cases z : X.K.lookup f2 with
      | none => rw [z] at ht'; cases ht'
      | some of => rw [z] at ht'; exact ⟨of, KX2 _ _ z, Option.some.inj ht'⟩
    refine PySem.ks_wpAny_getMethod_super ee (PySem.W.looks_opaque KX2 B.noop) (l₀ := cd.mro) ?_ rfl KX2 hm hof hofc (PySem.W.ks_ne KX J hc) M.cl ?_
    · exact fun A Q E s k q => wpAny_bind ((PySem.W.looks_clsIn KX2 hc) A _ E s k (wpAny_pure q))
    · have I3 : Inv X ((h'.objs.size, PySem.W.methodObj (.ref f2) (.ref x)) :: pins) σ H ⟨h'.push (PySem.W.methodObj (.ref f2) (.ref x)), g, d, t0 + 1, os⟩ := ClX.met_new I2
      refine ClX.callwith_cm I3 (ClX.base_none I2 (Nat.le_refl _)) M.fi (thn (ha.run pos _ _ σ H _ I3 h) fun us s3 ⟨vs, H2, I4, rv, q2⟩ => ⟨⟨ClX.pin_at I4, I4.kIn⟩, ?_⟩) hst rfl
      exact thn (ClX.run_cm F hr hx I4 rv q2) fun v s4 ⟨z, H3, I5, _, q3⟩ => ⟨rfl, z, H3, I5, q3⟩
end
/-- the def, by its first statement super().m(e) and the rest -/
theorem SupAt.okX {P : Program} {w : World} {K : PySem.W.Frag} {mg : Str → Option Value} {base : Heap} {CX : CXT} {k k2 : Nat} {name qual : Str} {st : Stmt} {f c cc D C f2 : Addr} {N ps : List Str} {file s0 m : Str} {sp sp2 : Sp} {p0 p1 apos pos epos : Pos} {e : Expr} {rest : List Stmt}
    (B : SupAt K name qual st f c cc D ps file) (hP : SupP P file) (M : SupM K C D m f2) (F : FnR P w K mg base CX k2 f2 sp2) (hk : k2 ≤ k)
    (S : NScope N ps ["__class__"] (defScope st)) (hps : ps[0]? = some s0) (hb : defBody st = .Expr (.Call (.Attribute (.Call (.Name "super" p0) [] [] p1) m apos) [e] [] pos) epos :: rest)
    (len : ∀ vs H Q E, sp vs H Q E → vs.length = ps.length)
    (walk : ∀ (A : Around) (outer : List Env) (s : Shared) (H : Hp) (vs : List V) (Q : VK) (E : XK) (X : Cx), X = ncx CX P w K mg base N ⟨name, qual, defArgs st, defBody st, defScope st, [("__class__", cc)], c⟩ f A outer s H E → Room k X.A → sp vs H Q E →
      Passes CX X E ∧ interactive X.env = false ∧ swapsWith (.Call (.Attribute (.Call (.Name "super" p0) [] [] p1) m apos) [e] [] pos) none epos.line X.env = pure false ∧ starEach [e] X.env = [(false, eval e X.env)] ∧
      (∃ pl : Sem Bool, eval (.Call (.Attribute (.Call (.Name "super" p0) [] [] p1) m apos) [e] [] pos) X.env = (do
        let ov ← attributeBase (.Call (.Name "super" p0) [] [] p1) m X.env (eval (.Call (.Name "super" p0) [] [] p1) X.env)
        standAt apos.atName
        let (f, first) ← holding [ov] (getMethod ov m pl)
        callWith pos f first (backTo pos (starEach [e] X.env)) [])) ∧
      ∃ (x dx : Addr) (fs : List (Str × V)) (t : TA), vs[0]? = some (.ref x) ∧ H x = some (.ins C dx fs) ∧ PA X [e] t ∧
        t (startF N vs [none]) H fun us H1 => sp2 (.ref x :: us) H1 (fun _ H2 => ∃ tt, PSs X rest tt ∧ tt { nx := fun _ H' => Q .non H', rt := Q } (startF N vs [none]) H2) E) :
    FnR P w K mg base CX (k + 1) f sp := by
  obtain ⟨oc, od, kV, doc, pm, an, ct, osl, lk, hcd, bi⟩ := B.ex
  intro A outer s H us vs Q E hr e0 r hs
  have hl := len _ _ _ _ hs
  have kin : K.In s.heap := e0.mod.kin.keeps fun b o e => (e0.bs b o e).1
  have lim : s.heap.NoLimit := e0.mod.nolimit.keeps fun b o e => (e0.bs b o e).1
  have hbn : BindsTo s (PySem.W.fnX name qual (defArgs st) (defBody st) (defScope st) [("__class__", cc)] .none kV doc pm an (.ref c) ct) ⟨us, []⟩ (ps.zip us) := by
    have := bi s us kin (by rw [List.append_nil, ← r.length]; exact hl)
    rw [List.append_nil] at this
    exact this
  refine codeAny_call_function hr.depth (kin _ _ lk) rfl S.co S.gen rfl (PySem.W.codeRec_of kin hcd) (hbn _ _ _ _ ?_)
  refine wpAny_newFunctionEnv S.nocell (fun ⟨n, _⟩ hy => S.par n (List.of_mem_zip hy).1) (fun h₁ hns hsb => ⟨lim.fresh _ hsb, ?_⟩) S.kind
  generalize hF : (⟨name, qual, defArgs st, defBody st, defScope st, [(("__class__" : Str), cc)], c⟩ : NF) = FF at walk
  have hFc : FF.cl = [(("__class__" : Str), cc)] := by rw [← hF]
  have hFs : FF.scope = defScope st := by rw [← hF]
  have hFb : FF.body = defBody st := by rw [← hF]
  have hFcc : FF.c = c := by rw [← hF]
  have henv : envF FF f s.heap.objs.size = PySem.W.envX qual (defScope st) s.heap.objs.size f (.ref c) [(("__class__" : Str), cc)] := by rw [← hF]
  have kp : ∀ b o, s.heap.get? b = some o → h₁.get? b = some o := fun b o e => hsb.extBut b o (Nat.ne_of_lt (Heap.lt_size e)) (Heap.get?_push_of_some _ e)
  obtain ⟨cl0, cld, csl, hcell⟩ := B.cell
  have CA : CellsAt FF.cl ["__class__"] [none] s.heap H := by
    rw [hFc]
    refine ⟨rfl, fun y a hy => ?_, fun a b a' h1 h2 => ?_, fun i y hi => ?_⟩
    · have : a = cc := by
        have hm := PySem.mem_of_lookup hy
        simp only [List.mem_singleton] at hm
        exact (Prod.mk.inj hm).2
      subst this
      exact ⟨(e0.bs _ _ (e0.mod.kin _ _ hcell)).2, _, _, kin _ _ hcell, rfl⟩
    · have m1 := PySem.mem_of_lookup h1
      have m2 := PySem.mem_of_lookup h2
      simp only [List.mem_singleton] at m1 m2
      rw [(Prod.mk.inj m1).1, (Prod.mk.inj m2).1]
    · match i, hi with
      | 0, hi =>
        cases hi
        exact ⟨cc, by simp [List.lookup], fun v hv => by cases hv⟩
      | i + 1, hi => simp at hi
  have I : Inv (ncx CX P w K mg base N FF f A outer s H E) [] (startF N vs [none]) H { s with heap := h₁, toks := s.toks + (ps.zip us).length } := inv_startN (by rw [hFs]; exact S) hr.hd e0 hl r CA hns kp
  obtain ⟨hx, hint, hsw, hst, ⟨pl, he⟩, x, dx, fs, t, hv0, ea, ha, hq⟩ := walk A outer s H vs Q E _ rfl (hr.deeper _) hs
  show codeAny _ _ (.func (defBody st) (PySem.W.envX qual (defScope st) s.heap.objs.size f (.ref c) [(("__class__" : Str), cc)])) _ _
  rw [← henv]
  refine PySem.ks_codeAny_funcAt ?_
  rw [hb]
  refine PySem.ks_wpAt_execs_cons ?_
  have hps0 : ps.length ≠ 0 := by
    intro z
    cases ps with
    | nil => cases hps
    | cons a b => cases z
  have hv : (startF N vs [none])[0]? = some (some (.ref x)) := by
    unfold startF
    rw [List.getElem?_append_left (by rw [List.length_map]; omega), List.getElem?_map, hv0]
    rfl
  have hN0 : N[0]? = some s0 := by
    have : (ps ++ [("__class__" : Str)])[0]? = some s0 := by rw [List.getElem?_append_left (by omega)]; exact hps
    rw [← S.pre, List.getElem?_take_of_lt (by simp)] at this
    exact this
  have hloc0 : (defScope st).names.lookup s0 = some .local := S.par s0 (List.mem_of_getElem? hps)
  refine PySem.ks_wpAt_mono (run_super (X := ncx CX P w K mg base N FF f A outer s H E) (body := _) B hP M F ((hr.deeper _).mono hk) hx hFs rfl (by show Value.ref FF.c = _; rw [hFcc]) (by show FF.cl.lookup _ = _; rw [hFc]; simp [List.lookup]) hps hN0 (by show FF.scope.names.lookup s0 = _; rw [hFs]; exact hloc0) I hv ea ha hq hint hsw hst pl he) (fun fl s' hh => ?_) fun e s' hh => hh
  obtain ⟨rfl, _, H2, I2, tt, htt, hqq⟩ := hh
  refine wpAt_of_wpAny ?_
  have fin : ∀ {σ' : L2.St} {H' : Hp} {v : V} {u : Value} {s' : Shared}, Inv (ncx CX P w K mg base N FF f A outer s H E) [] σ' H' s' → L2.RelV v u → Q v H' → CE outer P w H s Q u s' :=
    fun {σ' H' v u s'} J rv q => ⟨v, H', J.os, J.bare, J.base, J.hok, rv, q⟩
  refine wpAny_mono (htt.run [] _ (startF N vs [none]) H2 _ I2 hqq) (fun fl s' hs => ?_) fun e s' hs => hs
  cases fl with
  | ret u =>
    obtain ⟨v, σ', H', J, rv, q⟩ := hs
    exact fin J rv q
  | next =>
    obtain ⟨σ', H', J, q⟩ := hs
    exact fin (v := V.non) (u := Value.none) J rfl q
  | brk =>
    obtain ⟨_, _, _, q⟩ := hs
    exact False.elim q
  | cont =>
    obtain ⟨_, _, _, q⟩ := hs
    exact False.elim q
end U
namespace U
open PySem PySem.Spec PyProof.Rows L2 StX
/-! ### {o!r}, o an instance with its own __repr__ -/
end U
namespace U
open PySem PySem.Spec PyProof.Rows L2 GQ PySem.SeqAt MeetsSeq MeetsSeq2 MeetsSeq3 SeqRoads2
open AutoSeq1 (wpAny_loadPart')
/-! ### == of lists and tuples, with either result -/
section
variable {prog : Program} {w : World} {A : Around} {R : Result → Shared → Prop}
/-- at each turn the two lists are read anew; f i: what == says of the i-th items -/
def ListB (prog : Program) (w : World) (A : Around) (E : Value → Shared → Prop) (l b : Addr) (N : Nat) (f : Nat → Bool) (I : Shared → Prop) : Prop :=
  ∀ s, I s → ∃ (its its2 : Array Value) (n n2 : Nat), s.heap.get? l = some { cls := .type "list", data := .seq its n } ∧ s.heap.get? b = some { cls := .type "list", data := .seq its2 n2 } ∧ its.size = N ∧ its2.size = N ∧
    ∀ (i : Nat) (h1 : i < its.size) (h2 : i < its2.size), wpAny (model prog w) A.in1 (eqBool its[i] its2[i]) (fun r s' => r = f i ∧ I s') E s
end
/-- D x y H c: == of the two gives c -/
abbrev EqvB := V → V → Hp → Bool → Prop
def MonB (D : EqvB) : Prop := ∀ x y H H' c, Ext H H' → D x y H c → D x y H' c
def EqH (X : Cx) (n : Nat) (D : EqvB) : Prop :=
  ∀ (A : Around) (pins : List (Addr × Obj)) (s : Shared) (σ : L2.St) (H : Hp) (x y : V) (u v : Value) (c : Bool), Sub X n A → Inv X pins σ H s → RelV x u → RelV y v → D x y H c →
    wpAny (model X.prog X.w) A (eqBool u v) (fun r s' => r = c ∧ ∃ H', Inv X pins σ H' s' ∧ Ext H H') X.xe s
section
variable {X : Cx} {n m : Nat} {D D' : EqvB}
theorem EqH.mono (h : EqH X n D) (hn : n ≤ m) : EqH X m D := fun A pins s σ H x y u v c sb => h A pins s σ H x y u v c (sb.mono hn)
theorem EqH.or (h : EqH X n D) (h' : EqH X n D') : EqH X n (fun x y H c => D x y H c ∨ D' x y H c) := fun A pins s σ H x y u v c sb I rx ry d => by
  rcases d with d | d
  · exact h A pins s σ H x y u v c sb I rx ry d
  · exact h' A pins s σ H x y u v c sb I rx ry d
theorem MonB.or (h : MonB D) (h' : MonB D') : MonB (fun x y H c => D x y H c ∨ D' x y H c) := fun x y H H' c e d => d.elim (fun d => .inl (h x y H H' c e d)) fun d => .inr (h' x y H H' c e d)
end
end U
namespace PySem.W
open PySem PySem.Calls PyProof.Rows
end PySem.W
namespace U
open PySem PySem.Spec PyProof.Rows L2 StX
end U
namespace U
open PySem PySem.Spec PyProof.Rows L2 StX
/-! ### C(*xs) -/
def tMakeS1 (K : PySem.W.Frag) (C : Addr) (sp : Sp) (E : XK) (te : TE) : TE := fun σ H Q => te σ H fun y H1 => ∃ a xs, y = V.ref a ∧ (SqT K H1 a xs ∨ SqL K H1 a xs) ∧ ∀ x dx, H1 x = Option.none → H1 dx = Option.none → dx ≠ x →
  sp (V.ref x :: xs) (upd (upd H1 dx (.own x)) x (.ins C dx [])) (fun v H2 => v = .non ∧ Q (.ref x) H2) E
theorem pe_makeS1 {X : Cx} {CX : CXT} {k : Nat} {f C : Addr} {sp : Sp} {E : XK} {x : Str} {e : Expr} {te : TE} {p sp_ pos : PySem.Pos} (M : Mk X.K C f) (F : FnR X.prog X.w X.K X.mg X.base CX k f sp) (hr : Room (k + 1) X.A) (hg : Gl X x) (hm : X.mg x = some (.ref C)) (hx : Passes CX X E) (he : PE X e te) (hd : (x == ("__debug__" : Str)) = false := by decide)
    (hst : starEach [.Starred e sp_] X.env = [(true, eval e X.env)] := by rfl) : PE X (.Call (.Name x p) [.Starred e sp_] [] pos) (tMakeS1 X.K C sp E te) := by
  refine ⟨fun pins s σ H Q I h => ?_⟩
  refine wpAny_Call_Name_kw (ld_glob I hg hm ?_ hd)
  refine PySem.W.callWith_S (h₀ := X.base) I.ok.mod.kin M.kp (thn (he.run pins s σ H _ I h) fun v s1 ⟨y, H1, I1, ry, a, xs, ey, hxs, q⟩ => ?_) hst
  subst ey
  obtain rfl : v = Value.ref a := ry
  exact star_any I1 hxs fun us s2 I2 rv => ⟨I2.kIn, run_makeR M F hr hx I2 rv q⟩
end U
namespace U
open PySem PySem.Spec PyProof.Rows L2 GQ PySem.SeqAt MeetsSeq MeetsSeq2 MeetsSeq3 SeqRoads2
open AutoSeq1 (wpAny_loadPart')
/-! ### != of lists, == and != of tuples of any lengths, in: with either result -/
section
variable {prog : Program} {w : World} {A : Around} {R : Result → Shared → Prop}
theorem ne_loopB (l b : Addr) (N : Nat) (f : Nat → Bool) (c : Bool) (hT : (∀ j, j < N → f j = true) → c = true) (hF : ∀ j, j < N → f j = false → c = false) (I : Shared → Prop) (hl : ListB prog w A (fun e s' => R (.error e) s') l b N f I)
    (fin : ∀ s, I s → R (.ok (.ret (.bool (!c)))) s) (k : Nat) :
    ∀ i : Nat, N - i = k → i ≤ N → (∀ j, j < i → f j = true) → ∀ s, I s →
      wpAny (model prog w) A.in1 (Builtin.«list.__eq__.loop» ⟨[.ref l, .ref b, rawInt i, rawInt 3], []⟩) (FinOf prog w A R) (fun e s' => R (.error e) s') s := by
  induction k with
  | zero =>
    intro i hk hi pre s h
    obtain ⟨items, items2, n, n2, hl1, hb1, hs1, hs2, _⟩ := hl _ h
    have hi' : i = N := by omega
    have hc : c = true := hT fun j hj => pre j (by omega)
    have hR : R (.ok (.ret (.bool (!c)))) s := fin s h
    rw [hc] at hR
    obtain ⟨hp, g, d, tk, os⟩ := s
    wp_walk using wpAny_loadPart' hl1, wpAny_loadPart' hb1
    have hi1 : items[((i : Nat) : Int).toNat]? = none := by simp; omega
    have hi2 : items2[((i : Nat) : Int).toNat]? = none := by simp; omega
    rw [hi1, hi2]
    wp_walk using wpAny_loadPart' hl1, wpAny_loadPart' hb1
    show R (.ok (.ret (.bool (items.size != items2.size)))) _
    rw [hs1, hs2]
    simpa using hR
  | succ k ih =>
    intro i hk hi pre s h
    obtain ⟨items, items2, n, n2, hl1, hb1, hs1, hs2, turn⟩ := hl _ h
    have hlt : i < items.size := by omega
    have hlt2 : i < items2.size := by omega
    have ht := turn i hlt hlt2
    obtain ⟨hp, g, d, tk, os⟩ := s
    wp_walk using wpAny_loadPart' hl1, wpAny_loadPart' hb1
    have hi1 : items[((i : Nat) : Int).toNat]? = some items[i] := by simp [hlt]
    have hi2 : items2[((i : Nat) : Int).toNat]? = some items2[i] := by simp [hlt2]
    have hc : ((i : Int) + 1) = ((i + 1 : Nat) : Int) := by omega
    rw [hi1, hi2]
    refine wpAny_bind (wpAny_mono ht (fun r s2 h2 => ?_) fun _ _ x => x)
    obtain ⟨hr, h2⟩ := h2
    cases hfi : f i with
    | true =>
      rw [hfi] at hr
      subst hr
      have hrec := ih (i + 1) (by omega) (by omega) (fun j hj => by
        rcases Nat.lt_succ_iff_lt_or_eq.mp hj with h | h
        · exact pre j h
        · rw [h]; exact hfi) s2 h2
      obtain ⟨hp2, g2, d2, tk2, os2⟩ := s2
      wp_walk
      rw [hc]
      refine ⟨plainId_quiet plain_eq_loop _, codeAny_builtin entry_eq_loop ?_⟩
      rw [Around.under_plainId plain_eq_loop _]
      exact hrec
    | false =>
      rw [hfi] at hr
      subst hr
      obtain ⟨its, its2, n', n2', g1, g2', z1, z2, _⟩ := hl _ h2
      have hR : R (.ok (.ret (.bool (!c)))) s2 := fin s2 h2
      rw [hF i (by omega) hfi] at hR
      have j1 : its[((i : Nat) : Int).toNat]? = some (its[i]'(by omega)) := by simp
      have j2 : its2[((i : Nat) : Int).toNat]? = some (its2[i]'(by omega)) := by simp
      obtain ⟨hp2, g2, d2, tk2, os2⟩ := s2
      wp_walk using wpAny_loadPart' g1, wpAny_loadPart' g2'
      rw [j1, j2]
      wp_walk
      exact hR
theorem list_neB (l b : Addr) (N : Nat) (f : Nat → Bool) (c : Bool) (hT : (∀ j, j < N → f j = true) → c = true) (hF : ∀ j, j < N → f j = false → c = false) (I : Shared → Prop) (hl : ListB prog w A (fun e s' => R (.error e) s') l b N f I)
    (fin : ∀ s, I s → R (.ok (.ret (.bool (!c)))) s) {s : Shared} (h : I s) :
    wpAny (model prog w) A.in1 (Builtin.«list.__ne__» ⟨[.ref l, .ref b], []⟩) (FinOf prog w A R) (fun e s' => R (.error e) s') s := by
  obtain ⟨its, its2, m, m2, g1, g2, z1, z2, _⟩ := hl _ h
  have loop := ne_loopB (A := A) (R := R) l b N f c hT hF I hl fin _ 0 rfl (Nat.zero_le _) (fun j hj => absurd hj (Nat.not_lt_zero _)) s h
  obtain ⟨hp, g, d, tk, os⟩ := s
  have sub := AutoSeq1.sub_list_list
  have same : ¬ (its.size != its2.size) = true := by simp [z1, z2]
  wp_walk using wpAny_loadPart' g1, wpAny_loadPart' g2
  refine ⟨plainId_quiet plain_eq_loop _, codeAny_builtin entry_eq_loop ?_⟩
  rw [Around.under_plainId plain_eq_loop _]
  exact loop
theorem list_neN (l b : Addr) {its its2 : Array Value} {n n2 : Nat} (hne : its.size ≠ its2.size) {s : Shared} (hl1 : s.heap.get? l = some { cls := .type "list", data := .seq its n }) (hb1 : s.heap.get? b = some { cls := .type "list", data := .seq its2 n2 }) (q : R (.ok (.ret (.bool true))) s) :
    wpAny (model prog w) A.in1 (Builtin.«list.__ne__» ⟨[.ref l, .ref b], []⟩) (FinOf prog w A R) (fun e s' => R (.error e) s') s := by
  obtain ⟨hp, g, d, tk, os⟩ := s
  have sub := AutoSeq1.sub_list_list
  have hne' : (its.size != its2.size) = true := by simp [hne]
  wp_walk using wpAny_loadPart' hl1, wpAny_loadPart' hb1
  exact q
end
section
variable {prog : Program} {w : World} {A : Around} {E : Value → Shared → Prop} {s : Shared}
theorem rc_neB {l b : Addr} {N : Nat} {Q : Value → Shared → Prop} (hu : A.units < cLine) (f : Nat → Bool) (c : Bool) (hT : (∀ j, j < N → f j = true) → c = true) (hF : ∀ j, j < N → f j = false → c = false) (I : Shared → Prop) (hl : ListB prog w A E l b N f I)
    (fin : ∀ s, I s → Q (.bool (!c)) s) (h : I s) : wpAny (model prog w) A (richCompare .NotEq (.ref l) (.ref b)) Q E s := by
  obtain ⟨items, items2, n, n2, hl1, hb1, _, _, _⟩ := hl _ h
  refine wpAny_richCompare_same_room (op := .NotEq) ⟨_, hl1, rfl⟩ ⟨_, hb1, rfl⟩ F.slot_list_ne (call_here F.slot_list_ne ⟨_, hl1, rfl⟩ F.entry_list_ne (F.args_list_ne_2 _ _) ?_) hu
  exact list_neB (R := wants (fun v s' => v ≠ .notImplemented ∧ Q v s') E) l b N f c hT hF I hl (fun s' q => ⟨(fun x => nomatch x), fin s' q⟩) h
theorem rc_neN {l b : Addr} {its its2 : Array Value} {n n2 : Nat} {Q : Value → Shared → Prop} (hu : A.units < cLine) (hne : its.size ≠ its2.size) (hl1 : s.heap.get? l = some { cls := .type "list", data := .seq its n }) (hb1 : s.heap.get? b = some { cls := .type "list", data := .seq its2 n2 })
    (fin : Q (.bool true) s) : wpAny (model prog w) A (richCompare .NotEq (.ref l) (.ref b)) Q E s := by
  refine wpAny_richCompare_same_room (op := .NotEq) ⟨_, hl1, rfl⟩ ⟨_, hb1, rfl⟩ F.slot_list_ne (call_here F.slot_list_ne ⟨_, hl1, rfl⟩ F.entry_list_ne (F.args_list_ne_2 _ _) ?_) hu
  exact list_neN (R := wants (fun v s' => v ≠ .notImplemented ∧ Q v s') E) l b hne hl1 hb1 ⟨(fun x => nomatch x), fin⟩
end
/-- what != says, by what == says -/
def NeH (X : Cx) (n : Nat) (D : EqvB) : Prop :=
  ∀ (A : Around) (pins : List (Addr × Obj)) (s : Shared) (σ : L2.St) (H : Hp) (x y : V) (u v : Value) (c : Bool), Sub X n A → Inv X pins σ H s → RelV x u → RelV y v → D x y H c →
    wpAny (model X.prog X.w) A (richCompare .NotEq u v) (fun r s' => r = .bool (!c) ∧ ∃ H', Inv X pins σ H' s' ∧ Ext H H') X.xe s
section
variable {X : Cx} {n m : Nat} {D D' : EqvB}
theorem NeH.or (h : NeH X n D) (h' : NeH X n D') : NeH X n (fun x y H c => D x y H c ∨ D' x y H c) := fun A pins s σ H x y u v c sb I rx ry d => by
  rcases d with d | d
  · exact h A pins s σ H x y u v c sb I rx ry d
  · exact h' A pins s σ H x y u v c sb I rx ry d
end
end U
namespace U
open PySem PySem.Spec PyProof.Rows L2 StX
open PySem.AutoSeq1 (wpAny_loadPart')
/-! ### enumerate(a tuple) -/
theorem enumT_new (l : Addr) (its : Array Value) (n : Nat) (dd : Option Addr) (sl : Array (Option Value)) :
    Meets (Builtin.«enumerate.__new__» ⟨[.type "enumerate", .ref l], []⟩) (fun _ R s => s.heap.get? l = some { cls := .type "tuple", dict := dd, data := .seq its n, slots := sl } ∧
      R (.ok (.ret (.ref (s.heap.push { cls := .type "tuple_iterator", data := .fields #[.ref l, .int 0 0] }).objs.size)))
        { s with heap := (s.heap.push { cls := .type "tuple_iterator", data := .fields #[.ref l, .int 0 0] }).push { cls := .type "enumerate", data := .fields #[.none, .bool false, .ref s.heap.objs.size, rawInt 0, .none, .none] } }) :=
  .of_wp fun prog w A R s h => by
    obtain ⟨hp, g, d, tk, os⟩ := s
    obtain ⟨hl, h⟩ := h
    have hsub := sub_enumerate
    have hT : Heap.IsTuple (Shared.heap ⟨hp, g, d, tk, os⟩) l its := ⟨_, hl, rfl, n, rfl⟩
    wp_walk using wpAny_loadPart' hl
    refine wpAny_stack_any fun st => wpAny_pure ?_
    split
    · rename_i c _ _ _ _ _
      cases (c == Value.type "enumerate")
      · wp_walk using wpAny_loadPart' hl, wpAny_pyIter_tuple hT
        exact ⟨_, rfl, h⟩
      · wp_walk using wpAny_loadPart' hl, wpAny_pyIter_tuple hT
        exact ⟨_, rfl, h⟩
    · wp_walk using wpAny_loadPart' hl, wpAny_pyIter_tuple hT
      exact ⟨_, rfl, h⟩
theorem call_enumT {prog : Program} {w : World} {A : Around} {E : Value → Shared → Prop} {s : Shared} {l : Addr} {its : Array Value} {Q : Value → Shared → Prop} (hT : IsTup s.heap l its)
    (h : ∀ h', IsEnum h' (s.heap.objs.size + 1) s.heap.objs.size 0 .none → h'.IsTupleIter s.heap.objs.size l 0 → h'.objs.size = s.heap.objs.size + 2 →
      (∀ b o, s.heap.get? b = some o → h'.get? b = some o) → Q (.ref (s.heap.objs.size + 1)) { s with heap := h' }) :
    wpAny (model prog w) A (call (.type "enumerate") [.ref l]) Q E s := by
  obtain ⟨⟨c, dd, dt, sl⟩, hl, hc, n, hd⟩ := hT
  replace hc : c = .type "tuple" := hc
  replace hd : dt = .seq its n := hd
  subst hc hd
  refine callType_new F.called_enumerate (by decide) (F.typeCall_enumerate_1 _) (F.newCall_enumerate_1 _) (fun obj => F.args_object_init_2 obj _) F.entry_enumerate_new
    (enumT_new l its n dd sl) ⟨hl, ?_⟩
  have hz : (s.heap.push { cls := .type "tuple_iterator", data := .fields #[.ref l, .int 0 0] }).objs.size = s.heap.objs.size + 1 := Heap.size_push ..
  show _ ∧ _
  rw [hz]
  have he : IsEnum ((s.heap.push { cls := .type "tuple_iterator", data := .fields #[.ref l, .int 0 0] }).push
      { cls := .type "enumerate", data := .fields #[.none, .bool false, .ref s.heap.objs.size, rawInt 0, .none, .none] }) (s.heap.objs.size + 1) s.heap.objs.size 0 .none := by
    have := Heap.get?_push_size (s.heap.push { cls := .type "tuple_iterator", data := .fields #[.ref l, .int 0 0] })
      (o := { cls := .type "enumerate", data := .fields #[.none, .bool false, .ref s.heap.objs.size, rawInt 0, .none, .none] }) rfl
    rw [hz] at this
    exact this
  exact ⟨⟨_, he, rfl⟩, h _ he ⟨_, Heap.get?_push_of_some _ (Heap.get?_push_size _ rfl), rfl, rfl⟩ (by rw [Heap.size_push, hz]) fun b o x => Heap.get?_push_of_some _ (Heap.get?_push_of_some _ x)⟩
def IteT (K : PySem.W.Frag) (a : Addr) : It :=
  ⟨fun i H => ∃ (xs : List V) (x : V), SqT K H a xs ∧ xs[i]? = some x, fun i H v H' => ∃ T x, v = .ref T ∧ H T = none ∧ H' = upd H T (.tup [.int (i : Nat), x]) ∧ ∀ xs, SqT K H a xs → xs[i]? = some x, fun i H => ∃ xs : List V, SqT K H a xs ∧ xs.length ≤ i⟩
theorem turn_enumT {P : Program} {w : World} {K : PySem.W.Frag} {elts : List Expr} {kk : Nat} {tpos : Pos} (a e it : Addr) (hai : a ≠ it) (hea : e ≠ a) :
    Turn P w K (.Tuple elts kk tpos) (IteT K a) [e, it] e (fun i h => (∃ old, IsEnum h e it ((i : Nat) : Int) old) ∧ h.IsTupleIter it a i ∧ e ≠ it) where
  mem := by simp
  obj := fun i h st b hb => by
    obtain ⟨⟨old, he⟩, ⟨o, ho, hc, hd⟩, _⟩ := st
    have e' : b = e ∨ b = it := by simpa using hb
    rcases e' with z | z
    · rw [z]; exact ⟨_, he, fun v q => nomatch q⟩
    · rw [z]; exact ⟨o, ho, fun v q => by rw [hd] at q; cases q⟩
  keep := fun i h h' st k => let ⟨⟨old, he⟩, hi, hne⟩ := st; ⟨⟨old, k e (by simp) _ he⟩, hi.at fun o q => k it (by simp) o q, hne⟩
  item := by
    intro X hP hw hK hc i pins s σ H E I hf st hg
    subst hP hw hK
    obtain ⟨⟨old, he⟩, hit, hne⟩ := st
    obtain ⟨xs, x, hq, hx⟩ := hg
    obtain ⟨its, rv, p, hz⟩ := I.tuple hq
    obtain ⟨u, hu, ru⟩ := rv.get hx
    have hu' : its.toArray[i]? = some u := by simpa using hu
    have hi : i < its.toArray.size := (Array.getElem?_eq_some_iff.mp hu').1
    have hel : e < s.heap.objs.size := Heap.lt_size he
    have hil : it < s.heap.objs.size := by obtain ⟨_, q, _⟩ := hit; exact Heap.lt_size q
    refine wpAny_pyNext_enum_itemD (Draws.tuple (A := X.A.in1) (I.ok.hd hc) it a hai its.toArray) he ⟨hit, p⟩ hi hne (by simp; exact ⟨hne, hea⟩) fun y h' tk hy ho hst hT hsz hk => ?_
    obtain rfl : y = u := Option.some.inj (hy.symm.trans hu')
    obtain ⟨hit', _⟩ := hst
    refine ⟨_, rfl, wpAny_letOwnedTupleGo_enum (s := { s with heap := h', toks := tk + 1 }) ho fun h'' he' sb => ?_⟩
    have hT2 : h''.get? s.heap.objs.size = some { cls := .type "tuple", data := .seq #[.int i tk, y] } := (sb.2 _ (Nat.ne_of_gt hel)).trans hT
    have new : ObjOk X.prog X.w (upd H s.heap.objs.size (.tup [.int (i : Nat), x])) h'' s.heap.objs.size (.tup [.int (i : Nat), x]) :=
      ⟨by show 2 ≤ sizeLine; decide, [.int i tk, y], .cons ⟨_, rfl⟩ (.cons ru .nil), ⟨_, hT2, rfl, _, rfl⟩⟩
    have I1 : Inv X pins σ (upd H s.heap.objs.size (.tup [.int (i : Nat), x])) { s with heap := h'', toks := tk + 1 } :=
      I.turnedNew (ch := [e, it]) (fun b ob hb q => (sb.2 b (fun z => hb (by simp [z]))).trans (hk b ob (fun z => hb (by simp [z])) (fun z => hb (by simp [z])) q)) hf (Nat.le_refl _) new
    refine ⟨.ref s.heap.objs.size, _, I1, rfl, ⟨_, x, rfl, I.hok.fresh (Nat.le_refl _), rfl, fun ys hy => by rw [I.tuple_inj hy hq]; exact hx⟩, ⟨⟨y, ?_⟩, hit'.at fun o q => (sb.2 it (Ne.symm hne)).trans q, hne⟩, fun b hb => ?_⟩
    · have e1 : ((i + 1 : Nat) : Int) = (i : Int) + 1 := by omega
      rw [e1]; exact he'
    · have hb' : b < s.heap.objs.size := by
        have e' : b = e ∨ b = it := by simpa using hb
        rcases e' with z | z
        · rw [z]; exact hel
        · rw [z]; exact hil
      rw [upd_ne (Nat.ne_of_lt hb')]
      exact (hf b hb).1
  done := by
    intro X hP hw hK hc i pins s σ H E I hf st hg
    subst hP hw hK
    obtain ⟨⟨old, he⟩, hit, hne⟩ := st
    obtain ⟨xs, hq, hx⟩ := hg
    obtain ⟨its, rv, p, hz⟩ := I.tuple hq
    obtain ⟨f0, f1, f2, f3, f4, f5⟩ := hf it (by simp)
    have hl := rv.length
    have hT : s.TypeIs (.ref e) "enumerate" := ⟨_, he, rfl⟩
    unfold pyNext
    refine wpAny_bind (wpAny_attempt (wpAny_callSpecial?_slot (name := Str.ofString "__next__") hT F.slot_enumerate_next
      (wpAny_call_entry F.slot_enumerate_next hT F.entry_enumerate_next ?_ (F.args_enumerate_next_1 _))))
    show wpAny _ _ (field (.ref e) 2 >>= _) _ _ _
    refine wpAny_bind (wpAny_field he rfl (x := .ref it) rfl ?_)
    refine wpAny_bind (wpAny_nextOf_tuple_end (I.ok.hd hc) hit p (by simp; omega) fun h' x he' hx' => ?_)
    obtain ⟨o, ho, hc'⟩ := hx'
    refine wpAny_bind (wpAny_isInstance (T := "StopIteration") (b := true) ⟨o, ho, hc'⟩ isSubtype_stop ?_)
    exact wpAny_pure ⟨rfl, I.turned (t' := s.toks) (fun b o hb q => he' b o hb q) f0 f1 f3 f4 f5⟩
  self := fun A i s Q E st h => let ⟨⟨_, he⟩, _⟩ := st; wpAny_pyIter_enum he h
def iEnumT (K : PySem.W.Frag) (ta : TA) : TI := fun σ H R => ta σ H fun vs H1 => ∃ a xs, vs = [.ref a] ∧ SqT K H1 a xs ∧ R (IteT K a) H1
theorem pi_enumT {X : Cx} {e : Expr} {ta : TA} {p pos tpos : Pos} {elts : List Expr} {kk : Nat} (hg : Gl X "enumerate") (hm : X.mg "enumerate" = none) (ha : PA X [e] ta) (hs : starEach [e] X.env = [(false, eval e X.env)] := by rfl) :
    PI X (.Tuple elts kk tpos) (.Call (.Name "enumerate" p) [e] [] pos) (iEnumT X.K ta) := by
  refine ⟨fun pins s σ H R I h => ?_⟩
  refine Call_ (ld_blt I hg hm boot_enumerate (PyProof.Rows.callWith_type1 (thn (ha.run pos pins s σ H _ I h) fun us s1 ⟨vs, H1, I1, r1, q1⟩ => ?_) hs rfl))
  obtain ⟨a, xs, ex, hq, q⟩ := q1
  subst ex
  cases r1 with
  | cons r rr =>
    cases rr
    cases r
    obtain ⟨its, rv, p', hz⟩ := I1.tuple hq
    have hal : a < s1.heap.objs.size := by obtain ⟨_, e, _⟩ := p'; exact Heap.lt_size e
    refine call_enumT p' fun h' he hit hsz hk => wpAny_pyIter_enum he ?_
    have I2 : Inv X pins σ H1 { s1 with heap := h' } := I1.kept (t' := s1.toks) hk
    refine ⟨s1.heap.objs.size + 1, [s1.heap.objs.size + 1, s1.heap.objs.size], _, _, H1, rfl, I2, turn_enumT a (s1.heap.objs.size + 1) s1.heap.objs.size (Nat.ne_of_lt hal) (fun z => Nat.lt_irrefl _ (Nat.lt_of_lt_of_le (z ▸ hal : s1.heap.objs.size + 1 < s1.heap.objs.size) (Nat.le_succ _))), ⟨⟨.none, he⟩, hit, Nat.succ_ne_self _⟩, fun b hb => ?_, q⟩
    have e' : b = s1.heap.objs.size + 1 ∨ b = s1.heap.objs.size := by simpa using hb
    have hle : s1.heap.objs.size ≤ b := by
      rcases e' with z | z
      · rw [z]; exact Nat.le_add_right _ _
      · rw [z]; exact Nat.le_refl _
    exact I1.fpOk hle (I1.hok.fresh hle)
theorem walk_enumT {K : PySem.W.Frag} {a : Addr} {xs : List V} : Walk (IteT K a) xs.length (fun H => SqT K H a xs) (YPair (fun i => some (.int (i : Nat))) (fun i => xs[i]?)) := by
  refine ⟨fun i _ hi q => ⟨xs, xs[i], q, by simp [hi]⟩, fun _ q => ⟨xs, q, Nat.le_refl _⟩, fun i H v H' _ q y => ?_⟩
  obtain ⟨T, x, h1, h2, h3, h4⟩ := y
  exact ⟨T, .int (i : Nat), x, h1, h2, h3, rfl, h4 xs q⟩
/-! ### a tuple of one item, many times -/
end U
namespace PM
open U
/-! ### one-to-one maps between parts of 0 .. n - 1 -/
abbrev PF := Int → Option Int
structure WF (n : Int) (f : PF) : Prop where
  dom : ∀ x y, f x = some y → 0 ≤ x ∧ x < n ∧ 0 ≤ y ∧ y < n
  inj : ∀ x x' y, f x = some y → f x' = some y → x = x'
def tabN (f : PF) (n : Nat) : List (Int × Int) := (List.range n).filterMap fun (i : Nat) => (f (i : Int)).map fun y => ((i : Int), y)
def tab (n : Int) (f : PF) : List (Int × Int) := tabN f n.toNat
theorem mem_tabN {f : PF} {n : Nat} {x y : Int} : (x, y) ∈ tabN f n ↔ f x = some y ∧ ∃ i : Nat, i < n ∧ x = (i : Int) := by
  unfold tabN
  rw [List.mem_filterMap]
  constructor
  · rintro ⟨i, hi, e⟩
    rw [List.mem_range] at hi
    cases h : f (i : Int) with
    | none => rw [h] at e; cases e
    | some z => rw [h] at e; cases e; exact ⟨h, i, hi, rfl⟩
  · rintro ⟨h, i, hi, rfl⟩
    exact ⟨i, List.mem_range.mpr hi, by rw [h]; rfl⟩
theorem mem_tab {n : Int} {f : PF} (w : WF n f) {x y : Int} : (x, y) ∈ tab n f ↔ f x = some y := by
  unfold tab
  rw [mem_tabN]
  constructor
  · exact fun h => h.1
  · intro h
    have := w.dom x y h
    exact ⟨h, x.toNat, by omega, by omega⟩
theorem keys_tabN (f : PF) (n : Nat) : ((tabN f n).map (·.1)).Nodup := by
  induction n with
  | zero => exact List.nodup_nil
  | succ n ih =>
    have e : tabN f (n + 1) = tabN f n ++ ((f (n : Int)).map fun y => ((n : Int), y)).toList := by
      unfold tabN
      rw [List.range_succ, List.filterMap_append]
      cases h : f (n : Int) <;> simp [h]
    rw [e, List.map_append, List.nodup_append]
    refine ⟨ih, ?_, ?_⟩
    · cases f (n : Int) <;> simp
    · intro a ha b hb e
      subst e
      obtain ⟨p, hp, rfl⟩ := List.mem_map.mp ha
      obtain ⟨x, y⟩ := p
      obtain ⟨_, i, hi, ex⟩ := mem_tabN.mp hp
      cases h : f (n : Int) with
      | none => rw [h] at hb; simp at hb
      | some z =>
        rw [h] at hb
        simp at hb
        omega
theorem keys_tab (n : Int) (f : PF) : ((tab n f).map (·.1)).Nodup := keys_tabN f _
theorem lk_tab {n : Int} {f : PF} (w : WF n f) (x : Int) : lk (tab n f) x = f x := by
  cases h : f x with
  | some y => exact lk_some (keys_tab n f) ((mem_tab w).mpr h)
  | none =>
    cases e : lk (tab n f) x with
    | none => rfl
    | some y =>
      have := (mem_tab w).mp (lk_mem e)
      rw [h] at this; cases this
theorem tab_len (n : Int) (f : PF) : (tab n f).length ≤ n.toNat := by
  unfold tab tabN
  exact Nat.le_trans (List.length_filterMap_le _ _) (by simp)
/-! ### the operations -/
def mul (f g : PF) : PF := fun x => (f x).bind g
def idn (n : Int) : PF := fun x => if 0 ≤ x ∧ x < n then some x else none
def emp : PF := fun _ => none
def orf (f g : PF) : PF := fun x => (f x).or (g x)
def inv (n : Int) (f : PF) : PF := fun y => ((tab n f).find? fun p => decide (p.2 = y)).map (·.1)
def le (f g : PF) : Prop := ∀ x y, f x = some y → g x = some y
def Clash (f g : PF) : Prop := ∃ x y x' y', f x = some y ∧ g x' = some y' ∧ ¬ ((x = x') ↔ (y = y'))
theorem wf_mul {n : Int} {f g : PF} (wf : WF n f) (wg : WF n g) : WF n (mul f g) := by
  refine ⟨fun x y h => ?_, fun x x' y h h' => ?_⟩
  · unfold mul at h
    cases e : f x with
    | none => rw [e] at h; cases h
    | some z =>
      rw [e] at h
      have h1 := wf.dom x z e
      have h2 := wg.dom z y h
      omega
  · unfold mul at h h'
    cases e : f x with
    | none => rw [e] at h; cases h
    | some z =>
      cases e' : f x' with
      | none => rw [e'] at h'; cases h'
      | some z' =>
        rw [e] at h; rw [e'] at h'
        have := wg.inj z z' y h h'
        subst this
        exact wf.inj _ _ _ e e'
theorem wf_idn (n : Int) : WF n (idn n) := by
  refine ⟨fun x y h => ?_, fun x x' y h h' => ?_⟩
  · unfold idn at h
    split at h
    · cases h; omega
    · cases h
  · unfold idn at h h'
    split at h
    · split at h'
      · cases h; cases h'; rfl
      · cases h'
    · cases h
theorem wf_emp (n : Int) : WF n emp := ⟨fun _ _ h => (nomatch h), fun _ _ _ h => (nomatch h)⟩
theorem wf_or {n : Int} {f g : PF} (wf : WF n f) (wg : WF n g) (nc : ¬ Clash f g) : WF n (orf f g) := by
  refine ⟨fun x y h => ?_, fun x x' y h h' => ?_⟩
  · unfold orf at h
    cases e : f x with
    | none => rw [e] at h; exact wg.dom x y h
    | some z => rw [e] at h; cases h; exact wf.dom _ _ e
  · unfold orf at h h'
    cases e : f x with
    | none =>
      rw [e] at h
      cases e' : f x' with
      | none => rw [e'] at h'; exact wg.inj _ _ _ h h'
      | some z =>
        rw [e'] at h'
        cases h'
        exact Classical.byContradiction fun ne => nc ⟨x', y, x, y, e', h, fun i => ne (i.mpr rfl).symm⟩
    | some z =>
      rw [e] at h
      cases h
      cases e' : f x' with
      | none =>
        rw [e'] at h'
        exact Classical.byContradiction fun ne => nc ⟨x, y, x', y, e, h', fun i => ne (i.mpr rfl)⟩
      | some z =>
        rw [e'] at h'
        cases h'
        exact wf.inj _ _ _ e e'
/-- a dict of pairs tells f -/
structure DI (l : List (Int × Int)) (f : PF) : Prop where
  nd : (l.map (·.1)).Nodup
  at_ : ∀ x, lk l x = f x
theorem DI.mem {l : List (Int × Int)} {f : PF} (d : DI l f) {x y : Int} : (x, y) ∈ l ↔ f x = some y := by
  rw [← d.at_]
  exact ⟨lk_some d.nd, lk_mem⟩
theorem di_tab {n : Int} {f : PF} (w : WF n f) : DI (tab n f) f := ⟨keys_tab n f, lk_tab w⟩
theorem DI.vals {n : Int} {l : List (Int × Int)} {f : PF} (d : DI l f) (w : WF n f) : (l.map (·.2)).Nodup := by
  obtain ⟨nd, _⟩ := id d
  have key : ∀ r : List (Int × Int), (∀ p ∈ r, f p.1 = some p.2) → (r.map (·.1)).Nodup → (r.map (·.2)).Nodup := by
    intro r
    induction r with
    | nil => intro _ _; exact List.nodup_nil
    | cons p r ih =>
      intro h nd
      rw [List.map_cons, List.nodup_cons] at nd ⊢
      refine ⟨fun hm => ?_, ih (fun q hq => h q (List.mem_cons_of_mem _ hq)) nd.2⟩
      obtain ⟨q, hq, e⟩ := List.mem_map.mp hm
      have h1 := h p List.mem_cons_self
      have h2 := h q (List.mem_cons_of_mem _ hq)
      rw [e] at h2
      have := w.inj _ _ _ h1 h2
      exact nd.1 (by rw [this]; exact List.mem_map.mpr ⟨q, hq, rfl⟩)
  exact key l (fun p hp => d.mem.mp hp) nd
theorem di_of {l : List (Int × Int)} {f : PF} (nd : (l.map (·.1)).Nodup) (h : ∀ x y, (x, y) ∈ l ↔ f x = some y) : DI l f := by
  refine ⟨nd, fun x => ?_⟩
  cases e : f x with
  | some y => exact lk_some nd ((h x y).mpr e)
  | none =>
    cases e2 : lk l x with
    | none => rfl
    | some y =>
      have := (h x y).mp (lk_mem e2)
      rw [e] at this; cases this
end PM
namespace PM
open U
/-! ### powers -/
def iter (f : PF) : Nat → PF
  | 0 => fun x => some x
  | k + 1 => fun x => (iter f k x).bind f
structure Row (f : PF) (e : Int) (r : List Int) : Prop where
  h0 : r[0]? = some e
  st : ∀ (i : Nat) (a b : Int), r[i]? = some a → r[i + 1]? = some b → f a = some b ∧ b ≠ e
theorem Row.ne {f : PF} {e : Int} {r : List Int} (w : ∀ x x' y, f x = some y → f x' = some y → x = x') (R : Row f e r) : ∀ (i k : Nat) (a : Int), r[i]? = some a → r[i + k + 1]? = some a → False
  | 0, k, a, h1, h2 => by
    rw [R.h0] at h1
    cases h1
    have hk : ∃ b, r[k]? = some b := by
      have : 0 + k + 1 < r.length := (List.getElem?_eq_some_iff.mp h2).1
      exact ⟨_, List.getElem?_eq_getElem (by omega)⟩
    obtain ⟨b, hb⟩ := hk
    have := R.st k b e hb (by rw [Nat.zero_add] at h2; exact h2)
    exact this.2 rfl
  | i + 1, k, a, h1, h2 => by
    have l1 : i + 1 < r.length := (List.getElem?_eq_some_iff.mp h1).1
    have l2 : i + 1 + k + 1 < r.length := (List.getElem?_eq_some_iff.mp h2).1
    obtain ⟨b, hb⟩ : ∃ b, r[i]? = some b := ⟨_, List.getElem?_eq_getElem (by omega)⟩
    obtain ⟨c, hc⟩ : ∃ c, r[i + k + 1]? = some c := ⟨_, List.getElem?_eq_getElem (by omega)⟩
    have e1 := (R.st i b a hb h1).1
    have h2' : r[i + k + 1 + 1]? = some a := by rw [show i + k + 1 + 1 = i + 1 + k + 1 by omega]; exact h2
    have e2 := (R.st (i + k + 1) c a hc h2').1
    have : b = c := w _ _ _ e1 e2
    subst this
    exact Row.ne w R i k b hb hc
theorem nodup_of_get {l : List Int} (h : ∀ (i k : Nat) (a : Int), l[i]? = some a → l[i + k + 1]? = some a → False) : l.Nodup := by
  induction l with
  | nil => exact List.nodup_nil
  | cons x r ih =>
    rw [List.nodup_cons]
    refine ⟨fun hm => ?_, ih fun i k a h1 h2 => ?_⟩
    · obtain ⟨j, hj⟩ := List.mem_iff_getElem?.mp hm
      exact h 0 j x rfl (by rw [Nat.zero_add]; exact hj)
    · refine h (i + 1) k a h1 ?_
      rw [show i + 1 + k + 1 = (i + k + 1) + 1 by omega]
      exact h2
theorem Row.nd {n : Int} {f : PF} {e : Int} {r : List Int} (w : WF n f) (R : Row f e r) : r.Nodup := nodup_of_get (R.ne w.inj)
theorem Row.dom {n : Int} {f : PF} {e : Int} {r : List Int} (w : WF n f) (R : Row f e r) (h1 : 0 ≤ e) (h2 : e < n) : ∀ x ∈ r, 0 ≤ x ∧ x < n := by
  intro x hx
  obtain ⟨i, hi⟩ := List.mem_iff_getElem?.mp hx
  cases i with
  | zero => rw [R.h0] at hi; cases hi; exact ⟨h1, h2⟩
  | succ i =>
    have l1 : i + 1 < r.length := (List.getElem?_eq_some_iff.mp hi).1
    obtain ⟨b, hb⟩ : ∃ b, r[i]? = some b := ⟨_, List.getElem?_eq_getElem (by omega)⟩
    have := w.dom _ _ (R.st i b x hb hi).1
    omega
theorem len_range {l : List Int} {n : Int} (nd : l.Nodup) (h : ∀ x ∈ l, 0 ≤ x ∧ x < n) : l.length ≤ n.toNat := by
  have : l.length ≤ ((List.range n.toNat).map fun (i : Nat) => (i : Int)).length := List.Nodup.length_le_of_subset nd (by
    intro x hx
    have := h x hx
    exact List.mem_map.mpr ⟨x.toNat, List.mem_range.mpr (by omega), Int.toNat_of_nonneg this.1⟩)
  simpa using this
theorem Row.more {f : PF} {e : Int} {pre : List Int} {z y : Int} (R : Row f e (pre ++ [z])) (h : f z = some y) (ne : y ≠ e) : Row f e (pre ++ [z] ++ [y]) := by
  refine ⟨?_, fun i a b h1 h2 => ?_⟩
  · rw [List.getElem?_append_left (by simp)]
    exact R.h0
  · by_cases hi : i + 1 < (pre ++ [z]).length
    · rw [List.getElem?_append_left hi] at h2
      rw [List.getElem?_append_left (by omega)] at h1
      exact R.st i a b h1 h2
    · have l2 : i + 1 < (pre ++ [z] ++ [y]).length := (List.getElem?_eq_some_iff.mp h2).1
      have e1 : i = pre.length := by simp at hi l2; omega
      subst e1
      rw [List.getElem?_append_left (by simp)] at h1
      have z1 : (pre ++ [z])[pre.length]? = some z := by simp
      rw [z1] at h1
      cases h1
      have z2 : (pre ++ [z] ++ [y])[pre.length + 1]? = some y := by simp
      rw [z2] at h2
      cases h2
      exact ⟨h, ne⟩
end PM
namespace PM
open U
/-! ### the rules of the operators -/
theorem mul_iff {f g : PF} {x z : Int} : mul f g x = some z ↔ ∃ y, f x = some y ∧ g y = some z := by
  unfold mul
  cases e : f x with
  | none => simp
  | some y => simp
theorem idn_iff {n x y : Int} : idn n x = some y ↔ x = y ∧ 0 ≤ x ∧ x < n := by
  unfold idn
  split
  · rename_i h
    constructor
    · intro e; cases e; exact ⟨rfl, h⟩
    · rintro ⟨rfl, _⟩; rfl
  · rename_i h
    constructor
    · intro e; cases e
    · rintro ⟨_, q⟩; exact absurd q h
/-! ### parts -/
/-! ### powers -/
def pN (n : Int) (f : PF) (k : Nat) : PF := if k = 0 then idn n else iter f k
end PM
namespace PM
open U
/-! ### rows told by their first element -/
def IsRow (f : PF) (e : Int) (r : List Int) : Prop := ∃ pre z, r = pre ++ [z] ∧ Row f e r ∧ (f z = none ∨ f z = some e)
theorem IsRow.get {f : PF} {e : Int} {r r' : List Int} (h : IsRow f e r) (h' : IsRow f e r') : ∀ (i : Nat) (a : Int), r[i]? = some a → r'[i]? = some a
  | 0, a, e1 => by
    obtain ⟨_, _, _, R, _⟩ := h
    obtain ⟨_, _, _, R', _⟩ := h'
    rw [R.h0] at e1
    rw [R'.h0]
    exact e1
  | i + 1, a, e1 => by
    have ih := IsRow.get h h' i
    obtain ⟨_, _, _, R, _⟩ := h
    obtain ⟨pre', z', q', R', st'⟩ := h'
    have l1 : i + 1 < r.length := (List.getElem?_eq_some_iff.mp e1).1
    obtain ⟨b, hb⟩ : ∃ b, r[i]? = some b := ⟨_, List.getElem?_eq_getElem (by omega)⟩
    obtain ⟨f1, ne⟩ := R.st i b a hb e1
    have hb' := ih b hb
    cases e2 : r'[i + 1]? with
    | some c =>
      have := (R'.st i b c hb' e2).1
      rw [f1] at this
      exact this.symm
    | none =>
      exfalso
      have l2 : i < r'.length := (List.getElem?_eq_some_iff.mp hb').1
      have l3 := List.getElem?_eq_none_iff.mp e2
      subst q'
      rw [List.length_append, List.length_singleton] at l2 l3
      have ei : i = pre'.length := by omega
      subst ei
      have : (pre' ++ [z'])[pre'.length]? = some z' := by simp
      rw [this] at hb'
      cases hb'
      rcases st' with q | q
      · rw [f1] at q; cases q
      · rw [f1] at q; exact ne (Option.some.inj q)
theorem IsRow.uniq {f : PF} {e : Int} {r r' : List Int} (h : IsRow f e r) (h' : IsRow f e r') : r = r' := by
  apply List.ext_getElem?
  intro i
  cases e1 : r[i]? with
  | some a => exact (h.get h' i a e1).symm
  | none =>
    cases e2 : r'[i]? with
    | none => rfl
    | some a => rw [h'.get h i a e2] at e1; cases e1
open Classical in
noncomputable def rowN (f : PF) (e : Int) : List Int := if h : ∃ r, IsRow f e r then h.choose else []
theorem IsRow.head {f : PF} {e : Int} {r : List Int} (h : IsRow f e r) : r[0]? = some e := by
  obtain ⟨_, _, _, R, _⟩ := h
  exact R.h0
theorem IsRow.mem {f : PF} {e : Int} {r : List Int} (h : IsRow f e r) : e ∈ r := List.mem_of_getElem? h.head
theorem IsRow.dom {n : Int} {f : PF} {e : Int} {r : List Int} (w : WF n f) (h : IsRow f e r) (h1 : 0 ≤ e) (h2 : e < n) : ∀ x ∈ r, 0 ≤ x ∧ x < n := by
  obtain ⟨_, _, _, R, _⟩ := h
  exact R.dom w h1 h2
theorem IsRow.nd {n : Int} {f : PF} {e : Int} {r : List Int} (w : WF n f) (h : IsRow f e r) : r.Nodup := by
  obtain ⟨_, _, _, R, _⟩ := h
  exact R.nd w
/-! ### which rows are begun -/
noncomputable def seenL (f : PF) (s : List Int) : List Int := (s.map (rowN f)).flatten
theorem mem_seenL {f : PF} {s : List Int} {x : Int} : x ∈ seenL f s ↔ ∃ e ∈ s, x ∈ rowN f e := by
  unfold seenL
  rw [List.mem_flatten]
  constructor
  · rintro ⟨r, hr, hx⟩
    obtain ⟨e, he, rfl⟩ := List.mem_map.mp hr
    exact ⟨e, he, hx⟩
  · rintro ⟨e, he, hx⟩
    exact ⟨_, List.mem_map.mpr ⟨e, he, rfl⟩, hx⟩
def rgI (n : Nat) : List Int := (List.range n).map fun (i : Nat) => (i : Int)
theorem mem_rgI {n : Nat} {x : Int} : x ∈ rgI n ↔ 0 ≤ x ∧ x < (n : Int) := by
  unfold rgI
  rw [List.mem_map]
  constructor
  · rintro ⟨i, hi, rfl⟩
    rw [List.mem_range] at hi
    omega
  · rintro ⟨h1, h2⟩
    exact ⟨x.toNat, List.mem_range.mpr (by omega), by omega⟩
theorem rgI_succ (n : Nat) : rgI (n + 1) = rgI n ++ [(n : Int)] := by
  unfold rgI
  rw [List.range_succ, List.map_append]
  rfl
theorem rgI_lt (n : Nat) : (rgI n).Pairwise (· < ·) := by
  induction n with
  | zero => exact List.Pairwise.nil
  | succ n ih =>
    rw [rgI_succ, List.pairwise_append]
    refine ⟨ih, List.pairwise_singleton _ _, fun a ha b hb => ?_⟩
    have := mem_rgI.mp ha
    rw [List.mem_singleton] at hb
    omega
theorem nodup_of_lt {l : List Int} (h : l.Pairwise (· < ·)) : l.Nodup := List.Pairwise.imp (fun {a b} h => by omega) h
/-! ### closed rows -/
/-! ### all parts -/
/-! ### ordered by the first elements -/
end PM
namespace PM
open U
/-! ### powers by the law's own way; great exponents -/
def pk (n : Int) (f : PF) : Nat → PF
  | 0 => idn n
  | k + 1 => iter f (k + 1)
end PM
namespace PM
open U
/-! ### where powers repeat -/
end PM
namespace My
open PySem L2
def top (i : Nat) : Stmt := PySem.Challenge.pw_chainmaps_k57_whole_losing_words_or_evid.main.body.getD i (.Pass ⟨0, 0, 0, 0⟩)
abbrev s_is_integer : Stmt := top 13
abbrev n_is_integer : List Str := ["value"]
theorem sc_is_integer : FnScope n_is_integer ["value"] (defScope s_is_integer) := ⟨rfl, rfl, rfl, by decide +kernel, rfl, by decide +kernel, by decide +kernel⟩
abbrev s_in_range : Stmt := top 14
abbrev n_in_range : List Str := ["value", "least", "most"]
theorem sc_in_range : FnScope n_in_range ["value", "least", "most"] (defScope s_in_range) := ⟨rfl, rfl, rfl, by decide +kernel, rfl, by decide +kernel, by decide +kernel⟩
abbrev s_check_size : Stmt := top 15
abbrev n_check_size : List Str := ["size"]
theorem sc_check_size : FnScope n_check_size ["size"] (defScope s_check_size) := ⟨rfl, rfl, rfl, by decide +kernel, rfl, by decide +kernel, by decide +kernel⟩
abbrev s_are_arrows : Stmt := top 16
abbrev n_are_arrows : List Str := ["size", "arrows", "targets", "source", "target"]
theorem sc_are_arrows : FnScope n_are_arrows ["size", "arrows"] (defScope s_are_arrows) := ⟨rfl, rfl, rfl, by decide +kernel, rfl, by decide +kernel, by decide +kernel⟩
abbrev s_common_size : Stmt := top 17
abbrev n_common_size : List Str := ["one", "other"]
theorem sc_common_size : FnScope n_common_size ["one", "other"] (defScope s_common_size) := ⟨rfl, rfl, rfl, by decide +kernel, rfl, by decide +kernel, by decide +kernel⟩
abbrev s_check_map : Stmt := top 23
abbrev n_check_map : List Str := ["value"]
theorem sc_check_map : FnScope n_check_map ["value"] (defScope s_check_map) := ⟨rfl, rfl, rfl, by decide +kernel, rfl, by decide +kernel, by decide +kernel⟩
abbrev s_check_all : Stmt := top 25
abbrev n_check_all : List Str := ["maps", "given"]
theorem sc_check_all : FnScope n_check_all ["maps"] (defScope s_check_all) := ⟨rfl, rfl, rfl, by decide +kernel, rfl, by decide +kernel, by decide +kernel⟩
abbrev s_check_many : Stmt := top 32
abbrev n_check_many : List Str := ["number"]
theorem sc_check_many : FnScope n_check_many ["number"] (defScope s_check_many) := ⟨rfl, rfl, rfl, by decide +kernel, rfl, by decide +kernel, by decide +kernel⟩
abbrev s_check_word : Stmt := top 35
abbrev n_check_word : List Str := ["family", "word", "position", "index"]
theorem sc_check_word : FnScope n_check_word ["family", "word"] (defScope s_check_word) := ⟨rfl, rfl, rfl, by decide +kernel, rfl, by decide +kernel, by decide +kernel⟩
abbrev s_first_clash : Stmt := top 22
abbrev n_first_clash : List Str := ["arrows", "others", "source", "target", "other", "end"]
theorem sc_first_clash : FnScope n_first_clash ["arrows", "others"] (defScope s_first_clash) := ⟨rfl, rfl, rfl, by decide +kernel, rfl, by decide +kernel, by decide +kernel⟩
abbrev s_Map__init : Stmt := inClass (top 20) 0
abbrev n_Map__init : List Str := ["self", "size", "arrows", "source"]
theorem sc_Map__init : FnScope n_Map__init ["self", "size", "arrows"] (defScope s_Map__init) := ⟨rfl, rfl, rfl, by decide +kernel, rfl, by decide +kernel, by decide +kernel⟩
abbrev s_Map_identity : Stmt := inClass (top 20) 1
abbrev n_Map_identity : List Str := ["cls", "size", "element"]
theorem sc_Map_identity : FnScope n_Map_identity ["cls", "size"] (defScope s_Map_identity) := ⟨rfl, rfl, rfl, by decide +kernel, rfl, by decide +kernel, by decide +kernel⟩
abbrev s_Map_empty : Stmt := inClass (top 20) 2
abbrev n_Map_empty : List Str := ["cls", "size"]
theorem sc_Map_empty : FnScope n_Map_empty ["cls", "size"] (defScope s_Map_empty) := ⟨rfl, rfl, rfl, by decide +kernel, rfl, by decide +kernel, by decide +kernel⟩
abbrev s_Map_size : Stmt := inClass (top 20) 6
abbrev n_Map_size : List Str := ["self"]
theorem sc_Map_size : FnScope n_Map_size ["self"] (defScope s_Map_size) := ⟨rfl, rfl, rfl, by decide +kernel, rfl, by decide +kernel, by decide +kernel⟩
abbrev s_Map_arrows : Stmt := inClass (top 20) 7
abbrev n_Map_arrows : List Str := ["self"]
theorem sc_Map_arrows : FnScope n_Map_arrows ["self"] (defScope s_Map_arrows) := ⟨rfl, rfl, rfl, by decide +kernel, rfl, by decide +kernel, by decide +kernel⟩
abbrev s_Map__mul : Stmt := inClass (top 20) 8
abbrev n_Map__mul : List Str := ["self", "other", "size", "later", "source", "target"]
theorem sc_Map__mul : FnScope n_Map__mul ["self", "other"] (defScope s_Map__mul) := ⟨rfl, rfl, rfl, by decide +kernel, rfl, by decide +kernel, by decide +kernel⟩
abbrev s_Map__or : Stmt := inClass (top 20) 14
abbrev n_Map__or : List Str := ["self", "other", "size", "clash"]
theorem sc_Map__or : FnScope n_Map__or ["self", "other"] (defScope s_Map__or) := ⟨rfl, rfl, rfl, by decide +kernel, rfl, by decide +kernel, by decide +kernel⟩
abbrev s_Map__eq : Stmt := inClass (top 20) 25
abbrev n_Map__eq : List Str := ["self", "other"]
theorem sc_Map__eq : FnScope n_Map__eq ["self", "other"] (defScope s_Map__eq) := ⟨rfl, rfl, rfl, by decide +kernel, rfl, by decide +kernel, by decide +kernel⟩
abbrev s_Family__init : Stmt := inClass (top 33) 1
abbrev n_Family__init : List Str := ["self", "maps"]
theorem sc_Family__init : FnScope n_Family__init ["self", "maps"] (defScope s_Family__init) := ⟨rfl, rfl, rfl, by decide +kernel, rfl, by decide +kernel, by decide +kernel⟩
abbrev s_Family_maps : Stmt := inClass (top 33) 2
abbrev n_Family_maps : List Str := ["self"]
theorem sc_Family_maps : FnScope n_Family_maps ["self"] (defScope s_Family_maps) := ⟨rfl, rfl, rfl, by decide +kernel, rfl, by decide +kernel, by decide +kernel⟩
abbrev s_Family_size : Stmt := inClass (top 33) 3
abbrev n_Family_size : List Str := ["self"]
theorem sc_Family_size : FnScope n_Family_size ["self"] (defScope s_Family_size) := ⟨rfl, rfl, rfl, by decide +kernel, rfl, by decide +kernel, by decide +kernel⟩
abbrev s_Family__call : Stmt := inClass (top 33) 4
abbrev n_Family__call : List Str := ["self", "word", "found", "index"]
theorem sc_Family__call : FnScope n_Family__call ["self", "word"] (defScope s_Family__call) := ⟨rfl, rfl, rfl, by decide +kernel, rfl, by decide +kernel, by decide +kernel⟩
abbrev s_Family__add : Stmt := inClass (top 33) 5
abbrev n_Family__add : List Str := ["self", "other"]
theorem sc_Family__add : FnScope n_Family__add ["self", "other"] (defScope s_Family__add) := ⟨rfl, rfl, rfl, by decide +kernel, rfl, by decide +kernel, by decide +kernel⟩
abbrev s_Family__len : Stmt := inClass (top 33) 8
abbrev n_Family__len : List Str := ["self"]
theorem sc_Family__len : FnScope n_Family__len ["self"] (defScope s_Family__len) := ⟨rfl, rfl, rfl, by decide +kernel, rfl, by decide +kernel, by decide +kernel⟩
abbrev s_made : Stmt := top 34
abbrev n_made : List Str := ["maps"]
theorem sc_made : FnScope n_made ["maps"] (defScope s_made) := ⟨rfl, rfl, rfl, by decide +kernel, rfl, by decide +kernel, by decide +kernel⟩
abbrev s_check_family : Stmt := top 36
abbrev n_check_family : List Str := ["family"]
theorem sc_check_family : FnScope n_check_family ["family"] (defScope s_check_family) := ⟨rfl, rfl, rfl, by decide +kernel, rfl, by decide +kernel, by decide +kernel⟩
abbrev s_places_after : Stmt := top 27
abbrev n_places_after : List Str := ["places", "table", "place"]
theorem sc_places_after : FnScope n_places_after ["places", "table"] (defScope s_places_after) := ⟨rfl, rfl, rfl, by decide +kernel, rfl, by decide +kernel, by decide +kernel⟩
abbrev s_image_of : Stmt := top 37
abbrev n_image_of : List Str := ["places", "table", "place"]
theorem sc_image_of : FnScope n_image_of ["places", "table"] (defScope s_image_of) := ⟨rfl, rfl, rfl, by decide +kernel, rfl, by decide +kernel, by decide +kernel⟩
abbrev s_searched : Stmt := top 38
abbrev n_searched : List Str := ["family", "tables", "full", "words", "waiting", "places", "index", "table", "later", "one"]
theorem sc_searched : FnScope n_searched ["family"] (defScope s_searched) := ⟨rfl, rfl, rfl, by decide +kernel, rfl, by decide +kernel, by decide +kernel⟩
abbrev s_losing_word : Stmt := top 39
abbrev n_losing_word : List Str := ["family"]
theorem sc_losing_word : FnScope n_losing_word ["family"] (defScope s_losing_word) := ⟨rfl, rfl, rfl, by decide +kernel, rfl, by decide +kernel, by decide +kernel⟩
abbrev s_holding_sets : Stmt := top 40
abbrev n_holding_sets : List Str := ["family", "words", "places"]
theorem sc_holding_sets : FnScope n_holding_sets ["family"] (defScope s_holding_sets) := ⟨rfl, rfl, rfl, by decide +kernel, rfl, by decide +kernel, by decide +kernel⟩
abbrev s_is_set : Stmt := top 41
abbrev n_is_set : List Str := ["value", "size", "place", "one", "other"]
theorem sc_is_set : FnScope n_is_set ["value", "size"] (defScope s_is_set) := ⟨rfl, rfl, rfl, by decide +kernel, rfl, by decide +kernel, by decide +kernel⟩
abbrev s_is_holding : Stmt := top 42
abbrev n_is_holding : List Str := ["family", "value", "known", "tables", "places", "one", "table"]
theorem sc_is_holding : FnScope n_is_holding ["family", "value"] (defScope s_is_holding) := ⟨rfl, rfl, rfl, by decide +kernel, rfl, by decide +kernel, by decide +kernel⟩
abbrev s_InvalidMap__init : Stmt := inClass (top 2) 0
abbrev n_InvalidMap__init : List Str := ["self", "part"]
theorem sc_InvalidMap__init : FnScope n_InvalidMap__init ["self", "part"] (defScope s_InvalidMap__init) := ⟨rfl, rfl, rfl, by decide +kernel, rfl, by decide +kernel, by decide +kernel⟩
abbrev s_SizeMismatch__init : Stmt := inClass (top 5) 0
abbrev n_SizeMismatch__init : List Str := ["self", "first", "second"]
theorem sc_SizeMismatch__init : FnScope n_SizeMismatch__init ["self", "first", "second"] (defScope s_SizeMismatch__init) := ⟨rfl, rfl, rfl, by decide +kernel, rfl, by decide +kernel, by decide +kernel⟩
abbrev s_LimitExceeded__init : Stmt := inClass (top 8) 0
abbrev n_LimitExceeded__init : List Str := ["self", "limit"]
theorem sc_LimitExceeded__init : FnScope n_LimitExceeded__init ["self", "limit"] (defScope s_LimitExceeded__init) := ⟨rfl, rfl, rfl, by decide +kernel, rfl, by decide +kernel, by decide +kernel⟩
abbrev s_InvalidWord__init : Stmt := inClass (top 10) 0
abbrev n_InvalidWord__init : List Str := ["self", "position"]
theorem sc_InvalidWord__init : FnScope n_InvalidWord__init ["self", "position"] (defScope s_InvalidWord__init) := ⟨rfl, rfl, rfl, by decide +kernel, rfl, by decide +kernel, by decide +kernel⟩
abbrev s_Clash__init : Stmt := inClass (top 6) 0
abbrev s_l_hand : Stmt := top 44
abbrev n_l_hand : List Str := ["_law_script", "_law_k", "_law_cell", "_law_seed"]
theorem sc_l_hand : FnScope n_l_hand ["_law_script", "_law_k"] (defScope s_l_hand) := ⟨rfl, rfl, rfl, by decide +kernel, rfl, by decide +kernel, by decide +kernel⟩
abbrev s_l_draw : Stmt := top 45
abbrev n_l_draw : List Str := ["_law_pool", "_law_size", "_law_found"]
theorem sc_l_draw : FnScope n_l_draw ["_law_pool", "_law_size"] (defScope s_l_draw) := ⟨rfl, rfl, rfl, by decide +kernel, rfl, by decide +kernel, by decide +kernel⟩
abbrev s_l_arrows : Stmt := top 46
abbrev n_l_arrows : List Str := ["_law_pool", "_law_size", "_law_left", "_law_found", "_law_rare", "_law_source"]
theorem sc_l_arrows : FnScope n_l_arrows ["_law_pool", "_law_size"] (defScope s_l_arrows) := ⟨rfl, rfl, rfl, by decide +kernel, rfl, by decide +kernel, by decide +kernel⟩
abbrev s_l_family : Stmt := top 47
abbrev n_l_family : List Str := ["_law_maps", "_law_found", "_law_one"]
theorem sc_l_family : FnScope n_l_family ["_law_maps"] (defScope s_l_family) := ⟨rfl, rfl, rfl, by decide +kernel, rfl, by decide +kernel, by decide +kernel⟩
abbrev s_l_image : Stmt := top 48
abbrev n_l_image : List Str := ["_law_places", "_law_table", "_law_size", "_law_some", "_law_place", "_law_target"]
theorem sc_l_image : FnScope n_l_image ["_law_places", "_law_table", "_law_size"] (defScope s_l_image) := ⟨rfl, rfl, rfl, by decide +kernel, rfl, by decide +kernel, by decide +kernel⟩
abbrev s_l_search : Stmt := top 49
abbrev n_l_search : List Str := ["_law_tables", "_law_size", "_law_full", "_law_found", "_law_last", "_law_later", "_law_places", "_law_index", "_law_table", "_law_more"]
theorem sc_l_search : FnScope n_l_search ["_law_tables", "_law_size"] (defScope s_l_search) := ⟨rfl, rfl, rfl, by decide +kernel, rfl, by decide +kernel, by decide +kernel⟩
abbrev s_l_is_list : Stmt := top 50
abbrev n_l_is_list : List Str := ["_law_value", "_law_size", "_law_one", "_law_at"]
theorem sc_l_is_list : FnScope n_l_is_list ["_law_value", "_law_size"] (defScope s_l_is_list) := ⟨rfl, rfl, rfl, by decide +kernel, rfl, by decide +kernel, by decide +kernel⟩
abbrev s_l_is : Stmt := top 51
abbrev n_l_is : List Str := ["_law_tables", "_law_size", "_law_value", "_law_places", "_law_one", "_law_table"]
theorem sc_l_is : FnScope n_l_is ["_law_tables", "_law_size", "_law_value"] (defScope s_l_is) := ⟨rfl, rfl, rfl, by decide +kernel, rfl, by decide +kernel, by decide +kernel⟩
abbrev s_l_bent : Stmt := top 52
abbrev n_l_bent : List Str := ["_law_pool", "_law_value", "_law_size", "_law_some", "_law_at", "_law_odd", "_law_rows", "_law_places"]
theorem sc_l_bent : FnScope n_l_bent ["_law_pool", "_law_value", "_law_size"] (defScope s_l_bent) := ⟨rfl, rfl, rfl, by decide +kernel, rfl, by decide +kernel, by decide +kernel⟩
abbrev s_l_right : Stmt := top 53
abbrev n_l_right : List Str := ["_law_pool", "_law_family_here", "_law_tables", "_law_size", "_law_known", "_law_due", "_law_told", "_law_paper", "_law_base", "_law_some", "_law_value", "_law_kept", "_law_places", "_law_turn"]
theorem sc_l_right : FnScope n_l_right ["_law_pool", "_law_family_here", "_law_tables", "_law_size"] (defScope s_l_right) := ⟨rfl, rfl, rfl, by decide +kernel, rfl, by decide +kernel, by decide +kernel⟩
abbrev s_l_great : Stmt := top 54
abbrev n_l_great : List Str := ["_law_line", "_law_ring", "_law_at"]
theorem sc_l_great : FnScope n_l_great [] (defScope s_l_great) := ⟨rfl, rfl, rfl, by decide +kernel, rfl, by decide +kernel, by decide +kernel⟩
abbrev s_law : Stmt := top 55
abbrev n_law : List Str := ["_law_script", "_law_k", "_law_pool", "_law_turn", "_law_size", "_law_tables", "_law_index", "_law_at", "_law_table"]
theorem sc_law : FnScope n_law ["_law_script"] (defScope s_law) := ⟨rfl, rfl, rfl, by decide +kernel, rfl, by decide +kernel, by decide +kernel⟩
set_option genInjectivity false
set_option genSizeOf false
structure Txt (K : PySem.W.Frag) (mg : Str → Option Value) where
  f_is_integer : Addr
  f_in_range : Addr
  f_check_size : Addr
  f_are_arrows : Addr
  f_common_size : Addr
  f_check_map : Addr
  f_check_all : Addr
  f_check_many : Addr
  f_check_word : Addr
  f_first_clash : Addr
  f_made : Addr
  f_check_family : Addr
  f_places_after : Addr
  f_image_of : Addr
  f_searched : Addr
  f_losing_word : Addr
  f_holding_sets : Addr
  f_is_set : Addr
  f_is_holding : Addr
  f_l_hand : Addr
  f_l_draw : Addr
  f_l_arrows : Addr
  f_l_family : Addr
  f_l_image : Addr
  f_l_search : Addr
  f_l_is_list : Addr
  f_l_is : Addr
  f_l_bent : Addr
  f_l_right : Addr
  f_l_great : Addr
  f_law : Addr
  C_Map : Addr
  f_Map__init : Addr
  p_Map_identity : Addr
  f_Map_identity : Addr
  p_Map_empty : Addr
  f_Map_empty : Addr
  p_Map_size : Addr
  f_Map_size : Addr
  p_Map_arrows : Addr
  f_Map_arrows : Addr
  f_Map__mul : Addr
  f_Map__or : Addr
  f_Map__eq : Addr
  C_Family : Addr
  f_Family__init : Addr
  p_Family_maps : Addr
  f_Family_maps : Addr
  p_Family_size : Addr
  f_Family_size : Addr
  f_Family__call : Addr
  f_Family__add : Addr
  f_Family__len : Addr
  C_InvalidMap : Addr
  f_InvalidMap__init : Addr
  C_SizeMismatch : Addr
  f_SizeMismatch__init : Addr
  C_LimitExceeded : Addr
  f_LimitExceeded__init : Addr
  C_InvalidWord : Addr
  f_InvalidWord__init : Addr
  C_Clash : Addr
  f_Clash__init : Addr
  A_is_integer : U.FnAt K "is_integer" "is_integer" s_is_integer f_is_integer ["value"]
  g_is_integer : mg "is_integer" = some (.ref f_is_integer)
  A_in_range : U.FnAt K "in_range" "in_range" s_in_range f_in_range ["value", "least", "most"]
  g_in_range : mg "in_range" = some (.ref f_in_range)
  A_check_size : U.FnAt K "check_size" "check_size" s_check_size f_check_size ["size"]
  g_check_size : mg "check_size" = some (.ref f_check_size)
  A_are_arrows : U.FnAt K "are_arrows" "are_arrows" s_are_arrows f_are_arrows ["size", "arrows"]
  g_are_arrows : mg "are_arrows" = some (.ref f_are_arrows)
  A_common_size : U.FnAt K "common_size" "common_size" s_common_size f_common_size ["one", "other"]
  g_common_size : mg "common_size" = some (.ref f_common_size)
  A_check_map : U.FnAt K "check_map" "check_map" s_check_map f_check_map ["value"]
  g_check_map : mg "check_map" = some (.ref f_check_map)
  A_check_all : U.FnAt K "check_all" "check_all" s_check_all f_check_all ["maps"]
  g_check_all : mg "check_all" = some (.ref f_check_all)
  A_check_many : U.FnAt K "check_many" "check_many" s_check_many f_check_many ["number"]
  g_check_many : mg "check_many" = some (.ref f_check_many)
  A_check_word : U.FnAt K "check_word" "check_word" s_check_word f_check_word ["family", "word"]
  g_check_word : mg "check_word" = some (.ref f_check_word)
  A_first_clash : U.FnAt K "first_clash" "first_clash" s_first_clash f_first_clash ["arrows", "others"]
  g_first_clash : mg "first_clash" = some (.ref f_first_clash)
  A_made : U.FnAt K "made" "made" s_made f_made ["maps"]
  g_made : mg "made" = some (.ref f_made)
  A_check_family : U.FnAt K "check_family" "check_family" s_check_family f_check_family ["family"]
  g_check_family : mg "check_family" = some (.ref f_check_family)
  A_places_after : U.FnAt K "places_after" "places_after" s_places_after f_places_after ["places", "table"]
  g_places_after : mg "places_after" = some (.ref f_places_after)
  A_image_of : U.FnAt K "image_of" "image_of" s_image_of f_image_of ["places", "table"]
  g_image_of : mg "image_of" = some (.ref f_image_of)
  A_searched : U.FnAt K "searched" "searched" s_searched f_searched ["family"]
  g_searched : mg "searched" = some (.ref f_searched)
  A_losing_word : U.FnAt K "losing_word" "losing_word" s_losing_word f_losing_word ["family"]
  g_losing_word : mg "losing_word" = some (.ref f_losing_word)
  A_holding_sets : U.FnAt K "holding_sets" "holding_sets" s_holding_sets f_holding_sets ["family"]
  g_holding_sets : mg "holding_sets" = some (.ref f_holding_sets)
  A_is_set : U.FnAt K "is_set" "is_set" s_is_set f_is_set ["value", "size"]
  g_is_set : mg "is_set" = some (.ref f_is_set)
  A_is_holding : U.FnAt K "is_holding" "is_holding" s_is_holding f_is_holding ["family", "value"]
  g_is_holding : mg "is_holding" = some (.ref f_is_holding)
  A_l_hand : U.FnAt K "_law_hand" "_law_hand" s_l_hand f_l_hand ["_law_script", "_law_k"]
  g_l_hand : mg "_law_hand" = some (.ref f_l_hand)
  A_l_draw : U.FnAt K "_law_draw" "_law_draw" s_l_draw f_l_draw ["_law_pool", "_law_size"]
  g_l_draw : mg "_law_draw" = some (.ref f_l_draw)
  A_l_arrows : U.FnAt K "_law_arrows" "_law_arrows" s_l_arrows f_l_arrows ["_law_pool", "_law_size"]
  g_l_arrows : mg "_law_arrows" = some (.ref f_l_arrows)
  A_l_family : U.FnAt K "_law_family" "_law_family" s_l_family f_l_family ["_law_maps"]
  g_l_family : mg "_law_family" = some (.ref f_l_family)
  A_l_image : U.FnAt K "_law_image" "_law_image" s_l_image f_l_image ["_law_places", "_law_table", "_law_size"]
  g_l_image : mg "_law_image" = some (.ref f_l_image)
  A_l_search : U.FnAt K "_law_search" "_law_search" s_l_search f_l_search ["_law_tables", "_law_size"]
  g_l_search : mg "_law_search" = some (.ref f_l_search)
  A_l_is_list : U.FnAt K "_law_is_list" "_law_is_list" s_l_is_list f_l_is_list ["_law_value", "_law_size"]
  g_l_is_list : mg "_law_is_list" = some (.ref f_l_is_list)
  A_l_is : U.FnAt K "_law_is" "_law_is" s_l_is f_l_is ["_law_tables", "_law_size", "_law_value"]
  g_l_is : mg "_law_is" = some (.ref f_l_is)
  A_l_bent : U.FnAt K "_law_bent" "_law_bent" s_l_bent f_l_bent ["_law_pool", "_law_value", "_law_size"]
  g_l_bent : mg "_law_bent" = some (.ref f_l_bent)
  A_l_right : U.FnAt K "_law_right" "_law_right" s_l_right f_l_right ["_law_pool", "_law_family_here", "_law_tables", "_law_size"]
  g_l_right : mg "_law_right" = some (.ref f_l_right)
  A_l_great : U.FnAt K "_law_great" "_law_great" s_l_great f_l_great []
  g_l_great : mg "_law_great" = some (.ref f_l_great)
  A_law : U.FnAt K "law" "law" s_law f_law ["_law_script"]
  L_law : ∃ fd, Fun K "law" "law" s_law f_law fd ∧ ∀ (s : Shared) (u : Value), BindsTo s fd ⟨[u], []⟩ [("_law_script", u)]
  g_law : mg "law" = some (.ref f_law)
  g_Map : mg "Map" = some (.ref C_Map)
  o_Map : U.OwnC K C_Map
  kit_int_Map : PySem.W.kitOne K (.ref C_Map) (.type "int") = some false
  kit_bool_Map : PySem.W.kitOne K (.ref C_Map) (.type "bool") = some false
  kit_list_Map : PySem.W.kitOne K (.ref C_Map) (.type "list") = some false
  kit_tuple_Map : PySem.W.kitOne K (.ref C_Map) (.type "tuple") = some false
  kn_NoneType_Map : PySem.W.kitOne K (.type "NoneType") (.ref C_Map) = some false
  nf_NoneType_Map : PySem.W.notFirst K C_Map (.type "NoneType") = true
  kn_int_Map : PySem.W.kitOne K (.type "int") (.ref C_Map) = some false
  nf_int_Map : PySem.W.notFirst K C_Map (.type "int") = true
  kn_bool_Map : PySem.W.kitOne K (.type "bool") (.ref C_Map) = some false
  nf_bool_Map : PySem.W.notFirst K C_Map (.type "bool") = true
  kn_str_Map : PySem.W.kitOne K (.type "str") (.ref C_Map) = some false
  nf_str_Map : PySem.W.notFirst K C_Map (.type "str") = true
  kn_list_Map : PySem.W.kitOne K (.type "list") (.ref C_Map) = some false
  nf_list_Map : PySem.W.notFirst K C_Map (.type "list") = true
  kn_dict_Map : PySem.W.kitOne K (.type "dict") (.ref C_Map) = some false
  nf_dict_Map : PySem.W.notFirst K C_Map (.type "dict") = true
  kn_tuple_Map : PySem.W.kitOne K (.type "tuple") (.ref C_Map) = some false
  nf_tuple_Map : PySem.W.notFirst K C_Map (.type "tuple") = true
  self_Map : PySem.W.kitOne K (.ref C_Map) (.ref C_Map) = some true
  na_own_size_Map : NoAttr K C_Map "own_size"
  na_own_arrows_Map : NoAttr K C_Map "own_arrows"
  ne_Map : PySem.W.findIn K (.ref C_Map) "__ne__" = some (some (.builtin "object.__ne__"))
  A_Map__init : U.FnAt K "__init__" "Map.__init__" s_Map__init f_Map__init ["self", "size", "arrows"]
  m_Map__init : PySem.W.findIn K (.ref C_Map) "__init__" = some (some (.ref f_Map__init))
  i_Map__init : PySem.W.isFn K (.ref f_Map__init) = true
  M_Map : Mk K C_Map f_Map__init
  R_Map : ClX.CRead K C_Map (.type "type")
  A_Map_identity : U.FnAt K "identity" "Map.identity" s_Map_identity f_Map_identity ["cls", "size"]
  cm_Map_identity : ClX.CMet K C_Map (.type "type") "identity" p_Map_identity f_Map_identity
  A_Map_empty : U.FnAt K "empty" "Map.empty" s_Map_empty f_Map_empty ["cls", "size"]
  cm_Map_empty : ClX.CMet K C_Map (.type "type") "empty" p_Map_empty f_Map_empty
  A_Map_size : U.FnAt K "size" "Map.size" s_Map_size f_Map_size ["self"]
  P_Map_size : PropOf K C_Map "size" p_Map_size f_Map_size
  A_Map_arrows : U.FnAt K "arrows" "Map.arrows" s_Map_arrows f_Map_arrows ["self"]
  P_Map_arrows : PropOf K C_Map "arrows" p_Map_arrows f_Map_arrows
  A_Map__mul : U.FnAt K "__mul__" "Map.__mul__" s_Map__mul f_Map__mul ["self", "other"]
  m_Map__mul : PySem.W.findIn K (.ref C_Map) "__mul__" = some (some (.ref f_Map__mul))
  i_Map__mul : PySem.W.isFn K (.ref f_Map__mul) = true
  A_Map__or : U.FnAt K "__or__" "Map.__or__" s_Map__or f_Map__or ["self", "other"]
  m_Map__or : PySem.W.findIn K (.ref C_Map) "__or__" = some (some (.ref f_Map__or))
  i_Map__or : PySem.W.isFn K (.ref f_Map__or) = true
  A_Map__eq : U.FnAt K "__eq__" "Map.__eq__" s_Map__eq f_Map__eq ["self", "other"]
  m_Map__eq : PySem.W.findIn K (.ref C_Map) "__eq__" = some (some (.ref f_Map__eq))
  i_Map__eq : PySem.W.isFn K (.ref f_Map__eq) = true
  g_Family : mg "Family" = some (.ref C_Family)
  o_Family : U.OwnC K C_Family
  kit_int_Family : PySem.W.kitOne K (.ref C_Family) (.type "int") = some false
  kit_bool_Family : PySem.W.kitOne K (.ref C_Family) (.type "bool") = some false
  kn_NoneType_Family : PySem.W.kitOne K (.type "NoneType") (.ref C_Family) = some false
  nf_NoneType_Family : PySem.W.notFirst K C_Family (.type "NoneType") = true
  kn_int_Family : PySem.W.kitOne K (.type "int") (.ref C_Family) = some false
  nf_int_Family : PySem.W.notFirst K C_Family (.type "int") = true
  kn_bool_Family : PySem.W.kitOne K (.type "bool") (.ref C_Family) = some false
  nf_bool_Family : PySem.W.notFirst K C_Family (.type "bool") = true
  kn_str_Family : PySem.W.kitOne K (.type "str") (.ref C_Family) = some false
  nf_str_Family : PySem.W.notFirst K C_Family (.type "str") = true
  kn_list_Family : PySem.W.kitOne K (.type "list") (.ref C_Family) = some false
  nf_list_Family : PySem.W.notFirst K C_Family (.type "list") = true
  kn_dict_Family : PySem.W.kitOne K (.type "dict") (.ref C_Family) = some false
  nf_dict_Family : PySem.W.notFirst K C_Family (.type "dict") = true
  kn_tuple_Family : PySem.W.kitOne K (.type "tuple") (.ref C_Family) = some false
  nf_tuple_Family : PySem.W.notFirst K C_Family (.type "tuple") = true
  kx_Family_Map : PySem.W.kitOne K (.ref C_Family) (.ref C_Map) = some false
  nf_Family_Map : PySem.W.notFirst K C_Map (.ref C_Family) = true
  self_Family : PySem.W.kitOne K (.ref C_Family) (.ref C_Family) = some true
  na_own_maps_Family : NoAttr K C_Family "own_maps"
  ne_Family : PySem.W.findIn K (.ref C_Family) "__ne__" = some (some (.builtin "object.__ne__"))
  A_Family__init : U.StarAt K "__init__" "Family.__init__" s_Family__init f_Family__init ["self"] "maps"
  m_Family__init : PySem.W.findIn K (.ref C_Family) "__init__" = some (some (.ref f_Family__init))
  i_Family__init : PySem.W.isFn K (.ref f_Family__init) = true
  M_Family : Mk K C_Family f_Family__init
  A_Family_maps : U.FnAt K "maps" "Family.maps" s_Family_maps f_Family_maps ["self"]
  P_Family_maps : PropOf K C_Family "maps" p_Family_maps f_Family_maps
  A_Family_size : U.FnAt K "size" "Family.size" s_Family_size f_Family_size ["self"]
  P_Family_size : PropOf K C_Family "size" p_Family_size f_Family_size
  A_Family__call : U.FnAt K "__call__" "Family.__call__" s_Family__call f_Family__call ["self", "word"]
  m_Family__call : PySem.W.findIn K (.ref C_Family) "__call__" = some (some (.ref f_Family__call))
  i_Family__call : PySem.W.isFn K (.ref f_Family__call) = true
  fi_Family__call : PySem.W.fnIn K f_Family__call = true
  A_Family__add : U.FnAt K "__add__" "Family.__add__" s_Family__add f_Family__add ["self", "other"]
  m_Family__add : PySem.W.findIn K (.ref C_Family) "__add__" = some (some (.ref f_Family__add))
  i_Family__add : PySem.W.isFn K (.ref f_Family__add) = true
  A_Family__len : U.FnAt K "__len__" "Family.__len__" s_Family__len f_Family__len ["self"]
  m_Family__len : PySem.W.findIn K (.ref C_Family) "__len__" = some (some (.ref f_Family__len))
  i_Family__len : PySem.W.isFn K (.ref f_Family__len) = true
  g_InvalidMap : mg "InvalidMap" = some (.ref C_InvalidMap)
  x_InvalidMap : OexG K C_InvalidMap
  xf_InvalidMap : XfC K C_InvalidMap
  xe_InvalidMap : ExcC K C_InvalidMap
  te_InvalidMap : PySem.W.exmOne K (.ref C_InvalidMap) (.ref C_InvalidMap) = some true
  kit_ValueError_InvalidMap : PySem.W.kitOne K (.ref C_InvalidMap) (.type "ValueError") = some true
  na_part_InvalidMap : PySem.W.findIn K (.ref C_InvalidMap) "part" = some none
  A_InvalidMap__init : U.FnAt K "__init__" "InvalidMap.__init__" s_InvalidMap__init f_InvalidMap__init ["self", "part"]
  m_InvalidMap__init : PySem.W.findIn K (.ref C_InvalidMap) "__init__" = some (some (.ref f_InvalidMap__init))
  ti_InvalidMap__init : PySem.W.typeIn K (.ref f_InvalidMap__init) = some (.type "function")
  g_SizeMismatch : mg "SizeMismatch" = some (.ref C_SizeMismatch)
  x_SizeMismatch : OexG K C_SizeMismatch
  xf_SizeMismatch : XfC K C_SizeMismatch
  xe_SizeMismatch : ExcC K C_SizeMismatch
  te_SizeMismatch : PySem.W.exmOne K (.ref C_SizeMismatch) (.ref C_SizeMismatch) = some true
  kit_ValueError_SizeMismatch : PySem.W.kitOne K (.ref C_SizeMismatch) (.type "ValueError") = some true
  te_SizeMismatch_InvalidMap : PySem.W.exmOne K (.ref C_SizeMismatch) (.ref C_InvalidMap) = some false
  na_first_SizeMismatch : PySem.W.findIn K (.ref C_SizeMismatch) "first" = some none
  na_second_SizeMismatch : PySem.W.findIn K (.ref C_SizeMismatch) "second" = some none
  A_SizeMismatch__init : U.FnAt K "__init__" "SizeMismatch.__init__" s_SizeMismatch__init f_SizeMismatch__init ["self", "first", "second"]
  m_SizeMismatch__init : PySem.W.findIn K (.ref C_SizeMismatch) "__init__" = some (some (.ref f_SizeMismatch__init))
  ti_SizeMismatch__init : PySem.W.typeIn K (.ref f_SizeMismatch__init) = some (.type "function")
  g_LimitExceeded : mg "LimitExceeded" = some (.ref C_LimitExceeded)
  x_LimitExceeded : OexG K C_LimitExceeded
  xf_LimitExceeded : XfC K C_LimitExceeded
  xe_LimitExceeded : ExcC K C_LimitExceeded
  te_LimitExceeded : PySem.W.exmOne K (.ref C_LimitExceeded) (.ref C_LimitExceeded) = some true
  kit_OverflowError_LimitExceeded : PySem.W.kitOne K (.ref C_LimitExceeded) (.type "OverflowError") = some true
  te_LimitExceeded_InvalidMap : PySem.W.exmOne K (.ref C_LimitExceeded) (.ref C_InvalidMap) = some false
  te_LimitExceeded_SizeMismatch : PySem.W.exmOne K (.ref C_LimitExceeded) (.ref C_SizeMismatch) = some false
  na_limit_LimitExceeded : PySem.W.findIn K (.ref C_LimitExceeded) "limit" = some none
  A_LimitExceeded__init : U.FnAt K "__init__" "LimitExceeded.__init__" s_LimitExceeded__init f_LimitExceeded__init ["self", "limit"]
  m_LimitExceeded__init : PySem.W.findIn K (.ref C_LimitExceeded) "__init__" = some (some (.ref f_LimitExceeded__init))
  ti_LimitExceeded__init : PySem.W.typeIn K (.ref f_LimitExceeded__init) = some (.type "function")
  g_InvalidWord : mg "InvalidWord" = some (.ref C_InvalidWord)
  x_InvalidWord : OexG K C_InvalidWord
  xf_InvalidWord : XfC K C_InvalidWord
  xe_InvalidWord : ExcC K C_InvalidWord
  te_InvalidWord : PySem.W.exmOne K (.ref C_InvalidWord) (.ref C_InvalidWord) = some true
  kit_ValueError_InvalidWord : PySem.W.kitOne K (.ref C_InvalidWord) (.type "ValueError") = some true
  te_InvalidWord_InvalidMap : PySem.W.exmOne K (.ref C_InvalidWord) (.ref C_InvalidMap) = some false
  te_InvalidWord_SizeMismatch : PySem.W.exmOne K (.ref C_InvalidWord) (.ref C_SizeMismatch) = some false
  te_InvalidWord_LimitExceeded : PySem.W.exmOne K (.ref C_InvalidWord) (.ref C_LimitExceeded) = some false
  na_position_InvalidWord : PySem.W.findIn K (.ref C_InvalidWord) "position" = some none
  A_InvalidWord__init : U.FnAt K "__init__" "InvalidWord.__init__" s_InvalidWord__init f_InvalidWord__init ["self", "position"]
  m_InvalidWord__init : PySem.W.findIn K (.ref C_InvalidWord) "__init__" = some (some (.ref f_InvalidWord__init))
  ti_InvalidWord__init : PySem.W.typeIn K (.ref f_InvalidWord__init) = some (.type "function")
  g_Clash : mg "Clash" = some (.ref C_Clash)
  x_Clash : OexG K C_Clash
  xf_Clash : XfC K C_Clash
  xe_Clash : ExcC K C_Clash
  te_Clash : PySem.W.exmOne K (.ref C_Clash) (.ref C_Clash) = some true
  kit_RuntimeError_Clash : PySem.W.kitOne K (.ref C_Clash) (.type "RuntimeError") = some true
  te_Clash_InvalidMap : PySem.W.exmOne K (.ref C_Clash) (.ref C_InvalidMap) = some false
  te_Clash_SizeMismatch : PySem.W.exmOne K (.ref C_Clash) (.ref C_SizeMismatch) = some false
  te_Clash_LimitExceeded : PySem.W.exmOne K (.ref C_Clash) (.ref C_LimitExceeded) = some false
  te_Clash_InvalidWord : PySem.W.exmOne K (.ref C_Clash) (.ref C_InvalidWord) = some false
  na_first_Clash : PySem.W.findIn K (.ref C_Clash) "first" = some none
  na_second_Clash : PySem.W.findIn K (.ref C_Clash) "second" = some none
  A_Clash__init : U.FnAt K "__init__" "Clash.__init__" s_Clash__init f_Clash__init ["self", "first", "second"]
  m_Clash__init : PySem.W.findIn K (.ref C_Clash) "__init__" = some (some (.ref f_Clash__init))
  ti_Clash__init : PySem.W.typeIn K (.ref f_Clash__init) = some (.type "function")
  n_isinstance : mg "isinstance" = none
  n_int : mg "int" = none
  n_bool : mg "bool" = none
  n_dict : mg "dict" = none
  n_len : mg "len" = none
  n_range : mg "range" = none
  n_list : mg "list" = none
  n_tuple : mg "tuple" = none
  n_max : mg "max" = none
  n_min : mg "min" = none
  n_enumerate : mg "enumerate" = none
  n_repr : mg "repr" = none
  n_any : mg "any" = none
  n_all : mg "all" = none
  n_zip : mg "zip" = none
  n_sorted : mg "sorted" = none
  n_ValueError : mg "ValueError" = none
  n_OverflowError : mg "OverflowError" = none
  v_MAX_SIZE : ∃ t, mg "MAX_SIZE" = some (.int 300 t)
  v_MOST_MAPS : ∃ t, mg "MOST_MAPS" = some (.int 10 t)
  v_MOST_LETTERS : ∃ t, mg "MOST_LETTERS" = some (.int 1000 t)
  v_MOST_SETS : ∃ t, mg "MOST_SETS" = some (.int 2000 t)
theorem mk_txt {K : PySem.W.Frag} {h : Heap} {mg : Str → Option Value} (X : K.In h) (G : h.Ns mainGlobals mg)
    {f_is_integer : Addr} {oc_is_integer kV_is_integer dc_is_integer pm_is_integer cd_is_integer ct_is_integer : Value} {od_is_integer an_is_integer : Option Addr} {sl_is_integer : Array (Option Value)}
    {f_in_range : Addr} {oc_in_range kV_in_range dc_in_range pm_in_range cd_in_range ct_in_range : Value} {od_in_range an_in_range : Option Addr} {sl_in_range : Array (Option Value)}
    {f_check_size : Addr} {oc_check_size kV_check_size dc_check_size pm_check_size cd_check_size ct_check_size : Value} {od_check_size an_check_size : Option Addr} {sl_check_size : Array (Option Value)}
    {f_are_arrows : Addr} {oc_are_arrows kV_are_arrows dc_are_arrows pm_are_arrows cd_are_arrows ct_are_arrows : Value} {od_are_arrows an_are_arrows : Option Addr} {sl_are_arrows : Array (Option Value)}
    {f_common_size : Addr} {oc_common_size kV_common_size dc_common_size pm_common_size cd_common_size ct_common_size : Value} {od_common_size an_common_size : Option Addr} {sl_common_size : Array (Option Value)}
    {f_check_map : Addr} {oc_check_map kV_check_map dc_check_map pm_check_map cd_check_map ct_check_map : Value} {od_check_map an_check_map : Option Addr} {sl_check_map : Array (Option Value)}
    {f_check_all : Addr} {oc_check_all kV_check_all dc_check_all pm_check_all cd_check_all ct_check_all : Value} {od_check_all an_check_all : Option Addr} {sl_check_all : Array (Option Value)}
    {f_check_many : Addr} {oc_check_many kV_check_many dc_check_many pm_check_many cd_check_many ct_check_many : Value} {od_check_many an_check_many : Option Addr} {sl_check_many : Array (Option Value)}
    {f_check_word : Addr} {oc_check_word kV_check_word dc_check_word pm_check_word cd_check_word ct_check_word : Value} {od_check_word an_check_word : Option Addr} {sl_check_word : Array (Option Value)}
    {f_first_clash : Addr} {oc_first_clash kV_first_clash dc_first_clash pm_first_clash cd_first_clash ct_first_clash : Value} {od_first_clash an_first_clash : Option Addr} {sl_first_clash : Array (Option Value)}
    {f_made : Addr} {oc_made kV_made dc_made pm_made cd_made ct_made : Value} {od_made an_made : Option Addr} {sl_made : Array (Option Value)}
    {f_check_family : Addr} {oc_check_family kV_check_family dc_check_family pm_check_family cd_check_family ct_check_family : Value} {od_check_family an_check_family : Option Addr} {sl_check_family : Array (Option Value)}
    {f_places_after : Addr} {oc_places_after kV_places_after dc_places_after pm_places_after cd_places_after ct_places_after : Value} {od_places_after an_places_after : Option Addr} {sl_places_after : Array (Option Value)}
    {f_image_of : Addr} {oc_image_of kV_image_of dc_image_of pm_image_of cd_image_of ct_image_of : Value} {od_image_of an_image_of : Option Addr} {sl_image_of : Array (Option Value)}
    {f_searched : Addr} {oc_searched kV_searched dc_searched pm_searched cd_searched ct_searched : Value} {od_searched an_searched : Option Addr} {sl_searched : Array (Option Value)}
    {f_losing_word : Addr} {oc_losing_word kV_losing_word dc_losing_word pm_losing_word cd_losing_word ct_losing_word : Value} {od_losing_word an_losing_word : Option Addr} {sl_losing_word : Array (Option Value)}
    {f_holding_sets : Addr} {oc_holding_sets kV_holding_sets dc_holding_sets pm_holding_sets cd_holding_sets ct_holding_sets : Value} {od_holding_sets an_holding_sets : Option Addr} {sl_holding_sets : Array (Option Value)}
    {f_is_set : Addr} {oc_is_set kV_is_set dc_is_set pm_is_set cd_is_set ct_is_set : Value} {od_is_set an_is_set : Option Addr} {sl_is_set : Array (Option Value)}
    {f_is_holding : Addr} {oc_is_holding kV_is_holding dc_is_holding pm_is_holding cd_is_holding ct_is_holding : Value} {od_is_holding an_is_holding : Option Addr} {sl_is_holding : Array (Option Value)}
    {f_l_hand : Addr} {oc_l_hand kV_l_hand dc_l_hand pm_l_hand cd_l_hand ct_l_hand : Value} {od_l_hand an_l_hand : Option Addr} {sl_l_hand : Array (Option Value)}
    {f_l_draw : Addr} {oc_l_draw kV_l_draw dc_l_draw pm_l_draw cd_l_draw ct_l_draw : Value} {od_l_draw an_l_draw : Option Addr} {sl_l_draw : Array (Option Value)}
    {f_l_arrows : Addr} {oc_l_arrows kV_l_arrows dc_l_arrows pm_l_arrows cd_l_arrows ct_l_arrows : Value} {od_l_arrows an_l_arrows : Option Addr} {sl_l_arrows : Array (Option Value)}
    {f_l_family : Addr} {oc_l_family kV_l_family dc_l_family pm_l_family cd_l_family ct_l_family : Value} {od_l_family an_l_family : Option Addr} {sl_l_family : Array (Option Value)}
    {f_l_image : Addr} {oc_l_image kV_l_image dc_l_image pm_l_image cd_l_image ct_l_image : Value} {od_l_image an_l_image : Option Addr} {sl_l_image : Array (Option Value)}
    {f_l_search : Addr} {oc_l_search kV_l_search dc_l_search pm_l_search cd_l_search ct_l_search : Value} {od_l_search an_l_search : Option Addr} {sl_l_search : Array (Option Value)}
    {f_l_is_list : Addr} {oc_l_is_list kV_l_is_list dc_l_is_list pm_l_is_list cd_l_is_list ct_l_is_list : Value} {od_l_is_list an_l_is_list : Option Addr} {sl_l_is_list : Array (Option Value)}
    {f_l_is : Addr} {oc_l_is kV_l_is dc_l_is pm_l_is cd_l_is ct_l_is : Value} {od_l_is an_l_is : Option Addr} {sl_l_is : Array (Option Value)}
    {f_l_bent : Addr} {oc_l_bent kV_l_bent dc_l_bent pm_l_bent cd_l_bent ct_l_bent : Value} {od_l_bent an_l_bent : Option Addr} {sl_l_bent : Array (Option Value)}
    {f_l_right : Addr} {oc_l_right kV_l_right dc_l_right pm_l_right cd_l_right ct_l_right : Value} {od_l_right an_l_right : Option Addr} {sl_l_right : Array (Option Value)}
    {f_l_great : Addr} {oc_l_great kV_l_great dc_l_great pm_l_great cd_l_great ct_l_great : Value} {od_l_great an_l_great : Option Addr} {sl_l_great : Array (Option Value)}
    {f_law : Addr} {oc_law kV_law dc_law pm_law cd_law ct_law : Value} {od_law an_law : Option Addr} {sl_law : Array (Option Value)}
    {C_Map : Addr}
    {f_Map__init : Addr} {oc_Map__init kV_Map__init dc_Map__init pm_Map__init cd_Map__init ct_Map__init : Value} {od_Map__init an_Map__init : Option Addr} {sl_Map__init : Array (Option Value)}
    {p_Map_identity : Addr} {r_Map_identity : List Value}
    {f_Map_identity : Addr} {oc_Map_identity kV_Map_identity dc_Map_identity pm_Map_identity cd_Map_identity ct_Map_identity : Value} {od_Map_identity an_Map_identity : Option Addr} {sl_Map_identity : Array (Option Value)}
    {p_Map_empty : Addr} {r_Map_empty : List Value}
    {f_Map_empty : Addr} {oc_Map_empty kV_Map_empty dc_Map_empty pm_Map_empty cd_Map_empty ct_Map_empty : Value} {od_Map_empty an_Map_empty : Option Addr} {sl_Map_empty : Array (Option Value)}
    {p_Map_size : Addr} {r_Map_size : List Value}
    {f_Map_size : Addr} {oc_Map_size kV_Map_size dc_Map_size pm_Map_size cd_Map_size ct_Map_size : Value} {od_Map_size an_Map_size : Option Addr} {sl_Map_size : Array (Option Value)}
    {p_Map_arrows : Addr} {r_Map_arrows : List Value}
    {f_Map_arrows : Addr} {oc_Map_arrows kV_Map_arrows dc_Map_arrows pm_Map_arrows cd_Map_arrows ct_Map_arrows : Value} {od_Map_arrows an_Map_arrows : Option Addr} {sl_Map_arrows : Array (Option Value)}
    {f_Map__mul : Addr} {oc_Map__mul kV_Map__mul dc_Map__mul pm_Map__mul cd_Map__mul ct_Map__mul : Value} {od_Map__mul an_Map__mul : Option Addr} {sl_Map__mul : Array (Option Value)}
    {f_Map__or : Addr} {oc_Map__or kV_Map__or dc_Map__or pm_Map__or cd_Map__or ct_Map__or : Value} {od_Map__or an_Map__or : Option Addr} {sl_Map__or : Array (Option Value)}
    {f_Map__eq : Addr} {oc_Map__eq kV_Map__eq dc_Map__eq pm_Map__eq cd_Map__eq ct_Map__eq : Value} {od_Map__eq an_Map__eq : Option Addr} {sl_Map__eq : Array (Option Value)}
    {C_Family : Addr}
    {f_Family__init : Addr} {oc_Family__init kV_Family__init dc_Family__init pm_Family__init cd_Family__init ct_Family__init : Value} {od_Family__init an_Family__init : Option Addr} {sl_Family__init : Array (Option Value)}
    {p_Family_maps : Addr} {r_Family_maps : List Value}
    {f_Family_maps : Addr} {oc_Family_maps kV_Family_maps dc_Family_maps pm_Family_maps cd_Family_maps ct_Family_maps : Value} {od_Family_maps an_Family_maps : Option Addr} {sl_Family_maps : Array (Option Value)}
    {p_Family_size : Addr} {r_Family_size : List Value}
    {f_Family_size : Addr} {oc_Family_size kV_Family_size dc_Family_size pm_Family_size cd_Family_size ct_Family_size : Value} {od_Family_size an_Family_size : Option Addr} {sl_Family_size : Array (Option Value)}
    {f_Family__call : Addr} {oc_Family__call kV_Family__call dc_Family__call pm_Family__call cd_Family__call ct_Family__call : Value} {od_Family__call an_Family__call : Option Addr} {sl_Family__call : Array (Option Value)}
    {f_Family__add : Addr} {oc_Family__add kV_Family__add dc_Family__add pm_Family__add cd_Family__add ct_Family__add : Value} {od_Family__add an_Family__add : Option Addr} {sl_Family__add : Array (Option Value)}
    {f_Family__len : Addr} {oc_Family__len kV_Family__len dc_Family__len pm_Family__len cd_Family__len ct_Family__len : Value} {od_Family__len an_Family__len : Option Addr} {sl_Family__len : Array (Option Value)}
    {C_InvalidMap : Addr} {nm_InvalidMap q_InvalidMap : Str} {N_InvalidMap : Addr} {bs_InvalidMap : List Value} {sn_InvalidMap : List Str} {sub_InvalidMap : List Value} {ab_InvalidMap : Bool} {col_InvalidMap : Option Bool} {dd_InvalidMap : Option Addr} {m0_InvalidMap m1_InvalidMap m2_InvalidMap m3_InvalidMap m5_InvalidMap : Option Value}
    {f_InvalidMap__init : Addr} {oc_InvalidMap__init kV_InvalidMap__init dc_InvalidMap__init pm_InvalidMap__init cd_InvalidMap__init ct_InvalidMap__init : Value} {od_InvalidMap__init an_InvalidMap__init : Option Addr} {sl_InvalidMap__init : Array (Option Value)}
    {C_SizeMismatch : Addr} {nm_SizeMismatch q_SizeMismatch : Str} {N_SizeMismatch : Addr} {bs_SizeMismatch : List Value} {sn_SizeMismatch : List Str} {sub_SizeMismatch : List Value} {ab_SizeMismatch : Bool} {col_SizeMismatch : Option Bool} {dd_SizeMismatch : Option Addr} {m0_SizeMismatch m1_SizeMismatch m2_SizeMismatch m3_SizeMismatch m5_SizeMismatch : Option Value}
    {f_SizeMismatch__init : Addr} {oc_SizeMismatch__init kV_SizeMismatch__init dc_SizeMismatch__init pm_SizeMismatch__init cd_SizeMismatch__init ct_SizeMismatch__init : Value} {od_SizeMismatch__init an_SizeMismatch__init : Option Addr} {sl_SizeMismatch__init : Array (Option Value)}
    {C_LimitExceeded : Addr} {nm_LimitExceeded q_LimitExceeded : Str} {N_LimitExceeded : Addr} {bs_LimitExceeded : List Value} {sn_LimitExceeded : List Str} {sub_LimitExceeded : List Value} {ab_LimitExceeded : Bool} {col_LimitExceeded : Option Bool} {dd_LimitExceeded : Option Addr} {m0_LimitExceeded m1_LimitExceeded m2_LimitExceeded m3_LimitExceeded m5_LimitExceeded : Option Value}
    {f_LimitExceeded__init : Addr} {oc_LimitExceeded__init kV_LimitExceeded__init dc_LimitExceeded__init pm_LimitExceeded__init cd_LimitExceeded__init ct_LimitExceeded__init : Value} {od_LimitExceeded__init an_LimitExceeded__init : Option Addr} {sl_LimitExceeded__init : Array (Option Value)}
    {C_InvalidWord : Addr} {nm_InvalidWord q_InvalidWord : Str} {N_InvalidWord : Addr} {bs_InvalidWord : List Value} {sn_InvalidWord : List Str} {sub_InvalidWord : List Value} {ab_InvalidWord : Bool} {col_InvalidWord : Option Bool} {dd_InvalidWord : Option Addr} {m0_InvalidWord m1_InvalidWord m2_InvalidWord m3_InvalidWord m5_InvalidWord : Option Value}
    {f_InvalidWord__init : Addr} {oc_InvalidWord__init kV_InvalidWord__init dc_InvalidWord__init pm_InvalidWord__init cd_InvalidWord__init ct_InvalidWord__init : Value} {od_InvalidWord__init an_InvalidWord__init : Option Addr} {sl_InvalidWord__init : Array (Option Value)}
    {C_Clash : Addr} {nm_Clash q_Clash : Str} {N_Clash : Addr} {bs_Clash : List Value} {sn_Clash : List Str} {sub_Clash : List Value} {ab_Clash : Bool} {col_Clash : Option Bool} {dd_Clash : Option Addr} {m0_Clash m1_Clash m2_Clash m3_Clash m5_Clash : Option Value}
    {f_Clash__init : Addr} {oc_Clash__init kV_Clash__init dc_Clash__init pm_Clash__init cd_Clash__init ct_Clash__init : Value} {od_Clash__init an_Clash__init : Option Addr} {sl_Clash__init : Array (Option Value)}
    {t_MAX_SIZE : Tok}
    {t_MOST_MAPS : Tok}
    {t_MOST_LETTERS : Tok}
    {t_MOST_SETS : Tok}
    (a_is_integer : PySem.W.nsIn K mainGlobals "is_integer" = some (some (.ref f_is_integer)))
    (l_is_integer : K.lookup f_is_integer = some ⟨oc_is_integer, od_is_integer, .func (PySem.W.fnOf "is_integer" "is_integer" (defArgs s_is_integer) (defBody s_is_integer) (defScope s_is_integer) .none kV_is_integer dc_is_integer pm_is_integer an_is_integer cd_is_integer ct_is_integer), sl_is_integer⟩)
    (c_is_integer : PySem.W.codeIn K cd_is_integer "is_integer" = true)
    (k_is_integer : PySem.W.keepIn K (.ref f_is_integer) = true)
    (a_in_range : PySem.W.nsIn K mainGlobals "in_range" = some (some (.ref f_in_range)))
    (l_in_range : K.lookup f_in_range = some ⟨oc_in_range, od_in_range, .func (PySem.W.fnOf "in_range" "in_range" (defArgs s_in_range) (defBody s_in_range) (defScope s_in_range) .none kV_in_range dc_in_range pm_in_range an_in_range cd_in_range ct_in_range), sl_in_range⟩)
    (c_in_range : PySem.W.codeIn K cd_in_range "in_range" = true)
    (k_in_range : PySem.W.keepIn K (.ref f_in_range) = true)
    (a_check_size : PySem.W.nsIn K mainGlobals "check_size" = some (some (.ref f_check_size)))
    (l_check_size : K.lookup f_check_size = some ⟨oc_check_size, od_check_size, .func (PySem.W.fnOf "check_size" "check_size" (defArgs s_check_size) (defBody s_check_size) (defScope s_check_size) .none kV_check_size dc_check_size pm_check_size an_check_size cd_check_size ct_check_size), sl_check_size⟩)
    (c_check_size : PySem.W.codeIn K cd_check_size "check_size" = true)
    (k_check_size : PySem.W.keepIn K (.ref f_check_size) = true)
    (a_are_arrows : PySem.W.nsIn K mainGlobals "are_arrows" = some (some (.ref f_are_arrows)))
    (l_are_arrows : K.lookup f_are_arrows = some ⟨oc_are_arrows, od_are_arrows, .func (PySem.W.fnOf "are_arrows" "are_arrows" (defArgs s_are_arrows) (defBody s_are_arrows) (defScope s_are_arrows) .none kV_are_arrows dc_are_arrows pm_are_arrows an_are_arrows cd_are_arrows ct_are_arrows), sl_are_arrows⟩)
    (c_are_arrows : PySem.W.codeIn K cd_are_arrows "are_arrows" = true)
    (k_are_arrows : PySem.W.keepIn K (.ref f_are_arrows) = true)
    (a_common_size : PySem.W.nsIn K mainGlobals "common_size" = some (some (.ref f_common_size)))
    (l_common_size : K.lookup f_common_size = some ⟨oc_common_size, od_common_size, .func (PySem.W.fnOf "common_size" "common_size" (defArgs s_common_size) (defBody s_common_size) (defScope s_common_size) .none kV_common_size dc_common_size pm_common_size an_common_size cd_common_size ct_common_size), sl_common_size⟩)
    (c_common_size : PySem.W.codeIn K cd_common_size "common_size" = true)
    (k_common_size : PySem.W.keepIn K (.ref f_common_size) = true)
    (a_check_map : PySem.W.nsIn K mainGlobals "check_map" = some (some (.ref f_check_map)))
    (l_check_map : K.lookup f_check_map = some ⟨oc_check_map, od_check_map, .func (PySem.W.fnOf "check_map" "check_map" (defArgs s_check_map) (defBody s_check_map) (defScope s_check_map) .none kV_check_map dc_check_map pm_check_map an_check_map cd_check_map ct_check_map), sl_check_map⟩)
    (c_check_map : PySem.W.codeIn K cd_check_map "check_map" = true)
    (k_check_map : PySem.W.keepIn K (.ref f_check_map) = true)
    (a_check_all : PySem.W.nsIn K mainGlobals "check_all" = some (some (.ref f_check_all)))
    (l_check_all : K.lookup f_check_all = some ⟨oc_check_all, od_check_all, .func (PySem.W.fnOf "check_all" "check_all" (defArgs s_check_all) (defBody s_check_all) (defScope s_check_all) .none kV_check_all dc_check_all pm_check_all an_check_all cd_check_all ct_check_all), sl_check_all⟩)
    (c_check_all : PySem.W.codeIn K cd_check_all "check_all" = true)
    (k_check_all : PySem.W.keepIn K (.ref f_check_all) = true)
    (a_check_many : PySem.W.nsIn K mainGlobals "check_many" = some (some (.ref f_check_many)))
    (l_check_many : K.lookup f_check_many = some ⟨oc_check_many, od_check_many, .func (PySem.W.fnOf "check_many" "check_many" (defArgs s_check_many) (defBody s_check_many) (defScope s_check_many) .none kV_check_many dc_check_many pm_check_many an_check_many cd_check_many ct_check_many), sl_check_many⟩)
    (c_check_many : PySem.W.codeIn K cd_check_many "check_many" = true)
    (k_check_many : PySem.W.keepIn K (.ref f_check_many) = true)
    (a_check_word : PySem.W.nsIn K mainGlobals "check_word" = some (some (.ref f_check_word)))
    (l_check_word : K.lookup f_check_word = some ⟨oc_check_word, od_check_word, .func (PySem.W.fnOf "check_word" "check_word" (defArgs s_check_word) (defBody s_check_word) (defScope s_check_word) .none kV_check_word dc_check_word pm_check_word an_check_word cd_check_word ct_check_word), sl_check_word⟩)
    (c_check_word : PySem.W.codeIn K cd_check_word "check_word" = true)
    (k_check_word : PySem.W.keepIn K (.ref f_check_word) = true)
    (a_first_clash : PySem.W.nsIn K mainGlobals "first_clash" = some (some (.ref f_first_clash)))
    (l_first_clash : K.lookup f_first_clash = some ⟨oc_first_clash, od_first_clash, .func (PySem.W.fnOf "first_clash" "first_clash" (defArgs s_first_clash) (defBody s_first_clash) (defScope s_first_clash) .none kV_first_clash dc_first_clash pm_first_clash an_first_clash cd_first_clash ct_first_clash), sl_first_clash⟩)
    (c_first_clash : PySem.W.codeIn K cd_first_clash "first_clash" = true)
    (k_first_clash : PySem.W.keepIn K (.ref f_first_clash) = true)
    (a_made : PySem.W.nsIn K mainGlobals "made" = some (some (.ref f_made)))
    (l_made : K.lookup f_made = some ⟨oc_made, od_made, .func (PySem.W.fnOf "made" "made" (defArgs s_made) (defBody s_made) (defScope s_made) .none kV_made dc_made pm_made an_made cd_made ct_made), sl_made⟩)
    (c_made : PySem.W.codeIn K cd_made "made" = true)
    (k_made : PySem.W.keepIn K (.ref f_made) = true)
    (a_check_family : PySem.W.nsIn K mainGlobals "check_family" = some (some (.ref f_check_family)))
    (l_check_family : K.lookup f_check_family = some ⟨oc_check_family, od_check_family, .func (PySem.W.fnOf "check_family" "check_family" (defArgs s_check_family) (defBody s_check_family) (defScope s_check_family) .none kV_check_family dc_check_family pm_check_family an_check_family cd_check_family ct_check_family), sl_check_family⟩)
    (c_check_family : PySem.W.codeIn K cd_check_family "check_family" = true)
    (k_check_family : PySem.W.keepIn K (.ref f_check_family) = true)
    (a_places_after : PySem.W.nsIn K mainGlobals "places_after" = some (some (.ref f_places_after)))
    (l_places_after : K.lookup f_places_after = some ⟨oc_places_after, od_places_after, .func (PySem.W.fnOf "places_after" "places_after" (defArgs s_places_after) (defBody s_places_after) (defScope s_places_after) .none kV_places_after dc_places_after pm_places_after an_places_after cd_places_after ct_places_after), sl_places_after⟩)
    (c_places_after : PySem.W.codeIn K cd_places_after "places_after" = true)
    (k_places_after : PySem.W.keepIn K (.ref f_places_after) = true)
    (a_image_of : PySem.W.nsIn K mainGlobals "image_of" = some (some (.ref f_image_of)))
    (l_image_of : K.lookup f_image_of = some ⟨oc_image_of, od_image_of, .func (PySem.W.fnOf "image_of" "image_of" (defArgs s_image_of) (defBody s_image_of) (defScope s_image_of) .none kV_image_of dc_image_of pm_image_of an_image_of cd_image_of ct_image_of), sl_image_of⟩)
    (c_image_of : PySem.W.codeIn K cd_image_of "image_of" = true)
    (k_image_of : PySem.W.keepIn K (.ref f_image_of) = true)
    (a_searched : PySem.W.nsIn K mainGlobals "searched" = some (some (.ref f_searched)))
    (l_searched : K.lookup f_searched = some ⟨oc_searched, od_searched, .func (PySem.W.fnOf "searched" "searched" (defArgs s_searched) (defBody s_searched) (defScope s_searched) .none kV_searched dc_searched pm_searched an_searched cd_searched ct_searched), sl_searched⟩)
    (c_searched : PySem.W.codeIn K cd_searched "searched" = true)
    (k_searched : PySem.W.keepIn K (.ref f_searched) = true)
    (a_losing_word : PySem.W.nsIn K mainGlobals "losing_word" = some (some (.ref f_losing_word)))
    (l_losing_word : K.lookup f_losing_word = some ⟨oc_losing_word, od_losing_word, .func (PySem.W.fnOf "losing_word" "losing_word" (defArgs s_losing_word) (defBody s_losing_word) (defScope s_losing_word) .none kV_losing_word dc_losing_word pm_losing_word an_losing_word cd_losing_word ct_losing_word), sl_losing_word⟩)
    (c_losing_word : PySem.W.codeIn K cd_losing_word "losing_word" = true)
    (k_losing_word : PySem.W.keepIn K (.ref f_losing_word) = true)
    (a_holding_sets : PySem.W.nsIn K mainGlobals "holding_sets" = some (some (.ref f_holding_sets)))
    (l_holding_sets : K.lookup f_holding_sets = some ⟨oc_holding_sets, od_holding_sets, .func (PySem.W.fnOf "holding_sets" "holding_sets" (defArgs s_holding_sets) (defBody s_holding_sets) (defScope s_holding_sets) .none kV_holding_sets dc_holding_sets pm_holding_sets an_holding_sets cd_holding_sets ct_holding_sets), sl_holding_sets⟩)
    (c_holding_sets : PySem.W.codeIn K cd_holding_sets "holding_sets" = true)
    (k_holding_sets : PySem.W.keepIn K (.ref f_holding_sets) = true)
    (a_is_set : PySem.W.nsIn K mainGlobals "is_set" = some (some (.ref f_is_set)))
    (l_is_set : K.lookup f_is_set = some ⟨oc_is_set, od_is_set, .func (PySem.W.fnOf "is_set" "is_set" (defArgs s_is_set) (defBody s_is_set) (defScope s_is_set) .none kV_is_set dc_is_set pm_is_set an_is_set cd_is_set ct_is_set), sl_is_set⟩)
    (c_is_set : PySem.W.codeIn K cd_is_set "is_set" = true)
    (k_is_set : PySem.W.keepIn K (.ref f_is_set) = true)
    (a_is_holding : PySem.W.nsIn K mainGlobals "is_holding" = some (some (.ref f_is_holding)))
    (l_is_holding : K.lookup f_is_holding = some ⟨oc_is_holding, od_is_holding, .func (PySem.W.fnOf "is_holding" "is_holding" (defArgs s_is_holding) (defBody s_is_holding) (defScope s_is_holding) .none kV_is_holding dc_is_holding pm_is_holding an_is_holding cd_is_holding ct_is_holding), sl_is_holding⟩)
    (c_is_holding : PySem.W.codeIn K cd_is_holding "is_holding" = true)
    (k_is_holding : PySem.W.keepIn K (.ref f_is_holding) = true)
    (a_l_hand : PySem.W.nsIn K mainGlobals "_law_hand" = some (some (.ref f_l_hand)))
    (l_l_hand : K.lookup f_l_hand = some ⟨oc_l_hand, od_l_hand, .func (PySem.W.fnOf "_law_hand" "_law_hand" (defArgs s_l_hand) (defBody s_l_hand) (defScope s_l_hand) .none kV_l_hand dc_l_hand pm_l_hand an_l_hand cd_l_hand ct_l_hand), sl_l_hand⟩)
    (c_l_hand : PySem.W.codeIn K cd_l_hand "_law_hand" = true)
    (k_l_hand : PySem.W.keepIn K (.ref f_l_hand) = true)
    (a_l_draw : PySem.W.nsIn K mainGlobals "_law_draw" = some (some (.ref f_l_draw)))
    (l_l_draw : K.lookup f_l_draw = some ⟨oc_l_draw, od_l_draw, .func (PySem.W.fnOf "_law_draw" "_law_draw" (defArgs s_l_draw) (defBody s_l_draw) (defScope s_l_draw) .none kV_l_draw dc_l_draw pm_l_draw an_l_draw cd_l_draw ct_l_draw), sl_l_draw⟩)
    (c_l_draw : PySem.W.codeIn K cd_l_draw "_law_draw" = true)
    (k_l_draw : PySem.W.keepIn K (.ref f_l_draw) = true)
    (a_l_arrows : PySem.W.nsIn K mainGlobals "_law_arrows" = some (some (.ref f_l_arrows)))
    (l_l_arrows : K.lookup f_l_arrows = some ⟨oc_l_arrows, od_l_arrows, .func (PySem.W.fnOf "_law_arrows" "_law_arrows" (defArgs s_l_arrows) (defBody s_l_arrows) (defScope s_l_arrows) .none kV_l_arrows dc_l_arrows pm_l_arrows an_l_arrows cd_l_arrows ct_l_arrows), sl_l_arrows⟩)
    (c_l_arrows : PySem.W.codeIn K cd_l_arrows "_law_arrows" = true)
    (k_l_arrows : PySem.W.keepIn K (.ref f_l_arrows) = true)
    (a_l_family : PySem.W.nsIn K mainGlobals "_law_family" = some (some (.ref f_l_family)))
    (l_l_family : K.lookup f_l_family = some ⟨oc_l_family, od_l_family, .func (PySem.W.fnOf "_law_family" "_law_family" (defArgs s_l_family) (defBody s_l_family) (defScope s_l_family) .none kV_l_family dc_l_family pm_l_family an_l_family cd_l_family ct_l_family), sl_l_family⟩)
    (c_l_family : PySem.W.codeIn K cd_l_family "_law_family" = true)
    (k_l_family : PySem.W.keepIn K (.ref f_l_family) = true)
    (a_l_image : PySem.W.nsIn K mainGlobals "_law_image" = some (some (.ref f_l_image)))
    (l_l_image : K.lookup f_l_image = some ⟨oc_l_image, od_l_image, .func (PySem.W.fnOf "_law_image" "_law_image" (defArgs s_l_image) (defBody s_l_image) (defScope s_l_image) .none kV_l_image dc_l_image pm_l_image an_l_image cd_l_image ct_l_image), sl_l_image⟩)
    (c_l_image : PySem.W.codeIn K cd_l_image "_law_image" = true)
    (k_l_image : PySem.W.keepIn K (.ref f_l_image) = true)
    (a_l_search : PySem.W.nsIn K mainGlobals "_law_search" = some (some (.ref f_l_search)))
    (l_l_search : K.lookup f_l_search = some ⟨oc_l_search, od_l_search, .func (PySem.W.fnOf "_law_search" "_law_search" (defArgs s_l_search) (defBody s_l_search) (defScope s_l_search) .none kV_l_search dc_l_search pm_l_search an_l_search cd_l_search ct_l_search), sl_l_search⟩)
    (c_l_search : PySem.W.codeIn K cd_l_search "_law_search" = true)
    (k_l_search : PySem.W.keepIn K (.ref f_l_search) = true)
    (a_l_is_list : PySem.W.nsIn K mainGlobals "_law_is_list" = some (some (.ref f_l_is_list)))
    (l_l_is_list : K.lookup f_l_is_list = some ⟨oc_l_is_list, od_l_is_list, .func (PySem.W.fnOf "_law_is_list" "_law_is_list" (defArgs s_l_is_list) (defBody s_l_is_list) (defScope s_l_is_list) .none kV_l_is_list dc_l_is_list pm_l_is_list an_l_is_list cd_l_is_list ct_l_is_list), sl_l_is_list⟩)
    (c_l_is_list : PySem.W.codeIn K cd_l_is_list "_law_is_list" = true)
    (k_l_is_list : PySem.W.keepIn K (.ref f_l_is_list) = true)
    (a_l_is : PySem.W.nsIn K mainGlobals "_law_is" = some (some (.ref f_l_is)))
    (l_l_is : K.lookup f_l_is = some ⟨oc_l_is, od_l_is, .func (PySem.W.fnOf "_law_is" "_law_is" (defArgs s_l_is) (defBody s_l_is) (defScope s_l_is) .none kV_l_is dc_l_is pm_l_is an_l_is cd_l_is ct_l_is), sl_l_is⟩)
    (c_l_is : PySem.W.codeIn K cd_l_is "_law_is" = true)
    (k_l_is : PySem.W.keepIn K (.ref f_l_is) = true)
    (a_l_bent : PySem.W.nsIn K mainGlobals "_law_bent" = some (some (.ref f_l_bent)))
    (l_l_bent : K.lookup f_l_bent = some ⟨oc_l_bent, od_l_bent, .func (PySem.W.fnOf "_law_bent" "_law_bent" (defArgs s_l_bent) (defBody s_l_bent) (defScope s_l_bent) .none kV_l_bent dc_l_bent pm_l_bent an_l_bent cd_l_bent ct_l_bent), sl_l_bent⟩)
    (c_l_bent : PySem.W.codeIn K cd_l_bent "_law_bent" = true)
    (k_l_bent : PySem.W.keepIn K (.ref f_l_bent) = true)
    (a_l_right : PySem.W.nsIn K mainGlobals "_law_right" = some (some (.ref f_l_right)))
    (l_l_right : K.lookup f_l_right = some ⟨oc_l_right, od_l_right, .func (PySem.W.fnOf "_law_right" "_law_right" (defArgs s_l_right) (defBody s_l_right) (defScope s_l_right) .none kV_l_right dc_l_right pm_l_right an_l_right cd_l_right ct_l_right), sl_l_right⟩)
    (c_l_right : PySem.W.codeIn K cd_l_right "_law_right" = true)
    (k_l_right : PySem.W.keepIn K (.ref f_l_right) = true)
    (a_l_great : PySem.W.nsIn K mainGlobals "_law_great" = some (some (.ref f_l_great)))
    (l_l_great : K.lookup f_l_great = some ⟨oc_l_great, od_l_great, .func (PySem.W.fnOf "_law_great" "_law_great" (defArgs s_l_great) (defBody s_l_great) (defScope s_l_great) .none kV_l_great dc_l_great pm_l_great an_l_great cd_l_great ct_l_great), sl_l_great⟩)
    (c_l_great : PySem.W.codeIn K cd_l_great "_law_great" = true)
    (k_l_great : PySem.W.keepIn K (.ref f_l_great) = true)
    (a_law : PySem.W.nsIn K mainGlobals "law" = some (some (.ref f_law)))
    (l_law : K.lookup f_law = some ⟨oc_law, od_law, .func (PySem.W.fnOf "law" "law" (defArgs s_law) (defBody s_law) (defScope s_law) .none kV_law dc_law pm_law an_law cd_law ct_law), sl_law⟩)
    (c_law : PySem.W.codeIn K cd_law "law" = true)
    (k_law : PySem.W.keepIn K (.ref f_law) = true)
    (a_Map : PySem.W.nsIn K mainGlobals "Map" = some (some (.ref C_Map)))
    (pg_Map : PySem.W.plainGet K C_Map Str.empty = true)
    (hd_Map : PySem.W.hasDictIn K C_Map = true)
    (po_Map : PySem.W.plainOver K C_Map = true)
    (sa_Map : PySem.W.findIn K (.ref C_Map) "__setattr__" = some (some (.builtin "object.__setattr__")))
    (sf_Map : PySem.W.selfFirst K C_Map = true)
    (ca_Map : PySem.W.findIn K (.ref C_Map) "__class__" = some (some (.builtin "object.__class__")))
    (cn_Map : PySem.W.specialIn K (.builtin "object.__class__") "__get__" = some (some (.builtin "getset_descriptor.__get__")))
    (ct_Map : PySem.W.takesIn K (.builtin "object.__class__") = some true)
    (cm_Map : PySem.W.mroIn K C_Map (.type "object") = some true)
    (kc_Map : PySem.W.keepIn K (.ref C_Map) = true)
    (kit_int_Map : PySem.W.kitOne K (.ref C_Map) (.type "int") = some false)
    (kit_bool_Map : PySem.W.kitOne K (.ref C_Map) (.type "bool") = some false)
    (kit_list_Map : PySem.W.kitOne K (.ref C_Map) (.type "list") = some false)
    (kit_tuple_Map : PySem.W.kitOne K (.ref C_Map) (.type "tuple") = some false)
    (kn_NoneType_Map : PySem.W.kitOne K (.type "NoneType") (.ref C_Map) = some false)
    (nf_NoneType_Map : PySem.W.notFirst K C_Map (.type "NoneType") = true)
    (kn_int_Map : PySem.W.kitOne K (.type "int") (.ref C_Map) = some false)
    (nf_int_Map : PySem.W.notFirst K C_Map (.type "int") = true)
    (kn_bool_Map : PySem.W.kitOne K (.type "bool") (.ref C_Map) = some false)
    (nf_bool_Map : PySem.W.notFirst K C_Map (.type "bool") = true)
    (kn_str_Map : PySem.W.kitOne K (.type "str") (.ref C_Map) = some false)
    (nf_str_Map : PySem.W.notFirst K C_Map (.type "str") = true)
    (kn_list_Map : PySem.W.kitOne K (.type "list") (.ref C_Map) = some false)
    (nf_list_Map : PySem.W.notFirst K C_Map (.type "list") = true)
    (kn_dict_Map : PySem.W.kitOne K (.type "dict") (.ref C_Map) = some false)
    (nf_dict_Map : PySem.W.notFirst K C_Map (.type "dict") = true)
    (kn_tuple_Map : PySem.W.kitOne K (.type "tuple") (.ref C_Map) = some false)
    (nf_tuple_Map : PySem.W.notFirst K C_Map (.type "tuple") = true)
    (self_Map : PySem.W.kitOne K (.ref C_Map) (.ref C_Map) = some true)
    (na_own_size_Map : PySem.W.findIn K (.ref C_Map) "own_size" = some none)
    (na_own_arrows_Map : PySem.W.findIn K (.ref C_Map) "own_arrows" = some none)
    (ne_Map : PySem.W.findIn K (.ref C_Map) "__ne__" = some (some (.builtin "object.__ne__")))
    (m_Map__init : PySem.W.findIn K (.ref C_Map) "__init__" = some (some (.ref f_Map__init)))
    (i_Map__init : PySem.W.isFn K (.ref f_Map__init) = true)
    (l_Map__init : K.lookup f_Map__init = some ⟨oc_Map__init, od_Map__init, .func (PySem.W.fnOf "__init__" "Map.__init__" (defArgs s_Map__init) (defBody s_Map__init) (defScope s_Map__init) .none kV_Map__init dc_Map__init pm_Map__init an_Map__init cd_Map__init ct_Map__init), sl_Map__init⟩)
    (c_Map__init : PySem.W.codeIn K cd_Map__init "Map.__init__" = true)
    (k_Map__init : PySem.W.keepIn K (.ref f_Map__init) = true)
    (mk_Map : PySem.W.makesIn K C_Map = true)
    (rd_Map : PySem.W.readsIn K C_Map (.type "type") = true)
    (ga_Map : PySem.W.specialIn K (.ref C_Map) "__getattribute__" = some (some (.builtin "type.__getattribute__")))
    (at_Map_identity : PySem.W.findCls K (.ref C_Map) (.type "type") "identity" = some (.get (.builtin "classmethod.__get__") (.ref p_Map_identity) .none (.ref C_Map)))
    (rc_Map_identity : PySem.W.recIn K p_Map_identity "classmethod" = some (.ref f_Map_identity :: r_Map_identity))
    (fi_Map_identity : PySem.W.fnIn K f_Map_identity = true)
    (l_Map_identity : K.lookup f_Map_identity = some ⟨oc_Map_identity, od_Map_identity, .func (PySem.W.fnOf "identity" "Map.identity" (defArgs s_Map_identity) (defBody s_Map_identity) (defScope s_Map_identity) .none kV_Map_identity dc_Map_identity pm_Map_identity an_Map_identity cd_Map_identity ct_Map_identity), sl_Map_identity⟩)
    (c_Map_identity : PySem.W.codeIn K cd_Map_identity "Map.identity" = true)
    (k_Map_identity : PySem.W.keepIn K (.ref f_Map_identity) = true)
    (at_Map_empty : PySem.W.findCls K (.ref C_Map) (.type "type") "empty" = some (.get (.builtin "classmethod.__get__") (.ref p_Map_empty) .none (.ref C_Map)))
    (rc_Map_empty : PySem.W.recIn K p_Map_empty "classmethod" = some (.ref f_Map_empty :: r_Map_empty))
    (fi_Map_empty : PySem.W.fnIn K f_Map_empty = true)
    (l_Map_empty : K.lookup f_Map_empty = some ⟨oc_Map_empty, od_Map_empty, .func (PySem.W.fnOf "empty" "Map.empty" (defArgs s_Map_empty) (defBody s_Map_empty) (defScope s_Map_empty) .none kV_Map_empty dc_Map_empty pm_Map_empty an_Map_empty cd_Map_empty ct_Map_empty), sl_Map_empty⟩)
    (c_Map_empty : PySem.W.codeIn K cd_Map_empty "Map.empty" = true)
    (k_Map_empty : PySem.W.keepIn K (.ref f_Map_empty) = true)
    (m_Map_size : PySem.W.findIn K (.ref C_Map) "size" = some (some (.ref p_Map_size)))
    (s_get_Map_size : PySem.W.specialIn K (.ref p_Map_size) "__get__" = some (some (.builtin "property.__get__")))
    (tk_Map_size : PySem.W.takesIn K (.ref p_Map_size) = some true)
    (rc_Map_size : PySem.W.recIn K p_Map_size "property" = some (.ref f_Map_size :: r_Map_size))
    (l_Map_size : K.lookup f_Map_size = some ⟨oc_Map_size, od_Map_size, .func (PySem.W.fnOf "size" "Map.size" (defArgs s_Map_size) (defBody s_Map_size) (defScope s_Map_size) .none kV_Map_size dc_Map_size pm_Map_size an_Map_size cd_Map_size ct_Map_size), sl_Map_size⟩)
    (c_Map_size : PySem.W.codeIn K cd_Map_size "Map.size" = true)
    (k_Map_size : PySem.W.keepIn K (.ref f_Map_size) = true)
    (m_Map_arrows : PySem.W.findIn K (.ref C_Map) "arrows" = some (some (.ref p_Map_arrows)))
    (s_get_Map_arrows : PySem.W.specialIn K (.ref p_Map_arrows) "__get__" = some (some (.builtin "property.__get__")))
    (tk_Map_arrows : PySem.W.takesIn K (.ref p_Map_arrows) = some true)
    (rc_Map_arrows : PySem.W.recIn K p_Map_arrows "property" = some (.ref f_Map_arrows :: r_Map_arrows))
    (l_Map_arrows : K.lookup f_Map_arrows = some ⟨oc_Map_arrows, od_Map_arrows, .func (PySem.W.fnOf "arrows" "Map.arrows" (defArgs s_Map_arrows) (defBody s_Map_arrows) (defScope s_Map_arrows) .none kV_Map_arrows dc_Map_arrows pm_Map_arrows an_Map_arrows cd_Map_arrows ct_Map_arrows), sl_Map_arrows⟩)
    (c_Map_arrows : PySem.W.codeIn K cd_Map_arrows "Map.arrows" = true)
    (k_Map_arrows : PySem.W.keepIn K (.ref f_Map_arrows) = true)
    (m_Map__mul : PySem.W.findIn K (.ref C_Map) "__mul__" = some (some (.ref f_Map__mul)))
    (i_Map__mul : PySem.W.isFn K (.ref f_Map__mul) = true)
    (l_Map__mul : K.lookup f_Map__mul = some ⟨oc_Map__mul, od_Map__mul, .func (PySem.W.fnOf "__mul__" "Map.__mul__" (defArgs s_Map__mul) (defBody s_Map__mul) (defScope s_Map__mul) .none kV_Map__mul dc_Map__mul pm_Map__mul an_Map__mul cd_Map__mul ct_Map__mul), sl_Map__mul⟩)
    (c_Map__mul : PySem.W.codeIn K cd_Map__mul "Map.__mul__" = true)
    (k_Map__mul : PySem.W.keepIn K (.ref f_Map__mul) = true)
    (m_Map__or : PySem.W.findIn K (.ref C_Map) "__or__" = some (some (.ref f_Map__or)))
    (i_Map__or : PySem.W.isFn K (.ref f_Map__or) = true)
    (l_Map__or : K.lookup f_Map__or = some ⟨oc_Map__or, od_Map__or, .func (PySem.W.fnOf "__or__" "Map.__or__" (defArgs s_Map__or) (defBody s_Map__or) (defScope s_Map__or) .none kV_Map__or dc_Map__or pm_Map__or an_Map__or cd_Map__or ct_Map__or), sl_Map__or⟩)
    (c_Map__or : PySem.W.codeIn K cd_Map__or "Map.__or__" = true)
    (k_Map__or : PySem.W.keepIn K (.ref f_Map__or) = true)
    (m_Map__eq : PySem.W.findIn K (.ref C_Map) "__eq__" = some (some (.ref f_Map__eq)))
    (i_Map__eq : PySem.W.isFn K (.ref f_Map__eq) = true)
    (l_Map__eq : K.lookup f_Map__eq = some ⟨oc_Map__eq, od_Map__eq, .func (PySem.W.fnOf "__eq__" "Map.__eq__" (defArgs s_Map__eq) (defBody s_Map__eq) (defScope s_Map__eq) .none kV_Map__eq dc_Map__eq pm_Map__eq an_Map__eq cd_Map__eq ct_Map__eq), sl_Map__eq⟩)
    (c_Map__eq : PySem.W.codeIn K cd_Map__eq "Map.__eq__" = true)
    (k_Map__eq : PySem.W.keepIn K (.ref f_Map__eq) = true)
    (a_Family : PySem.W.nsIn K mainGlobals "Family" = some (some (.ref C_Family)))
    (pg_Family : PySem.W.plainGet K C_Family Str.empty = true)
    (hd_Family : PySem.W.hasDictIn K C_Family = true)
    (po_Family : PySem.W.plainOver K C_Family = true)
    (sa_Family : PySem.W.findIn K (.ref C_Family) "__setattr__" = some (some (.builtin "object.__setattr__")))
    (sf_Family : PySem.W.selfFirst K C_Family = true)
    (ca_Family : PySem.W.findIn K (.ref C_Family) "__class__" = some (some (.builtin "object.__class__")))
    (cn_Family : PySem.W.specialIn K (.builtin "object.__class__") "__get__" = some (some (.builtin "getset_descriptor.__get__")))
    (ct_Family : PySem.W.takesIn K (.builtin "object.__class__") = some true)
    (cm_Family : PySem.W.mroIn K C_Family (.type "object") = some true)
    (kc_Family : PySem.W.keepIn K (.ref C_Family) = true)
    (kit_int_Family : PySem.W.kitOne K (.ref C_Family) (.type "int") = some false)
    (kit_bool_Family : PySem.W.kitOne K (.ref C_Family) (.type "bool") = some false)
    (kn_NoneType_Family : PySem.W.kitOne K (.type "NoneType") (.ref C_Family) = some false)
    (nf_NoneType_Family : PySem.W.notFirst K C_Family (.type "NoneType") = true)
    (kn_int_Family : PySem.W.kitOne K (.type "int") (.ref C_Family) = some false)
    (nf_int_Family : PySem.W.notFirst K C_Family (.type "int") = true)
    (kn_bool_Family : PySem.W.kitOne K (.type "bool") (.ref C_Family) = some false)
    (nf_bool_Family : PySem.W.notFirst K C_Family (.type "bool") = true)
    (kn_str_Family : PySem.W.kitOne K (.type "str") (.ref C_Family) = some false)
    (nf_str_Family : PySem.W.notFirst K C_Family (.type "str") = true)
    (kn_list_Family : PySem.W.kitOne K (.type "list") (.ref C_Family) = some false)
    (nf_list_Family : PySem.W.notFirst K C_Family (.type "list") = true)
    (kn_dict_Family : PySem.W.kitOne K (.type "dict") (.ref C_Family) = some false)
    (nf_dict_Family : PySem.W.notFirst K C_Family (.type "dict") = true)
    (kn_tuple_Family : PySem.W.kitOne K (.type "tuple") (.ref C_Family) = some false)
    (nf_tuple_Family : PySem.W.notFirst K C_Family (.type "tuple") = true)
    (self_Family : PySem.W.kitOne K (.ref C_Family) (.ref C_Family) = some true)
    (na_own_maps_Family : PySem.W.findIn K (.ref C_Family) "own_maps" = some none)
    (ne_Family : PySem.W.findIn K (.ref C_Family) "__ne__" = some (some (.builtin "object.__ne__")))
    (m_Family__init : PySem.W.findIn K (.ref C_Family) "__init__" = some (some (.ref f_Family__init)))
    (i_Family__init : PySem.W.isFn K (.ref f_Family__init) = true)
    (l_Family__init : K.lookup f_Family__init = some ⟨oc_Family__init, od_Family__init, .func (PySem.W.fnOf "__init__" "Family.__init__" (defArgs s_Family__init) (defBody s_Family__init) (defScope s_Family__init) .none kV_Family__init dc_Family__init pm_Family__init an_Family__init cd_Family__init ct_Family__init), sl_Family__init⟩)
    (c_Family__init : PySem.W.codeIn K cd_Family__init "Family.__init__" = true)
    (k_Family__init : PySem.W.keepIn K (.ref f_Family__init) = true)
    (mk_Family : PySem.W.makesIn K C_Family = true)
    (m_Family_maps : PySem.W.findIn K (.ref C_Family) "maps" = some (some (.ref p_Family_maps)))
    (s_get_Family_maps : PySem.W.specialIn K (.ref p_Family_maps) "__get__" = some (some (.builtin "property.__get__")))
    (tk_Family_maps : PySem.W.takesIn K (.ref p_Family_maps) = some true)
    (rc_Family_maps : PySem.W.recIn K p_Family_maps "property" = some (.ref f_Family_maps :: r_Family_maps))
    (l_Family_maps : K.lookup f_Family_maps = some ⟨oc_Family_maps, od_Family_maps, .func (PySem.W.fnOf "maps" "Family.maps" (defArgs s_Family_maps) (defBody s_Family_maps) (defScope s_Family_maps) .none kV_Family_maps dc_Family_maps pm_Family_maps an_Family_maps cd_Family_maps ct_Family_maps), sl_Family_maps⟩)
    (c_Family_maps : PySem.W.codeIn K cd_Family_maps "Family.maps" = true)
    (k_Family_maps : PySem.W.keepIn K (.ref f_Family_maps) = true)
    (m_Family_size : PySem.W.findIn K (.ref C_Family) "size" = some (some (.ref p_Family_size)))
    (s_get_Family_size : PySem.W.specialIn K (.ref p_Family_size) "__get__" = some (some (.builtin "property.__get__")))
    (tk_Family_size : PySem.W.takesIn K (.ref p_Family_size) = some true)
    (rc_Family_size : PySem.W.recIn K p_Family_size "property" = some (.ref f_Family_size :: r_Family_size))
    (l_Family_size : K.lookup f_Family_size = some ⟨oc_Family_size, od_Family_size, .func (PySem.W.fnOf "size" "Family.size" (defArgs s_Family_size) (defBody s_Family_size) (defScope s_Family_size) .none kV_Family_size dc_Family_size pm_Family_size an_Family_size cd_Family_size ct_Family_size), sl_Family_size⟩)
    (c_Family_size : PySem.W.codeIn K cd_Family_size "Family.size" = true)
    (k_Family_size : PySem.W.keepIn K (.ref f_Family_size) = true)
    (m_Family__call : PySem.W.findIn K (.ref C_Family) "__call__" = some (some (.ref f_Family__call)))
    (i_Family__call : PySem.W.isFn K (.ref f_Family__call) = true)
    (l_Family__call : K.lookup f_Family__call = some ⟨oc_Family__call, od_Family__call, .func (PySem.W.fnOf "__call__" "Family.__call__" (defArgs s_Family__call) (defBody s_Family__call) (defScope s_Family__call) .none kV_Family__call dc_Family__call pm_Family__call an_Family__call cd_Family__call ct_Family__call), sl_Family__call⟩)
    (c_Family__call : PySem.W.codeIn K cd_Family__call "Family.__call__" = true)
    (k_Family__call : PySem.W.keepIn K (.ref f_Family__call) = true)
    (fi_Family__call : PySem.W.fnIn K f_Family__call = true)
    (m_Family__add : PySem.W.findIn K (.ref C_Family) "__add__" = some (some (.ref f_Family__add)))
    (i_Family__add : PySem.W.isFn K (.ref f_Family__add) = true)
    (l_Family__add : K.lookup f_Family__add = some ⟨oc_Family__add, od_Family__add, .func (PySem.W.fnOf "__add__" "Family.__add__" (defArgs s_Family__add) (defBody s_Family__add) (defScope s_Family__add) .none kV_Family__add dc_Family__add pm_Family__add an_Family__add cd_Family__add ct_Family__add), sl_Family__add⟩)
    (c_Family__add : PySem.W.codeIn K cd_Family__add "Family.__add__" = true)
    (k_Family__add : PySem.W.keepIn K (.ref f_Family__add) = true)
    (m_Family__len : PySem.W.findIn K (.ref C_Family) "__len__" = some (some (.ref f_Family__len)))
    (i_Family__len : PySem.W.isFn K (.ref f_Family__len) = true)
    (l_Family__len : K.lookup f_Family__len = some ⟨oc_Family__len, od_Family__len, .func (PySem.W.fnOf "__len__" "Family.__len__" (defArgs s_Family__len) (defBody s_Family__len) (defScope s_Family__len) .none kV_Family__len dc_Family__len pm_Family__len an_Family__len cd_Family__len ct_Family__len), sl_Family__len⟩)
    (c_Family__len : PySem.W.codeIn K cd_Family__len "Family.__len__" = true)
    (k_Family__len : PySem.W.keepIn K (.ref f_Family__len) = true)
    (a_InvalidMap : PySem.W.nsIn K mainGlobals "InvalidMap" = some (some (.ref C_InvalidMap)))
    (xl_InvalidMap : K.lookup C_InvalidMap = some (excClassObj nm_InvalidMap q_InvalidMap C_InvalidMap N_InvalidMap bs_InvalidMap [.type "ValueError", .type "Exception", .type "BaseException", .type "object"] true sn_InvalidMap sub_InvalidMap ab_InvalidMap col_InvalidMap dd_InvalidMap m0_InvalidMap m1_InvalidMap m2_InvalidMap m3_InvalidMap m5_InvalidMap "ValueError.__new__"))
    (sa_InvalidMap : PySem.W.findIn K (.ref C_InvalidMap) "__setattr__" = some (some (.builtin "object.__setattr__")))
    (ex_InvalidMap : PySem.W.subIn K (.ref C_InvalidMap) (.type "BaseException") = some true)
    (ty_InvalidMap : PySem.W.typeIn K (.ref C_InvalidMap) = some (.type "type"))
    (kc_InvalidMap : PySem.W.keepIn K (.ref C_InvalidMap) = true)
    (hd_InvalidMap : PySem.W.hasDictIn K C_InvalidMap = true)
    (ga_InvalidMap : PySem.W.findIn K (.ref C_InvalidMap) "__getattribute__" = some (some (.builtin "BaseException.__getattribute__")))
    (gg_InvalidMap : PySem.W.findIn K (.ref C_InvalidMap) "__getattr__" = some none)
    (ss_InvalidMap : PySem.W.subIn K (.ref C_InvalidMap) (.ref C_InvalidMap) = some true)
    (ca_InvalidMap : PySem.W.findIn K (.ref C_InvalidMap) "__class__" = some (some (.builtin "object.__class__")))
    (cn_InvalidMap : PySem.W.specialIn K (.builtin "object.__class__") "__get__" = some (some (.builtin "getset_descriptor.__get__")))
    (ct_InvalidMap : PySem.W.takesIn K (.builtin "object.__class__") = some true)
    (cm_InvalidMap : PySem.W.mroIn K C_InvalidMap (.type "object") = some true)
    (kit_ValueError_InvalidMap : PySem.W.kitOne K (.ref C_InvalidMap) (.type "ValueError") = some true)
    (na_part_InvalidMap : PySem.W.findIn K (.ref C_InvalidMap) "part" = some none)
    (m_InvalidMap__init : PySem.W.findIn K (.ref C_InvalidMap) "__init__" = some (some (.ref f_InvalidMap__init)))
    (ti_InvalidMap__init : PySem.W.typeIn K (.ref f_InvalidMap__init) = some (.type "function"))
    (l_InvalidMap__init : K.lookup f_InvalidMap__init = some ⟨oc_InvalidMap__init, od_InvalidMap__init, .func (PySem.W.fnOf "__init__" "InvalidMap.__init__" (defArgs s_InvalidMap__init) (defBody s_InvalidMap__init) (defScope s_InvalidMap__init) .none kV_InvalidMap__init dc_InvalidMap__init pm_InvalidMap__init an_InvalidMap__init cd_InvalidMap__init ct_InvalidMap__init), sl_InvalidMap__init⟩)
    (c_InvalidMap__init : PySem.W.codeIn K cd_InvalidMap__init "InvalidMap.__init__" = true)
    (k_InvalidMap__init : PySem.W.keepIn K (.ref f_InvalidMap__init) = true)
    (a_SizeMismatch : PySem.W.nsIn K mainGlobals "SizeMismatch" = some (some (.ref C_SizeMismatch)))
    (xl_SizeMismatch : K.lookup C_SizeMismatch = some (excClassObj nm_SizeMismatch q_SizeMismatch C_SizeMismatch N_SizeMismatch bs_SizeMismatch [.type "ValueError", .type "Exception", .type "BaseException", .type "object"] true sn_SizeMismatch sub_SizeMismatch ab_SizeMismatch col_SizeMismatch dd_SizeMismatch m0_SizeMismatch m1_SizeMismatch m2_SizeMismatch m3_SizeMismatch m5_SizeMismatch "ValueError.__new__"))
    (sa_SizeMismatch : PySem.W.findIn K (.ref C_SizeMismatch) "__setattr__" = some (some (.builtin "object.__setattr__")))
    (ex_SizeMismatch : PySem.W.subIn K (.ref C_SizeMismatch) (.type "BaseException") = some true)
    (ty_SizeMismatch : PySem.W.typeIn K (.ref C_SizeMismatch) = some (.type "type"))
    (kc_SizeMismatch : PySem.W.keepIn K (.ref C_SizeMismatch) = true)
    (hd_SizeMismatch : PySem.W.hasDictIn K C_SizeMismatch = true)
    (ga_SizeMismatch : PySem.W.findIn K (.ref C_SizeMismatch) "__getattribute__" = some (some (.builtin "BaseException.__getattribute__")))
    (gg_SizeMismatch : PySem.W.findIn K (.ref C_SizeMismatch) "__getattr__" = some none)
    (ss_SizeMismatch : PySem.W.subIn K (.ref C_SizeMismatch) (.ref C_SizeMismatch) = some true)
    (ca_SizeMismatch : PySem.W.findIn K (.ref C_SizeMismatch) "__class__" = some (some (.builtin "object.__class__")))
    (cn_SizeMismatch : PySem.W.specialIn K (.builtin "object.__class__") "__get__" = some (some (.builtin "getset_descriptor.__get__")))
    (ct_SizeMismatch : PySem.W.takesIn K (.builtin "object.__class__") = some true)
    (cm_SizeMismatch : PySem.W.mroIn K C_SizeMismatch (.type "object") = some true)
    (kit_ValueError_SizeMismatch : PySem.W.kitOne K (.ref C_SizeMismatch) (.type "ValueError") = some true)
    (te_InvalidMap_SizeMismatch : PySem.W.subIn K (.ref C_SizeMismatch) (.ref C_InvalidMap) = some false)
    (na_first_SizeMismatch : PySem.W.findIn K (.ref C_SizeMismatch) "first" = some none)
    (na_second_SizeMismatch : PySem.W.findIn K (.ref C_SizeMismatch) "second" = some none)
    (m_SizeMismatch__init : PySem.W.findIn K (.ref C_SizeMismatch) "__init__" = some (some (.ref f_SizeMismatch__init)))
    (ti_SizeMismatch__init : PySem.W.typeIn K (.ref f_SizeMismatch__init) = some (.type "function"))
    (l_SizeMismatch__init : K.lookup f_SizeMismatch__init = some ⟨oc_SizeMismatch__init, od_SizeMismatch__init, .func (PySem.W.fnOf "__init__" "SizeMismatch.__init__" (defArgs s_SizeMismatch__init) (defBody s_SizeMismatch__init) (defScope s_SizeMismatch__init) .none kV_SizeMismatch__init dc_SizeMismatch__init pm_SizeMismatch__init an_SizeMismatch__init cd_SizeMismatch__init ct_SizeMismatch__init), sl_SizeMismatch__init⟩)
    (c_SizeMismatch__init : PySem.W.codeIn K cd_SizeMismatch__init "SizeMismatch.__init__" = true)
    (k_SizeMismatch__init : PySem.W.keepIn K (.ref f_SizeMismatch__init) = true)
    (a_LimitExceeded : PySem.W.nsIn K mainGlobals "LimitExceeded" = some (some (.ref C_LimitExceeded)))
    (xl_LimitExceeded : K.lookup C_LimitExceeded = some (excClassObj nm_LimitExceeded q_LimitExceeded C_LimitExceeded N_LimitExceeded bs_LimitExceeded [.type "OverflowError", .type "ArithmeticError", .type "Exception", .type "BaseException", .type "object"] true sn_LimitExceeded sub_LimitExceeded ab_LimitExceeded col_LimitExceeded dd_LimitExceeded m0_LimitExceeded m1_LimitExceeded m2_LimitExceeded m3_LimitExceeded m5_LimitExceeded "OverflowError.__new__"))
    (sa_LimitExceeded : PySem.W.findIn K (.ref C_LimitExceeded) "__setattr__" = some (some (.builtin "object.__setattr__")))
    (ex_LimitExceeded : PySem.W.subIn K (.ref C_LimitExceeded) (.type "BaseException") = some true)
    (ty_LimitExceeded : PySem.W.typeIn K (.ref C_LimitExceeded) = some (.type "type"))
    (kc_LimitExceeded : PySem.W.keepIn K (.ref C_LimitExceeded) = true)
    (hd_LimitExceeded : PySem.W.hasDictIn K C_LimitExceeded = true)
    (ga_LimitExceeded : PySem.W.findIn K (.ref C_LimitExceeded) "__getattribute__" = some (some (.builtin "BaseException.__getattribute__")))
    (gg_LimitExceeded : PySem.W.findIn K (.ref C_LimitExceeded) "__getattr__" = some none)
    (ss_LimitExceeded : PySem.W.subIn K (.ref C_LimitExceeded) (.ref C_LimitExceeded) = some true)
    (ca_LimitExceeded : PySem.W.findIn K (.ref C_LimitExceeded) "__class__" = some (some (.builtin "object.__class__")))
    (cn_LimitExceeded : PySem.W.specialIn K (.builtin "object.__class__") "__get__" = some (some (.builtin "getset_descriptor.__get__")))
    (ct_LimitExceeded : PySem.W.takesIn K (.builtin "object.__class__") = some true)
    (cm_LimitExceeded : PySem.W.mroIn K C_LimitExceeded (.type "object") = some true)
    (kit_OverflowError_LimitExceeded : PySem.W.kitOne K (.ref C_LimitExceeded) (.type "OverflowError") = some true)
    (te_InvalidMap_LimitExceeded : PySem.W.subIn K (.ref C_LimitExceeded) (.ref C_InvalidMap) = some false)
    (te_SizeMismatch_LimitExceeded : PySem.W.subIn K (.ref C_LimitExceeded) (.ref C_SizeMismatch) = some false)
    (na_limit_LimitExceeded : PySem.W.findIn K (.ref C_LimitExceeded) "limit" = some none)
    (m_LimitExceeded__init : PySem.W.findIn K (.ref C_LimitExceeded) "__init__" = some (some (.ref f_LimitExceeded__init)))
    (ti_LimitExceeded__init : PySem.W.typeIn K (.ref f_LimitExceeded__init) = some (.type "function"))
    (l_LimitExceeded__init : K.lookup f_LimitExceeded__init = some ⟨oc_LimitExceeded__init, od_LimitExceeded__init, .func (PySem.W.fnOf "__init__" "LimitExceeded.__init__" (defArgs s_LimitExceeded__init) (defBody s_LimitExceeded__init) (defScope s_LimitExceeded__init) .none kV_LimitExceeded__init dc_LimitExceeded__init pm_LimitExceeded__init an_LimitExceeded__init cd_LimitExceeded__init ct_LimitExceeded__init), sl_LimitExceeded__init⟩)
    (c_LimitExceeded__init : PySem.W.codeIn K cd_LimitExceeded__init "LimitExceeded.__init__" = true)
    (k_LimitExceeded__init : PySem.W.keepIn K (.ref f_LimitExceeded__init) = true)
    (a_InvalidWord : PySem.W.nsIn K mainGlobals "InvalidWord" = some (some (.ref C_InvalidWord)))
    (xl_InvalidWord : K.lookup C_InvalidWord = some (excClassObj nm_InvalidWord q_InvalidWord C_InvalidWord N_InvalidWord bs_InvalidWord [.type "ValueError", .type "Exception", .type "BaseException", .type "object"] true sn_InvalidWord sub_InvalidWord ab_InvalidWord col_InvalidWord dd_InvalidWord m0_InvalidWord m1_InvalidWord m2_InvalidWord m3_InvalidWord m5_InvalidWord "ValueError.__new__"))
    (sa_InvalidWord : PySem.W.findIn K (.ref C_InvalidWord) "__setattr__" = some (some (.builtin "object.__setattr__")))
    (ex_InvalidWord : PySem.W.subIn K (.ref C_InvalidWord) (.type "BaseException") = some true)
    (ty_InvalidWord : PySem.W.typeIn K (.ref C_InvalidWord) = some (.type "type"))
    (kc_InvalidWord : PySem.W.keepIn K (.ref C_InvalidWord) = true)
    (hd_InvalidWord : PySem.W.hasDictIn K C_InvalidWord = true)
    (ga_InvalidWord : PySem.W.findIn K (.ref C_InvalidWord) "__getattribute__" = some (some (.builtin "BaseException.__getattribute__")))
    (gg_InvalidWord : PySem.W.findIn K (.ref C_InvalidWord) "__getattr__" = some none)
    (ss_InvalidWord : PySem.W.subIn K (.ref C_InvalidWord) (.ref C_InvalidWord) = some true)
    (ca_InvalidWord : PySem.W.findIn K (.ref C_InvalidWord) "__class__" = some (some (.builtin "object.__class__")))
    (cn_InvalidWord : PySem.W.specialIn K (.builtin "object.__class__") "__get__" = some (some (.builtin "getset_descriptor.__get__")))
    (ct_InvalidWord : PySem.W.takesIn K (.builtin "object.__class__") = some true)
    (cm_InvalidWord : PySem.W.mroIn K C_InvalidWord (.type "object") = some true)
    (kit_ValueError_InvalidWord : PySem.W.kitOne K (.ref C_InvalidWord) (.type "ValueError") = some true)
    (te_InvalidMap_InvalidWord : PySem.W.subIn K (.ref C_InvalidWord) (.ref C_InvalidMap) = some false)
    (te_SizeMismatch_InvalidWord : PySem.W.subIn K (.ref C_InvalidWord) (.ref C_SizeMismatch) = some false)
    (te_LimitExceeded_InvalidWord : PySem.W.subIn K (.ref C_InvalidWord) (.ref C_LimitExceeded) = some false)
    (na_position_InvalidWord : PySem.W.findIn K (.ref C_InvalidWord) "position" = some none)
    (m_InvalidWord__init : PySem.W.findIn K (.ref C_InvalidWord) "__init__" = some (some (.ref f_InvalidWord__init)))
    (ti_InvalidWord__init : PySem.W.typeIn K (.ref f_InvalidWord__init) = some (.type "function"))
    (l_InvalidWord__init : K.lookup f_InvalidWord__init = some ⟨oc_InvalidWord__init, od_InvalidWord__init, .func (PySem.W.fnOf "__init__" "InvalidWord.__init__" (defArgs s_InvalidWord__init) (defBody s_InvalidWord__init) (defScope s_InvalidWord__init) .none kV_InvalidWord__init dc_InvalidWord__init pm_InvalidWord__init an_InvalidWord__init cd_InvalidWord__init ct_InvalidWord__init), sl_InvalidWord__init⟩)
    (c_InvalidWord__init : PySem.W.codeIn K cd_InvalidWord__init "InvalidWord.__init__" = true)
    (k_InvalidWord__init : PySem.W.keepIn K (.ref f_InvalidWord__init) = true)
    (a_Clash : PySem.W.nsIn K mainGlobals "Clash" = some (some (.ref C_Clash)))
    (xl_Clash : K.lookup C_Clash = some (excClassObj nm_Clash q_Clash C_Clash N_Clash bs_Clash [.type "RuntimeError", .type "Exception", .type "BaseException", .type "object"] true sn_Clash sub_Clash ab_Clash col_Clash dd_Clash m0_Clash m1_Clash m2_Clash m3_Clash m5_Clash "RuntimeError.__new__"))
    (sa_Clash : PySem.W.findIn K (.ref C_Clash) "__setattr__" = some (some (.builtin "object.__setattr__")))
    (ex_Clash : PySem.W.subIn K (.ref C_Clash) (.type "BaseException") = some true)
    (ty_Clash : PySem.W.typeIn K (.ref C_Clash) = some (.type "type"))
    (kc_Clash : PySem.W.keepIn K (.ref C_Clash) = true)
    (hd_Clash : PySem.W.hasDictIn K C_Clash = true)
    (ga_Clash : PySem.W.findIn K (.ref C_Clash) "__getattribute__" = some (some (.builtin "BaseException.__getattribute__")))
    (gg_Clash : PySem.W.findIn K (.ref C_Clash) "__getattr__" = some none)
    (ss_Clash : PySem.W.subIn K (.ref C_Clash) (.ref C_Clash) = some true)
    (ca_Clash : PySem.W.findIn K (.ref C_Clash) "__class__" = some (some (.builtin "object.__class__")))
    (cn_Clash : PySem.W.specialIn K (.builtin "object.__class__") "__get__" = some (some (.builtin "getset_descriptor.__get__")))
    (ct_Clash : PySem.W.takesIn K (.builtin "object.__class__") = some true)
    (cm_Clash : PySem.W.mroIn K C_Clash (.type "object") = some true)
    (kit_RuntimeError_Clash : PySem.W.kitOne K (.ref C_Clash) (.type "RuntimeError") = some true)
    (te_InvalidMap_Clash : PySem.W.subIn K (.ref C_Clash) (.ref C_InvalidMap) = some false)
    (te_SizeMismatch_Clash : PySem.W.subIn K (.ref C_Clash) (.ref C_SizeMismatch) = some false)
    (te_LimitExceeded_Clash : PySem.W.subIn K (.ref C_Clash) (.ref C_LimitExceeded) = some false)
    (te_InvalidWord_Clash : PySem.W.subIn K (.ref C_Clash) (.ref C_InvalidWord) = some false)
    (na_first_Clash : PySem.W.findIn K (.ref C_Clash) "first" = some none)
    (na_second_Clash : PySem.W.findIn K (.ref C_Clash) "second" = some none)
    (m_Clash__init : PySem.W.findIn K (.ref C_Clash) "__init__" = some (some (.ref f_Clash__init)))
    (ti_Clash__init : PySem.W.typeIn K (.ref f_Clash__init) = some (.type "function"))
    (l_Clash__init : K.lookup f_Clash__init = some ⟨oc_Clash__init, od_Clash__init, .func (PySem.W.fnOf "__init__" "Clash.__init__" (defArgs s_Clash__init) (defBody s_Clash__init) (defScope s_Clash__init) .none kV_Clash__init dc_Clash__init pm_Clash__init an_Clash__init cd_Clash__init ct_Clash__init), sl_Clash__init⟩)
    (c_Clash__init : PySem.W.codeIn K cd_Clash__init "Clash.__init__" = true)
    (k_Clash__init : PySem.W.keepIn K (.ref f_Clash__init) = true)
    (z_isinstance : PySem.W.nsIn K mainGlobals "isinstance" = some none)
    (z_int : PySem.W.nsIn K mainGlobals "int" = some none)
    (z_bool : PySem.W.nsIn K mainGlobals "bool" = some none)
    (z_dict : PySem.W.nsIn K mainGlobals "dict" = some none)
    (z_len : PySem.W.nsIn K mainGlobals "len" = some none)
    (z_range : PySem.W.nsIn K mainGlobals "range" = some none)
    (z_list : PySem.W.nsIn K mainGlobals "list" = some none)
    (z_tuple : PySem.W.nsIn K mainGlobals "tuple" = some none)
    (z_max : PySem.W.nsIn K mainGlobals "max" = some none)
    (z_min : PySem.W.nsIn K mainGlobals "min" = some none)
    (z_enumerate : PySem.W.nsIn K mainGlobals "enumerate" = some none)
    (z_repr : PySem.W.nsIn K mainGlobals "repr" = some none)
    (z_any : PySem.W.nsIn K mainGlobals "any" = some none)
    (z_all : PySem.W.nsIn K mainGlobals "all" = some none)
    (z_zip : PySem.W.nsIn K mainGlobals "zip" = some none)
    (z_sorted : PySem.W.nsIn K mainGlobals "sorted" = some none)
    (z_ValueError : PySem.W.nsIn K mainGlobals "ValueError" = some none)
    (z_OverflowError : PySem.W.nsIn K mainGlobals "OverflowError" = some none)
    (v_MAX_SIZE : PySem.W.nsIn K mainGlobals "MAX_SIZE" = some (some (.int 300 t_MAX_SIZE)))
    (v_MOST_MAPS : PySem.W.nsIn K mainGlobals "MOST_MAPS" = some (some (.int 10 t_MOST_MAPS)))
    (v_MOST_LETTERS : PySem.W.nsIn K mainGlobals "MOST_LETTERS" = some (some (.int 1000 t_MOST_LETTERS)))
    (v_MOST_SETS : PySem.W.nsIn K mainGlobals "MOST_SETS" = some (some (.int 2000 t_MOST_SETS)))
    (kit_x_Map_Family : PySem.W.kitOne K (.ref C_Family) (.ref C_Map) = some false)
    (nf_x_Map_Family : PySem.W.notFirst K C_Map (.ref C_Family) = true) :
    Nonempty (Txt K mg) := ⟨{
    f_is_integer := f_is_integer,
    A_is_integer := ⟨_, fun_mk (st := s_is_integer) l_is_integer c_is_integer k_is_integer, (fun_mk (st := s_is_integer) l_is_integer c_is_integer k_is_integer).binds (ps := ["value"]) fun _ _ _ _ _ _ us hl => match us, hl with | [_], _ => rfl⟩,
    g_is_integer := PySem.W.mg_of X G a_is_integer,
    f_in_range := f_in_range,
    A_in_range := ⟨_, fun_mk (st := s_in_range) l_in_range c_in_range k_in_range, (fun_mk (st := s_in_range) l_in_range c_in_range k_in_range).binds (ps := ["value", "least", "most"]) fun _ _ _ _ _ _ us hl => match us, hl with | [_, _, _], _ => rfl⟩,
    g_in_range := PySem.W.mg_of X G a_in_range,
    f_check_size := f_check_size,
    A_check_size := ⟨_, fun_mk (st := s_check_size) l_check_size c_check_size k_check_size, (fun_mk (st := s_check_size) l_check_size c_check_size k_check_size).binds (ps := ["size"]) fun _ _ _ _ _ _ us hl => match us, hl with | [_], _ => rfl⟩,
    g_check_size := PySem.W.mg_of X G a_check_size,
    f_are_arrows := f_are_arrows,
    A_are_arrows := ⟨_, fun_mk (st := s_are_arrows) l_are_arrows c_are_arrows k_are_arrows, (fun_mk (st := s_are_arrows) l_are_arrows c_are_arrows k_are_arrows).binds (ps := ["size", "arrows"]) fun _ _ _ _ _ _ us hl => match us, hl with | [_, _], _ => rfl⟩,
    g_are_arrows := PySem.W.mg_of X G a_are_arrows,
    f_common_size := f_common_size,
    A_common_size := ⟨_, fun_mk (st := s_common_size) l_common_size c_common_size k_common_size, (fun_mk (st := s_common_size) l_common_size c_common_size k_common_size).binds (ps := ["one", "other"]) fun _ _ _ _ _ _ us hl => match us, hl with | [_, _], _ => rfl⟩,
    g_common_size := PySem.W.mg_of X G a_common_size,
    f_check_map := f_check_map,
    A_check_map := ⟨_, fun_mk (st := s_check_map) l_check_map c_check_map k_check_map, (fun_mk (st := s_check_map) l_check_map c_check_map k_check_map).binds (ps := ["value"]) fun _ _ _ _ _ _ us hl => match us, hl with | [_], _ => rfl⟩,
    g_check_map := PySem.W.mg_of X G a_check_map,
    f_check_all := f_check_all,
    A_check_all := ⟨_, fun_mk (st := s_check_all) l_check_all c_check_all k_check_all, (fun_mk (st := s_check_all) l_check_all c_check_all k_check_all).binds (ps := ["maps"]) fun _ _ _ _ _ _ us hl => match us, hl with | [_], _ => rfl⟩,
    g_check_all := PySem.W.mg_of X G a_check_all,
    f_check_many := f_check_many,
    A_check_many := ⟨_, fun_mk (st := s_check_many) l_check_many c_check_many k_check_many, (fun_mk (st := s_check_many) l_check_many c_check_many k_check_many).binds (ps := ["number"]) fun _ _ _ _ _ _ us hl => match us, hl with | [_], _ => rfl⟩,
    g_check_many := PySem.W.mg_of X G a_check_many,
    f_check_word := f_check_word,
    A_check_word := ⟨_, fun_mk (st := s_check_word) l_check_word c_check_word k_check_word, (fun_mk (st := s_check_word) l_check_word c_check_word k_check_word).binds (ps := ["family", "word"]) fun _ _ _ _ _ _ us hl => match us, hl with | [_, _], _ => rfl⟩,
    g_check_word := PySem.W.mg_of X G a_check_word,
    f_first_clash := f_first_clash,
    A_first_clash := ⟨_, fun_mk (st := s_first_clash) l_first_clash c_first_clash k_first_clash, (fun_mk (st := s_first_clash) l_first_clash c_first_clash k_first_clash).binds (ps := ["arrows", "others"]) fun _ _ _ _ _ _ us hl => match us, hl with | [_, _], _ => rfl⟩,
    g_first_clash := PySem.W.mg_of X G a_first_clash,
    f_made := f_made,
    A_made := ⟨_, fun_mk (st := s_made) l_made c_made k_made, (fun_mk (st := s_made) l_made c_made k_made).binds (ps := ["maps"]) fun _ _ _ _ _ _ us hl => match us, hl with | [_], _ => rfl⟩,
    g_made := PySem.W.mg_of X G a_made,
    f_check_family := f_check_family,
    A_check_family := ⟨_, fun_mk (st := s_check_family) l_check_family c_check_family k_check_family, (fun_mk (st := s_check_family) l_check_family c_check_family k_check_family).binds (ps := ["family"]) fun _ _ _ _ _ _ us hl => match us, hl with | [_], _ => rfl⟩,
    g_check_family := PySem.W.mg_of X G a_check_family,
    f_places_after := f_places_after,
    A_places_after := ⟨_, fun_mk (st := s_places_after) l_places_after c_places_after k_places_after, (fun_mk (st := s_places_after) l_places_after c_places_after k_places_after).binds (ps := ["places", "table"]) fun _ _ _ _ _ _ us hl => match us, hl with | [_, _], _ => rfl⟩,
    g_places_after := PySem.W.mg_of X G a_places_after,
    f_image_of := f_image_of,
    A_image_of := ⟨_, fun_mk (st := s_image_of) l_image_of c_image_of k_image_of, (fun_mk (st := s_image_of) l_image_of c_image_of k_image_of).binds (ps := ["places", "table"]) fun _ _ _ _ _ _ us hl => match us, hl with | [_, _], _ => rfl⟩,
    g_image_of := PySem.W.mg_of X G a_image_of,
    f_searched := f_searched,
    A_searched := ⟨_, fun_mk (st := s_searched) l_searched c_searched k_searched, (fun_mk (st := s_searched) l_searched c_searched k_searched).binds (ps := ["family"]) fun _ _ _ _ _ _ us hl => match us, hl with | [_], _ => rfl⟩,
    g_searched := PySem.W.mg_of X G a_searched,
    f_losing_word := f_losing_word,
    A_losing_word := ⟨_, fun_mk (st := s_losing_word) l_losing_word c_losing_word k_losing_word, (fun_mk (st := s_losing_word) l_losing_word c_losing_word k_losing_word).binds (ps := ["family"]) fun _ _ _ _ _ _ us hl => match us, hl with | [_], _ => rfl⟩,
    g_losing_word := PySem.W.mg_of X G a_losing_word,
    f_holding_sets := f_holding_sets,
    A_holding_sets := ⟨_, fun_mk (st := s_holding_sets) l_holding_sets c_holding_sets k_holding_sets, (fun_mk (st := s_holding_sets) l_holding_sets c_holding_sets k_holding_sets).binds (ps := ["family"]) fun _ _ _ _ _ _ us hl => match us, hl with | [_], _ => rfl⟩,
    g_holding_sets := PySem.W.mg_of X G a_holding_sets,
    f_is_set := f_is_set,
    A_is_set := ⟨_, fun_mk (st := s_is_set) l_is_set c_is_set k_is_set, (fun_mk (st := s_is_set) l_is_set c_is_set k_is_set).binds (ps := ["value", "size"]) fun _ _ _ _ _ _ us hl => match us, hl with | [_, _], _ => rfl⟩,
    g_is_set := PySem.W.mg_of X G a_is_set,
    f_is_holding := f_is_holding,
    A_is_holding := ⟨_, fun_mk (st := s_is_holding) l_is_holding c_is_holding k_is_holding, (fun_mk (st := s_is_holding) l_is_holding c_is_holding k_is_holding).binds (ps := ["family", "value"]) fun _ _ _ _ _ _ us hl => match us, hl with | [_, _], _ => rfl⟩,
    g_is_holding := PySem.W.mg_of X G a_is_holding,
    f_l_hand := f_l_hand,
    A_l_hand := ⟨_, fun_mk (st := s_l_hand) l_l_hand c_l_hand k_l_hand, (fun_mk (st := s_l_hand) l_l_hand c_l_hand k_l_hand).binds (ps := ["_law_script", "_law_k"]) fun _ _ _ _ _ _ us hl => match us, hl with | [_, _], _ => rfl⟩,
    g_l_hand := PySem.W.mg_of X G a_l_hand,
    f_l_draw := f_l_draw,
    A_l_draw := ⟨_, fun_mk (st := s_l_draw) l_l_draw c_l_draw k_l_draw, (fun_mk (st := s_l_draw) l_l_draw c_l_draw k_l_draw).binds (ps := ["_law_pool", "_law_size"]) fun _ _ _ _ _ _ us hl => match us, hl with | [_, _], _ => rfl⟩,
    g_l_draw := PySem.W.mg_of X G a_l_draw,
    f_l_arrows := f_l_arrows,
    A_l_arrows := ⟨_, fun_mk (st := s_l_arrows) l_l_arrows c_l_arrows k_l_arrows, (fun_mk (st := s_l_arrows) l_l_arrows c_l_arrows k_l_arrows).binds (ps := ["_law_pool", "_law_size"]) fun _ _ _ _ _ _ us hl => match us, hl with | [_, _], _ => rfl⟩,
    g_l_arrows := PySem.W.mg_of X G a_l_arrows,
    f_l_family := f_l_family,
    A_l_family := ⟨_, fun_mk (st := s_l_family) l_l_family c_l_family k_l_family, (fun_mk (st := s_l_family) l_l_family c_l_family k_l_family).binds (ps := ["_law_maps"]) fun _ _ _ _ _ _ us hl => match us, hl with | [_], _ => rfl⟩,
    g_l_family := PySem.W.mg_of X G a_l_family,
    f_l_image := f_l_image,
    A_l_image := ⟨_, fun_mk (st := s_l_image) l_l_image c_l_image k_l_image, (fun_mk (st := s_l_image) l_l_image c_l_image k_l_image).binds (ps := ["_law_places", "_law_table", "_law_size"]) fun _ _ _ _ _ _ us hl => match us, hl with | [_, _, _], _ => rfl⟩,
    g_l_image := PySem.W.mg_of X G a_l_image,
    f_l_search := f_l_search,
    A_l_search := ⟨_, fun_mk (st := s_l_search) l_l_search c_l_search k_l_search, (fun_mk (st := s_l_search) l_l_search c_l_search k_l_search).binds (ps := ["_law_tables", "_law_size"]) fun _ _ _ _ _ _ us hl => match us, hl with | [_, _], _ => rfl⟩,
    g_l_search := PySem.W.mg_of X G a_l_search,
    f_l_is_list := f_l_is_list,
    A_l_is_list := ⟨_, fun_mk (st := s_l_is_list) l_l_is_list c_l_is_list k_l_is_list, (fun_mk (st := s_l_is_list) l_l_is_list c_l_is_list k_l_is_list).binds (ps := ["_law_value", "_law_size"]) fun _ _ _ _ _ _ us hl => match us, hl with | [_, _], _ => rfl⟩,
    g_l_is_list := PySem.W.mg_of X G a_l_is_list,
    f_l_is := f_l_is,
    A_l_is := ⟨_, fun_mk (st := s_l_is) l_l_is c_l_is k_l_is, (fun_mk (st := s_l_is) l_l_is c_l_is k_l_is).binds (ps := ["_law_tables", "_law_size", "_law_value"]) fun _ _ _ _ _ _ us hl => match us, hl with | [_, _, _], _ => rfl⟩,
    g_l_is := PySem.W.mg_of X G a_l_is,
    f_l_bent := f_l_bent,
    A_l_bent := ⟨_, fun_mk (st := s_l_bent) l_l_bent c_l_bent k_l_bent, (fun_mk (st := s_l_bent) l_l_bent c_l_bent k_l_bent).binds (ps := ["_law_pool", "_law_value", "_law_size"]) fun _ _ _ _ _ _ us hl => match us, hl with | [_, _, _], _ => rfl⟩,
    g_l_bent := PySem.W.mg_of X G a_l_bent,
    f_l_right := f_l_right,
    A_l_right := ⟨_, fun_mk (st := s_l_right) l_l_right c_l_right k_l_right, (fun_mk (st := s_l_right) l_l_right c_l_right k_l_right).binds (ps := ["_law_pool", "_law_family_here", "_law_tables", "_law_size"]) fun _ _ _ _ _ _ us hl => match us, hl with | [_, _, _, _], _ => rfl⟩,
    g_l_right := PySem.W.mg_of X G a_l_right,
    f_l_great := f_l_great,
    A_l_great := ⟨_, fun_mk (st := s_l_great) l_l_great c_l_great k_l_great, (fun_mk (st := s_l_great) l_l_great c_l_great k_l_great).binds (ps := []) fun _ _ _ _ _ _ us hl => match us, hl with | [], _ => rfl⟩,
    g_l_great := PySem.W.mg_of X G a_l_great,
    f_law := f_law,
    A_law := ⟨_, fun_mk (st := s_law) l_law c_law k_law, (fun_mk (st := s_law) l_law c_law k_law).binds (ps := ["_law_script"]) fun _ _ _ _ _ _ us hl => match us, hl with | [_], _ => rfl⟩,
    L_law := ⟨_, fun_mk (st := s_law) l_law c_law k_law, fun s v => .of_eq rfl⟩,
    g_law := PySem.W.mg_of X G a_law,
    C_Map := C_Map,
    g_Map := PySem.W.mg_of X G a_Map,
    o_Map := ⟨⟨pg_Map, hd_Map, po_Map, sa_Map⟩, sf_Map, ca_Map, cn_Map, ct_Map, cm_Map⟩,
    kit_int_Map := kit_int_Map,
    kit_bool_Map := kit_bool_Map,
    kit_list_Map := kit_list_Map,
    kit_tuple_Map := kit_tuple_Map,
    kn_NoneType_Map := kn_NoneType_Map,
    nf_NoneType_Map := nf_NoneType_Map,
    kn_int_Map := kn_int_Map,
    nf_int_Map := nf_int_Map,
    kn_bool_Map := kn_bool_Map,
    nf_bool_Map := nf_bool_Map,
    kn_str_Map := kn_str_Map,
    nf_str_Map := nf_str_Map,
    kn_list_Map := kn_list_Map,
    nf_list_Map := nf_list_Map,
    kn_dict_Map := kn_dict_Map,
    nf_dict_Map := nf_dict_Map,
    kn_tuple_Map := kn_tuple_Map,
    nf_tuple_Map := nf_tuple_Map,
    self_Map := self_Map,
    na_own_size_Map := na_own_size_Map,
    na_own_arrows_Map := na_own_arrows_Map,
    ne_Map := ne_Map,
    f_Map__init := f_Map__init,
    A_Map__init := ⟨_, fun_mk (st := s_Map__init) l_Map__init c_Map__init k_Map__init, (fun_mk (st := s_Map__init) l_Map__init c_Map__init k_Map__init).binds (ps := ["self", "size", "arrows"]) fun _ _ _ _ _ _ us hl => match us, hl with | [_, _, _], _ => rfl⟩,
    m_Map__init := m_Map__init,
    i_Map__init := i_Map__init,
    M_Map := ⟨mk_Map, m_Map__init, i_Map__init, kc_Map⟩,
    R_Map := ⟨rd_Map, ga_Map⟩,
    p_Map_identity := p_Map_identity,
    f_Map_identity := f_Map_identity,
    A_Map_identity := ⟨_, fun_mk (st := s_Map_identity) l_Map_identity c_Map_identity k_Map_identity, (fun_mk (st := s_Map_identity) l_Map_identity c_Map_identity k_Map_identity).binds (ps := ["cls", "size"]) fun _ _ _ _ _ _ us hl => match us, hl with | [_, _], _ => rfl⟩,
    cm_Map_identity := ⟨at_Map_identity, ⟨_, rc_Map_identity⟩, fi_Map_identity⟩,
    p_Map_empty := p_Map_empty,
    f_Map_empty := f_Map_empty,
    A_Map_empty := ⟨_, fun_mk (st := s_Map_empty) l_Map_empty c_Map_empty k_Map_empty, (fun_mk (st := s_Map_empty) l_Map_empty c_Map_empty k_Map_empty).binds (ps := ["cls", "size"]) fun _ _ _ _ _ _ us hl => match us, hl with | [_, _], _ => rfl⟩,
    cm_Map_empty := ⟨at_Map_empty, ⟨_, rc_Map_empty⟩, fi_Map_empty⟩,
    p_Map_size := p_Map_size,
    f_Map_size := f_Map_size,
    A_Map_size := ⟨_, fun_mk (st := s_Map_size) l_Map_size c_Map_size k_Map_size, (fun_mk (st := s_Map_size) l_Map_size c_Map_size k_Map_size).binds (ps := ["self"]) fun _ _ _ _ _ _ us hl => match us, hl with | [_], _ => rfl⟩,
    P_Map_size := ⟨m_Map_size, s_get_Map_size, tk_Map_size, _, rc_Map_size⟩,
    p_Map_arrows := p_Map_arrows,
    f_Map_arrows := f_Map_arrows,
    A_Map_arrows := ⟨_, fun_mk (st := s_Map_arrows) l_Map_arrows c_Map_arrows k_Map_arrows, (fun_mk (st := s_Map_arrows) l_Map_arrows c_Map_arrows k_Map_arrows).binds (ps := ["self"]) fun _ _ _ _ _ _ us hl => match us, hl with | [_], _ => rfl⟩,
    P_Map_arrows := ⟨m_Map_arrows, s_get_Map_arrows, tk_Map_arrows, _, rc_Map_arrows⟩,
    f_Map__mul := f_Map__mul,
    A_Map__mul := ⟨_, fun_mk (st := s_Map__mul) l_Map__mul c_Map__mul k_Map__mul, (fun_mk (st := s_Map__mul) l_Map__mul c_Map__mul k_Map__mul).binds (ps := ["self", "other"]) fun _ _ _ _ _ _ us hl => match us, hl with | [_, _], _ => rfl⟩,
    m_Map__mul := m_Map__mul,
    i_Map__mul := i_Map__mul,
    f_Map__or := f_Map__or,
    A_Map__or := ⟨_, fun_mk (st := s_Map__or) l_Map__or c_Map__or k_Map__or, (fun_mk (st := s_Map__or) l_Map__or c_Map__or k_Map__or).binds (ps := ["self", "other"]) fun _ _ _ _ _ _ us hl => match us, hl with | [_, _], _ => rfl⟩,
    m_Map__or := m_Map__or,
    i_Map__or := i_Map__or,
    f_Map__eq := f_Map__eq,
    A_Map__eq := ⟨_, fun_mk (st := s_Map__eq) l_Map__eq c_Map__eq k_Map__eq, (fun_mk (st := s_Map__eq) l_Map__eq c_Map__eq k_Map__eq).binds (ps := ["self", "other"]) fun _ _ _ _ _ _ us hl => match us, hl with | [_, _], _ => rfl⟩,
    m_Map__eq := m_Map__eq,
    i_Map__eq := i_Map__eq,
    C_Family := C_Family,
    g_Family := PySem.W.mg_of X G a_Family,
    o_Family := ⟨⟨pg_Family, hd_Family, po_Family, sa_Family⟩, sf_Family, ca_Family, cn_Family, ct_Family, cm_Family⟩,
    kit_int_Family := kit_int_Family,
    kit_bool_Family := kit_bool_Family,
    kn_NoneType_Family := kn_NoneType_Family,
    nf_NoneType_Family := nf_NoneType_Family,
    kn_int_Family := kn_int_Family,
    nf_int_Family := nf_int_Family,
    kn_bool_Family := kn_bool_Family,
    nf_bool_Family := nf_bool_Family,
    kn_str_Family := kn_str_Family,
    nf_str_Family := nf_str_Family,
    kn_list_Family := kn_list_Family,
    nf_list_Family := nf_list_Family,
    kn_dict_Family := kn_dict_Family,
    nf_dict_Family := nf_dict_Family,
    kn_tuple_Family := kn_tuple_Family,
    nf_tuple_Family := nf_tuple_Family,
    kx_Family_Map := kit_x_Map_Family,
    nf_Family_Map := nf_x_Map_Family,
    self_Family := self_Family,
    na_own_maps_Family := na_own_maps_Family,
    ne_Family := ne_Family,
    f_Family__init := f_Family__init,
    A_Family__init := ⟨_, fun_mk (st := s_Family__init) l_Family__init c_Family__init k_Family__init, StX.bind_star1 (B := fun us => bindArgs _ ⟨us, []⟩) (fun _ => rfl) (fun _ _ _ => rfl)⟩,
    m_Family__init := m_Family__init,
    i_Family__init := i_Family__init,
    M_Family := ⟨mk_Family, m_Family__init, i_Family__init, kc_Family⟩,
    p_Family_maps := p_Family_maps,
    f_Family_maps := f_Family_maps,
    A_Family_maps := ⟨_, fun_mk (st := s_Family_maps) l_Family_maps c_Family_maps k_Family_maps, (fun_mk (st := s_Family_maps) l_Family_maps c_Family_maps k_Family_maps).binds (ps := ["self"]) fun _ _ _ _ _ _ us hl => match us, hl with | [_], _ => rfl⟩,
    P_Family_maps := ⟨m_Family_maps, s_get_Family_maps, tk_Family_maps, _, rc_Family_maps⟩,
    p_Family_size := p_Family_size,
    f_Family_size := f_Family_size,
    A_Family_size := ⟨_, fun_mk (st := s_Family_size) l_Family_size c_Family_size k_Family_size, (fun_mk (st := s_Family_size) l_Family_size c_Family_size k_Family_size).binds (ps := ["self"]) fun _ _ _ _ _ _ us hl => match us, hl with | [_], _ => rfl⟩,
    P_Family_size := ⟨m_Family_size, s_get_Family_size, tk_Family_size, _, rc_Family_size⟩,
    f_Family__call := f_Family__call,
    A_Family__call := ⟨_, fun_mk (st := s_Family__call) l_Family__call c_Family__call k_Family__call, (fun_mk (st := s_Family__call) l_Family__call c_Family__call k_Family__call).binds (ps := ["self", "word"]) fun _ _ _ _ _ _ us hl => match us, hl with | [_, _], _ => rfl⟩,
    m_Family__call := m_Family__call,
    i_Family__call := i_Family__call,
    fi_Family__call := fi_Family__call,
    f_Family__add := f_Family__add,
    A_Family__add := ⟨_, fun_mk (st := s_Family__add) l_Family__add c_Family__add k_Family__add, (fun_mk (st := s_Family__add) l_Family__add c_Family__add k_Family__add).binds (ps := ["self", "other"]) fun _ _ _ _ _ _ us hl => match us, hl with | [_, _], _ => rfl⟩,
    m_Family__add := m_Family__add,
    i_Family__add := i_Family__add,
    f_Family__len := f_Family__len,
    A_Family__len := ⟨_, fun_mk (st := s_Family__len) l_Family__len c_Family__len k_Family__len, (fun_mk (st := s_Family__len) l_Family__len c_Family__len k_Family__len).binds (ps := ["self"]) fun _ _ _ _ _ _ us hl => match us, hl with | [_], _ => rfl⟩,
    m_Family__len := m_Family__len,
    i_Family__len := i_Family__len,
    C_InvalidMap := C_InvalidMap,
    g_InvalidMap := PySem.W.mg_of X G a_InvalidMap,
    x_InvalidMap := ⟨⟨"ValueError", _, _, _, _, _, _, _, _, _, _, _, _, _, _, _, _, _, _, PySem.F.store_ValueError, PySem.F.excBase_ValueError, xl_InvalidMap, by decide +kernel⟩, sa_InvalidMap, ex_InvalidMap, ty_InvalidMap, kc_InvalidMap⟩,
    xf_InvalidMap := ⟨ga_InvalidMap, gg_InvalidMap, ex_InvalidMap, hd_InvalidMap⟩,
    xe_InvalidMap := ⟨ga_InvalidMap, gg_InvalidMap, ex_InvalidMap, hd_InvalidMap, ca_InvalidMap, cn_InvalidMap, ct_InvalidMap, cm_InvalidMap⟩,
    te_InvalidMap := PySem.W.exm_ref ex_InvalidMap hd_InvalidMap ty_InvalidMap ss_InvalidMap,
    kit_ValueError_InvalidMap := kit_ValueError_InvalidMap,
    na_part_InvalidMap := na_part_InvalidMap,
    f_InvalidMap__init := f_InvalidMap__init,
    A_InvalidMap__init := ⟨_, fun_mk (st := s_InvalidMap__init) l_InvalidMap__init c_InvalidMap__init k_InvalidMap__init, (fun_mk (st := s_InvalidMap__init) l_InvalidMap__init c_InvalidMap__init k_InvalidMap__init).binds (ps := ["self", "part"]) fun _ _ _ _ _ _ us hl => match us, hl with | [_, _], _ => rfl⟩,
    m_InvalidMap__init := m_InvalidMap__init,
    ti_InvalidMap__init := ti_InvalidMap__init,
    C_SizeMismatch := C_SizeMismatch,
    g_SizeMismatch := PySem.W.mg_of X G a_SizeMismatch,
    x_SizeMismatch := ⟨⟨"ValueError", _, _, _, _, _, _, _, _, _, _, _, _, _, _, _, _, _, _, PySem.F.store_ValueError, PySem.F.excBase_ValueError, xl_SizeMismatch, by decide +kernel⟩, sa_SizeMismatch, ex_SizeMismatch, ty_SizeMismatch, kc_SizeMismatch⟩,
    xf_SizeMismatch := ⟨ga_SizeMismatch, gg_SizeMismatch, ex_SizeMismatch, hd_SizeMismatch⟩,
    xe_SizeMismatch := ⟨ga_SizeMismatch, gg_SizeMismatch, ex_SizeMismatch, hd_SizeMismatch, ca_SizeMismatch, cn_SizeMismatch, ct_SizeMismatch, cm_SizeMismatch⟩,
    te_SizeMismatch := PySem.W.exm_ref ex_SizeMismatch hd_SizeMismatch ty_SizeMismatch ss_SizeMismatch,
    kit_ValueError_SizeMismatch := kit_ValueError_SizeMismatch,
    te_SizeMismatch_InvalidMap := PySem.W.exm_ref ex_InvalidMap hd_InvalidMap ty_InvalidMap te_InvalidMap_SizeMismatch,
    na_first_SizeMismatch := na_first_SizeMismatch,
    na_second_SizeMismatch := na_second_SizeMismatch,
    f_SizeMismatch__init := f_SizeMismatch__init,
    A_SizeMismatch__init := ⟨_, fun_mk (st := s_SizeMismatch__init) l_SizeMismatch__init c_SizeMismatch__init k_SizeMismatch__init, (fun_mk (st := s_SizeMismatch__init) l_SizeMismatch__init c_SizeMismatch__init k_SizeMismatch__init).binds (ps := ["self", "first", "second"]) fun _ _ _ _ _ _ us hl => match us, hl with | [_, _, _], _ => rfl⟩,
    m_SizeMismatch__init := m_SizeMismatch__init,
    ti_SizeMismatch__init := ti_SizeMismatch__init,
    C_LimitExceeded := C_LimitExceeded,
    g_LimitExceeded := PySem.W.mg_of X G a_LimitExceeded,
    x_LimitExceeded := ⟨⟨"OverflowError", _, _, _, _, _, _, _, _, _, _, _, _, _, _, _, _, _, _, PySem.F.store_OverflowError, PySem.F.excBase_OverflowError, xl_LimitExceeded, by decide +kernel⟩, sa_LimitExceeded, ex_LimitExceeded, ty_LimitExceeded, kc_LimitExceeded⟩,
    xf_LimitExceeded := ⟨ga_LimitExceeded, gg_LimitExceeded, ex_LimitExceeded, hd_LimitExceeded⟩,
    xe_LimitExceeded := ⟨ga_LimitExceeded, gg_LimitExceeded, ex_LimitExceeded, hd_LimitExceeded, ca_LimitExceeded, cn_LimitExceeded, ct_LimitExceeded, cm_LimitExceeded⟩,
    te_LimitExceeded := PySem.W.exm_ref ex_LimitExceeded hd_LimitExceeded ty_LimitExceeded ss_LimitExceeded,
    kit_OverflowError_LimitExceeded := kit_OverflowError_LimitExceeded,
    te_LimitExceeded_InvalidMap := PySem.W.exm_ref ex_InvalidMap hd_InvalidMap ty_InvalidMap te_InvalidMap_LimitExceeded,
    te_LimitExceeded_SizeMismatch := PySem.W.exm_ref ex_SizeMismatch hd_SizeMismatch ty_SizeMismatch te_SizeMismatch_LimitExceeded,
    na_limit_LimitExceeded := na_limit_LimitExceeded,
    f_LimitExceeded__init := f_LimitExceeded__init,
    A_LimitExceeded__init := ⟨_, fun_mk (st := s_LimitExceeded__init) l_LimitExceeded__init c_LimitExceeded__init k_LimitExceeded__init, (fun_mk (st := s_LimitExceeded__init) l_LimitExceeded__init c_LimitExceeded__init k_LimitExceeded__init).binds (ps := ["self", "limit"]) fun _ _ _ _ _ _ us hl => match us, hl with | [_, _], _ => rfl⟩,
    m_LimitExceeded__init := m_LimitExceeded__init,
    ti_LimitExceeded__init := ti_LimitExceeded__init,
    C_InvalidWord := C_InvalidWord,
    g_InvalidWord := PySem.W.mg_of X G a_InvalidWord,
    x_InvalidWord := ⟨⟨"ValueError", _, _, _, _, _, _, _, _, _, _, _, _, _, _, _, _, _, _, PySem.F.store_ValueError, PySem.F.excBase_ValueError, xl_InvalidWord, by decide +kernel⟩, sa_InvalidWord, ex_InvalidWord, ty_InvalidWord, kc_InvalidWord⟩,
    xf_InvalidWord := ⟨ga_InvalidWord, gg_InvalidWord, ex_InvalidWord, hd_InvalidWord⟩,
    xe_InvalidWord := ⟨ga_InvalidWord, gg_InvalidWord, ex_InvalidWord, hd_InvalidWord, ca_InvalidWord, cn_InvalidWord, ct_InvalidWord, cm_InvalidWord⟩,
    te_InvalidWord := PySem.W.exm_ref ex_InvalidWord hd_InvalidWord ty_InvalidWord ss_InvalidWord,
    kit_ValueError_InvalidWord := kit_ValueError_InvalidWord,
    te_InvalidWord_InvalidMap := PySem.W.exm_ref ex_InvalidMap hd_InvalidMap ty_InvalidMap te_InvalidMap_InvalidWord,
    te_InvalidWord_SizeMismatch := PySem.W.exm_ref ex_SizeMismatch hd_SizeMismatch ty_SizeMismatch te_SizeMismatch_InvalidWord,
    te_InvalidWord_LimitExceeded := PySem.W.exm_ref ex_LimitExceeded hd_LimitExceeded ty_LimitExceeded te_LimitExceeded_InvalidWord,
    na_position_InvalidWord := na_position_InvalidWord,
    f_InvalidWord__init := f_InvalidWord__init,
    A_InvalidWord__init := ⟨_, fun_mk (st := s_InvalidWord__init) l_InvalidWord__init c_InvalidWord__init k_InvalidWord__init, (fun_mk (st := s_InvalidWord__init) l_InvalidWord__init c_InvalidWord__init k_InvalidWord__init).binds (ps := ["self", "position"]) fun _ _ _ _ _ _ us hl => match us, hl with | [_, _], _ => rfl⟩,
    m_InvalidWord__init := m_InvalidWord__init,
    ti_InvalidWord__init := ti_InvalidWord__init,
    C_Clash := C_Clash,
    g_Clash := PySem.W.mg_of X G a_Clash,
    x_Clash := ⟨⟨"RuntimeError", _, _, _, _, _, _, _, _, _, _, _, _, _, _, _, _, _, _, PySem.F.store_RuntimeError, PySem.F.excBase_RuntimeError, xl_Clash, by decide +kernel⟩, sa_Clash, ex_Clash, ty_Clash, kc_Clash⟩,
    xf_Clash := ⟨ga_Clash, gg_Clash, ex_Clash, hd_Clash⟩,
    xe_Clash := ⟨ga_Clash, gg_Clash, ex_Clash, hd_Clash, ca_Clash, cn_Clash, ct_Clash, cm_Clash⟩,
    te_Clash := PySem.W.exm_ref ex_Clash hd_Clash ty_Clash ss_Clash,
    kit_RuntimeError_Clash := kit_RuntimeError_Clash,
    te_Clash_InvalidMap := PySem.W.exm_ref ex_InvalidMap hd_InvalidMap ty_InvalidMap te_InvalidMap_Clash,
    te_Clash_SizeMismatch := PySem.W.exm_ref ex_SizeMismatch hd_SizeMismatch ty_SizeMismatch te_SizeMismatch_Clash,
    te_Clash_LimitExceeded := PySem.W.exm_ref ex_LimitExceeded hd_LimitExceeded ty_LimitExceeded te_LimitExceeded_Clash,
    te_Clash_InvalidWord := PySem.W.exm_ref ex_InvalidWord hd_InvalidWord ty_InvalidWord te_InvalidWord_Clash,
    na_first_Clash := na_first_Clash,
    na_second_Clash := na_second_Clash,
    f_Clash__init := f_Clash__init,
    A_Clash__init := ⟨_, fun_mk (st := s_Clash__init) l_Clash__init c_Clash__init k_Clash__init, (fun_mk (st := s_Clash__init) l_Clash__init c_Clash__init k_Clash__init).binds (ps := ["self", "first", "second"]) fun _ _ _ _ _ _ us hl => match us, hl with | [_, _, _], _ => rfl⟩,
    m_Clash__init := m_Clash__init,
    ti_Clash__init := ti_Clash__init,
    n_isinstance := PySem.W.mg_none_of X G z_isinstance,
    n_int := PySem.W.mg_none_of X G z_int,
    n_bool := PySem.W.mg_none_of X G z_bool,
    n_dict := PySem.W.mg_none_of X G z_dict,
    n_len := PySem.W.mg_none_of X G z_len,
    n_range := PySem.W.mg_none_of X G z_range,
    n_list := PySem.W.mg_none_of X G z_list,
    n_tuple := PySem.W.mg_none_of X G z_tuple,
    n_max := PySem.W.mg_none_of X G z_max,
    n_min := PySem.W.mg_none_of X G z_min,
    n_enumerate := PySem.W.mg_none_of X G z_enumerate,
    n_repr := PySem.W.mg_none_of X G z_repr,
    n_any := PySem.W.mg_none_of X G z_any,
    n_all := PySem.W.mg_none_of X G z_all,
    n_zip := PySem.W.mg_none_of X G z_zip,
    n_sorted := PySem.W.mg_none_of X G z_sorted,
    n_ValueError := PySem.W.mg_none_of X G z_ValueError,
    n_OverflowError := PySem.W.mg_none_of X G z_OverflowError,
    v_MAX_SIZE := ⟨_, PySem.W.mg_of X G v_MAX_SIZE⟩,
    v_MOST_MAPS := ⟨_, PySem.W.mg_of X G v_MOST_MAPS⟩,
    v_MOST_LETTERS := ⟨_, PySem.W.mg_of X G v_MOST_LETTERS⟩,
    v_MOST_SETS := ⟨_, PySem.W.mg_of X G v_MOST_SETS⟩ }⟩
end My
namespace My
open PySem L2 U StX
/-! ### values of any known form -/
def knownV (C : Addr) (H : Hp) : V → Prop
  | .non => True | .bl _ => True | .int _ => True | .str _ => True
  | .ref a => (∃ xs, H a = some (.lst xs)) ∨ (∃ xs, H a = some (.tup xs)) ∨ (∃ kvs, H a = some (.dK kvs)) ∨ ∃ dx fs, H a = some (.ins C dx fs)
  | _ => False
def isI : V → Bool | .int _ => true | _ => false
def isB : V → Bool | .bl _ => true | _ => false
def inR : V → Int → Int → Bool | .int i, a, b => decide (a ≤ i) && decide (i ≤ b) | _, _, _ => false
section
variable {P : Program} {w : World} {K : PySem.W.Frag} {mg : Str → Option Value} {base : Heap}
theorem tyx_ins {H : Hp} {a C dx : Addr} {fs : List (Str × V)} (o : OwnC K C) (e : H a = some (.ins C dx fs)) : TyX K H (.ref a) (.ref C) := .base (.ins e o.cl o.ca o.cn o.ct o.cm)
/-- the type of a known value, and what isinstance says of it -/
theorem ty_known (T : Txt K mg) {H : Hp} {x : V} (h : knownV T.C_Map H x) : ∃ t, TyX K H x t ∧ PySem.W.kitOne K t (.type "int") = some (isI x || isB x) ∧ PySem.W.kitOne K t (.type "bool") = some (isB x) := by
  cases x with
  | non => exact ⟨_, .base .non, kit_ty (r := false) (by decide +kernel), kit_ty (r := false) (by decide +kernel)⟩
  | bl b => exact ⟨_, .base (.bl b), kit_ty (r := true) (by decide +kernel), kit_ty (r := true) (by decide +kernel)⟩
  | int i => exact ⟨_, .base (.int i), kit_ty (r := true) (by decide +kernel), kit_ty (r := false) (by decide +kernel)⟩
  | str z => exact ⟨_, .base (.str z), kit_ty (r := false) (by decide +kernel), kit_ty (r := false) (by decide +kernel)⟩
  | ref a =>
    rcases h with ⟨xs, e⟩ | ⟨xs, e⟩ | ⟨xs, e⟩ | ⟨dx, fs, e⟩
    · exact ⟨_, .base (.lst e), kit_ty (r := false) (by decide +kernel), kit_ty (r := false) (by decide +kernel)⟩
    · exact ⟨_, .base (.tup e), kit_ty (r := false) (by decide +kernel), kit_ty (r := false) (by decide +kernel)⟩
    · exact ⟨_, .base (.dK e), kit_ty (r := false) (by decide +kernel), kit_ty (r := false) (by decide +kernel)⟩
    · exact ⟨_, tyx_ins T.o_Map e, T.kit_int_Map, T.kit_bool_Map⟩
  | byt b => exact h.elim
  | flt b => exact h.elim
  | ty b => exact h.elim
def spIsInt (C : Addr) : Sp := fun vs H Q _ => ∃ x, vs = [x] ∧ knownV C H x ∧ Q (.bl (isI x)) H
theorem ok_is_integer (T : Txt K mg) : FnR P w K mg base CX0 1 T.f_is_integer (spIsInt T.C_Map) := by
  refine T.A_is_integer.ok sc_is_integer (fun vs H Q E h => ?_) (fun cdv A outer s H vs Q E hr h => ?_)
  · obtain ⟨x, rfl, _⟩ := h
    rfl
  · obtain ⟨x, rfl, hx, q⟩ := h
    refine ⟨_, pss_one (ps_ret (pe_and (pe_callB call_isi (by rfl) T.n_isinstance (by decide +kernel) (pa_cons (pv 0) (pa_cons (pe_bltn (v := .ty "int") (u := .type "int") (by rfl) T.n_int (by decide +kernel) rfl) pa_nil)))
      (pe_one (pe_not (pe_callB call_isi (by rfl) T.n_isinstance (by decide +kernel) (pa_cons (pv 0) (pa_cons (pe_bltn (v := .ty "bool") (u := .type "bool") (by rfl) T.n_bool (by decide +kernel) rfl) pa_nil))))))), ?_⟩
    obtain ⟨t, ht, k1, k2⟩ := ty_known T hx
    refine ⟨_, rfl, x, _, t, _, _, rfl, .ty _, ht, k1, _, rfl, ?_⟩
    refine ifB (fun hc => ?_) (fun hc => ?_)
    · refine ⟨_, rfl, x, _, t, _, _, rfl, .ty _, ht, k2, _, rfl, ?_⟩
      have e : (!isB x) = isI x := by cases x <;> first | rfl | cases hc
      rw [e]
      exact q
    · have e : isI x = false := by cases x <;> first | rfl | cases hc
      rw [e] at q
      exact q
def spInR (C : Addr) : Sp := fun vs H Q _ => ∃ x a b, vs = [x, .int a, .int b] ∧ knownV C H x ∧ Q (.bl (inR x a b)) H
theorem ok_in_range (T : Txt K mg) : FnR P w K mg base CX0 2 T.f_in_range (spInR T.C_Map) := by
  refine T.A_in_range.ok sc_in_range (fun vs H Q E h => ?_) (fun cdv A outer s H vs Q E hr h => ?_)
  · obtain ⟨x, a, b, rfl, _⟩ := h
    rfl
  · obtain ⟨x, a, b, rfl, hx, q⟩ := h
    refine ⟨_, pss_one (ps_ret (pe_and (pe_callR (ok_is_integer T) hr T.A_is_integer.kp rfl T.g_is_integer pass0 (pa_cons (pv 0) pa_nil))
      (pe_one (pe_chain op_le op_le (pv 1) (pv 0) (pv 2))))), ?_⟩
    refine ⟨_, rfl, x, rfl, hx, _, rfl, ?_⟩
    cases x with
    | int i =>
      refine iteT ⟨_, rfl, _, rfl, _, _, rfl, rfl, _, rfl, ?_⟩
      refine ifD (fun h => ?_) (fun h => ?_)
      · refine ⟨_, rfl, _, _, rfl, rfl, ?_⟩
        have e : inR (.int i) a b = decide (i ≤ b) := by simp [inR, h]
        rw [e] at q
        exact q
      · have e : inR (.int i) a b = false := by simp [inR, h]
        rw [e] at q
        exact q
    | _ => exact iteF q
/-! ### the law's draws -/
def spDraw : Sp := fun vs H Q _ => ∃ (p : Addr) (a b n : Int), vs = [.ref p, .int n] ∧ H p = some (.lst [.int a, .int b]) ∧ 0 ≤ a ∧ 0 ≤ b ∧ b < 2147483647 ∧ 0 < n ∧ n < 1073741824 ∧
  ∀ a' b' r : Int, 0 ≤ a' → 0 ≤ b' → b' < 2147483647 → 0 ≤ r → r < n → Q (.int r) (upd H p (.lst [.int a', .int b']))
theorem ok_draw (T : Txt K mg) : FnR P w K mg base CX0 1 T.f_l_draw spDraw := by
  refine T.A_l_draw.ok sc_l_draw (fun vs H Q E h => ?_) (fun cdv A outer s H vs Q E hr h => ?_)
  · obtain ⟨p, a, b, n, rfl, _⟩ := h
    rfl
  · obtain ⟨p, a, b, n, rfl, hp, ha, hb, hb2, hn, hn2, k⟩ := h
    refine ⟨_, pss_cons (ps_if (pt_cmpR op_gt (pe_ix ix_list (pv 0) pe_int (fun _ _ => rfl)) pe_int (nomark _))
        (pss_cons (ps_set (i := 2) sc_l_draw.nd rfl (Or.inl rfl) (pe_op op_mod (pe_ix ix_list (pv 0) pe_int (fun _ _ => rfl)) (pv 1)))
        (pss_cons (ps_asg (pe_op op_fdiv (pe_ix ix_list (pv 0) pe_int (fun _ _ => rfl)) (pv 1)) (pg_sub (pv 0) pe_int set_list))
        (pss_one (ps_ret (pv 2))))) pss_nil)
      (pss_cons (ps_asg (pe_op op_mod (pe_op op_add (pe_op op_mul (pe_ix ix_list (pv 0) pe_int (fun _ _ => rfl)) pe_int) pe_int) pe_int) (pg_sub (pv 0) pe_int set_list))
      (pss_one (ps_ret (pe_op op_mod (pe_op op_fdiv (pe_op op_mod (pe_op op_mul (pe_ix ix_list (pv 0) pe_int (fun _ _ => rfl)) (pe_ix ix_list (pv 0) pe_int (fun _ _ => rfl))) pe_int) pe_int) (pv 1))))), ?_⟩
    refine ⟨_, rfl, p, _, 0, _, rfl, rfl, SqL.of hp, rfl, _, _, rfl, rfl, _, rfl, ?_⟩
    refine ifD (fun h => ?_) (fun h => ?_)
    · refine ⟨_, rfl, p, _, 0, _, rfl, rfl, SqL.of hp, rfl, _, rfl, _, _, rfl, rfl, hn, ?_⟩
      refine ⟨_, rfl, p, _, 0, _, rfl, rfl, SqL.of hp, rfl, _, rfl, _, _, rfl, rfl, ⟨hn, hn2⟩, _, rfl, p, _, 0, _, rfl, rfl, hp, rfl, ?_⟩
      refine ⟨_, rfl, ?_⟩
      exact k (a / n) b (a % n) (Int.ediv_nonneg ha (by omega)) hb hb2 (Int.emod_nonneg _ (by omega)) (Int.emod_lt_of_pos _ hn)
    · have m1 : 0 ≤ (b * 48271 + 11) % 2147483647 := Int.emod_nonneg _ (by decide)
      have m2 : (b * 48271 + 11) % 2147483647 < 2147483647 := Int.emod_lt_of_pos _ (by decide)
      refine ⟨_, rfl, p, _, 1, _, rfl, rfl, SqL.of hp, rfl, _, _, rfl, rfl, .inr ⟨by decide, by decide⟩, _, _, rfl, rfl, _, _, rfl, rfl, (by show (0 : Int) < 2147483647; decide), _, rfl, p, _, 1, _, rfl, rfl, hp, rfl, ?_⟩
      refine ⟨_, rfl, p, _, 1, _, rfl, rfl, SqL.of upd_same, rfl, _, rfl, p, _, 1, _, rfl, rfl, SqL.of upd_same, rfl, _, _, rfl, rfl, .inl ⟨by omega, by omega⟩, _, _, rfl, rfl, (by show (0 : Int) < 2147483629; decide), _, _, rfl, rfl, ⟨by decide, by decide⟩, _, rfl, _, _, rfl, rfl, hn, ?_⟩
      exact k a ((b * 48271 + 11) % 2147483647) _ ha m1 m2 (Int.emod_nonneg _ (by omega)) (Int.emod_lt_of_pos _ hn)
end
end My
namespace My
open PySem L2 U StX PM
section
variable {P : Program} {w : World} {K : PySem.W.Frag} {mg : Str → Option Value} {base : Heap}
theorem head_int (xs : List V) (h : ∀ v ∈ xs, ∃ i, v = V.int i) : ∃ c, atI (xs ++ [V.int 0]) 0 = some (V.int c) := by
  cases xs with
  | nil => exact ⟨0, rfl⟩
  | cons a r =>
    obtain ⟨i, rfl⟩ := h a List.mem_cons_self
    refine ⟨i, atI_nat (j := 0) ?_⟩
    rfl
theorem cut_int (ns : List Int) (lo hi : Option Int) : ∀ v ∈ cutV (ns.map V.int) lo hi, ∃ i, v = V.int i := by
  intro v hv
  unfold cutV at hv
  have h1 := List.mem_of_mem_drop (List.mem_of_mem_take hv)
  obtain ⟨i, _, rfl⟩ := List.mem_map.mp h1
  exact ⟨i, rfl⟩
def spHand (K : PySem.W.Frag) : Sp := fun vs H Q _ => ∃ (a : Addr) (ns : List Int) (k : Int), vs = [.ref a, .int k] ∧ SqL K H a (ns.map V.int) ∧ ns.length ≤ 63 ∧
  ∀ p H' x y, H p = none → H' p = some (.lst [.int x, .int y]) → Same H H' → 0 ≤ x → 0 ≤ y → y < 2147483647 → Q (.ref p) H'
theorem ok_hand (T : Txt K mg) : FnR P w K mg base CX0 1 T.f_l_hand (spHand K) := by
  refine T.A_l_hand.ok sc_l_hand (fun vs H Q E h => ?_) (fun cdv A outer s H vs Q E hr h => ?_)
  · obtain ⟨a, ns, k, rfl, _⟩ := h
    rfl
  · obtain ⟨a, ns, k, rfl, hS, hl, q⟩ := h
    refine ⟨_, pss_cons (ps_set (i := 2) sc_l_hand.nd rfl (Or.inl rfl) (pe_ix ix_list (pe_op op_cat (pe_slice sl_list (pv 0) (po_some (pv 1)) (po_some (pe_op op_add (pv 1) pe_int))) (pe_lst (pa_cons pe_int pa_nil))) pe_int (fun _ _ => rfl)))
      (pss_cons (ps_set (i := 3) sc_l_hand.nd rfl (Or.inl rfl) (pe_op op_mod (pe_op op_mul (pe_op op_add (pe_op op_add (pe_op op_mod (pv 2) pe_int) (pe_op op_mul pe_int (pv 1))) pe_int) pe_int) pe_int))
      (pss_one (ps_ret (pe_lst (pa_cons (pe_op op_mul (pe_callTy call_int1 (by rfl) T.n_int (by decide +kernel) (pa_cons (pe_cmpR op_ge (pv 2) (pe_op op_pow pe_int pe_int) (nomark _)) pa_nil)) (pv 2)) (pa_cons (pv 3) pa_nil)))))), ?_⟩
    refine ⟨_, rfl, _, rfl, _, rfl, _, rfl, _, _, rfl, rfl, _, rfl, a, _, rfl, hS, fun p1 n1 => ?_⟩
    refine ⟨(by show 1 ≤ sizeLine; decide), fun p2 n2 => ?_⟩
    have n12 : p1 ≠ p2 := ne_of_none upd_same n2
    have hcl := cutV_length (ns.map V.int) (some k) (some (k + 1))
    rw [List.length_map] at hcl
    refine ⟨p1, p2, cutV (ns.map V.int) (some k) (some (k + 1)), [.int 0], rfl, rfl, (by rw [upd_ne n12, upd_same]), upd_same, ?_, fun p3 n3 => ?_⟩
    · show _ + 1 ≤ sizeLine
      exact Nat.le_trans (by omega : _ ≤ 64) (by decide)
    obtain ⟨c, hc⟩ := head_int _ (cut_int ns (some k) (some (k + 1)))
    refine ⟨p3, _, 0, .int c, rfl, rfl, SqL.of upd_same, hc, ?_⟩
    refine ⟨_, rfl, _, _, rfl, rfl, (by show (0 : Int) < 2147483647; decide), _, rfl, _, _, rfl, rfl, .inl ⟨by decide, by decide⟩, _, _, rfl, rfl, _, _, rfl, rfl, _, _, rfl, rfl, .inr ⟨by decide, by decide⟩, _, _, rfl, rfl, (by show (0 : Int) < 2147483629; decide), ?_⟩
    refine ⟨_, rfl, _, _, rfl, rfl, ⟨by decide, by decide, by decide⟩, _, _, rfl, rfl, .inr ⟨_, rfl, _, rfl, _, _, rfl, rfl, .inl ?_, _, rfl, (by show 2 ≤ sizeLine; decide), fun p4 n4 => ?_⟩⟩
    · cases decide ((10 : Int) ^ (18 : Int).toNat ≤ c) <;> exact ⟨by decide, by decide⟩
    · have s3 := ((Same.new (o := .lst (cutV (ns.map V.int) (some k) (some (k + 1)))) n1).trans (Same.new (o := .lst [.int 0]) n2)).trans (Same.new (o := .lst (cutV (ns.map V.int) (some k) (some (k + 1)) ++ [.int 0])) n3)
      refine q p4 _ _ _ (s3.free n4) upd_same (s3.trans (Same.new n4)) ?_ (Int.emod_nonneg _ (by decide)) ?_
      · cases hd : decide ((10 : Int) ^ (18 : Int).toNat ≤ c) with
        | true =>
          have := of_decide_eq_true hd
          have h10 : (0 : Int) ≤ 10 ^ (18 : Int).toNat := by decide
          show 0 ≤ 1 * c
          omega
        | false => show 0 ≤ 0 * c; omega
      · have := Int.emod_lt_of_pos ((c % 2147483647 + 7919 * k + 1) * 48271) (show (0 : Int) < 2147483629 by decide)
        omega
end
end My
namespace My
open PySem L2 U StX PM
section
variable {P : Program} {w : World} {K : PySem.W.Frag} {mg : Str → Option Value} {base : Heap}
def rowOk (n : Int) (p : Int × Int) : Bool := inR (.int p.1) 0 (n - 1) && inR (.int p.2) 0 (n - 1)
def okArr (n : Int) (l : List (Int × Int)) : Bool := l.all (rowOk n) && decide (l.map (·.2)).Nodup
def tgt (l : List (Int × Int)) : List (Key × V) := l.map fun p => (Sum.inl p.2, V.bl true)
theorem tgt_key {l : List (Int × Int)} {y : Int} : (Sum.inl y : Key) ∈ (tgt l).map (·.1) ↔ y ∈ l.map (·.2) := by
  unfold tgt
  rw [List.map_map]
  constructor
  · intro h
    obtain ⟨p, hp, e⟩ := List.mem_map.mp h
    exact List.mem_map.mpr ⟨p, hp, Sum.inl.inj e⟩
  · intro h
    obtain ⟨p, hp, e⟩ := List.mem_map.mp h
    exact List.mem_map.mpr ⟨p, hp, congrArg Sum.inl e⟩
theorem tgt_val {l : List (Int × Int)} {y : Int} : (valV (tgt l) (Sum.inl y : Key)).isSome = decide (y ∈ l.map (·.2)) := by
  by_cases h : y ∈ l.map (·.2)
  · have h' := tgt_key.mpr h
    rw [decide_eq_true h]
    cases e : valV (tgt l) (Sum.inl y : Key) with
    | some v => rfl
    | none =>
      obtain ⟨p, hp, e2⟩ := List.mem_map.mp h'
      exfalso
      unfold valV at e
      rw [Option.map_eq_none_iff, List.find?_eq_none] at e
      exact e p hp (by simp [e2])
  · rw [decide_eq_false h, valV_none fun z => h (tgt_key.mp z)]
    rfl
theorem okArr_step {n : Int} {l : List (Int × Int)} {i : Nat} {p : Int × Int} (h : l[i]? = some p) : okArr n (l.take (i + 1)) = (okArr n (l.take i) && (rowOk n p && !decide (p.2 ∈ (l.take i).map (·.2)))) := by
  rw [take_more h]
  unfold okArr
  rw [List.all_append, List.map_append]
  have e : decide (((l.take i).map (·.2) ++ [p].map (·.2)).Nodup) = (decide ((l.take i).map (·.2)).Nodup && !decide (p.2 ∈ (l.take i).map (·.2))) := by
    rw [Bool.eq_iff_iff]
    simp only [decide_eq_true_eq, Bool.and_eq_true, Bool.not_eq_true', decide_eq_false_iff_not]
    rw [List.nodup_append]
    constructor
    · rintro ⟨h1, _, h2⟩
      exact ⟨h1, fun hm => h2 _ hm _ (by simp) rfl⟩
    · rintro ⟨h1, h2⟩
      refine ⟨h1, by simp, fun a ha b hb e => ?_⟩
      simp at hb
      subst hb
      exact h2 (e ▸ ha)
  rw [e]
  simp only [List.all_cons, List.all_nil, Bool.and_true]
  cases (l.take i).all (rowOk n) <;> cases rowOk n p <;> cases decide ((l.take i).map (·.2)).Nodup <;> simp
theorem okArr_cut {n : Int} {l : List (Int × Int)} {i : Nat} (h : okArr n (l.take i) = false) : okArr n l = false := by
  cases e : okArr n l with
  | false => rfl
  | true =>
    unfold okArr at e h
    rw [Bool.and_eq_true] at e
    have h1 : (l.take i).all (rowOk n) = true := by
      rw [List.all_eq_true] at e ⊢
      exact fun p hp => e.1 p (List.mem_of_mem_take hp)
    have h2 : ((l.take i).map (·.2)).Nodup := by
      have := of_decide_eq_true e.2
      rw [List.map_take]
      exact List.Sublist.nodup (List.take_sublist _ _) this
    rw [h1, decide_eq_true h2] at h
    cases h
def spArr : Sp := fun vs H Q _ => ∃ (n : Int) (d : Addr) (l : List (Int × Int)), vs = [.int n, .ref d] ∧ H d = some (.dK (kvI l)) ∧ l.length ≤ 1000 ∧ ∀ H', Same H H' → Q (.bl (okArr n l)) H'
theorem ok_are_arrows (T : Txt K mg) : FnR P w K mg base CX0 3 T.f_are_arrows spArr := by
  refine T.A_are_arrows.ok sc_are_arrows (fun vs H Q E h => ?_) (fun cdv A outer s H vs Q E hr h => ?_)
  · obtain ⟨n, d, l, rfl, _⟩ := h
    rfl
  · obtain ⟨n, d, l, rfl, hd, hl, q⟩ := h
    have hu := hu_of hr
    refine ⟨_, pss_cons (ps_if (pt_not (pt_val (pe_callB call_isi (by rfl) T.n_isinstance (by decide +kernel) (pa_cons (pv 1) (pa_cons (pe_bltn (v := .ty "dict") (u := .type "dict") (by rfl) T.n_dict (by decide +kernel) rfl) pa_nil))))) (pss_one (ps_ret pe_bl)) pss_nil)
      (pss_cons (ps_set (i := 2) sc_are_arrows.nd rfl (Or.inl rfl) pe_dnewK)
      (pss_cons (ps_lock (ps_for PassesOwn.never rfl (pi_items (pv 1)) (pg_tup rfl (pgs_cons (pg_name (i := 3) sc_are_arrows.nd rfl (Or.inl rfl)) (pgs_cons (pg_name (i := 4) sc_are_arrows.nd rfl (Or.inl rfl)) pgs_nil)))
        (pss_cons (ps_if (PW.pt (pw_or (pt_not (pt_val (pe_callR (ok_in_range T) hr T.A_in_range.kp rfl T.g_in_range pass0 (pa_cons (pv 3) (pa_cons pe_int (pa_cons (pe_op op_sub (pv 0) pe_int) pa_nil))))))
            (pw_or (pt_not (pt_val (pe_callR (ok_in_range T) hr T.A_in_range.kp rfl T.g_in_range pass0 (pa_cons (pv 4) (pa_cons pe_int (pa_cons (pe_op op_sub (pv 0) pe_int) pa_nil))))))
            (pw_or1 (pt_cmp (pc_din hu (pv 4) (pv 2))))))) (pss_one (ps_ret pe_bl)) pss_nil)
        (pss_one (ps_dput hu (pv 2) (pv 4) pe_bl rfl)))))
      (pss_one (ps_ret pe_bl)))), ?_⟩
    refine ⟨_, rfl, _, _, _, _, true, rfl, .ty _, .base (.dK hd), kit_ty (by decide +kernel), _, rfl, ?_⟩
    refine iteF ?_
    intro t ht
    have ntd : t ≠ d := fun e => by rw [e, hd] at ht; cases ht
    have hd1 : (upd H t (.dK [])) d = some (.dK (kvI l)) := by rw [upd_ne ntd.symm]; exact hd
    refine ⟨d, _, hd1, trivial, fun od => ?_⟩
    refine ⟨_, rfl, d, od, kvI l, rfl, upd_same, ?_⟩
    refine for_it walk_items (fun i σ H' => ∃ v3 v4, σ = [some (.int n), some (.ref d), some (.ref t), v3, v4] ∧ H' d = some (.frz od (.dK (kvI l))) ∧ Off d H H' ∧ H' t = some (.dK (tgt (l.take i))) ∧ okArr n (l.take i) = true)
      ⟨none, none, rfl, upd_same, (Off.new ht).tr Off.lock, (by rw [upd_ne ntd]; exact upd_same), rfl⟩ (fun i σ H' _ ⟨_, _, _, p, _⟩ => p) ?_ ?_
    · rintro i v σ H' H'' hi ⟨v3, v4, rfl, p1, p2, p3, p4⟩ ⟨U, a, b, rfl, hU, rfl, e1, e2⟩
      rw [kvI_length] at hi
      obtain ⟨⟨x, y⟩, exy⟩ : ∃ p, l[i]? = some p := ⟨_, List.getElem?_eq_getElem hi⟩
      have ek : (kvI l)[i]? = some (Sum.inl x, V.int y) := by unfold kvI; rw [List.getElem?_map, exy]; rfl
      dsimp only at e1 e2
      rw [ek] at e1 e2
      cases e1; cases e2
      have nUd : d ≠ U := ne_of_none p1 hU
      have nUt : t ≠ U := ne_of_none p3 hU
      have d3 : (upd H' U (.tup [kV (Sum.inl x), .int y])) d = some (.frz od (.dK (kvI l))) := by rw [upd_ne nUd]; exact p1
      have t3 : (upd H' U (.tup [kV (Sum.inl x), .int y])) t = some (.dK (tgt (l.take i))) := by rw [upd_ne nUt]; exact p3
      have o3 : Off d H (upd H' U (.tup [kV (Sum.inl x), .int y])) := p2.tr (Off.new hU)
      have bad : (rowOk n (x, y) && !decide (y ∈ (l.take i).map (·.2))) = false → Q (.bl false) (upd (upd H' U (.tup [kV (Sum.inl x), .int y])) d (.dK (kvI l))) := by
        intro hb
        have h1 := okArr_step (n := n) exy
        rw [p4, hb] at h1
        have := q _ (o3.back hd)
        rw [okArr_cut h1] at this
        exact this
      refine ⟨U, [.int x, .int y], rfl, SqT.of upd_same, rfl, .int x, [.int y], rfl, .int y, [], rfl, rfl, ?_⟩
      refine ⟨_, rfl, _, rfl, _, _, rfl, rfl, .int x, 0, n - 1, rfl, trivial, _, rfl, ?_⟩
      refine ifNB (fun hc => iteT ⟨d3, bad ?_⟩) (fun hc => ?_)
      · simp [rowOk, hc]
      refine ⟨_, rfl, _, rfl, _, _, rfl, rfl, .int y, 0, n - 1, rfl, trivial, _, rfl, ?_⟩
      refine ifNB (fun hc2 => iteT ⟨d3, bad ?_⟩) (fun hc2 => ?_)
      · simp [rowOk, hc2]
      refine ⟨_, rfl, _, rfl, t, _, rfl, DGet.k (k := Sum.inl y) t3, _, rfl, ?_⟩
      rw [tgt_val]
      refine ifD (fun hm => ⟨d3, bad ?_⟩) (fun hm => ?_)
      · rw [decide_eq_true hm]; simp
      have hlen : (tgt (l.take i)).length ≤ 1000 := by unfold tgt; rw [List.length_map, List.length_take]; omega
      refine ⟨_, rfl, _, rfl, t, _, rfl, DPut.k (k := Sum.inl y) t3 (small1000 hlen), ?_⟩
      refine ⟨_, _, rfl, ?_, o3.mut ht, ?_, ?_⟩
      · rw [upd_ne ntd.symm]; exact d3
      · rw [upd_same, putK_new _ (valV_none fun z => hm (tgt_key.mp z)), take_more exy]
        unfold tgt
        rw [List.map_append]
        rfl
      · rw [okArr_step exy, p4, decide_eq_false hm]
        simp [rowOk, hc, hc2]
    · rintro σ H' ⟨v3, v4, rfl, p1, p2, p3, p4⟩
      rw [kvI_length, List.take_length] at p4
      have := q _ (p2.back hd)
      rw [p4] at this
      exact ⟨p1, this⟩
end
end My
namespace My
open PySem L2 U StX PM
section
variable {P : Program} {w : World} {K : PySem.W.Frag} {mg : Str → Option Value} {base : Heap}
theorem ne_fld : ¬ (("own_size" : Str) = "own_arrows") := by decide +kernel
/-- a map's attributes -/
def flds (n : Int) (D : Addr) : List (Str × V) := putF "own_arrows" (.ref D) (putF "own_size" (.int n) [])
theorem flds_size (n : Int) (D : Addr) : (flds n D).lookup ("own_size" : Str) = some (.int n) := by
  unfold flds
  rw [lookup_putF, if_neg ne_fld, lookup_putF, if_pos rfl]
theorem flds_arrows (n : Int) (D : Addr) : (flds n D).lookup ("own_arrows" : Str) = some (.ref D) := by
  unfold flds
  rw [lookup_putF, if_pos rfl]
/-- a Map of n elements stands at m: the map f -/
structure IsMap (C : Addr) (H : Hp) (m : Addr) (n : Int) (f : PF) : Prop where
  ob : ∃ dx D, H m = some (.ins C dx (flds n D)) ∧ H D = some (.dK (kvI (tab n f)))
  wf : WF n f
  lo : 1 ≤ n
  hi : n ≤ 300
theorem IsMap.same {C : Addr} {H H' : Hp} {m : Addr} {n : Int} {f : PF} (a : IsMap C H m n f) (s : Same H H') : IsMap C H' m n f := by
  obtain ⟨⟨dx, D, h1, h2⟩, wf, lo, hi⟩ := a
  exact ⟨⟨dx, D, s _ _ h1, s _ _ h2⟩, wf, lo, hi⟩
theorem okArr_of {n : Int} {l : List (Int × Int)} {f : PF} (d : DI l f) (w : WF n f) : okArr n l = true := by
  unfold okArr
  rw [Bool.and_eq_true]
  refine ⟨List.all_eq_true.mpr fun p hp => ?_, decide_eq_true (d.vals w)⟩
  obtain ⟨x, y⟩ := p
  have h := w.dom x y (d.mem.mp hp)
  simp only [rowOk, inR, Bool.and_eq_true, decide_eq_true_eq]
  omega
theorem madeR_tab {l : List (Int × Int)} {f : PF} (d : DI l f) (n : Nat) : madeR (fun k => (lk l k).isSome) (fun x => x) (fun k => ((lk l k).map V.int).getD .non) n = kvI (tabN f n) := by
  induction n with
  | zero => rfl
  | succ n ih =>
    rw [madeR_succ, ih]
    have e : tabN f (n + 1) = tabN f n ++ ((f (n : Int)).map fun y => ((n : Int), y)).toList := by
      unfold tabN
      rw [List.range_succ, List.filterMap_append]
      cases h : f (n : Int) <;> simp [h]
    rw [e, d.at_]
    cases h : f (n : Int) with
    | none => simp
    | some y => simp [kvI]
def spInit (C : Addr) : Sp := fun vs H Q _ => ∃ (p dx d : Addr) (n : Int) (l : List (Int × Int)) (f : PF), vs = [.ref p, .int n, .ref d] ∧ H p = some (.ins C dx []) ∧ H d = some (.dK (kvI l)) ∧ DI l f ∧ WF n f ∧ 1 ≤ n ∧ n ≤ 300 ∧ l.length ≤ 1000 ∧
  ∀ (H' : Hp) (D : Addr), Off p H H' → H D = none → H' p = some (.ins C dx (flds n D)) → H' D = some (.dK (kvI (tab n f))) → Q .non H'
theorem ok_init (T : Txt K mg) : FnR P w K mg base CX0 4 T.f_Map__init (spInit T.C_Map) := by
  refine T.A_Map__init.ok sc_Map__init (fun vs H Q E h => ?_) (fun cdv A outer s H vs Q E hr h => ?_)
  · obtain ⟨p, dx, d, n, l, f, rfl, _⟩ := h
    rfl
  · obtain ⟨p, dx, d, n, l, f, rfl, hp, hd, di, wf, h1, h3, hl, q⟩ := h
    have hu := hu_of hr
    obtain ⟨tk, hms⟩ := T.v_MAX_SIZE
    refine ⟨_, pss_cons (ps_if (pt_not (pt_val (pe_callR (ok_in_range T) (hr.mono (by decide)) T.A_in_range.kp rfl T.g_in_range pass0 (pa_cons (pv 1) (pa_cons pe_int (pa_cons (pe_glob (v := .int 300) rfl hms ⟨_, rfl⟩) pa_nil)))))) (pss_one ps_never) pss_nil)
      (pss_cons (ps_if (pt_not (pt_val (pe_callR (ok_are_arrows T) hr T.A_are_arrows.kp rfl T.g_are_arrows pass0 (pa_cons (pv 1) (pa_cons (pv 2) pa_nil))))) (pss_one ps_never) pss_nil)
      (pss_cons (ps_fld (pv 0) (pv 1) rfl)
      (pss_one (ps_fld (pv 0) (pe_dc (own := [("source", 3)]) (g := gName 3) rfl sc_Map__init.nd (pi_range1 rfl T.n_range (pa_cons (pv 1) pa_nil)) (blkOk_by (own := [("source", 3)]) (N := n_Map__init) (sc := defScope s_Map__init) (by decide +kernel))
        (fun _ _ _ _ _ => pg_name (i := 3) sc_Map__init.nd rfl (Or.inl rfl)) (fun _ _ _ _ _ => pts_one (pt_cmp (pc_din hu (pv 3) (pv 2)))) (fun _ _ _ _ _ => pv 3) (fun _ _ _ _ _ => pe_dget hu (pv 2) (pv 3) (fun _ _ => rfl))) rfl)))), ?_⟩
    refine ⟨_, rfl, .int n, 1, 300, rfl, trivial, _, rfl, ?_⟩
    have e1 : inR (.int n) 1 300 = true := by simp [inR, h1, h3]
    rw [e1]
    refine iteF ⟨_, rfl, _, rfl, n, d, l, rfl, hd, hl, fun H1 s1 => ⟨_, rfl, ?_⟩⟩
    rw [okArr_of di wf]
    refine iteF ?_
    have hp1 := s1 _ _ hp
    have npd : p ≠ d := ne_of hp hd (by intro z; cases z)
    refine ⟨_, rfl, _, rfl, p, T.C_Map, dx, [], rfl, hp1, T.o_Map.cl, T.na_own_size_Map, (by show 0 < 1000; decide), ?_⟩
    have hd1 : (upd H1 p (.ins T.C_Map dx (putF "own_size" (.int n) []))) d = some (.dK (kvI l)) := by rw [upd_ne npd.symm]; exact s1 _ _ hd
    dsimp only [sFld]
    refine dc_range (n := n.toNat) (fun k => (lk l k).isSome) (fun k => ((lk l k).map V.int).getD .non) (fun R r => ⟨_, rfl, n, rfl, by omega, by omega, r⟩) (fun _ => rfl) ?_ (small1000 (by omega)) ?_
    · intro k hk H2 s2
      have hd2 := s2 _ _ hd1
      refine ⟨fun R r => ?_, fun hc => ⟨fun R r => ?_, fun R r => ?_⟩⟩
      · refine ⟨_, rfl, _, rfl, d, _, rfl, DGet.k (k := Sum.inl (0 + (k : Int))) hd2, _, rfl, ?_⟩
        rw [valV_kvI, Option.isSome_map, Int.zero_add]
        exact r
      · refine ⟨_, rfl, ?_⟩
        rw [Int.zero_add]
        exact r
      · cases hv : lk l (k : Int) with
        | none => rw [hv] at hc; cases hc
        | some y =>
          rw [hv] at r
          refine ⟨_, rfl, _, rfl, d, .int y, rfl, ?_, r⟩
          have := DGet.k (k := Sum.inl (0 + (k : Int))) hd2
          rw [valV_kvI, Int.zero_add, hv] at this
          rw [Int.zero_add]
          exact this
    · intro D H2 nD hD s2
      rw [madeR_tab di] at hD
      have hp2 := s2 _ _ (upd_same : (upd H1 p (.ins T.C_Map dx (putF "own_size" (.int n) []))) p = _)
      refine ⟨_, rfl, p, T.C_Map, dx, _, rfl, hp2, T.o_Map.cl, T.na_own_arrows_Map, (by show 1 < 1000; decide), ?_⟩
      have nDp : D ≠ p := fun e => by rw [e, upd_same] at nD; cases nD
      have nD1 : H1 D = none := by rw [upd_ne nDp] at nD; exact nD
      refine q _ D (fun b o hb e => ?_) (s1.free nD1) upd_same ?_
      · rw [upd_ne hb]
        refine s2 _ _ ?_
        rw [upd_ne hb]
        exact s1 _ _ e
      · rw [upd_ne nDp]
        exact hD
end
end My
namespace My
open PySem L2 U StX PM
/-! ### what a comprehension over pairs of ints makes -/
def madeI (c : Int → Int → Bool) (kf vi : Int → Int → Int) (l : List (Int × Int)) : List (Int × Int) := (l.filter fun p => c p.1 p.2).map fun p => (kf p.1 p.2, vi p.1 p.2)
theorem madeD_I (c : Int → Int → Bool) (kf vi : Int → Int → Int) (l : List (Int × Int)) : madeD c kf (fun x y => .int (vi x y)) l = kvI (madeI c kf vi l) := by
  unfold madeD madeI kvI
  rw [List.map_map]
  rfl
theorem kvI_keys (l : List (Int × Int)) : (kvI l).map (·.1) = (l.map (·.1)).map Sum.inl := by
  unfold kvI
  rw [List.map_map, List.map_map]
  rfl
theorem nd_inl {l : List Int} (h : l.Nodup) : (l.map (Sum.inl : Int → Key)).Nodup := by
  induction l with
  | nil => exact List.nodup_nil
  | cons a r ih =>
    rw [List.nodup_cons] at h
    rw [List.map_cons, List.nodup_cons]
    refine ⟨fun hm => ?_, ih h.2⟩
    obtain ⟨b, hb, e⟩ := List.mem_map.mp hm
    exact h.1 (Sum.inl.inj e ▸ hb)
theorem mem_madeI {c : Int → Int → Bool} {kf vi : Int → Int → Int} {l : List (Int × Int)} {a b : Int} : (a, b) ∈ madeI c kf vi l ↔ ∃ x y, (x, y) ∈ l ∧ c x y = true ∧ kf x y = a ∧ vi x y = b := by
  unfold madeI
  rw [List.mem_map]
  constructor
  · rintro ⟨⟨x, y⟩, h, e⟩
    have h1 := List.mem_filter.mp h
    cases e
    exact ⟨x, y, h1.1, h1.2, rfl, rfl⟩
  · rintro ⟨x, y, h1, h2, rfl, rfl⟩
    exact ⟨(x, y), List.mem_filter.mpr ⟨h1, h2⟩, rfl⟩
theorem madeI_len (c : Int → Int → Bool) (kf vi : Int → Int → Int) (l : List (Int × Int)) : (madeI c kf vi l).length ≤ l.length := by
  unfold madeI
  rw [List.length_map]
  exact List.length_filter_le _ _
/-- the sources kept -/
theorem nd_src {c : Int → Int → Bool} {vi : Int → Int → Int} {l : List (Int × Int)} (h : (l.map (·.1)).Nodup) : ((madeI c (fun x _ => x) vi l).map (·.1)).Nodup := by
  unfold madeI
  rw [List.map_map]
  exact List.Sublist.nodup ((List.filter_sublist (p := fun p : Int × Int => c p.1 p.2)).map (·.1)) h
section
variable {P : Program} {w : World} {K : PySem.W.Frag} {mg : Str → Option Value} {base : Heap}
theorem mk_map {C : Addr} {H : Hp} {d : Addr} {n : Int} {l : List (Int × Int)} {f : PF} {Q : VK} {E : XK} (hd : H d = some (.dK (kvI l))) (di : DI l f) (wf : WF n f) (h1 : 1 ≤ n) (h3 : n ≤ 300) (hl : l.length ≤ 1000)
    (q : ∀ r H', H r = none → Same H H' → IsMap C H' r n f → Q (.ref r) H') (x dx : Addr) (hx : H x = none) (hdx : H dx = none) (ne : dx ≠ x) :
    spInit C [.ref x, .int n, .ref d] (upd (upd H dx (.own x)) x (.ins C dx [])) (fun v H2 => v = .non ∧ Q (.ref x) H2) E := by
  have s0 : Same H (upd (upd H dx (.own x)) x (.ins C dx [])) := fun b o e => by
    rw [upd_ne (ne_of_none e hx), upd_ne (ne_of_none e hdx)]
    exact e
  refine ⟨x, dx, d, n, l, f, rfl, upd_same, s0 _ _ hd, di, wf, h1, h3, hl, fun H' D o nD hp hD => ⟨rfl, ?_⟩⟩
  refine q x H' hx (fun b u e => o b u (ne_of_none e hx) (s0 b u e)) ⟨⟨dx, D, hp, hD⟩, wf, h1, h3⟩
/-! ### size, arrows, common_size -/
def spSize (C : Addr) : Sp := fun vs H Q _ => ∃ m n f, vs = [.ref m] ∧ IsMap C H m n f ∧ Q (.int n) H
theorem ok_size (T : Txt K mg) : FnR P w K mg base CX0 1 T.f_Map_size (spSize T.C_Map) := by
  refine T.A_Map_size.ok sc_Map_size (fun vs H Q E h => ?_) (fun cdv A outer s H vs Q E hr h => ?_)
  · obtain ⟨m, n, f, rfl, _⟩ := h
    rfl
  · obtain ⟨m, n, f, rfl, ⟨⟨dx, D, h1, h2⟩, _⟩, q⟩ := h
    refine ⟨_, pss_one (ps_ret (pe_fld (pv 0) rfl)), ?_⟩
    exact ⟨_, rfl, m, _, dx, _, _, rfl, h1, T.o_Map.cl, T.na_own_size_Map, flds_size _ _, q⟩
def spArrows (C : Addr) : Sp := fun vs H Q _ => ∃ m n f, vs = [.ref m] ∧ IsMap C H m n f ∧ ∀ p, H p = none → Q (.ref p) (upd H p (.dK (kvI (tab n f))))
theorem ok_arrows (T : Txt K mg) : FnR P w K mg base CX0 1 T.f_Map_arrows (spArrows T.C_Map) := by
  refine T.A_Map_arrows.ok sc_Map_arrows (fun vs H Q E h => ?_) (fun cdv A outer s H vs Q E hr h => ?_)
  · obtain ⟨m, n, f, rfl, _⟩ := h
    rfl
  · obtain ⟨m, n, f, rfl, ⟨⟨dx, D, h1, h2⟩, _⟩, q⟩ := h
    refine ⟨_, pss_one (ps_ret (pe_callTy call_dictD (by rfl) T.n_dict (by decide +kernel) (pa_cons (pe_fld (pv 0) rfl) pa_nil))), ?_⟩
    exact ⟨_, rfl, m, _, dx, _, _, rfl, h1, T.o_Map.cl, T.na_own_arrows_Map, flds_arrows _ _, D, _, rfl, Rd.of h2, q⟩
theorem at_map {C : Addr} {H : Hp} {m : Addr} {n : Int} {f : PF} (h : IsMap C H m n f) : ∃ dx fs, H m = some (.ins C dx fs) := by
  obtain ⟨⟨dx, D, h1, _⟩, _⟩ := h
  exact ⟨dx, _, h1⟩
def spCommon (C : Addr) : Sp := fun vs H Q _ => ∃ a b n f g, vs = [.ref a, .ref b] ∧ IsMap C H a n f ∧ IsMap C H b n g ∧ Q (.int n) H
theorem ok_common (T : Txt K mg) : FnR P w K mg base CX0 3 T.f_common_size (spCommon T.C_Map) := by
  refine T.A_common_size.ok sc_common_size (fun vs H Q E h => ?_) (fun cdv A outer s H vs Q E hr h => ?_)
  · obtain ⟨a, b, n, f, g, rfl, _⟩ := h
    rfl
  · obtain ⟨a, b, n, f, g, rfl, ha, hb, q⟩ := h
    refine ⟨_, pss_cons (ps_if (pt_cmpR op_ne (pe_propR (pv 0) T.o_Map.cl T.P_Map_size (ok_size T) hr) (pe_propR (pv 1) T.o_Map.cl T.P_Map_size (ok_size T) hr) (nomark _)) (pss_one ps_never) pss_nil)
      (pss_one (ps_ret (pe_propR (pv 0) T.o_Map.cl T.P_Map_size (ok_size T) hr))), ?_⟩
    obtain ⟨dx, fs, h1⟩ := at_map ha
    obtain ⟨dy, gs, h2⟩ := at_map hb
    refine ⟨_, rfl, a, dx, fs, rfl, h1, a, n, f, rfl, ha, _, rfl, b, dy, gs, rfl, h2, b, n, g, rfl, hb, rfl, _, rfl, ?_⟩
    refine iteNS rfl ?_
    exact ⟨_, rfl, a, dx, fs, rfl, h1, a, n, f, rfl, ha, q⟩
/-! ### the operators -/
def spOp (C : Addr) (op : PF → PF → PF) : Sp := fun vs H Q _ => ∃ a b n f g, vs = [.ref a, .ref b] ∧ IsMap C H a n f ∧ IsMap C H b n g ∧ ∀ r H', H r = none → Same H H' → IsMap C H' r n (op f g) → Q (.ref r) H'
theorem mul_di {n : Int} {f g : PF} (wf : WF n f) (wg : WF n g) : DI (madeI (fun _ y => (g y).isSome) (fun x _ => x) (fun _ y => (g y).getD 0) (tab n f)) (mul f g) := by
  refine di_of (nd_src (keys_tab n f)) fun a b => ?_
  rw [mem_madeI]
  constructor
  · rintro ⟨x, y, h1, h2, rfl, rfl⟩
    have e := (mem_tab wf).mp h1
    unfold mul
    rw [e]
    cases hg : g y with
    | none => rw [hg] at h2; cases h2
    | some z => show g y = _; rw [hg]; rfl
  · intro h
    unfold mul at h
    cases e : f a with
    | none => rw [e] at h; cases h
    | some y =>
      rw [e] at h
      have h' : g y = some b := h
      exact ⟨a, y, (mem_tab wf).mpr e, by rw [h']; rfl, rfl, by rw [h']; rfl⟩
theorem ok_mul (T : Txt K mg) : FnR P w K mg base CX0 6 T.f_Map__mul (spOp T.C_Map mul) := by
  refine T.A_Map__mul.ok sc_Map__mul (fun vs H Q E h => ?_) (fun cdv A outer s H vs Q E hr h => ?_)
  · obtain ⟨a, b, n, f, g, rfl, _⟩ := h
    rfl
  · obtain ⟨a, b, n, f, g, rfl, ha, hb, q⟩ := h
    have hu := hu_of hr
    refine ⟨_, pss_cons (ps_if (pt_not (pt_val (pe_callB call_isi (by rfl) T.n_isinstance (by decide +kernel) (pa_cons (pv 1) (pa_cons (pe_glob (v := .ref T.C_Map) rfl T.g_Map rfl) pa_nil))))) (pss_one ps_never) pss_nil)
      (pss_cons (ps_set (i := 2) sc_Map__mul.nd rfl (Or.inl rfl) (pe_callR (ok_common T) (hr.mono (by decide)) T.A_common_size.kp rfl T.g_common_size pass0 (pa_cons (pv 0) (pa_cons (pv 1) pa_nil))))
      (pss_cons (ps_set (i := 3) sc_Map__mul.nd rfl (Or.inr rfl) (pe_propR (pv 1) T.o_Map.cl T.P_Map_arrows (ok_arrows T) (hr.mono (by decide))))
      (pss_one (ps_ret (pe_makeR T.M_Map (ok_init T) hr rfl T.g_Map pass0 (pa_cons (pv 2) (pa_cons (pe_lock (pe_dc (own := [("source", 4), ("target", 5)]) (g := gTup K 2 (gCons (gName 4) (gCons (gName 5) gNil))) rfl sc_Map__mul.nd (pi_items (pe_fld (pv 0) rfl))
        (blkOk_by (own := [("source", 4), ("target", 5)]) (N := n_Map__mul) (sc := defScope s_Map__mul) (by decide +kernel))
        (fun _ _ _ _ _ => pg_tup rfl (pgs_cons (pg_name (i := 4) sc_Map__mul.nd rfl (Or.inl rfl)) (pgs_cons (pg_name (i := 5) sc_Map__mul.nd rfl (Or.inl rfl)) pgs_nil)))
        (fun _ _ _ _ _ => pts_one (pt_cmp (pc_din hu (pv 5) (pv 3)))) (fun _ _ _ _ _ => pv 4) (fun _ _ _ _ _ => pe_dget hu (pv 3) (pv 5) (fun _ _ => rfl)))) pa_nil))))))), ?_⟩
    obtain ⟨dx, D, h1, h2⟩ := id ha.ob
    obtain ⟨dy, gs, h3⟩ := at_map hb
    refine ⟨_, rfl, _, _, _, _, true, rfl, .own _, tyx_ins T.o_Map h3, T.self_Map, _, rfl, iteF ?_⟩
    refine ⟨_, rfl, _, rfl, a, b, n, f, g, rfl, ha, hb, ?_⟩
    refine ⟨_, rfl, b, dy, gs, rfl, h3, b, n, g, rfl, hb, fun p hp => ?_⟩
    refine ⟨_, rfl, ?_⟩
    have s1 : Same H (upd H p (.dK (kvI (tab n g)))) := Same.new hp
    have npD : D ≠ p := ne_of_none h2 hp
    refine dc_items (fun _ y => (g y).isSome) (fun x _ => x) (fun _ y => .int ((g y).getD 0)) (s1 _ _ h2) (fun H' R r o => ?_) (fun _ _ => rfl) ?_ ?_ ?_ ?_
    · refine ⟨_, rfl, a, _, dx, _, _, rfl, o _ _ (ne_of h1 h2 (by intro z; cases z)) (s1 _ _ h1), T.o_Map.cl, T.na_own_arrows_Map, flds_arrows _ _, r⟩
    · intro x y hxy H1 o
      have hl1 : H1 p = some (.dK (kvI (tab n g))) := o _ _ npD.symm upd_same
      refine ⟨fun R r => ?_, fun hc => ⟨fun R r => ⟨_, rfl, r⟩, fun R r => ?_⟩⟩
      · refine ⟨_, rfl, _, rfl, p, _, rfl, DGet.k (k := Sum.inl y) hl1, _, rfl, ?_⟩
        rw [valV_kvI, Option.isSome_map, lk_tab hb.wf]
        exact r
      · cases hv : g y with
        | none => rw [hv] at hc; cases hc
        | some z =>
          rw [hv] at r
          refine ⟨_, rfl, _, rfl, p, .int z, rfl, ?_, r⟩
          have := DGet.k (k := Sum.inl y) hl1
          rw [valV_kvI, lk_tab hb.wf, hv] at this
          exact this
    · rw [madeD_I, kvI_keys]
      exact nd_inl (nd_src (keys_tab n f))
    · have h9 := ha.hi
      exact small1000 (Nat.le_trans (tab_len n f) (by omega))
    · intro D2 H2 nD2 hD2 s2
      rw [madeD_I] at hD2
      have h9 := ha.hi
      refine mk_map hD2 (mul_di ha.wf hb.wf) (wf_mul ha.wf hb.wf) ha.lo ha.hi (Nat.le_trans (madeI_len ..) (Nat.le_trans (tab_len n f) (by omega))) fun r H3 nr s3 hm => ?_
      exact q r H3 ((s1.trans s2).free nr) ((s1.trans s2).trans s3) hm
end
end My
namespace My
open PySem L2 U StX PM
section
variable {P : Program} {w : World} {K : PySem.W.Frag} {mg : Str → Option Value} {base : Heap}
/-! ### is_part, <=, <, >= -/
/-! ### == -/
def eqB (n : Int) (f : PF) (n' : Int) (g : PF) : Bool := decide (n = n') && dEq (kvI (tab n f)) (kvI (tab n' g))
theorem eqB_self {n : Int} {f : PF} (w : WF n f) : eqB n f n f = true := by
  unfold eqB dEq
  rw [decide_eq_true rfl]
  simp only [Bool.true_and, beq_self_eq_true, List.all_eq_true, decide_eq_true_eq]
  intro p hp
  unfold kvI at hp
  obtain ⟨⟨x, y⟩, hq, rfl⟩ := List.mem_map.mp hp
  show valV (kvI (tab n f)) (Sum.inl x) = some (V.int y)
  rw [valV_kvI, lk_tab w, (mem_tab w).mp hq]
  rfl
end
end My
namespace My
open PySem L2 U StX PM
section
variable {P : Program} {w : World} {K : PySem.W.Frag} {mg : Str → Option Value} {base : Heap}
def spChk : Sp := fun vs H Q _ => ∃ n : Int, vs = [.int n] ∧ 1 ≤ n ∧ n ≤ 300 ∧ Q .non H
theorem ok_check_size (T : Txt K mg) : FnR P w K mg base CX0 3 T.f_check_size spChk := by
  refine T.A_check_size.ok sc_check_size (fun vs H Q E h => ?_) (fun cdv A outer s H vs Q E hr h => ?_)
  · obtain ⟨n, rfl, _⟩ := h
    rfl
  · obtain ⟨n, rfl, h1, h3, q⟩ := h
    obtain ⟨tk, hms⟩ := T.v_MAX_SIZE
    refine ⟨_, pss_one (ps_if (pt_not (pt_val (pe_callR (ok_in_range T) hr T.A_in_range.kp rfl T.g_in_range pass0 (pa_cons (pv 0) (pa_cons pe_int (pa_cons (pe_glob (v := .int 300) rfl hms ⟨_, rfl⟩) pa_nil)))))) (pss_one ps_never) pss_nil), ?_⟩
    refine ⟨_, rfl, .int n, 1, 300, rfl, trivial, _, rfl, ?_⟩
    have e1 : inR (.int n) 1 300 = true := by simp [inR, h1, h3]
    rw [e1]
    exact iteF q
theorem di_id (N : Nat) : DI ((List.range N).map fun (i : Nat) => ((i : Int), (i : Int))) (idn (N : Int)) := by
  refine di_of ?_ fun a b => ?_
  · rw [List.map_map]
    have : ∀ n : Nat, ((List.range n).map ((fun p : Int × Int => p.1) ∘ fun (i : Nat) => ((i : Int), (i : Int)))).Nodup := by
      intro n
      induction n with
      | zero => exact List.nodup_nil
      | succ n ih =>
        rw [List.range_succ, List.map_append, List.nodup_append]
        refine ⟨ih, by simp, fun a ha b hb e => ?_⟩
        obtain ⟨i, hi, rfl⟩ := List.mem_map.mp ha
        rw [List.mem_range] at hi
        simp at hb
        have e' : (i : Int) = b := e
        omega
    exact this N
  · rw [List.mem_map]
    unfold idn
    constructor
    · rintro ⟨i, hi, e⟩
      rw [List.mem_range] at hi
      cases e
      rw [if_pos ⟨by omega, by omega⟩]
    · intro h
      split at h
      · rename_i hc
        cases h
        exact ⟨a.toNat, List.mem_range.mpr (by omega), by rw [Int.toNat_of_nonneg hc.1]⟩
      · cases h
theorem madeR_id (N : Nat) : madeR (fun _ => true) (fun x => x) (fun k => .int k) N = kvI ((List.range N).map fun (i : Nat) => ((i : Int), (i : Int))) := by
  unfold madeR kvI
  rw [List.map_map]
  congr 1
  exact List.filter_eq_self.mpr fun _ _ => rfl
def spNew (C : Addr) (op : Int → PF) : Sp := fun vs H Q _ => ∃ n : Int, vs = [.ref C, .int n] ∧ 1 ≤ n ∧ n ≤ 300 ∧ ∀ r H', H r = none → Same H H' → IsMap C H' r n (op n) → Q (.ref r) H'
theorem ok_identity (T : Txt K mg) : FnR P w K mg base CX0 6 T.f_Map_identity (spNew T.C_Map idn) := by
  refine T.A_Map_identity.ok sc_Map_identity (fun vs H Q E h => ?_) (fun cdv A outer s H vs Q E hr h => ?_)
  · obtain ⟨n, rfl, _⟩ := h
    rfl
  · obtain ⟨n, rfl, h1, h3, q⟩ := h
    refine ⟨_, pss_cons (ps_expr (pe_callR (ok_check_size T) (hr.mono (by decide)) T.A_check_size.kp rfl T.g_check_size pass0 (pa_cons (pv 1) pa_nil)))
      (pss_one (ps_ret (pe_makeL (i := 0) T.M_Map (ok_init T) hr rfl (Or.inl rfl) pass0 (pa_cons (pv 1) (pa_cons (pe_dc (own := [("element", 2)]) (g := gName 2) (tt := tYes) rfl sc_Map_identity.nd (pi_range1 rfl T.n_range (pa_cons (pv 1) pa_nil)) (blkOk_by (own := [("element", 2)]) (N := n_Map_identity) (sc := defScope s_Map_identity) (by decide +kernel))
        (fun _ _ _ _ _ => pg_name (i := 2) sc_Map_identity.nd rfl (Or.inl rfl)) (fun _ _ _ _ _ => pts_nil) (fun _ _ _ _ _ => pv 2) (fun _ _ _ _ _ => pv 2)) pa_nil))))), ?_⟩
    refine ⟨_, rfl, n, rfl, h1, h3, rfl, _, rfl, ?_⟩
    refine dc_range (n := n.toNat) (fun _ => true) (fun k => .int k) (fun R r => ⟨_, rfl, n, rfl, by omega, by omega, r⟩) (fun _ => rfl) ?_ (small1000 (by omega)) ?_
    · intro k hk H1 s1
      refine ⟨fun R r => r, fun _ => ⟨fun R r => ⟨_, rfl, ?_⟩, fun R r => ⟨_, rfl, ?_⟩⟩⟩
      · rw [Int.zero_add]; exact r
      · rw [Int.zero_add]; exact r
    · intro D H1 nD hD s1
      rw [madeR_id] at hD
      have e : ((n.toNat : Nat) : Int) = n := Int.toNat_of_nonneg (by omega)
      have di := di_id n.toNat
      rw [e] at di
      refine mk_map hD di (wf_idn n) h1 h3 (by simp; omega) fun r H3 nr s3 hm => ?_
      exact q r H3 (s1.free nr) (s1.trans s3) hm
theorem di_nil : DI [] emp := ⟨List.nodup_nil, fun _ => rfl⟩
theorem ok_empty (T : Txt K mg) : FnR P w K mg base CX0 6 T.f_Map_empty (spNew T.C_Map fun _ => emp) := by
  refine T.A_Map_empty.ok sc_Map_empty (fun vs H Q E h => ?_) (fun cdv A outer s H vs Q E hr h => ?_)
  · obtain ⟨n, rfl, _⟩ := h
    rfl
  · obtain ⟨n, rfl, h1, h3, q⟩ := h
    refine ⟨_, pss_cons (ps_expr (pe_callR (ok_check_size T) (hr.mono (by decide)) T.A_check_size.kp rfl T.g_check_size pass0 (pa_cons (pv 1) pa_nil)))
      (pss_one (ps_ret (pe_makeL (i := 0) T.M_Map (ok_init T) hr rfl (Or.inl rfl) pass0 (pa_cons (pv 1) (pa_cons pe_dnewK pa_nil))))), ?_⟩
    refine ⟨_, rfl, n, rfl, h1, h3, rfl, _, rfl, fun p hp => ?_⟩
    have s1 : Same H (upd H p (.dK [])) := Same.new hp
    refine mk_map (l := []) upd_same di_nil (wf_emp n) h1 h3 (by simp) fun r H3 nr s3 hm => ?_
    exact q r H3 (s1.free nr) (s1.trans s3) hm
/-! ### first_clash where there is none, | -/
def NoClash (l r : List (Int × Int)) : Prop := ∀ p ∈ l, ∀ q ∈ r, (decide (p.1 = q.1)) = (decide (p.2 = q.2))
def spClash0 : Sp := fun vs H Q _ => ∃ d e l r, vs = [.ref d, .ref e] ∧ H d = some (.dK (kvI l)) ∧ H e = some (.dK (kvI r)) ∧ d ≠ e ∧ NoClash l r ∧ ∀ H', Same H H' → Q .non H'
theorem ok_first_clash (T : Txt K mg) : FnR P w K mg base CX0 1 T.f_first_clash spClash0 := by
  refine T.A_first_clash.ok sc_first_clash (fun vs H Q E h => ?_) (fun cdv A outer s H vs Q E hr h => ?_)
  · obtain ⟨d, e, l, r, rfl, _⟩ := h
    rfl
  · obtain ⟨d, e, l, r, rfl, hd, he, ne, nc, q⟩ := h
    refine ⟨_, pss_cons (ps_lock (ps_for PassesOwn.never rfl (pi_items (pv 0)) (pg_tup rfl (pgs_cons (pg_name (i := 2) sc_first_clash.nd rfl (Or.inl rfl)) (pgs_cons (pg_name (i := 3) sc_first_clash.nd rfl (Or.inl rfl)) pgs_nil)))
        (pss_one (ps_lock (ps_for PassesOwn.never rfl (pi_items (pv 1)) (pg_tup rfl (pgs_cons (pg_name (i := 4) sc_first_clash.nd rfl (Or.inl rfl)) (pgs_cons (pg_name (i := 5) sc_first_clash.nd rfl (Or.inl rfl)) pgs_nil)))
          (pss_one (ps_if (pt_cmpR op_ne (pe_cmpR op_eq (pv 2) (pv 4) (nomark _)) (pe_cmpR op_eq (pv 3) (pv 5) (nomark _)) (nomark _)) (pss_one ps_never) pss_nil)))))))
      (pss_one (ps_ret pe_non)), ?_⟩
    refine ⟨d, _, hd, trivial, fun od => ⟨_, rfl, d, od, kvI l, rfl, upd_same, ?_⟩⟩
    refine for_it walk_items (fun i σ H' => ∃ v2 v3 v4 v5, σ = [some (.ref d), some (.ref e), v2, v3, v4, v5] ∧ H' d = some (.frz od (.dK (kvI l))) ∧ Off d H H')
      ⟨none, none, none, none, rfl, upd_same, Off.lock⟩ (fun i σ H' _ ⟨_, _, _, _, _, p, _⟩ => p) ?_ ?_
    · rintro i v σ H' H'' hi ⟨v2, v3, v4, v5, rfl, p1, p2⟩ ⟨U, a, b, rfl, hU, rfl, e1, e2⟩
      rw [kvI_length] at hi
      obtain ⟨⟨x, y⟩, exy⟩ : ∃ p, l[i]? = some p := ⟨_, List.getElem?_eq_getElem hi⟩
      have ek : (kvI l)[i]? = some (Sum.inl x, V.int y) := by unfold kvI; rw [List.getElem?_map, exy]; rfl
      dsimp only at e1 e2
      rw [ek] at e1 e2
      cases e1; cases e2
      refine ⟨U, [.int x, .int y], rfl, SqT.of upd_same, rfl, .int x, [.int y], rfl, .int y, [], rfl, rfl, ?_⟩
      have o2 : Off d H (upd H' U (.tup [.int x, .int y])) := p2.tr (Off.new hU)
      have d2 : (upd H' U (.tup [.int x, .int y])) d = some (.frz od (.dK (kvI l))) := by rw [upd_ne (ne_of_none p1 hU)]; exact p1
      have he2 := o2 _ _ ne.symm he
      refine ⟨e, _, he2, trivial, fun oe => ⟨_, rfl, e, oe, kvI r, rfl, upd_same, ?_⟩⟩
      refine for_it walk_items (fun j σ H3 => ∃ v4 v5, σ = [some (.ref d), some (.ref e), some (.int x), some (.int y), v4, v5] ∧ H3 e = some (.frz oe (.dK (kvI r))) ∧ Off e (upd H' U (.tup [.int x, .int y])) H3)
        ⟨v4, v5, rfl, upd_same, Off.lock⟩ (fun j σ H3 _ ⟨_, _, _, p, _⟩ => p) ?_ ?_
      · rintro j v σ H3 H4 hj ⟨w4, w5, rfl, q1, q2⟩ ⟨W, a, b, rfl, hW, rfl, g1, g2⟩
        rw [kvI_length] at hj
        obtain ⟨⟨x', y'⟩, exy'⟩ : ∃ p, r[j]? = some p := ⟨_, List.getElem?_eq_getElem hj⟩
        have ek' : (kvI r)[j]? = some (Sum.inl x', V.int y') := by unfold kvI; rw [List.getElem?_map, exy']; rfl
        dsimp only at g1 g2
        rw [ek'] at g1 g2
        cases g1; cases g2
        refine ⟨W, [.int x', .int y'], rfl, SqT.of upd_same, rfl, .int x', [.int y'], rfl, .int y', [], rfl, rfl, ?_⟩
        refine ⟨_, rfl, _, rfl, rfl, _, rfl, _, rfl, rfl, rfl, _, rfl, ?_⟩
        have c0 := nc _ (List.mem_of_getElem? exy) _ (List.mem_of_getElem? exy')
        dsimp only at c0
        have c1 : decide (V.int x = V.int x') = decide (x = x') := by
          by_cases h : x = x'
          · subst h; simp
          · have : ¬ V.int x = V.int x' := fun z => h (V.int.inj z)
            simp [h]
        have c2 : decide (V.int y = V.int y') = decide (y = y') := by
          by_cases h : y = y'
          · subst h; simp
          · have : ¬ V.int y = V.int y' := fun z => h (V.int.inj z)
            simp [h]
        rw [c1, c2, c0]
        refine iteNS rfl ?_
        refine ⟨_, _, rfl, ?_, q2.tr (Off.new hW)⟩
        rw [upd_ne (ne_of_none q1 hW)]
        exact q1
      · rintro σ H3 ⟨w4, w5, rfl, q1, q2⟩
        refine ⟨q1, _, _, _, _, rfl, ?_, ?_⟩
        · rw [upd_ne ne]
          exact q2 _ _ ne d2
        · intro c o hc ec
          exact q2.back he2 _ _ (o2 _ _ hc ec)
    · rintro σ H' ⟨v2, v3, v4, v5, rfl, p1, p2⟩
      exact ⟨p1, q _ (p2.back hd)⟩
theorem merge_lk : ∀ (r l : List (Int × Int)), (r.map (·.1)).Nodup → ∃ l', mergeK (kvI l) (kvI r) = kvI l' ∧ l'.length ≤ l.length + r.length ∧ ((l.map (·.1)).Nodup → (l'.map (·.1)).Nodup) ∧ ∀ z, lk l' z = (lk r z).or (lk l z)
  | [], l, _ => ⟨l, rfl, by simp, fun h => h, fun z => rfl⟩
  | (x, y) :: r, l, nd => by
    rw [List.map_cons, List.nodup_cons] at nd
    obtain ⟨l1, e1, n1, d1, k1⟩ := putK_lk (l := l) (x := x) (y := y)
    obtain ⟨l2, e2, n2, d2, k2⟩ := merge_lk r l1 nd.2
    refine ⟨l2, ?_, by simp; omega, fun h => d2 (d1 h), fun z => ?_⟩
    · show mergeK (putK (kvI l) (Sum.inl x) (V.int y)) (kvI r) = _
      rw [e1, e2]
    · rw [k2, k1, lk_cons]
      by_cases h : z = x
      · subst h
        rw [if_pos rfl, if_pos rfl, lk_none nd.1]
        rfl
      · have h' : ¬ x = z := fun q => h q.symm
        rw [if_neg h, if_neg h']
theorem ok_or (T : Txt K mg) : FnR P w K mg base CX0 6 T.f_Map__or (fun vs H Q E => ∃ a b n f g, vs = [.ref a, .ref b] ∧ IsMap T.C_Map H a n f ∧ IsMap T.C_Map H b n g ∧ ¬ PM.Clash f g ∧ ∀ r H', H r = none → Same H H' → IsMap T.C_Map H' r n (orf f g) → Q (.ref r) H') := by
  refine T.A_Map__or.ok sc_Map__or (fun vs H Q E h => ?_) (fun cdv A outer s H vs Q E hr h => ?_)
  · obtain ⟨a, b, n, f, g, rfl, _⟩ := h
    rfl
  · obtain ⟨a, b, n, f, g, rfl, ha, hb, nc, q⟩ := h
    obtain ⟨dx, D, h1, h2⟩ := id ha.ob
    obtain ⟨dy, gs, h3⟩ := at_map hb
    have h9 := ha.hi
    refine ⟨_, pss_cons (ps_if (pt_not (pt_val (pe_callB call_isi (by rfl) T.n_isinstance (by decide +kernel) (pa_cons (pv 1) (pa_cons (pe_glob (v := .ref T.C_Map) rfl T.g_Map rfl) pa_nil))))) (pss_one ps_never) pss_nil)
      (pss_cons (ps_set (i := 2) sc_Map__or.nd rfl (Or.inl rfl) (pe_callR (ok_common T) (hr.mono (by decide)) T.A_common_size.kp rfl T.g_common_size pass0 (pa_cons (pv 0) (pa_cons (pv 1) pa_nil))))
      (pss_cons (ps_set (i := 3) sc_Map__or.nd rfl (Or.inl rfl) (pe_callR (ok_first_clash T) (hr.mono (by decide)) T.A_first_clash.kp rfl T.g_first_clash pass0 (pa_cons (pe_fld (pv 0) rfl) (pa_cons (pe_propR (pv 1) T.o_Map.cl T.P_Map_arrows (ok_arrows T) (hr.mono (by decide))) pa_nil))))
      (pss_cons (ps_if (pt_cmpR op_notN (pv 3) pe_non (nomark _)) (pss_one ps_never) pss_nil)
      (pss_one (ps_ret (pe_makeR T.M_Map (ok_init T) hr rfl T.g_Map pass0 (pa_cons (pv 2) (pa_cons (pe_op op_orD (pe_fld (pv 0) rfl) (pe_propR (pv 1) T.o_Map.cl T.P_Map_arrows (ok_arrows T) (hr.mono (by decide)))) pa_nil)))))))), ?_⟩
    refine ⟨_, rfl, _, _, _, _, true, rfl, .own _, tyx_ins T.o_Map h3, T.self_Map, _, rfl, iteF ?_⟩
    refine ⟨_, rfl, _, rfl, a, b, n, f, g, rfl, ha, hb, ?_⟩
    refine ⟨_, rfl, a, _, dx, _, _, rfl, h1, T.o_Map.cl, T.na_own_arrows_Map, flds_arrows _ _, _, rfl, b, dy, _, rfl, h3, b, n, g, rfl, hb, fun p hp => ?_⟩
    have s1 : Same H (upd H p (.dK (kvI (tab n g)))) := Same.new hp
    have ncl : NoClash (tab n f) (tab n g) := by
      rintro ⟨x, y⟩ hx ⟨x', y'⟩ hy
      have e1 := (mem_tab ha.wf).mp hx
      have e2 := (mem_tab hb.wf).mp hy
      have : (x = x') ↔ (y = y') := Classical.byContradiction fun h => nc ⟨x, y, x', y', e1, e2, h⟩
      exact decide_eq_decide.mpr this
    refine ⟨D, p, _, _, rfl, s1 _ _ h2, upd_same, ne_of_none h2 hp, ncl, fun H2 s2 => ?_⟩
    have s3 := s1.trans s2
    refine ⟨_, rfl, rfl, _, rfl, ?_⟩
    refine iteF ⟨_, rfl, ?_⟩
    refine ⟨_, rfl, a, _, dx, _, _, rfl, s3 _ _ h1, T.o_Map.cl, T.na_own_arrows_Map, flds_arrows _ _, _, rfl, b, dy, _, rfl, s3 _ _ h3, b, n, g, rfl, hb.same s3, fun p2 hp2 => ?_⟩
    have s4 := s3.trans (Same.new (o := .dK (kvI (tab n g))) hp2)
    have lf := tab_len n f
    have lg := tab_len n g
    refine ⟨D, p2, _, _, rfl, rfl, s4 _ _ h2, upd_same, ?_, fun p5 hp5 => ?_⟩
    · rw [kvI_length, kvI_length]
      exact Nat.le_trans (by omega : _ ≤ 1000) (by decide)
    obtain ⟨l', e', n', d', k'⟩ := merge_lk (tab n g) (tab n f) (keys_tab n g)
    rw [e']
    have di : DI l' (orf f g) := by
      refine ⟨d' (keys_tab n f), fun z => ?_⟩
      rw [k', lk_tab ha.wf, lk_tab hb.wf]
      unfold orf
      cases e1 : f z with
      | none => cases g z <;> rfl
      | some y =>
        cases e2 : g z with
        | none => rfl
        | some y' =>
          have : y = y' := Classical.byContradiction fun h => nc ⟨z, y, z, y', e1, e2, fun i => h (i.mp rfl)⟩
          subst this
          rfl
    refine mk_map upd_same di (wf_or ha.wf hb.wf nc) ha.lo ha.hi (by omega) fun r H5 nr s5 hm => ?_
    have s6 := s4.trans (Same.new (o := .dK (kvI l')) hp5)
    exact q r H5 (s6.free nr) (s6.trans s5) hm
end
end My
namespace My
open PySem L2 U StX PM
/-! ### comprehensions over values and keys -/
/-! ### seen and found -/
def kvB (sl : List Int) : List (Key × V) := sl.map fun x => (Sum.inl x, V.bl true)
theorem kvB_key {sl : List Int} {x : Int} : (Sum.inl x : Key) ∈ (kvB sl).map (·.1) ↔ x ∈ sl := by
  unfold kvB
  rw [List.map_map]
  constructor
  · intro h
    obtain ⟨p, hp, e⟩ := List.mem_map.mp h
    cases Sum.inl.inj e
    exact hp
  · intro h
    exact List.mem_map.mpr ⟨x, h, rfl⟩
theorem kvB_val (sl : List Int) (x : Int) : (valV (kvB sl) (Sum.inl x : Key)).isSome = decide (x ∈ sl) := by
  by_cases h : x ∈ sl
  · rw [decide_eq_true h, ← valV_any, List.any_eq_true]
    exact ⟨(Sum.inl x, V.bl true), List.mem_map.mpr ⟨x, h, rfl⟩, by simp⟩
  · rw [decide_eq_false h, valV_none fun z => h (kvB_key.mp z)]
    rfl
theorem kvB_put (sl : List Int) (x : Int) : ∃ sl', putK (kvB sl) (Sum.inl x : Key) (V.bl true) = kvB sl' ∧ (∀ z, z ∈ sl' ↔ z ∈ sl ∨ z = x) ∧ (sl.Nodup → sl'.Nodup) := by
  by_cases h : x ∈ sl
  · refine ⟨sl, ?_, fun z => ⟨.inl, fun hz => ?_⟩, id⟩
    · unfold putK
      have e : ((kvB sl).any fun kv => decide (kv.1 = (Sum.inl x : Key))) = true := by
        rw [valV_any, kvB_val, decide_eq_true h]
      rw [if_pos e]
      unfold kvB
      rw [List.map_map]
      refine List.map_congr_left fun a _ => ?_
      show (if (Sum.inl a : Key) = Sum.inl x then ((Sum.inl a : Key), V.bl true) else (Sum.inl a, V.bl true)) = _
      split <;> rfl
    · rcases hz with hz | rfl
      · exact hz
      · exact h
  · refine ⟨sl ++ [x], ?_, fun z => by simp, fun nd => ?_⟩
    · rw [putK_new _ (valV_none fun z => h (kvB_key.mp z))]
      unfold kvB
      rw [List.map_append]
      rfl
    · rw [List.nodup_append]
      refine ⟨nd, by simp, fun a ha b hb e => ?_⟩
      simp at hb
      subst hb
      exact h (e ▸ ha)
structure Fnd (n : Int) (f : PF) (k : Nat) (fl : List (Int × Int)) (sl : List Int) : Prop where
  nd : (fl.map (·.1)).Nodup
  at_ : ∀ x, lk fl x = if x ∈ sl then iter f k x else none
  sn : sl.Nodup
  dm : ∀ x ∈ sl, 0 ≤ x ∧ x < n
theorem Fnd.len {n : Int} {f : PF} {k : Nat} {fl : List (Int × Int)} {sl : List Int} (h : Fnd n f k fl sl) : fl.length ≤ n.toNat := by
  have := len_range (n := n) h.nd (fun x hx => by
    obtain ⟨⟨a, b⟩, hp, rfl⟩ := List.mem_map.mp hx
    have e := lk_some h.nd hp
    rw [h.at_] at e
    by_cases hm : a ∈ sl
    · exact h.dm _ hm
    · rw [if_neg hm] at e; cases e)
  rw [List.length_map] at this
  exact this
theorem Fnd.put {n : Int} {f : PF} {k : Nat} {fl fl' : List (Int × Int)} {sl sl' : List Int} {x y : Int} (h : Fnd n f k fl sl) (h1 : ∀ z, z ∈ sl' ↔ z ∈ sl ∨ z = x) (h2 : sl.Nodup → sl'.Nodup) (hx : 0 ≤ x ∧ x < n)
    (e : iter f k x = some y) (n1 : (fl.map (·.1)).Nodup → (fl'.map (·.1)).Nodup) (a1 : ∀ z, lk fl' z = if z = x then some y else lk fl z) : Fnd n f k fl' sl' := by
  refine ⟨n1 h.nd, fun z => ?_, h2 h.sn, fun z hz => ?_⟩
  · rw [a1]
    by_cases hz : z = x
    · subst hz
      rw [if_pos rfl, if_pos ((h1 z).mpr (.inr rfl)), e]
    · rw [if_neg hz, h.at_]
      by_cases hs : z ∈ sl
      · rw [if_pos hs, if_pos ((h1 z).mpr (.inl hs))]
      · rw [if_neg hs, if_neg fun q => ((h1 z).mp q).elim hs hz]
  · rcases (h1 z).mp hz with q | rfl
    · exact h.dm z q
    · exact hx
end My
namespace My
open PySem L2 U StX PM
section
variable {P : Program} {w : World} {K : PySem.W.Frag} {mg : Str → Option Value} {base : Heap}
theorem get_map {xs : List Int} {i : Nat} {a : Int} (h : xs[i]? = some a) : (xs.map V.int)[i]? = some (V.int a) := by
  rw [List.getElem?_map, h]; rfl
theorem Same.put {H H' : Hp} {p : Addr} {o : HO} (s : Same H H') (h : H p = none) : Same H (upd H' p o) := fun b u e => by rw [upd_ne (ne_of_none e h)]; exact s b u e
end
end My
namespace My
open PySem L2 U StX PM
/-! ### f.power(e) -/
def pw (n : Int) (f : PF) (e : Int) : PF := if e = 0 then idn n else if e < 0 then iter (inv n f) e.natAbs else iter f e.natAbs
end My
namespace My
open PySem L2 U StX PM
/-! ### a drawn map -/
structure Drw (n : Int) (i : Nat) (l : List (Int × Int)) (ns : List Int) : Prop where
  kn : (l.map (·.1)).Nodup
  vn : (l.map (·.2)).Nodup
  nn : ns.Nodup
  lt : ∀ p ∈ l, 0 ≤ p.1 ∧ p.1 < i ∧ 0 ≤ p.2 ∧ p.2 < n
  nt : ∀ y ∈ ns, 0 ≤ y ∧ y < n ∧ y ∉ l.map (·.2)
  ln : l.length ≤ i
  le : l.length + ns.length = n.toNat
theorem Drw.more {n : Int} {i : Nat} {l : List (Int × Int)} {ns : List Int} (h : Drw n i l ns) : Drw n (i + 1) l ns := by
  refine ⟨h.kn, h.vn, h.nn, fun p hp => ?_, h.nt, Nat.le_succ_of_le h.ln, h.le⟩
  have := h.lt p hp
  omega
theorem not_erase {ns : List Int} {k : Nat} {y : Int} (nd : ns.Nodup) (h : ns[k]? = some y) : y ∉ ns.eraseIdx k := by
  obtain ⟨hk, e⟩ := List.getElem?_eq_some_iff.mp h
  have e1 : ns = ns.take k ++ y :: ns.drop (k + 1) := by
    rw [← e]
    simp
  rw [List.eraseIdx_eq_take_drop_succ]
  intro hm
  rw [e1, List.nodup_append, List.nodup_cons] at nd
  rcases List.mem_append.mp hm with h1 | h1
  · exact nd.2.2 y h1 y List.mem_cons_self rfl
  · exact nd.2.1.1 h1
theorem Drw.put {n : Int} {i : Nat} {l : List (Int × Int)} {ns : List Int} (h : Drw n i l ns) {k : Nat} {y : Int} (hy : ns[k]? = some y) : Drw n (i + 1) (l ++ [((i : Int), y)]) (ns.eraseIdx k) ∧ (i : Int) ∉ l.map (·.1) := by
  have hm := h.nt y (List.mem_of_getElem? hy)
  have hi : (i : Int) ∉ l.map (·.1) := by
    intro hm
    obtain ⟨p, hp, e⟩ := List.mem_map.mp hm
    have := h.lt p hp
    omega
  obtain ⟨hk, _⟩ := List.getElem?_eq_some_iff.mp hy
  refine ⟨⟨?_, ?_, ?_, ?_, ?_, ?_, ?_⟩, hi⟩
  · rw [List.map_append, List.nodup_append]
    refine ⟨h.kn, by simp, fun a ha b hb e => ?_⟩
    simp at hb
    subst hb
    exact hi (e ▸ ha)
  · rw [List.map_append, List.nodup_append]
    refine ⟨h.vn, by simp, fun a ha b hb e => ?_⟩
    simp at hb
    subst hb
    exact hm.2.2 (e ▸ ha)
  · exact List.Sublist.nodup (List.eraseIdx_sublist _ _) h.nn
  · intro p hp
    rcases List.mem_append.mp hp with hp | hp
    · have := h.lt p hp
      omega
    · simp at hp
      subst hp
      dsimp only
      omega
  · intro z hz
    have h1 := h.nt z (List.mem_of_mem_eraseIdx hz)
    refine ⟨h1.1, h1.2.1, fun hq => ?_⟩
    rw [List.map_append] at hq
    rcases List.mem_append.mp hq with hq | hq
    · exact h1.2.2 hq
    · simp at hq
      subst hq
      exact not_erase h.nn hy hz
  · have := h.ln
    simp
    omega
  · have := h.le
    rw [List.length_append, List.length_singleton, List.length_eraseIdx, if_pos hk]
    omega
theorem two_in {l : List (Int × Int)} (vn : (l.map (·.2)).Nodup) : ∀ {x x' y : Int}, (x, y) ∈ l → (x', y) ∈ l → x = x' := by
  induction l with
  | nil => intro _ _ _ h; cases h
  | cons p r ih =>
    intro x x' y h1 h2
    rw [List.map_cons, List.nodup_cons] at vn
    rcases List.mem_cons.mp h1 with e1 | e1 <;> rcases List.mem_cons.mp h2 with e2 | e2
    · subst e1; cases e2; rfl
    · subst e1; exact absurd (List.mem_map.mpr ⟨(x', y), e2, rfl⟩) vn.1
    · subst e2; exact absurd (List.mem_map.mpr ⟨(x, y), e1, rfl⟩) vn.1
    · exact ih vn.2 e1 e2
theorem Drw.wf {n : Int} {l : List (Int × Int)} {ns : List Int} (h0 : 0 ≤ n) (h : Drw n n.toNat l ns) : WF n (lk l) := by
  refine ⟨fun x y e => ?_, fun x x' y e e' => two_in h.vn (lk_mem e) (lk_mem e')⟩
  have := h.lt _ (lk_mem e)
  dsimp only at this
  omega
theorem rg0 (n : Int) : rgV 0 n = ((List.range n.toNat).map fun (i : Nat) => (i : Int)).map V.int := by
  unfold rgV
  rw [List.map_map, show (n - 0).toNat = n.toNat by omega]
  refine List.map_congr_left fun a _ => ?_
  show V.int (0 + (a : Int)) = V.int (a : Int)
  rw [Int.zero_add]
theorem drw0 (n : Int) : Drw n 0 [] ((List.range n.toNat).map fun (i : Nat) => (i : Int)) := by
  refine ⟨List.nodup_nil, List.nodup_nil, ?_, fun p h => (nomatch h), fun y hy => ?_, Nat.le_refl _, by simp⟩
  · have := (di_id n.toNat).nd
    rw [List.map_map] at this
    exact this
  · obtain ⟨i, hi, rfl⟩ := List.mem_map.mp hy
    rw [List.mem_range] at hi
    exact ⟨by omega, by omega, by simp⟩
section
variable {P : Program} {w : World} {K : PySem.W.Frag} {mg : Str → Option Value} {base : Heap}
def PoolAt (H : Hp) (p : Addr) : Prop := ∃ a b : Int, H p = some (.lst [.int a, .int b]) ∧ 0 ≤ a ∧ 0 ≤ b ∧ b < 2147483647
theorem Off.put {p q : Addr} {H H' : Hp} {o : HO} (a : Off p H H') (h : H q = none) : Off p H (upd H' q o) := a.mut h
theorem Off.at {p : Addr} {H H' : Hp} {o : HO} (a : Off p H H') : Off p H (upd H' p o) := fun b u hb e => by rw [upd_ne hb]; exact a b u hb e
end
end My
namespace My
open PySem L2 U StX PM
/-! ### values that are no maps; check_map -/
def nonMapV (H : Hp) : V → Prop
  | .non => True | .bl _ => True | .int _ => True | .str _ => True
  | .ref a => (∃ xs, H a = some (.lst xs)) ∨ (∃ xs, H a = some (.tup xs)) ∨ (∃ kvs, H a = some (.dK kvs))
  | _ => False
def spChkM (C CE : Addr) : Sp := fun vs H Q E => ∃ x, vs = [x] ∧ ((∃ a n f, x = .ref a ∧ IsMap C H a n f ∧ Q .non H) ∨ (nonMapV H x ∧ ∀ d, H d = none → E (.ref CE) (some d) (upd H d (.xd [("part", .str "map")]))))
section
variable {P : Program} {w : World} {K : PySem.W.Frag} {mg : Str → Option Value} {base : Heap}
theorem ok_ini_InvalidMap (T : Txt K mg) : FnR P w K mg base CX0 1 T.f_InvalidMap__init (spIni1 T.C_InvalidMap "part") := by
  refine T.A_InvalidMap__init.ok sc_InvalidMap__init (fun vs H Q E h => ?_) (fun cdv A outer s H vs Q E hr h => ?_)
  · obtain ⟨a, v, rfl, _⟩ := h
    rfl
  · obtain ⟨a, v, rfl, ha, q⟩ := h
    refine ⟨_, pss_one (ps_ostG (pv 0) (pv 1)), ?_⟩
    exact ⟨_, rfl, _, rfl, a, T.C_InvalidMap, rfl, T.x_InvalidMap, T.na_part_InvalidMap, .inl ⟨ha, fun dx h1 h2 => q dx h1 h2⟩⟩
theorem ty_nonmap (T : Txt K mg) {H : Hp} {x : V} (h : nonMapV H x) : ∃ t, TyX K H x t ∧ PySem.W.kitOne K t (.ref T.C_Map) = some false := by
  cases x with
  | non => exact ⟨_, .base .non, T.kn_NoneType_Map⟩
  | bl b => exact ⟨_, .base (.bl b), T.kn_bool_Map⟩
  | int i => exact ⟨_, .base (.int i), T.kn_int_Map⟩
  | str z => exact ⟨_, .base (.str z), T.kn_str_Map⟩
  | ref a =>
    rcases h with ⟨xs, e⟩ | ⟨xs, e⟩ | ⟨xs, e⟩
    · exact ⟨_, .base (.lst e), T.kn_list_Map⟩
    · exact ⟨_, .base (.tup e), T.kn_tuple_Map⟩
    · exact ⟨_, .base (.dK e), T.kn_dict_Map⟩
  | byt b => exact h.elim
  | flt b => exact h.elim
  | ty b => exact h.elim
theorem ok_check_map (T : Txt K mg) : FnR P w K mg base (L2.CX P w) 3 T.f_check_map (spChkM T.C_Map T.C_InvalidMap) := by
  refine T.A_check_map.okX sc_check_map (fun vs H Q E h => ?_) (fun cdv A outer s H vs Q E hr h => ?_)
  · obtain ⟨x, rfl, _⟩ := h
    rfl
  · obtain ⟨x, rfl, hx⟩ := h
    refine ⟨_, pss_one (ps_if (pt_not (pt_val (pe_callB call_isi (by rfl) T.n_isinstance (by decide +kernel) (pa_cons (pv 0) (pa_cons (pe_glob (v := .ref T.C_Map) rfl T.g_Map rfl) pa_nil)))))
      (pss_one (ps_raise rfl (takes_of rfl rfl rfl rfl) (pmk_oexG T.x_InvalidMap T.m_InvalidMap__init T.ti_InvalidMap__init (ok_ini_InvalidMap T) (hr.mono (by decide)) pass0 rfl T.g_InvalidMap (pa_cons pe_str pa_nil)))) pss_nil), ?_⟩
    rcases hx with ⟨a, n, f, rfl, hm, q⟩ | ⟨hx, q⟩
    · obtain ⟨dx, fs, h1⟩ := at_map hm
      exact ⟨_, rfl, _, _, _, _, true, rfl, .own _, tyx_ins T.o_Map h1, T.self_Map, _, rfl, iteF q⟩
    · obtain ⟨t, ht, hk⟩ := ty_nonmap T hx
      exact ⟨_, rfl, _, _, _, _, false, rfl, .own _, ht, hk, _, rfl, iteT (mk_one fun d hd => q d hd)⟩
end
/-! ### lists of rows -/
def RowsAt (H : Hp) : List Addr → List (List Int) → Prop
  | [], [] => True
  | a :: as, r :: rs => H a = some (.lst (r.map V.int)) ∧ RowsAt H as rs
  | _, _ => False
theorem RowsAt.len {H : Hp} : ∀ {as : List Addr} {rs : List (List Int)}, RowsAt H as rs → as.length = rs.length
  | [], [], _ => rfl
  | _ :: as, _ :: rs, h => by rw [List.length_cons, List.length_cons, RowsAt.len h.2]
  | [], _ :: _, h => h.elim
  | _ :: _, [], h => h.elim
theorem RowsAt.map {H H' : Hp} : ∀ {as : List Addr} {rs : List (List Int)}, RowsAt H as rs → (∀ a ∈ as, ∀ xs, H a = some (.lst xs) → H' a = some (.lst xs)) → RowsAt H' as rs
  | [], [], _, _ => trivial
  | _ :: as, _ :: rs, h, k => ⟨k _ List.mem_cons_self _ h.1, RowsAt.map h.2 fun a ha => k a (List.mem_cons_of_mem _ ha)⟩
  | [], _ :: _, h, _ => h.elim
  | _ :: _, [], h, _ => h.elim
theorem RowsAt.same {H H' : Hp} {as : List Addr} {rs : List (List Int)} (h : RowsAt H as rs) (s : Same H H') : RowsAt H' as rs := h.map fun a _ xs e => s a _ e
theorem RowsAt.off {H : Hp} {as : List Addr} {rs : List (List Int)} {p : Addr} {o : HO} (h : RowsAt H as rs) (n : p ∉ as) : RowsAt (upd H p o) as rs := h.map fun a ha xs e => by
  have hne : a ≠ p := fun z => n (z ▸ ha)
  rw [upd_ne hne]; exact e
theorem RowsAt.snoc {H : Hp} {a : Addr} {r : List Int} : ∀ {as : List Addr} {rs : List (List Int)}, RowsAt H as rs → H a = some (.lst (r.map V.int)) → RowsAt H (as ++ [a]) (rs ++ [r])
  | [], [], _, e => ⟨e, trivial⟩
  | _ :: as, _ :: rs, h, e => ⟨h.1, RowsAt.snoc h.2 e⟩
  | [], _ :: _, h, _ => h.elim
  | _ :: _, [], h, _ => h.elim
theorem RowsAt.get {H : Hp} : ∀ {as : List Addr} {rs : List (List Int)}, RowsAt H as rs → ∀ (i : Nat) (a : Addr), as[i]? = some a → ∃ r, rs[i]? = some r ∧ H a = some (.lst (r.map V.int))
  | [], [], _, i, a, e => by simp at e
  | b :: as, r :: rs, h, 0, a, e => by cases e; exact ⟨r, rfl, h.1⟩
  | _ :: as, _ :: rs, h, i + 1, a, e => RowsAt.get h.2 i a e
  | [], _ :: _, h, _, _, _ => h.elim
  | _ :: _, [], h, _, _, _ => h.elim
theorem RowsAt.mem {H : Hp} {as : List Addr} {rs : List (List Int)} (h : RowsAt H as rs) {a : Addr} (ha : a ∈ as) : ∃ r ∈ rs, H a = some (.lst (r.map V.int)) := by
  obtain ⟨i, hi⟩ := List.mem_iff_getElem?.mp ha
  obtain ⟨r, e1, e2⟩ := h.get i a hi
  exact ⟨r, List.mem_of_getElem? e1, e2⟩
def dInts (r : List Int) : PyData := .list (r.map PyData.int)
theorem dp_ints {K : PySem.W.Frag} {H : Hp} : ∀ (r : List Int), DpAll K H (r.map V.int) (r.map PyData.int)
  | [] => .nil
  | x :: r => .cons (.int x) (dp_ints r)
theorem RowsAt.dp {K : PySem.W.Frag} {H : Hp} : ∀ {as : List Addr} {rs : List (List Int)}, RowsAt H as rs → DpAll K H (as.map V.ref) (rs.map dInts)
  | [], [], _ => .nil
  | _ :: as, r :: rs, h => .cons (.lst (SqL.of h.1) (dp_ints r)) (RowsAt.dp h.2)
  | [], _ :: _, h => h.elim
  | _ :: _, [], h => h.elim
/-- one dict of marks merged into another -/
theorem kvB_merge : ∀ (xs sl : List Int), ∃ sl', mergeK (kvB sl) (kvB xs) = kvB sl' ∧ (∀ z, z ∈ sl' ↔ z ∈ sl ∨ z ∈ xs) ∧ (sl.Nodup → sl'.Nodup)
  | [], sl => ⟨sl, rfl, fun z => by simp, id⟩
  | x :: xs, sl => by
    obtain ⟨s1, e1, m1, n1⟩ := kvB_put sl x
    obtain ⟨s2, e2, m2, n2⟩ := kvB_merge xs s1
    refine ⟨s2, ?_, fun z => ?_, fun nd => n2 (n1 nd)⟩
    · show mergeK (putK (kvB sl) (Sum.inl x) (V.bl true)) (kvB xs) = _
      rw [e1, e2]
    · rw [m2, m1, List.mem_cons]
      constructor
      · rintro ((h | h) | h)
        · exact .inl h
        · exact .inr (.inl h)
        · exact .inr (.inr h)
      · rintro (h | h | h)
        · exact .inl (.inl h)
        · exact .inl (.inr h)
        · exact .inr h
end My
namespace My
open PySem L2 U StX PM
section
variable {P : Program} {w : World} {K : PySem.W.Frag} {mg : Str → Option Value} {base : Heap}
structure Prt (n : Int) (f : PF) (H H' : Hp) (lh se : Addr) (ex : List Addr) (b : List Int) (hs : List Addr) (sl : List Int) (st : List Int) : Prop where
  sm : Same H H'
  l : H' lh = some (.lst (hs.map V.ref))
  s : H' se = some (.dK (kvB sl))
  r : RowsAt H' hs (st.map (rowN f))
  m : ∀ x, x ∈ sl ↔ x ∈ seenL f (b ++ st)
  nd : sl.Nodup
  nw : ∀ a ∈ hs, H a = none ∧ a ≠ lh ∧ a ≠ se ∧ a ∉ ex
/-- one row more, from a new list r, its marks merged -/
theorem Prt.more {n : Int} {f : PF} {H H1 H2 H3 : Hp} {lh se : Addr} {ex hs : List Addr} {b sl sl' st : List Int} {e : Int} {r : Addr} (p : Prt n f H H1 lh se ex b hs sl st) (hl0 : H lh = none) (hs0 : H se = none) (nls : lh ≠ se) (hex : ∀ a ∈ ex, H1 a ≠ none)
    (hr : H1 r = none) (s2 : Same H1 H2) (hr2 : H2 r = some (.lst ((rowN f e).map V.int))) (m1 : ∀ z, z ∈ sl' ↔ z ∈ sl ∨ z ∈ rowN f e) (n1 : sl.Nodup → sl'.Nodup) (s3 : Same (upd H2 lh (.lst (hs.map V.ref ++ [.ref r]))) H3) :
    Prt n f H (upd H3 se (.dK (kvB sl'))) lh se ex b (hs ++ [r]) sl' (st ++ [e]) := by
  have rl : r ≠ lh := fun z => by rw [z, p.l] at hr; cases hr
  have rs : r ≠ se := fun z => by rw [z, p.s] at hr; cases hr
  have r0 : H r = none := p.sm.free hr
  have rx : r ∉ ex := fun z => hex r z hr
  refine ⟨?_, ?_, upd_same, ?_, ?_, n1 p.nd, ?_⟩
  · refine Same.put ?_ hs0
    exact (Same.put (p.sm.trans s2) hl0).trans s3
  · rw [upd_ne nls, s3 _ _ upd_same, List.map_append]
    rfl
  · rw [List.map_append]
    refine RowsAt.snoc ?_ ?_
    · have h1 := (p.r.same s2).off (p := lh) (o := .lst (hs.map V.ref ++ [.ref r])) (fun z => (p.nw lh z).2.1 rfl)
      exact (h1.same s3).off fun z => (p.nw se z).2.2.1 rfl
    · rw [upd_ne rs]
      exact s3 _ _ (by rw [upd_ne rl]; exact hr2)
  · intro x
    rw [m1, p.m, mem_seenL, mem_seenL]
    constructor
    · rintro (⟨e', h1, h2⟩ | h)
      · exact ⟨e', by rw [← List.append_assoc]; exact List.mem_append_left _ h1, h2⟩
      · exact ⟨e, by simp, h⟩
    · rintro ⟨e', h1, h2⟩
      rw [← List.append_assoc] at h1
      rcases List.mem_append.mp h1 with h1 | h1
      · exact .inl ⟨e', h1, h2⟩
      · rw [List.mem_singleton] at h1
        subst h1
        exact .inr h2
  · intro a ha
    rcases List.mem_append.mp ha with ha | ha
    · exact p.nw a ha
    · rw [List.mem_singleton] at ha
      subst ha
      exact ⟨r0, rl, rs, rx⟩
/-! ### cycles_of, chains_of -/
end
end My
namespace My
open PySem L2 U StX PM
/-- what holds between a statement and the rest -/
theorem seq_cut {a rest : TS} {D : Ends} {σ : L2.St} {H : Hp} (M : L2.St → Hp → Prop) (h : ∀ nx : L2.St → Hp → Prop, (∀ σ' H', M σ' H' → nx σ' H') → a { D with nx := nx } σ H) (hM : ∀ σ' H', M σ' H' → rest D σ' H') : tSeq a rest D σ H := h _ hM
theorem asg_of {t : TE} {D : Ends} {σ : L2.St} {H : Hp} {i : Nat} (h : t σ H (fun v H' => D.nx (σ.set i (some v)) H')) : tAsg t (gName i) D σ H := h
/-! ### lists of ints: in, comprehensions -/
/-- [v for x in xs if ..], a list of ints, the tests and parts reading alone -/
theorem lc_ints {K : PySem.W.Frag} {te : TE} {i : Nat} {tt : TT} {tv : TE} {vs : List Nat} {σ : L2.St} {H0 H : Hp} {Q : VK} {a : Addr} {xs : List Int} (c : Int → Bool) (vf : Int → V) (hte : ∀ R : VK, R (.ref a) H → te σ H0 R) (ha : H a = some (.lst (xs.map V.int)))
    (hw : ∀ a, wipe ((wipe σ vs).set i a) vs = wipe σ vs)
    (hb : ∀ (x : Int), x ∈ xs → ∀ (H1 : Hp), L2.Same H H1 → (∀ R : Bool → Hp → Prop, R (c x) H1 → tt ((wipe σ vs).set i (some (.int x))) H1 R) ∧ (c x = true → ∀ R : VK, R (vf x) H1 → tv ((wipe σ vs).set i (some (.int x))) H1 R))
    (hz : xs.length < sizeLine)
    (hq : ∀ D H', H D = none → H' D = some (.lst ((xs.filter c).map vf)) → L2.Same H H' → Q (.ref D) H') :
    tLc (iList K te) (gName i) tt tv vs σ H0 Q := by
  refine hte _ ⟨a, rfl, ⟨_, SqL.of ha⟩, fun D hD => ?_⟩
  refine lc_it (walk_list (xs := xs.map V.int)) (fun k H' => L2.Same H H' ∧ H' D = some (.lst (((xs.take k).filter c).map vf))) ⟨Same.new hD, upd_same⟩ (fun k H' _ p => SqL.of (p.1 _ _ ha)) ?_ ?_
  · rintro k v H' H'' hk1 ⟨p1, p2⟩ ⟨rfl, ev⟩
    rw [List.length_map] at hk1
    obtain ⟨y, ey⟩ : ∃ y, xs[k]? = some y := ⟨_, List.getElem?_eq_getElem hk1⟩
    have ev' : v = .int y := by
      have := get_map ey
      rw [this] at ev
      exact (Option.some.inj ev).symm
    subst ev'
    refine ⟨hw _, ?_⟩
    obtain ⟨b1, b2⟩ := hb y (List.mem_of_getElem? ey) _ p1
    refine b1 _ ?_
    have st : (xs.take (k + 1)).filter c = (xs.take k).filter c ++ (if c y = true then [y] else []) := by
      rw [take_more ey, List.filter_append]
      by_cases h : c y = true
      · simp [h]
      · have h' : c y = false := by simpa using h
        simp [h']
    cases hc : c y with
    | true =>
      refine iteT (b2 hc _ ⟨_, p2, ?_, Same.put p1 hD, ?_⟩)
      · refine Nat.lt_of_le_of_lt ?_ hz
        rw [List.length_map]
        exact Nat.le_trans (List.length_filter_le _ _) (by rw [List.length_take]; omega)
      · rw [upd_same, st, if_pos hc, List.map_append]
        rfl
    | false =>
      refine iteF ⟨p1, ?_⟩
      rw [st, hc, if_neg Bool.false_ne_true, List.append_nil]
      exact p2
  · rintro H' ⟨p1, p2⟩
    rw [List.length_map, List.take_length] at p2
    exact hq D _ hD p2 p1
/-! ### rows with marks -/
def PairsAt (H : Hp) : List Addr → List Addr → List Bool → Prop
  | [], [], [] => True
  | p :: ps, a :: as, b :: bs => H p = some (.tup [.ref a, .bl b]) ∧ PairsAt H ps as bs
  | _, _, _ => False
theorem PairsAt.map {H H' : Hp} : ∀ {ps as : List Addr} {bs : List Bool}, PairsAt H ps as bs → (∀ p ∈ ps, ∀ xs, H p = some (.tup xs) → H' p = some (.tup xs)) → PairsAt H' ps as bs
  | [], [], [], _, _ => trivial
  | _ :: ps, _ :: as, _ :: bs, h, k => ⟨k _ List.mem_cons_self _ h.1, PairsAt.map h.2 fun a ha => k a (List.mem_cons_of_mem _ ha)⟩
  | [], [], _ :: _, h, _ => h.elim
  | [], _ :: _, _, h, _ => h.elim
  | _ :: _, [], _, h, _ => h.elim
  | _ :: _, _ :: _, [], h, _ => h.elim
theorem PairsAt.same {H H' : Hp} {ps as : List Addr} {bs : List Bool} (h : PairsAt H ps as bs) (s : Same H H') : PairsAt H' ps as bs := h.map fun a _ xs e => s a _ e
theorem PairsAt.off {H : Hp} {ps as : List Addr} {bs : List Bool} {q : Addr} {o u : HO} (h : PairsAt H ps as bs) (hq : H q = some u) (nt : ∀ xs, u ≠ .tup xs) : PairsAt (upd H q o) ps as bs := h.map fun a ha xs e => by
  have hne : a ≠ q := fun z => by subst z; rw [hq] at e; exact nt _ (Option.some.inj e)
  rw [upd_ne hne]; exact e
theorem PairsAt.len {H : Hp} : ∀ {ps as : List Addr} {bs : List Bool}, PairsAt H ps as bs → ps.length = as.length ∧ ps.length = bs.length
  | [], [], [], _ => ⟨rfl, rfl⟩
  | _ :: ps, _ :: as, _ :: bs, h => by
    have := PairsAt.len h.2
    simp [this.1.symm, this.2.symm]
  | [], [], _ :: _, h => h.elim
  | [], _ :: _, _, h => h.elim
  | _ :: _, [], _, h => h.elim
  | _ :: _, _ :: _, [], h => h.elim
theorem PairsAt.get {H : Hp} : ∀ {ps as : List Addr} {bs : List Bool}, PairsAt H ps as bs → ∀ (i : Nat) (p : Addr), ps[i]? = some p → ∃ a b, as[i]? = some a ∧ bs[i]? = some b ∧ H p = some (.tup [.ref a, .bl b])
  | [], [], [], _, i, a, e => by simp at e
  | _ :: ps, a :: as, b :: bs, h, 0, p, e => by cases e; exact ⟨a, b, rfl, rfl, h.1⟩
  | _ :: ps, _ :: as, _ :: bs, h, i + 1, p, e => PairsAt.get h.2 i p e
  | [], [], _ :: _, h, _, _, _ => h.elim
  | [], _ :: _, _, h, _, _, _ => h.elim
  | _ :: _, [], _, h, _, _, _ => h.elim
  | _ :: _, _ :: _, [], h, _, _, _ => h.elim
end My
namespace My
open PySem L2 U StX PM
/-- [v for .. in xs if ..], any list, the tests and parts reading alone -/
theorem lc_lst {α : Type} {K : PySem.W.Frag} {te : TE} {g : TG} {tt : TT} {tv : TE} {vs : List Nat} {σ : L2.St} {H0 H : Hp} {Q : VK} {a : Addr} {xs : List α} (e : α → V) (sx : α → L2.St) (c : α → Bool) (vf : α → V) (hte : ∀ R : VK, R (.ref a) H → te σ H0 R) (ha : H a = some (.lst (xs.map e)))
    (hg : ∀ x ∈ xs, ∀ (H1 : Hp), L2.Same H H1 → ∀ R : L2.St → Hp → Prop, R (sx x) H1 → g (e x) (wipe σ vs) H1 R) (hw : ∀ x ∈ xs, wipe (sx x) vs = wipe σ vs)
    (hb : ∀ x ∈ xs, ∀ (H1 : Hp), L2.Same H H1 → (∀ R : Bool → Hp → Prop, R (c x) H1 → tt (sx x) H1 R) ∧ (c x = true → ∀ R : VK, R (vf x) H1 → tv (sx x) H1 R))
    (hz : xs.length < sizeLine)
    (hq : ∀ D H', H D = none → H' D = some (.lst ((xs.filter c).map vf)) → L2.Same H H' → Q (.ref D) H') :
    tLc (iList K te) g tt tv vs σ H0 Q := by
  refine hte _ ⟨a, rfl, ⟨_, SqL.of ha⟩, fun D hD => ?_⟩
  refine lc_it (walk_list (xs := xs.map e)) (fun k H' => L2.Same H H' ∧ H' D = some (.lst (((xs.take k).filter c).map vf))) ⟨Same.new hD, upd_same⟩ (fun k H' _ p => SqL.of (p.1 _ _ ha)) ?_ ?_
  · rintro k v H' H'' hk1 ⟨p1, p2⟩ ⟨rfl, ev⟩
    rw [List.length_map] at hk1
    obtain ⟨y, ey⟩ : ∃ y, xs[k]? = some y := ⟨_, List.getElem?_eq_getElem hk1⟩
    have ev' : v = e y := by
      rw [List.getElem?_map, ey] at ev
      exact (Option.some.inj ev).symm
    subst ev'
    have hy := List.mem_of_getElem? ey
    refine hg y hy _ p1 _ ⟨hw y hy, ?_⟩
    obtain ⟨b1, b2⟩ := hb y hy _ p1
    refine b1 _ ?_
    have st : (xs.take (k + 1)).filter c = (xs.take k).filter c ++ (if c y = true then [y] else []) := by
      rw [take_more ey, List.filter_append]
      by_cases h : c y = true
      · simp [h]
      · have h' : c y = false := by simpa using h
        simp [h']
    cases hc : c y with
    | true =>
      refine iteT (b2 hc _ ⟨_, p2, ?_, Same.put p1 hD, ?_⟩)
      · refine Nat.lt_of_le_of_lt ?_ hz
        rw [List.length_map]
        exact Nat.le_trans (List.length_filter_le _ _) (by rw [List.length_take]; omega)
      · rw [upd_same, st, if_pos hc, List.map_append]
        rfl
    | false =>
      refine iteF ⟨p1, ?_⟩
      rw [st, hc, if_neg Bool.false_ne_true, List.append_nil]
      exact p2
  · rintro H' ⟨p1, p2⟩
    rw [List.length_map, List.take_length] at p2
    exact hq D _ hD p2 p1
/-! ### rows by their first elements -/
def RowsZ (f : PF) (H : Hp) (zs : List (Addr × Int)) : Prop := ∀ z ∈ zs, H z.1 = some (.lst ((rowN f z.2).map V.int))
theorem RowsZ.at {f : PF} {H : Hp} : ∀ {zs : List (Addr × Int)}, RowsZ f H zs → RowsAt H (zs.map (·.1)) ((zs.map (·.2)).map (rowN f))
  | [], _ => trivial
  | z :: zs, h => ⟨h z List.mem_cons_self, RowsZ.at fun x hx => h x (List.mem_cons_of_mem _ hx)⟩
/-! ### data that may be compared -/
end My
namespace My
open PySem L2 U StX PM
theorem SqL.same {K : PySem.W.Frag} {H H' : Hp} {a : Addr} {xs : List V} (h : SqL K H a xs) (s : Same H H') : SqL K H' a xs := by
  rcases h with (h | ⟨o, h⟩) | h
  · exact .inl (.inl (s _ _ h))
  · exact .inl (.inr ⟨o, s _ _ h⟩)
  · exact .inr h
theorem Same.off {H H1 H2 : Hp} {p : Addr} (s : Same H H1) (o : Off p H1 H2) (h : H p = none) : Same H H2 := fun b u e => o b u (ne_of_none e h) (s b u e)
theorem yes_ {σ : L2.St} {H : Hp} {A B : Hp → Prop} (h : A H) : tYes σ H (fun b H3 => if b = true then A H3 else B H3) := by
  show (if true = true then A H else B H)
  rw [if_pos rfl]
  exact h
theorem PoolAt.same {H H' : Hp} {p : Addr} (h : PoolAt H p) (s : Same H H') : PoolAt H' p := by
  obtain ⟨a, b, e, r⟩ := h
  exact ⟨a, b, s _ _ e, r⟩
theorem PoolAt.lst {H : Hp} {p : Addr} (h : PoolAt H p) : ∃ xs, H p = some (.lst xs) := by
  obtain ⟨a, b, e, r⟩ := h
  exact ⟨_, e⟩
theorem PoolAt.ne {H : Hp} {p q : Addr} (h : PoolAt H p) (hq : H q = none) : p ≠ q := by
  obtain ⟨xs, e⟩ := h.lst
  exact ne_of_none e hq
def spLaw (K : PySem.W.Frag) : Sp := fun vs H Q _ => ∃ (a : Addr) (ns : List Int), vs = [.ref a] ∧ SqL K H a (ns.map V.int) ∧ ns.length ≤ 63 ∧ ∀ H', Q (.bl true) H'
theorem IsMap.off {C p : Addr} {H H' : Hp} {m : Addr} {n : Int} {f : PF} (a : IsMap C H m n f) (o : Off p H H') (h : ∃ xs, H p = some (.lst xs)) : IsMap C H' m n f := by
  obtain ⟨⟨dx, D, h1, h2⟩, wf, lo, hi⟩ := a
  obtain ⟨xs, h⟩ := h
  exact ⟨⟨dx, D, o _ _ (fun e => by rw [e, h] at h1; cases h1) h1, o _ _ (fun e => by rw [e, h] at h2; cases h2) h2⟩, wf, lo, hi⟩
/-- Map(n, d) -/
theorem init_of {C : Addr} {H : Hp} {d : Addr} {n : Int} {l : List (Int × Int)} {f : PF} {R : VK} {E : XK} {x dx : Addr} (hd : H d = some (.dK (kvI l))) (di : DI l f) (wf : WF n f) (h1 : 1 ≤ n) (h3 : n ≤ 300) (hl : l.length ≤ 1000)
    (hx : H x = none) (hdx : H dx = none) (ne : dx ≠ x) (q : ∀ H', Same H H' → IsMap C H' x n f → R .non H') :
    spInit C [.ref x, .int n, .ref d] (upd (upd H dx (.own x)) x (.ins C dx [])) R E := by
  have s0 : Same H (upd (upd H dx (.own x)) x (.ins C dx [])) := fun b o e => by
    rw [upd_ne (ne_of_none e hx), upd_ne (ne_of_none e hdx)]
    exact e
  refine ⟨x, dx, d, n, l, f, rfl, upd_same, s0 _ _ hd, di, wf, h1, h3, hl, fun H' D o nD hp hD => ?_⟩
  exact q H' (fun b u e => o b u (ne_of_none e hx) (s0 b u e)) ⟨⟨dx, D, hp, hD⟩, wf, h1, h3⟩
/-- the law's draw, told by the pool alone -/
theorem draw_of {H : Hp} {p : Addr} {n : Int} {Q : VK} {E : XK} (h : PoolAt H p) (n0 : 0 < n) (n1 : n < 1073741824) (k : ∀ r H', 0 ≤ r → r < n → PoolAt H' p → Off p H H' → (∃ xs, H' = upd H p (.lst xs)) → Q (.int r) H') : spDraw [.ref p, .int n] H Q E := by
  obtain ⟨a, b, e, ha, hb, hc⟩ := h
  exact ⟨p, a, b, n, rfl, e, ha, hb, hc, n0, n1, fun a' b' r h1 h2 h3 h4 h5 => k r _ h4 h5 ⟨a', b', upd_same, h1, h2, h3⟩ Off.lock ⟨_, rfl⟩⟩
end My
namespace My
open PySem L2 U StX PM
theorem paired_at {α β : Type} {R : α → β → Prop} {xs : List α} {ys : List β} (h : Paired R xs ys) {i : Nat} {x : α} (e : xs[i]? = some x) : ∃ y, ys[i]? = some y ∧ R x y := by
  induction h generalizing i with
  | nil => cases e
  | cons r _ ih =>
    cases i with
    | zero => cases e; exact ⟨_, rfl, r⟩
    | succ i => exact ih e
theorem paired_len {α β : Type} {R : α → β → Prop} {xs : List α} {ys : List β} (h : Paired R xs ys) : xs.length = ys.length := by
  induction h with
  | nil => rfl
  | cons _ _ ih => rw [List.length_cons, List.length_cons, ih]
theorem PoolAt.put {H : Hp} {p q : Addr} {o : HO} (h : PoolAt H p) (n : p ≠ q) : PoolAt (upd H q o) p := by
  obtain ⟨a, b, e, r⟩ := h
  exact ⟨a, b, by rw [upd_ne n]; exact e, r⟩
theorem paired_snoc {α β : Type} {R : α → β → Prop} {xs : List α} {ys : List β} (h : Paired R xs ys) {x : α} {y : β} (r : R x y) : Paired R (xs ++ [x]) (ys ++ [y]) := by
  induction h with
  | nil => exact .cons r .nil
  | cons a _ ih => exact .cons a ih
theorem draw_R {i : Nat} {tb : TE} {σ : L2.St} {H : Hp} {Q : VK} {p : Addr} {n : Int} (hi : σ[i]? = some (some (.ref p))) (hb : ∀ R : VK, R (.int n) H → tb σ H R) (h : PoolAt H p) (n0 : 0 < n) (n1 : n < 1073741824)
    (k : ∀ r H', 0 ≤ r → r < n → PoolAt H' p → Off p H H' → Q (.int r) H') : tCallR spDraw E0 (tCons (tVar i) (tCons tb tNil)) σ H Q :=
  ⟨_, hi, hb _ (draw_of (E := E0) h n0 n1 fun r H' h1 h2 h3 h4 _ => k r H' h1 h2 h3 h4)⟩
theorem dgetL {H : Hp} {d : Addr} {l : List (Int × Int)} {f : PF} (h : H d = some (.dK (kvI l))) (di : DI l f) (i : Int) : DGet H d (.int i) ((f i).map V.int) := by
  have := DGet.k (k := Sum.inl i) h
  rw [valV_kvI, di.at_] at this
  exact this
theorem lay_all {k : Nat} {ds : List PyData} (h : ∀ d ∈ ds, PyData.canLay0 d = true ∧ PyData.depth d ≤ k) : PyData.canLayAll0 ds = true ∧ PyData.depthAll ds ≤ k := by
  induction ds with
  | nil => exact ⟨rfl, Nat.zero_le _⟩
  | cons p l ih =>
    obtain ⟨h1, h2⟩ := h p List.mem_cons_self
    obtain ⟨i1, i2⟩ := ih fun d hd => h d (List.mem_cons_of_mem _ hd)
    refine ⟨?_, ?_⟩
    · show (PyData.canLay0 p && PyData.canLayAll0 l) = true
      rw [i1, h1]; rfl
    · show max (PyData.depth p) (PyData.depthAll l) ≤ k
      omega
theorem shaped_all {ds : List PyData} (h : ∀ d ∈ ds, PyData.canLay0 d = true ∧ PyData.depth d ≤ 60) : SeqAt.shaped (.list ds) = true := by
  unfold SeqAt.shaped
  have h := lay_all h
  rw [Bool.and_eq_true]
  refine ⟨h.1, decide_eq_true ?_⟩
  show PyData.depthAll ds + 1 ≤ 64
  omega
theorem at_nat {xs : List V} {c : Int} (h0 : 0 ≤ c) (h1 : c.toNat < xs.length) : ∃ v, atI xs c = some v ∧ v ∈ xs := by
  obtain ⟨v, hv⟩ : ∃ v, xs[c.toNat]? = some v := ⟨_, List.getElem?_eq_getElem h1⟩
  have := atI_nat hv
  rw [show ((c.toNat : Nat) : Int) = c by omega] at this
  exact ⟨v, this, List.mem_of_getElem? hv⟩
theorem cut1 (v0 : V) (r : List V) : cutV (v0 :: r) (some 1) none = r ∧ ¬ (HT.sIx (v0 :: r).length 0 (some 1) = 0 ∧ HT.sIx (v0 :: r).length (v0 :: r).length none = (v0 :: r).length) := by
  have h : HT.sIx (v0 :: r).length 0 (some 1) = 1 := by
    show (if (1 : Int) < 0 then ((1 : Int) + (((v0 :: r).length : Nat) : Int)).toNat else min (1 : Int).toNat (v0 :: r).length) = 1
    rw [if_neg (by decide), List.length_cons]
    show min 1 _ = 1
    omega
  constructor
  · unfold cutV
    rw [h, HT.sIx_none]
    show r.take ((v0 :: r).length - 1) = r
    rw [List.length_cons, Nat.add_sub_cancel, List.take_length]
  · rintro ⟨h1, _⟩
    rw [h] at h1
    cases h1
end My
namespace My
open PySem L2 U StX PM
/-! ### the operators, with maps of unlike sizes -/
def mism (CE : Addr) (n n' : Int) (H : Hp) (E : XK) : Prop := ∀ d, H d = none → E (.ref CE) (some d) (upd H d (.xd [("second", .int n'), ("first", .int n)]))
def spCommonX (C CE : Addr) : Sp := fun vs H Q E => ∃ a b n f n' g, vs = [.ref a, .ref b] ∧ IsMap C H a n f ∧ IsMap C H b n' g ∧ (n ≠ n' → mism CE n n' H E) ∧ (n = n' → Q (.int n) H)
section
variable {P : Program} {w : World} {K : PySem.W.Frag} {mg : Str → Option Value} {base : Heap}
theorem ok_ini_SizeMismatch (T : Txt K mg) : FnR P w K mg base CX0 1 T.f_SizeMismatch__init (spIni2 T.C_SizeMismatch "first" "second") := by
  refine T.A_SizeMismatch__init.ok sc_SizeMismatch__init (fun vs H Q E h => ?_) (fun cdv A outer s H vs Q E hr h => ?_)
  · obtain ⟨a, v, u, rfl, _⟩ := h
    rfl
  · obtain ⟨a, v, u, rfl, ha, q⟩ := h
    refine ⟨_, pss_cons (ps_ostG (pv 0) (pv 1)) (pss_one (ps_ostG (pv 0) (pv 2))), ?_⟩
    refine ⟨_, rfl, _, rfl, a, T.C_SizeMismatch, rfl, T.x_SizeMismatch, T.na_first_SizeMismatch, .inl ⟨ha, fun dx h1 h2 => ?_⟩⟩
    exact ⟨_, rfl, _, rfl, a, T.C_SizeMismatch, rfl, T.x_SizeMismatch, T.na_second_SizeMismatch, .inr ⟨dx, [("first", v)], upd_same, by rw [upd_ne h2, upd_same], (by show 1 ≤ 900; decide), q dx h1 h2⟩⟩
theorem ok_commonX (T : Txt K mg) : FnR P w K mg base (L2.CX P w) 3 T.f_common_size (spCommonX T.C_Map T.C_SizeMismatch) := by
  refine T.A_common_size.okX sc_common_size (fun vs H Q E h => ?_) (fun cdv A outer s H vs Q E hr h => ?_)
  · obtain ⟨a, b, n, f, n', g, rfl, _⟩ := h
    rfl
  · obtain ⟨a, b, n, f, n', g, rfl, ha, hb, qx, q⟩ := h
    refine ⟨_, (pss_cons (ps_if (pt_cmpR op_ne (pe_propR (pv 0) T.o_Map.cl T.P_Map_size (ok_size T) (hr.mono (by decide))) (pe_propR (pv 1) T.o_Map.cl T.P_Map_size (ok_size T) (hr.mono (by decide))) (nomark _))
        (pss_one (ps_raise rfl (takes_of rfl rfl rfl rfl) (pmk_oexG T.x_SizeMismatch T.m_SizeMismatch__init T.ti_SizeMismatch__init (ok_ini_SizeMismatch T) (hr.mono (by decide)) pass0 rfl T.g_SizeMismatch (pa_cons (pe_propR (pv 0) T.o_Map.cl T.P_Map_size (ok_size T) (hr.mono (by decide))) (pa_cons (pe_propR (pv 1) T.o_Map.cl T.P_Map_size (ok_size T) (hr.mono (by decide))) pa_nil))))) pss_nil)
      (pss_one (ps_ret (pe_propR (pv 0) T.o_Map.cl T.P_Map_size (ok_size T) (hr.mono (by decide)))))), ?_⟩
    obtain ⟨dx, fs, h1⟩ := at_map ha
    obtain ⟨dy, gs, h2⟩ := at_map hb
    refine ⟨_, rfl, a, dx, fs, rfl, h1, a, n, f, rfl, ha, _, rfl, b, dy, gs, rfl, h2, b, n', g, rfl, hb, rfl, _, rfl, ?_⟩
    refine ifN (fun hne => ?_) (fun heq => ?_)
    · have hne' : n ≠ n' := fun z => hne (congrArg V.int z)
      refine ⟨_, rfl, a, dx, fs, rfl, h1, a, n, f, rfl, ha, _, rfl, b, dy, gs, rfl, h2, b, n', g, rfl, hb, ?_⟩
      exact mk_two fun d hd => qx hne' d hd
    · exact ⟨_, rfl, a, dx, fs, rfl, h1, a, n, f, rfl, ha, q (V.int.inj heq)⟩
end
end My
namespace My
open PySem L2 U StX PM
/-! ### a map as a text -/
section
variable {P : Program} {w : World} {K : PySem.W.Frag} {mg : Str → Option Value} {base : Heap}
/-! ### == with any value -/
def spEqV (C : Addr) : Sp := fun vs H Q _ => ∃ a y, vs = [.ref a, y] ∧ ((∃ b n f n' g, y = .ref b ∧ IsMap C H a n f ∧ IsMap C H b n' g ∧ Q (.bl (eqB n f n' g)) H) ∨ (nonMapV H y ∧ Q (.bl false) H))
theorem ok_eqV (T : Txt K mg) : FnR P w K mg base CX0 6 T.f_Map__eq (spEqV T.C_Map) := by
  refine T.A_Map__eq.ok sc_Map__eq (fun vs H Q E h => ?_) (fun cdv A outer s H vs Q E hr h => ?_)
  · obtain ⟨a, y, rfl, _⟩ := h
    rfl
  · obtain ⟨a, y, rfl, h⟩ := h
    have hu := hu_of hr
    refine ⟨_, pss_cons (ps_if (pt_not (pt_val (pe_callB call_isi (by rfl) T.n_isinstance (by decide +kernel) (pa_cons (pv 1) (pa_cons (pe_glob (v := .ref T.C_Map) rfl T.g_Map rfl) pa_nil))))) (pss_one (ps_ret pe_bl)) pss_nil)
      (pss_one (ps_ret (pe_and (pe_cmpR op_eq (pe_fld (pv 0) rfl) (pe_fld (pv 1) rfl) (nomark _)) (pe_one (pe_cmpR (op_eqDI (Nat.lt_of_succ_lt hu)) (pe_fld (pv 0) rfl) (pe_fld (pv 1) rfl) (nomark _)))))), ?_⟩
    rcases h with ⟨b, n, f, n', g, rfl, ha, hb, q⟩ | ⟨hy, q⟩
    · obtain ⟨dx, D, h1, h2⟩ := id ha.ob
      obtain ⟨dy, D', h3, h4⟩ := id hb.ob
      refine ⟨_, rfl, _, _, _, _, true, rfl, .own _, tyx_ins T.o_Map h3, T.self_Map, _, rfl, iteF ?_⟩
      refine ⟨_, rfl, a, _, dx, _, _, rfl, h1, T.o_Map.cl, T.na_own_size_Map, flds_size _ _, _, rfl, b, _, dy, _, _, rfl, h3, T.o_Map.cl, T.na_own_size_Map, flds_size _ _, rfl, _, rfl, ?_⟩
      have e0 : decide (V.int n = V.int n') = decide (n = n') := by
        by_cases h : n = n'
        · subst h; simp
        · have : ¬ V.int n = V.int n' := fun z => h (V.int.inj z)
          simp [h]
      rw [e0]
      unfold eqB at q
      refine ifD (fun hn => ?_) (fun hn => ?_)
      · refine ⟨_, rfl, a, _, dx, _, _, rfl, h1, T.o_Map.cl, T.na_own_arrows_Map, flds_arrows _ _, _, rfl, b, _, dy, _, _, rfl, h3, T.o_Map.cl, T.na_own_arrows_Map, flds_arrows _ _, D, D', _, _, rfl, rfl, h2, h4, intVals_kvI _, intVals_kvI _, ?_⟩
        rw [decide_eq_true hn, Bool.true_and] at q
        exact q
      · rw [decide_eq_false hn, Bool.false_and] at q
        exact q
    · obtain ⟨t, ht, hk⟩ := ty_nonmap T hy
      exact ⟨_, rfl, _, _, _, _, false, rfl, .own _, ht, hk, _, rfl, iteT q⟩
end
end My
namespace My
open PySem L2 U StX PM
theorem nonMapV.same {H H' : Hp} {x : V} (h : nonMapV H x) (s : L2.Same H H') : nonMapV H' x := by
  cases x with
  | ref b =>
    rcases h with ⟨xs, e⟩ | ⟨xs, e⟩ | ⟨xs, e⟩
    · exact .inl ⟨_, s _ _ e⟩
    · exact .inr (.inl ⟨_, s _ _ e⟩)
    · exact .inr (.inr ⟨_, s _ _ e⟩)
  | _ => exact h
end My
namespace My
open PySem L2 U StX PM
/-! ### dict([(a, b) for x, y in d.items() if ..]) -/
theorem _root_.PySem.Paired.map {α β : Type} {R S : α → β → Prop} : ∀ {xs : List α} {ys : List β}, Paired R xs ys → (∀ x ∈ xs, ∀ y, R x y → S x y) → Paired S xs ys
  | _, _, .nil, _ => .nil
  | _, _, .cons h r, k => .cons (k _ List.mem_cons_self _ h) (PySem.Paired.map r fun x hx => k x (List.mem_cons_of_mem _ hx))
end My
namespace My
open PySem L2 U StX PM
/-! ### texts of plain signs -/
def OkS (x : Str) : Prop := PyData.strOk x = true
theorem OkS.app {x y : Str} (hx : OkS x) (hy : OkS y) : OkS (x ++ y) := by
  unfold OkS PyData.strOk at *
  rw [Str.cps_append, Array.all_append, hx, hy]
  rfl
theorem okS_of (s : String) : OkS (Str.ofString s) := by
  unfold OkS PyData.strOk
  rw [Str.ofString_eq_toList, Array.all_eq_true]
  intro i hi
  simp only [List.getElem_toArray, List.getElem_map, decide_eq_true_eq]
  have := (s.toList[i]'(by simpa using hi)).valid
  rcases this with h | h
  · exact Nat.lt_trans h (by decide)
  · exact h.2
end My
namespace My
open PySem L2 U StX PM
/-- [x for x in range(n) if ..] -/
theorem lc_rangeF {wi : TI} {i : Nat} {tt : TT} {tv : TE} {vs : List Nat} {σ : L2.St} {H0 H : Hp} {Q : VK} {n : Nat} (c : Int → Bool) (hwi : ∀ R : It → Hp → Prop, R (Itr 0 n) H → wi σ H0 R)
    (hw : ∀ a, wipe ((wipe σ vs).set i a) vs = wipe σ vs) (hn : n < sizeLine)
    (hb : ∀ k : Nat, k < n → ∀ H1, L2.Same H H1 → (∀ R : Bool → Hp → Prop, R (c (k : Int)) H1 → tt ((wipe σ vs).set i (some (.int (0 + (k : Nat))))) H1 R) ∧ ∀ R : VK, R (.int (0 + (k : Nat))) H1 → tv ((wipe σ vs).set i (some (.int (0 + (k : Nat))))) H1 R)
    (hq : ∀ (D : Addr) (H' : Hp), H D = none → H' D = some (.lst ((((List.range n).filter fun (k : Nat) => c (k : Int)).map fun (k : Nat) => (k : Int)).map V.int)) → L2.Same H H' → Q (.ref D) H') :
    tLc wi (gName i) tt tv vs σ H0 Q := by
  refine hwi _ fun D hD => ?_
  refine lc_it (walk_range (lo := 0)) (fun k H' => L2.Same H H' ∧ H' D = some (.lst ((((List.range k).filter fun (k : Nat) => c (k : Int)).map fun (k : Nat) => (k : Int)).map V.int)))
    ⟨Same.new hD, upd_same⟩ (fun _ _ _ _ => trivial) ?_ ?_
  · rintro k v H' H'' hk ⟨s1, e1⟩ ⟨rfl, rfl⟩
    refine ⟨hw _, ?_⟩
    obtain ⟨b1, b2⟩ := hb k hk _ s1
    refine b1 _ ?_
    have st : (((List.range (k + 1)).filter fun (k : Nat) => c (k : Int)).map fun (k : Nat) => (k : Int)) = (((List.range k).filter fun (k : Nat) => c (k : Int)).map fun (k : Nat) => (k : Int)) ++ (if c (k : Int) = true then [(k : Int)] else []) := by
      rw [List.range_succ, List.filter_append, List.map_append]
      by_cases h : c (k : Int) = true
      · simp [h]
      · have h' : c (k : Int) = false := by simpa using h
        simp [h']
    cases hc : c (k : Int) with
    | true =>
      refine iteT (b2 _ ⟨_, e1, ?_, Same.put s1 hD, ?_⟩)
      · rw [List.length_map, List.length_map]
        exact Nat.lt_of_le_of_lt (Nat.le_trans (List.length_filter_le _ _) (by rw [List.length_range]; omega)) hn
      · rw [upd_same, st, if_pos hc, List.map_append, Int.zero_add]
        rfl
    | false =>
      refine iteF ⟨s1, ?_⟩
      rw [st, hc, if_neg Bool.false_ne_true, List.append_nil]
      exact e1
  · rintro H' ⟨s1, e1⟩
    exact hq D H' hD e1 s1
end My
local macro_rules | `(tactic| array_get_dec) => `(tactic| first | assumption | exact L2.upd_same | (refine U.carryNew (by assumption) ?_; array_get_dec) | (refine U.carry (by assumption) ?_; array_get_dec))
local macro_rules | `(tactic| array_mem_dec) => `(tactic| first | exact L2.Same.refl _ | assumption | (refine U.sameUp (by assumption) ?_; array_mem_dec) | (refine U.sameVia (by assumption) ?_; array_mem_dec))
local macro_rules | `(tactic| sizeOf_list_dec) => `(tactic| first | assumption | (refine U.freeVia (by assumption) ?_; sizeOf_list_dec) | (refine U.freeUp (o := _) (q := _) ?_; assumption))
local macro_rules | `(tactic| deriving_LawfulEq_tactic_step) => `(tactic| first | exact rfl | exact U.nil_le | exact U.one_le | exact U.two_le | exact U.three_le | exact L2.SqL.of (by array_get_dec) | exact L2.SqT.of (by array_get_dec) | exact ⟨_, L2.SqL.of (by array_get_dec)⟩ | exact ⟨_, L2.SqT.of (by array_get_dec)⟩ | exact Or.inl (by array_get_dec) | array_get_dec)
local macro_rules | `(tactic| and_intros) => `(tactic| repeat (first | refine And.intro (by deriving_LawfulEq_tactic_step) ?_ | (apply Exists.intro; refine And.intro (by deriving_LawfulEq_tactic_step) ?_) | (apply Exists.intro; apply Exists.intro; refine And.intro (by deriving_LawfulEq_tactic_step) ?_) | (apply Exists.intro; apply Exists.intro; apply Exists.intro; refine And.intro (by deriving_LawfulEq_tactic_step) ?_) | (apply Exists.intro; apply Exists.intro; apply Exists.intro; apply Exists.intro; refine And.intro (by deriving_LawfulEq_tactic_step) ?_)))
namespace My
open PySem L2 U StX PM
/-! ### several maps -/
def MapsAt (C : Addr) (H : Hp) (n : Int) (xs : List V) (fs : List PF) : Prop := Paired (fun v f => ∃ a, v = V.ref a ∧ IsMap C H a n f) xs fs
theorem MapsAt.same {C : Addr} {H H' : Hp} {n : Int} {xs : List V} {fs : List PF} (h : MapsAt C H n xs fs) (s : Same H H') : MapsAt C H' n xs fs := PySem.Paired.map h fun v _ f ⟨a, e, m⟩ => ⟨a, e, m.same s⟩
theorem MapsAt.get {C : Addr} {H : Hp} {n : Int} {xs : List V} {fs : List PF} (h : MapsAt C H n xs fs) {i : Nat} {v : V} (e : xs[i]? = some v) : ∃ a f, v = .ref a ∧ fs[i]? = some f ∧ IsMap C H a n f := by
  obtain ⟨f, e2, a, e3, m⟩ := paired_at h e
  exact ⟨a, f, e3, e2, m⟩
/-- what check_all says of a tuple: a map is missing, the sizes differ, or all is well -/
def AllB (C CM CS : Addr) (H : Hp) (xs : List V) (Q : VK) (E : XK) : Prop :=
  (xs = [] ∧ ∀ H', Same H H' → ∀ d, H' d = none → E (.ref CM) (some d) (upd H' d (.xd [("part", .str "map")]))) ∨
  (∃ (k : Nat) (v : V), xs[k]? = some v ∧ nonMapV H v ∧ (∀ (j : Nat) (u : V), j < k → xs[j]? = some u → ∃ a n f, u = V.ref a ∧ IsMap C H a n f) ∧ ∀ H', Same H H' → ∀ d, H' d = none → E (.ref CM) (some d) (upd H' d (.xd [("part", .str "map")]))) ∨
  (∃ (n m : Int) (k : Nat) (a : Addr) (g : PF), (∀ (j : Nat) (u : V), xs[j]? = some u → ∃ b n' f, u = V.ref b ∧ IsMap C H b n' f ∧ (j < k → n' = n)) ∧ xs[k]? = some (.ref a) ∧ IsMap C H a m g ∧ 0 < k ∧ m ≠ n ∧ ∀ H', Same H H' → mism CS n m H' E) ∨
  (∃ n fs, MapsAt C H n xs fs ∧ fs ≠ [] ∧ ∀ H', Same H H' → Q .non H')
def spChkA (C CM CS : Addr) : Sp := fun vs H Q E => ∃ (t : Addr) (xs : List V), vs = [.ref t] ∧ H t = some (.tup xs) ∧ xs.length ≤ 100 ∧ AllB C CM CS H xs Q E
section
variable {P : Program} {w : World} {K : PySem.W.Frag} {mg : Str → Option Value} {base : Heap}
theorem dec_zero (l : Nat) : decide (V.int (l : Int) = V.int 0) = decide (l = 0) := by
  by_cases h : l = 0
  · subst h; rfl
  · have : ¬ V.int (l : Int) = V.int 0 := fun z => h (by have := V.int.inj z; omega)
    rw [decide_eq_false h, decide_eq_false this]
theorem ok_check_all (T : Txt K mg) : FnR P w K mg base (L2.CX P w) 4 T.f_check_all (spChkA T.C_Map T.C_InvalidMap T.C_SizeMismatch) := by
  refine T.A_check_all.okX sc_check_all (fun vs H Q E h => ?_) (fun cdv A outer s H vs Q E hr h => ?_)
  · obtain ⟨t, xs, rfl, _⟩ := h
    rfl
  · obtain ⟨t, xs, rfl, ht, hl, h⟩ := h
    refine ⟨_, (pss_cons (ps_if (pt_cmpR op_eq (pe_callB call_len_seq (by rfl) T.n_len (by decide +kernel) (pa_cons (pv 0) pa_nil)) pe_int (nomark _))
        (pss_one (ps_raise rfl (takes_of rfl rfl rfl rfl) (pmk_oexG T.x_InvalidMap T.m_InvalidMap__init T.ti_InvalidMap__init (ok_ini_InvalidMap T) (hr.mono (by decide)) pass0 rfl T.g_InvalidMap (pa_cons pe_str pa_nil)))) pss_nil)
      (pss_cons (ps_for (passes_of rfl) rfl (pi_tup (pv 0)) (pg_name (i := 1) sc_check_all.nd rfl (Or.inl rfl))
        (pss_one (ps_expr (pe_callR (ok_check_map T) (hr.mono (by decide)) T.A_check_map.kp rfl T.g_check_map (passes_call (takes_of rfl rfl rfl rfl) (fun _ _ _ _ h => h)) (pa_cons (pv 1) pa_nil)))))
      (pss_one (ps_for (passes_of rfl) rfl (pi_tup (pv 0)) (pg_name (i := 1) sc_check_all.nd rfl (Or.inl rfl))
        (pss_one (ps_expr (pe_callR (ok_commonX T) (hr.mono (by decide)) T.A_common_size.kp rfl T.g_common_size (passes_call (takes_of rfl rfl rfl rfl) (fun _ _ _ _ h => h)) (pa_cons (pe_ix ix_tup (pv 0) pe_int (fun _ _ => rfl)) (pa_cons (pv 1) pa_nil))))))))), ?_⟩
    refine ⟨_, rfl, t, _, rfl, .inr (SqT.of ht), rfl, _, rfl, ?_⟩
    rw [dec_zero]
    refine ifD (fun h0 => ?_) (fun h0 => ?_)
    · rcases h with ⟨_, q⟩ | ⟨k, v, e, _⟩ | ⟨n, m, k, a, g, _, e, _⟩ | ⟨n, fs, hm, hne, _⟩
      · exact mk_one fun d hd => q H (Same.refl _) d hd
      · have := (List.getElem?_eq_some_iff.mp e).1; omega
      · have := (List.getElem?_eq_some_iff.mp e).1; omega
      · have := paired_len hm
        exact absurd (List.length_eq_zero_iff.mp (by omega)) hne
    · refine ⟨_, rfl, t, rfl, ⟨_, SqT.of ht⟩, ?_⟩
      have bad : ∀ (k : Nat) (v : V), xs[k]? = some v → nonMapV H v → ∀ (j : Nat) (u : V), xs[j]? = some u → (∃ a n f, u = V.ref a ∧ IsMap T.C_Map H a n f) → j ≠ k := by
        rintro k v e1 nv j u e2 ⟨a, n, f, rfl, hm⟩ rfl
        rw [e1] at e2
        cases e2
        obtain ⟨dx, fs, h1⟩ := at_map hm
        rcases nv with ⟨ys, z⟩ | ⟨ys, z⟩ | ⟨ys, z⟩ <;> (rw [h1] at z; cases z)
      refine for_it (walk_tup (xs := xs)) (fun i σ H' => H' = H ∧ (∃ v1, σ = [some (.ref t), v1]) ∧ ∀ (k : Nat) (v : V), xs[k]? = some v → nonMapV H v → i ≤ k)
        ⟨rfl, ⟨_, rfl⟩, fun _ _ _ _ => Nat.zero_le _⟩ (fun i σ H' _ z => by rw [z.1]; exact SqT.of ht) ?_ ?_
      · rintro i v σ Ha0 Ha hi ⟨rfl, ⟨v1, rfl⟩, hk⟩ ⟨rfl, ev⟩
        refine ⟨_, rfl, ?_⟩
        have good : (∃ a n f, v = .ref a ∧ IsMap T.C_Map Ha a n f) → spChkM T.C_Map T.C_InvalidMap [v] Ha (fun _ H' => H' = Ha ∧ (∃ v1, [some (V.ref t), some v] = [some (.ref t), v1]) ∧ ∀ (k : Nat) (v : V), xs[k]? = some v → nonMapV Ha v → i + 1 ≤ k) E := by
          rintro ⟨a, n, f, rfl, hm⟩
          refine ⟨_, rfl, .inl ⟨a, n, f, rfl, hm, rfl, ⟨_, rfl⟩, fun k v e nv => ?_⟩⟩
          have h1 := hk k v e nv
          have h2 := bad k v e nv i _ ev ⟨a, n, f, rfl, hm⟩
          omega
        rcases h with ⟨h1, q⟩ | ⟨k, u, e, nu, hb, q⟩ | ⟨n, m, k, a, g, hb, e, _⟩ | ⟨n, fs, hm, hne, _⟩
        · exact absurd (by rw [h1]; rfl) h0
        · by_cases hik : i = k
          · subst hik
            rw [e] at ev
            cases ev
            exact ⟨_, rfl, .inr ⟨nu, fun d hd => q Ha (Same.refl _) d hd⟩⟩
          · have := hk k u e nu
            exact good (hb i v (by omega) ev)
        · obtain ⟨b, n', f, rfl, hm, _⟩ := hb i v ev
          exact good ⟨b, n', f, rfl, hm⟩
        · obtain ⟨a, f, rfl, _, hm'⟩ := hm.get ev
          exact good ⟨a, n, f, rfl, hm'⟩
      · rintro σ Ha ⟨rfl, ⟨v1, rfl⟩, hk⟩
        have fin : ∃ (x0 : Addr) (n : Int) (f0 : PF), xs[0]? = some (.ref x0) ∧ IsMap T.C_Map Ha x0 n f0 ∧ ((∃ (m : Int) (k : Nat) (a : Addr) (g : PF), (∀ (j : Nat) (u : V), xs[j]? = some u → ∃ b n' f, u = V.ref b ∧ IsMap T.C_Map Ha b n' f ∧ (j < k → n' = n)) ∧ xs[k]? = some (.ref a) ∧ IsMap T.C_Map Ha a m g ∧ 0 < k ∧ m ≠ n ∧ mism T.C_SizeMismatch n m Ha E) ∨ (∃ fs, MapsAt T.C_Map Ha n xs fs ∧ Q .non Ha)) := by
          rcases h with ⟨h1, q⟩ | ⟨k, u, e, nu, hb, q⟩ | ⟨n, m, k, a, g, hb, e, ha, k0, hmn, q⟩ | ⟨n, fs, hm, hne, q⟩
          · exact absurd (by rw [h1]; rfl) h0
          · have h1 := hk k u e nu
            have h2 := (List.getElem?_eq_some_iff.mp e).1
            omega
          · obtain ⟨x0, e0⟩ : ∃ x0, xs[0]? = some x0 := ⟨_, List.getElem?_eq_getElem (by omega)⟩
            obtain ⟨b, n', f, rfl, hmb, hn⟩ := hb 0 x0 e0
            cases hn k0
            exact ⟨b, n, f, e0, hmb, .inl ⟨m, k, a, g, hb, e, ha, k0, hmn, q Ha (Same.refl _)⟩⟩
          · obtain ⟨x0, e0⟩ : ∃ x0, xs[0]? = some x0 := ⟨_, List.getElem?_eq_getElem (by omega)⟩
            obtain ⟨b, f, rfl, _, hmb⟩ := hm.get e0
            exact ⟨b, n, f, e0, hmb, .inr ⟨fs, hm, q Ha (Same.refl _)⟩⟩
        obtain ⟨x0, n, f0, e0, hm0, fin⟩ := fin
        refine ⟨_, rfl, t, rfl, ⟨_, SqT.of ht⟩, ?_⟩
        refine for_it (walk_tup (xs := xs)) (fun i σ H' => H' = Ha ∧ (∃ v1, σ = [some (.ref t), v1]) ∧ ∀ (m : Int) (k : Nat) (a : Addr) (g : PF), xs[k]? = some (V.ref a) → IsMap T.C_Map Ha a m g → m ≠ n → i ≤ k)
          ⟨rfl, ⟨_, rfl⟩, fun _ _ _ _ _ _ _ => Nat.zero_le _⟩ (fun i σ H' _ z => by rw [z.1]; exact SqT.of ht) ?_ ?_
        · rintro i v σ Hb0 Hb hi ⟨rfl, ⟨v1, rfl⟩, hk2⟩ ⟨rfl, ev⟩
          refine ⟨_, rfl, t, _, 0, .ref x0, rfl, rfl, SqT.of ht, atI_nat (j := 0) e0, _, rfl, ?_⟩
          have uniq : ∀ {a m m' g g'}, IsMap T.C_Map Hb a m g → IsMap T.C_Map Hb a m' g' → m = m' := by
            intro a m m' g g' h1 h2
            obtain ⟨dx, D, e1, _⟩ := h1.ob
            obtain ⟨dx', D', e2, _⟩ := h2.ob
            rw [e1] at e2
            have e3 := (HO.ins.inj (Option.some.inj e2)).2.2
            have e4 := flds_size m D
            rw [e3, flds_size] at e4
            exact (V.int.inj (Option.some.inj e4)).symm
          rcases fin with ⟨m, k, a, g, hb, e, ha, k0, hmn, q⟩ | ⟨fs, hm, q⟩
          · obtain ⟨b, n', f, rfl, hmb, hn⟩ := hb i v ev
            by_cases hnn : n' = n
            · subst hnn
              refine ⟨x0, b, n', f0, n', f, rfl, hm0, hmb, fun h => absurd rfl h, fun _ => ⟨rfl, ⟨_, rfl⟩, fun m2 k2 a2 g2 e2 hm2 hne2 => ?_⟩⟩
              have h1 := hk2 m2 k2 a2 g2 e2 hm2 hne2
              have : i ≠ k2 := by
                rintro rfl
                rw [ev] at e2
                cases e2
                exact hne2 (uniq hm2 hmb)
              omega
            · have hik : k ≤ i := Nat.le_of_not_lt fun hlt => hnn (hn hlt)
              have hki := hk2 m k a g e ha hmn
              have : i = k := by omega
              subst this
              rw [e] at ev
              cases ev
              exact ⟨x0, a, n, f0, m, g, rfl, hm0, ha, fun _ d hd => q d hd, fun h => absurd h.symm hmn⟩
          · obtain ⟨b, f, rfl, _, hmb⟩ := hm.get ev
            refine ⟨x0, b, n, f0, n, f, rfl, hm0, hmb, fun h => absurd rfl h, fun _ => ⟨rfl, ⟨_, rfl⟩, fun m2 k2 a2 g2 e2 hm2 hne2 => ?_⟩⟩
            obtain ⟨b2, f2, h5, _, hmb2⟩ := hm.get e2
            cases h5
            exact absurd (uniq hm2 hmb2) hne2
        · rintro σ Hb ⟨rfl, ⟨v1, rfl⟩, hk2⟩
          rcases fin with ⟨m, k, a, g, hb, e, ha, k0, hmn, q⟩ | ⟨fs, hm, q⟩
          · have h1 := hk2 m k a g e ha hmn
            have h2 := (List.getElem?_eq_some_iff.mp e).1
            omega
          · exact q
end
end My
namespace My
open PySem L2 U StX PM
section
variable {P : Program} {w : World} {K : PySem.W.Frag} {mg : Str → Option Value} {base : Heap}
/-- the law's draw of a map, rare or not -/
def spDrw2 : Sp := fun vs H Q _ => ∃ (p : Addr) (n : Int), vs = [.ref p, .int n] ∧ PoolAt H p ∧ 1 ≤ n ∧ n ≤ 300 ∧
  ∀ r H' l, H r = none → H' r = some (.dK (kvI l)) → DI l (lk l) → WF n (lk l) → l.length ≤ 1000 → PoolAt H' p → Off p H H' → Q (.ref r) H'
theorem ok_l_arrR (T : Txt K mg) : FnR P w K mg base CX0 2 T.f_l_arrows spDrw2 := by
  refine T.A_l_arrows.ok sc_l_arrows (fun vs H Q E h => ?_) (fun cdv A outer s H vs Q E hr h => ?_)
  · obtain ⟨p, n, rfl, _⟩ := h
    rfl
  · obtain ⟨p, n, rfl, pool, h1, h3, q⟩ := h
    have hu := hu_of hr
    refine ⟨_, (pss_cons (ps_par3 (i := 2) (j := 3) (l := 4) rfl sc_l_arrows.nd rfl rfl rfl (by decide) (by decide) (by decide) rfl rfl rfl (pa_cons (pe_listRg rfl rfl T.n_list (prg_1 rfl T.n_range (pv 1))) (pa_cons pe_dnewK (pa_cons (pe_op op_add pe_int (pe_callR (ok_draw T) (hr.mono (by decide)) T.A_l_draw.kp rfl T.g_l_draw pass0 (pa_cons (pv 0) (pa_cons pe_int pa_nil)))) pa_nil))) (by rfl))
      (pss_cons (ps_for PassesOwn.never rfl (pi_range1 rfl T.n_range (pa_cons (pv 1) pa_nil)) (pg_name (i := 5) sc_l_arrows.nd rfl (Or.inl rfl))
        (pss_one (ps_if (PW.pt (pw_or (pt_cmpR op_gt (pe_callR (ok_draw T) (hr.mono (by decide)) T.A_l_draw.kp rfl T.g_l_draw pass0 (pa_cons (pv 0) (pa_cons (pv 4) pa_nil))) pe_int (nomark _)) (pw_or1 (pt_cmpR op_eq (pv 4) pe_int (nomark _)))))
        (pss_one (ps_dput hu (pv 3) (pv 5) (pe_bm PySem.F.plainAttrs_list PySem.F.slot_list_pop PySem.F.type_list_pop mt_popAt (pv 2) (pa_cons (pe_callR (ok_draw T) (hr.mono (by decide)) T.A_l_draw.kp rfl T.g_l_draw pass0 (pa_cons (pv 0) (pa_cons (pe_callB call_len_seq (by rfl) T.n_len (by decide +kernel) (pa_cons (pv 2) pa_nil)) pa_nil))) pa_nil)) rfl)) pss_nil)))
      (pss_one (ps_ret (pv 3))))), ?_⟩
    refine ⟨_, rfl, n, rfl, RgOk.of_le (by decide) (by omega) (by decide) (by omega), fun lf hlf => ?_⟩
    intro fo hfo
    have lf0 : H lf = none := hlf
    have fo0 : H fo = none := (Same.new hlf).free hfo
    have npl : p ≠ lf := pool.ne lf0
    have npf : p ≠ fo := pool.ne fo0
    have nlf : lf ≠ fo := ne_of_none upd_same hfo
    refine draw_R rfl (fun R r => r) ((pool.put npl).put npf) (by decide) (by decide) fun w5 H1 w0 w1 pool1 off1 => ⟨_, _, rfl, rfl, ?_⟩
    refine ⟨_, _, _, rfl, ?_⟩
    have lf1 : H1 lf = some (.lst (((List.range n.toNat).map fun (i : Nat) => (i : Int)).map V.int)) := by
      rw [← rg0]
      exact off1 _ _ npl.symm (carryNew hfo upd_same)
    have fo1 : H1 fo = some (.dK (kvI [])) := off1 _ _ npf.symm upd_same
    have offH : Off p H H1 := ((Off.new hlf).tr (Off.new hfo)).tr off1
    refine ⟨_, rfl, n, rfl, by omega, by omega, ?_⟩
    refine for_it (walk_range (lo := 0) (n := n.toNat)) (fun i σ H' => ∃ v5 l ns, σ = [some (.ref p), some (.int n), some (.ref lf), some (.ref fo), some (.int (1 + w5)), v5] ∧ PoolAt H' p ∧ Off p H H' ∧ H' lf = some (.lst (ns.map V.int)) ∧ H' fo = some (.dK (kvI l)) ∧ Drw n i l ns)
      ⟨none, [], _, rfl, pool1, offH, lf1, fo1, drw0 n⟩ (fun _ _ _ _ _ => trivial) ?_ ?_
    · rintro i v σ Ha0 Ha hi ⟨v5, l, ns, rfl, poola, offa, lfa, foa, drw⟩ ⟨rfl, rfl⟩
      refine draw_R rfl (fun R r => ⟨_, rfl, r⟩) poola (by omega) (by omega) fun r2 H2 r20 r21 pool2 off2 => ⟨_, _, rfl, rfl, _, rfl, ?_⟩
      have lf2 := off2 _ _ npl.symm lfa
      have fo2 := off2 _ _ npf.symm foa
      have o2 := offa.tr off2
      have hlen := drw.le
      have hln := drw.ln
      refine ifD (fun h => iteT ?_) (fun h => ⟨_, rfl, rfl, _, rfl, ifD (fun h' => ?_) (fun h' => ?_)⟩)
      rotate_left 2
      · exact ⟨_, l, ns, rfl, pool2, o2, lf2, fo2, drw.more⟩
      all_goals
        refine ⟨_, rfl, .inl ⟨rfl, _, SqL.of lf2⟩, ?_⟩
        refine draw_R (n := (ns.length : Int)) rfl (fun R r => ⟨_, rfl, lf, _, rfl, .inl (SqL.of lf2), by rw [List.length_map]; exact r⟩) pool2 (by omega) (by omega) fun r4 H4 r40 r41 pool4 off4 => ?_
        obtain ⟨y, ey⟩ : ∃ y, ns[r4.toNat]? = some y := ⟨_, List.getElem?_eq_getElem (by omega)⟩
        obtain ⟨d1, d2⟩ := drw.put ey
        have lf4 := off4 _ _ npl.symm lf2
        have fo4 := off4 _ _ npf.symm fo2
        refine ⟨lf, _, r4, r4.toNat, .int y, rfl, rfl, lf4, by omega, by omega, ?_, get_map ey, ?_⟩
        · rw [List.length_map]
          exact PySem.seqIndex_of r40 (by omega)
        refine ⟨_, rfl, _, rfl, fo, _, rfl, DPut.k (k := Sum.inl (0 + (i : Nat) : Int)) (kvs := kvI l) (by rw [upd_ne nlf.symm]; exact fo4) (small1000 (by rw [kvI_length]; omega)), ?_⟩
        rw [Int.zero_add, putK_kvI d2]
        refine ⟨_, _, ns.eraseIdx r4.toNat, rfl, (pool4.put npl).put npf, ?_, ?_, upd_same, d1⟩
        · exact Off.put (Off.put (o2.tr off4) lf0) fo0
        · rw [upd_ne nlf, upd_same]
          congr 2
          apply List.ext_getElem?
          intro m
          simp [List.getElem?_eraseIdx]
          split <;> rfl
    · rintro σ Ha ⟨v5, l, ns, rfl, p1, p2, p3, p4, p5⟩
      have := p5.ln
      exact ⟨_, rfl, q fo Ha l fo0 p4 ⟨p5.kn, fun _ => rfl⟩ (p5.wf (by omega)) (by omega) p1 p2⟩
end
end My
namespace My
open PySem L2 U StX PM
/-! ### several maps that are not all well -/
def ErrB (C CM CS : Addr) (H : Hp) (xs : List V) (E : XK) : Prop :=
  (xs = [] ∧ ∀ H', Same H H' → ∀ d, H' d = none → E (.ref CM) (some d) (upd H' d (.xd [("part", .str "map")]))) ∨
  (∃ (k : Nat) (v : V), xs[k]? = some v ∧ nonMapV H v ∧ (∀ (j : Nat) (u : V), j < k → xs[j]? = some u → ∃ a n f, u = V.ref a ∧ IsMap C H a n f) ∧ ∀ H', Same H H' → ∀ d, H' d = none → E (.ref CM) (some d) (upd H' d (.xd [("part", .str "map")]))) ∨
  (∃ (n m : Int) (k : Nat) (a : Addr) (g : PF), (∀ (j : Nat) (u : V), xs[j]? = some u → ∃ b n' f, u = V.ref b ∧ IsMap C H b n' f ∧ (j < k → n' = n)) ∧ xs[k]? = some (.ref a) ∧ IsMap C H a m g ∧ 0 < k ∧ m ≠ n ∧ ∀ H', Same H H' → mism CS n m H' E)
theorem ErrB.all {C CM CS : Addr} {H : Hp} {xs : List V} {Q : VK} {E : XK} (h : ErrB C CM CS H xs E) : AllB C CM CS H xs Q E := by
  rcases h with h | h | h
  · exact .inl h
  · exact .inr (.inl h)
  · exact .inr (.inr (.inl h))
theorem ErrB.same {C CM CS : Addr} {H H' : Hp} {xs : List V} {E : XK} (h : ErrB C CM CS H xs E) (s : Same H H') : ErrB C CM CS H' xs E := by
  rcases h with ⟨h, q⟩ | ⟨k, v, e, nv, hb, q⟩ | ⟨n, m, k, a, g, hb, e, ha, k0, hmn, q⟩
  · exact .inl ⟨h, fun H2 s2 => q H2 (s.trans s2)⟩
  · refine .inr (.inl ⟨k, v, e, nv.same s, fun j u hj eu => ?_, fun H2 s2 => q H2 (s.trans s2)⟩)
    obtain ⟨a, n, f, rfl, m⟩ := hb j u hj eu
    exact ⟨a, n, f, rfl, m.same s⟩
  · refine .inr (.inr ⟨n, m, k, a, g, fun j u eu => ?_, e, ha.same s, k0, hmn, fun H2 s2 => q H2 (s.trans s2)⟩)
    obtain ⟨b, n', f, rfl, mb, hn⟩ := hb j u eu
    exact ⟨b, n', f, rfl, mb.same s, hn⟩
section
variable {P : Program} {w : World} {K : PySem.W.Frag} {mg : Str → Option Value} {base : Heap}
theorem ok_ini_LimitExceeded (T : Txt K mg) : FnR P w K mg base CX0 1 T.f_LimitExceeded__init (spIni1 T.C_LimitExceeded "limit") := by
  refine T.A_LimitExceeded__init.ok sc_LimitExceeded__init (fun vs H Q E h => ?_) (fun cdv A outer s H vs Q E hr h => ?_)
  · obtain ⟨a, v, rfl, _⟩ := h
    rfl
  · obtain ⟨a, v, rfl, ha, q⟩ := h
    refine ⟨_, pss_one (ps_ostG (pv 0) (pv 1)), ?_⟩
    exact ⟨_, rfl, _, rfl, a, T.C_LimitExceeded, rfl, T.x_LimitExceeded, T.na_limit_LimitExceeded, .inl ⟨ha, fun dx h1 h2 => q dx h1 h2⟩⟩
end
end My
namespace My
open PM
/-! ### search through tables -/
abbrev Ws := List (Int × List Int)
def keys (ws : Ws) : List Int := ws.map (·.1)
inductive Rch (fs : List PF) (s : Int) : Int → Prop
  | refl : Rch fs s s
  | step {p y : Int} {f : PF} : Rch fs s p → f ∈ fs → f p = some y → Rch fs s y
theorem Rch.trans {fs : List PF} {a b c : Int} (h1 : Rch fs a b) (h2 : Rch fs b c) : Rch fs a c := by
  induction h2 with
  | refl => exact h1
  | step _ hf hy ih => exact .step ih hf hy
/-! ### classes -/
end My
namespace My
open PySem L2 U StX PM
/-! ### families -/
def famF (t : Addr) : List (Str × V) := putF "own_maps" (.ref t) []
theorem famF_maps (t : Addr) : (famF t).lookup ("own_maps" : Str) = some (.ref t) := by
  unfold famF
  rw [lookup_putF, if_pos rfl]
structure FamAt (CM CF : Addr) (H : Hp) (a t : Addr) (xs : List V) (n : Int) (fs : List PF) : Prop where
  ob : ∃ dx, H a = some (.ins CF dx (famF t))
  tp : H t = some (.tup xs)
  ms : MapsAt CM H n xs fs
  ne : fs ≠ []
  le : xs.length ≤ 10
theorem FamAt.same {CM CF : Addr} {H H' : Hp} {a t : Addr} {xs : List V} {n : Int} {fs : List PF} (h : FamAt CM CF H a t xs n fs) (s : Same H H') : FamAt CM CF H' a t xs n fs := by
  obtain ⟨⟨dx, e⟩, tp, ms, ne, le⟩ := h
  exact ⟨⟨dx, s _ _ e⟩, s _ _ tp, ms.same s, ne, le⟩
theorem FamAt.len {CM CF : Addr} {H : Hp} {a t : Addr} {xs : List V} {n : Int} {fs : List PF} (h : FamAt CM CF H a t xs n fs) : xs.length = fs.length := paired_len h.ms
/-- the first map -/
theorem MapsAt.first {C : Addr} {H : Hp} {n : Int} {xs : List V} {fs : List PF} (h : MapsAt C H n xs fs) (ne : fs ≠ []) : ∃ a f, xs[0]? = some (.ref a) ∧ IsMap C H a n f := by
  unfold MapsAt at h
  cases h with
  | nil => exact absurd rfl ne
  | cons h0 _ =>
    obtain ⟨a, rfl, hm⟩ := h0
    exact ⟨a, _, rfl, hm⟩
theorem MapsAt.app {C : Addr} {H : Hp} {n : Int} {xs ys : List V} {fs gs : List PF} (h : MapsAt C H n xs fs) (g : MapsAt C H n ys gs) : MapsAt C H n (xs ++ ys) (fs ++ gs) := by
  unfold MapsAt at h ⊢
  induction h with
  | nil => exact g
  | cons a _ ih => exact .cons a ih
theorem IsMap.offI {C p : Addr} {H H' : Hp} {m : Addr} {n : Int} {f : PF} {C' dx : Addr} (a : IsMap C H m n f) (o : Off p H H') (h : H p = some (.ins C' dx [])) : IsMap C H' m n f := by
  obtain ⟨⟨dx, D, h1, h2⟩, wf, lo, hi⟩ := a
  refine ⟨⟨dx, D, o _ _ (fun e => ?_) h1, o _ _ (fun e => by rw [e, h] at h2; cases h2) h2⟩, wf, lo, hi⟩
  rw [e, h] at h1
  have e3 := (HO.ins.inj (Option.some.inj h1)).2.2
  have := flds_size n D
  rw [← e3] at this
  cases this
def spMany (CL : Addr) : Sp := fun vs H Q E => ∃ n : Int, vs = [.int n] ∧ ((n ≤ 10 ∧ Q .non H) ∨ (10 < n ∧ ∀ d, H d = none → E (.ref CL) (some d) (upd H d (.xd [("limit", .int 10)]))))
def spFamI (CM CF CI CS CL : Addr) : Sp := fun vs H Q E => ∃ (p t : Addr) (dx : Addr) (xs : List V), vs = [.ref p, .ref t] ∧ H p = some (.ins CF dx []) ∧ H t = some (.tup xs) ∧ xs.length ≤ 100 ∧
  (ErrB CM CI CS H xs E ∨ ∃ n fs, MapsAt CM H n xs fs ∧ fs ≠ [] ∧ ((10 < xs.length ∧ ∀ H', Same H H' → ∀ d, H' d = none → E (.ref CL) (some d) (upd H' d (.xd [("limit", .int 10)]))) ∨
    (xs.length ≤ 10 ∧ ∀ H', Off p H H' → FamAt CM CF H' p t xs n fs → Q .non H')))
/-- Family(..) of maps that are all well -/
theorem famInit_of {CM CF CI CS CL : Addr} {H : Hp} {xs : List V} {n : Int} {fs : List PF} {R : VK} {E : XK} {x dx : Addr} (hm : MapsAt CM H n xs fs) (ne : fs ≠ []) (hl : xs.length ≤ 10)
    (nx : H x = none) (ndx : H dx = none) (nd : dx ≠ x) (q : ∀ t H', Same H H' → FamAt CM CF H' x t xs n fs → R .non H') :
    spStar 1 (spFamI CM CF CI CS CL) (.ref x :: xs) (upd (upd H dx (.own x)) x (.ins CF dx [])) R E := by
  have s0 : Same H (upd (upd H dx (.own x)) x (.ins CF dx [])) := fun b o e => by
    rw [upd_ne (ne_of_none e nx), upd_ne (ne_of_none e ndx)]
    exact e
  refine ⟨[.ref x], xs, rfl, rfl, le_line (by omega), fun t nt => ?_⟩
  have nxt : x ≠ t := fun z => by rw [← z, upd_same] at nt; cases nt
  have s1 := s0.trans (Same.new (o := .tup xs) nt)
  refine ⟨x, t, dx, xs, rfl, by rw [upd_ne nxt]; exact upd_same, upd_same, by omega, .inr ⟨n, fs, hm.same s1, ne, .inr ⟨hl, fun H' o hf => ?_⟩⟩⟩
  exact q t H' (fun b u e => o b u (ne_of_none e nx) (s1 b u e)) hf
def spFam1 (CM CF : Addr) (pick : Addr → Int → V) : Sp := fun vs H Q _ => ∃ (a t : Addr) (xs : List V) (n : Int) (fs : List PF), vs = [.ref a] ∧ FamAt CM CF H a t xs n fs ∧ Q (pick t n) H
def spMade (CM CF : Addr) : Sp := fun vs H Q _ => ∃ (l : Addr) (xs : List V) (n : Int) (fs : List PF), vs = [.ref l] ∧ H l = some (.lst xs) ∧ MapsAt CM H n xs fs ∧ fs ≠ [] ∧ xs.length ≤ 10 ∧ ∀ p t H', Same H H' → FamAt CM CF H' p t xs n fs → Q (.ref p) H'
def spFamAdd (CM CF CS CL : Addr) : Sp := fun vs H Q E => ∃ (a b t u : Addr) (xs ys : List V) (n m : Int) (fs gs : List PF), vs = [.ref a, .ref b] ∧ FamAt CM CF H a t xs n fs ∧ FamAt CM CF H b u ys m gs ∧
  ((n ≠ m ∧ mism CS n m H E) ∨ (n = m ∧ 10 < xs.length + ys.length ∧ ∀ d, H d = none → E (.ref CL) (some d) (upd H d (.xd [("limit", .int 10)]))) ∨
    (n = m ∧ xs.length + ys.length ≤ 10 ∧ ∀ p t' H', Same H H' → FamAt CM CF H' p t' (xs ++ ys) n (fs ++ gs) → Q (.ref p) H'))
section
variable {P : Program} {w : World} {K : PySem.W.Frag} {mg : Str → Option Value} {base : Heap}
theorem okX_check_many (T : Txt K mg) : FnR P w K mg base (L2.CX P w) 3 T.f_check_many (spMany T.C_LimitExceeded) := by
  refine T.A_check_many.okX sc_check_many (fun vs H Q E h => ?_) (fun cdv A outer s H vs Q E hr h => ?_)
  · obtain ⟨n, rfl, _⟩ := h
    rfl
  · obtain ⟨n, rfl, h⟩ := h
    obtain ⟨_, h_MOST_MAPS⟩ := T.v_MOST_MAPS
    refine ⟨_, (pss_one (ps_if (pt_cmpR op_gt (pv 0) (pe_glob (v := .int 10) rfl h_MOST_MAPS ⟨_, rfl⟩) (nomark _))
        (pss_one (ps_raise rfl (takes_of rfl rfl rfl rfl) (pmk_oexG T.x_LimitExceeded T.m_LimitExceeded__init T.ti_LimitExceeded__init (ok_ini_LimitExceeded T) (hr.mono (by decide)) pass0 rfl T.g_LimitExceeded (pa_cons (pe_glob (v := .int 10) rfl h_MOST_MAPS ⟨_, rfl⟩) pa_nil)))) pss_nil)), ?_⟩
    refine ⟨_, rfl, _, _, rfl, rfl, _, rfl, ?_⟩
    rcases h with ⟨h1, q⟩ | ⟨h1, q⟩
    · exact ifD (fun z => absurd z (by omega)) (fun _ => q)
    · exact ifD (fun _ => mk_one fun d hd => q d hd) (fun z => absurd h1 z)
theorem okX_f_init (T : Txt K mg) : FnR P w K mg base (L2.CX P w) 7 T.f_Family__init (spStar 1 (spFamI T.C_Map T.C_Family T.C_InvalidMap T.C_SizeMismatch T.C_LimitExceeded)) := by
  refine T.A_Family__init.okX sc_Family__init (fun cdv A outer s H vs Q E hr h => ?_)
  obtain ⟨p, t, dx, xs, rfl, hp, ht, hl, h⟩ := h
  refine ⟨_, (pss_cons (ps_expr (pe_callR (ok_check_all T) (hr.mono (by decide)) T.A_check_all.kp rfl T.g_check_all (passes_call (takes_of rfl rfl rfl rfl) (fun _ _ _ _ h => h)) (pa_cons (pv 1) pa_nil)))
      (pss_cons (ps_expr (pe_callR (okX_check_many T) (hr.mono (by decide)) T.A_check_many.kp rfl T.g_check_many (passes_call (takes_of rfl rfl rfl rfl) (fun _ _ _ _ h => h)) (pa_cons (pe_callB call_len_seq (by rfl) T.n_len (by decide +kernel) (pa_cons (pv 1) pa_nil)) pa_nil)))
      (pss_one (ps_fld (pv 0) (pe_callTy call_tuple_of (by rfl) T.n_tuple (by decide +kernel) (pa_cons (pv 1) pa_nil)) rfl)))), ?_⟩
  rcases h with h | ⟨n, fs, hm, ne, h⟩
  · exact ⟨_, rfl, t, xs, rfl, ht, hl, h.all⟩
  · refine ⟨_, rfl, t, xs, rfl, ht, hl, .inr (.inr (.inr ⟨n, fs, hm, ne, fun H1 s1 => ?_⟩))⟩
    refine ⟨_, rfl, t, _, rfl, .inr (SqT.of (s1 _ _ ht)), _, rfl, ?_⟩
    rcases h with ⟨h1, q⟩ | ⟨h1, q⟩
    · exact .inr ⟨by omega, fun d hd => q H1 s1 d hd⟩
    · refine .inl ⟨by omega, ?_⟩
      refine ⟨_, rfl, t, _, rfl, .inr ⟨SqT.of (s1 _ _ ht), ?_⟩⟩
      refine ⟨_, rfl, p, T.C_Family, dx, [], rfl, s1 _ _ hp, T.o_Family.cl, T.na_own_maps_Family, (by show 0 < 1000; decide), ?_⟩
      have npt : t ≠ p := ne_of ht hp (by intro z; cases z)
      have o : Off p H (upd H1 p (.ins T.C_Family dx (putF "own_maps" (.ref t) []))) := fun b u hb e => by rw [upd_ne hb]; exact s1 _ _ e
      refine q _ o ⟨⟨dx, upd_same⟩, o _ _ npt ht, ?_, ne, h1⟩
      exact PySem.Paired.map hm fun v _ f ⟨a, e, m⟩ => ⟨a, e, m.offI o hp⟩
theorem ok_f_maps (T : Txt K mg) : FnR P w K mg base CX0 1 T.f_Family_maps (spFam1 T.C_Map T.C_Family fun t _ => .ref t) := by
  refine T.A_Family_maps.ok sc_Family_maps (fun vs H Q E h => ?_) (fun cdv A outer s H vs Q E hr h => ?_)
  · obtain ⟨a, t, xs, n, fs, rfl, _⟩ := h
    rfl
  · obtain ⟨a, t, xs, n, fs, rfl, hf, q⟩ := h
    obtain ⟨dx, e⟩ := hf.ob
    refine ⟨_, (pss_one (ps_ret (pe_fld (pv 0) rfl))), ?_⟩
    exact ⟨_, rfl, a, _, dx, _, _, rfl, e, T.o_Family.cl, T.na_own_maps_Family, famF_maps _, q⟩
theorem ok_f_size (T : Txt K mg) : FnR P w K mg base CX0 3 T.f_Family_size (spFam1 T.C_Map T.C_Family fun _ n => .int n) := by
  refine T.A_Family_size.ok sc_Family_size (fun vs H Q E h => ?_) (fun cdv A outer s H vs Q E hr h => ?_)
  · obtain ⟨a, t, xs, n, fs, rfl, _⟩ := h
    rfl
  · obtain ⟨a, t, xs, n, fs, rfl, hf, q⟩ := h
    obtain ⟨dx, e⟩ := hf.ob
    obtain ⟨m, f, e0, hm⟩ := hf.ms.first hf.ne
    obtain ⟨dm, fm, em⟩ := at_map hm
    refine ⟨_, (pss_one (ps_ret (pe_propR (pe_ix ix_tup (pe_fld (pv 0) rfl) pe_int (fun _ _ => rfl)) T.o_Map.cl T.P_Map_size (ok_size T) (hr.mono (by decide))))), ?_⟩
    exact ⟨_, rfl, a, _, dx, _, _, rfl, e, T.o_Family.cl, T.na_own_maps_Family, famF_maps _, t, _, 0, _, rfl, rfl, SqT.of hf.tp, atI_nat (j := 0) e0, m, dm, fm, rfl, em, m, n, f, rfl, hm, q⟩
theorem ok_made (T : Txt K mg) : FnR P w K mg base CX0 10 T.f_made (spMade T.C_Map T.C_Family) := by
  refine T.A_made.ok sc_made (fun vs H Q E h => ?_) (fun cdv A outer s H vs Q E hr h => ?_)
  · obtain ⟨l, xs, n, fs, rfl, _⟩ := h
    rfl
  · obtain ⟨l, xs, n, fs, rfl, hl, hm, ne, h10, q⟩ := h
    refine ⟨_, (pss_one (ps_ret (pe_makeS1 T.M_Family (fnR_calm (okX_f_init T)) (hr.mono (by decide)) rfl T.g_Family pass0 (pv 0)))), ?_⟩
    refine ⟨_, rfl, l, xs, rfl, .inr (SqL.of hl), fun x dx nx ndx nd => famInit_of hm ne h10 nx ndx nd fun t H' s hf => ⟨rfl, q x t H' s hf⟩⟩
theorem okX_f_add (T : Txt K mg) : FnR P w K mg base (L2.CX P w) 12 T.f_Family__add (spFamAdd T.C_Map T.C_Family T.C_SizeMismatch T.C_LimitExceeded) := by
  refine T.A_Family__add.okX sc_Family__add (fun vs H Q E h => ?_) (fun cdv A outer s H vs Q E hr h => ?_)
  · obtain ⟨a, b, t, u, xs, ys, n, m, fs, gs, rfl, _⟩ := h
    rfl
  · obtain ⟨a, b, t, u, xs, ys, n, m, fs, gs, rfl, ha, hb, h⟩ := h
    refine ⟨_, (pss_cons (ps_if (pt_not (pt_val (pe_callB call_isi (by rfl) T.n_isinstance (by decide +kernel) (pa_cons (pv 1) (pa_cons (pe_glob (v := .ref T.C_Family) rfl T.g_Family rfl) pa_nil)))))
        (pss_one ps_never) pss_nil)
      (pss_cons (ps_if (pt_cmpR op_ne (pe_propR (pe_ix ix_tup (pe_fld (pv 0) rfl) pe_int (fun _ _ => rfl)) T.o_Map.cl T.P_Map_size (ok_size T) (hr.mono (by decide))) (pe_propR (pe_ix ix_tup (pe_fld (pv 1) rfl) pe_int (fun _ _ => rfl)) T.o_Map.cl T.P_Map_size (ok_size T) (hr.mono (by decide))) (nomark _))
        (pss_one (ps_raise rfl (takes_of rfl rfl rfl rfl) (pmk_oexG T.x_SizeMismatch T.m_SizeMismatch__init T.ti_SizeMismatch__init (ok_ini_SizeMismatch T) (hr.mono (by decide)) pass0 rfl T.g_SizeMismatch (pa_cons (pe_propR (pe_ix ix_tup (pe_fld (pv 0) rfl) pe_int (fun _ _ => rfl)) T.o_Map.cl T.P_Map_size (ok_size T) (hr.mono (by decide))) (pa_cons (pe_propR (pe_ix ix_tup (pe_fld (pv 1) rfl) pe_int (fun _ _ => rfl)) T.o_Map.cl T.P_Map_size (ok_size T) (hr.mono (by decide))) pa_nil))))) pss_nil)
      (pss_cons (ps_expr (pe_callR (okX_check_many T) (hr.mono (by decide)) T.A_check_many.kp rfl T.g_check_many (passes_call (takes_of rfl rfl rfl rfl) (fun _ _ _ _ h => h)) (pa_cons (pe_op op_add (pe_callB call_len_seq (by rfl) T.n_len (by decide +kernel) (pa_cons (pe_fld (pv 0) rfl) pa_nil)) (pe_callB call_len_seq (by rfl) T.n_len (by decide +kernel) (pa_cons (pe_fld (pv 1) rfl) pa_nil))) pa_nil)))
      (pss_one (ps_ret (pe_callR (ok_made T) (hr.mono (by decide)) T.A_made.kp rfl T.g_made pass0 (pa_cons (pe_lst (pa_star (pe_fld (pv 0) rfl) (pa_star (pe_fld (pv 1) rfl) pa_nil))) pa_nil))))))), ?_⟩
    obtain ⟨dxa, ea⟩ := ha.ob
    obtain ⟨dxb, eb⟩ := hb.ob
    obtain ⟨m1, f1, e1, hm1⟩ := ha.ms.first ha.ne
    obtain ⟨m2, f2, e2, hm2⟩ := hb.ms.first hb.ne
    obtain ⟨d1, l1, em1⟩ := at_map hm1
    obtain ⟨d2, l2, em2⟩ := at_map hm2
    refine ⟨_, rfl, _, _, _, _, true, rfl, .own _, tyx_ins T.o_Family eb, T.self_Family, _, rfl, iteF ?_⟩
    refine ⟨_, rfl, a, _, dxa, _, _, rfl, ea, T.o_Family.cl, T.na_own_maps_Family, famF_maps _, t, _, 0, _, rfl, rfl, SqT.of ha.tp, atI_nat (j := 0) e1, m1, d1, l1, rfl, em1, m1, n, f1, rfl, hm1, ?_⟩
    refine ⟨_, rfl, b, _, dxb, _, _, rfl, eb, T.o_Family.cl, T.na_own_maps_Family, famF_maps _, u, _, 0, _, rfl, rfl, SqT.of hb.tp, atI_nat (j := 0) e2, m2, d2, l2, rfl, em2, m2, m, f2, rfl, hm2, ?_⟩
    refine ⟨rfl, _, rfl, ?_⟩
    rcases h with ⟨h1, q⟩ | ⟨rfl, h1, q⟩ | ⟨rfl, h1, q⟩
    · rw [decide_eq_false (fun z => h1 (V.int.inj z))]
      refine iteT ?_
      refine ⟨_, rfl, a, _, dxa, _, _, rfl, ea, T.o_Family.cl, T.na_own_maps_Family, famF_maps _, t, _, 0, _, rfl, rfl, SqT.of ha.tp, atI_nat (j := 0) e1, m1, d1, l1, rfl, em1, m1, n, f1, rfl, hm1, ?_⟩
      refine ⟨_, rfl, b, _, dxb, _, _, rfl, eb, T.o_Family.cl, T.na_own_maps_Family, famF_maps _, u, _, 0, _, rfl, rfl, SqT.of hb.tp, atI_nat (j := 0) e2, m2, d2, l2, rfl, em2, m2, m, f2, rfl, hm2, ?_⟩
      exact mk_two fun d hd => q d hd
    · rw [decide_eq_true rfl]
      refine iteF ?_
      refine ⟨_, rfl, a, _, dxa, _, _, rfl, ea, T.o_Family.cl, T.na_own_maps_Family, famF_maps _, t, _, rfl, .inr (SqT.of ha.tp), ?_⟩
      refine ⟨_, rfl, b, _, dxb, _, _, rfl, eb, T.o_Family.cl, T.na_own_maps_Family, famF_maps _, u, _, rfl, .inr (SqT.of hb.tp), _, _, rfl, rfl, ?_⟩
      exact ⟨_, rfl, .inr ⟨by omega, q⟩⟩
    · rw [decide_eq_true rfl]
      refine iteF ?_
      refine ⟨_, rfl, a, _, dxa, _, _, rfl, ea, T.o_Family.cl, T.na_own_maps_Family, famF_maps _, t, _, rfl, .inr (SqT.of ha.tp), ?_⟩
      refine ⟨_, rfl, b, _, dxb, _, _, rfl, eb, T.o_Family.cl, T.na_own_maps_Family, famF_maps _, u, _, rfl, .inr (SqT.of hb.tp), _, _, rfl, rfl, ?_⟩
      refine ⟨_, rfl, .inl ⟨by omega, ?_⟩⟩
      refine ⟨_, rfl, a, _, dxa, _, _, rfl, ea, T.o_Family.cl, T.na_own_maps_Family, famF_maps _, t, _, rfl, .inl (SqT.of ha.tp), ?_⟩
      refine ⟨_, rfl, b, _, dxb, _, _, rfl, eb, T.o_Family.cl, T.na_own_maps_Family, famF_maps _, u, _, rfl, .inl (SqT.of hb.tp), ?_⟩
      refine ⟨?_, fun l nl => ⟨l, xs ++ ys, _, fs ++ gs, rfl, ?_, (ha.ms.app hb.ms).same (Same.new nl), fun z => ha.ne (List.append_eq_nil_iff.mp z).1, by rw [List.length_append]; exact h1, fun p t' H' s hf => ?_⟩⟩
      · exact le_line (by simp only [List.length_append, List.length_nil]; omega)
      · rw [upd_same, List.append_nil]
      · exact q p t' H' ((Same.new nl).trans s) hf
end
end My
namespace My
open PySem L2 U StX PM
/-! ### dicts of places to words -/
def WRel (H : Hp) (kv : Key × V) (e : Int × List Int) : Prop := kv.1 = Sum.inl e.1 ∧ ∃ p, kv.2 = V.ref p ∧ H p = some (.tup (e.2.map V.int))
def WdAt (H : Hp) (D : Addr) (ws : Ws) : Prop := ∃ kvs : List (Key × V), H D = some (.dK kvs) ∧ Paired (WRel H) kvs ws
theorem WRel.mono {H H' : Hp} (s : ∀ (p : Addr) (xs : List V), H p = some (.tup xs) → H' p = some (.tup xs)) {kv : Key × V} {e : Int × List Int} (h : WRel H kv e) : WRel H' kv e := by
  obtain ⟨h1, p, h2, h3⟩ := h
  exact ⟨h1, p, h2, s _ _ h3⟩
theorem WdAt.same {H H' : Hp} {D : Addr} {ws : Ws} (h : WdAt H D ws) (s : Same H H') : WdAt H' D ws := by
  obtain ⟨kvs, h1, h2⟩ := h
  exact ⟨kvs, s _ _ h1, PySem.Paired.map h2 fun _ _ _ r => r.mono fun _ _ e => s _ _ e⟩
/-- what stands elsewhere changes -/
theorem WdAt.off {H H' : Hp} {D W : Addr} {ws : Ws} (h : WdAt H D ws) (o : Off W H H') (hw : ∃ xs, H W = some (.lst xs)) : WdAt H' D ws := by
  obtain ⟨kvs, h1, h2⟩ := h
  obtain ⟨ys, hw⟩ := hw
  exact ⟨kvs, o _ _ (fun z => by rw [z, hw] at h1; cases h1) h1, PySem.Paired.map h2 fun _ _ _ r => r.mono fun p _ e => o _ _ (fun z => by rw [z, hw] at e; cases e) e⟩
theorem WdAt.len {H : Hp} {D : Addr} {ws : Ws} (h : WdAt H D ws) : ∃ kvs : List (Key × V), H D = some (.dK kvs) ∧ kvs.length = ws.length := by
  obtain ⟨kvs, h1, h2⟩ := h
  exact ⟨kvs, h1, paired_len h2⟩
theorem wrel_val {H : Hp} {x : Int} : ∀ {kvs : List (Key × V)} {ws : Ws}, Paired (WRel H) kvs ws → (x ∉ keys ws → valV kvs (Sum.inl x) = none) ∧ (x ∈ keys ws → ∃ e p, e ∈ ws ∧ e.1 = x ∧ valV kvs (Sum.inl x) = some (V.ref p) ∧ H p = some (.tup (e.2.map V.int)))
  | [], [], _ => ⟨fun _ => rfl, fun h => nomatch h⟩
  | kv :: kvs, e :: ws, h => by
    cases h with
    | cons h1 h2 =>
      obtain ⟨i1, i2⟩ := wrel_val (x := x) h2
      obtain ⟨g1, p, g2, g3⟩ := h1
      by_cases hx : e.1 = x
      · refine ⟨fun hn => absurd (by simp [keys, hx]) hn, fun _ => ⟨e, p, List.mem_cons_self, hx, ?_, g3⟩⟩
        rw [valV_pos (by rw [g1, hx]), g2]
      · have hne : ¬ kv.1 = Sum.inl x := fun z => by rw [g1] at z; exact hx (Sum.inl.inj z)
        refine ⟨fun hn => ?_, fun hm => ?_⟩
        · rw [valV_neg hne]
          exact i1 fun z => hn (List.mem_cons_of_mem _ z)
        · rw [valV_neg hne]
          obtain ⟨e', p', q1, q2⟩ := i2 (by
            rcases List.mem_cons.mp hm with z | z
            · exact absurd z.symm hx
            · exact z)
          exact ⟨e', p', List.mem_cons_of_mem _ q1, q2⟩
/-- is a place among the words -/
theorem WdAt.has {H : Hp} {D : Addr} {ws : Ws} (h : WdAt H D ws) (x : Int) : ∃ o, DGet H D (.int x) o ∧ o.isSome = decide (x ∈ keys ws) := by
  obtain ⟨kvs, h1, h2⟩ := h
  refine ⟨_, DGet.k (k := Sum.inl x) h1, ?_⟩
  obtain ⟨i1, i2⟩ := wrel_val (x := x) h2
  by_cases hx : x ∈ keys ws
  · obtain ⟨e, p, _, _, hv, _⟩ := i2 hx
    rw [hv, decide_eq_true hx]
    rfl
  · rw [i1 hx, decide_eq_false hx]
    rfl
theorem keys_uniq {ws : Ws} (nd : (keys ws).Nodup) {e e' : Int × List Int} (h : e ∈ ws) (h' : e' ∈ ws) (x : e.1 = e'.1) : e = e' := by
  induction ws with
  | nil => cases h
  | cons a r ih =>
    rw [show keys (a :: r) = a.1 :: keys r from rfl, List.nodup_cons] at nd
    rcases List.mem_cons.mp h with h1 | h1
    · rcases List.mem_cons.mp h' with h2 | h2
      · rw [h1, h2]
      · exact absurd (show a.1 ∈ keys r from List.mem_map.mpr ⟨e', h2, by rw [← x, h1]⟩) nd.1
    · rcases List.mem_cons.mp h' with h2 | h2
      · exact absurd (show a.1 ∈ keys r from List.mem_map.mpr ⟨e, h1, by rw [x, h2]⟩) nd.1
      · exact ih nd.2 h1 h2
theorem WdAt.get {H : Hp} {D : Addr} {ws : Ws} (h : WdAt H D ws) (nd : (keys ws).Nodup) {e : Int × List Int} (he : e ∈ ws) : ∃ p, DGet H D (.int e.1) (some (.ref p)) ∧ H p = some (.tup (e.2.map V.int)) := by
  obtain ⟨kvs, h1, h2⟩ := h
  obtain ⟨i1, i2⟩ := wrel_val (x := e.1) h2
  obtain ⟨e', p, q1, q2, q3, q4⟩ := i2 (List.mem_map.mpr ⟨e, he, rfl⟩)
  have := keys_uniq nd he q1 q2.symm
  subst this
  refine ⟨p, ?_, q4⟩
  have := DGet.k (k := Sum.inl e.1) h1
  rw [q3] at this
  exact this
/-- one word more -/
theorem WdAt.put {H : Hp} {D t : Addr} {ws : Ws} (h : WdAt H D ws) {x : Int} {w : List Int} (hx : x ∉ keys ws) (ht : H t = some (.tup (w.map V.int))) (hl : ws.length < sizeLine) : ∃ H', DPut H D (.int x) (.ref t) H' ∧ WdAt H' D (ws ++ [(x, w)]) ∧ ∃ o, H' = upd H D o := by
  obtain ⟨kvs, h1, h2⟩ := h
  have hln := paired_len h2
  refine ⟨_, DPut.k (k := Sum.inl x) h1 (by omega), ?_, _, rfl⟩
  have e : putK kvs (Sum.inl x : Key) (V.ref t) = kvs ++ [(Sum.inl x, .ref t)] := by
    unfold putK
    rw [if_neg]
    rw [valV_any, (wrel_val h2).1 hx]
    exact Bool.false_ne_true
  refine ⟨_, upd_same, ?_⟩
  rw [e]
  have up : ∀ (p : Addr) (xs : List V), H p = some (.tup xs) → (upd H D (.dK (kvs ++ [(Sum.inl x, .ref t)]))) p = some (.tup xs) := fun p xs e => by
    rw [upd_ne (fun z => by rw [z, h1] at e; cases e)]
    exact e
  exact paired_snoc (PySem.Paired.map h2 fun _ _ _ r => r.mono up) ⟨rfl, t, rfl, up _ _ ht⟩
/-! ### tables -/
def TabD (H : Hp) (v : V) (f : PF) : Prop := ∃ d l, v = V.ref d ∧ H d = some (.dK (kvI l)) ∧ DI l f ∧ l.length ≤ 1000
def TabsAt' (H : Hp) (ds : List V) (fs : List PF) : Prop := Paired (TabD H) ds fs
theorem TabsAt'.same {H H' : Hp} {ds : List V} {fs : List PF} (h : TabsAt' H ds fs) (s : Same H H') : TabsAt' H' ds fs := PySem.Paired.map h fun _ _ _ ⟨d, l, e, h1, h2⟩ => ⟨d, l, e, s _ _ h1, h2⟩
theorem dpI {K : PySem.W.Frag} {H : Hp} : ∀ (l : List Int), DpAll K H (l.map V.int) (l.map PyData.int)
  | [] => .nil
  | _ :: r => .cons (.int _) (dpI r)
theorem shI (l : List Int) : SeqAt.shaped (.list (l.map PyData.int)) = true := shaped_all fun d hd => by
    obtain ⟨n, _, rfl⟩ := List.mem_map.mp hd
    exact ⟨rfl, Nat.zero_le _⟩
section
variable {P : Program} {w : World} {K : PySem.W.Frag} {mg : Str → Option Value} {base : Heap}
theorem ok_check_family (T : Txt K mg) : FnR P w K mg base CX0 3 T.f_check_family (spFam1 T.C_Map T.C_Family fun _ _ => .non) := by
  refine T.A_check_family.ok sc_check_family (fun vs H Q E h => ?_) (fun cdv A outer s H vs Q E hr h => ?_)
  · obtain ⟨a, t, xs, n, fs, rfl, _⟩ := h
    rfl
  · obtain ⟨a, t, xs, n, fs, rfl, hf, q⟩ := h
    obtain ⟨dx, e⟩ := hf.ob
    refine ⟨_, (pss_one (ps_if (pt_not (pt_val (pe_callB call_isi (by rfl) T.n_isinstance (by decide +kernel) (pa_cons (pv 0) (pa_cons (pe_glob (v := .ref T.C_Family) rfl T.g_Family rfl) pa_nil)))))
        (pss_one ps_never) pss_nil)), ?_⟩
    exact ⟨_, rfl, _, _, _, _, true, rfl, .own _, tyx_ins T.o_Family e, T.self_Family, _, rfl, iteF q⟩
end
end My
namespace My
open PySem L2 U StX PM
/-! ### reached, path -/
theorem paired_of {α β : Type} {R : α → β → Prop} : ∀ {xs : List α} {ys : List β}, xs.length = ys.length → (∀ (k : Nat) (x : α) (y : β), xs[k]? = some x → ys[k]? = some y → R x y) → Paired R xs ys
  | [], [], _, _ => .nil
  | [], _ :: _, h, _ => by cases h
  | _ :: _, [], h, _ => by cases h
  | x :: xs, y :: ys, h, hr => .cons (hr 0 x y rfl rfl) (paired_of (by simpa using h) fun k a b h1 h2 => hr (k + 1) a b h1 h2)
/-- [.. for x in a tuple], the items new objects -/
theorem lc_tupO {K : PySem.W.Frag} {te : TE} {i : Nat} {tv : TE} {vs : List Nat} {σ : L2.St} {H : Hp} {Q : VK} {xs : List V} (o : Nat → HO)
    (hte : ∀ R : VK, (∀ t H1, Same H H1 → H1 t = some (.tup xs) → R (.ref t) H1) → te σ H R) (hw : ∀ a, wipe ((wipe σ vs).set i a) vs = wipe σ vs) (hn : xs.length < sizeLine)
    (hb : ∀ (k : Nat) (x : V), xs[k]? = some x → ∀ H1, L2.Same H H1 → ∀ R : VK, (∀ b H2, L2.Same H1 H2 → H1 b = none → H2 b = some (o k) → R (.ref b) H2) → tv ((wipe σ vs).set i (some x)) H1 R)
    (hq : ∀ (D : Addr) (bs : List Addr) (H' : Hp), L2.Same H H' → H D = none → H' D = some (.lst (bs.map V.ref)) → bs.length = xs.length → (∀ (k : Nat) (b : Addr), bs[k]? = some b → H' b = some (o k)) → Q (.ref D) H') : tLc (iTup K te) (gName i) tYes tv vs σ H Q := by
  refine hte _ fun t H1 s1 ht => ⟨t, rfl, ⟨_, SqT.of ht⟩, fun D hD => ?_⟩
  refine lc_it (walk_tup (xs := xs)) (fun k H' => L2.Same H1 H' ∧ ∃ bs : List Addr, H' D = some (.lst (bs.map V.ref)) ∧ bs.length = k ∧ ∀ (j : Nat) (b : Addr), bs[j]? = some b → H' b = some (o j) ∧ b ≠ D) ⟨Same.new hD, [], upd_same, rfl, fun j b e => by simp at e⟩ (fun k H' _ p => SqT.of (p.1 _ _ ht)) ?_ ?_
  · rintro k v H' H'' hk ⟨s2, bs, e1, hl, hbs⟩ ⟨rfl, ev⟩
    refine ⟨hw _, yes_ ?_⟩
    refine hb k v ev _ (s1.trans s2) _ fun b H2 s3 nb eb => ?_
    have e2 := s3 _ _ e1
    have nbD : b ≠ D := fun z => by rw [z, e1] at nb; cases nb
    refine ⟨_, e2, by rw [List.length_map, hl]; exact Nat.lt_trans hk hn, Same.put (s2.trans s3) hD, bs ++ [b], by rw [upd_same, List.map_append]; rfl, by simp [hl], fun j b' e => ?_⟩
    by_cases hj : j < bs.length
    · rw [List.getElem?_append_left hj] at e
      obtain ⟨h1, h2⟩ := hbs j b' e
      exact ⟨by rw [upd_ne h2]; exact s3 _ _ h1, h2⟩
    · have hl2 := (List.getElem?_eq_some_iff.mp e).1
      rw [List.length_append, List.length_singleton] at hl2
      have ej : j = k := by omega
      subst ej
      rw [List.getElem?_append_right (by omega), hl, Nat.sub_self] at e
      cases e
      exact ⟨by rw [upd_ne nbD]; exact eb, nbD⟩
  · rintro H' ⟨s2, bs, e1, hl, hbs⟩
    exact hq D bs H' (s1.trans s2) (s1.free hD) e1 hl fun k b e => (hbs k b e).1
/-- dicts of the maps' arrows are tables -/
theorem tabs_arr {CM : Addr} {H H' : Hp} {n : Int} {xs : List V} {fs : List PF} {bs : List Addr} (hm : MapsAt CM H n xs fs) (hl : bs.length = xs.length) (hb : ∀ (k : Nat) (b : Addr), bs[k]? = some b → H' b = some (.dK (kvI (tab n ((fs[k]?).getD emp))))) : TabsAt' H' (bs.map V.ref) fs := by
  refine paired_of (by rw [List.length_map, hl]; exact paired_len hm) fun k v f h1 h2 => ?_
  rw [List.getElem?_map] at h1
  obtain ⟨b, h3, rfl⟩ := Option.map_eq_some_iff.mp h1
  have h4 := hb k b h3
  rw [h2] at h4
  obtain ⟨v', hv⟩ : ∃ v', xs[k]? = some v' := ⟨_, List.getElem?_eq_getElem (by have := (List.getElem?_eq_some_iff.mp h3).1; omega)⟩
  obtain ⟨a, f', rfl, hf', hm'⟩ := hm.get hv
  rw [h2] at hf'
  cases hf'
  have := tab_len n f
  have := hm'.hi
  have := hm'.lo
  exact ⟨b, tab n f, rfl, h4, di_tab hm'.wf, by omega⟩
theorem MapsAt.wf {CM : Addr} {H : Hp} {n : Int} {xs : List V} {fs : List PF} (hm : MapsAt CM H n xs fs) : ∀ f ∈ fs, WF n f := fun f hf => by
  obtain ⟨k, hk⟩ := List.getElem?_of_mem hf
  obtain ⟨v, hv⟩ : ∃ v, xs[k]? = some v := ⟨_, List.getElem?_eq_getElem (by rw [paired_len hm]; exact (List.getElem?_eq_some_iff.mp hk).1)⟩
  obtain ⟨a, f', rfl, hf', hm'⟩ := hm.get hv
  rw [hk] at hf'
  cases hf'
  exact hm'.wf
noncomputable def inK (ws : Ws) (x : Int) : Bool := decide (x ∈ keys ws)
noncomputable def rl (n : Int) (ws : Ws) : List Int := ((List.range n.toNat).filter fun (k : Nat) => inK ws (k : Int)).map fun (k : Nat) => (k : Int)
section
variable {P : Program} {w : World} {K : PySem.W.Frag} {mg : Str → Option Value} {base : Heap}
/-- [one.arrows for one in family.maps] -/
theorem lc_arrs (T : Txt K mg) {te : TE} {i : Nat} {vs : List Nat} {σ : L2.St} {H : Hp} {Q : VK} {a t : Addr} {xs : List V} {n : Int} {fs : List PF} (hf : FamAt T.C_Map T.C_Family H a t xs n fs)
    (hte : ∀ R : VK, R (.ref t) H → te σ H R) (hw : ∀ a, wipe ((wipe σ vs).set i a) vs = wipe σ vs) (hv : ∀ a, ((wipe σ vs).set i a)[i]? = some a)
    (hq : ∀ (D : Addr) (ds : List V) (H' : Hp), Same H H' → H D = none → H' D = some (.lst ds) → TabsAt' H' ds fs → ds.length = xs.length → Q (.ref D) H') : tLc (iTup K te) (gName i) tYes (tPropR T.C_Map (spArrows T.C_Map) (tVar i)) vs σ H Q := by
  have hl := hf.le
  refine lc_tupO (fun k => .dK (kvI (tab n ((fs[k]?).getD emp)))) (fun R r => hte _ (r t H (Same.refl _) hf.tp)) hw (lt_line (by omega)) (fun k x hx H1 s1 R r => ?_) (fun D bs H' s1 nD hD hbl hat => ?_)
  · obtain ⟨b, f, rfl, hfk, hm⟩ := hf.ms.get hx
    obtain ⟨d, l, em⟩ := at_map (hm.same s1)
    refine ⟨_, hv _, b, d, l, rfl, em, b, n, f, rfl, hm.same s1, fun p np => r p _ (Same.new np) np ?_⟩
    rw [hfk, upd_same]
    rfl
  · exact hq D _ H' s1 nD hD (tabs_arr hf.ms hbl hat) (by rw [List.length_map, hbl])
end
end My
namespace My
open PySem L2 U StX PM
/-! ### maps by their own ==, any known value on the right -/
/-! ### families -/
def spFLen (CM CF : Addr) : Sp := fun vs H Q _ => ∃ (a t : Addr) (xs : List V) (n : Int) (fs : List PF), vs = [.ref a] ∧ FamAt CM CF H a t xs n fs ∧ Q (.int (xs.length : Nat)) H
section
variable {P : Program} {w : World} {K : PySem.W.Frag} {mg : Str → Option Value} {base : Heap}
theorem ok_f_len (T : Txt K mg) : FnR P w K mg base CX0 1 T.f_Family__len (spFLen T.C_Map T.C_Family) := by
  refine T.A_Family__len.ok sc_Family__len (fun vs H Q E h => ?_) (fun cdv A outer s H vs Q E hr h => ?_)
  · obtain ⟨a, t, xs, n, fs, rfl, _⟩ := h
    rfl
  · obtain ⟨a, t, xs, n, fs, rfl, hf, q⟩ := h
    obtain ⟨dx, e⟩ := hf.ob
    refine ⟨_, (pss_one (ps_ret (pe_callB call_len_seq (by rfl) T.n_len (by decide +kernel) (pa_cons (pe_fld (pv 0) rfl) pa_nil)))), ?_⟩
    exact ⟨_, rfl, a, _, dx, _, _, rfl, e, T.o_Family.cl, T.na_own_maps_Family, famF_maps _, t, _, rfl, .inr (SqT.of hf.tp), q⟩
end
end My
namespace My
open PySem L2 U StX PM
/-! ### words -/
def nonSeqV (H : Hp) : V → Prop
  | .non => True | .bl _ => True | .int _ => True | .str _ => True
  | .ref a => ∃ kvs, H a = some (.dK kvs)
  | _ => False
theorem known_mv {C : Addr} {H H' : Hp} {x : V} (h : knownV C H x) (s : Same H H') : knownV C H' x := by
  cases x with
  | ref a =>
    rcases h with ⟨xs, e⟩ | ⟨xs, e⟩ | ⟨xs, e⟩ | ⟨dx, fs, e⟩
    · exact .inl ⟨_, s _ _ e⟩
    · exact .inr (.inl ⟨_, s _ _ e⟩)
    · exact .inr (.inr (.inl ⟨_, s _ _ e⟩))
    · exact .inr (.inr (.inr ⟨_, _, s _ _ e⟩))
  | _ => exact h
theorem nonSeqV.same {H H' : Hp} {x : V} (h : nonSeqV H x) (s : Same H H') : nonSeqV H' x := by
  cases x with
  | ref b =>
    obtain ⟨xs, e⟩ := h
    exact ⟨_, s _ _ e⟩
  | _ => exact h
def toldW (CE : Addr) (v : V) (H : Hp) (E : XK) : Prop := ∀ d H', Same H H' → H' d = none → E (.ref CE) (some d) (upd H' d (.xd [("position", v)]))
def wV (w : List Nat) : List V := w.map fun (i : Nat) => V.int (i : Int)
theorem wV_get {w : List Nat} {k : Nat} {v : V} (h : (wV w)[k]? = some v) : ∃ i : Nat, w[k]? = some i ∧ v = .int i := by
  unfold wV at h
  rw [List.getElem?_map] at h
  obtain ⟨i, h1, h2⟩ := Option.map_eq_some_iff.mp h
  exact ⟨i, h1, h2.symm⟩
theorem wV_len (w : List Nat) : (wV w).length = w.length := by unfold wV; rw [List.length_map]
def wordF (n : Int) (fs : List PF) (w : List Nat) : PF := w.foldl (fun g i => mul g ((fs[i]?).getD emp)) (idn n)
def WordAt (CM : Addr) (m : Nat) (H : Hp) (ys : List V) (w : List Nat) (r : List V) : Prop := ys.length ≤ 1000 ∧ ys = wV w ++ r ∧ (∀ i ∈ w, i < m) ∧ (r = [] ∨ ∃ z r', r = z :: r' ∧ knownV CM H z ∧ inR z 0 ((m : Nat) - 1 : Int) = false)
def spCW (CM CF CE : Addr) (k : List V → HO) : Sp := fun vs H Q E => ∃ (a t : Addr) (xs : List V) (n : Int) (fs : List PF) (x : V), vs = [.ref a, x] ∧ FamAt CM CF H a t xs n fs ∧
  ((nonSeqV H x ∧ toldW CE .non H E) ∨ ∃ (l : Addr) (ys : List V), x = .ref l ∧ H l = some (k ys) ∧ ((1000 < ys.length ∧ ys.length ≤ 100000 ∧ toldW CE .non H E) ∨
    ∃ w r, WordAt CM fs.length H ys w r ∧ (r = [] → ∀ H', Same H H' → Q .non H') ∧ (r ≠ [] → toldW CE (.int w.length) H E)))
def spFCall (CM CF CE : Addr) (k : List V → HO) : Sp := fun vs H Q E => ∃ (a t : Addr) (xs : List V) (n : Int) (fs : List PF) (x : V), vs = [.ref a, x] ∧ FamAt CM CF H a t xs n fs ∧
  ((nonSeqV H x ∧ toldW CE .non H E) ∨ ∃ (l : Addr) (ys : List V), x = .ref l ∧ H l = some (k ys) ∧ ((1000 < ys.length ∧ ys.length ≤ 100000 ∧ toldW CE .non H E) ∨
    ∃ w r, WordAt CM fs.length H ys w r ∧ (r = [] → ∀ p H', Same H H' → H p = none → IsMap CM H' p n (wordF n fs w) → Q (.ref p) H') ∧ (r ≠ [] → toldW CE (.int w.length) H E)))
theorem wordF_snoc {n : Int} {fs : List PF} {w : List Nat} {k i : Nat} {f : PF} (h : w[k]? = some i) (hf : fs[i]? = some f) : wordF n fs (w.take (k + 1)) = mul (wordF n fs (w.take k)) f := by
  unfold wordF
  rw [List.take_add_one, h, List.foldl_append]
  show mul _ ((fs[i]?).getD emp) = _
  rw [hf]
  rfl
theorem ty_nonSeq {K : PySem.W.Frag} {H : Hp} {x : V} (h : nonSeqV H x) : ∃ t, TyX K H x t ∧ PySem.W.kitAny K t [.type "list", .type "tuple"] = some false := by
  have go : ∀ {a : String}, kitB a "list" = some false → kitB a "tuple" = some false → PySem.W.kitAny K (.type a) [.type "list", .type "tuple"] = some false := fun h1 h2 =>
    kitAny_cons (kit_ty h1) (fun _ => kitAny_cons (kit_ty h2) (fun _ => kitAny_nil) fun z => nomatch z) fun z => nomatch z
  cases x with
  | non => exact ⟨_, .base .non, go rfl rfl⟩
  | bl b => exact ⟨_, .base (.bl b), go rfl rfl⟩
  | int i => exact ⟨_, .base (.int i), go rfl rfl⟩
  | str z => exact ⟨_, .base (.str z), go rfl rfl⟩
  | ref a =>
    obtain ⟨xs, e⟩ := h
    exact ⟨_, .base (.dK e), go rfl rfl⟩
  | byt b => exact h.elim
  | flt b => exact h.elim
  | ty b => exact h.elim
theorem ty_seqT {K : PySem.W.Frag} {H : Hp} {a : Addr} {xs : List V} (h : H a = some (.tup xs)) : ∃ t, TyX K H (.ref a) t ∧ PySem.W.kitAny K t [.type "list", .type "tuple"] = some true :=
  ⟨_, .base (.tup h), kitAny_cons (kit_ty (show kitB "tuple" "list" = some false from rfl)) (fun _ => kitAny_cons (kit_ty (show kitB "tuple" "tuple" = some true from rfl)) (fun z => nomatch z) fun _ => rfl) fun z => nomatch z⟩
theorem two_cls : Paired ClsV [.ty "list", .ty "tuple"] [.type "list", .type "tuple"] := .cons (.ty _) (.cons (.ty _) .nil)
section
variable {P : Program} {w : World} {K : PySem.W.Frag} {mg : Str → Option Value} {base : Heap}
theorem ok_ini_InvalidWord (T : Txt K mg) : FnR P w K mg base CX0 1 T.f_InvalidWord__init (spIni1 T.C_InvalidWord "position") := by
  refine T.A_InvalidWord__init.ok sc_InvalidWord__init (fun vs H Q E h => ?_) (fun cdv A outer s H vs Q E hr h => ?_)
  · obtain ⟨a, v, rfl, _⟩ := h
    rfl
  · obtain ⟨a, v, rfl, ha, q⟩ := h
    refine ⟨_, pss_one (ps_ostG (pv 0) (pv 1)), ?_⟩
    exact ⟨_, rfl, _, rfl, a, T.C_InvalidWord, rfl, T.x_InvalidWord, T.na_position_InvalidWord, .inl ⟨ha, fun dx h1 h2 => q dx h1 h2⟩⟩
--L
--/L
--T
theorem okX_cwT (T : Txt K mg) : FnR P w K mg base (L2.CX P w) 6 T.f_check_word (spCW T.C_Map T.C_Family T.C_InvalidWord HO.tup) := by
  refine T.A_check_word.okX sc_check_word (fun vs H Q E h => ?_) (fun cdv A outer s H vs Q E hr h => ?_)
  · obtain ⟨a, t, xs, n, fs, x, rfl, _⟩ := h
    rfl
  · obtain ⟨a, t, xs, n, fs, x, rfl, hf, h⟩ := h
    obtain ⟨dx, e⟩ := hf.ob
    have h10 := hf.le
    have hl := hf.len
    obtain ⟨_, h_MOST_LETTERS⟩ := T.v_MOST_LETTERS
    refine ⟨_, (pss_cons (ps_if (PW.pt (pw_or (pt_not (pt_val (pe_callB call_isiT (by rfl) T.n_isinstance (by decide +kernel) (pa_cons (pv 1) (pa_cons (pe_tup (pa_cons (pe_bltn (v := .ty "list") (u := .type "list") (by rfl) T.n_list (by decide +kernel) rfl) (pa_cons (pe_bltn (v := .ty "tuple") (u := .type "tuple") (by rfl) T.n_tuple (by decide +kernel) rfl) pa_nil))) pa_nil))))) (pw_or1 (pt_cmpR op_gt (pe_callB call_len_seq (by rfl) T.n_len (by decide +kernel) (pa_cons (pv 1) pa_nil)) (pe_glob (v := .int 1000) rfl h_MOST_LETTERS ⟨_, rfl⟩) (nomark _)))))
        (pss_one (ps_raise rfl (takes_of rfl rfl rfl rfl) (pmk_oexG T.x_InvalidWord T.m_InvalidWord__init T.ti_InvalidWord__init (ok_ini_InvalidWord T) (hr.mono (by decide)) pass0 rfl T.g_InvalidWord (pa_cons pe_non pa_nil)))) pss_nil)
      (pss_one (ps_for (passes_of rfl) rfl (pi_enumT rfl T.n_enumerate (pa_cons (pv 1) pa_nil)) (pg_tup rfl (pgs_cons (pg_name (i := 2) sc_check_word.nd rfl (Or.inl rfl)) (pgs_cons (pg_name (i := 3) sc_check_word.nd rfl (Or.inl rfl)) pgs_nil)))
        (pss_one (ps_if (pt_not (pt_val (pe_callR (ok_in_range T) (hr.mono (by decide)) T.A_in_range.kp rfl T.g_in_range pass0 (pa_cons (pv 3) (pa_cons pe_int (pa_cons (pe_op op_sub (pe_callB (call_lenO T.m_Family__len T.i_Family__len (ok_f_len T) (hr.mono (by decide)) pass0) (by rfl) T.n_len (by decide +kernel) (pa_cons (pv 0) pa_nil)) pe_int) pa_nil))))))
        (pss_one (ps_raise rfl (takes_of rfl rfl rfl rfl) (pmk_oexG T.x_InvalidWord T.m_InvalidWord__init T.ti_InvalidWord__init (ok_ini_InvalidWord T) (hr.mono (by decide)) pass0 rfl T.g_InvalidWord (pa_cons (pv 2) pa_nil)))) pss_nil))))), ?_⟩
    rcases h with ⟨hx, q⟩ | ⟨l, ys, rfl, hys, h⟩
    · refine ⟨_, rfl, two_le, ?_⟩
      refine fun tp n_tp => ?_
      generalize g_tp : L2.upd _ tp _ = H1
      obtain ⟨s_H1, e_tp⟩ := U.upd_facts g_tp n_tp
      clear g_tp
      obtain ⟨t', ht, hk⟩ := ty_nonSeq (K := K) (hx.same s_H1)
      refine ⟨_, tp, _, t', _, false, rfl, e_tp, two_cls, ht, hk, _, rfl, ?_⟩
      exact iteT (iteT (mk_one fun d hd => q d H1 s_H1 hd))
    · refine ⟨_, rfl, two_le, ?_⟩
      refine fun tp n_tp => ?_
      generalize g_tp : L2.upd _ tp _ = H1
      obtain ⟨s_H1, e_tp⟩ := U.upd_facts g_tp n_tp
      clear g_tp
      have hys1 := s_H1 _ _ hys
      obtain ⟨t', ht, hk⟩ := ty_seqT (K := K) hys1
      refine ⟨_, tp, _, t', _, true, rfl, e_tp, two_cls, ht, hk, _, rfl, ?_⟩
      refine iteF ?_
      refine ⟨_, rfl, l, ys, rfl, .inr (SqT.of hys1), _, _, rfl, rfl, _, rfl, ?_⟩
      rcases h with ⟨h1, h2, q⟩ | ⟨w0, r, ⟨h1, h2, h3, h4⟩, q, qx⟩
      · exact ifD (fun _ => mk_one fun d hd => q d H1 s_H1 hd) (fun z => absurd (show (1000 : Int) < (ys.length : Nat) by omega) z)
      refine ifD (fun z => absurd z (by show ¬ (1000 : Int) < (ys.length : Nat); omega)) (fun _ => ?_)
      refine ⟨_, rfl, l, ys, rfl, SqT.of hys1, ?_⟩
      refine for_it (walk_enumT (xs := ys)) (fun i σ H' => ∃ v2 v3, σ = [some (.ref a), some (.ref l), v2, v3] ∧ Same H1 H' ∧ i ≤ w0.length)
        ⟨_, _, rfl, Same.refl _, Nat.zero_le _⟩ (fun i σ H' _ ⟨_, _, _, z, _⟩ => SqT.of (z _ _ hys1)) ?_ ?_
      · rintro k v σ Ha Hb hk ⟨v2, v3, rfl, sa, hkw⟩ ⟨U1, a1, b1, rfl, hU, rfl, e1, e2⟩
        dsimp only at e1 e2
        cases e1
        have sb : Same H (upd Ha U1 (.tup [.int (k : Nat), b1])) := (s_H1.trans sa).trans (Same.new hU)
        refine ⟨U1, [.int (k : Nat), b1], rfl, SqT.of upd_same, rfl, .int (k : Nat), [b1], rfl, b1, [], rfl, rfl, ?_⟩
        refine ⟨_, rfl, _, rfl, a, _, _, rfl, sb _ _ e, a, t, xs, n, fs, rfl, hf.same sb, _, rfl, by omega, by omega, _, _, rfl, rfl, ?_⟩
        rw [h2] at e2
        by_cases hkl : k < w0.length
        · rw [List.getElem?_append_left (by rw [wV_len]; exact hkl)] at e2
          obtain ⟨i, ei, rfl⟩ := wV_get e2
          have hi := h3 i (List.mem_of_getElem? ei)
          refine ⟨_, _, _, rfl, trivial, _, rfl, ?_⟩
          rw [show inR (.int (i : Int)) 0 ((xs.length : Nat) - 1 : Int) = true by unfold inR; simp; omega]
          exact iteF ⟨_, _, rfl, sa.trans (Same.new hU), hkl⟩
        · have hke : k = w0.length := by omega
          rw [List.getElem?_append_right (by rw [wV_len]; omega), wV_len] at e2
          rcases h4 with rfl | ⟨z, r', rfl, kz, hz⟩
          · simp at e2
          rw [hke, Nat.sub_self] at e2
          cases e2
          refine ⟨_, _, _, rfl, known_mv kz sb, _, rfl, ?_⟩
          rw [hl, hz]
          refine iteT ?_
          refine ⟨_, rfl, mk_one fun d hd => ?_⟩
          subst hke
          exact qx (by simp) d _ sb hd
      · rintro σ Ha ⟨v2, v3, rfl, sa, hkw⟩
        refine q ?_ Ha (s_H1.trans sa)
        rcases h4 with rfl | ⟨z, r', rfl, kz, hz⟩
        · rfl
        · rw [h2, List.length_append, wV_len, List.length_cons] at hkw
          omega
--/T
--L
--/L
--T
theorem okX_callT (T : Txt K mg) : FnR P w K mg base (L2.CX P w) 9 T.f_Family__call (spFCall T.C_Map T.C_Family T.C_InvalidWord HO.tup) := by
  refine T.A_Family__call.okX sc_Family__call (fun vs H Q E h => ?_) (fun cdv A outer s H vs Q E hr h => ?_)
  · obtain ⟨a, t, xs, n, fs, x, rfl, _⟩ := h
    rfl
  · obtain ⟨a, t, xs, n, fs, x, rfl, hf, h⟩ := h
    obtain ⟨dx, e⟩ := hf.ob
    have h10 := hf.le
    have hl := hf.len
    obtain ⟨m0, f0, e0, hm0⟩ := hf.ms.first hf.ne
    refine ⟨_, (pss_cons (ps_expr (pe_callR (okX_cwT T) (hr.mono (by decide)) T.A_check_word.kp rfl T.g_check_word (passes_call (takes_of rfl rfl rfl rfl) (fun _ _ _ _ h => h)) (pa_cons (pv 0) (pa_cons (pv 1) pa_nil))))
      (pss_cons (ps_set (i := 2) sc_Family__call.nd rfl (Or.inl rfl) (ClX.pe_cmeth (pe_glob (v := .ref T.C_Map) rfl T.g_Map rfl) T.R_Map T.cm_Map_identity (ok_identity T) (hr.mono (by decide)) pass0 (pa_cons (pe_propR (pe_ix ix_tup (pe_fld (pv 0) rfl) pe_int (fun _ _ => rfl)) T.o_Map.cl T.P_Map_size (ok_size T) (hr.mono (by decide))) pa_nil)))
      (pss_cons (ps_for (passes_of rfl) rfl (pi_tup (pv 1)) (pg_name (i := 3) sc_Family__call.nd rfl (Or.inl rfl))
        (pss_one (ps_set (i := 2) sc_Family__call.nd rfl (Or.inl rfl) (pe_op (op_bin T.o_Map.sf T.m_Map__mul T.i_Map__mul (ok_mul T) (hr.mono (by decide)) pass0) (pv 2) (pe_ix ix_tup (pe_fld (pv 0) rfl) (pv 3) (fun _ _ => rfl))))))
      (pss_one (ps_ret (pv 2)))))), ?_⟩
    refine ⟨_, rfl, _, rfl, a, t, xs, n, fs, x, rfl, hf, ?_⟩
    rcases h with h | ⟨l, ys, rfl, hys, h⟩
    · exact .inl h
    refine .inr ⟨l, ys, rfl, hys, ?_⟩
    rcases h with h | ⟨w0, r, hw, q, qx⟩
    · exact .inl h
    refine .inr ⟨w0, r, hw, fun hr0 H1 s1 => ?_, qx⟩
    subst hr0
    obtain ⟨h1, h2, h3, _⟩ := hw
    rw [List.append_nil] at h2
    have hys1 := s1 _ _ hys
    obtain ⟨d1, l1, em1⟩ := at_map (hm0.same s1)
    refine ⟨rfl, _, rfl, a, _, dx, _, _, rfl, s1 _ _ e, T.o_Family.cl, T.na_own_maps_Family, famF_maps _, t, _, 0, _, rfl, rfl, SqT.of (s1 _ _ hf.tp), atI_nat (j := 0) e0, m0, d1, l1, rfl, em1, m0, n, f0, rfl, hm0.same s1, ?_⟩
    refine ⟨n, rfl, hm0.lo, hm0.hi, fun g0 H2 ng s2 hg => ?_⟩
    refine ⟨_, rfl, l, rfl, ⟨_, SqT.of (s2 _ _ hys1)⟩, ?_⟩
    refine for_it (walk_tup (xs := ys)) (fun i σ H' => ∃ g v3, σ = [some (.ref a), some (.ref l), some (.ref g), v3] ∧ Same H2 H' ∧ H g = none ∧ IsMap T.C_Map H' g n (wordF n fs (w0.take i)))
      ⟨g0, _, rfl, Same.refl _, s1.free ng, hg⟩ (fun i σ H' _ ⟨_, _, _, z, _⟩ => SqT.of (z _ _ (s2 _ _ hys1))) ?_ ?_
    · rintro k v σ Ha Hb hk ⟨g, v3, rfl, sa, ng, hg⟩ ⟨rfl, ev⟩
      rw [h2] at ev
      obtain ⟨i, ei, rfl⟩ := wV_get ev
      have hi := h3 i (List.mem_of_getElem? ei)
      obtain ⟨b, eb⟩ : ∃ b, xs[i]? = some b := ⟨_, List.getElem?_eq_getElem (by omega)⟩
      have s0 := (s1.trans s2).trans sa
      obtain ⟨m, f, rfl, ef, hm⟩ := (hf.same s0).ms.get eb
      obtain ⟨d2, l2, e2⟩ := at_map hg
      obtain ⟨d3, l3, e3⟩ := at_map hm
      refine ⟨_, rfl, _, rfl, a, _, dx, _, _, rfl, s0 _ _ e, T.o_Family.cl, T.na_own_maps_Family, famF_maps _, _, rfl, t, _, i, _, rfl, rfl, SqT.of (s0 _ _ hf.tp), atI_nat (j := i) eb, g, d2, l2, m, d3, l3, rfl, rfl, e2, e3, ?_⟩
      refine ⟨g, m, n, _, f, rfl, hg, hm, fun r H3 nr s3 hr3 => ?_⟩
      exact ⟨r, _, rfl, sa.trans s3, s0.free nr, by rw [wordF_snoc ei ef]; exact hr3⟩
    · rintro σ Ha ⟨g, v3, rfl, sa, ng, hg⟩
      refine ⟨_, rfl, q rfl g Ha ((s1.trans s2).trans sa) ng ?_⟩
      rw [h2, wV_len, List.take_length] at hg
      exact hg
--/T
end
end My
set_option maxHeartbeats 1000000
namespace My
open PySem L2 U StX PM
/-! ### lists or tuples -/
theorem pi_or2 {X : Cx} {tg e : Expr} {w1 w2 : TI} (h1 : PI X tg e w1) (h2 : PI X tg e w2) : PI X tg e (fun σ H R => w1 σ H R ∨ w2 σ H R) :=
  ⟨fun pins s σ H R I h => h.elim (h1.run pins s σ H R I) (h2.run pins s σ H R I)⟩
def iSq (K : PySem.W.Frag) (te : TE) : TI := fun σ H R => iList K te σ H R ∨ iTup K te σ H R
theorem pi_sq {X : Cx} {tg e : Expr} {te : TE} (he : PE X e te) : PI X tg e (iSq X.K te) := pi_or2 (pi_list he) (pi_tup he)
inductive SeqOf (K : PySem.W.Frag) (H : Hp) (a : Addr) : List V → Prop
  | lst {xs : List V} (e : H a = some (.lst xs)) : SeqOf K H a xs
  | tup {xs : List V} (e : H a = some (.tup xs)) : SeqOf K H a xs
  | kt (e : ∃ d n s, K.lookup a = some ⟨.type "tuple", d, .seq #[] n, s⟩) : SeqOf K H a []
theorem SeqOf.same {K : PySem.W.Frag} {H H' : Hp} {a : Addr} {xs : List V} (h : SeqOf K H a xs) (s : Same H H') : SeqOf K H' a xs := by
  cases h with
  | lst e => exact .lst (s _ _ e)
  | tup e => exact .tup (s _ _ e)
  | kt e => exact .kt e
theorem sqT_kt {K : PySem.W.Frag} {H : Hp} {a : Addr} (e : ∃ d n s, K.lookup a = some ⟨.type "tuple", d, .seq #[] n, s⟩) : SqT K H a [] := by
  obtain ⟨d, n, s, e⟩ := e
  exact .inr ⟨_, #[], n, e, rfl, rfl, Nat.zero_le _, .nil⟩
theorem SeqOf.ty {K : PySem.W.Frag} {H : Hp} {a : Addr} {xs : List V} (h : SeqOf K H a xs) : ∃ t, TyX K H (.ref a) t ∧ PySem.W.kitAny K t [.type "list", .type "tuple"] = some true := by
  have tp : PySem.W.kitAny K (.type "tuple") [.type "list", .type "tuple"] = some true := kitAny_cons (kit_ty (show kitB "tuple" "list" = some false from rfl)) (fun _ => kitAny_cons (kit_ty (show kitB "tuple" "tuple" = some true from rfl)) (fun z => nomatch z) fun _ => rfl) fun z => nomatch z
  cases h with
  | lst e => exact ⟨_, .base (.lst e), kitAny_cons (kit_ty (show kitB "list" "list" = some true from rfl)) (fun z => nomatch z) fun _ => rfl⟩
  | tup e => exact ⟨_, .base (.tup e), tp⟩
  | kt e =>
    obtain ⟨d, n, s, e⟩ := e
    exact ⟨_, .kTuple e rfl, tp⟩
def nonSq (H : Hp) : V → Prop
  | .non => True | .int _ => True | .str _ => True
  | .ref a => ∃ kvs, H a = some (.dK kvs)
  | _ => False
theorem nonSq.same {H H' : Hp} {x : V} (h : nonSq H x) (s : Same H H') : nonSq H' x := by
  cases x <;> first | exact h | exact h.elim | skip
  obtain ⟨xs, e⟩ := h
  exact ⟨_, s _ _ e⟩
end My
namespace My
open PySem L2 U StX PM
/-! ### the law's families and search -/
def spLFam (CM CF : Addr) : Sp := fun vs H Q _ => ∃ (l : Addr) (xs : List V) (n : Int) (fs : List PF), vs = [.ref l] ∧ H l = some (.lst xs) ∧ MapsAt CM H n xs fs ∧ fs ≠ [] ∧ xs.length ≤ 10 ∧ ∀ p t H', Same H H' → FamAt CM CF H' p t xs n fs → Q (.ref p) H'
theorem MapsAt.take {C : Addr} {H : Hp} {n : Int} {xs : List V} {fs : List PF} (h : MapsAt C H n xs fs) (i : Nat) : MapsAt C H n (xs.take i) (fs.take i) := by
  unfold MapsAt at h ⊢
  induction h generalizing i with
  | nil => simp; exact .nil
  | cons a _ ih => cases i with
    | zero => exact .nil
    | succ i => exact .cons a (ih i)
theorem catA_of {K : PySem.W.Frag} {H : Hp} {a b : Addr} {xs ys : List V} {Q : VK} (hx : H a = some (.tup xs)) (hy : H b = some (.tup ys)) (ne : ys ≠ []) (hl : xs.length + ys.length ≤ sizeLine) (q : ∀ t H', Same H H' → H' t = some (.tup (xs ++ ys)) → Q (.ref t) H') : rCatA K (.ref a) (.ref b) H Q :=
  ⟨a, b, xs, ys, rfl, rfl, SqT.of hx, SqT.of hy, hl, fun e => q b H (Same.refl _) (by rw [e]; exact hy), fun _ e => absurd e ne, fun _ _ p np => q p _ (Same.new np) upd_same⟩
section
variable {P : Program} {w : World} {K : PySem.W.Frag} {mg : Str → Option Value} {base : Heap}
theorem ok_l_family (T : Txt K mg) : FnR P w K mg base CX0 16 T.f_l_family (spLFam T.C_Map T.C_Family) := by
  refine T.A_l_family.ok sc_l_family (fun vs H Q E h => ?_) (fun cdv A outer s H vs Q E hr h => ?_)
  · obtain ⟨l, xs, n, fs, rfl, _⟩ := h
    rfl
  · obtain ⟨l, xs, n, fs, rfl, hl, hm, ne, h10, q⟩ := h
    refine ⟨_, (pss_cons (ps_set (i := 1) sc_l_family.nd rfl (Or.inl rfl) (pe_makeR T.M_Family (fnR_calm (okX_f_init T)) (hr.mono (by decide)) rfl T.g_Family pass0 (pa_cons (pe_ix ix_list (pv 0) pe_int (fun _ _ => rfl)) pa_nil)))
      (pss_cons (ps_for PassesOwn.never rfl (pi_list (pe_slice sl_list (pv 0) (po_some pe_int) po_none)) (pg_name (i := 2) sc_l_family.nd rfl (Or.inl rfl))
        (pss_one (ps_set (i := 1) sc_l_family.nd rfl (Or.inl rfl) (pe_op (op_bin T.o_Family.sf T.m_Family__add T.i_Family__add (fnR_calm (okX_f_add T)) (hr.mono (by decide)) pass0) (pv 1) (pe_makeR T.M_Family (fnR_calm (okX_f_init T)) (hr.mono (by decide)) rfl T.g_Family pass0 (pa_cons (pv 2) pa_nil))))))
      (pss_one (ps_ret (pv 1))))), ?_⟩
    unfold MapsAt at hm
    cases hm with
    | nil => exact absurd rfl ne
    | @cons x0 f0 xr fr h0 hr0 =>
      obtain ⟨a0, rfl, hm0⟩ := h0
      rw [List.length_cons] at h10
      refine ⟨_, rfl, l, _, 0, .ref a0, rfl, rfl, SqL.of hl, atI_nat (j := 0) rfl, ?_⟩
      refine fun g dx ng ndx nd => famInit_of (n := n) (fs := [f0]) (.cons ⟨a0, rfl, hm0⟩ .nil) (by simp) (by simp) ng ndx nd fun t0 H1 s1 hf1 => ⟨rfl, ?_⟩
      refine ⟨_, rfl, 1, rfl, l, _, rfl, SqL.of (s1 _ _ hl), ?_⟩
      refine fun l2 n_l2 => ?_
      rw [(cut1 _ _).1]
      generalize g_l2 : L2.upd _ l2 _ = H2
      obtain ⟨s_H2, e_l2⟩ := U.upd_facts g_l2 n_l2
      clear g_l2
      have hln : xr.length = fr.length := paired_len hr0
      have hr2 : MapsAt T.C_Map H2 n xr fr := MapsAt.same (H := H) hr0 (s1.trans s_H2)
      refine ⟨l2, rfl, ⟨_, SqL.of e_l2⟩, ?_⟩
      refine for_it (walk_list (xs := xr)) (fun i σ H' => ∃ g t v2, σ = [some (.ref l), some (.ref g), v2] ∧ Same H2 H' ∧ FamAt T.C_Map T.C_Family H' g t (.ref a0 :: xr.take i) n (f0 :: fr.take i))
        ⟨g, t0, _, rfl, Same.refl _, hf1.same s_H2⟩ (fun i σ H' _ ⟨_, _, _, _, z, _⟩ => SqL.of (z _ _ e_l2)) ?_ ?_
      · rintro i v σ Ha0 Ha hi ⟨g, t, v2, rfl, sa, hg⟩ ⟨rfl, ev⟩
        obtain ⟨b, f, rfl, ef, hb⟩ := hr2.get ev
        refine ⟨_, rfl, _, rfl, fun g2 dx ng ndx nd => famInit_of (n := n) (fs := [f]) (.cons ⟨b, rfl, hb.same sa⟩ .nil) (by simp) (by simp) ng ndx nd fun t2 H3 s3 hf3 => ⟨rfl, ?_⟩⟩
        have hg3 := hg.same s3
        obtain ⟨dxa, ea⟩ := hg3.ob
        obtain ⟨dxb, eb⟩ := hf3.ob
        refine ⟨g, _, _, g2, _, _, rfl, rfl, ea, eb, g, g2, t, t2, _, _, n, n, _, _, rfl, hg3, hf3, .inr (.inr ⟨rfl, ?_, fun p t' H' s hf => ?_⟩)⟩
        · rw [List.length_cons, List.length_take, List.length_singleton]
          omega
        · refine ⟨p, t', _, rfl, (sa.trans s3).trans s, ?_⟩
          rw [take_more ev, take_more ef]
          exact hf
      · rintro σ Ha ⟨g, t, v2, rfl, sa, hg⟩
        rw [List.take_length] at hg
        rw [hln, List.take_length] at hg
        exact ⟨_, rfl, q g t Ha ((s1.trans s_H2).trans sa) hg⟩
end
end My
namespace U
open PySem PySem.Spec PyProof.Rows L2
/-! ### dict(zip(a, b, strict=True)), dict(zip(a, b)): lists or tuples -/
/-- one draw, strict or not -/
def drw (st : Bool) (it : Value) : Sem (Option Value) := do
  if st then Builtin.SmallTypes.nextOrEnd it else return some (← Builtin.SmallTypes.nextOf it)
def SIt (tup : Bool) (g : Heap) (it l : Addr) (k : Nat) : Prop := match tup with | true => g.IsTupleIter it l k | false => g.IsListIter it l k
def SSq (tup : Bool) (g : Heap) (l : Addr) (xs : Array Value) : Prop := match tup with | true => g.IsTuple l xs | false => g.IsList l xs
theorem SIt.mv {tup : Bool} {g g' : Heap} {it l : Addr} {k : Nat} (x : SIt tup g it l k) (e : ∀ o, g.get? it = some o → g'.get? it = some o) : SIt tup g' it l k := by
  cases tup
  · exact Heap.IsListIter.at x e
  · exact Heap.IsTupleIter.at x e
theorem SSq.mv {tup : Bool} {g g' : Heap} {l : Addr} {xs : Array Value} (x : SSq tup g l xs) (e : ∀ o, g.get? l = some o → g'.get? l = some o) : SSq tup g' l xs := by
  cases tup
  · exact Heap.IsList.at x e
  · exact Heap.IsTuple.at x e
theorem SIt.ob {tup : Bool} {g : Heap} {it l : Addr} {k : Nat} (x : SIt tup g it l k) : ∃ o, g.get? it = some o := by
  cases tup
  · obtain ⟨o, e, _⟩ := x
    exact ⟨o, e⟩
  · obtain ⟨o, e, _⟩ := x
    exact ⟨o, e⟩
theorem SSq.ob {tup : Bool} {g : Heap} {l : Addr} {xs : Array Value} (x : SSq tup g l xs) : ∃ o, g.get? l = some o := by
  cases tup
  · obtain ⟨o, e, _⟩ := x
    exact ⟨o, e⟩
  · obtain ⟨o, e, _⟩ := x
    exact ⟨o, e⟩
/-! ### the zip as what a dict is made of -/
/-! ### zip(a, b, strict=True) -/
end U
/-! dicts whose keys are tuples of ints and texts -/
namespace DT2
open PySem PySem.Spec PyProof.Rows L2 U
abbrev ErrN (M : Model) (A : Around) (env : Env) (R : Result → Shared → Prop) : Value → Shared → Prop := notedBy M A env fun x z => R (.error x) z
section
variable {X : Cx} {pins : List (Addr × Obj)} {σ : L2.St} {H : Hp} {s : Shared}
/-- a pair is stored -/
theorem set_T {E : Value → Shared → Prop} {D b : Addr} {kvs : List (List Key × V)} {k : List Key} {y : V} {r : Value} {Q : Unit → Shared → Prop} (hu : X.A.units + 1 < cLine) (I : Inv X pins σ H s) (hD : H D = some (.dT kvs)) (eb : H b = some (.tup (k.map kV))) (hz : kvs.length < sizeLine) (ry : RelV y r)
    (h : ∀ s', Inv X pins σ (upd H D (.dT (putK kvs k y))) s' → Q () s') : wpAny (model X.prog X.w) X.A (dictSet D (.ref b) r) Q E s := by
  obtain ⟨z, hd, xs, rel, dd⟩ := dt_of I.hok hD
  have hl : (putK kvs k y).length ≤ sizeLine := Nat.le_trans (length_putK kvs k y) hz
  have hx : xs.length ≤ sizeLine := by rw [← Paired.length rel]; exact z
  refine wpAny_dictSet_heap (hsz := hx) (show (tupleKind (mixKind X.prog X.w)).room X.A from Nat.lt_of_succ_lt hu) (key_of I.hok eb) dd fun g d2 sb => h _ ?_
  obtain ⟨q, es, ep, q1, q2, q3, q4, _, q5⟩ := d2
  refine d_write I (by rw [hD]; exact True.intro) sb ⟨q, q1⟩ ⟨hl, hd, _, (rel.put k eb ry).keeps fun c ys ec => ?_, q, es, ep, q1, q2, q3, q4, q5⟩
  rw [upd_ne (fun e => by rw [e, hD] at ec; cases ec)]
  exact ec
/-- {t: v} -/
def tDispT (tk tv : TE) : TE := fun σ H Q => ∀ p, H p = none → tk σ (upd H p (.dT [])) fun y H1 => tv σ H1 fun z H2 => ∃ b k, y = .ref b ∧ H2 p = some (.dT []) ∧ H2 b = some (.tup (k.map kV)) ∧ Q (.ref p) (upd H2 p (.dT [(k, z)]))
theorem pe_dispT {ke ve : Expr} {pos : Pos} {tk tv : TE} (hu : X.A.units + 1 < cLine) (hk : PE X ke tk) (hv : PE X ve tv) : PE X (.Dict [some ke] [ve] pos) (tDispT tk tv) := by
  refine ⟨fun pins s σ H Q I q => ?_⟩
  have nP := I.hok.fresh (Nat.le_refl s.heap.objs.size)
  have I1 := I.laid (a := s.heap.objs.size) (o := .dT []) (h' := s.heap.push { cls := .type "dict", data := .dict #[] }) (t' := s.toks) (fun _ _ z => Heap.get?_push_of_some _ z) (Nat.le_refl _) (dt_empty s.heap I.big)
  refine wpAny_Dict_any rfl rfl (List.cons_ne_nil _ _) (by show 1 ≤ 15; decide) ?_
  refine pairTrees_cons_walk (thn (hk.run pins _ σ _ _ I1 (q _ nP)) fun u s1 ⟨y, H1, J1, ru, q1⟩ => thn (hv.run pins s1 σ H1 _ J1 q1) fun r s2 ⟨z, H2, J2, rr, b, k, ey, e1, e2, q2⟩ => pairTrees_nil_walk ?_)
  subst ey
  cases (show u = Value.ref b from ru)
  unfold storeAll
  rw [List.forIn_cons]
  refine wpAny_bind (wpAny_bind (set_T hu J2 e1 e2 (by show 0 < sizeLine; decide) rr fun s3 J3 => wpAny_pure ?_))
  dsimp only
  rw [List.forIn_nil]
  exact wpAny_pure ⟨.ref s.heap.objs.size, _, J3, rfl, q2⟩
/-- len(d) -/
def rLenT : List V → Hp → VK → Prop := fun xs H Q => ∃ a kvs, xs = [.ref a] ∧ H a = some (.dT kvs) ∧ Q (.int kvs.length) H
theorem call_lenT : CallR X (.builtin "len") rLenT := by
  intro pins s σ H xs us Q I r q
  obtain ⟨a, kvs, rfl, e, q⟩ := q
  obtain ⟨u, rfl, ru⟩ := r.one
  cases (show u = Value.ref a from ru)
  obtain ⟨z, hd, ys, rel, dd⟩ := dt_of I.hok e
  obtain ⟨o, es, ep, h1, h2, h3, h4, _, _⟩ := dd
  have hsz : es.size = kvs.length := by
    have e1 : es.toList.length = ys.length := by rw [h4, List.length_map]
    rw [Array.length_toList] at e1
    rw [e1, ← Paired.length rel]
  have raw : s.heap.DictRaw a es ep := ⟨o, h1, h2, h3⟩
  refine call_len_slot (n := (kvs.length : Int)) raw.typeIs PySem.F.slot_dict_len (fun Q' h' => ?_) (by omega) (by rw [sizeLine_eq] at z; omega) ⟨.int kvs.length, H, (I.tok _).tok _, ⟨_, rfl⟩, q⟩
  exact call_len_raw hd raw (by rw [hsz]; exact h')
/-- {t: v for x in ..}: D the new dict -/
def tDcT (wi : TI) (g : TG) (tk tv : TE) (vs : List Nat) : TE := fun σ H Q => wi σ H fun J H1 => ∀ D, H1 D = none → ∃ W : Nat → Nat → Hp → Prop, (∃ m, W 0 m (upd H1 D (.dT []))) ∧ ∀ i m H, W i m H →
  (J.stop i H ∧ Q (.ref D) H) ∨ (J.go i H ∧ ∃ Nx : Hp → Prop, (∀ H', Nx H' → ∃ m', m' < m ∧ W (i + 1) m' H') ∧ ∀ x H', J.yld i H x H' → g x (wipe σ vs) H' fun σ2 H2 => wipe σ2 vs = wipe σ vs ∧
    tk σ2 H2 fun y H4 => tv σ2 H4 fun z H5 => ∃ kvs k b, y = .ref b ∧ H5 b = some (.tup (k.map kV)) ∧ H5 D = some (.dT kvs) ∧ kvs.length < sizeLine ∧ Nx (upd H5 D (.dT (putK kvs k z))))
abbrev ex1 (kx vx a0 x0 : Expr) (sc : Scope) (ps : Pos) : Expr := .DictComp kx vx [⟨a0, x0, [], 0⟩] sc ps
theorem pe_dcT {kx vx a0 x0 : Expr} {sc : Scope} {own : List (Str × Nat)} {ps : Pos} {wi : TI} {g : TG} {tk tv : TE} (hu : X.A.units + 1 < cLine) (hc : X.calm = true) (hN : X.N.Nodup) (hi : PI X a0 x0 wi) (ok : BlkOk X.N X.env.scope sc own)
    (hg : ∀ (z : Shared) (H : Hp) (C : Addr) (cl : List (Str × Addr)) (fp : List Addr), PG (X.blk z H sc (compEnvC sc cl C X.env) fp) a0 g)
    (hk : ∀ (z : Shared) (H : Hp) (C : Addr) (cl : List (Str × Addr)) (fp : List Addr), PE (X.blk z H sc (compEnvC sc cl C X.env) fp) kx tk) (he : ∀ (z : Shared) (H : Hp) (C : Addr) (cl : List (Str × Addr)) (fp : List Addr), PE (X.blk z H sc (compEnvC sc cl C X.env) fp) vx tv)
    (hs : ∀ x, foldedSetIterable x0 X.env x = pure x := by intro _; rfl) : PE X (ex1 kx vx a0 x0 sc ps) (tDcT wi g tk tv (own.map (·.2))) := by
  refine ⟨fun pins s σ H Q I h => ?_⟩
  rw [arm_eval_DictComp]
  have hfree : ∀ y ∈ sc.names, y.2 = .free → ∃ c, X.env.cells.lookup y.1 = some c := fun y hy e => (ok.free y hy e).elim (fun k => I.ok.has _ (.inl k)) fun k => I.ok.has _ (.inr k)
  refine wpAny_comprehension_free (use := none) rfl hs (closure_ok hfree) ok.kind (fun y hy e => by rw [ok.uniq y hy, e])
    (thn (hi.run pins s σ H _ I h) fun xv s1 hx => thn hx fun itv s2 h2 => ?_)
  obtain ⟨it, fp, tn, J, H2, e, I2, T, st2, f2, q⟩ := h2
  subst e
  refine wpAny_newObj_type (newEnv_comp ?_)
  generalize hD : s2.heap.objs.size = D
  have hDn : H2 D = none := I2.hok.fresh (Nat.le_of_eq hD)
  obtain ⟨W, ⟨m0, w0⟩, turn⟩ := q D hDn
  generalize hs3 : ({ s2 with heap := s2.heap.push { cls := .type "dict", data := .dict #[] } } : Shared) = s3
  have I3 : Inv X pins σ (upd H2 D (.dT [])) s3 := by
    subst hs3
    refine I2.laid (t' := s2.toks) (fun b o z => Heap.get?_push_of_some _ z) (Nat.le_of_eq hD) ?_
    subst hD
    exact dt_empty s2.heap I2.big
  have h3 : s3.heap = s2.heap.push { cls := .type "dict", data := .dict #[] } := by subst hs3; rfl
  have f3 : ∀ b ∈ fp, FpOk X pins (upd H2 D (.dT [])) b ∧ b < s3.heap.objs.size := fun b hb => by
    obtain ⟨o, eo, _⟩ := T.obj _ _ st2 b hb
    have hlt := Heap.lt_size eo
    refine ⟨⟨?_, (f2 b hb).2⟩, by rw [h3, Heap.size_push]; exact Nat.lt_succ_of_lt hlt⟩
    rw [upd_ne (Nat.ne_of_lt (hD ▸ hlt))]
    exact (f2 b hb).1
  have st3 : tn 0 s3.heap := T.keep _ _ _ st2 fun b _ o z => by rw [h3]; exact Heap.get?_push_of_some _ z
  have I4 := block_start I3 ok hN f3
  generalize hcl : cellsFrom (s3.heap.objs.size + 1) sc.names (cloFrom X.env.cells sc.names []) = cl at I4
  have pg := hg s3 (upd H2 D (.dT [])) s3.heap.objs.size cl fp
  have pk := hk s3 (upd H2 D (.dT [])) s3.heap.objs.size cl fp
  have pe := he s3 (upd H2 D (.dT [])) s3.heap.objs.size cl fp
  show codeAny _ _ (.compStart (ex1 kx vx a0 x0 sc ps) 0 (.ref it) (.ref D) (compEnvC sc cl s3.heap.objs.size X.env)) (compPost (model X.prog X.w) X.A X.xe none _ (.ref D) s3.heap.objs.size) { s3 with heap := pushCells (s3.heap.push { cls := .type "dict", data := .dict #[] }) sc.names }
  have nfp : ∀ b ∈ fp, (upd H2 D (.dT [])) b = none := fun b hb => (f3 b hb).1.1
  generalize hce : compEnvC sc cl s3.heap.objs.size X.env = ce at I4 pg pk pe ⊢
  have cL : ce.locals = s3.heap.objs.size := by subst hce; rfl
  generalize hH3 : upd H2 D (.dT []) = H3 at I3 I4 pg pk pe w0 nfp f3
  generalize hs4 : ({ s3 with heap := pushCells (s3.heap.push { cls := .type "dict", data := .dict #[] }) sc.names } : Shared) = s4 at I4 ⊢
  have st4 : tn 0 s4.heap := T.keep _ _ _ st3 fun b _ o z => by rw [← hs4]; exact pushCells_keeps _ _ _ _ (Heap.get?_push_of_some _ z)
  generalize hB : X.blk s3 H3 sc ce fp = B at I4 pg pk pe
  have bA : B.A = X.A := by subst hB; rfl
  have bK : B.K = X.K := by subst hB; rfl
  have stat : ∀ {σ' : L2.St} {H' : Hp} {z : Shared}, Inv B [] σ' H' z → (∀ b ∈ fp, H' b = none) → ∀ b ∈ fp, FpOk B [] H' b := fun {σ' H' z} I' hn b hb => by
    subst hB
    exact ⟨hn b hb, (I'.ok.exf b hb).1, I'.ok.exfs b hb, .inl hb, fun x c e => (I'.ok.exf b hb).2 x c e, fun p hp => absurd hp (by show p ∉ ([] : List (Addr × Obj)) ++ []; simp)⟩
  generalize hwl : wipe σ (own.map (·.2)) = σ0 at I4 turn
  have back : ∀ {H5 : Hp} {s6 : Shared}, Inv B [] σ0 H5 s6 → Q (.ref D) H5 → compPost (model X.prog X.w) X.A X.xe none (EP X pins σ Q) (.ref D) s3.heap.objs.size (.ok .next) s6 := fun {H5 s6} I6 qq => by
    subst hB
    have I7 : Inv X pins σ H5 s6 := I3.call' (ch := fp) I6.os I6.base I6.hok I6.bare fun b hb => ⟨(f3 b hb).1.2.2.2.1, (f3 b hb).1.2.1, (f3 b hb).1.2.2.2.2.1, (f3 b hb).1.2.2.2.2.2⟩
    have nC : H5 s3.heap.objs.size = none := by
      have z : H5 ce.locals = none := I6.free
      rwa [cL] at z
    obtain ⟨m, hn, _⟩ := I6.loc
    have hn : s6.heap.Ns ce.locals m := hn
    rw [cL] at hn
    refine ⟨m, hn, fun h'' sb => ?_⟩
    obtain ⟨f0, f1, f2, f3, f4, f5⟩ := I3.fpOk (Nat.le_refl _) nC
    exact ⟨.ref D, H5, I7.turned (t' := s6.toks) (fun b o hb z => (sb.2 b hb).trans z) f0 f1 f3 f4 f5, rfl, qq⟩
  have bprog : B.prog = X.prog := by subst hB; rfl
  have bw : B.w = X.w := by subst hB; rfl
  have benv : B.env = ce := by subst hB; rfl
  have bxe : B.xe = fun _ _ => False := by subst hB; rfl
  have bcalm : B.calm = true := by subst hB; exact hc
  have main : codeAny (model X.prog X.w) X.A (.compLoop (ex1 kx vx a0 x0 sc ps) 0 (.ref it) (.ref D) ce) (compPost (model X.prog X.w) X.A X.xe none (EP X pins σ Q) (.ref D) s3.heap.objs.size) s4 := by
    refine compLoop_anyD (fun n z => ∃ i H', Inv B [] σ0 H' z ∧ tn i z.heap ∧ (∀ b ∈ fp, H' b = none) ∧ W i n H') ?_ m0 ⟨0, H3, I4, st4, nfp, w0⟩
    rintro n s5 ⟨i, H5, I5, st5, n5, w5⟩
    rcases turn i n H5 w5 with ⟨stop, qq⟩ | ⟨go, Nx, hNx, step⟩
    · have td := T.done B bprog bw bK bcalm i [] s5 _ H5 (fun _ _ => False) I5 (stat I5 n5) st5 stop
      rw [bA] at td
      refine thnF td fun r s6 ⟨hr, I6⟩ => ?_
      subst hr
      exact back I6 qq
    · have ti := T.item B bprog bw bK bcalm i [] s5 _ H5 (fun _ _ => False) I5 (stat I5 n5) st5 go
      rw [bA] at ti
      refine thnF ti fun r s6 ⟨u, hr, h6⟩ => ?_
      subst hr
      refine thnF h6 fun _ s7 ⟨x, H7, I7, r7, y7, st7, n7⟩ => ?_
      have J7 := I7.pinned (stat I7 n7) (T.obj _ _ st7)
      have run0 := pg.run _ s7 _ H7 x u _ J7 r7 (step x H7 y7)
      rw [bprog, bw, bA, benv, bxe] at run0
      refine thnF run0 fun _ s8 ⟨σ8, H8, I8, hw8, q8⟩ => ?_
      rw [List.forIn_nil]
      refine wpAny_pure ?_
      rw [if_pos rfl]
      have run1 := pk.run _ s8 σ8 H8 _ I8 q8
      rw [bprog, bw, bA, benv, bxe] at run1
      refine thnF run1 fun kw s9 ⟨yk, H9, I9, r9, q9⟩ => ?_
      have run2 := pe.run _ s9 σ8 H9 _ I9 q9
      rw [bprog, bw, bA, benv, bxe] at run2
      refine thnF run2 fun vw s10 ⟨yv, H10, I10, r10, kvs, k, b, ek, eb, eD, hz, nx⟩ => ?_
      subst ek
      cases (show kw = Value.ref b from r9)
      have put := set_T (X := B) (E := ErrN (model X.prog X.w) X.A ce (compPost (model X.prog X.w) X.A X.xe none (EP X pins σ Q) (.ref D) s3.heap.objs.size)) (Q := fun _ z => ∃ m, m < n ∧ ∃ i H', Inv B [] σ0 H' z ∧ tn i z.heap ∧ (∀ b ∈ fp, H' b = none) ∧ W i m H') (by rw [bA]; exact hu) I10 eD eb hz r10 fun s11 I11 => ?_
      · rw [bprog, bw, bA] at put
        exact put
      obtain ⟨m', hm, w'⟩ := hNx _ nx
      have pin' : ∀ b ∈ fp, ∀ o, s7.heap.get? b = some o → s11.heap.get? b = some o ∧ (upd H10 D (.dT (putK kvs k yv))) b = none := fun b hb o eo =>
        have y := I11.pin (b, o) (List.mem_append_right _ (List.mem_append_right _ (mem_pinsAt hb eo)))
        ⟨y.1, y.2.1⟩
      have hl : σ0.length = σ8.length := by rw [← hw8, wipe_length]
      refine ⟨m', hm, i + 1, _, (I11.unpinned (pins := [])).weak hl (fun j v e => ?_), T.keep _ _ _ st7 fun b hb o eo => (pin' b hb o eo).1, fun b hb => ?_, w'⟩
      · rw [← hw8] at e
        exact (wipe_some e).1
      · obtain ⟨o, eo, _⟩ := T.obj _ _ st7 b hb
        exact (pin' b hb o eo).2
  exact codeAny_compStart_dict main (T.self X.A 0 _ _ _ st4 main)
/-- dict([(t, v)]) -/
def rDict1 (K : PySem.W.Frag) : List V → Hp → VK → Prop := fun xs H Q => ∃ (l p b : Addr) (k : List Key) (y : V), xs = [.ref l] ∧ SqL K H l [.ref p] ∧ SqT K H p [.ref b, y] ∧ H b = some (.tup (k.map kV)) ∧ ∀ d, H d = none → Q (.ref d) (upd H d (.dT [(k, y)]))
theorem call_dict1 (hu : X.A.units + 4 < cLine) (hcalm : X.calm = true) : CallR X (.type "dict") (rDict1 X.K) := by
  intro pins s σ H xs us Q I r q
  obtain ⟨l, p, b, k, y, rfl, hl, hp, eb, q⟩ := q
  obtain ⟨u, rfl, ru⟩ := r.one
  cases (show u = Value.ref l from ru)
  obtain ⟨its, rl, ⟨ol, nl, l1, l2, l3, l4⟩, _⟩ := I.list hl
  obtain ⟨pts, rp, tp, _⟩ := I.tuple hp
  cases rl with
  | @cons _ c _ cs rc rcs =>
    cases rcs
    cases (show c = Value.ref p from rc)
    cases rp with
    | @cons _ e1 _ es re res =>
      cases res with
      | @cons _ w1 _ ws rw1 rws =>
        cases rws
        cases (show e1 = Value.ref b from re)
        have hh : X.A.handled = none := I.ok.hd hcalm
        have kb := key_of I.hok eb
        obtain ⟨N, eN⟩ : ∃ N, s.heap.objs.size = N := ⟨_, rfl⟩
        refine callType_codes (Q₁ := fun o z => o = .ref N ∧ z = { s with heap := s.heap.push { cls := .type "dict", data := .dict #[] } }) PySem.F.kt_called_dict (PySem.F.kt_typeCall_dict_1 _) PySem.F.entry_dict_init (kt_code_dict_new _ (by subst eN; exact ⟨rfl, rfl⟩)) ?_
        rintro o z ⟨rfl, rfl⟩
        have fresh : (s.heap.push { cls := .type "dict", data := .dict #[] }).get? N = some { cls := .type "dict", data := .dict #[] } := by subst eN; exact Heap.get?_push_size _ rfl
        have keep0 : ∀ a v, s.heap.get? a = some v → (s.heap.push { cls := .type "dict", data := .dict #[] }).get? a = some v := fun a v e => Heap.get?_push_of_some _ e
        have new0 : (s.heap.push { cls := .type "dict", data := .dict #[] }).DictOfH (tupleKind (mixKind X.prog X.w)) N [] := ⟨_, #[], 0, fresh, ⟨rfl, rfl, rfl⟩, rfl, rfl, fun x hx => absurd hx List.not_mem_nil, List.nodup_nil⟩
        have ty0 : Shared.TypeIs { s with heap := s.heap.push { cls := .type "dict", data := .dict #[] } } (.ref N) "dict" := ⟨_, fresh, rfl⟩
        refine ⟨ty0, PySem.F.args_dict_init_2 _ _, ?_⟩
        unfold Builtin.«dict.__init__» Builtin.Dict.selfAndRest
        refine wpAny_bind (wpAny_bind (wpAny_notOrdered_dict ty0 ?_))
        show wpAny _ _ (pure (N, [Value.ref l])) _ _ _
        refine wpAny_pure ?_
        show wpAny _ _ (Builtin.Dict.updateFrom "dict.__init__" N (.ref l) [] .none) _ _ _
        unfold Builtin.Dict.updateFrom
        refine wpAny_bind (wpAny_typeOf (T := "list") ⟨ol, keep0 _ _ l1, l2⟩ ?_)
        rw [if_pos (by first | decide | rfl | simp)]
        refine wpAny_bind (miss_list (keep0 _ _ l1) l2 l4 l3 hh fun g1 k1 kept => ?_)
        rw [if_pos (show (none : Option Value).isNone = true from rfl)]
        refine wpAny_bind (wpAny_rule ?_)
        have lst1 : g1.IsList l #[.ref p] := ⟨ol, kept _ _ (keep0 _ _ l1), l2, nl, l4⟩
        have dN1 := kept _ _ fresh
        have ltN : N < g1.objs.size := Heap.lt_size dN1
        refine wpAny_bind (wpAny_pyIter_list lst1 ?_)
        obtain ⟨M, eM⟩ : ∃ M, g1.objs.size = M := ⟨_, rfl⟩
        obtain ⟨g2, eg2⟩ : ∃ g2, g1.push { cls := .type "list_iterator", data := .fields #[.ref l, .int 0 0] } = g2 := ⟨_, rfl⟩
        have it2 : g2.IsListIter M l 0 := by subst eg2 eM; exact ⟨_, Heap.get?_push_size _ rfl, rfl, rfl⟩
        have keep2 : ∀ a v, g1.get? a = some v → g2.get? a = some v := fun a v e => by subst eg2; exact Heap.get?_push_of_some _ e
        have keep : ∀ a v, s.heap.get? a = some v → g2.get? a = some v := fun a v e => keep2 _ _ (kept _ _ (keep0 _ _ e))
        rw [eg2, eM]
        have lN : l < N := by subst eN; exact Heap.lt_size l1
        have pN : p < N := by subst eN; exact tp.lt
        have NM : N < M := by omega
        have new2 : g2.DictOfH (tupleKind (mixKind X.prog X.w)) N [] := ⟨_, #[], 0, keep2 _ _ dN1, ⟨rfl, rfl, rfl⟩, rfl, rfl, fun x hx => absurd hx List.not_mem_nil, List.nodup_nil⟩
        have lst2 := lst1.at fun o e => keep2 _ _ e
        have tp2 : IsTup g2 p #[.ref b, w1] := tp.keeps keep
        obtain ⟨ob, bits, bn, b1, b2, b3, b4⟩ := id kb
        have bN : b < N := by subst eN; exact Heap.lt_size b1
        have pM : p ≠ M := Nat.ne_of_lt (Nat.lt_trans pN NM)
        have lM : l ≠ M := Nat.ne_of_lt (Nat.lt_trans lN NM)
        have bM : b ≠ M := Nat.ne_of_lt (Nat.lt_trans bN NM)
        have NneM : N ≠ M := Nat.ne_of_lt NM
        have lneN : l ≠ N := Nat.ne_of_lt lN
        refine wpAny_pure ⟨plainId_quiet ud_plain _, ?_⟩
        refine codeAny_builtin ud_entry ?_
        rw [Around.under_plainId ud_plain _]
        show wpAny _ _ (pyNext (.ref M) >>= _) _ _ _
        refine wpAny_bind (wpAny_pyNext_list_item (x := .ref p) it2 lst2 rfl fun g3 it3 but3 => ?_)
        have tp3 : IsTup g3 p #[.ref b, w1] := tp2.extBut but3.extBut pM
        have lst3 : g3.IsList l #[.ref p] := lst2.extBut but3.extBut lM
        have b1' : g3.get? b = some ob := but3.extBut b ob bM (keep _ _ b1)
        have kb3 : (tupleKind (mixKind X.prog X.w)).is g3 k b := ⟨ob, bits, bn, b1', b2, b3, b4⟩
        have new3 : g3.DictOfH (tupleKind (mixKind X.prog X.w)) N [] := ⟨_, #[], 0, but3.extBut N _ NneM (keep2 _ _ dN1), ⟨rfl, rfl, rfl⟩, rfl, rfl, fun x hx => absurd hx List.not_mem_nil, List.nodup_nil⟩
        obtain ⟨op, q1, q2, qn, q3⟩ := id tp3
        show wpAny _ _ (holding [Value.ref p] _ >>= _) _ _ _
        refine wpAny_bind (wpAny_holding (wpAny_bind (wpAny_tryCatch ?_)))
        unfold Builtin.Dict.pairItems
        refine wpAny_bind (wpAny_typeOf (T := "tuple") ⟨op, q1, q2⟩ ?_)
        rw [if_pos (by first | decide | rfl | simp)]
        refine wpAny_bind (wpAny_seqItems q1 q3 (wpAny_pure ?_))
        show wpAny _ _ (holding [Value.ref b, w1] (dictSet N (.ref b) w1)) _ _ _
        refine wpAny_holding (wpAny_dictSet_heap (hsz := Nat.zero_le _) (show (tupleKind (mixKind X.prog X.w)).room _ from (by show X.A.units + 1 + 1 < cLine; omega)) kb3 new3 fun g4 new4 but4 => ?_)
        have it4 := it3.at fun o e => but4.extBut M o NneM.symm e
        have lst4 : g4.IsList l #[.ref p] := lst3.extBut but4.extBut lneN
        refine wpAny_pure ⟨plainId_quiet ud_plain _, ?_⟩
        refine codeAny_builtin ud_entry ?_
        rw [Around.under_plainId ud_plain _]
        show wpAny _ _ (pyNext (.ref M) >>= _) _ _ _
        refine wpAny_bind (wpAny_pyNext_list_end hh it4 lst4 rfl fun g5 but5 => ?_)
        show wpAny _ _ (Builtin.Dict.addKeywords N [] >>= _) _ _ _
        refine wpAny_bind (wpAny_pure (wpAny_pure ?_))
        have all : ∀ a v, s.heap.get? a = some v → g5.get? a = some v := fun a v e => by
          have la : a < N := by subst eN; exact Heap.lt_size e
          have aM : a ≠ M := Nat.ne_of_lt (Nat.lt_trans la NM)
          exact but5 a v aM (but4.extBut a v (Nat.ne_of_lt la) (but3.extBut a v aM (keep _ _ e)))
        refine ⟨rfl, .ref N, upd H N (.dT [(k, y)]), ?_, rfl, q N (I.hok.fresh (Nat.le_of_eq eN))⟩
        obtain ⟨o5, es, ep, r1, r2, r3, r4, _, r6⟩ := new4
        refine I.laid (fun a v e => all a v e) (Nat.le_of_eq eN) ?_
        refine ⟨by show 1 ≤ sizeLine; decide, beq_eq_false_iff_ne.mpr (Nat.ne_of_gt (by subst eN; exact I.big)), _, .cons ⟨rfl, ?_, rw1⟩ .nil, o5, es, ep, but5 N _ NneM r1, r2, r3, r4, r6⟩
        show upd H N _ b = _
        rw [upd_ne (Nat.ne_of_lt bN)]
        exact eb
end
end DT2
namespace My
open PySem L2 U StX PM
/-! ### a search through places of any kind -/
section
variable {α : Type} [DecidableEq α]
abbrev WsA (α : Type) := List (α × List Int)
def keyA (ws : WsA α) : List α := ws.map (·.1)
/-- what the steps 0 .. k-1 add at a place -/
def visA (fs : List (α → α)) (ws : WsA α) (p : α) (w : List Int) : Nat → WsA α
  | 0 => []
  | k + 1 => match fs[k]? with
    | some f => if f p ∈ keyA (ws ++ visA fs ws p w k) then visA fs ws p w k else visA fs ws p w k ++ [(f p, w ++ [(k : Int)])]
    | none => visA fs ws p w k
def nxA' (fs : List (α → α)) (k : Nat) (ws : WsA α) : WsA α := match ws[k]? with
  | some e => ws ++ visA fs ws e.1 e.2 fs.length
  | none => ws
def WdA (fs : List (α → α)) (s : α) : Nat → WsA α
  | 0 => [(s, [])]
  | k + 1 => nxA' fs k (WdA fs s k)
variable {fs : List (α → α)} {ws : WsA α} {p s : α} {w : List Int}
theorem keyA_app (a b : WsA α) : keyA (a ++ b) = keyA a ++ keyA b := List.map_append
theorem keyA_len (a : WsA α) : (keyA a).length = a.length := List.length_map _
theorem visA_at {j : Nat} {f : α → α} (hf : fs[j]? = some f) : visA fs ws p w (j + 1) = if f p ∈ keyA (ws ++ visA fs ws p w j) then visA fs ws p w j else visA fs ws p w j ++ [(f p, w ++ [(j : Int)])] := by
  show (match fs[j]? with | some f => _ | none => _) = _
  rw [hf]
theorem visA_mem : ∀ {k : Nat} {e : α × List Int}, e ∈ visA fs ws p w k → ∃ (i : Nat) (f : α → α), i < k ∧ fs[i]? = some f ∧ f p = e.1 ∧ e.2 = w ++ [(i : Int)]
  | 0, e, h => nomatch h
  | k + 1, e, h => by
    unfold visA at h
    have up : (∃ (i : Nat) (f : α → α), i < k ∧ fs[i]? = some f ∧ f p = e.1 ∧ e.2 = w ++ [(i : Int)]) → ∃ (i : Nat) (f : α → α), i < k + 1 ∧ fs[i]? = some f ∧ f p = e.1 ∧ e.2 = w ++ [(i : Int)] := fun ⟨i, f, a, b⟩ => ⟨i, f, by omega, b⟩
    cases hf : fs[k]? with
    | none =>
      rw [hf] at h
      exact up (visA_mem (k := k) h)
    | some f =>
      rw [hf] at h
      dsimp only at h
      split at h
      · exact up (visA_mem (k := k) h)
      · rcases List.mem_append.mp h with h | h
        · exact up (visA_mem (k := k) h)
        · rw [List.mem_singleton] at h
          subst h
          exact ⟨k, f, by omega, hf, rfl, rfl⟩
theorem visA_nodup {fs : List (α → α)} {ws : WsA α} {p : α} {w : List Int} (h : (keyA ws).Nodup) : ∀ k, (keyA (ws ++ visA fs ws p w k)).Nodup
  | 0 => by rw [show visA fs ws p w 0 = [] from rfl, List.append_nil]; exact h
  | k + 1 => by
    have ih := visA_nodup h (fs := fs) (p := p) (w := w) k
    cases hf : fs[k]? with
    | none =>
      rw [show visA fs ws p w (k + 1) = visA fs ws p w k from by show (match fs[k]? with | some f => if f p ∈ keyA (ws ++ visA fs ws p w k) then visA fs ws p w k else visA fs ws p w k ++ [(f p, w ++ [(k : Int)])] | none => visA fs ws p w k) = _; rw [hf]]
      exact ih
    | some f =>
      rw [visA_at hf]
      split
      · exact ih
      · rename_i hn
        rw [← List.append_assoc, keyA_app]
        refine List.nodup_append.mpr ⟨ih, by simp [keyA], fun a ha b hb => ?_⟩
        simp [keyA] at hb
        rintro rfl
        exact hn (hb ▸ ha)
theorem visA_le {j : Nat} : ∃ r, visA fs ws p w (j + 1) = visA fs ws p w j ++ r := by
  cases hf : fs[j]? with
  | none => exact ⟨[], by rw [List.append_nil]; show (match fs[j]? with | some f => if f p ∈ keyA (ws ++ visA fs ws p w j) then visA fs ws p w j else visA fs ws p w j ++ [(f p, w ++ [(j : Int)])] | none => visA fs ws p w j) = _; rw [hf]⟩
  | some f =>
    rw [visA_at hf]
    split
    · exact ⟨[], by simp⟩
    · exact ⟨_, rfl⟩
theorem visA_mono {fs : List (α → α)} {ws : WsA α} {p : α} {w : List Int} {j : Nat} : ∀ {k : Nat}, j ≤ k → ∃ r, visA fs ws p w k = visA fs ws p w j ++ r
  | 0, h => by
    have : j = 0 := by omega
    subst this
    exact ⟨[], by simp⟩
  | k + 1, h => by
    by_cases e : j = k + 1
    · subst e; exact ⟨[], by simp⟩
    · obtain ⟨r, hr⟩ := visA_mono (fs := fs) (ws := ws) (p := p) (w := w) (show j ≤ k by omega)
      obtain ⟨r', hr'⟩ := visA_le (fs := fs) (ws := ws) (p := p) (w := w) (j := k)
      exact ⟨r ++ r', by rw [hr', hr, List.append_assoc]⟩
theorem WdA_le (k : Nat) : ∃ r, WdA fs s (k + 1) = WdA fs s k ++ r := by
  show ∃ r, nxA' fs k (WdA fs s k) = _
  unfold nxA'
  cases (WdA fs s k)[k]? with
  | none => exact ⟨[], by simp⟩
  | some e => exact ⟨_, rfl⟩
theorem WdA_mono {fs : List (α → α)} {s : α} {k : Nat} : ∀ {j : Nat}, k ≤ j → ∃ r, WdA fs s j = WdA fs s k ++ r
  | 0, h => by
    have : k = 0 := by omega
    subst this
    exact ⟨[], by simp⟩
  | j + 1, h => by
    by_cases e : k = j + 1
    · subst e; exact ⟨[], by simp⟩
    · obtain ⟨r, hr⟩ := WdA_mono (fs := fs) (s := s) (show k ≤ j by omega)
      obtain ⟨r', hr'⟩ := WdA_le (fs := fs) (s := s) j
      exact ⟨r ++ r', by rw [hr', hr, List.append_assoc]⟩
theorem WdA_stop {k : Nat} (h : (WdA fs s k).length ≤ k) : ∀ {j : Nat}, k ≤ j → WdA fs s j = WdA fs s k
  | 0, hj => by
    have : k = 0 := by omega
    subst this
    rfl
  | j + 1, hj => by
    by_cases e : k = j + 1
    · subst e; rfl
    · have ih := WdA_stop h (show k ≤ j by omega)
      show nxA' fs j (WdA fs s j) = _
      rw [ih]
      unfold nxA'
      rw [List.getElem?_eq_none (by omega)]
theorem WdA_nodup : ∀ k, (keyA (WdA fs s k)).Nodup
  | 0 => by simp [WdA, keyA]
  | k + 1 => by
    show (keyA (nxA' fs k (WdA fs s k))).Nodup
    unfold nxA'
    cases (WdA fs s k)[k]? with
    | none => exact WdA_nodup k
    | some e => exact visA_nodup (WdA_nodup k) _
theorem WdA_in {S : α → Prop} (h0 : S s) (hf : ∀ f ∈ fs, ∀ p, S p → S (f p)) : ∀ k, ∀ x ∈ keyA (WdA fs s k), S x
  | 0, x, hx => by simp [WdA, keyA] at hx; subst hx; exact h0
  | k + 1, x, hx => by
    have ih := WdA_in h0 hf k
    change x ∈ keyA (nxA' fs k (WdA fs s k)) at hx
    unfold nxA' at hx
    cases he : (WdA fs s k)[k]? with
    | none => rw [he] at hx; exact ih x hx
    | some e =>
      rw [he] at hx
      dsimp only at hx
      rw [keyA_app] at hx
      rcases List.mem_append.mp hx with hx | hx
      · exact ih x hx
      · obtain ⟨q, hq, rfl⟩ := List.mem_map.mp hx
        obtain ⟨i, f, _, h1, h2, _⟩ := visA_mem hq
        rw [← h2]
        exact hf f (List.mem_of_getElem? h1) _ (ih _ (List.mem_map.mpr ⟨e, List.mem_of_getElem? he, rfl⟩))
theorem WdA_len {S : List α} (h0 : s ∈ S) (hf : ∀ f ∈ fs, ∀ p, f p ∈ S) (k : Nat) : (WdA fs s k).length ≤ S.length := by
  rw [← keyA_len]
  exact List.Nodup.length_le_of_subset (WdA_nodup k) fun x hx => WdA_in (S := (· ∈ S)) h0 (fun f hf' p _ => hf f hf' p) k x hx
theorem WdA_word : ∀ {k : Nat} {e : α × List Int}, e ∈ WdA fs s k → e.2.length ≤ k
  | 0, e, h => by
    rw [show WdA fs s 0 = [(s, [])] from rfl, List.mem_singleton] at h
    subst h
    exact Nat.le_refl _
  | k + 1, e, h => by
    change e ∈ nxA' fs k (WdA fs s k) at h
    unfold nxA' at h
    cases he : (WdA fs s k)[k]? with
    | none =>
      rw [he] at h
      exact Nat.le_succ_of_le (WdA_word h)
    | some g =>
      rw [he] at h
      dsimp only at h
      rcases List.mem_append.mp h with h | h
      · exact Nat.le_succ_of_le (WdA_word h)
      · obtain ⟨i, f, _, _, _, e2⟩ := visA_mem h
        have := WdA_word (List.mem_of_getElem? he)
        rw [e2, List.length_append, List.length_singleton]
        omega
/-- where a word leads -/
def runA (fs : List (α → α)) (s : α) (w : List Int) : α := w.foldl (fun p i => match fs[i.toNat]? with | some f => f p | none => p) s
theorem runA_snoc {i : Int} {f : α → α} (hf : fs[i.toNat]? = some f) : runA fs s (w ++ [i]) = f (runA fs s w) := by
  unfold runA
  rw [List.foldl_append]
  show (match fs[i.toNat]? with | some f => _ | none => _) = _
  rw [hf]
theorem WdA_run : ∀ {k : Nat} {e : α × List Int}, e ∈ WdA fs s k → runA fs s e.2 = e.1 ∧ ∀ i ∈ e.2, 0 ≤ i ∧ i.toNat < fs.length
  | 0, e, h => by
    rw [show WdA fs s 0 = [(s, [])] from rfl, List.mem_singleton] at h
    subst h
    exact ⟨rfl, fun i hi => nomatch hi⟩
  | k + 1, e, h => by
    change e ∈ nxA' fs k (WdA fs s k) at h
    unfold nxA' at h
    cases he : (WdA fs s k)[k]? with
    | none =>
      rw [he] at h
      exact WdA_run h
    | some g =>
      rw [he] at h
      dsimp only at h
      rcases List.mem_append.mp h with h | h
      · exact WdA_run h
      · obtain ⟨i, f, _, h1, h2, e2⟩ := visA_mem h
        obtain ⟨r1, r2⟩ := WdA_run (List.mem_of_getElem? he)
        rw [e2, runA_snoc (f := f) (by rw [Int.toNat_natCast]; exact h1), r1]
        refine ⟨h2, fun x hx => ?_⟩
        rcases List.mem_append.mp hx with hx | hx
        · exact r2 x hx
        · rw [List.mem_singleton.mp hx, Int.toNat_natCast]
          exact ⟨by omega, (List.getElem?_eq_some_iff.mp h1).1⟩
theorem visA_pre {k j : Nat} {e : α × List Int} (he : (WdA fs s k)[k]? = some e) (hj : j ≤ fs.length) : ∃ r, WdA fs s (k + 1) = WdA fs s k ++ visA fs (WdA fs s k) e.1 e.2 j ++ r := by
  obtain ⟨r, hr⟩ := visA_mono (fs := fs) (ws := WdA fs s k) (p := e.1) (w := e.2) hj
  refine ⟨r, ?_⟩
  show nxA' fs k (WdA fs s k) = _
  unfold nxA'
  rw [he]
  dsimp only
  rw [hr, List.append_assoc]
end
/-! ### images of places -/
theorem asc_eq9 : ∀ {l m : List Int}, l.Pairwise (· < ·) → m.Pairwise (· < ·) → (∀ x, x ∈ l ↔ x ∈ m) → l = m
  | [], [], _, _, _ => rfl
  | [], y :: m, _, _, h => absurd ((h y).mpr List.mem_cons_self) List.not_mem_nil
  | x :: l, [], _, _, h => absurd ((h x).mp List.mem_cons_self) List.not_mem_nil
  | x :: l, y :: m, hl, hm, h => by
    rw [List.pairwise_cons] at hl hm
    have exy : x = y := by
      rcases List.mem_cons.mp ((h x).mp List.mem_cons_self) with e | e
      · exact e
      rcases List.mem_cons.mp ((h y).mpr List.mem_cons_self) with e' | e'
      · exact e'.symm
      have := hm.1 x e
      have := hl.1 y e'
      omega
    subst exy
    rw [asc_eq9 hl.2 hm.2 fun z => ?_]
    have hz := h z
    rw [List.mem_cons, List.mem_cons] at hz
    constructor
    · intro hm1
      rcases hz.mp (.inr hm1) with e | e
      · have := hl.1 z hm1; omega
      · exact e
    · intro hm1
      rcases hz.mpr (.inr hm1) with e | e
      · have := hm.1 z hm1; omega
      · exact e
def img (n : Nat) (f : PF) (ps : List Int) : List Int := (rgI n).filter fun y => ps.any fun x => decide (f x = some y)
def subsL : List Int → List (List Int)
  | [] => [[]]
  | x :: xs => subsL xs ++ (subsL xs).map (x :: ·)
theorem subsL_len : ∀ l, (subsL l).length = 2 ^ l.length
  | [] => rfl
  | x :: xs => by
    show (subsL xs ++ (subsL xs).map (x :: ·)).length = 2 ^ (xs.length + 1)
    rw [List.length_append, List.length_map, subsL_len xs, Nat.pow_succ]
    omega
theorem subsL_filter (p : Int → Bool) : ∀ l : List Int, l.filter p ∈ subsL l
  | [] => List.mem_singleton.mpr rfl
  | x :: xs => by
    have ih := subsL_filter p xs
    by_cases h : p x = true
    · rw [List.filter_cons_of_pos h]
      exact List.mem_append.mpr (.inr (List.mem_map.mpr ⟨_, ih, rfl⟩))
    · rw [List.filter_cons_of_neg h]
      exact List.mem_append.mpr (.inl ih)
theorem img_sub (n : Nat) (f : PF) (ps : List Int) : img n f ps ∈ subsL (rgI n) := subsL_filter _ _
theorem full_sub (n : Nat) : rgI n ∈ subsL (rgI n) := by
  have := subsL_filter (fun _ => true) (rgI n)
  rwa [List.filter_eq_self.mpr fun _ _ => rfl] at this
theorem mem_img {n : Nat} {f : PF} {ps : List Int} {y : Int} : y ∈ img n f ps ↔ (0 ≤ y ∧ y < n) ∧ ∃ x ∈ ps, f x = some y := by
  unfold img
  rw [List.mem_filter, mem_rgI, List.any_eq_true]
  constructor
  · rintro ⟨h, x, hx, e⟩
    exact ⟨h, x, hx, of_decide_eq_true e⟩
  · rintro ⟨h, x, hx, e⟩
    exact ⟨h, x, hx, decide_eq_true e⟩
/-- ascending, in range -/
structure Plc (n : Nat) (ps : List Int) : Prop where
  asc : ps.Pairwise (· < ·)
  rng : ∀ x ∈ ps, 0 ≤ x ∧ x < n
theorem plc_full (n : Nat) : Plc n (rgI n) := ⟨rgI_lt n, fun x hx => mem_rgI.mp hx⟩
theorem plc_img (n : Nat) (f : PF) (ps : List Int) : Plc n (img n f ps) := ⟨(rgI_lt n).sublist List.filter_sublist, fun x hx => (mem_img.mp hx).1⟩
theorem Plc.len {n : Nat} {ps : List Int} (h : Plc n ps) : ps.length ≤ n := by
  have := len_range (nodup_of_lt h.asc) h.rng
  omega
/-- the program's way: the targets, sorted -/
theorem img_sorted {n : Nat} {f : PF} (wf : WF n f) {ps ns : List Int} (hp : Plc n ps) (h1 : ns.Perm (ps.filterMap f)) (h2 : ns.Pairwise (· ≤ ·)) : ns = img n f ps := by
  have nd : (ps.filterMap f).Nodup := by
    refine (List.pairwise_filterMap).mpr (hp.asc.imp_of_mem ?_)
    intro a b _ _ hab x hx y hy e
    subst e
    have := wf.inj a b x hx hy
    omega
  have ndn : ns.Nodup := h1.symm.nodup nd
  have asc : ns.Pairwise (· < ·) := by
    refine (h2.and ndn).imp ?_
    rintro a b ⟨h, hne⟩
    exact Int.lt_iff_le_and_ne.mpr ⟨h, hne⟩
  refine asc_eq9 asc (plc_img n f ps).asc fun y => ?_
  rw [h1.mem_iff, List.mem_filterMap, mem_img]
  constructor
  · rintro ⟨x, hx, e⟩
    exact ⟨(wf.dom _ _ e).2.2, x, hx, e⟩
  · rintro ⟨_, x, hx, e⟩
    exact ⟨x, hx, e⟩
theorem img_mul {n : Nat} {f g : PF} (wg : WF n g) (ps : List Int) : img n (mul g f) ps = img n f (img n g ps) := by
  refine asc_eq9 (plc_img _ _ _).asc (plc_img _ _ _).asc fun y => ?_
  rw [mem_img, mem_img]
  constructor
  · rintro ⟨h, x, hx, e⟩
    obtain ⟨z, h1, h2⟩ := PM.mul_iff.mp e
    exact ⟨h, z, mem_img.mpr ⟨(wg.dom _ _ h1).2.2, x, hx, h1⟩, h2⟩
  · rintro ⟨h, z, hz, e⟩
    obtain ⟨_, x, hx, h1⟩ := mem_img.mp hz
    exact ⟨h, x, hx, PM.mul_iff.mpr ⟨z, h1, e⟩⟩
theorem img_id (n : Nat) : img n (idn n) (rgI n) = rgI n := by
  refine asc_eq9 (plc_img _ _ _).asc (rgI_lt n) fun y => ?_
  rw [mem_img, mem_rgI]
  constructor
  · exact fun h => h.1
  · exact fun h => ⟨h, y, mem_rgI.mpr h, PM.idn_iff.mpr ⟨rfl, h⟩⟩
theorem img_nil {n : Nat} {f : PF} (wf : WF n f) (h : img n f (rgI n) = []) : f = emp := by
  funext x
  cases e : f x with
  | none => rfl
  | some y =>
    have d := wf.dom _ _ e
    have : y ∈ img n f (rgI n) := mem_img.mpr ⟨d.2.2, x, mem_rgI.mpr ⟨d.1, d.2.1⟩, e⟩
    rw [h] at this
    cases this
end My
set_option maxHeartbeats 2000000
namespace My
open PySem L2 U StX PM
theorem itT {b : Bool} {A B : Prop} (h : b = true) (x : A) : if b = true then A else B := by rw [if_pos h]; exact x
theorem itF {b : Bool} {A B : Prop} (h : b = false) (x : B) : if b = true then A else B := by rw [h, if_neg Bool.false_ne_true]; exact x
/-- [e for x in xs if c] over a list or a tuple -/
theorem lc_sqF {K : PySem.W.Frag} {te : TE} {i : Nat} {tt : TT} {tv : TE} {vs : List Nat} {σ : L2.St} {H : Hp} {Q : VK} {xs : List V} {a : Addr} (c : V → Bool) (vf : V → V) (hs : SeqOf K H a xs) (hte : ∀ R : VK, R (.ref a) H → te σ H R) (hw : ∀ a, wipe ((wipe σ vs).set i a) vs = wipe σ vs)
    (hb : ∀ x, x ∈ xs → ∀ H1, Same H H1 → (∀ R : Bool → Hp → Prop, R (c x) H1 → tt ((wipe σ vs).set i (some x)) H1 R) ∧ (c x = true → ∀ R : VK, R (vf x) H1 → tv ((wipe σ vs).set i (some x)) H1 R)) (hz : xs.length < sizeLine)
    (hq : ∀ D H', H D = none → H' D = some (.lst ((xs.filter c).map vf)) → Same H H' → Q (.ref D) H') : tLc (iSq K te) (gName i) tt tv vs σ H Q := by
  have body : ∀ {J : It} {G : Hp → Prop} (W : Walk J xs.length G (YAt xs)) (hG : ∀ H', Same H H' → G H') (D : Addr) (hD : H D = none), ∃ W : Nat → Nat → Hp → Prop, (∃ m, W 0 m (upd H D (.lst []))) ∧ ∀ k m H1, W k m H1 → (J.stop k H1 ∧ Q (.ref D) H1) ∨ (J.go k H1 ∧ ∃ Nx : Hp → Prop, (∀ H', Nx H' → ∃ m', m' < m ∧ W (k + 1) m' H') ∧ ∀ x H', J.yld k H1 x H' → gName i x (wipe σ vs) H' fun σ2 H2 => wipe σ2 vs = wipe σ vs ∧ tt σ2 H2 fun b H3 => if b = true then tv σ2 H3 fun y H4 => ∃ ys, H4 D = some (.lst ys) ∧ ys.length < sizeLine ∧ Nx (upd H4 D (.lst (ys ++ [y]))) else Nx H3) := by
    intro J G W hG D hD
    refine lc_it W (fun k H' => Same H H' ∧ H' D = some (.lst (((xs.take k).filter c).map vf))) ⟨Same.new hD, upd_same⟩ (fun k H' _ p => hG _ p.1) ?_ ?_
    · rintro k v H' H'' hk ⟨s1, e1⟩ ⟨rfl, ev⟩
      obtain ⟨b1, b2⟩ := hb v (List.mem_of_getElem? ev) _ s1
      refine ⟨hw _, b1 _ ?_⟩
      by_cases hc : c v = true
      · rw [if_pos hc]
        refine b2 hc _ ⟨_, e1, ?_, Same.put s1 hD, ?_⟩
        · have h1 := List.length_filter_le c (xs.take k)
          rw [List.length_map]
          rw [List.length_take] at h1
          omega
        · rw [upd_same, take_more ev, List.filter_append, List.map_append, List.filter_cons_of_pos hc]
          rfl
      · rw [if_neg hc]
        refine ⟨s1, ?_⟩
        rw [take_more ev, List.filter_append, List.filter_cons_of_neg hc, List.filter_nil, List.append_nil]
        exact e1
    · rintro H' ⟨s1, e1⟩
      rw [List.take_length] at e1
      exact hq D H' hD e1 s1
  cases hs with
  | lst e => exact .inl (hte _ ⟨a, rfl, ⟨_, SqL.of e⟩, fun D hD => body walk_list (fun H' s => SqL.of (s _ _ e)) D hD⟩)
  | tup e => exact .inr (hte _ ⟨a, rfl, ⟨_, SqT.of e⟩, fun D hD => body walk_tup (fun H' s => SqT.of (s _ _ e)) D hD⟩)
  | kt e => exact .inr (hte _ ⟨a, rfl, ⟨_, sqT_kt e⟩, fun D hD => body walk_tup (fun H' s => sqT_kt e) D hD⟩)
/-- [e for x in f(..)], the call giving a new list of ints -/
theorem lc_intsC {K : PySem.W.Frag} {te : TE} {i : Nat} {tv : TE} {vs : List Nat} {σ : L2.St} {H : Hp} {Q : VK} {xs : List Int} (vf : Int → V) (hte : ∀ R : VK, (∀ a H', H' a = some (.lst (xs.map V.int)) → Same H H' → R (.ref a) H') → te σ H R)
    (hw : ∀ a, wipe ((wipe σ vs).set i a) vs = wipe σ vs) (hb : ∀ (x : Int), x ∈ xs → ∀ (H1 : Hp), Same H H1 → ∀ R : VK, R (vf x) H1 → tv ((wipe σ vs).set i (some (.int x))) H1 R) (hz : xs.length < sizeLine)
    (hq : ∀ D H', H' D = some (.lst (xs.map vf)) → Same H H' → Q (.ref D) H') : tLc (iList K te) (gName i) tYes tv vs σ H Q := by
  refine hte _ fun a H1 e1 s1 => ?_
  refine lc_ints (K := K) (te := fun _ H' R => R (.ref a) H') (i := i) (tt := tYes) (tv := tv) (vs := vs) (σ := σ) (H0 := H1) (H := H1) (fun _ => true) vf (fun R r => r) e1 hw (fun x hx H2 s2 => ⟨fun R r => r, fun _ R r => hb x hx H2 (s1.trans s2) R r⟩) hz fun D H2 n2 e2 s2 => ?_
  rw [List.filter_eq_self.mpr fun _ _ => rfl] at e2
  exact hq D H2 e2 (s1.trans s2)
def cPF (f : PF) : V → Bool
  | .int x => (f x).isSome
  | _ => false
def vPF (f : PF) : V → V
  | .int x => .int ((f x).getD 0)
  | v => v
theorem fm_pf (f : PF) : ∀ ps : List Int, ((ps.map V.int).filter (cPF f)).map (vPF f) = (ps.filterMap f).map V.int
  | [] => rfl
  | x :: ps => by
    have ih := fm_pf f ps
    rw [List.map_cons, List.filterMap_cons]
    cases e : f x with
    | none =>
      rw [List.filter_cons_of_neg (by show ¬ (f x).isSome = true; rw [e]; exact Bool.false_ne_true)]
      exact ih
    | some z =>
      rw [List.filter_cons_of_pos (by show (f x).isSome = true; rw [e]; rfl), List.map_cons, List.map_cons, ih]
      show V.int ((f x).getD 0) :: _ = _
      rw [e]
      rfl
theorem rtT_lc {t : TE} {D : Ends} {σ : L2.St} {H : Hp} (h : t σ H D.rt) : tRet t D σ H := h
def spPA (K : PySem.W.Frag) : Sp := fun vs H Q _ => ∃ (p d : Addr) (ps : List Int) (l : List (Int × Int)) (f : PF), vs = [.ref p, .ref d] ∧ SeqOf K H p (ps.map V.int) ∧ H d = some (.dK (kvI l)) ∧ DI l f ∧ ps.length ≤ 1000 ∧ ∀ D H', H D = none → H' D = some (.lst ((ps.filterMap f).map V.int)) → Same H H' → Q (.ref D) H'
def spImg (K : PySem.W.Frag) : Sp := fun vs H Q _ => ∃ (p d : Addr) (ps : List Int) (l : List (Int × Int)) (n : Nat) (f : PF), vs = [.ref p, .ref d] ∧ SeqOf K H p (ps.map V.int) ∧ H d = some (.dK (kvI l)) ∧ DI l f ∧ WF n f ∧ Plc n ps ∧ n ≤ 300 ∧ ∀ t H', H t = none → H' t = some (.tup ((img n f ps).map V.int)) → Same H H' → Q (.ref t) H'
section
variable {P : Program} {w : World} {K : PySem.W.Frag} {mg : Str → Option Value} {base : Heap}
theorem ok_places_after (T : Txt K mg) : FnR P w K mg base CX0 1 T.f_places_after (spPA K) := by
  refine T.A_places_after.ok sc_places_after (fun vs H Q E h => ?_) (fun cdv A outer s H vs Q E hr h => ?_)
  · obtain ⟨p, d, ps, l, f, rfl, _⟩ := h
    rfl
  · obtain ⟨p, d, ps, l, f, rfl, hp, ed, di, hl, q⟩ := h
    have hu := hu_of hr
    refine ⟨_, (pss_one (ps_ret (pe_lc (own := [("place", 2)]) (g := (gName 2)) rfl sc_places_after.nd (pi_sq (pv 0)) (blkOk_by (own := [("place", 2)]) (N := n_places_after) (sc := defScope s_places_after) (by decide +kernel)) (fun _ _ _ _ _ => (pg_name (i := 2) sc_places_after.nd rfl (Or.inl rfl))) (fun _ _ _ _ _ => (pts_one (pt_cmp (pc_din hu (pv 2) (pv 1))))) (fun _ _ _ _ _ => (pe_dget hu (pv 1) (pv 2) (fun _ _ => rfl)))))), ?_⟩
    refine rtT_lc (lc_sqF (cPF f) (vPF f) hp (fun R r => ⟨_, rfl, r⟩) (fun _ => rfl) (fun x hx H1 s1 => ?_) (by rw [List.length_map]; exact lt_line (by omega)) fun D H1 nD eD s1 => q D H1 nD (by rw [eD, fm_pf]) s1)
    obtain ⟨y, hy, rfl⟩ := List.mem_map.mp hx
    have hg := dgetL (s1 _ _ ed) di y
    refine ⟨fun R r => ⟨_, rfl, _, rfl, d, _, rfl, hg, _, rfl, ?_⟩, fun hc R r => ?_⟩
    · have r : R (f y).isSome H1 := r
      cases e : f y with
      | none => rw [e] at r; exact r
      | some z => rw [e] at r; exact r
    · have r : R (.int ((f y).getD 0)) H1 := r
      have hc : (f y).isSome = true := hc
      cases e : f y with
      | none => rw [e] at hc; cases hc
      | some z =>
        rw [e] at r hg
        exact ⟨_, rfl, _, rfl, d, .int z, rfl, hg, r⟩
theorem ok_image_of (T : Txt K mg) : FnR P w K mg base CX0 2 T.f_image_of (spImg K) := by
  refine T.A_image_of.ok sc_image_of (fun vs H Q E h => ?_) (fun cdv A outer s H vs Q E hr h => ?_)
  · obtain ⟨p, d, ps, l, n, f, rfl, _⟩ := h
    rfl
  · obtain ⟨p, d, ps, l, n, f, rfl, hp, ed, di, wf, pl, n3, q⟩ := h
    have hu := hu_of hr
    refine ⟨_, (pss_one (ps_ret (pe_callTy call_tuple_of (by rfl) T.n_tuple (by decide +kernel) (pa_cons (pe_callB cr_sortedI (by rfl) T.n_sorted (by decide +kernel) (pa_cons (pe_lc (own := [("place", 2)]) (g := (gName 2)) (tt := tYes) rfl sc_image_of.nd (pi_list (pe_callR (ok_places_after T) (hr.mono (by decide)) T.A_places_after.kp rfl T.g_places_after pass0 (pa_cons (pv 0) (pa_cons (pv 1) pa_nil)))) (blkOk_by (own := [("place", 2)]) (N := n_image_of) (sc := defScope s_image_of) (by decide +kernel)) (fun _ _ _ _ _ => (pg_name (i := 2) sc_image_of.nd rfl (Or.inl rfl))) (fun _ _ _ _ _ => pts_nil) (fun _ _ _ _ _ => (pe_callTy call_int1 (by rfl) T.n_int (by decide +kernel) (pa_cons (pv 2) pa_nil)))) pa_nil)) pa_nil)))), ?_⟩
    dsimp only [tRet, tCB, tCons, tNil]
    have lf : (ps.filterMap f).length ≤ 300 := by
      have h1 := List.length_filterMap_le f ps
      have := pl.len
      omega
    refine lc_intsC (xs := ps.filterMap f) V.int (fun R r => ⟨_, rfl, _, rfl, p, d, ps, l, f, rfl, hp, ed, di, by have := pl.len; omega, fun D1 H1 n1 e1 s1 => r D1 H1 e1 s1⟩) (fun _ => rfl) (fun x hx H2 s2 R r => ⟨_, rfl, .inl ⟨x, rfl, r⟩⟩) (lt_line (by omega)) fun D2 H2 e2 s2 => ?_
    refine ⟨D2, _, rfl, SqL.of e2, fun ns D3 pm so n3' => ?_⟩
    refine ⟨D3, _, rfl, .inl ⟨SqL.of upd_same, fun t nt => ?_⟩⟩
    have s3 : Same H (upd H2 D3 (.lst (ns.map V.int))) := s2.trans (Same.new n3')
    exact q t _ (s3.free nt) (by rw [upd_same, img_sorted wf pl pm so]) (s3.trans (Same.new nt))
end
end My
namespace My
open PySem L2 U StX PM
/-- a list != [], whatever it holds -/
def rNeNil : R2 := fun x y H Q => ∃ (a b : Addr) (xs : List V), x = .ref a ∧ y = .ref b ∧ H a = some (.lst xs) ∧ H b = some (.lst []) ∧ Q (.bl (!xs.isEmpty)) H
theorem op_neNil {X : Cx} (hu : X.A.units < cLine) : OpR X (compareOp .NotEq) rNeNil := by
  intro pins s σ H x y v u Q I rx ry hq
  obtain ⟨a, b, xs, rfl, rfl, ha, hb, q⟩ := hq
  show wpAny (model X.prog X.w) X.A (PySem.richCompare .NotEq v u) (EP X pins σ Q) X.xe s
  cases (show v = Value.ref a from rx)
  cases (show u = Value.ref b from ry)
  obtain ⟨z, its, k, r, e⟩ := I.hok a _ ha
  obtain ⟨z2, its2, k2, r2, e2⟩ := I.hok b _ hb
  cases r2
  have hl := r.length
  cases xs with
  | nil =>
    cases r
    refine U.rc_neB (N := 0) hu (fun _ => true) true (fun _ => rfl) (fun j hj => absurd hj (Nat.not_lt_zero _)) (fun s' => s' = s) (fun s' e' => ?_) (fun s' e' => ?_) rfl
    · subst e'
      exact ⟨#[], #[], k, k2, e, e2, rfl, rfl, fun i h1 => absurd h1 (Nat.not_lt_zero _)⟩
    · subst e'
      exact ⟨.bl false, H, I, rfl, q⟩
  | cons x xs =>
    refine U.rc_neN hu ?_ e e2 ⟨.bl true, H, I, rfl, q⟩
    rw [List.size_toArray, List.size_toArray, ← hl]
    exact fun z => nomatch z
theorem lay_I : ∀ l : List Int, PyData.canLayAll0 (l.map PyData.int) = true ∧ PyData.depthAll (l.map PyData.int) ≤ 1
  | [] => ⟨rfl, Nat.zero_le _⟩
  | x :: l => by
    obtain ⟨h1, h2⟩ := lay_I l
    constructor
    · simp [PyData.canLayAll0, PyData.canLay0, h1]
    · simp only [List.map_cons, PyData.depthAll, PyData.depth]
      omega
theorem shT (l : List Int) : SeqAt.shaped (.tuple (l.map PyData.int)) = true := by
  obtain ⟨h1, h2⟩ := lay_I l
  unfold SeqAt.shaped
  rw [Bool.and_eq_true]
  refine ⟨h1, decide_eq_true ?_⟩
  show PyData.depthAll (l.map PyData.int) + 1 ≤ 64
  omega
theorem eqvT_nil (l : List Int) : PyData.eqv (.tuple (l.map PyData.int)) (.tuple []) = decide (l = []) := by
  cases l <;> rfl
theorem dpT9 {K : PySem.W.Frag} {H : Hp} {b : Addr} {l : List Int} (e : H b = some (.tup (l.map V.int))) : Dp K H (.ref b) (.tuple (l.map PyData.int)) := .tup (SqT.of e) (dpI l)
/-! ### dicts of sets of places to words -/
abbrev WsT := WsA (List Int)
def ks (l : List Int) : List Key := l.map Sum.inl
theorem ks_kV (l : List Int) : (ks l).map kV = l.map V.int := by unfold ks; rw [List.map_map]; rfl
theorem ks_inj {l m : List Int} (h : ks l = ks m) : l = m := by
  unfold ks at h
  have e : ∀ l : List Int, (l.map Sum.inl : List Key).filterMap (fun k => match k with | .inl i => some i | .inr _ => none) = l := fun l => by
    induction l with
    | nil => rfl
    | cons x l ih => rw [List.map_cons, List.filterMap_cons]; dsimp only; rw [ih]
  rw [← e l, h, e m]
def WRT (H : Hp) (kv : List Key × V) (e : List Int × List Int) : Prop := kv.1 = ks e.1 ∧ ∃ p, kv.2 = V.ref p ∧ H p = some (.tup (e.2.map V.int))
def WdT (H : Hp) (D : Addr) (ws : WsT) : Prop := ∃ kvs : List (List Key × V), H D = some (.dT kvs) ∧ Paired (WRT H) kvs ws
theorem WRT.mono {H H' : Hp} (s : ∀ (p : Addr) (xs : List V), H p = some (.tup xs) → H' p = some (.tup xs)) {kv : List Key × V} {e : List Int × List Int} (h : WRT H kv e) : WRT H' kv e := by
  obtain ⟨h1, p, h2, h3⟩ := h
  exact ⟨h1, p, h2, s _ _ h3⟩
theorem WdT.same {H H' : Hp} {D : Addr} {ws : WsT} (h : WdT H D ws) (s : Same H H') : WdT H' D ws := by
  obtain ⟨kvs, h1, h2⟩ := h
  exact ⟨kvs, s _ _ h1, PySem.Paired.map h2 fun _ _ _ r => r.mono fun _ _ e => s _ _ e⟩
theorem WdT.off {H H' : Hp} {D W : Addr} {ws : WsT} (h : WdT H D ws) (o : Off W H H') (hw : ∃ xs, H W = some (.lst xs)) : WdT H' D ws := by
  obtain ⟨kvs, h1, h2⟩ := h
  obtain ⟨ys, hw⟩ := hw
  exact ⟨kvs, o _ _ (fun z => by rw [z, hw] at h1; cases h1) h1, PySem.Paired.map h2 fun _ _ _ r => r.mono fun p _ e => o _ _ (fun z => by rw [z, hw] at e; cases e) e⟩
theorem WdT.len {H : Hp} {D : Addr} {ws : WsT} (h : WdT H D ws) : ∃ kvs : List (List Key × V), H D = some (.dT kvs) ∧ kvs.length = ws.length := by
  obtain ⟨kvs, h1, h2⟩ := h
  exact ⟨kvs, h1, paired_len h2⟩
theorem valT_pos {kv : List Key × V} {kvs : List (List Key × V)} {k : List Key} (h : kv.1 = k) : valV (kv :: kvs) k = some kv.2 := by
  unfold valV
  rw [List.find?_cons, show decide (kv.1 = k) = true from decide_eq_true h]
  rfl
theorem valT_neg {kv : List Key × V} {kvs : List (List Key × V)} {k : List Key} (h : ¬ kv.1 = k) : valV (kv :: kvs) k = valV kvs k := by
  unfold valV
  rw [List.find?_cons, show decide (kv.1 = k) = false from decide_eq_false h]
theorem wrt_val {H : Hp} {x : List Int} : ∀ {kvs : List (List Key × V)} {ws : WsT}, Paired (WRT H) kvs ws → (x ∉ keyA ws → valV kvs (ks x) = none) ∧ (x ∈ keyA ws → ∃ e p, e ∈ ws ∧ e.1 = x ∧ valV kvs (ks x) = some (V.ref p) ∧ H p = some (.tup (e.2.map V.int)))
  | [], [], _ => ⟨fun _ => rfl, fun h => nomatch h⟩
  | kv :: kvs, e :: ws, h => by
    cases h with
    | cons h1 h2 =>
      obtain ⟨i1, i2⟩ := wrt_val (x := x) h2
      obtain ⟨g1, p, g2, g3⟩ := h1
      by_cases hx : e.1 = x
      · refine ⟨fun hn => absurd (by simp [keyA, hx]) hn, fun _ => ⟨e, p, List.mem_cons_self, hx, ?_, g3⟩⟩
        rw [valT_pos (by rw [g1, hx]), g2]
      · have hne : ¬ kv.1 = ks x := fun z => by rw [g1] at z; exact hx (ks_inj z)
        refine ⟨fun hn => ?_, fun hm => ?_⟩
        · rw [valT_neg hne]
          exact i1 fun z => hn (List.mem_cons_of_mem _ z)
        · rw [valT_neg hne]
          obtain ⟨e', p', q1, q2⟩ := i2 (by
            rcases List.mem_cons.mp hm with z | z
            · exact absurd z.symm hx
            · exact z)
          exact ⟨e', p', List.mem_cons_of_mem _ q1, q2⟩
theorem WdT.has {H : Hp} {D b : Addr} {ws : WsT} (h : WdT H D ws) {x : List Int} (eb : H b = some (.tup (x.map V.int))) : ∃ o, DGet H D (.ref b) o ∧ o.isSome = decide (x ∈ keyA ws) ∧ (x ∉ keyA ws → o = none) ∧ (x ∈ keyA ws → ∃ e p, e ∈ ws ∧ e.1 = x ∧ o = some (V.ref p) ∧ H p = some (.tup (e.2.map V.int))) := by
  obtain ⟨kvs, h1, h2⟩ := h
  obtain ⟨i1, i2⟩ := wrt_val (x := x) h2
  refine ⟨_, DGet.t (k := ks x) h1 (by rw [ks_kV]; exact eb), ?_, i1, i2⟩
  by_cases hx : x ∈ keyA ws
  · obtain ⟨e, p, _, _, hv, _⟩ := i2 hx
    rw [hv, decide_eq_true hx]
    rfl
  · rw [i1 hx, decide_eq_false hx]
    rfl
theorem keyA_uniq {ws : WsT} (nd : (keyA ws).Nodup) {e e' : List Int × List Int} (h : e ∈ ws) (h' : e' ∈ ws) (x : e.1 = e'.1) : e = e' := by
  induction ws with
  | nil => cases h
  | cons a r ih =>
    rw [show keyA (a :: r) = a.1 :: keyA r from rfl, List.nodup_cons] at nd
    rcases List.mem_cons.mp h with h1 | h1
    · rcases List.mem_cons.mp h' with h2 | h2
      · rw [h1, h2]
      · exact absurd (show a.1 ∈ keyA r from List.mem_map.mpr ⟨e', h2, by rw [← x, h1]⟩) nd.1
    · rcases List.mem_cons.mp h' with h2 | h2
      · exact absurd (show a.1 ∈ keyA r from List.mem_map.mpr ⟨e, h1, by rw [x, h2]⟩) nd.1
      · exact ih nd.2 h1 h2
theorem WdT.get {H : Hp} {D b : Addr} {ws : WsT} (h : WdT H D ws) (nd : (keyA ws).Nodup) {e : List Int × List Int} (he : e ∈ ws) (eb : H b = some (.tup (e.1.map V.int))) : ∃ p, DGet H D (.ref b) (some (.ref p)) ∧ H p = some (.tup (e.2.map V.int)) := by
  obtain ⟨o, g, _, _, i2⟩ := h.has eb
  obtain ⟨e', p, q1, q2, q3, q4⟩ := i2 (List.mem_map.mpr ⟨e, he, rfl⟩)
  have := keyA_uniq nd he q1 q2.symm
  subst this
  subst q3
  exact ⟨p, g, q4⟩
theorem WdT.put {H : Hp} {D t b : Addr} {ws : WsT} (h : WdT H D ws) {x w : List Int} (hx : x ∉ keyA ws) (eb : H b = some (.tup (x.map V.int))) (ht : H t = some (.tup (w.map V.int))) (hl : ws.length < sizeLine) : ∃ H', DPut H D (.ref b) (.ref t) H' ∧ WdT H' D (ws ++ [(x, w)]) ∧ ∃ o, H' = upd H D o := by
  obtain ⟨kvs, h1, h2⟩ := h
  have hln := paired_len h2
  refine ⟨_, DPut.t (k := ks x) h1 (by rw [ks_kV]; exact eb) (by omega), ?_, _, rfl⟩
  have e : putK kvs (ks x) (V.ref t) = kvs ++ [(ks x, .ref t)] := by
    unfold putK
    rw [if_neg]
    rw [valV_any, (wrt_val h2).1 hx]
    exact Bool.false_ne_true
  refine ⟨_, upd_same, ?_⟩
  rw [e]
  have up : ∀ (p : Addr) (xs : List V), H p = some (.tup xs) → (upd H D (.dT (kvs ++ [(ks x, .ref t)]))) p = some (.tup xs) := fun p xs e => by
    rw [upd_ne (fun z => by rw [z, h1] at e; cases e)]
    exact e
  exact paired_snoc (PySem.Paired.map h2 fun _ _ _ r => r.mono up) ⟨rfl, t, rfl, up _ _ ht⟩
theorem keyA_drop {ws : WsT} {k : Nat} {e : List Int × List Int} (h : ws[k]? = some e) : (keyA ws).drop k = e.1 :: (keyA ws).drop (k + 1) := by
  have hl := (List.getElem?_eq_some_iff.mp h).1
  have : k < (keyA ws).length := by rw [keyA_len]; exact hl
  rw [List.drop_eq_getElem_cons this]
  congr 1
  have h2 : (keyA ws)[k]? = some e.1 := by unfold keyA; rw [List.getElem?_map, h]; rfl
  rw [List.getElem?_eq_getElem this] at h2
  exact Option.some.inj h2
/-- a list of tuples of places -/
def TpsAt (H : Hp) : List Addr → List (List Int) → Prop := Paired fun q l => H q = some (.tup (l.map V.int))
theorem TpsAt.same {H H' : Hp} {qs : List Addr} {ls : List (List Int)} (h : TpsAt H qs ls) (s : Same H H') : TpsAt H' qs ls := PySem.Paired.map h fun _ _ _ e => s _ _ e
theorem TpsAt.off {H H' : Hp} {W : Addr} {qs : List Addr} {ls : List (List Int)} (h : TpsAt H qs ls) (o : Off W H H') (hw : ∀ xs, H W ≠ some (.tup xs)) : TpsAt H' qs ls := PySem.Paired.map h fun q _ _ e => o _ _ (fun z => hw _ (by rw [← z]; exact e)) e
theorem rgV_0 (n : Nat) : rgV 0 (n : Int) = (rgI n).map V.int := by
  unfold rgV rgI
  rw [List.map_map]
  have : ((n : Int) - 0).toNat = n := by omega
  rw [this]
  exact List.map_congr_left fun i _ => by show V.int (0 + (i : Nat)) = V.int (i : Nat); rw [Int.zero_add]
def imgs (n : Nat) (fs : List PF) : List (List Int → List Int) := fs.map (img n)
/-- what the program's search gives: all, or up to the empty set -/
def Srch (n B : Nat) (fs : List PF) (ws : WsT) : Prop := (∃ r, WdA (imgs n fs) (rgI n) B = ws ++ r) ∧ (ws = WdA (imgs n fs) (rgI n) B ∨ [] ∈ keyA ws)
def spSrch (CM CF : Addr) : Sp := fun vs H Q _ => ∃ (a t : Addr) (xs : List V) (n B : Nat) (fs : List PF), vs = [.ref a] ∧ FamAt CM CF H a t xs n fs ∧ n ≤ 300 ∧ B ≤ 1000 ∧ (∀ k, (WdA (imgs n fs) (rgI n) k).length ≤ B) ∧ ∀ D ws H', H D = none → WdT H' D ws → Srch n B fs ws → Same H H' → Q (.ref D) H'
section
variable {P : Program} {w : World} {K : PySem.W.Frag} {mg : Str → Option Value} {base : Heap}
theorem ok_searched (T : Txt K mg) : FnR P w K mg base CX0 6 T.f_searched (spSrch T.C_Map T.C_Family) := by
  refine T.A_searched.ok sc_searched (fun vs H Q E h => ?_) (fun cdv A outer s H vs Q E hr h => ?_)
  · obtain ⟨a, t, xs, n, B, fs, rfl, _⟩ := h
    rfl
  · obtain ⟨a, t, xs, n, B, fs, rfl, fam, n3, hB, hW, q⟩ := h
    have hu := hu_of hr
    obtain ⟨_, h_MOST_SETS⟩ := T.v_MOST_SETS
    refine ⟨_, (pss_cons (ps_setLc (i := 1) (own := [("one", 9)]) (g := (gName 9)) (tt := tYes) rfl sc_searched.nd rfl rfl (sw_true rfl rfl rfl (by decide +kernel)) (pi_tup (pe_propR (pv 0) T.o_Family.cl T.P_Family_maps (ok_f_maps T) (hr.mono (by decide)))) (blkOk_by (own := [("one", 9)]) (N := n_searched) (sc := defScope s_searched) (by decide +kernel)) (fun _ _ _ _ _ => (pg_name (i := 9) sc_searched.nd rfl (Or.inl rfl))) (fun _ _ _ _ _ => pts_nil) (fun _ _ _ _ _ => (pe_propR (pv 9) T.o_Map.cl T.P_Map_arrows (ok_arrows T) (hr.mono (by decide)))))
      (pss_cons (ps_set (i := 2) sc_searched.nd rfl (Or.inl rfl) (pe_tupRg rfl rfl T.n_tuple (prg_1 rfl T.n_range (pe_propR (pv 0) T.o_Family.cl T.P_Family_size (ok_f_size T) (hr.mono (by decide))))))
      (pss_cons (ps_set (i := 3) sc_searched.nd rfl (Or.inl rfl) (DT2.pe_dispT hu (pv 2) (pe_tup pa_nil)))
      (pss_cons (ps_set (i := 4) sc_searched.nd rfl (Or.inl rfl) (pe_lst (pa_cons (pv 2) pa_nil)))
      (pss_cons (ps_while PassesOwn.never (pt_cmpR (op_neNil hr.units0) (pv 4) (pe_lst pa_nil) (nomark _))
        (pss_cons (ps_set (i := 5) sc_searched.nd rfl (Or.inl rfl) (pe_bm PySem.F.plainAttrs_list PySem.F.slot_list_pop PySem.F.type_list_pop mt_popAt (pv 4) (pa_cons pe_int pa_nil)))
      (pss_one (ps_for PassesOwn.never rfl (pi_enum rfl T.n_enumerate (pa_cons (pv 1) pa_nil)) (pg_tup rfl (pgs_cons (pg_name (i := 6) sc_searched.nd rfl (Or.inl rfl)) (pgs_cons (pg_name (i := 7) sc_searched.nd rfl (Or.inl rfl)) pgs_nil)))
        (pss_cons (ps_set (i := 8) sc_searched.nd rfl (Or.inl rfl) (pe_callR (ok_image_of T) (hr.mono (by decide)) T.A_image_of.kp rfl T.g_image_of pass0 (pa_cons (pv 5) (pa_cons (pv 7) pa_nil))))
      (pss_one (ps_if (pt_cmp (pc_dnotin hu (pv 8) (pv 3)))
        (pss_cons (ps_if (PW.pt (pw_and (pt_cmpR op_eq (pe_callB DT2.call_lenT (by rfl) T.n_len (by decide +kernel) (pa_cons (pv 3) pa_nil)) (pe_glob (v := .int 2000) rfl h_MOST_SETS ⟨_, rfl⟩) (nomark _)) (pw_and1 (pt_cmpR (L2.op_neD hr.units) (pv 8) (pe_tup pa_nil) (nomark _)))))
        (pss_one ps_never) pss_nil)
      (pss_cons (ps_dput hu (pv 3) (pv 8) (pe_tup (pa_star (pe_dget hu (pv 3) (pv 5) (fun _ _ => rfl)) (pa_cons (pv 6) pa_nil))) rfl)
      (pss_cons (ps_expr (pe_bm PySem.F.plainAttrs_list PySem.F.slot_list_append PySem.F.type_list_append mt_append (pv 4) (pa_cons (pv 8) pa_nil)))
      (pss_one (ps_if (pt_cmpR (L2.op_eqD hr.units) (pv 8) (pe_tup pa_nil) (nomark _))
        (pss_one (ps_ret (pv 3))) pss_nil))))) pss_nil)))))))
      (pss_one (ps_ret (pv 3)))))))), ?_⟩
    obtain ⟨dx, ea⟩ := fam.ob
    have hfl := fam.le
    have wf := fam.ms.wf
    obtain ⟨Wk, eWk⟩ : ∃ Wk, Wk = WdA (imgs n fs) (rgI n) := ⟨_, rfl⟩
    have hWk : ∀ k, (Wk k).length ≤ B := fun k => by rw [eWk]; exact hW k
    have wdn : ∀ k, (keyA (Wk k)).Nodup := fun k => by rw [eWk]; exact WdA_nodup k
    have wpl : ∀ k, ∀ x ∈ keyA (Wk k), Plc n x := fun k => by
      rw [eWk]
      refine WdA_in (S := Plc n) (plc_full n) (fun f hf p _ => ?_) k
      obtain ⟨g, _, rfl⟩ := List.mem_map.mp hf
      exact plc_img n g p
    dsimp only [tSeq, tAsg, gName]
    refine lc_arrs T fam (fun R r => ⟨_, rfl, a, dx, _, rfl, ea, a, t, xs, n, fs, rfl, fam, r⟩) (fun _ => rfl) (fun _ => rfl) (fun tl ds H1 s1 ntl htl htb hdl => ?_)
    refine ⟨_, rfl, a, dx, _, rfl, s1 _ _ ea, a, t, xs, n, fs, rfl, fam.same s1, n, rfl, .of_le (by omega) (by omega) (by omega) (by omega), ?_⟩
    refine fun fb n_fb => ?_
    generalize g_fb : L2.upd _ fb _ = H2
    obtain ⟨s_H2, e_fb⟩ := U.upd_facts g_fb n_fb
    clear g_fb
    rw [rgV_0] at e_fb
    refine fun D n_D => ?_
    refine ⟨_, rfl, nil_le, fun e0 n_e0 => ?_⟩
    have ne0 : D ≠ e0 := fun z => by rw [← z, upd_same] at n_e0; cases n_e0
    have nfD : fb ≠ D := ne_of_none e_fb n_D
    have nfe : fb ≠ e0 := fun z => by rw [← z, upd_ne nfD, e_fb] at n_e0; cases n_e0
    refine ⟨fb, ks (rgI n), rfl, by rw [upd_ne ne0]; exact upd_same, by rw [ks_kV, upd_ne nfe, upd_ne nfD]; exact e_fb, ?_⟩
    generalize g_D : upd (upd (upd H2 D _) e0 _) D _ = H3
    have sH3 : Same H2 H3 := by rw [← g_D]; exact Same.put ((Same.new n_D).trans (Same.new n_e0)) n_D
    have w3 : WdT H3 D (Wk 0) := by
      rw [← g_D, eWk]
      exact ⟨_, upd_same, .cons ⟨rfl, e0, rfl, by rw [upd_ne ne0.symm]; exact upd_same⟩ .nil⟩
    clear g_D n_e0 ne0
    refine ⟨_, rfl, one_le, ?_⟩
    refine fun W n_W => ?_
    generalize g_W : L2.upd _ W _ = H4
    obtain ⟨s_H4, e_W⟩ := U.upd_facts g_W n_W
    clear g_W
    have s02 := s1.trans s_H2
    have nD : H D = none := s02.free n_D
    have nW : H W = none := (s02.trans sH3).free n_W
    have s04 := (s02.trans sH3).trans s_H4
    have s14 : Same H1 H4 := (s_H2.trans sH3).trans s_H4
    have ef4 := s_H4 _ _ (sH3 _ _ e_fb)
    obtain ⟨m0, f0, _, hm0⟩ := fam.ms.first fam.ne
    have n1 : 1 ≤ n := by have := hm0.lo; omega
    have n1D : H1 D = none := s_H2.free n_D
    have n1W : H1 W = none := (s_H2.trans sH3).free n_W
    have eW0 : Wk 0 = [(rgI n, [])] := by rw [eWk]; rfl
    have full_ne : rgI n ≠ [] := fun z => by
      have : (0 : Int) ∈ rgI n := mem_rgI.mpr ⟨by omega, by omega⟩
      rw [z] at this
      cases this
    clear hm0
    have htb' : ∀ {Hx : Hp}, Same H1 Hx → TabsAt' Hx ds fs := fun sx => htb.same sx
    refine ⟨fun m σ H' => ∃ k qs v5 v6 v7 v8, σ = [some (.ref a), some (.ref tl), some (.ref fb), some (.ref D), some (.ref W), v5, v6, v7, v8, none] ∧ Same H1 H' ∧ WdT H' D (Wk k) ∧ H' W = some (.lst (qs.map V.ref)) ∧ TpsAt H' qs ((keyA (Wk k)).drop k) ∧ m = B - k ∧ k ≤ (Wk k).length ∧ [] ∉ keyA (Wk k),
      ⟨B, 0, [fb], _, _, _, _, rfl, s14, w3.same s_H4, e_W, by rw [eW0]; exact .cons ef4 .nil, rfl, Nat.zero_le _, by rw [eW0]; exact fun z => full_ne (List.mem_singleton.mp z).symm⟩, ?_⟩
    clear w3 e_W s_H4 s14 s04 s02
    rintro m σ H' ⟨k, qs, v5, v6, v7, v8, rfl, p1, p2, p3, p4, rfl, hk, hne⟩
    refine ⟨_, rfl, nil_le, ?_⟩
    refine fun t1 n_t1 => ?_
    generalize g_t1 : L2.upd _ t1 _ = H5
    obtain ⟨s_H5, e_t1⟩ := U.upd_facts g_t1 n_t1
    clear g_t1
    refine ⟨W, t1, _, rfl, rfl, s_H5 _ _ p3, e_t1, _, rfl, ?_⟩
    replace p1 := p1.trans s_H5
    replace p2 := p2.same s_H5
    replace p3 := s_H5 _ _ p3
    replace p4 := p4.same s_H5
    have hlW := hWk k
    cases qs with
    | nil =>
      have hd : (keyA (Wk k)).drop k = [] := by cases h : (keyA (Wk k)).drop k with
        | nil => rfl
        | cons x y => rw [h] at p4; cases p4
      have hge : (Wk k).length ≤ k := by
        have := List.drop_eq_nil_iff.mp hd
        rwa [keyA_len] at this
      have eB : Wk B = Wk k := by
        rw [eWk] at hge hlW hk ⊢
        exact WdA_stop hge (by omega)
      refine itF rfl ⟨_, rfl, q D (Wk k) H5 nD p2 ⟨⟨[], by rw [List.append_nil, ← eWk]; exact eB⟩, .inl (by rw [← eWk]; exact eB.symm)⟩ (s1.trans p1)⟩
    | cons b qr =>
      have hlt : k < (Wk k).length := by
        refine Nat.lt_of_le_of_ne hk fun e => ?_
        have hd : (keyA (Wk k)).drop k = [] := List.drop_eq_nil_iff.mpr (by rw [keyA_len]; omega)
        rw [hd] at p4
        cases p4
      obtain ⟨e, he⟩ : ∃ e, (Wk k)[k]? = some e := ⟨_, List.getElem?_eq_getElem hlt⟩
      rw [keyA_drop he] at p4
      cases p4 with
      | cons pb p4 =>
      have ple : Plc n e.1 := wpl k _ (List.mem_map.mpr ⟨e, List.mem_of_getElem? he, rfl⟩)
      refine itT rfl ?_
      refine ⟨fun σ' H2 => ∃ m', m' < B - k ∧ _, fun _ _ h => h, ?_⟩
      refine ⟨_, rfl, .inl ⟨rfl, _, SqL.of p3⟩, W, _, 0, 0, .ref b, rfl, rfl, p3, by decide, by decide, ?_, rfl, ?_⟩
      · exact PySem.seqIndex_of (by decide) (by simp)
      rw [List.map_cons, List.eraseIdx_cons_zero]
      have nDW : D ≠ W := fun z => by obtain ⟨kvs, g, _⟩ := p2; rw [z, p3] at g; cases g
      have nbW : b ≠ W := fun z => by rw [z, p3] at pb; cases pb
      have oW : Off W H5 (upd H5 W (.lst (qr.map V.ref))) := Off.lock
      have p2W := p2.off oW ⟨_, p3⟩
      have p1W : Same H1 (upd H5 W (.lst (qr.map V.ref))) := Same.put p1 n1W
      have p4W := TpsAt.off p4 oW fun xs z => by rw [p3] at z; cases z
      have pbW : (upd H5 W (.lst (qr.map V.ref))) b = some (.tup (e.1.map V.int)) := oW _ _ nbW pb
      have p3W : (upd H5 W (.lst (qr.map V.ref))) W = some (.lst (qr.map V.ref)) := upd_same
      generalize upd H5 W (.lst (qr.map V.ref)) = H6 at p2W p1W p3W p4W pbW ⊢
      clear p1 p2 p3 p4 pb oW n_t1 e_t1 s_H5
      refine ⟨_, rfl, tl, ds, rfl, SqL.of (p1W _ _ htl), ?_⟩
      refine for_it (walk_enum (xs := ds)) (fun j σ H' => ∃ qs v6 v7 v8, σ = [some (.ref a), some (.ref tl), some (.ref fb), some (.ref D), some (.ref W), some (.ref b), v6, v7, v8, none] ∧ Same H1 H' ∧ WdT H' D (Wk k ++ visA (imgs n fs) (Wk k) e.1 e.2 j) ∧ H' W = some (.lst (qs.map V.ref)) ∧ TpsAt H' qs ((keyA (Wk k)).drop (k + 1) ++ keyA (visA (imgs n fs) (Wk k) e.1 e.2 j)) ∧ H' b = some (.tup (e.1.map V.int)) ∧ [] ∉ keyA (Wk k ++ visA (imgs n fs) (Wk k) e.1 e.2 j))
        ⟨qr, _, _, _, rfl, p1W, by rw [show visA (imgs n fs) (Wk k) e.1 e.2 0 = [] from rfl, List.append_nil]; exact p2W, p3W, by rw [show visA (imgs n fs) (Wk k) e.1 e.2 0 = [] from rfl, show keyA ([] : WsT) = [] from rfl, List.append_nil]; exact p4W, pbW, by rw [show visA (imgs n fs) (Wk k) e.1 e.2 0 = [] from rfl, List.append_nil]; exact hne⟩ (fun i σ H' _ ⟨_, _, _, _, _, z, _⟩ => SqL.of (z _ _ htl)) ?_ ?_
      · rintro j v σ Ha0 Ha hj ⟨qs, v6, v7, v8, rfl, q1, q2, q3, q4, q5, q6⟩ ⟨u0, x, y, rfl, n_u0, rfl, e1, e2⟩
        cases e1
        obtain ⟨f, hf, d, l, rfl, hd, di, hll⟩ := paired_at htb e2
        generalize g_u0 : L2.upd _ u0 _ = Hb
        obtain ⟨s_Hb, e_u0⟩ := U.upd_facts g_u0 n_u0
        clear g_u0
        replace q1 := q1.trans s_Hb
        replace q2 := q2.same s_Hb
        replace q3 := s_Hb _ _ q3
        replace q4 := q4.same s_Hb
        replace q5 := s_Hb _ _ q5
        have hdb := q1 _ _ hd
        have hfi : (imgs n fs)[j]? = some (img n f) := by unfold imgs; rw [List.getElem?_map, hf]; rfl
        have hjl : j + 1 ≤ (imgs n fs).length := by
          have := (List.getElem?_eq_some_iff.mp hfi).1
          omega
        refine ⟨u0, [.int j, .ref d], rfl, SqT.of e_u0, rfl, .int j, [.ref d], rfl, .ref d, [], rfl, rfl, ?_⟩
        have ev := visA_at (ws := Wk k) (p := e.1) (w := e.2) hfi
        have pre : ∀ i, i ≤ (imgs n fs).length → ∃ r, Wk (k + 1) = Wk k ++ visA (imgs n fs) (Wk k) e.1 e.2 i ++ r := fun i hi => by
          rw [eWk] at he ⊢
          exact visA_pre he hi
        obtain ⟨r0, hr0⟩ := pre j (by omega)
        obtain ⟨r1, hr1⟩ := pre (j + 1) hjl
        have ndv : (keyA (Wk k ++ visA (imgs n fs) (Wk k) e.1 e.2 j)).Nodup := visA_nodup (wdn k) j
        have lnv : (Wk k ++ visA (imgs n fs) (Wk k) e.1 e.2 j).length ≤ B := by
          have := hWk (k + 1)
          rw [hr0, List.length_append] at this
          omega
        obtain ⟨vw, evw⟩ : ∃ vw, vw = visA (imgs n fs) (Wk k) e.1 e.2 j := ⟨_, rfl⟩
        rw [← evw] at q2 q4 q6 ev ndv lnv
        refine ⟨_, rfl, _, rfl, b, d, e.1, l, n, f, rfl, .tup q5, hdb, di, wf f (List.mem_of_getElem? hf), ple, n3, fun tn Hc ntn etn sc => ?_⟩
        replace q1 := q1.trans sc
        replace q2 := q2.same sc
        replace q3 := sc _ _ q3
        replace q4 := q4.same sc
        replace q5 := sc _ _ q5
        clear s_Hb n_u0 e_u0 hdb
        obtain ⟨o, ho, hs, _, _⟩ := q2.has etn
        refine ⟨_, rfl, _, rfl, D, o, rfl, ho, _, rfl, ?_⟩
        rw [hs]
        by_cases hn : img n f e.1 ∈ keyA (Wk k ++ vw)
        · rw [if_pos hn] at ev
          exact itF (by rw [decide_eq_true hn]; rfl) ⟨qs, _, _, _, rfl, q1, by rw [ev]; exact q2, q3, by rw [ev]; exact q4, q5, by rw [ev]; exact q6⟩
        · rw [if_neg hn] at ev
          refine itT (by rw [decide_eq_false hn]; rfl) ?_
          obtain ⟨kvs, eD, lD⟩ := q2.len
          refine ⟨_, rfl, D, kvs, rfl, eD, rfl, _, rfl, itF (decide_eq_false fun z => ?_) (itF rfl ?_)⟩
          · have := V.int.inj z
            omega
          obtain ⟨pw, hpw, epw⟩ := q2.get ndv (List.mem_append.mpr (.inl (List.mem_of_getElem? he))) q5
          refine ⟨_, rfl, _, rfl, D, .ref pw, rfl, hpw, pw, _, rfl, .inl (SqT.of epw), _, rfl, ?_, ?_⟩
          · refine le_line ?_
            have := WdA_word (fs := imgs n fs) (s := rgI n) (k := k) (by rw [← eWk]; exact List.mem_of_getElem? he)
            simp only [List.length_append, List.length_map, List.length_cons, List.length_nil]
            omega
          refine fun t2 n_t2 => ?_
          generalize g_t2 : L2.upd _ t2 _ = Hd
          obtain ⟨s_Hd, e_t2⟩ := U.upd_facts g_t2 n_t2
          clear g_t2
          have et2 : Hd t2 = some (.tup ((e.2 ++ [(j : Int)]).map V.int)) := by rw [e_t2, List.map_append]; rfl
          obtain ⟨He, hput, wput, ou, rfl⟩ := (q2.same s_Hd).put hn (s_Hd _ _ etn) et2 (lt_line (by omega))
          refine ⟨_, rfl, _, rfl, D, _, rfl, hput, ?_⟩
          have oD : Off D Hd (upd Hd D ou) := Off.lock
          have eDd := s_Hd _ _ eD
          have hWd : (upd Hd D ou) W = some (.lst (qs.map V.ref)) := oD _ _ nDW.symm (s_Hd _ _ q3)
          refine ⟨_, rfl, .inl ⟨rfl, _, SqL.of hWd⟩, _, rfl, W, _, .ref tn, rfl, rfl, hWd, ?_, ?_⟩
          · refine lt_line ?_
            have l4 := paired_len q4
            rw [List.length_append, List.length_drop, keyA_len, keyA_len] at l4
            rw [List.length_append] at lnv
            rw [List.length_map]
            omega
          have oW : Off W (upd Hd D ou) (upd (upd Hd D ou) W (.lst (qs.map V.ref ++ [V.ref tn]))) := Off.lock
          have r1' : Same H1 (upd (upd Hd D ou) W (.lst (qs.map V.ref ++ [V.ref tn]))) := Same.put (Same.put (q1.trans s_Hd) n1D) n1W
          have r2 := wput.off oW ⟨_, hWd⟩
          have ntD : tn ≠ D := fun z => by rw [z, eD] at etn; cases etn
          have ntW : tn ≠ W := fun z => by rw [z, q3] at etn; cases etn
          have nbD : b ≠ D := fun z => by rw [z, eD] at q5; cases q5
          have etn' : (upd (upd Hd D ou) W (.lst (qs.map V.ref ++ [V.ref tn]))) tn = some (.tup ((img n f e.1).map V.int)) := oW _ _ ntW (oD _ _ ntD (s_Hd _ _ etn))
          have r3 : (upd (upd Hd D ou) W (.lst (qs.map V.ref ++ [V.ref tn]))) W = some (.lst ((qs ++ [tn]).map V.ref)) := by rw [upd_same, List.map_append]; rfl
          have r5 : (upd (upd Hd D ou) W (.lst (qs.map V.ref ++ [V.ref tn]))) b = some (.tup (e.1.map V.int)) := oW _ _ nbW (oD _ _ nbD (s_Hd _ _ q5))
          have r4 : TpsAt (upd (upd Hd D ou) W (.lst (qs.map V.ref ++ [V.ref tn]))) (qs ++ [tn]) (((keyA (Wk k)).drop (k + 1) ++ keyA vw) ++ [img n f e.1]) :=
            paired_snoc (TpsAt.off (TpsAt.off (q4.same s_Hd) oD fun xs z => by rw [eDd] at z; cases z) oW fun xs z => by rw [hWd] at z; cases z) etn'
          generalize upd (upd Hd D ou) W (.lst (qs.map V.ref ++ [V.ref tn])) = Hf at r1' r2 r3 r4 r5 etn' ⊢
          have kev : keyA (visA (imgs n fs) (Wk k) e.1 e.2 (j + 1)) = keyA vw ++ [img n f e.1] := by rw [ev, keyA_app]; rfl
          have wev : Wk k ++ visA (imgs n fs) (Wk k) e.1 e.2 (j + 1) = (Wk k ++ vw) ++ [(img n f e.1, e.2 ++ [(j : Int)])] := by rw [ev, List.append_assoc]
          refine ⟨_, rfl, nil_le, ?_⟩
          refine fun t3 n_t3 => ?_
          generalize g_t3 : L2.upd _ t3 _ = Hg
          obtain ⟨s_Hg, e_t3⟩ := U.upd_facts g_t3 n_t3
          clear g_t3
          refine ⟨_, _, dpT9 (s_Hg _ _ etn'), .tup (SqT.of e_t3) .nil, shT _, by decide +kernel, ?_⟩
          rw [eqvT_nil]
          refine ⟨_, rfl, ?_⟩
          by_cases h0 : img n f e.1 = []
          · refine itT (decide_eq_true h0) ⟨_, rfl, ?_⟩
            refine q D _ Hg nD (r2.same s_Hg) ⟨?_, .inr ?_⟩ (s1.trans (r1'.trans s_Hg))
            · obtain ⟨r9, hr9⟩ : ∃ r, Wk B = Wk (k + 1) ++ r := by
                rw [eWk]
                exact WdA_mono (by omega)
              refine ⟨r1 ++ r9, ?_⟩
              rw [← eWk, hr9, hr1, wev, List.append_assoc]
            · rw [keyA_app]
              exact List.mem_append.mpr (.inr (by rw [← h0]; exact List.mem_singleton.mpr rfl))
          · refine itF (decide_eq_false h0) ⟨qs ++ [tn], _, _, _, rfl, r1'.trans s_Hg, by rw [wev]; exact r2.same s_Hg, s_Hg _ _ r3, by rw [kev, ← List.append_assoc]; exact r4.same s_Hg, s_Hg _ _ r5, ?_⟩
            rw [wev, keyA_app]
            intro z
            rcases List.mem_append.mp z with z | z
            · exact q6 z
            · exact h0 (List.mem_singleton.mp z).symm
      · rintro σ Ha ⟨qs, v6, v7, v8, rfl, q1, q2, q3, q4, q5, q6⟩
        have hfl' : ds.length = (imgs n fs).length := by unfold imgs; rw [List.length_map]; exact paired_len htb
        have eW1 : Wk (k + 1) = Wk k ++ visA (imgs n fs) (Wk k) e.1 e.2 ds.length := by
          rw [eWk] at he ⊢
          show nxA' _ k _ = _
          unfold nxA'
          rw [he, hfl']
        refine ⟨B - (k + 1), by omega, k + 1, qs, _, _, _, _, rfl, q1, by rw [eW1]; exact q2, q3, ?_, rfl, by rw [eW1, List.length_append]; omega, by rw [eW1]; exact q6⟩
        rw [eW1, keyA_app, List.drop_append_of_le_length (by rw [keyA_len]; omega)]
        exact q4
end
end My
namespace My
open PySem L2 U StX PM
theorem off_same {p : Addr} {H H' : Hp} (s : Same H H') : Off p H H' := fun _ _ _ h => s _ _ h
def rLstOf (K : PySem.W.Frag) : List V → Hp → VK → Prop := fun xs H Q => ∃ p ys, xs = [V.ref p] ∧ (SqL K H p ys ∨ SqT K H p ys) ∧ ∀ l : Addr, H l = none → Q (V.ref l) (upd H l (HO.lst ys))
theorem call_list_ofK {X : Cx} {K0 : PySem.W.Frag} (h : X.K = K0) : CallR X (.type "list") (rLstOf K0) := by subst h; exact call_list_of
/-- lists of ints -/
def LsAt (H : Hp) : List Addr → List (List Int) → Prop := Paired fun b l => H b = some (.lst (l.map V.int))
theorem LsAt.same {H H' : Hp} {bs : List Addr} {ls : List (List Int)} (h : LsAt H bs ls) (s : Same H H') : LsAt H' bs ls := PySem.Paired.map h fun _ _ _ e => s _ _ e
/-- [a new list of k's items for k in d if ..], the keys tuples of ints -/
theorem lc_keysTT {d : Addr} {kvs : List (List Key × V)} {xs : List (List Int)} {te : TE} {i : Nat} {tt : TT} {tv : TE} {vs : List Nat} {σ : L2.St} {H : Hp} {Q : VK} (c : List Int → Bool)
    (hd : H d = some (.dT kvs)) (hk : kvs.map (·.1) = xs.map ks) (hte : ∀ H' (R : VK), R (.ref d) H' → Off d H H' → te σ H' R)
    (hw : ∀ a, wipe ((wipe σ vs).set i a) vs = wipe σ vs)
    (hb : ∀ x ∈ xs, ∀ (q : Addr) (H1 : Hp), H1 q = some (.tup (x.map V.int)) → (∀ R : Bool → Hp → Prop, (∀ H2, Same H1 H2 → R (c x) H2) → tt ((wipe σ vs).set i (some (.ref q))) H1 R) ∧ (∀ R : VK, (∀ b H2, H1 b = none → H2 b = some (.lst (x.map V.int)) → Same H1 H2 → R (.ref b) H2) → tv ((wipe σ vs).set i (some (.ref q))) H1 R))
    (hz : xs.length < sizeLine)
    (hq : ∀ (D : Addr) (bs : List Addr) (H' : Hp), H D = none → H' D = some (.lst (bs.map V.ref)) → LsAt H' bs (xs.filter c) → (∀ b ∈ bs, H b = none) → Same H H' → Q (.ref D) H') :
    tLockE (tLc (iKeys te) (gName i) tt tv vs) σ H Q := by
  have hlen : kvs.length = xs.length := by
    have := congrArg List.length hk
    rwa [List.length_map, List.length_map] at this
  refine ⟨d, _, hd, trivial, fun od => ?_⟩
  refine hte _ _ ⟨d, od, rfl, .inr ⟨kvs, upd_same, fun D hD => ?_⟩⟩ Off.lock
  have hDd : D ≠ d := fun e => by rw [e, upd_same] at hD; cases hD
  have hD0 : H D = none := by rw [upd_ne hDd] at hD; exact hD
  refine lc_it walk_keysT (fun k H' => H' d = some (.frz od (.dT kvs)) ∧ Off d H H' ∧ ∃ bs : List Addr, H' D = some (.lst (bs.map V.ref)) ∧ bs.length ≤ k ∧ (∀ b ∈ bs, b ≠ D ∧ b ≠ d ∧ H b = none) ∧ LsAt H' bs ((xs.take k).filter c)) ⟨?_, Off.lock.mut hD0, [], upd_same, Nat.le_refl _, (fun b h => absurd h List.not_mem_nil), .nil⟩ (fun k H' _ p => p.1) ?_ ?_
  · rw [upd_ne hDd.symm]; exact upd_same
  · rintro k v H' H'' hki ⟨p1, p2, bs, p3, p4, p5, p6⟩ ⟨rfl, kk, vv, q, ekv, rfl, eq⟩
    rw [hlen] at hki
    obtain ⟨x, ex⟩ : ∃ x, xs[k]? = some x := ⟨_, List.getElem?_eq_getElem hki⟩
    have ekx : kk = ks x := by
      have h1 : (kvs.map (·.1))[k]? = some kk := by rw [List.getElem?_map, ekv]; rfl
      rw [hk, List.getElem?_map, ex] at h1
      exact (Option.some.inj h1).symm
    rw [ekx, ks_kV] at eq
    obtain ⟨b1, b2⟩ := hb x (List.mem_of_getElem? ex) q _ eq
    refine ⟨hw _, b1 _ fun H2 s2 => ?_⟩
    have st : (xs.take (k + 1)).filter c = (xs.take k).filter c ++ (if c x = true then [x] else []) := by
      rw [take_more ex, List.filter_append]
      by_cases h : c x = true
      · rw [List.filter_cons_of_pos h, if_pos h]; rfl
      · rw [List.filter_cons_of_neg h, if_neg h]; rfl
    by_cases hc : c x = true
    · rw [if_pos hc]
      rw [if_pos hc] at st
      refine (hb x (List.mem_of_getElem? ex) q H2 (s2 _ _ eq)).2 _ fun b H3 nb eb s3 => ?_
      have e3 := s3 _ _ (s2 _ _ p3)
      have nbD : b ≠ D := fun z => by rw [z, s2 _ _ p3] at nb; cases nb
      have nbd : b ≠ d := fun z => by rw [z, s2 _ _ p1] at nb; cases nb
      have nb0 : H b = none := by
        cases hx : H b with
        | none => rfl
        | some o =>
          rw [s2 _ _ (p2 _ _ nbd hx)] at nb
          cases nb
      refine ⟨_, e3, by rw [List.length_map]; omega, ?_, ((p2.tr (off_same s2)).tr (off_same s3)).mut hD0, bs ++ [b], by rw [upd_same, List.map_append]; rfl, by rw [List.length_append, List.length_singleton]; omega, fun b' hb' => ?_, ?_⟩
      · rw [upd_ne hDd.symm]; exact s3 _ _ (s2 _ _ p1)
      · rcases List.mem_append.mp hb' with h | h
        · exact p5 b' h
        · rw [List.mem_singleton.mp h]; exact ⟨nbD, nbd, nb0⟩
      · rw [st]
        refine paired_snoc (PySem.Paired.map p6 fun b' hb' l e => ?_) ?_
        · rw [upd_ne (p5 b' hb').1]; exact s3 _ _ (s2 _ _ e)
        · rw [upd_ne nbD]; exact eb
    · rw [if_neg hc]
      rw [if_neg hc, List.append_nil] at st
      refine ⟨s2 _ _ p1, p2.tr (off_same s2), bs, s2 _ _ p3, by omega, p5, ?_⟩
      rw [st]
      exact LsAt.same p6 s2
  · rintro H' ⟨p1, p2, bs, p3, p4, p5, p6⟩
    rw [hlen, List.take_length] at p6
    refine ⟨p1, hq D bs _ hD0 ?_ ?_ (fun b hb => (p5 b hb).2.2) (p2.back hd)⟩
    · rw [upd_ne hDd]; exact p3
    · refine PySem.Paired.map p6 fun b hb l e => ?_
      rw [upd_ne (p5 b hb).2.1]; exact e
theorem WdT.keys {H : Hp} {D : Addr} {ws : WsT} (h : WdT H D ws) : ∃ kvs, H D = some (.dT kvs) ∧ kvs.map (·.1) = (keyA ws).map ks := by
  obtain ⟨kvs, h1, h2⟩ := h
  refine ⟨kvs, h1, ?_⟩
  clear h1
  induction h2 with
  | nil => rfl
  | cons a _ ih =>
    rw [List.map_cons, ih, a.1]
    rfl
/-- the word for the empty set -/
def LwOf (W : WsT) : Option (List Int) → Prop
  | none => [] ∉ keyA W
  | some w => ([], w) ∈ W
def WV (H : Hp) : Option (List Int) → V → Prop
  | none, v => v = .non
  | some w, v => ∃ p, v = .ref p ∧ H p = some (.tup (w.map V.int))
def spLW (CM CF : Addr) : Sp := fun vs H Q _ => ∃ (a t : Addr) (xs : List V) (n B : Nat) (fs : List PF), vs = [.ref a] ∧ FamAt CM CF H a t xs n fs ∧ n ≤ 300 ∧ B ≤ 1000 ∧ (∀ k, (WdA (imgs n fs) (rgI n) k).length ≤ B) ∧ ∀ o v H', LwOf (WdA (imgs n fs) (rgI n) B) o → WV H' o v → Same H H' → Q v H'
def HsV (H0 H : Hp) (W : WsT) (v : V) : Prop := ([] ∈ keyA W ∧ v = .non) ∨ ([] ∉ keyA W ∧ ∃ (D : Addr) (bs : List Addr), v = .ref D ∧ H0 D = none ∧ (∀ b ∈ bs, H0 b = none) ∧ H D = some (.lst (bs.map V.ref)) ∧ LsAt H bs (keyA W))
def spHS (CM CF : Addr) : Sp := fun vs H Q _ => ∃ (a t : Addr) (xs : List V) (n B : Nat) (fs : List PF), vs = [.ref a] ∧ FamAt CM CF H a t xs n fs ∧ n ≤ 300 ∧ B ≤ 1000 ∧ (∀ k, (WdA (imgs n fs) (rgI n) k).length ≤ B) ∧ ∀ v H', HsV H H' (WdA (imgs n fs) (rgI n) B) v → Same H H' → Q v H'
section
variable {P : Program} {w : World} {K : PySem.W.Frag} {mg : Str → Option Value} {base : Heap}
theorem ok_losing_word (T : Txt K mg) : FnR P w K mg base CX0 8 T.f_losing_word (spLW T.C_Map T.C_Family) := by
  refine T.A_losing_word.ok sc_losing_word (fun vs H Q E h => ?_) (fun cdv A outer s H vs Q E hr h => ?_)
  · obtain ⟨a, t, xs, n, B, fs, rfl, _⟩ := h
    rfl
  · obtain ⟨a, t, xs, n, B, fs, rfl, fam, n3, hB, hW, q⟩ := h
    have hu := hu_of hr
    refine ⟨_, (pss_cons (ps_expr (pe_callR (ok_check_family T) (hr.mono (by decide)) T.A_check_family.kp rfl T.g_check_family pass0 (pa_cons (pv 0) pa_nil)))
      (pss_one (ps_ret (pe_dget1 hu (pe_callR (ok_searched T) (hr.mono (by decide)) T.A_searched.kp rfl T.g_searched pass0 (pa_cons (pv 0) pa_nil)) (pe_tup pa_nil) ⟨rfl, rfl, rfl, rfl⟩)))), ?_⟩
    refine ⟨_, rfl, a, t, xs, n, fs, rfl, fam, ?_⟩
    refine ⟨_, rfl, a, t, xs, n, B, fs, rfl, fam, n3, hB, hW, fun D ws H1 nD hw ⟨⟨r, hr⟩, h2⟩ s1 => ?_⟩
    obtain ⟨kvs, eD, _⟩ := hw.len
    refine ⟨D, rfl, .inr ⟨kvs, .inl eD⟩, nil_le, ?_⟩
    refine fun e0 n_e0 => ?_
    generalize g_e0 : L2.upd _ e0 _ = H2
    obtain ⟨s_H2, e_e0⟩ := U.upd_facts g_e0 n_e0
    clear g_e0
    obtain ⟨o, ho, _, o1, o2⟩ := (hw.same s_H2).has (x := []) e_e0
    refine ⟨o, ho, ?_⟩
    have hs := s1.trans s_H2
    by_cases hm : [] ∈ keyA ws
    · obtain ⟨e, p, he, e1, rfl, ep⟩ := o2 hm
      refine q (some e.2) _ H2 ?_ ⟨p, rfl, ep⟩ hs
      show ([], e.2) ∈ WdA (imgs n fs) (rgI n) B
      rw [hr, ← e1]
      exact List.mem_append.mpr (.inl he)
    · rw [o1 hm]
      rcases h2 with h2 | h2
      · exact q none _ H2 (by rw [← h2]; exact hm) rfl hs
      · exact absurd h2 hm
theorem ok_holding_sets (T : Txt K mg) : FnR P w K mg base CX0 8 T.f_holding_sets (spHS T.C_Map T.C_Family) := by
  refine T.A_holding_sets.ok sc_holding_sets (fun vs H Q E h => ?_) (fun cdv A outer s H vs Q E hr h => ?_)
  · obtain ⟨a, t, xs, n, B, fs, rfl, _⟩ := h
    rfl
  · obtain ⟨a, t, xs, n, B, fs, rfl, fam, n3, hB, hW, q⟩ := h
    have hu := hu_of hr
    refine ⟨_, (pss_cons (ps_expr (pe_callR (ok_check_family T) (hr.mono (by decide)) T.A_check_family.kp rfl T.g_check_family pass0 (pa_cons (pv 0) pa_nil)))
      (pss_cons (ps_set (i := 1) sc_holding_sets.nd rfl (Or.inl rfl) (pe_callR (ok_searched T) (hr.mono (by decide)) T.A_searched.kp rfl T.g_searched pass0 (pa_cons (pv 0) pa_nil)))
      (pss_one (ps_ret (pe_ifExp (pt_cmp (pc_din hu (pe_tup pa_nil) (pv 1))) pe_non (pe_lock (pe_lc (own := [("places", 2)]) (g := (gName 2)) (tt := tYes) rfl sc_holding_sets.nd (pi_keys (pv 1)) (blkOk_by (own := [("places", 2)]) (N := n_holding_sets) (sc := defScope s_holding_sets) (by decide +kernel)) (fun _ _ _ _ _ => (pg_name (i := 2) sc_holding_sets.nd rfl (Or.inl rfl))) (fun _ _ _ _ _ => pts_nil) (fun _ _ _ _ _ => (pe_callTy (call_list_ofK (K0 := K) rfl) (by rfl) T.n_list (by decide +kernel) (pa_cons (pv 2) pa_nil)))))))))), ?_⟩
    refine ⟨_, rfl, a, t, xs, n, fs, rfl, fam, ?_⟩
    refine ⟨_, rfl, a, t, xs, n, B, fs, rfl, fam, n3, hB, hW, fun D ws H1 nD hw ⟨⟨r, hr⟩, h2⟩ s1 => ?_⟩
    refine ⟨nil_le, ?_⟩
    refine fun e0 n_e0 => ?_
    generalize g_e0 : L2.upd _ e0 _ = H2
    obtain ⟨s_H2, e_e0⟩ := U.upd_facts g_e0 n_e0
    clear g_e0
    obtain ⟨o, ho, hs, _, _⟩ := (hw.same s_H2).has (x := []) e_e0
    refine ⟨_, rfl, D, o, rfl, ho, _, rfl, ?_⟩
    rw [hs]
    have s02 := s1.trans s_H2
    by_cases hm : [] ∈ keyA ws
    · refine itT (decide_eq_true hm) (q _ H2 (.inl ⟨?_, rfl⟩) s02)
      rw [hr, keyA_app]
      exact List.mem_append.mpr (.inl hm)
    · have ew : ws = WdA (imgs n fs) (rgI n) B := h2.resolve_right hm
      have hl : (keyA ws).length ≤ B := by rw [keyA_len, ew]; exact hW B
      obtain ⟨kvs, eD, ek⟩ := (hw.same s_H2).keys
      refine itF (decide_eq_false hm) (lc_keysTT (fun _ => true) eD ek (fun H' R r o => ⟨_, rfl, r⟩) (fun _ => rfl) (fun x hx p Hx ep => ⟨fun R r => r Hx (Same.refl _), fun R r => ⟨_, rfl, p, _, rfl, .inr (SqT.of ep), fun l nl => r l _ nl upd_same (Same.new nl)⟩⟩) (lt_line (by omega)) (fun D2 bs H3 nD2 eD2 hb nb s3 => ?_))
      rw [List.filter_eq_self.mpr fun _ _ => rfl] at hb
      refine q _ H3 (.inr ⟨by rw [← ew]; exact hm, D2, bs, rfl, s02.free nD2, fun b hb => s02.free (nb b hb), eD2, ?_⟩) (s02.trans s3)
      rw [← ew]
      exact hb
end
end My
namespace My
open PySem L2 U StX PM
theorem cut_19 (xs : List V) : cutV xs (some 1) none = xs.drop 1 := by
  unfold cutV
  rw [HT.sIx_none, show (some (1 : Int)) = some ((1 : Nat) : Int) from rfl, HT.sIx_nat]
  cases xs with
  | nil => rfl
  | cons x r =>
    rw [List.length_cons, Nat.min_eq_left (by omega), List.drop_succ_cons, List.drop_zero]
    exact List.take_of_length_le (by omega)
def rTupOf9 (K : PySem.W.Frag) : List V → Hp → VK → Prop := fun xs H Q => ∃ p ys, xs = [V.ref p] ∧ ((SqL K H p ys ∧ ∀ l : Addr, H l = none → Q (V.ref l) (upd H l (HO.tup ys))) ∨ (SqT K H p ys ∧ Q (V.ref p) H))
theorem call_tuple_ofK9 {X : Cx} {K0 : PySem.W.Frag} (h : X.K = K0) : CallR X (.type "tuple") (rTupOf9 K0) := by subst h; exact call_tuple_of
/-! ### values that may be evidence -/
def nonLst (H : Hp) : V → Prop
  | .non => True | .int _ => True | .bl _ => True | .str _ => True
  | .ref a => (∃ xs, H a = some (.tup xs)) ∨ ∃ kvs, H a = some (.dK kvs)
  | _ => False
def iV9 : V → Int
  | .int i => i
  | _ => 0
def ascB (ns : List Int) : Bool := (List.range (ns.length - 1)).all fun i => decide (ns.getD i 0 < ns.getD (i + 1) 0)
def setB (n : Nat) (xs : List V) : Bool := !xs.isEmpty && (xs.all (fun x => inR x 0 ((n : Int) - 1)) && ascB (xs.map iV9))
theorem all_int {n : Int} {xs : List V} (h : xs.all (fun x => inR x 0 n) = true) : xs = (xs.map iV9).map V.int := by
  rw [List.map_map]
  conv => lhs; rw [← List.map_id xs]
  refine List.map_congr_left fun x hx => ?_
  have := List.all_eq_true.mp h x hx
  cases x <;> first | rfl | cases this
theorem asc_pw : ∀ ns : List Int, ascB ns = true → ns.Pairwise (· < ·)
  | [], _ => List.Pairwise.nil
  | [x], _ => List.pairwise_singleton _ _
  | x :: y :: r, h => by
    have h' : ascB (y :: r) = true := by
      refine List.all_eq_true.mpr fun i hi => ?_
      have := List.all_eq_true.mp h (i + 1) (by
        rw [List.mem_range] at hi ⊢
        simp only [List.length_cons] at hi ⊢
        omega)
      simpa using this
    have hxy : x < y := by
      have := List.all_eq_true.mp h 0 (by rw [List.mem_range]; simp)
      simpa using this
    have ih := asc_pw (y :: r) h'
    refine List.pairwise_cons.mpr ⟨fun z hz => ?_, ih⟩
    rcases List.mem_cons.mp hz with rfl | hz
    · exact hxy
    · exact Int.lt_trans hxy ((List.pairwise_cons.mp ih).1 z hz)
theorem pw_asc : ∀ ns : List Int, ns.Pairwise (· < ·) → ascB ns = true
  | ns, h => by
    refine List.all_eq_true.mpr fun i hi => decide_eq_true ?_
    rw [List.mem_range] at hi
    rw [List.getD_eq_getElem?_getD, List.getD_eq_getElem?_getD, List.getElem?_eq_getElem (by omega), List.getElem?_eq_getElem (by omega)]
    exact List.pairwise_iff_getElem.mp h i (i + 1) (by omega) (by omega) (by omega)
theorem ne_emp {ns : List Int} (h : ns ≠ []) : (!(ns.map V.int).isEmpty) = true := by
  cases ns with
  | nil => exact absurd rfl h
  | cons x r => rfl
/-- a set of places by its items -/
theorem setB_iff {n : Nat} {ns : List Int} : setB n (ns.map V.int) = true ↔ ns ≠ [] ∧ Plc n ns := by
  have e : (ns.map V.int).map iV9 = ns := by rw [List.map_map]; exact List.map_id ns
  unfold setB
  rw [e, Bool.and_eq_true, Bool.and_eq_true]
  constructor
  · rintro ⟨h1, h2, h3⟩
    refine ⟨fun z => (by rw [z] at h1; cases h1), asc_pw ns h3, fun x hx => ?_⟩
    have := List.all_eq_true.mp h2 (V.int x) (List.mem_map.mpr ⟨x, hx, rfl⟩)
    simp only [inR, Bool.and_eq_true, decide_eq_true_eq] at this
    omega
  · rintro ⟨h1, h2⟩
    refine ⟨ne_emp h1, List.all_eq_true.mpr fun x hx => ?_, pw_asc ns h2.asc⟩
    obtain ⟨y, hy, rfl⟩ := List.mem_map.mp hx
    have := h2.rng y hy
    simp only [inR, Bool.and_eq_true, decide_eq_true_eq]
    omega
theorem ty_nonLst {K : PySem.W.Frag} {H : Hp} {x : V} (h : nonLst H x) : ∃ t, TyX K H x t ∧ PySem.W.kitOne K t (.type "list") = some false := by
  have go : ∀ {a : String}, kitB a "list" = some false → PySem.W.kitOne K (.type a) (.type "list") = some false := fun h1 => kit_ty h1
  cases x with
  | non => exact ⟨_, .base .non, go rfl⟩
  | int i => exact ⟨_, .base (.int i), go rfl⟩
  | bl b => exact ⟨_, .base (.bl b), go rfl⟩
  | str z => exact ⟨_, .base (.str z), go rfl⟩
  | ref a =>
    rcases h with ⟨xs, e⟩ | ⟨xs, e⟩
    · exact ⟨_, .base (.tup e), go rfl⟩
    · exact ⟨_, .base (.dK e), go rfl⟩
  | byt b => exact h.elim
  | flt b => exact h.elim
  | ty b => exact h.elim
theorem ty_lst {K : PySem.W.Frag} {H : Hp} {a : Addr} {xs : List V} (h : H a = some (.lst xs)) : ∃ t, TyX K H (.ref a) t ∧ PySem.W.kitOne K t (.type "list") = some true := ⟨_, .base (.lst h), kit_ty (show kitB "list" "list" = some true from rfl)⟩
theorem nonLst.same {H H' : Hp} {x : V} (h : nonLst H x) (s : Same H H') : nonLst H' x := by
  cases x <;> first | exact h | exact h.elim | skip
  rcases h with ⟨xs, e⟩ | ⟨xs, e⟩
  · exact .inl ⟨_, s _ _ e⟩
  · exact .inr ⟨_, s _ _ e⟩
/-- [e for x, y in zip(xs, ys)], the loop behind the arguments -/
theorem lc_zipB {K Kc : PySem.W.Frag} {te : TA} {i j : Nat} {tv : TE} {vs : List Nat} {σ : L2.St} {H : Hp} {Q : VK} {xs ys : List V} {N : Nat} (g : Nat → Bool) (hN : N = min xs.length ys.length)
    (hte : ∀ R : List V → Hp → Prop, (∀ a b H', Same H H' → H' a = some (.lst xs) → H' b = some (.lst ys) → R [.ref a, .ref b] H') → te σ H R)
    (hw : ∀ u v, wipe (((wipe σ vs).set i u).set j v) vs = wipe σ vs)
    (hb : ∀ (k : Nat) (x y : V), k < N → xs[k]? = some x → ys[k]? = some y → ∀ H1, ∀ R : VK, R (.bl (g k)) H1 → tv (((wipe σ vs).set i (some x)).set j (some y)) H1 R) (hz : xs.length < sizeLine)
    (hq : ∀ D H', H' D = some (.lst (((List.range N).map g).map V.bl)) → Same H H' → Q (.ref D) H') : tLc (iZip K te) (gTup Kc 2 (gCons (gName i) (gCons (gName j) gNil))) tYes tv vs σ H Q := by
  refine hte _ fun a b H0 s0 ea eb => ⟨a, b, xs, ys, rfl, SqL.of ea, SqL.of eb, fun D hD => ?_⟩
  refine lc_it (walk_zip hN) (fun k H' => Same H0 H' ∧ H' D = some (.lst (((List.range k).map g).map V.bl))) ⟨Same.new hD, upd_same⟩ (fun k H' _ p => ⟨SqL.of (p.1 _ _ ea), SqL.of (p.1 _ _ eb)⟩) ?_ ?_
  · rintro k v H' H'' hk ⟨s1, e1⟩ ⟨U, x, y, rfl, nU, rfl, ex, ey⟩
    have sU : Same H' (upd H' U (.tup [x, y])) := Same.new nU
    refine ⟨U, [x, y], rfl, SqT.of upd_same, rfl, x, [y], rfl, y, [], rfl, rfl, hw _ _, ?_⟩
    refine yes_ (hb k x y hk ex ey _ _ ⟨_, sU _ _ e1, ?_, Same.put (s1.trans sU) hD, ?_⟩)
    · rw [List.length_map, List.length_map, List.length_range]
      omega
    · rw [upd_same, List.range_succ, List.map_append, List.map_append]
      rfl
  · rintro H' ⟨s1, e1⟩
    exact hq D H' e1 (s0.trans s1)
def EntB (C : Addr) (n : Nat) (H : Hp) (y : V) (c : Bool) : Prop := (nonLst H y ∧ c = false) ∨ ∃ a xs, y = .ref a ∧ H a = some (.lst xs) ∧ xs.length ≤ 1000 ∧ (∀ x ∈ xs, knownV C H x) ∧ c = setB n xs
def spIsSet (C : Addr) : Sp := fun vs H Q _ => ∃ (y : V) (n : Nat) (c : Bool), vs = [y, .int (n : Int)] ∧ n ≤ 300 ∧ EntB C n H y c ∧ ∀ H', Same H H' → Q (.bl c) H'
section
variable {P : Program} {w : World} {K : PySem.W.Frag} {mg : Str → Option Value} {base : Heap}
theorem ok_is_set (T : Txt K mg) : FnR P w K mg base CX0 4 T.f_is_set (spIsSet T.C_Map) := by
  refine T.A_is_set.ok sc_is_set (fun vs H Q E h => ?_) (fun cdv A outer s H vs Q E hr h => ?_)
  · obtain ⟨y, n, c, rfl, _⟩ := h
    rfl
  · obtain ⟨y, n, c, rfl, n3, hy, q⟩ := h
    have hu := hu_of hr
    refine ⟨_, (pss_cons (ps_if (PW.pt (pw_or (pt_not (pt_val (pe_callB call_isi (by rfl) T.n_isinstance (by decide +kernel) (pa_cons (pv 0) (pa_cons (pe_bltn (v := .ty "list") (u := .type "list") (by rfl) T.n_list (by decide +kernel) rfl) pa_nil))))) (pw_or1 (pt_cmpR (op_eqNil hr.units0) (pv 0) (pe_lst pa_nil) (nomark _)))))
        (pss_one (ps_ret pe_bl)) pss_nil)
      (pss_cons (ps_if (pt_not (pt_val (pe_callB (cr_all rfl) (by rfl) T.n_all (by decide +kernel) (pa_cons (pe_lc (own := [("place", 2)]) (g := (gName 2)) (tt := tYes) rfl sc_is_set.nd (pi_list (pv 0)) (blkOk_by (own := [("place", 2)]) (N := n_is_set) (sc := defScope s_is_set) (by decide +kernel)) (fun _ _ _ _ _ => (pg_name (i := 2) sc_is_set.nd rfl (Or.inl rfl))) (fun _ _ _ _ _ => pts_nil) (fun _ _ _ _ _ => (pe_callR (ok_in_range T) (hr.mono (by decide)) T.A_in_range.kp rfl T.g_in_range pass0 (pa_cons (pv 2) (pa_cons pe_int (pa_cons (pe_op op_sub (pv 1) pe_int) pa_nil)))))) pa_nil))))
        (pss_one (ps_ret pe_bl)) pss_nil)
      (pss_one (ps_ret (pe_callB (cr_all rfl) (by rfl) T.n_all (by decide +kernel) (pa_cons (pe_lc (own := [("one", 3), ("other", 4)]) (g := (gTup K 2 (gCons (gName 3) (gCons (gName 4) gNil)))) (tt := tYes) rfl sc_is_set.nd (pi_zip (by rfl) T.n_zip (pa_cons (pv 0) (pa_cons (pe_slice sl_list (pv 0) (po_some pe_int) po_none) pa_nil))) (blkOk_by (own := [("one", 3), ("other", 4)]) (N := n_is_set) (sc := defScope s_is_set) (by decide +kernel)) (fun _ _ _ _ _ => (pg_tup rfl (pgs_cons (pg_name (i := 3) sc_is_set.nd rfl (Or.inl rfl)) (pgs_cons (pg_name (i := 4) sc_is_set.nd rfl (Or.inl rfl)) pgs_nil)))) (fun _ _ _ _ _ => pts_nil) (fun _ _ _ _ _ => (pe_cmpR op_lt (pv 3) (pv 4) (nomark _)))) pa_nil)))))), ?_⟩
    rcases hy with ⟨hy, rfl⟩ | ⟨b, xs, rfl, eb, hl, hk, rfl⟩
    · obtain ⟨ty, hty, hk⟩ := ty_nonLst (K := K) hy
      exact ⟨_, rfl, _, _, _, _, false, rfl, .ty _, hty, hk, _, rfl, itT rfl (q H (Same.refl _))⟩
    obtain ⟨ty, hty, hk2⟩ := ty_lst (K := K) eb
    refine ⟨_, rfl, _, _, _, _, true, rfl, .ty _, hty, hk2, _, rfl, itF rfl ?_⟩
    refine ⟨_, rfl, nil_le, ?_⟩
    refine fun e0 n_e0 => ?_
    generalize g_e0 : L2.upd _ e0 _ = H1
    obtain ⟨s_H1, e_e0⟩ := U.upd_facts g_e0 n_e0
    clear g_e0
    refine ⟨b, e0, xs, rfl, rfl, SqL.of (s_H1 _ _ eb), SqL.of e_e0, _, rfl, ?_⟩
    by_cases he : xs.isEmpty = true
    · refine itT he ?_
      have : setB n xs = false := by unfold setB; rw [he]; rfl
      rw [this] at q
      exact q H1 s_H1
    have he : xs.isEmpty = false := by simpa using he
    refine itF he ?_
    dsimp only [tNext, tSeq, tIfS, tNot, tB, tCB, tCons, tNil]
    have eb1 := s_H1 _ _ eb
    refine lc_lst (α := V) (xs := xs) (H := H1) id (fun x => [some (.ref b), some (.int n), some x, none, none]) (fun _ => true) (fun x => .bl (inR x 0 ((n : Int) - 1))) (fun R r => ⟨_, rfl, r⟩) (by rw [List.map_id]; exact eb1) (fun x hx H2 s2 R r => r) (fun x hx => rfl) (fun x hx H2 s2 => ⟨fun R r => r, fun _ R r => ⟨_, rfl, _, rfl, _, _, rfl, rfl, x, 0, _, rfl, known_mv (hk x hx) (s_H1.trans s2), r⟩⟩) (lt_line (by omega)) (fun D H2 nD eD s2 => ?_)
    rw [List.filter_eq_self.mpr fun _ _ => rfl] at eD
    refine ⟨D, xs.map fun x => inR x 0 ((n : Int) - 1), rfl, SqL.of (by rw [eD, List.map_map]; rfl), _, rfl, ?_⟩
    have ea : (xs.map fun x => inR x 0 ((n : Int) - 1)).all id = xs.all fun x => inR x 0 ((n : Int) - 1) := by rw [List.all_map]; rfl
    rw [ea]
    have s02 := s_H1.trans s2
    cases hal : xs.all fun x => inR x 0 ((n : Int) - 1) with
    | false =>
      refine itT rfl ?_
      have : setB n xs = false := by unfold setB; rw [hal, he]; rfl
      rw [this] at q
      exact q H2 s02
    | true =>
      refine itF rfl ?_
      have hq : setB n xs = ascB (xs.map iV9) := by unfold setB; rw [hal, he]; rfl
      rw [hq] at q
      have ex := all_int hal
      obtain ⟨ns, ens⟩ : ∃ ns, ns = xs.map iV9 := ⟨_, rfl⟩
      rw [← ens] at ex q
      subst ex
      rw [List.length_map] at hl
      have eb2 := s2 _ _ eb1
      dsimp only [tRet, tCB, tCons, tNil]
      refine lc_zipB (xs := ns.map V.int) (ys := (ns.map V.int).drop 1) (N := ns.length - 1) (fun i => decide (ns.getD i 0 < ns.getD (i + 1) 0)) (by rw [List.length_drop, List.length_map]; omega) (fun R r => ⟨_, rfl, _, rfl, _, rfl, b, _, rfl, SqL.of eb2, fun p np => r b p _ (Same.new np) (Same.new np _ _ eb2) (by rw [upd_same, cut_19])⟩) (fun u v => rfl) (fun k x y hk ek ey H3 R r => ?_) (by rw [List.length_map]; exact lt_line (by omega)) (fun D3 H3 eD3 s3 => ?_)
      · rw [List.getElem?_drop, List.getElem?_map, Nat.add_comm, List.getElem?_eq_getElem (by omega)] at ey
        rw [List.getElem?_map, List.getElem?_eq_getElem (by omega)] at ek
        cases ey
        cases ek
        rw [List.getD_eq_getElem?_getD, List.getD_eq_getElem?_getD, List.getElem?_eq_getElem (by omega), List.getElem?_eq_getElem (by omega)] at r
        exact ⟨_, rfl, _, rfl, _, _, rfl, rfl, r⟩
      · refine ⟨D3, _, rfl, SqL.of eD3, ?_⟩
        rw [List.all_map]
        exact q H3 (s02.trans s3)
end
end My
namespace My
open PySem L2 U StX PM
theorem lt_line' {n : Nat} (h : n ≤ 10000) : n < sizeLine := by
  have e : sizeLine = 16777216 := rfl
  omega
def holdB (n : Nat) (fs : List PF) (rows : List (List Int)) : Bool := decide (rgI n ∈ rows) && rows.all fun r => fs.all fun f => decide (img n f r ∈ rows)
def ValB (C : Addr) (n : Nat) (fs : List PF) (H : Hp) (v : V) (c : Bool) : Prop :=
  (nonLst H v ∧ c = false) ∨ (∃ a es cs, v = .ref a ∧ H a = some (.lst es) ∧ es.length ≤ 1000 ∧ Paired (EntB C n H) es cs ∧ cs.all id = false ∧ c = false) ∨
  ∃ a bs rows, v = .ref a ∧ H a = some (.lst (bs.map V.ref)) ∧ bs.length ≤ 1000 ∧ LsAt H bs rows ∧ (∀ r ∈ rows, r ≠ [] ∧ Plc n r) ∧ c = holdB n fs rows
theorem EntB.same {C : Addr} {n : Nat} {H H' : Hp} {y : V} {c : Bool} (h : EntB C n H y c) (s : Same H H') : EntB C n H' y c := by
  rcases h with ⟨h, e⟩ | ⟨a, xs, e, h1, h2, h3, h4⟩
  · exact .inl ⟨h.same s, e⟩
  · exact .inr ⟨a, xs, e, s _ _ h1, h2, fun x hx => known_mv (h3 x hx) s, h4⟩
/-- [b(x) for x in xs], the answers known by their places -/
theorem lc_listB {K : PySem.W.Frag} {te : TE} {i : Nat} {tv : TE} {vs : List Nat} {σ : L2.St} {H : Hp} {Q : VK} {es : List V} {a : Addr} (cs : List Bool) (hl : es.length = cs.length) (hte : ∀ R : VK, R (.ref a) H → te σ H R) (ha : H a = some (.lst es)) (hw : ∀ a, wipe ((wipe σ vs).set i a) vs = wipe σ vs)
    (hb : ∀ (k : Nat) (x : V) (c : Bool), es[k]? = some x → cs[k]? = some c → ∀ H1, Same H H1 → ∀ R : VK, (∀ H2, Same H1 H2 → R (.bl c) H2) → tv ((wipe σ vs).set i (some x)) H1 R) (hz : es.length < sizeLine)
    (hq : ∀ D H', H' D = some (.lst (cs.map V.bl)) → Same H H' → Q (.ref D) H') : tLc (iList K te) (gName i) tYes tv vs σ H Q := by
  refine hte _ ⟨a, rfl, ⟨_, SqL.of ha⟩, fun D hD => ?_⟩
  refine lc_it (walk_list (xs := es)) (fun k H' => Same H H' ∧ H' D = some (.lst ((cs.take k).map V.bl))) ⟨Same.new hD, upd_same⟩ (fun k H' _ p => SqL.of (p.1 _ _ ha)) ?_ ?_
  · rintro k v H' H'' hk ⟨s1, e1⟩ ⟨rfl, ev⟩
    obtain ⟨c, ec⟩ : ∃ c, cs[k]? = some c := ⟨_, List.getElem?_eq_getElem (by omega)⟩
    refine ⟨hw _, yes_ (hb k v c ev ec _ s1 _ fun H2 s2 => ⟨_, s2 _ _ e1, ?_, Same.put (s1.trans s2) hD, ?_⟩)⟩
    · rw [List.length_map, List.length_take]
      omega
    · rw [upd_same, take_more ec, List.map_append]
      rfl
  · rintro H' ⟨s1, e1⟩
    rw [hl, List.take_length] at e1
    exact hq D H' e1 s1
/-- dicts of known rows -/
def kvT (l : List (List Int)) : List (List Key × V) := l.map fun r => (ks r, V.bl true)
theorem valT_kvT (x : List Int) : ∀ l : List (List Int), (valV (kvT l) (ks x)).isSome = decide (x ∈ l)
  | [] => rfl
  | r :: l => by
    by_cases h : r = x
    · rw [show valV (kvT (r :: l)) (ks x) = some (V.bl true) from valT_pos (kv := (ks r, V.bl true)) (by rw [h]), decide_eq_true (by rw [h]; exact List.mem_cons_self)]
      rfl
    · rw [show valV (kvT (r :: l)) (ks x) = valV (kvT l) (ks x) from valT_neg (kv := (ks r, V.bl true)) fun z => h (ks_inj z), valT_kvT x l]
      rw [decide_eq_decide, List.mem_cons]
      exact ⟨.inr, fun z => z.resolve_left fun e => h e.symm⟩
def addR (l : List (List Int)) (r : List Int) : List (List Int) := if r ∈ l then l else l ++ [r]
theorem putK_kvT (l : List (List Int)) (r : List Int) : putK (kvT l) (ks r) (V.bl true) = kvT (addR l r) := by
  unfold putK addR
  rw [valV_any, valT_kvT]
  by_cases h : r ∈ l
  · rw [if_pos (decide_eq_true h), if_pos h]
    unfold kvT
    rw [List.map_map]
    refine List.map_congr_left fun q _ => ?_
    show (if ks q = ks r then (ks q, V.bl true) else (ks q, V.bl true)) = _
    split <;> rfl
  · rw [if_neg (by rw [decide_eq_true_eq]; exact h), if_neg h]
    unfold kvT
    rw [List.map_append]
    rfl
def ddR (rows : List (List Int)) : List (List Int) := rows.foldl addR []
theorem mem_addR {l : List (List Int)} {r x : List Int} : x ∈ addR l r ↔ x ∈ l ∨ x = r := by
  unfold addR
  split
  · rename_i h
    exact ⟨.inl, fun z => z.elim id fun e => e ▸ h⟩
  · rw [List.mem_append, List.mem_singleton]
theorem mem_ddR {rows : List (List Int)} {x : List Int} : x ∈ ddR rows ↔ x ∈ rows := by
  have key : ∀ (rows l : List (List Int)), x ∈ rows.foldl addR l ↔ x ∈ l ∨ x ∈ rows := by
    intro rows
    induction rows with
    | nil => intro l; show x ∈ l ↔ _; simp
    | cons r rows ih =>
      intro l
      show x ∈ rows.foldl addR (addR l r) ↔ _
      rw [ih, mem_addR, List.mem_cons, or_assoc]
  have := key rows []
  unfold ddR
  simpa using this
theorem addR_len (l : List (List Int)) (r : List Int) : (addR l r).length ≤ l.length + 1 := by
  unfold addR
  split
  · omega
  · rw [List.length_append, List.length_singleton]; omega
theorem ddR_snoc (l : List (List Int)) (r : List Int) : ddR (l ++ [r]) = addR (ddR l) r := by
  unfold ddR
  rw [List.foldl_append]
  rfl
theorem ddR_len (l : List (List Int)) : (ddR l).length ≤ l.length := by
  have key : ∀ (rows l : List (List Int)), (rows.foldl addR l).length ≤ l.length + rows.length := by
    intro rows
    induction rows with
    | nil => intro l; exact Nat.le_refl _
    | cons r rows ih =>
      intro l
      have h1 := ih (addR l r)
      have h2 := addR_len l r
      show (rows.foldl addR (addR l r)).length ≤ _
      rw [List.length_cons]
      omega
  have := key l []
  simpa [ddR] using this
theorem kvT_len (l : List (List Int)) : (kvT l).length = l.length := List.length_map _
/-- {a tuple of r: True for r in rows} -/
theorem dcT_rows {K : PySem.W.Frag} {te tk : TE} {i : Nat} {vs : List Nat} {σ : L2.St} {H : Hp} {Q : VK} {b : Addr} {bs : List Addr} {rows : List (List Int)} (hte : ∀ R : VK, R (.ref b) H → te σ H R) (eb : H b = some (.lst (bs.map V.ref))) (hls : LsAt H bs rows) (hl : bs.length ≤ 1000)
    (hw : ∀ a, wipe ((wipe σ vs).set i a) vs = wipe σ vs)
    (hk : ∀ (p : Addr) (r : List Int) (H1 : Hp), H1 p = some (.lst (r.map V.int)) → ∀ R : VK, (∀ t, H1 t = none → R (.ref t) (upd H1 t (.tup (r.map V.int)))) → tk ((wipe σ vs).set i (some (.ref p))) H1 R)
    (hq : ∀ D H', H D = none → H' D = some (.dT (kvT (ddR rows))) → Same H H' → Q (.ref D) H') : DT2.tDcT (iList K te) (gName i) tk (tC (.bl true)) vs σ H Q := by
  have hrl : bs.length = rows.length := paired_len hls
  refine hte _ ⟨b, rfl, ⟨_, SqL.of eb⟩, fun D hD => ?_⟩
  refine ⟨fun i m H' => m = bs.length - i ∧ i ≤ bs.length ∧ Same H H' ∧ H' D = some (.dT (kvT (ddR (rows.take i)))), ⟨_, rfl, Nat.zero_le _, Same.new hD, by rw [upd_same]; rfl⟩, ?_⟩
  rintro k m H' ⟨rfl, hk2, s1, e1⟩
  have eb' := s1 _ _ eb
  by_cases hlt : k < bs.length
  · obtain ⟨p, ep⟩ : ∃ p, bs[k]? = some p := ⟨_, List.getElem?_eq_getElem hlt⟩
    obtain ⟨r, er, hp⟩ := paired_at hls ep
    have ev : (bs.map V.ref)[k]? = some (.ref p) := by rw [List.getElem?_map, ep]; rfl
    refine .inr ⟨⟨_, _, SqL.of eb', ev⟩, fun H'' => k + 1 ≤ bs.length ∧ Same H H'' ∧ H'' D = some (.dT (kvT (ddR (rows.take (k + 1))))), fun H'' ⟨a1, a2, a3⟩ => ⟨bs.length - (k + 1), by omega, rfl, a1, a2, a3⟩, ?_⟩
    rintro x H2 ⟨rfl, hx⟩
    have hx := hx _ (SqL.of eb')
    rw [ev] at hx
    cases hx
    refine ⟨hw _, hk p r _ (s1 _ _ hp) _ fun t nt => ?_⟩
    have sT : Same H2 (upd H2 t (.tup (r.map V.int))) := Same.new nt
    refine ⟨_, ks r, t, rfl, by rw [ks_kV]; exact upd_same, sT _ _ e1, ?_, by omega, Same.put (s1.trans sT) hD, ?_⟩
    · rw [kvT_len]
      have h1 := ddR_len (rows.take k)
      rw [List.length_take] at h1
      exact lt_line (by omega)
    · rw [upd_same, putK_kvT, take_more er, ddR_snoc]
  · have e : k = bs.length := by omega
    subst e
    rw [hrl, List.take_length] at e1
    exact .inl ⟨⟨_, SqL.of eb', by rw [List.length_map]; exact Nat.le_refl _⟩, hq D H' hD e1 s1⟩
/-- [b(x, v) for x in known for v in a list] -/
theorem lc2_kT {K : PySem.W.Frag} {te te1 : TE} {i j : Nat} {tv : TE} {vs : List Nat} {σ : L2.St} {H : Hp} {Q : VK} {d tl : Addr} {ls : List (List Int)} {ds : List V} (g : List Int → Nat → Bool)
    (hd : H d = some (.dT (kvT ls))) (htl : H tl = some (.lst ds)) (hte : ∀ H' (R : VK), R (.ref d) H' → te σ H' R) (hte1 : ∀ q H' (R : VK), R (.ref tl) H' → te1 ((wipe σ vs).set i (some (.ref q))) H' R)
    (hw : ∀ a, wipe ((wipe σ vs).set i a) vs = wipe σ vs) (hw1 : ∀ q a, wipe ((wipe ((wipe σ vs).set i q) [j]).set j a) [j] = wipe ((wipe σ vs).set i q) [j])
    (hb : ∀ x ∈ ls, ∀ (k : Nat) (v : V), ds[k]? = some v → ∀ (q : Addr) (H1 : Hp), Off d H H1 → Rd H1 d (.dT (kvT ls)) → H1 q = some (.tup (x.map V.int)) → ∀ R : VK, (∀ H2, Same H1 H2 → R (.bl (g x k)) H2) → tv ((wipe ((wipe σ vs).set i (some (.ref q))) [j]).set j (some v)) H1 R)
    (hz : ls.length * ds.length < sizeLine)
    (hq : ∀ D H', H' D = some (.lst ((ls.flatMap fun x => (List.range ds.length).map (g x)).map V.bl)) → Same H H' → Q (.ref D) H') :
    tLockE (tLc2 (iKeys te) (gName i) tYes (iList K te1) (gName j) tYes tv vs [j]) σ H Q := by
  have ntd : tl ≠ d := fun z => by rw [z, hd] at htl; cases htl
  have fl : ∀ l : List (List Int), (l.flatMap fun x => (List.range ds.length).map (g x)).length = l.length * ds.length := fun l => by
    induction l with
    | nil => simp
    | cons x l ih => rw [List.flatMap_cons, List.length_append, ih, List.length_map, List.length_range, List.length_cons, Nat.succ_mul, Nat.add_comm]
  refine ⟨d, _, hd, trivial, fun od => ?_⟩
  refine hte _ _ ⟨d, od, rfl, .inr ⟨kvT ls, upd_same, fun D hD => ?_⟩⟩
  have hDd : D ≠ d := fun e => by rw [e, upd_same] at hD; cases hD
  have hD0 : H D = none := by rw [upd_ne hDd] at hD; exact hD
  have nDt : D ≠ tl := fun z => by rw [z, htl] at hD0; cases hD0
  refine ⟨fun i m H' => m = ls.length - i ∧ i ≤ ls.length ∧ H' d = some (.frz od (.dT (kvT ls))) ∧ Off d H H' ∧ H' D = some (.lst (((ls.take i).flatMap fun x => (List.range ds.length).map (g x)).map V.bl)), ⟨_, rfl, Nat.zero_le _, by rw [upd_ne hDd.symm]; exact upd_same, Off.lock.mut hD0, upd_same⟩, ?_⟩
  rintro k m H1 ⟨rfl, hk, p1, p2, p3⟩
  by_cases hlt : k < ls.length
  case neg =>
    have e : k = ls.length := by omega
    subst e
    rw [List.take_length] at p3
    exact .inl ⟨⟨p1, by rw [kvT_len]; exact Nat.le_refl _⟩, p1, hq D _ (by rw [upd_ne hDd]; exact p3) (p2.back hd)⟩
  refine .inr ⟨⟨p1, by rw [kvT_len]; exact hlt⟩, fun H' => k + 1 ≤ ls.length ∧ H' d = some (.frz od (.dT (kvT ls))) ∧ Off d H H' ∧ H' D = some (.lst (((ls.take (k + 1)).flatMap fun x => (List.range ds.length).map (g x)).map V.bl)), fun H' ⟨a1, a2, a3, a4⟩ => ⟨ls.length - (k + 1), by omega, rfl, a1, a2, a3, a4⟩, ?_⟩
  rintro y H2 ⟨rfl, kk, vv, q, ekv, rfl, eq⟩
  obtain ⟨x, ex⟩ : ∃ x, ls[k]? = some x := ⟨_, List.getElem?_eq_getElem hlt⟩
  have ekx : kk = ks x := by
    unfold kvT at ekv
    rw [List.getElem?_map, ex] at ekv
    cases ekv
    rfl
  rw [ekx, ks_kV] at eq
  refine ⟨hw _, yes_ ?_⟩
  have tl2 := p2 _ _ ntd htl
  refine hte1 _ _ _ ⟨tl, rfl, ⟨_, SqL.of tl2⟩, ?_⟩
  have st : (ls.take (k + 1)).flatMap (fun x => (List.range ds.length).map (g x)) = (ls.take k).flatMap (fun x => (List.range ds.length).map (g x)) ++ (List.range ds.length).map (g x) := by
    rw [take_more ex, List.flatMap_append, List.flatMap_singleton]
  have la : ((ls.take k).flatMap fun x => (List.range ds.length).map (g x)).length + ds.length ≤ ls.length * ds.length := by
    rw [fl, List.length_take, Nat.min_eq_left (by omega), ← Nat.succ_mul]
    exact Nat.mul_le_mul_right _ hlt
  obtain ⟨A, eA⟩ : ∃ A, A = (ls.take k).flatMap fun x => (List.range ds.length).map (g x) := ⟨_, rfl⟩
  rw [← eA] at p3 st la
  refine ⟨fun j' m H' => m = ds.length - j' ∧ j' ≤ ds.length ∧ H' d = some (.frz od (.dT (kvT ls))) ∧ Off d H H' ∧ H' D = some (.lst ((A ++ (List.range j').map (g x)).map V.bl)) ∧ H' q = some (.tup (x.map V.int)), ⟨_, rfl, Nat.zero_le _, p1, p2, by rw [show (List.range 0).map (g x) = [] from rfl, List.append_nil]; exact p3, eq⟩, ?_⟩
  rintro j' m H3 ⟨rfl, hj, r1, r2, r3, r4⟩
  have tl3 := r2 _ _ ntd htl
  by_cases hjt : j' < ds.length
  case neg =>
    have e : j' = ds.length := by omega
    subst e
    exact .inl ⟨⟨_, SqL.of tl3, Nat.le_refl _⟩, hlt, r1, r2, by rw [st]; exact r3⟩
  obtain ⟨v, ev⟩ : ∃ v, ds[j']? = some v := ⟨_, List.getElem?_eq_getElem hjt⟩
  refine .inr ⟨⟨_, _, SqL.of tl3, ev⟩, fun H' => j' + 1 ≤ ds.length ∧ H' d = some (.frz od (.dT (kvT ls))) ∧ Off d H H' ∧ H' D = some (.lst ((A ++ (List.range (j' + 1)).map (g x)).map V.bl)) ∧ H' q = some (.tup (x.map V.int)), fun H' ⟨a1, a2, a3, a4, a5⟩ => ⟨ds.length - (j' + 1), by omega, rfl, a1, a2, a3, a4, a5⟩, ?_⟩
  rintro y H4 ⟨rfl, hy⟩
  have hy := hy _ (SqL.of tl3)
  rw [ev] at hy
  cases hy
  refine ⟨hw1 _ _, yes_ ?_⟩
  refine hb x (List.mem_of_getElem? ex) j' v ev q _ r2 (.inr ⟨od, r1⟩) r4 _ fun H5 s5 => ⟨_, s5 _ _ r3, ?_, hjt, ?_, (r2.tr (off_same s5)).mut hD0, ?_, ?_⟩
  · rw [List.length_map, List.length_append, List.length_map, List.length_range]
    omega
  · rw [upd_ne hDd.symm]; exact s5 _ _ r1
  · rw [upd_same, List.range_succ, List.map_append (f := g x), ← List.append_assoc, List.map_append (f := V.bl) (l₂ := [j'].map (g x))]
    rfl
  · rw [upd_ne fun z => by rw [z, r3] at r4; cases r4]
    exact s5 _ _ r4
/-- is a tuple among the known -/
theorem get_kvT {H : Hp} {D b : Addr} {l : List (List Int)} {x : List Int} (e : Rd H D (.dT (kvT l))) (eb : H b = some (.tup (x.map V.int))) : ∃ o, DGet H D (.ref b) o ∧ o.isSome = decide (x ∈ l) :=
  ⟨_, .inr ⟨kvT l, ks x, b, e, rfl, by rw [ks_kV]; exact eb, rfl⟩, valT_kvT x l⟩
theorem entR {C : Addr} {n : Nat} {H : Hp} : ∀ {bs : List Addr} {rows : List (List Int)}, LsAt H bs rows → (∀ r ∈ rows, r ≠ [] ∧ Plc n r) → (∀ r ∈ rows, r.length ≤ 1000) → Paired (EntB C n H) (bs.map V.ref) (rows.map fun _ => true)
  | [], [], _, _, _ => .nil
  | b :: bs, r :: rows, .cons h t, hs, hl => .cons (.inr ⟨b, _, rfl, h, by rw [List.length_map]; exact hl r List.mem_cons_self, fun x hx => (by obtain ⟨y, _, rfl⟩ := List.mem_map.mp hx; trivial), (setB_iff.mpr (hs r List.mem_cons_self)).symm⟩) (entR t (fun q hq => hs q (List.mem_cons_of_mem _ hq)) fun q hq => hl q (List.mem_cons_of_mem _ hq))
def spHold (CM CF : Addr) : Sp := fun vs H Q _ => ∃ (a t : Addr) (xs : List V) (n : Nat) (fs : List PF) (v : V) (c : Bool), vs = [.ref a, v] ∧ FamAt CM CF H a t xs n fs ∧ n ≤ 300 ∧ ValB CM n fs H v c ∧ ∀ H', Same H H' → Q (.bl c) H'
section
variable {P : Program} {w : World} {K : PySem.W.Frag} {mg : Str → Option Value} {base : Heap}
theorem ok_is_holding (T : Txt K mg) : FnR P w K mg base CX0 8 T.f_is_holding (spHold T.C_Map T.C_Family) := by
  refine T.A_is_holding.ok sc_is_holding (fun vs H Q E h => ?_) (fun cdv A outer s H vs Q E hr h => ?_)
  · obtain ⟨a, t, xs, n, fs, v, c, rfl, _⟩ := h
    rfl
  · obtain ⟨a, t, xs, n, fs, v, c, rfl, fam, n3, hv, q⟩ := h
    have hu := hu_of hr
    refine ⟨_, (pss_cons (ps_expr (pe_callR (ok_check_family T) (hr.mono (by decide)) T.A_check_family.kp rfl T.g_check_family pass0 (pa_cons (pv 0) pa_nil)))
      (pss_cons (ps_if (PW.pt (pw_or (pt_not (pt_val (pe_callB call_isi (by rfl) T.n_isinstance (by decide +kernel) (pa_cons (pv 1) (pa_cons (pe_bltn (v := .ty "list") (u := .type "list") (by rfl) T.n_list (by decide +kernel) rfl) pa_nil))))) (pw_or1 (pt_not (pt_val (pe_callB (cr_all rfl) (by rfl) T.n_all (by decide +kernel) (pa_cons (pe_lc (own := [("places", 4)]) (g := (gName 4)) (tt := tYes) rfl sc_is_holding.nd (pi_list (pv 1)) (blkOk_by (own := [("places", 4)]) (N := n_is_holding) (sc := defScope s_is_holding) (by decide +kernel)) (fun _ _ _ _ _ => (pg_name (i := 4) sc_is_holding.nd rfl (Or.inl rfl))) (fun _ _ _ _ _ => pts_nil) (fun _ _ _ _ _ => (pe_callR (ok_is_set T) (hr.mono (by decide)) T.A_is_set.kp rfl T.g_is_set pass0 (pa_cons (pv 4) (pa_cons (pe_propR (pv 0) T.o_Family.cl T.P_Family_size (ok_f_size T) (hr.mono (by decide))) pa_nil))))) pa_nil)))))))
        (pss_one (ps_ret pe_bl)) pss_nil)
      (pss_cons (ps_set (i := 2) sc_is_holding.nd rfl (Or.inr rfl) (DT2.pe_dcT (own := [("places", 4)]) (g := (gName 4)) hu rfl sc_is_holding.nd (pi_list (pv 1)) (blkOk_by (own := [("places", 4)]) (N := n_is_holding) (sc := defScope s_is_holding) (by decide +kernel)) (fun _ _ _ _ _ => (pg_name (i := 4) sc_is_holding.nd rfl (Or.inl rfl))) (fun _ _ _ _ _ => (pe_callTy (call_tuple_ofK9 (K0 := K) rfl) (by rfl) T.n_tuple (by decide +kernel) (pa_cons (pv 4) pa_nil))) (fun _ _ _ _ _ => pe_bl)))
      (pss_cons (ps_if (pt_cmp (pc_dnotin hu (pe_tupRg rfl rfl T.n_tuple (prg_1 rfl T.n_range (pe_propR (pv 0) T.o_Family.cl T.P_Family_size (ok_f_size T) (hr.mono (by decide))))) (pv 2)))
        (pss_one (ps_ret pe_bl)) pss_nil)
      (pss_cons (ps_set (i := 3) sc_is_holding.nd rfl (Or.inr rfl) (pe_lc (own := [("one", 5)]) (g := (gName 5)) (tt := tYes) rfl sc_is_holding.nd (pi_tup (pe_propR (pv 0) T.o_Family.cl T.P_Family_maps (ok_f_maps T) (hr.mono (by decide)))) (blkOk_by (own := [("one", 5)]) (N := n_is_holding) (sc := defScope s_is_holding) (by decide +kernel)) (fun _ _ _ _ _ => (pg_name (i := 5) sc_is_holding.nd rfl (Or.inl rfl))) (fun _ _ _ _ _ => pts_nil) (fun _ _ _ _ _ => (pe_propR (pv 5) T.o_Map.cl T.P_Map_arrows (ok_arrows T) (hr.mono (by decide))))))
      (pss_one (ps_ret (pe_callB (cr_all rfl) (by rfl) T.n_all (by decide +kernel) (pa_cons (pe_lock (pe_lc2 (own := [("places", 4), ("table", 6)]) (vs1 := [6]) (g := (gName 4)) (tt := tYes) (wi1 := (iList K (tVar 3))) (g1 := (gName 6)) (tt1 := tYes) rfl sc_is_holding.nd (pi_keys (pv 2)) (blkOk_by (own := [("places", 4), ("table", 6)]) (N := n_is_holding) (sc := defScope s_is_holding) (by decide +kernel)) (by decide) (fun _ _ _ _ _ => (pg_name (i := 4) sc_is_holding.nd rfl (Or.inl rfl))) (fun _ _ _ _ _ => pts_nil) (fun _ _ _ _ _ => (pi_list (pv 3))) (fun _ _ _ _ _ => (pg_name (i := 6) sc_is_holding.nd rfl (Or.inl rfl))) (fun _ _ _ _ _ => pts_nil) (fun _ _ _ _ _ => (pe_cmp (pc_din hu (pe_callR (ok_image_of T) (hr.mono (by decide)) T.A_image_of.kp rfl T.g_image_of pass0 (pa_cons (pv 4) (pa_cons (pv 6) pa_nil))) (pv 2)))))) pa_nil))))))))), ?_⟩
    refine ⟨_, rfl, a, t, xs, n, fs, rfl, fam, ?_⟩
    obtain ⟨dx, ea⟩ := fam.ob
    have hfl := fam.le
    have wf := fam.ms.wf
    have sets : ∀ {b : Addr} {es : List V} {cs : List Bool} (eb : H b = some (.lst es)) (hl : es.length ≤ 1000) (he : Paired (EntB T.C_Map n H) es cs) (R : Bool → Hp → Prop), (∀ H', Same H H' → R (!cs.all id) H') →
        tOr (tNot (tB (tCB (rIsi K) (tCons (tVar 1) (tCons (tC (V.ty "list")) tNil))))) (tNot (tB (tCB (rAll K) (tCons (tLc (iList K (tVar 1)) (gName 4) tYes (tCallR (spIsSet T.C_Map) E0 (tCons (tVar 4) (tCons (tPropR T.C_Family (spFam1 T.C_Map T.C_Family fun x n => V.int n) (tVar 0)) tNil))) [4]) tNil)))) [some (.ref a), some (.ref b), none, none, none, none, none] H R := by
      intro b es cs eb hl he R hR
      obtain ⟨ty, hty, hk2⟩ := ty_lst (K := K) eb
      refine ⟨_, rfl, _, _, _, _, true, rfl, .ty _, hty, hk2, _, rfl, itF rfl ?_⟩
      dsimp only [tNot, tB, tCB, tCons, tNil]
      refine lc_listB cs (paired_len he) (fun R r => ⟨_, rfl, r⟩) eb (fun _ => rfl) (fun k x c ex ec H1 s1 R r => ?_) (lt_line (by omega)) (fun D H1 eD s1 => ⟨D, cs, rfl, SqL.of eD, _, rfl, hR H1 s1⟩)
      obtain ⟨c', ec', hx⟩ := paired_at he ex
      rw [ec] at ec'
      cases ec'
      exact ⟨_, rfl, _, rfl, a, dx, _, rfl, s1 _ _ ea, a, t, xs, n, fs, rfl, fam.same s1, x, n, c, rfl, n3, hx.same s1, r⟩
    rcases hv with ⟨hv, rfl⟩ | ⟨b, es, cs, rfl, eb, hl, he, hc, rfl⟩ | ⟨b, bs, rows, rfl, eb, hl, hls, hset, rfl⟩
    · obtain ⟨ty, hty, hk⟩ := ty_nonLst (K := K) hv
      exact ⟨_, rfl, _, _, _, _, false, rfl, .ty _, hty, hk, _, rfl, itT rfl (q H (Same.refl _))⟩
    · refine sets eb hl he _ fun H1 s1 => ?_
      rw [hc]
      exact itT rfl (q H1 s1)
    have hrl : bs.length = rows.length := paired_len hls
    refine sets eb (by rw [List.length_map]; exact hl) (cs := rows.map fun _ => true) (entR hls hset fun r hr => by have := (hset r hr).2.len; omega) _ fun H1 s1 => ?_
    have hall : ((rows.map fun _ => true).all id) = true := by rw [List.all_map]; exact List.all_eq_true.mpr fun _ _ => rfl
    rw [hall]
    refine itF rfl ?_
    dsimp only [tNext, tSeq, tAsg, gName]
    refine dcT_rows (fun R r => ⟨_, rfl, r⟩) (s1 _ _ eb) (hls.same s1) hl (fun _ => rfl) (fun p r Hx ep R rr => ⟨_, rfl, p, _, rfl, .inl ⟨SqL.of ep, rr⟩⟩) (fun D H2 nD eD s2 => ?_)
    have s02 := s1.trans s2
    refine ⟨_, rfl, a, dx, _, rfl, s02 _ _ ea, a, t, xs, n, fs, rfl, fam.same s02, n, rfl, .of_le (by omega) (by omega) (by omega) (by omega), ?_⟩
    refine fun fb n_fb => ?_
    generalize g_fb : L2.upd _ fb _ = H3
    obtain ⟨s_H3, e_fb⟩ := U.upd_facts g_fb n_fb
    clear g_fb
    rw [rgV_0] at e_fb
    obtain ⟨o, ho, hs⟩ := get_kvT (.inl (s_H3 _ _ eD)) e_fb
    refine ⟨_, rfl, D, o, rfl, ho, _, rfl, ?_⟩
    rw [hs]
    have s03 := s02.trans s_H3
    by_cases hful : rgI n ∈ rows
    case neg =>
      refine itT (by rw [decide_eq_false fun z => hful (mem_ddR.mp z)]; rfl) ?_
      have : holdB n fs rows = false := by unfold holdB; rw [decide_eq_false hful]; rfl
      rw [this] at q
      exact q H3 s03
    refine itF (by rw [decide_eq_true (mem_ddR.mpr hful)]; rfl) ?_
    dsimp only [tNext, tSeq, tAsg, gName]
    refine lc_arrs T (fam.same s03) (fun R r => ⟨_, rfl, a, dx, _, rfl, s03 _ _ ea, a, t, xs, n, fs, rfl, fam.same s03, r⟩) (fun _ => rfl) (fun _ => rfl) (fun tl ds H4 s4 ntl htl htb hdl => ?_)
    have eD4 := s4 _ _ (s_H3 _ _ eD)
    have s04 := s03.trans s4
    dsimp only [tRet, tCB, tCons, tNil]
    have hdf : ds.length = fs.length := paired_len htb
    refine lc2_kT (g := fun r k => decide (img n ((fs[k]?).getD emp) r ∈ ddR rows)) eD4 htl (fun H' R r => ⟨_, rfl, r⟩) (fun q H' R r => ⟨_, rfl, r⟩) (fun _ => rfl) (fun _ _ => rfl) (fun r hr k v ev p Hx ox rx ep R hR => ?_) ?_ (fun D5 H5 eD5 s5 => ?_)
    · obtain ⟨f, hf, d, l, rfl, hd, di, hll⟩ := paired_at htb ev
      have ndD : d ≠ D := fun z => by rw [z, eD4] at hd; cases hd
      have hrr := mem_ddR.mp hr
      refine ⟨_, rfl, _, rfl, p, d, r, l, n, f, rfl, .tup ep, ox _ _ ndD hd, di, wf f (List.mem_of_getElem? hf), (hset r hrr).2, n3, fun tn Hy ntn etn sy => ?_⟩
      have ry : Rd Hy D (.dT (kvT (ddR rows))) := rx.elim (fun z => .inl (sy _ _ z)) fun ⟨od, z⟩ => .inr ⟨od, sy _ _ z⟩
      obtain ⟨o2, ho2, hs2⟩ := get_kvT ry etn
      refine ⟨_, rfl, D, o2, rfl, ho2, ?_⟩
      rw [hs2]
      have := hR Hy sy
      rw [hf] at this
      exact this
    · have h1 := ddR_len rows
      have h2 : (ddR rows).length * ds.length ≤ 1000 * 10 := Nat.mul_le_mul (by omega) (by rw [hdl]; exact hfl)
      exact lt_line' (by omega)
    · refine ⟨D5, _, rfl, SqL.of eD5, ?_⟩
      have := q H5 (s04.trans s5)
      have e : holdB n fs rows = ((ddR rows).flatMap fun r => (List.range ds.length).map fun k => decide (img n ((fs[k]?).getD emp) r ∈ ddR rows)).all id := by
        unfold holdB
        rw [decide_eq_true hful, Bool.true_and, List.all_flatMap, Bool.eq_iff_iff, List.all_eq_true, List.all_eq_true]
        constructor
        · intro h r hr
          refine List.all_eq_true.mpr fun c hc => ?_
          obtain ⟨k, hk, rfl⟩ := List.mem_map.mp hc
          rw [List.mem_range, hdf] at hk
          have := List.all_eq_true.mp (h r (mem_ddR.mp hr)) _ (List.getElem_mem hk)
          rw [decide_eq_true_eq] at this
          rw [List.getElem?_eq_getElem hk]
          exact decide_eq_true (mem_ddR.mpr this)
        · intro h r hr
          refine List.all_eq_true.mpr fun f hf => ?_
          obtain ⟨k, hk⟩ := List.getElem?_of_mem hf
          have hkl := (List.getElem?_eq_some_iff.mp hk).1
          have := List.all_eq_true.mp (h r (mem_ddR.mpr hr)) _ (List.mem_map.mpr ⟨k, List.mem_range.mpr (by rw [hdf]; exact hkl), rfl⟩)
          rw [hk] at this
          exact decide_eq_true (mem_ddR.mp (of_decide_eq_true this))
      rw [← e]
      exact this
end
end My
namespace My
open PySem L2 U StX PM
theorem lt4 {n : Nat} (h : n + 64 < cLine) : n + 4 < cLine := by omega
/-- [(a, b) for x in xs if c] over a list or a tuple -/
theorem lc_sqP {K : PySem.W.Frag} {te : TE} {i : Nat} {tt : TT} {tv : TE} {vs : List Nat} {σ : L2.St} {H : Hp} {Q : VK} {xs : List V} {a : Addr} (c : V → Bool) (vf : V → List V) (hs : SeqOf K H a xs) (hte : ∀ R : VK, R (.ref a) H → te σ H R) (hw : ∀ a, wipe ((wipe σ vs).set i a) vs = wipe σ vs)
    (hb : ∀ x, x ∈ xs → ∀ H1, Same H H1 → (∀ R : Bool → Hp → Prop, R (c x) H1 → tt ((wipe σ vs).set i (some x)) H1 R) ∧ (c x = true → ∀ R : VK, (∀ t, H1 t = none → R (.ref t) (upd H1 t (.tup (vf x)))) → tv ((wipe σ vs).set i (some x)) H1 R)) (hz : xs.length < sizeLine)
    (hq : ∀ D qs H', H D = none → H' D = some (.lst (qs.map V.ref)) → Paired (fun q r => H' q = some (.tup r)) qs ((xs.filter c).map vf) → Same H H' → Q (.ref D) H') : tLc (iSq K te) (gName i) tt tv vs σ H Q := by
  have body : ∀ {J : It} {G : Hp → Prop} (W : Walk J xs.length G (YAt xs)) (hG : ∀ H', Same H H' → G H') (D : Addr) (hD : H D = none), ∃ W : Nat → Nat → Hp → Prop, (∃ m, W 0 m (upd H D (.lst []))) ∧ ∀ k m H1, W k m H1 → (J.stop k H1 ∧ Q (.ref D) H1) ∨ (J.go k H1 ∧ ∃ Nx : Hp → Prop, (∀ H', Nx H' → ∃ m', m' < m ∧ W (k + 1) m' H') ∧ ∀ x H', J.yld k H1 x H' → gName i x (wipe σ vs) H' fun σ2 H2 => wipe σ2 vs = wipe σ vs ∧ tt σ2 H2 fun b H3 => if b = true then tv σ2 H3 fun y H4 => ∃ ys, H4 D = some (.lst ys) ∧ ys.length < sizeLine ∧ Nx (upd H4 D (.lst (ys ++ [y]))) else Nx H3) := by
    intro J G W hG D hD
    refine lc_it W (fun k H' => Same H H' ∧ ∃ qs : List Addr, H' D = some (.lst (qs.map V.ref)) ∧ qs.length ≤ k ∧ (∀ q ∈ qs, q ≠ D) ∧ Paired (fun q r => H' q = some (.tup r)) qs (((xs.take k).filter c).map vf)) ⟨Same.new hD, [], upd_same, Nat.le_refl _, (fun q h => absurd h List.not_mem_nil), .nil⟩ (fun k H' _ p => hG _ p.1) ?_ ?_
    · rintro k v H' H'' hk ⟨s1, qs, e1, l1, n1, p1⟩ ⟨rfl, ev⟩
      obtain ⟨b1, b2⟩ := hb v (List.mem_of_getElem? ev) _ s1
      refine ⟨hw _, b1 _ ?_⟩
      by_cases hc : c v = true
      · rw [if_pos hc]
        refine b2 hc _ fun t nt => ?_
        have ntD : t ≠ D := fun z => by rw [z, e1] at nt; cases nt
        have sT : Same H'' (upd H'' t (.tup (vf v))) := Same.new nt
        refine ⟨_, sT _ _ e1, by rw [List.length_map]; omega, Same.put (s1.trans sT) hD, qs ++ [t], by rw [upd_same, List.map_append]; rfl, by rw [List.length_append, List.length_singleton]; omega, fun q hq => ?_, ?_⟩
        · rcases List.mem_append.mp hq with h | h
          · exact n1 q h
          · rw [List.mem_singleton.mp h]; exact ntD
        · rw [take_more ev, List.filter_append, List.map_append, List.filter_cons_of_pos hc]
          refine paired_snoc (PySem.Paired.map p1 fun q hq r e => ?_) ?_
          · rw [upd_ne (n1 q hq)]; exact sT _ _ e
          · rw [upd_ne ntD]; exact upd_same
      · rw [if_neg hc]
        refine ⟨s1, qs, e1, by omega, n1, ?_⟩
        rw [take_more ev, List.filter_append, List.filter_cons_of_neg hc, List.filter_nil, List.append_nil]
        exact p1
    · rintro H' ⟨s1, qs, e1, _, _, p1⟩
      rw [List.take_length] at p1
      exact hq D qs H' hD e1 p1 s1
  cases hs with
  | lst e => exact .inl (hte _ ⟨a, rfl, ⟨_, SqL.of e⟩, fun D hD => body walk_list (fun H' s => SqL.of (s _ _ e)) D hD⟩)
  | tup e => exact .inr (hte _ ⟨a, rfl, ⟨_, SqT.of e⟩, fun D hD => body walk_tup (fun H' s => SqT.of (s _ _ e)) D hD⟩)
  | kt e => exact .inr (hte _ ⟨a, rfl, ⟨_, sqT_kt e⟩, fun D hD => body walk_tup (fun H' s => sqT_kt e) D hD⟩)
theorem val_kvB (x : Int) (sl : List Int) : (valV (kvB sl) (Sum.inl x : Key)).isSome = decide (x ∈ sl) := by
  rw [← valV_any, Bool.eq_iff_iff, List.any_eq_true, decide_eq_true_eq]
  constructor
  · rintro ⟨p, hp, e⟩
    obtain ⟨y, hy, rfl⟩ := List.mem_map.mp hp
    have := Sum.inl.inj (of_decide_eq_true e)
    rw [← this]
    exact hy
  · intro h
    exact ⟨_, List.mem_map.mpr ⟨x, h, rfl⟩, decide_eq_true rfl⟩
theorem fm_pairs (f : PF) : ∀ ps : List Int, ((ps.map V.int).filter (cPF f)).map (fun v => [vPF f v, V.bl true]) = (ps.filterMap f).map fun y => [V.int y, V.bl true]
  | ps => by
    have h := fm_pf f ps
    have : ((ps.map V.int).filter (cPF f)).map (fun v => [vPF f v, V.bl true]) = (((ps.map V.int).filter (cPF f)).map (vPF f)).map fun v => [v, V.bl true] := by rw [List.map_map]; rfl
    rw [this, h, List.map_map]
    rfl
theorem WdA_next {α : Type} [DecidableEq α] {fs : List (α → α)} {s : α} {k : Nat} {e : α × List Int} (he : (WdA fs s k)[k]? = some e) : WdA fs s (k + 1) = WdA fs s k ++ visA fs (WdA fs s k) e.1 e.2 fs.length := by
  show nxA' fs k _ = _
  unfold nxA'
  rw [he]
def spLImg (K : PySem.W.Frag) : Sp := fun vs H Q _ => ∃ (p d : Addr) (ps : List Int) (l : List (Int × Int)) (n : Nat) (f : PF), vs = [.ref p, .ref d, .int (n : Int)] ∧ SeqOf K H p (ps.map V.int) ∧ H d = some (.dK (kvI l)) ∧ DI l f ∧ ps.length ≤ 1000 ∧ n ≤ 300 ∧ ∀ t H', H t = none → H' t = some (.tup ((img n f ps).map V.int)) → Same H H' → Q (.ref t) H'
def spLSrch : Sp := fun vs H Q _ => ∃ (tl : Addr) (ds : List V) (n B : Nat) (fs : List PF), vs = [.ref tl, .int (n : Int)] ∧ H tl = some (.lst ds) ∧ TabsAt' H ds fs ∧ ds.length ≤ 10 ∧ 1 ≤ n ∧ n ≤ 300 ∧ B ≤ 1000 ∧ (∀ k, (WdA (imgs n fs) (rgI n) k).length ≤ B) ∧ ∀ D H', H D = none → WdT H' D (WdA (imgs n fs) (rgI n) B) → Same H H' → Q (.ref D) H'
section
variable {P : Program} {w : World} {K : PySem.W.Frag} {mg : Str → Option Value} {base : Heap}
theorem ok_l_image (T : Txt K mg) : FnR P w K mg base CX0 2 T.f_l_image (spLImg K) := by
  refine T.A_l_image.ok sc_l_image (fun vs H Q E h => ?_) (fun cdv A outer s H vs Q E hr h => ?_)
  · obtain ⟨p, d, ps, l, n, f, rfl, _⟩ := h
    rfl
  · obtain ⟨p, d, ps, l, n, f, rfl, hp, ed, di, hl, n3, q⟩ := h
    have hu := hu_of hr
    refine ⟨_, (pss_cons (ps_set (i := 3) sc_l_image.nd rfl (Or.inr rfl) (pe_callTy (call_dictP rfl) (by rfl) T.n_dict (by decide +kernel) (pa_cons (pe_lc (own := [("_law_place", 4)]) (g := (gName 4)) rfl sc_l_image.nd (pi_sq (pv 0)) (blkOk_by (own := [("_law_place", 4)]) (N := n_l_image) (sc := defScope s_l_image) (by decide +kernel)) (fun _ _ _ _ _ => (pg_name (i := 4) sc_l_image.nd rfl (Or.inl rfl))) (fun _ _ _ _ _ => (pts_one (pt_cmp (pc_din hu (pv 4) (pv 1))))) (fun _ _ _ _ _ => (pe_tup (pa_cons (pe_dget hu (pv 1) (pv 4) (fun _ _ => rfl)) (pa_cons pe_bl pa_nil))))) pa_nil)))
      (pss_one (ps_ret (pe_callTy call_tuple_of (by rfl) T.n_tuple (by decide +kernel) (pa_cons (pe_lc (own := [("_law_target", 5)]) (g := (gName 5)) rfl sc_l_image.nd (pi_range1 rfl T.n_range (pa_cons (pv 2) pa_nil)) (blkOk_by (own := [("_law_target", 5)]) (N := n_l_image) (sc := defScope s_l_image) (by decide +kernel)) (fun _ _ _ _ _ => (pg_name (i := 5) sc_l_image.nd rfl (Or.inl rfl))) (fun _ _ _ _ _ => (pts_one (pt_cmp (pc_din hu (pv 5) (pv 3))))) (fun _ _ _ _ _ => (pv 5))) pa_nil))))), ?_⟩
    dsimp only [tSeq, tAsg, tCB, tCons, tNil, gName]
    refine lc_sqP (cPF f) (fun v => [vPF f v, V.bl true]) hp (fun R r => ⟨_, rfl, r⟩) (fun _ => rfl) (fun x hx H1 s1 => ?_) (by rw [List.length_map]; exact lt_line (by omega)) (fun D qs H1 nD eD hq1 s1 => ?_)
    · obtain ⟨y, hy, rfl⟩ := List.mem_map.mp hx
      have hg := dgetL (s1 _ _ ed) di y
      refine ⟨fun R r => ⟨_, rfl, _, rfl, d, _, rfl, hg, _, rfl, ?_⟩, fun hc R r => ?_⟩
      · have r : R (f y).isSome H1 := r
        cases e : f y with
        | none => rw [e] at r; exact r
        | some z => rw [e] at r; exact r
      · have hc : (f y).isSome = true := hc
        cases e : f y with
        | none => rw [e] at hc; cases hc
        | some z =>
          rw [e] at hg
          refine ⟨_, rfl, _, rfl, d, .int z, rfl, hg, two_le, fun t nt => ?_⟩
          have := r t nt
          rw [show vPF f (V.int y) = V.int z from by show V.int ((f y).getD 0) = _; rw [e]; rfl] at this
          exact this
    rw [fm_pairs] at hq1
    obtain ⟨sl, esl, msl, _⟩ := kvB_merge (ps.filterMap f) []
    have pq : Paired (fun p (kv : Key × V) => SqT K H1 p [kV kv.1, kv.2]) qs (kvB (ps.filterMap f)) := by
      have key : ∀ (ys : List Int) (qs : List Addr), Paired (fun q r => H1 q = some (.tup r)) qs (ys.map fun y => [V.int y, V.bl true]) → Paired (fun p (kv : Key × V) => SqT K H1 p [kV kv.1, kv.2]) qs (kvB ys) := by
        intro ys
        induction ys with
        | nil => intro qs h; cases h; exact .nil
        | cons y ys ih => intro qs h; cases h with | cons a b => exact .cons (SqT.of a) (ih _ b)
      exact key _ _ hq1
    refine ⟨D, qs, kvB (ps.filterMap f), rfl, SqL.of eD, pq, ?_⟩
    rw [show mergeK [] (kvB (ps.filterMap f)) = kvB sl from esl]
    refine fun M n_M => ?_
    generalize g_M : L2.upd _ M _ = H2
    obtain ⟨s_H2, e_M⟩ := U.upd_facts g_M n_M
    clear g_M
    have s02 := s1.trans s_H2
    dsimp only [tRet, tCB, tCons, tNil]
    refine lc_rangeF (n := n) (H := H2) (fun x => decide (x ∈ sl)) (fun R r => ⟨_, rfl, n, rfl, by omega, by omega, by rw [Int.toNat_natCast]; exact r⟩) (fun _ => rfl) (lt_line (by omega)) (fun k hk H3 s3 => ⟨fun R r => ⟨_, rfl, _, rfl, M, _, rfl, DGet.k (k := Sum.inl (0 + (k : Int))) (s3 _ _ e_M), _, rfl, ?_⟩, fun R r => ⟨_, rfl, r⟩⟩) (fun D3 H3 nD3 eD3 s3 => ?_)
    · rw [val_kvB, Int.zero_add]
      exact r
    have s03 := s02.trans s3
    refine ⟨D3, _, rfl, .inl ⟨SqL.of eD3, fun t nt => q t _ (s03.free nt) ?_ (s03.trans (Same.new nt))⟩⟩
    rw [upd_same]
    have e : ((List.range n).filter fun (k : Nat) => decide ((k : Int) ∈ sl)).map (fun (k : Nat) => (k : Int)) = img n f ps := by
      unfold img rgI
      rw [List.filter_map]
      congr 1
      refine List.filter_congr fun k hk => ?_
      show decide ((k : Int) ∈ sl) = ps.any fun x => decide (f x = some (k : Int))
      rw [Bool.eq_iff_iff, decide_eq_true_eq, List.any_eq_true, msl, List.mem_filterMap]
      constructor
      · rintro (h | ⟨x, hx, e⟩)
        · cases h
        · exact ⟨x, hx, decide_eq_true e⟩
      · rintro ⟨x, hx, e⟩
        exact .inr ⟨x, hx, of_decide_eq_true e⟩
    rw [e]
theorem ok_l_search (T : Txt K mg) : FnR P w K mg base CX0 4 T.f_l_search spLSrch := by
  refine T.A_l_search.ok sc_l_search (fun vs H Q E h => ?_) (fun cdv A outer s H vs Q E hr h => ?_)
  · obtain ⟨tl, ds, n, B, fs, rfl, _⟩ := h
    rfl
  · obtain ⟨tl, ds, n, B, fs, rfl, htl, htb, hds, n1, n3, hB, hW, q⟩ := h
    have hu := hu_of hr
    refine ⟨_, (pss_cons (ps_set (i := 2) sc_l_search.nd rfl (Or.inl rfl) (pe_tupRg rfl rfl T.n_tuple (prg_1 rfl T.n_range (pv 1))))
      (pss_cons (ps_par (i := 3) (j := 4) rfl sc_l_search.nd rfl rfl (by decide) rfl rfl (pa_cons (pe_callTy (DT2.call_dict1 (lt4 hr.units) rfl) (by rfl) T.n_dict (by decide +kernel) (pa_cons (pe_lst (pa_cons (pe_tup (pa_cons (pv 2) (pa_cons (pe_tup pa_nil) pa_nil))) pa_nil)) pa_nil)) (pa_cons (pe_lst (pa_cons (pv 2) pa_nil)) pa_nil)) (by rfl))
      (pss_cons (ps_while PassesOwn.never (pt_cmpR (op_neNil hr.units0) (pv 4) (pe_lst pa_nil) (nomark _))
        (pss_cons (ps_set (i := 5) sc_l_search.nd rfl (Or.inl rfl) (pe_lst pa_nil))
      (pss_cons (ps_for PassesOwn.never rfl (pi_list (pv 4)) (pg_name (i := 6) sc_l_search.nd rfl (Or.inl rfl))
        (pss_one (ps_for PassesOwn.never rfl (pi_enum rfl T.n_enumerate (pa_cons (pv 0) pa_nil)) (pg_tup rfl (pgs_cons (pg_name (i := 7) sc_l_search.nd rfl (Or.inl rfl)) (pgs_cons (pg_name (i := 8) sc_l_search.nd rfl (Or.inl rfl)) pgs_nil)))
        (pss_cons (ps_set (i := 9) sc_l_search.nd rfl (Or.inl rfl) (pe_callR (ok_l_image T) (hr.mono (by decide)) T.A_l_image.kp rfl T.g_l_image pass0 (pa_cons (pv 6) (pa_cons (pv 8) (pa_cons (pv 1) pa_nil)))))
      (pss_one (ps_if (pt_cmp (pc_dnotin hu (pv 9) (pv 3)))
        (pss_cons (ps_dput hu (pv 3) (pv 9) (pe_op op_catA (pe_dget hu (pv 3) (pv 6) (fun _ _ => rfl)) (pe_tup (pa_cons (pv 7) pa_nil))) rfl)
      (pss_one (ps_expr (pe_bm PySem.F.plainAttrs_list PySem.F.slot_list_append PySem.F.type_list_append mt_append (pv 5) (pa_cons (pv 9) pa_nil))))) pss_nil))))))
      (pss_one (ps_set (i := 4) sc_l_search.nd rfl (Or.inl rfl) (pv 5))))))
      (pss_one (ps_ret (pv 3)))))), ?_⟩
    obtain ⟨Wk, eWk⟩ : ∃ Wk, Wk = WdA (imgs n fs) (rgI n) := ⟨_, rfl⟩
    rw [← eWk] at q
    have hWk : ∀ k, (Wk k).length ≤ B := fun k => by rw [eWk]; exact hW k
    have wdn : ∀ k, (keyA (Wk k)).Nodup := fun k => by rw [eWk]; exact WdA_nodup k
    have wpl : ∀ k, ∀ x ∈ keyA (Wk k), Plc n x := fun k => by
      rw [eWk]
      refine WdA_in (S := Plc n) (plc_full n) (fun f hf p _ => ?_) k
      obtain ⟨g, _, rfl⟩ := List.mem_map.mp hf
      exact plc_img n g p
    refine ⟨_, rfl, n, rfl, .of_le (by omega) (by omega) (by omega) (by omega), ?_⟩
    refine fun fb n_fb => ?_
    generalize g_fb : L2.upd _ fb _ = H1
    obtain ⟨s_H1, e_fb⟩ := U.upd_facts g_fb n_fb
    clear g_fb
    rw [rgV_0] at e_fb
    refine ⟨_, rfl, nil_le, ?_⟩
    refine fun e0 n_e0 => ?_
    generalize g_e0 : L2.upd _ e0 _ = H2
    obtain ⟨s_H2, e_e0⟩ := U.upd_facts g_e0 n_e0
    clear g_e0
    refine ⟨two_le, ?_⟩
    refine fun p0 n_p0 => ?_
    generalize g_p0 : L2.upd _ p0 _ = H3
    obtain ⟨s_H3, e_p0⟩ := U.upd_facts g_p0 n_p0
    clear g_p0
    refine ⟨one_le, ?_⟩
    refine fun lp n_lp => ?_
    generalize g_lp : L2.upd _ lp _ = H4
    obtain ⟨s_H4, e_lp⟩ := U.upd_facts g_lp n_lp
    clear g_lp
    have ef4 : H4 fb = some (.tup ((rgI n).map V.int)) := s_H4 _ _ (s_H3 _ _ (s_H2 _ _ e_fb))
    refine ⟨lp, p0, fb, ks (rgI n), .ref e0, rfl, SqL.of e_lp, SqT.of (s_H4 _ _ e_p0), by rw [ks_kV]; exact ef4, ?_⟩
    refine fun D n_D => ?_
    generalize g_D : L2.upd _ D _ = H5
    obtain ⟨s_H5, e_D⟩ := U.upd_facts g_D n_D
    clear g_D
    refine ⟨_, rfl, one_le, ?_⟩
    refine fun L0 n_L0 => ?_
    generalize g_L0 : L2.upd _ L0 _ = H6
    obtain ⟨s_H6, e_L0⟩ := U.upd_facts g_L0 n_L0
    clear g_L0
    have s04 := ((s_H1.trans s_H2).trans s_H3).trans s_H4
    have nD : H D = none := s04.free n_D
    have s06 := (s04.trans s_H5).trans s_H6
    have eW0 : Wk 0 = [(rgI n, [])] := by rw [eWk]; rfl
    have w6 : WdT H6 D (Wk 0) := by
      rw [eW0]
      exact ⟨_, s_H6 _ _ e_D, .cons ⟨rfl, e0, rfl, s_H6 _ _ (s_H5 _ _ (s_H4 _ _ (s_H3 _ _ e_e0)))⟩ .nil⟩
    refine ⟨_, _, rfl, ?_⟩
    refine ⟨fun m σ H' => ∃ k L qs v5 v6 v7 v8 v9, σ = [some (.ref tl), some (.int n), some (.ref fb), some (.ref D), some (.ref L), v5, v6, v7, v8, v9] ∧ Same H H' ∧ WdT H' D (Wk k) ∧ H' L = some (.lst (qs.map V.ref)) ∧ TpsAt H' qs ((keyA (Wk k)).drop k) ∧ m = B - k ∧ k ≤ (Wk k).length,
      ⟨B, 0, L0, [fb], _, _, _, _, _, rfl, s06, w6, e_L0, by rw [eW0]; exact .cons (s_H6 _ _ (s_H5 _ _ ef4)) .nil, rfl, Nat.zero_le _⟩, ?_⟩
    clear s06 s04 w6 s_H6 s_H5 s_H4 s_H3 s_H2 s_H1 e_D e_L0 e_lp e_p0 e_e0 e_fb ef4
    rintro m σ H' ⟨k, L, qs, v5, v6, v7, v8, v9, rfl, p1, p2, p3, p4, rfl, hk⟩
    refine ⟨_, rfl, nil_le, ?_⟩
    refine fun t1 n_t1 => ?_
    generalize g_t1 : L2.upd _ t1 _ = Ha
    obtain ⟨s_Ha, e_t1⟩ := U.upd_facts g_t1 n_t1
    clear g_t1
    refine ⟨L, t1, _, rfl, rfl, s_Ha _ _ p3, e_t1, _, rfl, ?_⟩
    replace p1 := p1.trans s_Ha
    replace p2 := p2.same s_Ha
    replace p3 := s_Ha _ _ p3
    replace p4 := p4.same s_Ha
    have hlW := hWk k
    have hql : qs.length = (Wk k).length - k := by
      have := paired_len p4
      rwa [List.length_drop, keyA_len] at this
    by_cases hq0 : qs = []
    · subst hq0
      have hge : (Wk k).length ≤ k := by
        have : 0 = (Wk k).length - k := hql
        omega
      have eB : Wk B = Wk k := by
        rw [eWk] at hge hlW hk ⊢
        exact WdA_stop hge (by omega)
      refine itF rfl ⟨_, rfl, q D Ha nD ?_ p1⟩
      rw [eB]
      exact p2
    have hlt : k < (Wk k).length := by
      have := List.length_pos_iff.mpr hq0
      omega
    refine itT (by cases qs with | nil => exact absurd rfl hq0 | cons x y => rfl) ?_
    refine ⟨fun σ' H2 => ∃ m', m' < B - k ∧ _, fun _ _ h => h, ?_⟩
    refine ⟨nil_le, ?_⟩
    refine fun W n_W => ?_
    generalize g_W : L2.upd _ W _ = Hb
    obtain ⟨s_Hb, e_W⟩ := U.upd_facts g_W n_W
    clear g_W
    have nW : H W = none := p1.free n_W
    have nLW : L ≠ W := ne_of_none p3 n_W
    have nDW : D ≠ W := by
      obtain ⟨kvs, g, _⟩ := p2
      exact ne_of_none g n_W
    replace p1 := p1.trans s_Hb
    replace p2 := p2.same s_Hb
    replace p3 := s_Hb _ _ p3
    replace p4 := p4.same s_Hb
    obtain ⟨N, eN⟩ : ∃ N, N = (Wk k).length := ⟨_, rfl⟩
    have kN : (keyA (Wk k)).length = N := by rw [keyA_len, eN]
    have mono : ∀ {j : Nat}, k ≤ j → ∃ r, Wk j = Wk k ++ r := fun {j} hj => by rw [eWk]; exact WdA_mono hj
    refine ⟨_, rfl, L, rfl, ⟨_, SqL.of p3⟩, ?_⟩
    refine for_it (walk_list (xs := qs.map V.ref)) (fun i σ H' => ∃ qw v6 v7 v8 v9, σ = [some (.ref tl), some (.int n), some (.ref fb), some (.ref D), some (.ref L), some (.ref W), v6, v7, v8, v9] ∧ Same H H' ∧ WdT H' D (Wk (k + i)) ∧ H' L = some (.lst (qs.map V.ref)) ∧ TpsAt H' qs ((keyA (Wk k)).drop k) ∧ H' W = some (.lst (qw.map V.ref)) ∧ TpsAt H' qw ((keyA (Wk (k + i))).drop N))
      ⟨[], _, _, _, _, rfl, p1, p2, p3, p4, e_W, by rw [Nat.add_zero, List.drop_eq_nil_iff.mpr (by rw [kN]; exact Nat.le_refl _)]; exact .nil⟩ (fun i σ H' _ ⟨_, _, _, _, _, _, _, _, z, _⟩ => SqL.of z) ?_ ?_
    · rintro i v σ Ha0 Hc hi ⟨qw, v6, v7, v8, v9, rfl, p1, p2, p3, p4, p5, p6⟩ ⟨rfl, ev⟩
      rw [List.length_map] at hi
      rw [List.getElem?_map] at ev
      obtain ⟨b, eb, rfl⟩ := Option.map_eq_some_iff.mp ev
      obtain ⟨r, hr⟩ := mono (Nat.le_add_right k i)
      obtain ⟨e, he0⟩ : ∃ e, (Wk k)[k + i]? = some e := ⟨_, List.getElem?_eq_getElem (by omega)⟩
      have he : (Wk (k + i))[k + i]? = some e := by rw [hr, List.getElem?_append_left (by omega)]; exact he0
      obtain ⟨l0, el0, hb0⟩ := paired_at p4 eb
      have el : l0 = e.1 := by
        rw [List.getElem?_drop] at el0
        unfold keyA at el0
        rw [List.getElem?_map, he0] at el0
        exact (Option.some.inj el0).symm
      subst el
      have ple : Plc n e.1 := wpl k _ (List.mem_map.mpr ⟨e, List.mem_of_getElem? he0, rfl⟩)
      refine ⟨_, rfl, tl, ds, rfl, SqL.of (p1 _ _ htl), ?_⟩
      refine for_it (walk_enum (xs := ds)) (fun j σ H' => ∃ qw v7 v8 v9, σ = [some (.ref tl), some (.int n), some (.ref fb), some (.ref D), some (.ref L), some (.ref W), some (.ref b), v7, v8, v9] ∧ Same H H' ∧ WdT H' D (Wk (k + i) ++ visA (imgs n fs) (Wk (k + i)) e.1 e.2 j) ∧ H' L = some (.lst (qs.map V.ref)) ∧ TpsAt H' qs ((keyA (Wk k)).drop k) ∧ H' W = some (.lst (qw.map V.ref)) ∧ TpsAt H' qw ((keyA (Wk (k + i))).drop N ++ keyA (visA (imgs n fs) (Wk (k + i)) e.1 e.2 j)))
        ⟨qw, _, _, _, rfl, p1, by rw [show visA (imgs n fs) (Wk (k + i)) e.1 e.2 0 = [] from rfl, List.append_nil]; exact p2, p3, p4, p5, by rw [show visA (imgs n fs) (Wk (k + i)) e.1 e.2 0 = [] from rfl, show keyA ([] : WsT) = [] from rfl, List.append_nil]; exact p6⟩ (fun i σ H' _ ⟨_, _, _, _, _, z, _⟩ => SqL.of (z _ _ htl)) ?_ ?_
      · rintro j v σ Hb0 Hd hj ⟨qw, v7, v8, v9, rfl, q1, q2, q3, q4, q5, q6⟩ ⟨u0, x, y, rfl, n_u0, rfl, e1, e2⟩
        cases e1
        obtain ⟨f, hf, d, l, rfl, hd, di, hll⟩ := paired_at htb e2
        generalize g_u0 : L2.upd _ u0 _ = He
        obtain ⟨s_He, e_u0⟩ := U.upd_facts g_u0 n_u0
        clear g_u0
        replace q1 := q1.trans s_He
        replace q2 := q2.same s_He
        replace q3 := s_He _ _ q3
        replace q4 := q4.same s_He
        replace q5 := s_He _ _ q5
        replace q6 := q6.same s_He
        have hdb := q1 _ _ hd
        have hfi : (imgs n fs)[j]? = some (img n f) := by unfold imgs; rw [List.getElem?_map, hf]; rfl
        have hjl : j + 1 ≤ (imgs n fs).length := (List.getElem?_eq_some_iff.mp hfi).1
        refine ⟨u0, [.int j, .ref d], rfl, SqT.of e_u0, rfl, .int j, [.ref d], rfl, .ref d, [], rfl, rfl, ?_⟩
        have ev := visA_at (ws := Wk (k + i)) (p := e.1) (w := e.2) hfi
        obtain ⟨r0, hr0⟩ : ∃ r, Wk (k + i + 1) = Wk (k + i) ++ visA (imgs n fs) (Wk (k + i)) e.1 e.2 j ++ r := by
          rw [eWk] at he ⊢
          exact visA_pre he (by omega)
        have ndv : (keyA (Wk (k + i) ++ visA (imgs n fs) (Wk (k + i)) e.1 e.2 j)).Nodup := visA_nodup (wdn _) j
        have lnv : (Wk (k + i) ++ visA (imgs n fs) (Wk (k + i)) e.1 e.2 j).length ≤ B := by
          have := hWk (k + i + 1)
          rw [hr0, List.length_append] at this
          omega
        obtain ⟨vw, evw⟩ : ∃ vw, vw = visA (imgs n fs) (Wk (k + i)) e.1 e.2 j := ⟨_, rfl⟩
        rw [← evw] at q2 q6 ev ndv lnv
        obtain ⟨lb, elb, q7⟩ := paired_at q4 eb
        rw [el0] at elb
        cases elb
        refine ⟨_, rfl, _, rfl, _, rfl, b, d, e.1, l, n, f, rfl, .tup q7, hdb, di, by have := ple.len; omega, n3, fun tn Hc ntn etn sc => ?_⟩
        replace q1 := q1.trans sc
        replace q2 := q2.same sc
        replace q3 := sc _ _ q3
        replace q4 := q4.same sc
        replace q5 := sc _ _ q5
        replace q6 := q6.same sc
        replace q7 := sc _ _ q7
        clear s_He n_u0 e_u0 hdb
        obtain ⟨o, ho, hs, _, _⟩ := q2.has etn
        refine ⟨_, rfl, _, rfl, D, o, rfl, ho, _, rfl, ?_⟩
        rw [hs]
        by_cases hn : img n f e.1 ∈ keyA (Wk (k + i) ++ vw)
        · rw [if_pos hn] at ev
          exact itF (by rw [decide_eq_true hn]; rfl) ⟨qw, _, _, _, rfl, q1, by rw [ev]; exact q2, q3, q4, q5, by rw [ev]; exact q6⟩
        rw [if_neg hn] at ev
        refine itT (by rw [decide_eq_false hn]; rfl) ?_
        obtain ⟨kvs, eD, lD⟩ := q2.len
        obtain ⟨pw, hpw, epw⟩ := q2.get ndv (List.mem_append.mpr (.inl (List.mem_of_getElem? he))) q7
        refine ⟨_, rfl, _, rfl, D, .ref pw, rfl, hpw, _, rfl, one_le, ?_⟩
        refine fun u1 n_u1 => ?_
        generalize g_u1 : L2.upd _ u1 _ = Hf
        obtain ⟨s_Hf, e_u1⟩ := U.upd_facts g_u1 n_u1
        clear g_u1
        have wle := WdA_word (fs := imgs n fs) (s := rgI n) (k := k + i) (by rw [← eWk]; exact List.mem_of_getElem? he)
        refine catA_of (s_Hf _ _ epw) e_u1 (by simp) (le_line (by rw [List.length_map, List.length_singleton]; omega)) fun t2 Hg sg et2 => ?_
        have sfg := s_Hf.trans sg
        have et2' : Hg t2 = some (.tup ((e.2 ++ [(j : Int)]).map V.int)) := by rw [et2, List.map_append]; rfl
        obtain ⟨He2, hput, wput, ou, rfl⟩ := (q2.same sfg).put hn (sfg _ _ etn) et2' (lt_line (by omega))
        refine ⟨_, rfl, _, rfl, D, _, rfl, hput, ?_⟩
        have oD : Off D Hg (upd Hg D ou) := Off.lock
        have eDg := sfg _ _ eD
        have hWd : (upd Hg D ou) W = some (.lst (qw.map V.ref)) := oD _ _ nDW.symm (sfg _ _ q5)
        refine ⟨_, rfl, .inl ⟨rfl, _, SqL.of hWd⟩, _, rfl, W, _, .ref tn, rfl, rfl, hWd, ?_, ?_⟩
        · refine lt_line ?_
          have l4 := paired_len q6
          rw [List.length_append, List.length_drop, keyA_len, keyA_len] at l4
          rw [List.length_append] at lnv
          rw [List.length_map]
          omega
        have oW : Off W (upd Hg D ou) (upd (upd Hg D ou) W (.lst (qw.map V.ref ++ [V.ref tn]))) := Off.lock
        have nLD : L ≠ D := fun z => by rw [z, eD] at q3; cases q3
        have ntD : tn ≠ D := fun z => by rw [z, eD] at etn; cases etn
        have ntW : tn ≠ W := fun z => by rw [z, q5] at etn; cases etn
        have dT : ∀ xs, Hg D ≠ some (.tup xs) := fun xs z => by rw [eDg] at z; cases z
        have wT : ∀ xs, (upd Hg D ou) W ≠ some (.tup xs) := fun xs z => by rw [hWd] at z; cases z
        refine ⟨qw ++ [tn], _, _, _, rfl, Same.put (Same.put (q1.trans sfg) nD) nW, ?_, oW _ _ nLW (oD _ _ nLD (sfg _ _ q3)), TpsAt.off (TpsAt.off (q4.same sfg) oD dT) oW wT, by rw [upd_same, List.map_append]; rfl, ?_⟩
        · rw [ev, ← List.append_assoc]
          exact wput.off oW ⟨_, hWd⟩
        · rw [ev, keyA_app, ← List.append_assoc]
          exact paired_snoc (TpsAt.off (TpsAt.off (q6.same sfg) oD dT) oW wT) (oW _ _ ntW (oD _ _ ntD (sfg _ _ etn)))
      · rintro σ Hd ⟨qw, v7, v8, v9, rfl, q1, q2, q3, q4, q5, q6⟩
        have hfl' : ds.length = (imgs n fs).length := by unfold imgs; rw [List.length_map]; exact paired_len htb
        have eW1 : Wk (k + (i + 1)) = Wk (k + i) ++ visA (imgs n fs) (Wk (k + i)) e.1 e.2 ds.length := by
          rw [hfl']
          rw [eWk] at he ⊢
          exact WdA_next he
        refine ⟨qw, _, _, _, _, rfl, q1, by rw [eW1]; exact q2, q3, q4, q5, ?_⟩
        rw [eW1, keyA_app, List.drop_append_of_le_length (by rw [keyA_len, hr, List.length_append]; omega)]
        exact q6
    · rintro σ Hd ⟨qw, v6, v7, v8, v9, rfl, p1, p2, p3, p4, p5, p6⟩
      rw [List.length_map, hql, show k + ((Wk k).length - k) = N by omega] at p2 p6
      have hN : N ≤ B := by omega
      obtain ⟨r, hr⟩ := mono (show k ≤ N by omega)
      exact ⟨_, rfl, B - N, by omega, N, W, qw, _, _, _, _, _, rfl, p1, p2, p5, p6, rfl, by rw [hr, List.length_append]; omega⟩
end
end My
namespace My
open PySem L2 U StX PM
theorem call_isi9 {X : Cx} {K0 : PySem.W.Frag} (h : X.K = K0) : CallR X (.builtin "isinstance") (rIsi K0) := by subst h; exact call_isi
theorem ix_listK {X : Cx} {K : PySem.W.Frag} (h : X.K = K) : IxR X (rIxL K) := by subst h; exact ix_list
theorem op_notInD9 {X : Cx} {K0 : PySem.W.Frag} (h : X.K = K0) (hu : X.A.units + 65 < cLine) : OpR X (compareOp .NotIn) (rNotInD K0) := by subst h; exact op_notInD hu
theorem u65 {k : Nat} {A : Around} (hr : Room k A) : A.units + 65 < cLine := by
  have := hr.un
  omega
/-- [x for x in range(lo, ..) if c] -/
theorem lc_rangeG {wi : TI} {i : Nat} {tt : TT} {tv : TE} {vs : List Nat} {σ : L2.St} {H : Hp} {Q : VK} {n : Nat} {lo : Int} (c : Nat → Bool) (hwi : ∀ R : It → Hp → Prop, R (Itr lo n) H → wi σ H R)
    (hw : ∀ a, wipe ((wipe σ vs).set i a) vs = wipe σ vs) (hn : n < sizeLine)
    (hb : ∀ k : Nat, k < n → ∀ H1, Same H H1 → (∀ R : Bool → Hp → Prop, R (c k) H1 → tt ((wipe σ vs).set i (some (.int (lo + (k : Nat))))) H1 R) ∧ ∀ R : VK, R (.int (lo + (k : Nat))) H1 → tv ((wipe σ vs).set i (some (.int (lo + (k : Nat))))) H1 R)
    (hq : ∀ (D : Addr) (H' : Hp), H' D = some (.lst (((List.range n).filter c).map fun (k : Nat) => V.int (lo + (k : Int)))) → Same H H' → Q (.ref D) H') : tLc wi (gName i) tt tv vs σ H Q := by
  refine hwi _ fun D hD => ?_
  refine lc_it (walk_range (lo := lo)) (fun k H' => Same H H' ∧ H' D = some (.lst (((List.range k).filter c).map fun (k : Nat) => V.int (lo + (k : Int))))) ⟨Same.new hD, upd_same⟩ (fun _ _ _ _ => trivial) ?_ ?_
  · rintro k v H' H'' hk ⟨s1, e1⟩ ⟨rfl, rfl⟩
    obtain ⟨b1, b2⟩ := hb k hk _ s1
    refine ⟨hw _, b1 _ ?_⟩
    have st : (List.range (k + 1)).filter c = (List.range k).filter c ++ (if c k = true then [k] else []) := by
      rw [List.range_succ, List.filter_append]
      by_cases h : c k = true
      · rw [List.filter_cons_of_pos h, if_pos h]; rfl
      · rw [List.filter_cons_of_neg h, if_neg h]; rfl
    by_cases hc : c k = true
    · rw [if_pos hc]
      rw [if_pos hc] at st
      refine b2 _ ⟨_, e1, ?_, Same.put s1 hD, ?_⟩
      · have h1 := List.length_filter_le c (List.range k)
        rw [List.length_map]
        rw [List.length_range] at h1
        omega
      · rw [upd_same, st, List.map_append]
        rfl
    · rw [if_neg hc]
      rw [if_neg hc, List.append_nil] at st
      exact ⟨s1, by rw [st]; exact e1⟩
  · rintro H' ⟨s1, e1⟩
    exact hq D H' e1 s1
theorem num_rd9 {K : PySem.W.Frag} {mg : Str → Option Value} (T : Txt K mg) {σ : L2.St} {H : Hp} {R : Bool → Hp → Prop} {n : Int} {v : V} {i j : Nat} (hi : σ[i]? = some (some v)) (hj : σ[j]? = some (some (.int n))) (hv : knownV T.C_Map H v) (q : R (!inR v 0 (n - 1)) H) :
    tOr (tNot (tB (tCB (rIsi K) (tCons (tVar i) (tCons (tC (V.ty "int")) tNil))))) (tOr (tB (tCB (rIsi K) (tCons (tVar i) (tCons (tC (V.ty "bool")) tNil)))) (tNot (tTest (tChain (rI0 fun i j => V.bl (decide (i ≤ j))) (rI0 fun i j => V.bl (decide (i < j))) (tC (V.int 0)) (tVar i) (tVar j))))) σ H R := by
  obtain ⟨t, ht, k1, k2⟩ := ty_known T hv
  have fal : isI v = false → isB v = false → tOr (tNot (tB (tCB (rIsi K) (tCons (tVar i) (tCons (tC (V.ty "int")) tNil))))) (tOr (tB (tCB (rIsi K) (tCons (tVar i) (tCons (tC (V.ty "bool")) tNil)))) (tNot (tTest (tChain (rI0 fun i j => V.bl (decide (i ≤ j))) (rI0 fun i j => V.bl (decide (i < j))) (tC (V.int 0)) (tVar i) (tVar j))))) σ H R := fun h1 h2 => by
    rw [h1, h2] at k1
    refine ⟨_, hi, _, _, _, _, false, rfl, .ty _, ht, k1, _, rfl, itT rfl ?_⟩
    have : inR v 0 (n - 1) = false := by cases v <;> first | rfl | cases h1
    rw [this] at q
    exact q
  cases v with
  | int x =>
    refine ⟨_, hi, _, _, _, _, true, rfl, .ty _, ht, k1, _, rfl, itF rfl ?_⟩
    refine ⟨_, hi, _, _, _, _, false, rfl, .ty _, ht, k2, _, rfl, itF rfl ?_⟩
    refine ⟨_, hi, 0, x, rfl, rfl, _, rfl, ?_⟩
    by_cases h1 : (0 : Int) ≤ x
    · rw [decide_eq_true h1]
      refine itT rfl ⟨_, hj, x, n, rfl, rfl, _, rfl, ?_⟩
      have e : inR (.int x) 0 (n - 1) = decide (x < n) := by
        show (decide ((0 : Int) ≤ x) && decide (x ≤ n - 1)) = _
        rw [decide_eq_true h1, Bool.true_and]
        exact decide_eq_decide.mpr ⟨fun _ => by omega, fun _ => by omega⟩
      rw [← e]
      exact q
    · rw [decide_eq_false h1]
      refine itF rfl ⟨_, rfl, ?_⟩
      have e : inR (.int x) 0 (n - 1) = false := by
        show (decide ((0 : Int) ≤ x) && decide (x ≤ n - 1)) = _
        rw [decide_eq_false h1, Bool.false_and]
      rw [e] at q
      exact q
  | bl b =>
    refine ⟨_, hi, _, _, _, _, true, rfl, .ty _, ht, k1, _, rfl, itF rfl ?_⟩
    exact ⟨_, hi, _, _, _, _, true, rfl, .ty _, ht, k2, _, rfl, itT rfl q⟩
  | non => exact fal rfl rfl
  | str z => exact fal rfl rfl
  | ref b => exact fal rfl rfl
  | _ => exact hv.elim
theorem asc_filter (ns : List Int) : ((List.range (ns.length - 1)).filter fun k => decide (ns.getD (k + 1) 0 ≤ ns.getD k 0)) = [] ↔ ascB ns = true := by
  unfold ascB
  rw [List.filter_eq_nil_iff, List.all_eq_true]
  constructor
  · intro h k hk
    have := h k hk
    rw [decide_eq_true_eq] at this
    exact decide_eq_true (by omega)
  · intro h k hk
    have := of_decide_eq_true (h k hk)
    rw [decide_eq_true_eq]
    omega
theorem eqv_I9 : ∀ (a b : List Int), PyData.eqv (.list (a.map PyData.int)) (.list (b.map PyData.int)) = decide (a = b)
  | [], [] => rfl
  | [], _ :: _ => rfl
  | _ :: _, [] => rfl
  | x :: a, y :: b => by
    have ih := eqv_I9 a b
    have e : PyData.eqv (.list ((x :: a).map PyData.int)) (.list ((y :: b).map PyData.int)) = (decide (x = y) && PyData.eqv (.list (a.map PyData.int)) (.list (b.map PyData.int))) := by
      show (x == y && _) = (decide (x = y) && _)
      by_cases h : x = y <;> simp [h, PyData.eqv]
    rw [e, ih]
    by_cases h : x = y <;> by_cases h2 : a = b <;> simp [h, h2]
theorem sh_rowsI (rows : List (List Int)) : SeqAt.shaped (.list (rows.map fun r => PyData.list (r.map PyData.int))) = true := shaped_all fun d hd => by
  obtain ⟨r, _, rfl⟩ := List.mem_map.mp hd
  obtain ⟨h1, h2⟩ := lay_I r
  exact ⟨h1, by show PyData.depthAll _ + 1 ≤ _; omega⟩
theorem dp_rowsI {K : PySem.W.Frag} {H : Hp} {bs : List Addr} {rows : List (List Int)} (h : LsAt H bs rows) : DpAll K H (bs.map V.ref) (rows.map fun r => PyData.list (r.map PyData.int)) := by
  unfold LsAt at h
  induction h with
  | nil => exact .nil
  | @cons b r _ _ e _ ih => exact .cons (.lst (SqL.of e) (dpI _)) ih
theorem any_rows (x : List Int) : ∀ rows : List (List Int), ((rows.map fun r => PyData.list (r.map PyData.int)).any fun z => PyData.eqv z (.list (x.map PyData.int))) = decide (x ∈ rows)
  | [] => rfl
  | r :: rows => by
    rw [List.map_cons, List.any_cons, any_rows x rows, eqv_I9, Bool.eq_iff_iff, Bool.or_eq_true, decide_eq_true_eq, decide_eq_true_eq, decide_eq_true_eq, List.mem_cons]
    exact ⟨fun h => h.imp Eq.symm id, fun h => h.imp Eq.symm id⟩
/-- [x for x in xs if not b(x)], the answers known by their places -/
theorem lc_listF {K : PySem.W.Frag} {te : TE} {i : Nat} {tt : TT} {tv : TE} {vs : List Nat} {σ : L2.St} {H : Hp} {Q : VK} {es : List V} {a : Addr} (cs : List Bool) (hl : es.length = cs.length) (hte : ∀ R : VK, R (.ref a) H → te σ H R) (ha : H a = some (.lst es)) (hw : ∀ a, wipe ((wipe σ vs).set i a) vs = wipe σ vs)
    (hb : ∀ (k : Nat) (x : V) (c : Bool), es[k]? = some x → cs[k]? = some c → ∀ H1, Same H H1 → (∀ R : Bool → Hp → Prop, (∀ H2, Same H1 H2 → R (!c) H2) → tt ((wipe σ vs).set i (some x)) H1 R))
    (hv : ∀ (x : V) (H1 : Hp) (R : VK), R x H1 → tv ((wipe σ vs).set i (some x)) H1 R) (hz : es.length < sizeLine)
    (hq : ∀ D ys H', H' D = some (.lst ys) → ys.isEmpty = cs.all id → Same H H' → Q (.ref D) H') : tLc (iList K te) (gName i) tt tv vs σ H Q := by
  refine hte _ ⟨a, rfl, ⟨_, SqL.of ha⟩, fun D hD => ?_⟩
  refine lc_it (walk_list (xs := es)) (fun k H' => Same H H' ∧ ∃ ys, H' D = some (.lst ys) ∧ ys.length ≤ k ∧ ys.isEmpty = (cs.take k).all id) ⟨Same.new hD, [], upd_same, Nat.le_refl _, rfl⟩ (fun k H' _ p => SqL.of (p.1 _ _ ha)) ?_ ?_
  · rintro k v H' H'' hk ⟨s1, ys, e1, l1, m1⟩ ⟨rfl, ev⟩
    obtain ⟨c, ec⟩ : ∃ c, cs[k]? = some c := ⟨_, List.getElem?_eq_getElem (by omega)⟩
    refine ⟨hw _, hb k v c ev ec _ s1 _ fun H2 s2 => ?_⟩
    have st : (cs.take (k + 1)).all id = ((cs.take k).all id && c) := by
      rw [take_more ec, List.all_append]
      simp
    cases c with
    | true =>
      refine itF rfl ⟨s1.trans s2, ys, s2 _ _ e1, by omega, ?_⟩
      rw [st, m1, Bool.and_true]
    | false =>
      refine itT rfl (hv v H2 _ ⟨ys, s2 _ _ e1, by omega, Same.put (s1.trans s2) hD, ys ++ [v], upd_same, by rw [List.length_append, List.length_singleton]; omega, ?_⟩)
      rw [st, Bool.and_false]
      cases ys <;> rfl
  · rintro H' ⟨s1, ys, e1, _, m1⟩
    rw [hl, List.take_length] at m1
    exact hq D ys H' e1 m1 s1
def spLIs (C : Addr) : Sp := fun vs H Q _ => ∃ (tl : Addr) (ds : List V) (n : Nat) (fs : List PF) (v : V) (c : Bool), vs = [.ref tl, .int (n : Int), v] ∧ H tl = some (.lst ds) ∧ TabsAt' H ds fs ∧ ds.length ≤ 10 ∧ n ≤ 300 ∧ ValB C n fs H v c ∧ ∀ H', Same H H' → Q (.bl c) H'
section
variable {P : Program} {w : World} {K : PySem.W.Frag} {mg : Str → Option Value} {base : Heap}
theorem ok_l_is_list (T : Txt K mg) : FnR P w K mg base CX0 4 T.f_l_is_list (spIsSet T.C_Map) := by
  refine T.A_l_is_list.ok sc_l_is_list (fun vs H Q E h => ?_) (fun cdv A outer s H vs Q E hr h => ?_)
  · obtain ⟨y, n, c, rfl, _⟩ := h
    rfl
  · obtain ⟨y, n, c, rfl, n3, hy, q⟩ := h
    have hu := hu_of hr
    refine ⟨_, (pss_cons (ps_if (PW.pt (pw_or (pt_not (pt_val (pe_callB call_isi (by rfl) T.n_isinstance (by decide +kernel) (pa_cons (pv 0) (pa_cons (pe_bltn (v := .ty "list") (u := .type "list") (by rfl) T.n_list (by decide +kernel) rfl) pa_nil))))) (pw_or1 (pt_cmpR (op_eqNil hr.units0) (pv 0) (pe_lst pa_nil) (nomark _)))))
        (pss_one (ps_ret pe_bl)) pss_nil)
      (pss_cons (ps_if (pt_cmpR (op_neNil hr.units0) (pe_lc (own := [("_law_one", 2)]) (g := (gName 2)) rfl sc_l_is_list.nd (pi_list (pv 0)) (blkOk_by (own := [("_law_one", 2)]) (N := n_l_is_list) (sc := defScope s_l_is_list) (by decide +kernel)) (fun _ _ _ _ _ => (pg_name (i := 2) sc_l_is_list.nd rfl (Or.inl rfl))) (fun _ _ _ _ _ => (pts_one (PW.pt (pw_or (pt_not (pt_val (pe_callB (call_isi9 (K0 := K) rfl) (by rfl) T.n_isinstance (by decide +kernel) (pa_cons (pv 2) (pa_cons (pe_bltn (v := .ty "int") (u := .type "int") (by rfl) T.n_int (by decide +kernel) rfl) pa_nil))))) (pw_or (pt_val (pe_callB (call_isi9 (K0 := K) rfl) (by rfl) T.n_isinstance (by decide +kernel) (pa_cons (pv 2) (pa_cons (pe_bltn (v := .ty "bool") (u := .type "bool") (by rfl) T.n_bool (by decide +kernel) rfl) pa_nil)))) (pw_or1 (pt_not (pt_chain op_le op_lt pe_int (pv 2) (pv 1))))))))) (fun _ _ _ _ _ => (pv 2))) (pe_lst pa_nil) (nomark _))
        (pss_one (ps_ret pe_bl)) pss_nil)
      (pss_one (ps_ret (pe_cmpR (op_eqNil hr.units0) (pe_lc (own := [("_law_at", 3)]) (g := (gName 3)) rfl sc_l_is_list.nd (pi_range2 (by rfl) T.n_range (pa_cons pe_int (pa_cons (pe_callB call_len_seq (by rfl) T.n_len (by decide +kernel) (pa_cons (pv 0) pa_nil)) pa_nil))) (blkOk_by (own := [("_law_at", 3)]) (N := n_l_is_list) (sc := defScope s_l_is_list) (by decide +kernel)) (fun _ _ _ _ _ => (pg_name (i := 3) sc_l_is_list.nd rfl (Or.inl rfl))) (fun _ _ _ _ _ => (pts_one (pt_cmpR op_ge (pe_ix (ix_listK (K := K) rfl) (pv 0) (pe_op op_sub (pv 3) pe_int) (fun _ _ => rfl)) (pe_ix (ix_listK (K := K) rfl) (pv 0) (pv 3) (fun _ _ => rfl)) (nomark _)))) (fun _ _ _ _ _ => (pv 3))) (pe_lst pa_nil) (nomark _)))))), ?_⟩
    rcases hy with ⟨hy, rfl⟩ | ⟨b, xs, rfl, eb, hl, hk, rfl⟩
    · obtain ⟨ty, hty, hk⟩ := ty_nonLst (K := K) hy
      exact ⟨_, rfl, _, _, _, _, false, rfl, .ty _, hty, hk, _, rfl, itT rfl (q H (Same.refl _))⟩
    obtain ⟨ty, hty, hk2⟩ := ty_lst (K := K) eb
    refine ⟨_, rfl, _, _, _, _, true, rfl, .ty _, hty, hk2, _, rfl, itF rfl ?_⟩
    refine ⟨_, rfl, nil_le, ?_⟩
    refine fun e0 n_e0 => ?_
    generalize g_e0 : L2.upd _ e0 _ = H1
    obtain ⟨s_H1, e_e0⟩ := U.upd_facts g_e0 n_e0
    clear g_e0
    refine ⟨b, e0, xs, rfl, rfl, SqL.of (s_H1 _ _ eb), SqL.of e_e0, _, rfl, ?_⟩
    by_cases he : xs.isEmpty = true
    · refine itT he ?_
      have : setB n xs = false := by unfold setB; rw [he]; rfl
      rw [this] at q
      exact q H1 s_H1
    have he : xs.isEmpty = false := by simpa using he
    refine itF he ?_
    dsimp only [tNext, tSeq, tIfS, tTest, tOp]
    have eb1 := s_H1 _ _ eb
    refine lc_lst (α := V) (xs := xs) (H := H1) id (fun x => [some (.ref b), some (.int n), some x, none]) (fun x => !inR x 0 ((n : Int) - 1)) id (fun R r => ⟨_, rfl, r⟩) (by rw [List.map_id]; exact eb1) (fun x hx H2 s2 R r => r) (fun x hx => rfl) (fun x hx H2 s2 => ⟨fun R r => num_rd9 T rfl rfl (known_mv (hk x hx) (s_H1.trans s2)) r, fun _ R r => ⟨_, rfl, r⟩⟩) (lt_line (by omega)) (fun D H2 nD eD s2 => ?_)
    rw [List.map_id] at eD
    refine ⟨nil_le, ?_⟩
    refine fun e1 n_e1 => ?_
    generalize g_e1 : L2.upd _ e1 _ = H3
    obtain ⟨s_H3, e_e1⟩ := U.upd_facts g_e1 n_e1
    clear g_e1
    refine ⟨D, e1, _, rfl, rfl, s_H3 _ _ eD, e_e1, _, rfl, ?_⟩
    have s03 := (s_H1.trans s2).trans s_H3
    cases hal : xs.all fun x => inR x 0 ((n : Int) - 1) with
    | false =>
      refine itT ?_ ?_
      · obtain ⟨x, hx, hne⟩ := List.all_eq_false.mp hal
        have hm : x ∈ xs.filter fun x => !inR x 0 ((n : Int) - 1) := List.mem_filter.mpr ⟨hx, by simpa using hne⟩
        cases h : xs.filter fun x => !inR x 0 ((n : Int) - 1) with
        | nil => rw [h] at hm; cases hm
        | cons u v => rfl
      · have : setB n xs = false := by unfold setB; rw [hal, he]; rfl
        rw [this] at q
        exact q H3 s03
    | true =>
      have hf : (xs.filter fun x => !inR x 0 ((n : Int) - 1)) = [] := List.filter_eq_nil_iff.mpr fun x hx => by
        have := List.all_eq_true.mp hal x hx
        rw [this]
        decide
      rw [hf]
      refine itF rfl ?_
      have hq : setB n xs = ascB (xs.map iV9) := by unfold setB; rw [hal, he]; rfl
      rw [hq] at q
      have ex := all_int hal
      obtain ⟨ns, ens⟩ : ∃ ns, ns = xs.map iV9 := ⟨_, rfl⟩
      rw [← ens] at ex q
      subst ex
      rw [List.length_map] at hl
      have eb3 := s_H3 _ _ (s2 _ _ eb1)
      dsimp only [tNext, tRet, tOp]
      refine lc_rangeG (lo := 1) (n := ns.length - 1) (fun k => decide (ns.getD (k + 1) 0 ≤ ns.getD k 0)) (fun R r => ⟨_, rfl, b, _, rfl, .inl (SqL.of eb3), 1, _, rfl, ⟨by decide, by decide, by rw [List.length_map]; omega, by rw [List.length_map]; omega⟩, by rw [List.length_map, show ((ns.length : Int) - 1).toNat = ns.length - 1 by omega]; exact r⟩) (fun _ => rfl) (lt_line (by omega)) (fun k hk4 H4 s4 => ⟨fun R r => ?_, fun R r => ⟨_, rfl, r⟩⟩) (fun D4 H4 eD4 s4 => ?_)
      · have eb4 := s4 _ _ eb3
        have g1 : atI (ns.map V.int) (1 + (k : Int) - 1) = some (V.int (ns.getD k 0)) := by
          rw [show (1 : Int) + (k : Int) - 1 = (k : Nat) by omega]
          refine atI_nat ?_
          rw [List.getElem?_map, List.getD_eq_getElem?_getD, List.getElem?_eq_getElem (by omega)]
          rfl
        have g2 : atI (ns.map V.int) (1 + (k : Int)) = some (V.int (ns.getD (k + 1) 0)) := by
          rw [show (1 : Int) + (k : Int) = ((k + 1 : Nat) : Int) by omega]
          refine atI_nat ?_
          rw [List.getElem?_map, List.getD_eq_getElem?_getD, List.getElem?_eq_getElem (by omega)]
          rfl
        refine ⟨_, rfl, _, rfl, _, _, rfl, rfl, b, _, _, _, rfl, rfl, SqL.of eb4, g1, _, rfl, _, rfl, b, _, _, _, rfl, rfl, SqL.of eb4, g2, _, _, rfl, rfl, _, rfl, r⟩
      · refine ⟨nil_le, ?_⟩
        refine fun e2 n_e2 => ?_
        generalize g_e2 : L2.upd _ e2 _ = H5
        obtain ⟨s_H5, e_e2⟩ := U.upd_facts g_e2 n_e2
        clear g_e2
        refine ⟨D4, e2, _, rfl, rfl, SqL.of (s_H5 _ _ eD4), SqL.of e_e2, ?_⟩
        have := q H5 ((s03.trans s4).trans s_H5)
        have e : (((List.range (ns.length - 1)).filter fun k => decide (ns.getD (k + 1) 0 ≤ ns.getD k 0)).map fun (k : Nat) => V.int (1 + (k : Int))).isEmpty = ascB ns := by
          rw [Bool.eq_iff_iff, List.isEmpty_iff, List.map_eq_nil_iff]
          exact asc_filter ns
        rw [e]
        exact this
theorem ok_l_is (T : Txt K mg) : FnR P w K mg base CX0 6 T.f_l_is (spLIs T.C_Map) := by
  refine T.A_l_is.ok sc_l_is (fun vs H Q E h => ?_) (fun cdv A outer s H vs Q E hr h => ?_)
  · obtain ⟨tl, ds, n, fs, v, c, rfl, _⟩ := h
    rfl
  · obtain ⟨tl, ds, n, fs, v, c, rfl, htl, htb, hds, n3, hv, q⟩ := h
    have hu := hu_of hr
    refine ⟨_, (pss_cons (ps_if (PW.pt (pw_or (pt_not (pt_val (pe_callB call_isi (by rfl) T.n_isinstance (by decide +kernel) (pa_cons (pv 2) (pa_cons (pe_bltn (v := .ty "list") (u := .type "list") (by rfl) T.n_list (by decide +kernel) rfl) pa_nil))))) (pw_or1 (pt_cmpR (op_neNil hr.units0) (pe_lc (own := [("_law_one", 4)]) (g := (gName 4)) rfl sc_l_is.nd (pi_list (pv 2)) (blkOk_by (own := [("_law_one", 4)]) (N := n_l_is) (sc := defScope s_l_is) (by decide +kernel)) (fun _ _ _ _ _ => (pg_name (i := 4) sc_l_is.nd rfl (Or.inl rfl))) (fun _ _ _ _ _ => (pts_one (pt_not (pt_val (pe_callR (ok_l_is_list T) (hr.mono (by decide)) T.A_l_is_list.kp rfl T.g_l_is_list pass0 (pa_cons (pv 4) (pa_cons (pv 1) pa_nil))))))) (fun _ _ _ _ _ => (pv 4))) (pe_lst pa_nil) (nomark _)))))
        (pss_one (ps_ret pe_bl)) pss_nil)
      (pss_cons (ps_if (pt_cmpR (op_notInD9 (K0 := K) rfl (u65 hr)) (pe_listRg rfl rfl T.n_list (prg_1 rfl T.n_range (pv 1))) (pv 2) (by rfl))
        (pss_one (ps_ret pe_bl)) pss_nil)
      (pss_cons (ps_for PassesOwn.never rfl (pi_list (pv 2)) (pg_name (i := 3) sc_l_is.nd rfl (Or.inr rfl))
        (pss_one (ps_if (pt_cmpR (op_neNil hr.units0) (pe_lc (own := [("_law_table", 5)]) (g := (gName 5)) rfl sc_l_is.nd (pi_list (pv 0)) (blkOk_by (own := [("_law_table", 5)]) (N := n_l_is) (sc := defScope s_l_is) (by decide +kernel)) (fun _ _ _ _ _ => (pg_name (i := 5) sc_l_is.nd rfl (Or.inl rfl))) (fun _ _ _ _ _ => (pts_one (pt_cmpR (op_notInD9 (K0 := K) rfl (u65 hr)) (pe_callTy (call_list_ofK (K0 := K) rfl) (by rfl) T.n_list (by decide +kernel) (pa_cons (pe_callR (ok_l_image T) (hr.mono (by decide)) T.A_l_image.kp rfl T.g_l_image pass0 (pa_cons (pv 3) (pa_cons (pv 5) (pa_cons (pv 1) pa_nil)))) pa_nil)) (pv 2) (by rfl)))) (fun _ _ _ _ _ => (pv 5))) (pe_lst pa_nil) (nomark _))
        (pss_one (ps_ret pe_bl)) pss_nil)))
      (pss_one (ps_ret pe_bl))))), ?_⟩
    have sets : ∀ {b : Addr} {es : List V} {cs : List Bool} (eb : H b = some (.lst es)) (hl : es.length ≤ 1000) (he : Paired (EntB T.C_Map n H) es cs) (R : Bool → Hp → Prop), (∀ H', Same H H' → R (!cs.all id) H') →
        tOr (tNot (tB (tCB (rIsi K) (tCons (tVar 2) (tCons (tC (V.ty "list")) tNil))))) (tTest (tOp rNeNil (tLc (iList K (tVar 2)) (gName 4) (tNot (tB (tCallR (spIsSet T.C_Map) E0 (tCons (tVar 4) (tCons (tVar 1) tNil))))) (tVar 4) [4]) (tLst tNil))) [some (.ref tl), some (.int n), some (.ref b), none, none, none] H R := by
      intro b es cs eb hl he R hR
      obtain ⟨ty, hty, hk2⟩ := ty_lst (K := K) eb
      refine ⟨_, rfl, _, _, _, _, true, rfl, .ty _, hty, hk2, _, rfl, itF rfl ?_⟩
      dsimp only [tTest, tOp]
      refine lc_listF cs (paired_len he) (fun R r => ⟨_, rfl, r⟩) eb (fun _ => rfl) (fun k x c ex ec H1 s1 R r => ?_) (fun x H1 R r => ⟨_, rfl, r⟩) (lt_line (by omega)) (fun D ys H1 eD hys s1 => ?_)
      · obtain ⟨c', ec', hx⟩ := paired_at he ex
        rw [ec] at ec'
        cases ec'
        exact ⟨_, rfl, _, rfl, x, n, c, rfl, n3, hx.same s1, fun H2 s2 => ⟨_, rfl, r H2 s2⟩⟩
      · refine ⟨nil_le, ?_⟩
        refine fun e1 n_e1 => ?_
        generalize g_e1 : L2.upd _ e1 _ = H2
        obtain ⟨s_H2, e_e1⟩ := U.upd_facts g_e1 n_e1
        clear g_e1
        refine ⟨D, e1, ys, rfl, rfl, s_H2 _ _ eD, e_e1, _, rfl, ?_⟩
        rw [hys]
        exact hR H2 (s1.trans s_H2)
    rcases hv with ⟨hv, rfl⟩ | ⟨b, es, cs, rfl, eb, hl, he, hc, rfl⟩ | ⟨b, bs, rows, rfl, eb, hl, hls, hset, rfl⟩
    · obtain ⟨ty, hty, hk⟩ := ty_nonLst (K := K) hv
      exact ⟨_, rfl, _, _, _, _, false, rfl, .ty _, hty, hk, _, rfl, itT rfl (q H (Same.refl _))⟩
    · refine sets eb hl he _ fun H1 s1 => ?_
      rw [hc]
      exact itT rfl (q H1 s1)
    have hrl : bs.length = rows.length := paired_len hls
    refine sets eb (by rw [List.length_map]; exact hl) (cs := rows.map fun _ => true) (entR hls hset fun r hr => by have := (hset r hr).2.len; omega) _ fun H1 s1 => ?_
    have hall : ((rows.map fun _ => true).all id) = true := by rw [List.all_map]; exact List.all_eq_true.mpr fun _ _ => rfl
    rw [hall]
    refine itF rfl ?_
    refine ⟨_, rfl, n, rfl, .of_le (by omega) (by omega) (by omega) (by omega), ?_⟩
    refine fun fb n_fb => ?_
    generalize g_fb : L2.upd _ fb _ = H2
    obtain ⟨s_H2, e_fb⟩ := U.upd_facts g_fb n_fb
    clear g_fb
    rw [rgV_0] at e_fb
    have s02 := s1.trans s_H2
    refine ⟨_, rfl, _, _, .lst (SqL.of e_fb) (dpI _), .lst (SqL.of (s02 _ _ eb)) (dp_rowsI (hls.same s02)), shI _, sh_rowsI _, ?_⟩
    rw [any_rows]
    refine ⟨_, rfl, ?_⟩
    by_cases hful : rgI n ∈ rows
    case neg =>
      refine itT (by rw [decide_eq_false hful]; rfl) ?_
      have : holdB n fs rows = false := by unfold holdB; rw [decide_eq_false hful]; rfl
      rw [this] at q
      exact q H2 s02
    refine itF (by rw [decide_eq_true hful]; rfl) ?_
    have hH : holdB n fs rows = rows.all fun r => fs.all fun f => decide (img n f r ∈ rows) := by unfold holdB; rw [decide_eq_true hful, Bool.true_and]
    rw [hH] at q
    have hdf : ds.length = fs.length := paired_len htb
    refine ⟨_, rfl, b, rfl, ⟨_, SqL.of (s02 _ _ eb)⟩, ?_⟩
    refine for_it (walk_list (xs := bs.map V.ref)) (fun i σ H' => ∃ v3, σ = [some (.ref tl), some (.int n), some (.ref b), v3, none, none] ∧ Same H H' ∧ (rows.take i).all (fun r => fs.all fun f => decide (img n f r ∈ rows)) = true)
      ⟨_, rfl, s02, rfl⟩ (fun i σ H' _ ⟨_, _, z, _⟩ => SqL.of (z _ _ eb)) ?_ ?_
    · rintro i v σ Ha Hb hi ⟨v3, rfl, p1, p2⟩ ⟨rfl, ev⟩
      rw [List.getElem?_map] at ev
      obtain ⟨p, ep, rfl⟩ := Option.map_eq_some_iff.mp ev
      obtain ⟨r, er, hp⟩ := paired_at hls ep
      have hrr := List.mem_of_getElem? er
      have plr := (hset r hrr).2
      dsimp only [gName, tIfS, tTest, tOp]
      refine lc_listF (fs.map fun f => decide (img n f r ∈ rows)) (by rw [List.length_map]; exact hdf) (fun R r => ⟨_, rfl, r⟩) (p1 _ _ htl) (fun _ => rfl) (fun k x c ex ec H1 s1 R rr => ?_) (fun x H1 R r => ⟨_, rfl, r⟩) (lt_line (by omega)) (fun D ys H1 eD hys s1 => ?_)
      · obtain ⟨f, hf, d, l, rfl, hd, di, hll⟩ := paired_at htb ex
        rw [List.getElem?_map, hf] at ec
        cases ec
        have p1' := p1.trans s1
        refine ⟨_, rfl, _, rfl, _, rfl, p, d, r, l, n, f, rfl, .lst (p1' _ _ hp), p1' _ _ hd, di, by have := plr.len; omega, n3, fun tn Hy ntn etn sy => ?_⟩
        refine ⟨tn, _, rfl, .inr (SqT.of etn), fun q2 nq2 => ?_⟩
        have s2 := Same.new (o := .lst ((img n f r).map V.int)) nq2
        have sy2 := sy.trans s2
        have p1'' := p1'.trans sy2
        refine ⟨_, rfl, _, _, .lst (SqL.of upd_same) (dpI _), .lst (SqL.of (p1'' _ _ eb)) (dp_rowsI (hls.same p1'')), shI _, sh_rowsI _, ?_⟩
        rw [any_rows]
        exact ⟨_, rfl, rr _ sy2⟩
      · refine ⟨nil_le, ?_⟩
        refine fun e1 n_e1 => ?_
        generalize g_e1 : L2.upd _ e1 _ = H2
        obtain ⟨s_H2, e_e1⟩ := U.upd_facts g_e1 n_e1
        clear g_e1
        refine ⟨D, e1, ys, rfl, rfl, s_H2 _ _ eD, e_e1, _, rfl, ?_⟩
        rw [hys, List.all_map]
        have p3 := (p1.trans s1).trans s_H2
        cases hc : fs.all (id ∘ fun f => decide (img n f r ∈ rows)) with
        | false =>
          refine itT rfl ?_
          have : (rows.all fun r => fs.all fun f => decide (img n f r ∈ rows)) = false := List.all_eq_false.mpr ⟨r, hrr, by
            have hc : (fs.all fun f => decide (img n f r ∈ rows)) = false := hc
            rw [hc]
            decide⟩
          rw [this] at q
          exact q H2 p3
        | true =>
          refine itF rfl ⟨_, rfl, p3, ?_⟩
          rw [take_more er, List.all_append, p2, Bool.true_and, List.all_cons, List.all_nil, Bool.and_true]
          exact hc
    · rintro σ Ha ⟨v3, rfl, p1, p2⟩
      rw [List.length_map, hrl, List.take_length] at p2
      rw [p2] at q
      exact q Ha p1
end
end My
namespace My
open PySem L2 U StX PM
/-! ### what repr takes -/
structure LfOk (b k : Nat) (d : PyData) : Prop where
  sh : d.showable = true
  nd : d.hasDict = false
  dp : d.depth ≤ k
  ls : d.leavesShort 13 = true
  bk : d.bulk ≤ b
theorem LfOk.mono {b k b' k' : Nat} {d : PyData} (h : LfOk b k d) (hb : b ≤ b') (hk : k ≤ k') : LfOk b' k' d := ⟨h.sh, h.nd, Nat.le_trans h.dp hk, h.ls, Nat.le_trans h.bk hb⟩
theorem lf_all {b k : Nat} : ∀ {ds : List PyData}, (∀ d ∈ ds, LfOk b k d) → PyData.showableAll ds = true ∧ PyData.hasDictAll ds = false ∧ PyData.depthAll ds ≤ k ∧ PyData.leavesShortAll 13 ds = true ∧ PyData.bulkAll ds ≤ (b + 1) * ds.length
  | [], _ => ⟨rfl, rfl, Nat.zero_le _, rfl, Nat.zero_le _⟩
  | d :: ds, h => by
    obtain ⟨i1, i2, i3, i4, i5⟩ := lf_all (ds := ds) fun x hx => h x (List.mem_cons_of_mem _ hx)
    obtain ⟨j1, j2, j3, j4, j5⟩ := h d List.mem_cons_self
    refine ⟨?_, ?_, ?_, ?_, ?_⟩
    · simp only [PyData.showableAll, j1, i1, Bool.and_self]
    · simp only [PyData.hasDictAll, j2, i2, Bool.or_self]
    · simp only [PyData.depthAll]
      omega
    · simp only [PyData.leavesShortAll, j4, i4, Bool.and_self]
    · simp only [PyData.bulkAll, List.length_cons, Nat.mul_add]
      omega
theorem lf_list {b k : Nat} {ds : List PyData} (h : ∀ d ∈ ds, LfOk b k d) : LfOk ((b + 1) * ds.length) (k + 1) (.list ds) := by
  obtain ⟨i1, i2, i3, i4, i5⟩ := lf_all h
  exact ⟨by simpa only [PyData.showable] using i1, by simpa only [PyData.hasDict] using i2, by simp only [PyData.depth]; omega, by simpa only [PyData.leavesShort] using i4, by simpa only [PyData.bulk] using i5⟩
theorem lf_tuple {b k : Nat} {ds : List PyData} (h : ∀ d ∈ ds, LfOk b k d) : LfOk ((b + 1) * ds.length) (k + 1) (.tuple ds) := by
  obtain ⟨i1, i2, i3, i4, i5⟩ := lf_all h
  exact ⟨by simpa only [PyData.showable] using i1, by simpa only [PyData.hasDict] using i2, by simp only [PyData.depth]; omega, by simpa only [PyData.leavesShort] using i4, by simpa only [PyData.bulk] using i5⟩
def RepOk (d : PyData) : Prop := d.showable = true ∧ d.hasDict = false ∧ d.depth ≤ 60 ∧ d.shown.length ≤ sizeLine
theorem LfOk.rep {b k : Nat} {d : PyData} (h : LfOk b k d) (hb : b ≤ 1000000) (hk : k ≤ 60) : RepOk d := ⟨h.sh, h.nd, Nat.le_trans h.dp hk, PyData.shown_fits_bulk (B := 13) (by decide) (by decide) h.ls (Nat.le_trans h.bk (by omega))⟩
theorem lf_int {x : Int} (h0 : -1 ≤ x) (h1 : x ≤ 300) : LfOk 1 1 (.int x) := by
  have key : ∀ k : Fin 302, (PyData.int ((k.val : Int) - 1)).showable = true ∧ (PyData.int ((k.val : Int) - 1)).leavesShort 13 = true := by decide +kernel
  have := key ⟨(x + 1).toNat, by omega⟩
  have e : (((x + 1).toNat : Nat) : Int) - 1 = x := by omega
  simp only at this
  rw [e] at this
  exact ⟨this.1, rfl, by show 0 ≤ 1; omega, this.2, Nat.zero_le _⟩
theorem lf_non : LfOk 1 1 .none := ⟨rfl, rfl, Nat.zero_le _, rfl, Nat.zero_le _⟩
theorem lf_bool (b : Bool) : LfOk 1 1 (.bool b) := ⟨rfl, rfl, Nat.zero_le _, rfl, Nat.zero_le _⟩
theorem lf_zero : LfOk 1 1 (.str "0") := ⟨rfl, rfl, Nat.zero_le _, by decide +kernel, by decide +kernel⟩
theorem lf_row {r : List Int} (h : ∀ x ∈ r, -1 ≤ x ∧ x ≤ 300) (hl : r.length ≤ 300) : LfOk 600 2 (.list (r.map PyData.int)) := by
  have := lf_list (b := 1) (k := 1) (ds := r.map PyData.int) fun d hd => by
    obtain ⟨x, hx, rfl⟩ := List.mem_map.mp hd
    exact lf_int (h x hx).1 (h x hx).2
  rw [List.length_map] at this
  exact this.mono (by omega) (Nat.le_refl _)
/-! ### values that stand in for evidence -/
def EntP (K : PySem.W.Frag) (C : Addr) (n : Nat) (H : Hp) (v : V) : Prop := (∃ c, EntB C n H v c) ∧ ∃ d, Dp K H v d ∧ LfOk 900 4 d
def ValP (K : PySem.W.Frag) (C : Addr) (n : Nat) (fs : List PF) (H : Hp) (v : V) : Prop := (∃ c, ValB C n fs H v c) ∧ ∃ d, Dp K H v d ∧ RepOk d
theorem entB_true {C : Addr} {n : Nat} {H : Hp} : ∀ {es : List V} {cs : List Bool}, Paired (EntB C n H) es cs → cs.all id = true → ∃ bs rows, es = bs.map V.ref ∧ LsAt H bs rows ∧ ∀ r ∈ rows, r ≠ [] ∧ Plc n r
  | [], [], _, _ => ⟨[], [], rfl, .nil, fun r h => absurd h List.not_mem_nil⟩
  | v :: es, c :: cs, .cons h t, hc => by
    rw [List.all_cons, Bool.and_eq_true] at hc
    obtain ⟨bs, rows, rfl, h2, h3⟩ := entB_true t hc.2
    have hc1 : c = true := hc.1
    subst hc1
    rcases h with ⟨_, h⟩ | ⟨a, xs, rfl, e1, _, _, e2⟩
    · cases h
    · have h4 : setB n xs = true := e2.symm
      have h5 : xs.all (fun x => inR x 0 ((n : Int) - 1)) = true := by
        unfold setB at h4
        rw [Bool.and_eq_true, Bool.and_eq_true] at h4
        exact h4.2.1
      have ex := all_int h5
      rw [ex] at h4 e1
      exact ⟨a :: bs, xs.map iV9 :: rows, rfl, .cons e1 h2, fun r hr => (List.mem_cons.mp hr).elim (fun e => e ▸ setB_iff.mp h4) fun hr => h3 r hr⟩
theorem valP_list {K : PySem.W.Frag} {C : Addr} {n : Nat} {fs : List PF} {H : Hp} {a : Addr} {es : List V} (ea : H a = some (.lst es)) (hl : es.length ≤ 400) (h : ∀ v ∈ es, EntP K C n H v) : ValP K C n fs H (.ref a) := by
  obtain ⟨cs, hcs⟩ : ∃ cs, Paired (EntB C n H) es cs := by
    clear ea hl
    induction es with
    | nil => exact ⟨[], .nil⟩
    | cons v es ih =>
      obtain ⟨cs, h1⟩ := ih fun x hx => h x (List.mem_cons_of_mem _ hx)
      obtain ⟨⟨c, hc⟩, _⟩ := h v List.mem_cons_self
      exact ⟨c :: cs, .cons hc h1⟩
  obtain ⟨ds, hds, hlf⟩ : ∃ ds, DpAll K H es ds ∧ (∀ d ∈ ds, LfOk 900 4 d) ∧ ds.length = es.length := by
    clear ea hl hcs
    induction es with
    | nil => exact ⟨[], .nil, fun d hd => absurd hd List.not_mem_nil, rfl⟩
    | cons v es ih =>
      obtain ⟨ds, h1, h2, h3⟩ := ih fun x hx => h x (List.mem_cons_of_mem _ hx)
      obtain ⟨_, d, hd, hf⟩ := h v List.mem_cons_self
      exact ⟨d :: ds, .cons hd h1, fun x hx => (List.mem_cons.mp hx).elim (fun e => e ▸ hf) (h2 x), by rw [List.length_cons, h3, List.length_cons]⟩
  refine ⟨?_, .list ds, .lst (SqL.of ea) hds, ((lf_list hlf.1).mono (b' := 400000) (by rw [hlf.2]; omega) (Nat.le_refl _)).rep (by decide) (by decide)⟩
  cases hc : cs.all id with
  | false => exact ⟨false, .inr (.inl ⟨a, es, cs, rfl, ea, by omega, hcs, hc, rfl⟩)⟩
  | true =>
    obtain ⟨bs, rows, rfl, h2, h3⟩ := entB_true hcs hc
    exact ⟨_, .inr (.inr ⟨a, bs, rows, rfl, ea, by rw [List.length_map] at hl; omega, h2, h3, rfl⟩)⟩
theorem valP_tup {K : PySem.W.Frag} {C : Addr} {n : Nat} {fs : List PF} {H : Hp} {a : Addr} {es : List V} (ea : H a = some (.tup es)) (hl : es.length ≤ 400) (h : ∀ v ∈ es, EntP K C n H v) : ValP K C n fs H (.ref a) := by
  obtain ⟨ds, hds, hlf⟩ : ∃ ds, DpAll K H es ds ∧ (∀ d ∈ ds, LfOk 900 4 d) ∧ ds.length = es.length := by
    clear ea hl
    induction es with
    | nil => exact ⟨[], .nil, fun d hd => absurd hd List.not_mem_nil, rfl⟩
    | cons v es ih =>
      obtain ⟨ds, h1, h2, h3⟩ := ih fun x hx => h x (List.mem_cons_of_mem _ hx)
      obtain ⟨_, d, hd, hf⟩ := h v List.mem_cons_self
      exact ⟨d :: ds, .cons hd h1, fun x hx => (List.mem_cons.mp hx).elim (fun e => e ▸ hf) (h2 x), by rw [List.length_cons, h3, List.length_cons]⟩
  exact ⟨⟨false, .inl ⟨.inl ⟨es, ea⟩, rfl⟩⟩, .tuple ds, .tup (SqT.of ea) hds, ((lf_tuple hlf.1).mono (b' := 400000) (by rw [hlf.2]; omega) (Nat.le_refl _)).rep (by decide) (by decide)⟩
/-- a row as an entry -/
theorem entP_row {K : PySem.W.Frag} {C : Addr} {n : Nat} {H : Hp} {b : Addr} {r : List Int} (e : H b = some (.lst (r.map V.int))) (h : ∀ x ∈ r, -1 ≤ x ∧ x ≤ 300) (hl : r.length ≤ 300) : EntP K C n H (.ref b) :=
  ⟨⟨_, .inr ⟨b, _, rfl, e, by rw [List.length_map]; omega, fun x hx => (by obtain ⟨y, _, rfl⟩ := List.mem_map.mp hx; trivial), rfl⟩⟩, _, .lst (SqL.of e) (dpI _), (lf_row h hl).mono (by decide) (by decide)⟩
/-- the odd entries -/
def OffS (X : Addr → Prop) (H H' : Hp) : Prop := ∀ (a : Addr) (u : HO), ¬ X a → H a = some u → H' a = some u
theorem OffS.of {X : Addr → Prop} {p : Addr} {H H' : Hp} (hx : X p) (o : Off p H H') : OffS X H H' := fun a u n e => o a u (fun z => n (z ▸ hx)) e
theorem OffS.sm {X : Addr → Prop} {H H' : Hp} (s : Same H H') : OffS X H H' := fun a u _ e => s a u e
def OddF (X : Addr → Prop) (H : Hp) (v : V) : Prop := v = .non ∨ (∃ q : Addr, ¬ X q ∧ v = .ref q ∧ H q = some (.tup [.int 0])) ∨ (∃ (q : Addr) (r : List Int), ¬ X q ∧ v = .ref q ∧ H q = some (.lst (r.map V.int)) ∧ (∀ x ∈ r, -1 ≤ x ∧ x ≤ 300) ∧ r.length ≤ 300) ∨
  (∃ q : Addr, ¬ X q ∧ v = .ref q ∧ (H q = some (.lst [.bl true]) ∨ H q = some (.lst [.str "0"]))) ∨ ∃ (q q2 : Addr), ¬ X q ∧ ¬ X q2 ∧ v = .ref q ∧ H q = some (.lst [.ref q2]) ∧ H q2 = some (.lst [.int 0])
theorem OddF.off {X : Addr → Prop} {H H' : Hp} {v : V} (h : OddF X H v) (o : OffS X H H') : OddF X H' v := by
  rcases h with h | ⟨q, n1, e, h⟩ | ⟨q, r, n1, e, h, h2⟩ | ⟨q, n1, e, h⟩ | ⟨q, q2, n1, n2, e, h, h2⟩
  · exact .inl h
  · exact .inr (.inl ⟨q, n1, e, o _ _ n1 h⟩)
  · exact .inr (.inr (.inl ⟨q, r, n1, e, o _ _ n1 h, h2⟩))
  · exact .inr (.inr (.inr (.inl ⟨q, n1, e, h.imp (o _ _ n1) (o _ _ n1)⟩)))
  · exact .inr (.inr (.inr (.inr ⟨q, q2, n1, n2, e, o _ _ n1 h, o _ _ n2 h2⟩)))
theorem OddF.ent {K : PySem.W.Frag} {X : Addr → Prop} {C : Addr} {n : Nat} {H : Hp} {v : V} (h : OddF X H v) : EntP K C n H v := by
  rcases h with rfl | ⟨q, n1, rfl, h⟩ | ⟨q, r, n1, rfl, h, h2, h3⟩ | ⟨q, n1, rfl, h⟩ | ⟨q, q2, n1, n2, rfl, h, h2⟩
  · exact ⟨⟨false, .inl ⟨trivial, rfl⟩⟩, .none, .non, lf_non.mono (by decide) (by decide)⟩
  · refine ⟨⟨false, .inl ⟨.inl ⟨_, h⟩, rfl⟩⟩, .tuple [.int 0], .tup (SqT.of h) (.cons (.int 0) .nil), (lf_tuple (b := 1) (k := 1) fun d hd => ?_).mono (by decide) (by decide)⟩
    rw [List.mem_singleton.mp hd]
    exact lf_int (by decide) (by decide)
  · exact entP_row h h2 h3
  · rcases h with h | h
    · refine ⟨⟨_, .inr ⟨q, _, rfl, h, by show 1 ≤ 1000; decide, fun x hx => (by rw [List.mem_singleton.mp hx]; trivial), rfl⟩⟩, .list [.bool true], .lst (SqL.of h) (.cons (.bl true) .nil), (lf_list (b := 1) (k := 1) fun d hd => ?_).mono (by decide) (by decide)⟩
      rw [List.mem_singleton.mp hd]
      exact lf_bool true
    · refine ⟨⟨_, .inr ⟨q, _, rfl, h, by show 1 ≤ 1000; decide, fun x hx => (by rw [List.mem_singleton.mp hx]; trivial), rfl⟩⟩, .list [.str "0"], .lst (SqL.of h) (.cons (.str "0") .nil), (lf_list (b := 1) (k := 1) fun d hd => ?_).mono (by decide) (by decide)⟩
      rw [List.mem_singleton.mp hd]
      exact lf_zero
  · refine ⟨⟨_, .inr ⟨q, _, rfl, h, by show 1 ≤ 1000; decide, fun x hx => (by rw [List.mem_singleton.mp hx]; exact .inl ⟨_, h2⟩), rfl⟩⟩, .list [.list [.int 0]], .lst (SqL.of h) (.cons (.lst (SqL.of h2) (.cons (.int 0) .nil)) .nil), (lf_list (b := 2) (k := 2) fun d hd => ?_).mono (by decide) (by decide)⟩
    rw [List.mem_singleton.mp hd]
    refine (lf_list (b := 1) (k := 1) fun d hd => ?_).mono (by decide) (by decide)
    rw [List.mem_singleton.mp hd]
    exact lf_int (by decide) (by decide)
theorem OddF.same {X : Addr → Prop} {H H' : Hp} {v : V} (h : OddF X H v) (s : Same H H') : OddF X H' v := h.off (.sm s)
/-- a changed value: a list or a tuple of odd entries -/
def RowF (X : Addr → Prop) (H : Hp) (v : V) : Prop := ∃ (q : Addr) (es : List V), ¬ X q ∧ v = .ref q ∧ (H q = some (.lst es) ∨ H q = some (.tup es)) ∧ es.length ≤ 400 ∧ ∀ e ∈ es, OddF X H e
theorem RowF.off {X : Addr → Prop} {H H' : Hp} {v : V} (h : RowF X H v) (o : OffS X H H') : RowF X H' v := by
  obtain ⟨q, es, n1, e, h1, h2, h3⟩ := h
  exact ⟨q, es, n1, e, h1.imp (o _ _ n1) (o _ _ n1), h2, fun x hx => (h3 x hx).off o⟩
theorem RowF.val {K : PySem.W.Frag} {X : Addr → Prop} {C : Addr} {n : Nat} {fs : List PF} {H : Hp} {v : V} (h : RowF X H v) : ValP K C n fs H v := by
  obtain ⟨q, es, n1, rfl, h1 | h1, h2, h3⟩ := h
  · exact valP_list h1 h2 fun x hx => (h3 x hx).ent
  · exact valP_tup h1 h2 fun x hx => (h3 x hx).ent
theorem OddF.sub {X Y : Addr → Prop} {H : Hp} {v : V} (h : OddF X H v) (i : ∀ a, Y a → X a) : OddF Y H v := by
  rcases h with h | ⟨q, n1, e⟩ | ⟨q, r, n1, e⟩ | ⟨q, n1, e⟩ | ⟨q, q2, n1, n2, e⟩
  · exact .inl h
  · exact .inr (.inl ⟨q, fun z => n1 (i _ z), e⟩)
  · exact .inr (.inr (.inl ⟨q, r, fun z => n1 (i _ z), e⟩))
  · exact .inr (.inr (.inr (.inl ⟨q, fun z => n1 (i _ z), e⟩)))
  · exact .inr (.inr (.inr (.inr ⟨q, q2, fun z => n1 (i _ z), fun z => n2 (i _ z), e⟩)))
theorem RowF.sub {X Y : Addr → Prop} {H : Hp} {v : V} (h : RowF X H v) (i : ∀ a, Y a → X a) : RowF Y H v := by
  obtain ⟨q, es, n1, e, h1, h2, h3⟩ := h
  exact ⟨q, es, fun z => n1 (i _ z), e, h1, h2, fun x hx => (h3 x hx).sub i⟩
/-- known places -/
def Kn (X : Addr → Prop) (H : Hp) : Prop := ∀ a, X a → H a ≠ none
theorem Kn.mv {X : Addr → Prop} {H H' : Hp} (k : Kn X H) (s : Same H H') : Kn X H' := fun a h z => by
  cases e : H a with
  | none => exact k a h e
  | some u => rw [s _ _ e] at z; cases z
theorem Kn.off {X : Addr → Prop} {p : Addr} {H H' : Hp} (k : Kn X H) (o : Off p H H') (hp : PoolAt H' p) : Kn X H' := fun a h z => by
  by_cases hap : a = p
  · obtain ⟨x, y, e, _⟩ := hp
    rw [hap, e] at z; cases z
  · cases e : H a with
    | none => exact k a h e
    | some u => rw [o _ _ hap e] at z; cases z
/-! ### argument lists by a law for each value -/
def EvP (F : Hp → V → Prop) (te : TE) (σ : L2.St) (H : Hp) : Prop := ∀ H1, Same H H1 → ∀ Q : VK, (∀ v H2, Same H1 H2 → F H2 v → Q v H2) → te σ H1 Q
def EvQ (F : Hp → V → Prop) (ta : TA) (k : Nat) (σ : L2.St) (H : Hp) : Prop := ∀ H1, Same H H1 → ∀ Q : List V → Hp → Prop, (∀ vs H2, Same H1 H2 → vs.length = k → (∀ v ∈ vs, F H2 v) → Q vs H2) → ta σ H1 Q
theorem evq_nil {F : Hp → V → Prop} {σ : L2.St} {H : Hp} : EvQ F tNil 0 σ H := fun H1 _ Q q => q [] H1 (Same.refl _) rfl (fun v h => absurd h List.not_mem_nil)
theorem evq_cons {F : Hp → V → Prop} (mono : ∀ {H H' : Hp} {v : V}, Same H H' → F H v → F H' v) {te : TE} {ta : TA} {k : Nat} {σ : L2.St} {H : Hp} (h : EvP F te σ H) (t : EvQ F ta k σ H) : EvQ F (tCons te ta) (k + 1) σ H := fun H1 s Q q =>
  h H1 s _ fun v H2 s2 hv => t H2 (s.trans s2) _ fun vs H3 s3 hl hvs => q (v :: vs) H3 (s2.trans s3) (by rw [List.length_cons, hl]) fun x hx => (List.mem_cons.mp hx).elim (fun e => e ▸ mono s3 hv) (hvs x)
/-- xs[draw(pool, k)] -/
theorem ix_pick {K : PySem.W.Frag} {F : Hp → V → Prop} {p l : Addr} (off : ∀ {H H' : Hp} {v : V}, Off p H H' → F H v → F H' v) {te : TE} {vs : List V} {k i : Nat} {σ : L2.St} {H : Hp} {Q : VK} (hte : ∀ R : VK, R (.ref l) H → te σ H R) (el : H l = some (.lst vs)) (nl : l ≠ p) (hl : vs.length = k) (hv : ∀ v ∈ vs, F H v) (hp : PoolAt H p) (hi : σ[i]? = some (some (.ref p))) (k0 : 0 < k) (k1 : k ≤ 1000)
    (q : ∀ v H', F H' v → PoolAt H' p → Off p H H' → Q v H') : tOp (rIxL K) te (tCallR spDraw E0 (tCons (tVar i) (tCons (tC (.int (k : Int))) tNil))) σ H Q := by
  refine hte _ (draw_R hi (fun R r => r) hp (by omega) (by omega) fun r H' r0 r1 pl of => ?_)
  obtain ⟨v, hv1, hv2⟩ := at_nat (xs := vs) r0 (by omega)
  exact ⟨l, vs, r, v, rfl, rfl, SqL.of (of _ _ nl el), hv1, q v H' (off of (hv v hv2)) pl of⟩
/-- [..], then on -/
theorem ev_disp {F : Hp → V → Prop} {p : Addr} (mono : ∀ {H H' : Hp} {v : V}, Same H H' → F H v → F H' v) {ta : TA} {k : Nat} {σ : L2.St} {H : Hp} {Q : VK} (ht : EvQ F ta k σ H) (hp : PoolAt H p) (k1 : k ≤ 1000)
    (q : ∀ l vs H', Same H H' → H' l = some (.lst vs) → l ≠ p → vs.length = k → (∀ v ∈ vs, F H' v) → Q (.ref l) H') : tLst ta σ H Q := by
  refine ht H (Same.refl _) _ fun vs H1 s1 hl hv => ⟨Nat.le_of_lt (lt_line' (by omega)), fun l nl => ?_⟩
  have nlp : l ≠ p := fun z => by
    obtain ⟨a, b, e, _⟩ := hp
    rw [z, s1 _ _ e] at nl; cases nl
  have s2 : Same H1 (upd H1 l (.lst vs)) := Same.new nl
  exact q l vs _ (s1.trans s2) upd_same nlp hl fun v h => mono s2 (hv v h)
/-- [..][draw(pool, k)] -/
theorem ev_pick {K : PySem.W.Frag} {F : Hp → V → Prop} {p : Addr} (off : ∀ {H H' : Hp} {v : V}, Off p H H' → F H v → F H' v) {ta : TA} {k i : Nat} {σ : L2.St} {H : Hp} {Q : VK} (ht : EvQ F ta k σ H) (hp : PoolAt H p) (hi : σ[i]? = some (some (.ref p))) (k0 : 0 < k) (k1 : k ≤ 1000)
    (q : ∀ v H', F H' v → PoolAt H' p → Off p H H' → Q v H') : tOp (rIxL K) (tLst ta) (tCallR spDraw E0 (tCons (tVar i) (tCons (tC (.int (k : Int))) tNil))) σ H Q := by
  refine ev_disp (F := F) (p := p) (fun s h => off (off_same s) h) ht hp k1 fun l vs H' s el nl hl hv => ?_
  have hp2 : PoolAt H' p := by
    obtain ⟨a, b, e, r⟩ := hp
    exact ⟨a, b, s _ _ e, r⟩
  exact ix_pick (F := F) (te := fun _ H R => R (.ref l) H) off (fun R r => r) el nl hl hv hp2 hi k0 k1 fun v H2 h1 h2 h3 => q v H2 h1 h2 ((off_same s).tr h3)
theorem cut_mem {xs : List V} {lo hi : Option Int} {x : V} (h : x ∈ cutV xs lo hi) : x ∈ xs := List.mem_of_mem_drop (List.mem_of_mem_take h)
/-- [list(x) for x in xs] -/
theorem lc_copy {K Kc : PySem.W.Frag} {X : Addr → Prop} {te : TE} {i : Nat} {vs : List Nat} {σ : L2.St} {H : Hp} {Q : VK} {bs : List Addr} {rows : List (List Int)} {a : Addr} (hp : Kn X H) (hte : ∀ R : VK, R (.ref a) H → te σ H R) (ha : H a = some (.lst (bs.map V.ref))) (hr : LsAt H bs rows)
    (hw : ∀ a, wipe ((wipe σ vs).set i a) vs = wipe σ vs) (hi : ∀ v, ((wipe σ vs).set i (some v))[i]? = some (some v)) (hz : bs.length ≤ 10000) (hb : ∀ r ∈ rows, (∀ x ∈ r, -1 ≤ x ∧ x ≤ 300) ∧ r.length ≤ 300)
    (hq : ∀ D es H', ¬ X D → H' D = some (.lst es) → es.length = bs.length → (∀ e ∈ es, OddF X H' e) → Same H H' → Q (.ref D) H') : tLc (iList K te) (gName i) tYes (tCB (rLstOf Kc) (tCons (tVar i) tNil)) vs σ H Q := by
  refine hte _ ⟨a, rfl, ⟨_, SqL.of ha⟩, fun D hD => ?_⟩
  have np : ∀ {H1 : Hp} {q : Addr}, Same H H1 → H1 q = none → ¬ X q := fun s n z => hp.mv s _ z n
  have hl := paired_len hr
  refine lc_it (walk_list (xs := bs.map V.ref)) (fun k H' => Same H H' ∧ ∃ cs : List Addr, cs.length = k ∧ H' D = some (.lst (cs.map V.ref)) ∧ ∀ c ∈ cs, (c ≠ D ∧ ¬ X c) ∧ ∃ r : List Int, H' c = some (.lst (r.map V.int)) ∧ (∀ x ∈ r, -1 ≤ x ∧ x ≤ 300) ∧ r.length ≤ 300) ⟨Same.new hD, [], rfl, upd_same, fun c h => absurd h List.not_mem_nil⟩ (fun k H' _ p => SqL.of (p.1 _ _ ha)) ?_ ?_
  · rintro k v H' H'' hk ⟨s1, cs, l1, e1, o1⟩ ⟨rfl, ev⟩
    rw [List.length_map] at hk
    obtain ⟨b, eb, rfl⟩ : ∃ b, bs[k]? = some b ∧ V.ref b = v := by
      rw [List.getElem?_map] at ev
      cases hb : bs[k]? with
      | none => rw [hb] at ev; cases ev
      | some b => rw [hb] at ev; exact ⟨b, rfl, Option.some.inj ev⟩
    obtain ⟨r, er, hbr⟩ := paired_at hr eb
    obtain ⟨x1, x2⟩ := hb r (List.mem_of_getElem? er)
    refine ⟨hw _, yes_ ⟨_, hi _, b, r.map V.int, rfl, .inl (SqL.of (s1 _ _ hbr)), fun l nl => ?_⟩⟩
    have nlD : l ≠ D := fun z => by rw [z, e1] at nl; cases nl
    have s2 : Same H'' (upd H'' l (.lst (r.map V.int))) := Same.new nl
    refine ⟨_, s2 _ _ e1, by rw [List.length_map]; exact lt_line' (by omega), Same.put (s1.trans s2) hD, cs ++ [l], by rw [List.length_append, l1]; rfl, by rw [upd_same, List.map_append]; rfl, ?_⟩
    intro c hc
    rcases List.mem_append.mp hc with h | h
    · obtain ⟨h1, r', h2, h3⟩ := o1 c h
      exact ⟨h1, r', by rw [upd_ne h1.1]; exact s2 _ _ h2, h3⟩
    · rw [List.mem_singleton.mp h]
      exact ⟨⟨nlD, np s1 nl⟩, r, by rw [upd_ne nlD]; exact upd_same, x1, x2⟩
  · rintro H' ⟨s1, cs, l1, e1, o1⟩
    rw [List.length_map] at l1
    refine hq D _ H' (np (Same.refl _) hD) e1 (by rw [List.length_map, l1]) (fun e he => ?_) s1
    obtain ⟨c, hc, rfl⟩ := List.mem_map.mp he
    obtain ⟨h1, r, h2, h3⟩ := o1 c hc
    exact .inr (.inr (.inl ⟨c, r, h1.2, rfl, h2, h3⟩))
/-! ### the elements -/
theorem Kn.fresh {X : Addr → Prop} {q : Addr} {H : Hp} (hp : Kn X H) (n : H q = none) : ¬ X q := fun z => hp _ z n
theorem fresh_p {p q : Addr} {H : Hp} (hp : PoolAt H p) (n : H q = none) : q ≠ p := fun z => by
  obtain ⟨a, b, e, _⟩ := hp
  rw [z, e] at n; cases n
theorem PoolAt.mv {p : Addr} {H H' : Hp} (hp : PoolAt H p) (s : Same H H') : PoolAt H' p := by
  obtain ⟨a, b, e, r⟩ := hp
  exact ⟨a, b, s _ _ e, r⟩
theorem odd_row {X : Addr → Prop} {te : TE} {σ : L2.St} {H : Hp} {r : List Int} (hp : Kn X H) (hr : (∀ x ∈ r, -1 ≤ x ∧ x ≤ 300) ∧ r.length ≤ 300) (h : ∀ H1, ∀ Q : VK, (∀ q, H1 q = none → Q (.ref q) (upd H1 q (.lst (r.map V.int)))) → te σ H1 Q) : EvP (OddF X) te σ H := fun H1 s Q q =>
  h H1 Q fun l nl => q _ _ (Same.new nl) (.inr (.inr (.inl ⟨l, r, (hp.mv s).fresh nl, rfl, upd_same, hr⟩)))
/-- a list of odd entries -/
def LEv (X : Addr → Prop) (N : Nat) (te : TE) (σ : L2.St) (H : Hp) : Prop := ∀ H1, Same H H1 → ∀ Q : VK, (∀ q xs H2, Same H1 H2 → H2 q = some (.lst xs) → ¬ X q → xs.length ≤ N → (∀ e ∈ xs, OddF X H2 e) → Q (.ref q) H2) → te σ H1 Q
theorem LEv.row {X : Addr → Prop} {N : Nat} {te : TE} {σ : L2.St} {H : Hp} (h : LEv X N te σ H) (hN : N ≤ 400) : EvP (RowF X) te σ H := fun H1 s Q q => h H1 s Q fun l xs H2 s2 e n hl ho => q _ _ s2 ⟨l, xs, n, rfl, .inl e, by omega, ho⟩
theorem lev_var {X : Addr → Prop} {D : Addr} {N i : Nat} {σ : L2.St} {H : Hp} {es : List V} (hi : σ[i]? = some (some (.ref D))) (e : H D = some (.lst es)) (n : ¬ X D) (hl : es.length ≤ N) (ho : ∀ x ∈ es, OddF X H x) : LEv X N (tVar i) σ H := fun H1 s Q q =>
  ⟨_, hi, q _ _ _ (Same.refl _) (s _ _ e) n hl fun x hx => (ho x hx).same s⟩
theorem lev_new {X : Addr → Prop} {l : Addr} {H H1 H2 : Hp} {N : Nat} {xs : List V} {Q : VK} (hp : Kn X H) (s : Same H H1) (s2 : Same H1 H2) (nl : H2 l = none) (hl : xs.length ≤ N) (ho : ∀ e ∈ xs, OddF X H2 e)
    (q : ∀ q xs H2, Same H1 H2 → H2 q = some (.lst xs) → ¬ X q → xs.length ≤ N → (∀ e ∈ xs, OddF X H2 e) → Q (.ref q) H2) : Q (.ref l) (upd H2 l (.lst xs)) :=
  q _ _ _ (s2.trans (Same.new nl)) upd_same ((hp.mv (s.trans s2)).fresh nl) hl fun e he => (ho e he).same (Same.new nl)
theorem lev_cat {X : Addr → Prop} {N M : Nat} {ta tb : TE} {σ : L2.St} {H : Hp} (hp : Kn X H) (ha : LEv X N ta σ H) (hb : LEv X M tb σ H) (hz : N + M ≤ 10000) : LEv X (N + M) (tOp rCat ta tb) σ H := fun H1 s Q q =>
  ha H1 s _ fun a xs H2 s2 ea na la oa => hb H2 (s.trans s2) _ fun b ys H3 s3 eb nb lb ob =>
    ⟨a, b, xs, ys, rfl, rfl, s3 _ _ ea, eb, Nat.le_of_lt (lt_line' (by omega)), fun l nl => lev_new hp s (s2.trans s3) nl (by rw [List.length_append]; omega) (fun e he => (List.mem_append.mp he).elim (fun h => (oa e h).same s3) (ob e)) q⟩
theorem lev_sl {K : PySem.W.Frag} {X : Addr → Prop} {N : Nat} {te : TE} {tl th : TO} {σ : L2.St} {H : Hp} (hp : Kn X H) (h : LEv X N te σ H) (hl : ∀ H1 R, (∀ o, R o H1) → tl σ H1 R) (hh : ∀ H1 R, (∀ o, R o H1) → th σ H1 R) : LEv X N (tSl (rSlL K) te tl th) σ H := fun H1 s Q q =>
  h H1 s _ fun a xs H2 s2 ea na la oa => hl _ _ fun o => hh _ _ fun o2 => ⟨a, xs, rfl, SqL.of ea, fun l nl => lev_new hp s s2 nl (Nat.le_trans (cutV_length _ _ _) la) (fun e he => oa e (cut_mem he)) q⟩
theorem lev_rev {K : PySem.W.Frag} {X : Addr → Prop} {N : Nat} {te : TE} {σ : L2.St} {H : Hp} (hp : Kn X H) (h : LEv X N te σ H) : LEv X N (tRevL K te) σ H := fun H1 s Q q =>
  h H1 s _ fun a xs H2 s2 ea na la oa => ⟨a, xs, rfl, SqL.of ea, fun l nl => lev_new hp s s2 nl (by rw [List.length_reverse]; exact la) (fun e he => oa e (List.mem_reverse.mp he)) q⟩
section
variable {P : Program} {w : World} {K : PySem.W.Frag} {mg : Str → Option Value} {base : Heap}
def spBent : Sp := fun vs H Q _ => ∃ (p b : Addr) (n : Nat) (bs : List Addr) (rows : List (List Int)), vs = [.ref p, .ref b, .int (n : Int)] ∧ PoolAt H p ∧ H b = some (.lst (bs.map V.ref)) ∧ LsAt H bs rows ∧ (∀ r ∈ rows, Plc n r) ∧ 1 ≤ rows.length ∧ rows.length ≤ 150 ∧ n ≤ 300 ∧ ∀ v H', RowF (fun a => H a ≠ none) H' v → PoolAt H' p → Off p H H' → Q v H'
theorem ok_l_bent (T : Txt K mg) : FnR P w K mg base CX0 4 T.f_l_bent spBent := by
  refine T.A_l_bent.ok sc_l_bent (fun vs H Q E h => ?_) (fun cdv A outer s H vs Q E hr h => ?_)
  · obtain ⟨p, b, n, bs, rows, rfl, _⟩ := h
    rfl
  · obtain ⟨p, b, n, bs, rows, rfl, hp, eb, hbs, hrows, l0, l1, n3, q⟩ := h
    have hu := hu_of hr
    have hlen := paired_len hbs
    refine ⟨_, (pss_cons (ps_setLc (i := 3) (own := [("_law_places", 7)]) (g := (gName 7)) (tt := tYes) rfl sc_l_bent.nd rfl rfl (sw_true rfl rfl rfl (by decide +kernel)) (pi_list (pv 1)) (blkOk_by (own := [("_law_places", 7)]) (N := n_l_bent) (sc := defScope s_l_bent) (by decide +kernel)) (fun _ _ _ _ _ => (pg_name (i := 7) sc_l_bent.nd rfl (Or.inl rfl))) (fun _ _ _ _ _ => pts_nil) (fun _ _ _ _ _ => (pe_callTy (call_list_ofK (K0 := K) rfl) (by rfl) T.n_list (by decide +kernel) (pa_cons (pv 7) pa_nil))))
      (pss_cons (ps_set (i := 4) sc_l_bent.nd rfl (Or.inl rfl) (pe_callR (ok_draw T) (hr.mono (by decide)) T.A_l_draw.kp rfl T.g_l_draw pass0 (pa_cons (pv 0) (pa_cons (pe_callB call_len_seq (by rfl) T.n_len (by decide +kernel) (pa_cons (pv 3) pa_nil)) pa_nil))))
      (pss_cons (ps_set (i := 5) sc_l_bent.nd rfl (Or.inl rfl) (pe_ix ix_list (pe_lst (pa_cons pe_non (pa_cons (pe_tup (pa_cons pe_int pa_nil)) (pa_cons (pe_lst pa_nil) (pa_cons (pe_lst (pa_cons (pv 2) pa_nil)) (pa_cons (pe_lst (pa_cons pe_int (pa_cons pe_int pa_nil))) (pa_cons (pe_lst (pa_cons pe_bl pa_nil)) (pa_cons (pe_lst (pa_cons pe_str pa_nil)) (pa_cons (pe_lst (pa_cons (pe_un un_neg pe_int) pa_nil)) (pa_cons (pe_revL (pe_listRg rfl rfl T.n_list (prg_1 rfl T.n_range (pv 2)))) (pa_cons (pe_lst (pa_cons (pe_lst (pa_cons pe_int pa_nil)) pa_nil)) pa_nil))))))))))) (pe_callR (ok_draw T) (hr.mono (by decide)) T.A_l_draw.kp rfl T.g_l_draw pass0 (pa_cons (pv 0) (pa_cons pe_int pa_nil))) (fun _ _ => rfl)))
      (pss_cons (ps_set (i := 6) sc_l_bent.nd rfl (Or.inl rfl) (pe_lst (pa_cons (pe_op op_cat (pe_slice sl_list (pv 3) po_none (po_some (pv 4))) (pe_slice sl_list (pv 3) (po_some (pe_op op_add (pv 4) pe_int)) po_none)) (pa_cons (pe_op op_cat (pv 3) (pe_lst (pa_cons (pv 5) pa_nil))) (pa_cons (pe_revL (pv 3)) (pa_cons (pe_op op_cat (pv 3) (pv 3)) (pa_cons (pe_callTy call_tuple_of (by rfl) T.n_tuple (by decide +kernel) (pa_cons (pv 3) pa_nil)) (pa_cons (pe_op op_cat (pv 3) (pe_lst (pa_cons (pe_lst (pa_cons pe_int pa_nil)) pa_nil))) (pa_cons (pe_slice sl_list (pv 3) (po_some pe_int) po_none) pa_nil)))))))))
      (pss_one (ps_ret (pe_ix ix_list (pv 6) (pe_callR (ok_draw T) (hr.mono (by decide)) T.A_l_draw.kp rfl T.g_l_draw pass0 (pa_cons (pv 0) (pa_cons pe_int pa_nil))) (fun _ _ => rfl)))))))), ?_⟩
    dsimp only [gName, tSeq, tAsg, tRet]
    generalize hX : (fun a => H a ≠ none) = X at q
    have kn0 : Kn X H := fun a h => (by rw [← hX] at h; exact h)
    have hXp : X p := by
      rw [← hX]
      obtain ⟨x, y, e, _⟩ := hp
      exact fun z => (by rw [e] at z; cases z)
    refine lc_copy kn0 (fun R r => ⟨_, rfl, r⟩) eb hbs (fun _ => rfl) (fun _ => rfl) (by omega) (fun r hr => ⟨fun x hx => (by have := (hrows r hr).rng x hx; omega), Nat.le_trans (hrows r hr).len n3⟩) (fun D es H1 nD eD le oD s1 => ?_)
    refine draw_R (p := p) rfl (fun R r => ⟨_, rfl, D, es, rfl, .inl (SqL.of eD), r⟩) (hp.mv s1) (by omega) (by omega) fun r H2 r0 r1 hp2 o2 => ?_
    have nDp : D ≠ p := fun z => nD (z ▸ hXp)
    have kn2 := (kn0.mv s1).off o2 hp2
    have eD2 := o2 _ _ nDp eD
    have oD2 : ∀ e ∈ es, OddF X H2 e := fun e he => (oD e he).off (.of hXp o2)
    refine ev_pick (K := K) (F := OddF X) (p := p) (k := 10) (fun o h => h.off (.of hXp o)) (evq_cons (fun s h => h.same s) ?_ <| evq_cons (fun s h => h.same s) ?_ <| evq_cons (fun s h => h.same s) ?_ <| evq_cons (fun s h => h.same s) ?_ <| evq_cons (fun s h => h.same s) ?_ <| evq_cons (fun s h => h.same s) ?_ <| evq_cons (fun s h => h.same s) ?_ <| evq_cons (fun s h => h.same s) ?_ <| evq_cons (fun s h => h.same s) ?_ <| evq_cons (fun s h => h.same s) ?_ evq_nil) hp2 (by exact rfl) (by decide) (by decide) ?_
    · exact fun H3 s Q q => q _ _ (Same.refl _) (.inl rfl)
    · exact fun H3 s Q q => ⟨one_le, fun l nl => q _ _ (Same.new nl) (.inr (.inl ⟨l, (kn2.mv s).fresh nl, rfl, upd_same⟩))⟩
    · exact odd_row (r := []) kn2 ⟨fun x h => absurd h List.not_mem_nil, by decide⟩ fun H3 Q q => ⟨nil_le, q⟩
    · exact odd_row (r := [(n : Int)]) kn2 ⟨fun x h => (by rw [List.mem_singleton.mp h]; omega), (by show 1 ≤ 300; decide)⟩ fun H3 Q q => ⟨_, rfl, one_le, q⟩
    · exact odd_row (r := [0, 0]) kn2 (by decide) fun H3 Q q => ⟨two_le, q⟩
    · exact fun H3 s Q q => ⟨one_le, fun l nl => q _ _ (Same.new nl) (.inr (.inr (.inr (.inl ⟨l, (kn2.mv s).fresh nl, rfl, .inl upd_same⟩))))⟩
    · exact fun H3 s Q q => ⟨one_le, fun l nl => q _ _ (Same.new nl) (.inr (.inr (.inr (.inl ⟨l, (kn2.mv s).fresh nl, rfl, .inr upd_same⟩))))⟩
    · exact odd_row (r := [-1]) kn2 (by decide) fun H3 Q q => ⟨_, rfl, one_le, q⟩
    · refine fun H3 s Q q => ⟨_, rfl, n, rfl, ⟨by omega, by omega, by omega, by omega⟩, fun l nl => ⟨l, _, rfl, SqL.of upd_same, fun l2 nl2 => ?_⟩⟩
      have s4 : Same H3 (upd H3 l (.lst (rgV 0 n))) := Same.new nl
      refine q _ _ (s4.trans (Same.new nl2)) (.inr (.inr (.inl ⟨l2, (rgI n).reverse, (kn2.mv (s.trans s4)).fresh nl2, rfl, by rw [upd_same, rgV_0, List.map_reverse], fun x hx => ?_, ?_⟩)))
      · have := mem_rgI.mp (List.mem_reverse.mp hx)
        omega
      · rw [List.length_reverse]
        exact Nat.le_trans (plc_full n).len n3
    · refine fun H3 s Q q => ⟨one_le, fun l nl => ⟨one_le, fun l2 nl2 => ?_⟩⟩
      have np := (kn2.mv s).fresh nl
      have s4 : Same H3 (upd H3 l (.lst [.int 0])) := Same.new nl
      have s5 : Same (upd H3 l (.lst [.int 0])) (upd (upd H3 l (.lst [.int 0])) l2 (.lst [.ref l])) := Same.new nl2
      exact q _ _ (s4.trans s5) (.inr (.inr (.inr (.inr ⟨l2, l, (kn2.mv (s.trans s4)).fresh nl2, np, rfl, upd_same, s5 _ _ upd_same⟩))))
    · refine fun v H3 hv hp3 o3 => ?_
      have kn3 := kn2.off o3 hp3
      have eD3 := o3 _ _ nDp eD2
      have oD3 : ∀ e ∈ es, OddF X H3 e := fun e he => (oD2 e he).off (.of hXp o3)
      have le3 : es.length ≤ 150 := by omega
      have hD : LEv X 150 (tVar 3) _ H3 := lev_var (σ := [some (.ref p), some (.ref b), some (.int n), some (.ref D), some (.int r), some v, none, none]) rfl eD3 nD le3 oD3
      refine ev_disp (F := RowF X) (p := p) (k := 7) (fun s h => h.off (.sm s)) (evq_cons (fun s h => h.off (.sm s)) ?_ <| evq_cons (fun s h => h.off (.sm s)) ?_ <| evq_cons (fun s h => h.off (.sm s)) ?_ <| evq_cons (fun s h => h.off (.sm s)) ?_ <| evq_cons (fun s h => h.off (.sm s)) ?_ <| evq_cons (fun s h => h.off (.sm s)) ?_ <| evq_cons (fun s h => h.off (.sm s)) ?_ evq_nil) hp3 (by decide) ?_
      · exact (lev_cat kn3 (lev_sl kn3 hD (fun _ _ k => k _) (fun _ _ k => ⟨_, rfl, _, rfl, k _⟩)) (lev_sl kn3 hD (fun _ _ k => ⟨_, rfl, _, _, rfl, rfl, _, rfl, k _⟩) (fun _ _ k => k _)) (by decide)).row (by decide)
      · refine (lev_cat (M := 1) kn3 hD (fun H4 s Q q => ⟨_, rfl, one_le, fun l nl => ?_⟩) (by decide)).row (by decide)
        exact lev_new kn3 s (Same.refl _) nl (Nat.le_refl _) (fun e he => by rw [List.mem_singleton.mp he]; exact hv.same s) q
      · exact (lev_rev kn3 hD).row (by decide)
      · exact (lev_cat kn3 hD hD (by decide)).row (by decide)
      · refine fun H4 s Q q => ⟨_, rfl, D, es, rfl, .inl ⟨SqL.of (s _ _ eD3), fun l nl => ?_⟩⟩
        have s5 : Same H4 (upd H4 l (.tup es)) := Same.new nl
        exact q _ _ s5 ⟨l, es, (kn3.mv s).fresh nl, rfl, .inr upd_same, by omega, fun e he => (oD3 e he).same (s.trans s5)⟩
      · refine (lev_cat (M := 1) kn3 hD (fun H4 s Q q => ⟨one_le, fun l nl => ⟨one_le, fun l2 nl2 => ?_⟩⟩) (by decide)).row (by decide)
        have s5 : Same H4 (upd H4 l (.lst [.int 0])) := Same.new nl
        refine lev_new kn3 s s5 nl2 (Nat.le_refl _) (fun e he => ?_) q
        rw [List.mem_singleton.mp he]
        exact .inr (.inr (.inl ⟨l, [0], (kn3.mv s).fresh nl, rfl, upd_same, by decide⟩))
      · exact (lev_sl kn3 hD (fun _ _ k => ⟨_, rfl, k _⟩) (fun _ _ k => k _)).row (by decide)
      · exact fun l vs H4 s4 el nl hl hv4 => ix_pick (F := RowF X) (k := 7) (fun o h => h.off (.of hXp o)) (fun R r => ⟨_, rfl, r⟩) el nl hl hv4 (hp3.mv s4) rfl (by decide) (by decide) fun v' H5 hv' hp5 o5 => q v' H5 hv' hp5 (((((off_same s1).tr o2).tr o3).tr (off_same s4)).tr o5)
end
end My
/-! sorted(xs), texts, any number of them -/
namespace U
open PySem PySem.Spec PyProof.Rows L2
def rSortedT (K : PySem.W.Frag) : List V → Hp → VK → Prop := fun vs H Q => ∃ (a : Addr) (xs : List Str), vs = [V.ref a] ∧ SqL K H a (xs.map V.str) ∧
  ∀ (ys : List Str) (p : Addr), ys.Perm xs → sortedS ys = true → H p = none → Q (.ref p) (upd H p (.lst (ys.map V.str)))
theorem cr_sortedT {X : Cx} {K0 : PySem.W.Frag} (h : X.K = K0) : CallR X (.builtin "sorted") (rSortedT K0) := by
  subst h
  intro pins s σ H vs us Q I r h
  obtain ⟨a, xs, rfl, hs, q⟩ := h
  obtain ⟨its, rv, hl, hz⟩ := I.list hs
  rw [Vals.ref1 r]
  have hlen0 := rv.length
  refine PyProof.Rows.sorted_strsAny hl.isList rv.strs (by rw [← hlen0]; exact hz) fun out ys h1 h2 h3 => ?_
  obtain ⟨ep, he'⟩ := PyProof.Rows.sortedAll_at s.heap its out
  have hlen : (ys.map V.str).length ≤ sizeLine := by
    rw [List.length_map, h2.length_eq]
    rw [List.length_map] at hz
    exact hz
  exact ⟨.ref _, upd H (s.heap.objs.size + 1) (.lst (ys.map V.str)), I.laid (t' := s.toks) (fun _ _ => PyProof.Rows.sortedAll_old) (Nat.le_succ _) ⟨hlen, out.toList, ep, vals_of_strs h1, he'⟩, rfl, q ys _ h2 h3 (I.hok.fresh (Nat.le_succ _))⟩
theorem ltc_anti : ∀ {a b : List Nat}, ltCps a b = false → ltCps b a = false → a = b
  | [], [], _, _ => rfl
  | [], _ :: _, h, _ => by cases h
  | _ :: _, [], _, h => by cases h
  | x :: a, y :: b, h1, h2 => by
    simp only [ltCps, Bool.or_eq_false_iff, Bool.and_eq_false_iff, decide_eq_false_iff_not] at h1 h2
    have e : x = y := by omega
    subst e
    have e1 : ltCps a b = false := by simpa using h1.2
    have e2 : ltCps b a = false := by simpa using h2.2
    rw [ltc_anti e1 e2]
theorem ltc_trans : ∀ {a b c : List Nat}, ltCps b a = false → ltCps c b = false → ltCps c a = false
  | [], _, [], _, _ => rfl
  | [], _, _ :: _, _, _ => rfl
  | x :: a, [], _, h, _ => by cases h
  | x :: a, y :: b, [], _, h => by cases h
  | x :: a, y :: b, z :: c, h1, h2 => by
    simp only [ltCps, Bool.or_eq_false_iff, Bool.and_eq_false_iff, decide_eq_false_iff_not] at h1 h2 ⊢
    refine ⟨by omega, ?_⟩
    by_cases e : z = x
    · have e1 : y = x := by omega
      subst e1; subst e
      exact .inr (ltc_trans (by simpa using h1.2) (by simpa using h2.2))
    · exact .inl (by simpa using e)
theorem sortedS_pw : ∀ {ys : List Str}, sortedS ys = true → ys.Pairwise fun x y => ltCps y.cps.toList x.cps.toList = false
  | [], _ => .nil
  | [x], _ => List.pairwise_singleton _ _
  | x :: y :: r, h => by
    have h' : (!ltCps y.cps.toList x.cps.toList && risingS y r) = true := h
    rw [Bool.and_eq_true, Bool.not_eq_true'] at h'
    have ih := sortedS_pw (ys := y :: r) h'.2
    refine List.pairwise_cons.mpr ⟨fun z hz => ?_, ih⟩
    rcases List.mem_cons.mp hz with rfl | hz
    · exact h'.1
    · exact ltc_trans h'.1 ((List.pairwise_cons.mp ih).1 z hz)
theorem str_eq_of {x y : Str} (h : x.cps.toList = y.cps.toList) : x = y := by
  cases x; cases y
  simp only at h
  rw [Array.toList_inj.mp h]
theorem pw_uniq : ∀ {xs ys : List Str}, xs.Perm ys → xs.Pairwise (fun x y => ltCps y.cps.toList x.cps.toList = false) → ys.Pairwise (fun x y => ltCps y.cps.toList x.cps.toList = false) → xs = ys
  | [], ys, h, _, _ => (List.nil_perm.mp h).symm
  | x :: xs, [], h, _, _ => by cases List.perm_nil.mp h
  | x :: xs, y :: ys, h, h1, h2 => by
    have a1 : ltCps y.cps.toList x.cps.toList = false := by
      rcases List.mem_cons.mp (h.symm.subset List.mem_cons_self) with e | e
      · rw [e]
        exact (by
          have irr : ∀ l : List Nat, ltCps l l = false := fun l => by
            induction l with
            | nil => rfl
            | cons z l ih => simp [ltCps, ih]
          exact irr _)
      · exact (List.pairwise_cons.mp h1).1 y e
    have a2 : ltCps x.cps.toList y.cps.toList = false := by
      rcases List.mem_cons.mp (h.subset List.mem_cons_self) with e | e
      · rw [← e] at a1 ⊢
        exact a1
      · exact (List.pairwise_cons.mp h2).1 x e
    have e : x = y := str_eq_of (ltc_anti a2 a1)
    subst e
    rw [pw_uniq ((List.perm_cons _).mp h) (List.pairwise_cons.mp h1).2 (List.pairwise_cons.mp h2).2]
theorem sortedS_uniq {xs ys : List Str} (h : xs.Perm ys) (h1 : sortedS xs = true) (h2 : sortedS ys = true) : xs = ys := pw_uniq h (sortedS_pw h1) (sortedS_pw h2)
end U
namespace My
open PySem L2 U StX PM
theorem op_neD9 {X : Cx} {K0 : PySem.W.Frag} (h : X.K = K0) (hu : X.A.units + 64 < cLine) : OpR X (compareOp .NotEq) (L2.rNeD K0) := by subst h; exact op_neD hu
theorem sqL_sm {K : PySem.W.Frag} {H H' : Hp} {a : Addr} {xs : List V} (h : SqL K H a xs) (s : Same H H') : SqL K H' a xs := by
  rcases h with (h | ⟨o, h⟩) | h
  · exact .inl (.inl (s _ _ h))
  · exact .inl (.inr ⟨o, s _ _ h⟩)
  · exact .inr h
theorem sqT_sm {K : PySem.W.Frag} {H H' : Hp} {a : Addr} {xs : List V} (h : SqT K H a xs) (s : Same H H') : SqT K H' a xs := by
  rcases h with (h | ⟨o, h⟩) | h
  · exact .inl (.inl (s _ _ h))
  · exact .inl (.inr ⟨o, s _ _ h⟩)
  · exact .inr h
mutual
theorem dp_sm {K : PySem.W.Frag} {H H' : Hp} (s : Same H H') : ∀ (d : PyData) (v : V), Dp K H v d → Dp K H' v d
  | _, _, .non => .non
  | _, _, .bl b => .bl b
  | _, _, .int i => .int i
  | _, _, .str x => .str x
  | .list ds, _, .lst (xs := xs) h1 h2 => .lst (sqL_sm h1 s) (dps_sm s ds xs h2)
  | .tuple ds, _, .tup (xs := xs) h1 h2 => .tup (sqT_sm h1 s) (dps_sm s ds xs h2)
theorem dps_sm {K : PySem.W.Frag} {H H' : Hp} (s : Same H H') : ∀ (ds : List PyData) (vs : List V), DpAll K H vs ds → DpAll K H' vs ds
  | [], _, .nil => .nil
  | d :: ds, _, .cons (v := v) (vs := vs) h1 h2 => .cons (dp_sm s d v h1) (dps_sm s ds vs h2)
end
/-! ### words and maps -/
theorem run_word {n : Nat} {fs : List PF} (hw : ∀ f ∈ fs, WF n f) : ∀ {w : List Int} {g : PF}, WF n g → (∀ i ∈ w, 0 ≤ i ∧ i.toNat < fs.length) →
    WF n ((w.map Int.toNat).foldl (fun g i => mul g ((fs[i]?).getD emp)) g) ∧ runA (imgs n fs) (img n g (rgI n)) w = img n ((w.map Int.toNat).foldl (fun g i => mul g ((fs[i]?).getD emp)) g) (rgI n)
  | [], g, hg, _ => ⟨hg, rfl⟩
  | i :: w, g, hg, h => by
    obtain ⟨h0, h1⟩ := h i List.mem_cons_self
    obtain ⟨f, hf⟩ : ∃ f, fs[i.toNat]? = some f := ⟨_, List.getElem?_eq_getElem h1⟩
    have := run_word hw (w := w) (wf_mul hg (hw f (List.mem_of_getElem? hf))) fun j hj => h j (List.mem_cons_of_mem _ hj)
    have e : runA (imgs n fs) (img n g (rgI n)) (i :: w) = runA (imgs n fs) (img n (mul g f) (rgI n)) w := by
      unfold runA imgs
      rw [List.foldl_cons, List.getElem?_map, hf]
      show List.foldl _ (img n f (img n g (rgI n))) w = _
      rw [← img_mul hg]
    rw [e, List.map_cons, List.foldl_cons, hf]
    exact this
theorem word_emp {n B : Nat} {fs : List PF} {w : List Int} (hw : ∀ f ∈ fs, WF n f) (h : ([], w) ∈ WdA (imgs n fs) (rgI n) B) : wordF n fs (w.map Int.toNat) = emp ∧ (∀ i ∈ w, 0 ≤ i ∧ i.toNat < fs.length) ∧ w.length ≤ B := by
  obtain ⟨h1, h2⟩ := WdA_run h
  have h2' : ∀ i ∈ w, 0 ≤ i ∧ i.toNat < fs.length := fun i hi => by
    have := h2 i hi
    unfold imgs at this
    rwa [List.length_map] at this
  obtain ⟨w1, w2⟩ := run_word hw (wf_idn n) h2'
  rw [img_id] at w2
  exact ⟨img_nil w1 (w2.symm.trans h1), h2', WdA_word h⟩
theorem toNat_wV {m : Nat} : ∀ {w : List Int}, (∀ i ∈ w, 0 ≤ i ∧ i.toNat < m) → w.map V.int = wV (w.map Int.toNat)
  | [], _ => rfl
  | i :: w, h => by
    have := toNat_wV (w := w) fun j hj => h j (List.mem_cons_of_mem _ hj)
    rw [List.map_cons, this]
    unfold wV
    rw [List.map_cons, List.map_cons]
    congr 2
    have := (h i List.mem_cons_self).1
    omega
theorem wordAt_of {C : Addr} {H : Hp} {m : Nat} {w : List Int} (h : ∀ i ∈ w, 0 ≤ i ∧ i.toNat < m) (hl : w.length ≤ 1000) : WordAt C m H (w.map V.int) (w.map Int.toNat) [] :=
  ⟨by rw [List.length_map]; exact hl, by rw [List.append_nil]; exact toNat_wV h, fun i hi => (by obtain ⟨j, hj, rfl⟩ := List.mem_map.mp hi; exact (h j hj).2), .inl rfl⟩
/-! ### off the pool -/
theorem IsMap.offp {C p : Addr} {H H' : Hp} {m : Addr} {n : Int} {f : PF} (a : IsMap C H m n f) (o : Off p H H') (hp : PoolAt H p) : IsMap C H' m n f := by
  obtain ⟨⟨dx, D, h1, h2⟩, wf, lo, hi⟩ := a
  obtain ⟨x, y, e, _⟩ := hp
  exact ⟨⟨dx, D, o _ _ (fun z => by rw [z, e] at h1; cases h1) h1, o _ _ (fun z => by rw [z, e] at h2; cases h2) h2⟩, wf, lo, hi⟩
theorem FamAt.offp {CM CF p : Addr} {H H' : Hp} {a t : Addr} {xs : List V} {n : Int} {fs : List PF} (h : FamAt CM CF H a t xs n fs) (o : Off p H H') (hp : PoolAt H p) : FamAt CM CF H' a t xs n fs := by
  obtain ⟨⟨dx, e1⟩, tp, ms, ne, le⟩ := h
  have hp' := hp
  obtain ⟨x, y, e, _⟩ := hp
  exact ⟨⟨dx, o _ _ (fun z => by rw [z, e] at e1; cases e1) e1⟩, o _ _ (fun z => by rw [z, e] at tp; cases tp) tp, PySem.Paired.map ms fun v _ f ⟨a, ea, m⟩ => ⟨a, ea, m.offp o hp'⟩, ne, le⟩
theorem TabsAt'.offp {p : Addr} {H H' : Hp} {ds : List V} {fs : List PF} (h : TabsAt' H ds fs) (o : Off p H H') (hp : PoolAt H p) : TabsAt' H' ds fs := PySem.Paired.map h fun _ _ _ ⟨d, l, e1, h1, h2⟩ => ⟨d, l, e1, o _ _ (fun z => by
  obtain ⟨x, y, e, _⟩ := hp
  rw [z, e] at h1
  cases h1) h1, h2⟩
theorem lst_ne {p b : Addr} {H : Hp} {ds : List V} {fs : List PF} (h : H b = some (.lst ds)) (ht : TabsAt' H ds fs) (hp : PoolAt H p) : b ≠ p := fun z => by
  obtain ⟨x, y, e, _⟩ := hp
  rw [z, e] at h
  cases h
  cases ht with
  | cons h1 _ =>
    obtain ⟨d, l, e1, _⟩ := h1
    cases e1
/-! ### what repr says -/
def RepV (K : PySem.W.Frag) (H : Hp) (v : V) (z : Str) : Prop := (∃ d, Dp K H v d ∧ RepOk d ∧ z = d.shown) ∨ ∃ a, v = .ref a ∧ H a = some (.dK []) ∧ z = (flatD [] []).shown
theorem RepV.call {K : PySem.W.Frag} {H H' : Hp} {v : V} {z : Str} {Q : VK} (h : RepV K H v z) (s : Same H H') (q : Q (.str z) H') : rRepr K [v] H' Q ∨ rReprF [v] H' Q := by
  rcases h with ⟨d, h1, ⟨r1, r2, r3, r4⟩, rfl⟩ | ⟨a, rfl, h1, rfl⟩
  · exact .inl ⟨v, d, rfl, dp_sm s d v h1, r1, r2, r3, r4, q⟩
  · exact .inr ⟨a, [], [], rfl, s _ _ h1, .nil, by decide +kernel, by decide +kernel, by decide +kernel, q⟩
theorem rep_tupI {K : PySem.W.Frag} {H : Hp} {a : Addr} {r : List Int} (e : H a = some (.tup (r.map V.int))) (h : ∀ x ∈ r, -1 ≤ x ∧ x ≤ 300) (hl : r.length ≤ 300) : RepV K H (.ref a) (PyData.tuple (r.map PyData.int)).shown :=
  .inl ⟨_, dpT9 e, (((lf_tuple (b := 1) (k := 1) fun d hd => (by
    obtain ⟨x, hx, rfl⟩ := List.mem_map.mp hd
    exact lf_int (h x hx).1 (h x hx).2)).mono (b' := 600) (by rw [List.length_map]; omega) (Nat.le_refl _)).rep (by decide) (by decide)), rfl⟩
theorem rep_lstI {K : PySem.W.Frag} {H : Hp} {a : Addr} {r : List Int} (e : H a = some (.lst (r.map V.int))) (h : ∀ x ∈ r, -1 ≤ x ∧ x ≤ 300) (hl : r.length ≤ 300) : RepV K H (.ref a) (PyData.list (r.map PyData.int)).shown :=
  .inl ⟨_, .lst (SqL.of e) (dpI _), (lf_row h hl).rep (by decide) (by decide), rfl⟩
theorem rep_non {K : PySem.W.Frag} {H : Hp} : RepV K H .non PyData.none.shown := .inl ⟨_, .non, lf_non.rep (by decide) (by decide), rfl⟩
/-- the values that are asked -/
def PV (p : Addr) (H : Hp) (v : V) : Prop := RowF (fun a => a = p) H v ∨ v = .non ∨ v = .int 5 ∨ v = .str (Str.ofString "sets") ∨ ∃ a, v = .ref a ∧ H a = some (.dK [])
theorem PV.off {p : Addr} {H H' : Hp} {v : V} (h : PV p H v) (hp : PoolAt H p) (o : Off p H H') : PV p H' v := by
  rcases h with h | h | h | h | ⟨a, e, h⟩
  · exact .inl (h.off (.of rfl o))
  · exact .inr (.inl h)
  · exact .inr (.inr (.inl h))
  · exact .inr (.inr (.inr (.inl h)))
  · refine .inr (.inr (.inr (.inr ⟨a, e, o _ _ (fun z => ?_) h⟩)))
    obtain ⟨x, y, e, _⟩ := hp
    rw [z, e] at h; cases h
theorem PV.same {p : Addr} {H H' : Hp} {v : V} (h : PV p H v) (s : Same H H') : PV p H' v := by
  rcases h with h | h | h | h | ⟨a, e, h⟩
  · exact .inl (h.off (.sm s))
  · exact .inr (.inl h)
  · exact .inr (.inr (.inl h))
  · exact .inr (.inr (.inr (.inl h)))
  · exact .inr (.inr (.inr (.inr ⟨a, e, s _ _ h⟩)))
theorem PV.val {K : PySem.W.Frag} {C p : Addr} {n : Nat} {fs : List PF} {H : Hp} {v : V} (h : PV p H v) : (∃ c, ValB C n fs H v c) ∧ ∃ z, RepV K H v z := by
  rcases h with h | rfl | rfl | rfl | ⟨a, rfl, h⟩
  · obtain ⟨h1, d, h2, h3⟩ := h.val (K := K) (C := C) (n := n) (fs := fs)
    exact ⟨h1, _, .inl ⟨d, h2, h3, rfl⟩⟩
  · exact ⟨⟨false, .inl ⟨trivial, rfl⟩⟩, _, rep_non⟩
  · exact ⟨⟨false, .inl ⟨trivial, rfl⟩⟩, _, .inl ⟨_, .int 5, (lf_int (by decide) (by decide)).rep (by decide) (by decide), rfl⟩⟩
  · exact ⟨⟨false, .inl ⟨trivial, rfl⟩⟩, _, .inl ⟨_, .str _, ⟨by decide +kernel, rfl, by decide, by decide +kernel⟩, rfl⟩⟩
  · exact ⟨⟨false, .inl ⟨.inr ⟨_, h⟩, rfl⟩⟩, _, .inr ⟨a, rfl, h, rfl⟩⟩
/-- [repr(x) for x in xs], rows -/
def zRow (r : List Int) : Str := (PyData.list (r.map PyData.int)).shown
theorem lc_reprs {K Kc : PySem.W.Frag} {te : TE} {i : Nat} {vs : List Nat} {σ : L2.St} {H : Hp} {Q : VK} {bs : List Addr} {rows : List (List Int)} {a : Addr} (hte : ∀ R : VK, R (.ref a) H → te σ H R) (ha : H a = some (.lst (bs.map V.ref))) (hr : LsAt H bs rows)
    (hw : ∀ a, wipe ((wipe σ vs).set i a) vs = wipe σ vs) (hi : ∀ v, ((wipe σ vs).set i (some v))[i]? = some (some v)) (hz : bs.length ≤ 10000) (hb : ∀ r ∈ rows, (∀ x ∈ r, -1 ≤ x ∧ x ≤ 300) ∧ r.length ≤ 300)
    (hq : ∀ D H', H' D = some (.lst ((rows.map zRow).map V.str)) → Same H H' → Q (.ref D) H') : tLc (iList Kc te) (gName i) tYes (tCB (fun xs H Q => rRepr K xs H Q ∨ rReprF xs H Q) (tCons (tVar i) tNil)) vs σ H Q := by
  refine hte _ ⟨a, rfl, ⟨_, SqL.of ha⟩, fun D hD => ?_⟩
  have hl := paired_len hr
  refine lc_it (walk_list (xs := bs.map V.ref)) (fun k H' => Same H H' ∧ H' D = some (.lst (((rows.take k).map zRow).map V.str))) ⟨Same.new hD, upd_same⟩ (fun k H' _ p => SqL.of (p.1 _ _ ha)) ?_ ?_
  · rintro k v H' H'' hk ⟨s1, e1⟩ ⟨rfl, ev⟩
    rw [List.length_map] at hk
    obtain ⟨b, eb, rfl⟩ : ∃ b, bs[k]? = some b ∧ V.ref b = v := by
      rw [List.getElem?_map] at ev
      cases hb : bs[k]? with
      | none => rw [hb] at ev; cases ev
      | some b => rw [hb] at ev; exact ⟨b, rfl, Option.some.inj ev⟩
    obtain ⟨r, er, hbr⟩ := paired_at hr eb
    obtain ⟨x1, x2⟩ := hb r (List.mem_of_getElem? er)
    refine ⟨hw _, yes_ ⟨_, hi _, (rep_lstI (s1 _ _ hbr) x1 x2).call (Same.refl _) ⟨_, e1, ?_, Same.put s1 hD, ?_⟩⟩⟩
    · rw [List.length_map, List.length_map, List.length_take]
      exact lt_line' (by omega)
    · rw [upd_same, take_more er, List.map_append, List.map_append]
      rfl
  · rintro H' ⟨s1, e1⟩
    rw [List.length_map, hl, List.take_length] at e1
    exact hq D H' e1 s1
/-- [..], then on; the list is new -/
theorem ev_disp2 {F : Hp → V → Prop} {ta : TA} {k : Nat} {σ : L2.St} {H : Hp} {Q : VK} (ht : EvQ F ta k σ H) (k1 : k ≤ 1000)
    (q : ∀ l vs H', Same H H' → H' l = none → vs.length = k → (∀ v ∈ vs, F H' v) → Q (.ref l) (upd H' l (.lst vs))) : tLst ta σ H Q :=
  ht H (Same.refl _) _ fun vs H1 s1 hl hv => ⟨Nat.le_of_lt (lt_line' (by omega)), fun l nl => q l vs H1 s1 nl hl hv⟩
theorem rowF_rows {p D : Addr} {H H' : Hp} {bs : List Addr} {rows : List (List Int)} (hp : PoolAt H p) (nD : H D = none) (nb : ∀ b ∈ bs, H b = none) (e : H' D = some (.lst (bs.map V.ref))) (hr : LsAt H' bs rows) (hb : ∀ r ∈ rows, (∀ x ∈ r, -1 ≤ x ∧ x ≤ 300) ∧ r.length ≤ 300) (hl : bs.length ≤ 400) : RowF (fun a => a = p) H' (.ref D) := by
  refine ⟨D, _, fresh_p hp nD, rfl, .inl e, by rw [List.length_map]; exact hl, fun v hv => ?_⟩
  obtain ⟨b, hb1, rfl⟩ := List.mem_map.mp hv
  obtain ⟨k, hk⟩ := List.getElem?_of_mem hb1
  obtain ⟨r, er, hbr⟩ := paired_at hr hk
  obtain ⟨x1, x2⟩ := hb r (List.mem_of_getElem? er)
  exact .inr (.inr (.inl ⟨b, r, fresh_p hp (nb b hb1), rfl, hbr, x1, x2⟩))
theorem okS_all : ∀ (r : List Int), ∀ t ∈ PyData.shownAll (r.map PyData.int), OkS t
  | [], t, h => by
    simp only [List.map_nil, PyData.shownAll] at h
    exact absurd h List.not_mem_nil
  | x :: r, t, h => by
    simp only [List.map_cons, PyData.shownAll] at h
    rcases List.mem_cons.mp h with rfl | h
    · simp only [PyData.shown]
      exact okS_of _
    · exact okS_all r t h
theorem okS_from : ∀ (ts : List Str) (i : Nat) (acc : Str), OkS acc → (∀ t ∈ ts, OkS t) → OkS (textFrom i acc ts)
  | [], i, acc, h, _ => h
  | t :: ts, i, acc, h, ht => by
    unfold textFrom
    refine okS_from ts _ _ ?_ fun x hx => ht x (List.mem_cons_of_mem _ hx)
    have h1 := ht t List.mem_cons_self
    split
    · exact (h.app (okS_of _)).app h1
    · exact h.app h1
theorem okS_row (r : List Int) : OkS (zRow r) := by
  unfold zRow
  simp only [PyData.shown]
  unfold listText
  exact (okS_from _ _ _ (okS_of _) (okS_all r)).app (okS_of _)
theorem sh_texts {ys : List Str} (h : ∀ y ∈ ys, OkS y) : SeqAt.shaped (.list (ys.map PyData.str)) = true := shaped_all fun d hd => by
  obtain ⟨y, hy, rfl⟩ := List.mem_map.mp hd
  exact ⟨h y hy, by show 0 ≤ 60; decide⟩
theorem dp_texts {K : PySem.W.Frag} {H : Hp} : ∀ ys : List Str, DpAll K H (ys.map V.str) (ys.map PyData.str)
  | [] => .nil
  | y :: ys => .cons (.str y) (dp_texts ys)
/-- [e for k in range(m)], drawn rows -/
theorem lc_rows {p : Addr} {i : Nat} {tv : TE} {vs : List Nat} {σ : L2.St} {H : Hp} {Q : VK} {m : Nat} (hp : PoolAt H p) (hm : m ≤ 100) (hw : ∀ a, wipe ((wipe σ vs).set i a) vs = wipe σ vs)
    (hb : ∀ (k : Nat) (H1 : Hp), PoolAt H1 p → Off p H H1 → ∀ R : VK, (∀ v H2, RowF (fun a => H1 a ≠ none) H2 v → PoolAt H2 p → Off p H1 H2 → R v H2) → tv ((wipe σ vs).set i (some (.int ((0 : Int) + (k : Nat))))) H1 R)
    (hq : ∀ D es H', H D = none → H' D = some (.lst es) → es.length = m → (∀ e ∈ es, RowF (fun a => a = p) H' e) → PoolAt H' p → Off p H H' → Q (.ref D) H') :
    tLc (iRng1 (tCons (tC (.int (m : Int))) tNil)) (gName i) tYes tv vs σ H Q := by
  refine ⟨_, rfl, by omega, by omega, fun D hD => ?_⟩
  have nDp := fresh_p hp hD
  refine lc_it (walk_range (lo := 0)) (fun k H' => PoolAt H' p ∧ Off p H H' ∧ ∃ es, H' D = some (.lst es) ∧ es.length = k ∧ ∀ e ∈ es, RowF (fun a => a = p ∨ a = D) H' e) ⟨hp.mv (Same.new hD), off_same (Same.new hD), [], upd_same, rfl, fun e h => absurd h List.not_mem_nil⟩ (fun _ _ _ _ => trivial) ?_ ?_
  · rintro k v H' H'' hk ⟨p1, p2, es, e1, l1, r1⟩ ⟨rfl, rfl⟩
    refine ⟨hw _, yes_ (hb k _ p1 p2 _ fun v H2 hv p3 o3 => ?_)⟩
    have e2 := o3 _ _ nDp e1
    refine ⟨es, e2, by rw [l1]; exact lt_line' (by omega), ?_, ?_, es ++ [v], upd_same, by rw [List.length_append, l1]; rfl, fun e he => ?_⟩
    · exact p3.put nDp.symm
    · exact (p2.tr o3).mut hD
    · have hx : ∀ {e : V}, RowF (fun a => a = p ∨ a = D) H2 e → RowF (fun a => a = p ∨ a = D) (upd H2 D (.lst (es ++ [v]))) e := fun h => h.off fun a u n ea => by
        rw [upd_ne (fun z => n (.inr z))]
        exact ea
      rcases List.mem_append.mp he with h | h
      · exact hx ((r1 e h).off (.of (.inl rfl) o3))
      · rw [List.mem_singleton.mp h]
        refine hx (hv.sub fun a ha => ?_)
        rcases ha with rfl | rfl
        · obtain ⟨x, y, e, _⟩ := p1
          exact fun z => (by rw [e] at z; cases z)
        · exact fun z => (by rw [e1] at z; cases z)
  · rintro H' ⟨p1, p2, es, e1, l1, r1⟩
    refine hq D es H' hD e1 (by rw [l1]; omega) (fun e he => (r1 e he).sub fun a h => .inl h) p1 p2
theorem ValB.same {C : Addr} {n : Nat} {fs : List PF} {H H' : Hp} {v : V} {c : Bool} (h : ValB C n fs H v c) (s : Same H H') : ValB C n fs H' v c := by
  rcases h with ⟨h, e⟩ | ⟨a, es, cs, e, h1, h2, h3, h4⟩ | ⟨a, bs, rows, e, h1, h2, h3, h4⟩
  · exact .inl ⟨h.same s, e⟩
  · exact .inr (.inl ⟨a, es, cs, e, s _ _ h1, h2, PySem.Paired.map h3 fun _ _ _ z => z.same s, h4⟩)
  · exact .inr (.inr ⟨a, bs, rows, e, s _ _ h1, h2, h3.same s, h4⟩)
section
variable {P : Program} {w : World} {K : PySem.W.Frag} {mg : Str → Option Value} {base : Heap}
theorem ne_maps (T : Txt K mg) {H : Hp} {a b : Addr} {n m : Int} {f g : PF} {Q : VK} (ha : IsMap T.C_Map H a n f) (hb : IsMap T.C_Map H b m g) (q : Q (.bl (!eqB n f m g)) H) : rNeV K T.C_Map (spEqV T.C_Map) E0 (.ref a) (.ref b) H Q := by
  obtain ⟨d1, l1, e1⟩ := at_map ha
  obtain ⟨d2, l2, e2⟩ := at_map hb
  exact ⟨a, d1, l1, _, rfl, e1, tyx_ins T.o_Map e2, notFirst_self _ _, a, _, rfl, .inl ⟨b, n, f, m, g, rfl, ha, hb, _, rfl, q⟩⟩
theorem nx_cut9 {a rest : TS} {D : Ends} {r : VK} {b c : L2.St → Hp → Prop} {σ : L2.St} {H : Hp} (M : L2.St → Hp → Prop) (h : ∀ nx : L2.St → Hp → Prop, (∀ σ' H', M σ' H' → nx σ' H') → a { D with nx := nx } σ H) (hM : ∀ σ' H', M σ' H' → rest D σ' H') : Ends.nx { nx := tSeq a rest D, rt := r, bk := b, ct := c } σ H := h _ hM
theorem any_cut {t : TS} {N : L2.St → Hp → Prop} {r : VK} {b c : L2.St → Hp → Prop} {σ : L2.St} {H : Hp} (M : L2.St → Hp → Prop) (h : ∀ nx : L2.St → Hp → Prop, (∀ σ' H', M σ' H' → nx σ' H') → t { nx := nx, rt := r, bk := b, ct := c } σ H) (hM : ∀ σ' H', M σ' H' → N σ' H') : t { nx := N, rt := r, bk := b, ct := c } σ H := h _ hM
def spRt (CM CF : Addr) : Sp := fun vs H Q _ => ∃ (p a t tl : Addr) (xs ds : List V) (n : Nat) (fs : List PF), vs = [.ref p, .ref a, .ref tl, .int (n : Int)] ∧ PoolAt H p ∧ FamAt CM CF H a t xs n fs ∧ H tl = some (.lst ds) ∧ TabsAt' H ds fs ∧ 1 ≤ n ∧ n ≤ 7 ∧ ∀ H', PoolAt H' p → Off p H H' → Q (.bl true) H'
theorem ok_l_right (T : Txt K mg) : FnG P w K mg base CX0 20 T.f_l_right (spRt T.C_Map T.C_Family) := by
  refine T.A_l_right.okG sc_l_right (fun vs H Q E h => ?_) (fun cdv A outer s H vs Q E gd hr h => ?_)
  · obtain ⟨p, a, t, tl, xs, ds, n, fs, rfl, _⟩ := h
    rfl
  · obtain ⟨p, a, t, tl, xs, ds, n, fs, rfl, hp, hf, etl, htb, n1, n7, q⟩ := h
    have hu := hu_of hr
    refine ⟨_, (pss_cons (ps_set (i := 4) sc_l_right.nd rfl (Or.inl rfl) (pe_callR (ok_l_search T) (hr.mono (by decide)) T.A_l_search.kp rfl T.g_l_search pass0 (pa_cons (pv 2) (pa_cons (pv 3) pa_nil))))
      (pss_cons (ps_par3 (i := 5) (j := 6) (l := 7) rfl sc_l_right.nd rfl rfl rfl (by decide) (by decide) (by decide) rfl rfl rfl (pa_cons (pe_dget1 hu (pv 4) (pe_tup pa_nil) ⟨rfl, rfl, rfl, rfl⟩) (pa_cons (pe_callR (ok_losing_word T) (hr.mono (by decide)) T.A_losing_word.kp rfl T.g_losing_word pass0 (pa_cons (pv 1) pa_nil)) (pa_cons (pe_callR (ok_holding_sets T) (hr.mono (by decide)) T.A_holding_sets.kp rfl T.g_holding_sets pass0 (pa_cons (pv 1) pa_nil)) pa_nil))) (by rfl))
      (pss_cons (ps_if (PW.pt (pw_or (pt_cmpR op_ne (pe_callB (callR_or (r1 := rRepr K) (r2 := rReprF) (call_repr gd hr.units) (call_reprF gd hr.units)) (by rfl) T.n_repr (by decide +kernel) (pa_cons (pv 6) pa_nil)) (pe_callB (callR_or (r1 := rRepr K) (r2 := rReprF) (call_repr gd hr.units) (call_reprF gd hr.units)) (by rfl) T.n_repr (by decide +kernel) (pa_cons (pv 5) pa_nil)) (nomark _)) (pw_or1 (pt_cmpR op_ne (pe_cmpR op_isN (pv 7) pe_non (nomark _)) (pe_cmpR op_notN (pv 5) pe_non (nomark _)) (nomark _)))))
        (pss_one (ps_ret pe_bl)) pss_nil)
      (pss_cons (ps_if (PW.pt (pw_and (pt_cmpR op_notN (pv 6) pe_non (nomark _)) (pw_and1 (pt_cmpR (op_neV T.o_Map T.ne_Map T.m_Map__eq T.i_Map__eq (ok_eqV T) (hr.mono (by decide)) pass0) (pe_callO (pv 1) ⟨T.m_Family__call, T.i_Family__call, T.fi_Family__call⟩ (fnR_calm (okX_callT T)) (hr.mono (by decide)) pass0 (pa_cons (pv 6) pa_nil)) (ClX.pe_cmeth (pe_glob (v := .ref T.C_Map) rfl T.g_Map rfl) T.R_Map T.cm_Map_empty (ok_empty T) (hr.mono (by decide)) pass0 (pa_cons (pv 3) pa_nil)) (nomark _)))))
        (pss_one (ps_ret pe_bl)) pss_nil)
      (pss_cons (ps_set (i := 8) sc_l_right.nd rfl (Or.inr rfl) (pe_lock (pe_lc (own := [("_law_places", 12)]) (g := (gName 12)) rfl sc_l_right.nd (pi_keys (pv 4)) (blkOk_by (own := [("_law_places", 12)]) (N := n_l_right) (sc := defScope s_l_right) (by decide +kernel)) (fun _ _ _ _ _ => (pg_name (i := 12) sc_l_right.nd rfl (Or.inl rfl))) (fun _ _ _ _ _ => (pts_one (pt_cmpR (op_neD9 (K0 := K) rfl hr.units) (pv 12) (pe_tup pa_nil) (nomark _)))) (fun _ _ _ _ _ => (pe_callTy (call_list_ofK (K0 := K) rfl) (by rfl) T.n_list (by decide +kernel) (pa_cons (pv 12) pa_nil))))))
      (pss_cons (ps_set (i := 9) sc_l_right.nd rfl (Or.inl rfl) (pe_lst (pa_cons (pv 8) (pa_cons (pe_lst (pa_cons (pe_listRg rfl rfl T.n_list (prg_1 rfl T.n_range (pv 3))) pa_nil)) (pa_cons (pe_lst pa_nil) (pa_cons pe_non (pa_cons pe_int (pa_cons pe_dnewK (pa_cons pe_str pa_nil)))))))))
      (pss_cons (ps_if (pt_cmpR op_notN (pv 7) pe_non (nomark _))
        (pss_cons (ps_expr (pe_bm PySem.F.plainAttrs_list PySem.F.slot_list_append PySem.F.type_list_append mt_append (pv 9) (pa_cons (pv 7) pa_nil)))
      (pss_one (ps_if (pt_cmpR (L2.op_neD hr.units) (pe_callB (cr_sortedT (K0 := K) rfl) (by rfl) T.n_sorted (by decide +kernel) (pa_cons (pe_lc (own := [("_law_places", 12)]) (g := (gName 12)) (tt := tYes) rfl sc_l_right.nd (pi_list (pv 7)) (blkOk_by (own := [("_law_places", 12)]) (N := n_l_right) (sc := defScope s_l_right) (by decide +kernel)) (fun _ _ _ _ _ => (pg_name (i := 12) sc_l_right.nd rfl (Or.inl rfl))) (fun _ _ _ _ _ => pts_nil) (fun _ _ _ _ _ => (pe_callB (callR_or (r1 := rRepr K) (r2 := rReprF) (call_repr gd hr.units) (call_reprF gd hr.units)) (by rfl) T.n_repr (by decide +kernel) (pa_cons (pv 12) pa_nil)))) pa_nil)) (pe_callB (cr_sortedT (K0 := K) rfl) (by rfl) T.n_sorted (by decide +kernel) (pa_cons (pe_lc (own := [("_law_places", 12)]) (g := (gName 12)) (tt := tYes) rfl sc_l_right.nd (pi_list (pv 8)) (blkOk_by (own := [("_law_places", 12)]) (N := n_l_right) (sc := defScope s_l_right) (by decide +kernel)) (fun _ _ _ _ _ => (pg_name (i := 12) sc_l_right.nd rfl (Or.inl rfl))) (fun _ _ _ _ _ => pts_nil) (fun _ _ _ _ _ => (pe_callB (callR_or (r1 := rRepr K) (r2 := rReprF) (call_repr gd hr.units) (call_reprF gd hr.units)) (by rfl) T.n_repr (by decide +kernel) (pa_cons (pv 12) pa_nil)))) pa_nil)) (nomark _))
        (pss_one (ps_ret pe_bl)) pss_nil))) pss_nil)
      (pss_cons (ps_for PassesOwn.never rfl (pi_list (pe_op op_cat (pv 9) (pe_lc (own := [("_law_turn", 13)]) (g := (gName 13)) (tt := tYes) rfl sc_l_right.nd (pi_range1 rfl T.n_range (pa_cons pe_int pa_nil)) (blkOk_by (own := [("_law_turn", 13)]) (N := n_l_right) (sc := defScope s_l_right) (by decide +kernel)) (fun _ _ _ _ _ => (pg_name (i := 13) sc_l_right.nd rfl (Or.inl rfl))) (fun _ _ _ _ _ => pts_nil) (fun _ _ _ _ _ => (pe_callR (ok_l_bent T) (hr.mono (by decide)) T.A_l_bent.kp rfl T.g_l_bent pass0 (pa_cons (pv 0) (pa_cons (pv 8) (pa_cons (pv 3) pa_nil)))))))) (pg_name (i := 10) sc_l_right.nd rfl (Or.inl rfl))
        (pss_cons (ps_set (i := 11) sc_l_right.nd rfl (Or.inl rfl) (pe_callB (callR_or (r1 := rRepr K) (r2 := rReprF) (call_repr gd hr.units) (call_reprF gd hr.units)) (by rfl) T.n_repr (by decide +kernel) (pa_cons (pv 10) pa_nil)))
      (pss_one (ps_if (PW.pt (pw_or (pt_cmpR op_ne (pe_callB call_repr0 (by rfl) T.n_repr (by decide +kernel) (pa_cons (pe_callR (ok_is_holding T) (hr.mono (by decide)) T.A_is_holding.kp rfl T.g_is_holding pass0 (pa_cons (pv 1) (pa_cons (pv 10) pa_nil))) pa_nil)) (pe_callB call_repr0 (by rfl) T.n_repr (by decide +kernel) (pa_cons (pe_callR (ok_l_is T) (hr.mono (by decide)) T.A_l_is.kp rfl T.g_l_is pass0 (pa_cons (pv 2) (pa_cons (pv 3) (pa_cons (pv 10) pa_nil)))) pa_nil)) (nomark _)) (pw_or1 (pt_cmpR op_ne (pe_callB (callR_or (r1 := rRepr K) (r2 := rReprF) (call_repr gd hr.units) (call_reprF gd hr.units)) (by rfl) T.n_repr (by decide +kernel) (pa_cons (pv 10) pa_nil)) (pv 11) (nomark _)))))
        (pss_one (ps_ret pe_bl)) pss_nil))))
      (pss_one (ps_ret pe_bl)))))))))), ?_⟩
    have hwf : ∀ f ∈ fs, WF n f := hf.ms.wf
    have hfs : fs.length ≤ 10 := by rw [← hf.len]; exact hf.le
    have hds : ds.length ≤ 10 := by rw [paired_len htb]; exact hfs
    have n300 : n ≤ 300 := by omega
    have hB : ∀ k, (WdA (imgs n fs) (rgI n) k).length ≤ 128 := fun k => by
      refine Nat.le_trans (WdA_len (S := subsL (rgI n)) (full_sub n) (fun g hg x => ?_) k) ?_
      · obtain ⟨f, _, rfl⟩ := List.mem_map.mp hg
        exact img_sub n f x
      · rw [subsL_len]
        refine Nat.le_trans (Nat.pow_le_pow_right (by decide) (Nat.le_trans (plc_full n).len n7)) (by decide)
    dsimp only [gName, tSeq, tAsg]
    refine ⟨_, rfl, _, rfl, tl, ds, n, 128, fs, rfl, etl, htb, hds, n1, n300, by decide, hB, fun D H1 nD hW s1 => ?_⟩
    obtain ⟨kvs, eD, _⟩ := hW.len
    refine ⟨_, rfl, D, rfl, .inr ⟨kvs, .inl eD⟩, nil_le, ?_⟩
    refine fun e0 n_e0 => ?_
    generalize g_e0 : L2.upd _ e0 _ = H2
    obtain ⟨s_H2, e_e0⟩ := U.upd_facts g_e0 n_e0
    clear g_e0
    obtain ⟨o, ho, _, o1, o2⟩ := (hW.same s_H2).has (x := []) e_e0
    refine ⟨o, ho, ?_⟩
    refine ⟨_, rfl, a, t, xs, n, 128, fs, rfl, hf.same (s1.trans s_H2), n300, by decide, hB, fun ot vt H3 ht hvt s3 => ?_⟩
    refine ⟨_, rfl, a, t, xs, n, 128, fs, rfl, hf.same ((s1.trans s_H2).trans s3), n300, by decide, hB, fun vp H4 hvp s4 => ?_⟩
    refine ⟨_, _, _, rfl, ?_⟩
    have nd := WdA_nodup (fs := imgs n fs) (s := rgI n) 128
    have s24 := s3.trans s4
    generalize hWW : WdA (imgs n fs) (rgI n) 128 = W at hW ho o1 o2 ht hvp nd
    have hcase : (∃ (w : List Int) (p5 p6 : Addr), o.getD .non = .ref p5 ∧ vt = .ref p6 ∧ vp = .non ∧ ([], w) ∈ W ∧ H4 p5 = some (.tup (w.map V.int)) ∧ H4 p6 = some (.tup (w.map V.int))) ∨
        (o.getD .non = .non ∧ vt = .non ∧ [] ∉ keyA W ∧ ∃ (D7 : Addr) (bs : List Addr), vp = .ref D7 ∧ H3 D7 = none ∧ (∀ b ∈ bs, H3 b = none) ∧ H4 D7 = some (.lst (bs.map V.ref)) ∧ LsAt H4 bs (keyA W)) := by
      by_cases hm : [] ∈ keyA W
      · obtain ⟨e, p5, he, e1, rfl, ep⟩ := o2 hm
        rcases hvp with ⟨_, rfl⟩ | ⟨z, _⟩
        · cases ot with
          | none => exact absurd hm ht
          | some w =>
            obtain ⟨p6, rfl, ep6⟩ := hvt
            have : e = ([], w) := keyA_uniq nd he ht e1
            subst this
            exact .inl ⟨w, p5, p6, rfl, rfl, rfl, ht, s24 _ _ ep, s4 _ _ ep6⟩
        · exact absurd hm z
      · rcases hvp with ⟨z, _⟩ | ⟨_, D7, bs, rfl, h1, h2, h3, h4⟩
        · exact absurd z hm
        · cases ot with
          | some w => exact absurd (List.mem_map.mpr ⟨_, ht, rfl⟩) hm
          | none => exact .inr ⟨by rw [o1 hm]; rfl, hvt, hm, D7, bs, rfl, h1, h2, h3, h4⟩
    have hrep : ∃ z, RepV K H4 vt z ∧ RepV K H4 (o.getD .non) z := by
      rcases hcase with ⟨w, p5, p6, h5, rfl, _, hw, e5, e6⟩ | ⟨h5, rfl, _⟩
      · rw [← hWW] at hw
        obtain ⟨_, w2, w3⟩ := word_emp hwf hw
        have hb : ∀ x ∈ w, -1 ≤ x ∧ x ≤ 300 := fun x hx => by
          have := w2 x hx
          omega
        exact ⟨_, rep_tupI e6 hb (by omega), by rw [h5]; exact rep_tupI e5 hb (by omega)⟩
      · exact ⟨_, rep_non, by rw [h5]; exact rep_non⟩
    obtain ⟨z6, r6, r5⟩ := hrep
    have s14 := (s1.trans s_H2).trans s24
    refine nx_cut9 (fun σ H' => σ = [some (.ref p), some (.ref a), some (.ref tl), some (.int n), some (.ref D), some (o.getD .non), some vt, some vp, none, none, none, none, none, none] ∧ Same H4 H') (fun nx k => ?_) ?_
    · dsimp only [tIfS, tOr, tTest, tOp, tCB, tCons, tNil, tRet, tNext]
      refine ⟨_, rfl, r6.call (Same.refl _) ⟨_, rfl, r5.call (Same.refl _) ⟨rfl, _, rfl, itF (by simp) ?_⟩⟩⟩
      refine ⟨_, rfl, rfl, _, rfl, rfl, ?_⟩
      refine ⟨rfl, _, rfl, itF ?_ (k _ _ ⟨rfl, Same.refl _⟩)⟩
      rcases hcase with ⟨w, p5, p6, h5, _, rfl, _⟩ | ⟨h5, _, _, D7, bs, rfl, _⟩
      · rw [h5]; simp
      · rw [h5]; simp
    clear r6 r5 z6
    rintro _ H5 ⟨rfl, s5⟩
    refine seq_cut (fun σ H' => σ = [some (.ref p), some (.ref a), some (.ref tl), some (.int n), some (.ref D), some (o.getD .non), some vt, some vp, none, none, none, none, none, none] ∧ Same H4 H') (fun nx k => ?_) ?_
    · dsimp only [tIfS, tAnd, tTest, tOp, tCB, tCons, tNil, tRet, tNext]
      rcases hcase with ⟨w, p5, p6, h5, rfl, rfl, hw, e5, e6⟩ | ⟨h5, rfl, _⟩
      · rw [← hWW] at hw
        obtain ⟨w1, w2, w3⟩ := word_emp hwf hw
        have hf5 := hf.same (s14.trans s5)
        obtain ⟨dxa, ea⟩ := hf5.ob
        refine ⟨_, rfl, rfl, _, rfl, itT (by simp) ?_⟩
        refine ⟨_, rfl, a, rfl, _, rfl, .inr ⟨_, _, ea⟩, a, t, xs, n, fs, .ref p6, rfl, hf5, .inr ⟨p6, _, rfl, s5 _ _ e6, .inr ⟨w.map Int.toNat, [], wordAt_of w2 (by omega), fun _ m H6 s6 _ hm => ?_, fun z => absurd rfl z⟩⟩⟩
        rw [w1] at hm
        refine ⟨rfl, _, rfl, n, rfl, by omega, by omega, fun m2 H7 nm2 s7 hm2 => ?_⟩
        refine ne_maps T (hm.same s7) hm2 ⟨_, rfl, itF ?_ (k _ _ ⟨rfl, (s5.trans s6).trans s7⟩)⟩
        rw [eqB_self hm2.wf]
        rfl
      · exact ⟨_, rfl, rfl, _, rfl, itF (by simp) (itF rfl (k _ _ ⟨rfl, s5⟩))⟩
    clear s5
    rintro _ H6 ⟨rfl, s6⟩
    have s16 := s14.trans s6
    have hp3 := hp.mv ((s1.trans s_H2).trans s3)
    have hp6 := hp.mv s16
    have hWl : (keyA W).length ≤ 128 := by rw [keyA_len, ← hWW]; exact hB 128
    have hpl : ∀ r ∈ keyA W, Plc n r := by
      rw [← hWW]
      exact WdA_in (S := Plc n) (plc_full n) (fun g hg x hx => (by obtain ⟨f, _, rfl⟩ := List.mem_map.mp hg; exact plc_img n f x)) 128
    have hbd : ∀ r : List Int, Plc n r → (∀ x ∈ r, -1 ≤ x ∧ x ≤ 300) ∧ r.length ≤ 300 := fun r h => ⟨fun x hx => (by have := h.rng x hx; omega), Nat.le_trans h.len n300⟩
    obtain ⟨kvs6, eD6, ek6⟩ := (((hW.same s_H2).same s24).same s6).keys
    dsimp only [gName, tSeq, tAsg]
    refine lc_keysTT (fun r => !decide (r = [])) eD6 ek6 (fun H' R r o => ⟨_, rfl, r⟩) (fun _ => rfl) (fun x hx p1 Hx ep => ⟨fun R r => ⟨_, rfl, nil_le, fun e n_e => ?_⟩, fun R r => ⟨_, rfl, p1, _, rfl, .inr (SqT.of ep), fun l nl => r l _ nl upd_same (Same.new nl)⟩⟩) (lt_line' (by omega)) (fun D8 bs8 H7 nD8 eD8 hb8 nb8 s7 => ?_)
    · have se : Same Hx (upd Hx e (.tup [])) := Same.new n_e
      refine ⟨.tuple (x.map PyData.int), .tuple [], dpT9 (se _ _ ep), dpT9 (l := []) upd_same, shT x, shT [], _, rfl, ?_⟩
      rw [eqvT_nil]
      exact r _ se
    generalize hrw : (keyA W).filter (fun r => !decide (r = [])) = rows8 at hb8
    have hmem : ∀ r ∈ rows8, r ∈ keyA W := fun r hr => by rw [← hrw] at hr; exact (List.mem_filter.mp hr).1
    have hl8 : rows8.length ≤ 128 := by rw [← hrw]; exact Nat.le_trans (List.length_filter_le _ _) hWl
    have hl8' : bs8.length = rows8.length := paired_len hb8
    have rf8 : RowF (fun a => a = p) H7 (.ref D8) := rowF_rows hp6 nD8 nb8 eD8 hb8 (fun r hr => hbd r (hpl r (hmem r hr))) (by omega)
    have hp7 := hp6.mv s7
    have nD8p : D8 ≠ p := fresh_p hp6 nD8
    refine ev_disp2 (F := PV p) (k := 7) (evq_cons (fun s h => h.same s) ?_ <| evq_cons (fun s h => h.same s) ?_ <| evq_cons (fun s h => h.same s) ?_ <| evq_cons (fun s h => h.same s) ?_ <| evq_cons (fun s h => h.same s) ?_ <| evq_cons (fun s h => h.same s) ?_ <| evq_cons (fun s h => h.same s) ?_ evq_nil) (by decide) ?_
    · exact fun Hx s Q q => ⟨_, rfl, q _ _ (Same.refl _) (.inl (rf8.off (.sm s)))⟩
    · refine fun Hx s Q q => ⟨_, rfl, n, rfl, ⟨by omega, by omega, by omega, by omega⟩, fun l nl => ⟨one_le, fun l2 nl2 => ?_⟩⟩
      have s4' : Same Hx (upd Hx l (.lst (rgV 0 n))) := Same.new nl
      have s5' : Same (upd Hx l (.lst (rgV 0 n))) (upd (upd Hx l (.lst (rgV 0 n))) l2 (.lst [.ref l])) := Same.new nl2
      have hpx := hp7.mv s
      refine q _ _ (s4'.trans s5') (.inl ⟨l2, _, fresh_p (hpx.mv s4') nl2, rfl, .inl upd_same, by show 1 ≤ 400; decide, fun e he => ?_⟩)
      rw [List.mem_singleton.mp he]
      exact .inr (.inr (.inl ⟨l, rgI n, fresh_p hpx nl, rfl, by rw [← rgV_0]; exact s5' _ _ upd_same, hbd _ (plc_full n)⟩))
    · exact fun Hx s Q q => ⟨nil_le, fun l nl => q _ _ (Same.new nl) (.inl ⟨l, [], fresh_p (hp7.mv s) nl, rfl, .inl upd_same, by decide, fun e he => absurd he List.not_mem_nil⟩)⟩
    · exact fun Hx s Q q => q _ _ (Same.refl _) (.inr (.inl rfl))
    · exact fun Hx s Q q => q _ _ (Same.refl _) (.inr (.inr (.inl rfl)))
    · exact fun Hx s Q q l nl => q _ _ (Same.new nl) (.inr (.inr (.inr (.inr ⟨l, rfl, upd_same⟩))))
    · exact fun Hx s Q q => q _ _ (Same.refl _) (.inr (.inr (.inr (.inl rfl))))
    refine fun l9 vs9 H8 s8 nl9 hl9 hv9 => ?_
    have n79 : H7 l9 = none := s8.free nl9
    refine any_cut (fun σ H' => σ = [some (.ref p), some (.ref a), some (.ref tl), some (.int n), some (.ref D), some (o.getD .non), some vt, some vp, some (.ref D8), some (.ref l9), none, none, none, none] ∧ Same H7 H' ∧ ∃ vs, H' l9 = some (.lst vs) ∧ vs.length ≤ 8 ∧ ∀ v ∈ vs, PV p H' v) (fun nx k => ?_) ?_
    · dsimp only [tIfS, tAnd, tTest, tOp, tCB, tCons, tNil, tRet, tNext]
      rcases hcase with ⟨w, p5, p6, h5, _, rfl, _⟩ | ⟨h5, _, hm, D7, bs, rfl, nD7, nb7, eD7, hb7⟩
      · exact ⟨_, rfl, rfl, _, rfl, itF (by simp) (k _ _ ⟨rfl, s8.trans (Same.new nl9), vs9, upd_same, by omega, fun v hv => (hv9 v hv).same (Same.new nl9)⟩)⟩
      refine ⟨_, rfl, rfl, _, rfl, itT (by simp) ?_⟩
      refine ⟨_, rfl, .inl ⟨rfl, _, SqL.of upd_same⟩, _, rfl, l9, _, .ref D7, rfl, rfl, upd_same, lt_line' (by omega), ?_⟩
      have s89 : Same H8 (upd (upd H8 l9 (.lst vs9)) l9 (.lst (vs9 ++ [.ref D7]))) := Same.put (Same.new nl9) nl9
      have e9 : (upd (upd H8 l9 (.lst vs9)) l9 (.lst (vs9 ++ [.ref D7]))) l9 = some (.lst (vs9 ++ [.ref D7])) := upd_same
      generalize upd (upd H8 l9 (.lst vs9)) l9 (.lst (vs9 ++ [.ref D7])) = H9 at s89 e9
      have s49 : Same H4 H9 := ((s6.trans s7).trans s8).trans s89
      have hfil : rows8 = keyA W := by
        rw [← hrw]
        exact List.filter_eq_self.mpr fun r hr => by
          have : r ≠ [] := fun z => hm (z ▸ hr)
          simp [this]
      have hb7' : bs.length ≤ 10000 := by rw [paired_len hb7]; omega
      dsimp only [gName, tSeq, tIfS, tTest, tOp, tCB, tCons, tNil, tRet, tNext]
      refine lc_reprs (fun R r => ⟨_, rfl, r⟩) (s49 _ _ eD7) (hb7.same s49) (fun _ => rfl) (fun _ => rfl) hb7' (fun r hr => hbd r (hpl r hr)) (fun Da Ha eDa sa => ?_)
      refine ⟨Da, _, rfl, SqL.of eDa, fun ys q1 pys sys nq1 => ?_⟩
      have sq1 : Same Ha (upd Ha q1 (.lst (ys.map V.str))) := Same.new nq1
      have eq1 : (upd Ha q1 (.lst (ys.map V.str))) q1 = some (.lst (ys.map V.str)) := upd_same
      generalize upd Ha q1 (.lst (ys.map V.str)) = Hb at sq1 eq1
      have s7b : Same H7 Hb := ((s8.trans s89).trans sa).trans sq1
      refine lc_reprs (fun R r => ⟨_, rfl, r⟩) (s7b _ _ eD8) (hb8.same s7b) (fun _ => rfl) (fun _ => rfl) (by omega) (fun r hr => hbd r (hpl r (hmem r hr))) (fun Dc Hc eDc sc => ?_)
      refine ⟨Dc, _, rfl, SqL.of eDc, fun ys2 q2 pys2 sys2 nq2 => ?_⟩
      have sq2 : Same Hc (upd Hc q2 (.lst (ys2.map V.str))) := Same.new nq2
      have eq2 : (upd Hc q2 (.lst (ys2.map V.str))) q2 = some (.lst (ys2.map V.str)) := upd_same
      generalize upd Hc q2 (.lst (ys2.map V.str)) = Hd at sq2 eq2
      have ey : ys = ys2 := by
        rw [hfil] at pys2
        exact sortedS_uniq (pys.trans pys2.symm) sys sys2
      subst ey
      have shy : SeqAt.shaped (.list (ys.map PyData.str)) = true := sh_texts fun y hy => by
        obtain ⟨r, _, rfl⟩ := List.mem_map.mp (pys.mem_iff.mp hy)
        exact okS_row r
      refine ⟨_, _, .lst (SqL.of (sq2 _ _ (sc _ _ eq1))) (dp_texts ys), .lst (SqL.of eq2) (dp_texts ys), shy, shy, _, rfl, ?_⟩
      rw [SeqAt.eqv_refl _ (SeqAt.canLay_of_shaped shy)]
      have s9d : Same H9 Hd := ((sa.trans sq1).trans sc).trans sq2
      refine itF rfl (k _ _ ⟨rfl, (s8.trans s89).trans s9d, _, s9d _ _ e9, by rw [List.length_append, hl9]; exact Nat.le_refl 8, fun v hv => ?_⟩)
      rcases List.mem_append.mp hv with h | h
      · exact (hv9 v h).same (s89.trans s9d)
      · rw [List.mem_singleton.mp h]
        exact .inl ((rowF_rows hp3 nD7 nb7 eD7 hb7 (fun r hr => hbd r (hpl r hr)) (by rw [paired_len hb7]; omega)).off (.sm (s49.trans s9d)))
    rintro _ H9 ⟨rfl, s79, vs, el9, hlv, hvs⟩
    have s09 : Same H H9 := (s16.trans s7).trans s79
    have hp9 := hp7.mv s79
    have n9p : l9 ≠ p := fresh_p hp7 n79
    have eD89 := s79 _ _ eD8
    have hb89 := hb8.same s79
    dsimp only [gName, tSeq]
    refine ⟨_, rfl, ?_⟩
    refine lc_rows (p := p) (m := 6) hp9 (by decide) (fun _ => rfl) (fun k Hk pk ok R r => ?_) (fun Dr es Ha nDr eDr ler hes hpa oa => ?_)
    · refine ⟨_, rfl, _, rfl, _, rfl, p, D8, n, bs8, rows8, rfl, pk, ok _ _ nD8p eD89, PySem.Paired.map hb89 (fun b hb r e => ok _ _ (fresh_p hp6 (nb8 b hb)) e), fun r hr => hpl r (hmem r hr), ?_, by omega, n300, r⟩
      have hin : rgI n ∈ rows8 := by
        rw [← hrw]
        refine List.mem_filter.mpr ⟨?_, ?_⟩
        · obtain ⟨r0, e0'⟩ := WdA_mono (fs := imgs n fs) (s := rgI n) (k := 0) (Nat.zero_le 128)
          rw [← hWW, e0', keyA_app]
          exact List.mem_append.mpr (.inl List.mem_cons_self)
        · have : rgI n ≠ [] := fun z => by
            have := mem_rgI (n := n) (x := 0)
            rw [z] at this
            exact absurd (this.mpr (by omega)) List.not_mem_nil
          simp [this]
      exact List.length_pos_of_mem hin
    have el9a := oa _ _ n9p el9
    refine ⟨l9, Dr, vs, es, rfl, rfl, el9a, eDr, Nat.le_of_lt (lt_line' (by omega)), fun L nL => ?_⟩
    have sL : Same Ha (upd Ha L (.lst (vs ++ es))) := Same.new nL
    have eL : (upd Ha L (.lst (vs ++ es))) L = some (.lst (vs ++ es)) := upd_same
    generalize upd Ha L (.lst (vs ++ es)) = Hb at sL eL
    have hpv : ∀ v ∈ vs ++ es, PV p Hb v := fun v hv => by
      rcases List.mem_append.mp hv with h | h
      · exact ((hvs v h).off hp9 oa).same sL
      · exact .inl ((hes v h).off (.sm sL))
    have hfb := (hf.same s09).offp oa hp9 |>.same sL
    have etlp : tl ≠ p := lst_ne etl htb hp
    have etb := sL _ _ (oa _ _ etlp (s09 _ _ etl))
    have htbb := ((htb.same s09).offp oa hp9).same sL
    have hpb := hpa.mv sL
    have oHb : Off p H Hb := (((off_same s09).tr oa).tr (off_same sL))
    refine ⟨L, rfl, ⟨_, SqL.of eL⟩, ?_⟩
    refine for_it (walk_list (xs := vs ++ es)) (fun i σ H' => ∃ v10 v11, σ = [some (.ref p), some (.ref a), some (.ref tl), some (.int n), some (.ref D), some (o.getD .non), some vt, some vp, some (.ref D8), some (.ref l9), v10, v11, none, none] ∧ Same Hb H')
      ⟨_, _, rfl, Same.refl _⟩ (fun i σ H' _ ⟨_, _, _, z⟩ => SqL.of (z _ _ eL)) ?_ ?_
    · rintro i v σ H' Hc hi ⟨v10, v11, rfl, sc⟩ ⟨rfl, ev⟩
      have pv := hpv v (List.mem_of_getElem? ev)
      obtain ⟨⟨c, hc⟩, z, hz⟩ := (pv.same sc).val (K := K) (C := T.C_Map) (n := n) (fs := fs)
      dsimp only [gName, tSeq, tAsg, tIfS, tOr, tTest, tOp, tCB, tCons, tNil, tRet, tNext]
      refine ⟨_, rfl, hz.call (Same.refl _) ?_⟩
      refine ⟨_, rfl, _, rfl, a, t, xs, n, fs, v, c, rfl, hfb.same sc, n300, hc, fun H1 s1 => .inr (.inl ⟨c, rfl, ?_⟩)⟩
      refine ⟨_, rfl, _, rfl, _, rfl, tl, ds, n, fs, v, c, rfl, sc.trans s1 _ _ etb, htbb.same (sc.trans s1), hds, n300, hc.same s1, fun H2 s2 => .inr (.inl ⟨c, rfl, ?_⟩)⟩
      refine ⟨rfl, _, rfl, itF (by simp) ?_⟩
      refine ⟨_, rfl, hz.call (s1.trans s2) ⟨_, rfl, rfl, _, rfl, itF (by simp) ?_⟩⟩
      exact ⟨_, _, rfl, (sc.trans s1).trans s2⟩
    · rintro σ H' ⟨v10, v11, rfl, sc⟩
      exact q H' (hpb.mv sc) (oHb.tr (off_same sc))
end
end My
namespace My
open PySem PySem.Spec PyProof.Rows L2 U StX PM
/-! ### the line of 300 elements, the ring -/
def lnF : PF := fun x => if 0 ≤ x ∧ x < 299 then some (x + 1) else none
def rgF : PF := fun x => if 0 ≤ x ∧ x < 300 then some ((x + 1) % 300) else none
def g29 : PF := fun x => if x = 299 then some 0 else none
theorem ln_some {x : Int} (h0 : 0 ≤ x) (h1 : x < 299) : lnF x = some (x + 1) := by unfold lnF; rw [if_pos ⟨h0, h1⟩]
theorem ln_inv {x y : Int} (h : lnF x = some y) : 0 ≤ x ∧ x < 299 ∧ y = x + 1 := by
  unfold lnF at h
  split at h
  · rename_i hx
    cases h
    exact ⟨hx.1, hx.2, rfl⟩
  · cases h
theorem rg_some {x : Int} (h0 : 0 ≤ x) (h1 : x < 300) : rgF x = some ((x + 1) % 300) := by unfold rgF; rw [if_pos ⟨h0, h1⟩]
theorem rg_inv {x y : Int} (h : rgF x = some y) : 0 ≤ x ∧ x < 300 ∧ y = (x + 1) % 300 := by
  unfold rgF at h
  split at h
  · rename_i hx
    cases h
    exact ⟨hx.1, hx.2, rfl⟩
  · cases h
theorem wf_ln : WF 300 lnF := by
  refine ⟨fun x y h => ?_, fun x x' y h h' => ?_⟩
  · have := ln_inv h; omega
  · have := ln_inv h; have := ln_inv h'; omega
theorem wf_rg : WF 300 rgF := by
  refine ⟨fun x y h => ?_, fun x x' y h h' => ?_⟩
  · have := rg_inv h; omega
  · have := rg_inv h; have := rg_inv h'; omega
theorem wf_g29 : WF 300 g29 := by
  refine ⟨fun x y h => ?_, fun x x' y h h' => ?_⟩
  · unfold g29 at h
    split at h
    · cases h; omega
    · cases h
  · unfold g29 at h h'
    split at h
    · split at h'
      · omega
      · cases h'
    · cases h
def seg (i : Nat) : List Int := (rgI 300).filter fun x => decide ((i : Int) ≤ x)
theorem mem_seg {i : Nat} {x : Int} : x ∈ seg i ↔ (0 ≤ x ∧ x < 300) ∧ (i : Int) ≤ x := by
  unfold seg
  rw [List.mem_filter, mem_rgI, decide_eq_true_eq]
  rfl
theorem asc_seg (i : Nat) : (seg i).Pairwise (· < ·) := (rgI_lt 300).sublist List.filter_sublist
theorem seg_0 : seg 0 = rgI 300 := List.filter_eq_self.mpr fun x hx => by
  have := mem_rgI.mp hx
  exact decide_eq_true (by omega)
theorem seg_300 : seg 300 = [] := List.eq_nil_iff_forall_not_mem.mpr fun x hx => by
  have := mem_seg.mp hx
  omega
theorem seg_ne {i j : Nat} (h : i < j) (h2 : j ≤ 300) : seg i ≠ seg j := fun z => by
  have h1 : (i : Int) ∈ seg i := mem_seg.mpr (by omega)
  rw [z] at h1
  have := mem_seg.mp h1
  omega
theorem img_seg (i : Nat) : img 300 lnF (seg i) = seg (i + 1) := by
  refine asc_eq9 (plc_img _ _ _).asc (asc_seg _) fun y => ?_
  rw [mem_img, mem_seg]
  constructor
  · rintro ⟨h, x, hx, e⟩
    have := ln_inv e
    have := mem_seg.mp hx
    exact ⟨h, by omega⟩
  · rintro ⟨h, h1⟩
    exact ⟨h, y - 1, mem_seg.mpr (by omega), by rw [ln_some (by omega) (by omega)]; congr 1; omega⟩
theorem img_ring : img 300 rgF (rgI 300) = rgI 300 := by
  refine asc_eq9 (plc_img _ _ _).asc (rgI_lt 300) fun y => ?_
  rw [mem_img, mem_rgI]
  constructor
  · exact fun h => h.1
  · intro h
    have h' : 0 ≤ y ∧ y < 300 := h
    refine ⟨h, (y + 299) % 300, mem_rgI.mpr (show 0 ≤ (y + 299) % 300 ∧ (y + 299) % 300 < 300 by omega), ?_⟩
    rw [rg_some (by omega) (by omega)]
    congr 1
    omega
theorem or_ring : orf lnF g29 = rgF := by
  funext x
  unfold orf lnF g29 rgF
  by_cases h : 0 ≤ x ∧ x < 299
  · rw [if_pos h, if_neg (show ¬ x = 299 by omega), if_pos (show 0 ≤ x ∧ x < 300 by omega)]
    show some _ = some _
    congr 1
    omega
  · rw [if_neg h, Option.none_or]
    by_cases h2 : x = 299
    · rw [if_pos h2, if_pos (show 0 ≤ x ∧ x < 300 by omega)]
      congr 1
      omega
    · rw [if_neg h2, if_neg (show ¬ (0 ≤ x ∧ x < 300) by omega)]
theorem vis1 {α : Type} [DecidableEq α] {f : α → α} {ws : WsA α} {p : α} {w : List Int} : visA [f] ws p w 1 = if f p ∈ keyA ws then [] else [(f p, w ++ [0])] := by
  rw [visA_at (j := 0) (f := f) rfl, show visA [f] ws p w 0 = [] from rfl, List.append_nil]
  rfl
def lnW (i : Nat) : List Int × List Int := (seg i, List.replicate i 0)
theorem line_W : ∀ k : Nat, k ≤ 300 → WdA (imgs 300 [lnF]) (rgI 300) k = (List.range (k + 1)).map lnW
  | 0, _ => by
    show [(rgI 300, ([] : List Int))] = [lnW 0]
    unfold lnW
    rw [seg_0]
    rfl
  | k + 1, h => by
    have ih := line_W k (by omega)
    show nxA' (imgs 300 [lnF]) k (WdA (imgs 300 [lnF]) (rgI 300) k) = _
    rw [ih]
    unfold nxA'
    have hk : ((List.range (k + 1)).map lnW)[k]? = some (lnW k) := by
      rw [List.getElem?_map, List.getElem?_range (by omega)]
      rfl
    rw [hk]
    dsimp only
    rw [List.range_succ (n := k + 1), List.map_append, List.map_singleton]
    congr 1
    show visA [img 300 lnF] _ _ _ 1 = _
    rw [vis1]
    unfold lnW
    dsimp only
    rw [img_seg, if_neg, List.replicate_succ']
    intro hm
    unfold keyA at hm
    rw [List.map_map] at hm
    obtain ⟨j, hj, e⟩ := List.mem_map.mp hm
    exact seg_ne (i := j) (j := k + 1) (List.mem_range.mp hj) h e
theorem line_F {B : Nat} (hB : 301 ≤ B) : WdA (imgs 300 [lnF]) (rgI 300) B = (List.range 301).map lnW := by
  have h1 : WdA (imgs 300 [lnF]) (rgI 300) 301 = (List.range 301).map lnW := by
    show nxA' (imgs 300 [lnF]) 300 (WdA (imgs 300 [lnF]) (rgI 300) 300) = _
    rw [line_W 300 (Nat.le_refl _)]
    unfold nxA'
    have hk : ((List.range (300 + 1)).map lnW)[300]? = some (lnW 300) := by
      rw [List.getElem?_map, List.getElem?_range (by decide)]
      rfl
    rw [hk]
    dsimp only
    have e : visA (imgs 300 [lnF]) ((List.range (300 + 1)).map lnW) (lnW 300).1 (lnW 300).2 (imgs 300 [lnF]).length = [] := by
      show visA [img 300 lnF] _ _ _ 1 = _
      rw [vis1, if_pos]
      have e1 : img 300 lnF (lnW 300).1 = (lnW 300).1 := by
        show img 300 lnF (seg 300) = seg 300
        rw [seg_300]
        exact List.eq_nil_iff_forall_not_mem.mpr fun y hy => by
          obtain ⟨_, x, hx, _⟩ := mem_img.mp hy
          exact absurd hx List.not_mem_nil
      rw [e1]
      exact List.mem_map.mpr ⟨_, List.mem_map.mpr ⟨300, List.mem_range.mpr (by decide), rfl⟩, rfl⟩
    rw [e, List.append_nil]
  rw [WdA_stop (k := 301) (by rw [h1, List.length_map, List.length_range]; exact Nat.le_refl _) hB, h1]
theorem line_len (k : Nat) : (WdA (imgs 300 [lnF]) (rgI 300) k).length ≤ 301 := by
  by_cases h : k ≤ 300
  · rw [line_W k h, List.length_map, List.length_range]; omega
  · rw [line_F (by omega), List.length_map, List.length_range]; exact Nat.le_refl _
theorem line_key {B : Nat} (hB : 301 ≤ B) : [] ∈ keyA (WdA (imgs 300 [lnF]) (rgI 300) B) := by
  rw [line_F hB]
  refine List.mem_map.mpr ⟨lnW 300, List.mem_map.mpr ⟨300, List.mem_range.mpr (by decide), rfl⟩, ?_⟩
  exact seg_300
theorem line_word {B : Nat} (hB : 301 ≤ B) {w : List Int} (h : ([], w) ∈ WdA (imgs 300 [lnF]) (rgI 300) B) : w = List.replicate 300 0 := by
  rw [line_F hB] at h
  obtain ⟨j, hj, e⟩ := List.mem_map.mp h
  have hj := List.mem_range.mp hj
  have e1 : seg j = [] := congrArg Prod.fst e
  have e2 : List.replicate j (0 : Int) = w := congrArg Prod.snd e
  have : j = 300 := by
    by_cases h3 : j < 300
    · exact absurd (e1.trans seg_300.symm) (seg_ne h3 (Nat.le_refl _))
    · omega
  rw [← e2, this]
theorem fix_vis {α : Type} [DecidableEq α] {fs : List (α → α)} {s : α} {ws : WsA α} {w : List Int} (h : ∀ f ∈ fs, f s = s) (hs : s ∈ keyA ws) : ∀ j, j ≤ fs.length → visA fs ws s w j = []
  | 0, _ => rfl
  | j + 1, hj => by
    obtain ⟨f, hf⟩ : ∃ f, fs[j]? = some f := ⟨_, List.getElem?_eq_getElem hj⟩
    have ih := fix_vis h hs (w := w) j (by omega)
    rw [visA_at hf, ih, List.append_nil, h f (List.mem_of_getElem? hf), if_pos hs]
theorem fix_W {α : Type} [DecidableEq α] {fs : List (α → α)} {s : α} (h : ∀ f ∈ fs, f s = s) : ∀ k, WdA fs s k = [(s, [])]
  | 0 => rfl
  | 1 => by
    show nxA' fs 0 [(s, [])] = _
    unfold nxA'
    show [(s, ([] : List Int))] ++ visA fs [(s, [])] s [] fs.length = _
    rw [fix_vis h (List.mem_singleton.mpr rfl) _ (Nat.le_refl _), List.append_nil]
  | k + 2 => by
    show nxA' fs (k + 1) (WdA fs s (k + 1)) = _
    rw [fix_W h (k + 1)]
    rfl
theorem full_ne : rgI 300 ≠ [] := fun z => by
  have := mem_rgI (n := 300) (x := 0)
  rw [z] at this
  exact absurd (this.mpr (by decide)) List.not_mem_nil
theorem fix_imgs : ∀ f ∈ imgs 300 [rgF, rgF], f (rgI 300) = rgI 300 := fun f hf => by
  have : f = img 300 rgF := by simpa [imgs] using hf
  rw [this]
  exact img_ring
theorem ring_hold : holdB 300 [rgF] [rgI 300] = true := by
  unfold holdB
  rw [decide_eq_true (List.mem_singleton.mpr rfl)]
  simp only [List.all_cons, List.all_nil, Bool.and_true, Bool.true_and, img_ring]
  exact decide_eq_true (List.mem_singleton.mpr rfl)
theorem lc_rangeO {wi : TI} {i : Nat} {tv : TE} {vs : List Nat} {σ : L2.St} {H : Hp} {Q : VK} {n : Nat} (o : Nat → HO)
    (hwi : ∀ R : It → Hp → Prop, R (Itr 0 n) H → wi σ H R) (hw : ∀ a, wipe ((wipe σ vs).set i a) vs = wipe σ vs) (hn : n < sizeLine)
    (hb : ∀ k : Nat, k < n → ∀ H1, L2.Same H H1 → ∀ R : VK, (∀ b H2, L2.Same H1 H2 → H1 b = none → H2 b = some (o k) → R (.ref b) H2) → tv ((wipe σ vs).set i (some (.int (k : Int)))) H1 R)
    (hq : ∀ (D : Addr) (bs : List Addr) (H' : Hp), L2.Same H H' → H D = none → H' D = some (.lst (bs.map V.ref)) → bs.length = n → (∀ (k : Nat) (b : Addr), bs[k]? = some b → H' b = some (o k)) → Q (.ref D) H') : tLc wi (gName i) tYes tv vs σ H Q := by
  refine hwi _ fun D hD => ?_
  refine lc_it (walk_range (lo := 0)) (fun k H' => L2.Same H H' ∧ ∃ bs : List Addr, H' D = some (.lst (bs.map V.ref)) ∧ bs.length = k ∧ ∀ (j : Nat) (b : Addr), bs[j]? = some b → H' b = some (o j) ∧ b ≠ D) ⟨Same.new hD, [], upd_same, rfl, fun j b e => by simp at e⟩ (fun _ _ _ _ => trivial) ?_ ?_
  · rintro k v H' H'' hk ⟨s2, bs, e1, hl, hbs⟩ ⟨rfl, ev⟩
    obtain rfl : v = V.int (k : Int) := by
      rw [ev]
      show V.int (0 + (k : Int)) = _
      rw [Int.zero_add]
    refine ⟨hw _, yes_ ?_⟩
    refine hb k hk _ s2 _ fun b H2 s3 nb eb => ?_
    have e2 := s3 _ _ e1
    have nbD : b ≠ D := fun z => by rw [z, e1] at nb; cases nb
    refine ⟨_, e2, by rw [List.length_map, hl]; exact Nat.lt_trans hk hn, Same.put (s2.trans s3) hD, bs ++ [b], by rw [upd_same, List.map_append]; rfl, by simp [hl], fun j b' e => ?_⟩
    by_cases hj : j < bs.length
    · rw [List.getElem?_append_left hj] at e
      obtain ⟨h1, h2⟩ := hbs j b' e
      exact ⟨by rw [upd_ne h2]; exact s3 _ _ h1, h2⟩
    · have hl2 := (List.getElem?_eq_some_iff.mp e).1
      rw [List.length_append, List.length_singleton] at hl2
      have ej : j = k := by omega
      subst ej
      rw [List.getElem?_append_right (by omega), hl, Nat.sub_self] at e
      cases e
      exact ⟨by rw [upd_ne nbD]; exact eb, nbD⟩
  · rintro H' ⟨s2, bs, e1, hl, hbs⟩
    exact hq D bs H' s2 hD e1 hl fun k b e => (hbs k b e).1
theorem merge_kv {m : List (Int × Int)} {g : PF} (di : DI m g) : ∃ l', mergeK [] (kvI m) = kvI l' ∧ l'.length ≤ m.length ∧ DI l' g := by
  obtain ⟨l', e', n', d', k'⟩ := merge_lk m [] di.nd
  refine ⟨l', e', by simpa using n', d' (by simp), fun z => ?_⟩
  rw [k', ← di.at_]
  cases lk m z <;> rfl
end My
namespace My
open PySem PySem.Spec PyProof.Rows L2 U StX PM
def lnL : List (Int × Int) := (List.range 299).map fun (k : Nat) => ((k : Int), (k : Int) + 1)
def rgL : List (Int × Int) := (List.range 300).map fun (k : Nat) => ((k : Int), ((k : Int) + 1) % 300)
theorem nd_pairs (m : Nat) (g : Nat → Int) : (((List.range m).map fun (k : Nat) => ((k : Int), g k)).map (·.1)).Nodup := by
  rw [List.map_map]
  exact List.Pairwise.map _ (fun a b (h : a ≠ b) (z : (a : Int) = (b : Int)) => h (Int.ofNat.inj z)) List.nodup_range
theorem di_ln : DI lnL lnF := by
  refine di_of (nd_pairs _ _) fun x y => ?_
  unfold lnL
  rw [List.mem_map]
  constructor
  · rintro ⟨k, hk, e⟩
    rw [List.mem_range] at hk
    cases e
    exact ln_some (by omega) (by omega)
  · intro h
    obtain ⟨h0, h1, rfl⟩ := ln_inv h
    exact ⟨x.toNat, List.mem_range.mpr (by omega), by rw [Int.toNat_of_nonneg h0]⟩
theorem di_rg : DI rgL rgF := by
  refine di_of (nd_pairs _ _) fun x y => ?_
  unfold rgL
  rw [List.mem_map]
  constructor
  · rintro ⟨k, hk, e⟩
    rw [List.mem_range] at hk
    cases e
    exact rg_some (by omega) (by omega)
  · intro h
    obtain ⟨h0, h1, rfl⟩ := rg_inv h
    exact ⟨x.toNat, List.mem_range.mpr (by omega), by rw [Int.toNat_of_nonneg h0]⟩
theorem di_g29 : DI [(299, 0)] g29 := by
  refine di_of (by simp) fun x y => ?_
  unfold g29
  simp only [List.mem_cons, List.not_mem_nil, or_false, Prod.mk.injEq]
  constructor
  · rintro ⟨rfl, rfl⟩
    rfl
  · intro h
    split at h
    · rename_i hx
      cases h
      exact ⟨hx, rfl⟩
    · cases h
theorem no_clash29 : ¬ PM.Clash lnF g29 := by
  rintro ⟨x, y, x', y', h1, h2, h3⟩
  obtain ⟨a1, a2, a3⟩ := ln_inv h1
  unfold g29 at h2
  split at h2
  · cases h2
    exact h3 ⟨fun z => by omega, fun z => by omega⟩
  · cases h2
/-- the pairs that a comprehension has made -/
theorem pairs_at {K : PySem.W.Frag} {H : Hp} {bs : List Addr} {m : Nat} {g : Nat → Int} (hl : bs.length = m) (hat : ∀ (k : Nat) (b : Addr), bs[k]? = some b → H b = some (.tup [.int (k : Int), .int (g k)])) :
    Paired (fun p (kv : Key × V) => SqT K H p [kV kv.1, kv.2]) bs (kvI ((List.range m).map fun (k : Nat) => ((k : Int), g k))) := by
  refine PySem.Paired.map (R := fun p (kv : Key × V) => H p = some (.tup [kV kv.1, kv.2])) ?_ fun p _ kv e => SqT.of e
  refine paired_of (by unfold kvI; rw [List.length_map, List.length_map, List.length_range, hl]) fun k b kv h1 h2 => ?_
  rw [hat k b h1]
  unfold kvI at h2
  rw [List.map_map, List.getElem?_map] at h2
  obtain ⟨j, hj, rfl⟩ := Option.map_eq_some_iff.mp h2
  have hk := (List.getElem?_eq_some_iff.mp hj).1
  rw [List.length_range] at hk
  rw [List.getElem?_range hk] at hj
  cases hj
  rfl
theorem Same.put2 {H : Hp} {p : Addr} {o o' : HO} (h : H p = none) : Same H (upd (upd H p o) p o') := Same.put (Same.new h) h
theorem disp1_of {tk tv : TE} {σ : L2.St} {H : Hp} {Q : VK} (k : Key) (v : V) (h1 : ∀ H (R : VK), R (kV k) H → tk σ H R) (h2 : ∀ H (R : VK), R v H → tv σ H R) (q : ∀ p H', H p = none → H' p = some (.dK [(k, v)]) → Same H H' → Q (.ref p) H') : tDisp [(tk, tv)] σ H Q := by
  intro p hp
  refine h1 _ _ (h2 _ _ ⟨upd_same, [(k, v)], rfl, by show 1 ≤ 15; decide, ?_⟩)
  exact q p _ hp (by rw [upd_same]; rfl) (Same.put2 hp)
section
variable {P : Program} {w : World} {K : PySem.W.Frag} {mg : Str → Option Value} {base : Heap}
theorem ok_l_great (T : Txt K mg) : FnR P w K mg base CX0 20 T.f_l_great (fun vs H Q _ => vs = [] ∧ ∀ H', Same H H' → Q (.bl true) H') := by
  refine T.A_l_great.ok sc_l_great (fun vs H Q E h => ?_) (fun cdv A outer s H vs Q E hr h => ?_)
  · obtain ⟨rfl, _⟩ := h
    rfl
  · obtain ⟨rfl, q⟩ := h
    have hu := hu_of hr
    refine ⟨_, (pss_cons (ps_set (i := 0) sc_l_great.nd rfl (Or.inl rfl) (pe_makeR T.M_Map (ok_init T) (hr.mono (by decide)) rfl T.g_Map pass0 (pa_cons pe_int (pa_cons (pe_callTy (call_dictP rfl) (by rfl) T.n_dict (by decide +kernel) (pa_cons (pe_lc (own := [("_law_at", 2)]) (g := (gName 2)) (tt := tYes) rfl sc_l_great.nd (pi_range1 rfl T.n_range (pa_cons pe_int pa_nil)) (blkOk_by (own := [("_law_at", 2)]) (N := n_l_great) (sc := defScope s_l_great) (by decide +kernel)) (fun _ _ _ _ _ => (pg_name (i := 2) sc_l_great.nd rfl (Or.inl rfl))) (fun _ _ _ _ _ => pts_nil) (fun _ _ _ _ _ => (pe_tup (pa_cons (pv 2) (pa_cons (pe_op op_add (pv 2) pe_int) pa_nil))))) pa_nil)) pa_nil))))
      (pss_cons (ps_if (PW.pt (pw_or (pt_cmpR (L2.op_neD hr.units) (pe_callR (ok_losing_word T) (hr.mono (by decide)) T.A_losing_word.kp rfl T.g_losing_word pass0 (pa_cons (pe_makeR T.M_Family (fnR_calm (okX_f_init T)) (hr.mono (by decide)) rfl T.g_Family pass0 (pa_cons (pv 0) pa_nil)) pa_nil)) (pe_op op_repT (pe_tup (pa_cons pe_int pa_nil)) pe_int) (nomark _)) (pw_or1 (pt_cmpR op_notN (pe_callR (ok_holding_sets T) (hr.mono (by decide)) T.A_holding_sets.kp rfl T.g_holding_sets pass0 (pa_cons (pe_makeR T.M_Family (fnR_calm (okX_f_init T)) (hr.mono (by decide)) rfl T.g_Family pass0 (pa_cons (pv 0) pa_nil)) pa_nil)) pe_non (nomark _)))))
        (pss_one (ps_ret pe_bl)) pss_nil)
      (pss_cons (ps_set (i := 1) sc_l_great.nd rfl (Or.inl rfl) (pe_makeR T.M_Map (ok_init T) (hr.mono (by decide)) rfl T.g_Map pass0 (pa_cons pe_int (pa_cons (pe_callTy (call_dictP rfl) (by rfl) T.n_dict (by decide +kernel) (pa_cons (pe_lc (own := [("_law_at", 2)]) (g := (gName 2)) (tt := tYes) rfl sc_l_great.nd (pi_range1 rfl T.n_range (pa_cons pe_int pa_nil)) (blkOk_by (own := [("_law_at", 2)]) (N := n_l_great) (sc := defScope s_l_great) (by decide +kernel)) (fun _ _ _ _ _ => (pg_name (i := 2) sc_l_great.nd rfl (Or.inl rfl))) (fun _ _ _ _ _ => pts_nil) (fun _ _ _ _ _ => (pe_tup (pa_cons (pv 2) (pa_cons (pe_op op_mod (pe_op op_add (pv 2) pe_int) pe_int) pa_nil))))) pa_nil)) pa_nil))))
      (pss_one (ps_ret (pe_and (pe_cmpR op_isN (pe_callR (ok_losing_word T) (hr.mono (by decide)) T.A_losing_word.kp rfl T.g_losing_word pass0 (pa_cons (pe_makeR T.M_Family (fnR_calm (okX_f_init T)) (hr.mono (by decide)) rfl T.g_Family pass0 (pa_cons (pv 1) (pa_cons (pe_op (op_bin T.o_Map.sf T.m_Map__or T.i_Map__or (ok_or T) (hr.mono (by decide)) pass0) (pv 0) (pe_makeR T.M_Map (ok_init T) (hr.mono (by decide)) rfl T.g_Map pass0 (pa_cons pe_int (pa_cons (pe_disp (pps_cons pe_int pe_int pps_nil) (by rfl) (by rfl) (fun z => by cases z) (by decide)) pa_nil)))) pa_nil))) pa_nil)) pe_non (nomark _)) (pe_one (pe_callR (ok_is_holding T) (hr.mono (by decide)) T.A_is_holding.kp rfl T.g_is_holding pass0 (pa_cons (pe_makeR T.M_Family (fnR_calm (okX_f_init T)) (hr.mono (by decide)) rfl T.g_Family pass0 (pa_cons (pv 1) pa_nil)) (pa_cons (pe_lst (pa_cons (pe_listRg rfl rfl T.n_list (prg_1 rfl T.n_range pe_int)) pa_nil)) pa_nil)))))))))), ?_⟩
    have hone : ∀ {f : PF}, ¬ ([f] : List PF) = [] := fun z => by cases z
    dsimp only [tSeq, tAsg, tMakeR, tCons, tNil, tCB, tC]
    refine lc_rangeO (n := 299) (fun k => .tup [.int (k : Int), .int ((k : Int) + 1)]) (fun R r => ⟨299, rfl, by decide, by decide, r⟩) (fun _ => rfl) (by decide) (fun k hk H1 s1 R r => ?_) (fun L bs H1 s1 nL hL hbl hat => ?_)
    · exact ⟨_, rfl, _, rfl, _, _, rfl, rfl, two_le, fun t nt => r t _ (Same.new nt) nt upd_same⟩
    refine ⟨L, bs, kvI lnL, rfl, SqL.of hL, pairs_at hbl hat, fun d1 nd1 => ?_⟩
    obtain ⟨l1, emk, hl1, di1⟩ := merge_kv di_ln
    rw [emk]
    generalize g_d1 : L2.upd _ d1 _ = H2
    obtain ⟨s_H2, e_d1⟩ := U.upd_facts g_d1 nd1
    clear g_d1
    have l299 : lnL.length = 299 := by unfold lnL; rw [List.length_map, List.length_range]
    refine fun m1 dx nm ndx ne => init_of (n := 300) e_d1 di1 wf_ln (by decide) (by decide) (by omega) nm ndx ne fun H3 s3 hm1 => ⟨rfl, ?_⟩
    have s03 := (s1.trans s_H2).trans s3
    -- the line's losing word
    refine ⟨_, rfl, fun fa dx nf ndx ne => famInit_of (n := 300) (fs := [lnF]) (.cons ⟨m1, rfl, hm1⟩ .nil) hone (by show 1 ≤ 10; decide) nf ndx ne fun t H4 s4 hf => ⟨rfl, ?_⟩⟩
    refine ⟨fa, t, _, 300, 400, [lnF], rfl, hf, by decide, by decide, fun k => Nat.le_trans (line_len k) (by decide), fun ow vw H5 how hvw s5 => ?_⟩
    obtain ⟨pw, rfl, epw⟩ : ∃ pw, vw = .ref pw ∧ H5 pw = some (.tup ((List.replicate 300 (0 : Int)).map V.int)) := by
      cases ow with
      | none => exact absurd (line_key (by decide)) how
      | some w0 =>
        obtain ⟨pw, rfl, epw⟩ := hvw
        have := line_word (by decide) how
        subst this
        exact ⟨pw, rfl, epw⟩
    refine ⟨one_le, ?_⟩
    refine fun a1 n_a1 => ?_
    generalize g_a1 : L2.upd _ a1 _ = H6
    obtain ⟨s_H6, e_a1⟩ := U.upd_facts g_a1 n_a1
    clear g_a1
    refine ⟨a1, 300, _, rfl, rfl, SqT.of e_a1, by simp, by decide, by decide, by decide, ?_⟩
    refine fun a2 n_a2 => ?_
    generalize g_a2 : L2.upd _ a2 _ = H7
    obtain ⟨s_H7, e_a2⟩ := U.upd_facts g_a2 n_a2
    clear g_a2
    rw [show (300 : Int).toNat = 300 from rfl, List.flatten_replicate_singleton, show List.replicate 300 (V.int 0) = (List.replicate 300 (0 : Int)).map V.int from (List.map_replicate).symm] at e_a2
    have s57 := s_H6.trans s_H7
    refine ⟨_, _, dpT9 (s57 _ _ epw), dpT9 e_a2, shT _, shT _, _, rfl, ?_⟩
    rw [SeqAt.eqv_refl _ (SeqAt.canLay_of_shaped (shT _))]
    refine itF rfl ?_
    have s37 := (s4.trans s5).trans s57
    have hm7 := hm1.same s37
    clear epw e_a1 e_a2 how hvw hf hm1
    refine ⟨_, rfl, fun fb dx nf ndx ne => famInit_of (n := 300) (fs := [lnF]) (.cons ⟨m1, rfl, hm7⟩ .nil) hone (by show 1 ≤ 10; decide) nf ndx ne fun tb H8 s8 hf => ⟨rfl, ?_⟩⟩
    refine ⟨fb, tb, _, 300, 400, [lnF], rfl, hf, by decide, by decide, fun k => Nat.le_trans (line_len k) (by decide), fun vp H9 hvp s9 => ?_⟩
    obtain rfl : vp = .non := by
      rcases hvp with ⟨_, h⟩ | ⟨h, _⟩
      · exact h
      · exact absurd (line_key (by decide)) h
    refine ⟨rfl, _, rfl, itF (by simp) ?_⟩
    have s09 := ((s03.trans s37).trans s8).trans s9
    have hm9 := (hm7.same s8).same s9
    clear hvp hf hm7
    -- the ring
    dsimp only [tNext, tSeq, tAsg, tMakeR, tCons, tNil, tCB, tC]
    refine lc_rangeO (n := 300) (fun k => .tup [.int (k : Int), .int (((k : Int) + 1) % 300)]) (fun R r => ⟨300, rfl, by decide, by decide, r⟩) (fun _ => rfl) (by decide) (fun k hk H1 s1 R r => ?_) (fun La bs2 H10 s10 nLa hLa hbl2 hat2 => ?_)
    · exact ⟨_, rfl, _, rfl, _, _, rfl, rfl, _, _, rfl, rfl, (show (0 : Int) < 300 by decide), two_le, fun t nt => r t _ (Same.new nt) nt upd_same⟩
    refine ⟨La, bs2, kvI rgL, rfl, SqL.of hLa, pairs_at hbl2 hat2, fun d2 nd2 => ?_⟩
    obtain ⟨l2, emk2, hl2, di2⟩ := merge_kv di_rg
    rw [emk2]
    generalize g_d2 : L2.upd _ d2 _ = H11
    obtain ⟨s_H11, e_d2⟩ := U.upd_facts g_d2 nd2
    clear g_d2
    have l300 : rgL.length = 300 := by unfold rgL; rw [List.length_map, List.length_range]
    refine fun m2 dx nm ndx ne => init_of (n := 300) e_d2 di2 wf_rg (by decide) (by decide) (by omega) nm ndx ne fun H12 s12 hm2 => ⟨rfl, ?_⟩
    have s912 := (s10.trans s_H11).trans s12
    have hmL := hm9.same s912
    have s012 := s09.trans s912
    dsimp only [gName, tRet, tAndV, tOp, tCallR, tMakeR, tCons, tNil, tC]
    refine ⟨_, rfl, _, rfl, ?_⟩
    refine disp1_of (Sum.inl 299) (.int 0) (fun H R r => r) (fun H R r => r) fun d3 H13 nd3 ed3 s13 => ?_
    refine fun m3 dx nm ndx ne => init_of (l := [(299, 0)]) (n := 300) ed3 di_g29 wf_g29 (by decide) (by decide) (by decide) nm ndx ne fun H14 s14 hm3 => ⟨rfl, ?_⟩
    have s24 := s13.trans s14
    obtain ⟨dxa, fa1, ea1⟩ := at_map (hmL.same s24)
    obtain ⟨dxb, fb1, eb1⟩ := at_map hm3
    refine ⟨m1, dxa, fa1, m3, dxb, fb1, rfl, rfl, ea1, eb1, m1, m3, 300, lnF, g29, rfl, hmL.same s24, hm3, no_clash29, fun m4 H15 nm4 s15 hm4 => ?_⟩
    rw [or_ring] at hm4
    refine fun fc dx nf ndx ne => famInit_of (n := 300) (fs := [rgF, rgF]) (.cons ⟨m2, rfl, (hm2.same s24).same s15⟩ (.cons ⟨m4, rfl, hm4⟩ .nil)) (fun z => by cases z) (by show 2 ≤ 10; decide) nf ndx ne fun tc H16 s16 hf => ⟨rfl, ?_⟩
    have hB : ∀ k, (WdA (imgs 300 [rgF, rgF]) (rgI 300) k).length ≤ 1 := fun k => by rw [fix_W fix_imgs]; exact Nat.le_refl _
    refine ⟨fc, tc, _, 300, 1, [rgF, rgF], rfl, hf, by decide, by decide, hB, fun ow vw H17 how hvw s17 => ?_⟩
    obtain rfl : vw = .non := by
      cases ow with
      | none => exact hvw
      | some w0 =>
        have how : ([], w0) ∈ WdA (imgs 300 [rgF, rgF]) (rgI 300) 1 := how
        rw [fix_W fix_imgs, List.mem_singleton] at how
        exact absurd (congrArg Prod.fst how).symm full_ne
    have s12b := ((s24.trans s15).trans s16).trans s17
    refine ⟨rfl, _, rfl, itT (by simp) ?_⟩
    refine ⟨_, rfl, fun fd dx nf ndx ne => famInit_of (n := 300) (fs := [rgF]) (.cons ⟨m2, rfl, hm2.same s12b⟩ .nil) hone (by show 1 ≤ 10; decide) nf ndx ne fun td H18 s18 hfd => ⟨rfl, ?_⟩⟩
    refine ⟨300, rfl, RgOk.of_le (by decide) (by decide) (by decide) (by decide), fun R2 n_R2 => ?_⟩
    generalize g_R2 : L2.upd _ R2 _ = H19
    obtain ⟨s_H19, e_R2⟩ := U.upd_facts g_R2 n_R2
    clear g_R2
    refine ⟨one_le, ?_⟩
    refine fun R3 n_R3 => ?_
    generalize g_R3 : L2.upd _ R3 _ = H20
    obtain ⟨s_H20, e_R3⟩ := U.upd_facts g_R3 n_R3
    clear g_R3
    have er2 : H20 R2 = some (.lst ((rgI 300).map V.int)) := by rw [← rgV_0]; exact s_H20 _ _ e_R2
    have s1820 := s_H19.trans s_H20
    refine ⟨fd, td, _, 300, [rgF], .ref R3, true, rfl, hfd.same s1820, by decide, .inr (.inr ⟨R3, [R2], [rgI 300], rfl, e_R3, by show 1 ≤ 1000; decide, .cons er2 .nil, fun r hr => ?_, ring_hold.symm⟩), fun H21 s21 => ?_⟩
    · rw [List.mem_singleton.mp hr]
      exact ⟨full_ne, plc_full 300⟩
    exact q H21 ((((s012.trans s12b).trans s18).trans s1820).trans s21)
end
end My
namespace My
open PySem L2 U StX PM
theorem TabsAt'.off {p : Addr} {H H' : Hp} {ds : List V} {fs : List PF} (h : TabsAt' H ds fs) (o : Off p H H') (e : ∃ xs, H p = some (.lst xs)) : TabsAt' H' ds fs := PySem.Paired.map h fun _ _ _ ⟨d, l, e1, h1, h2⟩ => ⟨d, l, e1, o _ _ (fun z => by
  obtain ⟨xs, e⟩ := e
  rw [z, e] at h1
  cases h1) h1, h2⟩
theorem lc_tabs {wi : TI} {i : Nat} {tv : TE} {vs : List Nat} {σ : L2.St} {H : Hp} {Q : VK} {p : Addr} {n : Int}
    (hwi : ∀ R : It → Hp → Prop, (∀ N H4, 1 ≤ N → N ≤ 3 → PoolAt H4 p → Off p H H4 → R (Itr 0 N) H4) → wi σ H R)
    (hw : ∀ a, wipe ((wipe σ vs).set i a) vs = wipe σ vs)
    (hb : ∀ a H1, PoolAt H1 p → ∀ R : VK, (∀ d H5 l, H1 d = none → H5 d = some (.dK (kvI l)) → DI l (lk l) → WF n (lk l) → l.length ≤ 1000 → PoolAt H5 p → Off p H1 H5 → R (.ref d) H5) → tv ((wipe σ vs).set i a) H1 R)
    (hq : ∀ D H5 ds fs, PoolAt H5 p → Off p H H5 → H D = none → p ≠ D → H5 D = some (.lst ds) → 1 ≤ ds.length → ds.length ≤ 3 → TabsAt' H5 ds fs → (∀ f ∈ fs, WF n f) → Q (.ref D) H5) : tLc wi (gName i) tYes tv vs σ H Q := by
  refine hwi _ fun N H4 hN1 hN3 pool4 off4 => fun D hD => ?_
  have npD : p ≠ D := pool4.ne hD
  refine lc_it (walk_range (lo := 0)) (fun k H' => PoolAt H' p ∧ Off p H4 H' ∧ ∃ (ds : List V) (fs : List PF), H' D = some (.lst ds) ∧ ds.length = k ∧ TabsAt' H' ds fs ∧ ∀ f ∈ fs, WF n f)
    ⟨pool4.put npD, Off.new hD, [], [], upd_same, rfl, .nil, fun f h => nomatch h⟩ (fun _ _ _ _ => trivial) ?_ ?_
  · rintro j v H' H'' hj ⟨poolj, oj, ds, fs, e1, hdl, htb, hwf⟩ ⟨rfl, rfl⟩
    refine ⟨hw _, yes_ ?_⟩
    refine hb _ _ poolj _ fun d H5 l nd hd di wf hll pool5 off5 => ?_
    have e2 := off5 _ _ npD.symm e1
    have ndD : d ≠ D := fun z => by rw [z, e1] at nd; cases nd
    have htb5 := htb.off off5 poolj.lst
    refine ⟨_, e2, lt_line (by omega), pool5.put npD, (oj.tr off5).mut hD, ds ++ [.ref d], fs ++ [lk l], upd_same, by rw [List.length_append, hdl]; rfl, ?_, fun f hf => ?_⟩
    · refine paired_snoc (PySem.Paired.map htb5 fun v _ f ⟨d', l', a1, a2, a3⟩ => ⟨d', l', a1, by rw [upd_ne (fun z => by rw [z, e2] at a2; cases a2)]; exact a2, a3⟩) ⟨d, l, rfl, by rw [upd_ne ndD]; exact hd, di, hll⟩
    · rcases List.mem_append.mp hf with h | h
      · exact hwf f h
      · rw [List.mem_singleton] at h
        rw [h]; exact wf
  · rintro H5 ⟨pool5, off5, ds, fs, eD, hdl, htb, hwf⟩
    have nD : H D = none := by
      cases e : H D with
      | none => rfl
      | some o => exact absurd (off4 _ _ npD.symm e) (by rw [hD]; intro z; cases z)
    exact hq D H5 ds fs pool5 (off4.tr off5) nD npD eD (by omega) (by omega) htb hwf
theorem nx_cut {a rest : TS} {D : Ends} {r : VK} {b c : L2.St → Hp → Prop} {σ : L2.St} {H : Hp} (M : L2.St → Hp → Prop) (h : ∀ nx : L2.St → Hp → Prop, (∀ σ' H', M σ' H' → nx σ' H') → a { D with nx := nx } σ H) (hM : ∀ σ' H', M σ' H' → rest D σ' H') : Ends.nx { nx := tSeq a rest D, rt := r, bk := b, ct := c } σ H := h _ hM
theorem lc_maps {C : Addr} {K : PySem.W.Frag} {te : TE} {i : Nat} {tv : TE} {vs : List Nat} {σ : L2.St} {H : Hp} {Q : VK} {a : Addr} {ds : List V} {n : Int} {fs : List PF} (hte : ∀ R : VK, R (.ref a) H → te σ H R) (ha : H a = some (.lst ds)) (hfl : ds.length = fs.length)
    (hw : ∀ a, wipe ((wipe σ vs).set i a) vs = wipe σ vs) (hz : ds.length < sizeLine)
    (hb : ∀ (k : Nat) (v : V) (f : PF), ds[k]? = some v → fs[k]? = some f → ∀ H1, Same H H1 → ∀ R : VK, (∀ m H2, Same H1 H2 → IsMap C H2 m n f → R (.ref m) H2) → tv ((wipe σ vs).set i (some v)) H1 R)
    (hq : ∀ (D : Addr) (ms : List V) (H' : Hp), Same H H' → H D = none → H' D = some (.lst ms) → MapsAt C H' n ms fs → Q (.ref D) H') : tLc (iList K te) (gName i) tYes tv vs σ H Q := by
  refine hte _ ⟨a, rfl, ⟨_, SqL.of ha⟩, fun D hD => ?_⟩
  refine lc_it (walk_list (xs := ds)) (fun k H' => Same H H' ∧ ∃ ms : List V, H' D = some (.lst ms) ∧ MapsAt C H' n ms (fs.take k)) ⟨Same.new hD, [], upd_same, .nil⟩ (fun k H' _ p => SqL.of (p.1 _ _ ha)) ?_ ?_
  · rintro k v H' H'' hk ⟨s1, ms, e1, hm⟩ ⟨rfl, ev⟩
    obtain ⟨f, hf⟩ : ∃ f, fs[k]? = some f := ⟨_, List.getElem?_eq_getElem (by omega)⟩
    refine ⟨hw _, yes_ ?_⟩
    refine hb k v f ev hf _ s1 _ fun m H2 s2 hmm => ?_
    have e2 := s2 _ _ e1
    have hln := paired_len hm
    rw [List.length_take] at hln
    refine ⟨_, e2, by omega, Same.put (s1.trans s2) hD, ms ++ [.ref m], upd_same, ?_⟩
    rw [take_more hf]
    refine paired_snoc (PySem.Paired.map (hm.same s2) fun v _ g ⟨b, eb, hb⟩ => ⟨b, eb, hb.off Off.lock ⟨_, e2⟩⟩) ⟨m, rfl, hmm.off Off.lock ⟨_, e2⟩⟩
  · rintro H' ⟨s1, ms, e1, hm⟩
    rw [hfl, List.take_length] at hm
    exact hq D ms H' s1 hD e1 hm
theorem ixN_0 {n : Nat} (h : 0 < n) : ixN n 0 = some 0 := by
  unfold ixN
  rw [if_pos (by omega), if_pos (by omega)]
  simp
/-- the ring of n elements -/
def rgN (n : Nat) : PF := fun x => if 0 ≤ x ∧ x < n then some ((x + 1) % n) else none
theorem rgN_some {n : Nat} {x : Int} (h0 : 0 ≤ x) (h1 : x < n) : rgN n x = some ((x + 1) % n) := by unfold rgN; rw [if_pos ⟨h0, h1⟩]
theorem rgN_inv {n : Nat} {x y : Int} (h : rgN n x = some y) : 0 ≤ x ∧ x < n ∧ y = (x + 1) % n := by
  unfold rgN at h
  split at h
  · rename_i hx
    cases h
    exact ⟨hx.1, hx.2, rfl⟩
  · cases h
theorem wf_rgN (n : Nat) : WF n (rgN n) := by
  refine ⟨fun x y h => ?_, fun x x' y h h' => ?_⟩
  · obtain ⟨a, b, rfl⟩ := rgN_inv h
    have h1 := Int.emod_nonneg (x + 1) (show (n : Int) ≠ 0 by omega)
    have h2 := Int.emod_lt_of_pos (x + 1) (show (0 : Int) < n by omega)
    exact ⟨a, b, h1, h2⟩
  · obtain ⟨a, b, e⟩ := rgN_inv h
    obtain ⟨a', b', e'⟩ := rgN_inv h'
    rw [e] at e'
    have key : ∀ z : Int, 0 ≤ z → z < n → (z + 1) % n = if z + 1 = n then 0 else z + 1 := fun z h0 h1 => by
      split
      · rename_i h; rw [h, Int.emod_self]
      · exact Int.emod_eq_of_lt (by omega) (by omega)
    rw [key x a b, key x' a' b'] at e'
    split at e' <;> split at e' <;> omega
def rgL9 (n : Nat) : List (Int × Int) := (List.range n).map fun (k : Nat) => ((k : Int), ((k : Int) + 1) % n)
theorem di_rgN (n : Nat) : DI (rgL9 n) (rgN n) := by
  refine di_of (nd_pairs _ _) fun x y => ?_
  unfold rgL9
  rw [List.mem_map]
  constructor
  · rintro ⟨k, hk, e⟩
    rw [List.mem_range] at hk
    cases e
    exact rgN_some (by omega) (by omega)
  · intro h
    obtain ⟨h0, h1, rfl⟩ := rgN_inv h
    exact ⟨x.toNat, List.mem_range.mpr (by omega), by rw [Int.toNat_of_nonneg h0]⟩
theorem paired_set0 {α β : Type} {R : α → β → Prop} {xs : List α} {ys : List β} (h : Paired R xs ys) {x : α} {y : β} (r : R x y) : Paired R (xs.set 0 x) (ys.set 0 y) := by
  cases h with
  | nil => exact .nil
  | cons _ t => exact .cons r t
section
variable {P : Program} {w : World} {K : PySem.W.Frag} {mg : Str → Option Value} {base : Heap}
theorem ok_law (T : Txt K mg) : FnG P w K mg base CX0 40 T.f_law (spLaw K) := by
  refine T.A_law.okG sc_law (fun vs H Q E h => ?_) (fun cdv A outer s H vs Q E gd hr h => ?_)
  · obtain ⟨a, ns, rfl, _⟩ := h
    rfl
  · obtain ⟨a, ns, rfl, hS, hl, q⟩ := h
    have hu := hu_of hr
    refine ⟨_, (pss_cons (ps_if (pt_not (pt_val (pe_call0R (ok_l_great T) (hr.mono (by decide)) T.A_l_great.kp rfl T.g_l_great pass0)))
        (pss_one (ps_ret pe_bl)) pss_nil)
      (pss_cons (ps_for PassesOwn.never rfl (pi_range1 rfl T.n_range (pa_cons (pe_callB (call_max2 rfl) (by rfl) T.n_max (by decide +kernel) (pa_cons pe_int (pa_cons (pe_callB (call_min2 rfl) (by rfl) T.n_min (by decide +kernel) (pa_cons (pe_callB call_len_seq (by rfl) T.n_len (by decide +kernel) (pa_cons (pv 0) pa_nil)) (pa_cons pe_int pa_nil))) pa_nil))) pa_nil)) (pg_name (i := 1) sc_law.nd rfl (Or.inl rfl))
        (pss_cons (ps_set (i := 2) sc_law.nd rfl (Or.inr rfl) (pe_callR (ok_hand T) (hr.mono (by decide)) T.A_l_hand.kp rfl T.g_l_hand pass0 (pa_cons (pv 0) (pa_cons (pv 1) pa_nil))))
      (pss_one (ps_for PassesOwn.never rfl (pi_range1 rfl T.n_range (pa_cons pe_int pa_nil)) (pg_name (i := 3) sc_law.nd rfl (Or.inl rfl))
        (pss_cons (ps_set (i := 4) sc_law.nd rfl (Or.inr rfl) (pe_op op_add pe_int (pe_callR (ok_draw T) (hr.mono (by decide)) T.A_l_draw.kp rfl T.g_l_draw pass0 (pa_cons (pv 2) (pa_cons pe_int pa_nil)))))
      (pss_cons (ps_setLc (i := 5) (own := [("_law_index", 6)]) (g := (gName 6)) (tt := tYes) rfl sc_law.nd rfl rfl (sw_true rfl rfl rfl (by decide +kernel)) (pi_range1 rfl T.n_range (pa_cons (pe_op op_add pe_int (pe_callR (ok_draw T) (hr.mono (by decide)) T.A_l_draw.kp rfl T.g_l_draw pass0 (pa_cons (pv 2) (pa_cons pe_int pa_nil)))) pa_nil)) (blkOk_by (own := [("_law_index", 6)]) (N := n_law) (sc := defScope s_law) (by decide +kernel)) (fun _ _ _ _ _ => (pg_name (i := 6) sc_law.nd rfl (Or.inl rfl))) (fun _ _ _ _ _ => pts_nil) (fun _ _ _ _ _ => (pe_callR (ok_l_arrR T) (hr.mono (by decide)) T.A_l_arrows.kp rfl T.g_l_arrows pass0 (pa_cons (pv 2) (pa_cons (pv 4) pa_nil)))))
      (pss_cons (ps_if (pt_cmpR op_eq (pe_callR (ok_draw T) (hr.mono (by decide)) T.A_l_draw.kp rfl T.g_l_draw pass0 (pa_cons (pv 2) (pa_cons pe_int pa_nil))) pe_int (nomark _))
        (pss_one (ps_asg (pe_callTy (call_dictP rfl) (by rfl) T.n_dict (by decide +kernel) (pa_cons (pe_lc (own := [("_law_at", 7)]) (g := (gName 7)) (tt := tYes) rfl sc_law.nd (pi_range1 rfl T.n_range (pa_cons (pv 4) pa_nil)) (blkOk_by (own := [("_law_at", 7)]) (N := n_law) (sc := defScope s_law) (by decide +kernel)) (fun _ _ _ _ _ => (pg_name (i := 7) sc_law.nd rfl (Or.inl rfl))) (fun _ _ _ _ _ => pts_nil) (fun _ _ _ _ _ => (pe_tup (pa_cons (pv 7) (pa_cons (pe_op op_mod (pe_op op_add (pv 7) pe_int) (pv 4)) pa_nil))))) pa_nil)) (pg_sub (pv 5) pe_int set_list))) pss_nil)
      (pss_one (ps_if (pt_not (pt_val (pe_callG (ok_l_right T) gd (hr.mono (by decide)) T.A_l_right.kp rfl T.g_l_right pass0 (pa_cons (pv 2) (pa_cons (pe_callR (ok_l_family T) (hr.mono (by decide)) T.A_l_family.kp rfl T.g_l_family pass0 (pa_cons (pe_lc (own := [("_law_table", 8)]) (g := (gName 8)) (tt := tYes) rfl sc_law.nd (pi_list (pv 5)) (blkOk_by (own := [("_law_table", 8)]) (N := n_law) (sc := defScope s_law) (by decide +kernel)) (fun _ _ _ _ _ => (pg_name (i := 8) sc_law.nd rfl (Or.inl rfl))) (fun _ _ _ _ _ => pts_nil) (fun _ _ _ _ _ => (pe_makeR T.M_Map (ok_init T) (hr.mono (by decide)) rfl T.g_Map pass0 (pa_cons (pv 4) (pa_cons (pv 8) pa_nil))))) pa_nil)) (pa_cons (pv 5) (pa_cons (pv 4) pa_nil)))))))
        (pss_one (ps_ret pe_bl)) pss_nil)))))))))
      (pss_one (ps_ret pe_bl)))), ?_⟩
    refine ⟨rfl, fun H0 s0 => ⟨_, rfl, iteF ?_⟩⟩
    have hS := SqL.same hS s0
    refine ⟨_, rfl, a, _, rfl, .inl hS, _, _, rfl, _, _, rfl, _, rfl, ?_, ?_, ?_⟩
    · rw [List.length_map]; (repeat' split) <;> omega
    · rw [List.length_map]; (repeat' split) <;> omega
    refine for_it (walk_range (lo := 0)) (fun i σ H' => ∃ v1 v2 v3 v4 v5 v6 v7 v8, σ = [some (.ref a), v1, v2, v3, v4, v5, v6, v7, v8] ∧ Same H0 H')
      ⟨_, _, _, _, _, _, _, _, rfl, Same.refl _⟩ (fun _ _ _ _ _ => trivial) ?_ ?_
    · rintro k v σ H' H1 hk ⟨v1, v2, v3, v4, v5, v6, v7, v8, rfl, p1⟩ ⟨rfl, rfl⟩
      refine ⟨_, rfl, _, rfl, a, ns, _, rfl, SqL.same hS p1, hl, fun p H2 x y np hp s2 hx hy hy2 => ?_⟩
      have p0 : H0 p = none := p1.free np
      have pool2 : PoolAt H2 p := ⟨x, y, hp, hx, hy, hy2⟩
      have sH2 : Same H0 H2 := p1.trans s2
      clear s2 hp np p1
      refine ⟨_, rfl, by decide, by decide, ?_⟩
      refine for_it (walk_range (lo := 0)) (fun i σ H' => ∃ v3 v4 v5 v6 v7 v8, σ = [some (.ref a), some (.int ((0 : Int) + (k : Nat))), some (.ref p), v3, v4, v5, v6, v7, v8] ∧ Same H0 H' ∧ PoolAt H' p)
        ⟨_, _, _, _, _, _, rfl, sH2, pool2⟩ (fun _ _ _ _ _ => trivial) ?_ ?_
      · clear sH2 pool2 v3 v4 v5 v6 v7 v8
        rintro j v σ H2 H2' hj ⟨v3, v4, v5, v6, v7, v8, rfl, sH2, pool2⟩ ⟨rfl, rfl⟩
        refine draw_R rfl (fun R r => r) pool2 (by decide) (by decide) fun r H3 r0 r1 pool3 off3 => ⟨_, _, rfl, rfl, ?_⟩
        obtain ⟨n, hn⟩ : ∃ n : Nat, 1 + r = (n : Int) := ⟨(1 + r).toNat, by omega⟩
        have n1 : 1 ≤ n := by omega
        have n7 : n ≤ 7 := by omega
        have sH3 : Same H0 H3 := Same.off sH2 off3 p0
        dsimp only [gName, tSeq]
        rw [hn]
        refine asg_of ?_
        refine lc_tabs (p := p) (n := n) (fun R rr => ?_) (fun _ => rfl) (fun a H1 poolj R rr => ?_) (fun D H5 ds fs pool5 off5 nD npD eD hdl1 hdl2 htb hwf => ?_)
        · refine draw_R rfl (fun R r => r) pool3 (by decide) (by decide) fun r' H4 w0 w1 pool4 off4 => ⟨_, _, rfl, rfl, _, rfl, by omega, by omega, rr _ H4 (by omega) (by omega) pool4 off4⟩
        · exact ⟨_, rfl, _, rfl, p, n, rfl, poolj, by omega, by omega, fun d H5 l nd hd di wf hll pool5 off5 => rr d H5 l nd hd di wf hll pool5 off5⟩
        have nD0 : H0 D = none := sH3.free nD
        have sH5 : Same H0 H5 := Same.off sH3 off5 p0
        refine nx_cut (fun σ H' => ∃ ds fs, σ = [some (.ref a), some (.int ((0 : Int) + (k : Nat))), some (.ref p), some (.int ((0 : Int) + (j : Nat))), some (.int n), some (.ref D), v6, v7, v8] ∧ Same H0 H' ∧ H' D = some (.lst ds) ∧ 1 ≤ ds.length ∧ ds.length ≤ 3 ∧ TabsAt' H' ds fs ∧ (∀ f ∈ fs, WF n f) ∧ PoolAt H' p) (fun nx fin => ?_) ?_
        · refine draw_R rfl (fun R r => r) pool5 (by decide) (by decide) fun r2 H6 z0 z1 pool6 off6 => ⟨rfl, _, rfl, ?_⟩
          have eD6 := off6 _ _ npD.symm eD
          have htb6 := htb.off off6 pool5.lst
          have sH6 : Same H0 H6 := Same.off sH5 off6 p0
          refine ifB (fun z => ?_) (fun z => ?_)
          · dsimp only [tAsg, tCB, tCons, tNil, gSub]
            refine lc_rangeO (n := n) (fun k => .tup [.int (k : Int), .int (((k : Int) + 1) % n)]) (fun R r => ⟨_, rfl, n, rfl, by omega, by omega, r⟩) (fun _ => rfl) (lt_line' (by omega)) (fun k hk H1 s1 R r => ?_) (fun La bs2 H7 s7 nLa hLa hbl2 hat2 => ?_)
            · exact ⟨_, rfl, _, rfl, _, _, rfl, rfl, _, rfl, _, _, rfl, rfl, (show (0 : Int) < n by omega), two_le, fun t nt => r t _ (Same.new nt) nt upd_same⟩
            refine ⟨La, bs2, kvI (rgL9 n), rfl, SqL.of hLa, pairs_at hbl2 hat2, fun d nd => ?_⟩
            obtain ⟨l', em, hl', di'⟩ := merge_kv (di_rgN n)
            rw [em]
            have lrg : (rgL9 n).length = n := by unfold rgL9; rw [List.length_map, List.length_range]
            have s8 : Same H7 (upd H7 d (.dK (kvI l'))) := Same.new nd
            have ed8 : (upd H7 d (.dK (kvI l'))) d = some (.dK (kvI l')) := upd_same
            generalize upd H7 d (.dK (kvI l')) = H8 at s8 ed8
            have s68 := s7.trans s8
            have eD8 := s68 _ _ eD6
            have ndD : d ≠ D := fun z => by rw [z, eD8] at ed8; cases ed8
            refine ⟨_, rfl, D, ds, 0, 0, rfl, rfl, eD8, ixN_0 (by omega), fin _ _ ⟨ds.set 0 (.ref d), fs.set 0 (rgN n), rfl, Same.put (sH6.trans s68) nD0, upd_same, by rw [List.length_set]; exact hdl1, by rw [List.length_set]; exact hdl2, ?_, fun f hf => ?_, (pool6.mv s68).put npD⟩⟩
            · refine paired_set0 (PySem.Paired.map (htb6.same s68) fun v _ f ⟨d', l'', a1, a2, a3⟩ => ⟨d', l'', a1, by rw [upd_ne (fun z => by rw [z, eD8] at a2; cases a2)]; exact a2, a3⟩) ⟨d, l', rfl, by rw [upd_ne ndD]; exact ed8, di', by omega⟩
            · rcases List.mem_or_eq_of_mem_set hf with h | h
              · exact hwf f h
              · rw [h]; exact wf_rgN n
          · exact fin _ _ ⟨ds, fs, rfl, sH6, eD6, hdl1, by omega, htb6, hwf, pool6⟩
        · clear hdl1 hdl2 htb hwf eD pool5 off5 sH5 pool3 off3 pool2
          rintro σ H6 ⟨ds, fs, rfl, sH6, eD, hdl1, hdl2, htb, hwf, pool6⟩
          have hfl : ds.length = fs.length := paired_len htb
          dsimp only [tIfS, tNot, tB, tCallR, tCons, tNil]
          refine ⟨_, rfl, ?_⟩
          refine lc_maps (C := T.C_Map) (n := n) (fs := fs) (fun R r => ⟨_, rfl, r⟩) eD hfl (fun _ => rfl) (lt_line (by omega)) (fun j v f hv hf H7 s7 R rr => ?_) (fun M ms H7 s7 nM hM hms => ?_)
          · obtain ⟨f', hf', d, l, rfl, hd, di, hll⟩ := paired_at htb hv
            rw [hf] at hf'
            cases hf'
            exact ⟨_, rfl, _, rfl, fun m dx nm ndx ne => init_of (s7 _ _ hd) di (hwf f (List.mem_of_getElem? hf)) (by omega) (by omega) hll nm ndx ne fun H8 s8 hm => ⟨rfl, rr m H8 s8 hm⟩⟩
          · refine ⟨M, _, n, fs, rfl, hM, hms, fun z => by rw [z, List.length_nil] at hfl; omega, by rw [paired_len hms]; omega, fun fa t H8 s8 hfam => ?_⟩
            have s68 := s7.trans s8
            exact ⟨_, rfl, _, rfl, p, fa, t, D, _, ds, n, fs, rfl, pool6.mv s68, hfam, s68 _ _ eD, htb.same s68, n1, n7, fun H9 pool9 off9 => ⟨_, rfl, iteF ⟨_, _, _, _, _, _, rfl, Same.off (sH6.trans s68) off9 p0, pool9⟩⟩⟩
      · rintro σ H' ⟨v3, v4, v5, v6, v7, v8, rfl, p1, _⟩
        exact ⟨_, _, _, _, _, _, _, _, rfl, p1⟩
    · rintro σ H' ⟨v1, v2, v3, v4, v5, v6, v7, v8, rfl, p1⟩
      exact q H'
end
end My
namespace My
open PySem L2
theorem walk {l : PySem.W.OpenLaw} {q : Program} {loose : List Str} {XP : (Str → Option Value) → Heap → Prop} {YP : World → Heap → Prop} {d : DefRec} {K : Params → PySem.W.Frag} (hn : l.most = some 63) (hdf : d.params.defaults = []) (hnm : d.name = "law")
    (hY : ∀ (w : World) (h : Heap), YP w h → (K w.params).In h)
    (ok : ∀ (P : Program) (w : World) (K : PySem.W.Frag) (mg : Str → Option Value) (base : Heap) (T : Txt K mg), U.FnG P w K mg base CX0 40 T.f_law (spLaw K))
    (F : ∀ (w : World) (mg : Str → Option Value) (h : Heap), (K w.params).In h → h.Ns mainGlobals mg → Nonempty (Txt (K w.params) mg)) :
    PySem.W.WalkO q loose XP YP l.row.toRowW d [] (fun f vs => PySem.call f vs) := by
  refine U.walkG (n := 63) (k := 40) (sp := spLaw) hn (by decide) hdf ⟨rfl, by decide, by decide⟩ hY ?_ (fun K H a ns hl hS => ⟨a, ns, rfl, hS, hl, fun _ => rfl⟩)
  intro w mg fa h KX G hmg base
  obtain ⟨T⟩ := F w mg h KX G
  rw [hnm, T.g_law] at hmg
  cases hmg
  exact ok _ _ _ _ _ T
end My
local macro_rules | `(tactic| first | refine $t:term | fail $s:str) => do { let t2 ← t.raw.replaceM fun n => (do { if n.getKind == `Lean.Parser.Term.syntheticHole then { let nm := n[1].getId.eraseMacroScopes; if nm == `hl then { return some (Lean.mkIdent `My.hl) } else { return none } } else { return none } }); `(tactic| refine $(⟨t2⟩)) }
open PySem PySem.W PyProof.Rows
set_option maxRecDepth 100000 in
set_option maxHeartbeats 0 in
theorem PySem.Challenge.cw_chainmaps_k57_whole_losing_words_or_evid_holds : PySem.Challenge.rw_chainmaps_k57_whole_losing_words_or_evid.Holds := by
  w_on; o_law; k_headL; (case hw => w_witness2)
  k_fill
  refine My.walk (l := PySem.Challenge.rw_chainmaps_k57_whole_losing_words_or_evid) rfl rfl rfl (fun w h Y => PySem.W.kIn_of Y) (fun _ _ _ _ _ T => My.ok_law T) ?F
  case F =>
    intro w mg h KX G
    refine' My.mk_txt KX G ?a_is_integer ?l_is_integer ?c_is_integer ?k_is_integer ?a_in_range ?l_in_range ?c_in_range ?k_in_range ?a_check_size ?l_check_size ?c_check_size ?k_check_size ?a_are_arrows ?l_are_arrows ?c_are_arrows ?k_are_arrows ?a_common_size ?l_common_size ?c_common_size ?k_common_size ?a_check_map ?l_check_map ?c_check_map ?k_check_map ?a_check_all ?l_check_all ?c_check_all ?k_check_all ?a_check_many ?l_check_many ?c_check_many ?k_check_many ?a_check_word ?l_check_word ?c_check_word ?k_check_word ?a_first_clash ?l_first_clash ?c_first_clash ?k_first_clash ?a_made ?l_made ?c_made ?k_made ?a_check_family ?l_check_family ?c_check_family ?k_check_family ?a_places_after ?l_places_after ?c_places_after ?k_places_after ?a_image_of ?l_image_of ?c_image_of ?k_image_of ?a_searched ?l_searched ?c_searched ?k_searched ?a_losing_word ?l_losing_word ?c_losing_word ?k_losing_word ?a_holding_sets ?l_holding_sets ?c_holding_sets ?k_holding_sets ?a_is_set ?l_is_set ?c_is_set ?k_is_set ?a_is_holding ?l_is_holding ?c_is_holding ?k_is_holding ?a_l_hand ?l_l_hand ?c_l_hand ?k_l_hand ?a_l_draw ?l_l_draw ?c_l_draw ?k_l_draw ?a_l_arrows ?l_l_arrows ?c_l_arrows ?k_l_arrows ?a_l_family ?l_l_family ?c_l_family ?k_l_family ?a_l_image ?l_l_image ?c_l_image ?k_l_image ?a_l_search ?l_l_search ?c_l_search ?k_l_search ?a_l_is_list ?l_l_is_list ?c_l_is_list ?k_l_is_list ?a_l_is ?l_l_is ?c_l_is ?k_l_is ?a_l_bent ?l_l_bent ?c_l_bent ?k_l_bent ?a_l_right ?l_l_right ?c_l_right ?k_l_right ?a_l_great ?l_l_great ?c_l_great ?k_l_great ?a_law ?l_law ?c_law ?k_law ?a_Map ?pg_Map ?hd_Map ?po_Map ?sa_Map ?sf_Map ?ca_Map ?cn_Map ?ct_Map ?cm_Map ?kc_Map ?kit_int_Map ?kit_bool_Map ?kit_list_Map ?kit_tuple_Map ?kn_NoneType_Map ?nf_NoneType_Map ?kn_int_Map ?nf_int_Map ?kn_bool_Map ?nf_bool_Map ?kn_str_Map ?nf_str_Map ?kn_list_Map ?nf_list_Map ?kn_dict_Map ?nf_dict_Map ?kn_tuple_Map ?nf_tuple_Map ?self_Map ?na_own_size_Map ?na_own_arrows_Map ?ne_Map ?m_Map__init ?i_Map__init ?l_Map__init ?c_Map__init ?k_Map__init ?mk_Map ?rd_Map ?ga_Map ?at_Map_identity ?rc_Map_identity ?fi_Map_identity ?l_Map_identity ?c_Map_identity ?k_Map_identity ?at_Map_empty ?rc_Map_empty ?fi_Map_empty ?l_Map_empty ?c_Map_empty ?k_Map_empty ?m_Map_size ?s_get_Map_size ?tk_Map_size ?rc_Map_size ?l_Map_size ?c_Map_size ?k_Map_size ?m_Map_arrows ?s_get_Map_arrows ?tk_Map_arrows ?rc_Map_arrows ?l_Map_arrows ?c_Map_arrows ?k_Map_arrows ?m_Map__mul ?i_Map__mul ?l_Map__mul ?c_Map__mul ?k_Map__mul ?m_Map__or ?i_Map__or ?l_Map__or ?c_Map__or ?k_Map__or ?m_Map__eq ?i_Map__eq ?l_Map__eq ?c_Map__eq ?k_Map__eq ?a_Family ?pg_Family ?hd_Family ?po_Family ?sa_Family ?sf_Family ?ca_Family ?cn_Family ?ct_Family ?cm_Family ?kc_Family ?kit_int_Family ?kit_bool_Family ?kn_NoneType_Family ?nf_NoneType_Family ?kn_int_Family ?nf_int_Family ?kn_bool_Family ?nf_bool_Family ?kn_str_Family ?nf_str_Family ?kn_list_Family ?nf_list_Family ?kn_dict_Family ?nf_dict_Family ?kn_tuple_Family ?nf_tuple_Family ?self_Family ?na_own_maps_Family ?ne_Family ?m_Family__init ?i_Family__init ?l_Family__init ?c_Family__init ?k_Family__init ?mk_Family ?m_Family_maps ?s_get_Family_maps ?tk_Family_maps ?rc_Family_maps ?l_Family_maps ?c_Family_maps ?k_Family_maps ?m_Family_size ?s_get_Family_size ?tk_Family_size ?rc_Family_size ?l_Family_size ?c_Family_size ?k_Family_size ?m_Family__call ?i_Family__call ?l_Family__call ?c_Family__call ?k_Family__call ?fi_Family__call ?m_Family__add ?i_Family__add ?l_Family__add ?c_Family__add ?k_Family__add ?m_Family__len ?i_Family__len ?l_Family__len ?c_Family__len ?k_Family__len ?a_InvalidMap ?xl_InvalidMap ?sa_InvalidMap ?ex_InvalidMap ?ty_InvalidMap ?kc_InvalidMap ?hd_InvalidMap ?ga_InvalidMap ?gg_InvalidMap ?ss_InvalidMap ?ca_InvalidMap ?cn_InvalidMap ?ct_InvalidMap ?cm_InvalidMap ?kit_ValueError_InvalidMap ?na_part_InvalidMap ?m_InvalidMap__init ?ti_InvalidMap__init ?l_InvalidMap__init ?c_InvalidMap__init ?k_InvalidMap__init ?a_SizeMismatch ?xl_SizeMismatch ?sa_SizeMismatch ?ex_SizeMismatch ?ty_SizeMismatch ?kc_SizeMismatch ?hd_SizeMismatch ?ga_SizeMismatch ?gg_SizeMismatch ?ss_SizeMismatch ?ca_SizeMismatch ?cn_SizeMismatch ?ct_SizeMismatch ?cm_SizeMismatch ?kit_ValueError_SizeMismatch ?te_InvalidMap_SizeMismatch ?na_first_SizeMismatch ?na_second_SizeMismatch ?m_SizeMismatch__init ?ti_SizeMismatch__init ?l_SizeMismatch__init ?c_SizeMismatch__init ?k_SizeMismatch__init ?a_LimitExceeded ?xl_LimitExceeded ?sa_LimitExceeded ?ex_LimitExceeded ?ty_LimitExceeded ?kc_LimitExceeded ?hd_LimitExceeded ?ga_LimitExceeded ?gg_LimitExceeded ?ss_LimitExceeded ?ca_LimitExceeded ?cn_LimitExceeded ?ct_LimitExceeded ?cm_LimitExceeded ?kit_OverflowError_LimitExceeded ?te_InvalidMap_LimitExceeded ?te_SizeMismatch_LimitExceeded ?na_limit_LimitExceeded ?m_LimitExceeded__init ?ti_LimitExceeded__init ?l_LimitExceeded__init ?c_LimitExceeded__init ?k_LimitExceeded__init ?a_InvalidWord ?xl_InvalidWord ?sa_InvalidWord ?ex_InvalidWord ?ty_InvalidWord ?kc_InvalidWord ?hd_InvalidWord ?ga_InvalidWord ?gg_InvalidWord ?ss_InvalidWord ?ca_InvalidWord ?cn_InvalidWord ?ct_InvalidWord ?cm_InvalidWord ?kit_ValueError_InvalidWord ?te_InvalidMap_InvalidWord ?te_SizeMismatch_InvalidWord ?te_LimitExceeded_InvalidWord ?na_position_InvalidWord ?m_InvalidWord__init ?ti_InvalidWord__init ?l_InvalidWord__init ?c_InvalidWord__init ?k_InvalidWord__init ?a_Clash ?xl_Clash ?sa_Clash ?ex_Clash ?ty_Clash ?kc_Clash ?hd_Clash ?ga_Clash ?gg_Clash ?ss_Clash ?ca_Clash ?cn_Clash ?ct_Clash ?cm_Clash ?kit_RuntimeError_Clash ?te_InvalidMap_Clash ?te_SizeMismatch_Clash ?te_LimitExceeded_Clash ?te_InvalidWord_Clash ?na_first_Clash ?na_second_Clash ?m_Clash__init ?ti_Clash__init ?l_Clash__init ?c_Clash__init ?k_Clash__init ?z_isinstance ?z_int ?z_bool ?z_dict ?z_len ?z_range ?z_list ?z_tuple ?z_max ?z_min ?z_enumerate ?z_repr ?z_any ?z_all ?z_zip ?z_sorted ?z_ValueError ?z_OverflowError ?v_MAX_SIZE ?v_MOST_MAPS ?v_MOST_LETTERS ?v_MOST_SETS ?kit_x_Map_Family ?nf_x_Map_Family
    (case a_is_integer => as_aux_lemma => k_is)
    (case l_is_integer => as_aux_lemma => k_is)
    (case c_is_integer => as_aux_lemma => k_is)
    (case k_is_integer => as_aux_lemma => k_is)
    (case a_in_range => as_aux_lemma => k_is)
    (case l_in_range => as_aux_lemma => k_is)
    (case c_in_range => as_aux_lemma => k_is)
    (case k_in_range => as_aux_lemma => k_is)
    (case a_check_size => as_aux_lemma => k_is)
    (case l_check_size => as_aux_lemma => k_is)
    (case c_check_size => as_aux_lemma => k_is)
    (case k_check_size => as_aux_lemma => k_is)
    (case a_are_arrows => as_aux_lemma => k_is)
    (case l_are_arrows => as_aux_lemma => k_is)
    (case c_are_arrows => as_aux_lemma => k_is)
    (case k_are_arrows => as_aux_lemma => k_is)
    (case a_common_size => as_aux_lemma => k_is)
    (case l_common_size => as_aux_lemma => k_is)
    (case c_common_size => as_aux_lemma => k_is)
    (case k_common_size => as_aux_lemma => k_is)
    (case a_check_map => as_aux_lemma => k_is)
    (case l_check_map => as_aux_lemma => k_is)
    (case c_check_map => as_aux_lemma => k_is)
    (case k_check_map => as_aux_lemma => k_is)
    (case a_check_all => as_aux_lemma => k_is)
    (case l_check_all => as_aux_lemma => k_is)
    (case c_check_all => as_aux_lemma => k_is)
    (case k_check_all => as_aux_lemma => k_is)
    (case a_check_many => as_aux_lemma => k_is)
    (case l_check_many => as_aux_lemma => k_is)
    (case c_check_many => as_aux_lemma => k_is)
    (case k_check_many => as_aux_lemma => k_is)
    (case a_check_word => as_aux_lemma => k_is)
    (case l_check_word => as_aux_lemma => k_is)
    (case c_check_word => as_aux_lemma => k_is)
    (case k_check_word => as_aux_lemma => k_is)
    (case a_first_clash => as_aux_lemma => k_is)
    (case l_first_clash => as_aux_lemma => k_is)
    (case c_first_clash => as_aux_lemma => k_is)
    (case k_first_clash => as_aux_lemma => k_is)
    (case a_made => as_aux_lemma => k_is)
    (case l_made => as_aux_lemma => k_is)
    (case c_made => as_aux_lemma => k_is)
    (case k_made => as_aux_lemma => k_is)
    (case a_check_family => as_aux_lemma => k_is)
    (case l_check_family => as_aux_lemma => k_is)
    (case c_check_family => as_aux_lemma => k_is)
    (case k_check_family => as_aux_lemma => k_is)
    (case a_places_after => as_aux_lemma => k_is)
    (case l_places_after => as_aux_lemma => k_is)
    (case c_places_after => as_aux_lemma => k_is)
    (case k_places_after => as_aux_lemma => k_is)
    (case a_image_of => as_aux_lemma => k_is)
    (case l_image_of => as_aux_lemma => k_is)
    (case c_image_of => as_aux_lemma => k_is)
    (case k_image_of => as_aux_lemma => k_is)
    (case a_searched => as_aux_lemma => k_is)
    (case l_searched => as_aux_lemma => k_is)
    (case c_searched => as_aux_lemma => k_is)
    (case k_searched => as_aux_lemma => k_is)
    (case a_losing_word => as_aux_lemma => k_is)
    (case l_losing_word => as_aux_lemma => k_is)
    (case c_losing_word => as_aux_lemma => k_is)
    (case k_losing_word => as_aux_lemma => k_is)
    (case a_holding_sets => as_aux_lemma => k_is)
    (case l_holding_sets => as_aux_lemma => k_is)
    (case c_holding_sets => as_aux_lemma => k_is)
    (case k_holding_sets => as_aux_lemma => k_is)
    (case a_is_set => as_aux_lemma => k_is)
    (case l_is_set => as_aux_lemma => k_is)
    (case c_is_set => as_aux_lemma => k_is)
    (case k_is_set => as_aux_lemma => k_is)
    (case a_is_holding => as_aux_lemma => k_is)
    (case l_is_holding => as_aux_lemma => k_is)
    (case c_is_holding => as_aux_lemma => k_is)
    (case k_is_holding => as_aux_lemma => k_is)
    (case a_l_hand => as_aux_lemma => k_is)
    (case l_l_hand => as_aux_lemma => k_is)
    (case c_l_hand => as_aux_lemma => k_is)
    (case k_l_hand => as_aux_lemma => k_is)
    (case a_l_draw => as_aux_lemma => k_is)
    (case l_l_draw => as_aux_lemma => k_is)
    (case c_l_draw => as_aux_lemma => k_is)
    (case k_l_draw => as_aux_lemma => k_is)
    (case a_l_arrows => as_aux_lemma => k_is)
    (case l_l_arrows => as_aux_lemma => k_is)
    (case c_l_arrows => as_aux_lemma => k_is)
    (case k_l_arrows => as_aux_lemma => k_is)
    (case a_l_family => as_aux_lemma => k_is)
    (case l_l_family => as_aux_lemma => k_is)
    (case c_l_family => as_aux_lemma => k_is)
    (case k_l_family => as_aux_lemma => k_is)
    (case a_l_image => as_aux_lemma => k_is)
    (case l_l_image => as_aux_lemma => k_is)
    (case c_l_image => as_aux_lemma => k_is)
    (case k_l_image => as_aux_lemma => k_is)
    (case a_l_search => as_aux_lemma => k_is)
    (case l_l_search => as_aux_lemma => k_is)
    (case c_l_search => as_aux_lemma => k_is)
    (case k_l_search => as_aux_lemma => k_is)
    (case a_l_is_list => as_aux_lemma => k_is)
    (case l_l_is_list => as_aux_lemma => k_is)
    (case c_l_is_list => as_aux_lemma => k_is)
    (case k_l_is_list => as_aux_lemma => k_is)
    (case a_l_is => as_aux_lemma => k_is)
    (case l_l_is => as_aux_lemma => k_is)
    (case c_l_is => as_aux_lemma => k_is)
    (case k_l_is => as_aux_lemma => k_is)
    (case a_l_bent => as_aux_lemma => k_is)
    (case l_l_bent => as_aux_lemma => k_is)
    (case c_l_bent => as_aux_lemma => k_is)
    (case k_l_bent => as_aux_lemma => k_is)
    (case a_l_right => as_aux_lemma => k_is)
    (case l_l_right => as_aux_lemma => k_is)
    (case c_l_right => as_aux_lemma => k_is)
    (case k_l_right => as_aux_lemma => k_is)
    (case a_l_great => as_aux_lemma => k_is)
    (case l_l_great => as_aux_lemma => k_is)
    (case c_l_great => as_aux_lemma => k_is)
    (case k_l_great => as_aux_lemma => k_is)
    (case a_law => as_aux_lemma => k_is)
    (case l_law => as_aux_lemma => k_is)
    (case c_law => as_aux_lemma => k_is)
    (case k_law => as_aux_lemma => k_is)
    (case a_Map => as_aux_lemma => k_is)
    (case pg_Map => as_aux_lemma => k_is)
    (case hd_Map => as_aux_lemma => k_is)
    (case po_Map => as_aux_lemma => k_is)
    (case sa_Map => as_aux_lemma => k_is)
    (case sf_Map => as_aux_lemma => k_is)
    (case ca_Map => as_aux_lemma => k_is)
    (case cn_Map => as_aux_lemma => k_is)
    (case ct_Map => as_aux_lemma => k_is)
    (case cm_Map => as_aux_lemma => k_is)
    (case kc_Map => as_aux_lemma => k_is)
    (case kit_int_Map => as_aux_lemma => kernel_rfl)
    (case kit_bool_Map => as_aux_lemma => kernel_rfl)
    (case kit_list_Map => as_aux_lemma => kernel_rfl)
    (case kit_tuple_Map => as_aux_lemma => kernel_rfl)
    (case kn_NoneType_Map => as_aux_lemma => kernel_rfl)
    (case nf_NoneType_Map => as_aux_lemma => kernel_rfl)
    (case kn_int_Map => as_aux_lemma => kernel_rfl)
    (case nf_int_Map => as_aux_lemma => kernel_rfl)
    (case kn_bool_Map => as_aux_lemma => kernel_rfl)
    (case nf_bool_Map => as_aux_lemma => kernel_rfl)
    (case kn_str_Map => as_aux_lemma => kernel_rfl)
    (case nf_str_Map => as_aux_lemma => kernel_rfl)
    (case kn_list_Map => as_aux_lemma => kernel_rfl)
    (case nf_list_Map => as_aux_lemma => kernel_rfl)
    (case kn_dict_Map => as_aux_lemma => kernel_rfl)
    (case nf_dict_Map => as_aux_lemma => kernel_rfl)
    (case kn_tuple_Map => as_aux_lemma => kernel_rfl)
    (case nf_tuple_Map => as_aux_lemma => kernel_rfl)
    (case self_Map => as_aux_lemma => kernel_rfl)
    (case na_own_size_Map => as_aux_lemma => k_is)
    (case na_own_arrows_Map => as_aux_lemma => k_is)
    (case ne_Map => as_aux_lemma => k_is)
    (case m_Map__init => as_aux_lemma => k_is)
    (case i_Map__init => as_aux_lemma => k_is)
    (case l_Map__init => as_aux_lemma => k_is)
    (case c_Map__init => as_aux_lemma => k_is)
    (case k_Map__init => as_aux_lemma => k_is)
    (case mk_Map => as_aux_lemma => k_is)
    (case rd_Map => as_aux_lemma => k_is)
    (case ga_Map => as_aux_lemma => k_is)
    (case at_Map_identity => as_aux_lemma => k_is)
    (case rc_Map_identity => as_aux_lemma => k_is)
    (case fi_Map_identity => as_aux_lemma => k_is)
    (case l_Map_identity => as_aux_lemma => k_is)
    (case c_Map_identity => as_aux_lemma => k_is)
    (case k_Map_identity => as_aux_lemma => k_is)
    (case at_Map_empty => as_aux_lemma => k_is)
    (case rc_Map_empty => as_aux_lemma => k_is)
    (case fi_Map_empty => as_aux_lemma => k_is)
    (case l_Map_empty => as_aux_lemma => k_is)
    (case c_Map_empty => as_aux_lemma => k_is)
    (case k_Map_empty => as_aux_lemma => k_is)
    (case m_Map_size => as_aux_lemma => k_is)
    (case s_get_Map_size => as_aux_lemma => k_is)
    (case tk_Map_size => as_aux_lemma => k_is)
    (case rc_Map_size => as_aux_lemma => k_is)
    (case l_Map_size => as_aux_lemma => k_is)
    (case c_Map_size => as_aux_lemma => k_is)
    (case k_Map_size => as_aux_lemma => k_is)
    (case m_Map_arrows => as_aux_lemma => k_is)
    (case s_get_Map_arrows => as_aux_lemma => k_is)
    (case tk_Map_arrows => as_aux_lemma => k_is)
    (case rc_Map_arrows => as_aux_lemma => k_is)
    (case l_Map_arrows => as_aux_lemma => k_is)
    (case c_Map_arrows => as_aux_lemma => k_is)
    (case k_Map_arrows => as_aux_lemma => k_is)
    (case m_Map__mul => as_aux_lemma => k_is)
    (case i_Map__mul => as_aux_lemma => k_is)
    (case l_Map__mul => as_aux_lemma => k_is)
    (case c_Map__mul => as_aux_lemma => k_is)
    (case k_Map__mul => as_aux_lemma => k_is)
    (case m_Map__or => as_aux_lemma => k_is)
    (case i_Map__or => as_aux_lemma => k_is)
    (case l_Map__or => as_aux_lemma => k_is)
    (case c_Map__or => as_aux_lemma => k_is)
    (case k_Map__or => as_aux_lemma => k_is)
    (case m_Map__eq => as_aux_lemma => k_is)
    (case i_Map__eq => as_aux_lemma => k_is)
    (case l_Map__eq => as_aux_lemma => k_is)
    (case c_Map__eq => as_aux_lemma => k_is)
    (case k_Map__eq => as_aux_lemma => k_is)
    (case a_Family => as_aux_lemma => k_is)
    (case pg_Family => as_aux_lemma => k_is)
    (case hd_Family => as_aux_lemma => k_is)
    (case po_Family => as_aux_lemma => k_is)
    (case sa_Family => as_aux_lemma => k_is)
    (case sf_Family => as_aux_lemma => k_is)
    (case ca_Family => as_aux_lemma => k_is)
    (case cn_Family => as_aux_lemma => k_is)
    (case ct_Family => as_aux_lemma => k_is)
    (case cm_Family => as_aux_lemma => k_is)
    (case kc_Family => as_aux_lemma => k_is)
    (case kit_int_Family => as_aux_lemma => kernel_rfl)
    (case kit_bool_Family => as_aux_lemma => kernel_rfl)
    (case kn_NoneType_Family => as_aux_lemma => kernel_rfl)
    (case nf_NoneType_Family => as_aux_lemma => kernel_rfl)
    (case kn_int_Family => as_aux_lemma => kernel_rfl)
    (case nf_int_Family => as_aux_lemma => kernel_rfl)
    (case kn_bool_Family => as_aux_lemma => kernel_rfl)
    (case nf_bool_Family => as_aux_lemma => kernel_rfl)
    (case kn_str_Family => as_aux_lemma => kernel_rfl)
    (case nf_str_Family => as_aux_lemma => kernel_rfl)
    (case kn_list_Family => as_aux_lemma => kernel_rfl)
    (case nf_list_Family => as_aux_lemma => kernel_rfl)
    (case kn_dict_Family => as_aux_lemma => kernel_rfl)
    (case nf_dict_Family => as_aux_lemma => kernel_rfl)
    (case kn_tuple_Family => as_aux_lemma => kernel_rfl)
    (case nf_tuple_Family => as_aux_lemma => kernel_rfl)
    (case self_Family => as_aux_lemma => kernel_rfl)
    (case na_own_maps_Family => as_aux_lemma => k_is)
    (case ne_Family => as_aux_lemma => k_is)
    (case m_Family__init => as_aux_lemma => k_is)
    (case i_Family__init => as_aux_lemma => k_is)
    (case l_Family__init => as_aux_lemma => k_is)
    (case c_Family__init => as_aux_lemma => k_is)
    (case k_Family__init => as_aux_lemma => k_is)
    (case mk_Family => as_aux_lemma => k_is)
    (case m_Family_maps => as_aux_lemma => k_is)
    (case s_get_Family_maps => as_aux_lemma => k_is)
    (case tk_Family_maps => as_aux_lemma => k_is)
    (case rc_Family_maps => as_aux_lemma => k_is)
    (case l_Family_maps => as_aux_lemma => k_is)
    (case c_Family_maps => as_aux_lemma => k_is)
    (case k_Family_maps => as_aux_lemma => k_is)
    (case m_Family_size => as_aux_lemma => k_is)
    (case s_get_Family_size => as_aux_lemma => k_is)
    (case tk_Family_size => as_aux_lemma => k_is)
    (case rc_Family_size => as_aux_lemma => k_is)
    (case l_Family_size => as_aux_lemma => k_is)
    (case c_Family_size => as_aux_lemma => k_is)
    (case k_Family_size => as_aux_lemma => k_is)
    (case m_Family__call => as_aux_lemma => k_is)
    (case i_Family__call => as_aux_lemma => k_is)
    (case l_Family__call => as_aux_lemma => k_is)
    (case c_Family__call => as_aux_lemma => k_is)
    (case k_Family__call => as_aux_lemma => k_is)
    (case fi_Family__call => as_aux_lemma => k_is)
    (case m_Family__add => as_aux_lemma => k_is)
    (case i_Family__add => as_aux_lemma => k_is)
    (case l_Family__add => as_aux_lemma => k_is)
    (case c_Family__add => as_aux_lemma => k_is)
    (case k_Family__add => as_aux_lemma => k_is)
    (case m_Family__len => as_aux_lemma => k_is)
    (case i_Family__len => as_aux_lemma => k_is)
    (case l_Family__len => as_aux_lemma => k_is)
    (case c_Family__len => as_aux_lemma => k_is)
    (case k_Family__len => as_aux_lemma => k_is)
    (case a_InvalidMap => as_aux_lemma => k_is)
    (case xl_InvalidMap => as_aux_lemma => k_is)
    (case sa_InvalidMap => as_aux_lemma => k_is)
    (case ex_InvalidMap => as_aux_lemma => k_is)
    (case ty_InvalidMap => as_aux_lemma => k_is)
    (case kc_InvalidMap => as_aux_lemma => k_is)
    (case hd_InvalidMap => as_aux_lemma => k_is)
    (case ga_InvalidMap => as_aux_lemma => k_is)
    (case gg_InvalidMap => as_aux_lemma => k_is)
    (case ss_InvalidMap => as_aux_lemma => k_is)
    (case ca_InvalidMap => as_aux_lemma => k_is)
    (case cn_InvalidMap => as_aux_lemma => k_is)
    (case ct_InvalidMap => as_aux_lemma => k_is)
    (case cm_InvalidMap => as_aux_lemma => k_is)
    (case kit_ValueError_InvalidMap => as_aux_lemma => kernel_rfl)
    (case na_part_InvalidMap => as_aux_lemma => k_is)
    (case m_InvalidMap__init => as_aux_lemma => k_is)
    (case ti_InvalidMap__init => as_aux_lemma => k_is)
    (case l_InvalidMap__init => as_aux_lemma => k_is)
    (case c_InvalidMap__init => as_aux_lemma => k_is)
    (case k_InvalidMap__init => as_aux_lemma => k_is)
    (case a_SizeMismatch => as_aux_lemma => k_is)
    (case xl_SizeMismatch => as_aux_lemma => k_is)
    (case sa_SizeMismatch => as_aux_lemma => k_is)
    (case ex_SizeMismatch => as_aux_lemma => k_is)
    (case ty_SizeMismatch => as_aux_lemma => k_is)
    (case kc_SizeMismatch => as_aux_lemma => k_is)
    (case hd_SizeMismatch => as_aux_lemma => k_is)
    (case ga_SizeMismatch => as_aux_lemma => k_is)
    (case gg_SizeMismatch => as_aux_lemma => k_is)
    (case ss_SizeMismatch => as_aux_lemma => k_is)
    (case ca_SizeMismatch => as_aux_lemma => k_is)
    (case cn_SizeMismatch => as_aux_lemma => k_is)
    (case ct_SizeMismatch => as_aux_lemma => k_is)
    (case cm_SizeMismatch => as_aux_lemma => k_is)
    (case kit_ValueError_SizeMismatch => as_aux_lemma => kernel_rfl)
    (case te_InvalidMap_SizeMismatch => as_aux_lemma => k_is)
    (case na_first_SizeMismatch => as_aux_lemma => k_is)
    (case na_second_SizeMismatch => as_aux_lemma => k_is)
    (case m_SizeMismatch__init => as_aux_lemma => k_is)
    (case ti_SizeMismatch__init => as_aux_lemma => k_is)
    (case l_SizeMismatch__init => as_aux_lemma => k_is)
    (case c_SizeMismatch__init => as_aux_lemma => k_is)
    (case k_SizeMismatch__init => as_aux_lemma => k_is)
    (case a_LimitExceeded => as_aux_lemma => k_is)
    (case xl_LimitExceeded => as_aux_lemma => k_is)
    (case sa_LimitExceeded => as_aux_lemma => k_is)
    (case ex_LimitExceeded => as_aux_lemma => k_is)
    (case ty_LimitExceeded => as_aux_lemma => k_is)
    (case kc_LimitExceeded => as_aux_lemma => k_is)
    (case hd_LimitExceeded => as_aux_lemma => k_is)
    (case ga_LimitExceeded => as_aux_lemma => k_is)
    (case gg_LimitExceeded => as_aux_lemma => k_is)
    (case ss_LimitExceeded => as_aux_lemma => k_is)
    (case ca_LimitExceeded => as_aux_lemma => k_is)
    (case cn_LimitExceeded => as_aux_lemma => k_is)
    (case ct_LimitExceeded => as_aux_lemma => k_is)
    (case cm_LimitExceeded => as_aux_lemma => k_is)
    (case kit_OverflowError_LimitExceeded => as_aux_lemma => kernel_rfl)
    (case te_InvalidMap_LimitExceeded => as_aux_lemma => k_is)
    (case te_SizeMismatch_LimitExceeded => as_aux_lemma => k_is)
    (case na_limit_LimitExceeded => as_aux_lemma => k_is)
    (case m_LimitExceeded__init => as_aux_lemma => k_is)
    (case ti_LimitExceeded__init => as_aux_lemma => k_is)
    (case l_LimitExceeded__init => as_aux_lemma => k_is)
    (case c_LimitExceeded__init => as_aux_lemma => k_is)
    (case k_LimitExceeded__init => as_aux_lemma => k_is)
    (case a_InvalidWord => as_aux_lemma => k_is)
    (case xl_InvalidWord => as_aux_lemma => k_is)
    (case sa_InvalidWord => as_aux_lemma => k_is)
    (case ex_InvalidWord => as_aux_lemma => k_is)
    (case ty_InvalidWord => as_aux_lemma => k_is)
    (case kc_InvalidWord => as_aux_lemma => k_is)
    (case hd_InvalidWord => as_aux_lemma => k_is)
    (case ga_InvalidWord => as_aux_lemma => k_is)
    (case gg_InvalidWord => as_aux_lemma => k_is)
    (case ss_InvalidWord => as_aux_lemma => k_is)
    (case ca_InvalidWord => as_aux_lemma => k_is)
    (case cn_InvalidWord => as_aux_lemma => k_is)
    (case ct_InvalidWord => as_aux_lemma => k_is)
    (case cm_InvalidWord => as_aux_lemma => k_is)
    (case kit_ValueError_InvalidWord => as_aux_lemma => kernel_rfl)
    (case te_InvalidMap_InvalidWord => as_aux_lemma => k_is)
    (case te_SizeMismatch_InvalidWord => as_aux_lemma => k_is)
    (case te_LimitExceeded_InvalidWord => as_aux_lemma => k_is)
    (case na_position_InvalidWord => as_aux_lemma => k_is)
    (case m_InvalidWord__init => as_aux_lemma => k_is)
    (case ti_InvalidWord__init => as_aux_lemma => k_is)
    (case l_InvalidWord__init => as_aux_lemma => k_is)
    (case c_InvalidWord__init => as_aux_lemma => k_is)
    (case k_InvalidWord__init => as_aux_lemma => k_is)
    (case a_Clash => as_aux_lemma => k_is)
    (case xl_Clash => as_aux_lemma => k_is)
    (case sa_Clash => as_aux_lemma => k_is)
    (case ex_Clash => as_aux_lemma => k_is)
    (case ty_Clash => as_aux_lemma => k_is)
    (case kc_Clash => as_aux_lemma => k_is)
    (case hd_Clash => as_aux_lemma => k_is)
    (case ga_Clash => as_aux_lemma => k_is)
    (case gg_Clash => as_aux_lemma => k_is)
    (case ss_Clash => as_aux_lemma => k_is)
    (case ca_Clash => as_aux_lemma => k_is)
    (case cn_Clash => as_aux_lemma => k_is)
    (case ct_Clash => as_aux_lemma => k_is)
    (case cm_Clash => as_aux_lemma => k_is)
    (case kit_RuntimeError_Clash => as_aux_lemma => kernel_rfl)
    (case te_InvalidMap_Clash => as_aux_lemma => k_is)
    (case te_SizeMismatch_Clash => as_aux_lemma => k_is)
    (case te_LimitExceeded_Clash => as_aux_lemma => k_is)
    (case te_InvalidWord_Clash => as_aux_lemma => k_is)
    (case na_first_Clash => as_aux_lemma => k_is)
    (case na_second_Clash => as_aux_lemma => k_is)
    (case m_Clash__init => as_aux_lemma => k_is)
    (case ti_Clash__init => as_aux_lemma => k_is)
    (case l_Clash__init => as_aux_lemma => k_is)
    (case c_Clash__init => as_aux_lemma => k_is)
    (case k_Clash__init => as_aux_lemma => k_is)
    (case z_isinstance => as_aux_lemma => k_is)
    (case z_int => as_aux_lemma => k_is)
    (case z_bool => as_aux_lemma => k_is)
    (case z_dict => as_aux_lemma => k_is)
    (case z_len => as_aux_lemma => k_is)
    (case z_range => as_aux_lemma => k_is)
    (case z_list => as_aux_lemma => k_is)
    (case z_tuple => as_aux_lemma => k_is)
    (case z_max => as_aux_lemma => k_is)
    (case z_min => as_aux_lemma => k_is)
    (case z_enumerate => as_aux_lemma => k_is)
    (case z_repr => as_aux_lemma => k_is)
    (case z_any => as_aux_lemma => k_is)
    (case z_all => as_aux_lemma => k_is)
    (case z_zip => as_aux_lemma => k_is)
    (case z_sorted => as_aux_lemma => k_is)
    (case z_ValueError => as_aux_lemma => k_is)
    (case z_OverflowError => as_aux_lemma => k_is)
    (case v_MAX_SIZE => as_aux_lemma => k_is)
    (case v_MOST_MAPS => as_aux_lemma => k_is)
    (case v_MOST_LETTERS => as_aux_lemma => k_is)
    (case v_MOST_SETS => as_aux_lemma => k_is)
    (case kit_x_Map_Family => as_aux_lemma => kernel_rfl)
    (case nf_x_Map_Family => as_aux_lemma => kernel_rfl)
