import PyProof.Rows.All
import Wide.All
import OpenK.AllK
import Wide.FinOn
import KE.OsRunLaw
import PySem.Challenge.RW_chainmaps_k14_renamings
import HandS.ForMost
import HandS.ForExc
import HandS.IsInst
import HandS.More
import HandS.SlotsOwn
import HandS.Property
import HandS.ClsMeth
import HandS.DictComp
import HandS.Conv
import HandS.Walk
import HandS.NoneIn
import HandS.CallLocal
import HandS.Star
import HandS.ExcInit
import HandS.ExcField
import HandS.ExcIs
import KE.KExcInit
import KE.KExcIs
import HandS.WordsExc
import HandS.ListItems
import HandS.Style
import HandS.TryMany
import HandS.RaiseMore
import HandS.FStr
import HandS.HotCalls
import KE.KItemsList
import KE.KOpsOwn
import HandS.OwnEq
import HandS.Lambda
import HandS.EndTab
import KE.KNestM
import HandS.Deep
import HandS.Nested
import KE.KSuper
import HandS.TupMul
import KE.GoesMore
import HandS.SetBool
import KE.KeyNested
import KE.KDictKeyed
import HandS.DictTup
import KE.KDictPairs
import PyProof.ListNew
import PyProof.Rows.SetFrom
import HandS.Finally
import KE.KDictWalk
import HandS.MakeKwOnly
import PyProof.DictUpdate
import KE.SortKeyHeap
import HandS.SortInts
import HandS.Wide
import HandS.Zip
import KE.KDictZip
import KE.KDictItemsList
import PyProof.CollectWalk
import HandS.WideBits
set_option Elab.async false
set_option linter.all false
set_option maxRecDepth 100000
set_option maxHeartbeats 4000000
section
local macro_rules | `(tactic| first | refine $t:term | fail $s:str) => do { let t2 ← t.raw.replaceM fun n => (do { if n.getKind == `Lean.Parser.Term.syntheticHole then { let nm := n[1].getId.eraseMacroScopes; if nm == `hl then { return some (← `(by exact $(Lean.mkIdent `x))) } else { if nm == `hw || nm == `hc then { return some (← `(by contradiction)) } else { return none } } } else { return none } }); `(tactic| refine $(⟨t2⟩)) }
open PySem PySem.W PyProof.Rows
set_option maxRecDepth 100000 in
set_option maxHeartbeats 0 in
def My.hlStmt : Prop := by
  refine' (fun (P : Prop) (_ : P → False → PySem.Challenge.rw_chainmaps_k14_renamings.Holds) => P) _ ?h
  rotate_left
  intro x f
  w_on; o_law; k_headL
set_option maxRecDepth 100000 in
set_option maxHeartbeats 0 in
theorem My.hl : My.hlStmt := by
  refine HeadRun.left_oneK (by kernel_rfl) (by rfl) (fun s => by kernel_rfl) (Nat.ble_eq_true_of_le (Nat.le_refl _)) ?_
  intro w os
  kernel_rfl
end
namespace PySem.W
open PySem PySem.Calls PyProof.Rows
end PySem.W
namespace U
open PySem PySem.Spec PyProof.Rows L2
/-- what is asked of a plain own class -/
structure OwnC (K : PySem.W.Frag) (C : Addr) : Prop where
  cl : Cls K C
  sf : PySem.W.selfFirst K C = true
  ca : PySem.W.findIn K (.ref C) "__class__" = some (some (.builtin "object.__class__"))
  cn : PySem.W.specialIn K (.builtin "object.__class__") "__get__" = some (some (.builtin "getset_descriptor.__get__"))
  ct : PySem.W.takesIn K (.builtin "object.__class__") = some true
  cm : PySem.W.mroIn K C (.type "object") = some true
section
variable {X : Cx} {CX : CXT} {pins : List (Addr × Obj)} {σ : L2.St} {H : Hp} {s : Shared} {a C dx p g : Addr} {f : Str} {n : Nat} {sp : Sp} {E : XK} {v : V} {u : Value}
theorem ins_inst (I : Inv X pins σ H s) {fs : List (Str × V)} (ea : H a = some (.ins C dx fs)) : ∃ ox od, PySem.W.InstAt s.heap a ox C (some od) := by
  obtain ⟨mA, O, _⟩ := ins_get I.hok ea
  obtain ⟨od, J, _⟩ := O.look
  exact ⟨_, od, J⟩
/-- x op y, both instances of C -/
def rBin (C : Addr) (sp : Sp) (E : XK) : R2 := fun x y H Q => ∃ a dx fs b dy gs, x = .ref a ∧ y = .ref b ∧ H a = some (.ins C dx fs) ∧ H b = some (.ins C dy gs) ∧ sp [x, y] H Q E
theorem op_bin {op : Operator} (hc : PySem.W.selfFirst X.K C = true) (hs : PySem.W.findIn X.K (.ref C) (PySem.dunder op.info.2) = some (some (.ref g))) (hf : PySem.W.isFn X.K (.ref g) = true) (F : FnR X.prog X.w X.K X.mg X.base CX n g sp)
    (hr : Room n X.A) (hx : Passes CX X E) : OpR X (binaryOp op) (rBin C sp E) := by
  intro pins s σ H x y v u Q I rx ry h
  obtain ⟨a, dx, vs, b, dy, ws, rfl, rfl, ha, hb, q⟩ := h
  cases (show v = Value.ref a from rx)
  cases (show u = Value.ref b from ry)
  obtain ⟨ox, od, J⟩ := ins_inst I ha
  obtain ⟨oy, od', J'⟩ := ins_inst I hb
  obtain ⟨m, hF⟩ := I.fr
  refine PySem.W.binop_K (op := op) hF I.ok.mod.kin J J'.type hc hs hf ?_
  refine wpAny_mono (wpAny_call (run_fnR (us := [.ref a, .ref b]) (vs := [.ref a, .ref b]) F hr hx I (.cons rfl (.cons rfl .nil)) q)) (fun w s' z => ?_) fun _ _ x => x
  obtain ⟨z', H', I', rz, qz⟩ := z
  exact SlX.cmpback rz ⟨z', H', I', rz, qz⟩
theorem notFirst_self (K : PySem.W.Frag) (C : Addr) : PySem.W.notFirst K C (.ref C) = true := by
  unfold PySem.W.notFirst; simp
theorem op_cmp {op : CmpOp} (hop : ∀ a b, compareOp op a b = richCompare op a b) (hs : PySem.W.findIn X.K (.ref C) (cmpInfo op).2.1 = some (some (.ref g))) (hf : PySem.W.isFn X.K (.ref g) = true) (F : FnR X.prog X.w X.K X.mg X.base CX n g sp)
    (hr : Room n X.A) (hx : Passes CX X E) : OpR X (compareOp op) (rBin C sp E) := by
  intro pins s σ H x y v u Q I rx ry h
  obtain ⟨a, dx, vs, b, dy, ws, rfl, rfl, ha, hb, q⟩ := h
  cases (show v = Value.ref a from rx)
  cases (show u = Value.ref b from ry)
  obtain ⟨ox, od, J⟩ := ins_inst I ha
  obtain ⟨oy, od', J'⟩ := ins_inst I hb
  obtain ⟨m, hF⟩ := I.fr
  rw [hop]
  refine PySem.W.cmp_K (op := op) (tb := .ref C) hr.units0 hF I.ok.mod.kin J J'.type (notFirst_self _ _) hs hf ?_
  refine wpAny_mono (wpAny_call (run_fnR (us := [.ref a, .ref b]) (vs := [.ref a, .ref b]) F hr hx I (.cons rfl (.cons rfl .nil)) q)) (fun w s' z => ?_) fun _ _ x => x
  obtain ⟨z', H', I', rz, qz⟩ := z
  exact SlX.cmpback rz ⟨z', H', I', rz, qz⟩
/-- ~x -/
def rUnO (C : Addr) (sp : Sp) (E : XK) : V → Hp → VK → Prop := fun x H Q => ∃ a dx fs, x = .ref a ∧ H a = some (.ins C dx fs) ∧ sp [x] H Q E
theorem un_inv (hs : PySem.W.findIn X.K (.ref C) "__invert__" = some (some (.ref g))) (hf : PySem.W.isFn X.K (.ref g) = true) (F : FnR X.prog X.w X.K X.mg X.base CX n g sp)
    (hr : Room n X.A) (hx : Passes CX X E) : UnR X (unaryOp .Invert) (rUnO C sp E) := by
  intro pins s σ H x v Q I rx h
  obtain ⟨a, dx, vs, rfl, ha, q⟩ := h
  cases (show v = Value.ref a from rx)
  obtain ⟨ox, od, J⟩ := ins_inst I ha
  obtain ⟨m, hF⟩ := I.fr
  refine PySem.W.ksp_inv hF I.ok.mod.kin J hs hf ?_
  exact wpAny_call (run_fnR (us := [.ref a]) (vs := [.ref a]) F hr hx I (.cons rfl .nil) q)
end
end U
namespace U
open PySem PySem.Spec PyProof.Rows L2 StX
/-! ### a def of the text, with how its arguments bind -/
structure FnAt (K : PySem.W.Frag) (x qual : Str) (st : Stmt) (f : Addr) (ps : List Str) : Prop where
  ex : ∃ fd, Fun K x qual st f fd ∧ Binds K fd ps []
theorem FnAt.kp {K : PySem.W.Frag} {x qual : Str} {st : Stmt} {f : Addr} {ps : List Str} (A : FnAt K x qual st f ps) : PySem.W.keepIn K (.ref f) = true := by
  obtain ⟨fd, F, _⟩ := A.ex
  exact F.kp
section
variable {P : Program} {w : World} {K : PySem.W.Frag} {mg : Str → Option Value} {base : Heap}
theorem FnAt.ok {x qual : Str} {st : Stmt} {f : Addr} {N ps : List Str} {k : Nat} {sp : Sp} (A : FnAt K x qual st f ps) (S : FnScope N ps (defScope st)) (len : ∀ vs H Q E, sp vs H Q E → vs.length = ps.length)
    (hbody : ∀ (cdv : Value) (A : Around) (outer : List Env) (s : Shared) (H : Hp) (vs : List V) (Q : VK) (E : XK), Room k (A.deeper (envOfC qual (defScope st) s.heap.objs.size f cdv)) → sp vs H Q E →
      ∃ t, PSs (cxOf CX0 P w K mg base N qual (defScope st) f cdv A outer s H E).nox (defBody st) t ∧ t { nx := fun _ H' => Q .non H', rt := Q } (start N vs) H) : FnR P w K mg base CX0 (k + 1) f sp := by
  obtain ⟨fd, F, B⟩ := A.ex
  have R := (F.ok (P := P) (w := w) (mg := mg) (base := base) S len hbody).raw B .nil
  exact R.imp fun vs H Q E h => by rw [List.append_nil]; exact h
end
section
variable {X : Cx} {CX : CXT} {k i : Nat} {f C p g a dx : Addr} {sp : Sp} {E : XK} {x fl : Str} {e o : Expr} {es : List Expr} {ta te tf : TE} {t : TA} {pp pos : Pos} {fs : List (Str × V)}
/-- x(e, ..), x a def of the module -/
def tCallR (sp : Sp) (E : XK) (t : TA) : TE := fun σ H Q => t σ H fun vs H1 => sp vs H1 Q E
theorem pe_callR (F : FnR X.prog X.w X.K X.mg X.base CX k f sp) (hr : Room k X.A) (hk : PySem.W.keepIn X.K (.ref f) = true) (hg : Gl X x) (hm : X.mg x = some (.ref f)) (hx : Passes CX X E) (ha : PA X (e :: es) t) (hdb : (x == ("__debug__" : Str)) = false := by decide)
    (he : starEach (e :: es) X.env = (false, eval e X.env) :: starEach es X.env := by rfl) (hpl : (backTo pos (starEach es X.env)).any (·.1) = false := by rfl) : PE X (.Call (.Name x pp) (e :: es) [] pos) (tCallR sp E t) := by
  refine ⟨fun pins s σ H Q I h => ?_⟩
  refine wpAny_Call_Name_kw (ld_glob I hg hm ?_ hdb)
  refine PySem.W.callWith_K (h₀ := X.base) I.ok.mod.kin hk (thn (ha.run pos pins s σ H _ I h) fun us s1 ⟨vs, H1, I1, r, q⟩ => ⟨I1.kIn, ?_⟩) he hpl
  exact wpAny_call (run_fnR F hr hx I1 r q)
/-- e.f, a property -/
def tPropR (C : Addr) (sp : Sp) (ta : TE) : TE := fun σ H Q => ta σ H fun x H1 => ∃ a dx fs, x = .ref a ∧ H1 a = some (.ins C dx fs) ∧ sp [.ref a] H1 Q E0
theorem pe_propR (he : PE X e ta) (c : Cls X.K C) (hp : PropOf X.K C fl p g) (F : FnR X.prog X.w X.K X.mg X.base CX0 k g sp) (hr : Room (k + 1) X.A)
    (hab : attributeBase e fl X.env (eval e X.env) = eval e X.env := by rfl) : PE X (.Attribute e fl pos) (tPropR C sp ta) := by
  refine ⟨fun pins s σ H Q I h => ?_⟩
  refine attr_of hab (thn (he.run pins s σ H _ I h) fun u s1 ⟨x, H1, I1, rx, a, dx, fs, ex, ea, q⟩ => ?_)
  subst ex
  obtain rfl : u = Value.ref a := rx
  obtain ⟨mA, O, _, _, _, _⟩ := ins_get I1.hok ea
  obtain ⟨od, J, _⟩ := O.look
  obtain ⟨rest, hrec⟩ := hp.rec_
  have I2 := I1.tok (s1.toks + 1)
  have hc : (PySem.W.clsIn X.K C).isSome = true := by
    obtain ⟨cd, hc, _⟩ := PySem.W.any_some c.hd
    rw [hc]
    rfl
  refine PySem.W.get_bind I1.kIn J (PySem.W.plainGet_of (c.get fl)).1 (PySem.W.findObj_data hc hp.at_ hp.get hp.tak) (PySem.W.plainGet_of (c.get fl)).2 (wpAny_call (PySem.W.prop_get (s := { s1 with toks := s1.toks + 1 }) I1.kIn hrec ?_))
  refine codeAny_mono (F X.A.in1 X.stack { s1 with toks := s1.toks + 1 } H1 [.ref a] [.ref a] Q E0 hr.in1 I2.env0.in1 (.cons rfl .nil) q) fun r s' hq => ?_
  cases r with
  | error er => exact False.elim hq
  | ok fl =>
    cases fl with
    | ret u =>
      obtain ⟨v, H', I3, rv, q3⟩ := I2.after hq
      show wpAny _ _ (handedOut u) _ _ _
      rw [PySem.W.handedOut_of (handed_of rv)]
      exact wpAny_pure ⟨v, H', I3, rv, q3⟩
    | next => exact False.elim hq
    | brk => exact False.elim hq
    | cont => exact False.elim hq
/-- x(..), x a local that holds the class at C -/
def tMakeL (i : Nat) (C : Addr) (sp : Sp) (E : XK) (t : TA) : TE := fun σ H Q => σ[i]? = some (some (.ref C)) ∧ tMakeR C sp E t σ H Q
theorem pe_makeL (M : Mk X.K C f) (F : FnR X.prog X.w X.K X.mg X.base CX k f sp) (hr : Room (k + 1) X.A) (hN : X.N[i]? = some x) (hv : Vis X.env.scope x) (hx : Passes CX X E) (ha : PA X (e :: es) t) (hdb : (x == ("__debug__" : Str)) = false := by decide)
    (hcd : (x == ("__classdict__" : Str)) = false := by decide)
    (he : starEach (e :: es) X.env = (false, eval e X.env) :: starEach es X.env := by rfl) (hpl : (backTo pos (starEach es X.env)).any (·.1) = false := by rfl) : PE X (.Call (.Name x pp) (e :: es) [] pos) (tMakeL i C sp E t) := by
  refine ⟨fun pins s σ H Q I h => ?_⟩
  obtain ⟨hs, ht⟩ := h
  refine wpAny_Call_Name_kw (thn ((pe_var (pos := pp) hN hv hdb hcd).run pins s σ H (fun v H1 => v = .ref C ∧ H1 = H) I ⟨.ref C, hs, rfl, rfl⟩) fun u s1 ⟨v, H1, I1, r1, q1⟩ => ?_)
  obtain ⟨rfl, rfl⟩ := q1
  cases r1
  refine PySem.W.callWith_K (h₀ := X.base) I.ok.mod.kin M.kp (thn (ha.run pos pins s1 σ _ _ I1 ht) fun us s2 ⟨vs, H2, I2, r, q⟩ => ⟨I2.kIn, ?_⟩) he hpl
  exact run_makeR M F hr hx I2 r q
end
theorem ifD {c : Prop} [Decidable c] {A B : Prop} (h1 : c → A) (h2 : ¬ c → B) : if decide c = true then A else B := by
  by_cases h : c
  · rw [if_pos (decide_eq_true h)]; exact h1 h
  · rw [if_neg (by simp [h])]; exact h2 h
theorem ifN {c : Prop} [Decidable c] {A B : Prop} (h1 : ¬ c → A) (h2 : c → B) : if (!decide c) = true then A else B := by
  by_cases h : c
  · rw [if_neg (by simp [h])]; exact h2 h
  · rw [if_pos (by simp [h])]; exact h1 h
theorem ifB {c : Bool} {A B : Prop} (h1 : c = true → A) (h2 : c = false → B) : if c = true then A else B := by
  cases c with
  | true => rw [if_pos rfl]; exact h1 rfl
  | false => rw [if_neg Bool.false_ne_true]; exact h2 rfl
theorem ifNB {c : Bool} {A B : Prop} (h1 : c = false → A) (h2 : c = true → B) : if (!c) = true then A else B := by
  cases c with
  | true => exact iteF (h2 rfl)
  | false => exact iteT (h1 rfl)
end U
namespace U
open PySem PySem.Spec PyProof.Rows L2
/-- the ints' dicts compared -/
def dEq (ks ls : List (Key × V)) : Bool := ks.length == ls.length && ks.all fun p => decide (valV ls p.1 = some p.2)
def IntVals (ks : List (Key × V)) : Prop := ∀ p ∈ ks, ∃ i : Int, p.2 = .int i
theorem valV_mem {ls : List (Key × V)} {k : Key} {v : V} (h : valV ls k = some v) : ∃ p ∈ ls, p.2 = v := by
  unfold valV at h
  cases e : ls.find? (fun kv => decide (kv.1 = k)) with
  | none => rw [e] at h; cases h
  | some p =>
    rw [e] at h
    exact ⟨p, List.mem_of_find?_eq_some e, Option.some.inj h⟩
theorem hits_int {A : Around} {s : Shared} {ls : List (Key × V)} {vb : List (Key × Value)} (rb : KV ls vb) (il : IntVals ls) {ks : List (Key × V)} {va : List (Key × Value)} (ra : KV ks va) :
    IntVals ks → PySem.W.KeqHits A s vb va (ks.all fun p => decide (valV ls p.1 = some p.2)) := by
  unfold KV at ra
  induction ra with
  | nil => intro _; exact .nil
  | @cons p q ps qs h t ih =>
    intro hp
    obtain ⟨h1, h2⟩ := h
    obtain ⟨i, ei⟩ := hp p List.mem_cons_self
    obtain ⟨k, v⟩ := q
    have h1' : p.1 = k := h1
    subst h1'
    rw [ei] at h2
    obtain ⟨tk, ev⟩ := (show ∃ tk, v = Value.int i tk from h2)
    subst ev
    have rr : RelO (valV ls p.1) (valueAt vb p.1) := rb.val p.1
    rw [List.all_cons]
    cases e : valV ls p.1 with
    | none =>
      rw [e] at rr
      cases e2 : valueAt vb p.1 with
      | none => exact .miss e2
      | some y => rw [e2] at rr; exact rr.elim
    | some z =>
      rw [e] at rr
      obtain ⟨y, hy, ry⟩ := rr.some_of
      obtain ⟨p', hm, ep⟩ := valV_mem e
      obtain ⟨j, ej⟩ := il p' hm
      rw [ej] at ep
      subst ep
      obtain ⟨tk', ey⟩ := (show ∃ tk, y = Value.int j tk from ry)
      subst ey
      have b : decide (some (V.int j) = some p.2) = (i == j) := by
        rw [ei]
        by_cases h : i = j
        · subst h; simp
        · have h' : ¬ j = i := fun z => h z.symm
          simp [h, h']
      rw [b]
      exact .hit hy (SeqAt.EqAt.int_int i _ j _) (ih fun p' hm => hp p' (List.mem_cons_of_mem _ hm))
section
variable {X : Cx}
def rEqD : R2 := fun x y H Q => ∃ a b ks ls, x = .ref a ∧ y = .ref b ∧ H a = some (.dK ks) ∧ H b = some (.dK ls) ∧ IntVals ks ∧ IntVals ls ∧ Q (.bl (dEq ks ls)) H
def rNeD : R2 := fun x y H Q => ∃ a b ks ls, x = .ref a ∧ y = .ref b ∧ H a = some (.dK ks) ∧ H b = some (.dK ls) ∧ IntVals ks ∧ IntVals ls ∧ Q (.bl (!dEq ks ls)) H
theorem op_eqDI (hu : X.A.units < cLine) : OpR X (compareOp .Eq) rEqD := by
  intro pins s σ H x y v u Q I rx ry h
  obtain ⟨a, b, ks, ls, rfl, rfl, ea, eb, i1, i2, q⟩ := h
  cases (show v = Value.ref a from rx)
  cases (show u = Value.ref b from ry)
  obtain ⟨_, ya, va, ra, da⟩ := (show ObjOk X.prog X.w H s.heap a (.dK ks) from I.hok a _ ea)
  obtain ⟨_, yb, vb, rb, db⟩ := (show ObjOk X.prog X.w H s.heap b (.dK ls) from I.hok b _ eb)
  refine PySem.W.keq_eq (knd := mixKind X.prog X.w) ya yb da db hu (fun _ => hits_int rb i2 ra i1) (fin_bl I q ?_)
  unfold dEq
  rw [ra.length, rb.length]
end
end U
namespace U
open PySem PySem.Spec PyProof.Rows L2
/-! ### heaps -/
def Off (d : Addr) (H H' : Hp) : Prop := ∀ b o, b ≠ d → H b = some o → H' b = some o
theorem Same.new {H : Hp} {p : Addr} {o : HO} (h : H p = none) : L2.Same H (upd H p o) := fun b u e => by rw [upd_ne (ne_of_none e h)]; exact e
theorem Off.tr {d : Addr} {H H1 H2 : Hp} (a : Off d H H1) (b : Off d H1 H2) : Off d H H2 := fun c o hc e => b c o hc (a c o hc e)
theorem Off.lock {d : Addr} {H : Hp} {o : HO} : Off d H (upd H d o) := fun b u hb e => by rw [upd_ne hb]; exact e
theorem Off.new {d p : Addr} {H : Hp} {o : HO} (h : H p = none) : Off d H (upd H p o) := fun b u _ e => by rw [upd_ne (ne_of_none e h)]; exact e
theorem Off.free {d p : Addr} {H H' : Hp} {u : HO} (a : Off d H H') (hd : H' d = some u) (h : H' p = none) : H p = none := by
  cases e : H p with
  | none => rfl
  | some o =>
    by_cases hp : p = d
    · subst hp; rw [hd] at h; cases h
    · rw [a p o hp e] at h; cases h
theorem Off.back {d : Addr} {H H' : Hp} {u : HO} (a : Off d H H') (hd : H d = some u) : L2.Same H (upd H' d u) := fun b o e => by
  by_cases hb : b = d
  · subst hb; rw [hd] at e; cases e; exact upd_same
  · rw [upd_ne hb]; exact a b o hb e
/-- an object of the heap behind, that was not there ahead, may be changed -/
theorem Off.mut {d p : Addr} {H H' : Hp} {o : HO} (a : Off d H H') (h : H p = none) : Off d H (upd H' p o) := fun b u hb e => by rw [upd_ne (ne_of_none e h)]; exact a b u hb e
/-! ### a dict of ints -/
def kvI (l : List (Int × Int)) : List (Key × V) := l.map fun p => (Sum.inl p.1, V.int p.2)
theorem kvI_length (l : List (Int × Int)) : (kvI l).length = l.length := by simp [kvI]
theorem kvI_get {l : List (Int × Int)} {i : Nat} {k : Key} {v : V} (h : (kvI l)[i]? = some (k, v)) : ∃ x y, l[i]? = some (x, y) ∧ k = .inl x ∧ v = .int y := by
  unfold kvI at h
  rw [List.getElem?_map] at h
  cases e : l[i]? with
  | none => rw [e] at h; cases h
  | some p =>
    rw [e] at h
    obtain ⟨x, y⟩ := p
    cases h
    exact ⟨x, y, rfl, rfl, rfl⟩
def lk (l : List (Int × Int)) (x : Int) : Option Int := (l.find? fun p => decide (p.1 = x)).map (·.2)
theorem valV_kvI (l : List (Int × Int)) (x : Int) : valV (kvI l) (Sum.inl x : Key) = (lk l x).map V.int := by
  induction l with
  | nil => rfl
  | cons p r ih =>
    obtain ⟨a, b⟩ := p
    by_cases h : a = x
    · subst h
      rw [show kvI ((a, b) :: r) = (Sum.inl a, V.int b) :: kvI r from rfl, valV_pos rfl]
      simp [lk]
    · rw [show kvI ((a, b) :: r) = (Sum.inl a, V.int b) :: kvI r from rfl, valV_neg (fun z => h (Sum.inl.inj z)), ih]
      simp [lk, h]
theorem lk_none {l : List (Int × Int)} {x : Int} (h : x ∉ l.map (·.1)) : lk l x = none := by
  unfold lk
  rw [List.find?_eq_none.mpr]
  · rfl
  · intro p hp
    simp only [decide_eq_true_eq]
    exact fun e => h (List.mem_map.mpr ⟨p, hp, e⟩)
theorem lk_some {l : List (Int × Int)} (nd : (l.map (·.1)).Nodup) {x y : Int} (h : (x, y) ∈ l) : lk l x = some y := by
  induction l with
  | nil => cases h
  | cons p r ih =>
    obtain ⟨a, b⟩ := p
    rw [List.map_cons, List.nodup_cons] at nd
    rcases List.mem_cons.mp h with h | h
    · cases h; simp [lk]
    · have ne : ¬ a = x := fun z => nd.1 (by rw [z]; exact List.mem_map.mpr ⟨(x, y), h, rfl⟩)
      have := ih nd.2 h
      simpa [lk, ne] using this
theorem lk_mem {l : List (Int × Int)} {x y : Int} (h : lk l x = some y) : (x, y) ∈ l := by
  unfold lk at h
  cases e : l.find? (fun p => decide (p.1 = x)) with
  | none => rw [e] at h; cases h
  | some p =>
    rw [e] at h
    obtain ⟨a, b⟩ := p
    have h1 := List.find?_some e
    simp only [decide_eq_true_eq] at h1
    have h2 : b = y := Option.some.inj h
    subst h1 h2
    exact List.mem_of_find?_eq_some e
theorem intVals_kvI (l : List (Int × Int)) : IntVals (kvI l) := by
  intro p hp
  unfold kvI at hp
  obtain ⟨q, _, rfl⟩ := List.mem_map.mp hp
  exact ⟨q.2, rfl⟩
theorem putK_kvI {l : List (Int × Int)} {x y : Int} (h : x ∉ l.map (·.1)) : putK (kvI l) (Sum.inl x : Key) (V.int y) = kvI (l ++ [(x, y)]) := by
  have e : valV (kvI l) (Sum.inl x : Key) = none := by rw [valV_kvI, lk_none h]; rfl
  rw [putK_new _ e]
  simp [kvI]
theorem lk_append {l r : List (Int × Int)} {x : Int} : lk (l ++ r) x = (lk l x).or (lk r x) := by
  unfold lk
  rw [List.find?_append]
  cases l.find? (fun p => decide (p.1 = x)) <;> rfl
theorem lk_cons (a b : Int) (r : List (Int × Int)) (z : Int) : lk ((a, b) :: r) z = if a = z then some b else lk r z := by
  by_cases h : a = z <;> simp [lk, h]
theorem lk_mapOff (r : List (Int × Int)) (x y z : Int) (hz : ¬ z = x) : lk (r.map fun p => if p.1 = x then (p.1, y) else p) z = lk r z := by
  induction r with
  | nil => rfl
  | cons p r ih =>
    obtain ⟨a, b⟩ := p
    rw [List.map_cons]
    by_cases ha : a = x
    · subst ha
      have hz' : ¬ a = z := fun q => hz q.symm
      rw [if_pos rfl, lk_cons, lk_cons, if_neg hz', if_neg hz', ih]
    · rw [if_neg ha, lk_cons, lk_cons, ih]
theorem lk_mapPut {x y : Int} : ∀ (l : List (Int × Int)), x ∈ l.map (·.1) → ∀ z, lk (l.map fun p => if p.1 = x then (p.1, y) else p) z = if z = x then some y else lk l z
  | [], h, z => by cases h
  | (a, b) :: r, h, z => by
    by_cases hz : z = x
    · subst hz
      rw [if_pos rfl, List.map_cons]
      by_cases ha : a = z
      · subst ha
        rw [if_pos rfl, lk_cons, if_pos rfl]
      · rw [if_neg ha, lk_cons, if_neg ha]
        have h' : z ∈ r.map (·.1) := by
          rcases List.mem_cons.mp h with q | q
          · exact absurd q.symm ha
          · exact q
        rw [lk_mapPut r h' z, if_pos rfl]
    · rw [if_neg hz, lk_mapOff _ _ _ _ hz]
theorem putK_lk {l : List (Int × Int)} {x y : Int} : ∃ l', putK (kvI l) (Sum.inl x : Key) (V.int y) = kvI l' ∧ l'.length ≤ l.length + 1 ∧ ((l.map (·.1)).Nodup → (l'.map (·.1)).Nodup) ∧ ∀ z, lk l' z = if z = x then some y else lk l z := by
  by_cases h : x ∈ l.map (·.1)
  · refine ⟨l.map fun p => if p.1 = x then (p.1, y) else p, ?_, by simp, fun nd => ?_, fun z => ?_⟩
    · unfold putK
      rw [if_pos (by
        obtain ⟨p, hp, e⟩ := List.mem_map.mp h
        rw [List.any_eq_true]
        exact ⟨(Sum.inl p.1, V.int p.2), List.mem_map.mpr ⟨p, hp, rfl⟩, by simp [e]⟩)]
      unfold kvI
      rw [List.map_map, List.map_map]
      refine List.map_congr_left fun p _ => ?_
      by_cases e : p.1 = x
      · simp [e]
      · have e' : ¬ (Sum.inl p.1 : Key) = Sum.inl x := fun q => e (Sum.inl.inj q)
        simp [e]
    · have e : (l.map fun p => if p.1 = x then (p.1, y) else p).map (·.1) = l.map (·.1) := by
        rw [List.map_map]
        refine List.map_congr_left fun p _ => ?_
        by_cases e : p.1 = x <;> simp [e]
      rw [e]; exact nd
    · exact lk_mapPut l h z
  · refine ⟨l ++ [(x, y)], putK_kvI h, by simp, fun nd => ?_, fun z => ?_⟩
    · rw [List.map_append, List.nodup_append]
      refine ⟨nd, by simp, fun a ha b hb e => ?_⟩
      simp at hb
      subst hb
      exact h (e ▸ ha)
    · rw [lk_append]
      by_cases hz : z = x
      · subst hz; rw [lk_none h]; simp [lk]
      · have hz' : ¬ x = z := fun q => hz q.symm
        cases lk l z <;> simp [lk, hz, hz']
end U
namespace U
open PySem PySem.Spec PyProof.Rows L2
section
variable {J : It} {n : Nat} {G : Hp → Prop} {Y : Nat → Hp → V → Hp → Prop}
/-- a dict comprehension over a walk -/
theorem dc_it (w : Walk J n G Y) {g : TG} {tt : TT} {tk tv : TE} {vs : List Nat} {σ : L2.St} {H1 : Hp} {D : Addr} {Qd : Hp → Prop} (Pv : Nat → Hp → Prop) (h0 : Pv 0 (upd H1 D (.dK []))) (hG : ∀ i H, i ≤ n → Pv i H → G H)
    (hs : ∀ i x H H', i < n → Pv i H → Y i H x H' → g x (wipe σ vs) H' fun σ2 H2 => wipe σ2 vs = wipe σ vs ∧ tt σ2 H2 fun b H3 =>
      if b = true then tk σ2 H3 fun y H4 => tv σ2 H4 fun z H5 => ∃ kvs k, y = kV k ∧ H5 D = some (.dK kvs) ∧ kvs.length < sizeLine ∧ Pv (i + 1) (upd H5 D (.dK (putK kvs k z))) else Pv (i + 1) H3) (hd : ∀ H, Pv n H → Qd H) :
    ∃ W : Nat → Nat → Hp → Prop, (∃ m, W 0 m (upd H1 D (.dK []))) ∧ ∀ i m H, W i m H →
      (J.stop i H ∧ Qd H) ∨ (J.go i H ∧ ∃ Nx : Hp → Prop, (∀ H', Nx H' → ∃ m', m' < m ∧ W (i + 1) m' H') ∧ ∀ x H', J.yld i H x H' → g x (wipe σ vs) H' fun σ2 H2 => wipe σ2 vs = wipe σ vs ∧ tt σ2 H2 fun b H3 =>
        if b = true then tk σ2 H3 fun y H4 => tv σ2 H4 fun z H5 => ∃ kvs k, y = kV k ∧ H5 D = some (.dK kvs) ∧ kvs.length < sizeLine ∧ Nx (upd H5 D (.dK (putK kvs k z))) else Nx H3) := by
  refine ⟨fun i m H => m = n - i ∧ i ≤ n ∧ Pv i H, ⟨n, by simp, Nat.zero_le _, h0⟩, ?_⟩
  rintro i m H ⟨rfl, hi, p⟩
  have q := hG i H hi p
  by_cases hlt : i < n
  · exact .inr ⟨w.goes i H hlt q, Pv (i + 1), fun H' p' => ⟨n - (i + 1), by omega, rfl, hlt, p'⟩, fun x H' y => hs i x H H' hlt p (w.yields i H x H' hlt q y)⟩
  · have e : i = n := by omega
    subst e
    exact .inl ⟨w.stops H q, hd H p⟩
end
/-- what a comprehension over pairs makes -/
def madeD (c : Int → Int → Bool) (kf : Int → Int → Int) (vf : Int → Int → V) (l : List (Int × Int)) : List (Key × V) := (l.filter fun p => c p.1 p.2).map fun p => (Sum.inl (kf p.1 p.2), vf p.1 p.2)
theorem take_more {α : Type} {l : List α} {i : Nat} {x : α} (h : l[i]? = some x) : l.take (i + 1) = l.take i ++ [x] := by
  rw [List.take_add_one, h]; rfl
theorem valV_none {kvs : List (Key × V)} {k : Key} (h : k ∉ kvs.map (·.1)) : valV kvs k = none := by
  unfold valV
  rw [List.find?_eq_none.mpr]
  · rfl
  · intro p hp
    simp only [decide_eq_true_eq]
    exact fun e => h (List.mem_map.mpr ⟨p, hp, e⟩)
theorem madeD_step {c : Int → Int → Bool} {kf : Int → Int → Int} {vf : Int → Int → V} {l : List (Int × Int)} {i : Nat} {x y : Int} (h : l[i]? = some (x, y)) (nd : ((madeD c kf vf l).map (·.1)).Nodup) (hc : c x y = true) :
    putK (madeD c kf vf (l.take i)) (Sum.inl (kf x y)) (vf x y) = madeD c kf vf (l.take (i + 1)) := by
  have e : madeD c kf vf (l.take (i + 1)) = madeD c kf vf (l.take i) ++ [(Sum.inl (kf x y), vf x y)] := by
    rw [take_more h]
    unfold madeD
    rw [List.filter_append, List.map_append]
    simp [hc]
  have e2 : madeD c kf vf l = madeD c kf vf (l.take (i + 1)) ++ madeD c kf vf (l.drop (i + 1)) := by
    unfold madeD
    rw [← List.map_append, ← List.filter_append, List.take_append_drop]
  rw [e2, e, List.map_append, List.map_append] at nd
  have nd1 := (List.nodup_append.mp nd).1
  have nin : (Sum.inl (kf x y) : Key) ∉ (madeD c kf vf (l.take i)).map (·.1) := by
    intro hm
    exact (List.nodup_append.mp nd1).2.2 _ hm _ (by simp) rfl
  rw [putK_new _ (valV_none nin), e]
theorem madeD_skip {c : Int → Int → Bool} {kf : Int → Int → Int} {vf : Int → Int → V} {l : List (Int × Int)} {i : Nat} {x y : Int} (h : l[i]? = some (x, y)) (hc : c x y = false) :
    madeD c kf vf (l.take (i + 1)) = madeD c kf vf (l.take i) := by
  rw [take_more h]
  unfold madeD
  rw [List.filter_append, List.map_append]
  simp [hc]
theorem madeD_len (c : Int → Int → Bool) (kf : Int → Int → Int) (vf : Int → Int → V) (l : List (Int × Int)) (i : Nat) : (madeD c kf vf (l.take i)).length ≤ l.length := by
  unfold madeD
  rw [List.length_map]
  exact Nat.le_trans (List.length_filter_le _ _) (by rw [List.length_take]; omega)
/-- {k: v for x, y in d.items() if ..}, the tests and parts reading alone -/
theorem dc_items {K : PySem.W.Frag} {d : Addr} {l : List (Int × Int)} {te : TE} {i j : Nat} {tt : TT} {tk tv : TE} {vs : List Nat} {σ : L2.St} {H : Hp} {Q : VK} (c : Int → Int → Bool) (kf : Int → Int → Int) (vf : Int → Int → V)
    (hd : H d = some (.dK (kvI l))) (hte : ∀ H' (R : VK), R (.ref d) H' → Off d H H' → te σ H' R)
    (hw : ∀ a b, wipe (((wipe σ vs).set i a).set j b) vs = wipe σ vs)
    (hb : ∀ x y, (x, y) ∈ l → ∀ H1, Off d H H1 → (∀ R : Bool → Hp → Prop, R (c x y) H1 → tt (((wipe σ vs).set i (some (.int x))).set j (some (.int y))) H1 R) ∧
      (c x y = true → (∀ R : VK, R (.int (kf x y)) H1 → tk (((wipe σ vs).set i (some (.int x))).set j (some (.int y))) H1 R) ∧ ∀ R : VK, R (vf x y) H1 → tv (((wipe σ vs).set i (some (.int x))).set j (some (.int y))) H1 R))
    (nd : ((madeD c kf vf l).map (·.1)).Nodup) (hz : l.length < sizeLine)
    (hq : ∀ D H', H D = none → H' D = some (.dK (madeD c kf vf l)) → L2.Same H H' → Q (.ref D) H') :
    tLockE (tDc (iItems te) (gTup K 2 (gCons (gName i) (gCons (gName j) gNil))) tt tk tv vs) σ H Q := by
  refine ⟨d, _, hd, trivial, fun od => ?_⟩
  refine hte _ _ ⟨d, od, kvI l, rfl, upd_same, fun D hD => ?_⟩ Off.lock
  have hDd : D ≠ d := fun e => by rw [e, upd_same] at hD; cases hD
  have hD0 : H D = none := by rw [upd_ne hDd] at hD; exact hD
  refine dc_it walk_items (fun k H' => H' d = some (.frz od (.dK (kvI l))) ∧ Off d H H' ∧ H' D = some (.dK (madeD c kf vf (l.take k)))) ⟨?_, Off.lock.mut hD0, upd_same⟩ (fun k H' _ p => p.1) ?_ ?_
  · rw [upd_ne hDd.symm]; exact upd_same
  · rintro k v H' H'' hk ⟨p1, p2, p3⟩ ⟨T, a, b, rfl, hT, rfl, e1, e2⟩
    rw [kvI_length] at hk
    obtain ⟨⟨x, y⟩, exy⟩ : ∃ p, l[k]? = some p := ⟨_, List.getElem?_eq_getElem hk⟩
    have ek : (kvI l)[k]? = some (Sum.inl x, V.int y) := by unfold kvI; rw [List.getElem?_map, exy]; rfl
    dsimp only at e1 e2
    rw [ek] at e1 e2
    cases e1; cases e2
    have nTd : d ≠ T := ne_of_none p1 hT
    have nTD : D ≠ T := ne_of_none p3 hT
    refine ⟨T, [.int x, .int y], rfl, SqT.of upd_same, rfl, .int x, [.int y], rfl, .int y, [], rfl, rfl, ?_⟩
    refine ⟨hw _ _, ?_⟩
    have o2 : Off d H (upd H' T (.tup [.int x, .int y])) := p2.tr (Off.new hT)
    obtain ⟨b1, b2⟩ := hb x y (List.mem_of_getElem? exy) _ o2
    refine b1 _ ?_
    have d3 : (upd H' T (.tup [.int x, .int y])) d = some (.frz od (.dK (kvI l))) := by rw [upd_ne nTd]; exact p1
    have D3 : (upd H' T (.tup [.int x, .int y])) D = some (.dK (madeD c kf vf (l.take k))) := by rw [upd_ne nTD]; exact p3
    cases hc : c x y with
    | true =>
      refine iteT ?_
      obtain ⟨b3, b4⟩ := b2 hc
      refine b3 _ (b4 _ ⟨_, Sum.inl (kf x y), rfl, D3, Nat.lt_of_le_of_lt (madeD_len ..) hz, ?_⟩)
      refine ⟨?_, o2.mut hD0, ?_⟩
      · rw [upd_ne hDd.symm]; exact d3
      · rw [upd_same, madeD_step exy nd hc]
    | false =>
      refine iteF ⟨d3, o2, ?_⟩
      rw [madeD_skip exy hc]
      exact D3
  · rintro H' ⟨p1, p2, p3⟩
    rw [kvI_length, List.take_length] at p3
    refine ⟨p1, hq D _ hD0 ?_ (p2.back hd)⟩
    rw [upd_ne hDd]
    exact p3
/-- {k: v for x in range(lo, ..) if ..} -/
def madeR (c : Int → Bool) (kf : Int → Int) (vf : Int → V) (n : Nat) : List (Key × V) := ((List.range n).filter fun (i : Nat) => c (i : Int)).map fun (i : Nat) => ((Sum.inl (kf (i : Int)) : Key), vf (i : Int))
theorem madeR_succ (c : Int → Bool) (kf : Int → Int) (vf : Int → V) (n : Nat) : madeR c kf vf (n + 1) = madeR c kf vf n ++ (if c (n : Int) = true then [((Sum.inl (kf (n : Int)) : Key), vf (n : Int))] else []) := by
  unfold madeR
  rw [List.range_succ, List.filter_append, List.map_append]
  by_cases h : c (n : Int) = true
  · simp [h]
  · have h' : c (n : Int) = false := by simpa using h
    simp [h']
theorem madeR_len (c : Int → Bool) (kf : Int → Int) (vf : Int → V) (n : Nat) : (madeR c kf vf n).length ≤ n := by
  unfold madeR
  rw [List.length_map]
  exact Nat.le_trans (List.length_filter_le _ _) (by simp)
theorem madeR_keys {c : Int → Bool} {vf : Int → V} {n k : Nat} (h : (Sum.inl (k : Int) : Key) ∈ (madeR c (fun x => x) vf n).map (·.1)) : k < n := by
  unfold madeR at h
  rw [List.map_map] at h
  obtain ⟨i, hi, e⟩ := List.mem_map.mp h
  have h1 := (List.mem_filter.mp hi).1
  rw [List.mem_range] at h1
  have : (i : Int) = (k : Int) := Sum.inl.inj e
  omega
theorem dc_range {wi : TI} {i : Nat} {tt : TT} {tk tv : TE} {vs : List Nat} {σ : L2.St} {H0 H : Hp} {Q : VK} {n : Nat} (c : Int → Bool) (vf : Int → V) (hwi : ∀ R : It → Hp → Prop, R (Itr 0 n) H → wi σ H0 R)
    (hw : ∀ a, wipe ((wipe σ vs).set i a) vs = wipe σ vs)
    (hb : ∀ k : Nat, k < n → ∀ H1, L2.Same H H1 → (∀ R : Bool → Hp → Prop, R (c (k : Int)) H1 → tt ((wipe σ vs).set i (some (.int (0 + (k : Nat))))) H1 R) ∧
      (c (k : Int) = true → (∀ R : VK, R (.int (k : Int)) H1 → tk ((wipe σ vs).set i (some (.int (0 + (k : Nat))))) H1 R) ∧ ∀ R : VK, R (vf (k : Int)) H1 → tv ((wipe σ vs).set i (some (.int (0 + (k : Nat))))) H1 R))
    (hz : n < sizeLine) (hq : ∀ D H', H D = none → H' D = some (.dK (madeR c (fun x => x) vf n)) → L2.Same H H' → Q (.ref D) H') :
    tDc wi (gName i) tt tk tv vs σ H0 Q := by
  refine hwi _ ?_
  intro D hD
  refine dc_it walk_range (fun k H' => L2.Same H H' ∧ H' D = some (.dK (madeR c (fun x => x) vf k))) ⟨Same.new hD, upd_same⟩ (fun _ _ _ _ => trivial) ?_ ?_
  · rintro k v H' H'' hk ⟨p1, p2⟩ ⟨rfl, rfl⟩
    refine ⟨hw _, ?_⟩
    obtain ⟨b1, b2⟩ := hb k hk _ p1
    refine b1 _ ?_
    cases hc : c (k : Int) with
    | true =>
      refine iteT ?_
      obtain ⟨b3, b4⟩ := b2 hc
      refine b3 _ (b4 _ ⟨_, Sum.inl (k : Int), rfl, p2, Nat.lt_of_le_of_lt (madeR_len ..) (Nat.lt_trans hk hz), ?_, ?_⟩)
      · intro b o e
        rw [upd_ne (ne_of_none e hD)]
        exact p1 b o e
      · rw [upd_same, putK_new _ (valV_none fun z => Nat.lt_irrefl _ (madeR_keys z)), madeR_succ, if_pos hc]
    | false =>
      refine iteF ⟨p1, ?_⟩
      rw [madeR_succ, hc, p2]
      simp
  · rintro H' ⟨p1, p2⟩
    exact hq D _ hD p2 p1
end U
namespace U
open PySem PySem.Spec PyProof.Rows L2
/-- [v for x, y in d.items() if ..], the tests and parts reading alone -/
def madeL (c : Int → Int → Bool) (vf : Int → Int → V) (l : List (Int × Int)) : List V := (l.filter fun p => c p.1 p.2).map fun p => vf p.1 p.2
theorem madeL_step {c : Int → Int → Bool} {vf : Int → Int → V} {l : List (Int × Int)} {i : Nat} {x y : Int} (h : l[i]? = some (x, y)) :
    madeL c vf (l.take (i + 1)) = madeL c vf (l.take i) ++ (if c x y = true then [vf x y] else []) := by
  rw [take_more h]
  unfold madeL
  rw [List.filter_append, List.map_append]
  by_cases hc : c x y = true
  · simp [hc]
  · have hc' : c x y = false := by simpa using hc
    simp [hc']
theorem madeL_len (c : Int → Int → Bool) (vf : Int → Int → V) (l : List (Int × Int)) (i : Nat) : (madeL c vf (l.take i)).length ≤ l.length := by
  unfold madeL
  rw [List.length_map]
  exact Nat.le_trans (List.length_filter_le _ _) (by rw [List.length_take]; omega)
theorem lc_items {K : PySem.W.Frag} {d : Addr} {l : List (Int × Int)} {te : TE} {i j : Nat} {tt : TT} {tv : TE} {vs : List Nat} {σ : L2.St} {H : Hp} {Q : VK} (c : Int → Int → Bool) (vf : Int → Int → V)
    (hd : H d = some (.dK (kvI l))) (hte : ∀ H' (R : VK), R (.ref d) H' → Off d H H' → te σ H' R)
    (hw : ∀ a b, wipe (((wipe σ vs).set i a).set j b) vs = wipe σ vs)
    (hb : ∀ x y, (x, y) ∈ l → ∀ H1, Off d H H1 → (∀ R : Bool → Hp → Prop, R (c x y) H1 → tt (((wipe σ vs).set i (some (.int x))).set j (some (.int y))) H1 R) ∧
      (c x y = true → ∀ R : VK, R (vf x y) H1 → tv (((wipe σ vs).set i (some (.int x))).set j (some (.int y))) H1 R))
    (hz : l.length < sizeLine)
    (hq : ∀ D H', H D = none → H' D = some (.lst (madeL c vf l)) → L2.Same H H' → Q (.ref D) H') :
    tLockE (tLc (iItems te) (gTup K 2 (gCons (gName i) (gCons (gName j) gNil))) tt tv vs) σ H Q := by
  refine ⟨d, _, hd, trivial, fun od => ?_⟩
  refine hte _ _ ⟨d, od, kvI l, rfl, upd_same, fun D hD => ?_⟩ Off.lock
  have hDd : D ≠ d := fun e => by rw [e, upd_same] at hD; cases hD
  have hD0 : H D = none := by rw [upd_ne hDd] at hD; exact hD
  refine lc_it walk_items (fun k H' => H' d = some (.frz od (.dK (kvI l))) ∧ Off d H H' ∧ H' D = some (.lst (madeL c vf (l.take k)))) ⟨?_, Off.lock.mut hD0, upd_same⟩ (fun k H' _ p => p.1) ?_ ?_
  · rw [upd_ne hDd.symm]; exact upd_same
  · rintro k v H' H'' hk ⟨p1, p2, p3⟩ ⟨T, a, b, rfl, hT, rfl, e1, e2⟩
    rw [kvI_length] at hk
    obtain ⟨⟨x, y⟩, exy⟩ : ∃ p, l[k]? = some p := ⟨_, List.getElem?_eq_getElem hk⟩
    have ek : (kvI l)[k]? = some (Sum.inl x, V.int y) := by unfold kvI; rw [List.getElem?_map, exy]; rfl
    dsimp only at e1 e2
    rw [ek] at e1 e2
    cases e1; cases e2
    have nTd : d ≠ T := ne_of_none p1 hT
    have nTD : D ≠ T := ne_of_none p3 hT
    refine ⟨T, [.int x, .int y], rfl, SqT.of upd_same, rfl, .int x, [.int y], rfl, .int y, [], rfl, rfl, ?_⟩
    refine ⟨hw _ _, ?_⟩
    have o2 : Off d H (upd H' T (.tup [.int x, .int y])) := p2.tr (Off.new hT)
    obtain ⟨b1, b2⟩ := hb x y (List.mem_of_getElem? exy) _ o2
    refine b1 _ ?_
    have d3 : (upd H' T (.tup [.int x, .int y])) d = some (.frz od (.dK (kvI l))) := by rw [upd_ne nTd]; exact p1
    have D3 : (upd H' T (.tup [.int x, .int y])) D = some (.lst (madeL c vf (l.take k))) := by rw [upd_ne nTD]; exact p3
    have st := madeL_step (c := c) (vf := vf) exy
    cases hc : c x y with
    | true =>
      rw [hc, if_pos rfl] at st
      refine iteT (b2 hc _ ⟨_, D3, Nat.lt_of_le_of_lt (madeL_len ..) hz, ?_⟩)
      refine ⟨?_, o2.mut hD0, ?_⟩
      · rw [upd_ne hDd.symm]; exact d3
      · rw [upd_same, st]
    | false =>
      rw [hc, if_neg Bool.false_ne_true, List.append_nil] at st
      refine iteF ⟨d3, o2, ?_⟩
      rw [st]
      exact D3
  · rintro H' ⟨p1, p2, p3⟩
    rw [kvI_length, List.take_length] at p3
    refine ⟨p1, hq D _ hD0 ?_ (p2.back hd)⟩
    rw [upd_ne hDd]
    exact p3
end U
/-! ### own errors over any built-in error -/
namespace PySem
namespace GEX
open PySem.W PySem.Calls PyProof.Rows PySem.HandSPX Builtin Builtin.ObjectAttr
section
variable {prog : Program} {w : World} {A : Around} {E : Value → Shared → Prop} {R : Result → Shared → Prop} {hp : Heap} {gs : Array GenState} {dr : Drawn} {tn : Nat} {os : OsState}
/-- what is asked of the class's chain -/
structure Mro (m : List Value) : Prop where
  ob : m.contains (.type "object") = true
  ne : m.isEmpty = false
  ps : ∀ self : Value, refuseLoop self "__setattr__" m = pure ()
theorem mro_of {bmB bm : List Value} {B : String} (SF : StoreFacts B bmB "object.__setattr__" "object") (h : excTail bmB bm = true) (C : Addr) : Mro (.ref C :: bm) := by
  have h' : excTail bmB (.ref C :: bm) = true := h
  exact ⟨(excTail_contains "object" _ h').trans SF.hasOwner, rfl, fun self => excTail_pass self (SF.passes self) _ h'⟩
theorem osa_first {K : Frag} {nm : Str} {tk : Tok} {v : Value} {x C : Addr} {fv : Array Value} {cd : ClassData} (X : K.In hp) (hx : hp.get? x = some { cls := .ref C, data := .fields fv }) (hcd : clsIn K C = some cd) (hm : Mro cd.mro) (hh : cd.hasDict = true) (ha : findIn K (.ref C) nm = some none)
    (hq : ∀ h' tk' dx, (∀ b o, b ≠ x → hp.get? b = some o → h'.get? b = some o) → hp.objs.size ≤ dx → dx ≠ x → h'.get? x = some { cls := .ref C, dict := some dx, data := .fields fv } → h'.Ns1 dx (fun y => if y = nm then some v else none) → R (.ok (.ret .none)) ⟨h', gs, dr, tk', os⟩) :
    codeAny (model prog w) A (.call (.builtin "object.__setattr__") ⟨[.ref x, .str nm tk, v], []⟩) R ⟨hp, gs, dr, tn, os⟩ := by
  have I : InstAt hp x { cls := .ref C, data := .fields fv } C none := ⟨hx, rfl, rfl, trivial⟩
  have hxs : x ≠ hp.objs.size := Nat.ne_of_lt (Heap.lt_size hx)
  have S0 := F.store_object
  have l1 : Looks (model prog w) hp (isInstance (.ref x) (.type "object")) true := I.type.andThen (looks_mroIn X (by unfold mroIn; rw [hcd, Option.bind_some, if_neg (by rw [hm.ne]; decide), hm.ob]))
  refine codeAny_call_builtin S0.slot.plain S0.entry ?_
  refine @check_slot (model prog w) _ _ ⟨hp, gs, dr, tn, os⟩ "object.__setattr__" "object" "__setattr__" (.ref x) [.str nm tk, v] [] _ S0.kind S0.split l1 (S0.args (.ref x) (.str nm tk) v) ?_
  have l2 : Looks (model prog w) hp (mroOf (.ref C)) cd.mro := (looks_clsIn X hcd).andThen .now
  have l3 : Looks (model prog w) hp (storeTaker? none) none := .now
  have l4 : Looks (model prog w) hp (classData C) cd := looks_clsIn X hcd
  rw [osa_eq, refuse_eq]
  refine wpAny_bind (wpAny_bind (I.type.at (wpAny_bind (l2.at ?_)))); rw [hm.ps]
  refine wpAny_pure (wpAny_bind (I.type.at (wpAny_bind ((looks_findIn X ha).at (wpAny_bind (l3.at ?_))))))
  show wpAny _ _ (storeInOwnDict (.ref x) (.ref C) (.str nm tk) nm v false) _ _ _
  obtain ⟨c1, c2, c3, c4, c5, c6, c7, c8, c9, c10, c11⟩ := cd
  have hh' : c6 = true := hh
  subst hh'
  unfold storeInOwnDict ownDictForStores
  repeat (first | with_reducible refine HandSPX.store_in_new ?_ ?_ | with_reducible refine wpAny_loadPart_at hx ?_ | with_reducible refine l4.at ?_ | wp_step)
  · refine ⟨_, #[], _, (Heap.get?_update_ne _ _ _ _ hxs.symm).trans (Heap.get?_push_at rfl rfl), rfl, fun e he => ?_, fun _ => rfl⟩
    simp at he
  · intro h' tk' hn' hs
    have hx1 : (hp.push { cls := .type "dict", data := .dict #[] }).get? x = some { cls := .ref C, data := .fields fv } := Heap.get?_push_of_some _ hx
    exact hq h' tk' hp.objs.size (fun b o hb ho => (hs.2 b (Nat.ne_of_lt (Heap.lt_size ho))).trans ((Heap.get?_update_ne _ _ _ _ hb).trans (Heap.get?_push_of_some _ ho))) (Nat.le_refl _) hxs.symm ((hs.2 x hxs).trans (Heap.get?_update_self _ hx1 rfl)) hn'
theorem osa_more {K : Frag} {nm : Str} {tk : Tok} {v : Value} {x C dx : Addr} {fv : Array Value} {cd : ClassData} {m0 : Str → Option Value} {nl : List Str} (X : K.In hp) (hx : hp.get? x = some { cls := .ref C, dict := some dx, data := .fields fv }) (hns : hp.Ns1 dx m0) (hw : Within m0 nl) (hz : nl.length ≤ 1000) (hcd : clsIn K C = some cd) (hm : Mro cd.mro) (hh : cd.hasDict = true) (ha : findIn K (.ref C) nm = some none)
    (hq : ∀ h' tk', (∀ b o, b ≠ dx → hp.get? b = some o → h'.get? b = some o) → h'.Ns1 dx (fun y => if y = nm then some v else m0 y) → R (.ok (.ret .none)) ⟨h', gs, dr, tk', os⟩) :
    codeAny (model prog w) A (.call (.builtin "object.__setattr__") ⟨[.ref x, .str nm tk, v], []⟩) R ⟨hp, gs, dr, tn, os⟩ := by
  obtain ⟨oD, _, _, hoD, _, _⟩ := hns.count hw
  have I : InstAt hp x { cls := .ref C, dict := some dx, data := .fields fv } C (some oD) := ⟨hx, rfl, rfl, hoD⟩
  have S0 := F.store_object
  have l1 : Looks (model prog w) hp (isInstance (.ref x) (.type "object")) true := I.type.andThen (looks_mroIn X (by unfold mroIn; rw [hcd, Option.bind_some, if_neg (by rw [hm.ne]; decide), hm.ob]))
  refine codeAny_call_builtin S0.slot.plain S0.entry ?_
  refine @check_slot (model prog w) _ _ ⟨hp, gs, dr, tn, os⟩ "object.__setattr__" "object" "__setattr__" (.ref x) [.str nm tk, v] [] _ S0.kind S0.split l1 (S0.args (.ref x) (.str nm tk) v) ?_
  have l2 : Looks (model prog w) hp (mroOf (.ref C)) cd.mro := (looks_clsIn X hcd).andThen .now
  have l3 : Looks (model prog w) hp (storeTaker? none) none := .now
  have l4 : Looks (model prog w) hp (classData C) cd := looks_clsIn X hcd
  rw [osa_eq, refuse_eq]
  refine wpAny_bind (wpAny_bind (I.type.at (wpAny_bind (l2.at ?_)))); rw [hm.ps]
  refine wpAny_pure (wpAny_bind (I.type.at (wpAny_bind ((looks_findIn X ha).at (wpAny_bind (l3.at ?_))))))
  show wpAny _ _ (storeInOwnDict (.ref x) (.ref C) (.str nm tk) nm v false) _ _ _
  obtain ⟨c1, c2, c3, c4, c5, c6, c7, c8, c9, c10, c11⟩ := cd
  have hh' : c6 = true := hh
  subst hh'
  unfold storeInOwnDict ownDictForStores
  repeat (first | with_reducible refine OEX.store_in_old hns hw hz ?_ | with_reducible refine wpAny_loadPart_at hx ?_ | with_reducible refine l4.at ?_ | wp_step)
  intro h' tk' hn' hs
  exact hq h' tk' (fun b o hb ho => (hs.2 b hb).trans ho) hn'
end
end GEX
end PySem
namespace L2
open PySem PySem.Spec PyProof.Rows PySem.W
/-- what the written part says of an own error class -/
structure OexG (K : PySem.W.Frag) (C : Addr) : Prop where
  cls : ∃ B newId initId bmB nm q N bs bm sn sub ab col dd k0 k1 k2 k3 k5, PySem.StoreFacts B bmB "object.__setattr__" "object" ∧ ExcBaseFacts B newId initId bmB ∧ K.lookup C = some (excClassObj nm q C N bs bm true sn sub ab col dd k0 k1 k2 k3 k5 newId) ∧ PySem.W.excTail bmB bm = true
  sa : PySem.W.findIn K (.ref C) "__setattr__" = some (some (.builtin "object.__setattr__"))
  exC : PySem.W.subIn K (.ref C) (.type "BaseException") = some true
  tyC : PySem.W.typeIn K (.ref C) = some (.type "type")
  kC : PySem.W.keepIn K (.ref C) = true
section
variable {X : Cx} {pins : List (Addr × Obj)} {σ : St} {H : Hp} {s : Shared} {a C dx : Addr} {f : Str} {y : V} {u : Value} {fs : List (Str × V)} {Q : Unit → Shared → Prop} {E : Value → Shared → Prop} {A : Around}
theorem OexG.look {K : PySem.W.Frag} {C : Addr} (T : OexG K C) : ∃ cd, PySem.W.clsIn K C = some cd ∧ PySem.GEX.Mro cd.mro ∧ cd.hasDict = true := by
  obtain ⟨B, nI, iI, bmB, nm, q, N, bs, bm, sn, sub, ab, col, dd, k0, k1, k2, k3, k5, SF, _, hC, hb⟩ := T.cls
  refine ⟨{ name := nm, bases := bs, mro := .ref C :: bm, ns := N, qualname := q, hasDict := true, slotNames := sn, subclasses := sub, abstract := ab, collection := col, hasDel := false }, ?_, PySem.GEX.mro_of SF hb C, rfl⟩
  unfold PySem.W.clsIn
  rw [hC] <;> rfl
/-- self.f = y, none there as yet -/
theorem ostG_new (T : OexG X.K C) (I : Inv X pins σ H s) (e : H a = some (exo a C none)) (hno : PySem.W.findIn X.K (.ref C) f = some none) (ry : RelV y u)
    (k : ∀ dx s', H dx = none → dx ≠ a → Inv X pins σ (upd (upd H dx (exd dx [(f, y)])) a (exo a C (some dx))) s' → Q () s') : wpAny (model X.prog X.w) A (setAttr (.ref a) f u) Q E s := by
  obtain ⟨cd, hcd, hmr, hdc⟩ := T.look
  obtain ⟨t1, ho⟩ := exo_at I.hok e
  obtain ⟨h0, gs, dr, tn, os⟩ := s
  refine PySem.W.set_plain I.kIn (ox := ⟨.ref C, none, .fields #[.ref t1, .none, .none, .none, .bool false, .none], #[]⟩) (od := none) ⟨ho, rfl, rfl, trivial⟩ T.sa ?_
  refine PySem.GEX.osa_first I.kIn ho hcd hmr hdc hno fun h' tk' dx kp dn dne hx hn => ?_
  have dfree : H dx = none := I.hok.fresh dn
  have low : ∀ {b : Addr} {o : Obj}, h0.get? b = some o → b ≠ dx := fun q => Nat.ne_of_lt (Nat.lt_of_lt_of_le (Heap.lt_size q) dn)
  have apart : ∀ {b : Addr}, H b = none → b ≠ a := fun {b} n z => by subst z; rw [e] at n; cases n
  have U1 : Un X.fs [] H (upd (upd H dx (exd dx [(f, y)])) a (exo a C (some dx))) h0 h' := by
    refine ⟨fun b o q n _ _ => kp b o (apart n) q, fun b o q n _ _ => ⟨o.slots, kp b o (apart n) q⟩, fun b o q n _ => ?_, fun b o q _ => ?_, fun b xs q => ?_, fun b o v q => ?_, fun b ps q => ⟨#[], ?_⟩⟩
    · rw [upd_ne (apart n), upd_ne (low q)]; exact n
    · by_cases hb : b = a
      · subst hb; exact ⟨_, hx⟩
      · exact ⟨o, kp b o hb q⟩
    · rw [upd_ne (at_ne e q exo_tup), upd_ne (ne_of_none q dfree)]; exact q
    · rw [upd_ne (at_ne e q exo_frz), upd_ne (ne_of_none q dfree)]; exact q
    · rw [upd_ne (at_ne e q exo_tbl), upd_ne (ne_of_none q dfree), q]; simp
  refine k dx _ dfree dne (I.un (t' := tk') U1 fun b o q => ?_)
  by_cases hb : b = a
  · subst hb; rw [upd_same] at q; cases q
    exact exo_ok hx
  · rw [upd_ne hb] at q
    by_cases hd : b = dx
    · subst hd; rw [upd_same] at q; cases q
      exact exd_ok hn (relO_put (fs := []) ry fun _ => True.intro)
    · rw [upd_ne hd] at q
      refine (I.hok b o q).stay (fun c v hc z => kp c v ?_ z) (fun c hc => ?_) (fun c xs hc => ?_)
      · rcases hc with rfl | hc
        · exact hb
        · exact at_ne e hc exo_own
      · rw [upd_ne (at_ne e hc exo_own), upd_ne (ne_of_none hc dfree)]; exact hc
      · rw [upd_ne (at_ne e hc exo_tup), upd_ne (ne_of_none hc dfree)]; exact hc
theorem ostG_old (T : OexG X.K C) (I : Inv X pins σ H s) (e : H a = some (exo a C (some dx))) (ed : H dx = some (exd dx fs)) (hl : fs.length ≤ 900) (hno : PySem.W.findIn X.K (.ref C) f = some none) (ry : RelV y u)
    (k : ∀ s', Inv X pins σ (upd H dx (exd dx ((f, y) :: fs))) s' → Q () s') : wpAny (model X.prog X.w) A (setAttr (.ref a) f u) Q E s := by
  obtain ⟨cd, hcd, hmr, hdc⟩ := T.look
  obtain ⟨t1, ho⟩ := exo_at I.hok e
  obtain ⟨mA, hns, rel⟩ := exd_at I.hok ed
  have win := within_of rel
  obtain ⟨oD, _, _, hoD, _, _⟩ := hns.count win
  obtain ⟨h0, gs, dr, tn, os⟩ := s
  refine PySem.W.set_plain I.kIn (ox := ⟨.ref C, some dx, .fields #[.ref t1, .none, .none, .none, .bool false, .none], #[]⟩) (od := some oD) ⟨ho, rfl, rfl, hoD⟩ T.sa ?_
  refine PySem.GEX.osa_more I.kIn ho hns win (by rw [List.length_map]; omega) hcd hmr hdc hno fun h' tk' kp hn => ?_
  have there : ∃ o, h'.get? dx = some o := by
    obtain ⟨o, _, _, e', _⟩ := hn
    exact ⟨o, e'⟩
  exact k _ (I.write (t' := tk') (x := dx) (e := dx) (o := exd dx ((f, y) :: fs)) (by rw [ed]; exact True.intro) (.inl rfl) kp there (exd_ok hn (relO_put ry rel)))
end
/-- self.f = e, self an error being made -/
def tOstG (K : PySem.W.Frag) (f : Str) (to te : TE) : TS := fun D σ H => te σ H fun y H1 => to σ H1 fun x H2 => ∃ a C : Addr, x = .ref a ∧ OexG K C ∧ PySem.W.findIn K (.ref C) f = some none ∧
  ((H2 a = some (exo a C none) ∧ ∀ dx, H2 dx = none → dx ≠ a → D.nx σ (upd (upd H2 dx (exd dx [(f, y)])) a (exo a C (some dx)))) ∨
    ∃ (dx : Addr) (fs : List (Str × V)), H2 a = some (exo a C (some dx)) ∧ H2 dx = some (exd dx fs) ∧ fs.length ≤ 900 ∧ D.nx σ (upd H2 dx (exd dx ((f, y) :: fs))))
section
variable {X : Cx} {o e : Expr} {es : List Expr} {to te : TE} {ta : TA} {f : Str} {p p' pos : Pos}
theorem ps_ostG (ho : PE X o to) (he : PE X e te) (hs : swapsWith e (some (.Attribute o f p')) pos.line X.env = pure false := by rfl) : PS X (.Assign [.Attribute o f p'] e pos) (tOstG X.K f to te) := by
  refine ⟨fun pins s σ H D I h => plainObj_wpAny_Assign_Attribute (thn (he.run pins s σ H _ I h) fun v s1 ⟨y, H1, I1, r1, q1⟩ => thn (ho.run pins s1 σ H1 _ I1 q1) fun u s2 ⟨x, H2, I2, r2, a, C, ex, T, hno, q⟩ => ?_) hs⟩
  subst ex
  cases (show u = Value.ref a from r2)
  rcases q with ⟨ea, q⟩ | ⟨dx, fs, ea, ed, hl, q⟩
  · exact ostG_new T I2 ea hno r1 fun dx _ n ne J => ⟨σ, _, J, q dx n ne⟩
  · exact ostG_old T I2 ea ed hl hno r1 fun _ J => ⟨σ, _, J, q⟩
/-- C(e, ..) -/
theorem pmk_oexG {CX : CXT} {x : Str} {C fI : Addr} {k : Nat} {sp : Sp} (T : OexG X.K C) (iC : PySem.W.findIn X.K (.ref C) "__init__" = some (some (.ref fI))) (tI : PySem.W.typeIn X.K (.ref fI) = some (.type "function"))
    (F1 : FnR X.prog X.w X.K X.mg X.base CX k fI sp) (hr : Room (k + 1) X.A) (hx : Passes CX X (fun _ _ _ => False)) (hg : Gl X x) (hm : X.mg x = some (.ref C)) (ha : PA X (e :: es) ta)
    (hdb : (x == ("__debug__" : Str)) = false := by decide) (he : starEach (e :: es) X.env = (false, eval e X.env) :: starEach es X.env := by rfl) (hpl : (backTo pos (starEach es X.env)).any (·.1) = false := by rfl) :
    PMk X (.Call (.Name x p) (e :: es) [] pos) (tMkO C sp [] ta) := by
  intro pins s σ H Q I h
  obtain ⟨B, nI, iI, bmB, nm, q, N, bs, bm, sn, sub, ab, col, dd, k0, k1, k2, k3, k5, _, BF, hC, hbm⟩ := T.cls
  refine wpAny_Call_Name_kw (ld_glob I hg hm ?_ hdb)
  refine PySem.W.callWith_K (h₀ := X.base) I.ok.mod.kin T.kC (thn (ha.run pos pins s σ H _ I h) fun us s1 ⟨vs, H1, I1, r1, hz, q1⟩ => ⟨I1.kIn, ?_⟩) he hpl
  show wpAny _ _ (call (.ref C) us) _ _ _
  obtain ⟨h0, gs, dr, tn, os⟩ := s1
  have up : h0.objs.size ≤ h0.objs.size + 1 := Nat.le_succ _
  have hq := q1 (h0.objs.size + 1) (I1.hok.fresh up)
  rw [List.append_nil] at hq
  have kk : ∀ b o, h0.get? b = some o → ((h0.push (PySem.W.kdv_tup us)).push (PySem.HandSPX.excO C h0.objs.size)).get? b = some o := fun b o z => Heap.get?_push_of_some _ (Heap.get?_push_of_some _ z)
  have there : ((h0.push (PySem.W.kdv_tup us)).push (PySem.HandSPX.excO C h0.objs.size)).get? (h0.objs.size + 1) = some (PySem.HandSPX.excO C h0.objs.size) := by heap_get
  have I2 : Inv X pins σ (upd H1 (h0.objs.size + 1) (exo (h0.objs.size + 1) C none)) ⟨(h0.push (PySem.W.kdv_tup us)).push (PySem.HandSPX.excO C h0.objs.size), gs, dr, tn, os⟩ := I1.laid (t' := tn) kk up (exo_ok there)
  have r2 : Vals (V.ref (h0.objs.size + 1) :: vs) (Value.ref (h0.objs.size + 1) :: us) := .cons rfl r1
  have hus : us.length ≤ sizeLine := by rw [← Paired.length r1, sizeLine_eq]; omega
  refine wpAny_call (PySem.HandSPX.call_own BF (fun Y => PySem.W.excTail_contains Y bm hbm) (I1.kIn _ _ hC) (PySem.W.looks_findIn I1.kIn iC) (fun self => PySem.W.bind_fn I1.kIn self tI) hus ?_)
  refine codeAny_mono (F1 _ X.stack _ _ (Value.ref (h0.objs.size + 1) :: us) _ _ (fun _ _ _ => False) (hr.make C us []) (I2.env0.make C us []) r2 hq) fun r s' hq' => ?_
  cases r with
  | error er => exact hx pins σ _ _ er s' I2 hq'
  | ok fl =>
    cases fl with
    | ret u =>
      obtain ⟨v, H2, os2, bare2, un2, hok2, rv, ev, d, fs, ea, ed, hd1, q2⟩ := hq'
      subst ev
      obtain ⟨h2, g2, d2, t2, os'⟩ := s'
      exact ⟨rv, mk_end (raises_own T.exC T.tyC) I1 up kk un2 hok2 os2 bare2 ea ed hd1 q2⟩
    | next => exact False.elim hq'
    | brk => exact False.elim hq'
    | cont => exact False.elim hq'
end
end L2
namespace U
open PySem PySem.Spec PyProof.Rows L2 StX
section
variable {P : Program} {w : World} {K : PySem.W.Frag} {mg : Str → Option Value} {base : Heap}
/-- a def that may raise -/
theorem FnAt.okX {x qual : Str} {st : Stmt} {f : Addr} {N ps : List Str} {k : Nat} {sp : Sp} (A : FnAt K x qual st f ps) (S : FnScope N ps (defScope st)) (len : ∀ vs H Q E, sp vs H Q E → vs.length = ps.length)
    (hbody : ∀ (cdv : Value) (A : Around) (outer : List Env) (s : Shared) (H : Hp) (vs : List V) (Q : VK) (E : XK), Room k (A.deeper (envOfC qual (defScope st) s.heap.objs.size f cdv)) → sp vs H Q E →
      ∃ t, PSs (cxOf (L2.CX P w) P w K mg base N qual (defScope st) f cdv A outer s H E) (defBody st) t ∧ t { nx := fun _ H' => Q .non H', rt := Q } (start N vs) H) : FnR P w K mg base (L2.CX P w) (k + 1) f sp := by
  obtain ⟨fd, F, B⟩ := A.ex
  have R := (F.okX (P := P) (w := w) (mg := mg) (base := base) S len hbody).raw B .nil
  exact R.imp fun vs H Q E h => by rw [List.append_nil]; exact h
end
section
variable {X : Cx} {CX : CXT} {pins : List (Addr × Obj)} {σ : L2.St} {H : Hp} {s : Shared} {a C dx p g f : Addr} {n k : Nat} {sp : Sp} {E : L2.St → XK} {v : V} {u : Value} {x : Str} {e ea eb : Expr} {es : List Expr} {ta tb : TE} {t : TA} {pp pos : Pos}
theorem run_RS {Q : VK} {us : List Value} {vs : List V} {E : XK} (F : FnR X.prog X.w X.K X.mg X.base CX k f sp) (hr : Room k X.A) (hx : PassesAt CX X σ E) (I : Inv X pins σ H s) (r : Vals vs us) (h : sp vs H Q E) :
    codeAny (model X.prog X.w) X.A (.call (.ref f) ⟨us, []⟩) (fun r s' => match r with | .ok (.ret v) => EP X pins σ Q v s' | .ok _ => False | .error e => X.xe e s') s := by
  refine codeAny_mono (F X.A X.stack s H us vs Q E hr I.env0 r h) fun z s' hq => ?_
  match z, hq with
  | .error er, hq => exact hx pins H s er s' I hq
  | .ok (.ret w), hq => exact I.after hq
  | .ok .next, hq => exact hq.elim
  | .ok .brk, hq => exact hq.elim
  | .ok .cont, hq => exact hq.elim
/-- x(e, ..), what it raises told by the slots -/
def tCallRS (sp : Sp) (E : L2.St → XK) (t : TA) : TE := fun σ H Q => t σ H fun vs H1 => sp vs H1 Q (E σ)
theorem pe_callRS (F : FnR X.prog X.w X.K X.mg X.base CX k f sp) (hr : Room k X.A) (hk : PySem.W.keepIn X.K (.ref f) = true) (hg : Gl X x) (hm : X.mg x = some (.ref f)) (hx : ∀ σ, PassesAt CX X σ (E σ)) (ha : PA X (e :: es) t) (hdb : (x == ("__debug__" : Str)) = false := by decide)
    (he : starEach (e :: es) X.env = (false, eval e X.env) :: starEach es X.env := by rfl) (hpl : (backTo pos (starEach es X.env)).any (·.1) = false := by rfl) : PE X (.Call (.Name x pp) (e :: es) [] pos) (tCallRS sp E t) := by
  refine ⟨fun pins s σ H Q I h => wpAny_Call_Name_kw (ld_glob I hg hm ?_ hdb)⟩
  refine PySem.W.callWith_K (h₀ := X.base) I.ok.mod.kin hk (thn (ha.run pos pins s σ H _ I h) fun us s1 ⟨vs, H1, I1, r, q⟩ => ⟨I1.kIn, wpAny_call (run_RS F hr (hx σ) I1 r q)⟩) he hpl
end
end U
namespace U
open PySem PySem.Spec PyProof.Rows L2 StX
section
variable {X : Cx} {CX : CXT} {e : Expr} {es : List Expr} {te : TE} {t : TA} {p apos cpos pos : Pos} {k i : Nat} {f : Addr} {sp : Sp} {x : Str}
/-- d.update(e), two dicts -/
def rUpdD : V → List V → Hp → VK → Prop := fun x vs H Q => ∃ a b ks ls, x = .ref a ∧ vs = [.ref b] ∧ a ≠ b ∧ H a = some (.dK ks) ∧ H b = some (.dK ls) ∧ ks.length + ls.length ≤ sizeLine ∧ Q .non (upd H a (.dK (mergeK ks ls)))
theorem mt_updD : MtR X "dict.update" rUpdD := by
  intro pins s σ H x vs v us Q I rx rv h
  obtain ⟨a, b, ks, ls, rfl, rfl, hab, ea, eb, hz, q⟩ := h
  cases (show v = Value.ref a from rx)
  obtain ⟨u, rfl, ru⟩ := rv.one
  cases (show u = Value.ref b from ru)
  obtain ⟨z1, ya, va, ra, da⟩ := (show ObjOk X.prog X.w H s.heap a (.dK ks) from I.hok a _ ea)
  obtain ⟨z2, yb, vb, rb, db⟩ := (show ObjOk X.prog X.w H s.heap b (.dK ls) from I.hok b _ eb)
  refine call_meetsIn PySem.F.slot_dict_update da.typeIs PySem.F.entry_dict_update (PySem.F.args_dict_update_2 _ _) (meets_dict_update (mixKind X.prog X.w) a b hab yb) ⟨va, vb, da, db, by rw [← ra.length, ← rb.length]; exact hz, fun h' d2 _ k2 => ?_⟩
  have there : ∃ o, h'.get? a = some o := by
    obtain ⟨o, _, _, e', _⟩ := id d2
    exact ⟨o, e'⟩
  refine ⟨.non, _, I.write (t' := s.toks) (x := a) (e := a) (o := .dK (mergeK ks ls)) (by rw [ea]; exact True.intro) (.inl rfl) (fun c o hc e => (k2.2 c hc).trans e) there ?_, rfl, q⟩
  exact ⟨Nat.le_trans (length_mergeK ls ks) hz, ya, _, rb.merge ra, d2⟩
/-- x(e, ..), x a local that holds one of some defs -/
def tCallLS (S : Addr → Option Sp) (i : Nat) (E : L2.St → XK) (t : TA) : TE := fun σ H Q => ∃ f sp, σ[i]? = some (some (.ref f)) ∧ S f = some sp ∧ t σ H fun vs H1 => sp vs H1 Q (E σ)
theorem pe_callLS {S : Addr → Option Sp} {E : L2.St → XK} (A : ∀ f sp, S f = some sp → FnR X.prog X.w X.K X.mg X.base CX k f sp ∧ PySem.W.keepIn X.K (.ref f) = true) (hr : Room k X.A) (hN : X.N[i]? = some x) (hv : Vis X.env.scope x) (hx : ∀ σ, PassesAt CX X σ (E σ)) (ha : PA X (e :: es) t)
    (hdb : (x == ("__debug__" : Str)) = false := by decide) (hcd : (x == ("__classdict__" : Str)) = false := by decide) (he : starEach (e :: es) X.env = (false, eval e X.env) :: starEach es X.env := by rfl) (hpl : (backTo pos (starEach es X.env)).any (·.1) = false := by rfl) :
    PE X (.Call (.Name x p) (e :: es) [] pos) (tCallLS S i E t) := by
  refine ⟨fun pins s σ H Q I h => ?_⟩
  obtain ⟨f, sp, hs, hS, ht⟩ := h
  obtain ⟨F, hk⟩ := A f sp hS
  refine wpAny_Call_Name_kw (thn ((pe_var (pos := p) hN hv hdb hcd).run pins s σ H (fun v H1 => v = .ref f ∧ H1 = H) I ⟨.ref f, hs, rfl, rfl⟩) fun u s1 ⟨v, H1, I1, r1, q1⟩ => ?_)
  obtain ⟨rfl, rfl⟩ := q1
  cases r1
  exact PySem.W.callWith_K (h₀ := X.base) I.ok.mod.kin hk (thn (ha.run pos pins s1 σ _ _ I1 ht) fun us s2 ⟨vs, H2, I2, r, q⟩ => ⟨I2.kIn, wpAny_call (run_RS F hr (hx σ) I2 r q)⟩) he hpl
end
end U
namespace U
open PySem PySem.Spec PyProof.Rows L2
/-- e, and what it gives is locked for good -/
def tFrz (t : TE) : TE := fun σ H Q => t σ H fun x H1 => ∃ d u, x = .ref d ∧ H1 d = some u ∧ Mut (some u) ∧ ∀ od, Q x (upd H1 d (.frz od u))
theorem pe_frz {X : Cx} {e : Expr} {t : TE} (h : PE X e t) : PE X e (tFrz t) := by
  refine ⟨fun pins s σ H Q I hw => thn (h.run pins s σ H _ I hw) fun v s1 ⟨x, H1, I1, r, d, u, ex, hd, mu, q⟩ => ?_⟩
  obtain ⟨od, I2⟩ := I1.lock hd mu
  exact ⟨x, _, I2, r, q od⟩
section
variable {P : Program} {w : World} {K : PySem.W.Frag} {mg : Str → Option Value} {base : Heap}
/-- a def that may raise, called where it does not -/
theorem fnR_calm {k : Nat} {f : Addr} {sp : Sp} (F : FnR P w K mg base (L2.CX P w) k f sp) : FnR P w K mg base CX0 k f (fun vs H Q _ => sp vs H Q E0) := by
  intro A outer s H us vs Q E hr e0 r h
  refine codeAny_mono (F A outer s H us vs Q E0 hr e0 r h) fun r s' hq => ?_
  cases r with
  | error e =>
    obtain ⟨_, _, _, _, _, _, _, _, _, _, _, _, z⟩ := hq
    exact z.elim
  | ok fl => cases fl <;> exact hq
end
/-! ### own errors with one or two fields -/
def spIni1 (C : Addr) (f : Str) : Sp := fun vs H Q _ => ∃ (a : Addr) (v : V), vs = [.ref a, v] ∧ H a = some (exo a C none) ∧ ∀ dx, H dx = none → dx ≠ a → Q .non (upd (upd H dx (exd dx [(f, v)])) a (exo a C (some dx)))
theorem mk_one {C : Addr} {f : Str} {v : V} {H : Hp} {Q : XK} (h : ∀ d, H d = none → Q (.ref C) (some d) (upd H d (.xd [(f, v)]))) :
    [v].length ≤ 1000 ∧ ∀ a, H a = none → spIni1 C f (.ref a :: ([v] ++ [])) (upd H a (exo a C none))
      (fun z H2 => z = .non ∧ ∃ (d : Addr) (fs : List (Str × V)), H2 a = some (exo a C (some d)) ∧ H2 d = some (exd d fs) ∧ H d = none ∧ Q (.ref C) (some d) (upd (del H2 a) d (.xd fs))) (fun _ _ _ => False) := by
  refine ⟨(by show 1 ≤ 1000; decide), fun a ha => ⟨a, v, rfl, upd_same, fun dx hd ne => ⟨rfl, dx, [(f, v)], upd_same, ?_, ?_, ?_⟩⟩⟩
  · rw [upd_ne ne, upd_same]
  · rw [upd_ne ne] at hd; exact hd
  · rw [upd_ne ne] at hd
    have e : upd (del (upd (upd (upd H a (exo a C none)) dx (exd dx [(f, v)])) a (exo a C (some dx))) a) dx (.xd [(f, v)]) = upd H dx (.xd [(f, v)]) := by
      funext b
      by_cases h1 : b = dx
      · subst h1; rw [upd_same, upd_same]
      · rw [upd_ne h1, upd_ne h1]
        by_cases h2 : b = a
        · subst h2
          rw [ha]
          unfold del
          simp
        · unfold del
          simp only [h2, if_false]
          rw [upd_ne h2, upd_ne h1, upd_ne h2]
    rw [e]
    exact h dx hd
end U
namespace U
open PySem PySem.Spec PyProof.Rows L2
end U
namespace U
open PySem PySem.Spec PyProof.Rows L2 StX
/-! ### defs that are called where no repr runs around them -/
def FnG (P : Program) (w : World) (K : PySem.W.Frag) (mg : Str → Option Value) (base : Heap) (CX : CXT) (k : Nat) (f : Addr) (sp : Sp) : Prop :=
  ∀ (A : Around) (outer : List Env) (s : Shared) (H : Hp) (us : List Value) (vs : List V) (Q : VK) (E : XK), A.guards = some [] → Room k A → Env0 P w K mg base A outer s H → Vals vs us → sp vs H Q E → codeAny (model P w) A (.call (.ref f) ⟨us, []⟩) (CR CX outer P w H s Q E) s
section
variable {P : Program} {w : World} {K : PySem.W.Frag} {mg : Str → Option Value} {base : Heap} {CX : CXT} {j k : Nat} {f : Addr} {sp sp' : Sp}
theorem FnG.mono (F : FnG P w K mg base CX j f sp) (h : j ≤ k) : FnG P w K mg base CX k f sp := fun A outer s H us vs Q E g hr => F A outer s H us vs Q E g (hr.mono h)
theorem FnG.imp (F : FnG P w K mg base CX k f sp) (h : ∀ vs H Q E, sp' vs H Q E → sp vs H Q E) : FnG P w K mg base CX k f sp' := fun A outer s H us vs Q E g hr e0 r z => F A outer s H us vs Q E g hr e0 r (h _ _ _ _ z)
/-- the body's walk, with what is around -/
theorem bodyG {x qual : Str} {st : Stmt} {fd : FuncData} {N ps : List Str} (F : Fun K x qual st f fd) (S : FnScope N ps (defScope st)) (len : ∀ vs H Q E, sp vs H Q E → vs.length = ps.length)
    (hbody : ∀ (cdv : Value) (A : Around) (outer : List Env) (s : Shared) (H : Hp) (vs : List V) (Q : VK) (E : XK), A.guards = some [] → Room k (A.deeper (envOfC qual (defScope st) s.heap.objs.size f cdv)) → sp vs H Q E →
      ∃ t, PSs (cxOf CX P w K mg base N qual (defScope st) f cdv A outer s H E) (defBody st) t ∧ t { nx := fun _ H' => Q .non H', rt := Q } (start N vs) H)
    (A : Around) (outer : List Env) (s : Shared) (H : Hp) (args : Args) (us : List Value) (vs : List V) (Q : VK) (E : XK) (g : A.guards = some []) (hr : Room (k + 1) A) (e0 : Env0 P w K mg base A outer s H) (hb : BindsTo s fd args (ps.zip us)) (r : Vals vs us) (hs : sp vs H Q E) :
    codeAny (model P w) A (.call (.ref f) args) (CR CX outer P w H s Q E) s := by
  obtain ⟨oc, od, kV, doc, pm, an, cdv, ct, osl, rfl, lk, hcd⟩ := F.ex
  have hl := len _ _ _ _ hs
  have kin : K.In s.heap := e0.mod.kin.keeps fun b o e => (e0.bs b o e).1
  have lim : s.heap.NoLimit := e0.mod.nolimit.keeps fun b o e => (e0.bs b o e).1
  have names : ∀ y ∈ ps.zip us, (defScope st).names.lookup y.1 = some .local ∨ ((defScope st).names.lookup y.1 = some .cell ∧ ((cellsFrom (s.heap.objs.size + 1) (defScope st).names []).lookup y.1).isSome = true) := by
    rintro ⟨n, v⟩ hy
    rcases S.par n (List.of_mem_zip hy).1 with q | q
    · exact .inl q
    · exact .inr ⟨q, PySem.W.cellsFrom_some _ _ _ (.inl q)⟩
  refine codeAny_call_function hr.depth (kin _ _ lk) rfl S.co S.gen rfl (PySem.W.codeRec_of kin hcd) (hb _ _ _ _ ?_)
  refine wpAny_newFunctionEnv_cells S.kind names fun env he s1 z => ?_
  subst he
  refine ⟨lim.keeps z.toInCall.keep, codeAny_func ?_⟩
  obtain ⟨t, ht, hq⟩ := hbody cdv A outer s H vs Q E g (hr.deeper _) hs
  have I : Inv (cxOf CX P w K mg base N qual (defScope st) f cdv A outer s H E) [] (start N vs) H s1 := inv_start S hr.hd e0 hl r z
  refine wpAny_mono (ht.run [] s1 (start N vs) H _ I hq) (fun fl s' h' => ?_) fun _ _ h' => h'
  match fl, h' with
  | .ret u, ⟨v, σ', H', J, rv, q⟩ => exact ⟨v, H', J.os, J.bare, J.base, J.hok, rv, q⟩
  | .next, ⟨σ', H', J, q⟩ => exact ⟨.non, H', J.os, J.bare, J.base, J.hok, rfl, q⟩
  | .brk, ⟨_, _, _, q⟩ => exact q.elim
  | .cont, ⟨_, _, _, q⟩ => exact q.elim
theorem FnAt.okG {x qual : Str} {st : Stmt} {N ps : List Str} (B : FnAt K x qual st f ps) (S : FnScope N ps (defScope st)) (len : ∀ vs H Q E, sp vs H Q E → vs.length = ps.length)
    (hbody : ∀ (cdv : Value) (A : Around) (outer : List Env) (s : Shared) (H : Hp) (vs : List V) (Q : VK) (E : XK), A.guards = some [] → Room k (A.deeper (envOfC qual (defScope st) s.heap.objs.size f cdv)) → sp vs H Q E →
      ∃ t, PSs (cxOf CX0 P w K mg base N qual (defScope st) f cdv A outer s H E).nox (defBody st) t ∧ t { nx := fun _ H' => Q .non H', rt := Q } (start N vs) H) : FnG P w K mg base CX0 (k + 1) f sp := by
  obtain ⟨fd, F, bi⟩ := B.ex
  intro A outer s H us vs Q E g hr e0 r hs
  have hl : (us ++ []).length = ps.length := by rw [List.append_nil, ← r.length]; exact len _ _ _ _ hs
  refine bodyG F S len (fun cdv A outer s H vs Q E g hr hs => ?_) A outer s H ⟨us, []⟩ us vs Q E g hr e0 ?_ r hs
  · obtain ⟨t, h, q⟩ := hbody cdv A outer s H vs Q E g hr hs
    exact ⟨t, h.nox, q⟩
  · have := bi s us (e0.mod.kin.keeps fun b o e => (e0.bs b o e).1) hl
    rw [List.append_nil] at this
    exact this
end
section
variable {X : Cx} {CX : CXT} {pins : List (Addr × Obj)} {σ : L2.St} {H : Hp} {s : Shared} {f : Addr} {k : Nat} {sp : Sp} {x : Str} {e : Expr} {es : List Expr} {t : TA} {pp pos : Pos}
/-! ### repr -/
/-- repr of a scalar, whatever runs around -/
def rRepr0 : List V → Hp → VK → Prop := fun xs H Q => (xs = [.non] ∧ Q (.str "None") H) ∨ (∃ b, xs = [.bl b] ∧ Q (.str (if b then "True" else "False")) H) ∨ ∃ i : Int, xs = [.int i] ∧ i.natAbs.log2 < 1920 ∧ Q (.str (toString i)) H
theorem call_repr0 : CallR X (.builtin "repr") rRepr0 := by
  intro pins s σ H xs us Q I r h
  rcases h with ⟨rfl, q⟩ | ⟨b, rfl, q⟩ | ⟨i, rfl, hz, q⟩
  · obtain ⟨u, rfl, ru⟩ := r.one
    cases ru
    exact PySem.P.repr_of_none ⟨.str _, H, I.tok _, ⟨_, rfl⟩, q⟩
  · obtain ⟨u, rfl, ru⟩ := r.one
    cases ru
    exact PySem.P.repr_of_bool ⟨.str _, H, I.tok _, ⟨_, rfl⟩, q⟩
  · obtain ⟨u, rfl, ru⟩ := r.one
    obtain ⟨t, rfl⟩ := ru
    exact PySem.P.repr_of_int hz ⟨.str _, H, I.tok _, ⟨_, rfl⟩, q⟩
/-! ### a dict of ints, shown -/
end
end U
namespace U
open PySem PySem.Spec PyProof.Rows L2 StX
end U
namespace U
open PySem PySem.Spec PyProof.Rows L2 StX
/-! ### the law's call, where no repr runs around it -/
section
variable {P : Program} {w : World} {K : PySem.W.Frag} {mg mb : Str → Option Value} {k : Nat} {fa sc : Addr} {sp : Sp} {s1 : Shared} {us : List Value} {ns : List Int}
/-- from an abstract heap that tracks at most the script -/
theorem law_core (inK : K.In s1.heap) (glob : s1.heap.Ns mainGlobals mg) (blt : s1.heap.Ns builtinsNs mb) (blt2 : ∀ x : Str, x ≠ "__name__" → mb x = bootBuiltins x) (lim : s1.heap.NoLimit) (gens : s1.gens = #[])
    (there : s1.heap.get? sc = some { cls := .type "list", data := .seq us.toArray }) (room : Room k callerA)
    (F : ∀ base : Heap, FnG P w K mg base CX0 k fa sp)
    (H : Hp) (only : Only H) (hok : HOk P w H s1.heap) (just : ∀ b, H b ≠ none → b = sc) (offK : H sc ≠ none → K.lookup sc = none)
    (prom : sp [.ref sc] H (fun v _ => v = .bl true) E0) :
    codeAny (model P w) callerA (.call (.ref fa) ⟨[.ref sc], []⟩) (fun r s' => r = .ok (.ret (.bool true)) ∧ OldK s1.heap s'.heap ∧ s'.os = s1.os ∧ AllBare s'.gens) s1 := by
  have isSc : ∀ {b : Addr} {u : HO}, H b = some u → b = sc := fun {b u} e => just b fun z => by rw [z] at e; cases e
  have free : ∀ {b : Addr} {o : Obj} {es : Array DictEntry} {ep : Nat}, s1.heap.get? b = some o → o.data = .dict es ep → H b = none := by
    intro b o es ep e d
    cases hb : H b with
    | none => rfl
    | some u =>
      have := isSc hb
      subst this
      rw [there] at e
      cases e
      exact absurd (show Data.seq us.toArray _ = Data.dict es ep from d) (by intro z; cases z)
  have spaces : ∀ {b : Addr} {m : Str → Option Value}, s1.heap.Ns b m → (hidT s1.heap H).Ns b m := by
    rintro b m ⟨o, es, ep, e, d, r⟩
    exact ⟨o, es, ep, hidT_get e (free e d), d, r⟩
  have inB : K.In (hidT s1.heap H) := by
    intro b o e
    refine hidT_get (inK b o e) ?_
    cases hb : H b with
    | none => rfl
    | some u =>
      have := isSc hb
      subst this
      have z := offK (by rw [hb]; intro z; cases z)
      rw [e] at z
      cases z
  have md : Mod K mg (hidT s1.heap H) := by
    obtain ⟨mc, l1, l2⟩ := lim
    exact ⟨inB, spaces glob, ⟨mb, spaces blt, blt2⟩, ⟨mc, spaces l1, l2⟩⟩
  have env : Env0 P w K mg (hidT s1.heap H) callerA [] s1 H := by
    refine ⟨rfl, md, fun b o e => of_hidT e, Nat.le_of_eq (hidT_size _ _), trivial, fun b hb => ?_, hok, .of_eq gens⟩
    exact absurd hb List.not_mem_nil
  refine codeAny_mono (F (hidT s1.heap H) callerA [] s1 H [.ref sc] [.ref sc] (fun v _ => v = .bl true) E0 rfl room env (.cons rfl .nil) prom) fun r s' h => ?_
  match r, h with
  | .error e, h => exact h.elim
  | .ok .next, h => exact h.elim
  | .ok .brk, h => exact h.elim
  | .ok .cont, h => exact h.elim
  | .ok (.ret u), ⟨v, H', os, bare, un, hok', rv, q⟩ =>
    subst q
    cases (show u = Value.bool true from rv)
    refine ⟨rfl, OldK.of_keep fun b o e => ?_, os, bare⟩
    cases hb : H b with
    | none => exact un.keep b o e hb (fun z => absurd z List.not_mem_nil) (by simp)
    | some u =>
      rcases only b with z | ⟨ob, xs, z⟩
      · rw [hb] at z
        cases z
      · have a1 := (hok b _ z).1
        have a2 := (hok' b _ (un.frzs b ob _ z)).1
        rw [e] at a1
        cases a1
        exact a2
theorem law_callG (inK : K.In s1.heap) (glob : s1.heap.Ns mainGlobals mg) (blt : s1.heap.Ns builtinsNs mb) (blt2 : ∀ x : Str, x ≠ "__name__" → mb x = bootBuiltins x) (lim : s1.heap.NoLimit) (gens : s1.gens = #[])
    (there : s1.heap.get? sc = some { cls := .type "list", data := .seq us.toArray }) (inS : IntsAre us ns) (len : ns.length ≤ sizeLine) (room : Room k callerA)
    (F : ∀ base : Heap, FnG P w K mg base CX0 k fa sp)
    (prom : ∀ H : Hp, SqL K H sc (ns.map V.int) → sp [.ref sc] H (fun v _ => v = .bl true) E0) :
    codeAny (model P w) callerA (.call (.ref fa) ⟨[.ref sc], []⟩) (fun r s' => r = .ok (.ret (.bool true)) ∧ OldK s1.heap s'.heap ∧ s'.os = s1.os ∧ AllBare s'.gens) s1 := by
  have rv := vals_ints inS
  have go := law_core (P := P) (w := w) (k := k) (fa := fa) (sp := sp) inK glob blt blt2 lim gens there room F
  cases hk : K.lookup sc with
  | some o =>
    have e := inK sc o hk
    rw [there] at e
    cases e
    refine go (fun _ => none) (fun _ => .inl rfl) (fun b u z => by cases (show (none : Option HO) = some u from z)) (fun b z => absurd rfl z) (fun z => absurd rfl z) (prom _ ?_)
    refine .inr ⟨_, us.toArray, _, hk, rfl, rfl, rfl, ?_, by simpa using rv⟩
    rw [List.size_toArray, inS.length]
    exact len
  | none =>
    have at_ : (fun b => if b = sc then some (HO.frz { cls := .type "list", data := .seq us.toArray } (.lst (ns.map V.int))) else none) sc = some (.frz { cls := .type "list", data := .seq us.toArray } (.lst (ns.map V.int))) := if_pos rfl
    refine go (fun b => if b = sc then some (.frz { cls := .type "list", data := .seq us.toArray } (.lst (ns.map V.int))) else none) (fun b => ?_) (fun b u z => ?_) (fun b z => ?_) (fun _ => hk) (prom _ (.inl (.inr ⟨_, at_⟩)))
    · by_cases hb : b = sc
      · subst hb
        exact .inr ⟨_, _, at_⟩
      · exact .inl (if_neg hb)
    · by_cases hb : b = sc
      · subst hb
        rw [at_] at z
        cases z
        refine ⟨there, ?_, us, _, rv, there⟩
        rw [List.length_map]
        exact len
      · have no := (if_neg hb).symm.trans z
        cases no
    · refine Classical.byContradiction fun hb => z (if_neg hb)
end
/-- the goal that k_head leaves, from the law's promise -/
theorem walkG {l : PySem.W.OpenLaw} {n k : Nat} {q : Program} {loose : List Str} {XP : (Str → Option Value) → Heap → Prop} {YP : World → Heap → Prop} {d : DefRec} {K : Params → PySem.W.Frag} {sp : PySem.W.Frag → Sp}
    (hn : l.most = some n) (hn2 : n ≤ sizeLine) (hdf : d.params.defaults = []) (room : Room k callerA) (hY : ∀ (w : World) (h : Heap), YP w h → (K w.params).In h)
    (F : ∀ (w : World) (mg : Str → Option Value) (fa : Addr) (h : Heap), (K w.params).In h → h.Ns mainGlobals mg → mg d.name = some (.ref fa) → ∀ base : Heap, FnG l.prog w (K w.params) mg base CX0 k fa (sp (K w.params)))
    (prom : ∀ (K : PySem.W.Frag) (H : Hp) (a : Addr) (ns : List Int), ns.length ≤ n → SqL K H a (ns.map V.int) → sp K [.ref a] H (fun v _ => v = .bl true) E0) :
    PySem.W.WalkO q loose XP YP l.row.toRowW d [] (fun f vs => PySem.call f vs) := by
  refine Att.attach_call hn hdf fun w s0 s1 mg mb fa o pm cd doc a vs ns G Y ho hd hcd hmg hobj hints hlen hg => ?_
  have inK := hY w _ Y
  exact law_callG inK G.T.g G.T.b G.T.builtins G.T.nolimit hg hobj hints (Nat.le_trans hlen hn2) room (F w mg fa _ inK G.T.g hmg) fun H hS => prom _ H a ns hlen hS
end U
namespace U
open PySem PySem.Spec PyProof.Rows L2 StX
/-! ### defs called while an exception is handled -/
end U
namespace U
open PySem PySem.Spec PyProof.Rows L2 StX
end U
namespace U
open PySem PySem.Spec PyProof.Rows L2 StX
end U
namespace U
open PySem PySem.Spec PyProof.Rows L2 StX PySem.W
end U
namespace U
open PySem PySem.Spec PyProof.Rows L2 StX
/-! ### x op i, the class's own, i an int -/
/-! ### list(d.items()), the dict locked or not -/
end U
namespace U
open PySem PySem.Spec PyProof.Rows L2
/-! ### several clauses 'except x as n' -/
end U
namespace U
open PySem L2
/-! ### facts of heaps, for the search -/
theorem carry {H H' : Hp} {a : Addr} {o : HO} (s : L2.Same H H') (h : H a = some o) : H' a = some o := s a o h
theorem carryNew {H : Hp} {p a : Addr} {o u : HO} (hp : H p = none) (h : H a = some u) : upd H p o a = some u := (Same.new hp) a u h
theorem freeUp {H : Hp} {p q : Addr} {o : HO} (h : upd H q o p = none) : H p = none := by
  by_cases e : p = q
  · subst e; rw [upd_same] at h; cases h
  · rw [upd_ne e] at h; exact h
theorem freeVia {H H' : Hp} {p : Addr} (s : L2.Same H H') (h : H' p = none) : H p = none := s.free h
theorem sameUp {H H1 : Hp} {p : Addr} {o : HO} (hp : H1 p = none) (s : L2.Same H H1) : L2.Same H (upd H1 p o) := s.trans (Same.new hp)
theorem sameVia {H H1 H2 : Hp} (b : L2.Same H1 H2) (a : L2.Same H H1) : L2.Same H H2 := a.trans b
theorem upd_facts {H H1 : Hp} {p : Addr} {o : HO} (h : upd H p o = H1) (n : H p = none) : L2.Same H H1 ∧ H1 p = some o := by
  subst h
  exact ⟨Same.new n, upd_same⟩
theorem nil_le : ([] : List V).length ≤ sizeLine := by decide
theorem one_le {a : V} : [a].length ≤ sizeLine := by show 1 ≤ sizeLine; decide
theorem two_le {a b : V} : [a, b].length ≤ sizeLine := by show 2 ≤ sizeLine; decide
theorem three_le {a b c : V} : [a, b, c].length ≤ sizeLine := by show 3 ≤ sizeLine; decide
theorem le_line {n : Nat} (h : n ≤ 100000) : n ≤ sizeLine := Nat.le_trans h (by decide)
theorem lt_line {n : Nat} (h : n ≤ 100000) : n < sizeLine := Nat.lt_of_le_of_lt h (by decide)
end U
namespace U
open PySem PySem.Spec PyProof.Rows L2 GQ PySem.SeqAt MeetsSeq MeetsSeq2 MeetsSeq3 SeqRoads2
open AutoSeq1 (wpAny_loadPart')
/-- len(o) by the own __len__ -/
def rLenO (C : Addr) (sp : Sp) (E : XK) : List V → Hp → VK → Prop := fun xs H Q => ∃ a dx fs, xs = [.ref a] ∧ H a = some (.ins C dx fs) ∧ sp [.ref a] H (fun v H' => ∃ i : Int, v = .int i ∧ 0 ≤ i ∧ i < 2 ^ 63 ∧ Q (.int i) H') E
theorem call_lenO {X : Cx} {CX : CXT} {n : Nat} {C g : Addr} {sp : Sp} {E : XK} (hs : PySem.W.findIn X.K (.ref C) "__len__" = some (some (.ref g))) (hf : PySem.W.isFn X.K (.ref g) = true) (F : FnR X.prog X.w X.K X.mg X.base CX n g sp) (hr : Room (n + 1) X.A) (hx : Passes CX X E) : CallR X (.builtin "len") (rLenO C sp E) := by
  intro pins s σ H xs us Q I r h
  obtain ⟨a, dx, fs, rfl, ha, q⟩ := h
  obtain rfl := Vals.ref1 r
  obtain ⟨ox, od, J⟩ := ins_inst I ha
  obtain ⟨m, hF⟩ := I.fr
  refine PySem.W.len_K hF I.ok.mod.kin J hs hf ?_
  refine wpAny_mono (wpAny_call (SlX.run_at (us := [.ref a]) (ws := [.ref a]) F (Room.in1 hr) I.env0.in1 hx I (.cons rfl .nil) q)) (fun w s' z => ?_) fun _ _ x => x
  obtain ⟨z', H', I', rz, i, ez, i0, i1, qz⟩ := z
  subst ez
  obtain ⟨t, ew⟩ : ∃ t, w = Value.int i t := rz
  subst ew
  exact ⟨⟨i0, i1⟩, .int i, H', I'.tok _, ⟨_, rfl⟩, qz⟩
/-! ### defs with a star parameter -/
structure StarAt (K : PySem.W.Frag) (x qual : Str) (st : Stmt) (f : Addr) (ps : List Str) (pv : Str) : Prop where
  ex : ∃ fd, Fun K x qual st f fd ∧ ∀ us rest : List Value, us.length = ps.length → bindArgs fd ⟨us ++ rest, []⟩ = (newTuple rest >>= fun t => pure (ps.zip us ++ [(pv, t)]))
theorem StarAt.kp {K : PySem.W.Frag} {x qual : Str} {st : Stmt} {f : Addr} {ps : List Str} {pv : Str} (A : StarAt K x qual st f ps pv) : PySem.W.keepIn K (.ref f) = true := by
  obtain ⟨_, F, _⟩ := A.ex
  exact F.kp
/-- what is asked of the arguments: the named ones, then a new tuple of the rest -/
def spStar (n : Nat) (sp : Sp) : Sp := fun vs H Q E => ∃ ws rest, vs = ws ++ rest ∧ ws.length = n ∧ rest.length ≤ sizeLine ∧ ∀ p, H p = none → sp (ws ++ [V.ref p]) (upd H p (.tup rest)) Q E
section
variable {P : Program} {w : World} {K : PySem.W.Frag} {mg : Str → Option Value} {base : Heap} {x qual pv : Str} {st : Stmt} {f : Addr} {N ps : List Str} {k : Nat} {sp : Sp}
theorem StarAt.okX (B : StarAt K x qual st f ps pv) (S : FnScope N (ps ++ [pv]) (defScope st))
    (walk : ∀ (cdv : Value) (A : Around) (outer : List Env) (s : Shared) (H : Hp) (vs : List V) (Q : VK) (E : XK), Room k (A.deeper (envOfC qual (defScope st) s.heap.objs.size f cdv)) → sp vs H Q E →
      ∃ t, PSs (cxOf (L2.CX P w) P w K mg base N qual (defScope st) f cdv A outer s H E) (defBody st) t ∧ t { nx := fun _ H' => Q .non H', rt := Q } (start N vs) H) : FnR P w K mg base (L2.CX P w) (k + 1) f (spStar ps.length sp) := by
  obtain ⟨fd, F, hb⟩ := B.ex
  obtain ⟨oc, od, kV, doc, pm, an, cdv, ct, osl, rfl, lk, hcd⟩ := F.ex
  exact StX.fn_star lk hcd S StX.cxUp hb fun A outer s H vs Q E hr h => walk cdv A outer s H vs Q E hr h
theorem StarAt.ok (B : StarAt K x qual st f ps pv) (S : FnScope N (ps ++ [pv]) (defScope st))
    (walk : ∀ (cdv : Value) (A : Around) (outer : List Env) (s : Shared) (H : Hp) (vs : List V) (Q : VK) (E : XK), Room k (A.deeper (envOfC qual (defScope st) s.heap.objs.size f cdv)) → sp vs H Q E →
      ∃ t, PSs (cxOf CX0 P w K mg base N qual (defScope st) f cdv A outer s H E).nox (defBody st) t ∧ t { nx := fun _ H' => Q .non H', rt := Q } (start N vs) H) : FnR P w K mg base CX0 (k + 1) f (spStar ps.length sp) := by
  obtain ⟨fd, F, hb⟩ := B.ex
  obtain ⟨oc, od, kV, doc, pm, an, cdv, ct, osl, rfl, lk, hcd⟩ := F.ex
  refine StX.fn_star lk hcd S StX.cxUp_none hb fun A outer s H vs Q E hr h => ?_
  obtain ⟨t, a, b⟩ := walk cdv A outer s H vs Q E hr h
  exact ⟨t, a.nox, b⟩
end
/-! ### == by an own __eq__, inside lists and tuples -/
end U
namespace U
open PySem PySem.Spec PyProof.Rows L2 StX LamX
/-! ### defs with lambdas: the code object's place is told -/
structure CodeAt (K : PySem.W.Frag) (x qual : Str) (st : Stmt) (f c : Addr) (ps : List Str) : Prop where
  ex : ∃ (oc : Value) (od : Option Addr) (kV doc pm : Value) (an : Option Addr) (ct : Value) (osl : Array (Option Value)),
    K.lookup f = some ⟨oc, od, .func (PySem.W.fnOf x qual (defArgs st) (defBody st) (defScope st) .none kV doc pm an (.ref c) ct), osl⟩ ∧ PySem.W.codeIn K (.ref c) qual = true ∧ Binds K (PySem.W.fnOf x qual (defArgs st) (defBody st) (defScope st) .none kV doc pm an (.ref c) ct) ps []
section
variable {P : Program} {w : World} {K : PySem.W.Frag} {mg : Str → Option Value} {base : Heap} {k : Nat} {f c : Addr} {sp : Sp} {x qual : Str} {st : Stmt} {N ps : List Str}
theorem CodeAt.okG (B : CodeAt K x qual st f c ps) (S : FnScope N ps (defScope st)) (len : ∀ vs H Q E, sp vs H Q E → vs.length = ps.length)
    (walk : ∀ (A : Around) (outer : List Env) (s : Shared) (H : Hp) (vs : List V) (Q : VK) (E : XK), A.guards = some [] → Room k (A.deeper (envOfC qual (defScope st) s.heap.objs.size f (.ref c))) → sp vs H Q E →
      ∃ t, PSs (cxOf CX0 P w K mg base N qual (defScope st) f (.ref c) A outer s H E).nox (defBody st) t ∧ t { nx := fun _ H' => Q .non H', rt := Q } (start N vs) H) : FnG P w K mg base CX0 (k + 1) f sp := by
  obtain ⟨oc, od, kV, doc, pm, an, ct, osl, lk, hcd, bi⟩ := B.ex
  intro A outer s H us vs Q E g hr e0 r hs
  have hl := len _ _ _ _ hs
  have kin : K.In s.heap := e0.mod.kin.keeps fun b o e => (e0.bs b o e).1
  have lim : s.heap.NoLimit := e0.mod.nolimit.keeps fun b o e => (e0.bs b o e).1
  have names : ∀ y ∈ ps.zip us, (defScope st).names.lookup y.1 = some .local ∨ ((defScope st).names.lookup y.1 = some .cell ∧ ((cellsFrom (s.heap.objs.size + 1) (defScope st).names []).lookup y.1).isSome = true) := by
    rintro ⟨n, v⟩ hy
    rcases S.par n (List.of_mem_zip hy).1 with q | q
    · exact .inl q
    · exact .inr ⟨q, PySem.W.cellsFrom_some _ _ _ (.inl q)⟩
  have hb : BindsTo s (PySem.W.fnOf x qual (defArgs st) (defBody st) (defScope st) .none kV doc pm an (.ref c) ct) ⟨us, []⟩ (ps.zip us) := by
    have := bi s us kin (by rw [List.append_nil, ← r.length]; exact hl)
    rw [List.append_nil] at this
    exact this
  refine codeAny_call_function hr.depth (kin _ _ lk) rfl S.co S.gen rfl (PySem.W.codeRec_of kin hcd) (hb _ _ _ _ ?_)
  refine wpAny_newFunctionEnv_cells S.kind names fun env he s1 z => ?_
  subst he
  refine ⟨lim.keeps z.toInCall.keep, codeAny_func ?_⟩
  obtain ⟨t, ht, hq⟩ := walk A outer s H vs Q E g (hr.deeper _) hs
  have I : Inv (cxOf CX0 P w K mg base N qual (defScope st) f (.ref c) A outer s H E) [] (start N vs) H s1 := inv_start S hr.hd e0 hl r z
  refine wpAny_mono (ht.nox.run [] s1 (start N vs) H _ I hq) (fun fl s' h' => ?_) fun _ _ h' => h'
  match fl, h' with
  | .ret u, ⟨v, σ', H', J, rv, q⟩ => exact ⟨v, H', J.os, J.bare, J.base, J.hok, rv, q⟩
  | .next, ⟨σ', H', J, q⟩ => exact ⟨.non, H', J.os, J.bare, J.base, J.hok, rfl, q⟩
  | .brk, ⟨_, _, _, q⟩ => exact q.elim
  | .cont, ⟨_, _, _, q⟩ => exact q.elim
end
/-! ### the law's call, tables tracked -/
/-! ### what a lambda's caller makes of its exceptions -/
/-! ### heaps that grow but for the tables -/
end U
namespace U
open PySem PySem.Spec PyProof.Rows L2 StX LamX
end U
namespace U
open PySem PySem.Spec PyProof.Rows L2
/-! ### x not in a tuple, data of any depth -/
end U
namespace U
open PySem PySem.Spec PyProof.Rows L2
/-! ### dicts of ints in a list: in, not in, index -/
theorem vals_refs : ∀ {as : List Addr} {us : List Value}, Vals (as.map V.ref) us → us = as.map Value.ref
  | [], [], _ => rfl
  | [], _ :: _, r => by cases r
  | _ :: _, [], r => by cases r
  | a :: as, u :: us, r => by
    cases r with
    | cons h t =>
      cases (show u = Value.ref a from h)
      rw [vals_refs t]
      rfl
end U
namespace U
open PySem PySem.Spec PyProof.Rows L2 StX
end U
namespace U
open PySem PySem.Spec PyProof.Rows L2 StX NdefX
/-! ### a def of a class whose first statement is super().m(..) -/
/-- what is asked of the program around: the file of its code objects, super not hidden at the top -/
structure SupP (P : Program) (file : Str) : Prop where
  file : ((P.main.file : Str) == file) = true
  top : (P.main.scope.names.lookup ("super" : Str)).isSome = false
structure SupAt (K : PySem.W.Frag) (x qual : Str) (st : Stmt) (f c cc D : Addr) (ps : List Str) (file : Str) : Prop where
  ex : ∃ (oc : Value) (od : Option Addr) (kV doc pm : Value) (an : Option Addr) (ct : Value) (osl : Array (Option Value)),
    K.lookup f = some ⟨oc, od, .func (PySem.W.fnX x qual (defArgs st) (defBody st) (defScope st) [("__class__", cc)] .none kV doc pm an (.ref c) ct), osl⟩ ∧ PySem.W.codeIn K (.ref c) qual = true ∧ Binds K (PySem.W.fnX x qual (defArgs st) (defBody st) (defScope st) [("__class__", cc)] .none kV doc pm an (.ref c) ct) ps []
  code : ∃ (ccl : Value) (cdd : Option Addr) (vs : Array Value) (ccs : Array (Option Value)) (tf : Tok), K.lookup c = some ⟨ccl, cdd, .fields vs, ccs⟩ ∧ vs[2]? = some (.str file tf)
  cell : ∃ (cl : Value) (cld : Option Addr) (csl : Array (Option Value)), K.lookup cc = some ⟨cl, cld, .cell (some (.ref D)), csl⟩
  cls : ∃ cd, PySem.W.clsIn K D = some cd
  pos : ((defArgs st).posonlyargs ++ (defArgs st).args).head?.map (·.arg) = ps[0]?
  nosuper : PySem.W.nsIn K mainGlobals "super" = some none
  noop : PySem.W.nsIn K cStatics "thirdparty.any" = some none
  scS : (defScope st).names.lookup ("super" : Str) = some .globalImplicit
  scC : (defScope st).names.lookup ("__class__" : Str) = some .free
/-- the method that super().m finds, for an instance of the class at C -/
structure SupM (K : PySem.W.Frag) (C D : Addr) (m : Str) (f2 : Addr) : Prop where
  sub : PySem.W.mroIn K C (.ref D) = some true
  at_ : PySem.W.ks_superIn K C D m = some (some (.ref f2))
  ty : PySem.W.typeIn K (.ref f2) = some (.type "function")
  fi : PySem.W.fnIn K f2 = true
  cl : (m == ("__class__" : Str)) = false
section
variable {X : Cx} {pins : List (Addr × Obj)} {σ : L2.St} {H : Hp} {s : Shared} {C D dx x f2 : Addr} {fs : List (Str × V)} {m : Str}
/-- super().m(..) run within the def's own code -/
theorem run_super {CX : CXT} {k2 : Nat} {sp2 : Sp} {Q : VK} {E : XK} {t : TA} {body : List Stmt} {p0 p1 apos pos epos : Pos} {e : Expr} {qual : Str} {st : Stmt} {name : Str} {f c cc : Addr} {ps : List Str} {file s0 : Str}
    (B : SupAt X.K name qual st f c cc D ps file) (hP : SupP X.prog file) (M : SupM X.K C D m f2) (F : FnR X.prog X.w X.K X.mg X.base CX k2 f2 sp2) (hr : Room k2 X.A) (hx : Passes CX X E)
    (hsc : X.env.scope = defScope st) (hfu : X.env.func = some f) (hco : X.env.code = .ref c) (hcl : X.env.cells.lookup ("__class__" : Str) = some cc) (hps : ps[0]? = some s0) (hN : X.N[0]? = some s0) (hloc : X.env.scope.names.lookup s0 = some .local)
    (I : Inv X pins σ H s) (hv : σ[0]? = some (some (.ref x))) (ea : H x = some (.ins C dx fs)) (ha : PA X [e] t)
    (h : t σ H fun vs H1 => sp2 (.ref x :: vs) H1 Q E)
    (hint : interactive X.env = false) (hsw : swapsWith (.Call (.Attribute (.Call (.Name "super" p0) [] [] p1) m apos) [e] [] pos) none epos.line X.env = pure false)
    (hst : starEach [e] X.env = [(false, eval e X.env)]) (pl : Sem Bool)
    (he : eval (.Call (.Attribute (.Call (.Name "super" p0) [] [] p1) m apos) [e] [] pos) X.env = (do
      let ov ← attributeBase (.Call (.Name "super" p0) [] [] p1) m X.env (eval (.Call (.Name "super" p0) [] [] p1) X.env)
      standAt apos.atName
      let (f, first) ← holding [ov] (getMethod ov m pl)
      callWith pos f first (backTo pos (starEach [e] X.env)) [])) :
    PySem.wpAt (model X.prog X.w) X.A (.func body X.env) (exec (.Expr (.Call (.Attribute (.Call (.Name "super" p0) [] [] p1) m apos) [e] [] pos) epos) X.env)
      (fun fl s' => fl = .next ∧ ∃ v H2, Inv X pins σ H2 s' ∧ Q v H2) X.xe s := by
  obtain ⟨oc, od, kV, doc, pm, an, ct, osl, lk, hcd, bi⟩ := B.ex
  obtain ⟨ccl, cdd, vs2, ccs, tf, hcode, hvs⟩ := B.code
  obtain ⟨cl0, cld, csl, hcell⟩ := B.cell
  obtain ⟨cdD, hD⟩ := B.cls
  have KX := I.kIn
  obtain ⟨oD, hD1, hD2⟩ : ∃ oD, s.heap.get? D = some oD ∧ oD.data = .cls cdD := by
    unfold PySem.W.clsIn at hD
    split at hD
    · rename_i c d cd' sl ho
      cases hD
      exact ⟨_, KX _ _ ho, rfl⟩
    · cases hD
  obtain ⟨ar, har, har2⟩ : ∃ ar : Arg, ((defArgs st).posonlyargs ++ (defArgs st).args).head? = some ar ∧ ar.arg = s0 := by
    have := B.pos
    rw [hps] at this
    cases z : ((defArgs st).posonlyargs ++ (defArgs st).args).head? with
    | none => rw [z] at this; cases this
    | some ar => rw [z] at this; exact ⟨ar, rfl, Option.some.inj this⟩
  obtain ⟨mA, O, _, _, _, _⟩ := ins_get I.hok ea
  obtain ⟨odx, J, _⟩ := O.look
  refine PySem.ks_wpAt_Expr_any ?_ hint hsw
  refine PySem.ks_wpAt_MethodCall (pl := pl) ?_ he
  refine PySem.ks_wpAt_super_base (env := X.env) (fd := PySem.W.fnX name qual (defArgs st) (defBody st) (defScope st) [("__class__", cc)] .none kV doc pm an (.ref c) ct) (by show X.env.scope.names.lookup _ = _; rw [hsc]; exact B.scS) (by show X.env.scope.names.lookup _ = _; rw [hsc]; exact B.scC) M.cl hfu (KX _ _ lk) rfl (ar := ar) har hco (KX _ _ hcode) rfl hvs hP.file hP.top ?_
  have hgs : X.env.kindOf ("super" : Str) = some .globalImplicit := by show X.env.scope.names.lookup _ = _; rw [hsc]; exact B.scS
  refine PySem.W.ks_loadName_global I.ok.kind hgs ?_
  obtain ⟨mb, h1, h2⟩ := I.mod.blt
  refine Calls.loadGlobal_builtin (by rw [I.ok.glob]; exact I.mod.glob.keeps I.bk) (PySem.W.mg_none_of I.mod.kin I.mod.glob B.nosuper) (by rw [I.ok.blt]; exact h1.keeps I.bk) ((h2 "super" (by decide +kernel)).trans (by rfl)) ⟨rfl, ?_⟩
  refine wpAny_loadName_free I.ok.kind (by show X.env.scope.names.lookup _ = _; rw [hsc]; exact B.scC) hcl ⟨_, KX _ _ hcell, rfl⟩ ?_
  obtain ⟨mL, hns, hal⟩ := I.loc
  obtain ⟨u, ru, hlook⟩ := hal 0 s0 (.ref x) hN hv (Or.inl hloc)
  obtain rfl : u = Value.ref x := ru
  have hmL : mL s0 = some (.ref x) := by
    rcases hlook with ⟨_, z⟩ | ⟨z, _⟩
    · exact z
    · rcases z with z | z
      · rw [show X.env.kindOf s0 = some .local from hloc] at z; cases z
      · rw [show X.env.kindOf s0 = some .local from hloc] at z; cases z
  rw [har2]
  refine wpAny_loadName_local I.ok.kind hloc hns hmL ?_
  obtain ⟨hh, g, d, t0, os⟩ := s
  refine PySem.ks_wpAny_isType_cls hD1 hD2 ⟨rfl, ?_⟩
  refine PySem.ks_wpAny_call_super hD1 hD2 J.at_ J.cls (fun c e => ?_) (PySem.W.looks_mroIn KX M.sub) (fun h' ee kk => ?_)
  · have := J.no
    unfold PySem.W.notCls at this
    rw [e] at this
    exact Bool.noConfusion this
  -- the super object stands; its method
  have I2 : Inv X pins σ H ⟨h', g, d, t0, os⟩ := I.kept (t' := t0) kk
  have KX2 := I2.kIn
  cases hc : PySem.W.clsIn X.K C with
  | none => have := M.at_; unfold PySem.W.ks_superIn at this; rw [hc] at this; cases this
  | some cd =>
    have hm := M.at_
    unfold PySem.W.ks_superIn at hm
    rw [hc] at hm
    obtain ⟨of, hof, hofc⟩ : ∃ of, h'.get? f2 = some of ∧ of.cls = .type "function" := by
      have ht' : (X.K.lookup f2).map (·.cls) = some (.type "function") := M.ty
      cases z : X.K.lookup f2 with
      | none => rw [z] at ht'; cases ht'
      | some of => rw [z] at ht'; exact ⟨of, KX2 _ _ z, Option.some.inj ht'⟩
    refine PySem.ks_wpAny_getMethod_super ee (PySem.W.looks_opaque KX2 B.noop) (l₀ := cd.mro) ?_ rfl KX2 hm hof hofc (PySem.W.ks_ne KX J hc) M.cl ?_
    · exact fun A Q E s k q => wpAny_bind ((PySem.W.looks_clsIn KX2 hc) A _ E s k (wpAny_pure q))
    · have I3 : Inv X ((h'.objs.size, PySem.W.methodObj (.ref f2) (.ref x)) :: pins) σ H ⟨h'.push (PySem.W.methodObj (.ref f2) (.ref x)), g, d, t0 + 1, os⟩ := ClX.met_new I2
      refine ClX.callwith_cm I3 (ClX.base_none I2 (Nat.le_refl _)) M.fi (thn (ha.run pos _ _ σ H _ I3 h) fun us s3 ⟨vs, H2, I4, rv, q2⟩ => ⟨⟨ClX.pin_at I4, I4.kIn⟩, ?_⟩) hst rfl
      exact thn (ClX.run_cm F hr hx I4 rv q2) fun v s4 ⟨z, H3, I5, _, q3⟩ => ⟨rfl, z, H3, I5, q3⟩
end
/-- the def, by its first statement super().m(e) and the rest -/
theorem SupAt.okX {P : Program} {w : World} {K : PySem.W.Frag} {mg : Str → Option Value} {base : Heap} {CX : CXT} {k k2 : Nat} {name qual : Str} {st : Stmt} {f c cc D C f2 : Addr} {N ps : List Str} {file s0 m : Str} {sp sp2 : Sp} {p0 p1 apos pos epos : Pos} {e : Expr} {rest : List Stmt}
    (B : SupAt K name qual st f c cc D ps file) (hP : SupP P file) (M : SupM K C D m f2) (F : FnR P w K mg base CX k2 f2 sp2) (hk : k2 ≤ k)
    (S : NScope N ps ["__class__"] (defScope st)) (hps : ps[0]? = some s0) (hb : defBody st = .Expr (.Call (.Attribute (.Call (.Name "super" p0) [] [] p1) m apos) [e] [] pos) epos :: rest)
    (len : ∀ vs H Q E, sp vs H Q E → vs.length = ps.length)
    (walk : ∀ (A : Around) (outer : List Env) (s : Shared) (H : Hp) (vs : List V) (Q : VK) (E : XK) (X : Cx), X = ncx CX P w K mg base N ⟨name, qual, defArgs st, defBody st, defScope st, [("__class__", cc)], c⟩ f A outer s H E → Room k X.A → sp vs H Q E →
      Passes CX X E ∧ interactive X.env = false ∧ swapsWith (.Call (.Attribute (.Call (.Name "super" p0) [] [] p1) m apos) [e] [] pos) none epos.line X.env = pure false ∧ starEach [e] X.env = [(false, eval e X.env)] ∧
      (∃ pl : Sem Bool, eval (.Call (.Attribute (.Call (.Name "super" p0) [] [] p1) m apos) [e] [] pos) X.env = (do
        let ov ← attributeBase (.Call (.Name "super" p0) [] [] p1) m X.env (eval (.Call (.Name "super" p0) [] [] p1) X.env)
        standAt apos.atName
        let (f, first) ← holding [ov] (getMethod ov m pl)
        callWith pos f first (backTo pos (starEach [e] X.env)) [])) ∧
      ∃ (x dx : Addr) (fs : List (Str × V)) (t : TA), vs[0]? = some (.ref x) ∧ H x = some (.ins C dx fs) ∧ PA X [e] t ∧
        t (startF N vs [none]) H fun us H1 => sp2 (.ref x :: us) H1 (fun _ H2 => ∃ tt, PSs X rest tt ∧ tt { nx := fun _ H' => Q .non H', rt := Q } (startF N vs [none]) H2) E) :
    FnR P w K mg base CX (k + 1) f sp := by
  obtain ⟨oc, od, kV, doc, pm, an, ct, osl, lk, hcd, bi⟩ := B.ex
  intro A outer s H us vs Q E hr e0 r hs
  have hl := len _ _ _ _ hs
  have kin : K.In s.heap := e0.mod.kin.keeps fun b o e => (e0.bs b o e).1
  have lim : s.heap.NoLimit := e0.mod.nolimit.keeps fun b o e => (e0.bs b o e).1
  have hbn : BindsTo s (PySem.W.fnX name qual (defArgs st) (defBody st) (defScope st) [("__class__", cc)] .none kV doc pm an (.ref c) ct) ⟨us, []⟩ (ps.zip us) := by
    have := bi s us kin (by rw [List.append_nil, ← r.length]; exact hl)
    rw [List.append_nil] at this
    exact this
  refine codeAny_call_function hr.depth (kin _ _ lk) rfl S.co S.gen rfl (PySem.W.codeRec_of kin hcd) (hbn _ _ _ _ ?_)
  refine wpAny_newFunctionEnv S.nocell (fun ⟨n, _⟩ hy => S.par n (List.of_mem_zip hy).1) (fun h₁ hns hsb => ⟨lim.fresh _ hsb, ?_⟩) S.kind
  generalize hF : (⟨name, qual, defArgs st, defBody st, defScope st, [(("__class__" : Str), cc)], c⟩ : NF) = FF at walk
  have hFc : FF.cl = [(("__class__" : Str), cc)] := by rw [← hF]
  have hFs : FF.scope = defScope st := by rw [← hF]
  have hFb : FF.body = defBody st := by rw [← hF]
  have hFcc : FF.c = c := by rw [← hF]
  have henv : envF FF f s.heap.objs.size = PySem.W.envX qual (defScope st) s.heap.objs.size f (.ref c) [(("__class__" : Str), cc)] := by rw [← hF]
  have kp : ∀ b o, s.heap.get? b = some o → h₁.get? b = some o := fun b o e => hsb.extBut b o (Nat.ne_of_lt (Heap.lt_size e)) (Heap.get?_push_of_some _ e)
  obtain ⟨cl0, cld, csl, hcell⟩ := B.cell
  have CA : CellsAt FF.cl ["__class__"] [none] s.heap H := by
    rw [hFc]
    refine ⟨rfl, fun y a hy => ?_, fun a b a' h1 h2 => ?_, fun i y hi => ?_⟩
    · have : a = cc := by
        have hm := PySem.mem_of_lookup hy
        simp only [List.mem_singleton] at hm
        exact (Prod.mk.inj hm).2
      subst this
      exact ⟨(e0.bs _ _ (e0.mod.kin _ _ hcell)).2, _, _, kin _ _ hcell, rfl⟩
    · have m1 := PySem.mem_of_lookup h1
      have m2 := PySem.mem_of_lookup h2
      simp only [List.mem_singleton] at m1 m2
      rw [(Prod.mk.inj m1).1, (Prod.mk.inj m2).1]
    · match i, hi with
      | 0, hi =>
        cases hi
        exact ⟨cc, by simp [List.lookup], fun v hv => by cases hv⟩
      | i + 1, hi => simp at hi
  have I : Inv (ncx CX P w K mg base N FF f A outer s H E) [] (startF N vs [none]) H { s with heap := h₁, toks := s.toks + (ps.zip us).length } := inv_startN (by rw [hFs]; exact S) hr.hd e0 hl r CA hns kp
  obtain ⟨hx, hint, hsw, hst, ⟨pl, he⟩, x, dx, fs, t, hv0, ea, ha, hq⟩ := walk A outer s H vs Q E _ rfl (hr.deeper _) hs
  show codeAny _ _ (.func (defBody st) (PySem.W.envX qual (defScope st) s.heap.objs.size f (.ref c) [(("__class__" : Str), cc)])) _ _
  rw [← henv]
  refine PySem.ks_codeAny_funcAt ?_
  rw [hb]
  refine PySem.ks_wpAt_execs_cons ?_
  have hps0 : ps.length ≠ 0 := by
    intro z
    cases ps with
    | nil => cases hps
    | cons a b => cases z
  have hv : (startF N vs [none])[0]? = some (some (.ref x)) := by
    unfold startF
    rw [List.getElem?_append_left (by rw [List.length_map]; omega), List.getElem?_map, hv0]
    rfl
  have hN0 : N[0]? = some s0 := by
    have : (ps ++ [("__class__" : Str)])[0]? = some s0 := by rw [List.getElem?_append_left (by omega)]; exact hps
    rw [← S.pre, List.getElem?_take_of_lt (by simp)] at this
    exact this
  have hloc0 : (defScope st).names.lookup s0 = some .local := S.par s0 (List.mem_of_getElem? hps)
  refine PySem.ks_wpAt_mono (run_super (X := ncx CX P w K mg base N FF f A outer s H E) (body := _) B hP M F ((hr.deeper _).mono hk) hx hFs rfl (by show Value.ref FF.c = _; rw [hFcc]) (by show FF.cl.lookup _ = _; rw [hFc]; simp [List.lookup]) hps hN0 (by show FF.scope.names.lookup s0 = _; rw [hFs]; exact hloc0) I hv ea ha hq hint hsw hst pl he) (fun fl s' hh => ?_) fun e s' hh => hh
  obtain ⟨rfl, _, H2, I2, tt, htt, hqq⟩ := hh
  refine wpAt_of_wpAny ?_
  have fin : ∀ {σ' : L2.St} {H' : Hp} {v : V} {u : Value} {s' : Shared}, Inv (ncx CX P w K mg base N FF f A outer s H E) [] σ' H' s' → L2.RelV v u → Q v H' → CE outer P w H s Q u s' :=
    fun {σ' H' v u s'} J rv q => ⟨v, H', J.os, J.bare, J.base, J.hok, rv, q⟩
  refine wpAny_mono (htt.run [] _ (startF N vs [none]) H2 _ I2 hqq) (fun fl s' hs => ?_) fun e s' hs => hs
  cases fl with
  | ret u =>
    obtain ⟨v, σ', H', J, rv, q⟩ := hs
    exact fin J rv q
  | next =>
    obtain ⟨σ', H', J, q⟩ := hs
    exact fin (v := V.non) (u := Value.none) J rfl q
  | brk =>
    obtain ⟨_, _, _, q⟩ := hs
    exact False.elim q
  | cont =>
    obtain ⟨_, _, _, q⟩ := hs
    exact False.elim q
end U
namespace U
open PySem PySem.Spec PyProof.Rows L2 StX
/-! ### {o!r}, o an instance with its own __repr__ -/
end U
namespace U
open PySem PySem.Spec PyProof.Rows L2 GQ PySem.SeqAt MeetsSeq MeetsSeq2 MeetsSeq3 SeqRoads2
open AutoSeq1 (wpAny_loadPart')
/-! ### == of lists and tuples, with either result -/
/-- D x y H c: == of the two gives c -/
abbrev EqvB := V → V → Hp → Bool → Prop
def MonB (D : EqvB) : Prop := ∀ x y H H' c, Ext H H' → D x y H c → D x y H' c
def EqH (X : Cx) (n : Nat) (D : EqvB) : Prop :=
  ∀ (A : Around) (pins : List (Addr × Obj)) (s : Shared) (σ : L2.St) (H : Hp) (x y : V) (u v : Value) (c : Bool), Sub X n A → Inv X pins σ H s → RelV x u → RelV y v → D x y H c →
    wpAny (model X.prog X.w) A (eqBool u v) (fun r s' => r = c ∧ ∃ H', Inv X pins σ H' s' ∧ Ext H H') X.xe s
section
variable {X : Cx} {n m : Nat} {D D' : EqvB}
theorem EqH.mono (h : EqH X n D) (hn : n ≤ m) : EqH X m D := fun A pins s σ H x y u v c sb => h A pins s σ H x y u v c (sb.mono hn)
theorem EqH.or (h : EqH X n D) (h' : EqH X n D') : EqH X n (fun x y H c => D x y H c ∨ D' x y H c) := fun A pins s σ H x y u v c sb I rx ry d => by
  rcases d with d | d
  · exact h A pins s σ H x y u v c sb I rx ry d
  · exact h' A pins s σ H x y u v c sb I rx ry d
theorem MonB.or (h : MonB D) (h' : MonB D') : MonB (fun x y H c => D x y H c ∨ D' x y H c) := fun x y H H' c e d => d.elim (fun d => .inl (h x y H H' c e d)) fun d => .inr (h' x y H H' c e d)
end
end U
namespace PySem.W
open PySem PySem.Calls PyProof.Rows
end PySem.W
namespace U
open PySem PySem.Spec PyProof.Rows L2 StX
end U
namespace U
open PySem PySem.Spec PyProof.Rows L2 StX
/-! ### C(*xs) -/
end U
namespace U
open PySem PySem.Spec PyProof.Rows L2 GQ PySem.SeqAt MeetsSeq MeetsSeq2 MeetsSeq3 SeqRoads2
open AutoSeq1 (wpAny_loadPart')
/-! ### != of lists, == and != of tuples of any lengths, in: with either result -/
/-- what != says, by what == says -/
def NeH (X : Cx) (n : Nat) (D : EqvB) : Prop :=
  ∀ (A : Around) (pins : List (Addr × Obj)) (s : Shared) (σ : L2.St) (H : Hp) (x y : V) (u v : Value) (c : Bool), Sub X n A → Inv X pins σ H s → RelV x u → RelV y v → D x y H c →
    wpAny (model X.prog X.w) A (richCompare .NotEq u v) (fun r s' => r = .bool (!c) ∧ ∃ H', Inv X pins σ H' s' ∧ Ext H H') X.xe s
section
variable {X : Cx} {n m : Nat} {D D' : EqvB}
theorem NeH.or (h : NeH X n D) (h' : NeH X n D') : NeH X n (fun x y H c => D x y H c ∨ D' x y H c) := fun A pins s σ H x y u v c sb I rx ry d => by
  rcases d with d | d
  · exact h A pins s σ H x y u v c sb I rx ry d
  · exact h' A pins s σ H x y u v c sb I rx ry d
end
end U
namespace U
open PySem PySem.Spec PyProof.Rows L2 StX
open PySem.AutoSeq1 (wpAny_loadPart')
/-! ### enumerate(a tuple) -/
/-! ### a tuple of one item, many times -/
end U
namespace PM
open U
/-! ### one-to-one maps between parts of 0 .. n - 1 -/
abbrev PF := Int → Option Int
structure WF (n : Int) (f : PF) : Prop where
  dom : ∀ x y, f x = some y → 0 ≤ x ∧ x < n ∧ 0 ≤ y ∧ y < n
  inj : ∀ x x' y, f x = some y → f x' = some y → x = x'
def tabN (f : PF) (n : Nat) : List (Int × Int) := (List.range n).filterMap fun (i : Nat) => (f (i : Int)).map fun y => ((i : Int), y)
def tab (n : Int) (f : PF) : List (Int × Int) := tabN f n.toNat
theorem mem_tabN {f : PF} {n : Nat} {x y : Int} : (x, y) ∈ tabN f n ↔ f x = some y ∧ ∃ i : Nat, i < n ∧ x = (i : Int) := by
  unfold tabN
  rw [List.mem_filterMap]
  constructor
  · rintro ⟨i, hi, e⟩
    rw [List.mem_range] at hi
    cases h : f (i : Int) with
    | none => rw [h] at e; cases e
    | some z => rw [h] at e; cases e; exact ⟨h, i, hi, rfl⟩
  · rintro ⟨h, i, hi, rfl⟩
    exact ⟨i, List.mem_range.mpr hi, by rw [h]; rfl⟩
theorem mem_tab {n : Int} {f : PF} (w : WF n f) {x y : Int} : (x, y) ∈ tab n f ↔ f x = some y := by
  unfold tab
  rw [mem_tabN]
  constructor
  · exact fun h => h.1
  · intro h
    have := w.dom x y h
    exact ⟨h, x.toNat, by omega, by omega⟩
theorem keys_tabN (f : PF) (n : Nat) : ((tabN f n).map (·.1)).Nodup := by
  induction n with
  | zero => exact List.nodup_nil
  | succ n ih =>
    have e : tabN f (n + 1) = tabN f n ++ ((f (n : Int)).map fun y => ((n : Int), y)).toList := by
      unfold tabN
      rw [List.range_succ, List.filterMap_append]
      cases h : f (n : Int) <;> simp [h]
    rw [e, List.map_append, List.nodup_append]
    refine ⟨ih, ?_, ?_⟩
    · cases f (n : Int) <;> simp
    · intro a ha b hb e
      subst e
      obtain ⟨p, hp, rfl⟩ := List.mem_map.mp ha
      obtain ⟨x, y⟩ := p
      obtain ⟨_, i, hi, ex⟩ := mem_tabN.mp hp
      cases h : f (n : Int) with
      | none => rw [h] at hb; simp at hb
      | some z =>
        rw [h] at hb
        simp at hb
        omega
theorem keys_tab (n : Int) (f : PF) : ((tab n f).map (·.1)).Nodup := keys_tabN f _
theorem lk_tab {n : Int} {f : PF} (w : WF n f) (x : Int) : lk (tab n f) x = f x := by
  cases h : f x with
  | some y => exact lk_some (keys_tab n f) ((mem_tab w).mpr h)
  | none =>
    cases e : lk (tab n f) x with
    | none => rfl
    | some y =>
      have := (mem_tab w).mp (lk_mem e)
      rw [h] at this; cases this
theorem tab_len (n : Int) (f : PF) : (tab n f).length ≤ n.toNat := by
  unfold tab tabN
  exact Nat.le_trans (List.length_filterMap_le _ _) (by simp)
theorem vals_tab {n : Int} {f : PF} (w : WF n f) : ((tab n f).map (·.2)).Nodup := by
  have k := keys_tab n f
  have key : ∀ l : List (Int × Int), (∀ p ∈ l, f p.1 = some p.2) → (l.map (·.1)).Nodup → (l.map (·.2)).Nodup := by
    intro l
    induction l with
    | nil => intro _ _; exact List.nodup_nil
    | cons p r ih =>
      intro h nd
      rw [List.map_cons, List.nodup_cons] at nd ⊢
      refine ⟨fun hm => ?_, ih (fun q hq => h q (List.mem_cons_of_mem _ hq)) nd.2⟩
      obtain ⟨q, hq, e⟩ := List.mem_map.mp hm
      have h1 := h p List.mem_cons_self
      have h2 := h q (List.mem_cons_of_mem _ hq)
      rw [e] at h2
      have := w.inj _ _ _ h1 h2
      exact nd.1 (by rw [this]; exact List.mem_map.mpr ⟨q, hq, rfl⟩)
  exact key _ (fun p hp => (mem_tab w).mp hp) k
/-! ### the operations -/
def mul (f g : PF) : PF := fun x => (f x).bind g
def idn (n : Int) : PF := fun x => if 0 ≤ x ∧ x < n then some x else none
def inv (n : Int) (f : PF) : PF := fun y => ((tab n f).find? fun p => decide (p.2 = y)).map (·.1)
def le (f g : PF) : Prop := ∀ x y, f x = some y → g x = some y
theorem wf_mul {n : Int} {f g : PF} (wf : WF n f) (wg : WF n g) : WF n (mul f g) := by
  refine ⟨fun x y h => ?_, fun x x' y h h' => ?_⟩
  · unfold mul at h
    cases e : f x with
    | none => rw [e] at h; cases h
    | some z =>
      rw [e] at h
      have h1 := wf.dom x z e
      have h2 := wg.dom z y h
      omega
  · unfold mul at h h'
    cases e : f x with
    | none => rw [e] at h; cases h
    | some z =>
      cases e' : f x' with
      | none => rw [e'] at h'; cases h'
      | some z' =>
        rw [e] at h; rw [e'] at h'
        have := wg.inj z z' y h h'
        subst this
        exact wf.inj _ _ _ e e'
theorem wf_idn (n : Int) : WF n (idn n) := by
  refine ⟨fun x y h => ?_, fun x x' y h h' => ?_⟩
  · unfold idn at h
    split at h
    · cases h; omega
    · cases h
  · unfold idn at h h'
    split at h
    · split at h'
      · cases h; cases h'; rfl
      · cases h'
    · cases h
theorem inv_iff {n : Int} {f : PF} (w : WF n f) {x y : Int} : inv n f y = some x ↔ f x = some y := by
  unfold inv
  constructor
  · intro h
    cases e : (tab n f).find? (fun p => decide (p.2 = y)) with
    | none => rw [e] at h; cases h
    | some p =>
      rw [e] at h
      obtain ⟨a, b⟩ := p
      have h1 := List.find?_some e
      simp only [decide_eq_true_eq] at h1
      have h2 : a = x := Option.some.inj h
      subst h1 h2
      exact (mem_tab w).mp (List.mem_of_find?_eq_some e)
  · intro h
    have hm := (mem_tab w).mpr h
    cases e : (tab n f).find? (fun p => decide (p.2 = y)) with
    | none =>
      have := List.find?_eq_none.mp e _ hm
      simp at this
    | some p =>
      obtain ⟨a, b⟩ := p
      have h1 := List.find?_some e
      simp only [decide_eq_true_eq] at h1
      subst h1
      have h3 := (mem_tab w).mp (List.mem_of_find?_eq_some e)
      show some a = some x
      rw [w.inj _ _ _ h3 h]
theorem wf_inv {n : Int} {f : PF} (w : WF n f) : WF n (inv n f) := by
  refine ⟨fun y x h => ?_, fun y y' x h h' => ?_⟩
  · have := w.dom x y ((inv_iff w).mp h)
    omega
  · have h1 := (inv_iff w).mp h
    have h2 := (inv_iff w).mp h'
    rw [h1] at h2
    exact Option.some.inj h2
/-- a dict of pairs tells f -/
structure DI (l : List (Int × Int)) (f : PF) : Prop where
  nd : (l.map (·.1)).Nodup
  at_ : ∀ x, lk l x = f x
theorem DI.mem {l : List (Int × Int)} {f : PF} (d : DI l f) {x y : Int} : (x, y) ∈ l ↔ f x = some y := by
  rw [← d.at_]
  exact ⟨lk_some d.nd, lk_mem⟩
theorem di_tab {n : Int} {f : PF} (w : WF n f) : DI (tab n f) f := ⟨keys_tab n f, lk_tab w⟩
theorem DI.vals {n : Int} {l : List (Int × Int)} {f : PF} (d : DI l f) (w : WF n f) : (l.map (·.2)).Nodup := by
  obtain ⟨nd, _⟩ := id d
  have key : ∀ r : List (Int × Int), (∀ p ∈ r, f p.1 = some p.2) → (r.map (·.1)).Nodup → (r.map (·.2)).Nodup := by
    intro r
    induction r with
    | nil => intro _ _; exact List.nodup_nil
    | cons p r ih =>
      intro h nd
      rw [List.map_cons, List.nodup_cons] at nd ⊢
      refine ⟨fun hm => ?_, ih (fun q hq => h q (List.mem_cons_of_mem _ hq)) nd.2⟩
      obtain ⟨q, hq, e⟩ := List.mem_map.mp hm
      have h1 := h p List.mem_cons_self
      have h2 := h q (List.mem_cons_of_mem _ hq)
      rw [e] at h2
      have := w.inj _ _ _ h1 h2
      exact nd.1 (by rw [this]; exact List.mem_map.mpr ⟨q, hq, rfl⟩)
  exact key l (fun p hp => d.mem.mp hp) nd
theorem di_of {l : List (Int × Int)} {f : PF} (nd : (l.map (·.1)).Nodup) (h : ∀ x y, (x, y) ∈ l ↔ f x = some y) : DI l f := by
  refine ⟨nd, fun x => ?_⟩
  cases e : f x with
  | some y => exact lk_some nd ((h x y).mpr e)
  | none =>
    cases e2 : lk l x with
    | none => rfl
    | some y =>
      have := (h x y).mp (lk_mem e2)
      rw [e] at this; cases this
end PM
namespace PM
open U
/-! ### powers -/
def iter (f : PF) : Nat → PF
  | 0 => fun x => some x
  | k + 1 => fun x => (iter f k x).bind f
theorem iter_add (f : PF) (a b : Nat) (x : Int) : iter f (a + b) x = (iter f a x).bind (iter f b) := by
  induction b with
  | zero => simp [iter]
  | succ b ih =>
    show (iter f (a + b) x).bind f = _
    rw [ih]
    cases iter f a x <;> rfl
theorem iter_one (f : PF) : iter f 1 = f := rfl
theorem iter_head (f : PF) (k : Nat) (x : Int) : iter f (k + 1) x = (f x).bind (iter f k) := by
  rw [Nat.add_comm, iter_add]; rfl
structure Row (f : PF) (e : Int) (r : List Int) : Prop where
  h0 : r[0]? = some e
  st : ∀ (i : Nat) (a b : Int), r[i]? = some a → r[i + 1]? = some b → f a = some b ∧ b ≠ e
theorem Row.ne {f : PF} {e : Int} {r : List Int} (w : ∀ x x' y, f x = some y → f x' = some y → x = x') (R : Row f e r) : ∀ (i k : Nat) (a : Int), r[i]? = some a → r[i + k + 1]? = some a → False
  | 0, k, a, h1, h2 => by
    rw [R.h0] at h1
    cases h1
    have hk : ∃ b, r[k]? = some b := by
      have : 0 + k + 1 < r.length := (List.getElem?_eq_some_iff.mp h2).1
      exact ⟨_, List.getElem?_eq_getElem (by omega)⟩
    obtain ⟨b, hb⟩ := hk
    have := R.st k b e hb (by rw [Nat.zero_add] at h2; exact h2)
    exact this.2 rfl
  | i + 1, k, a, h1, h2 => by
    have l1 : i + 1 < r.length := (List.getElem?_eq_some_iff.mp h1).1
    have l2 : i + 1 + k + 1 < r.length := (List.getElem?_eq_some_iff.mp h2).1
    obtain ⟨b, hb⟩ : ∃ b, r[i]? = some b := ⟨_, List.getElem?_eq_getElem (by omega)⟩
    obtain ⟨c, hc⟩ : ∃ c, r[i + k + 1]? = some c := ⟨_, List.getElem?_eq_getElem (by omega)⟩
    have e1 := (R.st i b a hb h1).1
    have h2' : r[i + k + 1 + 1]? = some a := by rw [show i + k + 1 + 1 = i + 1 + k + 1 by omega]; exact h2
    have e2 := (R.st (i + k + 1) c a hc h2').1
    have : b = c := w _ _ _ e1 e2
    subst this
    exact Row.ne w R i k b hb hc
theorem nodup_of_get {l : List Int} (h : ∀ (i k : Nat) (a : Int), l[i]? = some a → l[i + k + 1]? = some a → False) : l.Nodup := by
  induction l with
  | nil => exact List.nodup_nil
  | cons x r ih =>
    rw [List.nodup_cons]
    refine ⟨fun hm => ?_, ih fun i k a h1 h2 => ?_⟩
    · obtain ⟨j, hj⟩ := List.mem_iff_getElem?.mp hm
      exact h 0 j x rfl (by rw [Nat.zero_add]; exact hj)
    · refine h (i + 1) k a h1 ?_
      rw [show i + 1 + k + 1 = (i + k + 1) + 1 by omega]
      exact h2
theorem Row.nd {n : Int} {f : PF} {e : Int} {r : List Int} (w : WF n f) (R : Row f e r) : r.Nodup := nodup_of_get (R.ne w.inj)
theorem Row.dom {n : Int} {f : PF} {e : Int} {r : List Int} (w : WF n f) (R : Row f e r) (h1 : 0 ≤ e) (h2 : e < n) : ∀ x ∈ r, 0 ≤ x ∧ x < n := by
  intro x hx
  obtain ⟨i, hi⟩ := List.mem_iff_getElem?.mp hx
  cases i with
  | zero => rw [R.h0] at hi; cases hi; exact ⟨h1, h2⟩
  | succ i =>
    have l1 : i + 1 < r.length := (List.getElem?_eq_some_iff.mp hi).1
    obtain ⟨b, hb⟩ : ∃ b, r[i]? = some b := ⟨_, List.getElem?_eq_getElem (by omega)⟩
    have := w.dom _ _ (R.st i b x hb hi).1
    omega
theorem len_range {l : List Int} {n : Int} (nd : l.Nodup) (h : ∀ x ∈ l, 0 ≤ x ∧ x < n) : l.length ≤ n.toNat := by
  have : l.length ≤ ((List.range n.toNat).map fun (i : Nat) => (i : Int)).length := List.Nodup.length_le_of_subset nd (by
    intro x hx
    have := h x hx
    exact List.mem_map.mpr ⟨x.toNat, List.mem_range.mpr (by omega), Int.toNat_of_nonneg this.1⟩)
  simpa using this
theorem Row.more {f : PF} {e : Int} {pre : List Int} {z y : Int} (R : Row f e (pre ++ [z])) (h : f z = some y) (ne : y ≠ e) : Row f e (pre ++ [z] ++ [y]) := by
  refine ⟨?_, fun i a b h1 h2 => ?_⟩
  · rw [List.getElem?_append_left (by simp)]
    exact R.h0
  · by_cases hi : i + 1 < (pre ++ [z]).length
    · rw [List.getElem?_append_left hi] at h2
      rw [List.getElem?_append_left (by omega)] at h1
      exact R.st i a b h1 h2
    · have l2 : i + 1 < (pre ++ [z] ++ [y]).length := (List.getElem?_eq_some_iff.mp h2).1
      have e1 : i = pre.length := by simp at hi l2; omega
      subst e1
      rw [List.getElem?_append_left (by simp)] at h1
      have z1 : (pre ++ [z])[pre.length]? = some z := by simp
      rw [z1] at h1
      cases h1
      have z2 : (pre ++ [z] ++ [y])[pre.length + 1]? = some y := by simp
      rw [z2] at h2
      cases h2
      exact ⟨h, ne⟩
/-- f along an open row -/
theorem Row.openAt {f : PF} {e : Int} {r : List Int} (R : Row f e r) {z : Int} (hz : r[r.length - 1]? = some z) (hl : 0 < r.length) (ho : f z = none) (i : Nat) (a : Int) (hi : r[i]? = some a) : ∀ j : Nat, iter f j a = r[i + j]?
  | 0 => by rw [Nat.add_zero, hi]; rfl
  | j + 1 => by
    show (iter f j a).bind f = _
    rw [Row.openAt R hz hl ho i a hi j]
    cases e1 : r[i + j]? with
    | none =>
      have h1 := List.getElem?_eq_none_iff.mp e1
      exact (List.getElem?_eq_none_iff.mpr (by omega)).symm
    | some b =>
      show f b = _
      have l1 : i + j < r.length := (List.getElem?_eq_some_iff.mp e1).1
      cases e2 : r[i + (j + 1)]? with
      | some c => exact (R.st (i + j) b c e1 e2).1
      | none =>
        have h2 := List.getElem?_eq_none_iff.mp e2
        have : i + j = r.length - 1 := by omega
        rw [this, hz] at e1
        cases e1
        exact ho
/-- f along a closed row -/
theorem Row.closedAt {f : PF} {e : Int} {r : List Int} (R : Row f e r) {z : Int} (hz : r[r.length - 1]? = some z) (hl : 0 < r.length) (hc : f z = some e) (i : Nat) (a : Int) (hi : r[i]? = some a) : ∀ j : Nat, iter f j a = r[(i + j) % r.length]?
  | 0 => by
    have l1 : i < r.length := (List.getElem?_eq_some_iff.mp hi).1
    rw [Nat.add_zero, Nat.mod_eq_of_lt l1, hi]; rfl
  | j + 1 => by
    show (iter f j a).bind f = _
    rw [Row.closedAt R hz hl hc i a hi j]
    have l1 : (i + j) % r.length < r.length := Nat.mod_lt _ hl
    obtain ⟨b, e1⟩ : ∃ b, r[(i + j) % r.length]? = some b := ⟨_, List.getElem?_eq_getElem l1⟩
    rw [e1]
    show f b = _
    by_cases h : (i + j) % r.length = r.length - 1
    · rw [h, hz] at e1
      cases e1
      rw [hc]
      have : (i + (j + 1)) % r.length = 0 := by
        rw [show i + (j + 1) = (i + j) + 1 by omega, Nat.add_mod, h]
        by_cases h1 : r.length = 1
        · rw [h1]
        · rw [Nat.mod_eq_of_lt (show 1 < r.length by omega), show r.length - 1 + 1 = r.length by omega, Nat.mod_self]
      rw [this, R.h0]
    · have : (i + (j + 1)) % r.length = (i + j) % r.length + 1 := by
        rw [show i + (j + 1) = (i + j) + 1 by omega, Nat.add_mod]
        rw [Nat.mod_eq_of_lt (show 1 < r.length by omega), Nat.mod_eq_of_lt (by omega)]
      rw [this]
      obtain ⟨c, e2⟩ : ∃ c, r[(i + j) % r.length + 1]? = some c := ⟨_, List.getElem?_eq_getElem (by omega)⟩
      rw [e2]
      exact (R.st _ b c e1 e2).1
theorem wf_iter {n : Int} {f : PF} (w : WF n f) : ∀ k : Nat, WF n (iter f (k + 1))
  | 0 => w
  | k + 1 => wf_mul (wf_iter w k) w
end PM
namespace PM
open U
/-! ### the rules of the operators -/
theorem pf_ext {f g : PF} (h : ∀ x y, f x = some y ↔ g x = some y) : f = g := by
  funext x
  cases e : f x with
  | some y => exact ((h x y).mp e).symm
  | none =>
    cases e2 : g x with
    | none => rfl
    | some y => rw [(h x y).mpr e2] at e; cases e
theorem mul_iff {f g : PF} {x z : Int} : mul f g x = some z ↔ ∃ y, f x = some y ∧ g y = some z := by
  unfold mul
  cases e : f x with
  | none => simp
  | some y => simp
theorem mul_assoc (f g h : PF) : mul (mul f g) h = mul f (mul g h) := by
  refine pf_ext fun x z => ?_
  rw [mul_iff, mul_iff]
  constructor
  · rintro ⟨y, h1, h2⟩
    obtain ⟨u, h3, h4⟩ := mul_iff.mp h1
    exact ⟨u, h3, mul_iff.mpr ⟨y, h4, h2⟩⟩
  · rintro ⟨y, h1, h2⟩
    obtain ⟨u, h3, h4⟩ := mul_iff.mp h2
    exact ⟨u, mul_iff.mpr ⟨y, h1, h3⟩, h4⟩
/-! ### parts -/
/-! ### powers -/
end PM
namespace PM
open U
/-! ### rows told by their first element -/
def IsRow (f : PF) (e : Int) (r : List Int) : Prop := ∃ pre z, r = pre ++ [z] ∧ Row f e r ∧ (f z = none ∨ f z = some e)
theorem IsRow.get {f : PF} {e : Int} {r r' : List Int} (h : IsRow f e r) (h' : IsRow f e r') : ∀ (i : Nat) (a : Int), r[i]? = some a → r'[i]? = some a
  | 0, a, e1 => by
    obtain ⟨_, _, _, R, _⟩ := h
    obtain ⟨_, _, _, R', _⟩ := h'
    rw [R.h0] at e1
    rw [R'.h0]
    exact e1
  | i + 1, a, e1 => by
    have ih := IsRow.get h h' i
    obtain ⟨_, _, _, R, _⟩ := h
    obtain ⟨pre', z', q', R', st'⟩ := h'
    have l1 : i + 1 < r.length := (List.getElem?_eq_some_iff.mp e1).1
    obtain ⟨b, hb⟩ : ∃ b, r[i]? = some b := ⟨_, List.getElem?_eq_getElem (by omega)⟩
    obtain ⟨f1, ne⟩ := R.st i b a hb e1
    have hb' := ih b hb
    cases e2 : r'[i + 1]? with
    | some c =>
      have := (R'.st i b c hb' e2).1
      rw [f1] at this
      exact this.symm
    | none =>
      exfalso
      have l2 : i < r'.length := (List.getElem?_eq_some_iff.mp hb').1
      have l3 := List.getElem?_eq_none_iff.mp e2
      subst q'
      rw [List.length_append, List.length_singleton] at l2 l3
      have ei : i = pre'.length := by omega
      subst ei
      have : (pre' ++ [z'])[pre'.length]? = some z' := by simp
      rw [this] at hb'
      cases hb'
      rcases st' with q | q
      · rw [f1] at q; cases q
      · rw [f1] at q; exact ne (Option.some.inj q)
theorem IsRow.uniq {f : PF} {e : Int} {r r' : List Int} (h : IsRow f e r) (h' : IsRow f e r') : r = r' := by
  apply List.ext_getElem?
  intro i
  cases e1 : r[i]? with
  | some a => exact (h.get h' i a e1).symm
  | none =>
    cases e2 : r'[i]? with
    | none => rfl
    | some a => rw [h'.get h i a e2] at e1; cases e1
theorem ex_row {n : Int} {f : PF} {e : Int} (w : WF n f) (h1 : 0 ≤ e) (h2 : e < n) : ∃ r, IsRow f e r := by
  refine Classical.byContradiction fun no => ?_
  have key : ∀ k : Nat, ∃ pre z, pre.length = k ∧ Row f e (pre ++ [z]) := by
    intro k
    induction k with
    | zero => exact ⟨[], e, rfl, rfl, fun i a b h1 h2 => by simp at h2⟩
    | succ k ih =>
      obtain ⟨pre, z, hl, R⟩ := ih
      cases hz : f z with
      | none => exact absurd ⟨_, pre, z, rfl, R, .inl hz⟩ no
      | some y =>
        by_cases hy : y = e
        · subst hy; exact absurd ⟨_, pre, z, rfl, R, .inr hz⟩ no
        · exact ⟨pre ++ [z], y, by simp [hl], R.more hz hy⟩
  obtain ⟨pre, z, hl, R⟩ := key n.toNat
  have := len_range (R.nd w) (R.dom w h1 h2)
  rw [List.length_append, List.length_singleton] at this
  omega
open Classical in
noncomputable def rowN (f : PF) (e : Int) : List Int := if h : ∃ r, IsRow f e r then h.choose else []
theorem rowN_eq {f : PF} {e : Int} {r : List Int} (h : IsRow f e r) : rowN f e = r := by
  have hx : ∃ r, IsRow f e r := ⟨r, h⟩
  unfold rowN
  rw [dif_pos hx]
  exact hx.choose_spec.uniq h
theorem rowN_is {n : Int} {f : PF} {e : Int} (w : WF n f) (h1 : 0 ≤ e) (h2 : e < n) : IsRow f e (rowN f e) := by
  obtain ⟨r, h⟩ := ex_row w h1 h2
  rw [rowN_eq h]
  exact h
theorem IsRow.head {f : PF} {e : Int} {r : List Int} (h : IsRow f e r) : r[0]? = some e := by
  obtain ⟨_, _, _, R, _⟩ := h
  exact R.h0
theorem IsRow.mem {f : PF} {e : Int} {r : List Int} (h : IsRow f e r) : e ∈ r := List.mem_of_getElem? h.head
theorem IsRow.dom {n : Int} {f : PF} {e : Int} {r : List Int} (w : WF n f) (h : IsRow f e r) (h1 : 0 ≤ e) (h2 : e < n) : ∀ x ∈ r, 0 ≤ x ∧ x < n := by
  obtain ⟨_, _, _, R, _⟩ := h
  exact R.dom w h1 h2
theorem IsRow.nd {n : Int} {f : PF} {e : Int} {r : List Int} (w : WF n f) (h : IsRow f e r) : r.Nodup := by
  obtain ⟨_, _, _, R, _⟩ := h
  exact R.nd w
/-- what is no target -/
def nonT (n : Int) (f : PF) (e : Int) : Bool := (inv n f e).isNone
theorem nonT_iff {n : Int} {f : PF} (w : WF n f) {e : Int} : nonT n f e = true ↔ ∀ x, f x ≠ some e := by
  unfold nonT
  rw [Option.isNone_iff_eq_none]
  constructor
  · intro h x hx
    rw [(inv_iff w).mpr hx] at h
    cases h
  · intro h
    cases q : inv n f e with
    | none => rfl
    | some x => exact absurd ((inv_iff w).mp q) (h x)
/-! ### which rows are begun -/
noncomputable def seenL (f : PF) (s : List Int) : List Int := (s.map (rowN f)).flatten
theorem mem_seenL {f : PF} {s : List Int} {x : Int} : x ∈ seenL f s ↔ ∃ e ∈ s, x ∈ rowN f e := by
  unfold seenL
  rw [List.mem_flatten]
  constructor
  · rintro ⟨r, hr, hx⟩
    obtain ⟨e, he, rfl⟩ := List.mem_map.mp hr
    exact ⟨e, he, hx⟩
  · rintro ⟨e, he, hx⟩
    exact ⟨_, List.mem_map.mpr ⟨e, he, rfl⟩, hx⟩
noncomputable def stp (f : PF) (s : List Int) (x : Int) : List Int := if x ∈ seenL f s then s else s ++ [x]
noncomputable def selL (f : PF) (b l : List Int) : List Int := l.foldl (stp f) b
theorem selL_append (f : PF) (b l m : List Int) : selL f b (l ++ m) = selL f (selL f b l) m := by
  unfold selL
  rw [List.foldl_append]
theorem selL_one (f : PF) (b l : List Int) (x : Int) : selL f b (l ++ [x]) = stp f (selL f b l) x := by
  rw [selL_append]
  rfl
theorem selL_sub (f : PF) : ∀ (l b : List Int), ∃ c, selL f b l = b ++ c ∧ c.Sublist l ∧ ∀ x ∈ c, x ∉ seenL f b
  | [], b => ⟨[], by simp [selL], List.Sublist.slnil, fun x h => (nomatch h)⟩
  | x :: l, b => by
    by_cases h : x ∈ seenL f b
    · obtain ⟨c, h1, h2, h3⟩ := selL_sub f l b
      refine ⟨c, ?_, h2.cons x, h3⟩
      rw [← h1]
      show selL f (stp f b x) l = _
      unfold stp
      rw [if_pos h]
    · obtain ⟨c, h1, h2, h3⟩ := selL_sub f l (b ++ [x])
      refine ⟨x :: c, ?_, h2.cons_cons x, fun y hy => ?_⟩
      · rw [show b ++ x :: c = b ++ [x] ++ c by simp, ← h1]
        show selL f (stp f b x) l = _
        unfold stp
        rw [if_neg h]
      · rcases List.mem_cons.mp hy with rfl | hy
        · exact h
        · intro hs
          obtain ⟨e, he, hx⟩ := mem_seenL.mp hs
          exact h3 y hy (mem_seenL.mpr ⟨e, List.mem_append_left _ he, hx⟩)
def rgI (n : Nat) : List Int := (List.range n).map fun (i : Nat) => (i : Int)
theorem mem_rgI {n : Nat} {x : Int} : x ∈ rgI n ↔ 0 ≤ x ∧ x < (n : Int) := by
  unfold rgI
  rw [List.mem_map]
  constructor
  · rintro ⟨i, hi, rfl⟩
    rw [List.mem_range] at hi
    omega
  · rintro ⟨h1, h2⟩
    exact ⟨x.toNat, List.mem_range.mpr (by omega), by omega⟩
theorem rgI_succ (n : Nat) : rgI (n + 1) = rgI n ++ [(n : Int)] := by
  unfold rgI
  rw [List.range_succ, List.map_append]
  rfl
theorem rgI_lt (n : Nat) : (rgI n).Pairwise (· < ·) := by
  induction n with
  | zero => exact List.Pairwise.nil
  | succ n ih =>
    rw [rgI_succ, List.pairwise_append]
    refine ⟨ih, List.pairwise_singleton _ _, fun a ha b hb => ?_⟩
    have := mem_rgI.mp ha
    rw [List.mem_singleton] at hb
    omega
theorem nodup_of_lt {l : List Int} (h : l.Pairwise (· < ·)) : l.Nodup := List.Pairwise.imp (fun {a b} h => by omega) h
def nons (n : Int) (f : PF) : List Int := (rgI n.toNat).filter (nonT n f)
theorem nons_dom {n : Int} {f : PF} {e : Int} (h : e ∈ nons n f) : 0 ≤ e ∧ e < n ∧ nonT n f e = true := by
  obtain ⟨h1, h2⟩ := List.mem_filter.mp h
  have := mem_rgI.mp h1
  exact ⟨this.1, by omega, h2⟩
/-! ### closed rows -/
noncomputable def clo (f : PF) (e : Int) : Bool := match (rowN f e).getLast? with
  | some z => (f z).isSome
  | none => false
theorem clo_eq {f : PF} {e z : Int} {pre : List Int} (h : IsRow f e (pre ++ [z])) : clo f e = (f z).isSome := by
  unfold clo
  rw [rowN_eq h, List.getLast?_append]
  rfl
theorem clo_non {n : Int} {f : PF} {e : Int} (w : WF n f) (h1 : 0 ≤ e) (h2 : e < n) (h : nonT n f e = true) : clo f e = false := by
  obtain ⟨r, hr⟩ := ex_row w h1 h2
  obtain ⟨pre, z, q, R, st⟩ := id hr
  subst q
  rw [clo_eq hr]
  rcases st with st | st
  · rw [st]; rfl
  · exact absurd st ((nonT_iff w).mp h z)
theorem iter_inv {n : Int} {f : PF} (w : WF n f) : ∀ (k : Nat) (x y : Int), iter (inv n f) k x = some y → iter f k y = some x
  | 0, x, y, h => by
    have : x = y := Option.some.inj h
    subst this
    rfl
  | k + 1, x, y, h => by
    have h : (iter (inv n f) k x).bind (inv n f) = some y := h
    cases e : iter (inv n f) k x with
    | none => rw [e] at h; cases h
    | some z =>
      rw [e] at h
      have h1 := (inv_iff w).mp h
      rw [iter_head, h1]
      exact iter_inv w k x z e
theorem clo_of {n : Int} {f : PF} {e : Int} (w : WF n f) (h1 : 0 ≤ e) (h2 : e < n) (h : ∀ e', 0 ≤ e' → e' < n → nonT n f e' = true → e ∉ rowN f e') : clo f e = true := by
  obtain ⟨r, hr⟩ := ex_row w h1 h2
  obtain ⟨pre, z, q, R, st⟩ := id hr
  subst q
  rw [clo_eq hr]
  rcases st with st | st
  · exfalso
    have lz : (pre ++ [z])[(pre ++ [z]).length - 1]? = some z := by simp
    have op := R.openAt lz (by simp) st 0 e R.h0
    obtain ⟨r', hr'⟩ := ex_row (wf_inv w) h1 h2
    obtain ⟨pre', z', q', R', st'⟩ := id hr'
    subst q'
    have lz' : (pre' ++ [z'])[(pre' ++ [z']).length - 1]? = some z' := by simp
    rcases st' with st' | st'
    · have hz' : nonT n f z' = true := by unfold nonT; rw [st']; rfl
      have dz := hr'.dom (wf_inv w) h1 h2 z' (by simp)
      have op' := R'.openAt lz' (by simp) st' 0 e R'.h0 pre'.length
      have e1 : (pre' ++ [z'])[0 + pre'.length]? = some z' := by simp
      rw [e1] at op'
      have it := iter_inv w _ _ _ op'
      refine h z' dz.1 dz.2 hz' ?_
      obtain ⟨r0, hr0⟩ := ex_row w dz.1 dz.2
      rw [rowN_eq hr0]
      obtain ⟨p0, z0, q0, R0, st0⟩ := id hr0
      subst q0
      have l0 : (p0 ++ [z0])[(p0 ++ [z0]).length - 1]? = some z0 := by simp
      have o0 : f z0 = none := by
        rcases st0 with q | q
        · exact q
        · exact absurd q ((nonT_iff w).mp hz' z0)
      have := R0.openAt l0 (by simp) o0 0 z' R0.h0 pre'.length
      rw [it] at this
      exact List.mem_of_getElem? this.symm
    · have cl := R'.closedAt lz' (by simp) st' 0 e R'.h0 (pre' ++ [z']).length
      rw [Nat.zero_add, Nat.mod_self, R'.h0] at cl
      have it := iter_inv w _ _ _ cl
      rw [op (pre' ++ [z']).length] at it
      have l1 : (pre' ++ [z']).length = pre'.length + 1 := by simp
      rw [l1] at it
      exact R.ne w.inj 0 pre'.length e R.h0 (by rw [show 0 + pre'.length + 1 = 0 + (pre'.length + 1) by omega]; exact it)
  · rw [st]; rfl
/-! ### all parts -/
noncomputable def cycS (n : Int) (f : PF) : List Int := (selL f (nons n f) (rgI n.toNat)).drop (nons n f).length
theorem cycS_eq (n : Int) (f : PF) : selL f (nons n f) (rgI n.toNat) = nons n f ++ cycS n f := by
  obtain ⟨c, h, _, _⟩ := selL_sub f (rgI n.toNat) (nons n f)
  unfold cycS
  rw [h, List.drop_left]
theorem cycS_sub (n : Int) (f : PF) : (cycS n f).Sublist (rgI n.toNat) ∧ ∀ x ∈ cycS n f, x ∉ seenL f (nons n f) := by
  obtain ⟨c, h, h1, h2⟩ := selL_sub f (rgI n.toNat) (nons n f)
  rw [cycS_eq] at h
  have := List.append_cancel_left h
  rw [this]
  exact ⟨h1, h2⟩
theorem cycS_dom {n : Int} {f : PF} {e : Int} (h : e ∈ cycS n f) : 0 ≤ e ∧ e < n := by
  have := mem_rgI.mp ((cycS_sub n f).1.subset h)
  exact ⟨this.1, by omega⟩
theorem cycS_clo {n : Int} {f : PF} (w : WF n f) {e : Int} (h : e ∈ cycS n f) : clo f e = true := by
  have d := cycS_dom h
  refine clo_of w d.1 d.2 fun e' h1 h2 h3 hm => ?_
  refine (cycS_sub n f).2 e h (mem_seenL.mpr ⟨e', ?_, hm⟩)
  exact List.mem_filter.mpr ⟨mem_rgI.mpr ⟨h1, by omega⟩, h3⟩
theorem nons_lt (n : Int) (f : PF) : (nons n f).Pairwise (· < ·) := (rgI_lt _).sublist List.filter_sublist
theorem cycS_lt (n : Int) (f : PF) : (cycS n f).Pairwise (· < ·) := (rgI_lt _).sublist (cycS_sub n f).1
/-! ### ordered by the first elements -/
end PM
namespace PM
open U
/-! ### powers by the law's own way; great exponents -/
def pk (n : Int) (f : PF) : Nat → PF
  | 0 => idn n
  | k + 1 => iter f (k + 1)
end PM
namespace PM
open U
/-! ### where powers repeat -/
noncomputable def lens (f : PF) (s : List Int) : List Nat := s.map fun e => (rowN f e).length
theorem sel_cov {n : Int} {f : PF} (w : WF n f) : ∀ (l b : List Int) (x : Int), x ∈ l → 0 ≤ x → x < n → x ∈ seenL f (selL f b l)
  | [], b, x, h, _, _ => nomatch h
  | y :: l, b, x, h, h1, h2 => by
    show x ∈ seenL f (selL f (stp f b y) l)
    rcases List.mem_cons.mp h with rfl | h
    · have hx : x ∈ seenL f (stp f b x) := by
        unfold stp
        by_cases hs : x ∈ seenL f b
        · rw [if_pos hs]; exact hs
        · rw [if_neg hs]
          exact mem_seenL.mpr ⟨x, by simp, (rowN_is w h1 h2).mem⟩
      obtain ⟨c, hc, _, _⟩ := selL_sub f l (stp f b x)
      obtain ⟨e, he, hm⟩ := mem_seenL.mp hx
      rw [hc]
      exact mem_seenL.mpr ⟨e, List.mem_append_left _ he, hm⟩
    · exact sel_cov w l _ x h h1 h2
theorem cover {n : Int} {f : PF} (w : WF n f) {x : Int} (h1 : 0 ≤ x) (h2 : x < n) : ∃ e ∈ nons n f ++ cycS n f, x ∈ rowN f e := by
  have := sel_cov w (rgI n.toNat) (nons n f) x (mem_rgI.mpr ⟨h1, by omega⟩) h1 h2
  rw [cycS_eq] at this
  exact mem_seenL.mp this
theorem iter_out {n : Int} {f : PF} (w : WF n f) {x : Int} (hx : ¬ (0 ≤ x ∧ x < n)) {k : Nat} (hk : 1 ≤ k) : iter f k x = none := by
  rw [show k = k - 1 + 1 by omega, iter_head]
  cases e : f x with
  | none => rfl
  | some y => exact absurd ⟨(w.dom x y e).1, (w.dom x y e).2.1⟩ hx
/-- f along a chain -/
theorem chain_at {n : Int} {f : PF} (w : WF n f) {e : Int} (he : e ∈ nons n f) {i : Nat} {a : Int} (hi : (rowN f e)[i]? = some a) (j : Nat) : iter f j a = (rowN f e)[i + j]? := by
  obtain ⟨h1, h2, h3⟩ := nons_dom he
  obtain ⟨pre, z, q, R, st⟩ := rowN_is w h1 h2
  have hr := rowN_is w h1 h2
  have hc := clo_non w h1 h2 h3
  rw [q] at hr
  rw [clo_eq hr] at hc
  rw [q] at R hi ⊢
  refine R.openAt (z := z) (by simp) (by simp) ?_ i a hi j
  cases e : f z with
  | none => rfl
  | some y => rw [e] at hc; cases hc
/-- f along a cycle -/
theorem cycle_at {n : Int} {f : PF} (w : WF n f) {e : Int} (he : e ∈ cycS n f) {i : Nat} {a : Int} (hi : (rowN f e)[i]? = some a) (j : Nat) : iter f j a = (rowN f e)[(i + j) % (rowN f e).length]? := by
  obtain ⟨h1, h2⟩ := cycS_dom he
  obtain ⟨pre, z, q, R, st⟩ := rowN_is w h1 h2
  have hr := rowN_is w h1 h2
  have hc := cycS_clo w he
  rw [q] at hr
  rw [clo_eq hr] at hc
  rw [q] at R hi ⊢
  refine R.closedAt (z := z) (by simp) (by simp) ?_ i a hi j
  rcases st with st | st
  · rw [st] at hc; cases hc
  · exact st
theorem row_pos {n : Int} {f : PF} (w : WF n f) {e : Int} (h1 : 0 ≤ e) (h2 : e < n) : 0 < (rowN f e).length := by
  obtain ⟨pre, z, q, _, _⟩ := rowN_is w h1 h2
  rw [q]
  simp
theorem row_head {n : Int} {f : PF} (w : WF n f) {e : Int} (h1 : 0 ≤ e) (h2 : e < n) : (rowN f e)[0]? = some e := (rowN_is w h1 h2).head
theorem row_inj {n : Int} {f : PF} (w : WF n f) {e : Int} (h1 : 0 ≤ e) (h2 : e < n) {i j : Nat} (hi : i < (rowN f e).length) (h : (rowN f e)[i]? = (rowN f e)[j]?) : i = j := by
  have nd := (rowN_is w h1 h2).nd w
  rw [List.getElem?_eq_getElem hi] at h
  have hj := (List.getElem?_eq_some_iff.mp h.symm).1
  rw [List.getElem?_eq_getElem hj] at h
  have h := Option.some.inj h
  have pw := List.pairwise_iff_getElem.mp nd
  rcases Nat.lt_trichotomy i j with hl | hl | hl
  · exact absurd h (pw i j hi hj hl)
  · exact hl
  · exact absurd h.symm (pw j i hj hi hl)
theorem row_le {n : Int} {f : PF} (w : WF n f) {e : Int} (h1 : 0 ≤ e) (h2 : e < n) : (rowN f e).length ≤ n.toNat := len_range ((rowN_is w h1 h2).nd w) ((rowN_is w h1 h2).dom w h1 h2)
end PM
set_option maxHeartbeats 600000
namespace U
open PySem PySem.Spec PyProof.Rows L2
/-! ### dicts whose keys are None and truth values -/
def oVal : Option Bool → Value
  | none => .none
  | some b => .bool b
def isO : Option Bool → Value → Bool
  | none, .none => true
  | some k, .bool b => b == k
  | _, _ => false
theorem isO_shape {k : Option Bool} {v : Value} (h : isO k v = true) : v = oVal k := by
  cases k <;> cases v <;> first
    | rfl
    | exact congrArg Value.bool (eq_of_beq h)
    | exact absurd h Bool.false_ne_true
def hO : Option Bool → Int
  | none => reduceHash 0xFCA86420
  | some b => PpSet.hB b
theorem pyHash_non {prog : Program} {w : World} {A : Around} {E : Value → Shared → Prop} {s : Shared} {Q : Int → Shared → Prop} (h : Q (hO none) { s with toks := s.toks + 1 }) :
    wpAny (model prog w) A (pyHash .none) Q E s :=
  W.pyHash_slot (T := "NoneType") rfl F.slot_NoneType_hash F.entry_NoneType_hash (F.args_NoneType_hash_1 _) (beq_builtin_none _) (.inl rfl) (wpAny_bind (wpAny_pure (wpAny_bind (wpAny_mkInt (wpAny_pure ⟨_, _, rfl, h⟩)))))
theorem oeq (a b : Option Bool) {A : Around} {s : Shared} : SeqAt.EqAt A s (oVal a) (oVal b) (decide (a = b)) := by
  cases a with
  | none =>
    cases b with
    | none => exact SeqAt.EqAt.same _
    | some b => exact SeqAt.EqAt.none_bool b
  | some a =>
    cases b with
    | none => exact SeqAt.EqAt.bool_none a
    | some b =>
      have := SeqAt.EqAt.bool_bool (A := A) (s := s) a b
      rw [show decide (some a = some b) = (a == b) by cases a <;> cases b <;> rfl]
      exact this
def oddK (prog : Program) (w : World) : PySem.KeyKind prog w (Option Bool) where
  is := isO
  hash := hO
  inj := fun v a b ha hb => by
    have e1 := isO_shape ha
    have e2 := isO_shape hb
    rw [e1] at e2
    cases a with
    | none =>
      cases b with
      | none => rfl
      | some b => exact nomatch e2
    | some a =>
      cases b with
      | none => exact nomatch e2
      | some b => rw [Value.bool.inj e2]
  byValue := fun k v h => by rw [isO_shape h]; cases k <;> rfl
  pyHash := fun {A E s k v Q} hv h => by
    rw [isO_shape hv]
    cases k with
    | none => exact pyHash_non h
    | some b => exact PpSet.pyHash_bool h
  eqBool := fun {A E s a b u v Q} hu hv h => by
    rw [isO_shape hu, isO_shape hv]
    exact oeq a b _ _ _ _ h
  «strs» := fun k x t v h => by cases k <;> exact absurd h Bool.false_ne_true
def OddO (P : Program) (w : World) (a : Addr) (ep : Nat) (kvs : List (Option Bool × V)) : HO := .ext fun h => (a == sysModules) = false ∧ ∃ vs, KV kvs vs ∧ h.DictAt (oddK P w) a vs ep
def OddD (P : Program) (w : World) (H : Hp) (a : Addr) (kvs : List (Option Bool × V)) : Prop := ∃ ep, H a = some (OddO P w a ep kvs)
section
variable {P : Program} {w : World} {H H' : Hp} {h : Heap} {a : Addr} {ep : Nat} {kvs : List (Option Bool × V)}
theorem OddD.same (x : OddD P w H a kvs) (s : Same H H') : OddD P w H' a kvs := by
  obtain ⟨ep, e⟩ := x
  exact ⟨ep, s _ _ e⟩
end
/-! ### for k, v in d.items() -/
end U
set_option maxHeartbeats 1000000
namespace U
open PySem PySem.Spec PyProof.Rows L2
/-! ### dicts whose keys may be anything: None, truth values, tuples; built once, then read -/
def EnR (kv : V × V) (e : DictEntry) : Prop := RelV kv.1 e.key ∧ RelV kv.2 e.val
def RwO (a : Addr) (ep : Nat) (kvs : List (V × V)) : HO := .ext fun h => (a == sysModules) = false ∧ kvs.length ≤ sizeLine ∧ ∃ es, h.DictRaw a es ep ∧ Paired EnR kvs es.toList
def RwD (H : Hp) (a : Addr) (kvs : List (V × V)) : Prop := ∃ ep, H a = some (RwO a ep kvs)
section
variable {P : Program} {w : World} {H H' : Hp} {h : Heap} {a : Addr} {ep : Nat} {kvs : List (V × V)} {es : Array DictEntry}
theorem RwD.same (x : RwD H a kvs) (s : Same H H') : RwD H' a kvs := by
  obtain ⟨ep, e⟩ := x
  exact ⟨ep, s _ _ e⟩
end
/-! ### for v in d.values() -/
/-! ### for k, v in d.items() -/
end U
set_option maxHeartbeats 1000000
namespace U
open PySem PySem.Spec PyProof.Rows L2
/-! ### dict([(k, v)]), k None, a truth value, or a tuple of one int -/
/-! ### bool(o) by the own __bool__ -/
/-! ### len(set(xs)), a list of ints -/
end U
set_option maxHeartbeats 1000000
/-! x in d.values(); classes made with keyword-only parameters -/
namespace PySem
end PySem
namespace U
open PySem PySem.Spec PyProof.Rows L2
end U
namespace U
open PySem PySem.Spec PyProof.Rows L2
/-! ### d.update(e), two dicts -/
def rDUpd : V → List V → Hp → VK → Prop := fun x vs H Q => ∃ (a b : Addr) (ks ls : List (Key × V)), x = .ref a ∧ vs = [.ref b] ∧ a ≠ b ∧ H a = some (.dK ks) ∧ H b = some (.dK ls) ∧ ks.length + ls.length ≤ sizeLine ∧ Q .non (upd H a (.dK (mergeK ks ls)))
theorem mtd_update {X : Cx} : MtR X "dict.update" rDUpd := by
  intro pins s σ H x vs v us Q I rx rv h
  obtain ⟨a, b, ks, ls, rfl, rfl, hne, ea, eb, hz, q⟩ := h
  cases rx
  obtain ⟨u, rfl, ru⟩ := rv.one
  cases ru
  obtain ⟨z1, ya, va, ra, da⟩ := dk_of I.hok ea
  obtain ⟨z2, yb, vb, rb, db⟩ := dk_of I.hok eb
  refine call_meetsIn PySem.F.slot_dict_update da.typeIs PySem.F.entry_dict_update (PySem.F.args_dict_update_2 _ _) (meets_dict_update (mixKind X.prog X.w) a b hne yb) ⟨va, vb, da, db, by rw [← ra.length, ← rb.length]; exact hz, fun h' d1 d2 hs => ?_⟩
  have he : ∃ q, h'.get? a = some q := let ⟨q, _, _, hq, _⟩ := d1; ⟨q, hq⟩
  exact ⟨.non, _, d_write (t' := s.toks) I (by rw [ea]; exact True.intro) hs he (dk_new (Nat.le_trans (length_mergeK ls ks) hz) ya (rb.merge ra) d1), rfl, q⟩
theorem pe_dupdate {X : Cx} {o e : Expr} {es : List Expr} {to : TE} {t : TA} {apos cpos : Pos} (ho : PE X o to) (ha : PA X (e :: es) t) (hbase : attributeBase o "update" X.env (eval o X.env) = eval o X.env := by rfl)
    (hfew : ((backTo cpos (starEach (e :: es) X.env)).all (fun x => !x.1) && (backToKw cpos (keywordEach [] X.env)).all (fun x => x.1.isSome)
      && decide ((e :: es).length + ([] : List Keyword).length + (if ([] : List Keyword).isEmpty then 0 else 1) < 30)) = true := by rfl)
    (hline : (apos.endLine == cpos.line) = true := by rfl) (hs : starEach (e :: es) X.env = (false, eval e X.env) :: starEach es X.env := by rfl) (hplain : (backTo cpos (starEach es X.env)).any (·.1) = false := by rfl) :
    PE X (.Call (.Attribute o "update" apos) (e :: es) [] cpos) (tBM X.K "dict" rDUpd to t) :=
  pe_bm PySem.F.plainAttrs_dict PySem.F.slot_dict_update PySem.F.type_dict_update mtd_update ho ha hbase hfew hline hs hplain
/-! ### sorted(xs, key=len), xs a list of lists -/
def byLen (zs : List (Addr × Nat)) : List (Addr × Nat) := zs.mergeSort fun a b => decide ((a.2 : Int) ≤ (b.2 : Int))
def tSortLen (K : PySem.W.Frag) (te : TE) : TE := fun σ H Q => te σ H fun x H1 => ∃ (a : Addr) (zs : List (Addr × Nat)), x = .ref a ∧ SqL K H1 a (zs.map fun z => V.ref z.1) ∧ (∀ z ∈ zs, ∃ xs, SqL K H1 z.1 xs ∧ xs.length = z.2) ∧ zs.length ≤ sizeLine ∧
  ∀ p, H1 p = none → Q (.ref p) (upd H1 p (.lst ((byLen zs).map fun z => V.ref z.1)))
theorem each_refs : ∀ {zs : List (Addr × Nat)} {vs : List Value}, Vals (zs.map fun z => V.ref z.1) vs → PySem.W.EachIs (fun v (z : Addr × Nat) => v = Value.ref z.1) vs zs
  | [], _, .nil => .nil
  | z :: zs, _, .cons r rr => .cons r (each_refs rr)
theorem refs_each : ∀ {vs : List Value} {zs : List (Addr × Nat)}, PySem.W.EachIs (fun v (z : Addr × Nat) => v = Value.ref z.1) vs zs → Vals (zs.map fun z => V.ref z.1) vs
  | _, [], .nil => .nil
  | _, z :: zs, .cons r rr => .cons r (refs_each rr)
theorem pe_sortLen {X : Cx} {K : PySem.W.Frag} {e : Expr} {te : TE} {p p2 kp pos : Pos} (hK : X.K = K) (hu : X.A.units + 64 < cLine) (he : PE X e te) (hg : Gl X "sorted") (hm : X.mg "sorted" = none) (hgl : Gl X "len") (hml : X.mg "len" = none)
    (h1 : backTo pos (starEach [e] X.env) = (false, eval e X.env) :: backTo pos (starEach [] X.env) := by rfl)
    (hplain : (backTo pos (starEach [e] X.env)).any (·.1) = false := by rfl) : PE X (.Call (.Name "sorted" p) [e] [⟨some "key", .Name "len" p2, kp⟩] pos) (tSortLen K te) := by
  subst hK
  refine ⟨fun pins s σ H Q I hq => wpAny_Call_Name_kw (ld_blt I hg hm PyProof.Rows.boot_sorted ?_)⟩
  refine PyProof.Rows.callWith_kw ?_ h1 hplain
  rw [h1]
  refine Calls.spliced_cons (thn (he.run pins s σ H _ I hq) fun v s1 ⟨x, H1, I1, r, a, zs, ex, hl, hz, hn, q⟩ => ?_)
  subst ex
  cases r
  refine Calls.spliced_nil ?_
  refine PyProof.Rows.kws_cons (ld_blt I1 hgl hml PySem.boot_len (PyProof.Rows.kws_nil ?_))
  obtain ⟨its, rv, pl, hzl⟩ := I1.list hl
  show wpAny _ _ (call (.builtin "sorted") [.ref a] [(Str.ofString "key", .builtin "len")]) _ _ s1
  refine PySem.W.sorted_key_data (β := Addr × Nat) (R := fun v z => v = Value.ref z.1) (b := false) (vs := its) (fun z => .int (z.2 : Int)) pl.isList (each_refs rv) ?_ ?_ hn (fun z hz => ?_) (ksk_s1 _ _) (fun x => ksk_l1 _ _) (fun x => ksk_t4 _ _) ?_ ?_
  · exact PySem.W.AllAlike.of fun b b' => rfl
  · exact PySem.W.Sortable.others fun b => ⟨fun z => (by cases z), fun xs z => (by cases z)⟩
  · show X.A.units + 2 + 0 < cLine
    omega
  · intro v x hR hx h tk kp
    subst hR
    obtain ⟨xs, hq, hlen⟩ := hz x hx
    obtain ⟨its', rv', pl', hz'⟩ := I1.list hq
    obtain ⟨o, ho, hc, n, hd⟩ := pl'.isList
    have hs : its'.toArray.size = x.2 := by rw [List.size_toArray, ← rv'.length, hlen]
    refine PySem.Calls.call_len_list (s := { s1 with heap := h, toks := tk }) ⟨o, kp _ _ ho, hc, n, hd⟩ ?_ ?_
    · have e1 := sizeLine_eq
      have e2 : its'.length ≤ sizeLine := by rw [← rv'.length]; exact hz'
      rw [List.size_toArray]
      omega
    · rw [hs]
      exact ⟨h, _, rfl, fun _ _ e => e, .int _ _⟩
  · intro out c h' tk kp hnone hout hlen ez
    rw [PySem.W.dataLe_int] at ez
    have hv := refs_each ez
    exact ⟨.ref _, upd H1 (s1.heap.objs.size + 1) (.lst ((byLen zs).map fun z => V.ref z.1)), I1.laid (t' := tk) kp (Nat.le_succ _) ⟨by rw [List.length_map]; unfold byLen; rw [List.length_mergeSort]; exact hn, out, c, hv, hout⟩, rfl, q _ (I1.hok.fresh (Nat.le_succ _))⟩
end U
set_option maxHeartbeats 1000000
namespace U
open PySem PySem.Spec PyProof.Rows L2
/-! ### dicts whose keys are tuples of plain values (ints, truth values, texts, None) -/
def lfV : V → Option Leaf
  | .non => some .none | .int i => some (.num i) | .bl b => some (.num (if b = true then 1 else 0)) | .str z => some (.text z) | _ => none
def LfK (xs : List V) (ks : List Leaf) : Prop := xs.map lfV = ks.map some
abbrev KE3 := List Leaf × Addr × V
def KR : List KE3 → List (List Leaf × Addr × Value) → Prop := Paired fun p q => p.1 = q.1 ∧ p.2.1 = q.2.1 ∧ RelV p.2.2 q.2.2
def valA (kas : List KE3) (k : List Leaf) : Option V := (kas.find? fun p => decide (p.1 = k)).map (·.2.2)
def putA1 (k : List Leaf) (v : V) (p : KE3) : KE3 := if p.1 = k then (p.1, p.2.1, v) else p
def putA (kas : List KE3) (k : List Leaf) (b : Addr) (v : V) : List KE3 := if (valA kas k).isSome then kas.map (putA1 k v) else kas ++ [(k, b, v)]
def KyO (P : Program) (w : World) (a : Addr) (kas : List KE3) : HO := .ext fun h => (a == sysModules) = false ∧ kas.length ≤ sizeLine ∧ ∃ xs : List (List Leaf × Addr × Value), KR kas xs ∧
  ∃ o es ep, h.get? a = some o ∧ o.ExactDict ∧ o.data = .dict es ep ∧ es.toList = xs.map (entryOfKey (tupleKind (leafKind P w))) ∧ (xs.map (·.1)).Nodup
def KyD (P : Program) (w : World) (H : Hp) (a : Addr) (kas : List KE3) : Prop := H a = some (KyO P w a kas) ∧ ∀ p ∈ kas, ∃ xs, H p.2.1 = some (.tup xs) ∧ LfK xs p.1
theorem KyD.same {P : Program} {w : World} {H H' : Hp} {a : Addr} {kas : List KE3} (d : KyD P w H a kas) (s : Same H H') : KyD P w H' a kas :=
  ⟨s _ _ d.1, fun p hp => let ⟨xs, e, k⟩ := d.2 p hp; ⟨xs, s _ _ e, k⟩⟩
theorem KyD.off {P : Program} {w : World} {H H' : Hp} {a p : Addr} {kas : List KE3} (d : KyD P w H a kas) (o : ∀ b u, b ≠ p → H b = some u → H' b = some u) (hp : ∃ ys, H p = some (.lst ys)) : KyD P w H' a kas := by
  obtain ⟨ys, e⟩ := hp
  refine ⟨o _ _ (fun z => ?_) d.1, fun q hq => ?_⟩
  · rw [← z, d.1] at e; cases e
  · obtain ⟨xs, e1, k⟩ := d.2 q hq
    exact ⟨xs, o _ _ (fun z => by rw [z, e] at e1; cases e1) e1, k⟩
theorem KR.val {kas : List KE3} {xs : List (List Leaf × Addr × Value)} (r : KR kas xs) (k : List Leaf) : RelO (valA kas k) ((atKey xs k).map (·.2)) := by
  induction r with
  | nil => exact True.intro
  | @cons p q ps qs h t ih =>
    obtain ⟨h1, _, h2⟩ := h
    by_cases e : p.1 = k
    · have e' : q.1 = k := h1.symm.trans e
      simp [valA, atKey, e, e']
      exact h2
    · have e' : ¬ q.1 = k := fun z => e (h1.trans z)
      simp [valA, atKey, e, e'] at ih ⊢
      exact ih
theorem KR.put {kas : List KE3} {xs : List (List Leaf × Addr × Value)} (r : KR kas xs) (k : List Leaf) (b : Addr) {y : V} {u : Value} (ry : RelV y u) : KR (putA kas k b y) (storedH xs k b u) := by
  have e : (valA kas k).isSome = (atKey xs k).isSome := by rw [(r.val k).isSome_eq, Option.isSome_map]
  unfold putA storedH
  rw [e]
  by_cases q : (atKey xs k).isSome = true
  · rw [if_pos q, if_pos q]
    clear e q
    induction r with
    | nil => exact .nil
    | @cons p q ps qs h t ih =>
      rw [List.map_cons, List.map_cons]
      refine .cons ?_ ih
      obtain ⟨h1, h2, h3⟩ := h
      unfold putA1 putAt
      by_cases e : p.1 = k
      · rw [if_pos e, if_pos (h1.symm.trans e)]; exact ⟨h1, h2, ry⟩
      · rw [if_neg e, if_neg (fun z => e (h1.trans z))]; exact ⟨h1, h2, h3⟩
  · rw [if_neg q, if_neg q]; exact Paired.snoc r ⟨rfl, rfl, ry⟩
/-! ### {} , d.get(k, x), d[k], d[k] = v, k in d -/
end U
namespace My
open PySem L2
def top (i : Nat) : Stmt := PySem.Challenge.pw_chainmaps_k14_renamings.main.body.getD i (.Pass ⟨0, 0, 0, 0⟩)
abbrev s_is_integer : Stmt := top 11
abbrev n_is_integer : List Str := ["value"]
theorem sc_is_integer : FnScope n_is_integer ["value"] (defScope s_is_integer) := ⟨rfl, rfl, rfl, by decide +kernel, rfl, by decide +kernel, by decide +kernel⟩
abbrev s_in_range : Stmt := top 12
abbrev n_in_range : List Str := ["value", "least", "most"]
theorem sc_in_range : FnScope n_in_range ["value", "least", "most"] (defScope s_in_range) := ⟨rfl, rfl, rfl, by decide +kernel, rfl, by decide +kernel, by decide +kernel⟩
abbrev s_check_size : Stmt := top 13
abbrev n_check_size : List Str := ["size"]
theorem sc_check_size : FnScope n_check_size ["size"] (defScope s_check_size) := ⟨rfl, rfl, rfl, by decide +kernel, rfl, by decide +kernel, by decide +kernel⟩
abbrev s_are_arrows : Stmt := top 14
abbrev n_are_arrows : List Str := ["size", "arrows", "targets", "source", "target"]
theorem sc_are_arrows : FnScope n_are_arrows ["size", "arrows"] (defScope s_are_arrows) := ⟨rfl, rfl, rfl, by decide +kernel, rfl, by decide +kernel, by decide +kernel⟩
abbrev s_common_size : Stmt := top 15
abbrev n_common_size : List Str := ["one", "other"]
theorem sc_common_size : FnScope n_common_size ["one", "other"] (defScope s_common_size) := ⟨rfl, rfl, rfl, by decide +kernel, rfl, by decide +kernel, by decide +kernel⟩
abbrev s_row_from : Stmt := top 16
abbrev n_row_from : List Str := ["arrows", "element", "row"]
theorem sc_row_from : FnScope n_row_from ["arrows", "element"] (defScope s_row_from) := ⟨rfl, rfl, rfl, by decide +kernel, rfl, by decide +kernel, by decide +kernel⟩
abbrev s_check_map : Stmt := top 21
abbrev n_check_map : List Str := ["value"]
theorem sc_check_map : FnScope n_check_map ["value"] (defScope s_check_map) := ⟨rfl, rfl, rfl, by decide +kernel, rfl, by decide +kernel, by decide +kernel⟩
abbrev s_parts_of : Stmt := top 26
abbrev n_parts_of : List Str := ["given", "arrows", "targets", "cycles", "chains", "seen", "element", "target", "one"]
theorem sc_parts_of : FnScope n_parts_of ["given"] (defScope s_parts_of) := ⟨rfl, rfl, rfl, by decide +kernel, rfl, by decide +kernel, by decide +kernel⟩
abbrev s_are_counts : Stmt := top 27
abbrev n_are_counts : List Str := ["value", "one", "number"]
theorem sc_are_counts : FnScope n_are_counts ["value"] (defScope s_are_counts) := ⟨rfl, rfl, rfl, by decide +kernel, rfl, by decide +kernel, by decide +kernel⟩
abbrev s_ordered : Stmt := top 28
abbrev n_ordered : List Str := ["counts", "length"]
theorem sc_ordered : FnScope n_ordered ["counts"] (defScope s_ordered) := ⟨rfl, rfl, rfl, by decide +kernel, rfl, by decide +kernel, by decide +kernel⟩
abbrev s_counts_of : Stmt := top 33
abbrev n_counts_of : List Str := ["parts", "found", "part"]
theorem sc_counts_of : FnScope n_counts_of ["parts"] (defScope s_counts_of) := ⟨rfl, rfl, rfl, by decide +kernel, rfl, by decide +kernel, by decide +kernel⟩
abbrev s_shape_of : Stmt := top 34
abbrev n_shape_of : List Str := ["given", "cycles", "chains"]
theorem sc_shape_of : FnScope n_shape_of ["given"] (defScope s_shape_of) := ⟨rfl, rfl, rfl, by decide +kernel, rfl, by decide +kernel, by decide +kernel⟩
abbrev s_factorial : Stmt := top 24
abbrev n_factorial : List Str := ["number", "found", "factor"]
theorem sc_factorial : FnScope n_factorial ["number"] (defScope s_factorial) := ⟨rfl, rfl, rfl, by decide +kernel, rfl, by decide +kernel, by decide +kernel⟩
abbrev s_power_of : Stmt := top 25
abbrev n_power_of : List Str := ["base", "exponent", "found", "turn"]
theorem sc_power_of : FnScope n_power_of ["base", "exponent"] (defScope s_power_of) := ⟨rfl, rfl, rfl, by decide +kernel, rfl, by decide +kernel, by decide +kernel⟩
abbrev s_are_alike : Stmt := top 35
abbrev n_are_alike : List Str := ["one", "other"]
theorem sc_are_alike : FnScope n_are_alike ["one", "other"] (defScope s_are_alike) := ⟨rfl, rfl, rfl, by decide +kernel, rfl, by decide +kernel, by decide +kernel⟩
abbrev s_by_length : Stmt := top 36
abbrev n_by_length : List Str := ["parts"]
theorem sc_by_length : FnScope n_by_length ["parts"] (defScope s_by_length) := ⟨rfl, rfl, rfl, by decide +kernel, rfl, by decide +kernel, by decide +kernel⟩
abbrev s_renaming : Stmt := top 37
abbrev n_renaming : List Str := ["one", "other", "arrows", "some", "others", "part", "target"]
theorem sc_renaming : FnScope n_renaming ["one", "other"] (defScope s_renaming) := ⟨rfl, rfl, rfl, by decide +kernel, rfl, by decide +kernel, by decide +kernel⟩
abbrev s_count_symmetries : Stmt := top 38
abbrev n_count_symmetries : List Str := ["shape", "found", "length", "number"]
theorem sc_count_symmetries : FnScope n_count_symmetries ["shape"] (defScope s_count_symmetries) := ⟨rfl, rfl, rfl, by decide +kernel, rfl, by decide +kernel, by decide +kernel⟩
abbrev s_count_renamings : Stmt := top 39
abbrev n_count_renamings : List Str := ["one", "other"]
theorem sc_count_renamings : FnScope n_count_renamings ["one", "other"] (defScope s_count_renamings) := ⟨rfl, rfl, rfl, by decide +kernel, rfl, by decide +kernel, by decide +kernel⟩
abbrev s_is_renaming : Stmt := top 40
abbrev n_is_renaming : List Str := ["one", "other", "value"]
theorem sc_is_renaming : FnScope n_is_renaming ["one", "other", "value"] (defScope s_is_renaming) := ⟨rfl, rfl, rfl, by decide +kernel, rfl, by decide +kernel, by decide +kernel⟩
abbrev s_Map__eq : Stmt := inClass (top 18) 25
abbrev n_Map__eq : List Str := ["self", "other"]
theorem sc_Map__eq : FnScope n_Map__eq ["self", "other"] (defScope s_Map__eq) := ⟨rfl, rfl, rfl, by decide +kernel, rfl, by decide +kernel, by decide +kernel⟩
abbrev s_Map__init : Stmt := inClass (top 18) 0
abbrev n_Map__init : List Str := ["self", "size", "arrows", "source"]
theorem sc_Map__init : FnScope n_Map__init ["self", "size", "arrows"] (defScope s_Map__init) := ⟨rfl, rfl, rfl, by decide +kernel, rfl, by decide +kernel, by decide +kernel⟩
abbrev s_Map_identity : Stmt := inClass (top 18) 1
abbrev n_Map_identity : List Str := ["cls", "size", "element"]
theorem sc_Map_identity : FnScope n_Map_identity ["cls", "size"] (defScope s_Map_identity) := ⟨rfl, rfl, rfl, by decide +kernel, rfl, by decide +kernel, by decide +kernel⟩
abbrev s_Map_size : Stmt := inClass (top 18) 6
abbrev n_Map_size : List Str := ["self"]
theorem sc_Map_size : FnScope n_Map_size ["self"] (defScope s_Map_size) := ⟨rfl, rfl, rfl, by decide +kernel, rfl, by decide +kernel, by decide +kernel⟩
abbrev s_Map_arrows : Stmt := inClass (top 18) 7
abbrev n_Map_arrows : List Str := ["self"]
theorem sc_Map_arrows : FnScope n_Map_arrows ["self"] (defScope s_Map_arrows) := ⟨rfl, rfl, rfl, by decide +kernel, rfl, by decide +kernel, by decide +kernel⟩
abbrev s_Map__mul : Stmt := inClass (top 18) 8
abbrev n_Map__mul : List Str := ["self", "other", "size", "later", "source", "target"]
theorem sc_Map__mul : FnScope n_Map__mul ["self", "other"] (defScope s_Map__mul) := ⟨rfl, rfl, rfl, by decide +kernel, rfl, by decide +kernel, by decide +kernel⟩
abbrev s_Map__invert : Stmt := inClass (top 18) 9
abbrev n_Map__invert : List Str := ["self", "source", "target"]
theorem sc_Map__invert : FnScope n_Map__invert ["self"] (defScope s_Map__invert) := ⟨rfl, rfl, rfl, by decide +kernel, rfl, by decide +kernel, by decide +kernel⟩
abbrev s_Map__len : Stmt := inClass (top 18) 24
abbrev n_Map__len : List Str := ["self"]
theorem sc_Map__len : FnScope n_Map__len ["self"] (defScope s_Map__len) := ⟨rfl, rfl, rfl, by decide +kernel, rfl, by decide +kernel, by decide +kernel⟩
abbrev s_Map__call : Stmt := inClass (top 18) 22
abbrev n_Map__call : List Str := ["self", "element"]
theorem sc_Map__call : FnScope n_Map__call ["self", "element"] (defScope s_Map__call) := ⟨rfl, rfl, rfl, by decide +kernel, rfl, by decide +kernel, by decide +kernel⟩
abbrev s_Map_is_source : Stmt := inClass (top 18) 27
abbrev n_Map_is_source : List Str := ["self", "value"]
theorem sc_Map_is_source : FnScope n_Map_is_source ["self", "value"] (defScope s_Map_is_source) := ⟨rfl, rfl, rfl, by decide +kernel, rfl, by decide +kernel, by decide +kernel⟩
abbrev s_Shape__eq : Stmt := inClass (top 32) 7
abbrev n_Shape__eq : List Str := ["self", "other"]
theorem sc_Shape__eq : FnScope n_Shape__eq ["self", "other"] (defScope s_Shape__eq) := ⟨rfl, rfl, rfl, by decide +kernel, rfl, by decide +kernel, by decide +kernel⟩
abbrev s_Shape__init : Stmt := inClass (top 32) 0
abbrev n_Shape__init : List Str := ["self", "cycles", "chains"]
theorem sc_Shape__init : FnScope n_Shape__init ["self", "cycles", "chains"] (defScope s_Shape__init) := ⟨rfl, rfl, rfl, by decide +kernel, rfl, by decide +kernel, by decide +kernel⟩
abbrev s_Shape_cycles : Stmt := inClass (top 32) 1
abbrev n_Shape_cycles : List Str := ["self"]
theorem sc_Shape_cycles : FnScope n_Shape_cycles ["self"] (defScope s_Shape_cycles) := ⟨rfl, rfl, rfl, by decide +kernel, rfl, by decide +kernel, by decide +kernel⟩
abbrev s_Shape_chains : Stmt := inClass (top 32) 2
abbrev n_Shape_chains : List Str := ["self"]
theorem sc_Shape_chains : FnScope n_Shape_chains ["self"] (defScope s_Shape_chains) := ⟨rfl, rfl, rfl, by decide +kernel, rfl, by decide +kernel, by decide +kernel⟩
abbrev s_InvalidMap__init : Stmt := inClass (top 2) 0
abbrev n_InvalidMap__init : List Str := ["self", "part"]
theorem sc_InvalidMap__init : FnScope n_InvalidMap__init ["self", "part"] (defScope s_InvalidMap__init) := ⟨rfl, rfl, rfl, by decide +kernel, rfl, by decide +kernel, by decide +kernel⟩
abbrev s_InvalidSize__init : Stmt := inClass (top 3) 0
abbrev s_InvalidShape__init : Stmt := inClass (top 4) 0
abbrev s_SizeMismatch__init : Stmt := inClass (top 6) 0
abbrev s_l_hand : Stmt := top 42
abbrev n_l_hand : List Str := ["_law_script", "_law_k", "_law_cell", "_law_seed"]
theorem sc_l_hand : FnScope n_l_hand ["_law_script", "_law_k"] (defScope s_l_hand) := ⟨rfl, rfl, rfl, by decide +kernel, rfl, by decide +kernel, by decide +kernel⟩
abbrev s_l_draw : Stmt := top 43
abbrev n_l_draw : List Str := ["_law_pool", "_law_size", "_law_found"]
theorem sc_l_draw : FnScope n_l_draw ["_law_pool", "_law_size"] (defScope s_l_draw) := ⟨rfl, rfl, rfl, by decide +kernel, rfl, by decide +kernel, by decide +kernel⟩
abbrev s_l_arrows : Stmt := top 44
abbrev n_l_arrows : List Str := ["_law_pool", "_law_size", "_law_way", "_law_left", "_law_found", "_law_source"]
theorem sc_l_arrows : FnScope n_l_arrows ["_law_pool", "_law_size", "_law_way"] (defScope s_l_arrows) := ⟨rfl, rfl, rfl, by decide +kernel, rfl, by decide +kernel, by decide +kernel⟩
abbrev s_l_back : Stmt := top 46
abbrev n_l_back : List Str := ["_law_arrows_here", "_law_source", "_law_target"]
theorem sc_l_back : FnScope n_l_back ["_law_arrows_here"] (defScope s_l_back) := ⟨rfl, rfl, rfl, by decide +kernel, rfl, by decide +kernel, by decide +kernel⟩
abbrev s_l_orders : Stmt := top 47
abbrev n_l_orders : List Str := ["_law_size", "_law_found", "_law_turn", "_law_longer", "_law_row", "_law_number"]
theorem sc_l_orders : FnScope n_l_orders ["_law_size"] (defScope s_l_orders) := ⟨rfl, rfl, rfl, by decide +kernel, rfl, by decide +kernel, by decide +kernel⟩
abbrev s_l_renamed : Stmt := top 48
abbrev n_l_renamed : List Str := ["_law_arrows_here", "_law_row", "_law_source", "_law_target"]
theorem sc_l_renamed : FnScope n_l_renamed ["_law_arrows_here", "_law_row"] (defScope s_l_renamed) := ⟨rfl, rfl, rfl, by decide +kernel, rfl, by decide +kernel, by decide +kernel⟩
abbrev s_l_pair : Stmt := top 49
abbrev n_l_pair : List Str := ["_law_one", "_law_other", "_law_size", "_law_orders_here", "_law_first", "_law_second", "_law_good", "_law_told", "_law_row", "_law_some", "_law_number"]
theorem sc_l_pair : FnScope n_l_pair ["_law_one", "_law_other", "_law_size", "_law_orders_here"] (defScope s_l_pair) := ⟨rfl, rfl, rfl, by decide +kernel, rfl, by decide +kernel, by decide +kernel⟩
abbrev s_l_bad : Stmt := top 50
abbrev n_l_bad : List Str := ["_law_one", "_law_odd", "_law_first", "_law_second", "e", "_law_asked"]
theorem sc_l_bad : FnScope n_l_bad ["_law_one", "_law_odd"] (defScope s_l_bad) := ⟨rfl, rfl, rfl, by decide +kernel, rfl, by decide +kernel, by decide +kernel⟩
abbrev s_law : Stmt := top 51
abbrev n_law : List Str := ["_law_script", "_law_k", "_law_pool", "_law_size", "_law_orders_here", "_law_one", "_law_other", "_law_row", "_law_left", "_law_right", "_law_first", "_law_second"]
theorem sc_law : FnScope n_law ["_law_script"] (defScope s_law) := ⟨rfl, rfl, rfl, by decide +kernel, rfl, by decide +kernel, by decide +kernel⟩
set_option genInjectivity false
set_option genSizeOf false
structure Txt (K : PySem.W.Frag) (mg : Str → Option Value) where
  f_is_integer : Addr
  f_in_range : Addr
  f_check_size : Addr
  f_are_arrows : Addr
  f_common_size : Addr
  f_row_from : Addr
  f_check_map : Addr
  f_parts_of : Addr
  f_are_counts : Addr
  f_ordered : Addr
  f_counts_of : Addr
  f_shape_of : Addr
  f_factorial : Addr
  f_power_of : Addr
  f_are_alike : Addr
  f_by_length : Addr
  f_renaming : Addr
  f_count_symmetries : Addr
  f_count_renamings : Addr
  f_is_renaming : Addr
  f_l_hand : Addr
  f_l_draw : Addr
  f_l_arrows : Addr
  f_l_back : Addr
  f_l_orders : Addr
  f_l_renamed : Addr
  f_l_pair : Addr
  f_l_bad : Addr
  f_law : Addr
  C_Shape : Addr
  f_Shape__eq : Addr
  f_Shape__init : Addr
  p_Shape_cycles : Addr
  f_Shape_cycles : Addr
  p_Shape_chains : Addr
  f_Shape_chains : Addr
  C_Map : Addr
  f_Map__eq : Addr
  f_Map__init : Addr
  p_Map_identity : Addr
  f_Map_identity : Addr
  p_Map_size : Addr
  f_Map_size : Addr
  p_Map_arrows : Addr
  f_Map_arrows : Addr
  f_Map__mul : Addr
  f_Map__invert : Addr
  f_Map__len : Addr
  f_Map__call : Addr
  f_Map_is_source : Addr
  C_InvalidMap : Addr
  f_InvalidMap__init : Addr
  C_InvalidSize : Addr
  f_InvalidSize__init : Addr
  C_InvalidShape : Addr
  f_InvalidShape__init : Addr
  C_SizeMismatch : Addr
  f_SizeMismatch__init : Addr
  A_is_integer : U.FnAt K "is_integer" "is_integer" s_is_integer f_is_integer ["value"]
  g_is_integer : mg "is_integer" = some (.ref f_is_integer)
  A_in_range : U.FnAt K "in_range" "in_range" s_in_range f_in_range ["value", "least", "most"]
  g_in_range : mg "in_range" = some (.ref f_in_range)
  A_check_size : U.FnAt K "check_size" "check_size" s_check_size f_check_size ["size"]
  g_check_size : mg "check_size" = some (.ref f_check_size)
  A_are_arrows : U.FnAt K "are_arrows" "are_arrows" s_are_arrows f_are_arrows ["size", "arrows"]
  g_are_arrows : mg "are_arrows" = some (.ref f_are_arrows)
  A_common_size : U.FnAt K "common_size" "common_size" s_common_size f_common_size ["one", "other"]
  g_common_size : mg "common_size" = some (.ref f_common_size)
  A_row_from : U.FnAt K "row_from" "row_from" s_row_from f_row_from ["arrows", "element"]
  g_row_from : mg "row_from" = some (.ref f_row_from)
  A_check_map : U.FnAt K "check_map" "check_map" s_check_map f_check_map ["value"]
  g_check_map : mg "check_map" = some (.ref f_check_map)
  A_parts_of : U.FnAt K "parts_of" "parts_of" s_parts_of f_parts_of ["given"]
  g_parts_of : mg "parts_of" = some (.ref f_parts_of)
  A_are_counts : U.FnAt K "are_counts" "are_counts" s_are_counts f_are_counts ["value"]
  g_are_counts : mg "are_counts" = some (.ref f_are_counts)
  A_ordered : U.FnAt K "ordered" "ordered" s_ordered f_ordered ["counts"]
  g_ordered : mg "ordered" = some (.ref f_ordered)
  A_counts_of : U.FnAt K "counts_of" "counts_of" s_counts_of f_counts_of ["parts"]
  g_counts_of : mg "counts_of" = some (.ref f_counts_of)
  A_shape_of : U.FnAt K "shape_of" "shape_of" s_shape_of f_shape_of ["given"]
  g_shape_of : mg "shape_of" = some (.ref f_shape_of)
  A_factorial : U.FnAt K "factorial" "factorial" s_factorial f_factorial ["number"]
  g_factorial : mg "factorial" = some (.ref f_factorial)
  A_power_of : U.FnAt K "power_of" "power_of" s_power_of f_power_of ["base", "exponent"]
  g_power_of : mg "power_of" = some (.ref f_power_of)
  A_are_alike : U.FnAt K "are_alike" "are_alike" s_are_alike f_are_alike ["one", "other"]
  g_are_alike : mg "are_alike" = some (.ref f_are_alike)
  A_by_length : U.FnAt K "by_length" "by_length" s_by_length f_by_length ["parts"]
  g_by_length : mg "by_length" = some (.ref f_by_length)
  A_renaming : U.FnAt K "renaming" "renaming" s_renaming f_renaming ["one", "other"]
  g_renaming : mg "renaming" = some (.ref f_renaming)
  A_count_symmetries : U.FnAt K "count_symmetries" "count_symmetries" s_count_symmetries f_count_symmetries ["shape"]
  g_count_symmetries : mg "count_symmetries" = some (.ref f_count_symmetries)
  A_count_renamings : U.FnAt K "count_renamings" "count_renamings" s_count_renamings f_count_renamings ["one", "other"]
  g_count_renamings : mg "count_renamings" = some (.ref f_count_renamings)
  A_is_renaming : U.FnAt K "is_renaming" "is_renaming" s_is_renaming f_is_renaming ["one", "other", "value"]
  g_is_renaming : mg "is_renaming" = some (.ref f_is_renaming)
  A_l_hand : U.FnAt K "_law_hand" "_law_hand" s_l_hand f_l_hand ["_law_script", "_law_k"]
  g_l_hand : mg "_law_hand" = some (.ref f_l_hand)
  A_l_draw : U.FnAt K "_law_draw" "_law_draw" s_l_draw f_l_draw ["_law_pool", "_law_size"]
  g_l_draw : mg "_law_draw" = some (.ref f_l_draw)
  A_l_arrows : U.FnAt K "_law_arrows" "_law_arrows" s_l_arrows f_l_arrows ["_law_pool", "_law_size", "_law_way"]
  g_l_arrows : mg "_law_arrows" = some (.ref f_l_arrows)
  A_l_back : U.FnAt K "_law_back" "_law_back" s_l_back f_l_back ["_law_arrows_here"]
  g_l_back : mg "_law_back" = some (.ref f_l_back)
  A_l_orders : U.FnAt K "_law_orders" "_law_orders" s_l_orders f_l_orders ["_law_size"]
  g_l_orders : mg "_law_orders" = some (.ref f_l_orders)
  A_l_renamed : U.FnAt K "_law_renamed" "_law_renamed" s_l_renamed f_l_renamed ["_law_arrows_here", "_law_row"]
  g_l_renamed : mg "_law_renamed" = some (.ref f_l_renamed)
  A_l_pair : U.FnAt K "_law_pair" "_law_pair" s_l_pair f_l_pair ["_law_one", "_law_other", "_law_size", "_law_orders_here"]
  g_l_pair : mg "_law_pair" = some (.ref f_l_pair)
  A_l_bad : U.FnAt K "_law_bad" "_law_bad" s_l_bad f_l_bad ["_law_one", "_law_odd"]
  g_l_bad : mg "_law_bad" = some (.ref f_l_bad)
  A_law : U.FnAt K "law" "law" s_law f_law ["_law_script"]
  L_law : ∃ fd, Fun K "law" "law" s_law f_law fd ∧ ∀ (s : Shared) (u : Value), BindsTo s fd ⟨[u], []⟩ [("_law_script", u)]
  g_law : mg "law" = some (.ref f_law)
  g_Shape : mg "Shape" = some (.ref C_Shape)
  o_Shape : U.OwnC K C_Shape
  kit_int_Shape : PySem.W.kitOne K (.ref C_Shape) (.type "int") = some false
  kit_bool_Shape : PySem.W.kitOne K (.ref C_Shape) (.type "bool") = some false
  kn_NoneType_Shape : PySem.W.kitOne K (.type "NoneType") (.ref C_Shape) = some false
  nf_NoneType_Shape : PySem.W.notFirst K C_Shape (.type "NoneType") = true
  kn_int_Shape : PySem.W.kitOne K (.type "int") (.ref C_Shape) = some false
  nf_int_Shape : PySem.W.notFirst K C_Shape (.type "int") = true
  kn_bool_Shape : PySem.W.kitOne K (.type "bool") (.ref C_Shape) = some false
  nf_bool_Shape : PySem.W.notFirst K C_Shape (.type "bool") = true
  kn_str_Shape : PySem.W.kitOne K (.type "str") (.ref C_Shape) = some false
  nf_str_Shape : PySem.W.notFirst K C_Shape (.type "str") = true
  kn_list_Shape : PySem.W.kitOne K (.type "list") (.ref C_Shape) = some false
  nf_list_Shape : PySem.W.notFirst K C_Shape (.type "list") = true
  kn_dict_Shape : PySem.W.kitOne K (.type "dict") (.ref C_Shape) = some false
  nf_dict_Shape : PySem.W.notFirst K C_Shape (.type "dict") = true
  kn_tuple_Shape : PySem.W.kitOne K (.type "tuple") (.ref C_Shape) = some false
  nf_tuple_Shape : PySem.W.notFirst K C_Shape (.type "tuple") = true
  self_Shape : PySem.W.kitOne K (.ref C_Shape) (.ref C_Shape) = some true
  na_own_cycles_Shape : NoAttr K C_Shape "own_cycles"
  na_own_chains_Shape : NoAttr K C_Shape "own_chains"
  A_Shape__eq : U.FnAt K "__eq__" "Shape.__eq__" s_Shape__eq f_Shape__eq ["self", "other"]
  m_Shape__eq : PySem.W.findIn K (.ref C_Shape) "__eq__" = some (some (.ref f_Shape__eq))
  i_Shape__eq : PySem.W.isFn K (.ref f_Shape__eq) = true
  A_Shape__init : U.FnAt K "__init__" "Shape.__init__" s_Shape__init f_Shape__init ["self", "cycles", "chains"]
  m_Shape__init : PySem.W.findIn K (.ref C_Shape) "__init__" = some (some (.ref f_Shape__init))
  i_Shape__init : PySem.W.isFn K (.ref f_Shape__init) = true
  M_Shape : Mk K C_Shape f_Shape__init
  A_Shape_cycles : U.FnAt K "cycles" "Shape.cycles" s_Shape_cycles f_Shape_cycles ["self"]
  P_Shape_cycles : PropOf K C_Shape "cycles" p_Shape_cycles f_Shape_cycles
  A_Shape_chains : U.FnAt K "chains" "Shape.chains" s_Shape_chains f_Shape_chains ["self"]
  P_Shape_chains : PropOf K C_Shape "chains" p_Shape_chains f_Shape_chains
  g_Map : mg "Map" = some (.ref C_Map)
  o_Map : U.OwnC K C_Map
  kit_int_Map : PySem.W.kitOne K (.ref C_Map) (.type "int") = some false
  kit_bool_Map : PySem.W.kitOne K (.ref C_Map) (.type "bool") = some false
  kit_tuple_Map : PySem.W.kitOne K (.ref C_Map) (.type "tuple") = some false
  kn_NoneType_Map : PySem.W.kitOne K (.type "NoneType") (.ref C_Map) = some false
  nf_NoneType_Map : PySem.W.notFirst K C_Map (.type "NoneType") = true
  kn_int_Map : PySem.W.kitOne K (.type "int") (.ref C_Map) = some false
  nf_int_Map : PySem.W.notFirst K C_Map (.type "int") = true
  kn_bool_Map : PySem.W.kitOne K (.type "bool") (.ref C_Map) = some false
  nf_bool_Map : PySem.W.notFirst K C_Map (.type "bool") = true
  kn_str_Map : PySem.W.kitOne K (.type "str") (.ref C_Map) = some false
  nf_str_Map : PySem.W.notFirst K C_Map (.type "str") = true
  kn_list_Map : PySem.W.kitOne K (.type "list") (.ref C_Map) = some false
  nf_list_Map : PySem.W.notFirst K C_Map (.type "list") = true
  kn_dict_Map : PySem.W.kitOne K (.type "dict") (.ref C_Map) = some false
  nf_dict_Map : PySem.W.notFirst K C_Map (.type "dict") = true
  kn_tuple_Map : PySem.W.kitOne K (.type "tuple") (.ref C_Map) = some false
  nf_tuple_Map : PySem.W.notFirst K C_Map (.type "tuple") = true
  kx_Map_Shape : PySem.W.kitOne K (.ref C_Map) (.ref C_Shape) = some false
  self_Map : PySem.W.kitOne K (.ref C_Map) (.ref C_Map) = some true
  na_own_size_Map : NoAttr K C_Map "own_size"
  na_own_arrows_Map : NoAttr K C_Map "own_arrows"
  ne_Map : PySem.W.findIn K (.ref C_Map) "__ne__" = some (some (.builtin "object.__ne__"))
  A_Map__eq : U.FnAt K "__eq__" "Map.__eq__" s_Map__eq f_Map__eq ["self", "other"]
  m_Map__eq : PySem.W.findIn K (.ref C_Map) "__eq__" = some (some (.ref f_Map__eq))
  i_Map__eq : PySem.W.isFn K (.ref f_Map__eq) = true
  A_Map__init : U.FnAt K "__init__" "Map.__init__" s_Map__init f_Map__init ["self", "size", "arrows"]
  m_Map__init : PySem.W.findIn K (.ref C_Map) "__init__" = some (some (.ref f_Map__init))
  i_Map__init : PySem.W.isFn K (.ref f_Map__init) = true
  M_Map : Mk K C_Map f_Map__init
  R_Map : ClX.CRead K C_Map (.type "type")
  A_Map_identity : U.FnAt K "identity" "Map.identity" s_Map_identity f_Map_identity ["cls", "size"]
  cm_Map_identity : ClX.CMet K C_Map (.type "type") "identity" p_Map_identity f_Map_identity
  A_Map_size : U.FnAt K "size" "Map.size" s_Map_size f_Map_size ["self"]
  P_Map_size : PropOf K C_Map "size" p_Map_size f_Map_size
  A_Map_arrows : U.FnAt K "arrows" "Map.arrows" s_Map_arrows f_Map_arrows ["self"]
  P_Map_arrows : PropOf K C_Map "arrows" p_Map_arrows f_Map_arrows
  A_Map__mul : U.FnAt K "__mul__" "Map.__mul__" s_Map__mul f_Map__mul ["self", "other"]
  m_Map__mul : PySem.W.findIn K (.ref C_Map) "__mul__" = some (some (.ref f_Map__mul))
  i_Map__mul : PySem.W.isFn K (.ref f_Map__mul) = true
  A_Map__invert : U.FnAt K "__invert__" "Map.__invert__" s_Map__invert f_Map__invert ["self"]
  m_Map__invert : PySem.W.findIn K (.ref C_Map) "__invert__" = some (some (.ref f_Map__invert))
  i_Map__invert : PySem.W.isFn K (.ref f_Map__invert) = true
  A_Map__len : U.FnAt K "__len__" "Map.__len__" s_Map__len f_Map__len ["self"]
  m_Map__len : PySem.W.findIn K (.ref C_Map) "__len__" = some (some (.ref f_Map__len))
  i_Map__len : PySem.W.isFn K (.ref f_Map__len) = true
  A_Map__call : U.FnAt K "__call__" "Map.__call__" s_Map__call f_Map__call ["self", "element"]
  m_Map__call : PySem.W.findIn K (.ref C_Map) "__call__" = some (some (.ref f_Map__call))
  i_Map__call : PySem.W.isFn K (.ref f_Map__call) = true
  fi_Map__call : PySem.W.fnIn K f_Map__call = true
  A_Map_is_source : U.FnAt K "is_source" "Map.is_source" s_Map_is_source f_Map_is_source ["self", "value"]
  m_Map_is_source : PySem.W.findIn K (.ref C_Map) "is_source" = some (some (.ref f_Map_is_source))
  i_Map_is_source : PySem.W.isFn K (.ref f_Map_is_source) = true
  meth_Map_is_source : Meth K C_Map "is_source" f_Map_is_source
  g_InvalidMap : mg "InvalidMap" = some (.ref C_InvalidMap)
  x_InvalidMap : OexG K C_InvalidMap
  xf_InvalidMap : XfC K C_InvalidMap
  xe_InvalidMap : ExcC K C_InvalidMap
  te_InvalidMap : PySem.W.exmOne K (.ref C_InvalidMap) (.ref C_InvalidMap) = some true
  kit_ValueError_InvalidMap : PySem.W.kitOne K (.ref C_InvalidMap) (.type "ValueError") = some true
  na_part_InvalidMap : PySem.W.findIn K (.ref C_InvalidMap) "part" = some none
  A_InvalidMap__init : U.FnAt K "__init__" "InvalidMap.__init__" s_InvalidMap__init f_InvalidMap__init ["self", "part"]
  m_InvalidMap__init : PySem.W.findIn K (.ref C_InvalidMap) "__init__" = some (some (.ref f_InvalidMap__init))
  ti_InvalidMap__init : PySem.W.typeIn K (.ref f_InvalidMap__init) = some (.type "function")
  g_InvalidSize : mg "InvalidSize" = some (.ref C_InvalidSize)
  x_InvalidSize : OexG K C_InvalidSize
  xf_InvalidSize : XfC K C_InvalidSize
  xe_InvalidSize : ExcC K C_InvalidSize
  te_InvalidSize : PySem.W.exmOne K (.ref C_InvalidSize) (.ref C_InvalidSize) = some true
  kit_ValueError_InvalidSize : PySem.W.kitOne K (.ref C_InvalidSize) (.type "ValueError") = some true
  na_value_InvalidSize : PySem.W.findIn K (.ref C_InvalidSize) "value" = some none
  A_InvalidSize__init : U.FnAt K "__init__" "InvalidSize.__init__" s_InvalidSize__init f_InvalidSize__init ["self", "value"]
  m_InvalidSize__init : PySem.W.findIn K (.ref C_InvalidSize) "__init__" = some (some (.ref f_InvalidSize__init))
  ti_InvalidSize__init : PySem.W.typeIn K (.ref f_InvalidSize__init) = some (.type "function")
  g_InvalidShape : mg "InvalidShape" = some (.ref C_InvalidShape)
  x_InvalidShape : OexG K C_InvalidShape
  xf_InvalidShape : XfC K C_InvalidShape
  xe_InvalidShape : ExcC K C_InvalidShape
  te_InvalidShape : PySem.W.exmOne K (.ref C_InvalidShape) (.ref C_InvalidShape) = some true
  kit_ValueError_InvalidShape : PySem.W.kitOne K (.ref C_InvalidShape) (.type "ValueError") = some true
  na_part_InvalidShape : PySem.W.findIn K (.ref C_InvalidShape) "part" = some none
  A_InvalidShape__init : U.FnAt K "__init__" "InvalidShape.__init__" s_InvalidShape__init f_InvalidShape__init ["self", "part"]
  m_InvalidShape__init : PySem.W.findIn K (.ref C_InvalidShape) "__init__" = some (some (.ref f_InvalidShape__init))
  ti_InvalidShape__init : PySem.W.typeIn K (.ref f_InvalidShape__init) = some (.type "function")
  g_SizeMismatch : mg "SizeMismatch" = some (.ref C_SizeMismatch)
  x_SizeMismatch : OexG K C_SizeMismatch
  xf_SizeMismatch : XfC K C_SizeMismatch
  xe_SizeMismatch : ExcC K C_SizeMismatch
  te_SizeMismatch : PySem.W.exmOne K (.ref C_SizeMismatch) (.ref C_SizeMismatch) = some true
  kit_ValueError_SizeMismatch : PySem.W.kitOne K (.ref C_SizeMismatch) (.type "ValueError") = some true
  na_first_SizeMismatch : PySem.W.findIn K (.ref C_SizeMismatch) "first" = some none
  na_second_SizeMismatch : PySem.W.findIn K (.ref C_SizeMismatch) "second" = some none
  A_SizeMismatch__init : U.FnAt K "__init__" "SizeMismatch.__init__" s_SizeMismatch__init f_SizeMismatch__init ["self", "first", "second"]
  m_SizeMismatch__init : PySem.W.findIn K (.ref C_SizeMismatch) "__init__" = some (some (.ref f_SizeMismatch__init))
  ti_SizeMismatch__init : PySem.W.typeIn K (.ref f_SizeMismatch__init) = some (.type "function")
  n_isinstance : mg "isinstance" = none
  n_int : mg "int" = none
  n_bool : mg "bool" = none
  n_dict : mg "dict" = none
  n_len : mg "len" = none
  n_range : mg "range" = none
  n_list : mg "list" = none
  n_tuple : mg "tuple" = none
  n_max : mg "max" = none
  n_min : mg "min" = none
  n_all : mg "all" = none
  n_sorted : mg "sorted" = none
  n_abs : mg "abs" = none
  n_enumerate : mg "enumerate" = none
  n_repr : mg "repr" = none
  n_zip : mg "zip" = none
  v_MAX_SIZE : ∃ t, mg "MAX_SIZE" = some (.int 300 t)
theorem mk_txt {K : PySem.W.Frag} {h : Heap} {mg : Str → Option Value} (X : K.In h) (G : h.Ns mainGlobals mg)
    {f_is_integer : Addr} {oc_is_integer kV_is_integer dc_is_integer pm_is_integer cd_is_integer ct_is_integer : Value} {od_is_integer an_is_integer : Option Addr} {sl_is_integer : Array (Option Value)}
    {f_in_range : Addr} {oc_in_range kV_in_range dc_in_range pm_in_range cd_in_range ct_in_range : Value} {od_in_range an_in_range : Option Addr} {sl_in_range : Array (Option Value)}
    {f_check_size : Addr} {oc_check_size kV_check_size dc_check_size pm_check_size cd_check_size ct_check_size : Value} {od_check_size an_check_size : Option Addr} {sl_check_size : Array (Option Value)}
    {f_are_arrows : Addr} {oc_are_arrows kV_are_arrows dc_are_arrows pm_are_arrows cd_are_arrows ct_are_arrows : Value} {od_are_arrows an_are_arrows : Option Addr} {sl_are_arrows : Array (Option Value)}
    {f_common_size : Addr} {oc_common_size kV_common_size dc_common_size pm_common_size cd_common_size ct_common_size : Value} {od_common_size an_common_size : Option Addr} {sl_common_size : Array (Option Value)}
    {f_row_from : Addr} {oc_row_from kV_row_from dc_row_from pm_row_from cd_row_from ct_row_from : Value} {od_row_from an_row_from : Option Addr} {sl_row_from : Array (Option Value)}
    {f_check_map : Addr} {oc_check_map kV_check_map dc_check_map pm_check_map cd_check_map ct_check_map : Value} {od_check_map an_check_map : Option Addr} {sl_check_map : Array (Option Value)}
    {f_parts_of : Addr} {oc_parts_of kV_parts_of dc_parts_of pm_parts_of cd_parts_of ct_parts_of : Value} {od_parts_of an_parts_of : Option Addr} {sl_parts_of : Array (Option Value)}
    {f_are_counts : Addr} {oc_are_counts kV_are_counts dc_are_counts pm_are_counts cd_are_counts ct_are_counts : Value} {od_are_counts an_are_counts : Option Addr} {sl_are_counts : Array (Option Value)}
    {f_ordered : Addr} {oc_ordered kV_ordered dc_ordered pm_ordered cd_ordered ct_ordered : Value} {od_ordered an_ordered : Option Addr} {sl_ordered : Array (Option Value)}
    {f_counts_of : Addr} {oc_counts_of kV_counts_of dc_counts_of pm_counts_of cd_counts_of ct_counts_of : Value} {od_counts_of an_counts_of : Option Addr} {sl_counts_of : Array (Option Value)}
    {f_shape_of : Addr} {oc_shape_of kV_shape_of dc_shape_of pm_shape_of cd_shape_of ct_shape_of : Value} {od_shape_of an_shape_of : Option Addr} {sl_shape_of : Array (Option Value)}
    {f_factorial : Addr} {oc_factorial kV_factorial dc_factorial pm_factorial cd_factorial ct_factorial : Value} {od_factorial an_factorial : Option Addr} {sl_factorial : Array (Option Value)}
    {f_power_of : Addr} {oc_power_of kV_power_of dc_power_of pm_power_of cd_power_of ct_power_of : Value} {od_power_of an_power_of : Option Addr} {sl_power_of : Array (Option Value)}
    {f_are_alike : Addr} {oc_are_alike kV_are_alike dc_are_alike pm_are_alike cd_are_alike ct_are_alike : Value} {od_are_alike an_are_alike : Option Addr} {sl_are_alike : Array (Option Value)}
    {f_by_length : Addr} {oc_by_length kV_by_length dc_by_length pm_by_length cd_by_length ct_by_length : Value} {od_by_length an_by_length : Option Addr} {sl_by_length : Array (Option Value)}
    {f_renaming : Addr} {oc_renaming kV_renaming dc_renaming pm_renaming cd_renaming ct_renaming : Value} {od_renaming an_renaming : Option Addr} {sl_renaming : Array (Option Value)}
    {f_count_symmetries : Addr} {oc_count_symmetries kV_count_symmetries dc_count_symmetries pm_count_symmetries cd_count_symmetries ct_count_symmetries : Value} {od_count_symmetries an_count_symmetries : Option Addr} {sl_count_symmetries : Array (Option Value)}
    {f_count_renamings : Addr} {oc_count_renamings kV_count_renamings dc_count_renamings pm_count_renamings cd_count_renamings ct_count_renamings : Value} {od_count_renamings an_count_renamings : Option Addr} {sl_count_renamings : Array (Option Value)}
    {f_is_renaming : Addr} {oc_is_renaming kV_is_renaming dc_is_renaming pm_is_renaming cd_is_renaming ct_is_renaming : Value} {od_is_renaming an_is_renaming : Option Addr} {sl_is_renaming : Array (Option Value)}
    {f_l_hand : Addr} {oc_l_hand kV_l_hand dc_l_hand pm_l_hand cd_l_hand ct_l_hand : Value} {od_l_hand an_l_hand : Option Addr} {sl_l_hand : Array (Option Value)}
    {f_l_draw : Addr} {oc_l_draw kV_l_draw dc_l_draw pm_l_draw cd_l_draw ct_l_draw : Value} {od_l_draw an_l_draw : Option Addr} {sl_l_draw : Array (Option Value)}
    {f_l_arrows : Addr} {oc_l_arrows kV_l_arrows dc_l_arrows pm_l_arrows cd_l_arrows ct_l_arrows : Value} {od_l_arrows an_l_arrows : Option Addr} {sl_l_arrows : Array (Option Value)}
    {f_l_back : Addr} {oc_l_back kV_l_back dc_l_back pm_l_back cd_l_back ct_l_back : Value} {od_l_back an_l_back : Option Addr} {sl_l_back : Array (Option Value)}
    {f_l_orders : Addr} {oc_l_orders kV_l_orders dc_l_orders pm_l_orders cd_l_orders ct_l_orders : Value} {od_l_orders an_l_orders : Option Addr} {sl_l_orders : Array (Option Value)}
    {f_l_renamed : Addr} {oc_l_renamed kV_l_renamed dc_l_renamed pm_l_renamed cd_l_renamed ct_l_renamed : Value} {od_l_renamed an_l_renamed : Option Addr} {sl_l_renamed : Array (Option Value)}
    {f_l_pair : Addr} {oc_l_pair kV_l_pair dc_l_pair pm_l_pair cd_l_pair ct_l_pair : Value} {od_l_pair an_l_pair : Option Addr} {sl_l_pair : Array (Option Value)}
    {f_l_bad : Addr} {oc_l_bad kV_l_bad dc_l_bad pm_l_bad cd_l_bad ct_l_bad : Value} {od_l_bad an_l_bad : Option Addr} {sl_l_bad : Array (Option Value)}
    {f_law : Addr} {oc_law kV_law dc_law pm_law cd_law ct_law : Value} {od_law an_law : Option Addr} {sl_law : Array (Option Value)}
    {C_Shape : Addr}
    {f_Shape__eq : Addr} {oc_Shape__eq kV_Shape__eq dc_Shape__eq pm_Shape__eq cd_Shape__eq ct_Shape__eq : Value} {od_Shape__eq an_Shape__eq : Option Addr} {sl_Shape__eq : Array (Option Value)}
    {f_Shape__init : Addr} {oc_Shape__init kV_Shape__init dc_Shape__init pm_Shape__init cd_Shape__init ct_Shape__init : Value} {od_Shape__init an_Shape__init : Option Addr} {sl_Shape__init : Array (Option Value)}
    {p_Shape_cycles : Addr} {r_Shape_cycles : List Value}
    {f_Shape_cycles : Addr} {oc_Shape_cycles kV_Shape_cycles dc_Shape_cycles pm_Shape_cycles cd_Shape_cycles ct_Shape_cycles : Value} {od_Shape_cycles an_Shape_cycles : Option Addr} {sl_Shape_cycles : Array (Option Value)}
    {p_Shape_chains : Addr} {r_Shape_chains : List Value}
    {f_Shape_chains : Addr} {oc_Shape_chains kV_Shape_chains dc_Shape_chains pm_Shape_chains cd_Shape_chains ct_Shape_chains : Value} {od_Shape_chains an_Shape_chains : Option Addr} {sl_Shape_chains : Array (Option Value)}
    {C_Map : Addr}
    {f_Map__eq : Addr} {oc_Map__eq kV_Map__eq dc_Map__eq pm_Map__eq cd_Map__eq ct_Map__eq : Value} {od_Map__eq an_Map__eq : Option Addr} {sl_Map__eq : Array (Option Value)}
    {f_Map__init : Addr} {oc_Map__init kV_Map__init dc_Map__init pm_Map__init cd_Map__init ct_Map__init : Value} {od_Map__init an_Map__init : Option Addr} {sl_Map__init : Array (Option Value)}
    {p_Map_identity : Addr} {r_Map_identity : List Value}
    {f_Map_identity : Addr} {oc_Map_identity kV_Map_identity dc_Map_identity pm_Map_identity cd_Map_identity ct_Map_identity : Value} {od_Map_identity an_Map_identity : Option Addr} {sl_Map_identity : Array (Option Value)}
    {p_Map_size : Addr} {r_Map_size : List Value}
    {f_Map_size : Addr} {oc_Map_size kV_Map_size dc_Map_size pm_Map_size cd_Map_size ct_Map_size : Value} {od_Map_size an_Map_size : Option Addr} {sl_Map_size : Array (Option Value)}
    {p_Map_arrows : Addr} {r_Map_arrows : List Value}
    {f_Map_arrows : Addr} {oc_Map_arrows kV_Map_arrows dc_Map_arrows pm_Map_arrows cd_Map_arrows ct_Map_arrows : Value} {od_Map_arrows an_Map_arrows : Option Addr} {sl_Map_arrows : Array (Option Value)}
    {f_Map__mul : Addr} {oc_Map__mul kV_Map__mul dc_Map__mul pm_Map__mul cd_Map__mul ct_Map__mul : Value} {od_Map__mul an_Map__mul : Option Addr} {sl_Map__mul : Array (Option Value)}
    {f_Map__invert : Addr} {oc_Map__invert kV_Map__invert dc_Map__invert pm_Map__invert cd_Map__invert ct_Map__invert : Value} {od_Map__invert an_Map__invert : Option Addr} {sl_Map__invert : Array (Option Value)}
    {f_Map__len : Addr} {oc_Map__len kV_Map__len dc_Map__len pm_Map__len cd_Map__len ct_Map__len : Value} {od_Map__len an_Map__len : Option Addr} {sl_Map__len : Array (Option Value)}
    {f_Map__call : Addr} {oc_Map__call kV_Map__call dc_Map__call pm_Map__call cd_Map__call ct_Map__call : Value} {od_Map__call an_Map__call : Option Addr} {sl_Map__call : Array (Option Value)}
    {f_Map_is_source : Addr} {oc_Map_is_source kV_Map_is_source dc_Map_is_source pm_Map_is_source cd_Map_is_source ct_Map_is_source : Value} {od_Map_is_source an_Map_is_source : Option Addr} {sl_Map_is_source : Array (Option Value)}
    {C_InvalidMap : Addr} {nm_InvalidMap q_InvalidMap : Str} {N_InvalidMap : Addr} {bs_InvalidMap : List Value} {sn_InvalidMap : List Str} {sub_InvalidMap : List Value} {ab_InvalidMap : Bool} {col_InvalidMap : Option Bool} {dd_InvalidMap : Option Addr} {m0_InvalidMap m1_InvalidMap m2_InvalidMap m3_InvalidMap m5_InvalidMap : Option Value}
    {f_InvalidMap__init : Addr} {oc_InvalidMap__init kV_InvalidMap__init dc_InvalidMap__init pm_InvalidMap__init cd_InvalidMap__init ct_InvalidMap__init : Value} {od_InvalidMap__init an_InvalidMap__init : Option Addr} {sl_InvalidMap__init : Array (Option Value)}
    {C_InvalidSize : Addr} {nm_InvalidSize q_InvalidSize : Str} {N_InvalidSize : Addr} {bs_InvalidSize : List Value} {sn_InvalidSize : List Str} {sub_InvalidSize : List Value} {ab_InvalidSize : Bool} {col_InvalidSize : Option Bool} {dd_InvalidSize : Option Addr} {m0_InvalidSize m1_InvalidSize m2_InvalidSize m3_InvalidSize m5_InvalidSize : Option Value}
    {f_InvalidSize__init : Addr} {oc_InvalidSize__init kV_InvalidSize__init dc_InvalidSize__init pm_InvalidSize__init cd_InvalidSize__init ct_InvalidSize__init : Value} {od_InvalidSize__init an_InvalidSize__init : Option Addr} {sl_InvalidSize__init : Array (Option Value)}
    {C_InvalidShape : Addr} {nm_InvalidShape q_InvalidShape : Str} {N_InvalidShape : Addr} {bs_InvalidShape : List Value} {sn_InvalidShape : List Str} {sub_InvalidShape : List Value} {ab_InvalidShape : Bool} {col_InvalidShape : Option Bool} {dd_InvalidShape : Option Addr} {m0_InvalidShape m1_InvalidShape m2_InvalidShape m3_InvalidShape m5_InvalidShape : Option Value}
    {f_InvalidShape__init : Addr} {oc_InvalidShape__init kV_InvalidShape__init dc_InvalidShape__init pm_InvalidShape__init cd_InvalidShape__init ct_InvalidShape__init : Value} {od_InvalidShape__init an_InvalidShape__init : Option Addr} {sl_InvalidShape__init : Array (Option Value)}
    {C_SizeMismatch : Addr} {nm_SizeMismatch q_SizeMismatch : Str} {N_SizeMismatch : Addr} {bs_SizeMismatch : List Value} {sn_SizeMismatch : List Str} {sub_SizeMismatch : List Value} {ab_SizeMismatch : Bool} {col_SizeMismatch : Option Bool} {dd_SizeMismatch : Option Addr} {m0_SizeMismatch m1_SizeMismatch m2_SizeMismatch m3_SizeMismatch m5_SizeMismatch : Option Value}
    {f_SizeMismatch__init : Addr} {oc_SizeMismatch__init kV_SizeMismatch__init dc_SizeMismatch__init pm_SizeMismatch__init cd_SizeMismatch__init ct_SizeMismatch__init : Value} {od_SizeMismatch__init an_SizeMismatch__init : Option Addr} {sl_SizeMismatch__init : Array (Option Value)}
    {t_MAX_SIZE : Tok}
    (a_is_integer : PySem.W.nsIn K mainGlobals "is_integer" = some (some (.ref f_is_integer)))
    (l_is_integer : K.lookup f_is_integer = some ⟨oc_is_integer, od_is_integer, .func (PySem.W.fnOf "is_integer" "is_integer" (defArgs s_is_integer) (defBody s_is_integer) (defScope s_is_integer) .none kV_is_integer dc_is_integer pm_is_integer an_is_integer cd_is_integer ct_is_integer), sl_is_integer⟩)
    (c_is_integer : PySem.W.codeIn K cd_is_integer "is_integer" = true)
    (k_is_integer : PySem.W.keepIn K (.ref f_is_integer) = true)
    (a_in_range : PySem.W.nsIn K mainGlobals "in_range" = some (some (.ref f_in_range)))
    (l_in_range : K.lookup f_in_range = some ⟨oc_in_range, od_in_range, .func (PySem.W.fnOf "in_range" "in_range" (defArgs s_in_range) (defBody s_in_range) (defScope s_in_range) .none kV_in_range dc_in_range pm_in_range an_in_range cd_in_range ct_in_range), sl_in_range⟩)
    (c_in_range : PySem.W.codeIn K cd_in_range "in_range" = true)
    (k_in_range : PySem.W.keepIn K (.ref f_in_range) = true)
    (a_check_size : PySem.W.nsIn K mainGlobals "check_size" = some (some (.ref f_check_size)))
    (l_check_size : K.lookup f_check_size = some ⟨oc_check_size, od_check_size, .func (PySem.W.fnOf "check_size" "check_size" (defArgs s_check_size) (defBody s_check_size) (defScope s_check_size) .none kV_check_size dc_check_size pm_check_size an_check_size cd_check_size ct_check_size), sl_check_size⟩)
    (c_check_size : PySem.W.codeIn K cd_check_size "check_size" = true)
    (k_check_size : PySem.W.keepIn K (.ref f_check_size) = true)
    (a_are_arrows : PySem.W.nsIn K mainGlobals "are_arrows" = some (some (.ref f_are_arrows)))
    (l_are_arrows : K.lookup f_are_arrows = some ⟨oc_are_arrows, od_are_arrows, .func (PySem.W.fnOf "are_arrows" "are_arrows" (defArgs s_are_arrows) (defBody s_are_arrows) (defScope s_are_arrows) .none kV_are_arrows dc_are_arrows pm_are_arrows an_are_arrows cd_are_arrows ct_are_arrows), sl_are_arrows⟩)
    (c_are_arrows : PySem.W.codeIn K cd_are_arrows "are_arrows" = true)
    (k_are_arrows : PySem.W.keepIn K (.ref f_are_arrows) = true)
    (a_common_size : PySem.W.nsIn K mainGlobals "common_size" = some (some (.ref f_common_size)))
    (l_common_size : K.lookup f_common_size = some ⟨oc_common_size, od_common_size, .func (PySem.W.fnOf "common_size" "common_size" (defArgs s_common_size) (defBody s_common_size) (defScope s_common_size) .none kV_common_size dc_common_size pm_common_size an_common_size cd_common_size ct_common_size), sl_common_size⟩)
    (c_common_size : PySem.W.codeIn K cd_common_size "common_size" = true)
    (k_common_size : PySem.W.keepIn K (.ref f_common_size) = true)
    (a_row_from : PySem.W.nsIn K mainGlobals "row_from" = some (some (.ref f_row_from)))
    (l_row_from : K.lookup f_row_from = some ⟨oc_row_from, od_row_from, .func (PySem.W.fnOf "row_from" "row_from" (defArgs s_row_from) (defBody s_row_from) (defScope s_row_from) .none kV_row_from dc_row_from pm_row_from an_row_from cd_row_from ct_row_from), sl_row_from⟩)
    (c_row_from : PySem.W.codeIn K cd_row_from "row_from" = true)
    (k_row_from : PySem.W.keepIn K (.ref f_row_from) = true)
    (a_check_map : PySem.W.nsIn K mainGlobals "check_map" = some (some (.ref f_check_map)))
    (l_check_map : K.lookup f_check_map = some ⟨oc_check_map, od_check_map, .func (PySem.W.fnOf "check_map" "check_map" (defArgs s_check_map) (defBody s_check_map) (defScope s_check_map) .none kV_check_map dc_check_map pm_check_map an_check_map cd_check_map ct_check_map), sl_check_map⟩)
    (c_check_map : PySem.W.codeIn K cd_check_map "check_map" = true)
    (k_check_map : PySem.W.keepIn K (.ref f_check_map) = true)
    (a_parts_of : PySem.W.nsIn K mainGlobals "parts_of" = some (some (.ref f_parts_of)))
    (l_parts_of : K.lookup f_parts_of = some ⟨oc_parts_of, od_parts_of, .func (PySem.W.fnOf "parts_of" "parts_of" (defArgs s_parts_of) (defBody s_parts_of) (defScope s_parts_of) .none kV_parts_of dc_parts_of pm_parts_of an_parts_of cd_parts_of ct_parts_of), sl_parts_of⟩)
    (c_parts_of : PySem.W.codeIn K cd_parts_of "parts_of" = true)
    (k_parts_of : PySem.W.keepIn K (.ref f_parts_of) = true)
    (a_are_counts : PySem.W.nsIn K mainGlobals "are_counts" = some (some (.ref f_are_counts)))
    (l_are_counts : K.lookup f_are_counts = some ⟨oc_are_counts, od_are_counts, .func (PySem.W.fnOf "are_counts" "are_counts" (defArgs s_are_counts) (defBody s_are_counts) (defScope s_are_counts) .none kV_are_counts dc_are_counts pm_are_counts an_are_counts cd_are_counts ct_are_counts), sl_are_counts⟩)
    (c_are_counts : PySem.W.codeIn K cd_are_counts "are_counts" = true)
    (k_are_counts : PySem.W.keepIn K (.ref f_are_counts) = true)
    (a_ordered : PySem.W.nsIn K mainGlobals "ordered" = some (some (.ref f_ordered)))
    (l_ordered : K.lookup f_ordered = some ⟨oc_ordered, od_ordered, .func (PySem.W.fnOf "ordered" "ordered" (defArgs s_ordered) (defBody s_ordered) (defScope s_ordered) .none kV_ordered dc_ordered pm_ordered an_ordered cd_ordered ct_ordered), sl_ordered⟩)
    (c_ordered : PySem.W.codeIn K cd_ordered "ordered" = true)
    (k_ordered : PySem.W.keepIn K (.ref f_ordered) = true)
    (a_counts_of : PySem.W.nsIn K mainGlobals "counts_of" = some (some (.ref f_counts_of)))
    (l_counts_of : K.lookup f_counts_of = some ⟨oc_counts_of, od_counts_of, .func (PySem.W.fnOf "counts_of" "counts_of" (defArgs s_counts_of) (defBody s_counts_of) (defScope s_counts_of) .none kV_counts_of dc_counts_of pm_counts_of an_counts_of cd_counts_of ct_counts_of), sl_counts_of⟩)
    (c_counts_of : PySem.W.codeIn K cd_counts_of "counts_of" = true)
    (k_counts_of : PySem.W.keepIn K (.ref f_counts_of) = true)
    (a_shape_of : PySem.W.nsIn K mainGlobals "shape_of" = some (some (.ref f_shape_of)))
    (l_shape_of : K.lookup f_shape_of = some ⟨oc_shape_of, od_shape_of, .func (PySem.W.fnOf "shape_of" "shape_of" (defArgs s_shape_of) (defBody s_shape_of) (defScope s_shape_of) .none kV_shape_of dc_shape_of pm_shape_of an_shape_of cd_shape_of ct_shape_of), sl_shape_of⟩)
    (c_shape_of : PySem.W.codeIn K cd_shape_of "shape_of" = true)
    (k_shape_of : PySem.W.keepIn K (.ref f_shape_of) = true)
    (a_factorial : PySem.W.nsIn K mainGlobals "factorial" = some (some (.ref f_factorial)))
    (l_factorial : K.lookup f_factorial = some ⟨oc_factorial, od_factorial, .func (PySem.W.fnOf "factorial" "factorial" (defArgs s_factorial) (defBody s_factorial) (defScope s_factorial) .none kV_factorial dc_factorial pm_factorial an_factorial cd_factorial ct_factorial), sl_factorial⟩)
    (c_factorial : PySem.W.codeIn K cd_factorial "factorial" = true)
    (k_factorial : PySem.W.keepIn K (.ref f_factorial) = true)
    (a_power_of : PySem.W.nsIn K mainGlobals "power_of" = some (some (.ref f_power_of)))
    (l_power_of : K.lookup f_power_of = some ⟨oc_power_of, od_power_of, .func (PySem.W.fnOf "power_of" "power_of" (defArgs s_power_of) (defBody s_power_of) (defScope s_power_of) .none kV_power_of dc_power_of pm_power_of an_power_of cd_power_of ct_power_of), sl_power_of⟩)
    (c_power_of : PySem.W.codeIn K cd_power_of "power_of" = true)
    (k_power_of : PySem.W.keepIn K (.ref f_power_of) = true)
    (a_are_alike : PySem.W.nsIn K mainGlobals "are_alike" = some (some (.ref f_are_alike)))
    (l_are_alike : K.lookup f_are_alike = some ⟨oc_are_alike, od_are_alike, .func (PySem.W.fnOf "are_alike" "are_alike" (defArgs s_are_alike) (defBody s_are_alike) (defScope s_are_alike) .none kV_are_alike dc_are_alike pm_are_alike an_are_alike cd_are_alike ct_are_alike), sl_are_alike⟩)
    (c_are_alike : PySem.W.codeIn K cd_are_alike "are_alike" = true)
    (k_are_alike : PySem.W.keepIn K (.ref f_are_alike) = true)
    (a_by_length : PySem.W.nsIn K mainGlobals "by_length" = some (some (.ref f_by_length)))
    (l_by_length : K.lookup f_by_length = some ⟨oc_by_length, od_by_length, .func (PySem.W.fnOf "by_length" "by_length" (defArgs s_by_length) (defBody s_by_length) (defScope s_by_length) .none kV_by_length dc_by_length pm_by_length an_by_length cd_by_length ct_by_length), sl_by_length⟩)
    (c_by_length : PySem.W.codeIn K cd_by_length "by_length" = true)
    (k_by_length : PySem.W.keepIn K (.ref f_by_length) = true)
    (a_renaming : PySem.W.nsIn K mainGlobals "renaming" = some (some (.ref f_renaming)))
    (l_renaming : K.lookup f_renaming = some ⟨oc_renaming, od_renaming, .func (PySem.W.fnOf "renaming" "renaming" (defArgs s_renaming) (defBody s_renaming) (defScope s_renaming) .none kV_renaming dc_renaming pm_renaming an_renaming cd_renaming ct_renaming), sl_renaming⟩)
    (c_renaming : PySem.W.codeIn K cd_renaming "renaming" = true)
    (k_renaming : PySem.W.keepIn K (.ref f_renaming) = true)
    (a_count_symmetries : PySem.W.nsIn K mainGlobals "count_symmetries" = some (some (.ref f_count_symmetries)))
    (l_count_symmetries : K.lookup f_count_symmetries = some ⟨oc_count_symmetries, od_count_symmetries, .func (PySem.W.fnOf "count_symmetries" "count_symmetries" (defArgs s_count_symmetries) (defBody s_count_symmetries) (defScope s_count_symmetries) .none kV_count_symmetries dc_count_symmetries pm_count_symmetries an_count_symmetries cd_count_symmetries ct_count_symmetries), sl_count_symmetries⟩)
    (c_count_symmetries : PySem.W.codeIn K cd_count_symmetries "count_symmetries" = true)
    (k_count_symmetries : PySem.W.keepIn K (.ref f_count_symmetries) = true)
    (a_count_renamings : PySem.W.nsIn K mainGlobals "count_renamings" = some (some (.ref f_count_renamings)))
    (l_count_renamings : K.lookup f_count_renamings = some ⟨oc_count_renamings, od_count_renamings, .func (PySem.W.fnOf "count_renamings" "count_renamings" (defArgs s_count_renamings) (defBody s_count_renamings) (defScope s_count_renamings) .none kV_count_renamings dc_count_renamings pm_count_renamings an_count_renamings cd_count_renamings ct_count_renamings), sl_count_renamings⟩)
    (c_count_renamings : PySem.W.codeIn K cd_count_renamings "count_renamings" = true)
    (k_count_renamings : PySem.W.keepIn K (.ref f_count_renamings) = true)
    (a_is_renaming : PySem.W.nsIn K mainGlobals "is_renaming" = some (some (.ref f_is_renaming)))
    (l_is_renaming : K.lookup f_is_renaming = some ⟨oc_is_renaming, od_is_renaming, .func (PySem.W.fnOf "is_renaming" "is_renaming" (defArgs s_is_renaming) (defBody s_is_renaming) (defScope s_is_renaming) .none kV_is_renaming dc_is_renaming pm_is_renaming an_is_renaming cd_is_renaming ct_is_renaming), sl_is_renaming⟩)
    (c_is_renaming : PySem.W.codeIn K cd_is_renaming "is_renaming" = true)
    (k_is_renaming : PySem.W.keepIn K (.ref f_is_renaming) = true)
    (a_l_hand : PySem.W.nsIn K mainGlobals "_law_hand" = some (some (.ref f_l_hand)))
    (l_l_hand : K.lookup f_l_hand = some ⟨oc_l_hand, od_l_hand, .func (PySem.W.fnOf "_law_hand" "_law_hand" (defArgs s_l_hand) (defBody s_l_hand) (defScope s_l_hand) .none kV_l_hand dc_l_hand pm_l_hand an_l_hand cd_l_hand ct_l_hand), sl_l_hand⟩)
    (c_l_hand : PySem.W.codeIn K cd_l_hand "_law_hand" = true)
    (k_l_hand : PySem.W.keepIn K (.ref f_l_hand) = true)
    (a_l_draw : PySem.W.nsIn K mainGlobals "_law_draw" = some (some (.ref f_l_draw)))
    (l_l_draw : K.lookup f_l_draw = some ⟨oc_l_draw, od_l_draw, .func (PySem.W.fnOf "_law_draw" "_law_draw" (defArgs s_l_draw) (defBody s_l_draw) (defScope s_l_draw) .none kV_l_draw dc_l_draw pm_l_draw an_l_draw cd_l_draw ct_l_draw), sl_l_draw⟩)
    (c_l_draw : PySem.W.codeIn K cd_l_draw "_law_draw" = true)
    (k_l_draw : PySem.W.keepIn K (.ref f_l_draw) = true)
    (a_l_arrows : PySem.W.nsIn K mainGlobals "_law_arrows" = some (some (.ref f_l_arrows)))
    (l_l_arrows : K.lookup f_l_arrows = some ⟨oc_l_arrows, od_l_arrows, .func (PySem.W.fnOf "_law_arrows" "_law_arrows" (defArgs s_l_arrows) (defBody s_l_arrows) (defScope s_l_arrows) .none kV_l_arrows dc_l_arrows pm_l_arrows an_l_arrows cd_l_arrows ct_l_arrows), sl_l_arrows⟩)
    (c_l_arrows : PySem.W.codeIn K cd_l_arrows "_law_arrows" = true)
    (k_l_arrows : PySem.W.keepIn K (.ref f_l_arrows) = true)
    (a_l_back : PySem.W.nsIn K mainGlobals "_law_back" = some (some (.ref f_l_back)))
    (l_l_back : K.lookup f_l_back = some ⟨oc_l_back, od_l_back, .func (PySem.W.fnOf "_law_back" "_law_back" (defArgs s_l_back) (defBody s_l_back) (defScope s_l_back) .none kV_l_back dc_l_back pm_l_back an_l_back cd_l_back ct_l_back), sl_l_back⟩)
    (c_l_back : PySem.W.codeIn K cd_l_back "_law_back" = true)
    (k_l_back : PySem.W.keepIn K (.ref f_l_back) = true)
    (a_l_orders : PySem.W.nsIn K mainGlobals "_law_orders" = some (some (.ref f_l_orders)))
    (l_l_orders : K.lookup f_l_orders = some ⟨oc_l_orders, od_l_orders, .func (PySem.W.fnOf "_law_orders" "_law_orders" (defArgs s_l_orders) (defBody s_l_orders) (defScope s_l_orders) .none kV_l_orders dc_l_orders pm_l_orders an_l_orders cd_l_orders ct_l_orders), sl_l_orders⟩)
    (c_l_orders : PySem.W.codeIn K cd_l_orders "_law_orders" = true)
    (k_l_orders : PySem.W.keepIn K (.ref f_l_orders) = true)
    (a_l_renamed : PySem.W.nsIn K mainGlobals "_law_renamed" = some (some (.ref f_l_renamed)))
    (l_l_renamed : K.lookup f_l_renamed = some ⟨oc_l_renamed, od_l_renamed, .func (PySem.W.fnOf "_law_renamed" "_law_renamed" (defArgs s_l_renamed) (defBody s_l_renamed) (defScope s_l_renamed) .none kV_l_renamed dc_l_renamed pm_l_renamed an_l_renamed cd_l_renamed ct_l_renamed), sl_l_renamed⟩)
    (c_l_renamed : PySem.W.codeIn K cd_l_renamed "_law_renamed" = true)
    (k_l_renamed : PySem.W.keepIn K (.ref f_l_renamed) = true)
    (a_l_pair : PySem.W.nsIn K mainGlobals "_law_pair" = some (some (.ref f_l_pair)))
    (l_l_pair : K.lookup f_l_pair = some ⟨oc_l_pair, od_l_pair, .func (PySem.W.fnOf "_law_pair" "_law_pair" (defArgs s_l_pair) (defBody s_l_pair) (defScope s_l_pair) .none kV_l_pair dc_l_pair pm_l_pair an_l_pair cd_l_pair ct_l_pair), sl_l_pair⟩)
    (c_l_pair : PySem.W.codeIn K cd_l_pair "_law_pair" = true)
    (k_l_pair : PySem.W.keepIn K (.ref f_l_pair) = true)
    (a_l_bad : PySem.W.nsIn K mainGlobals "_law_bad" = some (some (.ref f_l_bad)))
    (l_l_bad : K.lookup f_l_bad = some ⟨oc_l_bad, od_l_bad, .func (PySem.W.fnOf "_law_bad" "_law_bad" (defArgs s_l_bad) (defBody s_l_bad) (defScope s_l_bad) .none kV_l_bad dc_l_bad pm_l_bad an_l_bad cd_l_bad ct_l_bad), sl_l_bad⟩)
    (c_l_bad : PySem.W.codeIn K cd_l_bad "_law_bad" = true)
    (k_l_bad : PySem.W.keepIn K (.ref f_l_bad) = true)
    (a_law : PySem.W.nsIn K mainGlobals "law" = some (some (.ref f_law)))
    (l_law : K.lookup f_law = some ⟨oc_law, od_law, .func (PySem.W.fnOf "law" "law" (defArgs s_law) (defBody s_law) (defScope s_law) .none kV_law dc_law pm_law an_law cd_law ct_law), sl_law⟩)
    (c_law : PySem.W.codeIn K cd_law "law" = true)
    (k_law : PySem.W.keepIn K (.ref f_law) = true)
    (a_Shape : PySem.W.nsIn K mainGlobals "Shape" = some (some (.ref C_Shape)))
    (pg_Shape : PySem.W.plainGet K C_Shape Str.empty = true)
    (hd_Shape : PySem.W.hasDictIn K C_Shape = true)
    (po_Shape : PySem.W.plainOver K C_Shape = true)
    (sa_Shape : PySem.W.findIn K (.ref C_Shape) "__setattr__" = some (some (.builtin "object.__setattr__")))
    (sf_Shape : PySem.W.selfFirst K C_Shape = true)
    (ca_Shape : PySem.W.findIn K (.ref C_Shape) "__class__" = some (some (.builtin "object.__class__")))
    (cn_Shape : PySem.W.specialIn K (.builtin "object.__class__") "__get__" = some (some (.builtin "getset_descriptor.__get__")))
    (ct_Shape : PySem.W.takesIn K (.builtin "object.__class__") = some true)
    (cm_Shape : PySem.W.mroIn K C_Shape (.type "object") = some true)
    (kc_Shape : PySem.W.keepIn K (.ref C_Shape) = true)
    (kit_int_Shape : PySem.W.kitOne K (.ref C_Shape) (.type "int") = some false)
    (kit_bool_Shape : PySem.W.kitOne K (.ref C_Shape) (.type "bool") = some false)
    (kn_NoneType_Shape : PySem.W.kitOne K (.type "NoneType") (.ref C_Shape) = some false)
    (nf_NoneType_Shape : PySem.W.notFirst K C_Shape (.type "NoneType") = true)
    (kn_int_Shape : PySem.W.kitOne K (.type "int") (.ref C_Shape) = some false)
    (nf_int_Shape : PySem.W.notFirst K C_Shape (.type "int") = true)
    (kn_bool_Shape : PySem.W.kitOne K (.type "bool") (.ref C_Shape) = some false)
    (nf_bool_Shape : PySem.W.notFirst K C_Shape (.type "bool") = true)
    (kn_str_Shape : PySem.W.kitOne K (.type "str") (.ref C_Shape) = some false)
    (nf_str_Shape : PySem.W.notFirst K C_Shape (.type "str") = true)
    (kn_list_Shape : PySem.W.kitOne K (.type "list") (.ref C_Shape) = some false)
    (nf_list_Shape : PySem.W.notFirst K C_Shape (.type "list") = true)
    (kn_dict_Shape : PySem.W.kitOne K (.type "dict") (.ref C_Shape) = some false)
    (nf_dict_Shape : PySem.W.notFirst K C_Shape (.type "dict") = true)
    (kn_tuple_Shape : PySem.W.kitOne K (.type "tuple") (.ref C_Shape) = some false)
    (nf_tuple_Shape : PySem.W.notFirst K C_Shape (.type "tuple") = true)
    (self_Shape : PySem.W.kitOne K (.ref C_Shape) (.ref C_Shape) = some true)
    (na_own_cycles_Shape : PySem.W.findIn K (.ref C_Shape) "own_cycles" = some none)
    (na_own_chains_Shape : PySem.W.findIn K (.ref C_Shape) "own_chains" = some none)
    (m_Shape__eq : PySem.W.findIn K (.ref C_Shape) "__eq__" = some (some (.ref f_Shape__eq)))
    (i_Shape__eq : PySem.W.isFn K (.ref f_Shape__eq) = true)
    (l_Shape__eq : K.lookup f_Shape__eq = some ⟨oc_Shape__eq, od_Shape__eq, .func (PySem.W.fnOf "__eq__" "Shape.__eq__" (defArgs s_Shape__eq) (defBody s_Shape__eq) (defScope s_Shape__eq) .none kV_Shape__eq dc_Shape__eq pm_Shape__eq an_Shape__eq cd_Shape__eq ct_Shape__eq), sl_Shape__eq⟩)
    (c_Shape__eq : PySem.W.codeIn K cd_Shape__eq "Shape.__eq__" = true)
    (k_Shape__eq : PySem.W.keepIn K (.ref f_Shape__eq) = true)
    (m_Shape__init : PySem.W.findIn K (.ref C_Shape) "__init__" = some (some (.ref f_Shape__init)))
    (i_Shape__init : PySem.W.isFn K (.ref f_Shape__init) = true)
    (l_Shape__init : K.lookup f_Shape__init = some ⟨oc_Shape__init, od_Shape__init, .func (PySem.W.fnOf "__init__" "Shape.__init__" (defArgs s_Shape__init) (defBody s_Shape__init) (defScope s_Shape__init) .none kV_Shape__init dc_Shape__init pm_Shape__init an_Shape__init cd_Shape__init ct_Shape__init), sl_Shape__init⟩)
    (c_Shape__init : PySem.W.codeIn K cd_Shape__init "Shape.__init__" = true)
    (k_Shape__init : PySem.W.keepIn K (.ref f_Shape__init) = true)
    (mk_Shape : PySem.W.makesIn K C_Shape = true)
    (m_Shape_cycles : PySem.W.findIn K (.ref C_Shape) "cycles" = some (some (.ref p_Shape_cycles)))
    (s_get_Shape_cycles : PySem.W.specialIn K (.ref p_Shape_cycles) "__get__" = some (some (.builtin "property.__get__")))
    (tk_Shape_cycles : PySem.W.takesIn K (.ref p_Shape_cycles) = some true)
    (rc_Shape_cycles : PySem.W.recIn K p_Shape_cycles "property" = some (.ref f_Shape_cycles :: r_Shape_cycles))
    (l_Shape_cycles : K.lookup f_Shape_cycles = some ⟨oc_Shape_cycles, od_Shape_cycles, .func (PySem.W.fnOf "cycles" "Shape.cycles" (defArgs s_Shape_cycles) (defBody s_Shape_cycles) (defScope s_Shape_cycles) .none kV_Shape_cycles dc_Shape_cycles pm_Shape_cycles an_Shape_cycles cd_Shape_cycles ct_Shape_cycles), sl_Shape_cycles⟩)
    (c_Shape_cycles : PySem.W.codeIn K cd_Shape_cycles "Shape.cycles" = true)
    (k_Shape_cycles : PySem.W.keepIn K (.ref f_Shape_cycles) = true)
    (m_Shape_chains : PySem.W.findIn K (.ref C_Shape) "chains" = some (some (.ref p_Shape_chains)))
    (s_get_Shape_chains : PySem.W.specialIn K (.ref p_Shape_chains) "__get__" = some (some (.builtin "property.__get__")))
    (tk_Shape_chains : PySem.W.takesIn K (.ref p_Shape_chains) = some true)
    (rc_Shape_chains : PySem.W.recIn K p_Shape_chains "property" = some (.ref f_Shape_chains :: r_Shape_chains))
    (l_Shape_chains : K.lookup f_Shape_chains = some ⟨oc_Shape_chains, od_Shape_chains, .func (PySem.W.fnOf "chains" "Shape.chains" (defArgs s_Shape_chains) (defBody s_Shape_chains) (defScope s_Shape_chains) .none kV_Shape_chains dc_Shape_chains pm_Shape_chains an_Shape_chains cd_Shape_chains ct_Shape_chains), sl_Shape_chains⟩)
    (c_Shape_chains : PySem.W.codeIn K cd_Shape_chains "Shape.chains" = true)
    (k_Shape_chains : PySem.W.keepIn K (.ref f_Shape_chains) = true)
    (a_Map : PySem.W.nsIn K mainGlobals "Map" = some (some (.ref C_Map)))
    (pg_Map : PySem.W.plainGet K C_Map Str.empty = true)
    (hd_Map : PySem.W.hasDictIn K C_Map = true)
    (po_Map : PySem.W.plainOver K C_Map = true)
    (sa_Map : PySem.W.findIn K (.ref C_Map) "__setattr__" = some (some (.builtin "object.__setattr__")))
    (sf_Map : PySem.W.selfFirst K C_Map = true)
    (ca_Map : PySem.W.findIn K (.ref C_Map) "__class__" = some (some (.builtin "object.__class__")))
    (cn_Map : PySem.W.specialIn K (.builtin "object.__class__") "__get__" = some (some (.builtin "getset_descriptor.__get__")))
    (ct_Map : PySem.W.takesIn K (.builtin "object.__class__") = some true)
    (cm_Map : PySem.W.mroIn K C_Map (.type "object") = some true)
    (kc_Map : PySem.W.keepIn K (.ref C_Map) = true)
    (kit_int_Map : PySem.W.kitOne K (.ref C_Map) (.type "int") = some false)
    (kit_bool_Map : PySem.W.kitOne K (.ref C_Map) (.type "bool") = some false)
    (kit_tuple_Map : PySem.W.kitOne K (.ref C_Map) (.type "tuple") = some false)
    (kn_NoneType_Map : PySem.W.kitOne K (.type "NoneType") (.ref C_Map) = some false)
    (nf_NoneType_Map : PySem.W.notFirst K C_Map (.type "NoneType") = true)
    (kn_int_Map : PySem.W.kitOne K (.type "int") (.ref C_Map) = some false)
    (nf_int_Map : PySem.W.notFirst K C_Map (.type "int") = true)
    (kn_bool_Map : PySem.W.kitOne K (.type "bool") (.ref C_Map) = some false)
    (nf_bool_Map : PySem.W.notFirst K C_Map (.type "bool") = true)
    (kn_str_Map : PySem.W.kitOne K (.type "str") (.ref C_Map) = some false)
    (nf_str_Map : PySem.W.notFirst K C_Map (.type "str") = true)
    (kn_list_Map : PySem.W.kitOne K (.type "list") (.ref C_Map) = some false)
    (nf_list_Map : PySem.W.notFirst K C_Map (.type "list") = true)
    (kn_dict_Map : PySem.W.kitOne K (.type "dict") (.ref C_Map) = some false)
    (nf_dict_Map : PySem.W.notFirst K C_Map (.type "dict") = true)
    (kn_tuple_Map : PySem.W.kitOne K (.type "tuple") (.ref C_Map) = some false)
    (nf_tuple_Map : PySem.W.notFirst K C_Map (.type "tuple") = true)
    (self_Map : PySem.W.kitOne K (.ref C_Map) (.ref C_Map) = some true)
    (na_own_size_Map : PySem.W.findIn K (.ref C_Map) "own_size" = some none)
    (na_own_arrows_Map : PySem.W.findIn K (.ref C_Map) "own_arrows" = some none)
    (ne_Map : PySem.W.findIn K (.ref C_Map) "__ne__" = some (some (.builtin "object.__ne__")))
    (m_Map__eq : PySem.W.findIn K (.ref C_Map) "__eq__" = some (some (.ref f_Map__eq)))
    (i_Map__eq : PySem.W.isFn K (.ref f_Map__eq) = true)
    (l_Map__eq : K.lookup f_Map__eq = some ⟨oc_Map__eq, od_Map__eq, .func (PySem.W.fnOf "__eq__" "Map.__eq__" (defArgs s_Map__eq) (defBody s_Map__eq) (defScope s_Map__eq) .none kV_Map__eq dc_Map__eq pm_Map__eq an_Map__eq cd_Map__eq ct_Map__eq), sl_Map__eq⟩)
    (c_Map__eq : PySem.W.codeIn K cd_Map__eq "Map.__eq__" = true)
    (k_Map__eq : PySem.W.keepIn K (.ref f_Map__eq) = true)
    (m_Map__init : PySem.W.findIn K (.ref C_Map) "__init__" = some (some (.ref f_Map__init)))
    (i_Map__init : PySem.W.isFn K (.ref f_Map__init) = true)
    (l_Map__init : K.lookup f_Map__init = some ⟨oc_Map__init, od_Map__init, .func (PySem.W.fnOf "__init__" "Map.__init__" (defArgs s_Map__init) (defBody s_Map__init) (defScope s_Map__init) .none kV_Map__init dc_Map__init pm_Map__init an_Map__init cd_Map__init ct_Map__init), sl_Map__init⟩)
    (c_Map__init : PySem.W.codeIn K cd_Map__init "Map.__init__" = true)
    (k_Map__init : PySem.W.keepIn K (.ref f_Map__init) = true)
    (mk_Map : PySem.W.makesIn K C_Map = true)
    (rd_Map : PySem.W.readsIn K C_Map (.type "type") = true)
    (ga_Map : PySem.W.specialIn K (.ref C_Map) "__getattribute__" = some (some (.builtin "type.__getattribute__")))
    (at_Map_identity : PySem.W.findCls K (.ref C_Map) (.type "type") "identity" = some (.get (.builtin "classmethod.__get__") (.ref p_Map_identity) .none (.ref C_Map)))
    (rc_Map_identity : PySem.W.recIn K p_Map_identity "classmethod" = some (.ref f_Map_identity :: r_Map_identity))
    (fi_Map_identity : PySem.W.fnIn K f_Map_identity = true)
    (l_Map_identity : K.lookup f_Map_identity = some ⟨oc_Map_identity, od_Map_identity, .func (PySem.W.fnOf "identity" "Map.identity" (defArgs s_Map_identity) (defBody s_Map_identity) (defScope s_Map_identity) .none kV_Map_identity dc_Map_identity pm_Map_identity an_Map_identity cd_Map_identity ct_Map_identity), sl_Map_identity⟩)
    (c_Map_identity : PySem.W.codeIn K cd_Map_identity "Map.identity" = true)
    (k_Map_identity : PySem.W.keepIn K (.ref f_Map_identity) = true)
    (m_Map_size : PySem.W.findIn K (.ref C_Map) "size" = some (some (.ref p_Map_size)))
    (s_get_Map_size : PySem.W.specialIn K (.ref p_Map_size) "__get__" = some (some (.builtin "property.__get__")))
    (tk_Map_size : PySem.W.takesIn K (.ref p_Map_size) = some true)
    (rc_Map_size : PySem.W.recIn K p_Map_size "property" = some (.ref f_Map_size :: r_Map_size))
    (l_Map_size : K.lookup f_Map_size = some ⟨oc_Map_size, od_Map_size, .func (PySem.W.fnOf "size" "Map.size" (defArgs s_Map_size) (defBody s_Map_size) (defScope s_Map_size) .none kV_Map_size dc_Map_size pm_Map_size an_Map_size cd_Map_size ct_Map_size), sl_Map_size⟩)
    (c_Map_size : PySem.W.codeIn K cd_Map_size "Map.size" = true)
    (k_Map_size : PySem.W.keepIn K (.ref f_Map_size) = true)
    (m_Map_arrows : PySem.W.findIn K (.ref C_Map) "arrows" = some (some (.ref p_Map_arrows)))
    (s_get_Map_arrows : PySem.W.specialIn K (.ref p_Map_arrows) "__get__" = some (some (.builtin "property.__get__")))
    (tk_Map_arrows : PySem.W.takesIn K (.ref p_Map_arrows) = some true)
    (rc_Map_arrows : PySem.W.recIn K p_Map_arrows "property" = some (.ref f_Map_arrows :: r_Map_arrows))
    (l_Map_arrows : K.lookup f_Map_arrows = some ⟨oc_Map_arrows, od_Map_arrows, .func (PySem.W.fnOf "arrows" "Map.arrows" (defArgs s_Map_arrows) (defBody s_Map_arrows) (defScope s_Map_arrows) .none kV_Map_arrows dc_Map_arrows pm_Map_arrows an_Map_arrows cd_Map_arrows ct_Map_arrows), sl_Map_arrows⟩)
    (c_Map_arrows : PySem.W.codeIn K cd_Map_arrows "Map.arrows" = true)
    (k_Map_arrows : PySem.W.keepIn K (.ref f_Map_arrows) = true)
    (m_Map__mul : PySem.W.findIn K (.ref C_Map) "__mul__" = some (some (.ref f_Map__mul)))
    (i_Map__mul : PySem.W.isFn K (.ref f_Map__mul) = true)
    (l_Map__mul : K.lookup f_Map__mul = some ⟨oc_Map__mul, od_Map__mul, .func (PySem.W.fnOf "__mul__" "Map.__mul__" (defArgs s_Map__mul) (defBody s_Map__mul) (defScope s_Map__mul) .none kV_Map__mul dc_Map__mul pm_Map__mul an_Map__mul cd_Map__mul ct_Map__mul), sl_Map__mul⟩)
    (c_Map__mul : PySem.W.codeIn K cd_Map__mul "Map.__mul__" = true)
    (k_Map__mul : PySem.W.keepIn K (.ref f_Map__mul) = true)
    (m_Map__invert : PySem.W.findIn K (.ref C_Map) "__invert__" = some (some (.ref f_Map__invert)))
    (i_Map__invert : PySem.W.isFn K (.ref f_Map__invert) = true)
    (l_Map__invert : K.lookup f_Map__invert = some ⟨oc_Map__invert, od_Map__invert, .func (PySem.W.fnOf "__invert__" "Map.__invert__" (defArgs s_Map__invert) (defBody s_Map__invert) (defScope s_Map__invert) .none kV_Map__invert dc_Map__invert pm_Map__invert an_Map__invert cd_Map__invert ct_Map__invert), sl_Map__invert⟩)
    (c_Map__invert : PySem.W.codeIn K cd_Map__invert "Map.__invert__" = true)
    (k_Map__invert : PySem.W.keepIn K (.ref f_Map__invert) = true)
    (m_Map__len : PySem.W.findIn K (.ref C_Map) "__len__" = some (some (.ref f_Map__len)))
    (i_Map__len : PySem.W.isFn K (.ref f_Map__len) = true)
    (l_Map__len : K.lookup f_Map__len = some ⟨oc_Map__len, od_Map__len, .func (PySem.W.fnOf "__len__" "Map.__len__" (defArgs s_Map__len) (defBody s_Map__len) (defScope s_Map__len) .none kV_Map__len dc_Map__len pm_Map__len an_Map__len cd_Map__len ct_Map__len), sl_Map__len⟩)
    (c_Map__len : PySem.W.codeIn K cd_Map__len "Map.__len__" = true)
    (k_Map__len : PySem.W.keepIn K (.ref f_Map__len) = true)
    (m_Map__call : PySem.W.findIn K (.ref C_Map) "__call__" = some (some (.ref f_Map__call)))
    (i_Map__call : PySem.W.isFn K (.ref f_Map__call) = true)
    (l_Map__call : K.lookup f_Map__call = some ⟨oc_Map__call, od_Map__call, .func (PySem.W.fnOf "__call__" "Map.__call__" (defArgs s_Map__call) (defBody s_Map__call) (defScope s_Map__call) .none kV_Map__call dc_Map__call pm_Map__call an_Map__call cd_Map__call ct_Map__call), sl_Map__call⟩)
    (c_Map__call : PySem.W.codeIn K cd_Map__call "Map.__call__" = true)
    (k_Map__call : PySem.W.keepIn K (.ref f_Map__call) = true)
    (fi_Map__call : PySem.W.fnIn K f_Map__call = true)
    (m_Map_is_source : PySem.W.findIn K (.ref C_Map) "is_source" = some (some (.ref f_Map_is_source)))
    (i_Map_is_source : PySem.W.isFn K (.ref f_Map_is_source) = true)
    (l_Map_is_source : K.lookup f_Map_is_source = some ⟨oc_Map_is_source, od_Map_is_source, .func (PySem.W.fnOf "is_source" "Map.is_source" (defArgs s_Map_is_source) (defBody s_Map_is_source) (defScope s_Map_is_source) .none kV_Map_is_source dc_Map_is_source pm_Map_is_source an_Map_is_source cd_Map_is_source ct_Map_is_source), sl_Map_is_source⟩)
    (c_Map_is_source : PySem.W.codeIn K cd_Map_is_source "Map.is_source" = true)
    (k_Map_is_source : PySem.W.keepIn K (.ref f_Map_is_source) = true)
    (a_InvalidMap : PySem.W.nsIn K mainGlobals "InvalidMap" = some (some (.ref C_InvalidMap)))
    (xl_InvalidMap : K.lookup C_InvalidMap = some (excClassObj nm_InvalidMap q_InvalidMap C_InvalidMap N_InvalidMap bs_InvalidMap [.type "ValueError", .type "Exception", .type "BaseException", .type "object"] true sn_InvalidMap sub_InvalidMap ab_InvalidMap col_InvalidMap dd_InvalidMap m0_InvalidMap m1_InvalidMap m2_InvalidMap m3_InvalidMap m5_InvalidMap "ValueError.__new__"))
    (sa_InvalidMap : PySem.W.findIn K (.ref C_InvalidMap) "__setattr__" = some (some (.builtin "object.__setattr__")))
    (ex_InvalidMap : PySem.W.subIn K (.ref C_InvalidMap) (.type "BaseException") = some true)
    (ty_InvalidMap : PySem.W.typeIn K (.ref C_InvalidMap) = some (.type "type"))
    (kc_InvalidMap : PySem.W.keepIn K (.ref C_InvalidMap) = true)
    (hd_InvalidMap : PySem.W.hasDictIn K C_InvalidMap = true)
    (ga_InvalidMap : PySem.W.findIn K (.ref C_InvalidMap) "__getattribute__" = some (some (.builtin "BaseException.__getattribute__")))
    (gg_InvalidMap : PySem.W.findIn K (.ref C_InvalidMap) "__getattr__" = some none)
    (ss_InvalidMap : PySem.W.subIn K (.ref C_InvalidMap) (.ref C_InvalidMap) = some true)
    (ca_InvalidMap : PySem.W.findIn K (.ref C_InvalidMap) "__class__" = some (some (.builtin "object.__class__")))
    (cn_InvalidMap : PySem.W.specialIn K (.builtin "object.__class__") "__get__" = some (some (.builtin "getset_descriptor.__get__")))
    (ct_InvalidMap : PySem.W.takesIn K (.builtin "object.__class__") = some true)
    (cm_InvalidMap : PySem.W.mroIn K C_InvalidMap (.type "object") = some true)
    (kit_ValueError_InvalidMap : PySem.W.kitOne K (.ref C_InvalidMap) (.type "ValueError") = some true)
    (na_part_InvalidMap : PySem.W.findIn K (.ref C_InvalidMap) "part" = some none)
    (m_InvalidMap__init : PySem.W.findIn K (.ref C_InvalidMap) "__init__" = some (some (.ref f_InvalidMap__init)))
    (ti_InvalidMap__init : PySem.W.typeIn K (.ref f_InvalidMap__init) = some (.type "function"))
    (l_InvalidMap__init : K.lookup f_InvalidMap__init = some ⟨oc_InvalidMap__init, od_InvalidMap__init, .func (PySem.W.fnOf "__init__" "InvalidMap.__init__" (defArgs s_InvalidMap__init) (defBody s_InvalidMap__init) (defScope s_InvalidMap__init) .none kV_InvalidMap__init dc_InvalidMap__init pm_InvalidMap__init an_InvalidMap__init cd_InvalidMap__init ct_InvalidMap__init), sl_InvalidMap__init⟩)
    (c_InvalidMap__init : PySem.W.codeIn K cd_InvalidMap__init "InvalidMap.__init__" = true)
    (k_InvalidMap__init : PySem.W.keepIn K (.ref f_InvalidMap__init) = true)
    (a_InvalidSize : PySem.W.nsIn K mainGlobals "InvalidSize" = some (some (.ref C_InvalidSize)))
    (xl_InvalidSize : K.lookup C_InvalidSize = some (excClassObj nm_InvalidSize q_InvalidSize C_InvalidSize N_InvalidSize bs_InvalidSize [.type "ValueError", .type "Exception", .type "BaseException", .type "object"] true sn_InvalidSize sub_InvalidSize ab_InvalidSize col_InvalidSize dd_InvalidSize m0_InvalidSize m1_InvalidSize m2_InvalidSize m3_InvalidSize m5_InvalidSize "ValueError.__new__"))
    (sa_InvalidSize : PySem.W.findIn K (.ref C_InvalidSize) "__setattr__" = some (some (.builtin "object.__setattr__")))
    (ex_InvalidSize : PySem.W.subIn K (.ref C_InvalidSize) (.type "BaseException") = some true)
    (ty_InvalidSize : PySem.W.typeIn K (.ref C_InvalidSize) = some (.type "type"))
    (kc_InvalidSize : PySem.W.keepIn K (.ref C_InvalidSize) = true)
    (hd_InvalidSize : PySem.W.hasDictIn K C_InvalidSize = true)
    (ga_InvalidSize : PySem.W.findIn K (.ref C_InvalidSize) "__getattribute__" = some (some (.builtin "BaseException.__getattribute__")))
    (gg_InvalidSize : PySem.W.findIn K (.ref C_InvalidSize) "__getattr__" = some none)
    (ss_InvalidSize : PySem.W.subIn K (.ref C_InvalidSize) (.ref C_InvalidSize) = some true)
    (ca_InvalidSize : PySem.W.findIn K (.ref C_InvalidSize) "__class__" = some (some (.builtin "object.__class__")))
    (cn_InvalidSize : PySem.W.specialIn K (.builtin "object.__class__") "__get__" = some (some (.builtin "getset_descriptor.__get__")))
    (ct_InvalidSize : PySem.W.takesIn K (.builtin "object.__class__") = some true)
    (cm_InvalidSize : PySem.W.mroIn K C_InvalidSize (.type "object") = some true)
    (kit_ValueError_InvalidSize : PySem.W.kitOne K (.ref C_InvalidSize) (.type "ValueError") = some true)
    (na_value_InvalidSize : PySem.W.findIn K (.ref C_InvalidSize) "value" = some none)
    (m_InvalidSize__init : PySem.W.findIn K (.ref C_InvalidSize) "__init__" = some (some (.ref f_InvalidSize__init)))
    (ti_InvalidSize__init : PySem.W.typeIn K (.ref f_InvalidSize__init) = some (.type "function"))
    (l_InvalidSize__init : K.lookup f_InvalidSize__init = some ⟨oc_InvalidSize__init, od_InvalidSize__init, .func (PySem.W.fnOf "__init__" "InvalidSize.__init__" (defArgs s_InvalidSize__init) (defBody s_InvalidSize__init) (defScope s_InvalidSize__init) .none kV_InvalidSize__init dc_InvalidSize__init pm_InvalidSize__init an_InvalidSize__init cd_InvalidSize__init ct_InvalidSize__init), sl_InvalidSize__init⟩)
    (c_InvalidSize__init : PySem.W.codeIn K cd_InvalidSize__init "InvalidSize.__init__" = true)
    (k_InvalidSize__init : PySem.W.keepIn K (.ref f_InvalidSize__init) = true)
    (a_InvalidShape : PySem.W.nsIn K mainGlobals "InvalidShape" = some (some (.ref C_InvalidShape)))
    (xl_InvalidShape : K.lookup C_InvalidShape = some (excClassObj nm_InvalidShape q_InvalidShape C_InvalidShape N_InvalidShape bs_InvalidShape [.type "ValueError", .type "Exception", .type "BaseException", .type "object"] true sn_InvalidShape sub_InvalidShape ab_InvalidShape col_InvalidShape dd_InvalidShape m0_InvalidShape m1_InvalidShape m2_InvalidShape m3_InvalidShape m5_InvalidShape "ValueError.__new__"))
    (sa_InvalidShape : PySem.W.findIn K (.ref C_InvalidShape) "__setattr__" = some (some (.builtin "object.__setattr__")))
    (ex_InvalidShape : PySem.W.subIn K (.ref C_InvalidShape) (.type "BaseException") = some true)
    (ty_InvalidShape : PySem.W.typeIn K (.ref C_InvalidShape) = some (.type "type"))
    (kc_InvalidShape : PySem.W.keepIn K (.ref C_InvalidShape) = true)
    (hd_InvalidShape : PySem.W.hasDictIn K C_InvalidShape = true)
    (ga_InvalidShape : PySem.W.findIn K (.ref C_InvalidShape) "__getattribute__" = some (some (.builtin "BaseException.__getattribute__")))
    (gg_InvalidShape : PySem.W.findIn K (.ref C_InvalidShape) "__getattr__" = some none)
    (ss_InvalidShape : PySem.W.subIn K (.ref C_InvalidShape) (.ref C_InvalidShape) = some true)
    (ca_InvalidShape : PySem.W.findIn K (.ref C_InvalidShape) "__class__" = some (some (.builtin "object.__class__")))
    (cn_InvalidShape : PySem.W.specialIn K (.builtin "object.__class__") "__get__" = some (some (.builtin "getset_descriptor.__get__")))
    (ct_InvalidShape : PySem.W.takesIn K (.builtin "object.__class__") = some true)
    (cm_InvalidShape : PySem.W.mroIn K C_InvalidShape (.type "object") = some true)
    (kit_ValueError_InvalidShape : PySem.W.kitOne K (.ref C_InvalidShape) (.type "ValueError") = some true)
    (na_part_InvalidShape : PySem.W.findIn K (.ref C_InvalidShape) "part" = some none)
    (m_InvalidShape__init : PySem.W.findIn K (.ref C_InvalidShape) "__init__" = some (some (.ref f_InvalidShape__init)))
    (ti_InvalidShape__init : PySem.W.typeIn K (.ref f_InvalidShape__init) = some (.type "function"))
    (l_InvalidShape__init : K.lookup f_InvalidShape__init = some ⟨oc_InvalidShape__init, od_InvalidShape__init, .func (PySem.W.fnOf "__init__" "InvalidShape.__init__" (defArgs s_InvalidShape__init) (defBody s_InvalidShape__init) (defScope s_InvalidShape__init) .none kV_InvalidShape__init dc_InvalidShape__init pm_InvalidShape__init an_InvalidShape__init cd_InvalidShape__init ct_InvalidShape__init), sl_InvalidShape__init⟩)
    (c_InvalidShape__init : PySem.W.codeIn K cd_InvalidShape__init "InvalidShape.__init__" = true)
    (k_InvalidShape__init : PySem.W.keepIn K (.ref f_InvalidShape__init) = true)
    (a_SizeMismatch : PySem.W.nsIn K mainGlobals "SizeMismatch" = some (some (.ref C_SizeMismatch)))
    (xl_SizeMismatch : K.lookup C_SizeMismatch = some (excClassObj nm_SizeMismatch q_SizeMismatch C_SizeMismatch N_SizeMismatch bs_SizeMismatch [.type "ValueError", .type "Exception", .type "BaseException", .type "object"] true sn_SizeMismatch sub_SizeMismatch ab_SizeMismatch col_SizeMismatch dd_SizeMismatch m0_SizeMismatch m1_SizeMismatch m2_SizeMismatch m3_SizeMismatch m5_SizeMismatch "ValueError.__new__"))
    (sa_SizeMismatch : PySem.W.findIn K (.ref C_SizeMismatch) "__setattr__" = some (some (.builtin "object.__setattr__")))
    (ex_SizeMismatch : PySem.W.subIn K (.ref C_SizeMismatch) (.type "BaseException") = some true)
    (ty_SizeMismatch : PySem.W.typeIn K (.ref C_SizeMismatch) = some (.type "type"))
    (kc_SizeMismatch : PySem.W.keepIn K (.ref C_SizeMismatch) = true)
    (hd_SizeMismatch : PySem.W.hasDictIn K C_SizeMismatch = true)
    (ga_SizeMismatch : PySem.W.findIn K (.ref C_SizeMismatch) "__getattribute__" = some (some (.builtin "BaseException.__getattribute__")))
    (gg_SizeMismatch : PySem.W.findIn K (.ref C_SizeMismatch) "__getattr__" = some none)
    (ss_SizeMismatch : PySem.W.subIn K (.ref C_SizeMismatch) (.ref C_SizeMismatch) = some true)
    (ca_SizeMismatch : PySem.W.findIn K (.ref C_SizeMismatch) "__class__" = some (some (.builtin "object.__class__")))
    (cn_SizeMismatch : PySem.W.specialIn K (.builtin "object.__class__") "__get__" = some (some (.builtin "getset_descriptor.__get__")))
    (ct_SizeMismatch : PySem.W.takesIn K (.builtin "object.__class__") = some true)
    (cm_SizeMismatch : PySem.W.mroIn K C_SizeMismatch (.type "object") = some true)
    (kit_ValueError_SizeMismatch : PySem.W.kitOne K (.ref C_SizeMismatch) (.type "ValueError") = some true)
    (na_first_SizeMismatch : PySem.W.findIn K (.ref C_SizeMismatch) "first" = some none)
    (na_second_SizeMismatch : PySem.W.findIn K (.ref C_SizeMismatch) "second" = some none)
    (m_SizeMismatch__init : PySem.W.findIn K (.ref C_SizeMismatch) "__init__" = some (some (.ref f_SizeMismatch__init)))
    (ti_SizeMismatch__init : PySem.W.typeIn K (.ref f_SizeMismatch__init) = some (.type "function"))
    (l_SizeMismatch__init : K.lookup f_SizeMismatch__init = some ⟨oc_SizeMismatch__init, od_SizeMismatch__init, .func (PySem.W.fnOf "__init__" "SizeMismatch.__init__" (defArgs s_SizeMismatch__init) (defBody s_SizeMismatch__init) (defScope s_SizeMismatch__init) .none kV_SizeMismatch__init dc_SizeMismatch__init pm_SizeMismatch__init an_SizeMismatch__init cd_SizeMismatch__init ct_SizeMismatch__init), sl_SizeMismatch__init⟩)
    (c_SizeMismatch__init : PySem.W.codeIn K cd_SizeMismatch__init "SizeMismatch.__init__" = true)
    (k_SizeMismatch__init : PySem.W.keepIn K (.ref f_SizeMismatch__init) = true)
    (z_isinstance : PySem.W.nsIn K mainGlobals "isinstance" = some none)
    (z_int : PySem.W.nsIn K mainGlobals "int" = some none)
    (z_bool : PySem.W.nsIn K mainGlobals "bool" = some none)
    (z_dict : PySem.W.nsIn K mainGlobals "dict" = some none)
    (z_len : PySem.W.nsIn K mainGlobals "len" = some none)
    (z_range : PySem.W.nsIn K mainGlobals "range" = some none)
    (z_list : PySem.W.nsIn K mainGlobals "list" = some none)
    (z_tuple : PySem.W.nsIn K mainGlobals "tuple" = some none)
    (z_max : PySem.W.nsIn K mainGlobals "max" = some none)
    (z_min : PySem.W.nsIn K mainGlobals "min" = some none)
    (z_all : PySem.W.nsIn K mainGlobals "all" = some none)
    (z_sorted : PySem.W.nsIn K mainGlobals "sorted" = some none)
    (z_abs : PySem.W.nsIn K mainGlobals "abs" = some none)
    (z_enumerate : PySem.W.nsIn K mainGlobals "enumerate" = some none)
    (z_repr : PySem.W.nsIn K mainGlobals "repr" = some none)
    (z_zip : PySem.W.nsIn K mainGlobals "zip" = some none)
    (v_MAX_SIZE : PySem.W.nsIn K mainGlobals "MAX_SIZE" = some (some (.int 300 t_MAX_SIZE)))
    (kit_x_Shape_Map : PySem.W.kitOne K (.ref C_Map) (.ref C_Shape) = some false) :
    Nonempty (Txt K mg) := ⟨{
    f_is_integer := f_is_integer,
    A_is_integer := ⟨_, fun_mk (st := s_is_integer) l_is_integer c_is_integer k_is_integer, (fun_mk (st := s_is_integer) l_is_integer c_is_integer k_is_integer).binds (ps := ["value"]) fun _ _ _ _ _ _ us hl => match us, hl with | [_], _ => rfl⟩,
    g_is_integer := PySem.W.mg_of X G a_is_integer,
    f_in_range := f_in_range,
    A_in_range := ⟨_, fun_mk (st := s_in_range) l_in_range c_in_range k_in_range, (fun_mk (st := s_in_range) l_in_range c_in_range k_in_range).binds (ps := ["value", "least", "most"]) fun _ _ _ _ _ _ us hl => match us, hl with | [_, _, _], _ => rfl⟩,
    g_in_range := PySem.W.mg_of X G a_in_range,
    f_check_size := f_check_size,
    A_check_size := ⟨_, fun_mk (st := s_check_size) l_check_size c_check_size k_check_size, (fun_mk (st := s_check_size) l_check_size c_check_size k_check_size).binds (ps := ["size"]) fun _ _ _ _ _ _ us hl => match us, hl with | [_], _ => rfl⟩,
    g_check_size := PySem.W.mg_of X G a_check_size,
    f_are_arrows := f_are_arrows,
    A_are_arrows := ⟨_, fun_mk (st := s_are_arrows) l_are_arrows c_are_arrows k_are_arrows, (fun_mk (st := s_are_arrows) l_are_arrows c_are_arrows k_are_arrows).binds (ps := ["size", "arrows"]) fun _ _ _ _ _ _ us hl => match us, hl with | [_, _], _ => rfl⟩,
    g_are_arrows := PySem.W.mg_of X G a_are_arrows,
    f_common_size := f_common_size,
    A_common_size := ⟨_, fun_mk (st := s_common_size) l_common_size c_common_size k_common_size, (fun_mk (st := s_common_size) l_common_size c_common_size k_common_size).binds (ps := ["one", "other"]) fun _ _ _ _ _ _ us hl => match us, hl with | [_, _], _ => rfl⟩,
    g_common_size := PySem.W.mg_of X G a_common_size,
    f_row_from := f_row_from,
    A_row_from := ⟨_, fun_mk (st := s_row_from) l_row_from c_row_from k_row_from, (fun_mk (st := s_row_from) l_row_from c_row_from k_row_from).binds (ps := ["arrows", "element"]) fun _ _ _ _ _ _ us hl => match us, hl with | [_, _], _ => rfl⟩,
    g_row_from := PySem.W.mg_of X G a_row_from,
    f_check_map := f_check_map,
    A_check_map := ⟨_, fun_mk (st := s_check_map) l_check_map c_check_map k_check_map, (fun_mk (st := s_check_map) l_check_map c_check_map k_check_map).binds (ps := ["value"]) fun _ _ _ _ _ _ us hl => match us, hl with | [_], _ => rfl⟩,
    g_check_map := PySem.W.mg_of X G a_check_map,
    f_parts_of := f_parts_of,
    A_parts_of := ⟨_, fun_mk (st := s_parts_of) l_parts_of c_parts_of k_parts_of, (fun_mk (st := s_parts_of) l_parts_of c_parts_of k_parts_of).binds (ps := ["given"]) fun _ _ _ _ _ _ us hl => match us, hl with | [_], _ => rfl⟩,
    g_parts_of := PySem.W.mg_of X G a_parts_of,
    f_are_counts := f_are_counts,
    A_are_counts := ⟨_, fun_mk (st := s_are_counts) l_are_counts c_are_counts k_are_counts, (fun_mk (st := s_are_counts) l_are_counts c_are_counts k_are_counts).binds (ps := ["value"]) fun _ _ _ _ _ _ us hl => match us, hl with | [_], _ => rfl⟩,
    g_are_counts := PySem.W.mg_of X G a_are_counts,
    f_ordered := f_ordered,
    A_ordered := ⟨_, fun_mk (st := s_ordered) l_ordered c_ordered k_ordered, (fun_mk (st := s_ordered) l_ordered c_ordered k_ordered).binds (ps := ["counts"]) fun _ _ _ _ _ _ us hl => match us, hl with | [_], _ => rfl⟩,
    g_ordered := PySem.W.mg_of X G a_ordered,
    f_counts_of := f_counts_of,
    A_counts_of := ⟨_, fun_mk (st := s_counts_of) l_counts_of c_counts_of k_counts_of, (fun_mk (st := s_counts_of) l_counts_of c_counts_of k_counts_of).binds (ps := ["parts"]) fun _ _ _ _ _ _ us hl => match us, hl with | [_], _ => rfl⟩,
    g_counts_of := PySem.W.mg_of X G a_counts_of,
    f_shape_of := f_shape_of,
    A_shape_of := ⟨_, fun_mk (st := s_shape_of) l_shape_of c_shape_of k_shape_of, (fun_mk (st := s_shape_of) l_shape_of c_shape_of k_shape_of).binds (ps := ["given"]) fun _ _ _ _ _ _ us hl => match us, hl with | [_], _ => rfl⟩,
    g_shape_of := PySem.W.mg_of X G a_shape_of,
    f_factorial := f_factorial,
    A_factorial := ⟨_, fun_mk (st := s_factorial) l_factorial c_factorial k_factorial, (fun_mk (st := s_factorial) l_factorial c_factorial k_factorial).binds (ps := ["number"]) fun _ _ _ _ _ _ us hl => match us, hl with | [_], _ => rfl⟩,
    g_factorial := PySem.W.mg_of X G a_factorial,
    f_power_of := f_power_of,
    A_power_of := ⟨_, fun_mk (st := s_power_of) l_power_of c_power_of k_power_of, (fun_mk (st := s_power_of) l_power_of c_power_of k_power_of).binds (ps := ["base", "exponent"]) fun _ _ _ _ _ _ us hl => match us, hl with | [_, _], _ => rfl⟩,
    g_power_of := PySem.W.mg_of X G a_power_of,
    f_are_alike := f_are_alike,
    A_are_alike := ⟨_, fun_mk (st := s_are_alike) l_are_alike c_are_alike k_are_alike, (fun_mk (st := s_are_alike) l_are_alike c_are_alike k_are_alike).binds (ps := ["one", "other"]) fun _ _ _ _ _ _ us hl => match us, hl with | [_, _], _ => rfl⟩,
    g_are_alike := PySem.W.mg_of X G a_are_alike,
    f_by_length := f_by_length,
    A_by_length := ⟨_, fun_mk (st := s_by_length) l_by_length c_by_length k_by_length, (fun_mk (st := s_by_length) l_by_length c_by_length k_by_length).binds (ps := ["parts"]) fun _ _ _ _ _ _ us hl => match us, hl with | [_], _ => rfl⟩,
    g_by_length := PySem.W.mg_of X G a_by_length,
    f_renaming := f_renaming,
    A_renaming := ⟨_, fun_mk (st := s_renaming) l_renaming c_renaming k_renaming, (fun_mk (st := s_renaming) l_renaming c_renaming k_renaming).binds (ps := ["one", "other"]) fun _ _ _ _ _ _ us hl => match us, hl with | [_, _], _ => rfl⟩,
    g_renaming := PySem.W.mg_of X G a_renaming,
    f_count_symmetries := f_count_symmetries,
    A_count_symmetries := ⟨_, fun_mk (st := s_count_symmetries) l_count_symmetries c_count_symmetries k_count_symmetries, (fun_mk (st := s_count_symmetries) l_count_symmetries c_count_symmetries k_count_symmetries).binds (ps := ["shape"]) fun _ _ _ _ _ _ us hl => match us, hl with | [_], _ => rfl⟩,
    g_count_symmetries := PySem.W.mg_of X G a_count_symmetries,
    f_count_renamings := f_count_renamings,
    A_count_renamings := ⟨_, fun_mk (st := s_count_renamings) l_count_renamings c_count_renamings k_count_renamings, (fun_mk (st := s_count_renamings) l_count_renamings c_count_renamings k_count_renamings).binds (ps := ["one", "other"]) fun _ _ _ _ _ _ us hl => match us, hl with | [_, _], _ => rfl⟩,
    g_count_renamings := PySem.W.mg_of X G a_count_renamings,
    f_is_renaming := f_is_renaming,
    A_is_renaming := ⟨_, fun_mk (st := s_is_renaming) l_is_renaming c_is_renaming k_is_renaming, (fun_mk (st := s_is_renaming) l_is_renaming c_is_renaming k_is_renaming).binds (ps := ["one", "other", "value"]) fun _ _ _ _ _ _ us hl => match us, hl with | [_, _, _], _ => rfl⟩,
    g_is_renaming := PySem.W.mg_of X G a_is_renaming,
    f_l_hand := f_l_hand,
    A_l_hand := ⟨_, fun_mk (st := s_l_hand) l_l_hand c_l_hand k_l_hand, (fun_mk (st := s_l_hand) l_l_hand c_l_hand k_l_hand).binds (ps := ["_law_script", "_law_k"]) fun _ _ _ _ _ _ us hl => match us, hl with | [_, _], _ => rfl⟩,
    g_l_hand := PySem.W.mg_of X G a_l_hand,
    f_l_draw := f_l_draw,
    A_l_draw := ⟨_, fun_mk (st := s_l_draw) l_l_draw c_l_draw k_l_draw, (fun_mk (st := s_l_draw) l_l_draw c_l_draw k_l_draw).binds (ps := ["_law_pool", "_law_size"]) fun _ _ _ _ _ _ us hl => match us, hl with | [_, _], _ => rfl⟩,
    g_l_draw := PySem.W.mg_of X G a_l_draw,
    f_l_arrows := f_l_arrows,
    A_l_arrows := ⟨_, fun_mk (st := s_l_arrows) l_l_arrows c_l_arrows k_l_arrows, (fun_mk (st := s_l_arrows) l_l_arrows c_l_arrows k_l_arrows).binds (ps := ["_law_pool", "_law_size", "_law_way"]) fun _ _ _ _ _ _ us hl => match us, hl with | [_, _, _], _ => rfl⟩,
    g_l_arrows := PySem.W.mg_of X G a_l_arrows,
    f_l_back := f_l_back,
    A_l_back := ⟨_, fun_mk (st := s_l_back) l_l_back c_l_back k_l_back, (fun_mk (st := s_l_back) l_l_back c_l_back k_l_back).binds (ps := ["_law_arrows_here"]) fun _ _ _ _ _ _ us hl => match us, hl with | [_], _ => rfl⟩,
    g_l_back := PySem.W.mg_of X G a_l_back,
    f_l_orders := f_l_orders,
    A_l_orders := ⟨_, fun_mk (st := s_l_orders) l_l_orders c_l_orders k_l_orders, (fun_mk (st := s_l_orders) l_l_orders c_l_orders k_l_orders).binds (ps := ["_law_size"]) fun _ _ _ _ _ _ us hl => match us, hl with | [_], _ => rfl⟩,
    g_l_orders := PySem.W.mg_of X G a_l_orders,
    f_l_renamed := f_l_renamed,
    A_l_renamed := ⟨_, fun_mk (st := s_l_renamed) l_l_renamed c_l_renamed k_l_renamed, (fun_mk (st := s_l_renamed) l_l_renamed c_l_renamed k_l_renamed).binds (ps := ["_law_arrows_here", "_law_row"]) fun _ _ _ _ _ _ us hl => match us, hl with | [_, _], _ => rfl⟩,
    g_l_renamed := PySem.W.mg_of X G a_l_renamed,
    f_l_pair := f_l_pair,
    A_l_pair := ⟨_, fun_mk (st := s_l_pair) l_l_pair c_l_pair k_l_pair, (fun_mk (st := s_l_pair) l_l_pair c_l_pair k_l_pair).binds (ps := ["_law_one", "_law_other", "_law_size", "_law_orders_here"]) fun _ _ _ _ _ _ us hl => match us, hl with | [_, _, _, _], _ => rfl⟩,
    g_l_pair := PySem.W.mg_of X G a_l_pair,
    f_l_bad := f_l_bad,
    A_l_bad := ⟨_, fun_mk (st := s_l_bad) l_l_bad c_l_bad k_l_bad, (fun_mk (st := s_l_bad) l_l_bad c_l_bad k_l_bad).binds (ps := ["_law_one", "_law_odd"]) fun _ _ _ _ _ _ us hl => match us, hl with | [_, _], _ => rfl⟩,
    g_l_bad := PySem.W.mg_of X G a_l_bad,
    f_law := f_law,
    A_law := ⟨_, fun_mk (st := s_law) l_law c_law k_law, (fun_mk (st := s_law) l_law c_law k_law).binds (ps := ["_law_script"]) fun _ _ _ _ _ _ us hl => match us, hl with | [_], _ => rfl⟩,
    L_law := ⟨_, fun_mk (st := s_law) l_law c_law k_law, fun s v => .of_eq rfl⟩,
    g_law := PySem.W.mg_of X G a_law,
    C_Shape := C_Shape,
    g_Shape := PySem.W.mg_of X G a_Shape,
    o_Shape := ⟨⟨pg_Shape, hd_Shape, po_Shape, sa_Shape⟩, sf_Shape, ca_Shape, cn_Shape, ct_Shape, cm_Shape⟩,
    kit_int_Shape := kit_int_Shape,
    kit_bool_Shape := kit_bool_Shape,
    kn_NoneType_Shape := kn_NoneType_Shape,
    nf_NoneType_Shape := nf_NoneType_Shape,
    kn_int_Shape := kn_int_Shape,
    nf_int_Shape := nf_int_Shape,
    kn_bool_Shape := kn_bool_Shape,
    nf_bool_Shape := nf_bool_Shape,
    kn_str_Shape := kn_str_Shape,
    nf_str_Shape := nf_str_Shape,
    kn_list_Shape := kn_list_Shape,
    nf_list_Shape := nf_list_Shape,
    kn_dict_Shape := kn_dict_Shape,
    nf_dict_Shape := nf_dict_Shape,
    kn_tuple_Shape := kn_tuple_Shape,
    nf_tuple_Shape := nf_tuple_Shape,
    self_Shape := self_Shape,
    na_own_cycles_Shape := na_own_cycles_Shape,
    na_own_chains_Shape := na_own_chains_Shape,
    f_Shape__eq := f_Shape__eq,
    A_Shape__eq := ⟨_, fun_mk (st := s_Shape__eq) l_Shape__eq c_Shape__eq k_Shape__eq, (fun_mk (st := s_Shape__eq) l_Shape__eq c_Shape__eq k_Shape__eq).binds (ps := ["self", "other"]) fun _ _ _ _ _ _ us hl => match us, hl with | [_, _], _ => rfl⟩,
    m_Shape__eq := m_Shape__eq,
    i_Shape__eq := i_Shape__eq,
    f_Shape__init := f_Shape__init,
    A_Shape__init := ⟨_, fun_mk (st := s_Shape__init) l_Shape__init c_Shape__init k_Shape__init, (fun_mk (st := s_Shape__init) l_Shape__init c_Shape__init k_Shape__init).binds (ps := ["self", "cycles", "chains"]) fun _ _ _ _ _ _ us hl => match us, hl with | [_, _, _], _ => rfl⟩,
    m_Shape__init := m_Shape__init,
    i_Shape__init := i_Shape__init,
    M_Shape := ⟨mk_Shape, m_Shape__init, i_Shape__init, kc_Shape⟩,
    p_Shape_cycles := p_Shape_cycles,
    f_Shape_cycles := f_Shape_cycles,
    A_Shape_cycles := ⟨_, fun_mk (st := s_Shape_cycles) l_Shape_cycles c_Shape_cycles k_Shape_cycles, (fun_mk (st := s_Shape_cycles) l_Shape_cycles c_Shape_cycles k_Shape_cycles).binds (ps := ["self"]) fun _ _ _ _ _ _ us hl => match us, hl with | [_], _ => rfl⟩,
    P_Shape_cycles := ⟨m_Shape_cycles, s_get_Shape_cycles, tk_Shape_cycles, _, rc_Shape_cycles⟩,
    p_Shape_chains := p_Shape_chains,
    f_Shape_chains := f_Shape_chains,
    A_Shape_chains := ⟨_, fun_mk (st := s_Shape_chains) l_Shape_chains c_Shape_chains k_Shape_chains, (fun_mk (st := s_Shape_chains) l_Shape_chains c_Shape_chains k_Shape_chains).binds (ps := ["self"]) fun _ _ _ _ _ _ us hl => match us, hl with | [_], _ => rfl⟩,
    P_Shape_chains := ⟨m_Shape_chains, s_get_Shape_chains, tk_Shape_chains, _, rc_Shape_chains⟩,
    C_Map := C_Map,
    g_Map := PySem.W.mg_of X G a_Map,
    o_Map := ⟨⟨pg_Map, hd_Map, po_Map, sa_Map⟩, sf_Map, ca_Map, cn_Map, ct_Map, cm_Map⟩,
    kit_int_Map := kit_int_Map,
    kit_bool_Map := kit_bool_Map,
    kit_tuple_Map := kit_tuple_Map,
    kn_NoneType_Map := kn_NoneType_Map,
    nf_NoneType_Map := nf_NoneType_Map,
    kn_int_Map := kn_int_Map,
    nf_int_Map := nf_int_Map,
    kn_bool_Map := kn_bool_Map,
    nf_bool_Map := nf_bool_Map,
    kn_str_Map := kn_str_Map,
    nf_str_Map := nf_str_Map,
    kn_list_Map := kn_list_Map,
    nf_list_Map := nf_list_Map,
    kn_dict_Map := kn_dict_Map,
    nf_dict_Map := nf_dict_Map,
    kn_tuple_Map := kn_tuple_Map,
    nf_tuple_Map := nf_tuple_Map,
    kx_Map_Shape := kit_x_Shape_Map,
    self_Map := self_Map,
    na_own_size_Map := na_own_size_Map,
    na_own_arrows_Map := na_own_arrows_Map,
    ne_Map := ne_Map,
    f_Map__eq := f_Map__eq,
    A_Map__eq := ⟨_, fun_mk (st := s_Map__eq) l_Map__eq c_Map__eq k_Map__eq, (fun_mk (st := s_Map__eq) l_Map__eq c_Map__eq k_Map__eq).binds (ps := ["self", "other"]) fun _ _ _ _ _ _ us hl => match us, hl with | [_, _], _ => rfl⟩,
    m_Map__eq := m_Map__eq,
    i_Map__eq := i_Map__eq,
    f_Map__init := f_Map__init,
    A_Map__init := ⟨_, fun_mk (st := s_Map__init) l_Map__init c_Map__init k_Map__init, (fun_mk (st := s_Map__init) l_Map__init c_Map__init k_Map__init).binds (ps := ["self", "size", "arrows"]) fun _ _ _ _ _ _ us hl => match us, hl with | [_, _, _], _ => rfl⟩,
    m_Map__init := m_Map__init,
    i_Map__init := i_Map__init,
    M_Map := ⟨mk_Map, m_Map__init, i_Map__init, kc_Map⟩,
    R_Map := ⟨rd_Map, ga_Map⟩,
    p_Map_identity := p_Map_identity,
    f_Map_identity := f_Map_identity,
    A_Map_identity := ⟨_, fun_mk (st := s_Map_identity) l_Map_identity c_Map_identity k_Map_identity, (fun_mk (st := s_Map_identity) l_Map_identity c_Map_identity k_Map_identity).binds (ps := ["cls", "size"]) fun _ _ _ _ _ _ us hl => match us, hl with | [_, _], _ => rfl⟩,
    cm_Map_identity := ⟨at_Map_identity, ⟨_, rc_Map_identity⟩, fi_Map_identity⟩,
    p_Map_size := p_Map_size,
    f_Map_size := f_Map_size,
    A_Map_size := ⟨_, fun_mk (st := s_Map_size) l_Map_size c_Map_size k_Map_size, (fun_mk (st := s_Map_size) l_Map_size c_Map_size k_Map_size).binds (ps := ["self"]) fun _ _ _ _ _ _ us hl => match us, hl with | [_], _ => rfl⟩,
    P_Map_size := ⟨m_Map_size, s_get_Map_size, tk_Map_size, _, rc_Map_size⟩,
    p_Map_arrows := p_Map_arrows,
    f_Map_arrows := f_Map_arrows,
    A_Map_arrows := ⟨_, fun_mk (st := s_Map_arrows) l_Map_arrows c_Map_arrows k_Map_arrows, (fun_mk (st := s_Map_arrows) l_Map_arrows c_Map_arrows k_Map_arrows).binds (ps := ["self"]) fun _ _ _ _ _ _ us hl => match us, hl with | [_], _ => rfl⟩,
    P_Map_arrows := ⟨m_Map_arrows, s_get_Map_arrows, tk_Map_arrows, _, rc_Map_arrows⟩,
    f_Map__mul := f_Map__mul,
    A_Map__mul := ⟨_, fun_mk (st := s_Map__mul) l_Map__mul c_Map__mul k_Map__mul, (fun_mk (st := s_Map__mul) l_Map__mul c_Map__mul k_Map__mul).binds (ps := ["self", "other"]) fun _ _ _ _ _ _ us hl => match us, hl with | [_, _], _ => rfl⟩,
    m_Map__mul := m_Map__mul,
    i_Map__mul := i_Map__mul,
    f_Map__invert := f_Map__invert,
    A_Map__invert := ⟨_, fun_mk (st := s_Map__invert) l_Map__invert c_Map__invert k_Map__invert, (fun_mk (st := s_Map__invert) l_Map__invert c_Map__invert k_Map__invert).binds (ps := ["self"]) fun _ _ _ _ _ _ us hl => match us, hl with | [_], _ => rfl⟩,
    m_Map__invert := m_Map__invert,
    i_Map__invert := i_Map__invert,
    f_Map__len := f_Map__len,
    A_Map__len := ⟨_, fun_mk (st := s_Map__len) l_Map__len c_Map__len k_Map__len, (fun_mk (st := s_Map__len) l_Map__len c_Map__len k_Map__len).binds (ps := ["self"]) fun _ _ _ _ _ _ us hl => match us, hl with | [_], _ => rfl⟩,
    m_Map__len := m_Map__len,
    i_Map__len := i_Map__len,
    f_Map__call := f_Map__call,
    A_Map__call := ⟨_, fun_mk (st := s_Map__call) l_Map__call c_Map__call k_Map__call, (fun_mk (st := s_Map__call) l_Map__call c_Map__call k_Map__call).binds (ps := ["self", "element"]) fun _ _ _ _ _ _ us hl => match us, hl with | [_, _], _ => rfl⟩,
    m_Map__call := m_Map__call,
    i_Map__call := i_Map__call,
    fi_Map__call := fi_Map__call,
    f_Map_is_source := f_Map_is_source,
    A_Map_is_source := ⟨_, fun_mk (st := s_Map_is_source) l_Map_is_source c_Map_is_source k_Map_is_source, (fun_mk (st := s_Map_is_source) l_Map_is_source c_Map_is_source k_Map_is_source).binds (ps := ["self", "value"]) fun _ _ _ _ _ _ us hl => match us, hl with | [_, _], _ => rfl⟩,
    m_Map_is_source := m_Map_is_source,
    i_Map_is_source := i_Map_is_source,
    meth_Map_is_source := ⟨m_Map_is_source, i_Map_is_source, k_Map_is_source⟩,
    C_InvalidMap := C_InvalidMap,
    g_InvalidMap := PySem.W.mg_of X G a_InvalidMap,
    x_InvalidMap := ⟨⟨"ValueError", _, _, _, _, _, _, _, _, _, _, _, _, _, _, _, _, _, _, PySem.F.store_ValueError, PySem.F.excBase_ValueError, xl_InvalidMap, by decide +kernel⟩, sa_InvalidMap, ex_InvalidMap, ty_InvalidMap, kc_InvalidMap⟩,
    xf_InvalidMap := ⟨ga_InvalidMap, gg_InvalidMap, ex_InvalidMap, hd_InvalidMap⟩,
    xe_InvalidMap := ⟨ga_InvalidMap, gg_InvalidMap, ex_InvalidMap, hd_InvalidMap, ca_InvalidMap, cn_InvalidMap, ct_InvalidMap, cm_InvalidMap⟩,
    te_InvalidMap := PySem.W.exm_ref ex_InvalidMap hd_InvalidMap ty_InvalidMap ss_InvalidMap,
    kit_ValueError_InvalidMap := kit_ValueError_InvalidMap,
    na_part_InvalidMap := na_part_InvalidMap,
    f_InvalidMap__init := f_InvalidMap__init,
    A_InvalidMap__init := ⟨_, fun_mk (st := s_InvalidMap__init) l_InvalidMap__init c_InvalidMap__init k_InvalidMap__init, (fun_mk (st := s_InvalidMap__init) l_InvalidMap__init c_InvalidMap__init k_InvalidMap__init).binds (ps := ["self", "part"]) fun _ _ _ _ _ _ us hl => match us, hl with | [_, _], _ => rfl⟩,
    m_InvalidMap__init := m_InvalidMap__init,
    ti_InvalidMap__init := ti_InvalidMap__init,
    C_InvalidSize := C_InvalidSize,
    g_InvalidSize := PySem.W.mg_of X G a_InvalidSize,
    x_InvalidSize := ⟨⟨"ValueError", _, _, _, _, _, _, _, _, _, _, _, _, _, _, _, _, _, _, PySem.F.store_ValueError, PySem.F.excBase_ValueError, xl_InvalidSize, by decide +kernel⟩, sa_InvalidSize, ex_InvalidSize, ty_InvalidSize, kc_InvalidSize⟩,
    xf_InvalidSize := ⟨ga_InvalidSize, gg_InvalidSize, ex_InvalidSize, hd_InvalidSize⟩,
    xe_InvalidSize := ⟨ga_InvalidSize, gg_InvalidSize, ex_InvalidSize, hd_InvalidSize, ca_InvalidSize, cn_InvalidSize, ct_InvalidSize, cm_InvalidSize⟩,
    te_InvalidSize := PySem.W.exm_ref ex_InvalidSize hd_InvalidSize ty_InvalidSize ss_InvalidSize,
    kit_ValueError_InvalidSize := kit_ValueError_InvalidSize,
    na_value_InvalidSize := na_value_InvalidSize,
    f_InvalidSize__init := f_InvalidSize__init,
    A_InvalidSize__init := ⟨_, fun_mk (st := s_InvalidSize__init) l_InvalidSize__init c_InvalidSize__init k_InvalidSize__init, (fun_mk (st := s_InvalidSize__init) l_InvalidSize__init c_InvalidSize__init k_InvalidSize__init).binds (ps := ["self", "value"]) fun _ _ _ _ _ _ us hl => match us, hl with | [_, _], _ => rfl⟩,
    m_InvalidSize__init := m_InvalidSize__init,
    ti_InvalidSize__init := ti_InvalidSize__init,
    C_InvalidShape := C_InvalidShape,
    g_InvalidShape := PySem.W.mg_of X G a_InvalidShape,
    x_InvalidShape := ⟨⟨"ValueError", _, _, _, _, _, _, _, _, _, _, _, _, _, _, _, _, _, _, PySem.F.store_ValueError, PySem.F.excBase_ValueError, xl_InvalidShape, by decide +kernel⟩, sa_InvalidShape, ex_InvalidShape, ty_InvalidShape, kc_InvalidShape⟩,
    xf_InvalidShape := ⟨ga_InvalidShape, gg_InvalidShape, ex_InvalidShape, hd_InvalidShape⟩,
    xe_InvalidShape := ⟨ga_InvalidShape, gg_InvalidShape, ex_InvalidShape, hd_InvalidShape, ca_InvalidShape, cn_InvalidShape, ct_InvalidShape, cm_InvalidShape⟩,
    te_InvalidShape := PySem.W.exm_ref ex_InvalidShape hd_InvalidShape ty_InvalidShape ss_InvalidShape,
    kit_ValueError_InvalidShape := kit_ValueError_InvalidShape,
    na_part_InvalidShape := na_part_InvalidShape,
    f_InvalidShape__init := f_InvalidShape__init,
    A_InvalidShape__init := ⟨_, fun_mk (st := s_InvalidShape__init) l_InvalidShape__init c_InvalidShape__init k_InvalidShape__init, (fun_mk (st := s_InvalidShape__init) l_InvalidShape__init c_InvalidShape__init k_InvalidShape__init).binds (ps := ["self", "part"]) fun _ _ _ _ _ _ us hl => match us, hl with | [_, _], _ => rfl⟩,
    m_InvalidShape__init := m_InvalidShape__init,
    ti_InvalidShape__init := ti_InvalidShape__init,
    C_SizeMismatch := C_SizeMismatch,
    g_SizeMismatch := PySem.W.mg_of X G a_SizeMismatch,
    x_SizeMismatch := ⟨⟨"ValueError", _, _, _, _, _, _, _, _, _, _, _, _, _, _, _, _, _, _, PySem.F.store_ValueError, PySem.F.excBase_ValueError, xl_SizeMismatch, by decide +kernel⟩, sa_SizeMismatch, ex_SizeMismatch, ty_SizeMismatch, kc_SizeMismatch⟩,
    xf_SizeMismatch := ⟨ga_SizeMismatch, gg_SizeMismatch, ex_SizeMismatch, hd_SizeMismatch⟩,
    xe_SizeMismatch := ⟨ga_SizeMismatch, gg_SizeMismatch, ex_SizeMismatch, hd_SizeMismatch, ca_SizeMismatch, cn_SizeMismatch, ct_SizeMismatch, cm_SizeMismatch⟩,
    te_SizeMismatch := PySem.W.exm_ref ex_SizeMismatch hd_SizeMismatch ty_SizeMismatch ss_SizeMismatch,
    kit_ValueError_SizeMismatch := kit_ValueError_SizeMismatch,
    na_first_SizeMismatch := na_first_SizeMismatch,
    na_second_SizeMismatch := na_second_SizeMismatch,
    f_SizeMismatch__init := f_SizeMismatch__init,
    A_SizeMismatch__init := ⟨_, fun_mk (st := s_SizeMismatch__init) l_SizeMismatch__init c_SizeMismatch__init k_SizeMismatch__init, (fun_mk (st := s_SizeMismatch__init) l_SizeMismatch__init c_SizeMismatch__init k_SizeMismatch__init).binds (ps := ["self", "first", "second"]) fun _ _ _ _ _ _ us hl => match us, hl with | [_, _, _], _ => rfl⟩,
    m_SizeMismatch__init := m_SizeMismatch__init,
    ti_SizeMismatch__init := ti_SizeMismatch__init,
    n_isinstance := PySem.W.mg_none_of X G z_isinstance,
    n_int := PySem.W.mg_none_of X G z_int,
    n_bool := PySem.W.mg_none_of X G z_bool,
    n_dict := PySem.W.mg_none_of X G z_dict,
    n_len := PySem.W.mg_none_of X G z_len,
    n_range := PySem.W.mg_none_of X G z_range,
    n_list := PySem.W.mg_none_of X G z_list,
    n_tuple := PySem.W.mg_none_of X G z_tuple,
    n_max := PySem.W.mg_none_of X G z_max,
    n_min := PySem.W.mg_none_of X G z_min,
    n_all := PySem.W.mg_none_of X G z_all,
    n_sorted := PySem.W.mg_none_of X G z_sorted,
    n_abs := PySem.W.mg_none_of X G z_abs,
    n_enumerate := PySem.W.mg_none_of X G z_enumerate,
    n_repr := PySem.W.mg_none_of X G z_repr,
    n_zip := PySem.W.mg_none_of X G z_zip,
    v_MAX_SIZE := ⟨_, PySem.W.mg_of X G v_MAX_SIZE⟩ }⟩
end My
namespace My
open PySem L2 U StX
/-! ### values of any known form -/
def knownV (C : Addr) (H : Hp) : V → Prop
  | .non => True | .bl _ => True | .int _ => True | .str _ => True
  | .ref a => (∃ xs, H a = some (.lst xs)) ∨ (∃ xs, H a = some (.tup xs)) ∨ (∃ kvs, H a = some (.dK kvs)) ∨ ∃ dx fs, H a = some (.ins C dx fs)
  | _ => False
def isI : V → Bool | .int _ => true | _ => false
def isB : V → Bool | .bl _ => true | _ => false
def inR : V → Int → Int → Bool | .int i, a, b => decide (a ≤ i) && decide (i ≤ b) | _, _, _ => false
section
variable {P : Program} {w : World} {K : PySem.W.Frag} {mg : Str → Option Value} {base : Heap}
theorem tyx_ins {H : Hp} {a C dx : Addr} {fs : List (Str × V)} (o : OwnC K C) (e : H a = some (.ins C dx fs)) : TyX K H (.ref a) (.ref C) := .base (.ins e o.cl o.ca o.cn o.ct o.cm)
/-- the type of a known value, and what isinstance says of it -/
theorem ty_known (T : Txt K mg) {H : Hp} {x : V} (h : knownV T.C_Map H x) : ∃ t, TyX K H x t ∧ PySem.W.kitOne K t (.type "int") = some (isI x || isB x) ∧ PySem.W.kitOne K t (.type "bool") = some (isB x) := by
  cases x with
  | non => exact ⟨_, .base .non, kit_ty (r := false) (by decide +kernel), kit_ty (r := false) (by decide +kernel)⟩
  | bl b => exact ⟨_, .base (.bl b), kit_ty (r := true) (by decide +kernel), kit_ty (r := true) (by decide +kernel)⟩
  | int i => exact ⟨_, .base (.int i), kit_ty (r := true) (by decide +kernel), kit_ty (r := false) (by decide +kernel)⟩
  | str z => exact ⟨_, .base (.str z), kit_ty (r := false) (by decide +kernel), kit_ty (r := false) (by decide +kernel)⟩
  | ref a =>
    rcases h with ⟨xs, e⟩ | ⟨xs, e⟩ | ⟨xs, e⟩ | ⟨dx, fs, e⟩
    · exact ⟨_, .base (.lst e), kit_ty (r := false) (by decide +kernel), kit_ty (r := false) (by decide +kernel)⟩
    · exact ⟨_, .base (.tup e), kit_ty (r := false) (by decide +kernel), kit_ty (r := false) (by decide +kernel)⟩
    · exact ⟨_, .base (.dK e), kit_ty (r := false) (by decide +kernel), kit_ty (r := false) (by decide +kernel)⟩
    · exact ⟨_, tyx_ins T.o_Map e, T.kit_int_Map, T.kit_bool_Map⟩
  | byt b => exact h.elim
  | flt b => exact h.elim
  | ty b => exact h.elim
def spIsInt (C : Addr) : Sp := fun vs H Q _ => ∃ x, vs = [x] ∧ knownV C H x ∧ Q (.bl (isI x)) H
theorem ok_is_integer (T : Txt K mg) : FnR P w K mg base CX0 1 T.f_is_integer (spIsInt T.C_Map) := by
  refine T.A_is_integer.ok sc_is_integer (fun vs H Q E h => ?_) (fun cdv A outer s H vs Q E hr h => ?_)
  · obtain ⟨x, rfl, _⟩ := h
    rfl
  · obtain ⟨x, rfl, hx, q⟩ := h
    refine ⟨_, pss_one (ps_ret (pe_and (pe_callB call_isi (by rfl) T.n_isinstance (by decide +kernel) (pa_cons (pv 0) (pa_cons (pe_bltn (v := .ty "int") (u := .type "int") (by rfl) T.n_int (by decide +kernel) rfl) pa_nil)))
      (pe_one (pe_not (pe_callB call_isi (by rfl) T.n_isinstance (by decide +kernel) (pa_cons (pv 0) (pa_cons (pe_bltn (v := .ty "bool") (u := .type "bool") (by rfl) T.n_bool (by decide +kernel) rfl) pa_nil))))))), ?_⟩
    obtain ⟨t, ht, k1, k2⟩ := ty_known T hx
    refine ⟨_, rfl, x, _, t, _, _, rfl, .ty _, ht, k1, _, rfl, ?_⟩
    refine ifB (fun hc => ?_) (fun hc => ?_)
    · refine ⟨_, rfl, x, _, t, _, _, rfl, .ty _, ht, k2, _, rfl, ?_⟩
      have e : (!isB x) = isI x := by cases x <;> first | rfl | cases hc
      rw [e]
      exact q
    · have e : isI x = false := by cases x <;> first | rfl | cases hc
      rw [e] at q
      exact q
def spInR (C : Addr) : Sp := fun vs H Q _ => ∃ x a b, vs = [x, .int a, .int b] ∧ knownV C H x ∧ Q (.bl (inR x a b)) H
theorem ok_in_range (T : Txt K mg) : FnR P w K mg base CX0 2 T.f_in_range (spInR T.C_Map) := by
  refine T.A_in_range.ok sc_in_range (fun vs H Q E h => ?_) (fun cdv A outer s H vs Q E hr h => ?_)
  · obtain ⟨x, a, b, rfl, _⟩ := h
    rfl
  · obtain ⟨x, a, b, rfl, hx, q⟩ := h
    refine ⟨_, pss_one (ps_ret (pe_and (pe_callR (ok_is_integer T) hr T.A_is_integer.kp rfl T.g_is_integer pass0 (pa_cons (pv 0) pa_nil))
      (pe_one (pe_chain op_le op_le (pv 1) (pv 0) (pv 2))))), ?_⟩
    refine ⟨_, rfl, x, rfl, hx, _, rfl, ?_⟩
    cases x with
    | int i =>
      refine iteT ⟨_, rfl, _, rfl, _, _, rfl, rfl, _, rfl, ?_⟩
      refine ifD (fun h => ?_) (fun h => ?_)
      · refine ⟨_, rfl, _, _, rfl, rfl, ?_⟩
        have e : inR (.int i) a b = decide (i ≤ b) := by simp [inR, h]
        rw [e] at q
        exact q
      · have e : inR (.int i) a b = false := by simp [inR, h]
        rw [e] at q
        exact q
    | _ => exact iteF q
/-! ### the law's draws -/
def spDraw : Sp := fun vs H Q _ => ∃ (p : Addr) (a b n : Int), vs = [.ref p, .int n] ∧ H p = some (.lst [.int a, .int b]) ∧ 0 ≤ a ∧ 0 ≤ b ∧ b < 2147483647 ∧ 0 < n ∧ n < 1073741824 ∧
  ∀ a' b' r : Int, 0 ≤ a' → 0 ≤ b' → b' < 2147483647 → 0 ≤ r → r < n → Q (.int r) (upd H p (.lst [.int a', .int b']))
theorem ok_draw (T : Txt K mg) : FnR P w K mg base CX0 1 T.f_l_draw spDraw := by
  refine T.A_l_draw.ok sc_l_draw (fun vs H Q E h => ?_) (fun cdv A outer s H vs Q E hr h => ?_)
  · obtain ⟨p, a, b, n, rfl, _⟩ := h
    rfl
  · obtain ⟨p, a, b, n, rfl, hp, ha, hb, hb2, hn, hn2, k⟩ := h
    refine ⟨_, pss_cons (ps_if (pt_cmpR op_gt (pe_ix ix_list (pv 0) pe_int (fun _ _ => rfl)) pe_int (nomark _))
        (pss_cons (ps_set (i := 2) sc_l_draw.nd rfl (Or.inl rfl) (pe_op op_mod (pe_ix ix_list (pv 0) pe_int (fun _ _ => rfl)) (pv 1)))
        (pss_cons (ps_asg (pe_op op_fdiv (pe_ix ix_list (pv 0) pe_int (fun _ _ => rfl)) (pv 1)) (pg_sub (pv 0) pe_int set_list))
        (pss_one (ps_ret (pv 2))))) pss_nil)
      (pss_cons (ps_asg (pe_op op_mod (pe_op op_add (pe_op op_mul (pe_ix ix_list (pv 0) pe_int (fun _ _ => rfl)) pe_int) pe_int) pe_int) (pg_sub (pv 0) pe_int set_list))
      (pss_one (ps_ret (pe_op op_mod (pe_op op_fdiv (pe_op op_mod (pe_op op_mul (pe_ix ix_list (pv 0) pe_int (fun _ _ => rfl)) (pe_ix ix_list (pv 0) pe_int (fun _ _ => rfl))) pe_int) pe_int) (pv 1))))), ?_⟩
    refine ⟨_, rfl, p, _, 0, _, rfl, rfl, SqL.of hp, rfl, _, _, rfl, rfl, _, rfl, ?_⟩
    refine ifD (fun h => ?_) (fun h => ?_)
    · refine ⟨_, rfl, p, _, 0, _, rfl, rfl, SqL.of hp, rfl, _, rfl, _, _, rfl, rfl, hn, ?_⟩
      refine ⟨_, rfl, p, _, 0, _, rfl, rfl, SqL.of hp, rfl, _, rfl, _, _, rfl, rfl, ⟨hn, hn2⟩, _, rfl, p, _, 0, _, rfl, rfl, hp, rfl, ?_⟩
      refine ⟨_, rfl, ?_⟩
      exact k (a / n) b (a % n) (Int.ediv_nonneg ha (by omega)) hb hb2 (Int.emod_nonneg _ (by omega)) (Int.emod_lt_of_pos _ hn)
    · have m1 : 0 ≤ (b * 48271 + 11) % 2147483647 := Int.emod_nonneg _ (by decide)
      have m2 : (b * 48271 + 11) % 2147483647 < 2147483647 := Int.emod_lt_of_pos _ (by decide)
      refine ⟨_, rfl, p, _, 1, _, rfl, rfl, SqL.of hp, rfl, _, _, rfl, rfl, .inr ⟨by decide, by decide⟩, _, _, rfl, rfl, _, _, rfl, rfl, (by show (0 : Int) < 2147483647; decide), _, rfl, p, _, 1, _, rfl, rfl, hp, rfl, ?_⟩
      refine ⟨_, rfl, p, _, 1, _, rfl, rfl, SqL.of upd_same, rfl, _, rfl, p, _, 1, _, rfl, rfl, SqL.of upd_same, rfl, _, _, rfl, rfl, .inl ⟨by omega, by omega⟩, _, _, rfl, rfl, (by show (0 : Int) < 2147483629; decide), _, _, rfl, rfl, ⟨by decide, by decide⟩, _, rfl, _, _, rfl, rfl, hn, ?_⟩
      exact k a ((b * 48271 + 11) % 2147483647) _ ha m1 m2 (Int.emod_nonneg _ (by omega)) (Int.emod_lt_of_pos _ hn)
end
end My
namespace My
open PySem L2 U StX PM
section
variable {P : Program} {w : World} {K : PySem.W.Frag} {mg : Str → Option Value} {base : Heap}
theorem head_int (xs : List V) (h : ∀ v ∈ xs, ∃ i, v = V.int i) : ∃ c, atI (xs ++ [V.int 0]) 0 = some (V.int c) := by
  cases xs with
  | nil => exact ⟨0, rfl⟩
  | cons a r =>
    obtain ⟨i, rfl⟩ := h a List.mem_cons_self
    refine ⟨i, atI_nat (j := 0) ?_⟩
    rfl
theorem cut_int (ns : List Int) (lo hi : Option Int) : ∀ v ∈ cutV (ns.map V.int) lo hi, ∃ i, v = V.int i := by
  intro v hv
  unfold cutV at hv
  have h1 := List.mem_of_mem_drop (List.mem_of_mem_take hv)
  obtain ⟨i, _, rfl⟩ := List.mem_map.mp h1
  exact ⟨i, rfl⟩
def spHand (K : PySem.W.Frag) : Sp := fun vs H Q _ => ∃ (a : Addr) (ns : List Int) (k : Int), vs = [.ref a, .int k] ∧ SqL K H a (ns.map V.int) ∧ ns.length ≤ 63 ∧
  ∀ p H' x y, H p = none → H' p = some (.lst [.int x, .int y]) → Same H H' → 0 ≤ x → 0 ≤ y → y < 2147483647 → Q (.ref p) H'
theorem ok_hand (T : Txt K mg) : FnR P w K mg base CX0 1 T.f_l_hand (spHand K) := by
  refine T.A_l_hand.ok sc_l_hand (fun vs H Q E h => ?_) (fun cdv A outer s H vs Q E hr h => ?_)
  · obtain ⟨a, ns, k, rfl, _⟩ := h
    rfl
  · obtain ⟨a, ns, k, rfl, hS, hl, q⟩ := h
    refine ⟨_, pss_cons (ps_set (i := 2) sc_l_hand.nd rfl (Or.inl rfl) (pe_ix ix_list (pe_op op_cat (pe_slice sl_list (pv 0) (po_some (pv 1)) (po_some (pe_op op_add (pv 1) pe_int))) (pe_lst (pa_cons pe_int pa_nil))) pe_int (fun _ _ => rfl)))
      (pss_cons (ps_set (i := 3) sc_l_hand.nd rfl (Or.inl rfl) (pe_op op_mod (pe_op op_mul (pe_op op_add (pe_op op_add (pe_op op_mod (pv 2) pe_int) (pe_op op_mul pe_int (pv 1))) pe_int) pe_int) pe_int))
      (pss_one (ps_ret (pe_lst (pa_cons (pe_op op_mul (pe_callTy call_int1 (by rfl) T.n_int (by decide +kernel) (pa_cons (pe_cmpR op_ge (pv 2) (pe_op op_pow pe_int pe_int) (nomark _)) pa_nil)) (pv 2)) (pa_cons (pv 3) pa_nil)))))), ?_⟩
    refine ⟨_, rfl, _, rfl, _, rfl, _, rfl, _, _, rfl, rfl, _, rfl, a, _, rfl, hS, fun p1 n1 => ?_⟩
    refine ⟨(by show 1 ≤ sizeLine; decide), fun p2 n2 => ?_⟩
    have n12 : p1 ≠ p2 := ne_of_none upd_same n2
    have hcl := cutV_length (ns.map V.int) (some k) (some (k + 1))
    rw [List.length_map] at hcl
    refine ⟨p1, p2, cutV (ns.map V.int) (some k) (some (k + 1)), [.int 0], rfl, rfl, (by rw [upd_ne n12, upd_same]), upd_same, ?_, fun p3 n3 => ?_⟩
    · show _ + 1 ≤ sizeLine
      exact Nat.le_trans (by omega : _ ≤ 64) (by decide)
    obtain ⟨c, hc⟩ := head_int _ (cut_int ns (some k) (some (k + 1)))
    refine ⟨p3, _, 0, .int c, rfl, rfl, SqL.of upd_same, hc, ?_⟩
    refine ⟨_, rfl, _, _, rfl, rfl, (by show (0 : Int) < 2147483647; decide), _, rfl, _, _, rfl, rfl, .inl ⟨by decide, by decide⟩, _, _, rfl, rfl, _, _, rfl, rfl, _, _, rfl, rfl, .inr ⟨by decide, by decide⟩, _, _, rfl, rfl, (by show (0 : Int) < 2147483629; decide), ?_⟩
    refine ⟨_, rfl, _, _, rfl, rfl, ⟨by decide, by decide, by decide⟩, _, _, rfl, rfl, .inr ⟨_, rfl, _, rfl, _, _, rfl, rfl, .inl ?_, _, rfl, (by show 2 ≤ sizeLine; decide), fun p4 n4 => ?_⟩⟩
    · cases decide ((10 : Int) ^ (18 : Int).toNat ≤ c) <;> exact ⟨by decide, by decide⟩
    · have s3 := ((Same.new (o := .lst (cutV (ns.map V.int) (some k) (some (k + 1)))) n1).trans (Same.new (o := .lst [.int 0]) n2)).trans (Same.new (o := .lst (cutV (ns.map V.int) (some k) (some (k + 1)) ++ [.int 0])) n3)
      refine q p4 _ _ _ (s3.free n4) upd_same (s3.trans (Same.new n4)) ?_ (Int.emod_nonneg _ (by decide)) ?_
      · cases hd : decide ((10 : Int) ^ (18 : Int).toNat ≤ c) with
        | true =>
          have := of_decide_eq_true hd
          have h10 : (0 : Int) ≤ 10 ^ (18 : Int).toNat := by decide
          show 0 ≤ 1 * c
          omega
        | false => show 0 ≤ 0 * c; omega
      · have := Int.emod_lt_of_pos ((c % 2147483647 + 7919 * k + 1) * 48271) (show (0 : Int) < 2147483629 by decide)
        omega
end
end My
namespace My
open PySem L2 U StX PM
section
variable {P : Program} {w : World} {K : PySem.W.Frag} {mg : Str → Option Value} {base : Heap}
def rowOk (n : Int) (p : Int × Int) : Bool := inR (.int p.1) 0 (n - 1) && inR (.int p.2) 0 (n - 1)
def okArr (n : Int) (l : List (Int × Int)) : Bool := l.all (rowOk n) && decide (l.map (·.2)).Nodup
def tgt (l : List (Int × Int)) : List (Key × V) := l.map fun p => (Sum.inl p.2, V.bl true)
theorem tgt_key {l : List (Int × Int)} {y : Int} : (Sum.inl y : Key) ∈ (tgt l).map (·.1) ↔ y ∈ l.map (·.2) := by
  unfold tgt
  rw [List.map_map]
  constructor
  · intro h
    obtain ⟨p, hp, e⟩ := List.mem_map.mp h
    exact List.mem_map.mpr ⟨p, hp, Sum.inl.inj e⟩
  · intro h
    obtain ⟨p, hp, e⟩ := List.mem_map.mp h
    exact List.mem_map.mpr ⟨p, hp, congrArg Sum.inl e⟩
theorem tgt_val {l : List (Int × Int)} {y : Int} : (valV (tgt l) (Sum.inl y : Key)).isSome = decide (y ∈ l.map (·.2)) := by
  by_cases h : y ∈ l.map (·.2)
  · have h' := tgt_key.mpr h
    rw [decide_eq_true h]
    cases e : valV (tgt l) (Sum.inl y : Key) with
    | some v => rfl
    | none =>
      obtain ⟨p, hp, e2⟩ := List.mem_map.mp h'
      exfalso
      unfold valV at e
      rw [Option.map_eq_none_iff, List.find?_eq_none] at e
      exact e p hp (by simp [e2])
  · rw [decide_eq_false h, valV_none fun z => h (tgt_key.mp z)]
    rfl
theorem okArr_step {n : Int} {l : List (Int × Int)} {i : Nat} {p : Int × Int} (h : l[i]? = some p) : okArr n (l.take (i + 1)) = (okArr n (l.take i) && (rowOk n p && !decide (p.2 ∈ (l.take i).map (·.2)))) := by
  rw [take_more h]
  unfold okArr
  rw [List.all_append, List.map_append]
  have e : decide (((l.take i).map (·.2) ++ [p].map (·.2)).Nodup) = (decide ((l.take i).map (·.2)).Nodup && !decide (p.2 ∈ (l.take i).map (·.2))) := by
    rw [Bool.eq_iff_iff]
    simp only [decide_eq_true_eq, Bool.and_eq_true, Bool.not_eq_true', decide_eq_false_iff_not]
    rw [List.nodup_append]
    constructor
    · rintro ⟨h1, _, h2⟩
      exact ⟨h1, fun hm => h2 _ hm _ (by simp) rfl⟩
    · rintro ⟨h1, h2⟩
      refine ⟨h1, by simp, fun a ha b hb e => ?_⟩
      simp at hb
      subst hb
      exact h2 (e ▸ ha)
  rw [e]
  simp only [List.all_cons, List.all_nil, Bool.and_true]
  cases (l.take i).all (rowOk n) <;> cases rowOk n p <;> cases decide ((l.take i).map (·.2)).Nodup <;> simp
theorem okArr_cut {n : Int} {l : List (Int × Int)} {i : Nat} (h : okArr n (l.take i) = false) : okArr n l = false := by
  cases e : okArr n l with
  | false => rfl
  | true =>
    unfold okArr at e h
    rw [Bool.and_eq_true] at e
    have h1 : (l.take i).all (rowOk n) = true := by
      rw [List.all_eq_true] at e ⊢
      exact fun p hp => e.1 p (List.mem_of_mem_take hp)
    have h2 : ((l.take i).map (·.2)).Nodup := by
      have := of_decide_eq_true e.2
      rw [List.map_take]
      exact List.Sublist.nodup (List.take_sublist _ _) this
    rw [h1, decide_eq_true h2] at h
    cases h
def spArr : Sp := fun vs H Q _ => ∃ (n : Int) (d : Addr) (l : List (Int × Int)), vs = [.int n, .ref d] ∧ H d = some (.dK (kvI l)) ∧ l.length ≤ 1000 ∧ ∀ H', Same H H' → Q (.bl (okArr n l)) H'
theorem ok_are_arrows (T : Txt K mg) : FnR P w K mg base CX0 3 T.f_are_arrows spArr := by
  refine T.A_are_arrows.ok sc_are_arrows (fun vs H Q E h => ?_) (fun cdv A outer s H vs Q E hr h => ?_)
  · obtain ⟨n, d, l, rfl, _⟩ := h
    rfl
  · obtain ⟨n, d, l, rfl, hd, hl, q⟩ := h
    have hu := hu_of hr
    refine ⟨_, pss_cons (ps_if (pt_not (pt_val (pe_callB call_isi (by rfl) T.n_isinstance (by decide +kernel) (pa_cons (pv 1) (pa_cons (pe_bltn (v := .ty "dict") (u := .type "dict") (by rfl) T.n_dict (by decide +kernel) rfl) pa_nil))))) (pss_one (ps_ret pe_bl)) pss_nil)
      (pss_cons (ps_set (i := 2) sc_are_arrows.nd rfl (Or.inl rfl) pe_dnewK)
      (pss_cons (ps_lock (ps_for PassesOwn.never rfl (pi_items (pv 1)) (pg_tup rfl (pgs_cons (pg_name (i := 3) sc_are_arrows.nd rfl (Or.inl rfl)) (pgs_cons (pg_name (i := 4) sc_are_arrows.nd rfl (Or.inl rfl)) pgs_nil)))
        (pss_cons (ps_if (PW.pt (pw_or (pt_not (pt_val (pe_callR (ok_in_range T) hr T.A_in_range.kp rfl T.g_in_range pass0 (pa_cons (pv 3) (pa_cons pe_int (pa_cons (pe_op op_sub (pv 0) pe_int) pa_nil))))))
            (pw_or (pt_not (pt_val (pe_callR (ok_in_range T) hr T.A_in_range.kp rfl T.g_in_range pass0 (pa_cons (pv 4) (pa_cons pe_int (pa_cons (pe_op op_sub (pv 0) pe_int) pa_nil))))))
            (pw_or1 (pt_cmp (pc_din hu (pv 4) (pv 2))))))) (pss_one (ps_ret pe_bl)) pss_nil)
        (pss_one (ps_dput hu (pv 2) (pv 4) pe_bl rfl)))))
      (pss_one (ps_ret pe_bl)))), ?_⟩
    refine ⟨_, rfl, _, _, _, _, true, rfl, .ty _, .base (.dK hd), kit_ty (by decide +kernel), _, rfl, ?_⟩
    refine iteF ?_
    intro t ht
    have ntd : t ≠ d := fun e => by rw [e, hd] at ht; cases ht
    have hd1 : (upd H t (.dK [])) d = some (.dK (kvI l)) := by rw [upd_ne ntd.symm]; exact hd
    refine ⟨d, _, hd1, trivial, fun od => ?_⟩
    refine ⟨_, rfl, d, od, kvI l, rfl, upd_same, ?_⟩
    refine for_it walk_items (fun i σ H' => ∃ v3 v4, σ = [some (.int n), some (.ref d), some (.ref t), v3, v4] ∧ H' d = some (.frz od (.dK (kvI l))) ∧ Off d H H' ∧ H' t = some (.dK (tgt (l.take i))) ∧ okArr n (l.take i) = true)
      ⟨none, none, rfl, upd_same, (Off.new ht).tr Off.lock, (by rw [upd_ne ntd]; exact upd_same), rfl⟩ (fun i σ H' _ ⟨_, _, _, p, _⟩ => p) ?_ ?_
    · rintro i v σ H' H'' hi ⟨v3, v4, rfl, p1, p2, p3, p4⟩ ⟨U, a, b, rfl, hU, rfl, e1, e2⟩
      rw [kvI_length] at hi
      obtain ⟨⟨x, y⟩, exy⟩ : ∃ p, l[i]? = some p := ⟨_, List.getElem?_eq_getElem hi⟩
      have ek : (kvI l)[i]? = some (Sum.inl x, V.int y) := by unfold kvI; rw [List.getElem?_map, exy]; rfl
      dsimp only at e1 e2
      rw [ek] at e1 e2
      cases e1; cases e2
      have nUd : d ≠ U := ne_of_none p1 hU
      have nUt : t ≠ U := ne_of_none p3 hU
      have d3 : (upd H' U (.tup [kV (Sum.inl x), .int y])) d = some (.frz od (.dK (kvI l))) := by rw [upd_ne nUd]; exact p1
      have t3 : (upd H' U (.tup [kV (Sum.inl x), .int y])) t = some (.dK (tgt (l.take i))) := by rw [upd_ne nUt]; exact p3
      have o3 : Off d H (upd H' U (.tup [kV (Sum.inl x), .int y])) := p2.tr (Off.new hU)
      have bad : (rowOk n (x, y) && !decide (y ∈ (l.take i).map (·.2))) = false → Q (.bl false) (upd (upd H' U (.tup [kV (Sum.inl x), .int y])) d (.dK (kvI l))) := by
        intro hb
        have h1 := okArr_step (n := n) exy
        rw [p4, hb] at h1
        have := q _ (o3.back hd)
        rw [okArr_cut h1] at this
        exact this
      refine ⟨U, [.int x, .int y], rfl, SqT.of upd_same, rfl, .int x, [.int y], rfl, .int y, [], rfl, rfl, ?_⟩
      refine ⟨_, rfl, _, rfl, _, _, rfl, rfl, .int x, 0, n - 1, rfl, trivial, _, rfl, ?_⟩
      refine ifNB (fun hc => iteT ⟨d3, bad ?_⟩) (fun hc => ?_)
      · simp [rowOk, hc]
      refine ⟨_, rfl, _, rfl, _, _, rfl, rfl, .int y, 0, n - 1, rfl, trivial, _, rfl, ?_⟩
      refine ifNB (fun hc2 => iteT ⟨d3, bad ?_⟩) (fun hc2 => ?_)
      · simp [rowOk, hc2]
      refine ⟨_, rfl, _, rfl, t, _, rfl, DGet.k (k := Sum.inl y) t3, _, rfl, ?_⟩
      rw [tgt_val]
      refine ifD (fun hm => ⟨d3, bad ?_⟩) (fun hm => ?_)
      · rw [decide_eq_true hm]; simp
      have hlen : (tgt (l.take i)).length ≤ 1000 := by unfold tgt; rw [List.length_map, List.length_take]; omega
      refine ⟨_, rfl, _, rfl, t, _, rfl, DPut.k (k := Sum.inl y) t3 (small1000 hlen), ?_⟩
      refine ⟨_, _, rfl, ?_, o3.mut ht, ?_, ?_⟩
      · rw [upd_ne ntd.symm]; exact d3
      · rw [upd_same, putK_new _ (valV_none fun z => hm (tgt_key.mp z)), take_more exy]
        unfold tgt
        rw [List.map_append]
        rfl
      · rw [okArr_step exy, p4, decide_eq_false hm]
        simp [rowOk, hc, hc2]
    · rintro σ H' ⟨v3, v4, rfl, p1, p2, p3, p4⟩
      rw [kvI_length, List.take_length] at p4
      have := q _ (p2.back hd)
      rw [p4] at this
      exact ⟨p1, this⟩
end
end My
namespace My
open PySem L2 U StX PM
section
variable {P : Program} {w : World} {K : PySem.W.Frag} {mg : Str → Option Value} {base : Heap}
theorem ne_fld : ¬ (("own_size" : Str) = "own_arrows") := by decide +kernel
/-- a map's attributes -/
def flds (n : Int) (D : Addr) : List (Str × V) := putF "own_arrows" (.ref D) (putF "own_size" (.int n) [])
theorem flds_size (n : Int) (D : Addr) : (flds n D).lookup ("own_size" : Str) = some (.int n) := by
  unfold flds
  rw [lookup_putF, if_neg ne_fld, lookup_putF, if_pos rfl]
theorem flds_arrows (n : Int) (D : Addr) : (flds n D).lookup ("own_arrows" : Str) = some (.ref D) := by
  unfold flds
  rw [lookup_putF, if_pos rfl]
theorem flds_no (n : Int) (D : Addr) {m : Str} (h1 : ¬ m = "own_arrows") (h2 : ¬ m = "own_size") : (flds n D).lookup m = none := by
  unfold flds
  rw [lookup_putF, if_neg h1, lookup_putF, if_neg h2]
  all_goals rfl
/-- a Map of n elements stands at m: the map f -/
structure IsMap (C : Addr) (H : Hp) (m : Addr) (n : Int) (f : PF) : Prop where
  ob : ∃ dx D, H m = some (.ins C dx (flds n D)) ∧ H D = some (.dK (kvI (tab n f)))
  wf : WF n f
  lo : 1 ≤ n
  hi : n ≤ 300
theorem IsMap.same {C : Addr} {H H' : Hp} {m : Addr} {n : Int} {f : PF} (a : IsMap C H m n f) (s : Same H H') : IsMap C H' m n f := by
  obtain ⟨⟨dx, D, h1, h2⟩, wf, lo, hi⟩ := a
  exact ⟨⟨dx, D, s _ _ h1, s _ _ h2⟩, wf, lo, hi⟩
theorem okArr_of {n : Int} {l : List (Int × Int)} {f : PF} (d : DI l f) (w : WF n f) : okArr n l = true := by
  unfold okArr
  rw [Bool.and_eq_true]
  refine ⟨List.all_eq_true.mpr fun p hp => ?_, decide_eq_true (d.vals w)⟩
  obtain ⟨x, y⟩ := p
  have h := w.dom x y (d.mem.mp hp)
  simp only [rowOk, inR, Bool.and_eq_true, decide_eq_true_eq]
  omega
theorem madeR_tab {l : List (Int × Int)} {f : PF} (d : DI l f) (n : Nat) : madeR (fun k => (lk l k).isSome) (fun x => x) (fun k => ((lk l k).map V.int).getD .non) n = kvI (tabN f n) := by
  induction n with
  | zero => rfl
  | succ n ih =>
    rw [madeR_succ, ih]
    have e : tabN f (n + 1) = tabN f n ++ ((f (n : Int)).map fun y => ((n : Int), y)).toList := by
      unfold tabN
      rw [List.range_succ, List.filterMap_append]
      cases h : f (n : Int) <;> simp [h]
    rw [e, d.at_]
    cases h : f (n : Int) with
    | none => simp
    | some y => simp [kvI]
def spInit (C : Addr) : Sp := fun vs H Q _ => ∃ (p dx d : Addr) (n : Int) (l : List (Int × Int)) (f : PF), vs = [.ref p, .int n, .ref d] ∧ H p = some (.ins C dx []) ∧ H d = some (.dK (kvI l)) ∧ DI l f ∧ WF n f ∧ 1 ≤ n ∧ n ≤ 300 ∧ l.length ≤ 1000 ∧
  ∀ (H' : Hp) (D : Addr), Off p H H' → H D = none → H' p = some (.ins C dx (flds n D)) → H' D = some (.dK (kvI (tab n f))) → Q .non H'
theorem ok_init (T : Txt K mg) : FnR P w K mg base CX0 4 T.f_Map__init (spInit T.C_Map) := by
  refine T.A_Map__init.ok sc_Map__init (fun vs H Q E h => ?_) (fun cdv A outer s H vs Q E hr h => ?_)
  · obtain ⟨p, dx, d, n, l, f, rfl, _⟩ := h
    rfl
  · obtain ⟨p, dx, d, n, l, f, rfl, hp, hd, di, wf, h1, h3, hl, q⟩ := h
    have hu := hu_of hr
    obtain ⟨tk, hms⟩ := T.v_MAX_SIZE
    refine ⟨_, pss_cons (ps_if (pt_not (pt_val (pe_callR (ok_in_range T) (hr.mono (by decide)) T.A_in_range.kp rfl T.g_in_range pass0 (pa_cons (pv 1) (pa_cons pe_int (pa_cons (pe_glob (v := .int 300) rfl hms ⟨_, rfl⟩) pa_nil)))))) (pss_one ps_never) pss_nil)
      (pss_cons (ps_if (pt_not (pt_val (pe_callR (ok_are_arrows T) hr T.A_are_arrows.kp rfl T.g_are_arrows pass0 (pa_cons (pv 1) (pa_cons (pv 2) pa_nil))))) (pss_one ps_never) pss_nil)
      (pss_cons (ps_fld (pv 0) (pv 1) rfl)
      (pss_one (ps_fld (pv 0) (pe_dc (own := [("source", 3)]) (g := gName 3) rfl sc_Map__init.nd (pi_range1 rfl T.n_range (pa_cons (pv 1) pa_nil)) (blkOk_by (own := [("source", 3)]) (N := n_Map__init) (sc := defScope s_Map__init) (by decide +kernel))
        (fun _ _ _ _ _ => pg_name (i := 3) sc_Map__init.nd rfl (Or.inl rfl)) (fun _ _ _ _ _ => pts_one (pt_cmp (pc_din hu (pv 3) (pv 2)))) (fun _ _ _ _ _ => pv 3) (fun _ _ _ _ _ => pe_dget hu (pv 2) (pv 3) (fun _ _ => rfl))) rfl)))), ?_⟩
    refine ⟨_, rfl, .int n, 1, 300, rfl, trivial, _, rfl, ?_⟩
    have e1 : inR (.int n) 1 300 = true := by simp [inR, h1, h3]
    rw [e1]
    refine iteF ⟨_, rfl, _, rfl, n, d, l, rfl, hd, hl, fun H1 s1 => ⟨_, rfl, ?_⟩⟩
    rw [okArr_of di wf]
    refine iteF ?_
    have hp1 := s1 _ _ hp
    have npd : p ≠ d := ne_of hp hd (by intro z; cases z)
    refine ⟨_, rfl, _, rfl, p, T.C_Map, dx, [], rfl, hp1, T.o_Map.cl, T.na_own_size_Map, (by show 0 < 1000; decide), ?_⟩
    have hd1 : (upd H1 p (.ins T.C_Map dx (putF "own_size" (.int n) []))) d = some (.dK (kvI l)) := by rw [upd_ne npd.symm]; exact s1 _ _ hd
    dsimp only [sFld]
    refine dc_range (n := n.toNat) (fun k => (lk l k).isSome) (fun k => ((lk l k).map V.int).getD .non) (fun R r => ⟨_, rfl, n, rfl, by omega, by omega, r⟩) (fun _ => rfl) ?_ (small1000 (by omega)) ?_
    · intro k hk H2 s2
      have hd2 := s2 _ _ hd1
      refine ⟨fun R r => ?_, fun hc => ⟨fun R r => ?_, fun R r => ?_⟩⟩
      · refine ⟨_, rfl, _, rfl, d, _, rfl, DGet.k (k := Sum.inl (0 + (k : Int))) hd2, _, rfl, ?_⟩
        rw [valV_kvI, Option.isSome_map, Int.zero_add]
        exact r
      · refine ⟨_, rfl, ?_⟩
        rw [Int.zero_add]
        exact r
      · cases hv : lk l (k : Int) with
        | none => rw [hv] at hc; cases hc
        | some y =>
          rw [hv] at r
          refine ⟨_, rfl, _, rfl, d, .int y, rfl, ?_, r⟩
          have := DGet.k (k := Sum.inl (0 + (k : Int))) hd2
          rw [valV_kvI, Int.zero_add, hv] at this
          rw [Int.zero_add]
          exact this
    · intro D H2 nD hD s2
      rw [madeR_tab di] at hD
      have hp2 := s2 _ _ (upd_same : (upd H1 p (.ins T.C_Map dx (putF "own_size" (.int n) []))) p = _)
      refine ⟨_, rfl, p, T.C_Map, dx, _, rfl, hp2, T.o_Map.cl, T.na_own_arrows_Map, (by show 1 < 1000; decide), ?_⟩
      have nDp : D ≠ p := fun e => by rw [e, upd_same] at nD; cases nD
      have nD1 : H1 D = none := by rw [upd_ne nDp] at nD; exact nD
      refine q _ D (fun b o hb e => ?_) (s1.free nD1) upd_same ?_
      · rw [upd_ne hb]
        refine s2 _ _ ?_
        rw [upd_ne hb]
        exact s1 _ _ e
      · rw [upd_ne nDp]
        exact hD
end
end My
namespace My
open PySem L2 U StX PM
/-! ### what a comprehension over pairs of ints makes -/
def madeI (c : Int → Int → Bool) (kf vi : Int → Int → Int) (l : List (Int × Int)) : List (Int × Int) := (l.filter fun p => c p.1 p.2).map fun p => (kf p.1 p.2, vi p.1 p.2)
theorem madeD_I (c : Int → Int → Bool) (kf vi : Int → Int → Int) (l : List (Int × Int)) : madeD c kf (fun x y => .int (vi x y)) l = kvI (madeI c kf vi l) := by
  unfold madeD madeI kvI
  rw [List.map_map]
  rfl
theorem kvI_keys (l : List (Int × Int)) : (kvI l).map (·.1) = (l.map (·.1)).map Sum.inl := by
  unfold kvI
  rw [List.map_map, List.map_map]
  rfl
theorem nd_inl {l : List Int} (h : l.Nodup) : (l.map (Sum.inl : Int → Key)).Nodup := by
  induction l with
  | nil => exact List.nodup_nil
  | cons a r ih =>
    rw [List.nodup_cons] at h
    rw [List.map_cons, List.nodup_cons]
    refine ⟨fun hm => ?_, ih h.2⟩
    obtain ⟨b, hb, e⟩ := List.mem_map.mp hm
    exact h.1 (Sum.inl.inj e ▸ hb)
theorem mem_madeI {c : Int → Int → Bool} {kf vi : Int → Int → Int} {l : List (Int × Int)} {a b : Int} : (a, b) ∈ madeI c kf vi l ↔ ∃ x y, (x, y) ∈ l ∧ c x y = true ∧ kf x y = a ∧ vi x y = b := by
  unfold madeI
  rw [List.mem_map]
  constructor
  · rintro ⟨⟨x, y⟩, h, e⟩
    have h1 := List.mem_filter.mp h
    cases e
    exact ⟨x, y, h1.1, h1.2, rfl, rfl⟩
  · rintro ⟨x, y, h1, h2, rfl, rfl⟩
    exact ⟨(x, y), List.mem_filter.mpr ⟨h1, h2⟩, rfl⟩
theorem madeI_len (c : Int → Int → Bool) (kf vi : Int → Int → Int) (l : List (Int × Int)) : (madeI c kf vi l).length ≤ l.length := by
  unfold madeI
  rw [List.length_map]
  exact List.length_filter_le _ _
/-- the sources kept -/
theorem nd_src {c : Int → Int → Bool} {vi : Int → Int → Int} {l : List (Int × Int)} (h : (l.map (·.1)).Nodup) : ((madeI c (fun x _ => x) vi l).map (·.1)).Nodup := by
  unfold madeI
  rw [List.map_map]
  exact List.Sublist.nodup ((List.filter_sublist (p := fun p : Int × Int => c p.1 p.2)).map (·.1)) h
/-- the targets for sources -/
theorem nd_tgt {c : Int → Int → Bool} {vi : Int → Int → Int} {l : List (Int × Int)} (h : (l.map (·.2)).Nodup) : ((madeI c (fun _ y => y) vi l).map (·.1)).Nodup := by
  unfold madeI
  rw [List.map_map]
  exact List.Sublist.nodup ((List.filter_sublist (p := fun p : Int × Int => c p.1 p.2)).map (·.2)) h
section
variable {P : Program} {w : World} {K : PySem.W.Frag} {mg : Str → Option Value} {base : Heap}
theorem mk_map {C : Addr} {H : Hp} {d : Addr} {n : Int} {l : List (Int × Int)} {f : PF} {Q : VK} {E : XK} (hd : H d = some (.dK (kvI l))) (di : DI l f) (wf : WF n f) (h1 : 1 ≤ n) (h3 : n ≤ 300) (hl : l.length ≤ 1000)
    (q : ∀ r H', H r = none → Same H H' → IsMap C H' r n f → Q (.ref r) H') (x dx : Addr) (hx : H x = none) (hdx : H dx = none) (ne : dx ≠ x) :
    spInit C [.ref x, .int n, .ref d] (upd (upd H dx (.own x)) x (.ins C dx [])) (fun v H2 => v = .non ∧ Q (.ref x) H2) E := by
  have s0 : Same H (upd (upd H dx (.own x)) x (.ins C dx [])) := fun b o e => by
    rw [upd_ne (ne_of_none e hx), upd_ne (ne_of_none e hdx)]
    exact e
  refine ⟨x, dx, d, n, l, f, rfl, upd_same, s0 _ _ hd, di, wf, h1, h3, hl, fun H' D o nD hp hD => ⟨rfl, ?_⟩⟩
  refine q x H' hx (fun b u e => o b u (ne_of_none e hx) (s0 b u e)) ⟨⟨dx, D, hp, hD⟩, wf, h1, h3⟩
/-! ### size, arrows, common_size -/
def spSize (C : Addr) : Sp := fun vs H Q _ => ∃ m n f, vs = [.ref m] ∧ IsMap C H m n f ∧ Q (.int n) H
theorem ok_size (T : Txt K mg) : FnR P w K mg base CX0 1 T.f_Map_size (spSize T.C_Map) := by
  refine T.A_Map_size.ok sc_Map_size (fun vs H Q E h => ?_) (fun cdv A outer s H vs Q E hr h => ?_)
  · obtain ⟨m, n, f, rfl, _⟩ := h
    rfl
  · obtain ⟨m, n, f, rfl, ⟨⟨dx, D, h1, h2⟩, _⟩, q⟩ := h
    refine ⟨_, pss_one (ps_ret (pe_fld (pv 0) rfl)), ?_⟩
    exact ⟨_, rfl, m, _, dx, _, _, rfl, h1, T.o_Map.cl, T.na_own_size_Map, flds_size _ _, q⟩
def spArrows (C : Addr) : Sp := fun vs H Q _ => ∃ m n f, vs = [.ref m] ∧ IsMap C H m n f ∧ ∀ p, H p = none → Q (.ref p) (upd H p (.dK (kvI (tab n f))))
theorem ok_arrows (T : Txt K mg) : FnR P w K mg base CX0 1 T.f_Map_arrows (spArrows T.C_Map) := by
  refine T.A_Map_arrows.ok sc_Map_arrows (fun vs H Q E h => ?_) (fun cdv A outer s H vs Q E hr h => ?_)
  · obtain ⟨m, n, f, rfl, _⟩ := h
    rfl
  · obtain ⟨m, n, f, rfl, ⟨⟨dx, D, h1, h2⟩, _⟩, q⟩ := h
    refine ⟨_, pss_one (ps_ret (pe_callTy call_dictD (by rfl) T.n_dict (by decide +kernel) (pa_cons (pe_fld (pv 0) rfl) pa_nil))), ?_⟩
    exact ⟨_, rfl, m, _, dx, _, _, rfl, h1, T.o_Map.cl, T.na_own_arrows_Map, flds_arrows _ _, D, _, rfl, Rd.of h2, q⟩
theorem at_map {C : Addr} {H : Hp} {m : Addr} {n : Int} {f : PF} (h : IsMap C H m n f) : ∃ dx fs, H m = some (.ins C dx fs) := by
  obtain ⟨⟨dx, D, h1, _⟩, _⟩ := h
  exact ⟨dx, _, h1⟩
def spCommon (C : Addr) : Sp := fun vs H Q _ => ∃ a b n f g, vs = [.ref a, .ref b] ∧ IsMap C H a n f ∧ IsMap C H b n g ∧ Q (.int n) H
theorem ok_common (T : Txt K mg) : FnR P w K mg base CX0 3 T.f_common_size (spCommon T.C_Map) := by
  refine T.A_common_size.ok sc_common_size (fun vs H Q E h => ?_) (fun cdv A outer s H vs Q E hr h => ?_)
  · obtain ⟨a, b, n, f, g, rfl, _⟩ := h
    rfl
  · obtain ⟨a, b, n, f, g, rfl, ha, hb, q⟩ := h
    refine ⟨_, pss_cons (ps_if (pt_cmpR op_ne (pe_propR (pv 0) T.o_Map.cl T.P_Map_size (ok_size T) hr) (pe_propR (pv 1) T.o_Map.cl T.P_Map_size (ok_size T) hr) (nomark _)) (pss_one ps_never) pss_nil)
      (pss_one (ps_ret (pe_propR (pv 0) T.o_Map.cl T.P_Map_size (ok_size T) hr))), ?_⟩
    obtain ⟨dx, fs, h1⟩ := at_map ha
    obtain ⟨dy, gs, h2⟩ := at_map hb
    refine ⟨_, rfl, a, dx, fs, rfl, h1, a, n, f, rfl, ha, _, rfl, b, dy, gs, rfl, h2, b, n, g, rfl, hb, rfl, _, rfl, ?_⟩
    refine iteNS rfl ?_
    exact ⟨_, rfl, a, dx, fs, rfl, h1, a, n, f, rfl, ha, q⟩
/-! ### the operators -/
def spOp (C : Addr) (op : PF → PF → PF) : Sp := fun vs H Q _ => ∃ a b n f g, vs = [.ref a, .ref b] ∧ IsMap C H a n f ∧ IsMap C H b n g ∧ ∀ r H', H r = none → Same H H' → IsMap C H' r n (op f g) → Q (.ref r) H'
theorem mul_di {n : Int} {f g : PF} (wf : WF n f) (wg : WF n g) : DI (madeI (fun _ y => (g y).isSome) (fun x _ => x) (fun _ y => (g y).getD 0) (tab n f)) (mul f g) := by
  refine di_of (nd_src (keys_tab n f)) fun a b => ?_
  rw [mem_madeI]
  constructor
  · rintro ⟨x, y, h1, h2, rfl, rfl⟩
    have e := (mem_tab wf).mp h1
    unfold mul
    rw [e]
    cases hg : g y with
    | none => rw [hg] at h2; cases h2
    | some z => show g y = _; rw [hg]; rfl
  · intro h
    unfold mul at h
    cases e : f a with
    | none => rw [e] at h; cases h
    | some y =>
      rw [e] at h
      have h' : g y = some b := h
      exact ⟨a, y, (mem_tab wf).mpr e, by rw [h']; rfl, rfl, by rw [h']; rfl⟩
theorem ok_mul (T : Txt K mg) : FnR P w K mg base CX0 6 T.f_Map__mul (spOp T.C_Map mul) := by
  refine T.A_Map__mul.ok sc_Map__mul (fun vs H Q E h => ?_) (fun cdv A outer s H vs Q E hr h => ?_)
  · obtain ⟨a, b, n, f, g, rfl, _⟩ := h
    rfl
  · obtain ⟨a, b, n, f, g, rfl, ha, hb, q⟩ := h
    have hu := hu_of hr
    refine ⟨_, pss_cons (ps_if (pt_not (pt_val (pe_callB call_isi (by rfl) T.n_isinstance (by decide +kernel) (pa_cons (pv 1) (pa_cons (pe_glob (v := .ref T.C_Map) rfl T.g_Map rfl) pa_nil))))) (pss_one ps_never) pss_nil)
      (pss_cons (ps_set (i := 2) sc_Map__mul.nd rfl (Or.inl rfl) (pe_callR (ok_common T) (hr.mono (by decide)) T.A_common_size.kp rfl T.g_common_size pass0 (pa_cons (pv 0) (pa_cons (pv 1) pa_nil))))
      (pss_cons (ps_set (i := 3) sc_Map__mul.nd rfl (Or.inr rfl) (pe_propR (pv 1) T.o_Map.cl T.P_Map_arrows (ok_arrows T) (hr.mono (by decide))))
      (pss_one (ps_ret (pe_makeR T.M_Map (ok_init T) hr rfl T.g_Map pass0 (pa_cons (pv 2) (pa_cons (pe_lock (pe_dc (own := [("source", 4), ("target", 5)]) (g := gTup K 2 (gCons (gName 4) (gCons (gName 5) gNil))) rfl sc_Map__mul.nd (pi_items (pe_fld (pv 0) rfl))
        (blkOk_by (own := [("source", 4), ("target", 5)]) (N := n_Map__mul) (sc := defScope s_Map__mul) (by decide +kernel))
        (fun _ _ _ _ _ => pg_tup rfl (pgs_cons (pg_name (i := 4) sc_Map__mul.nd rfl (Or.inl rfl)) (pgs_cons (pg_name (i := 5) sc_Map__mul.nd rfl (Or.inl rfl)) pgs_nil)))
        (fun _ _ _ _ _ => pts_one (pt_cmp (pc_din hu (pv 5) (pv 3)))) (fun _ _ _ _ _ => pv 4) (fun _ _ _ _ _ => pe_dget hu (pv 3) (pv 5) (fun _ _ => rfl)))) pa_nil))))))), ?_⟩
    obtain ⟨dx, D, h1, h2⟩ := id ha.ob
    obtain ⟨dy, gs, h3⟩ := at_map hb
    refine ⟨_, rfl, _, _, _, _, true, rfl, .own _, tyx_ins T.o_Map h3, T.self_Map, _, rfl, iteF ?_⟩
    refine ⟨_, rfl, _, rfl, a, b, n, f, g, rfl, ha, hb, ?_⟩
    refine ⟨_, rfl, b, dy, gs, rfl, h3, b, n, g, rfl, hb, fun p hp => ?_⟩
    refine ⟨_, rfl, ?_⟩
    have s1 : Same H (upd H p (.dK (kvI (tab n g)))) := Same.new hp
    have npD : D ≠ p := ne_of_none h2 hp
    refine dc_items (fun _ y => (g y).isSome) (fun x _ => x) (fun _ y => .int ((g y).getD 0)) (s1 _ _ h2) (fun H' R r o => ?_) (fun _ _ => rfl) ?_ ?_ ?_ ?_
    · refine ⟨_, rfl, a, _, dx, _, _, rfl, o _ _ (ne_of h1 h2 (by intro z; cases z)) (s1 _ _ h1), T.o_Map.cl, T.na_own_arrows_Map, flds_arrows _ _, r⟩
    · intro x y hxy H1 o
      have hl1 : H1 p = some (.dK (kvI (tab n g))) := o _ _ npD.symm upd_same
      refine ⟨fun R r => ?_, fun hc => ⟨fun R r => ⟨_, rfl, r⟩, fun R r => ?_⟩⟩
      · refine ⟨_, rfl, _, rfl, p, _, rfl, DGet.k (k := Sum.inl y) hl1, _, rfl, ?_⟩
        rw [valV_kvI, Option.isSome_map, lk_tab hb.wf]
        exact r
      · cases hv : g y with
        | none => rw [hv] at hc; cases hc
        | some z =>
          rw [hv] at r
          refine ⟨_, rfl, _, rfl, p, .int z, rfl, ?_, r⟩
          have := DGet.k (k := Sum.inl y) hl1
          rw [valV_kvI, lk_tab hb.wf, hv] at this
          exact this
    · rw [madeD_I, kvI_keys]
      exact nd_inl (nd_src (keys_tab n f))
    · have h9 := ha.hi
      exact small1000 (Nat.le_trans (tab_len n f) (by omega))
    · intro D2 H2 nD2 hD2 s2
      rw [madeD_I] at hD2
      have h9 := ha.hi
      refine mk_map hD2 (mul_di ha.wf hb.wf) (wf_mul ha.wf hb.wf) ha.lo ha.hi (Nat.le_trans (madeI_len ..) (Nat.le_trans (tab_len n f) (by omega))) fun r H3 nr s3 hm => ?_
      exact q r H3 ((s1.trans s2).free nr) ((s1.trans s2).trans s3) hm
end
end My
namespace My
open PySem L2 U StX PM
section
variable {P : Program} {w : World} {K : PySem.W.Frag} {mg : Str → Option Value} {base : Heap}
/-! ### ~f -/
theorem inv_di {n : Int} {f : PF} (wf : WF n f) : DI (madeI (fun _ _ => true) (fun _ y => y) (fun x _ => x) (tab n f)) (inv n f) := by
  refine di_of (nd_tgt (vals_tab wf)) fun a b => ?_
  rw [mem_madeI, inv_iff wf]
  constructor
  · rintro ⟨x, y, h1, _, rfl, rfl⟩
    exact (mem_tab wf).mp h1
  · intro h
    exact ⟨b, a, (mem_tab wf).mpr h, rfl, rfl, rfl⟩
def spInv (C : Addr) : Sp := fun vs H Q _ => ∃ a n f, vs = [.ref a] ∧ IsMap C H a n f ∧ ∀ r H', H r = none → Same H H' → IsMap C H' r n (inv n f) → Q (.ref r) H'
theorem ok_invert (T : Txt K mg) : FnR P w K mg base CX0 6 T.f_Map__invert (spInv T.C_Map) := by
  refine T.A_Map__invert.ok sc_Map__invert (fun vs H Q E h => ?_) (fun cdv A outer s H vs Q E hr h => ?_)
  · obtain ⟨a, n, f, rfl, _⟩ := h
    rfl
  · obtain ⟨a, n, f, rfl, ha, q⟩ := h
    refine ⟨_, pss_one (ps_ret (pe_makeR T.M_Map (ok_init T) hr rfl T.g_Map pass0 (pa_cons (pe_fld (pv 0) rfl) (pa_cons (pe_lock (pe_dc (own := [("source", 1), ("target", 2)]) (g := gTup K 2 (gCons (gName 1) (gCons (gName 2) gNil))) (tt := tYes) rfl sc_Map__invert.nd (pi_items (pe_fld (pv 0) rfl))
        (blkOk_by (own := [("source", 1), ("target", 2)]) (N := n_Map__invert) (sc := defScope s_Map__invert) (by decide +kernel))
        (fun _ _ _ _ _ => pg_tup rfl (pgs_cons (pg_name (i := 1) sc_Map__invert.nd rfl (Or.inl rfl)) (pgs_cons (pg_name (i := 2) sc_Map__invert.nd rfl (Or.inl rfl)) pgs_nil)))
        (fun _ _ _ _ _ => pts_nil) (fun _ _ _ _ _ => pv 2) (fun _ _ _ _ _ => pv 1))) pa_nil)))), ?_⟩
    obtain ⟨dx, D, h1, h2⟩ := id ha.ob
    have h9 := ha.hi
    refine ⟨_, rfl, a, _, dx, _, _, rfl, h1, T.o_Map.cl, T.na_own_size_Map, flds_size _ _, ?_⟩
    refine dc_items (fun _ _ => true) (fun _ y => y) (fun x _ => .int x) h2 (fun H' R r o => ?_) (fun _ _ => rfl) ?_ ?_ ?_ ?_
    · refine ⟨_, rfl, a, _, dx, _, _, rfl, o _ _ (ne_of h1 h2 (by intro z; cases z)) h1, T.o_Map.cl, T.na_own_arrows_Map, flds_arrows _ _, r⟩
    · intro x y hxy H1 o
      exact ⟨fun R r => r, fun _ => ⟨fun R r => ⟨_, rfl, r⟩, fun R r => ⟨_, rfl, r⟩⟩⟩
    · rw [madeD_I, kvI_keys]
      exact nd_inl (nd_tgt (vals_tab ha.wf))
    · exact small1000 (Nat.le_trans (tab_len n f) (by omega))
    · intro D2 H2 nD2 hD2 s2
      rw [madeD_I] at hD2
      refine mk_map hD2 (inv_di ha.wf) (wf_inv ha.wf) ha.lo ha.hi (Nat.le_trans (madeI_len ..) (Nat.le_trans (tab_len n f) (by omega))) fun r H3 nr s3 hm => ?_
      exact q r H3 (s2.free nr) (s2.trans s3) hm
/-! ### f & g, f - g -/
theorem isD_of {H : Hp} {a : Addr} {kvs : List (Key × V)} (h : H a = some (.dK kvs)) : IsD H a := by
  first | exact .inl ⟨_, .inl h⟩ | exact ⟨_, .inl h⟩ | exact .inl ⟨_, h⟩ | exact .inr (.inl ⟨_, h⟩)
end
end My
namespace My
open PySem L2 U StX PM
section
variable {P : Program} {w : World} {K : PySem.W.Frag} {mg : Str → Option Value} {base : Heap}
/-! ### is_part, <=, <, >= -/
/-! ### == -/
theorem nd_of_map {α β : Type} (h : α → β) : ∀ {l : List α}, (l.map h).Nodup → l.Nodup
  | [], _ => List.nodup_nil
  | a :: r, nd => by
    rw [List.map_cons, List.nodup_cons] at nd
    exact List.nodup_cons.mpr ⟨fun hm => nd.1 (List.mem_map.mpr ⟨a, hm, rfl⟩), nd_of_map h nd.2⟩
def eqB (n : Int) (f : PF) (n' : Int) (g : PF) : Bool := decide (n = n') && dEq (kvI (tab n f)) (kvI (tab n' g))
theorem eqB_self {n : Int} {f : PF} (w : WF n f) : eqB n f n f = true := by
  unfold eqB dEq
  rw [decide_eq_true rfl]
  simp only [Bool.true_and, beq_self_eq_true, List.all_eq_true, decide_eq_true_eq]
  intro p hp
  unfold kvI at hp
  obtain ⟨⟨x, y⟩, hq, rfl⟩ := List.mem_map.mp hp
  show valV (kvI (tab n f)) (Sum.inl x) = some (V.int y)
  rw [valV_kvI, lk_tab w, (mem_tab w).mp hq]
  rfl
def spEqM (C : Addr) : Sp := fun vs H Q _ => ∃ a b n f n' g, vs = [.ref a, .ref b] ∧ IsMap C H a n f ∧ IsMap C H b n' g ∧ Q (.bl (eqB n f n' g)) H
theorem ok_eq (T : Txt K mg) : FnR P w K mg base CX0 6 T.f_Map__eq (spEqM T.C_Map) := by
  refine T.A_Map__eq.ok sc_Map__eq (fun vs H Q E h => ?_) (fun cdv A outer s H vs Q E hr h => ?_)
  · obtain ⟨a, b, n, f, n', g, rfl, _⟩ := h
    rfl
  · obtain ⟨a, b, n, f, n', g, rfl, ha, hb, q⟩ := h
    have hu := hu_of hr
    obtain ⟨dx, D, h1, h2⟩ := id ha.ob
    obtain ⟨dy, D', h3, h4⟩ := id hb.ob
    refine ⟨_, pss_cons (ps_if (pt_not (pt_val (pe_callB call_isi (by rfl) T.n_isinstance (by decide +kernel) (pa_cons (pv 1) (pa_cons (pe_glob (v := .ref T.C_Map) rfl T.g_Map rfl) pa_nil))))) (pss_one (ps_ret pe_bl)) pss_nil)
      (pss_one (ps_ret (pe_and (pe_cmpR op_eq (pe_fld (pv 0) rfl) (pe_fld (pv 1) rfl) (nomark _)) (pe_one (pe_cmpR (op_eqDI (Nat.lt_of_succ_lt hu)) (pe_fld (pv 0) rfl) (pe_fld (pv 1) rfl) (nomark _)))))), ?_⟩
    refine ⟨_, rfl, _, _, _, _, true, rfl, .own _, tyx_ins T.o_Map h3, T.self_Map, _, rfl, iteF ?_⟩
    refine ⟨_, rfl, a, _, dx, _, _, rfl, h1, T.o_Map.cl, T.na_own_size_Map, flds_size _ _, _, rfl, b, _, dy, _, _, rfl, h3, T.o_Map.cl, T.na_own_size_Map, flds_size _ _, rfl, _, rfl, ?_⟩
    have e0 : decide (V.int n = V.int n') = decide (n = n') := by
      by_cases h : n = n'
      · subst h; simp
      · have : ¬ V.int n = V.int n' := fun z => h (V.int.inj z)
        simp [h]
    rw [e0]
    refine ifD (fun hn => ?_) (fun hn => ?_)
    · refine ⟨_, rfl, a, _, dx, _, _, rfl, h1, T.o_Map.cl, T.na_own_arrows_Map, flds_arrows _ _, _, rfl, b, _, dy, _, _, rfl, h3, T.o_Map.cl, T.na_own_arrows_Map, flds_arrows _ _, D, D', _, _, rfl, rfl, h2, h4, intVals_kvI _, intVals_kvI _, ?_⟩
      have := q
      unfold eqB at this
      rw [decide_eq_true hn, Bool.true_and] at this
      exact this
    · have := q
      unfold eqB at this
      rw [decide_eq_false hn, Bool.false_and] at this
      exact this
end
end My
namespace My
open PySem L2 U StX PM
section
variable {P : Program} {w : World} {K : PySem.W.Frag} {mg : Str → Option Value} {base : Heap}
def spChk : Sp := fun vs H Q _ => ∃ n : Int, vs = [.int n] ∧ 1 ≤ n ∧ n ≤ 300 ∧ Q .non H
theorem ok_check_size (T : Txt K mg) : FnR P w K mg base CX0 3 T.f_check_size spChk := by
  refine T.A_check_size.ok sc_check_size (fun vs H Q E h => ?_) (fun cdv A outer s H vs Q E hr h => ?_)
  · obtain ⟨n, rfl, _⟩ := h
    rfl
  · obtain ⟨n, rfl, h1, h3, q⟩ := h
    obtain ⟨tk, hms⟩ := T.v_MAX_SIZE
    refine ⟨_, pss_one (ps_if (pt_not (pt_val (pe_callR (ok_in_range T) hr T.A_in_range.kp rfl T.g_in_range pass0 (pa_cons (pv 0) (pa_cons pe_int (pa_cons (pe_glob (v := .int 300) rfl hms ⟨_, rfl⟩) pa_nil)))))) (pss_one ps_never) pss_nil), ?_⟩
    refine ⟨_, rfl, .int n, 1, 300, rfl, trivial, _, rfl, ?_⟩
    have e1 : inR (.int n) 1 300 = true := by simp [inR, h1, h3]
    rw [e1]
    exact iteF q
theorem di_id (N : Nat) : DI ((List.range N).map fun (i : Nat) => ((i : Int), (i : Int))) (idn (N : Int)) := by
  refine di_of ?_ fun a b => ?_
  · rw [List.map_map]
    have : ∀ n : Nat, ((List.range n).map ((fun p : Int × Int => p.1) ∘ fun (i : Nat) => ((i : Int), (i : Int)))).Nodup := by
      intro n
      induction n with
      | zero => exact List.nodup_nil
      | succ n ih =>
        rw [List.range_succ, List.map_append, List.nodup_append]
        refine ⟨ih, by simp, fun a ha b hb e => ?_⟩
        obtain ⟨i, hi, rfl⟩ := List.mem_map.mp ha
        rw [List.mem_range] at hi
        simp at hb
        have e' : (i : Int) = b := e
        omega
    exact this N
  · rw [List.mem_map]
    unfold idn
    constructor
    · rintro ⟨i, hi, e⟩
      rw [List.mem_range] at hi
      cases e
      rw [if_pos ⟨by omega, by omega⟩]
    · intro h
      split at h
      · rename_i hc
        cases h
        exact ⟨a.toNat, List.mem_range.mpr (by omega), by rw [Int.toNat_of_nonneg hc.1]⟩
      · cases h
theorem madeR_id (N : Nat) : madeR (fun _ => true) (fun x => x) (fun k => .int k) N = kvI ((List.range N).map fun (i : Nat) => ((i : Int), (i : Int))) := by
  unfold madeR kvI
  rw [List.map_map]
  congr 1
  exact List.filter_eq_self.mpr fun _ _ => rfl
def spNew (C : Addr) (op : Int → PF) : Sp := fun vs H Q _ => ∃ n : Int, vs = [.ref C, .int n] ∧ 1 ≤ n ∧ n ≤ 300 ∧ ∀ r H', H r = none → Same H H' → IsMap C H' r n (op n) → Q (.ref r) H'
theorem ok_identity (T : Txt K mg) : FnR P w K mg base CX0 6 T.f_Map_identity (spNew T.C_Map idn) := by
  refine T.A_Map_identity.ok sc_Map_identity (fun vs H Q E h => ?_) (fun cdv A outer s H vs Q E hr h => ?_)
  · obtain ⟨n, rfl, _⟩ := h
    rfl
  · obtain ⟨n, rfl, h1, h3, q⟩ := h
    refine ⟨_, pss_cons (ps_expr (pe_callR (ok_check_size T) (hr.mono (by decide)) T.A_check_size.kp rfl T.g_check_size pass0 (pa_cons (pv 1) pa_nil)))
      (pss_one (ps_ret (pe_makeL (i := 0) T.M_Map (ok_init T) hr rfl (Or.inl rfl) pass0 (pa_cons (pv 1) (pa_cons (pe_dc (own := [("element", 2)]) (g := gName 2) (tt := tYes) rfl sc_Map_identity.nd (pi_range1 rfl T.n_range (pa_cons (pv 1) pa_nil)) (blkOk_by (own := [("element", 2)]) (N := n_Map_identity) (sc := defScope s_Map_identity) (by decide +kernel))
        (fun _ _ _ _ _ => pg_name (i := 2) sc_Map_identity.nd rfl (Or.inl rfl)) (fun _ _ _ _ _ => pts_nil) (fun _ _ _ _ _ => pv 2) (fun _ _ _ _ _ => pv 2)) pa_nil))))), ?_⟩
    refine ⟨_, rfl, n, rfl, h1, h3, rfl, _, rfl, ?_⟩
    refine dc_range (n := n.toNat) (fun _ => true) (fun k => .int k) (fun R r => ⟨_, rfl, n, rfl, by omega, by omega, r⟩) (fun _ => rfl) ?_ (small1000 (by omega)) ?_
    · intro k hk H1 s1
      refine ⟨fun R r => r, fun _ => ⟨fun R r => ⟨_, rfl, ?_⟩, fun R r => ⟨_, rfl, ?_⟩⟩⟩
      · rw [Int.zero_add]; exact r
      · rw [Int.zero_add]; exact r
    · intro D H1 nD hD s1
      rw [madeR_id] at hD
      have e : ((n.toNat : Nat) : Int) = n := Int.toNat_of_nonneg (by omega)
      have di := di_id n.toNat
      rw [e] at di
      refine mk_map hD di (wf_idn n) h1 h3 (by simp; omega) fun r H3 nr s3 hm => ?_
      exact q r H3 (s1.free nr) (s1.trans s3) hm
/-! ### first_clash where there is none, | -/
theorem merge_lk : ∀ (r l : List (Int × Int)), (r.map (·.1)).Nodup → ∃ l', mergeK (kvI l) (kvI r) = kvI l' ∧ l'.length ≤ l.length + r.length ∧ ((l.map (·.1)).Nodup → (l'.map (·.1)).Nodup) ∧ ∀ z, lk l' z = (lk r z).or (lk l z)
  | [], l, _ => ⟨l, rfl, by simp, fun h => h, fun z => rfl⟩
  | (x, y) :: r, l, nd => by
    rw [List.map_cons, List.nodup_cons] at nd
    obtain ⟨l1, e1, n1, d1, k1⟩ := putK_lk (l := l) (x := x) (y := y)
    obtain ⟨l2, e2, n2, d2, k2⟩ := merge_lk r l1 nd.2
    refine ⟨l2, ?_, by simp; omega, fun h => d2 (d1 h), fun z => ?_⟩
    · show mergeK (putK (kvI l) (Sum.inl x) (V.int y)) (kvI r) = _
      rw [e1, e2]
    · rw [k2, k1, lk_cons]
      by_cases h : z = x
      · subst h
        rw [if_pos rfl, if_pos rfl, lk_none nd.1]
        rfl
      · have h' : ¬ x = z := fun q => h q.symm
        rw [if_neg h, if_neg h']
end
end My
namespace My
open PySem L2 U StX PM
section
variable {P : Program} {w : World} {K : PySem.W.Frag} {mg : Str → Option Value} {base : Heap}
theorem dgetI {H : Hp} {d : Addr} {l : List (Int × Int)} {f : PF} (h : H d = some (.dK (kvI l))) (di : DI l f) (x : Int) : DGet H d (.int x) ((f x).map V.int) := by
  have := DGet.k (k := Sum.inl x) h
  rw [valV_kvI, di.2] at this
  exact this
theorem lastI (pre : List Int) (z : Int) : atI ((pre ++ [z]).map V.int) (-1) = some (V.int z) := by
  rw [List.map_append]
  exact atI_last _ _
def spRow : Sp := fun vs H Q _ => ∃ d l n f e, vs = [.ref d, .int e] ∧ H d = some (.dK (kvI l)) ∧ DI l f ∧ WF n f ∧ n ≤ 300 ∧ 0 ≤ e ∧ e < n ∧
  ∀ r H' pre z, H r = none → Same H H' → H' r = some (.lst ((pre ++ [z]).map V.int)) → Row f e (pre ++ [z]) → (f z = none ∨ f z = some e) → Q (.ref r) H'
theorem ok_row_from (T : Txt K mg) : FnR P w K mg base CX0 1 T.f_row_from spRow := by
  refine T.A_row_from.ok sc_row_from (fun vs H Q E h => ?_) (fun cdv A outer s H vs Q E hr h => ?_)
  · obtain ⟨d, l, n, f, e, rfl, _⟩ := h
    rfl
  · obtain ⟨d, l, n, f, e, rfl, hd, di, wf, hn, e0, e1, q⟩ := h
    have hu := hu_of hr
    refine ⟨_, pss_cons (ps_set (i := 2) sc_row_from.nd rfl (Or.inl rfl) (pe_lst (pa_cons (pv 1) pa_nil)))
      (pss_cons (ps_while PassesOwn.never (PW.pt (pw_and (pt_cmp (pc_din hu (pe_ix ix_list (pv 2) (pe_un un_neg pe_int) (fun _ _ => rfl)) (pv 0)))
          (pw_and1 (pt_cmpR op_ne (pe_dget hu (pv 0) (pe_ix ix_list (pv 2) (pe_un un_neg pe_int) (fun _ _ => rfl)) (fun _ _ => rfl)) (pv 1) (nomark _)))))
        (pss_one (ps_expr (pe_bm PySem.F.plainAttrs_list PySem.F.slot_list_append PySem.F.type_list_append mt_append (pv 2) (pa_cons (pe_dget hu (pv 0) (pe_ix ix_list (pv 2) (pe_un un_neg pe_int) (fun _ _ => rfl)) (fun _ _ => rfl)) pa_nil)))))
      (pss_one (ps_ret (pv 2)))), ?_⟩
    refine ⟨_, rfl, (by show 1 ≤ sizeLine; decide), fun r hr0 => ?_⟩
    have row0 : Row f e ([] ++ [e]) := ⟨rfl, fun i a b h1 h2 => by simp at h2⟩
    refine ⟨fun m σ H' => ∃ pre z, σ = [some (.ref d), some (.int e), some (.ref r)] ∧ H' r = some (.lst ((pre ++ [z]).map V.int)) ∧ Same H H' ∧ Row f e (pre ++ [z]) ∧ m = 300 - pre.length, ⟨300, [], e, rfl, upd_same, Same.new hr0, row0, rfl⟩, ?_⟩
    rintro m σ H' ⟨pre, z, rfl, p1, p2, p3, rfl⟩
    have hd' := p2 _ _ hd
    have hlen := len_range (p3.nd wf) (p3.dom wf e0 e1)
    rw [List.length_append, List.length_singleton] at hlen
    refine ⟨_, rfl, 1, rfl, r, _, -1, .int z, rfl, rfl, SqL.of p1, lastI _ _, _, rfl, d, _, rfl, dgetI hd' di z, _, rfl, ?_⟩
    cases hz : f z with
    | none =>
      refine iteF ?_
      refine iteF ?_
      exact ⟨_, rfl, q r H' pre z hr0 p2 p1 p3 (.inl hz)⟩
    | some y =>
      refine iteT ?_
      refine ⟨_, rfl, _, rfl, 1, rfl, r, _, -1, .int z, rfl, rfl, SqL.of p1, lastI _ _, d, .int y, rfl, ?_, _, rfl, rfl, _, rfl, ?_⟩
      · have := dgetI hd' di z
        rw [hz] at this
        exact this
      have nr : d ≠ r := ne_of_none hd hr0
      refine ifN (fun hne => ?_) (fun heq => ?_)
      · have hne' : y ≠ e := fun z => hne (congrArg V.int z)
        have row' := p3.more hz hne'
        have hlen' := len_range (row'.nd wf) (row'.dom wf e0 e1)
        rw [List.length_append, List.length_append, List.length_singleton, List.length_singleton] at hlen'
        refine ⟨fun σ' H2 => ∃ m', m' < 300 - pre.length ∧ _, fun _ _ h => h, ?_⟩
        refine ⟨_, rfl, .inl ⟨rfl, _, SqL.of p1⟩, _, rfl, _, rfl, 1, rfl, r, _, -1, .int z, rfl, rfl, SqL.of p1, lastI _ _, d, .int y, rfl, ?_, r, _, .int y, rfl, rfl, p1, ?_, ?_⟩
        · have := dgetI hd' di z
          rw [hz] at this
          exact this
        · rw [List.length_map, List.length_append, List.length_singleton]
          exact small1000 (by omega)
        · refine ⟨300 - (pre ++ [z]).length, by rw [List.length_append, List.length_singleton]; omega, pre ++ [z], y, rfl, ?_, ?_, row', rfl⟩
          · rw [upd_same, List.map_append (l₁ := pre ++ [z])]
            rfl
          · intro b o h
            rw [upd_ne (ne_of_none h hr0)]
            exact p2 b o h
      · have : y = e := V.int.inj heq
        subst this
        exact ⟨_, rfl, q r H' pre z hr0 p2 p1 p3 (.inr hz)⟩
end
end My
namespace My
open PySem L2 U StX PM
/-! ### comprehensions over values and keys -/
theorem tgt_len (l : List (Int × Int)) (i : Nat) : (tgt (l.take i)).length ≤ l.length := by
  unfold tgt; rw [List.length_map, List.length_take]; omega
theorem lc_keys {d : Addr} {l : List (Int × Int)} {te : TE} {i : Nat} {tt : TT} {tv : TE} {vs : List Nat} {σ : L2.St} {H : Hp} {Q : VK} (c : Int → Bool) (vf : Int → V)
    (hd : H d = some (.dK (kvI l))) (hte : ∀ H' (R : VK), R (.ref d) H' → Off d H H' → te σ H' R)
    (hw : ∀ a, wipe ((wipe σ vs).set i a) vs = wipe σ vs)
    (hb : ∀ (x : Int) (H1 : Hp), Off d H H1 → (∀ R : Bool → Hp → Prop, R (c x) H1 → tt ((wipe σ vs).set i (some (.int x))) H1 R) ∧ (∀ R : VK, R (vf x) H1 → tv ((wipe σ vs).set i (some (.int x))) H1 R))
    (hz : l.length < sizeLine)
    (hq : ∀ D H', H D = none → H' D = some (.lst (madeL (fun x _ => c x) (fun x _ => vf x) l)) → L2.Same H H' → Q (.ref D) H') :
    tLockE (tLc (iKeys te) (gName i) tt tv vs) σ H Q := by
  refine ⟨d, _, hd, trivial, fun od => ?_⟩
  refine hte _ _ ⟨d, od, rfl, .inl ⟨kvI l, upd_same, fun D hD => ?_⟩⟩ Off.lock
  have hDd : D ≠ d := fun e => by rw [e, upd_same] at hD; cases hD
  have hD0 : H D = none := by rw [upd_ne hDd] at hD; exact hD
  refine lc_it walk_keys (fun k H' => H' d = some (.frz od (.dK (kvI l))) ∧ Off d H H' ∧ H' D = some (.lst (madeL (fun x _ => c x) (fun x _ => vf x) (l.take k)))) ⟨?_, Off.lock.mut hD0, upd_same⟩ (fun k H' _ p => p.1) ?_ ?_
  · rw [upd_ne hDd.symm]; exact upd_same
  · rintro k v H' H'' hk1 ⟨p1, p2, p3⟩ ⟨rfl, kk, vv, e1, rfl⟩
    obtain ⟨x, y, exy, rfl, rfl⟩ := kvI_get e1
    refine ⟨hw _, ?_⟩
    obtain ⟨b1, b2⟩ := hb x _ p2
    refine b1 _ ?_
    have st := madeL_step (c := fun x _ => c x) (vf := fun x _ => vf x) exy
    cases hc : c x with
    | true =>
      rw [hc, if_pos rfl] at st
      refine iteT (b2 _ ⟨_, p3, Nat.lt_of_le_of_lt (madeL_len ..) hz, ?_⟩)
      refine ⟨?_, p2.mut hD0, ?_⟩
      · rw [upd_ne hDd.symm]; exact p1
      · rw [upd_same, st]
    | false =>
      rw [hc, if_neg Bool.false_ne_true, List.append_nil] at st
      refine iteF ⟨p1, p2, ?_⟩
      rw [st]
      exact p3
  · rintro H' ⟨p1, p2, p3⟩
    rw [kvI_length, List.take_length] at p3
    refine ⟨p1, hq D _ hD0 ?_ (p2.back hd)⟩
    rw [upd_ne hDd]
    exact p3
/-! ### seen and found -/
def kvB (sl : List Int) : List (Key × V) := sl.map fun x => (Sum.inl x, V.bl true)
theorem kvB_key {sl : List Int} {x : Int} : (Sum.inl x : Key) ∈ (kvB sl).map (·.1) ↔ x ∈ sl := by
  unfold kvB
  rw [List.map_map]
  constructor
  · intro h
    obtain ⟨p, hp, e⟩ := List.mem_map.mp h
    cases Sum.inl.inj e
    exact hp
  · intro h
    exact List.mem_map.mpr ⟨x, h, rfl⟩
theorem kvB_val (sl : List Int) (x : Int) : (valV (kvB sl) (Sum.inl x : Key)).isSome = decide (x ∈ sl) := by
  by_cases h : x ∈ sl
  · rw [decide_eq_true h, ← valV_any, List.any_eq_true]
    exact ⟨(Sum.inl x, V.bl true), List.mem_map.mpr ⟨x, h, rfl⟩, by simp⟩
  · rw [decide_eq_false h, valV_none fun z => h (kvB_key.mp z)]
    rfl
theorem kvB_put (sl : List Int) (x : Int) : ∃ sl', putK (kvB sl) (Sum.inl x : Key) (V.bl true) = kvB sl' ∧ (∀ z, z ∈ sl' ↔ z ∈ sl ∨ z = x) ∧ (sl.Nodup → sl'.Nodup) := by
  by_cases h : x ∈ sl
  · refine ⟨sl, ?_, fun z => ⟨.inl, fun hz => ?_⟩, id⟩
    · unfold putK
      have e : ((kvB sl).any fun kv => decide (kv.1 = (Sum.inl x : Key))) = true := by
        rw [valV_any, kvB_val, decide_eq_true h]
      rw [if_pos e]
      unfold kvB
      rw [List.map_map]
      refine List.map_congr_left fun a _ => ?_
      show (if (Sum.inl a : Key) = Sum.inl x then ((Sum.inl a : Key), V.bl true) else (Sum.inl a, V.bl true)) = _
      split <;> rfl
    · rcases hz with hz | rfl
      · exact hz
      · exact h
  · refine ⟨sl ++ [x], ?_, fun z => by simp, fun nd => ?_⟩
    · rw [putK_new _ (valV_none fun z => h (kvB_key.mp z))]
      unfold kvB
      rw [List.map_append]
      rfl
    · rw [List.nodup_append]
      refine ⟨nd, by simp, fun a ha b hb e => ?_⟩
      simp at hb
      subst hb
      exact h (e ▸ ha)
structure Fnd (n : Int) (f : PF) (k : Nat) (fl : List (Int × Int)) (sl : List Int) : Prop where
  nd : (fl.map (·.1)).Nodup
  at_ : ∀ x, lk fl x = if x ∈ sl then iter f k x else none
  sn : sl.Nodup
  dm : ∀ x ∈ sl, 0 ≤ x ∧ x < n
theorem Fnd.len {n : Int} {f : PF} {k : Nat} {fl : List (Int × Int)} {sl : List Int} (h : Fnd n f k fl sl) : fl.length ≤ n.toNat := by
  have := len_range (n := n) h.nd (fun x hx => by
    obtain ⟨⟨a, b⟩, hp, rfl⟩ := List.mem_map.mp hx
    have e := lk_some h.nd hp
    rw [h.at_] at e
    by_cases hm : a ∈ sl
    · exact h.dm _ hm
    · rw [if_neg hm] at e; cases e)
  rw [List.length_map] at this
  exact this
theorem Fnd.slen {n : Int} {f : PF} {k : Nat} {fl : List (Int × Int)} {sl : List Int} (h : Fnd n f k fl sl) : sl.length ≤ n.toNat := len_range h.sn h.dm
theorem Fnd.put {n : Int} {f : PF} {k : Nat} {fl fl' : List (Int × Int)} {sl sl' : List Int} {x y : Int} (h : Fnd n f k fl sl) (h1 : ∀ z, z ∈ sl' ↔ z ∈ sl ∨ z = x) (h2 : sl.Nodup → sl'.Nodup) (hx : 0 ≤ x ∧ x < n)
    (e : iter f k x = some y) (n1 : (fl.map (·.1)).Nodup → (fl'.map (·.1)).Nodup) (a1 : ∀ z, lk fl' z = if z = x then some y else lk fl z) : Fnd n f k fl' sl' := by
  refine ⟨n1 h.nd, fun z => ?_, h2 h.sn, fun z hz => ?_⟩
  · rw [a1]
    by_cases hz : z = x
    · subst hz
      rw [if_pos rfl, if_pos ((h1 z).mpr (.inr rfl)), e]
    · rw [if_neg hz, h.at_]
      by_cases hs : z ∈ sl
      · rw [if_pos hs, if_pos ((h1 z).mpr (.inl hs))]
      · rw [if_neg hs, if_neg fun q => ((h1 z).mp q).elim hs hz]
  · rcases (h1 z).mp hz with q | rfl
    · exact h.dm z q
    · exact hx
end My
namespace My
open PySem L2 U StX PM
section
variable {P : Program} {w : World} {K : PySem.W.Frag} {mg : Str → Option Value} {base : Heap}
theorem get_map {xs : List Int} {i : Nat} {a : Int} (h : xs[i]? = some a) : (xs.map V.int)[i]? = some (V.int a) := by
  rw [List.getElem?_map, h]; rfl
theorem Same.put {H H' : Hp} {p : Addr} {o : HO} (s : Same H H') (h : H p = none) : Same H (upd H' p o) := fun b u e => by rw [upd_ne (ne_of_none e h)]; exact s b u e
end
end My
namespace My
open PySem L2 U StX PM
/-! ### f.power(e) -/
def pw (n : Int) (f : PF) (e : Int) : PF := if e = 0 then idn n else if e < 0 then iter (inv n f) e.natAbs else iter f e.natAbs
end My
namespace My
open PySem L2 U StX PM
/-! ### a drawn map -/
structure Drw (n : Int) (i : Nat) (l : List (Int × Int)) (ns : List Int) : Prop where
  kn : (l.map (·.1)).Nodup
  vn : (l.map (·.2)).Nodup
  nn : ns.Nodup
  lt : ∀ p ∈ l, 0 ≤ p.1 ∧ p.1 < i ∧ 0 ≤ p.2 ∧ p.2 < n
  nt : ∀ y ∈ ns, 0 ≤ y ∧ y < n ∧ y ∉ l.map (·.2)
  ln : l.length ≤ i
  le : l.length + ns.length = n.toNat
theorem Drw.more {n : Int} {i : Nat} {l : List (Int × Int)} {ns : List Int} (h : Drw n i l ns) : Drw n (i + 1) l ns := by
  refine ⟨h.kn, h.vn, h.nn, fun p hp => ?_, h.nt, Nat.le_succ_of_le h.ln, h.le⟩
  have := h.lt p hp
  omega
theorem not_erase {ns : List Int} {k : Nat} {y : Int} (nd : ns.Nodup) (h : ns[k]? = some y) : y ∉ ns.eraseIdx k := by
  obtain ⟨hk, e⟩ := List.getElem?_eq_some_iff.mp h
  have e1 : ns = ns.take k ++ y :: ns.drop (k + 1) := by
    rw [← e]
    simp
  rw [List.eraseIdx_eq_take_drop_succ]
  intro hm
  rw [e1, List.nodup_append, List.nodup_cons] at nd
  rcases List.mem_append.mp hm with h1 | h1
  · exact nd.2.2 y h1 y List.mem_cons_self rfl
  · exact nd.2.1.1 h1
theorem Drw.put {n : Int} {i : Nat} {l : List (Int × Int)} {ns : List Int} (h : Drw n i l ns) {k : Nat} {y : Int} (hy : ns[k]? = some y) : Drw n (i + 1) (l ++ [((i : Int), y)]) (ns.eraseIdx k) ∧ (i : Int) ∉ l.map (·.1) := by
  have hm := h.nt y (List.mem_of_getElem? hy)
  have hi : (i : Int) ∉ l.map (·.1) := by
    intro hm
    obtain ⟨p, hp, e⟩ := List.mem_map.mp hm
    have := h.lt p hp
    omega
  obtain ⟨hk, _⟩ := List.getElem?_eq_some_iff.mp hy
  refine ⟨⟨?_, ?_, ?_, ?_, ?_, ?_, ?_⟩, hi⟩
  · rw [List.map_append, List.nodup_append]
    refine ⟨h.kn, by simp, fun a ha b hb e => ?_⟩
    simp at hb
    subst hb
    exact hi (e ▸ ha)
  · rw [List.map_append, List.nodup_append]
    refine ⟨h.vn, by simp, fun a ha b hb e => ?_⟩
    simp at hb
    subst hb
    exact hm.2.2 (e ▸ ha)
  · exact List.Sublist.nodup (List.eraseIdx_sublist _ _) h.nn
  · intro p hp
    rcases List.mem_append.mp hp with hp | hp
    · have := h.lt p hp
      omega
    · simp at hp
      subst hp
      dsimp only
      omega
  · intro z hz
    have h1 := h.nt z (List.mem_of_mem_eraseIdx hz)
    refine ⟨h1.1, h1.2.1, fun hq => ?_⟩
    rw [List.map_append] at hq
    rcases List.mem_append.mp hq with hq | hq
    · exact h1.2.2 hq
    · simp at hq
      subst hq
      exact not_erase h.nn hy hz
  · have := h.ln
    simp
    omega
  · have := h.le
    rw [List.length_append, List.length_singleton, List.length_eraseIdx, if_pos hk]
    omega
theorem two_in {l : List (Int × Int)} (vn : (l.map (·.2)).Nodup) : ∀ {x x' y : Int}, (x, y) ∈ l → (x', y) ∈ l → x = x' := by
  induction l with
  | nil => intro _ _ _ h; cases h
  | cons p r ih =>
    intro x x' y h1 h2
    rw [List.map_cons, List.nodup_cons] at vn
    rcases List.mem_cons.mp h1 with e1 | e1 <;> rcases List.mem_cons.mp h2 with e2 | e2
    · subst e1; cases e2; rfl
    · subst e1; exact absurd (List.mem_map.mpr ⟨(x', y), e2, rfl⟩) vn.1
    · subst e2; exact absurd (List.mem_map.mpr ⟨(x, y), e1, rfl⟩) vn.1
    · exact ih vn.2 e1 e2
theorem Drw.wf {n : Int} {l : List (Int × Int)} {ns : List Int} (h0 : 0 ≤ n) (h : Drw n n.toNat l ns) : WF n (lk l) := by
  refine ⟨fun x y e => ?_, fun x x' y e e' => two_in h.vn (lk_mem e) (lk_mem e')⟩
  have := h.lt _ (lk_mem e)
  dsimp only at this
  omega
theorem rg0 (n : Int) : rgV 0 n = ((List.range n.toNat).map fun (i : Nat) => (i : Int)).map V.int := by
  unfold rgV
  rw [List.map_map, show (n - 0).toNat = n.toNat by omega]
  refine List.map_congr_left fun a _ => ?_
  show V.int (0 + (a : Int)) = V.int (a : Int)
  rw [Int.zero_add]
theorem drw0 (n : Int) : Drw n 0 [] ((List.range n.toNat).map fun (i : Nat) => (i : Int)) := by
  refine ⟨List.nodup_nil, List.nodup_nil, ?_, fun p h => (nomatch h), fun y hy => ?_, Nat.le_refl _, by simp⟩
  · have := (di_id n.toNat).nd
    rw [List.map_map] at this
    exact this
  · obtain ⟨i, hi, rfl⟩ := List.mem_map.mp hy
    rw [List.mem_range] at hi
    exact ⟨by omega, by omega, by simp⟩
section
variable {P : Program} {w : World} {K : PySem.W.Frag} {mg : Str → Option Value} {base : Heap}
def PoolAt (H : Hp) (p : Addr) : Prop := ∃ a b : Int, H p = some (.lst [.int a, .int b]) ∧ 0 ≤ a ∧ 0 ≤ b ∧ b < 2147483647
def spDrwn : Sp := fun vs H Q _ => ∃ (p : Addr) (n way : Int), vs = [.ref p, .int n, .int way] ∧ PoolAt H p ∧ 1 ≤ n ∧ n ≤ 300 ∧
  ∀ r H' l, H r = none → H' r = some (.dK (kvI l)) → DI l (lk l) → WF n (lk l) → l.length ≤ 1000 → PoolAt H' p → Off p H H' → Q (.ref r) H'
theorem Off.put {p q : Addr} {H H' : Hp} {o : HO} (a : Off p H H') (h : H q = none) : Off p H (upd H' q o) := a.mut h
theorem Off.at {p : Addr} {H H' : Hp} {o : HO} (a : Off p H H') : Off p H (upd H' p o) := fun b u hb e => by rw [upd_ne hb]; exact a b u hb e
theorem ok_l_arrows (T : Txt K mg) : FnR P w K mg base CX0 2 T.f_l_arrows spDrwn := by
  refine T.A_l_arrows.ok sc_l_arrows (fun vs H Q E h => ?_) (fun cdv A outer s H vs Q E hr h => ?_)
  · obtain ⟨p, n, way, rfl, _⟩ := h
    rfl
  · obtain ⟨p, n, way, rfl, ⟨a0, b0, hp, ha0, hb0, hb1⟩, h1, h3, q⟩ := h
    have hu := hu_of hr
    refine ⟨_, pss_cons (ps_par (i := 3) (j := 4) rfl sc_l_arrows.nd rfl rfl (by decide) rfl rfl (pa_cons (pe_listRg rfl rfl T.n_list (prg_1 rfl T.n_range (pv 1))) (pa_cons pe_dnewK pa_nil)) (by rfl))
      (pss_cons (ps_for PassesOwn.never rfl (pi_range1 rfl T.n_range (pa_cons (pv 1) pa_nil)) (pg_name (i := 5) sc_l_arrows.nd rfl (Or.inl rfl))
        (pss_one (ps_if (pt_cmpR op_lt (pe_callR (ok_draw T) hr T.A_l_draw.kp rfl T.g_l_draw pass0 (pa_cons (pv 0) (pa_cons pe_int pa_nil))) (pv 2) (nomark _))
          (pss_one (ps_dput hu (pv 4) (pv 5) (pe_bm PySem.F.plainAttrs_list PySem.F.slot_list_pop PySem.F.type_list_pop mt_popAt (pv 3) (pa_cons (pe_callR (ok_draw T) hr T.A_l_draw.kp rfl T.g_l_draw pass0 (pa_cons (pv 0) (pa_cons (pe_callB call_len_seq (by rfl) T.n_len (by decide +kernel) (pa_cons (pv 3) pa_nil)) pa_nil))) pa_nil)) rfl)) pss_nil)))
      (pss_one (ps_ret (pv 4)))), ?_⟩
    refine ⟨_, rfl, n, rfl, RgOk.of_le (by decide) (by omega) (by decide) (by omega), fun lf hlf => ?_⟩
    intro fo hfo
    refine ⟨_, _, rfl, ?_⟩
    have lf0 : H lf = none := hlf
    have fo0 : H fo = none := (Same.new hlf).free hfo
    have npl : p ≠ lf := ne_of_none hp lf0
    have npf : p ≠ fo := ne_of_none hp fo0
    have nlf : lf ≠ fo := ne_of_none upd_same hfo
    refine ⟨_, rfl, n, rfl, by omega, by omega, ?_⟩
    refine for_it (walk_range (lo := 0) (n := n.toNat)) (fun i σ H' => ∃ v5 l ns, σ = [some (.ref p), some (.int n), some (.int way), some (.ref lf), some (.ref fo), v5] ∧ PoolAt H' p ∧ Off p H H' ∧ H' lf = some (.lst (ns.map V.int)) ∧ H' fo = some (.dK (kvI l)) ∧ Drw n i l ns)
      ⟨none, [], _, rfl, ⟨a0, b0, ?_, ha0, hb0, hb1⟩, ?_, ?_, upd_same, drw0 n⟩ (fun _ _ _ _ _ => trivial) ?_ ?_
    · rw [upd_ne npf, upd_ne npl]; exact hp
    · exact (Off.new hlf).tr (Off.new hfo)
    · rw [upd_ne nlf, upd_same, rg0]
    · rintro i v σ H' H'' hi ⟨v5, l, ns, rfl, ⟨a1, b1, e1, ha1, hb1, hb2⟩, p2, p3, p4, p5⟩ ⟨rfl, rfl⟩
      refine ⟨_, rfl, p, a1, b1, 4, rfl, e1, ha1, hb1, hb2, by decide, by decide, fun a2 b2 r2 ha2 hb2 hb3 hr2 hr3 => ?_⟩
      refine ⟨_, rfl, _, _, rfl, rfl, _, rfl, ?_⟩
      have o2 : Off p H (upd H'' p (.lst [.int a2, .int b2])) := Off.at p2
      have l2 : (upd H'' p (.lst [.int a2, .int b2])) lf = some (.lst (ns.map V.int)) := by rw [upd_ne npl.symm]; exact p3
      have f2 : (upd H'' p (.lst [.int a2, .int b2])) fo = some (.dK (kvI l)) := by rw [upd_ne npf.symm]; exact p4
      refine ifD (fun hlt => ?_) (fun _ => ?_)
      · have hlen := p5.le
        have hln := p5.ln
        have hl0 : 0 < ns.length := by omega
        refine ⟨_, rfl, .inl ⟨rfl, _, SqL.of l2⟩, _, rfl, _, rfl, lf, _, rfl, .inl (SqL.of l2), ?_⟩
        rw [List.length_map]
        refine ⟨p, a2, b2, (ns.length : Int), rfl, upd_same, ha2, hb2, hb3, by omega, by omega, fun a4 b4 r4 ha4 hb4 hb5 hr4 hr5 => ?_⟩
        obtain ⟨y, ey⟩ : ∃ y, ns[r4.toNat]? = some y := ⟨_, List.getElem?_eq_getElem (by omega)⟩
        obtain ⟨d1, d2⟩ := p5.put ey
        refine ⟨lf, _, r4, r4.toNat, .int y, rfl, rfl, (by rw [upd_ne npl.symm]; exact l2), by omega, by omega, ?_, get_map ey, ?_⟩
        · rw [List.length_map]
          exact PySem.seqIndex_of hr4 (by omega)
        refine ⟨_, rfl, _, rfl, fo, _, rfl, DPut.k (k := Sum.inl (0 + (i : Nat) : Int)) (kvs := kvI l) (by rw [upd_ne nlf.symm, upd_ne npf.symm]; exact f2) (small1000 (by rw [kvI_length]; omega)), ?_⟩
        rw [Int.zero_add, putK_kvI d2]
        refine ⟨_, _, ns.eraseIdx r4.toNat, rfl, ⟨a4, b4, ?_, ha4, hb4, hb5⟩, ?_, ?_, upd_same, d1⟩
        · rw [upd_ne npf, upd_ne npl, upd_same]
        · exact Off.put (Off.put (Off.at o2) lf0) fo0
        · rw [upd_ne nlf, upd_same]
          congr 2
          apply List.ext_getElem?
          intro m
          simp [List.getElem?_eraseIdx]
          split <;> rfl
      · exact ⟨_, l, ns, rfl, ⟨a2, b2, upd_same, ha2, hb2, hb3⟩, o2, l2, f2, p5.more⟩
    · rintro σ H' ⟨v5, l, ns, rfl, p1, p2, p3, p4, p5⟩
      have := p5.ln
      exact ⟨_, rfl, q fo H' l fo0 p4 ⟨p5.kn, fun _ => rfl⟩ (p5.wf (by omega)) (by omega) p1 p2⟩
end
end My
namespace My
open PySem L2 U StX PM
/-! ### expressions over maps: new objects alone -/
theorem dEq_di {l l' : List (Int × Int)} {f : PF} (d : DI l f) (d' : DI l' f) : dEq (kvI l) (kvI l') = true := by
  have n1 := nd_of_map _ d.nd
  have n2 := nd_of_map _ d'.nd
  have s1 : ∀ p ∈ l, p ∈ l' := by
    rintro ⟨x, y⟩ hp
    exact d'.mem.mpr (d.mem.mp hp)
  have s2 : ∀ p ∈ l', p ∈ l := by
    rintro ⟨x, y⟩ hp
    exact d.mem.mpr (d'.mem.mp hp)
  have l1 := List.Nodup.length_le_of_subset n1 s1
  have l2 := List.Nodup.length_le_of_subset n2 s2
  unfold dEq
  rw [kvI_length, kvI_length, Bool.and_eq_true]
  refine ⟨by rw [beq_iff_eq]; omega, List.all_eq_true.mpr fun p hp => ?_⟩
  unfold kvI at hp
  obtain ⟨⟨x, y⟩, hm, rfl⟩ := List.mem_map.mp hp
  rw [decide_eq_true_eq, valV_kvI, d'.at_, d.mem.mp hm]
  rfl
/-! ### dict([(x, x) for x in one.arrows]) -/
end My
namespace My
open PySem L2 U StX PM
/-! ### values that are no maps; check_map -/
def nonMapV (H : Hp) : V → Prop
  | .non => True | .bl _ => True | .int _ => True | .str _ => True
  | .ref a => (∃ xs, H a = some (.lst xs)) ∨ (∃ xs, H a = some (.tup xs)) ∨ (∃ kvs, H a = some (.dK kvs))
  | _ => False
def spChkM (C CE : Addr) : Sp := fun vs H Q E => ∃ x, vs = [x] ∧ ((∃ a n f, x = .ref a ∧ IsMap C H a n f ∧ Q .non H) ∨ (nonMapV H x ∧ ∀ d, H d = none → E (.ref CE) (some d) (upd H d (.xd [("part", .str "map")]))))
section
variable {P : Program} {w : World} {K : PySem.W.Frag} {mg : Str → Option Value} {base : Heap}
theorem ok_ini_InvalidMap (T : Txt K mg) : FnR P w K mg base CX0 1 T.f_InvalidMap__init (spIni1 T.C_InvalidMap "part") := by
  refine T.A_InvalidMap__init.ok sc_InvalidMap__init (fun vs H Q E h => ?_) (fun cdv A outer s H vs Q E hr h => ?_)
  · obtain ⟨a, v, rfl, _⟩ := h
    rfl
  · obtain ⟨a, v, rfl, ha, q⟩ := h
    refine ⟨_, pss_one (ps_ostG (pv 0) (pv 1)), ?_⟩
    exact ⟨_, rfl, _, rfl, a, T.C_InvalidMap, rfl, T.x_InvalidMap, T.na_part_InvalidMap, .inl ⟨ha, fun dx h1 h2 => q dx h1 h2⟩⟩
theorem ty_nonmap (T : Txt K mg) {H : Hp} {x : V} (h : nonMapV H x) : ∃ t, TyX K H x t ∧ PySem.W.kitOne K t (.ref T.C_Map) = some false := by
  cases x with
  | non => exact ⟨_, .base .non, T.kn_NoneType_Map⟩
  | bl b => exact ⟨_, .base (.bl b), T.kn_bool_Map⟩
  | int i => exact ⟨_, .base (.int i), T.kn_int_Map⟩
  | str z => exact ⟨_, .base (.str z), T.kn_str_Map⟩
  | ref a =>
    rcases h with ⟨xs, e⟩ | ⟨xs, e⟩ | ⟨xs, e⟩
    · exact ⟨_, .base (.lst e), T.kn_list_Map⟩
    · exact ⟨_, .base (.tup e), T.kn_tuple_Map⟩
    · exact ⟨_, .base (.dK e), T.kn_dict_Map⟩
  | byt b => exact h.elim
  | flt b => exact h.elim
  | ty b => exact h.elim
theorem ok_check_map (T : Txt K mg) : FnR P w K mg base (L2.CX P w) 3 T.f_check_map (spChkM T.C_Map T.C_InvalidMap) := by
  refine T.A_check_map.okX sc_check_map (fun vs H Q E h => ?_) (fun cdv A outer s H vs Q E hr h => ?_)
  · obtain ⟨x, rfl, _⟩ := h
    rfl
  · obtain ⟨x, rfl, hx⟩ := h
    refine ⟨_, pss_one (ps_if (pt_not (pt_val (pe_callB call_isi (by rfl) T.n_isinstance (by decide +kernel) (pa_cons (pv 0) (pa_cons (pe_glob (v := .ref T.C_Map) rfl T.g_Map rfl) pa_nil)))))
      (pss_one (ps_raise rfl (takes_of rfl rfl rfl rfl) (pmk_oexG T.x_InvalidMap T.m_InvalidMap__init T.ti_InvalidMap__init (ok_ini_InvalidMap T) (hr.mono (by decide)) pass0 rfl T.g_InvalidMap (pa_cons pe_str pa_nil)))) pss_nil), ?_⟩
    rcases hx with ⟨a, n, f, rfl, hm, q⟩ | ⟨hx, q⟩
    · obtain ⟨dx, fs, h1⟩ := at_map hm
      exact ⟨_, rfl, _, _, _, _, true, rfl, .own _, tyx_ins T.o_Map h1, T.self_Map, _, rfl, iteF q⟩
    · obtain ⟨t, ht, hk⟩ := ty_nonmap T hx
      exact ⟨_, rfl, _, _, _, _, false, rfl, .own _, ht, hk, _, rfl, iteT (mk_one fun d hd => q d hd)⟩
end
/-! ### lists of rows -/
def RowsAt (H : Hp) : List Addr → List (List Int) → Prop
  | [], [] => True
  | a :: as, r :: rs => H a = some (.lst (r.map V.int)) ∧ RowsAt H as rs
  | _, _ => False
theorem RowsAt.len {H : Hp} : ∀ {as : List Addr} {rs : List (List Int)}, RowsAt H as rs → as.length = rs.length
  | [], [], _ => rfl
  | _ :: as, _ :: rs, h => by rw [List.length_cons, List.length_cons, RowsAt.len h.2]
  | [], _ :: _, h => h.elim
  | _ :: _, [], h => h.elim
theorem RowsAt.map {H H' : Hp} : ∀ {as : List Addr} {rs : List (List Int)}, RowsAt H as rs → (∀ a ∈ as, ∀ xs, H a = some (.lst xs) → H' a = some (.lst xs)) → RowsAt H' as rs
  | [], [], _, _ => trivial
  | _ :: as, _ :: rs, h, k => ⟨k _ List.mem_cons_self _ h.1, RowsAt.map h.2 fun a ha => k a (List.mem_cons_of_mem _ ha)⟩
  | [], _ :: _, h, _ => h.elim
  | _ :: _, [], h, _ => h.elim
theorem RowsAt.same {H H' : Hp} {as : List Addr} {rs : List (List Int)} (h : RowsAt H as rs) (s : Same H H') : RowsAt H' as rs := h.map fun a _ xs e => s a _ e
theorem RowsAt.off {H : Hp} {as : List Addr} {rs : List (List Int)} {p : Addr} {o : HO} (h : RowsAt H as rs) (n : p ∉ as) : RowsAt (upd H p o) as rs := h.map fun a ha xs e => by
  have hne : a ≠ p := fun z => n (z ▸ ha)
  rw [upd_ne hne]; exact e
theorem RowsAt.snoc {H : Hp} {a : Addr} {r : List Int} : ∀ {as : List Addr} {rs : List (List Int)}, RowsAt H as rs → H a = some (.lst (r.map V.int)) → RowsAt H (as ++ [a]) (rs ++ [r])
  | [], [], _, e => ⟨e, trivial⟩
  | _ :: as, _ :: rs, h, e => ⟨h.1, RowsAt.snoc h.2 e⟩
  | [], _ :: _, h, _ => h.elim
  | _ :: _, [], h, _ => h.elim
theorem RowsAt.get {H : Hp} : ∀ {as : List Addr} {rs : List (List Int)}, RowsAt H as rs → ∀ (i : Nat) (a : Addr), as[i]? = some a → ∃ r, rs[i]? = some r ∧ H a = some (.lst (r.map V.int))
  | [], [], _, i, a, e => by simp at e
  | b :: as, r :: rs, h, 0, a, e => by cases e; exact ⟨r, rfl, h.1⟩
  | _ :: as, _ :: rs, h, i + 1, a, e => RowsAt.get h.2 i a e
  | [], _ :: _, h, _, _, _ => h.elim
  | _ :: _, [], h, _, _, _ => h.elim
theorem RowsAt.mem {H : Hp} {as : List Addr} {rs : List (List Int)} (h : RowsAt H as rs) {a : Addr} (ha : a ∈ as) : ∃ r ∈ rs, H a = some (.lst (r.map V.int)) := by
  obtain ⟨i, hi⟩ := List.mem_iff_getElem?.mp ha
  obtain ⟨r, e1, e2⟩ := h.get i a hi
  exact ⟨r, List.mem_of_getElem? e1, e2⟩
def dInts (r : List Int) : PyData := .list (r.map PyData.int)
theorem dp_ints {K : PySem.W.Frag} {H : Hp} : ∀ (r : List Int), DpAll K H (r.map V.int) (r.map PyData.int)
  | [] => .nil
  | x :: r => .cons (.int x) (dp_ints r)
theorem RowsAt.dp {K : PySem.W.Frag} {H : Hp} : ∀ {as : List Addr} {rs : List (List Int)}, RowsAt H as rs → DpAll K H (as.map V.ref) (rs.map dInts)
  | [], [], _ => .nil
  | _ :: as, r :: rs, h => .cons (.lst (SqL.of h.1) (dp_ints r)) (RowsAt.dp h.2)
  | [], _ :: _, h => h.elim
  | _ :: _, [], h => h.elim
/-- {x: True for x in xs}, a list of unlike ints -/
theorem dc_ints {K : PySem.W.Frag} {te : TE} {i : Nat} {tt : TT} {tk tv : TE} {vs : List Nat} {σ : L2.St} {H0 H : Hp} {Q : VK} {a : Addr} {xs : List Int} (hte : ∀ R : VK, R (.ref a) H → te σ H0 R) (ha : H a = some (.lst (xs.map V.int)))
    (hw : ∀ a, wipe ((wipe σ vs).set i a) vs = wipe σ vs)
    (ht : ∀ (y : Int) (H1 : Hp) (R : Bool → Hp → Prop), R true H1 → tt ((wipe σ vs).set i (some (.int y))) H1 R) (hk : ∀ (y : Int) (H1 : Hp) (R : VK), R (.int y) H1 → tk ((wipe σ vs).set i (some (.int y))) H1 R) (hv : ∀ (y : Int) (H1 : Hp) (R : VK), R (.bl true) H1 → tv ((wipe σ vs).set i (some (.int y))) H1 R)
    (nd : xs.Nodup) (hz : xs.length < sizeLine)
    (hq : ∀ D H', H D = none → H' D = some (.dK (kvB xs)) → L2.Same H H' → Q (.ref D) H') :
    tDc (iList K te) (gName i) tt tk tv vs σ H0 Q := by
  refine hte _ ⟨a, rfl, ⟨_, SqL.of ha⟩, fun D hD => ?_⟩
  have hDa : D ≠ a := fun e => by rw [e, ha] at hD; cases hD
  refine dc_it (walk_list (xs := xs.map V.int)) (fun k H' => L2.Same H H' ∧ H' D = some (.dK (kvB (xs.take k)))) ⟨Same.new hD, upd_same⟩ (fun k H' _ p => SqL.of (p.1 _ _ ha)) ?_ ?_
  · rintro k v H' H'' hk1 ⟨p1, p2⟩ ⟨rfl, ev⟩
    rw [List.length_map] at hk1
    obtain ⟨y, ey⟩ : ∃ y, xs[k]? = some y := ⟨_, List.getElem?_eq_getElem hk1⟩
    have ev' : v = .int y := by
      have := get_map ey
      rw [this] at ev
      exact (Option.some.inj ev).symm
    subst ev'
    refine ⟨hw _, ?_⟩
    refine ht y _ _ (iteT (hk y _ _ (hv y _ _ ⟨_, Sum.inl y, rfl, p2, ?_, ?_, ?_⟩)))
    · refine Nat.lt_of_le_of_lt ?_ hz
      unfold kvB
      rw [List.length_map, List.length_take]
      omega
    · exact Same.put p1 hD
    · have nin : y ∉ xs.take k := by
        intro hm
        have e2 : xs = xs.take k ++ xs.drop k := (List.take_append_drop k xs).symm
        rw [e2, List.nodup_append] at nd
        refine nd.2.2 y hm y (List.mem_iff_getElem?.mpr ⟨0, ?_⟩) rfl
        rw [List.getElem?_drop]
        exact ey
      rw [upd_same, putK_new _ (valV_none fun z => nin (kvB_key.mp z)), take_more ey]
      unfold kvB
      rw [List.map_append]
      rfl
  · rintro H' ⟨p1, p2⟩
    rw [List.length_map, List.take_length] at p2
    exact hq D _ hD p2 p1
/-- one dict of marks merged into another -/
theorem kvB_merge : ∀ (xs sl : List Int), ∃ sl', mergeK (kvB sl) (kvB xs) = kvB sl' ∧ (∀ z, z ∈ sl' ↔ z ∈ sl ∨ z ∈ xs) ∧ (sl.Nodup → sl'.Nodup)
  | [], sl => ⟨sl, rfl, fun z => by simp, id⟩
  | x :: xs, sl => by
    obtain ⟨s1, e1, m1, n1⟩ := kvB_put sl x
    obtain ⟨s2, e2, m2, n2⟩ := kvB_merge xs s1
    refine ⟨s2, ?_, fun z => ?_, fun nd => n2 (n1 nd)⟩
    · show mergeK (putK (kvB sl) (Sum.inl x) (V.bl true)) (kvB xs) = _
      rw [e1, e2]
    · rw [m2, m1, List.mem_cons]
      constructor
      · rintro ((h | h) | h)
        · exact .inl h
        · exact .inr (.inl h)
        · exact .inr (.inr h)
      · rintro (h | h | h)
        · exact .inl (.inl h)
        · exact .inl (.inr h)
        · exact .inr h
theorem kvB_len (sl : List Int) : (kvB sl).length = sl.length := by simp [kvB]
end My
namespace My
open PySem L2 U StX PM
section
variable {P : Program} {w : World} {K : PySem.W.Frag} {mg : Str → Option Value} {base : Heap}
theorem upd_upd {H : Hp} {p : Addr} {o o' : HO} : upd (upd H p o) p o' = upd H p o' := by
  funext b
  by_cases h : b = p
  · subst h; rw [upd_same, upd_same]
  · rw [upd_ne h, upd_ne h, upd_ne h]
theorem tgt_tab {n : Int} {f : PF} (wf : WF n f) (x : Int) : (valV (tgt (tab n f)) (Sum.inl x : Key)).isSome = !nonT n f x := by
  rw [tgt_val]
  cases h : nonT n f x with
  | true =>
    have := (nonT_iff wf).mp h
    refine decide_eq_false fun hm => ?_
    obtain ⟨⟨a, b⟩, hp, rfl⟩ := List.mem_map.mp hm
    exact this a ((mem_tab wf).mp hp)
  | false =>
    refine decide_eq_true ?_
    unfold nonT at h
    cases e : inv n f x with
    | none => rw [e] at h; cases h
    | some y => exact List.mem_map.mpr ⟨(y, x), (mem_tab wf).mpr ((inv_iff wf).mp e), rfl⟩
/-- {t: True for t in e.values()}, e a dict just made -/
theorem dc_valsF {l : List (Int × Int)} {te : TE} {i : Nat} {tt : TT} {tk tv : TE} {vs : List Nat} {σ : L2.St} {H0 H : Hp} {Q : VK}
    (hte : ∀ R : VK, (∀ d od, H d = none → R (.ref d) (upd H d (.frz od (.dK (kvI l))))) → te σ H0 R)
    (hw : ∀ a, wipe ((wipe σ vs).set i a) vs = wipe σ vs)
    (ht : ∀ (y : Int) (H1 : Hp) (R : Bool → Hp → Prop), R true H1 → tt ((wipe σ vs).set i (some (.int y))) H1 R) (hk : ∀ (y : Int) (H1 : Hp) (R : VK), R (.int y) H1 → tk ((wipe σ vs).set i (some (.int y))) H1 R) (hv : ∀ (y : Int) (H1 : Hp) (R : VK), R (.bl true) H1 → tv ((wipe σ vs).set i (some (.int y))) H1 R)
    (nd : (l.map (·.2)).Nodup) (hz : l.length < sizeLine)
    (hq : ∀ D H', H D = none → H' D = some (.dK (tgt l)) → L2.Same H H' → Q (.ref D) H') :
    tDc (iVals te) (gName i) tt tk tv vs σ H0 Q := by
  refine hte _ fun d od hd => ⟨d, od, kvI l, rfl, upd_same, fun D hD => ?_⟩
  have hDd : D ≠ d := fun e => by rw [e, upd_same] at hD; cases hD
  have hD0 : H D = none := by rw [upd_ne hDd] at hD; exact hD
  refine dc_it walk_values (fun k H' => H' d = some (.frz od (.dK (kvI l))) ∧ L2.Same H H' ∧ H' D = some (.dK (tgt (l.take k)))) ⟨?_, Same.put (Same.new hd) hD0, upd_same⟩ (fun k H' _ p => p.1) ?_ ?_
  · rw [upd_ne hDd.symm]; exact upd_same
  · rintro k v H' H'' hk1 ⟨p1, p2, p3⟩ ⟨rfl, kk, e1⟩
    obtain ⟨x, y, exy, rfl, rfl⟩ := kvI_get e1
    refine ⟨hw _, ?_⟩
    refine ht y _ _ ?_
    refine iteT ?_
    refine hk _ _ _ (hv _ _ _ ⟨_, Sum.inl y, rfl, p3, Nat.lt_of_le_of_lt (tgt_len ..) hz, ?_⟩)
    refine ⟨?_, Same.put p2 hD0, ?_⟩
    · rw [upd_ne hDd.symm]; exact p1
    · have nin : y ∉ (l.take k).map (·.2) := by
        intro hm
        have e2 : l.map (·.2) = (l.take k).map (·.2) ++ (l.drop k).map (·.2) := by rw [← List.map_append, List.take_append_drop]
        rw [e2, List.nodup_append] at nd
        refine nd.2.2 _ hm y (List.mem_map.mpr ⟨(x, y), ?_, rfl⟩) rfl
        refine List.mem_iff_getElem?.mpr ⟨0, ?_⟩
        rw [List.getElem?_drop]
        exact exy
      rw [upd_same, putK_new _ (valV_none fun z => nin (tgt_key.mp z)), take_more exy]
      unfold tgt
      rw [List.map_append]
      rfl
  · rintro H' ⟨p1, p2, p3⟩
    rw [kvI_length, List.take_length] at p3
    exact hq D _ hD0 p3 p2
structure Prt (n : Int) (f : PF) (H H' : Hp) (lh se : Addr) (ex : List Addr) (b : List Int) (hs : List Addr) (sl : List Int) (st : List Int) : Prop where
  sm : Same H H'
  l : H' lh = some (.lst (hs.map V.ref))
  s : H' se = some (.dK (kvB sl))
  r : RowsAt H' hs (st.map (rowN f))
  m : ∀ x, x ∈ sl ↔ x ∈ seenL f (b ++ st)
  nd : sl.Nodup
  nw : ∀ a ∈ hs, H a = none ∧ a ≠ lh ∧ a ≠ se ∧ a ∉ ex
theorem Prt.slen {n : Int} {f : PF} {H H' : Hp} {lh se : Addr} {ex hs : List Addr} {b sl st : List Int} (wf : WF n f) (p : Prt n f H H' lh se ex b hs sl st) (h : ∀ e ∈ b ++ st, 0 ≤ e ∧ e < n) : sl.length ≤ n.toNat := by
  refine len_range p.nd fun x hx => ?_
  obtain ⟨e, he, hm⟩ := mem_seenL.mp ((p.m x).mp hx)
  have := h e he
  exact (rowN_is wf this.1 this.2).dom wf this.1 this.2 x hm
/-- one row more, from a new list r, its marks merged -/
theorem Prt.more {n : Int} {f : PF} {H H1 H2 H3 : Hp} {lh se : Addr} {ex hs : List Addr} {b sl sl' st : List Int} {e : Int} {r : Addr} (p : Prt n f H H1 lh se ex b hs sl st) (hl0 : H lh = none) (hs0 : H se = none) (nls : lh ≠ se) (hex : ∀ a ∈ ex, H1 a ≠ none)
    (hr : H1 r = none) (s2 : Same H1 H2) (hr2 : H2 r = some (.lst ((rowN f e).map V.int))) (m1 : ∀ z, z ∈ sl' ↔ z ∈ sl ∨ z ∈ rowN f e) (n1 : sl.Nodup → sl'.Nodup) (s3 : Same (upd H2 lh (.lst (hs.map V.ref ++ [.ref r]))) H3) :
    Prt n f H (upd H3 se (.dK (kvB sl'))) lh se ex b (hs ++ [r]) sl' (st ++ [e]) := by
  have rl : r ≠ lh := fun z => by rw [z, p.l] at hr; cases hr
  have rs : r ≠ se := fun z => by rw [z, p.s] at hr; cases hr
  have r0 : H r = none := p.sm.free hr
  have rx : r ∉ ex := fun z => hex r z hr
  refine ⟨?_, ?_, upd_same, ?_, ?_, n1 p.nd, ?_⟩
  · refine Same.put ?_ hs0
    exact (Same.put (p.sm.trans s2) hl0).trans s3
  · rw [upd_ne nls, s3 _ _ upd_same, List.map_append]
    rfl
  · rw [List.map_append]
    refine RowsAt.snoc ?_ ?_
    · have h1 := (p.r.same s2).off (p := lh) (o := .lst (hs.map V.ref ++ [.ref r])) (fun z => (p.nw lh z).2.1 rfl)
      exact (h1.same s3).off fun z => (p.nw se z).2.2.1 rfl
    · rw [upd_ne rs]
      exact s3 _ _ (by rw [upd_ne rl]; exact hr2)
  · intro x
    rw [m1, p.m, mem_seenL, mem_seenL]
    constructor
    · rintro (⟨e', h1, h2⟩ | h)
      · exact ⟨e', by rw [← List.append_assoc]; exact List.mem_append_left _ h1, h2⟩
      · exact ⟨e, by simp, h⟩
    · rintro ⟨e', h1, h2⟩
      rw [← List.append_assoc] at h1
      rcases List.mem_append.mp h1 with h1 | h1
      · exact .inl ⟨e', h1, h2⟩
      · rw [List.mem_singleton] at h1
        subst h1
        exact .inr h2
  · intro a ha
    rcases List.mem_append.mp ha with ha | ha
    · exact p.nw a ha
    · rw [List.mem_singleton] at ha
      subst ha
      exact ⟨r0, rl, rs, rx⟩
def spParts (C : Addr) : Sp := fun vs H Q _ => ∃ a n f, vs = [.ref a] ∧ IsMap C H a n f ∧ ∀ t lc lh cs hs H', Same H H' → H' t = some (.tup [.ref lc, .ref lh]) → H' lc = some (.lst (cs.map V.ref)) → H' lh = some (.lst (hs.map V.ref)) →
  RowsAt H' cs ((cycS n f).map (rowN f)) → RowsAt H' hs ((nons n f).map (rowN f)) → H lc = none → H lh = none → lc ≠ lh → (∀ a ∈ cs, H a = none ∧ a ≠ lc ∧ a ≠ lh) → (∀ a ∈ hs, H a = none ∧ a ≠ lc ∧ a ≠ lh) → Q (.ref t) H'
theorem ok_parts_of (T : Txt K mg) : FnR P w K mg base CX0 3 T.f_parts_of (spParts T.C_Map) := by
  refine T.A_parts_of.ok sc_parts_of (fun vs H Q E h => ?_) (fun cdv A outer s H vs Q E hr h => ?_)
  · obtain ⟨a, n, f, rfl, _⟩ := h
    rfl
  · obtain ⟨a, n, f, rfl, hm, q⟩ := h
    have hu := hu_of hr
    refine ⟨_, pss_cons (ps_par (i := 1) (j := 2) rfl sc_parts_of.nd rfl rfl (by decide) rfl rfl (pa_cons (pe_propR (pv 0) T.o_Map.cl T.P_Map_arrows (ok_arrows T) (hr.mono (by decide)))
          (pa_cons (pe_dc (own := [("target", 7)]) (g := gName 7) (tt := tYes) rfl sc_parts_of.nd (pi_values (pe_frz (pe_propR (pv 0) T.o_Map.cl T.P_Map_arrows (ok_arrows T) (hr.mono (by decide)))))
            (blkOk_by (own := [("target", 7)]) (N := n_parts_of) (sc := defScope s_parts_of) (by decide +kernel))
            (fun _ _ _ _ _ => pg_name (i := 7) sc_parts_of.nd rfl (Or.inl rfl)) (fun _ _ _ _ _ => pts_nil) (fun _ _ _ _ _ => pv 7) (fun _ _ _ _ _ => pe_bl)) pa_nil)) (by rfl))
      (pss_cons (ps_par3 (i := 3) (j := 4) (l := 5) rfl sc_parts_of.nd rfl rfl rfl (by decide) (by decide) (by decide) rfl rfl rfl (pa_cons (pe_lst pa_nil) (pa_cons (pe_lst pa_nil) (pa_cons pe_dnewK pa_nil))) (by rfl))
      (pss_cons (ps_for PassesOwn.never rfl (pi_range1 rfl T.n_range (pa_cons (pe_propR (pv 0) T.o_Map.cl T.P_Map_size (ok_size T) (hr.mono (by decide))) pa_nil)) (pg_name (i := 6) sc_parts_of.nd rfl (Or.inl rfl))
        (pss_one (ps_if (pt_cmp (pc_dnotin hu (pv 6) (pv 2)))
          (pss_cons (ps_expr (pe_bm PySem.F.plainAttrs_list PySem.F.slot_list_append PySem.F.type_list_append mt_append (pv 4) (pa_cons (pe_callR (ok_row_from T) (hr.mono (by decide)) T.A_row_from.kp rfl T.g_row_from pass0 (pa_cons (pv 1) (pa_cons (pv 6) pa_nil))) pa_nil)))
          (pss_one (ps_expr (pe_bm PySem.F.plainAttrs_dict PySem.F.slot_dict_update PySem.F.type_dict_update mt_updD (pv 5) (pa_cons (pe_dc (own := [("one", 8)]) (g := gName 8) (tt := tYes) rfl sc_parts_of.nd (pi_list (pe_ix ix_list (pv 4) (pe_un un_neg pe_int) (fun _ _ => rfl)))
            (blkOk_by (own := [("one", 8)]) (N := n_parts_of) (sc := defScope s_parts_of) (by decide +kernel))
            (fun _ _ _ _ _ => pg_name (i := 8) sc_parts_of.nd rfl (Or.inl rfl)) (fun _ _ _ _ _ => pts_nil) (fun _ _ _ _ _ => pv 8) (fun _ _ _ _ _ => pe_bl)) pa_nil))))) pss_nil)))
      (pss_cons (ps_for PassesOwn.never rfl (pi_range1 rfl T.n_range (pa_cons (pe_propR (pv 0) T.o_Map.cl T.P_Map_size (ok_size T) (hr.mono (by decide))) pa_nil)) (pg_name (i := 6) sc_parts_of.nd rfl (Or.inl rfl))
        (pss_one (ps_if (pt_cmp (pc_dnotin hu (pv 6) (pv 5)))
          (pss_cons (ps_expr (pe_bm PySem.F.plainAttrs_list PySem.F.slot_list_append PySem.F.type_list_append mt_append (pv 3) (pa_cons (pe_callR (ok_row_from T) (hr.mono (by decide)) T.A_row_from.kp rfl T.g_row_from pass0 (pa_cons (pv 1) (pa_cons (pv 6) pa_nil))) pa_nil)))
          (pss_one (ps_expr (pe_bm PySem.F.plainAttrs_dict PySem.F.slot_dict_update PySem.F.type_dict_update mt_updD (pv 5) (pa_cons (pe_dc (own := [("one", 8)]) (g := gName 8) (tt := tYes) rfl sc_parts_of.nd (pi_list (pe_ix ix_list (pv 3) (pe_un un_neg pe_int) (fun _ _ => rfl)))
            (blkOk_by (own := [("one", 8)]) (N := n_parts_of) (sc := defScope s_parts_of) (by decide +kernel))
            (fun _ _ _ _ _ => pg_name (i := 8) sc_parts_of.nd rfl (Or.inl rfl)) (fun _ _ _ _ _ => pts_nil) (fun _ _ _ _ _ => pv 8) (fun _ _ _ _ _ => pe_bl)) pa_nil))))) pss_nil)))
      (pss_one (ps_ret (pe_tup (pa_cons (pv 3) (pa_cons (pv 4) pa_nil)))))))), ?_⟩
    obtain ⟨dx, fs, h1⟩ := at_map hm
    have wf := hm.wf
    have hn3 := hm.hi
    have hn1 := hm.lo
    have tl := tab_len n f
    refine ⟨_, rfl, a, dx, fs, rfl, h1, a, n, f, rfl, hm, fun d hd => ?_⟩
    have s1 : Same H (upd H d (.dK (kvI (tab n f)))) := Same.new hd
    refine dc_valsF (H := upd H d (.dK (kvI (tab n f)))) (l := tab n f) (fun R r => ?_) (fun _ => rfl) (fun _ _ _ r => r) (fun _ _ _ r => ⟨_, rfl, r⟩) (fun _ _ _ r => r) (vals_tab wf) (small1000 (by omega)) (fun tg H2 ntg htg s2 => ?_)
    · refine ⟨_, rfl, a, dx, fs, rfl, s1 _ _ h1, a, n, f, rfl, hm.same s1, fun p hp => ⟨p, _, rfl, upd_same, trivial, fun od => ?_⟩⟩
      rw [upd_upd]
      exact r p od hp
    refine ⟨_, _, rfl, ?_⟩
    have s12 := s1.trans s2
    have hd2 : H2 d = some (.dK (kvI (tab n f))) := s2 _ _ upd_same
    refine ⟨(by show 0 ≤ sizeLine; decide), fun lc hlc => ⟨(by show 0 ≤ sizeLine; decide), fun lh hlh => fun se hse => ⟨_, _, _, rfl, ?_⟩⟩⟩
    have nlc : lc ≠ lh := ne_of_none upd_same hlh
    have ncs : lc ≠ se := ne_of_none (by rw [upd_ne nlc]; exact upd_same) hse
    have nhs : lh ≠ se := ne_of_none upd_same hse
    have s3 : Same H2 (upd (upd (upd H2 lc (.lst [])) lh (.lst [])) se (.dK [])) := ((Same.new hlc).trans (Same.new hlh)).trans (Same.new hse)
    have hlh2 : H2 lh = none := (Same.new hlc).free hlh
    have hse2 : H2 se = none := ((Same.new hlc).trans (Same.new hlh)).free hse
    refine ⟨_, rfl, a, dx, fs, rfl, (s12.trans s3) _ _ h1, a, n, f, rfl, hm.same (s12.trans s3), n, rfl, by omega, by omega, ?_⟩
    refine for_it (walk_range (lo := 0) (n := n.toNat)) (fun i σ H' => ∃ v6 v7 v8 hs sl, σ = [some (.ref a), some (.ref d), some (.ref tg), some (.ref lc), some (.ref lh), some (.ref se), v6, v7, v8] ∧ H' lc = some (.lst []) ∧ Prt n f H2 H' lh se [lc] [] hs sl ((rgI i).filter (nonT n f)))
      ⟨none, none, none, [], [], rfl, ?_, s3, ?_, upd_same, trivial, fun x => ?_, List.nodup_nil, fun a h => nomatch h⟩ (fun _ _ _ _ _ => trivial) ?_ ?_
    · rw [upd_ne ncs, upd_ne nlc, upd_same]
    · rw [upd_ne nhs, upd_same]; rfl
    · exact ⟨fun h => (nomatch h), fun h => (nomatch h)⟩
    · rintro i v σ H' H'' hi ⟨v6, v7, v8, hs, sl, rfl, c1, p⟩ ⟨rfl, rfl⟩
      have x0 : (0 : Int) ≤ 0 + (i : Nat) := by omega
      have x1 : (0 : Int) + (i : Nat) < n := by omega
      refine ⟨_, rfl, _, rfl, tg, _, rfl, DGet.k (k := Sum.inl (0 + (i : Nat) : Int)) (p.sm _ _ htg), _, rfl, ?_⟩
      rw [tgt_tab wf]
      have hst : ∀ e ∈ [] ++ (rgI i).filter (nonT n f), 0 ≤ e ∧ e < n := fun e he => by
        have := mem_rgI.mp (List.mem_filter.mp he).1
        omega
      have hsl := p.slen wf hst
      have hlen := p.r.len
      rw [List.length_map] at hlen
      have hfl : ((rgI i).filter (nonT n f)).length ≤ i := Nat.le_trans (List.length_filter_le _ _) (by simp [rgI])
      refine ifNB (fun hc => ?_) (fun hc => ?_)
      · have hnt : nonT n f (0 + (i : Nat)) = true := by simpa using hc
        refine ⟨_, rfl, .inl ⟨rfl, _, SqL.of p.l⟩, _, rfl, _, rfl, d, tab n f, n, f, 0 + (i : Nat), rfl, p.sm _ _ hd2, di_tab wf, wf, hn3, x0, x1, fun r H3 pre z hr0 sr hr2 row ho => ?_⟩
        have hrow : IsRow f (0 + (i : Nat)) (pre ++ [z]) := ⟨pre, z, rfl, row, ho⟩
        rw [← rowN_eq hrow] at hr2
        refine ⟨lh, _, .ref r, rfl, rfl, sr _ _ p.l, ?_, ?_⟩
        · rw [List.length_map]; exact small1000 (by omega)
        have rl : r ≠ lh := fun z => by rw [z, p.l] at hr0; cases hr0
        have rs : r ≠ se := fun z => by rw [z, p.s] at hr0; cases hr0
        have hs4 : (upd H3 lh (.lst (hs.map V.ref ++ [.ref r]))) se = some (.dK (kvB sl)) := by rw [upd_ne nhs.symm]; exact sr _ _ p.s
        have nrow := (rowN_is wf x0 x1).nd wf
        have drow := (rowN_is wf x0 x1).dom wf x0 x1
        have lrow := len_range nrow drow
        refine ⟨_, rfl, .inr (.inr (.inl ⟨rfl, .inl ⟨_, hs4⟩⟩)), ?_⟩
        refine dc_ints (a := r) (xs := rowN f (0 + (i : Nat))) (H := upd H3 lh (.lst (hs.map V.ref ++ [.ref r]))) (fun R rr => ?_) (by rw [upd_ne rl]; exact hr2) (fun _ => rfl) (fun _ _ _ r => r) (fun _ _ _ r => ⟨_, rfl, r⟩) (fun _ _ _ r => r) nrow (small1000 (by omega)) (fun D H5 nD hD s5 => ?_)
        · exact ⟨_, rfl, 1, rfl, lh, _, -1, _, rfl, rfl, SqL.of upd_same, atI_last _ _, rr⟩
        obtain ⟨sl', em, m1, n1⟩ := kvB_merge (rowN f (0 + (i : Nat))) sl
        refine ⟨se, D, _, _, rfl, rfl, ?_, s5 _ _ hs4, hD, ?_, ?_⟩
        · exact ne_of_none hs4 nD
        · rw [kvB_len, kvB_len]; exact Nat.le_trans (by omega : _ ≤ 1000) (by decide)
        rw [em]
        have pm := p.more hlh2 hse2 nhs (fun a ha => by rw [List.mem_singleton] at ha; rw [ha, c1]; simp) hr0 sr hr2 m1 n1 s5
        refine ⟨_, _, _, hs ++ [r], sl', rfl, ?_, ?_⟩
        · rw [upd_ne ncs]; exact s5 _ _ (by rw [upd_ne nlc]; exact sr _ _ c1)
        · rw [rgI_succ, List.filter_append, List.filter_cons_of_pos (by rw [Int.zero_add] at hnt; exact hnt), List.filter_nil]
          rw [Int.zero_add] at pm
          exact pm
      · have hnt : nonT n f ((i : Nat) : Int) = false := by rw [Int.zero_add] at hc; simpa using hc
        refine ⟨_, _, _, hs, sl, rfl, c1, ?_⟩
        rw [rgI_succ, List.filter_append, List.filter_cons_of_neg (by rw [hnt]; exact Bool.false_ne_true), List.filter_nil, List.append_nil]
        exact p
    · rintro σ H3 ⟨v6, v7, v8, hs, sl, rfl, c1, p⟩
      have s13 : Same H H3 := s12.trans p.sm
      refine ⟨_, rfl, a, dx, fs, rfl, s13 _ _ h1, a, n, f, rfl, hm.same s13, n, rfl, by omega, by omega, ?_⟩
      refine for_it (walk_range (lo := 0) (n := n.toNat)) (fun i σ H' => ∃ v6 v7 v8 cs sl st, σ = [some (.ref a), some (.ref d), some (.ref tg), some (.ref lc), some (.ref lh), some (.ref se), v6, v7, v8] ∧ Prt n f H2 H' lc se [lh] (nons n f) cs sl st ∧ selL f (nons n f) (rgI i) = nons n f ++ st ∧ H' lh = some (.lst (hs.map V.ref)) ∧ RowsAt H' hs ((nons n f).map (rowN f)))
        ⟨_, _, _, [], sl, [], rfl, ⟨p.sm, c1, p.s, trivial, fun x => ?_, p.nd, fun a h => nomatch h⟩, by simp [selL, rgI], p.l, p.r⟩ (fun _ _ _ _ _ => trivial) ?_ ?_
      · rw [List.append_nil]; exact p.m x
      · rintro i v σ H' H'' hi ⟨v6, v7, v8, cs, sl, st, rfl, p', est, e1, e2⟩ ⟨rfl, rfl⟩
        have x0 : (0 : Int) ≤ 0 + (i : Nat) := by omega
        have x1 : (0 : Int) + (i : Nat) < n := by omega
        obtain ⟨c, ec, hc1, hc2⟩ := selL_sub f (rgI i) (nons n f)
        rw [est] at ec
        have ec := List.append_cancel_left ec
        subst ec
        have hst : ∀ e ∈ nons n f ++ st, 0 ≤ e ∧ e < n := fun e he => by
          rcases List.mem_append.mp he with he | he
          · have := nons_dom he
            exact ⟨this.1, this.2.1⟩
          · have := mem_rgI.mp (hc1.subset he)
            omega
        have hsl := p'.slen wf hst
        have hlen := p'.r.len
        rw [List.length_map] at hlen
        have hfl : st.length ≤ i := Nat.le_trans hc1.length_le (by simp [rgI])
        refine ⟨_, rfl, _, rfl, se, _, rfl, DGet.k (k := Sum.inl (0 + (i : Nat) : Int)) p'.s, _, rfl, ?_⟩
        rw [kvB_val]
        refine ifN (fun hc => ?_) (fun hc => ?_)
        · have hns : ((i : Nat) : Int) ∉ seenL f (nons n f ++ st) := fun h => hc (by rw [Int.zero_add]; exact (p'.m _).mpr h)
          refine ⟨_, rfl, .inl ⟨rfl, _, SqL.of p'.l⟩, _, rfl, _, rfl, d, tab n f, n, f, 0 + (i : Nat), rfl, p'.sm _ _ hd2, di_tab wf, wf, hn3, x0, x1, fun r H3 pre z hr0 sr hr2 row ho => ?_⟩
          have hrow : IsRow f (0 + (i : Nat)) (pre ++ [z]) := ⟨pre, z, rfl, row, ho⟩
          rw [← rowN_eq hrow] at hr2
          refine ⟨lc, _, .ref r, rfl, rfl, sr _ _ p'.l, ?_, ?_⟩
          · rw [List.length_map]; exact small1000 (by omega)
          have rl : r ≠ lc := fun z => by rw [z, p'.l] at hr0; cases hr0
          have hs4 : (upd H3 lc (.lst (cs.map V.ref ++ [.ref r]))) se = some (.dK (kvB sl)) := by rw [upd_ne ncs.symm]; exact sr _ _ p'.s
          have nrow := (rowN_is wf x0 x1).nd wf
          have drow := (rowN_is wf x0 x1).dom wf x0 x1
          have lrow := len_range nrow drow
          refine ⟨_, rfl, .inr (.inr (.inl ⟨rfl, .inl ⟨_, hs4⟩⟩)), ?_⟩
          refine dc_ints (a := r) (xs := rowN f (0 + (i : Nat))) (H := upd H3 lc (.lst (cs.map V.ref ++ [.ref r]))) (fun R rr => ?_) (by rw [upd_ne rl]; exact hr2) (fun _ => rfl) (fun _ _ _ r => r) (fun _ _ _ r => ⟨_, rfl, r⟩) (fun _ _ _ r => r) nrow (small1000 (by omega)) (fun D H5 nD hD s5 => ?_)
          · exact ⟨_, rfl, 1, rfl, lc, _, -1, _, rfl, rfl, SqL.of upd_same, atI_last _ _, rr⟩
          obtain ⟨sl', em, m1, n1⟩ := kvB_merge (rowN f (0 + (i : Nat))) sl
          refine ⟨se, D, _, _, rfl, rfl, ?_, s5 _ _ hs4, hD, ?_, ?_⟩
          · exact ne_of_none hs4 nD
          · rw [kvB_len, kvB_len]; exact Nat.le_trans (by omega : _ ≤ 1000) (by decide)
          rw [em]
          have pm := p'.more hlc hse2 ncs (fun a ha => by rw [List.mem_singleton] at ha; rw [ha, e1]; simp) hr0 sr hr2 m1 n1 s5
          refine ⟨_, _, _, cs ++ [r], sl', st ++ [((i : Nat) : Int)], rfl, ?_, ?_, ?_, ?_⟩
          · rw [Int.zero_add] at pm
            exact pm
          · rw [rgI_succ, selL_one, est]
            unfold stp
            rw [if_neg hns, List.append_assoc]
          · rw [upd_ne nhs]; exact s5 _ _ (by rw [upd_ne nlc.symm]; exact sr _ _ e1)
          · have g1 := (e2.same sr).off (p := lc) (o := .lst (cs.map V.ref ++ [.ref r])) (fun z => (p.nw lc z).2.2.2 (by simp))
            exact (g1.same s5).off fun z => (p.nw se z).2.2.1 rfl
        · have hns : ((i : Nat) : Int) ∈ seenL f (nons n f ++ st) := (p'.m _).mp (by rw [Int.zero_add] at hc; exact hc)
          refine ⟨_, _, _, cs, sl, st, rfl, p', ?_, e1, e2⟩
          rw [rgI_succ, selL_one, est]
          unfold stp
          rw [if_pos hns]
      · rintro σ H4 ⟨v6, v7, v8, cs, sl', st, rfl, p', est, e1, e2⟩
        rw [cycS_eq] at est
        have est := List.append_cancel_left est
        subst est
        refine ⟨_, rfl, _, rfl, (by show 2 ≤ sizeLine; decide), fun t ht => ?_⟩
        have s5 : Same H4 (upd H4 t (.tup [.ref lc, .ref lh])) := Same.new ht
        refine q t lc lh cs hs _ ((s12.trans p'.sm).trans s5) upd_same (s5 _ _ p'.l) (s5 _ _ e1) (p'.r.same s5) (e2.same s5) (s12.free hlc) (s12.free hlh2) nlc (fun a ha => ?_) (fun a ha => ?_)
        · have := p'.nw a ha
          exact ⟨s12.free this.1, this.2.1, by simpa using this.2.2.2⟩
        · have := p.nw a ha
          exact ⟨s12.free this.1, by simpa using this.2.2.2, this.2.1⟩
/-! ### cycles_of, chains_of -/
end
end My
namespace My
open PySem L2 U StX PM
theorem asg_of {t : TE} {D : Ends} {σ : L2.St} {H : Hp} {i : Nat} (h : t σ H (fun v H' => D.nx (σ.set i (some v)) H')) : tAsg t (gName i) D σ H := h
/-! ### lists of ints: in, comprehensions -/
theorem inV_ints (x : Int) (l : List Int) : inV (.int x) (l.map V.int) = decide (x ∈ l) := by
  unfold inV
  rw [Bool.eq_iff_iff, List.any_eq_true, decide_eq_true_eq]
  constructor
  · rintro ⟨v, hv, e⟩
    obtain ⟨y, hy, rfl⟩ := List.mem_map.mp hv
    have : y = x := by simpa [eqV] using e
    exact this ▸ hy
  · intro h
    exact ⟨.int x, List.mem_map.mpr ⟨x, h, rfl⟩, by simp [eqV]⟩
theorem flat_ints (l : List Int) : (l.map V.int).all flatV = true := by
  rw [List.all_eq_true]
  intro v hv
  obtain ⟨y, _, rfl⟩ := List.mem_map.mp hv
  rfl
/-! ### rows with marks -/
def PairsAt (H : Hp) : List Addr → List Addr → List Bool → Prop
  | [], [], [] => True
  | p :: ps, a :: as, b :: bs => H p = some (.tup [.ref a, .bl b]) ∧ PairsAt H ps as bs
  | _, _, _ => False
theorem PairsAt.map {H H' : Hp} : ∀ {ps as : List Addr} {bs : List Bool}, PairsAt H ps as bs → (∀ p ∈ ps, ∀ xs, H p = some (.tup xs) → H' p = some (.tup xs)) → PairsAt H' ps as bs
  | [], [], [], _, _ => trivial
  | _ :: ps, _ :: as, _ :: bs, h, k => ⟨k _ List.mem_cons_self _ h.1, PairsAt.map h.2 fun a ha => k a (List.mem_cons_of_mem _ ha)⟩
  | [], [], _ :: _, h, _ => h.elim
  | [], _ :: _, _, h, _ => h.elim
  | _ :: _, [], _, h, _ => h.elim
  | _ :: _, _ :: _, [], h, _ => h.elim
theorem PairsAt.same {H H' : Hp} {ps as : List Addr} {bs : List Bool} (h : PairsAt H ps as bs) (s : Same H H') : PairsAt H' ps as bs := h.map fun a _ xs e => s a _ e
theorem PairsAt.off {H : Hp} {ps as : List Addr} {bs : List Bool} {q : Addr} {o u : HO} (h : PairsAt H ps as bs) (hq : H q = some u) (nt : ∀ xs, u ≠ .tup xs) : PairsAt (upd H q o) ps as bs := h.map fun a ha xs e => by
  have hne : a ≠ q := fun z => by subst z; rw [hq] at e; exact nt _ (Option.some.inj e)
  rw [upd_ne hne]; exact e
theorem PairsAt.snoc {H : Hp} {p a : Addr} {b : Bool} : ∀ {ps as : List Addr} {bs : List Bool}, PairsAt H ps as bs → H p = some (.tup [.ref a, .bl b]) → PairsAt H (ps ++ [p]) (as ++ [a]) (bs ++ [b])
  | [], [], [], _, e => ⟨e, trivial⟩
  | _ :: ps, _ :: as, _ :: bs, h, e => ⟨h.1, PairsAt.snoc h.2 e⟩
  | [], [], _ :: _, h, _ => h.elim
  | [], _ :: _, _, h, _ => h.elim
  | _ :: _, [], _, h, _ => h.elim
  | _ :: _, _ :: _, [], h, _ => h.elim
theorem PairsAt.len {H : Hp} : ∀ {ps as : List Addr} {bs : List Bool}, PairsAt H ps as bs → ps.length = as.length ∧ ps.length = bs.length
  | [], [], [], _ => ⟨rfl, rfl⟩
  | _ :: ps, _ :: as, _ :: bs, h => by
    have := PairsAt.len h.2
    simp [this.1.symm, this.2.symm]
  | [], [], _ :: _, h => h.elim
  | [], _ :: _, _, h => h.elim
  | _ :: _, [], _, h => h.elim
  | _ :: _, _ :: _, [], h => h.elim
theorem PairsAt.get {H : Hp} : ∀ {ps as : List Addr} {bs : List Bool}, PairsAt H ps as bs → ∀ (i : Nat) (p : Addr), ps[i]? = some p → ∃ a b, as[i]? = some a ∧ bs[i]? = some b ∧ H p = some (.tup [.ref a, .bl b])
  | [], [], [], _, i, a, e => by simp at e
  | _ :: ps, a :: as, b :: bs, h, 0, p, e => by cases e; exact ⟨a, b, rfl, rfl, h.1⟩
  | _ :: ps, _ :: as, _ :: bs, h, i + 1, p, e => PairsAt.get h.2 i p e
  | [], [], _ :: _, h, _, _, _ => h.elim
  | [], _ :: _, _, h, _, _, _ => h.elim
  | _ :: _, [], _, h, _, _, _ => h.elim
  | _ :: _, _ :: _, [], h, _, _, _ => h.elim
end My
namespace My
open PySem L2 U StX PM
/-! ### rows by their first elements -/
def RowsZ (f : PF) (H : Hp) (zs : List (Addr × Int)) : Prop := ∀ z ∈ zs, H z.1 = some (.lst ((rowN f z.2).map V.int))
theorem RowsAt.zs {f : PF} {H : Hp} : ∀ {as : List Addr} {l : List Int}, RowsAt H as (l.map (rowN f)) → ∃ zs : List (Addr × Int), zs.map (·.1) = as ∧ zs.map (·.2) = l ∧ RowsZ f H zs
  | [], [], _ => ⟨[], rfl, rfl, fun z h => nomatch h⟩
  | a :: as, x :: l, h => by
    obtain ⟨zs, e1, e2, r⟩ := RowsAt.zs h.2
    refine ⟨(a, x) :: zs, by simp [e1], by simp [e2], fun z hz => ?_⟩
    rcases List.mem_cons.mp hz with rfl | hz
    · exact h.1
    · exact r z hz
  | [], _ :: _, h => h.elim
  | _ :: _, [], h => h.elim
theorem RowsZ.at {f : PF} {H : Hp} : ∀ {zs : List (Addr × Int)}, RowsZ f H zs → RowsAt H (zs.map (·.1)) ((zs.map (·.2)).map (rowN f))
  | [], _ => trivial
  | z :: zs, h => ⟨h z List.mem_cons_self, RowsZ.at fun x hx => h x (List.mem_cons_of_mem _ hx)⟩
/-! ### data that may be compared -/
theorem lay_ints : ∀ (r : List Int), PyData.canLayAll0 (r.map PyData.int) = true ∧ PyData.depthAll (r.map PyData.int) = 0
  | [] => ⟨rfl, rfl⟩
  | x :: r => by
    have := lay_ints r
    constructor
    · show (PyData.canLay0 (.int x) && PyData.canLayAll0 (r.map PyData.int)) = true
      rw [this.1]; rfl
    · show max (PyData.depth (.int x)) (PyData.depthAll (r.map PyData.int)) = 0
      rw [this.2]; rfl
theorem lay_rows : ∀ (rs : List (List Int)), PyData.canLayAll0 (rs.map dInts) = true ∧ PyData.depthAll (rs.map dInts) ≤ 1
  | [] => ⟨rfl, Nat.zero_le _⟩
  | r :: rs => by
    have h1 := lay_ints r
    have h2 := lay_rows rs
    constructor
    · show (PyData.canLay0 (dInts r) && PyData.canLayAll0 (rs.map dInts)) = true
      rw [h2.1, Bool.and_true]
      exact h1.1
    · show max (PyData.depth (dInts r)) (PyData.depthAll (rs.map dInts)) ≤ 1
      have : PyData.depth (dInts r) = 1 := by show PyData.depthAll (r.map PyData.int) + 1 = 1; rw [h1.2]
      omega
theorem shaped_rows (rs : List (List Int)) : SeqAt.shaped (.list (rs.map dInts)) = true := by
  have h := lay_rows rs
  unfold SeqAt.shaped
  have h1 : PyData.canLay0 (.list (rs.map dInts)) = true := h.1
  have h2 : PyData.depth (.list (rs.map dInts)) ≤ 64 := by
    show PyData.depthAll (rs.map dInts) + 1 ≤ 64
    omega
  rw [h1, decide_eq_true h2]
  rfl
end My
namespace My
open PySem L2 U StX PM
theorem SqL.same {K : PySem.W.Frag} {H H' : Hp} {a : Addr} {xs : List V} (h : SqL K H a xs) (s : Same H H') : SqL K H' a xs := by
  rcases h with (h | ⟨o, h⟩) | h
  · exact .inl (.inl (s _ _ h))
  · exact .inl (.inr ⟨o, s _ _ h⟩)
  · exact .inr h
theorem Same.off {H H1 H2 : Hp} {p : Addr} (s : Same H H1) (o : Off p H1 H2) (h : H p = none) : Same H H2 := fun b u e => o b u (ne_of_none e h) (s b u e)
theorem yes_ {σ : L2.St} {H : Hp} {A B : Hp → Prop} (h : A H) : tYes σ H (fun b H3 => if b = true then A H3 else B H3) := by
  show (if true = true then A H else B H)
  rw [if_pos rfl]
  exact h
theorem PoolAt.same {H H' : Hp} {p : Addr} (h : PoolAt H p) (s : Same H H') : PoolAt H' p := by
  obtain ⟨a, b, e, r⟩ := h
  exact ⟨a, b, s _ _ e, r⟩
theorem PoolAt.lst {H : Hp} {p : Addr} (h : PoolAt H p) : ∃ xs, H p = some (.lst xs) := by
  obtain ⟨a, b, e, r⟩ := h
  exact ⟨_, e⟩
theorem PoolAt.ne {H : Hp} {p q : Addr} (h : PoolAt H p) (hq : H q = none) : p ≠ q := by
  obtain ⟨xs, e⟩ := h.lst
  exact ne_of_none e hq
def spLaw (K : PySem.W.Frag) : Sp := fun vs H Q _ => ∃ (a : Addr) (ns : List Int), vs = [.ref a] ∧ SqL K H a (ns.map V.int) ∧ ns.length ≤ 63 ∧ ∀ H', Q (.bl true) H'
theorem IsMap.off {C p : Addr} {H H' : Hp} {m : Addr} {n : Int} {f : PF} (a : IsMap C H m n f) (o : Off p H H') (h : ∃ xs, H p = some (.lst xs)) : IsMap C H' m n f := by
  obtain ⟨⟨dx, D, h1, h2⟩, wf, lo, hi⟩ := a
  obtain ⟨xs, h⟩ := h
  exact ⟨⟨dx, D, o _ _ (fun e => by rw [e, h] at h1; cases h1) h1, o _ _ (fun e => by rw [e, h] at h2; cases h2) h2⟩, wf, lo, hi⟩
/-- Map(n, d) -/
theorem init_of {C : Addr} {H : Hp} {d : Addr} {n : Int} {l : List (Int × Int)} {f : PF} {R : VK} {E : XK} {x dx : Addr} (hd : H d = some (.dK (kvI l))) (di : DI l f) (wf : WF n f) (h1 : 1 ≤ n) (h3 : n ≤ 300) (hl : l.length ≤ 1000)
    (hx : H x = none) (hdx : H dx = none) (ne : dx ≠ x) (q : ∀ H', Same H H' → IsMap C H' x n f → R .non H') :
    spInit C [.ref x, .int n, .ref d] (upd (upd H dx (.own x)) x (.ins C dx [])) R E := by
  have s0 : Same H (upd (upd H dx (.own x)) x (.ins C dx [])) := fun b o e => by
    rw [upd_ne (ne_of_none e hx), upd_ne (ne_of_none e hdx)]
    exact e
  refine ⟨x, dx, d, n, l, f, rfl, upd_same, s0 _ _ hd, di, wf, h1, h3, hl, fun H' D o nD hp hD => ?_⟩
  exact q H' (fun b u e => o b u (ne_of_none e hx) (s0 b u e)) ⟨⟨dx, D, hp, hD⟩, wf, h1, h3⟩
/-- the law's draw, told by the pool alone -/
theorem draw_of {H : Hp} {p : Addr} {n : Int} {Q : VK} {E : XK} (h : PoolAt H p) (n0 : 0 < n) (n1 : n < 1073741824) (k : ∀ r H', 0 ≤ r → r < n → PoolAt H' p → Off p H H' → (∃ xs, H' = upd H p (.lst xs)) → Q (.int r) H') : spDraw [.ref p, .int n] H Q E := by
  obtain ⟨a, b, e, ha, hb, hc⟩ := h
  exact ⟨p, a, b, n, rfl, e, ha, hb, hc, n0, n1, fun a' b' r h1 h2 h3 h4 h5 => k r _ h4 h5 ⟨a', b', upd_same, h1, h2, h3⟩ Off.lock ⟨_, rfl⟩⟩
end My
namespace My
open PySem L2 U StX PM
theorem paired_at {α β : Type} {R : α → β → Prop} {xs : List α} {ys : List β} (h : Paired R xs ys) {i : Nat} {x : α} (e : xs[i]? = some x) : ∃ y, ys[i]? = some y ∧ R x y := by
  induction h generalizing i with
  | nil => cases e
  | cons r _ ih =>
    cases i with
    | zero => cases e; exact ⟨_, rfl, r⟩
    | succ i => exact ih e
theorem PoolAt.put {H : Hp} {p q : Addr} {o : HO} (h : PoolAt H p) (n : p ≠ q) : PoolAt (upd H q o) p := by
  obtain ⟨a, b, e, r⟩ := h
  exact ⟨a, b, by rw [upd_ne n]; exact e, r⟩
theorem draw_R {i : Nat} {tb : TE} {σ : L2.St} {H : Hp} {Q : VK} {p : Addr} {n : Int} (hi : σ[i]? = some (some (.ref p))) (hb : ∀ R : VK, R (.int n) H → tb σ H R) (h : PoolAt H p) (n0 : 0 < n) (n1 : n < 1073741824)
    (k : ∀ r H', 0 ≤ r → r < n → PoolAt H' p → Off p H H' → Q (.int r) H') : tCallR spDraw E0 (tCons (tVar i) (tCons tb tNil)) σ H Q :=
  ⟨_, hi, hb _ (draw_of (E := E0) h n0 n1 fun r H' h1 h2 h3 h4 _ => k r H' h1 h2 h3 h4)⟩
theorem dgetL {H : Hp} {d : Addr} {l : List (Int × Int)} {f : PF} (h : H d = some (.dK (kvI l))) (di : DI l f) (i : Int) : DGet H d (.int i) ((f i).map V.int) := by
  have := DGet.k (k := Sum.inl i) h
  rw [valV_kvI, di.at_] at this
  exact this
end My
namespace My
open PySem L2 U StX PM
/-- [e for x in range(..)], each e a value that stands alone -/
theorem lc_vals {wi : TI} {i : Nat} {te : TE} {vs : List Nat} {σ : L2.St} {H0 H : Hp} {Q : VK} {n : Nat} (v : Nat → V) (hwi : ∀ R : It → Hp → Prop, R (Itr 0 n) H → wi σ H0 R)
    (hw : ∀ a, wipe ((wipe σ vs).set i a) vs = wipe σ vs) (hn : n < sizeLine)
    (he : ∀ k : Nat, k < n → ∀ H1, L2.Same H H1 → ∀ R : VK, (∀ H2, L2.Same H1 H2 → R (v k) H2) → te ((wipe σ vs).set i (some (.int (0 + (k : Nat))))) H1 R)
    (hq : ∀ D H', L2.Same H H' → H D = none → H' D = some (.lst ((List.range n).map v)) → Q (.ref D) H') :
    tLc wi (gName i) tYes te vs σ H0 Q := by
  refine hwi _ fun D hD => ?_
  refine lc_it (walk_range (lo := 0)) (fun k H' => L2.Same H H' ∧ H' D = some (.lst ((List.range k).map v))) ⟨Same.new hD, upd_same⟩ (fun _ _ _ _ => trivial) ?_ ?_
  · rintro k x H' H'' hk ⟨s1, e1⟩ ⟨rfl, rfl⟩
    refine ⟨hw _, yes_ ?_⟩
    refine he k hk _ s1 _ fun H2 s2 => ?_
    refine ⟨_, s2 _ _ e1, by rw [List.length_map, List.length_range]; omega, Same.put (s1.trans s2) hD, ?_⟩
    rw [upd_same, List.range_succ, List.map_append]
    rfl
  · rintro H' ⟨s1, e1⟩
    exact hq D H' s1 hD e1
theorem nonMapV.same {H H' : Hp} {x : V} (h : nonMapV H x) (s : L2.Same H H') : nonMapV H' x := by
  cases x with
  | ref b =>
    rcases h with ⟨xs, e⟩ | ⟨xs, e⟩ | ⟨xs, e⟩
    · exact .inl ⟨_, s _ _ e⟩
    · exact .inr (.inl ⟨_, s _ _ e⟩)
    · exact .inr (.inr ⟨_, s _ _ e⟩)
  | _ => exact h
end My
namespace My
open PySem L2 U StX PM
/-! ### dict([(a, b) for x, y in d.items() if ..]) -/
theorem _root_.PySem.Paired.map {α β : Type} {R S : α → β → Prop} : ∀ {xs : List α} {ys : List β}, Paired R xs ys → (∀ x ∈ xs, ∀ y, R x y → S x y) → Paired S xs ys
  | _, _, .nil, _ => .nil
  | _, _, .cons h r, k => .cons (k _ List.mem_cons_self _ h) (PySem.Paired.map r fun x hx => k x (List.mem_cons_of_mem _ hx))
theorem madeI_step {c : Int → Int → Bool} {kf vi : Int → Int → Int} {l : List (Int × Int)} {i : Nat} {x y : Int} (h : l[i]? = some (x, y)) :
    madeI c kf vi (l.take (i + 1)) = madeI c kf vi (l.take i) ++ (if c x y = true then [(kf x y, vi x y)] else []) := by
  rw [take_more h]
  unfold madeI
  rw [List.filter_append, List.map_append]
  by_cases hc : c x y = true
  · simp [hc]
  · have hc' : c x y = false := by simpa using hc
    simp [hc']
theorem lc_itemsT {K : PySem.W.Frag} {d : Addr} {l : List (Int × Int)} {te : TE} {i j : Nat} {tt : TT} {tv : TE} {vs : List Nat} {σ : L2.St} {H : Hp} {Q : VK} (c : Int → Int → Bool) (kf vi : Int → Int → Int)
    (hd : H d = some (.dK (kvI l))) (hte : ∀ H' (R : VK), R (.ref d) H' → Off d H H' → te σ H' R)
    (hw : ∀ a b, wipe (((wipe σ vs).set i a).set j b) vs = wipe σ vs)
    (hb : ∀ x y, (x, y) ∈ l → ∀ H1, Off d H H1 → Rd H1 d (.dK (kvI l)) → (∀ R : Bool → Hp → Prop, R (c x y) H1 → tt (((wipe σ vs).set i (some (.int x))).set j (some (.int y))) H1 R) ∧
      (c x y = true → ∀ R : VK, (∀ p, H1 p = none → R (.ref p) (upd H1 p (.tup [.int (kf x y), .int (vi x y)]))) → tv (((wipe σ vs).set i (some (.int x))).set j (some (.int y))) H1 R))
    (hz : l.length < sizeLine)
    (hq : ∀ (D : Addr) (ps : List Addr) (H' : Hp), H D = none → H' D = some (.lst (ps.map V.ref)) → Paired (fun p (kv : Key × V) => H' p = some (.tup [kV kv.1, kv.2])) ps (kvI (madeI c kf vi l)) → L2.Same H H' → Q (.ref D) H') :
    tLockE (tLc (iItems te) (gTup K 2 (gCons (gName i) (gCons (gName j) gNil))) tt tv vs) σ H Q := by
  refine ⟨d, _, hd, trivial, fun od => ?_⟩
  refine hte _ _ ⟨d, od, kvI l, rfl, upd_same, fun D hD => ?_⟩ Off.lock
  have hDd : D ≠ d := fun e => by rw [e, upd_same] at hD; cases hD
  have hD0 : H D = none := by rw [upd_ne hDd] at hD; exact hD
  refine lc_it walk_items (fun k H' => H' d = some (.frz od (.dK (kvI l))) ∧ Off d H H' ∧ ∃ ps : List Addr, H' D = some (.lst (ps.map V.ref)) ∧ ps.length ≤ k ∧ (∀ p ∈ ps, p ≠ D ∧ p ≠ d) ∧ Paired (fun p (kv : Key × V) => H' p = some (.tup [kV kv.1, kv.2])) ps (kvI (madeI c kf vi (l.take k)))) ⟨?_, Off.lock.mut hD0, [], upd_same, Nat.le_refl _, (fun p h => nomatch h), .nil⟩ (fun k H' _ p => p.1) ?_ ?_
  · rw [upd_ne hDd.symm]; exact upd_same
  · rintro k v H' H'' hk ⟨p1, p2, ps, p3, p4, p5, p6⟩ ⟨T, a, b, rfl, hT, rfl, e1, e2⟩
    rw [kvI_length] at hk
    obtain ⟨⟨x, y⟩, exy⟩ : ∃ p, l[k]? = some p := ⟨_, List.getElem?_eq_getElem hk⟩
    have ek : (kvI l)[k]? = some (Sum.inl x, V.int y) := by unfold kvI; rw [List.getElem?_map, exy]; rfl
    dsimp only at e1 e2
    rw [ek] at e1 e2
    cases e1; cases e2
    have nTd : d ≠ T := ne_of_none p1 hT
    have nTD : D ≠ T := ne_of_none p3 hT
    refine ⟨T, [.int x, .int y], rfl, SqT.of upd_same, rfl, .int x, [.int y], rfl, .int y, [], rfl, rfl, ?_⟩
    refine ⟨hw _ _, ?_⟩
    have o2 : Off d H (upd H' T (.tup [.int x, .int y])) := p2.tr (Off.new hT)
    obtain ⟨b1, b2⟩ := hb x y (List.mem_of_getElem? exy) _ o2 (.inr ⟨od, by rw [upd_ne nTd]; exact p1⟩)
    refine b1 _ ?_
    have d3 : (upd H' T (.tup [.int x, .int y])) d = some (.frz od (.dK (kvI l))) := by rw [upd_ne nTd]; exact p1
    have D3 : (upd H' T (.tup [.int x, .int y])) D = some (.lst (ps.map V.ref)) := by rw [upd_ne nTD]; exact p3
    have p6' : Paired (fun p (kv : Key × V) => (upd H' T (.tup [.int x, .int y])) p = some (.tup [kV kv.1, kv.2])) ps (kvI (madeI c kf vi (l.take k))) := p6.map fun p _ kv e => by
      have hne : p ≠ T := ne_of_none e hT
      rw [upd_ne hne]; exact e
    have st := madeI_step (c := c) (kf := kf) (vi := vi) exy
    cases hc : c x y with
    | true =>
      rw [hc, if_pos rfl] at st
      refine iteT (b2 hc _ fun p hp => ⟨_, by rw [upd_ne (ne_of_none D3 hp)]; exact D3, by rw [List.length_map]; omega, ?_⟩)
      have hpD : p ≠ D := (ne_of_none D3 hp).symm
      have hpd : p ≠ d := (ne_of_none d3 hp).symm
      refine ⟨?_, (o2.tr (Off.new hp)).mut hD0, ps ++ [p], ?_, ?_, ?_, ?_⟩
      · rw [upd_ne hDd.symm, upd_ne hpd.symm]; exact d3
      · rw [upd_same, List.map_append]; rfl
      · rw [List.length_append, List.length_singleton]; omega
      · intro q hq
        rcases List.mem_append.mp hq with h | h
        · exact p5 q h
        · rw [List.mem_singleton] at h
          subst h
          exact ⟨hpD, hpd⟩
      · rw [st, show kvI (madeI c kf vi (l.take k) ++ [(kf x y, vi x y)]) = kvI (madeI c kf vi (l.take k)) ++ [(Sum.inl (kf x y), V.int (vi x y))] from by unfold kvI; rw [List.map_append]; rfl]
        refine PySem.Paired.snoc (p6'.map fun q hq kv e => ?_) ?_
        · have hqp : q ≠ p := ne_of_none e hp
          rw [upd_ne (p5 q hq).1, upd_ne hqp]; exact e
        · rw [upd_ne hpD]; exact upd_same
    | false =>
      rw [hc, if_neg Bool.false_ne_true, List.append_nil] at st
      refine iteF ⟨d3, o2, ps, D3, by omega, p5, ?_⟩
      rw [st]
      exact p6'
  · rintro H' ⟨p1, p2, ps, p3, p4, p5, p6⟩
    rw [kvI_length, List.take_length] at p6
    refine ⟨p1, hq D ps _ hD0 ?_ (p6.map fun q hq kv e => ?_) (p2.back hd)⟩
    · rw [upd_ne hDd]
      exact p3
    · rw [upd_ne (p5 q hq).2]; exact e
/-- dict(..) of such a list -/
theorem dictP_of {K : PySem.W.Frag} {H : Hp} {D : Addr} {ps : List Addr} {m : List (Int × Int)} {Q : VK} {g : PF} (hD : H D = some (.lst (ps.map V.ref))) (hp : Paired (fun p (kv : Key × V) => H p = some (.tup [kV kv.1, kv.2])) ps (kvI m)) (di : DI m g)
    (hq : ∀ p l, H p = none → l.length ≤ m.length → DI l g → Q (.ref p) (upd H p (.dK (kvI l)))) :
    ∃ (a : Addr) (ps : List Addr) (kvs : List (Key × V)), [V.ref D] = [.ref a] ∧ SqL K H a (ps.map V.ref) ∧ Paired (fun p kv => SqT K H p [kV kv.1, kv.2]) ps kvs ∧ ∀ p, H p = none → Q (.ref p) (upd H p (.dK (mergeK [] kvs))) := by
  refine ⟨D, ps, _, rfl, SqL.of hD, hp.map fun p _ kv e => SqT.of e, fun p np => ?_⟩
  obtain ⟨l', e', n', d', k'⟩ := merge_lk m [] di.nd
  have e2 : mergeK [] (kvI m) = kvI l' := e'
  rw [e2]
  refine hq p l' np (by simpa using n') ⟨d' (by simp), fun z => ?_⟩
  rw [k', ← di.at_]
  cases lk m z <;> rfl
section
variable {P : Program} {w : World} {K : PySem.W.Frag} {mg : Str → Option Value} {base : Heap}
def spBack : Sp := fun vs H Q _ => ∃ (d : Addr) (l1 : List (Int × Int)) (n : Int) (f : PF), vs = [.ref d] ∧ H d = some (.dK (kvI l1)) ∧ DI l1 f ∧ WF n f ∧ l1.length ≤ 1000 ∧
  ∀ p l H', Same H H' → H p = none → H' p = some (.dK (kvI l)) → DI l (inv n f) → l.length ≤ l1.length → Q (.ref p) H'
theorem back_diL {n : Int} {l1 : List (Int × Int)} {f : PF} (wf : WF n f) (d1 : DI l1 f) : DI (madeI (fun _ _ => true) (fun _ y => y) (fun x _ => x) l1) (inv n f) := by
  refine di_of (nd_tgt (d1.vals wf)) fun a b => ?_
  rw [mem_madeI, inv_iff wf]
  constructor
  · rintro ⟨x, y, h1, _, rfl, rfl⟩
    exact d1.mem.mp h1
  · intro h
    exact ⟨b, a, d1.mem.mpr h, rfl, rfl, rfl⟩
theorem ok_l_back (T : Txt K mg) : FnR P w K mg base CX0 2 T.f_l_back spBack := by
  refine T.A_l_back.ok sc_l_back (fun vs H Q E h => ?_) (fun cdv A outer s H vs Q E hr h => ?_)
  · obtain ⟨d1, l1, n, f, rfl, _⟩ := h
    rfl
  · obtain ⟨d1, l1, n, f, rfl, h1, di1, wf, hl, q⟩ := h
    refine ⟨_, (pss_one (ps_ret (pe_callTy (call_dictP rfl) (by rfl) T.n_dict (by decide +kernel) (pa_cons (pe_lock (pe_lc (own := [("_law_source", 1), ("_law_target", 2)]) (g := (gTup K 2 (gCons (gName 1) (gCons (gName 2) gNil)))) (tt := tYes) rfl sc_l_back.nd (pi_items (pv 0)) (blkOk_by (own := [("_law_source", 1), ("_law_target", 2)]) (N := n_l_back) (sc := defScope s_l_back) (by decide +kernel)) (fun _ _ _ _ _ => (pg_tup rfl (pgs_cons (pg_name (i := 1) sc_l_back.nd rfl (Or.inl rfl)) (pgs_cons (pg_name (i := 2) sc_l_back.nd rfl (Or.inl rfl)) pgs_nil)))) (fun _ _ _ _ _ => pts_nil) (fun _ _ _ _ _ => (pe_tup (pa_cons (pv 2) (pa_cons (pv 1) pa_nil)))))) pa_nil)))), ?_⟩
    refine lc_itemsT (fun _ _ => true) (fun _ y => y) (fun x _ => x) h1 (fun H' R r o => ⟨_, rfl, r⟩) (fun _ _ => rfl) (fun x y hxy H1 o _ => ⟨fun R r => r, fun hc R r => ⟨_, rfl, _, rfl, (by show 2 ≤ sizeLine; decide), fun p hp => r p hp⟩⟩) (small1000 hl) (fun D ps H' nD hD hp s1 => ?_)
    refine dictP_of hD hp (back_diL wf di1) fun p l np hl' dl => ?_
    exact q p l _ (s1.trans (Same.new np)) (s1.free np) upd_same dl (Nat.le_trans hl' (madeI_len ..))
end
end My
namespace My
open PySem L2 U StX PM
/-! ### texts of plain signs -/
def OkS (x : Str) : Prop := PyData.strOk x = true
theorem OkS.app {x y : Str} (hx : OkS x) (hy : OkS y) : OkS (x ++ y) := by
  unfold OkS PyData.strOk at *
  rw [Str.cps_append, Array.all_append, hx, hy]
  rfl
end My
namespace My
open PySem L2 U StX PM
def isSrc (f : PF) : V → Bool | .int i => (f i).isSome | _ => false
def tgtV (f : PF) : V → Option Int | .int i => f i | _ => none
def spSrc (C : Addr) : Sp := fun vs H Q _ => ∃ a n f x, vs = [.ref a, x] ∧ IsMap C H a n f ∧ knownV C H x ∧ Q (.bl (isSrc f x)) H
def spTgt (C : Addr) : Sp := fun vs H Q _ => ∃ a n f x, vs = [.ref a, x] ∧ IsMap C H a n f ∧ knownV C H x ∧ Q (match tgtV f x with | some y => .int y | none => .non) H
section
variable {P : Program} {w : World} {K : PySem.W.Frag} {mg : Str → Option Value} {base : Heap}
theorem dget_tab {H : Hp} {D : Addr} {n : Int} {f : PF} (h : H D = some (.dK (kvI (tab n f)))) (wf : WF n f) (i : Int) : DGet H D (.int i) ((f i).map V.int) := by
  have := DGet.k (k := Sum.inl i) h
  rw [valV_kvI, lk_tab wf] at this
  exact this
theorem ok_is_source (T : Txt K mg) : FnR P w K mg base CX0 3 T.f_Map_is_source (spSrc T.C_Map) := by
  refine T.A_Map_is_source.ok sc_Map_is_source (fun vs H Q E h => ?_) (fun cdv A outer s H vs Q E hr h => ?_)
  · obtain ⟨a, n, f, x, rfl, _⟩ := h
    rfl
  · obtain ⟨a, n, f, x, rfl, ha, hx, q⟩ := h
    have hu := hu_of hr
    refine ⟨_, (pss_one (ps_ret (pe_and (pe_callR (ok_in_range T) (hr.mono (by decide)) T.A_in_range.kp rfl T.g_in_range pass0 (pa_cons (pv 1) (pa_cons pe_int (pa_cons (pe_op op_sub (pe_fld (pv 0) rfl) pe_int) pa_nil)))) (pe_one (pe_cmp (pc_din hu (pv 1) (pe_fld (pv 0) rfl))))))), ?_⟩
    obtain ⟨dx, D, h1, h2⟩ := id ha.ob
    refine ⟨_, rfl, _, rfl, a, _, dx, _, _, rfl, h1, T.o_Map.cl, T.na_own_size_Map, flds_size _ _, _, _, rfl, rfl, x, 0, n - 1, rfl, hx, _, rfl, ?_⟩
    cases x with
    | int i =>
      refine ifB (fun hc => ?_) (fun hc => ?_)
      · refine ⟨_, rfl, _, rfl, a, _, dx, _, _, rfl, h1, T.o_Map.cl, T.na_own_arrows_Map, flds_arrows _ _, D, _, rfl, dget_tab h2 ha.wf i, ?_⟩
        rw [Option.isSome_map]
        exact q
      · have e : f i = none := by
          cases h : f i with
          | none => rfl
          | some y =>
            have := ha.wf.dom i y h
            simp only [inR, Bool.and_eq_false_iff, decide_eq_false_iff_not] at hc
            omega
        have e2 : isSrc f (.int i) = false := by show (f i).isSome = false; rw [e]; rfl
        rw [e2] at q
        exact q
    | _ => exact iteF q
theorem ok_call (T : Txt K mg) : FnR P w K mg base CX0 4 T.f_Map__call (spTgt T.C_Map) := by
  refine T.A_Map__call.ok sc_Map__call (fun vs H Q E h => ?_) (fun cdv A outer s H vs Q E hr h => ?_)
  · obtain ⟨a, n, f, x, rfl, _⟩ := h
    rfl
  · obtain ⟨a, n, f, x, rfl, ha, hx, q⟩ := h
    have hu := hu_of hr
    refine ⟨_, (pss_one (ps_ret (pe_ifExp (pt_val (pe_methR (pv 0) T.o_Map.cl T.meth_Map_is_source (ok_is_source T) (hr.mono (by decide)) pass0 (pa_cons (pv 1) pa_nil))) (pe_dget hu (pe_fld (pv 0) rfl) (pv 1) (fun _ _ => rfl)) pe_non))), ?_⟩
    obtain ⟨dx, D, h1, h2⟩ := id ha.ob
    refine ⟨_, rfl, a, dx, _, rfl, h1, flds_no _ _ (by decide +kernel) (by decide +kernel), _, rfl, a, n, f, x, rfl, ha, hx, _, rfl, ?_⟩
    cases x with
    | int i =>
      show if (f i).isSome = true then _ else _
      have q' : _ := q
      dsimp only [tgtV] at q'
      cases hf : f i with
      | none =>
        rw [hf] at q'
        exact iteF q'
      | some y =>
        rw [hf] at q'
        have := dget_tab h2 ha.wf i
        rw [hf] at this
        exact iteT ⟨_, rfl, a, _, dx, _, _, rfl, h1, T.o_Map.cl, T.na_own_arrows_Map, flds_arrows _ _, _, rfl, D, .int y, rfl, this, q'⟩
    | _ => exact iteF q
/-! ### repr, the empty dict too -/
end
end My
local macro_rules | `(tactic| array_get_dec) => `(tactic| first | assumption | exact L2.upd_same | (refine U.carryNew (by assumption) ?_; array_get_dec) | (refine U.carry (by assumption) ?_; array_get_dec))
local macro_rules | `(tactic| array_mem_dec) => `(tactic| first | exact L2.Same.refl _ | assumption | (refine U.sameUp (by assumption) ?_; array_mem_dec) | (refine U.sameVia (by assumption) ?_; array_mem_dec))
local macro_rules | `(tactic| sizeOf_list_dec) => `(tactic| first | assumption | (refine U.freeVia (by assumption) ?_; sizeOf_list_dec) | (refine U.freeUp (o := _) (q := _) ?_; assumption))
local macro_rules | `(tactic| deriving_LawfulEq_tactic_step) => `(tactic| first | exact rfl | exact U.nil_le | exact U.one_le | exact U.two_le | exact U.three_le | exact L2.SqL.of (by array_get_dec) | exact L2.SqT.of (by array_get_dec) | exact ⟨_, L2.SqL.of (by array_get_dec)⟩ | exact ⟨_, L2.SqT.of (by array_get_dec)⟩ | exact Or.inl (by array_get_dec) | array_get_dec)
local macro_rules | `(tactic| and_intros) => `(tactic| repeat (first | refine And.intro (by deriving_LawfulEq_tactic_step) ?_ | (apply Exists.intro; refine And.intro (by deriving_LawfulEq_tactic_step) ?_) | (apply Exists.intro; apply Exists.intro; refine And.intro (by deriving_LawfulEq_tactic_step) ?_) | (apply Exists.intro; apply Exists.intro; apply Exists.intro; refine And.intro (by deriving_LawfulEq_tactic_step) ?_) | (apply Exists.intro; apply Exists.intro; apply Exists.intro; apply Exists.intro; refine And.intro (by deriving_LawfulEq_tactic_step) ?_)))
namespace My
open PySem L2 U StX PM
/-! ### several maps -/
def MapsAt (C : Addr) (H : Hp) (n : Int) (xs : List V) (fs : List PF) : Prop := Paired (fun v f => ∃ a, v = V.ref a ∧ IsMap C H a n f) xs fs
theorem MapsAt.same {C : Addr} {H H' : Hp} {n : Int} {xs : List V} {fs : List PF} (h : MapsAt C H n xs fs) (s : Same H H') : MapsAt C H' n xs fs := PySem.Paired.map h fun v _ f ⟨a, e, m⟩ => ⟨a, e, m.same s⟩
theorem MapsAt.get {C : Addr} {H : Hp} {n : Int} {xs : List V} {fs : List PF} (h : MapsAt C H n xs fs) {i : Nat} {v : V} (e : xs[i]? = some v) : ∃ a f, v = .ref a ∧ fs[i]? = some f ∧ IsMap C H a n f := by
  obtain ⟨f, e2, a, e3, m⟩ := paired_at h e
  exact ⟨a, f, e3, e2, m⟩
end My
namespace My
open PySem L2 U StX PM
/-! ### products of several maps -/
def lenF (n : Int) (f : PF) : Int := ((tab n f).length : Nat)
def spLen (C : Addr) : Sp := fun vs H Q _ => ∃ m n f, vs = [.ref m] ∧ IsMap C H m n f ∧ Q (.int (lenF n f)) H
section
variable {P : Program} {w : World} {K : PySem.W.Frag} {mg : Str → Option Value} {base : Heap}
theorem ok_len (T : Txt K mg) : FnR P w K mg base CX0 1 T.f_Map__len (spLen T.C_Map) := by
  refine T.A_Map__len.ok sc_Map__len (fun vs H Q E h => ?_) (fun cdv A outer s H vs Q E hr h => ?_)
  · obtain ⟨m, n, f, rfl, _⟩ := h
    rfl
  · obtain ⟨m, n, f, rfl, ⟨⟨dx, D, h1, h2⟩, _⟩, q⟩ := h
    refine ⟨_, (pss_one (ps_ret (pe_callB call_lenD (by rfl) T.n_len (by decide +kernel) (pa_cons (pe_fld (pv 0) rfl) pa_nil)))), ?_⟩
    have q' : Q (.int ((kvI (tab n f)).length : Nat)) H := by rw [kvI_length]; exact q
    exact ⟨_, rfl, m, _, dx, _, _, rfl, h1, T.o_Map.cl, T.na_own_arrows_Map, flds_arrows _ _, D, _, rfl, h2, q'⟩
end
end My
namespace My
open PM
/-! ### maps made of blocks, one behind the other -/
abbrev Blk := Bool × Nat × Nat
def tot (bs : List (Bool × Nat)) : Nat := (bs.map (·.2)).sum
def strt : Nat → List (Bool × Nat) → List Blk
  | _, [] => []
  | s, (c, L) :: r => (c, s, L) :: strt (s + L) r
def inB (x : Int) (b : Blk) : Bool := decide ((b.2.1 : Int) ≤ x) && decide (x < (b.2.1 : Int) + (b.2.2 : Int))
def nxt (b : Blk) (x : Int) : Option Int := if x + 1 < (b.2.1 : Int) + (b.2.2 : Int) then some (x + 1) else if b.1 then some (b.2.1 : Int) else none
def bmap (bs : List (Bool × Nat)) : PF := fun x => ((strt 0 bs).find? (inB x)).bind fun b => nxt b x
theorem inB_iff {x : Int} {b : Blk} : inB x b = true ↔ (b.2.1 : Int) ≤ x ∧ x < (b.2.1 : Int) + (b.2.2 : Int) := by
  unfold inB
  rw [Bool.and_eq_true, decide_eq_true_eq, decide_eq_true_eq]
theorem tot_cons (c : Bool) (L : Nat) (r : List (Bool × Nat)) : tot ((c, L) :: r) = L + tot r := by simp [tot]
theorem strt_rng : ∀ {bs : List (Bool × Nat)} {s : Nat} {b : Blk}, b ∈ strt s bs → s ≤ b.2.1 ∧ b.2.1 + b.2.2 ≤ s + tot bs
  | [], _, _, h => nomatch h
  | (c, L) :: r, s, b, h => by
    rw [tot_cons]
    rcases List.mem_cons.mp h with rfl | h
    · exact ⟨Nat.le_refl _, by show s + L ≤ _; omega⟩
    · have := strt_rng h
      omega
theorem strt_mem : ∀ {bs : List (Bool × Nat)} {s : Nat} {b : Blk}, b ∈ strt s bs → (b.1, b.2.2) ∈ bs
  | [], _, _, h => nomatch h
  | (c, L) :: r, s, b, h => by
    rcases List.mem_cons.mp h with rfl | h
    · exact List.mem_cons_self
    · exact List.mem_cons_of_mem _ (strt_mem h)
theorem strt_ex : ∀ {bs : List (Bool × Nat)} {s : Nat} {x : Int}, (s : Int) ≤ x → x < (s : Int) + (tot bs : Nat) → ∃ b ∈ strt s bs, inB x b = true
  | [], s, x, h1, h2 => by simp [tot] at h2; omega
  | (c, L) :: r, s, x, h1, h2 => by
    rw [tot_cons] at h2
    by_cases h : x < (s : Int) + (L : Int)
    · exact ⟨(c, s, L), List.mem_cons_self, inB_iff.mpr ⟨h1, h⟩⟩
    · obtain ⟨b, hb, hi⟩ := strt_ex (bs := r) (s := s + L) (x := x) (by omega) (by omega)
      exact ⟨b, List.mem_cons_of_mem _ hb, hi⟩
theorem strt_uniq : ∀ {bs : List (Bool × Nat)} {s : Nat} {b b' : Blk} {x : Int}, b ∈ strt s bs → b' ∈ strt s bs → inB x b = true → inB x b' = true → b = b'
  | [], _, _, _, _, h, _, _, _ => nomatch h
  | (c, L) :: r, s, b, b', x, h, h', i, i' => by
    rw [inB_iff] at i i'
    rcases List.mem_cons.mp h with rfl | h
    · rcases List.mem_cons.mp h' with rfl | h'
      · rfl
      · have := strt_rng h'
        dsimp only at i
        omega
    · rcases List.mem_cons.mp h' with rfl | h'
      · have := strt_rng h
        dsimp only at i'
        omega
      · exact strt_uniq h h' (inB_iff.mpr i) (inB_iff.mpr i')
theorem bmap_in {bs : List (Bool × Nat)} {b : Blk} {x : Int} (h : b ∈ strt 0 bs) (i : inB x b = true) : bmap bs x = nxt b x := by
  unfold bmap
  cases e : (strt 0 bs).find? (inB x) with
  | none => exact absurd i (by simpa using List.find?_eq_none.mp e b h)
  | some b' =>
    have h1 := List.find?_some e
    have h2 := List.mem_of_find?_eq_some e
    rw [strt_uniq h2 h h1 i]
    rfl
theorem nxt_in {b : Blk} {x y : Int} (i : inB x b = true) (h : nxt b x = some y) : inB y b = true := by
  rw [inB_iff] at i ⊢
  unfold nxt at h
  by_cases h1 : x + 1 < (b.2.1 : Int) + (b.2.2 : Int)
  · rw [if_pos h1] at h
    cases h
    omega
  · rw [if_neg h1] at h
    cases hc : b.1 with
    | false => rw [hc] at h; cases h
    | true =>
      rw [hc] at h
      cases h
      omega
theorem bmap_blk {bs : List (Bool × Nat)} {x y : Int} (h : bmap bs x = some y) : ∃ b ∈ strt 0 bs, inB x b = true ∧ inB y b = true ∧ nxt b x = some y := by
  unfold bmap at h
  cases e : (strt 0 bs).find? (inB x) with
  | none => rw [e] at h; cases h
  | some b =>
    rw [e] at h
    have i := List.find?_some e
    exact ⟨b, List.mem_of_find?_eq_some e, i, nxt_in i h, h⟩
theorem wf_bmap (bs : List (Bool × Nat)) {n : Int} (hn : n = (tot bs : Nat)) : WF n (bmap bs) := by
  subst hn
  refine ⟨fun x y h => ?_, fun x x' y h h' => ?_⟩
  · obtain ⟨b, hb, i, j, _⟩ := bmap_blk h
    have := strt_rng hb
    rw [inB_iff] at i j
    omega
  · obtain ⟨b, hb, i, j, e⟩ := bmap_blk h
    obtain ⟨b', hb', i', j', e'⟩ := bmap_blk h'
    have := strt_uniq hb hb' j j'
    subst this
    rw [inB_iff] at i i'
    unfold nxt at e e'
    by_cases h1 : x + 1 < (b.2.1 : Int) + (b.2.2 : Int)
    · rw [if_pos h1] at e
      cases e
      by_cases h2 : x' + 1 < (b.2.1 : Int) + (b.2.2 : Int)
      · rw [if_pos h2] at e'
        have := Option.some.inj e'
        omega
      · rw [if_neg h2] at e'
        cases hc : b.1 with
        | false => rw [hc] at e'; cases e'
        | true =>
          rw [hc, if_pos rfl] at e'
          have := Option.some.inj e'
          omega
    · rw [if_neg h1] at e
      cases hc : b.1 with
      | false => rw [hc] at e; cases e
      | true =>
        rw [hc, if_pos rfl] at e
        have e := Option.some.inj e
        by_cases h2 : x' + 1 < (b.2.1 : Int) + (b.2.2 : Int)
        · rw [if_pos h2] at e'
          have := Option.some.inj e'
          omega
        · omega
/-! ### its rows -/
def ivl (s L : Nat) : List Int := (List.range L).map fun i : Nat => ((s + i : Nat) : Int)
theorem ivl_get {s L i : Nat} {a : Int} : (ivl s L)[i]? = some a ↔ i < L ∧ a = ((s + i : Nat) : Int) := by
  unfold ivl
  rw [List.getElem?_map]
  by_cases h : i < L
  · rw [List.getElem?_range h]
    constructor
    · intro e
      cases e
      exact ⟨h, rfl⟩
    · rintro ⟨_, rfl⟩
      rfl
  · rw [List.getElem?_eq_none (by rw [List.length_range]; omega)]
    constructor
    · intro e; cases e
    · rintro ⟨h', _⟩; exact absurd h' h
theorem ivl_len (s L : Nat) : (ivl s L).length = L := by simp [ivl]
theorem row_blk {bs : List (Bool × Nat)} {b : Blk} (hb : b ∈ strt 0 bs) (hL : 1 ≤ b.2.2) : IsRow (bmap bs) (b.2.1 : Int) (ivl b.2.1 b.2.2) := by
  obtain ⟨c, s, L⟩ := b
  dsimp only at hL ⊢
  refine ⟨ivl s (L - 1), ((s + (L - 1) : Nat) : Int), ?_, ⟨ivl_get.mpr ⟨hL, by simp⟩, fun i a b h1 h2 => ?_⟩, ?_⟩
  · unfold ivl
    rw [show L = (L - 1) + 1 by omega, List.range_succ, List.map_append]
    simp
  · obtain ⟨g1, rfl⟩ := ivl_get.mp h1
    obtain ⟨g2, rfl⟩ := ivl_get.mp h2
    refine ⟨?_, by omega⟩
    rw [bmap_in hb (inB_iff.mpr ⟨by show (s : Int) ≤ _; omega, by show _ < (s : Int) + (L : Int); omega⟩)]
    unfold nxt
    rw [if_pos (by show _ < (s : Int) + (L : Int); omega)]
    congr 1
  · rw [bmap_in hb (inB_iff.mpr ⟨by show (s : Int) ≤ _; omega, by show _ < (s : Int) + (L : Int); omega⟩)]
    unfold nxt
    rw [if_neg (by show ¬ (_ < (s : Int) + (L : Int)); omega)]
    cases c with
    | true => exact .inr rfl
    | false => exact .inl rfl
theorem iter_blk {bs : List (Bool × Nat)} {b : Blk} (hb : b ∈ strt 0 bs) {e : Int} {r : List Int} (R : Row (bmap bs) e r) (he : inB e b = true) : ∀ (i : Nat) (a : Int), r[i]? = some a → inB a b = true
  | 0, a, h => by
    rw [R.h0] at h
    cases h
    exact he
  | i + 1, a, h => by
    have l1 : i + 1 < r.length := (List.getElem?_eq_some_iff.mp h).1
    obtain ⟨c, hc⟩ : ∃ c, r[i]? = some c := ⟨_, List.getElem?_eq_getElem (by omega)⟩
    have ic := iter_blk hb R he i c hc
    have := (R.st i c a hc h).1
    rw [bmap_in hb ic] at this
    exact nxt_in ic this
theorem rowN_in {bs : List (Bool × Nat)} {b : Blk} (hb : b ∈ strt 0 bs) {e x : Int} (he : inB e b = true) (h : x ∈ rowN (bmap bs) e) : inB x b = true := by
  have r0 := strt_rng hb
  have w := wf_bmap bs rfl
  rw [inB_iff] at he
  have R := rowN_is w (e := e) (by omega) (by omega)
  obtain ⟨pre, z, eq, R', _⟩ := R
  obtain ⟨i, hi⟩ := List.mem_iff_getElem?.mp h
  exact iter_blk hb R' (inB_iff.mpr he) i x hi
theorem asc_eq : ∀ {l m : List Int}, l.Pairwise (· < ·) → m.Pairwise (· < ·) → (∀ x, x ∈ l ↔ x ∈ m) → l = m
  | [], [], _, _, _ => rfl
  | [], b :: m, _, _, h => absurd ((h b).mpr List.mem_cons_self) (by simp)
  | a :: l, [], _, _, h => absurd ((h a).mp List.mem_cons_self) (by simp)
  | a :: l, b :: m, h1, h2, h => by
    rw [List.pairwise_cons] at h1 h2
    have e : a = b := by
      have ha := (h a).mp List.mem_cons_self
      have hb := (h b).mpr List.mem_cons_self
      rcases List.mem_cons.mp ha with ha | ha
      · exact ha
      · rcases List.mem_cons.mp hb with hb | hb
        · exact hb.symm
        · have := h1.1 _ hb
          have := h2.1 _ ha
          omega
    subst e
    rw [asc_eq h1.2 h2.2 fun x => ?_]
    constructor
    · intro hx
      rcases List.mem_cons.mp ((h x).mp (List.mem_cons_of_mem _ hx)) with e | e
      · have := h1.1 _ hx; omega
      · exact e
    · intro hx
      rcases List.mem_cons.mp ((h x).mpr (List.mem_cons_of_mem _ hx)) with e | e
      · have := h2.1 _ hx; omega
      · exact e
theorem strt_asc : ∀ {bs : List (Bool × Nat)} {s : Nat}, (∀ p ∈ bs, 1 ≤ p.2) → (strt s bs).Pairwise fun a b => a.2.1 < b.2.1
  | [], _, _ => .nil
  | (c, L) :: r, s, h => by
    refine .cons (fun b hb => ?_) (strt_asc fun p hp => h p (List.mem_cons_of_mem _ hp))
    have := strt_rng hb
    have := h (c, L) List.mem_cons_self
    show s < b.2.1
    dsimp only at *
    omega
def stO (bs : List (Bool × Nat)) (c : Bool) : List Int := ((strt 0 bs).filter fun b => b.1 == c).map fun b => (b.2.1 : Int)
theorem stO_asc {bs : List (Bool × Nat)} (h : ∀ p ∈ bs, 1 ≤ p.2) (c : Bool) : (stO bs c).Pairwise (· < ·) := by
  unfold stO
  rw [List.pairwise_map]
  exact ((strt_asc h).sublist List.filter_sublist).imp fun {a b} h => by omega
theorem stO_mem {bs : List (Bool × Nat)} {c : Bool} {e : Int} : e ∈ stO bs c ↔ ∃ s L, (c, s, L) ∈ strt 0 bs ∧ e = (s : Nat) := by
  unfold stO
  rw [List.mem_map]
  constructor
  · rintro ⟨⟨c', s, L⟩, hb, rfl⟩
    rw [List.mem_filter] at hb
    have : c' = c := by simpa using hb.2
    subst this
    exact ⟨s, L, hb.1, rfl⟩
  · rintro ⟨s, L, hb, rfl⟩
    exact ⟨(c, s, L), List.mem_filter.mpr ⟨hb, by simp⟩, rfl⟩
theorem nons_blk {bs : List (Bool × Nat)} (h : ∀ p ∈ bs, 1 ≤ p.2) {n : Int} (hn : n = (tot bs : Nat)) : nons n (bmap bs) = stO bs false := by
  have w := wf_bmap bs hn
  refine asc_eq (nons_lt n _) (stO_asc h false) fun e => ?_
  rw [stO_mem]
  constructor
  · intro he
    obtain ⟨h1, h2, h3⟩ := nons_dom he
    rw [nonT_iff w] at h3
    obtain ⟨⟨c, s, L⟩, hb, i⟩ := strt_ex (bs := bs) (s := 0) (x := e) (by omega) (by omega)
    have i' := inB_iff.mp i
    dsimp only at i'
    have hes : e = (s : Int) := Classical.byContradiction fun hne => by
      have i2 : inB (e - 1) (c, s, L) = true := inB_iff.mpr ⟨by dsimp only; omega, by dsimp only; omega⟩
      refine h3 (e - 1) ?_
      rw [bmap_in hb i2]
      unfold nxt
      rw [if_pos (by dsimp only; omega)]
      congr 1
      omega
    cases c with
    | false => exact ⟨s, L, hb, hes⟩
    | true =>
      have hL := h _ (strt_mem hb)
      dsimp only at hL
      have i2 : inB ((s : Int) + (L : Int) - 1) (true, s, L) = true := inB_iff.mpr ⟨by dsimp only; omega, by dsimp only; omega⟩
      refine absurd ?_ (h3 ((s : Int) + (L : Int) - 1))
      rw [bmap_in hb i2]
      unfold nxt
      rw [if_neg (by dsimp only; omega), hes]
      rfl
  · rintro ⟨s, L, hb, rfl⟩
    have r0 := strt_rng hb
    have hL := h _ (strt_mem hb)
    dsimp only at hL r0
    unfold nons
    rw [List.mem_filter, mem_rgI]
    refine ⟨by omega, (nonT_iff w).mpr fun x hx => ?_⟩
    obtain ⟨b, hb', i, j, e⟩ := bmap_blk hx
    have : b = (false, s, L) := strt_uniq hb' hb j (inB_iff.mpr ⟨by dsimp only; omega, by dsimp only; omega⟩)
    subst this
    have i' := inB_iff.mp i
    unfold nxt at e
    dsimp only at e i'
    by_cases h1 : x + 1 < (s : Int) + (L : Int)
    · rw [if_pos h1] at e
      have := Option.some.inj e
      omega
    · rw [if_neg h1] at e
      cases e
theorem sel_mem {f : PF} : ∀ {l b : List Int} {e : Int}, e ∈ selL f b l → e ∈ b ∨ ∃ l1 l2, l = l1 ++ e :: l2 ∧ e ∉ seenL f (selL f b l1)
  | [], b, e, h => .inl h
  | x :: l, b, e, h => by
    have h' : e ∈ selL f (stp f b x) l := h
    rcases sel_mem h' with h1 | ⟨l1, l2, rfl, hn⟩
    · unfold stp at h1
      by_cases hx : x ∈ seenL f b
      · rw [if_pos hx] at h1
        exact .inl h1
      · rw [if_neg hx] at h1
        rcases List.mem_append.mp h1 with h1 | h1
        · exact .inl h1
        · rw [List.mem_singleton] at h1
          subst h1
          exact .inr ⟨[], l, rfl, hx⟩
    · exact .inr ⟨x :: l1, l2, rfl, hn⟩
theorem sel_has {f : PF} {b l : List Int} {x : Int} (hx : x ∈ rowN f x) : x ∈ seenL f (selL f b (l ++ [x])) := by
  rw [selL_one]
  unfold stp
  by_cases h : x ∈ seenL f (selL f b l)
  · rw [if_pos h]; exact h
  · rw [if_neg h]
    exact mem_seenL.mpr ⟨x, List.mem_append_right _ (List.mem_singleton.mpr rfl), hx⟩
theorem sel_mono {f : PF} : ∀ {l b : List Int} {e : Int}, e ∈ b → e ∈ selL f b l
  | [], _, _, h => h
  | x :: l, b, e, h => by
    show e ∈ selL f (stp f b x) l
    refine sel_mono ?_
    unfold stp
    by_cases hx : x ∈ seenL f b
    · rw [if_pos hx]; exact h
    · rw [if_neg hx]; exact List.mem_append_left _ h
theorem sel_from {f : PF} {l b : List Int} {e : Int} (h : e ∈ selL f b l) : e ∈ b ∨ e ∈ l := by
  rcases sel_mem h with h | ⟨l1, l2, rfl, _⟩
  · exact .inl h
  · exact .inr (List.mem_append_right _ List.mem_cons_self)
theorem cycS_blk {bs : List (Bool × Nat)} (h : ∀ p ∈ bs, 1 ≤ p.2) {n : Int} (hn : n = (tot bs : Nat)) : cycS n (bmap bs) = stO bs true := by
  have w := wf_bmap bs hn
  have hN := nons_blk h hn
  have hsel := cycS_eq n (bmap bs)
  -- what a row of the list holds lies in the row's block
  have own : ∀ x : Int, 0 ≤ x → x < n → x ∈ rowN (bmap bs) x := fun x h1 h2 => (rowN_is w h1 h2).mem
  have only : ∀ (s L : Nat) (m1 m2 : List Int), (true, s, L) ∈ strt 0 bs → (m1 ++ (s : Int) :: m2).Pairwise (· < ·) → (∀ x ∈ m1, 0 ≤ x ∧ x < n) → ∀ e' ∈ selL (bmap bs) (nons n (bmap bs)) (m1 ++ [(s : Int)]), (s : Int) ∈ rowN (bmap bs) e' → e' = (s : Int) := by
    intro s L m1 m2 hb asc dom e' he' hr
    have hL := h _ (strt_mem hb)
    have r0 := strt_rng hb
    dsimp only at hL r0
    have is : inB (s : Int) (true, s, L) = true := inB_iff.mpr ⟨by dsimp only; omega, by dsimp only; omega⟩
    rcases sel_from he' with hm | hm
    · rw [hN] at hm
      obtain ⟨s', L', hb', rfl⟩ := stO_mem.mp hm
      have hL' := h _ (strt_mem hb')
      dsimp only at hL'
      have is' : inB (s' : Int) (false, s', L') = true := inB_iff.mpr ⟨by dsimp only; omega, by dsimp only; omega⟩
      have := strt_uniq hb' hb (rowN_in hb' is' hr) is
      cases this
    · have de : 0 ≤ e' ∧ e' < n ∧ e' ≤ s := by
        rcases List.mem_append.mp hm with hm | hm
        · have := dom e' hm
          have := (List.pairwise_append.mp asc).2.2 e' hm (s : Int) List.mem_cons_self
          omega
        · rw [List.mem_singleton] at hm
          subst hm
          omega
      obtain ⟨b', hb', i'⟩ := strt_ex (bs := bs) (s := 0) (x := e') (by omega) (by omega)
      have := strt_uniq hb' hb (rowN_in hb' i' hr) is
      subst this
      have := inB_iff.mp i'
      dsimp only at this
      omega
  refine asc_eq (cycS_lt n _) (stO_asc h true) fun e => ?_
  rw [stO_mem]
  constructor
  · intro he
    obtain ⟨d1, d2⟩ := cycS_dom he
    obtain ⟨⟨c, s, L⟩, hb, i⟩ := strt_ex (bs := bs) (s := 0) (x := e) (by omega) (by omega)
    have i' := inB_iff.mp i
    have hL := h _ (strt_mem hb)
    dsimp only at i' hL
    have hns := (cycS_sub n (bmap bs)).2 e he
    have rb := rowN_eq (row_blk hb hL)
    dsimp only at rb
    cases c with
    | false =>
      refine absurd (mem_seenL.mpr ⟨(s : Nat), ?_, ?_⟩) hns
      · rw [hN]; exact stO_mem.mpr ⟨s, L, hb, rfl⟩
      · rw [rb]
        obtain ⟨k, hk⟩ : ∃ k : Nat, e = ((s + k : Nat) : Int) ∧ k < L := ⟨(e - s).toNat, by omega, by omega⟩
        exact List.mem_of_getElem? (ivl_get.mpr ⟨hk.2, hk.1⟩)
    | true =>
      refine ⟨s, L, hb, Classical.byContradiction fun hne => ?_⟩
      have he2 : e ∈ selL (bmap bs) (nons n (bmap bs)) (rgI n.toNat) := by rw [hsel]; exact List.mem_append_right _ he
      rcases sel_mem he2 with h1 | ⟨l1, l2, el, hn'⟩
      · exact absurd (mem_seenL.mpr ⟨e, h1, own e d1 d2⟩) hns
      · -- s stands ahead of e
        have asc := rgI_lt n.toNat
        rw [el] at asc
        have hs : (s : Int) ∈ l1 := by
          have hm : (s : Int) ∈ rgI n.toNat := mem_rgI.mpr ⟨by omega, by have := strt_rng hb; dsimp only at this; omega⟩
          rw [el] at hm
          rcases List.mem_append.mp hm with hm | hm
          · exact hm
          · rcases List.mem_cons.mp hm with hm | hm
            · exact absurd hm.symm hne
            · have := (List.pairwise_cons.mp (List.pairwise_append.mp asc).2.1).1 _ hm
              omega
        obtain ⟨m1, m2, em⟩ := List.append_of_mem hs
        have hsn : (s : Int) ∈ rowN (bmap bs) (s : Int) := own _ (by omega) (by have := strt_rng hb; dsimp only at this; omega)
        have hss := sel_has (f := bmap bs) (b := nons n (bmap bs)) (l := m1) hsn
        obtain ⟨e', he', hr⟩ := mem_seenL.mp hss
        have he1 : e' ∈ selL (bmap bs) (nons n (bmap bs)) l1 := by
          rw [em, show m1 ++ (s : Int) :: m2 = (m1 ++ [(s : Int)]) ++ m2 by simp, selL_append]
          exact sel_mono he'
        have dom1 : ∀ x ∈ m1, 0 ≤ x ∧ x < n := fun x hx => by
          have : x ∈ rgI n.toNat := by rw [el, em]; simp [hx]
          have := mem_rgI.mp this
          omega
        have asc1 : (m1 ++ (s : Int) :: m2).Pairwise (· < ·) := by rw [← em]; exact (List.pairwise_append.mp asc).1
        have := only s L m1 m2 hb asc1 dom1 e' he' hr
        subst this
        refine hn' (mem_seenL.mpr ⟨_, he1, ?_⟩)
        rw [rb]
        obtain ⟨k, hk⟩ : ∃ k : Nat, e = ((s + k : Nat) : Int) ∧ k < L := ⟨(e - s).toNat, by omega, by omega⟩
        exact List.mem_of_getElem? (ivl_get.mpr ⟨hk.2, hk.1⟩)
  · rintro ⟨s, L, hb, rfl⟩
    have hL := h _ (strt_mem hb)
    have r0 := strt_rng hb
    dsimp only at hL r0
    have hm : (s : Int) ∈ rgI n.toNat := mem_rgI.mpr ⟨by omega, by omega⟩
    obtain ⟨m1, m2, em⟩ := List.append_of_mem hm
    have asc := rgI_lt n.toNat
    rw [em] at asc
    have dom1 : ∀ x ∈ m1, 0 ≤ x ∧ x < n := fun x hx => by
      have : x ∈ rgI n.toNat := by rw [em]; simp [hx]
      have := mem_rgI.mp this
      omega
    have hsn : (s : Int) ∈ rowN (bmap bs) (s : Int) := own _ (by omega) (by omega)
    obtain ⟨e', he', hr⟩ := mem_seenL.mp (sel_has (f := bmap bs) (b := nons n (bmap bs)) (l := m1) hsn)
    have := only s L m1 m2 hb asc dom1 e' he' hr
    subst this
    have h2 : (s : Int) ∈ selL (bmap bs) (nons n (bmap bs)) (rgI n.toNat) := by
      rw [em, show m1 ++ (s : Int) :: m2 = (m1 ++ [(s : Int)]) ++ m2 by simp, selL_append]
      exact sel_mono he'
    rw [hsel] at h2
    rcases List.mem_append.mp h2 with h2 | h2
    · rw [hN] at h2
      obtain ⟨s', L', hb', e⟩ := stO_mem.mp h2
      have hL' := h _ (strt_mem hb')
      dsimp only at hL'
      have := strt_uniq hb' hb (x := (s : Int)) (inB_iff.mpr ⟨by dsimp only; omega, by dsimp only; omega⟩) (inB_iff.mpr ⟨by dsimp only; omega, by dsimp only; omega⟩)
      cases this
    · exact h2
theorem strt_lens : ∀ (bs : List (Bool × Nat)) (s : Nat) (c : Bool), ((strt s bs).filter fun b => b.1 == c).map (fun b => b.2.2) = (bs.filter fun b => b.1 == c).map (·.2)
  | [], _, _ => rfl
  | (c', L) :: r, s, c => by
    show (((c', s, L) :: strt (s + L) r).filter fun b => b.1 == c).map (fun b => b.2.2) = _
    rw [List.filter_cons, List.filter_cons]
    by_cases h : c' = c
    · subst h
      simp [strt_lens r (s + L)]
    · have : (c' == c) = false := by simpa using h
      simp [this, strt_lens r (s + L)]
theorem lens_stO {bs : List (Bool × Nat)} (h : ∀ p ∈ bs, 1 ≤ p.2) (c : Bool) : lens (bmap bs) (stO bs c) = (bs.filter fun b => b.1 == c).map (·.2) := by
  rw [← strt_lens bs 0 c]
  unfold lens stO
  rw [List.map_map]
  refine List.map_congr_left fun b hb => ?_
  have hb' := (List.mem_filter.mp hb).1
  show (rowN (bmap bs) (b.2.1 : Int)).length = b.2.2
  rw [rowN_eq (row_blk hb' (h _ (strt_mem hb'))), ivl_len]
/-- the lengths of the parts of a map of blocks -/
theorem lens_blk {bs : List (Bool × Nat)} (h : ∀ p ∈ bs, 1 ≤ p.2) {n : Int} (hn : n = (tot bs : Nat)) : lens (bmap bs) (nons n (bmap bs)) = (bs.filter fun b => b.1 == false).map (·.2) ∧ lens (bmap bs) (cycS n (bmap bs)) = (bs.filter fun b => b.1 == true).map (·.2) := by
  rw [nons_blk h hn, cycS_blk h hn]
  exact ⟨lens_stO h false, lens_stO h true⟩
end My
namespace My
open PySem L2 U StX PM
/-! ### counts -/
def Bg : Int := ((2 ^ 1000 : Nat) : Int)
theorem Bg_ge : (10 ^ 60 : Int) ≤ Bg := by decide +kernel
def Pos (l : List (Int × Int)) : Prop := ∀ p ∈ l, 0 < p.1 ∧ 0 < p.2 ∧ (p.1 < Bg ∧ p.2 < Bg)
def Asc (l : List (Int × Int)) : Prop := (l.map (·.1)).Pairwise (· < ·) ∧ Pos l
theorem Asc.nd {l : List (Int × Int)} (h : Asc l) : (l.map (·.1)).Nodup := nodup_of_lt h.1
def spAreC : Sp := fun vs H Q _ => ∃ (d : Addr) (l : List (Int × Int)), vs = [.ref d] ∧ H d = some (.dK (kvI l)) ∧ Pos l ∧ l.length ≤ 1000 ∧ ∀ H', Same H H' → Q (.bl true) H'
def spOrd : Sp := fun vs H Q _ => ∃ (d : Addr) (l : List (Int × Int)), vs = [.ref d] ∧ H d = some (.dK (kvI l)) ∧ (l.map (·.1)).Nodup ∧ Pos l ∧ l.length ≤ 1000 ∧ ∀ p cs H', Same H H' → H p = none → H' p = some (.dK (kvI cs)) → cs.Perm l → Asc cs → Q (.ref p) H'
/-- {x: .. for x in a list of ints that is made here} -/
theorem dc_intsX {K : PySem.W.Frag} {te : TE} {i : Nat} {tk tv : TE} {vs : List Nat} {σ : L2.St} {H0 : Hp} {Q : VK} (vf : Int → Int) (Φ : Addr → List Int → Hp → Prop) (hte : ∀ R : VK, (∀ a xs H, Φ a xs H → R (.ref a) H) → te σ H0 R) (ha : ∀ a xs H, Φ a xs H → H a = some (.lst (xs.map V.int)) ∧ xs.Nodup ∧ xs.length < sizeLine)
    (hw : ∀ a, wipe ((wipe σ vs).set i a) vs = wipe σ vs)
    (hk : ∀ (y : Int) (H1 : Hp) (R : VK), R (.int y) H1 → tk ((wipe σ vs).set i (some (.int y))) H1 R) (hv : ∀ a xs H, Φ a xs H → ∀ y ∈ xs, ∀ (H1 : Hp), L2.Same H H1 → ∀ (R : VK), R (.int (vf y)) H1 → tv ((wipe σ vs).set i (some (.int y))) H1 R)
    (hq : ∀ a xs H, Φ a xs H → ∀ D H', H D = none → H' D = some (.dK (kvI (xs.map fun x => (x, vf x)))) → L2.Same H H' → Q (.ref D) H') :
    tDc (iList K te) (gName i) tYes tk tv vs σ H0 Q := by
  refine hte _ fun a xs H φ => ?_
  obtain ⟨hx, nd, hz⟩ := ha a xs H φ
  refine ⟨a, rfl, ⟨_, SqL.of hx⟩, fun D hD => ?_⟩
  refine dc_it (walk_list (xs := xs.map V.int)) (fun k H' => L2.Same H H' ∧ H' D = some (.dK (kvI ((xs.take k).map fun x => (x, vf x))))) ⟨Same.new hD, upd_same⟩ (fun k H' _ p => SqL.of (p.1 _ _ hx)) ?_ ?_
  · rintro k v H' H'' hk1 ⟨p1, p2⟩ ⟨rfl, ev⟩
    rw [List.length_map] at hk1
    obtain ⟨y, ey⟩ : ∃ y, xs[k]? = some y := ⟨_, List.getElem?_eq_getElem hk1⟩
    have ev' : v = .int y := by
      have := get_map ey
      rw [this] at ev
      exact (Option.some.inj ev).symm
    subst ev'
    refine ⟨hw _, yes_ ?_⟩
    refine hk y _ _ (hv a xs H φ y (List.mem_of_getElem? ey) _ p1 _ ⟨_, Sum.inl y, rfl, p2, ?_, ?_, ?_⟩)
    · refine Nat.lt_of_le_of_lt ?_ hz
      rw [kvI_length, List.length_map, List.length_take]
      omega
    · exact Same.put p1 hD
    · have nin : y ∉ ((xs.take k).map fun x => (x, vf x)).map (·.1) := by
        rw [List.map_map]
        have : ((xs.take k).map ((fun p : Int × Int => p.1) ∘ fun x => (x, vf x))) = xs.take k := by
          rw [show ((fun p : Int × Int => p.1) ∘ fun x => (x, vf x)) = id from rfl, List.map_id]
        rw [this]
        intro hm
        have e2 : xs = xs.take k ++ xs.drop k := (List.take_append_drop k xs).symm
        rw [e2, List.nodup_append] at nd
        refine nd.2.2 y hm y (List.mem_iff_getElem?.mpr ⟨0, ?_⟩) rfl
        rw [List.getElem?_drop]
        exact ey
      rw [upd_same, putK_kvI nin, take_more ey, List.map_append]
      rfl
  · rintro H' ⟨p1, p2⟩
    rw [List.length_map, List.take_length] at p2
    exact hq a xs H φ D H' hD p2 p1
theorem keys_madeL (l : List (Int × Int)) : madeL (fun _ _ => true) (fun x _ => V.int x) l = (l.map (·.1)).map V.int := by
  unfold madeL
  rw [List.map_map, List.filter_eq_self.mpr fun _ _ => rfl]
  rfl
theorem ord_perm {l : List (Int × Int)} (nd : (l.map (·.1)).Nodup) {ns : List Int} (hp : ns.Perm (l.map (·.1))) (hs : ns.Pairwise (· ≤ ·)) : (ns.map fun x => (x, (lk l x).getD 0)).Perm l ∧ ((ns.map fun x => (x, (lk l x).getD 0)).map (·.1)).Pairwise (· < ·) := by
  have di : DI l (lk l) := ⟨nd, fun _ => rfl⟩
  have hnd : ns.Nodup := hp.nodup_iff.mpr nd
  constructor
  · have h1 := hp.map (fun x => (x, (lk l x).getD 0))
    refine h1.trans ?_
    rw [List.map_map]
    have : l.map ((fun x => (x, (lk l x).getD 0)) ∘ fun p : Int × Int => p.1) = l := by
      conv => rhs; rw [← List.map_id l]
      refine List.map_congr_left fun p hp' => ?_
      have := di.mem.mp (show (p.1, p.2) ∈ l from hp')
      show (p.1, (lk l p.1).getD 0) = p
      rw [this]
      rfl
    rw [this]
  · rw [List.map_map, show ((fun p : Int × Int => p.1) ∘ fun x => (x, (lk l x).getD 0)) = id from rfl, List.map_id]
    have := List.Pairwise.and hs hnd
    exact this.imp fun {a b} h => by omega
section
variable {P : Program} {w : World} {K : PySem.W.Frag} {mg : Str → Option Value} {base : Heap}
theorem ok_are_counts (T : Txt K mg) : FnR P w K mg base CX0 3 T.f_are_counts spAreC := by
  refine T.A_are_counts.ok sc_are_counts (fun vs H Q E h => ?_) (fun cdv A outer s H vs Q E hr h => ?_)
  · obtain ⟨d, l, rfl, _⟩ := h
    rfl
  · obtain ⟨d, l, rfl, hd, hp, hl, q⟩ := h
    refine ⟨_, (pss_cons (ps_if (pt_not (pt_val (pe_callB call_isi (by rfl) T.n_isinstance (by decide +kernel) (pa_cons (pv 0) (pa_cons (pe_bltn (v := .ty "dict") (u := .type "dict") (by rfl) T.n_dict (by decide +kernel) rfl) pa_nil)))))
        (pss_one (ps_ret pe_bl)) pss_nil)
      (pss_one (ps_ret (pe_callB (cr_all rfl) (by rfl) T.n_all (by decide +kernel) (pa_cons (pe_lock (pe_lc (own := [("one", 1), ("number", 2)]) (g := (gTup K 2 (gCons (gName 1) (gCons (gName 2) gNil)))) (tt := tYes) rfl sc_are_counts.nd (pi_items (pv 0)) (blkOk_by (own := [("one", 1), ("number", 2)]) (N := n_are_counts) (sc := defScope s_are_counts) (by decide +kernel)) (fun _ _ _ _ _ => (pg_tup rfl (pgs_cons (pg_name (i := 1) sc_are_counts.nd rfl (Or.inl rfl)) (pgs_cons (pg_name (i := 2) sc_are_counts.nd rfl (Or.inl rfl)) pgs_nil)))) (fun _ _ _ _ _ => pts_nil) (fun _ _ _ _ _ => (pe_and (pe_callR (ok_is_integer T) (hr.mono (by decide)) T.A_is_integer.kp rfl T.g_is_integer pass0 (pa_cons (pv 1) pa_nil)) (pe_and (pe_callR (ok_is_integer T) (hr.mono (by decide)) T.A_is_integer.kp rfl T.g_is_integer pass0 (pa_cons (pv 2) pa_nil)) (pe_and (pe_cmpR op_gt (pv 1) pe_int (nomark _)) (pe_one (pe_cmpR op_gt (pv 2) pe_int (nomark _))))))))) pa_nil))))), ?_⟩
    refine ⟨_, rfl, _, _, _, _, true, rfl, .ty _, .base (.dK hd), kit_ty (by decide +kernel), _, rfl, iteF ?_⟩
    refine lc_items (fun _ _ => true) (fun x y => .bl true) hd (fun H' R r o => ⟨_, rfl, r⟩) (fun _ _ => rfl) (fun x y hxy H1 o => ⟨fun R r => r, fun _ R r => ?_⟩) (small1000 hl) (fun D H1 nD hD s1 => ?_)
    · obtain ⟨h1, h2, _⟩ := hp _ hxy
      dsimp only at h1 h2
      refine ⟨_, rfl, _, rfl, trivial, _, rfl, iteT ⟨_, rfl, _, rfl, trivial, _, rfl, iteT ⟨_, rfl, _, _, rfl, rfl, _, rfl, ?_⟩⟩⟩
      rw [decide_eq_true h1]
      refine iteT ⟨_, rfl, _, _, rfl, rfl, ?_⟩
      show R (.bl (decide (0 < y))) H1
      rw [decide_eq_true h2]
      exact r
    · refine ⟨D, List.replicate l.length true, rfl, SqL.of ?_, ?_⟩
      · rw [hD]
        congr 2
        unfold madeL
        simp [List.map_const']
      · have : (List.replicate l.length true).all id = true := List.all_eq_true.mpr fun x hx => by rw [List.eq_of_mem_replicate hx]; rfl
        rw [this]
        exact q H1 s1
theorem ok_ordered (T : Txt K mg) : FnR P w K mg base CX0 3 T.f_ordered spOrd := by
  refine T.A_ordered.ok sc_ordered (fun vs H Q E h => ?_) (fun cdv A outer s H vs Q E hr h => ?_)
  · obtain ⟨d, l, rfl, _⟩ := h
    rfl
  · obtain ⟨d, l, rfl, hd, nd, hp, hl, q⟩ := h
    have hu := hu_of hr
    refine ⟨_, (pss_one (ps_ret (pe_dc (own := [("length", 1)]) (g := (gName 1)) (tt := tYes) rfl sc_ordered.nd (pi_list (pe_callB cr_sortedI (by rfl) T.n_sorted (by decide +kernel) (pa_cons (pe_lock (pe_lc (own := [("length", 1)]) (g := (gName 1)) (tt := tYes) rfl sc_ordered.nd (pi_keys (pv 0)) (blkOk_by (own := [("length", 1)]) (N := n_ordered) (sc := defScope s_ordered) (by decide +kernel)) (fun _ _ _ _ _ => (pg_name (i := 1) sc_ordered.nd rfl (Or.inl rfl))) (fun _ _ _ _ _ => pts_nil) (fun _ _ _ _ _ => (pe_callTy call_int1 (by rfl) T.n_int (by decide +kernel) (pa_cons (pv 1) pa_nil))))) pa_nil))) (blkOk_by (own := [("length", 1)]) (N := n_ordered) (sc := defScope s_ordered) (by decide +kernel)) (fun _ _ _ _ _ => (pg_name (i := 1) sc_ordered.nd rfl (Or.inl rfl))) (fun _ _ _ _ _ => pts_nil) (fun _ _ _ _ _ => (pv 1)) (fun _ _ _ _ _ => (pe_dget hu (pv 0) (pv 1) (fun _ _ => rfl)))))), ?_⟩
    refine dc_intsX (fun x => (lk l x).getD 0) (fun a xs H' => H' a = some (.lst (xs.map V.int)) ∧ xs.Perm (l.map (·.1)) ∧ xs.Pairwise (· ≤ ·) ∧ Same H H') (fun R rr => ?_) (fun a xs H' ⟨e, hp', _, _⟩ => ⟨e, hp'.nodup_iff.mpr nd, ?_⟩) (fun _ => rfl) (fun y H1 R r => ⟨_, rfl, r⟩) (fun a xs H' ⟨e, hp', _, s'⟩ y hy H1 s1 R r => ?_) (fun a xs H' ⟨e, hp', hs', s'⟩ D H1 nD hD s1 => ?_)
    · refine lc_keys (fun _ => true) (fun x => .int x) hd (fun H' R r o => ⟨_, rfl, r⟩) (fun _ => rfl) (fun x H1 o => ⟨fun R r => r, fun R r => ?_⟩) (small1000 hl) (fun D H1 nD hD s1 => ?_)
      · exact ⟨_, rfl, .inl ⟨_, rfl, r⟩⟩
      · rw [keys_madeL] at hD
        exact ⟨D, _, rfl, SqL.of hD, fun ns' p hp' hs' np => rr p ns' _ ⟨upd_same, hp', hs', s1.trans (Same.new np)⟩⟩
    · have := hp'.length_eq
      rw [List.length_map] at this
      exact small1000 (by omega)
    · have hm : y ∈ l.map (·.1) := hp'.mem_iff.mp hy
      obtain ⟨⟨y', z⟩, hz, rfl⟩ := List.mem_map.mp hm
      have di : DI l (lk l) := ⟨nd, fun _ => rfl⟩
      have e1 := di.mem.mp hz
      have g := dgetL (s1 _ _ (s' _ _ hd)) di y'
      dsimp only at r ⊢
      rw [e1] at g r
      exact ⟨_, rfl, _, rfl, d, .int z, rfl, g, r⟩
    · obtain ⟨o1, o2⟩ := ord_perm nd hp' hs'
      exact q D _ H1 (s'.trans s1) (s'.free nD) hD o1 ⟨o2, fun p hp2 => hp p (o1.mem_iff.mp hp2)⟩
end
end My
namespace My
open PySem L2 U StX PM
/-! ### shapes -/
def shf (D1 D2 : Addr) : List (Str × V) := [("own_cycles", .ref D1), ("own_chains", .ref D2)]
structure IsShape (C : Addr) (H : Hp) (s : Addr) (cs hs : List (Int × Int)) : Prop where
  ob : ∃ dx D1 D2, H s = some (.ins C dx (shf D1 D2)) ∧ H D1 = some (.dK (kvI cs)) ∧ H D2 = some (.dK (kvI hs))
  a1 : Asc cs
  a2 : Asc hs
  l1 : cs.length ≤ 1000
  l2 : hs.length ≤ 1000
theorem IsShape.same {C : Addr} {H H' : Hp} {s : Addr} {cs hs : List (Int × Int)} (h : IsShape C H s cs hs) (x : Same H H') : IsShape C H' s cs hs := by
  obtain ⟨⟨dx, D1, D2, h1, h2, h3⟩, a1, a2, l1, l2⟩ := h
  exact ⟨⟨dx, D1, D2, x _ _ h1, x _ _ h2, x _ _ h3⟩, a1, a2, l1, l2⟩
theorem Off.ofS {p : Addr} {H H' : Hp} (s : Same H H') : Off p H H' := fun _ _ _ h => s _ _ h
theorem stF {p : Addr} {H H' : Hp} {o : HO} (g : upd H p o = H') : Off p H H' ∧ H' p = some o := by
  subst g
  exact ⟨Off.lock, upd_same⟩
def spInitSh (C : Addr) : Sp := fun vs H Q _ => ∃ (s dx d1 d2 : Addr) (l1 l2 : List (Int × Int)), vs = [.ref s, .ref d1, .ref d2] ∧ H s = some (.ins C dx []) ∧ H d1 = some (.dK (kvI l1)) ∧ H d2 = some (.dK (kvI l2)) ∧ (l1.map (·.1)).Nodup ∧ (l2.map (·.1)).Nodup ∧ Pos l1 ∧ Pos l2 ∧ l1.length ≤ 1000 ∧ l2.length ≤ 1000 ∧
  ∀ cs hs H', Off s H H' → cs.Perm l1 → hs.Perm l2 → IsShape C H' s cs hs → Q .non H'
def spShD (C : Addr) (pick : List (Int × Int) → List (Int × Int) → List (Int × Int)) : Sp := fun vs H Q _ => ∃ (s : Addr) (cs hs : List (Int × Int)), vs = [.ref s] ∧ IsShape C H s cs hs ∧ ∀ p, H p = none → Q (.ref p) (upd H p (.dK (kvI (pick cs hs))))
section
variable {P : Program} {w : World} {K : PySem.W.Frag} {mg : Str → Option Value} {base : Heap}
theorem ok_sh_init (T : Txt K mg) : FnR P w K mg base CX0 5 T.f_Shape__init (spInitSh T.C_Shape) := by
  refine T.A_Shape__init.ok sc_Shape__init (fun vs H Q E h => ?_) (fun cdv A outer s H vs Q E hr h => ?_)
  · obtain ⟨s, dx, d1, d2, l1, l2, rfl, _⟩ := h
    rfl
  · obtain ⟨s, dx, d1, d2, l1, l2, rfl, hs, hd1, hd2, n1, n2, p1, p2, b1, b2, q⟩ := h
    refine ⟨_, (pss_cons (ps_if (pt_not (pt_val (pe_callR (ok_are_counts T) (hr.mono (by decide)) T.A_are_counts.kp rfl T.g_are_counts pass0 (pa_cons (pv 1) pa_nil))))
        (pss_one ps_never) pss_nil)
      (pss_cons (ps_if (pt_not (pt_val (pe_callR (ok_are_counts T) (hr.mono (by decide)) T.A_are_counts.kp rfl T.g_are_counts pass0 (pa_cons (pv 2) pa_nil))))
        (pss_one ps_never) pss_nil)
      (pss_cons (ps_fld (pv 0) (pe_callR (ok_ordered T) (hr.mono (by decide)) T.A_ordered.kp rfl T.g_ordered pass0 (pa_cons (pv 1) pa_nil)) rfl)
      (pss_one (ps_fld (pv 0) (pe_callR (ok_ordered T) (hr.mono (by decide)) T.A_ordered.kp rfl T.g_ordered pass0 (pa_cons (pv 2) pa_nil)) rfl))))), ?_⟩
    refine ⟨_, rfl, d1, l1, rfl, hd1, p1, b1, fun H1 s1 => ⟨_, rfl, iteF ?_⟩⟩
    refine ⟨_, rfl, d2, l2, rfl, s1 _ _ hd2, p2, b2, fun H2 s2 => ⟨_, rfl, iteF ?_⟩⟩
    have s12 := s1.trans s2
    refine ⟨_, rfl, d1, l1, rfl, s12 _ _ hd1, n1, p1, b1, fun D1 cs H3 s3 nD1 hD1 pm1 as1 => ?_⟩
    have s13 := s12.trans s3
    have hs3 := s13 _ _ hs
    refine ⟨_, rfl, s, _, dx, _, rfl, hs3, T.o_Shape.cl, T.na_own_cycles_Shape, (by show 0 < 1000; decide), ?_⟩
    generalize g4 : upd _ s _ = H4
    obtain ⟨o4, e4⟩ := stF g4
    clear g4
    have nd2 : d2 ≠ s := ne_of hd2 hs (by intro z; cases z)
    have hd24 := o4 _ _ nd2 (s13 _ _ hd2)
    have nD1s : D1 ≠ s := (ne_of_none (s12 _ _ hs) nD1).symm
    have hD14 := o4 _ _ nD1s hD1
    refine ⟨_, rfl, d2, l2, rfl, hd24, n2, p2, b2, fun D2 hs' H5 s5 nD2 hD2 pm2 as2 => ?_⟩
    refine ⟨_, rfl, s, _, dx, _, rfl, s5 _ _ e4, T.o_Shape.cl, T.na_own_chains_Shape, (by show 1 < 1000; decide), ?_⟩
    generalize g6 : upd _ s _ = H6
    obtain ⟨o6, e6⟩ := stF g6
    clear g6
    have nD2s : D2 ≠ s := (ne_of_none e4 nD2).symm
    refine q cs hs' H6 ((((Off.ofS s13).tr o4).tr (Off.ofS s5)).tr o6) pm1 pm2 ⟨⟨dx, D1, D2, e6, o6 _ _ nD1s (s5 _ _ hD14), o6 _ _ nD2s hD2⟩, as1, as2, by rw [pm1.length_eq]; exact b1, by rw [pm2.length_eq]; exact b2⟩
theorem ok_sh_cycles (T : Txt K mg) : FnR P w K mg base CX0 1 T.f_Shape_cycles (spShD T.C_Shape fun cs _ => cs) := by
  refine T.A_Shape_cycles.ok sc_Shape_cycles (fun vs H Q E h => ?_) (fun cdv A outer s H vs Q E hr h => ?_)
  · obtain ⟨s, cs, hs, rfl, _⟩ := h
    rfl
  · obtain ⟨s, cs, hs, rfl, ⟨⟨dx, D1, D2, h1, h2, h3⟩, _⟩, q⟩ := h
    refine ⟨_, (pss_one (ps_ret (pe_callTy call_dictD (by rfl) T.n_dict (by decide +kernel) (pa_cons (pe_fld (pv 0) rfl) pa_nil)))), ?_⟩
    exact ⟨_, rfl, s, _, dx, _, _, rfl, h1, T.o_Shape.cl, T.na_own_cycles_Shape, rfl, D1, _, rfl, .inl h2, fun p np => q p np⟩
theorem ok_sh_chains (T : Txt K mg) : FnR P w K mg base CX0 1 T.f_Shape_chains (spShD T.C_Shape fun _ hs => hs) := by
  refine T.A_Shape_chains.ok sc_Shape_chains (fun vs H Q E h => ?_) (fun cdv A outer s H vs Q E hr h => ?_)
  · obtain ⟨s, cs, hs, rfl, _⟩ := h
    rfl
  · obtain ⟨s, cs, hs, rfl, ⟨⟨dx, D1, D2, h1, h2, h3⟩, _⟩, q⟩ := h
    refine ⟨_, (pss_one (ps_ret (pe_callTy call_dictD (by rfl) T.n_dict (by decide +kernel) (pa_cons (pe_fld (pv 0) rfl) pa_nil)))), ?_⟩
    exact ⟨_, rfl, s, _, dx, _, _, rfl, h1, T.o_Shape.cl, T.na_own_chains_Shape, rfl, D2, _, rfl, .inl h3, fun p np => q p np⟩
end
end My
namespace My
open PySem L2 U StX PM
/-! ### counts of lengths -/
def cN (Ls : List Nat) (x : Int) : Nat := (Ls.filter fun L : Nat => decide ((L : Int) = x)).length
def cnt (Ls : List Nat) : PF := fun x => if cN Ls x = 0 then none else some (cN Ls x : Nat)
theorem cN_snoc (Ls : List Nat) (L : Nat) (x : Int) : cN (Ls ++ [L]) x = cN Ls x + if (L : Int) = x then 1 else 0 := by
  unfold cN
  rw [List.filter_append, List.length_append]
  by_cases h : (L : Int) = x
  · simp [h]
  · simp [h]
theorem cnt_get (Ls : List Nat) (x : Int) : (cnt Ls x).getD 0 = (cN Ls x : Nat) := by
  unfold cnt
  by_cases h : cN Ls x = 0
  · rw [if_pos h, h]; rfl
  · rw [if_neg h]; rfl
theorem cnt_snoc (Ls : List Nat) (L : Nat) : cnt (Ls ++ [L]) = fun z => if z = (L : Int) then some ((cnt Ls z).getD 0 + 1) else cnt Ls z := by
  funext z
  rw [cnt_get]
  unfold cnt
  rw [cN_snoc]
  by_cases h : z = (L : Int)
  · rw [if_pos h, if_pos h.symm, if_neg (by omega)]
    congr 1
  · have h' : ¬ ((L : Int) = z) := fun e => h e.symm
    simp only [if_neg h, if_neg h', Nat.add_zero]
theorem di_putZ {l : List (Int × Int)} {f : PF} (d : DI l f) (x y : Int) : ∃ l', putK (kvI l) (Sum.inl x : Key) (V.int y) = kvI l' ∧ l'.length ≤ l.length + 1 ∧ DI l' (fun z => if z = x then some y else f z) := by
  obtain ⟨l', e, hl, hn, hk⟩ := putK_lk (l := l) (x := x) (y := y)
  exact ⟨l', e, hl, hn d.nd, fun z => by rw [hk, d.at_]⟩
theorem getDI0 (o : Option Int) : ((o.map V.int).getD (V.int 0)) = V.int (o.getD 0) := by cases o <;> rfl
def spCnt : Sp := fun vs H Q _ => ∃ (a : Addr) (ps : List Addr) (rs : List (List Int)), vs = [.ref a] ∧ H a = some (.lst (ps.map V.ref)) ∧ RowsAt H ps rs ∧ ps.length ≤ 1000 ∧ ∀ p l H', Same H H' → H p = none → H' p = some (.dK (kvI l)) → DI l (cnt (rs.map (·.length))) → l.length ≤ 1000 → Q (.ref p) H'
theorem cnt_pos {Ls : List Nat} (h : ∀ L ∈ Ls, 1 ≤ L) (hx : ∀ L ∈ Ls, L ≤ 1000) (hl : Ls.length ≤ 1000) {l : List (Int × Int)} (d : DI l (cnt Ls)) : Pos l := by
  rintro ⟨x, y⟩ hp
  have e := d.mem.mp hp
  unfold cnt at e
  by_cases h0 : cN Ls x = 0
  · rw [if_pos h0] at e; cases e
  · rw [if_neg h0] at e
    have ey := Option.some.inj e
    have hle : cN Ls x ≤ Ls.length := List.length_filter_le _ _
    have : ∃ L ∈ Ls, (L : Int) = x := by
      unfold cN at h0
      obtain ⟨L, hL⟩ : ∃ L, L ∈ Ls.filter fun L : Nat => decide ((L : Int) = x) := List.exists_mem_of_length_pos (by omega)
      rw [List.mem_filter, decide_eq_true_eq] at hL
      exact ⟨L, hL⟩
    obtain ⟨L, hL, rfl⟩ := this
    have := h L hL
    dsimp only
    refine ⟨by omega, by omega, ?_⟩
    have := Bg_ge
    have := hx L hL
    omega
def spShape (C CS : Addr) : Sp := fun vs H Q _ => ∃ (m : Addr) (n : Int) (f : PF), vs = [.ref m] ∧ IsMap C H m n f ∧ ∀ s cs hs H', Same H H' → IsShape CS H' s cs hs → DI cs (cnt (lens f (cycS n f))) → DI hs (cnt (lens f (nons n f))) → Q (.ref s) H'
theorem di_perm {l m : List (Int × Int)} {f : PF} (d : DI l f) (h : m.Perm l) : DI m f := by
  refine di_of ((h.map _).nodup_iff.mpr d.nd) fun x y => ?_
  rw [h.mem_iff]
  exact d.mem
theorem rows_lens {f : PF} {s : List Int} : (s.map (rowN f)).map (·.length) = lens f s := by
  unfold lens
  rw [List.map_map]
  rfl
section
variable {P : Program} {w : World} {K : PySem.W.Frag} {mg : Str → Option Value} {base : Heap}
theorem ok_counts_of (T : Txt K mg) : FnR P w K mg base CX0 2 T.f_counts_of spCnt := by
  refine T.A_counts_of.ok sc_counts_of (fun vs H Q E h => ?_) (fun cdv A outer s H vs Q E hr h => ?_)
  · obtain ⟨a, ps, rs, rfl, _⟩ := h
    rfl
  · obtain ⟨a, ps, rs, rfl, ha, hr0, hl, q⟩ := h
    have hu := hu_of hr
    refine ⟨_, (pss_cons (ps_set (i := 1) sc_counts_of.nd rfl (Or.inl rfl) pe_dnewK)
      (pss_cons (ps_for PassesOwn.never rfl (pi_list (pv 0)) (pg_name (i := 2) sc_counts_of.nd rfl (Or.inl rfl))
        (pss_one (ps_dput hu (pv 1) (pe_callB call_len_seq (by rfl) T.n_len (by decide +kernel) (pa_cons (pv 2) pa_nil)) (pe_op op_add (pe_dget2 hu (pv 1) (pe_callB call_len_seq (by rfl) T.n_len (by decide +kernel) (pa_cons (pv 2) pa_nil)) pe_int ⟨rfl, rfl, rfl, rfl⟩) pe_int) rfl)))
      (pss_one (ps_ret (pv 1))))), ?_⟩
    refine fun D n_D => ?_
    generalize g_D : L2.upd _ D _ = H1
    obtain ⟨s_H1, e_D⟩ := U.upd_facts g_D n_D
    clear g_D
    have hln := hr0.len
    refine ⟨_, rfl, a, rfl, ⟨_, SqL.of (s_H1 _ _ ha)⟩, ?_⟩
    refine for_it (walk_list (xs := ps.map V.ref)) (fun i σ H' => ∃ v2 l, σ = [some (.ref a), some (.ref D), v2] ∧ Same H H' ∧ H' D = some (.dK (kvI l)) ∧ DI l (cnt ((rs.take i).map (·.length))) ∧ l.length ≤ i)
      ⟨_, [], rfl, s_H1, e_D, ⟨List.nodup_nil, fun _ => rfl⟩, Nat.le_refl _⟩ (fun i σ H' _ ⟨_, _, _, z, _⟩ => SqL.of (z _ _ ha)) ?_ ?_
    · rintro i v σ Ha0 Ha hi ⟨v2, l, rfl, sa, eD, di, hli⟩ ⟨rfl, ev⟩
      rw [List.length_map] at hi
      rw [List.getElem?_map] at ev
      cases e : ps[i]? with
      | none => rw [e] at ev; cases ev
      | some b =>
        rw [e] at ev
        cases ev
        obtain ⟨r, er, hb0⟩ := hr0.get i b e
        have hb := sa _ _ hb0
        have g := dgetL eD di (((r.map V.int).length : Nat) : Int)
        refine ⟨_, rfl, D, rfl, isD_of eD, _, rfl, b, _, rfl, .inl (SqL.of hb), _, g, ?_⟩
        rw [getDI0]
        refine ⟨_, _, rfl, rfl, _, rfl, _, rfl, b, _, rfl, .inl (SqL.of hb), D, _, rfl, DPut.k (k := Sum.inl _) eD (small1000 (by rw [kvI_length]; omega)), ?_⟩
        obtain ⟨l', e', hl', di'⟩ := di_putZ di (((r.map V.int).length : Nat) : Int) ((cnt ((rs.take i).map (·.length)) (((r.map V.int).length : Nat) : Int)).getD 0 + 1)
        rw [e']
        refine ⟨_, l', rfl, Same.put sa n_D, upd_same, ?_, by omega⟩
        rw [take_more er, List.map_append]
        have := cnt_snoc ((rs.take i).map (·.length)) r.length
        rw [show [r].map (·.length) = [r.length] from rfl, this]
        rw [List.length_map] at di'
        refine ⟨di'.nd, fun z => ?_⟩
        rw [di'.at_]
        by_cases hz : z = (r.length : Int)
        · subst hz; rfl
        · rw [if_neg hz, if_neg hz]
    · rintro σ Ha ⟨v2, l, rfl, sa, eD, di, hli⟩
      rw [List.length_map, hln, List.take_length] at di
      rw [List.length_map] at hli
      exact ⟨_, rfl, q D l Ha sa n_D eD di (by omega)⟩
end
end My
namespace My
open PySem L2 U StX PM
/-! ### check_shape, shape_of, map_of -/
theorem Asc.pos {l : List (Int × Int)} (h : Asc l) : ∀ p ∈ l, 0 < p.1 ∧ 0 < p.2 := fun p hp => ⟨(h.2 p hp).1, (h.2 p hp).2.1⟩
theorem initS_of {C : Addr} {H : Hp} {d1 d2 : Addr} {l1 l2 : List (Int × Int)} {R : VK} {E : XK} {x dx : Addr} (hd1 : H d1 = some (.dK (kvI l1))) (hd2 : H d2 = some (.dK (kvI l2))) (n1 : (l1.map (·.1)).Nodup) (n2 : (l2.map (·.1)).Nodup) (p1 : Pos l1) (p2 : Pos l2) (b1 : l1.length ≤ 1000) (b2 : l2.length ≤ 1000)
    (nx : H x = none) (ndx : H dx = none) (ne : dx ≠ x) (q : ∀ cs hs H', Same H H' → cs.Perm l1 → hs.Perm l2 → IsShape C H' x cs hs → R .non H') : spInitSh C [.ref x, .ref d1, .ref d2] (upd (upd H dx (.own x)) x (.ins C dx [])) R E := by
  have s0 : Same H (upd (upd H dx (.own x)) x (.ins C dx [])) := (Same.new ndx).trans (Same.new (by rw [upd_ne ne.symm]; exact nx))
  refine ⟨x, dx, d1, d2, l1, l2, rfl, upd_same, s0 _ _ hd1, s0 _ _ hd2, n1, n2, p1, p2, b1, b2, fun cs hs H' o pm1 pm2 sh => q cs hs H' (fun b u e => ?_) pm1 pm2 sh⟩
  exact o _ _ (ne_of_none e nx) (s0 _ _ e)
section
variable {P : Program} {w : World} {K : PySem.W.Frag} {mg : Str → Option Value} {base : Heap}
theorem ok_shape_of (T : Txt K mg) : FnR P w K mg base CX0 7 T.f_shape_of (spShape T.C_Map T.C_Shape) := by
  refine T.A_shape_of.ok sc_shape_of (fun vs H Q E h => ?_) (fun cdv A outer s H vs Q E hr h => ?_)
  · obtain ⟨a, n, f, rfl, _⟩ := h
    rfl
  · obtain ⟨a, n, f, rfl, hm, q⟩ := h
    refine ⟨_, (pss_cons (ps_expr (pe_callR (fnR_calm (ok_check_map T)) (hr.mono (by decide)) T.A_check_map.kp rfl T.g_check_map pass0 (pa_cons (pv 0) pa_nil)))
      (pss_cons (ps_asg (pe_callR (ok_parts_of T) (hr.mono (by decide)) T.A_parts_of.kp rfl T.g_parts_of pass0 (pa_cons (pv 0) pa_nil)) (pg_tup rfl (pgs_cons (pg_name (i := 1) sc_shape_of.nd rfl (Or.inl rfl)) (pgs_cons (pg_name (i := 2) sc_shape_of.nd rfl (Or.inl rfl)) pgs_nil))))
      (pss_one (ps_ret (pe_makeR T.M_Shape (ok_sh_init T) (hr.mono (by decide)) rfl T.g_Shape pass0 (pa_cons (pe_callR (ok_counts_of T) (hr.mono (by decide)) T.A_counts_of.kp rfl T.g_counts_of pass0 (pa_cons (pv 1) pa_nil)) (pa_cons (pe_callR (ok_counts_of T) (hr.mono (by decide)) T.A_counts_of.kp rfl T.g_counts_of pass0 (pa_cons (pv 2) pa_nil)) pa_nil))))))), ?_⟩
    refine ⟨_, rfl, _, rfl, .inl ⟨a, n, f, rfl, hm, ?_⟩⟩
    refine ⟨_, rfl, a, n, f, rfl, hm, fun t lc lh cs hs H1 s1 e1 e2 e3 r1 r2 n1 n2 n3 w1 w2 => ?_⟩
    have lc1 := r1.len
    have lc2 := r2.len
    rw [List.length_map] at lc1 lc2
    have hn := hm.hi
    have b1 : (cycS n f).length ≤ 300 := by
      have := (cycS_sub n f).1.length_le
      have e : (rgI n.toNat).length = n.toNat := by simp [rgI]
      omega
    have b2 : (nons n f).length ≤ 300 := by
      have := List.length_filter_le (nonT n f) (rgI n.toNat)
      have e : (rgI n.toNat).length = n.toNat := by simp [rgI]
      unfold nons
      omega
    refine ⟨t, _, rfl, SqT.of e1, rfl, .ref lc, [.ref lh], rfl, .ref lh, [], rfl, rfl, ?_⟩
    refine ⟨_, rfl, lc, cs, _, rfl, e2, r1, by omega, fun d1 l1 H2 s2 nd1 hd1 di1 hl1 => ?_⟩
    refine ⟨_, rfl, lh, hs, _, rfl, s2 _ _ e3, r2.same s2, by omega, fun d2 l2 H3 s3 nd2 hd2 di2 hl2 => ?_⟩
    rw [rows_lens] at di1 di2
    have pos : ∀ st : List Int, (∀ e ∈ st, 0 ≤ e ∧ e < n) → ∀ L ∈ lens f st, 1 ≤ L := fun st hst L hL => by
      unfold lens at hL
      obtain ⟨e, he, rfl⟩ := List.mem_map.mp hL
      exact row_pos hm.wf (hst e he).1 (hst e he).2
    have mx : ∀ st : List Int, (∀ e ∈ st, 0 ≤ e ∧ e < n) → ∀ L ∈ lens f st, L ≤ 1000 := fun st hst L hL => by
      unfold lens at hL
      obtain ⟨e, he, rfl⟩ := List.mem_map.mp hL
      have := row_le hm.wf (hst e he).1 (hst e he).2
      omega
    refine fun x dx nx ndx ne => initS_of (s3 _ _ hd1) hd2 di1.nd di2.nd (cnt_pos (pos _ fun e he => cycS_dom he) (mx _ fun e he => cycS_dom he) (by unfold lens; rw [List.length_map]; omega) di1) (cnt_pos (pos _ fun e he => ⟨(nons_dom he).1, (nons_dom he).2.1⟩) (mx _ fun e he => ⟨(nons_dom he).1, (nons_dom he).2.1⟩) (by unfold lens; rw [List.length_map]; omega) di2) hl1 hl2 nx ndx ne fun cs' hs' H4 s4 pm1 pm2 sh => ⟨rfl, ?_⟩
    exact q x cs' hs' H4 (((s1.trans s2).trans s3).trans s4) sh (di_perm di1 pm1) (di_perm di2 pm2)
end
end My
namespace My
open PM
/-! ### bags of lengths -/
def bag (qs : List (Int × Int)) (x : Int) : Int := (qs.map fun q => if q.1 = x then q.2 else 0).sum
def toPF (N : Int → Int) : PF := fun x => if N x = 0 then none else some (N x)
def wsum (qs : List (Int × Int)) (φ : Int → Int) : Int := (qs.map fun q => q.2 * φ q.1).sum
theorem toPF_some {N : Int → Int} {x y : Int} : toPF N x = some y ↔ N x = y ∧ y ≠ 0 := by
  unfold toPF
  by_cases h : N x = 0
  · rw [if_pos h]
    exact ⟨fun z => (nomatch z), fun ⟨a, b⟩ => absurd (a.symm.trans h) b⟩
  · rw [if_neg h]
    exact ⟨fun z => by cases z; exact ⟨rfl, h⟩, fun ⟨a, _⟩ => by rw [a]⟩
theorem bag_cons (q : Int × Int) (qs : List (Int × Int)) (x : Int) : bag (q :: qs) x = (if q.1 = x then q.2 else 0) + bag qs x := by
  unfold bag
  rw [List.map_cons, List.sum_cons]
theorem bag_wsum (qs : List (Int × Int)) (x : Int) : bag qs x = wsum qs fun L => if L = x then 1 else 0 := by
  unfold bag wsum
  congr 1
  refine List.map_congr_left fun q _ => ?_
  show (if q.1 = x then q.2 else 0) = q.2 * (if q.1 = x then 1 else 0)
  by_cases h : q.1 = x
  · rw [if_pos h, if_pos h, Int.mul_one]
  · rw [if_neg h, if_neg h, Int.mul_zero]
def ones (Ls : List Nat) : List (Int × Int) := Ls.map fun L : Nat => ((L : Int), 1)
theorem bag_ones (Ls : List Nat) (x : Int) : bag (ones Ls) x = (cN Ls x : Nat) := by
  induction Ls with
  | nil => rfl
  | cons L r ih =>
    unfold ones at ih ⊢
    rw [List.map_cons, bag_cons, ih]
    unfold cN
    rw [List.filter_cons]
    by_cases h : (L : Int) = x
    · rw [if_pos h, if_pos (by simpa using h), List.length_cons]; omega
    · rw [if_neg h, if_neg (by simpa using h)]; omega
theorem cnt_bag (Ls : List Nat) : cnt Ls = toPF (bag (ones Ls)) := by
  funext x
  unfold cnt toPF
  rw [bag_ones]
  by_cases h : cN Ls x = 0
  · rw [if_pos h, if_pos (by omega)]
  · rw [if_neg h, if_neg (by omega)]
theorem wsum_ones (Ls : List Nat) (φ : Int → Int) : wsum (ones Ls) φ = (Ls.map fun L : Nat => φ (L : Int)).sum := by
  unfold wsum ones
  rw [List.map_map]
  congr 1
  refine List.map_congr_left fun L _ => ?_
  show 1 * φ (L : Int) = _
  rw [Int.one_mul]
/-! ### powers of counts -/
def hp1 (e : Int) (p : Int × Int) : Int × Int := (p.1 / e + 1, p.2 * (p.1 % e))
def hp2 (e : Int) (p : Int × Int) : Int × Int := (p.1 / e, p.2 * (if 0 < p.1 / e then e - p.1 % e else 0))
def hq (cs : List (Int × Int)) (e : Int) : List (Int × Int) := cs.flatMap fun p => [hp1 e p, hp2 e p]
end My
namespace My
open PM
/-! ### parts of powers -/
theorem cyc_le {n : Int} {f : PF} (w : WF n f) {e e' : Int} (he : e ∈ cycS n f) (he' : e' ∈ cycS n f) (h : e' ∈ rowN f e) : e' ≤ e := by
  refine Int.not_lt.mp fun hlt => ?_
  have d := cycS_dom he
  have d' := cycS_dom he'
  have hs' : e' ∈ selL f (nons n f) (rgI n.toNat) := by rw [cycS_eq]; exact List.mem_append_right _ he'
  have hs : e ∈ selL f (nons n f) (rgI n.toNat) := by rw [cycS_eq]; exact List.mem_append_right _ he
  rcases sel_mem hs' with hb | ⟨l1, l2, el, hn⟩
  · exact (cycS_sub n f).2 e' he' (mem_seenL.mpr ⟨e', hb, (rowN_is w d'.1 d'.2).mem⟩)
  · have asc := rgI_lt n.toNat
    have hm : e ∈ rgI n.toNat := mem_rgI.mpr ⟨d.1, by omega⟩
    rw [el] at hs asc hm
    have pw := (List.pairwise_append.mp asc).2.1
    rw [List.pairwise_cons] at pw
    have el1 : e ∈ l1 := by
      rcases List.mem_append.mp hm with h1 | h1
      · exact h1
      · rcases List.mem_cons.mp h1 with rfl | h1
        · omega
        · have := pw.1 e h1
          omega
    rw [selL_append] at hs
    obtain ⟨c, hc, hsub, hns⟩ := selL_sub f (e' :: l2) (selL f (nons n f) l1)
    rw [hc] at hs
    rcases List.mem_append.mp hs with h1 | h1
    · exact hn (mem_seenL.mpr ⟨e, h1, h⟩)
    · rcases List.mem_cons.mp (hsub.subset h1) with rfl | h2
      · omega
      · have := pw.1 e h2
        omega
theorem cyc_back {n : Int} {f : PF} (w : WF n f) {e a : Int} (he : e ∈ cycS n f) (h : a ∈ rowN f e) : ∃ k, iter f k a = some e := by
  obtain ⟨i, hi⟩ := List.getElem?_of_mem h
  have d := cycS_dom he
  have hl := (List.getElem?_eq_some_iff.mp hi).1
  refine ⟨(rowN f e).length - i, ?_⟩
  rw [cycle_at w he hi, show i + ((rowN f e).length - i) = (rowN f e).length by omega, Nat.mod_self]
  exact row_head w d.1 d.2
theorem cyc_fwd {n : Int} {f : PF} (w : WF n f) {e a b : Int} {k : Nat} (he : e ∈ cycS n f) (h : a ∈ rowN f e) (hk : iter f k a = some b) : b ∈ rowN f e := by
  obtain ⟨i, hi⟩ := List.getElem?_of_mem h
  rw [cycle_at w he hi] at hk
  exact List.mem_of_getElem? hk
theorem cyc_uniq {n : Int} {f : PF} (w : WF n f) {e e' a : Int} (he : e ∈ cycS n f) (he' : e' ∈ cycS n f) (h : a ∈ rowN f e) (h' : a ∈ rowN f e') : e = e' := by
  obtain ⟨k, hk⟩ := cyc_back w he h
  obtain ⟨k', hk'⟩ := cyc_back w he' h'
  have m1 := cyc_fwd w he' h' hk
  have m2 := cyc_fwd w he h hk'
  have := cyc_le w he he' m2
  have := cyc_le w he' he m1
  omega
theorem iter_dvd {n : Int} {f : PF} (w : WF n f) {e a : Int} (he : e ∈ cycS n f) (h : a ∈ rowN f e) (m : Nat) : iter f m a = some a ↔ (rowN f e).length ∣ m := by
  obtain ⟨i, hi⟩ := List.getElem?_of_mem h
  have d := cycS_dom he
  have hl := (List.getElem?_eq_some_iff.mp hi).1
  rw [cycle_at w he hi]
  constructor
  · intro z
    have q := row_inj w d.1 d.2 (i := i) (j := (i + m) % (rowN f e).length) hl (by rw [hi, z])
    have q2 : (i + m) % (rowN f e).length = i % (rowN f e).length := by rw [Nat.mod_eq_of_lt hl]; exact q.symm
    have := Nat.sub_mod_eq_zero_of_mod_eq q2
    rw [Nat.add_sub_cancel_left] at this
    exact Nat.dvd_of_mod_eq_zero this
  · rintro ⟨c, rfl⟩
    rw [Nat.add_mul_mod_self_left, Nat.mod_eq_of_lt hl]
    exact hi
theorem iter_mul (f : PF) (a : Nat) (x : Int) : ∀ b, iter (iter f a) b x = iter f (a * b) x
  | 0 => rfl
  | b + 1 => by
    show (iter (iter f a) b x).bind (iter f a) = _
    rw [iter_mul f a x b, Nat.mul_add, Nat.mul_one, iter_add]
def isPer (g : PF) (a : Int) (x : Nat) : Prop := 1 ≤ x ∧ iter g x a = some a ∧ ∀ j, 1 ≤ j → j < x → iter g j a ≠ some a
theorem dvd_gcd_iff {L e j : Nat} (hL : 1 ≤ L) : L ∣ e * j ↔ L / Nat.gcd L e ∣ j := by
  have hg : 0 < Nat.gcd L e := Nat.gcd_pos_of_pos_left _ hL
  obtain ⟨l, hl⟩ := Nat.gcd_dvd_left L e
  obtain ⟨k, hk⟩ := Nat.gcd_dvd_right L e
  have cp : Nat.Coprime (L / Nat.gcd L e) (e / Nat.gcd L e) := Nat.coprime_div_gcd_div_gcd hg
  have e1 : L / Nat.gcd L e = l := Nat.div_eq_of_eq_mul_right hg hl
  have e2 : e / Nat.gcd L e = k := Nat.div_eq_of_eq_mul_right hg hk
  rw [e1, e2] at cp
  rw [e1]
  generalize Nat.gcd L e = g at hg hl hk
  subst hl
  subst hk
  constructor
  · intro z
    rw [Nat.mul_assoc] at z
    exact cp.dvd_of_dvd_mul_left (Nat.dvd_of_mul_dvd_mul_left hg z)
  · intro z
    rw [Nat.mul_assoc]
    exact Nat.mul_dvd_mul_left g (Nat.dvd_trans z (Nat.dvd_mul_left _ _))
theorem per_cyc {n : Int} {f : PF} (w : WF n f) {e a : Int} {e0 : Nat} (he : e ∈ cycS n f) (h : a ∈ rowN f e) (x : Nat) : isPer (iter f e0) a x ↔ x = (rowN f e).length / Nat.gcd (rowN f e).length e0 := by
  have d := cycS_dom he
  have hL := row_pos w d.1 d.2
  have key : ∀ j, iter (iter f e0) j a = some a ↔ (rowN f e).length / Nat.gcd (rowN f e).length e0 ∣ j := fun j => by
    rw [iter_mul, iter_dvd w he h, dvd_gcd_iff hL]
  have hM : 1 ≤ (rowN f e).length / Nat.gcd (rowN f e).length e0 := Nat.div_pos (Nat.gcd_le_left _ hL) (Nat.gcd_pos_of_pos_left _ hL)
  generalize (rowN f e).length / Nat.gcd (rowN f e).length e0 = M at key hM
  constructor
  · rintro ⟨h1, h2, h3⟩
    have hd := (key x).mp h2
    have hle := Nat.le_of_dvd h1 hd
    refine Nat.le_antisymm (Nat.le_of_not_lt fun hlt => h3 M hM hlt ((key M).mpr (Nat.dvd_refl _))) hle
  · rintro rfl
    refine ⟨hM, (key x).mpr (Nat.dvd_refl _), fun j h1 h2 z => ?_⟩
    have := Nat.le_of_dvd h1 ((key j).mp z)
    omega
theorem mem_cyc {n : Int} {f : PF} (w : WF n f) {a : Int} : a ∈ seenL f (cycS n f) ↔ ∃ x, 1 ≤ x ∧ iter f x a = some a := by
  rw [mem_seenL]
  constructor
  · rintro ⟨e, he, h⟩
    have d := cycS_dom he
    exact ⟨_, row_pos w d.1 d.2, (iter_dvd w he h _).mpr (Nat.dvd_refl _)⟩
  · rintro ⟨x, hx, h⟩
    have ha : 0 ≤ a ∧ a < n := by
      refine Decidable.byContradiction fun z => ?_
      rw [iter_out w z hx] at h
      cases h
    obtain ⟨e, he, hm⟩ := cover w ha.1 ha.2
    rcases List.mem_append.mp he with he' | he'
    · obtain ⟨i, hi⟩ := List.getElem?_of_mem hm
      have d := nons_dom he'
      rw [chain_at w he' hi] at h
      have := row_inj w d.1 d.2.1 (i := i) (j := i + x) (List.getElem?_eq_some_iff.mp hi).1 (by rw [hi, h])
      omega
    · exact ⟨e, he', hm⟩
theorem nd_seen {f : PF} {s : List Int} (nd : s.Nodup) (h1 : ∀ e ∈ s, (rowN f e).Nodup) (h2 : ∀ e ∈ s, ∀ e' ∈ s, ∀ a, a ∈ rowN f e → a ∈ rowN f e' → e = e') : (seenL f s).Nodup := by
  induction s with
  | nil => exact List.nodup_nil
  | cons e r ih =>
    rw [List.nodup_cons] at nd
    show (rowN f e ++ seenL f r).Nodup
    rw [List.nodup_append]
    refine ⟨h1 e (List.mem_cons_self ..), ih nd.2 (fun e he => h1 e (List.mem_cons_of_mem _ he)) (fun e he e' he' => h2 e (List.mem_cons_of_mem _ he) e' (List.mem_cons_of_mem _ he')), fun a ha b hb hab => ?_⟩
    subst hab
    obtain ⟨e', he', hm⟩ := mem_seenL.mp hb
    have := h2 e (List.mem_cons_self ..) e' (List.mem_cons_of_mem _ he') a ha hm
    subst this
    exact nd.1 he'
theorem nd_cyc {n : Int} {f : PF} (w : WF n f) : (seenL f (cycS n f)).Nodup :=
  nd_seen (nodup_of_lt (cycS_lt n f)) (fun e he => (rowN_is w (cycS_dom he).1 (cycS_dom he).2).nd w) fun e he e' he' a h h' => cyc_uniq w he he' h h'
theorem perm_sum {l m : List Int} (h : l.Perm m) : l.sum = m.sum := by
  induction h with
  | nil => rfl
  | cons x _ ih => rw [List.sum_cons, List.sum_cons, ih]
  | swap x y l => simp only [List.sum_cons]; omega
  | trans _ _ a b => exact a.trans b
theorem sum_rows {f : PF} {ψ v : Int → Int} : ∀ {s : List Int}, (∀ e ∈ s, ∀ a ∈ rowN f e, ψ a = v e) → ((seenL f s).map ψ).sum = (s.map fun e => ((rowN f e).length : Int) * v e).sum
  | [], _ => rfl
  | e :: r, h => by
    have ih := sum_rows (s := r) fun e he => h e (List.mem_cons_of_mem _ he)
    show ((rowN f e ++ seenL f r).map ψ).sum = _
    rw [List.map_append, List.sum_append, ih, List.map_cons, List.sum_cons]
    congr 1
    have h1 := h e (List.mem_cons_self ..)
    generalize rowN f e = l at h1
    induction l with
    | nil => simp
    | cons a l ih => 
      rw [List.map_cons, List.sum_cons, ih fun a ha => h1 a (List.mem_cons_of_mem _ ha), h1 a (List.mem_cons_self ..), List.length_cons]
      rw [show (((l.length + 1 : Nat) : Int)) = (l.length : Int) + 1 by omega, Int.add_mul, Int.one_mul]
      omega
def dl (x : Int) (y : Int) : Int := if y = x then 1 else 0
theorem sum_mulc (x : Int) (l : List Nat) (φ : Int → Int) : (l.map fun L : Nat => x * φ (L : Int)).sum = x * (l.map fun L : Nat => φ (L : Int)).sum := by
  induction l with
  | nil => simp
  | cons a r ih => rw [List.map_cons, List.sum_cons, ih, List.map_cons, List.sum_cons, Int.mul_add]
/-! chains -/
theorem iter_inj {n : Int} {f : PF} (w : WF n f) : ∀ {k : Nat} {a b c : Int}, iter f k a = some c → iter f k b = some c → a = b
  | 0, a, b, c, h1, h2 => (Option.some.inj h1).trans (Option.some.inj h2).symm
  | k + 1, a, b, c, h1, h2 => (wf_iter w k).inj _ _ _ h1 h2
theorem non_le {n : Int} {f : PF} (w : WF n f) {c a y : Int} {i j : Nat} (hc : nonT n f c = true) (h1 : iter f i c = some a) (h2 : iter f j y = some a) : j ≤ i := by
  refine Nat.le_of_not_lt fun hlt => ?_
  obtain ⟨d, rfl⟩ : ∃ d, j = (d + 1) + i := ⟨j - i - 1, by omega⟩
  rw [iter_add] at h2
  obtain ⟨b, hb1, hb2⟩ := Option.bind_eq_some_iff.mp h2
  have := iter_inj w hb2 h1
  subst this
  have hb1 : (iter f d y).bind f = some b := hb1
  obtain ⟨z, _, hz⟩ := Option.bind_eq_some_iff.mp hb1
  exact (nonT_iff w).mp hc z hz
theorem row_iter {n : Int} {f : PF} (w : WF n f) {c : Int} (hc : c ∈ nons n f) (i : Nat) : iter f i c = (rowN f c)[i]? := by
  obtain ⟨h1, h2, _⟩ := nons_dom hc
  have := chain_at w hc (row_head w h1 h2) i
  rw [Nat.zero_add] at this
  exact this
end My
set_option maxHeartbeats 1000000
set_option maxHeartbeats 1000000
set_option maxHeartbeats 1000000
set_option maxHeartbeats 1000000
set_option maxHeartbeats 1000000
namespace My
open PM
/-! ### powers have no obstacle -/
def hA (Ls : List Nat) (d x : Int) : Int := (Ls.map fun M : Nat => ((M : Int) % d) * dl x ((M : Int) / d + 1)).sum
def hB (Ls : List Nat) (d x : Int) : Int := (Ls.map fun M : Nat => (if 0 < (M : Int) / d then d - (M : Int) % d else 0) * dl x ((M : Int) / d)).sum
end My
set_option maxHeartbeats 1000000
namespace My
open PM U
/-! ### the root -/
/-- a group of chains that comes from one chain -/
inductive GrpOK (d : Nat) : List (List Int) → Prop
  | one {r : List Int} : r.length = 1 → GrpOK d [r]
  | grp {A B : List (List Int)} {l : Nat} : 2 ≤ l → A ≠ [] → (∀ r ∈ A, r.length = l) → (∀ r ∈ B, r.length + 1 = l) → A.length + B.length = d → GrpOK d (A ++ B)
theorem head_app {A B : List (List Int)} {l : Nat} (h0 : A ≠ []) (hA : ∀ r ∈ A, r.length = l) : ((A ++ B).headD []).length = l := by
  cases A with
  | nil => exact absurd rfl h0
  | cons a t => exact hA a (List.mem_cons_self ..)
theorem GrpOK.le {d : Nat} {G : List (List Int)} (h : GrpOK d G) : G ≠ [] ∧ ∀ r ∈ G, r.length ≤ (G.headD []).length := by
  cases h with
  | one h1 => exact ⟨(fun z => nomatch z), fun r hr => by rw [List.mem_singleton] at hr; subst hr; exact Nat.le_refl _⟩
  | grp h1 h2 h3 h4 h5 =>
    refine ⟨fun z => h2 (List.append_eq_nil_iff.mp z).1, fun r hr => ?_⟩
    rw [head_app h2 h3]
    rcases List.mem_append.mp hr with hr | hr
    · have := h3 r hr; omega
    · have := h4 r hr; omega
theorem nons_uniq {n : Int} {f : PF} (w : WF n f) {c c' a : Int} (hc : c ∈ nons n f) (hc' : c' ∈ nons n f) (h : a ∈ rowN f c) (h' : a ∈ rowN f c') : c = c' := by
  obtain ⟨i, hi⟩ := List.getElem?_of_mem h
  obtain ⟨j, hj⟩ := List.getElem?_of_mem h'
  rw [← row_iter w hc] at hi
  rw [← row_iter w hc'] at hj
  have a1 := non_le w (nons_dom hc).2.2 hi hj
  have a2 := non_le w (nons_dom hc').2.2 hj hi
  have : i = j := by omega
  subst this
  exact iter_inj w hi hj
theorem nd_nons {n : Int} {f : PF} (w : WF n f) : (seenL f (nons n f)).Nodup :=
  nd_seen (nodup_of_lt (nons_lt n f)) (fun e he => (rowN_is w (nons_dom he).1 (nons_dom he).2.1).nd w) fun e he e' he' a h h' => nons_uniq w he he' h h'
theorem iter_fix {f : PF} {x : Nat} {a : Int} (h : iter f x a = some a) : ∀ k, iter f (x * k) a = some a
  | 0 => by rw [Nat.mul_zero]; rfl
  | k + 1 => by
    rw [← iter_mul]
    show (iter (iter f x) k a).bind (iter f x) = _
    rw [iter_mul, iter_fix h k]
    exact h
theorem cyc_non {n : Int} {f : PF} (w : WF n f) {a : Int} (h : a ∈ seenL f (cycS n f)) (h' : a ∈ seenL f (nons n f)) : False := by
  obtain ⟨x, hx, e⟩ := (mem_cyc w).mp h
  obtain ⟨c, hc, hm⟩ := mem_seenL.mp h'
  obtain ⟨i, hi⟩ := List.getElem?_of_mem hm
  rw [← row_iter w hc] at hi
  have h1 := non_le w (nons_dom hc).2.2 hi (iter_fix e (i + 1))
  have h2 : 1 * (i + 1) ≤ x * (i + 1) := Nat.mul_le_mul_right _ hx
  omega
theorem all_nd {n : Int} {f : PF} (w : WF n f) : (seenL f (cycS n f) ++ seenL f (nons n f)).Nodup := by
  rw [List.nodup_append]
  exact ⟨nd_cyc w, nd_nons w, fun a ha b hb e => by subst e; exact cyc_non w ha hb⟩
theorem flat_perm {A B : List (List Int)} (h : A.Perm B) : A.flatten.Perm B.flatten := h.flatten
end My
namespace U
open PySem PySem.Spec PyProof.Rows L2
/-! ### dict(zip(a, b, strict=True)), dict(zip(a, b)): lists or tuples -/
/-- one draw, strict or not -/
def drw (st : Bool) (it : Value) : Sem (Option Value) := do
  if st then Builtin.SmallTypes.nextOrEnd it else return some (← Builtin.SmallTypes.nextOf it)
def SIt (tup : Bool) (g : Heap) (it l : Addr) (k : Nat) : Prop := match tup with | true => g.IsTupleIter it l k | false => g.IsListIter it l k
def SSq (tup : Bool) (g : Heap) (l : Addr) (xs : Array Value) : Prop := match tup with | true => g.IsTuple l xs | false => g.IsList l xs
theorem SIt.mv {tup : Bool} {g g' : Heap} {it l : Addr} {k : Nat} (x : SIt tup g it l k) (e : ∀ o, g.get? it = some o → g'.get? it = some o) : SIt tup g' it l k := by
  cases tup
  · exact Heap.IsListIter.at x e
  · exact Heap.IsTupleIter.at x e
theorem SSq.mv {tup : Bool} {g g' : Heap} {l : Addr} {xs : Array Value} (x : SSq tup g l xs) (e : ∀ o, g.get? l = some o → g'.get? l = some o) : SSq tup g' l xs := by
  cases tup
  · exact Heap.IsList.at x e
  · exact Heap.IsTuple.at x e
theorem SIt.ob {tup : Bool} {g : Heap} {it l : Addr} {k : Nat} (x : SIt tup g it l k) : ∃ o, g.get? it = some o := by
  cases tup
  · obtain ⟨o, e, _⟩ := x
    exact ⟨o, e⟩
  · obtain ⟨o, e, _⟩ := x
    exact ⟨o, e⟩
theorem SSq.ob {tup : Bool} {g : Heap} {l : Addr} {xs : Array Value} (x : SSq tup g l xs) : ∃ o, g.get? l = some o := by
  cases tup
  · obtain ⟨o, e, _⟩ := x
    exact ⟨o, e⟩
  · obtain ⟨o, e, _⟩ := x
    exact ⟨o, e⟩
/-- the zip object: held, that its tuple is out -/
def IsZ (st : Bool) (g : Heap) (z TI TO : Addr) (v : Value) (hd : Bool) : Prop :=
  g.get? z = some { cls := .type "zip", dict := none, data := .fields #[v, .bool hd, .bool st, .ref TI, .ref TO], slots := #[] }
section
variable {prog : Program} {w : World} {A : Around} {E : Value → Shared → Prop} {s : Shared} {st tup : Bool} {it l : Addr} {i : Nat} {items : Array Value}
theorem stop_it {Q : PySem.Fin → Shared → Prop} (hn : A.handled = none) (q : ∀ g e, (∀ c o, s.heap.get? c = some o → g.get? c = some o) → (∃ o, g.get? e = some o ∧ o.cls = .type "StopIteration") → E (.ref e) { s with heap := g }) :
    wpAny (model prog w) A (Builtin.SmallTypes.stopIteration) Q E s := by
  show wpAny _ _ (newExc (.type "StopIteration") [] >>= _) _ _ s
  refine wpAny_bind ?_
  simp only [newExc, newTuple]; refine wpAny_bind (wpAny_newObj_type ?_ (by size_fits))
  refine wpAny_bind (m := firstArgMember _ _) (wpAny_of_eq (a := Value.none) (by first | (simp only [firstArgMember]; rfl) | rfl) ?_)
  refine wpAny_newObj_type ?_ (by size_fits); simp only [raiseNew]
  refine wpAny_bind (wpAny_handled ?_); rw [hn]
  refine wpAny_bind (wpAny_pure (wpAny_throw (q _ _ (fun c o e => Heap.get?_push_of_some _ (Heap.get?_push_of_some _ e)) ⟨_, Heap.get?_push_size _ rfl, rfl⟩)))
theorem sit_item {x : Value} {Q : Value → Shared → Prop} (a : SIt tup s.heap it l i) (b : SSq tup s.heap l items) (c : items[i]? = some x)
    (q : ∀ g, SIt tup g it l (i + 1) → Heap.SameBut it s.heap g → Q x { s with heap := g }) : wpAny (model prog w) A (Builtin.SmallTypes.nextOf (.ref it)) Q E s := by
  cases tup
  · exact wpAny_nextOf_list_item a b c q
  · exact RZ.nextOf_tuple_item a b c q
theorem sit_end {Q : Value → Shared → Prop} (hn : A.handled = none) (a : SIt tup s.heap it l i) (b : SSq tup s.heap l items) (c : items[i]? = none)
    (q : ∀ g e, Heap.ExtBut it s.heap g → (∃ o, g.get? e = some o ∧ o.cls = .type "StopIteration") → E (.ref e) { s with heap := g }) : wpAny (model prog w) A (Builtin.SmallTypes.nextOf (.ref it)) Q E s := by
  cases tup
  · exact wpAny_nextOf_list_end hn a b c q
  · exact RZ.nextOf_tuple_end hn a b c q
theorem drw_item {x : Value} {Q : Option Value → Shared → Prop} (a : SIt tup s.heap it l i) (b : SSq tup s.heap l items) (c : items[i]? = some x)
    (q : ∀ g, SIt tup g it l (i + 1) → Heap.SameBut it s.heap g → Q (some x) { s with heap := g }) : wpAny (model prog w) A (drw st (.ref it)) Q E s := by
  cases st
  · exact wpAny_bind (sit_item a b c fun g g1 g2 => wpAny_pure (q g g1 g2))
  · exact wpAny_bind (wpAny_attempt (sit_item a b c fun g g1 g2 => wpAny_pure (q g g1 g2)))
theorem drw_end {Q : Option Value → Shared → Prop} (hn : A.handled = none) (a : SIt tup s.heap it l i) (b : SSq tup s.heap l items) (c : items[i]? = none)
    (q : ∀ g, Heap.ExtBut it s.heap g → Q none { s with heap := g }) : wpAny (model prog w) A (Builtin.SmallTypes.nextOrEnd (.ref it)) Q E s := by
  refine wpAny_bind (wpAny_attempt (sit_end hn a b c fun g e g1 ⟨o, ho, hc⟩ => ?_))
  show wpAny _ _ (isInstance (.ref e) (.type "StopIteration") >>= _) _ _ _
  refine wpAny_bind (wpAny_isInstance (T := "StopIteration") (b := true) ⟨o, ho, hc⟩ isSubtype_stop ?_)
  exact wpAny_pure (q g g1)
variable {Z J O a1 a2 b1 b2 : Addr} {k1 k2 : Nat} {xs ys : Array Value} {x y u v : Value}
/-- what is reached by one more item -/
def ZGot (st tup : Bool) (h : Heap) (Z J O a1 a2 b1 b2 : Addr) (k1 k2 : Nat) (x y T : Value) (f : Bool) (g : Heap) : Prop :=
  IsZ st g Z J O T f ∧ SIt tup g a1 b1 (k1 + 1) ∧ SIt tup g a2 b2 (k2 + 1) ∧ IsPair g h.objs.size x y ∧ g.objs.size = h.objs.size + 1
theorem zz_item {Q : Value → Shared → Prop} (D : ZipApart Z J O a1 a2 b1 b2) (ez : IsZ st s.heap Z J O .none false) (eJ : IsPair s.heap J (.ref a1) (.ref a2)) (eO : IsPair s.heap O u v)
    (p1 : SIt tup s.heap a1 b1 k1) (p2 : SIt tup s.heap a2 b2 k2) (q1 : SSq tup s.heap b1 xs) (q2 : SSq tup s.heap b2 ys) (ex : xs[k1]? = some x) (ey : ys[k2]? = some y)
    (q : ∀ g, ZGot st tup s.heap Z J O a1 a2 b1 b2 k1 k2 x y (rawInt s.heap.objs.size) false g → (∀ c o, c ≠ Z → c ≠ O → c ≠ a1 → c ≠ a2 → s.heap.get? c = some o → g.get? c = some o) → Q (.ref s.heap.objs.size) { s with heap := g }) :
    wpAny (model prog w) A (Builtin.«zip.__next__» ⟨[.ref Z], []⟩) (fun fin s' => ∃ v, fin = .done (.ret v) ∧ Q v s') E s := by
  show wpAny _ _ (field (.ref Z) 2 >>= _) _ _ _
  refine wpAny_bind (wpAny_field ez rfl (x := .bool st) rfl ?_)
  show wpAny _ _ (field (.ref Z) 3 >>= _) _ _ _
  refine wpAny_bind (wpAny_field ez rfl (x := .ref J) rfl ?_)
  refine wpAny_bind (wpAny_seqItems eJ rfl ?_)
  show wpAny _ _ (Builtin.SmallTypes.ownedTupleIsFree (.ref Z) >>= _) _ _ _
  refine wpAny_bind ?_
  unfold Builtin.SmallTypes.ownedTupleIsFree
  refine wpAny_bind (wpAny_field ez rfl (x := .none) rfl (wpAny_pure ?_))
  simp only [if_true]
  refine wpAny_bind (wpAny_rule ?_)
  refine wpAny_bind (wpAny_field ez rfl (x := .ref O) rfl ?_)
  refine wpAny_bind (wpAny_setField_rec ez (by simp) fun g1 ez1 c1 => ?_)
  replace ez1 : IsZ st g1 Z J O .ellipsis false := ez1
  refine wpAny_bind ?_
  simp only [List.zipIdx_cons, List.zipIdx_nil, List.forIn_cons, List.forIn_nil]
  have hs : (Value.bool st == Value.bool true) = st := by cases st <;> rfl
  rw [hs]
  refine wpAny_bind (wpAny_bind (wpAny_onRaise ?_))
  show wpAny _ _ (drw st (.ref a1)) _ _ _
  refine drw_item (p1.mv fun o e => c1.extBut _ _ D.i1z e) (q1.mv fun o e => c1.extBut _ _ D.l1z e) ex fun g2 p1' c2 => ?_
  have eO2 : IsPair g2 O u v := c2.extBut _ _ D.TOi1 (c1.extBut _ _ D.TOz eO)
  refine wpAny_bind (wpAny_seqItems eO2 rfl ?_)
  refine wpAny_bind (wpAny_updateSeq_pair eO2 fun g3 eO3 c3 => ?_)
  replace eO3 : IsPair g3 O x v := eO3
  refine wpAny_bind (wpAny_letGo (wpAny_pure ?_))
  refine wpAny_bind (wpAny_bind (wpAny_onRaise ?_))
  show wpAny _ _ (drw st (.ref a2)) _ _ _
  refine drw_item (p2.mv fun o e => c3.extBut _ _ D.TOi2.symm (c2.extBut _ _ D.i12.symm (c1.extBut _ _ D.i2z e))) (q2.mv fun o e => c3.extBut _ _ D.l2TO (c2.extBut _ _ D.l2i1 (c1.extBut _ _ D.l2z e))) ey fun g4 p2' c4 => ?_
  have eO4 : IsPair g4 O x v := c4.extBut _ _ D.TOi2 eO3
  refine wpAny_bind (wpAny_seqItems eO4 rfl ?_)
  refine wpAny_bind (wpAny_updateSeq_pair eO4 fun g5 eO5 c5 => ?_)
  replace eO5 : IsPair g5 O x y := eO5
  refine wpAny_bind (wpAny_letGo (wpAny_pure (wpAny_pure ?_)))
  refine wpAny_bind (wpAny_seqItems eO5 rfl ?_)
  refine wpAny_bind (wpAny_newTuple ?_)
  have hsz : g5.objs.size = s.heap.objs.size := by rw [c5.1, c4.1, c3.1, c2.1, c1.1]
  have kp : ∀ c o, c ≠ Z → c ≠ O → c ≠ a1 → c ≠ a2 → s.heap.get? c = some o → g5.get? c = some o := fun c o n1 n2 n3 n4 e =>
    c5.extBut _ _ n2 (c4.extBut _ _ n4 (c3.extBut _ _ n2 (c2.extBut _ _ n3 (c1.extBut _ _ n1 e))))
  have ez5 : IsZ st g5 Z J O .ellipsis false := c5.extBut _ _ D.TOz.symm (c4.extBut _ _ D.i2z.symm (c3.extBut _ _ D.TOz.symm (c2.extBut _ _ D.i1z.symm ez1)))
  have r1 : SIt tup g5 a1 b1 (k1 + 1) := p1'.mv fun o e => c5.extBut _ _ D.TOi1.symm (c4.extBut _ _ D.i12 (c3.extBut _ _ D.TOi1.symm e))
  have r2 : SIt tup g5 a2 b2 (k2 + 1) := p2'.mv fun o e => c5.extBut _ _ D.TOi2.symm e
  have zl : Z < g5.objs.size := Heap.lt_size ez5
  show wpAny _ _ (Builtin.SmallTypes.ownedTupleHandOut (.ref Z) (.ref g5.objs.size) >>= _) _ _ _
  refine wpAny_bind ?_
  unfold Builtin.SmallTypes.ownedTupleHandOut
  have ez6 : IsZ st (g5.push { cls := .type "tuple", data := .seq #[x, y] }) Z J O .ellipsis false := Heap.get?_push_of_some _ ez5
  refine wpAny_bind (wpAny_setField_rec ez6 (by simp) fun g7 ez7 c7 => ?_)
  replace ez7 : IsZ st g7 Z J O (rawInt g5.objs.size) false := ez7
  refine wpAny_setField_rec ez7 (by simp) fun g8 ez8 c8 => ?_
  replace ez8 : IsZ st g8 Z J O (rawInt g5.objs.size) false := ez8
  have up : ∀ c o, c ≠ Z → g5.get? c = some o → g8.get? c = some o := fun c o n1 e => c8.extBut _ _ n1 (c7.extBut _ _ n1 (Heap.get?_push_of_some _ e))
  have t8 : IsPair g8 g5.objs.size x y := c8.extBut _ _ (Nat.ne_of_gt zl) (c7.extBut _ _ (Nat.ne_of_gt zl) (Heap.get?_push_size _ rfl))
  have s8 : g8.objs.size = g5.objs.size + 1 := by rw [c8.1, c7.1, Heap.size_push]
  rw [hsz] at ez8 t8 s8
  refine wpAny_pure ⟨_, rfl, ?_⟩
  show Q (.ref g5.objs.size) _
  rw [hsz]
  exact q g8 ⟨ez8, r1.mv fun o e => up _ o D.i1z e, r2.mv fun o e => up _ o D.i2z e, t8, s8⟩ fun c o n1 n2 n3 n4 e => up c o n1 (kp c o n1 n2 n3 n4 e)
theorem tup_held {T : Addr} {f : Bool} {oT : Obj} {Q : Bool → Shared → Prop} (ez : IsZ st s.heap Z J O (rawInt T) f) (eT : s.heap.get? T = some oT)
    (q : ∀ g, IsZ st g Z J O (rawInt T) true → Heap.SameBut Z s.heap g → Q false { s with heap := g }) : wpAny (model prog w) A (Builtin.SmallTypes.ownedTupleIsFree (.ref Z)) Q E s := by
  unfold Builtin.SmallTypes.ownedTupleIsFree
  refine wpAny_bind (wpAny_field ez rfl (x := rawInt T) rfl ?_)
  show wpAny _ _ (loadIfAlive ((T : Int).toNat) >>= _) _ _ s
  rw [Int.toNat_natCast]
  refine wpAny_bind (PySem.W.kdx_alive eT ?_)
  simp only [Option.isNone_some, Bool.false_eq_true, if_false]
  refine wpAny_bind (wpAny_field ez rfl (x := .bool f) rfl ?_)
  cases f
  · rw [if_pos (show (Value.bool false != Value.bool true) = true from rfl)]
    exact wpAny_bind (wpAny_setField_rec ez (by simp) fun g eg cg => wpAny_pure (q g eg cg))
  · rw [if_neg (show ¬ ((Value.bool true != Value.bool true) = true) from Bool.false_ne_true)]
    exact wpAny_pure (q s.heap ez (Heap.SameBut.refl _ _))
theorem zz_item_held {T : Addr} {f : Bool} {oT : Obj} {Q : Value → Shared → Prop} (D : ZipApart Z J O a1 a2 b1 b2) (ez : IsZ st s.heap Z J O (rawInt T) f) (eT : s.heap.get? T = some oT) (eJ : IsPair s.heap J (.ref a1) (.ref a2))
    (p1 : SIt tup s.heap a1 b1 k1) (p2 : SIt tup s.heap a2 b2 k2) (q1 : SSq tup s.heap b1 xs) (q2 : SSq tup s.heap b2 ys) (ex : xs[k1]? = some x) (ey : ys[k2]? = some y)
    (q : ∀ g, ZGot st tup s.heap Z J O a1 a2 b1 b2 k1 k2 x y (rawInt T) true g → (∀ c o, c ≠ Z → c ≠ a1 → c ≠ a2 → s.heap.get? c = some o → g.get? c = some o) → Q (.ref s.heap.objs.size) { s with heap := g }) :
    wpAny (model prog w) A (Builtin.«zip.__next__» ⟨[.ref Z], []⟩) (fun fin s' => ∃ v, fin = .done (.ret v) ∧ Q v s') E s := by
  show wpAny _ _ (field (.ref Z) 2 >>= _) _ _ _
  refine wpAny_bind (wpAny_field ez rfl (x := .bool st) rfl ?_)
  show wpAny _ _ (field (.ref Z) 3 >>= _) _ _ _
  refine wpAny_bind (wpAny_field ez rfl (x := .ref J) rfl ?_)
  refine wpAny_bind (wpAny_seqItems eJ rfl ?_)
  show wpAny _ _ (Builtin.SmallTypes.ownedTupleIsFree (.ref Z) >>= _) _ _ _
  refine wpAny_bind (tup_held ez eT fun g1 ez1 c1 => ?_)
  simp only [Bool.false_eq_true, if_false]
  refine wpAny_bind ?_
  rw [← Array.forIn_toList]
  simp only [List.forIn_cons, List.forIn_nil]
  have hs : (Value.bool st == Value.bool true) = st := by cases st <;> rfl
  rw [hs]
  refine wpAny_bind (wpAny_bind (wpAny_holding ?_))
  show wpAny _ _ (drw st (.ref a1)) _ _ _
  refine drw_item (s := { s with heap := g1 }) (p1.mv fun o e => c1.extBut _ _ D.i1z e) (q1.mv fun o e => c1.extBut _ _ D.l1z e) ex fun g2 p1' c2 => ?_
  refine wpAny_pure ?_
  refine wpAny_bind (wpAny_bind (wpAny_holding ?_))
  show wpAny _ _ (drw st (.ref a2)) _ _ _
  refine drw_item (s := { s with heap := g2 }) (p2.mv fun o e => c2.extBut _ _ D.i12.symm (c1.extBut _ _ D.i2z e)) (q2.mv fun o e => c2.extBut _ _ D.l2i1 (c1.extBut _ _ D.l2z e)) ey fun g3 p2' c3 => ?_
  refine wpAny_pure (wpAny_pure ?_)
  show wpAny _ _ (newTuple [x, y] >>= _) _ _ { s with heap := g3 }
  refine wpAny_bind (wpAny_newTuple ?_)
  have hsz : g3.objs.size = s.heap.objs.size := by rw [c3.1, c2.1, c1.1]
  have ez3 : IsZ st g3 Z J O (rawInt T) true := c3.extBut _ _ D.i2z.symm (c2.extBut _ _ D.i1z.symm ez1)
  have kp : ∀ c o, c ≠ Z → c ≠ a1 → c ≠ a2 → s.heap.get? c = some o → g3.get? c = some o := fun c o n1 n2 n3 e => c3.extBut _ _ n3 (c2.extBut _ _ n2 (c1.extBut _ _ n1 e))
  have r1 : SIt tup g3 a1 b1 (k1 + 1) := p1'.mv fun o e => c3.extBut _ _ D.i12 e
  refine wpAny_pure ⟨_, rfl, ?_⟩
  show Q (.ref g3.objs.size) _
  have hp : IsPair (g3.push { cls := .type "tuple", data := .seq #[x, y] }) g3.objs.size x y := Heap.get?_push_size _ rfl
  have hz4 : (g3.push { cls := .type "tuple", data := .seq #[x, y] }).objs.size = g3.objs.size + 1 := Heap.size_push ..
  rw [hsz] at hp hz4 ⊢
  exact q _ ⟨Heap.get?_push_of_some _ ez3, r1.mv fun o e => Heap.get?_push_of_some _ e, p2'.mv fun o e => Heap.get?_push_of_some _ e, hp, hz4⟩ fun c o n1 n2 n3 e => Heap.get?_push_of_some _ (kp c o n1 n2 n3 e)
/-- where a zip ends: at once for both where it is strict -/
def ZEnd (st : Bool) (xs ys : Array Value) (k1 k2 : Nat) : Prop := (st = true ∧ xs[k1]? = none ∧ ys[k2]? = none) ∨ (st = false ∧ (xs[k1]? = none ∨ ys[k2]? = none))
theorem zz_end {Q : Fin → Shared → Prop} (hn : A.handled = none) (D : ZipApart Z J O a1 a2 b1 b2) (ez : IsZ st s.heap Z J O .none false) (eJ : IsPair s.heap J (.ref a1) (.ref a2)) (eO : IsPair s.heap O u v)
    (p1 : SIt tup s.heap a1 b1 k1) (p2 : SIt tup s.heap a2 b2 k2) (q1 : SSq tup s.heap b1 xs) (q2 : SSq tup s.heap b2 ys) (he : ZEnd st xs ys k1 k2)
    (q : ∀ g e, (∀ c o, c ≠ Z → c ≠ O → c ≠ a1 → c ≠ a2 → s.heap.get? c = some o → g.get? c = some o) → (∃ o, g.get? e = some o ∧ o.cls = .type "StopIteration") → E (.ref e) { s with heap := g }) :
    wpAny (model prog w) A (Builtin.«zip.__next__» ⟨[.ref Z], []⟩) Q E s := by
  show wpAny _ _ (field (.ref Z) 2 >>= _) _ _ _
  refine wpAny_bind (wpAny_field ez rfl (x := .bool st) rfl ?_)
  show wpAny _ _ (field (.ref Z) 3 >>= _) _ _ _
  refine wpAny_bind (wpAny_field ez rfl (x := .ref J) rfl ?_)
  refine wpAny_bind (wpAny_seqItems eJ rfl ?_)
  show wpAny _ _ (Builtin.SmallTypes.ownedTupleIsFree (.ref Z) >>= _) _ _ _
  refine wpAny_bind ?_
  unfold Builtin.SmallTypes.ownedTupleIsFree
  refine wpAny_bind (wpAny_field ez rfl (x := .none) rfl (wpAny_pure ?_))
  simp only [if_true]
  refine wpAny_bind (wpAny_rule ?_)
  refine wpAny_bind (wpAny_field ez rfl (x := .ref O) rfl ?_)
  refine wpAny_bind (wpAny_setField_rec ez (by simp) fun g1 ez1 c1 => ?_)
  replace ez1 : IsZ st g1 Z J O .ellipsis false := ez1
  refine wpAny_bind ?_
  simp only [List.zipIdx_cons, List.zipIdx_nil, List.forIn_cons, List.forIn_nil]
  have hs : (Value.bool st == Value.bool true) = st := by cases st <;> rfl
  rw [hs]
  refine wpAny_bind (wpAny_bind (wpAny_onRaise ?_))
  rcases he with ⟨rfl, ex, ey⟩ | ⟨rfl, he⟩
  · show wpAny _ _ (Builtin.SmallTypes.nextOrEnd (.ref a1)) _ _ _
    refine drw_end hn (p1.mv fun o e => c1.extBut _ _ D.i1z e) (q1.mv fun o e => c1.extBut _ _ D.l1z e) ex fun g2 c2 => ?_
    have ez2 : IsZ true g2 Z J O .ellipsis false := c2 _ _ D.i1z.symm ez1
    show wpAny _ _ (setField (.ref Z) 0 .none >>= _) _ _ _
    refine wpAny_bind (wpAny_setField_rec ez2 (by simp) fun g3 ez3 c3 => ?_)
    refine wpAny_bind ?_
    show wpAny _ _ (forIn [(Value.ref a2, 1)] PUnit.unit _ >>= _) _ _ _
    simp only [List.forIn_cons, List.forIn_nil]
    refine wpAny_bind (wpAny_bind (wpAny_bind ?_))
    refine drw_end (tup := tup) hn (p2.mv fun o e => c3.extBut _ _ D.i2z (c2 _ _ D.i12.symm (c1.extBut _ _ D.i2z e))) (q2.mv fun o e => c3.extBut _ _ D.l2z (c2 _ _ D.l2i1 (c1.extBut _ _ D.l2z e))) ey fun g4 c4 => ?_
    show wpAny _ _ (pure (ForInStep.yield PUnit.unit)) _ _ _
    refine wpAny_pure (wpAny_pure (wpAny_bind (wpAny_rule (stop_it hn fun g5 e c5 ⟨oe, e1, e2⟩ => ?_))))
    exact q g5 e (fun c o n1 _ n3 n4 r => c5 _ _ (c4 _ _ n4 (c3.extBut _ _ n1 (c2 _ _ n3 (c1.extBut _ _ n1 r))))) ⟨oe, e1, e2⟩
  · show wpAny _ _ (Builtin.SmallTypes.nextOf (.ref a1) >>= _) _ _ _
    cases hx : xs[k1]? with
    | none =>
      refine wpAny_bind (sit_end hn (p1.mv fun o e => c1.extBut _ _ D.i1z e) (q1.mv fun o e => c1.extBut _ _ D.l1z e) hx fun g2 e c2 ⟨oe, e1, e2⟩ => ?_)
      have ez2 : IsZ false g2 Z J O .ellipsis false := c2 _ _ D.i1z.symm ez1
      have nez : e ≠ Z := fun z => by subst z; rw [ez2] at e1; cases e1; simp at e2
      refine wpAny_setField_rec ez2 (by simp) fun g3 _ c3 => q g3 e (fun c o n1 _ n3 _ r => c3.extBut _ _ n1 (c2 _ _ n3 (c1.extBut _ _ n1 r))) ⟨oe, c3.extBut _ _ nez e1, e2⟩
    | some x =>
      have hy : ys[k2]? = none := by rcases he with h | h; rw [hx] at h; cases h; exact h
      refine wpAny_bind (sit_item (p1.mv fun o e => c1.extBut _ _ D.i1z e) (q1.mv fun o e => c1.extBut _ _ D.l1z e) hx fun g2 p1' c2 => wpAny_pure ?_)
      have eO2 : IsPair g2 O u v := c2.extBut _ _ D.TOi1 (c1.extBut _ _ D.TOz eO)
      refine wpAny_bind (wpAny_seqItems eO2 rfl ?_)
      refine wpAny_bind (wpAny_updateSeq_pair eO2 fun g3 eO3 c3 => ?_)
      refine wpAny_bind (wpAny_letGo (wpAny_pure ?_))
      refine wpAny_bind (wpAny_bind (wpAny_onRaise ?_))
      show wpAny _ _ (Builtin.SmallTypes.nextOf (.ref a2) >>= _) _ _ _
      refine wpAny_bind (sit_end hn (p2.mv fun o e => c3.extBut _ _ D.TOi2.symm (c2.extBut _ _ D.i12.symm (c1.extBut _ _ D.i2z e))) (q2.mv fun o e => c3.extBut _ _ D.l2TO (c2.extBut _ _ D.l2i1 (c1.extBut _ _ D.l2z e))) hy fun g4 e c4 ⟨oe, e1, e2⟩ => ?_)
      have ez4 : IsZ false g4 Z J O .ellipsis false := c4 _ _ D.i2z.symm (c3.extBut _ _ D.TOz.symm (c2.extBut _ _ D.i1z.symm ez1))
      have nez : e ≠ Z := fun z => by subst z; rw [ez4] at e1; cases e1; simp at e2
      refine wpAny_setField_rec ez4 (by simp) fun g5 _ c5 => q g5 e (fun c o n1 n2 n3 n4 r => c5.extBut _ _ n1 (c4 _ _ n4 (c3.extBut _ _ n2 (c2.extBut _ _ n3 (c1.extBut _ _ n1 r))))) ⟨oe, c5.extBut _ _ nez e1, e2⟩
theorem zz_end_held {Q : PySem.Fin → Shared → Prop} {T : Addr} {f : Bool} {oT : Obj} (hn : A.handled = none) (D : ZipApart Z J O a1 a2 b1 b2) (ez : IsZ st s.heap Z J O (rawInt T) f) (eT : s.heap.get? T = some oT) (eJ : IsPair s.heap J (.ref a1) (.ref a2))
    (p1 : SIt tup s.heap a1 b1 k1) (p2 : SIt tup s.heap a2 b2 k2) (q1 : SSq tup s.heap b1 xs) (q2 : SSq tup s.heap b2 ys) (he : ZEnd st xs ys k1 k2)
    (q : ∀ g e, (∀ c o, c ≠ Z → c ≠ a1 → c ≠ a2 → s.heap.get? c = some o → g.get? c = some o) → (∃ o, g.get? e = some o ∧ o.cls = .type "StopIteration") → E (.ref e) { s with heap := g }) :
    wpAny (model prog w) A (Builtin.«zip.__next__» ⟨[.ref Z], []⟩) Q E s := by
  show wpAny _ _ (field (.ref Z) 2 >>= _) _ _ _
  refine wpAny_bind (wpAny_field ez rfl (x := .bool st) rfl ?_)
  show wpAny _ _ (field (.ref Z) 3 >>= _) _ _ _
  refine wpAny_bind (wpAny_field ez rfl (x := .ref J) rfl ?_)
  refine wpAny_bind (wpAny_seqItems eJ rfl ?_)
  show wpAny _ _ (Builtin.SmallTypes.ownedTupleIsFree (.ref Z) >>= _) _ _ _
  refine wpAny_bind (tup_held ez eT fun g1 ez1 c1 => ?_)
  simp only [Bool.false_eq_true, if_false]
  refine wpAny_bind ?_
  rw [← Array.forIn_toList]
  simp only [List.forIn_cons, List.forIn_nil]
  have hs : (Value.bool st == Value.bool true) = st := by cases st <;> rfl
  rw [hs]
  refine wpAny_bind (wpAny_bind (wpAny_holding ?_))
  rcases he with ⟨rfl, ex, ey⟩ | ⟨rfl, he⟩
  · show wpAny _ _ (Builtin.SmallTypes.nextOrEnd (.ref a1)) _ _ _
    refine drw_end (s := { s with heap := g1 }) hn (p1.mv fun o e => c1.extBut _ _ D.i1z e) (q1.mv fun o e => c1.extBut _ _ D.l1z e) ex fun g2 c2 => ?_
    refine wpAny_bind ?_
    show wpAny _ _ (forIn [(Value.ref a2, 1)] PUnit.unit _ >>= _) _ _ _
    simp only [List.forIn_cons, List.forIn_nil]
    refine wpAny_bind (wpAny_bind (wpAny_bind ?_))
    refine drw_end (tup := tup) (s := { s with heap := g2 }) hn (p2.mv fun o e => c2 _ _ D.i12.symm (c1.extBut _ _ D.i2z e)) (q2.mv fun o e => c2 _ _ D.l2i1 (c1.extBut _ _ D.l2z e)) ey fun g4 c4 => ?_
    show wpAny _ _ (pure (ForInStep.yield PUnit.unit)) _ _ _
    refine wpAny_pure (wpAny_pure (wpAny_bind (wpAny_rule (stop_it (s := { s with heap := g4 }) hn fun g5 e c5 ⟨oe, e1, e2⟩ => ?_))))
    exact q g5 e (fun c o n1 n3 n4 r => c5 _ _ (c4 _ _ n4 (c2 _ _ n3 (c1.extBut _ _ n1 r)))) ⟨oe, e1, e2⟩
  · show wpAny _ _ (Builtin.SmallTypes.nextOf (.ref a1) >>= _) _ _ _
    cases hx : xs[k1]? with
    | none =>
      refine wpAny_bind (sit_end (s := { s with heap := g1 }) hn (p1.mv fun o e => c1.extBut _ _ D.i1z e) (q1.mv fun o e => c1.extBut _ _ D.l1z e) hx fun g2 e c2 he' => ?_)
      exact q g2 e (fun c o n1 n3 _ r => c2 _ _ n3 (c1.extBut _ _ n1 r)) he'
    | some x =>
      have hy : ys[k2]? = none := by rcases he with h | h; rw [hx] at h; cases h; exact h
      refine wpAny_bind (sit_item (s := { s with heap := g1 }) (p1.mv fun o e => c1.extBut _ _ D.i1z e) (q1.mv fun o e => c1.extBut _ _ D.l1z e) hx fun g2 p1' c2 => wpAny_pure ?_)
      refine wpAny_pure ?_
      refine wpAny_bind (wpAny_bind (wpAny_holding ?_))
      show wpAny _ _ (Builtin.SmallTypes.nextOf (.ref a2) >>= _) _ _ _
      refine wpAny_bind (sit_end (s := { s with heap := g2 }) hn (p2.mv fun o e => c2.extBut _ _ D.i12.symm (c1.extBut _ _ D.i2z e)) (q2.mv fun o e => c2.extBut _ _ D.l2i1 (c1.extBut _ _ D.l2z e)) hy fun g3 e c3 he' => ?_)
      exact q g3 e (fun c o n1 n2 n3 r => c3 _ _ n3 (c2.extBut _ _ n2 (c1.extBut _ _ n1 r))) he'
/-! ### next -/
theorem nx_item {Q : Option Value → Shared → Prop} (ty : s.TypeIs (.ref Z) "zip") (h : ∀ F, wpAny (model prog w) A.in1 (Builtin.«zip.__next__» ⟨[.ref Z], []⟩) (fun fin s' => ∃ v, fin = .done (.ret v) ∧ Q (some v) s') F s) : wpAny (model prog w) A (pyNext (.ref Z)) Q E s := by
  unfold pyNext
  exact wpAny_bind (wpAny_attempt (wpAny_callSpecial?_slot (name := Str.ofString "__next__") ty F.slot_zip_next (wpAny_call_entry F.slot_zip_next ty F.entry_zip_next (wpAny_mono (h _) (fun fin s' ⟨v, e, q⟩ => ⟨v, e, wpAny_pure q⟩) fun _ _ z => z) (F.args_zip_next_1 _))))
theorem nx_end {Q : Option Value → Shared → Prop} (G : Heap → Prop) (ty : s.TypeIs (.ref Z) "zip") (h : ∀ (F : Value → Shared → Prop) (Q' : PySem.Fin → Shared → Prop), (∀ g e, G g → (∃ o, g.get? e = some o ∧ o.cls = .type "StopIteration") → F (.ref e) { s with heap := g }) → wpAny (model prog w) A.in1 (Builtin.«zip.__next__» ⟨[.ref Z], []⟩) Q' F s)
    (q : ∀ g, G g → Q none { s with heap := g }) : wpAny (model prog w) A (pyNext (.ref Z)) Q E s := by
  unfold pyNext
  refine wpAny_bind (wpAny_attempt (wpAny_callSpecial?_slot (name := Str.ofString "__next__") ty F.slot_zip_next (wpAny_call_entry F.slot_zip_next ty F.entry_zip_next (h _ _ fun g e hg ⟨o, h1, h2⟩ => ?_) (F.args_zip_next_1 _))))
  refine wpAny_bind (wpAny_isInstance (T := "StopIteration") (b := true) ⟨o, h1, h2⟩ isSubtype_stop (wpAny_pure (q g hg)))
end
/-! ### the zip as what a dict is made of -/
section
variable {prog : Program} {w : World}
/-- a zip as it was made -/
def ZNew (st tup : Bool) (Z J O a1 a2 b1 b2 : Addr) (xs ys : Array Value) (h : Heap) : Prop :=
  IsZ st h Z J O .none false ∧ IsPair h J (.ref a1) (.ref a2) ∧ (∃ u v, IsPair h O u v) ∧ SIt tup h a1 b1 0 ∧ SIt tup h a2 b2 0 ∧ SSq tup h b1 xs ∧ SSq tup h b2 ys
def ZAt (st tup : Bool) (Z J O a1 a2 b1 b2 d : Addr) (xs ys : Array Value) (i : Nat) (h : Heap) : Prop :=
  IsPair h J (.ref a1) (.ref a2) ∧ SIt tup h a1 b1 i ∧ SIt tup h a2 b2 i ∧ SSq tup h b1 xs ∧ SSq tup h b2 ys ∧
    ((IsZ st h Z J O .none false ∧ ∃ u v, IsPair h O u v) ∨ ∃ (T : Addr) (f : Bool) (oT : Obj), IsZ st h Z J O (rawInt T) f ∧ h.get? T = some oT ∧ T ≠ Z ∧ T ≠ a1 ∧ T ≠ a2 ∧ T ≠ d)
theorem zarg (st tup : Bool) (Z J O a1 a2 b1 b2 : Addr) (D : ZipApart Z J O a1 a2 b1 b2) (xs ys : Array Value) (hst : st = true → xs.size = ys.size) :
    PairArg prog w "zip" Z [Z, J, O, a1, a2, b1, b2] [Z, O, a1, a2] (min xs.size ys.size) (fun i k v => xs[i]? = some k ∧ ys[i]? = some v) (ZNew st tup Z J O a1 a2 b1 b2 xs ys) where
  type := fun s ok => ⟨_, ok.1, rfl⟩
  notDict := by decide
  keep := fun h h' ⟨e1, e2, ⟨u, v, e3⟩, e4, e5, e6, e7⟩ k => ⟨k _ _ e1, k _ _ e2, ⟨u, v, k _ _ e3⟩, e4.mv fun o e => k _ o e, e5.mv fun o e => k _ o e, e6.mv fun o e => k _ o e, e7.mv fun o e => k _ o e⟩
  there := fun h ⟨e1, e2, ⟨u, v, e3⟩, e4, e5, e6, e7⟩ b hb => by
    simp only [List.mem_cons, List.not_mem_nil, or_false] at hb
    rcases hb with rfl | rfl | rfl | rfl | rfl | rfl | rfl
    · exact ⟨_, e1⟩
    · exact ⟨_, e2⟩
    · exact ⟨_, e3⟩
    · exact e4.ob
    · exact e5.ob
    · exact e6.ob
    · exact e7.ob
  sub := fun b hb => by
    simp only [List.mem_cons, List.not_mem_nil, or_false] at hb ⊢
    rcases hb with rfl | rfl | rfl | rfl <;> simp
  noKeys := fun A s Q E hn ok q => getAttrOr_miss_zip ok.1 rfl rfl rfl zip_no_keys (by decide +kernel) hn q
  iter := fun A s d Q E hn ⟨e1, e2, ⟨u, v, e3⟩, e4, e5, e6, e7⟩ hd hdf q => by
    simp only [List.mem_cons, List.not_mem_nil, or_false, not_or] at hdf
    obtain ⟨dZ, dJ, dO, d1, d2, dl1, dl2⟩ := hdf
    have tyz : s.TypeIs (.ref Z) "zip" := ⟨_, e1, rfl⟩
    refine wpAny_pyIter_slot tyz F.slot_zip_iter (wpAny_call_entry F.slot_zip_iter tyz F.entry_zip_iter ?_ (F.args_zip_iter_1 _))
    show wpAny _ _ (ret (.ref Z)) _ _ s
    refine wpAny_pure ⟨_, rfl, "zip", _, tyz, F.slot_zip_next.lookup, ?_⟩
    refine q Z [Z, O, a1, a2] (ZAt st tup Z J O a1 a2 b1 b2 d xs ys) s.heap s.toks ?_ ⟨e2, e4, e5, e6, e7, .inl ⟨e1, u, v, e3⟩⟩ (fun _ _ e => e) fun b hb => .inl hb
    exact {
      off := fun hm => by
        simp only [List.mem_cons, List.not_mem_nil, or_false] at hm
        rcases hm with e | e | e | e
        · exact dZ e
        · exact dO e
        · exact d1 e
        · exact d2 e
      frame := fun i h h' ⟨f1, f2, f3, f4, f5, f6⟩ k => by
        refine ⟨k _ _ (Ne.symm dJ) f1, f2.mv fun o e => k _ o (Ne.symm d1) e, f3.mv fun o e => k _ o (Ne.symm d2) e, f4.mv fun o e => k _ o (Ne.symm dl1) e, f5.mv fun o e => k _ o (Ne.symm dl2) e, ?_⟩
        rcases f6 with ⟨g1, u, v, g2⟩ | ⟨T, f, oT, g1, g2, r1, r2, r3, r4⟩
        · exact .inl ⟨k _ _ (Ne.symm dZ) g1, u, v, k _ _ (Ne.symm dO) g2⟩
        · exact .inr ⟨T, f, oT, k _ _ (Ne.symm dZ) g1, k _ _ r4 g2, r1, r2, r3, r4⟩
      item := fun i s₁ Q₁ E₁ hi ⟨f1, f2, f3, f4, f5, f6⟩ hds hQ => by
        have ex := Array.getElem?_eq_getElem (Nat.lt_of_lt_of_le hi (Nat.min_le_left ..))
        have ey := Array.getElem?_eq_getElem (Nat.lt_of_lt_of_le hi (Nat.min_le_right ..))
        have n1 : s₁.heap.objs.size ≠ a1 := let ⟨_, e⟩ := f2.ob; Nat.ne_of_gt (Heap.lt_size e)
        have n2 : s₁.heap.objs.size ≠ a2 := let ⟨_, e⟩ := f3.ob; Nat.ne_of_gt (Heap.lt_size e)
        rcases f6 with ⟨g1, u, v, g2⟩ | ⟨T, f, oT, g1, g2, r1, r2, r3, r4⟩
        · refine nx_item ⟨_, g1, rfl⟩ fun F => zz_item D g1 f1 g2 f2 f3 f4 f5 ex ey fun g ⟨c1, c2, c3, c4, c5⟩ k => ?_
          exact hQ s₁.heap.objs.size _ _ g s₁.toks ⟨ex, ey⟩ (.inl ⟨_, c4, rfl, _, rfl⟩)
            ⟨k _ _ D.TIz D.TITO D.TIi1 D.TIi2 f1, c2, c3, f4.mv fun o e => k _ o D.l1z D.l1TO D.l1i1 D.l1i2 e, f5.mv fun o e => k _ o D.l2z D.l2TO D.l2i1 D.l2i2 e,
              .inr ⟨s₁.heap.objs.size, false, _, c1, c4, Nat.ne_of_gt (Heap.lt_size g1), n1, n2, Nat.ne_of_gt hds⟩⟩
            fun c o hc e => k c o (fun z => hc (by simp [z])) (fun z => hc (by simp [z])) (fun z => hc (by simp [z])) (fun z => hc (by simp [z])) e
        · refine nx_item ⟨_, g1, rfl⟩ fun F => zz_item_held D g1 g2 f1 f2 f3 f4 f5 ex ey fun g ⟨c1, c2, c3, c4, c5⟩ k => ?_
          exact hQ s₁.heap.objs.size _ _ g s₁.toks ⟨ex, ey⟩ (.inl ⟨_, c4, rfl, _, rfl⟩)
            ⟨k _ _ D.TIz D.TIi1 D.TIi2 f1, c2, c3, f4.mv fun o e => k _ o D.l1z D.l1i1 D.l1i2 e, f5.mv fun o e => k _ o D.l2z D.l2i1 D.l2i2 e, .inr ⟨T, true, oT, c1, k _ _ r1 r2 r3 g2, r1, r2, r3, r4⟩⟩
            fun c o hc e => k c o (fun z => hc (by simp [z])) (fun z => hc (by simp [z])) (fun z => hc (by simp [z])) e
      done := fun s₁ Q₁ E₁ ⟨f1, f2, f3, f4, f5, f6⟩ hQ => by
        have he : ZEnd st xs ys (min xs.size ys.size) (min xs.size ys.size) := by
          cases st
          · refine .inr ⟨rfl, ?_⟩
            rcases Nat.le_total xs.size ys.size with h | h
            · exact .inl (Array.getElem?_eq_none (by rw [Nat.min_eq_left h]; exact Nat.le_refl _))
            · exact .inr (Array.getElem?_eq_none (by rw [Nat.min_eq_right h]; exact Nat.le_refl _))
          · have e := hst rfl
            exact .inl ⟨rfl, Array.getElem?_eq_none (by omega), Array.getElem?_eq_none (by omega)⟩
        rcases f6 with ⟨g1, u, v, g2⟩ | ⟨T, f, oT, g1, g2, r1, r2, r3, r4⟩
        · exact nx_end (fun g => ∀ c o, c ≠ Z → c ≠ O → c ≠ a1 → c ≠ a2 → s₁.heap.get? c = some o → g.get? c = some o) ⟨_, g1, rfl⟩ (fun F Q' q => zz_end hn D g1 f1 g2 f2 f3 f4 f5 he q)
            fun g k => hQ g s₁.toks fun c o hc e => k c o (fun z => hc (by simp [z])) (fun z => hc (by simp [z])) (fun z => hc (by simp [z])) (fun z => hc (by simp [z])) e
        · exact nx_end (fun g => ∀ c o, c ≠ Z → c ≠ a1 → c ≠ a2 → s₁.heap.get? c = some o → g.get? c = some o) ⟨_, g1, rfl⟩ (fun F Q' q => zz_end_held hn D g1 g2 f1 f2 f3 f4 f5 he q)
            fun g k => hQ g s₁.toks fun c o hc e => k c o (fun z => hc (by simp [z])) (fun z => hc (by simp [z])) (fun z => hc (by simp [z])) e }
end
/-! ### zip(a, b, strict=True) -/
def zo (tup : Bool) (l : Addr) : Obj := match tup with | true => { cls := .type "tuple_iterator", data := .fields #[.ref l, .int 0 0] } | false => { cls := .type "list_iterator", data := .fields #[.ref l, .int 0 0] }
abbrev zh1 (tup : Bool) (h : Heap) (b1 : Addr) : Heap := h.push (zo tup b1)
abbrev zh2 (tup : Bool) (h : Heap) (b1 b2 : Addr) : Heap := (zh1 tup h b1).push (zo tup b2)
abbrev zh3 (tup : Bool) (h : Heap) (b1 b2 : Addr) : Heap := (zh2 tup h b1 b2).push { cls := .type "tuple", data := .seq #[.ref h.objs.size, .ref (zh1 tup h b1).objs.size] }
abbrev zh4 (tup : Bool) (h : Heap) (b1 b2 : Addr) : Heap := (zh3 tup h b1 b2).push { cls := .type "tuple", data := .seq #[.none, .none] }
abbrev zh5 (tup : Bool) (h : Heap) (b1 b2 : Addr) : Heap := (zh4 tup h b1 b2).push { cls := .type "zip", data := .fields #[.none, .bool false, .bool true, .ref (zh2 tup h b1 b2).objs.size, .ref (zh3 tup h b1 b2).objs.size] }
theorem meets_zipS (tup : Bool) (b1 b2 : Addr) (xs ys : Array Value) :
    Meets (Builtin.«zip.__new__» ⟨[.type "zip", .ref b1, .ref b2], [("strict", .bool true)]⟩) (fun _ R s => SSq tup s.heap b1 xs ∧ SSq tup s.heap b2 ys ∧
      R (.ok (.ret (.ref (zh4 tup s.heap b1 b2).objs.size))) { s with heap := zh5 tup s.heap b1 b2 }) :=
  .of_wp fun prog w A R s h => by
    obtain ⟨hp, g, d, tk, os⟩ := s
    obtain ⟨h1, h2, h⟩ := h
    have hsub := sub_zip
    cases tup
    · have k1 : Heap.IsList (Shared.heap ⟨hp, g, d, tk, os⟩) b1 xs := h1
      have k2 : Heap.IsList (Shared.heap ⟨hp.push { cls := .type "list_iterator", data := .fields #[.ref b1, .int 0 0] }, g, d, tk, os⟩) b2 ys := Heap.IsList.push h2 _
      wp_walk using wpAny_pyIter_list k1, wpAny_pyIter_list k2
      exact ⟨_, rfl, h⟩
    · have k1 : Heap.IsTuple (Shared.heap ⟨hp, g, d, tk, os⟩) b1 xs := h1
      have k2 : Heap.IsTuple (Shared.heap ⟨hp.push { cls := .type "tuple_iterator", data := .fields #[.ref b1, .int 0 0] }, g, d, tk, os⟩) b2 ys := Heap.IsTuple.push h2 _
      wp_walk using wpAny_pyIter_tuple k1, wpAny_pyIter_tuple k2
      exact ⟨_, rfl, h⟩
theorem typeCall_zipS (a b c : Value) : checkTypeCall "zip" ⟨[a, b], [("strict", c)]⟩ = pure () := by kernel_rfl
theorem newCall_zipS (a b c : Value) : checkBuiltinCall "zip.__new__" ⟨[.type "zip", a, b], [("strict", c)]⟩ = pure () := by kernel_rfl
theorem args_initS (a b c d : Value) : argsOk "object.__init__" ⟨[a, b, c], [("strict", d)]⟩ := by
  unfold argsOk; rw [signature?_of (id := "object.__init__") (n := ['_', '_', 't', 'i', 'n', 'i', '_', '_']) (o := ['t', 'c', 'e', 'j', 'b', 'o']) (by kernel_rfl) F.owner_object] <;> kernel_rfl
theorem initS_meets {T nid : String} {self a : Value} {rest : List Value} {kw : List (Str × Value)} (hl : typeLookup (.type T) "__init__" = pure (some (.builtin "object.__init__")))
    (hm : Bind.madeBy (.type T) = pure (some nid)) (hne : (some nid != some "object.__new__") = true) :
    Meets (Builtin.«object.__init__» ⟨self :: a :: rest, kw⟩) (fun _ R s => s.TypeIs self T ∧ R (.ok (.ret .none)) s) := by
  refine Meets.of_wp fun prog w A R s ⟨tys, hq⟩ => ?_
  repeat (any_goals (first | assumption | wp_step))
  exact ⟨_, rfl, hq⟩
section
variable {prog : Program} {w : World} {A : Around} {E : Value → Shared → Prop} {s : Shared}
theorem callTypeK {T nid iid : String} {Bn Bi : Builtin} {xs : List Value} {kw : List (Str × Value)} {S : PySem.Spec} {Q Q₁ : Value → Shared → Prop} (ft : TypeCalled T nid iid)
    (hct : checkTypeCall T ⟨xs, kw⟩ = pure ()) (hcn : checkBuiltinCall nid ⟨.type T :: xs, kw⟩ = pure ()) (en : entryFor table nid = some Bn) (ei : entryFor table iid = some Bi)
    (g : Meets (Bn ⟨.type T :: xs, kw⟩) S) (h : S A.in1 (wants Q₁ E) s)
    (hnext : ∀ obj s₁, Q₁ obj s₁ → s₁.TypeIs obj T ∧ argsOk iid ⟨obj :: xs, kw⟩ ∧ ∃ Si, Meets (Bi ⟨obj :: xs, kw⟩) Si ∧ Si A.in1 (wants (fun r s₂ => r = .none ∧ Q obj s₂) E) s₁) :
    wpAny (model prog w) A (call (.type T) xs kw) Q E s := by
  obtain ⟨mc, mtl, hmro⟩ := ft.mro
  have hmade := ft.made
  have hsub := ft.sub
  refine wpAny_call (codeAny_of_tree ?_)
  show wpAny _ _ (callAny (.type T) _) _ _ s
  refine wpAny_pure ⟨Code.quiet_builtin _ (by decide +kernel), codeAny_builtin F.entry_type_call ?_⟩
  rw [Around.under_plain (weight_type_call_type T xs kw) (units_type_call_type T xs kw)]
  have hn1 := ft.notType
  have hn2 := ft.canCreate
  repeat (any_goals (first | assumption | wp_step))
  refine codeAny_mono (codeAny_call_builtin ft.plain en (wpAny_of_eq hcn (g prog w A.in1 _ s h))) fun r s₁ hr => ?_
  cases r with
  | error e => exact hr
  | ok fl =>
    cases fl with
    | ret obj =>
      obtain ⟨hT, hok, Si, gi, hsi⟩ := hnext _ _ hr
      have hli := ft.init.lookup
      have hbi := ft.init.bind obj
      repeat (any_goals (first | assumption | wp_step))
      refine codeAny_mono (codeAny_call_builtin ft.init.plain ei (ft.init.check _ _ _ _ _ _ _ _ hT hok (gi prog w A.in1 _ s₁ hsi))) fun r₂ s₂ hr₂ => ?_
      cases r₂ with
      | error e => exact hr₂
      | ok fl₂ =>
        cases fl₂ with
        | ret r =>
          obtain ⟨rfl, hq⟩ := hr₂
          repeat (any_goals (first | assumption | wp_step))
        | _ => exact hr₂.elim
    | _ => exact hr.elim
theorem zarg_call (tup : Bool) {b1 b2 : Addr} {xs ys : Array Value} {Q : Value → Shared → Prop} (h1 : SSq tup s.heap b1 xs) (h2 : SSq tup s.heap b2 ys)
    (q : ∀ g, ZNew true tup (s.heap.objs.size + 4) (s.heap.objs.size + 2) (s.heap.objs.size + 3) s.heap.objs.size (s.heap.objs.size + 1) b1 b2 xs ys g → (∀ c o, s.heap.get? c = some o → g.get? c = some o) → Q (.ref (s.heap.objs.size + 4)) { s with heap := g }) :
    wpAny (model prog w) A (call (.type "zip") [.ref b1, .ref b2] [("strict", .bool true)]) Q E s := by
  refine callTypeK (Q₁ := fun obj s₁ => s₁.TypeIs obj "zip" ∧ Q obj s₁) F.called_zip (typeCall_zipS _ _ _) (newCall_zipS _ _ _) F.entry_zip_new F.entry_object_init (meets_zipS tup b1 b2 xs ys) ⟨h1, h2, ?_⟩ fun obj s₁ ⟨ty, hq⟩ =>
    ⟨ty, args_initS _ _ _ _, _, initS_meets F.called_zip.init.lookup F.called_zip.made (by decide), ty, rfl, hq⟩
  have z1 : (zh1 tup s.heap b1).objs.size = s.heap.objs.size + 1 := Heap.size_push ..
  have z2 : (zh2 tup s.heap b1 b2).objs.size = s.heap.objs.size + 2 := by rw [Heap.size_push, z1]
  have z3 : (zh3 tup s.heap b1 b2).objs.size = s.heap.objs.size + 3 := by rw [Heap.size_push, z2]
  have z4 : (zh4 tup s.heap b1 b2).objs.size = s.heap.objs.size + 4 := by rw [Heap.size_push, z3]
  have up : ∀ {h : Heap} {o : Obj} {c : Addr} {v : Obj}, h.get? c = some v → (h.push o).get? c = some v := fun e => Heap.get?_push_of_some _ e
  have f5 : (zh5 tup s.heap b1 b2).get? (zh4 tup s.heap b1 b2).objs.size = some _ := Heap.get?_push_size _ rfl
  have f4 : (zh5 tup s.heap b1 b2).get? (zh3 tup s.heap b1 b2).objs.size = some _ := up (Heap.get?_push_size _ rfl)
  have f3 : (zh5 tup s.heap b1 b2).get? (zh2 tup s.heap b1 b2).objs.size = some _ := up (up (Heap.get?_push_size _ rfl))
  have zf : (zo tup b1).isFreed = false ∧ (zo tup b2).isFreed = false := by cases tup <;> exact ⟨rfl, rfl⟩
  have f2 : (zh5 tup s.heap b1 b2).get? (zh1 tup s.heap b1).objs.size = some (zo tup b2) := up (up (up (Heap.get?_push_size _ zf.2)))
  have f1 : (zh5 tup s.heap b1 b2).get? s.heap.objs.size = some (zo tup b1) := up (up (up (up (Heap.get?_push_size _ zf.1))))
  have k : ∀ c o, s.heap.get? c = some o → (zh5 tup s.heap b1 b2).get? c = some o := fun c o e => up (up (up (up (up e))))
  show _ ∧ _
  rw [z2, z3, z4] at f5
  rw [z1, z2] at f3
  rw [z3] at f4
  rw [z1] at f2
  rw [z4]
  have si : ∀ {a b : Addr}, (zh5 tup s.heap b1 b2).get? a = some (zo tup b) → SIt tup (zh5 tup s.heap b1 b2) a b 0 := fun e => by
    cases tup
    · exact ⟨_, e, rfl, rfl⟩
    · exact ⟨_, e, rfl, rfl⟩
  exact ⟨⟨_, f5, rfl⟩, q _ ⟨f5, f3, ⟨_, _, f4⟩, si f1, si f2, h1.mv fun o e => k _ o e, h2.mv fun o e => k _ o e⟩ k⟩
end
end U
namespace U
open PySem PySem.Spec PyProof.Rows L2
/-! ### dict(zip(a, b, strict=True)) as an expression -/
section
variable {M : Model} {A : Around} {E : Value → Shared → Prop} {s : Shared}
theorem callWith_typeK {pos : Pos} {T : String} {first : List Value} {args : List (Bool × Sem Value)} {kws : List (Option Str × Sem Value)} {Q : Value → Shared → Prop} (h1 : args.any (·.1) = false) (h2 : kws.any (·.1.isNone) = false)
    (h : wpAny M A (evalArgs (.type T) true args kws) (fun a s₁ => wpAny M A (call (.type T) (first ++ a.pos) a.kw) Q E s₁) E s) : wpAny M A (callWith pos (.type T) first args kws) Q E s := by
  unfold callWith
  refine wpAny_bind (wpAny_holding (wpAny_mono h (fun a s₁ q => wpAny_bind (wpAny_standAt ?_)) fun _ _ z => z))
  simp only [h1, h2, Bool.or_false]
  refine wpAny_bind (wpAny_pure ?_)
  exact wpAny_bind (wpAny_mono q (fun r s₂ hr => wpAny_bind (wpAny_holding (wpAny_point (wpAny_pure hr)))) fun _ _ z => z)
end
theorem kv_zip : ∀ {ks : List Key} {ys : List V} {us : List Value}, Vals ys us → KV (ks.zip ys) (ks.zip us)
  | [], _, _, _ => .nil
  | _ :: _, _, _, .nil => .nil
  | k :: ks, _, _, .cons h t => .cons ⟨rfl, h⟩ (kv_zip t)
theorem dict_zip {X : Cx} {pins : List (Addr × Obj)} {σ : L2.St} {H1 : Hp} {s1 : Shared} {Q : VK} {a b : Addr} {ks : List Key} {ys : List V} (hcalm : X.calm = true) (I1 : Inv X pins σ H1 s1) (st tup : Bool) (kx ky : List Value) (rk : Vals (ks.map kV) kx) (ry : Vals ys ky) (h1 : SSq tup s1.heap a kx.toArray) (h2 : SSq tup s1.heap b ky.toArray) (hz : kx.length ≤ sizeLine) (hst : st = true → ks.length = ys.length)
    (q : ∀ p, H1 p = none → Q (.ref p) (upd H1 p (.dK (mergeK [] (ks.zip ys))))) (g : Heap) (ok : ZNew st tup (s1.heap.objs.size + 4) (s1.heap.objs.size + 2) (s1.heap.objs.size + 3) s1.heap.objs.size (s1.heap.objs.size + 1) a b kx.toArray ky.toArray g) (k : ∀ c o, s1.heap.get? c = some o → g.get? c = some o) :
    wpAny (model X.prog X.w) X.A (call (.type "dict") [.ref (s1.heap.objs.size + 4)]) (EP X pins σ Q) X.xe { s1 with heap := g } := by
  have lk : ks.length = kx.length := by rw [← rk.length, List.length_map]
  have ly : ys.length = ky.length := ry.length
  obtain ⟨o1, e1⟩ := h1.ob
  obtain ⟨o2, e2⟩ := h2.ob
  have hsz : st = true → kx.toArray.size = ky.toArray.size := fun e => by have := hst e; rw [List.size_toArray, List.size_toArray]; omega
  refine PySem.call_dict_pairs (s := { s1 with heap := g }) (knd := mixKind X.prog X.w) (kvs := ks.zip ky) (zarg st tup _ _ _ _ _ a b (PySem.W.ktu_apart s1.heap.objs.size a b (Heap.lt_size e1) (Heap.lt_size e2)) kx.toArray ky.toArray hsz) (I1.ok.hd hcalm) ok ⟨?_, fun i key v ⟨g1, g2⟩ => ?_⟩ ?_ fun h' tk hd' k' => ?_
  · rw [List.length_zip, List.size_toArray, List.size_toArray, lk]
  · have g1' : kx[i]? = some key := by simpa using g1
    have g2' : ky[i]? = some v := by simpa using g2
    have hi := (List.getElem?_eq_some_iff.mp g1').1
    obtain ⟨kk, ek⟩ : ∃ kk, ks[i]? = some kk := ⟨_, List.getElem?_eq_getElem (by omega)⟩
    obtain ⟨u, eu, ru⟩ := rk.get (show (ks.map kV)[i]? = some (kV kk) by rw [List.getElem?_map, ek]; rfl)
    rw [g1'] at eu
    cases eu
    exact ⟨kk, by rw [List.getElem?_zip_eq_some]; exact ⟨ek, g2'⟩, kV_is (P := X.prog) (w := X.w) ru⟩
  · rw [List.size_toArray]; exact Nat.le_trans (Nat.min_le_left ..) hz
  · have kk : ∀ c o, s1.heap.get? c = some o → h'.get? c = some o := fun c o e => k' c o (fun hm => by
      have hlt := Heap.lt_size e
      simp only [List.mem_cons, List.not_mem_nil, or_false] at hm
      rcases hm with z | z | z | z <;> (rw [z] at hlt; exact absurd hlt (Nat.not_lt.mpr (by first | exact Nat.le_refl _ | exact Nat.le_add_right _ _)))) (k c o e)
    have big : s1.heap.objs.size ≤ g.objs.size := Nat.le_of_lt (Nat.lt_of_le_of_lt (Nat.le_add_right _ 4) (Heap.lt_size ok.1))
    have hm : (g.objs.size == sysModules) = false := beq_eq_false_iff_ne.mpr (Nat.ne_of_gt (Nat.lt_of_lt_of_le I1.big big))
    have rel : KV (ks.zip ys) (ks.zip ky) := kv_zip ry
    have hlen : (mergeK [] (ks.zip ys)).length ≤ sizeLine := by
      refine Nat.le_trans (length_mergeK (ks.zip ys) []) ?_
      rw [List.length_nil, Nat.zero_add, List.length_zip, lk]
      exact Nat.le_trans (Nat.min_le_left ..) hz
    exact ⟨.ref g.objs.size, upd H1 g.objs.size (.dK (mergeK [] (ks.zip ys))), I1.laid (t' := tk) kk big (show ObjOk X.prog X.w _ _ _ (.dK (mergeK [] (ks.zip ys))) from ⟨hlen, hm, merged [] (ks.zip ky), KV.merge rel .nil, hd'⟩), rfl, q _ (I1.hok.fresh big)⟩
def rDictZip (K : PySem.W.Frag) : List V → Hp → VK → Prop := fun vs H Q => ∃ (a b : Addr) (ks : List Key) (ys : List V), vs = [.ref a, .ref b] ∧ ((SqL K H a (ks.map kV) ∧ SqL K H b ys) ∨ (SqT K H a (ks.map kV) ∧ SqT K H b ys)) ∧ ks.length = ys.length ∧ ∀ p, H p = none → Q (.ref p) (upd H p (.dK (mergeK [] (ks.zip ys))))
def tDictZip (K : PySem.W.Frag) (ta : TA) : TE := fun σ H Q => ta σ H fun vs H1 => rDictZip K vs H1 Q
theorem pe_dictZip {X : Cx} {e e2 : Expr} {ta : TA} {p p2 kp cp cpos pos : Pos} {cj : Nat} (hcalm : X.calm = true) (ha : PA X [e, e2] ta) (hg : Gl X "dict") (hm : X.mg "dict" = none) (hv : bootBuiltins "dict" = some (.type "dict")) (hgz : Gl X "zip") (hmz : X.mg "zip" = none)
    (hs : starEach [.Call (.Name "zip" p2) [e, e2] [⟨some "strict", .Constant (.bool true) cj cp, kp⟩] cpos] X.env = (false, eval (.Call (.Name "zip" p2) [e, e2] [⟨some "strict", .Constant (.bool true) cj cp, kp⟩] cpos) X.env) :: starEach [] X.env := by rfl)
    (hs2 : starEach [e, e2] X.env = (false, eval e X.env) :: starEach [e2] X.env := by rfl) (hpl : (backTo cpos (starEach [e, e2] X.env)).any (·.1) = false := by rfl) :
    PE X (.Call (.Name "dict" p) [.Call (.Name "zip" p2) [e, e2] [⟨some "strict", .Constant (.bool true) cj cp, kp⟩] cpos] [] pos) (tDictZip X.K ta) := by
  refine ⟨fun pins s σ H Q I hq => wpAny_Call_Name_kw (ld_blt I hg hm hv (PyProof.Rows.callWith_type1 ?_ hs rfl))⟩
  rw [hs]
  show wpAny _ _ (spliced ((false, eval (.Call (.Name "zip" p2) [e, e2] _ cpos) X.env) :: backTo pos (starEach [] X.env))) _ _ s
  refine Calls.spliced_cons (wpAny_Call_Name_kw (ld_blt I hgz hmz PyProof.Rows.boot_zip (callWith_typeK hpl rfl ?_)))
  rw [hs2]
  refine PyProof.Rows.evalArgs_kwB (by rfl) ?_
  have h0 := ha.run cpos pins s σ H _ I hq
  rw [hs2] at h0
  refine thn h0 fun us s1 ⟨vs, H1, I1, r, a, b, ks, ys, ex, hab, hl, q⟩ => ?_
  subst ex
  cases r with
  | cons r rr =>
    cases rr with
    | cons r' rr =>
      cases rr
      cases r
      cases r'
      show wpAny _ _ (evalAll ((do let v ← eval (.Constant (.bool true) cj cp) X.env; standAt cpos; pure v) :: [])) _ _ s1
      refine PyProof.Rows.evalAll_cons (wpAny_bind (PySem.wpAny_Constant_bool (wpAny_bind (wpAny_standAt (wpAny_pure (PyProof.Rows.evalAll_nil ?_))))))
      show wpAny _ _ (call (.type "zip") [.ref a, .ref b] [("strict", .bool true)]) _ _ s1
      have main : ∀ (tup : Bool) (kx ky : List Value), Vals (ks.map kV) kx → Vals ys ky → SSq tup s1.heap a kx.toArray → SSq tup s1.heap b ky.toArray → kx.length ≤ sizeLine → wpAny (model X.prog X.w) X.A (call (.type "zip") [.ref a, .ref b] [("strict", .bool true)]) (fun v s2 => wpAny (model X.prog X.w) X.A (call (.type "dict") [v]) (EP X pins σ Q) X.xe s2) X.xe s1 := fun tup kx ky rk ry h1 h2 hz =>
        zarg_call tup h1 h2 fun g ok k => dict_zip hcalm I1 true tup kx ky rk ry h1 h2 hz (fun _ => hl) q g ok k
      refine wpAny_mono ?_ (fun v s2 z => Calls.spliced_nil z) fun _ _ z => z
      rcases hab with ⟨ha', hb'⟩ | ⟨ha', hb'⟩
      · obtain ⟨kx, rk, p1, z1⟩ := I1.list ha'
        obtain ⟨ky, ry, p2, _⟩ := I1.list hb'
        exact main false kx ky rk ry p1.isList p2.isList (by rw [← rk.length]; exact z1)
      · obtain ⟨kx, rk, p1, z1⟩ := I1.tuple ha'
        obtain ⟨ky, ry, p2, _⟩ := I1.tuple hb'
        exact main true kx ky rk ry p1 p2 (by rw [← rk.length]; exact z1)
/-! ### dict(zip(a, b)) -/
end U
namespace U
open PySem PySem.Spec PyProof.Rows L2
/-! ### xs[1::-1] of a list of two to four items -/
theorem ix_listK {X : Cx} {K : PySem.W.Frag} (h : X.K = K) : IxR X (rIxL K) := by
  subst h
  exact ix_list
end U
namespace U
open PySem PySem.Spec PyProof.Rows L2
/-! ### for a, b in zip(x, y, strict=True) -/
section
variable {prog : Program} {w : World} {A : Around} {E : Value → Shared → Prop} {s : Shared} {st tup : Bool} {it l : Addr} {i : Nat} {items : Array Value}
variable {Z J O a1 a2 b1 b2 : Addr} {k1 k2 : Nat} {xs ys : Array Value} {x y u v : Value}
theorem zz_itemO {Q : Value → Shared → Prop} (D : ZipApart Z J O a1 a2 b1 b2) (ez : IsZ st s.heap Z J O .none false) (eJ : IsPair s.heap J (.ref a1) (.ref a2)) (eO : IsPair s.heap O u v)
    (p1 : SIt tup s.heap a1 b1 k1) (p2 : SIt tup s.heap a2 b2 k2) (q1 : SSq tup s.heap b1 xs) (q2 : SSq tup s.heap b2 ys) (ex : xs[k1]? = some x) (ey : ys[k2]? = some y)
    (q : ∀ g, ZGot st tup s.heap Z J O a1 a2 b1 b2 k1 k2 x y (rawInt s.heap.objs.size) false g → IsPair g O x y → (∀ c o, c ≠ Z → c ≠ O → c ≠ a1 → c ≠ a2 → s.heap.get? c = some o → g.get? c = some o) → Q (.ref s.heap.objs.size) { s with heap := g }) :
    wpAny (model prog w) A (Builtin.«zip.__next__» ⟨[.ref Z], []⟩) (fun fin s' => ∃ v, fin = .done (.ret v) ∧ Q v s') E s := by
  show wpAny _ _ (field (.ref Z) 2 >>= _) _ _ _
  refine wpAny_bind (wpAny_field ez rfl (x := .bool st) rfl ?_)
  show wpAny _ _ (field (.ref Z) 3 >>= _) _ _ _
  refine wpAny_bind (wpAny_field ez rfl (x := .ref J) rfl ?_)
  refine wpAny_bind (wpAny_seqItems eJ rfl ?_)
  show wpAny _ _ (Builtin.SmallTypes.ownedTupleIsFree (.ref Z) >>= _) _ _ _
  refine wpAny_bind ?_
  unfold Builtin.SmallTypes.ownedTupleIsFree
  refine wpAny_bind (wpAny_field ez rfl (x := .none) rfl (wpAny_pure ?_))
  simp only [if_true]
  refine wpAny_bind (wpAny_rule ?_)
  refine wpAny_bind (wpAny_field ez rfl (x := .ref O) rfl ?_)
  refine wpAny_bind (wpAny_setField_rec ez (by simp) fun g1 ez1 c1 => ?_)
  replace ez1 : IsZ st g1 Z J O .ellipsis false := ez1
  refine wpAny_bind ?_
  simp only [List.zipIdx_cons, List.zipIdx_nil, List.forIn_cons, List.forIn_nil]
  have hs : (Value.bool st == Value.bool true) = st := by cases st <;> rfl
  rw [hs]
  refine wpAny_bind (wpAny_bind (wpAny_onRaise ?_))
  show wpAny _ _ (drw st (.ref a1)) _ _ _
  refine drw_item (p1.mv fun o e => c1.extBut _ _ D.i1z e) (q1.mv fun o e => c1.extBut _ _ D.l1z e) ex fun g2 p1' c2 => ?_
  have eO2 : IsPair g2 O u v := c2.extBut _ _ D.TOi1 (c1.extBut _ _ D.TOz eO)
  refine wpAny_bind (wpAny_seqItems eO2 rfl ?_)
  refine wpAny_bind (wpAny_updateSeq_pair eO2 fun g3 eO3 c3 => ?_)
  replace eO3 : IsPair g3 O x v := eO3
  refine wpAny_bind (wpAny_letGo (wpAny_pure ?_))
  refine wpAny_bind (wpAny_bind (wpAny_onRaise ?_))
  show wpAny _ _ (drw st (.ref a2)) _ _ _
  refine drw_item (p2.mv fun o e => c3.extBut _ _ D.TOi2.symm (c2.extBut _ _ D.i12.symm (c1.extBut _ _ D.i2z e))) (q2.mv fun o e => c3.extBut _ _ D.l2TO (c2.extBut _ _ D.l2i1 (c1.extBut _ _ D.l2z e))) ey fun g4 p2' c4 => ?_
  have eO4 : IsPair g4 O x v := c4.extBut _ _ D.TOi2 eO3
  refine wpAny_bind (wpAny_seqItems eO4 rfl ?_)
  refine wpAny_bind (wpAny_updateSeq_pair eO4 fun g5 eO5 c5 => ?_)
  replace eO5 : IsPair g5 O x y := eO5
  refine wpAny_bind (wpAny_letGo (wpAny_pure (wpAny_pure ?_)))
  refine wpAny_bind (wpAny_seqItems eO5 rfl ?_)
  refine wpAny_bind (wpAny_newTuple ?_)
  have hsz : g5.objs.size = s.heap.objs.size := by rw [c5.1, c4.1, c3.1, c2.1, c1.1]
  have kp : ∀ c o, c ≠ Z → c ≠ O → c ≠ a1 → c ≠ a2 → s.heap.get? c = some o → g5.get? c = some o := fun c o n1 n2 n3 n4 e =>
    c5.extBut _ _ n2 (c4.extBut _ _ n4 (c3.extBut _ _ n2 (c2.extBut _ _ n3 (c1.extBut _ _ n1 e))))
  have ez5 : IsZ st g5 Z J O .ellipsis false := c5.extBut _ _ D.TOz.symm (c4.extBut _ _ D.i2z.symm (c3.extBut _ _ D.TOz.symm (c2.extBut _ _ D.i1z.symm ez1)))
  have r1 : SIt tup g5 a1 b1 (k1 + 1) := p1'.mv fun o e => c5.extBut _ _ D.TOi1.symm (c4.extBut _ _ D.i12 (c3.extBut _ _ D.TOi1.symm e))
  have r2 : SIt tup g5 a2 b2 (k2 + 1) := p2'.mv fun o e => c5.extBut _ _ D.TOi2.symm e
  have zl : Z < g5.objs.size := Heap.lt_size ez5
  show wpAny _ _ (Builtin.SmallTypes.ownedTupleHandOut (.ref Z) (.ref g5.objs.size) >>= _) _ _ _
  refine wpAny_bind ?_
  unfold Builtin.SmallTypes.ownedTupleHandOut
  have ez6 : IsZ st (g5.push { cls := .type "tuple", data := .seq #[x, y] }) Z J O .ellipsis false := Heap.get?_push_of_some _ ez5
  refine wpAny_bind (wpAny_setField_rec ez6 (by simp) fun g7 ez7 c7 => ?_)
  replace ez7 : IsZ st g7 Z J O (rawInt g5.objs.size) false := ez7
  refine wpAny_setField_rec ez7 (by simp) fun g8 ez8 c8 => ?_
  replace ez8 : IsZ st g8 Z J O (rawInt g5.objs.size) false := ez8
  have up : ∀ c o, c ≠ Z → g5.get? c = some o → g8.get? c = some o := fun c o n1 e => c8.extBut _ _ n1 (c7.extBut _ _ n1 (Heap.get?_push_of_some _ e))
  have t8 : IsPair g8 g5.objs.size x y := c8.extBut _ _ (Nat.ne_of_gt zl) (c7.extBut _ _ (Nat.ne_of_gt zl) (Heap.get?_push_size _ rfl))
  have s8 : g8.objs.size = g5.objs.size + 1 := by rw [c8.1, c7.1, Heap.size_push]
  rw [hsz] at ez8 t8 s8
  refine wpAny_pure ⟨_, rfl, ?_⟩
  show Q (.ref g5.objs.size) _
  rw [hsz]
  exact q g8 ⟨ez8, r1.mv fun o e => up _ o D.i1z e, r2.mv fun o e => up _ o D.i2z e, t8, s8⟩ (up O _ D.TOz eO5) fun c o n1 n2 n3 n4 e => up c o n1 (kp c o n1 n2 n3 n4 e)
theorem letGo_z {elts : List Expr} {x1} {pos : PySem.Pos} {z TI TO T : Addr} {f : Bool} {Q : Unit → Shared → Prop} (hz : IsZ st s.heap z TI TO (rawInt T) f)
    (hQ : ∀ h', IsZ st h' z TI TO .none f → Heap.SameBut z s.heap h' → Q () { s with heap := h' }) :
    wpAny (model prog w) A (letOwnedTupleGo (.Tuple elts x1 pos) (.ref z) (.ref T)) Q E s := by
  unfold letOwnedTupleGo
  refine wpAny_bind (wpAny_load hz ?_)
  show wpAny _ _ (if (["enumerate", "zip", "dict_itemiterator", "dict_reverseitemiterator", "odict_iterator", "itertools.zip_longest", "itertools.pairwise"].contains "zip" &&
      (#[rawInt T, .bool f, .bool st, .ref TI, .ref TO] : Array Value)[0]? == some (rawInt T)) = true then _ else _) Q E s
  rw [if_pos (by simp)]
  refine wpAny_bind (wpAny_rule ?_)
  show wpAny _ _ (setField (.ref z) 0 .none) Q E s
  exact wpAny_setField_rec hz (by simp) fun h' hz' hs' => hQ h' hz' hs'
theorem iter_z {z TI TO : Addr} {v : Value} {f : Bool} {Q : Value → Shared → Prop} (hz : IsZ st s.heap z TI TO v f) (h : Q (.ref z) s) : wpAny (model prog w) A (pyIter (.ref z)) Q E s := by
  have hT : s.TypeIs (.ref z) "zip" := ⟨_, hz, rfl⟩
  refine wpAny_pyIter_slot hT F.slot_zip_iter (wpAny_call_entry F.slot_zip_iter hT F.entry_zip_iter ?_ (F.args_zip_iter_1 _))
  show wpAny _ _ (ret (.ref z)) _ _ s
  exact wpAny_pure ⟨_, rfl, "zip", _, hT, F.slot_zip_next.lookup, h⟩
end
def SqB (K : PySem.W.Frag) (tup : Bool) (H : Hp) (a : Addr) (xs : List V) : Prop := match tup with | true => SqT K H a xs | false => SqL K H a xs
theorem sqb_at {X : Cx} {pins : List (Addr × Obj)} {σ : L2.St} {H : Hp} {s : Shared} {tup : Bool} {a : Addr} {xs : List V} (I : Inv X pins σ H s) (h : SqB X.K tup H a xs) : ∃ its, Vals xs its ∧ SSq tup s.heap a its.toArray := by
  cases tup
  · obtain ⟨its, rv, p, _⟩ := I.list h
    exact ⟨its, rv, p.isList⟩
  · obtain ⟨its, rv, p, _⟩ := I.tuple h
    exact ⟨its, rv, p⟩
theorem sqb_inj {X : Cx} {pins : List (Addr × Obj)} {σ : L2.St} {H : Hp} {s : Shared} {tup : Bool} {a : Addr} {xs ys : List V} (I : Inv X pins σ H s) (h : SqB X.K tup H a xs) (h' : SqB X.K tup H a ys) : xs = ys := by
  cases tup
  · exact I.list_inj h h'
  · exact I.tuple_inj h h'
def ItzS (K : PySem.W.Frag) (tup : Bool) (a b : Addr) : It :=
  ⟨fun i H => ∃ (xs ys : List V) (x y : V), SqB K tup H a xs ∧ SqB K tup H b ys ∧ xs[i]? = some x ∧ ys[i]? = some y,
    fun i H v H' => ∃ T x y, v = .ref T ∧ H T = none ∧ H' = upd H T (.tup [x, y]) ∧ (∀ xs, SqB K tup H a xs → xs[i]? = some x) ∧ ∀ ys, SqB K tup H b ys → ys[i]? = some y,
    fun i H => ∃ xs ys : List V, SqB K tup H a xs ∧ SqB K tup H b ys ∧ xs.length ≤ i ∧ ys.length ≤ i⟩
theorem walk_zipS {K : PySem.W.Frag} {tup : Bool} {a b : Addr} {xs ys : List V} (hl : xs.length = ys.length) : Walk (ItzS K tup a b) xs.length (fun H => SqB K tup H a xs ∧ SqB K tup H b ys) (YPair (fun i => xs[i]?) (fun i => ys[i]?)) := by
  refine ⟨fun i H hi q => ?_, fun H q => ?_, fun i H x H' hi q y => ?_⟩
  · exact ⟨xs, ys, _, _, q.1, q.2, List.getElem?_eq_getElem hi, List.getElem?_eq_getElem (by omega)⟩
  · exact ⟨xs, ys, q.1, q.2, Nat.le_refl _, by omega⟩
  · obtain ⟨T, x', y', rfl, hT, rfl, f1, f2⟩ := y
    exact ⟨T, x', y', rfl, hT, rfl, f1 _ q.1, f2 _ q.2⟩
theorem turn_zipS {P : Program} {w : World} {K : PySem.W.Frag} {elts : List Expr} {kk : Nat} {tpos : PySem.Pos} {tup : Bool} {a b z TI TO i1 i2 : Addr} (D : ZipApart z TI TO i1 i2 a b) :
    Turn P w K (.Tuple elts kk tpos) (ItzS K tup a b) [z, TI, TO, i1, i2] z (fun i h => IsZ true h z TI TO .none false ∧ IsPair h TI (.ref i1) (.ref i2) ∧ (∃ x y, IsPair h TO x y) ∧ SIt tup h i1 a i ∧ SIt tup h i2 b i) where
  mem := by simp
  obj := fun i h st c hc => by
    obtain ⟨hz, hTI, ⟨x, y, hTO⟩, h1, h2⟩ := st
    have sdat : ∀ {c l : Addr}, SIt tup h c l i → ∃ o, h.get? c = some o ∧ ∀ v, o.data ≠ .cell v := fun h => by
      cases tup
      · obtain ⟨o, e, _, d⟩ := h
        exact ⟨o, e, fun v q => by rw [d] at q; cases q⟩
      · obtain ⟨o, e, _, d⟩ := h
        exact ⟨o, e, fun v q => by rw [d] at q; cases q⟩
    have e' : c = z ∨ c = TI ∨ c = TO ∨ c = i1 ∨ c = i2 := by simpa using hc
    rcases e' with q | q | q | q | q
    · rw [q]; exact ⟨_, hz, fun v q => nomatch q⟩
    · rw [q]; exact ⟨_, hTI, fun v q => nomatch q⟩
    · rw [q]; exact ⟨_, hTO, fun v q => nomatch q⟩
    · rw [q]; exact sdat h1
    · rw [q]; exact sdat h2
  keep := fun i h h' st k => by
    obtain ⟨hz, hTI, ⟨x, y, hTO⟩, h1, h2⟩ := st
    exact ⟨k z (by simp) _ hz, k TI (by simp) _ hTI, ⟨x, y, k TO (by simp) _ hTO⟩, h1.mv fun o q => k i1 (by simp) o q, h2.mv fun o q => k i2 (by simp) o q⟩
  item := by
    intro X hP hw hK hc i pins s σ H E I hf st hg
    subst hP hw hK
    obtain ⟨hz, hTI, ⟨x0, y0, hTO⟩, h1, h2⟩ := st
    obtain ⟨xs, ys, x, y, hqx, hqy, hx, hy⟩ := hg
    obtain ⟨its, rv, p⟩ := sqb_at I hqx
    obtain ⟨its2, rv2, p2⟩ := sqb_at I hqy
    obtain ⟨u, hu, ru⟩ := rv.get hx
    obtain ⟨u2, hu2, ru2⟩ := rv2.get hy
    have hzl : z < s.heap.objs.size := Heap.lt_size hz
    refine nx_item ⟨_, hz, rfl⟩ fun F => zz_itemO D hz hTI hTO h1 h2 p p2 (x := u) (y := u2) (by simpa using hu) (by simpa using hu2) fun h' ⟨z', h1', h2', hT, hsz⟩ TO' hk => ?_
    refine ⟨_, rfl, letGo_z (s := { s with heap := h' }) z' fun h'' z'' sb => ?_⟩
    have hT2 : h''.get? s.heap.objs.size = some { cls := .type "tuple", data := .seq #[u, u2] } := (sb.2 _ (Nat.ne_of_gt hzl)).trans hT
    have new : ObjOk X.prog X.w (upd H s.heap.objs.size (.tup [x, y])) h'' s.heap.objs.size (.tup [x, y]) :=
      ⟨by show 2 ≤ sizeLine; decide, [u, u2], .cons ru (.cons ru2 .nil), ⟨_, hT2, rfl, _, rfl⟩⟩
    have I1 : Inv X pins σ (upd H s.heap.objs.size (.tup [x, y])) { s with heap := h'' } :=
      I.turnedNew (t' := s.toks) (ch := [z, TI, TO, i1, i2]) (fun c o hb q => (sb.2 c (fun q' => hb (by simp [q']))).trans (hk c o (fun q' => hb (by simp [q'])) (fun q' => hb (by simp [q'])) (fun q' => hb (by simp [q'])) (fun q' => hb (by simp [q'])) q)) hf (Nat.le_refl _) new
    refine ⟨.ref s.heap.objs.size, _, I1, rfl, ⟨_, x, y, rfl, I.hok.fresh (Nat.le_refl _), rfl, fun l hl => by rw [sqb_inj I hl hqx]; exact hx, fun l hl => by rw [sqb_inj I hl hqy]; exact hy⟩, ⟨z'', ?_, ⟨u, u2, ?_⟩, ?_, ?_⟩, fun c hcm => ?_⟩
    · exact (sb.2 _ D.TIz).trans (hk _ _ D.TIz D.TITO D.TIi1 D.TIi2 hTI)
    · exact (sb.2 _ D.TOz).trans TO'
    · exact h1'.mv fun o q => (sb.2 _ D.i1z).trans q
    · exact h2'.mv fun o q => (sb.2 _ D.i2z).trans q
    · have hlt : c < s.heap.objs.size := by
        have e' : c = z ∨ c = TI ∨ c = TO ∨ c = i1 ∨ c = i2 := by simpa using hcm
        rcases e' with q | q | q | q | q
        · rw [q]; exact hzl
        · rw [q]; exact Heap.lt_size hTI
        · rw [q]; exact Heap.lt_size hTO
        · rw [q]; obtain ⟨_, e1⟩ := h1.ob; exact Heap.lt_size e1
        · rw [q]; obtain ⟨_, e2⟩ := h2.ob; exact Heap.lt_size e2
      rw [upd_ne (Nat.ne_of_lt hlt)]
      exact (hf c hcm).1
  done := by
    intro X hP hw hK hc i pins s σ H E I hf st hg
    subst hP hw hK
    obtain ⟨hz, hTI, ⟨x0, y0, hTO⟩, h1, h2⟩ := st
    obtain ⟨xs, ys, hqx, hqy, g1, g2⟩ := hg
    obtain ⟨its, rv, p⟩ := sqb_at I hqx
    obtain ⟨its2, rv2, p2⟩ := sqb_at I hqy
    have l1 := rv.length
    have l2 := rv2.length
    have he : ZEnd true its.toArray its2.toArray i i := .inl ⟨rfl, by simp; omega, by simp; omega⟩
    refine nx_end (fun g => ∀ c o, c ≠ z → c ≠ TO → c ≠ i1 → c ≠ i2 → s.heap.get? c = some o → g.get? c = some o) ⟨_, hz, rfl⟩ (fun F Q' q => zz_end (I.ok.hd hc) D hz hTI hTO h1 h2 p p2 he q) fun h' hk => ⟨rfl, I.turnedL (t' := s.toks) (ch := [z, TI, TO, i1, i2]) (fun c o hb q =>
      hk c o (fun q' => hb (by simp [q'])) (fun q' => hb (by simp [q'])) (fun q' => hb (by simp [q'])) (fun q' => hb (by simp [q'])) q) hf⟩
  self := fun A i s Q E st h => iter_z st.1 h
def iZipS (K : PySem.W.Frag) (ta : TA) : TI := fun σ H R => ta σ H fun vs H1 => ∃ a b xs ys tup, vs = [.ref a, .ref b] ∧ SqB K tup H1 a xs ∧ SqB K tup H1 b ys ∧ R (ItzS K tup a b) H1
theorem pi_zipS {X : Cx} {e e2 : Expr} {ta : TA} {p pos kp cp tpos : PySem.Pos} {cj : Nat} {elts : List Expr} {kk : Nat} (hg : Gl X "zip") (hm : X.mg "zip" = none) (ha : PA X [e, e2] ta)
    (hs2 : starEach [e, e2] X.env = (false, eval e X.env) :: starEach [e2] X.env := by rfl) (hpl : (backTo pos (starEach [e, e2] X.env)).any (·.1) = false := by rfl) :
    PI X (.Tuple elts kk tpos) (.Call (.Name "zip" p) [e, e2] [⟨some "strict", .Constant (.bool true) cj cp, kp⟩] pos) (iZipS X.K ta) := by
  refine ⟨fun pins s σ H R I h => ?_⟩
  refine wpAny_Call_Name_kw (ld_blt I hg hm PyProof.Rows.boot_zip (callWith_typeK hpl rfl ?_))
  rw [hs2]
  refine PyProof.Rows.evalArgs_kwB (by rfl) ?_
  have h0 := ha.run pos pins s σ H _ I h
  rw [hs2] at h0
  refine thn h0 fun us s1 ⟨vs, H1, I1, r, a, b, xs, ys, tup, ex, hqx, hqy, q⟩ => ?_
  subst ex
  cases r with
  | cons r rr =>
    cases rr with
    | cons r' rr =>
      cases rr
      cases r
      cases r'
      show wpAny _ _ (evalAll ((do let v ← eval (.Constant (.bool true) cj cp) X.env; standAt pos; pure v) :: [])) _ _ s1
      refine PyProof.Rows.evalAll_cons (wpAny_bind (PySem.wpAny_Constant_bool (wpAny_bind (wpAny_standAt (wpAny_pure (PyProof.Rows.evalAll_nil ?_))))))
      show wpAny _ _ (call (.type "zip") [.ref a, .ref b] [("strict", .bool true)]) _ _ s1
      obtain ⟨its, rv, p1⟩ := sqb_at I1 hqx
      obtain ⟨its2, rv2, p2⟩ := sqb_at I1 hqy
      refine zarg_call tup p1 p2 fun h' ⟨e1, e2, ⟨u, v, e3⟩, e4, e5, e6, e7⟩ hk => ?_
      have fresh5 : ∀ c, c ∈ [s1.heap.objs.size + 4, s1.heap.objs.size + 2, s1.heap.objs.size + 3, s1.heap.objs.size, s1.heap.objs.size + 1] → FpOk X pins H1 c := fun c hcm => by
        have e' : c = s1.heap.objs.size + 4 ∨ c = s1.heap.objs.size + 2 ∨ c = s1.heap.objs.size + 3 ∨ c = s1.heap.objs.size ∨ c = s1.heap.objs.size + 1 := by simpa using hcm
        have hle : s1.heap.objs.size ≤ c := by
          rcases e' with z | z | z | z | z
          · rw [z]; exact Nat.le_add_right _ _
          · rw [z]; exact Nat.le_add_right _ _
          · rw [z]; exact Nat.le_add_right _ _
          · rw [z]; exact Nat.le_refl _
          · rw [z]; exact Nat.le_add_right _ _
        exact I1.fpOk hle (I1.hok.fresh hle)
      obtain ⟨o1, ho1⟩ := p1.ob
      obtain ⟨o2, ho2⟩ := p2.ob
      refine iter_z e1 ?_
      have I2 : Inv X pins σ H1 { s1 with heap := h' } := I1.kept (t' := s1.toks) hk
      exact ⟨s1.heap.objs.size + 4, [s1.heap.objs.size + 4, s1.heap.objs.size + 2, s1.heap.objs.size + 3, s1.heap.objs.size, s1.heap.objs.size + 1], _, _, H1, rfl, I2, turn_zipS (PySem.W.ktu_apart s1.heap.objs.size a b (Heap.lt_size ho1) (Heap.lt_size ho2)), ⟨e1, e2, ⟨u, v, e3⟩, e4, e5⟩, fresh5, q⟩
end U
namespace U
open PySem PySem.W PySem.Calls PyProof.Rows PyProof.V PySem.Spec
/-! ### list(enumerate(a list)) -/
theorem en_no_len : typeLookup (.type "enumerate") "__len__" = pure none := by rw [typeLookup_type, builtinLookup_eq_fast]; kernel_rfl
theorem en_no_hint : typeLookup (.type "enumerate") "__length_hint__" = pure none := by rw [typeLookup_type, builtinLookup_eq_fast]; kernel_rfl
def EnSt (h : Heap) (e it l S : Addr) (items : Array Value) (i : Nat) : Prop := h.IsListIter it l i ∧ h.IsList l items ∧ ((∃ old, IsEnum h e it ((i : Nat) : Int) old) ∨ ∃ old T f oT, IsEnumHeld h e it ((i : Nat) : Int) old T f ∧ h.get? T = some oT ∧ T ≠ e ∧ T ≠ it ∧ T ≠ S)
theorem EnSt.keep {h h' : Heap} {e it l S : Addr} {items : Array Value} {i : Nat} (st : EnSt h e it l S items i) (k : ∀ b o, b ≠ S → h.get? b = some o → h'.get? b = some o) (se : e ≠ S) (si : it ≠ S) (sl : l ≠ S) : EnSt h' e it l S items i := by
  obtain ⟨a, b, c⟩ := st
  refine ⟨a.at fun o x => k _ o si x, b.at fun o x => k _ o sl x, ?_⟩
  rcases c with ⟨old, he⟩ | ⟨old, T, f, oT, he, hT, r1, r2, r3⟩
  · exact .inl ⟨old, k _ _ se he⟩
  · exact .inr ⟨old, T, f, oT, k _ _ se he, k _ _ r3 hT, r1, r2, r3⟩
theorem EnSt.typeIs {s : Shared} {e it l S : Addr} {items : Array Value} {i : Nat} (st : EnSt s.heap e it l S items i) : s.TypeIs (.ref e) "enumerate" := by
  obtain ⟨_, _, ⟨old, he⟩ | ⟨old, T, f, oT, he, _⟩⟩ := st
  · exact ⟨_, he, rfl⟩
  · exact ⟨_, he, rfl⟩
structure EnG (items : Array Value) (lo : Addr) (h : Heap) (as : List Addr) : Prop where
  rise : as.Pairwise (· < ·)
  above : ∀ a ∈ as, lo < a
  pairs : ∀ (j : Nat) (a : Addr), as[j]? = some a → ∃ t x, items[j]? = some x ∧ h.get? a = some { cls := .type "tuple", data := .seq #[.int (j : Nat) t, x] }
theorem EnG.there {es : Array Value} {lo : Addr} {h : Heap} {as : List Addr} (g : EnG es lo h as) {a : Addr} (ha : a ∈ as) : a < h.objs.size := by
  obtain ⟨j, hj⟩ := List.mem_iff_getElem?.mp ha
  obtain ⟨_, _, _, e⟩ := g.pairs j a hj
  exact Heap.lt_size e
section
variable {prog : Program} {w : World} {A : Around} {E : Value → Shared → Prop} {s : Shared}
theorem en_item {e it l S : Addr} {i : Nat} {items : Array Value} {x : Value} {Q : Option Value → Shared → Prop} (st : EnSt s.heap e it l S items i) (hS : S < s.heap.objs.size) (hei : e ≠ it) (hle : l ≠ e) (hli : l ≠ it) (hx : items[i]? = some x)
    (hQ : ∀ h', EnSt h' e it l S items (i + 1) → h'.get? s.heap.objs.size = some { cls := .type "tuple", data := .seq #[.int (i : Nat) s.toks, x] } → h'.objs.size = s.heap.objs.size + 1 →
      (∀ b o, b ≠ e → b ≠ it → s.heap.get? b = some o → h'.get? b = some o) → Q (some (.ref s.heap.objs.size)) { s with heap := h', toks := s.toks + 1 }) :
    wpAny (model prog w) A (pyNext (.ref e)) Q E s := by
  obtain ⟨hit, hl, he⟩ := st
  have ec : ((i + 1 : Nat) : Int) = (i : Int) + 1 := by omega
  have nit : s.heap.objs.size ≠ it := let ⟨_, x, _⟩ := hit; Nat.ne_of_gt (Heap.lt_size x)
  rcases he with ⟨old, he⟩ | ⟨old, T, f, oT, he, hT, r1, r2, r3⟩
  · refine wpAny_pyNext_enum_item he hit hl hx hei fun h' ho hit' hT hsz hk => ?_
    exact hQ h' ⟨hit', hl.at fun o x => hk l o hle hli x, .inr ⟨_, s.heap.objs.size, false, _, (by rw [ec]; exact ho), hT, Nat.ne_of_gt (Heap.lt_size he), nit, Nat.ne_of_gt hS⟩⟩ hT hsz hk
  · refine wpAny_pyNext_enum_item_held he hT r1 r2 hit hl hx hei fun h' ho hit' hT' hsz hk => ?_
    exact hQ h' ⟨hit', hl.at fun o x => hk l o hle hli x, .inr ⟨old, T, true, oT, (by rw [ec]; exact ho), hk _ _ r1 r2 hT, r1, r2, r3⟩⟩ hT' hsz hk
theorem en_done {e it l S : Addr} {i : Nat} {items : Array Value} {Q : Option Value → Shared → Prop} (hh : A.handled = none) (st : EnSt s.heap e it l S items i) (hx : items[i]? = none)
    (hQ : ∀ h', Heap.ExtBut it s.heap h' → Q none { s with heap := h' }) : wpAny (model prog w) A (pyNext (.ref e)) Q E s := by
  obtain ⟨hit, hl, he⟩ := st
  rcases he with ⟨old, he⟩ | ⟨old, T, f, oT, he, hT, r1, r2, r3⟩
  · exact wpAny_pyNext_enum_end hh he hit hl hx hQ
  · exact wpAny_pyNext_enum_end_held hh he hit hl hx hQ
end
section
variable {prog : Program} {w : World} {A : Around} {s : Shared} {R : Result → Shared → Prop} {es : Array Value}
theorem en_loop {S e it l : Addr} (hh : A.handled = none) (hSe : e < S) (hSi : it < S) (hei : e ≠ it) (hlS : l ≠ S) (hle : l ≠ e) (hli : l ≠ it) (hn : es.size ≤ sizeLine) (res : Value) {h₁ : Heap}
    (hR : ∀ h' tk acc c as, (∀ b o, b ≠ S → b ≠ e → b ≠ it → h₁.get? b = some o → h'.get? b = some o) → h'.get? S = some { cls := .type "list", dict := none, data := .seq acc c, slots := #[] } → as.length = es.size → EnG es S h' as →
      acc.toList = as.map Value.ref → R (.ok (.ret res)) { s with heap := h', toks := tk }) :
    ∀ (k i : Nat) (h : Heap) (tk c : Nat) (acc : Array Value) (as : List Addr), es.size - i = k → i ≤ es.size → EnSt h e it l S es i → (∀ b o, b ≠ S → b ≠ e → b ≠ it → h₁.get? b = some o → h.get? b = some o) →
      h.get? S = some { cls := .type "list", dict := none, data := .seq acc c, slots := #[] } → acc.toList = as.map Value.ref → as.length = i → EnG es S h as →
      codeAny (model prog w) A (.builtin "list.extend.loop" ⟨[.ref S, .ref e, res], []⟩) R { s with heap := h, toks := tk } := by
  have hneS : S ≠ e := Nat.ne_of_gt hSe
  have hniS : S ≠ it := Nat.ne_of_gt hSi
  intro k
  induction k with
  | zero =>
    intro i h tk c acc as hk hi hst hkeep hS hacc hal hG
    have hin : i = es.size := by omega
    refine codeAny_builtin PySem.F.entry_extend_loop ?_
    rw [Around.under_plainId PySem.F.plain_extend_loop _]
    show wpAny _ A.in1 (pyNext (.ref e) >>= _) _ _ _
    refine wpAny_bind (en_done (s := { s with heap := h, toks := tk }) (A := A.in1) hh hst (Array.getElem?_eq_none (by omega)) fun h' hx => ?_)
    refine wpAny_pure (hR h' tk acc c as (fun b o h1 h2 h3 x => hx b o h3 (hkeep b o h1 h2 h3 x)) (hx S _ hniS hS) (by omega) ⟨hG.rise, hG.above, fun j a hj => ?_⟩ hacc)
    obtain ⟨t, x, hj', e3⟩ := hG.pairs j a hj
    exact ⟨t, x, hj', hx a _ (Nat.ne_of_gt (Nat.lt_trans hSi (hG.above a (List.mem_of_getElem? hj)))) e3⟩
  | succ k ih =>
    intro i h tk c acc as hk hi hst hkeep hS hacc hal hG
    have hlt : i < es.size := by omega
    have hsz : acc.size = i := by rw [← Array.length_toList, hacc, List.length_map, hal]
    refine codeAny_builtin PySem.F.entry_extend_loop ?_
    rw [Around.under_plainId PySem.F.plain_extend_loop _]
    show wpAny _ A.in1 (pyNext (.ref e) >>= _) _ _ _
    refine wpAny_bind (en_item (s := { s with heap := h, toks := tk }) hst (Heap.lt_size hS) hei hle hli (Array.getElem?_eq_getElem hlt) fun h' hst' ht hz hkp => ?_)
    dsimp only at ht hz hkp ⊢
    have hS' := hkp S _ hneS hniS hS
    have up : ∀ b o, b ≠ S → h'.get? b = some o → (h'.update S (Obj.mapSeq (·.push (Value.ref h.objs.size)))).get? b = some o := fun b o hb x => (Heap.get?_update_other _ _ (Ne.symm hb)).trans x
    have hSl : S < h.objs.size := Heap.lt_size hS
    show wpAny _ A.in1 (updateSeq S (·.push (Value.ref h.objs.size)) >>= _) _ _ _
    refine wpAny_bind ?_
    refine wpAny_updateSeq hS' rfl (wpAny_pure ⟨plainId_quiet PySem.F.plain_extend_loop _, ih (i + 1) _ (tk + 1) _ (acc.push (Value.ref h.objs.size)) (as ++ [h.objs.size]) (by omega) hlt (hst'.keep up hneS.symm hniS.symm hlS)
      (fun b o h1 h2 h3 x => up b o h1 (hkp b o h2 h3 (hkeep b o h1 h2 h3 x))) (Heap.get?_update_self _ hS' rfl) (by rw [Array.toList_push, hacc, List.map_append]; rfl) (by rw [List.length_append, hal]; rfl) ⟨?_, ?_, ?_⟩⟩) (by rw [hsz]; omega) (by show (acc.push (Value.ref h.objs.size)).size ≤ sizeLine + 1; rw [Array.size_push, hsz]; omega)
    · refine List.pairwise_append.mpr ⟨hG.rise, List.pairwise_singleton _ _, fun a ha b hb => ?_⟩
      rw [List.mem_singleton.mp hb]
      exact hG.there ha
    · intro a ha
      rcases List.mem_append.mp ha with ha | ha
      · exact hG.above a ha
      · rw [List.mem_singleton.mp ha]; exact hSl
    · intro j b hj
      rcases Nat.lt_trichotomy j as.length with h1 | h1 | h1
      · rw [List.getElem?_append_left h1] at hj
        obtain ⟨t, x, hj', e3⟩ := hG.pairs j b hj
        have hb := hG.above b (List.mem_of_getElem? hj)
        exact ⟨t, x, hj', up b _ (Nat.ne_of_gt hb) (hkp b _ (Nat.ne_of_gt (Nat.lt_trans hSe hb)) (Nat.ne_of_gt (Nat.lt_trans hSi hb)) e3)⟩
      · subst h1
        have hb : h.objs.size = b := by simpa using hj
        subst hb
        subst hal
        exact ⟨_, _, Array.getElem?_eq_getElem hlt, up _ _ (Nat.ne_of_gt hSl) ht⟩
      · have hnone : (as ++ [h.objs.size])[j]? = none := List.getElem?_eq_none (by rw [List.length_append, List.length_singleton]; omega)
        rw [hnone] at hj; cases hj
end
section
variable {prog : Program} {w : World} {A : Around} {E : Value → Shared → Prop} {s : Shared} {e it l : Addr} {es : Array Value}
theorem en_extend {R : Result → Shared → Prop} (hh : A.handled = none) (S : Addr) (hSe : e < S) (hSi : it < S) (hei : e ≠ it) (hlS : l ≠ S) (hle : l ≠ e) (hli : l ≠ it) (st : EnSt s.heap e it l S es 0) (hif : ∃ old, IsEnum s.heap e it 0 old) (res : Value) (c₀ : Nat) (hS : s.heap.get? S = some { cls := .type "list", data := .seq #[] c₀ })
    (hR : ∀ h' tk acc c as, (∀ b o, b ≠ S → b ≠ e → b ≠ it → s.heap.get? b = some o → h'.get? b = some o) → h'.get? S = some { cls := .type "list", dict := none, data := .seq acc c, slots := #[] } → as.length = es.size → EnG es S h' as →
      acc.toList = as.map Value.ref → R (.ok (.ret res)) { s with heap := h', toks := tk }) (hn : es.size ≤ sizeLine) :
    wpAny (model prog w) A.in1 (Builtin.List.listExtendWith (.ref S) (.ref e) res)
      (fun fin s' => match fin with | .done f => R (.ok f) s' | .again c' => c'.quiet = true ∧ codeAny (model prog w) A c' R s') (fun e s' => R (.error e) s') s := by
  have key : ∀ (h : Heap) (c₁ tk : Nat), (∀ b o, b ≠ S → s.heap.get? b = some o → h.get? b = some o) →
      h.get? S = some { cls := .type "list", data := .seq #[] c₁ } → codeAny (model prog w) A (.builtin "list.extend.loop" ⟨[.ref S, .ref e, res], []⟩) R { s with heap := h, toks := tk } := by
    intro h c₁ tk hk hS₁
    exact en_loop (es := es) (s := s) (h₁ := s.heap) hh hSe hSi hei hlS hle hli hn res hR
      es.size 0 h tk c₁ #[] [] (Nat.sub_zero _) (Nat.zero_le _) (st.keep hk (Nat.ne_of_lt hSe) (Nat.ne_of_lt hSi) hlS) (fun b o hb _ _ x => hk b o hb x) hS₁ rfl rfl
      ⟨List.Pairwise.nil, (fun _ ha => nomatch ha), (fun j a hj => by simp at hj)⟩
  obtain ⟨old, he⟩ := hif
  have hT := st.typeIs
  unfold Builtin.List.listExtendWith
  refine wpAny_bind (wpAny_typeOf (T := "enumerate") hT ?_)
  have h1 : Builtin.List.listSameRef (.ref S) (.ref e) = false := by simp [Builtin.List.listSameRef, Nat.ne_of_gt hSe]
  have h2 : (Value.type "enumerate" == Value.type "list") = false := by decide
  have h3 : (Value.type "enumerate" == Value.type "tuple") = false := by decide
  simp only [h1, h2, h3, Bool.or_false, Bool.false_eq_true, if_false]
  refine wpAny_bind (wpAny_pyIter_enum he ?_)
  refine wpAny_bind (wpAny_holding ?_)
  unfold Builtin.List.listLengthHint
  refine wpAny_bind (wpAny_specialOf hT en_no_len ?_)
  show wpAny _ A.in1 (specialOf (Value.ref e) (Str.ofString "__length_hint__") >>= _) _ _ _
  refine wpAny_bind (wpAny_specialOf hT en_no_hint ?_)
  refine wpAny_pure ?_
  refine wpAny_ite_split (fun _ => ?_) (fun _ => wpAny_pure ⟨plainId_quiet PySem.F.plain_extend_loop _, key _ c₀ _ (fun b o _ e => e) hS⟩)
  refine wpAny_bind (wpAny_rule ?_)
  refine wpAny_bind ?_
  show wpAny _ _ (updateSeq S (·.push .none) >>= fun _ => updateSeq S (·.pop)) _ _ _
  refine wpAny_bind (wpAny_updateSeq hS rfl ?_)
  have hS₂ := Heap.get?_update_self (Obj.mapSeq (·.push Value.none)) hS rfl
  refine wpAny_updateSeq (hz := by seq_fits) hS₂ rfl ?_
  have hS₃ := Heap.get?_update_self (Obj.mapSeq (·.pop)) hS₂ rfl
  refine wpAny_pure ⟨plainId_quiet PySem.F.plain_extend_loop _, key _ _ _ (fun b o hb e => ?_) hS₃⟩
  exact (Heap.get?_update_other _ _ (Ne.symm hb)).trans ((Heap.get?_update_other _ _ (Ne.symm hb)).trans e)
theorem en_call {Q : Value → Shared → Prop} (hh : A.handled = none) (hei : e ≠ it) (hle : l ≠ e) (hli : l ≠ it) (hen : ∃ old, IsEnum s.heap e it 0 old) (hit : s.heap.IsListIter it l 0) (hl : s.heap.IsList l es) (hn : es.size ≤ sizeLine)
    (hQ : ∀ h' tk acc c as, (∀ b o, b ≠ e → b ≠ it → s.heap.get? b = some o → h'.get? b = some o) → h'.get? s.heap.objs.size = some { cls := .type "list", dict := none, data := .seq acc c, slots := #[] } → as.length = es.size → EnG es s.heap.objs.size h' as →
      acc.toList = as.map Value.ref → Q (.ref s.heap.objs.size) { s with heap := h', toks := tk }) :
    wpAny (model prog w) A (call (.type "list") [.ref e]) Q E s := by
  refine callType_codes (Q₁ := fun obj s₁ => obj = .ref s.heap.objs.size ∧ s₁ = { s with heap := s.heap.push { cls := .type "list", data := .seq #[] } }) PySem.F.called_list (PySem.F.typeCall_list_1 _) PySem.F.entry_list_init
    (code_list_new _ ⟨rfl, rfl⟩) fun obj s₁ h₁ => ?_
  obtain ⟨rfl, rfl⟩ := h₁
  have hS : (s.heap.push { cls := .type "list", data := .seq #[] }).get? s.heap.objs.size = some { cls := .type "list", data := .seq #[] } := Heap.get?_push_size _ rfl
  obtain ⟨old, he⟩ := hen
  have lte : e < s.heap.objs.size := Heap.lt_size he
  have lti : it < s.heap.objs.size := let ⟨_, x, _⟩ := hit; Heap.lt_size x
  have ltl : l < s.heap.objs.size := let ⟨_, x, _⟩ := hl; Heap.lt_size x
  have pu : ∀ b o, s.heap.get? b = some o → (s.heap.push { cls := .type "list", data := .seq #[] }).get? b = some o := fun b o x => Heap.get?_push_of_some _ x
  refine ⟨⟨_, hS, rfl⟩, PySem.F.args_list_init_2 _ _, ?_⟩
  show wpAny _ _ (do let old ← Builtin.List.listItems (.ref s.heap.objs.size); Builtin.List.listUpdate (.ref s.heap.objs.size) (fun _ => #[]); letGo old.toList.reverse; Builtin.List.listExtendWith (.ref s.heap.objs.size) (.ref e) .none) _ _ _
  refine wpAny_bind ?_
  unfold Builtin.List.listItems
  refine wpAny_bind (wpAny_seqItems hS rfl (wpAny_pure ?_))
  show wpAny _ _ (updateSeq s.heap.objs.size (fun _ => #[]) >>= fun _ => letGo (#[] : Array Value).toList.reverse >>= fun _ => Builtin.List.listExtendWith (.ref s.heap.objs.size) (.ref e) .none) _ _ _
  refine wpAny_bind (wpAny_updateSeq hS rfl ?_)
  have hS₂ := Heap.get?_update_self (Obj.mapSeq (fun _ => (#[] : Array Value))) hS rfl
  have oth : ∀ b o, b ≠ s.heap.objs.size → s.heap.get? b = some o → ((s.heap.push { cls := .type "list", data := .seq #[] }).update s.heap.objs.size (Obj.mapSeq (fun _ => (#[] : Array Value)))).get? b = some o :=
    fun b o hb x => (Heap.get?_update_other _ _ (Ne.symm hb)).trans (pu b o x)
  refine wpAny_bind (wpAny_letGo ?_)
  have he2 := oth e _ (Nat.ne_of_lt lte) he
  refine en_extend (es := es) (l := l) (it := it) (A := A.in1) hh _ lte lti hei (Nat.ne_of_lt ltl) hle hli ⟨hit.at fun o x => oth _ o (Nat.ne_of_lt lti) x, hl.at fun o x => oth _ o (Nat.ne_of_lt ltl) x, .inl ⟨old, he2⟩⟩ ⟨old, he2⟩ .none _ hS₂ (fun h' tk acc c as hk hS' hl hG hacc => ?_) hn
  exact ⟨rfl, hQ h' tk acc c as (fun b o h1 h2 x => hk b o (Nat.ne_of_lt (Heap.lt_size x)) h1 h2 (oth b o (Nat.ne_of_lt (Heap.lt_size x)) x)) hS' hl hG hacc⟩
end
end U
namespace U
open PySem PySem.Spec PyProof.Rows L2 LiI
/-- the items with their places -/
def enK (xs : List V) : List (Key × V) := xs.zipIdx.map fun p => (Sum.inl ((p.2 : Nat) : Int), p.1)
theorem enK_len (xs : List V) : (enK xs).length = xs.length := by simp [enK]
theorem enK_get {xs : List V} {j : Nat} {q : Key × V} (h : (enK xs)[j]? = some q) : ∃ x, xs[j]? = some x ∧ q = (Sum.inl ((j : Nat) : Int), x) := by
  unfold enK at h
  rw [List.getElem?_map, List.getElem?_zipIdx] at h
  cases e : xs[j]? with
  | none => rw [e] at h; cases h
  | some x =>
    rw [e] at h
    refine ⟨x, rfl, ?_⟩
    have := Option.some.inj h
    rw [← this]
    simp
section
variable {X : Cx} {e : Expr} {te : TE} {p apos cpos pos : Pos}
theorem enums_laid {pins : List (Addr × Obj)} {σ : L2.St} {H : Hp} {s : Shared} {h' : Heap} {tk : Nat} {xs : List V} {its : List Value} {acc : Array Value} {c : Nat} {as : List Addr} {S : Addr} (I : Inv X pins σ H s) (hz : xs.length ≤ sizeLine) (rv : Vals xs its) (hSg : s.heap.objs.size ≤ S)
    (hk : ∀ b o, s.heap.get? b = some o → h'.get? b = some o) (hS : h'.get? S = some { cls := .type "list", dict := none, data := .seq acc c, slots := #[] }) (hl : as.length = its.length) (hG : EnG its.toArray S h' as) (hacc : acc.toList = as.map Value.ref) :
    ∃ H' : Hp, (∀ b o, H b = some o → H' b = some o) ∧ H S = none ∧ (∀ t ∈ as, H t = none) ∧ S ∉ as ∧ H' S = some (.lst (as.map V.ref)) ∧ Paired (fun (t : Addr) (q : Key × V) => H' t = some (.tup [kV q.1, q.2])) as (enK xs) ∧ Inv X pins σ H' { s with heap := h', toks := tk } := by
  have lk : xs.length = its.length := rv.length
  have lk2 := enK_len xs
  have hSn : S ∉ as := fun z => Nat.lt_irrefl _ (hG.above _ z)
  have nd : as.Nodup := List.Pairwise.imp (fun {a b} (h : a < b) => Nat.ne_of_lt h) hG.rise
  have new : ∀ t ∈ as, H t = none := fun t ht => I.hok.fresh (Nat.le_of_lt (Nat.lt_of_le_of_lt hSg (hG.above t ht)))
  have newS : H S = none := I.hok.fresh hSg
  have atP := putT_at as (enK xs) (upd H S (.lst (as.map V.ref))) (by omega) nd
  have off : ∀ b, b ∉ as → b ≠ S → putT (upd H S (.lst (as.map V.ref))) as (enK xs) b = H b := fun b h1 h2 => by rw [putT_off as (enK xs) _ h1, upd_ne h2]
  have low : ∀ b o, s.heap.get? b = some o → b ∉ as ∧ b ≠ S := fun b o e => ⟨fun z => absurd (Heap.lt_size e) (Nat.not_lt.mpr (Nat.le_of_lt (Nat.lt_of_le_of_lt hSg (hG.above b z)))), Nat.ne_of_lt (Nat.lt_of_lt_of_le (Heap.lt_size e) hSg)⟩
  have kp : ∀ b u, H b = some u → (putT (upd H S (.lst (as.map V.ref))) as (enK xs)) b = some u := fun b u e => by
    rw [off b (fun z => by rw [new b z] at e; cases e) (fun z => by rw [z, newS] at e; cases e)]
    exact e
  have eS : putT (upd H S (.lst (as.map V.ref))) as (enK xs) S = some (.lst (as.map V.ref)) := by rw [putT_off as (enK xs) _ hSn, upd_same]
  refine ⟨putT (upd H S (.lst (as.map V.ref))) as (enK xs), kp, newS, new, hSn, eS, atP, ?_⟩
  refine I.call' (ch := []) rfl ⟨fun b o q _ _ _ => hk b o q, fun b o q _ _ _ => ⟨o.slots, hk b o q⟩, fun b o q n _ => ?_, fun b o q _ => ⟨o, hk b o q⟩, fun b xs q => kp b _ q, fun b o u q => kp b _ q, fun b ps q => ⟨#[], by rw [kp b _ q]; simp⟩⟩ (fun b u q => ?_) I.bare fun b z => by simp at z
  · obtain ⟨z1, z2⟩ := low b o q
    rw [off b z1 z2]
    exact n
  · by_cases hb : b ∈ as
    · obtain ⟨j, pk, e1, e2, e3⟩ := paired_ix atP hb
      rw [e3] at q
      cases q
      obtain ⟨t, x, f1, f3⟩ := hG.pairs j b e1
      obtain ⟨y, g1, rfl⟩ := enK_get e2
      obtain ⟨u, g2, g3⟩ := rv.get g1
      have f1' : its[j]? = some x := by simpa using f1
      rw [f1'] at g2
      cases g2
      exact ⟨by show 2 ≤ sizeLine; decide, [.int (j : Nat) t, x], .cons ⟨_, rfl⟩ (.cons g3 .nil), ⟨_, f3, rfl, _, rfl⟩⟩
    · by_cases hb2 : b = S
      · rw [hb2] at q ⊢
        rw [eS] at q
        cases q
        refine ⟨by rw [List.length_map]; omega, acc.toList, c, by rw [hacc]; exact LiI.vals_refs as, ?_⟩
        rw [Array.toArray_toList]
        exact hS
      · rw [off b hb hb2] at q
        exact (I.hok b u q).stay (fun d v _ y => hk d v y) (fun d y => kp d _ y) fun d xs y => kp d _ y
def rLEnum (K : PySem.W.Frag) : List V → Hp → VK → Prop := fun vs H Q => ∃ (l : Addr) (xs : List V), vs = [.ref l] ∧ SqL K H l xs ∧
  ∀ (H' : Hp) (p : Addr) (ts : List Addr), Same H H' → H p = none → (∀ t ∈ ts, H t = none) → p ∉ ts → H' p = some (.lst (ts.map V.ref)) → Paired (fun (t : Addr) (q : Key × V) => H' t = some (.tup [kV q.1, q.2])) ts (enK xs) → Q (.ref p) H'
def tLEnum (K : PySem.W.Frag) (ta : TA) : TE := fun σ H Q => ta σ H fun vs H1 => rLEnum K vs H1 Q
theorem pe_listEnum {X : Cx} {e : Expr} {ta : TA} {p p2 cpos pos : Pos} (hcalm : X.calm = true) (ha : PA X [e] ta) (hg : Gl X "list") (hm : X.mg "list" = none) (hv : bootBuiltins "list" = some (.type "list")) (hg2 : Gl X "enumerate") (hm2 : X.mg "enumerate" = none)
    (hs : starEach [.Call (.Name "enumerate" p2) [e] [] cpos] X.env = (false, eval (.Call (.Name "enumerate" p2) [e] [] cpos) X.env) :: starEach [] X.env := by rfl)
    (hs2 : starEach [e] X.env = [(false, eval e X.env)] := by rfl) :
    PE X (.Call (.Name "list" p) [.Call (.Name "enumerate" p2) [e] [] cpos] [] pos) (tLEnum X.K ta) := by
  refine ⟨fun pins s σ H Q I hq => wpAny_Call_Name_kw (ld_blt I hg hm hv (PyProof.Rows.callWith_type1 ?_ hs rfl))⟩
  rw [hs]
  show wpAny _ _ (spliced ((false, eval (.Call (.Name "enumerate" p2) [e] [] cpos) X.env) :: backTo pos (starEach [] X.env))) _ _ s
  refine Calls.spliced_cons ?_
  refine wpAny_Call_Name_kw (ld_blt I hg2 hm2 boot_enumerate (PyProof.Rows.callWith_type1 (thn (ha.run cpos pins s σ H _ I hq) fun us s1 ⟨vs, H1, I1, r1, l, xs, ex, hxs, q⟩ => ?_) hs2 rfl))
  subst ex
  cases r1 with
  | cons r rr =>
    cases rr
    cases r
    obtain ⟨its, rv, p', hz⟩ := I1.list hxs
    have llt : l < s1.heap.objs.size := let ⟨_, x, _⟩ := p'.isList; Heap.lt_size x
    refine call_enumerate_list p'.isList fun h0 he hit hsz hk0 => ?_
    refine Calls.spliced_nil ?_
    refine en_call (s := { s1 with heap := h0 }) (l := l) (it := s1.heap.objs.size) (es := its.toArray) (I1.ok.hd hcalm) (Nat.succ_ne_self _) (Nat.ne_of_lt (Nat.lt_succ_of_lt llt)) (Nat.ne_of_lt llt) ⟨_, he⟩ hit (p'.isList.at fun o x => hk0 l o x) (by rw [List.size_toArray, ← rv.length]; exact hz) fun h' tk acc c as hk hS hl hG hacc => ?_
    obtain ⟨H', k1, k2, k3, k4, k5, k6, J⟩ := enums_laid (tk := tk) I1 hz rv (show s1.heap.objs.size ≤ h0.objs.size by rw [hsz]; exact Nat.le_add_right _ _) (fun b o x => hk b o (Nat.ne_of_lt (Nat.lt_succ_of_lt (Heap.lt_size x))) (Nat.ne_of_lt (Heap.lt_size x)) (hk0 b o x)) hS (by rw [hl, List.size_toArray]) hG hacc
    exact ⟨.ref _, H', J, rfl, q H' _ as k1 k2 k3 k4 k5 k6⟩
end
end U
set_option maxHeartbeats 1000000
namespace My
open PySem L2 U StX PM
theorem kvI_zipI (as bs : List Int) : (as.map (Sum.inl : Int → Key)).zip (bs.map V.int) = kvI (as.zip bs) := by
  unfold kvI
  rw [List.zip_map]
  rfl
theorem map_kVI (as : List Int) : (as.map (Sum.inl : Int → Key)).map kV = as.map V.int := by
  rw [List.map_map]
  rfl
theorem merge_new : ∀ (r l : List (Int × Int)), ((l ++ r).map (·.1)).Nodup → mergeK (kvI l) (kvI r) = kvI (l ++ r)
  | [], l, _ => by rw [List.append_nil]; rfl
  | (x, y) :: r, l, nd => by
    have e : l ++ (x, y) :: r = (l ++ [(x, y)]) ++ r := by simp
    have hx : x ∉ l.map (·.1) := by
      rw [List.map_append, List.map_cons] at nd
      have := (List.nodup_append.mp nd).2.2
      intro h
      exact this x h x List.mem_cons_self rfl
    show mergeK (putK (kvI l) (Sum.inl x) (V.int y)) (kvI r) = _
    rw [putK_kvI hx, e]
    rw [e] at nd
    exact merge_new r (l ++ [(x, y)]) nd
theorem merge_nil {m : List (Int × Int)} (nd : (m.map (·.1)).Nodup) : mergeK [] (kvI m) = kvI m := merge_new m [] nd
end My
set_option maxHeartbeats 1000000
namespace My
open PySem L2 U StX PM
theorem nx_seq {a rest : TS} {D : Ends} {σ : L2.St} {H : Hp} (h : a { D with nx := rest D } σ H) : tSeq a rest D σ H := h
theorem op_of {r : R2} {ta tb : TE} {σ : L2.St} {H : Hp} {Q : VK} (h : ta σ H fun x H1 => tb σ H1 fun y H2 => r x y H2 Q) : tOp r ta tb σ H Q := h
theorem ret_of {t : TE} {D : Ends} {σ : L2.St} {H : Hp} (h : t σ H D.rt) : tRet t D σ H := h
theorem nx_of {X : L2.St → Hp → Prop} {r : VK} {b c : L2.St → Hp → Prop} {σ : L2.St} {H : Hp} (h : X σ H) : Ends.nx { nx := X, rt := r, bk := b, ct := c } σ H := h
theorem cb_of {r : List V → Hp → VK → Prop} {t : TE} {σ : L2.St} {H : Hp} {Q : VK} (h : t σ H fun x H1 => r [x] H1 Q) : tCB r (tCons t tNil) σ H Q := h
theorem cons_of {t : TE} {σ : L2.St} {H : Hp} {Q : List V → Hp → Prop} (h : t σ H fun x H1 => Q [x] H1) : tCons t tNil σ H Q := h
def toI : V → Int | .int i => i | _ => 0
theorem toI_map (r : List Int) : (r.map V.int).map toI = r := by
  rw [List.map_map]
  exact List.map_id' r
noncomputable def rowOf (H : Hp) (a : Addr) : List Int := match H a with | some (.lst xs) => xs.map toI | _ => []
theorem rowOf_eq {H : Hp} {a : Addr} {r : List Int} (h : H a = some (.lst (r.map V.int))) : rowOf H a = r := by
  unfold rowOf
  rw [h]
  exact toI_map r
theorem RowsAt.rowOf {H : Hp} : ∀ {as : List Addr} {G : List (List Int)}, RowsAt H as G → G = as.map (My.rowOf H)
  | [], [], _ => rfl
  | _ :: _, _ :: _, h => by rw [List.map_cons, rowOf_eq h.1, ← RowsAt.rowOf h.2]
  | [], _ :: _, h => h.elim
  | _ :: _, [], h => h.elim
theorem rowsAt_of {H : Hp} : ∀ {as : List Addr}, (∀ a ∈ as, ∃ r : List Int, H a = some (.lst (r.map V.int))) → RowsAt H as (as.map (My.rowOf H))
  | [], _ => trivial
  | a :: as, h => by
    obtain ⟨r, e⟩ := h a List.mem_cons_self
    refine ⟨by rw [rowOf_eq e]; exact e, rowsAt_of fun b hb => h b (List.mem_cons_of_mem _ hb)⟩
theorem rowsAt_iff {H : Hp} {as : List Addr} {G : List (List Int)} (h : RowsAt H as G) : ∀ a ∈ as, ∃ r : List Int, H a = some (.lst (r.map V.int)) := fun a ha => by
  obtain ⟨r, _, e⟩ := h.mem ha
  exact ⟨r, e⟩
theorem byLen_perm (zs : List (Addr × Nat)) : (byLen zs).Perm zs := List.mergeSort_perm _ _
theorem byLen_so (zs : List (Addr × Nat)) : (byLen zs).Pairwise fun a b => a.2 ≤ b.2 := by
  have h := List.pairwise_mergeSort (le := fun a b : Addr × Nat => decide ((a.2 : Int) ≤ (b.2 : Int))) (fun a b c h1 h2 => by simp only [decide_eq_true_eq] at h1 h2 ⊢; omega) (fun a b => by simp only [Bool.or_eq_true, decide_eq_true_eq]; omega) zs
  exact h.imp fun {a b} h => by simpa using h
def spBL : Sp := fun vs H Q _ => ∃ (a : Addr) (as : List Addr) (G : List (List Int)), vs = [.ref a] ∧ H a = some (.lst (as.map V.ref)) ∧ RowsAt H as G ∧ as.length ≤ 1000 ∧
  ∀ p as' G' H', H p = none → H' p = some (.lst (as'.map V.ref)) → RowsAt H' as' G' → G'.Perm G → G'.Pairwise (fun x y => x.length ≤ y.length) → as'.length = as.length → Same H H' → Q (.ref p) H'
theorem RowsAt.zip {H : Hp} : ∀ {as : List Addr} {G : List (List Int)}, RowsAt H as G → ∃ zs : List (Addr × List Int), zs.map (·.1) = as ∧ zs.map (·.2) = G ∧ ∀ z ∈ zs, H z.1 = some (.lst (z.2.map V.int))
  | [], [], _ => ⟨[], rfl, rfl, fun z h => nomatch h⟩
  | a :: as, r :: G, h => by
    obtain ⟨zs, e1, e2, k⟩ := RowsAt.zip h.2
    refine ⟨(a, r) :: zs, by simp [e1], by simp [e2], fun z hz => ?_⟩
    rcases List.mem_cons.mp hz with rfl | hz
    · exact h.1
    · exact k z hz
  | [], _ :: _, h => h.elim
  | _ :: _, [], h => h.elim
section
variable {P : Program} {w : World} {K : PySem.W.Frag} {mg : Str → Option Value} {base : Heap}
set_option pp.maxSteps 3000 in
theorem ok_by_length (T : Txt K mg) : FnR P w K mg base CX0 2 T.f_by_length spBL := by
  refine T.A_by_length.ok sc_by_length (fun vs H Q E h => ?_) (fun cdv A outer s H vs Q E hr h => ?_)
  · obtain ⟨a, as, G, rfl, _⟩ := h
    rfl
  · obtain ⟨a, as, G, rfl, ha, hR, hl, q⟩ := h
    have hu := hu_of hr
    refine ⟨_, (pss_one (ps_ret (pe_sortLen (K := K) rfl hr.units (pv 0) rfl T.n_sorted rfl T.n_len))), ?_⟩
    obtain ⟨zs, ezs⟩ : ∃ zs : List (Addr × Nat), zs = as.map fun a => (a, (My.rowOf H a).length) := ⟨_, rfl⟩
    have hzl : zs.length = as.length := by rw [ezs, List.length_map]
    refine ⟨_, rfl, a, zs, rfl, by rw [ezs, List.map_map]; exact SqL.of ha, fun z hz => ?_, le_line (by omega), ?_⟩
    · rw [ezs] at hz
      obtain ⟨b, hb, rfl⟩ := List.mem_map.mp hz
      obtain ⟨r, e⟩ := rowsAt_iff hR b hb
      exact ⟨_, SqL.of e, by rw [List.length_map, rowOf_eq e]⟩
    · refine fun p n_p => ?_
      generalize g_p : L2.upd _ p _ = H1
      obtain ⟨s_H1, e_p⟩ := U.upd_facts g_p n_p
      clear g_p
      have pm := byLen_perm zs
      have hin : ∀ z ∈ byLen zs, z.1 ∈ as ∧ z.2 = (My.rowOf H z.1).length := fun z hz => by
        have := pm.mem_iff.mp hz
        rw [ezs] at this
        obtain ⟨b, hb, rfl⟩ := List.mem_map.mp this
        exact ⟨hb, rfl⟩
      have hperm : ((byLen zs).map (·.1)).Perm as := by
        have := pm.map (·.1)
        rw [ezs, List.map_map] at this
        rw [ezs]
        exact this.trans (by rw [show ((fun z : Addr × Nat => z.1) ∘ fun a => (a, (My.rowOf H a).length)) = id from rfl, List.map_id])
      have hR1 : RowsAt H ((byLen zs).map (·.1)) (((byLen zs).map (·.1)).map (My.rowOf H)) := rowsAt_of fun b hb => rowsAt_iff hR b (hperm.mem_iff.mp hb)
      refine q p ((byLen zs).map (·.1)) _ H1 n_p ?_ (hR1.same s_H1) ?_ ?_ (by rw [List.length_map, pm.length_eq, hzl]) s_H1
      · rw [e_p, List.map_map]; rfl
      · rw [hR.rowOf]
        exact hperm.map _
      · rw [List.map_map, List.pairwise_map]
        exact (byLen_so zs).imp_of_mem fun {x y} hx hy h => by
          show (My.rowOf H x.1).length ≤ (My.rowOf H y.1).length
          rw [← (hin x hx).2, ← (hin y hy).2]
          exact h
set_option pp.maxSteps 3000 in
end
end My
set_option maxHeartbeats 1000000
namespace My
open PySem L2 U StX PM
/-! ### renamings: the plain law -/
/-- the pairs of rows of the same lengths -/
def prL (A B : List (List Int)) : List (Int × Int) := ((A.zip B).map fun p => p.1.zip p.2).flatten
theorem prL_cons (a b : List Int) (A B : List (List Int)) : prL (a :: A) (b :: B) = a.zip b ++ prL A B := by
  unfold prL
  rw [List.zip_cons_cons, List.map_cons, List.flatten_cons]
theorem prL_keys : ∀ {A B : List (List Int)}, A.map (·.length) = B.map (·.length) → (prL A B).map (·.1) = A.flatten
  | [], [], _ => rfl
  | a :: A, b :: B, h => by
    have h' := List.cons.inj h
    have h9 : a.length = b.length := h'.1
    rw [prL_cons, List.map_append, prL_keys h'.2, List.map_fst_zip (Nat.le_of_eq h9), List.flatten_cons]
  | [], _ :: _, h => nomatch h
  | _ :: _, [], h => nomatch h
theorem prL_vals : ∀ {A B : List (List Int)}, A.map (·.length) = B.map (·.length) → (prL A B).map (·.2) = B.flatten
  | [], [], _ => rfl
  | a :: A, b :: B, h => by
    have h' := List.cons.inj h
    have h9 : a.length = b.length := h'.1
    rw [prL_cons, List.map_append, prL_vals h'.2, List.map_snd_zip (Nat.le_of_eq h9.symm), List.flatten_cons]
  | [], _ :: _, h => nomatch h
  | _ :: _, [], h => nomatch h
theorem prL_at : ∀ {A B : List (List Int)} {i t : Nat} {a b : List Int} {x y : Int}, A[i]? = some a → B[i]? = some b → a[t]? = some x → b[t]? = some y → (x, y) ∈ prL A B
  | [], _, i, t, a, b, x, y, h, _, _, _ => by simp at h
  | _ :: _, [], i, t, a, b, x, y, _, h, _, _ => by simp at h
  | a' :: A, b' :: B, 0, t, a, b, x, y, h1, h2, h3, h4 => by
    cases h1
    cases h2
    rw [prL_cons]
    refine List.mem_append.mpr (.inl (List.mem_iff_getElem?.mpr ⟨t, ?_⟩))
    rw [List.getElem?_zip_eq_some]
    exact ⟨h3, h4⟩
  | a' :: A, b' :: B, i + 1, t, a, b, x, y, h1, h2, h3, h4 => by
    rw [prL_cons]
    exact List.mem_append.mpr (.inr (prL_at (i := i) h1 h2 h3 h4))
/-- lists that hold the same lengths and are sorted by them have equal lengths -/
theorem so_eq {A B : List Nat} (h : A.Perm B) (a : A.Pairwise (· ≤ ·)) (b : B.Pairwise (· ≤ ·)) : A = B := h.eq_of_pairwise (fun x y _ _ h1 h2 => Nat.le_antisymm h1 h2) a b
theorem cnt_perm_of {A B : List Nat} (h : ∀ x : Int, cN A x = cN B x) : A.Perm B := by
  rw [List.perm_iff_count]
  intro x
  have := h (x : Int)
  unfold cN at this
  rw [← List.countP_eq_length_filter, ← List.countP_eq_length_filter] at this
  rw [List.count_eq_countP, List.count_eq_countP]
  have e : ∀ l : List Nat, l.countP (fun L => L == x) = l.countP fun L : Nat => decide ((L : Int) = (x : Int)) := fun l => by
    congr 1
    funext L
    rw [Bool.eq_iff_iff, beq_iff_eq, decide_eq_true_eq]
    exact ⟨fun e => by rw [e], fun e => by omega⟩
  rw [e, e]
  exact this
theorem cN_of_cnt {A B : List Nat} (h : cnt A = cnt B) (x : Int) : cN A x = cN B x := by
  have e := congrFun h x
  have a := cnt_get A x
  have b := cnt_get B x
  rw [e, b] at a
  omega
/-- rows of f on rows of g, both sorted by lengths -/
structure RowsOn (n : Int) (f g : PF) (CA CB HA HB : List (List Int)) : Prop where
  ca : CA.Perm ((cycS n f).map (rowN f))
  cb : CB.Perm ((cycS n g).map (rowN g))
  ha : HA.Perm ((nons n f).map (rowN f))
  hb : HB.Perm ((nons n g).map (rowN g))
  cl : CA.map (·.length) = CB.map (·.length)
  hl : HA.map (·.length) = HB.map (·.length)
theorem row_mem {n : Int} {f : PF} {A : List (List Int)} {s : List Int} (h : A.Perm (s.map (rowN f))) {e : Int} (he : e ∈ s) : ∃ i : Nat, A[i]? = some (rowN f e) := List.getElem?_of_mem (h.mem_iff.mpr (List.mem_map.mpr ⟨e, he, rfl⟩))
theorem row_at {f : PF} {A : List (List Int)} {s : List Int} (h : A.Perm (s.map (rowN f))) {i : Nat} {a : List Int} (e : A[i]? = some a) : ∃ c ∈ s, rowN f c = a := by
  obtain ⟨c, hc, rfl⟩ := List.mem_map.mp (h.mem_iff.mp (List.mem_of_getElem? e))
  exact ⟨c, hc, rfl⟩
def renL (CA CB HA HB : List (List Int)) : List (Int × Int) := prL CA CB ++ prL HA HB
theorem len_at {A B : List (List Int)} (h : A.map (·.length) = B.map (·.length)) {i : Nat} {a : List Int} (e : A[i]? = some a) : ∃ b, B[i]? = some b ∧ b.length = a.length := by
  have h1 : (B.map (·.length))[i]? = some a.length := by rw [← h, List.getElem?_map, e]; rfl
  rw [List.getElem?_map] at h1
  obtain ⟨b, hb, hl⟩ := Option.map_eq_some_iff.mp h1
  exact ⟨b, hb, hl⟩
section
variable {n : Int} {f g : PF} {CA CB HA HB : List (List Int)}
theorem ren_keys (r : RowsOn n f g CA CB HA HB) : ((renL CA CB HA HB).map (·.1)).Perm (seenL f (cycS n f) ++ seenL f (nons n f)) := by
  unfold renL
  rw [List.map_append, prL_keys r.cl, prL_keys r.hl]
  exact (flat_perm r.ca).append (flat_perm r.ha)
theorem ren_vals (r : RowsOn n f g CA CB HA HB) : ((renL CA CB HA HB).map (·.2)).Perm (seenL g (cycS n g) ++ seenL g (nons n g)) := by
  unfold renL
  rw [List.map_append, prL_vals r.cl, prL_vals r.hl]
  exact (flat_perm r.cb).append (flat_perm r.hb)
theorem seen_dom (w : WF n f) {x : Int} (h : x ∈ seenL f (cycS n f) ++ seenL f (nons n f)) : 0 ≤ x ∧ x < n := by
  rcases List.mem_append.mp h with h | h
  · obtain ⟨e, he, hm⟩ := mem_seenL.mp h
    have hd' := cycS_dom he
    exact (rowN_is w hd'.1 hd'.2).dom w hd'.1 hd'.2 x hm
  · obtain ⟨e, he, hm⟩ := mem_seenL.mp h
    have hd' := nons_dom he
    exact (rowN_is w hd'.1 hd'.2.1).dom w hd'.1 hd'.2.1 x hm
theorem seen_all (w : WF n f) {x : Int} (h0 : 0 ≤ x) (h1 : x < n) : x ∈ seenL f (cycS n f) ++ seenL f (nons n f) := by
  obtain ⟨e, he, hm⟩ := cover w h0 h1
  rcases List.mem_append.mp he with he | he
  · exact List.mem_append.mpr (.inr (mem_seenL.mpr ⟨e, he, hm⟩))
  · exact List.mem_append.mpr (.inl (mem_seenL.mpr ⟨e, he, hm⟩))
theorem ren_di (w : WF n f) (r : RowsOn n f g CA CB HA HB) : DI (renL CA CB HA HB) (lk (renL CA CB HA HB)) := ⟨(ren_keys r).nodup_iff.mpr (all_nd w), fun _ => rfl⟩
theorem ren_wf (w : WF n f) (wg : WF n g) (r : RowsOn n f g CA CB HA HB) : WF n (lk (renL CA CB HA HB)) := by
  have di := ren_di w r
  have nv : ((renL CA CB HA HB).map (·.2)).Nodup := (ren_vals r).nodup_iff.mpr (all_nd wg)
  have hm : ∀ x y, lk (renL CA CB HA HB) x = some y → (x, y) ∈ renL CA CB HA HB := fun x y e => di.mem.mpr e
  refine ⟨fun x y e => ?_, fun x x' y e e' => ?_⟩
  · have h := hm x y e
    have h1 := seen_dom w ((ren_keys r).mem_iff.mp (List.mem_map.mpr ⟨_, h, rfl⟩))
    have h2 := seen_dom wg ((ren_vals r).mem_iff.mp (List.mem_map.mpr ⟨_, h, rfl⟩))
    exact ⟨h1.1, h1.2, h2.1, h2.2⟩
  · have h := hm x y e
    have h' := hm x' y e'
    obtain ⟨i, hi⟩ := List.getElem?_of_mem h
    obtain ⟨j, hj⟩ := List.getElem?_of_mem h'
    have e1 : ((renL CA CB HA HB).map (·.2))[i]? = some y := by rw [List.getElem?_map, hi]; rfl
    have e2 : ((renL CA CB HA HB).map (·.2))[j]? = some y := by rw [List.getElem?_map, hj]; rfl
    have hil := (List.getElem?_eq_some_iff.mp e1).1
    have : i = j := (List.getElem?_inj hil nv).mp (e1.trans e2.symm)
    subst this
    rw [hi] at hj
    cases hj
    rfl
theorem ren_full (w : WF n f) (r : RowsOn n f g CA CB HA HB) {x : Int} (h0 : 0 ≤ x) (h1 : x < n) : ∃ y, lk (renL CA CB HA HB) x = some y := by
  have hx := (ren_keys r).mem_iff.mpr (seen_all w h0 h1)
  obtain ⟨⟨a, y⟩, hp, rfl⟩ := List.mem_map.mp hx
  exact ⟨y, (ren_di w r).mem.mp hp⟩
theorem ren_onto (w : WF n f) (wg : WF n g) (r : RowsOn n f g CA CB HA HB) {y : Int} (h0 : 0 ≤ y) (h1 : y < n) : ∃ x, lk (renL CA CB HA HB) x = some y := by
  have hx := (ren_vals r).mem_iff.mpr (seen_all wg h0 h1)
  obtain ⟨⟨a, y'⟩, hp, rfl⟩ := List.mem_map.mp hx
  exact ⟨a, (ren_di w r).mem.mp hp⟩
/-- the renaming carries f to g -/
theorem ren_step (w : WF n f) (wg : WF n g) (r : RowsOn n f g CA CB HA HB) {x y : Int} (h : lk (renL CA CB HA HB) x = some y) : g y = (f x).bind (lk (renL CA CB HA HB)) := by
  have di := ren_di w r
  have hd := (ren_wf w wg r).dom _ _ h
  have f1 : f x = iter f 1 x := rfl
  have g1 : g y = iter g 1 y := rfl
  obtain ⟨e, he, hm⟩ := cover w hd.1 hd.2.1
  obtain ⟨t, ht⟩ := List.getElem?_of_mem hm
  have htl := (List.getElem?_eq_some_iff.mp ht).1
  rcases List.mem_append.mp he with he | he
  · obtain ⟨i, hi⟩ := row_mem (n := n) r.ha he
    obtain ⟨b, hb, hbl⟩ := len_at r.hl hi
    obtain ⟨c, hc, rfl⟩ := row_at r.hb hb
    have hy : (rowN g c)[t]? = some ((rowN g c)[t]'(by omega)) := List.getElem?_eq_getElem (by omega)
    have hxy : lk (renL CA CB HA HB) x = some ((rowN g c)[t]'(by omega)) := di.mem.mp (List.mem_append.mpr (.inr (prL_at hi hb ht hy)))
    rw [h] at hxy
    rw [← Option.some.inj hxy] at hy
    rw [f1, g1, chain_at w he ht, chain_at wg hc hy]
    cases e1 : (rowN f e)[t + 1]? with
    | none =>
      have : (rowN g c)[t + 1]? = none := List.getElem?_eq_none (by have := List.getElem?_eq_none_iff.mp e1; omega)
      rw [this]
      rfl
    | some x' =>
      have h2 := (List.getElem?_eq_some_iff.mp e1).1
      have e2 : (rowN g c)[t + 1]? = some ((rowN g c)[t + 1]'(by omega)) := List.getElem?_eq_getElem (by omega)
      rw [e2]
      exact (di.mem.mp (List.mem_append.mpr (.inr (prL_at hi hb e1 e2)))).symm
  · obtain ⟨i, hi⟩ := row_mem (n := n) r.ca he
    obtain ⟨b, hb, hbl⟩ := len_at r.cl hi
    obtain ⟨c, hc, rfl⟩ := row_at r.cb hb
    have hy : (rowN g c)[t]? = some ((rowN g c)[t]'(by omega)) := List.getElem?_eq_getElem (by omega)
    have hxy : lk (renL CA CB HA HB) x = some ((rowN g c)[t]'(by omega)) := di.mem.mp (List.mem_append.mpr (.inl (prL_at hi hb ht hy)))
    rw [h] at hxy
    rw [← Option.some.inj hxy] at hy
    rw [f1, g1, cycle_at w he ht, cycle_at wg hc hy, hbl]
    have hmod : (t + 1) % (rowN f e).length < (rowN f e).length := Nat.mod_lt _ (by omega)
    have e1 : (rowN f e)[(t + 1) % (rowN f e).length]? = some ((rowN f e)[(t + 1) % (rowN f e).length]'hmod) := List.getElem?_eq_getElem hmod
    have e2 : (rowN g c)[(t + 1) % (rowN f e).length]? = some ((rowN g c)[(t + 1) % (rowN f e).length]'(by omega)) := List.getElem?_eq_getElem (by omega)
    rw [e1, e2]
    exact (di.mem.mp (List.mem_append.mpr (.inl (prL_at hi hb e1 e2)))).symm
theorem ren_conj (w : WF n f) (wg : WF n g) (r : RowsOn n f g CA CB HA HB) : mul (mul (inv n (lk (renL CA CB HA HB))) f) (lk (renL CA CB HA HB)) = g := by
  have wr := ren_wf w wg r
  funext y
  show ((inv n (lk (renL CA CB HA HB)) y).bind f).bind (lk (renL CA CB HA HB)) = g y
  cases e : inv n (lk (renL CA CB HA HB)) y with
  | some x =>
    have hx := (inv_iff wr).mp e
    exact (ren_step w wg r hx).symm
  | none =>
    cases eg : g y with
    | none => rfl
    | some z =>
      have hd := wg.dom _ _ eg
      obtain ⟨x, hx⟩ := ren_onto w wg r hd.1 hd.2.1
      rw [(inv_iff wr).mpr hx] at e
      cases e
end
end My
set_option maxHeartbeats 1000000
namespace My
open PySem L2 U StX PM
theorem ip_mulW {X : Cx} : L2.PIp X .Mult (fun x y H Q => ∃ i j, x = .int i ∧ y = .int j ∧ CMulW i j ∧ Q (.int (i * j)) H) := by
  intro pins s σ H x y v u Q I r1 r2 h
  obtain ⟨i, j, e1, e2, hc, q⟩ := h
  subst e1; subst e2
  obtain ⟨t, rfl⟩ := r1
  obtain ⟨t', rfl⟩ := r2
  exact PyProof.Rows.imul_int ⟨.int _, H, I.tok _, ⟨_, rfl⟩, q⟩ hc.ok
theorem ten_lt {x : Int} (h0 : 0 ≤ x) (h : x ≤ 1000) : x.natAbs < 2 ^ 10 := by
  have : (2 : Nat) ^ 10 = 1024 := by decide
  omega
def factN : Nat → Nat
  | 0 => 1
  | k + 1 => factN k * (k + 1)
theorem factN_lt : ∀ k, k ≤ 500 → factN k < 2 ^ (9 * k + 1)
  | 0, _ => by decide
  | k + 1, h => by
    have ih := factN_lt k (by omega)
    show factN k * (k + 1) < _
    rw [show 9 * (k + 1) + 1 = (9 * k + 1) + 9 by omega, Nat.pow_add]
    exact Nat.mul_lt_mul'' ih (show _ < 512 by omega)
theorem pow_lt9 {b : Nat} (hb : b ≤ 500) : ∀ k, b ^ k < 2 ^ (9 * k + 1)
  | 0 => by rw [Nat.pow_zero]; decide
  | k + 1 => by
    have ih := pow_lt9 hb k
    rw [Nat.pow_succ, show 9 * (k + 1) + 1 = (9 * k + 1) + 9 by omega, Nat.pow_add]
    exact Nat.mul_lt_mul'' ih (show _ < 512 by omega)
def prd : List Nat → Nat
  | [] => 1
  | x :: r => x * prd r
theorem prd_app : ∀ (a b : List Nat), prd (a ++ b) = prd a * prd b
  | [], b => by show prd b = 1 * prd b; rw [Nat.one_mul]
  | x :: a, b => by show x * prd (a ++ b) = x * prd a * prd b; rw [prd_app a b, Nat.mul_assoc]
theorem prd_perm {a b : List Nat} (h : a.Perm b) : prd a = prd b := by
  induction h with
  | nil => rfl
  | cons x _ ih => show x * _ = x * _; rw [ih]
  | swap x y l => show y * (x * _) = x * (y * _); rw [Nat.mul_left_comm]
  | trans _ _ h1 h2 => exact h1.trans h2
theorem prd_lt {B : Nat} : ∀ {l : List Nat}, (∀ x ∈ l, x < 2 ^ B) → prd l < 2 ^ (B * l.length + 1)
  | [], _ => by show 1 < _; rw [List.length_nil, Nat.mul_zero]; decide
  | x :: l, h => by
    show x * prd l < _
    rw [List.length_cons, show B * (l.length + 1) + 1 = B + (B * l.length + 1) by rw [Nat.mul_add]; omega, Nat.pow_add]
    exact Nat.mul_lt_mul'' (h x List.mem_cons_self) (prd_lt fun y hy => h y (List.mem_cons_of_mem _ hy))
theorem nat_abs_lt {a B : Nat} (h : a < 2 ^ B) : ((a : Nat) : Int).natAbs < 2 ^ B := by rw [Int.natAbs_natCast]; exact h
/-- the factors of the number of symmetries -/
def cyT (p : Int × Int) : Nat := p.1.toNat ^ p.2.toNat * factN p.2.toNat
def chT (p : Int × Int) : Nat := factN p.2.toNat
def symN (cs hs : List (Int × Int)) : Nat := prd (cs.map cyT) * prd (hs.map chT)
def K4 (l : List (Int × Int)) : Prop := l.length ≤ 40 ∧ ∀ p ∈ l, 1 ≤ p.1 ∧ p.1 ≤ 40 ∧ 0 ≤ p.2 ∧ p.2 ≤ 40
theorem cyT_lt {p : Int × Int} (h : 1 ≤ p.1 ∧ p.1 ≤ 40 ∧ 0 ≤ p.2 ∧ p.2 ≤ 40) : cyT p < 2 ^ 800 := by
  unfold cyT
  have a := pow_lt9 (b := p.1.toNat) (by omega) p.2.toNat
  have b := factN_lt p.2.toNat (by omega)
  refine Nat.lt_of_lt_of_le (Nat.mul_lt_mul'' a b) ?_
  rw [← Nat.pow_add]
  exact Nat.pow_le_pow_right (by decide) (by omega)
theorem chT_lt {p : Int × Int} (h : 1 ≤ p.1 ∧ p.1 ≤ 40 ∧ 0 ≤ p.2 ∧ p.2 ≤ 40) : chT p < 2 ^ 800 := by
  unfold chT
  refine Nat.lt_of_lt_of_le (factN_lt p.2.toNat (by omega)) ?_
  exact Nat.pow_le_pow_right (by decide) (by omega)
def spFac : Sp := fun vs H Q _ => ∃ k : Nat, vs = [.int (k : Int)] ∧ k ≤ 300 ∧ Q (.int ((factN k : Nat) : Int)) H
def spPwo : Sp := fun vs H Q _ => ∃ b k : Nat, vs = [.int (b : Int), .int (k : Int)] ∧ b ≤ 300 ∧ k ≤ 300 ∧ Q (.int ((b ^ k : Nat) : Int)) H
def spSym (C : Addr) : Sp := fun vs H Q _ => ∃ (s : Addr) (cs hs : List (Int × Int)), vs = [.ref s] ∧ IsShape C H s cs hs ∧ K4 cs ∧ K4 hs ∧ ∀ H', Same H H' → Q (.int ((symN cs hs : Nat) : Int)) H'
def spShE2 (C : Addr) : Sp := fun vs H Q _ => ∃ (a b : Addr) (cs hs cs' hs' : List (Int × Int)), vs = [.ref a, .ref b] ∧ IsShape C H a cs hs ∧ IsShape C H b cs' hs' ∧ Q (.bl (dEq (kvI cs) (kvI cs') && dEq (kvI hs) (kvI hs'))) H
def Alike (n : Int) (f : PF) (n' : Int) (g : PF) : Prop := n = n' ∧ cnt (lens f (cycS n f)) = cnt (lens g (cycS n' g)) ∧ cnt (lens f (nons n f)) = cnt (lens g (nons n' g))
def spAlk (C : Addr) : Sp := fun vs H Q _ => ∃ (a b : Addr) (n n' : Int) (f g : PF), vs = [.ref a, .ref b] ∧ IsMap C H a n f ∧ IsMap C H b n' g ∧ ∀ (c : Bool) (H' : Hp), Same H H' → (c = true ↔ Alike n f n' g) → Q (.bl c) H'
def spCntR (C : Addr) : Sp := fun vs H Q _ => ∃ (a b : Addr) (n n' : Int) (f g : PF), vs = [.ref a, .ref b] ∧ IsMap C H a n f ∧ IsMap C H b n' g ∧ n ≤ 40 ∧ ∀ (z : Nat) (H' : Hp), Same H H' → (¬ Alike n f n' g → z = 0) → (Alike n f n' g → ∃ cs hs, DI cs (cnt (lens f (cycS n f))) ∧ DI hs (cnt (lens f (nons n f))) ∧ z = symN cs hs) → Q (.int (z : Int)) H'
theorem cN_le (Ls : List Nat) (x : Int) : cN Ls x ≤ Ls.length := List.length_filter_le _ _
theorem k4_lens {n : Int} {f : PF} (w : WF n f) (hn : n ≤ 40) {s : List Int} (hs : ∀ e ∈ s, 0 ≤ e ∧ e < n) (nd : s.Nodup) {l : List (Int × Int)} (d : DI l (cnt (lens f s))) : K4 l := by
  have key : ∀ p ∈ l, 1 ≤ p.1 ∧ p.1 ≤ 40 ∧ 0 ≤ p.2 ∧ p.2 ≤ 40 := by
    rintro ⟨x, y⟩ hp
    have e := d.mem.mp hp
    rw [cnt_bag] at e
    obtain ⟨e1, e2⟩ := toPF_some.mp e
    have hx : ∃ L ∈ lens f s, (L : Int) = x := by
      refine Decidable.byContradiction fun z => e2 ?_
      rw [← e1, bag_ones]
      unfold cN
      rw [List.filter_eq_nil_iff.mpr fun L hL => by
        rw [decide_eq_true_eq]
        exact fun w => z ⟨L, hL, w⟩]
      rfl
    obtain ⟨L, hL, rfl⟩ := hx
    obtain ⟨e0, he, rfl⟩ := List.mem_map.mp hL
    have h1 := hs e0 he
    have := row_pos w h1.1 h1.2
    have := row_le w h1.1 h1.2
    have hc := cN_le (lens f s) ((rowN f e0).length : Int)
    have hl : (lens f s).length = s.length := by unfold lens; rw [List.length_map]
    have hs40 := len_range nd hs
    rw [bag_ones] at e1
    dsimp only
    omega
  refine ⟨?_, key⟩
  have h1 : ∀ x ∈ l.map (·.1), 0 ≤ x - 1 ∧ x - 1 < 40 := fun x hx => by
    obtain ⟨p, hp, rfl⟩ := List.mem_map.mp hx
    have := key p hp
    omega
  have h2 : ((l.map (·.1)).map fun x => x - 1).Nodup := by
    refine List.Pairwise.map _ (fun a b hab => ?_) d.nd
    omega
  have := len_range (n := 40) h2 fun x hx => by
    obtain ⟨y, hy, rfl⟩ := List.mem_map.mp hx
    exact h1 y hy
  rw [List.length_map, List.length_map] at this
  exact this
section
variable {P : Program} {w : World} {K : PySem.W.Frag} {mg : Str → Option Value} {base : Heap}
set_option pp.maxSteps 3000 in
theorem ok_factorial (T : Txt K mg) : FnR P w K mg base CX0 1 T.f_factorial spFac := by
  refine T.A_factorial.ok sc_factorial (fun vs H Q E h => ?_) (fun cdv A outer s H vs Q E hr h => ?_)
  · obtain ⟨k, rfl, _⟩ := h
    rfl
  · obtain ⟨k, rfl, hk, q⟩ := h
    refine ⟨_, (pss_cons (ps_set (i := 1) sc_factorial.nd rfl (Or.inl rfl) pe_int)
      (pss_cons (ps_for PassesOwn.never rfl (pi_range2 (by rfl) T.n_range (pa_cons pe_int (pa_cons (pe_op op_add (pv 0) pe_int) pa_nil))) (pg_name (i := 2) sc_factorial.nd rfl (Or.inl rfl))
        (pss_one (ps_aug (i := 1) sc_factorial.nd rfl (Or.inl rfl) (pv 2) ip_mulW)))
      (pss_one (ps_ret (pv 1))))), ?_⟩
    refine ⟨_, rfl, _, _, rfl, rfl, 1, (k : Int) + 1, rfl, ⟨by decide, by decide, by omega, by omega⟩, ?_⟩
    refine for_it (walk_range (lo := 1)) (fun i σ H' => ∃ v2, σ = [some (.int (k : Int)), some (.int ((factN i : Nat) : Int)), v2] ∧ H' = H)
      ⟨_, rfl, rfl⟩ (fun _ _ _ _ _ => trivial) ?_ ?_
    · rintro i v σ Ha0 Ha hi ⟨v2, rfl, rfl⟩ ⟨rfl, rfl⟩
      have hlt := factN_lt i (by omega)
      refine ⟨_, rfl, _, rfl, _, _, rfl, rfl, wide_mul (nat_abs_lt hlt) (b := 10) (ten_lt (by omega) (by omega)) (by omega) (by decide) (by omega), ?_⟩
      refine ⟨some (.int (1 + (i : Nat))), ?_, rfl⟩
      have e : ((factN i : Nat) : Int) * (1 + (i : Nat)) = ((factN (i + 1) : Nat) : Int) := by
        show _ = ((factN i * (i + 1) : Nat) : Int)
        rw [Int.natCast_mul]
        congr 1
        omega
      rw [← e]
      rfl
    · rintro σ Ha ⟨v2, rfl, rfl⟩
      have e : ((k : Int) + 1 - 1).toNat = k := by omega
      rw [e]
      exact ⟨_, rfl, q⟩
set_option pp.maxSteps 3000 in
theorem ok_power_of (T : Txt K mg) : FnR P w K mg base CX0 1 T.f_power_of spPwo := by
  refine T.A_power_of.ok sc_power_of (fun vs H Q E h => ?_) (fun cdv A outer s H vs Q E hr h => ?_)
  · obtain ⟨b, k, rfl, _⟩ := h
    rfl
  · obtain ⟨b, k, rfl, hb, hk, q⟩ := h
    refine ⟨_, (pss_cons (ps_set (i := 2) sc_power_of.nd rfl (Or.inl rfl) pe_int)
      (pss_cons (ps_for PassesOwn.never rfl (pi_range1 rfl T.n_range (pa_cons (pv 1) pa_nil)) (pg_name (i := 3) sc_power_of.nd rfl (Or.inl rfl))
        (pss_one (ps_aug (i := 2) sc_power_of.nd rfl (Or.inl rfl) (pv 0) ip_mulW)))
      (pss_one (ps_ret (pv 2))))), ?_⟩
    refine ⟨_, rfl, (k : Int), rfl, by omega, by omega, ?_⟩
    refine for_it (walk_range (lo := 0)) (fun i σ H' => ∃ v3, σ = [some (.int (b : Int)), some (.int (k : Int)), some (.int ((b ^ i : Nat) : Int)), v3] ∧ H' = H)
      ⟨_, rfl, rfl⟩ (fun _ _ _ _ _ => trivial) ?_ ?_
    · rintro i v σ Ha0 Ha hi ⟨v3, rfl, rfl⟩ ⟨rfl, rfl⟩
      have hlt := pow_lt9 (b := b) (by omega) i
      refine ⟨_, rfl, _, rfl, _, _, rfl, rfl, wide_mul (nat_abs_lt hlt) (b := 10) (ten_lt (by omega) (by omega)) (by omega) (by decide) (by omega), ?_⟩
      refine ⟨some (.int (0 + (i : Nat))), ?_, rfl⟩
      have e : ((b ^ i : Nat) : Int) * (b : Int) = ((b ^ (i + 1) : Nat) : Int) := by rw [Nat.pow_succ, Int.natCast_mul]
      rw [← e]
      rfl
    · rintro σ Ha ⟨v3, rfl, rfl⟩
      rw [Int.toNat_natCast]
      exact ⟨_, rfl, q⟩
set_option pp.maxSteps 3000 in
theorem ok_sh_eq2 (T : Txt K mg) : FnR P w K mg base CX0 2 T.f_Shape__eq (spShE2 T.C_Shape) := by
  refine T.A_Shape__eq.ok sc_Shape__eq (fun vs H Q E h => ?_) (fun cdv A outer s H vs Q E hr h => ?_)
  · obtain ⟨a, b, cs, hs, cs', hs', rfl, _⟩ := h
    rfl
  · obtain ⟨a, b, cs, hs, cs', hs', rfl, ⟨⟨dx, D1, D2, h1, h2, h3⟩, as1, as2, _⟩, ⟨⟨dx', D1', D2', h1', h2', h3'⟩, _⟩, q⟩ := h
    refine ⟨_, (pss_cons (ps_if (pt_not (pt_val (pe_callB call_isi (by rfl) T.n_isinstance (by decide +kernel) (pa_cons (pv 1) (pa_cons (pe_glob (v := .ref T.C_Shape) rfl T.g_Shape rfl) pa_nil)))))
        (pss_one (ps_ret pe_bl)) pss_nil)
      (pss_one (ps_ret (pe_and (pe_cmpR (U.op_eqDI hr.units0) (pe_fld (pv 0) rfl) (pe_fld (pv 1) rfl) (nomark _)) (pe_one (pe_cmpR (U.op_eqDI hr.units0) (pe_fld (pv 0) rfl) (pe_fld (pv 1) rfl) (nomark _))))))), ?_⟩
    refine ⟨_, rfl, _, _, _, _, true, rfl, .own _, tyx_ins T.o_Shape h1', T.self_Shape, _, rfl, iteF ?_⟩
    refine ⟨_, rfl, a, _, dx, _, _, rfl, h1, T.o_Shape.cl, T.na_own_cycles_Shape, rfl, _, rfl, b, _, dx', _, _, rfl, h1', T.o_Shape.cl, T.na_own_cycles_Shape, rfl, D1, D1', _, _, rfl, rfl, h2, h2', intVals_kvI _, intVals_kvI _, _, rfl, ?_⟩
    cases e : dEq (kvI cs) (kvI cs') with
    | true =>
      rw [e, Bool.true_and] at q
      exact iteT ⟨_, rfl, a, _, dx, _, _, rfl, h1, T.o_Shape.cl, T.na_own_chains_Shape, rfl, _, rfl, b, _, dx', _, _, rfl, h1', T.o_Shape.cl, T.na_own_chains_Shape, rfl, D2, D2', _, _, rfl, rfl, h3, h3', intVals_kvI _, intVals_kvI _, q⟩
    | false =>
      rw [e, Bool.false_and] at q
      exact iteF q
set_option pp.maxSteps 3000 in
theorem ok_count_symmetries (T : Txt K mg) : FnR P w K mg base CX0 3 T.f_count_symmetries (spSym T.C_Shape) := by
  refine T.A_count_symmetries.ok sc_count_symmetries (fun vs H Q E h => ?_) (fun cdv A outer s H vs Q E hr h => ?_)
  · obtain ⟨s, cs, hs, rfl, _⟩ := h
    rfl
  · obtain ⟨sh, cs, hs, rfl, is1, k4c, k4h, q⟩ := h
    have hu := hu_of hr
    refine ⟨_, (pss_cons (ps_set (i := 1) sc_count_symmetries.nd rfl (Or.inl rfl) pe_int)
      (pss_cons (ps_for PassesOwn.never rfl (pi_items (pe_frz (pe_propR (pv 0) T.o_Shape.cl T.P_Shape_cycles (ok_sh_cycles T) (hr.mono (by decide))))) (pg_tup rfl (pgs_cons (pg_name (i := 2) sc_count_symmetries.nd rfl (Or.inl rfl)) (pgs_cons (pg_name (i := 3) sc_count_symmetries.nd rfl (Or.inl rfl)) pgs_nil)))
        (pss_one (ps_aug (i := 1) sc_count_symmetries.nd rfl (Or.inl rfl) (pe_op L2.op_mulW (pe_callR (ok_power_of T) (hr.mono (by decide)) T.A_power_of.kp rfl T.g_power_of pass0 (pa_cons (pv 2) (pa_cons (pv 3) pa_nil))) (pe_callR (ok_factorial T) (hr.mono (by decide)) T.A_factorial.kp rfl T.g_factorial pass0 (pa_cons (pv 3) pa_nil))) ip_mulW)))
      (pss_cons (ps_for PassesOwn.never rfl (pi_values (pe_frz (pe_propR (pv 0) T.o_Shape.cl T.P_Shape_chains (ok_sh_chains T) (hr.mono (by decide))))) (pg_name (i := 3) sc_count_symmetries.nd rfl (Or.inl rfl))
        (pss_one (ps_aug (i := 1) sc_count_symmetries.nd rfl (Or.inl rfl) (pe_callR (ok_factorial T) (hr.mono (by decide)) T.A_factorial.kp rfl T.g_factorial pass0 (pa_cons (pv 3) pa_nil)) ip_mulW)))
      (pss_one (ps_ret (pv 1)))))), ?_⟩
    obtain ⟨⟨dx, D1, D2, h1, h2, h3⟩, as1, as2, l1, l2⟩ := id is1
    refine ⟨_, rfl, sh, dx, _, rfl, h1, sh, cs, hs, rfl, is1, ?_⟩
    refine fun p n_p => ?_
    generalize g_p : L2.upd _ p _ = H1
    obtain ⟨s_H1, e_p⟩ := U.upd_facts g_p n_p
    clear g_p
    refine ⟨p, _, rfl, e_p, trivial, fun od => ?_⟩
    have nP : H p = none := n_p
    generalize g2 : upd H1 p _ = H2
    obtain ⟨o2, e2⟩ := stF g2
    clear g2
    have sF : Same H H2 := fun b o e => o2 b o (ne_of_none e nP) (s_H1 _ _ e)
    clear o2 s_H1 e_p
    refine ⟨p, od, kvI cs, rfl, e2, ?_⟩
    refine for_it walk_items (fun i σ H' => ∃ v2 v3, σ = [some (.ref sh), some (.int ((prd ((cs.take i).map cyT) : Nat) : Int)), v2, v3] ∧ Same H H' ∧ H' p = some (.frz od (.dK (kvI cs))))
      ⟨_, _, rfl, sF, e2⟩ (fun i σ H' _ ⟨_, _, _, _, z⟩ => z) ?_ ?_
    · rintro i v σ Ha0 Ha hi ⟨v2, v3, rfl, sa, ea⟩ ⟨q0, a, b, rfl, n_q0, rfl, e1, e2⟩
      rw [kvI_length] at hi
      obtain ⟨⟨x, y⟩, exy⟩ : ∃ p, cs[i]? = some p := ⟨_, List.getElem?_eq_getElem hi⟩
      have ek : (kvI cs)[i]? = some (Sum.inl x, V.int y) := by unfold kvI; rw [List.getElem?_map, exy]; rfl
      dsimp only at e1 e2
      rw [ek] at e1 e2
      cases e1; cases e2
      generalize g_q0 : L2.upd _ q0 _ = Hc
      obtain ⟨s_Hc, e_q0⟩ := U.upd_facts g_q0 n_q0
      clear g_q0
      have hk := k4c.2 _ (List.mem_of_getElem? exy)
      dsimp only at hk
      have t1 : prd ((cs.take i).map cyT) < 2 ^ 40000 := by
        refine Nat.lt_of_lt_of_le (prd_lt (B := 800) fun x hx => ?_) (Nat.pow_le_pow_right (by decide) ?_)
        · obtain ⟨q, hq, rfl⟩ := List.mem_map.mp hx
          exact cyT_lt (k4c.2 _ (List.mem_of_mem_take hq))
        · have := k4c.1
          rw [List.length_map, List.length_take]
          omega
      have t2 := cyT_lt (p := (x, y)) hk
      have a1 := pow_lt9 (b := x.toNat) (by omega) y.toNat
      have a2 := factN_lt y.toNat (by omega)
      refine ⟨q0, [.int x, .int y], rfl, SqT.of e_q0, rfl, .int x, [.int y], rfl, .int y, [], rfl, rfl, ?_⟩
      refine ⟨_, rfl, _, rfl, _, rfl, x.toNat, y.toNat, by rw [show ((x.toNat : Nat) : Int) = x by omega, show ((y.toNat : Nat) : Int) = y by omega], by omega, by omega, ?_⟩
      refine ⟨_, rfl, y.toNat, by rw [show ((y.toNat : Nat) : Int) = y by omega], by omega, _, _, rfl, rfl, wide_mul (nat_abs_lt a1) (nat_abs_lt a2) (by omega) (by omega) (by omega), ?_⟩
      have em : ((x.toNat ^ y.toNat : Nat) : Int) * ((factN y.toNat : Nat) : Int) = ((cyT (x, y) : Nat) : Int) := by
        rw [← Int.natCast_mul]
        rfl
      refine ⟨((prd ((cs.take i).map cyT) : Nat) : Int), ((cyT (x, y) : Nat) : Int), rfl, by rw [← em], wide_mul (nat_abs_lt t1) (nat_abs_lt t2) (by decide) (by decide) (by decide), ?_⟩
      refine ⟨some (.int x), some (.int y), ?_, sa.trans s_Hc, s_Hc _ _ ea⟩
      rw [take_more exy, List.map_append, prd_app]
      show _ = [some (V.ref sh), some (.int ((prd ((cs.take i).map cyT) * (cyT (x, y) * 1) : Nat) : Int)), some (.int x), some (.int y)]
      rw [Nat.mul_one, Int.natCast_mul]
      rfl
    · rintro σ Ha ⟨v2, v3, rfl, sa, ea⟩
      rw [kvI_length, List.take_length]
      have is2 := is1.same sa
      refine ⟨_, rfl, sh, dx, _, rfl, sa _ _ h1, sh, cs, hs, rfl, is2, ?_⟩
      refine fun p3 n_p3 => ?_
      generalize g_p3 : L2.upd _ p3 _ = H3
      obtain ⟨s_H3, e_p3⟩ := U.upd_facts g_p3 n_p3
      clear g_p3
      refine ⟨p3, _, rfl, e_p3, trivial, fun od3 => ?_⟩
      have nP3 : Ha p3 = none := n_p3
      generalize g3 : upd H3 p3 _ = H4
      obtain ⟨o4, e4⟩ := stF g3
      clear g3
      have sF4 : Same Ha H4 := fun b o e => o4 b o (ne_of_none e nP3) (s_H3 _ _ e)
      clear o4 s_H3 e_p3
      refine ⟨p3, od3, kvI hs, rfl, e4, ?_⟩
      refine for_it walk_values (fun i σ H' => ∃ v2 v3, σ = [some (.ref sh), some (.int ((prd (cs.map cyT) * prd ((hs.take i).map chT) : Nat) : Int)), v2, v3] ∧ Same H H' ∧ H' p3 = some (.frz od3 (.dK (kvI hs))))
        ⟨_, _, by
          rw [List.take_zero, List.map_nil, show prd [] = 1 from rfl, Nat.mul_one], sa.trans sF4, e4⟩ (fun i σ H' _ ⟨_, _, _, _, z⟩ => z) ?_ ?_
      · rintro i v σ Hb0 Hb hi ⟨v2, v3, rfl, sb, eb⟩ ⟨rfl, kk, e1⟩
        rw [kvI_length] at hi
        obtain ⟨⟨x, y⟩, exy⟩ : ∃ p, hs[i]? = some p := ⟨_, List.getElem?_eq_getElem hi⟩
        have ek : (kvI hs)[i]? = some (Sum.inl x, V.int y) := by unfold kvI; rw [List.getElem?_map, exy]; rfl
        rw [ek] at e1
        cases e1
        have hk := k4h.2 _ (List.mem_of_getElem? exy)
        dsimp only at hk
        have t0 : prd (cs.map cyT) < 2 ^ 40000 := by
          refine Nat.lt_of_lt_of_le (prd_lt (B := 800) fun x hx => ?_) (Nat.pow_le_pow_right (by decide) ?_)
          · obtain ⟨q, hq, rfl⟩ := List.mem_map.mp hx
            exact cyT_lt (k4c.2 _ hq)
          · have := k4c.1
            rw [List.length_map]
            omega
        have t1 : prd ((hs.take i).map chT) < 2 ^ 40000 := by
          refine Nat.lt_of_lt_of_le (prd_lt (B := 800) fun x hx => ?_) (Nat.pow_le_pow_right (by decide) ?_)
          · obtain ⟨q, hq, rfl⟩ := List.mem_map.mp hx
            exact chT_lt (k4h.2 _ (List.mem_of_mem_take hq))
          · have := k4h.1
            rw [List.length_map, List.length_take]
            omega
        have t01 : prd (cs.map cyT) * prd ((hs.take i).map chT) < 2 ^ 80000 := by
          refine Nat.lt_of_lt_of_le (Nat.mul_lt_mul'' t0 t1) ?_
          rw [← Nat.pow_add]
          exact Nat.pow_le_pow_right (by decide) (by decide)
        have t2 := chT_lt (p := (x, y)) hk
        refine ⟨_, rfl, _, rfl, y.toNat, by rw [show ((y.toNat : Nat) : Int) = y by omega], by omega, ?_⟩
        refine ⟨((prd (cs.map cyT) * prd ((hs.take i).map chT) : Nat) : Int), ((chT (x, y) : Nat) : Int), rfl, rfl, wide_mul (nat_abs_lt t01) (nat_abs_lt t2) (by decide) (by decide) (by decide), ?_⟩
        refine ⟨v2, some (.int y), ?_, sb, eb⟩
        rw [take_more exy, List.map_append, prd_app]
        show _ = [some (V.ref sh), some (.int ((prd (cs.map cyT) * (prd ((hs.take i).map chT) * (chT (x, y) * 1)) : Nat) : Int)), v2, some (.int y)]
        rw [Nat.mul_one, ← Nat.mul_assoc, Int.natCast_mul (prd (cs.map cyT) * prd ((hs.take i).map chT))]
        rfl
      · rintro σ Hb ⟨v2, v3, rfl, sb, eb⟩
        rw [kvI_length, List.take_length]
        exact ⟨_, rfl, q Hb sb⟩
end
end My
set_option maxHeartbeats 1000000
namespace My
open PySem L2 U StX PM
theorem prd_filter {φ : Nat → Nat} {p : Nat → Bool} : ∀ {l : List Nat}, (∀ x ∈ l, p x = false → φ x = 1) → prd (l.map φ) = prd ((l.filter p).map φ)
  | [], _ => rfl
  | x :: l, h => by
    have ih := prd_filter (φ := φ) (p := p) fun y hy => h y (List.mem_cons_of_mem x hy)
    rw [List.map_cons, List.filter_cons]
    cases e : p x with
    | true => rw [if_pos rfl, List.map_cons]; show φ x * _ = φ x * _; rw [ih]
    | false => rw [if_neg Bool.false_ne_true]; show φ x * _ = _; rw [h x List.mem_cons_self e, Nat.one_mul, ih]
/-- the product over all lengths -/
def prdR (φ : Nat → Nat) : Nat := prd ((List.range 41).map φ)
theorem prd_cs {cs : List (Int × Int)} {F : PF} (d : DI cs F) (k : K4 cs) {τ : Int × Int → Nat} (t0 : ∀ L : Nat, τ ((L : Int), 0) = 1) : prd (cs.map τ) = prdR fun L => τ ((L : Int), (F (L : Int)).getD 0) := by
  unfold prdR
  rw [prd_filter (p := fun L => (F (L : Int)).isSome) fun L _ h => by
    cases e : F (L : Int) with
    | none => exact t0 L
    | some y => rw [e] at h; cases h]
  have pm : (cs.map fun p => p.1.toNat).Perm ((List.range 41).filter fun L : Nat => (F (L : Int)).isSome) := by
    refine (List.perm_ext_iff_of_nodup ?_ (List.nodup_range.filter _)).mpr fun L => ?_
    · have h1 : (cs.map fun p => p.1.toNat) = (cs.map (·.1)).map Int.toNat := by rw [List.map_map]; rfl
      rw [h1]
      refine List.pairwise_map.mpr ?_
      refine d.nd.imp_of_mem fun {a b} ha hb hab e => hab ?_
      obtain ⟨p, hp, rfl⟩ := List.mem_map.mp ha
      obtain ⟨q, hq, rfl⟩ := List.mem_map.mp hb
      have := k.2 p hp
      have := k.2 q hq
      omega
    · rw [List.mem_filter, List.mem_range, List.mem_map]
      constructor
      · rintro ⟨p, hp, rfl⟩
        have hk := k.2 p hp
        have e := d.mem.mp (show (p.1, p.2) ∈ cs from hp)
        rw [show ((p.1.toNat : Nat) : Int) = p.1 by omega, e]
        exact ⟨by omega, rfl⟩
      · rintro ⟨_, hs⟩
        obtain ⟨y, hy⟩ := Option.isSome_iff_exists.mp hs
        exact ⟨((L : Int), y), d.mem.mpr hy, by simp⟩
  rw [← prd_perm (pm.map fun L : Nat => τ ((L : Int), (F (L : Int)).getD 0)), List.map_map]
  congr 1
  refine List.map_congr_left fun p hp => ?_
  have hk := k.2 p hp
  have e := d.mem.mp (show (p.1, p.2) ∈ cs from hp)
  show τ p = τ (((p.1.toNat : Nat) : Int), (F ((p.1.toNat : Nat) : Int)).getD 0)
  rw [show ((p.1.toNat : Nat) : Int) = p.1 by omega, e]
  rfl
/-- how many of the keys are so -/
def kC (ks : List (Nat × Bool)) (L : Nat) (b : Bool) : Nat := ks.countP fun k => decide (k = (L, b))
def phi (ks : List (Nat × Bool)) (L : Nat) : Nat := (L ^ kC ks L true * factN (kC ks L true)) * factN (kC ks L false)
end My
set_option maxHeartbeats 1000000
namespace My
open PySem L2 U StX PM
theorem nd_prs {l : List (Int × Int)} (h : (l.map (·.1)).Nodup) : l.Nodup := by
  rw [List.nodup_iff_pairwise_ne] at h ⊢
  rw [List.pairwise_map] at h
  exact h.imp fun h z => h (congrArg _ z)
theorem iteT' {b : Bool} {A B : Prop} (h : b = true) (x : A) : if b = true then A else B := by rw [if_pos h]; exact x
theorem iteF' {b : Bool} {A B : Prop} (h : b = false) (x : B) : if b = true then A else B := by rw [h, if_neg Bool.false_ne_true]; exact x
theorem dEq_f {l l' : List (Int × Int)} {f g : PF} (d : DI l f) (d' : DI l' g) (h : dEq (kvI l) (kvI l') = true) : f = g := by
  unfold dEq at h
  rw [Bool.and_eq_true, kvI_length, kvI_length, beq_iff_eq, List.all_eq_true] at h
  have sub : ∀ p ∈ l, p ∈ l' := by
    intro p hp
    have := h.2 (Sum.inl p.1, V.int p.2) (List.mem_map.mpr ⟨p, hp, rfl⟩)
    rw [decide_eq_true_eq, valV_kvI, d'.at_] at this
    obtain ⟨y, hy, ey⟩ := Option.map_eq_some_iff.mp this
    cases ey
    exact d'.mem.mpr hy
  have nd := nd_prs d.nd
  refine pf_ext fun x y => ⟨fun hx => d'.mem.mp (sub _ (d.mem.mpr hx)), fun hx => ?_⟩
  refine d.mem.mp (Classical.byContradiction fun hn => ?_)
  have := List.Nodup.length_le_of_subset (l₁ := (x, y) :: l) (l₂ := l') (List.nodup_cons.mpr ⟨hn, nd⟩) (fun p hp => by
    rcases List.mem_cons.mp hp with rfl | hp
    · exact d'.mem.mpr hx
    · exact sub p hp)
  rw [List.length_cons] at this
  omega
theorem prd_mul {φ ψ : Nat → Nat} : ∀ l : List Nat, prd (l.map fun x => φ x * ψ x) = prd (l.map φ) * prd (l.map ψ)
  | [] => rfl
  | x :: l => by
    show φ x * ψ x * prd (l.map fun x => φ x * ψ x) = φ x * prd (l.map φ) * (ψ x * prd (l.map ψ))
    rw [prd_mul l, Nat.mul_assoc, Nat.mul_assoc, Nat.mul_left_comm (ψ x)]
theorem kC_app (a b : List (Nat × Bool)) (L : Nat) (c : Bool) : kC (a ++ b) L c = kC a L c + kC b L c := List.countP_append
theorem kC_same {f : PF} {s : List Int} {c : Bool} (h : ∀ e ∈ s, clo f e = c) (L : Nat) : kC (s.map fun e => ((rowN f e).length, clo f e)) L c = cN (lens f s) (L : Int) := by
  unfold kC cN lens
  rw [← List.countP_eq_length_filter, List.countP_map, List.countP_map]
  refine List.countP_congr fun e he => ?_
  show decide (((rowN f e).length, clo f e) = (L, c)) = true ↔ decide (((rowN f e).length : Int) = (L : Int)) = true
  rw [decide_eq_true_eq, decide_eq_true_eq, h e he]
  exact ⟨fun z => by cases z; rfl, fun z => by rw [show (rowN f e).length = L by omega]⟩
theorem kC_other {f : PF} {s : List Int} {c : Bool} (h : ∀ e ∈ s, clo f e = c) (L : Nat) {b : Bool} (hb : b ≠ c) : kC (s.map fun e => ((rowN f e).length, clo f e)) L b = 0 := by
  unfold kC
  rw [List.countP_eq_zero]
  intro k hk
  obtain ⟨e, he, rfl⟩ := List.mem_map.mp hk
  rw [decide_eq_true_eq]
  intro z
  exact hb ((h e he).symm.trans (congrArg Prod.snd z)).symm
theorem nons_clo {n : Int} {f : PF} (w : WF n f) {e : Int} (h : e ∈ nons n f) : clo f e = false := clo_non w (nons_dom h).1 (nons_dom h).2.1 (nons_dom h).2.2
/-- the law's product is the program's -/
theorem sym_is {n : Int} {f : PF} (w : WF n f) (hn : n ≤ 40) {cs hs : List (Int × Int)} (d1 : DI cs (cnt (lens f (cycS n f)))) (d2 : DI hs (cnt (lens f (nons n f)))) :
    prdR (phi ((nons n f ++ cycS n f).map fun e => ((rowN f e).length, clo f e))) = symN cs hs := by
  have k1 := k4_lens w hn (fun e he => cycS_dom he) (nodup_of_lt (cycS_lt n f)) d1
  have k2 := k4_lens w hn (fun e he => ⟨(nons_dom he).1, (nons_dom he).2.1⟩) (nodup_of_lt (nons_lt n f)) d2
  unfold symN
  rw [prd_cs d1 k1 (τ := cyT) (fun L => rfl), prd_cs d2 k2 (τ := chT) (fun L => rfl)]
  unfold prdR
  rw [← prd_mul]
  congr 1
  refine List.map_congr_left fun L _ => ?_
  have e1 := cnt_get (lens f (cycS n f)) (L : Int)
  have e2 := cnt_get (lens f (nons n f)) (L : Int)
  rw [e1, e2]
  unfold phi cyT chT
  rw [List.map_append, kC_app, kC_app, kC_same (fun e he => cycS_clo w he), kC_same (fun e he => nons_clo w he), kC_other (fun e he => nons_clo w he) L (by decide), kC_other (fun e he => cycS_clo w he) L (by decide), Nat.zero_add, Nat.add_zero]
  dsimp only
  rw [Int.toNat_natCast, Int.toNat_natCast, Int.toNat_natCast]
theorem lenF_b {n : Int} {f : PF} : 0 ≤ lenF n f ∧ lenF n f ≤ max n 0 := by
  have := tab_len n f
  unfold lenF
  omega
theorem prL_app : ∀ {A B A' B' : List (List Int)}, A.length = B.length → prL (A ++ A') (B ++ B') = prL A B ++ prL A' B'
  | [], [], _, _, _ => rfl
  | a :: A, b :: B, A', B', h => by
    rw [List.cons_append, List.cons_append, prL_cons, prL_cons, prL_app (A := A) (B := B) (Nat.succ.inj h), List.append_assoc]
  | [], _ :: _, _, _, h => nomatch h
  | _ :: _, [], _, _, h => nomatch h
theorem prL_take {A B : List (List Int)} {k : Nat} {a b : List Int} (ha : A[k]? = some a) (hb : B[k]? = some b) : prL (A.take (k + 1)) (B.take (k + 1)) = prL (A.take k) (B.take k) ++ a.zip b := by
  have h1 := (List.getElem?_eq_some_iff.mp ha).1
  have h2 := (List.getElem?_eq_some_iff.mp hb).1
  rw [take_more ha, take_more hb, prL_app (by rw [List.length_take, List.length_take]; omega), prL_cons]
  congr 1
  exact List.append_nil _
theorem prL_sub {A B : List (List Int)} (h : A.length = B.length) (k : Nat) : ∃ r, prL A B = prL (A.take k) (B.take k) ++ r := by
  refine ⟨prL (A.drop k) (B.drop k), ?_⟩
  rw [← prL_app (by rw [List.length_take, List.length_take, h]), List.take_append_drop, List.take_append_drop]
/-- the arrows after i kinds of parts -/
def ArrR (n : Int) (f g : PF) : Nat → List (Int × Int) → Prop
  | 0, l => l = []
  | 1, l => ∃ CA CB, CA.Perm ((cycS n f).map (rowN f)) ∧ CB.Perm ((cycS n g).map (rowN g)) ∧ CA.map (·.length) = CB.map (·.length) ∧ l = prL CA CB
  | _, l => ∃ CA CB HA HB, RowsOn n f g CA CB HA HB ∧ l = renL CA CB HA HB
noncomputable def selK (n : Int) (f : PF) (i : Nat) : List Int := if i = 0 then cycS n f else nons n f
theorem arrR_step {n : Int} {f g : PF} {i : Nat} (hi : i < 2) {l : List (Int × Int)} {A B : List (List Int)} (h : ArrR n f g i l) (a : A.Perm ((selK n f i).map (rowN f))) (b : B.Perm ((selK n g i).map (rowN g))) (hl : A.map (·.length) = B.map (·.length)) : ArrR n f g (i + 1) (l ++ prL A B) := by
  match i, hi, h, a, b with
  | 0, _, h, a, b =>
    cases (show l = [] from h)
    exact ⟨A, B, a, b, hl, rfl⟩
  | 1, _, h, a, b =>
    obtain ⟨CA, CB, h1, h2, h3, rfl⟩ := h
    exact ⟨CA, CB, A, B, ⟨h1, h2, a, b, h3, hl⟩, rfl⟩
theorem arrR_nd {n : Int} {f g : PF} (w : WF n f) : ∀ {i : Nat} {l : List (Int × Int)}, ArrR n f g i l → (l.map (·.1)).Nodup ∧ l.length ≤ n.toNat := by
  have key : ∀ l : List (Int × Int), (l.map (·.1)).Nodup → (∀ x ∈ l.map (·.1), x ∈ seenL f (cycS n f) ++ seenL f (nons n f)) → (l.map (·.1)).Nodup ∧ l.length ≤ n.toNat := fun l h1 h2 => by
    refine ⟨h1, ?_⟩
    have := len_range h1 fun x hx => seen_dom w (h2 x hx)
    rwa [List.length_map] at this
  intro i l h
  match i, h with
  | 0, h =>
    cases (show l = [] from h)
    exact ⟨List.nodup_nil, Nat.zero_le _⟩
  | 1, h =>
    obtain ⟨CA, CB, h1, h2, h3, rfl⟩ := h
    have pm : ((prL CA CB).map (·.1)).Perm (seenL f (cycS n f)) := by rw [prL_keys h3]; exact flat_perm h1
    exact key _ (pm.nodup_iff.mpr (nd_cyc w)) fun x hx => List.mem_append.mpr (.inl (pm.mem_iff.mp hx))
  | i + 2, h =>
    obtain ⟨CA, CB, HA, HB, r, rfl⟩ := h
    exact key _ ((ren_keys r).nodup_iff.mpr (all_nd w)) fun x hx => (ren_keys r).mem_iff.mp hx
def RnArg (C : Addr) (H : Hp) (x : V) (n : Int) (f g : PF) (b : Bool) : Prop := (∃ a n' h, x = .ref a ∧ IsMap C H a n' h ∧ b = (decide (n' = n) && !decide (lenF n' h < n') && eqB n (mul (mul (inv n h) f) h) n g)) ∨ (nonMapV H x ∧ b = false)
def spIsRn (C : Addr) : Sp := fun vs H Q _ => ∃ (a c : Addr) (n : Int) (f g : PF) (x : V) (b : Bool), vs = [.ref a, .ref c, x] ∧ IsMap C H a n f ∧ IsMap C H c n g ∧ RnArg C H x n f g b ∧ ∀ H', Same H H' → Q (.bl b) H'
def spRenm (C : Addr) : Sp := fun vs H Q _ => ∃ (a b : Addr) (n n' : Int) (f g : PF), vs = [.ref a, .ref b] ∧ IsMap C H a n f ∧ IsMap C H b n' g ∧
  ∀ (v : V) (H' : Hp), Same H H' → (¬ Alike n f n' g → v = .non) → (Alike n f n' g → ∃ m CA CB HA HB, v = .ref m ∧ RowsOn n f g CA CB HA HB ∧ IsMap C H' m n (lk (renL CA CB HA HB))) → Q v H'
section
variable {P : Program} {w : World} {K : PySem.W.Frag} {mg : Str → Option Value} {base : Heap}
set_option pp.maxSteps 3000 in
theorem ok_are_alike (T : Txt K mg) : FnR P w K mg base CX0 8 T.f_are_alike (spAlk T.C_Map) := by
  refine T.A_are_alike.ok sc_are_alike (fun vs H Q E h => ?_) (fun cdv A outer s H vs Q E hr h => ?_)
  · obtain ⟨a, b, n, n', f, g, rfl, _⟩ := h
    rfl
  · obtain ⟨a, b, n, n', f, g, rfl, ha, hb, q⟩ := h
    have hu := hu_of hr
    refine ⟨_, (pss_cons (ps_expr (pe_callR (fnR_calm (ok_check_map T)) (hr.mono (by decide)) T.A_check_map.kp rfl T.g_check_map pass0 (pa_cons (pv 0) pa_nil)))
      (pss_cons (ps_expr (pe_callR (fnR_calm (ok_check_map T)) (hr.mono (by decide)) T.A_check_map.kp rfl T.g_check_map pass0 (pa_cons (pv 1) pa_nil)))
      (pss_one (ps_ret (pe_and (pe_cmpR op_eq (pe_propR (pv 0) T.o_Map.cl T.P_Map_size (ok_size T) (hr.mono (by decide))) (pe_propR (pv 1) T.o_Map.cl T.P_Map_size (ok_size T) (hr.mono (by decide))) (nomark _)) (pe_one (pe_cmpR (op_cmp (fun _ _ => rfl) T.m_Shape__eq T.i_Shape__eq (ok_sh_eq2 T) (hr.mono (by decide)) pass0) (pe_callR (ok_shape_of T) (hr.mono (by decide)) T.A_shape_of.kp rfl T.g_shape_of pass0 (pa_cons (pv 0) pa_nil)) (pe_callR (ok_shape_of T) (hr.mono (by decide)) T.A_shape_of.kp rfl T.g_shape_of pass0 (pa_cons (pv 1) pa_nil)) (nomark _)))))))), ?_⟩
    refine ⟨_, rfl, _, rfl, .inl ⟨a, n, f, rfl, ha, ?_⟩⟩
    refine ⟨_, rfl, _, rfl, .inl ⟨b, n', g, rfl, hb, ?_⟩⟩
    obtain ⟨dx, D1, e1, _⟩ := id ha.ob
    obtain ⟨dx2, D2, e2, _⟩ := id hb.ob
    refine ⟨_, rfl, a, dx, _, rfl, e1, a, n, f, rfl, ha, _, rfl, b, dx2, _, rfl, e2, b, n', g, rfl, hb, rfl, _, rfl, ?_⟩
    by_cases h : n = n'
    · refine iteT' (decide_eq_true (by rw [h])) ?_
      refine ⟨_, rfl, a, n, f, rfl, ha, fun s1 cs hs H1 sm1 is1 d1 d2 => ?_⟩
      refine ⟨_, rfl, b, n', g, rfl, hb.same sm1, fun s2 cs' hs' H2 sm2 is2 d1' d2' => ?_⟩
      have is1' := is1.same sm2
      obtain ⟨⟨x1, X1, X2, y1, _⟩, _⟩ := id is1'
      obtain ⟨⟨x2, X3, X4, y2, _⟩, _⟩ := id is2
      refine ⟨s1, x1, _, s2, x2, _, rfl, rfl, y1, y2, s1, s2, cs, hs, cs', hs', rfl, is1', is2, ?_⟩
      refine q _ H2 (sm1.trans sm2) ?_
      rw [Bool.and_eq_true]
      constructor
      · rintro ⟨z1, z2⟩
        exact ⟨h, dEq_f d1 d1' z1, dEq_f d2 d2' z2⟩
      · rintro ⟨_, z1, z2⟩
        rw [← z1] at d1'
        rw [← z2] at d2'
        exact ⟨dEq_di d1 d1', dEq_di d2 d2'⟩
    · refine iteF' (decide_eq_false fun z => h (V.int.inj z)) ?_
      exact q false H (Same.refl H) ⟨fun z => (nomatch z), fun z => absurd z.1 h⟩
set_option pp.maxSteps 3000 in
theorem ok_count_renamings (T : Txt K mg) : FnR P w K mg base CX0 9 T.f_count_renamings (spCntR T.C_Map) := by
  refine T.A_count_renamings.ok sc_count_renamings (fun vs H Q E h => ?_) (fun cdv A outer s H vs Q E hr h => ?_)
  · obtain ⟨a, b, n, n', f, g, rfl, _⟩ := h
    rfl
  · obtain ⟨a, b, n, n', f, g, rfl, ha, hb, hn, q⟩ := h
    have hu := hu_of hr
    refine ⟨_, (pss_one (ps_ret (pe_ifExp (pt_val (pe_callR (ok_are_alike T) (hr.mono (by decide)) T.A_are_alike.kp rfl T.g_are_alike pass0 (pa_cons (pv 0) (pa_cons (pv 1) pa_nil)))) (pe_callR (ok_count_symmetries T) (hr.mono (by decide)) T.A_count_symmetries.kp rfl T.g_count_symmetries pass0 (pa_cons (pe_callR (ok_shape_of T) (hr.mono (by decide)) T.A_shape_of.kp rfl T.g_shape_of pass0 (pa_cons (pv 0) pa_nil)) pa_nil)) pe_int))), ?_⟩
    refine ⟨_, rfl, _, rfl, a, b, n, n', f, g, rfl, ha, hb, fun c H1 s1 hc => ?_⟩
    refine ⟨c, rfl, ?_⟩
    by_cases h : c = true
    · refine iteT' h ?_
      refine ⟨_, rfl, a, n, f, rfl, ha.same s1, fun s cs hs H2 s2 is1 d1 d2 => ?_⟩
      have wf := ha.wf
      refine ⟨s, cs, hs, rfl, is1, k4_lens wf hn (fun e he => cycS_dom he) (nodup_of_lt (cycS_lt n f)) d1, k4_lens wf hn (fun e he => ⟨(nons_dom he).1, (nons_dom he).2.1⟩) (nodup_of_lt (nons_lt n f)) d2, fun H3 s3 => ?_⟩
      exact q _ H3 ((s1.trans s2).trans s3) (fun z => absurd (hc.mp h) z) fun _ => ⟨cs, hs, d1, d2, rfl⟩
    · refine iteF' (by simpa using h) ?_
      exact q 0 H1 s1 (fun _ => rfl) fun z => absurd (hc.mpr z) h
set_option pp.maxSteps 3000 in
theorem ok_is_renaming (T : Txt K mg) : FnR P w K mg base CX0 9 T.f_is_renaming (spIsRn T.C_Map) := by
  refine T.A_is_renaming.ok sc_is_renaming (fun vs H Q E h => ?_) (fun cdv A outer s H vs Q E hr h => ?_)
  · obtain ⟨a, c, n, f, g, x, b, rfl, _⟩ := h
    rfl
  · obtain ⟨a, c, n, f, g, x, b, rfl, ha, hc, hx, q⟩ := h
    have hu := hu_of hr
    refine ⟨_, (pss_cons (ps_expr (pe_callR (fnR_calm (ok_check_map T)) (hr.mono (by decide)) T.A_check_map.kp rfl T.g_check_map pass0 (pa_cons (pv 0) pa_nil)))
      (pss_cons (ps_expr (pe_callR (fnR_calm (ok_check_map T)) (hr.mono (by decide)) T.A_check_map.kp rfl T.g_check_map pass0 (pa_cons (pv 1) pa_nil)))
      (pss_cons (ps_if (PW.pt (pw_or (pt_not (pt_val (pe_callB call_isi (by rfl) T.n_isinstance (by decide +kernel) (pa_cons (pv 2) (pa_cons (pe_glob (v := .ref T.C_Map) rfl T.g_Map rfl) pa_nil))))) (pw_or (pt_cmpR op_ne (pe_propR (pv 0) T.o_Map.cl T.P_Map_size (ok_size T) (hr.mono (by decide))) (pe_propR (pv 1) T.o_Map.cl T.P_Map_size (ok_size T) (hr.mono (by decide))) (nomark _)) (pw_or (pt_cmpR op_ne (pe_propR (pv 2) T.o_Map.cl T.P_Map_size (ok_size T) (hr.mono (by decide))) (pe_propR (pv 0) T.o_Map.cl T.P_Map_size (ok_size T) (hr.mono (by decide))) (nomark _)) (pw_or1 (pt_cmpR op_lt (pe_callB (call_lenO T.m_Map__len T.i_Map__len (ok_len T) (hr.mono (by decide)) pass0) (by rfl) T.n_len (by decide +kernel) (pa_cons (pv 2) pa_nil)) (pe_propR (pv 2) T.o_Map.cl T.P_Map_size (ok_size T) (hr.mono (by decide))) (nomark _)))))))
        (pss_one (ps_ret pe_bl)) pss_nil)
      (pss_one (ps_ret (pe_cmpR (op_cmp (fun _ _ => rfl) T.m_Map__eq T.i_Map__eq (ok_eq T) (hr.mono (by decide)) pass0) (pe_op (op_bin T.o_Map.sf T.m_Map__mul T.i_Map__mul (ok_mul T) (hr.mono (by decide)) pass0) (pe_op (op_bin T.o_Map.sf T.m_Map__mul T.i_Map__mul (ok_mul T) (hr.mono (by decide)) pass0) (pe_un (un_inv T.m_Map__invert T.i_Map__invert (ok_invert T) (hr.mono (by decide)) pass0) (pv 2)) (pv 0)) (pv 2)) (pv 1) (nomark _))))))), ?_⟩
    refine ⟨_, rfl, _, rfl, .inl ⟨a, n, f, rfl, ha, ?_⟩⟩
    refine ⟨_, rfl, _, rfl, .inl ⟨c, n, g, rfl, hc, ?_⟩⟩
    rcases hx with ⟨m, n', h, rfl, hm, rfl⟩ | ⟨hx, rfl⟩
    · obtain ⟨dx, D1, e1, _⟩ := id hm.ob
      obtain ⟨dx2, D2, e2, _⟩ := id ha.ob
      obtain ⟨dx3, D3, e3, _⟩ := id hc.ob
      refine ⟨_, rfl, _, _, _, _, true, rfl, .own _, tyx_ins T.o_Map e1, T.self_Map, _, rfl, ?_⟩
      refine iteF' rfl ?_
      refine ⟨_, rfl, a, dx2, _, rfl, e2, a, n, f, rfl, ha, _, rfl, c, dx3, _, rfl, e3, c, n, g, rfl, hc, rfl, _, rfl, iteF' (by rw [decide_eq_true rfl]; rfl) ?_⟩
      refine ⟨_, rfl, m, dx, _, rfl, e1, m, n', h, rfl, hm, _, rfl, a, dx2, _, rfl, e2, a, n, f, rfl, ha, rfl, _, rfl, ?_⟩
      by_cases hn : n' = n
      · subst hn
        refine iteF' (by rw [decide_eq_true rfl]; rfl) ?_
        refine ⟨_, rfl, m, dx, _, rfl, e1, m, n', h, rfl, hm, _, rfl, lenF_b.1, (by have := (lenF_b (n := n') (f := h)).2; have := hm.hi; omega), _, rfl, m, dx, _, rfl, e1, m, n', h, rfl, hm, _, _, rfl, rfl, _, rfl, ?_⟩
        rw [decide_eq_true rfl, Bool.true_and] at q
        by_cases hl : lenF n' h < n'
        · refine iteT' (decide_eq_true hl) ?_
          rw [decide_eq_true hl] at q
          exact q H (Same.refl H)
        · refine iteF' (decide_eq_false hl) ?_
          rw [decide_eq_false hl] at q
          refine ⟨_, rfl, m, dx, _, rfl, e1, m, n', h, rfl, hm, fun r1 H1 n1 s1 m1 => ?_⟩
          obtain ⟨dx4, D4, e4, _⟩ := id m1.ob
          refine ⟨_, rfl, r1, dx4, _, a, dx2, _, rfl, rfl, e4, s1 _ _ e2, r1, a, n', _, _, rfl, m1, ha.same s1, fun r2 H2 n2 s2 m2 => ?_⟩
          obtain ⟨dx5, D5, e5, _⟩ := id m2.ob
          refine ⟨_, rfl, r2, dx5, _, m, dx, _, rfl, rfl, e5, s2 _ _ (s1 _ _ e1), r2, m, n', _, _, rfl, m2, (hm.same s1).same s2, fun r3 H3 n3 s3 m3 => ?_⟩
          obtain ⟨dx6, D6, e6, _⟩ := id m3.ob
          have s03 := (s1.trans s2).trans s3
          exact ⟨_, rfl, r3, dx6, _, c, dx3, _, rfl, rfl, e6, s03 _ _ e3, r3, c, n', _, n', g, rfl, m3, hc.same s03, q H3 s03⟩
      · refine iteT' (by rw [decide_eq_false (fun z => hn (V.int.inj z))]; rfl) (iteT' rfl ?_)
        rw [decide_eq_false hn] at q
        exact q H (Same.refl H)
    · obtain ⟨t, ht, hk⟩ := ty_nonmap T hx
      refine ⟨_, rfl, _, _, _, _, false, rfl, .own _, ht, hk, _, rfl, iteT' rfl (iteT' rfl ?_)⟩
      exact q H (Same.refl H)
set_option pp.maxSteps 3000 in
theorem ok_renaming (T : Txt K mg) : FnR P w K mg base CX0 9 T.f_renaming (spRenm T.C_Map) := by
  refine T.A_renaming.ok sc_renaming (fun vs H Q E h => ?_) (fun cdv A outer s H vs Q E hr h => ?_)
  · obtain ⟨a, b, n, n', f, g, rfl, _⟩ := h
    rfl
  · obtain ⟨a, b, n, n', f, g, rfl, ha, hb, q⟩ := h
    have hu := hu_of hr
    refine ⟨_, (pss_cons (ps_if (pt_not (pt_val (pe_callR (ok_are_alike T) (hr.mono (by decide)) T.A_are_alike.kp rfl T.g_are_alike pass0 (pa_cons (pv 0) (pa_cons (pv 1) pa_nil)))))
        (pss_one (ps_ret pe_non)) pss_nil)
      (pss_cons (ps_set (i := 2) sc_renaming.nd rfl (Or.inl rfl) pe_dnewK)
      (pss_cons (ps_for PassesOwn.never rfl (pi_zipS (by rfl) T.n_zip (pa_cons (pe_callR (ok_parts_of T) (hr.mono (by decide)) T.A_parts_of.kp rfl T.g_parts_of pass0 (pa_cons (pv 0) pa_nil)) (pa_cons (pe_callR (ok_parts_of T) (hr.mono (by decide)) T.A_parts_of.kp rfl T.g_parts_of pass0 (pa_cons (pv 1) pa_nil)) pa_nil))) (pg_tup rfl (pgs_cons (pg_name (i := 3) sc_renaming.nd rfl (Or.inl rfl)) (pgs_cons (pg_name (i := 4) sc_renaming.nd rfl (Or.inl rfl)) pgs_nil)))
        (pss_one (ps_for PassesOwn.never rfl (pi_zipS (by rfl) T.n_zip (pa_cons (pe_callR (ok_by_length T) (hr.mono (by decide)) T.A_by_length.kp rfl T.g_by_length pass0 (pa_cons (pv 3) pa_nil)) (pa_cons (pe_callR (ok_by_length T) (hr.mono (by decide)) T.A_by_length.kp rfl T.g_by_length pass0 (pa_cons (pv 4) pa_nil)) pa_nil))) (pg_tup rfl (pgs_cons (pg_name (i := 5) sc_renaming.nd rfl (Or.inl rfl)) (pgs_cons (pg_name (i := 6) sc_renaming.nd rfl (Or.inl rfl)) pgs_nil)))
        (pss_one (ps_expr (pe_dupdate (pv 2) (pa_cons (pe_dictZip rfl (pa_cons (pv 5) (pa_cons (pv 6) pa_nil)) rfl T.n_dict (by decide +kernel) rfl T.n_zip) pa_nil)))))))
      (pss_one (ps_ret (pe_makeR T.M_Map (ok_init T) (hr.mono (by decide)) rfl T.g_Map pass0 (pa_cons (pe_propR (pv 0) T.o_Map.cl T.P_Map_size (ok_size T) (hr.mono (by decide))) (pa_cons (pv 2) pa_nil)))))))), ?_⟩
    refine ⟨_, rfl, _, rfl, a, b, n, n', f, g, rfl, ha, hb, fun c H1 s1 hc => ?_⟩
    refine ⟨c, rfl, ?_⟩
    by_cases hcc : c = false
    · refine iteT' (by rw [hcc]; rfl) ?_
      exact q .non H1 s1 (fun _ => rfl) fun z => absurd (hc.mpr z) (by rw [hcc]; decide)
    replace hcc : c = true := by simpa using hcc
    refine iteF' (by rw [hcc]; rfl) ?_
    have al := hc.mp hcc
    obtain ⟨rfl, al1, al2⟩ := id al
    have wf := ha.wf
    have wg := hb.wf
    have hn3 := ha.hi
    refine fun D n_D => ?_
    generalize g_D : L2.upd _ D _ = H2
    obtain ⟨s_H2, e_D⟩ := U.upd_facts g_D n_D
    clear g_D
    have ha2 := (ha.same s1).same s_H2
    have hb2 := (hb.same s1).same s_H2
    refine ⟨_, rfl, a, n, f, rfl, ha2, fun t lc lh cA hA H3 s3 e1 e2 e3 r1 r2 n1 n2 n3 w1 w2 => ?_⟩
    refine ⟨_, rfl, b, n, g, rfl, hb2.same s3, fun t' lc' lh' cB hB H4 s4 e1' e2' e3' r1' r2' n1' n2' n3' w1' w2' => ?_⟩
    refine ⟨t, t', _, _, true, rfl, SqT.of (s4 _ _ e1), SqT.of e1', ?_⟩
    have s24 := s3.trans s4
    have hD2 : ∀ (x : Addr) (o : HO), H1 x = some o → x ≠ D := fun x o e => ne_of_none e n_D
    have nlD : ∀ {x : Addr} {Hx : Hp}, Hx D = some (.dK (kvI [])) → ∀ {ys}, Hx x = some (.lst ys) → x ≠ D := fun e ys e' z => by rw [z, e] at e'; cases e'
    have eD4 : H4 D = some (.dK (kvI [])) := s24 _ _ e_D
    have lns : ∀ {f : PF} {s : List Int}, (s.map (rowN f)).map (·.length) = lens f s := fun {f s} => by
      unfold lens
      rw [List.map_map]
      rfl
    have s3' := s4
    have facts : ∀ i x y, i < 2 → [V.ref lc, V.ref lh][i]? = some x → [V.ref lc', V.ref lh'][i]? = some y → ∃ l as l' as', x = .ref l ∧ y = .ref l' ∧ H4 l = some (.lst (as.map V.ref)) ∧ H4 l' = some (.lst (as'.map V.ref)) ∧ RowsAt H4 as ((selK n f i).map (rowN f)) ∧ RowsAt H4 as' ((selK n g i).map (rowN g)) ∧ (lens f (selK n f i)).Perm (lens g (selK n g i)) := fun i x y hi hx hy => by
      match i, hi, hx, hy with
      | 0, _, hx, hy =>
        cases hx
        cases hy
        exact ⟨lc, cA, lc', cB, rfl, rfl, s4 _ _ e2, e2', r1.same s4, r1', cnt_perm_of (cN_of_cnt al1)⟩
      | 1, _, hx, hy =>
        cases hx
        cases hy
        exact ⟨lh, hA, lh', hB, rfl, rfl, s4 _ _ e3, e3', r2.same s4, r2', cnt_perm_of (cN_of_cnt al2)⟩
    have sel3 : ∀ (f : PF) i, (selK n f i).length ≤ 300 := fun f i => by
      unfold selK
      have e : (rgI n.toNat).length = n.toNat := by simp [rgI]
      split
      · have := (cycS_sub n f).1.length_le
        omega
      · have := List.length_filter_le (nonT n f) (rgI n.toNat)
        unfold nons
        omega
    refine for_it (walk_zipS (K := K) (tup := true) (a := t) (b := t') (xs := [.ref lc, .ref lh]) (ys := [.ref lc', .ref lh']) rfl) (fun i σ H' => ∃ v3 v4 v5 v6 l, σ = [some (.ref a), some (.ref b), some (.ref D), v3, v4, v5, v6] ∧ Off D H4 H' ∧ H' D = some (.dK (kvI l)) ∧ ArrR n f g i l)
      ⟨_, _, _, _, [], rfl, fun b o _ e => e, eD4, rfl⟩ (fun i σ H' _ ⟨_, _, _, _, _, _, o, _⟩ => ⟨SqT.of (o _ _ (fun z => by rw [z] at e1; have := s3 _ _ e_D; rw [this] at e1; cases e1) (s4 _ _ e1)), SqT.of (o _ _ (fun z => by rw [z, eD4] at e1'; cases e1') e1')⟩) ?_ ?_
    · rintro i v σ Ha0 Ha hi ⟨v3, v4, v5, v6, l, rfl, oa, eD, hA⟩ ⟨T0, x, y, rfl, n_T0, rfl, ex, ey⟩
      generalize g_T0 : L2.upd _ T0 _ = Hb
      obtain ⟨s_Hb, e_T0⟩ := U.upd_facts g_T0 n_T0
      clear g_T0
      obtain ⟨l1, as, l2, as', rfl, rfl, el1, el2, rA, rB, pl⟩ := facts i x y hi ex ey
      refine ⟨T0, [.ref l1, .ref l2], rfl, SqT.of e_T0, rfl, .ref l1, [.ref l2], rfl, .ref l2, [], rfl, rfl, ?_⟩
      have nD1 : ∀ {x : Addr} {ys}, H4 x = some (.lst ys) → x ≠ D := fun e z => by rw [z, eD4] at e; cases e
      have up : ∀ {x : Addr} {ys}, H4 x = some (.lst ys) → Hb x = some (.lst ys) := fun e => s_Hb _ _ (oa _ _ (nD1 e) e)
      have eDb := s_Hb _ _ eD
      have lA := rA.len
      have lB := rB.len
      rw [List.length_map] at lA lB
      have a3 := sel3 f i
      have b3 := sel3 g i
      refine ⟨_, rfl, l1, as, _, rfl, up el1, rA.map fun a ha xs e => up e, by omega, fun p1 as1 R1 Hc np1 ep1 rR1 pm1 so1 hl1 sc => ?_⟩
      refine ⟨_, rfl, l2, as', _, rfl, sc _ _ (up el2), rB.map fun a ha xs e => sc _ _ (up e), by omega, fun p2 as2 R2 Hd np2 ep2 rR2 pm2 so2 hl2 sd => ?_⟩
      have ep1' := sd _ _ ep1
      have rR1' := rR1.same sd
      have eDd := sd _ _ (sc _ _ eDb)
      have hlens : R1.map (·.length) = R2.map (·.length) := by
        have q1 := pm1.map (·.length)
        have q2 := pm2.map (·.length)
        rw [lns] at q1 q2
        exact so_eq (q1.trans (pl.trans q2.symm)) (List.pairwise_map.mpr so1) (List.pairwise_map.mpr so2)
      have hlen : R1.length = R2.length := by have := congrArg List.length hlens; rwa [List.length_map, List.length_map] at this
      have hA' := arrR_step hi hA pm1 pm2 hlens
      obtain ⟨ndA, lnA⟩ := arrR_nd wf hA'
      have hl12 : (as1.map V.ref).length = (as2.map V.ref).length := by
        rw [List.length_map, List.length_map, rR1'.len, rR2.len, hlen]
      refine ⟨p1, p2, _, _, false, rfl, SqL.of ep1', SqL.of ep2, ?_⟩
      refine for_it (walk_zipS (K := K) (tup := false) (a := p1) (b := p2) (xs := as1.map V.ref) (ys := as2.map V.ref) hl12) (fun k σ H' => ∃ v5 v6, σ = [some (.ref a), some (.ref b), some (.ref D), some (.ref l1), some (.ref l2), v5, v6] ∧ Off D Hd H' ∧ H' D = some (.dK (kvI (l ++ prL (R1.take k) (R2.take k)))))
        ⟨_, _, rfl, fun b o _ e => e, by rw [List.take_zero, List.take_zero, show prL [] [] = [] from rfl, List.append_nil]; exact eDd⟩ (fun k σ H' _ ⟨_, _, _, o, _⟩ => ⟨SqL.of (o _ _ (fun z => by rw [z, eDd] at ep1'; cases ep1') ep1'), SqL.of (o _ _ (fun z => by rw [z, eDd] at ep2; cases ep2) ep2)⟩) ?_ ?_
      · rintro k v σ He0 He hk ⟨v5, v6, rfl, oe, eDe⟩ ⟨T1, x, y, rfl, n_T1, rfl, ex, ey⟩
        generalize g_T1 : L2.upd _ T1 _ = Hf
        obtain ⟨s_Hf, e_T1⟩ := U.upd_facts g_T1 n_T1
        clear g_T1
        rw [List.length_map] at hk
        obtain ⟨r1a, er1⟩ : ∃ q, as1[k]? = some q := ⟨_, List.getElem?_eq_getElem hk⟩
        obtain ⟨r2a, er2⟩ : ∃ q, as2[k]? = some q := ⟨_, List.getElem?_eq_getElem (by rw [List.length_map, List.length_map] at hl12; omega)⟩
        dsimp only at ex ey
        rw [List.getElem?_map, er1] at ex
        rw [List.getElem?_map, er2] at ey
        cases ex
        cases ey
        obtain ⟨ra, era, hra⟩ := rR1'.get k r1a er1
        obtain ⟨rb, erb, hrb⟩ := rR2.get k r2a er2
        have hab : ra.length = rb.length := by
          have := congrArg (·[k]?) hlens
          simp only [List.getElem?_map, era, erb] at this
          exact Option.some.inj this
        have nDd : ∀ {x : Addr} {ys}, Hd x = some (.lst ys) → x ≠ D := fun e z => by rw [z, eDd] at e; cases e
        have upf : ∀ {x : Addr} {ys}, Hd x = some (.lst ys) → Hf x = some (.lst ys) := fun e => s_Hf _ _ (oe _ _ (nDd e) e)
        have eDf := s_Hf _ _ eDe
        refine ⟨T1, [.ref r1a, .ref r2a], rfl, SqT.of e_T1, rfl, .ref r1a, [.ref r2a], rfl, .ref r2a, [], rfl, rfl, ?_⟩
        refine ⟨_, rfl, .inr (.inr (.inl ⟨rfl, .inl ⟨_, eDf⟩⟩)), cons_of ?_⟩
        refine ⟨_, rfl, _, rfl, r1a, r2a, ra.map Sum.inl, _, rfl, .inl ⟨by rw [map_kVI]; exact SqL.of (upf hra), SqL.of (upf hrb)⟩, by rw [List.length_map, List.length_map, hab], ?_⟩
        rw [kvI_zipI]
        refine fun E n_E => ?_
        generalize g_E : L2.upd _ E _ = Hg
        obtain ⟨s_Hg, e_E⟩ := U.upd_facts g_E n_E
        clear g_E
        have hpre : ∃ rest, l ++ prL R1 R2 = (l ++ prL (R1.take k) (R2.take k)) ++ ra.zip rb ++ rest := by
          obtain ⟨rest, er⟩ := prL_sub hlen (k + 1)
          rw [prL_take era erb] at er
          exact ⟨rest, by rw [er]; simp only [List.append_assoc]⟩
        obtain ⟨rest, hrest⟩ := hpre
        have nd3 : ((((l ++ prL (R1.take k) (R2.take k)) ++ ra.zip rb)).map (·.1)).Nodup := by
          rw [hrest, List.map_append] at ndA
          exact (List.sublist_append_left _ _).nodup ndA
        have ndz : ((ra.zip rb).map (·.1)).Nodup := by
          rw [List.map_append] at nd3
          exact (List.sublist_append_right _ _).nodup nd3
        have ln3 : (l ++ prL (R1.take k) (R2.take k)).length + (ra.zip rb).length ≤ 300 := by
          rw [hrest, List.length_append, List.length_append] at lnA
          omega
        rw [merge_nil ndz] at e_E
        refine ⟨D, E, _, _, rfl, rfl, (fun z => by rw [← z, eDf] at n_E; cases n_E), s_Hg _ _ eDf, e_E, le_line (by rw [kvI_length, kvI_length]; omega), ?_⟩
        rw [merge_new _ _ nd3, List.append_assoc, ← prL_take era erb]
        exact ⟨_, _, rfl, fun b o h e => by rw [upd_ne h]; exact s_Hg _ _ (s_Hf _ _ (oe _ _ h e)), upd_same⟩
      · rintro σ He ⟨v5, v6, rfl, oe, eDe⟩
        have lR : R1.length = as1.length := rR1'.len.symm
        rw [List.length_map, ← lR, List.take_length, hlen, List.take_length] at eDe
        exact ⟨_, _, _, _, _, rfl, fun b o h e => oe _ _ h (sd _ _ (sc _ _ (s_Hb _ _ (oa _ _ h e)))), eDe, hA'⟩
    · rintro σ Ha ⟨v3, v4, v5, v6, l, rfl, oa, eD, hA⟩
      obtain ⟨CA, CB, HA, HB, r, rfl⟩ : ∃ CA CB HA HB, RowsOn n f g CA CB HA HB ∧ l = renL CA CB HA HB := hA
      have di := ren_di wf r
      have wl := ren_wf wf wg r
      have hln := (arrR_nd (i := 2) wf (show ArrR n f g 2 _ from ⟨CA, CB, HA, HB, r, rfl⟩)).2
      have sF : Same H Ha := fun x o e => oa _ _ (hD2 _ _ (s1 _ _ e)) (s24 _ _ (s_H2 _ _ (s1 _ _ e)))
      have haF := ha.same sF
      obtain ⟨dx, D1, e5, _⟩ := id haF.ob
      refine ⟨_, rfl, a, dx, _, rfl, e5, a, n, f, rfl, haF, _, rfl, ?_⟩
      exact fun x dx' nx ndx ne => init_of eD di wl ha.lo hn3 (by omega) nx ndx ne fun H9 s9 m9 => ⟨rfl, q (.ref x) H9 (sF.trans s9) (fun z => absurd al z) fun _ => ⟨x, CA, CB, HA, HB, rfl, r, m9⟩⟩
end
end My
set_option maxHeartbeats 1000000
namespace My
open PySem L2 U StX PM
/-! ### maps that are carried to each other by a renaming have the same numbers of cycles and chains -/
structure CJ (n : Int) (f g : PF) (ρ : Int → Int) : Prop where
  dom : ∀ x, 0 ≤ x → x < n → 0 ≤ ρ x ∧ ρ x < n
  inj : ∀ x y, 0 ≤ x → x < n → 0 ≤ y → y < n → ρ x = ρ y → x = y
  sur : ∀ y, 0 ≤ y → y < n → ∃ x, 0 ≤ x ∧ x < n ∧ ρ x = y
  st : ∀ x, 0 ≤ x → x < n → g (ρ x) = (f x).map ρ
section
variable {n : Int} {f g : PF} {ρ : Int → Int}
theorem iter_rng (w : WF n f) {x y : Int} {k : Nat} (h0 : 0 ≤ x) (h1 : x < n) (h : iter f k x = some y) : 0 ≤ y ∧ y < n := by
  cases k with
  | zero => cases h; exact ⟨h0, h1⟩
  | succ k =>
    have := (wf_iter w k).dom _ _ h
    exact ⟨this.2.2.1, this.2.2.2⟩
theorem CJ.iter (c : CJ n f g ρ) (w : WF n f) : ∀ (k : Nat) {x : Int}, 0 ≤ x → x < n → PM.iter g k (ρ x) = (PM.iter f k x).map ρ
  | 0, x, _, _ => rfl
  | k + 1, x, h0, h1 => by
    show (PM.iter g k (ρ x)).bind g = ((PM.iter f k x).bind f).map ρ
    rw [c.iter w k h0 h1]
    cases e : PM.iter f k x with
    | none => rfl
    | some y =>
      have hd := iter_rng w h0 h1 e
      exact c.st y hd.1 hd.2
theorem CJ.per (c : CJ n f g ρ) (w : WF n f) {a : Int} (h0 : 0 ≤ a) (h1 : a < n) (k : Nat) : PM.iter g k (ρ a) = some (ρ a) ↔ PM.iter f k a = some a := by
  rw [c.iter w k h0 h1, Option.map_eq_some_iff]
  constructor
  · rintro ⟨y, hy, e⟩
    have hd := iter_rng w h0 h1 hy
    rw [hy, c.inj _ _ hd.1 hd.2 h0 h1 e]
  · exact fun h => ⟨a, h, rfl⟩
theorem CJ.isPer (c : CJ n f g ρ) (w : WF n f) {a : Int} (h0 : 0 ≤ a) (h1 : a < n) (k : Nat) : My.isPer g (ρ a) k ↔ My.isPer f a k := by
  unfold My.isPer
  rw [c.per w h0 h1]
  refine and_congr Iff.rfl (and_congr Iff.rfl ?_)
  exact forall_congr' fun j => forall_congr' fun _ => forall_congr' fun _ => not_congr (c.per w h0 h1 j)
theorem cyc_rng (w : WF n f) {a : Int} (h : a ∈ seenL f (cycS n f)) : 0 ≤ a ∧ a < n := seen_dom w (List.mem_append.mpr (.inl h))
open Classical in
theorem cyc_sum (w : WF n f) (k : Nat) : ((seenL f (cycS n f)).map fun a => if isPer f a k then (1 : Int) else 0).sum = (k : Int) * bag (ones (lens f (cycS n f))) (k : Int) := by
  rw [bag_wsum, wsum_ones, sum_rows (v := fun e => if (rowN f e).length = k then 1 else 0) (fun e he a ha => ?_)]
  · refine Eq.trans ?_ (sum_mulc (k : Int) (lens f (cycS n f)) (dl k))
    unfold lens
    rw [List.map_map]
    congr 1
    refine List.map_congr_left fun e _ => ?_
    show _ = (k : Int) * (if ((rowN f e).length : Int) = k then (1 : Int) else 0)
    by_cases h : (rowN f e).length = k
    · rw [if_pos h, if_pos (by omega), h]
    · rw [if_neg h, if_neg (by omega), Int.mul_zero, Int.mul_zero]
  · have := per_cyc w (e0 := 1) he ha k
    rw [iter_one, Nat.gcd_one_right, Nat.div_one] at this
    by_cases h : (rowN f e).length = k
    · rw [if_pos h, if_pos (this.mpr h.symm)]
    · rw [if_neg h, if_neg fun z => h (this.mp z).symm]
theorem nd_mapI {s : List Int} (h : s.Nodup) (i : ∀ x ∈ s, ∀ y ∈ s, ρ x = ρ y → x = y) : (s.map ρ).Nodup := by
  rw [List.nodup_iff_pairwise_ne, List.pairwise_map]
  exact (List.nodup_iff_pairwise_ne.mp h).imp_of_mem fun {a b} ha hb hab e => hab (i a ha b hb e)
theorem CJ.cyc (c : CJ n f g ρ) (w : WF n f) (wg : WF n g) : (seenL g (cycS n g)).Perm ((seenL f (cycS n f)).map ρ) := by
  refine (List.perm_ext_iff_of_nodup (nd_cyc wg) (nd_mapI (nd_cyc w) fun x hx y hy e => ?_)).mpr fun a => ?_
  · have := cyc_rng w hx
    have := cyc_rng w hy
    exact c.inj _ _ (by omega) (by omega) (by omega) (by omega) e
  · rw [List.mem_map]
    constructor
    · intro h
      have hr := cyc_rng wg h
      obtain ⟨x, h0, h1, rfl⟩ := c.sur a hr.1 hr.2
      obtain ⟨k, hk, e⟩ := (mem_cyc wg).mp h
      exact ⟨x, (mem_cyc w).mpr ⟨k, hk, (c.per w h0 h1 k).mp e⟩, rfl⟩
    · rintro ⟨x, hx, rfl⟩
      have hr := cyc_rng w hx
      obtain ⟨k, hk, e⟩ := (mem_cyc w).mp hx
      exact (mem_cyc wg).mpr ⟨k, hk, (c.per w hr.1 hr.2 k).mpr e⟩
open Classical in
theorem CJ.cycN (c : CJ n f g ρ) (w : WF n f) (wg : WF n g) : cnt (lens f (cycS n f)) = cnt (lens g (cycS n g)) := by
  rw [cnt_bag, cnt_bag]
  congr 1
  funext x
  by_cases hx : 1 ≤ x
  · obtain ⟨k, rfl⟩ : ∃ k : Nat, x = (k : Int) := ⟨x.toNat, by omega⟩
    have hs := perm_sum ((c.cyc w wg).map fun a => if My.isPer g a k then (1 : Int) else 0)
    rw [List.map_map, cyc_sum wg] at hs
    have h2 : ((seenL f (cycS n f)).map ((fun a => if My.isPer g a k then (1 : Int) else 0) ∘ ρ)) = (seenL f (cycS n f)).map fun a => if My.isPer f a k then (1 : Int) else 0 := by
      refine List.map_congr_left fun a ha => ?_
      have hr := cyc_rng w ha
      have := c.isPer w hr.1 hr.2 k
      show (if My.isPer g (ρ a) k then (1 : Int) else 0) = _
      by_cases h : My.isPer f a k
      · rw [if_pos h, if_pos (this.mpr h)]
      · rw [if_neg h, if_neg fun z => h (this.mp z)]
    rw [h2, cyc_sum w] at hs
    exact (Int.eq_of_mul_eq_mul_left (by omega) hs).symm
  · have z : ∀ {f : PF}, WF n f → bag (ones (lens f (cycS n f))) x = 0 := fun {f} w => by
      rw [bag_ones]
      unfold cN
      rw [List.filter_eq_nil_iff.mpr fun L hL => by
        obtain ⟨e, he, rfl⟩ := List.mem_map.mp hL
        have hd := cycS_dom he
        have := row_pos w hd.1 hd.2
        rw [decide_eq_true_eq]
        omega]
      rfl
    rw [z w, z wg]
theorem CJ.row (c : CJ n f g ρ) (w : WF n f) {e : Int} (h0 : 0 ≤ e) (h1 : e < n) : rowN g (ρ e) = (rowN f e).map ρ := by
  have hr := rowN_is w h0 h1
  have hdom := hr.dom w h0 h1
  refine rowN_eq ?_
  obtain ⟨pre, z, er, R, hz⟩ := id hr
  have hzd := hdom z (by rw [er]; simp)
  refine ⟨pre.map ρ, ρ z, by rw [er, List.map_append]; rfl, ⟨?_, fun i a b ha hb => ?_⟩, ?_⟩
  · rw [List.getElem?_map, R.h0]; rfl
  · rw [List.getElem?_map] at ha hb
    obtain ⟨a', ea, rfl⟩ := Option.map_eq_some_iff.mp ha
    obtain ⟨b', eb, rfl⟩ := Option.map_eq_some_iff.mp hb
    obtain ⟨s1, s2⟩ := R.st i a' b' ea eb
    have da := hdom a' (List.mem_of_getElem? ea)
    have db := hdom b' (List.mem_of_getElem? eb)
    refine ⟨by rw [c.st a' da.1 da.2, s1]; rfl, fun z => s2 (c.inj _ _ db.1 db.2 h0 h1 z)⟩
  · rcases hz with hz | hz
    · exact .inl (by rw [c.st z hzd.1 hzd.2, hz]; rfl)
    · exact .inr (by rw [c.st z hzd.1 hzd.2, hz]; rfl)
theorem CJ.nons (c : CJ n f g ρ) (w : WF n f) (wg : WF n g) : (nons n g).Perm ((nons n f).map ρ) := by
  refine (List.perm_ext_iff_of_nodup (nodup_of_lt (nons_lt n g)) (nd_mapI (nodup_of_lt (nons_lt n f)) fun x hx y hy e => ?_)).mpr fun a => ?_
  · have := nons_dom hx
    have := nons_dom hy
    exact c.inj _ _ (by omega) (by omega) (by omega) (by omega) e
  · rw [List.mem_map]
    constructor
    · intro h
      have hr := nons_dom h
      obtain ⟨x, h0, h1, rfl⟩ := c.sur a hr.1 hr.2.1
      refine ⟨x, List.mem_filter.mpr ⟨mem_rgI.mpr ⟨h0, by omega⟩, (nonT_iff w).mpr fun y hy => ?_⟩, rfl⟩
      have hd := w.dom _ _ hy
      refine (nonT_iff wg).mp hr.2.2 (ρ y) ?_
      rw [c.st y hd.1 hd.2.1, hy]
      rfl
    · rintro ⟨x, hx, rfl⟩
      have hr := nons_dom hx
      have hρ := c.dom x hr.1 hr.2.1
      refine List.mem_filter.mpr ⟨mem_rgI.mpr ⟨hρ.1, by omega⟩, (nonT_iff wg).mpr fun y hy => ?_⟩
      have hd := wg.dom _ _ hy
      obtain ⟨y', h0, h1, rfl⟩ := c.sur y hd.1 hd.2.1
      rw [c.st y' h0 h1] at hy
      obtain ⟨z, hz, ez⟩ := Option.map_eq_some_iff.mp hy
      have hzd := w.dom _ _ hz
      rw [c.inj _ _ hzd.2.2.1 hzd.2.2.2 hr.1 hr.2.1 ez] at hz
      exact (nonT_iff w).mp hr.2.2 y' hz
theorem cN_perm {A B : List Nat} (h : A.Perm B) (x : Int) : cN A x = cN B x := (h.filter _).length_eq
theorem CJ.chnN (c : CJ n f g ρ) (w : WF n f) (wg : WF n g) : cnt (lens f (PM.nons n f)) = cnt (lens g (PM.nons n g)) := by
  have pm : (lens g (PM.nons n g)).Perm (lens f (PM.nons n f)) := by
    have := (c.nons w wg).map fun e => (rowN g e).length
    rw [List.map_map] at this
    refine this.trans (List.Perm.of_eq ?_)
    unfold lens
    refine List.map_congr_left fun e he => ?_
    have hd := nons_dom he
    show (rowN g (ρ e)).length = (rowN f e).length
    rw [c.row w hd.1 hd.2.1, List.length_map]
  rw [cnt_bag, cnt_bag]
  congr 1
  funext x
  rw [bag_ones, bag_ones, cN_perm pm]
theorem CJ.alike (c : CJ n f g ρ) (w : WF n f) (wg : WF n g) : Alike n f n g := ⟨rfl, c.cycN w wg, c.chnN w wg⟩
end
end My
set_option maxHeartbeats 1000000
namespace My
open PySem L2 U StX PM
theorem dEq_eqB {n : Int} {l l' : List (Int × Int)} {f g : PF} (d : DI l f) (d' : DI l' g) (wf : WF n f) (wg : WF n g) : dEq (kvI l) (kvI l') = eqB n f n g := by
  unfold eqB
  rw [decide_eq_true rfl, Bool.true_and]
  by_cases h : f = g
  · subst h
    rw [dEq_di d d', dEq_di (di_tab wf) (di_tab wg)]
  · have h1 : dEq (kvI l) (kvI l') = false := by
      cases z : dEq (kvI l) (kvI l') with
      | false => rfl
      | true => exact absurd (dEq_f d d' z) h
    have h2 : dEq (kvI (tab n f)) (kvI (tab n g)) = false := by
      cases z : dEq (kvI (tab n f)) (kvI (tab n g)) with
      | false => rfl
      | true => exact absurd (dEq_f (di_tab wf) (di_tab wg) z) h
    rw [h1, h2]
theorem full_lenF {n : Int} {h : PF} (w : WF n h) (hf : ∀ x, 0 ≤ x → x < n → ∃ y, h x = some y) (n0 : 0 ≤ n) : lenF n h = n := by
  have d := di_tab w
  have nd : (rgI n.toNat).Nodup := nodup_of_lt (rgI_lt _)
  have := List.Nodup.length_le_of_subset nd (l₂ := (tab n h).map (·.1)) fun x hx => by
    have hr := mem_rgI.mp hx
    obtain ⟨y, hy⟩ := hf x hr.1 (by omega)
    exact List.mem_map.mpr ⟨(x, y), d.mem.mpr hy, rfl⟩
  have e : (rgI n.toNat).length = n.toNat := by simp [rgI]
  rw [List.length_map] at this
  have := (lenF_b (n := n) (f := h)).2
  unfold lenF at this ⊢
  omega
def mapR (ρ : Int → Int) (l : List (Int × Int)) : List (Int × Int) := l.map fun p => (ρ p.1, ρ p.2)
theorem madeI_all (kf vi : Int → Int → Int) (l : List (Int × Int)) : madeI (fun _ _ => true) kf vi l = l.map fun p => (kf p.1 p.2, vi p.1 p.2) := by
  unfold madeI
  rw [List.filter_eq_self.mpr fun _ _ => rfl]
/-- what a full map carries an arrow to -/
theorem mapR_di {n : Int} {l : List (Int × Int)} {f h : PF} (d : DI l f) (w : WF n f) (wh : WF n h) (hf : ∀ x, 0 ≤ x → x < n → ∃ y, h x = some y) : DI (mapR (fun x => (h x).getD 0) l) (mul (mul (inv n h) f) h) := by
  have key : ∀ x, 0 ≤ x → x < n → h x = some ((h x).getD 0) := fun x a b => by
    obtain ⟨y, hy⟩ := hf x a b
    rw [hy]
    rfl
  refine di_of ?_ fun a b => ?_
  · have e : (mapR (fun x => (h x).getD 0) l).map (·.1) = (l.map (·.1)).map fun x => (h x).getD 0 := by unfold mapR; rw [List.map_map, List.map_map]; rfl
    rw [e]
    refine nd_mapI d.nd fun x hx y hy e => ?_
    obtain ⟨p, hp, rfl⟩ := List.mem_map.mp hx
    obtain ⟨q, hq, rfl⟩ := List.mem_map.mp hy
    have dp := w.dom _ _ (d.mem.mp hp)
    have dq := w.dom _ _ (d.mem.mp hq)
    exact wh.inj _ _ _ (key _ dp.1 dp.2.1) (by rw [e]; exact key _ dq.1 dq.2.1)
  · rw [show mul (mul (inv n h) f) h a = ((inv n h a).bind f).bind h from rfl]
    unfold mapR
    rw [List.mem_map]
    constructor
    · rintro ⟨⟨x, y⟩, hp, e⟩
      have hxy := d.mem.mp hp
      have dp := w.dom _ _ hxy
      cases e
      rw [(inv_iff wh).mpr (key x dp.1 dp.2.1)]
      show (f x).bind h = _
      rw [hxy]
      exact key y dp.2.2.1 dp.2.2.2
    · intro hh
      obtain ⟨y, hy, hb⟩ := Option.bind_eq_some_iff.mp hh
      obtain ⟨x, hx, hxy⟩ := Option.bind_eq_some_iff.mp hy
      have hxa := (inv_iff wh).mp hx
      exact ⟨(x, y), d.mem.mpr hxy, by show ((h x).getD 0, (h y).getD 0) = (a, b); rw [hxa, hb]; rfl⟩
/-- an order of the elements -/
def rowF (row : List Int) (x : Int) : Int := (row[x.toNat]?).getD 0
section
variable {n : Int} {row : List Int}
theorem row_at9 (pm : row.Perm (rgI n.toNat)) {x : Int} (h0 : 0 ≤ x) (h1 : x < n) : row[x.toNat]? = some (rowF row x) := by
  have hl : row.length = n.toNat := by rw [pm.length_eq]; simp [rgI]
  unfold rowF
  rw [List.getElem?_eq_getElem (by omega)]
  rfl
theorem row_dom (pm : row.Perm (rgI n.toNat)) {x : Int} (h0 : 0 ≤ x) (h1 : x < n) : 0 ≤ rowF row x ∧ rowF row x < n := by
  have := mem_rgI.mp (pm.mem_iff.mp (List.mem_of_getElem? (row_at9 pm h0 h1)))
  omega
theorem row_inj (pm : row.Perm (rgI n.toNat)) {x y : Int} (h0 : 0 ≤ x) (h1 : x < n) (g0 : 0 ≤ y) (g1 : y < n) (e : rowF row x = rowF row y) : x = y := by
  have nd : row.Nodup := pm.nodup_iff.mpr (nodup_of_lt (rgI_lt _))
  have a := row_at9 pm h0 h1
  have b := row_at9 pm g0 g1
  rw [e] at a
  have := (List.getElem?_inj (List.getElem?_eq_some_iff.mp a).1 nd).mp (a.trans b.symm)
  omega
theorem row_sur (pm : row.Perm (rgI n.toNat)) {y : Int} (h0 : 0 ≤ y) (h1 : y < n) : ∃ x, 0 ≤ x ∧ x < n ∧ rowF row x = y := by
  obtain ⟨i, hi⟩ := List.getElem?_of_mem (pm.mem_iff.mpr (mem_rgI.mpr ⟨h0, by omega⟩))
  have hl : row.length = n.toNat := by rw [pm.length_eq]; simp [rgI]
  have := (List.getElem?_eq_some_iff.mp hi).1
  refine ⟨(i : Nat), by omega, by omega, ?_⟩
  unfold rowF
  rw [Int.toNat_natCast, hi]
  rfl
theorem row_di {l : List (Int × Int)} {f : PF} (pm : row.Perm (rgI n.toNat)) (d : DI l f) (w : WF n f) : DI (mapR (rowF row) l) (lk (mapR (rowF row) l)) := by
  refine ⟨?_, fun _ => rfl⟩
  have e : (mapR (rowF row) l).map (·.1) = (l.map (·.1)).map (rowF row) := by unfold mapR; rw [List.map_map, List.map_map]; rfl
  rw [e]
  refine nd_mapI d.nd fun x hx y hy e => ?_
  obtain ⟨p, hp, rfl⟩ := List.mem_map.mp hx
  obtain ⟨q, hq, rfl⟩ := List.mem_map.mp hy
  have dp := w.dom _ _ (d.mem.mp hp)
  have dq := w.dom _ _ (d.mem.mp hq)
  exact row_inj pm dp.1 dp.2.1 dq.1 dq.2.1 e
theorem row_lk {l : List (Int × Int)} {f : PF} (pm : row.Perm (rgI n.toNat)) (d : DI l f) (w : WF n f) {a b : Int} : lk (mapR (rowF row) l) a = some b ↔ ∃ x y, f x = some y ∧ a = rowF row x ∧ b = rowF row y := by
  rw [← (row_di pm d w).mem]
  unfold mapR
  rw [List.mem_map]
  constructor
  · rintro ⟨p, hp, e⟩
    cases e
    exact ⟨p.1, p.2, d.mem.mp hp, rfl, rfl⟩
  · rintro ⟨x, y, h, rfl, rfl⟩
    exact ⟨(x, y), d.mem.mpr h, rfl⟩
theorem row_wf {l : List (Int × Int)} {f : PF} (pm : row.Perm (rgI n.toNat)) (d : DI l f) (w : WF n f) : WF n (lk (mapR (rowF row) l)) := by
  refine ⟨fun a b h => ?_, fun a a' b h h' => ?_⟩
  · obtain ⟨x, y, e, rfl, rfl⟩ := (row_lk pm d w).mp h
    have hd := w.dom _ _ e
    have h1 := row_dom pm hd.1 hd.2.1
    have h2 := row_dom pm hd.2.2.1 hd.2.2.2
    exact ⟨h1.1, h1.2, h2.1, h2.2⟩
  · obtain ⟨x, y, e, rfl, rfl⟩ := (row_lk pm d w).mp h
    obtain ⟨x', y', e', rfl, ey⟩ := (row_lk pm d w).mp h'
    have hd := w.dom _ _ e
    have hd' := w.dom _ _ e'
    have := row_inj pm hd.2.2.1 hd.2.2.2 hd'.2.2.1 hd'.2.2.2 ey
    subst this
    rw [w.inj _ _ _ e e']
theorem row_cj {l : List (Int × Int)} {f : PF} (pm : row.Perm (rgI n.toNat)) (d : DI l f) (w : WF n f) : CJ n f (lk (mapR (rowF row) l)) (rowF row) := by
  refine ⟨fun x a b => row_dom pm a b, fun x y a b c e => row_inj pm a b c e, fun y a b => row_sur pm a b, fun x h0 h1 => ?_⟩
  cases e : f x with
  | some y => exact (row_lk pm d w).mpr ⟨x, y, e, rfl, rfl⟩
  | none =>
    cases e2 : lk (mapR (rowF row) l) (rowF row x) with
    | none => rfl
    | some b =>
      obtain ⟨x', y', e', ex, _⟩ := (row_lk pm d w).mp e2
      have hd := w.dom _ _ e'
      rw [row_inj pm h0 h1 hd.1 hd.2.1 ex, e'] at e
      cases e
end
/-- a map whose own dict is another than this one -/
def IsMapD (C d : Addr) (H : Hp) (a : Addr) (n : Int) (f : PF) : Prop := IsMap C H a n f ∧ ∃ dx D, H a = some (.ins C dx (flds n D)) ∧ D ≠ d
theorem IsMapD.same {C d : Addr} {H H' : Hp} {a : Addr} {n : Int} {f : PF} (h : IsMapD C d H a n f) (s : Same H H') : IsMapD C d H' a n f := by
  obtain ⟨m, dx, D, e, nD⟩ := h
  exact ⟨m.same s, dx, D, s _ _ e, nD⟩
end My
set_option maxHeartbeats 1000000
namespace My
open PySem L2 U StX PM
/-! ### all orders of the numbers below n, and how many of them carry a map to another -/
def ordK (n : Nat) : Nat → List (List Int)
  | 0 => [[]]
  | k + 1 => (ordK n k).flatMap fun row => ((rgI n).filter fun x => !decide (x ∈ row)).map fun x => row ++ [x]
theorem mem_ordK {n : Nat} : ∀ {k : Nat} {row : List Int}, row ∈ ordK n k ↔ row.length = k ∧ row.Nodup ∧ ∀ x ∈ row, x ∈ rgI n
  | 0, row => by
    show row ∈ [[]] ↔ _
    rw [List.mem_singleton]
    constructor
    · rintro rfl
      exact ⟨rfl, List.nodup_nil, fun x h => nomatch h⟩
    · rintro ⟨h, _⟩
      exact List.eq_nil_of_length_eq_zero h
  | k + 1, row => by
    show row ∈ (ordK n k).flatMap _ ↔ _
    rw [List.mem_flatMap]
    constructor
    · rintro ⟨r, hr, hm⟩
      obtain ⟨h1, h2, h3⟩ := mem_ordK.mp hr
      obtain ⟨x, hx, rfl⟩ := List.mem_map.mp hm
      obtain ⟨hx1, hx2⟩ := List.mem_filter.mp hx
      have hx3 : x ∉ r := by simpa using hx2
      refine ⟨by rw [List.length_append, h1]; rfl, ?_, fun y hy => ?_⟩
      · rw [List.nodup_append]
        refine ⟨h2, (by simp), fun a ha b hb e => ?_⟩
        rw [List.mem_singleton] at hb
        subst hb
        subst e
        exact hx3 ha
      · rcases List.mem_append.mp hy with hy | hy
        · exact h3 y hy
        · rw [List.mem_singleton] at hy
          subst hy
          exact hx1
    · rintro ⟨h1, h2, h3⟩
      have hne : row ≠ [] := fun z => by rw [z] at h1; cases h1
      have e := List.dropLast_concat_getLast hne
      refine ⟨row.dropLast, mem_ordK.mpr ⟨by rw [List.length_dropLast, h1]; rfl, (List.dropLast_sublist row).nodup h2, fun x hx => h3 x ((List.dropLast_sublist row).subset hx)⟩, List.mem_map.mpr ⟨row.getLast hne, List.mem_filter.mpr ⟨h3 _ (List.getLast_mem hne), ?_⟩, e⟩⟩
      rw [← e, List.nodup_append] at h2
      have : row.getLast hne ∉ row.dropLast := fun hm => h2.2.2 _ hm _ (List.mem_singleton.mpr rfl) rfl
      simpa using this
theorem nd_ordK (n : Nat) : ∀ k, (ordK n k).Nodup
  | 0 => by show [([] : List Int)].Nodup; simp
  | k + 1 => by
    show ((ordK n k).flatMap _).Nodup
    have ih := nd_ordK n k
    rw [List.nodup_iff_pairwise_ne] at ih ⊢
    rw [List.pairwise_flatMap]
    refine ⟨fun r _ => ?_, ih.imp fun {a b} hab => ?_⟩
    · rw [List.pairwise_map]
      refine (List.nodup_iff_pairwise_ne.mp ((nodup_of_lt (rgI_lt n)).sublist List.filter_sublist)).imp fun {x y} hxy e => hxy ?_
      have := List.append_cancel_left e
      exact List.cons.inj this |>.1
    · intro x hx y hy e
      obtain ⟨u, _, rfl⟩ := List.mem_map.mp hx
      obtain ⟨v, _, rfl⟩ := List.mem_map.mp hy
      exact hab (List.append_inj_left' e rfl)
def ords (n : Nat) : List (List Int) := ordK n n
theorem mem_ords {n : Nat} {row : List Int} : row ∈ ords n ↔ row.Perm (rgI n) := by
  unfold ords
  rw [mem_ordK]
  have nd : (rgI n).Nodup := nodup_of_lt (rgI_lt n)
  have hl : (rgI n).length = n := by simp [rgI]
  constructor
  · rintro ⟨h1, h2, h3⟩
    refine (List.perm_ext_iff_of_nodup h2 nd).mpr fun a => ⟨h3 a, fun ha => Classical.byContradiction fun hn => ?_⟩
    have := List.Nodup.length_le_of_subset (l₁ := a :: row) (l₂ := rgI n) (List.nodup_cons.mpr ⟨hn, h2⟩) fun x hx => by
      rcases List.mem_cons.mp hx with rfl | hx
      · exact ha
      · exact h3 x hx
    rw [List.length_cons] at this
    omega
  · intro pm
    exact ⟨by rw [pm.length_eq, hl], pm.nodup_iff.mpr nd, fun x hx => pm.mem_iff.mp hx⟩
/-- the order carries f to g -/
def goodB (n : Nat) (f g : PF) (row : List Int) : Bool := (rgI n).all fun x => decide (g (rowF row x) = (f x).map (rowF row))
def cntG (n : Nat) (f g : PF) : Nat := ((ords n).filter (goodB n f g)).length
theorem goodB_iff {n : Nat} {f g : PF} {row : List Int} (pm : row.Perm (rgI n)) : goodB n f g row = true ↔ CJ (n : Int) f g (rowF row) := by
  unfold goodB
  rw [List.all_eq_true]
  constructor
  · intro h
    exact ⟨fun x a b => row_dom (n := (n : Int)) pm a b, fun x y a b c e => row_inj (n := (n : Int)) pm a b c e, fun y a b => row_sur (n := (n : Int)) pm a b, fun x h0 h1 => by simpa using h x (mem_rgI.mpr ⟨h0, h1⟩)⟩
  · intro c x hx
    have := mem_rgI.mp hx
    exact decide_eq_true (c.st x this.1 this.2)
theorem CJ.comp {n : Int} {f g h : PF} {ρ σ : Int → Int} (a : CJ n f g ρ) (b : CJ n g h σ) (w : WF n f) : CJ n f h fun x => σ (ρ x) := by
  refine ⟨fun x h0 h1 => ?_, fun x y h0 h1 g0 g1 e => ?_, fun y h0 h1 => ?_, fun x h0 h1 => ?_⟩
  · have := a.dom x h0 h1
    exact b.dom _ this.1 this.2
  · have hx := a.dom x h0 h1
    have hy := a.dom y g0 g1
    exact a.inj _ _ h0 h1 g0 g1 (b.inj _ _ hx.1 hx.2 hy.1 hy.2 e)
  · obtain ⟨z, z0, z1, rfl⟩ := b.sur y h0 h1
    obtain ⟨x, x0, x1, rfl⟩ := a.sur z z0 z1
    exact ⟨x, x0, x1, rfl⟩
  · have hx := a.dom x h0 h1
    rw [b.st _ hx.1 hx.2, a.st x h0 h1]
    cases f x <;> rfl
theorem rowF_map {n : Nat} (ρ : Int → Int) {x : Int} (h0 : 0 ≤ x) (h1 : x < n) : rowF ((rgI n).map ρ) x = ρ x := by
  unfold rowF
  rw [List.getElem?_map]
  have : (rgI n)[x.toNat]? = some x := by
    unfold rgI
    rw [List.getElem?_map, List.getElem?_range (by omega)]
    show some ((x.toNat : Nat) : Int) = _
    rw [Int.toNat_of_nonneg h0]
  rw [this]
  rfl
theorem perm_map {n : Nat} {f g : PF} {ρ : Int → Int} (c : CJ (n : Int) f g ρ) : ((rgI n).map ρ).Perm (rgI n) := by
  have nd : (rgI n).Nodup := nodup_of_lt (rgI_lt n)
  refine (List.perm_ext_iff_of_nodup (nd_mapI nd fun x hx y hy e => ?_) nd).mpr fun a => ?_
  · have := mem_rgI.mp hx
    have := mem_rgI.mp hy
    exact c.inj _ _ (by omega) (by omega) (by omega) (by omega) e
  · rw [List.mem_map]
    constructor
    · rintro ⟨x, hx, rfl⟩
      have := mem_rgI.mp hx
      have := c.dom x this.1 this.2
      exact mem_rgI.mpr this
    · intro ha
      have := mem_rgI.mp ha
      obtain ⟨x, h0, h1, rfl⟩ := c.sur a this.1 this.2
      exact ⟨x, mem_rgI.mpr ⟨h0, h1⟩, rfl⟩
theorem CJ.congr {n : Int} {f g : PF} {ρ σ : Int → Int} (c : CJ n f g ρ) (w : WF n f) (h : ∀ x, 0 ≤ x → x < n → σ x = ρ x) : CJ n f g σ := by
  refine ⟨fun x a b => by rw [h x a b]; exact c.dom x a b, fun x y a b a' b' e => c.inj x y a b a' b' (by rw [← h x a b, ← h y a' b', e]), fun y a b => ?_, fun x a b => ?_⟩
  · obtain ⟨x, h0, h1, e⟩ := c.sur y a b
    exact ⟨x, h0, h1, by rw [h x h0 h1]; exact e⟩
  · rw [h x a b, c.st x a b]
    cases e : f x with
    | none => rfl
    | some z =>
      have hz := w.dom _ _ e
      show some (ρ z) = some (σ z)
      rw [h z hz.2.2.1 hz.2.2.2]
theorem cntG_le {n : Nat} {f g f2 g2 : PF} {α β : Int → Int} (wf : WF n f) (wg : WF n g) (w2 : WF n f2) (a : CJ (n : Int) g g2 α) (b : CJ (n : Int) f2 f β) : cntG n f g ≤ cntG n f2 g2 := by
  unfold cntG
  have nd1 : ((ords n).filter (goodB n f g)).Nodup := (nd_ordK n n).sublist List.filter_sublist
  obtain ⟨φ, eφ⟩ : ∃ φ : List Int → List Int, φ = fun row => (rgI n).map fun x => α (rowF row (β x)) := ⟨_, rfl⟩
  have hm : ∀ row ∈ (ords n).filter (goodB n f g), φ row ∈ (ords n).filter (goodB n f2 g2) := fun row hr => by
    obtain ⟨h1, h2⟩ := List.mem_filter.mp hr
    have c := (goodB_iff (mem_ords.mp h1)).mp h2
    have c2 := (b.comp c w2).comp a w2
    rw [eφ]
    have pm := perm_map c2
    exact List.mem_filter.mpr ⟨mem_ords.mpr pm, (goodB_iff pm).mpr (c2.congr w2 fun x h0 h1 => rowF_map _ h0 h1)⟩
  have hi : ∀ r ∈ (ords n).filter (goodB n f g), ∀ r' ∈ (ords n).filter (goodB n f g), φ r = φ r' → r = r' := fun r hr r' hr' e => by
    have p1 := mem_ords.mp (List.mem_filter.mp hr).1
    have p2 := mem_ords.mp (List.mem_filter.mp hr').1
    have l1 : r.length = n := by rw [p1.length_eq]; simp [rgI]
    have l2 : r'.length = n := by rw [p2.length_eq]; simp [rgI]
    have pt : ∀ y : Int, 0 ≤ y → y < n → rowF r y = rowF r' y := fun y h0 h1 => by
      obtain ⟨x, x0, x1, rfl⟩ := b.sur y h0 h1
      have e1 : rowF (φ r) x = rowF (φ r') x := by rw [e]
      rw [eφ] at e1
      rw [rowF_map _ x0 x1, rowF_map _ x0 x1] at e1
      have d1 := row_dom (n := (n : Int)) p1 h0 h1
      have d2 := row_dom (n := (n : Int)) p2 h0 h1
      exact a.inj _ _ d1.1 d1.2 d2.1 d2.2 e1
    refine List.ext_getElem? fun i => ?_
    by_cases hi : i < n
    · have a1 := row_at9 (n := (n : Int)) p1 (x := (i : Int)) (by omega) (by omega)
      have a2 := row_at9 (n := (n : Int)) p2 (x := (i : Int)) (by omega) (by omega)
      rw [Int.toNat_natCast] at a1 a2
      rw [a1, a2, pt _ (by omega) (by omega)]
    · rw [List.getElem?_eq_none (by omega), List.getElem?_eq_none (by omega)]
  have nd2 : (((ords n).filter (goodB n f g)).map φ).Nodup := by
    rw [List.nodup_iff_pairwise_ne, List.pairwise_map]
    exact (List.nodup_iff_pairwise_ne.mp nd1).imp_of_mem fun {x y} hx hy hxy e => hxy (hi x hx y hy e)
  have := List.Nodup.length_le_of_subset nd2 (l₂ := (ords n).filter (goodB n f2 g2)) fun x hx => by
    obtain ⟨r, hr, rfl⟩ := List.mem_map.mp hx
    exact hm r hr
  rwa [List.length_map] at this
/-- maps that are alike are carried to each other -/
theorem sortR (A : List (List Int)) : ∃ B : List (List Int), B.Perm A ∧ (B.map (·.length)).Pairwise (· ≤ ·) := by
  refine ⟨A.mergeSort fun a b => decide (a.length ≤ b.length), List.mergeSort_perm _ _, ?_⟩
  rw [List.pairwise_map]
  exact (List.pairwise_mergeSort (le := fun a b : List Int => decide (a.length ≤ b.length)) (fun a b c h1 h2 => by simp only [decide_eq_true_eq] at h1 h2 ⊢; omega) (fun a b => by simp only [Bool.or_eq_true, decide_eq_true_eq]; omega) A).imp fun h => by simpa using h
theorem lensR (f : PF) (s : List Int) : (s.map (rowN f)).map (·.length) = lens f s := by
  unfold lens
  rw [List.map_map]
  rfl
theorem alike_cj {n : Int} {f g : PF} (w : WF n f) (wg : WF n g) (al : Alike n f n g) : ∃ ρ, CJ n f g ρ := by
  obtain ⟨_, a1, a2⟩ := al
  obtain ⟨CA, ca, sa⟩ := sortR ((cycS n f).map (rowN f))
  obtain ⟨CB, cb, sb⟩ := sortR ((cycS n g).map (rowN g))
  obtain ⟨HA, ha, ta⟩ := sortR ((nons n f).map (rowN f))
  obtain ⟨HB, hb, tb⟩ := sortR ((nons n g).map (rowN g))
  have le : ∀ {A B : List (List Int)} {s t : List Int}, A.Perm (s.map (rowN f)) → B.Perm (t.map (rowN g)) → (A.map (·.length)).Pairwise (· ≤ ·) → (B.map (·.length)).Pairwise (· ≤ ·) → cnt (lens f s) = cnt (lens g t) → A.map (·.length) = B.map (·.length) := fun {A B s t} p q x y e => by
    have q1 := p.map (·.length)
    have q2 := q.map (·.length)
    rw [lensR] at q1 q2
    exact so_eq (q1.trans ((cnt_perm_of (cN_of_cnt e)).trans q2.symm)) x y
  have ro : RowsOn n f g CA CB HA HB := ⟨ca, cb, ha, hb, le ca cb sa sb a1, le ha hb ta tb a2⟩
  have wr := ren_wf w wg ro
  have key : ∀ x, 0 ≤ x → x < n → lk (renL CA CB HA HB) x = some ((lk (renL CA CB HA HB) x).getD 0) := fun x h0 h1 => by
    obtain ⟨y, hy⟩ := ren_full w ro h0 h1
    rw [hy]
    rfl
  refine ⟨fun x => (lk (renL CA CB HA HB) x).getD 0, fun x h0 h1 => ?_, fun x y h0 h1 g0 g1 e => ?_, fun y h0 h1 => ?_, fun x h0 h1 => ?_⟩
  · have := wr.dom _ _ (key x h0 h1)
    exact ⟨this.2.2.1, this.2.2.2⟩
  · exact wr.inj _ _ _ (key x h0 h1) (by rw [e]; exact key y g0 g1)
  · obtain ⟨x, hx⟩ := ren_onto w wg ro h0 h1
    have := wr.dom _ _ hx
    exact ⟨x, this.1, this.2.1, by rw [hx]; rfl⟩
  · rw [ren_step w wg ro (key x h0 h1)]
    cases e : f x with
    | none => rfl
    | some z =>
      have hz := w.dom _ _ e
      exact key z hz.2.2.1 hz.2.2.2
theorem Alike.symm {n : Int} {f g : PF} (h : Alike n f n g) : Alike n g n f := ⟨rfl, h.2.1.symm, h.2.2.symm⟩
theorem cntG_eq {n : Nat} {f g b : PF} (wf : WF n f) (wg : WF n g) (wb : WF n b) (h1 : Alike n f n b) (h2 : Alike n g n b) : cntG n f g = cntG n b b := by
  obtain ⟨a, ha⟩ := alike_cj wf wb h1
  obtain ⟨a', ha'⟩ := alike_cj wb wf h1.symm
  obtain ⟨c, hc⟩ := alike_cj wg wb h2
  obtain ⟨c', hc'⟩ := alike_cj wb wg h2.symm
  exact Nat.le_antisymm (cntG_le wf wg wb hc ha') (cntG_le wb wb wf hc' ha)
theorem cntG_none {n : Nat} {f g : PF} (wf : WF n f) (wg : WF n g) (h : ¬ Alike n f n g) : cntG n f g = 0 := by
  unfold cntG
  rw [List.length_eq_zero_iff, List.filter_eq_nil_iff]
  intro row hr hg
  exact h (((goodB_iff (mem_ords.mp hr)).mp hg).alike wf wg)
end My
set_option maxHeartbeats 1000000
namespace My
open PySem L2 U StX PM
def allB : Nat → Nat → List (List (Bool × Nat))
  | 0, n => if n = 0 then [[]] else []
  | k + 1, n => if n = 0 then [[]] else (List.range n).flatMap fun i => [true, false].flatMap fun c => (allB k (n - 1 - i)).map fun r => (c, i + 1) :: r
theorem mem_allB : ∀ {k n : Nat} {bs : List (Bool × Nat)}, (∀ p ∈ bs, 1 ≤ p.2) → tot bs = n → n ≤ k → bs ∈ allB k n
  | 0, n, [], _, h, _ => by
    have : n = 0 := h.symm
    subst this
    exact List.mem_singleton.mpr rfl
  | 0, n, (c, L) :: r, hp, h, hk => by
    have := hp _ List.mem_cons_self
    rw [tot_cons] at h
    dsimp only at this
    omega
  | k + 1, n, [], _, h, _ => by
    have : n = 0 := h.symm
    subst this
    exact List.mem_singleton.mpr rfl
  | k + 1, n, (c, L) :: r, hp, h, hk => by
    have h1 := hp _ List.mem_cons_self
    rw [tot_cons] at h
    dsimp only at h1
    unfold allB
    rw [if_neg (by omega)]
    refine List.mem_flatMap.mpr ⟨L - 1, List.mem_range.mpr (by omega), List.mem_flatMap.mpr ⟨c, by cases c <;> simp, List.mem_map.mpr ⟨r, mem_allB (fun p hp' => hp p (List.mem_cons_of_mem _ hp')) (by omega) (by omega), ?_⟩⟩⟩
    rw [Nat.sub_add_cancel h1]
def okB (n : Nat) (bs : List (Bool × Nat)) : Bool := decide (cntG n (bmap bs) (bmap bs) = prdR (phi (bs.map fun p => (p.2, p.1))))
theorem okB1 : (allB 1 1).all (okB 1) = true := by decide +kernel
theorem okB2 : (allB 2 2).all (okB 2) = true := by decide +kernel
theorem okB3 : (allB 3 3).all (okB 3) = true := by decide +kernel
theorem okB4 : (allB 4 4).all (okB 4) = true := by decide +kernel
theorem okB5 : (allB 5 5).all (okB 5) = true := by decide +kernel
theorem okB_all {n : Nat} (h1 : 1 ≤ n) (h5 : n ≤ 5) {bs : List (Bool × Nat)} (h : bs ∈ allB n n) : cntG n (bmap bs) (bmap bs) = prdR (phi (bs.map fun p => (p.2, p.1))) := by
  have key : (allB n n).all (okB n) = true := by
    have : n = 1 ∨ n = 2 ∨ n = 3 ∨ n = 4 ∨ n = 5 := by omega
    rcases this with rfl | rfl | rfl | rfl | rfl
    · exact okB1
    · exact okB2
    · exact okB3
    · exact okB4
    · exact okB5
  exact of_decide_eq_true (List.all_eq_true.mp key bs h)
section
variable {n : Int} {f : PF}
noncomputable def bsF (n : Int) (f : PF) : List (Bool × Nat) := (nons n f ++ cycS n f).map fun e => (clo f e, (rowN f e).length)
theorem seenL_len (f : PF) : ∀ s : List Int, (seenL f s).length = (s.map fun e => (rowN f e).length).sum
  | [] => rfl
  | e :: r => by
    show (rowN f e ++ seenL f r).length = _
    rw [List.length_append, seenL_len f r, List.map_cons, List.sum_cons]
theorem tot_bsF (w : WF n f) (n0 : 0 ≤ n) : n = (tot (bsF n f) : Nat) := by
  have nd : (rgI n.toNat).Nodup := nodup_of_lt (rgI_lt _)
  have pm : (seenL f (cycS n f) ++ seenL f (nons n f)).Perm (rgI n.toNat) := (List.perm_ext_iff_of_nodup (all_nd w) nd).mpr fun a => ⟨fun h => by
    have := seen_dom w h
    exact mem_rgI.mpr ⟨this.1, by omega⟩, fun h => by
    have := mem_rgI.mp h
    exact seen_all w this.1 (by omega)⟩
  have e := pm.length_eq
  rw [List.length_append, seenL_len, seenL_len, show (rgI n.toNat).length = n.toNat by simp [rgI]] at e
  have : tot (bsF n f) = ((cycS n f).map fun e => (rowN f e).length).sum + ((nons n f).map fun e => (rowN f e).length).sum := by
    unfold tot bsF
    rw [List.map_map, List.map_append, List.sum_append, Nat.add_comm]
    rfl
  omega
theorem bsF_pos (w : WF n f) : ∀ p ∈ bsF n f, 1 ≤ p.2 := fun p hp => by
  obtain ⟨e, he, rfl⟩ := List.mem_map.mp hp
  rcases List.mem_append.mp he with he | he
  · have := nons_dom he
    exact row_pos w this.1 this.2.1
  · have := cycS_dom he
    exact row_pos w this.1 this.2
theorem filt_bsF (w : WF n f) (c : Bool) : ((bsF n f).filter fun b => b.1 == c).map (·.2) = lens f (if c = true then cycS n f else nons n f) := by
  have e1 : ∀ {s : List Int} {b : Bool}, (∀ e ∈ s, clo f e = b) → ((s.map fun e => (clo f e, (rowN f e).length)).filter fun p => p.1 == b).map (·.2) = lens f s := fun {s b} h => by
    rw [List.filter_eq_self.mpr fun p hp => by
      obtain ⟨e, he, rfl⟩ := List.mem_map.mp hp
      show (clo f e == b) = true
      rw [h e he, beq_self_eq_true]]
    unfold lens
    rw [List.map_map]
    rfl
  have e2 : ∀ {s : List Int} {b b' : Bool}, b' ≠ b → (∀ e ∈ s, clo f e = b) → ((s.map fun e => (clo f e, (rowN f e).length)).filter fun p => p.1 == b') = [] := fun {s b b'} hb h => by
    rw [List.filter_eq_nil_iff]
    intro p hp
    obtain ⟨e, he, rfl⟩ := List.mem_map.mp hp
    show ¬ (clo f e == b') = true
    rw [h e he, beq_iff_eq]
    exact fun z => hb z.symm
  unfold bsF
  rw [List.map_append, List.filter_append, List.map_append]
  cases c with
  | true =>
    rw [e2 (b := false) (by decide) fun e he => nons_clo w he, e1 fun e he => cycS_clo w he]
    rfl
  | false =>
    rw [e2 (b := true) (by decide) fun e he => cycS_clo w he, e1 fun e he => nons_clo w he, List.map_nil, List.append_nil]
    rfl
theorem alike_bsF (w : WF n f) (n0 : 0 ≤ n) : Alike n f n (bmap (bsF n f)) := by
  obtain ⟨h1, h2⟩ := lens_blk (bsF_pos w) (tot_bsF w n0)
  rw [filt_bsF w] at h1 h2
  exact ⟨rfl, by rw [h2]; rfl, by rw [h1]; rfl⟩
end
/-- how many orders carry f to g -/
theorem cntG_is {n : Nat} (n1 : 1 ≤ n) (n5 : n ≤ 5) {f g : PF} (wf : WF (n : Int) f) (wg : WF (n : Int) g) (al : Alike (n : Int) f (n : Int) g) {cs hs : List (Int × Int)} (d1 : DI cs (cnt (lens f (cycS (n : Int) f)))) (d2 : DI hs (cnt (lens f (nons (n : Int) f)))) : cntG n f g = symN cs hs := by
  have ab := alike_bsF wf (by omega)
  have ht := tot_bsF wf (by omega)
  have wb := wf_bmap (bsF (n : Int) f) ht
  have agb : Alike (n : Int) g (n : Int) (bmap (bsF (n : Int) f)) := ⟨rfl, al.2.1.symm.trans ab.2.1, al.2.2.symm.trans ab.2.2⟩
  rw [cntG_eq wf wg wb ab agb, okB_all n1 n5 (mem_allB (bsF_pos wf) (by omega) (Nat.le_refl _)), ← sym_is wf (by omega) d1 d2]
  congr 2
  unfold bsF
  rw [List.map_map]
  rfl
end My
set_option maxHeartbeats 1000000
namespace My
open PySem L2 U StX PM
/-- one of the two is no map -/
def BadP (C : Addr) (H : Hp) (x y : V) : Prop := nonMapV H x ∨ ((∃ a n f, x = .ref a ∧ IsMap C H a n f) ∧ nonMapV H y)
def spBad2 (C CE : Addr) : Sp := fun vs H Q E => ∃ x y, vs = [x, y] ∧ BadP C H x y ∧ ∀ d, H d = none → E (.ref CE) (some d) (upd H d (.xd [("part", .str "map")]))
def spBad3 (C CE : Addr) : Sp := fun vs H Q E => ∃ x y z, vs = [x, y, z] ∧ BadP C H x y ∧ ∀ d, H d = none → E (.ref CE) (some d) (upd H d (.xd [("part", .str "map")]))
section
variable {P : Program} {w : World} {K : PySem.W.Frag} {mg : Str → Option Value} {base : Heap}
set_option pp.maxSteps 3000 in
theorem okX_are_alike (T : Txt K mg) : FnR P w K mg base (L2.CX P w) 9 T.f_are_alike (spBad2 T.C_Map T.C_InvalidMap) := by
  refine T.A_are_alike.okX sc_are_alike (fun vs H Q E h => ?_) (fun cdv A outer s H vs Q E hr h => ?_)
  · obtain ⟨x, y, rfl, _⟩ := h
    rfl
  · obtain ⟨x, y, rfl, hb, qx⟩ := h
    have hu := hu_of hr
    refine ⟨_, (pss_cons (ps_expr (pe_callR (ok_check_map T) (hr.mono (by decide)) T.A_check_map.kp rfl T.g_check_map (passes_call (takes_of rfl rfl rfl rfl) (fun _ _ _ _ h => h)) (pa_cons (pv 0) pa_nil)))
      (pss_cons (ps_expr (pe_callR (ok_check_map T) (hr.mono (by decide)) T.A_check_map.kp rfl T.g_check_map (passes_call (takes_of rfl rfl rfl rfl) (fun _ _ _ _ h => h)) (pa_cons (pv 1) pa_nil)))
      (pss_one (ps_ret (pe_and (pe_cmpR op_eq (pe_propR (pv 0) T.o_Map.cl T.P_Map_size (ok_size T) (hr.mono (by decide))) (pe_propR (pv 1) T.o_Map.cl T.P_Map_size (ok_size T) (hr.mono (by decide))) (nomark _)) (pe_one (pe_cmpR (op_cmp (fun _ _ => rfl) T.m_Shape__eq T.i_Shape__eq (ok_sh_eq2 T) (hr.mono (by decide)) pass0) (pe_callR (ok_shape_of T) (hr.mono (by decide)) T.A_shape_of.kp rfl T.g_shape_of pass0 (pa_cons (pv 0) pa_nil)) (pe_callR (ok_shape_of T) (hr.mono (by decide)) T.A_shape_of.kp rfl T.g_shape_of pass0 (pa_cons (pv 1) pa_nil)) (nomark _)))))))), ?_⟩
    rcases hb with hx | ⟨⟨a, n, f, rfl, hm⟩, hy⟩
    · exact ⟨_, rfl, _, rfl, .inr ⟨hx, qx⟩⟩
    · exact ⟨_, rfl, _, rfl, .inl ⟨a, n, f, rfl, hm, ⟨_, rfl, _, rfl, .inr ⟨hy, qx⟩⟩⟩⟩
set_option pp.maxSteps 3000 in
theorem okX_renaming (T : Txt K mg) : FnR P w K mg base (L2.CX P w) 10 T.f_renaming (spBad2 T.C_Map T.C_InvalidMap) := by
  refine T.A_renaming.okX sc_renaming (fun vs H Q E h => ?_) (fun cdv A outer s H vs Q E hr h => ?_)
  · obtain ⟨x, y, rfl, _⟩ := h
    rfl
  · obtain ⟨x, y, rfl, hb, qx⟩ := h
    have hu := hu_of hr
    refine ⟨_, (pss_cons (ps_if (pt_not (pt_val (pe_callR (okX_are_alike T) (hr.mono (by decide)) T.A_are_alike.kp rfl T.g_are_alike (passes_call (takes_of rfl rfl rfl rfl) (fun _ _ _ _ h => h)) (pa_cons (pv 0) (pa_cons (pv 1) pa_nil)))))
        (pss_one (ps_ret pe_non)) pss_nil)
      (pss_cons (ps_set (i := 2) sc_renaming.nd rfl (Or.inl rfl) pe_dnewK)
      (pss_cons (ps_for (passes_of rfl) rfl (pi_zipS (by rfl) T.n_zip (pa_cons (pe_callR (ok_parts_of T) (hr.mono (by decide)) T.A_parts_of.kp rfl T.g_parts_of pass0 (pa_cons (pv 0) pa_nil)) (pa_cons (pe_callR (ok_parts_of T) (hr.mono (by decide)) T.A_parts_of.kp rfl T.g_parts_of pass0 (pa_cons (pv 1) pa_nil)) pa_nil))) (pg_tup rfl (pgs_cons (pg_name (i := 3) sc_renaming.nd rfl (Or.inl rfl)) (pgs_cons (pg_name (i := 4) sc_renaming.nd rfl (Or.inl rfl)) pgs_nil)))
        (pss_one (ps_for (passes_of rfl) rfl (pi_zipS (by rfl) T.n_zip (pa_cons (pe_callR (ok_by_length T) (hr.mono (by decide)) T.A_by_length.kp rfl T.g_by_length pass0 (pa_cons (pv 3) pa_nil)) (pa_cons (pe_callR (ok_by_length T) (hr.mono (by decide)) T.A_by_length.kp rfl T.g_by_length pass0 (pa_cons (pv 4) pa_nil)) pa_nil))) (pg_tup rfl (pgs_cons (pg_name (i := 5) sc_renaming.nd rfl (Or.inl rfl)) (pgs_cons (pg_name (i := 6) sc_renaming.nd rfl (Or.inl rfl)) pgs_nil)))
        (pss_one (ps_expr (pe_dupdate (pv 2) (pa_cons (pe_dictZip rfl (pa_cons (pv 5) (pa_cons (pv 6) pa_nil)) rfl T.n_dict (by decide +kernel) rfl T.n_zip) pa_nil)))))))
      (pss_one (ps_ret (pe_makeR T.M_Map (ok_init T) (hr.mono (by decide)) rfl T.g_Map pass0 (pa_cons (pe_propR (pv 0) T.o_Map.cl T.P_Map_size (ok_size T) (hr.mono (by decide))) (pa_cons (pv 2) pa_nil)))))))), ?_⟩
    exact ⟨_, rfl, _, rfl, x, y, rfl, hb, qx⟩
set_option pp.maxSteps 3000 in
theorem okX_count_renamings (T : Txt K mg) : FnR P w K mg base (L2.CX P w) 10 T.f_count_renamings (spBad2 T.C_Map T.C_InvalidMap) := by
  refine T.A_count_renamings.okX sc_count_renamings (fun vs H Q E h => ?_) (fun cdv A outer s H vs Q E hr h => ?_)
  · obtain ⟨x, y, rfl, _⟩ := h
    rfl
  · obtain ⟨x, y, rfl, hb, qx⟩ := h
    have hu := hu_of hr
    refine ⟨_, (pss_one (ps_ret (pe_ifExp (pt_val (pe_callR (okX_are_alike T) (hr.mono (by decide)) T.A_are_alike.kp rfl T.g_are_alike (passes_call (takes_of rfl rfl rfl rfl) (fun _ _ _ _ h => h)) (pa_cons (pv 0) (pa_cons (pv 1) pa_nil)))) (pe_callR (ok_count_symmetries T) (hr.mono (by decide)) T.A_count_symmetries.kp rfl T.g_count_symmetries pass0 (pa_cons (pe_callR (ok_shape_of T) (hr.mono (by decide)) T.A_shape_of.kp rfl T.g_shape_of pass0 (pa_cons (pv 0) pa_nil)) pa_nil)) pe_int))), ?_⟩
    exact ⟨_, rfl, _, rfl, x, y, rfl, hb, qx⟩
set_option pp.maxSteps 3000 in
theorem okX_is_renaming (T : Txt K mg) : FnR P w K mg base (L2.CX P w) 10 T.f_is_renaming (spBad3 T.C_Map T.C_InvalidMap) := by
  refine T.A_is_renaming.okX sc_is_renaming (fun vs H Q E h => ?_) (fun cdv A outer s H vs Q E hr h => ?_)
  · obtain ⟨x, y, z, rfl, _⟩ := h
    rfl
  · obtain ⟨x, y, z, rfl, hb, qx⟩ := h
    have hu := hu_of hr
    refine ⟨_, (pss_cons (ps_expr (pe_callR (ok_check_map T) (hr.mono (by decide)) T.A_check_map.kp rfl T.g_check_map (passes_call (takes_of rfl rfl rfl rfl) (fun _ _ _ _ h => h)) (pa_cons (pv 0) pa_nil)))
      (pss_cons (ps_expr (pe_callR (ok_check_map T) (hr.mono (by decide)) T.A_check_map.kp rfl T.g_check_map (passes_call (takes_of rfl rfl rfl rfl) (fun _ _ _ _ h => h)) (pa_cons (pv 1) pa_nil)))
      (pss_cons (ps_if (PW.pt (pw_or (pt_not (pt_val (pe_callB call_isi (by rfl) T.n_isinstance (by decide +kernel) (pa_cons (pv 2) (pa_cons (pe_glob (v := .ref T.C_Map) rfl T.g_Map rfl) pa_nil))))) (pw_or (pt_cmpR op_ne (pe_propR (pv 0) T.o_Map.cl T.P_Map_size (ok_size T) (hr.mono (by decide))) (pe_propR (pv 1) T.o_Map.cl T.P_Map_size (ok_size T) (hr.mono (by decide))) (nomark _)) (pw_or (pt_cmpR op_ne (pe_propR (pv 2) T.o_Map.cl T.P_Map_size (ok_size T) (hr.mono (by decide))) (pe_propR (pv 0) T.o_Map.cl T.P_Map_size (ok_size T) (hr.mono (by decide))) (nomark _)) (pw_or1 (pt_cmpR op_lt (pe_callB (call_lenO T.m_Map__len T.i_Map__len (ok_len T) (hr.mono (by decide)) pass0) (by rfl) T.n_len (by decide +kernel) (pa_cons (pv 2) pa_nil)) (pe_propR (pv 2) T.o_Map.cl T.P_Map_size (ok_size T) (hr.mono (by decide))) (nomark _)))))))
        (pss_one (ps_ret pe_bl)) pss_nil)
      (pss_one (ps_ret (pe_cmpR (op_cmp (fun _ _ => rfl) T.m_Map__eq T.i_Map__eq (ok_eq T) (hr.mono (by decide)) pass0) (pe_op (op_bin T.o_Map.sf T.m_Map__mul T.i_Map__mul (ok_mul T) (hr.mono (by decide)) pass0) (pe_op (op_bin T.o_Map.sf T.m_Map__mul T.i_Map__mul (ok_mul T) (hr.mono (by decide)) pass0) (pe_un (un_inv T.m_Map__invert T.i_Map__invert (ok_invert T) (hr.mono (by decide)) pass0) (pv 2)) (pv 0)) (pv 2)) (pv 1) (nomark _))))))), ?_⟩
    rcases hb with hx | ⟨⟨a, n, f, rfl, hm⟩, hy⟩
    · exact ⟨_, rfl, _, rfl, .inr ⟨hx, qx⟩⟩
    · exact ⟨_, rfl, _, rfl, .inl ⟨a, n, f, rfl, hm, ⟨_, rfl, _, rfl, .inr ⟨hy, qx⟩⟩⟩⟩
end
end My
set_option maxHeartbeats 1000000
namespace My
open PySem L2 U StX PM
theorem lc_ext {wi : TI} {i : Nat} {tt : TT} {tv : TE} {vs : List Nat} {σ : L2.St} {H0 H : Hp} {Q : VK} {n : Nat} {row : List Int} (c : Int → Bool) (hwi : ∀ R : It → Hp → Prop, R (Itr 0 n) H → wi σ H0 R)
    (hw : ∀ a, wipe ((wipe σ vs).set i a) vs = wipe σ vs) (hn : n < sizeLine)
    (hb : ∀ k : Nat, k < n → ∀ H1, L2.Same H H1 → (∀ R : Bool → Hp → Prop, R (c (k : Int)) H1 → tt ((wipe σ vs).set i (some (.int (0 + (k : Nat))))) H1 R) ∧ ∀ R : VK, (∀ p H2, L2.Same H1 H2 → H1 p = none → H2 p = some (.lst ((row ++ [(k : Int)]).map V.int)) → R (.ref p) H2) → tv ((wipe σ vs).set i (some (.int (0 + (k : Nat))))) H1 R)
    (hq : ∀ (D : Addr) (as : List Addr) (H' : Hp), H D = none → H' D = some (.lst (as.map V.ref)) → RowsAt H' as (((rgI n).filter c).map fun x => row ++ [x]) → (∀ b ∈ as, H b = none) → L2.Same H H' → Q (.ref D) H') :
    tLc wi (gName i) tt tv vs σ H0 Q := by
  refine hwi _ fun D hD => ?_
  refine lc_it (walk_range (lo := 0)) (fun k H' => ∃ as : List Addr, L2.Same H H' ∧ H' D = some (.lst (as.map V.ref)) ∧ as.length ≤ k ∧ D ∉ as ∧ (∀ b ∈ as, H b = none) ∧ RowsAt H' as (((rgI k).filter c).map fun x => row ++ [x]))
    ⟨[], Same.new hD, upd_same, Nat.le_refl _, (fun h => nomatch h), (fun _ h => nomatch h), trivial⟩ (fun _ _ _ _ => trivial) ?_ ?_
  · rintro k v H' H'' hk ⟨as, s1, e1, hl, nD, nb, hr⟩ ⟨rfl, rfl⟩
    refine ⟨hw _, ?_⟩
    obtain ⟨b1, b2⟩ := hb k hk _ s1
    refine b1 _ ?_
    have st : ((rgI (k + 1)).filter c).map (fun x => row ++ [x]) = ((rgI k).filter c).map (fun x => row ++ [x]) ++ (if c (k : Int) = true then [row ++ [(k : Int)]] else []) := by
      rw [rgI_succ, List.filter_append, List.map_append]
      by_cases h : c (k : Int) = true
      · simp [h]
      · have h' : c (k : Int) = false := by simpa using h
        simp [h']
    cases hc : c (k : Int) with
    | true =>
      refine iteT (b2 _ fun p H2 s2 np ep => ⟨_, s2 _ _ e1, ?_, as ++ [p], Same.put (s1.trans s2) hD, ?_, ?_, ?_, ?_, ?_⟩)
      · rw [List.length_map]; omega
      · rw [upd_same, List.map_append]; rfl
      · rw [List.length_append, List.length_singleton]; omega
      · intro hm
        rcases List.mem_append.mp hm with hm | hm
        · exact nD hm
        · rw [List.mem_singleton] at hm
          rw [← hm, e1] at np
          cases np
      · intro b hm
        rcases List.mem_append.mp hm with hm | hm
        · exact nb b hm
        · rw [List.mem_singleton] at hm
          rw [hm]
          exact s1.free np
      · rw [st, if_pos hc]
        refine RowsAt.off ((hr.same s2).snoc ep) fun hm => ?_
        rcases List.mem_append.mp hm with hm | hm
        · exact nD hm
        · rw [List.mem_singleton] at hm
          rw [← hm, e1] at np
          cases np
    | false =>
      refine iteF ⟨as, s1, e1, by omega, nD, nb, ?_⟩
      rw [st, hc, if_neg Bool.false_ne_true, List.append_nil]
      exact hr
  · rintro H' ⟨as, s1, e1, hl, nD, nb, hr⟩
    exact hq D as H' hD e1 hr nb s1
theorem ordK_len : ∀ n ∈ [1, 2, 3, 4, 5], ∀ k ∈ [0, 1, 2, 3, 4, 5], (ordK n k).length ≤ 200 := by decide +kernel
theorem RowsAt.app {H : Hp} : ∀ {as bs : List Addr} {A B : List (List Int)}, RowsAt H as A → RowsAt H bs B → RowsAt H (as ++ bs) (A ++ B)
  | [], _, [], _, _, h => h
  | _ :: _, _, _ :: _, _, h, h' => ⟨h.1, RowsAt.app h.2 h'⟩
  | [], _, _ :: _, _, h, _ => h.elim
  | _ :: _, _, [], _, h, _ => h.elim
def extR (n : Nat) (row : List Int) : List (List Int) := ((rgI n).filter fun x => !decide (x ∈ row)).map fun x => row ++ [x]
theorem ordK_succ (n k : Nat) : ordK n (k + 1) = (ordK n k).flatMap (extR n) := rfl
theorem fm_take {A : List (List Int)} {n i : Nat} {r : List Int} (h : A[i]? = some r) : (A.take (i + 1)).flatMap (extR n) = (A.take i).flatMap (extR n) ++ extR n r := by
  rw [take_more h, List.flatMap_append]
  simp
theorem fm_len {A : List (List Int)} {n i : Nat} : ((A.take i).flatMap (extR n)).length ≤ (A.flatMap (extR n)).length := by
  conv => rhs; rw [← List.take_append_drop i A, List.flatMap_append, List.length_append]
  omega
def spLOrd : Sp := fun vs H Q _ => ∃ n : Nat, vs = [.int (n : Int)] ∧ 1 ≤ n ∧ n ≤ 5 ∧ ∀ (p : Addr) (as : List Addr) (H' : Hp), Same H H' → H p = none → H' p = some (.lst (as.map V.ref)) → RowsAt H' as (ords n) → (∀ b ∈ as, H b = none) → Q (.ref p) H'
def spLRen : Sp := fun vs H Q _ => ∃ (d rr : Addr) (l : List (Int × Int)) (n : Int) (f : PF) (row : List Int), vs = [.ref d, .ref rr] ∧ H d = some (.dK (kvI l)) ∧ DI l f ∧ WF n f ∧ l.length ≤ 1000 ∧ H rr = some (.lst (row.map V.int)) ∧ row.Perm (rgI n.toNat) ∧
  ∀ (o : Addr) (H' : Hp), Same H H' → H o = none → H' o = some (.dK (kvI (mapR (rowF row) l))) → Q (.ref o) H'
section
variable {P : Program} {w : World} {K : PySem.W.Frag} {mg : Str → Option Value} {base : Heap}
set_option pp.maxSteps 3000 in
theorem ok_l_renamed (T : Txt K mg) : FnR P w K mg base CX0 1 T.f_l_renamed spLRen := by
  refine T.A_l_renamed.ok sc_l_renamed (fun vs H Q E h => ?_) (fun cdv A outer s H vs Q E hr h => ?_)
  · obtain ⟨d, rr, l, n, f, row, rfl, _⟩ := h
    rfl
  · obtain ⟨d, rr, l, n, f, row, rfl, ed, di, wf, hll, err, pm, q⟩ := h
    have hu := hu_of hr
    refine ⟨_, (pss_one (ps_ret (pe_callTy (call_dictP rfl) (by rfl) T.n_dict (by decide +kernel) (pa_cons (pe_lock (pe_lc (own := [("_law_source", 2), ("_law_target", 3)]) (g := (gTup K 2 (gCons (gName 2) (gCons (gName 3) gNil)))) (tt := tYes) rfl sc_l_renamed.nd (pi_items (pv 0)) (blkOk_by (own := [("_law_source", 2), ("_law_target", 3)]) (N := n_l_renamed) (sc := defScope s_l_renamed) (by decide +kernel)) (fun _ _ _ _ _ => (pg_tup rfl (pgs_cons (pg_name (i := 2) sc_l_renamed.nd rfl (Or.inl rfl)) (pgs_cons (pg_name (i := 3) sc_l_renamed.nd rfl (Or.inl rfl)) pgs_nil)))) (fun _ _ _ _ _ => pts_nil) (fun _ _ _ _ _ => (pe_tup (pa_cons (pe_ix (ix_listK (K := K) rfl) (pv 1) (pv 2) (fun _ _ => rfl)) (pa_cons (pe_ix (ix_listK (K := K) rfl) (pv 1) (pv 3) (fun _ _ => rfl)) pa_nil)))))) pa_nil)))), ?_⟩
    have nrd : rr ≠ d := fun z => by rw [z, ed] at err; cases err
    have d3 := row_di pm di wf
    have rowI : ∀ x, 0 ≤ x → x < n → atI (row.map V.int) x = some (.int (rowF row x)) := fun x h0 h1 => by
      have e1 : (row.map V.int)[x.toNat]? = some (.int (rowF row x)) := by rw [List.getElem?_map, row_at9 pm h0 h1]; rfl
      have := atI_nat e1
      rwa [Int.toNat_of_nonneg h0] at this
    refine ret_of (cb_of ?_)
    refine lc_itemsT (fun _ _ => true) (fun x _ => rowF row x) (fun _ y => rowF row y) ed (fun H' R r o => ⟨_, rfl, r⟩) (fun _ _ => rfl) (fun x y hxy H1 o ho => ⟨fun R r => r, fun _ R r => ?_⟩) (small1000 hll) (fun D ps H8 nD hD hps s8 => ?_)
    · have hxy' := wf.dom _ _ (di.mem.mp hxy)
      have err1 := o _ _ nrd err
      exact ⟨_, rfl, _, rfl, rr, _, x, _, rfl, rfl, SqL.of err1, rowI x hxy'.1 hxy'.2.1, _, rfl, _, rfl, rr, _, y, _, rfl, rfl, SqL.of err1, rowI y hxy'.2.2.1 hxy'.2.2.2, two_le, fun p hp => r p hp⟩
    refine ⟨D, ps, _, rfl, SqL.of hD, hps.map fun p _ kv e => SqT.of e, fun o n_o => ?_⟩
    rw [madeI_all, show (l.map fun p => (rowF row p.1, rowF row p.2)) = mapR (rowF row) l from rfl, merge_nil d3.nd]
    exact q o _ (s8.trans (Same.new n_o)) (s8.free n_o) upd_same
set_option pp.maxSteps 3000 in
theorem ok_l_orders (T : Txt K mg) : FnR P w K mg base CX0 1 T.f_l_orders spLOrd := by
  refine T.A_l_orders.ok sc_l_orders (fun vs H Q E h => ?_) (fun cdv A outer s H vs Q E hr h => ?_)
  · obtain ⟨n, rfl, _⟩ := h
    rfl
  · obtain ⟨n, rfl, n1, n5, q⟩ := h
    have hu := hu_of hr
    refine ⟨_, (pss_cons (ps_set (i := 1) sc_l_orders.nd rfl (Or.inl rfl) (pe_lst (pa_cons (pe_lst pa_nil) pa_nil)))
      (pss_cons (ps_for PassesOwn.never rfl (pi_range1 rfl T.n_range (pa_cons (pv 0) pa_nil)) (pg_name (i := 2) sc_l_orders.nd rfl (Or.inl rfl))
        (pss_cons (ps_set (i := 3) sc_l_orders.nd rfl (Or.inl rfl) (pe_lst pa_nil))
      (pss_cons (ps_for PassesOwn.never rfl (pi_list (pv 1)) (pg_name (i := 4) sc_l_orders.nd rfl (Or.inr rfl))
        (pss_one (ps_set (i := 3) sc_l_orders.nd rfl (Or.inl rfl) (pe_op op_cat (pv 3) (pe_lc (own := [("_law_number", 5)]) (g := (gName 5)) (tt := (tTest (tOp (rIn K true) (tVar 5) (tVar 4)))) rfl sc_l_orders.nd (pi_range1 rfl T.n_range (pa_cons (pv 0) pa_nil)) (blkOk_by (own := [("_law_number", 5)]) (N := n_l_orders) (sc := defScope s_l_orders) (by decide +kernel)) (fun _ _ _ _ _ => (pg_name (i := 5) sc_l_orders.nd rfl (Or.inl rfl))) (fun _ _ _ _ _ => (pts_one (pt_cmpR op_notIn_seq (pv 5) (pv 4) (by rfl)))) (fun _ _ _ _ _ => (pe_op op_cat (pv 4) (pe_lst (pa_cons (pv 5) pa_nil)))))))))
      (pss_one (ps_set (i := 1) sc_l_orders.nd rfl (Or.inl rfl) (pv 3))))))
      (pss_one (ps_ret (pv 1))))), ?_⟩
    have bnd : ∀ k, k ≤ n → (ordK n k).length ≤ 200 := fun k hk => ordK_len n (by simp; omega) k (by simp; omega)
    refine ⟨nil_le, ?_⟩
    refine fun e0 n_e0 => ?_
    generalize g_e0 : L2.upd _ e0 _ = H1
    obtain ⟨s_H1, e_e0⟩ := U.upd_facts g_e0 n_e0
    clear g_e0
    refine ⟨(show 1 ≤ sizeLine by decide), ?_⟩
    refine fun f0 n_f0 => ?_
    generalize g_f0 : L2.upd _ f0 _ = H2
    obtain ⟨s_H2, e_f0⟩ := U.upd_facts g_f0 n_f0
    clear g_f0
    have s2 := s_H1.trans s_H2
    refine ⟨_, rfl, (n : Int), rfl, by omega, by omega, ?_⟩
    refine for_it (walk_range (lo := 0) (n := n)) (fun i σ H' => ∃ v2 v3 v4 v5 fp as, σ = [some (.int (n : Int)), some (.ref fp), v2, v3, v4, v5] ∧ Same H H' ∧ H fp = none ∧ H' fp = some (.lst (as.map V.ref)) ∧ RowsAt H' as (ordK n i) ∧ ∀ b ∈ as, H b = none)
      ⟨none, none, none, none, f0, [e0], rfl, s2, s_H1.free n_f0, e_f0, ⟨s_H2 _ _ e_e0, trivial⟩, fun b hb => by rw [List.mem_singleton] at hb; rw [hb]; exact n_e0⟩ (fun _ _ _ _ _ => trivial) ?_ ?_
    · rintro i v σ H' Ha hi ⟨v2, v3, v4, v5, fp, as, rfl, sa, nfp, efp, ras, nas⟩ ⟨rfl, rfl⟩
      have lA := ras.len
      have b1 := bnd i (by omega)
      have b2 := bnd (i + 1) (by omega)
      rw [ordK_succ] at b2
      refine ⟨nil_le, ?_⟩
      refine fun l0 n_l0 => ?_
      generalize g_l0 : L2.upd _ l0 _ = Hb
      obtain ⟨s_Hb, e_l0⟩ := U.upd_facts g_l0 n_l0
      clear g_l0
      refine ⟨_, rfl, fp, rfl, ⟨_, SqL.of (s_Hb _ _ efp)⟩, ?_⟩
      refine for_it (walk_list (xs := as.map V.ref)) (fun j σ H' => ∃ w4 w5 lp bs, σ = [some (.int (n : Int)), some (.ref fp), some (.int (0 + (i : Nat))), some (.ref lp), w4, w5] ∧ Same Ha H' ∧ Ha lp = none ∧ H' lp = some (.lst (bs.map V.ref)) ∧ RowsAt H' bs (((ordK n i).take j).flatMap (extR n)) ∧ ∀ b ∈ bs, Ha b = none)
        ⟨_, _, l0, [], rfl, s_Hb, n_l0, e_l0, trivial, fun _ h => nomatch h⟩ (fun j σ H' _ ⟨_, _, _, _, _, z, _⟩ => SqL.of (z _ _ efp)) ?_ ?_
      · rintro j v σ Hc0 Hc hj ⟨w4, w5, lp, bs, rfl, sc, nlp, elp, rbs, nbs⟩ ⟨rfl, ev⟩
        rw [List.length_map] at hj
        obtain ⟨ra, era⟩ : ∃ a, as[j]? = some a := ⟨_, List.getElem?_eq_getElem hj⟩
        rw [List.getElem?_map, era] at ev
        cases ev
        obtain ⟨r, er, hra⟩ := (ras.same sc).get j ra era
        have lB := rbs.len
        have fl := fm_len (A := ordK n i) (n := n) (i := j)
        have fl2 := fm_len (A := ordK n i) (n := n) (i := j + 1)
        rw [fm_take er, List.length_append] at fl2
        have lr : r.length = i := (mem_ordK.mp (List.mem_of_getElem? er)).1
        refine ⟨_, rfl, ?_⟩
        refine lc_ext (n := n) (row := r) (fun x => !decide (x ∈ r)) (fun R rr => ⟨_, rfl, (n : Int), rfl, by omega, by omega, rr⟩) (fun _ => rfl) (lt_line (by omega)) (fun k hk Hd sd => ⟨fun R rr => ?_, fun R rr => ?_⟩) (fun D ds Hd nD eD rds nds sd => ?_)
        · refine ⟨_, rfl, _, rfl, ra, _, rfl, .inl (SqL.of (sd _ _ hra)), rfl, flat_ints _, _, rfl, ?_⟩
          rw [if_pos rfl, inV_ints, Int.zero_add]
          exact rr
        · refine ⟨_, rfl, _, rfl, (show 1 ≤ sizeLine by decide), fun q nq => ⟨ra, q, _, _, rfl, rfl, (Same.new nq) _ _ (sd _ _ hra), upd_same, ?_, fun p np => rr p _ ((Same.new nq).trans (Same.new np)) ((Same.new nq).free np) ?_⟩⟩
          · rw [List.length_map, lr]
            exact Nat.le_trans (show i + 1 ≤ 10 by omega) (by decide)
          · rw [upd_same, Int.zero_add, List.map_append]
            rfl
        · have lD := rds.len
          have hx : (extR n r).length = ds.length := lD.symm
          refine ⟨lp, D, _, _, rfl, rfl, sd _ _ elp, eD, ?_, fun p np => ?_⟩
          · rw [List.length_map, List.length_map]
            exact le_line (by omega)
          refine ⟨_, _, p, bs ++ ds, rfl, (sc.trans sd).trans (Same.new np), (sc.trans sd).free np, by rw [upd_same, List.map_append], ?_, fun b hb => (List.mem_append.mp hb).elim (nbs b) fun h => sc.free (nds b h)⟩
          rw [fm_take er]
          exact ((rbs.same sd).app rds).same (Same.new np)
      · rintro σ Hc ⟨w4, w5, lp, bs, rfl, sc, nlp, elp, rbs, nbs⟩
        rw [List.length_map, lA, List.take_length] at rbs
        exact ⟨_, rfl, _, _, _, _, lp, bs, rfl, sa.trans sc, sa.free nlp, elp, rbs, fun b hb => sa.free (nbs b hb)⟩
    · rintro σ H' ⟨v2, v3, v4, v5, fp, as, rfl, sa, nfp, efp, ras, nas⟩
      exact ⟨_, rfl, q fp as H' sa nfp efp ras nas⟩
end
end My
set_option maxHeartbeats 1000000
namespace My
open PySem L2 U StX PM
section
open PySem.Spec PyProof.Rows
def tCallD (C : Addr) (sp : Sp) (E : XK) (tf : TE) (t : TA) : TE := fun σ H Q => tf σ H fun y H1 => ∃ a, y = V.ref a ∧ t σ H1 fun vs H2 => (∃ dx fs, H2 a = some (.ins C dx fs)) ∧ sp (V.ref a :: vs) H2 Q E
theorem pe_callD {X : Cx} {CX : CXT} {C g : Addr} {sp : Sp} {E : XK} {k : Nat} {fe e : Expr} {es : List Expr} {pos : PySem.Pos} {tf : TE} {t : TA} (hf : PE X fe tf) (c : CallO X.K C g) (F : FnR X.prog X.w X.K X.mg X.base CX k g sp) (hr : Room k X.A) (hx : Passes CX X E) (ha : PA X (e :: es) t)
    (ht : PySem.eval (.Call fe (e :: es) [] pos) X.env = (do PySem.callWith pos (← PySem.eval fe X.env) [] (PySem.backTo pos (PySem.starEach (e :: es) X.env)) (PySem.backToKw pos (PySem.keywordEach [] X.env))) := by rfl)
    (he : PySem.starEach (e :: es) X.env = (false, PySem.eval e X.env) :: PySem.starEach es X.env := by rfl) (hpl : (PySem.backTo pos (PySem.starEach es X.env)).any (·.1) = false := by rfl) : PE X (.Call fe (e :: es) [] pos) (tCallD C sp E tf t) := by
  refine ⟨fun pins s σ H Q I h => ?_⟩
  refine Call_ (thn (hf.run pins s σ H _ I h) fun u s1 ⟨y, H1, I1, ry, a, ey, q⟩ => ?_) ht
  subst ey
  obtain rfl : u = Value.ref a := ry
  refine callO_with (thn (ha.run pos pins s1 σ H1 _ I1 q) fun us s2 ⟨vs, H2, I2, r, hi, q2⟩ => ?_) he hpl
  obtain ⟨ox, od, J, hd⟩ := insC_at I2 (.inr hi)
  exact ⟨⟨C, ox, od, J, hd⟩, run_callO c F hr hx I2 (.inr hi) r q2⟩
end
theorem units65 {k : Nat} {A : Around} (r : Room k A) : A.units + 65 < cLine := by have := r.un; omega
theorem eqv_intsL : ∀ (a b : List Int), PyData.eqv (.list (a.map PyData.int)) (.list (b.map PyData.int)) = decide (a = b)
  | [], [] => rfl
  | [], _ :: _ => rfl
  | _ :: _, [] => rfl
  | x :: a, y :: b => by
    have ih := eqv_intsL a b
    have e : PyData.eqv (.list ((x :: a).map PyData.int)) (.list ((y :: b).map PyData.int)) = (decide (x = y) && PyData.eqv (.list (a.map PyData.int)) (.list (b.map PyData.int))) := by
      show (x == y && _) = (decide (x = y) && _)
      by_cases h : x = y <;> simp [h, PyData.eqv]
    rw [e, ih]
    by_cases h : x = y <;> by_cases h2 : a = b <;> simp [h, h2]
theorem any_rows (G : List (List Int)) (r : List Int) : ((G.map dInts).any fun z => PyData.eqv z (dInts r)) = decide (r ∈ G) := by
  induction G with
  | nil => rfl
  | cons a G ih =>
    rw [List.map_cons, List.any_cons, ih]
    unfold dInts
    rw [eqv_intsL]
    by_cases h : a = r <;> by_cases h2 : r ∈ G <;> simp [h, h2]
    exact fun z => h z.symm
theorem eqv_nilR (l : List (List Int)) : PyData.eqv (.list (l.map dInts)) (.list []) = decide (l = []) := by
  cases l <;> rfl
theorem lc_keepR {K : PySem.W.Frag} {te : TE} {i : Nat} {tt : TT} {tv : TE} {vs : List Nat} {σ : L2.St} {H : Hp} {Q : VK} {as : List Addr} {A : List (List Int)} {a : Addr} (c : List Int → Bool) (hte : ∀ R : VK, R (.ref a) H → te σ H R) (ha : H a = some (.lst (as.map V.ref))) (hA : RowsAt H as A) (hw : ∀ a, wipe ((wipe σ vs).set i a) vs = wipe σ vs)
    (hb : ∀ (k : Nat) (x : Addr) (r : List Int), as[k]? = some x → A[k]? = some r → ∀ H1, L2.Same H H1 → (∀ R : Bool → Hp → Prop, (∀ H2, L2.Same H1 H2 → R (c r) H2) → tt ((wipe σ vs).set i (some (.ref x))) H1 R) ∧ ∀ (H1 : Hp) (R : VK), R (.ref x) H1 → tv ((wipe σ vs).set i (some (.ref x))) H1 R) (hz : as.length < sizeLine)
    (hq : ∀ (D : Addr) (bs : List Addr) (H' : Hp), H D = none → H' D = some (.lst (bs.map V.ref)) → RowsAt H' bs (A.filter c) → bs.length ≤ as.length → L2.Same H H' → Q (.ref D) H') : tLc (iList K te) (gName i) tt tv vs σ H Q := by
  refine hte _ ⟨a, rfl, ⟨_, SqL.of ha⟩, fun D hD => ?_⟩
  have nD : D ∉ as := fun hm => by
    obtain ⟨_, _, e⟩ := hA.mem hm
    rw [hD] at e
    cases e
  refine lc_it (walk_list (xs := as.map V.ref)) (fun k H' => L2.Same H H' ∧ ∃ bs : List Addr, H' D = some (.lst (bs.map V.ref)) ∧ bs.length ≤ k ∧ D ∉ bs ∧ RowsAt H' bs ((A.take k).filter c)) ⟨Same.new hD, [], upd_same, Nat.le_refl _, (fun h => nomatch h), by rw [List.take_zero]; trivial⟩ (fun k H' _ p => SqL.of (p.1 _ _ ha)) ?_ ?_
  · rintro k v H' H'' hk ⟨s1, bs, e1, hl, nb, hy⟩ ⟨rfl, ev⟩
    rw [List.length_map] at hk
    obtain ⟨x, ex⟩ : ∃ x, as[k]? = some x := ⟨_, List.getElem?_eq_getElem hk⟩
    rw [List.getElem?_map, ex] at ev
    cases ev
    obtain ⟨r, er, hr⟩ := hA.get k x ex
    refine ⟨hw _, ?_⟩
    obtain ⟨b1, b2⟩ := hb k x r ex er _ s1
    have nx : D ≠ x := fun z => nD (z ▸ List.mem_of_getElem? ex)
    refine b1 _ fun H2 s2 => ?_
    cases hc : c r with
    | true =>
      have nb' : D ∉ bs ++ [x] := fun hm => by
        rcases List.mem_append.mp hm with hm | hm
        · exact nb hm
        · rw [List.mem_singleton] at hm; exact nx hm
      refine iteT (b2 _ _ ⟨_, s2 _ _ e1, by rw [List.length_map]; omega, Same.put (s1.trans s2) hD, bs ++ [x], by rw [upd_same, List.map_append]; rfl, by rw [List.length_append, List.length_singleton]; omega, nb', ?_⟩)
      rw [take_more er, List.filter_append, List.filter_cons, hc, if_pos rfl, List.filter_nil]
      exact RowsAt.off ((hy.same s2).snoc ((s1.trans s2) _ _ hr)) nb'
    | false =>
      refine iteF ⟨s1.trans s2, bs, s2 _ _ e1, by omega, nb, ?_⟩
      rw [take_more er, List.filter_append, List.filter_cons, hc, if_neg Bool.false_ne_true, List.filter_nil, List.append_nil]
      exact hy.same s2
  · rintro H' ⟨s1, bs, e1, hl, nb, hy⟩
    rw [List.length_map, hA.len, List.take_length] at hy
    rw [List.length_map] at hl
    exact hq D bs H' hD e1 hy hl s1
theorem cj_uniq {n : Int} {f g g' : PF} {ρ : Int → Int} (a : CJ n f g ρ) (b : CJ n f g' ρ) (wg : WF n g) (wg' : WF n g') : g = g' := by
  funext y
  by_cases h : 0 ≤ y ∧ y < n
  · obtain ⟨x, h0, h1, rfl⟩ := a.sur y h.1 h.2
    rw [a.st x h0 h1, b.st x h0 h1]
  · have e1 : g y = none := by
      cases e : g y with
      | none => rfl
      | some z => have := wg.dom _ _ e; exact absurd ⟨this.1, this.2.1⟩ h
    have e2 : g' y = none := by
      cases e : g' y with
      | none => rfl
      | some z => have := wg'.dom _ _ e; exact absurd ⟨this.1, this.2.1⟩ h
    rw [e1, e2]
theorem good_dEq {n : Nat} {f g : PF} {l l2 : List (Int × Int)} {row : List Int} (pm : row.Perm (rgI n)) (di : DI l f) (d2 : DI l2 g) (wf : WF (n : Int) f) (wg : WF (n : Int) g) : dEq (kvI (mapR (rowF row) l)) (kvI l2) = goodB n f g row := by
  have d3 := row_di (n := (n : Int)) pm di wf
  have w3 := row_wf (n := (n : Int)) pm di wf
  have cj := row_cj (n := (n : Int)) pm di wf
  rw [Bool.eq_iff_iff, goodB_iff pm]
  constructor
  · intro h
    rw [← dEq_f d3 d2 h]
    exact cj
  · intro c
    have := cj_uniq cj c w3 wg
    rw [this] at d3
    exact dEq_di d3 d2
theorem for_lst {K : PySem.W.Frag} {te : TE} {g : TG} {tb : TS} {D : Ends} {σ : L2.St} {H : Hp} (h : te σ H fun x H1 => ∃ a, x = V.ref a ∧ (∃ xs, SqL K H1 a xs) ∧ ∃ W : Nat → Nat → L2.St → Hp → Prop, (∃ m, W 0 m σ H1) ∧ ∀ i m σ H, W i m σ H →
    ((Itl K a).stop i H ∧ D.nx σ H) ∨ ((Itl K a).go i H ∧ ∃ N : L2.St → Hp → Prop, (∀ σ' H', N σ' H' → ∃ m', m' < m ∧ W (i + 1) m' σ' H') ∧ ∀ x H', (Itl K a).yld i H x H' → g x σ H' fun σ2 H2 => tb { D with nx := N, ct := N, bk := D.nx } σ2 H2)) : tFor (iList K te) g tb D σ H := h
theorem nt_of {D : Ends} {σ : L2.St} {H : Hp} (h : D.nx σ H) : tNext D σ H := h
def rowL (row : List Int) : List (Int × Int) := row.zipIdx.map fun p => (((p.2 : Nat) : Int), p.1)
theorem enK_int (row : List Int) : enK (row.map V.int) = kvI (rowL row) := by
  refine List.ext_getElem? fun j => ?_
  unfold enK kvI rowL
  simp only [List.getElem?_map, List.getElem?_zipIdx]
  cases row[j]? <;> rfl
theorem rowL_get {row : List Int} {x y : Int} : (x, y) ∈ rowL row ↔ ∃ j : Nat, row[j]? = some y ∧ x = (j : Int) := by
  unfold rowL
  rw [List.mem_map]
  constructor
  · rintro ⟨⟨a, b⟩, h, e⟩
    cases e
    have := List.mem_zipIdx_iff_getElem?.mp h
    exact ⟨b, this, rfl⟩
  · rintro ⟨j, h, rfl⟩
    exact ⟨(y, j), List.mem_zipIdx_iff_getElem?.mpr h, rfl⟩
theorem rowL_di (row : List Int) : DI (rowL row) (lk (rowL row)) := by
  refine ⟨?_, fun _ => rfl⟩
  have e : (rowL row).map (·.1) = (List.range row.length).map fun i : Nat => (i : Int) := by
    refine List.ext_getElem? fun j => ?_
    unfold rowL
    simp only [List.getElem?_map, List.getElem?_zipIdx, List.getElem?_range]
    by_cases h : j < row.length
    · rw [List.getElem?_eq_getElem h, List.getElem?_range h]; simp
    · rw [List.getElem?_eq_none (by omega), List.getElem?_eq_none (by rw [List.length_range]; omega)]; rfl
  rw [e]
  exact nodup_of_lt (rgI_lt _)
theorem rowL_wf {n : Int} {row : List Int} (pm : row.Perm (rgI n.toNat)) : WF n (lk (rowL row)) := by
  have d := rowL_di row
  have nd : row.Nodup := pm.nodup_iff.mpr (nodup_of_lt (rgI_lt _))
  have hl : row.length = n.toNat := by rw [pm.length_eq]; simp [rgI]
  refine ⟨fun x y h => ?_, fun x x' y h h' => ?_⟩
  · obtain ⟨j, hj, rfl⟩ := rowL_get.mp (d.mem.mpr h)
    have h1 := (List.getElem?_eq_some_iff.mp hj).1
    have h2 := mem_rgI.mp (pm.mem_iff.mp (List.mem_of_getElem? hj))
    omega
  · obtain ⟨j, hj, rfl⟩ := rowL_get.mp (d.mem.mpr h)
    obtain ⟨j', hj', rfl⟩ := rowL_get.mp (d.mem.mpr h')
    rw [(List.getElem?_inj (List.getElem?_eq_some_iff.mp hj).1 nd).mp (hj.trans hj'.symm)]
theorem shaped_dInts (r : List Int) : SeqAt.shaped (dInts r) = true := by
  have h := lay_rows [r]
  have h1 : (PyData.canLay0 (dInts r) && true) = true := h.1
  rw [Bool.and_true] at h1
  unfold SeqAt.shaped
  have h2 : PyData.depth (dInts r) ≤ 64 := by
    have h3 : PyData.depthAll ([r].map dInts) ≤ 1 := h.2
    have h4 : max (PyData.depth (dInts r)) 0 ≤ 1 := h3
    omega
  rw [h1, Bool.true_and]
  exact decide_eq_true h2
theorem ifs_of {c : TT} {t u : TS} {D : Ends} {σ : L2.St} {H : Hp} (h : c σ H fun b H1 => if b = true then t D σ H1 else u D σ H1) : tIfS c t u D σ H := h
theorem or_of {a b : TT} {σ : L2.St} {H : Hp} {Q : Bool → Hp → Prop} (h : a σ H fun c H1 => if c = true then Q true H1 else b σ H1 Q) : tOr a b σ H Q := h
theorem test_of {t : TE} {σ : L2.St} {H : Hp} {Q : Bool → Hp → Prop} (h : t σ H fun x H1 => ∃ c, x = .bl c ∧ Q c H1) : tTest t σ H Q := h
theorem ne_nilR {K : PySem.W.Frag} {H : Hp} {W : Addr} {as : List Addr} {G : List (List Int)} {Q : VK} (h : H W = some (.lst (as.map V.ref))) (hR : RowsAt H as G) {t : Addr} (ht : H t = some (.lst [])) (q : Q (.bl (!decide (G = []))) H) : L2.rNeD K (.ref W) (.ref t) H Q :=
  ⟨.list (G.map dInts), .list [], .lst (SqL.of h) hR.dp, .lst (SqL.of ht) .nil, shaped_rows G, by decide +kernel, by rw [eqv_nilR]; exact q⟩
theorem eq_nilR {K : PySem.W.Frag} {H : Hp} {W : Addr} {as : List Addr} {G : List (List Int)} {Q : VK} (h : H W = some (.lst (as.map V.ref))) (hR : RowsAt H as G) {t : Addr} (ht : H t = some (.lst [])) (q : Q (.bl (decide (G = []))) H) : L2.rEqD K (.ref W) (.ref t) H Q :=
  ⟨.list (G.map dInts), .list [], .lst (SqL.of h) hR.dp, .lst (SqL.of ht) .nil, shaped_rows G, by decide +kernel, by rw [eqv_nilR]; exact q⟩
theorem ro_cj {n : Int} {f g : PF} {CA CB HA HB : List (List Int)} (w : WF n f) (wg : WF n g) (ro : RowsOn n f g CA CB HA HB) : CJ n f g fun x => (lk (renL CA CB HA HB) x).getD 0 := by
  have wr := ren_wf w wg ro
  have key : ∀ x, 0 ≤ x → x < n → lk (renL CA CB HA HB) x = some ((lk (renL CA CB HA HB) x).getD 0) := fun x h0 h1 => by
    obtain ⟨y, hy⟩ := ren_full w ro h0 h1
    rw [hy]
    rfl
  refine ⟨fun x h0 h1 => ?_, fun x y h0 h1 g0 g1 e => ?_, fun y h0 h1 => ?_, fun x h0 h1 => ?_⟩
  · have := wr.dom _ _ (key x h0 h1)
    exact ⟨this.2.2.1, this.2.2.2⟩
  · exact wr.inj _ _ _ (key x h0 h1) (by rw [e]; exact key y g0 g1)
  · obtain ⟨x, hx⟩ := ren_onto w wg ro h0 h1
    have := wr.dom _ _ hx
    exact ⟨x, this.1, this.2.1, by rw [hx]; rfl⟩
  · rw [ren_step w wg ro (key x h0 h1)]
    cases e : f x with
    | none => rfl
    | some z =>
      have hz := w.dom _ _ e
      exact key z hz.2.2.1 hz.2.2.2
def glL (n : Nat) (f g : PF) : List (List Int) := (ords n).filter (goodB n f g)
theorem cj_mem {n : Nat} {f g : PF} {ρ : Int → Int} (w : WF (n : Int) f) (c : CJ (n : Int) f g ρ) : (rgI n).map ρ ∈ glL n f g := by
  have pm := perm_map c
  exact List.mem_filter.mpr ⟨mem_ords.mpr pm, (goodB_iff pm).mpr (c.congr w fun x h0 h1 => rowF_map _ h0 h1)⟩
theorem gl_nil {n : Nat} {f g : PF} (w : WF (n : Int) f) (wg : WF (n : Int) g) : glL n f g = [] ↔ ¬ Alike (n : Int) f (n : Int) g := by
  constructor
  · intro h al
    obtain ⟨ρ, c⟩ := alike_cj w wg al
    have := cj_mem w c
    rw [h] at this
    cases this
  · intro h
    exact List.length_eq_zero_iff.mp (cntG_none w wg h)
theorem lk_row {n : Nat} {row : List Int} (pm : row.Perm (rgI n)) {x : Int} (h0 : 0 ≤ x) (h1 : x < n) : lk (rowL row) x = some (rowF row x) := by
  refine (rowL_di row).mem.mp (rowL_get.mpr ⟨x.toNat, row_at9 (n := (n : Int)) pm h0 h1, by omega⟩)
/-- what is_renaming says of an order is whether it is a good one -/
theorem row_good {n : Nat} {f g : PF} {l : List (Int × Int)} {row : List Int} (pm : row.Perm (rgI n)) (di : DI l f) (wf : WF (n : Int) f) (wg : WF (n : Int) g) :
    (decide ((n : Int) = (n : Int)) && !decide (lenF (n : Int) (lk (rowL row)) < (n : Int)) && eqB (n : Int) (mul (mul (inv (n : Int) (lk (rowL row))) f) (lk (rowL row))) (n : Int) g) = decide (row ∈ glL n f g) := by
  have wh := rowL_wf (n := (n : Int)) pm
  have hf : ∀ x, 0 ≤ x → x < (n : Int) → ∃ y, lk (rowL row) x = some y := fun x a b => ⟨_, lk_row pm a b⟩
  have e1 := mapR_di di wf wh hf
  have e2 : mapR (fun x => (lk (rowL row) x).getD 0) l = mapR (rowF row) l := by
    unfold mapR
    refine List.map_congr_left fun p hp => ?_
    have hd := wf.dom _ _ (di.mem.mp (show (p.1, p.2) ∈ l from hp))
    dsimp only
    rw [lk_row pm hd.1 hd.2.1, lk_row pm hd.2.2.1 hd.2.2.2]
    rfl
  rw [e2] at e1
  have hg := good_dEq pm di (di_tab wg) wf wg
  rw [dEq_eqB e1 (di_tab wg) (wf_mul (wf_mul (wf_inv wh) wf) wh) wg] at hg
  rw [hg, decide_eq_true rfl, full_lenF wh hf (by omega), decide_eq_false (Int.lt_irrefl _), Bool.true_and, Bool.not_false, Bool.true_and, Bool.eq_iff_iff, decide_eq_true_eq]
  unfold glL
  rw [List.mem_filter]
  exact ⟨fun h => ⟨mem_ords.mpr pm, h⟩, fun h => h.2⟩
def spLPair : Sp := fun vs H Q _ => ∃ (d e oo : Addr) (n : Nat) (l l2 : List (Int × Int)) (f g : PF) (as : List Addr), vs = [.ref d, .ref e, .int (n : Int), .ref oo] ∧ H d = some (.dK (kvI l)) ∧ H e = some (.dK (kvI l2)) ∧ DI l f ∧ DI l2 g ∧ WF (n : Int) f ∧ WF (n : Int) g ∧ l.length ≤ 1000 ∧ l2.length ≤ 1000 ∧ 1 ≤ n ∧ n ≤ 5 ∧ H oo = some (.lst (as.map V.ref)) ∧ RowsAt H as (ords n) ∧ ∀ H', Same H H' → Q (.bl true) H'
section
variable {P : Program} {w : World} {K : PySem.W.Frag} {mg : Str → Option Value} {base : Heap}
set_option pp.maxSteps 3000 in
theorem ok_l_pair (T : Txt K mg) : FnR P w K mg base CX0 12 T.f_l_pair spLPair := by
  refine T.A_l_pair.ok sc_l_pair (fun vs H Q E h => ?_) (fun cdv A outer s H vs Q E hr h => ?_)
  · obtain ⟨d, e, oo, n, l, l2, f, g, as, rfl, _⟩ := h
    rfl
  · obtain ⟨d, e, oo, n, l, l2, f, g, as, rfl, ed, ee, di, di2, wf, wg, hll, hll2, n1, n5, eoo, ras, q⟩ := h
    have hu := hu_of hr
    refine ⟨_, (pss_cons (ps_par (i := 4) (j := 5) rfl sc_l_pair.nd rfl rfl (by decide) rfl rfl (pa_cons (pe_makeR T.M_Map (ok_init T) (hr.mono (by decide)) rfl T.g_Map pass0 (pa_cons (pv 2) (pa_cons (pv 0) pa_nil))) (pa_cons (pe_makeR T.M_Map (ok_init T) (hr.mono (by decide)) rfl T.g_Map pass0 (pa_cons (pv 2) (pa_cons (pv 1) pa_nil))) pa_nil)) (by rfl))
      (pss_cons (ps_setLc (i := 6) (own := [("_law_row", 8)]) (g := (gName 8)) rfl sc_l_pair.nd rfl rfl (sw_true rfl rfl rfl (by decide +kernel)) (pi_list (pv 3)) (blkOk_by (own := [("_law_row", 8)]) (N := n_l_pair) (sc := defScope s_l_pair) (by decide +kernel)) (fun _ _ _ _ _ => (pg_name (i := 8) sc_l_pair.nd rfl (Or.inl rfl))) (fun _ _ _ _ _ => (pts_one (pt_cmpR (U.op_eqDI hr.units0) (pe_callR (ok_l_renamed T) (hr.mono (by decide)) T.A_l_renamed.kp rfl T.g_l_renamed pass0 (pa_cons (pv 0) (pa_cons (pv 8) pa_nil))) (pv 1) (nomark _)))) (fun _ _ _ _ _ => (pv 8)))
      (pss_cons (ps_if (PW.pt (pw_or (pt_cmpR op_ne (pe_callB call_repr0 (by rfl) T.n_repr (by decide +kernel) (pa_cons (pe_callR (ok_are_alike T) (hr.mono (by decide)) T.A_are_alike.kp rfl T.g_are_alike pass0 (pa_cons (pv 4) (pa_cons (pv 5) pa_nil))) pa_nil)) (pe_callB call_repr0 (by rfl) T.n_repr (by decide +kernel) (pa_cons (pe_cmpR (L2.op_neD hr.units) (pv 6) (pe_lst pa_nil) (nomark _)) pa_nil)) (nomark _)) (pw_or1 (pt_cmpR op_ne (pe_callR (ok_count_renamings T) (hr.mono (by decide)) T.A_count_renamings.kp rfl T.g_count_renamings pass0 (pa_cons (pv 4) (pa_cons (pv 5) pa_nil))) (pe_callB call_len_seq (by rfl) T.n_len (by decide +kernel) (pa_cons (pv 6) pa_nil)) (nomark _)))))
        (pss_one (ps_ret pe_bl)) pss_nil)
      (pss_cons (ps_set (i := 7) sc_l_pair.nd rfl (Or.inr rfl) (pe_callR (ok_renaming T) (hr.mono (by decide)) T.A_renaming.kp rfl T.g_renaming pass0 (pa_cons (pv 4) (pa_cons (pv 5) pa_nil))))
      (pss_cons (ps_if (pt_cmpR (L2.op_eqD hr.units) (pv 6) (pe_lst pa_nil) (nomark _))
        (pss_one (ps_ret (pe_cmpR op_isN (pv 7) pe_non (nomark _)))) pss_nil)
      (pss_cons (ps_if (PW.pt (pw_or (pt_cmpR (L2.op_notInD (units65 hr)) (pe_lc (own := [("_law_number", 10)]) (g := (gName 10)) (tt := tYes) rfl sc_l_pair.nd (pi_range1 rfl T.n_range (pa_cons (pv 2) pa_nil)) (blkOk_by (own := [("_law_number", 10)]) (N := n_l_pair) (sc := defScope s_l_pair) (by decide +kernel)) (fun _ _ _ _ _ => (pg_name (i := 10) sc_l_pair.nd rfl (Or.inl rfl))) (fun _ _ _ _ _ => pts_nil) (fun _ _ _ _ _ => (pe_callD (pv 7) ⟨T.m_Map__call, T.i_Map__call, T.fi_Map__call⟩ (ok_call T) (hr.mono (by decide)) pass0 (pa_cons (pv 10) pa_nil)))) (pv 6) (by rfl)) (pw_or1 (pt_cmpR op_notBl (pe_callR (ok_is_renaming T) (hr.mono (by decide)) T.A_is_renaming.kp rfl T.g_is_renaming pass0 (pa_cons (pv 4) (pa_cons (pv 5) (pa_cons (pv 7) pa_nil)))) pe_bl (nomark _)))))
        (pss_one (ps_ret pe_bl)) pss_nil)
      (pss_cons (ps_for PassesOwn.never rfl (pi_list (pe_lst (pa_cons (pe_ix ix_list (pv 3) pe_int (fun _ _ => rfl)) (pa_cons (pe_ix ix_list (pv 3) (pe_un un_neg pe_int) (fun _ _ => rfl)) (pa_cons (pe_ix ix_list (pv 3) (pe_op op_fdiv (pe_callB call_len_seq (by rfl) T.n_len (by decide +kernel) (pa_cons (pv 3) pa_nil)) pe_int) (fun _ _ => rfl)) pa_nil))))) (pg_name (i := 8) sc_l_pair.nd rfl (Or.inl rfl))
        (pss_cons (ps_set (i := 9) sc_l_pair.nd rfl (Or.inl rfl) (pe_makeR T.M_Map (ok_init T) (hr.mono (by decide)) rfl T.g_Map pass0 (pa_cons (pv 2) (pa_cons (pe_callTy (call_dictP rfl) (by rfl) T.n_dict (by decide +kernel) (pa_cons (pe_listEnum rfl (pa_cons (pv 8) pa_nil) rfl T.n_list (by decide +kernel) rfl T.n_enumerate) pa_nil)) pa_nil))))
      (pss_one (ps_if (pt_cmpR op_ne (pe_callB call_repr0 (by rfl) T.n_repr (by decide +kernel) (pa_cons (pe_callR (ok_is_renaming T) (hr.mono (by decide)) T.A_is_renaming.kp rfl T.g_is_renaming pass0 (pa_cons (pv 4) (pa_cons (pv 5) (pa_cons (pv 9) pa_nil)))) pa_nil)) (pe_callB call_repr0 (by rfl) T.n_repr (by decide +kernel) (pa_cons (pe_cmpR (L2.op_inD (units65 hr)) (pv 8) (pv 6) (by rfl)) pa_nil)) (nomark _))
        (pss_one (ps_ret pe_bl)) pss_nil))))
      (pss_one (ps_ret pe_bl))))))))), ?_⟩
    refine ⟨_, rfl, _, rfl, fun fm dx1 nm1 ndx1 ne1 => init_of ed di wf (by omega) (by omega) hll nm1 ndx1 ne1 fun H1 s1 mf => ⟨rfl, ?_⟩⟩
    refine ⟨_, rfl, _, rfl, fun sm dx2 nm2 ndx2 ne2 => init_of (s1 _ _ ee) di2 wg (by omega) (by omega) hll2 nm2 ndx2 ne2 fun H2 s2 mg => ⟨rfl, ?_⟩⟩
    refine ⟨_, _, rfl, ?_⟩
    have s12 := s1.trans s2
    have lA := ras.len
    have lO : (ords n).length ≤ 200 := ordK_len n (by simp; omega) n (by simp; omega)
    refine nx_of (nx_seq (asg_of ?_))
    refine lc_keepR (as := as) (A := ords n) (a := oo) (goodB n f g) (fun R r => ⟨_, rfl, r⟩) (s12 _ _ eoo) (ras.same s12) (fun _ => rfl) (fun k x r hx hr H3 s3 => ⟨fun R rr => ?_, fun H3 R rr => ⟨_, rfl, rr⟩⟩) (lt_line (by omega)) (fun G bs H4 nG eG rbs lbs s4 => ?_)
    · have s03 := s12.trans s3
      obtain ⟨r', hr', er⟩ := (ras.same s03).get k x hx
      rw [hr] at hr'
      cases hr'
      have pm := mem_ords.mp (List.mem_of_getElem? hr)
      refine ⟨_, rfl, _, rfl, d, x, l, (n : Int), f, r, rfl, s03 _ _ ed, di, wf, hll, er, pm, fun o H5 s5 no eo => ⟨_, rfl, o, e, _, _, rfl, rfl, eo, s5 _ _ (s03 _ _ ee), intVals_kvI _, intVals_kvI _, _, rfl, ?_⟩⟩
      rw [good_dEq pm di di2 wf wg]
      exact rr _ s5
    have s14 := s12.trans s4
    replace mf := (mf.same s2).same s4
    replace mg := mg.same s4
    have egl : (ords n).filter (goodB n f g) = glL n f g := rfl
    rw [egl] at rbs
    have lG := rbs.len
    have hgl := gl_nil wf wg
    -- alike, and how many
    refine ⟨_, rfl, _, rfl, fm, sm, n, n, f, g, rfl, mf, mg, fun c H5 s5 hc => .inr (.inl ⟨_, rfl, ?_⟩)⟩
    have ec : c = !decide (glL n f g = []) := by
      rw [Bool.eq_iff_iff, hc]
      simp [hgl]
    refine ⟨_, rfl, nil_le, ?_⟩
    refine fun t1 n_t1 => ?_
    generalize g_t1 : L2.upd _ t1 _ = H6
    obtain ⟨s_H6, e_t1⟩ := U.upd_facts g_t1 n_t1
    clear g_t1
    have s46 := s5.trans s_H6
    refine ne_nilR (s46 _ _ eG) (rbs.same s46) e_t1 (.inr (.inl ⟨_, rfl, rfl, _, rfl, iteF' (by rw [ec]; simp) ?_⟩))
    refine ⟨_, rfl, _, rfl, fm, sm, n, n, f, g, rfl, mf.same s46, mg.same s46, by omega, fun z H7 s7 hz1 hz2 => ?_⟩
    have s47 := s46.trans s7
    refine ⟨_, rfl, G, _, rfl, .inl (SqL.of (s47 _ _ eG)), rfl, _, rfl, ?_⟩
    have ez : z = (glL n f g).length := by
      by_cases al : Alike (n : Int) f (n : Int) g
      · obtain ⟨cs, hs, d1, d2, rfl⟩ := hz2 al
        exact (cntG_is n1 n5 wf wg al d1 d2).symm
      · rw [hz1 al, hgl.mpr al]
        rfl
    refine iteF' (by rw [List.length_map, lG, ez]; simp) (nt_of ?_)
    have eG7 := s47 _ _ eG
    have rbs7 := rbs.same s47
    replace mf := mf.same s47
    replace mg := mg.same s47
    have s17 := s14.trans s47
    refine ⟨_, rfl, _, rfl, fm, sm, n, n, f, g, rfl, mf, mg, fun v H8 s8 hna hal => ?_⟩
    refine ⟨_, rfl, nil_le, ?_⟩
    refine fun t2 n_t2 => ?_
    generalize g_t2 : L2.upd _ t2 _ = H9
    obtain ⟨s_H9, e_t2⟩ := U.upd_facts g_t2 n_t2
    clear g_t2
    have s79 := s8.trans s_H9
    refine eq_nilR (s79 _ _ eG7) (rbs7.same s79) e_t2 ⟨_, rfl, ?_⟩
    by_cases al : Alike (n : Int) f (n : Int) g
    case neg =>
      refine iteT' (decide_eq_true (hgl.mpr al)) ?_
      rw [hna al]
      refine ⟨_, rfl, rfl, ?_⟩
      rw [decide_eq_true rfl]
      exact q _ (s17.trans s79)
    refine iteF' (decide_eq_false fun z => hgl.mp z al) (nt_of ?_)
    obtain ⟨tm, CA, CB, HA, HB, rfl, ro, mt⟩ := hal al
    have cj := ro_cj wf wg ro
    have wh := ren_wf wf wg ro
    have hfu : ∀ x, 0 ≤ x → x < (n : Int) → ∃ y, lk (renL CA CB HA HB) x = some y := fun x h0 h1 => ren_full wf ro h0 h1
    have hcon := ren_conj wf wg ro
    generalize lk (renL CA CB HA HB) = h at mt cj wh hfu hcon
    replace mt := mt.same s_H9
    obtain ⟨tx, tD, et, _⟩ := id mt.ob
    replace mf := mf.same s79
    replace mg := mg.same s79
    have eG9 := s79 _ _ eG7
    have rbs9 := rbs7.same s79
    have s19 := s17.trans s79
    refine nx_of (nx_seq (ifs_of (or_of (test_of (op_of ?_)))))
    refine lc_vals (n := n) (fun k => .int ((h (k : Int)).getD 0)) (fun R r => ⟨_, rfl, (n : Int), rfl, by omega, by omega, r⟩) (fun _ => rfl) (lt_line (by omega)) (fun k hk Ha sa R rr => ?_) (fun D H10 s10 nD eD => ?_)
    · obtain ⟨y, hy⟩ := hfu (k : Int) (by omega) (by omega)
      refine ⟨_, rfl, tm, rfl, _, rfl, ⟨tx, _, sa _ _ et⟩, tm, (n : Int), h, .int (0 + (k : Nat)), rfl, mt.same sa, trivial, ?_⟩
      rw [Int.zero_add, show tgtV h (.int (k : Int)) = h (k : Int) from rfl, hy]
      have := rr Ha (Same.refl _)
      rw [hy] at this
      exact this
    have eD' : H10 D = some (.lst (((rgI n).map fun x => (h x).getD 0).map V.int)) := by
      rw [eD]
      unfold rgI
      rw [List.map_map, List.map_map]
      rfl
    have hin := cj_mem wf cj
    refine ⟨_, rfl, dInts _, (glL n f g).map dInts, .lst (SqL.of eD') (dp_ints _), .lst (SqL.of (s10 _ _ eG9)) (rbs9.same s10).dp, shaped_dInts _, shaped_rows _, ?_⟩
    rw [any_rows, decide_eq_true hin]
    refine ⟨_, rfl, iteF' rfl ?_⟩
    replace mf := mf.same s10
    replace mg := mg.same s10
    replace mt := mt.same s10
    have etrue : true = (decide ((n : Int) = (n : Int)) && !decide (lenF (n : Int) h < (n : Int)) && eqB (n : Int) (mul (mul (inv (n : Int) h) f) h) (n : Int) g) := by
      rw [hcon, eqB_self wg, decide_eq_true rfl, full_lenF wh hfu (by omega), decide_eq_false (Int.lt_irrefl _)]
      rfl
    refine ⟨_, rfl, _, rfl, _, rfl, fm, sm, n, f, g, .ref tm, true, rfl, mf, mg, .inl ⟨tm, n, h, rfl, mt, etrue⟩, fun H11 s11 => ⟨true, true, rfl, rfl, _, rfl, iteF' rfl (nt_of ?_)⟩⟩
    have s911 := s10.trans s11
    replace mf := mf.same s11
    replace mg := mg.same s11
    have eG11 := s911 _ _ eG9
    have rbs11 := rbs9.same s911
    have s111 := s19.trans s911
    have eoo11 := s111 _ _ eoo
    have ras11 := ras.same s111
    have hne : 0 < as.length := by
      rw [lA]
      refine List.length_pos_iff.mpr fun z => ?_
      have := (List.mem_filter.mp hin).1
      rw [z] at this
      cases this
    obtain ⟨a0, h0⟩ : ∃ x, as[0]? = some x := ⟨_, List.getElem?_eq_getElem hne⟩
    obtain ⟨a1, h1⟩ : ∃ x, as[as.length - 1]? = some x := ⟨_, List.getElem?_eq_getElem (by omega)⟩
    obtain ⟨a2, h2⟩ : ∃ x, as[as.length / 2]? = some x := ⟨_, List.getElem?_eq_getElem (by omega)⟩
    have g0 : atI (as.map V.ref) 0 = some (.ref a0) := atI_nat (j := 0) (by rw [List.getElem?_map, h0]; rfl)
    have g1 : atI (as.map V.ref) (-1) = some (.ref a1) := by
      have hne' : as ≠ [] := fun z => by rw [z] at hne; exact absurd hne (by decide)
      have e := List.dropLast_concat_getLast hne'
      have e2 : as.getLast hne' = a1 := by
        rw [List.getLast_eq_getElem]
        exact (List.getElem?_eq_some_iff.mp h1).2
      rw [e2] at e
      rw [← e, List.map_append]
      exact atI_last _ _
    have g2 : atI (as.map V.ref) (((as.map V.ref).length : Int) / 2) = some (.ref a2) := by
      have := atI_nat (j := as.length / 2) (xs := as.map V.ref) (v := .ref a2) (by rw [List.getElem?_map, h2]; rfl)
      rw [List.length_map]
      rwa [Int.natCast_ediv] at this
    refine nx_of ?_
    refine for_lst ?_
    refine ⟨_, rfl, oo, _, 0, .ref a0, rfl, rfl, SqL.of eoo11, g0, _, rfl, 1, rfl, oo, _, -1, .ref a1, rfl, rfl, SqL.of eoo11, g1, ?_⟩
    refine ⟨_, rfl, _, rfl, oo, _, rfl, .inl (SqL.of eoo11), _, _, rfl, rfl, ?_, oo, _, _, .ref a2, rfl, rfl, SqL.of eoo11, g2, ?_⟩
    · rw [List.length_map]
      exact ⟨by decide, by decide⟩
    refine ⟨(show 3 ≤ sizeLine by decide), ?_⟩
    refine fun W n_W => ?_
    generalize g_W : L2.upd _ W _ = H12
    obtain ⟨s_H12, e_W⟩ := U.upd_facts g_W n_W
    clear g_W
    refine ⟨W, rfl, ⟨_, SqL.of e_W⟩, ?_⟩
    refine for_it (walk_list (xs := [V.ref a0, .ref a1, .ref a2])) (fun j σ H' => ∃ w8 w9 w10, σ = [some (.ref d), some (.ref e), some (.int (n : Int)), some (.ref oo), some (.ref fm), some (.ref sm), some (.ref G), some (.ref tm), w8, w9, w10] ∧ Same H12 H')
      ⟨_, _, _, rfl, Same.refl _⟩ (fun j σ H' _ ⟨_, _, _, _, z⟩ => SqL.of (z _ _ e_W)) ?_ ?_
    · rintro j v σ Hb0 Hb hj ⟨w8, w9, w10, rfl, sb⟩ ⟨rfl, ev⟩
      have sB := s_H12.trans sb
      have hv : ∃ a ∈ as, v = .ref a := by
        have hm : v ∈ [V.ref a0, .ref a1, .ref a2] := List.mem_of_getElem? ev
        rcases List.mem_cons.mp hm with rfl | hm
        · exact ⟨a0, List.mem_of_getElem? h0, rfl⟩
        · rcases List.mem_cons.mp hm with rfl | hm
          · exact ⟨a1, List.mem_of_getElem? h1, rfl⟩
          · rw [List.mem_singleton] at hm
            exact ⟨a2, List.mem_of_getElem? h2, hm⟩
      obtain ⟨ra, hra, rfl⟩ := hv
      obtain ⟨r, hr, er⟩ := (ras11.same sB).mem hra
      have pm := mem_ords.mp hr
      refine ⟨_, rfl, _, rfl, ra, _, rfl, SqL.of er, fun H18 lp ts s18 nlp nts nin elp pr => ?_⟩
      refine ⟨lp, ts, _, rfl, SqL.of elp, pr.map fun p _ kv e => SqT.of e, fun dp n_dp => ?_⟩
      rw [enK_int, merge_nil (rowL_di r).nd]
      generalize g_dp : L2.upd _ dp _ = H19
      obtain ⟨s_H19, e_dp⟩ := U.upd_facts g_dp n_dp
      clear g_dp
      have rlen : (rowL r).length ≤ 1000 := by
        unfold rowL
        rw [List.length_map, List.length_zipIdx, pm.length_eq]
        simp [rgI]
        omega
      refine fun em dx3 nm3 ndx3 ne3 => init_of e_dp (rowL_di r) (rowL_wf (n := (n : Int)) pm) (by omega) (by omega) rlen nm3 ndx3 ne3 fun H20 s20 mem => ⟨rfl, ?_⟩
      have sb20 := (s18.trans s_H19).trans s20
      have s1120 := sB.trans sb20
      refine ⟨_, rfl, _, rfl, _, rfl, fm, sm, n, f, g, .ref em, _, rfl, mf.same s1120, mg.same s1120, .inl ⟨em, n, _, rfl, mem, rfl⟩, fun Hc sc => .inr (.inl ⟨_, rfl, ?_⟩)⟩
      have s11c := s1120.trans sc
      refine ⟨_, rfl, _, rfl, dInts r, (glL n f g).map dInts, .lst (SqL.of ((sb20.trans sc) _ _ er)) (dp_ints _), .lst (SqL.of (s11c _ _ eG11)) (rbs11.same s11c).dp, shaped_dInts _, shaped_rows _, ?_⟩
      rw [any_rows, row_good pm di wf wg]
      refine .inr (.inl ⟨_, rfl, rfl, _, rfl, iteF' (by simp) ?_⟩)
      exact ⟨_, _, _, rfl, (sb.trans sb20).trans sc⟩
    · rintro σ Hb ⟨w8, w9, w10, rfl, sb⟩
      exact q _ (s111.trans (s_H12.trans sb))
end
end My
set_option maxHeartbeats 1000000
namespace My
open PySem L2 U StX PM
theorem for_dispV {K : PySem.W.Frag} {te : TE} {g : TG} {tb : TS} {D : Ends} {σ : L2.St} {H : Hp} {xs : List V} (Pv : Hp → Nat → L2.St → Hp → Prop) (hte : ∀ R : VK, (∀ a H1, Same H H1 → H1 a = some (.lst xs) → R (.ref a) H1) → te σ H R)
    (h0 : ∀ H1, Same H H1 → Pv H1 0 σ H1) (hk : ∀ H1 i σ H', Pv H1 i σ H' → Same H1 H')
    (hs : ∀ H1 i v σ H', Same H H1 → xs[i]? = some v → Pv H1 i σ H' → g v σ H' fun σ2 H2 => tb { D with nx := Pv H1 (i + 1), ct := Pv H1 (i + 1), bk := D.nx } σ2 H2)
    (hd : ∀ H1 σ H', Same H H1 → Pv H1 xs.length σ H' → D.nx σ H') : tFor (iList K te) g tb D σ H := by
  refine for_lst (hte _ fun a H1 s1 e => ⟨a, rfl, ⟨_, SqL.of e⟩, ?_⟩)
  refine for_it (walk_list (xs := xs)) (Pv H1) (h0 H1 s1) (fun i σ H' _ p => SqL.of (hk H1 i σ H' p _ _ e)) ?_ ?_
  · rintro i v σ H0 H' hi hp ⟨rfl, ev⟩
    exact hs H1 i v σ _ s1 ev hp
  · exact fun σ H' hp => hd H1 σ H' s1 hp
def spLBad (C : Addr) : Sp := fun vs H Q _ => ∃ (a : Addr) (n : Int) (f : PF) (x : V), vs = [.ref a, x] ∧ IsMap C H a n f ∧ nonMapV H x ∧ ∀ H', Same H H' → Q (.bl true) H'
section
variable {P : Program} {w : World} {K : PySem.W.Frag} {mg : Str → Option Value} {base : Heap}
open Classical in
noncomputable def askB (T : Txt K mg) (f : Addr) : Option Sp := if f = T.f_are_alike ∨ f = T.f_renaming ∨ f = T.f_count_renamings then some (spBad2 T.C_Map T.C_InvalidMap) else none
theorem askB_ok (T : Txt K mg) : ∀ f sp, askB T f = some sp → FnR P w K mg base (L2.CX P w) 10 f sp ∧ PySem.W.keepIn K (.ref f) = true := by
  intro f sp h
  unfold askB at h
  split at h
  · rename_i e
    cases h
    rcases e with rfl | rfl | rfl
    · exact ⟨(okX_are_alike T).mono (by decide), T.A_are_alike.kp⟩
    · exact ⟨okX_renaming T, T.A_renaming.kp⟩
    · exact ⟨okX_count_renamings T, T.A_count_renamings.kp⟩
  · cases h
set_option pp.maxSteps 3000 in
theorem ok_l_bad (T : Txt K mg) : FnR P w K mg base CX0 14 T.f_l_bad (spLBad T.C_Map) := by
  refine T.A_l_bad.ok sc_l_bad (fun vs H Q E h => ?_) (fun cdv A outer s H vs Q E hr h => ?_)
  · obtain ⟨a, n, f, x, rfl, _⟩ := h
    rfl
  · obtain ⟨a, n, f, x, rfl, hm, hx, q⟩ := h
    have hu := hu_of hr
    refine ⟨_, (pss_cons (ps_for PassesOwn.never rfl (pi_list (pe_lst (pa_cons (pe_tup (pa_cons (pv 1) (pa_cons pe_non pa_nil))) (pa_cons (pe_tup (pa_cons (pv 0) (pa_cons (pv 1) pa_nil))) pa_nil)))) (pg_tup rfl (pgs_cons (pg_name (i := 2) sc_l_bad.nd rfl (Or.inl rfl)) (pgs_cons (pg_name (i := 3) sc_l_bad.nd rfl (Or.inl rfl)) pgs_nil)))
        (pss_cons (ps_try_as (i := 4) rfl rfl sc_l_bad.nd rfl rfl ⟨rfl, by decide, .inl T.g_InvalidMap⟩ L2.takes0 (fun W pn xe tk _ => (pss_cons (ps_expr (pe_callRS (okX_is_renaming T) (hr.mono (by decide)) T.A_is_renaming.kp rfl T.g_is_renaming (fun σ => passAt tk σ) (pa_cons (pv 2) (pa_cons (pv 3) (pa_cons pe_non pa_nil)))))
      (pss_one (ps_ret pe_bl)))) (fun a oe cls d pn hz hf => (pss_one (ps_if (pt_cmpR op_ne (pe_xf T.xf_InvalidMap T.na_part_InvalidMap hz hf (pv 4)) pe_str (nomark _))
        (pss_one (ps_ret pe_bl)) pss_nil))))
      (pss_one (ps_for PassesOwn.never rfl (pi_list (pe_lst (pa_cons (pe_glob (v := .ref T.f_are_alike) rfl T.g_are_alike rfl) (pa_cons (pe_glob (v := .ref T.f_renaming) rfl T.g_renaming rfl) (pa_cons (pe_glob (v := .ref T.f_count_renamings) rfl T.g_count_renamings rfl) pa_nil))))) (pg_name (i := 5) sc_l_bad.nd rfl (Or.inl rfl))
        (pss_one (ps_try_as (i := 4) rfl rfl sc_l_bad.nd rfl rfl ⟨rfl, by decide, .inl T.g_InvalidMap⟩ L2.takes0 (fun W pn xe tk _ => (pss_cons (ps_expr (pe_callLS (i := 5) (S := askB T) (askB_ok T) (hr.mono (by decide)) rfl (Or.inl rfl) (fun σ => passAt tk σ) (pa_cons (pv 2) (pa_cons (pv 3) pa_nil))))
      (pss_one (ps_ret pe_bl)))) (fun a oe cls d pn hz hf => (pss_one (ps_if (pt_cmpR op_ne (pe_xf T.xf_InvalidMap T.na_part_InvalidMap hz hf (pv 4)) pe_str (nomark _))
        (pss_one (ps_ret pe_bl)) pss_nil)))))))))
      (pss_one (ps_ret pe_bl))), ?_⟩
    refine for_lst ?_
    refine ⟨_, rfl, two_le, ?_⟩
    refine fun t1 n_t1 => ?_
    generalize g_t1 : L2.upd _ t1 _ = H1
    obtain ⟨s_H1, e_t1⟩ := U.upd_facts g_t1 n_t1
    clear g_t1
    refine ⟨_, rfl, _, rfl, two_le, ?_⟩
    refine fun t2 n_t2 => ?_
    generalize g_t2 : L2.upd _ t2 _ = H2
    obtain ⟨s_H2, e_t2⟩ := U.upd_facts g_t2 n_t2
    clear g_t2
    refine ⟨two_le, ?_⟩
    refine fun L n_L => ?_
    generalize g_L : L2.upd _ L _ = H3
    obtain ⟨s_H3, e_L⟩ := U.upd_facts g_L n_L
    clear g_L
    refine ⟨L, rfl, ⟨_, SqL.of e_L⟩, ?_⟩
    have s23 := s_H2.trans s_H3
    have s03 := s_H1.trans s23
    refine for_it (walk_list (xs := [V.ref t1, .ref t2])) (fun j σ H' => ∃ w2 w3 w5, σ = [some (.ref a), some x, w2, w3, none, w5] ∧ Same H3 H')
      ⟨_, _, _, rfl, Same.refl _⟩ (fun j σ H' _ ⟨_, _, _, _, z⟩ => SqL.of (z _ _ e_L)) ?_ ?_
    · rintro j v σ Ha0 Ha hj ⟨w2, w3, w5, rfl, sa⟩ ⟨rfl, ev⟩
      have key : ∃ t fx sx, v = .ref t ∧ H3 t = some (.tup [fx, sx]) ∧ ∀ H', Same H H' → BadP T.C_Map H' fx sx := by
        have hm' : v ∈ [V.ref t1, .ref t2] := List.mem_of_getElem? ev
        rcases List.mem_cons.mp hm' with rfl | hm'
        · exact ⟨t1, x, .non, rfl, s23 _ _ e_t1, fun H' s => .inl (hx.same s)⟩
        · rw [List.mem_singleton] at hm'
          exact ⟨t2, .ref a, x, hm', s_H3 _ _ e_t2, fun H' s => .inr ⟨⟨a, n, f, rfl, hm.same s⟩, hx.same s⟩⟩
      obtain ⟨t, fx, sx, rfl, et, bad⟩ := key
      refine ⟨t, _, rfl, SqT.of (sa _ _ et), rfl, fx, [sx], rfl, sx, [], rfl, rfl, ?_⟩
      refine ⟨_, rfl, _, rfl, fx, sx, .non, rfl, bad _ (s03.trans sa), fun dd ndd => ?_⟩
      refine ⟨true, T.te_InvalidMap, fun _ ea nea => ?_, fun q => nomatch q⟩
      refine ⟨_, rfl, rfl, rfl, dd, _, _, rfl, upd_same, rfl, rfl, _, rfl, iteF' (by simp) (nt_of ?_)⟩
      have sb := sa.trans (Same.new (o := .xd [("part", .str "map")]) ndd)
      generalize upd Ha dd _ = Hb at sb ⊢
      refine nx_of (nx_of ?_)
      refine for_dispV (xs := [V.ref T.f_are_alike, .ref T.f_renaming, .ref T.f_count_renamings]) (fun H5 j σ H' => ∃ w5, σ = [some (.ref a), some x, some fx, some sx, none, w5] ∧ Same H5 H')
        (fun R r => ⟨(show 3 ≤ sizeLine by decide), fun p np => r p _ (Same.new np) upd_same⟩) (fun H5 s5 => ⟨_, rfl, Same.refl _⟩) (fun H5 j σ H' ⟨_, _, z⟩ => z) ?_ ?_
      · rintro H5 j v σ Hc s_H5 ev ⟨w5, rfl, sc⟩
        have key2 : ∃ fv, v = .ref fv ∧ askB T fv = some (spBad2 T.C_Map T.C_InvalidMap) := by
          have hm' : v ∈ [V.ref T.f_are_alike, .ref T.f_renaming, .ref T.f_count_renamings] := List.mem_of_getElem? ev
          rcases List.mem_cons.mp hm' with rfl | hm'
          · exact ⟨_, rfl, if_pos (.inl rfl)⟩
          · rcases List.mem_cons.mp hm' with rfl | hm'
            · exact ⟨_, rfl, if_pos (.inr (.inl rfl))⟩
            · rw [List.mem_singleton] at hm'
              exact ⟨_, hm', if_pos (.inr (.inr rfl))⟩
        obtain ⟨fv, rfl, ask⟩ := key2
        refine ⟨fv, _, rfl, ask, _, rfl, _, rfl, fx, sx, rfl, bad _ (((s03.trans sb).trans s_H5).trans sc), fun dd ndd => ?_⟩
        refine ⟨true, T.te_InvalidMap, fun _ ea nea => ?_, fun q => nomatch q⟩
        refine ⟨_, rfl, rfl, rfl, dd, _, _, rfl, upd_same, rfl, rfl, _, rfl, iteF' (by simp) (nt_of ?_)⟩
        exact ⟨_, rfl, sc.trans (Same.new ndd)⟩
      · rintro H5 σ Hc s_H5 ⟨w5, rfl, sc⟩
        exact ⟨_, _, _, rfl, (sb.trans s_H5).trans sc⟩
    · rintro σ Ha ⟨w2, w3, w5, rfl, sa⟩
      exact q _ (s03.trans sa)
end
end My
set_option maxHeartbeats 1000000
namespace My
open PySem L2 U StX PM
def spIsRd (C : Addr) : Sp := fun vs H Q _ => ∃ (a c x : Addr) (n n' n'' : Int) (f g h : PF), vs = [.ref a, .ref c, .ref x] ∧ IsMap C H a n f ∧ IsMap C H c n' g ∧ IsMap C H x n'' h ∧ n ≠ n' ∧ Q (.bl false) H
section
variable {P : Program} {w : World} {K : PySem.W.Frag} {mg : Str → Option Value} {base : Heap}
set_option pp.maxSteps 3000 in
theorem okN_is_renaming (T : Txt K mg) : FnR P w K mg base CX0 9 T.f_is_renaming (spIsRd T.C_Map) := by
  refine T.A_is_renaming.ok sc_is_renaming (fun vs H Q E h => ?_) (fun cdv A outer s H vs Q E hr h => ?_)
  · obtain ⟨a, c, x, n, n', n'', f, g, h, rfl, _⟩ := h
    rfl
  · obtain ⟨a, c, x, n, n', n'', f, g, h, rfl, ha, hc, hx, hn, q⟩ := h
    have hu := hu_of hr
    refine ⟨_, (pss_cons (ps_expr (pe_callR (fnR_calm (ok_check_map T)) (hr.mono (by decide)) T.A_check_map.kp rfl T.g_check_map pass0 (pa_cons (pv 0) pa_nil)))
      (pss_cons (ps_expr (pe_callR (fnR_calm (ok_check_map T)) (hr.mono (by decide)) T.A_check_map.kp rfl T.g_check_map pass0 (pa_cons (pv 1) pa_nil)))
      (pss_cons (ps_if (PW.pt (pw_or (pt_not (pt_val (pe_callB call_isi (by rfl) T.n_isinstance (by decide +kernel) (pa_cons (pv 2) (pa_cons (pe_glob (v := .ref T.C_Map) rfl T.g_Map rfl) pa_nil))))) (pw_or (pt_cmpR op_ne (pe_propR (pv 0) T.o_Map.cl T.P_Map_size (ok_size T) (hr.mono (by decide))) (pe_propR (pv 1) T.o_Map.cl T.P_Map_size (ok_size T) (hr.mono (by decide))) (nomark _)) (pw_or (pt_cmpR op_ne (pe_propR (pv 2) T.o_Map.cl T.P_Map_size (ok_size T) (hr.mono (by decide))) (pe_propR (pv 0) T.o_Map.cl T.P_Map_size (ok_size T) (hr.mono (by decide))) (nomark _)) (pw_or1 (pt_cmpR op_lt (pe_callB (call_lenO T.m_Map__len T.i_Map__len (ok_len T) (hr.mono (by decide)) pass0) (by rfl) T.n_len (by decide +kernel) (pa_cons (pv 2) pa_nil)) (pe_propR (pv 2) T.o_Map.cl T.P_Map_size (ok_size T) (hr.mono (by decide))) (nomark _)))))))
        (pss_one (ps_ret pe_bl)) pss_nil)
      (pss_one (ps_ret (pe_cmpR (op_cmp (fun _ _ => rfl) T.m_Map__eq T.i_Map__eq (ok_eq T) (hr.mono (by decide)) pass0) (pe_op (op_bin T.o_Map.sf T.m_Map__mul T.i_Map__mul (ok_mul T) (hr.mono (by decide)) pass0) (pe_op (op_bin T.o_Map.sf T.m_Map__mul T.i_Map__mul (ok_mul T) (hr.mono (by decide)) pass0) (pe_un (un_inv T.m_Map__invert T.i_Map__invert (ok_invert T) (hr.mono (by decide)) pass0) (pv 2)) (pv 0)) (pv 2)) (pv 1) (nomark _))))))), ?_⟩
    refine ⟨_, rfl, _, rfl, .inl ⟨a, n, f, rfl, ha, ?_⟩⟩
    refine ⟨_, rfl, _, rfl, .inl ⟨c, n', g, rfl, hc, ?_⟩⟩
    obtain ⟨dx, D1, e1, _⟩ := id hx.ob
    obtain ⟨dx2, D2, e2, _⟩ := id ha.ob
    obtain ⟨dx3, D3, e3, _⟩ := id hc.ob
    refine ⟨_, rfl, _, _, _, _, true, rfl, .own _, tyx_ins T.o_Map e1, T.self_Map, _, rfl, ?_⟩
    refine iteF' rfl ?_
    exact ⟨_, rfl, a, dx2, _, rfl, e2, a, n, f, rfl, ha, _, rfl, c, dx3, _, rfl, e3, c, n', g, rfl, hc, rfl, _, rfl, iteT' (by rw [decide_eq_false (fun z => hn (V.int.inj z))]; rfl) (iteT' rfl q)⟩
set_option pp.maxSteps 3000 in
theorem ok_law (T : Txt K mg) : FnG P w K mg base CX0 40 T.f_law (spLaw K) := by
  refine T.A_law.okG sc_law (fun vs H Q E h => ?_) (fun cdv A outer s H vs Q E gd hr h => ?_)
  · obtain ⟨a, ns, rfl, _⟩ := h
    rfl
  · obtain ⟨a, ns, rfl, hS, hl, q⟩ := h
    have hu := hu_of hr
    refine ⟨_, (pss_cons (ps_for PassesOwn.never rfl (pi_range1 rfl T.n_range (pa_cons (pe_callB (call_max2 rfl) (by rfl) T.n_max (by decide +kernel) (pa_cons pe_int (pa_cons (pe_callB (call_min2 rfl) (by rfl) T.n_min (by decide +kernel) (pa_cons (pe_callB call_len_seq (by rfl) T.n_len (by decide +kernel) (pa_cons (pv 0) pa_nil)) (pa_cons pe_int pa_nil))) pa_nil))) pa_nil)) (pg_name (i := 1) sc_law.nd rfl (Or.inl rfl))
        (pss_cons (ps_set (i := 2) sc_law.nd rfl (Or.inl rfl) (pe_callR (ok_hand T) (hr.mono (by decide)) T.A_l_hand.kp rfl T.g_l_hand pass0 (pa_cons (pv 0) (pa_cons (pv 1) pa_nil))))
      (pss_cons (ps_set (i := 3) sc_law.nd rfl (Or.inl rfl) (pe_op op_add pe_int (pe_callR (ok_draw T) (hr.mono (by decide)) T.A_l_draw.kp rfl T.g_l_draw pass0 (pa_cons (pv 2) (pa_cons pe_int pa_nil)))))
      (pss_cons (ps_set (i := 4) sc_law.nd rfl (Or.inl rfl) (pe_callR (ok_l_orders T) (hr.mono (by decide)) T.A_l_orders.kp rfl T.g_l_orders pass0 (pa_cons (pv 3) pa_nil)))
      (pss_cons (ps_set (i := 5) sc_law.nd rfl (Or.inl rfl) (pe_callR (ok_l_arrows T) (hr.mono (by decide)) T.A_l_arrows.kp rfl T.g_l_arrows pass0 (pa_cons (pv 2) (pa_cons (pv 3) (pa_cons (pe_op op_add pe_int (pe_callR (ok_draw T) (hr.mono (by decide)) T.A_l_draw.kp rfl T.g_l_draw pass0 (pa_cons (pv 2) (pa_cons pe_int pa_nil)))) pa_nil)))))
      (pss_cons (ps_set (i := 6) sc_law.nd rfl (Or.inl rfl) (pe_callR (ok_l_arrows T) (hr.mono (by decide)) T.A_l_arrows.kp rfl T.g_l_arrows pass0 (pa_cons (pv 2) (pa_cons (pv 3) (pa_cons (pe_op op_add pe_int (pe_callR (ok_draw T) (hr.mono (by decide)) T.A_l_draw.kp rfl T.g_l_draw pass0 (pa_cons (pv 2) (pa_cons pe_int pa_nil)))) pa_nil)))))
      (pss_cons (ps_set (i := 7) sc_law.nd rfl (Or.inl rfl) (pe_ix ix_list (pv 4) (pe_callR (ok_draw T) (hr.mono (by decide)) T.A_l_draw.kp rfl T.g_l_draw pass0 (pa_cons (pv 2) (pa_cons (pe_callB call_len_seq (by rfl) T.n_len (by decide +kernel) (pa_cons (pv 4) pa_nil)) pa_nil))) (fun _ _ => rfl)))
      (pss_cons (ps_for PassesOwn.never rfl (pi_list (pe_lst (pa_cons (pe_tup (pa_cons (pv 5) (pa_cons (pv 6) pa_nil))) (pa_cons (pe_tup (pa_cons (pv 5) (pa_cons (pe_callR (ok_l_renamed T) (hr.mono (by decide)) T.A_l_renamed.kp rfl T.g_l_renamed pass0 (pa_cons (pv 5) (pa_cons (pv 7) pa_nil))) pa_nil))) (pa_cons (pe_tup (pa_cons (pv 6) (pa_cons (pv 6) pa_nil))) (pa_cons (pe_tup (pa_cons (pv 5) (pa_cons (pe_callR (ok_l_back T) (hr.mono (by decide)) T.A_l_back.kp rfl T.g_l_back pass0 (pa_cons (pv 5) pa_nil)) pa_nil))) pa_nil)))))) (pg_tup rfl (pgs_cons (pg_name (i := 8) sc_law.nd rfl (Or.inl rfl)) (pgs_cons (pg_name (i := 9) sc_law.nd rfl (Or.inl rfl)) pgs_nil)))
        (pss_one (ps_if (pt_not (pt_val (pe_callR (ok_l_pair T) (hr.mono (by decide)) T.A_l_pair.kp rfl T.g_l_pair pass0 (pa_cons (pv 8) (pa_cons (pv 9) (pa_cons (pv 3) (pa_cons (pv 4) pa_nil)))))))
        (pss_one (ps_ret pe_bl)) pss_nil)))
      (pss_cons (ps_par (i := 10) (j := 11) rfl sc_law.nd rfl rfl (by decide) rfl rfl (pa_cons (pe_makeR T.M_Map (ok_init T) (hr.mono (by decide)) rfl T.g_Map pass0 (pa_cons (pv 3) (pa_cons (pv 5) pa_nil))) (pa_cons (pe_makeR T.M_Map (ok_init T) (hr.mono (by decide)) rfl T.g_Map pass0 (pa_cons (pe_op op_add (pv 3) pe_int) (pa_cons (pv 5) pa_nil))) pa_nil)) (by rfl))
      (pss_cons (ps_if (PW.pt (pw_or (pt_cmpR op_notBl (pe_callR (ok_are_alike T) (hr.mono (by decide)) T.A_are_alike.kp rfl T.g_are_alike pass0 (pa_cons (pv 10) (pa_cons (pv 11) pa_nil))) pe_bl (nomark _)) (pw_or1 (pt_cmpR op_notN (pe_callR (ok_renaming T) (hr.mono (by decide)) T.A_renaming.kp rfl T.g_renaming pass0 (pa_cons (pv 10) (pa_cons (pv 11) pa_nil))) pe_non (nomark _)))))
        (pss_one (ps_ret pe_bl)) pss_nil)
      (pss_cons (ps_if (PW.pt (pw_or (pt_cmpR op_ne (pe_callR (ok_count_renamings T) (hr.mono (by decide)) T.A_count_renamings.kp rfl T.g_count_renamings pass0 (pa_cons (pv 11) (pa_cons (pv 10) pa_nil))) pe_int (nomark _)) (pw_or1 (pt_cmpR op_notBl (pe_callR (okN_is_renaming T) (hr.mono (by decide)) T.A_is_renaming.kp rfl T.g_is_renaming pass0 (pa_cons (pv 10) (pa_cons (pv 11) (pa_cons (ClX.pe_cmeth (pe_glob (v := .ref T.C_Map) rfl T.g_Map rfl) T.R_Map T.cm_Map_identity (ok_identity T) (hr.mono (by decide)) pass0 (pa_cons (pv 3) pa_nil)) pa_nil)))) pe_bl (nomark _)))))
        (pss_one (ps_ret pe_bl)) pss_nil)
      (pss_one (ps_if (pt_not (pt_val (pe_callR (ok_l_bad T) (hr.mono (by decide)) T.A_l_bad.kp rfl T.g_l_bad pass0 (pa_cons (pv 10) (pa_cons (pe_ix ix_list (pe_lst (pa_cons pe_non (pa_cons pe_dnewK (pa_cons (pv 5) (pa_cons pe_int (pa_cons pe_str pa_nil)))))) (pe_callR (ok_draw T) (hr.mono (by decide)) T.A_l_draw.kp rfl T.g_l_draw pass0 (pa_cons (pv 2) (pa_cons pe_int pa_nil))) (fun _ _ => rfl)) pa_nil)))))
        (pss_one (ps_ret pe_bl)) pss_nil)))))))))))))
      (pss_one (ps_ret pe_bl))), ?_⟩
    refine ⟨_, rfl, a, _, rfl, .inl hS, _, _, rfl, _, _, rfl, _, rfl, ?_, ?_, ?_⟩
    · rw [List.length_map]; (repeat' split) <;> omega
    · rw [List.length_map]; (repeat' split) <;> omega
    refine for_it (walk_range (lo := 0)) (fun i σ H' => ∃ v1 v2 v3 v4 v5 v6 v7 v8 v9 v10 v11, σ = [some (.ref a), v1, v2, v3, v4, v5, v6, v7, v8, v9, v10, v11] ∧ Same H H')
      ⟨none, none, none, none, none, none, none, none, none, none, none, rfl, Same.refl H⟩ (fun _ _ _ _ _ => trivial) ?_ ?_
    · rintro k v σ H' H1 hk ⟨v1, v2, v3, v4, v5, v6, v7, v8, v9, v10, v11, rfl, p1⟩ ⟨rfl, rfl⟩
      refine ⟨_, rfl, _, rfl, a, ns, _, rfl, SqL.same hS p1, hl, fun p H2 x y np hp s2 hx hy hy2 => ?_⟩
      have p0 : H p = none := p1.free np
      have pool2 : PoolAt H2 p := ⟨x, y, hp, hx, hy, hy2⟩
      refine draw_R rfl (fun R r => r) pool2 (by decide) (by decide) fun r H3 r0 r1 pool3 off3 => ⟨_, _, rfl, rfl, ?_⟩
      obtain ⟨n, en⟩ : ∃ n : Nat, 1 + r = (n : Int) := ⟨(1 + r).toNat, by omega⟩
      dsimp only
      rw [en]
      have n1 : 1 ≤ n := by omega
      have n5 : n ≤ 5 := by omega
      refine ⟨_, rfl, n, rfl, n1, n5, fun oo as H4 s4 noo eoo ras nas => ?_⟩
      have pool4 := pool3.same s4
      have npo : oo ≠ p := (pool3.ne noo).symm
      have npa : p ∉ as := fun hm => by
        obtain ⟨xs, e⟩ := pool3.lst
        rw [nas p hm] at e
        cases e
      refine ⟨_, rfl, _, rfl, draw_R rfl (fun R r => r) pool4 (by decide) (by decide) fun w1 H5 wa wb pool5 off5 => ⟨_, _, rfl, rfl, ?_⟩⟩
      refine ⟨p, (n : Int), _, rfl, pool5, by omega, by omega, fun d H6 l nd ed di wf hll pool6 off6 => ?_⟩
      refine ⟨_, rfl, _, rfl, draw_R rfl (fun R r => r) pool6 (by decide) (by decide) fun w2 H7 wc wd pool7 off7 => ⟨_, _, rfl, rfl, ?_⟩⟩
      refine ⟨p, (n : Int), _, rfl, pool7, by omega, by omega, fun e H8 l2 ne ee di2 wg hll2 pool8 off8 => ?_⟩
      have nop : ∀ {Hx : Hp} {x : Addr} {kvs : List (Key × V)}, PoolAt Hx p → Hx x = some (.dK kvs) → x ≠ p := fun po e z => by obtain ⟨xs, e2⟩ := po.lst; rw [z, e2] at e; cases e
      have ed7 := off7 _ _ (nop pool6 ed) ed
      have ed8 := off8 _ _ (nop pool7 ed7) ed7
      have o48 := ((off5.tr off6).tr off7).tr off8
      have eoo8 := o48 _ _ npo eoo
      have ras8 : RowsAt H8 as (ords n) := ras.map fun b hb xs e => o48 _ _ (fun z => npa (z ▸ hb)) e
      have lA := ras.len
      have lO : (ords n).length ≤ 200 := ordK_len n (by simp; omega) n (by simp; omega)
      have hpos : 0 < as.length := by
        rw [lA]
        exact List.length_pos_iff.mpr fun z => by
          have : rgI n ∈ ords n := mem_ords.mpr (List.Perm.refl _)
          rw [z] at this
          cases this
      refine ⟨_, rfl, draw_R (n := ((as.map V.ref).length : Nat)) rfl (fun R r => ⟨_, rfl, oo, _, rfl, .inl (SqL.of eoo8), r⟩) pool8 (by rw [List.length_map]; omega) (by rw [List.length_map]; omega) fun ri H9 ri0 ri1 pool9 off9 => ?_⟩
      rw [List.length_map] at ri1
      obtain ⟨ra, era⟩ : ∃ x, as[ri.toNat]? = some x := ⟨_, List.getElem?_eq_getElem (by omega)⟩
      have eri : atI (as.map V.ref) ri = some (.ref ra) := by
        have := atI_nat (j := ri.toNat) (xs := as.map V.ref) (v := .ref ra) (by rw [List.getElem?_map, era]; rfl)
        rwa [Int.toNat_of_nonneg ri0] at this
      have eoo9 := off9 _ _ npo eoo8
      have ras9 : RowsAt H9 as (ords n) := ras8.map fun b hb xs e => off9 _ _ (fun z => npa (z ▸ hb)) e
      have ed9 := off9 _ _ (nop pool8 ed8) ed8
      have ee9 := off9 _ _ (nop pool8 ee) ee
      refine ⟨oo, _, ri, .ref ra, rfl, rfl, SqL.of eoo9, eri, ?_⟩
      obtain ⟨row, hrow, er9⟩ := ras9.get _ ra era
      have pm := mem_ords.mp (List.mem_of_getElem? hrow)
      have sH9 : Same H H9 := Same.off (Same.off ((Same.off (p1.trans s2) off3 p0).trans s4) o48 p0) off9 p0
      obtain ⟨f, ef⟩ : ∃ f, f = lk l := ⟨_, rfl⟩
      rw [← ef] at di wf
      obtain ⟨g, eg⟩ : ∃ g, g = lk l2 := ⟨_, rfl⟩
      rw [← eg] at di2 wg
      have d3 := row_di (n := (n : Int)) pm di wf
      have w3 := row_wf (n := (n : Int)) pm di wf
      refine nx_of (nx_seq ?_)
      refine for_lst ?_
      refine ⟨_, rfl, _, rfl, two_le, ?_⟩
      refine fun t1 n_t1 => ?_
      generalize g_t1 : L2.upd _ t1 _ = Ha
      obtain ⟨s_Ha, e_t1⟩ := U.upd_facts g_t1 n_t1
      clear g_t1
      refine ⟨_, rfl, _, rfl, _, rfl, d, ra, l, (n : Int), f, row, rfl, s_Ha _ _ ed9, di, wf, hll, s_Ha _ _ er9, pm, fun o1 Hb sb no1 eo1 => ⟨two_le, ?_⟩⟩
      refine fun t2 n_t2 => ?_
      generalize g_t2 : L2.upd _ t2 _ = Hc
      obtain ⟨s_Hc, e_t2⟩ := U.upd_facts g_t2 n_t2
      clear g_t2
      refine ⟨_, rfl, _, rfl, two_le, ?_⟩
      refine fun t3 n_t3 => ?_
      generalize g_t3 : L2.upd _ t3 _ = Hd
      obtain ⟨s_Hd, e_t3⟩ := U.upd_facts g_t3 n_t3
      clear g_t3
      have s9d := ((s_Ha.trans sb).trans s_Hc).trans s_Hd
      refine ⟨_, rfl, _, rfl, d, l, (n : Int), f, rfl, s9d _ _ ed9, di, wf, hll, fun o2 lb He se no2 eo2 dib hlb => ⟨two_le, ?_⟩⟩
      refine fun t4 n_t4 => ?_
      generalize g_t4 : L2.upd _ t4 _ = Hf
      obtain ⟨s_Hf, e_t4⟩ := U.upd_facts g_t4 n_t4
      clear g_t4
      refine ⟨(show 4 ≤ sizeLine by decide), ?_⟩
      refine fun LL n_LL => ?_
      generalize g_LL : L2.upd _ LL _ = Hg
      obtain ⟨s_Hg, e_LL⟩ := U.upd_facts g_LL n_LL
      clear g_LL
      have s9g := ((s9d.trans se).trans s_Hf).trans s_Hg
      have sHg := sH9.trans s9g
      have poolg := pool9.same s9g
      have edg := s9g _ _ ed9
      have eeg := s9g _ _ ee9
      have eoog := s9g _ _ eoo9
      have rasg := ras9.same s9g
      have et1 := (((((sb.trans s_Hc).trans s_Hd).trans se).trans s_Hf).trans s_Hg) _ _ e_t1
      have et2 := (((s_Hd.trans se).trans s_Hf).trans s_Hg) _ _ e_t2
      have et3 := ((se.trans s_Hf).trans s_Hg) _ _ e_t3
      have et4 := s_Hg _ _ e_t4
      have eo1g := (((((s_Hc.trans s_Hd).trans se).trans s_Hf).trans s_Hg)) _ _ eo1
      have eo2g := (s_Hf.trans s_Hg) _ _ eo2
      refine ⟨LL, rfl, ⟨_, SqL.of e_LL⟩, ?_⟩
      refine for_it (walk_list (xs := [V.ref t1, .ref t2, .ref t3, .ref t4])) (fun j σ H' => ∃ w1 w8 w9, σ = [some (.ref a), w1, some (.ref p), some (.int (n : Int)), some (.ref oo), some (.ref d), some (.ref e), some (.ref ra), w8, w9, v10, v11] ∧ Same Hg H')
        ⟨_, _, _, rfl, Same.refl _⟩ (fun j σ H' _ ⟨_, _, _, _, z⟩ => SqL.of (z _ _ e_LL)) ?_ ?_
      · rintro j v σ Hi0 Hi hj ⟨w1, w8, w9, rfl, si⟩ ⟨rfl, ev⟩
        have key : ∃ t d' e' l' l2' f' g', v = .ref t ∧ Hg t = some (.tup [.ref d', .ref e']) ∧ Hg d' = some (.dK (kvI l')) ∧ Hg e' = some (.dK (kvI l2')) ∧ DI l' f' ∧ DI l2' g' ∧ WF (n : Int) f' ∧ WF (n : Int) g' ∧ l'.length ≤ 1000 ∧ l2'.length ≤ 1000 := by
          have hm' : v ∈ [V.ref t1, .ref t2, .ref t3, .ref t4] := List.mem_of_getElem? ev
          have h4 : v = .ref t1 ∨ v = .ref t2 ∨ v = .ref t3 ∨ v = .ref t4 := by simpa using hm'
          rcases h4 with rfl | rfl | rfl | rfl
          · exact ⟨t1, d, e, l, l2, f, g, rfl, et1, edg, eeg, di, di2, wf, wg, hll, hll2⟩
          · exact ⟨t2, d, o1, l, _, f, _, rfl, et2, edg, eo1g, di, d3, wf, w3, hll, by unfold mapR; rw [List.length_map]; exact hll⟩
          · exact ⟨t3, e, e, l2, l2, g, g, rfl, et3, eeg, eeg, di2, di2, wg, wg, hll2, hll2⟩
          · exact ⟨t4, d, o2, l, lb, f, _, rfl, et4, edg, eo2g, di, dib, wf, wf_inv wf, hll, Nat.le_trans hlb hll⟩
        obtain ⟨t, d', e', l', l2', f', g', rfl, et, ed', ee', di', di2', wf', wg', hl', hl2'⟩ := key
        refine ⟨t, _, rfl, SqT.of (si _ _ et), rfl, .ref d', [.ref e'], rfl, .ref e', [], rfl, rfl, ?_⟩
        refine ⟨_, rfl, _, rfl, _, rfl, _, rfl, d', e', oo, n, l', l2', f', g', as, rfl, si _ _ ed', si _ _ ee', di', di2', wf', wg', hl', hl2', n1, n5, si _ _ eoog, rasg.same si, fun H' s' => ⟨true, rfl, iteF' rfl (nt_of ?_)⟩⟩
        exact ⟨_, _, _, rfl, si.trans s'⟩
      rintro σ Hi ⟨w1, w8, w9, rfl, si⟩
      have edi := si _ _ edg
      refine ⟨_, rfl, _, rfl, fun fm dx1 nm1 ndx1 ne1 => init_of edi di wf (by omega) (by omega) hll nm1 ndx1 ne1 fun Hj sj mf => ⟨rfl, ?_⟩⟩
      refine ⟨_, rfl, _, _, rfl, rfl, _, rfl, fun sm dx2 nm2 ndx2 ne2 => init_of (sj _ _ edi) di (show WF ((n : Int) + 1) f from ⟨fun x y e => by have := wf.dom x y e; omega, wf.inj⟩) (by omega) (by omega) hll nm2 ndx2 ne2 fun Hk sk mg => ⟨rfl, ?_⟩⟩
      refine ⟨_, _, rfl, ?_⟩
      replace mf := mf.same sk
      have nal : ¬ Alike (n : Int) f ((n : Int) + 1) f := fun z => by have := z.1; omega
      have nal' : ¬ Alike ((n : Int) + 1) f (n : Int) f := fun z => by have := z.1; omega
      refine ⟨_, rfl, _, rfl, fm, sm, n, (n : Int) + 1, f, f, rfl, mf, mg, fun c Hl sl hc => ?_⟩
      have ec : c = false := by
        cases c with
        | false => rfl
        | true => exact absurd (hc.mp rfl) nal
      subst ec
      refine ⟨false, false, rfl, rfl, _, rfl, iteF' rfl ?_⟩
      replace mf := mf.same sl
      replace mg := mg.same sl
      refine ⟨_, rfl, _, rfl, fm, sm, n, (n : Int) + 1, f, f, rfl, mf, mg, fun v Hm sm' hna hal => ?_⟩
      rw [hna nal]
      refine ⟨rfl, _, rfl, iteF' (by simp) (nt_of ?_)⟩
      replace mf := mf.same sm'
      replace mg := mg.same sm'
      refine ⟨_, rfl, _, rfl, sm, fm, (n : Int) + 1, n, f, f, rfl, mg, mf, by omega, fun z Hn sn hz1 hz2 => ?_⟩
      rw [hz1 nal']
      refine ⟨rfl, _, rfl, iteF' (by simp) ?_⟩
      replace mf := mf.same sn
      replace mg := mg.same sn
      refine ⟨_, rfl, _, rfl, rfl, _, rfl, n, rfl, by omega, by omega, fun im Ho no so mi => ?_⟩
      refine ⟨fm, sm, im, n, (n : Int) + 1, n, f, f, _, rfl, mf.same so, mg.same so, mi, by omega, false, false, rfl, rfl, _, rfl, iteF' rfl (nt_of ?_)⟩
      replace mf := mf.same so
      have sgo := si.trans (sj.trans (sk.trans (sl.trans (sm'.trans (sn.trans so)))))
      have poolo := poolg.same sgo
      refine ⟨_, rfl, ?_⟩
      refine fun z0 n_z0 => ?_
      generalize g_z0 : L2.upd _ z0 _ = Hp0
      obtain ⟨s_Hp0, e_z0⟩ := U.upd_facts g_z0 n_z0
      clear g_z0
      refine ⟨_, rfl, (show 5 ≤ sizeLine by decide), ?_⟩
      refine fun b1 n_b1 => ?_
      generalize g_b1 : L2.upd _ b1 _ = Hq
      obtain ⟨s_Hq, e_b1⟩ := U.upd_facts g_b1 n_b1
      clear g_b1
      have soq := s_Hp0.trans s_Hq
      have poolq := poolo.same soq
      have npb : p ≠ b1 := (poolo.same s_Hp0).ne n_b1
      refine draw_R rfl (fun R r => r) poolq (by decide) (by decide) fun rd Hr c0 c9 poolr offr => ?_
      have ebr := offr _ _ npb.symm e_b1
      have hx : ∃ v, atI [V.non, .ref z0, .ref d, .int 5, .str (Str.ofString "1:")] rd = some v ∧ nonMapV Hr v := by
        have : rd = 0 ∨ rd = 1 ∨ rd = 2 ∨ rd = 3 ∨ rd = 4 := by omega
        rcases this with rfl | rfl | rfl | rfl | rfl
        · exact ⟨.non, rfl, trivial⟩
        · have ez := s_Hq _ _ e_z0
          exact ⟨.ref z0, rfl, .inr (.inr ⟨_, offr _ _ (nop poolq ez) ez⟩)⟩
        · have edq := (sgo.trans soq) _ _ edg
          exact ⟨.ref d, rfl, .inr (.inr ⟨_, offr _ _ (nop poolq edq) edq⟩)⟩
        · exact ⟨.int 5, rfl, trivial⟩
        · exact ⟨_, rfl, trivial⟩
      obtain ⟨v, ev, nv⟩ := hx
      refine ⟨b1, _, rd, v, rfl, rfl, SqL.of ebr, ev, ?_⟩
      refine ⟨fm, n, f, v, rfl, (mf.same soq).off offr poolq.lst, nv, fun H' s' => ⟨true, rfl, iteF' rfl (nt_of ?_)⟩⟩
      exact ⟨_, _, _, _, _, _, _, _, _, _, _, rfl, (Same.off (sHg.trans (sgo.trans soq)) offr p0).trans s'⟩
    · rintro σ H' ⟨v1, v2, v3, v4, v5, v6, v7, v8, v9, v10, v11, rfl, p1⟩
      exact q H'
end
end My
namespace My
open PySem L2
theorem walk {l : PySem.W.OpenLaw} {q : Program} {loose : List Str} {XP : (Str → Option Value) → Heap → Prop} {YP : World → Heap → Prop} {d : DefRec} {K : Params → PySem.W.Frag} (hn : l.most = some 63) (hdf : d.params.defaults = []) (hnm : d.name = "law")
    (hY : ∀ (w : World) (h : Heap), YP w h → (K w.params).In h)
    (ok : ∀ (P : Program) (w : World) (K : PySem.W.Frag) (mg : Str → Option Value) (base : Heap) (T : Txt K mg), U.FnG P w K mg base CX0 40 T.f_law (spLaw K))
    (F : ∀ (w : World) (mg : Str → Option Value) (h : Heap), (K w.params).In h → h.Ns mainGlobals mg → Nonempty (Txt (K w.params) mg)) :
    PySem.W.WalkO q loose XP YP l.row.toRowW d [] (fun f vs => PySem.call f vs) := by
  refine U.walkG (n := 63) (k := 40) (sp := spLaw) hn (by decide) hdf ⟨rfl, by decide, by decide⟩ hY ?_ (fun K H a ns hl hS => ⟨a, ns, rfl, hS, hl, fun _ => rfl⟩)
  intro w mg fa h KX G hmg base
  obtain ⟨T⟩ := F w mg h KX G
  rw [hnm, T.g_law] at hmg
  cases hmg
  exact ok _ _ _ _ _ T
end My
local macro_rules | `(tactic| first | refine $t:term | fail $s:str) => do { let t2 ← t.raw.replaceM fun n => (do { if n.getKind == `Lean.Parser.Term.syntheticHole then { let nm := n[1].getId.eraseMacroScopes; if nm == `hl then { return some (Lean.mkIdent `My.hl) } else { return none } } else { return none } }); `(tactic| refine $(⟨t2⟩)) }
open PySem PySem.W PyProof.Rows
set_option maxRecDepth 100000 in
set_option maxHeartbeats 0 in
theorem PySem.Challenge.cw_chainmaps_k14_renamings_holds : PySem.Challenge.rw_chainmaps_k14_renamings.Holds := by
  w_on; o_law; k_headL; (case hw => w_witness2)
  k_fill
  refine My.walk (l := PySem.Challenge.rw_chainmaps_k14_renamings) rfl rfl rfl (fun w h Y => PySem.W.kIn_of Y) (fun _ _ _ _ _ T => My.ok_law T) ?F
  case F =>
    intro w mg h KX G
    refine' My.mk_txt KX G ?a_is_integer ?l_is_integer ?c_is_integer ?k_is_integer ?a_in_range ?l_in_range ?c_in_range ?k_in_range ?a_check_size ?l_check_size ?c_check_size ?k_check_size ?a_are_arrows ?l_are_arrows ?c_are_arrows ?k_are_arrows ?a_common_size ?l_common_size ?c_common_size ?k_common_size ?a_row_from ?l_row_from ?c_row_from ?k_row_from ?a_check_map ?l_check_map ?c_check_map ?k_check_map ?a_parts_of ?l_parts_of ?c_parts_of ?k_parts_of ?a_are_counts ?l_are_counts ?c_are_counts ?k_are_counts ?a_ordered ?l_ordered ?c_ordered ?k_ordered ?a_counts_of ?l_counts_of ?c_counts_of ?k_counts_of ?a_shape_of ?l_shape_of ?c_shape_of ?k_shape_of ?a_factorial ?l_factorial ?c_factorial ?k_factorial ?a_power_of ?l_power_of ?c_power_of ?k_power_of ?a_are_alike ?l_are_alike ?c_are_alike ?k_are_alike ?a_by_length ?l_by_length ?c_by_length ?k_by_length ?a_renaming ?l_renaming ?c_renaming ?k_renaming ?a_count_symmetries ?l_count_symmetries ?c_count_symmetries ?k_count_symmetries ?a_count_renamings ?l_count_renamings ?c_count_renamings ?k_count_renamings ?a_is_renaming ?l_is_renaming ?c_is_renaming ?k_is_renaming ?a_l_hand ?l_l_hand ?c_l_hand ?k_l_hand ?a_l_draw ?l_l_draw ?c_l_draw ?k_l_draw ?a_l_arrows ?l_l_arrows ?c_l_arrows ?k_l_arrows ?a_l_back ?l_l_back ?c_l_back ?k_l_back ?a_l_orders ?l_l_orders ?c_l_orders ?k_l_orders ?a_l_renamed ?l_l_renamed ?c_l_renamed ?k_l_renamed ?a_l_pair ?l_l_pair ?c_l_pair ?k_l_pair ?a_l_bad ?l_l_bad ?c_l_bad ?k_l_bad ?a_law ?l_law ?c_law ?k_law ?a_Shape ?pg_Shape ?hd_Shape ?po_Shape ?sa_Shape ?sf_Shape ?ca_Shape ?cn_Shape ?ct_Shape ?cm_Shape ?kc_Shape ?kit_int_Shape ?kit_bool_Shape ?kn_NoneType_Shape ?nf_NoneType_Shape ?kn_int_Shape ?nf_int_Shape ?kn_bool_Shape ?nf_bool_Shape ?kn_str_Shape ?nf_str_Shape ?kn_list_Shape ?nf_list_Shape ?kn_dict_Shape ?nf_dict_Shape ?kn_tuple_Shape ?nf_tuple_Shape ?self_Shape ?na_own_cycles_Shape ?na_own_chains_Shape ?m_Shape__eq ?i_Shape__eq ?l_Shape__eq ?c_Shape__eq ?k_Shape__eq ?m_Shape__init ?i_Shape__init ?l_Shape__init ?c_Shape__init ?k_Shape__init ?mk_Shape ?m_Shape_cycles ?s_get_Shape_cycles ?tk_Shape_cycles ?rc_Shape_cycles ?l_Shape_cycles ?c_Shape_cycles ?k_Shape_cycles ?m_Shape_chains ?s_get_Shape_chains ?tk_Shape_chains ?rc_Shape_chains ?l_Shape_chains ?c_Shape_chains ?k_Shape_chains ?a_Map ?pg_Map ?hd_Map ?po_Map ?sa_Map ?sf_Map ?ca_Map ?cn_Map ?ct_Map ?cm_Map ?kc_Map ?kit_int_Map ?kit_bool_Map ?kit_tuple_Map ?kn_NoneType_Map ?nf_NoneType_Map ?kn_int_Map ?nf_int_Map ?kn_bool_Map ?nf_bool_Map ?kn_str_Map ?nf_str_Map ?kn_list_Map ?nf_list_Map ?kn_dict_Map ?nf_dict_Map ?kn_tuple_Map ?nf_tuple_Map ?self_Map ?na_own_size_Map ?na_own_arrows_Map ?ne_Map ?m_Map__eq ?i_Map__eq ?l_Map__eq ?c_Map__eq ?k_Map__eq ?m_Map__init ?i_Map__init ?l_Map__init ?c_Map__init ?k_Map__init ?mk_Map ?rd_Map ?ga_Map ?at_Map_identity ?rc_Map_identity ?fi_Map_identity ?l_Map_identity ?c_Map_identity ?k_Map_identity ?m_Map_size ?s_get_Map_size ?tk_Map_size ?rc_Map_size ?l_Map_size ?c_Map_size ?k_Map_size ?m_Map_arrows ?s_get_Map_arrows ?tk_Map_arrows ?rc_Map_arrows ?l_Map_arrows ?c_Map_arrows ?k_Map_arrows ?m_Map__mul ?i_Map__mul ?l_Map__mul ?c_Map__mul ?k_Map__mul ?m_Map__invert ?i_Map__invert ?l_Map__invert ?c_Map__invert ?k_Map__invert ?m_Map__len ?i_Map__len ?l_Map__len ?c_Map__len ?k_Map__len ?m_Map__call ?i_Map__call ?l_Map__call ?c_Map__call ?k_Map__call ?fi_Map__call ?m_Map_is_source ?i_Map_is_source ?l_Map_is_source ?c_Map_is_source ?k_Map_is_source ?a_InvalidMap ?xl_InvalidMap ?sa_InvalidMap ?ex_InvalidMap ?ty_InvalidMap ?kc_InvalidMap ?hd_InvalidMap ?ga_InvalidMap ?gg_InvalidMap ?ss_InvalidMap ?ca_InvalidMap ?cn_InvalidMap ?ct_InvalidMap ?cm_InvalidMap ?kit_ValueError_InvalidMap ?na_part_InvalidMap ?m_InvalidMap__init ?ti_InvalidMap__init ?l_InvalidMap__init ?c_InvalidMap__init ?k_InvalidMap__init ?a_InvalidSize ?xl_InvalidSize ?sa_InvalidSize ?ex_InvalidSize ?ty_InvalidSize ?kc_InvalidSize ?hd_InvalidSize ?ga_InvalidSize ?gg_InvalidSize ?ss_InvalidSize ?ca_InvalidSize ?cn_InvalidSize ?ct_InvalidSize ?cm_InvalidSize ?kit_ValueError_InvalidSize ?na_value_InvalidSize ?m_InvalidSize__init ?ti_InvalidSize__init ?l_InvalidSize__init ?c_InvalidSize__init ?k_InvalidSize__init ?a_InvalidShape ?xl_InvalidShape ?sa_InvalidShape ?ex_InvalidShape ?ty_InvalidShape ?kc_InvalidShape ?hd_InvalidShape ?ga_InvalidShape ?gg_InvalidShape ?ss_InvalidShape ?ca_InvalidShape ?cn_InvalidShape ?ct_InvalidShape ?cm_InvalidShape ?kit_ValueError_InvalidShape ?na_part_InvalidShape ?m_InvalidShape__init ?ti_InvalidShape__init ?l_InvalidShape__init ?c_InvalidShape__init ?k_InvalidShape__init ?a_SizeMismatch ?xl_SizeMismatch ?sa_SizeMismatch ?ex_SizeMismatch ?ty_SizeMismatch ?kc_SizeMismatch ?hd_SizeMismatch ?ga_SizeMismatch ?gg_SizeMismatch ?ss_SizeMismatch ?ca_SizeMismatch ?cn_SizeMismatch ?ct_SizeMismatch ?cm_SizeMismatch ?kit_ValueError_SizeMismatch ?na_first_SizeMismatch ?na_second_SizeMismatch ?m_SizeMismatch__init ?ti_SizeMismatch__init ?l_SizeMismatch__init ?c_SizeMismatch__init ?k_SizeMismatch__init ?z_isinstance ?z_int ?z_bool ?z_dict ?z_len ?z_range ?z_list ?z_tuple ?z_max ?z_min ?z_all ?z_sorted ?z_abs ?z_enumerate ?z_repr ?z_zip ?v_MAX_SIZE ?kit_x_Shape_Map
    (case a_is_integer => as_aux_lemma => k_is)
    (case l_is_integer => as_aux_lemma => k_is)
    (case c_is_integer => as_aux_lemma => k_is)
    (case k_is_integer => as_aux_lemma => k_is)
    (case a_in_range => as_aux_lemma => k_is)
    (case l_in_range => as_aux_lemma => k_is)
    (case c_in_range => as_aux_lemma => k_is)
    (case k_in_range => as_aux_lemma => k_is)
    (case a_check_size => as_aux_lemma => k_is)
    (case l_check_size => as_aux_lemma => k_is)
    (case c_check_size => as_aux_lemma => k_is)
    (case k_check_size => as_aux_lemma => k_is)
    (case a_are_arrows => as_aux_lemma => k_is)
    (case l_are_arrows => as_aux_lemma => k_is)
    (case c_are_arrows => as_aux_lemma => k_is)
    (case k_are_arrows => as_aux_lemma => k_is)
    (case a_common_size => as_aux_lemma => k_is)
    (case l_common_size => as_aux_lemma => k_is)
    (case c_common_size => as_aux_lemma => k_is)
    (case k_common_size => as_aux_lemma => k_is)
    (case a_row_from => as_aux_lemma => k_is)
    (case l_row_from => as_aux_lemma => k_is)
    (case c_row_from => as_aux_lemma => k_is)
    (case k_row_from => as_aux_lemma => k_is)
    (case a_check_map => as_aux_lemma => k_is)
    (case l_check_map => as_aux_lemma => k_is)
    (case c_check_map => as_aux_lemma => k_is)
    (case k_check_map => as_aux_lemma => k_is)
    (case a_parts_of => as_aux_lemma => k_is)
    (case l_parts_of => as_aux_lemma => k_is)
    (case c_parts_of => as_aux_lemma => k_is)
    (case k_parts_of => as_aux_lemma => k_is)
    (case a_are_counts => as_aux_lemma => k_is)
    (case l_are_counts => as_aux_lemma => k_is)
    (case c_are_counts => as_aux_lemma => k_is)
    (case k_are_counts => as_aux_lemma => k_is)
    (case a_ordered => as_aux_lemma => k_is)
    (case l_ordered => as_aux_lemma => k_is)
    (case c_ordered => as_aux_lemma => k_is)
    (case k_ordered => as_aux_lemma => k_is)
    (case a_counts_of => as_aux_lemma => k_is)
    (case l_counts_of => as_aux_lemma => k_is)
    (case c_counts_of => as_aux_lemma => k_is)
    (case k_counts_of => as_aux_lemma => k_is)
    (case a_shape_of => as_aux_lemma => k_is)
    (case l_shape_of => as_aux_lemma => k_is)
    (case c_shape_of => as_aux_lemma => k_is)
    (case k_shape_of => as_aux_lemma => k_is)
    (case a_factorial => as_aux_lemma => k_is)
    (case l_factorial => as_aux_lemma => k_is)
    (case c_factorial => as_aux_lemma => k_is)
    (case k_factorial => as_aux_lemma => k_is)
    (case a_power_of => as_aux_lemma => k_is)
    (case l_power_of => as_aux_lemma => k_is)
    (case c_power_of => as_aux_lemma => k_is)
    (case k_power_of => as_aux_lemma => k_is)
    (case a_are_alike => as_aux_lemma => k_is)
    (case l_are_alike => as_aux_lemma => k_is)
    (case c_are_alike => as_aux_lemma => k_is)
    (case k_are_alike => as_aux_lemma => k_is)
    (case a_by_length => as_aux_lemma => k_is)
    (case l_by_length => as_aux_lemma => k_is)
    (case c_by_length => as_aux_lemma => k_is)
    (case k_by_length => as_aux_lemma => k_is)
    (case a_renaming => as_aux_lemma => k_is)
    (case l_renaming => as_aux_lemma => k_is)
    (case c_renaming => as_aux_lemma => k_is)
    (case k_renaming => as_aux_lemma => k_is)
    (case a_count_symmetries => as_aux_lemma => k_is)
    (case l_count_symmetries => as_aux_lemma => k_is)
    (case c_count_symmetries => as_aux_lemma => k_is)
    (case k_count_symmetries => as_aux_lemma => k_is)
    (case a_count_renamings => as_aux_lemma => k_is)
    (case l_count_renamings => as_aux_lemma => k_is)
    (case c_count_renamings => as_aux_lemma => k_is)
    (case k_count_renamings => as_aux_lemma => k_is)
    (case a_is_renaming => as_aux_lemma => k_is)
    (case l_is_renaming => as_aux_lemma => k_is)
    (case c_is_renaming => as_aux_lemma => k_is)
    (case k_is_renaming => as_aux_lemma => k_is)
    (case a_l_hand => as_aux_lemma => k_is)
    (case l_l_hand => as_aux_lemma => k_is)
    (case c_l_hand => as_aux_lemma => k_is)
    (case k_l_hand => as_aux_lemma => k_is)
    (case a_l_draw => as_aux_lemma => k_is)
    (case l_l_draw => as_aux_lemma => k_is)
    (case c_l_draw => as_aux_lemma => k_is)
    (case k_l_draw => as_aux_lemma => k_is)
    (case a_l_arrows => as_aux_lemma => k_is)
    (case l_l_arrows => as_aux_lemma => k_is)
    (case c_l_arrows => as_aux_lemma => k_is)
    (case k_l_arrows => as_aux_lemma => k_is)
    (case a_l_back => as_aux_lemma => k_is)
    (case l_l_back => as_aux_lemma => k_is)
    (case c_l_back => as_aux_lemma => k_is)
    (case k_l_back => as_aux_lemma => k_is)
    (case a_l_orders => as_aux_lemma => k_is)
    (case l_l_orders => as_aux_lemma => k_is)
    (case c_l_orders => as_aux_lemma => k_is)
    (case k_l_orders => as_aux_lemma => k_is)
    (case a_l_renamed => as_aux_lemma => k_is)
    (case l_l_renamed => as_aux_lemma => k_is)
    (case c_l_renamed => as_aux_lemma => k_is)
    (case k_l_renamed => as_aux_lemma => k_is)
    (case a_l_pair => as_aux_lemma => k_is)
    (case l_l_pair => as_aux_lemma => k_is)
    (case c_l_pair => as_aux_lemma => k_is)
    (case k_l_pair => as_aux_lemma => k_is)
    (case a_l_bad => as_aux_lemma => k_is)
    (case l_l_bad => as_aux_lemma => k_is)
    (case c_l_bad => as_aux_lemma => k_is)
    (case k_l_bad => as_aux_lemma => k_is)
    (case a_law => as_aux_lemma => k_is)
    (case l_law => as_aux_lemma => k_is)
    (case c_law => as_aux_lemma => k_is)
    (case k_law => as_aux_lemma => k_is)
    (case a_Shape => as_aux_lemma => k_is)
    (case pg_Shape => as_aux_lemma => k_is)
    (case hd_Shape => as_aux_lemma => k_is)
    (case po_Shape => as_aux_lemma => k_is)
    (case sa_Shape => as_aux_lemma => k_is)
    (case sf_Shape => as_aux_lemma => k_is)
    (case ca_Shape => as_aux_lemma => k_is)
    (case cn_Shape => as_aux_lemma => k_is)
    (case ct_Shape => as_aux_lemma => k_is)
    (case cm_Shape => as_aux_lemma => k_is)
    (case kc_Shape => as_aux_lemma => k_is)
    (case kit_int_Shape => as_aux_lemma => kernel_rfl)
    (case kit_bool_Shape => as_aux_lemma => kernel_rfl)
    (case kn_NoneType_Shape => as_aux_lemma => kernel_rfl)
    (case nf_NoneType_Shape => as_aux_lemma => kernel_rfl)
    (case kn_int_Shape => as_aux_lemma => kernel_rfl)
    (case nf_int_Shape => as_aux_lemma => kernel_rfl)
    (case kn_bool_Shape => as_aux_lemma => kernel_rfl)
    (case nf_bool_Shape => as_aux_lemma => kernel_rfl)
    (case kn_str_Shape => as_aux_lemma => kernel_rfl)
    (case nf_str_Shape => as_aux_lemma => kernel_rfl)
    (case kn_list_Shape => as_aux_lemma => kernel_rfl)
    (case nf_list_Shape => as_aux_lemma => kernel_rfl)
    (case kn_dict_Shape => as_aux_lemma => kernel_rfl)
    (case nf_dict_Shape => as_aux_lemma => kernel_rfl)
    (case kn_tuple_Shape => as_aux_lemma => kernel_rfl)
    (case nf_tuple_Shape => as_aux_lemma => kernel_rfl)
    (case self_Shape => as_aux_lemma => kernel_rfl)
    (case na_own_cycles_Shape => as_aux_lemma => k_is)
    (case na_own_chains_Shape => as_aux_lemma => k_is)
    (case m_Shape__eq => as_aux_lemma => k_is)
    (case i_Shape__eq => as_aux_lemma => k_is)
    (case l_Shape__eq => as_aux_lemma => k_is)
    (case c_Shape__eq => as_aux_lemma => k_is)
    (case k_Shape__eq => as_aux_lemma => k_is)
    (case m_Shape__init => as_aux_lemma => k_is)
    (case i_Shape__init => as_aux_lemma => k_is)
    (case l_Shape__init => as_aux_lemma => k_is)
    (case c_Shape__init => as_aux_lemma => k_is)
    (case k_Shape__init => as_aux_lemma => k_is)
    (case mk_Shape => as_aux_lemma => k_is)
    (case m_Shape_cycles => as_aux_lemma => k_is)
    (case s_get_Shape_cycles => as_aux_lemma => k_is)
    (case tk_Shape_cycles => as_aux_lemma => k_is)
    (case rc_Shape_cycles => as_aux_lemma => k_is)
    (case l_Shape_cycles => as_aux_lemma => k_is)
    (case c_Shape_cycles => as_aux_lemma => k_is)
    (case k_Shape_cycles => as_aux_lemma => k_is)
    (case m_Shape_chains => as_aux_lemma => k_is)
    (case s_get_Shape_chains => as_aux_lemma => k_is)
    (case tk_Shape_chains => as_aux_lemma => k_is)
    (case rc_Shape_chains => as_aux_lemma => k_is)
    (case l_Shape_chains => as_aux_lemma => k_is)
    (case c_Shape_chains => as_aux_lemma => k_is)
    (case k_Shape_chains => as_aux_lemma => k_is)
    (case a_Map => as_aux_lemma => k_is)
    (case pg_Map => as_aux_lemma => k_is)
    (case hd_Map => as_aux_lemma => k_is)
    (case po_Map => as_aux_lemma => k_is)
    (case sa_Map => as_aux_lemma => k_is)
    (case sf_Map => as_aux_lemma => k_is)
    (case ca_Map => as_aux_lemma => k_is)
    (case cn_Map => as_aux_lemma => k_is)
    (case ct_Map => as_aux_lemma => k_is)
    (case cm_Map => as_aux_lemma => k_is)
    (case kc_Map => as_aux_lemma => k_is)
    (case kit_int_Map => as_aux_lemma => kernel_rfl)
    (case kit_bool_Map => as_aux_lemma => kernel_rfl)
    (case kit_tuple_Map => as_aux_lemma => kernel_rfl)
    (case kn_NoneType_Map => as_aux_lemma => kernel_rfl)
    (case nf_NoneType_Map => as_aux_lemma => kernel_rfl)
    (case kn_int_Map => as_aux_lemma => kernel_rfl)
    (case nf_int_Map => as_aux_lemma => kernel_rfl)
    (case kn_bool_Map => as_aux_lemma => kernel_rfl)
    (case nf_bool_Map => as_aux_lemma => kernel_rfl)
    (case kn_str_Map => as_aux_lemma => kernel_rfl)
    (case nf_str_Map => as_aux_lemma => kernel_rfl)
    (case kn_list_Map => as_aux_lemma => kernel_rfl)
    (case nf_list_Map => as_aux_lemma => kernel_rfl)
    (case kn_dict_Map => as_aux_lemma => kernel_rfl)
    (case nf_dict_Map => as_aux_lemma => kernel_rfl)
    (case kn_tuple_Map => as_aux_lemma => kernel_rfl)
    (case nf_tuple_Map => as_aux_lemma => kernel_rfl)
    (case self_Map => as_aux_lemma => kernel_rfl)
    (case na_own_size_Map => as_aux_lemma => k_is)
    (case na_own_arrows_Map => as_aux_lemma => k_is)
    (case ne_Map => as_aux_lemma => k_is)
    (case m_Map__eq => as_aux_lemma => k_is)
    (case i_Map__eq => as_aux_lemma => k_is)
    (case l_Map__eq => as_aux_lemma => k_is)
    (case c_Map__eq => as_aux_lemma => k_is)
    (case k_Map__eq => as_aux_lemma => k_is)
    (case m_Map__init => as_aux_lemma => k_is)
    (case i_Map__init => as_aux_lemma => k_is)
    (case l_Map__init => as_aux_lemma => k_is)
    (case c_Map__init => as_aux_lemma => k_is)
    (case k_Map__init => as_aux_lemma => k_is)
    (case mk_Map => as_aux_lemma => k_is)
    (case rd_Map => as_aux_lemma => k_is)
    (case ga_Map => as_aux_lemma => k_is)
    (case at_Map_identity => as_aux_lemma => k_is)
    (case rc_Map_identity => as_aux_lemma => k_is)
    (case fi_Map_identity => as_aux_lemma => k_is)
    (case l_Map_identity => as_aux_lemma => k_is)
    (case c_Map_identity => as_aux_lemma => k_is)
    (case k_Map_identity => as_aux_lemma => k_is)
    (case m_Map_size => as_aux_lemma => k_is)
    (case s_get_Map_size => as_aux_lemma => k_is)
    (case tk_Map_size => as_aux_lemma => k_is)
    (case rc_Map_size => as_aux_lemma => k_is)
    (case l_Map_size => as_aux_lemma => k_is)
    (case c_Map_size => as_aux_lemma => k_is)
    (case k_Map_size => as_aux_lemma => k_is)
    (case m_Map_arrows => as_aux_lemma => k_is)
    (case s_get_Map_arrows => as_aux_lemma => k_is)
    (case tk_Map_arrows => as_aux_lemma => k_is)
    (case rc_Map_arrows => as_aux_lemma => k_is)
    (case l_Map_arrows => as_aux_lemma => k_is)
    (case c_Map_arrows => as_aux_lemma => k_is)
    (case k_Map_arrows => as_aux_lemma => k_is)
    (case m_Map__mul => as_aux_lemma => k_is)
    (case i_Map__mul => as_aux_lemma => k_is)
    (case l_Map__mul => as_aux_lemma => k_is)
    (case c_Map__mul => as_aux_lemma => k_is)
    (case k_Map__mul => as_aux_lemma => k_is)
    (case m_Map__invert => as_aux_lemma => k_is)
    (case i_Map__invert => as_aux_lemma => k_is)
    (case l_Map__invert => as_aux_lemma => k_is)
    (case c_Map__invert => as_aux_lemma => k_is)
    (case k_Map__invert => as_aux_lemma => k_is)
    (case m_Map__len => as_aux_lemma => k_is)
    (case i_Map__len => as_aux_lemma => k_is)
    (case l_Map__len => as_aux_lemma => k_is)
    (case c_Map__len => as_aux_lemma => k_is)
    (case k_Map__len => as_aux_lemma => k_is)
    (case m_Map__call => as_aux_lemma => k_is)
    (case i_Map__call => as_aux_lemma => k_is)
    (case l_Map__call => as_aux_lemma => k_is)
    (case c_Map__call => as_aux_lemma => k_is)
    (case k_Map__call => as_aux_lemma => k_is)
    (case fi_Map__call => as_aux_lemma => k_is)
    (case m_Map_is_source => as_aux_lemma => k_is)
    (case i_Map_is_source => as_aux_lemma => k_is)
    (case l_Map_is_source => as_aux_lemma => k_is)
    (case c_Map_is_source => as_aux_lemma => k_is)
    (case k_Map_is_source => as_aux_lemma => k_is)
    (case a_InvalidMap => as_aux_lemma => k_is)
    (case xl_InvalidMap => as_aux_lemma => k_is)
    (case sa_InvalidMap => as_aux_lemma => k_is)
    (case ex_InvalidMap => as_aux_lemma => k_is)
    (case ty_InvalidMap => as_aux_lemma => k_is)
    (case kc_InvalidMap => as_aux_lemma => k_is)
    (case hd_InvalidMap => as_aux_lemma => k_is)
    (case ga_InvalidMap => as_aux_lemma => k_is)
    (case gg_InvalidMap => as_aux_lemma => k_is)
    (case ss_InvalidMap => as_aux_lemma => k_is)
    (case ca_InvalidMap => as_aux_lemma => k_is)
    (case cn_InvalidMap => as_aux_lemma => k_is)
    (case ct_InvalidMap => as_aux_lemma => k_is)
    (case cm_InvalidMap => as_aux_lemma => k_is)
    (case kit_ValueError_InvalidMap => as_aux_lemma => kernel_rfl)
    (case na_part_InvalidMap => as_aux_lemma => k_is)
    (case m_InvalidMap__init => as_aux_lemma => k_is)
    (case ti_InvalidMap__init => as_aux_lemma => k_is)
    (case l_InvalidMap__init => as_aux_lemma => k_is)
    (case c_InvalidMap__init => as_aux_lemma => k_is)
    (case k_InvalidMap__init => as_aux_lemma => k_is)
    (case a_InvalidSize => as_aux_lemma => k_is)
    (case xl_InvalidSize => as_aux_lemma => k_is)
    (case sa_InvalidSize => as_aux_lemma => k_is)
    (case ex_InvalidSize => as_aux_lemma => k_is)
    (case ty_InvalidSize => as_aux_lemma => k_is)
    (case kc_InvalidSize => as_aux_lemma => k_is)
    (case hd_InvalidSize => as_aux_lemma => k_is)
    (case ga_InvalidSize => as_aux_lemma => k_is)
    (case gg_InvalidSize => as_aux_lemma => k_is)
    (case ss_InvalidSize => as_aux_lemma => k_is)
    (case ca_InvalidSize => as_aux_lemma => k_is)
    (case cn_InvalidSize => as_aux_lemma => k_is)
    (case ct_InvalidSize => as_aux_lemma => k_is)
    (case cm_InvalidSize => as_aux_lemma => k_is)
    (case kit_ValueError_InvalidSize => as_aux_lemma => kernel_rfl)
    (case na_value_InvalidSize => as_aux_lemma => k_is)
    (case m_InvalidSize__init => as_aux_lemma => k_is)
    (case ti_InvalidSize__init => as_aux_lemma => k_is)
    (case l_InvalidSize__init => as_aux_lemma => k_is)
    (case c_InvalidSize__init => as_aux_lemma => k_is)
    (case k_InvalidSize__init => as_aux_lemma => k_is)
    (case a_InvalidShape => as_aux_lemma => k_is)
    (case xl_InvalidShape => as_aux_lemma => k_is)
    (case sa_InvalidShape => as_aux_lemma => k_is)
    (case ex_InvalidShape => as_aux_lemma => k_is)
    (case ty_InvalidShape => as_aux_lemma => k_is)
    (case kc_InvalidShape => as_aux_lemma => k_is)
    (case hd_InvalidShape => as_aux_lemma => k_is)
    (case ga_InvalidShape => as_aux_lemma => k_is)
    (case gg_InvalidShape => as_aux_lemma => k_is)
    (case ss_InvalidShape => as_aux_lemma => k_is)
    (case ca_InvalidShape => as_aux_lemma => k_is)
    (case cn_InvalidShape => as_aux_lemma => k_is)
    (case ct_InvalidShape => as_aux_lemma => k_is)
    (case cm_InvalidShape => as_aux_lemma => k_is)
    (case kit_ValueError_InvalidShape => as_aux_lemma => kernel_rfl)
    (case na_part_InvalidShape => as_aux_lemma => k_is)
    (case m_InvalidShape__init => as_aux_lemma => k_is)
    (case ti_InvalidShape__init => as_aux_lemma => k_is)
    (case l_InvalidShape__init => as_aux_lemma => k_is)
    (case c_InvalidShape__init => as_aux_lemma => k_is)
    (case k_InvalidShape__init => as_aux_lemma => k_is)
    (case a_SizeMismatch => as_aux_lemma => k_is)
    (case xl_SizeMismatch => as_aux_lemma => k_is)
    (case sa_SizeMismatch => as_aux_lemma => k_is)
    (case ex_SizeMismatch => as_aux_lemma => k_is)
    (case ty_SizeMismatch => as_aux_lemma => k_is)
    (case kc_SizeMismatch => as_aux_lemma => k_is)
    (case hd_SizeMismatch => as_aux_lemma => k_is)
    (case ga_SizeMismatch => as_aux_lemma => k_is)
    (case gg_SizeMismatch => as_aux_lemma => k_is)
    (case ss_SizeMismatch => as_aux_lemma => k_is)
    (case ca_SizeMismatch => as_aux_lemma => k_is)
    (case cn_SizeMismatch => as_aux_lemma => k_is)
    (case ct_SizeMismatch => as_aux_lemma => k_is)
    (case cm_SizeMismatch => as_aux_lemma => k_is)
    (case kit_ValueError_SizeMismatch => as_aux_lemma => kernel_rfl)
    (case na_first_SizeMismatch => as_aux_lemma => k_is)
    (case na_second_SizeMismatch => as_aux_lemma => k_is)
    (case m_SizeMismatch__init => as_aux_lemma => k_is)
    (case ti_SizeMismatch__init => as_aux_lemma => k_is)
    (case l_SizeMismatch__init => as_aux_lemma => k_is)
    (case c_SizeMismatch__init => as_aux_lemma => k_is)
    (case k_SizeMismatch__init => as_aux_lemma => k_is)
    (case z_isinstance => as_aux_lemma => k_is)
    (case z_int => as_aux_lemma => k_is)
    (case z_bool => as_aux_lemma => k_is)
    (case z_dict => as_aux_lemma => k_is)
    (case z_len => as_aux_lemma => k_is)
    (case z_range => as_aux_lemma => k_is)
    (case z_list => as_aux_lemma => k_is)
    (case z_tuple => as_aux_lemma => k_is)
    (case z_max => as_aux_lemma => k_is)
    (case z_min => as_aux_lemma => k_is)
    (case z_all => as_aux_lemma => k_is)
    (case z_sorted => as_aux_lemma => k_is)
    (case z_abs => as_aux_lemma => k_is)
    (case z_enumerate => as_aux_lemma => k_is)
    (case z_repr => as_aux_lemma => k_is)
    (case z_zip => as_aux_lemma => k_is)
    (case v_MAX_SIZE => as_aux_lemma => k_is)
    (case kit_x_Shape_Map => as_aux_lemma => kernel_rfl)
