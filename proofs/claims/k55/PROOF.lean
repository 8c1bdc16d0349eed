import PyProof.Rows.All
import Wide.All
import OpenK.AllK
import Wide.FinOn
import KE.OsRunLaw
import PySem.Challenge.RW_chainmaps_k55_reached_elements_and_orbit
import HandS.ForMost
import HandS.ForExc
import HandS.IsInst
import HandS.More
import HandS.SlotsOwn
import HandS.Property
import HandS.ClsMeth
import HandS.DictComp
import HandS.Conv
import HandS.Walk
import HandS.NoneIn
import HandS.CallLocal
import HandS.Star
import HandS.ExcInit
import HandS.ExcField
import HandS.ExcIs
import KE.KExcInit
import KE.KExcIs
import HandS.WordsExc
import HandS.ListItems
import HandS.Style
import HandS.TryMany
import HandS.RaiseMore
import HandS.FStr
import HandS.HotCalls
import KE.KItemsList
import KE.KOpsOwn
import HandS.OwnEq
import HandS.Lambda
import HandS.EndTab
import KE.KNestM
import HandS.Deep
import HandS.Nested
import KE.KSuper
import HandS.TupAny
import HandS.TupMul
set_option Elab.async false
set_option linter.all false
set_option maxRecDepth 100000
set_option maxHeartbeats 4000000
section
local macro_rules | `(tactic| first | refine $t:term | fail $s:str) => do { let t2 ← t.raw.replaceM fun n => (do { if n.getKind == `Lean.Parser.Term.syntheticHole then { let nm := n[1].getId.eraseMacroScopes; if nm == `hl then { return some (← `(by exact $(Lean.mkIdent `x))) } else { if nm == `hw || nm == `hc then { return some (← `(by contradiction)) } else { return none } } } else { return none } }); `(tactic| refine $(⟨t2⟩)) }
open PySem PySem.W PyProof.Rows
set_option maxRecDepth 100000 in
set_option maxHeartbeats 0 in
def My.hlStmt : Prop := by
  refine' (fun (P : Prop) (_ : P → False → PySem.Challenge.rw_chainmaps_k55_reached_elements_and_orbit.Holds) => P) _ ?h
  rotate_left
  intro x f
  w_on; o_law; k_headL
set_option maxRecDepth 100000 in
set_option maxHeartbeats 0 in
theorem My.hl : My.hlStmt := by
  refine HeadRun.left_oneK (by kernel_rfl) (by rfl) (fun s => by kernel_rfl) (Nat.ble_eq_true_of_le (Nat.le_refl _)) ?_
  intro w os
  kernel_rfl
end
namespace PySem.W
open PySem PySem.Calls PyProof.Rows
end PySem.W
namespace U
open PySem PySem.Spec PyProof.Rows L2
/-- what is asked of a plain own class -/
structure OwnC (K : PySem.W.Frag) (C : Addr) : Prop where
  cl : Cls K C
  sf : PySem.W.selfFirst K C = true
  ca : PySem.W.findIn K (.ref C) "__class__" = some (some (.builtin "object.__class__"))
  cn : PySem.W.specialIn K (.builtin "object.__class__") "__get__" = some (some (.builtin "getset_descriptor.__get__"))
  ct : PySem.W.takesIn K (.builtin "object.__class__") = some true
  cm : PySem.W.mroIn K C (.type "object") = some true
section
variable {X : Cx} {CX : CXT} {pins : List (Addr × Obj)} {σ : L2.St} {H : Hp} {s : Shared} {a C dx p g : Addr} {f : Str} {n : Nat} {sp : Sp} {E : XK} {v : V} {u : Value}
theorem ins_inst (I : Inv X pins σ H s) {fs : List (Str × V)} (ea : H a = some (.ins C dx fs)) : ∃ ox od, PySem.W.InstAt s.heap a ox C (some od) := by
  obtain ⟨mA, O, _⟩ := ins_get I.hok ea
  obtain ⟨od, J, _⟩ := O.look
  exact ⟨_, od, J⟩
/-- x op y, both instances of C -/
def rBin (C : Addr) (sp : Sp) (E : XK) : R2 := fun x y H Q => ∃ a dx fs b dy gs, x = .ref a ∧ y = .ref b ∧ H a = some (.ins C dx fs) ∧ H b = some (.ins C dy gs) ∧ sp [x, y] H Q E
theorem op_bin {op : Operator} (hc : PySem.W.selfFirst X.K C = true) (hs : PySem.W.findIn X.K (.ref C) (PySem.dunder op.info.2) = some (some (.ref g))) (hf : PySem.W.isFn X.K (.ref g) = true) (F : FnR X.prog X.w X.K X.mg X.base CX n g sp)
    (hr : Room n X.A) (hx : Passes CX X E) : OpR X (binaryOp op) (rBin C sp E) := by
  intro pins s σ H x y v u Q I rx ry h
  obtain ⟨a, dx, vs, b, dy, ws, rfl, rfl, ha, hb, q⟩ := h
  cases (show v = Value.ref a from rx)
  cases (show u = Value.ref b from ry)
  obtain ⟨ox, od, J⟩ := ins_inst I ha
  obtain ⟨oy, od', J'⟩ := ins_inst I hb
  obtain ⟨m, hF⟩ := I.fr
  refine PySem.W.binop_K (op := op) hF I.ok.mod.kin J J'.type hc hs hf ?_
  refine wpAny_mono (wpAny_call (run_fnR (us := [.ref a, .ref b]) (vs := [.ref a, .ref b]) F hr hx I (.cons rfl (.cons rfl .nil)) q)) (fun w s' z => ?_) fun _ _ x => x
  obtain ⟨z', H', I', rz, qz⟩ := z
  exact SlX.cmpback rz ⟨z', H', I', rz, qz⟩
/-- ~x -/
def rUnO (C : Addr) (sp : Sp) (E : XK) : V → Hp → VK → Prop := fun x H Q => ∃ a dx fs, x = .ref a ∧ H a = some (.ins C dx fs) ∧ sp [x] H Q E
theorem un_inv (hs : PySem.W.findIn X.K (.ref C) "__invert__" = some (some (.ref g))) (hf : PySem.W.isFn X.K (.ref g) = true) (F : FnR X.prog X.w X.K X.mg X.base CX n g sp)
    (hr : Room n X.A) (hx : Passes CX X E) : UnR X (unaryOp .Invert) (rUnO C sp E) := by
  intro pins s σ H x v Q I rx h
  obtain ⟨a, dx, vs, rfl, ha, q⟩ := h
  cases (show v = Value.ref a from rx)
  obtain ⟨ox, od, J⟩ := ins_inst I ha
  obtain ⟨m, hF⟩ := I.fr
  refine PySem.W.ksp_inv hF I.ok.mod.kin J hs hf ?_
  exact wpAny_call (run_fnR (us := [.ref a]) (vs := [.ref a]) F hr hx I (.cons rfl .nil) q)
end
end U
namespace U
open PySem PySem.Spec PyProof.Rows L2 StX
/-! ### a def of the text, with how its arguments bind -/
structure FnAt (K : PySem.W.Frag) (x qual : Str) (st : Stmt) (f : Addr) (ps : List Str) : Prop where
  ex : ∃ fd, Fun K x qual st f fd ∧ Binds K fd ps []
theorem FnAt.kp {K : PySem.W.Frag} {x qual : Str} {st : Stmt} {f : Addr} {ps : List Str} (A : FnAt K x qual st f ps) : PySem.W.keepIn K (.ref f) = true := by
  obtain ⟨fd, F, _⟩ := A.ex
  exact F.kp
section
variable {P : Program} {w : World} {K : PySem.W.Frag} {mg : Str → Option Value} {base : Heap}
theorem FnAt.ok {x qual : Str} {st : Stmt} {f : Addr} {N ps : List Str} {k : Nat} {sp : Sp} (A : FnAt K x qual st f ps) (S : FnScope N ps (defScope st)) (len : ∀ vs H Q E, sp vs H Q E → vs.length = ps.length)
    (hbody : ∀ (cdv : Value) (A : Around) (outer : List Env) (s : Shared) (H : Hp) (vs : List V) (Q : VK) (E : XK), Room k (A.deeper (envOfC qual (defScope st) s.heap.objs.size f cdv)) → sp vs H Q E →
      ∃ t, PSs (cxOf CX0 P w K mg base N qual (defScope st) f cdv A outer s H E).nox (defBody st) t ∧ t { nx := fun _ H' => Q .non H', rt := Q } (start N vs) H) : FnR P w K mg base CX0 (k + 1) f sp := by
  obtain ⟨fd, F, B⟩ := A.ex
  have R := (F.ok (P := P) (w := w) (mg := mg) (base := base) S len hbody).raw B .nil
  exact R.imp fun vs H Q E h => by rw [List.append_nil]; exact h
end
section
variable {X : Cx} {CX : CXT} {k i : Nat} {f C p g a dx : Addr} {sp : Sp} {E : XK} {x fl : Str} {e o : Expr} {es : List Expr} {ta te tf : TE} {t : TA} {pp pos : Pos} {fs : List (Str × V)}
/-- x(e, ..), x a def of the module -/
def tCallR (sp : Sp) (E : XK) (t : TA) : TE := fun σ H Q => t σ H fun vs H1 => sp vs H1 Q E
theorem pe_callR (F : FnR X.prog X.w X.K X.mg X.base CX k f sp) (hr : Room k X.A) (hk : PySem.W.keepIn X.K (.ref f) = true) (hg : Gl X x) (hm : X.mg x = some (.ref f)) (hx : Passes CX X E) (ha : PA X (e :: es) t) (hdb : (x == ("__debug__" : Str)) = false := by decide)
    (he : starEach (e :: es) X.env = (false, eval e X.env) :: starEach es X.env := by rfl) (hpl : (backTo pos (starEach es X.env)).any (·.1) = false := by rfl) : PE X (.Call (.Name x pp) (e :: es) [] pos) (tCallR sp E t) := by
  refine ⟨fun pins s σ H Q I h => ?_⟩
  refine wpAny_Call_Name_kw (ld_glob I hg hm ?_ hdb)
  refine PySem.W.callWith_K (h₀ := X.base) I.ok.mod.kin hk (thn (ha.run pos pins s σ H _ I h) fun us s1 ⟨vs, H1, I1, r, q⟩ => ⟨I1.kIn, ?_⟩) he hpl
  exact wpAny_call (run_fnR F hr hx I1 r q)
/-- e.f, a property -/
def tPropR (C : Addr) (sp : Sp) (ta : TE) : TE := fun σ H Q => ta σ H fun x H1 => ∃ a dx fs, x = .ref a ∧ H1 a = some (.ins C dx fs) ∧ sp [.ref a] H1 Q E0
theorem pe_propR (he : PE X e ta) (c : Cls X.K C) (hp : PropOf X.K C fl p g) (F : FnR X.prog X.w X.K X.mg X.base CX0 k g sp) (hr : Room (k + 1) X.A)
    (hab : attributeBase e fl X.env (eval e X.env) = eval e X.env := by rfl) : PE X (.Attribute e fl pos) (tPropR C sp ta) := by
  refine ⟨fun pins s σ H Q I h => ?_⟩
  refine attr_of hab (thn (he.run pins s σ H _ I h) fun u s1 ⟨x, H1, I1, rx, a, dx, fs, ex, ea, q⟩ => ?_)
  subst ex
  obtain rfl : u = Value.ref a := rx
  obtain ⟨mA, O, _, _, _, _⟩ := ins_get I1.hok ea
  obtain ⟨od, J, _⟩ := O.look
  obtain ⟨rest, hrec⟩ := hp.rec_
  have I2 := I1.tok (s1.toks + 1)
  have hc : (PySem.W.clsIn X.K C).isSome = true := by
    obtain ⟨cd, hc, _⟩ := PySem.W.any_some c.hd
    rw [hc]
    rfl
  refine PySem.W.get_bind I1.kIn J (PySem.W.plainGet_of (c.get fl)).1 (PySem.W.findObj_data hc hp.at_ hp.get hp.tak) (PySem.W.plainGet_of (c.get fl)).2 (wpAny_call (PySem.W.prop_get (s := { s1 with toks := s1.toks + 1 }) I1.kIn hrec ?_))
  refine codeAny_mono (F X.A.in1 X.stack { s1 with toks := s1.toks + 1 } H1 [.ref a] [.ref a] Q E0 hr.in1 I2.env0.in1 (.cons rfl .nil) q) fun r s' hq => ?_
  cases r with
  | error er => exact False.elim hq
  | ok fl =>
    cases fl with
    | ret u =>
      obtain ⟨v, H', I3, rv, q3⟩ := I2.after hq
      show wpAny _ _ (handedOut u) _ _ _
      rw [PySem.W.handedOut_of (handed_of rv)]
      exact wpAny_pure ⟨v, H', I3, rv, q3⟩
    | next => exact False.elim hq
    | brk => exact False.elim hq
    | cont => exact False.elim hq
end
theorem ifD {c : Prop} [Decidable c] {A B : Prop} (h1 : c → A) (h2 : ¬ c → B) : if decide c = true then A else B := by
  by_cases h : c
  · rw [if_pos (decide_eq_true h)]; exact h1 h
  · rw [if_neg (by simp [h])]; exact h2 h
theorem ifN {c : Prop} [Decidable c] {A B : Prop} (h1 : ¬ c → A) (h2 : c → B) : if (!decide c) = true then A else B := by
  by_cases h : c
  · rw [if_neg (by simp [h])]; exact h2 h
  · rw [if_pos (by simp [h])]; exact h1 h
theorem ifB {c : Bool} {A B : Prop} (h1 : c = true → A) (h2 : c = false → B) : if c = true then A else B := by
  cases c with
  | true => rw [if_pos rfl]; exact h1 rfl
  | false => rw [if_neg Bool.false_ne_true]; exact h2 rfl
theorem ifNB {c : Bool} {A B : Prop} (h1 : c = false → A) (h2 : c = true → B) : if (!c) = true then A else B := by
  cases c with
  | true => exact iteF (h2 rfl)
  | false => exact iteT (h1 rfl)
end U
namespace U
open PySem PySem.Spec PyProof.Rows L2
/-- the ints' dicts compared -/
def dEq (ks ls : List (Key × V)) : Bool := ks.length == ls.length && ks.all fun p => decide (valV ls p.1 = some p.2)
def IntVals (ks : List (Key × V)) : Prop := ∀ p ∈ ks, ∃ i : Int, p.2 = .int i
section
variable {X : Cx}
def rNeD : R2 := fun x y H Q => ∃ a b ks ls, x = .ref a ∧ y = .ref b ∧ H a = some (.dK ks) ∧ H b = some (.dK ls) ∧ IntVals ks ∧ IntVals ls ∧ Q (.bl (!dEq ks ls)) H
end
end U
namespace U
open PySem PySem.Spec PyProof.Rows L2
/-! ### heaps -/
def Off (d : Addr) (H H' : Hp) : Prop := ∀ b o, b ≠ d → H b = some o → H' b = some o
theorem Same.new {H : Hp} {p : Addr} {o : HO} (h : H p = none) : L2.Same H (upd H p o) := fun b u e => by rw [upd_ne (ne_of_none e h)]; exact e
theorem Off.tr {d : Addr} {H H1 H2 : Hp} (a : Off d H H1) (b : Off d H1 H2) : Off d H H2 := fun c o hc e => b c o hc (a c o hc e)
theorem Off.lock {d : Addr} {H : Hp} {o : HO} : Off d H (upd H d o) := fun b u hb e => by rw [upd_ne hb]; exact e
theorem Off.new {d p : Addr} {H : Hp} {o : HO} (h : H p = none) : Off d H (upd H p o) := fun b u _ e => by rw [upd_ne (ne_of_none e h)]; exact e
theorem Off.free {d p : Addr} {H H' : Hp} {u : HO} (a : Off d H H') (hd : H' d = some u) (h : H' p = none) : H p = none := by
  cases e : H p with
  | none => rfl
  | some o =>
    by_cases hp : p = d
    · subst hp; rw [hd] at h; cases h
    · rw [a p o hp e] at h; cases h
theorem Off.back {d : Addr} {H H' : Hp} {u : HO} (a : Off d H H') (hd : H d = some u) : L2.Same H (upd H' d u) := fun b o e => by
  by_cases hb : b = d
  · subst hb; rw [hd] at e; cases e; exact upd_same
  · rw [upd_ne hb]; exact a b o hb e
/-- an object of the heap behind, that was not there ahead, may be changed -/
theorem Off.mut {d p : Addr} {H H' : Hp} {o : HO} (a : Off d H H') (h : H p = none) : Off d H (upd H' p o) := fun b u hb e => by rw [upd_ne (ne_of_none e h)]; exact a b u hb e
/-! ### a dict of ints -/
def kvI (l : List (Int × Int)) : List (Key × V) := l.map fun p => (Sum.inl p.1, V.int p.2)
theorem kvI_length (l : List (Int × Int)) : (kvI l).length = l.length := by simp [kvI]
theorem kvI_get {l : List (Int × Int)} {i : Nat} {k : Key} {v : V} (h : (kvI l)[i]? = some (k, v)) : ∃ x y, l[i]? = some (x, y) ∧ k = .inl x ∧ v = .int y := by
  unfold kvI at h
  rw [List.getElem?_map] at h
  cases e : l[i]? with
  | none => rw [e] at h; cases h
  | some p =>
    rw [e] at h
    obtain ⟨x, y⟩ := p
    cases h
    exact ⟨x, y, rfl, rfl, rfl⟩
def lk (l : List (Int × Int)) (x : Int) : Option Int := (l.find? fun p => decide (p.1 = x)).map (·.2)
theorem valV_kvI (l : List (Int × Int)) (x : Int) : valV (kvI l) (Sum.inl x : Key) = (lk l x).map V.int := by
  induction l with
  | nil => rfl
  | cons p r ih =>
    obtain ⟨a, b⟩ := p
    by_cases h : a = x
    · subst h
      rw [show kvI ((a, b) :: r) = (Sum.inl a, V.int b) :: kvI r from rfl, valV_pos rfl]
      simp [lk]
    · rw [show kvI ((a, b) :: r) = (Sum.inl a, V.int b) :: kvI r from rfl, valV_neg (fun z => h (Sum.inl.inj z)), ih]
      simp [lk, h]
theorem lk_none {l : List (Int × Int)} {x : Int} (h : x ∉ l.map (·.1)) : lk l x = none := by
  unfold lk
  rw [List.find?_eq_none.mpr]
  · rfl
  · intro p hp
    simp only [decide_eq_true_eq]
    exact fun e => h (List.mem_map.mpr ⟨p, hp, e⟩)
theorem lk_some {l : List (Int × Int)} (nd : (l.map (·.1)).Nodup) {x y : Int} (h : (x, y) ∈ l) : lk l x = some y := by
  induction l with
  | nil => cases h
  | cons p r ih =>
    obtain ⟨a, b⟩ := p
    rw [List.map_cons, List.nodup_cons] at nd
    rcases List.mem_cons.mp h with h | h
    · cases h; simp [lk]
    · have ne : ¬ a = x := fun z => nd.1 (by rw [z]; exact List.mem_map.mpr ⟨(x, y), h, rfl⟩)
      have := ih nd.2 h
      simpa [lk, ne] using this
theorem lk_mem {l : List (Int × Int)} {x y : Int} (h : lk l x = some y) : (x, y) ∈ l := by
  unfold lk at h
  cases e : l.find? (fun p => decide (p.1 = x)) with
  | none => rw [e] at h; cases h
  | some p =>
    rw [e] at h
    obtain ⟨a, b⟩ := p
    have h1 := List.find?_some e
    simp only [decide_eq_true_eq] at h1
    have h2 : b = y := Option.some.inj h
    subst h1 h2
    exact List.mem_of_find?_eq_some e
theorem putK_kvI {l : List (Int × Int)} {x y : Int} (h : x ∉ l.map (·.1)) : putK (kvI l) (Sum.inl x : Key) (V.int y) = kvI (l ++ [(x, y)]) := by
  have e : valV (kvI l) (Sum.inl x : Key) = none := by rw [valV_kvI, lk_none h]; rfl
  rw [putK_new _ e]
  simp [kvI]
theorem lk_append {l r : List (Int × Int)} {x : Int} : lk (l ++ r) x = (lk l x).or (lk r x) := by
  unfold lk
  rw [List.find?_append]
  cases l.find? (fun p => decide (p.1 = x)) <;> rfl
theorem lk_cons (a b : Int) (r : List (Int × Int)) (z : Int) : lk ((a, b) :: r) z = if a = z then some b else lk r z := by
  by_cases h : a = z <;> simp [lk, h]
theorem lk_mapOff (r : List (Int × Int)) (x y z : Int) (hz : ¬ z = x) : lk (r.map fun p => if p.1 = x then (p.1, y) else p) z = lk r z := by
  induction r with
  | nil => rfl
  | cons p r ih =>
    obtain ⟨a, b⟩ := p
    rw [List.map_cons]
    by_cases ha : a = x
    · subst ha
      have hz' : ¬ a = z := fun q => hz q.symm
      rw [if_pos rfl, lk_cons, lk_cons, if_neg hz', if_neg hz', ih]
    · rw [if_neg ha, lk_cons, lk_cons, ih]
theorem lk_mapPut {x y : Int} : ∀ (l : List (Int × Int)), x ∈ l.map (·.1) → ∀ z, lk (l.map fun p => if p.1 = x then (p.1, y) else p) z = if z = x then some y else lk l z
  | [], h, z => by cases h
  | (a, b) :: r, h, z => by
    by_cases hz : z = x
    · subst hz
      rw [if_pos rfl, List.map_cons]
      by_cases ha : a = z
      · subst ha
        rw [if_pos rfl, lk_cons, if_pos rfl]
      · rw [if_neg ha, lk_cons, if_neg ha]
        have h' : z ∈ r.map (·.1) := by
          rcases List.mem_cons.mp h with q | q
          · exact absurd q.symm ha
          · exact q
        rw [lk_mapPut r h' z, if_pos rfl]
    · rw [if_neg hz, lk_mapOff _ _ _ _ hz]
theorem putK_lk {l : List (Int × Int)} {x y : Int} : ∃ l', putK (kvI l) (Sum.inl x : Key) (V.int y) = kvI l' ∧ l'.length ≤ l.length + 1 ∧ ((l.map (·.1)).Nodup → (l'.map (·.1)).Nodup) ∧ ∀ z, lk l' z = if z = x then some y else lk l z := by
  by_cases h : x ∈ l.map (·.1)
  · refine ⟨l.map fun p => if p.1 = x then (p.1, y) else p, ?_, by simp, fun nd => ?_, fun z => ?_⟩
    · unfold putK
      rw [if_pos (by
        obtain ⟨p, hp, e⟩ := List.mem_map.mp h
        rw [List.any_eq_true]
        exact ⟨(Sum.inl p.1, V.int p.2), List.mem_map.mpr ⟨p, hp, rfl⟩, by simp [e]⟩)]
      unfold kvI
      rw [List.map_map, List.map_map]
      refine List.map_congr_left fun p _ => ?_
      by_cases e : p.1 = x
      · simp [e]
      · have e' : ¬ (Sum.inl p.1 : Key) = Sum.inl x := fun q => e (Sum.inl.inj q)
        simp [e]
    · have e : (l.map fun p => if p.1 = x then (p.1, y) else p).map (·.1) = l.map (·.1) := by
        rw [List.map_map]
        refine List.map_congr_left fun p _ => ?_
        by_cases e : p.1 = x <;> simp [e]
      rw [e]; exact nd
    · exact lk_mapPut l h z
  · refine ⟨l ++ [(x, y)], putK_kvI h, by simp, fun nd => ?_, fun z => ?_⟩
    · rw [List.map_append, List.nodup_append]
      refine ⟨nd, by simp, fun a ha b hb e => ?_⟩
      simp at hb
      subst hb
      exact h (e ▸ ha)
    · rw [lk_append]
      by_cases hz : z = x
      · subst hz; rw [lk_none h]; simp [lk]
      · have hz' : ¬ x = z := fun q => hz q.symm
        cases lk l z <;> simp [lk, hz, hz']
end U
namespace U
open PySem PySem.Spec PyProof.Rows L2
section
variable {J : It} {n : Nat} {G : Hp → Prop} {Y : Nat → Hp → V → Hp → Prop}
/-- a dict comprehension over a walk -/
theorem dc_it (w : Walk J n G Y) {g : TG} {tt : TT} {tk tv : TE} {vs : List Nat} {σ : L2.St} {H1 : Hp} {D : Addr} {Qd : Hp → Prop} (Pv : Nat → Hp → Prop) (h0 : Pv 0 (upd H1 D (.dK []))) (hG : ∀ i H, i ≤ n → Pv i H → G H)
    (hs : ∀ i x H H', i < n → Pv i H → Y i H x H' → g x (wipe σ vs) H' fun σ2 H2 => wipe σ2 vs = wipe σ vs ∧ tt σ2 H2 fun b H3 =>
      if b = true then tk σ2 H3 fun y H4 => tv σ2 H4 fun z H5 => ∃ kvs k, y = kV k ∧ H5 D = some (.dK kvs) ∧ kvs.length < sizeLine ∧ Pv (i + 1) (upd H5 D (.dK (putK kvs k z))) else Pv (i + 1) H3) (hd : ∀ H, Pv n H → Qd H) :
    ∃ W : Nat → Nat → Hp → Prop, (∃ m, W 0 m (upd H1 D (.dK []))) ∧ ∀ i m H, W i m H →
      (J.stop i H ∧ Qd H) ∨ (J.go i H ∧ ∃ Nx : Hp → Prop, (∀ H', Nx H' → ∃ m', m' < m ∧ W (i + 1) m' H') ∧ ∀ x H', J.yld i H x H' → g x (wipe σ vs) H' fun σ2 H2 => wipe σ2 vs = wipe σ vs ∧ tt σ2 H2 fun b H3 =>
        if b = true then tk σ2 H3 fun y H4 => tv σ2 H4 fun z H5 => ∃ kvs k, y = kV k ∧ H5 D = some (.dK kvs) ∧ kvs.length < sizeLine ∧ Nx (upd H5 D (.dK (putK kvs k z))) else Nx H3) := by
  refine ⟨fun i m H => m = n - i ∧ i ≤ n ∧ Pv i H, ⟨n, by simp, Nat.zero_le _, h0⟩, ?_⟩
  rintro i m H ⟨rfl, hi, p⟩
  have q := hG i H hi p
  by_cases hlt : i < n
  · exact .inr ⟨w.goes i H hlt q, Pv (i + 1), fun H' p' => ⟨n - (i + 1), by omega, rfl, hlt, p'⟩, fun x H' y => hs i x H H' hlt p (w.yields i H x H' hlt q y)⟩
  · have e : i = n := by omega
    subst e
    exact .inl ⟨w.stops H q, hd H p⟩
end
/-- what a comprehension over pairs makes -/
def madeD (c : Int → Int → Bool) (kf : Int → Int → Int) (vf : Int → Int → V) (l : List (Int × Int)) : List (Key × V) := (l.filter fun p => c p.1 p.2).map fun p => (Sum.inl (kf p.1 p.2), vf p.1 p.2)
theorem take_more {α : Type} {l : List α} {i : Nat} {x : α} (h : l[i]? = some x) : l.take (i + 1) = l.take i ++ [x] := by
  rw [List.take_add_one, h]; rfl
theorem valV_none {kvs : List (Key × V)} {k : Key} (h : k ∉ kvs.map (·.1)) : valV kvs k = none := by
  unfold valV
  rw [List.find?_eq_none.mpr]
  · rfl
  · intro p hp
    simp only [decide_eq_true_eq]
    exact fun e => h (List.mem_map.mpr ⟨p, hp, e⟩)
theorem madeD_step {c : Int → Int → Bool} {kf : Int → Int → Int} {vf : Int → Int → V} {l : List (Int × Int)} {i : Nat} {x y : Int} (h : l[i]? = some (x, y)) (nd : ((madeD c kf vf l).map (·.1)).Nodup) (hc : c x y = true) :
    putK (madeD c kf vf (l.take i)) (Sum.inl (kf x y)) (vf x y) = madeD c kf vf (l.take (i + 1)) := by
  have e : madeD c kf vf (l.take (i + 1)) = madeD c kf vf (l.take i) ++ [(Sum.inl (kf x y), vf x y)] := by
    rw [take_more h]
    unfold madeD
    rw [List.filter_append, List.map_append]
    simp [hc]
  have e2 : madeD c kf vf l = madeD c kf vf (l.take (i + 1)) ++ madeD c kf vf (l.drop (i + 1)) := by
    unfold madeD
    rw [← List.map_append, ← List.filter_append, List.take_append_drop]
  rw [e2, e, List.map_append, List.map_append] at nd
  have nd1 := (List.nodup_append.mp nd).1
  have nin : (Sum.inl (kf x y) : Key) ∉ (madeD c kf vf (l.take i)).map (·.1) := by
    intro hm
    exact (List.nodup_append.mp nd1).2.2 _ hm _ (by simp) rfl
  rw [putK_new _ (valV_none nin), e]
theorem madeD_skip {c : Int → Int → Bool} {kf : Int → Int → Int} {vf : Int → Int → V} {l : List (Int × Int)} {i : Nat} {x y : Int} (h : l[i]? = some (x, y)) (hc : c x y = false) :
    madeD c kf vf (l.take (i + 1)) = madeD c kf vf (l.take i) := by
  rw [take_more h]
  unfold madeD
  rw [List.filter_append, List.map_append]
  simp [hc]
theorem madeD_len (c : Int → Int → Bool) (kf : Int → Int → Int) (vf : Int → Int → V) (l : List (Int × Int)) (i : Nat) : (madeD c kf vf (l.take i)).length ≤ l.length := by
  unfold madeD
  rw [List.length_map]
  exact Nat.le_trans (List.length_filter_le _ _) (by rw [List.length_take]; omega)
/-- {k: v for x, y in d.items() if ..}, the tests and parts reading alone -/
theorem dc_items {K : PySem.W.Frag} {d : Addr} {l : List (Int × Int)} {te : TE} {i j : Nat} {tt : TT} {tk tv : TE} {vs : List Nat} {σ : L2.St} {H : Hp} {Q : VK} (c : Int → Int → Bool) (kf : Int → Int → Int) (vf : Int → Int → V)
    (hd : H d = some (.dK (kvI l))) (hte : ∀ H' (R : VK), R (.ref d) H' → Off d H H' → te σ H' R)
    (hw : ∀ a b, wipe (((wipe σ vs).set i a).set j b) vs = wipe σ vs)
    (hb : ∀ x y, (x, y) ∈ l → ∀ H1, Off d H H1 → (∀ R : Bool → Hp → Prop, R (c x y) H1 → tt (((wipe σ vs).set i (some (.int x))).set j (some (.int y))) H1 R) ∧
      (c x y = true → (∀ R : VK, R (.int (kf x y)) H1 → tk (((wipe σ vs).set i (some (.int x))).set j (some (.int y))) H1 R) ∧ ∀ R : VK, R (vf x y) H1 → tv (((wipe σ vs).set i (some (.int x))).set j (some (.int y))) H1 R))
    (nd : ((madeD c kf vf l).map (·.1)).Nodup) (hz : l.length < sizeLine)
    (hq : ∀ D H', H D = none → H' D = some (.dK (madeD c kf vf l)) → L2.Same H H' → Q (.ref D) H') :
    tLockE (tDc (iItems te) (gTup K 2 (gCons (gName i) (gCons (gName j) gNil))) tt tk tv vs) σ H Q := by
  refine ⟨d, _, hd, trivial, fun od => ?_⟩
  refine hte _ _ ⟨d, od, kvI l, rfl, upd_same, fun D hD => ?_⟩ Off.lock
  have hDd : D ≠ d := fun e => by rw [e, upd_same] at hD; cases hD
  have hD0 : H D = none := by rw [upd_ne hDd] at hD; exact hD
  refine dc_it walk_items (fun k H' => H' d = some (.frz od (.dK (kvI l))) ∧ Off d H H' ∧ H' D = some (.dK (madeD c kf vf (l.take k)))) ⟨?_, Off.lock.mut hD0, upd_same⟩ (fun k H' _ p => p.1) ?_ ?_
  · rw [upd_ne hDd.symm]; exact upd_same
  · rintro k v H' H'' hk ⟨p1, p2, p3⟩ ⟨T, a, b, rfl, hT, rfl, e1, e2⟩
    rw [kvI_length] at hk
    obtain ⟨⟨x, y⟩, exy⟩ : ∃ p, l[k]? = some p := ⟨_, List.getElem?_eq_getElem hk⟩
    have ek : (kvI l)[k]? = some (Sum.inl x, V.int y) := by unfold kvI; rw [List.getElem?_map, exy]; rfl
    dsimp only at e1 e2
    rw [ek] at e1 e2
    cases e1; cases e2
    have nTd : d ≠ T := ne_of_none p1 hT
    have nTD : D ≠ T := ne_of_none p3 hT
    refine ⟨T, [.int x, .int y], rfl, SqT.of upd_same, rfl, .int x, [.int y], rfl, .int y, [], rfl, rfl, ?_⟩
    refine ⟨hw _ _, ?_⟩
    have o2 : Off d H (upd H' T (.tup [.int x, .int y])) := p2.tr (Off.new hT)
    obtain ⟨b1, b2⟩ := hb x y (List.mem_of_getElem? exy) _ o2
    refine b1 _ ?_
    have d3 : (upd H' T (.tup [.int x, .int y])) d = some (.frz od (.dK (kvI l))) := by rw [upd_ne nTd]; exact p1
    have D3 : (upd H' T (.tup [.int x, .int y])) D = some (.dK (madeD c kf vf (l.take k))) := by rw [upd_ne nTD]; exact p3
    cases hc : c x y with
    | true =>
      refine iteT ?_
      obtain ⟨b3, b4⟩ := b2 hc
      refine b3 _ (b4 _ ⟨_, Sum.inl (kf x y), rfl, D3, Nat.lt_of_le_of_lt (madeD_len ..) hz, ?_⟩)
      refine ⟨?_, o2.mut hD0, ?_⟩
      · rw [upd_ne hDd.symm]; exact d3
      · rw [upd_same, madeD_step exy nd hc]
    | false =>
      refine iteF ⟨d3, o2, ?_⟩
      rw [madeD_skip exy hc]
      exact D3
  · rintro H' ⟨p1, p2, p3⟩
    rw [kvI_length, List.take_length] at p3
    refine ⟨p1, hq D _ hD0 ?_ (p2.back hd)⟩
    rw [upd_ne hDd]
    exact p3
/-- {k: v for x in range(lo, ..) if ..} -/
def madeR (c : Int → Bool) (kf : Int → Int) (vf : Int → V) (n : Nat) : List (Key × V) := ((List.range n).filter fun (i : Nat) => c (i : Int)).map fun (i : Nat) => ((Sum.inl (kf (i : Int)) : Key), vf (i : Int))
theorem madeR_succ (c : Int → Bool) (kf : Int → Int) (vf : Int → V) (n : Nat) : madeR c kf vf (n + 1) = madeR c kf vf n ++ (if c (n : Int) = true then [((Sum.inl (kf (n : Int)) : Key), vf (n : Int))] else []) := by
  unfold madeR
  rw [List.range_succ, List.filter_append, List.map_append]
  by_cases h : c (n : Int) = true
  · simp [h]
  · have h' : c (n : Int) = false := by simpa using h
    simp [h']
theorem madeR_len (c : Int → Bool) (kf : Int → Int) (vf : Int → V) (n : Nat) : (madeR c kf vf n).length ≤ n := by
  unfold madeR
  rw [List.length_map]
  exact Nat.le_trans (List.length_filter_le _ _) (by simp)
theorem madeR_keys {c : Int → Bool} {vf : Int → V} {n k : Nat} (h : (Sum.inl (k : Int) : Key) ∈ (madeR c (fun x => x) vf n).map (·.1)) : k < n := by
  unfold madeR at h
  rw [List.map_map] at h
  obtain ⟨i, hi, e⟩ := List.mem_map.mp h
  have h1 := (List.mem_filter.mp hi).1
  rw [List.mem_range] at h1
  have : (i : Int) = (k : Int) := Sum.inl.inj e
  omega
theorem dc_range {wi : TI} {i : Nat} {tt : TT} {tk tv : TE} {vs : List Nat} {σ : L2.St} {H0 H : Hp} {Q : VK} {n : Nat} (c : Int → Bool) (vf : Int → V) (hwi : ∀ R : It → Hp → Prop, R (Itr 0 n) H → wi σ H0 R)
    (hw : ∀ a, wipe ((wipe σ vs).set i a) vs = wipe σ vs)
    (hb : ∀ k : Nat, k < n → ∀ H1, L2.Same H H1 → (∀ R : Bool → Hp → Prop, R (c (k : Int)) H1 → tt ((wipe σ vs).set i (some (.int (0 + (k : Nat))))) H1 R) ∧
      (c (k : Int) = true → (∀ R : VK, R (.int (k : Int)) H1 → tk ((wipe σ vs).set i (some (.int (0 + (k : Nat))))) H1 R) ∧ ∀ R : VK, R (vf (k : Int)) H1 → tv ((wipe σ vs).set i (some (.int (0 + (k : Nat))))) H1 R))
    (hz : n < sizeLine) (hq : ∀ D H', H D = none → H' D = some (.dK (madeR c (fun x => x) vf n)) → L2.Same H H' → Q (.ref D) H') :
    tDc wi (gName i) tt tk tv vs σ H0 Q := by
  refine hwi _ ?_
  intro D hD
  refine dc_it walk_range (fun k H' => L2.Same H H' ∧ H' D = some (.dK (madeR c (fun x => x) vf k))) ⟨Same.new hD, upd_same⟩ (fun _ _ _ _ => trivial) ?_ ?_
  · rintro k v H' H'' hk ⟨p1, p2⟩ ⟨rfl, rfl⟩
    refine ⟨hw _, ?_⟩
    obtain ⟨b1, b2⟩ := hb k hk _ p1
    refine b1 _ ?_
    cases hc : c (k : Int) with
    | true =>
      refine iteT ?_
      obtain ⟨b3, b4⟩ := b2 hc
      refine b3 _ (b4 _ ⟨_, Sum.inl (k : Int), rfl, p2, Nat.lt_of_le_of_lt (madeR_len ..) (Nat.lt_trans hk hz), ?_, ?_⟩)
      · intro b o e
        rw [upd_ne (ne_of_none e hD)]
        exact p1 b o e
      · rw [upd_same, putK_new _ (valV_none fun z => Nat.lt_irrefl _ (madeR_keys z)), madeR_succ, if_pos hc]
    | false =>
      refine iteF ⟨p1, ?_⟩
      rw [madeR_succ, hc, p2]
      simp
  · rintro H' ⟨p1, p2⟩
    exact hq D _ hD p2 p1
end U
namespace U
open PySem PySem.Spec PyProof.Rows L2
end U
/-! ### own errors over any built-in error -/
namespace PySem
namespace GEX
open PySem.W PySem.Calls PyProof.Rows PySem.HandSPX Builtin Builtin.ObjectAttr
section
variable {prog : Program} {w : World} {A : Around} {E : Value → Shared → Prop} {R : Result → Shared → Prop} {hp : Heap} {gs : Array GenState} {dr : Drawn} {tn : Nat} {os : OsState}
/-- what is asked of the class's chain -/
structure Mro (m : List Value) : Prop where
  ob : m.contains (.type "object") = true
  ne : m.isEmpty = false
  ps : ∀ self : Value, refuseLoop self "__setattr__" m = pure ()
theorem mro_of {bmB bm : List Value} {B : String} (SF : StoreFacts B bmB "object.__setattr__" "object") (h : excTail bmB bm = true) (C : Addr) : Mro (.ref C :: bm) := by
  have h' : excTail bmB (.ref C :: bm) = true := h
  exact ⟨(excTail_contains "object" _ h').trans SF.hasOwner, rfl, fun self => excTail_pass self (SF.passes self) _ h'⟩
theorem osa_first {K : Frag} {nm : Str} {tk : Tok} {v : Value} {x C : Addr} {fv : Array Value} {cd : ClassData} (X : K.In hp) (hx : hp.get? x = some { cls := .ref C, data := .fields fv }) (hcd : clsIn K C = some cd) (hm : Mro cd.mro) (hh : cd.hasDict = true) (ha : findIn K (.ref C) nm = some none)
    (hq : ∀ h' tk' dx, (∀ b o, b ≠ x → hp.get? b = some o → h'.get? b = some o) → hp.objs.size ≤ dx → dx ≠ x → h'.get? x = some { cls := .ref C, dict := some dx, data := .fields fv } → h'.Ns1 dx (fun y => if y = nm then some v else none) → R (.ok (.ret .none)) ⟨h', gs, dr, tk', os⟩) :
    codeAny (model prog w) A (.call (.builtin "object.__setattr__") ⟨[.ref x, .str nm tk, v], []⟩) R ⟨hp, gs, dr, tn, os⟩ := by
  have I : InstAt hp x { cls := .ref C, data := .fields fv } C none := ⟨hx, rfl, rfl, trivial⟩
  have hxs : x ≠ hp.objs.size := Nat.ne_of_lt (Heap.lt_size hx)
  have S0 := F.store_object
  have l1 : Looks (model prog w) hp (isInstance (.ref x) (.type "object")) true := I.type.andThen (looks_mroIn X (by unfold mroIn; rw [hcd, Option.bind_some, if_neg (by rw [hm.ne]; decide), hm.ob]))
  refine codeAny_call_builtin S0.slot.plain S0.entry ?_
  refine @check_slot (model prog w) _ _ ⟨hp, gs, dr, tn, os⟩ "object.__setattr__" "object" "__setattr__" (.ref x) [.str nm tk, v] [] _ S0.kind S0.split l1 (S0.args (.ref x) (.str nm tk) v) ?_
  have l2 : Looks (model prog w) hp (mroOf (.ref C)) cd.mro := (looks_clsIn X hcd).andThen .now
  have l3 : Looks (model prog w) hp (storeTaker? none) none := .now
  have l4 : Looks (model prog w) hp (classData C) cd := looks_clsIn X hcd
  rw [osa_eq, refuse_eq]
  refine wpAny_bind (wpAny_bind (I.type.at (wpAny_bind (l2.at ?_)))); rw [hm.ps]
  refine wpAny_pure (wpAny_bind (I.type.at (wpAny_bind ((looks_findIn X ha).at (wpAny_bind (l3.at ?_))))))
  show wpAny _ _ (storeInOwnDict (.ref x) (.ref C) (.str nm tk) nm v false) _ _ _
  obtain ⟨c1, c2, c3, c4, c5, c6, c7, c8, c9, c10, c11⟩ := cd
  have hh' : c6 = true := hh
  subst hh'
  unfold storeInOwnDict ownDictForStores
  repeat (first | with_reducible refine HandSPX.store_in_new ?_ ?_ | with_reducible refine wpAny_loadPart_at hx ?_ | with_reducible refine l4.at ?_ | wp_step)
  · refine ⟨_, #[], _, (Heap.get?_update_ne _ _ _ _ hxs.symm).trans (Heap.get?_push_at rfl rfl), rfl, fun e he => ?_, fun _ => rfl⟩
    simp at he
  · intro h' tk' hn' hs
    have hx1 : (hp.push { cls := .type "dict", data := .dict #[] }).get? x = some { cls := .ref C, data := .fields fv } := Heap.get?_push_of_some _ hx
    exact hq h' tk' hp.objs.size (fun b o hb ho => (hs.2 b (Nat.ne_of_lt (Heap.lt_size ho))).trans ((Heap.get?_update_ne _ _ _ _ hb).trans (Heap.get?_push_of_some _ ho))) (Nat.le_refl _) hxs.symm ((hs.2 x hxs).trans (Heap.get?_update_self _ hx1 rfl)) hn'
theorem osa_more {K : Frag} {nm : Str} {tk : Tok} {v : Value} {x C dx : Addr} {fv : Array Value} {cd : ClassData} {m0 : Str → Option Value} {nl : List Str} (X : K.In hp) (hx : hp.get? x = some { cls := .ref C, dict := some dx, data := .fields fv }) (hns : hp.Ns1 dx m0) (hw : Within m0 nl) (hz : nl.length ≤ 1000) (hcd : clsIn K C = some cd) (hm : Mro cd.mro) (hh : cd.hasDict = true) (ha : findIn K (.ref C) nm = some none)
    (hq : ∀ h' tk', (∀ b o, b ≠ dx → hp.get? b = some o → h'.get? b = some o) → h'.Ns1 dx (fun y => if y = nm then some v else m0 y) → R (.ok (.ret .none)) ⟨h', gs, dr, tk', os⟩) :
    codeAny (model prog w) A (.call (.builtin "object.__setattr__") ⟨[.ref x, .str nm tk, v], []⟩) R ⟨hp, gs, dr, tn, os⟩ := by
  obtain ⟨oD, _, _, hoD, _, _⟩ := hns.count hw
  have I : InstAt hp x { cls := .ref C, dict := some dx, data := .fields fv } C (some oD) := ⟨hx, rfl, rfl, hoD⟩
  have S0 := F.store_object
  have l1 : Looks (model prog w) hp (isInstance (.ref x) (.type "object")) true := I.type.andThen (looks_mroIn X (by unfold mroIn; rw [hcd, Option.bind_some, if_neg (by rw [hm.ne]; decide), hm.ob]))
  refine codeAny_call_builtin S0.slot.plain S0.entry ?_
  refine @check_slot (model prog w) _ _ ⟨hp, gs, dr, tn, os⟩ "object.__setattr__" "object" "__setattr__" (.ref x) [.str nm tk, v] [] _ S0.kind S0.split l1 (S0.args (.ref x) (.str nm tk) v) ?_
  have l2 : Looks (model prog w) hp (mroOf (.ref C)) cd.mro := (looks_clsIn X hcd).andThen .now
  have l3 : Looks (model prog w) hp (storeTaker? none) none := .now
  have l4 : Looks (model prog w) hp (classData C) cd := looks_clsIn X hcd
  rw [osa_eq, refuse_eq]
  refine wpAny_bind (wpAny_bind (I.type.at (wpAny_bind (l2.at ?_)))); rw [hm.ps]
  refine wpAny_pure (wpAny_bind (I.type.at (wpAny_bind ((looks_findIn X ha).at (wpAny_bind (l3.at ?_))))))
  show wpAny _ _ (storeInOwnDict (.ref x) (.ref C) (.str nm tk) nm v false) _ _ _
  obtain ⟨c1, c2, c3, c4, c5, c6, c7, c8, c9, c10, c11⟩ := cd
  have hh' : c6 = true := hh
  subst hh'
  unfold storeInOwnDict ownDictForStores
  repeat (first | with_reducible refine OEX.store_in_old hns hw hz ?_ | with_reducible refine wpAny_loadPart_at hx ?_ | with_reducible refine l4.at ?_ | wp_step)
  intro h' tk' hn' hs
  exact hq h' tk' (fun b o hb ho => (hs.2 b hb).trans ho) hn'
end
end GEX
end PySem
namespace L2
open PySem PySem.Spec PyProof.Rows PySem.W
/-- what the written part says of an own error class -/
structure OexG (K : PySem.W.Frag) (C : Addr) : Prop where
  cls : ∃ B newId initId bmB nm q N bs bm sn sub ab col dd k0 k1 k2 k3 k5, PySem.StoreFacts B bmB "object.__setattr__" "object" ∧ ExcBaseFacts B newId initId bmB ∧ K.lookup C = some (excClassObj nm q C N bs bm true sn sub ab col dd k0 k1 k2 k3 k5 newId) ∧ PySem.W.excTail bmB bm = true
  sa : PySem.W.findIn K (.ref C) "__setattr__" = some (some (.builtin "object.__setattr__"))
  exC : PySem.W.subIn K (.ref C) (.type "BaseException") = some true
  tyC : PySem.W.typeIn K (.ref C) = some (.type "type")
  kC : PySem.W.keepIn K (.ref C) = true
section
variable {X : Cx} {pins : List (Addr × Obj)} {σ : St} {H : Hp} {s : Shared} {a C dx : Addr} {f : Str} {y : V} {u : Value} {fs : List (Str × V)} {Q : Unit → Shared → Prop} {E : Value → Shared → Prop} {A : Around}
theorem OexG.look {K : PySem.W.Frag} {C : Addr} (T : OexG K C) : ∃ cd, PySem.W.clsIn K C = some cd ∧ PySem.GEX.Mro cd.mro ∧ cd.hasDict = true := by
  obtain ⟨B, nI, iI, bmB, nm, q, N, bs, bm, sn, sub, ab, col, dd, k0, k1, k2, k3, k5, SF, _, hC, hb⟩ := T.cls
  refine ⟨{ name := nm, bases := bs, mro := .ref C :: bm, ns := N, qualname := q, hasDict := true, slotNames := sn, subclasses := sub, abstract := ab, collection := col, hasDel := false }, ?_, PySem.GEX.mro_of SF hb C, rfl⟩
  unfold PySem.W.clsIn
  rw [hC] <;> rfl
/-- self.f = y, none there as yet -/
theorem ostG_new (T : OexG X.K C) (I : Inv X pins σ H s) (e : H a = some (exo a C none)) (hno : PySem.W.findIn X.K (.ref C) f = some none) (ry : RelV y u)
    (k : ∀ dx s', H dx = none → dx ≠ a → Inv X pins σ (upd (upd H dx (exd dx [(f, y)])) a (exo a C (some dx))) s' → Q () s') : wpAny (model X.prog X.w) A (setAttr (.ref a) f u) Q E s := by
  obtain ⟨cd, hcd, hmr, hdc⟩ := T.look
  obtain ⟨t1, ho⟩ := exo_at I.hok e
  obtain ⟨h0, gs, dr, tn, os⟩ := s
  refine PySem.W.set_plain I.kIn (ox := ⟨.ref C, none, .fields #[.ref t1, .none, .none, .none, .bool false, .none], #[]⟩) (od := none) ⟨ho, rfl, rfl, trivial⟩ T.sa ?_
  refine PySem.GEX.osa_first I.kIn ho hcd hmr hdc hno fun h' tk' dx kp dn dne hx hn => ?_
  have dfree : H dx = none := I.hok.fresh dn
  have low : ∀ {b : Addr} {o : Obj}, h0.get? b = some o → b ≠ dx := fun q => Nat.ne_of_lt (Nat.lt_of_lt_of_le (Heap.lt_size q) dn)
  have apart : ∀ {b : Addr}, H b = none → b ≠ a := fun {b} n z => by subst z; rw [e] at n; cases n
  have U1 : Un X.fs [] H (upd (upd H dx (exd dx [(f, y)])) a (exo a C (some dx))) h0 h' := by
    refine ⟨fun b o q n _ _ => kp b o (apart n) q, fun b o q n _ _ => ⟨o.slots, kp b o (apart n) q⟩, fun b o q n _ => ?_, fun b o q _ => ?_, fun b xs q => ?_, fun b o v q => ?_, fun b ps q => ⟨#[], ?_⟩⟩
    · rw [upd_ne (apart n), upd_ne (low q)]; exact n
    · by_cases hb : b = a
      · subst hb; exact ⟨_, hx⟩
      · exact ⟨o, kp b o hb q⟩
    · rw [upd_ne (at_ne e q exo_tup), upd_ne (ne_of_none q dfree)]; exact q
    · rw [upd_ne (at_ne e q exo_frz), upd_ne (ne_of_none q dfree)]; exact q
    · rw [upd_ne (at_ne e q exo_tbl), upd_ne (ne_of_none q dfree), q]; simp
  refine k dx _ dfree dne (I.un (t' := tk') U1 fun b o q => ?_)
  by_cases hb : b = a
  · subst hb; rw [upd_same] at q; cases q
    exact exo_ok hx
  · rw [upd_ne hb] at q
    by_cases hd : b = dx
    · subst hd; rw [upd_same] at q; cases q
      exact exd_ok hn (relO_put (fs := []) ry fun _ => True.intro)
    · rw [upd_ne hd] at q
      refine (I.hok b o q).stay (fun c v hc z => kp c v ?_ z) (fun c hc => ?_) (fun c xs hc => ?_)
      · rcases hc with rfl | hc
        · exact hb
        · exact at_ne e hc exo_own
      · rw [upd_ne (at_ne e hc exo_own), upd_ne (ne_of_none hc dfree)]; exact hc
      · rw [upd_ne (at_ne e hc exo_tup), upd_ne (ne_of_none hc dfree)]; exact hc
theorem ostG_old (T : OexG X.K C) (I : Inv X pins σ H s) (e : H a = some (exo a C (some dx))) (ed : H dx = some (exd dx fs)) (hl : fs.length ≤ 900) (hno : PySem.W.findIn X.K (.ref C) f = some none) (ry : RelV y u)
    (k : ∀ s', Inv X pins σ (upd H dx (exd dx ((f, y) :: fs))) s' → Q () s') : wpAny (model X.prog X.w) A (setAttr (.ref a) f u) Q E s := by
  obtain ⟨cd, hcd, hmr, hdc⟩ := T.look
  obtain ⟨t1, ho⟩ := exo_at I.hok e
  obtain ⟨mA, hns, rel⟩ := exd_at I.hok ed
  have win := within_of rel
  obtain ⟨oD, _, _, hoD, _, _⟩ := hns.count win
  obtain ⟨h0, gs, dr, tn, os⟩ := s
  refine PySem.W.set_plain I.kIn (ox := ⟨.ref C, some dx, .fields #[.ref t1, .none, .none, .none, .bool false, .none], #[]⟩) (od := some oD) ⟨ho, rfl, rfl, hoD⟩ T.sa ?_
  refine PySem.GEX.osa_more I.kIn ho hns win (by rw [List.length_map]; omega) hcd hmr hdc hno fun h' tk' kp hn => ?_
  have there : ∃ o, h'.get? dx = some o := by
    obtain ⟨o, _, _, e', _⟩ := hn
    exact ⟨o, e'⟩
  exact k _ (I.write (t' := tk') (x := dx) (e := dx) (o := exd dx ((f, y) :: fs)) (by rw [ed]; exact True.intro) (.inl rfl) kp there (exd_ok hn (relO_put ry rel)))
end
/-- self.f = e, self an error being made -/
def tOstG (K : PySem.W.Frag) (f : Str) (to te : TE) : TS := fun D σ H => te σ H fun y H1 => to σ H1 fun x H2 => ∃ a C : Addr, x = .ref a ∧ OexG K C ∧ PySem.W.findIn K (.ref C) f = some none ∧
  ((H2 a = some (exo a C none) ∧ ∀ dx, H2 dx = none → dx ≠ a → D.nx σ (upd (upd H2 dx (exd dx [(f, y)])) a (exo a C (some dx)))) ∨
    ∃ (dx : Addr) (fs : List (Str × V)), H2 a = some (exo a C (some dx)) ∧ H2 dx = some (exd dx fs) ∧ fs.length ≤ 900 ∧ D.nx σ (upd H2 dx (exd dx ((f, y) :: fs))))
section
variable {X : Cx} {o e : Expr} {es : List Expr} {to te : TE} {ta : TA} {f : Str} {p p' pos : Pos}
theorem ps_ostG (ho : PE X o to) (he : PE X e te) (hs : swapsWith e (some (.Attribute o f p')) pos.line X.env = pure false := by rfl) : PS X (.Assign [.Attribute o f p'] e pos) (tOstG X.K f to te) := by
  refine ⟨fun pins s σ H D I h => plainObj_wpAny_Assign_Attribute (thn (he.run pins s σ H _ I h) fun v s1 ⟨y, H1, I1, r1, q1⟩ => thn (ho.run pins s1 σ H1 _ I1 q1) fun u s2 ⟨x, H2, I2, r2, a, C, ex, T, hno, q⟩ => ?_) hs⟩
  subst ex
  cases (show u = Value.ref a from r2)
  rcases q with ⟨ea, q⟩ | ⟨dx, fs, ea, ed, hl, q⟩
  · exact ostG_new T I2 ea hno r1 fun dx _ n ne J => ⟨σ, _, J, q dx n ne⟩
  · exact ostG_old T I2 ea ed hl hno r1 fun _ J => ⟨σ, _, J, q⟩
/-- C(e, ..) -/
theorem pmk_oexG {CX : CXT} {x : Str} {C fI : Addr} {k : Nat} {sp : Sp} (T : OexG X.K C) (iC : PySem.W.findIn X.K (.ref C) "__init__" = some (some (.ref fI))) (tI : PySem.W.typeIn X.K (.ref fI) = some (.type "function"))
    (F1 : FnR X.prog X.w X.K X.mg X.base CX k fI sp) (hr : Room (k + 1) X.A) (hx : Passes CX X (fun _ _ _ => False)) (hg : Gl X x) (hm : X.mg x = some (.ref C)) (ha : PA X (e :: es) ta)
    (hdb : (x == ("__debug__" : Str)) = false := by decide) (he : starEach (e :: es) X.env = (false, eval e X.env) :: starEach es X.env := by rfl) (hpl : (backTo pos (starEach es X.env)).any (·.1) = false := by rfl) :
    PMk X (.Call (.Name x p) (e :: es) [] pos) (tMkO C sp [] ta) := by
  intro pins s σ H Q I h
  obtain ⟨B, nI, iI, bmB, nm, q, N, bs, bm, sn, sub, ab, col, dd, k0, k1, k2, k3, k5, _, BF, hC, hbm⟩ := T.cls
  refine wpAny_Call_Name_kw (ld_glob I hg hm ?_ hdb)
  refine PySem.W.callWith_K (h₀ := X.base) I.ok.mod.kin T.kC (thn (ha.run pos pins s σ H _ I h) fun us s1 ⟨vs, H1, I1, r1, hz, q1⟩ => ⟨I1.kIn, ?_⟩) he hpl
  show wpAny _ _ (call (.ref C) us) _ _ _
  obtain ⟨h0, gs, dr, tn, os⟩ := s1
  have up : h0.objs.size ≤ h0.objs.size + 1 := Nat.le_succ _
  have hq := q1 (h0.objs.size + 1) (I1.hok.fresh up)
  rw [List.append_nil] at hq
  have kk : ∀ b o, h0.get? b = some o → ((h0.push (PySem.W.kdv_tup us)).push (PySem.HandSPX.excO C h0.objs.size)).get? b = some o := fun b o z => Heap.get?_push_of_some _ (Heap.get?_push_of_some _ z)
  have there : ((h0.push (PySem.W.kdv_tup us)).push (PySem.HandSPX.excO C h0.objs.size)).get? (h0.objs.size + 1) = some (PySem.HandSPX.excO C h0.objs.size) := by heap_get
  have I2 : Inv X pins σ (upd H1 (h0.objs.size + 1) (exo (h0.objs.size + 1) C none)) ⟨(h0.push (PySem.W.kdv_tup us)).push (PySem.HandSPX.excO C h0.objs.size), gs, dr, tn, os⟩ := I1.laid (t' := tn) kk up (exo_ok there)
  have r2 : Vals (V.ref (h0.objs.size + 1) :: vs) (Value.ref (h0.objs.size + 1) :: us) := .cons rfl r1
  have hus : us.length ≤ sizeLine := by rw [← Paired.length r1, sizeLine_eq]; omega
  refine wpAny_call (PySem.HandSPX.call_own BF (fun Y => PySem.W.excTail_contains Y bm hbm) (I1.kIn _ _ hC) (PySem.W.looks_findIn I1.kIn iC) (fun self => PySem.W.bind_fn I1.kIn self tI) hus ?_)
  refine codeAny_mono (F1 _ X.stack _ _ (Value.ref (h0.objs.size + 1) :: us) _ _ (fun _ _ _ => False) (hr.make C us []) (I2.env0.make C us []) r2 hq) fun r s' hq' => ?_
  cases r with
  | error er => exact hx pins σ _ _ er s' I2 hq'
  | ok fl =>
    cases fl with
    | ret u =>
      obtain ⟨v, H2, os2, bare2, un2, hok2, rv, ev, d, fs, ea, ed, hd1, q2⟩ := hq'
      subst ev
      obtain ⟨h2, g2, d2, t2, os'⟩ := s'
      exact ⟨rv, mk_end (raises_own T.exC T.tyC) I1 up kk un2 hok2 os2 bare2 ea ed hd1 q2⟩
    | next => exact False.elim hq'
    | brk => exact False.elim hq'
    | cont => exact False.elim hq'
end
end L2
namespace U
open PySem PySem.Spec PyProof.Rows L2 StX
section
variable {P : Program} {w : World} {K : PySem.W.Frag} {mg : Str → Option Value} {base : Heap}
/-- a def that may raise -/
theorem FnAt.okX {x qual : Str} {st : Stmt} {f : Addr} {N ps : List Str} {k : Nat} {sp : Sp} (A : FnAt K x qual st f ps) (S : FnScope N ps (defScope st)) (len : ∀ vs H Q E, sp vs H Q E → vs.length = ps.length)
    (hbody : ∀ (cdv : Value) (A : Around) (outer : List Env) (s : Shared) (H : Hp) (vs : List V) (Q : VK) (E : XK), Room k (A.deeper (envOfC qual (defScope st) s.heap.objs.size f cdv)) → sp vs H Q E →
      ∃ t, PSs (cxOf (L2.CX P w) P w K mg base N qual (defScope st) f cdv A outer s H E) (defBody st) t ∧ t { nx := fun _ H' => Q .non H', rt := Q } (start N vs) H) : FnR P w K mg base (L2.CX P w) (k + 1) f sp := by
  obtain ⟨fd, F, B⟩ := A.ex
  have R := (F.okX (P := P) (w := w) (mg := mg) (base := base) S len hbody).raw B .nil
  exact R.imp fun vs H Q E h => by rw [List.append_nil]; exact h
end
end U
namespace U
open PySem PySem.Spec PyProof.Rows L2 StX
end U
namespace U
open PySem PySem.Spec PyProof.Rows L2
section
variable {P : Program} {w : World} {K : PySem.W.Frag} {mg : Str → Option Value} {base : Heap}
/-- a def that may raise, called where it does not -/
theorem fnR_calm {k : Nat} {f : Addr} {sp : Sp} (F : FnR P w K mg base (L2.CX P w) k f sp) : FnR P w K mg base CX0 k f (fun vs H Q _ => sp vs H Q E0) := by
  intro A outer s H us vs Q E hr e0 r h
  refine codeAny_mono (F A outer s H us vs Q E0 hr e0 r h) fun r s' hq => ?_
  cases r with
  | error e =>
    obtain ⟨_, _, _, _, _, _, _, _, _, _, _, _, z⟩ := hq
    exact z.elim
  | ok fl => cases fl <;> exact hq
end
/-! ### own errors with one or two fields -/
def spIni1 (C : Addr) (f : Str) : Sp := fun vs H Q _ => ∃ (a : Addr) (v : V), vs = [.ref a, v] ∧ H a = some (exo a C none) ∧ ∀ dx, H dx = none → dx ≠ a → Q .non (upd (upd H dx (exd dx [(f, v)])) a (exo a C (some dx)))
def spIni2 (C : Addr) (f g : Str) : Sp := fun vs H Q _ => ∃ (a : Addr) (v u : V), vs = [.ref a, v, u] ∧ H a = some (exo a C none) ∧ ∀ dx, H dx = none → dx ≠ a → Q .non (upd (upd (upd H dx (exd dx [(f, v)])) a (exo a C (some dx))) dx (exd dx [(g, u), (f, v)]))
theorem mk_one {C : Addr} {f : Str} {v : V} {H : Hp} {Q : XK} (h : ∀ d, H d = none → Q (.ref C) (some d) (upd H d (.xd [(f, v)]))) :
    [v].length ≤ 1000 ∧ ∀ a, H a = none → spIni1 C f (.ref a :: ([v] ++ [])) (upd H a (exo a C none))
      (fun z H2 => z = .non ∧ ∃ (d : Addr) (fs : List (Str × V)), H2 a = some (exo a C (some d)) ∧ H2 d = some (exd d fs) ∧ H d = none ∧ Q (.ref C) (some d) (upd (del H2 a) d (.xd fs))) (fun _ _ _ => False) := by
  refine ⟨(by show 1 ≤ 1000; decide), fun a ha => ⟨a, v, rfl, upd_same, fun dx hd ne => ⟨rfl, dx, [(f, v)], upd_same, ?_, ?_, ?_⟩⟩⟩
  · rw [upd_ne ne, upd_same]
  · rw [upd_ne ne] at hd; exact hd
  · rw [upd_ne ne] at hd
    have e : upd (del (upd (upd (upd H a (exo a C none)) dx (exd dx [(f, v)])) a (exo a C (some dx))) a) dx (.xd [(f, v)]) = upd H dx (.xd [(f, v)]) := by
      funext b
      by_cases h1 : b = dx
      · subst h1; rw [upd_same, upd_same]
      · rw [upd_ne h1, upd_ne h1]
        by_cases h2 : b = a
        · subst h2
          rw [ha]
          unfold del
          simp
        · unfold del
          simp only [h2, if_false]
          rw [upd_ne h2, upd_ne h1, upd_ne h2]
    rw [e]
    exact h dx hd
theorem mk_two {C : Addr} {f g : Str} {v u : V} {H : Hp} {Q : XK} (h : ∀ d, H d = none → Q (.ref C) (some d) (upd H d (.xd [(g, u), (f, v)]))) :
    [v, u].length ≤ 1000 ∧ ∀ a, H a = none → spIni2 C f g (.ref a :: ([v, u] ++ [])) (upd H a (exo a C none))
      (fun z H2 => z = .non ∧ ∃ (d : Addr) (fs : List (Str × V)), H2 a = some (exo a C (some d)) ∧ H2 d = some (exd d fs) ∧ H d = none ∧ Q (.ref C) (some d) (upd (del H2 a) d (.xd fs))) (fun _ _ _ => False) := by
  refine ⟨(by show 2 ≤ 1000; decide), fun a ha => ⟨a, v, u, rfl, upd_same, fun dx hd ne => ⟨rfl, dx, [(g, u), (f, v)], ?_, upd_same, ?_, ?_⟩⟩⟩
  · rw [upd_ne ne.symm, upd_same]
  · rw [upd_ne ne] at hd; exact hd
  · rw [upd_ne ne] at hd
    have e : upd (del (upd (upd (upd (upd H a (exo a C none)) dx (exd dx [(f, v)])) a (exo a C (some dx))) dx (exd dx [(g, u), (f, v)])) a) dx (.xd [(g, u), (f, v)]) = upd H dx (.xd [(g, u), (f, v)]) := by
      funext b
      by_cases h1 : b = dx
      · subst h1; rw [upd_same, upd_same]
      · rw [upd_ne h1, upd_ne h1]
        by_cases h2 : b = a
        · subst h2
          rw [ha]
          unfold del
          simp
        · unfold del
          simp only [h2, if_false]
          rw [upd_ne h1, upd_ne h2, upd_ne h1, upd_ne h2]
    rw [e]
    exact h dx hd
end U
namespace U
open PySem PySem.Spec PyProof.Rows L2
end U
namespace U
open PySem PySem.Spec PyProof.Rows L2 StX
/-! ### defs that are called where no repr runs around them -/
def FnG (P : Program) (w : World) (K : PySem.W.Frag) (mg : Str → Option Value) (base : Heap) (CX : CXT) (k : Nat) (f : Addr) (sp : Sp) : Prop :=
  ∀ (A : Around) (outer : List Env) (s : Shared) (H : Hp) (us : List Value) (vs : List V) (Q : VK) (E : XK), A.guards = some [] → Room k A → Env0 P w K mg base A outer s H → Vals vs us → sp vs H Q E → codeAny (model P w) A (.call (.ref f) ⟨us, []⟩) (CR CX outer P w H s Q E) s
section
variable {P : Program} {w : World} {K : PySem.W.Frag} {mg : Str → Option Value} {base : Heap} {CX : CXT} {j k : Nat} {f : Addr} {sp sp' : Sp}
theorem FnG.mono (F : FnG P w K mg base CX j f sp) (h : j ≤ k) : FnG P w K mg base CX k f sp := fun A outer s H us vs Q E g hr => F A outer s H us vs Q E g (hr.mono h)
theorem FnG.imp (F : FnG P w K mg base CX k f sp) (h : ∀ vs H Q E, sp' vs H Q E → sp vs H Q E) : FnG P w K mg base CX k f sp' := fun A outer s H us vs Q E g hr e0 r z => F A outer s H us vs Q E g hr e0 r (h _ _ _ _ z)
/-- the body's walk, with what is around -/
theorem bodyG {x qual : Str} {st : Stmt} {fd : FuncData} {N ps : List Str} (F : Fun K x qual st f fd) (S : FnScope N ps (defScope st)) (len : ∀ vs H Q E, sp vs H Q E → vs.length = ps.length)
    (hbody : ∀ (cdv : Value) (A : Around) (outer : List Env) (s : Shared) (H : Hp) (vs : List V) (Q : VK) (E : XK), A.guards = some [] → Room k (A.deeper (envOfC qual (defScope st) s.heap.objs.size f cdv)) → sp vs H Q E →
      ∃ t, PSs (cxOf CX P w K mg base N qual (defScope st) f cdv A outer s H E) (defBody st) t ∧ t { nx := fun _ H' => Q .non H', rt := Q } (start N vs) H)
    (A : Around) (outer : List Env) (s : Shared) (H : Hp) (args : Args) (us : List Value) (vs : List V) (Q : VK) (E : XK) (g : A.guards = some []) (hr : Room (k + 1) A) (e0 : Env0 P w K mg base A outer s H) (hb : BindsTo s fd args (ps.zip us)) (r : Vals vs us) (hs : sp vs H Q E) :
    codeAny (model P w) A (.call (.ref f) args) (CR CX outer P w H s Q E) s := by
  obtain ⟨oc, od, kV, doc, pm, an, cdv, ct, osl, rfl, lk, hcd⟩ := F.ex
  have hl := len _ _ _ _ hs
  have kin : K.In s.heap := e0.mod.kin.keeps fun b o e => (e0.bs b o e).1
  have lim : s.heap.NoLimit := e0.mod.nolimit.keeps fun b o e => (e0.bs b o e).1
  have names : ∀ y ∈ ps.zip us, (defScope st).names.lookup y.1 = some .local ∨ ((defScope st).names.lookup y.1 = some .cell ∧ ((cellsFrom (s.heap.objs.size + 1) (defScope st).names []).lookup y.1).isSome = true) := by
    rintro ⟨n, v⟩ hy
    rcases S.par n (List.of_mem_zip hy).1 with q | q
    · exact .inl q
    · exact .inr ⟨q, PySem.W.cellsFrom_some _ _ _ (.inl q)⟩
  refine codeAny_call_function hr.depth (kin _ _ lk) rfl S.co S.gen rfl (PySem.W.codeRec_of kin hcd) (hb _ _ _ _ ?_)
  refine wpAny_newFunctionEnv_cells S.kind names fun env he s1 z => ?_
  subst he
  refine ⟨lim.keeps z.toInCall.keep, codeAny_func ?_⟩
  obtain ⟨t, ht, hq⟩ := hbody cdv A outer s H vs Q E g (hr.deeper _) hs
  have I : Inv (cxOf CX P w K mg base N qual (defScope st) f cdv A outer s H E) [] (start N vs) H s1 := inv_start S hr.hd e0 hl r z
  refine wpAny_mono (ht.run [] s1 (start N vs) H _ I hq) (fun fl s' h' => ?_) fun _ _ h' => h'
  match fl, h' with
  | .ret u, ⟨v, σ', H', J, rv, q⟩ => exact ⟨v, H', J.os, J.bare, J.base, J.hok, rv, q⟩
  | .next, ⟨σ', H', J, q⟩ => exact ⟨.non, H', J.os, J.bare, J.base, J.hok, rfl, q⟩
  | .brk, ⟨_, _, _, q⟩ => exact q.elim
  | .cont, ⟨_, _, _, q⟩ => exact q.elim
theorem FnAt.okG {x qual : Str} {st : Stmt} {N ps : List Str} (B : FnAt K x qual st f ps) (S : FnScope N ps (defScope st)) (len : ∀ vs H Q E, sp vs H Q E → vs.length = ps.length)
    (hbody : ∀ (cdv : Value) (A : Around) (outer : List Env) (s : Shared) (H : Hp) (vs : List V) (Q : VK) (E : XK), A.guards = some [] → Room k (A.deeper (envOfC qual (defScope st) s.heap.objs.size f cdv)) → sp vs H Q E →
      ∃ t, PSs (cxOf CX0 P w K mg base N qual (defScope st) f cdv A outer s H E).nox (defBody st) t ∧ t { nx := fun _ H' => Q .non H', rt := Q } (start N vs) H) : FnG P w K mg base CX0 (k + 1) f sp := by
  obtain ⟨fd, F, bi⟩ := B.ex
  intro A outer s H us vs Q E g hr e0 r hs
  have hl : (us ++ []).length = ps.length := by rw [List.append_nil, ← r.length]; exact len _ _ _ _ hs
  refine bodyG F S len (fun cdv A outer s H vs Q E g hr hs => ?_) A outer s H ⟨us, []⟩ us vs Q E g hr e0 ?_ r hs
  · obtain ⟨t, h, q⟩ := hbody cdv A outer s H vs Q E g hr hs
    exact ⟨t, h.nox, q⟩
  · have := bi s us (e0.mod.kin.keeps fun b o e => (e0.bs b o e).1) hl
    rw [List.append_nil] at this
    exact this
end
section
variable {X : Cx} {CX : CXT} {pins : List (Addr × Obj)} {σ : L2.St} {H : Hp} {s : Shared} {f : Addr} {k : Nat} {sp : Sp} {x : Str} {e : Expr} {es : List Expr} {t : TA} {pp pos : Pos}
theorem run_G {Q : VK} {us : List Value} {vs : List V} {E : XK} (F : FnG X.prog X.w X.K X.mg X.base CX k f sp) (g : X.A.guards = some []) (hr : Room k X.A) (hx : PassesAt CX X σ E) (I : Inv X pins σ H s) (r : Vals vs us) (h : sp vs H Q E) :
    codeAny (model X.prog X.w) X.A (.call (.ref f) ⟨us, []⟩) (fun r s' => match r with | .ok (.ret v) => EP X pins σ Q v s' | .ok _ => False | .error e => X.xe e s') s := by
  refine codeAny_mono (F X.A X.stack s H us vs Q E g hr I.env0 r h) fun z s' hq => ?_
  match z, hq with
  | .error er, hq => exact hx pins H s er s' I hq
  | .ok (.ret w), hq => exact I.after hq
  | .ok .next, hq => exact hq.elim
  | .ok .brk, hq => exact hq.elim
  | .ok .cont, hq => exact hq.elim
/-- x(e, ..), x such a def -/
theorem pe_callG {E : XK} (F : FnG X.prog X.w X.K X.mg X.base CX k f sp) (g : X.A.guards = some []) (hr : Room k X.A) (hk : PySem.W.keepIn X.K (.ref f) = true) (hg : Gl X x) (hm : X.mg x = some (.ref f)) (hx : Passes CX X E) (ha : PA X (e :: es) t) (hdb : (x == ("__debug__" : Str)) = false := by decide)
    (he : starEach (e :: es) X.env = (false, eval e X.env) :: starEach es X.env := by rfl) (hpl : (backTo pos (starEach es X.env)).any (·.1) = false := by rfl) : PE X (.Call (.Name x pp) (e :: es) [] pos) (tCallR sp E t) := by
  refine ⟨fun pins s σ H Q I h => wpAny_Call_Name_kw (ld_glob I hg hm ?_ hdb)⟩
  exact PySem.W.callWith_K (h₀ := X.base) I.ok.mod.kin hk (thn (ha.run pos pins s σ H _ I h) fun us s1 ⟨vs, H1, I1, r, q⟩ => ⟨I1.kIn, wpAny_call (run_G F g hr (fun pins H s e s' => hx pins σ H s e s') I1 r q)⟩) he hpl
/-! ### repr -/
/-- repr(v), v a None, a bool, an int, a text, lists and tuples of them -/
def rRepr (K : PySem.W.Frag) : List V → Hp → VK → Prop := fun xs H Q => ∃ v d, xs = [v] ∧ Dp K H v d ∧ d.showable = true ∧ d.hasDict = false ∧ d.depth ≤ 60 ∧ d.shown.length ≤ sizeLine ∧ Q (.str d.shown) H
theorem call_repr (g : X.A.guards = some []) (hu : X.A.units + 64 < cLine) : CallR X (.builtin "repr") (rRepr X.K) := by
  intro pins s σ H xs us Q I r h
  obtain ⟨v, d, rfl, hd, hs, hn, hdp, hz, q⟩ := h
  obtain ⟨u, rfl, ru⟩ := r.one
  obtain ⟨as, rd⟩ := Dp.reads I d v u hd ru
  cases rd with
  | none =>
    simp only [PyData.shown] at q
    exact PySem.P.repr_of_none ⟨.str _, H, I.tok _, ⟨_, rfl⟩, q⟩
  | bool b =>
    simp only [PyData.shown] at q
    exact PySem.P.repr_of_bool ⟨.str _, H, I.tok _, ⟨_, rfl⟩, q⟩
  | int i t =>
    simp only [PyData.shown] at q
    exact PySem.P.repr_of_int (by simpa [PyData.showable] using hs) ⟨.str _, H, I.tok _, ⟨_, rfl⟩, q⟩
  | str x t =>
    simp only [PyData.shown] at q hz
    exact PySem.P.repr_of_str ⟨.str _, H, I.tok _, ⟨_, rfl⟩, q⟩ hz
  | list h1 h2 h3 h4 => exact repr_of_reads' (.list h1 h2 h3 h4) hs (PyData.noDict_hsm hn) g (by omega) (fun _ _ e => e) (fun h' u tk hk => ⟨.str _, H, I.kept (t' := tk) hk, ⟨_, rfl⟩, q⟩) hz
  | tuple h1 h2 h3 h4 => exact repr_of_reads' (.tuple h1 h2 h3 h4) hs (PyData.noDict_hsm hn) g (by omega) (fun _ _ e => e) (fun h' u tk hk => ⟨.str _, H, I.kept (t' := tk) hk, ⟨_, rfl⟩, q⟩) hz
  | dict h1 h2 h3 h4 h5 => simp [PyData.hasDict] at hn
/-! ### a dict of ints, shown -/
end
end U
namespace U
open PySem PySem.Spec PyProof.Rows L2 StX
/-- what holds no other object -/
inductive Sc : V → PyData → Prop
  | non : Sc .non .none
  | bl (b : Bool) : Sc (.bl b) (.bool b)
  | int (i : Int) : Sc (.int i) (.int i)
  | str (x : Str) : Sc (.str x) (.str x)
theorem Sc.reads {h : Heap} {v : V} {d : PyData} {u : Value} (s : Sc v d) (r : RelV v u) : Reads h u d [] := by
  cases s with
  | non => cases r; exact .none
  | bl b => cases r; exact .bool b
  | int i => obtain ⟨t, rfl⟩ := r; exact .int i t
  | str x => obtain ⟨t, rfl⟩ := r; exact .str x t
end U
namespace U
open PySem PySem.Spec PyProof.Rows L2 StX
/-! ### the law's call, where no repr runs around it -/
section
variable {P : Program} {w : World} {K : PySem.W.Frag} {mg mb : Str → Option Value} {k : Nat} {fa sc : Addr} {sp : Sp} {s1 : Shared} {us : List Value} {ns : List Int}
/-- from an abstract heap that tracks at most the script -/
theorem law_core (inK : K.In s1.heap) (glob : s1.heap.Ns mainGlobals mg) (blt : s1.heap.Ns builtinsNs mb) (blt2 : ∀ x : Str, x ≠ "__name__" → mb x = bootBuiltins x) (lim : s1.heap.NoLimit) (gens : s1.gens = #[])
    (there : s1.heap.get? sc = some { cls := .type "list", data := .seq us.toArray }) (room : Room k callerA)
    (F : ∀ base : Heap, FnG P w K mg base CX0 k fa sp)
    (H : Hp) (only : Only H) (hok : HOk P w H s1.heap) (just : ∀ b, H b ≠ none → b = sc) (offK : H sc ≠ none → K.lookup sc = none)
    (prom : sp [.ref sc] H (fun v _ => v = .bl true) E0) :
    codeAny (model P w) callerA (.call (.ref fa) ⟨[.ref sc], []⟩) (fun r s' => r = .ok (.ret (.bool true)) ∧ OldK s1.heap s'.heap ∧ s'.os = s1.os ∧ AllBare s'.gens) s1 := by
  have isSc : ∀ {b : Addr} {u : HO}, H b = some u → b = sc := fun {b u} e => just b fun z => by rw [z] at e; cases e
  have free : ∀ {b : Addr} {o : Obj} {es : Array DictEntry} {ep : Nat}, s1.heap.get? b = some o → o.data = .dict es ep → H b = none := by
    intro b o es ep e d
    cases hb : H b with
    | none => rfl
    | some u =>
      have := isSc hb
      subst this
      rw [there] at e
      cases e
      exact absurd (show Data.seq us.toArray _ = Data.dict es ep from d) (by intro z; cases z)
  have spaces : ∀ {b : Addr} {m : Str → Option Value}, s1.heap.Ns b m → (hidT s1.heap H).Ns b m := by
    rintro b m ⟨o, es, ep, e, d, r⟩
    exact ⟨o, es, ep, hidT_get e (free e d), d, r⟩
  have inB : K.In (hidT s1.heap H) := by
    intro b o e
    refine hidT_get (inK b o e) ?_
    cases hb : H b with
    | none => rfl
    | some u =>
      have := isSc hb
      subst this
      have z := offK (by rw [hb]; intro z; cases z)
      rw [e] at z
      cases z
  have md : Mod K mg (hidT s1.heap H) := by
    obtain ⟨mc, l1, l2⟩ := lim
    exact ⟨inB, spaces glob, ⟨mb, spaces blt, blt2⟩, ⟨mc, spaces l1, l2⟩⟩
  have env : Env0 P w K mg (hidT s1.heap H) callerA [] s1 H := by
    refine ⟨rfl, md, fun b o e => of_hidT e, Nat.le_of_eq (hidT_size _ _), trivial, fun b hb => ?_, hok, .of_eq gens⟩
    exact absurd hb List.not_mem_nil
  refine codeAny_mono (F (hidT s1.heap H) callerA [] s1 H [.ref sc] [.ref sc] (fun v _ => v = .bl true) E0 rfl room env (.cons rfl .nil) prom) fun r s' h => ?_
  match r, h with
  | .error e, h => exact h.elim
  | .ok .next, h => exact h.elim
  | .ok .brk, h => exact h.elim
  | .ok .cont, h => exact h.elim
  | .ok (.ret u), ⟨v, H', os, bare, un, hok', rv, q⟩ =>
    subst q
    cases (show u = Value.bool true from rv)
    refine ⟨rfl, OldK.of_keep fun b o e => ?_, os, bare⟩
    cases hb : H b with
    | none => exact un.keep b o e hb (fun z => absurd z List.not_mem_nil) (by simp)
    | some u =>
      rcases only b with z | ⟨ob, xs, z⟩
      · rw [hb] at z
        cases z
      · have a1 := (hok b _ z).1
        have a2 := (hok' b _ (un.frzs b ob _ z)).1
        rw [e] at a1
        cases a1
        exact a2
theorem law_callG (inK : K.In s1.heap) (glob : s1.heap.Ns mainGlobals mg) (blt : s1.heap.Ns builtinsNs mb) (blt2 : ∀ x : Str, x ≠ "__name__" → mb x = bootBuiltins x) (lim : s1.heap.NoLimit) (gens : s1.gens = #[])
    (there : s1.heap.get? sc = some { cls := .type "list", data := .seq us.toArray }) (inS : IntsAre us ns) (len : ns.length ≤ sizeLine) (room : Room k callerA)
    (F : ∀ base : Heap, FnG P w K mg base CX0 k fa sp)
    (prom : ∀ H : Hp, SqL K H sc (ns.map V.int) → sp [.ref sc] H (fun v _ => v = .bl true) E0) :
    codeAny (model P w) callerA (.call (.ref fa) ⟨[.ref sc], []⟩) (fun r s' => r = .ok (.ret (.bool true)) ∧ OldK s1.heap s'.heap ∧ s'.os = s1.os ∧ AllBare s'.gens) s1 := by
  have rv := vals_ints inS
  have go := law_core (P := P) (w := w) (k := k) (fa := fa) (sp := sp) inK glob blt blt2 lim gens there room F
  cases hk : K.lookup sc with
  | some o =>
    have e := inK sc o hk
    rw [there] at e
    cases e
    refine go (fun _ => none) (fun _ => .inl rfl) (fun b u z => by cases (show (none : Option HO) = some u from z)) (fun b z => absurd rfl z) (fun z => absurd rfl z) (prom _ ?_)
    refine .inr ⟨_, us.toArray, _, hk, rfl, rfl, rfl, ?_, by simpa using rv⟩
    rw [List.size_toArray, inS.length]
    exact len
  | none =>
    have at_ : (fun b => if b = sc then some (HO.frz { cls := .type "list", data := .seq us.toArray } (.lst (ns.map V.int))) else none) sc = some (.frz { cls := .type "list", data := .seq us.toArray } (.lst (ns.map V.int))) := if_pos rfl
    refine go (fun b => if b = sc then some (.frz { cls := .type "list", data := .seq us.toArray } (.lst (ns.map V.int))) else none) (fun b => ?_) (fun b u z => ?_) (fun b z => ?_) (fun _ => hk) (prom _ (.inl (.inr ⟨_, at_⟩)))
    · by_cases hb : b = sc
      · subst hb
        exact .inr ⟨_, _, at_⟩
      · exact .inl (if_neg hb)
    · by_cases hb : b = sc
      · subst hb
        rw [at_] at z
        cases z
        refine ⟨there, ?_, us, _, rv, there⟩
        rw [List.length_map]
        exact len
      · have no := (if_neg hb).symm.trans z
        cases no
    · refine Classical.byContradiction fun hb => z (if_neg hb)
end
/-- the goal that k_head leaves, from the law's promise -/
theorem walkG {l : PySem.W.OpenLaw} {n k : Nat} {q : Program} {loose : List Str} {XP : (Str → Option Value) → Heap → Prop} {YP : World → Heap → Prop} {d : DefRec} {K : Params → PySem.W.Frag} {sp : PySem.W.Frag → Sp}
    (hn : l.most = some n) (hn2 : n ≤ sizeLine) (hdf : d.params.defaults = []) (room : Room k callerA) (hY : ∀ (w : World) (h : Heap), YP w h → (K w.params).In h)
    (F : ∀ (w : World) (mg : Str → Option Value) (fa : Addr) (h : Heap), (K w.params).In h → h.Ns mainGlobals mg → mg d.name = some (.ref fa) → ∀ base : Heap, FnG l.prog w (K w.params) mg base CX0 k fa (sp (K w.params)))
    (prom : ∀ (K : PySem.W.Frag) (H : Hp) (a : Addr) (ns : List Int), ns.length ≤ n → SqL K H a (ns.map V.int) → sp K [.ref a] H (fun v _ => v = .bl true) E0) :
    PySem.W.WalkO q loose XP YP l.row.toRowW d [] (fun f vs => PySem.call f vs) := by
  refine Att.attach_call hn hdf fun w s0 s1 mg mb fa o pm cd doc a vs ns G Y ho hd hcd hmg hobj hints hlen hg => ?_
  have inK := hY w _ Y
  exact law_callG inK G.T.g G.T.b G.T.builtins G.T.nolimit hg hobj hints (Nat.le_trans hlen hn2) room (F w mg fa _ inK G.T.g hmg) fun H hS => prom _ H a ns hlen hS
end U
namespace U
open PySem PySem.Spec PyProof.Rows L2 StX
/-! ### defs called while an exception is handled -/
end U
namespace U
open PySem PySem.Spec PyProof.Rows L2 StX
end U
namespace U
open PySem PySem.Spec PyProof.Rows L2 StX
end U
namespace U
open PySem PySem.Spec PyProof.Rows L2 StX PySem.W
end U
namespace U
open PySem PySem.Spec PyProof.Rows L2 StX
/-! ### x op i, the class's own, i an int -/
/-! ### list(d.items()), the dict locked or not -/
end U
namespace U
open PySem PySem.Spec PyProof.Rows L2
/-! ### several clauses 'except x as n' -/
end U
namespace U
open PySem L2
/-! ### facts of heaps, for the search -/
theorem carry {H H' : Hp} {a : Addr} {o : HO} (s : L2.Same H H') (h : H a = some o) : H' a = some o := s a o h
theorem carryNew {H : Hp} {p a : Addr} {o u : HO} (hp : H p = none) (h : H a = some u) : upd H p o a = some u := (Same.new hp) a u h
theorem freeUp {H : Hp} {p q : Addr} {o : HO} (h : upd H q o p = none) : H p = none := by
  by_cases e : p = q
  · subst e; rw [upd_same] at h; cases h
  · rw [upd_ne e] at h; exact h
theorem freeVia {H H' : Hp} {p : Addr} (s : L2.Same H H') (h : H' p = none) : H p = none := s.free h
theorem sameUp {H H1 : Hp} {p : Addr} {o : HO} (hp : H1 p = none) (s : L2.Same H H1) : L2.Same H (upd H1 p o) := s.trans (Same.new hp)
theorem sameVia {H H1 H2 : Hp} (b : L2.Same H1 H2) (a : L2.Same H H1) : L2.Same H H2 := a.trans b
theorem upd_facts {H H1 : Hp} {p : Addr} {o : HO} (h : upd H p o = H1) (n : H p = none) : L2.Same H H1 ∧ H1 p = some o := by
  subst h
  exact ⟨Same.new n, upd_same⟩
theorem nil_le : ([] : List V).length ≤ sizeLine := by decide
theorem one_le {a : V} : [a].length ≤ sizeLine := by show 1 ≤ sizeLine; decide
theorem two_le {a b : V} : [a, b].length ≤ sizeLine := by show 2 ≤ sizeLine; decide
theorem three_le {a b c : V} : [a, b, c].length ≤ sizeLine := by show 3 ≤ sizeLine; decide
theorem le_line {n : Nat} (h : n ≤ 100000) : n ≤ sizeLine := Nat.le_trans h (by decide)
theorem lt_line {n : Nat} (h : n ≤ 100000) : n < sizeLine := Nat.lt_of_le_of_lt h (by decide)
end U
namespace U
open PySem PySem.Spec PyProof.Rows L2 GQ PySem.SeqAt MeetsSeq MeetsSeq2 MeetsSeq3 SeqRoads2
open AutoSeq1 (wpAny_loadPart')
/-! ### defs with a star parameter -/
structure StarAt (K : PySem.W.Frag) (x qual : Str) (st : Stmt) (f : Addr) (ps : List Str) (pv : Str) : Prop where
  ex : ∃ fd, Fun K x qual st f fd ∧ ∀ us rest : List Value, us.length = ps.length → bindArgs fd ⟨us ++ rest, []⟩ = (newTuple rest >>= fun t => pure (ps.zip us ++ [(pv, t)]))
theorem StarAt.kp {K : PySem.W.Frag} {x qual : Str} {st : Stmt} {f : Addr} {ps : List Str} {pv : Str} (A : StarAt K x qual st f ps pv) : PySem.W.keepIn K (.ref f) = true := by
  obtain ⟨_, F, _⟩ := A.ex
  exact F.kp
/-- what is asked of the arguments: the named ones, then a new tuple of the rest -/
def spStar (n : Nat) (sp : Sp) : Sp := fun vs H Q E => ∃ ws rest, vs = ws ++ rest ∧ ws.length = n ∧ rest.length ≤ sizeLine ∧ ∀ p, H p = none → sp (ws ++ [V.ref p]) (upd H p (.tup rest)) Q E
section
variable {P : Program} {w : World} {K : PySem.W.Frag} {mg : Str → Option Value} {base : Heap} {x qual pv : Str} {st : Stmt} {f : Addr} {N ps : List Str} {k : Nat} {sp : Sp}
theorem StarAt.okX (B : StarAt K x qual st f ps pv) (S : FnScope N (ps ++ [pv]) (defScope st))
    (walk : ∀ (cdv : Value) (A : Around) (outer : List Env) (s : Shared) (H : Hp) (vs : List V) (Q : VK) (E : XK), Room k (A.deeper (envOfC qual (defScope st) s.heap.objs.size f cdv)) → sp vs H Q E →
      ∃ t, PSs (cxOf (L2.CX P w) P w K mg base N qual (defScope st) f cdv A outer s H E) (defBody st) t ∧ t { nx := fun _ H' => Q .non H', rt := Q } (start N vs) H) : FnR P w K mg base (L2.CX P w) (k + 1) f (spStar ps.length sp) := by
  obtain ⟨fd, F, hb⟩ := B.ex
  obtain ⟨oc, od, kV, doc, pm, an, cdv, ct, osl, rfl, lk, hcd⟩ := F.ex
  exact StX.fn_star lk hcd S StX.cxUp hb fun A outer s H vs Q E hr h => walk cdv A outer s H vs Q E hr h
theorem StarAt.ok (B : StarAt K x qual st f ps pv) (S : FnScope N (ps ++ [pv]) (defScope st))
    (walk : ∀ (cdv : Value) (A : Around) (outer : List Env) (s : Shared) (H : Hp) (vs : List V) (Q : VK) (E : XK), Room k (A.deeper (envOfC qual (defScope st) s.heap.objs.size f cdv)) → sp vs H Q E →
      ∃ t, PSs (cxOf CX0 P w K mg base N qual (defScope st) f cdv A outer s H E).nox (defBody st) t ∧ t { nx := fun _ H' => Q .non H', rt := Q } (start N vs) H) : FnR P w K mg base CX0 (k + 1) f (spStar ps.length sp) := by
  obtain ⟨fd, F, hb⟩ := B.ex
  obtain ⟨oc, od, kV, doc, pm, an, cdv, ct, osl, rfl, lk, hcd⟩ := F.ex
  refine StX.fn_star lk hcd S StX.cxUp_none hb fun A outer s H vs Q E hr h => ?_
  obtain ⟨t, a, b⟩ := walk cdv A outer s H vs Q E hr h
  exact ⟨t, a.nox, b⟩
end
/-! ### == by an own __eq__, inside lists and tuples -/
end U
namespace U
open PySem PySem.Spec PyProof.Rows L2 StX LamX
/-! ### defs with lambdas: the code object's place is told -/
structure CodeAt (K : PySem.W.Frag) (x qual : Str) (st : Stmt) (f c : Addr) (ps : List Str) : Prop where
  ex : ∃ (oc : Value) (od : Option Addr) (kV doc pm : Value) (an : Option Addr) (ct : Value) (osl : Array (Option Value)),
    K.lookup f = some ⟨oc, od, .func (PySem.W.fnOf x qual (defArgs st) (defBody st) (defScope st) .none kV doc pm an (.ref c) ct), osl⟩ ∧ PySem.W.codeIn K (.ref c) qual = true ∧ Binds K (PySem.W.fnOf x qual (defArgs st) (defBody st) (defScope st) .none kV doc pm an (.ref c) ct) ps []
section
variable {P : Program} {w : World} {K : PySem.W.Frag} {mg : Str → Option Value} {base : Heap} {k : Nat} {f c : Addr} {sp : Sp} {x qual : Str} {st : Stmt} {N ps : List Str}
theorem CodeAt.okG (B : CodeAt K x qual st f c ps) (S : FnScope N ps (defScope st)) (len : ∀ vs H Q E, sp vs H Q E → vs.length = ps.length)
    (walk : ∀ (A : Around) (outer : List Env) (s : Shared) (H : Hp) (vs : List V) (Q : VK) (E : XK), A.guards = some [] → Room k (A.deeper (envOfC qual (defScope st) s.heap.objs.size f (.ref c))) → sp vs H Q E →
      ∃ t, PSs (cxOf CX0 P w K mg base N qual (defScope st) f (.ref c) A outer s H E).nox (defBody st) t ∧ t { nx := fun _ H' => Q .non H', rt := Q } (start N vs) H) : FnG P w K mg base CX0 (k + 1) f sp := by
  obtain ⟨oc, od, kV, doc, pm, an, ct, osl, lk, hcd, bi⟩ := B.ex
  intro A outer s H us vs Q E g hr e0 r hs
  have hl := len _ _ _ _ hs
  have kin : K.In s.heap := e0.mod.kin.keeps fun b o e => (e0.bs b o e).1
  have lim : s.heap.NoLimit := e0.mod.nolimit.keeps fun b o e => (e0.bs b o e).1
  have names : ∀ y ∈ ps.zip us, (defScope st).names.lookup y.1 = some .local ∨ ((defScope st).names.lookup y.1 = some .cell ∧ ((cellsFrom (s.heap.objs.size + 1) (defScope st).names []).lookup y.1).isSome = true) := by
    rintro ⟨n, v⟩ hy
    rcases S.par n (List.of_mem_zip hy).1 with q | q
    · exact .inl q
    · exact .inr ⟨q, PySem.W.cellsFrom_some _ _ _ (.inl q)⟩
  have hb : BindsTo s (PySem.W.fnOf x qual (defArgs st) (defBody st) (defScope st) .none kV doc pm an (.ref c) ct) ⟨us, []⟩ (ps.zip us) := by
    have := bi s us kin (by rw [List.append_nil, ← r.length]; exact hl)
    rw [List.append_nil] at this
    exact this
  refine codeAny_call_function hr.depth (kin _ _ lk) rfl S.co S.gen rfl (PySem.W.codeRec_of kin hcd) (hb _ _ _ _ ?_)
  refine wpAny_newFunctionEnv_cells S.kind names fun env he s1 z => ?_
  subst he
  refine ⟨lim.keeps z.toInCall.keep, codeAny_func ?_⟩
  obtain ⟨t, ht, hq⟩ := walk A outer s H vs Q E g (hr.deeper _) hs
  have I : Inv (cxOf CX0 P w K mg base N qual (defScope st) f (.ref c) A outer s H E) [] (start N vs) H s1 := inv_start S hr.hd e0 hl r z
  refine wpAny_mono (ht.nox.run [] s1 (start N vs) H _ I hq) (fun fl s' h' => ?_) fun _ _ h' => h'
  match fl, h' with
  | .ret u, ⟨v, σ', H', J, rv, q⟩ => exact ⟨v, H', J.os, J.bare, J.base, J.hok, rv, q⟩
  | .next, ⟨σ', H', J, q⟩ => exact ⟨.non, H', J.os, J.bare, J.base, J.hok, rfl, q⟩
  | .brk, ⟨_, _, _, q⟩ => exact q.elim
  | .cont, ⟨_, _, _, q⟩ => exact q.elim
end
/-! ### the law's call, tables tracked -/
/-! ### what a lambda's caller makes of its exceptions -/
/-! ### heaps that grow but for the tables -/
end U
namespace U
open PySem PySem.Spec PyProof.Rows L2 StX LamX
section
variable {X : Cx} {CX : CXT} {k : Nat} {f C : Addr} {sp : Sp} {E : XK} {x : Str} {p pos : Pos} {e : Expr} {es : List Expr} {t : TA}
/-- x() -/
def tCall0 (sp : Sp) (E : XK) : TE := fun _ H Q => sp [] H Q E
theorem pe_call0R (F : FnR X.prog X.w X.K X.mg X.base CX k f sp) (hr : Room k X.A) (hk : PySem.W.keepIn X.K (.ref f) = true) (hg : Gl X x) (hm : X.mg x = some (.ref f)) (hx : Passes CX X E) (hdb : (x == ("__debug__" : Str)) = false := by decide) : PE X (.Call (.Name x p) [] [] pos) (tCall0 sp E) := by
  refine ⟨fun pins s σ H Q I h => ?_⟩
  refine wpAny_Call_Name_kw (ld_glob I hg hm ?_ hdb)
  exact PySem.W.callWith_K0 I.kIn hk (wpAny_call (run_fnR (us := []) F hr hx I .nil h))
end
end U
namespace U
open PySem PySem.Spec PyProof.Rows L2
/-! ### x not in a tuple, data of any depth -/
end U
namespace U
open PySem PySem.Spec PyProof.Rows L2
/-! ### dicts of ints in a list: in, not in, index -/
end U
namespace U
open PySem PySem.Spec PyProof.Rows L2 StX
end U
namespace U
open PySem PySem.Spec PyProof.Rows L2 StX NdefX
/-! ### a def of a class whose first statement is super().m(..) -/
/-- what is asked of the program around: the file of its code objects, super not hidden at the top -/
structure SupP (P : Program) (file : Str) : Prop where
  file : ((P.main.file : Str) == file) = true
  top : (P.main.scope.names.lookup ("super" : Str)).isSome = false
structure SupAt (K : PySem.W.Frag) (x qual : Str) (st : Stmt) (f c cc D : Addr) (ps : List Str) (file : Str) : Prop where
  ex : ∃ (oc : Value) (od : Option Addr) (kV doc pm : Value) (an : Option Addr) (ct : Value) (osl : Array (Option Value)),
    K.lookup f = some ⟨oc, od, .func (PySem.W.fnX x qual (defArgs st) (defBody st) (defScope st) [("__class__", cc)] .none kV doc pm an (.ref c) ct), osl⟩ ∧ PySem.W.codeIn K (.ref c) qual = true ∧ Binds K (PySem.W.fnX x qual (defArgs st) (defBody st) (defScope st) [("__class__", cc)] .none kV doc pm an (.ref c) ct) ps []
  code : ∃ (ccl : Value) (cdd : Option Addr) (vs : Array Value) (ccs : Array (Option Value)) (tf : Tok), K.lookup c = some ⟨ccl, cdd, .fields vs, ccs⟩ ∧ vs[2]? = some (.str file tf)
  cell : ∃ (cl : Value) (cld : Option Addr) (csl : Array (Option Value)), K.lookup cc = some ⟨cl, cld, .cell (some (.ref D)), csl⟩
  cls : ∃ cd, PySem.W.clsIn K D = some cd
  pos : ((defArgs st).posonlyargs ++ (defArgs st).args).head?.map (·.arg) = ps[0]?
  nosuper : PySem.W.nsIn K mainGlobals "super" = some none
  noop : PySem.W.nsIn K cStatics "thirdparty.any" = some none
  scS : (defScope st).names.lookup ("super" : Str) = some .globalImplicit
  scC : (defScope st).names.lookup ("__class__" : Str) = some .free
/-- the method that super().m finds, for an instance of the class at C -/
structure SupM (K : PySem.W.Frag) (C D : Addr) (m : Str) (f2 : Addr) : Prop where
  sub : PySem.W.mroIn K C (.ref D) = some true
  at_ : PySem.W.ks_superIn K C D m = some (some (.ref f2))
  ty : PySem.W.typeIn K (.ref f2) = some (.type "function")
  fi : PySem.W.fnIn K f2 = true
  cl : (m == ("__class__" : Str)) = false
section
variable {X : Cx} {pins : List (Addr × Obj)} {σ : L2.St} {H : Hp} {s : Shared} {C D dx x f2 : Addr} {fs : List (Str × V)} {m : Str}
/-- super().m(..) run within the def's own code -/
theorem run_super {CX : CXT} {k2 : Nat} {sp2 : Sp} {Q : VK} {E : XK} {t : TA} {body : List Stmt} {p0 p1 apos pos epos : Pos} {e : Expr} {qual : Str} {st : Stmt} {name : Str} {f c cc : Addr} {ps : List Str} {file s0 : Str}
    (B : SupAt X.K name qual st f c cc D ps file) (hP : SupP X.prog file) (M : SupM X.K C D m f2) (F : FnR X.prog X.w X.K X.mg X.base CX k2 f2 sp2) (hr : Room k2 X.A) (hx : Passes CX X E)
    (hsc : X.env.scope = defScope st) (hfu : X.env.func = some f) (hco : X.env.code = .ref c) (hcl : X.env.cells.lookup ("__class__" : Str) = some cc) (hps : ps[0]? = some s0) (hN : X.N[0]? = some s0) (hloc : X.env.scope.names.lookup s0 = some .local)
    (I : Inv X pins σ H s) (hv : σ[0]? = some (some (.ref x))) (ea : H x = some (.ins C dx fs)) (ha : PA X [e] t)
    (h : t σ H fun vs H1 => sp2 (.ref x :: vs) H1 Q E)
    (hint : interactive X.env = false) (hsw : swapsWith (.Call (.Attribute (.Call (.Name "super" p0) [] [] p1) m apos) [e] [] pos) none epos.line X.env = pure false)
    (hst : starEach [e] X.env = [(false, eval e X.env)]) (pl : Sem Bool)
    (he : eval (.Call (.Attribute (.Call (.Name "super" p0) [] [] p1) m apos) [e] [] pos) X.env = (do
      let ov ← attributeBase (.Call (.Name "super" p0) [] [] p1) m X.env (eval (.Call (.Name "super" p0) [] [] p1) X.env)
      standAt apos.atName
      let (f, first) ← holding [ov] (getMethod ov m pl)
      callWith pos f first (backTo pos (starEach [e] X.env)) [])) :
    PySem.wpAt (model X.prog X.w) X.A (.func body X.env) (exec (.Expr (.Call (.Attribute (.Call (.Name "super" p0) [] [] p1) m apos) [e] [] pos) epos) X.env)
      (fun fl s' => fl = .next ∧ ∃ v H2, Inv X pins σ H2 s' ∧ Q v H2) X.xe s := by
  obtain ⟨oc, od, kV, doc, pm, an, ct, osl, lk, hcd, bi⟩ := B.ex
  obtain ⟨ccl, cdd, vs2, ccs, tf, hcode, hvs⟩ := B.code
  obtain ⟨cl0, cld, csl, hcell⟩ := B.cell
  obtain ⟨cdD, hD⟩ := B.cls
  have KX := I.kIn
  obtain ⟨oD, hD1, hD2⟩ : ∃ oD, s.heap.get? D = some oD ∧ oD.data = .cls cdD := by
    unfold PySem.W.clsIn at hD
    split at hD
    · rename_i c d cd' sl ho
      cases hD
      exact ⟨_, KX _ _ ho, rfl⟩
    · cases hD
  obtain ⟨ar, har, har2⟩ : ∃ ar : Arg, ((defArgs st).posonlyargs ++ (defArgs st).args).head? = some ar ∧ ar.arg = s0 := by
    have := B.pos
    rw [hps] at this
    cases z : ((defArgs st).posonlyargs ++ (defArgs st).args).head? with
    | none => rw [z] at this; cases this
    | some ar => rw [z] at this; exact ⟨ar, rfl, Option.some.inj this⟩
  obtain ⟨mA, O, _, _, _, _⟩ := ins_get I.hok ea
  obtain ⟨odx, J, _⟩ := O.look
  refine PySem.ks_wpAt_Expr_any ?_ hint hsw
  refine PySem.ks_wpAt_MethodCall (pl := pl) ?_ he
  refine PySem.ks_wpAt_super_base (env := X.env) (fd := PySem.W.fnX name qual (defArgs st) (defBody st) (defScope st) [("__class__", cc)] .none kV doc pm an (.ref c) ct) (by show X.env.scope.names.lookup _ = _; rw [hsc]; exact B.scS) (by show X.env.scope.names.lookup _ = _; rw [hsc]; exact B.scC) M.cl hfu (KX _ _ lk) rfl (ar := ar) har hco (KX _ _ hcode) rfl hvs hP.file hP.top ?_
  have hgs : X.env.kindOf ("super" : Str) = some .globalImplicit := by show X.env.scope.names.lookup _ = _; rw [hsc]; exact B.scS
  refine PySem.W.ks_loadName_global I.ok.kind hgs ?_
  obtain ⟨mb, h1, h2⟩ := I.mod.blt
  refine Calls.loadGlobal_builtin (by rw [I.ok.glob]; exact I.mod.glob.keeps I.bk) (PySem.W.mg_none_of I.mod.kin I.mod.glob B.nosuper) (by rw [I.ok.blt]; exact h1.keeps I.bk) ((h2 "super" (by decide +kernel)).trans (by rfl)) ⟨rfl, ?_⟩
  refine wpAny_loadName_free I.ok.kind (by show X.env.scope.names.lookup _ = _; rw [hsc]; exact B.scC) hcl ⟨_, KX _ _ hcell, rfl⟩ ?_
  obtain ⟨mL, hns, hal⟩ := I.loc
  obtain ⟨u, ru, hlook⟩ := hal 0 s0 (.ref x) hN hv (Or.inl hloc)
  obtain rfl : u = Value.ref x := ru
  have hmL : mL s0 = some (.ref x) := by
    rcases hlook with ⟨_, z⟩ | ⟨z, _⟩
    · exact z
    · rcases z with z | z
      · rw [show X.env.kindOf s0 = some .local from hloc] at z; cases z
      · rw [show X.env.kindOf s0 = some .local from hloc] at z; cases z
  rw [har2]
  refine wpAny_loadName_local I.ok.kind hloc hns hmL ?_
  obtain ⟨hh, g, d, t0, os⟩ := s
  refine PySem.ks_wpAny_isType_cls hD1 hD2 ⟨rfl, ?_⟩
  refine PySem.ks_wpAny_call_super hD1 hD2 J.at_ J.cls (fun c e => ?_) (PySem.W.looks_mroIn KX M.sub) (fun h' ee kk => ?_)
  · have := J.no
    unfold PySem.W.notCls at this
    rw [e] at this
    exact Bool.noConfusion this
  -- the super object stands; its method
  have I2 : Inv X pins σ H ⟨h', g, d, t0, os⟩ := I.kept (t' := t0) kk
  have KX2 := I2.kIn
  cases hc : PySem.W.clsIn X.K C with
  | none => have := M.at_; unfold PySem.W.ks_superIn at this; rw [hc] at this; cases this
  | some cd =>
    have hm := M.at_
    unfold PySem.W.ks_superIn at hm
    rw [hc] at hm
    obtain ⟨of, hof, hofc⟩ : ∃ of, h'.get? f2 = some of ∧ of.cls = .type "function" := by
      have ht' : (X.K.lookup f2).map (·.cls) = some (.type "function") := M.ty
      cases z : X.K.lookup f2 with
      | none => rw [z] at ht'; cases ht'
      | some of => rw [z] at ht'; exact ⟨of, KX2 _ _ z, Option.some.inj ht'⟩
    refine PySem.ks_wpAny_getMethod_super ee (PySem.W.looks_opaque KX2 B.noop) (l₀ := cd.mro) ?_ rfl KX2 hm hof hofc (PySem.W.ks_ne KX J hc) M.cl ?_
    · exact fun A Q E s k q => wpAny_bind ((PySem.W.looks_clsIn KX2 hc) A _ E s k (wpAny_pure q))
    · have I3 : Inv X ((h'.objs.size, PySem.W.methodObj (.ref f2) (.ref x)) :: pins) σ H ⟨h'.push (PySem.W.methodObj (.ref f2) (.ref x)), g, d, t0 + 1, os⟩ := ClX.met_new I2
      refine ClX.callwith_cm I3 (ClX.base_none I2 (Nat.le_refl _)) M.fi (thn (ha.run pos _ _ σ H _ I3 h) fun us s3 ⟨vs, H2, I4, rv, q2⟩ => ⟨⟨ClX.pin_at I4, I4.kIn⟩, ?_⟩) hst rfl
      exact thn (ClX.run_cm F hr hx I4 rv q2) fun v s4 ⟨z, H3, I5, _, q3⟩ => ⟨rfl, z, H3, I5, q3⟩
end
/-- the def, by its first statement super().m(e) and the rest -/
theorem SupAt.okX {P : Program} {w : World} {K : PySem.W.Frag} {mg : Str → Option Value} {base : Heap} {CX : CXT} {k k2 : Nat} {name qual : Str} {st : Stmt} {f c cc D C f2 : Addr} {N ps : List Str} {file s0 m : Str} {sp sp2 : Sp} {p0 p1 apos pos epos : Pos} {e : Expr} {rest : List Stmt}
    (B : SupAt K name qual st f c cc D ps file) (hP : SupP P file) (M : SupM K C D m f2) (F : FnR P w K mg base CX k2 f2 sp2) (hk : k2 ≤ k)
    (S : NScope N ps ["__class__"] (defScope st)) (hps : ps[0]? = some s0) (hb : defBody st = .Expr (.Call (.Attribute (.Call (.Name "super" p0) [] [] p1) m apos) [e] [] pos) epos :: rest)
    (len : ∀ vs H Q E, sp vs H Q E → vs.length = ps.length)
    (walk : ∀ (A : Around) (outer : List Env) (s : Shared) (H : Hp) (vs : List V) (Q : VK) (E : XK) (X : Cx), X = ncx CX P w K mg base N ⟨name, qual, defArgs st, defBody st, defScope st, [("__class__", cc)], c⟩ f A outer s H E → Room k X.A → sp vs H Q E →
      Passes CX X E ∧ interactive X.env = false ∧ swapsWith (.Call (.Attribute (.Call (.Name "super" p0) [] [] p1) m apos) [e] [] pos) none epos.line X.env = pure false ∧ starEach [e] X.env = [(false, eval e X.env)] ∧
      (∃ pl : Sem Bool, eval (.Call (.Attribute (.Call (.Name "super" p0) [] [] p1) m apos) [e] [] pos) X.env = (do
        let ov ← attributeBase (.Call (.Name "super" p0) [] [] p1) m X.env (eval (.Call (.Name "super" p0) [] [] p1) X.env)
        standAt apos.atName
        let (f, first) ← holding [ov] (getMethod ov m pl)
        callWith pos f first (backTo pos (starEach [e] X.env)) [])) ∧
      ∃ (x dx : Addr) (fs : List (Str × V)) (t : TA), vs[0]? = some (.ref x) ∧ H x = some (.ins C dx fs) ∧ PA X [e] t ∧
        t (startF N vs [none]) H fun us H1 => sp2 (.ref x :: us) H1 (fun _ H2 => ∃ tt, PSs X rest tt ∧ tt { nx := fun _ H' => Q .non H', rt := Q } (startF N vs [none]) H2) E) :
    FnR P w K mg base CX (k + 1) f sp := by
  obtain ⟨oc, od, kV, doc, pm, an, ct, osl, lk, hcd, bi⟩ := B.ex
  intro A outer s H us vs Q E hr e0 r hs
  have hl := len _ _ _ _ hs
  have kin : K.In s.heap := e0.mod.kin.keeps fun b o e => (e0.bs b o e).1
  have lim : s.heap.NoLimit := e0.mod.nolimit.keeps fun b o e => (e0.bs b o e).1
  have hbn : BindsTo s (PySem.W.fnX name qual (defArgs st) (defBody st) (defScope st) [("__class__", cc)] .none kV doc pm an (.ref c) ct) ⟨us, []⟩ (ps.zip us) := by
    have := bi s us kin (by rw [List.append_nil, ← r.length]; exact hl)
    rw [List.append_nil] at this
    exact this
  refine codeAny_call_function hr.depth (kin _ _ lk) rfl S.co S.gen rfl (PySem.W.codeRec_of kin hcd) (hbn _ _ _ _ ?_)
  refine wpAny_newFunctionEnv S.nocell (fun ⟨n, _⟩ hy => S.par n (List.of_mem_zip hy).1) (fun h₁ hns hsb => ⟨lim.fresh _ hsb, ?_⟩) S.kind
  generalize hF : (⟨name, qual, defArgs st, defBody st, defScope st, [(("__class__" : Str), cc)], c⟩ : NF) = FF at walk
  have hFc : FF.cl = [(("__class__" : Str), cc)] := by rw [← hF]
  have hFs : FF.scope = defScope st := by rw [← hF]
  have hFb : FF.body = defBody st := by rw [← hF]
  have hFcc : FF.c = c := by rw [← hF]
  have henv : envF FF f s.heap.objs.size = PySem.W.envX qual (defScope st) s.heap.objs.size f (.ref c) [(("__class__" : Str), cc)] := by rw [← hF]
  have kp : ∀ b o, s.heap.get? b = some o → h₁.get? b = some o := fun b o e => hsb.extBut b o (Nat.ne_of_lt (Heap.lt_size e)) (Heap.get?_push_of_some _ e)
  obtain ⟨cl0, cld, csl, hcell⟩ := B.cell
  have CA : CellsAt FF.cl ["__class__"] [none] s.heap H := by
    rw [hFc]
    refine ⟨rfl, fun y a hy => ?_, fun a b a' h1 h2 => ?_, fun i y hi => ?_⟩
    · have : a = cc := by
        have hm := PySem.mem_of_lookup hy
        simp only [List.mem_singleton] at hm
        exact (Prod.mk.inj hm).2
      subst this
      exact ⟨(e0.bs _ _ (e0.mod.kin _ _ hcell)).2, _, _, kin _ _ hcell, rfl⟩
    · have m1 := PySem.mem_of_lookup h1
      have m2 := PySem.mem_of_lookup h2
      simp only [List.mem_singleton] at m1 m2
      rw [(Prod.mk.inj m1).1, (Prod.mk.inj m2).1]
    · match i, hi with
      | 0, hi =>
        cases hi
        exact ⟨cc, by simp [List.lookup], fun v hv => by cases hv⟩
      | i + 1, hi => simp at hi
  have I : Inv (ncx CX P w K mg base N FF f A outer s H E) [] (startF N vs [none]) H { s with heap := h₁, toks := s.toks + (ps.zip us).length } := inv_startN (by rw [hFs]; exact S) hr.hd e0 hl r CA hns kp
  obtain ⟨hx, hint, hsw, hst, ⟨pl, he⟩, x, dx, fs, t, hv0, ea, ha, hq⟩ := walk A outer s H vs Q E _ rfl (hr.deeper _) hs
  show codeAny _ _ (.func (defBody st) (PySem.W.envX qual (defScope st) s.heap.objs.size f (.ref c) [(("__class__" : Str), cc)])) _ _
  rw [← henv]
  refine PySem.ks_codeAny_funcAt ?_
  rw [hb]
  refine PySem.ks_wpAt_execs_cons ?_
  have hps0 : ps.length ≠ 0 := by
    intro z
    cases ps with
    | nil => cases hps
    | cons a b => cases z
  have hv : (startF N vs [none])[0]? = some (some (.ref x)) := by
    unfold startF
    rw [List.getElem?_append_left (by rw [List.length_map]; omega), List.getElem?_map, hv0]
    rfl
  have hN0 : N[0]? = some s0 := by
    have : (ps ++ [("__class__" : Str)])[0]? = some s0 := by rw [List.getElem?_append_left (by omega)]; exact hps
    rw [← S.pre, List.getElem?_take_of_lt (by simp)] at this
    exact this
  have hloc0 : (defScope st).names.lookup s0 = some .local := S.par s0 (List.mem_of_getElem? hps)
  refine PySem.ks_wpAt_mono (run_super (X := ncx CX P w K mg base N FF f A outer s H E) (body := _) B hP M F ((hr.deeper _).mono hk) hx hFs rfl (by show Value.ref FF.c = _; rw [hFcc]) (by show FF.cl.lookup _ = _; rw [hFc]; simp [List.lookup]) hps hN0 (by show FF.scope.names.lookup s0 = _; rw [hFs]; exact hloc0) I hv ea ha hq hint hsw hst pl he) (fun fl s' hh => ?_) fun e s' hh => hh
  obtain ⟨rfl, _, H2, I2, tt, htt, hqq⟩ := hh
  refine wpAt_of_wpAny ?_
  have fin : ∀ {σ' : L2.St} {H' : Hp} {v : V} {u : Value} {s' : Shared}, Inv (ncx CX P w K mg base N FF f A outer s H E) [] σ' H' s' → L2.RelV v u → Q v H' → CE outer P w H s Q u s' :=
    fun {σ' H' v u s'} J rv q => ⟨v, H', J.os, J.bare, J.base, J.hok, rv, q⟩
  refine wpAny_mono (htt.run [] _ (startF N vs [none]) H2 _ I2 hqq) (fun fl s' hs => ?_) fun e s' hs => hs
  cases fl with
  | ret u =>
    obtain ⟨v, σ', H', J, rv, q⟩ := hs
    exact fin J rv q
  | next =>
    obtain ⟨σ', H', J, q⟩ := hs
    exact fin (v := V.non) (u := Value.none) J rfl q
  | brk =>
    obtain ⟨_, _, _, q⟩ := hs
    exact False.elim q
  | cont =>
    obtain ⟨_, _, _, q⟩ := hs
    exact False.elim q
end U
namespace U
open PySem PySem.Spec PyProof.Rows L2 StX
/-! ### {o!r}, o an instance with its own __repr__ -/
end U
namespace U
open PySem PySem.Spec PyProof.Rows L2 GQ PySem.SeqAt MeetsSeq MeetsSeq2 MeetsSeq3 SeqRoads2
open AutoSeq1 (wpAny_loadPart')
/-! ### == of lists and tuples, with either result -/
/-- D x y H c: == of the two gives c -/
abbrev EqvB := V → V → Hp → Bool → Prop
def MonB (D : EqvB) : Prop := ∀ x y H H' c, Ext H H' → D x y H c → D x y H' c
def EqH (X : Cx) (n : Nat) (D : EqvB) : Prop :=
  ∀ (A : Around) (pins : List (Addr × Obj)) (s : Shared) (σ : L2.St) (H : Hp) (x y : V) (u v : Value) (c : Bool), Sub X n A → Inv X pins σ H s → RelV x u → RelV y v → D x y H c →
    wpAny (model X.prog X.w) A (eqBool u v) (fun r s' => r = c ∧ ∃ H', Inv X pins σ H' s' ∧ Ext H H') X.xe s
section
variable {X : Cx} {n m : Nat} {D D' : EqvB}
theorem EqH.mono (h : EqH X n D) (hn : n ≤ m) : EqH X m D := fun A pins s σ H x y u v c sb => h A pins s σ H x y u v c (sb.mono hn)
theorem EqH.or (h : EqH X n D) (h' : EqH X n D') : EqH X n (fun x y H c => D x y H c ∨ D' x y H c) := fun A pins s σ H x y u v c sb I rx ry d => by
  rcases d with d | d
  · exact h A pins s σ H x y u v c sb I rx ry d
  · exact h' A pins s σ H x y u v c sb I rx ry d
theorem MonB.or (h : MonB D) (h' : MonB D') : MonB (fun x y H c => D x y H c ∨ D' x y H c) := fun x y H H' c e d => d.elim (fun d => .inl (h x y H H' c e d)) fun d => .inr (h' x y H H' c e d)
end
end U
namespace PySem.W
open PySem PySem.Calls PyProof.Rows
end PySem.W
namespace U
open PySem PySem.Spec PyProof.Rows L2 StX
end U
namespace U
open PySem PySem.Spec PyProof.Rows L2 StX
/-! ### C(*xs) -/
def tMakeS1 (K : PySem.W.Frag) (C : Addr) (sp : Sp) (E : XK) (te : TE) : TE := fun σ H Q => te σ H fun y H1 => ∃ a xs, y = V.ref a ∧ (SqT K H1 a xs ∨ SqL K H1 a xs) ∧ ∀ x dx, H1 x = Option.none → H1 dx = Option.none → dx ≠ x →
  sp (V.ref x :: xs) (upd (upd H1 dx (.own x)) x (.ins C dx [])) (fun v H2 => v = .non ∧ Q (.ref x) H2) E
theorem pe_makeS1 {X : Cx} {CX : CXT} {k : Nat} {f C : Addr} {sp : Sp} {E : XK} {x : Str} {e : Expr} {te : TE} {p sp_ pos : PySem.Pos} (M : Mk X.K C f) (F : FnR X.prog X.w X.K X.mg X.base CX k f sp) (hr : Room (k + 1) X.A) (hg : Gl X x) (hm : X.mg x = some (.ref C)) (hx : Passes CX X E) (he : PE X e te) (hd : (x == ("__debug__" : Str)) = false := by decide)
    (hst : starEach [.Starred e sp_] X.env = [(true, eval e X.env)] := by rfl) : PE X (.Call (.Name x p) [.Starred e sp_] [] pos) (tMakeS1 X.K C sp E te) := by
  refine ⟨fun pins s σ H Q I h => ?_⟩
  refine wpAny_Call_Name_kw (ld_glob I hg hm ?_ hd)
  refine PySem.W.callWith_S (h₀ := X.base) I.ok.mod.kin M.kp (thn (he.run pins s σ H _ I h) fun v s1 ⟨y, H1, I1, ry, a, xs, ey, hxs, q⟩ => ?_) hst
  subst ey
  obtain rfl : v = Value.ref a := ry
  exact star_any I1 hxs fun us s2 I2 rv => ⟨I2.kIn, run_makeR M F hr hx I2 rv q⟩
end U
namespace PM
open U
/-! ### one-to-one maps between parts of 0 .. n - 1 -/
abbrev PF := Int → Option Int
structure WF (n : Int) (f : PF) : Prop where
  dom : ∀ x y, f x = some y → 0 ≤ x ∧ x < n ∧ 0 ≤ y ∧ y < n
  inj : ∀ x x' y, f x = some y → f x' = some y → x = x'
def tabN (f : PF) (n : Nat) : List (Int × Int) := (List.range n).filterMap fun (i : Nat) => (f (i : Int)).map fun y => ((i : Int), y)
def tab (n : Int) (f : PF) : List (Int × Int) := tabN f n.toNat
theorem mem_tabN {f : PF} {n : Nat} {x y : Int} : (x, y) ∈ tabN f n ↔ f x = some y ∧ ∃ i : Nat, i < n ∧ x = (i : Int) := by
  unfold tabN
  rw [List.mem_filterMap]
  constructor
  · rintro ⟨i, hi, e⟩
    rw [List.mem_range] at hi
    cases h : f (i : Int) with
    | none => rw [h] at e; cases e
    | some z => rw [h] at e; cases e; exact ⟨h, i, hi, rfl⟩
  · rintro ⟨h, i, hi, rfl⟩
    exact ⟨i, List.mem_range.mpr hi, by rw [h]; rfl⟩
theorem mem_tab {n : Int} {f : PF} (w : WF n f) {x y : Int} : (x, y) ∈ tab n f ↔ f x = some y := by
  unfold tab
  rw [mem_tabN]
  constructor
  · exact fun h => h.1
  · intro h
    have := w.dom x y h
    exact ⟨h, x.toNat, by omega, by omega⟩
theorem keys_tabN (f : PF) (n : Nat) : ((tabN f n).map (·.1)).Nodup := by
  induction n with
  | zero => exact List.nodup_nil
  | succ n ih =>
    have e : tabN f (n + 1) = tabN f n ++ ((f (n : Int)).map fun y => ((n : Int), y)).toList := by
      unfold tabN
      rw [List.range_succ, List.filterMap_append]
      cases h : f (n : Int) <;> simp [h]
    rw [e, List.map_append, List.nodup_append]
    refine ⟨ih, ?_, ?_⟩
    · cases f (n : Int) <;> simp
    · intro a ha b hb e
      subst e
      obtain ⟨p, hp, rfl⟩ := List.mem_map.mp ha
      obtain ⟨x, y⟩ := p
      obtain ⟨_, i, hi, ex⟩ := mem_tabN.mp hp
      cases h : f (n : Int) with
      | none => rw [h] at hb; simp at hb
      | some z =>
        rw [h] at hb
        simp at hb
        omega
theorem keys_tab (n : Int) (f : PF) : ((tab n f).map (·.1)).Nodup := keys_tabN f _
theorem lk_tab {n : Int} {f : PF} (w : WF n f) (x : Int) : lk (tab n f) x = f x := by
  cases h : f x with
  | some y => exact lk_some (keys_tab n f) ((mem_tab w).mpr h)
  | none =>
    cases e : lk (tab n f) x with
    | none => rfl
    | some y =>
      have := (mem_tab w).mp (lk_mem e)
      rw [h] at this; cases this
theorem tab_len (n : Int) (f : PF) : (tab n f).length ≤ n.toNat := by
  unfold tab tabN
  exact Nat.le_trans (List.length_filterMap_le _ _) (by simp)
theorem vals_tab {n : Int} {f : PF} (w : WF n f) : ((tab n f).map (·.2)).Nodup := by
  have k := keys_tab n f
  have key : ∀ l : List (Int × Int), (∀ p ∈ l, f p.1 = some p.2) → (l.map (·.1)).Nodup → (l.map (·.2)).Nodup := by
    intro l
    induction l with
    | nil => intro _ _; exact List.nodup_nil
    | cons p r ih =>
      intro h nd
      rw [List.map_cons, List.nodup_cons] at nd ⊢
      refine ⟨fun hm => ?_, ih (fun q hq => h q (List.mem_cons_of_mem _ hq)) nd.2⟩
      obtain ⟨q, hq, e⟩ := List.mem_map.mp hm
      have h1 := h p List.mem_cons_self
      have h2 := h q (List.mem_cons_of_mem _ hq)
      rw [e] at h2
      have := w.inj _ _ _ h1 h2
      exact nd.1 (by rw [this]; exact List.mem_map.mpr ⟨q, hq, rfl⟩)
  exact key _ (fun p hp => (mem_tab w).mp hp) k
/-! ### the operations -/
def idn (n : Int) : PF := fun x => if 0 ≤ x ∧ x < n then some x else none
def emp : PF := fun _ => none
def subf (f g : PF) : PF := fun x => if f x = g x then none else f x
def inv (n : Int) (f : PF) : PF := fun y => ((tab n f).find? fun p => decide (p.2 = y)).map (·.1)
def le (f g : PF) : Prop := ∀ x y, f x = some y → g x = some y
theorem wf_le {n : Int} {f g : PF} (wg : WF n g) (h : le f g) : WF n f := ⟨fun x y e => wg.dom x y (h x y e), fun x x' y e e' => wg.inj _ _ _ (h _ _ e) (h _ _ e')⟩
theorem le_sub (f g : PF) : le (subf f g) f := by
  intro x y h
  unfold subf at h
  split at h
  · cases h
  · exact h
theorem wf_sub {n : Int} {f g : PF} (wf : WF n f) : WF n (subf f g) := wf_le wf (le_sub f g)
theorem inv_iff {n : Int} {f : PF} (w : WF n f) {x y : Int} : inv n f y = some x ↔ f x = some y := by
  unfold inv
  constructor
  · intro h
    cases e : (tab n f).find? (fun p => decide (p.2 = y)) with
    | none => rw [e] at h; cases h
    | some p =>
      rw [e] at h
      obtain ⟨a, b⟩ := p
      have h1 := List.find?_some e
      simp only [decide_eq_true_eq] at h1
      have h2 : a = x := Option.some.inj h
      subst h1 h2
      exact (mem_tab w).mp (List.mem_of_find?_eq_some e)
  · intro h
    have hm := (mem_tab w).mpr h
    cases e : (tab n f).find? (fun p => decide (p.2 = y)) with
    | none =>
      have := List.find?_eq_none.mp e _ hm
      simp at this
    | some p =>
      obtain ⟨a, b⟩ := p
      have h1 := List.find?_some e
      simp only [decide_eq_true_eq] at h1
      subst h1
      have h3 := (mem_tab w).mp (List.mem_of_find?_eq_some e)
      show some a = some x
      rw [w.inj _ _ _ h3 h]
theorem wf_inv {n : Int} {f : PF} (w : WF n f) : WF n (inv n f) := by
  refine ⟨fun y x h => ?_, fun y y' x h h' => ?_⟩
  · have := w.dom x y ((inv_iff w).mp h)
    omega
  · have h1 := (inv_iff w).mp h
    have h2 := (inv_iff w).mp h'
    rw [h1] at h2
    exact Option.some.inj h2
/-- a dict of pairs tells f -/
structure DI (l : List (Int × Int)) (f : PF) : Prop where
  nd : (l.map (·.1)).Nodup
  at_ : ∀ x, lk l x = f x
theorem DI.mem {l : List (Int × Int)} {f : PF} (d : DI l f) {x y : Int} : (x, y) ∈ l ↔ f x = some y := by
  rw [← d.at_]
  exact ⟨lk_some d.nd, lk_mem⟩
theorem di_tab {n : Int} {f : PF} (w : WF n f) : DI (tab n f) f := ⟨keys_tab n f, lk_tab w⟩
theorem DI.vals {n : Int} {l : List (Int × Int)} {f : PF} (d : DI l f) (w : WF n f) : (l.map (·.2)).Nodup := by
  obtain ⟨nd, _⟩ := id d
  have key : ∀ r : List (Int × Int), (∀ p ∈ r, f p.1 = some p.2) → (r.map (·.1)).Nodup → (r.map (·.2)).Nodup := by
    intro r
    induction r with
    | nil => intro _ _; exact List.nodup_nil
    | cons p r ih =>
      intro h nd
      rw [List.map_cons, List.nodup_cons] at nd ⊢
      refine ⟨fun hm => ?_, ih (fun q hq => h q (List.mem_cons_of_mem _ hq)) nd.2⟩
      obtain ⟨q, hq, e⟩ := List.mem_map.mp hm
      have h1 := h p List.mem_cons_self
      have h2 := h q (List.mem_cons_of_mem _ hq)
      rw [e] at h2
      have := w.inj _ _ _ h1 h2
      exact nd.1 (by rw [this]; exact List.mem_map.mpr ⟨q, hq, rfl⟩)
  exact key l (fun p hp => d.mem.mp hp) nd
theorem di_of {l : List (Int × Int)} {f : PF} (nd : (l.map (·.1)).Nodup) (h : ∀ x y, (x, y) ∈ l ↔ f x = some y) : DI l f := by
  refine ⟨nd, fun x => ?_⟩
  cases e : f x with
  | some y => exact lk_some nd ((h x y).mpr e)
  | none =>
    cases e2 : lk l x with
    | none => rfl
    | some y =>
      have := (h x y).mp (lk_mem e2)
      rw [e] at this; cases this
end PM
namespace PM
open U
/-! ### powers -/
def iter (f : PF) : Nat → PF
  | 0 => fun x => some x
  | k + 1 => fun x => (iter f k x).bind f
structure Row (f : PF) (e : Int) (r : List Int) : Prop where
  h0 : r[0]? = some e
  st : ∀ (i : Nat) (a b : Int), r[i]? = some a → r[i + 1]? = some b → f a = some b ∧ b ≠ e
theorem Row.ne {f : PF} {e : Int} {r : List Int} (w : ∀ x x' y, f x = some y → f x' = some y → x = x') (R : Row f e r) : ∀ (i k : Nat) (a : Int), r[i]? = some a → r[i + k + 1]? = some a → False
  | 0, k, a, h1, h2 => by
    rw [R.h0] at h1
    cases h1
    have hk : ∃ b, r[k]? = some b := by
      have : 0 + k + 1 < r.length := (List.getElem?_eq_some_iff.mp h2).1
      exact ⟨_, List.getElem?_eq_getElem (by omega)⟩
    obtain ⟨b, hb⟩ := hk
    have := R.st k b e hb (by rw [Nat.zero_add] at h2; exact h2)
    exact this.2 rfl
  | i + 1, k, a, h1, h2 => by
    have l1 : i + 1 < r.length := (List.getElem?_eq_some_iff.mp h1).1
    have l2 : i + 1 + k + 1 < r.length := (List.getElem?_eq_some_iff.mp h2).1
    obtain ⟨b, hb⟩ : ∃ b, r[i]? = some b := ⟨_, List.getElem?_eq_getElem (by omega)⟩
    obtain ⟨c, hc⟩ : ∃ c, r[i + k + 1]? = some c := ⟨_, List.getElem?_eq_getElem (by omega)⟩
    have e1 := (R.st i b a hb h1).1
    have h2' : r[i + k + 1 + 1]? = some a := by rw [show i + k + 1 + 1 = i + 1 + k + 1 by omega]; exact h2
    have e2 := (R.st (i + k + 1) c a hc h2').1
    have : b = c := w _ _ _ e1 e2
    subst this
    exact Row.ne w R i k b hb hc
theorem nodup_of_get {l : List Int} (h : ∀ (i k : Nat) (a : Int), l[i]? = some a → l[i + k + 1]? = some a → False) : l.Nodup := by
  induction l with
  | nil => exact List.nodup_nil
  | cons x r ih =>
    rw [List.nodup_cons]
    refine ⟨fun hm => ?_, ih fun i k a h1 h2 => ?_⟩
    · obtain ⟨j, hj⟩ := List.mem_iff_getElem?.mp hm
      exact h 0 j x rfl (by rw [Nat.zero_add]; exact hj)
    · refine h (i + 1) k a h1 ?_
      rw [show i + 1 + k + 1 = (i + k + 1) + 1 by omega]
      exact h2
theorem Row.nd {n : Int} {f : PF} {e : Int} {r : List Int} (w : WF n f) (R : Row f e r) : r.Nodup := nodup_of_get (R.ne w.inj)
theorem Row.dom {n : Int} {f : PF} {e : Int} {r : List Int} (w : WF n f) (R : Row f e r) (h1 : 0 ≤ e) (h2 : e < n) : ∀ x ∈ r, 0 ≤ x ∧ x < n := by
  intro x hx
  obtain ⟨i, hi⟩ := List.mem_iff_getElem?.mp hx
  cases i with
  | zero => rw [R.h0] at hi; cases hi; exact ⟨h1, h2⟩
  | succ i =>
    have l1 : i + 1 < r.length := (List.getElem?_eq_some_iff.mp hi).1
    obtain ⟨b, hb⟩ : ∃ b, r[i]? = some b := ⟨_, List.getElem?_eq_getElem (by omega)⟩
    have := w.dom _ _ (R.st i b x hb hi).1
    omega
theorem len_range {l : List Int} {n : Int} (nd : l.Nodup) (h : ∀ x ∈ l, 0 ≤ x ∧ x < n) : l.length ≤ n.toNat := by
  have : l.length ≤ ((List.range n.toNat).map fun (i : Nat) => (i : Int)).length := List.Nodup.length_le_of_subset nd (by
    intro x hx
    have := h x hx
    exact List.mem_map.mpr ⟨x.toNat, List.mem_range.mpr (by omega), Int.toNat_of_nonneg this.1⟩)
  simpa using this
theorem Row.more {f : PF} {e : Int} {pre : List Int} {z y : Int} (R : Row f e (pre ++ [z])) (h : f z = some y) (ne : y ≠ e) : Row f e (pre ++ [z] ++ [y]) := by
  refine ⟨?_, fun i a b h1 h2 => ?_⟩
  · rw [List.getElem?_append_left (by simp)]
    exact R.h0
  · by_cases hi : i + 1 < (pre ++ [z]).length
    · rw [List.getElem?_append_left hi] at h2
      rw [List.getElem?_append_left (by omega)] at h1
      exact R.st i a b h1 h2
    · have l2 : i + 1 < (pre ++ [z] ++ [y]).length := (List.getElem?_eq_some_iff.mp h2).1
      have e1 : i = pre.length := by simp at hi l2; omega
      subst e1
      rw [List.getElem?_append_left (by simp)] at h1
      have z1 : (pre ++ [z])[pre.length]? = some z := by simp
      rw [z1] at h1
      cases h1
      have z2 : (pre ++ [z] ++ [y])[pre.length + 1]? = some y := by simp
      rw [z2] at h2
      cases h2
      exact ⟨h, ne⟩
end PM
namespace PM
open U
/-! ### the rules of the operators -/
theorem pf_ext {f g : PF} (h : ∀ x y, f x = some y ↔ g x = some y) : f = g := by
  funext x
  cases e : f x with
  | some y => exact ((h x y).mp e).symm
  | none =>
    cases e2 : g x with
    | none => rfl
    | some y => rw [(h x y).mpr e2] at e; cases e
/-! ### parts -/
/-! ### powers -/
end PM
namespace PM
open U
/-! ### rows told by their first element -/
def IsRow (f : PF) (e : Int) (r : List Int) : Prop := ∃ pre z, r = pre ++ [z] ∧ Row f e r ∧ (f z = none ∨ f z = some e)
theorem IsRow.get {f : PF} {e : Int} {r r' : List Int} (h : IsRow f e r) (h' : IsRow f e r') : ∀ (i : Nat) (a : Int), r[i]? = some a → r'[i]? = some a
  | 0, a, e1 => by
    obtain ⟨_, _, _, R, _⟩ := h
    obtain ⟨_, _, _, R', _⟩ := h'
    rw [R.h0] at e1
    rw [R'.h0]
    exact e1
  | i + 1, a, e1 => by
    have ih := IsRow.get h h' i
    obtain ⟨_, _, _, R, _⟩ := h
    obtain ⟨pre', z', q', R', st'⟩ := h'
    have l1 : i + 1 < r.length := (List.getElem?_eq_some_iff.mp e1).1
    obtain ⟨b, hb⟩ : ∃ b, r[i]? = some b := ⟨_, List.getElem?_eq_getElem (by omega)⟩
    obtain ⟨f1, ne⟩ := R.st i b a hb e1
    have hb' := ih b hb
    cases e2 : r'[i + 1]? with
    | some c =>
      have := (R'.st i b c hb' e2).1
      rw [f1] at this
      exact this.symm
    | none =>
      exfalso
      have l2 : i < r'.length := (List.getElem?_eq_some_iff.mp hb').1
      have l3 := List.getElem?_eq_none_iff.mp e2
      subst q'
      rw [List.length_append, List.length_singleton] at l2 l3
      have ei : i = pre'.length := by omega
      subst ei
      have : (pre' ++ [z'])[pre'.length]? = some z' := by simp
      rw [this] at hb'
      cases hb'
      rcases st' with q | q
      · rw [f1] at q; cases q
      · rw [f1] at q; exact ne (Option.some.inj q)
open Classical in
noncomputable def rowN (f : PF) (e : Int) : List Int := if h : ∃ r, IsRow f e r then h.choose else []
theorem IsRow.head {f : PF} {e : Int} {r : List Int} (h : IsRow f e r) : r[0]? = some e := by
  obtain ⟨_, _, _, R, _⟩ := h
  exact R.h0
theorem IsRow.mem {f : PF} {e : Int} {r : List Int} (h : IsRow f e r) : e ∈ r := List.mem_of_getElem? h.head
theorem IsRow.dom {n : Int} {f : PF} {e : Int} {r : List Int} (w : WF n f) (h : IsRow f e r) (h1 : 0 ≤ e) (h2 : e < n) : ∀ x ∈ r, 0 ≤ x ∧ x < n := by
  obtain ⟨_, _, _, R, _⟩ := h
  exact R.dom w h1 h2
theorem IsRow.nd {n : Int} {f : PF} {e : Int} {r : List Int} (w : WF n f) (h : IsRow f e r) : r.Nodup := by
  obtain ⟨_, _, _, R, _⟩ := h
  exact R.nd w
/-! ### which rows are begun -/
noncomputable def seenL (f : PF) (s : List Int) : List Int := (s.map (rowN f)).flatten
theorem mem_seenL {f : PF} {s : List Int} {x : Int} : x ∈ seenL f s ↔ ∃ e ∈ s, x ∈ rowN f e := by
  unfold seenL
  rw [List.mem_flatten]
  constructor
  · rintro ⟨r, hr, hx⟩
    obtain ⟨e, he, rfl⟩ := List.mem_map.mp hr
    exact ⟨e, he, hx⟩
  · rintro ⟨e, he, hx⟩
    exact ⟨_, List.mem_map.mpr ⟨e, he, rfl⟩, hx⟩
/-! ### closed rows -/
/-! ### all parts -/
/-! ### ordered by the first elements -/
end PM
namespace PM
open U
/-! ### powers by the law's own way; great exponents -/
theorem inv_inv' {n : Int} {f : PF} (w : WF n f) : inv n (inv n f) = f := by
  refine pf_ext fun x y => ?_
  rw [inv_iff (wf_inv w), inv_iff w]
def pk (n : Int) (f : PF) : Nat → PF
  | 0 => idn n
  | k + 1 => iter f (k + 1)
end PM
namespace PM
open U
/-! ### where powers repeat -/
end PM
namespace My
open PySem L2
def top (i : Nat) : Stmt := PySem.Challenge.pw_chainmaps_k55_reached_elements_and_orbit.main.body.getD i (.Pass ⟨0, 0, 0, 0⟩)
abbrev s_is_integer : Stmt := top 14
abbrev n_is_integer : List Str := ["value"]
theorem sc_is_integer : FnScope n_is_integer ["value"] (defScope s_is_integer) := ⟨rfl, rfl, rfl, by decide +kernel, rfl, by decide +kernel, by decide +kernel⟩
abbrev s_in_range : Stmt := top 15
abbrev n_in_range : List Str := ["value", "least", "most"]
theorem sc_in_range : FnScope n_in_range ["value", "least", "most"] (defScope s_in_range) := ⟨rfl, rfl, rfl, by decide +kernel, rfl, by decide +kernel, by decide +kernel⟩
abbrev s_check_elements : Stmt := top 17
abbrev n_check_elements : List Str := ["size", "points", "seen", "element"]
theorem sc_check_elements : FnScope n_check_elements ["size", "points"] (defScope s_check_elements) := ⟨rfl, rfl, rfl, by decide +kernel, rfl, by decide +kernel, by decide +kernel⟩
abbrev s_are_arrows : Stmt := top 18
abbrev n_are_arrows : List Str := ["size", "arrows", "targets", "source", "target"]
theorem sc_are_arrows : FnScope n_are_arrows ["size", "arrows"] (defScope s_are_arrows) := ⟨rfl, rfl, rfl, by decide +kernel, rfl, by decide +kernel, by decide +kernel⟩
abbrev s_common_size : Stmt := top 19
abbrev n_common_size : List Str := ["one", "other"]
theorem sc_common_size : FnScope n_common_size ["one", "other"] (defScope s_common_size) := ⟨rfl, rfl, rfl, by decide +kernel, rfl, by decide +kernel, by decide +kernel⟩
abbrev s_check_map : Stmt := top 25
abbrev n_check_map : List Str := ["value"]
theorem sc_check_map : FnScope n_check_map ["value"] (defScope s_check_map) := ⟨rfl, rfl, rfl, by decide +kernel, rfl, by decide +kernel, by decide +kernel⟩
abbrev s_check_all : Stmt := top 27
abbrev n_check_all : List Str := ["maps", "given"]
theorem sc_check_all : FnScope n_check_all ["maps"] (defScope s_check_all) := ⟨rfl, rfl, rfl, by decide +kernel, rfl, by decide +kernel, by decide +kernel⟩
abbrev s_check_many : Stmt := top 31
abbrev n_check_many : List Str := ["number"]
theorem sc_check_many : FnScope n_check_many ["number"] (defScope s_check_many) := ⟨rfl, rfl, rfl, by decide +kernel, rfl, by decide +kernel, by decide +kernel⟩
abbrev s_Map__init : Stmt := inClass (top 22) 0
abbrev n_Map__init : List Str := ["self", "size", "arrows", "source"]
theorem sc_Map__init : FnScope n_Map__init ["self", "size", "arrows"] (defScope s_Map__init) := ⟨rfl, rfl, rfl, by decide +kernel, rfl, by decide +kernel, by decide +kernel⟩
abbrev s_Map_size : Stmt := inClass (top 22) 6
abbrev n_Map_size : List Str := ["self"]
theorem sc_Map_size : FnScope n_Map_size ["self"] (defScope s_Map_size) := ⟨rfl, rfl, rfl, by decide +kernel, rfl, by decide +kernel, by decide +kernel⟩
abbrev s_Map_arrows : Stmt := inClass (top 22) 7
abbrev n_Map_arrows : List Str := ["self"]
theorem sc_Map_arrows : FnScope n_Map_arrows ["self"] (defScope s_Map_arrows) := ⟨rfl, rfl, rfl, by decide +kernel, rfl, by decide +kernel, by decide +kernel⟩
abbrev s_Map__invert : Stmt := inClass (top 22) 9
abbrev n_Map__invert : List Str := ["self", "source", "target"]
theorem sc_Map__invert : FnScope n_Map__invert ["self"] (defScope s_Map__invert) := ⟨rfl, rfl, rfl, by decide +kernel, rfl, by decide +kernel, by decide +kernel⟩
abbrev s_Family__init : Stmt := inClass (top 32) 1
abbrev n_Family__init : List Str := ["self", "maps"]
theorem sc_Family__init : FnScope n_Family__init ["self", "maps"] (defScope s_Family__init) := ⟨rfl, rfl, rfl, by decide +kernel, rfl, by decide +kernel, by decide +kernel⟩
abbrev s_Family_maps : Stmt := inClass (top 32) 2
abbrev n_Family_maps : List Str := ["self"]
theorem sc_Family_maps : FnScope n_Family_maps ["self"] (defScope s_Family_maps) := ⟨rfl, rfl, rfl, by decide +kernel, rfl, by decide +kernel, by decide +kernel⟩
abbrev s_Family_size : Stmt := inClass (top 32) 3
abbrev n_Family_size : List Str := ["self"]
theorem sc_Family_size : FnScope n_Family_size ["self"] (defScope s_Family_size) := ⟨rfl, rfl, rfl, by decide +kernel, rfl, by decide +kernel, by decide +kernel⟩
abbrev s_Family__add : Stmt := inClass (top 32) 5
abbrev n_Family__add : List Str := ["self", "other"]
theorem sc_Family__add : FnScope n_Family__add ["self", "other"] (defScope s_Family__add) := ⟨rfl, rfl, rfl, by decide +kernel, rfl, by decide +kernel, by decide +kernel⟩
abbrev s_made : Stmt := top 33
abbrev n_made : List Str := ["maps"]
theorem sc_made : FnScope n_made ["maps"] (defScope s_made) := ⟨rfl, rfl, rfl, by decide +kernel, rfl, by decide +kernel, by decide +kernel⟩
abbrev s_check_family : Stmt := top 35
abbrev n_check_family : List Str := ["family"]
theorem sc_check_family : FnScope n_check_family ["family"] (defScope s_check_family) := ⟨rfl, rfl, rfl, by decide +kernel, rfl, by decide +kernel, by decide +kernel⟩
abbrev s_first_words : Stmt := top 36
abbrev n_first_words : List Str := ["tables", "start", "words", "waiting", "place", "index", "table"]
theorem sc_first_words : FnScope n_first_words ["tables", "start"] (defScope s_first_words) := ⟨rfl, rfl, rfl, by decide +kernel, rfl, by decide +kernel, by decide +kernel⟩
abbrev s_reached : Stmt := top 37
abbrev n_reached : List Str := ["family", "element", "words", "one", "place"]
theorem sc_reached : FnScope n_reached ["family", "element"] (defScope s_reached) := ⟨rfl, rfl, rfl, by decide +kernel, rfl, by decide +kernel, by decide +kernel⟩
abbrev s_path : Stmt := top 38
abbrev n_path : List Str := ["family", "start", "goal", "one"]
theorem sc_path : FnScope n_path ["family", "start", "goal"] (defScope s_path) := ⟨rfl, rfl, rfl, by decide +kernel, rfl, by decide +kernel, by decide +kernel⟩
abbrev s_orbits : Stmt := top 39
abbrev n_orbits : List Str := ["family", "tables", "found", "seen", "element", "words", "place", "one"]
theorem sc_orbits : FnScope n_orbits ["family"] (defScope s_orbits) := ⟨rfl, rfl, rfl, by decide +kernel, rfl, by decide +kernel, by decide +kernel⟩
abbrev s_InvalidMap__init : Stmt := inClass (top 2) 0
abbrev n_InvalidMap__init : List Str := ["self", "part"]
theorem sc_InvalidMap__init : FnScope n_InvalidMap__init ["self", "part"] (defScope s_InvalidMap__init) := ⟨rfl, rfl, rfl, by decide +kernel, rfl, by decide +kernel, by decide +kernel⟩
abbrev s_SizeMismatch__init : Stmt := inClass (top 6) 0
abbrev n_SizeMismatch__init : List Str := ["self", "first", "second"]
theorem sc_SizeMismatch__init : FnScope n_SizeMismatch__init ["self", "first", "second"] (defScope s_SizeMismatch__init) := ⟨rfl, rfl, rfl, by decide +kernel, rfl, by decide +kernel, by decide +kernel⟩
abbrev s_InvalidElement__init : Stmt := inClass (top 4) 0
abbrev n_InvalidElement__init : List Str := ["self", "value"]
theorem sc_InvalidElement__init : FnScope n_InvalidElement__init ["self", "value"] (defScope s_InvalidElement__init) := ⟨rfl, rfl, rfl, by decide +kernel, rfl, by decide +kernel, by decide +kernel⟩
abbrev s_LimitExceeded__init : Stmt := inClass (top 9) 0
abbrev n_LimitExceeded__init : List Str := ["self", "limit"]
theorem sc_LimitExceeded__init : FnScope n_LimitExceeded__init ["self", "limit"] (defScope s_LimitExceeded__init) := ⟨rfl, rfl, rfl, by decide +kernel, rfl, by decide +kernel, by decide +kernel⟩
abbrev s_l_hand : Stmt := top 41
abbrev n_l_hand : List Str := ["_law_script", "_law_k", "_law_cell", "_law_seed"]
theorem sc_l_hand : FnScope n_l_hand ["_law_script", "_law_k"] (defScope s_l_hand) := ⟨rfl, rfl, rfl, by decide +kernel, rfl, by decide +kernel, by decide +kernel⟩
abbrev s_l_draw : Stmt := top 42
abbrev n_l_draw : List Str := ["_law_pool", "_law_size", "_law_found"]
theorem sc_l_draw : FnScope n_l_draw ["_law_pool", "_law_size"] (defScope s_l_draw) := ⟨rfl, rfl, rfl, by decide +kernel, rfl, by decide +kernel, by decide +kernel⟩
abbrev s_l_arrows : Stmt := top 43
abbrev n_l_arrows : List Str := ["_law_pool", "_law_size", "_law_left", "_law_found", "_law_rare", "_law_source"]
theorem sc_l_arrows : FnScope n_l_arrows ["_law_pool", "_law_size"] (defScope s_l_arrows) := ⟨rfl, rfl, rfl, by decide +kernel, rfl, by decide +kernel, by decide +kernel⟩
abbrev s_l_family : Stmt := top 44
abbrev n_l_family : List Str := ["_law_maps", "_law_found", "_law_one"]
theorem sc_l_family : FnScope n_l_family ["_law_maps"] (defScope s_l_family) := ⟨rfl, rfl, rfl, by decide +kernel, rfl, by decide +kernel, by decide +kernel⟩
abbrev s_l_few : Stmt := top 45
abbrev n_l_few : List Str := ["_law_pool", "_law_size", "_law_table", "_law_source"]
theorem sc_l_few : FnScope n_l_few ["_law_pool", "_law_size"] (defScope s_l_few) := ⟨rfl, rfl, rfl, by decide +kernel, rfl, by decide +kernel, by decide +kernel⟩
abbrev s_l_search : Stmt := top 46
abbrev n_l_search : List Str := ["_law_tables", "_law_start", "_law_found", "_law_last", "_law_later", "_law_place", "_law_index", "_law_table"]
theorem sc_l_search : FnScope n_l_search ["_law_tables", "_law_start"] (defScope s_l_search) := ⟨rfl, rfl, rfl, by decide +kernel, rfl, by decide +kernel, by decide +kernel⟩
abbrev s_l_classes : Stmt := top 47
abbrev n_l_classes : List Str := ["_law_tables", "_law_size", "_law_names", "_law_table", "_law_source", "_law_one", "_law_other", "_law_low", "_law_found", "_law_name", "_law_members", "_law_at"]
theorem sc_l_classes : FnScope n_l_classes ["_law_tables", "_law_size"] (defScope s_l_classes) := ⟨rfl, rfl, rfl, by decide +kernel, rfl, by decide +kernel, by decide +kernel⟩
abbrev s_l_right : Stmt := top 48
abbrev n_l_right : List Str := ["_law_family_here", "_law_tables", "_law_size", "_law_start", "_law_words", "_law_again", "_law_told", "_law_goal", "_law_place"]
theorem sc_l_right : FnScope n_l_right ["_law_family_here", "_law_tables", "_law_size"] (defScope s_l_right) := ⟨rfl, rfl, rfl, by decide +kernel, rfl, by decide +kernel, by decide +kernel⟩
abbrev s_l_great : Stmt := top 49
abbrev n_l_great : List Str := ["_law_family_here", "_law_at"]
theorem sc_l_great : FnScope n_l_great [] (defScope s_l_great) := ⟨rfl, rfl, rfl, by decide +kernel, rfl, by decide +kernel, by decide +kernel⟩
abbrev s_law : Stmt := top 50
abbrev n_law : List Str := ["_law_script", "_law_k", "_law_pool", "_law_size", "_law_tables", "_law_turn", "_law_table"]
theorem sc_law : FnScope n_law ["_law_script"] (defScope s_law) := ⟨rfl, rfl, rfl, by decide +kernel, rfl, by decide +kernel, by decide +kernel⟩
set_option genInjectivity false
set_option genSizeOf false
structure Txt (K : PySem.W.Frag) (mg : Str → Option Value) where
  f_is_integer : Addr
  f_in_range : Addr
  f_check_elements : Addr
  f_are_arrows : Addr
  f_common_size : Addr
  f_check_map : Addr
  f_check_all : Addr
  f_check_many : Addr
  f_made : Addr
  f_check_family : Addr
  f_first_words : Addr
  f_reached : Addr
  f_path : Addr
  f_orbits : Addr
  f_l_hand : Addr
  f_l_draw : Addr
  f_l_arrows : Addr
  f_l_family : Addr
  f_l_few : Addr
  f_l_search : Addr
  f_l_classes : Addr
  f_l_right : Addr
  f_l_great : Addr
  f_law : Addr
  C_Map : Addr
  f_Map__init : Addr
  p_Map_size : Addr
  f_Map_size : Addr
  p_Map_arrows : Addr
  f_Map_arrows : Addr
  f_Map__invert : Addr
  C_Family : Addr
  f_Family__init : Addr
  p_Family_maps : Addr
  f_Family_maps : Addr
  p_Family_size : Addr
  f_Family_size : Addr
  f_Family__add : Addr
  C_InvalidMap : Addr
  f_InvalidMap__init : Addr
  C_SizeMismatch : Addr
  f_SizeMismatch__init : Addr
  C_InvalidElement : Addr
  f_InvalidElement__init : Addr
  C_LimitExceeded : Addr
  f_LimitExceeded__init : Addr
  A_is_integer : U.FnAt K "is_integer" "is_integer" s_is_integer f_is_integer ["value"]
  g_is_integer : mg "is_integer" = some (.ref f_is_integer)
  A_in_range : U.FnAt K "in_range" "in_range" s_in_range f_in_range ["value", "least", "most"]
  g_in_range : mg "in_range" = some (.ref f_in_range)
  A_check_elements : U.FnAt K "check_elements" "check_elements" s_check_elements f_check_elements ["size", "points"]
  g_check_elements : mg "check_elements" = some (.ref f_check_elements)
  A_are_arrows : U.FnAt K "are_arrows" "are_arrows" s_are_arrows f_are_arrows ["size", "arrows"]
  g_are_arrows : mg "are_arrows" = some (.ref f_are_arrows)
  A_common_size : U.FnAt K "common_size" "common_size" s_common_size f_common_size ["one", "other"]
  g_common_size : mg "common_size" = some (.ref f_common_size)
  A_check_map : U.FnAt K "check_map" "check_map" s_check_map f_check_map ["value"]
  g_check_map : mg "check_map" = some (.ref f_check_map)
  A_check_all : U.FnAt K "check_all" "check_all" s_check_all f_check_all ["maps"]
  g_check_all : mg "check_all" = some (.ref f_check_all)
  A_check_many : U.FnAt K "check_many" "check_many" s_check_many f_check_many ["number"]
  g_check_many : mg "check_many" = some (.ref f_check_many)
  A_made : U.FnAt K "made" "made" s_made f_made ["maps"]
  g_made : mg "made" = some (.ref f_made)
  A_check_family : U.FnAt K "check_family" "check_family" s_check_family f_check_family ["family"]
  g_check_family : mg "check_family" = some (.ref f_check_family)
  A_first_words : U.FnAt K "first_words" "first_words" s_first_words f_first_words ["tables", "start"]
  g_first_words : mg "first_words" = some (.ref f_first_words)
  A_reached : U.FnAt K "reached" "reached" s_reached f_reached ["family", "element"]
  g_reached : mg "reached" = some (.ref f_reached)
  A_path : U.FnAt K "path" "path" s_path f_path ["family", "start", "goal"]
  g_path : mg "path" = some (.ref f_path)
  A_orbits : U.FnAt K "orbits" "orbits" s_orbits f_orbits ["family"]
  g_orbits : mg "orbits" = some (.ref f_orbits)
  A_l_hand : U.FnAt K "_law_hand" "_law_hand" s_l_hand f_l_hand ["_law_script", "_law_k"]
  g_l_hand : mg "_law_hand" = some (.ref f_l_hand)
  A_l_draw : U.FnAt K "_law_draw" "_law_draw" s_l_draw f_l_draw ["_law_pool", "_law_size"]
  g_l_draw : mg "_law_draw" = some (.ref f_l_draw)
  A_l_arrows : U.FnAt K "_law_arrows" "_law_arrows" s_l_arrows f_l_arrows ["_law_pool", "_law_size"]
  g_l_arrows : mg "_law_arrows" = some (.ref f_l_arrows)
  A_l_family : U.FnAt K "_law_family" "_law_family" s_l_family f_l_family ["_law_maps"]
  g_l_family : mg "_law_family" = some (.ref f_l_family)
  A_l_few : U.FnAt K "_law_few" "_law_few" s_l_few f_l_few ["_law_pool", "_law_size"]
  g_l_few : mg "_law_few" = some (.ref f_l_few)
  A_l_search : U.FnAt K "_law_search" "_law_search" s_l_search f_l_search ["_law_tables", "_law_start"]
  g_l_search : mg "_law_search" = some (.ref f_l_search)
  A_l_classes : U.FnAt K "_law_classes" "_law_classes" s_l_classes f_l_classes ["_law_tables", "_law_size"]
  g_l_classes : mg "_law_classes" = some (.ref f_l_classes)
  A_l_right : U.FnAt K "_law_right" "_law_right" s_l_right f_l_right ["_law_family_here", "_law_tables", "_law_size"]
  g_l_right : mg "_law_right" = some (.ref f_l_right)
  A_l_great : U.FnAt K "_law_great" "_law_great" s_l_great f_l_great []
  g_l_great : mg "_law_great" = some (.ref f_l_great)
  A_law : U.FnAt K "law" "law" s_law f_law ["_law_script"]
  L_law : ∃ fd, Fun K "law" "law" s_law f_law fd ∧ ∀ (s : Shared) (u : Value), BindsTo s fd ⟨[u], []⟩ [("_law_script", u)]
  g_law : mg "law" = some (.ref f_law)
  g_Map : mg "Map" = some (.ref C_Map)
  o_Map : U.OwnC K C_Map
  kit_int_Map : PySem.W.kitOne K (.ref C_Map) (.type "int") = some false
  kit_bool_Map : PySem.W.kitOne K (.ref C_Map) (.type "bool") = some false
  kn_NoneType_Map : PySem.W.kitOne K (.type "NoneType") (.ref C_Map) = some false
  nf_NoneType_Map : PySem.W.notFirst K C_Map (.type "NoneType") = true
  kn_int_Map : PySem.W.kitOne K (.type "int") (.ref C_Map) = some false
  nf_int_Map : PySem.W.notFirst K C_Map (.type "int") = true
  kn_bool_Map : PySem.W.kitOne K (.type "bool") (.ref C_Map) = some false
  nf_bool_Map : PySem.W.notFirst K C_Map (.type "bool") = true
  kn_str_Map : PySem.W.kitOne K (.type "str") (.ref C_Map) = some false
  nf_str_Map : PySem.W.notFirst K C_Map (.type "str") = true
  kn_list_Map : PySem.W.kitOne K (.type "list") (.ref C_Map) = some false
  nf_list_Map : PySem.W.notFirst K C_Map (.type "list") = true
  kn_dict_Map : PySem.W.kitOne K (.type "dict") (.ref C_Map) = some false
  nf_dict_Map : PySem.W.notFirst K C_Map (.type "dict") = true
  kn_tuple_Map : PySem.W.kitOne K (.type "tuple") (.ref C_Map) = some false
  nf_tuple_Map : PySem.W.notFirst K C_Map (.type "tuple") = true
  self_Map : PySem.W.kitOne K (.ref C_Map) (.ref C_Map) = some true
  na_own_size_Map : NoAttr K C_Map "own_size"
  na_own_arrows_Map : NoAttr K C_Map "own_arrows"
  A_Map__init : U.FnAt K "__init__" "Map.__init__" s_Map__init f_Map__init ["self", "size", "arrows"]
  m_Map__init : PySem.W.findIn K (.ref C_Map) "__init__" = some (some (.ref f_Map__init))
  i_Map__init : PySem.W.isFn K (.ref f_Map__init) = true
  M_Map : Mk K C_Map f_Map__init
  A_Map_size : U.FnAt K "size" "Map.size" s_Map_size f_Map_size ["self"]
  P_Map_size : PropOf K C_Map "size" p_Map_size f_Map_size
  A_Map_arrows : U.FnAt K "arrows" "Map.arrows" s_Map_arrows f_Map_arrows ["self"]
  P_Map_arrows : PropOf K C_Map "arrows" p_Map_arrows f_Map_arrows
  A_Map__invert : U.FnAt K "__invert__" "Map.__invert__" s_Map__invert f_Map__invert ["self"]
  m_Map__invert : PySem.W.findIn K (.ref C_Map) "__invert__" = some (some (.ref f_Map__invert))
  i_Map__invert : PySem.W.isFn K (.ref f_Map__invert) = true
  g_Family : mg "Family" = some (.ref C_Family)
  o_Family : U.OwnC K C_Family
  kit_int_Family : PySem.W.kitOne K (.ref C_Family) (.type "int") = some false
  kit_bool_Family : PySem.W.kitOne K (.ref C_Family) (.type "bool") = some false
  kn_NoneType_Family : PySem.W.kitOne K (.type "NoneType") (.ref C_Family) = some false
  nf_NoneType_Family : PySem.W.notFirst K C_Family (.type "NoneType") = true
  kn_int_Family : PySem.W.kitOne K (.type "int") (.ref C_Family) = some false
  nf_int_Family : PySem.W.notFirst K C_Family (.type "int") = true
  kn_bool_Family : PySem.W.kitOne K (.type "bool") (.ref C_Family) = some false
  nf_bool_Family : PySem.W.notFirst K C_Family (.type "bool") = true
  kn_str_Family : PySem.W.kitOne K (.type "str") (.ref C_Family) = some false
  nf_str_Family : PySem.W.notFirst K C_Family (.type "str") = true
  kn_list_Family : PySem.W.kitOne K (.type "list") (.ref C_Family) = some false
  nf_list_Family : PySem.W.notFirst K C_Family (.type "list") = true
  kn_dict_Family : PySem.W.kitOne K (.type "dict") (.ref C_Family) = some false
  nf_dict_Family : PySem.W.notFirst K C_Family (.type "dict") = true
  kn_tuple_Family : PySem.W.kitOne K (.type "tuple") (.ref C_Family) = some false
  nf_tuple_Family : PySem.W.notFirst K C_Family (.type "tuple") = true
  kx_Family_Map : PySem.W.kitOne K (.ref C_Family) (.ref C_Map) = some false
  self_Family : PySem.W.kitOne K (.ref C_Family) (.ref C_Family) = some true
  na_own_maps_Family : NoAttr K C_Family "own_maps"
  A_Family__init : U.StarAt K "__init__" "Family.__init__" s_Family__init f_Family__init ["self"] "maps"
  m_Family__init : PySem.W.findIn K (.ref C_Family) "__init__" = some (some (.ref f_Family__init))
  i_Family__init : PySem.W.isFn K (.ref f_Family__init) = true
  M_Family : Mk K C_Family f_Family__init
  A_Family_maps : U.FnAt K "maps" "Family.maps" s_Family_maps f_Family_maps ["self"]
  P_Family_maps : PropOf K C_Family "maps" p_Family_maps f_Family_maps
  A_Family_size : U.FnAt K "size" "Family.size" s_Family_size f_Family_size ["self"]
  P_Family_size : PropOf K C_Family "size" p_Family_size f_Family_size
  A_Family__add : U.FnAt K "__add__" "Family.__add__" s_Family__add f_Family__add ["self", "other"]
  m_Family__add : PySem.W.findIn K (.ref C_Family) "__add__" = some (some (.ref f_Family__add))
  i_Family__add : PySem.W.isFn K (.ref f_Family__add) = true
  g_InvalidMap : mg "InvalidMap" = some (.ref C_InvalidMap)
  x_InvalidMap : OexG K C_InvalidMap
  xf_InvalidMap : XfC K C_InvalidMap
  xe_InvalidMap : ExcC K C_InvalidMap
  te_InvalidMap : PySem.W.exmOne K (.ref C_InvalidMap) (.ref C_InvalidMap) = some true
  kit_ValueError_InvalidMap : PySem.W.kitOne K (.ref C_InvalidMap) (.type "ValueError") = some true
  na_part_InvalidMap : PySem.W.findIn K (.ref C_InvalidMap) "part" = some none
  A_InvalidMap__init : U.FnAt K "__init__" "InvalidMap.__init__" s_InvalidMap__init f_InvalidMap__init ["self", "part"]
  m_InvalidMap__init : PySem.W.findIn K (.ref C_InvalidMap) "__init__" = some (some (.ref f_InvalidMap__init))
  ti_InvalidMap__init : PySem.W.typeIn K (.ref f_InvalidMap__init) = some (.type "function")
  g_SizeMismatch : mg "SizeMismatch" = some (.ref C_SizeMismatch)
  x_SizeMismatch : OexG K C_SizeMismatch
  xf_SizeMismatch : XfC K C_SizeMismatch
  xe_SizeMismatch : ExcC K C_SizeMismatch
  te_SizeMismatch : PySem.W.exmOne K (.ref C_SizeMismatch) (.ref C_SizeMismatch) = some true
  kit_ValueError_SizeMismatch : PySem.W.kitOne K (.ref C_SizeMismatch) (.type "ValueError") = some true
  na_first_SizeMismatch : PySem.W.findIn K (.ref C_SizeMismatch) "first" = some none
  na_second_SizeMismatch : PySem.W.findIn K (.ref C_SizeMismatch) "second" = some none
  A_SizeMismatch__init : U.FnAt K "__init__" "SizeMismatch.__init__" s_SizeMismatch__init f_SizeMismatch__init ["self", "first", "second"]
  m_SizeMismatch__init : PySem.W.findIn K (.ref C_SizeMismatch) "__init__" = some (some (.ref f_SizeMismatch__init))
  ti_SizeMismatch__init : PySem.W.typeIn K (.ref f_SizeMismatch__init) = some (.type "function")
  g_InvalidElement : mg "InvalidElement" = some (.ref C_InvalidElement)
  x_InvalidElement : OexG K C_InvalidElement
  xf_InvalidElement : XfC K C_InvalidElement
  xe_InvalidElement : ExcC K C_InvalidElement
  te_InvalidElement : PySem.W.exmOne K (.ref C_InvalidElement) (.ref C_InvalidElement) = some true
  kit_ValueError_InvalidElement : PySem.W.kitOne K (.ref C_InvalidElement) (.type "ValueError") = some true
  na_value_InvalidElement : PySem.W.findIn K (.ref C_InvalidElement) "value" = some none
  A_InvalidElement__init : U.FnAt K "__init__" "InvalidElement.__init__" s_InvalidElement__init f_InvalidElement__init ["self", "value"]
  m_InvalidElement__init : PySem.W.findIn K (.ref C_InvalidElement) "__init__" = some (some (.ref f_InvalidElement__init))
  ti_InvalidElement__init : PySem.W.typeIn K (.ref f_InvalidElement__init) = some (.type "function")
  g_LimitExceeded : mg "LimitExceeded" = some (.ref C_LimitExceeded)
  x_LimitExceeded : OexG K C_LimitExceeded
  xf_LimitExceeded : XfC K C_LimitExceeded
  xe_LimitExceeded : ExcC K C_LimitExceeded
  te_LimitExceeded : PySem.W.exmOne K (.ref C_LimitExceeded) (.ref C_LimitExceeded) = some true
  kit_OverflowError_LimitExceeded : PySem.W.kitOne K (.ref C_LimitExceeded) (.type "OverflowError") = some true
  na_limit_LimitExceeded : PySem.W.findIn K (.ref C_LimitExceeded) "limit" = some none
  A_LimitExceeded__init : U.FnAt K "__init__" "LimitExceeded.__init__" s_LimitExceeded__init f_LimitExceeded__init ["self", "limit"]
  m_LimitExceeded__init : PySem.W.findIn K (.ref C_LimitExceeded) "__init__" = some (some (.ref f_LimitExceeded__init))
  ti_LimitExceeded__init : PySem.W.typeIn K (.ref f_LimitExceeded__init) = some (.type "function")
  n_isinstance : mg "isinstance" = none
  n_int : mg "int" = none
  n_bool : mg "bool" = none
  n_dict : mg "dict" = none
  n_len : mg "len" = none
  n_range : mg "range" = none
  n_list : mg "list" = none
  n_tuple : mg "tuple" = none
  n_max : mg "max" = none
  n_min : mg "min" = none
  n_enumerate : mg "enumerate" = none
  n_repr : mg "repr" = none
  v_MAX_SIZE : ∃ t, mg "MAX_SIZE" = some (.int 300 t)
  v_MOST_MAPS : ∃ t, mg "MOST_MAPS" = some (.int 10 t)
theorem mk_txt {K : PySem.W.Frag} {h : Heap} {mg : Str → Option Value} (X : K.In h) (G : h.Ns mainGlobals mg)
    {f_is_integer : Addr} {oc_is_integer kV_is_integer dc_is_integer pm_is_integer cd_is_integer ct_is_integer : Value} {od_is_integer an_is_integer : Option Addr} {sl_is_integer : Array (Option Value)}
    {f_in_range : Addr} {oc_in_range kV_in_range dc_in_range pm_in_range cd_in_range ct_in_range : Value} {od_in_range an_in_range : Option Addr} {sl_in_range : Array (Option Value)}
    {f_check_elements : Addr} {oc_check_elements kV_check_elements dc_check_elements pm_check_elements cd_check_elements ct_check_elements : Value} {od_check_elements an_check_elements : Option Addr} {sl_check_elements : Array (Option Value)}
    {f_are_arrows : Addr} {oc_are_arrows kV_are_arrows dc_are_arrows pm_are_arrows cd_are_arrows ct_are_arrows : Value} {od_are_arrows an_are_arrows : Option Addr} {sl_are_arrows : Array (Option Value)}
    {f_common_size : Addr} {oc_common_size kV_common_size dc_common_size pm_common_size cd_common_size ct_common_size : Value} {od_common_size an_common_size : Option Addr} {sl_common_size : Array (Option Value)}
    {f_check_map : Addr} {oc_check_map kV_check_map dc_check_map pm_check_map cd_check_map ct_check_map : Value} {od_check_map an_check_map : Option Addr} {sl_check_map : Array (Option Value)}
    {f_check_all : Addr} {oc_check_all kV_check_all dc_check_all pm_check_all cd_check_all ct_check_all : Value} {od_check_all an_check_all : Option Addr} {sl_check_all : Array (Option Value)}
    {f_check_many : Addr} {oc_check_many kV_check_many dc_check_many pm_check_many cd_check_many ct_check_many : Value} {od_check_many an_check_many : Option Addr} {sl_check_many : Array (Option Value)}
    {f_made : Addr} {oc_made kV_made dc_made pm_made cd_made ct_made : Value} {od_made an_made : Option Addr} {sl_made : Array (Option Value)}
    {f_check_family : Addr} {oc_check_family kV_check_family dc_check_family pm_check_family cd_check_family ct_check_family : Value} {od_check_family an_check_family : Option Addr} {sl_check_family : Array (Option Value)}
    {f_first_words : Addr} {oc_first_words kV_first_words dc_first_words pm_first_words cd_first_words ct_first_words : Value} {od_first_words an_first_words : Option Addr} {sl_first_words : Array (Option Value)}
    {f_reached : Addr} {oc_reached kV_reached dc_reached pm_reached cd_reached ct_reached : Value} {od_reached an_reached : Option Addr} {sl_reached : Array (Option Value)}
    {f_path : Addr} {oc_path kV_path dc_path pm_path cd_path ct_path : Value} {od_path an_path : Option Addr} {sl_path : Array (Option Value)}
    {f_orbits : Addr} {oc_orbits kV_orbits dc_orbits pm_orbits cd_orbits ct_orbits : Value} {od_orbits an_orbits : Option Addr} {sl_orbits : Array (Option Value)}
    {f_l_hand : Addr} {oc_l_hand kV_l_hand dc_l_hand pm_l_hand cd_l_hand ct_l_hand : Value} {od_l_hand an_l_hand : Option Addr} {sl_l_hand : Array (Option Value)}
    {f_l_draw : Addr} {oc_l_draw kV_l_draw dc_l_draw pm_l_draw cd_l_draw ct_l_draw : Value} {od_l_draw an_l_draw : Option Addr} {sl_l_draw : Array (Option Value)}
    {f_l_arrows : Addr} {oc_l_arrows kV_l_arrows dc_l_arrows pm_l_arrows cd_l_arrows ct_l_arrows : Value} {od_l_arrows an_l_arrows : Option Addr} {sl_l_arrows : Array (Option Value)}
    {f_l_family : Addr} {oc_l_family kV_l_family dc_l_family pm_l_family cd_l_family ct_l_family : Value} {od_l_family an_l_family : Option Addr} {sl_l_family : Array (Option Value)}
    {f_l_few : Addr} {oc_l_few kV_l_few dc_l_few pm_l_few cd_l_few ct_l_few : Value} {od_l_few an_l_few : Option Addr} {sl_l_few : Array (Option Value)}
    {f_l_search : Addr} {oc_l_search kV_l_search dc_l_search pm_l_search cd_l_search ct_l_search : Value} {od_l_search an_l_search : Option Addr} {sl_l_search : Array (Option Value)}
    {f_l_classes : Addr} {oc_l_classes kV_l_classes dc_l_classes pm_l_classes cd_l_classes ct_l_classes : Value} {od_l_classes an_l_classes : Option Addr} {sl_l_classes : Array (Option Value)}
    {f_l_right : Addr} {oc_l_right kV_l_right dc_l_right pm_l_right cd_l_right ct_l_right : Value} {od_l_right an_l_right : Option Addr} {sl_l_right : Array (Option Value)}
    {f_l_great : Addr} {oc_l_great kV_l_great dc_l_great pm_l_great cd_l_great ct_l_great : Value} {od_l_great an_l_great : Option Addr} {sl_l_great : Array (Option Value)}
    {f_law : Addr} {oc_law kV_law dc_law pm_law cd_law ct_law : Value} {od_law an_law : Option Addr} {sl_law : Array (Option Value)}
    {C_Map : Addr}
    {f_Map__init : Addr} {oc_Map__init kV_Map__init dc_Map__init pm_Map__init cd_Map__init ct_Map__init : Value} {od_Map__init an_Map__init : Option Addr} {sl_Map__init : Array (Option Value)}
    {p_Map_size : Addr} {r_Map_size : List Value}
    {f_Map_size : Addr} {oc_Map_size kV_Map_size dc_Map_size pm_Map_size cd_Map_size ct_Map_size : Value} {od_Map_size an_Map_size : Option Addr} {sl_Map_size : Array (Option Value)}
    {p_Map_arrows : Addr} {r_Map_arrows : List Value}
    {f_Map_arrows : Addr} {oc_Map_arrows kV_Map_arrows dc_Map_arrows pm_Map_arrows cd_Map_arrows ct_Map_arrows : Value} {od_Map_arrows an_Map_arrows : Option Addr} {sl_Map_arrows : Array (Option Value)}
    {f_Map__invert : Addr} {oc_Map__invert kV_Map__invert dc_Map__invert pm_Map__invert cd_Map__invert ct_Map__invert : Value} {od_Map__invert an_Map__invert : Option Addr} {sl_Map__invert : Array (Option Value)}
    {C_Family : Addr}
    {f_Family__init : Addr} {oc_Family__init kV_Family__init dc_Family__init pm_Family__init cd_Family__init ct_Family__init : Value} {od_Family__init an_Family__init : Option Addr} {sl_Family__init : Array (Option Value)}
    {p_Family_maps : Addr} {r_Family_maps : List Value}
    {f_Family_maps : Addr} {oc_Family_maps kV_Family_maps dc_Family_maps pm_Family_maps cd_Family_maps ct_Family_maps : Value} {od_Family_maps an_Family_maps : Option Addr} {sl_Family_maps : Array (Option Value)}
    {p_Family_size : Addr} {r_Family_size : List Value}
    {f_Family_size : Addr} {oc_Family_size kV_Family_size dc_Family_size pm_Family_size cd_Family_size ct_Family_size : Value} {od_Family_size an_Family_size : Option Addr} {sl_Family_size : Array (Option Value)}
    {f_Family__add : Addr} {oc_Family__add kV_Family__add dc_Family__add pm_Family__add cd_Family__add ct_Family__add : Value} {od_Family__add an_Family__add : Option Addr} {sl_Family__add : Array (Option Value)}
    {C_InvalidMap : Addr} {nm_InvalidMap q_InvalidMap : Str} {N_InvalidMap : Addr} {bs_InvalidMap : List Value} {sn_InvalidMap : List Str} {sub_InvalidMap : List Value} {ab_InvalidMap : Bool} {col_InvalidMap : Option Bool} {dd_InvalidMap : Option Addr} {m0_InvalidMap m1_InvalidMap m2_InvalidMap m3_InvalidMap m5_InvalidMap : Option Value}
    {f_InvalidMap__init : Addr} {oc_InvalidMap__init kV_InvalidMap__init dc_InvalidMap__init pm_InvalidMap__init cd_InvalidMap__init ct_InvalidMap__init : Value} {od_InvalidMap__init an_InvalidMap__init : Option Addr} {sl_InvalidMap__init : Array (Option Value)}
    {C_SizeMismatch : Addr} {nm_SizeMismatch q_SizeMismatch : Str} {N_SizeMismatch : Addr} {bs_SizeMismatch : List Value} {sn_SizeMismatch : List Str} {sub_SizeMismatch : List Value} {ab_SizeMismatch : Bool} {col_SizeMismatch : Option Bool} {dd_SizeMismatch : Option Addr} {m0_SizeMismatch m1_SizeMismatch m2_SizeMismatch m3_SizeMismatch m5_SizeMismatch : Option Value}
    {f_SizeMismatch__init : Addr} {oc_SizeMismatch__init kV_SizeMismatch__init dc_SizeMismatch__init pm_SizeMismatch__init cd_SizeMismatch__init ct_SizeMismatch__init : Value} {od_SizeMismatch__init an_SizeMismatch__init : Option Addr} {sl_SizeMismatch__init : Array (Option Value)}
    {C_InvalidElement : Addr} {nm_InvalidElement q_InvalidElement : Str} {N_InvalidElement : Addr} {bs_InvalidElement : List Value} {sn_InvalidElement : List Str} {sub_InvalidElement : List Value} {ab_InvalidElement : Bool} {col_InvalidElement : Option Bool} {dd_InvalidElement : Option Addr} {m0_InvalidElement m1_InvalidElement m2_InvalidElement m3_InvalidElement m5_InvalidElement : Option Value}
    {f_InvalidElement__init : Addr} {oc_InvalidElement__init kV_InvalidElement__init dc_InvalidElement__init pm_InvalidElement__init cd_InvalidElement__init ct_InvalidElement__init : Value} {od_InvalidElement__init an_InvalidElement__init : Option Addr} {sl_InvalidElement__init : Array (Option Value)}
    {C_LimitExceeded : Addr} {nm_LimitExceeded q_LimitExceeded : Str} {N_LimitExceeded : Addr} {bs_LimitExceeded : List Value} {sn_LimitExceeded : List Str} {sub_LimitExceeded : List Value} {ab_LimitExceeded : Bool} {col_LimitExceeded : Option Bool} {dd_LimitExceeded : Option Addr} {m0_LimitExceeded m1_LimitExceeded m2_LimitExceeded m3_LimitExceeded m5_LimitExceeded : Option Value}
    {f_LimitExceeded__init : Addr} {oc_LimitExceeded__init kV_LimitExceeded__init dc_LimitExceeded__init pm_LimitExceeded__init cd_LimitExceeded__init ct_LimitExceeded__init : Value} {od_LimitExceeded__init an_LimitExceeded__init : Option Addr} {sl_LimitExceeded__init : Array (Option Value)}
    {t_MAX_SIZE : Tok}
    {t_MOST_MAPS : Tok}
    (a_is_integer : PySem.W.nsIn K mainGlobals "is_integer" = some (some (.ref f_is_integer)))
    (l_is_integer : K.lookup f_is_integer = some ⟨oc_is_integer, od_is_integer, .func (PySem.W.fnOf "is_integer" "is_integer" (defArgs s_is_integer) (defBody s_is_integer) (defScope s_is_integer) .none kV_is_integer dc_is_integer pm_is_integer an_is_integer cd_is_integer ct_is_integer), sl_is_integer⟩)
    (c_is_integer : PySem.W.codeIn K cd_is_integer "is_integer" = true)
    (k_is_integer : PySem.W.keepIn K (.ref f_is_integer) = true)
    (a_in_range : PySem.W.nsIn K mainGlobals "in_range" = some (some (.ref f_in_range)))
    (l_in_range : K.lookup f_in_range = some ⟨oc_in_range, od_in_range, .func (PySem.W.fnOf "in_range" "in_range" (defArgs s_in_range) (defBody s_in_range) (defScope s_in_range) .none kV_in_range dc_in_range pm_in_range an_in_range cd_in_range ct_in_range), sl_in_range⟩)
    (c_in_range : PySem.W.codeIn K cd_in_range "in_range" = true)
    (k_in_range : PySem.W.keepIn K (.ref f_in_range) = true)
    (a_check_elements : PySem.W.nsIn K mainGlobals "check_elements" = some (some (.ref f_check_elements)))
    (l_check_elements : K.lookup f_check_elements = some ⟨oc_check_elements, od_check_elements, .func (PySem.W.fnOf "check_elements" "check_elements" (defArgs s_check_elements) (defBody s_check_elements) (defScope s_check_elements) .none kV_check_elements dc_check_elements pm_check_elements an_check_elements cd_check_elements ct_check_elements), sl_check_elements⟩)
    (c_check_elements : PySem.W.codeIn K cd_check_elements "check_elements" = true)
    (k_check_elements : PySem.W.keepIn K (.ref f_check_elements) = true)
    (a_are_arrows : PySem.W.nsIn K mainGlobals "are_arrows" = some (some (.ref f_are_arrows)))
    (l_are_arrows : K.lookup f_are_arrows = some ⟨oc_are_arrows, od_are_arrows, .func (PySem.W.fnOf "are_arrows" "are_arrows" (defArgs s_are_arrows) (defBody s_are_arrows) (defScope s_are_arrows) .none kV_are_arrows dc_are_arrows pm_are_arrows an_are_arrows cd_are_arrows ct_are_arrows), sl_are_arrows⟩)
    (c_are_arrows : PySem.W.codeIn K cd_are_arrows "are_arrows" = true)
    (k_are_arrows : PySem.W.keepIn K (.ref f_are_arrows) = true)
    (a_common_size : PySem.W.nsIn K mainGlobals "common_size" = some (some (.ref f_common_size)))
    (l_common_size : K.lookup f_common_size = some ⟨oc_common_size, od_common_size, .func (PySem.W.fnOf "common_size" "common_size" (defArgs s_common_size) (defBody s_common_size) (defScope s_common_size) .none kV_common_size dc_common_size pm_common_size an_common_size cd_common_size ct_common_size), sl_common_size⟩)
    (c_common_size : PySem.W.codeIn K cd_common_size "common_size" = true)
    (k_common_size : PySem.W.keepIn K (.ref f_common_size) = true)
    (a_check_map : PySem.W.nsIn K mainGlobals "check_map" = some (some (.ref f_check_map)))
    (l_check_map : K.lookup f_check_map = some ⟨oc_check_map, od_check_map, .func (PySem.W.fnOf "check_map" "check_map" (defArgs s_check_map) (defBody s_check_map) (defScope s_check_map) .none kV_check_map dc_check_map pm_check_map an_check_map cd_check_map ct_check_map), sl_check_map⟩)
    (c_check_map : PySem.W.codeIn K cd_check_map "check_map" = true)
    (k_check_map : PySem.W.keepIn K (.ref f_check_map) = true)
    (a_check_all : PySem.W.nsIn K mainGlobals "check_all" = some (some (.ref f_check_all)))
    (l_check_all : K.lookup f_check_all = some ⟨oc_check_all, od_check_all, .func (PySem.W.fnOf "check_all" "check_all" (defArgs s_check_all) (defBody s_check_all) (defScope s_check_all) .none kV_check_all dc_check_all pm_check_all an_check_all cd_check_all ct_check_all), sl_check_all⟩)
    (c_check_all : PySem.W.codeIn K cd_check_all "check_all" = true)
    (k_check_all : PySem.W.keepIn K (.ref f_check_all) = true)
    (a_check_many : PySem.W.nsIn K mainGlobals "check_many" = some (some (.ref f_check_many)))
    (l_check_many : K.lookup f_check_many = some ⟨oc_check_many, od_check_many, .func (PySem.W.fnOf "check_many" "check_many" (defArgs s_check_many) (defBody s_check_many) (defScope s_check_many) .none kV_check_many dc_check_many pm_check_many an_check_many cd_check_many ct_check_many), sl_check_many⟩)
    (c_check_many : PySem.W.codeIn K cd_check_many "check_many" = true)
    (k_check_many : PySem.W.keepIn K (.ref f_check_many) = true)
    (a_made : PySem.W.nsIn K mainGlobals "made" = some (some (.ref f_made)))
    (l_made : K.lookup f_made = some ⟨oc_made, od_made, .func (PySem.W.fnOf "made" "made" (defArgs s_made) (defBody s_made) (defScope s_made) .none kV_made dc_made pm_made an_made cd_made ct_made), sl_made⟩)
    (c_made : PySem.W.codeIn K cd_made "made" = true)
    (k_made : PySem.W.keepIn K (.ref f_made) = true)
    (a_check_family : PySem.W.nsIn K mainGlobals "check_family" = some (some (.ref f_check_family)))
    (l_check_family : K.lookup f_check_family = some ⟨oc_check_family, od_check_family, .func (PySem.W.fnOf "check_family" "check_family" (defArgs s_check_family) (defBody s_check_family) (defScope s_check_family) .none kV_check_family dc_check_family pm_check_family an_check_family cd_check_family ct_check_family), sl_check_family⟩)
    (c_check_family : PySem.W.codeIn K cd_check_family "check_family" = true)
    (k_check_family : PySem.W.keepIn K (.ref f_check_family) = true)
    (a_first_words : PySem.W.nsIn K mainGlobals "first_words" = some (some (.ref f_first_words)))
    (l_first_words : K.lookup f_first_words = some ⟨oc_first_words, od_first_words, .func (PySem.W.fnOf "first_words" "first_words" (defArgs s_first_words) (defBody s_first_words) (defScope s_first_words) .none kV_first_words dc_first_words pm_first_words an_first_words cd_first_words ct_first_words), sl_first_words⟩)
    (c_first_words : PySem.W.codeIn K cd_first_words "first_words" = true)
    (k_first_words : PySem.W.keepIn K (.ref f_first_words) = true)
    (a_reached : PySem.W.nsIn K mainGlobals "reached" = some (some (.ref f_reached)))
    (l_reached : K.lookup f_reached = some ⟨oc_reached, od_reached, .func (PySem.W.fnOf "reached" "reached" (defArgs s_reached) (defBody s_reached) (defScope s_reached) .none kV_reached dc_reached pm_reached an_reached cd_reached ct_reached), sl_reached⟩)
    (c_reached : PySem.W.codeIn K cd_reached "reached" = true)
    (k_reached : PySem.W.keepIn K (.ref f_reached) = true)
    (a_path : PySem.W.nsIn K mainGlobals "path" = some (some (.ref f_path)))
    (l_path : K.lookup f_path = some ⟨oc_path, od_path, .func (PySem.W.fnOf "path" "path" (defArgs s_path) (defBody s_path) (defScope s_path) .none kV_path dc_path pm_path an_path cd_path ct_path), sl_path⟩)
    (c_path : PySem.W.codeIn K cd_path "path" = true)
    (k_path : PySem.W.keepIn K (.ref f_path) = true)
    (a_orbits : PySem.W.nsIn K mainGlobals "orbits" = some (some (.ref f_orbits)))
    (l_orbits : K.lookup f_orbits = some ⟨oc_orbits, od_orbits, .func (PySem.W.fnOf "orbits" "orbits" (defArgs s_orbits) (defBody s_orbits) (defScope s_orbits) .none kV_orbits dc_orbits pm_orbits an_orbits cd_orbits ct_orbits), sl_orbits⟩)
    (c_orbits : PySem.W.codeIn K cd_orbits "orbits" = true)
    (k_orbits : PySem.W.keepIn K (.ref f_orbits) = true)
    (a_l_hand : PySem.W.nsIn K mainGlobals "_law_hand" = some (some (.ref f_l_hand)))
    (l_l_hand : K.lookup f_l_hand = some ⟨oc_l_hand, od_l_hand, .func (PySem.W.fnOf "_law_hand" "_law_hand" (defArgs s_l_hand) (defBody s_l_hand) (defScope s_l_hand) .none kV_l_hand dc_l_hand pm_l_hand an_l_hand cd_l_hand ct_l_hand), sl_l_hand⟩)
    (c_l_hand : PySem.W.codeIn K cd_l_hand "_law_hand" = true)
    (k_l_hand : PySem.W.keepIn K (.ref f_l_hand) = true)
    (a_l_draw : PySem.W.nsIn K mainGlobals "_law_draw" = some (some (.ref f_l_draw)))
    (l_l_draw : K.lookup f_l_draw = some ⟨oc_l_draw, od_l_draw, .func (PySem.W.fnOf "_law_draw" "_law_draw" (defArgs s_l_draw) (defBody s_l_draw) (defScope s_l_draw) .none kV_l_draw dc_l_draw pm_l_draw an_l_draw cd_l_draw ct_l_draw), sl_l_draw⟩)
    (c_l_draw : PySem.W.codeIn K cd_l_draw "_law_draw" = true)
    (k_l_draw : PySem.W.keepIn K (.ref f_l_draw) = true)
    (a_l_arrows : PySem.W.nsIn K mainGlobals "_law_arrows" = some (some (.ref f_l_arrows)))
    (l_l_arrows : K.lookup f_l_arrows = some ⟨oc_l_arrows, od_l_arrows, .func (PySem.W.fnOf "_law_arrows" "_law_arrows" (defArgs s_l_arrows) (defBody s_l_arrows) (defScope s_l_arrows) .none kV_l_arrows dc_l_arrows pm_l_arrows an_l_arrows cd_l_arrows ct_l_arrows), sl_l_arrows⟩)
    (c_l_arrows : PySem.W.codeIn K cd_l_arrows "_law_arrows" = true)
    (k_l_arrows : PySem.W.keepIn K (.ref f_l_arrows) = true)
    (a_l_family : PySem.W.nsIn K mainGlobals "_law_family" = some (some (.ref f_l_family)))
    (l_l_family : K.lookup f_l_family = some ⟨oc_l_family, od_l_family, .func (PySem.W.fnOf "_law_family" "_law_family" (defArgs s_l_family) (defBody s_l_family) (defScope s_l_family) .none kV_l_family dc_l_family pm_l_family an_l_family cd_l_family ct_l_family), sl_l_family⟩)
    (c_l_family : PySem.W.codeIn K cd_l_family "_law_family" = true)
    (k_l_family : PySem.W.keepIn K (.ref f_l_family) = true)
    (a_l_few : PySem.W.nsIn K mainGlobals "_law_few" = some (some (.ref f_l_few)))
    (l_l_few : K.lookup f_l_few = some ⟨oc_l_few, od_l_few, .func (PySem.W.fnOf "_law_few" "_law_few" (defArgs s_l_few) (defBody s_l_few) (defScope s_l_few) .none kV_l_few dc_l_few pm_l_few an_l_few cd_l_few ct_l_few), sl_l_few⟩)
    (c_l_few : PySem.W.codeIn K cd_l_few "_law_few" = true)
    (k_l_few : PySem.W.keepIn K (.ref f_l_few) = true)
    (a_l_search : PySem.W.nsIn K mainGlobals "_law_search" = some (some (.ref f_l_search)))
    (l_l_search : K.lookup f_l_search = some ⟨oc_l_search, od_l_search, .func (PySem.W.fnOf "_law_search" "_law_search" (defArgs s_l_search) (defBody s_l_search) (defScope s_l_search) .none kV_l_search dc_l_search pm_l_search an_l_search cd_l_search ct_l_search), sl_l_search⟩)
    (c_l_search : PySem.W.codeIn K cd_l_search "_law_search" = true)
    (k_l_search : PySem.W.keepIn K (.ref f_l_search) = true)
    (a_l_classes : PySem.W.nsIn K mainGlobals "_law_classes" = some (some (.ref f_l_classes)))
    (l_l_classes : K.lookup f_l_classes = some ⟨oc_l_classes, od_l_classes, .func (PySem.W.fnOf "_law_classes" "_law_classes" (defArgs s_l_classes) (defBody s_l_classes) (defScope s_l_classes) .none kV_l_classes dc_l_classes pm_l_classes an_l_classes cd_l_classes ct_l_classes), sl_l_classes⟩)
    (c_l_classes : PySem.W.codeIn K cd_l_classes "_law_classes" = true)
    (k_l_classes : PySem.W.keepIn K (.ref f_l_classes) = true)
    (a_l_right : PySem.W.nsIn K mainGlobals "_law_right" = some (some (.ref f_l_right)))
    (l_l_right : K.lookup f_l_right = some ⟨oc_l_right, od_l_right, .func (PySem.W.fnOf "_law_right" "_law_right" (defArgs s_l_right) (defBody s_l_right) (defScope s_l_right) .none kV_l_right dc_l_right pm_l_right an_l_right cd_l_right ct_l_right), sl_l_right⟩)
    (c_l_right : PySem.W.codeIn K cd_l_right "_law_right" = true)
    (k_l_right : PySem.W.keepIn K (.ref f_l_right) = true)
    (a_l_great : PySem.W.nsIn K mainGlobals "_law_great" = some (some (.ref f_l_great)))
    (l_l_great : K.lookup f_l_great = some ⟨oc_l_great, od_l_great, .func (PySem.W.fnOf "_law_great" "_law_great" (defArgs s_l_great) (defBody s_l_great) (defScope s_l_great) .none kV_l_great dc_l_great pm_l_great an_l_great cd_l_great ct_l_great), sl_l_great⟩)
    (c_l_great : PySem.W.codeIn K cd_l_great "_law_great" = true)
    (k_l_great : PySem.W.keepIn K (.ref f_l_great) = true)
    (a_law : PySem.W.nsIn K mainGlobals "law" = some (some (.ref f_law)))
    (l_law : K.lookup f_law = some ⟨oc_law, od_law, .func (PySem.W.fnOf "law" "law" (defArgs s_law) (defBody s_law) (defScope s_law) .none kV_law dc_law pm_law an_law cd_law ct_law), sl_law⟩)
    (c_law : PySem.W.codeIn K cd_law "law" = true)
    (k_law : PySem.W.keepIn K (.ref f_law) = true)
    (a_Map : PySem.W.nsIn K mainGlobals "Map" = some (some (.ref C_Map)))
    (pg_Map : PySem.W.plainGet K C_Map Str.empty = true)
    (hd_Map : PySem.W.hasDictIn K C_Map = true)
    (po_Map : PySem.W.plainOver K C_Map = true)
    (sa_Map : PySem.W.findIn K (.ref C_Map) "__setattr__" = some (some (.builtin "object.__setattr__")))
    (sf_Map : PySem.W.selfFirst K C_Map = true)
    (ca_Map : PySem.W.findIn K (.ref C_Map) "__class__" = some (some (.builtin "object.__class__")))
    (cn_Map : PySem.W.specialIn K (.builtin "object.__class__") "__get__" = some (some (.builtin "getset_descriptor.__get__")))
    (ct_Map : PySem.W.takesIn K (.builtin "object.__class__") = some true)
    (cm_Map : PySem.W.mroIn K C_Map (.type "object") = some true)
    (kc_Map : PySem.W.keepIn K (.ref C_Map) = true)
    (kit_int_Map : PySem.W.kitOne K (.ref C_Map) (.type "int") = some false)
    (kit_bool_Map : PySem.W.kitOne K (.ref C_Map) (.type "bool") = some false)
    (kn_NoneType_Map : PySem.W.kitOne K (.type "NoneType") (.ref C_Map) = some false)
    (nf_NoneType_Map : PySem.W.notFirst K C_Map (.type "NoneType") = true)
    (kn_int_Map : PySem.W.kitOne K (.type "int") (.ref C_Map) = some false)
    (nf_int_Map : PySem.W.notFirst K C_Map (.type "int") = true)
    (kn_bool_Map : PySem.W.kitOne K (.type "bool") (.ref C_Map) = some false)
    (nf_bool_Map : PySem.W.notFirst K C_Map (.type "bool") = true)
    (kn_str_Map : PySem.W.kitOne K (.type "str") (.ref C_Map) = some false)
    (nf_str_Map : PySem.W.notFirst K C_Map (.type "str") = true)
    (kn_list_Map : PySem.W.kitOne K (.type "list") (.ref C_Map) = some false)
    (nf_list_Map : PySem.W.notFirst K C_Map (.type "list") = true)
    (kn_dict_Map : PySem.W.kitOne K (.type "dict") (.ref C_Map) = some false)
    (nf_dict_Map : PySem.W.notFirst K C_Map (.type "dict") = true)
    (kn_tuple_Map : PySem.W.kitOne K (.type "tuple") (.ref C_Map) = some false)
    (nf_tuple_Map : PySem.W.notFirst K C_Map (.type "tuple") = true)
    (self_Map : PySem.W.kitOne K (.ref C_Map) (.ref C_Map) = some true)
    (na_own_size_Map : PySem.W.findIn K (.ref C_Map) "own_size" = some none)
    (na_own_arrows_Map : PySem.W.findIn K (.ref C_Map) "own_arrows" = some none)
    (m_Map__init : PySem.W.findIn K (.ref C_Map) "__init__" = some (some (.ref f_Map__init)))
    (i_Map__init : PySem.W.isFn K (.ref f_Map__init) = true)
    (l_Map__init : K.lookup f_Map__init = some ⟨oc_Map__init, od_Map__init, .func (PySem.W.fnOf "__init__" "Map.__init__" (defArgs s_Map__init) (defBody s_Map__init) (defScope s_Map__init) .none kV_Map__init dc_Map__init pm_Map__init an_Map__init cd_Map__init ct_Map__init), sl_Map__init⟩)
    (c_Map__init : PySem.W.codeIn K cd_Map__init "Map.__init__" = true)
    (k_Map__init : PySem.W.keepIn K (.ref f_Map__init) = true)
    (mk_Map : PySem.W.makesIn K C_Map = true)
    (m_Map_size : PySem.W.findIn K (.ref C_Map) "size" = some (some (.ref p_Map_size)))
    (s_get_Map_size : PySem.W.specialIn K (.ref p_Map_size) "__get__" = some (some (.builtin "property.__get__")))
    (tk_Map_size : PySem.W.takesIn K (.ref p_Map_size) = some true)
    (rc_Map_size : PySem.W.recIn K p_Map_size "property" = some (.ref f_Map_size :: r_Map_size))
    (l_Map_size : K.lookup f_Map_size = some ⟨oc_Map_size, od_Map_size, .func (PySem.W.fnOf "size" "Map.size" (defArgs s_Map_size) (defBody s_Map_size) (defScope s_Map_size) .none kV_Map_size dc_Map_size pm_Map_size an_Map_size cd_Map_size ct_Map_size), sl_Map_size⟩)
    (c_Map_size : PySem.W.codeIn K cd_Map_size "Map.size" = true)
    (k_Map_size : PySem.W.keepIn K (.ref f_Map_size) = true)
    (m_Map_arrows : PySem.W.findIn K (.ref C_Map) "arrows" = some (some (.ref p_Map_arrows)))
    (s_get_Map_arrows : PySem.W.specialIn K (.ref p_Map_arrows) "__get__" = some (some (.builtin "property.__get__")))
    (tk_Map_arrows : PySem.W.takesIn K (.ref p_Map_arrows) = some true)
    (rc_Map_arrows : PySem.W.recIn K p_Map_arrows "property" = some (.ref f_Map_arrows :: r_Map_arrows))
    (l_Map_arrows : K.lookup f_Map_arrows = some ⟨oc_Map_arrows, od_Map_arrows, .func (PySem.W.fnOf "arrows" "Map.arrows" (defArgs s_Map_arrows) (defBody s_Map_arrows) (defScope s_Map_arrows) .none kV_Map_arrows dc_Map_arrows pm_Map_arrows an_Map_arrows cd_Map_arrows ct_Map_arrows), sl_Map_arrows⟩)
    (c_Map_arrows : PySem.W.codeIn K cd_Map_arrows "Map.arrows" = true)
    (k_Map_arrows : PySem.W.keepIn K (.ref f_Map_arrows) = true)
    (m_Map__invert : PySem.W.findIn K (.ref C_Map) "__invert__" = some (some (.ref f_Map__invert)))
    (i_Map__invert : PySem.W.isFn K (.ref f_Map__invert) = true)
    (l_Map__invert : K.lookup f_Map__invert = some ⟨oc_Map__invert, od_Map__invert, .func (PySem.W.fnOf "__invert__" "Map.__invert__" (defArgs s_Map__invert) (defBody s_Map__invert) (defScope s_Map__invert) .none kV_Map__invert dc_Map__invert pm_Map__invert an_Map__invert cd_Map__invert ct_Map__invert), sl_Map__invert⟩)
    (c_Map__invert : PySem.W.codeIn K cd_Map__invert "Map.__invert__" = true)
    (k_Map__invert : PySem.W.keepIn K (.ref f_Map__invert) = true)
    (a_Family : PySem.W.nsIn K mainGlobals "Family" = some (some (.ref C_Family)))
    (pg_Family : PySem.W.plainGet K C_Family Str.empty = true)
    (hd_Family : PySem.W.hasDictIn K C_Family = true)
    (po_Family : PySem.W.plainOver K C_Family = true)
    (sa_Family : PySem.W.findIn K (.ref C_Family) "__setattr__" = some (some (.builtin "object.__setattr__")))
    (sf_Family : PySem.W.selfFirst K C_Family = true)
    (ca_Family : PySem.W.findIn K (.ref C_Family) "__class__" = some (some (.builtin "object.__class__")))
    (cn_Family : PySem.W.specialIn K (.builtin "object.__class__") "__get__" = some (some (.builtin "getset_descriptor.__get__")))
    (ct_Family : PySem.W.takesIn K (.builtin "object.__class__") = some true)
    (cm_Family : PySem.W.mroIn K C_Family (.type "object") = some true)
    (kc_Family : PySem.W.keepIn K (.ref C_Family) = true)
    (kit_int_Family : PySem.W.kitOne K (.ref C_Family) (.type "int") = some false)
    (kit_bool_Family : PySem.W.kitOne K (.ref C_Family) (.type "bool") = some false)
    (kn_NoneType_Family : PySem.W.kitOne K (.type "NoneType") (.ref C_Family) = some false)
    (nf_NoneType_Family : PySem.W.notFirst K C_Family (.type "NoneType") = true)
    (kn_int_Family : PySem.W.kitOne K (.type "int") (.ref C_Family) = some false)
    (nf_int_Family : PySem.W.notFirst K C_Family (.type "int") = true)
    (kn_bool_Family : PySem.W.kitOne K (.type "bool") (.ref C_Family) = some false)
    (nf_bool_Family : PySem.W.notFirst K C_Family (.type "bool") = true)
    (kn_str_Family : PySem.W.kitOne K (.type "str") (.ref C_Family) = some false)
    (nf_str_Family : PySem.W.notFirst K C_Family (.type "str") = true)
    (kn_list_Family : PySem.W.kitOne K (.type "list") (.ref C_Family) = some false)
    (nf_list_Family : PySem.W.notFirst K C_Family (.type "list") = true)
    (kn_dict_Family : PySem.W.kitOne K (.type "dict") (.ref C_Family) = some false)
    (nf_dict_Family : PySem.W.notFirst K C_Family (.type "dict") = true)
    (kn_tuple_Family : PySem.W.kitOne K (.type "tuple") (.ref C_Family) = some false)
    (nf_tuple_Family : PySem.W.notFirst K C_Family (.type "tuple") = true)
    (self_Family : PySem.W.kitOne K (.ref C_Family) (.ref C_Family) = some true)
    (na_own_maps_Family : PySem.W.findIn K (.ref C_Family) "own_maps" = some none)
    (m_Family__init : PySem.W.findIn K (.ref C_Family) "__init__" = some (some (.ref f_Family__init)))
    (i_Family__init : PySem.W.isFn K (.ref f_Family__init) = true)
    (l_Family__init : K.lookup f_Family__init = some ⟨oc_Family__init, od_Family__init, .func (PySem.W.fnOf "__init__" "Family.__init__" (defArgs s_Family__init) (defBody s_Family__init) (defScope s_Family__init) .none kV_Family__init dc_Family__init pm_Family__init an_Family__init cd_Family__init ct_Family__init), sl_Family__init⟩)
    (c_Family__init : PySem.W.codeIn K cd_Family__init "Family.__init__" = true)
    (k_Family__init : PySem.W.keepIn K (.ref f_Family__init) = true)
    (mk_Family : PySem.W.makesIn K C_Family = true)
    (m_Family_maps : PySem.W.findIn K (.ref C_Family) "maps" = some (some (.ref p_Family_maps)))
    (s_get_Family_maps : PySem.W.specialIn K (.ref p_Family_maps) "__get__" = some (some (.builtin "property.__get__")))
    (tk_Family_maps : PySem.W.takesIn K (.ref p_Family_maps) = some true)
    (rc_Family_maps : PySem.W.recIn K p_Family_maps "property" = some (.ref f_Family_maps :: r_Family_maps))
    (l_Family_maps : K.lookup f_Family_maps = some ⟨oc_Family_maps, od_Family_maps, .func (PySem.W.fnOf "maps" "Family.maps" (defArgs s_Family_maps) (defBody s_Family_maps) (defScope s_Family_maps) .none kV_Family_maps dc_Family_maps pm_Family_maps an_Family_maps cd_Family_maps ct_Family_maps), sl_Family_maps⟩)
    (c_Family_maps : PySem.W.codeIn K cd_Family_maps "Family.maps" = true)
    (k_Family_maps : PySem.W.keepIn K (.ref f_Family_maps) = true)
    (m_Family_size : PySem.W.findIn K (.ref C_Family) "size" = some (some (.ref p_Family_size)))
    (s_get_Family_size : PySem.W.specialIn K (.ref p_Family_size) "__get__" = some (some (.builtin "property.__get__")))
    (tk_Family_size : PySem.W.takesIn K (.ref p_Family_size) = some true)
    (rc_Family_size : PySem.W.recIn K p_Family_size "property" = some (.ref f_Family_size :: r_Family_size))
    (l_Family_size : K.lookup f_Family_size = some ⟨oc_Family_size, od_Family_size, .func (PySem.W.fnOf "size" "Family.size" (defArgs s_Family_size) (defBody s_Family_size) (defScope s_Family_size) .none kV_Family_size dc_Family_size pm_Family_size an_Family_size cd_Family_size ct_Family_size), sl_Family_size⟩)
    (c_Family_size : PySem.W.codeIn K cd_Family_size "Family.size" = true)
    (k_Family_size : PySem.W.keepIn K (.ref f_Family_size) = true)
    (m_Family__add : PySem.W.findIn K (.ref C_Family) "__add__" = some (some (.ref f_Family__add)))
    (i_Family__add : PySem.W.isFn K (.ref f_Family__add) = true)
    (l_Family__add : K.lookup f_Family__add = some ⟨oc_Family__add, od_Family__add, .func (PySem.W.fnOf "__add__" "Family.__add__" (defArgs s_Family__add) (defBody s_Family__add) (defScope s_Family__add) .none kV_Family__add dc_Family__add pm_Family__add an_Family__add cd_Family__add ct_Family__add), sl_Family__add⟩)
    (c_Family__add : PySem.W.codeIn K cd_Family__add "Family.__add__" = true)
    (k_Family__add : PySem.W.keepIn K (.ref f_Family__add) = true)
    (a_InvalidMap : PySem.W.nsIn K mainGlobals "InvalidMap" = some (some (.ref C_InvalidMap)))
    (xl_InvalidMap : K.lookup C_InvalidMap = some (excClassObj nm_InvalidMap q_InvalidMap C_InvalidMap N_InvalidMap bs_InvalidMap [.type "ValueError", .type "Exception", .type "BaseException", .type "object"] true sn_InvalidMap sub_InvalidMap ab_InvalidMap col_InvalidMap dd_InvalidMap m0_InvalidMap m1_InvalidMap m2_InvalidMap m3_InvalidMap m5_InvalidMap "ValueError.__new__"))
    (sa_InvalidMap : PySem.W.findIn K (.ref C_InvalidMap) "__setattr__" = some (some (.builtin "object.__setattr__")))
    (ex_InvalidMap : PySem.W.subIn K (.ref C_InvalidMap) (.type "BaseException") = some true)
    (ty_InvalidMap : PySem.W.typeIn K (.ref C_InvalidMap) = some (.type "type"))
    (kc_InvalidMap : PySem.W.keepIn K (.ref C_InvalidMap) = true)
    (hd_InvalidMap : PySem.W.hasDictIn K C_InvalidMap = true)
    (ga_InvalidMap : PySem.W.findIn K (.ref C_InvalidMap) "__getattribute__" = some (some (.builtin "BaseException.__getattribute__")))
    (gg_InvalidMap : PySem.W.findIn K (.ref C_InvalidMap) "__getattr__" = some none)
    (ss_InvalidMap : PySem.W.subIn K (.ref C_InvalidMap) (.ref C_InvalidMap) = some true)
    (ca_InvalidMap : PySem.W.findIn K (.ref C_InvalidMap) "__class__" = some (some (.builtin "object.__class__")))
    (cn_InvalidMap : PySem.W.specialIn K (.builtin "object.__class__") "__get__" = some (some (.builtin "getset_descriptor.__get__")))
    (ct_InvalidMap : PySem.W.takesIn K (.builtin "object.__class__") = some true)
    (cm_InvalidMap : PySem.W.mroIn K C_InvalidMap (.type "object") = some true)
    (kit_ValueError_InvalidMap : PySem.W.kitOne K (.ref C_InvalidMap) (.type "ValueError") = some true)
    (na_part_InvalidMap : PySem.W.findIn K (.ref C_InvalidMap) "part" = some none)
    (m_InvalidMap__init : PySem.W.findIn K (.ref C_InvalidMap) "__init__" = some (some (.ref f_InvalidMap__init)))
    (ti_InvalidMap__init : PySem.W.typeIn K (.ref f_InvalidMap__init) = some (.type "function"))
    (l_InvalidMap__init : K.lookup f_InvalidMap__init = some ⟨oc_InvalidMap__init, od_InvalidMap__init, .func (PySem.W.fnOf "__init__" "InvalidMap.__init__" (defArgs s_InvalidMap__init) (defBody s_InvalidMap__init) (defScope s_InvalidMap__init) .none kV_InvalidMap__init dc_InvalidMap__init pm_InvalidMap__init an_InvalidMap__init cd_InvalidMap__init ct_InvalidMap__init), sl_InvalidMap__init⟩)
    (c_InvalidMap__init : PySem.W.codeIn K cd_InvalidMap__init "InvalidMap.__init__" = true)
    (k_InvalidMap__init : PySem.W.keepIn K (.ref f_InvalidMap__init) = true)
    (a_SizeMismatch : PySem.W.nsIn K mainGlobals "SizeMismatch" = some (some (.ref C_SizeMismatch)))
    (xl_SizeMismatch : K.lookup C_SizeMismatch = some (excClassObj nm_SizeMismatch q_SizeMismatch C_SizeMismatch N_SizeMismatch bs_SizeMismatch [.type "ValueError", .type "Exception", .type "BaseException", .type "object"] true sn_SizeMismatch sub_SizeMismatch ab_SizeMismatch col_SizeMismatch dd_SizeMismatch m0_SizeMismatch m1_SizeMismatch m2_SizeMismatch m3_SizeMismatch m5_SizeMismatch "ValueError.__new__"))
    (sa_SizeMismatch : PySem.W.findIn K (.ref C_SizeMismatch) "__setattr__" = some (some (.builtin "object.__setattr__")))
    (ex_SizeMismatch : PySem.W.subIn K (.ref C_SizeMismatch) (.type "BaseException") = some true)
    (ty_SizeMismatch : PySem.W.typeIn K (.ref C_SizeMismatch) = some (.type "type"))
    (kc_SizeMismatch : PySem.W.keepIn K (.ref C_SizeMismatch) = true)
    (hd_SizeMismatch : PySem.W.hasDictIn K C_SizeMismatch = true)
    (ga_SizeMismatch : PySem.W.findIn K (.ref C_SizeMismatch) "__getattribute__" = some (some (.builtin "BaseException.__getattribute__")))
    (gg_SizeMismatch : PySem.W.findIn K (.ref C_SizeMismatch) "__getattr__" = some none)
    (ss_SizeMismatch : PySem.W.subIn K (.ref C_SizeMismatch) (.ref C_SizeMismatch) = some true)
    (ca_SizeMismatch : PySem.W.findIn K (.ref C_SizeMismatch) "__class__" = some (some (.builtin "object.__class__")))
    (cn_SizeMismatch : PySem.W.specialIn K (.builtin "object.__class__") "__get__" = some (some (.builtin "getset_descriptor.__get__")))
    (ct_SizeMismatch : PySem.W.takesIn K (.builtin "object.__class__") = some true)
    (cm_SizeMismatch : PySem.W.mroIn K C_SizeMismatch (.type "object") = some true)
    (kit_ValueError_SizeMismatch : PySem.W.kitOne K (.ref C_SizeMismatch) (.type "ValueError") = some true)
    (na_first_SizeMismatch : PySem.W.findIn K (.ref C_SizeMismatch) "first" = some none)
    (na_second_SizeMismatch : PySem.W.findIn K (.ref C_SizeMismatch) "second" = some none)
    (m_SizeMismatch__init : PySem.W.findIn K (.ref C_SizeMismatch) "__init__" = some (some (.ref f_SizeMismatch__init)))
    (ti_SizeMismatch__init : PySem.W.typeIn K (.ref f_SizeMismatch__init) = some (.type "function"))
    (l_SizeMismatch__init : K.lookup f_SizeMismatch__init = some ⟨oc_SizeMismatch__init, od_SizeMismatch__init, .func (PySem.W.fnOf "__init__" "SizeMismatch.__init__" (defArgs s_SizeMismatch__init) (defBody s_SizeMismatch__init) (defScope s_SizeMismatch__init) .none kV_SizeMismatch__init dc_SizeMismatch__init pm_SizeMismatch__init an_SizeMismatch__init cd_SizeMismatch__init ct_SizeMismatch__init), sl_SizeMismatch__init⟩)
    (c_SizeMismatch__init : PySem.W.codeIn K cd_SizeMismatch__init "SizeMismatch.__init__" = true)
    (k_SizeMismatch__init : PySem.W.keepIn K (.ref f_SizeMismatch__init) = true)
    (a_InvalidElement : PySem.W.nsIn K mainGlobals "InvalidElement" = some (some (.ref C_InvalidElement)))
    (xl_InvalidElement : K.lookup C_InvalidElement = some (excClassObj nm_InvalidElement q_InvalidElement C_InvalidElement N_InvalidElement bs_InvalidElement [.type "ValueError", .type "Exception", .type "BaseException", .type "object"] true sn_InvalidElement sub_InvalidElement ab_InvalidElement col_InvalidElement dd_InvalidElement m0_InvalidElement m1_InvalidElement m2_InvalidElement m3_InvalidElement m5_InvalidElement "ValueError.__new__"))
    (sa_InvalidElement : PySem.W.findIn K (.ref C_InvalidElement) "__setattr__" = some (some (.builtin "object.__setattr__")))
    (ex_InvalidElement : PySem.W.subIn K (.ref C_InvalidElement) (.type "BaseException") = some true)
    (ty_InvalidElement : PySem.W.typeIn K (.ref C_InvalidElement) = some (.type "type"))
    (kc_InvalidElement : PySem.W.keepIn K (.ref C_InvalidElement) = true)
    (hd_InvalidElement : PySem.W.hasDictIn K C_InvalidElement = true)
    (ga_InvalidElement : PySem.W.findIn K (.ref C_InvalidElement) "__getattribute__" = some (some (.builtin "BaseException.__getattribute__")))
    (gg_InvalidElement : PySem.W.findIn K (.ref C_InvalidElement) "__getattr__" = some none)
    (ss_InvalidElement : PySem.W.subIn K (.ref C_InvalidElement) (.ref C_InvalidElement) = some true)
    (ca_InvalidElement : PySem.W.findIn K (.ref C_InvalidElement) "__class__" = some (some (.builtin "object.__class__")))
    (cn_InvalidElement : PySem.W.specialIn K (.builtin "object.__class__") "__get__" = some (some (.builtin "getset_descriptor.__get__")))
    (ct_InvalidElement : PySem.W.takesIn K (.builtin "object.__class__") = some true)
    (cm_InvalidElement : PySem.W.mroIn K C_InvalidElement (.type "object") = some true)
    (kit_ValueError_InvalidElement : PySem.W.kitOne K (.ref C_InvalidElement) (.type "ValueError") = some true)
    (na_value_InvalidElement : PySem.W.findIn K (.ref C_InvalidElement) "value" = some none)
    (m_InvalidElement__init : PySem.W.findIn K (.ref C_InvalidElement) "__init__" = some (some (.ref f_InvalidElement__init)))
    (ti_InvalidElement__init : PySem.W.typeIn K (.ref f_InvalidElement__init) = some (.type "function"))
    (l_InvalidElement__init : K.lookup f_InvalidElement__init = some ⟨oc_InvalidElement__init, od_InvalidElement__init, .func (PySem.W.fnOf "__init__" "InvalidElement.__init__" (defArgs s_InvalidElement__init) (defBody s_InvalidElement__init) (defScope s_InvalidElement__init) .none kV_InvalidElement__init dc_InvalidElement__init pm_InvalidElement__init an_InvalidElement__init cd_InvalidElement__init ct_InvalidElement__init), sl_InvalidElement__init⟩)
    (c_InvalidElement__init : PySem.W.codeIn K cd_InvalidElement__init "InvalidElement.__init__" = true)
    (k_InvalidElement__init : PySem.W.keepIn K (.ref f_InvalidElement__init) = true)
    (a_LimitExceeded : PySem.W.nsIn K mainGlobals "LimitExceeded" = some (some (.ref C_LimitExceeded)))
    (xl_LimitExceeded : K.lookup C_LimitExceeded = some (excClassObj nm_LimitExceeded q_LimitExceeded C_LimitExceeded N_LimitExceeded bs_LimitExceeded [.type "OverflowError", .type "ArithmeticError", .type "Exception", .type "BaseException", .type "object"] true sn_LimitExceeded sub_LimitExceeded ab_LimitExceeded col_LimitExceeded dd_LimitExceeded m0_LimitExceeded m1_LimitExceeded m2_LimitExceeded m3_LimitExceeded m5_LimitExceeded "OverflowError.__new__"))
    (sa_LimitExceeded : PySem.W.findIn K (.ref C_LimitExceeded) "__setattr__" = some (some (.builtin "object.__setattr__")))
    (ex_LimitExceeded : PySem.W.subIn K (.ref C_LimitExceeded) (.type "BaseException") = some true)
    (ty_LimitExceeded : PySem.W.typeIn K (.ref C_LimitExceeded) = some (.type "type"))
    (kc_LimitExceeded : PySem.W.keepIn K (.ref C_LimitExceeded) = true)
    (hd_LimitExceeded : PySem.W.hasDictIn K C_LimitExceeded = true)
    (ga_LimitExceeded : PySem.W.findIn K (.ref C_LimitExceeded) "__getattribute__" = some (some (.builtin "BaseException.__getattribute__")))
    (gg_LimitExceeded : PySem.W.findIn K (.ref C_LimitExceeded) "__getattr__" = some none)
    (ss_LimitExceeded : PySem.W.subIn K (.ref C_LimitExceeded) (.ref C_LimitExceeded) = some true)
    (ca_LimitExceeded : PySem.W.findIn K (.ref C_LimitExceeded) "__class__" = some (some (.builtin "object.__class__")))
    (cn_LimitExceeded : PySem.W.specialIn K (.builtin "object.__class__") "__get__" = some (some (.builtin "getset_descriptor.__get__")))
    (ct_LimitExceeded : PySem.W.takesIn K (.builtin "object.__class__") = some true)
    (cm_LimitExceeded : PySem.W.mroIn K C_LimitExceeded (.type "object") = some true)
    (kit_OverflowError_LimitExceeded : PySem.W.kitOne K (.ref C_LimitExceeded) (.type "OverflowError") = some true)
    (na_limit_LimitExceeded : PySem.W.findIn K (.ref C_LimitExceeded) "limit" = some none)
    (m_LimitExceeded__init : PySem.W.findIn K (.ref C_LimitExceeded) "__init__" = some (some (.ref f_LimitExceeded__init)))
    (ti_LimitExceeded__init : PySem.W.typeIn K (.ref f_LimitExceeded__init) = some (.type "function"))
    (l_LimitExceeded__init : K.lookup f_LimitExceeded__init = some ⟨oc_LimitExceeded__init, od_LimitExceeded__init, .func (PySem.W.fnOf "__init__" "LimitExceeded.__init__" (defArgs s_LimitExceeded__init) (defBody s_LimitExceeded__init) (defScope s_LimitExceeded__init) .none kV_LimitExceeded__init dc_LimitExceeded__init pm_LimitExceeded__init an_LimitExceeded__init cd_LimitExceeded__init ct_LimitExceeded__init), sl_LimitExceeded__init⟩)
    (c_LimitExceeded__init : PySem.W.codeIn K cd_LimitExceeded__init "LimitExceeded.__init__" = true)
    (k_LimitExceeded__init : PySem.W.keepIn K (.ref f_LimitExceeded__init) = true)
    (z_isinstance : PySem.W.nsIn K mainGlobals "isinstance" = some none)
    (z_int : PySem.W.nsIn K mainGlobals "int" = some none)
    (z_bool : PySem.W.nsIn K mainGlobals "bool" = some none)
    (z_dict : PySem.W.nsIn K mainGlobals "dict" = some none)
    (z_len : PySem.W.nsIn K mainGlobals "len" = some none)
    (z_range : PySem.W.nsIn K mainGlobals "range" = some none)
    (z_list : PySem.W.nsIn K mainGlobals "list" = some none)
    (z_tuple : PySem.W.nsIn K mainGlobals "tuple" = some none)
    (z_max : PySem.W.nsIn K mainGlobals "max" = some none)
    (z_min : PySem.W.nsIn K mainGlobals "min" = some none)
    (z_enumerate : PySem.W.nsIn K mainGlobals "enumerate" = some none)
    (z_repr : PySem.W.nsIn K mainGlobals "repr" = some none)
    (v_MAX_SIZE : PySem.W.nsIn K mainGlobals "MAX_SIZE" = some (some (.int 300 t_MAX_SIZE)))
    (v_MOST_MAPS : PySem.W.nsIn K mainGlobals "MOST_MAPS" = some (some (.int 10 t_MOST_MAPS)))
    (kit_x_Map_Family : PySem.W.kitOne K (.ref C_Family) (.ref C_Map) = some false) :
    Nonempty (Txt K mg) := ⟨{
    f_is_integer := f_is_integer,
    A_is_integer := ⟨_, fun_mk (st := s_is_integer) l_is_integer c_is_integer k_is_integer, (fun_mk (st := s_is_integer) l_is_integer c_is_integer k_is_integer).binds (ps := ["value"]) fun _ _ _ _ _ _ us hl => match us, hl with | [_], _ => rfl⟩,
    g_is_integer := PySem.W.mg_of X G a_is_integer,
    f_in_range := f_in_range,
    A_in_range := ⟨_, fun_mk (st := s_in_range) l_in_range c_in_range k_in_range, (fun_mk (st := s_in_range) l_in_range c_in_range k_in_range).binds (ps := ["value", "least", "most"]) fun _ _ _ _ _ _ us hl => match us, hl with | [_, _, _], _ => rfl⟩,
    g_in_range := PySem.W.mg_of X G a_in_range,
    f_check_elements := f_check_elements,
    A_check_elements := ⟨_, fun_mk (st := s_check_elements) l_check_elements c_check_elements k_check_elements, (fun_mk (st := s_check_elements) l_check_elements c_check_elements k_check_elements).binds (ps := ["size", "points"]) fun _ _ _ _ _ _ us hl => match us, hl with | [_, _], _ => rfl⟩,
    g_check_elements := PySem.W.mg_of X G a_check_elements,
    f_are_arrows := f_are_arrows,
    A_are_arrows := ⟨_, fun_mk (st := s_are_arrows) l_are_arrows c_are_arrows k_are_arrows, (fun_mk (st := s_are_arrows) l_are_arrows c_are_arrows k_are_arrows).binds (ps := ["size", "arrows"]) fun _ _ _ _ _ _ us hl => match us, hl with | [_, _], _ => rfl⟩,
    g_are_arrows := PySem.W.mg_of X G a_are_arrows,
    f_common_size := f_common_size,
    A_common_size := ⟨_, fun_mk (st := s_common_size) l_common_size c_common_size k_common_size, (fun_mk (st := s_common_size) l_common_size c_common_size k_common_size).binds (ps := ["one", "other"]) fun _ _ _ _ _ _ us hl => match us, hl with | [_, _], _ => rfl⟩,
    g_common_size := PySem.W.mg_of X G a_common_size,
    f_check_map := f_check_map,
    A_check_map := ⟨_, fun_mk (st := s_check_map) l_check_map c_check_map k_check_map, (fun_mk (st := s_check_map) l_check_map c_check_map k_check_map).binds (ps := ["value"]) fun _ _ _ _ _ _ us hl => match us, hl with | [_], _ => rfl⟩,
    g_check_map := PySem.W.mg_of X G a_check_map,
    f_check_all := f_check_all,
    A_check_all := ⟨_, fun_mk (st := s_check_all) l_check_all c_check_all k_check_all, (fun_mk (st := s_check_all) l_check_all c_check_all k_check_all).binds (ps := ["maps"]) fun _ _ _ _ _ _ us hl => match us, hl with | [_], _ => rfl⟩,
    g_check_all := PySem.W.mg_of X G a_check_all,
    f_check_many := f_check_many,
    A_check_many := ⟨_, fun_mk (st := s_check_many) l_check_many c_check_many k_check_many, (fun_mk (st := s_check_many) l_check_many c_check_many k_check_many).binds (ps := ["number"]) fun _ _ _ _ _ _ us hl => match us, hl with | [_], _ => rfl⟩,
    g_check_many := PySem.W.mg_of X G a_check_many,
    f_made := f_made,
    A_made := ⟨_, fun_mk (st := s_made) l_made c_made k_made, (fun_mk (st := s_made) l_made c_made k_made).binds (ps := ["maps"]) fun _ _ _ _ _ _ us hl => match us, hl with | [_], _ => rfl⟩,
    g_made := PySem.W.mg_of X G a_made,
    f_check_family := f_check_family,
    A_check_family := ⟨_, fun_mk (st := s_check_family) l_check_family c_check_family k_check_family, (fun_mk (st := s_check_family) l_check_family c_check_family k_check_family).binds (ps := ["family"]) fun _ _ _ _ _ _ us hl => match us, hl with | [_], _ => rfl⟩,
    g_check_family := PySem.W.mg_of X G a_check_family,
    f_first_words := f_first_words,
    A_first_words := ⟨_, fun_mk (st := s_first_words) l_first_words c_first_words k_first_words, (fun_mk (st := s_first_words) l_first_words c_first_words k_first_words).binds (ps := ["tables", "start"]) fun _ _ _ _ _ _ us hl => match us, hl with | [_, _], _ => rfl⟩,
    g_first_words := PySem.W.mg_of X G a_first_words,
    f_reached := f_reached,
    A_reached := ⟨_, fun_mk (st := s_reached) l_reached c_reached k_reached, (fun_mk (st := s_reached) l_reached c_reached k_reached).binds (ps := ["family", "element"]) fun _ _ _ _ _ _ us hl => match us, hl with | [_, _], _ => rfl⟩,
    g_reached := PySem.W.mg_of X G a_reached,
    f_path := f_path,
    A_path := ⟨_, fun_mk (st := s_path) l_path c_path k_path, (fun_mk (st := s_path) l_path c_path k_path).binds (ps := ["family", "start", "goal"]) fun _ _ _ _ _ _ us hl => match us, hl with | [_, _, _], _ => rfl⟩,
    g_path := PySem.W.mg_of X G a_path,
    f_orbits := f_orbits,
    A_orbits := ⟨_, fun_mk (st := s_orbits) l_orbits c_orbits k_orbits, (fun_mk (st := s_orbits) l_orbits c_orbits k_orbits).binds (ps := ["family"]) fun _ _ _ _ _ _ us hl => match us, hl with | [_], _ => rfl⟩,
    g_orbits := PySem.W.mg_of X G a_orbits,
    f_l_hand := f_l_hand,
    A_l_hand := ⟨_, fun_mk (st := s_l_hand) l_l_hand c_l_hand k_l_hand, (fun_mk (st := s_l_hand) l_l_hand c_l_hand k_l_hand).binds (ps := ["_law_script", "_law_k"]) fun _ _ _ _ _ _ us hl => match us, hl with | [_, _], _ => rfl⟩,
    g_l_hand := PySem.W.mg_of X G a_l_hand,
    f_l_draw := f_l_draw,
    A_l_draw := ⟨_, fun_mk (st := s_l_draw) l_l_draw c_l_draw k_l_draw, (fun_mk (st := s_l_draw) l_l_draw c_l_draw k_l_draw).binds (ps := ["_law_pool", "_law_size"]) fun _ _ _ _ _ _ us hl => match us, hl with | [_, _], _ => rfl⟩,
    g_l_draw := PySem.W.mg_of X G a_l_draw,
    f_l_arrows := f_l_arrows,
    A_l_arrows := ⟨_, fun_mk (st := s_l_arrows) l_l_arrows c_l_arrows k_l_arrows, (fun_mk (st := s_l_arrows) l_l_arrows c_l_arrows k_l_arrows).binds (ps := ["_law_pool", "_law_size"]) fun _ _ _ _ _ _ us hl => match us, hl with | [_, _], _ => rfl⟩,
    g_l_arrows := PySem.W.mg_of X G a_l_arrows,
    f_l_family := f_l_family,
    A_l_family := ⟨_, fun_mk (st := s_l_family) l_l_family c_l_family k_l_family, (fun_mk (st := s_l_family) l_l_family c_l_family k_l_family).binds (ps := ["_law_maps"]) fun _ _ _ _ _ _ us hl => match us, hl with | [_], _ => rfl⟩,
    g_l_family := PySem.W.mg_of X G a_l_family,
    f_l_few := f_l_few,
    A_l_few := ⟨_, fun_mk (st := s_l_few) l_l_few c_l_few k_l_few, (fun_mk (st := s_l_few) l_l_few c_l_few k_l_few).binds (ps := ["_law_pool", "_law_size"]) fun _ _ _ _ _ _ us hl => match us, hl with | [_, _], _ => rfl⟩,
    g_l_few := PySem.W.mg_of X G a_l_few,
    f_l_search := f_l_search,
    A_l_search := ⟨_, fun_mk (st := s_l_search) l_l_search c_l_search k_l_search, (fun_mk (st := s_l_search) l_l_search c_l_search k_l_search).binds (ps := ["_law_tables", "_law_start"]) fun _ _ _ _ _ _ us hl => match us, hl with | [_, _], _ => rfl⟩,
    g_l_search := PySem.W.mg_of X G a_l_search,
    f_l_classes := f_l_classes,
    A_l_classes := ⟨_, fun_mk (st := s_l_classes) l_l_classes c_l_classes k_l_classes, (fun_mk (st := s_l_classes) l_l_classes c_l_classes k_l_classes).binds (ps := ["_law_tables", "_law_size"]) fun _ _ _ _ _ _ us hl => match us, hl with | [_, _], _ => rfl⟩,
    g_l_classes := PySem.W.mg_of X G a_l_classes,
    f_l_right := f_l_right,
    A_l_right := ⟨_, fun_mk (st := s_l_right) l_l_right c_l_right k_l_right, (fun_mk (st := s_l_right) l_l_right c_l_right k_l_right).binds (ps := ["_law_family_here", "_law_tables", "_law_size"]) fun _ _ _ _ _ _ us hl => match us, hl with | [_, _, _], _ => rfl⟩,
    g_l_right := PySem.W.mg_of X G a_l_right,
    f_l_great := f_l_great,
    A_l_great := ⟨_, fun_mk (st := s_l_great) l_l_great c_l_great k_l_great, (fun_mk (st := s_l_great) l_l_great c_l_great k_l_great).binds (ps := []) fun _ _ _ _ _ _ us hl => match us, hl with | [], _ => rfl⟩,
    g_l_great := PySem.W.mg_of X G a_l_great,
    f_law := f_law,
    A_law := ⟨_, fun_mk (st := s_law) l_law c_law k_law, (fun_mk (st := s_law) l_law c_law k_law).binds (ps := ["_law_script"]) fun _ _ _ _ _ _ us hl => match us, hl with | [_], _ => rfl⟩,
    L_law := ⟨_, fun_mk (st := s_law) l_law c_law k_law, fun s v => .of_eq rfl⟩,
    g_law := PySem.W.mg_of X G a_law,
    C_Map := C_Map,
    g_Map := PySem.W.mg_of X G a_Map,
    o_Map := ⟨⟨pg_Map, hd_Map, po_Map, sa_Map⟩, sf_Map, ca_Map, cn_Map, ct_Map, cm_Map⟩,
    kit_int_Map := kit_int_Map,
    kit_bool_Map := kit_bool_Map,
    kn_NoneType_Map := kn_NoneType_Map,
    nf_NoneType_Map := nf_NoneType_Map,
    kn_int_Map := kn_int_Map,
    nf_int_Map := nf_int_Map,
    kn_bool_Map := kn_bool_Map,
    nf_bool_Map := nf_bool_Map,
    kn_str_Map := kn_str_Map,
    nf_str_Map := nf_str_Map,
    kn_list_Map := kn_list_Map,
    nf_list_Map := nf_list_Map,
    kn_dict_Map := kn_dict_Map,
    nf_dict_Map := nf_dict_Map,
    kn_tuple_Map := kn_tuple_Map,
    nf_tuple_Map := nf_tuple_Map,
    self_Map := self_Map,
    na_own_size_Map := na_own_size_Map,
    na_own_arrows_Map := na_own_arrows_Map,
    f_Map__init := f_Map__init,
    A_Map__init := ⟨_, fun_mk (st := s_Map__init) l_Map__init c_Map__init k_Map__init, (fun_mk (st := s_Map__init) l_Map__init c_Map__init k_Map__init).binds (ps := ["self", "size", "arrows"]) fun _ _ _ _ _ _ us hl => match us, hl with | [_, _, _], _ => rfl⟩,
    m_Map__init := m_Map__init,
    i_Map__init := i_Map__init,
    M_Map := ⟨mk_Map, m_Map__init, i_Map__init, kc_Map⟩,
    p_Map_size := p_Map_size,
    f_Map_size := f_Map_size,
    A_Map_size := ⟨_, fun_mk (st := s_Map_size) l_Map_size c_Map_size k_Map_size, (fun_mk (st := s_Map_size) l_Map_size c_Map_size k_Map_size).binds (ps := ["self"]) fun _ _ _ _ _ _ us hl => match us, hl with | [_], _ => rfl⟩,
    P_Map_size := ⟨m_Map_size, s_get_Map_size, tk_Map_size, _, rc_Map_size⟩,
    p_Map_arrows := p_Map_arrows,
    f_Map_arrows := f_Map_arrows,
    A_Map_arrows := ⟨_, fun_mk (st := s_Map_arrows) l_Map_arrows c_Map_arrows k_Map_arrows, (fun_mk (st := s_Map_arrows) l_Map_arrows c_Map_arrows k_Map_arrows).binds (ps := ["self"]) fun _ _ _ _ _ _ us hl => match us, hl with | [_], _ => rfl⟩,
    P_Map_arrows := ⟨m_Map_arrows, s_get_Map_arrows, tk_Map_arrows, _, rc_Map_arrows⟩,
    f_Map__invert := f_Map__invert,
    A_Map__invert := ⟨_, fun_mk (st := s_Map__invert) l_Map__invert c_Map__invert k_Map__invert, (fun_mk (st := s_Map__invert) l_Map__invert c_Map__invert k_Map__invert).binds (ps := ["self"]) fun _ _ _ _ _ _ us hl => match us, hl with | [_], _ => rfl⟩,
    m_Map__invert := m_Map__invert,
    i_Map__invert := i_Map__invert,
    C_Family := C_Family,
    g_Family := PySem.W.mg_of X G a_Family,
    o_Family := ⟨⟨pg_Family, hd_Family, po_Family, sa_Family⟩, sf_Family, ca_Family, cn_Family, ct_Family, cm_Family⟩,
    kit_int_Family := kit_int_Family,
    kit_bool_Family := kit_bool_Family,
    kn_NoneType_Family := kn_NoneType_Family,
    nf_NoneType_Family := nf_NoneType_Family,
    kn_int_Family := kn_int_Family,
    nf_int_Family := nf_int_Family,
    kn_bool_Family := kn_bool_Family,
    nf_bool_Family := nf_bool_Family,
    kn_str_Family := kn_str_Family,
    nf_str_Family := nf_str_Family,
    kn_list_Family := kn_list_Family,
    nf_list_Family := nf_list_Family,
    kn_dict_Family := kn_dict_Family,
    nf_dict_Family := nf_dict_Family,
    kn_tuple_Family := kn_tuple_Family,
    nf_tuple_Family := nf_tuple_Family,
    kx_Family_Map := kit_x_Map_Family,
    self_Family := self_Family,
    na_own_maps_Family := na_own_maps_Family,
    f_Family__init := f_Family__init,
    A_Family__init := ⟨_, fun_mk (st := s_Family__init) l_Family__init c_Family__init k_Family__init, StX.bind_star1 (B := fun us => bindArgs _ ⟨us, []⟩) (fun _ => rfl) (fun _ _ _ => rfl)⟩,
    m_Family__init := m_Family__init,
    i_Family__init := i_Family__init,
    M_Family := ⟨mk_Family, m_Family__init, i_Family__init, kc_Family⟩,
    p_Family_maps := p_Family_maps,
    f_Family_maps := f_Family_maps,
    A_Family_maps := ⟨_, fun_mk (st := s_Family_maps) l_Family_maps c_Family_maps k_Family_maps, (fun_mk (st := s_Family_maps) l_Family_maps c_Family_maps k_Family_maps).binds (ps := ["self"]) fun _ _ _ _ _ _ us hl => match us, hl with | [_], _ => rfl⟩,
    P_Family_maps := ⟨m_Family_maps, s_get_Family_maps, tk_Family_maps, _, rc_Family_maps⟩,
    p_Family_size := p_Family_size,
    f_Family_size := f_Family_size,
    A_Family_size := ⟨_, fun_mk (st := s_Family_size) l_Family_size c_Family_size k_Family_size, (fun_mk (st := s_Family_size) l_Family_size c_Family_size k_Family_size).binds (ps := ["self"]) fun _ _ _ _ _ _ us hl => match us, hl with | [_], _ => rfl⟩,
    P_Family_size := ⟨m_Family_size, s_get_Family_size, tk_Family_size, _, rc_Family_size⟩,
    f_Family__add := f_Family__add,
    A_Family__add := ⟨_, fun_mk (st := s_Family__add) l_Family__add c_Family__add k_Family__add, (fun_mk (st := s_Family__add) l_Family__add c_Family__add k_Family__add).binds (ps := ["self", "other"]) fun _ _ _ _ _ _ us hl => match us, hl with | [_, _], _ => rfl⟩,
    m_Family__add := m_Family__add,
    i_Family__add := i_Family__add,
    C_InvalidMap := C_InvalidMap,
    g_InvalidMap := PySem.W.mg_of X G a_InvalidMap,
    x_InvalidMap := ⟨⟨"ValueError", _, _, _, _, _, _, _, _, _, _, _, _, _, _, _, _, _, _, PySem.F.store_ValueError, PySem.F.excBase_ValueError, xl_InvalidMap, by decide +kernel⟩, sa_InvalidMap, ex_InvalidMap, ty_InvalidMap, kc_InvalidMap⟩,
    xf_InvalidMap := ⟨ga_InvalidMap, gg_InvalidMap, ex_InvalidMap, hd_InvalidMap⟩,
    xe_InvalidMap := ⟨ga_InvalidMap, gg_InvalidMap, ex_InvalidMap, hd_InvalidMap, ca_InvalidMap, cn_InvalidMap, ct_InvalidMap, cm_InvalidMap⟩,
    te_InvalidMap := PySem.W.exm_ref ex_InvalidMap hd_InvalidMap ty_InvalidMap ss_InvalidMap,
    kit_ValueError_InvalidMap := kit_ValueError_InvalidMap,
    na_part_InvalidMap := na_part_InvalidMap,
    f_InvalidMap__init := f_InvalidMap__init,
    A_InvalidMap__init := ⟨_, fun_mk (st := s_InvalidMap__init) l_InvalidMap__init c_InvalidMap__init k_InvalidMap__init, (fun_mk (st := s_InvalidMap__init) l_InvalidMap__init c_InvalidMap__init k_InvalidMap__init).binds (ps := ["self", "part"]) fun _ _ _ _ _ _ us hl => match us, hl with | [_, _], _ => rfl⟩,
    m_InvalidMap__init := m_InvalidMap__init,
    ti_InvalidMap__init := ti_InvalidMap__init,
    C_SizeMismatch := C_SizeMismatch,
    g_SizeMismatch := PySem.W.mg_of X G a_SizeMismatch,
    x_SizeMismatch := ⟨⟨"ValueError", _, _, _, _, _, _, _, _, _, _, _, _, _, _, _, _, _, _, PySem.F.store_ValueError, PySem.F.excBase_ValueError, xl_SizeMismatch, by decide +kernel⟩, sa_SizeMismatch, ex_SizeMismatch, ty_SizeMismatch, kc_SizeMismatch⟩,
    xf_SizeMismatch := ⟨ga_SizeMismatch, gg_SizeMismatch, ex_SizeMismatch, hd_SizeMismatch⟩,
    xe_SizeMismatch := ⟨ga_SizeMismatch, gg_SizeMismatch, ex_SizeMismatch, hd_SizeMismatch, ca_SizeMismatch, cn_SizeMismatch, ct_SizeMismatch, cm_SizeMismatch⟩,
    te_SizeMismatch := PySem.W.exm_ref ex_SizeMismatch hd_SizeMismatch ty_SizeMismatch ss_SizeMismatch,
    kit_ValueError_SizeMismatch := kit_ValueError_SizeMismatch,
    na_first_SizeMismatch := na_first_SizeMismatch,
    na_second_SizeMismatch := na_second_SizeMismatch,
    f_SizeMismatch__init := f_SizeMismatch__init,
    A_SizeMismatch__init := ⟨_, fun_mk (st := s_SizeMismatch__init) l_SizeMismatch__init c_SizeMismatch__init k_SizeMismatch__init, (fun_mk (st := s_SizeMismatch__init) l_SizeMismatch__init c_SizeMismatch__init k_SizeMismatch__init).binds (ps := ["self", "first", "second"]) fun _ _ _ _ _ _ us hl => match us, hl with | [_, _, _], _ => rfl⟩,
    m_SizeMismatch__init := m_SizeMismatch__init,
    ti_SizeMismatch__init := ti_SizeMismatch__init,
    C_InvalidElement := C_InvalidElement,
    g_InvalidElement := PySem.W.mg_of X G a_InvalidElement,
    x_InvalidElement := ⟨⟨"ValueError", _, _, _, _, _, _, _, _, _, _, _, _, _, _, _, _, _, _, PySem.F.store_ValueError, PySem.F.excBase_ValueError, xl_InvalidElement, by decide +kernel⟩, sa_InvalidElement, ex_InvalidElement, ty_InvalidElement, kc_InvalidElement⟩,
    xf_InvalidElement := ⟨ga_InvalidElement, gg_InvalidElement, ex_InvalidElement, hd_InvalidElement⟩,
    xe_InvalidElement := ⟨ga_InvalidElement, gg_InvalidElement, ex_InvalidElement, hd_InvalidElement, ca_InvalidElement, cn_InvalidElement, ct_InvalidElement, cm_InvalidElement⟩,
    te_InvalidElement := PySem.W.exm_ref ex_InvalidElement hd_InvalidElement ty_InvalidElement ss_InvalidElement,
    kit_ValueError_InvalidElement := kit_ValueError_InvalidElement,
    na_value_InvalidElement := na_value_InvalidElement,
    f_InvalidElement__init := f_InvalidElement__init,
    A_InvalidElement__init := ⟨_, fun_mk (st := s_InvalidElement__init) l_InvalidElement__init c_InvalidElement__init k_InvalidElement__init, (fun_mk (st := s_InvalidElement__init) l_InvalidElement__init c_InvalidElement__init k_InvalidElement__init).binds (ps := ["self", "value"]) fun _ _ _ _ _ _ us hl => match us, hl with | [_, _], _ => rfl⟩,
    m_InvalidElement__init := m_InvalidElement__init,
    ti_InvalidElement__init := ti_InvalidElement__init,
    C_LimitExceeded := C_LimitExceeded,
    g_LimitExceeded := PySem.W.mg_of X G a_LimitExceeded,
    x_LimitExceeded := ⟨⟨"OverflowError", _, _, _, _, _, _, _, _, _, _, _, _, _, _, _, _, _, _, PySem.F.store_OverflowError, PySem.F.excBase_OverflowError, xl_LimitExceeded, by decide +kernel⟩, sa_LimitExceeded, ex_LimitExceeded, ty_LimitExceeded, kc_LimitExceeded⟩,
    xf_LimitExceeded := ⟨ga_LimitExceeded, gg_LimitExceeded, ex_LimitExceeded, hd_LimitExceeded⟩,
    xe_LimitExceeded := ⟨ga_LimitExceeded, gg_LimitExceeded, ex_LimitExceeded, hd_LimitExceeded, ca_LimitExceeded, cn_LimitExceeded, ct_LimitExceeded, cm_LimitExceeded⟩,
    te_LimitExceeded := PySem.W.exm_ref ex_LimitExceeded hd_LimitExceeded ty_LimitExceeded ss_LimitExceeded,
    kit_OverflowError_LimitExceeded := kit_OverflowError_LimitExceeded,
    na_limit_LimitExceeded := na_limit_LimitExceeded,
    f_LimitExceeded__init := f_LimitExceeded__init,
    A_LimitExceeded__init := ⟨_, fun_mk (st := s_LimitExceeded__init) l_LimitExceeded__init c_LimitExceeded__init k_LimitExceeded__init, (fun_mk (st := s_LimitExceeded__init) l_LimitExceeded__init c_LimitExceeded__init k_LimitExceeded__init).binds (ps := ["self", "limit"]) fun _ _ _ _ _ _ us hl => match us, hl with | [_, _], _ => rfl⟩,
    m_LimitExceeded__init := m_LimitExceeded__init,
    ti_LimitExceeded__init := ti_LimitExceeded__init,
    n_isinstance := PySem.W.mg_none_of X G z_isinstance,
    n_int := PySem.W.mg_none_of X G z_int,
    n_bool := PySem.W.mg_none_of X G z_bool,
    n_dict := PySem.W.mg_none_of X G z_dict,
    n_len := PySem.W.mg_none_of X G z_len,
    n_range := PySem.W.mg_none_of X G z_range,
    n_list := PySem.W.mg_none_of X G z_list,
    n_tuple := PySem.W.mg_none_of X G z_tuple,
    n_max := PySem.W.mg_none_of X G z_max,
    n_min := PySem.W.mg_none_of X G z_min,
    n_enumerate := PySem.W.mg_none_of X G z_enumerate,
    n_repr := PySem.W.mg_none_of X G z_repr,
    v_MAX_SIZE := ⟨_, PySem.W.mg_of X G v_MAX_SIZE⟩,
    v_MOST_MAPS := ⟨_, PySem.W.mg_of X G v_MOST_MAPS⟩ }⟩
end My
namespace My
open PySem L2 U StX
/-! ### values of any known form -/
def knownV (C : Addr) (H : Hp) : V → Prop
  | .non => True | .bl _ => True | .int _ => True | .str _ => True
  | .ref a => (∃ xs, H a = some (.lst xs)) ∨ (∃ xs, H a = some (.tup xs)) ∨ (∃ kvs, H a = some (.dK kvs)) ∨ ∃ dx fs, H a = some (.ins C dx fs)
  | _ => False
def isI : V → Bool | .int _ => true | _ => false
def isB : V → Bool | .bl _ => true | _ => false
def inR : V → Int → Int → Bool | .int i, a, b => decide (a ≤ i) && decide (i ≤ b) | _, _, _ => false
section
variable {P : Program} {w : World} {K : PySem.W.Frag} {mg : Str → Option Value} {base : Heap}
theorem tyx_ins {H : Hp} {a C dx : Addr} {fs : List (Str × V)} (o : OwnC K C) (e : H a = some (.ins C dx fs)) : TyX K H (.ref a) (.ref C) := .base (.ins e o.cl o.ca o.cn o.ct o.cm)
/-- the type of a known value, and what isinstance says of it -/
theorem ty_known (T : Txt K mg) {H : Hp} {x : V} (h : knownV T.C_Map H x) : ∃ t, TyX K H x t ∧ PySem.W.kitOne K t (.type "int") = some (isI x || isB x) ∧ PySem.W.kitOne K t (.type "bool") = some (isB x) := by
  cases x with
  | non => exact ⟨_, .base .non, kit_ty (r := false) (by decide +kernel), kit_ty (r := false) (by decide +kernel)⟩
  | bl b => exact ⟨_, .base (.bl b), kit_ty (r := true) (by decide +kernel), kit_ty (r := true) (by decide +kernel)⟩
  | int i => exact ⟨_, .base (.int i), kit_ty (r := true) (by decide +kernel), kit_ty (r := false) (by decide +kernel)⟩
  | str z => exact ⟨_, .base (.str z), kit_ty (r := false) (by decide +kernel), kit_ty (r := false) (by decide +kernel)⟩
  | ref a =>
    rcases h with ⟨xs, e⟩ | ⟨xs, e⟩ | ⟨xs, e⟩ | ⟨dx, fs, e⟩
    · exact ⟨_, .base (.lst e), kit_ty (r := false) (by decide +kernel), kit_ty (r := false) (by decide +kernel)⟩
    · exact ⟨_, .base (.tup e), kit_ty (r := false) (by decide +kernel), kit_ty (r := false) (by decide +kernel)⟩
    · exact ⟨_, .base (.dK e), kit_ty (r := false) (by decide +kernel), kit_ty (r := false) (by decide +kernel)⟩
    · exact ⟨_, tyx_ins T.o_Map e, T.kit_int_Map, T.kit_bool_Map⟩
  | byt b => exact h.elim
  | flt b => exact h.elim
  | ty b => exact h.elim
def spIsInt (C : Addr) : Sp := fun vs H Q _ => ∃ x, vs = [x] ∧ knownV C H x ∧ Q (.bl (isI x)) H
theorem ok_is_integer (T : Txt K mg) : FnR P w K mg base CX0 1 T.f_is_integer (spIsInt T.C_Map) := by
  refine T.A_is_integer.ok sc_is_integer (fun vs H Q E h => ?_) (fun cdv A outer s H vs Q E hr h => ?_)
  · obtain ⟨x, rfl, _⟩ := h
    rfl
  · obtain ⟨x, rfl, hx, q⟩ := h
    refine ⟨_, pss_one (ps_ret (pe_and (pe_callB call_isi (by rfl) T.n_isinstance (by decide +kernel) (pa_cons (pv 0) (pa_cons (pe_bltn (v := .ty "int") (u := .type "int") (by rfl) T.n_int (by decide +kernel) rfl) pa_nil)))
      (pe_one (pe_not (pe_callB call_isi (by rfl) T.n_isinstance (by decide +kernel) (pa_cons (pv 0) (pa_cons (pe_bltn (v := .ty "bool") (u := .type "bool") (by rfl) T.n_bool (by decide +kernel) rfl) pa_nil))))))), ?_⟩
    obtain ⟨t, ht, k1, k2⟩ := ty_known T hx
    refine ⟨_, rfl, x, _, t, _, _, rfl, .ty _, ht, k1, _, rfl, ?_⟩
    refine ifB (fun hc => ?_) (fun hc => ?_)
    · refine ⟨_, rfl, x, _, t, _, _, rfl, .ty _, ht, k2, _, rfl, ?_⟩
      have e : (!isB x) = isI x := by cases x <;> first | rfl | cases hc
      rw [e]
      exact q
    · have e : isI x = false := by cases x <;> first | rfl | cases hc
      rw [e] at q
      exact q
def spInR (C : Addr) : Sp := fun vs H Q _ => ∃ x a b, vs = [x, .int a, .int b] ∧ knownV C H x ∧ Q (.bl (inR x a b)) H
theorem ok_in_range (T : Txt K mg) : FnR P w K mg base CX0 2 T.f_in_range (spInR T.C_Map) := by
  refine T.A_in_range.ok sc_in_range (fun vs H Q E h => ?_) (fun cdv A outer s H vs Q E hr h => ?_)
  · obtain ⟨x, a, b, rfl, _⟩ := h
    rfl
  · obtain ⟨x, a, b, rfl, hx, q⟩ := h
    refine ⟨_, pss_one (ps_ret (pe_and (pe_callR (ok_is_integer T) hr T.A_is_integer.kp rfl T.g_is_integer pass0 (pa_cons (pv 0) pa_nil))
      (pe_one (pe_chain op_le op_le (pv 1) (pv 0) (pv 2))))), ?_⟩
    refine ⟨_, rfl, x, rfl, hx, _, rfl, ?_⟩
    cases x with
    | int i =>
      refine iteT ⟨_, rfl, _, rfl, _, _, rfl, rfl, _, rfl, ?_⟩
      refine ifD (fun h => ?_) (fun h => ?_)
      · refine ⟨_, rfl, _, _, rfl, rfl, ?_⟩
        have e : inR (.int i) a b = decide (i ≤ b) := by simp [inR, h]
        rw [e] at q
        exact q
      · have e : inR (.int i) a b = false := by simp [inR, h]
        rw [e] at q
        exact q
    | _ => exact iteF q
/-! ### the law's draws -/
def spDraw : Sp := fun vs H Q _ => ∃ (p : Addr) (a b n : Int), vs = [.ref p, .int n] ∧ H p = some (.lst [.int a, .int b]) ∧ 0 ≤ a ∧ 0 ≤ b ∧ b < 2147483647 ∧ 0 < n ∧ n < 1073741824 ∧
  ∀ a' b' r : Int, 0 ≤ a' → 0 ≤ b' → b' < 2147483647 → 0 ≤ r → r < n → Q (.int r) (upd H p (.lst [.int a', .int b']))
theorem ok_draw (T : Txt K mg) : FnR P w K mg base CX0 1 T.f_l_draw spDraw := by
  refine T.A_l_draw.ok sc_l_draw (fun vs H Q E h => ?_) (fun cdv A outer s H vs Q E hr h => ?_)
  · obtain ⟨p, a, b, n, rfl, _⟩ := h
    rfl
  · obtain ⟨p, a, b, n, rfl, hp, ha, hb, hb2, hn, hn2, k⟩ := h
    refine ⟨_, pss_cons (ps_if (pt_cmpR op_gt (pe_ix ix_list (pv 0) pe_int (fun _ _ => rfl)) pe_int (nomark _))
        (pss_cons (ps_set (i := 2) sc_l_draw.nd rfl (Or.inl rfl) (pe_op op_mod (pe_ix ix_list (pv 0) pe_int (fun _ _ => rfl)) (pv 1)))
        (pss_cons (ps_asg (pe_op op_fdiv (pe_ix ix_list (pv 0) pe_int (fun _ _ => rfl)) (pv 1)) (pg_sub (pv 0) pe_int set_list))
        (pss_one (ps_ret (pv 2))))) pss_nil)
      (pss_cons (ps_asg (pe_op op_mod (pe_op op_add (pe_op op_mul (pe_ix ix_list (pv 0) pe_int (fun _ _ => rfl)) pe_int) pe_int) pe_int) (pg_sub (pv 0) pe_int set_list))
      (pss_one (ps_ret (pe_op op_mod (pe_op op_fdiv (pe_op op_mod (pe_op op_mul (pe_ix ix_list (pv 0) pe_int (fun _ _ => rfl)) (pe_ix ix_list (pv 0) pe_int (fun _ _ => rfl))) pe_int) pe_int) (pv 1))))), ?_⟩
    refine ⟨_, rfl, p, _, 0, _, rfl, rfl, SqL.of hp, rfl, _, _, rfl, rfl, _, rfl, ?_⟩
    refine ifD (fun h => ?_) (fun h => ?_)
    · refine ⟨_, rfl, p, _, 0, _, rfl, rfl, SqL.of hp, rfl, _, rfl, _, _, rfl, rfl, hn, ?_⟩
      refine ⟨_, rfl, p, _, 0, _, rfl, rfl, SqL.of hp, rfl, _, rfl, _, _, rfl, rfl, ⟨hn, hn2⟩, _, rfl, p, _, 0, _, rfl, rfl, hp, rfl, ?_⟩
      refine ⟨_, rfl, ?_⟩
      exact k (a / n) b (a % n) (Int.ediv_nonneg ha (by omega)) hb hb2 (Int.emod_nonneg _ (by omega)) (Int.emod_lt_of_pos _ hn)
    · have m1 : 0 ≤ (b * 48271 + 11) % 2147483647 := Int.emod_nonneg _ (by decide)
      have m2 : (b * 48271 + 11) % 2147483647 < 2147483647 := Int.emod_lt_of_pos _ (by decide)
      refine ⟨_, rfl, p, _, 1, _, rfl, rfl, SqL.of hp, rfl, _, _, rfl, rfl, .inr ⟨by decide, by decide⟩, _, _, rfl, rfl, _, _, rfl, rfl, (by show (0 : Int) < 2147483647; decide), _, rfl, p, _, 1, _, rfl, rfl, hp, rfl, ?_⟩
      refine ⟨_, rfl, p, _, 1, _, rfl, rfl, SqL.of upd_same, rfl, _, rfl, p, _, 1, _, rfl, rfl, SqL.of upd_same, rfl, _, _, rfl, rfl, .inl ⟨by omega, by omega⟩, _, _, rfl, rfl, (by show (0 : Int) < 2147483629; decide), _, _, rfl, rfl, ⟨by decide, by decide⟩, _, rfl, _, _, rfl, rfl, hn, ?_⟩
      exact k a ((b * 48271 + 11) % 2147483647) _ ha m1 m2 (Int.emod_nonneg _ (by omega)) (Int.emod_lt_of_pos _ hn)
end
end My
namespace My
open PySem L2 U StX PM
section
variable {P : Program} {w : World} {K : PySem.W.Frag} {mg : Str → Option Value} {base : Heap}
theorem head_int (xs : List V) (h : ∀ v ∈ xs, ∃ i, v = V.int i) : ∃ c, atI (xs ++ [V.int 0]) 0 = some (V.int c) := by
  cases xs with
  | nil => exact ⟨0, rfl⟩
  | cons a r =>
    obtain ⟨i, rfl⟩ := h a List.mem_cons_self
    refine ⟨i, atI_nat (j := 0) ?_⟩
    rfl
theorem cut_int (ns : List Int) (lo hi : Option Int) : ∀ v ∈ cutV (ns.map V.int) lo hi, ∃ i, v = V.int i := by
  intro v hv
  unfold cutV at hv
  have h1 := List.mem_of_mem_drop (List.mem_of_mem_take hv)
  obtain ⟨i, _, rfl⟩ := List.mem_map.mp h1
  exact ⟨i, rfl⟩
def spHand (K : PySem.W.Frag) : Sp := fun vs H Q _ => ∃ (a : Addr) (ns : List Int) (k : Int), vs = [.ref a, .int k] ∧ SqL K H a (ns.map V.int) ∧ ns.length ≤ 63 ∧
  ∀ p H' x y, H p = none → H' p = some (.lst [.int x, .int y]) → Same H H' → 0 ≤ x → 0 ≤ y → y < 2147483647 → Q (.ref p) H'
theorem ok_hand (T : Txt K mg) : FnR P w K mg base CX0 1 T.f_l_hand (spHand K) := by
  refine T.A_l_hand.ok sc_l_hand (fun vs H Q E h => ?_) (fun cdv A outer s H vs Q E hr h => ?_)
  · obtain ⟨a, ns, k, rfl, _⟩ := h
    rfl
  · obtain ⟨a, ns, k, rfl, hS, hl, q⟩ := h
    refine ⟨_, pss_cons (ps_set (i := 2) sc_l_hand.nd rfl (Or.inl rfl) (pe_ix ix_list (pe_op op_cat (pe_slice sl_list (pv 0) (po_some (pv 1)) (po_some (pe_op op_add (pv 1) pe_int))) (pe_lst (pa_cons pe_int pa_nil))) pe_int (fun _ _ => rfl)))
      (pss_cons (ps_set (i := 3) sc_l_hand.nd rfl (Or.inl rfl) (pe_op op_mod (pe_op op_mul (pe_op op_add (pe_op op_add (pe_op op_mod (pv 2) pe_int) (pe_op op_mul pe_int (pv 1))) pe_int) pe_int) pe_int))
      (pss_one (ps_ret (pe_lst (pa_cons (pe_op op_mul (pe_callTy call_int1 (by rfl) T.n_int (by decide +kernel) (pa_cons (pe_cmpR op_ge (pv 2) (pe_op op_pow pe_int pe_int) (nomark _)) pa_nil)) (pv 2)) (pa_cons (pv 3) pa_nil)))))), ?_⟩
    refine ⟨_, rfl, _, rfl, _, rfl, _, rfl, _, _, rfl, rfl, _, rfl, a, _, rfl, hS, fun p1 n1 => ?_⟩
    refine ⟨(by show 1 ≤ sizeLine; decide), fun p2 n2 => ?_⟩
    have n12 : p1 ≠ p2 := ne_of_none upd_same n2
    have hcl := cutV_length (ns.map V.int) (some k) (some (k + 1))
    rw [List.length_map] at hcl
    refine ⟨p1, p2, cutV (ns.map V.int) (some k) (some (k + 1)), [.int 0], rfl, rfl, (by rw [upd_ne n12, upd_same]), upd_same, ?_, fun p3 n3 => ?_⟩
    · show _ + 1 ≤ sizeLine
      exact Nat.le_trans (by omega : _ ≤ 64) (by decide)
    obtain ⟨c, hc⟩ := head_int _ (cut_int ns (some k) (some (k + 1)))
    refine ⟨p3, _, 0, .int c, rfl, rfl, SqL.of upd_same, hc, ?_⟩
    refine ⟨_, rfl, _, _, rfl, rfl, (by show (0 : Int) < 2147483647; decide), _, rfl, _, _, rfl, rfl, .inl ⟨by decide, by decide⟩, _, _, rfl, rfl, _, _, rfl, rfl, _, _, rfl, rfl, .inr ⟨by decide, by decide⟩, _, _, rfl, rfl, (by show (0 : Int) < 2147483629; decide), ?_⟩
    refine ⟨_, rfl, _, _, rfl, rfl, ⟨by decide, by decide, by decide⟩, _, _, rfl, rfl, .inr ⟨_, rfl, _, rfl, _, _, rfl, rfl, .inl ?_, _, rfl, (by show 2 ≤ sizeLine; decide), fun p4 n4 => ?_⟩⟩
    · cases decide ((10 : Int) ^ (18 : Int).toNat ≤ c) <;> exact ⟨by decide, by decide⟩
    · have s3 := ((Same.new (o := .lst (cutV (ns.map V.int) (some k) (some (k + 1)))) n1).trans (Same.new (o := .lst [.int 0]) n2)).trans (Same.new (o := .lst (cutV (ns.map V.int) (some k) (some (k + 1)) ++ [.int 0])) n3)
      refine q p4 _ _ _ (s3.free n4) upd_same (s3.trans (Same.new n4)) ?_ (Int.emod_nonneg _ (by decide)) ?_
      · cases hd : decide ((10 : Int) ^ (18 : Int).toNat ≤ c) with
        | true =>
          have := of_decide_eq_true hd
          have h10 : (0 : Int) ≤ 10 ^ (18 : Int).toNat := by decide
          show 0 ≤ 1 * c
          omega
        | false => show 0 ≤ 0 * c; omega
      · have := Int.emod_lt_of_pos ((c % 2147483647 + 7919 * k + 1) * 48271) (show (0 : Int) < 2147483629 by decide)
        omega
end
end My
namespace My
open PySem L2 U StX PM
section
variable {P : Program} {w : World} {K : PySem.W.Frag} {mg : Str → Option Value} {base : Heap}
def rowOk (n : Int) (p : Int × Int) : Bool := inR (.int p.1) 0 (n - 1) && inR (.int p.2) 0 (n - 1)
def okArr (n : Int) (l : List (Int × Int)) : Bool := l.all (rowOk n) && decide (l.map (·.2)).Nodup
def tgt (l : List (Int × Int)) : List (Key × V) := l.map fun p => (Sum.inl p.2, V.bl true)
theorem tgt_key {l : List (Int × Int)} {y : Int} : (Sum.inl y : Key) ∈ (tgt l).map (·.1) ↔ y ∈ l.map (·.2) := by
  unfold tgt
  rw [List.map_map]
  constructor
  · intro h
    obtain ⟨p, hp, e⟩ := List.mem_map.mp h
    exact List.mem_map.mpr ⟨p, hp, Sum.inl.inj e⟩
  · intro h
    obtain ⟨p, hp, e⟩ := List.mem_map.mp h
    exact List.mem_map.mpr ⟨p, hp, congrArg Sum.inl e⟩
theorem tgt_val {l : List (Int × Int)} {y : Int} : (valV (tgt l) (Sum.inl y : Key)).isSome = decide (y ∈ l.map (·.2)) := by
  by_cases h : y ∈ l.map (·.2)
  · have h' := tgt_key.mpr h
    rw [decide_eq_true h]
    cases e : valV (tgt l) (Sum.inl y : Key) with
    | some v => rfl
    | none =>
      obtain ⟨p, hp, e2⟩ := List.mem_map.mp h'
      exfalso
      unfold valV at e
      rw [Option.map_eq_none_iff, List.find?_eq_none] at e
      exact e p hp (by simp [e2])
  · rw [decide_eq_false h, valV_none fun z => h (tgt_key.mp z)]
    rfl
theorem okArr_step {n : Int} {l : List (Int × Int)} {i : Nat} {p : Int × Int} (h : l[i]? = some p) : okArr n (l.take (i + 1)) = (okArr n (l.take i) && (rowOk n p && !decide (p.2 ∈ (l.take i).map (·.2)))) := by
  rw [take_more h]
  unfold okArr
  rw [List.all_append, List.map_append]
  have e : decide (((l.take i).map (·.2) ++ [p].map (·.2)).Nodup) = (decide ((l.take i).map (·.2)).Nodup && !decide (p.2 ∈ (l.take i).map (·.2))) := by
    rw [Bool.eq_iff_iff]
    simp only [decide_eq_true_eq, Bool.and_eq_true, Bool.not_eq_true', decide_eq_false_iff_not]
    rw [List.nodup_append]
    constructor
    · rintro ⟨h1, _, h2⟩
      exact ⟨h1, fun hm => h2 _ hm _ (by simp) rfl⟩
    · rintro ⟨h1, h2⟩
      refine ⟨h1, by simp, fun a ha b hb e => ?_⟩
      simp at hb
      subst hb
      exact h2 (e ▸ ha)
  rw [e]
  simp only [List.all_cons, List.all_nil, Bool.and_true]
  cases (l.take i).all (rowOk n) <;> cases rowOk n p <;> cases decide ((l.take i).map (·.2)).Nodup <;> simp
theorem okArr_cut {n : Int} {l : List (Int × Int)} {i : Nat} (h : okArr n (l.take i) = false) : okArr n l = false := by
  cases e : okArr n l with
  | false => rfl
  | true =>
    unfold okArr at e h
    rw [Bool.and_eq_true] at e
    have h1 : (l.take i).all (rowOk n) = true := by
      rw [List.all_eq_true] at e ⊢
      exact fun p hp => e.1 p (List.mem_of_mem_take hp)
    have h2 : ((l.take i).map (·.2)).Nodup := by
      have := of_decide_eq_true e.2
      rw [List.map_take]
      exact List.Sublist.nodup (List.take_sublist _ _) this
    rw [h1, decide_eq_true h2] at h
    cases h
def spArr : Sp := fun vs H Q _ => ∃ (n : Int) (d : Addr) (l : List (Int × Int)), vs = [.int n, .ref d] ∧ H d = some (.dK (kvI l)) ∧ l.length ≤ 1000 ∧ ∀ H', Same H H' → Q (.bl (okArr n l)) H'
theorem ok_are_arrows (T : Txt K mg) : FnR P w K mg base CX0 3 T.f_are_arrows spArr := by
  refine T.A_are_arrows.ok sc_are_arrows (fun vs H Q E h => ?_) (fun cdv A outer s H vs Q E hr h => ?_)
  · obtain ⟨n, d, l, rfl, _⟩ := h
    rfl
  · obtain ⟨n, d, l, rfl, hd, hl, q⟩ := h
    have hu := hu_of hr
    refine ⟨_, pss_cons (ps_if (pt_not (pt_val (pe_callB call_isi (by rfl) T.n_isinstance (by decide +kernel) (pa_cons (pv 1) (pa_cons (pe_bltn (v := .ty "dict") (u := .type "dict") (by rfl) T.n_dict (by decide +kernel) rfl) pa_nil))))) (pss_one (ps_ret pe_bl)) pss_nil)
      (pss_cons (ps_set (i := 2) sc_are_arrows.nd rfl (Or.inl rfl) pe_dnewK)
      (pss_cons (ps_lock (ps_for PassesOwn.never rfl (pi_items (pv 1)) (pg_tup rfl (pgs_cons (pg_name (i := 3) sc_are_arrows.nd rfl (Or.inl rfl)) (pgs_cons (pg_name (i := 4) sc_are_arrows.nd rfl (Or.inl rfl)) pgs_nil)))
        (pss_cons (ps_if (PW.pt (pw_or (pt_not (pt_val (pe_callR (ok_in_range T) hr T.A_in_range.kp rfl T.g_in_range pass0 (pa_cons (pv 3) (pa_cons pe_int (pa_cons (pe_op op_sub (pv 0) pe_int) pa_nil))))))
            (pw_or (pt_not (pt_val (pe_callR (ok_in_range T) hr T.A_in_range.kp rfl T.g_in_range pass0 (pa_cons (pv 4) (pa_cons pe_int (pa_cons (pe_op op_sub (pv 0) pe_int) pa_nil))))))
            (pw_or1 (pt_cmp (pc_din hu (pv 4) (pv 2))))))) (pss_one (ps_ret pe_bl)) pss_nil)
        (pss_one (ps_dput hu (pv 2) (pv 4) pe_bl rfl)))))
      (pss_one (ps_ret pe_bl)))), ?_⟩
    refine ⟨_, rfl, _, _, _, _, true, rfl, .ty _, .base (.dK hd), kit_ty (by decide +kernel), _, rfl, ?_⟩
    refine iteF ?_
    intro t ht
    have ntd : t ≠ d := fun e => by rw [e, hd] at ht; cases ht
    have hd1 : (upd H t (.dK [])) d = some (.dK (kvI l)) := by rw [upd_ne ntd.symm]; exact hd
    refine ⟨d, _, hd1, trivial, fun od => ?_⟩
    refine ⟨_, rfl, d, od, kvI l, rfl, upd_same, ?_⟩
    refine for_it walk_items (fun i σ H' => ∃ v3 v4, σ = [some (.int n), some (.ref d), some (.ref t), v3, v4] ∧ H' d = some (.frz od (.dK (kvI l))) ∧ Off d H H' ∧ H' t = some (.dK (tgt (l.take i))) ∧ okArr n (l.take i) = true)
      ⟨none, none, rfl, upd_same, (Off.new ht).tr Off.lock, (by rw [upd_ne ntd]; exact upd_same), rfl⟩ (fun i σ H' _ ⟨_, _, _, p, _⟩ => p) ?_ ?_
    · rintro i v σ H' H'' hi ⟨v3, v4, rfl, p1, p2, p3, p4⟩ ⟨U, a, b, rfl, hU, rfl, e1, e2⟩
      rw [kvI_length] at hi
      obtain ⟨⟨x, y⟩, exy⟩ : ∃ p, l[i]? = some p := ⟨_, List.getElem?_eq_getElem hi⟩
      have ek : (kvI l)[i]? = some (Sum.inl x, V.int y) := by unfold kvI; rw [List.getElem?_map, exy]; rfl
      dsimp only at e1 e2
      rw [ek] at e1 e2
      cases e1; cases e2
      have nUd : d ≠ U := ne_of_none p1 hU
      have nUt : t ≠ U := ne_of_none p3 hU
      have d3 : (upd H' U (.tup [kV (Sum.inl x), .int y])) d = some (.frz od (.dK (kvI l))) := by rw [upd_ne nUd]; exact p1
      have t3 : (upd H' U (.tup [kV (Sum.inl x), .int y])) t = some (.dK (tgt (l.take i))) := by rw [upd_ne nUt]; exact p3
      have o3 : Off d H (upd H' U (.tup [kV (Sum.inl x), .int y])) := p2.tr (Off.new hU)
      have bad : (rowOk n (x, y) && !decide (y ∈ (l.take i).map (·.2))) = false → Q (.bl false) (upd (upd H' U (.tup [kV (Sum.inl x), .int y])) d (.dK (kvI l))) := by
        intro hb
        have h1 := okArr_step (n := n) exy
        rw [p4, hb] at h1
        have := q _ (o3.back hd)
        rw [okArr_cut h1] at this
        exact this
      refine ⟨U, [.int x, .int y], rfl, SqT.of upd_same, rfl, .int x, [.int y], rfl, .int y, [], rfl, rfl, ?_⟩
      refine ⟨_, rfl, _, rfl, _, _, rfl, rfl, .int x, 0, n - 1, rfl, trivial, _, rfl, ?_⟩
      refine ifNB (fun hc => iteT ⟨d3, bad ?_⟩) (fun hc => ?_)
      · simp [rowOk, hc]
      refine ⟨_, rfl, _, rfl, _, _, rfl, rfl, .int y, 0, n - 1, rfl, trivial, _, rfl, ?_⟩
      refine ifNB (fun hc2 => iteT ⟨d3, bad ?_⟩) (fun hc2 => ?_)
      · simp [rowOk, hc2]
      refine ⟨_, rfl, _, rfl, t, _, rfl, DGet.k (k := Sum.inl y) t3, _, rfl, ?_⟩
      rw [tgt_val]
      refine ifD (fun hm => ⟨d3, bad ?_⟩) (fun hm => ?_)
      · rw [decide_eq_true hm]; simp
      have hlen : (tgt (l.take i)).length ≤ 1000 := by unfold tgt; rw [List.length_map, List.length_take]; omega
      refine ⟨_, rfl, _, rfl, t, _, rfl, DPut.k (k := Sum.inl y) t3 (small1000 hlen), ?_⟩
      refine ⟨_, _, rfl, ?_, o3.mut ht, ?_, ?_⟩
      · rw [upd_ne ntd.symm]; exact d3
      · rw [upd_same, putK_new _ (valV_none fun z => hm (tgt_key.mp z)), take_more exy]
        unfold tgt
        rw [List.map_append]
        rfl
      · rw [okArr_step exy, p4, decide_eq_false hm]
        simp [rowOk, hc, hc2]
    · rintro σ H' ⟨v3, v4, rfl, p1, p2, p3, p4⟩
      rw [kvI_length, List.take_length] at p4
      have := q _ (p2.back hd)
      rw [p4] at this
      exact ⟨p1, this⟩
end
end My
namespace My
open PySem L2 U StX PM
section
variable {P : Program} {w : World} {K : PySem.W.Frag} {mg : Str → Option Value} {base : Heap}
theorem ne_fld : ¬ (("own_size" : Str) = "own_arrows") := by decide +kernel
/-- a map's attributes -/
def flds (n : Int) (D : Addr) : List (Str × V) := putF "own_arrows" (.ref D) (putF "own_size" (.int n) [])
theorem flds_size (n : Int) (D : Addr) : (flds n D).lookup ("own_size" : Str) = some (.int n) := by
  unfold flds
  rw [lookup_putF, if_neg ne_fld, lookup_putF, if_pos rfl]
theorem flds_arrows (n : Int) (D : Addr) : (flds n D).lookup ("own_arrows" : Str) = some (.ref D) := by
  unfold flds
  rw [lookup_putF, if_pos rfl]
/-- a Map of n elements stands at m: the map f -/
structure IsMap (C : Addr) (H : Hp) (m : Addr) (n : Int) (f : PF) : Prop where
  ob : ∃ dx D, H m = some (.ins C dx (flds n D)) ∧ H D = some (.dK (kvI (tab n f)))
  wf : WF n f
  lo : 1 ≤ n
  hi : n ≤ 300
theorem IsMap.same {C : Addr} {H H' : Hp} {m : Addr} {n : Int} {f : PF} (a : IsMap C H m n f) (s : Same H H') : IsMap C H' m n f := by
  obtain ⟨⟨dx, D, h1, h2⟩, wf, lo, hi⟩ := a
  exact ⟨⟨dx, D, s _ _ h1, s _ _ h2⟩, wf, lo, hi⟩
theorem okArr_of {n : Int} {l : List (Int × Int)} {f : PF} (d : DI l f) (w : WF n f) : okArr n l = true := by
  unfold okArr
  rw [Bool.and_eq_true]
  refine ⟨List.all_eq_true.mpr fun p hp => ?_, decide_eq_true (d.vals w)⟩
  obtain ⟨x, y⟩ := p
  have h := w.dom x y (d.mem.mp hp)
  simp only [rowOk, inR, Bool.and_eq_true, decide_eq_true_eq]
  omega
theorem madeR_tab {l : List (Int × Int)} {f : PF} (d : DI l f) (n : Nat) : madeR (fun k => (lk l k).isSome) (fun x => x) (fun k => ((lk l k).map V.int).getD .non) n = kvI (tabN f n) := by
  induction n with
  | zero => rfl
  | succ n ih =>
    rw [madeR_succ, ih]
    have e : tabN f (n + 1) = tabN f n ++ ((f (n : Int)).map fun y => ((n : Int), y)).toList := by
      unfold tabN
      rw [List.range_succ, List.filterMap_append]
      cases h : f (n : Int) <;> simp [h]
    rw [e, d.at_]
    cases h : f (n : Int) with
    | none => simp
    | some y => simp [kvI]
def spInit (C : Addr) : Sp := fun vs H Q _ => ∃ (p dx d : Addr) (n : Int) (l : List (Int × Int)) (f : PF), vs = [.ref p, .int n, .ref d] ∧ H p = some (.ins C dx []) ∧ H d = some (.dK (kvI l)) ∧ DI l f ∧ WF n f ∧ 1 ≤ n ∧ n ≤ 300 ∧ l.length ≤ 1000 ∧
  ∀ (H' : Hp) (D : Addr), Off p H H' → H D = none → H' p = some (.ins C dx (flds n D)) → H' D = some (.dK (kvI (tab n f))) → Q .non H'
theorem ok_init (T : Txt K mg) : FnR P w K mg base CX0 4 T.f_Map__init (spInit T.C_Map) := by
  refine T.A_Map__init.ok sc_Map__init (fun vs H Q E h => ?_) (fun cdv A outer s H vs Q E hr h => ?_)
  · obtain ⟨p, dx, d, n, l, f, rfl, _⟩ := h
    rfl
  · obtain ⟨p, dx, d, n, l, f, rfl, hp, hd, di, wf, h1, h3, hl, q⟩ := h
    have hu := hu_of hr
    obtain ⟨tk, hms⟩ := T.v_MAX_SIZE
    refine ⟨_, pss_cons (ps_if (pt_not (pt_val (pe_callR (ok_in_range T) (hr.mono (by decide)) T.A_in_range.kp rfl T.g_in_range pass0 (pa_cons (pv 1) (pa_cons pe_int (pa_cons (pe_glob (v := .int 300) rfl hms ⟨_, rfl⟩) pa_nil)))))) (pss_one ps_never) pss_nil)
      (pss_cons (ps_if (pt_not (pt_val (pe_callR (ok_are_arrows T) hr T.A_are_arrows.kp rfl T.g_are_arrows pass0 (pa_cons (pv 1) (pa_cons (pv 2) pa_nil))))) (pss_one ps_never) pss_nil)
      (pss_cons (ps_fld (pv 0) (pv 1) rfl)
      (pss_one (ps_fld (pv 0) (pe_dc (own := [("source", 3)]) (g := gName 3) rfl sc_Map__init.nd (pi_range1 rfl T.n_range (pa_cons (pv 1) pa_nil)) (blkOk_by (own := [("source", 3)]) (N := n_Map__init) (sc := defScope s_Map__init) (by decide +kernel))
        (fun _ _ _ _ _ => pg_name (i := 3) sc_Map__init.nd rfl (Or.inl rfl)) (fun _ _ _ _ _ => pts_one (pt_cmp (pc_din hu (pv 3) (pv 2)))) (fun _ _ _ _ _ => pv 3) (fun _ _ _ _ _ => pe_dget hu (pv 2) (pv 3) (fun _ _ => rfl))) rfl)))), ?_⟩
    refine ⟨_, rfl, .int n, 1, 300, rfl, trivial, _, rfl, ?_⟩
    have e1 : inR (.int n) 1 300 = true := by simp [inR, h1, h3]
    rw [e1]
    refine iteF ⟨_, rfl, _, rfl, n, d, l, rfl, hd, hl, fun H1 s1 => ⟨_, rfl, ?_⟩⟩
    rw [okArr_of di wf]
    refine iteF ?_
    have hp1 := s1 _ _ hp
    have npd : p ≠ d := ne_of hp hd (by intro z; cases z)
    refine ⟨_, rfl, _, rfl, p, T.C_Map, dx, [], rfl, hp1, T.o_Map.cl, T.na_own_size_Map, (by show 0 < 1000; decide), ?_⟩
    have hd1 : (upd H1 p (.ins T.C_Map dx (putF "own_size" (.int n) []))) d = some (.dK (kvI l)) := by rw [upd_ne npd.symm]; exact s1 _ _ hd
    dsimp only [sFld]
    refine dc_range (n := n.toNat) (fun k => (lk l k).isSome) (fun k => ((lk l k).map V.int).getD .non) (fun R r => ⟨_, rfl, n, rfl, by omega, by omega, r⟩) (fun _ => rfl) ?_ (small1000 (by omega)) ?_
    · intro k hk H2 s2
      have hd2 := s2 _ _ hd1
      refine ⟨fun R r => ?_, fun hc => ⟨fun R r => ?_, fun R r => ?_⟩⟩
      · refine ⟨_, rfl, _, rfl, d, _, rfl, DGet.k (k := Sum.inl (0 + (k : Int))) hd2, _, rfl, ?_⟩
        rw [valV_kvI, Option.isSome_map, Int.zero_add]
        exact r
      · refine ⟨_, rfl, ?_⟩
        rw [Int.zero_add]
        exact r
      · cases hv : lk l (k : Int) with
        | none => rw [hv] at hc; cases hc
        | some y =>
          rw [hv] at r
          refine ⟨_, rfl, _, rfl, d, .int y, rfl, ?_, r⟩
          have := DGet.k (k := Sum.inl (0 + (k : Int))) hd2
          rw [valV_kvI, Int.zero_add, hv] at this
          rw [Int.zero_add]
          exact this
    · intro D H2 nD hD s2
      rw [madeR_tab di] at hD
      have hp2 := s2 _ _ (upd_same : (upd H1 p (.ins T.C_Map dx (putF "own_size" (.int n) []))) p = _)
      refine ⟨_, rfl, p, T.C_Map, dx, _, rfl, hp2, T.o_Map.cl, T.na_own_arrows_Map, (by show 1 < 1000; decide), ?_⟩
      have nDp : D ≠ p := fun e => by rw [e, upd_same] at nD; cases nD
      have nD1 : H1 D = none := by rw [upd_ne nDp] at nD; exact nD
      refine q _ D (fun b o hb e => ?_) (s1.free nD1) upd_same ?_
      · rw [upd_ne hb]
        refine s2 _ _ ?_
        rw [upd_ne hb]
        exact s1 _ _ e
      · rw [upd_ne nDp]
        exact hD
end
end My
namespace My
open PySem L2 U StX PM
/-! ### what a comprehension over pairs of ints makes -/
def madeI (c : Int → Int → Bool) (kf vi : Int → Int → Int) (l : List (Int × Int)) : List (Int × Int) := (l.filter fun p => c p.1 p.2).map fun p => (kf p.1 p.2, vi p.1 p.2)
theorem madeD_I (c : Int → Int → Bool) (kf vi : Int → Int → Int) (l : List (Int × Int)) : madeD c kf (fun x y => .int (vi x y)) l = kvI (madeI c kf vi l) := by
  unfold madeD madeI kvI
  rw [List.map_map]
  rfl
theorem kvI_keys (l : List (Int × Int)) : (kvI l).map (·.1) = (l.map (·.1)).map Sum.inl := by
  unfold kvI
  rw [List.map_map, List.map_map]
  rfl
theorem nd_inl {l : List Int} (h : l.Nodup) : (l.map (Sum.inl : Int → Key)).Nodup := by
  induction l with
  | nil => exact List.nodup_nil
  | cons a r ih =>
    rw [List.nodup_cons] at h
    rw [List.map_cons, List.nodup_cons]
    refine ⟨fun hm => ?_, ih h.2⟩
    obtain ⟨b, hb, e⟩ := List.mem_map.mp hm
    exact h.1 (Sum.inl.inj e ▸ hb)
theorem mem_madeI {c : Int → Int → Bool} {kf vi : Int → Int → Int} {l : List (Int × Int)} {a b : Int} : (a, b) ∈ madeI c kf vi l ↔ ∃ x y, (x, y) ∈ l ∧ c x y = true ∧ kf x y = a ∧ vi x y = b := by
  unfold madeI
  rw [List.mem_map]
  constructor
  · rintro ⟨⟨x, y⟩, h, e⟩
    have h1 := List.mem_filter.mp h
    cases e
    exact ⟨x, y, h1.1, h1.2, rfl, rfl⟩
  · rintro ⟨x, y, h1, h2, rfl, rfl⟩
    exact ⟨(x, y), List.mem_filter.mpr ⟨h1, h2⟩, rfl⟩
theorem madeI_len (c : Int → Int → Bool) (kf vi : Int → Int → Int) (l : List (Int × Int)) : (madeI c kf vi l).length ≤ l.length := by
  unfold madeI
  rw [List.length_map]
  exact List.length_filter_le _ _
/-- the targets for sources -/
theorem nd_tgt {c : Int → Int → Bool} {vi : Int → Int → Int} {l : List (Int × Int)} (h : (l.map (·.2)).Nodup) : ((madeI c (fun _ y => y) vi l).map (·.1)).Nodup := by
  unfold madeI
  rw [List.map_map]
  exact List.Sublist.nodup ((List.filter_sublist (p := fun p : Int × Int => c p.1 p.2)).map (·.2)) h
section
variable {P : Program} {w : World} {K : PySem.W.Frag} {mg : Str → Option Value} {base : Heap}
theorem mk_map {C : Addr} {H : Hp} {d : Addr} {n : Int} {l : List (Int × Int)} {f : PF} {Q : VK} {E : XK} (hd : H d = some (.dK (kvI l))) (di : DI l f) (wf : WF n f) (h1 : 1 ≤ n) (h3 : n ≤ 300) (hl : l.length ≤ 1000)
    (q : ∀ r H', H r = none → Same H H' → IsMap C H' r n f → Q (.ref r) H') (x dx : Addr) (hx : H x = none) (hdx : H dx = none) (ne : dx ≠ x) :
    spInit C [.ref x, .int n, .ref d] (upd (upd H dx (.own x)) x (.ins C dx [])) (fun v H2 => v = .non ∧ Q (.ref x) H2) E := by
  have s0 : Same H (upd (upd H dx (.own x)) x (.ins C dx [])) := fun b o e => by
    rw [upd_ne (ne_of_none e hx), upd_ne (ne_of_none e hdx)]
    exact e
  refine ⟨x, dx, d, n, l, f, rfl, upd_same, s0 _ _ hd, di, wf, h1, h3, hl, fun H' D o nD hp hD => ⟨rfl, ?_⟩⟩
  refine q x H' hx (fun b u e => o b u (ne_of_none e hx) (s0 b u e)) ⟨⟨dx, D, hp, hD⟩, wf, h1, h3⟩
/-! ### size, arrows, common_size -/
def spSize (C : Addr) : Sp := fun vs H Q _ => ∃ m n f, vs = [.ref m] ∧ IsMap C H m n f ∧ Q (.int n) H
theorem ok_size (T : Txt K mg) : FnR P w K mg base CX0 1 T.f_Map_size (spSize T.C_Map) := by
  refine T.A_Map_size.ok sc_Map_size (fun vs H Q E h => ?_) (fun cdv A outer s H vs Q E hr h => ?_)
  · obtain ⟨m, n, f, rfl, _⟩ := h
    rfl
  · obtain ⟨m, n, f, rfl, ⟨⟨dx, D, h1, h2⟩, _⟩, q⟩ := h
    refine ⟨_, pss_one (ps_ret (pe_fld (pv 0) rfl)), ?_⟩
    exact ⟨_, rfl, m, _, dx, _, _, rfl, h1, T.o_Map.cl, T.na_own_size_Map, flds_size _ _, q⟩
def spArrows (C : Addr) : Sp := fun vs H Q _ => ∃ m n f, vs = [.ref m] ∧ IsMap C H m n f ∧ ∀ p, H p = none → Q (.ref p) (upd H p (.dK (kvI (tab n f))))
theorem ok_arrows (T : Txt K mg) : FnR P w K mg base CX0 1 T.f_Map_arrows (spArrows T.C_Map) := by
  refine T.A_Map_arrows.ok sc_Map_arrows (fun vs H Q E h => ?_) (fun cdv A outer s H vs Q E hr h => ?_)
  · obtain ⟨m, n, f, rfl, _⟩ := h
    rfl
  · obtain ⟨m, n, f, rfl, ⟨⟨dx, D, h1, h2⟩, _⟩, q⟩ := h
    refine ⟨_, pss_one (ps_ret (pe_callTy call_dictD (by rfl) T.n_dict (by decide +kernel) (pa_cons (pe_fld (pv 0) rfl) pa_nil))), ?_⟩
    exact ⟨_, rfl, m, _, dx, _, _, rfl, h1, T.o_Map.cl, T.na_own_arrows_Map, flds_arrows _ _, D, _, rfl, Rd.of h2, q⟩
theorem at_map {C : Addr} {H : Hp} {m : Addr} {n : Int} {f : PF} (h : IsMap C H m n f) : ∃ dx fs, H m = some (.ins C dx fs) := by
  obtain ⟨⟨dx, D, h1, _⟩, _⟩ := h
  exact ⟨dx, _, h1⟩
/-! ### the operators -/
end
end My
namespace My
open PySem L2 U StX PM
section
variable {P : Program} {w : World} {K : PySem.W.Frag} {mg : Str → Option Value} {base : Heap}
/-! ### ~f -/
theorem inv_di {n : Int} {f : PF} (wf : WF n f) : DI (madeI (fun _ _ => true) (fun _ y => y) (fun x _ => x) (tab n f)) (inv n f) := by
  refine di_of (nd_tgt (vals_tab wf)) fun a b => ?_
  rw [mem_madeI, inv_iff wf]
  constructor
  · rintro ⟨x, y, h1, _, rfl, rfl⟩
    exact (mem_tab wf).mp h1
  · intro h
    exact ⟨b, a, (mem_tab wf).mpr h, rfl, rfl, rfl⟩
def spInv (C : Addr) : Sp := fun vs H Q _ => ∃ a n f, vs = [.ref a] ∧ IsMap C H a n f ∧ ∀ r H', H r = none → Same H H' → IsMap C H' r n (inv n f) → Q (.ref r) H'
theorem ok_invert (T : Txt K mg) : FnR P w K mg base CX0 6 T.f_Map__invert (spInv T.C_Map) := by
  refine T.A_Map__invert.ok sc_Map__invert (fun vs H Q E h => ?_) (fun cdv A outer s H vs Q E hr h => ?_)
  · obtain ⟨a, n, f, rfl, _⟩ := h
    rfl
  · obtain ⟨a, n, f, rfl, ha, q⟩ := h
    refine ⟨_, pss_one (ps_ret (pe_makeR T.M_Map (ok_init T) hr rfl T.g_Map pass0 (pa_cons (pe_fld (pv 0) rfl) (pa_cons (pe_lock (pe_dc (own := [("source", 1), ("target", 2)]) (g := gTup K 2 (gCons (gName 1) (gCons (gName 2) gNil))) (tt := tYes) rfl sc_Map__invert.nd (pi_items (pe_fld (pv 0) rfl))
        (blkOk_by (own := [("source", 1), ("target", 2)]) (N := n_Map__invert) (sc := defScope s_Map__invert) (by decide +kernel))
        (fun _ _ _ _ _ => pg_tup rfl (pgs_cons (pg_name (i := 1) sc_Map__invert.nd rfl (Or.inl rfl)) (pgs_cons (pg_name (i := 2) sc_Map__invert.nd rfl (Or.inl rfl)) pgs_nil)))
        (fun _ _ _ _ _ => pts_nil) (fun _ _ _ _ _ => pv 2) (fun _ _ _ _ _ => pv 1))) pa_nil)))), ?_⟩
    obtain ⟨dx, D, h1, h2⟩ := id ha.ob
    have h9 := ha.hi
    refine ⟨_, rfl, a, _, dx, _, _, rfl, h1, T.o_Map.cl, T.na_own_size_Map, flds_size _ _, ?_⟩
    refine dc_items (fun _ _ => true) (fun _ y => y) (fun x _ => .int x) h2 (fun H' R r o => ?_) (fun _ _ => rfl) ?_ ?_ ?_ ?_
    · refine ⟨_, rfl, a, _, dx, _, _, rfl, o _ _ (ne_of h1 h2 (by intro z; cases z)) h1, T.o_Map.cl, T.na_own_arrows_Map, flds_arrows _ _, r⟩
    · intro x y hxy H1 o
      exact ⟨fun R r => r, fun _ => ⟨fun R r => ⟨_, rfl, r⟩, fun R r => ⟨_, rfl, r⟩⟩⟩
    · rw [madeD_I, kvI_keys]
      exact nd_inl (nd_tgt (vals_tab ha.wf))
    · exact small1000 (Nat.le_trans (tab_len n f) (by omega))
    · intro D2 H2 nD2 hD2 s2
      rw [madeD_I] at hD2
      refine mk_map hD2 (inv_di ha.wf) (wf_inv ha.wf) ha.lo ha.hi (Nat.le_trans (madeI_len ..) (Nat.le_trans (tab_len n f) (by omega))) fun r H3 nr s3 hm => ?_
      exact q r H3 (s2.free nr) (s2.trans s3) hm
/-! ### f & g, f - g -/
theorem isD_of {H : Hp} {a : Addr} {kvs : List (Key × V)} (h : H a = some (.dK kvs)) : IsD H a := by
  first | exact .inl ⟨_, .inl h⟩ | exact ⟨_, .inl h⟩ | exact .inl ⟨_, h⟩ | exact .inr (.inl ⟨_, h⟩)
end
end My
namespace My
open PySem L2 U StX PM
section
variable {P : Program} {w : World} {K : PySem.W.Frag} {mg : Str → Option Value} {base : Heap}
theorem di_id (N : Nat) : DI ((List.range N).map fun (i : Nat) => ((i : Int), (i : Int))) (idn (N : Int)) := by
  refine di_of ?_ fun a b => ?_
  · rw [List.map_map]
    have : ∀ n : Nat, ((List.range n).map ((fun p : Int × Int => p.1) ∘ fun (i : Nat) => ((i : Int), (i : Int)))).Nodup := by
      intro n
      induction n with
      | zero => exact List.nodup_nil
      | succ n ih =>
        rw [List.range_succ, List.map_append, List.nodup_append]
        refine ⟨ih, by simp, fun a ha b hb e => ?_⟩
        obtain ⟨i, hi, rfl⟩ := List.mem_map.mp ha
        rw [List.mem_range] at hi
        simp at hb
        have e' : (i : Int) = b := e
        omega
    exact this N
  · rw [List.mem_map]
    unfold idn
    constructor
    · rintro ⟨i, hi, e⟩
      rw [List.mem_range] at hi
      cases e
      rw [if_pos ⟨by omega, by omega⟩]
    · intro h
      split at h
      · rename_i hc
        cases h
        exact ⟨a.toNat, List.mem_range.mpr (by omega), by rw [Int.toNat_of_nonneg hc.1]⟩
      · cases h
/-! ### first_clash where there is none, | -/
theorem merge_lk : ∀ (r l : List (Int × Int)), (r.map (·.1)).Nodup → ∃ l', mergeK (kvI l) (kvI r) = kvI l' ∧ l'.length ≤ l.length + r.length ∧ ((l.map (·.1)).Nodup → (l'.map (·.1)).Nodup) ∧ ∀ z, lk l' z = (lk r z).or (lk l z)
  | [], l, _ => ⟨l, rfl, by simp, fun h => h, fun z => rfl⟩
  | (x, y) :: r, l, nd => by
    rw [List.map_cons, List.nodup_cons] at nd
    obtain ⟨l1, e1, n1, d1, k1⟩ := putK_lk (l := l) (x := x) (y := y)
    obtain ⟨l2, e2, n2, d2, k2⟩ := merge_lk r l1 nd.2
    refine ⟨l2, ?_, by simp; omega, fun h => d2 (d1 h), fun z => ?_⟩
    · show mergeK (putK (kvI l) (Sum.inl x) (V.int y)) (kvI r) = _
      rw [e1, e2]
    · rw [k2, k1, lk_cons]
      by_cases h : z = x
      · subst h
        rw [if_pos rfl, if_pos rfl, lk_none nd.1]
        rfl
      · have h' : ¬ x = z := fun q => h q.symm
        rw [if_neg h, if_neg h']
end
end My
namespace My
open PySem L2 U StX PM
section
variable {P : Program} {w : World} {K : PySem.W.Frag} {mg : Str → Option Value} {base : Heap}
theorem dgetI {H : Hp} {d : Addr} {l : List (Int × Int)} {f : PF} (h : H d = some (.dK (kvI l))) (di : DI l f) (x : Int) : DGet H d (.int x) ((f x).map V.int) := by
  have := DGet.k (k := Sum.inl x) h
  rw [valV_kvI, di.2] at this
  exact this
end
end My
namespace My
open PySem L2 U StX PM
/-! ### comprehensions over values and keys -/
/-! ### seen and found -/
def kvB (sl : List Int) : List (Key × V) := sl.map fun x => (Sum.inl x, V.bl true)
structure Fnd (n : Int) (f : PF) (k : Nat) (fl : List (Int × Int)) (sl : List Int) : Prop where
  nd : (fl.map (·.1)).Nodup
  at_ : ∀ x, lk fl x = if x ∈ sl then iter f k x else none
  sn : sl.Nodup
  dm : ∀ x ∈ sl, 0 ≤ x ∧ x < n
theorem Fnd.len {n : Int} {f : PF} {k : Nat} {fl : List (Int × Int)} {sl : List Int} (h : Fnd n f k fl sl) : fl.length ≤ n.toNat := by
  have := len_range (n := n) h.nd (fun x hx => by
    obtain ⟨⟨a, b⟩, hp, rfl⟩ := List.mem_map.mp hx
    have e := lk_some h.nd hp
    rw [h.at_] at e
    by_cases hm : a ∈ sl
    · exact h.dm _ hm
    · rw [if_neg hm] at e; cases e)
  rw [List.length_map] at this
  exact this
theorem Fnd.put {n : Int} {f : PF} {k : Nat} {fl fl' : List (Int × Int)} {sl sl' : List Int} {x y : Int} (h : Fnd n f k fl sl) (h1 : ∀ z, z ∈ sl' ↔ z ∈ sl ∨ z = x) (h2 : sl.Nodup → sl'.Nodup) (hx : 0 ≤ x ∧ x < n)
    (e : iter f k x = some y) (n1 : (fl.map (·.1)).Nodup → (fl'.map (·.1)).Nodup) (a1 : ∀ z, lk fl' z = if z = x then some y else lk fl z) : Fnd n f k fl' sl' := by
  refine ⟨n1 h.nd, fun z => ?_, h2 h.sn, fun z hz => ?_⟩
  · rw [a1]
    by_cases hz : z = x
    · subst hz
      rw [if_pos rfl, if_pos ((h1 z).mpr (.inr rfl)), e]
    · rw [if_neg hz, h.at_]
      by_cases hs : z ∈ sl
      · rw [if_pos hs, if_pos ((h1 z).mpr (.inl hs))]
      · rw [if_neg hs, if_neg fun q => ((h1 z).mp q).elim hs hz]
  · rcases (h1 z).mp hz with q | rfl
    · exact h.dm z q
    · exact hx
end My
namespace My
open PySem L2 U StX PM
section
variable {P : Program} {w : World} {K : PySem.W.Frag} {mg : Str → Option Value} {base : Heap}
theorem get_map {xs : List Int} {i : Nat} {a : Int} (h : xs[i]? = some a) : (xs.map V.int)[i]? = some (V.int a) := by
  rw [List.getElem?_map, h]; rfl
theorem Same.put {H H' : Hp} {p : Addr} {o : HO} (s : Same H H') (h : H p = none) : Same H (upd H' p o) := fun b u e => by rw [upd_ne (ne_of_none e h)]; exact s b u e
end
end My
namespace My
open PySem L2 U StX PM
/-! ### f.power(e) -/
def pw (n : Int) (f : PF) (e : Int) : PF := if e = 0 then idn n else if e < 0 then iter (inv n f) e.natAbs else iter f e.natAbs
end My
namespace My
open PySem L2 U StX PM
/-! ### a drawn map -/
structure Drw (n : Int) (i : Nat) (l : List (Int × Int)) (ns : List Int) : Prop where
  kn : (l.map (·.1)).Nodup
  vn : (l.map (·.2)).Nodup
  nn : ns.Nodup
  lt : ∀ p ∈ l, 0 ≤ p.1 ∧ p.1 < i ∧ 0 ≤ p.2 ∧ p.2 < n
  nt : ∀ y ∈ ns, 0 ≤ y ∧ y < n ∧ y ∉ l.map (·.2)
  ln : l.length ≤ i
  le : l.length + ns.length = n.toNat
theorem Drw.more {n : Int} {i : Nat} {l : List (Int × Int)} {ns : List Int} (h : Drw n i l ns) : Drw n (i + 1) l ns := by
  refine ⟨h.kn, h.vn, h.nn, fun p hp => ?_, h.nt, Nat.le_succ_of_le h.ln, h.le⟩
  have := h.lt p hp
  omega
theorem not_erase {ns : List Int} {k : Nat} {y : Int} (nd : ns.Nodup) (h : ns[k]? = some y) : y ∉ ns.eraseIdx k := by
  obtain ⟨hk, e⟩ := List.getElem?_eq_some_iff.mp h
  have e1 : ns = ns.take k ++ y :: ns.drop (k + 1) := by
    rw [← e]
    simp
  rw [List.eraseIdx_eq_take_drop_succ]
  intro hm
  rw [e1, List.nodup_append, List.nodup_cons] at nd
  rcases List.mem_append.mp hm with h1 | h1
  · exact nd.2.2 y h1 y List.mem_cons_self rfl
  · exact nd.2.1.1 h1
theorem Drw.put {n : Int} {i : Nat} {l : List (Int × Int)} {ns : List Int} (h : Drw n i l ns) {k : Nat} {y : Int} (hy : ns[k]? = some y) : Drw n (i + 1) (l ++ [((i : Int), y)]) (ns.eraseIdx k) ∧ (i : Int) ∉ l.map (·.1) := by
  have hm := h.nt y (List.mem_of_getElem? hy)
  have hi : (i : Int) ∉ l.map (·.1) := by
    intro hm
    obtain ⟨p, hp, e⟩ := List.mem_map.mp hm
    have := h.lt p hp
    omega
  obtain ⟨hk, _⟩ := List.getElem?_eq_some_iff.mp hy
  refine ⟨⟨?_, ?_, ?_, ?_, ?_, ?_, ?_⟩, hi⟩
  · rw [List.map_append, List.nodup_append]
    refine ⟨h.kn, by simp, fun a ha b hb e => ?_⟩
    simp at hb
    subst hb
    exact hi (e ▸ ha)
  · rw [List.map_append, List.nodup_append]
    refine ⟨h.vn, by simp, fun a ha b hb e => ?_⟩
    simp at hb
    subst hb
    exact hm.2.2 (e ▸ ha)
  · exact List.Sublist.nodup (List.eraseIdx_sublist _ _) h.nn
  · intro p hp
    rcases List.mem_append.mp hp with hp | hp
    · have := h.lt p hp
      omega
    · simp at hp
      subst hp
      dsimp only
      omega
  · intro z hz
    have h1 := h.nt z (List.mem_of_mem_eraseIdx hz)
    refine ⟨h1.1, h1.2.1, fun hq => ?_⟩
    rw [List.map_append] at hq
    rcases List.mem_append.mp hq with hq | hq
    · exact h1.2.2 hq
    · simp at hq
      subst hq
      exact not_erase h.nn hy hz
  · have := h.ln
    simp
    omega
  · have := h.le
    rw [List.length_append, List.length_singleton, List.length_eraseIdx, if_pos hk]
    omega
theorem two_in {l : List (Int × Int)} (vn : (l.map (·.2)).Nodup) : ∀ {x x' y : Int}, (x, y) ∈ l → (x', y) ∈ l → x = x' := by
  induction l with
  | nil => intro _ _ _ h; cases h
  | cons p r ih =>
    intro x x' y h1 h2
    rw [List.map_cons, List.nodup_cons] at vn
    rcases List.mem_cons.mp h1 with e1 | e1 <;> rcases List.mem_cons.mp h2 with e2 | e2
    · subst e1; cases e2; rfl
    · subst e1; exact absurd (List.mem_map.mpr ⟨(x', y), e2, rfl⟩) vn.1
    · subst e2; exact absurd (List.mem_map.mpr ⟨(x, y), e1, rfl⟩) vn.1
    · exact ih vn.2 e1 e2
theorem Drw.wf {n : Int} {l : List (Int × Int)} {ns : List Int} (h0 : 0 ≤ n) (h : Drw n n.toNat l ns) : WF n (lk l) := by
  refine ⟨fun x y e => ?_, fun x x' y e e' => two_in h.vn (lk_mem e) (lk_mem e')⟩
  have := h.lt _ (lk_mem e)
  dsimp only at this
  omega
theorem rg0 (n : Int) : rgV 0 n = ((List.range n.toNat).map fun (i : Nat) => (i : Int)).map V.int := by
  unfold rgV
  rw [List.map_map, show (n - 0).toNat = n.toNat by omega]
  refine List.map_congr_left fun a _ => ?_
  show V.int (0 + (a : Int)) = V.int (a : Int)
  rw [Int.zero_add]
theorem drw0 (n : Int) : Drw n 0 [] ((List.range n.toNat).map fun (i : Nat) => (i : Int)) := by
  refine ⟨List.nodup_nil, List.nodup_nil, ?_, fun p h => (nomatch h), fun y hy => ?_, Nat.le_refl _, by simp⟩
  · have := (di_id n.toNat).nd
    rw [List.map_map] at this
    exact this
  · obtain ⟨i, hi, rfl⟩ := List.mem_map.mp hy
    rw [List.mem_range] at hi
    exact ⟨by omega, by omega, by simp⟩
section
variable {P : Program} {w : World} {K : PySem.W.Frag} {mg : Str → Option Value} {base : Heap}
def PoolAt (H : Hp) (p : Addr) : Prop := ∃ a b : Int, H p = some (.lst [.int a, .int b]) ∧ 0 ≤ a ∧ 0 ≤ b ∧ b < 2147483647
theorem Off.put {p q : Addr} {H H' : Hp} {o : HO} (a : Off p H H') (h : H q = none) : Off p H (upd H' q o) := a.mut h
theorem Off.at {p : Addr} {H H' : Hp} {o : HO} (a : Off p H H') : Off p H (upd H' p o) := fun b u hb e => by rw [upd_ne hb]; exact a b u hb e
end
end My
namespace My
open PySem L2 U StX PM
/-! ### values that are no maps; check_map -/
def nonMapV (H : Hp) : V → Prop
  | .non => True | .bl _ => True | .int _ => True | .str _ => True
  | .ref a => (∃ xs, H a = some (.lst xs)) ∨ (∃ xs, H a = some (.tup xs)) ∨ (∃ kvs, H a = some (.dK kvs))
  | _ => False
def spChkM (C CE : Addr) : Sp := fun vs H Q E => ∃ x, vs = [x] ∧ ((∃ a n f, x = .ref a ∧ IsMap C H a n f ∧ Q .non H) ∨ (nonMapV H x ∧ ∀ d, H d = none → E (.ref CE) (some d) (upd H d (.xd [("part", .str "map")]))))
section
variable {P : Program} {w : World} {K : PySem.W.Frag} {mg : Str → Option Value} {base : Heap}
theorem ok_ini_InvalidMap (T : Txt K mg) : FnR P w K mg base CX0 1 T.f_InvalidMap__init (spIni1 T.C_InvalidMap "part") := by
  refine T.A_InvalidMap__init.ok sc_InvalidMap__init (fun vs H Q E h => ?_) (fun cdv A outer s H vs Q E hr h => ?_)
  · obtain ⟨a, v, rfl, _⟩ := h
    rfl
  · obtain ⟨a, v, rfl, ha, q⟩ := h
    refine ⟨_, pss_one (ps_ostG (pv 0) (pv 1)), ?_⟩
    exact ⟨_, rfl, _, rfl, a, T.C_InvalidMap, rfl, T.x_InvalidMap, T.na_part_InvalidMap, .inl ⟨ha, fun dx h1 h2 => q dx h1 h2⟩⟩
theorem ty_nonmap (T : Txt K mg) {H : Hp} {x : V} (h : nonMapV H x) : ∃ t, TyX K H x t ∧ PySem.W.kitOne K t (.ref T.C_Map) = some false := by
  cases x with
  | non => exact ⟨_, .base .non, T.kn_NoneType_Map⟩
  | bl b => exact ⟨_, .base (.bl b), T.kn_bool_Map⟩
  | int i => exact ⟨_, .base (.int i), T.kn_int_Map⟩
  | str z => exact ⟨_, .base (.str z), T.kn_str_Map⟩
  | ref a =>
    rcases h with ⟨xs, e⟩ | ⟨xs, e⟩ | ⟨xs, e⟩
    · exact ⟨_, .base (.lst e), T.kn_list_Map⟩
    · exact ⟨_, .base (.tup e), T.kn_tuple_Map⟩
    · exact ⟨_, .base (.dK e), T.kn_dict_Map⟩
  | byt b => exact h.elim
  | flt b => exact h.elim
  | ty b => exact h.elim
theorem ok_check_map (T : Txt K mg) : FnR P w K mg base (L2.CX P w) 3 T.f_check_map (spChkM T.C_Map T.C_InvalidMap) := by
  refine T.A_check_map.okX sc_check_map (fun vs H Q E h => ?_) (fun cdv A outer s H vs Q E hr h => ?_)
  · obtain ⟨x, rfl, _⟩ := h
    rfl
  · obtain ⟨x, rfl, hx⟩ := h
    refine ⟨_, pss_one (ps_if (pt_not (pt_val (pe_callB call_isi (by rfl) T.n_isinstance (by decide +kernel) (pa_cons (pv 0) (pa_cons (pe_glob (v := .ref T.C_Map) rfl T.g_Map rfl) pa_nil)))))
      (pss_one (ps_raise rfl (takes_of rfl rfl rfl rfl) (pmk_oexG T.x_InvalidMap T.m_InvalidMap__init T.ti_InvalidMap__init (ok_ini_InvalidMap T) (hr.mono (by decide)) pass0 rfl T.g_InvalidMap (pa_cons pe_str pa_nil)))) pss_nil), ?_⟩
    rcases hx with ⟨a, n, f, rfl, hm, q⟩ | ⟨hx, q⟩
    · obtain ⟨dx, fs, h1⟩ := at_map hm
      exact ⟨_, rfl, _, _, _, _, true, rfl, .own _, tyx_ins T.o_Map h1, T.self_Map, _, rfl, iteF q⟩
    · obtain ⟨t, ht, hk⟩ := ty_nonmap T hx
      exact ⟨_, rfl, _, _, _, _, false, rfl, .own _, ht, hk, _, rfl, iteT (mk_one fun d hd => q d hd)⟩
end
/-! ### lists of rows -/
def RowsAt (H : Hp) : List Addr → List (List Int) → Prop
  | [], [] => True
  | a :: as, r :: rs => H a = some (.lst (r.map V.int)) ∧ RowsAt H as rs
  | _, _ => False
theorem RowsAt.len {H : Hp} : ∀ {as : List Addr} {rs : List (List Int)}, RowsAt H as rs → as.length = rs.length
  | [], [], _ => rfl
  | _ :: as, _ :: rs, h => by rw [List.length_cons, List.length_cons, RowsAt.len h.2]
  | [], _ :: _, h => h.elim
  | _ :: _, [], h => h.elim
theorem RowsAt.map {H H' : Hp} : ∀ {as : List Addr} {rs : List (List Int)}, RowsAt H as rs → (∀ a ∈ as, ∀ xs, H a = some (.lst xs) → H' a = some (.lst xs)) → RowsAt H' as rs
  | [], [], _, _ => trivial
  | _ :: as, _ :: rs, h, k => ⟨k _ List.mem_cons_self _ h.1, RowsAt.map h.2 fun a ha => k a (List.mem_cons_of_mem _ ha)⟩
  | [], _ :: _, h, _ => h.elim
  | _ :: _, [], h, _ => h.elim
theorem RowsAt.same {H H' : Hp} {as : List Addr} {rs : List (List Int)} (h : RowsAt H as rs) (s : Same H H') : RowsAt H' as rs := h.map fun a _ xs e => s a _ e
theorem RowsAt.off {H : Hp} {as : List Addr} {rs : List (List Int)} {p : Addr} {o : HO} (h : RowsAt H as rs) (n : p ∉ as) : RowsAt (upd H p o) as rs := h.map fun a ha xs e => by
  have hne : a ≠ p := fun z => n (z ▸ ha)
  rw [upd_ne hne]; exact e
theorem RowsAt.snoc {H : Hp} {a : Addr} {r : List Int} : ∀ {as : List Addr} {rs : List (List Int)}, RowsAt H as rs → H a = some (.lst (r.map V.int)) → RowsAt H (as ++ [a]) (rs ++ [r])
  | [], [], _, e => ⟨e, trivial⟩
  | _ :: as, _ :: rs, h, e => ⟨h.1, RowsAt.snoc h.2 e⟩
  | [], _ :: _, h, _ => h.elim
  | _ :: _, [], h, _ => h.elim
theorem RowsAt.get {H : Hp} : ∀ {as : List Addr} {rs : List (List Int)}, RowsAt H as rs → ∀ (i : Nat) (a : Addr), as[i]? = some a → ∃ r, rs[i]? = some r ∧ H a = some (.lst (r.map V.int))
  | [], [], _, i, a, e => by simp at e
  | b :: as, r :: rs, h, 0, a, e => by cases e; exact ⟨r, rfl, h.1⟩
  | _ :: as, _ :: rs, h, i + 1, a, e => RowsAt.get h.2 i a e
  | [], _ :: _, h, _, _, _ => h.elim
  | _ :: _, [], h, _, _, _ => h.elim
theorem RowsAt.mem {H : Hp} {as : List Addr} {rs : List (List Int)} (h : RowsAt H as rs) {a : Addr} (ha : a ∈ as) : ∃ r ∈ rs, H a = some (.lst (r.map V.int)) := by
  obtain ⟨i, hi⟩ := List.mem_iff_getElem?.mp ha
  obtain ⟨r, e1, e2⟩ := h.get i a hi
  exact ⟨r, List.mem_of_getElem? e1, e2⟩
end My
namespace My
open PySem L2 U StX PM
section
variable {P : Program} {w : World} {K : PySem.W.Frag} {mg : Str → Option Value} {base : Heap}
structure Prt (n : Int) (f : PF) (H H' : Hp) (lh se : Addr) (ex : List Addr) (b : List Int) (hs : List Addr) (sl : List Int) (st : List Int) : Prop where
  sm : Same H H'
  l : H' lh = some (.lst (hs.map V.ref))
  s : H' se = some (.dK (kvB sl))
  r : RowsAt H' hs (st.map (rowN f))
  m : ∀ x, x ∈ sl ↔ x ∈ seenL f (b ++ st)
  nd : sl.Nodup
  nw : ∀ a ∈ hs, H a = none ∧ a ≠ lh ∧ a ≠ se ∧ a ∉ ex
/-- one row more, from a new list r, its marks merged -/
theorem Prt.more {n : Int} {f : PF} {H H1 H2 H3 : Hp} {lh se : Addr} {ex hs : List Addr} {b sl sl' st : List Int} {e : Int} {r : Addr} (p : Prt n f H H1 lh se ex b hs sl st) (hl0 : H lh = none) (hs0 : H se = none) (nls : lh ≠ se) (hex : ∀ a ∈ ex, H1 a ≠ none)
    (hr : H1 r = none) (s2 : Same H1 H2) (hr2 : H2 r = some (.lst ((rowN f e).map V.int))) (m1 : ∀ z, z ∈ sl' ↔ z ∈ sl ∨ z ∈ rowN f e) (n1 : sl.Nodup → sl'.Nodup) (s3 : Same (upd H2 lh (.lst (hs.map V.ref ++ [.ref r]))) H3) :
    Prt n f H (upd H3 se (.dK (kvB sl'))) lh se ex b (hs ++ [r]) sl' (st ++ [e]) := by
  have rl : r ≠ lh := fun z => by rw [z, p.l] at hr; cases hr
  have rs : r ≠ se := fun z => by rw [z, p.s] at hr; cases hr
  have r0 : H r = none := p.sm.free hr
  have rx : r ∉ ex := fun z => hex r z hr
  refine ⟨?_, ?_, upd_same, ?_, ?_, n1 p.nd, ?_⟩
  · refine Same.put ?_ hs0
    exact (Same.put (p.sm.trans s2) hl0).trans s3
  · rw [upd_ne nls, s3 _ _ upd_same, List.map_append]
    rfl
  · rw [List.map_append]
    refine RowsAt.snoc ?_ ?_
    · have h1 := (p.r.same s2).off (p := lh) (o := .lst (hs.map V.ref ++ [.ref r])) (fun z => (p.nw lh z).2.1 rfl)
      exact (h1.same s3).off fun z => (p.nw se z).2.2.1 rfl
    · rw [upd_ne rs]
      exact s3 _ _ (by rw [upd_ne rl]; exact hr2)
  · intro x
    rw [m1, p.m, mem_seenL, mem_seenL]
    constructor
    · rintro (⟨e', h1, h2⟩ | h)
      · exact ⟨e', by rw [← List.append_assoc]; exact List.mem_append_left _ h1, h2⟩
      · exact ⟨e, by simp, h⟩
    · rintro ⟨e', h1, h2⟩
      rw [← List.append_assoc] at h1
      rcases List.mem_append.mp h1 with h1 | h1
      · exact .inl ⟨e', h1, h2⟩
      · rw [List.mem_singleton] at h1
        subst h1
        exact .inr h2
  · intro a ha
    rcases List.mem_append.mp ha with ha | ha
    · exact p.nw a ha
    · rw [List.mem_singleton] at ha
      subst ha
      exact ⟨r0, rl, rs, rx⟩
/-! ### cycles_of, chains_of -/
end
end My
namespace My
open PySem L2 U StX PM
theorem asg_of {t : TE} {D : Ends} {σ : L2.St} {H : Hp} {i : Nat} (h : t σ H (fun v H' => D.nx (σ.set i (some v)) H')) : tAsg t (gName i) D σ H := h
/-! ### lists of ints: in, comprehensions -/
/-! ### rows with marks -/
def PairsAt (H : Hp) : List Addr → List Addr → List Bool → Prop
  | [], [], [] => True
  | p :: ps, a :: as, b :: bs => H p = some (.tup [.ref a, .bl b]) ∧ PairsAt H ps as bs
  | _, _, _ => False
theorem PairsAt.map {H H' : Hp} : ∀ {ps as : List Addr} {bs : List Bool}, PairsAt H ps as bs → (∀ p ∈ ps, ∀ xs, H p = some (.tup xs) → H' p = some (.tup xs)) → PairsAt H' ps as bs
  | [], [], [], _, _ => trivial
  | _ :: ps, _ :: as, _ :: bs, h, k => ⟨k _ List.mem_cons_self _ h.1, PairsAt.map h.2 fun a ha => k a (List.mem_cons_of_mem _ ha)⟩
  | [], [], _ :: _, h, _ => h.elim
  | [], _ :: _, _, h, _ => h.elim
  | _ :: _, [], _, h, _ => h.elim
  | _ :: _, _ :: _, [], h, _ => h.elim
theorem PairsAt.same {H H' : Hp} {ps as : List Addr} {bs : List Bool} (h : PairsAt H ps as bs) (s : Same H H') : PairsAt H' ps as bs := h.map fun a _ xs e => s a _ e
theorem PairsAt.off {H : Hp} {ps as : List Addr} {bs : List Bool} {q : Addr} {o u : HO} (h : PairsAt H ps as bs) (hq : H q = some u) (nt : ∀ xs, u ≠ .tup xs) : PairsAt (upd H q o) ps as bs := h.map fun a ha xs e => by
  have hne : a ≠ q := fun z => by subst z; rw [hq] at e; exact nt _ (Option.some.inj e)
  rw [upd_ne hne]; exact e
theorem PairsAt.len {H : Hp} : ∀ {ps as : List Addr} {bs : List Bool}, PairsAt H ps as bs → ps.length = as.length ∧ ps.length = bs.length
  | [], [], [], _ => ⟨rfl, rfl⟩
  | _ :: ps, _ :: as, _ :: bs, h => by
    have := PairsAt.len h.2
    simp [this.1.symm, this.2.symm]
  | [], [], _ :: _, h => h.elim
  | [], _ :: _, _, h => h.elim
  | _ :: _, [], _, h => h.elim
  | _ :: _, _ :: _, [], h => h.elim
theorem PairsAt.get {H : Hp} : ∀ {ps as : List Addr} {bs : List Bool}, PairsAt H ps as bs → ∀ (i : Nat) (p : Addr), ps[i]? = some p → ∃ a b, as[i]? = some a ∧ bs[i]? = some b ∧ H p = some (.tup [.ref a, .bl b])
  | [], [], [], _, i, a, e => by simp at e
  | _ :: ps, a :: as, b :: bs, h, 0, p, e => by cases e; exact ⟨a, b, rfl, rfl, h.1⟩
  | _ :: ps, _ :: as, _ :: bs, h, i + 1, p, e => PairsAt.get h.2 i p e
  | [], [], _ :: _, h, _, _, _ => h.elim
  | [], _ :: _, _, h, _, _, _ => h.elim
  | _ :: _, [], _, h, _, _, _ => h.elim
  | _ :: _, _ :: _, [], h, _, _, _ => h.elim
end My
namespace My
open PySem L2 U StX PM
/-! ### rows by their first elements -/
def RowsZ (f : PF) (H : Hp) (zs : List (Addr × Int)) : Prop := ∀ z ∈ zs, H z.1 = some (.lst ((rowN f z.2).map V.int))
theorem RowsZ.at {f : PF} {H : Hp} : ∀ {zs : List (Addr × Int)}, RowsZ f H zs → RowsAt H (zs.map (·.1)) ((zs.map (·.2)).map (rowN f))
  | [], _ => trivial
  | z :: zs, h => ⟨h z List.mem_cons_self, RowsZ.at fun x hx => h x (List.mem_cons_of_mem _ hx)⟩
/-! ### data that may be compared -/
end My
namespace My
open PySem L2 U StX PM
theorem SqL.same {K : PySem.W.Frag} {H H' : Hp} {a : Addr} {xs : List V} (h : SqL K H a xs) (s : Same H H') : SqL K H' a xs := by
  rcases h with (h | ⟨o, h⟩) | h
  · exact .inl (.inl (s _ _ h))
  · exact .inl (.inr ⟨o, s _ _ h⟩)
  · exact .inr h
theorem Same.off {H H1 H2 : Hp} {p : Addr} (s : Same H H1) (o : Off p H1 H2) (h : H p = none) : Same H H2 := fun b u e => o b u (ne_of_none e h) (s b u e)
theorem yes_ {σ : L2.St} {H : Hp} {A B : Hp → Prop} (h : A H) : tYes σ H (fun b H3 => if b = true then A H3 else B H3) := by
  show (if true = true then A H else B H)
  rw [if_pos rfl]
  exact h
theorem PoolAt.same {H H' : Hp} {p : Addr} (h : PoolAt H p) (s : Same H H') : PoolAt H' p := by
  obtain ⟨a, b, e, r⟩ := h
  exact ⟨a, b, s _ _ e, r⟩
theorem PoolAt.lst {H : Hp} {p : Addr} (h : PoolAt H p) : ∃ xs, H p = some (.lst xs) := by
  obtain ⟨a, b, e, r⟩ := h
  exact ⟨_, e⟩
theorem PoolAt.ne {H : Hp} {p q : Addr} (h : PoolAt H p) (hq : H q = none) : p ≠ q := by
  obtain ⟨xs, e⟩ := h.lst
  exact ne_of_none e hq
def spLaw (K : PySem.W.Frag) : Sp := fun vs H Q _ => ∃ (a : Addr) (ns : List Int), vs = [.ref a] ∧ SqL K H a (ns.map V.int) ∧ ns.length ≤ 63 ∧ ∀ H', Q (.bl true) H'
theorem IsMap.off {C p : Addr} {H H' : Hp} {m : Addr} {n : Int} {f : PF} (a : IsMap C H m n f) (o : Off p H H') (h : ∃ xs, H p = some (.lst xs)) : IsMap C H' m n f := by
  obtain ⟨⟨dx, D, h1, h2⟩, wf, lo, hi⟩ := a
  obtain ⟨xs, h⟩ := h
  exact ⟨⟨dx, D, o _ _ (fun e => by rw [e, h] at h1; cases h1) h1, o _ _ (fun e => by rw [e, h] at h2; cases h2) h2⟩, wf, lo, hi⟩
/-- Map(n, d) -/
theorem init_of {C : Addr} {H : Hp} {d : Addr} {n : Int} {l : List (Int × Int)} {f : PF} {R : VK} {E : XK} {x dx : Addr} (hd : H d = some (.dK (kvI l))) (di : DI l f) (wf : WF n f) (h1 : 1 ≤ n) (h3 : n ≤ 300) (hl : l.length ≤ 1000)
    (hx : H x = none) (hdx : H dx = none) (ne : dx ≠ x) (q : ∀ H', Same H H' → IsMap C H' x n f → R .non H') :
    spInit C [.ref x, .int n, .ref d] (upd (upd H dx (.own x)) x (.ins C dx [])) R E := by
  have s0 : Same H (upd (upd H dx (.own x)) x (.ins C dx [])) := fun b o e => by
    rw [upd_ne (ne_of_none e hx), upd_ne (ne_of_none e hdx)]
    exact e
  refine ⟨x, dx, d, n, l, f, rfl, upd_same, s0 _ _ hd, di, wf, h1, h3, hl, fun H' D o nD hp hD => ?_⟩
  exact q H' (fun b u e => o b u (ne_of_none e hx) (s0 b u e)) ⟨⟨dx, D, hp, hD⟩, wf, h1, h3⟩
/-- the law's draw, told by the pool alone -/
theorem draw_of {H : Hp} {p : Addr} {n : Int} {Q : VK} {E : XK} (h : PoolAt H p) (n0 : 0 < n) (n1 : n < 1073741824) (k : ∀ r H', 0 ≤ r → r < n → PoolAt H' p → Off p H H' → (∃ xs, H' = upd H p (.lst xs)) → Q (.int r) H') : spDraw [.ref p, .int n] H Q E := by
  obtain ⟨a, b, e, ha, hb, hc⟩ := h
  exact ⟨p, a, b, n, rfl, e, ha, hb, hc, n0, n1, fun a' b' r h1 h2 h3 h4 h5 => k r _ h4 h5 ⟨a', b', upd_same, h1, h2, h3⟩ Off.lock ⟨_, rfl⟩⟩
end My
namespace My
open PySem L2 U StX PM
theorem paired_at {α β : Type} {R : α → β → Prop} {xs : List α} {ys : List β} (h : Paired R xs ys) {i : Nat} {x : α} (e : xs[i]? = some x) : ∃ y, ys[i]? = some y ∧ R x y := by
  induction h generalizing i with
  | nil => cases e
  | cons r _ ih =>
    cases i with
    | zero => cases e; exact ⟨_, rfl, r⟩
    | succ i => exact ih e
theorem paired_len {α β : Type} {R : α → β → Prop} {xs : List α} {ys : List β} (h : Paired R xs ys) : xs.length = ys.length := by
  induction h with
  | nil => rfl
  | cons _ _ ih => rw [List.length_cons, List.length_cons, ih]
theorem PoolAt.put {H : Hp} {p q : Addr} {o : HO} (h : PoolAt H p) (n : p ≠ q) : PoolAt (upd H q o) p := by
  obtain ⟨a, b, e, r⟩ := h
  exact ⟨a, b, by rw [upd_ne n]; exact e, r⟩
theorem paired_snoc {α β : Type} {R : α → β → Prop} {xs : List α} {ys : List β} (h : Paired R xs ys) {x : α} {y : β} (r : R x y) : Paired R (xs ++ [x]) (ys ++ [y]) := by
  induction h with
  | nil => exact .cons r .nil
  | cons a _ ih => exact .cons a ih
theorem draw_R {i : Nat} {tb : TE} {σ : L2.St} {H : Hp} {Q : VK} {p : Addr} {n : Int} (hi : σ[i]? = some (some (.ref p))) (hb : ∀ R : VK, R (.int n) H → tb σ H R) (h : PoolAt H p) (n0 : 0 < n) (n1 : n < 1073741824)
    (k : ∀ r H', 0 ≤ r → r < n → PoolAt H' p → Off p H H' → Q (.int r) H') : tCallR spDraw E0 (tCons (tVar i) (tCons tb tNil)) σ H Q :=
  ⟨_, hi, hb _ (draw_of (E := E0) h n0 n1 fun r H' h1 h2 h3 h4 _ => k r H' h1 h2 h3 h4)⟩
theorem dgetL {H : Hp} {d : Addr} {l : List (Int × Int)} {f : PF} (h : H d = some (.dK (kvI l))) (di : DI l f) (i : Int) : DGet H d (.int i) ((f i).map V.int) := by
  have := DGet.k (k := Sum.inl i) h
  rw [valV_kvI, di.at_] at this
  exact this
theorem lay_all {k : Nat} {ds : List PyData} (h : ∀ d ∈ ds, PyData.canLay0 d = true ∧ PyData.depth d ≤ k) : PyData.canLayAll0 ds = true ∧ PyData.depthAll ds ≤ k := by
  induction ds with
  | nil => exact ⟨rfl, Nat.zero_le _⟩
  | cons p l ih =>
    obtain ⟨h1, h2⟩ := h p List.mem_cons_self
    obtain ⟨i1, i2⟩ := ih fun d hd => h d (List.mem_cons_of_mem _ hd)
    refine ⟨?_, ?_⟩
    · show (PyData.canLay0 p && PyData.canLayAll0 l) = true
      rw [i1, h1]; rfl
    · show max (PyData.depth p) (PyData.depthAll l) ≤ k
      omega
theorem shaped_all {ds : List PyData} (h : ∀ d ∈ ds, PyData.canLay0 d = true ∧ PyData.depth d ≤ 60) : SeqAt.shaped (.list ds) = true := by
  unfold SeqAt.shaped
  have h := lay_all h
  rw [Bool.and_eq_true]
  refine ⟨h.1, decide_eq_true ?_⟩
  show PyData.depthAll ds + 1 ≤ 64
  omega
theorem cut1 (v0 : V) (r : List V) : cutV (v0 :: r) (some 1) none = r ∧ ¬ (HT.sIx (v0 :: r).length 0 (some 1) = 0 ∧ HT.sIx (v0 :: r).length (v0 :: r).length none = (v0 :: r).length) := by
  have h : HT.sIx (v0 :: r).length 0 (some 1) = 1 := by
    show (if (1 : Int) < 0 then ((1 : Int) + (((v0 :: r).length : Nat) : Int)).toNat else min (1 : Int).toNat (v0 :: r).length) = 1
    rw [if_neg (by decide), List.length_cons]
    show min 1 _ = 1
    omega
  constructor
  · unfold cutV
    rw [h, HT.sIx_none]
    show r.take ((v0 :: r).length - 1) = r
    rw [List.length_cons, Nat.add_sub_cancel, List.take_length]
  · rintro ⟨h1, _⟩
    rw [h] at h1
    cases h1
end My
namespace My
open PySem L2 U StX PM
/-! ### the operators, with maps of unlike sizes -/
def mism (CE : Addr) (n n' : Int) (H : Hp) (E : XK) : Prop := ∀ d, H d = none → E (.ref CE) (some d) (upd H d (.xd [("second", .int n'), ("first", .int n)]))
def spCommonX (C CE : Addr) : Sp := fun vs H Q E => ∃ a b n f n' g, vs = [.ref a, .ref b] ∧ IsMap C H a n f ∧ IsMap C H b n' g ∧ (n ≠ n' → mism CE n n' H E) ∧ (n = n' → Q (.int n) H)
section
variable {P : Program} {w : World} {K : PySem.W.Frag} {mg : Str → Option Value} {base : Heap}
theorem ok_ini_SizeMismatch (T : Txt K mg) : FnR P w K mg base CX0 1 T.f_SizeMismatch__init (spIni2 T.C_SizeMismatch "first" "second") := by
  refine T.A_SizeMismatch__init.ok sc_SizeMismatch__init (fun vs H Q E h => ?_) (fun cdv A outer s H vs Q E hr h => ?_)
  · obtain ⟨a, v, u, rfl, _⟩ := h
    rfl
  · obtain ⟨a, v, u, rfl, ha, q⟩ := h
    refine ⟨_, pss_cons (ps_ostG (pv 0) (pv 1)) (pss_one (ps_ostG (pv 0) (pv 2))), ?_⟩
    refine ⟨_, rfl, _, rfl, a, T.C_SizeMismatch, rfl, T.x_SizeMismatch, T.na_first_SizeMismatch, .inl ⟨ha, fun dx h1 h2 => ?_⟩⟩
    exact ⟨_, rfl, _, rfl, a, T.C_SizeMismatch, rfl, T.x_SizeMismatch, T.na_second_SizeMismatch, .inr ⟨dx, [("first", v)], upd_same, by rw [upd_ne h2, upd_same], (by show 1 ≤ 900; decide), q dx h1 h2⟩⟩
theorem ok_commonX (T : Txt K mg) : FnR P w K mg base (L2.CX P w) 3 T.f_common_size (spCommonX T.C_Map T.C_SizeMismatch) := by
  refine T.A_common_size.okX sc_common_size (fun vs H Q E h => ?_) (fun cdv A outer s H vs Q E hr h => ?_)
  · obtain ⟨a, b, n, f, n', g, rfl, _⟩ := h
    rfl
  · obtain ⟨a, b, n, f, n', g, rfl, ha, hb, qx, q⟩ := h
    refine ⟨_, (pss_cons (ps_if (pt_cmpR op_ne (pe_propR (pv 0) T.o_Map.cl T.P_Map_size (ok_size T) (hr.mono (by decide))) (pe_propR (pv 1) T.o_Map.cl T.P_Map_size (ok_size T) (hr.mono (by decide))) (nomark _))
        (pss_one (ps_raise rfl (takes_of rfl rfl rfl rfl) (pmk_oexG T.x_SizeMismatch T.m_SizeMismatch__init T.ti_SizeMismatch__init (ok_ini_SizeMismatch T) (hr.mono (by decide)) pass0 rfl T.g_SizeMismatch (pa_cons (pe_propR (pv 0) T.o_Map.cl T.P_Map_size (ok_size T) (hr.mono (by decide))) (pa_cons (pe_propR (pv 1) T.o_Map.cl T.P_Map_size (ok_size T) (hr.mono (by decide))) pa_nil))))) pss_nil)
      (pss_one (ps_ret (pe_propR (pv 0) T.o_Map.cl T.P_Map_size (ok_size T) (hr.mono (by decide)))))), ?_⟩
    obtain ⟨dx, fs, h1⟩ := at_map ha
    obtain ⟨dy, gs, h2⟩ := at_map hb
    refine ⟨_, rfl, a, dx, fs, rfl, h1, a, n, f, rfl, ha, _, rfl, b, dy, gs, rfl, h2, b, n', g, rfl, hb, rfl, _, rfl, ?_⟩
    refine ifN (fun hne => ?_) (fun heq => ?_)
    · have hne' : n ≠ n' := fun z => hne (congrArg V.int z)
      refine ⟨_, rfl, a, dx, fs, rfl, h1, a, n, f, rfl, ha, _, rfl, b, dy, gs, rfl, h2, b, n', g, rfl, hb, ?_⟩
      exact mk_two fun d hd => qx hne' d hd
    · exact ⟨_, rfl, a, dx, fs, rfl, h1, a, n, f, rfl, ha, q (V.int.inj heq)⟩
end
end My
namespace My
open PySem L2 U StX PM
/-! ### a map as a text -/
def small (i : Int) : Prop := i.natAbs < 1000000000
theorem small_log {i : Int} (h : small i) : i.natAbs.log2 < 1920 := by
  unfold small at h
  by_cases h0 : i.natAbs = 0
  · rw [h0]; decide
  · rw [Nat.log2_lt h0]
    exact Nat.lt_of_lt_of_le h (by decide)
theorem small_len {i : Int} (h : small i) : (Str.ofString (toString i)).length ≤ 10 := by
  have := int_text_length_le10 (a := i) (k := 9) (by decide) h
  rw [ofString_length]
  omega
end My
namespace My
open PySem L2 U StX PM
theorem nonMapV.same {H H' : Hp} {x : V} (h : nonMapV H x) (s : L2.Same H H') : nonMapV H' x := by
  cases x with
  | ref b =>
    rcases h with ⟨xs, e⟩ | ⟨xs, e⟩ | ⟨xs, e⟩
    · exact .inl ⟨_, s _ _ e⟩
    · exact .inr (.inl ⟨_, s _ _ e⟩)
    · exact .inr (.inr ⟨_, s _ _ e⟩)
  | _ => exact h
end My
namespace My
open PySem L2 U StX PM
/-! ### dict([(a, b) for x, y in d.items() if ..]) -/
theorem _root_.PySem.Paired.map {α β : Type} {R S : α → β → Prop} : ∀ {xs : List α} {ys : List β}, Paired R xs ys → (∀ x ∈ xs, ∀ y, R x y → S x y) → Paired S xs ys
  | _, _, .nil, _ => .nil
  | _, _, .cons h r, k => .cons (k _ List.mem_cons_self _ h) (PySem.Paired.map r fun x hx => k x (List.mem_cons_of_mem _ hx))
/-- dict(..) of such a list -/
theorem dictP_of {K : PySem.W.Frag} {H : Hp} {D : Addr} {ps : List Addr} {m : List (Int × Int)} {Q : VK} {g : PF} (hD : H D = some (.lst (ps.map V.ref))) (hp : Paired (fun p (kv : Key × V) => H p = some (.tup [kV kv.1, kv.2])) ps (kvI m)) (di : DI m g)
    (hq : ∀ p l, H p = none → l.length ≤ m.length → DI l g → Q (.ref p) (upd H p (.dK (kvI l)))) :
    ∃ (a : Addr) (ps : List Addr) (kvs : List (Key × V)), [V.ref D] = [.ref a] ∧ SqL K H a (ps.map V.ref) ∧ Paired (fun p kv => SqT K H p [kV kv.1, kv.2]) ps kvs ∧ ∀ p, H p = none → Q (.ref p) (upd H p (.dK (mergeK [] kvs))) := by
  refine ⟨D, ps, _, rfl, SqL.of hD, hp.map fun p _ kv e => SqT.of e, fun p np => ?_⟩
  obtain ⟨l', e', n', d', k'⟩ := merge_lk m [] di.nd
  have e2 : mergeK [] (kvI m) = kvI l' := e'
  rw [e2]
  refine hq p l' np (by simpa using n') ⟨d' (by simp), fun z => ?_⟩
  rw [k', ← di.at_]
  cases lk m z <;> rfl
end My
namespace My
open PySem L2 U StX PM
/-! ### texts of plain signs -/
def OkS (x : Str) : Prop := PyData.strOk x = true
theorem OkS.app {x y : Str} (hx : OkS x) (hy : OkS y) : OkS (x ++ y) := by
  unfold OkS PyData.strOk at *
  rw [Str.cps_append, Array.all_append, hx, hy]
  rfl
end My
namespace My
open PySem L2 U StX PM
/-- a part of a map by its pairs -/
theorem di_sub {l m : List (Int × Int)} {f : PF} (di : DI l f) (hs : m.Sublist l) : DI m (lk m) := by
  have : (m.map (·.1)).Nodup := (hs.map _).nodup di.nd
  exact ⟨this, fun _ => rfl⟩
theorem wf_sub {n : Int} {l m : List (Int × Int)} {f : PF} (di : DI l f) (wf : WF n f) (hs : m.Sublist l) : WF n (lk m) := by
  have key : ∀ x y, lk m x = some y → f x = some y := fun x y h => di.mem.mp (hs.subset (lk_mem h))
  exact ⟨fun x y h => wf.dom x y (key x y h), fun x x' y h h' => wf.inj x x' y (key _ _ h) (key _ _ h')⟩
end My
namespace My
open PySem L2 U StX PM
/-- [x for x in range(n) if ..] -/
theorem lc_rangeF {wi : TI} {i : Nat} {tt : TT} {tv : TE} {vs : List Nat} {σ : L2.St} {H0 H : Hp} {Q : VK} {n : Nat} (c : Int → Bool) (hwi : ∀ R : It → Hp → Prop, R (Itr 0 n) H → wi σ H0 R)
    (hw : ∀ a, wipe ((wipe σ vs).set i a) vs = wipe σ vs) (hn : n < sizeLine)
    (hb : ∀ k : Nat, k < n → ∀ H1, L2.Same H H1 → (∀ R : Bool → Hp → Prop, R (c (k : Int)) H1 → tt ((wipe σ vs).set i (some (.int (0 + (k : Nat))))) H1 R) ∧ ∀ R : VK, R (.int (0 + (k : Nat))) H1 → tv ((wipe σ vs).set i (some (.int (0 + (k : Nat))))) H1 R)
    (hq : ∀ (D : Addr) (H' : Hp), H D = none → H' D = some (.lst ((((List.range n).filter fun (k : Nat) => c (k : Int)).map fun (k : Nat) => (k : Int)).map V.int)) → L2.Same H H' → Q (.ref D) H') :
    tLc wi (gName i) tt tv vs σ H0 Q := by
  refine hwi _ fun D hD => ?_
  refine lc_it (walk_range (lo := 0)) (fun k H' => L2.Same H H' ∧ H' D = some (.lst ((((List.range k).filter fun (k : Nat) => c (k : Int)).map fun (k : Nat) => (k : Int)).map V.int)))
    ⟨Same.new hD, upd_same⟩ (fun _ _ _ _ => trivial) ?_ ?_
  · rintro k v H' H'' hk ⟨s1, e1⟩ ⟨rfl, rfl⟩
    refine ⟨hw _, ?_⟩
    obtain ⟨b1, b2⟩ := hb k hk _ s1
    refine b1 _ ?_
    have st : (((List.range (k + 1)).filter fun (k : Nat) => c (k : Int)).map fun (k : Nat) => (k : Int)) = (((List.range k).filter fun (k : Nat) => c (k : Int)).map fun (k : Nat) => (k : Int)) ++ (if c (k : Int) = true then [(k : Int)] else []) := by
      rw [List.range_succ, List.filter_append, List.map_append]
      by_cases h : c (k : Int) = true
      · simp [h]
      · have h' : c (k : Int) = false := by simpa using h
        simp [h']
    cases hc : c (k : Int) with
    | true =>
      refine iteT (b2 _ ⟨_, e1, ?_, Same.put s1 hD, ?_⟩)
      · rw [List.length_map, List.length_map]
        exact Nat.lt_of_le_of_lt (Nat.le_trans (List.length_filter_le _ _) (by rw [List.length_range]; omega)) hn
      · rw [upd_same, st, if_pos hc, List.map_append, Int.zero_add]
        rfl
    | false =>
      refine iteF ⟨s1, ?_⟩
      rw [st, hc, if_neg Bool.false_ne_true, List.append_nil]
      exact e1
  · rintro H' ⟨s1, e1⟩
    exact hq D H' hD e1 s1
end My
local macro_rules | `(tactic| array_get_dec) => `(tactic| first | assumption | exact L2.upd_same | (refine U.carryNew (by assumption) ?_; array_get_dec) | (refine U.carry (by assumption) ?_; array_get_dec))
local macro_rules | `(tactic| array_mem_dec) => `(tactic| first | exact L2.Same.refl _ | assumption | (refine U.sameUp (by assumption) ?_; array_mem_dec) | (refine U.sameVia (by assumption) ?_; array_mem_dec))
local macro_rules | `(tactic| sizeOf_list_dec) => `(tactic| first | assumption | (refine U.freeVia (by assumption) ?_; sizeOf_list_dec) | (refine U.freeUp (o := _) (q := _) ?_; assumption))
local macro_rules | `(tactic| deriving_LawfulEq_tactic_step) => `(tactic| first | exact rfl | exact U.nil_le | exact U.one_le | exact U.two_le | exact U.three_le | exact L2.SqL.of (by array_get_dec) | exact L2.SqT.of (by array_get_dec) | exact ⟨_, L2.SqL.of (by array_get_dec)⟩ | exact ⟨_, L2.SqT.of (by array_get_dec)⟩ | exact Or.inl (by array_get_dec) | array_get_dec)
local macro_rules | `(tactic| and_intros) => `(tactic| repeat (first | refine And.intro (by deriving_LawfulEq_tactic_step) ?_ | (apply Exists.intro; refine And.intro (by deriving_LawfulEq_tactic_step) ?_) | (apply Exists.intro; apply Exists.intro; refine And.intro (by deriving_LawfulEq_tactic_step) ?_) | (apply Exists.intro; apply Exists.intro; apply Exists.intro; refine And.intro (by deriving_LawfulEq_tactic_step) ?_) | (apply Exists.intro; apply Exists.intro; apply Exists.intro; apply Exists.intro; refine And.intro (by deriving_LawfulEq_tactic_step) ?_)))
namespace My
open PySem L2 U StX PM
/-! ### several maps -/
def MapsAt (C : Addr) (H : Hp) (n : Int) (xs : List V) (fs : List PF) : Prop := Paired (fun v f => ∃ a, v = V.ref a ∧ IsMap C H a n f) xs fs
theorem MapsAt.same {C : Addr} {H H' : Hp} {n : Int} {xs : List V} {fs : List PF} (h : MapsAt C H n xs fs) (s : Same H H') : MapsAt C H' n xs fs := PySem.Paired.map h fun v _ f ⟨a, e, m⟩ => ⟨a, e, m.same s⟩
theorem MapsAt.get {C : Addr} {H : Hp} {n : Int} {xs : List V} {fs : List PF} (h : MapsAt C H n xs fs) {i : Nat} {v : V} (e : xs[i]? = some v) : ∃ a f, v = .ref a ∧ fs[i]? = some f ∧ IsMap C H a n f := by
  obtain ⟨f, e2, a, e3, m⟩ := paired_at h e
  exact ⟨a, f, e3, e2, m⟩
/-- what check_all says of a tuple: a map is missing, the sizes differ, or all is well -/
def AllB (C CM CS : Addr) (H : Hp) (xs : List V) (Q : VK) (E : XK) : Prop :=
  (xs = [] ∧ ∀ H', Same H H' → ∀ d, H' d = none → E (.ref CM) (some d) (upd H' d (.xd [("part", .str "map")]))) ∨
  (∃ (k : Nat) (v : V), xs[k]? = some v ∧ nonMapV H v ∧ (∀ (j : Nat) (u : V), j < k → xs[j]? = some u → ∃ a n f, u = V.ref a ∧ IsMap C H a n f) ∧ ∀ H', Same H H' → ∀ d, H' d = none → E (.ref CM) (some d) (upd H' d (.xd [("part", .str "map")]))) ∨
  (∃ (n m : Int) (k : Nat) (a : Addr) (g : PF), (∀ (j : Nat) (u : V), xs[j]? = some u → ∃ b n' f, u = V.ref b ∧ IsMap C H b n' f ∧ (j < k → n' = n)) ∧ xs[k]? = some (.ref a) ∧ IsMap C H a m g ∧ 0 < k ∧ m ≠ n ∧ ∀ H', Same H H' → mism CS n m H' E) ∨
  (∃ n fs, MapsAt C H n xs fs ∧ fs ≠ [] ∧ ∀ H', Same H H' → Q .non H')
def spChkA (C CM CS : Addr) : Sp := fun vs H Q E => ∃ (t : Addr) (xs : List V), vs = [.ref t] ∧ H t = some (.tup xs) ∧ xs.length ≤ 100 ∧ AllB C CM CS H xs Q E
section
variable {P : Program} {w : World} {K : PySem.W.Frag} {mg : Str → Option Value} {base : Heap}
theorem dec_zero (l : Nat) : decide (V.int (l : Int) = V.int 0) = decide (l = 0) := by
  by_cases h : l = 0
  · subst h; rfl
  · have : ¬ V.int (l : Int) = V.int 0 := fun z => h (by have := V.int.inj z; omega)
    rw [decide_eq_false h, decide_eq_false this]
theorem ok_check_all (T : Txt K mg) : FnR P w K mg base (L2.CX P w) 4 T.f_check_all (spChkA T.C_Map T.C_InvalidMap T.C_SizeMismatch) := by
  refine T.A_check_all.okX sc_check_all (fun vs H Q E h => ?_) (fun cdv A outer s H vs Q E hr h => ?_)
  · obtain ⟨t, xs, rfl, _⟩ := h
    rfl
  · obtain ⟨t, xs, rfl, ht, hl, h⟩ := h
    refine ⟨_, (pss_cons (ps_if (pt_cmpR op_eq (pe_callB call_len_seq (by rfl) T.n_len (by decide +kernel) (pa_cons (pv 0) pa_nil)) pe_int (nomark _))
        (pss_one (ps_raise rfl (takes_of rfl rfl rfl rfl) (pmk_oexG T.x_InvalidMap T.m_InvalidMap__init T.ti_InvalidMap__init (ok_ini_InvalidMap T) (hr.mono (by decide)) pass0 rfl T.g_InvalidMap (pa_cons pe_str pa_nil)))) pss_nil)
      (pss_cons (ps_for (passes_of rfl) rfl (pi_tup (pv 0)) (pg_name (i := 1) sc_check_all.nd rfl (Or.inl rfl))
        (pss_one (ps_expr (pe_callR (ok_check_map T) (hr.mono (by decide)) T.A_check_map.kp rfl T.g_check_map (passes_call (takes_of rfl rfl rfl rfl) (fun _ _ _ _ h => h)) (pa_cons (pv 1) pa_nil)))))
      (pss_one (ps_for (passes_of rfl) rfl (pi_tup (pv 0)) (pg_name (i := 1) sc_check_all.nd rfl (Or.inl rfl))
        (pss_one (ps_expr (pe_callR (ok_commonX T) (hr.mono (by decide)) T.A_common_size.kp rfl T.g_common_size (passes_call (takes_of rfl rfl rfl rfl) (fun _ _ _ _ h => h)) (pa_cons (pe_ix ix_tup (pv 0) pe_int (fun _ _ => rfl)) (pa_cons (pv 1) pa_nil))))))))), ?_⟩
    refine ⟨_, rfl, t, _, rfl, .inr (SqT.of ht), rfl, _, rfl, ?_⟩
    rw [dec_zero]
    refine ifD (fun h0 => ?_) (fun h0 => ?_)
    · rcases h with ⟨_, q⟩ | ⟨k, v, e, _⟩ | ⟨n, m, k, a, g, _, e, _⟩ | ⟨n, fs, hm, hne, _⟩
      · exact mk_one fun d hd => q H (Same.refl _) d hd
      · have := (List.getElem?_eq_some_iff.mp e).1; omega
      · have := (List.getElem?_eq_some_iff.mp e).1; omega
      · have := paired_len hm
        exact absurd (List.length_eq_zero_iff.mp (by omega)) hne
    · refine ⟨_, rfl, t, rfl, ⟨_, SqT.of ht⟩, ?_⟩
      have bad : ∀ (k : Nat) (v : V), xs[k]? = some v → nonMapV H v → ∀ (j : Nat) (u : V), xs[j]? = some u → (∃ a n f, u = V.ref a ∧ IsMap T.C_Map H a n f) → j ≠ k := by
        rintro k v e1 nv j u e2 ⟨a, n, f, rfl, hm⟩ rfl
        rw [e1] at e2
        cases e2
        obtain ⟨dx, fs, h1⟩ := at_map hm
        rcases nv with ⟨ys, z⟩ | ⟨ys, z⟩ | ⟨ys, z⟩ <;> (rw [h1] at z; cases z)
      refine for_it (walk_tup (xs := xs)) (fun i σ H' => H' = H ∧ (∃ v1, σ = [some (.ref t), v1]) ∧ ∀ (k : Nat) (v : V), xs[k]? = some v → nonMapV H v → i ≤ k)
        ⟨rfl, ⟨_, rfl⟩, fun _ _ _ _ => Nat.zero_le _⟩ (fun i σ H' _ z => by rw [z.1]; exact SqT.of ht) ?_ ?_
      · rintro i v σ Ha0 Ha hi ⟨rfl, ⟨v1, rfl⟩, hk⟩ ⟨rfl, ev⟩
        refine ⟨_, rfl, ?_⟩
        have good : (∃ a n f, v = .ref a ∧ IsMap T.C_Map Ha a n f) → spChkM T.C_Map T.C_InvalidMap [v] Ha (fun _ H' => H' = Ha ∧ (∃ v1, [some (V.ref t), some v] = [some (.ref t), v1]) ∧ ∀ (k : Nat) (v : V), xs[k]? = some v → nonMapV Ha v → i + 1 ≤ k) E := by
          rintro ⟨a, n, f, rfl, hm⟩
          refine ⟨_, rfl, .inl ⟨a, n, f, rfl, hm, rfl, ⟨_, rfl⟩, fun k v e nv => ?_⟩⟩
          have h1 := hk k v e nv
          have h2 := bad k v e nv i _ ev ⟨a, n, f, rfl, hm⟩
          omega
        rcases h with ⟨h1, q⟩ | ⟨k, u, e, nu, hb, q⟩ | ⟨n, m, k, a, g, hb, e, _⟩ | ⟨n, fs, hm, hne, _⟩
        · exact absurd (by rw [h1]; rfl) h0
        · by_cases hik : i = k
          · subst hik
            rw [e] at ev
            cases ev
            exact ⟨_, rfl, .inr ⟨nu, fun d hd => q Ha (Same.refl _) d hd⟩⟩
          · have := hk k u e nu
            exact good (hb i v (by omega) ev)
        · obtain ⟨b, n', f, rfl, hm, _⟩ := hb i v ev
          exact good ⟨b, n', f, rfl, hm⟩
        · obtain ⟨a, f, rfl, _, hm'⟩ := hm.get ev
          exact good ⟨a, n, f, rfl, hm'⟩
      · rintro σ Ha ⟨rfl, ⟨v1, rfl⟩, hk⟩
        have fin : ∃ (x0 : Addr) (n : Int) (f0 : PF), xs[0]? = some (.ref x0) ∧ IsMap T.C_Map Ha x0 n f0 ∧ ((∃ (m : Int) (k : Nat) (a : Addr) (g : PF), (∀ (j : Nat) (u : V), xs[j]? = some u → ∃ b n' f, u = V.ref b ∧ IsMap T.C_Map Ha b n' f ∧ (j < k → n' = n)) ∧ xs[k]? = some (.ref a) ∧ IsMap T.C_Map Ha a m g ∧ 0 < k ∧ m ≠ n ∧ mism T.C_SizeMismatch n m Ha E) ∨ (∃ fs, MapsAt T.C_Map Ha n xs fs ∧ Q .non Ha)) := by
          rcases h with ⟨h1, q⟩ | ⟨k, u, e, nu, hb, q⟩ | ⟨n, m, k, a, g, hb, e, ha, k0, hmn, q⟩ | ⟨n, fs, hm, hne, q⟩
          · exact absurd (by rw [h1]; rfl) h0
          · have h1 := hk k u e nu
            have h2 := (List.getElem?_eq_some_iff.mp e).1
            omega
          · obtain ⟨x0, e0⟩ : ∃ x0, xs[0]? = some x0 := ⟨_, List.getElem?_eq_getElem (by omega)⟩
            obtain ⟨b, n', f, rfl, hmb, hn⟩ := hb 0 x0 e0
            cases hn k0
            exact ⟨b, n, f, e0, hmb, .inl ⟨m, k, a, g, hb, e, ha, k0, hmn, q Ha (Same.refl _)⟩⟩
          · obtain ⟨x0, e0⟩ : ∃ x0, xs[0]? = some x0 := ⟨_, List.getElem?_eq_getElem (by omega)⟩
            obtain ⟨b, f, rfl, _, hmb⟩ := hm.get e0
            exact ⟨b, n, f, e0, hmb, .inr ⟨fs, hm, q Ha (Same.refl _)⟩⟩
        obtain ⟨x0, n, f0, e0, hm0, fin⟩ := fin
        refine ⟨_, rfl, t, rfl, ⟨_, SqT.of ht⟩, ?_⟩
        refine for_it (walk_tup (xs := xs)) (fun i σ H' => H' = Ha ∧ (∃ v1, σ = [some (.ref t), v1]) ∧ ∀ (m : Int) (k : Nat) (a : Addr) (g : PF), xs[k]? = some (V.ref a) → IsMap T.C_Map Ha a m g → m ≠ n → i ≤ k)
          ⟨rfl, ⟨_, rfl⟩, fun _ _ _ _ _ _ _ => Nat.zero_le _⟩ (fun i σ H' _ z => by rw [z.1]; exact SqT.of ht) ?_ ?_
        · rintro i v σ Hb0 Hb hi ⟨rfl, ⟨v1, rfl⟩, hk2⟩ ⟨rfl, ev⟩
          refine ⟨_, rfl, t, _, 0, .ref x0, rfl, rfl, SqT.of ht, atI_nat (j := 0) e0, _, rfl, ?_⟩
          have uniq : ∀ {a m m' g g'}, IsMap T.C_Map Hb a m g → IsMap T.C_Map Hb a m' g' → m = m' := by
            intro a m m' g g' h1 h2
            obtain ⟨dx, D, e1, _⟩ := h1.ob
            obtain ⟨dx', D', e2, _⟩ := h2.ob
            rw [e1] at e2
            have e3 := (HO.ins.inj (Option.some.inj e2)).2.2
            have e4 := flds_size m D
            rw [e3, flds_size] at e4
            exact (V.int.inj (Option.some.inj e4)).symm
          rcases fin with ⟨m, k, a, g, hb, e, ha, k0, hmn, q⟩ | ⟨fs, hm, q⟩
          · obtain ⟨b, n', f, rfl, hmb, hn⟩ := hb i v ev
            by_cases hnn : n' = n
            · subst hnn
              refine ⟨x0, b, n', f0, n', f, rfl, hm0, hmb, fun h => absurd rfl h, fun _ => ⟨rfl, ⟨_, rfl⟩, fun m2 k2 a2 g2 e2 hm2 hne2 => ?_⟩⟩
              have h1 := hk2 m2 k2 a2 g2 e2 hm2 hne2
              have : i ≠ k2 := by
                rintro rfl
                rw [ev] at e2
                cases e2
                exact hne2 (uniq hm2 hmb)
              omega
            · have hik : k ≤ i := Nat.le_of_not_lt fun hlt => hnn (hn hlt)
              have hki := hk2 m k a g e ha hmn
              have : i = k := by omega
              subst this
              rw [e] at ev
              cases ev
              exact ⟨x0, a, n, f0, m, g, rfl, hm0, ha, fun _ d hd => q d hd, fun h => absurd h.symm hmn⟩
          · obtain ⟨b, f, rfl, _, hmb⟩ := hm.get ev
            refine ⟨x0, b, n, f0, n, f, rfl, hm0, hmb, fun h => absurd rfl h, fun _ => ⟨rfl, ⟨_, rfl⟩, fun m2 k2 a2 g2 e2 hm2 hne2 => ?_⟩⟩
            obtain ⟨b2, f2, h5, _, hmb2⟩ := hm.get e2
            cases h5
            exact absurd (uniq hm2 hmb2) hne2
        · rintro σ Hb ⟨rfl, ⟨v1, rfl⟩, hk2⟩
          rcases fin with ⟨m, k, a, g, hb, e, ha, k0, hmn, q⟩ | ⟨fs, hm, q⟩
          · have h1 := hk2 m k a g e ha hmn
            have h2 := (List.getElem?_eq_some_iff.mp e).1
            omega
          · exact q
end
end My
namespace My
open PySem L2 U StX PM
section
variable {P : Program} {w : World} {K : PySem.W.Frag} {mg : Str → Option Value} {base : Heap}
theorem rd_get {H : Hp} {d : Addr} {l : List (Int × Int)} {f : PF} (h : Rd H d (.dK (kvI l))) (di : DI l f) (i : Int) : DGet H d (.int i) ((f i).map V.int) := by
  have : DGet H d (.int i) _ := .inl ⟨_, Sum.inl i, h, rfl, rfl⟩
  rw [valV_kvI, di.at_] at this
  exact this
/-- the law's draw of a map, rare or not -/
def spDrw2 : Sp := fun vs H Q _ => ∃ (p : Addr) (n : Int), vs = [.ref p, .int n] ∧ PoolAt H p ∧ 1 ≤ n ∧ n ≤ 300 ∧
  ∀ r H' l, H r = none → H' r = some (.dK (kvI l)) → DI l (lk l) → WF n (lk l) → l.length ≤ 1000 → PoolAt H' p → Off p H H' → Q (.ref r) H'
theorem ok_l_arrR (T : Txt K mg) : FnR P w K mg base CX0 2 T.f_l_arrows spDrw2 := by
  refine T.A_l_arrows.ok sc_l_arrows (fun vs H Q E h => ?_) (fun cdv A outer s H vs Q E hr h => ?_)
  · obtain ⟨p, n, rfl, _⟩ := h
    rfl
  · obtain ⟨p, n, rfl, pool, h1, h3, q⟩ := h
    have hu := hu_of hr
    refine ⟨_, (pss_cons (ps_par3 (i := 2) (j := 3) (l := 4) rfl sc_l_arrows.nd rfl rfl rfl (by decide) (by decide) (by decide) rfl rfl rfl (pa_cons (pe_listRg rfl rfl T.n_list (prg_1 rfl T.n_range (pv 1))) (pa_cons pe_dnewK (pa_cons (pe_op op_add pe_int (pe_callR (ok_draw T) (hr.mono (by decide)) T.A_l_draw.kp rfl T.g_l_draw pass0 (pa_cons (pv 0) (pa_cons pe_int pa_nil)))) pa_nil))) (by rfl))
      (pss_cons (ps_for PassesOwn.never rfl (pi_range1 rfl T.n_range (pa_cons (pv 1) pa_nil)) (pg_name (i := 5) sc_l_arrows.nd rfl (Or.inl rfl))
        (pss_one (ps_if (PW.pt (pw_or (pt_cmpR op_gt (pe_callR (ok_draw T) (hr.mono (by decide)) T.A_l_draw.kp rfl T.g_l_draw pass0 (pa_cons (pv 0) (pa_cons (pv 4) pa_nil))) pe_int (nomark _)) (pw_or1 (pt_cmpR op_eq (pv 4) pe_int (nomark _)))))
        (pss_one (ps_dput hu (pv 3) (pv 5) (pe_bm PySem.F.plainAttrs_list PySem.F.slot_list_pop PySem.F.type_list_pop mt_popAt (pv 2) (pa_cons (pe_callR (ok_draw T) (hr.mono (by decide)) T.A_l_draw.kp rfl T.g_l_draw pass0 (pa_cons (pv 0) (pa_cons (pe_callB call_len_seq (by rfl) T.n_len (by decide +kernel) (pa_cons (pv 2) pa_nil)) pa_nil))) pa_nil)) rfl)) pss_nil)))
      (pss_one (ps_ret (pv 3))))), ?_⟩
    refine ⟨_, rfl, n, rfl, RgOk.of_le (by decide) (by omega) (by decide) (by omega), fun lf hlf => ?_⟩
    intro fo hfo
    have lf0 : H lf = none := hlf
    have fo0 : H fo = none := (Same.new hlf).free hfo
    have npl : p ≠ lf := pool.ne lf0
    have npf : p ≠ fo := pool.ne fo0
    have nlf : lf ≠ fo := ne_of_none upd_same hfo
    refine draw_R rfl (fun R r => r) ((pool.put npl).put npf) (by decide) (by decide) fun w5 H1 w0 w1 pool1 off1 => ⟨_, _, rfl, rfl, ?_⟩
    refine ⟨_, _, _, rfl, ?_⟩
    have lf1 : H1 lf = some (.lst (((List.range n.toNat).map fun (i : Nat) => (i : Int)).map V.int)) := by
      rw [← rg0]
      exact off1 _ _ npl.symm (carryNew hfo upd_same)
    have fo1 : H1 fo = some (.dK (kvI [])) := off1 _ _ npf.symm upd_same
    have offH : Off p H H1 := ((Off.new hlf).tr (Off.new hfo)).tr off1
    refine ⟨_, rfl, n, rfl, by omega, by omega, ?_⟩
    refine for_it (walk_range (lo := 0) (n := n.toNat)) (fun i σ H' => ∃ v5 l ns, σ = [some (.ref p), some (.int n), some (.ref lf), some (.ref fo), some (.int (1 + w5)), v5] ∧ PoolAt H' p ∧ Off p H H' ∧ H' lf = some (.lst (ns.map V.int)) ∧ H' fo = some (.dK (kvI l)) ∧ Drw n i l ns)
      ⟨none, [], _, rfl, pool1, offH, lf1, fo1, drw0 n⟩ (fun _ _ _ _ _ => trivial) ?_ ?_
    · rintro i v σ Ha0 Ha hi ⟨v5, l, ns, rfl, poola, offa, lfa, foa, drw⟩ ⟨rfl, rfl⟩
      refine draw_R rfl (fun R r => ⟨_, rfl, r⟩) poola (by omega) (by omega) fun r2 H2 r20 r21 pool2 off2 => ⟨_, _, rfl, rfl, _, rfl, ?_⟩
      have lf2 := off2 _ _ npl.symm lfa
      have fo2 := off2 _ _ npf.symm foa
      have o2 := offa.tr off2
      have hlen := drw.le
      have hln := drw.ln
      refine ifD (fun h => iteT ?_) (fun h => ⟨_, rfl, rfl, _, rfl, ifD (fun h' => ?_) (fun h' => ?_)⟩)
      rotate_left 2
      · exact ⟨_, l, ns, rfl, pool2, o2, lf2, fo2, drw.more⟩
      all_goals
        refine ⟨_, rfl, .inl ⟨rfl, _, SqL.of lf2⟩, ?_⟩
        refine draw_R (n := (ns.length : Int)) rfl (fun R r => ⟨_, rfl, lf, _, rfl, .inl (SqL.of lf2), by rw [List.length_map]; exact r⟩) pool2 (by omega) (by omega) fun r4 H4 r40 r41 pool4 off4 => ?_
        obtain ⟨y, ey⟩ : ∃ y, ns[r4.toNat]? = some y := ⟨_, List.getElem?_eq_getElem (by omega)⟩
        obtain ⟨d1, d2⟩ := drw.put ey
        have lf4 := off4 _ _ npl.symm lf2
        have fo4 := off4 _ _ npf.symm fo2
        refine ⟨lf, _, r4, r4.toNat, .int y, rfl, rfl, lf4, by omega, by omega, ?_, get_map ey, ?_⟩
        · rw [List.length_map]
          exact PySem.seqIndex_of r40 (by omega)
        refine ⟨_, rfl, _, rfl, fo, _, rfl, DPut.k (k := Sum.inl (0 + (i : Nat) : Int)) (kvs := kvI l) (by rw [upd_ne nlf.symm]; exact fo4) (small1000 (by rw [kvI_length]; omega)), ?_⟩
        rw [Int.zero_add, putK_kvI d2]
        refine ⟨_, _, ns.eraseIdx r4.toNat, rfl, (pool4.put npl).put npf, ?_, ?_, upd_same, d1⟩
        · exact Off.put (Off.put (o2.tr off4) lf0) fo0
        · rw [upd_ne nlf, upd_same]
          congr 2
          apply List.ext_getElem?
          intro m
          simp [List.getElem?_eraseIdx]
          split <;> rfl
    · rintro σ Ha ⟨v5, l, ns, rfl, p1, p2, p3, p4, p5⟩
      have := p5.ln
      exact ⟨_, rfl, q fo Ha l fo0 p4 ⟨p5.kn, fun _ => rfl⟩ (p5.wf (by omega)) (by omega) p1 p2⟩
end
end My
namespace My
open PySem L2 U StX PM
/-! ### several maps that are not all well -/
def ErrB (C CM CS : Addr) (H : Hp) (xs : List V) (E : XK) : Prop :=
  (xs = [] ∧ ∀ H', Same H H' → ∀ d, H' d = none → E (.ref CM) (some d) (upd H' d (.xd [("part", .str "map")]))) ∨
  (∃ (k : Nat) (v : V), xs[k]? = some v ∧ nonMapV H v ∧ (∀ (j : Nat) (u : V), j < k → xs[j]? = some u → ∃ a n f, u = V.ref a ∧ IsMap C H a n f) ∧ ∀ H', Same H H' → ∀ d, H' d = none → E (.ref CM) (some d) (upd H' d (.xd [("part", .str "map")]))) ∨
  (∃ (n m : Int) (k : Nat) (a : Addr) (g : PF), (∀ (j : Nat) (u : V), xs[j]? = some u → ∃ b n' f, u = V.ref b ∧ IsMap C H b n' f ∧ (j < k → n' = n)) ∧ xs[k]? = some (.ref a) ∧ IsMap C H a m g ∧ 0 < k ∧ m ≠ n ∧ ∀ H', Same H H' → mism CS n m H' E)
theorem ErrB.all {C CM CS : Addr} {H : Hp} {xs : List V} {Q : VK} {E : XK} (h : ErrB C CM CS H xs E) : AllB C CM CS H xs Q E := by
  rcases h with h | h | h
  · exact .inl h
  · exact .inr (.inl h)
  · exact .inr (.inr (.inl h))
theorem ErrB.same {C CM CS : Addr} {H H' : Hp} {xs : List V} {E : XK} (h : ErrB C CM CS H xs E) (s : Same H H') : ErrB C CM CS H' xs E := by
  rcases h with ⟨h, q⟩ | ⟨k, v, e, nv, hb, q⟩ | ⟨n, m, k, a, g, hb, e, ha, k0, hmn, q⟩
  · exact .inl ⟨h, fun H2 s2 => q H2 (s.trans s2)⟩
  · refine .inr (.inl ⟨k, v, e, nv.same s, fun j u hj eu => ?_, fun H2 s2 => q H2 (s.trans s2)⟩)
    obtain ⟨a, n, f, rfl, m⟩ := hb j u hj eu
    exact ⟨a, n, f, rfl, m.same s⟩
  · refine .inr (.inr ⟨n, m, k, a, g, fun j u eu => ?_, e, ha.same s, k0, hmn, fun H2 s2 => q H2 (s.trans s2)⟩)
    obtain ⟨b, n', f, rfl, mb, hn⟩ := hb j u eu
    exact ⟨b, n', f, rfl, mb.same s, hn⟩
section
variable {P : Program} {w : World} {K : PySem.W.Frag} {mg : Str → Option Value} {base : Heap}
theorem ok_ini_LimitExceeded (T : Txt K mg) : FnR P w K mg base CX0 1 T.f_LimitExceeded__init (spIni1 T.C_LimitExceeded "limit") := by
  refine T.A_LimitExceeded__init.ok sc_LimitExceeded__init (fun vs H Q E h => ?_) (fun cdv A outer s H vs Q E hr h => ?_)
  · obtain ⟨a, v, rfl, _⟩ := h
    rfl
  · obtain ⟨a, v, rfl, ha, q⟩ := h
    refine ⟨_, pss_one (ps_ostG (pv 0) (pv 1)), ?_⟩
    exact ⟨_, rfl, _, rfl, a, T.C_LimitExceeded, rfl, T.x_LimitExceeded, T.na_limit_LimitExceeded, .inl ⟨ha, fun dx h1 h2 => q dx h1 h2⟩⟩
end
end My
namespace My
open PySem L2 U StX PM
section
variable {P : Program} {w : World} {K : PySem.W.Frag} {mg : Str → Option Value} {base : Heap}
theorem ok_ini_InvalidElement (T : Txt K mg) : FnR P w K mg base CX0 1 T.f_InvalidElement__init (spIni1 T.C_InvalidElement "value") := by
  refine T.A_InvalidElement__init.ok sc_InvalidElement__init (fun vs H Q E h => ?_) (fun cdv A outer s H vs Q E hr h => ?_)
  · obtain ⟨a, v, rfl, _⟩ := h
    rfl
  · obtain ⟨a, v, rfl, ha, q⟩ := h
    refine ⟨_, pss_one (ps_ostG (pv 0) (pv 1)), ?_⟩
    exact ⟨_, rfl, _, rfl, a, T.C_InvalidElement, rfl, T.x_InvalidElement, T.na_value_InvalidElement, .inl ⟨ha, fun dx h1 h2 => q dx h1 h2⟩⟩
def spChkE (C CE : Addr) : Sp := fun vs H Q E => ∃ (n : Int) (l : Addr) (x : V), vs = [.int n, .ref l] ∧ H l = some (.lst [x]) ∧ knownV C H x ∧
  ((inR x 0 (n - 1) = true ∧ ∀ H', Same H H' → Q .non H') ∨ (inR x 0 (n - 1) = false ∧ ∀ H', Same H H' → ∀ d, H' d = none → E (.ref CE) (some d) (upd H' d (.xd [("value", x)]))))
theorem okX_check_elements (T : Txt K mg) : FnR P w K mg base (L2.CX P w) 4 T.f_check_elements (spChkE T.C_Map T.C_InvalidElement) := by
  refine T.A_check_elements.okX sc_check_elements (fun vs H Q E h => ?_) (fun cdv A outer s H vs Q E hr h => ?_)
  · obtain ⟨n, l, x, rfl, _⟩ := h
    rfl
  · obtain ⟨n, l, x, rfl, hl, hk, h⟩ := h
    have hu := hu_of hr
    refine ⟨_, (pss_cons (ps_set (i := 2) sc_check_elements.nd rfl (Or.inl rfl) pe_dnewK)
      (pss_one (ps_for (passes_of rfl) rfl (pi_list (pv 1)) (pg_name (i := 3) sc_check_elements.nd rfl (Or.inl rfl))
        (pss_cons (ps_if (PW.pt (pw_or (pt_not (pt_val (pe_callR (ok_in_range T) (hr.mono (by decide)) T.A_in_range.kp rfl T.g_in_range pass0 (pa_cons (pv 3) (pa_cons pe_int (pa_cons (pe_op op_sub (pv 0) pe_int) pa_nil)))))) (pw_or1 (pt_cmp (pc_din hu (pv 3) (pv 2))))))
        (pss_one (ps_raise rfl (takes_of rfl rfl rfl rfl) (pmk_oexG T.x_InvalidElement T.m_InvalidElement__init T.ti_InvalidElement__init (ok_ini_InvalidElement T) (hr.mono (by decide)) pass0 rfl T.g_InvalidElement (pa_cons (pv 3) pa_nil)))) pss_nil)
      (pss_one (ps_dput hu (pv 2) (pv 3) pe_bl rfl)))))), ?_⟩
    refine fun se n_se => ?_
    generalize g_se : L2.upd _ se _ = H1
    obtain ⟨s_H1, e_se⟩ := U.upd_facts g_se n_se
    clear g_se
    have hl1 := s_H1 _ _ hl
    refine ⟨_, rfl, l, rfl, ⟨_, SqL.of hl1⟩, ?_⟩
    refine for_it (walk_list (xs := [x])) (fun i σ H' => ∃ v3, σ = [some (.int n), some (.ref l), some (.ref se), v3] ∧ Same H H' ∧ (i = 0 → H' = H1) ∧ (i = 1 → inR x 0 (n - 1) = true)) ⟨_, rfl, s_H1, fun _ => rfl, fun z => nomatch z⟩ (fun i σ H' _ ⟨_, _, z, _⟩ => SqL.of (z _ _ hl)) ?_ ?_
    · rintro i v σ H0 H' hi ⟨v3, rfl, sh, h0, _⟩ ⟨rfl, ev⟩
      have i0 : i = 0 := by simp at hi; exact hi
      subst i0
      cases ev
      cases h0 rfl
      refine ⟨_, rfl, _, rfl, _, _, rfl, rfl, x, 0, n - 1, rfl, ?_, _, rfl, ?_⟩
      · cases x with
        | ref a =>
          rcases hk with ⟨xs, e⟩ | ⟨xs, e⟩ | ⟨xs, e⟩ | ⟨dx, fs, e⟩
          · exact .inl ⟨_, s_H1 _ _ e⟩
          · exact .inr (.inl ⟨_, s_H1 _ _ e⟩)
          · exact .inr (.inr (.inl ⟨_, s_H1 _ _ e⟩))
          · exact .inr (.inr (.inr ⟨_, _, s_H1 _ _ e⟩))
        | _ => exact hk
      rcases h with ⟨hr1, q⟩ | ⟨hr1, q⟩
      · rw [hr1]
        refine iteF ?_
        obtain ⟨i, rfl⟩ : ∃ i, x = .int i := by cases x <;> first | exact ⟨_, rfl⟩ | cases hr1
        refine ⟨_, rfl, _, rfl, se, _, rfl, dgetI (l := []) (f := emp) e_se ⟨List.Pairwise.nil, fun _ => rfl⟩ i, _, rfl, iteF ?_⟩
        exact ⟨_, rfl, _, rfl, se, _, rfl, .k (k := Sum.inl i) e_se (by show 0 < sizeLine; decide), _, rfl, Same.put s_H1 n_se, (fun z => nomatch z), (fun _ => rfl)⟩
      · rw [hr1]
        exact iteT (iteT ⟨_, rfl, mk_one fun d hd => q _ s_H1 d hd⟩)
    · rintro σ H' ⟨v3, rfl, sh, _, h1⟩
      rcases h with ⟨_, q⟩ | ⟨hr1, _⟩
      · exact q _ sh
      · rw [h1 rfl] at hr1
        cases hr1
end
end My
namespace My
open PM
/-! ### search through tables -/
abbrev Ws := List (Int × List Int)
def keys (ws : Ws) : List Int := ws.map (·.1)
/-- what tables 0 .. k-1 add at a place -/
def vis (fs : List PF) (ws : Ws) (p : Int) (w : List Int) : Nat → Ws
  | 0 => []
  | k + 1 => match ((fs[k]?).getD emp) p with
    | some y => if y ∈ keys (ws ++ vis fs ws p w k) then vis fs ws p w k else vis fs ws p w k ++ [(y, w ++ [(k : Int)])]
    | none => vis fs ws p w k
def nxW (fs : List PF) (k : Nat) (ws : Ws) : Ws := match ws[k]? with
  | some e => ws ++ vis fs ws e.1 e.2 fs.length
  | none => ws
def Wd (fs : List PF) (s : Int) : Nat → Ws
  | 0 => [(s, [])]
  | k + 1 => nxW fs k (Wd fs s k)
theorem keys_app (a b : Ws) : keys (a ++ b) = keys a ++ keys b := List.map_append
theorem vis_mem {fs : List PF} {ws : Ws} {p : Int} {w : List Int} : ∀ {k : Nat} {e : Int × List Int}, e ∈ vis fs ws p w k → ∃ (i : Nat) (f : PF), fs[i]? = some f ∧ f p = some e.1
  | 0, e, h => nomatch h
  | k + 1, e, h => by
    unfold vis at h
    cases hy : ((fs[k]?).getD emp) p with
    | none =>
      rw [hy] at h
      dsimp only at h
      exact vis_mem (k := k) h
    | some y =>
      rw [hy] at h
      dsimp only at h
      split at h
      · exact vis_mem (k := k) h
      · rcases List.mem_append.mp h with h | h
        · exact vis_mem (k := k) h
        · rw [List.mem_singleton] at h
          subst h
          cases hf : fs[k]? with
          | none => rw [hf] at hy; cases hy
          | some f => rw [hf] at hy; exact ⟨k, f, hf, hy⟩
theorem vis_nodup {fs : List PF} {ws : Ws} (h : (keys ws).Nodup) {p : Int} {w : List Int} : ∀ k, (keys (ws ++ vis fs ws p w k)).Nodup
  | 0 => by rw [show vis fs ws p w 0 = [] from rfl, List.append_nil]; exact h
  | k + 1 => by
    have ih := vis_nodup h (fs := fs) (p := p) (w := w) k
    unfold vis
    cases hy : ((fs[k]?).getD emp) p with
    | none => exact ih
    | some y =>
      dsimp only
      split
      · exact ih
      · rename_i hn
        rw [← List.append_assoc, keys_app]
        refine List.nodup_append.mpr ⟨ih, by simp [keys], fun a ha b hb => ?_⟩
        simp [keys] at hb
        rintro rfl
        exact hn (hb ▸ ha)
theorem vis_has {fs : List PF} {ws : Ws} {p : Int} {w : List Int} : ∀ {k i : Nat} {f : PF} {y : Int}, i < k → fs[i]? = some f → f p = some y → y ∈ keys (ws ++ vis fs ws p w k)
  | k + 1, i, f, y, hi, hf, hy => by
    unfold vis
    by_cases e : i = k
    · subst e
      rw [hf]
      dsimp only [Option.getD_some]
      rw [hy]
      dsimp only
      split
      · assumption
      · rw [← List.append_assoc, keys_app]
        exact List.mem_append.mpr (.inr (by simp [keys]))
    · have ih := vis_has (ws := ws) (w := w) (show i < k by omega) hf hy
      cases hy' : ((fs[k]?).getD emp) p with
      | none => exact ih
      | some z =>
        dsimp only
        split
        · exact ih
        · rw [← List.append_assoc, keys_app]
          exact List.mem_append.mpr (.inl ih)
theorem nxW_pre (fs : List PF) (k : Nat) (ws : Ws) : ∃ r, nxW fs k ws = ws ++ r := by
  unfold nxW
  cases ws[k]? with
  | none => exact ⟨[], by simp⟩
  | some e => exact ⟨_, rfl⟩
theorem Wd_le (fs : List PF) (s : Int) (k : Nat) : ∃ r, Wd fs s (k + 1) = Wd fs s k ++ r := nxW_pre fs k _
theorem Wd_mono {fs : List PF} {s : Int} {k : Nat} : ∀ {j : Nat}, k ≤ j → ∃ r, Wd fs s j = Wd fs s k ++ r
  | 0, h => by
    have : k = 0 := by omega
    subst this
    exact ⟨[], by simp⟩
  | j + 1, h => by
    by_cases e : k = j + 1
    · subst e; exact ⟨[], by simp⟩
    · obtain ⟨r, hr⟩ := Wd_mono (fs := fs) (s := s) (show k ≤ j by omega)
      obtain ⟨r', hr'⟩ := Wd_le fs s j
      exact ⟨r ++ r', by rw [hr', hr, List.append_assoc]⟩
theorem Wd_stop {fs : List PF} {s : Int} {k : Nat} (h : (Wd fs s k).length ≤ k) : ∀ {j : Nat}, k ≤ j → Wd fs s j = Wd fs s k
  | 0, hj => by
    have : k = 0 := by omega
    subst this
    rfl
  | j + 1, hj => by
    by_cases e : k = j + 1
    · subst e; rfl
    · have ih := Wd_stop h (show k ≤ j by omega)
      show nxW fs j (Wd fs s j) = _
      rw [ih]
      unfold nxW
      rw [List.getElem?_eq_none (by omega)]
theorem Wd_keys {fs : List PF} {s n : Int} (hs : 0 ≤ s ∧ s < n) (wf : ∀ f ∈ fs, WF n f) : ∀ k, (keys (Wd fs s k)).Nodup ∧ ∀ x ∈ keys (Wd fs s k), 0 ≤ x ∧ x < n
  | 0 => ⟨by simp [Wd, keys], fun x hx => by simp [Wd, keys] at hx; subst hx; exact hs⟩
  | k + 1 => by
    obtain ⟨h1, h2⟩ := Wd_keys hs wf k
    show (keys (nxW fs k (Wd fs s k))).Nodup ∧ ∀ x ∈ keys (nxW fs k (Wd fs s k)), 0 ≤ x ∧ x < n
    unfold nxW
    cases (Wd fs s k)[k]? with
    | none => exact ⟨h1, h2⟩
    | some e =>
      refine ⟨vis_nodup h1 _, fun x hx => ?_⟩
      dsimp only at hx
      rw [keys_app] at hx
      rcases List.mem_append.mp hx with hx | hx
      · exact h2 x hx
      · obtain ⟨q, hq, rfl⟩ := List.mem_map.mp hx
        obtain ⟨i, f, hf, hy⟩ := vis_mem hq
        have := (wf f (List.mem_of_getElem? hf)).dom _ _ hy
        exact ⟨this.2.2.1, this.2.2.2⟩
theorem Wd_len {fs : List PF} {s n : Int} (hs : 0 ≤ s ∧ s < n) (wf : ∀ f ∈ fs, WF n f) (k : Nat) : (Wd fs s k).length ≤ n.toNat := by
  obtain ⟨h1, h2⟩ := Wd_keys hs wf k
  have := len_range h1 h2
  unfold keys at this
  rwa [List.length_map] at this
theorem Wd_at {fs : List PF} {s : Int} {i k : Nat} (hk : i ≤ k) {e : Int × List Int} (h : (Wd fs s k)[i]? = some e) : (Wd fs s i)[i]? = some e := by
  by_cases hl : i < (Wd fs s i).length
  · obtain ⟨r, hr⟩ := Wd_mono (fs := fs) (s := s) hk
    rw [hr, List.getElem?_append_left hl] at h
    exact h
  · rw [Wd_stop (by omega) hk] at h
    rw [List.getElem?_eq_none (by omega)] at h
    cases h
theorem vis_word {fs : List PF} {ws : Ws} {p : Int} {w : List Int} : ∀ {k : Nat} {e : Int × List Int}, e ∈ vis fs ws p w k → e.2.length = w.length + 1
  | 0, e, h => nomatch h
  | k + 1, e, h => by
    unfold vis at h
    cases hy : ((fs[k]?).getD emp) p with
    | none =>
      rw [hy] at h
      dsimp only at h
      exact vis_word (k := k) h
    | some y =>
      rw [hy] at h
      dsimp only at h
      split at h
      · exact vis_word (k := k) h
      · rcases List.mem_append.mp h with h | h
        · exact vis_word (k := k) h
        · rw [List.mem_singleton] at h
          subst h
          simp
theorem Wd_word {fs : List PF} {s : Int} : ∀ {k : Nat} {e : Int × List Int}, e ∈ Wd fs s k → e.2.length ≤ k
  | 0, e, h => by
    rw [show Wd fs s 0 = [(s, [])] from rfl, List.mem_singleton] at h
    subst h
    exact Nat.le_refl _
  | k + 1, e, h => by
    change e ∈ nxW fs k (Wd fs s k) at h
    unfold nxW at h
    cases he : (Wd fs s k)[k]? with
    | none =>
      rw [he] at h
      exact Nat.le_succ_of_le (Wd_word h)
    | some g =>
      rw [he] at h
      dsimp only at h
      rcases List.mem_append.mp h with h | h
      · exact Nat.le_succ_of_le (Wd_word h)
      · have := vis_word h
        have := Wd_word (List.mem_of_getElem? he)
        omega
theorem Wd_closed {fs : List PF} {s : Int} {k : Nat} (h : (Wd fs s k).length ≤ k) {p y : Int} (hp : p ∈ keys (Wd fs s k)) {f : PF} (hf : f ∈ fs) (hy : f p = some y) : y ∈ keys (Wd fs s k) := by
  obtain ⟨e, he, rfl⟩ := List.mem_map.mp hp
  obtain ⟨i, hi⟩ := List.getElem?_of_mem he
  have hik : i < k := by have := (List.getElem?_eq_some_iff.mp hi).1; omega
  have h1 := Wd_at (by omega) hi
  obtain ⟨j, hj⟩ := List.getElem?_of_mem hf
  have hjl := (List.getElem?_eq_some_iff.mp hj).1
  have h2 := vis_has (ws := Wd fs s i) (w := e.2) hjl hj hy
  obtain ⟨r, hr⟩ := Wd_mono (fs := fs) (s := s) (show i + 1 ≤ k by omega)
  rw [hr, keys_app]
  refine List.mem_append.mpr (.inl ?_)
  show y ∈ keys (nxW fs i (Wd fs s i))
  unfold nxW
  rw [h1]
  exact h2
inductive Rch (fs : List PF) (s : Int) : Int → Prop
  | refl : Rch fs s s
  | step {p y : Int} {f : PF} : Rch fs s p → f ∈ fs → f p = some y → Rch fs s y
theorem Wd_rch {fs : List PF} {s : Int} : ∀ {k : Nat} {p : Int}, p ∈ keys (Wd fs s k) → Rch fs s p
  | 0, p, h => by
    simp [Wd, keys] at h
    subst h
    exact .refl
  | k + 1, p, h => by
    change p ∈ keys (nxW fs k (Wd fs s k)) at h
    unfold nxW at h
    cases he : (Wd fs s k)[k]? with
    | none => rw [he] at h; exact Wd_rch h
    | some e =>
      rw [he] at h
      dsimp only at h
      rw [keys_app] at h
      rcases List.mem_append.mp h with h | h
      · exact Wd_rch h
      · obtain ⟨q, hq, rfl⟩ := List.mem_map.mp h
        obtain ⟨i, f, hf, hy⟩ := vis_mem hq
        exact .step (Wd_rch (List.mem_map.mpr ⟨e, List.mem_of_getElem? he, rfl⟩)) (List.mem_of_getElem? hf) hy
theorem rch_Wd {fs : List PF} {s : Int} {k : Nat} (h : (Wd fs s k).length ≤ k) {p : Int} (r : Rch fs s p) : p ∈ keys (Wd fs s k) := by
  induction r with
  | refl =>
    obtain ⟨r, hr⟩ := Wd_mono (fs := fs) (s := s) (Nat.zero_le k)
    rw [hr, keys_app]
    exact List.mem_append.mpr (.inl (by simp [Wd, keys]))
  | step _ hf hy ih => exact Wd_closed h ih hf hy
theorem Rch.trans {fs : List PF} {a b c : Int} (h1 : Rch fs a b) (h2 : Rch fs b c) : Rch fs a c := by
  induction h2 with
  | refl => exact h1
  | step _ hf hy ih => exact .step ih hf hy
/-- tables and their inverses -/
def both (n : Int) (fs : List PF) : List PF := fs ++ fs.map (inv n)
theorem wf_both {n : Int} {fs : List PF} (wf : ∀ f ∈ fs, WF n f) : ∀ f ∈ both n fs, WF n f := fun f hf => by
  rcases List.mem_append.mp hf with h | h
  · exact wf f h
  · obtain ⟨g, hg, rfl⟩ := List.mem_map.mp h
    exact wf_inv (wf g hg)
theorem rch_symm {n : Int} {fs : List PF} (wf : ∀ f ∈ fs, WF n f) {a b : Int} (h : Rch (both n fs) a b) : Rch (both n fs) b a := by
  induction h with
  | refl => exact .refl
  | @step p y f _ hf hy ih =>
    refine Rch.trans (.step .refl (f := ?_) ?_ ?_ : Rch (both n fs) y p) ih
    · exact inv n f
    · rcases List.mem_append.mp hf with h | h
      · exact List.mem_append.mpr (.inr (List.mem_map.mpr ⟨f, h, rfl⟩))
      · obtain ⟨g, hg, rfl⟩ := List.mem_map.mp h
        rw [inv_inv' (wf g hg)]
        exact List.mem_append.mpr (.inl hg)
    · rw [inv_iff (wf_both wf f hf)]
      exact hy
/-! ### classes -/
noncomputable def cnn (n : Int) (fs : List PF) (a b : Nat) : Bool := @decide (Rch (both n fs) a b) (Classical.propDecidable _)
theorem cnn_iff {n : Int} {fs : List PF} {a b : Nat} : cnn n fs a b = true ↔ Rch (both n fs) a b := by
  unfold cnn
  exact @decide_eq_true_iff _ (Classical.propDecidable _)
def isMn (c : Nat → Nat → Bool) (e : Nat) : Bool := (List.range e).all fun y => !c e y
def orbs (c : Nat → Nat → Bool) (n : Nat) : List (List Nat) := ((List.range n).filter (isMn c)).map fun e => (List.range n).filter (c e)
/-- labels -/
structure Lab (R : Int → Int → Prop) (n : Nat) (nm : List Int) : Prop where
  len : nm.length = n
  le : ∀ (i : Nat) (v : Int), nm[i]? = some v → 0 ≤ v ∧ v ≤ i
  idm : ∀ (i : Nat) (v : Int), nm[i]? = some v → nm[v.toNat]? = some v
  snd : ∀ (i : Nat) (v : Int), nm[i]? = some v → R i v
def relab (a b : Int) (nm : List Int) : List Int := nm.map fun v => if v = a ∨ v = b then (if b < a then b else a) else v
theorem lab0 {R : Int → Int → Prop} (hR : ∀ a, R a a) (n : Nat) : Lab R n ((List.range n).map fun (i : Nat) => (i : Int)) := by
  have at_ : ∀ (i : Nat) (v : Int), ((List.range n).map fun (i : Nat) => (i : Int))[i]? = some v → v = i ∧ i < n := fun i v h => by
    rw [List.getElem?_map] at h
    obtain ⟨j, hj, rfl⟩ := Option.map_eq_some_iff.mp h
    have h1 := (List.getElem?_eq_some_iff.mp hj).1
    rw [List.length_range] at h1
    rw [List.getElem?_range h1] at hj
    cases hj
    exact ⟨rfl, h1⟩
  refine ⟨by simp, fun i v h => ?_, fun i v h => ?_, fun i v h => ?_⟩
  · obtain ⟨rfl, _⟩ := at_ i v h
    omega
  · obtain ⟨rfl, _⟩ := at_ i v h
    exact h
  · obtain ⟨rfl, _⟩ := at_ i v h
    exact hR _
theorem lab_re {R : Int → Int → Prop} (rs : ∀ {a b}, R a b → R b a) (rt : ∀ {a b c}, R a b → R b c → R a c) {n : Nat} {nm : List Int} (h : Lab R n nm) {x y : Nat} {a b : Int} (ha : nm[x]? = some a) (hb : nm[y]? = some b) (hxy : R x y) : Lab R n (relab a b nm) := by
  have ra := h.snd x a ha
  have rb := h.snd y b hb
  have ia := h.idm x a ha
  have ib := h.idm y b hb
  have at_ : ∀ (i : Nat) (v : Int), (relab a b nm)[i]? = some v → ∃ u, nm[i]? = some u ∧ v = if u = a ∨ u = b then (if b < a then b else a) else u := fun i v e => by
    unfold relab at e
    rw [List.getElem?_map] at e
    obtain ⟨u, hu, rfl⟩ := Option.map_eq_some_iff.mp e
    exact ⟨u, hu, rfl⟩
  have get : ∀ (i : Nat) (u : Int), nm[i]? = some u → (relab a b nm)[i]? = some (if u = a ∨ u = b then (if b < a then b else a) else u) := fun i u e => by
    unfold relab
    rw [List.getElem?_map, e]
    rfl
  refine ⟨by unfold relab; rw [List.length_map]; exact h.len, fun i v e => ?_, fun i v e => ?_, fun i v e => ?_⟩
  · obtain ⟨u, hu, rfl⟩ := at_ i v e
    have h1 := h.le i u hu
    have h2 := h.le x a ha
    have h3 := h.le y b hb
    split
    · rename_i hc
      split <;> rcases hc with rfl | rfl <;> omega
    · exact h1
  · obtain ⟨u, hu, rfl⟩ := at_ i v e
    by_cases hc : u = a ∨ u = b
    · rw [if_pos hc]
      by_cases hl : b < a
      · rw [if_pos hl, get _ _ ib, if_pos (.inr rfl), if_pos hl]
      · rw [if_neg hl, get _ _ ia, if_pos (.inl rfl), if_neg hl]
    · rw [if_neg hc, get _ _ (h.idm i u hu), if_neg hc]
  · obtain ⟨u, hu, rfl⟩ := at_ i v e
    have ru := h.snd i u hu
    by_cases hc : u = a ∨ u = b
    · rw [if_pos hc]
      have ra' : R i a := by
        rcases hc with rfl | rfl
        · exact ru
        · exact rt ru (rt (rs rb) (rt (rs hxy) ra))
      split
      · exact rt ra' (rt (rs ra) (rt hxy rb))
      · exact ra'
    · rw [if_neg hc]
      exact ru
theorem re_eq {a b : Int} {nm : List Int} {x y : Nat} (h : nm[x]? = nm[y]?) : (relab a b nm)[x]? = (relab a b nm)[y]? := by
  unfold relab
  rw [List.getElem?_map, List.getElem?_map, h]
theorem re_new {a b : Int} {nm : List Int} {x y : Nat} (ha : nm[x]? = some a) (hb : nm[y]? = some b) : (relab a b nm)[x]? = (relab a b nm)[y]? := by
  unfold relab
  rw [List.getElem?_map, List.getElem?_map, ha, hb]
  simp
/-- the classes by labels are the classes -/
theorem lab_orbs {n : Int} {fs : List PF} {N : Nat} (hN : n = N) (wf : ∀ f ∈ fs, WF n f) {nm : List Int} (h : Lab (Rch (both n fs)) N nm) (hb : ∀ f ∈ fs, ∀ x y : Nat, f x = some (y : Int) → nm[x]? = nm[y]?) {a b : Nat} (ha : a < N) (hb' : b < N) :
    (nm[a]? = nm[b]? ↔ cnn n fs a b = true) := by
  rw [cnn_iff]
  constructor
  · intro e
    have hal : a < nm.length := by rw [h.len]; exact ha
    have h1 : nm[a]? = some nm[a] := List.getElem?_eq_getElem hal
    have r1 := h.snd a _ h1
    have r2 := h.snd b _ (e ▸ h1)
    exact r1.trans (rch_symm wf r2)
  · intro r
    have key : ∀ z : Int, Rch (both n fs) a z → 0 ≤ z ∧ z < n ∧ nm[a]? = nm[z.toNat]? := by
      intro z r
      induction r with
      | refl => exact ⟨by omega, by omega, by rw [Int.toNat_natCast]⟩
      | @step p y f _ hf hy ih =>
        obtain ⟨i1, i2, i3⟩ := ih
        rcases List.mem_append.mp hf with hf | hf
        · have d := (wf f hf).dom _ _ hy
          refine ⟨d.2.2.1, d.2.2.2, i3.trans (hb f hf _ _ ?_)⟩
          rw [Int.toNat_of_nonneg i1, Int.toNat_of_nonneg d.2.2.1]
          exact hy
        · obtain ⟨g, hg, rfl⟩ := List.mem_map.mp hf
          rw [inv_iff (wf g hg)] at hy
          have d := (wf g hg).dom _ _ hy
          refine ⟨d.1, d.2.1, i3.trans (hb g hg _ _ ?_).symm⟩
          rw [Int.toNat_of_nonneg i1, Int.toNat_of_nonneg d.1]
          exact hy
    have := (key b r).2.2
    rwa [Int.toNat_natCast] at this
theorem lab_mn {n : Int} {fs : List PF} {N : Nat} (hN : n = N) (wf : ∀ f ∈ fs, WF n f) {nm : List Int} (h : Lab (Rch (both n fs)) N nm) (hb : ∀ f ∈ fs, ∀ x y : Nat, f x = some (y : Int) → nm[x]? = nm[y]?) {e : Nat} (he : e < N) :
    isMn (cnn n fs) e = true ↔ nm[e]? = some (e : Int) := by
  have hel : e < nm.length := by rw [h.len]; exact he
  have h1 : nm[e]? = some nm[e] := List.getElem?_eq_getElem hel
  have l1 := h.le e _ h1
  have i1 := h.idm e _ h1
  unfold isMn
  rw [List.all_eq_true]
  constructor
  · intro hm
    by_cases hc : nm[e] = (e : Int)
    · rw [h1, hc]
    · have hlt : nm[e].toNat < e := by omega
      have := hm nm[e].toNat (List.mem_range.mpr hlt)
      rw [(lab_orbs hN wf h hb he (by omega)).mp (h1.trans i1.symm)] at this
      cases this
  · intro e1 y hy
    rw [List.mem_range] at hy
    cases hc : cnn n fs e y with
    | false => rfl
    | true =>
      have e2 := (lab_orbs hN wf h hb he (by omega)).mpr hc
      rw [e1] at e2
      have := (h.le y _ e2.symm).2
      omega
end My
namespace My
open PySem L2 U StX PM
/-! ### families -/
def famF (t : Addr) : List (Str × V) := putF "own_maps" (.ref t) []
theorem famF_maps (t : Addr) : (famF t).lookup ("own_maps" : Str) = some (.ref t) := by
  unfold famF
  rw [lookup_putF, if_pos rfl]
structure FamAt (CM CF : Addr) (H : Hp) (a t : Addr) (xs : List V) (n : Int) (fs : List PF) : Prop where
  ob : ∃ dx, H a = some (.ins CF dx (famF t))
  tp : H t = some (.tup xs)
  ms : MapsAt CM H n xs fs
  ne : fs ≠ []
  le : xs.length ≤ 10
theorem FamAt.same {CM CF : Addr} {H H' : Hp} {a t : Addr} {xs : List V} {n : Int} {fs : List PF} (h : FamAt CM CF H a t xs n fs) (s : Same H H') : FamAt CM CF H' a t xs n fs := by
  obtain ⟨⟨dx, e⟩, tp, ms, ne, le⟩ := h
  exact ⟨⟨dx, s _ _ e⟩, s _ _ tp, ms.same s, ne, le⟩
theorem FamAt.len {CM CF : Addr} {H : Hp} {a t : Addr} {xs : List V} {n : Int} {fs : List PF} (h : FamAt CM CF H a t xs n fs) : xs.length = fs.length := paired_len h.ms
/-- the first map -/
theorem MapsAt.first {C : Addr} {H : Hp} {n : Int} {xs : List V} {fs : List PF} (h : MapsAt C H n xs fs) (ne : fs ≠ []) : ∃ a f, xs[0]? = some (.ref a) ∧ IsMap C H a n f := by
  unfold MapsAt at h
  cases h with
  | nil => exact absurd rfl ne
  | cons h0 _ =>
    obtain ⟨a, rfl, hm⟩ := h0
    exact ⟨a, _, rfl, hm⟩
theorem MapsAt.app {C : Addr} {H : Hp} {n : Int} {xs ys : List V} {fs gs : List PF} (h : MapsAt C H n xs fs) (g : MapsAt C H n ys gs) : MapsAt C H n (xs ++ ys) (fs ++ gs) := by
  unfold MapsAt at h ⊢
  induction h with
  | nil => exact g
  | cons a _ ih => exact .cons a ih
theorem IsMap.offI {C p : Addr} {H H' : Hp} {m : Addr} {n : Int} {f : PF} {C' dx : Addr} (a : IsMap C H m n f) (o : Off p H H') (h : H p = some (.ins C' dx [])) : IsMap C H' m n f := by
  obtain ⟨⟨dx, D, h1, h2⟩, wf, lo, hi⟩ := a
  refine ⟨⟨dx, D, o _ _ (fun e => ?_) h1, o _ _ (fun e => by rw [e, h] at h2; cases h2) h2⟩, wf, lo, hi⟩
  rw [e, h] at h1
  have e3 := (HO.ins.inj (Option.some.inj h1)).2.2
  have := flds_size n D
  rw [← e3] at this
  cases this
def spMany (CL : Addr) : Sp := fun vs H Q E => ∃ n : Int, vs = [.int n] ∧ ((n ≤ 10 ∧ Q .non H) ∨ (10 < n ∧ ∀ d, H d = none → E (.ref CL) (some d) (upd H d (.xd [("limit", .int 10)]))))
def spFamI (CM CF CI CS CL : Addr) : Sp := fun vs H Q E => ∃ (p t : Addr) (dx : Addr) (xs : List V), vs = [.ref p, .ref t] ∧ H p = some (.ins CF dx []) ∧ H t = some (.tup xs) ∧ xs.length ≤ 100 ∧
  (ErrB CM CI CS H xs E ∨ ∃ n fs, MapsAt CM H n xs fs ∧ fs ≠ [] ∧ ((10 < xs.length ∧ ∀ H', Same H H' → ∀ d, H' d = none → E (.ref CL) (some d) (upd H' d (.xd [("limit", .int 10)]))) ∨
    (xs.length ≤ 10 ∧ ∀ H', Off p H H' → FamAt CM CF H' p t xs n fs → Q .non H')))
/-- Family(..) of maps that are all well -/
theorem famInit_of {CM CF CI CS CL : Addr} {H : Hp} {xs : List V} {n : Int} {fs : List PF} {R : VK} {E : XK} {x dx : Addr} (hm : MapsAt CM H n xs fs) (ne : fs ≠ []) (hl : xs.length ≤ 10)
    (nx : H x = none) (ndx : H dx = none) (nd : dx ≠ x) (q : ∀ t H', Same H H' → FamAt CM CF H' x t xs n fs → R .non H') :
    spStar 1 (spFamI CM CF CI CS CL) (.ref x :: xs) (upd (upd H dx (.own x)) x (.ins CF dx [])) R E := by
  have s0 : Same H (upd (upd H dx (.own x)) x (.ins CF dx [])) := fun b o e => by
    rw [upd_ne (ne_of_none e nx), upd_ne (ne_of_none e ndx)]
    exact e
  refine ⟨[.ref x], xs, rfl, rfl, le_line (by omega), fun t nt => ?_⟩
  have nxt : x ≠ t := fun z => by rw [← z, upd_same] at nt; cases nt
  have s1 := s0.trans (Same.new (o := .tup xs) nt)
  refine ⟨x, t, dx, xs, rfl, by rw [upd_ne nxt]; exact upd_same, upd_same, by omega, .inr ⟨n, fs, hm.same s1, ne, .inr ⟨hl, fun H' o hf => ?_⟩⟩⟩
  exact q t H' (fun b u e => o b u (ne_of_none e nx) (s1 b u e)) hf
def spFam1 (CM CF : Addr) (pick : Addr → Int → V) : Sp := fun vs H Q _ => ∃ (a t : Addr) (xs : List V) (n : Int) (fs : List PF), vs = [.ref a] ∧ FamAt CM CF H a t xs n fs ∧ Q (pick t n) H
def spMade (CM CF : Addr) : Sp := fun vs H Q _ => ∃ (l : Addr) (xs : List V) (n : Int) (fs : List PF), vs = [.ref l] ∧ H l = some (.lst xs) ∧ MapsAt CM H n xs fs ∧ fs ≠ [] ∧ xs.length ≤ 10 ∧ ∀ p t H', Same H H' → FamAt CM CF H' p t xs n fs → Q (.ref p) H'
def spFamAdd (CM CF CS CL : Addr) : Sp := fun vs H Q E => ∃ (a b t u : Addr) (xs ys : List V) (n m : Int) (fs gs : List PF), vs = [.ref a, .ref b] ∧ FamAt CM CF H a t xs n fs ∧ FamAt CM CF H b u ys m gs ∧
  ((n ≠ m ∧ mism CS n m H E) ∨ (n = m ∧ 10 < xs.length + ys.length ∧ ∀ d, H d = none → E (.ref CL) (some d) (upd H d (.xd [("limit", .int 10)]))) ∨
    (n = m ∧ xs.length + ys.length ≤ 10 ∧ ∀ p t' H', Same H H' → FamAt CM CF H' p t' (xs ++ ys) n (fs ++ gs) → Q (.ref p) H'))
section
variable {P : Program} {w : World} {K : PySem.W.Frag} {mg : Str → Option Value} {base : Heap}
theorem okX_check_many (T : Txt K mg) : FnR P w K mg base (L2.CX P w) 3 T.f_check_many (spMany T.C_LimitExceeded) := by
  refine T.A_check_many.okX sc_check_many (fun vs H Q E h => ?_) (fun cdv A outer s H vs Q E hr h => ?_)
  · obtain ⟨n, rfl, _⟩ := h
    rfl
  · obtain ⟨n, rfl, h⟩ := h
    obtain ⟨_, h_MOST_MAPS⟩ := T.v_MOST_MAPS
    refine ⟨_, (pss_one (ps_if (pt_cmpR op_gt (pv 0) (pe_glob (v := .int 10) rfl h_MOST_MAPS ⟨_, rfl⟩) (nomark _))
        (pss_one (ps_raise rfl (takes_of rfl rfl rfl rfl) (pmk_oexG T.x_LimitExceeded T.m_LimitExceeded__init T.ti_LimitExceeded__init (ok_ini_LimitExceeded T) (hr.mono (by decide)) pass0 rfl T.g_LimitExceeded (pa_cons (pe_glob (v := .int 10) rfl h_MOST_MAPS ⟨_, rfl⟩) pa_nil)))) pss_nil)), ?_⟩
    refine ⟨_, rfl, _, _, rfl, rfl, _, rfl, ?_⟩
    rcases h with ⟨h1, q⟩ | ⟨h1, q⟩
    · exact ifD (fun z => absurd z (by omega)) (fun _ => q)
    · exact ifD (fun _ => mk_one fun d hd => q d hd) (fun z => absurd h1 z)
theorem okX_f_init (T : Txt K mg) : FnR P w K mg base (L2.CX P w) 7 T.f_Family__init (spStar 1 (spFamI T.C_Map T.C_Family T.C_InvalidMap T.C_SizeMismatch T.C_LimitExceeded)) := by
  refine T.A_Family__init.okX sc_Family__init (fun cdv A outer s H vs Q E hr h => ?_)
  obtain ⟨p, t, dx, xs, rfl, hp, ht, hl, h⟩ := h
  refine ⟨_, (pss_cons (ps_expr (pe_callR (ok_check_all T) (hr.mono (by decide)) T.A_check_all.kp rfl T.g_check_all (passes_call (takes_of rfl rfl rfl rfl) (fun _ _ _ _ h => h)) (pa_cons (pv 1) pa_nil)))
      (pss_cons (ps_expr (pe_callR (okX_check_many T) (hr.mono (by decide)) T.A_check_many.kp rfl T.g_check_many (passes_call (takes_of rfl rfl rfl rfl) (fun _ _ _ _ h => h)) (pa_cons (pe_callB call_len_seq (by rfl) T.n_len (by decide +kernel) (pa_cons (pv 1) pa_nil)) pa_nil)))
      (pss_one (ps_fld (pv 0) (pe_callTy call_tuple_of (by rfl) T.n_tuple (by decide +kernel) (pa_cons (pv 1) pa_nil)) rfl)))), ?_⟩
  rcases h with h | ⟨n, fs, hm, ne, h⟩
  · exact ⟨_, rfl, t, xs, rfl, ht, hl, h.all⟩
  · refine ⟨_, rfl, t, xs, rfl, ht, hl, .inr (.inr (.inr ⟨n, fs, hm, ne, fun H1 s1 => ?_⟩))⟩
    refine ⟨_, rfl, t, _, rfl, .inr (SqT.of (s1 _ _ ht)), _, rfl, ?_⟩
    rcases h with ⟨h1, q⟩ | ⟨h1, q⟩
    · exact .inr ⟨by omega, fun d hd => q H1 s1 d hd⟩
    · refine .inl ⟨by omega, ?_⟩
      refine ⟨_, rfl, t, _, rfl, .inr ⟨SqT.of (s1 _ _ ht), ?_⟩⟩
      refine ⟨_, rfl, p, T.C_Family, dx, [], rfl, s1 _ _ hp, T.o_Family.cl, T.na_own_maps_Family, (by show 0 < 1000; decide), ?_⟩
      have npt : t ≠ p := ne_of ht hp (by intro z; cases z)
      have o : Off p H (upd H1 p (.ins T.C_Family dx (putF "own_maps" (.ref t) []))) := fun b u hb e => by rw [upd_ne hb]; exact s1 _ _ e
      refine q _ o ⟨⟨dx, upd_same⟩, o _ _ npt ht, ?_, ne, h1⟩
      exact PySem.Paired.map hm fun v _ f ⟨a, e, m⟩ => ⟨a, e, m.offI o hp⟩
theorem ok_f_maps (T : Txt K mg) : FnR P w K mg base CX0 1 T.f_Family_maps (spFam1 T.C_Map T.C_Family fun t _ => .ref t) := by
  refine T.A_Family_maps.ok sc_Family_maps (fun vs H Q E h => ?_) (fun cdv A outer s H vs Q E hr h => ?_)
  · obtain ⟨a, t, xs, n, fs, rfl, _⟩ := h
    rfl
  · obtain ⟨a, t, xs, n, fs, rfl, hf, q⟩ := h
    obtain ⟨dx, e⟩ := hf.ob
    refine ⟨_, (pss_one (ps_ret (pe_fld (pv 0) rfl))), ?_⟩
    exact ⟨_, rfl, a, _, dx, _, _, rfl, e, T.o_Family.cl, T.na_own_maps_Family, famF_maps _, q⟩
theorem ok_f_size (T : Txt K mg) : FnR P w K mg base CX0 3 T.f_Family_size (spFam1 T.C_Map T.C_Family fun _ n => .int n) := by
  refine T.A_Family_size.ok sc_Family_size (fun vs H Q E h => ?_) (fun cdv A outer s H vs Q E hr h => ?_)
  · obtain ⟨a, t, xs, n, fs, rfl, _⟩ := h
    rfl
  · obtain ⟨a, t, xs, n, fs, rfl, hf, q⟩ := h
    obtain ⟨dx, e⟩ := hf.ob
    obtain ⟨m, f, e0, hm⟩ := hf.ms.first hf.ne
    obtain ⟨dm, fm, em⟩ := at_map hm
    refine ⟨_, (pss_one (ps_ret (pe_propR (pe_ix ix_tup (pe_fld (pv 0) rfl) pe_int (fun _ _ => rfl)) T.o_Map.cl T.P_Map_size (ok_size T) (hr.mono (by decide))))), ?_⟩
    exact ⟨_, rfl, a, _, dx, _, _, rfl, e, T.o_Family.cl, T.na_own_maps_Family, famF_maps _, t, _, 0, _, rfl, rfl, SqT.of hf.tp, atI_nat (j := 0) e0, m, dm, fm, rfl, em, m, n, f, rfl, hm, q⟩
theorem ok_made (T : Txt K mg) : FnR P w K mg base CX0 10 T.f_made (spMade T.C_Map T.C_Family) := by
  refine T.A_made.ok sc_made (fun vs H Q E h => ?_) (fun cdv A outer s H vs Q E hr h => ?_)
  · obtain ⟨l, xs, n, fs, rfl, _⟩ := h
    rfl
  · obtain ⟨l, xs, n, fs, rfl, hl, hm, ne, h10, q⟩ := h
    refine ⟨_, (pss_one (ps_ret (pe_makeS1 T.M_Family (fnR_calm (okX_f_init T)) (hr.mono (by decide)) rfl T.g_Family pass0 (pv 0)))), ?_⟩
    refine ⟨_, rfl, l, xs, rfl, .inr (SqL.of hl), fun x dx nx ndx nd => famInit_of hm ne h10 nx ndx nd fun t H' s hf => ⟨rfl, q x t H' s hf⟩⟩
theorem okX_f_add (T : Txt K mg) : FnR P w K mg base (L2.CX P w) 12 T.f_Family__add (spFamAdd T.C_Map T.C_Family T.C_SizeMismatch T.C_LimitExceeded) := by
  refine T.A_Family__add.okX sc_Family__add (fun vs H Q E h => ?_) (fun cdv A outer s H vs Q E hr h => ?_)
  · obtain ⟨a, b, t, u, xs, ys, n, m, fs, gs, rfl, _⟩ := h
    rfl
  · obtain ⟨a, b, t, u, xs, ys, n, m, fs, gs, rfl, ha, hb, h⟩ := h
    refine ⟨_, (pss_cons (ps_if (pt_not (pt_val (pe_callB call_isi (by rfl) T.n_isinstance (by decide +kernel) (pa_cons (pv 1) (pa_cons (pe_glob (v := .ref T.C_Family) rfl T.g_Family rfl) pa_nil)))))
        (pss_one ps_never) pss_nil)
      (pss_cons (ps_if (pt_cmpR op_ne (pe_propR (pe_ix ix_tup (pe_fld (pv 0) rfl) pe_int (fun _ _ => rfl)) T.o_Map.cl T.P_Map_size (ok_size T) (hr.mono (by decide))) (pe_propR (pe_ix ix_tup (pe_fld (pv 1) rfl) pe_int (fun _ _ => rfl)) T.o_Map.cl T.P_Map_size (ok_size T) (hr.mono (by decide))) (nomark _))
        (pss_one (ps_raise rfl (takes_of rfl rfl rfl rfl) (pmk_oexG T.x_SizeMismatch T.m_SizeMismatch__init T.ti_SizeMismatch__init (ok_ini_SizeMismatch T) (hr.mono (by decide)) pass0 rfl T.g_SizeMismatch (pa_cons (pe_propR (pe_ix ix_tup (pe_fld (pv 0) rfl) pe_int (fun _ _ => rfl)) T.o_Map.cl T.P_Map_size (ok_size T) (hr.mono (by decide))) (pa_cons (pe_propR (pe_ix ix_tup (pe_fld (pv 1) rfl) pe_int (fun _ _ => rfl)) T.o_Map.cl T.P_Map_size (ok_size T) (hr.mono (by decide))) pa_nil))))) pss_nil)
      (pss_cons (ps_expr (pe_callR (okX_check_many T) (hr.mono (by decide)) T.A_check_many.kp rfl T.g_check_many (passes_call (takes_of rfl rfl rfl rfl) (fun _ _ _ _ h => h)) (pa_cons (pe_op op_add (pe_callB call_len_seq (by rfl) T.n_len (by decide +kernel) (pa_cons (pe_fld (pv 0) rfl) pa_nil)) (pe_callB call_len_seq (by rfl) T.n_len (by decide +kernel) (pa_cons (pe_fld (pv 1) rfl) pa_nil))) pa_nil)))
      (pss_one (ps_ret (pe_callR (ok_made T) (hr.mono (by decide)) T.A_made.kp rfl T.g_made pass0 (pa_cons (pe_lst (pa_star (pe_fld (pv 0) rfl) (pa_star (pe_fld (pv 1) rfl) pa_nil))) pa_nil))))))), ?_⟩
    obtain ⟨dxa, ea⟩ := ha.ob
    obtain ⟨dxb, eb⟩ := hb.ob
    obtain ⟨m1, f1, e1, hm1⟩ := ha.ms.first ha.ne
    obtain ⟨m2, f2, e2, hm2⟩ := hb.ms.first hb.ne
    obtain ⟨d1, l1, em1⟩ := at_map hm1
    obtain ⟨d2, l2, em2⟩ := at_map hm2
    refine ⟨_, rfl, _, _, _, _, true, rfl, .own _, tyx_ins T.o_Family eb, T.self_Family, _, rfl, iteF ?_⟩
    refine ⟨_, rfl, a, _, dxa, _, _, rfl, ea, T.o_Family.cl, T.na_own_maps_Family, famF_maps _, t, _, 0, _, rfl, rfl, SqT.of ha.tp, atI_nat (j := 0) e1, m1, d1, l1, rfl, em1, m1, n, f1, rfl, hm1, ?_⟩
    refine ⟨_, rfl, b, _, dxb, _, _, rfl, eb, T.o_Family.cl, T.na_own_maps_Family, famF_maps _, u, _, 0, _, rfl, rfl, SqT.of hb.tp, atI_nat (j := 0) e2, m2, d2, l2, rfl, em2, m2, m, f2, rfl, hm2, ?_⟩
    refine ⟨rfl, _, rfl, ?_⟩
    rcases h with ⟨h1, q⟩ | ⟨rfl, h1, q⟩ | ⟨rfl, h1, q⟩
    · rw [decide_eq_false (fun z => h1 (V.int.inj z))]
      refine iteT ?_
      refine ⟨_, rfl, a, _, dxa, _, _, rfl, ea, T.o_Family.cl, T.na_own_maps_Family, famF_maps _, t, _, 0, _, rfl, rfl, SqT.of ha.tp, atI_nat (j := 0) e1, m1, d1, l1, rfl, em1, m1, n, f1, rfl, hm1, ?_⟩
      refine ⟨_, rfl, b, _, dxb, _, _, rfl, eb, T.o_Family.cl, T.na_own_maps_Family, famF_maps _, u, _, 0, _, rfl, rfl, SqT.of hb.tp, atI_nat (j := 0) e2, m2, d2, l2, rfl, em2, m2, m, f2, rfl, hm2, ?_⟩
      exact mk_two fun d hd => q d hd
    · rw [decide_eq_true rfl]
      refine iteF ?_
      refine ⟨_, rfl, a, _, dxa, _, _, rfl, ea, T.o_Family.cl, T.na_own_maps_Family, famF_maps _, t, _, rfl, .inr (SqT.of ha.tp), ?_⟩
      refine ⟨_, rfl, b, _, dxb, _, _, rfl, eb, T.o_Family.cl, T.na_own_maps_Family, famF_maps _, u, _, rfl, .inr (SqT.of hb.tp), _, _, rfl, rfl, ?_⟩
      exact ⟨_, rfl, .inr ⟨by omega, q⟩⟩
    · rw [decide_eq_true rfl]
      refine iteF ?_
      refine ⟨_, rfl, a, _, dxa, _, _, rfl, ea, T.o_Family.cl, T.na_own_maps_Family, famF_maps _, t, _, rfl, .inr (SqT.of ha.tp), ?_⟩
      refine ⟨_, rfl, b, _, dxb, _, _, rfl, eb, T.o_Family.cl, T.na_own_maps_Family, famF_maps _, u, _, rfl, .inr (SqT.of hb.tp), _, _, rfl, rfl, ?_⟩
      refine ⟨_, rfl, .inl ⟨by omega, ?_⟩⟩
      refine ⟨_, rfl, a, _, dxa, _, _, rfl, ea, T.o_Family.cl, T.na_own_maps_Family, famF_maps _, t, _, rfl, .inl (SqT.of ha.tp), ?_⟩
      refine ⟨_, rfl, b, _, dxb, _, _, rfl, eb, T.o_Family.cl, T.na_own_maps_Family, famF_maps _, u, _, rfl, .inl (SqT.of hb.tp), ?_⟩
      refine ⟨?_, fun l nl => ⟨l, xs ++ ys, _, fs ++ gs, rfl, ?_, (ha.ms.app hb.ms).same (Same.new nl), fun z => ha.ne (List.append_eq_nil_iff.mp z).1, by rw [List.length_append]; exact h1, fun p t' H' s hf => ?_⟩⟩
      · exact le_line (by simp only [List.length_append, List.length_nil]; omega)
      · rw [upd_same, List.append_nil]
      · exact q p t' H' ((Same.new nl).trans s) hf
end
end My
namespace My
open PySem L2 U StX PM
/-! ### dicts of places to words -/
def WRel (H : Hp) (kv : Key × V) (e : Int × List Int) : Prop := kv.1 = Sum.inl e.1 ∧ ∃ p, kv.2 = V.ref p ∧ H p = some (.tup (e.2.map V.int))
def WdAt (H : Hp) (D : Addr) (ws : Ws) : Prop := ∃ kvs : List (Key × V), H D = some (.dK kvs) ∧ Paired (WRel H) kvs ws
theorem WRel.mono {H H' : Hp} (s : ∀ (p : Addr) (xs : List V), H p = some (.tup xs) → H' p = some (.tup xs)) {kv : Key × V} {e : Int × List Int} (h : WRel H kv e) : WRel H' kv e := by
  obtain ⟨h1, p, h2, h3⟩ := h
  exact ⟨h1, p, h2, s _ _ h3⟩
theorem WdAt.same {H H' : Hp} {D : Addr} {ws : Ws} (h : WdAt H D ws) (s : Same H H') : WdAt H' D ws := by
  obtain ⟨kvs, h1, h2⟩ := h
  exact ⟨kvs, s _ _ h1, PySem.Paired.map h2 fun _ _ _ r => r.mono fun _ _ e => s _ _ e⟩
/-- what stands elsewhere changes -/
theorem WdAt.off {H H' : Hp} {D W : Addr} {ws : Ws} (h : WdAt H D ws) (o : Off W H H') (hw : ∃ xs, H W = some (.lst xs)) : WdAt H' D ws := by
  obtain ⟨kvs, h1, h2⟩ := h
  obtain ⟨ys, hw⟩ := hw
  exact ⟨kvs, o _ _ (fun z => by rw [z, hw] at h1; cases h1) h1, PySem.Paired.map h2 fun _ _ _ r => r.mono fun p _ e => o _ _ (fun z => by rw [z, hw] at e; cases e) e⟩
theorem WdAt.len {H : Hp} {D : Addr} {ws : Ws} (h : WdAt H D ws) : ∃ kvs : List (Key × V), H D = some (.dK kvs) ∧ kvs.length = ws.length := by
  obtain ⟨kvs, h1, h2⟩ := h
  exact ⟨kvs, h1, paired_len h2⟩
theorem wrel_val {H : Hp} {x : Int} : ∀ {kvs : List (Key × V)} {ws : Ws}, Paired (WRel H) kvs ws → (x ∉ keys ws → valV kvs (Sum.inl x) = none) ∧ (x ∈ keys ws → ∃ e p, e ∈ ws ∧ e.1 = x ∧ valV kvs (Sum.inl x) = some (V.ref p) ∧ H p = some (.tup (e.2.map V.int)))
  | [], [], _ => ⟨fun _ => rfl, fun h => nomatch h⟩
  | kv :: kvs, e :: ws, h => by
    cases h with
    | cons h1 h2 =>
      obtain ⟨i1, i2⟩ := wrel_val (x := x) h2
      obtain ⟨g1, p, g2, g3⟩ := h1
      by_cases hx : e.1 = x
      · refine ⟨fun hn => absurd (by simp [keys, hx]) hn, fun _ => ⟨e, p, List.mem_cons_self, hx, ?_, g3⟩⟩
        rw [valV_pos (by rw [g1, hx]), g2]
      · have hne : ¬ kv.1 = Sum.inl x := fun z => by rw [g1] at z; exact hx (Sum.inl.inj z)
        refine ⟨fun hn => ?_, fun hm => ?_⟩
        · rw [valV_neg hne]
          exact i1 fun z => hn (List.mem_cons_of_mem _ z)
        · rw [valV_neg hne]
          obtain ⟨e', p', q1, q2⟩ := i2 (by
            rcases List.mem_cons.mp hm with z | z
            · exact absurd z.symm hx
            · exact z)
          exact ⟨e', p', List.mem_cons_of_mem _ q1, q2⟩
/-- is a place among the words -/
theorem WdAt.has {H : Hp} {D : Addr} {ws : Ws} (h : WdAt H D ws) (x : Int) : ∃ o, DGet H D (.int x) o ∧ o.isSome = decide (x ∈ keys ws) := by
  obtain ⟨kvs, h1, h2⟩ := h
  refine ⟨_, DGet.k (k := Sum.inl x) h1, ?_⟩
  obtain ⟨i1, i2⟩ := wrel_val (x := x) h2
  by_cases hx : x ∈ keys ws
  · obtain ⟨e, p, _, _, hv, _⟩ := i2 hx
    rw [hv, decide_eq_true hx]
    rfl
  · rw [i1 hx, decide_eq_false hx]
    rfl
theorem keys_uniq {ws : Ws} (nd : (keys ws).Nodup) {e e' : Int × List Int} (h : e ∈ ws) (h' : e' ∈ ws) (x : e.1 = e'.1) : e = e' := by
  induction ws with
  | nil => cases h
  | cons a r ih =>
    rw [show keys (a :: r) = a.1 :: keys r from rfl, List.nodup_cons] at nd
    rcases List.mem_cons.mp h with h1 | h1
    · rcases List.mem_cons.mp h' with h2 | h2
      · rw [h1, h2]
      · exact absurd (show a.1 ∈ keys r from List.mem_map.mpr ⟨e', h2, by rw [← x, h1]⟩) nd.1
    · rcases List.mem_cons.mp h' with h2 | h2
      · exact absurd (show a.1 ∈ keys r from List.mem_map.mpr ⟨e, h1, by rw [x, h2]⟩) nd.1
      · exact ih nd.2 h1 h2
theorem WdAt.get {H : Hp} {D : Addr} {ws : Ws} (h : WdAt H D ws) (nd : (keys ws).Nodup) {e : Int × List Int} (he : e ∈ ws) : ∃ p, DGet H D (.int e.1) (some (.ref p)) ∧ H p = some (.tup (e.2.map V.int)) := by
  obtain ⟨kvs, h1, h2⟩ := h
  obtain ⟨i1, i2⟩ := wrel_val (x := e.1) h2
  obtain ⟨e', p, q1, q2, q3, q4⟩ := i2 (List.mem_map.mpr ⟨e, he, rfl⟩)
  have := keys_uniq nd he q1 q2.symm
  subst this
  refine ⟨p, ?_, q4⟩
  have := DGet.k (k := Sum.inl e.1) h1
  rw [q3] at this
  exact this
/-- one word more -/
theorem WdAt.put {H : Hp} {D t : Addr} {ws : Ws} (h : WdAt H D ws) {x : Int} {w : List Int} (hx : x ∉ keys ws) (ht : H t = some (.tup (w.map V.int))) (hl : ws.length < sizeLine) : ∃ H', DPut H D (.int x) (.ref t) H' ∧ WdAt H' D (ws ++ [(x, w)]) ∧ ∃ o, H' = upd H D o := by
  obtain ⟨kvs, h1, h2⟩ := h
  have hln := paired_len h2
  refine ⟨_, DPut.k (k := Sum.inl x) h1 (by omega), ?_, _, rfl⟩
  have e : putK kvs (Sum.inl x : Key) (V.ref t) = kvs ++ [(Sum.inl x, .ref t)] := by
    unfold putK
    rw [if_neg]
    rw [valV_any, (wrel_val h2).1 hx]
    exact Bool.false_ne_true
  refine ⟨_, upd_same, ?_⟩
  rw [e]
  have up : ∀ (p : Addr) (xs : List V), H p = some (.tup xs) → (upd H D (.dK (kvs ++ [(Sum.inl x, .ref t)]))) p = some (.tup xs) := fun p xs e => by
    rw [upd_ne (fun z => by rw [z, h1] at e; cases e)]
    exact e
  exact paired_snoc (PySem.Paired.map h2 fun _ _ _ r => r.mono up) ⟨rfl, t, rfl, up _ _ ht⟩
/-! ### tables -/
def TabD (H : Hp) (v : V) (f : PF) : Prop := ∃ d l, v = V.ref d ∧ H d = some (.dK (kvI l)) ∧ DI l f ∧ l.length ≤ 1000
def TabsAt' (H : Hp) (ds : List V) (fs : List PF) : Prop := Paired (TabD H) ds fs
theorem TabsAt'.same {H H' : Hp} {ds : List V} {fs : List PF} (h : TabsAt' H ds fs) (s : Same H H') : TabsAt' H' ds fs := PySem.Paired.map h fun _ _ _ ⟨d, l, e, h1, h2⟩ => ⟨d, l, e, s _ _ h1, h2⟩
def spFW : Sp := fun vs H Q _ => ∃ (tl : Addr) (s n : Int) (ds : List V) (fs : List PF), vs = [.ref tl, .int s] ∧ H tl = some (.lst ds) ∧ TabsAt' H ds fs ∧ (∀ f ∈ fs, WF n f) ∧ 0 ≤ s ∧ s < n ∧ n ≤ 300 ∧ ds.length ≤ 1000 ∧
  ∀ D H', Same H H' → H D = none → WdAt H' D (Wd fs s 300) → Q (.ref D) H'
theorem keys_drop {ws : Ws} {k : Nat} {e : Int × List Int} (h : ws[k]? = some e) : (keys ws).drop k = e.1 :: (keys ws).drop (k + 1) := by
  have hl := (List.getElem?_eq_some_iff.mp h).1
  have : k < (keys ws).length := by unfold keys; rw [List.length_map]; exact hl
  rw [List.drop_eq_getElem_cons this]
  congr 1
  have h2 : (keys ws)[k]? = some e.1 := by unfold keys; rw [List.getElem?_map, h]; rfl
  rw [List.getElem?_eq_getElem this] at h2
  exact Option.some.inj h2
theorem dpI {K : PySem.W.Frag} {H : Hp} : ∀ (l : List Int), DpAll K H (l.map V.int) (l.map PyData.int)
  | [] => .nil
  | _ :: r => .cons (.int _) (dpI r)
theorem shI (l : List Int) : SeqAt.shaped (.list (l.map PyData.int)) = true := shaped_all fun d hd => by
    obtain ⟨n, _, rfl⟩ := List.mem_map.mp hd
    exact ⟨rfl, Nat.zero_le _⟩
theorem eqv_nil (l : List Int) : PyData.eqv (.list (l.map PyData.int)) (.list []) = decide (l = []) := by
  cases l <;> rfl
/-- a list of ints != [] -/
theorem ne_nil {K : PySem.W.Frag} {H : Hp} {W : Addr} {l : List Int} {Q : VK} (h : H W = some (.lst (l.map V.int))) {t : Addr} (ht : H t = some (.lst [])) (q : Q (.bl (!decide (l = []))) H) : L2.rNeD K (.ref W) (.ref t) H Q :=
  ⟨.list (l.map PyData.int), .list [], .lst (SqL.of h) (dpI l), .lst (SqL.of ht) .nil, shI l, by decide +kernel, by rw [eqv_nil]; exact q⟩
section
variable {P : Program} {w : World} {K : PySem.W.Frag} {mg : Str → Option Value} {base : Heap}
theorem ok_check_family (T : Txt K mg) : FnR P w K mg base CX0 3 T.f_check_family (spFam1 T.C_Map T.C_Family fun _ _ => .non) := by
  refine T.A_check_family.ok sc_check_family (fun vs H Q E h => ?_) (fun cdv A outer s H vs Q E hr h => ?_)
  · obtain ⟨a, t, xs, n, fs, rfl, _⟩ := h
    rfl
  · obtain ⟨a, t, xs, n, fs, rfl, hf, q⟩ := h
    obtain ⟨dx, e⟩ := hf.ob
    refine ⟨_, (pss_one (ps_if (pt_not (pt_val (pe_callB call_isi (by rfl) T.n_isinstance (by decide +kernel) (pa_cons (pv 0) (pa_cons (pe_glob (v := .ref T.C_Family) rfl T.g_Family rfl) pa_nil)))))
        (pss_one ps_never) pss_nil)), ?_⟩
    exact ⟨_, rfl, _, _, _, _, true, rfl, .own _, tyx_ins T.o_Family e, T.self_Family, _, rfl, iteF q⟩
theorem ok_first_words (T : Txt K mg) : FnR P w K mg base CX0 2 T.f_first_words spFW := by
  refine T.A_first_words.ok sc_first_words (fun vs H Q E h => ?_) (fun cdv A outer s H vs Q E hr h => ?_)
  · obtain ⟨tl, s, n, ds, fs, rfl, _⟩ := h
    rfl
  · obtain ⟨tl, st, n, ds, fs, rfl, htl, htb, wf, s0, s1, n3, hds, q⟩ := h
    have hu := hu_of hr
    refine ⟨_, (pss_cons (ps_set (i := 2) sc_first_words.nd rfl (Or.inl rfl) (pe_disp (pps_cons (pv 1) (pe_tup pa_nil) pps_nil) (by rfl) (by rfl) (fun z => by cases z) (by decide)))
      (pss_cons (ps_set (i := 3) sc_first_words.nd rfl (Or.inl rfl) (pe_lst (pa_cons (pv 1) pa_nil)))
      (pss_cons (ps_while PassesOwn.never (pt_cmpR (L2.op_neD hr.units) (pv 3) (pe_lst pa_nil) (nomark _))
        (pss_cons (ps_set (i := 4) sc_first_words.nd rfl (Or.inl rfl) (pe_bm PySem.F.plainAttrs_list PySem.F.slot_list_pop PySem.F.type_list_pop mt_popAt (pv 3) (pa_cons pe_int pa_nil)))
      (pss_one (ps_for PassesOwn.never rfl (pi_enum rfl T.n_enumerate (pa_cons (pv 0) pa_nil)) (pg_tup rfl (pgs_cons (pg_name (i := 5) sc_first_words.nd rfl (Or.inl rfl)) (pgs_cons (pg_name (i := 6) sc_first_words.nd rfl (Or.inl rfl)) pgs_nil)))
        (pss_one (ps_if (PW.pt (pw_and (pt_cmp (pc_din hu (pv 4) (pv 6))) (pw_and1 (pt_cmp (pc_dnotin hu (pe_dget hu (pv 6) (pv 4) (fun _ _ => rfl)) (pv 2))))))
        (pss_cons (ps_dput hu (pv 2) (pe_dget hu (pv 6) (pv 4) (fun _ _ => rfl)) (pe_tup (pa_star (pe_dget hu (pv 2) (pv 4) (fun _ _ => rfl)) (pa_cons (pv 5) pa_nil))) rfl)
      (pss_one (ps_expr (pe_bm PySem.F.plainAttrs_list PySem.F.slot_list_append PySem.F.type_list_append mt_append (pv 3) (pa_cons (pe_dget hu (pv 6) (pv 4) (fun _ _ => rfl)) pa_nil))))) pss_nil))))))
      (pss_one (ps_ret (pv 2)))))), ?_⟩
    refine fun D n_D => ?_
    refine ⟨_, rfl, nil_le, fun e0 n_e0 => ?_⟩
    have ne0 : D ≠ e0 := fun z => by rw [← z, upd_same] at n_e0; cases n_e0
    refine ⟨by rw [upd_ne ne0]; exact upd_same, [(Sum.inl st, .ref e0)], rfl, by show 1 ≤ 15; decide, ?_⟩
    generalize g_D : upd (upd (upd H D _) e0 _) D _ = H1
    have sH1 : Same H H1 := by rw [← g_D]; exact Same.put ((Same.new n_D).trans (Same.new n_e0)) n_D
    have w1 : WdAt H1 D (Wd fs st 0) := by
      rw [← g_D]
      exact ⟨_, upd_same, .cons ⟨rfl, e0, rfl, by rw [upd_ne ne0.symm]; exact upd_same⟩ .nil⟩
    clear g_D n_e0 ne0
    refine ⟨_, rfl, one_le, ?_⟩
    refine fun W n_W => ?_
    generalize g_W : L2.upd _ W _ = H2
    obtain ⟨s_H2, e_W⟩ := U.upd_facts g_W n_W
    clear g_W
    have nW : H W = none := sH1.free n_W
    have wdn : ∀ k, (keys (Wd fs st k)).Nodup := fun k => (Wd_keys ⟨s0, s1⟩ wf k).1
    have wln : ∀ k, (Wd fs st k).length ≤ 300 := fun k => by have := Wd_len ⟨s0, s1⟩ wf k; omega
    refine ⟨fun m σ H' => ∃ k v4 v5 v6, σ = [some (.ref tl), some (.int st), some (.ref D), some (.ref W), v4, v5, v6] ∧ Same H H' ∧ WdAt H' D (Wd fs st k) ∧ H' W = some (.lst (((keys (Wd fs st k)).drop k).map V.int)) ∧ m = 300 - k ∧ k ≤ (Wd fs st k).length,
      ⟨300, 0, _, _, _, rfl, sH1.trans s_H2, w1.same s_H2, e_W, rfl, by simp⟩, ?_⟩
    rintro m σ H' ⟨k, v4, v5, v6, rfl, p1, p2, p3, rfl, hk⟩
    refine ⟨_, rfl, nil_le, ?_⟩
    refine fun t1 n_t1 => ?_
    generalize g_t1 : L2.upd _ t1 _ = H3
    obtain ⟨s_H3, e_t1⟩ := U.upd_facts g_t1 n_t1
    clear g_t1
    refine ne_nil (s_H3 _ _ p3) e_t1 ⟨_, rfl, ?_⟩
    have p1' := p1.trans s_H3
    have p2' := p2.same s_H3
    have p3' := s_H3 _ _ p3
    clear p1 p2 p3 s_H3
    refine ifB (fun z => ?_) (fun z => ?_)
    · have hlt : k < (Wd fs st k).length := by
        refine Nat.lt_of_le_of_ne hk fun e => ?_
        have : (keys (Wd fs st k)).drop k = [] := List.drop_eq_nil_iff.mpr (by unfold keys; rw [List.length_map]; omega)
        rw [this] at z
        simp at z
      obtain ⟨e, he⟩ : ∃ e, (Wd fs st k)[k]? = some e := ⟨_, List.getElem?_eq_getElem hlt⟩
      rw [keys_drop he] at p3'
      have hl := wln k
      refine ⟨fun σ' H2 => ∃ m', m' < 300 - k ∧ _, fun _ _ h => h, ?_⟩
      refine ⟨_, rfl, .inl ⟨rfl, _, SqL.of p3'⟩, W, _, 0, 0, .int e.1, rfl, rfl, p3', by decide, by decide, ?_, rfl, ?_⟩
      · exact PySem.seqIndex_of (by decide) (by simp)
      rw [List.map_cons, List.eraseIdx_cons_zero]
      have nDW : D ≠ W := fun z => by obtain ⟨kvs, g, _⟩ := p2'; rw [z, p3'] at g; cases g
      have p2W : WdAt (upd H3 W (.lst (((keys (Wd fs st k)).drop (k + 1)).map V.int))) D (Wd fs st k) := p2'.off Off.lock ⟨_, p3'⟩
      have p1W : Same H (upd H3 W (.lst (((keys (Wd fs st k)).drop (k + 1)).map V.int))) := Same.put p1' nW
      have p3W : (upd H3 W (.lst (((keys (Wd fs st k)).drop (k + 1)).map V.int))) W = some (.lst (((keys (Wd fs st k)).drop (k + 1)).map V.int)) := upd_same
      generalize upd H3 W (.lst (((keys (Wd fs st k)).drop (k + 1)).map V.int)) = H4 at p2W p1W p3W ⊢
      clear p1' p2' p3' n_t1 e_t1
      refine ⟨_, rfl, tl, ds, rfl, SqL.of (p1W _ _ htl), ?_⟩
      refine for_it (walk_enum (xs := ds)) (fun j σ H' => ∃ v5 v6, σ = [some (.ref tl), some (.int st), some (.ref D), some (.ref W), some (.int e.1), v5, v6] ∧ Same H H' ∧ WdAt H' D (Wd fs st k ++ vis fs (Wd fs st k) e.1 e.2 j) ∧ H' W = some (.lst (((keys (Wd fs st k)).drop (k + 1) ++ keys (vis fs (Wd fs st k) e.1 e.2 j)).map V.int)))
        ⟨_, _, rfl, p1W, by rw [show vis fs (Wd fs st k) e.1 e.2 0 = [] from rfl, List.append_nil]; exact p2W, by rw [show vis fs (Wd fs st k) e.1 e.2 0 = [] from rfl, show keys [] = [] from rfl, List.append_nil]; exact p3W⟩ (fun i σ H' _ ⟨_, _, _, z, _⟩ => SqL.of (z _ _ htl)) ?_ ?_
      · rintro j v σ Ha0 Ha hj ⟨v5, v6, rfl, q1, q2, q3⟩ ⟨u0, x, y, rfl, n_u0, rfl, e1, e2⟩
        cases e1
        obtain ⟨f, hf, d, l, rfl, hd, di, hll⟩ := paired_at htb e2
        generalize g_u0 : L2.upd _ u0 _ = Hb
        obtain ⟨s_Hb, e_u0⟩ := U.upd_facts g_u0 n_u0
        clear g_u0
        replace q1 := q1.trans s_Hb
        replace q2 := q2.same s_Hb
        replace q3 := s_Hb _ _ q3
        have hdb := q1 _ _ hd
        refine ⟨u0, [.int j, .ref d], rfl, SqT.of e_u0, rfl, .int j, [.ref d], rfl, .ref d, [], rfl, rfl, ?_⟩
        obtain ⟨vw, evw⟩ : ∃ vw, vw = vis fs (Wd fs st k) e.1 e.2 j := ⟨_, rfl⟩
        have ev : vis fs (Wd fs st k) e.1 e.2 (j + 1) = match f e.1 with
            | some y => if y ∈ keys (Wd fs st k ++ vw) then vw else vw ++ [(y, e.2 ++ [(j : Int)])]
            | none => vw := by
          rw [evw]
          show (match ((fs[j]?).getD emp) e.1 with
            | some y => if y ∈ keys (Wd fs st k ++ vis fs (Wd fs st k) e.1 e.2 j) then vis fs (Wd fs st k) e.1 e.2 j else vis fs (Wd fs st k) e.1 e.2 j ++ [(y, e.2 ++ [(j : Int)])]
            | none => vis fs (Wd fs st k) e.1 e.2 j) = _
          rw [hf]
          rfl
        rw [← evw] at q2 q3
        have ndv : (keys (Wd fs st k ++ vw)).Nodup := by rw [evw]; exact vis_nodup (wdn k) j
        have lnv : (Wd fs st k ++ vw).length ≤ 300 := by
          have dm : ∀ x ∈ keys (Wd fs st k ++ vw), 0 ≤ x ∧ x < n := fun x hx => by
            rw [keys_app] at hx
            rcases List.mem_append.mp hx with hx | hx
            · exact (Wd_keys ⟨s0, s1⟩ wf k).2 x hx
            · rw [evw] at hx
              obtain ⟨q, hq, rfl⟩ := List.mem_map.mp hx
              obtain ⟨i, g, hg, hy⟩ := vis_mem hq
              have := (wf g (List.mem_of_getElem? hg)).dom _ _ hy
              exact ⟨this.2.2.1, this.2.2.2⟩
          have := len_range ndv dm
          unfold keys at this
          rw [List.length_map] at this
          omega
        have hg := dgetL hdb di e.1
        refine ⟨_, rfl, _, rfl, d, _, rfl, hg, _, rfl, ?_⟩
        cases hy : f e.1 with
        | none =>
          rw [hy] at ev
          dsimp only at ev
          refine iteF (iteF ?_)
          exact ⟨_, _, rfl, q1, by rw [ev]; exact q2, by rw [ev]; exact q3⟩
        | some y =>
          rw [hy] at hg ev
          dsimp only at ev
          obtain ⟨o, ho, hs⟩ := q2.has y
          refine iteT ⟨_, rfl, _, rfl, d, .int y, rfl, hg, _, rfl, D, o, rfl, ho, _, rfl, ?_⟩
          rw [hs]
          refine ifB (fun z => ?_) (fun z => ?_)
          · have hn : y ∉ keys (Wd fs st k ++ vw) := by simpa using z
            rw [if_neg hn] at ev
            obtain ⟨pw, hpw, epw⟩ := q2.get ndv (List.mem_append.mpr (.inl (List.mem_of_getElem? he)))
            refine ⟨_, rfl, _, rfl, D, .ref pw, rfl, hpw, pw, _, rfl, .inl (SqT.of epw), _, rfl, ?_, ?_⟩
            · refine le_line ?_
              have := Wd_word (List.mem_of_getElem? he)
              simp only [List.length_append, List.length_map, List.length_cons, List.length_nil]
              omega
            refine fun t2 n_t2 => ?_
            generalize g_t2 : L2.upd _ t2 _ = Hc
            obtain ⟨s_Hc, e_t2⟩ := U.upd_facts g_t2 n_t2
            clear g_t2
            have et2 : Hc t2 = some (.tup ((e.2 ++ [(j : Int)]).map V.int)) := by rw [e_t2, List.map_append]; rfl
            obtain ⟨Hd, hput, wput, ou, rfl⟩ := (q2.same s_Hc).put hn et2 (lt_line (by omega))
            refine ⟨_, rfl, _, rfl, _, rfl, d, .int y, rfl, ?_, D, _, rfl, hput, ?_⟩
            · have := dgetL (s_Hc _ _ hdb) di e.1
              rw [hy] at this
              exact this
            have ndD : d ≠ D := ne_of_none hd n_D
            have hdd : (upd Hc D ou) d = some (.dK (kvI l)) := by rw [upd_ne ndD]; exact s_Hc _ _ hdb
            have hWd : (upd Hc D ou) W = some (.lst (((keys (Wd fs st k)).drop (k + 1) ++ keys vw).map V.int)) := by rw [upd_ne nDW.symm]; exact s_Hc _ _ q3
            have hg' := dgetL hdd di e.1
            rw [hy] at hg'
            refine ⟨_, rfl, .inl ⟨rfl, _, SqL.of hWd⟩, _, rfl, _, rfl, d, .int y, rfl, hg', W, _, .int y, rfl, rfl, hWd, ?_, ?_⟩
            · refine lt_line ?_
              have : (keys (Wd fs st k) ++ keys vw).length ≤ 300 := by
                rw [← keys_app]
                unfold keys
                rw [List.length_map]
                exact lnv
              simp only [List.length_map, List.length_append, List.length_drop] at this ⊢
              omega
            refine ⟨_, _, rfl, Same.put (Same.put (q1.trans s_Hc) n_D) nW, ?_, ?_⟩
            · rw [ev, ← List.append_assoc]
              exact wput.off Off.lock ⟨_, hWd⟩
            · rw [ev, upd_same, keys_app, ← List.append_assoc, List.map_append (l₂ := keys [(y, e.2 ++ [(j : Int)])])]
              rfl
          · have hm : y ∈ keys (Wd fs st k ++ vw) := by simpa using z
            rw [if_pos hm] at ev
            exact ⟨_, _, rfl, q1, by rw [ev]; exact q2, by rw [ev]; exact q3⟩
      · rintro σ Ha ⟨v5, v6, rfl, q1, q2, q3⟩
        have hfl : ds.length = fs.length := paired_len htb
        have eW1 : Wd fs st (k + 1) = Wd fs st k ++ vis fs (Wd fs st k) e.1 e.2 ds.length := by
          show nxW fs k (Wd fs st k) = _
          unfold nxW
          rw [he, hfl]
        refine ⟨300 - (k + 1), by omega, k + 1, _, _, _, rfl, q1, by rw [eW1]; exact q2, ?_, rfl, by rw [eW1, List.length_append]; omega⟩
        rw [eW1, keys_app, List.drop_append_of_le_length (by unfold keys; rw [List.length_map]; omega)]
        exact q3
    · have hz : (keys (Wd fs st k)).drop k = [] := by simpa using z
      have hge : (Wd fs st k).length ≤ k := by
        have := List.drop_eq_nil_iff.mp hz
        unfold keys at this
        rwa [List.length_map] at this
      have := wln k
      rw [← Wd_stop hge (show k ≤ 300 by omega)] at p2'
      exact ⟨_, rfl, q D H3 p1' n_D p2'⟩
end
end My
namespace My
open PySem L2 U StX PM
/-! ### reached, path -/
theorem paired_of {α β : Type} {R : α → β → Prop} : ∀ {xs : List α} {ys : List β}, xs.length = ys.length → (∀ (k : Nat) (x : α) (y : β), xs[k]? = some x → ys[k]? = some y → R x y) → Paired R xs ys
  | [], [], _, _ => .nil
  | [], _ :: _, h, _ => by cases h
  | _ :: _, [], h, _ => by cases h
  | x :: xs, y :: ys, h, hr => .cons (hr 0 x y rfl rfl) (paired_of (by simpa using h) fun k a b h1 h2 => hr (k + 1) a b h1 h2)
/-- [.. for x in a tuple], the items new objects -/
theorem lc_tupO {K : PySem.W.Frag} {te : TE} {i : Nat} {tv : TE} {vs : List Nat} {σ : L2.St} {H : Hp} {Q : VK} {xs : List V} (o : Nat → HO)
    (hte : ∀ R : VK, (∀ t H1, Same H H1 → H1 t = some (.tup xs) → R (.ref t) H1) → te σ H R) (hw : ∀ a, wipe ((wipe σ vs).set i a) vs = wipe σ vs) (hn : xs.length < sizeLine)
    (hb : ∀ (k : Nat) (x : V), xs[k]? = some x → ∀ H1, L2.Same H H1 → ∀ R : VK, (∀ b H2, L2.Same H1 H2 → H1 b = none → H2 b = some (o k) → R (.ref b) H2) → tv ((wipe σ vs).set i (some x)) H1 R)
    (hq : ∀ (D : Addr) (bs : List Addr) (H' : Hp), L2.Same H H' → H D = none → H' D = some (.lst (bs.map V.ref)) → bs.length = xs.length → (∀ (k : Nat) (b : Addr), bs[k]? = some b → H' b = some (o k)) → Q (.ref D) H') : tLc (iTup K te) (gName i) tYes tv vs σ H Q := by
  refine hte _ fun t H1 s1 ht => ⟨t, rfl, ⟨_, SqT.of ht⟩, fun D hD => ?_⟩
  refine lc_it (walk_tup (xs := xs)) (fun k H' => L2.Same H1 H' ∧ ∃ bs : List Addr, H' D = some (.lst (bs.map V.ref)) ∧ bs.length = k ∧ ∀ (j : Nat) (b : Addr), bs[j]? = some b → H' b = some (o j) ∧ b ≠ D) ⟨Same.new hD, [], upd_same, rfl, fun j b e => by simp at e⟩ (fun k H' _ p => SqT.of (p.1 _ _ ht)) ?_ ?_
  · rintro k v H' H'' hk ⟨s2, bs, e1, hl, hbs⟩ ⟨rfl, ev⟩
    refine ⟨hw _, yes_ ?_⟩
    refine hb k v ev _ (s1.trans s2) _ fun b H2 s3 nb eb => ?_
    have e2 := s3 _ _ e1
    have nbD : b ≠ D := fun z => by rw [z, e1] at nb; cases nb
    refine ⟨_, e2, by rw [List.length_map, hl]; exact Nat.lt_trans hk hn, Same.put (s2.trans s3) hD, bs ++ [b], by rw [upd_same, List.map_append]; rfl, by simp [hl], fun j b' e => ?_⟩
    by_cases hj : j < bs.length
    · rw [List.getElem?_append_left hj] at e
      obtain ⟨h1, h2⟩ := hbs j b' e
      exact ⟨by rw [upd_ne h2]; exact s3 _ _ h1, h2⟩
    · have hl2 := (List.getElem?_eq_some_iff.mp e).1
      rw [List.length_append, List.length_singleton] at hl2
      have ej : j = k := by omega
      subst ej
      rw [List.getElem?_append_right (by omega), hl, Nat.sub_self] at e
      cases e
      exact ⟨by rw [upd_ne nbD]; exact eb, nbD⟩
  · rintro H' ⟨s2, bs, e1, hl, hbs⟩
    exact hq D bs H' (s1.trans s2) (s1.free hD) e1 hl fun k b e => (hbs k b e).1
/-- dicts of the maps' arrows are tables -/
theorem tabs_arr {CM : Addr} {H H' : Hp} {n : Int} {xs : List V} {fs : List PF} {bs : List Addr} (hm : MapsAt CM H n xs fs) (hl : bs.length = xs.length) (hb : ∀ (k : Nat) (b : Addr), bs[k]? = some b → H' b = some (.dK (kvI (tab n ((fs[k]?).getD emp))))) : TabsAt' H' (bs.map V.ref) fs := by
  refine paired_of (by rw [List.length_map, hl]; exact paired_len hm) fun k v f h1 h2 => ?_
  rw [List.getElem?_map] at h1
  obtain ⟨b, h3, rfl⟩ := Option.map_eq_some_iff.mp h1
  have h4 := hb k b h3
  rw [h2] at h4
  obtain ⟨v', hv⟩ : ∃ v', xs[k]? = some v' := ⟨_, List.getElem?_eq_getElem (by have := (List.getElem?_eq_some_iff.mp h3).1; omega)⟩
  obtain ⟨a, f', rfl, hf', hm'⟩ := hm.get hv
  rw [h2] at hf'
  cases hf'
  have := tab_len n f
  have := hm'.hi
  have := hm'.lo
  exact ⟨b, tab n f, rfl, h4, di_tab hm'.wf, by omega⟩
theorem MapsAt.wf {CM : Addr} {H : Hp} {n : Int} {xs : List V} {fs : List PF} (hm : MapsAt CM H n xs fs) : ∀ f ∈ fs, WF n f := fun f hf => by
  obtain ⟨k, hk⟩ := List.getElem?_of_mem hf
  obtain ⟨v, hv⟩ : ∃ v, xs[k]? = some v := ⟨_, List.getElem?_eq_getElem (by rw [paired_len hm]; exact (List.getElem?_eq_some_iff.mp hk).1)⟩
  obtain ⟨a, f', rfl, hf', hm'⟩ := hm.get hv
  rw [hk] at hf'
  cases hf'
  exact hm'.wf
noncomputable def inK (ws : Ws) (x : Int) : Bool := decide (x ∈ keys ws)
noncomputable def rl (n : Int) (ws : Ws) : List Int := ((List.range n.toNat).filter fun (k : Nat) => inK ws (k : Int)).map fun (k : Nat) => (k : Int)
def WGet (H : Hp) (ws : Ws) (g : Int) (v : V) : Prop := (g ∉ keys ws ∧ v = .non) ∨ ∃ e p, e ∈ ws ∧ e.1 = g ∧ v = .ref p ∧ H p = some (.tup (e.2.map V.int))
theorem WdAt.get1 {H : Hp} {D : Addr} {ws : Ws} (h : WdAt H D ws) (g : Int) : ∃ o, DGet H D (.int g) o ∧ WGet H ws g (o.getD .non) := by
  obtain ⟨kvs, h1, h2⟩ := h
  refine ⟨_, DGet.k (k := Sum.inl g) h1, ?_⟩
  obtain ⟨i1, i2⟩ := wrel_val (x := g) h2
  by_cases hx : g ∈ keys ws
  · obtain ⟨e, p, he, hx, hv, hp⟩ := i2 hx
    exact .inr ⟨e, p, he, hx, by rw [hv]; rfl, hp⟩
  · exact .inl ⟨hx, by rw [i1 hx]; rfl⟩
def spRchd (CM CF : Addr) : Sp := fun vs H Q _ => ∃ (a t : Addr) (xs : List V) (n e : Int) (fs : List PF), vs = [.ref a, .int e] ∧ FamAt CM CF H a t xs n fs ∧ 0 ≤ e ∧ e < n ∧ ∀ D H', Same H H' → H D = none → H' D = some (.lst ((rl n (Wd fs e 300)).map V.int)) → Q (.ref D) H'
def spPath (CM CF : Addr) : Sp := fun vs H Q _ => ∃ (a t : Addr) (xs : List V) (n e g : Int) (fs : List PF), vs = [.ref a, .int e, .int g] ∧ FamAt CM CF H a t xs n fs ∧ 0 ≤ e ∧ e < n ∧ 0 ≤ g ∧ g < n ∧ ∀ v H', Same H H' → WGet H' (Wd fs e 300) g v → Q v H'
section
variable {P : Program} {w : World} {K : PySem.W.Frag} {mg : Str → Option Value} {base : Heap}
theorem inR_el {x n : Int} (h0 : 0 ≤ x) (h1 : x < n) : inR (.int x) 0 (n - 1) = true := by
  simp only [inR, Bool.and_eq_true, decide_eq_true_eq]
  omega
/-- [one.arrows for one in family.maps] -/
theorem lc_arrs (T : Txt K mg) {te : TE} {i : Nat} {vs : List Nat} {σ : L2.St} {H : Hp} {Q : VK} {a t : Addr} {xs : List V} {n : Int} {fs : List PF} (hf : FamAt T.C_Map T.C_Family H a t xs n fs)
    (hte : ∀ R : VK, R (.ref t) H → te σ H R) (hw : ∀ a, wipe ((wipe σ vs).set i a) vs = wipe σ vs) (hv : ∀ a, ((wipe σ vs).set i a)[i]? = some a)
    (hq : ∀ (D : Addr) (ds : List V) (H' : Hp), Same H H' → H D = none → H' D = some (.lst ds) → TabsAt' H' ds fs → ds.length = xs.length → Q (.ref D) H') : tLc (iTup K te) (gName i) tYes (tPropR T.C_Map (spArrows T.C_Map) (tVar i)) vs σ H Q := by
  have hl := hf.le
  refine lc_tupO (fun k => .dK (kvI (tab n ((fs[k]?).getD emp)))) (fun R r => hte _ (r t H (Same.refl _) hf.tp)) hw (lt_line (by omega)) (fun k x hx H1 s1 R r => ?_) (fun D bs H' s1 nD hD hbl hat => ?_)
  · obtain ⟨b, f, rfl, hfk, hm⟩ := hf.ms.get hx
    obtain ⟨d, l, em⟩ := at_map (hm.same s1)
    refine ⟨_, hv _, b, d, l, rfl, em, b, n, f, rfl, hm.same s1, fun p np => r p _ (Same.new np) np ?_⟩
    rw [hfk, upd_same]
    rfl
  · exact hq D _ H' s1 nD hD (tabs_arr hf.ms hbl hat) (by rw [List.length_map, hbl])
theorem ok_reached (T : Txt K mg) : FnR P w K mg base CX0 8 T.f_reached (spRchd T.C_Map T.C_Family) := by
  refine T.A_reached.ok sc_reached (fun vs H Q E h => ?_) (fun cdv A outer s H vs Q E hr h => ?_)
  · obtain ⟨a, t, xs, n, e, fs, rfl, _⟩ := h
    rfl
  · obtain ⟨a, t, xs, n, e, fs, rfl, hf, e0, e1, q⟩ := h
    have hu := hu_of hr
    refine ⟨_, (pss_cons (ps_expr (pe_callR (ok_check_family T) (hr.mono (by decide)) T.A_check_family.kp rfl T.g_check_family pass0 (pa_cons (pv 0) pa_nil)))
      (pss_cons (ps_expr (pe_callR (fnR_calm (okX_check_elements T)) (hr.mono (by decide)) T.A_check_elements.kp rfl T.g_check_elements pass0 (pa_cons (pe_propR (pv 0) T.o_Family.cl T.P_Family_size (ok_f_size T) (hr.mono (by decide))) (pa_cons (pe_lst (pa_cons (pv 1) pa_nil)) pa_nil))))
      (pss_cons (ps_set (i := 2) sc_reached.nd rfl (Or.inr rfl) (pe_callR (ok_first_words T) (hr.mono (by decide)) T.A_first_words.kp rfl T.g_first_words pass0 (pa_cons (pe_lc (own := [("one", 3)]) (g := (gName 3)) (tt := tYes) rfl sc_reached.nd (pi_tup (pe_propR (pv 0) T.o_Family.cl T.P_Family_maps (ok_f_maps T) (hr.mono (by decide)))) (blkOk_by (own := [("one", 3)]) (N := n_reached) (sc := defScope s_reached) (by decide +kernel)) (fun _ _ _ _ _ => (pg_name (i := 3) sc_reached.nd rfl (Or.inl rfl))) (fun _ _ _ _ _ => pts_nil) (fun _ _ _ _ _ => (pe_propR (pv 3) T.o_Map.cl T.P_Map_arrows (ok_arrows T) (hr.mono (by decide))))) (pa_cons (pv 1) pa_nil))))
      (pss_one (ps_ret (pe_lc (own := [("place", 4)]) (g := (gName 4)) rfl sc_reached.nd (pi_range1 rfl T.n_range (pa_cons (pe_propR (pv 0) T.o_Family.cl T.P_Family_size (ok_f_size T) (hr.mono (by decide))) pa_nil)) (blkOk_by (own := [("place", 4)]) (N := n_reached) (sc := defScope s_reached) (by decide +kernel)) (fun _ _ _ _ _ => (pg_name (i := 4) sc_reached.nd rfl (Or.inl rfl))) (fun _ _ _ _ _ => (pts_one (pt_cmp (pc_din hu (pv 4) (pv 2))))) (fun _ _ _ _ _ => (pv 4)))))))), ?_⟩
    obtain ⟨dx, ea⟩ := hf.ob
    obtain ⟨m0, f0, e0', hm0⟩ := hf.ms.first hf.ne
    have n3 := hm0.hi
    refine ⟨_, rfl, a, t, xs, n, fs, rfl, hf, ?_⟩
    refine ⟨_, rfl, a, dx, _, rfl, ea, a, t, xs, n, fs, rfl, hf, _, rfl, one_le, ?_⟩
    refine fun l1 n_l1 => ?_
    generalize g_l1 : L2.upd _ l1 _ = H1
    obtain ⟨s_H1, e_l1⟩ := U.upd_facts g_l1 n_l1
    clear g_l1
    refine ⟨n, l1, .int e, rfl, e_l1, trivial, .inl ⟨inR_el e0 e1, fun H2 s2 => ?_⟩⟩
    have s02 := s_H1.trans s2
    dsimp only [tNext, tSeq, tAsg, tCallR, tCons]
    refine lc_arrs T (hf.same s02) (fun R r => ⟨_, rfl, a, dx, _, rfl, s02 _ _ ea, a, t, xs, n, fs, rfl, hf.same s02, r⟩) (fun _ => rfl) (fun _ => rfl) (fun D ds H3 s3 nD hD htb hdl => ?_)
    have hfl := hf.le
    refine ⟨_, rfl, D, e, n, ds, fs, rfl, hD, htb, hf.ms.wf, e0, e1, n3, by omega, fun wd H4 s4 nwd hwd => ?_⟩
    have s04 := (s02.trans s3).trans s4
    dsimp only [tNext, tSeq, tAsg, tCallR, tCons, tRet]
    refine lc_rangeF (n := n.toNat) (H := H4) (fun x => inK (Wd fs e 300) x) (fun R r => ⟨_, rfl, a, dx, _, rfl, s04 _ _ ea, a, t, xs, n, fs, rfl, hf.same s04, n, rfl, by omega, by omega, r⟩) (fun _ => rfl) (lt_line (by omega)) (fun k hk H1 s1 => ?_) (fun D' H5 nD' hD' s5 => ?_)
    · obtain ⟨o, ho, hs⟩ := (hwd.same s1).has (0 + (k : Int))
      refine ⟨fun R r => ⟨_, rfl, _, rfl, wd, o, rfl, ho, _, rfl, ?_⟩, fun R r => ⟨_, rfl, r⟩⟩
      rw [hs, Int.zero_add]
      exact r
    · exact q D' H5 (s04.trans s5) (s04.free nD') hD'
theorem ok_path (T : Txt K mg) : FnR P w K mg base CX0 8 T.f_path (spPath T.C_Map T.C_Family) := by
  refine T.A_path.ok sc_path (fun vs H Q E h => ?_) (fun cdv A outer s H vs Q E hr h => ?_)
  · obtain ⟨a, t, xs, n, e, g, fs, rfl, _⟩ := h
    rfl
  · obtain ⟨a, t, xs, n, e, g, fs, rfl, hf, e0, e1, g0, g1, q⟩ := h
    have hu := hu_of hr
    refine ⟨_, (pss_cons (ps_expr (pe_callR (ok_check_family T) (hr.mono (by decide)) T.A_check_family.kp rfl T.g_check_family pass0 (pa_cons (pv 0) pa_nil)))
      (pss_cons (ps_expr (pe_callR (fnR_calm (okX_check_elements T)) (hr.mono (by decide)) T.A_check_elements.kp rfl T.g_check_elements pass0 (pa_cons (pe_propR (pv 0) T.o_Family.cl T.P_Family_size (ok_f_size T) (hr.mono (by decide))) (pa_cons (pe_lst (pa_cons (pv 1) pa_nil)) pa_nil))))
      (pss_cons (ps_expr (pe_callR (fnR_calm (okX_check_elements T)) (hr.mono (by decide)) T.A_check_elements.kp rfl T.g_check_elements pass0 (pa_cons (pe_propR (pv 0) T.o_Family.cl T.P_Family_size (ok_f_size T) (hr.mono (by decide))) (pa_cons (pe_lst (pa_cons (pv 2) pa_nil)) pa_nil))))
      (pss_one (ps_ret (pe_dget1 hu (pe_callR (ok_first_words T) (hr.mono (by decide)) T.A_first_words.kp rfl T.g_first_words pass0 (pa_cons (pe_lc (own := [("one", 3)]) (g := (gName 3)) (tt := tYes) rfl sc_path.nd (pi_tup (pe_propR (pv 0) T.o_Family.cl T.P_Family_maps (ok_f_maps T) (hr.mono (by decide)))) (blkOk_by (own := [("one", 3)]) (N := n_path) (sc := defScope s_path) (by decide +kernel)) (fun _ _ _ _ _ => (pg_name (i := 3) sc_path.nd rfl (Or.inl rfl))) (fun _ _ _ _ _ => pts_nil) (fun _ _ _ _ _ => (pe_propR (pv 3) T.o_Map.cl T.P_Map_arrows (ok_arrows T) (hr.mono (by decide))))) (pa_cons (pv 1) pa_nil))) (pv 2) ⟨rfl, rfl, rfl, rfl⟩)))))), ?_⟩
    obtain ⟨dx, ea⟩ := hf.ob
    obtain ⟨m0, f0, e0', hm0⟩ := hf.ms.first hf.ne
    have n3 := hm0.hi
    refine ⟨_, rfl, a, t, xs, n, fs, rfl, hf, ?_⟩
    refine ⟨_, rfl, a, dx, _, rfl, ea, a, t, xs, n, fs, rfl, hf, _, rfl, one_le, ?_⟩
    refine fun l1 n_l1 => ?_
    generalize g_l1 : L2.upd _ l1 _ = H1
    obtain ⟨s_H1, e_l1⟩ := U.upd_facts g_l1 n_l1
    clear g_l1
    refine ⟨n, l1, .int e, rfl, e_l1, trivial, .inl ⟨inR_el e0 e1, fun H2 s2 => ?_⟩⟩
    have s02 := s_H1.trans s2
    refine ⟨_, rfl, a, dx, _, rfl, s02 _ _ ea, a, t, xs, n, fs, rfl, hf.same s02, _, rfl, one_le, ?_⟩
    refine fun l2 n_l2 => ?_
    generalize g_l2 : L2.upd _ l2 _ = H3
    obtain ⟨s_H3, e_l2⟩ := U.upd_facts g_l2 n_l2
    clear g_l2
    refine ⟨n, l2, .int g, rfl, e_l2, trivial, .inl ⟨inR_el g0 g1, fun H4 s4 => ?_⟩⟩
    have s04 := (s02.trans s_H3).trans s4
    dsimp only [tNext, tSeq, tAsg, tCallR, tCons, tRet, tDGet1]
    refine lc_arrs T (hf.same s04) (fun R r => ⟨_, rfl, a, dx, _, rfl, s04 _ _ ea, a, t, xs, n, fs, rfl, hf.same s04, r⟩) (fun _ => rfl) (fun _ => rfl) (fun D ds H5 s5 nD hD htb hdl => ?_)
    have hfl := hf.le
    refine ⟨_, rfl, D, e, n, ds, fs, rfl, hD, htb, hf.ms.wf, e0, e1, n3, by omega, fun wd H6 s6 nwd hwd => ?_⟩
    obtain ⟨o, ho, hv⟩ := hwd.get1 g
    obtain ⟨kvs, hk, _⟩ := hwd
    exact ⟨wd, rfl, isD_of hk, _, rfl, o, ho, q _ H6 ((s04.trans s5).trans s6) hv⟩
end
end My
namespace My
open PySem L2 U StX PM
/-! ### orbits -/
def vN (l : List Nat) : List V := l.map fun (n : Nat) => V.int n
def RowsN (H : Hp) (bs : List Addr) (rows : List (List Nat)) : Prop := Paired (fun b r => H b = some (.lst (vN r))) bs rows
theorem RowsN.same {H H' : Hp} {bs : List Addr} {rows : List (List Nat)} (h : RowsN H bs rows) (s : Same H H') : RowsN H' bs rows := PySem.Paired.map h fun _ _ _ e => s _ _ e
/-- the dict of what was seen -/
def snK (l : List Int) : List (Key × V) := l.map fun x => (Sum.inl x, V.bl true)
theorem sn_val (x : Int) : ∀ l : List Int, (valV (snK l) (Sum.inl x)).isSome = decide (x ∈ l)
  | [] => rfl
  | y :: l => by
    show (valV ((Sum.inl y, V.bl true) :: snK l) (Sum.inl x)).isSome = _
    by_cases h : y = x
    · subst h
      rw [valV_pos rfl]
      simp
    · rw [valV_neg (fun z => h (Sum.inl.inj z)), sn_val x l]
      have : ¬ x = y := fun z => h z.symm
      simp [this]
theorem sn_put (l : List Int) (x : Int) : putK (snK l) (Sum.inl x : Key) (V.bl true) = snK (if x ∈ l then l else l ++ [x]) := by
  unfold putK
  rw [valV_any, sn_val]
  by_cases h : x ∈ l
  · rw [if_pos (by simpa using h), if_pos h]
    unfold snK
    rw [List.map_map]
    apply List.map_congr_left
    intro y _
    show (if (Sum.inl y : Key) = Sum.inl x then (Sum.inl y, V.bl true) else (Sum.inl y, V.bl true)) = _
    split <;> rfl
  · rw [if_neg (by simpa using h), if_neg h]
    unfold snK
    rw [List.map_append]
    rfl
def addK (l : List Int) (ks : List Int) : List Int := ks.foldl (fun l x => if x ∈ l then l else l ++ [x]) l
theorem addK_mem {x : Int} : ∀ (ks l : List Int), x ∈ addK l ks ↔ x ∈ l ∨ x ∈ ks
  | [], l => by simp [addK]
  | y :: ks, l => by
    show x ∈ addK (if y ∈ l then l else l ++ [y]) ks ↔ _
    rw [addK_mem ks]
    by_cases h : y ∈ l
    · rw [if_pos h]
      constructor
      · rintro (z | z)
        · exact .inl z
        · exact .inr (List.mem_cons_of_mem _ z)
      · rintro (z | z)
        · exact .inl z
        · rcases List.mem_cons.mp z with rfl | z
          · exact .inl h
          · exact .inr z
    · rw [if_neg h]
      simp [or_assoc]
theorem addK_nd : ∀ (ks l : List Int), l.Nodup → (addK l ks).Nodup
  | [], l, h => h
  | y :: ks, l, h => by
    show (addK (if y ∈ l then l else l ++ [y]) ks).Nodup
    refine addK_nd ks _ ?_
    by_cases hy : y ∈ l
    · rw [if_pos hy]; exact h
    · rw [if_neg hy]
      refine List.nodup_append.mpr ⟨h, by simp, fun a ha b hb => ?_⟩
      rw [List.mem_singleton] at hb
      rintro rfl
      exact hy (hb ▸ ha)
theorem addK_snoc (l ks : List Int) (x : Int) : addK l (ks ++ [x]) = if x ∈ addK l ks then addK l ks else addK l ks ++ [x] := by
  unfold addK
  rw [List.foldl_append]
  rfl
theorem inK_cnn {n : Int} {fs : List PF} {e k : Nat} (he : (e : Int) < n) (hn : n ≤ 300) (wf : ∀ f ∈ fs, WF n f) : inK (Wd (both n fs) e 300) k = cnn n fs e k := by
  have hl : (Wd (both n fs) (e : Int) 300).length ≤ 300 := by
    have := Wd_len (s := (e : Int)) ⟨by omega, he⟩ (wf_both wf) 300
    omega
  unfold inK
  by_cases h : (k : Int) ∈ keys (Wd (both n fs) e 300)
  · rw [decide_eq_true h, (cnn_iff.mpr (Wd_rch h)).symm]
  · rw [decide_eq_false h]
    cases hc : cnn n fs e k with
    | false => rfl
    | true => exact absurd (rch_Wd hl (cnn_iff.mp hc)) h
theorem orb_row {n : Int} {fs : List PF} {e : Nat} (he : (e : Int) < n) (hn : n ≤ 300) (wf : ∀ f ∈ fs, WF n f) : (((List.range n.toNat).filter fun (k : Nat) => inK (Wd (both n fs) e 300) (k : Int)).map fun (k : Nat) => (k : Int)).map V.int = vN ((List.range n.toNat).filter (cnn n fs e)) := by
  rw [List.map_map, List.filter_congr (q := cnn n fs e) fun k _ => inK_cnn he hn wf]
  unfold vN
  exact List.map_congr_left fun k _ => rfl
theorem paired_app {α β : Type} {R : α → β → Prop} {xs us : List α} {ys vs : List β} (h : Paired R xs ys) (g : Paired R us vs) : Paired R (xs ++ us) (ys ++ vs) := by
  induction h with
  | nil => exact g
  | cons a _ ih => exact .cons a ih
def spOrb (CM CF : Addr) : Sp := fun vs H Q _ => ∃ (a t : Addr) (xs : List V) (n : Int) (fs : List PF), vs = [.ref a] ∧ FamAt CM CF H a t xs n fs ∧
  ∀ D bs H', Same H H' → H D = none → H' D = some (.lst (bs.map V.ref)) → RowsN H' bs (orbs (cnn n fs) n.toNat) → (∀ b ∈ bs, H b = none) → Q (.ref D) H'
section
variable {P : Program} {w : World} {K : PySem.W.Frag} {mg : Str → Option Value} {base : Heap}
theorem ok_orbits (T : Txt K mg) : FnR P w K mg base CX0 8 T.f_orbits (spOrb T.C_Map T.C_Family) := by
  refine T.A_orbits.ok sc_orbits (fun vs H Q E h => ?_) (fun cdv A outer s H vs Q E hr h => ?_)
  · obtain ⟨a, t, xs, n, fs, rfl, _⟩ := h
    rfl
  · obtain ⟨a, t, xs, n, fs, rfl, hf, q⟩ := h
    have hu := hu_of hr
    refine ⟨_, (pss_cons (ps_expr (pe_callR (ok_check_family T) (hr.mono (by decide)) T.A_check_family.kp rfl T.g_check_family pass0 (pa_cons (pv 0) pa_nil)))
      (pss_cons (ps_set (i := 1) sc_orbits.nd rfl (Or.inl rfl) (pe_op op_cat (pe_lc (own := [("one", 7)]) (g := (gName 7)) (tt := tYes) rfl sc_orbits.nd (pi_tup (pe_propR (pv 0) T.o_Family.cl T.P_Family_maps (ok_f_maps T) (hr.mono (by decide)))) (blkOk_by (own := [("one", 7)]) (N := n_orbits) (sc := defScope s_orbits) (by decide +kernel)) (fun _ _ _ _ _ => (pg_name (i := 7) sc_orbits.nd rfl (Or.inl rfl))) (fun _ _ _ _ _ => pts_nil) (fun _ _ _ _ _ => (pe_propR (pv 7) T.o_Map.cl T.P_Map_arrows (ok_arrows T) (hr.mono (by decide))))) (pe_lc (own := [("one", 7)]) (g := (gName 7)) (tt := tYes) rfl sc_orbits.nd (pi_tup (pe_propR (pv 0) T.o_Family.cl T.P_Family_maps (ok_f_maps T) (hr.mono (by decide)))) (blkOk_by (own := [("one", 7)]) (N := n_orbits) (sc := defScope s_orbits) (by decide +kernel)) (fun _ _ _ _ _ => (pg_name (i := 7) sc_orbits.nd rfl (Or.inl rfl))) (fun _ _ _ _ _ => pts_nil) (fun _ _ _ _ _ => (pe_propR (pe_un (un_inv T.m_Map__invert T.i_Map__invert (ok_invert T) (hr.mono (by decide)) pass0) (pv 7)) T.o_Map.cl T.P_Map_arrows (ok_arrows T) (hr.mono (by decide)))))))
      (pss_cons (ps_par (i := 2) (j := 3) rfl sc_orbits.nd rfl rfl (by decide) rfl rfl (pa_cons (pe_lst pa_nil) (pa_cons pe_dnewK pa_nil)) (by rfl))
      (pss_cons (ps_for PassesOwn.never rfl (pi_range1 rfl T.n_range (pa_cons (pe_propR (pv 0) T.o_Family.cl T.P_Family_size (ok_f_size T) (hr.mono (by decide))) pa_nil)) (pg_name (i := 4) sc_orbits.nd rfl (Or.inl rfl))
        (pss_one (ps_if (pt_cmp (pc_dnotin hu (pv 4) (pv 3)))
        (pss_cons (ps_set (i := 5) sc_orbits.nd rfl (Or.inr rfl) (pe_callR (ok_first_words T) (hr.mono (by decide)) T.A_first_words.kp rfl T.g_first_words pass0 (pa_cons (pv 1) (pa_cons (pv 4) pa_nil))))
      (pss_cons (ps_expr (pe_bm PySem.F.plainAttrs_list PySem.F.slot_list_append PySem.F.type_list_append mt_append (pv 2) (pa_cons (pe_lc (own := [("place", 6)]) (g := (gName 6)) rfl sc_orbits.nd (pi_range1 rfl T.n_range (pa_cons (pe_propR (pv 0) T.o_Family.cl T.P_Family_size (ok_f_size T) (hr.mono (by decide))) pa_nil)) (blkOk_by (own := [("place", 6)]) (N := n_orbits) (sc := defScope s_orbits) (by decide +kernel)) (fun _ _ _ _ _ => (pg_name (i := 6) sc_orbits.nd rfl (Or.inl rfl))) (fun _ _ _ _ _ => (pts_one (pt_cmp (pc_din hu (pv 6) (pv 5))))) (fun _ _ _ _ _ => (pv 6))) pa_nil)))
      (pss_one (ps_lock (ps_for PassesOwn.never rfl (pi_keys (pv 5)) (pg_name (i := 6) sc_orbits.nd rfl (Or.inl rfl))
        (pss_one (ps_dput hu (pv 3) (pv 6) pe_bl rfl))))))) pss_nil)))
      (pss_one (ps_ret (pv 2))))))), ?_⟩
    obtain ⟨dx, ea⟩ := hf.ob
    obtain ⟨m0, f0, e0', hm0⟩ := hf.ms.first hf.ne
    have n3 := hm0.hi
    have n1 := hm0.lo
    have hfl := hf.le
    refine ⟨_, rfl, a, t, xs, n, fs, rfl, hf, ?_⟩
    dsimp only [tNext, tSeq, tAsg, tOp]
    refine lc_arrs T hf (fun R r => ⟨_, rfl, a, dx, _, rfl, ea, a, t, xs, n, fs, rfl, hf, r⟩) (fun _ => rfl) (fun _ => rfl) (fun D1 ds H1 s1 nD1 hD1 htb hdl => ?_)
    have hl1 : ds.length ≤ 10 := by omega
    refine lc_tupO (fun k => .dK (kvI (tab n (inv n ((fs[k]?).getD emp))))) (fun R r => ⟨_, rfl, a, dx, _, rfl, s1 _ _ ea, a, t, xs, n, fs, rfl, hf.same s1, r t H1 (Same.refl _) (s1 _ _ hf.tp)⟩) (fun _ => rfl) (lt_line (by omega)) (fun k x hx H2 s2 R r0 => ?_) (fun D2 bs H2 s2 nD2 hD2 hbl hat => ?_)
    · obtain ⟨b, f, rfl, hfk, hm⟩ := hf.ms.get hx
      have hm2 := (hm.same s1).same s2
      obtain ⟨d, l, em⟩ := at_map hm2
      refine ⟨_, rfl, b, d, l, rfl, em, b, n, f, rfl, hm2, fun r H3 nr s3 hr' => ?_⟩
      obtain ⟨d', l', em'⟩ := at_map hr'
      refine ⟨r, d', l', rfl, em', r, n, inv n f, rfl, hr', fun p np => r0 p _ (s3.trans (Same.new np)) (s3.free np) ?_⟩
      rw [hfk, upd_same]
      rfl
    have htb2 : TabsAt' H2 (bs.map V.ref) (fs.map (inv n)) := by
      refine paired_of (by rw [List.length_map, List.length_map, hbl]; exact hf.len) fun k v g h1 h2 => ?_
      rw [List.getElem?_map] at h1 h2
      obtain ⟨b, h3, rfl⟩ := Option.map_eq_some_iff.mp h1
      obtain ⟨f, h4, rfl⟩ := Option.map_eq_some_iff.mp h2
      have h5 := hat k b h3
      rw [h4] at h5
      have wi := wf_inv (hf.ms.wf f (List.mem_of_getElem? h4))
      have := tab_len n (inv n f)
      exact ⟨b, tab n (inv n f), rfl, h5, di_tab wi, by omega⟩
    have htbs : TabsAt' H2 (ds ++ bs.map V.ref) (both n fs) := paired_app (htb.same s2) htb2
    have wfb := wf_both hf.ms.wf
    have s02 := s1.trans s2
    clear htb htb2 hat nD1 nD2
    refine ⟨D1, D2, _, _, rfl, rfl, s2 _ _ hD1, hD2, le_line (by rw [List.length_map]; omega), ?_⟩
    refine fun TB n_TB => ?_
    generalize g_TB : L2.upd _ TB _ = H3
    obtain ⟨s_H3, e_TB⟩ := U.upd_facts g_TB n_TB
    clear g_TB
    refine ⟨nil_le, ?_⟩
    refine fun F n_F => ?_
    generalize g_F : L2.upd _ F _ = H4
    obtain ⟨s_H4, e_F⟩ := U.upd_facts g_F n_F
    clear g_F
    refine fun S n_S => ?_
    generalize g_S : L2.upd _ S _ = H5
    obtain ⟨s_H5, e_S⟩ := U.upd_facts g_S n_S
    clear g_S
    refine ⟨_, _, rfl, ?_⟩
    have s35 := s_H4.trans s_H5
    have s05 := (s02.trans s_H3).trans s35
    have nS : H3 S = none := s_H4.free n_S
    have hf5 := hf.same s05
    refine ⟨_, rfl, a, dx, _, rfl, s05 _ _ ea, a, t, xs, n, fs, rfl, hf5, n, rfl, by omega, by omega, ?_⟩
    obtain ⟨c, ec⟩ : ∃ c, c = cnn n fs := ⟨_, rfl⟩
    obtain ⟨row, er⟩ : ∃ row : Nat → List Nat, row = fun e => (List.range n.toNat).filter (c e) := ⟨_, rfl⟩
    refine for_it (walk_range (lo := 0)) (fun i σ H' => ∃ v4 v5 v6 bs l, σ = [some (.ref a), some (.ref TB), some (.ref F), some (.ref S), v4, v5, v6, none] ∧ Same H3 H' ∧ H' F = some (.lst (bs.map V.ref)) ∧ RowsN H' bs (((List.range i).filter (isMn c)).map row) ∧ (∀ b ∈ bs, H3 b = none ∧ b ≠ F) ∧ H' S = some (.dK (snK l)) ∧ l.Nodup ∧ (∀ x, x ∈ l ↔ ∃ e : Nat, e < i ∧ Rch (both n fs) e x) ∧ bs.length ≤ i)
      ⟨_, _, _, [], [], rfl, s35, s_H5 _ _ e_F, .nil, (fun b hb => nomatch hb), e_S, List.nodup_nil, fun x => ⟨fun h => (nomatch h), fun ⟨e, h, _⟩ => (by omega)⟩, Nat.le_refl _⟩ (fun _ _ _ _ _ => trivial) ?_ ?_
    · rintro k v σ Ha0 Ha hk ⟨v4, v5, v6, ob, l, rfl, p1, p2, p3, p4, p5, p6, p7, p8⟩ ⟨rfl, ev⟩
      obtain rfl : v = V.int (k : Int) := by
        rw [ev]
        show V.int (0 + (k : Int)) = _
        rw [Int.zero_add]
      clear ev
      refine ⟨_, rfl, _, rfl, S, _, rfl, DGet.k (k := Sum.inl (k : Int)) p5, _, rfl, ?_⟩
      rw [sn_val]
      have nFS : F ≠ S := fun z => by rw [z, p5] at p2; cases p2
      have l300 : ∀ x ∈ l, 0 ≤ x ∧ x < n := fun x hx => by
        obtain ⟨e, he, r⟩ := (p7 x).mp hx
        exact (Wd_keys (s := (e : Int)) ⟨by omega, by omega⟩ wfb 300).2 x (rch_Wd (by have := Wd_len (s := (e : Int)) ⟨by omega, by omega⟩ wfb 300; omega) r)
      refine ifB (fun z => ?_) (fun z => ?_)
      · have hn : (k : Int) ∉ l := by simpa using z
        have hkn : (k : Int) < n := by omega
        have hmn : isMn c k = true := by
          unfold isMn
          rw [List.all_eq_true]
          intro y hy
          rw [List.mem_range] at hy
          cases hc : c k y with
          | false => rfl
          | true =>
            rw [ec, cnn_iff] at hc
            exact absurd ((p7 k).mpr ⟨y, hy, rch_symm hf.ms.wf hc⟩) hn
        refine ⟨_, rfl, _, rfl, TB, (k : Int), n, _, both n fs, rfl, p1 _ _ e_TB, htbs.same (s_H3.trans p1), wfb, by omega, hkn, n3, by rw [List.length_append, List.length_map]; omega, fun wd H6 s6 nwd hwd => ?_⟩
        have p2' := s6 _ _ p2
        have hf6 := hf5.same (Same.refl _)
        refine ⟨_, rfl, .inl ⟨rfl, _, SqL.of p2'⟩, ?_⟩
        dsimp only [tCons, tNil]
        have s06 : Same H H6 := ((s02.trans s_H3).trans p1).trans s6
        refine lc_rangeF (n := n.toNat) (H := H6) (fun x => inK (Wd (both n fs) k 300) x) (fun R r => ⟨_, rfl, a, dx, _, rfl, s06 _ _ ea, a, t, xs, n, fs, rfl, hf.same s06, n, rfl, by omega, by omega, r⟩) (fun _ => rfl) (lt_line (by omega)) (fun j hj H1 s1 => ?_) (fun D' H7 nD' hD' s7 => ?_)
        · obtain ⟨o, ho, hs⟩ := (hwd.same s1).has (0 + (j : Int))
          refine ⟨fun R r => ⟨_, rfl, _, rfl, wd, o, rfl, ho, _, rfl, ?_⟩, fun R r => ⟨_, rfl, r⟩⟩
          rw [hs, Int.zero_add]
          exact r
        rw [orb_row hkn n3 hf.ms.wf] at hD'
        have p2'' := s7 _ _ p2'
        refine ⟨F, _, .ref D', rfl, rfl, p2'', lt_line (by rw [List.length_map]; omega), ?_⟩
        have nD'F : D' ≠ F := fun z => by rw [z, p2'] at nD'; cases nD'
        have o8 : Off F H7 (upd H7 F (.lst (ob.map V.ref ++ [.ref D']))) := Off.lock
        have eF8 : (upd H7 F (.lst (ob.map V.ref ++ [.ref D']))) F = some (.lst (ob.map V.ref ++ [.ref D'])) := upd_same
        have hwd8 := (hwd.same s7).off o8 ⟨_, p2''⟩
        have eS8 := o8 _ _ nFS.symm (s7 _ _ (s6 _ _ p5))
        have eD8 := o8 _ _ nD'F hD'
        have r8 : RowsN (upd H7 F (.lst (ob.map V.ref ++ [.ref D']))) ob (((List.range k).filter (isMn c)).map row) := by
          refine PySem.Paired.map (p3.same (s6.trans s7)) fun b hb r e => o8 _ _ (p4 b hb).2 e
        have s8 : Same H3 (upd H7 F (.lst (ob.map V.ref ++ [.ref D']))) := Same.put ((p1.trans s6).trans s7) n_F
        generalize upd H7 F (.lst (ob.map V.ref ++ [.ref D'])) = H8 at o8 eF8 hwd8 eS8 eD8 r8 s8 ⊢
        obtain ⟨kvs, ek, pk⟩ := hwd8
        have nwS : wd ≠ S := fun z => by rw [z, p5] at nwd; cases nwd
        have nw3 : H3 wd = none := p1.free nwd
        refine ⟨wd, .dK kvs, ek, trivial, fun od => ?_⟩
        refine ⟨_, rfl, wd, od, rfl, .inl ⟨kvs, upd_same, ?_⟩⟩
        have kl : ∀ j, ∀ x ∈ addK l ((keys (Wd (both n fs) k 300)).take j), 0 ≤ x ∧ x < n := fun j x hx => by
          rcases (addK_mem _ _).mp hx with h | h
          · exact l300 x h
          · exact (Wd_keys (s := (k : Int)) ⟨by omega, hkn⟩ wfb 300).2 x (List.mem_of_mem_take h)
        refine for_it walk_keys (fun j σ H' => ∃ v6, σ = [some (.ref a), some (.ref TB), some (.ref F), some (.ref S), some (.int k), some (.ref wd), v6, none] ∧ H' wd = some (.frz od (.dK kvs)) ∧ (∀ b o, b ≠ wd → b ≠ S → H8 b = some o → H' b = some o) ∧ H' S = some (.dK (snK (addK l ((keys (Wd (both n fs) k 300)).take j)))))
          ⟨_, rfl, upd_same, fun b o h1 _ e => by rw [upd_ne h1]; exact e, by rw [upd_ne nwS.symm]; exact eS8⟩ (fun j σ H' _ ⟨_, _, z, _⟩ => z) ?_ ?_
        · rintro j v σ Hb0 Hb hj ⟨v6, rfl, q1, q2, q3⟩ ⟨rfl, kk, vv, e1, rfl⟩
          obtain ⟨e, he, g1, _⟩ := paired_at pk e1
          dsimp only at g1
          subst g1
          refine ⟨_, rfl, _, rfl, S, _, rfl, DPut.k (k := Sum.inl e.1) q3 ?_, ?_⟩
          · unfold snK
            rw [List.length_map]
            have := len_range (addK_nd ((keys (Wd (both n fs) k 300)).take j) l p6) (kl j)
            exact lt_line (by omega)
          rw [sn_put]
          have tk : (keys (Wd (both n fs) k 300)).take (j + 1) = (keys (Wd (both n fs) k 300)).take j ++ [e.1] := take_more (by unfold keys; rw [List.getElem?_map, he]; rfl)
          refine ⟨_, rfl, by rw [upd_ne nwS]; exact q1, fun b o h1 h2 e => by rw [upd_ne h2]; exact q2 b o h1 h2 e, ?_⟩
          rw [tk, addK_snoc, upd_same]
        · rintro σ Hb ⟨v6, rfl, q1, q2, q3⟩
          have hkl : kvs.length = (keys (Wd (both n fs) k 300)).length := by unfold keys; rw [List.length_map]; exact paired_len pk
          rw [hkl, List.take_length] at q3
          refine ⟨q1, ?_⟩
          have fin : ∀ b o, b ≠ wd → b ≠ S → H8 b = some o → (upd Hb wd (.dK kvs)) b = some o := fun b o h1 h2 e => by rw [upd_ne h1]; exact q2 b o h1 h2 e
          have nF : F ≠ wd := fun z => by rw [z, ek] at eF8; cases eF8
          have isL : ∀ {b : Addr} {r : List V}, H8 b = some (.lst r) → b ≠ wd ∧ b ≠ S := fun e => ⟨(fun z => by rw [z, ek] at e; cases e), (fun z => by rw [z, eS8] at e; cases e)⟩
          refine ⟨_, _, _, ob ++ [D'], addK l (keys (Wd (both n fs) k 300)), rfl, fun b o e => fin b o (fun z => by rw [z, nw3] at e; cases e) (fun z => by rw [z, nS] at e; cases e) (s8 _ _ e), ?_, ?_, ?_, ?_, addK_nd _ _ p6, ?_, by rw [List.length_append, List.length_singleton]; omega⟩
          · rw [List.map_append]
            exact fin _ _ nF nFS eF8
          · rw [List.range_succ, List.filter_append, List.map_append]
            rw [show List.filter (isMn c) [k] = [k] by simp [hmn]]
            refine paired_snoc (PySem.Paired.map r8 fun b _ r e => fin _ _ (isL e).1 (isL e).2 e) ?_
            refine fin _ _ (isL eD8).1 (isL eD8).2 ?_
            rw [eD8, er, ec]
          · intro b hb
            rcases List.mem_append.mp hb with h | h
            · exact p4 b h
            · rw [List.mem_singleton] at h
              subst h
              exact ⟨(p1.trans s6).free nD', nD'F⟩
          · rw [upd_ne nwS.symm]; exact q3
          · intro x
            rw [addK_mem, p7 x]
            have hk300 := Wd_len (s := (k : Int)) ⟨by omega, hkn⟩ wfb 300
            constructor
            · rintro (⟨e, he, r⟩ | h)
              · exact ⟨e, by omega, r⟩
              · exact ⟨k, by omega, Wd_rch h⟩
            · rintro ⟨e, he, r⟩
              by_cases hek : e = k
              · subst hek
                exact .inr (rch_Wd (by omega) r)
              · exact .inl ⟨e, by omega, r⟩
      · have hn : (k : Int) ∈ l := by simpa using z
        obtain ⟨e, he, r⟩ := (p7 k).mp hn
        have hmn : isMn c k = false := by
          cases hc : isMn c k with
          | false => rfl
          | true =>
            unfold isMn at hc
            have := List.all_eq_true.mp hc e (List.mem_range.mpr he)
            rw [ec, cnn_iff.mpr (rch_symm hf.ms.wf r)] at this
            cases this
        refine ⟨_, _, _, ob, l, rfl, p1, p2, ?_, p4, p5, p6, ?_, by omega⟩
        · rw [List.range_succ, List.filter_append, List.map_append]
          rw [show List.filter (isMn c) [k] = [] by simp [hmn], List.map_nil, List.append_nil]
          exact p3
        · intro x
          rw [p7 x]
          constructor
          · rintro ⟨e', he', r'⟩
            exact ⟨e', by omega, r'⟩
          · rintro ⟨e', he', r'⟩
            by_cases hek : e' = k
            · subst hek
              exact ⟨e, he, r.trans r'⟩
            · exact ⟨e', by omega, r'⟩
    · rintro σ Ha ⟨v4, v5, v6, ob, l, rfl, p1, p2, p3, p4, p5, p6, p7, p8⟩
      refine ⟨_, rfl, q F ob Ha ((s02.trans s_H3).trans p1) ((s02.trans s_H3).free n_F) p2 ?_ fun b hb => (s02.trans s_H3).free (p4 b hb).1⟩
      unfold orbs
      rw [← ec, ← er]
      exact p3
end
end My
namespace My
open PySem L2 U StX PM
/-! ### the law's families and search -/
def spLFam (CM CF : Addr) : Sp := fun vs H Q _ => ∃ (l : Addr) (xs : List V) (n : Int) (fs : List PF), vs = [.ref l] ∧ H l = some (.lst xs) ∧ MapsAt CM H n xs fs ∧ fs ≠ [] ∧ xs.length ≤ 10 ∧ ∀ p t H', Same H H' → FamAt CM CF H' p t xs n fs → Q (.ref p) H'
theorem MapsAt.take {C : Addr} {H : Hp} {n : Int} {xs : List V} {fs : List PF} (h : MapsAt C H n xs fs) (i : Nat) : MapsAt C H n (xs.take i) (fs.take i) := by
  unfold MapsAt at h ⊢
  induction h generalizing i with
  | nil => simp; exact .nil
  | cons a _ ih => cases i with
    | zero => exact .nil
    | succ i => exact .cons a (ih i)
theorem vis_at {fs : List PF} {ws : Ws} {p : Int} {w : List Int} {j : Nat} {f : PF} (hf : fs[j]? = some f) : vis fs ws p w (j + 1) = match f p with
    | some y => if y ∈ keys (ws ++ vis fs ws p w j) then vis fs ws p w j else vis fs ws p w j ++ [(y, w ++ [(j : Int)])]
    | none => vis fs ws p w j := by
  show (match ((fs[j]?).getD emp) p with
    | some y => if y ∈ keys (ws ++ vis fs ws p w j) then vis fs ws p w j else vis fs ws p w j ++ [(y, w ++ [(j : Int)])]
    | none => vis fs ws p w j) = _
  rw [hf]
  rfl
theorem vis_len {fs : List PF} {s n : Int} (hs : 0 ≤ s ∧ s < n) (wf : ∀ f ∈ fs, WF n f) (n3 : n ≤ 300) (k j : Nat) {e : Int × List Int} : (Wd fs s k ++ vis fs (Wd fs s k) e.1 e.2 j).length ≤ 300 := by
  have ndv := vis_nodup (fs := fs) (p := e.1) (w := e.2) (Wd_keys hs wf k).1 j
  have dm : ∀ x ∈ keys (Wd fs s k ++ vis fs (Wd fs s k) e.1 e.2 j), 0 ≤ x ∧ x < n := fun x hx => by
    rw [keys_app] at hx
    rcases List.mem_append.mp hx with hx | hx
    · exact (Wd_keys hs wf k).2 x hx
    · obtain ⟨q, hq, rfl⟩ := List.mem_map.mp hx
      obtain ⟨i, g, hg, hy⟩ := vis_mem hq
      have := (wf g (List.mem_of_getElem? hg)).dom _ _ hy
      exact ⟨this.2.2.1, this.2.2.2⟩
  have := len_range ndv dm
  unfold keys at this
  rw [List.length_map] at this
  omega
theorem catA_of {K : PySem.W.Frag} {H : Hp} {a b : Addr} {xs ys : List V} {Q : VK} (hx : H a = some (.tup xs)) (hy : H b = some (.tup ys)) (ne : ys ≠ []) (hl : xs.length + ys.length ≤ sizeLine) (q : ∀ t H', Same H H' → H' t = some (.tup (xs ++ ys)) → Q (.ref t) H') : rCatA K (.ref a) (.ref b) H Q :=
  ⟨a, b, xs, ys, rfl, rfl, SqT.of hx, SqT.of hy, hl, fun e => q b H (Same.refl _) (by rw [e]; exact hy), fun _ e => absurd e ne, fun _ _ p np => q p _ (Same.new np) upd_same⟩
section
variable {P : Program} {w : World} {K : PySem.W.Frag} {mg : Str → Option Value} {base : Heap}
theorem ok_l_family (T : Txt K mg) : FnR P w K mg base CX0 16 T.f_l_family (spLFam T.C_Map T.C_Family) := by
  refine T.A_l_family.ok sc_l_family (fun vs H Q E h => ?_) (fun cdv A outer s H vs Q E hr h => ?_)
  · obtain ⟨l, xs, n, fs, rfl, _⟩ := h
    rfl
  · obtain ⟨l, xs, n, fs, rfl, hl, hm, ne, h10, q⟩ := h
    refine ⟨_, (pss_cons (ps_set (i := 1) sc_l_family.nd rfl (Or.inl rfl) (pe_makeR T.M_Family (fnR_calm (okX_f_init T)) (hr.mono (by decide)) rfl T.g_Family pass0 (pa_cons (pe_ix ix_list (pv 0) pe_int (fun _ _ => rfl)) pa_nil)))
      (pss_cons (ps_for PassesOwn.never rfl (pi_list (pe_slice sl_list (pv 0) (po_some pe_int) po_none)) (pg_name (i := 2) sc_l_family.nd rfl (Or.inl rfl))
        (pss_one (ps_set (i := 1) sc_l_family.nd rfl (Or.inl rfl) (pe_op (op_bin T.o_Family.sf T.m_Family__add T.i_Family__add (fnR_calm (okX_f_add T)) (hr.mono (by decide)) pass0) (pv 1) (pe_makeR T.M_Family (fnR_calm (okX_f_init T)) (hr.mono (by decide)) rfl T.g_Family pass0 (pa_cons (pv 2) pa_nil))))))
      (pss_one (ps_ret (pv 1))))), ?_⟩
    unfold MapsAt at hm
    cases hm with
    | nil => exact absurd rfl ne
    | @cons x0 f0 xr fr h0 hr0 =>
      obtain ⟨a0, rfl, hm0⟩ := h0
      rw [List.length_cons] at h10
      refine ⟨_, rfl, l, _, 0, .ref a0, rfl, rfl, SqL.of hl, atI_nat (j := 0) rfl, ?_⟩
      refine fun g dx ng ndx nd => famInit_of (n := n) (fs := [f0]) (.cons ⟨a0, rfl, hm0⟩ .nil) (by simp) (by simp) ng ndx nd fun t0 H1 s1 hf1 => ⟨rfl, ?_⟩
      refine ⟨_, rfl, 1, rfl, l, _, rfl, SqL.of (s1 _ _ hl), ?_⟩
      refine fun l2 n_l2 => ?_
      rw [(cut1 _ _).1]
      generalize g_l2 : L2.upd _ l2 _ = H2
      obtain ⟨s_H2, e_l2⟩ := U.upd_facts g_l2 n_l2
      clear g_l2
      have hln : xr.length = fr.length := paired_len hr0
      have hr2 : MapsAt T.C_Map H2 n xr fr := MapsAt.same (H := H) hr0 (s1.trans s_H2)
      refine ⟨l2, rfl, ⟨_, SqL.of e_l2⟩, ?_⟩
      refine for_it (walk_list (xs := xr)) (fun i σ H' => ∃ g t v2, σ = [some (.ref l), some (.ref g), v2] ∧ Same H2 H' ∧ FamAt T.C_Map T.C_Family H' g t (.ref a0 :: xr.take i) n (f0 :: fr.take i))
        ⟨g, t0, _, rfl, Same.refl _, hf1.same s_H2⟩ (fun i σ H' _ ⟨_, _, _, _, z, _⟩ => SqL.of (z _ _ e_l2)) ?_ ?_
      · rintro i v σ Ha0 Ha hi ⟨g, t, v2, rfl, sa, hg⟩ ⟨rfl, ev⟩
        obtain ⟨b, f, rfl, ef, hb⟩ := hr2.get ev
        refine ⟨_, rfl, _, rfl, fun g2 dx ng ndx nd => famInit_of (n := n) (fs := [f]) (.cons ⟨b, rfl, hb.same sa⟩ .nil) (by simp) (by simp) ng ndx nd fun t2 H3 s3 hf3 => ⟨rfl, ?_⟩⟩
        have hg3 := hg.same s3
        obtain ⟨dxa, ea⟩ := hg3.ob
        obtain ⟨dxb, eb⟩ := hf3.ob
        refine ⟨g, _, _, g2, _, _, rfl, rfl, ea, eb, g, g2, t, t2, _, _, n, n, _, _, rfl, hg3, hf3, .inr (.inr ⟨rfl, ?_, fun p t' H' s hf => ?_⟩)⟩
        · rw [List.length_cons, List.length_take, List.length_singleton]
          omega
        · refine ⟨p, t', _, rfl, (sa.trans s3).trans s, ?_⟩
          rw [take_more ev, take_more ef]
          exact hf
      · rintro σ Ha ⟨g, t, v2, rfl, sa, hg⟩
        rw [List.take_length] at hg
        rw [hln, List.take_length] at hg
        exact ⟨_, rfl, q g t Ha ((s1.trans s_H2).trans sa) hg⟩
theorem ok_l_search (T : Txt K mg) : FnR P w K mg base CX0 2 T.f_l_search spFW := by
  refine T.A_l_search.ok sc_l_search (fun vs H Q E h => ?_) (fun cdv A outer s H vs Q E hr h => ?_)
  · obtain ⟨tl, s, n, ds, fs, rfl, _⟩ := h
    rfl
  · obtain ⟨tl, st, n, ds, fs, rfl, htl, htb, wf, s0, s1, n3, hds, q⟩ := h
    have hu := hu_of hr
    refine ⟨_, (pss_cons (ps_par (i := 2) (j := 3) rfl sc_l_search.nd rfl rfl (by decide) rfl rfl (pa_cons (pe_callTy (call_dictP rfl) (by rfl) T.n_dict (by decide +kernel) (pa_cons (pe_lst (pa_cons (pe_tup (pa_cons (pv 1) (pa_cons (pe_tup pa_nil) pa_nil))) pa_nil)) pa_nil)) (pa_cons (pe_lst (pa_cons (pv 1) pa_nil)) pa_nil)) (by rfl))
      (pss_cons (ps_while PassesOwn.never (pt_cmpR (L2.op_neD hr.units) (pv 3) (pe_lst pa_nil) (nomark _))
        (pss_cons (ps_set (i := 4) sc_l_search.nd rfl (Or.inl rfl) (pe_lst pa_nil))
      (pss_cons (ps_for PassesOwn.never rfl (pi_list (pv 3)) (pg_name (i := 5) sc_l_search.nd rfl (Or.inl rfl))
        (pss_one (ps_for PassesOwn.never rfl (pi_enum rfl T.n_enumerate (pa_cons (pv 0) pa_nil)) (pg_tup rfl (pgs_cons (pg_name (i := 6) sc_l_search.nd rfl (Or.inl rfl)) (pgs_cons (pg_name (i := 7) sc_l_search.nd rfl (Or.inl rfl)) pgs_nil)))
        (pss_one (ps_if (PW.pt (pw_and (pt_cmp (pc_din hu (pv 5) (pv 7))) (pw_and1 (pt_cmp (pc_dnotin hu (pe_dget hu (pv 7) (pv 5) (fun _ _ => rfl)) (pv 2))))))
        (pss_cons (ps_dput hu (pv 2) (pe_dget hu (pv 7) (pv 5) (fun _ _ => rfl)) (pe_op op_catA (pe_dget hu (pv 2) (pv 5) (fun _ _ => rfl)) (pe_tup (pa_cons (pv 6) pa_nil))) rfl)
      (pss_one (ps_expr (pe_bm PySem.F.plainAttrs_list PySem.F.slot_list_append PySem.F.type_list_append mt_append (pv 4) (pa_cons (pe_dget hu (pv 7) (pv 5) (fun _ _ => rfl)) pa_nil))))) pss_nil)))))
      (pss_one (ps_set (i := 3) sc_l_search.nd rfl (Or.inl rfl) (pv 4))))))
      (pss_one (ps_ret (pv 2))))), ?_⟩
    -- found, last
    refine ⟨_, rfl, nil_le, ?_⟩
    refine fun e0 n_e0 => ?_
    generalize g_e0 : L2.upd _ e0 _ = H1
    obtain ⟨s_H1, e_e0⟩ := U.upd_facts g_e0 n_e0
    clear g_e0
    refine ⟨two_le, ?_⟩
    refine fun p0 n_p0 => ?_
    generalize g_p0 : L2.upd _ p0 _ = H2
    obtain ⟨s_H2, e_p0⟩ := U.upd_facts g_p0 n_p0
    clear g_p0
    refine ⟨one_le, ?_⟩
    refine fun lp n_lp => ?_
    generalize g_lp : L2.upd _ lp _ = H3
    obtain ⟨s_H3, e_lp⟩ := U.upd_facts g_lp n_lp
    clear g_lp
    refine ⟨lp, [p0], [(Sum.inl st, .ref e0)], rfl, SqL.of e_lp, .cons (SqT.of (s_H3 _ _ e_p0)) .nil, ?_⟩
    refine fun D n_D => ?_
    generalize g_D : L2.upd _ D _ = H4
    obtain ⟨s_H4, e_D⟩ := U.upd_facts g_D n_D
    clear g_D
    refine ⟨_, rfl, one_le, ?_⟩
    refine fun L0 n_L0 => ?_
    generalize g_L0 : L2.upd _ L0 _ = H5
    obtain ⟨s_H5, e_L0⟩ := U.upd_facts g_L0 n_L0
    clear g_L0
    have s03 := (s_H1.trans s_H2).trans s_H3
    have w5 : WdAt H5 D (Wd fs st 0) := ⟨_, s_H5 _ _ e_D, .cons ⟨rfl, e0, rfl, s_H5 _ _ (s_H4 _ _ (s_H3 _ _ (s_H2 _ _ e_e0)))⟩ .nil⟩
    have nD : H D = none := s03.free n_D
    have s05 := (s03.trans s_H4).trans s_H5
    refine ⟨_, _, rfl, ?_⟩
    have wdn : ∀ k, (keys (Wd fs st k)).Nodup := fun k => (Wd_keys ⟨s0, s1⟩ wf k).1
    have wln : ∀ k, (Wd fs st k).length ≤ 300 := fun k => by have := Wd_len ⟨s0, s1⟩ wf k; omega
    refine ⟨fun m σ H' => ∃ k L v4 v5 v6 v7, σ = [some (.ref tl), some (.int st), some (.ref D), some (.ref L), v4, v5, v6, v7] ∧ Same H H' ∧ WdAt H' D (Wd fs st k) ∧ H' L = some (.lst (((keys (Wd fs st k)).drop k).map V.int)) ∧ m = 300 - k ∧ k ≤ (Wd fs st k).length,
      ⟨300, 0, L0, _, _, _, _, rfl, s05, w5, e_L0, rfl, by simp⟩, ?_⟩
    clear s05 s03 w5 s_H5 s_H4 s_H3 s_H2 s_H1 e_D e_L0 e_lp e_p0 e_e0
    rintro m σ H' ⟨k, L, v4, v5, v6, v7, rfl, p1, p2, p3, rfl, hk⟩
    refine ⟨_, rfl, nil_le, ?_⟩
    refine fun t1 n_t1 => ?_
    generalize g_t1 : L2.upd _ t1 _ = H3
    obtain ⟨s_H3, e_t1⟩ := U.upd_facts g_t1 n_t1
    clear g_t1
    refine ne_nil (s_H3 _ _ p3) e_t1 ⟨_, rfl, ?_⟩
    have p1' := p1.trans s_H3
    have p2' := p2.same s_H3
    have p3' := s_H3 _ _ p3
    clear p1 p2 p3 s_H3
    refine ifB (fun z => ?_) (fun z => ?_)
    · have hlt : k < (Wd fs st k).length := by
        refine Nat.lt_of_le_of_ne hk fun e => ?_
        have : (keys (Wd fs st k)).drop k = [] := List.drop_eq_nil_iff.mpr (by unfold keys; rw [List.length_map]; omega)
        rw [this] at z
        simp at z
      have hl := wln k
      refine ⟨fun σ' H2 => ∃ m', m' < 300 - k ∧ _, fun _ _ h => h, ?_⟩
      refine ⟨nil_le, ?_⟩
      refine fun W n_W => ?_
      generalize g_W : L2.upd _ W _ = H4
      obtain ⟨s_H4, e_W⟩ := U.upd_facts g_W n_W
      clear g_W
      have nW : H W = none := p1'.free n_W
      have nLW : L ≠ W := ne_of_none p3' n_W
      have nDW : D ≠ W := by
        obtain ⟨kvs, g, _⟩ := p2'
        exact ne_of_none g n_W
      replace p1' := p1'.trans s_H4
      replace p2' := p2'.same s_H4
      replace p3' := s_H4 _ _ p3'
      obtain ⟨N, eN⟩ : ∃ N, N = (Wd fs st k).length := ⟨_, rfl⟩
      have kN : (keys (Wd fs st k)).length = N := by unfold keys; rw [List.length_map, eN]
      have dl : ∀ {j : Nat}, k ≤ j → keys (Wd fs st j) = keys (Wd fs st k) ++ (keys (Wd fs st j)).drop N := fun {j} hj => by
        obtain ⟨r, hr⟩ := Wd_mono (fs := fs) (s := st) hj
        rw [hr, keys_app, List.drop_left' kN]
      refine ⟨_, rfl, L, rfl, ⟨_, SqL.of p3'⟩, ?_⟩
      refine for_it (walk_list (xs := ((keys (Wd fs st k)).drop k).map V.int)) (fun i σ H' => ∃ v5 v6 v7, σ = [some (.ref tl), some (.int st), some (.ref D), some (.ref L), some (.ref W), v5, v6, v7] ∧ Same H H' ∧ WdAt H' D (Wd fs st (k + i)) ∧ H' L = some (.lst (((keys (Wd fs st k)).drop k).map V.int)) ∧ H' W = some (.lst (((keys (Wd fs st (k + i))).drop N).map V.int)))
        ⟨_, _, _, rfl, p1', p2', p3', by rw [Nat.add_zero, List.drop_eq_nil_iff.mpr (by rw [kN]; exact Nat.le_refl _)]; exact e_W⟩ (fun i σ H' _ ⟨_, _, _, _, _, _, z, _⟩ => SqL.of z) ?_ ?_
      · rintro i v σ Ha0 Ha hi ⟨v5, v6, v7, rfl, p1, p2, p3, p4⟩ ⟨rfl, ev⟩
        rw [List.length_map, List.length_drop, kN] at hi
        obtain ⟨r, hr⟩ := Wd_mono (fs := fs) (s := st) (Nat.le_add_right k i)
        obtain ⟨e, he0⟩ : ∃ e, (Wd fs st k)[k + i]? = some e := ⟨_, List.getElem?_eq_getElem (by omega)⟩
        have he : (Wd fs st (k + i))[k + i]? = some e := by rw [hr, List.getElem?_append_left (by omega)]; exact he0
        have hv : v = V.int e.1 := by
          rw [List.getElem?_map, List.getElem?_drop] at ev
          unfold keys at ev
          rw [List.getElem?_map, he0] at ev
          exact (Option.some.inj ev).symm
        subst hv
        refine ⟨_, rfl, tl, ds, rfl, SqL.of (p1 _ _ htl), ?_⟩
        refine for_it (walk_enum (xs := ds)) (fun j σ H' => ∃ v6 v7, σ = [some (.ref tl), some (.int st), some (.ref D), some (.ref L), some (.ref W), some (.int e.1), v6, v7] ∧ Same H H' ∧ WdAt H' D (Wd fs st (k + i) ++ vis fs (Wd fs st (k + i)) e.1 e.2 j) ∧ H' L = some (.lst (((keys (Wd fs st k)).drop k).map V.int)) ∧ H' W = some (.lst (((keys (Wd fs st (k + i))).drop N ++ keys (vis fs (Wd fs st (k + i)) e.1 e.2 j)).map V.int)))
          ⟨_, _, rfl, p1, by rw [show vis fs (Wd fs st (k + i)) e.1 e.2 0 = [] from rfl, List.append_nil]; exact p2, p3, by rw [show vis fs (Wd fs st (k + i)) e.1 e.2 0 = [] from rfl, show keys [] = [] from rfl, List.append_nil]; exact p4⟩ (fun i σ H' _ ⟨_, _, _, z, _⟩ => SqL.of (z _ _ htl)) ?_ ?_
        · rintro j v σ Hb0 Ha hj ⟨v6, v7, rfl, q1, q2, qL, q3⟩ ⟨u0, x, y, rfl, n_u0, rfl, e1, e2⟩
          cases e1
          obtain ⟨f, hf, d, l, rfl, hd, di, hll⟩ := paired_at htb e2
          generalize g_u0 : L2.upd _ u0 _ = Hb
          obtain ⟨s_Hb, e_u0⟩ := U.upd_facts g_u0 n_u0
          clear g_u0
          replace q1 := q1.trans s_Hb
          replace q2 := q2.same s_Hb
          replace q3 := s_Hb _ _ q3
          replace qL := s_Hb _ _ qL
          have hdb := q1 _ _ hd
          refine ⟨u0, [.int j, .ref d], rfl, SqT.of e_u0, rfl, .int j, [.ref d], rfl, .ref d, [], rfl, rfl, ?_⟩
          obtain ⟨vw, evw⟩ : ∃ vw, vw = vis fs (Wd fs st (k + i)) e.1 e.2 j := ⟨_, rfl⟩
          have ev := vis_at (fs := fs) (ws := Wd fs st (k + i)) (p := e.1) (w := e.2) hf
          rw [← evw] at q2 q3 ev
          have ndv : (keys (Wd fs st (k + i) ++ vw)).Nodup := by rw [evw]; exact vis_nodup (wdn (k + i)) j
          have lnv : (Wd fs st (k + i) ++ vw).length ≤ 300 := by rw [evw]; exact vis_len ⟨s0, s1⟩ wf n3 (k + i) j
          have hg := dgetL hdb di e.1
          refine ⟨_, rfl, _, rfl, d, _, rfl, hg, _, rfl, ?_⟩
          cases hy : f e.1 with
          | none =>
            rw [hy] at ev
            dsimp only at ev
            refine iteF (iteF ?_)
            exact ⟨_, _, rfl, q1, by rw [ev]; exact q2, qL, by rw [ev]; exact q3⟩
          | some y =>
            rw [hy] at hg ev
            dsimp only at ev
            obtain ⟨o, ho, hs⟩ := q2.has y
            refine iteT ⟨_, rfl, _, rfl, d, .int y, rfl, hg, _, rfl, D, o, rfl, ho, _, rfl, ?_⟩
            rw [hs]
            refine ifB (fun z => ?_) (fun z => ?_)
            · have hn : y ∉ keys (Wd fs st (k + i) ++ vw) := by simpa using z
              rw [if_neg hn] at ev
              obtain ⟨pw, hpw, epw⟩ := q2.get ndv (List.mem_append.mpr (.inl (List.mem_of_getElem? he)))
              refine ⟨_, rfl, _, rfl, D, .ref pw, rfl, hpw, _, rfl, one_le, ?_⟩
              refine fun u1 n_u1 => ?_
              generalize g_u1 : L2.upd _ u1 _ = Hc
              obtain ⟨s_Hc, e_u1⟩ := U.upd_facts g_u1 n_u1
              clear g_u1
              have wle := Wd_word (List.mem_of_getElem? he)
              have kil : k + i < 300 := by omega
              refine catA_of (s_Hc _ _ epw) e_u1 (by simp) (le_line (by rw [List.length_map, List.length_singleton]; omega)) fun t2 Hd sd et2 => ?_
              have sbd := s_Hc.trans sd
              have et2' : Hd t2 = some (.tup ((e.2 ++ [(j : Int)]).map V.int)) := by rw [et2, List.map_append]; rfl
              obtain ⟨He, hput, wput, ou, rfl⟩ := (q2.same sbd).put hn et2' (lt_line (by omega))
              have hgd := dgetL (sbd _ _ hdb) di e.1
              rw [hy] at hgd
              refine ⟨_, rfl, _, rfl, _, rfl, d, .int y, rfl, hgd, D, _, rfl, hput, ?_⟩
              have ndD : d ≠ D := ne_of_none hd nD
              have hdd : (upd Hd D ou) d = some (.dK (kvI l)) := by rw [upd_ne ndD]; exact sbd _ _ hdb
              have hWd : (upd Hd D ou) W = some (.lst (((keys (Wd fs st (k + i))).drop N ++ keys vw).map V.int)) := by rw [upd_ne nDW.symm]; exact sbd _ _ q3
              have nLD : L ≠ D := fun z => by obtain ⟨kvs, g, _⟩ := q2; rw [z, g] at qL; cases qL
              have hLd : (upd Hd D ou) L = some (.lst (((keys (Wd fs st k)).drop k).map V.int)) := by rw [upd_ne nLD]; exact sbd _ _ qL
              have hg' := dgetL hdd di e.1
              rw [hy] at hg'
              refine ⟨_, rfl, .inl ⟨rfl, _, SqL.of hWd⟩, _, rfl, _, rfl, d, .int y, rfl, hg', W, _, .int y, rfl, rfl, hWd, ?_, ?_⟩
              · refine lt_line ?_
                have : (keys (Wd fs st (k + i)) ++ keys vw).length ≤ 300 := by
                  rw [← keys_app]
                  unfold keys
                  rw [List.length_map]
                  exact lnv
                simp only [List.length_map, List.length_append, List.length_drop] at this ⊢
                omega
              refine ⟨_, _, rfl, Same.put (Same.put (q1.trans sbd) nD) nW, ?_, by rw [upd_ne nLW]; exact hLd, ?_⟩
              · rw [ev, ← List.append_assoc]
                exact wput.off Off.lock ⟨_, hWd⟩
              · rw [ev, upd_same, keys_app, ← List.append_assoc, List.map_append (l₂ := keys [(y, e.2 ++ [(j : Int)])])]
                rfl
            · have hm : y ∈ keys (Wd fs st (k + i) ++ vw) := by simpa using z
              rw [if_pos hm] at ev
              exact ⟨_, _, rfl, q1, by rw [ev]; exact q2, qL, by rw [ev]; exact q3⟩
        · rintro σ Hb ⟨v6, v7, rfl, q1, q2, qL, q3⟩
          have hfl : ds.length = fs.length := paired_len htb
          have eW1 : Wd fs st (k + (i + 1)) = Wd fs st (k + i) ++ vis fs (Wd fs st (k + i)) e.1 e.2 ds.length := by
            show nxW fs (k + i) (Wd fs st (k + i)) = _
            unfold nxW
            rw [he, hfl]
          refine ⟨_, _, _, rfl, q1, by rw [eW1]; exact q2, qL, ?_⟩
          rw [eW1, keys_app, List.drop_append_of_le_length (by unfold keys; rw [List.length_map, hr, List.length_append]; omega)]
          exact q3
      · rintro σ Ha ⟨v5, v6, v7, rfl, p1, p2, p3, p4⟩
        rw [List.length_map, List.length_drop, kN, show k + (N - k) = N by omega] at p2 p4
        have hN := wln k
        obtain ⟨r, hr⟩ := Wd_mono (fs := fs) (s := st) (show k ≤ N by omega)
        exact ⟨_, rfl, 300 - N, by omega, N, W, _, _, _, _, rfl, p1, p2, p4, rfl, by rw [hr, List.length_append]; omega⟩
    · have hz : (keys (Wd fs st k)).drop k = [] := by simpa using z
      have hge : (Wd fs st k).length ≤ k := by
        have := List.drop_eq_nil_iff.mp hz
        unfold keys at this
        rwa [List.length_map] at this
      have := wln k
      rw [← Wd_stop hge (show k ≤ 300 by omega)] at p2'
      exact ⟨_, rfl, q D H3 p1' nD p2'⟩
end
end My
namespace My
open PySem L2 U StX PM
/-- [.. for x in a list], the part may make new objects -/
theorem lc_mapS {α : Type} {K : PySem.W.Frag} {te : TE} {i : Nat} {tv : TE} {vs : List Nat} {σ : L2.St} {H : Hp} {Q : VK} {xs : List α} {a : Addr} (inj out : α → V) (hte : ∀ R : VK, R (.ref a) H → te σ H R) (ha : H a = some (.lst (xs.map inj))) (hw : ∀ a, wipe ((wipe σ vs).set i a) vs = wipe σ vs)
    (hb : ∀ (x : α), x ∈ xs → ∀ H1, L2.Same H H1 → ∀ R : VK, (∀ H2, L2.Same H1 H2 → R (out x) H2) → tv ((wipe σ vs).set i (some (inj x))) H1 R) (hz : xs.length < sizeLine)
    (hq : ∀ D H', H D = none → H' D = some (.lst (xs.map out)) → L2.Same H H' → Q (.ref D) H') : tLc (iList K te) (gName i) tYes tv vs σ H Q := by
  refine hte _ ⟨a, rfl, ⟨_, SqL.of ha⟩, fun D hD => ?_⟩
  refine lc_it (walk_list (xs := xs.map inj)) (fun k H' => L2.Same H H' ∧ H' D = some (.lst ((xs.take k).map out))) ⟨Same.new hD, upd_same⟩ (fun k H' _ p => SqL.of (p.1 _ _ ha)) ?_ ?_
  · rintro k v H' H'' hk ⟨s1, e1⟩ ⟨rfl, ev⟩
    rw [List.getElem?_map] at ev
    obtain ⟨x, hx, rfl⟩ := Option.map_eq_some_iff.mp ev
    rw [List.length_map] at hk
    refine ⟨hw _, yes_ ?_⟩
    refine hb x (List.mem_of_getElem? hx) _ s1 _ fun H2 s2 => ⟨_, s2 _ _ e1, ?_, Same.put (s1.trans s2) hD, ?_⟩
    · rw [List.length_map, List.length_take]
      omega
    · rw [upd_same, take_more hx, List.map_append]
      rfl
  · rintro H' ⟨s1, e1⟩
    rw [List.length_map, List.take_length] at e1
    exact hq D H' hD e1 s1
theorem in2 (v a b : Int) : inV (.int v) [.int a, .int b] = decide (v = a ∨ v = b) := by
  unfold inV
  simp only [List.any_cons, List.any_nil, Bool.or_false, eqV]
  by_cases h1 : v = a
  · subst h1; simp
  · by_cases h2 : v = b
    · subst h2; simp
    · have h1' : ¬ a = v := fun z => h1 z.symm
      have h2' : ¬ b = v := fun z => h2 z.symm
      simp [h1, h2, h1', h2']
theorem pick2 (x y : Int) (c : Bool) : atI [V.int x, V.int y] (if c = true then 1 else 0) = some (.int (if c = true then y else x)) := by
  cases c
  · exact atI_nat (j := 0) rfl
  · exact atI_nat (j := 1) rfl
theorem flat_at {α : Type} {ds : List α} : ∀ {N i : Nat} {v : α}, ((List.replicate N ds).flatten)[i]? = some v → v ∈ ds ∧ (i < ds.length → ds[i]? = some v)
  | 0, i, v, h => by simp at h
  | N + 1, i, v, h => by
    rw [List.replicate_succ, List.flatten_cons] at h
    by_cases hi : i < ds.length
    · rw [List.getElem?_append_left hi] at h
      exact ⟨List.mem_of_getElem? h, fun _ => h⟩
    · rw [List.getElem?_append_right (by omega)] at h
      exact ⟨(flat_at h).1, fun z => absurd z hi⟩
theorem flat_len {α : Type} (ds : List α) (N : Nat) : (List.replicate N ds).flatten.length = N * ds.length := by simp
theorem Off.ofS' {p : Addr} {H H' : Hp} (s : Same H H') : Off p H H' := fun _ _ _ h => s _ _ h
theorem op_in_seqK {X : Cx} {K0 : PySem.W.Frag} (hK : X.K = K0) : OpR X (compareOp .In) (rIn K0 false) := by
  subst hK
  exact op_in_seq
theorem ix_listK' {X : Cx} {K0 : PySem.W.Frag} (hK : X.K = K0) : IxR X (rIxL K0) := by
  subst hK
  exact ix_list
def spCls : Sp := fun vs H Q _ => ∃ (tl : Addr) (n : Int) (ds : List V) (fs : List PF), vs = [.ref tl, .int n] ∧ H tl = some (.lst ds) ∧ TabsAt' H ds fs ∧ (∀ f ∈ fs, WF n f) ∧ 1 ≤ n ∧ n ≤ 300 ∧ ds.length ≤ 100 ∧
  ∀ D bs H', Same H H' → H D = none → H' D = some (.lst (bs.map V.ref)) → RowsN H' bs (orbs (cnn n fs) n.toNat) → Q (.ref D) H'
section
variable {P : Program} {w : World} {K : PySem.W.Frag} {mg : Str → Option Value} {base : Heap}
theorem ok_l_few (T : Txt K mg) : FnR P w K mg base CX0 4 T.f_l_few spDrw2 := by
  refine T.A_l_few.ok sc_l_few (fun vs H Q E h => ?_) (fun cdv A outer s H vs Q E hr h => ?_)
  · obtain ⟨p, n, rfl, _⟩ := h
    rfl
  · obtain ⟨p, n, rfl, pool, h1, h3, q⟩ := h
    have hu := hu_of hr
    refine ⟨_, (pss_cons (ps_set (i := 2) sc_l_few.nd rfl (Or.inr rfl) (pe_callR (ok_l_arrR T) (hr.mono (by decide)) T.A_l_arrows.kp rfl T.g_l_arrows pass0 (pa_cons (pv 0) (pa_cons (pv 1) pa_nil))))
      (pss_one (ps_ret (pe_callTy (call_dictP rfl) (by rfl) T.n_dict (by decide +kernel) (pa_cons (pe_lock (pe_lc (own := [("_law_source", 3)]) (g := (gName 3)) rfl sc_l_few.nd (pi_keys (pv 2)) (blkOk_by (own := [("_law_source", 3)]) (N := n_l_few) (sc := defScope s_l_few) (by decide +kernel)) (fun _ _ _ _ _ => (pg_name (i := 3) sc_l_few.nd rfl (Or.inl rfl))) (fun _ _ _ _ _ => (pts_one (pt_cmpR op_eq (pe_callR (ok_draw T) (hr.mono (by decide)) T.A_l_draw.kp rfl T.g_l_draw pass0 (pa_cons (pv 0) (pa_cons pe_int pa_nil))) pe_int (nomark _)))) (fun _ _ _ _ _ => (pe_tup (pa_cons (pv 3) (pa_cons (pe_dget hu (pv 2) (pv 3) (fun _ _ => rfl)) pa_nil)))))) pa_nil))))), ?_⟩
    refine ⟨_, rfl, _, rfl, p, n, rfl, pool, h1, h3, fun d H1 l nd hd di wf hl pool1 off1 => ?_⟩
    have npd : p ≠ d := pool.ne nd
    refine ⟨d, _, hd, trivial, fun od => ?_⟩
    refine ⟨_, rfl, d, od, rfl, .inl ⟨kvI l, upd_same, fun D hD => ?_⟩⟩
    have hDd : D ≠ d := fun e => by rw [e, upd_same] at hD; cases hD
    have hD0 : H1 D = none := by rw [upd_ne hDd] at hD; exact hD
    have npD : p ≠ D := pool1.ne hD0
    refine lc_it walk_keys (fun k H' => H' d = some (.frz od (.dK (kvI l))) ∧ (∀ b o, b ≠ p → b ≠ d → H1 b = some o → H' b = some o) ∧ PoolAt H' p ∧ ∃ (ps : List Addr) (m : List (Int × Int)), H' D = some (.lst (ps.map V.ref)) ∧ ps.length ≤ k ∧ (∀ q ∈ ps, q ≠ D ∧ q ≠ d ∧ q ≠ p) ∧ m.Sublist (l.take k) ∧ Paired (fun q (kv : Key × V) => H' q = some (.tup [kV kv.1, kv.2])) ps (kvI m))
      ⟨?_, ?_, ?_, [], [], upd_same, Nat.le_refl _, (fun p h => nomatch h), List.Sublist.refl _, .nil⟩ (fun k H' _ p => p.1) ?_ ?_
    · rw [upd_ne hDd.symm]; exact upd_same
    · intro b o hbp hbd e
      rw [upd_ne (ne_of_none e hD0), upd_ne hbd]; exact e
    · exact (pool1.put npd).put npD
    · rintro k v H' H'' hk ⟨p1, p2, poolk, ps, m, p3, p4, p5, p6, p7⟩ ⟨rfl, kk, vv, e1, rfl⟩
      obtain ⟨x, y, exy, rfl, rfl⟩ := kvI_get e1
      rw [kvI_length] at hk
      refine ⟨rfl, ?_⟩
      refine draw_R rfl (fun R r => r) poolk (by decide) (by decide) fun r H3 r0 r1 pool3 off3 => ⟨rfl, _, rfl, ?_⟩
      have q1 := off3 _ _ npd.symm p1
      have q3 := off3 _ _ npD.symm p3
      have q2 : ∀ b o, b ≠ p → b ≠ d → H1 b = some o → H3 b = some o := fun b o hbp hbd e => off3 _ _ hbp (p2 b o hbp hbd e)
      have q7 : Paired (fun q (kv : Key × V) => H3 q = some (.tup [kV kv.1, kv.2])) ps (kvI m) := PySem.Paired.map p7 fun q hq kv e => off3 _ _ (p5 q hq).2.2 e
      have hmem := List.mem_of_getElem? exy
      have hlk : lk l x = some y := di.mem.mp hmem
      have hln : l.length ≤ 1000 := hl
      refine ifB (fun z => ?_) (fun z => ?_)
      · have hg := rd_get (.inr ⟨od, q1⟩) di x
        rw [hlk] at hg
        refine ⟨_, rfl, _, rfl, _, rfl, d, .int y, rfl, hg, two_le, fun t nt => ⟨_, carryNew nt q3, lt_line (by rw [List.length_map]; omega), ?_⟩⟩
        have htD : t ≠ D := (ne_of_none q3 nt).symm
        have htd : t ≠ d := (ne_of_none q1 nt).symm
        have htp : t ≠ p := (pool3.ne nt).symm
        refine ⟨by rw [upd_ne hDd.symm]; exact carryNew nt q1, fun b o hbp hbd e => ?_, (pool3.put htp.symm).put npD, ps ++ [t], m ++ [(x, y)], by rw [upd_same, List.map_append]; rfl, by rw [List.length_append, List.length_singleton]; omega, fun q hq => ?_, ?_, ?_⟩
        · rw [upd_ne (ne_of_none e hD0), upd_ne (ne_of_none (q2 b o hbp hbd e) nt)]
          exact q2 b o hbp hbd e
        · rcases List.mem_append.mp hq with h | h
          · exact p5 q h
          · rw [List.mem_singleton] at h
            subst h
            exact ⟨htD, htd, htp⟩
        · rw [take_more exy]
          exact p6.append (List.Sublist.refl _)
        · rw [show kvI (m ++ [(x, y)]) = kvI m ++ [(Sum.inl x, V.int y)] from by unfold kvI; rw [List.map_append]; rfl]
          refine paired_snoc (PySem.Paired.map q7 fun q hq kv e => ?_) ?_
          · rw [upd_ne (p5 q hq).1, upd_ne (ne_of_none e nt)]; exact e
          · rw [upd_ne htD]; exact upd_same
      · exact ⟨q1, q2, pool3, ps, m, q3, by omega, p5, by rw [take_more exy]; exact p6.trans (List.sublist_append_left _ _), q7⟩
    · rintro H' ⟨p1, p2, poolk, ps, m, p3, p4, p5, p6, p7⟩
      rw [kvI_length, List.take_length] at p6
      have dm := di_sub di p6
      have wm := wf_sub di wf p6
      refine ⟨p1, ?_⟩
      have pool9 : PoolAt (upd H' d (.dK (kvI l))) p := poolk.put npd
      refine dictP_of (by rw [upd_ne hDd]; exact p3) (PySem.Paired.map p7 fun q hq kv e => by rw [upd_ne (p5 q hq).2.1]; exact e) dm fun r l' nr hl' dl => ?_
      have eq : lk l' = lk m := funext dl.at_
      have hrd : r ≠ d := fun z => by rw [z, upd_same] at nr; cases nr
      have hnr : H' r = none := by rw [upd_ne hrd] at nr; exact nr
      have hrp : p ≠ r := poolk.ne hnr
      have offA : Off p H (upd (upd H' d (.dK (kvI l))) r (.dK (kvI l'))) := fun b o hbp e => by
        have e1 := off1 _ _ hbp e
        have hbd : b ≠ d := ne_of_none e nd
        rw [upd_ne (fun z => by rw [z] at e1; rw [p2 r _ hrp.symm hrd e1] at hnr; cases hnr), upd_ne hbd]
        exact p2 b o hbp hbd e1
      refine q r _ l' ?_ upd_same ⟨dl.nd, fun _ => rfl⟩ (by rw [eq]; exact wm) (Nat.le_trans hl' (Nat.le_trans p6.length_le hl)) (pool9.put hrp) offA
      cases e : H r with
      | none => rfl
      | some o =>
        have := p2 r o hrp.symm hrd (off1 _ _ hrp.symm e)
        rw [hnr] at this
        cases this
theorem ok_l_classes (T : Txt K mg) : FnR P w K mg base CX0 4 T.f_l_classes spCls := by
  refine T.A_l_classes.ok sc_l_classes (fun vs H Q E h => ?_) (fun cdv A outer s H vs Q E hr h => ?_)
  · obtain ⟨tl, n, ds, fs, rfl, _⟩ := h
    rfl
  · obtain ⟨tl, n, ds, fs, rfl, htl, htb, wf, n1, n3, hds, q⟩ := h
    have hu := hu_of hr
    refine ⟨_, (pss_cons (ps_set (i := 2) sc_l_classes.nd rfl (Or.inr rfl) (pe_listRg rfl rfl T.n_list (prg_1 rfl T.n_range (pv 1))))
      (pss_cons (ps_for PassesOwn.never rfl (pi_list (pe_op op_rep (pv 0) (pv 1))) (pg_name (i := 3) sc_l_classes.nd rfl (Or.inl rfl))
        (pss_one (ps_lock (ps_for PassesOwn.never rfl (pi_keys (pv 3)) (pg_name (i := 4) sc_l_classes.nd rfl (Or.inl rfl))
        (pss_cons (ps_asg (pe_tup (pa_cons (pe_ix ix_list (pv 2) (pv 4) (fun _ _ => rfl)) (pa_cons (pe_ix ix_list (pv 2) (pe_dget hu (pv 3) (pv 4) (fun _ _ => rfl)) (fun _ _ => rfl)) pa_nil))) (pg_tup rfl (pgs_cons (pg_name (i := 5) sc_l_classes.nd rfl (Or.inr rfl)) (pgs_cons (pg_name (i := 6) sc_l_classes.nd rfl (Or.inr rfl)) pgs_nil))))
      (pss_cons (ps_set (i := 7) sc_l_classes.nd rfl (Or.inr rfl) (pe_ix ix_list (pe_lst (pa_cons (pv 5) (pa_cons (pv 6) pa_nil))) (pe_callTy call_int1 (by rfl) T.n_int (by decide +kernel) (pa_cons (pe_cmpR op_lt (pv 6) (pv 5) (nomark _)) pa_nil)) (fun _ _ => rfl)))
      (pss_one (ps_set (i := 2) sc_l_classes.nd rfl (Or.inr rfl) (pe_lc (own := [("_law_name", 9)]) (g := (gName 9)) (tt := tYes) rfl sc_l_classes.nd (pi_list (pv 2)) (blkOk_by (own := [("_law_name", 9)]) (N := n_l_classes) (sc := defScope s_l_classes) (by decide +kernel)) (fun _ _ _ _ _ => (pg_name (i := 9) sc_l_classes.nd rfl (Or.inl rfl))) (fun _ _ _ _ _ => pts_nil) (fun _ _ _ _ _ => (pe_ix (ix_listK' (K0 := K) (by rfl)) (pe_lst (pa_cons (pv 9) (pa_cons (pv 7) pa_nil))) (pe_callTy call_int1 (by rfl) T.n_int (by decide +kernel) (pa_cons (pe_cmpR (op_in_seqK (K0 := K) (by rfl)) (pv 9) (pe_tup (pa_cons (pv 5) (pa_cons (pv 6) pa_nil))) (by rfl)) pa_nil)) (fun _ _ => rfl))))))))))))
      (pss_cons (ps_set (i := 8) sc_l_classes.nd rfl (Or.inl rfl) (pe_lst pa_nil))
      (pss_cons (ps_for PassesOwn.never rfl (pi_range1 rfl T.n_range (pa_cons (pv 1) pa_nil)) (pg_name (i := 9) sc_l_classes.nd rfl (Or.inr rfl))
        (pss_cons (ps_setLc (i := 10) (own := [("_law_at", 11)]) (g := (gName 11)) (tt := (tTest (tOp rEq (tOp (rIxL K) (tVar 2) (tVar 11)) (tVar 9)))) rfl sc_l_classes.nd rfl rfl (sw_true rfl rfl rfl (by decide +kernel)) (pi_range1 rfl T.n_range (pa_cons (pv 1) pa_nil)) (blkOk_by (own := [("_law_at", 11)]) (N := n_l_classes) (sc := defScope s_l_classes) (by decide +kernel)) (fun _ _ _ _ _ => (pg_name (i := 11) sc_l_classes.nd rfl (Or.inl rfl))) (fun _ _ _ _ _ => (pts_one (pt_cmpR op_eq (pe_ix ix_list (pv 2) (pv 11) (fun _ _ => rfl)) (pv 9) (nomark _)))) (fun _ _ _ _ _ => (pv 11)))
      (pss_one (ps_if (pt_cmpR (L2.op_neD hr.units) (pv 10) (pe_lst pa_nil) (nomark _))
        (pss_one (ps_expr (pe_bm PySem.F.plainAttrs_list PySem.F.slot_list_append PySem.F.type_list_append mt_append (pv 8) (pa_cons (pv 10) pa_nil)))) pss_nil))))
      (pss_one (ps_ret (pv 8))))))), ?_⟩
    obtain ⟨N, hN⟩ : ∃ N : Nat, n = (N : Int) := ⟨n.toNat, by omega⟩
    subst hN
    have hfl : ds.length = fs.length := paired_len htb
    refine ⟨_, rfl, (N : Int), rfl, RgOk.of_le (by decide) (by omega) (by decide) (by omega), fun L0 hL0 => ?_⟩
    have nL0 : H L0 = none := hL0
    generalize g_L0 : L2.upd _ L0 _ = H1
    obtain ⟨s_H1, e_L0⟩ := U.upd_facts g_L0 nL0
    clear g_L0
    have e_L : H1 L0 = some (.lst (((List.range N).map fun (i : Nat) => (i : Int)).map V.int)) := by
      rw [e_L0, rg0, Int.toNat_natCast]
    refine ⟨_, rfl, _, rfl, tl, (N : Int), ds, rfl, rfl, s_H1 _ _ htl, by omega, by omega, by rw [Int.toNat_natCast]; have := Nat.mul_le_mul hds (show N ≤ 300 by omega); exact le_line (by omega), ?_⟩
    refine fun RP n_RP => ?_
    generalize g_RP : L2.upd _ RP _ = H2
    obtain ⟨s_H2, e_RP⟩ := U.upd_facts g_RP n_RP
    clear g_RP
    rw [Int.toNat_natCast] at e_RP
    obtain ⟨c, ec⟩ : ∃ c, c = cnn (N : Int) fs := ⟨_, rfl⟩
    refine ⟨RP, rfl, ⟨_, SqL.of e_RP⟩, ?_⟩
    refine for_it (walk_list (xs := (List.replicate N ds).flatten)) (fun i σ H' => ∃ v3 v4 v5 v6 v7 L nm, σ = [some (.ref tl), some (.int (N : Int)), some (.ref L), v3, v4, v5, v6, v7, none, none, none, none] ∧ Same H2 H' ∧ H' L = some (.lst (nm.map V.int)) ∧ Lab (Rch (both (N : Int) fs)) N nm ∧ (∀ (j : Nat) (f : PF), j < i → fs[j]? = some f → ∀ x y : Nat, f x = some (y : Int) → nm[x]? = nm[y]?))
      ⟨_, _, _, _, _, L0, _, rfl, Same.refl _, s_H2 _ _ e_L, lab0 (fun _ => .refl) N, fun j f h => absurd h (Nat.not_lt_zero _)⟩ (fun i σ H' _ ⟨_, _, _, _, _, _, _, _, z, _⟩ => SqL.of (z _ _ e_RP)) ?_ ?_
    · rintro i v σ Ha0 Ha hi ⟨v3, v4, v5, v6, v7, L, nm, rfl, p1, p2, p3, p4⟩ ⟨rfl, ev⟩
      obtain ⟨hv, hv2⟩ := flat_at ev
      obtain ⟨jj, hjj⟩ := List.getElem?_of_mem hv
      have hD : ∃ d l f, v = V.ref d ∧ H d = some (.dK (kvI l)) ∧ DI l f ∧ l.length ≤ 1000 ∧ f ∈ fs ∧ (i < ds.length → fs[i]? = some f) := by
        by_cases hil : i < ds.length
        · obtain ⟨f, hf, d, l, e1, e2, e3, e4⟩ := paired_at htb (hv2 hil)
          exact ⟨d, l, f, e1, e2, e3, e4, List.mem_of_getElem? hf, fun _ => hf⟩
        · obtain ⟨f, hf, d, l, e1, e2, e3, e4⟩ := paired_at htb hjj
          exact ⟨d, l, f, e1, e2, e3, e4, List.mem_of_getElem? hf, fun z => absurd z hil⟩
      obtain ⟨d, l, f, rfl, hd0, di, hll, hfm, hfi⟩ := hD
      have hd := p1 _ _ (s_H2 _ _ (s_H1 _ _ hd0))
      have wff := wf f hfm
      have ndL : L ≠ d := fun z => by rw [z, hd] at p2; cases p2
      refine ⟨d, _, hd, trivial, fun od => ?_⟩
      refine ⟨_, rfl, d, od, rfl, .inl ⟨kvI l, upd_same, ?_⟩⟩
      refine for_it walk_keys (fun k σ H' => ∃ v4 v5 v6 v7 L nm, σ = [some (.ref tl), some (.int (N : Int)), some (.ref L), some (.ref d), v4, v5, v6, v7, none, none, none, none] ∧ H' d = some (.frz od (.dK (kvI l))) ∧ Off d Ha H' ∧ L ≠ d ∧ H' L = some (.lst (nm.map V.int)) ∧ Lab (Rch (both (N : Int) fs)) N nm ∧ (∀ (j : Nat) (f : PF), j < i → fs[j]? = some f → ∀ x y : Nat, f x = some (y : Int) → nm[x]? = nm[y]?) ∧ ∀ x y : Nat, ((x : Int), (y : Int)) ∈ l.take k → nm[x]? = nm[y]?)
        ⟨_, _, _, _, L, nm, rfl, upd_same, Off.lock, ndL, by rw [upd_ne ndL]; exact p2, p3, p4, fun x y h => by simp at h⟩ (fun k σ H' _ ⟨_, _, _, _, _, _, _, z, _⟩ => z) ?_ ?_
      · rintro k v σ Hb0 Hb hk ⟨v4, v5, v6, v7, L, nm, rfl, q1, q2, q3, q4, q5, q6, q7⟩ ⟨rfl, kk, vv, e1, rfl⟩
        obtain ⟨xi, yi, exy, rfl, rfl⟩ := kvI_get e1
        have hmem := List.mem_of_getElem? exy
        have hfx : f xi = some yi := di.mem.mp hmem
        have dm := wff.dom _ _ hfx
        obtain ⟨x, rfl⟩ := Int.eq_ofNat_of_zero_le dm.1
        obtain ⟨y, rfl⟩ := Int.eq_ofNat_of_zero_le dm.2.2.1
        have hxl : x < nm.length := by rw [q5.len]; omega
        have hyl : y < nm.length := by rw [q5.len]; omega
        obtain ⟨a, ha⟩ : ∃ a, nm[x]? = some a := ⟨_, List.getElem?_eq_getElem hxl⟩
        obtain ⟨b, hb⟩ : ∃ b, nm[y]? = some b := ⟨_, List.getElem?_eq_getElem hyl⟩
        have ha' : (nm.map V.int)[x]? = some (.int a) := by rw [List.getElem?_map, ha]; rfl
        have hb' : (nm.map V.int)[y]? = some (.int b) := by rw [List.getElem?_map, hb]; rfl
        have hg := rd_get (.inr ⟨od, q1⟩) di (x : Int)
        rw [hfx] at hg
        refine ⟨_, rfl, _, rfl, L, _, (x : Int), _, rfl, rfl, SqL.of q4, atI_nat (j := x) ha', _, rfl, _, rfl, _, rfl, d, _, rfl, hg, L, _, (y : Int), _, rfl, rfl, SqL.of q4, atI_nat (j := y) hb', two_le, ?_⟩
        refine fun t1 n_t1 => ?_
        generalize g_t1 : L2.upd _ t1 _ = Hc
        obtain ⟨s_Hc, e_t1⟩ := U.upd_facts g_t1 n_t1
        clear g_t1
        refine ⟨t1, [.int a, .int b], rfl, SqT.of e_t1, rfl, .int a, [.int b], rfl, .int b, [], rfl, rfl, ?_⟩
        refine ⟨_, rfl, _, rfl, two_le, ?_⟩
        refine fun t2 n_t2 => ?_
        generalize g_t2 : L2.upd _ t2 _ = Hd
        obtain ⟨s_Hd, e_t2⟩ := U.upd_facts g_t2 n_t2
        clear g_t2
        refine ⟨_, rfl, _, rfl, _, _, rfl, rfl, .inr ⟨_, rfl, ?_⟩⟩
        refine ⟨t2, _, _, _, rfl, rfl, SqL.of e_t2, pick2 a b _, ?_⟩
        rw [show (if decide (b < a) = true then b else a) = (if b < a then b else a) by simp]
        obtain ⟨low, elow⟩ : ∃ low, low = (if b < a then b else a) := ⟨_, rfl⟩
        rw [← elow]
        have scd := s_Hc.trans s_Hd
        have q4d := scd _ _ q4
        dsimp only [gName, tAsg]
        refine lc_mapS (xs := nm) V.int (fun v => .int (if v = a ∨ v = b then low else v)) (fun R r => ⟨_, rfl, r⟩) q4d (fun _ => rfl) (fun v hv H1 s1 R r => ?_) (lt_line (by rw [q5.len]; omega)) (fun L' He nL' hL' se => ?_)
        · refine ⟨_, rfl, _, rfl, two_le, ?_⟩
          refine fun t3 n_t3 => ?_
          generalize g_t3 : L2.upd _ t3 _ = He
          obtain ⟨s_He, e_t3⟩ := U.upd_facts g_t3 n_t3
          clear g_t3
          refine ⟨_, rfl, _, rfl, _, rfl, two_le, ?_⟩
          refine fun t4 n_t4 => ?_
          generalize g_t4 : L2.upd _ t4 _ = Hf
          obtain ⟨s_Hf, e_t4⟩ := U.upd_facts g_t4 n_t4
          clear g_t4
          refine ⟨t4, [.int a, .int b], rfl, .inr (SqT.of e_t4), rfl, rfl, .inr ⟨_, rfl, t3, _, _, _, rfl, rfl, SqL.of (s_Hf _ _ e_t3), pick2 v low _, ?_⟩⟩
          have := r Hf (s_He.trans s_Hf)
          rw [show (if v = a ∨ v = b then low else v) = if (inV (.int v) [.int a, .int b]) = true then low else v by rw [in2]; simp] at this
          exact this
        · have sbe := scd.trans se
          have er : nm.map (fun v => V.int (if v = a ∨ v = b then low else v)) = (relab a b nm).map V.int := by
            unfold relab
            rw [List.map_map, elow]
            rfl
          rw [er] at hL'
          have hr : Rch (both (N : Int) fs) x y := .step .refl (List.mem_append.mpr (.inl hfm)) hfx
          refine ⟨_, _, _, _, L', relab a b nm, rfl, sbe _ _ q1, q2.tr (Off.ofS' sbe), ?_, hL', lab_re (R := Rch (both (N : Int) fs)) (fun h => rch_symm wf h) (fun h g => h.trans g) q5 ha hb hr, fun j g hj hg x y h => re_eq (q6 j g hj hg x y h), fun x' y' h => ?_⟩
          · exact fun z => by rw [z, sbe _ _ q1] at hL'; cases hL'
          · rw [take_more exy] at h
            rcases List.mem_append.mp h with h | h
            · exact re_eq (q7 x' y' h)
            · rw [List.mem_singleton] at h
              cases h
              exact re_new ha hb
      · rintro σ Hb ⟨v4, v5, v6, v7, L, nm, rfl, q1, q2, q3, q4, q5, q6, q7⟩
        rw [kvI_length, List.take_length] at q7
        refine ⟨q1, ?_⟩
        have sab : Same Ha (upd Hb d (.dK (kvI l))) := q2.back hd
        refine ⟨_, _, _, _, _, L, nm, rfl, p1.trans sab, by rw [upd_ne q3]; exact q4, q5, fun j g hj hg x y h => ?_⟩
        by_cases hji : j = i
        · subst hji
          have hjl : j < ds.length := by rw [hfl]; exact (List.getElem?_eq_some_iff.mp hg).1
          have := hfi hjl
          rw [hg] at this
          cases this
          exact q7 x y (di.mem.mpr h)
        · exact q6 j g (by omega) hg x y h
    · rintro σ Ha ⟨v3, v4, v5, v6, v7, L, nm, rfl, p1, p2, p3, p4⟩
      rw [flat_len] at p4
      have hb : ∀ f ∈ fs, ∀ x y : Nat, f x = some (y : Int) → nm[x]? = nm[y]? := fun f hf => by
        obtain ⟨j, hj⟩ := List.getElem?_of_mem hf
        have hjl : j < ds.length := by rw [hfl]; exact (List.getElem?_eq_some_iff.mp hj).1
        have : ds.length ≤ N * ds.length := Nat.le_mul_of_pos_left _ (by omega)
        exact p4 j f (by omega) hj
      have labO := @lab_orbs (N : Int) fs N rfl wf nm p3 hb
      have labM := @lab_mn (N : Int) fs N rfl wf nm p3 hb
      clear p4
      refine ⟨nil_le, ?_⟩
      refine fun F n_F => ?_
      generalize g_F : L2.upd _ F _ = H3
      obtain ⟨s_H3, e_F⟩ := U.upd_facts g_F n_F
      clear g_F
      have eL3 := s_H3 _ _ p2
      have s03 := ((s_H1.trans s_H2).trans p1).trans s_H3
      have nF : H F = none := ((s_H1.trans s_H2).trans p1).free n_F
      obtain ⟨row, er⟩ : ∃ row : Nat → List Nat, row = fun e => (List.range N).filter (c e) := ⟨_, rfl⟩
      refine ⟨_, rfl, (N : Int), rfl, by omega, by omega, ?_⟩
      rw [Int.toNat_natCast]
      refine for_it (walk_range (lo := 0)) (fun i σ H' => ∃ v9 v10 bs, σ = [some (.ref tl), some (.int (N : Int)), some (.ref L), v3, v4, v5, v6, v7, some (.ref F), v9, v10, none] ∧ (∀ b o, b ≠ F → H3 b = some o → H' b = some o) ∧ H' F = some (.lst (bs.map V.ref)) ∧ RowsN H' bs (((List.range i).filter (isMn c)).map row) ∧ (∀ b ∈ bs, b ≠ F) ∧ bs.length ≤ i)
        ⟨_, _, [], rfl, fun b o _ e => e, e_F, .nil, (fun b h => nomatch h), Nat.le_refl _⟩ (fun _ _ _ _ _ => trivial) ?_ ?_
      · rintro k v σ Hb0 Hb hk ⟨v9, v10, bs, rfl, q1, q2, q3, q4, q5⟩ ⟨rfl, ev⟩
        obtain rfl : v = V.int (k : Int) := by
          rw [ev]
          show V.int (0 + (k : Int)) = _
          rw [Int.zero_add]
        clear ev
        have nLF : L ≠ F := ne_of_none p2 n_F
        have eLb := q1 _ _ nLF eL3
        dsimp only [gName, tSeq, tAsg]
        refine lc_rangeF (n := N) (H := Hb) (fun x => decide (nm[x.toNat]? = some (k : Int))) (fun R r => ⟨_, rfl, (N : Int), rfl, by omega, by omega, r⟩) (fun _ => rfl) (lt_line (by omega)) (fun j hj H1 s1 => ?_) (fun D' Hc nD' hD' sc => ?_)
        · have hjl : j < nm.length := by rw [p3.len]; exact hj
          obtain ⟨u, hu'⟩ : ∃ u, nm[j]? = some u := ⟨_, List.getElem?_eq_getElem hjl⟩
          have hu2 : (nm.map V.int)[j]? = some (.int u) := by rw [List.getElem?_map, hu']; rfl
          refine ⟨fun R r => ?_, fun R r => ⟨_, rfl, r⟩⟩
          rw [Int.toNat_natCast, hu'] at r
          rw [Int.zero_add]
          refine ⟨_, rfl, _, rfl, L, _, (j : Int), .int u, rfl, rfl, SqL.of (s1 _ _ eLb), atI_nat (j := j) hu2, _, rfl, rfl, _, rfl, ?_⟩
          rw [show decide (V.int u = V.int (k : Int)) = decide (some u = some (k : Int)) by simp]
          exact r
        obtain ⟨ml, eml⟩ : ∃ ml, ml = (List.range N).filter fun (j : Nat) => decide (nm[(j : Int).toNat]? = some (k : Int)) := ⟨_, rfl⟩
        rw [← eml] at hD'
        have memml : ∀ j, j ∈ ml ↔ j < N ∧ nm[j]? = some (k : Int) := fun j => by
          rw [eml, List.mem_filter, List.mem_range, decide_eq_true_eq, Int.toNat_natCast]
        have keepc : ∀ b o, b ≠ F → H3 b = some o → Hc b = some o := fun b o hb e => sc _ _ (q1 b o hb e)
        have eFc := sc _ _ q2
        have q3c := q3.same sc
        have nD'F : D' ≠ F := fun z => by rw [z, q2] at nD'; cases nD'
        refine ⟨_, rfl, nil_le, ?_⟩
        refine fun t5 n_t5 => ?_
        generalize g_t5 : L2.upd _ t5 _ = Hd
        obtain ⟨s_Hd, e_t5⟩ := U.upd_facts g_t5 n_t5
        clear g_t5
        have keepd : ∀ b o, b ≠ F → H3 b = some o → Hd b = some o := fun b o hb e => s_Hd _ _ (keepc b o hb e)
        refine ne_nil (s_Hd _ _ hD') e_t5 ⟨_, rfl, ?_⟩
        refine ifB (fun z => ?_) (fun z => ?_)
        · have hne : ml ≠ [] := fun e => by rw [e] at z; simp at z
          obtain ⟨j0, hj0⟩ := List.exists_mem_of_ne_nil ml hne
          obtain ⟨hj1, hj2⟩ := (memml j0).mp hj0
          have hkk : nm[k]? = some (k : Int) := by
            have := p3.idm j0 _ hj2
            rwa [Int.toNat_natCast] at this
          have hmn : isMn c k = true := by rw [ec]; exact (labM hk).mpr hkk
          have hrow : row k = ml := by
            rw [er, eml]
            refine List.filter_congr fun j hj => ?_
            rw [List.mem_range] at hj
            rw [Int.toNat_natCast, ec]
            have h1 := labO (a := k) (b := j) hk hj
            rw [hkk] at h1
            by_cases h2 : nm[j]? = some (k : Int)
            · rw [decide_eq_true h2]
              exact h1.mp h2.symm
            · rw [decide_eq_false h2]
              cases hc : cnn (N : Int) fs k j with
              | false => rfl
              | true => exact absurd (h1.mpr hc).symm h2
          have eFd := s_Hd _ _ eFc
          refine ⟨_, rfl, .inl ⟨rfl, _, SqL.of eFd⟩, _, rfl, F, _, .ref D', rfl, rfl, eFd, lt_line (by rw [List.length_map]; omega), ?_⟩
          refine ⟨_, _, bs ++ [D'], rfl, fun b o hb e => by rw [upd_ne hb]; exact keepd b o hb e, by rw [upd_same, List.map_append]; rfl, ?_, fun b hb => ?_, by rw [List.length_append, List.length_singleton]; omega⟩
          · rw [List.range_succ, List.filter_append, List.map_append]
            rw [show List.filter (isMn c) [k] = [k] by simp [hmn]]
            refine paired_snoc (PySem.Paired.map (q3c.same s_Hd) fun b hb r e => by rw [upd_ne (q4 b hb)]; exact e) ?_
            rw [upd_ne nD'F, s_Hd _ _ hD', hrow]
            unfold vN
            rw [List.map_map]
            rfl
          · rcases List.mem_append.mp hb with h | h
            · exact q4 b h
            · rw [List.mem_singleton] at h
              subst h
              exact nD'F
        · have hnil : ml = [] := by
            have : ml.map (fun (j : Nat) => (j : Int)) = [] := by simpa using z
            exact List.map_eq_nil_iff.mp this
          have hmn : isMn c k = false := by
            cases hc : isMn c k with
            | false => rfl
            | true =>
              rw [ec] at hc
              have := (memml k).mpr ⟨hk, (labM hk).mp hc⟩
              rw [hnil] at this
              cases this
          refine ⟨_, _, bs, rfl, keepd, s_Hd _ _ eFc, ?_, q4, by omega⟩
          rw [List.range_succ, List.filter_append, List.map_append]
          rw [show List.filter (isMn c) [k] = [] by simp [hmn], List.map_nil, List.append_nil]
          exact q3c.same s_Hd
      · rintro σ Hb ⟨v9, v10, bs, rfl, q1, q2, q3, q4, q5⟩
        refine ⟨_, rfl, q F bs Hb ?_ nF q2 ?_⟩
        · intro b o e
          exact q1 b o (ne_of_none e nF) (s03 _ _ e)
        · unfold orbs
          rw [Int.toNat_natCast, ← ec, ← er]
          exact q3
end
end My
namespace My
open PySem PySem.Spec PyProof.Rows L2 U StX PM
/-! ### the law's comparison -/
theorem piled_le {B : Nat} : ∀ {ts : List Str}, (∀ t ∈ ts, t.length ≤ B) → piled ts ≤ ts.length * (B + 2)
  | [], _ => Nat.zero_le _
  | t :: r, h => by
    have h1 := h t List.mem_cons_self
    have h2 := piled_le (ts := r) fun x hx => h x (List.mem_cons_of_mem _ hx)
    have e : piled (t :: r) = t.length + 2 + piled r := by simp [piled]
    rw [e, List.length_cons, Nat.succ_mul]
    omega
theorem shAll (l : List Int) : PyData.shownAll (l.map PyData.int) = l.map fun i => Str.ofString (toString i) := by
  induction l with
  | nil => rfl
  | cons a r ih =>
    rw [List.map_cons, List.map_cons]
    simp only [PyData.shownAll, PyData.shown]
    rw [ih]
theorem tI_ok {l : List Int} (h : ∀ x ∈ l, small x) (hl : l.length ≤ 1000) : (PyData.tuple (l.map PyData.int)).showable = true ∧ (PyData.tuple (l.map PyData.int)).hasDict = false ∧ (PyData.tuple (l.map PyData.int)).depth ≤ 60 ∧ (PyData.tuple (l.map PyData.int)).shown.length ≤ sizeLine := by
  have big : 50000 ≤ sizeLine := by decide
  refine ⟨?_, ?_, ?_, ?_⟩
  · simp only [PyData.showable]
    clear hl
    induction l with
    | nil => rfl
    | cons a r ih =>
      rw [List.map_cons]
      simp only [PyData.showableAll, PyData.showable]
      rw [decide_eq_true (small_log (h a List.mem_cons_self)), ih fun x hx => h x (List.mem_cons_of_mem _ hx)]
      rfl
  · simp only [PyData.hasDict]
    clear hl h
    induction l with
    | nil => rfl
    | cons a r ih =>
      rw [List.map_cons]
      simp only [PyData.hasDictAll, PyData.hasDict]
      rw [ih]
      rfl
  · have := (lay_all (k := 0) (ds := l.map PyData.int) fun d hd => by
      obtain ⟨n, _, rfl⟩ := List.mem_map.mp hd
      exact ⟨rfl, Nat.le_refl _⟩).2
    show PyData.depthAll _ + 1 ≤ 60
    omega
  · simp only [PyData.shown]
    rw [shAll]
    unfold tupleText
    rw [strLen_append, strLen_append]
    have h1 : (Str.join ", " (l.map fun i => Str.ofString (toString i))).length ≤ 12000 := by
      by_cases hn : (l.map fun i => Str.ofString (toString i)) = []
      · rw [hn]
        decide
      · have h2 := join_length_add _ hn
        have h3 := piled_le (B := 10) (ts := l.map fun i => Str.ofString (toString i)) fun t ht => by
          obtain ⟨i, hi, rfl⟩ := List.mem_map.mp ht
          exact small_len (h i hi)
        rw [List.length_map] at h3
        omega
    have h2 : ∀ b : Bool, (Str.ofString (if b = true then ",)" else ")")).length ≤ 2 := by decide
    have := h2 ((l.map fun i => Str.ofString (toString i)).length == 1)
    have h3 : (Str.ofString "(").length = 1 := rfl
    omega
theorem vis_let {fs : List PF} {ws : Ws} {p : Int} {w : List Int} : ∀ {k : Nat} {e : Int × List Int}, e ∈ vis fs ws p w k → ∀ x ∈ e.2, x ∈ w ∨ (0 ≤ x ∧ x < (k : Int))
  | 0, e, h => nomatch h
  | k + 1, e, h => by
    intro x hx
    have up : (x ∈ w ∨ (0 ≤ x ∧ x < (k : Int))) → x ∈ w ∨ (0 ≤ x ∧ x < ((k + 1 : Nat) : Int)) := fun z => z.imp id fun z => ⟨z.1, by omega⟩
    unfold vis at h
    cases hy : ((fs[k]?).getD emp) p with
    | none =>
      rw [hy] at h
      dsimp only at h
      exact up (vis_let (k := k) h x hx)
    | some y =>
      rw [hy] at h
      dsimp only at h
      split at h
      · exact up (vis_let (k := k) h x hx)
      · rcases List.mem_append.mp h with h | h
        · exact up (vis_let (k := k) h x hx)
        · rw [List.mem_singleton] at h
          subst h
          rcases List.mem_append.mp hx with h | h
          · exact .inl h
          · rw [List.mem_singleton] at h
            exact .inr ⟨by omega, by omega⟩
theorem Wd_let {fs : List PF} {s : Int} : ∀ {k : Nat} {e : Int × List Int}, e ∈ Wd fs s k → ∀ x ∈ e.2, 0 ≤ x ∧ x < (fs.length : Int)
  | 0, e, h => by
    rw [show Wd fs s 0 = [(s, [])] from rfl, List.mem_singleton] at h
    subst h
    exact fun x hx => nomatch hx
  | k + 1, e, h => by
    change e ∈ nxW fs k (Wd fs s k) at h
    unfold nxW at h
    cases he : (Wd fs s k)[k]? with
    | none =>
      rw [he] at h
      exact Wd_let h
    | some g =>
      rw [he] at h
      dsimp only at h
      rcases List.mem_append.mp h with h | h
      · exact Wd_let h
      · intro x hx
        rcases vis_let h x hx with h1 | h1
        · exact Wd_let (List.mem_of_getElem? he) x h1
        · exact h1
def wordD (o : Option (List Int)) : PyData := match o with
  | none => .none
  | some w => .tuple (w.map PyData.int)
/-- what stands at a goal, as data -/
theorem WGet.data {K : PySem.W.Frag} {H : Hp} {ws : Ws} {g : Int} {v : V} (h : WGet H ws g v) (nd : (keys ws).Nodup) : ∃ o, (∀ w, o = some w → ∃ e ∈ ws, e.2 = w) ∧ (∀ H' v', WGet H' ws g v' → Dp K H' v' (wordD o)) := by
  rcases h with ⟨hn, rfl⟩ | ⟨e, p, he, hx, rfl, hp⟩
  · refine ⟨none, (fun w z => nomatch z), fun H' v' h' => ?_⟩
    rcases h' with ⟨_, rfl⟩ | ⟨e, p, he, hx, _⟩
    · exact .non
    · exact absurd (List.mem_map.mpr ⟨e, he, hx⟩) hn
  · refine ⟨some e.2, fun w z => ⟨e, he, Option.some.inj z⟩, fun H' v' h' => ?_⟩
    rcases h' with ⟨hn, _⟩ | ⟨e', p', he', hx', rfl, hp'⟩
    · exact absurd (List.mem_map.mpr ⟨e, he, hx⟩) hn
    · have := keys_uniq nd he he' (hx.trans hx'.symm)
      subst this
      exact .tup (SqT.of hp') (dpI _)
theorem wordD_ok {fs : List PF} {s : Int} {o : Option (List Int)} (hf : fs.length ≤ 1000) (h : ∀ w, o = some w → ∃ e ∈ Wd fs s 300, e.2 = w) : (wordD o).showable = true ∧ (wordD o).hasDict = false ∧ (wordD o).depth ≤ 60 ∧ (wordD o).shown.length ≤ sizeLine := by
  cases o with
  | none => exact ⟨by decide +kernel, by decide +kernel, by decide +kernel, by decide +kernel⟩
  | some w =>
    obtain ⟨e, he, rfl⟩ := h w rfl
    refine tI_ok (fun x hx => ?_) (by have := Wd_word he; omega)
    have := Wd_let he x hx
    unfold small
    omega
def rowsD (rows : List (List Nat)) : PyData := .list (rows.map fun r => .list ((r.map fun (n : Nat) => (n : Int)).map PyData.int))
theorem vN_int (r : List Nat) : vN r = (r.map fun (n : Nat) => (n : Int)).map V.int := by
  unfold vN
  rw [List.map_map]
  rfl
theorem dp_rows {K : PySem.W.Frag} {H : Hp} {bs : List Addr} {rows : List (List Nat)} (h : RowsN H bs rows) : DpAll K H (bs.map V.ref) (rows.map fun r => PyData.list ((r.map fun (n : Nat) => (n : Int)).map PyData.int)) := by
  unfold RowsN at h
  induction h with
  | nil => exact .nil
  | @cons b r _ _ e _ ih =>
    rw [vN_int] at e
    exact .cons (.lst (SqL.of e) (dpI _)) ih
theorem sh_rows (rows : List (List Nat)) : SeqAt.shaped (rowsD rows) = true := shaped_all fun d hd => by
  obtain ⟨r, _, rfl⟩ := List.mem_map.mp hd
  have := lay_all (k := 0) (ds := (r.map fun (n : Nat) => (n : Int)).map PyData.int) fun d hd => by
    obtain ⟨n, _, rfl⟩ := List.mem_map.mp hd
    exact ⟨rfl, Nat.le_refl _⟩
  refine ⟨this.1, ?_⟩
  show PyData.depthAll _ + 1 ≤ _
  omega
theorem orbs_ne {n : Int} {fs : List PF} (h : 1 ≤ n) : ∃ r rs, orbs (cnn n fs) n.toNat = r :: rs := by
  obtain ⟨m, hm⟩ : ∃ m : Nat, n.toNat = m + 1 := ⟨n.toNat - 1, by omega⟩
  unfold orbs
  rw [hm, List.range_succ_eq_map]
  rw [List.filter_cons_of_pos (by rfl)]
  exact ⟨_, _, rfl⟩
def spRt (CM CF : Addr) : Sp := fun vs H Q _ => ∃ (a t tl : Addr) (xs ds : List V) (n : Int) (fs : List PF), vs = [.ref a, .ref tl, .int n] ∧ FamAt CM CF H a t xs n fs ∧ H tl = some (.lst ds) ∧ TabsAt' H ds fs ∧ ∀ H', Same H H' → Q (.bl true) H'
section
variable {P : Program} {w : World} {K : PySem.W.Frag} {mg : Str → Option Value} {base : Heap}
theorem ok_l_right (T : Txt K mg) : FnG P w K mg base CX0 20 T.f_l_right (spRt T.C_Map T.C_Family) := by
  refine T.A_l_right.okG sc_l_right (fun vs H Q E h => ?_) (fun cdv A outer s H vs Q E gd hr h => ?_)
  · obtain ⟨a, t, tl, xs, ds, n, fs, rfl, _⟩ := h
    rfl
  · obtain ⟨a, t, tl, xs, ds, n, fs, rfl, hf, htl, htb, q⟩ := h
    have hu := hu_of hr
    refine ⟨_, (pss_cons (ps_for PassesOwn.never rfl (pi_range1 rfl T.n_range (pa_cons (pv 2) pa_nil)) (pg_name (i := 3) sc_l_right.nd rfl (Or.inl rfl))
        (pss_cons (ps_set (i := 4) sc_l_right.nd rfl (Or.inr rfl) (pe_callR (ok_l_search T) (hr.mono (by decide)) T.A_l_search.kp rfl T.g_l_search pass0 (pa_cons (pv 1) (pa_cons (pv 3) pa_nil))))
      (pss_cons (ps_for PassesOwn.never rfl (pi_range1 rfl T.n_range (pa_cons pe_int pa_nil)) (pg_name (i := 5) sc_l_right.nd rfl (Or.inl rfl))
        (pss_cons (ps_set (i := 6) sc_l_right.nd rfl (Or.inl rfl) (pe_callR (ok_reached T) (hr.mono (by decide)) T.A_reached.kp rfl T.g_reached pass0 (pa_cons (pv 0) (pa_cons (pv 3) pa_nil))))
      (pss_cons (ps_if (pt_cmpR (L2.op_neD hr.units) (pv 6) (pe_lc (own := [("_law_place", 8)]) (g := (gName 8)) rfl sc_l_right.nd (pi_range1 rfl T.n_range (pa_cons (pv 2) pa_nil)) (blkOk_by (own := [("_law_place", 8)]) (N := n_l_right) (sc := defScope s_l_right) (by decide +kernel)) (fun _ _ _ _ _ => (pg_name (i := 8) sc_l_right.nd rfl (Or.inl rfl))) (fun _ _ _ _ _ => (pts_one (pt_cmp (pc_din hu (pv 8) (pv 4))))) (fun _ _ _ _ _ => (pv 8))) (nomark _))
        (pss_one (ps_ret pe_bl)) pss_nil)
      (pss_one (ps_expr (pe_bm PySem.F.plainAttrs_list PySem.F.slot_list_append PySem.F.type_list_append mt_append (pv 6) (pa_cons pe_non pa_nil)))))))
      (pss_one (ps_for PassesOwn.never rfl (pi_range1 rfl T.n_range (pa_cons (pv 2) pa_nil)) (pg_name (i := 7) sc_l_right.nd rfl (Or.inl rfl))
        (pss_one (ps_if (pt_cmpR op_ne (pe_callB (call_repr gd hr.units) (by rfl) T.n_repr (by decide +kernel) (pa_cons (pe_callR (ok_path T) (hr.mono (by decide)) T.A_path.kp rfl T.g_path pass0 (pa_cons (pv 0) (pa_cons (pv 3) (pa_cons (pv 7) pa_nil)))) pa_nil)) (pe_callB (call_repr gd hr.units) (by rfl) T.n_repr (by decide +kernel) (pa_cons (pe_dget1 hu (pv 4) (pv 7) ⟨rfl, rfl, rfl, rfl⟩) pa_nil)) (nomark _))
        (pss_one (ps_ret pe_bl)) pss_nil)))))))
      (pss_cons (ps_set (i := 6) sc_l_right.nd rfl (Or.inl rfl) (pe_callR (ok_orbits T) (hr.mono (by decide)) T.A_orbits.kp rfl T.g_orbits pass0 (pa_cons (pv 0) pa_nil)))
      (pss_cons (ps_if (pt_cmpR (L2.op_neD hr.units) (pv 6) (pe_callR (ok_l_classes T) (hr.mono (by decide)) T.A_l_classes.kp rfl T.g_l_classes pass0 (pa_cons (pv 1) (pa_cons (pv 2) pa_nil))) (nomark _))
        (pss_one (ps_ret pe_bl)) pss_nil)
      (pss_cons (ps_expr (pe_bm PySem.F.plainAttrs_list PySem.F.slot_list_append PySem.F.type_list_append mt_append (pe_ix ix_list (pv 6) pe_int (fun _ _ => rfl)) (pa_cons pe_non pa_nil)))
      (pss_one (ps_ret (pe_cmpR (L2.op_eqD hr.units) (pe_callR (ok_orbits T) (hr.mono (by decide)) T.A_orbits.kp rfl T.g_orbits pass0 (pa_cons (pv 0) pa_nil)) (pe_callR (ok_l_classes T) (hr.mono (by decide)) T.A_l_classes.kp rfl T.g_l_classes pass0 (pa_cons (pv 1) (pa_cons (pv 2) pa_nil))) (nomark _)))))))), ?_⟩
    obtain ⟨m0, f0, e0', hm0⟩ := hf.ms.first hf.ne
    have n3 := hm0.hi
    have n1 := hm0.lo
    have wf := hf.ms.wf
    have hxl := hf.le
    have hfl := hf.len
    have hdl : ds.length = fs.length := paired_len htb
    refine ⟨_, rfl, n, rfl, by omega, by omega, ?_⟩
    refine for_it (walk_range (lo := 0)) (fun i σ H' => ∃ v3 v4 v5 v6 v7, σ = [some (.ref a), some (.ref tl), some (.int n), v3, v4, v5, v6, v7, none] ∧ Same H H')
      ⟨_, _, _, _, _, rfl, Same.refl _⟩ (fun _ _ _ _ _ => trivial) ?_ ?_
    · rintro k v σ Ha0 Ha hk ⟨v3, v4, v5, v6, v7, rfl, p1⟩ ⟨rfl, ev⟩
      obtain rfl : v = V.int (k : Int) := by
        rw [ev]
        show V.int (0 + (k : Int)) = _
        rw [Int.zero_add]
      clear ev
      refine ⟨_, rfl, _, rfl, tl, (k : Int), n, ds, fs, rfl, p1 _ _ htl, htb.same p1, wf, by omega, by omega, n3, by omega, fun wd H1 s1 nwd hwd => ?_⟩
      have p2 := p1.trans s1
      have ndk : (keys (Wd fs (k : Int) 300)).Nodup := (Wd_keys ⟨by omega, by omega⟩ wf 300).1
      refine ⟨_, rfl, by decide, by decide, ?_⟩
      refine for_it (walk_range (lo := 0)) (fun i σ H' => ∃ v5 v6, σ = [some (.ref a), some (.ref tl), some (.int n), some (.int k), some (.ref wd), v5, v6, v7, none] ∧ Same H1 H')
        ⟨_, _, rfl, Same.refl _⟩ (fun _ _ _ _ _ => trivial) ?_ ?_
      · rintro j v σ Hb0 Hb hj ⟨v5, v6, rfl, q1⟩ ⟨rfl, ev⟩
        refine ⟨_, rfl, _, rfl, a, t, xs, n, (k : Int), fs, rfl, hf.same (p2.trans q1), by omega, by omega, fun D H2 s2 nD hD => ?_⟩
        have q2 := q1.trans s2
        refine ⟨_, rfl, ?_⟩
        refine lc_rangeF (n := n.toNat) (H := H2) (fun x => inK (Wd fs k 300) x) (fun R r => ⟨_, rfl, n, rfl, by omega, by omega, r⟩) (fun _ => rfl) (lt_line (by omega)) (fun j hj H1 s1 => ?_) (fun D' H3 nD' hD' s3 => ?_)
        · obtain ⟨o, ho, hs⟩ := ((hwd.same q2).same s1).has (0 + (j : Int))
          refine ⟨fun R r => ⟨_, rfl, _, rfl, wd, o, rfl, ho, _, rfl, ?_⟩, fun R r => ⟨_, rfl, r⟩⟩
          rw [hs, Int.zero_add]
          exact r
        have hD3 := s3 _ _ hD
        refine ⟨.list ((rl n (Wd fs k 300)).map PyData.int), .list ((rl n (Wd fs k 300)).map PyData.int), .lst (SqL.of hD3) (dpI _), .lst (SqL.of hD') (dpI _), shI _, shI _, _, rfl, ?_⟩
        rw [SeqAt.eqv_refl _ (SeqAt.canLay_of_shaped (shI _))]
        refine iteF ?_
        refine ⟨_, rfl, .inl ⟨rfl, _, SqL.of hD3⟩, D, _, .non, rfl, rfl, hD3, ?_, ?_⟩
        · have := List.length_filter_le (fun (k' : Nat) => inK (Wd fs k 300) (k' : Int)) (List.range n.toNat)
          rw [List.length_range] at this
          exact lt_line (by unfold rl; rw [List.length_map, List.length_map]; omega)
        · exact ⟨_, _, rfl, Same.put (q2.trans s3) (q1.free nD)⟩
      · rintro σ Hb ⟨v5, v6, rfl, q1⟩
        refine ⟨_, rfl, n, rfl, by omega, by omega, ?_⟩
        refine for_it (walk_range (lo := 0)) (fun i σ H' => ∃ v7, σ = [some (.ref a), some (.ref tl), some (.int n), some (.int k), some (.ref wd), v5, v6, v7, none] ∧ Same H1 H')
          ⟨_, rfl, q1⟩ (fun _ _ _ _ _ => trivial) ?_ ?_
        · rintro g v σ Hc0 Hc hg ⟨v7, rfl, r1⟩ ⟨rfl, ev⟩
          obtain rfl : v = V.int (g : Int) := by
            rw [ev]
            show V.int (0 + (g : Int)) = _
            rw [Int.zero_add]
          clear ev
          refine ⟨_, rfl, _, rfl, _, rfl, a, t, xs, n, (k : Int), (g : Int), fs, rfl, hf.same (p2.trans r1), by omega, by omega, by omega, by omega, fun v H4 s4 hv => ?_⟩
          obtain ⟨o, ho1, ho2⟩ := hv.data (K := K) ndk
          obtain ⟨w1, w2, w3, w4⟩ := wordD_ok (by omega) ho1
          refine ⟨v, wordD o, rfl, ho2 _ _ hv, w1, w2, w3, w4, ?_⟩
          obtain ⟨o2, hg2, hv2⟩ := ((hwd.same r1).same s4).get1 (g : Int)
          obtain ⟨kvs, hk', _⟩ := (hwd.same r1).same s4
          refine ⟨_, rfl, wd, rfl, isD_of hk', _, rfl, o2, hg2, _, wordD o, rfl, ho2 _ _ hv2, w1, w2, w3, w4, rfl, _, rfl, ?_⟩
          rw [decide_eq_true rfl]
          exact iteF ⟨_, rfl, r1.trans s4⟩
        · rintro σ Hc ⟨v7, rfl, r1⟩
          exact ⟨_, _, _, _, _, rfl, p2.trans r1⟩
    · rintro σ Ha ⟨v3, v4, v5, v6, v7, rfl, p1⟩
      refine ⟨_, rfl, a, t, xs, n, fs, rfl, hf.same p1, fun D bs H1 s1 nD hD hr1 hb1 => ?_⟩
      have p2 := p1.trans s1
      refine ⟨_, rfl, _, rfl, _, rfl, tl, n, ds, fs, rfl, p2 _ _ htl, htb.same p2, wf, n1, n3, by omega, fun D2 bs2 H2 s2 nD2 hD2 hr2 => ?_⟩
      have hD' := s2 _ _ hD
      refine ⟨rowsD _, rowsD _, .lst (SqL.of hD') (dp_rows (hr1.same s2)), .lst (SqL.of hD2) (dp_rows hr2), sh_rows _, sh_rows _, _, rfl, ?_⟩
      rw [SeqAt.eqv_refl _ (SeqAt.canLay_of_shaped (sh_rows _))]
      refine iteF ?_
      obtain ⟨r0, rs, er⟩ := orbs_ne (fs := fs) n1
      have hr1' := hr1.same s2
      rw [er] at hr1'
      unfold RowsN at hr1'
      cases hr1' with
      | @cons b0 _ bs' _ eb _ =>
        have hbn := hb1 b0 List.mem_cons_self
        refine ⟨_, rfl, D, _, 0, .ref b0, rfl, rfl, SqL.of hD', atI_nat (j := 0) rfl, .inl ⟨rfl, _, SqL.of eb⟩, b0, _, .non, rfl, rfl, eb, ?_, ?_⟩
        · have h1 : r0 ∈ orbs (cnn n fs) n.toNat := by rw [er]; exact List.mem_cons_self
          unfold orbs at h1
          obtain ⟨e, _, rfl⟩ := List.mem_map.mp h1
          have := List.length_filter_le (cnn n fs e) (List.range n.toNat)
          rw [List.length_range] at this
          unfold vN
          exact lt_line (by rw [List.length_map]; omega)
        have p3 : Same H (upd H2 b0 (.lst (vN r0 ++ [.non]))) := Same.put (p2.trans s2) (p1.free hbn)
        generalize upd H2 b0 (.lst (vN r0 ++ [.non])) = H3 at p3 ⊢
        refine ⟨_, rfl, a, t, xs, n, fs, rfl, hf.same p3, fun D3 bs3 H4 s4 nD3 hD3 hr3 hb3 => ?_⟩
        have p4 := p3.trans s4
        refine ⟨_, rfl, _, rfl, tl, n, ds, fs, rfl, p4 _ _ htl, htb.same p4, wf, n1, n3, by omega, fun D4 bs4 H5 s5 nD4 hD4 hr4 => ?_⟩
        refine ⟨rowsD _, rowsD _, .lst (SqL.of (s5 _ _ hD3)) (dp_rows (hr3.same s5)), .lst (SqL.of hD4) (dp_rows hr4), sh_rows _, sh_rows _, ?_⟩
        rw [SeqAt.eqv_refl _ (SeqAt.canLay_of_shaped (sh_rows _))]
        exact q H5 (p4.trans s5)
end
end My
namespace My
open PySem PySem.Spec PyProof.Rows L2 U StX PM
/-! ### the great family -/
def g1 : PF := fun x => if 0 ≤ x ∧ x < 298 then some (x + 2) else none
def g2 : PF := fun x => if x = 299 then some 0 else none
def gW (i : Nat) : Int × List Int := if i < 150 then (1 + 2 * (i : Int), List.replicate i 0) else (2 * ((i : Int) - 150), List.replicate 149 0 ++ [1] ++ List.replicate (i - 150) 0)
theorem g1_some {x : Int} (h0 : 0 ≤ x) (h1 : x < 298) : g1 x = some (x + 2) := by unfold g1; rw [if_pos ⟨h0, h1⟩]
theorem g1_none {x : Int} (h : ¬ (0 ≤ x ∧ x < 298)) : g1 x = none := by unfold g1; rw [if_neg h]
theorem g2_none {x : Int} (h : x ≠ 299) : g2 x = none := by unfold g2; rw [if_neg h]
theorem vis_one {f g : PF} {ws : Ws} {p y : Int} {w : List Int} (h1 : f p = some y) (h2 : g p = none) (hn : y ∉ keys ws) : vis [f, g] ws p w 2 = [(y, w ++ [0])] := by
  have e1 : vis [f, g] ws p w 1 = [(y, w ++ [0])] := by
    rw [vis_at (fs := [f, g]) (j := 0) rfl, h1]
    dsimp only
    rw [if_neg (by rw [show vis [f, g] ws p w 0 = [] from rfl, List.append_nil]; exact hn)]
    rfl
  rw [vis_at (fs := [f, g]) (j := 1) rfl, h2, e1]
theorem vis_two {f g : PF} {ws : Ws} {p y : Int} {w : List Int} (h1 : f p = none) (h2 : g p = some y) (hn : y ∉ keys ws) : vis [f, g] ws p w 2 = [(y, w ++ [1])] := by
  have e1 : vis [f, g] ws p w 1 = [] := by
    rw [vis_at (fs := [f, g]) (j := 0) rfl, h1]
    rfl
  rw [vis_at (fs := [f, g]) (j := 1) rfl, h2, e1]
  dsimp only
  rw [if_neg (by rw [List.append_nil]; exact hn)]
  rfl
theorem vis_non {f g : PF} {ws : Ws} {p : Int} {w : List Int} (h1 : f p = none) (h2 : g p = none) : vis [f, g] ws p w 2 = [] := by
  have e1 : vis [f, g] ws p w 1 = [] := by
    rw [vis_at (fs := [f, g]) (j := 0) rfl, h1]
    rfl
  rw [vis_at (fs := [f, g]) (j := 1) rfl, h2, e1]
theorem gW_lt {i : Nat} (h : i < 150) : gW i = (1 + 2 * (i : Int), List.replicate i 0) := by unfold gW; rw [if_pos h]
theorem gW_ge {i : Nat} (h : 150 ≤ i) : gW i = (2 * ((i : Int) - 150), List.replicate 149 0 ++ [1] ++ List.replicate (i - 150) 0) := by unfold gW; rw [if_neg (by omega)]
theorem gW_key {i : Nat} : (gW i).1 = if i < 150 then 1 + 2 * (i : Int) else 2 * ((i : Int) - 150) := by
  unfold gW
  split <;> rfl
theorem mem_gW {y : Int} {n : Nat} : y ∈ keys ((List.range n).map gW) ↔ ∃ i, i < n ∧ (gW i).1 = y := by
  unfold keys
  rw [List.map_map, List.mem_map]
  constructor
  · rintro ⟨i, hi, rfl⟩
    exact ⟨i, List.mem_range.mp hi, rfl⟩
  · rintro ⟨i, hi, rfl⟩
    exact ⟨i, List.mem_range.mpr hi, rfl⟩
theorem great_W : ∀ k : Nat, k ≤ 299 → Wd [g1, g2] 1 k = (List.range (k + 1)).map gW
  | 0, _ => by
    show [((1 : Int), ([] : List Int))] = _
    rw [show List.range (0 + 1) = [0] from rfl, List.map_singleton, gW_lt (by decide)]
    rfl
  | k + 1, h => by
    have ih := great_W k (by omega)
    show nxW [g1, g2] k (Wd [g1, g2] 1 k) = _
    rw [ih]
    unfold nxW
    have hk : ((List.range (k + 1)).map gW)[k]? = some (gW k) := by
      rw [List.getElem?_map, List.getElem?_range (by omega)]
      rfl
    rw [hk]
    dsimp only
    rw [List.range_succ (n := k + 1), List.map_append, List.map_singleton]
    congr 1
    by_cases h1 : k < 149
    · rw [gW_lt (show k < 150 by omega), gW_lt (show k + 1 < 150 by omega)]
      dsimp only
      show vis [g1, g2] _ _ _ 2 = _
      rw [vis_one (y := 1 + 2 * (k : Int) + 2) (g1_some (by omega) (by omega)) (g2_none (by omega)) (fun hm => by
        obtain ⟨i, hi, e⟩ := mem_gW.mp hm
        rw [gW_key, if_pos (by omega)] at e
        omega)]
      rw [show (1 + 2 * (k : Int) + 2) = 1 + 2 * ((k + 1 : Nat) : Int) by omega, List.replicate_succ']
    · by_cases h2 : k = 149
      · subst h2
        rw [gW_lt (by decide), gW_ge (by decide)]
        dsimp only
        show vis [g1, g2] _ _ _ 2 = _
        rw [vis_two (y := 0) (g1_none (by omega)) (by unfold g2; rw [if_pos (by omega)]) (fun hm => by
          obtain ⟨i, hi, e⟩ := mem_gW.mp hm
          rw [gW_key, if_pos (by omega)] at e
          omega)]
        rfl
      · rw [gW_ge (show 150 ≤ k by omega), gW_ge (show 150 ≤ k + 1 by omega)]
        dsimp only
        show vis [g1, g2] _ _ _ 2 = _
        rw [vis_one (y := 2 * ((k : Int) - 150) + 2) (g1_some (by omega) (by omega)) (g2_none (by omega)) (fun hm => by
          obtain ⟨i, hi, e⟩ := mem_gW.mp hm
          rw [gW_key] at e
          split at e <;> omega)]
        rw [show 2 * ((k : Int) - 150) + 2 = 2 * (((k + 1 : Nat) : Int) - 150) by omega, show k + 1 - 150 = (k - 150) + 1 by omega, List.replicate_succ' (n := k - 150), List.append_assoc]
theorem great_F : Wd [g1, g2] 1 300 = (List.range 300).map gW := by
  show nxW [g1, g2] 299 (Wd [g1, g2] 1 299) = _
  rw [great_W 299 (by decide)]
  unfold nxW
  have hk : ((List.range (299 + 1)).map gW)[299]? = some (gW 299) := by
    rw [List.getElem?_map, List.getElem?_range (by decide)]
    rfl
  rw [hk]
  dsimp only
  rw [gW_ge (show 150 ≤ 299 by decide)]
  dsimp only
  rw [show ([g1, g2] : List PF).length = 2 from rfl, vis_non (g1_none (by omega)) (g2_none (by omega)), List.append_nil]
theorem great_K {k : Int} (h0 : 0 ≤ k) (h1 : k < 300) : k ∈ keys (Wd [g1, g2] 1 300) := by
  rw [great_F, mem_gW]
  by_cases h : k % 2 = 1
  · refine ⟨(k / 2).toNat, by omega, ?_⟩
    rw [gW_key, if_pos (by omega)]
    omega
  · refine ⟨(150 + k / 2).toNat, by omega, ?_⟩
    rw [gW_key, if_neg (by omega)]
    omega
theorem great_E : Wd [g1, g2] 298 300 = [(298, [])] := by
  have h1 : Wd [g1, g2] 298 1 = [(298, [])] := by
    show nxW [g1, g2] 0 [(298, [])] = _
    unfold nxW
    show [((298 : Int), ([] : List Int))] ++ vis [g1, g2] _ 298 [] 2 = _
    rw [vis_non (g1_none (by omega)) (g2_none (by omega))]
    rfl
  rw [Wd_stop (k := 1) (by rw [h1]; exact Nat.le_refl _) (by decide), h1]
theorem wf_g1 : WF 300 g1 := by
  refine ⟨fun x y h => ?_, fun x x' y h h' => ?_⟩
  · unfold g1 at h
    split at h
    · cases h; omega
    · cases h
  · unfold g1 at h h'
    split at h
    · split at h'
      · cases h; have := Option.some.inj h'; omega
      · cases h'
    · cases h
theorem wf_g2 : WF 300 g2 := by
  refine ⟨fun x y h => ?_, fun x x' y h h' => ?_⟩
  · unfold g2 at h
    split at h
    · cases h; omega
    · cases h
  · unfold g2 at h h'
    split at h
    · split at h'
      · omega
      · cases h'
    · cases h
theorem wf_g : ∀ f ∈ [g1, g2], WF 300 f := fun f hf => by
  simp only [List.mem_cons, List.not_mem_nil, or_false] at hf
  rcases hf with rfl | rfl
  · exact wf_g1
  · exact wf_g2
theorem rch_both {n : Int} {fs : List PF} {a b : Int} (h : Rch fs a b) : Rch (both n fs) a b := by
  induction h with
  | refl => exact .refl
  | step _ hf hy ih => exact .step ih (List.mem_append.mpr (.inl hf)) hy
theorem great_c {a b : Nat} (ha : a < 300) (hb : b < 300) : cnn 300 [g1, g2] a b = true := by
  rw [cnn_iff]
  have h1 := Wd_rch (great_K (k := (a : Int)) (by omega) (by omega))
  have h2 := Wd_rch (great_K (k := (b : Int)) (by omega) (by omega))
  exact (rch_symm wf_g (rch_both h1)).trans (rch_both h2)
theorem great_O : orbs (cnn 300 [g1, g2]) 300 = [List.range 300] := by
  unfold orbs
  have e : (List.range 300).filter (isMn (cnn 300 [g1, g2])) = [0] := by
    rw [show (300 : Nat) = 299 + 1 from rfl, List.range_succ_eq_map, List.filter_cons_of_pos (by rfl)]
    congr 1
    rw [List.filter_eq_nil_iff]
    intro x hx
    obtain ⟨y, hy, rfl⟩ := List.mem_map.mp hx
    rw [List.mem_range] at hy
    intro hm
    unfold isMn at hm
    have := List.all_eq_true.mp hm 0 (List.mem_range.mpr (Nat.succ_pos _))
    rw [great_c (by omega) (by decide)] at this
    cases this
  rw [e, List.map_singleton, List.filter_eq_self.mpr fun x hx => great_c (a := 0) (by decide) (List.mem_range.mp hx)]
theorem great_R : rl 300 (Wd [g1, g2] 1 300) = (List.range 300).map fun (k : Nat) => (k : Int) := by
  unfold rl
  rw [show (300 : Int).toNat = 300 from rfl, List.filter_eq_self.mpr fun x hx => by
    have := List.mem_range.mp hx
    unfold inK
    exact decide_eq_true (great_K (by omega) (by omega))]
theorem lc_rangeO {wi : TI} {i : Nat} {tv : TE} {vs : List Nat} {σ : L2.St} {H : Hp} {Q : VK} {n : Nat} (o : Nat → HO)
    (hwi : ∀ R : It → Hp → Prop, R (Itr 0 n) H → wi σ H R) (hw : ∀ a, wipe ((wipe σ vs).set i a) vs = wipe σ vs) (hn : n < sizeLine)
    (hb : ∀ k : Nat, k < n → ∀ H1, L2.Same H H1 → ∀ R : VK, (∀ b H2, L2.Same H1 H2 → H1 b = none → H2 b = some (o k) → R (.ref b) H2) → tv ((wipe σ vs).set i (some (.int (k : Int)))) H1 R)
    (hq : ∀ (D : Addr) (bs : List Addr) (H' : Hp), L2.Same H H' → H D = none → H' D = some (.lst (bs.map V.ref)) → bs.length = n → (∀ (k : Nat) (b : Addr), bs[k]? = some b → H' b = some (o k)) → Q (.ref D) H') : tLc wi (gName i) tYes tv vs σ H Q := by
  refine hwi _ fun D hD => ?_
  refine lc_it (walk_range (lo := 0)) (fun k H' => L2.Same H H' ∧ ∃ bs : List Addr, H' D = some (.lst (bs.map V.ref)) ∧ bs.length = k ∧ ∀ (j : Nat) (b : Addr), bs[j]? = some b → H' b = some (o j) ∧ b ≠ D) ⟨Same.new hD, [], upd_same, rfl, fun j b e => by simp at e⟩ (fun _ _ _ _ => trivial) ?_ ?_
  · rintro k v H' H'' hk ⟨s2, bs, e1, hl, hbs⟩ ⟨rfl, ev⟩
    obtain rfl : v = V.int (k : Int) := by
      rw [ev]
      show V.int (0 + (k : Int)) = _
      rw [Int.zero_add]
    refine ⟨hw _, yes_ ?_⟩
    refine hb k hk _ s2 _ fun b H2 s3 nb eb => ?_
    have e2 := s3 _ _ e1
    have nbD : b ≠ D := fun z => by rw [z, e1] at nb; cases nb
    refine ⟨_, e2, by rw [List.length_map, hl]; exact Nat.lt_trans hk hn, Same.put (s2.trans s3) hD, bs ++ [b], by rw [upd_same, List.map_append]; rfl, by simp [hl], fun j b' e => ?_⟩
    by_cases hj : j < bs.length
    · rw [List.getElem?_append_left hj] at e
      obtain ⟨h1, h2⟩ := hbs j b' e
      exact ⟨by rw [upd_ne h2]; exact s3 _ _ h1, h2⟩
    · have hl2 := (List.getElem?_eq_some_iff.mp e).1
      rw [List.length_append, List.length_singleton] at hl2
      have ej : j = k := by omega
      subst ej
      rw [List.getElem?_append_right (by omega), hl, Nat.sub_self] at e
      cases e
      exact ⟨by rw [upd_ne nbD]; exact eb, nbD⟩
  · rintro H' ⟨s2, bs, e1, hl, hbs⟩
    exact hq D bs H' s2 hD e1 hl fun k b e => (hbs k b e).1
theorem merge_kv {m : List (Int × Int)} {g : PF} (di : DI m g) : ∃ l', mergeK [] (kvI m) = kvI l' ∧ l'.length ≤ m.length ∧ DI l' g := by
  obtain ⟨l', e', n', d', k'⟩ := merge_lk m [] di.nd
  refine ⟨l', e', by simpa using n', d' (by simp), fun z => ?_⟩
  rw [k', ← di.at_]
  cases lk m z <;> rfl
def m1L : List (Int × Int) := (List.range 298).map fun (k : Nat) => ((k : Int), (k : Int) + 2)
theorem di_g1 : DI m1L g1 := by
  refine di_of ?_ fun x y => ?_
  · unfold m1L
    rw [List.map_map]
    exact List.Pairwise.map _ (fun a b (h : a ≠ b) (z : (a : Int) = (b : Int)) => h (Int.ofNat.inj z)) List.nodup_range
  · unfold m1L
    rw [List.mem_map]
    constructor
    · rintro ⟨k, hk, e⟩
      rw [List.mem_range] at hk
      cases e
      exact g1_some (by omega) (by omega)
    · intro h
      unfold g1 at h
      split at h
      · cases h
        rename_i hx
        exact ⟨x.toNat, List.mem_range.mpr (by omega), by rw [Int.toNat_of_nonneg hx.1]⟩
      · cases h
theorem di_g2 : DI [(299, 0)] g2 := by
  refine di_of (by simp) fun x y => ?_
  unfold g2
  simp only [List.mem_cons, List.not_mem_nil, or_false, Prod.mk.injEq]
  constructor
  · rintro ⟨rfl, rfl⟩
    rfl
  · intro h
    split at h
    · rename_i hx
      cases h
      exact ⟨hx, rfl⟩
    · cases h
section
variable {P : Program} {w : World} {K : PySem.W.Frag} {mg : Str → Option Value} {base : Heap}
theorem ok_l_great (T : Txt K mg) : FnR P w K mg base CX0 20 T.f_l_great (fun vs H Q _ => vs = [] ∧ ∀ H', Same H H' → Q (.bl true) H') := by
  refine T.A_l_great.ok sc_l_great (fun vs H Q E h => ?_) (fun cdv A outer s H vs Q E hr h => ?_)
  · obtain ⟨rfl, _⟩ := h
    rfl
  · obtain ⟨rfl, q⟩ := h
    have hu := hu_of hr
    refine ⟨_, (pss_cons (ps_set (i := 0) sc_l_great.nd rfl (Or.inl rfl) (pe_makeR T.M_Family (fnR_calm (okX_f_init T)) (hr.mono (by decide)) rfl T.g_Family pass0 (pa_cons (pe_makeR T.M_Map (ok_init T) (hr.mono (by decide)) rfl T.g_Map pass0 (pa_cons pe_int (pa_cons (pe_callTy (call_dictP rfl) (by rfl) T.n_dict (by decide +kernel) (pa_cons (pe_lc (own := [("_law_at", 1)]) (g := (gName 1)) (tt := tYes) rfl sc_l_great.nd (pi_range1 rfl T.n_range (pa_cons pe_int pa_nil)) (blkOk_by (own := [("_law_at", 1)]) (N := n_l_great) (sc := defScope s_l_great) (by decide +kernel)) (fun _ _ _ _ _ => (pg_name (i := 1) sc_l_great.nd rfl (Or.inl rfl))) (fun _ _ _ _ _ => pts_nil) (fun _ _ _ _ _ => (pe_tup (pa_cons (pv 1) (pa_cons (pe_op op_add (pv 1) pe_int) pa_nil))))) pa_nil)) pa_nil))) (pa_cons (pe_makeR T.M_Map (ok_init T) (hr.mono (by decide)) rfl T.g_Map pass0 (pa_cons pe_int (pa_cons (pe_callTy (call_dictP rfl) (by rfl) T.n_dict (by decide +kernel) (pa_cons (pe_lst (pa_cons (pe_tup (pa_cons pe_int (pa_cons pe_int pa_nil))) pa_nil)) pa_nil)) pa_nil))) pa_nil))))
      (pss_cons (ps_if (PW.pt (pw_or (pt_cmpR (L2.op_neD hr.units) (pe_callR (ok_reached T) (hr.mono (by decide)) T.A_reached.kp rfl T.g_reached pass0 (pa_cons (pv 0) (pa_cons pe_int pa_nil))) (pe_listRg rfl rfl T.n_list (prg_1 rfl T.n_range pe_int)) (nomark _)) (pw_or1 (pt_cmpR (L2.op_neD hr.units) (pe_callR (ok_path T) (hr.mono (by decide)) T.A_path.kp rfl T.g_path pass0 (pa_cons (pv 0) (pa_cons pe_int (pa_cons pe_int pa_nil)))) (pe_op op_catA (pe_op op_catA (pe_op op_repT (pe_tup (pa_cons pe_int pa_nil)) pe_int) (pe_tup (pa_cons pe_int pa_nil))) (pe_op op_repT (pe_tup (pa_cons pe_int pa_nil)) pe_int)) (nomark _)))))
        (pss_one (ps_ret pe_bl)) pss_nil)
      (pss_one (ps_ret (pe_and (pe_cmpR (L2.op_eqD hr.units) (pe_callR (ok_orbits T) (hr.mono (by decide)) T.A_orbits.kp rfl T.g_orbits pass0 (pa_cons (pv 0) pa_nil)) (pe_lst (pa_cons (pe_listRg rfl rfl T.n_list (prg_1 rfl T.n_range pe_int)) pa_nil)) (nomark _)) (pe_and (pe_cmpR op_isN (pe_callR (ok_path T) (hr.mono (by decide)) T.A_path.kp rfl T.g_path pass0 (pa_cons (pv 0) (pa_cons pe_int (pa_cons pe_int pa_nil)))) pe_non (nomark _)) (pe_one (pe_cmpR (L2.op_eqD hr.units) (pe_callR (ok_reached T) (hr.mono (by decide)) T.A_reached.kp rfl T.g_reached pass0 (pa_cons (pv 0) (pa_cons pe_int pa_nil))) (pe_lst (pa_cons pe_int pa_nil)) (nomark _))))))))), ?_⟩
    dsimp only [tSeq, tAsg, tMakeR, tCons, tNil, tCB, tC]
    refine lc_rangeO (n := 298) (fun k => .tup [.int (k : Int), .int ((k : Int) + 2)]) (fun R r => ⟨298, rfl, by decide, by decide, r⟩) (fun _ => rfl) (by decide) (fun k hk H1 s1 R r => ?_) (fun L bs H1 s1 nL hL hbl hat => ?_)
    · exact ⟨_, rfl, _, rfl, _, _, rfl, rfl, two_le, fun t nt => r t _ (Same.new nt) nt upd_same⟩
    refine ⟨L, bs, kvI m1L, rfl, SqL.of hL, ?_, fun d1 nd1 => ?_⟩
    · refine PySem.Paired.map (R := fun p (kv : Key × V) => H1 p = some (.tup [kV kv.1, kv.2])) ?_ fun p _ kv e => SqT.of e
      refine paired_of (by unfold m1L kvI; rw [List.length_map, List.length_map, List.length_range, hbl]) fun k b kv h1 h2 => ?_
      rw [hat k b h1]
      unfold m1L kvI at h2
      rw [List.map_map, List.getElem?_map] at h2
      obtain ⟨j, hj, rfl⟩ := Option.map_eq_some_iff.mp h2
      have hk := (List.getElem?_eq_some_iff.mp hj).1
      rw [List.length_range] at hk
      rw [List.getElem?_range hk] at hj
      cases hj
      rfl
    have l298 : m1L.length = 298 := by unfold m1L; rw [List.length_map, List.length_range]
    obtain ⟨l1, emk, hl1, di1⟩ := merge_kv di_g1
    rw [emk]
    generalize g_d1 : L2.upd _ d1 _ = H2
    obtain ⟨s_H2, e_d1⟩ := U.upd_facts g_d1 nd1
    clear g_d1
    refine fun m1 dx nm ndx ne => init_of (n := 300) e_d1 di1 wf_g1 (by decide) (by decide) (by omega) nm ndx ne fun H3 s3 hm1 => ⟨rfl, ?_⟩
    refine ⟨two_le, ?_⟩
    refine fun p0 n_p0 => ?_
    generalize g_p0 : L2.upd _ p0 _ = H4
    obtain ⟨s_H4, e_p0⟩ := U.upd_facts g_p0 n_p0
    clear g_p0
    refine ⟨one_le, ?_⟩
    refine fun lp n_lp => ?_
    generalize g_lp : L2.upd _ lp _ = H5
    obtain ⟨s_H5, e_lp⟩ := U.upd_facts g_lp n_lp
    clear g_lp
    refine ⟨lp, [p0], kvI [(299, 0)], rfl, SqL.of e_lp, .cons (SqT.of (s_H5 _ _ e_p0)) .nil, fun d2 nd2 => ?_⟩
    obtain ⟨l2, emk2, hl2, di2⟩ := merge_kv di_g2
    rw [emk2]
    generalize g_d2 : L2.upd _ d2 _ = H6
    obtain ⟨s_H6, e_d2⟩ := U.upd_facts g_d2 nd2
    clear g_d2
    refine fun m2 dx nm ndx ne => init_of (n := 300) e_d2 di2 wf_g2 (by decide) (by decide) (Nat.le_trans hl2 (by decide)) nm ndx ne fun H7 s7 hm2 => ⟨rfl, ?_⟩
    have s37 := ((s_H4.trans s_H5).trans s_H6).trans s7
    refine fun fa dx nf ndx ne => famInit_of (n := 300) (fs := [g1, g2]) (.cons ⟨m1, rfl, hm1.same s37⟩ (.cons ⟨m2, rfl, hm2⟩ .nil)) (by simp) (by simp) nf ndx ne fun t H8 s8 hf => ⟨rfl, ?_⟩
    have s08 : Same H H8 := (((s1.trans s_H2).trans s3).trans s37).trans s8
    -- all are reached
    refine ⟨_, rfl, fa, t, _, 300, 1, [g1, g2], rfl, hf, by decide, by decide, fun D1 H9 s9 nD1 hD1 => ?_⟩
    refine ⟨300, rfl, RgOk.of_le (by decide) (by decide) (by decide) (by decide), fun R1 n_R1 => ?_⟩
    generalize g_R1 : L2.upd _ R1 _ = H10
    obtain ⟨s_H10, e_R1⟩ := U.upd_facts g_R1 n_R1
    clear g_R1
    rw [rg0, show (300 : Int).toNat = 300 from rfl] at e_R1
    rw [great_R] at hD1
    have hD1' := s_H10 _ _ hD1
    refine ⟨_, _, .lst (SqL.of hD1') (dpI _), .lst (SqL.of e_R1) (dpI _), shI _, shI _, _, rfl, ?_⟩
    rw [SeqAt.eqv_refl _ (SeqAt.canLay_of_shaped (shI _))]
    refine iteF ?_
    have s810 := s9.trans s_H10
    refine ⟨_, rfl, fa, t, _, 300, 1, 298, [g1, g2], rfl, hf.same s810, by decide, by decide, by decide, by decide, fun v H11 s11 hv => ?_⟩
    obtain ⟨pv, rfl, epv⟩ : ∃ pv, v = .ref pv ∧ H11 pv = some (.tup ((List.replicate 149 (0 : Int) ++ [1] ++ List.replicate 149 0).map V.int)) := by
      rcases hv with ⟨hn, _⟩ | ⟨e, p, he, hx, rfl, hp⟩
      · exact absurd (great_K (by decide) (by decide)) hn
      · rw [great_F] at he
        obtain ⟨i, hi, rfl⟩ := List.mem_map.mp he
        rw [List.mem_range] at hi
        have : i = 299 := by
          rw [gW_key] at hx
          split at hx <;> omega
        subst this
        rw [gW_ge (by decide)] at hp
        exact ⟨p, rfl, hp⟩
    refine ⟨one_le, ?_⟩
    refine fun a1 n_a1 => ?_
    generalize g_a1 : L2.upd _ a1 _ = H12
    obtain ⟨s_H12, e_a1⟩ := U.upd_facts g_a1 n_a1
    clear g_a1
    refine ⟨a1, 149, _, rfl, rfl, SqT.of e_a1, by simp, by decide, by decide, by decide, ?_⟩
    refine fun a2 n_a2 => ?_
    generalize g_a2 : L2.upd _ a2 _ = H13
    obtain ⟨s_H13, e_a2⟩ := U.upd_facts g_a2 n_a2
    clear g_a2
    rw [show (149 : Int).toNat = 149 from rfl, List.flatten_replicate_singleton] at e_a2
    refine ⟨one_le, ?_⟩
    refine fun a3 n_a3 => ?_
    generalize g_a3 : L2.upd _ a3 _ = H14
    obtain ⟨s_H14, e_a3⟩ := U.upd_facts g_a3 n_a3
    clear g_a3
    refine catA_of (s_H14 _ _ e_a2) e_a3 (by simp) (by rw [List.length_replicate]; decide) fun a4 H15 s15 e_a4 => ?_
    refine ⟨one_le, ?_⟩
    refine fun a5 n_a5 => ?_
    generalize g_a5 : L2.upd _ a5 _ = H16
    obtain ⟨s_H16, e_a5⟩ := U.upd_facts g_a5 n_a5
    clear g_a5
    refine ⟨a5, 149, _, rfl, rfl, SqT.of e_a5, by simp, by decide, by decide, by decide, ?_⟩
    refine fun a6 n_a6 => ?_
    generalize g_a6 : L2.upd _ a6 _ = H17
    obtain ⟨s_H17, e_a6⟩ := U.upd_facts g_a6 n_a6
    clear g_a6
    rw [show (149 : Int).toNat = 149 from rfl, List.flatten_replicate_singleton] at e_a6
    refine catA_of (s_H17 _ _ (s_H16 _ _ e_a4)) e_a6 (by simp) (by rw [List.length_append, List.length_replicate, List.length_singleton]; decide) fun a7 H18 s18 e_a7 => ?_
    have s1118 := (((((s_H12.trans s_H13).trans s_H14).trans s15).trans s_H16).trans s_H17).trans s18
    have e7 : H18 a7 = some (.tup ((List.replicate 149 (0 : Int) ++ [1] ++ List.replicate 149 0).map V.int)) := by
      rw [e_a7, List.map_append, List.map_append, List.map_replicate]
      rfl
    have shT : SeqAt.shaped (.tuple ((List.replicate 149 (0 : Int) ++ [1] ++ List.replicate 149 0).map PyData.int)) = true := by decide +kernel
    refine ⟨_, _, .tup (SqT.of (s1118 _ _ epv)) (dpI _), .tup (SqT.of e7) (dpI _), shT, shT, _, rfl, ?_⟩
    rw [SeqAt.eqv_refl _ (SeqAt.canLay_of_shaped shT)]
    refine iteF ?_
    have s818 := (s810.trans s11).trans s1118
    refine ⟨_, rfl, fa, t, _, 300, [g1, g2], rfl, hf.same s818, fun D2 bs2 H19 s19 nD2 hD2 hr2 _ => ?_⟩
    refine ⟨300, rfl, RgOk.of_le (by decide) (by decide) (by decide) (by decide), fun R2 n_R2 => ?_⟩
    generalize g_R2 : L2.upd _ R2 _ = H20
    obtain ⟨s_H20, e_R2⟩ := U.upd_facts g_R2 n_R2
    clear g_R2
    rw [rg0, show (300 : Int).toNat = 300 from rfl] at e_R2
    refine ⟨one_le, ?_⟩
    refine fun R3 n_R3 => ?_
    generalize g_R3 : L2.upd _ R3 _ = H21
    obtain ⟨s_H21, e_R3⟩ := U.upd_facts g_R3 n_R3
    clear g_R3
    rw [show (300 : Int).toNat = 300 from rfl, great_O] at hr2
    have s1921 := s_H20.trans s_H21
    have dr : Dp K H21 (.ref R3) (rowsD [List.range 300]) := .lst (SqL.of e_R3) (.cons (.lst (SqL.of (s_H21 _ _ e_R2)) (dpI _)) .nil)
    refine ⟨_, _, .lst (SqL.of (s1921 _ _ hD2)) (dp_rows (hr2.same s1921)), dr, sh_rows _, sh_rows _, ?_⟩
    rw [show PyData.list ([List.range 300].map fun r => PyData.list ((r.map fun (n : Nat) => (n : Int)).map PyData.int)) = rowsD [List.range 300] from rfl, SeqAt.eqv_refl _ (SeqAt.canLay_of_shaped (sh_rows _))]
    have s821 := (s818.trans s19).trans s1921
    refine ⟨_, rfl, iteT ?_⟩
    refine ⟨_, rfl, fa, t, _, 300, 298, 299, [g1, g2], rfl, hf.same s821, by decide, by decide, by decide, by decide, fun v H22 s22 hv => ?_⟩
    obtain rfl : v = .non := by
      rw [great_E] at hv
      rcases hv with ⟨_, h⟩ | ⟨e, p, he, hx, _⟩
      · exact h
      · rw [List.mem_singleton] at he
        subst he
        cases hx
    refine ⟨rfl, _, rfl, ?_⟩
    refine ifD (fun _ => ?_) (fun z => absurd rfl z)
    have s822 := s821.trans s22
    refine ⟨_, rfl, fa, t, _, 300, 298, [g1, g2], rfl, hf.same s822, by decide, by decide, fun D3 H23 s23 nD3 hD3 => ?_⟩
    refine ⟨one_le, ?_⟩
    refine fun R4 n_R4 => ?_
    generalize g_R4 : L2.upd _ R4 _ = H24
    obtain ⟨s_H24, e_R4⟩ := U.upd_facts g_R4 n_R4
    clear g_R4
    have e1 : rl 300 (Wd [g1, g2] 298 300) = [298] := by
      rw [great_E]
      unfold rl inK
      decide +kernel
    rw [e1] at hD3
    refine ⟨_, .list [.int 298], .lst (SqL.of (s_H24 _ _ hD3)) (dpI [298]), .lst (SqL.of e_R4) (.cons (.int _) .nil), by decide +kernel, by decide +kernel, ?_⟩
    exact q H24 (((s08.trans s822).trans s23).trans s_H24)
end
end My
namespace My
open PySem PySem.Spec PyProof.Rows L2 U StX PM
theorem TabsAt'.off {p : Addr} {H H' : Hp} {ds : List V} {fs : List PF} (h : TabsAt' H ds fs) (o : Off p H H') (e : ∃ xs, H p = some (.lst xs)) : TabsAt' H' ds fs := PySem.Paired.map h fun _ _ _ ⟨d, l, e1, h1, h2⟩ => ⟨d, l, e1, o _ _ (fun z => by
  obtain ⟨xs, e⟩ := e
  rw [z, e] at h1
  cases h1) h1, h2⟩
theorem lc_tabs {wi : TI} {i : Nat} {tv : TE} {vs : List Nat} {σ : L2.St} {H : Hp} {Q : VK} {p : Addr} {n : Int}
    (hwi : ∀ R : It → Hp → Prop, (∀ N H4, 1 ≤ N → N ≤ 3 → PoolAt H4 p → Off p H H4 → R (Itr 0 N) H4) → wi σ H R)
    (hw : ∀ a, wipe ((wipe σ vs).set i a) vs = wipe σ vs)
    (hb : ∀ a H1, PoolAt H1 p → ∀ R : VK, (∀ d H5 l, H1 d = none → H5 d = some (.dK (kvI l)) → DI l (lk l) → WF n (lk l) → l.length ≤ 1000 → PoolAt H5 p → Off p H1 H5 → R (.ref d) H5) → tv ((wipe σ vs).set i a) H1 R)
    (hq : ∀ D H5 ds fs, PoolAt H5 p → Off p H H5 → H D = none → p ≠ D → H5 D = some (.lst ds) → 1 ≤ ds.length → ds.length ≤ 3 → TabsAt' H5 ds fs → (∀ f ∈ fs, WF n f) → Q (.ref D) H5) : tLc wi (gName i) tYes tv vs σ H Q := by
  refine hwi _ fun N H4 hN1 hN3 pool4 off4 => fun D hD => ?_
  have npD : p ≠ D := pool4.ne hD
  refine lc_it (walk_range (lo := 0)) (fun k H' => PoolAt H' p ∧ Off p H4 H' ∧ ∃ (ds : List V) (fs : List PF), H' D = some (.lst ds) ∧ ds.length = k ∧ TabsAt' H' ds fs ∧ ∀ f ∈ fs, WF n f)
    ⟨pool4.put npD, Off.new hD, [], [], upd_same, rfl, .nil, fun f h => nomatch h⟩ (fun _ _ _ _ => trivial) ?_ ?_
  · rintro j v H' H'' hj ⟨poolj, oj, ds, fs, e1, hdl, htb, hwf⟩ ⟨rfl, rfl⟩
    refine ⟨hw _, yes_ ?_⟩
    refine hb _ _ poolj _ fun d H5 l nd hd di wf hll pool5 off5 => ?_
    have e2 := off5 _ _ npD.symm e1
    have ndD : d ≠ D := fun z => by rw [z, e1] at nd; cases nd
    have htb5 := htb.off off5 poolj.lst
    refine ⟨_, e2, lt_line (by omega), pool5.put npD, (oj.tr off5).mut hD, ds ++ [.ref d], fs ++ [lk l], upd_same, by rw [List.length_append, hdl]; rfl, ?_, fun f hf => ?_⟩
    · refine paired_snoc (PySem.Paired.map htb5 fun v _ f ⟨d', l', a1, a2, a3⟩ => ⟨d', l', a1, by rw [upd_ne (fun z => by rw [z, e2] at a2; cases a2)]; exact a2, a3⟩) ⟨d, l, rfl, by rw [upd_ne ndD]; exact hd, di, hll⟩
    · rcases List.mem_append.mp hf with h | h
      · exact hwf f h
      · rw [List.mem_singleton] at h
        rw [h]; exact wf
  · rintro H5 ⟨pool5, off5, ds, fs, eD, hdl, htb, hwf⟩
    have nD : H D = none := by
      cases e : H D with
      | none => rfl
      | some o => exact absurd (off4 _ _ npD.symm e) (by rw [hD]; intro z; cases z)
    exact hq D H5 ds fs pool5 (off4.tr off5) nD npD eD (by omega) (by omega) htb hwf
theorem nx_cut {a rest : TS} {D : Ends} {r : VK} {b c : L2.St → Hp → Prop} {σ : L2.St} {H : Hp} (M : L2.St → Hp → Prop) (h : ∀ nx : L2.St → Hp → Prop, (∀ σ' H', M σ' H' → nx σ' H') → a { D with nx := nx } σ H) (hM : ∀ σ' H', M σ' H' → rest D σ' H') : Ends.nx { nx := tSeq a rest D, rt := r, bk := b, ct := c } σ H := h _ hM
theorem lc_maps {C : Addr} {K : PySem.W.Frag} {te : TE} {i : Nat} {tv : TE} {vs : List Nat} {σ : L2.St} {H : Hp} {Q : VK} {a : Addr} {ds : List V} {n : Int} {fs : List PF} (hte : ∀ R : VK, R (.ref a) H → te σ H R) (ha : H a = some (.lst ds)) (hfl : ds.length = fs.length)
    (hw : ∀ a, wipe ((wipe σ vs).set i a) vs = wipe σ vs) (hz : ds.length < sizeLine)
    (hb : ∀ (k : Nat) (v : V) (f : PF), ds[k]? = some v → fs[k]? = some f → ∀ H1, Same H H1 → ∀ R : VK, (∀ m H2, Same H1 H2 → IsMap C H2 m n f → R (.ref m) H2) → tv ((wipe σ vs).set i (some v)) H1 R)
    (hq : ∀ (D : Addr) (ms : List V) (H' : Hp), Same H H' → H D = none → H' D = some (.lst ms) → MapsAt C H' n ms fs → Q (.ref D) H') : tLc (iList K te) (gName i) tYes tv vs σ H Q := by
  refine hte _ ⟨a, rfl, ⟨_, SqL.of ha⟩, fun D hD => ?_⟩
  refine lc_it (walk_list (xs := ds)) (fun k H' => Same H H' ∧ ∃ ms : List V, H' D = some (.lst ms) ∧ MapsAt C H' n ms (fs.take k)) ⟨Same.new hD, [], upd_same, .nil⟩ (fun k H' _ p => SqL.of (p.1 _ _ ha)) ?_ ?_
  · rintro k v H' H'' hk ⟨s1, ms, e1, hm⟩ ⟨rfl, ev⟩
    obtain ⟨f, hf⟩ : ∃ f, fs[k]? = some f := ⟨_, List.getElem?_eq_getElem (by omega)⟩
    refine ⟨hw _, yes_ ?_⟩
    refine hb k v f ev hf _ s1 _ fun m H2 s2 hmm => ?_
    have e2 := s2 _ _ e1
    have hln := paired_len hm
    rw [List.length_take] at hln
    refine ⟨_, e2, by omega, Same.put (s1.trans s2) hD, ms ++ [.ref m], upd_same, ?_⟩
    rw [take_more hf]
    refine paired_snoc (PySem.Paired.map (hm.same s2) fun v _ g ⟨b, eb, hb⟩ => ⟨b, eb, hb.off Off.lock ⟨_, e2⟩⟩) ⟨m, rfl, hmm.off Off.lock ⟨_, e2⟩⟩
  · rintro H' ⟨s1, ms, e1, hm⟩
    rw [hfl, List.take_length] at hm
    exact hq D ms H' s1 hD e1 hm
section
variable {P : Program} {w : World} {K : PySem.W.Frag} {mg : Str → Option Value} {base : Heap}
theorem ok_law (T : Txt K mg) : FnG P w K mg base CX0 40 T.f_law (spLaw K) := by
  refine T.A_law.okG sc_law (fun vs H Q E h => ?_) (fun cdv A outer s H vs Q E gd hr h => ?_)
  · obtain ⟨a, ns, rfl, _⟩ := h
    rfl
  · obtain ⟨a, ns, rfl, hS, hl, q⟩ := h
    have hu := hu_of hr
    refine ⟨_, (pss_cons (ps_if (pt_not (pt_val (pe_call0R (ok_l_great T) (hr.mono (by decide)) T.A_l_great.kp rfl T.g_l_great pass0)))
        (pss_one (ps_ret pe_bl)) pss_nil)
      (pss_cons (ps_for PassesOwn.never rfl (pi_range1 rfl T.n_range (pa_cons (pe_callB (call_max2 rfl) (by rfl) T.n_max (by decide +kernel) (pa_cons pe_int (pa_cons (pe_callB (call_min2 rfl) (by rfl) T.n_min (by decide +kernel) (pa_cons (pe_callB call_len_seq (by rfl) T.n_len (by decide +kernel) (pa_cons (pv 0) pa_nil)) (pa_cons pe_int pa_nil))) pa_nil))) pa_nil)) (pg_name (i := 1) sc_law.nd rfl (Or.inl rfl))
        (pss_cons (ps_set (i := 2) sc_law.nd rfl (Or.inr rfl) (pe_callR (ok_hand T) (hr.mono (by decide)) T.A_l_hand.kp rfl T.g_l_hand pass0 (pa_cons (pv 0) (pa_cons (pv 1) pa_nil))))
      (pss_cons (ps_set (i := 3) sc_law.nd rfl (Or.inr rfl) (pe_op op_add pe_int (pe_callR (ok_draw T) (hr.mono (by decide)) T.A_l_draw.kp rfl T.g_l_draw pass0 (pa_cons (pv 2) (pa_cons pe_int pa_nil)))))
      (pss_cons (ps_setLc (i := 4) (own := [("_law_turn", 5)]) (g := (gName 5)) (tt := tYes) rfl sc_law.nd rfl rfl (sw_true rfl rfl rfl (by decide +kernel)) (pi_range1 rfl T.n_range (pa_cons (pe_op op_add pe_int (pe_callR (ok_draw T) (hr.mono (by decide)) T.A_l_draw.kp rfl T.g_l_draw pass0 (pa_cons (pv 2) (pa_cons pe_int pa_nil)))) pa_nil)) (blkOk_by (own := [("_law_turn", 5)]) (N := n_law) (sc := defScope s_law) (by decide +kernel)) (fun _ _ _ _ _ => (pg_name (i := 5) sc_law.nd rfl (Or.inl rfl))) (fun _ _ _ _ _ => pts_nil) (fun _ _ _ _ _ => (pe_callR (ok_l_few T) (hr.mono (by decide)) T.A_l_few.kp rfl T.g_l_few pass0 (pa_cons (pv 2) (pa_cons (pv 3) pa_nil)))))
      (pss_cons (ps_if (pt_cmpR op_eq (pe_callR (ok_draw T) (hr.mono (by decide)) T.A_l_draw.kp rfl T.g_l_draw pass0 (pa_cons (pv 2) (pa_cons pe_int pa_nil))) pe_int (nomark _))
        (pss_one (ps_expr (pe_bm PySem.F.plainAttrs_list PySem.F.slot_list_append PySem.F.type_list_append mt_append (pv 4) (pa_cons (pe_callR (ok_l_arrR T) (hr.mono (by decide)) T.A_l_arrows.kp rfl T.g_l_arrows pass0 (pa_cons (pv 2) (pa_cons (pv 3) pa_nil))) pa_nil)))) pss_nil)
      (pss_one (ps_if (pt_not (pt_val (pe_callG (ok_l_right T) gd (hr.mono (by decide)) T.A_l_right.kp rfl T.g_l_right pass0 (pa_cons (pe_callR (ok_l_family T) (hr.mono (by decide)) T.A_l_family.kp rfl T.g_l_family pass0 (pa_cons (pe_lc (own := [("_law_table", 6)]) (g := (gName 6)) (tt := tYes) rfl sc_law.nd (pi_list (pv 4)) (blkOk_by (own := [("_law_table", 6)]) (N := n_law) (sc := defScope s_law) (by decide +kernel)) (fun _ _ _ _ _ => (pg_name (i := 6) sc_law.nd rfl (Or.inl rfl))) (fun _ _ _ _ _ => pts_nil) (fun _ _ _ _ _ => (pe_makeR T.M_Map (ok_init T) (hr.mono (by decide)) rfl T.g_Map pass0 (pa_cons (pv 3) (pa_cons (pv 6) pa_nil))))) pa_nil)) (pa_cons (pv 4) (pa_cons (pv 3) pa_nil))))))
        (pss_one (ps_ret pe_bl)) pss_nil)))))))
      (pss_one (ps_ret pe_bl)))), ?_⟩
    refine ⟨rfl, fun H0 s0 => ⟨_, rfl, iteF ?_⟩⟩
    have hS := SqL.same hS s0
    refine ⟨_, rfl, a, _, rfl, .inl hS, _, _, rfl, _, _, rfl, _, rfl, ?_, ?_, ?_⟩
    · rw [List.length_map]; (repeat' split) <;> omega
    · rw [List.length_map]; (repeat' split) <;> omega
    refine for_it (walk_range (lo := 0)) (fun i σ H' => ∃ v1 v2 v3 v4 v5 v6, σ = [some (.ref a), v1, v2, v3, v4, v5, v6] ∧ Same H0 H')
      ⟨_, _, _, _, _, _, rfl, Same.refl _⟩ (fun _ _ _ _ _ => trivial) ?_ ?_
    · rintro k v σ H' H1 hk ⟨v1, v2, v3, v4, v5, v6, rfl, p1⟩ ⟨rfl, rfl⟩
      refine ⟨_, rfl, _, rfl, a, ns, _, rfl, SqL.same hS p1, hl, fun p H2 x y np hp s2 hx hy hy2 => ?_⟩
      have p0 : H0 p = none := p1.free np
      have pool2 : PoolAt H2 p := ⟨x, y, hp, hx, hy, hy2⟩
      refine draw_R rfl (fun R r => r) pool2 (by decide) (by decide) fun r H3 r0 r1 pool3 off3 => ⟨_, _, rfl, rfl, ?_⟩
      have n1 : 1 ≤ 1 + r := by omega
      have n2 : 1 + r ≤ 10 := by omega
      have sH2 : Same H0 H2 := p1.trans s2
      have sH3 : Same H0 H3 := Same.off sH2 off3 p0
      dsimp only [gName, tSeq]
      refine asg_of ?_
      refine lc_tabs (p := p) (n := 1 + r) (fun R rr => ?_) (fun _ => rfl) (fun a H1 poolj R rr => ?_) (fun D H5 ds fs pool5 off5 nD npD eD hdl1 hdl2 htb hwf => ?_)
      · refine draw_R rfl (fun R r => r) pool3 (by decide) (by decide) fun r' H4 w0 w1 pool4 off4 => ⟨_, _, rfl, rfl, _, rfl, by omega, by omega, rr _ H4 (by omega) (by omega) pool4 off4⟩
      · exact ⟨_, rfl, _, rfl, p, 1 + r, rfl, poolj, n1, by omega, fun d H5 l nd hd di wf hll pool5 off5 => rr d H5 l nd hd di wf hll pool5 off5⟩
      have nD0 : H0 D = none := sH3.free nD
      have sH5 : Same H0 H5 := Same.off sH3 off5 p0
      have npn : Same H0 H5 := sH5
      refine nx_cut (fun σ H' => ∃ ds fs, σ = [some (.ref a), some (.int (0 + (k : Nat))), some (.ref p), some (.int (1 + r)), some (.ref D), v5, v6] ∧ Same H0 H' ∧ H' D = some (.lst ds) ∧ 1 ≤ ds.length ∧ ds.length ≤ 4 ∧ TabsAt' H' ds fs ∧ ∀ f ∈ fs, WF (1 + r) f) (fun nx fin => ?_) ?_
      · refine draw_R rfl (fun R r => r) pool5 (by decide) (by decide) fun r2 H6 z0 z1 pool6 off6 => ⟨rfl, _, rfl, ?_⟩
        have eD6 := off6 _ _ npD.symm eD
        have htb6 := htb.off off6 pool5.lst
        have sH6 : Same H0 H6 := Same.off sH5 off6 p0
        refine ifB (fun z => ?_) (fun z => ?_)
        · refine ⟨_, rfl, .inl ⟨rfl, _, SqL.of eD6⟩, _, rfl, _, rfl, p, 1 + r, rfl, pool6, n1, by omega, fun d H7 l nd hd di wf hll pool7 off7 => ?_⟩
          have eD7 := off7 _ _ npD.symm eD6
          have htb7 := htb6.off off7 pool6.lst
          have ndD : d ≠ D := fun z => by rw [z, eD6] at nd; cases nd
          refine ⟨D, _, .ref d, rfl, rfl, eD7, lt_line (by omega), fin _ _ ⟨ds ++ [.ref d], fs ++ [lk l], rfl, Same.put (Same.off sH6 off7 p0) nD0, upd_same, by rw [List.length_append]; omega, by rw [List.length_append, List.length_singleton]; omega, ?_, fun f hf => ?_⟩⟩
          · refine paired_snoc (PySem.Paired.map htb7 fun v _ f ⟨d', l', a1, a2, a3⟩ => ⟨d', l', a1, by rw [upd_ne (fun z => by rw [z, eD7] at a2; cases a2)]; exact a2, a3⟩) ⟨d, l, rfl, by rw [upd_ne ndD]; exact hd, di, hll⟩
          · rcases List.mem_append.mp hf with h | h
            · exact hwf f h
            · rw [List.mem_singleton] at h
              rw [h]; exact wf
        · exact fin _ _ ⟨ds, fs, rfl, sH6, eD6, hdl1, by omega, htb6, hwf⟩
      · clear hdl1 hdl2 htb hwf eD pool5 off5 sH5 npn pool3 off3 pool2 s2
        rintro σ H6 ⟨ds, fs, rfl, sH6, eD, hdl1, hdl2, htb, hwf⟩
        have hfl : ds.length = fs.length := paired_len htb
        dsimp only [tIfS, tNot, tB, tCallR, tCons, tNil]
        refine lc_maps (C := T.C_Map) (n := 1 + r) (fs := fs) (fun R r => ⟨_, rfl, r⟩) eD hfl (fun _ => rfl) (lt_line (by omega)) (fun j v f hv hf H7 s7 R rr => ?_) (fun M ms H7 s7 nM hM hms => ?_)
        · obtain ⟨f', hf', d, l, rfl, hd, di, hll⟩ := paired_at htb hv
          rw [hf] at hf'
          cases hf'
          exact ⟨_, rfl, _, rfl, fun m dx nm ndx ne => init_of (s7 _ _ hd) di (hwf f (List.mem_of_getElem? hf)) n1 (by omega) hll nm ndx ne fun H8 s8 hm => ⟨rfl, rr m H8 s8 hm⟩⟩
        · refine ⟨M, _, 1 + r, fs, rfl, hM, hms, fun z => by rw [z, List.length_nil] at hfl; omega, by rw [paired_len hms]; omega, fun fa t H8 s8 hfam => ?_⟩
          have s68 := s7.trans s8
          exact ⟨_, rfl, _, rfl, fa, t, D, _, ds, 1 + r, fs, rfl, hfam, s68 _ _ eD, htb.same s68, fun H9 s9 => ⟨_, rfl, iteF ⟨_, _, _, _, _, _, rfl, (sH6.trans s68).trans s9⟩⟩⟩
    · rintro σ H' ⟨v1, v2, v3, v4, v5, v6, rfl, p1⟩
      exact q H'
end
end My
namespace My
open PySem L2
theorem walk {l : PySem.W.OpenLaw} {q : Program} {loose : List Str} {XP : (Str → Option Value) → Heap → Prop} {YP : World → Heap → Prop} {d : DefRec} {K : Params → PySem.W.Frag} (hn : l.most = some 63) (hdf : d.params.defaults = []) (hnm : d.name = "law")
    (hY : ∀ (w : World) (h : Heap), YP w h → (K w.params).In h)
    (ok : ∀ (P : Program) (w : World) (K : PySem.W.Frag) (mg : Str → Option Value) (base : Heap) (T : Txt K mg), U.FnG P w K mg base CX0 40 T.f_law (spLaw K))
    (F : ∀ (w : World) (mg : Str → Option Value) (h : Heap), (K w.params).In h → h.Ns mainGlobals mg → Nonempty (Txt (K w.params) mg)) :
    PySem.W.WalkO q loose XP YP l.row.toRowW d [] (fun f vs => PySem.call f vs) := by
  refine U.walkG (n := 63) (k := 40) (sp := spLaw) hn (by decide) hdf ⟨rfl, by decide, by decide⟩ hY ?_ (fun K H a ns hl hS => ⟨a, ns, rfl, hS, hl, fun _ => rfl⟩)
  intro w mg fa h KX G hmg base
  obtain ⟨T⟩ := F w mg h KX G
  rw [hnm, T.g_law] at hmg
  cases hmg
  exact ok _ _ _ _ _ T
end My
local macro_rules | `(tactic| first | refine $t:term | fail $s:str) => do { let t2 ← t.raw.replaceM fun n => (do { if n.getKind == `Lean.Parser.Term.syntheticHole then { let nm := n[1].getId.eraseMacroScopes; if nm == `hl then { return some (Lean.mkIdent `My.hl) } else { return none } } else { return none } }); `(tactic| refine $(⟨t2⟩)) }
open PySem PySem.W PyProof.Rows
set_option maxRecDepth 100000 in
set_option maxHeartbeats 0 in
theorem PySem.Challenge.cw_chainmaps_k55_reached_elements_and_orbit_holds : PySem.Challenge.rw_chainmaps_k55_reached_elements_and_orbit.Holds := by
  w_on; o_law; k_headL; (case hw => w_witness2)
  k_fill
  refine My.walk (l := PySem.Challenge.rw_chainmaps_k55_reached_elements_and_orbit) rfl rfl rfl (fun w h Y => PySem.W.kIn_of Y) (fun _ _ _ _ _ T => My.ok_law T) ?F
  case F =>
    intro w mg h KX G
    refine' My.mk_txt KX G ?a_is_integer ?l_is_integer ?c_is_integer ?k_is_integer ?a_in_range ?l_in_range ?c_in_range ?k_in_range ?a_check_elements ?l_check_elements ?c_check_elements ?k_check_elements ?a_are_arrows ?l_are_arrows ?c_are_arrows ?k_are_arrows ?a_common_size ?l_common_size ?c_common_size ?k_common_size ?a_check_map ?l_check_map ?c_check_map ?k_check_map ?a_check_all ?l_check_all ?c_check_all ?k_check_all ?a_check_many ?l_check_many ?c_check_many ?k_check_many ?a_made ?l_made ?c_made ?k_made ?a_check_family ?l_check_family ?c_check_family ?k_check_family ?a_first_words ?l_first_words ?c_first_words ?k_first_words ?a_reached ?l_reached ?c_reached ?k_reached ?a_path ?l_path ?c_path ?k_path ?a_orbits ?l_orbits ?c_orbits ?k_orbits ?a_l_hand ?l_l_hand ?c_l_hand ?k_l_hand ?a_l_draw ?l_l_draw ?c_l_draw ?k_l_draw ?a_l_arrows ?l_l_arrows ?c_l_arrows ?k_l_arrows ?a_l_family ?l_l_family ?c_l_family ?k_l_family ?a_l_few ?l_l_few ?c_l_few ?k_l_few ?a_l_search ?l_l_search ?c_l_search ?k_l_search ?a_l_classes ?l_l_classes ?c_l_classes ?k_l_classes ?a_l_right ?l_l_right ?c_l_right ?k_l_right ?a_l_great ?l_l_great ?c_l_great ?k_l_great ?a_law ?l_law ?c_law ?k_law ?a_Map ?pg_Map ?hd_Map ?po_Map ?sa_Map ?sf_Map ?ca_Map ?cn_Map ?ct_Map ?cm_Map ?kc_Map ?kit_int_Map ?kit_bool_Map ?kn_NoneType_Map ?nf_NoneType_Map ?kn_int_Map ?nf_int_Map ?kn_bool_Map ?nf_bool_Map ?kn_str_Map ?nf_str_Map ?kn_list_Map ?nf_list_Map ?kn_dict_Map ?nf_dict_Map ?kn_tuple_Map ?nf_tuple_Map ?self_Map ?na_own_size_Map ?na_own_arrows_Map ?m_Map__init ?i_Map__init ?l_Map__init ?c_Map__init ?k_Map__init ?mk_Map ?m_Map_size ?s_get_Map_size ?tk_Map_size ?rc_Map_size ?l_Map_size ?c_Map_size ?k_Map_size ?m_Map_arrows ?s_get_Map_arrows ?tk_Map_arrows ?rc_Map_arrows ?l_Map_arrows ?c_Map_arrows ?k_Map_arrows ?m_Map__invert ?i_Map__invert ?l_Map__invert ?c_Map__invert ?k_Map__invert ?a_Family ?pg_Family ?hd_Family ?po_Family ?sa_Family ?sf_Family ?ca_Family ?cn_Family ?ct_Family ?cm_Family ?kc_Family ?kit_int_Family ?kit_bool_Family ?kn_NoneType_Family ?nf_NoneType_Family ?kn_int_Family ?nf_int_Family ?kn_bool_Family ?nf_bool_Family ?kn_str_Family ?nf_str_Family ?kn_list_Family ?nf_list_Family ?kn_dict_Family ?nf_dict_Family ?kn_tuple_Family ?nf_tuple_Family ?self_Family ?na_own_maps_Family ?m_Family__init ?i_Family__init ?l_Family__init ?c_Family__init ?k_Family__init ?mk_Family ?m_Family_maps ?s_get_Family_maps ?tk_Family_maps ?rc_Family_maps ?l_Family_maps ?c_Family_maps ?k_Family_maps ?m_Family_size ?s_get_Family_size ?tk_Family_size ?rc_Family_size ?l_Family_size ?c_Family_size ?k_Family_size ?m_Family__add ?i_Family__add ?l_Family__add ?c_Family__add ?k_Family__add ?a_InvalidMap ?xl_InvalidMap ?sa_InvalidMap ?ex_InvalidMap ?ty_InvalidMap ?kc_InvalidMap ?hd_InvalidMap ?ga_InvalidMap ?gg_InvalidMap ?ss_InvalidMap ?ca_InvalidMap ?cn_InvalidMap ?ct_InvalidMap ?cm_InvalidMap ?kit_ValueError_InvalidMap ?na_part_InvalidMap ?m_InvalidMap__init ?ti_InvalidMap__init ?l_InvalidMap__init ?c_InvalidMap__init ?k_InvalidMap__init ?a_SizeMismatch ?xl_SizeMismatch ?sa_SizeMismatch ?ex_SizeMismatch ?ty_SizeMismatch ?kc_SizeMismatch ?hd_SizeMismatch ?ga_SizeMismatch ?gg_SizeMismatch ?ss_SizeMismatch ?ca_SizeMismatch ?cn_SizeMismatch ?ct_SizeMismatch ?cm_SizeMismatch ?kit_ValueError_SizeMismatch ?na_first_SizeMismatch ?na_second_SizeMismatch ?m_SizeMismatch__init ?ti_SizeMismatch__init ?l_SizeMismatch__init ?c_SizeMismatch__init ?k_SizeMismatch__init ?a_InvalidElement ?xl_InvalidElement ?sa_InvalidElement ?ex_InvalidElement ?ty_InvalidElement ?kc_InvalidElement ?hd_InvalidElement ?ga_InvalidElement ?gg_InvalidElement ?ss_InvalidElement ?ca_InvalidElement ?cn_InvalidElement ?ct_InvalidElement ?cm_InvalidElement ?kit_ValueError_InvalidElement ?na_value_InvalidElement ?m_InvalidElement__init ?ti_InvalidElement__init ?l_InvalidElement__init ?c_InvalidElement__init ?k_InvalidElement__init ?a_LimitExceeded ?xl_LimitExceeded ?sa_LimitExceeded ?ex_LimitExceeded ?ty_LimitExceeded ?kc_LimitExceeded ?hd_LimitExceeded ?ga_LimitExceeded ?gg_LimitExceeded ?ss_LimitExceeded ?ca_LimitExceeded ?cn_LimitExceeded ?ct_LimitExceeded ?cm_LimitExceeded ?kit_OverflowError_LimitExceeded ?na_limit_LimitExceeded ?m_LimitExceeded__init ?ti_LimitExceeded__init ?l_LimitExceeded__init ?c_LimitExceeded__init ?k_LimitExceeded__init ?z_isinstance ?z_int ?z_bool ?z_dict ?z_len ?z_range ?z_list ?z_tuple ?z_max ?z_min ?z_enumerate ?z_repr ?v_MAX_SIZE ?v_MOST_MAPS ?kit_x_Map_Family
    (case a_is_integer => as_aux_lemma => k_is)
    (case l_is_integer => as_aux_lemma => k_is)
    (case c_is_integer => as_aux_lemma => k_is)
    (case k_is_integer => as_aux_lemma => k_is)
    (case a_in_range => as_aux_lemma => k_is)
    (case l_in_range => as_aux_lemma => k_is)
    (case c_in_range => as_aux_lemma => k_is)
    (case k_in_range => as_aux_lemma => k_is)
    (case a_check_elements => as_aux_lemma => k_is)
    (case l_check_elements => as_aux_lemma => k_is)
    (case c_check_elements => as_aux_lemma => k_is)
    (case k_check_elements => as_aux_lemma => k_is)
    (case a_are_arrows => as_aux_lemma => k_is)
    (case l_are_arrows => as_aux_lemma => k_is)
    (case c_are_arrows => as_aux_lemma => k_is)
    (case k_are_arrows => as_aux_lemma => k_is)
    (case a_common_size => as_aux_lemma => k_is)
    (case l_common_size => as_aux_lemma => k_is)
    (case c_common_size => as_aux_lemma => k_is)
    (case k_common_size => as_aux_lemma => k_is)
    (case a_check_map => as_aux_lemma => k_is)
    (case l_check_map => as_aux_lemma => k_is)
    (case c_check_map => as_aux_lemma => k_is)
    (case k_check_map => as_aux_lemma => k_is)
    (case a_check_all => as_aux_lemma => k_is)
    (case l_check_all => as_aux_lemma => k_is)
    (case c_check_all => as_aux_lemma => k_is)
    (case k_check_all => as_aux_lemma => k_is)
    (case a_check_many => as_aux_lemma => k_is)
    (case l_check_many => as_aux_lemma => k_is)
    (case c_check_many => as_aux_lemma => k_is)
    (case k_check_many => as_aux_lemma => k_is)
    (case a_made => as_aux_lemma => k_is)
    (case l_made => as_aux_lemma => k_is)
    (case c_made => as_aux_lemma => k_is)
    (case k_made => as_aux_lemma => k_is)
    (case a_check_family => as_aux_lemma => k_is)
    (case l_check_family => as_aux_lemma => k_is)
    (case c_check_family => as_aux_lemma => k_is)
    (case k_check_family => as_aux_lemma => k_is)
    (case a_first_words => as_aux_lemma => k_is)
    (case l_first_words => as_aux_lemma => k_is)
    (case c_first_words => as_aux_lemma => k_is)
    (case k_first_words => as_aux_lemma => k_is)
    (case a_reached => as_aux_lemma => k_is)
    (case l_reached => as_aux_lemma => k_is)
    (case c_reached => as_aux_lemma => k_is)
    (case k_reached => as_aux_lemma => k_is)
    (case a_path => as_aux_lemma => k_is)
    (case l_path => as_aux_lemma => k_is)
    (case c_path => as_aux_lemma => k_is)
    (case k_path => as_aux_lemma => k_is)
    (case a_orbits => as_aux_lemma => k_is)
    (case l_orbits => as_aux_lemma => k_is)
    (case c_orbits => as_aux_lemma => k_is)
    (case k_orbits => as_aux_lemma => k_is)
    (case a_l_hand => as_aux_lemma => k_is)
    (case l_l_hand => as_aux_lemma => k_is)
    (case c_l_hand => as_aux_lemma => k_is)
    (case k_l_hand => as_aux_lemma => k_is)
    (case a_l_draw => as_aux_lemma => k_is)
    (case l_l_draw => as_aux_lemma => k_is)
    (case c_l_draw => as_aux_lemma => k_is)
    (case k_l_draw => as_aux_lemma => k_is)
    (case a_l_arrows => as_aux_lemma => k_is)
    (case l_l_arrows => as_aux_lemma => k_is)
    (case c_l_arrows => as_aux_lemma => k_is)
    (case k_l_arrows => as_aux_lemma => k_is)
    (case a_l_family => as_aux_lemma => k_is)
    (case l_l_family => as_aux_lemma => k_is)
    (case c_l_family => as_aux_lemma => k_is)
    (case k_l_family => as_aux_lemma => k_is)
    (case a_l_few => as_aux_lemma => k_is)
    (case l_l_few => as_aux_lemma => k_is)
    (case c_l_few => as_aux_lemma => k_is)
    (case k_l_few => as_aux_lemma => k_is)
    (case a_l_search => as_aux_lemma => k_is)
    (case l_l_search => as_aux_lemma => k_is)
    (case c_l_search => as_aux_lemma => k_is)
    (case k_l_search => as_aux_lemma => k_is)
    (case a_l_classes => as_aux_lemma => k_is)
    (case l_l_classes => as_aux_lemma => k_is)
    (case c_l_classes => as_aux_lemma => k_is)
    (case k_l_classes => as_aux_lemma => k_is)
    (case a_l_right => as_aux_lemma => k_is)
    (case l_l_right => as_aux_lemma => k_is)
    (case c_l_right => as_aux_lemma => k_is)
    (case k_l_right => as_aux_lemma => k_is)
    (case a_l_great => as_aux_lemma => k_is)
    (case l_l_great => as_aux_lemma => k_is)
    (case c_l_great => as_aux_lemma => k_is)
    (case k_l_great => as_aux_lemma => k_is)
    (case a_law => as_aux_lemma => k_is)
    (case l_law => as_aux_lemma => k_is)
    (case c_law => as_aux_lemma => k_is)
    (case k_law => as_aux_lemma => k_is)
    (case a_Map => as_aux_lemma => k_is)
    (case pg_Map => as_aux_lemma => k_is)
    (case hd_Map => as_aux_lemma => k_is)
    (case po_Map => as_aux_lemma => k_is)
    (case sa_Map => as_aux_lemma => k_is)
    (case sf_Map => as_aux_lemma => k_is)
    (case ca_Map => as_aux_lemma => k_is)
    (case cn_Map => as_aux_lemma => k_is)
    (case ct_Map => as_aux_lemma => k_is)
    (case cm_Map => as_aux_lemma => k_is)
    (case kc_Map => as_aux_lemma => k_is)
    (case kit_int_Map => as_aux_lemma => kernel_rfl)
    (case kit_bool_Map => as_aux_lemma => kernel_rfl)
    (case kn_NoneType_Map => as_aux_lemma => kernel_rfl)
    (case nf_NoneType_Map => as_aux_lemma => kernel_rfl)
    (case kn_int_Map => as_aux_lemma => kernel_rfl)
    (case nf_int_Map => as_aux_lemma => kernel_rfl)
    (case kn_bool_Map => as_aux_lemma => kernel_rfl)
    (case nf_bool_Map => as_aux_lemma => kernel_rfl)
    (case kn_str_Map => as_aux_lemma => kernel_rfl)
    (case nf_str_Map => as_aux_lemma => kernel_rfl)
    (case kn_list_Map => as_aux_lemma => kernel_rfl)
    (case nf_list_Map => as_aux_lemma => kernel_rfl)
    (case kn_dict_Map => as_aux_lemma => kernel_rfl)
    (case nf_dict_Map => as_aux_lemma => kernel_rfl)
    (case kn_tuple_Map => as_aux_lemma => kernel_rfl)
    (case nf_tuple_Map => as_aux_lemma => kernel_rfl)
    (case self_Map => as_aux_lemma => kernel_rfl)
    (case na_own_size_Map => as_aux_lemma => k_is)
    (case na_own_arrows_Map => as_aux_lemma => k_is)
    (case m_Map__init => as_aux_lemma => k_is)
    (case i_Map__init => as_aux_lemma => k_is)
    (case l_Map__init => as_aux_lemma => k_is)
    (case c_Map__init => as_aux_lemma => k_is)
    (case k_Map__init => as_aux_lemma => k_is)
    (case mk_Map => as_aux_lemma => k_is)
    (case m_Map_size => as_aux_lemma => k_is)
    (case s_get_Map_size => as_aux_lemma => k_is)
    (case tk_Map_size => as_aux_lemma => k_is)
    (case rc_Map_size => as_aux_lemma => k_is)
    (case l_Map_size => as_aux_lemma => k_is)
    (case c_Map_size => as_aux_lemma => k_is)
    (case k_Map_size => as_aux_lemma => k_is)
    (case m_Map_arrows => as_aux_lemma => k_is)
    (case s_get_Map_arrows => as_aux_lemma => k_is)
    (case tk_Map_arrows => as_aux_lemma => k_is)
    (case rc_Map_arrows => as_aux_lemma => k_is)
    (case l_Map_arrows => as_aux_lemma => k_is)
    (case c_Map_arrows => as_aux_lemma => k_is)
    (case k_Map_arrows => as_aux_lemma => k_is)
    (case m_Map__invert => as_aux_lemma => k_is)
    (case i_Map__invert => as_aux_lemma => k_is)
    (case l_Map__invert => as_aux_lemma => k_is)
    (case c_Map__invert => as_aux_lemma => k_is)
    (case k_Map__invert => as_aux_lemma => k_is)
    (case a_Family => as_aux_lemma => k_is)
    (case pg_Family => as_aux_lemma => k_is)
    (case hd_Family => as_aux_lemma => k_is)
    (case po_Family => as_aux_lemma => k_is)
    (case sa_Family => as_aux_lemma => k_is)
    (case sf_Family => as_aux_lemma => k_is)
    (case ca_Family => as_aux_lemma => k_is)
    (case cn_Family => as_aux_lemma => k_is)
    (case ct_Family => as_aux_lemma => k_is)
    (case cm_Family => as_aux_lemma => k_is)
    (case kc_Family => as_aux_lemma => k_is)
    (case kit_int_Family => as_aux_lemma => kernel_rfl)
    (case kit_bool_Family => as_aux_lemma => kernel_rfl)
    (case kn_NoneType_Family => as_aux_lemma => kernel_rfl)
    (case nf_NoneType_Family => as_aux_lemma => kernel_rfl)
    (case kn_int_Family => as_aux_lemma => kernel_rfl)
    (case nf_int_Family => as_aux_lemma => kernel_rfl)
    (case kn_bool_Family => as_aux_lemma => kernel_rfl)
    (case nf_bool_Family => as_aux_lemma => kernel_rfl)
    (case kn_str_Family => as_aux_lemma => kernel_rfl)
    (case nf_str_Family => as_aux_lemma => kernel_rfl)
    (case kn_list_Family => as_aux_lemma => kernel_rfl)
    (case nf_list_Family => as_aux_lemma => kernel_rfl)
    (case kn_dict_Family => as_aux_lemma => kernel_rfl)
    (case nf_dict_Family => as_aux_lemma => kernel_rfl)
    (case kn_tuple_Family => as_aux_lemma => kernel_rfl)
    (case nf_tuple_Family => as_aux_lemma => kernel_rfl)
    (case self_Family => as_aux_lemma => kernel_rfl)
    (case na_own_maps_Family => as_aux_lemma => k_is)
    (case m_Family__init => as_aux_lemma => k_is)
    (case i_Family__init => as_aux_lemma => k_is)
    (case l_Family__init => as_aux_lemma => k_is)
    (case c_Family__init => as_aux_lemma => k_is)
    (case k_Family__init => as_aux_lemma => k_is)
    (case mk_Family => as_aux_lemma => k_is)
    (case m_Family_maps => as_aux_lemma => k_is)
    (case s_get_Family_maps => as_aux_lemma => k_is)
    (case tk_Family_maps => as_aux_lemma => k_is)
    (case rc_Family_maps => as_aux_lemma => k_is)
    (case l_Family_maps => as_aux_lemma => k_is)
    (case c_Family_maps => as_aux_lemma => k_is)
    (case k_Family_maps => as_aux_lemma => k_is)
    (case m_Family_size => as_aux_lemma => k_is)
    (case s_get_Family_size => as_aux_lemma => k_is)
    (case tk_Family_size => as_aux_lemma => k_is)
    (case rc_Family_size => as_aux_lemma => k_is)
    (case l_Family_size => as_aux_lemma => k_is)
    (case c_Family_size => as_aux_lemma => k_is)
    (case k_Family_size => as_aux_lemma => k_is)
    (case m_Family__add => as_aux_lemma => k_is)
    (case i_Family__add => as_aux_lemma => k_is)
    (case l_Family__add => as_aux_lemma => k_is)
    (case c_Family__add => as_aux_lemma => k_is)
    (case k_Family__add => as_aux_lemma => k_is)
    (case a_InvalidMap => as_aux_lemma => k_is)
    (case xl_InvalidMap => as_aux_lemma => k_is)
    (case sa_InvalidMap => as_aux_lemma => k_is)
    (case ex_InvalidMap => as_aux_lemma => k_is)
    (case ty_InvalidMap => as_aux_lemma => k_is)
    (case kc_InvalidMap => as_aux_lemma => k_is)
    (case hd_InvalidMap => as_aux_lemma => k_is)
    (case ga_InvalidMap => as_aux_lemma => k_is)
    (case gg_InvalidMap => as_aux_lemma => k_is)
    (case ss_InvalidMap => as_aux_lemma => k_is)
    (case ca_InvalidMap => as_aux_lemma => k_is)
    (case cn_InvalidMap => as_aux_lemma => k_is)
    (case ct_InvalidMap => as_aux_lemma => k_is)
    (case cm_InvalidMap => as_aux_lemma => k_is)
    (case kit_ValueError_InvalidMap => as_aux_lemma => kernel_rfl)
    (case na_part_InvalidMap => as_aux_lemma => k_is)
    (case m_InvalidMap__init => as_aux_lemma => k_is)
    (case ti_InvalidMap__init => as_aux_lemma => k_is)
    (case l_InvalidMap__init => as_aux_lemma => k_is)
    (case c_InvalidMap__init => as_aux_lemma => k_is)
    (case k_InvalidMap__init => as_aux_lemma => k_is)
    (case a_SizeMismatch => as_aux_lemma => k_is)
    (case xl_SizeMismatch => as_aux_lemma => k_is)
    (case sa_SizeMismatch => as_aux_lemma => k_is)
    (case ex_SizeMismatch => as_aux_lemma => k_is)
    (case ty_SizeMismatch => as_aux_lemma => k_is)
    (case kc_SizeMismatch => as_aux_lemma => k_is)
    (case hd_SizeMismatch => as_aux_lemma => k_is)
    (case ga_SizeMismatch => as_aux_lemma => k_is)
    (case gg_SizeMismatch => as_aux_lemma => k_is)
    (case ss_SizeMismatch => as_aux_lemma => k_is)
    (case ca_SizeMismatch => as_aux_lemma => k_is)
    (case cn_SizeMismatch => as_aux_lemma => k_is)
    (case ct_SizeMismatch => as_aux_lemma => k_is)
    (case cm_SizeMismatch => as_aux_lemma => k_is)
    (case kit_ValueError_SizeMismatch => as_aux_lemma => kernel_rfl)
    (case na_first_SizeMismatch => as_aux_lemma => k_is)
    (case na_second_SizeMismatch => as_aux_lemma => k_is)
    (case m_SizeMismatch__init => as_aux_lemma => k_is)
    (case ti_SizeMismatch__init => as_aux_lemma => k_is)
    (case l_SizeMismatch__init => as_aux_lemma => k_is)
    (case c_SizeMismatch__init => as_aux_lemma => k_is)
    (case k_SizeMismatch__init => as_aux_lemma => k_is)
    (case a_InvalidElement => as_aux_lemma => k_is)
    (case xl_InvalidElement => as_aux_lemma => k_is)
    (case sa_InvalidElement => as_aux_lemma => k_is)
    (case ex_InvalidElement => as_aux_lemma => k_is)
    (case ty_InvalidElement => as_aux_lemma => k_is)
    (case kc_InvalidElement => as_aux_lemma => k_is)
    (case hd_InvalidElement => as_aux_lemma => k_is)
    (case ga_InvalidElement => as_aux_lemma => k_is)
    (case gg_InvalidElement => as_aux_lemma => k_is)
    (case ss_InvalidElement => as_aux_lemma => k_is)
    (case ca_InvalidElement => as_aux_lemma => k_is)
    (case cn_InvalidElement => as_aux_lemma => k_is)
    (case ct_InvalidElement => as_aux_lemma => k_is)
    (case cm_InvalidElement => as_aux_lemma => k_is)
    (case kit_ValueError_InvalidElement => as_aux_lemma => kernel_rfl)
    (case na_value_InvalidElement => as_aux_lemma => k_is)
    (case m_InvalidElement__init => as_aux_lemma => k_is)
    (case ti_InvalidElement__init => as_aux_lemma => k_is)
    (case l_InvalidElement__init => as_aux_lemma => k_is)
    (case c_InvalidElement__init => as_aux_lemma => k_is)
    (case k_InvalidElement__init => as_aux_lemma => k_is)
    (case a_LimitExceeded => as_aux_lemma => k_is)
    (case xl_LimitExceeded => as_aux_lemma => k_is)
    (case sa_LimitExceeded => as_aux_lemma => k_is)
    (case ex_LimitExceeded => as_aux_lemma => k_is)
    (case ty_LimitExceeded => as_aux_lemma => k_is)
    (case kc_LimitExceeded => as_aux_lemma => k_is)
    (case hd_LimitExceeded => as_aux_lemma => k_is)
    (case ga_LimitExceeded => as_aux_lemma => k_is)
    (case gg_LimitExceeded => as_aux_lemma => k_is)
    (case ss_LimitExceeded => as_aux_lemma => k_is)
    (case ca_LimitExceeded => as_aux_lemma => k_is)
    (case cn_LimitExceeded => as_aux_lemma => k_is)
    (case ct_LimitExceeded => as_aux_lemma => k_is)
    (case cm_LimitExceeded => as_aux_lemma => k_is)
    (case kit_OverflowError_LimitExceeded => as_aux_lemma => kernel_rfl)
    (case na_limit_LimitExceeded => as_aux_lemma => k_is)
    (case m_LimitExceeded__init => as_aux_lemma => k_is)
    (case ti_LimitExceeded__init => as_aux_lemma => k_is)
    (case l_LimitExceeded__init => as_aux_lemma => k_is)
    (case c_LimitExceeded__init => as_aux_lemma => k_is)
    (case k_LimitExceeded__init => as_aux_lemma => k_is)
    (case z_isinstance => as_aux_lemma => k_is)
    (case z_int => as_aux_lemma => k_is)
    (case z_bool => as_aux_lemma => k_is)
    (case z_dict => as_aux_lemma => k_is)
    (case z_len => as_aux_lemma => k_is)
    (case z_range => as_aux_lemma => k_is)
    (case z_list => as_aux_lemma => k_is)
    (case z_tuple => as_aux_lemma => k_is)
    (case z_max => as_aux_lemma => k_is)
    (case z_min => as_aux_lemma => k_is)
    (case z_enumerate => as_aux_lemma => k_is)
    (case z_repr => as_aux_lemma => k_is)
    (case v_MAX_SIZE => as_aux_lemma => k_is)
    (case v_MOST_MAPS => as_aux_lemma => k_is)
    (case kit_x_Map_Family => as_aux_lemma => kernel_rfl)
