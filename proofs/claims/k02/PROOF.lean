import PyProof.Rows.All
import Wide.All
import OpenK.AllK
import Wide.FinOn
import HandS.ForMost
import HandS.ForExc
import HandS.IsInst
import HandS.More
import HandS.SlotsOwn
import HandS.Property
import HandS.ClsMeth
import HandS.DictComp
import HandS.Conv
import HandS.Walk
import HandS.NoneIn
import HandS.CallLocal
import HandS.Star
import HandS.ExcInit
import HandS.ExcField
import HandS.ExcIs
import KE.KExcInit
import KE.KExcIs
import HandS.WordsExc
import HandS.ListItems
import HandS.Style
import HandS.TryMany
import HandS.RaiseMore
import HandS.FStr
import HandS.HotCalls
import KE.KItemsList
import KE.KOpsOwn
import HandS.OwnEq
import HandS.Lambda
import HandS.EndTab
import KE.KNestM
import HandS.Deep
import HandS.Nested
import KE.KSuper
import PySem.Challenge.RW_chainmaps_k02_made_maps
import HandS.Zip
import KE.KDictZip
import HandS.TupAny
import HandS.Small
import KE.OsRunLaw
set_option Elab.async false
set_option linter.all false
set_option maxRecDepth 100000
set_option maxHeartbeats 4000000
namespace PySem.W
open PySem PySem.Calls PyProof.Rows
end PySem.W
namespace U
open PySem PySem.Spec PyProof.Rows L2
/-- what is asked of a plain own class -/
structure OwnC (K : PySem.W.Frag) (C : Addr) : Prop where
  cl : Cls K C
  sf : PySem.W.selfFirst K C = true
  ca : PySem.W.findIn K (.ref C) "__class__" = some (some (.builtin "object.__class__"))
  cn : PySem.W.specialIn K (.builtin "object.__class__") "__get__" = some (some (.builtin "getset_descriptor.__get__"))
  ct : PySem.W.takesIn K (.builtin "object.__class__") = some true
  cm : PySem.W.mroIn K C (.type "object") = some true
section
variable {X : Cx} {CX : CXT} {pins : List (Addr × Obj)} {σ : L2.St} {H : Hp} {s : Shared} {a C dx p g : Addr} {f : Str} {n : Nat} {sp : Sp} {E : XK} {v : V} {u : Value}
theorem ins_inst (I : Inv X pins σ H s) {fs : List (Str × V)} (ea : H a = some (.ins C dx fs)) : ∃ ox od, PySem.W.InstAt s.heap a ox C (some od) := by
  obtain ⟨mA, O, _⟩ := ins_get I.hok ea
  obtain ⟨od, J, _⟩ := O.look
  exact ⟨_, od, J⟩
end
end U
namespace U
open PySem PySem.Spec PyProof.Rows L2 StX
/-! ### a def of the text, with how its arguments bind -/
structure FnAt (K : PySem.W.Frag) (x qual : Str) (st : Stmt) (f : Addr) (ps : List Str) : Prop where
  ex : ∃ fd, Fun K x qual st f fd ∧ Binds K fd ps []
theorem FnAt.kp {K : PySem.W.Frag} {x qual : Str} {st : Stmt} {f : Addr} {ps : List Str} (A : FnAt K x qual st f ps) : PySem.W.keepIn K (.ref f) = true := by
  obtain ⟨fd, F, _⟩ := A.ex
  exact F.kp
section
variable {P : Program} {w : World} {K : PySem.W.Frag} {mg : Str → Option Value} {base : Heap}
theorem FnAt.ok {x qual : Str} {st : Stmt} {f : Addr} {N ps : List Str} {k : Nat} {sp : Sp} (A : FnAt K x qual st f ps) (S : FnScope N ps (defScope st)) (len : ∀ vs H Q E, sp vs H Q E → vs.length = ps.length)
    (hbody : ∀ (cdv : Value) (A : Around) (outer : List Env) (s : Shared) (H : Hp) (vs : List V) (Q : VK) (E : XK), Room k (A.deeper (envOfC qual (defScope st) s.heap.objs.size f cdv)) → sp vs H Q E →
      ∃ t, PSs (cxOf CX0 P w K mg base N qual (defScope st) f cdv A outer s H E).nox (defBody st) t ∧ t { nx := fun _ H' => Q .non H', rt := Q } (start N vs) H) : FnR P w K mg base CX0 (k + 1) f sp := by
  obtain ⟨fd, F, B⟩ := A.ex
  have R := (F.ok (P := P) (w := w) (mg := mg) (base := base) S len hbody).raw B .nil
  exact R.imp fun vs H Q E h => by rw [List.append_nil]; exact h
/-- a def that raises nothing, where exceptions are told -/
theorem fnR_any {CX : CXT} {k : Nat} {f : Addr} {sp : Sp} (F : FnR P w K mg base CX0 k f sp) : FnR P w K mg base CX k f sp := by
  intro A outer s H us vs Q E hr e0 r h
  refine codeAny_mono (F A outer s H us vs Q E hr e0 r h) fun r s' hq => ?_
  cases r with
  | error e => exact False.elim hq
  | ok fl => cases fl <;> exact hq
end
section
variable {X : Cx} {CX : CXT} {k i : Nat} {f C p g a dx : Addr} {sp : Sp} {E : XK} {x fl : Str} {e o : Expr} {es : List Expr} {ta te tf : TE} {t : TA} {pp pos : Pos} {fs : List (Str × V)}
/-- x(e, ..), x a def of the module -/
def tCallR (sp : Sp) (E : XK) (t : TA) : TE := fun σ H Q => t σ H fun vs H1 => sp vs H1 Q E
theorem pe_callR (F : FnR X.prog X.w X.K X.mg X.base CX k f sp) (hr : Room k X.A) (hk : PySem.W.keepIn X.K (.ref f) = true) (hg : Gl X x) (hm : X.mg x = some (.ref f)) (hx : Passes CX X E) (ha : PA X (e :: es) t) (hdb : (x == ("__debug__" : Str)) = false := by decide)
    (he : starEach (e :: es) X.env = (false, eval e X.env) :: starEach es X.env := by rfl) (hpl : (backTo pos (starEach es X.env)).any (·.1) = false := by rfl) : PE X (.Call (.Name x pp) (e :: es) [] pos) (tCallR sp E t) := by
  refine ⟨fun pins s σ H Q I h => ?_⟩
  refine wpAny_Call_Name_kw (ld_glob I hg hm ?_ hdb)
  refine PySem.W.callWith_K (h₀ := X.base) I.ok.mod.kin hk (thn (ha.run pos pins s σ H _ I h) fun us s1 ⟨vs, H1, I1, r, q⟩ => ⟨I1.kIn, ?_⟩) he hpl
  exact wpAny_call (run_fnR F hr hx I1 r q)
/-- e.f, a property -/
def tPropR (C : Addr) (sp : Sp) (ta : TE) : TE := fun σ H Q => ta σ H fun x H1 => ∃ a dx fs, x = .ref a ∧ H1 a = some (.ins C dx fs) ∧ sp [.ref a] H1 Q E0
theorem pe_propR (he : PE X e ta) (c : Cls X.K C) (hp : PropOf X.K C fl p g) (F : FnR X.prog X.w X.K X.mg X.base CX0 k g sp) (hr : Room (k + 1) X.A)
    (hab : attributeBase e fl X.env (eval e X.env) = eval e X.env := by rfl) : PE X (.Attribute e fl pos) (tPropR C sp ta) := by
  refine ⟨fun pins s σ H Q I h => ?_⟩
  refine attr_of hab (thn (he.run pins s σ H _ I h) fun u s1 ⟨x, H1, I1, rx, a, dx, fs, ex, ea, q⟩ => ?_)
  subst ex
  obtain rfl : u = Value.ref a := rx
  obtain ⟨mA, O, _, _, _, _⟩ := ins_get I1.hok ea
  obtain ⟨od, J, _⟩ := O.look
  obtain ⟨rest, hrec⟩ := hp.rec_
  have I2 := I1.tok (s1.toks + 1)
  have hc : (PySem.W.clsIn X.K C).isSome = true := by
    obtain ⟨cd, hc, _⟩ := PySem.W.any_some c.hd
    rw [hc]
    rfl
  refine PySem.W.get_bind I1.kIn J (PySem.W.plainGet_of (c.get fl)).1 (PySem.W.findObj_data hc hp.at_ hp.get hp.tak) (PySem.W.plainGet_of (c.get fl)).2 (wpAny_call (PySem.W.prop_get (s := { s1 with toks := s1.toks + 1 }) I1.kIn hrec ?_))
  refine codeAny_mono (F X.A.in1 X.stack { s1 with toks := s1.toks + 1 } H1 [.ref a] [.ref a] Q E0 hr.in1 I2.env0.in1 (.cons rfl .nil) q) fun r s' hq => ?_
  cases r with
  | error er => exact False.elim hq
  | ok fl =>
    cases fl with
    | ret u =>
      obtain ⟨v, H', I3, rv, q3⟩ := I2.after hq
      show wpAny _ _ (handedOut u) _ _ _
      rw [PySem.W.handedOut_of (handed_of rv)]
      exact wpAny_pure ⟨v, H', I3, rv, q3⟩
    | next => exact False.elim hq
    | brk => exact False.elim hq
    | cont => exact False.elim hq
/-- x(..), x a local that holds the class at C -/
def tMakeL (i : Nat) (C : Addr) (sp : Sp) (E : XK) (t : TA) : TE := fun σ H Q => σ[i]? = some (some (.ref C)) ∧ tMakeR C sp E t σ H Q
theorem pe_makeL (M : Mk X.K C f) (F : FnR X.prog X.w X.K X.mg X.base CX k f sp) (hr : Room (k + 1) X.A) (hN : X.N[i]? = some x) (hv : Vis X.env.scope x) (hx : Passes CX X E) (ha : PA X (e :: es) t) (hdb : (x == ("__debug__" : Str)) = false := by decide)
    (hcd : (x == ("__classdict__" : Str)) = false := by decide)
    (he : starEach (e :: es) X.env = (false, eval e X.env) :: starEach es X.env := by rfl) (hpl : (backTo pos (starEach es X.env)).any (·.1) = false := by rfl) : PE X (.Call (.Name x pp) (e :: es) [] pos) (tMakeL i C sp E t) := by
  refine ⟨fun pins s σ H Q I h => ?_⟩
  obtain ⟨hs, ht⟩ := h
  refine wpAny_Call_Name_kw (thn ((pe_var (pos := pp) hN hv hdb hcd).run pins s σ H (fun v H1 => v = .ref C ∧ H1 = H) I ⟨.ref C, hs, rfl, rfl⟩) fun u s1 ⟨v, H1, I1, r1, q1⟩ => ?_)
  obtain ⟨rfl, rfl⟩ := q1
  cases r1
  refine PySem.W.callWith_K (h₀ := X.base) I.ok.mod.kin M.kp (thn (ha.run pos pins s1 σ _ _ I1 ht) fun us s2 ⟨vs, H2, I2, r, q⟩ => ⟨I2.kIn, ?_⟩) he hpl
  exact run_makeR M F hr hx I2 r q
end
theorem ifD {c : Prop} [Decidable c] {A B : Prop} (h1 : c → A) (h2 : ¬ c → B) : if decide c = true then A else B := by
  by_cases h : c
  · rw [if_pos (decide_eq_true h)]; exact h1 h
  · rw [if_neg (by simp [h])]; exact h2 h
theorem ifB {c : Bool} {A B : Prop} (h1 : c = true → A) (h2 : c = false → B) : if c = true then A else B := by
  cases c with
  | true => rw [if_pos rfl]; exact h1 rfl
  | false => rw [if_neg Bool.false_ne_true]; exact h2 rfl
theorem ifNB {c : Bool} {A B : Prop} (h1 : c = false → A) (h2 : c = true → B) : if (!c) = true then A else B := by
  cases c with
  | true => exact iteF (h2 rfl)
  | false => exact iteT (h1 rfl)
end U
namespace U
open PySem PySem.Spec PyProof.Rows L2
/-- the ints' dicts compared -/
def dEq (ks ls : List (Key × V)) : Bool := ks.length == ls.length && ks.all fun p => decide (valV ls p.1 = some p.2)
def IntVals (ks : List (Key × V)) : Prop := ∀ p ∈ ks, ∃ i : Int, p.2 = .int i
theorem valV_mem {ls : List (Key × V)} {k : Key} {v : V} (h : valV ls k = some v) : ∃ p ∈ ls, p.2 = v := by
  unfold valV at h
  cases e : ls.find? (fun kv => decide (kv.1 = k)) with
  | none => rw [e] at h; cases h
  | some p =>
    rw [e] at h
    exact ⟨p, List.mem_of_find?_eq_some e, Option.some.inj h⟩
theorem hits_int {A : Around} {s : Shared} {ls : List (Key × V)} {vb : List (Key × Value)} (rb : KV ls vb) (il : IntVals ls) {ks : List (Key × V)} {va : List (Key × Value)} (ra : KV ks va) :
    IntVals ks → PySem.W.KeqHits A s vb va (ks.all fun p => decide (valV ls p.1 = some p.2)) := by
  unfold KV at ra
  induction ra with
  | nil => intro _; exact .nil
  | @cons p q ps qs h t ih =>
    intro hp
    obtain ⟨h1, h2⟩ := h
    obtain ⟨i, ei⟩ := hp p List.mem_cons_self
    obtain ⟨k, v⟩ := q
    have h1' : p.1 = k := h1
    subst h1'
    rw [ei] at h2
    obtain ⟨tk, ev⟩ := (show ∃ tk, v = Value.int i tk from h2)
    subst ev
    have rr : RelO (valV ls p.1) (valueAt vb p.1) := rb.val p.1
    rw [List.all_cons]
    cases e : valV ls p.1 with
    | none =>
      rw [e] at rr
      cases e2 : valueAt vb p.1 with
      | none => exact .miss e2
      | some y => rw [e2] at rr; exact rr.elim
    | some z =>
      rw [e] at rr
      obtain ⟨y, hy, ry⟩ := rr.some_of
      obtain ⟨p', hm, ep⟩ := valV_mem e
      obtain ⟨j, ej⟩ := il p' hm
      rw [ej] at ep
      subst ep
      obtain ⟨tk', ey⟩ := (show ∃ tk, y = Value.int j tk from ry)
      subst ey
      have b : decide (some (V.int j) = some p.2) = (i == j) := by
        rw [ei]
        by_cases h : i = j
        · subst h; simp
        · have h' : ¬ j = i := fun z => h z.symm
          simp [h, h']
      rw [b]
      exact .hit hy (SeqAt.EqAt.int_int i _ j _) (ih fun p' hm => hp p' (List.mem_cons_of_mem _ hm))
section
variable {X : Cx}
def rEqD : R2 := fun x y H Q => ∃ a b ks ls, x = .ref a ∧ y = .ref b ∧ H a = some (.dK ks) ∧ H b = some (.dK ls) ∧ IntVals ks ∧ IntVals ls ∧ Q (.bl (dEq ks ls)) H
def rNeD : R2 := fun x y H Q => ∃ a b ks ls, x = .ref a ∧ y = .ref b ∧ H a = some (.dK ks) ∧ H b = some (.dK ls) ∧ IntVals ks ∧ IntVals ls ∧ Q (.bl (!dEq ks ls)) H
theorem op_eqDI (hu : X.A.units < cLine) : OpR X (compareOp .Eq) rEqD := by
  intro pins s σ H x y v u Q I rx ry h
  obtain ⟨a, b, ks, ls, rfl, rfl, ea, eb, i1, i2, q⟩ := h
  cases (show v = Value.ref a from rx)
  cases (show u = Value.ref b from ry)
  obtain ⟨_, ya, va, ra, da⟩ := (show ObjOk X.prog X.w H s.heap a (.dK ks) from I.hok a _ ea)
  obtain ⟨_, yb, vb, rb, db⟩ := (show ObjOk X.prog X.w H s.heap b (.dK ls) from I.hok b _ eb)
  refine PySem.W.keq_eq (knd := mixKind X.prog X.w) ya yb da db hu (fun _ => hits_int rb i2 ra i1) (fin_bl I q ?_)
  unfold dEq
  rw [ra.length, rb.length]
theorem op_neDI (hu : X.A.units < cLine) : OpR X (compareOp .NotEq) rNeD := by
  intro pins s σ H x y v u Q I rx ry h
  obtain ⟨a, b, ks, ls, rfl, rfl, ea, eb, i1, i2, q⟩ := h
  cases (show v = Value.ref a from rx)
  cases (show u = Value.ref b from ry)
  obtain ⟨_, ya, va, ra, da⟩ := (show ObjOk X.prog X.w H s.heap a (.dK ks) from I.hok a _ ea)
  obtain ⟨_, yb, vb, rb, db⟩ := (show ObjOk X.prog X.w H s.heap b (.dK ls) from I.hok b _ eb)
  refine PySem.W.keq_ne (knd := mixKind X.prog X.w) ya yb da db hu (fun _ => hits_int rb i2 ra i1) (fin_bl I q ?_)
  unfold dEq
  rw [ra.length, rb.length]
end
end U
namespace U
open PySem PySem.Spec PyProof.Rows L2
/-! ### heaps -/
def Off (d : Addr) (H H' : Hp) : Prop := ∀ b o, b ≠ d → H b = some o → H' b = some o
theorem Same.new {H : Hp} {p : Addr} {o : HO} (h : H p = none) : L2.Same H (upd H p o) := fun b u e => by rw [upd_ne (ne_of_none e h)]; exact e
theorem Off.tr {d : Addr} {H H1 H2 : Hp} (a : Off d H H1) (b : Off d H1 H2) : Off d H H2 := fun c o hc e => b c o hc (a c o hc e)
theorem Off.lock {d : Addr} {H : Hp} {o : HO} : Off d H (upd H d o) := fun b u hb e => by rw [upd_ne hb]; exact e
theorem Off.new {d p : Addr} {H : Hp} {o : HO} (h : H p = none) : Off d H (upd H p o) := fun b u _ e => by rw [upd_ne (ne_of_none e h)]; exact e
theorem Off.free {d p : Addr} {H H' : Hp} {u : HO} (a : Off d H H') (hd : H' d = some u) (h : H' p = none) : H p = none := by
  cases e : H p with
  | none => rfl
  | some o =>
    by_cases hp : p = d
    · subst hp; rw [hd] at h; cases h
    · rw [a p o hp e] at h; cases h
theorem Off.back {d : Addr} {H H' : Hp} {u : HO} (a : Off d H H') (hd : H d = some u) : L2.Same H (upd H' d u) := fun b o e => by
  by_cases hb : b = d
  · subst hb; rw [hd] at e; cases e; exact upd_same
  · rw [upd_ne hb]; exact a b o hb e
/-- an object of the heap behind, that was not there ahead, may be changed -/
theorem Off.mut {d p : Addr} {H H' : Hp} {o : HO} (a : Off d H H') (h : H p = none) : Off d H (upd H' p o) := fun b u hb e => by rw [upd_ne (ne_of_none e h)]; exact a b u hb e
/-! ### a dict of ints -/
def kvI (l : List (Int × Int)) : List (Key × V) := l.map fun p => (Sum.inl p.1, V.int p.2)
theorem kvI_length (l : List (Int × Int)) : (kvI l).length = l.length := by simp [kvI]
def lk (l : List (Int × Int)) (x : Int) : Option Int := (l.find? fun p => decide (p.1 = x)).map (·.2)
theorem valV_kvI (l : List (Int × Int)) (x : Int) : valV (kvI l) (Sum.inl x : Key) = (lk l x).map V.int := by
  induction l with
  | nil => rfl
  | cons p r ih =>
    obtain ⟨a, b⟩ := p
    by_cases h : a = x
    · subst h
      rw [show kvI ((a, b) :: r) = (Sum.inl a, V.int b) :: kvI r from rfl, valV_pos rfl]
      simp [lk]
    · rw [show kvI ((a, b) :: r) = (Sum.inl a, V.int b) :: kvI r from rfl, valV_neg (fun z => h (Sum.inl.inj z)), ih]
      simp [lk, h]
theorem lk_none {l : List (Int × Int)} {x : Int} (h : x ∉ l.map (·.1)) : lk l x = none := by
  unfold lk
  rw [List.find?_eq_none.mpr]
  · rfl
  · intro p hp
    simp only [decide_eq_true_eq]
    exact fun e => h (List.mem_map.mpr ⟨p, hp, e⟩)
theorem lk_some {l : List (Int × Int)} (nd : (l.map (·.1)).Nodup) {x y : Int} (h : (x, y) ∈ l) : lk l x = some y := by
  induction l with
  | nil => cases h
  | cons p r ih =>
    obtain ⟨a, b⟩ := p
    rw [List.map_cons, List.nodup_cons] at nd
    rcases List.mem_cons.mp h with h | h
    · cases h; simp [lk]
    · have ne : ¬ a = x := fun z => nd.1 (by rw [z]; exact List.mem_map.mpr ⟨(x, y), h, rfl⟩)
      have := ih nd.2 h
      simpa [lk, ne] using this
theorem lk_mem {l : List (Int × Int)} {x y : Int} (h : lk l x = some y) : (x, y) ∈ l := by
  unfold lk at h
  cases e : l.find? (fun p => decide (p.1 = x)) with
  | none => rw [e] at h; cases h
  | some p =>
    rw [e] at h
    obtain ⟨a, b⟩ := p
    have h1 := List.find?_some e
    simp only [decide_eq_true_eq] at h1
    have h2 : b = y := Option.some.inj h
    subst h1 h2
    exact List.mem_of_find?_eq_some e
theorem intVals_kvI (l : List (Int × Int)) : IntVals (kvI l) := by
  intro p hp
  unfold kvI at hp
  obtain ⟨q, _, rfl⟩ := List.mem_map.mp hp
  exact ⟨q.2, rfl⟩
theorem putK_kvI {l : List (Int × Int)} {x y : Int} (h : x ∉ l.map (·.1)) : putK (kvI l) (Sum.inl x : Key) (V.int y) = kvI (l ++ [(x, y)]) := by
  have e : valV (kvI l) (Sum.inl x : Key) = none := by rw [valV_kvI, lk_none h]; rfl
  rw [putK_new _ e]
  simp [kvI]
theorem lk_append {l r : List (Int × Int)} {x : Int} : lk (l ++ r) x = (lk l x).or (lk r x) := by
  unfold lk
  rw [List.find?_append]
  cases l.find? (fun p => decide (p.1 = x)) <;> rfl
theorem lk_cons (a b : Int) (r : List (Int × Int)) (z : Int) : lk ((a, b) :: r) z = if a = z then some b else lk r z := by
  by_cases h : a = z <;> simp [lk, h]
theorem lk_mapOff (r : List (Int × Int)) (x y z : Int) (hz : ¬ z = x) : lk (r.map fun p => if p.1 = x then (p.1, y) else p) z = lk r z := by
  induction r with
  | nil => rfl
  | cons p r ih =>
    obtain ⟨a, b⟩ := p
    rw [List.map_cons]
    by_cases ha : a = x
    · subst ha
      have hz' : ¬ a = z := fun q => hz q.symm
      rw [if_pos rfl, lk_cons, lk_cons, if_neg hz', if_neg hz', ih]
    · rw [if_neg ha, lk_cons, lk_cons, ih]
theorem lk_mapPut {x y : Int} : ∀ (l : List (Int × Int)), x ∈ l.map (·.1) → ∀ z, lk (l.map fun p => if p.1 = x then (p.1, y) else p) z = if z = x then some y else lk l z
  | [], h, z => by cases h
  | (a, b) :: r, h, z => by
    by_cases hz : z = x
    · subst hz
      rw [if_pos rfl, List.map_cons]
      by_cases ha : a = z
      · subst ha
        rw [if_pos rfl, lk_cons, if_pos rfl]
      · rw [if_neg ha, lk_cons, if_neg ha]
        have h' : z ∈ r.map (·.1) := by
          rcases List.mem_cons.mp h with q | q
          · exact absurd q.symm ha
          · exact q
        rw [lk_mapPut r h' z, if_pos rfl]
    · rw [if_neg hz, lk_mapOff _ _ _ _ hz]
theorem putK_lk {l : List (Int × Int)} {x y : Int} : ∃ l', putK (kvI l) (Sum.inl x : Key) (V.int y) = kvI l' ∧ l'.length ≤ l.length + 1 ∧ ((l.map (·.1)).Nodup → (l'.map (·.1)).Nodup) ∧ ∀ z, lk l' z = if z = x then some y else lk l z := by
  by_cases h : x ∈ l.map (·.1)
  · refine ⟨l.map fun p => if p.1 = x then (p.1, y) else p, ?_, by simp, fun nd => ?_, fun z => ?_⟩
    · unfold putK
      rw [if_pos (by
        obtain ⟨p, hp, e⟩ := List.mem_map.mp h
        rw [List.any_eq_true]
        exact ⟨(Sum.inl p.1, V.int p.2), List.mem_map.mpr ⟨p, hp, rfl⟩, by simp [e]⟩)]
      unfold kvI
      rw [List.map_map, List.map_map]
      refine List.map_congr_left fun p _ => ?_
      by_cases e : p.1 = x
      · simp [e]
      · have e' : ¬ (Sum.inl p.1 : Key) = Sum.inl x := fun q => e (Sum.inl.inj q)
        simp [e]
    · have e : (l.map fun p => if p.1 = x then (p.1, y) else p).map (·.1) = l.map (·.1) := by
        rw [List.map_map]
        refine List.map_congr_left fun p _ => ?_
        by_cases e : p.1 = x <;> simp [e]
      rw [e]; exact nd
    · exact lk_mapPut l h z
  · refine ⟨l ++ [(x, y)], putK_kvI h, by simp, fun nd => ?_, fun z => ?_⟩
    · rw [List.map_append, List.nodup_append]
      refine ⟨nd, by simp, fun a ha b hb e => ?_⟩
      simp at hb
      subst hb
      exact h (e ▸ ha)
    · rw [lk_append]
      by_cases hz : z = x
      · subst hz; rw [lk_none h]; simp [lk]
      · have hz' : ¬ x = z := fun q => hz q.symm
        cases lk l z <;> simp [lk, hz, hz']
end U
namespace U
open PySem PySem.Spec PyProof.Rows L2
section
variable {J : It} {n : Nat} {G : Hp → Prop} {Y : Nat → Hp → V → Hp → Prop}
/-- a dict comprehension over a walk -/
theorem dc_it (w : Walk J n G Y) {g : TG} {tt : TT} {tk tv : TE} {vs : List Nat} {σ : L2.St} {H1 : Hp} {D : Addr} {Qd : Hp → Prop} (Pv : Nat → Hp → Prop) (h0 : Pv 0 (upd H1 D (.dK []))) (hG : ∀ i H, i ≤ n → Pv i H → G H)
    (hs : ∀ i x H H', i < n → Pv i H → Y i H x H' → g x (wipe σ vs) H' fun σ2 H2 => wipe σ2 vs = wipe σ vs ∧ tt σ2 H2 fun b H3 =>
      if b = true then tk σ2 H3 fun y H4 => tv σ2 H4 fun z H5 => ∃ kvs k, y = kV k ∧ H5 D = some (.dK kvs) ∧ kvs.length < sizeLine ∧ Pv (i + 1) (upd H5 D (.dK (putK kvs k z))) else Pv (i + 1) H3) (hd : ∀ H, Pv n H → Qd H) :
    ∃ W : Nat → Nat → Hp → Prop, (∃ m, W 0 m (upd H1 D (.dK []))) ∧ ∀ i m H, W i m H →
      (J.stop i H ∧ Qd H) ∨ (J.go i H ∧ ∃ Nx : Hp → Prop, (∀ H', Nx H' → ∃ m', m' < m ∧ W (i + 1) m' H') ∧ ∀ x H', J.yld i H x H' → g x (wipe σ vs) H' fun σ2 H2 => wipe σ2 vs = wipe σ vs ∧ tt σ2 H2 fun b H3 =>
        if b = true then tk σ2 H3 fun y H4 => tv σ2 H4 fun z H5 => ∃ kvs k, y = kV k ∧ H5 D = some (.dK kvs) ∧ kvs.length < sizeLine ∧ Nx (upd H5 D (.dK (putK kvs k z))) else Nx H3) := by
  refine ⟨fun i m H => m = n - i ∧ i ≤ n ∧ Pv i H, ⟨n, by simp, Nat.zero_le _, h0⟩, ?_⟩
  rintro i m H ⟨rfl, hi, p⟩
  have q := hG i H hi p
  by_cases hlt : i < n
  · exact .inr ⟨w.goes i H hlt q, Pv (i + 1), fun H' p' => ⟨n - (i + 1), by omega, rfl, hlt, p'⟩, fun x H' y => hs i x H H' hlt p (w.yields i H x H' hlt q y)⟩
  · have e : i = n := by omega
    subst e
    exact .inl ⟨w.stops H q, hd H p⟩
end
theorem take_more {α : Type} {l : List α} {i : Nat} {x : α} (h : l[i]? = some x) : l.take (i + 1) = l.take i ++ [x] := by
  rw [List.take_add_one, h]; rfl
theorem valV_none {kvs : List (Key × V)} {k : Key} (h : k ∉ kvs.map (·.1)) : valV kvs k = none := by
  unfold valV
  rw [List.find?_eq_none.mpr]
  · rfl
  · intro p hp
    simp only [decide_eq_true_eq]
    exact fun e => h (List.mem_map.mpr ⟨p, hp, e⟩)
/-- {k: v for x in range(lo, ..) if ..} -/
def madeR (c : Int → Bool) (kf : Int → Int) (vf : Int → V) (n : Nat) : List (Key × V) := ((List.range n).filter fun (i : Nat) => c (i : Int)).map fun (i : Nat) => ((Sum.inl (kf (i : Int)) : Key), vf (i : Int))
theorem madeR_succ (c : Int → Bool) (kf : Int → Int) (vf : Int → V) (n : Nat) : madeR c kf vf (n + 1) = madeR c kf vf n ++ (if c (n : Int) = true then [((Sum.inl (kf (n : Int)) : Key), vf (n : Int))] else []) := by
  unfold madeR
  rw [List.range_succ, List.filter_append, List.map_append]
  by_cases h : c (n : Int) = true
  · simp [h]
  · have h' : c (n : Int) = false := by simpa using h
    simp [h']
theorem madeR_len (c : Int → Bool) (kf : Int → Int) (vf : Int → V) (n : Nat) : (madeR c kf vf n).length ≤ n := by
  unfold madeR
  rw [List.length_map]
  exact Nat.le_trans (List.length_filter_le _ _) (by simp)
theorem madeR_keys {c : Int → Bool} {vf : Int → V} {n k : Nat} (h : (Sum.inl (k : Int) : Key) ∈ (madeR c (fun x => x) vf n).map (·.1)) : k < n := by
  unfold madeR at h
  rw [List.map_map] at h
  obtain ⟨i, hi, e⟩ := List.mem_map.mp h
  have h1 := (List.mem_filter.mp hi).1
  rw [List.mem_range] at h1
  have : (i : Int) = (k : Int) := Sum.inl.inj e
  omega
theorem dc_range {wi : TI} {i : Nat} {tt : TT} {tk tv : TE} {vs : List Nat} {σ : L2.St} {H0 H : Hp} {Q : VK} {n : Nat} (c : Int → Bool) (vf : Int → V) (hwi : ∀ R : It → Hp → Prop, R (Itr 0 n) H → wi σ H0 R)
    (hw : ∀ a, wipe ((wipe σ vs).set i a) vs = wipe σ vs)
    (hb : ∀ k : Nat, k < n → ∀ H1, L2.Same H H1 → (∀ R : Bool → Hp → Prop, R (c (k : Int)) H1 → tt ((wipe σ vs).set i (some (.int (0 + (k : Nat))))) H1 R) ∧
      (c (k : Int) = true → (∀ R : VK, R (.int (k : Int)) H1 → tk ((wipe σ vs).set i (some (.int (0 + (k : Nat))))) H1 R) ∧ ∀ R : VK, R (vf (k : Int)) H1 → tv ((wipe σ vs).set i (some (.int (0 + (k : Nat))))) H1 R))
    (hz : n < sizeLine) (hq : ∀ D H', H D = none → H' D = some (.dK (madeR c (fun x => x) vf n)) → L2.Same H H' → Q (.ref D) H') :
    tDc wi (gName i) tt tk tv vs σ H0 Q := by
  refine hwi _ ?_
  intro D hD
  refine dc_it walk_range (fun k H' => L2.Same H H' ∧ H' D = some (.dK (madeR c (fun x => x) vf k))) ⟨Same.new hD, upd_same⟩ (fun _ _ _ _ => trivial) ?_ ?_
  · rintro k v H' H'' hk ⟨p1, p2⟩ ⟨rfl, rfl⟩
    refine ⟨hw _, ?_⟩
    obtain ⟨b1, b2⟩ := hb k hk _ p1
    refine b1 _ ?_
    cases hc : c (k : Int) with
    | true =>
      refine iteT ?_
      obtain ⟨b3, b4⟩ := b2 hc
      refine b3 _ (b4 _ ⟨_, Sum.inl (k : Int), rfl, p2, Nat.lt_of_le_of_lt (madeR_len ..) (Nat.lt_trans hk hz), ?_, ?_⟩)
      · intro b o e
        rw [upd_ne (ne_of_none e hD)]
        exact p1 b o e
      · rw [upd_same, putK_new _ (valV_none fun z => Nat.lt_irrefl _ (madeR_keys z)), madeR_succ, if_pos hc]
    | false =>
      refine iteF ⟨p1, ?_⟩
      rw [madeR_succ, hc, p2]
      simp
  · rintro H' ⟨p1, p2⟩
    exact hq D _ hD p2 p1
end U
namespace U
open PySem PySem.Spec PyProof.Rows L2
section
variable {X : Cx}
theorem sw_dict {kx vx : Expr} {gs : List Comprehension} {scope : Scope} {pos py : Pos} {y : Str} {l : Nat} {env : Env} (hk : env.scope.kind = .function) (hy : env.scope.names.lookup y = some .local) (hl : (py.line == pos.line) = true)
    (ha : (scope.names.any fun (n, k) => n == y && (k == .local || k == .cell)) = false) : swapsWith (.DictComp kx vx gs scope pos) (some (.Name y py)) l env = pure true := by
  have ky : env.kindOf y = some .local := hy
  have hb : env.blockKind = .function := by unfold Env.blockKind; rw [hk]; rfl
  unfold swapsWith
  simp only [hb, ky, ha, Expr.pos, hl]
  rfl
/-- name = {..} on one line, the name a local -/
theorem ps_setDc {i : Nat} {y : Str} {py : Pos} {kx vx tg iter : Expr} {ifs : List Expr} {scope : Scope} {own : List (Str × Nat)} {pos spos : Pos} {wi : TI} {g : TG} {tt : TT} {tk tv : TE} (hc : X.calm = true) (hN : X.N.Nodup) (hy : X.N[i]? = some y) (hyl : X.env.scope.names.lookup y = some .local)
    (hsw : swapsWith (.DictComp kx vx [⟨tg, iter, ifs, 0⟩] scope pos) (some (.Name y py)) spos.line X.env = pure true) (hi : PI X tg iter wi) (ok : BlkOk X.N X.env.scope scope own)
    (hg : ∀ (s : Shared) (H : Hp) (C : Addr) (cl : List (Str × Addr)) (fp : List Addr), PG (X.blk s H scope (compEnvC scope cl C X.env) fp) tg g) (ht : ∀ (s : Shared) (H : Hp) (C : Addr) (cl : List (Str × Addr)) (fp : List Addr), PTs (X.blk s H scope (compEnvC scope cl C X.env) fp) ifs tt)
    (hk : ∀ (s : Shared) (H : Hp) (C : Addr) (cl : List (Str × Addr)) (fp : List Addr), PE (X.blk s H scope (compEnvC scope cl C X.env) fp) kx tk)
    (he : ∀ (s : Shared) (H : Hp) (C : Addr) (cl : List (Str × Addr)) (fp : List Addr), PE (X.blk s H scope (compEnvC scope cl C X.env) fp) vx tv) (hs : ∀ x, foldedSetIterable iter X.env x = pure x := by intro _; rfl) :
    PS X (.Assign [.Name y py] (.DictComp kx vx [⟨tg, iter, ifs, 0⟩] scope pos) spos) (tAsg (tDc wi g tt tk tv (own.map (·.2))) (gName i)) := by
  refine ⟨fun pins s σ H D I h => ?_⟩
  rw [exec_Assign_Name_used _ _ _ _ hsw]
  refine wpAny_bind (wpAny_standAt (wpAny_bind ?_))
  show wpAny _ X.A (do let _ ← comprehension (.DictComp kx vx [⟨tg, iter, ifs, 0⟩] scope pos) scope X.env (firstIterPos [⟨tg, iter, ifs, 0⟩] pos) newDict false (eval iter X.env) (some (assign (.Name y py) X.env))) _ _ s
  have h : tDc wi g tt tk tv (own.map (·.2)) σ H (fun x H1 => gName i x σ H1 D.nx) := h
  refine wpAny_bind (thn (dc_core (Qf := fun _ s' => SP X pins D .next s') hc hN I hi ok hg ht hk he hs h fun L C s' m H' I' q hn f => ?_) fun _ s' hq => wpAny_pure (wpAny_pure hq))
  show wpAny _ _ (assign (.Name y py) X.env (.ref L)) _ _ _
  refine wpAny_assign_Name (store_ok2 (v := V.ref L) I' hN hy (.inl hyl) rfl (fun s2 I2 ⟨a, sb, ha⟩ => ?_) (.inr hyl))
  obtain ⟨f0, f1, f2, f3, f4, f5⟩ := f
  have haC : C ≠ a := by
    rcases ha with z | z
    · rw [z]; exact f1
    · exact fun e => f4 y a z e.symm
  refine ⟨m, hn.sameBut sb haC, fun h3 sb3 => ?_⟩
  exact ⟨_, H', I2.turned (t' := s2.toks) (fun b o hb e => (sb3.2 b hb).trans e) f0 f1 f3 f4 f5, q⟩
end
end U
/-! ### own errors over any built-in error -/
namespace PySem
namespace GEX
open PySem.W PySem.Calls PyProof.Rows PySem.HandSPX Builtin Builtin.ObjectAttr
section
variable {prog : Program} {w : World} {A : Around} {E : Value → Shared → Prop} {R : Result → Shared → Prop} {hp : Heap} {gs : Array GenState} {dr : Drawn} {tn : Nat} {os : OsState}
/-- what is asked of the class's chain -/
structure Mro (m : List Value) : Prop where
  ob : m.contains (.type "object") = true
  ne : m.isEmpty = false
  ps : ∀ self : Value, refuseLoop self "__setattr__" m = pure ()
theorem mro_of {bmB bm : List Value} {B : String} (SF : StoreFacts B bmB "object.__setattr__" "object") (h : excTail bmB bm = true) (C : Addr) : Mro (.ref C :: bm) := by
  have h' : excTail bmB (.ref C :: bm) = true := h
  exact ⟨(excTail_contains "object" _ h').trans SF.hasOwner, rfl, fun self => excTail_pass self (SF.passes self) _ h'⟩
theorem osa_first {K : Frag} {nm : Str} {tk : Tok} {v : Value} {x C : Addr} {fv : Array Value} {cd : ClassData} (X : K.In hp) (hx : hp.get? x = some { cls := .ref C, data := .fields fv }) (hcd : clsIn K C = some cd) (hm : Mro cd.mro) (hh : cd.hasDict = true) (ha : findIn K (.ref C) nm = some none)
    (hq : ∀ h' tk' dx, (∀ b o, b ≠ x → hp.get? b = some o → h'.get? b = some o) → hp.objs.size ≤ dx → dx ≠ x → h'.get? x = some { cls := .ref C, dict := some dx, data := .fields fv } → h'.Ns1 dx (fun y => if y = nm then some v else none) → R (.ok (.ret .none)) ⟨h', gs, dr, tk', os⟩) :
    codeAny (model prog w) A (.call (.builtin "object.__setattr__") ⟨[.ref x, .str nm tk, v], []⟩) R ⟨hp, gs, dr, tn, os⟩ := by
  have I : InstAt hp x { cls := .ref C, data := .fields fv } C none := ⟨hx, rfl, rfl, trivial⟩
  have hxs : x ≠ hp.objs.size := Nat.ne_of_lt (Heap.lt_size hx)
  have S0 := F.store_object
  have l1 : Looks (model prog w) hp (isInstance (.ref x) (.type "object")) true := I.type.andThen (looks_mroIn X (by unfold mroIn; rw [hcd, Option.bind_some, if_neg (by rw [hm.ne]; decide), hm.ob]))
  refine codeAny_call_builtin S0.slot.plain S0.entry ?_
  refine @check_slot (model prog w) _ _ ⟨hp, gs, dr, tn, os⟩ "object.__setattr__" "object" "__setattr__" (.ref x) [.str nm tk, v] [] _ S0.kind S0.split l1 (S0.args (.ref x) (.str nm tk) v) ?_
  have l2 : Looks (model prog w) hp (mroOf (.ref C)) cd.mro := (looks_clsIn X hcd).andThen .now
  have l3 : Looks (model prog w) hp (storeTaker? none) none := .now
  have l4 : Looks (model prog w) hp (classData C) cd := looks_clsIn X hcd
  rw [osa_eq, refuse_eq]
  refine wpAny_bind (wpAny_bind (I.type.at (wpAny_bind (l2.at ?_)))); rw [hm.ps]
  refine wpAny_pure (wpAny_bind (I.type.at (wpAny_bind ((looks_findIn X ha).at (wpAny_bind (l3.at ?_))))))
  show wpAny _ _ (storeInOwnDict (.ref x) (.ref C) (.str nm tk) nm v false) _ _ _
  obtain ⟨c1, c2, c3, c4, c5, c6, c7, c8, c9, c10, c11⟩ := cd
  have hh' : c6 = true := hh
  subst hh'
  unfold storeInOwnDict ownDictForStores
  repeat (first | with_reducible refine HandSPX.store_in_new ?_ ?_ | with_reducible refine wpAny_loadPart_at hx ?_ | with_reducible refine l4.at ?_ | wp_step)
  · refine ⟨_, #[], _, (Heap.get?_update_ne _ _ _ _ hxs.symm).trans (Heap.get?_push_at rfl rfl), rfl, fun e he => ?_, fun _ => rfl⟩
    simp at he
  · intro h' tk' hn' hs
    have hx1 : (hp.push { cls := .type "dict", data := .dict #[] }).get? x = some { cls := .ref C, data := .fields fv } := Heap.get?_push_of_some _ hx
    exact hq h' tk' hp.objs.size (fun b o hb ho => (hs.2 b (Nat.ne_of_lt (Heap.lt_size ho))).trans ((Heap.get?_update_ne _ _ _ _ hb).trans (Heap.get?_push_of_some _ ho))) (Nat.le_refl _) hxs.symm ((hs.2 x hxs).trans (Heap.get?_update_self _ hx1 rfl)) hn'
theorem osa_more {K : Frag} {nm : Str} {tk : Tok} {v : Value} {x C dx : Addr} {fv : Array Value} {cd : ClassData} {m0 : Str → Option Value} {nl : List Str} (X : K.In hp) (hx : hp.get? x = some { cls := .ref C, dict := some dx, data := .fields fv }) (hns : hp.Ns1 dx m0) (hw : Within m0 nl) (hz : nl.length ≤ 1000) (hcd : clsIn K C = some cd) (hm : Mro cd.mro) (hh : cd.hasDict = true) (ha : findIn K (.ref C) nm = some none)
    (hq : ∀ h' tk', (∀ b o, b ≠ dx → hp.get? b = some o → h'.get? b = some o) → h'.Ns1 dx (fun y => if y = nm then some v else m0 y) → R (.ok (.ret .none)) ⟨h', gs, dr, tk', os⟩) :
    codeAny (model prog w) A (.call (.builtin "object.__setattr__") ⟨[.ref x, .str nm tk, v], []⟩) R ⟨hp, gs, dr, tn, os⟩ := by
  obtain ⟨oD, _, _, hoD, _, _⟩ := hns.count hw
  have I : InstAt hp x { cls := .ref C, dict := some dx, data := .fields fv } C (some oD) := ⟨hx, rfl, rfl, hoD⟩
  have S0 := F.store_object
  have l1 : Looks (model prog w) hp (isInstance (.ref x) (.type "object")) true := I.type.andThen (looks_mroIn X (by unfold mroIn; rw [hcd, Option.bind_some, if_neg (by rw [hm.ne]; decide), hm.ob]))
  refine codeAny_call_builtin S0.slot.plain S0.entry ?_
  refine @check_slot (model prog w) _ _ ⟨hp, gs, dr, tn, os⟩ "object.__setattr__" "object" "__setattr__" (.ref x) [.str nm tk, v] [] _ S0.kind S0.split l1 (S0.args (.ref x) (.str nm tk) v) ?_
  have l2 : Looks (model prog w) hp (mroOf (.ref C)) cd.mro := (looks_clsIn X hcd).andThen .now
  have l3 : Looks (model prog w) hp (storeTaker? none) none := .now
  have l4 : Looks (model prog w) hp (classData C) cd := looks_clsIn X hcd
  rw [osa_eq, refuse_eq]
  refine wpAny_bind (wpAny_bind (I.type.at (wpAny_bind (l2.at ?_)))); rw [hm.ps]
  refine wpAny_pure (wpAny_bind (I.type.at (wpAny_bind ((looks_findIn X ha).at (wpAny_bind (l3.at ?_))))))
  show wpAny _ _ (storeInOwnDict (.ref x) (.ref C) (.str nm tk) nm v false) _ _ _
  obtain ⟨c1, c2, c3, c4, c5, c6, c7, c8, c9, c10, c11⟩ := cd
  have hh' : c6 = true := hh
  subst hh'
  unfold storeInOwnDict ownDictForStores
  repeat (first | with_reducible refine OEX.store_in_old hns hw hz ?_ | with_reducible refine wpAny_loadPart_at hx ?_ | with_reducible refine l4.at ?_ | wp_step)
  intro h' tk' hn' hs
  exact hq h' tk' (fun b o hb ho => (hs.2 b hb).trans ho) hn'
end
end GEX
end PySem
namespace L2
open PySem PySem.Spec PyProof.Rows PySem.W
/-- what the written part says of an own error class -/
structure OexG (K : PySem.W.Frag) (C : Addr) : Prop where
  cls : ∃ B newId initId bmB nm q N bs bm sn sub ab col dd k0 k1 k2 k3 k5, PySem.StoreFacts B bmB "object.__setattr__" "object" ∧ ExcBaseFacts B newId initId bmB ∧ K.lookup C = some (excClassObj nm q C N bs bm true sn sub ab col dd k0 k1 k2 k3 k5 newId) ∧ PySem.W.excTail bmB bm = true
  sa : PySem.W.findIn K (.ref C) "__setattr__" = some (some (.builtin "object.__setattr__"))
  exC : PySem.W.subIn K (.ref C) (.type "BaseException") = some true
  tyC : PySem.W.typeIn K (.ref C) = some (.type "type")
  kC : PySem.W.keepIn K (.ref C) = true
section
variable {X : Cx} {pins : List (Addr × Obj)} {σ : St} {H : Hp} {s : Shared} {a C dx : Addr} {f : Str} {y : V} {u : Value} {fs : List (Str × V)} {Q : Unit → Shared → Prop} {E : Value → Shared → Prop} {A : Around}
theorem OexG.look {K : PySem.W.Frag} {C : Addr} (T : OexG K C) : ∃ cd, PySem.W.clsIn K C = some cd ∧ PySem.GEX.Mro cd.mro ∧ cd.hasDict = true := by
  obtain ⟨B, nI, iI, bmB, nm, q, N, bs, bm, sn, sub, ab, col, dd, k0, k1, k2, k3, k5, SF, _, hC, hb⟩ := T.cls
  refine ⟨{ name := nm, bases := bs, mro := .ref C :: bm, ns := N, qualname := q, hasDict := true, slotNames := sn, subclasses := sub, abstract := ab, collection := col, hasDel := false }, ?_, PySem.GEX.mro_of SF hb C, rfl⟩
  unfold PySem.W.clsIn
  rw [hC] <;> rfl
/-- self.f = y, none there as yet -/
theorem ostG_new (T : OexG X.K C) (I : Inv X pins σ H s) (e : H a = some (exo a C none)) (hno : PySem.W.findIn X.K (.ref C) f = some none) (ry : RelV y u)
    (k : ∀ dx s', H dx = none → dx ≠ a → Inv X pins σ (upd (upd H dx (exd dx [(f, y)])) a (exo a C (some dx))) s' → Q () s') : wpAny (model X.prog X.w) A (setAttr (.ref a) f u) Q E s := by
  obtain ⟨cd, hcd, hmr, hdc⟩ := T.look
  obtain ⟨t1, ho⟩ := exo_at I.hok e
  obtain ⟨h0, gs, dr, tn, os⟩ := s
  refine PySem.W.set_plain I.kIn (ox := ⟨.ref C, none, .fields #[.ref t1, .none, .none, .none, .bool false, .none], #[]⟩) (od := none) ⟨ho, rfl, rfl, trivial⟩ T.sa ?_
  refine PySem.GEX.osa_first I.kIn ho hcd hmr hdc hno fun h' tk' dx kp dn dne hx hn => ?_
  have dfree : H dx = none := I.hok.fresh dn
  have low : ∀ {b : Addr} {o : Obj}, h0.get? b = some o → b ≠ dx := fun q => Nat.ne_of_lt (Nat.lt_of_lt_of_le (Heap.lt_size q) dn)
  have apart : ∀ {b : Addr}, H b = none → b ≠ a := fun {b} n z => by subst z; rw [e] at n; cases n
  have U1 : Un X.fs [] H (upd (upd H dx (exd dx [(f, y)])) a (exo a C (some dx))) h0 h' := by
    refine ⟨fun b o q n _ _ => kp b o (apart n) q, fun b o q n _ _ => ⟨o.slots, kp b o (apart n) q⟩, fun b o q n _ => ?_, fun b o q _ => ?_, fun b xs q => ?_, fun b o v q => ?_, fun b ps q => ⟨#[], ?_⟩⟩
    · rw [upd_ne (apart n), upd_ne (low q)]; exact n
    · by_cases hb : b = a
      · subst hb; exact ⟨_, hx⟩
      · exact ⟨o, kp b o hb q⟩
    · rw [upd_ne (at_ne e q exo_tup), upd_ne (ne_of_none q dfree)]; exact q
    · rw [upd_ne (at_ne e q exo_frz), upd_ne (ne_of_none q dfree)]; exact q
    · rw [upd_ne (at_ne e q exo_tbl), upd_ne (ne_of_none q dfree), q]; simp
  refine k dx _ dfree dne (I.un (t' := tk') U1 fun b o q => ?_)
  by_cases hb : b = a
  · subst hb; rw [upd_same] at q; cases q
    exact exo_ok hx
  · rw [upd_ne hb] at q
    by_cases hd : b = dx
    · subst hd; rw [upd_same] at q; cases q
      exact exd_ok hn (relO_put (fs := []) ry fun _ => True.intro)
    · rw [upd_ne hd] at q
      refine (I.hok b o q).stay (fun c v hc z => kp c v ?_ z) (fun c hc => ?_) (fun c xs hc => ?_)
      · rcases hc with rfl | hc
        · exact hb
        · exact at_ne e hc exo_own
      · rw [upd_ne (at_ne e hc exo_own), upd_ne (ne_of_none hc dfree)]; exact hc
      · rw [upd_ne (at_ne e hc exo_tup), upd_ne (ne_of_none hc dfree)]; exact hc
theorem ostG_old (T : OexG X.K C) (I : Inv X pins σ H s) (e : H a = some (exo a C (some dx))) (ed : H dx = some (exd dx fs)) (hl : fs.length ≤ 900) (hno : PySem.W.findIn X.K (.ref C) f = some none) (ry : RelV y u)
    (k : ∀ s', Inv X pins σ (upd H dx (exd dx ((f, y) :: fs))) s' → Q () s') : wpAny (model X.prog X.w) A (setAttr (.ref a) f u) Q E s := by
  obtain ⟨cd, hcd, hmr, hdc⟩ := T.look
  obtain ⟨t1, ho⟩ := exo_at I.hok e
  obtain ⟨mA, hns, rel⟩ := exd_at I.hok ed
  have win := within_of rel
  obtain ⟨oD, _, _, hoD, _, _⟩ := hns.count win
  obtain ⟨h0, gs, dr, tn, os⟩ := s
  refine PySem.W.set_plain I.kIn (ox := ⟨.ref C, some dx, .fields #[.ref t1, .none, .none, .none, .bool false, .none], #[]⟩) (od := some oD) ⟨ho, rfl, rfl, hoD⟩ T.sa ?_
  refine PySem.GEX.osa_more I.kIn ho hns win (by rw [List.length_map]; omega) hcd hmr hdc hno fun h' tk' kp hn => ?_
  have there : ∃ o, h'.get? dx = some o := by
    obtain ⟨o, _, _, e', _⟩ := hn
    exact ⟨o, e'⟩
  exact k _ (I.write (t' := tk') (x := dx) (e := dx) (o := exd dx ((f, y) :: fs)) (by rw [ed]; exact True.intro) (.inl rfl) kp there (exd_ok hn (relO_put ry rel)))
end
/-- self.f = e, self an error being made -/
def tOstG (K : PySem.W.Frag) (f : Str) (to te : TE) : TS := fun D σ H => te σ H fun y H1 => to σ H1 fun x H2 => ∃ a C : Addr, x = .ref a ∧ OexG K C ∧ PySem.W.findIn K (.ref C) f = some none ∧
  ((H2 a = some (exo a C none) ∧ ∀ dx, H2 dx = none → dx ≠ a → D.nx σ (upd (upd H2 dx (exd dx [(f, y)])) a (exo a C (some dx)))) ∨
    ∃ (dx : Addr) (fs : List (Str × V)), H2 a = some (exo a C (some dx)) ∧ H2 dx = some (exd dx fs) ∧ fs.length ≤ 900 ∧ D.nx σ (upd H2 dx (exd dx ((f, y) :: fs))))
section
variable {X : Cx} {o e : Expr} {es : List Expr} {to te : TE} {ta : TA} {f : Str} {p p' pos : Pos}
theorem ps_ostG (ho : PE X o to) (he : PE X e te) (hs : swapsWith e (some (.Attribute o f p')) pos.line X.env = pure false := by rfl) : PS X (.Assign [.Attribute o f p'] e pos) (tOstG X.K f to te) := by
  refine ⟨fun pins s σ H D I h => plainObj_wpAny_Assign_Attribute (thn (he.run pins s σ H _ I h) fun v s1 ⟨y, H1, I1, r1, q1⟩ => thn (ho.run pins s1 σ H1 _ I1 q1) fun u s2 ⟨x, H2, I2, r2, a, C, ex, T, hno, q⟩ => ?_) hs⟩
  subst ex
  cases (show u = Value.ref a from r2)
  rcases q with ⟨ea, q⟩ | ⟨dx, fs, ea, ed, hl, q⟩
  · exact ostG_new T I2 ea hno r1 fun dx _ n ne J => ⟨σ, _, J, q dx n ne⟩
  · exact ostG_old T I2 ea ed hl hno r1 fun _ J => ⟨σ, _, J, q⟩
/-- C(e, ..) -/
theorem pmk_oexG {CX : CXT} {x : Str} {C fI : Addr} {k : Nat} {sp : Sp} (T : OexG X.K C) (iC : PySem.W.findIn X.K (.ref C) "__init__" = some (some (.ref fI))) (tI : PySem.W.typeIn X.K (.ref fI) = some (.type "function"))
    (F1 : FnR X.prog X.w X.K X.mg X.base CX k fI sp) (hr : Room (k + 1) X.A) (hx : Passes CX X (fun _ _ _ => False)) (hg : Gl X x) (hm : X.mg x = some (.ref C)) (ha : PA X (e :: es) ta)
    (hdb : (x == ("__debug__" : Str)) = false := by decide) (he : starEach (e :: es) X.env = (false, eval e X.env) :: starEach es X.env := by rfl) (hpl : (backTo pos (starEach es X.env)).any (·.1) = false := by rfl) :
    PMk X (.Call (.Name x p) (e :: es) [] pos) (tMkO C sp [] ta) := by
  intro pins s σ H Q I h
  obtain ⟨B, nI, iI, bmB, nm, q, N, bs, bm, sn, sub, ab, col, dd, k0, k1, k2, k3, k5, _, BF, hC, hbm⟩ := T.cls
  refine wpAny_Call_Name_kw (ld_glob I hg hm ?_ hdb)
  refine PySem.W.callWith_K (h₀ := X.base) I.ok.mod.kin T.kC (thn (ha.run pos pins s σ H _ I h) fun us s1 ⟨vs, H1, I1, r1, hz, q1⟩ => ⟨I1.kIn, ?_⟩) he hpl
  show wpAny _ _ (call (.ref C) us) _ _ _
  obtain ⟨h0, gs, dr, tn, os⟩ := s1
  have up : h0.objs.size ≤ h0.objs.size + 1 := Nat.le_succ _
  have hq := q1 (h0.objs.size + 1) (I1.hok.fresh up)
  rw [List.append_nil] at hq
  have kk : ∀ b o, h0.get? b = some o → ((h0.push (PySem.W.kdv_tup us)).push (PySem.HandSPX.excO C h0.objs.size)).get? b = some o := fun b o z => Heap.get?_push_of_some _ (Heap.get?_push_of_some _ z)
  have there : ((h0.push (PySem.W.kdv_tup us)).push (PySem.HandSPX.excO C h0.objs.size)).get? (h0.objs.size + 1) = some (PySem.HandSPX.excO C h0.objs.size) := by heap_get
  have I2 : Inv X pins σ (upd H1 (h0.objs.size + 1) (exo (h0.objs.size + 1) C none)) ⟨(h0.push (PySem.W.kdv_tup us)).push (PySem.HandSPX.excO C h0.objs.size), gs, dr, tn, os⟩ := I1.laid (t' := tn) kk up (exo_ok there)
  have r2 : Vals (V.ref (h0.objs.size + 1) :: vs) (Value.ref (h0.objs.size + 1) :: us) := .cons rfl r1
  have hus : us.length ≤ sizeLine := by rw [← Paired.length r1, sizeLine_eq]; omega
  refine wpAny_call (PySem.HandSPX.call_own BF (fun Y => PySem.W.excTail_contains Y bm hbm) (I1.kIn _ _ hC) (PySem.W.looks_findIn I1.kIn iC) (fun self => PySem.W.bind_fn I1.kIn self tI) hus ?_)
  refine codeAny_mono (F1 _ X.stack _ _ (Value.ref (h0.objs.size + 1) :: us) _ _ (fun _ _ _ => False) (hr.make C us []) (I2.env0.make C us []) r2 hq) fun r s' hq' => ?_
  cases r with
  | error er => exact hx pins σ _ _ er s' I2 hq'
  | ok fl =>
    cases fl with
    | ret u =>
      obtain ⟨v, H2, os2, bare2, un2, hok2, rv, ev, d, fs, ea, ed, hd1, q2⟩ := hq'
      subst ev
      obtain ⟨h2, g2, d2, t2, os'⟩ := s'
      exact ⟨rv, mk_end (raises_own T.exC T.tyC) I1 up kk un2 hok2 os2 bare2 ea ed hd1 q2⟩
    | next => exact False.elim hq'
    | brk => exact False.elim hq'
    | cont => exact False.elim hq'
end
end L2
namespace U
open PySem PySem.Spec PyProof.Rows L2 StX
section
variable {P : Program} {w : World} {K : PySem.W.Frag} {mg : Str → Option Value} {base : Heap}
/-- a def that may raise -/
theorem FnAt.okX {x qual : Str} {st : Stmt} {f : Addr} {N ps : List Str} {k : Nat} {sp : Sp} (A : FnAt K x qual st f ps) (S : FnScope N ps (defScope st)) (len : ∀ vs H Q E, sp vs H Q E → vs.length = ps.length)
    (hbody : ∀ (cdv : Value) (A : Around) (outer : List Env) (s : Shared) (H : Hp) (vs : List V) (Q : VK) (E : XK), Room k (A.deeper (envOfC qual (defScope st) s.heap.objs.size f cdv)) → sp vs H Q E →
      ∃ t, PSs (cxOf (L2.CX P w) P w K mg base N qual (defScope st) f cdv A outer s H E) (defBody st) t ∧ t { nx := fun _ H' => Q .non H', rt := Q } (start N vs) H) : FnR P w K mg base (L2.CX P w) (k + 1) f sp := by
  obtain ⟨fd, F, B⟩ := A.ex
  have R := (F.okX (P := P) (w := w) (mg := mg) (base := base) S len hbody).raw B .nil
  exact R.imp fun vs H Q E h => by rw [List.append_nil]; exact h
end
section
variable {X : Cx} {CX : CXT} {pins : List (Addr × Obj)} {σ : L2.St} {H : Hp} {s : Shared} {a C dx p g f : Addr} {n k : Nat} {sp : Sp} {E : L2.St → XK} {v : V} {u : Value} {x : Str} {e ea eb : Expr} {es : List Expr} {ta tb : TE} {t : TA} {pp pos : Pos}
theorem run_RS {Q : VK} {us : List Value} {vs : List V} {E : XK} (F : FnR X.prog X.w X.K X.mg X.base CX k f sp) (hr : Room k X.A) (hx : PassesAt CX X σ E) (I : Inv X pins σ H s) (r : Vals vs us) (h : sp vs H Q E) :
    codeAny (model X.prog X.w) X.A (.call (.ref f) ⟨us, []⟩) (fun r s' => match r with | .ok (.ret v) => EP X pins σ Q v s' | .ok _ => False | .error e => X.xe e s') s := by
  refine codeAny_mono (F X.A X.stack s H us vs Q E hr I.env0 r h) fun z s' hq => ?_
  match z, hq with
  | .error er, hq => exact hx pins H s er s' I hq
  | .ok (.ret w), hq => exact I.after hq
  | .ok .next, hq => exact hq.elim
  | .ok .brk, hq => exact hq.elim
  | .ok .cont, hq => exact hq.elim
/-- x(e, ..), what it raises told by the slots -/
def tCallRS (sp : Sp) (E : L2.St → XK) (t : TA) : TE := fun σ H Q => t σ H fun vs H1 => sp vs H1 Q (E σ)
theorem pe_callRS (F : FnR X.prog X.w X.K X.mg X.base CX k f sp) (hr : Room k X.A) (hk : PySem.W.keepIn X.K (.ref f) = true) (hg : Gl X x) (hm : X.mg x = some (.ref f)) (hx : ∀ σ, PassesAt CX X σ (E σ)) (ha : PA X (e :: es) t) (hdb : (x == ("__debug__" : Str)) = false := by decide)
    (he : starEach (e :: es) X.env = (false, eval e X.env) :: starEach es X.env := by rfl) (hpl : (backTo pos (starEach es X.env)).any (·.1) = false := by rfl) : PE X (.Call (.Name x pp) (e :: es) [] pos) (tCallRS sp E t) := by
  refine ⟨fun pins s σ H Q I h => wpAny_Call_Name_kw (ld_glob I hg hm ?_ hdb)⟩
  refine PySem.W.callWith_K (h₀ := X.base) I.ok.mod.kin hk (thn (ha.run pos pins s σ H _ I h) fun us s1 ⟨vs, H1, I1, r, q⟩ => ⟨I1.kIn, wpAny_call (run_RS F hr (hx σ) I1 r q)⟩) he hpl
end
/-- isinstance(e, c), e the error that the suite holds, with its dict -/
def rIsG (K : PySem.W.Frag) (D a dd : Addr) : List V → Hp → VK → Prop := fun xs H Q => ∃ (c : V) (cv : Value) (b : Bool) (fs : List (Str × V)), xs = [.ref a, c] ∧ (∀ u, RelV c u → u = cv) ∧ PySem.W.kitOne K (.ref D) cv = some b ∧ H dd = some (.xd fs) ∧ Q (.bl b) H
theorem call_isG {X : Cx} {a D dd : Addr} {oe : Obj} {pn : List (Addr × Obj)} (C : ExcC X.K D) (hz : Zc (.ref D) (some dd) oe) (hf : ∃ vs, oe.data = .fields vs) : CallR (X.suite a ((a, oe) :: pn)) (.builtin "isinstance") (rIsG X.K D a dd) := by
  intro pins s σ H xs us Q I r h
  obtain ⟨c, cv, b, fs, rfl, hcv, e, ed, q⟩ := h
  match us, r with
  | [_, _], .cons rx (.cons rt .nil) =>
    cases rx
    cases hcv _ rt
    obtain ⟨there, _⟩ := I.pin (a, oe) (List.mem_append.mpr (.inl List.mem_cons_self))
    obtain ⟨vs, hv⟩ := hf
    obtain ⟨mA, hns, _⟩ := I.hok dd _ ed
    obtain ⟨od, ho, _⟩ := lookIn_ns hns
    have J : PySem.W.InstAt s.heap a oe D (some od) := ⟨there, hz.1, by unfold PySem.W.notCls; rw [hv] <;> rfl, by rw [hz.2]; exact ho⟩
    have hcl : (PySem.W.clsIn X.K D).isSome = true := by
      obtain ⟨cd, hc, _⟩ := PySem.W.any_some C.hd
      rw [hc]; rfl
    exact PySem.W.kia_one (PySem.W.kitx_exc hcl C.hg C.hk C.hs C.ha C.hn C.ht C.hm) I.kIn J e (fun z => nomatch z) fun tk => ⟨.bl b, H, I.kept (t' := tk) fun _ _ z => z, rfl, q⟩
end U
namespace U
open PySem PySem.Spec PyProof.Rows L2 StX
end U
namespace U
open PySem PySem.Spec PyProof.Rows L2
section
variable {P : Program} {w : World} {K : PySem.W.Frag} {mg : Str → Option Value} {base : Heap}
/-- a def that may raise, called where it does not -/
theorem fnR_calm {k : Nat} {f : Addr} {sp : Sp} (F : FnR P w K mg base (L2.CX P w) k f sp) : FnR P w K mg base CX0 k f (fun vs H Q _ => sp vs H Q E0) := by
  intro A outer s H us vs Q E hr e0 r h
  refine codeAny_mono (F A outer s H us vs Q E0 hr e0 r h) fun r s' hq => ?_
  cases r with
  | error e =>
    obtain ⟨_, _, _, _, _, _, _, _, _, _, _, _, z⟩ := hq
    exact z.elim
  | ok fl => cases fl <;> exact hq
end
/-! ### own errors with one or two fields -/
def spIni1 (C : Addr) (f : Str) : Sp := fun vs H Q _ => ∃ (a : Addr) (v : V), vs = [.ref a, v] ∧ H a = some (exo a C none) ∧ ∀ dx, H dx = none → dx ≠ a → Q .non (upd (upd H dx (exd dx [(f, v)])) a (exo a C (some dx)))
theorem mk_one {C : Addr} {f : Str} {v : V} {H : Hp} {Q : XK} (h : ∀ d, H d = none → Q (.ref C) (some d) (upd H d (.xd [(f, v)]))) :
    [v].length ≤ 1000 ∧ ∀ a, H a = none → spIni1 C f (.ref a :: ([v] ++ [])) (upd H a (exo a C none))
      (fun z H2 => z = .non ∧ ∃ (d : Addr) (fs : List (Str × V)), H2 a = some (exo a C (some d)) ∧ H2 d = some (exd d fs) ∧ H d = none ∧ Q (.ref C) (some d) (upd (del H2 a) d (.xd fs))) (fun _ _ _ => False) := by
  refine ⟨(by show 1 ≤ 1000; decide), fun a ha => ⟨a, v, rfl, upd_same, fun dx hd ne => ⟨rfl, dx, [(f, v)], upd_same, ?_, ?_, ?_⟩⟩⟩
  · rw [upd_ne ne, upd_same]
  · rw [upd_ne ne] at hd; exact hd
  · rw [upd_ne ne] at hd
    have e : upd (del (upd (upd (upd H a (exo a C none)) dx (exd dx [(f, v)])) a (exo a C (some dx))) a) dx (.xd [(f, v)]) = upd H dx (.xd [(f, v)]) := by
      funext b
      by_cases h1 : b = dx
      · subst h1; rw [upd_same, upd_same]
      · rw [upd_ne h1, upd_ne h1]
        by_cases h2 : b = a
        · subst h2
          rw [ha]
          unfold del
          simp
        · unfold del
          simp only [h2, if_false]
          rw [upd_ne h2, upd_ne h1, upd_ne h2]
    rw [e]
    exact h dx hd
end U
namespace U
open PySem PySem.Spec PyProof.Rows L2
/-- isinstance(e, c), e the error that the suite holds; its class told by the reading -/
def rIsH (K : PySem.W.Frag) (D a : Addr) (cls : Value) (d : Option Addr) : List V → Hp → VK → Prop := fun xs H Q => ∃ dd, cls = .ref D ∧ d = some dd ∧ rIsG K D a dd xs H Q
theorem call_isH {X : Cx} {a D : Addr} {cls : Value} {d : Option Addr} {oe : Obj} {pn : List (Addr × Obj)} (C : ExcC X.K D) (hz : Zc cls d oe) (hf : ∃ vs, oe.data = .fields vs) : CallR (X.suite a ((a, oe) :: pn)) (.builtin "isinstance") (rIsH X.K D a cls d) := by
  intro pins s σ H xs us Q I r h
  obtain ⟨dd, rfl, rfl, h⟩ := h
  exact call_isG C hz hf pins s σ H xs us Q I r h
end U
namespace U
open PySem PySem.Spec PyProof.Rows L2 StX
/-! ### defs that are called where no repr runs around them -/
def FnG (P : Program) (w : World) (K : PySem.W.Frag) (mg : Str → Option Value) (base : Heap) (CX : CXT) (k : Nat) (f : Addr) (sp : Sp) : Prop :=
  ∀ (A : Around) (outer : List Env) (s : Shared) (H : Hp) (us : List Value) (vs : List V) (Q : VK) (E : XK), A.guards = some [] → Room k A → Env0 P w K mg base A outer s H → Vals vs us → sp vs H Q E → codeAny (model P w) A (.call (.ref f) ⟨us, []⟩) (CR CX outer P w H s Q E) s
section
variable {P : Program} {w : World} {K : PySem.W.Frag} {mg : Str → Option Value} {base : Heap} {CX : CXT} {j k : Nat} {f : Addr} {sp sp' : Sp}
theorem FnG.mono (F : FnG P w K mg base CX j f sp) (h : j ≤ k) : FnG P w K mg base CX k f sp := fun A outer s H us vs Q E g hr => F A outer s H us vs Q E g (hr.mono h)
theorem FnG.imp (F : FnG P w K mg base CX k f sp) (h : ∀ vs H Q E, sp' vs H Q E → sp vs H Q E) : FnG P w K mg base CX k f sp' := fun A outer s H us vs Q E g hr e0 r z => F A outer s H us vs Q E g hr e0 r (h _ _ _ _ z)
/-- the body's walk, with what is around -/
theorem bodyG {x qual : Str} {st : Stmt} {fd : FuncData} {N ps : List Str} (F : Fun K x qual st f fd) (S : FnScope N ps (defScope st)) (len : ∀ vs H Q E, sp vs H Q E → vs.length = ps.length)
    (hbody : ∀ (cdv : Value) (A : Around) (outer : List Env) (s : Shared) (H : Hp) (vs : List V) (Q : VK) (E : XK), A.guards = some [] → Room k (A.deeper (envOfC qual (defScope st) s.heap.objs.size f cdv)) → sp vs H Q E →
      ∃ t, PSs (cxOf CX P w K mg base N qual (defScope st) f cdv A outer s H E) (defBody st) t ∧ t { nx := fun _ H' => Q .non H', rt := Q } (start N vs) H)
    (A : Around) (outer : List Env) (s : Shared) (H : Hp) (args : Args) (us : List Value) (vs : List V) (Q : VK) (E : XK) (g : A.guards = some []) (hr : Room (k + 1) A) (e0 : Env0 P w K mg base A outer s H) (hb : BindsTo s fd args (ps.zip us)) (r : Vals vs us) (hs : sp vs H Q E) :
    codeAny (model P w) A (.call (.ref f) args) (CR CX outer P w H s Q E) s := by
  obtain ⟨oc, od, kV, doc, pm, an, cdv, ct, osl, rfl, lk, hcd⟩ := F.ex
  have hl := len _ _ _ _ hs
  have kin : K.In s.heap := e0.mod.kin.keeps fun b o e => (e0.bs b o e).1
  have lim : s.heap.NoLimit := e0.mod.nolimit.keeps fun b o e => (e0.bs b o e).1
  have names : ∀ y ∈ ps.zip us, (defScope st).names.lookup y.1 = some .local ∨ ((defScope st).names.lookup y.1 = some .cell ∧ ((cellsFrom (s.heap.objs.size + 1) (defScope st).names []).lookup y.1).isSome = true) := by
    rintro ⟨n, v⟩ hy
    rcases S.par n (List.of_mem_zip hy).1 with q | q
    · exact .inl q
    · exact .inr ⟨q, PySem.W.cellsFrom_some _ _ _ (.inl q)⟩
  refine codeAny_call_function hr.depth (kin _ _ lk) rfl S.co S.gen rfl (PySem.W.codeRec_of kin hcd) (hb _ _ _ _ ?_)
  refine wpAny_newFunctionEnv_cells S.kind names fun env he s1 z => ?_
  subst he
  refine ⟨lim.keeps z.toInCall.keep, codeAny_func ?_⟩
  obtain ⟨t, ht, hq⟩ := hbody cdv A outer s H vs Q E g (hr.deeper _) hs
  have I : Inv (cxOf CX P w K mg base N qual (defScope st) f cdv A outer s H E) [] (start N vs) H s1 := inv_start S hr.hd e0 hl r z
  refine wpAny_mono (ht.run [] s1 (start N vs) H _ I hq) (fun fl s' h' => ?_) fun _ _ h' => h'
  match fl, h' with
  | .ret u, ⟨v, σ', H', J, rv, q⟩ => exact ⟨v, H', J.os, J.bare, J.base, J.hok, rv, q⟩
  | .next, ⟨σ', H', J, q⟩ => exact ⟨.non, H', J.os, J.bare, J.base, J.hok, rfl, q⟩
  | .brk, ⟨_, _, _, q⟩ => exact q.elim
  | .cont, ⟨_, _, _, q⟩ => exact q.elim
theorem FnAt.okG {x qual : Str} {st : Stmt} {N ps : List Str} (B : FnAt K x qual st f ps) (S : FnScope N ps (defScope st)) (len : ∀ vs H Q E, sp vs H Q E → vs.length = ps.length)
    (hbody : ∀ (cdv : Value) (A : Around) (outer : List Env) (s : Shared) (H : Hp) (vs : List V) (Q : VK) (E : XK), A.guards = some [] → Room k (A.deeper (envOfC qual (defScope st) s.heap.objs.size f cdv)) → sp vs H Q E →
      ∃ t, PSs (cxOf CX0 P w K mg base N qual (defScope st) f cdv A outer s H E).nox (defBody st) t ∧ t { nx := fun _ H' => Q .non H', rt := Q } (start N vs) H) : FnG P w K mg base CX0 (k + 1) f sp := by
  obtain ⟨fd, F, bi⟩ := B.ex
  intro A outer s H us vs Q E g hr e0 r hs
  have hl : (us ++ []).length = ps.length := by rw [List.append_nil, ← r.length]; exact len _ _ _ _ hs
  refine bodyG F S len (fun cdv A outer s H vs Q E g hr hs => ?_) A outer s H ⟨us, []⟩ us vs Q E g hr e0 ?_ r hs
  · obtain ⟨t, h, q⟩ := hbody cdv A outer s H vs Q E g hr hs
    exact ⟨t, h.nox, q⟩
  · have := bi s us (e0.mod.kin.keeps fun b o e => (e0.bs b o e).1) hl
    rw [List.append_nil] at this
    exact this
end
section
variable {X : Cx} {CX : CXT} {pins : List (Addr × Obj)} {σ : L2.St} {H : Hp} {s : Shared} {f : Addr} {k : Nat} {sp : Sp} {x : Str} {e : Expr} {es : List Expr} {t : TA} {pp pos : Pos}
theorem run_G {Q : VK} {us : List Value} {vs : List V} {E : XK} (F : FnG X.prog X.w X.K X.mg X.base CX k f sp) (g : X.A.guards = some []) (hr : Room k X.A) (hx : PassesAt CX X σ E) (I : Inv X pins σ H s) (r : Vals vs us) (h : sp vs H Q E) :
    codeAny (model X.prog X.w) X.A (.call (.ref f) ⟨us, []⟩) (fun r s' => match r with | .ok (.ret v) => EP X pins σ Q v s' | .ok _ => False | .error e => X.xe e s') s := by
  refine codeAny_mono (F X.A X.stack s H us vs Q E g hr I.env0 r h) fun z s' hq => ?_
  match z, hq with
  | .error er, hq => exact hx pins H s er s' I hq
  | .ok (.ret w), hq => exact I.after hq
  | .ok .next, hq => exact hq.elim
  | .ok .brk, hq => exact hq.elim
  | .ok .cont, hq => exact hq.elim
/-- x(e, ..), x such a def -/
theorem pe_callG {E : XK} (F : FnG X.prog X.w X.K X.mg X.base CX k f sp) (g : X.A.guards = some []) (hr : Room k X.A) (hk : PySem.W.keepIn X.K (.ref f) = true) (hg : Gl X x) (hm : X.mg x = some (.ref f)) (hx : Passes CX X E) (ha : PA X (e :: es) t) (hdb : (x == ("__debug__" : Str)) = false := by decide)
    (he : starEach (e :: es) X.env = (false, eval e X.env) :: starEach es X.env := by rfl) (hpl : (backTo pos (starEach es X.env)).any (·.1) = false := by rfl) : PE X (.Call (.Name x pp) (e :: es) [] pos) (tCallR sp E t) := by
  refine ⟨fun pins s σ H Q I h => wpAny_Call_Name_kw (ld_glob I hg hm ?_ hdb)⟩
  exact PySem.W.callWith_K (h₀ := X.base) I.ok.mod.kin hk (thn (ha.run pos pins s σ H _ I h) fun us s1 ⟨vs, H1, I1, r, q⟩ => ⟨I1.kIn, wpAny_call (run_G F g hr (fun pins H s e s' => hx pins σ H s e s') I1 r q)⟩) he hpl
/-! ### repr -/
/-- repr(v), v a None, a bool, an int, a text, lists and tuples of them -/
def rRepr (K : PySem.W.Frag) : List V → Hp → VK → Prop := fun xs H Q => ∃ v d, xs = [v] ∧ Dp K H v d ∧ d.showable = true ∧ d.hasDict = false ∧ d.depth ≤ 60 ∧ d.shown.length ≤ sizeLine ∧ Q (.str d.shown) H
theorem call_repr (g : X.A.guards = some []) (hu : X.A.units + 64 < cLine) : CallR X (.builtin "repr") (rRepr X.K) := by
  intro pins s σ H xs us Q I r h
  obtain ⟨v, d, rfl, hd, hs, hn, hdp, hz, q⟩ := h
  obtain ⟨u, rfl, ru⟩ := r.one
  obtain ⟨as, rd⟩ := Dp.reads I d v u hd ru
  cases rd with
  | none =>
    simp only [PyData.shown] at q
    exact PySem.P.repr_of_none ⟨.str _, H, I.tok _, ⟨_, rfl⟩, q⟩
  | bool b =>
    simp only [PyData.shown] at q
    exact PySem.P.repr_of_bool ⟨.str _, H, I.tok _, ⟨_, rfl⟩, q⟩
  | int i t =>
    simp only [PyData.shown] at q
    exact PySem.P.repr_of_int (by simpa [PyData.showable] using hs) ⟨.str _, H, I.tok _, ⟨_, rfl⟩, q⟩
  | str x t =>
    simp only [PyData.shown] at q hz
    exact PySem.P.repr_of_str ⟨.str _, H, I.tok _, ⟨_, rfl⟩, q⟩ hz
  | list h1 h2 h3 h4 => exact repr_of_reads' (.list h1 h2 h3 h4) hs (PyData.noDict_hsm hn) g (by omega) (fun _ _ e => e) (fun h' u tk hk => ⟨.str _, H, I.kept (t' := tk) hk, ⟨_, rfl⟩, q⟩) hz
  | tuple h1 h2 h3 h4 => exact repr_of_reads' (.tuple h1 h2 h3 h4) hs (PyData.noDict_hsm hn) g (by omega) (fun _ _ e => e) (fun h' u tk hk => ⟨.str _, H, I.kept (t' := tk) hk, ⟨_, rfl⟩, q⟩) hz
  | dict h1 h2 h3 h4 h5 => simp [PyData.hasDict] at hn
/-! ### a dict of ints, shown -/
def dI (l : List (Int × Int)) : PyData := .dict (l.map fun p => (PyData.int p.1, PyData.int p.2))
end
end U
namespace U
open PySem PySem.Spec PyProof.Rows L2 StX
/-- what holds no other object -/
inductive Sc : V → PyData → Prop
  | non : Sc .non .none
  | bl (b : Bool) : Sc (.bl b) (.bool b)
  | int (i : Int) : Sc (.int i) (.int i)
  | str (x : Str) : Sc (.str x) (.str x)
def keyD : Key → PyData
  | .inl i => .int i
  | .inr x => .str x
theorem Sc.reads {h : Heap} {v : V} {d : PyData} {u : Value} (s : Sc v d) (r : RelV v u) : Reads h u d [] := by
  cases s with
  | non => cases r; exact .none
  | bl b => cases r; exact .bool b
  | int i => obtain ⟨t, rfl⟩ := r; exact .int i t
  | str x => obtain ⟨t, rfl⟩ := r; exact .str x t
theorem flat_reads {prog : Program} {w : World} {h : Heap} : ∀ {es : List DictEntry} {va : List (Key × Value)} {kvs : List (Key × V)} {ds : List PyData}, Pairs (mixKind prog w) es va → KV kvs va → Paired (fun kv d => Sc kv.2 d) kvs ds →
    ReadsAll h (es.map (·.key)) (kvs.map fun kv => keyD kv.1) [] ∧ ReadsAll h (es.map (·.val)) ds []
  | [], _, _, _, .nil, r, z => by
    cases r
    cases z
    exact ⟨.nil, .nil⟩
  | e :: es, _, _, _, .cons h1 h2 h3, r, z => by
    unfold KV at r
    cases r with
    | cons q r =>
      cases z with
      | cons zc z =>
        obtain ⟨g1, g2⟩ := flat_reads (h := h) h3 r z
        obtain ⟨q1, q2⟩ := q
        refine ⟨.cons (as := []) ?_ g1, .cons (as := []) ?_ g2⟩
        · show Reads h e.key (keyD _) []
          rw [q1]
          rcases keyIs_shape h1 with ⟨i, t, e1, e2⟩ | ⟨x, t, e1, e2⟩
          · rw [e1, e2]; exact .int i t
          · rw [e1, e2]; exact .str x t
        · show Reads h e.val _ []
          rw [h2]
          exact zc.reads q2
def flatD (kvs : List (Key × V)) (ds : List PyData) : PyData := .dict ((kvs.map fun kv => keyD kv.1).zip ds)
theorem dict_reads {X : Cx} {pins : List (Addr × Obj)} {σ : L2.St} {H : Hp} {s : Shared} {a : Addr} {kvs : List (Key × V)} {ds : List PyData} (I : Inv X pins σ H s) (ea : H a = some (.dK kvs)) (z : Paired (fun kv d => Sc kv.2 d) kvs ds) :
    ∃ as, Reads s.heap (.ref a) (flatD kvs ds) as ∧ sysModules ∉ as := by
  obtain ⟨_, ya, va, ra, o, es, ep, ho, hc, hd, _, hp, _⟩ := (show ObjOk X.prog X.w H s.heap a (.dK kvs) from I.hok a _ ea)
  obtain ⟨g1, g2⟩ := flat_reads (h := s.heap) hp ra z
  have lz : kvs.length = ds.length := Paired.length z
  have e1 : (((kvs.map fun kv => keyD kv.1).zip ds).map (·.1)) = kvs.map fun kv => keyD kv.1 := List.map_fst_zip (by rw [List.length_map, lz]; exact Nat.le_refl _)
  have e2 : (((kvs.map fun kv => keyD kv.1).zip ds).map (·.2)) = ds := List.map_snd_zip (by rw [List.length_map, lz]; exact Nat.le_refl _)
  refine ⟨a :: [] ++ [], .dict ho hc.1 hd (by rw [e1]; exact g1) (by rw [e2]; exact g2), ?_⟩
  simp only [List.append_nil, List.mem_singleton]
  intro e
  rw [← e] at ya
  simp at ya
section
variable {X : Cx} {CX : CXT} {k : Nat} {f C : Addr} {sp : Sp} {E : XK} {n : Nat} {g : Addr}
/-- repr(d), a dict of scalars -/
def rReprF : List V → Hp → VK → Prop := fun xs H Q => ∃ a kvs ds, xs = [.ref a] ∧ H a = some (.dK kvs) ∧ Paired (fun kv d => Sc kv.2 d) kvs ds ∧ (flatD kvs ds).showable = true ∧ (flatD kvs ds).depth ≤ 60 ∧ (flatD kvs ds).shown.length ≤ sizeLine ∧ Q (.str (flatD kvs ds).shown) H
theorem call_reprF (g : X.A.guards = some []) (hu : X.A.units + 64 < cLine) : CallR X (.builtin "repr") rReprF := by
  intro pins s σ H xs us Q I r h
  obtain ⟨a, kvs, ds, rfl, ea, z, hs, hdp, hz, q⟩ := h
  obtain ⟨u, rfl, ru⟩ := r.one
  cases (show u = Value.ref a from ru)
  obtain ⟨as, rd, hn⟩ := dict_reads I ea z
  exact repr_of_reads' rd hs (fun _ => hn) g (by omega) (fun _ _ e => e) (fun h' u tk hk => ⟨.str _, H, I.kept (t' := tk) hk, ⟨_, rfl⟩, q⟩) hz
/-- {d!r}, a dict of scalars -/
def tFmtF (te : TE) : TE := fun σ H Q => te σ H fun x H1 => ∃ a kvs ds, x = .ref a ∧ H1 a = some (.dK kvs) ∧ Paired (fun kv d => Sc kv.2 d) kvs ds ∧ (flatD kvs ds).showable = true ∧ (flatD kvs ds).depth ≤ 60 ∧ (flatD kvs ds).shown.length ≤ sizeLine ∧ Q (.str (flatD kvs ds).shown) H1
theorem pe_fmtF {e : Expr} {te : TE} {pos : Pos} (g : X.A.guards = some []) (hu : X.A.units + 64 < cLine) (he : PE X e te) : PE X (.FormattedValue e 114 none pos) (tFmtF te) := by
  refine ⟨fun pins s σ H Q I h => ?_⟩
  refine wpAny_FormattedValue_repr (thn (he.run pins s σ H _ I h) fun v s1 hv => ?_)
  obtain ⟨x, H1, I1, r1, a, kvs, ds, rfl, ea, z, hs, hdp, hz, q⟩ := hv
  cases (show v = Value.ref a from r1)
  obtain ⟨as, rd, hn⟩ := dict_reads I1 ea z
  refine pyReprObj_of_reads rd hs (fun _ => hn) g (by omega) (fun _ _ e => e) (fun h' u tk hk => ?_) hz
  have I2 : Inv X pins σ H1 { s1 with heap := h', toks := tk } := I1.kept (t' := tk) hk
  exact wpAny_formatField_str ⟨.str _, H1, I2, ⟨_, rfl⟩, q⟩ ⟨.str _, H1, I2.tok _, ⟨_, rfl⟩, q⟩ hz
/-- repr(x), x an instance with its own __repr__ -/
def rReprO (C : Addr) (sp : Sp) (E : XK) : List V → Hp → VK → Prop := fun xs H Q => ∃ a dx fs, xs = [.ref a] ∧ H a = some (.ins C dx fs) ∧ sp [.ref a] H (fun v H' => ∃ z : Str, v = .str z ∧ Q (.str z) H') E
theorem call_reprO (gd : X.A.guards = some []) (hs : PySem.W.findIn X.K (.ref C) "__repr__" = some (some (.ref g))) (hf : PySem.W.isFn X.K (.ref g) = true) (F : FnG X.prog X.w X.K X.mg X.base CX n g sp) (hr : Room (n + 1) X.A) (hx : Passes CX X E) : CallR X (.builtin "repr") (rReprO C sp E) := by
  intro pins s σ H xs us Q I r h
  obtain ⟨a, dx, fs, rfl, ea, q⟩ := h
  obtain ⟨u, rfl, ru⟩ := r.one
  cases (show u = Value.ref a from ru)
  obtain ⟨ox, od, J⟩ := ins_inst I ea
  obtain ⟨m, hF⟩ := I.fr
  refine PySem.W.repr_K (by have := hr.un; show X.A.units + 1 < cLine; omega) hF I.ok.mod.kin J hs hf ?_
  refine wpAny_call ?_
  refine codeAny_mono (F X.A.in1 X.stack s H [.ref a] [.ref a] _ E gd (Room.in1 hr) I.env0.in1 (.cons rfl .nil) q) fun z s' hq => ?_
  match z, hq with
  | .error er, hq => exact hx pins σ H s er s' I hq
  | .ok (.ret w), hq =>
    obtain ⟨v, H', I', rv, zt, ev, qz⟩ := I.after hq
    subst ev
    obtain ⟨tk, rfl⟩ := rv
    exact ⟨.str zt, H', I', ⟨tk, rfl⟩, qz⟩
  | .ok .next, hq => exact hq.elim
  | .ok .brk, hq => exact hq.elim
  | .ok .cont, hq => exact hq.elim
end
end U
namespace U
open PySem PySem.Spec PyProof.Rows L2 StX
/-! ### the law's call, where no repr runs around it -/
section
variable {P : Program} {w : World} {K : PySem.W.Frag} {mg mb : Str → Option Value} {k : Nat} {fa sc : Addr} {sp : Sp} {s1 : Shared} {us : List Value} {ns : List Int}
/-- from an abstract heap that tracks at most the script -/
theorem law_core (inK : K.In s1.heap) (glob : s1.heap.Ns mainGlobals mg) (blt : s1.heap.Ns builtinsNs mb) (blt2 : ∀ x : Str, x ≠ "__name__" → mb x = bootBuiltins x) (lim : s1.heap.NoLimit) (gens : s1.gens = #[])
    (there : s1.heap.get? sc = some { cls := .type "list", data := .seq us.toArray }) (room : Room k callerA)
    (F : ∀ base : Heap, FnG P w K mg base CX0 k fa sp)
    (H : Hp) (only : Only H) (hok : HOk P w H s1.heap) (just : ∀ b, H b ≠ none → b = sc) (offK : H sc ≠ none → K.lookup sc = none)
    (prom : sp [.ref sc] H (fun v _ => v = .bl true) E0) :
    codeAny (model P w) callerA (.call (.ref fa) ⟨[.ref sc], []⟩) (fun r s' => r = .ok (.ret (.bool true)) ∧ OldK s1.heap s'.heap ∧ s'.os = s1.os ∧ AllBare s'.gens) s1 := by
  have isSc : ∀ {b : Addr} {u : HO}, H b = some u → b = sc := fun {b u} e => just b fun z => by rw [z] at e; cases e
  have free : ∀ {b : Addr} {o : Obj} {es : Array DictEntry} {ep : Nat}, s1.heap.get? b = some o → o.data = .dict es ep → H b = none := by
    intro b o es ep e d
    cases hb : H b with
    | none => rfl
    | some u =>
      have := isSc hb
      subst this
      rw [there] at e
      cases e
      exact absurd (show Data.seq us.toArray _ = Data.dict es ep from d) (by intro z; cases z)
  have spaces : ∀ {b : Addr} {m : Str → Option Value}, s1.heap.Ns b m → (hidT s1.heap H).Ns b m := by
    rintro b m ⟨o, es, ep, e, d, r⟩
    exact ⟨o, es, ep, hidT_get e (free e d), d, r⟩
  have inB : K.In (hidT s1.heap H) := by
    intro b o e
    refine hidT_get (inK b o e) ?_
    cases hb : H b with
    | none => rfl
    | some u =>
      have := isSc hb
      subst this
      have z := offK (by rw [hb]; intro z; cases z)
      rw [e] at z
      cases z
  have md : Mod K mg (hidT s1.heap H) := by
    obtain ⟨mc, l1, l2⟩ := lim
    exact ⟨inB, spaces glob, ⟨mb, spaces blt, blt2⟩, ⟨mc, spaces l1, l2⟩⟩
  have env : Env0 P w K mg (hidT s1.heap H) callerA [] s1 H := by
    refine ⟨rfl, md, fun b o e => of_hidT e, Nat.le_of_eq (hidT_size _ _), trivial, fun b hb => ?_, hok, .of_eq gens⟩
    exact absurd hb List.not_mem_nil
  refine codeAny_mono (F (hidT s1.heap H) callerA [] s1 H [.ref sc] [.ref sc] (fun v _ => v = .bl true) E0 rfl room env (.cons rfl .nil) prom) fun r s' h => ?_
  match r, h with
  | .error e, h => exact h.elim
  | .ok .next, h => exact h.elim
  | .ok .brk, h => exact h.elim
  | .ok .cont, h => exact h.elim
  | .ok (.ret u), ⟨v, H', os, bare, un, hok', rv, q⟩ =>
    subst q
    cases (show u = Value.bool true from rv)
    refine ⟨rfl, OldK.of_keep fun b o e => ?_, os, bare⟩
    cases hb : H b with
    | none => exact un.keep b o e hb (fun z => absurd z List.not_mem_nil) (by simp)
    | some u =>
      rcases only b with z | ⟨ob, xs, z⟩
      · rw [hb] at z
        cases z
      · have a1 := (hok b _ z).1
        have a2 := (hok' b _ (un.frzs b ob _ z)).1
        rw [e] at a1
        cases a1
        exact a2
theorem law_callG (inK : K.In s1.heap) (glob : s1.heap.Ns mainGlobals mg) (blt : s1.heap.Ns builtinsNs mb) (blt2 : ∀ x : Str, x ≠ "__name__" → mb x = bootBuiltins x) (lim : s1.heap.NoLimit) (gens : s1.gens = #[])
    (there : s1.heap.get? sc = some { cls := .type "list", data := .seq us.toArray }) (inS : IntsAre us ns) (len : ns.length ≤ sizeLine) (room : Room k callerA)
    (F : ∀ base : Heap, FnG P w K mg base CX0 k fa sp)
    (prom : ∀ H : Hp, SqL K H sc (ns.map V.int) → sp [.ref sc] H (fun v _ => v = .bl true) E0) :
    codeAny (model P w) callerA (.call (.ref fa) ⟨[.ref sc], []⟩) (fun r s' => r = .ok (.ret (.bool true)) ∧ OldK s1.heap s'.heap ∧ s'.os = s1.os ∧ AllBare s'.gens) s1 := by
  have rv := vals_ints inS
  have go := law_core (P := P) (w := w) (k := k) (fa := fa) (sp := sp) inK glob blt blt2 lim gens there room F
  cases hk : K.lookup sc with
  | some o =>
    have e := inK sc o hk
    rw [there] at e
    cases e
    refine go (fun _ => none) (fun _ => .inl rfl) (fun b u z => by cases (show (none : Option HO) = some u from z)) (fun b z => absurd rfl z) (fun z => absurd rfl z) (prom _ ?_)
    refine .inr ⟨_, us.toArray, _, hk, rfl, rfl, rfl, ?_, by simpa using rv⟩
    rw [List.size_toArray, inS.length]
    exact len
  | none =>
    have at_ : (fun b => if b = sc then some (HO.frz { cls := .type "list", data := .seq us.toArray } (.lst (ns.map V.int))) else none) sc = some (.frz { cls := .type "list", data := .seq us.toArray } (.lst (ns.map V.int))) := if_pos rfl
    refine go (fun b => if b = sc then some (.frz { cls := .type "list", data := .seq us.toArray } (.lst (ns.map V.int))) else none) (fun b => ?_) (fun b u z => ?_) (fun b z => ?_) (fun _ => hk) (prom _ (.inl (.inr ⟨_, at_⟩)))
    · by_cases hb : b = sc
      · subst hb
        exact .inr ⟨_, _, at_⟩
      · exact .inl (if_neg hb)
    · by_cases hb : b = sc
      · subst hb
        rw [at_] at z
        cases z
        refine ⟨there, ?_, us, _, rv, there⟩
        rw [List.length_map]
        exact len
      · have no := (if_neg hb).symm.trans z
        cases no
    · refine Classical.byContradiction fun hb => z (if_neg hb)
end
/-- the goal that k_head leaves, from the law's promise -/
theorem walkG {l : PySem.W.OpenLaw} {n k : Nat} {q : Program} {loose : List Str} {XP : (Str → Option Value) → Heap → Prop} {YP : World → Heap → Prop} {d : DefRec} {K : Params → PySem.W.Frag} {sp : PySem.W.Frag → Sp}
    (hn : l.most = some n) (hn2 : n ≤ sizeLine) (hdf : d.params.defaults = []) (room : Room k callerA) (hY : ∀ (w : World) (h : Heap), YP w h → (K w.params).In h)
    (F : ∀ (w : World) (mg : Str → Option Value) (fa : Addr) (h : Heap), (K w.params).In h → h.Ns mainGlobals mg → mg d.name = some (.ref fa) → ∀ base : Heap, FnG l.prog w (K w.params) mg base CX0 k fa (sp (K w.params)))
    (prom : ∀ (K : PySem.W.Frag) (H : Hp) (a : Addr) (ns : List Int), ns.length ≤ n → SqL K H a (ns.map V.int) → sp K [.ref a] H (fun v _ => v = .bl true) E0) :
    PySem.W.WalkO q loose XP YP l.row.toRowW d [] (fun f vs => PySem.call f vs) := by
  refine Att.attach_call hn hdf fun w s0 s1 mg mb fa o pm cd doc a vs ns G Y ho hd hcd hmg hobj hints hlen hg => ?_
  have inK := hY w _ Y
  exact law_callG inK G.T.g G.T.b G.T.builtins G.T.nolimit hg hobj hints (Nat.le_trans hlen hn2) room (F w mg fa _ inK G.T.g hmg) fun H hS => prom _ H a ns hlen hS
end U
namespace U
open PySem PySem.Spec PyProof.Rows L2 StX
theorem callR_or {X : Cx} {f : Value} {r1 r2 : List V → Hp → VK → Prop} (h1 : CallR X f r1) (h2 : CallR X f r2) : CallR X f (fun xs H Q => r1 xs H Q ∨ r2 xs H Q) := by
  intro pins s σ H xs us Q I r h
  rcases h with h | h
  · exact h1 pins s σ H xs us Q I r h
  · exact h2 pins s σ H xs us Q I r h
/-! ### defs called while an exception is handled -/
def FnHG (P : Program) (w : World) (K : PySem.W.Frag) (mg : Str → Option Value) (base : Heap) (CX : CXT) (k : Nat) (f : Addr) (sp : Sp) : Prop :=
  ∀ (A : Around) (outer : List Env) (s : Shared) (H : Hp) (us : List Value) (vs : List V) (Q : VK) (E : XK) (p : Addr × Obj), A.guards = some [] → L2H.RoomH k A → L2H.PinOk outer H s p → Env0 P w K mg base A outer s H → Vals vs us → sp vs H Q E → codeAny (model P w) A (.call (.ref f) ⟨us, []⟩) (CR CX outer P w H s Q E) s
section
variable {P : Program} {w : World} {K : PySem.W.Frag} {mg : Str → Option Value} {base : Heap} {CX : CXT} {k : Nat} {f : Addr} {sp : Sp}
theorem FnAt.okHG {x qual : Str} {st : Stmt} {N ps : List Str} (B : FnAt K x qual st f ps) (S : FnScope N ps (defScope st)) (len : ∀ vs H Q E, sp vs H Q E → vs.length = ps.length)
    (hbody : ∀ (cdv : Value) (A : Around) (outer : List Env) (s : Shared) (H : Hp) (vs : List V) (Q : VK) (E : XK) (p : Addr × Obj), A.guards = some [] → L2H.RoomH k (A.deeper (envOfC qual (defScope st) s.heap.objs.size f cdv)) → sp vs H Q E →
      ∃ t, PSs (L2H.cxH CX0 P w K mg base N qual (defScope st) f cdv A outer s H E p).nox (defBody st) t ∧ t { nx := fun _ H' => Q .non H', rt := Q } (start N vs) H) : FnHG P w K mg base CX0 (k + 1) f sp := by
  obtain ⟨fd, F, bi⟩ := B.ex
  intro A outer s H us vs Q E p g hr hp e0 r hs
  have hl := len _ _ _ _ hs
  have hb := bi s us (e0.mod.kin.keeps fun b o e => (e0.bs b o e).1) (by rw [List.append_nil, ← r.length]; exact hl)
  rw [List.append_nil] at hb
  obtain ⟨oc, od, kV, doc, pm, an, cdv, ct, osl, rfl, lk, hcd⟩ := F.ex
  have kin : K.In s.heap := e0.mod.kin.keeps fun b o e => (e0.bs b o e).1
  have lim : s.heap.NoLimit := e0.mod.nolimit.keeps fun b o e => (e0.bs b o e).1
  have names : ∀ y ∈ ps.zip us, (defScope st).names.lookup y.1 = some .local ∨ ((defScope st).names.lookup y.1 = some .cell ∧ ((cellsFrom (s.heap.objs.size + 1) (defScope st).names []).lookup y.1).isSome = true) := by
    rintro ⟨n, v⟩ hy
    rcases S.par n (List.of_mem_zip hy).1 with q | q
    · exact .inl q
    · exact .inr ⟨q, PySem.W.cellsFrom_some _ _ _ (.inl q)⟩
  refine codeAny_call_function hr.depth (kin _ _ lk) rfl S.co S.gen rfl (PySem.W.codeRec_of kin hcd) (hb _ _ _ _ ?_)
  refine wpAny_newFunctionEnv_cells S.kind names fun env he s1 z => ?_
  subst he
  refine ⟨lim.keeps z.toInCall.keep, codeAny_func ?_⟩
  obtain ⟨t, ht, hq⟩ := hbody cdv A outer s H vs Q E p g (hr.deeper _) hs
  have I : Inv (L2H.cxH CX0 P w K mg base N qual (defScope st) f cdv A outer s H E p) [] (start N vs) H s1 := L2H.inv_startH S hp e0 hl r z
  refine wpAny_mono (ht.nox.run [] s1 (start N vs) H _ I hq) (fun fl s' h' => ?_) fun _ _ h' => h'
  match fl, h' with
  | .ret u, ⟨v, σ', H', J, rv, q⟩ => exact ⟨v, H', J.os, J.bare, J.base, J.hok, rv, q⟩
  | .next, ⟨σ', H', J, q⟩ => exact ⟨.non, H', J.os, J.bare, J.base, J.hok, rfl, q⟩
  | .brk, ⟨_, _, _, q⟩ => exact q.elim
  | .cont, ⟨_, _, _, q⟩ => exact q.elim
end
/-- repr(x) in an except suite, x an instance with its own __repr__ -/
theorem call_reprOH {X : Cx} {CX : CXT} {n : Nat} {g C : Addr} {sp : Sp} {E : XK} {ea : Addr} {oe : Obj} {pn : List (Addr × Obj)} (gd : (X.suite ea ((ea, oe) :: pn)).A.guards = some []) (hs : PySem.W.findIn X.K (.ref C) "__repr__" = some (some (.ref g))) (hf : PySem.W.isFn X.K (.ref g) = true)
    (F : FnHG X.prog X.w X.K X.mg X.base CX n g sp) (hr : L2H.RoomH (n + 1) (X.suite ea ((ea, oe) :: pn)).A) (hx : Passes CX (X.suite ea ((ea, oe) :: pn)) E) : CallR (X.suite ea ((ea, oe) :: pn)) (.builtin "repr") (rReprO C sp E) := by
  intro pins s σ H xs us Q I r h
  obtain ⟨a, dx, fs, rfl, ha, q⟩ := h
  obtain ⟨u, rfl, ru⟩ := r.one
  cases (show u = Value.ref a from ru)
  obtain ⟨ox, od, J⟩ := ins_inst I ha
  obtain ⟨m, hF⟩ := I.fr
  have P1 := I.pin (ea, oe) (List.mem_append_left _ List.mem_cons_self)
  have hp : L2H.PinOk (X.suite ea ((ea, oe) :: pn)).stack H s (ea, oe) := ⟨P1.1, P1.2.1, fun hm => (List.mem_cons.mp (I.stkSub ea hm)).elim P1.2.2.1 P1.2.2.2.1, P1.2.2.2.2⟩
  have hun := hr.un
  have hr1 : L2H.RoomH n (X.suite ea ((ea, oe) :: pn)).A.in1 := ⟨by have := hr.dp; show (X.suite ea ((ea, oe) :: pn)).A.depth + 3 * n + 5 < _; omega, by show (X.suite ea ((ea, oe) :: pn)).A.units + 1 + 16 * n + 200 < _; omega⟩
  refine PySem.W.repr_K (by show (X.suite ea ((ea, oe) :: pn)).A.units + 1 < cLine; omega) hF I.ok.mod.kin J hs hf ?_
  refine wpAny_call ?_
  refine codeAny_mono (F (X.suite ea ((ea, oe) :: pn)).A.in1 (X.suite ea ((ea, oe) :: pn)).stack s H [.ref a] [.ref a] _ E (ea, oe) gd hr1 hp I.env0.in1 (.cons rfl .nil) q) fun z s' hq => ?_
  match z, hq with
  | .error er, hq => exact hx pins σ H s er s' I hq
  | .ok (.ret w), hq =>
    obtain ⟨v, H', I', rv, zt, ev, qz⟩ := I.after hq
    subst ev
    obtain ⟨tk, rfl⟩ := rv
    exact ⟨.str zt, H', I', ⟨tk, rfl⟩, qz⟩
  | .ok .next, hq => exact hq.elim
  | .ok .brk, hq => exact hq.elim
  | .ok .cont, hq => exact hq.elim
end U
namespace U
open PySem PySem.Spec PyProof.Rows L2 StX
theorem roomS {X : Cx} {a : Addr} {pn : List (Addr × Obj)} {k : Nat} (hr : Room k X.A) : L2H.RoomH k (X.suite a pn).A := ⟨hr.dp, hr.un⟩
end U
namespace U
open PySem PySem.Spec PyProof.Rows L2 StX
end U
namespace U
open PySem PySem.Spec PyProof.Rows L2 StX PySem.W
end U
namespace U
open PySem PySem.Spec PyProof.Rows L2 StX
/-! ### x op i, the class's own, i an int -/
/-! ### list(d.items()), the dict locked or not -/
end U
namespace U
open PySem PySem.Spec PyProof.Rows L2
/-! ### several clauses 'except x as n' -/
/-- what the clauses wish of an exception of the body, one after the other: class, slot of the name, suite -/
def wManyA (K : PySem.W.Frag) (Wout : WX) (D : Ends) : List (Value × Nat × (Addr → Value → Option Addr → TS)) → WX
  | [] => Wout
  | (c, i, ts) :: r => fun cls d σ H => ∃ b, PySem.W.exmOne K cls c = some b ∧
      (b = true → ∀ a, H a = none → ts a cls d { nx := fun σ' H' => D.nx (σ'.set i none) H', rt := D.rt, bk := fun σ' H' => D.bk (σ'.set i none) H', ct := fun σ' H' => D.ct (σ'.set i none) H' } (σ.set i (some (.ref a))) H) ∧
      (b = false → wManyA K Wout D r cls d σ H)
inductive HdsA (X : Cx) : List ExceptHandler → List (Value × Nat × (Addr → Value → Option Addr → TS)) → Prop
  | nil : HdsA X [] []
  | cons {x n : Str} {c : Value} {i : Nat} {ts : Addr → Value → Option Addr → TS} {b₀ : Stmt} {suite : List Stmt} {np pos' : Pos} {hds : List ExceptHandler} {l : List (Value × Nat × (Addr → Value → Option Addr → TS))} (hi : X.N[i]? = some n) (hln : X.env.kindOf n = some .local) (hc : Names X x c)
      (hsu : ∀ (a : Addr) (oe : Obj) (cls : Value) (d : Option Addr) (pn : List (Addr × Obj)), Zc cls d oe → (∃ vs, oe.data = .fields vs) → PSs (X.suite a ((a, oe) :: pn)) (b₀ :: suite) (ts a cls d)) (r : HdsA X hds l) :
      HdsA X (.ExceptHandler (some (.Name x np)) (some n) (b₀ :: suite) pos' :: hds) ((c, i, ts) :: l)
theorem ps_try_manyA {X : Cx} {body : List Stmt} {h₀ : ExceptHandler} {hds : List ExceptHandler} {l : List (Value × Nat × (Addr → Value → Option Addr → TS))} {pos : Pos} {tb : WX → TS} {Wout : WX}
    (hs : X.stack = X.env :: X.outer) (hf : X.env.frame = some X.env.locals) (hN : X.N.Nodup) (tk : Takes X Wout)
    (hb : ∀ (W : WX) (pn : List (Addr × Obj)) (xe : Value → Shared → Prop), Takes (X.tr pn xe) W → PassesOwn (model X.prog X.w) X.A X.env xe → PSs (X.tr pn xe) body (tb W))
    (hh : HdsA X (h₀ :: hds) l) : PS X (.Try body (h₀ :: hds) [] [] pos) (fun D σ H => tb (wManyA X.K Wout D l) D σ H) := by
  refine ⟨fun pins s σ H D I h => ?_⟩
  have ok := I.ok
  have hfr : X.A.frames = some (X.env :: X.outer) := by rw [ok.frames, hs]
  refine wpAny_Try_except ?_
  refine wpAny_mono ((hb (wManyA X.K Wout D l) (X.pn ++ pins) (fun e s₁ => wpAny (model X.prog X.w) X.A (noteFrame e X.env) (fun _ s₂ => wpAny (model X.prog X.w) X.A (setFlight e none) (fun _ s₃ =>
    wpAny (model X.prog X.w) X.A (handleBy e X.env (h₀ :: hds)) (SP X pins D) X.xe s₃) X.xe s₂) X.xe s₁) (fun u s' xx => ?_) PassesOwn.looking).run [] s σ H D (I.toTry _) h) (fun f s1 hsp => ?_) (fun e s1 he => he)
  · obtain ⟨a, B, sI, pins', σ', H', cls, d, rfl, J', nb, up, sky, na, os, ag, w⟩ := xx
    have J : Inv X pins σ' H' sI := J'.ofTry ok
    have sky' : Sky B (X.env :: X.outer) a (Zc cls d) X.env.locals s'.heap := by rw [← hs]; exact sky
    show wpAny (model X.prog X.w) X.A (noteFrame (.ref a) X.env) _ _ _
    refine Sky.land Zc.steady hfr hf sky' fun h3 fl3 up3 => ?_
    have J3 : Inv X pins σ' H' { s' with heap := h3 } := J.landed nb fl3.1 (up.trans up3) os ag
    obtain ⟨oe3, vs3, he3, hz3, hd3⟩ := fl3.there
    have notFr : ∀ {h : Heap} {o : Obj} {vs : Array Value}, h.FunFrames B (X.env :: X.outer) → h.get? a = some o → o.data = .fields vs → a ∉ frs (X.env :: X.outer) := fun {h o vs} ff e dd hm => by
      obtain ⟨_, o', e', hnf⟩ := ff.mem hm
      rw [e] at e'; cases e'
      exact hnf _ dd
    have nfr := notFr fl3.2.2.1 he3 hd3
    have nL : a ≠ X.env.locals := fun z => nfr (List.mem_filterMap.mpr ⟨X.env, List.mem_cons_self, by rw [hf, z]⟩)
    have nF : a ∉ X.fs := fun hm => by
      obtain ⟨e, he, q⟩ := List.mem_filterMap.mp hm
      exact nfr (List.mem_filterMap.mpr ⟨e, List.mem_cons_of_mem _ he, q⟩)
    have S3 := J3.suite he3 hd3 na nL nF
    have go : ∀ {hds' : List ExceptHandler} {l' : List (Value × Nat × (Addr → Value → Option Addr → TS))}, HdsA X hds' l' → wManyA X.K Wout D l' cls d σ' H' →
        wpAny (model X.prog X.w) X.A (handleBy (.ref a) X.env hds') (SP X pins D) X.xe { s' with heap := h3 } := by
      intro hds' l' hk
      induction hk with
      | nil =>
        intro w
        refine wpAny_handleBy_nil ?_
        obtain ⟨k1, k2, k3, oe, vs, T, oT, ts', he, hz, hd, h1, hr⟩ := id fl3
        unfold PySem.passOn
        refine wpAny_bind (wpAny_field he hd h1 ?_)
        rw [if_neg (show ¬ ((Value.ref T == Value.none) = true) from by simp)]
        have fin : wpAny (model X.prog X.w) X.A (setFlight (.ref a) X.env.frame) (fun _ s4 => wpAny (model X.prog X.w) X.A (throw (.ref a) : Sem Flow) (SP X pins D) X.xe s4) X.xe { s' with heap := h3 } := by
          rw [hf]
          refine HandSPX.setFlight_upZ fl3 fun h4 hh4 up4 => wpAny_throw (tk _ _ ?_)
          exact ⟨a, B, sI, pins, σ', H', cls, d, rfl, J, nb, (up.trans up3).trans up4, .inr (.inr (by rw [hs]; exact hh4)), na, os, ag, w⟩
        first
          | exact wpAny_bind (wpAny_pure (wpAny_bind fin))
          | exact wpAny_bind fin
      | @cons x n c i ts b₀ suite np pos' hds2 l2 hi hln hc hsu r ih =>
        intro w
        obtain ⟨b, hb1, hyes, hno⟩ := w
        have hloc : Loc X.env.scope n := .inl hln
        refine wpAny_handleBy_cons (codeAny_handlers_test ?_) (by intro q; cases q)
        have LT : PySem.W.Looks (model X.prog X.w) h3 (typeOf (.ref a)) cls := fun A Q E s k q => wpAny_typeOf_ref (k _ _ he3) (by rw [hz3.1]; exact q)
        have LM := PySem.W.exm_one (M := model X.prog X.w) (J3.kIn) LT hb1
        have test : ∀ {Q : Value → Shared → Prop} {E : Value → Shared → Prop}, Q c { s' with heap := h3 } → wpAny (model X.prog X.w) (X.A.mark (some (.ref a))) (eval (.Name x np) X.env) Q E { s' with heap := h3 } := fun {Q E} q => by
          obtain ⟨hg, hdbg, hm | ⟨hm, hv, hnn⟩⟩ := hc
          · exact ld_glob (X := X.suite a ((a, oe3) :: (X.pn ++ pins))) S3 hg hm q hdbg
          · exact ld_blt (X := X.suite a ((a, oe3) :: (X.pn ++ pins))) S3 hg hm hv q hnn hdbg
        refine test (LM.here ?_)
        cases b with
        | true =>
          refine codeAny_handlers_suite_as ?_
          refine HandSPX.lands_againZ fl3 fun h4 fl4 up4 => ?_
          have J4 : Inv X pins σ' H' { s' with heap := h4 } := J.landed nb fl4.1 ((up.trans up3).trans up4) os ag
          obtain ⟨oe4, vs4, he4, hz4, hd4⟩ := fl4.there
          have S4 := J4.suite he4 hd4 na nL nF
          refine store_ok (X := X.suite a ((a, oe4) :: (X.pn ++ pins))) (v := .ref a) S4 hN hi hloc rfl (fun s5 S5 => ?_) (.inr hln)
          refine wpAny_mono ((hsu a oe4 cls d (X.pn ++ pins) hz4 ⟨_, hd4⟩).run [] s5 _ H' _ S5 (hyes rfl a na)) (fun f s6 hsp => ?_) (fun _ _ z => False.elim z)
          have end_ : ∀ {σ6 : L2.St} {H6 : Hp} {Q : Shared → Prop}, Inv (X.suite a ((a, oe4) :: (X.pn ++ pins))) [] σ6 H6 s6 → (∀ s7, Inv X pins (σ6.set i none) H6 s7 → Q s7) →
              wpAny (model X.prog X.w) X.A (do bindName X.env n .none; unbindBehindTheSuite X.env n pos') (fun _ s7 => Q s7) X.xe s6 := fun {σ6 H6 Q} S6 hq => gone_ok (S6.unsuite ok) hN hi hln hq
          cases f with
          | next =>
            obtain ⟨σ6, H6, S6, q6⟩ := hsp
            exact end_ S6 fun s7 J7 => ⟨_, _, J7, q6⟩
          | brk =>
            obtain ⟨σ6, H6, S6, q6⟩ := hsp
            exact end_ S6 fun s7 J7 => ⟨_, _, J7, q6⟩
          | cont =>
            obtain ⟨σ6, H6, S6, q6⟩ := hsp
            exact end_ S6 fun s7 J7 => ⟨_, _, J7, q6⟩
          | ret u =>
            obtain ⟨v6, σ6, H6, S6, r6, q6⟩ := hsp
            exact end_ S6 fun s7 J7 => ⟨_, _, _, J7, r6, q6⟩
        | false =>
          show wpAny _ X.A (handleBy (.ref a) X.env hds2) _ _ _
          exact ih (hno rfl)
    exact go hh w
  · cases f with
    | next =>
      obtain ⟨σ', H', J', q⟩ := hsp
      exact wpAny_execs_nil ⟨σ', H', J'.ofTry ok, q⟩
    | brk =>
      obtain ⟨σ', H', J', q⟩ := hsp
      exact ⟨σ', H', J'.ofTry ok, q⟩
    | cont =>
      obtain ⟨σ', H', J', q⟩ := hsp
      exact ⟨σ', H', J'.ofTry ok, q⟩
    | ret u =>
      obtain ⟨v, σ', H', J', r, q⟩ := hsp
      exact ⟨v, σ', H', J'.ofTry ok, r, q⟩
end U
namespace U
open PySem L2
/-! ### facts of heaps, for the search -/
theorem carry {H H' : Hp} {a : Addr} {o : HO} (s : L2.Same H H') (h : H a = some o) : H' a = some o := s a o h
theorem carryNew {H : Hp} {p a : Addr} {o u : HO} (hp : H p = none) (h : H a = some u) : upd H p o a = some u := (Same.new hp) a u h
theorem freeUp {H : Hp} {p q : Addr} {o : HO} (h : upd H q o p = none) : H p = none := by
  by_cases e : p = q
  · subst e; rw [upd_same] at h; cases h
  · rw [upd_ne e] at h; exact h
theorem freeVia {H H' : Hp} {p : Addr} (s : L2.Same H H') (h : H' p = none) : H p = none := s.free h
theorem sameUp {H H1 : Hp} {p : Addr} {o : HO} (hp : H1 p = none) (s : L2.Same H H1) : L2.Same H (upd H1 p o) := s.trans (Same.new hp)
theorem sameVia {H H1 H2 : Hp} (b : L2.Same H1 H2) (a : L2.Same H H1) : L2.Same H H2 := a.trans b
theorem upd_facts {H H1 : Hp} {p : Addr} {o : HO} (h : upd H p o = H1) (n : H p = none) : L2.Same H H1 ∧ H1 p = some o := by
  subst h
  exact ⟨Same.new n, upd_same⟩
theorem nil_le : ([] : List V).length ≤ sizeLine := by decide
theorem one_le {a : V} : [a].length ≤ sizeLine := by show 1 ≤ sizeLine; decide
theorem two_le {a b : V} : [a, b].length ≤ sizeLine := by show 2 ≤ sizeLine; decide
theorem three_le {a b c : V} : [a, b, c].length ≤ sizeLine := by show 3 ≤ sizeLine; decide
theorem le_line {n : Nat} (h : n ≤ 100000) : n ≤ sizeLine := Nat.le_trans h (by decide)
theorem lt_line {n : Nat} (h : n ≤ 100000) : n < sizeLine := Nat.lt_of_le_of_lt h (by decide)
end U
namespace U
open PySem PySem.Spec PyProof.Rows L2 GQ PySem.SeqAt MeetsSeq MeetsSeq2 MeetsSeq3 SeqRoads2
open AutoSeq1 (wpAny_loadPart')
/-! ### defs with a star parameter -/
structure StarAt (K : PySem.W.Frag) (x qual : Str) (st : Stmt) (f : Addr) (ps : List Str) (pv : Str) : Prop where
  ex : ∃ fd, Fun K x qual st f fd ∧ ∀ us rest : List Value, us.length = ps.length → bindArgs fd ⟨us ++ rest, []⟩ = (newTuple rest >>= fun t => pure (ps.zip us ++ [(pv, t)]))
theorem StarAt.kp {K : PySem.W.Frag} {x qual : Str} {st : Stmt} {f : Addr} {ps : List Str} {pv : Str} (A : StarAt K x qual st f ps pv) : PySem.W.keepIn K (.ref f) = true := by
  obtain ⟨_, F, _⟩ := A.ex
  exact F.kp
/-- what is asked of the arguments: the named ones, then a new tuple of the rest -/
def spStar (n : Nat) (sp : Sp) : Sp := fun vs H Q E => ∃ ws rest, vs = ws ++ rest ∧ ws.length = n ∧ rest.length ≤ sizeLine ∧ ∀ p, H p = none → sp (ws ++ [V.ref p]) (upd H p (.tup rest)) Q E
section
variable {P : Program} {w : World} {K : PySem.W.Frag} {mg : Str → Option Value} {base : Heap} {x qual pv : Str} {st : Stmt} {f : Addr} {N ps : List Str} {k : Nat} {sp : Sp}
theorem StarAt.okX (B : StarAt K x qual st f ps pv) (S : FnScope N (ps ++ [pv]) (defScope st))
    (walk : ∀ (cdv : Value) (A : Around) (outer : List Env) (s : Shared) (H : Hp) (vs : List V) (Q : VK) (E : XK), Room k (A.deeper (envOfC qual (defScope st) s.heap.objs.size f cdv)) → sp vs H Q E →
      ∃ t, PSs (cxOf (L2.CX P w) P w K mg base N qual (defScope st) f cdv A outer s H E) (defBody st) t ∧ t { nx := fun _ H' => Q .non H', rt := Q } (start N vs) H) : FnR P w K mg base (L2.CX P w) (k + 1) f (spStar ps.length sp) := by
  obtain ⟨fd, F, hb⟩ := B.ex
  obtain ⟨oc, od, kV, doc, pm, an, cdv, ct, osl, rfl, lk, hcd⟩ := F.ex
  exact StX.fn_star lk hcd S StX.cxUp hb fun A outer s H vs Q E hr h => walk cdv A outer s H vs Q E hr h
theorem StarAt.ok (B : StarAt K x qual st f ps pv) (S : FnScope N (ps ++ [pv]) (defScope st))
    (walk : ∀ (cdv : Value) (A : Around) (outer : List Env) (s : Shared) (H : Hp) (vs : List V) (Q : VK) (E : XK), Room k (A.deeper (envOfC qual (defScope st) s.heap.objs.size f cdv)) → sp vs H Q E →
      ∃ t, PSs (cxOf CX0 P w K mg base N qual (defScope st) f cdv A outer s H E).nox (defBody st) t ∧ t { nx := fun _ H' => Q .non H', rt := Q } (start N vs) H) : FnR P w K mg base CX0 (k + 1) f (spStar ps.length sp) := by
  obtain ⟨fd, F, hb⟩ := B.ex
  obtain ⟨oc, od, kV, doc, pm, an, cdv, ct, osl, rfl, lk, hcd⟩ := F.ex
  refine StX.fn_star lk hcd S StX.cxUp_none hb fun A outer s H vs Q E hr h => ?_
  obtain ⟨t, a, b⟩ := walk cdv A outer s H vs Q E hr h
  exact ⟨t, a.nox, b⟩
end
/-! ### == by an own __eq__, inside lists and tuples -/
end U
namespace U
open PySem PySem.Spec PyProof.Rows L2 StX LamX
/-! ### defs with lambdas: the code object's place is told -/
structure CodeAt (K : PySem.W.Frag) (x qual : Str) (st : Stmt) (f c : Addr) (ps : List Str) : Prop where
  ex : ∃ (oc : Value) (od : Option Addr) (kV doc pm : Value) (an : Option Addr) (ct : Value) (osl : Array (Option Value)),
    K.lookup f = some ⟨oc, od, .func (PySem.W.fnOf x qual (defArgs st) (defBody st) (defScope st) .none kV doc pm an (.ref c) ct), osl⟩ ∧ PySem.W.codeIn K (.ref c) qual = true ∧ Binds K (PySem.W.fnOf x qual (defArgs st) (defBody st) (defScope st) .none kV doc pm an (.ref c) ct) ps []
section
variable {P : Program} {w : World} {K : PySem.W.Frag} {mg : Str → Option Value} {base : Heap} {k : Nat} {f c : Addr} {sp : Sp} {x qual : Str} {st : Stmt} {N ps : List Str}
theorem CodeAt.okG (B : CodeAt K x qual st f c ps) (S : FnScope N ps (defScope st)) (len : ∀ vs H Q E, sp vs H Q E → vs.length = ps.length)
    (walk : ∀ (A : Around) (outer : List Env) (s : Shared) (H : Hp) (vs : List V) (Q : VK) (E : XK), A.guards = some [] → Room k (A.deeper (envOfC qual (defScope st) s.heap.objs.size f (.ref c))) → sp vs H Q E →
      ∃ t, PSs (cxOf CX0 P w K mg base N qual (defScope st) f (.ref c) A outer s H E).nox (defBody st) t ∧ t { nx := fun _ H' => Q .non H', rt := Q } (start N vs) H) : FnG P w K mg base CX0 (k + 1) f sp := by
  obtain ⟨oc, od, kV, doc, pm, an, ct, osl, lk, hcd, bi⟩ := B.ex
  intro A outer s H us vs Q E g hr e0 r hs
  have hl := len _ _ _ _ hs
  have kin : K.In s.heap := e0.mod.kin.keeps fun b o e => (e0.bs b o e).1
  have lim : s.heap.NoLimit := e0.mod.nolimit.keeps fun b o e => (e0.bs b o e).1
  have names : ∀ y ∈ ps.zip us, (defScope st).names.lookup y.1 = some .local ∨ ((defScope st).names.lookup y.1 = some .cell ∧ ((cellsFrom (s.heap.objs.size + 1) (defScope st).names []).lookup y.1).isSome = true) := by
    rintro ⟨n, v⟩ hy
    rcases S.par n (List.of_mem_zip hy).1 with q | q
    · exact .inl q
    · exact .inr ⟨q, PySem.W.cellsFrom_some _ _ _ (.inl q)⟩
  have hb : BindsTo s (PySem.W.fnOf x qual (defArgs st) (defBody st) (defScope st) .none kV doc pm an (.ref c) ct) ⟨us, []⟩ (ps.zip us) := by
    have := bi s us kin (by rw [List.append_nil, ← r.length]; exact hl)
    rw [List.append_nil] at this
    exact this
  refine codeAny_call_function hr.depth (kin _ _ lk) rfl S.co S.gen rfl (PySem.W.codeRec_of kin hcd) (hb _ _ _ _ ?_)
  refine wpAny_newFunctionEnv_cells S.kind names fun env he s1 z => ?_
  subst he
  refine ⟨lim.keeps z.toInCall.keep, codeAny_func ?_⟩
  obtain ⟨t, ht, hq⟩ := walk A outer s H vs Q E g (hr.deeper _) hs
  have I : Inv (cxOf CX0 P w K mg base N qual (defScope st) f (.ref c) A outer s H E) [] (start N vs) H s1 := inv_start S hr.hd e0 hl r z
  refine wpAny_mono (ht.nox.run [] s1 (start N vs) H _ I hq) (fun fl s' h' => ?_) fun _ _ h' => h'
  match fl, h' with
  | .ret u, ⟨v, σ', H', J, rv, q⟩ => exact ⟨v, H', J.os, J.bare, J.base, J.hok, rv, q⟩
  | .next, ⟨σ', H', J, q⟩ => exact ⟨.non, H', J.os, J.bare, J.base, J.hok, rfl, q⟩
  | .brk, ⟨_, _, _, q⟩ => exact q.elim
  | .cont, ⟨_, _, _, q⟩ => exact q.elim
end
/-! ### the law's call, tables tracked -/
/-! ### what a lambda's caller makes of its exceptions -/
/-! ### heaps that grow but for the tables -/
end U
namespace U
open PySem PySem.Spec PyProof.Rows L2 StX LamX
end U
namespace U
open PySem PySem.Spec PyProof.Rows L2
/-! ### x not in a tuple, data of any depth -/
end U
namespace U
open PySem PySem.Spec PyProof.Rows L2
/-! ### dicts of ints in a list: in, not in, index -/
end U
namespace U
open PySem PySem.Spec PyProof.Rows L2 StX
end U
namespace U
open PySem PySem.Spec PyProof.Rows L2 StX NdefX
/-! ### a def of a class whose first statement is super().m(..) -/
/-- what is asked of the program around: the file of its code objects, super not hidden at the top -/
structure SupP (P : Program) (file : Str) : Prop where
  file : ((P.main.file : Str) == file) = true
  top : (P.main.scope.names.lookup ("super" : Str)).isSome = false
structure SupAt (K : PySem.W.Frag) (x qual : Str) (st : Stmt) (f c cc D : Addr) (ps : List Str) (file : Str) : Prop where
  ex : ∃ (oc : Value) (od : Option Addr) (kV doc pm : Value) (an : Option Addr) (ct : Value) (osl : Array (Option Value)),
    K.lookup f = some ⟨oc, od, .func (PySem.W.fnX x qual (defArgs st) (defBody st) (defScope st) [("__class__", cc)] .none kV doc pm an (.ref c) ct), osl⟩ ∧ PySem.W.codeIn K (.ref c) qual = true ∧ Binds K (PySem.W.fnX x qual (defArgs st) (defBody st) (defScope st) [("__class__", cc)] .none kV doc pm an (.ref c) ct) ps []
  code : ∃ (ccl : Value) (cdd : Option Addr) (vs : Array Value) (ccs : Array (Option Value)) (tf : Tok), K.lookup c = some ⟨ccl, cdd, .fields vs, ccs⟩ ∧ vs[2]? = some (.str file tf)
  cell : ∃ (cl : Value) (cld : Option Addr) (csl : Array (Option Value)), K.lookup cc = some ⟨cl, cld, .cell (some (.ref D)), csl⟩
  cls : ∃ cd, PySem.W.clsIn K D = some cd
  pos : ((defArgs st).posonlyargs ++ (defArgs st).args).head?.map (·.arg) = ps[0]?
  nosuper : PySem.W.nsIn K mainGlobals "super" = some none
  noop : PySem.W.nsIn K cStatics "thirdparty.any" = some none
  scS : (defScope st).names.lookup ("super" : Str) = some .globalImplicit
  scC : (defScope st).names.lookup ("__class__" : Str) = some .free
/-- the method that super().m finds, for an instance of the class at C -/
structure SupM (K : PySem.W.Frag) (C D : Addr) (m : Str) (f2 : Addr) : Prop where
  sub : PySem.W.mroIn K C (.ref D) = some true
  at_ : PySem.W.ks_superIn K C D m = some (some (.ref f2))
  ty : PySem.W.typeIn K (.ref f2) = some (.type "function")
  fi : PySem.W.fnIn K f2 = true
  cl : (m == ("__class__" : Str)) = false
section
variable {X : Cx} {pins : List (Addr × Obj)} {σ : L2.St} {H : Hp} {s : Shared} {C D dx x f2 : Addr} {fs : List (Str × V)} {m : Str}
/-- super().m(..) run within the def's own code -/
theorem run_super {CX : CXT} {k2 : Nat} {sp2 : Sp} {Q : VK} {E : XK} {t : TA} {body : List Stmt} {p0 p1 apos pos epos : Pos} {e : Expr} {qual : Str} {st : Stmt} {name : Str} {f c cc : Addr} {ps : List Str} {file s0 : Str}
    (B : SupAt X.K name qual st f c cc D ps file) (hP : SupP X.prog file) (M : SupM X.K C D m f2) (F : FnR X.prog X.w X.K X.mg X.base CX k2 f2 sp2) (hr : Room k2 X.A) (hx : Passes CX X E)
    (hsc : X.env.scope = defScope st) (hfu : X.env.func = some f) (hco : X.env.code = .ref c) (hcl : X.env.cells.lookup ("__class__" : Str) = some cc) (hps : ps[0]? = some s0) (hN : X.N[0]? = some s0) (hloc : X.env.scope.names.lookup s0 = some .local)
    (I : Inv X pins σ H s) (hv : σ[0]? = some (some (.ref x))) (ea : H x = some (.ins C dx fs)) (ha : PA X [e] t)
    (h : t σ H fun vs H1 => sp2 (.ref x :: vs) H1 Q E)
    (hint : interactive X.env = false) (hsw : swapsWith (.Call (.Attribute (.Call (.Name "super" p0) [] [] p1) m apos) [e] [] pos) none epos.line X.env = pure false)
    (hst : starEach [e] X.env = [(false, eval e X.env)]) (pl : Sem Bool)
    (he : eval (.Call (.Attribute (.Call (.Name "super" p0) [] [] p1) m apos) [e] [] pos) X.env = (do
      let ov ← attributeBase (.Call (.Name "super" p0) [] [] p1) m X.env (eval (.Call (.Name "super" p0) [] [] p1) X.env)
      standAt apos.atName
      let (f, first) ← holding [ov] (getMethod ov m pl)
      callWith pos f first (backTo pos (starEach [e] X.env)) [])) :
    PySem.wpAt (model X.prog X.w) X.A (.func body X.env) (exec (.Expr (.Call (.Attribute (.Call (.Name "super" p0) [] [] p1) m apos) [e] [] pos) epos) X.env)
      (fun fl s' => fl = .next ∧ ∃ v H2, Inv X pins σ H2 s' ∧ Q v H2) X.xe s := by
  obtain ⟨oc, od, kV, doc, pm, an, ct, osl, lk, hcd, bi⟩ := B.ex
  obtain ⟨ccl, cdd, vs2, ccs, tf, hcode, hvs⟩ := B.code
  obtain ⟨cl0, cld, csl, hcell⟩ := B.cell
  obtain ⟨cdD, hD⟩ := B.cls
  have KX := I.kIn
  obtain ⟨oD, hD1, hD2⟩ : ∃ oD, s.heap.get? D = some oD ∧ oD.data = .cls cdD := by
    unfold PySem.W.clsIn at hD
    split at hD
    · rename_i c d cd' sl ho
      cases hD
      exact ⟨_, KX _ _ ho, rfl⟩
    · cases hD
  obtain ⟨ar, har, har2⟩ : ∃ ar : Arg, ((defArgs st).posonlyargs ++ (defArgs st).args).head? = some ar ∧ ar.arg = s0 := by
    have := B.pos
    rw [hps] at this
    cases z : ((defArgs st).posonlyargs ++ (defArgs st).args).head? with
    | none => rw [z] at this; cases this
    | some ar => rw [z] at this; exact ⟨ar, rfl, Option.some.inj this⟩
  obtain ⟨mA, O, _, _, _, _⟩ := ins_get I.hok ea
  obtain ⟨odx, J, _⟩ := O.look
  refine PySem.ks_wpAt_Expr_any ?_ hint hsw
  refine PySem.ks_wpAt_MethodCall (pl := pl) ?_ he
  refine PySem.ks_wpAt_super_base (env := X.env) (fd := PySem.W.fnX name qual (defArgs st) (defBody st) (defScope st) [("__class__", cc)] .none kV doc pm an (.ref c) ct) (by show X.env.scope.names.lookup _ = _; rw [hsc]; exact B.scS) (by show X.env.scope.names.lookup _ = _; rw [hsc]; exact B.scC) M.cl hfu (KX _ _ lk) rfl (ar := ar) har hco (KX _ _ hcode) rfl hvs hP.file hP.top ?_
  have hgs : X.env.kindOf ("super" : Str) = some .globalImplicit := by show X.env.scope.names.lookup _ = _; rw [hsc]; exact B.scS
  refine PySem.W.ks_loadName_global I.ok.kind hgs ?_
  obtain ⟨mb, h1, h2⟩ := I.mod.blt
  refine Calls.loadGlobal_builtin (by rw [I.ok.glob]; exact I.mod.glob.keeps I.bk) (PySem.W.mg_none_of I.mod.kin I.mod.glob B.nosuper) (by rw [I.ok.blt]; exact h1.keeps I.bk) ((h2 "super" (by decide +kernel)).trans (by rfl)) ⟨rfl, ?_⟩
  refine wpAny_loadName_free I.ok.kind (by show X.env.scope.names.lookup _ = _; rw [hsc]; exact B.scC) hcl ⟨_, KX _ _ hcell, rfl⟩ ?_
  obtain ⟨mL, hns, hal⟩ := I.loc
  obtain ⟨u, ru, hlook⟩ := hal 0 s0 (.ref x) hN hv (Or.inl hloc)
  obtain rfl : u = Value.ref x := ru
  have hmL : mL s0 = some (.ref x) := by
    rcases hlook with ⟨_, z⟩ | ⟨z, _⟩
    · exact z
    · rcases z with z | z
      · rw [show X.env.kindOf s0 = some .local from hloc] at z; cases z
      · rw [show X.env.kindOf s0 = some .local from hloc] at z; cases z
  rw [har2]
  refine wpAny_loadName_local I.ok.kind hloc hns hmL ?_
  obtain ⟨hh, g, d, t0, os⟩ := s
  refine PySem.ks_wpAny_isType_cls hD1 hD2 ⟨rfl, ?_⟩
  refine PySem.ks_wpAny_call_super hD1 hD2 J.at_ J.cls (fun c e => ?_) (PySem.W.looks_mroIn KX M.sub) (fun h' ee kk => ?_)
  · have := J.no
    unfold PySem.W.notCls at this
    rw [e] at this
    exact Bool.noConfusion this
  -- the super object stands; its method
  have I2 : Inv X pins σ H ⟨h', g, d, t0, os⟩ := I.kept (t' := t0) kk
  have KX2 := I2.kIn
  cases hc : PySem.W.clsIn X.K C with
  | none => have := M.at_; unfold PySem.W.ks_superIn at this; rw [hc] at this; cases this
  | some cd =>
    have hm := M.at_
    unfold PySem.W.ks_superIn at hm
    rw [hc] at hm
    obtain ⟨of, hof, hofc⟩ : ∃ of, h'.get? f2 = some of ∧ of.cls = .type "function" := by
      have ht' : (X.K.lookup f2).map (·.cls) = some (.type "function") := M.ty
      cases z : X.K.lookup f2 with
      | none => rw [z] at ht'; cases ht'
      | some of => rw [z] at ht'; exact ⟨of, KX2 _ _ z, Option.some.inj ht'⟩
    refine PySem.ks_wpAny_getMethod_super ee (PySem.W.looks_opaque KX2 B.noop) (l₀ := cd.mro) ?_ rfl KX2 hm hof hofc (PySem.W.ks_ne KX J hc) M.cl ?_
    · exact fun A Q E s k q => wpAny_bind ((PySem.W.looks_clsIn KX2 hc) A _ E s k (wpAny_pure q))
    · have I3 : Inv X ((h'.objs.size, PySem.W.methodObj (.ref f2) (.ref x)) :: pins) σ H ⟨h'.push (PySem.W.methodObj (.ref f2) (.ref x)), g, d, t0 + 1, os⟩ := ClX.met_new I2
      refine ClX.callwith_cm I3 (ClX.base_none I2 (Nat.le_refl _)) M.fi (thn (ha.run pos _ _ σ H _ I3 h) fun us s3 ⟨vs, H2, I4, rv, q2⟩ => ⟨⟨ClX.pin_at I4, I4.kIn⟩, ?_⟩) hst rfl
      exact thn (ClX.run_cm F hr hx I4 rv q2) fun v s4 ⟨z, H3, I5, _, q3⟩ => ⟨rfl, z, H3, I5, q3⟩
end
/-- the def, by its first statement super().m(e) and the rest -/
theorem SupAt.okX {P : Program} {w : World} {K : PySem.W.Frag} {mg : Str → Option Value} {base : Heap} {CX : CXT} {k k2 : Nat} {name qual : Str} {st : Stmt} {f c cc D C f2 : Addr} {N ps : List Str} {file s0 m : Str} {sp sp2 : Sp} {p0 p1 apos pos epos : Pos} {e : Expr} {rest : List Stmt}
    (B : SupAt K name qual st f c cc D ps file) (hP : SupP P file) (M : SupM K C D m f2) (F : FnR P w K mg base CX k2 f2 sp2) (hk : k2 ≤ k)
    (S : NScope N ps ["__class__"] (defScope st)) (hps : ps[0]? = some s0) (hb : defBody st = .Expr (.Call (.Attribute (.Call (.Name "super" p0) [] [] p1) m apos) [e] [] pos) epos :: rest)
    (len : ∀ vs H Q E, sp vs H Q E → vs.length = ps.length)
    (walk : ∀ (A : Around) (outer : List Env) (s : Shared) (H : Hp) (vs : List V) (Q : VK) (E : XK) (X : Cx), X = ncx CX P w K mg base N ⟨name, qual, defArgs st, defBody st, defScope st, [("__class__", cc)], c⟩ f A outer s H E → Room k X.A → sp vs H Q E →
      Passes CX X E ∧ interactive X.env = false ∧ swapsWith (.Call (.Attribute (.Call (.Name "super" p0) [] [] p1) m apos) [e] [] pos) none epos.line X.env = pure false ∧ starEach [e] X.env = [(false, eval e X.env)] ∧
      (∃ pl : Sem Bool, eval (.Call (.Attribute (.Call (.Name "super" p0) [] [] p1) m apos) [e] [] pos) X.env = (do
        let ov ← attributeBase (.Call (.Name "super" p0) [] [] p1) m X.env (eval (.Call (.Name "super" p0) [] [] p1) X.env)
        standAt apos.atName
        let (f, first) ← holding [ov] (getMethod ov m pl)
        callWith pos f first (backTo pos (starEach [e] X.env)) [])) ∧
      ∃ (x dx : Addr) (fs : List (Str × V)) (t : TA), vs[0]? = some (.ref x) ∧ H x = some (.ins C dx fs) ∧ PA X [e] t ∧
        t (startF N vs [none]) H fun us H1 => sp2 (.ref x :: us) H1 (fun _ H2 => ∃ tt, PSs X rest tt ∧ tt { nx := fun _ H' => Q .non H', rt := Q } (startF N vs [none]) H2) E) :
    FnR P w K mg base CX (k + 1) f sp := by
  obtain ⟨oc, od, kV, doc, pm, an, ct, osl, lk, hcd, bi⟩ := B.ex
  intro A outer s H us vs Q E hr e0 r hs
  have hl := len _ _ _ _ hs
  have kin : K.In s.heap := e0.mod.kin.keeps fun b o e => (e0.bs b o e).1
  have lim : s.heap.NoLimit := e0.mod.nolimit.keeps fun b o e => (e0.bs b o e).1
  have hbn : BindsTo s (PySem.W.fnX name qual (defArgs st) (defBody st) (defScope st) [("__class__", cc)] .none kV doc pm an (.ref c) ct) ⟨us, []⟩ (ps.zip us) := by
    have := bi s us kin (by rw [List.append_nil, ← r.length]; exact hl)
    rw [List.append_nil] at this
    exact this
  refine codeAny_call_function hr.depth (kin _ _ lk) rfl S.co S.gen rfl (PySem.W.codeRec_of kin hcd) (hbn _ _ _ _ ?_)
  refine wpAny_newFunctionEnv S.nocell (fun ⟨n, _⟩ hy => S.par n (List.of_mem_zip hy).1) (fun h₁ hns hsb => ⟨lim.fresh _ hsb, ?_⟩) S.kind
  generalize hF : (⟨name, qual, defArgs st, defBody st, defScope st, [(("__class__" : Str), cc)], c⟩ : NF) = FF at walk
  have hFc : FF.cl = [(("__class__" : Str), cc)] := by rw [← hF]
  have hFs : FF.scope = defScope st := by rw [← hF]
  have hFb : FF.body = defBody st := by rw [← hF]
  have hFcc : FF.c = c := by rw [← hF]
  have henv : envF FF f s.heap.objs.size = PySem.W.envX qual (defScope st) s.heap.objs.size f (.ref c) [(("__class__" : Str), cc)] := by rw [← hF]
  have kp : ∀ b o, s.heap.get? b = some o → h₁.get? b = some o := fun b o e => hsb.extBut b o (Nat.ne_of_lt (Heap.lt_size e)) (Heap.get?_push_of_some _ e)
  obtain ⟨cl0, cld, csl, hcell⟩ := B.cell
  have CA : CellsAt FF.cl ["__class__"] [none] s.heap H := by
    rw [hFc]
    refine ⟨rfl, fun y a hy => ?_, fun a b a' h1 h2 => ?_, fun i y hi => ?_⟩
    · have : a = cc := by
        have hm := PySem.mem_of_lookup hy
        simp only [List.mem_singleton] at hm
        exact (Prod.mk.inj hm).2
      subst this
      exact ⟨(e0.bs _ _ (e0.mod.kin _ _ hcell)).2, _, _, kin _ _ hcell, rfl⟩
    · have m1 := PySem.mem_of_lookup h1
      have m2 := PySem.mem_of_lookup h2
      simp only [List.mem_singleton] at m1 m2
      rw [(Prod.mk.inj m1).1, (Prod.mk.inj m2).1]
    · match i, hi with
      | 0, hi =>
        cases hi
        exact ⟨cc, by simp [List.lookup], fun v hv => by cases hv⟩
      | i + 1, hi => simp at hi
  have I : Inv (ncx CX P w K mg base N FF f A outer s H E) [] (startF N vs [none]) H { s with heap := h₁, toks := s.toks + (ps.zip us).length } := inv_startN (by rw [hFs]; exact S) hr.hd e0 hl r CA hns kp
  obtain ⟨hx, hint, hsw, hst, ⟨pl, he⟩, x, dx, fs, t, hv0, ea, ha, hq⟩ := walk A outer s H vs Q E _ rfl (hr.deeper _) hs
  show codeAny _ _ (.func (defBody st) (PySem.W.envX qual (defScope st) s.heap.objs.size f (.ref c) [(("__class__" : Str), cc)])) _ _
  rw [← henv]
  refine PySem.ks_codeAny_funcAt ?_
  rw [hb]
  refine PySem.ks_wpAt_execs_cons ?_
  have hps0 : ps.length ≠ 0 := by
    intro z
    cases ps with
    | nil => cases hps
    | cons a b => cases z
  have hv : (startF N vs [none])[0]? = some (some (.ref x)) := by
    unfold startF
    rw [List.getElem?_append_left (by rw [List.length_map]; omega), List.getElem?_map, hv0]
    rfl
  have hN0 : N[0]? = some s0 := by
    have : (ps ++ [("__class__" : Str)])[0]? = some s0 := by rw [List.getElem?_append_left (by omega)]; exact hps
    rw [← S.pre, List.getElem?_take_of_lt (by simp)] at this
    exact this
  have hloc0 : (defScope st).names.lookup s0 = some .local := S.par s0 (List.mem_of_getElem? hps)
  refine PySem.ks_wpAt_mono (run_super (X := ncx CX P w K mg base N FF f A outer s H E) (body := _) B hP M F ((hr.deeper _).mono hk) hx hFs rfl (by show Value.ref FF.c = _; rw [hFcc]) (by show FF.cl.lookup _ = _; rw [hFc]; simp [List.lookup]) hps hN0 (by show FF.scope.names.lookup s0 = _; rw [hFs]; exact hloc0) I hv ea ha hq hint hsw hst pl he) (fun fl s' hh => ?_) fun e s' hh => hh
  obtain ⟨rfl, _, H2, I2, tt, htt, hqq⟩ := hh
  refine wpAt_of_wpAny ?_
  have fin : ∀ {σ' : L2.St} {H' : Hp} {v : V} {u : Value} {s' : Shared}, Inv (ncx CX P w K mg base N FF f A outer s H E) [] σ' H' s' → L2.RelV v u → Q v H' → CE outer P w H s Q u s' :=
    fun {σ' H' v u s'} J rv q => ⟨v, H', J.os, J.bare, J.base, J.hok, rv, q⟩
  refine wpAny_mono (htt.run [] _ (startF N vs [none]) H2 _ I2 hqq) (fun fl s' hs => ?_) fun e s' hs => hs
  cases fl with
  | ret u =>
    obtain ⟨v, σ', H', J, rv, q⟩ := hs
    exact fin J rv q
  | next =>
    obtain ⟨σ', H', J, q⟩ := hs
    exact fin (v := V.non) (u := Value.none) J rfl q
  | brk =>
    obtain ⟨_, _, _, q⟩ := hs
    exact False.elim q
  | cont =>
    obtain ⟨_, _, _, q⟩ := hs
    exact False.elim q
end U
namespace U
open PySem PySem.Spec PyProof.Rows L2 StX
/-! ### {o!r}, o an instance with its own __repr__ -/
end U
namespace U
open PySem PySem.Spec PyProof.Rows L2 GQ PySem.SeqAt MeetsSeq MeetsSeq2 MeetsSeq3 SeqRoads2
open AutoSeq1 (wpAny_loadPart')
/-! ### == of lists and tuples, with either result -/
/-- D x y H c: == of the two gives c -/
abbrev EqvB := V → V → Hp → Bool → Prop
def MonB (D : EqvB) : Prop := ∀ x y H H' c, Ext H H' → D x y H c → D x y H' c
def EqH (X : Cx) (n : Nat) (D : EqvB) : Prop :=
  ∀ (A : Around) (pins : List (Addr × Obj)) (s : Shared) (σ : L2.St) (H : Hp) (x y : V) (u v : Value) (c : Bool), Sub X n A → Inv X pins σ H s → RelV x u → RelV y v → D x y H c →
    wpAny (model X.prog X.w) A (eqBool u v) (fun r s' => r = c ∧ ∃ H', Inv X pins σ H' s' ∧ Ext H H') X.xe s
section
variable {X : Cx} {n m : Nat} {D D' : EqvB}
theorem EqH.mono (h : EqH X n D) (hn : n ≤ m) : EqH X m D := fun A pins s σ H x y u v c sb => h A pins s σ H x y u v c (sb.mono hn)
theorem EqH.or (h : EqH X n D) (h' : EqH X n D') : EqH X n (fun x y H c => D x y H c ∨ D' x y H c) := fun A pins s σ H x y u v c sb I rx ry d => by
  rcases d with d | d
  · exact h A pins s σ H x y u v c sb I rx ry d
  · exact h' A pins s σ H x y u v c sb I rx ry d
theorem MonB.or (h : MonB D) (h' : MonB D') : MonB (fun x y H c => D x y H c ∨ D' x y H c) := fun x y H H' c e d => d.elim (fun d => .inl (h x y H H' c e d)) fun d => .inr (h' x y H H' c e d)
end
end U
namespace PySem.W
open PySem PySem.Calls PyProof.Rows
end PySem.W
namespace U
open PySem PySem.Spec PyProof.Rows L2 StX
end U
namespace PM
open U
/-! ### one-to-one maps between parts of 0 .. n - 1 -/
abbrev PF := Int → Option Int
structure WF (n : Int) (f : PF) : Prop where
  dom : ∀ x y, f x = some y → 0 ≤ x ∧ x < n ∧ 0 ≤ y ∧ y < n
  inj : ∀ x x' y, f x = some y → f x' = some y → x = x'
def tabN (f : PF) (n : Nat) : List (Int × Int) := (List.range n).filterMap fun (i : Nat) => (f (i : Int)).map fun y => ((i : Int), y)
def tab (n : Int) (f : PF) : List (Int × Int) := tabN f n.toNat
theorem mem_tabN {f : PF} {n : Nat} {x y : Int} : (x, y) ∈ tabN f n ↔ f x = some y ∧ ∃ i : Nat, i < n ∧ x = (i : Int) := by
  unfold tabN
  rw [List.mem_filterMap]
  constructor
  · rintro ⟨i, hi, e⟩
    rw [List.mem_range] at hi
    cases h : f (i : Int) with
    | none => rw [h] at e; cases e
    | some z => rw [h] at e; cases e; exact ⟨h, i, hi, rfl⟩
  · rintro ⟨h, i, hi, rfl⟩
    exact ⟨i, List.mem_range.mpr hi, by rw [h]; rfl⟩
theorem mem_tab {n : Int} {f : PF} (w : WF n f) {x y : Int} : (x, y) ∈ tab n f ↔ f x = some y := by
  unfold tab
  rw [mem_tabN]
  constructor
  · exact fun h => h.1
  · intro h
    have := w.dom x y h
    exact ⟨h, x.toNat, by omega, by omega⟩
theorem keys_tabN (f : PF) (n : Nat) : ((tabN f n).map (·.1)).Nodup := by
  induction n with
  | zero => exact List.nodup_nil
  | succ n ih =>
    have e : tabN f (n + 1) = tabN f n ++ ((f (n : Int)).map fun y => ((n : Int), y)).toList := by
      unfold tabN
      rw [List.range_succ, List.filterMap_append]
      cases h : f (n : Int) <;> simp [h]
    rw [e, List.map_append, List.nodup_append]
    refine ⟨ih, ?_, ?_⟩
    · cases f (n : Int) <;> simp
    · intro a ha b hb e
      subst e
      obtain ⟨p, hp, rfl⟩ := List.mem_map.mp ha
      obtain ⟨x, y⟩ := p
      obtain ⟨_, i, hi, ex⟩ := mem_tabN.mp hp
      cases h : f (n : Int) with
      | none => rw [h] at hb; simp at hb
      | some z =>
        rw [h] at hb
        simp at hb
        omega
theorem keys_tab (n : Int) (f : PF) : ((tab n f).map (·.1)).Nodup := keys_tabN f _
theorem lk_tab {n : Int} {f : PF} (w : WF n f) (x : Int) : lk (tab n f) x = f x := by
  cases h : f x with
  | some y => exact lk_some (keys_tab n f) ((mem_tab w).mpr h)
  | none =>
    cases e : lk (tab n f) x with
    | none => rfl
    | some y =>
      have := (mem_tab w).mp (lk_mem e)
      rw [h] at this; cases this
theorem tab_len (n : Int) (f : PF) : (tab n f).length ≤ n.toNat := by
  unfold tab tabN
  exact Nat.le_trans (List.length_filterMap_le _ _) (by simp)
/-! ### the operations -/
def idn (n : Int) : PF := fun x => if 0 ≤ x ∧ x < n then some x else none
def emp : PF := fun _ => none
def le (f g : PF) : Prop := ∀ x y, f x = some y → g x = some y
theorem wf_idn (n : Int) : WF n (idn n) := by
  refine ⟨fun x y h => ?_, fun x x' y h h' => ?_⟩
  · unfold idn at h
    split at h
    · cases h; omega
    · cases h
  · unfold idn at h h'
    split at h
    · split at h'
      · cases h; cases h'; rfl
      · cases h'
    · cases h
theorem wf_emp (n : Int) : WF n emp := ⟨fun _ _ h => (nomatch h), fun _ _ _ h => (nomatch h)⟩
/-- a dict of pairs tells f -/
structure DI (l : List (Int × Int)) (f : PF) : Prop where
  nd : (l.map (·.1)).Nodup
  at_ : ∀ x, lk l x = f x
theorem DI.mem {l : List (Int × Int)} {f : PF} (d : DI l f) {x y : Int} : (x, y) ∈ l ↔ f x = some y := by
  rw [← d.at_]
  exact ⟨lk_some d.nd, lk_mem⟩
theorem di_tab {n : Int} {f : PF} (w : WF n f) : DI (tab n f) f := ⟨keys_tab n f, lk_tab w⟩
theorem DI.vals {n : Int} {l : List (Int × Int)} {f : PF} (d : DI l f) (w : WF n f) : (l.map (·.2)).Nodup := by
  obtain ⟨nd, _⟩ := id d
  have key : ∀ r : List (Int × Int), (∀ p ∈ r, f p.1 = some p.2) → (r.map (·.1)).Nodup → (r.map (·.2)).Nodup := by
    intro r
    induction r with
    | nil => intro _ _; exact List.nodup_nil
    | cons p r ih =>
      intro h nd
      rw [List.map_cons, List.nodup_cons] at nd ⊢
      refine ⟨fun hm => ?_, ih (fun q hq => h q (List.mem_cons_of_mem _ hq)) nd.2⟩
      obtain ⟨q, hq, e⟩ := List.mem_map.mp hm
      have h1 := h p List.mem_cons_self
      have h2 := h q (List.mem_cons_of_mem _ hq)
      rw [e] at h2
      have := w.inj _ _ _ h1 h2
      exact nd.1 (by rw [this]; exact List.mem_map.mpr ⟨q, hq, rfl⟩)
  exact key l (fun p hp => d.mem.mp hp) nd
theorem di_of {l : List (Int × Int)} {f : PF} (nd : (l.map (·.1)).Nodup) (h : ∀ x y, (x, y) ∈ l ↔ f x = some y) : DI l f := by
  refine ⟨nd, fun x => ?_⟩
  cases e : f x with
  | some y => exact lk_some nd ((h x y).mpr e)
  | none =>
    cases e2 : lk l x with
    | none => rfl
    | some y =>
      have := (h x y).mp (lk_mem e2)
      rw [e] at this; cases this
end PM
namespace PM
open U
/-! ### powers -/
def iter (f : PF) : Nat → PF
  | 0 => fun x => some x
  | k + 1 => fun x => (iter f k x).bind f
structure Row (f : PF) (e : Int) (r : List Int) : Prop where
  h0 : r[0]? = some e
  st : ∀ (i : Nat) (a b : Int), r[i]? = some a → r[i + 1]? = some b → f a = some b ∧ b ≠ e
theorem Row.ne {f : PF} {e : Int} {r : List Int} (w : ∀ x x' y, f x = some y → f x' = some y → x = x') (R : Row f e r) : ∀ (i k : Nat) (a : Int), r[i]? = some a → r[i + k + 1]? = some a → False
  | 0, k, a, h1, h2 => by
    rw [R.h0] at h1
    cases h1
    have hk : ∃ b, r[k]? = some b := by
      have : 0 + k + 1 < r.length := (List.getElem?_eq_some_iff.mp h2).1
      exact ⟨_, List.getElem?_eq_getElem (by omega)⟩
    obtain ⟨b, hb⟩ := hk
    have := R.st k b e hb (by rw [Nat.zero_add] at h2; exact h2)
    exact this.2 rfl
  | i + 1, k, a, h1, h2 => by
    have l1 : i + 1 < r.length := (List.getElem?_eq_some_iff.mp h1).1
    have l2 : i + 1 + k + 1 < r.length := (List.getElem?_eq_some_iff.mp h2).1
    obtain ⟨b, hb⟩ : ∃ b, r[i]? = some b := ⟨_, List.getElem?_eq_getElem (by omega)⟩
    obtain ⟨c, hc⟩ : ∃ c, r[i + k + 1]? = some c := ⟨_, List.getElem?_eq_getElem (by omega)⟩
    have e1 := (R.st i b a hb h1).1
    have h2' : r[i + k + 1 + 1]? = some a := by rw [show i + k + 1 + 1 = i + 1 + k + 1 by omega]; exact h2
    have e2 := (R.st (i + k + 1) c a hc h2').1
    have : b = c := w _ _ _ e1 e2
    subst this
    exact Row.ne w R i k b hb hc
theorem nodup_of_get {l : List Int} (h : ∀ (i k : Nat) (a : Int), l[i]? = some a → l[i + k + 1]? = some a → False) : l.Nodup := by
  induction l with
  | nil => exact List.nodup_nil
  | cons x r ih =>
    rw [List.nodup_cons]
    refine ⟨fun hm => ?_, ih fun i k a h1 h2 => ?_⟩
    · obtain ⟨j, hj⟩ := List.mem_iff_getElem?.mp hm
      exact h 0 j x rfl (by rw [Nat.zero_add]; exact hj)
    · refine h (i + 1) k a h1 ?_
      rw [show i + 1 + k + 1 = (i + k + 1) + 1 by omega]
      exact h2
theorem Row.nd {n : Int} {f : PF} {e : Int} {r : List Int} (w : WF n f) (R : Row f e r) : r.Nodup := nodup_of_get (R.ne w.inj)
theorem Row.dom {n : Int} {f : PF} {e : Int} {r : List Int} (w : WF n f) (R : Row f e r) (h1 : 0 ≤ e) (h2 : e < n) : ∀ x ∈ r, 0 ≤ x ∧ x < n := by
  intro x hx
  obtain ⟨i, hi⟩ := List.mem_iff_getElem?.mp hx
  cases i with
  | zero => rw [R.h0] at hi; cases hi; exact ⟨h1, h2⟩
  | succ i =>
    have l1 : i + 1 < r.length := (List.getElem?_eq_some_iff.mp hi).1
    obtain ⟨b, hb⟩ : ∃ b, r[i]? = some b := ⟨_, List.getElem?_eq_getElem (by omega)⟩
    have := w.dom _ _ (R.st i b x hb hi).1
    omega
end PM
namespace PM
open U
/-! ### the rules of the operators -/
/-! ### parts -/
/-! ### powers -/
end PM
namespace PM
open U
/-! ### rows told by their first element -/
def IsRow (f : PF) (e : Int) (r : List Int) : Prop := ∃ pre z, r = pre ++ [z] ∧ Row f e r ∧ (f z = none ∨ f z = some e)
theorem IsRow.get {f : PF} {e : Int} {r r' : List Int} (h : IsRow f e r) (h' : IsRow f e r') : ∀ (i : Nat) (a : Int), r[i]? = some a → r'[i]? = some a
  | 0, a, e1 => by
    obtain ⟨_, _, _, R, _⟩ := h
    obtain ⟨_, _, _, R', _⟩ := h'
    rw [R.h0] at e1
    rw [R'.h0]
    exact e1
  | i + 1, a, e1 => by
    have ih := IsRow.get h h' i
    obtain ⟨_, _, _, R, _⟩ := h
    obtain ⟨pre', z', q', R', st'⟩ := h'
    have l1 : i + 1 < r.length := (List.getElem?_eq_some_iff.mp e1).1
    obtain ⟨b, hb⟩ : ∃ b, r[i]? = some b := ⟨_, List.getElem?_eq_getElem (by omega)⟩
    obtain ⟨f1, ne⟩ := R.st i b a hb e1
    have hb' := ih b hb
    cases e2 : r'[i + 1]? with
    | some c =>
      have := (R'.st i b c hb' e2).1
      rw [f1] at this
      exact this.symm
    | none =>
      exfalso
      have l2 : i < r'.length := (List.getElem?_eq_some_iff.mp hb').1
      have l3 := List.getElem?_eq_none_iff.mp e2
      subst q'
      rw [List.length_append, List.length_singleton] at l2 l3
      have ei : i = pre'.length := by omega
      subst ei
      have : (pre' ++ [z'])[pre'.length]? = some z' := by simp
      rw [this] at hb'
      cases hb'
      rcases st' with q | q
      · rw [f1] at q; cases q
      · rw [f1] at q; exact ne (Option.some.inj q)
open Classical in
noncomputable def rowN (f : PF) (e : Int) : List Int := if h : ∃ r, IsRow f e r then h.choose else []
theorem IsRow.head {f : PF} {e : Int} {r : List Int} (h : IsRow f e r) : r[0]? = some e := by
  obtain ⟨_, _, _, R, _⟩ := h
  exact R.h0
theorem IsRow.mem {f : PF} {e : Int} {r : List Int} (h : IsRow f e r) : e ∈ r := List.mem_of_getElem? h.head
theorem IsRow.dom {n : Int} {f : PF} {e : Int} {r : List Int} (w : WF n f) (h : IsRow f e r) (h1 : 0 ≤ e) (h2 : e < n) : ∀ x ∈ r, 0 ≤ x ∧ x < n := by
  obtain ⟨_, _, _, R, _⟩ := h
  exact R.dom w h1 h2
theorem IsRow.nd {n : Int} {f : PF} {e : Int} {r : List Int} (w : WF n f) (h : IsRow f e r) : r.Nodup := by
  obtain ⟨_, _, _, R, _⟩ := h
  exact R.nd w
/-! ### which rows are begun -/
/-! ### closed rows -/
/-! ### all parts -/
/-! ### ordered by the first elements -/
end PM
namespace PM
open U
/-! ### powers by the law's own way; great exponents -/
end PM
namespace PM
open U
/-! ### where powers repeat -/
end PM
namespace My
open PySem L2
def top (i : Nat) : Stmt := PySem.Challenge.pw_chainmaps_k02_made_maps.main.body.getD i (.Pass ⟨0, 0, 0, 0⟩)
abbrev s_is_integer : Stmt := top 10
abbrev n_is_integer : List Str := ["value"]
theorem sc_is_integer : FnScope n_is_integer ["value"] (defScope s_is_integer) := ⟨rfl, rfl, rfl, by decide +kernel, rfl, by decide +kernel, by decide +kernel⟩
abbrev s_in_range : Stmt := top 11
abbrev n_in_range : List Str := ["value", "least", "most"]
theorem sc_in_range : FnScope n_in_range ["value", "least", "most"] (defScope s_in_range) := ⟨rfl, rfl, rfl, by decide +kernel, rfl, by decide +kernel, by decide +kernel⟩
abbrev s_check_size : Stmt := top 12
abbrev n_check_size : List Str := ["size"]
theorem sc_check_size : FnScope n_check_size ["size"] (defScope s_check_size) := ⟨rfl, rfl, rfl, by decide +kernel, rfl, by decide +kernel, by decide +kernel⟩
abbrev s_check_elements : Stmt := top 13
abbrev n_check_elements : List Str := ["size", "points", "seen", "element"]
theorem sc_check_elements : FnScope n_check_elements ["size", "points"] (defScope s_check_elements) := ⟨rfl, rfl, rfl, by decide +kernel, rfl, by decide +kernel, by decide +kernel⟩
abbrev s_are_arrows : Stmt := top 14
abbrev n_are_arrows : List Str := ["size", "arrows", "targets", "source", "target"]
theorem sc_are_arrows : FnScope n_are_arrows ["size", "arrows"] (defScope s_are_arrows) := ⟨rfl, rfl, rfl, by decide +kernel, rfl, by decide +kernel, by decide +kernel⟩
abbrev s_Map__init : Stmt := inClass (top 18) 0
abbrev n_Map__init : List Str := ["self", "size", "arrows", "source"]
theorem sc_Map__init : FnScope n_Map__init ["self", "size", "arrows"] (defScope s_Map__init) := ⟨rfl, rfl, rfl, by decide +kernel, rfl, by decide +kernel, by decide +kernel⟩
abbrev s_Map_identity : Stmt := inClass (top 18) 1
abbrev n_Map_identity : List Str := ["cls", "size", "element"]
theorem sc_Map_identity : FnScope n_Map_identity ["cls", "size"] (defScope s_Map_identity) := ⟨rfl, rfl, rfl, by decide +kernel, rfl, by decide +kernel, by decide +kernel⟩
abbrev s_Map_empty : Stmt := inClass (top 18) 2
abbrev n_Map_empty : List Str := ["cls", "size"]
theorem sc_Map_empty : FnScope n_Map_empty ["cls", "size"] (defScope s_Map_empty) := ⟨rfl, rfl, rfl, by decide +kernel, rfl, by decide +kernel, by decide +kernel⟩
abbrev s_Map_chain : Stmt := inClass (top 18) 3
abbrev n_Map_chain : List Str := ["cls", "size", "points"]
theorem sc_Map_chain : FnScope n_Map_chain ["cls", "size", "points"] (defScope s_Map_chain) := ⟨rfl, rfl, rfl, by decide +kernel, rfl, by decide +kernel, by decide +kernel⟩
abbrev s_Map_cycle : Stmt := inClass (top 18) 4
abbrev n_Map_cycle : List Str := ["cls", "size", "points"]
theorem sc_Map_cycle : FnScope n_Map_cycle ["cls", "size", "points"] (defScope s_Map_cycle) := ⟨rfl, rfl, rfl, by decide +kernel, rfl, by decide +kernel, by decide +kernel⟩
abbrev s_Map_swap : Stmt := inClass (top 18) 5
abbrev n_Map_swap : List Str := ["cls", "size", "one", "other", "arrows", "element"]
theorem sc_Map_swap : FnScope n_Map_swap ["cls", "size", "one", "other"] (defScope s_Map_swap) := ⟨rfl, rfl, rfl, by decide +kernel, rfl, by decide +kernel, by decide +kernel⟩
abbrev s_Map_size : Stmt := inClass (top 18) 6
abbrev s_Map_arrows : Stmt := inClass (top 18) 7
abbrev n_Map_arrows : List Str := ["self"]
theorem sc_Map_arrows : FnScope n_Map_arrows ["self"] (defScope s_Map_arrows) := ⟨rfl, rfl, rfl, by decide +kernel, rfl, by decide +kernel, by decide +kernel⟩
abbrev s_Map__repr : Stmt := inClass (top 18) 26
abbrev n_Map__repr : List Str := ["self"]
theorem sc_Map__repr : FnScope n_Map__repr ["self"] (defScope s_Map__repr) := ⟨rfl, rfl, rfl, by decide +kernel, rfl, by decide +kernel, by decide +kernel⟩
abbrev s_InvalidSize__init : Stmt := inClass (top 2) 0
abbrev n_InvalidSize__init : List Str := ["self", "value"]
theorem sc_InvalidSize__init : FnScope n_InvalidSize__init ["self", "value"] (defScope s_InvalidSize__init) := ⟨rfl, rfl, rfl, by decide +kernel, rfl, by decide +kernel, by decide +kernel⟩
abbrev s_InvalidElement__init : Stmt := inClass (top 3) 0
abbrev n_InvalidElement__init : List Str := ["self", "value"]
theorem sc_InvalidElement__init : FnScope n_InvalidElement__init ["self", "value"] (defScope s_InvalidElement__init) := ⟨rfl, rfl, rfl, by decide +kernel, rfl, by decide +kernel, by decide +kernel⟩
abbrev s_l_hand : Stmt := top 22
abbrev n_l_hand : List Str := ["_law_script", "_law_k", "_law_cell", "_law_seed"]
theorem sc_l_hand : FnScope n_l_hand ["_law_script", "_law_k"] (defScope s_l_hand) := ⟨rfl, rfl, rfl, by decide +kernel, rfl, by decide +kernel, by decide +kernel⟩
abbrev s_l_draw : Stmt := top 23
abbrev n_l_draw : List Str := ["_law_pool", "_law_size", "_law_found"]
theorem sc_l_draw : FnScope n_l_draw ["_law_pool", "_law_size"] (defScope s_l_draw) := ⟨rfl, rfl, rfl, by decide +kernel, rfl, by decide +kernel, by decide +kernel⟩
abbrev s_l_made : Stmt := top 24
abbrev n_l_made : List Str := ["_law_door", "_law_size", "_law_row"]
theorem sc_l_made : FnScope n_l_made ["_law_door", "_law_size", "_law_row"] (defScope s_l_made) := ⟨rfl, rfl, rfl, by decide +kernel, rfl, by decide +kernel, by decide +kernel⟩
abbrev s_l_refused : Stmt := top 25
abbrev n_l_refused : List Str := ["_law_door", "_law_size", "_law_row", "e"]
theorem sc_l_refused : FnScope n_l_refused ["_law_door", "_law_size", "_law_row"] (defScope s_l_refused) := ⟨rfl, rfl, rfl, by decide +kernel, rfl, by decide +kernel, by decide +kernel⟩
abbrev s_l_mixed : Stmt := top 26
abbrev n_l_mixed : List Str := ["_law_pool", "_law_size", "_law_left", "_law_found", "_law_turn"]
theorem sc_l_mixed : FnScope n_l_mixed ["_law_pool", "_law_size"] (defScope s_l_mixed) := ⟨rfl, rfl, rfl, by decide +kernel, rfl, by decide +kernel, by decide +kernel⟩
abbrev s_l_bad : Stmt := top 27
abbrev n_l_bad : List Str := ["_law_size", "_law_odd", "_law_due", "_law_row", "_law_door"]
theorem sc_l_bad : FnScope n_l_bad ["_law_size", "_law_odd"] (defScope s_l_bad) := ⟨rfl, rfl, rfl, by decide +kernel, rfl, by decide +kernel, by decide +kernel⟩
abbrev s_l_right : Stmt := top 28
abbrev n_l_right : List Str := ["_law_size", "_law_row", "_law_due", "_law_same", "_law_at", "_law_number"]
theorem sc_l_right : FnScope n_l_right ["_law_size", "_law_row"] (defScope s_l_right) := ⟨rfl, rfl, rfl, by decide +kernel, rfl, by decide +kernel, by decide +kernel⟩
abbrev s_law : Stmt := top 29
abbrev n_law : List Str := ["_law_script", "_law_k", "_law_pool", "_law_size", "_law_odd", "_law_door"]
theorem sc_law : FnScope n_law ["_law_script"] (defScope s_law) := ⟨rfl, rfl, rfl, by decide +kernel, rfl, by decide +kernel, by decide +kernel⟩
set_option genInjectivity false
set_option genSizeOf false
structure Txt (K : PySem.W.Frag) (mg : Str → Option Value) where
  f_is_integer : Addr
  f_in_range : Addr
  f_check_size : Addr
  f_check_elements : Addr
  f_are_arrows : Addr
  f_l_hand : Addr
  f_l_draw : Addr
  f_l_made : Addr
  f_l_refused : Addr
  f_l_mixed : Addr
  f_l_bad : Addr
  f_l_right : Addr
  f_law : Addr
  C_Map : Addr
  f_Map__init : Addr
  p_Map_identity : Addr
  f_Map_identity : Addr
  p_Map_empty : Addr
  f_Map_empty : Addr
  p_Map_chain : Addr
  f_Map_chain : Addr
  p_Map_cycle : Addr
  f_Map_cycle : Addr
  p_Map_swap : Addr
  f_Map_swap : Addr
  p_Map_size : Addr
  f_Map_size : Addr
  p_Map_arrows : Addr
  f_Map_arrows : Addr
  f_Map__repr : Addr
  C_InvalidSize : Addr
  f_InvalidSize__init : Addr
  C_InvalidElement : Addr
  f_InvalidElement__init : Addr
  A_is_integer : U.FnAt K "is_integer" "is_integer" s_is_integer f_is_integer ["value"]
  g_is_integer : mg "is_integer" = some (.ref f_is_integer)
  A_in_range : U.FnAt K "in_range" "in_range" s_in_range f_in_range ["value", "least", "most"]
  g_in_range : mg "in_range" = some (.ref f_in_range)
  A_check_size : U.FnAt K "check_size" "check_size" s_check_size f_check_size ["size"]
  g_check_size : mg "check_size" = some (.ref f_check_size)
  A_check_elements : U.FnAt K "check_elements" "check_elements" s_check_elements f_check_elements ["size", "points"]
  g_check_elements : mg "check_elements" = some (.ref f_check_elements)
  A_are_arrows : U.FnAt K "are_arrows" "are_arrows" s_are_arrows f_are_arrows ["size", "arrows"]
  g_are_arrows : mg "are_arrows" = some (.ref f_are_arrows)
  A_l_hand : U.FnAt K "_law_hand" "_law_hand" s_l_hand f_l_hand ["_law_script", "_law_k"]
  g_l_hand : mg "_law_hand" = some (.ref f_l_hand)
  A_l_draw : U.FnAt K "_law_draw" "_law_draw" s_l_draw f_l_draw ["_law_pool", "_law_size"]
  g_l_draw : mg "_law_draw" = some (.ref f_l_draw)
  A_l_made : U.FnAt K "_law_made" "_law_made" s_l_made f_l_made ["_law_door", "_law_size", "_law_row"]
  g_l_made : mg "_law_made" = some (.ref f_l_made)
  A_l_refused : U.FnAt K "_law_refused" "_law_refused" s_l_refused f_l_refused ["_law_door", "_law_size", "_law_row"]
  g_l_refused : mg "_law_refused" = some (.ref f_l_refused)
  A_l_mixed : U.FnAt K "_law_mixed" "_law_mixed" s_l_mixed f_l_mixed ["_law_pool", "_law_size"]
  g_l_mixed : mg "_law_mixed" = some (.ref f_l_mixed)
  A_l_bad : U.FnAt K "_law_bad" "_law_bad" s_l_bad f_l_bad ["_law_size", "_law_odd"]
  g_l_bad : mg "_law_bad" = some (.ref f_l_bad)
  A_l_right : U.FnAt K "_law_right" "_law_right" s_l_right f_l_right ["_law_size", "_law_row"]
  g_l_right : mg "_law_right" = some (.ref f_l_right)
  A_law : U.FnAt K "law" "law" s_law f_law ["_law_script"]
  L_law : ∃ fd, Fun K "law" "law" s_law f_law fd ∧ ∀ (s : Shared) (u : Value), BindsTo s fd ⟨[u], []⟩ [("_law_script", u)]
  g_law : mg "law" = some (.ref f_law)
  g_Map : mg "Map" = some (.ref C_Map)
  o_Map : U.OwnC K C_Map
  kit_int_Map : PySem.W.kitOne K (.ref C_Map) (.type "int") = some false
  kit_bool_Map : PySem.W.kitOne K (.ref C_Map) (.type "bool") = some false
  kn_NoneType_Map : PySem.W.kitOne K (.type "NoneType") (.ref C_Map) = some false
  nf_NoneType_Map : PySem.W.notFirst K C_Map (.type "NoneType") = true
  kn_int_Map : PySem.W.kitOne K (.type "int") (.ref C_Map) = some false
  nf_int_Map : PySem.W.notFirst K C_Map (.type "int") = true
  kn_bool_Map : PySem.W.kitOne K (.type "bool") (.ref C_Map) = some false
  nf_bool_Map : PySem.W.notFirst K C_Map (.type "bool") = true
  kn_str_Map : PySem.W.kitOne K (.type "str") (.ref C_Map) = some false
  nf_str_Map : PySem.W.notFirst K C_Map (.type "str") = true
  kn_list_Map : PySem.W.kitOne K (.type "list") (.ref C_Map) = some false
  nf_list_Map : PySem.W.notFirst K C_Map (.type "list") = true
  kn_dict_Map : PySem.W.kitOne K (.type "dict") (.ref C_Map) = some false
  nf_dict_Map : PySem.W.notFirst K C_Map (.type "dict") = true
  kn_tuple_Map : PySem.W.kitOne K (.type "tuple") (.ref C_Map) = some false
  nf_tuple_Map : PySem.W.notFirst K C_Map (.type "tuple") = true
  self_Map : PySem.W.kitOne K (.ref C_Map) (.ref C_Map) = some true
  na_own_size_Map : NoAttr K C_Map "own_size"
  na_own_arrows_Map : NoAttr K C_Map "own_arrows"
  A_Map__init : U.FnAt K "__init__" "Map.__init__" s_Map__init f_Map__init ["self", "size", "arrows"]
  m_Map__init : PySem.W.findIn K (.ref C_Map) "__init__" = some (some (.ref f_Map__init))
  i_Map__init : PySem.W.isFn K (.ref f_Map__init) = true
  M_Map : Mk K C_Map f_Map__init
  R_Map : ClX.CRead K C_Map (.type "type")
  A_Map_identity : U.FnAt K "identity" "Map.identity" s_Map_identity f_Map_identity ["cls", "size"]
  cm_Map_identity : ClX.CMet K C_Map (.type "type") "identity" p_Map_identity f_Map_identity
  A_Map_empty : U.FnAt K "empty" "Map.empty" s_Map_empty f_Map_empty ["cls", "size"]
  cm_Map_empty : ClX.CMet K C_Map (.type "type") "empty" p_Map_empty f_Map_empty
  A_Map_chain : U.StarAt K "chain" "Map.chain" s_Map_chain f_Map_chain ["cls", "size"] "points"
  cm_Map_chain : ClX.CMet K C_Map (.type "type") "chain" p_Map_chain f_Map_chain
  A_Map_cycle : U.StarAt K "cycle" "Map.cycle" s_Map_cycle f_Map_cycle ["cls", "size"] "points"
  cm_Map_cycle : ClX.CMet K C_Map (.type "type") "cycle" p_Map_cycle f_Map_cycle
  A_Map_swap : U.FnAt K "swap" "Map.swap" s_Map_swap f_Map_swap ["cls", "size", "one", "other"]
  cm_Map_swap : ClX.CMet K C_Map (.type "type") "swap" p_Map_swap f_Map_swap
  A_Map_size : U.FnAt K "size" "Map.size" s_Map_size f_Map_size ["self"]
  P_Map_size : PropOf K C_Map "size" p_Map_size f_Map_size
  A_Map_arrows : U.FnAt K "arrows" "Map.arrows" s_Map_arrows f_Map_arrows ["self"]
  P_Map_arrows : PropOf K C_Map "arrows" p_Map_arrows f_Map_arrows
  A_Map__repr : U.FnAt K "__repr__" "Map.__repr__" s_Map__repr f_Map__repr ["self"]
  m_Map__repr : PySem.W.findIn K (.ref C_Map) "__repr__" = some (some (.ref f_Map__repr))
  i_Map__repr : PySem.W.isFn K (.ref f_Map__repr) = true
  g_InvalidSize : mg "InvalidSize" = some (.ref C_InvalidSize)
  x_InvalidSize : OexG K C_InvalidSize
  xf_InvalidSize : XfC K C_InvalidSize
  xe_InvalidSize : ExcC K C_InvalidSize
  te_InvalidSize : PySem.W.exmOne K (.ref C_InvalidSize) (.ref C_InvalidSize) = some true
  kit_ValueError_InvalidSize : PySem.W.kitOne K (.ref C_InvalidSize) (.type "ValueError") = some true
  na_value_InvalidSize : PySem.W.findIn K (.ref C_InvalidSize) "value" = some none
  A_InvalidSize__init : U.FnAt K "__init__" "InvalidSize.__init__" s_InvalidSize__init f_InvalidSize__init ["self", "value"]
  m_InvalidSize__init : PySem.W.findIn K (.ref C_InvalidSize) "__init__" = some (some (.ref f_InvalidSize__init))
  ti_InvalidSize__init : PySem.W.typeIn K (.ref f_InvalidSize__init) = some (.type "function")
  g_InvalidElement : mg "InvalidElement" = some (.ref C_InvalidElement)
  x_InvalidElement : OexG K C_InvalidElement
  xf_InvalidElement : XfC K C_InvalidElement
  xe_InvalidElement : ExcC K C_InvalidElement
  te_InvalidElement : PySem.W.exmOne K (.ref C_InvalidElement) (.ref C_InvalidElement) = some true
  kit_ValueError_InvalidElement : PySem.W.kitOne K (.ref C_InvalidElement) (.type "ValueError") = some true
  te_InvalidElement_InvalidSize : PySem.W.exmOne K (.ref C_InvalidElement) (.ref C_InvalidSize) = some false
  na_value_InvalidElement : PySem.W.findIn K (.ref C_InvalidElement) "value" = some none
  A_InvalidElement__init : U.FnAt K "__init__" "InvalidElement.__init__" s_InvalidElement__init f_InvalidElement__init ["self", "value"]
  m_InvalidElement__init : PySem.W.findIn K (.ref C_InvalidElement) "__init__" = some (some (.ref f_InvalidElement__init))
  ti_InvalidElement__init : PySem.W.typeIn K (.ref f_InvalidElement__init) = some (.type "function")
  n_isinstance : mg "isinstance" = none
  n_int : mg "int" = none
  n_bool : mg "bool" = none
  n_dict : mg "dict" = none
  n_len : mg "len" = none
  n_range : mg "range" = none
  n_list : mg "list" = none
  n_max : mg "max" = none
  n_min : mg "min" = none
  n_zip : mg "zip" = none
  n_repr : mg "repr" = none
  n_ValueError : mg "ValueError" = none
  v_MAX_SIZE : ∃ t, mg "MAX_SIZE" = some (.int 300 t)
theorem mk_txt {K : PySem.W.Frag} {h : Heap} {mg : Str → Option Value} (X : K.In h) (G : h.Ns mainGlobals mg)
    {f_is_integer : Addr} {oc_is_integer kV_is_integer dc_is_integer pm_is_integer cd_is_integer ct_is_integer : Value} {od_is_integer an_is_integer : Option Addr} {sl_is_integer : Array (Option Value)}
    {f_in_range : Addr} {oc_in_range kV_in_range dc_in_range pm_in_range cd_in_range ct_in_range : Value} {od_in_range an_in_range : Option Addr} {sl_in_range : Array (Option Value)}
    {f_check_size : Addr} {oc_check_size kV_check_size dc_check_size pm_check_size cd_check_size ct_check_size : Value} {od_check_size an_check_size : Option Addr} {sl_check_size : Array (Option Value)}
    {f_check_elements : Addr} {oc_check_elements kV_check_elements dc_check_elements pm_check_elements cd_check_elements ct_check_elements : Value} {od_check_elements an_check_elements : Option Addr} {sl_check_elements : Array (Option Value)}
    {f_are_arrows : Addr} {oc_are_arrows kV_are_arrows dc_are_arrows pm_are_arrows cd_are_arrows ct_are_arrows : Value} {od_are_arrows an_are_arrows : Option Addr} {sl_are_arrows : Array (Option Value)}
    {f_l_hand : Addr} {oc_l_hand kV_l_hand dc_l_hand pm_l_hand cd_l_hand ct_l_hand : Value} {od_l_hand an_l_hand : Option Addr} {sl_l_hand : Array (Option Value)}
    {f_l_draw : Addr} {oc_l_draw kV_l_draw dc_l_draw pm_l_draw cd_l_draw ct_l_draw : Value} {od_l_draw an_l_draw : Option Addr} {sl_l_draw : Array (Option Value)}
    {f_l_made : Addr} {oc_l_made kV_l_made dc_l_made pm_l_made cd_l_made ct_l_made : Value} {od_l_made an_l_made : Option Addr} {sl_l_made : Array (Option Value)}
    {f_l_refused : Addr} {oc_l_refused kV_l_refused dc_l_refused pm_l_refused cd_l_refused ct_l_refused : Value} {od_l_refused an_l_refused : Option Addr} {sl_l_refused : Array (Option Value)}
    {f_l_mixed : Addr} {oc_l_mixed kV_l_mixed dc_l_mixed pm_l_mixed cd_l_mixed ct_l_mixed : Value} {od_l_mixed an_l_mixed : Option Addr} {sl_l_mixed : Array (Option Value)}
    {f_l_bad : Addr} {oc_l_bad kV_l_bad dc_l_bad pm_l_bad cd_l_bad ct_l_bad : Value} {od_l_bad an_l_bad : Option Addr} {sl_l_bad : Array (Option Value)}
    {f_l_right : Addr} {oc_l_right kV_l_right dc_l_right pm_l_right cd_l_right ct_l_right : Value} {od_l_right an_l_right : Option Addr} {sl_l_right : Array (Option Value)}
    {f_law : Addr} {oc_law kV_law dc_law pm_law cd_law ct_law : Value} {od_law an_law : Option Addr} {sl_law : Array (Option Value)}
    {C_Map : Addr}
    {f_Map__init : Addr} {oc_Map__init kV_Map__init dc_Map__init pm_Map__init cd_Map__init ct_Map__init : Value} {od_Map__init an_Map__init : Option Addr} {sl_Map__init : Array (Option Value)}
    {p_Map_identity : Addr} {r_Map_identity : List Value}
    {f_Map_identity : Addr} {oc_Map_identity kV_Map_identity dc_Map_identity pm_Map_identity cd_Map_identity ct_Map_identity : Value} {od_Map_identity an_Map_identity : Option Addr} {sl_Map_identity : Array (Option Value)}
    {p_Map_empty : Addr} {r_Map_empty : List Value}
    {f_Map_empty : Addr} {oc_Map_empty kV_Map_empty dc_Map_empty pm_Map_empty cd_Map_empty ct_Map_empty : Value} {od_Map_empty an_Map_empty : Option Addr} {sl_Map_empty : Array (Option Value)}
    {p_Map_chain : Addr} {r_Map_chain : List Value}
    {f_Map_chain : Addr} {oc_Map_chain kV_Map_chain dc_Map_chain pm_Map_chain cd_Map_chain ct_Map_chain : Value} {od_Map_chain an_Map_chain : Option Addr} {sl_Map_chain : Array (Option Value)}
    {p_Map_cycle : Addr} {r_Map_cycle : List Value}
    {f_Map_cycle : Addr} {oc_Map_cycle kV_Map_cycle dc_Map_cycle pm_Map_cycle cd_Map_cycle ct_Map_cycle : Value} {od_Map_cycle an_Map_cycle : Option Addr} {sl_Map_cycle : Array (Option Value)}
    {p_Map_swap : Addr} {r_Map_swap : List Value}
    {f_Map_swap : Addr} {oc_Map_swap kV_Map_swap dc_Map_swap pm_Map_swap cd_Map_swap ct_Map_swap : Value} {od_Map_swap an_Map_swap : Option Addr} {sl_Map_swap : Array (Option Value)}
    {p_Map_size : Addr} {r_Map_size : List Value}
    {f_Map_size : Addr} {oc_Map_size kV_Map_size dc_Map_size pm_Map_size cd_Map_size ct_Map_size : Value} {od_Map_size an_Map_size : Option Addr} {sl_Map_size : Array (Option Value)}
    {p_Map_arrows : Addr} {r_Map_arrows : List Value}
    {f_Map_arrows : Addr} {oc_Map_arrows kV_Map_arrows dc_Map_arrows pm_Map_arrows cd_Map_arrows ct_Map_arrows : Value} {od_Map_arrows an_Map_arrows : Option Addr} {sl_Map_arrows : Array (Option Value)}
    {f_Map__repr : Addr} {oc_Map__repr kV_Map__repr dc_Map__repr pm_Map__repr cd_Map__repr ct_Map__repr : Value} {od_Map__repr an_Map__repr : Option Addr} {sl_Map__repr : Array (Option Value)}
    {C_InvalidSize : Addr} {nm_InvalidSize q_InvalidSize : Str} {N_InvalidSize : Addr} {bs_InvalidSize : List Value} {sn_InvalidSize : List Str} {sub_InvalidSize : List Value} {ab_InvalidSize : Bool} {col_InvalidSize : Option Bool} {dd_InvalidSize : Option Addr} {m0_InvalidSize m1_InvalidSize m2_InvalidSize m3_InvalidSize m5_InvalidSize : Option Value}
    {f_InvalidSize__init : Addr} {oc_InvalidSize__init kV_InvalidSize__init dc_InvalidSize__init pm_InvalidSize__init cd_InvalidSize__init ct_InvalidSize__init : Value} {od_InvalidSize__init an_InvalidSize__init : Option Addr} {sl_InvalidSize__init : Array (Option Value)}
    {C_InvalidElement : Addr} {nm_InvalidElement q_InvalidElement : Str} {N_InvalidElement : Addr} {bs_InvalidElement : List Value} {sn_InvalidElement : List Str} {sub_InvalidElement : List Value} {ab_InvalidElement : Bool} {col_InvalidElement : Option Bool} {dd_InvalidElement : Option Addr} {m0_InvalidElement m1_InvalidElement m2_InvalidElement m3_InvalidElement m5_InvalidElement : Option Value}
    {f_InvalidElement__init : Addr} {oc_InvalidElement__init kV_InvalidElement__init dc_InvalidElement__init pm_InvalidElement__init cd_InvalidElement__init ct_InvalidElement__init : Value} {od_InvalidElement__init an_InvalidElement__init : Option Addr} {sl_InvalidElement__init : Array (Option Value)}
    {t_MAX_SIZE : Tok}
    (a_is_integer : PySem.W.nsIn K mainGlobals "is_integer" = some (some (.ref f_is_integer)))
    (l_is_integer : K.lookup f_is_integer = some ⟨oc_is_integer, od_is_integer, .func (PySem.W.fnOf "is_integer" "is_integer" (defArgs s_is_integer) (defBody s_is_integer) (defScope s_is_integer) .none kV_is_integer dc_is_integer pm_is_integer an_is_integer cd_is_integer ct_is_integer), sl_is_integer⟩)
    (c_is_integer : PySem.W.codeIn K cd_is_integer "is_integer" = true)
    (k_is_integer : PySem.W.keepIn K (.ref f_is_integer) = true)
    (a_in_range : PySem.W.nsIn K mainGlobals "in_range" = some (some (.ref f_in_range)))
    (l_in_range : K.lookup f_in_range = some ⟨oc_in_range, od_in_range, .func (PySem.W.fnOf "in_range" "in_range" (defArgs s_in_range) (defBody s_in_range) (defScope s_in_range) .none kV_in_range dc_in_range pm_in_range an_in_range cd_in_range ct_in_range), sl_in_range⟩)
    (c_in_range : PySem.W.codeIn K cd_in_range "in_range" = true)
    (k_in_range : PySem.W.keepIn K (.ref f_in_range) = true)
    (a_check_size : PySem.W.nsIn K mainGlobals "check_size" = some (some (.ref f_check_size)))
    (l_check_size : K.lookup f_check_size = some ⟨oc_check_size, od_check_size, .func (PySem.W.fnOf "check_size" "check_size" (defArgs s_check_size) (defBody s_check_size) (defScope s_check_size) .none kV_check_size dc_check_size pm_check_size an_check_size cd_check_size ct_check_size), sl_check_size⟩)
    (c_check_size : PySem.W.codeIn K cd_check_size "check_size" = true)
    (k_check_size : PySem.W.keepIn K (.ref f_check_size) = true)
    (a_check_elements : PySem.W.nsIn K mainGlobals "check_elements" = some (some (.ref f_check_elements)))
    (l_check_elements : K.lookup f_check_elements = some ⟨oc_check_elements, od_check_elements, .func (PySem.W.fnOf "check_elements" "check_elements" (defArgs s_check_elements) (defBody s_check_elements) (defScope s_check_elements) .none kV_check_elements dc_check_elements pm_check_elements an_check_elements cd_check_elements ct_check_elements), sl_check_elements⟩)
    (c_check_elements : PySem.W.codeIn K cd_check_elements "check_elements" = true)
    (k_check_elements : PySem.W.keepIn K (.ref f_check_elements) = true)
    (a_are_arrows : PySem.W.nsIn K mainGlobals "are_arrows" = some (some (.ref f_are_arrows)))
    (l_are_arrows : K.lookup f_are_arrows = some ⟨oc_are_arrows, od_are_arrows, .func (PySem.W.fnOf "are_arrows" "are_arrows" (defArgs s_are_arrows) (defBody s_are_arrows) (defScope s_are_arrows) .none kV_are_arrows dc_are_arrows pm_are_arrows an_are_arrows cd_are_arrows ct_are_arrows), sl_are_arrows⟩)
    (c_are_arrows : PySem.W.codeIn K cd_are_arrows "are_arrows" = true)
    (k_are_arrows : PySem.W.keepIn K (.ref f_are_arrows) = true)
    (a_l_hand : PySem.W.nsIn K mainGlobals "_law_hand" = some (some (.ref f_l_hand)))
    (l_l_hand : K.lookup f_l_hand = some ⟨oc_l_hand, od_l_hand, .func (PySem.W.fnOf "_law_hand" "_law_hand" (defArgs s_l_hand) (defBody s_l_hand) (defScope s_l_hand) .none kV_l_hand dc_l_hand pm_l_hand an_l_hand cd_l_hand ct_l_hand), sl_l_hand⟩)
    (c_l_hand : PySem.W.codeIn K cd_l_hand "_law_hand" = true)
    (k_l_hand : PySem.W.keepIn K (.ref f_l_hand) = true)
    (a_l_draw : PySem.W.nsIn K mainGlobals "_law_draw" = some (some (.ref f_l_draw)))
    (l_l_draw : K.lookup f_l_draw = some ⟨oc_l_draw, od_l_draw, .func (PySem.W.fnOf "_law_draw" "_law_draw" (defArgs s_l_draw) (defBody s_l_draw) (defScope s_l_draw) .none kV_l_draw dc_l_draw pm_l_draw an_l_draw cd_l_draw ct_l_draw), sl_l_draw⟩)
    (c_l_draw : PySem.W.codeIn K cd_l_draw "_law_draw" = true)
    (k_l_draw : PySem.W.keepIn K (.ref f_l_draw) = true)
    (a_l_made : PySem.W.nsIn K mainGlobals "_law_made" = some (some (.ref f_l_made)))
    (l_l_made : K.lookup f_l_made = some ⟨oc_l_made, od_l_made, .func (PySem.W.fnOf "_law_made" "_law_made" (defArgs s_l_made) (defBody s_l_made) (defScope s_l_made) .none kV_l_made dc_l_made pm_l_made an_l_made cd_l_made ct_l_made), sl_l_made⟩)
    (c_l_made : PySem.W.codeIn K cd_l_made "_law_made" = true)
    (k_l_made : PySem.W.keepIn K (.ref f_l_made) = true)
    (a_l_refused : PySem.W.nsIn K mainGlobals "_law_refused" = some (some (.ref f_l_refused)))
    (l_l_refused : K.lookup f_l_refused = some ⟨oc_l_refused, od_l_refused, .func (PySem.W.fnOf "_law_refused" "_law_refused" (defArgs s_l_refused) (defBody s_l_refused) (defScope s_l_refused) .none kV_l_refused dc_l_refused pm_l_refused an_l_refused cd_l_refused ct_l_refused), sl_l_refused⟩)
    (c_l_refused : PySem.W.codeIn K cd_l_refused "_law_refused" = true)
    (k_l_refused : PySem.W.keepIn K (.ref f_l_refused) = true)
    (a_l_mixed : PySem.W.nsIn K mainGlobals "_law_mixed" = some (some (.ref f_l_mixed)))
    (l_l_mixed : K.lookup f_l_mixed = some ⟨oc_l_mixed, od_l_mixed, .func (PySem.W.fnOf "_law_mixed" "_law_mixed" (defArgs s_l_mixed) (defBody s_l_mixed) (defScope s_l_mixed) .none kV_l_mixed dc_l_mixed pm_l_mixed an_l_mixed cd_l_mixed ct_l_mixed), sl_l_mixed⟩)
    (c_l_mixed : PySem.W.codeIn K cd_l_mixed "_law_mixed" = true)
    (k_l_mixed : PySem.W.keepIn K (.ref f_l_mixed) = true)
    (a_l_bad : PySem.W.nsIn K mainGlobals "_law_bad" = some (some (.ref f_l_bad)))
    (l_l_bad : K.lookup f_l_bad = some ⟨oc_l_bad, od_l_bad, .func (PySem.W.fnOf "_law_bad" "_law_bad" (defArgs s_l_bad) (defBody s_l_bad) (defScope s_l_bad) .none kV_l_bad dc_l_bad pm_l_bad an_l_bad cd_l_bad ct_l_bad), sl_l_bad⟩)
    (c_l_bad : PySem.W.codeIn K cd_l_bad "_law_bad" = true)
    (k_l_bad : PySem.W.keepIn K (.ref f_l_bad) = true)
    (a_l_right : PySem.W.nsIn K mainGlobals "_law_right" = some (some (.ref f_l_right)))
    (l_l_right : K.lookup f_l_right = some ⟨oc_l_right, od_l_right, .func (PySem.W.fnOf "_law_right" "_law_right" (defArgs s_l_right) (defBody s_l_right) (defScope s_l_right) .none kV_l_right dc_l_right pm_l_right an_l_right cd_l_right ct_l_right), sl_l_right⟩)
    (c_l_right : PySem.W.codeIn K cd_l_right "_law_right" = true)
    (k_l_right : PySem.W.keepIn K (.ref f_l_right) = true)
    (a_law : PySem.W.nsIn K mainGlobals "law" = some (some (.ref f_law)))
    (l_law : K.lookup f_law = some ⟨oc_law, od_law, .func (PySem.W.fnOf "law" "law" (defArgs s_law) (defBody s_law) (defScope s_law) .none kV_law dc_law pm_law an_law cd_law ct_law), sl_law⟩)
    (c_law : PySem.W.codeIn K cd_law "law" = true)
    (k_law : PySem.W.keepIn K (.ref f_law) = true)
    (a_Map : PySem.W.nsIn K mainGlobals "Map" = some (some (.ref C_Map)))
    (pg_Map : PySem.W.plainGet K C_Map Str.empty = true)
    (hd_Map : PySem.W.hasDictIn K C_Map = true)
    (po_Map : PySem.W.plainOver K C_Map = true)
    (sa_Map : PySem.W.findIn K (.ref C_Map) "__setattr__" = some (some (.builtin "object.__setattr__")))
    (sf_Map : PySem.W.selfFirst K C_Map = true)
    (ca_Map : PySem.W.findIn K (.ref C_Map) "__class__" = some (some (.builtin "object.__class__")))
    (cn_Map : PySem.W.specialIn K (.builtin "object.__class__") "__get__" = some (some (.builtin "getset_descriptor.__get__")))
    (ct_Map : PySem.W.takesIn K (.builtin "object.__class__") = some true)
    (cm_Map : PySem.W.mroIn K C_Map (.type "object") = some true)
    (kc_Map : PySem.W.keepIn K (.ref C_Map) = true)
    (kit_int_Map : PySem.W.kitOne K (.ref C_Map) (.type "int") = some false)
    (kit_bool_Map : PySem.W.kitOne K (.ref C_Map) (.type "bool") = some false)
    (kn_NoneType_Map : PySem.W.kitOne K (.type "NoneType") (.ref C_Map) = some false)
    (nf_NoneType_Map : PySem.W.notFirst K C_Map (.type "NoneType") = true)
    (kn_int_Map : PySem.W.kitOne K (.type "int") (.ref C_Map) = some false)
    (nf_int_Map : PySem.W.notFirst K C_Map (.type "int") = true)
    (kn_bool_Map : PySem.W.kitOne K (.type "bool") (.ref C_Map) = some false)
    (nf_bool_Map : PySem.W.notFirst K C_Map (.type "bool") = true)
    (kn_str_Map : PySem.W.kitOne K (.type "str") (.ref C_Map) = some false)
    (nf_str_Map : PySem.W.notFirst K C_Map (.type "str") = true)
    (kn_list_Map : PySem.W.kitOne K (.type "list") (.ref C_Map) = some false)
    (nf_list_Map : PySem.W.notFirst K C_Map (.type "list") = true)
    (kn_dict_Map : PySem.W.kitOne K (.type "dict") (.ref C_Map) = some false)
    (nf_dict_Map : PySem.W.notFirst K C_Map (.type "dict") = true)
    (kn_tuple_Map : PySem.W.kitOne K (.type "tuple") (.ref C_Map) = some false)
    (nf_tuple_Map : PySem.W.notFirst K C_Map (.type "tuple") = true)
    (self_Map : PySem.W.kitOne K (.ref C_Map) (.ref C_Map) = some true)
    (na_own_size_Map : PySem.W.findIn K (.ref C_Map) "own_size" = some none)
    (na_own_arrows_Map : PySem.W.findIn K (.ref C_Map) "own_arrows" = some none)
    (m_Map__init : PySem.W.findIn K (.ref C_Map) "__init__" = some (some (.ref f_Map__init)))
    (i_Map__init : PySem.W.isFn K (.ref f_Map__init) = true)
    (l_Map__init : K.lookup f_Map__init = some ⟨oc_Map__init, od_Map__init, .func (PySem.W.fnOf "__init__" "Map.__init__" (defArgs s_Map__init) (defBody s_Map__init) (defScope s_Map__init) .none kV_Map__init dc_Map__init pm_Map__init an_Map__init cd_Map__init ct_Map__init), sl_Map__init⟩)
    (c_Map__init : PySem.W.codeIn K cd_Map__init "Map.__init__" = true)
    (k_Map__init : PySem.W.keepIn K (.ref f_Map__init) = true)
    (mk_Map : PySem.W.makesIn K C_Map = true)
    (rd_Map : PySem.W.readsIn K C_Map (.type "type") = true)
    (ga_Map : PySem.W.specialIn K (.ref C_Map) "__getattribute__" = some (some (.builtin "type.__getattribute__")))
    (at_Map_identity : PySem.W.findCls K (.ref C_Map) (.type "type") "identity" = some (.get (.builtin "classmethod.__get__") (.ref p_Map_identity) .none (.ref C_Map)))
    (rc_Map_identity : PySem.W.recIn K p_Map_identity "classmethod" = some (.ref f_Map_identity :: r_Map_identity))
    (fi_Map_identity : PySem.W.fnIn K f_Map_identity = true)
    (l_Map_identity : K.lookup f_Map_identity = some ⟨oc_Map_identity, od_Map_identity, .func (PySem.W.fnOf "identity" "Map.identity" (defArgs s_Map_identity) (defBody s_Map_identity) (defScope s_Map_identity) .none kV_Map_identity dc_Map_identity pm_Map_identity an_Map_identity cd_Map_identity ct_Map_identity), sl_Map_identity⟩)
    (c_Map_identity : PySem.W.codeIn K cd_Map_identity "Map.identity" = true)
    (k_Map_identity : PySem.W.keepIn K (.ref f_Map_identity) = true)
    (at_Map_empty : PySem.W.findCls K (.ref C_Map) (.type "type") "empty" = some (.get (.builtin "classmethod.__get__") (.ref p_Map_empty) .none (.ref C_Map)))
    (rc_Map_empty : PySem.W.recIn K p_Map_empty "classmethod" = some (.ref f_Map_empty :: r_Map_empty))
    (fi_Map_empty : PySem.W.fnIn K f_Map_empty = true)
    (l_Map_empty : K.lookup f_Map_empty = some ⟨oc_Map_empty, od_Map_empty, .func (PySem.W.fnOf "empty" "Map.empty" (defArgs s_Map_empty) (defBody s_Map_empty) (defScope s_Map_empty) .none kV_Map_empty dc_Map_empty pm_Map_empty an_Map_empty cd_Map_empty ct_Map_empty), sl_Map_empty⟩)
    (c_Map_empty : PySem.W.codeIn K cd_Map_empty "Map.empty" = true)
    (k_Map_empty : PySem.W.keepIn K (.ref f_Map_empty) = true)
    (at_Map_chain : PySem.W.findCls K (.ref C_Map) (.type "type") "chain" = some (.get (.builtin "classmethod.__get__") (.ref p_Map_chain) .none (.ref C_Map)))
    (rc_Map_chain : PySem.W.recIn K p_Map_chain "classmethod" = some (.ref f_Map_chain :: r_Map_chain))
    (fi_Map_chain : PySem.W.fnIn K f_Map_chain = true)
    (l_Map_chain : K.lookup f_Map_chain = some ⟨oc_Map_chain, od_Map_chain, .func (PySem.W.fnOf "chain" "Map.chain" (defArgs s_Map_chain) (defBody s_Map_chain) (defScope s_Map_chain) .none kV_Map_chain dc_Map_chain pm_Map_chain an_Map_chain cd_Map_chain ct_Map_chain), sl_Map_chain⟩)
    (c_Map_chain : PySem.W.codeIn K cd_Map_chain "Map.chain" = true)
    (k_Map_chain : PySem.W.keepIn K (.ref f_Map_chain) = true)
    (at_Map_cycle : PySem.W.findCls K (.ref C_Map) (.type "type") "cycle" = some (.get (.builtin "classmethod.__get__") (.ref p_Map_cycle) .none (.ref C_Map)))
    (rc_Map_cycle : PySem.W.recIn K p_Map_cycle "classmethod" = some (.ref f_Map_cycle :: r_Map_cycle))
    (fi_Map_cycle : PySem.W.fnIn K f_Map_cycle = true)
    (l_Map_cycle : K.lookup f_Map_cycle = some ⟨oc_Map_cycle, od_Map_cycle, .func (PySem.W.fnOf "cycle" "Map.cycle" (defArgs s_Map_cycle) (defBody s_Map_cycle) (defScope s_Map_cycle) .none kV_Map_cycle dc_Map_cycle pm_Map_cycle an_Map_cycle cd_Map_cycle ct_Map_cycle), sl_Map_cycle⟩)
    (c_Map_cycle : PySem.W.codeIn K cd_Map_cycle "Map.cycle" = true)
    (k_Map_cycle : PySem.W.keepIn K (.ref f_Map_cycle) = true)
    (at_Map_swap : PySem.W.findCls K (.ref C_Map) (.type "type") "swap" = some (.get (.builtin "classmethod.__get__") (.ref p_Map_swap) .none (.ref C_Map)))
    (rc_Map_swap : PySem.W.recIn K p_Map_swap "classmethod" = some (.ref f_Map_swap :: r_Map_swap))
    (fi_Map_swap : PySem.W.fnIn K f_Map_swap = true)
    (l_Map_swap : K.lookup f_Map_swap = some ⟨oc_Map_swap, od_Map_swap, .func (PySem.W.fnOf "swap" "Map.swap" (defArgs s_Map_swap) (defBody s_Map_swap) (defScope s_Map_swap) .none kV_Map_swap dc_Map_swap pm_Map_swap an_Map_swap cd_Map_swap ct_Map_swap), sl_Map_swap⟩)
    (c_Map_swap : PySem.W.codeIn K cd_Map_swap "Map.swap" = true)
    (k_Map_swap : PySem.W.keepIn K (.ref f_Map_swap) = true)
    (m_Map_size : PySem.W.findIn K (.ref C_Map) "size" = some (some (.ref p_Map_size)))
    (s_get_Map_size : PySem.W.specialIn K (.ref p_Map_size) "__get__" = some (some (.builtin "property.__get__")))
    (tk_Map_size : PySem.W.takesIn K (.ref p_Map_size) = some true)
    (rc_Map_size : PySem.W.recIn K p_Map_size "property" = some (.ref f_Map_size :: r_Map_size))
    (l_Map_size : K.lookup f_Map_size = some ⟨oc_Map_size, od_Map_size, .func (PySem.W.fnOf "size" "Map.size" (defArgs s_Map_size) (defBody s_Map_size) (defScope s_Map_size) .none kV_Map_size dc_Map_size pm_Map_size an_Map_size cd_Map_size ct_Map_size), sl_Map_size⟩)
    (c_Map_size : PySem.W.codeIn K cd_Map_size "Map.size" = true)
    (k_Map_size : PySem.W.keepIn K (.ref f_Map_size) = true)
    (m_Map_arrows : PySem.W.findIn K (.ref C_Map) "arrows" = some (some (.ref p_Map_arrows)))
    (s_get_Map_arrows : PySem.W.specialIn K (.ref p_Map_arrows) "__get__" = some (some (.builtin "property.__get__")))
    (tk_Map_arrows : PySem.W.takesIn K (.ref p_Map_arrows) = some true)
    (rc_Map_arrows : PySem.W.recIn K p_Map_arrows "property" = some (.ref f_Map_arrows :: r_Map_arrows))
    (l_Map_arrows : K.lookup f_Map_arrows = some ⟨oc_Map_arrows, od_Map_arrows, .func (PySem.W.fnOf "arrows" "Map.arrows" (defArgs s_Map_arrows) (defBody s_Map_arrows) (defScope s_Map_arrows) .none kV_Map_arrows dc_Map_arrows pm_Map_arrows an_Map_arrows cd_Map_arrows ct_Map_arrows), sl_Map_arrows⟩)
    (c_Map_arrows : PySem.W.codeIn K cd_Map_arrows "Map.arrows" = true)
    (k_Map_arrows : PySem.W.keepIn K (.ref f_Map_arrows) = true)
    (m_Map__repr : PySem.W.findIn K (.ref C_Map) "__repr__" = some (some (.ref f_Map__repr)))
    (i_Map__repr : PySem.W.isFn K (.ref f_Map__repr) = true)
    (l_Map__repr : K.lookup f_Map__repr = some ⟨oc_Map__repr, od_Map__repr, .func (PySem.W.fnOf "__repr__" "Map.__repr__" (defArgs s_Map__repr) (defBody s_Map__repr) (defScope s_Map__repr) .none kV_Map__repr dc_Map__repr pm_Map__repr an_Map__repr cd_Map__repr ct_Map__repr), sl_Map__repr⟩)
    (c_Map__repr : PySem.W.codeIn K cd_Map__repr "Map.__repr__" = true)
    (k_Map__repr : PySem.W.keepIn K (.ref f_Map__repr) = true)
    (a_InvalidSize : PySem.W.nsIn K mainGlobals "InvalidSize" = some (some (.ref C_InvalidSize)))
    (xl_InvalidSize : K.lookup C_InvalidSize = some (excClassObj nm_InvalidSize q_InvalidSize C_InvalidSize N_InvalidSize bs_InvalidSize [.type "ValueError", .type "Exception", .type "BaseException", .type "object"] true sn_InvalidSize sub_InvalidSize ab_InvalidSize col_InvalidSize dd_InvalidSize m0_InvalidSize m1_InvalidSize m2_InvalidSize m3_InvalidSize m5_InvalidSize "ValueError.__new__"))
    (sa_InvalidSize : PySem.W.findIn K (.ref C_InvalidSize) "__setattr__" = some (some (.builtin "object.__setattr__")))
    (ex_InvalidSize : PySem.W.subIn K (.ref C_InvalidSize) (.type "BaseException") = some true)
    (ty_InvalidSize : PySem.W.typeIn K (.ref C_InvalidSize) = some (.type "type"))
    (kc_InvalidSize : PySem.W.keepIn K (.ref C_InvalidSize) = true)
    (hd_InvalidSize : PySem.W.hasDictIn K C_InvalidSize = true)
    (ga_InvalidSize : PySem.W.findIn K (.ref C_InvalidSize) "__getattribute__" = some (some (.builtin "BaseException.__getattribute__")))
    (gg_InvalidSize : PySem.W.findIn K (.ref C_InvalidSize) "__getattr__" = some none)
    (ss_InvalidSize : PySem.W.subIn K (.ref C_InvalidSize) (.ref C_InvalidSize) = some true)
    (ca_InvalidSize : PySem.W.findIn K (.ref C_InvalidSize) "__class__" = some (some (.builtin "object.__class__")))
    (cn_InvalidSize : PySem.W.specialIn K (.builtin "object.__class__") "__get__" = some (some (.builtin "getset_descriptor.__get__")))
    (ct_InvalidSize : PySem.W.takesIn K (.builtin "object.__class__") = some true)
    (cm_InvalidSize : PySem.W.mroIn K C_InvalidSize (.type "object") = some true)
    (kit_ValueError_InvalidSize : PySem.W.kitOne K (.ref C_InvalidSize) (.type "ValueError") = some true)
    (na_value_InvalidSize : PySem.W.findIn K (.ref C_InvalidSize) "value" = some none)
    (m_InvalidSize__init : PySem.W.findIn K (.ref C_InvalidSize) "__init__" = some (some (.ref f_InvalidSize__init)))
    (ti_InvalidSize__init : PySem.W.typeIn K (.ref f_InvalidSize__init) = some (.type "function"))
    (l_InvalidSize__init : K.lookup f_InvalidSize__init = some ⟨oc_InvalidSize__init, od_InvalidSize__init, .func (PySem.W.fnOf "__init__" "InvalidSize.__init__" (defArgs s_InvalidSize__init) (defBody s_InvalidSize__init) (defScope s_InvalidSize__init) .none kV_InvalidSize__init dc_InvalidSize__init pm_InvalidSize__init an_InvalidSize__init cd_InvalidSize__init ct_InvalidSize__init), sl_InvalidSize__init⟩)
    (c_InvalidSize__init : PySem.W.codeIn K cd_InvalidSize__init "InvalidSize.__init__" = true)
    (k_InvalidSize__init : PySem.W.keepIn K (.ref f_InvalidSize__init) = true)
    (a_InvalidElement : PySem.W.nsIn K mainGlobals "InvalidElement" = some (some (.ref C_InvalidElement)))
    (xl_InvalidElement : K.lookup C_InvalidElement = some (excClassObj nm_InvalidElement q_InvalidElement C_InvalidElement N_InvalidElement bs_InvalidElement [.type "ValueError", .type "Exception", .type "BaseException", .type "object"] true sn_InvalidElement sub_InvalidElement ab_InvalidElement col_InvalidElement dd_InvalidElement m0_InvalidElement m1_InvalidElement m2_InvalidElement m3_InvalidElement m5_InvalidElement "ValueError.__new__"))
    (sa_InvalidElement : PySem.W.findIn K (.ref C_InvalidElement) "__setattr__" = some (some (.builtin "object.__setattr__")))
    (ex_InvalidElement : PySem.W.subIn K (.ref C_InvalidElement) (.type "BaseException") = some true)
    (ty_InvalidElement : PySem.W.typeIn K (.ref C_InvalidElement) = some (.type "type"))
    (kc_InvalidElement : PySem.W.keepIn K (.ref C_InvalidElement) = true)
    (hd_InvalidElement : PySem.W.hasDictIn K C_InvalidElement = true)
    (ga_InvalidElement : PySem.W.findIn K (.ref C_InvalidElement) "__getattribute__" = some (some (.builtin "BaseException.__getattribute__")))
    (gg_InvalidElement : PySem.W.findIn K (.ref C_InvalidElement) "__getattr__" = some none)
    (ss_InvalidElement : PySem.W.subIn K (.ref C_InvalidElement) (.ref C_InvalidElement) = some true)
    (ca_InvalidElement : PySem.W.findIn K (.ref C_InvalidElement) "__class__" = some (some (.builtin "object.__class__")))
    (cn_InvalidElement : PySem.W.specialIn K (.builtin "object.__class__") "__get__" = some (some (.builtin "getset_descriptor.__get__")))
    (ct_InvalidElement : PySem.W.takesIn K (.builtin "object.__class__") = some true)
    (cm_InvalidElement : PySem.W.mroIn K C_InvalidElement (.type "object") = some true)
    (kit_ValueError_InvalidElement : PySem.W.kitOne K (.ref C_InvalidElement) (.type "ValueError") = some true)
    (te_InvalidSize_InvalidElement : PySem.W.subIn K (.ref C_InvalidElement) (.ref C_InvalidSize) = some false)
    (na_value_InvalidElement : PySem.W.findIn K (.ref C_InvalidElement) "value" = some none)
    (m_InvalidElement__init : PySem.W.findIn K (.ref C_InvalidElement) "__init__" = some (some (.ref f_InvalidElement__init)))
    (ti_InvalidElement__init : PySem.W.typeIn K (.ref f_InvalidElement__init) = some (.type "function"))
    (l_InvalidElement__init : K.lookup f_InvalidElement__init = some ⟨oc_InvalidElement__init, od_InvalidElement__init, .func (PySem.W.fnOf "__init__" "InvalidElement.__init__" (defArgs s_InvalidElement__init) (defBody s_InvalidElement__init) (defScope s_InvalidElement__init) .none kV_InvalidElement__init dc_InvalidElement__init pm_InvalidElement__init an_InvalidElement__init cd_InvalidElement__init ct_InvalidElement__init), sl_InvalidElement__init⟩)
    (c_InvalidElement__init : PySem.W.codeIn K cd_InvalidElement__init "InvalidElement.__init__" = true)
    (k_InvalidElement__init : PySem.W.keepIn K (.ref f_InvalidElement__init) = true)
    (z_isinstance : PySem.W.nsIn K mainGlobals "isinstance" = some none)
    (z_int : PySem.W.nsIn K mainGlobals "int" = some none)
    (z_bool : PySem.W.nsIn K mainGlobals "bool" = some none)
    (z_dict : PySem.W.nsIn K mainGlobals "dict" = some none)
    (z_len : PySem.W.nsIn K mainGlobals "len" = some none)
    (z_range : PySem.W.nsIn K mainGlobals "range" = some none)
    (z_list : PySem.W.nsIn K mainGlobals "list" = some none)
    (z_max : PySem.W.nsIn K mainGlobals "max" = some none)
    (z_min : PySem.W.nsIn K mainGlobals "min" = some none)
    (z_zip : PySem.W.nsIn K mainGlobals "zip" = some none)
    (z_repr : PySem.W.nsIn K mainGlobals "repr" = some none)
    (z_ValueError : PySem.W.nsIn K mainGlobals "ValueError" = some none)
    (v_MAX_SIZE : PySem.W.nsIn K mainGlobals "MAX_SIZE" = some (some (.int 300 t_MAX_SIZE))) :
    Nonempty (Txt K mg) := ⟨{
    f_is_integer := f_is_integer,
    A_is_integer := ⟨_, fun_mk (st := s_is_integer) l_is_integer c_is_integer k_is_integer, (fun_mk (st := s_is_integer) l_is_integer c_is_integer k_is_integer).binds (ps := ["value"]) fun _ _ _ _ _ _ us hl => match us, hl with | [_], _ => rfl⟩,
    g_is_integer := PySem.W.mg_of X G a_is_integer,
    f_in_range := f_in_range,
    A_in_range := ⟨_, fun_mk (st := s_in_range) l_in_range c_in_range k_in_range, (fun_mk (st := s_in_range) l_in_range c_in_range k_in_range).binds (ps := ["value", "least", "most"]) fun _ _ _ _ _ _ us hl => match us, hl with | [_, _, _], _ => rfl⟩,
    g_in_range := PySem.W.mg_of X G a_in_range,
    f_check_size := f_check_size,
    A_check_size := ⟨_, fun_mk (st := s_check_size) l_check_size c_check_size k_check_size, (fun_mk (st := s_check_size) l_check_size c_check_size k_check_size).binds (ps := ["size"]) fun _ _ _ _ _ _ us hl => match us, hl with | [_], _ => rfl⟩,
    g_check_size := PySem.W.mg_of X G a_check_size,
    f_check_elements := f_check_elements,
    A_check_elements := ⟨_, fun_mk (st := s_check_elements) l_check_elements c_check_elements k_check_elements, (fun_mk (st := s_check_elements) l_check_elements c_check_elements k_check_elements).binds (ps := ["size", "points"]) fun _ _ _ _ _ _ us hl => match us, hl with | [_, _], _ => rfl⟩,
    g_check_elements := PySem.W.mg_of X G a_check_elements,
    f_are_arrows := f_are_arrows,
    A_are_arrows := ⟨_, fun_mk (st := s_are_arrows) l_are_arrows c_are_arrows k_are_arrows, (fun_mk (st := s_are_arrows) l_are_arrows c_are_arrows k_are_arrows).binds (ps := ["size", "arrows"]) fun _ _ _ _ _ _ us hl => match us, hl with | [_, _], _ => rfl⟩,
    g_are_arrows := PySem.W.mg_of X G a_are_arrows,
    f_l_hand := f_l_hand,
    A_l_hand := ⟨_, fun_mk (st := s_l_hand) l_l_hand c_l_hand k_l_hand, (fun_mk (st := s_l_hand) l_l_hand c_l_hand k_l_hand).binds (ps := ["_law_script", "_law_k"]) fun _ _ _ _ _ _ us hl => match us, hl with | [_, _], _ => rfl⟩,
    g_l_hand := PySem.W.mg_of X G a_l_hand,
    f_l_draw := f_l_draw,
    A_l_draw := ⟨_, fun_mk (st := s_l_draw) l_l_draw c_l_draw k_l_draw, (fun_mk (st := s_l_draw) l_l_draw c_l_draw k_l_draw).binds (ps := ["_law_pool", "_law_size"]) fun _ _ _ _ _ _ us hl => match us, hl with | [_, _], _ => rfl⟩,
    g_l_draw := PySem.W.mg_of X G a_l_draw,
    f_l_made := f_l_made,
    A_l_made := ⟨_, fun_mk (st := s_l_made) l_l_made c_l_made k_l_made, (fun_mk (st := s_l_made) l_l_made c_l_made k_l_made).binds (ps := ["_law_door", "_law_size", "_law_row"]) fun _ _ _ _ _ _ us hl => match us, hl with | [_, _, _], _ => rfl⟩,
    g_l_made := PySem.W.mg_of X G a_l_made,
    f_l_refused := f_l_refused,
    A_l_refused := ⟨_, fun_mk (st := s_l_refused) l_l_refused c_l_refused k_l_refused, (fun_mk (st := s_l_refused) l_l_refused c_l_refused k_l_refused).binds (ps := ["_law_door", "_law_size", "_law_row"]) fun _ _ _ _ _ _ us hl => match us, hl with | [_, _, _], _ => rfl⟩,
    g_l_refused := PySem.W.mg_of X G a_l_refused,
    f_l_mixed := f_l_mixed,
    A_l_mixed := ⟨_, fun_mk (st := s_l_mixed) l_l_mixed c_l_mixed k_l_mixed, (fun_mk (st := s_l_mixed) l_l_mixed c_l_mixed k_l_mixed).binds (ps := ["_law_pool", "_law_size"]) fun _ _ _ _ _ _ us hl => match us, hl with | [_, _], _ => rfl⟩,
    g_l_mixed := PySem.W.mg_of X G a_l_mixed,
    f_l_bad := f_l_bad,
    A_l_bad := ⟨_, fun_mk (st := s_l_bad) l_l_bad c_l_bad k_l_bad, (fun_mk (st := s_l_bad) l_l_bad c_l_bad k_l_bad).binds (ps := ["_law_size", "_law_odd"]) fun _ _ _ _ _ _ us hl => match us, hl with | [_, _], _ => rfl⟩,
    g_l_bad := PySem.W.mg_of X G a_l_bad,
    f_l_right := f_l_right,
    A_l_right := ⟨_, fun_mk (st := s_l_right) l_l_right c_l_right k_l_right, (fun_mk (st := s_l_right) l_l_right c_l_right k_l_right).binds (ps := ["_law_size", "_law_row"]) fun _ _ _ _ _ _ us hl => match us, hl with | [_, _], _ => rfl⟩,
    g_l_right := PySem.W.mg_of X G a_l_right,
    f_law := f_law,
    A_law := ⟨_, fun_mk (st := s_law) l_law c_law k_law, (fun_mk (st := s_law) l_law c_law k_law).binds (ps := ["_law_script"]) fun _ _ _ _ _ _ us hl => match us, hl with | [_], _ => rfl⟩,
    L_law := ⟨_, fun_mk (st := s_law) l_law c_law k_law, fun s v => .of_eq rfl⟩,
    g_law := PySem.W.mg_of X G a_law,
    C_Map := C_Map,
    g_Map := PySem.W.mg_of X G a_Map,
    o_Map := ⟨⟨pg_Map, hd_Map, po_Map, sa_Map⟩, sf_Map, ca_Map, cn_Map, ct_Map, cm_Map⟩,
    kit_int_Map := kit_int_Map,
    kit_bool_Map := kit_bool_Map,
    kn_NoneType_Map := kn_NoneType_Map,
    nf_NoneType_Map := nf_NoneType_Map,
    kn_int_Map := kn_int_Map,
    nf_int_Map := nf_int_Map,
    kn_bool_Map := kn_bool_Map,
    nf_bool_Map := nf_bool_Map,
    kn_str_Map := kn_str_Map,
    nf_str_Map := nf_str_Map,
    kn_list_Map := kn_list_Map,
    nf_list_Map := nf_list_Map,
    kn_dict_Map := kn_dict_Map,
    nf_dict_Map := nf_dict_Map,
    kn_tuple_Map := kn_tuple_Map,
    nf_tuple_Map := nf_tuple_Map,
    self_Map := self_Map,
    na_own_size_Map := na_own_size_Map,
    na_own_arrows_Map := na_own_arrows_Map,
    f_Map__init := f_Map__init,
    A_Map__init := ⟨_, fun_mk (st := s_Map__init) l_Map__init c_Map__init k_Map__init, (fun_mk (st := s_Map__init) l_Map__init c_Map__init k_Map__init).binds (ps := ["self", "size", "arrows"]) fun _ _ _ _ _ _ us hl => match us, hl with | [_, _, _], _ => rfl⟩,
    m_Map__init := m_Map__init,
    i_Map__init := i_Map__init,
    M_Map := ⟨mk_Map, m_Map__init, i_Map__init, kc_Map⟩,
    R_Map := ⟨rd_Map, ga_Map⟩,
    p_Map_identity := p_Map_identity,
    f_Map_identity := f_Map_identity,
    A_Map_identity := ⟨_, fun_mk (st := s_Map_identity) l_Map_identity c_Map_identity k_Map_identity, (fun_mk (st := s_Map_identity) l_Map_identity c_Map_identity k_Map_identity).binds (ps := ["cls", "size"]) fun _ _ _ _ _ _ us hl => match us, hl with | [_, _], _ => rfl⟩,
    cm_Map_identity := ⟨at_Map_identity, ⟨_, rc_Map_identity⟩, fi_Map_identity⟩,
    p_Map_empty := p_Map_empty,
    f_Map_empty := f_Map_empty,
    A_Map_empty := ⟨_, fun_mk (st := s_Map_empty) l_Map_empty c_Map_empty k_Map_empty, (fun_mk (st := s_Map_empty) l_Map_empty c_Map_empty k_Map_empty).binds (ps := ["cls", "size"]) fun _ _ _ _ _ _ us hl => match us, hl with | [_, _], _ => rfl⟩,
    cm_Map_empty := ⟨at_Map_empty, ⟨_, rc_Map_empty⟩, fi_Map_empty⟩,
    p_Map_chain := p_Map_chain,
    f_Map_chain := f_Map_chain,
    A_Map_chain := ⟨_, fun_mk (st := s_Map_chain) l_Map_chain c_Map_chain k_Map_chain, StX.bind_star2 (B := fun us => bindArgs _ ⟨us, []⟩) (fun _ _ => rfl) (fun _ _ _ _ => rfl)⟩,
    cm_Map_chain := ⟨at_Map_chain, ⟨_, rc_Map_chain⟩, fi_Map_chain⟩,
    p_Map_cycle := p_Map_cycle,
    f_Map_cycle := f_Map_cycle,
    A_Map_cycle := ⟨_, fun_mk (st := s_Map_cycle) l_Map_cycle c_Map_cycle k_Map_cycle, StX.bind_star2 (B := fun us => bindArgs _ ⟨us, []⟩) (fun _ _ => rfl) (fun _ _ _ _ => rfl)⟩,
    cm_Map_cycle := ⟨at_Map_cycle, ⟨_, rc_Map_cycle⟩, fi_Map_cycle⟩,
    p_Map_swap := p_Map_swap,
    f_Map_swap := f_Map_swap,
    A_Map_swap := ⟨_, fun_mk (st := s_Map_swap) l_Map_swap c_Map_swap k_Map_swap, (fun_mk (st := s_Map_swap) l_Map_swap c_Map_swap k_Map_swap).binds (ps := ["cls", "size", "one", "other"]) fun _ _ _ _ _ _ us hl => match us, hl with | [_, _, _, _], _ => rfl⟩,
    cm_Map_swap := ⟨at_Map_swap, ⟨_, rc_Map_swap⟩, fi_Map_swap⟩,
    p_Map_size := p_Map_size,
    f_Map_size := f_Map_size,
    A_Map_size := ⟨_, fun_mk (st := s_Map_size) l_Map_size c_Map_size k_Map_size, (fun_mk (st := s_Map_size) l_Map_size c_Map_size k_Map_size).binds (ps := ["self"]) fun _ _ _ _ _ _ us hl => match us, hl with | [_], _ => rfl⟩,
    P_Map_size := ⟨m_Map_size, s_get_Map_size, tk_Map_size, _, rc_Map_size⟩,
    p_Map_arrows := p_Map_arrows,
    f_Map_arrows := f_Map_arrows,
    A_Map_arrows := ⟨_, fun_mk (st := s_Map_arrows) l_Map_arrows c_Map_arrows k_Map_arrows, (fun_mk (st := s_Map_arrows) l_Map_arrows c_Map_arrows k_Map_arrows).binds (ps := ["self"]) fun _ _ _ _ _ _ us hl => match us, hl with | [_], _ => rfl⟩,
    P_Map_arrows := ⟨m_Map_arrows, s_get_Map_arrows, tk_Map_arrows, _, rc_Map_arrows⟩,
    f_Map__repr := f_Map__repr,
    A_Map__repr := ⟨_, fun_mk (st := s_Map__repr) l_Map__repr c_Map__repr k_Map__repr, (fun_mk (st := s_Map__repr) l_Map__repr c_Map__repr k_Map__repr).binds (ps := ["self"]) fun _ _ _ _ _ _ us hl => match us, hl with | [_], _ => rfl⟩,
    m_Map__repr := m_Map__repr,
    i_Map__repr := i_Map__repr,
    C_InvalidSize := C_InvalidSize,
    g_InvalidSize := PySem.W.mg_of X G a_InvalidSize,
    x_InvalidSize := ⟨⟨"ValueError", _, _, _, _, _, _, _, _, _, _, _, _, _, _, _, _, _, _, PySem.F.store_ValueError, PySem.F.excBase_ValueError, xl_InvalidSize, by decide +kernel⟩, sa_InvalidSize, ex_InvalidSize, ty_InvalidSize, kc_InvalidSize⟩,
    xf_InvalidSize := ⟨ga_InvalidSize, gg_InvalidSize, ex_InvalidSize, hd_InvalidSize⟩,
    xe_InvalidSize := ⟨ga_InvalidSize, gg_InvalidSize, ex_InvalidSize, hd_InvalidSize, ca_InvalidSize, cn_InvalidSize, ct_InvalidSize, cm_InvalidSize⟩,
    te_InvalidSize := PySem.W.exm_ref ex_InvalidSize hd_InvalidSize ty_InvalidSize ss_InvalidSize,
    kit_ValueError_InvalidSize := kit_ValueError_InvalidSize,
    na_value_InvalidSize := na_value_InvalidSize,
    f_InvalidSize__init := f_InvalidSize__init,
    A_InvalidSize__init := ⟨_, fun_mk (st := s_InvalidSize__init) l_InvalidSize__init c_InvalidSize__init k_InvalidSize__init, (fun_mk (st := s_InvalidSize__init) l_InvalidSize__init c_InvalidSize__init k_InvalidSize__init).binds (ps := ["self", "value"]) fun _ _ _ _ _ _ us hl => match us, hl with | [_, _], _ => rfl⟩,
    m_InvalidSize__init := m_InvalidSize__init,
    ti_InvalidSize__init := ti_InvalidSize__init,
    C_InvalidElement := C_InvalidElement,
    g_InvalidElement := PySem.W.mg_of X G a_InvalidElement,
    x_InvalidElement := ⟨⟨"ValueError", _, _, _, _, _, _, _, _, _, _, _, _, _, _, _, _, _, _, PySem.F.store_ValueError, PySem.F.excBase_ValueError, xl_InvalidElement, by decide +kernel⟩, sa_InvalidElement, ex_InvalidElement, ty_InvalidElement, kc_InvalidElement⟩,
    xf_InvalidElement := ⟨ga_InvalidElement, gg_InvalidElement, ex_InvalidElement, hd_InvalidElement⟩,
    xe_InvalidElement := ⟨ga_InvalidElement, gg_InvalidElement, ex_InvalidElement, hd_InvalidElement, ca_InvalidElement, cn_InvalidElement, ct_InvalidElement, cm_InvalidElement⟩,
    te_InvalidElement := PySem.W.exm_ref ex_InvalidElement hd_InvalidElement ty_InvalidElement ss_InvalidElement,
    kit_ValueError_InvalidElement := kit_ValueError_InvalidElement,
    te_InvalidElement_InvalidSize := PySem.W.exm_ref ex_InvalidSize hd_InvalidSize ty_InvalidSize te_InvalidSize_InvalidElement,
    na_value_InvalidElement := na_value_InvalidElement,
    f_InvalidElement__init := f_InvalidElement__init,
    A_InvalidElement__init := ⟨_, fun_mk (st := s_InvalidElement__init) l_InvalidElement__init c_InvalidElement__init k_InvalidElement__init, (fun_mk (st := s_InvalidElement__init) l_InvalidElement__init c_InvalidElement__init k_InvalidElement__init).binds (ps := ["self", "value"]) fun _ _ _ _ _ _ us hl => match us, hl with | [_, _], _ => rfl⟩,
    m_InvalidElement__init := m_InvalidElement__init,
    ti_InvalidElement__init := ti_InvalidElement__init,
    n_isinstance := PySem.W.mg_none_of X G z_isinstance,
    n_int := PySem.W.mg_none_of X G z_int,
    n_bool := PySem.W.mg_none_of X G z_bool,
    n_dict := PySem.W.mg_none_of X G z_dict,
    n_len := PySem.W.mg_none_of X G z_len,
    n_range := PySem.W.mg_none_of X G z_range,
    n_list := PySem.W.mg_none_of X G z_list,
    n_max := PySem.W.mg_none_of X G z_max,
    n_min := PySem.W.mg_none_of X G z_min,
    n_zip := PySem.W.mg_none_of X G z_zip,
    n_repr := PySem.W.mg_none_of X G z_repr,
    n_ValueError := PySem.W.mg_none_of X G z_ValueError,
    v_MAX_SIZE := ⟨_, PySem.W.mg_of X G v_MAX_SIZE⟩ }⟩
end My
namespace My
open PySem L2 U StX
/-! ### values of any known form -/
def knownV (C : Addr) (H : Hp) : V → Prop
  | .non => True | .bl _ => True | .int _ => True | .str _ => True
  | .ref a => (∃ xs, H a = some (.lst xs)) ∨ (∃ xs, H a = some (.tup xs)) ∨ (∃ kvs, H a = some (.dK kvs)) ∨ ∃ dx fs, H a = some (.ins C dx fs)
  | _ => False
def isI : V → Bool | .int _ => true | _ => false
def isB : V → Bool | .bl _ => true | _ => false
def inR : V → Int → Int → Bool | .int i, a, b => decide (a ≤ i) && decide (i ≤ b) | _, _, _ => false
section
variable {P : Program} {w : World} {K : PySem.W.Frag} {mg : Str → Option Value} {base : Heap}
theorem tyx_ins {H : Hp} {a C dx : Addr} {fs : List (Str × V)} (o : OwnC K C) (e : H a = some (.ins C dx fs)) : TyX K H (.ref a) (.ref C) := .base (.ins e o.cl o.ca o.cn o.ct o.cm)
/-- the type of a known value, and what isinstance says of it -/
theorem ty_known (T : Txt K mg) {H : Hp} {x : V} (h : knownV T.C_Map H x) : ∃ t, TyX K H x t ∧ PySem.W.kitOne K t (.type "int") = some (isI x || isB x) ∧ PySem.W.kitOne K t (.type "bool") = some (isB x) := by
  cases x with
  | non => exact ⟨_, .base .non, kit_ty (r := false) (by decide +kernel), kit_ty (r := false) (by decide +kernel)⟩
  | bl b => exact ⟨_, .base (.bl b), kit_ty (r := true) (by decide +kernel), kit_ty (r := true) (by decide +kernel)⟩
  | int i => exact ⟨_, .base (.int i), kit_ty (r := true) (by decide +kernel), kit_ty (r := false) (by decide +kernel)⟩
  | str z => exact ⟨_, .base (.str z), kit_ty (r := false) (by decide +kernel), kit_ty (r := false) (by decide +kernel)⟩
  | ref a =>
    rcases h with ⟨xs, e⟩ | ⟨xs, e⟩ | ⟨xs, e⟩ | ⟨dx, fs, e⟩
    · exact ⟨_, .base (.lst e), kit_ty (r := false) (by decide +kernel), kit_ty (r := false) (by decide +kernel)⟩
    · exact ⟨_, .base (.tup e), kit_ty (r := false) (by decide +kernel), kit_ty (r := false) (by decide +kernel)⟩
    · exact ⟨_, .base (.dK e), kit_ty (r := false) (by decide +kernel), kit_ty (r := false) (by decide +kernel)⟩
    · exact ⟨_, tyx_ins T.o_Map e, T.kit_int_Map, T.kit_bool_Map⟩
  | byt b => exact h.elim
  | flt b => exact h.elim
  | ty b => exact h.elim
def spIsInt (C : Addr) : Sp := fun vs H Q _ => ∃ x, vs = [x] ∧ knownV C H x ∧ Q (.bl (isI x)) H
theorem ok_is_integer (T : Txt K mg) : FnR P w K mg base CX0 1 T.f_is_integer (spIsInt T.C_Map) := by
  refine T.A_is_integer.ok sc_is_integer (fun vs H Q E h => ?_) (fun cdv A outer s H vs Q E hr h => ?_)
  · obtain ⟨x, rfl, _⟩ := h
    rfl
  · obtain ⟨x, rfl, hx, q⟩ := h
    refine ⟨_, pss_one (ps_ret (pe_and (pe_callB call_isi (by rfl) T.n_isinstance (by decide +kernel) (pa_cons (pv 0) (pa_cons (pe_bltn (v := .ty "int") (u := .type "int") (by rfl) T.n_int (by decide +kernel) rfl) pa_nil)))
      (pe_one (pe_not (pe_callB call_isi (by rfl) T.n_isinstance (by decide +kernel) (pa_cons (pv 0) (pa_cons (pe_bltn (v := .ty "bool") (u := .type "bool") (by rfl) T.n_bool (by decide +kernel) rfl) pa_nil))))))), ?_⟩
    obtain ⟨t, ht, k1, k2⟩ := ty_known T hx
    refine ⟨_, rfl, x, _, t, _, _, rfl, .ty _, ht, k1, _, rfl, ?_⟩
    refine ifB (fun hc => ?_) (fun hc => ?_)
    · refine ⟨_, rfl, x, _, t, _, _, rfl, .ty _, ht, k2, _, rfl, ?_⟩
      have e : (!isB x) = isI x := by cases x <;> first | rfl | cases hc
      rw [e]
      exact q
    · have e : isI x = false := by cases x <;> first | rfl | cases hc
      rw [e] at q
      exact q
def spInR (C : Addr) : Sp := fun vs H Q _ => ∃ x a b, vs = [x, .int a, .int b] ∧ knownV C H x ∧ Q (.bl (inR x a b)) H
theorem ok_in_range (T : Txt K mg) : FnR P w K mg base CX0 2 T.f_in_range (spInR T.C_Map) := by
  refine T.A_in_range.ok sc_in_range (fun vs H Q E h => ?_) (fun cdv A outer s H vs Q E hr h => ?_)
  · obtain ⟨x, a, b, rfl, _⟩ := h
    rfl
  · obtain ⟨x, a, b, rfl, hx, q⟩ := h
    refine ⟨_, pss_one (ps_ret (pe_and (pe_callR (ok_is_integer T) hr T.A_is_integer.kp rfl T.g_is_integer pass0 (pa_cons (pv 0) pa_nil))
      (pe_one (pe_chain op_le op_le (pv 1) (pv 0) (pv 2))))), ?_⟩
    refine ⟨_, rfl, x, rfl, hx, _, rfl, ?_⟩
    cases x with
    | int i =>
      refine iteT ⟨_, rfl, _, rfl, _, _, rfl, rfl, _, rfl, ?_⟩
      refine ifD (fun h => ?_) (fun h => ?_)
      · refine ⟨_, rfl, _, _, rfl, rfl, ?_⟩
        have e : inR (.int i) a b = decide (i ≤ b) := by simp [inR, h]
        rw [e] at q
        exact q
      · have e : inR (.int i) a b = false := by simp [inR, h]
        rw [e] at q
        exact q
    | _ => exact iteF q
/-! ### the law's draws -/
def spDraw : Sp := fun vs H Q _ => ∃ (p : Addr) (a b n : Int), vs = [.ref p, .int n] ∧ H p = some (.lst [.int a, .int b]) ∧ 0 ≤ a ∧ 0 ≤ b ∧ b < 2147483647 ∧ 0 < n ∧ n < 1073741824 ∧
  ∀ a' b' r : Int, 0 ≤ a' → 0 ≤ b' → b' < 2147483647 → 0 ≤ r → r < n → Q (.int r) (upd H p (.lst [.int a', .int b']))
theorem ok_draw (T : Txt K mg) : FnR P w K mg base CX0 1 T.f_l_draw spDraw := by
  refine T.A_l_draw.ok sc_l_draw (fun vs H Q E h => ?_) (fun cdv A outer s H vs Q E hr h => ?_)
  · obtain ⟨p, a, b, n, rfl, _⟩ := h
    rfl
  · obtain ⟨p, a, b, n, rfl, hp, ha, hb, hb2, hn, hn2, k⟩ := h
    refine ⟨_, pss_cons (ps_if (pt_cmpR op_gt (pe_ix ix_list (pv 0) pe_int (fun _ _ => rfl)) pe_int (nomark _))
        (pss_cons (ps_set (i := 2) sc_l_draw.nd rfl (Or.inl rfl) (pe_op op_mod (pe_ix ix_list (pv 0) pe_int (fun _ _ => rfl)) (pv 1)))
        (pss_cons (ps_asg (pe_op op_fdiv (pe_ix ix_list (pv 0) pe_int (fun _ _ => rfl)) (pv 1)) (pg_sub (pv 0) pe_int set_list))
        (pss_one (ps_ret (pv 2))))) pss_nil)
      (pss_cons (ps_asg (pe_op op_mod (pe_op op_add (pe_op op_mul (pe_ix ix_list (pv 0) pe_int (fun _ _ => rfl)) pe_int) pe_int) pe_int) (pg_sub (pv 0) pe_int set_list))
      (pss_one (ps_ret (pe_op op_mod (pe_op op_fdiv (pe_op op_mod (pe_op op_mul (pe_ix ix_list (pv 0) pe_int (fun _ _ => rfl)) (pe_ix ix_list (pv 0) pe_int (fun _ _ => rfl))) pe_int) pe_int) (pv 1))))), ?_⟩
    refine ⟨_, rfl, p, _, 0, _, rfl, rfl, SqL.of hp, rfl, _, _, rfl, rfl, _, rfl, ?_⟩
    refine ifD (fun h => ?_) (fun h => ?_)
    · refine ⟨_, rfl, p, _, 0, _, rfl, rfl, SqL.of hp, rfl, _, rfl, _, _, rfl, rfl, hn, ?_⟩
      refine ⟨_, rfl, p, _, 0, _, rfl, rfl, SqL.of hp, rfl, _, rfl, _, _, rfl, rfl, ⟨hn, hn2⟩, _, rfl, p, _, 0, _, rfl, rfl, hp, rfl, ?_⟩
      refine ⟨_, rfl, ?_⟩
      exact k (a / n) b (a % n) (Int.ediv_nonneg ha (by omega)) hb hb2 (Int.emod_nonneg _ (by omega)) (Int.emod_lt_of_pos _ hn)
    · have m1 : 0 ≤ (b * 48271 + 11) % 2147483647 := Int.emod_nonneg _ (by decide)
      have m2 : (b * 48271 + 11) % 2147483647 < 2147483647 := Int.emod_lt_of_pos _ (by decide)
      refine ⟨_, rfl, p, _, 1, _, rfl, rfl, SqL.of hp, rfl, _, _, rfl, rfl, .inr ⟨by decide, by decide⟩, _, _, rfl, rfl, _, _, rfl, rfl, (by show (0 : Int) < 2147483647; decide), _, rfl, p, _, 1, _, rfl, rfl, hp, rfl, ?_⟩
      refine ⟨_, rfl, p, _, 1, _, rfl, rfl, SqL.of upd_same, rfl, _, rfl, p, _, 1, _, rfl, rfl, SqL.of upd_same, rfl, _, _, rfl, rfl, .inl ⟨by omega, by omega⟩, _, _, rfl, rfl, (by show (0 : Int) < 2147483629; decide), _, _, rfl, rfl, ⟨by decide, by decide⟩, _, rfl, _, _, rfl, rfl, hn, ?_⟩
      exact k a ((b * 48271 + 11) % 2147483647) _ ha m1 m2 (Int.emod_nonneg _ (by omega)) (Int.emod_lt_of_pos _ hn)
end
end My
namespace My
open PySem L2 U StX PM
section
variable {P : Program} {w : World} {K : PySem.W.Frag} {mg : Str → Option Value} {base : Heap}
theorem head_int (xs : List V) (h : ∀ v ∈ xs, ∃ i, v = V.int i) : ∃ c, atI (xs ++ [V.int 0]) 0 = some (V.int c) := by
  cases xs with
  | nil => exact ⟨0, rfl⟩
  | cons a r =>
    obtain ⟨i, rfl⟩ := h a List.mem_cons_self
    refine ⟨i, atI_nat (j := 0) ?_⟩
    rfl
theorem cut_int (ns : List Int) (lo hi : Option Int) : ∀ v ∈ cutV (ns.map V.int) lo hi, ∃ i, v = V.int i := by
  intro v hv
  unfold cutV at hv
  have h1 := List.mem_of_mem_drop (List.mem_of_mem_take hv)
  obtain ⟨i, _, rfl⟩ := List.mem_map.mp h1
  exact ⟨i, rfl⟩
def spHand (K : PySem.W.Frag) : Sp := fun vs H Q _ => ∃ (a : Addr) (ns : List Int) (k : Int), vs = [.ref a, .int k] ∧ SqL K H a (ns.map V.int) ∧ ns.length ≤ 63 ∧
  ∀ p H' x y, H p = none → H' p = some (.lst [.int x, .int y]) → Same H H' → 0 ≤ x → 0 ≤ y → y < 2147483647 → Q (.ref p) H'
theorem ok_hand (T : Txt K mg) : FnR P w K mg base CX0 1 T.f_l_hand (spHand K) := by
  refine T.A_l_hand.ok sc_l_hand (fun vs H Q E h => ?_) (fun cdv A outer s H vs Q E hr h => ?_)
  · obtain ⟨a, ns, k, rfl, _⟩ := h
    rfl
  · obtain ⟨a, ns, k, rfl, hS, hl, q⟩ := h
    refine ⟨_, pss_cons (ps_set (i := 2) sc_l_hand.nd rfl (Or.inl rfl) (pe_ix ix_list (pe_op op_cat (pe_slice sl_list (pv 0) (po_some (pv 1)) (po_some (pe_op op_add (pv 1) pe_int))) (pe_lst (pa_cons pe_int pa_nil))) pe_int (fun _ _ => rfl)))
      (pss_cons (ps_set (i := 3) sc_l_hand.nd rfl (Or.inl rfl) (pe_op op_mod (pe_op op_mul (pe_op op_add (pe_op op_add (pe_op op_mod (pv 2) pe_int) (pe_op op_mul pe_int (pv 1))) pe_int) pe_int) pe_int))
      (pss_one (ps_ret (pe_lst (pa_cons (pe_op op_mul (pe_callTy call_int1 (by rfl) T.n_int (by decide +kernel) (pa_cons (pe_cmpR op_ge (pv 2) (pe_op op_pow pe_int pe_int) (nomark _)) pa_nil)) (pv 2)) (pa_cons (pv 3) pa_nil)))))), ?_⟩
    refine ⟨_, rfl, _, rfl, _, rfl, _, rfl, _, _, rfl, rfl, _, rfl, a, _, rfl, hS, fun p1 n1 => ?_⟩
    refine ⟨(by show 1 ≤ sizeLine; decide), fun p2 n2 => ?_⟩
    have n12 : p1 ≠ p2 := ne_of_none upd_same n2
    have hcl := cutV_length (ns.map V.int) (some k) (some (k + 1))
    rw [List.length_map] at hcl
    refine ⟨p1, p2, cutV (ns.map V.int) (some k) (some (k + 1)), [.int 0], rfl, rfl, (by rw [upd_ne n12, upd_same]), upd_same, ?_, fun p3 n3 => ?_⟩
    · show _ + 1 ≤ sizeLine
      exact Nat.le_trans (by omega : _ ≤ 64) (by decide)
    obtain ⟨c, hc⟩ := head_int _ (cut_int ns (some k) (some (k + 1)))
    refine ⟨p3, _, 0, .int c, rfl, rfl, SqL.of upd_same, hc, ?_⟩
    refine ⟨_, rfl, _, _, rfl, rfl, (by show (0 : Int) < 2147483647; decide), _, rfl, _, _, rfl, rfl, .inl ⟨by decide, by decide⟩, _, _, rfl, rfl, _, _, rfl, rfl, _, _, rfl, rfl, .inr ⟨by decide, by decide⟩, _, _, rfl, rfl, (by show (0 : Int) < 2147483629; decide), ?_⟩
    refine ⟨_, rfl, _, _, rfl, rfl, ⟨by decide, by decide, by decide⟩, _, _, rfl, rfl, .inr ⟨_, rfl, _, rfl, _, _, rfl, rfl, .inl ?_, _, rfl, (by show 2 ≤ sizeLine; decide), fun p4 n4 => ?_⟩⟩
    · cases decide ((10 : Int) ^ (18 : Int).toNat ≤ c) <;> exact ⟨by decide, by decide⟩
    · have s3 := ((Same.new (o := .lst (cutV (ns.map V.int) (some k) (some (k + 1)))) n1).trans (Same.new (o := .lst [.int 0]) n2)).trans (Same.new (o := .lst (cutV (ns.map V.int) (some k) (some (k + 1)) ++ [.int 0])) n3)
      refine q p4 _ _ _ (s3.free n4) upd_same (s3.trans (Same.new n4)) ?_ (Int.emod_nonneg _ (by decide)) ?_
      · cases hd : decide ((10 : Int) ^ (18 : Int).toNat ≤ c) with
        | true =>
          have := of_decide_eq_true hd
          have h10 : (0 : Int) ≤ 10 ^ (18 : Int).toNat := by decide
          show 0 ≤ 1 * c
          omega
        | false => show 0 ≤ 0 * c; omega
      · have := Int.emod_lt_of_pos ((c % 2147483647 + 7919 * k + 1) * 48271) (show (0 : Int) < 2147483629 by decide)
        omega
end
end My
namespace My
open PySem L2 U StX PM
section
variable {P : Program} {w : World} {K : PySem.W.Frag} {mg : Str → Option Value} {base : Heap}
def rowOk (n : Int) (p : Int × Int) : Bool := inR (.int p.1) 0 (n - 1) && inR (.int p.2) 0 (n - 1)
def okArr (n : Int) (l : List (Int × Int)) : Bool := l.all (rowOk n) && decide (l.map (·.2)).Nodup
def tgt (l : List (Int × Int)) : List (Key × V) := l.map fun p => (Sum.inl p.2, V.bl true)
theorem tgt_key {l : List (Int × Int)} {y : Int} : (Sum.inl y : Key) ∈ (tgt l).map (·.1) ↔ y ∈ l.map (·.2) := by
  unfold tgt
  rw [List.map_map]
  constructor
  · intro h
    obtain ⟨p, hp, e⟩ := List.mem_map.mp h
    exact List.mem_map.mpr ⟨p, hp, Sum.inl.inj e⟩
  · intro h
    obtain ⟨p, hp, e⟩ := List.mem_map.mp h
    exact List.mem_map.mpr ⟨p, hp, congrArg Sum.inl e⟩
theorem tgt_val {l : List (Int × Int)} {y : Int} : (valV (tgt l) (Sum.inl y : Key)).isSome = decide (y ∈ l.map (·.2)) := by
  by_cases h : y ∈ l.map (·.2)
  · have h' := tgt_key.mpr h
    rw [decide_eq_true h]
    cases e : valV (tgt l) (Sum.inl y : Key) with
    | some v => rfl
    | none =>
      obtain ⟨p, hp, e2⟩ := List.mem_map.mp h'
      exfalso
      unfold valV at e
      rw [Option.map_eq_none_iff, List.find?_eq_none] at e
      exact e p hp (by simp [e2])
  · rw [decide_eq_false h, valV_none fun z => h (tgt_key.mp z)]
    rfl
theorem okArr_step {n : Int} {l : List (Int × Int)} {i : Nat} {p : Int × Int} (h : l[i]? = some p) : okArr n (l.take (i + 1)) = (okArr n (l.take i) && (rowOk n p && !decide (p.2 ∈ (l.take i).map (·.2)))) := by
  rw [take_more h]
  unfold okArr
  rw [List.all_append, List.map_append]
  have e : decide (((l.take i).map (·.2) ++ [p].map (·.2)).Nodup) = (decide ((l.take i).map (·.2)).Nodup && !decide (p.2 ∈ (l.take i).map (·.2))) := by
    rw [Bool.eq_iff_iff]
    simp only [decide_eq_true_eq, Bool.and_eq_true, Bool.not_eq_true', decide_eq_false_iff_not]
    rw [List.nodup_append]
    constructor
    · rintro ⟨h1, _, h2⟩
      exact ⟨h1, fun hm => h2 _ hm _ (by simp) rfl⟩
    · rintro ⟨h1, h2⟩
      refine ⟨h1, by simp, fun a ha b hb e => ?_⟩
      simp at hb
      subst hb
      exact h2 (e ▸ ha)
  rw [e]
  simp only [List.all_cons, List.all_nil, Bool.and_true]
  cases (l.take i).all (rowOk n) <;> cases rowOk n p <;> cases decide ((l.take i).map (·.2)).Nodup <;> simp
theorem okArr_cut {n : Int} {l : List (Int × Int)} {i : Nat} (h : okArr n (l.take i) = false) : okArr n l = false := by
  cases e : okArr n l with
  | false => rfl
  | true =>
    unfold okArr at e h
    rw [Bool.and_eq_true] at e
    have h1 : (l.take i).all (rowOk n) = true := by
      rw [List.all_eq_true] at e ⊢
      exact fun p hp => e.1 p (List.mem_of_mem_take hp)
    have h2 : ((l.take i).map (·.2)).Nodup := by
      have := of_decide_eq_true e.2
      rw [List.map_take]
      exact List.Sublist.nodup (List.take_sublist _ _) this
    rw [h1, decide_eq_true h2] at h
    cases h
def spArr : Sp := fun vs H Q _ => ∃ (n : Int) (d : Addr) (l : List (Int × Int)), vs = [.int n, .ref d] ∧ H d = some (.dK (kvI l)) ∧ l.length ≤ 1000 ∧ ∀ H', Same H H' → Q (.bl (okArr n l)) H'
theorem ok_are_arrows (T : Txt K mg) : FnR P w K mg base CX0 3 T.f_are_arrows spArr := by
  refine T.A_are_arrows.ok sc_are_arrows (fun vs H Q E h => ?_) (fun cdv A outer s H vs Q E hr h => ?_)
  · obtain ⟨n, d, l, rfl, _⟩ := h
    rfl
  · obtain ⟨n, d, l, rfl, hd, hl, q⟩ := h
    have hu := hu_of hr
    refine ⟨_, pss_cons (ps_if (pt_not (pt_val (pe_callB call_isi (by rfl) T.n_isinstance (by decide +kernel) (pa_cons (pv 1) (pa_cons (pe_bltn (v := .ty "dict") (u := .type "dict") (by rfl) T.n_dict (by decide +kernel) rfl) pa_nil))))) (pss_one (ps_ret pe_bl)) pss_nil)
      (pss_cons (ps_set (i := 2) sc_are_arrows.nd rfl (Or.inl rfl) pe_dnewK)
      (pss_cons (ps_lock (ps_for PassesOwn.never rfl (pi_items (pv 1)) (pg_tup rfl (pgs_cons (pg_name (i := 3) sc_are_arrows.nd rfl (Or.inl rfl)) (pgs_cons (pg_name (i := 4) sc_are_arrows.nd rfl (Or.inl rfl)) pgs_nil)))
        (pss_cons (ps_if (PW.pt (pw_or (pt_not (pt_val (pe_callR (ok_in_range T) hr T.A_in_range.kp rfl T.g_in_range pass0 (pa_cons (pv 3) (pa_cons pe_int (pa_cons (pe_op op_sub (pv 0) pe_int) pa_nil))))))
            (pw_or (pt_not (pt_val (pe_callR (ok_in_range T) hr T.A_in_range.kp rfl T.g_in_range pass0 (pa_cons (pv 4) (pa_cons pe_int (pa_cons (pe_op op_sub (pv 0) pe_int) pa_nil))))))
            (pw_or1 (pt_cmp (pc_din hu (pv 4) (pv 2))))))) (pss_one (ps_ret pe_bl)) pss_nil)
        (pss_one (ps_dput hu (pv 2) (pv 4) pe_bl rfl)))))
      (pss_one (ps_ret pe_bl)))), ?_⟩
    refine ⟨_, rfl, _, _, _, _, true, rfl, .ty _, .base (.dK hd), kit_ty (by decide +kernel), _, rfl, ?_⟩
    refine iteF ?_
    intro t ht
    have ntd : t ≠ d := fun e => by rw [e, hd] at ht; cases ht
    have hd1 : (upd H t (.dK [])) d = some (.dK (kvI l)) := by rw [upd_ne ntd.symm]; exact hd
    refine ⟨d, _, hd1, trivial, fun od => ?_⟩
    refine ⟨_, rfl, d, od, kvI l, rfl, upd_same, ?_⟩
    refine for_it walk_items (fun i σ H' => ∃ v3 v4, σ = [some (.int n), some (.ref d), some (.ref t), v3, v4] ∧ H' d = some (.frz od (.dK (kvI l))) ∧ Off d H H' ∧ H' t = some (.dK (tgt (l.take i))) ∧ okArr n (l.take i) = true)
      ⟨none, none, rfl, upd_same, (Off.new ht).tr Off.lock, (by rw [upd_ne ntd]; exact upd_same), rfl⟩ (fun i σ H' _ ⟨_, _, _, p, _⟩ => p) ?_ ?_
    · rintro i v σ H' H'' hi ⟨v3, v4, rfl, p1, p2, p3, p4⟩ ⟨U, a, b, rfl, hU, rfl, e1, e2⟩
      rw [kvI_length] at hi
      obtain ⟨⟨x, y⟩, exy⟩ : ∃ p, l[i]? = some p := ⟨_, List.getElem?_eq_getElem hi⟩
      have ek : (kvI l)[i]? = some (Sum.inl x, V.int y) := by unfold kvI; rw [List.getElem?_map, exy]; rfl
      dsimp only at e1 e2
      rw [ek] at e1 e2
      cases e1; cases e2
      have nUd : d ≠ U := ne_of_none p1 hU
      have nUt : t ≠ U := ne_of_none p3 hU
      have d3 : (upd H' U (.tup [kV (Sum.inl x), .int y])) d = some (.frz od (.dK (kvI l))) := by rw [upd_ne nUd]; exact p1
      have t3 : (upd H' U (.tup [kV (Sum.inl x), .int y])) t = some (.dK (tgt (l.take i))) := by rw [upd_ne nUt]; exact p3
      have o3 : Off d H (upd H' U (.tup [kV (Sum.inl x), .int y])) := p2.tr (Off.new hU)
      have bad : (rowOk n (x, y) && !decide (y ∈ (l.take i).map (·.2))) = false → Q (.bl false) (upd (upd H' U (.tup [kV (Sum.inl x), .int y])) d (.dK (kvI l))) := by
        intro hb
        have h1 := okArr_step (n := n) exy
        rw [p4, hb] at h1
        have := q _ (o3.back hd)
        rw [okArr_cut h1] at this
        exact this
      refine ⟨U, [.int x, .int y], rfl, SqT.of upd_same, rfl, .int x, [.int y], rfl, .int y, [], rfl, rfl, ?_⟩
      refine ⟨_, rfl, _, rfl, _, _, rfl, rfl, .int x, 0, n - 1, rfl, trivial, _, rfl, ?_⟩
      refine ifNB (fun hc => iteT ⟨d3, bad ?_⟩) (fun hc => ?_)
      · simp [rowOk, hc]
      refine ⟨_, rfl, _, rfl, _, _, rfl, rfl, .int y, 0, n - 1, rfl, trivial, _, rfl, ?_⟩
      refine ifNB (fun hc2 => iteT ⟨d3, bad ?_⟩) (fun hc2 => ?_)
      · simp [rowOk, hc2]
      refine ⟨_, rfl, _, rfl, t, _, rfl, DGet.k (k := Sum.inl y) t3, _, rfl, ?_⟩
      rw [tgt_val]
      refine ifD (fun hm => ⟨d3, bad ?_⟩) (fun hm => ?_)
      · rw [decide_eq_true hm]; simp
      have hlen : (tgt (l.take i)).length ≤ 1000 := by unfold tgt; rw [List.length_map, List.length_take]; omega
      refine ⟨_, rfl, _, rfl, t, _, rfl, DPut.k (k := Sum.inl y) t3 (small1000 hlen), ?_⟩
      refine ⟨_, _, rfl, ?_, o3.mut ht, ?_, ?_⟩
      · rw [upd_ne ntd.symm]; exact d3
      · rw [upd_same, putK_new _ (valV_none fun z => hm (tgt_key.mp z)), take_more exy]
        unfold tgt
        rw [List.map_append]
        rfl
      · rw [okArr_step exy, p4, decide_eq_false hm]
        simp [rowOk, hc, hc2]
    · rintro σ H' ⟨v3, v4, rfl, p1, p2, p3, p4⟩
      rw [kvI_length, List.take_length] at p4
      have := q _ (p2.back hd)
      rw [p4] at this
      exact ⟨p1, this⟩
end
end My
namespace My
open PySem L2 U StX PM
section
variable {P : Program} {w : World} {K : PySem.W.Frag} {mg : Str → Option Value} {base : Heap}
theorem ne_fld : ¬ (("own_size" : Str) = "own_arrows") := by decide +kernel
/-- a map's attributes -/
def flds (n : Int) (D : Addr) : List (Str × V) := putF "own_arrows" (.ref D) (putF "own_size" (.int n) [])
theorem flds_size (n : Int) (D : Addr) : (flds n D).lookup ("own_size" : Str) = some (.int n) := by
  unfold flds
  rw [lookup_putF, if_neg ne_fld, lookup_putF, if_pos rfl]
theorem flds_arrows (n : Int) (D : Addr) : (flds n D).lookup ("own_arrows" : Str) = some (.ref D) := by
  unfold flds
  rw [lookup_putF, if_pos rfl]
/-- a Map of n elements stands at m: the map f -/
structure IsMap (C : Addr) (H : Hp) (m : Addr) (n : Int) (f : PF) : Prop where
  ob : ∃ dx D, H m = some (.ins C dx (flds n D)) ∧ H D = some (.dK (kvI (tab n f)))
  wf : WF n f
  lo : 1 ≤ n
  hi : n ≤ 300
theorem IsMap.same {C : Addr} {H H' : Hp} {m : Addr} {n : Int} {f : PF} (a : IsMap C H m n f) (s : Same H H') : IsMap C H' m n f := by
  obtain ⟨⟨dx, D, h1, h2⟩, wf, lo, hi⟩ := a
  exact ⟨⟨dx, D, s _ _ h1, s _ _ h2⟩, wf, lo, hi⟩
theorem okArr_of {n : Int} {l : List (Int × Int)} {f : PF} (d : DI l f) (w : WF n f) : okArr n l = true := by
  unfold okArr
  rw [Bool.and_eq_true]
  refine ⟨List.all_eq_true.mpr fun p hp => ?_, decide_eq_true (d.vals w)⟩
  obtain ⟨x, y⟩ := p
  have h := w.dom x y (d.mem.mp hp)
  simp only [rowOk, inR, Bool.and_eq_true, decide_eq_true_eq]
  omega
theorem madeR_tab {l : List (Int × Int)} {f : PF} (d : DI l f) (n : Nat) : madeR (fun k => (lk l k).isSome) (fun x => x) (fun k => ((lk l k).map V.int).getD .non) n = kvI (tabN f n) := by
  induction n with
  | zero => rfl
  | succ n ih =>
    rw [madeR_succ, ih]
    have e : tabN f (n + 1) = tabN f n ++ ((f (n : Int)).map fun y => ((n : Int), y)).toList := by
      unfold tabN
      rw [List.range_succ, List.filterMap_append]
      cases h : f (n : Int) <;> simp [h]
    rw [e, d.at_]
    cases h : f (n : Int) with
    | none => simp
    | some y => simp [kvI]
def spInit (C : Addr) : Sp := fun vs H Q _ => ∃ (p dx d : Addr) (n : Int) (l : List (Int × Int)) (f : PF), vs = [.ref p, .int n, .ref d] ∧ H p = some (.ins C dx []) ∧ H d = some (.dK (kvI l)) ∧ DI l f ∧ WF n f ∧ 1 ≤ n ∧ n ≤ 300 ∧ l.length ≤ 1000 ∧
  ∀ (H' : Hp) (D : Addr), Off p H H' → H D = none → H' p = some (.ins C dx (flds n D)) → H' D = some (.dK (kvI (tab n f))) → Q .non H'
theorem ok_init (T : Txt K mg) : FnR P w K mg base CX0 4 T.f_Map__init (spInit T.C_Map) := by
  refine T.A_Map__init.ok sc_Map__init (fun vs H Q E h => ?_) (fun cdv A outer s H vs Q E hr h => ?_)
  · obtain ⟨p, dx, d, n, l, f, rfl, _⟩ := h
    rfl
  · obtain ⟨p, dx, d, n, l, f, rfl, hp, hd, di, wf, h1, h3, hl, q⟩ := h
    have hu := hu_of hr
    obtain ⟨tk, hms⟩ := T.v_MAX_SIZE
    refine ⟨_, pss_cons (ps_if (pt_not (pt_val (pe_callR (ok_in_range T) (hr.mono (by decide)) T.A_in_range.kp rfl T.g_in_range pass0 (pa_cons (pv 1) (pa_cons pe_int (pa_cons (pe_glob (v := .int 300) rfl hms ⟨_, rfl⟩) pa_nil)))))) (pss_one ps_never) pss_nil)
      (pss_cons (ps_if (pt_not (pt_val (pe_callR (ok_are_arrows T) hr T.A_are_arrows.kp rfl T.g_are_arrows pass0 (pa_cons (pv 1) (pa_cons (pv 2) pa_nil))))) (pss_one ps_never) pss_nil)
      (pss_cons (ps_fld (pv 0) (pv 1) rfl)
      (pss_one (ps_fld (pv 0) (pe_dc (own := [("source", 3)]) (g := gName 3) rfl sc_Map__init.nd (pi_range1 rfl T.n_range (pa_cons (pv 1) pa_nil)) (blkOk_by (own := [("source", 3)]) (N := n_Map__init) (sc := defScope s_Map__init) (by decide +kernel))
        (fun _ _ _ _ _ => pg_name (i := 3) sc_Map__init.nd rfl (Or.inl rfl)) (fun _ _ _ _ _ => pts_one (pt_cmp (pc_din hu (pv 3) (pv 2)))) (fun _ _ _ _ _ => pv 3) (fun _ _ _ _ _ => pe_dget hu (pv 2) (pv 3) (fun _ _ => rfl))) rfl)))), ?_⟩
    refine ⟨_, rfl, .int n, 1, 300, rfl, trivial, _, rfl, ?_⟩
    have e1 : inR (.int n) 1 300 = true := by simp [inR, h1, h3]
    rw [e1]
    refine iteF ⟨_, rfl, _, rfl, n, d, l, rfl, hd, hl, fun H1 s1 => ⟨_, rfl, ?_⟩⟩
    rw [okArr_of di wf]
    refine iteF ?_
    have hp1 := s1 _ _ hp
    have npd : p ≠ d := ne_of hp hd (by intro z; cases z)
    refine ⟨_, rfl, _, rfl, p, T.C_Map, dx, [], rfl, hp1, T.o_Map.cl, T.na_own_size_Map, (by show 0 < 1000; decide), ?_⟩
    have hd1 : (upd H1 p (.ins T.C_Map dx (putF "own_size" (.int n) []))) d = some (.dK (kvI l)) := by rw [upd_ne npd.symm]; exact s1 _ _ hd
    dsimp only [sFld]
    refine dc_range (n := n.toNat) (fun k => (lk l k).isSome) (fun k => ((lk l k).map V.int).getD .non) (fun R r => ⟨_, rfl, n, rfl, by omega, by omega, r⟩) (fun _ => rfl) ?_ (small1000 (by omega)) ?_
    · intro k hk H2 s2
      have hd2 := s2 _ _ hd1
      refine ⟨fun R r => ?_, fun hc => ⟨fun R r => ?_, fun R r => ?_⟩⟩
      · refine ⟨_, rfl, _, rfl, d, _, rfl, DGet.k (k := Sum.inl (0 + (k : Int))) hd2, _, rfl, ?_⟩
        rw [valV_kvI, Option.isSome_map, Int.zero_add]
        exact r
      · refine ⟨_, rfl, ?_⟩
        rw [Int.zero_add]
        exact r
      · cases hv : lk l (k : Int) with
        | none => rw [hv] at hc; cases hc
        | some y =>
          rw [hv] at r
          refine ⟨_, rfl, _, rfl, d, .int y, rfl, ?_, r⟩
          have := DGet.k (k := Sum.inl (0 + (k : Int))) hd2
          rw [valV_kvI, Int.zero_add, hv] at this
          rw [Int.zero_add]
          exact this
    · intro D H2 nD hD s2
      rw [madeR_tab di] at hD
      have hp2 := s2 _ _ (upd_same : (upd H1 p (.ins T.C_Map dx (putF "own_size" (.int n) []))) p = _)
      refine ⟨_, rfl, p, T.C_Map, dx, _, rfl, hp2, T.o_Map.cl, T.na_own_arrows_Map, (by show 1 < 1000; decide), ?_⟩
      have nDp : D ≠ p := fun e => by rw [e, upd_same] at nD; cases nD
      have nD1 : H1 D = none := by rw [upd_ne nDp] at nD; exact nD
      refine q _ D (fun b o hb e => ?_) (s1.free nD1) upd_same ?_
      · rw [upd_ne hb]
        refine s2 _ _ ?_
        rw [upd_ne hb]
        exact s1 _ _ e
      · rw [upd_ne nDp]
        exact hD
end
end My
namespace My
open PySem L2 U StX PM
/-! ### what a comprehension over pairs of ints makes -/
section
variable {P : Program} {w : World} {K : PySem.W.Frag} {mg : Str → Option Value} {base : Heap}
theorem mk_map {C : Addr} {H : Hp} {d : Addr} {n : Int} {l : List (Int × Int)} {f : PF} {Q : VK} {E : XK} (hd : H d = some (.dK (kvI l))) (di : DI l f) (wf : WF n f) (h1 : 1 ≤ n) (h3 : n ≤ 300) (hl : l.length ≤ 1000)
    (q : ∀ r H', H r = none → Same H H' → IsMap C H' r n f → Q (.ref r) H') (x dx : Addr) (hx : H x = none) (hdx : H dx = none) (ne : dx ≠ x) :
    spInit C [.ref x, .int n, .ref d] (upd (upd H dx (.own x)) x (.ins C dx [])) (fun v H2 => v = .non ∧ Q (.ref x) H2) E := by
  have s0 : Same H (upd (upd H dx (.own x)) x (.ins C dx [])) := fun b o e => by
    rw [upd_ne (ne_of_none e hx), upd_ne (ne_of_none e hdx)]
    exact e
  refine ⟨x, dx, d, n, l, f, rfl, upd_same, s0 _ _ hd, di, wf, h1, h3, hl, fun H' D o nD hp hD => ⟨rfl, ?_⟩⟩
  refine q x H' hx (fun b u e => o b u (ne_of_none e hx) (s0 b u e)) ⟨⟨dx, D, hp, hD⟩, wf, h1, h3⟩
/-! ### size, arrows, common_size -/
def spArrows (C : Addr) : Sp := fun vs H Q _ => ∃ m n f, vs = [.ref m] ∧ IsMap C H m n f ∧ ∀ p, H p = none → Q (.ref p) (upd H p (.dK (kvI (tab n f))))
theorem ok_arrows (T : Txt K mg) : FnR P w K mg base CX0 1 T.f_Map_arrows (spArrows T.C_Map) := by
  refine T.A_Map_arrows.ok sc_Map_arrows (fun vs H Q E h => ?_) (fun cdv A outer s H vs Q E hr h => ?_)
  · obtain ⟨m, n, f, rfl, _⟩ := h
    rfl
  · obtain ⟨m, n, f, rfl, ⟨⟨dx, D, h1, h2⟩, _⟩, q⟩ := h
    refine ⟨_, pss_one (ps_ret (pe_callTy call_dictD (by rfl) T.n_dict (by decide +kernel) (pa_cons (pe_fld (pv 0) rfl) pa_nil))), ?_⟩
    exact ⟨_, rfl, m, _, dx, _, _, rfl, h1, T.o_Map.cl, T.na_own_arrows_Map, flds_arrows _ _, D, _, rfl, Rd.of h2, q⟩
theorem at_map {C : Addr} {H : Hp} {m : Addr} {n : Int} {f : PF} (h : IsMap C H m n f) : ∃ dx fs, H m = some (.ins C dx fs) := by
  obtain ⟨⟨dx, D, h1, _⟩, _⟩ := h
  exact ⟨dx, _, h1⟩
/-! ### the operators -/
end
end My
namespace My
open PySem L2 U StX PM
section
variable {P : Program} {w : World} {K : PySem.W.Frag} {mg : Str → Option Value} {base : Heap}
/-! ### is_part, <=, <, >= -/
/-! ### == -/
theorem nd_of_map {α β : Type} (h : α → β) : ∀ {l : List α}, (l.map h).Nodup → l.Nodup
  | [], _ => List.nodup_nil
  | a :: r, nd => by
    rw [List.map_cons, List.nodup_cons] at nd
    exact List.nodup_cons.mpr ⟨fun hm => nd.1 (List.mem_map.mpr ⟨a, hm, rfl⟩), nd_of_map h nd.2⟩
end
end My
namespace My
open PySem L2 U StX PM
section
variable {P : Program} {w : World} {K : PySem.W.Frag} {mg : Str → Option Value} {base : Heap}
def spChk : Sp := fun vs H Q _ => ∃ n : Int, vs = [.int n] ∧ 1 ≤ n ∧ n ≤ 300 ∧ Q .non H
theorem ok_check_size (T : Txt K mg) : FnR P w K mg base CX0 3 T.f_check_size spChk := by
  refine T.A_check_size.ok sc_check_size (fun vs H Q E h => ?_) (fun cdv A outer s H vs Q E hr h => ?_)
  · obtain ⟨n, rfl, _⟩ := h
    rfl
  · obtain ⟨n, rfl, h1, h3, q⟩ := h
    obtain ⟨tk, hms⟩ := T.v_MAX_SIZE
    refine ⟨_, pss_one (ps_if (pt_not (pt_val (pe_callR (ok_in_range T) hr T.A_in_range.kp rfl T.g_in_range pass0 (pa_cons (pv 0) (pa_cons pe_int (pa_cons (pe_glob (v := .int 300) rfl hms ⟨_, rfl⟩) pa_nil)))))) (pss_one ps_never) pss_nil), ?_⟩
    refine ⟨_, rfl, .int n, 1, 300, rfl, trivial, _, rfl, ?_⟩
    have e1 : inR (.int n) 1 300 = true := by simp [inR, h1, h3]
    rw [e1]
    exact iteF q
theorem di_id (N : Nat) : DI ((List.range N).map fun (i : Nat) => ((i : Int), (i : Int))) (idn (N : Int)) := by
  refine di_of ?_ fun a b => ?_
  · rw [List.map_map]
    have : ∀ n : Nat, ((List.range n).map ((fun p : Int × Int => p.1) ∘ fun (i : Nat) => ((i : Int), (i : Int)))).Nodup := by
      intro n
      induction n with
      | zero => exact List.nodup_nil
      | succ n ih =>
        rw [List.range_succ, List.map_append, List.nodup_append]
        refine ⟨ih, by simp, fun a ha b hb e => ?_⟩
        obtain ⟨i, hi, rfl⟩ := List.mem_map.mp ha
        rw [List.mem_range] at hi
        simp at hb
        have e' : (i : Int) = b := e
        omega
    exact this N
  · rw [List.mem_map]
    unfold idn
    constructor
    · rintro ⟨i, hi, e⟩
      rw [List.mem_range] at hi
      cases e
      rw [if_pos ⟨by omega, by omega⟩]
    · intro h
      split at h
      · rename_i hc
        cases h
        exact ⟨a.toNat, List.mem_range.mpr (by omega), by rw [Int.toNat_of_nonneg hc.1]⟩
      · cases h
theorem madeR_id (N : Nat) : madeR (fun _ => true) (fun x => x) (fun k => .int k) N = kvI ((List.range N).map fun (i : Nat) => ((i : Int), (i : Int))) := by
  unfold madeR kvI
  rw [List.map_map]
  congr 1
  exact List.filter_eq_self.mpr fun _ _ => rfl
def spNew (C : Addr) (op : Int → PF) : Sp := fun vs H Q _ => ∃ n : Int, vs = [.ref C, .int n] ∧ 1 ≤ n ∧ n ≤ 300 ∧ ∀ r H', H r = none → Same H H' → IsMap C H' r n (op n) → Q (.ref r) H'
theorem ok_identity (T : Txt K mg) : FnR P w K mg base CX0 6 T.f_Map_identity (spNew T.C_Map idn) := by
  refine T.A_Map_identity.ok sc_Map_identity (fun vs H Q E h => ?_) (fun cdv A outer s H vs Q E hr h => ?_)
  · obtain ⟨n, rfl, _⟩ := h
    rfl
  · obtain ⟨n, rfl, h1, h3, q⟩ := h
    refine ⟨_, pss_cons (ps_expr (pe_callR (ok_check_size T) (hr.mono (by decide)) T.A_check_size.kp rfl T.g_check_size pass0 (pa_cons (pv 1) pa_nil)))
      (pss_one (ps_ret (pe_makeL (i := 0) T.M_Map (ok_init T) hr rfl (Or.inl rfl) pass0 (pa_cons (pv 1) (pa_cons (pe_dc (own := [("element", 2)]) (g := gName 2) (tt := tYes) rfl sc_Map_identity.nd (pi_range1 rfl T.n_range (pa_cons (pv 1) pa_nil)) (blkOk_by (own := [("element", 2)]) (N := n_Map_identity) (sc := defScope s_Map_identity) (by decide +kernel))
        (fun _ _ _ _ _ => pg_name (i := 2) sc_Map_identity.nd rfl (Or.inl rfl)) (fun _ _ _ _ _ => pts_nil) (fun _ _ _ _ _ => pv 2) (fun _ _ _ _ _ => pv 2)) pa_nil))))), ?_⟩
    refine ⟨_, rfl, n, rfl, h1, h3, rfl, _, rfl, ?_⟩
    refine dc_range (n := n.toNat) (fun _ => true) (fun k => .int k) (fun R r => ⟨_, rfl, n, rfl, by omega, by omega, r⟩) (fun _ => rfl) ?_ (small1000 (by omega)) ?_
    · intro k hk H1 s1
      refine ⟨fun R r => r, fun _ => ⟨fun R r => ⟨_, rfl, ?_⟩, fun R r => ⟨_, rfl, ?_⟩⟩⟩
      · rw [Int.zero_add]; exact r
      · rw [Int.zero_add]; exact r
    · intro D H1 nD hD s1
      rw [madeR_id] at hD
      have e : ((n.toNat : Nat) : Int) = n := Int.toNat_of_nonneg (by omega)
      have di := di_id n.toNat
      rw [e] at di
      refine mk_map hD di (wf_idn n) h1 h3 (by simp; omega) fun r H3 nr s3 hm => ?_
      exact q r H3 (s1.free nr) (s1.trans s3) hm
theorem di_nil : DI [] emp := ⟨List.nodup_nil, fun _ => rfl⟩
theorem ok_empty (T : Txt K mg) : FnR P w K mg base CX0 6 T.f_Map_empty (spNew T.C_Map fun _ => emp) := by
  refine T.A_Map_empty.ok sc_Map_empty (fun vs H Q E h => ?_) (fun cdv A outer s H vs Q E hr h => ?_)
  · obtain ⟨n, rfl, _⟩ := h
    rfl
  · obtain ⟨n, rfl, h1, h3, q⟩ := h
    refine ⟨_, pss_cons (ps_expr (pe_callR (ok_check_size T) (hr.mono (by decide)) T.A_check_size.kp rfl T.g_check_size pass0 (pa_cons (pv 1) pa_nil)))
      (pss_one (ps_ret (pe_makeL (i := 0) T.M_Map (ok_init T) hr rfl (Or.inl rfl) pass0 (pa_cons (pv 1) (pa_cons pe_dnewK pa_nil))))), ?_⟩
    refine ⟨_, rfl, n, rfl, h1, h3, rfl, _, rfl, fun p hp => ?_⟩
    have s1 : Same H (upd H p (.dK [])) := Same.new hp
    refine mk_map (l := []) upd_same di_nil (wf_emp n) h1 h3 (by simp) fun r H3 nr s3 hm => ?_
    exact q r H3 (s1.free nr) (s1.trans s3) hm
/-! ### first_clash where there is none, | -/
theorem merge_lk : ∀ (r l : List (Int × Int)), (r.map (·.1)).Nodup → ∃ l', mergeK (kvI l) (kvI r) = kvI l' ∧ l'.length ≤ l.length + r.length ∧ ((l.map (·.1)).Nodup → (l'.map (·.1)).Nodup) ∧ ∀ z, lk l' z = (lk r z).or (lk l z)
  | [], l, _ => ⟨l, rfl, by simp, fun h => h, fun z => rfl⟩
  | (x, y) :: r, l, nd => by
    rw [List.map_cons, List.nodup_cons] at nd
    obtain ⟨l1, e1, n1, d1, k1⟩ := putK_lk (l := l) (x := x) (y := y)
    obtain ⟨l2, e2, n2, d2, k2⟩ := merge_lk r l1 nd.2
    refine ⟨l2, ?_, by simp; omega, fun h => d2 (d1 h), fun z => ?_⟩
    · show mergeK (putK (kvI l) (Sum.inl x) (V.int y)) (kvI r) = _
      rw [e1, e2]
    · rw [k2, k1, lk_cons]
      by_cases h : z = x
      · subst h
        rw [if_pos rfl, if_pos rfl, lk_none nd.1]
        rfl
      · have h' : ¬ x = z := fun q => h q.symm
        rw [if_neg h, if_neg h']
end
end My
namespace My
open PySem L2 U StX PM
section
variable {P : Program} {w : World} {K : PySem.W.Frag} {mg : Str → Option Value} {base : Heap}
theorem lastI (pre : List Int) (z : Int) : atI ((pre ++ [z]).map V.int) (-1) = some (V.int z) := by
  rw [List.map_append]
  exact atI_last _ _
end
end My
namespace My
open PySem L2 U StX PM
/-! ### comprehensions over values and keys -/
/-! ### seen and found -/
def kvB (sl : List Int) : List (Key × V) := sl.map fun x => (Sum.inl x, V.bl true)
theorem kvB_key {sl : List Int} {x : Int} : (Sum.inl x : Key) ∈ (kvB sl).map (·.1) ↔ x ∈ sl := by
  unfold kvB
  rw [List.map_map]
  constructor
  · intro h
    obtain ⟨p, hp, e⟩ := List.mem_map.mp h
    cases Sum.inl.inj e
    exact hp
  · intro h
    exact List.mem_map.mpr ⟨x, h, rfl⟩
theorem kvB_val (sl : List Int) (x : Int) : (valV (kvB sl) (Sum.inl x : Key)).isSome = decide (x ∈ sl) := by
  by_cases h : x ∈ sl
  · rw [decide_eq_true h, ← valV_any, List.any_eq_true]
    exact ⟨(Sum.inl x, V.bl true), List.mem_map.mpr ⟨x, h, rfl⟩, by simp⟩
  · rw [decide_eq_false h, valV_none fun z => h (kvB_key.mp z)]
    rfl
end My
namespace My
open PySem L2 U StX PM
section
variable {P : Program} {w : World} {K : PySem.W.Frag} {mg : Str → Option Value} {base : Heap}
theorem get_map {xs : List Int} {i : Nat} {a : Int} (h : xs[i]? = some a) : (xs.map V.int)[i]? = some (V.int a) := by
  rw [List.getElem?_map, h]; rfl
theorem Same.put {H H' : Hp} {p : Addr} {o : HO} (s : Same H H') (h : H p = none) : Same H (upd H' p o) := fun b u e => by rw [upd_ne (ne_of_none e h)]; exact s b u e
end
end My
namespace My
open PySem L2 U StX PM
/-! ### a drawn map -/
structure Drw (n : Int) (i : Nat) (l : List (Int × Int)) (ns : List Int) : Prop where
  kn : (l.map (·.1)).Nodup
  vn : (l.map (·.2)).Nodup
  nn : ns.Nodup
  lt : ∀ p ∈ l, 0 ≤ p.1 ∧ p.1 < i ∧ 0 ≤ p.2 ∧ p.2 < n
  nt : ∀ y ∈ ns, 0 ≤ y ∧ y < n ∧ y ∉ l.map (·.2)
  ln : l.length ≤ i
  le : l.length + ns.length = n.toNat
theorem two_in {l : List (Int × Int)} (vn : (l.map (·.2)).Nodup) : ∀ {x x' y : Int}, (x, y) ∈ l → (x', y) ∈ l → x = x' := by
  induction l with
  | nil => intro _ _ _ h; cases h
  | cons p r ih =>
    intro x x' y h1 h2
    rw [List.map_cons, List.nodup_cons] at vn
    rcases List.mem_cons.mp h1 with e1 | e1 <;> rcases List.mem_cons.mp h2 with e2 | e2
    · subst e1; cases e2; rfl
    · subst e1; exact absurd (List.mem_map.mpr ⟨(x', y), e2, rfl⟩) vn.1
    · subst e2; exact absurd (List.mem_map.mpr ⟨(x, y), e1, rfl⟩) vn.1
    · exact ih vn.2 e1 e2
theorem Drw.wf {n : Int} {l : List (Int × Int)} {ns : List Int} (h0 : 0 ≤ n) (h : Drw n n.toNat l ns) : WF n (lk l) := by
  refine ⟨fun x y e => ?_, fun x x' y e e' => two_in h.vn (lk_mem e) (lk_mem e')⟩
  have := h.lt _ (lk_mem e)
  dsimp only at this
  omega
theorem rg0 (n : Int) : rgV 0 n = ((List.range n.toNat).map fun (i : Nat) => (i : Int)).map V.int := by
  unfold rgV
  rw [List.map_map, show (n - 0).toNat = n.toNat by omega]
  refine List.map_congr_left fun a _ => ?_
  show V.int (0 + (a : Int)) = V.int (a : Int)
  rw [Int.zero_add]
theorem drw0 (n : Int) : Drw n 0 [] ((List.range n.toNat).map fun (i : Nat) => (i : Int)) := by
  refine ⟨List.nodup_nil, List.nodup_nil, ?_, fun p h => (nomatch h), fun y hy => ?_, Nat.le_refl _, by simp⟩
  · have := (di_id n.toNat).nd
    rw [List.map_map] at this
    exact this
  · obtain ⟨i, hi, rfl⟩ := List.mem_map.mp hy
    rw [List.mem_range] at hi
    exact ⟨by omega, by omega, by simp⟩
section
variable {P : Program} {w : World} {K : PySem.W.Frag} {mg : Str → Option Value} {base : Heap}
def PoolAt (H : Hp) (p : Addr) : Prop := ∃ a b : Int, H p = some (.lst [.int a, .int b]) ∧ 0 ≤ a ∧ 0 ≤ b ∧ b < 2147483647
theorem Off.at {p : Addr} {H H' : Hp} {o : HO} (a : Off p H H') : Off p H (upd H' p o) := fun b u hb e => by rw [upd_ne hb]; exact a b u hb e
end
end My
namespace My
open PySem L2 U StX PM
/-! ### expressions over maps: new objects alone -/
theorem dEq_di {l l' : List (Int × Int)} {f : PF} (d : DI l f) (d' : DI l' f) : dEq (kvI l) (kvI l') = true := by
  have n1 := nd_of_map _ d.nd
  have n2 := nd_of_map _ d'.nd
  have s1 : ∀ p ∈ l, p ∈ l' := by
    rintro ⟨x, y⟩ hp
    exact d'.mem.mpr (d.mem.mp hp)
  have s2 : ∀ p ∈ l', p ∈ l := by
    rintro ⟨x, y⟩ hp
    exact d.mem.mpr (d'.mem.mp hp)
  have l1 := List.Nodup.length_le_of_subset n1 s1
  have l2 := List.Nodup.length_le_of_subset n2 s2
  unfold dEq
  rw [kvI_length, kvI_length, Bool.and_eq_true]
  refine ⟨by rw [beq_iff_eq]; omega, List.all_eq_true.mpr fun p hp => ?_⟩
  unfold kvI at hp
  obtain ⟨⟨x, y⟩, hm, rfl⟩ := List.mem_map.mp hp
  rw [decide_eq_true_eq, valV_kvI, d'.at_, d.mem.mp hm]
  rfl
/-! ### dict([(x, x) for x in one.arrows]) -/
end My
namespace My
open PySem L2 U StX PM
/-! ### values that are no maps; check_map -/
def nonMapV (H : Hp) : V → Prop
  | .non => True | .bl _ => True | .int _ => True | .str _ => True
  | .ref a => (∃ xs, H a = some (.lst xs)) ∨ (∃ xs, H a = some (.tup xs)) ∨ (∃ kvs, H a = some (.dK kvs))
  | _ => False
/-! ### lists of rows -/
def RowsAt (H : Hp) : List Addr → List (List Int) → Prop
  | [], [] => True
  | a :: as, r :: rs => H a = some (.lst (r.map V.int)) ∧ RowsAt H as rs
  | _, _ => False
theorem RowsAt.map {H H' : Hp} : ∀ {as : List Addr} {rs : List (List Int)}, RowsAt H as rs → (∀ a ∈ as, ∀ xs, H a = some (.lst xs) → H' a = some (.lst xs)) → RowsAt H' as rs
  | [], [], _, _ => trivial
  | _ :: as, _ :: rs, h, k => ⟨k _ List.mem_cons_self _ h.1, RowsAt.map h.2 fun a ha => k a (List.mem_cons_of_mem _ ha)⟩
  | [], _ :: _, h, _ => h.elim
  | _ :: _, [], h, _ => h.elim
theorem RowsAt.same {H H' : Hp} {as : List Addr} {rs : List (List Int)} (h : RowsAt H as rs) (s : Same H H') : RowsAt H' as rs := h.map fun a _ xs e => s a _ e
theorem RowsAt.get {H : Hp} : ∀ {as : List Addr} {rs : List (List Int)}, RowsAt H as rs → ∀ (i : Nat) (a : Addr), as[i]? = some a → ∃ r, rs[i]? = some r ∧ H a = some (.lst (r.map V.int))
  | [], [], _, i, a, e => by simp at e
  | b :: as, r :: rs, h, 0, a, e => by cases e; exact ⟨r, rfl, h.1⟩
  | _ :: as, _ :: rs, h, i + 1, a, e => RowsAt.get h.2 i a e
  | [], _ :: _, h, _, _, _ => h.elim
  | _ :: _, [], h, _, _, _ => h.elim
theorem RowsAt.mem {H : Hp} {as : List Addr} {rs : List (List Int)} (h : RowsAt H as rs) {a : Addr} (ha : a ∈ as) : ∃ r ∈ rs, H a = some (.lst (r.map V.int)) := by
  obtain ⟨i, hi⟩ := List.mem_iff_getElem?.mp ha
  obtain ⟨r, e1, e2⟩ := h.get i a hi
  exact ⟨r, List.mem_of_getElem? e1, e2⟩
def dInts (r : List Int) : PyData := .list (r.map PyData.int)
theorem dp_ints {K : PySem.W.Frag} {H : Hp} : ∀ (r : List Int), DpAll K H (r.map V.int) (r.map PyData.int)
  | [] => .nil
  | x :: r => .cons (.int x) (dp_ints r)
theorem RowsAt.dp {K : PySem.W.Frag} {H : Hp} : ∀ {as : List Addr} {rs : List (List Int)}, RowsAt H as rs → DpAll K H (as.map V.ref) (rs.map dInts)
  | [], [], _ => .nil
  | _ :: as, r :: rs, h => .cons (.lst (SqL.of h.1) (dp_ints r)) (RowsAt.dp h.2)
  | [], _ :: _, h => h.elim
  | _ :: _, [], h => h.elim
end My
namespace My
open PySem L2 U StX PM
/-! ### lists of ints: in, comprehensions -/
/-! ### rows with marks -/
def PairsAt (H : Hp) : List Addr → List Addr → List Bool → Prop
  | [], [], [] => True
  | p :: ps, a :: as, b :: bs => H p = some (.tup [.ref a, .bl b]) ∧ PairsAt H ps as bs
  | _, _, _ => False
theorem PairsAt.map {H H' : Hp} : ∀ {ps as : List Addr} {bs : List Bool}, PairsAt H ps as bs → (∀ p ∈ ps, ∀ xs, H p = some (.tup xs) → H' p = some (.tup xs)) → PairsAt H' ps as bs
  | [], [], [], _, _ => trivial
  | _ :: ps, _ :: as, _ :: bs, h, k => ⟨k _ List.mem_cons_self _ h.1, PairsAt.map h.2 fun a ha => k a (List.mem_cons_of_mem _ ha)⟩
  | [], [], _ :: _, h, _ => h.elim
  | [], _ :: _, _, h, _ => h.elim
  | _ :: _, [], _, h, _ => h.elim
  | _ :: _, _ :: _, [], h, _ => h.elim
theorem PairsAt.same {H H' : Hp} {ps as : List Addr} {bs : List Bool} (h : PairsAt H ps as bs) (s : Same H H') : PairsAt H' ps as bs := h.map fun a _ xs e => s a _ e
theorem PairsAt.get {H : Hp} : ∀ {ps as : List Addr} {bs : List Bool}, PairsAt H ps as bs → ∀ (i : Nat) (p : Addr), ps[i]? = some p → ∃ a b, as[i]? = some a ∧ bs[i]? = some b ∧ H p = some (.tup [.ref a, .bl b])
  | [], [], [], _, i, a, e => by simp at e
  | _ :: ps, a :: as, b :: bs, h, 0, p, e => by cases e; exact ⟨a, b, rfl, rfl, h.1⟩
  | _ :: ps, _ :: as, _ :: bs, h, i + 1, p, e => PairsAt.get h.2 i p e
  | [], [], _ :: _, h, _, _, _ => h.elim
  | [], _ :: _, _, h, _, _, _ => h.elim
  | _ :: _, [], _, h, _, _, _ => h.elim
  | _ :: _, _ :: _, [], h, _, _, _ => h.elim
end My
namespace My
open PySem L2 U StX PM
/-! ### rows by their first elements -/
def RowsZ (f : PF) (H : Hp) (zs : List (Addr × Int)) : Prop := ∀ z ∈ zs, H z.1 = some (.lst ((rowN f z.2).map V.int))
theorem RowsZ.at {f : PF} {H : Hp} : ∀ {zs : List (Addr × Int)}, RowsZ f H zs → RowsAt H (zs.map (·.1)) ((zs.map (·.2)).map (rowN f))
  | [], _ => trivial
  | z :: zs, h => ⟨h z List.mem_cons_self, RowsZ.at fun x hx => h x (List.mem_cons_of_mem _ hx)⟩
/-! ### data that may be compared -/
end My
namespace My
open PySem L2 U StX PM
theorem SqL.same {K : PySem.W.Frag} {H H' : Hp} {a : Addr} {xs : List V} (h : SqL K H a xs) (s : Same H H') : SqL K H' a xs := by
  rcases h with (h | ⟨o, h⟩) | h
  · exact .inl (.inl (s _ _ h))
  · exact .inl (.inr ⟨o, s _ _ h⟩)
  · exact .inr h
theorem Same.off {H H1 H2 : Hp} {p : Addr} (s : Same H H1) (o : Off p H1 H2) (h : H p = none) : Same H H2 := fun b u e => o b u (ne_of_none e h) (s b u e)
theorem yes_ {σ : L2.St} {H : Hp} {A B : Hp → Prop} (h : A H) : tYes σ H (fun b H3 => if b = true then A H3 else B H3) := by
  show (if true = true then A H else B H)
  rw [if_pos rfl]
  exact h
theorem PoolAt.same {H H' : Hp} {p : Addr} (h : PoolAt H p) (s : Same H H') : PoolAt H' p := by
  obtain ⟨a, b, e, r⟩ := h
  exact ⟨a, b, s _ _ e, r⟩
theorem PoolAt.lst {H : Hp} {p : Addr} (h : PoolAt H p) : ∃ xs, H p = some (.lst xs) := by
  obtain ⟨a, b, e, r⟩ := h
  exact ⟨_, e⟩
theorem PoolAt.ne {H : Hp} {p q : Addr} (h : PoolAt H p) (hq : H q = none) : p ≠ q := by
  obtain ⟨xs, e⟩ := h.lst
  exact ne_of_none e hq
def spLaw (K : PySem.W.Frag) : Sp := fun vs H Q _ => ∃ (a : Addr) (ns : List Int), vs = [.ref a] ∧ SqL K H a (ns.map V.int) ∧ ns.length ≤ 63 ∧ ∀ H', Q (.bl true) H'
/-- Map(n, d) -/
theorem init_of {C : Addr} {H : Hp} {d : Addr} {n : Int} {l : List (Int × Int)} {f : PF} {R : VK} {E : XK} {x dx : Addr} (hd : H d = some (.dK (kvI l))) (di : DI l f) (wf : WF n f) (h1 : 1 ≤ n) (h3 : n ≤ 300) (hl : l.length ≤ 1000)
    (hx : H x = none) (hdx : H dx = none) (ne : dx ≠ x) (q : ∀ H', Same H H' → IsMap C H' x n f → R .non H') :
    spInit C [.ref x, .int n, .ref d] (upd (upd H dx (.own x)) x (.ins C dx [])) R E := by
  have s0 : Same H (upd (upd H dx (.own x)) x (.ins C dx [])) := fun b o e => by
    rw [upd_ne (ne_of_none e hx), upd_ne (ne_of_none e hdx)]
    exact e
  refine ⟨x, dx, d, n, l, f, rfl, upd_same, s0 _ _ hd, di, wf, h1, h3, hl, fun H' D o nD hp hD => ?_⟩
  exact q H' (fun b u e => o b u (ne_of_none e hx) (s0 b u e)) ⟨⟨dx, D, hp, hD⟩, wf, h1, h3⟩
/-- the law's draw, told by the pool alone -/
theorem draw_of {H : Hp} {p : Addr} {n : Int} {Q : VK} {E : XK} (h : PoolAt H p) (n0 : 0 < n) (n1 : n < 1073741824) (k : ∀ r H', 0 ≤ r → r < n → PoolAt H' p → Off p H H' → (∃ xs, H' = upd H p (.lst xs)) → Q (.int r) H') : spDraw [.ref p, .int n] H Q E := by
  obtain ⟨a, b, e, ha, hb, hc⟩ := h
  exact ⟨p, a, b, n, rfl, e, ha, hb, hc, n0, n1, fun a' b' r h1 h2 h3 h4 h5 => k r _ h4 h5 ⟨a', b', upd_same, h1, h2, h3⟩ Off.lock ⟨_, rfl⟩⟩
end My
namespace My
open PySem L2 U StX PM
theorem draw_R {i : Nat} {tb : TE} {σ : L2.St} {H : Hp} {Q : VK} {p : Addr} {n : Int} (hi : σ[i]? = some (some (.ref p))) (hb : ∀ R : VK, R (.int n) H → tb σ H R) (h : PoolAt H p) (n0 : 0 < n) (n1 : n < 1073741824)
    (k : ∀ r H', 0 ≤ r → r < n → PoolAt H' p → Off p H H' → Q (.int r) H') : tCallR spDraw E0 (tCons (tVar i) (tCons tb tNil)) σ H Q :=
  ⟨_, hi, hb _ (draw_of (E := E0) h n0 n1 fun r H' h1 h2 h3 h4 _ => k r H' h1 h2 h3 h4)⟩
theorem lay_all {k : Nat} {ds : List PyData} (h : ∀ d ∈ ds, PyData.canLay0 d = true ∧ PyData.depth d ≤ k) : PyData.canLayAll0 ds = true ∧ PyData.depthAll ds ≤ k := by
  induction ds with
  | nil => exact ⟨rfl, Nat.zero_le _⟩
  | cons p l ih =>
    obtain ⟨h1, h2⟩ := h p List.mem_cons_self
    obtain ⟨i1, i2⟩ := ih fun d hd => h d (List.mem_cons_of_mem _ hd)
    refine ⟨?_, ?_⟩
    · show (PyData.canLay0 p && PyData.canLayAll0 l) = true
      rw [i1, h1]; rfl
    · show max (PyData.depth p) (PyData.depthAll l) ≤ k
      omega
theorem shaped_all {ds : List PyData} (h : ∀ d ∈ ds, PyData.canLay0 d = true ∧ PyData.depth d ≤ 60) : SeqAt.shaped (.list ds) = true := by
  unfold SeqAt.shaped
  have h := lay_all h
  rw [Bool.and_eq_true]
  refine ⟨h.1, decide_eq_true ?_⟩
  show PyData.depthAll ds + 1 ≤ 64
  omega
end My
namespace My
open PySem L2 U StX PM
/-! ### a map as a text -/
def dI (l : List (Int × Int)) : PyData := flatD (kvI l) (l.map fun p => .int p.2)
theorem dI_eq (l : List (Int × Int)) : dI l = .dict (l.map fun p => (PyData.int p.1, PyData.int p.2)) := by
  unfold dI flatD kvI
  rw [List.map_map]
  congr 1
  induction l with
  | nil => rfl
  | cons p r ih =>
    rw [List.map_cons, List.map_cons, List.map_cons, List.zip_cons_cons, ih]
    rfl
theorem dI_sc : ∀ (l : List (Int × Int)), Paired (fun kv d => Sc kv.2 d) (kvI l) (l.map fun p => PyData.int p.2)
  | [] => .nil
  | p :: r => .cons (.int p.2) (dI_sc r)
def small (i : Int) : Prop := i.natAbs < 1000000000
theorem small_log {i : Int} (h : small i) : i.natAbs.log2 < 1920 := by
  unfold small at h
  by_cases h0 : i.natAbs = 0
  · rw [h0]; decide
  · rw [Nat.log2_lt h0]
    exact Nat.lt_of_lt_of_le h (by decide)
theorem small_len {i : Int} (h : small i) : (Str.ofString (toString i)).length ≤ 10 := by
  have := int_text_length_le10 (a := i) (k := 9) (by decide) h
  rw [ofString_length]
  omega
def rowT (p : Int × Int) : Str := PyData.shown (.int p.1) ++ ": " ++ PyData.shown (.int p.2)
theorem dI_shown (l : List (Int × Int)) : (dI l).shown = dictText (l.map rowT) := by
  rw [dI_eq]
  simp only [PyData.shown]
  congr 1
  induction l with
  | nil => rfl
  | cons p r ih =>
    rw [List.map_cons, List.map_cons]
    simp only [PyData.shownKv]
    rw [ih]
    rfl
theorem rowT_len {p : Int × Int} (h1 : small p.1) (h2 : small p.2) : (rowT p).length ≤ 22 := by
  have a := small_len h1
  have b := small_len h2
  unfold rowT
  simp only [PyData.shown]
  rw [strLen_append, strLen_append]
  show _ + 2 + _ ≤ 22
  omega
theorem sum_le {l : List Nat} {B : Nat} (h : ∀ x ∈ l, x ≤ B) : l.sum ≤ l.length * B := by
  induction l with
  | nil => exact Nat.zero_le _
  | cons a r ih =>
    rw [List.sum_cons, List.length_cons, Nat.succ_mul]
    have := ih fun x hx => h x (List.mem_cons_of_mem _ hx)
    have := h a List.mem_cons_self
    omega
theorem dI_len {l : List (Int × Int)} (h : ∀ p ∈ l, small p.1 ∧ small p.2) (hl : l.length ≤ 1000) : (dI l).shown.length ≤ 30000 := by
  rw [dI_shown]
  have h1 := dictText_len_le (l.map rowT)
  have h2 : ((l.map rowT).map (·.length)).sum ≤ ((l.map rowT).map (·.length)).length * 22 := sum_le fun x hx => by
    rw [List.map_map] at hx
    obtain ⟨p, hp, rfl⟩ := List.mem_map.mp hx
    exact rowT_len (h p hp).1 (h p hp).2
  rw [List.length_map, List.length_map] at h2
  rw [List.length_map] at h1
  omega
theorem dI_able {l : List (Int × Int)} (h : ∀ p ∈ l, small p.1 ∧ small p.2) : (dI l).showable = true := by
  rw [dI_eq]
  simp only [PyData.showable]
  induction l with
  | nil => rfl
  | cons p r ih =>
    rw [List.map_cons]
    simp only [PyData.showableKv, PyData.showable]
    have := h p List.mem_cons_self
    rw [ih fun q hq => h q (List.mem_cons_of_mem _ hq), decide_eq_true (small_log this.1), decide_eq_true (small_log this.2)]
    rfl
theorem dI_depth (l : List (Int × Int)) : (dI l).depth ≤ 60 := by
  rw [dI_eq]
  show PyData.depthKv (l.map fun p => (PyData.int p.1, PyData.int p.2)) + 1 ≤ 60
  have : PyData.depthKv (l.map fun p => (PyData.int p.1, PyData.int p.2)) = 0 := by
    induction l with
    | nil => rfl
    | cons p r ih =>
      rw [List.map_cons]
      show max (max 0 0) (PyData.depthKv (r.map fun p => (PyData.int p.1, PyData.int p.2))) = 0
      rw [ih]
      rfl
  omega
def reprM (n : Int) (l : List (Int × Int)) : Str := Str.empty ++ "Map(" ++ toString n ++ ", " ++ (dI l).shown ++ ")"
theorem tab_small {n : Int} {f : PF} (wf : WF n f) (h : n ≤ 300) : ∀ p ∈ tab n f, small p.1 ∧ small p.2 := by
  rintro ⟨x, y⟩ hp
  have := wf.dom x y ((mem_tab wf).mp hp)
  unfold small
  constructor <;> (dsimp only; omega)
def spRepr (C : Addr) : Sp := fun vs H Q _ => ∃ a n f, vs = [.ref a] ∧ IsMap C H a n f ∧ ((reprM n (tab n f)).length ≤ 40000 → Q (.str (reprM n (tab n f))) H)
section
variable {P : Program} {w : World} {K : PySem.W.Frag} {mg : Str → Option Value} {base : Heap}
theorem ok_repr (T : Txt K mg) : FnG P w K mg base CX0 5 T.f_Map__repr (spRepr T.C_Map) := by
  refine T.A_Map__repr.okG sc_Map__repr (fun vs H Q E h => ?_) (fun cdv A outer s H vs Q E gd hr h => ?_)
  · obtain ⟨a, n, f, rfl, _⟩ := h
    rfl
  · obtain ⟨a, n, f, rfl, ha, q⟩ := h
    refine ⟨_, pss_one (ps_ret (pe_joined (.cons pe_str (.cons (pe_fmt (pe_fld (pv 0) rfl)) (.cons pe_str (.cons (pe_fmtF gd hr.units (pe_fld (pv 0) rfl)) (.cons pe_str .nil))))))), ?_⟩
    obtain ⟨dx, D, h1, h2⟩ := id ha.ob
    have hn : small n := by have := ha.lo; have := ha.hi; unfold small; omega
    have hs := tab_small ha.wf ha.hi
    have tl := tab_len n f
    have h9 := ha.hi
    have l1 := small_len hn
    have l2 := dI_len hs (by omega)
    have e1 : (Str.empty ++ Str.ofString "Map(").length = 4 := rfl
    have e2 : (Str.empty ++ Str.ofString "Map(" ++ Str.ofString (toString n)).length = 4 + (Str.ofString (toString n)).length := by rw [strLen_append, e1]
    have e3 : (Str.empty ++ Str.ofString "Map(" ++ Str.ofString (toString n) ++ Str.ofString ", ").length = 4 + (Str.ofString (toString n)).length + 2 := by rw [strLen_append, e2]; rfl
    have e4 : (Str.empty ++ Str.ofString "Map(" ++ Str.ofString (toString n) ++ Str.ofString ", " ++ (dI (tab n f)).shown).length = 4 + (Str.ofString (toString n)).length + 2 + (dI (tab n f)).shown.length := by rw [strLen_append, e3]
    have e5 : (Str.empty ++ Str.ofString "Map(" ++ Str.ofString (toString n) ++ Str.ofString ", " ++ (dI (tab n f)).shown ++ Str.ofString ")").length = 4 + (Str.ofString (toString n)).length + 2 + (dI (tab n f)).shown.length + 1 := by rw [strLen_append, e4]; rfl
    have big : 50000 ≤ sizeLine := by decide
    refine ⟨_, rfl, by rw [e1]; omega, ?_⟩
    refine ⟨_, rfl, a, _, dx, _, _, rfl, h1, T.o_Map.cl, T.na_own_size_Map, flds_size _ _, .inr ⟨n, rfl, small_log hn, _, rfl, by rw [e2]; omega, ?_⟩⟩
    refine ⟨_, rfl, by rw [e3]; omega, ?_⟩
    refine ⟨_, rfl, a, _, dx, _, _, rfl, h1, T.o_Map.cl, T.na_own_arrows_Map, flds_arrows _ _, D, kvI (tab n f), _, rfl, h2, dI_sc _, dI_able hs, dI_depth _, Nat.le_trans l2 (by omega), _, rfl, by rw [show (flatD (kvI (tab n f)) ((tab n f).map fun p => PyData.int p.2)) = dI (tab n f) from rfl, e4]; omega, ?_⟩
    refine ⟨_, rfl, by rw [show (flatD (kvI (tab n f)) ((tab n f).map fun p => PyData.int p.2)) = dI (tab n f) from rfl, e5]; omega, ?_⟩
    exact q (by unfold reprM; rw [e5]; omega)
/-! ### == with any value -/
end
end My
namespace My
open PySem L2 U StX PM
theorem nonMapV.same {H H' : Hp} {x : V} (h : nonMapV H x) (s : L2.Same H H') : nonMapV H' x := by
  cases x with
  | ref b =>
    rcases h with ⟨xs, e⟩ | ⟨xs, e⟩ | ⟨xs, e⟩
    · exact .inl ⟨_, s _ _ e⟩
    · exact .inr (.inl ⟨_, s _ _ e⟩)
    · exact .inr (.inr ⟨_, s _ _ e⟩)
  | _ => exact h
end My
namespace My
open PySem L2 U StX PM
/-! ### dict([(a, b) for x, y in d.items() if ..]) -/
theorem _root_.PySem.Paired.map {α β : Type} {R S : α → β → Prop} : ∀ {xs : List α} {ys : List β}, Paired R xs ys → (∀ x ∈ xs, ∀ y, R x y → S x y) → Paired S xs ys
  | _, _, .nil, _ => .nil
  | _, _, .cons h r, k => .cons (k _ List.mem_cons_self _ h) (PySem.Paired.map r fun x hx => k x (List.mem_cons_of_mem _ hx))
theorem dict_of {m : List (Int × Int)} {g : PF} (di : DI m g) : ∃ l, mergeK [] (kvI m) = kvI l ∧ l.length ≤ m.length ∧ DI l g := by
  obtain ⟨l', e', n', d', k'⟩ := merge_lk m [] di.nd
  refine ⟨l', e', by simpa using n', d' (by simp), fun z => ?_⟩
  rw [k', ← di.at_]
  cases lk m z <;> rfl
/-- dict(..) of such a list -/
theorem dictP_of {K : PySem.W.Frag} {H : Hp} {D : Addr} {ps : List Addr} {m : List (Int × Int)} {Q : VK} {g : PF} (hD : H D = some (.lst (ps.map V.ref))) (hp : Paired (fun p (kv : Key × V) => H p = some (.tup [kV kv.1, kv.2])) ps (kvI m)) (di : DI m g)
    (hq : ∀ p l, H p = none → l.length ≤ m.length → DI l g → Q (.ref p) (upd H p (.dK (kvI l)))) :
    ∃ (a : Addr) (ps : List Addr) (kvs : List (Key × V)), [V.ref D] = [.ref a] ∧ SqL K H a (ps.map V.ref) ∧ Paired (fun p kv => SqT K H p [kV kv.1, kv.2]) ps kvs ∧ ∀ p, H p = none → Q (.ref p) (upd H p (.dK (mergeK [] kvs))) := by
  refine ⟨D, ps, _, rfl, SqL.of hD, hp.map fun p _ kv e => SqT.of e, fun p np => ?_⟩
  obtain ⟨l', e', n', d', k'⟩ := merge_lk m [] di.nd
  have e2 : mergeK [] (kvI m) = kvI l' := e'
  rw [e2]
  refine hq p l' np (by simpa using n') ⟨d' (by simp), fun z => ?_⟩
  rw [k', ← di.at_]
  cases lk m z <;> rfl
end My
namespace My
open PySem L2 U StX PM
section
variable {P : Program} {w : World} {K : PySem.W.Frag} {mg : Str → Option Value} {base : Heap}
/-! ### repr while an exception is handled -/
theorem ok_reprH (T : Txt K mg) : FnHG P w K mg base CX0 5 T.f_Map__repr (spRepr T.C_Map) := by
  refine T.A_Map__repr.okHG sc_Map__repr (fun vs H Q E h => ?_) (fun cdv A outer s H vs Q E p gd hr h => ?_)
  · obtain ⟨a, n, f, rfl, _⟩ := h
    rfl
  · obtain ⟨a, n, f, rfl, ha, q⟩ := h
    have hun : (A.deeper (PyProof.Rows.envOfC "Map.__repr__" (defScope s_Map__repr) s.heap.objs.size T.f_Map__repr cdv)).units + 64 < cLine := by have := hr.un; omega
    refine ⟨_, pss_one (ps_ret (pe_joined (.cons pe_str (.cons (pe_fmt (pe_fld (pv 0) rfl)) (.cons pe_str (.cons (pe_fmtF gd hun (pe_fld (pv 0) rfl)) (.cons pe_str .nil))))))), ?_⟩
    obtain ⟨dx, D, h1, h2⟩ := id ha.ob
    have hn : small n := by have := ha.lo; have := ha.hi; unfold small; omega
    have hs := tab_small ha.wf ha.hi
    have tl := tab_len n f
    have h9 := ha.hi
    have l1 := small_len hn
    have l2 := dI_len hs (by omega)
    have e1 : (Str.empty ++ Str.ofString "Map(").length = 4 := rfl
    have e2 : (Str.empty ++ Str.ofString "Map(" ++ Str.ofString (toString n)).length = 4 + (Str.ofString (toString n)).length := by rw [strLen_append, e1]
    have e3 : (Str.empty ++ Str.ofString "Map(" ++ Str.ofString (toString n) ++ Str.ofString ", ").length = 4 + (Str.ofString (toString n)).length + 2 := by rw [strLen_append, e2]; rfl
    have e4 : (Str.empty ++ Str.ofString "Map(" ++ Str.ofString (toString n) ++ Str.ofString ", " ++ (dI (tab n f)).shown).length = 4 + (Str.ofString (toString n)).length + 2 + (dI (tab n f)).shown.length := by rw [strLen_append, e3]
    have e5 : (Str.empty ++ Str.ofString "Map(" ++ Str.ofString (toString n) ++ Str.ofString ", " ++ (dI (tab n f)).shown ++ Str.ofString ")").length = 4 + (Str.ofString (toString n)).length + 2 + (dI (tab n f)).shown.length + 1 := by rw [strLen_append, e4]; rfl
    have big : 50000 ≤ sizeLine := by decide
    refine ⟨_, rfl, by rw [e1]; omega, ?_⟩
    refine ⟨_, rfl, a, _, dx, _, _, rfl, h1, T.o_Map.cl, T.na_own_size_Map, flds_size _ _, .inr ⟨n, rfl, small_log hn, _, rfl, by rw [e2]; omega, ?_⟩⟩
    refine ⟨_, rfl, by rw [e3]; omega, ?_⟩
    refine ⟨_, rfl, a, _, dx, _, _, rfl, h1, T.o_Map.cl, T.na_own_arrows_Map, flds_arrows _ _, D, kvI (tab n f), _, rfl, h2, dI_sc _, dI_able hs, dI_depth _, Nat.le_trans l2 (by omega), _, rfl, by rw [show (flatD (kvI (tab n f)) ((tab n f).map fun p => PyData.int p.2)) = dI (tab n f) from rfl, e4]; omega, ?_⟩
    refine ⟨_, rfl, by rw [show (flatD (kvI (tab n f)) ((tab n f).map fun p => PyData.int p.2)) = dI (tab n f) from rfl, e5]; omega, ?_⟩
    exact q (by unfold reprM; rw [e5]; omega)
/-! ### what repr says of a value -/
def Rp (K : PySem.W.Frag) (C : Addr) (H : Hp) (x : V) (z : Str) : Prop := (∃ d, Dp K H x d ∧ d.showable = true ∧ d.hasDict = false ∧ d.depth ≤ 60 ∧ d.shown.length ≤ sizeLine ∧ z = d.shown) ∨ ∃ b n f, x = .ref b ∧ IsMap C H b n f ∧ z = reprM n (tab n f)
theorem rp_call {C : Addr} {H : Hp} {x : V} {z : Str} {Q : VK} {E : XK} (h : Rp K C H x z) (q : Q (.str z) H) : rRepr K [x] H Q ∨ rReprO C (spRepr C) E [x] H Q := by
  rcases h with ⟨d, h1, h2, h3, h4, h5, rfl⟩ | ⟨b, n, f, rfl, hm, rfl⟩
  · exact .inl ⟨x, d, rfl, h1, h2, h3, h4, h5, q⟩
  · obtain ⟨dx, fs, e⟩ := at_map hm
    exact .inr ⟨b, dx, fs, rfl, e, b, n, f, rfl, hm, fun _ => ⟨_, rfl, q⟩⟩
end
end My
namespace My
open PySem L2 U StX PM
/-! ### texts of plain signs -/
def OkS (x : Str) : Prop := PyData.strOk x = true
theorem okS_of (s : String) : OkS (Str.ofString s) := by
  unfold OkS PyData.strOk
  rw [Str.ofString_eq_toList, Array.all_eq_true]
  intro i hi
  simp only [List.getElem_toArray, List.getElem_map, decide_eq_true_eq]
  have := (s.toList[i]'(by simpa using hi)).valid
  rcases this with h | h
  · exact Nat.lt_trans h (by decide)
  · exact h.2
end My
namespace My
open PySem L2 U StX PM
section
variable {P : Program} {w : World} {K : PySem.W.Frag} {mg : Str → Option Value} {base : Heap}
/-! ### repr, the empty dict too -/
def Rp6 (K : PySem.W.Frag) (C : Addr) (H : Hp) (x : V) (z : Str) : Prop := Rp K C H x z ∨ ∃ a, x = .ref a ∧ H a = some (.dK []) ∧ z = Str.ofString "{}"
theorem rp6_call {C : Addr} {H : Hp} {x : V} {z : Str} {Q : VK} {E : XK} (h : Rp6 K C H x z) (q : Q (.str z) H) : (rRepr K [x] H Q ∨ rReprO C (spRepr C) E [x] H Q) ∨ rReprF [x] H Q := by
  rcases h with h | ⟨a, rfl, e, rfl⟩
  · exact .inl (rp_call h q)
  · exact .inr ⟨a, [], [], rfl, e, .nil, by decide +kernel, by decide +kernel, by decide +kernel, q⟩
end
end My
namespace U
open PySem PySem.Spec PyProof.Rows L2
/-! ### dict(zip(a, b, strict=True)), dict(zip(a, b)): lists or tuples -/
/-- one draw, strict or not -/
def drw (st : Bool) (it : Value) : Sem (Option Value) := do
  if st then Builtin.SmallTypes.nextOrEnd it else return some (← Builtin.SmallTypes.nextOf it)
def SIt (tup : Bool) (g : Heap) (it l : Addr) (k : Nat) : Prop := match tup with | true => g.IsTupleIter it l k | false => g.IsListIter it l k
def SSq (tup : Bool) (g : Heap) (l : Addr) (xs : Array Value) : Prop := match tup with | true => g.IsTuple l xs | false => g.IsList l xs
theorem SIt.mv {tup : Bool} {g g' : Heap} {it l : Addr} {k : Nat} (x : SIt tup g it l k) (e : ∀ o, g.get? it = some o → g'.get? it = some o) : SIt tup g' it l k := by
  cases tup
  · exact Heap.IsListIter.at x e
  · exact Heap.IsTupleIter.at x e
theorem SSq.mv {tup : Bool} {g g' : Heap} {l : Addr} {xs : Array Value} (x : SSq tup g l xs) (e : ∀ o, g.get? l = some o → g'.get? l = some o) : SSq tup g' l xs := by
  cases tup
  · exact Heap.IsList.at x e
  · exact Heap.IsTuple.at x e
theorem SIt.ob {tup : Bool} {g : Heap} {it l : Addr} {k : Nat} (x : SIt tup g it l k) : ∃ o, g.get? it = some o := by
  cases tup
  · obtain ⟨o, e, _⟩ := x
    exact ⟨o, e⟩
  · obtain ⟨o, e, _⟩ := x
    exact ⟨o, e⟩
theorem SSq.ob {tup : Bool} {g : Heap} {l : Addr} {xs : Array Value} (x : SSq tup g l xs) : ∃ o, g.get? l = some o := by
  cases tup
  · obtain ⟨o, e, _⟩ := x
    exact ⟨o, e⟩
  · obtain ⟨o, e, _⟩ := x
    exact ⟨o, e⟩
/-- the zip object: held, that its tuple is out -/
def IsZ (st : Bool) (g : Heap) (z TI TO : Addr) (v : Value) (hd : Bool) : Prop :=
  g.get? z = some { cls := .type "zip", dict := none, data := .fields #[v, .bool hd, .bool st, .ref TI, .ref TO], slots := #[] }
section
variable {prog : Program} {w : World} {A : Around} {E : Value → Shared → Prop} {s : Shared} {st tup : Bool} {it l : Addr} {i : Nat} {items : Array Value}
theorem stop_it {Q : PySem.Fin → Shared → Prop} (hn : A.handled = none) (q : ∀ g e, (∀ c o, s.heap.get? c = some o → g.get? c = some o) → (∃ o, g.get? e = some o ∧ o.cls = .type "StopIteration") → E (.ref e) { s with heap := g }) :
    wpAny (model prog w) A (Builtin.SmallTypes.stopIteration) Q E s := by
  show wpAny _ _ (newExc (.type "StopIteration") [] >>= _) _ _ s
  refine wpAny_bind ?_
  simp only [newExc, newTuple]; refine wpAny_bind (wpAny_newObj_type ?_ (by size_fits))
  refine wpAny_bind (m := firstArgMember _ _) (wpAny_of_eq (a := Value.none) (by first | (simp only [firstArgMember]; rfl) | rfl) ?_)
  refine wpAny_newObj_type ?_ (by size_fits); simp only [raiseNew]
  refine wpAny_bind (wpAny_handled ?_); rw [hn]
  refine wpAny_bind (wpAny_pure (wpAny_throw (q _ _ (fun c o e => Heap.get?_push_of_some _ (Heap.get?_push_of_some _ e)) ⟨_, Heap.get?_push_size _ rfl, rfl⟩)))
theorem sit_item {x : Value} {Q : Value → Shared → Prop} (a : SIt tup s.heap it l i) (b : SSq tup s.heap l items) (c : items[i]? = some x)
    (q : ∀ g, SIt tup g it l (i + 1) → Heap.SameBut it s.heap g → Q x { s with heap := g }) : wpAny (model prog w) A (Builtin.SmallTypes.nextOf (.ref it)) Q E s := by
  cases tup
  · exact wpAny_nextOf_list_item a b c q
  · exact RZ.nextOf_tuple_item a b c q
theorem sit_end {Q : Value → Shared → Prop} (hn : A.handled = none) (a : SIt tup s.heap it l i) (b : SSq tup s.heap l items) (c : items[i]? = none)
    (q : ∀ g e, Heap.ExtBut it s.heap g → (∃ o, g.get? e = some o ∧ o.cls = .type "StopIteration") → E (.ref e) { s with heap := g }) : wpAny (model prog w) A (Builtin.SmallTypes.nextOf (.ref it)) Q E s := by
  cases tup
  · exact wpAny_nextOf_list_end hn a b c q
  · exact RZ.nextOf_tuple_end hn a b c q
theorem drw_item {x : Value} {Q : Option Value → Shared → Prop} (a : SIt tup s.heap it l i) (b : SSq tup s.heap l items) (c : items[i]? = some x)
    (q : ∀ g, SIt tup g it l (i + 1) → Heap.SameBut it s.heap g → Q (some x) { s with heap := g }) : wpAny (model prog w) A (drw st (.ref it)) Q E s := by
  cases st
  · exact wpAny_bind (sit_item a b c fun g g1 g2 => wpAny_pure (q g g1 g2))
  · exact wpAny_bind (wpAny_attempt (sit_item a b c fun g g1 g2 => wpAny_pure (q g g1 g2)))
theorem drw_end {Q : Option Value → Shared → Prop} (hn : A.handled = none) (a : SIt tup s.heap it l i) (b : SSq tup s.heap l items) (c : items[i]? = none)
    (q : ∀ g, Heap.ExtBut it s.heap g → Q none { s with heap := g }) : wpAny (model prog w) A (Builtin.SmallTypes.nextOrEnd (.ref it)) Q E s := by
  refine wpAny_bind (wpAny_attempt (sit_end hn a b c fun g e g1 ⟨o, ho, hc⟩ => ?_))
  show wpAny _ _ (isInstance (.ref e) (.type "StopIteration") >>= _) _ _ _
  refine wpAny_bind (wpAny_isInstance (T := "StopIteration") (b := true) ⟨o, ho, hc⟩ isSubtype_stop ?_)
  exact wpAny_pure (q g g1)
variable {Z J O a1 a2 b1 b2 : Addr} {k1 k2 : Nat} {xs ys : Array Value} {x y u v : Value}
/-- what is reached by one more item -/
def ZGot (st tup : Bool) (h : Heap) (Z J O a1 a2 b1 b2 : Addr) (k1 k2 : Nat) (x y T : Value) (f : Bool) (g : Heap) : Prop :=
  IsZ st g Z J O T f ∧ SIt tup g a1 b1 (k1 + 1) ∧ SIt tup g a2 b2 (k2 + 1) ∧ IsPair g h.objs.size x y ∧ g.objs.size = h.objs.size + 1
theorem zz_item {Q : Value → Shared → Prop} (D : ZipApart Z J O a1 a2 b1 b2) (ez : IsZ st s.heap Z J O .none false) (eJ : IsPair s.heap J (.ref a1) (.ref a2)) (eO : IsPair s.heap O u v)
    (p1 : SIt tup s.heap a1 b1 k1) (p2 : SIt tup s.heap a2 b2 k2) (q1 : SSq tup s.heap b1 xs) (q2 : SSq tup s.heap b2 ys) (ex : xs[k1]? = some x) (ey : ys[k2]? = some y)
    (q : ∀ g, ZGot st tup s.heap Z J O a1 a2 b1 b2 k1 k2 x y (rawInt s.heap.objs.size) false g → (∀ c o, c ≠ Z → c ≠ O → c ≠ a1 → c ≠ a2 → s.heap.get? c = some o → g.get? c = some o) → Q (.ref s.heap.objs.size) { s with heap := g }) :
    wpAny (model prog w) A (Builtin.«zip.__next__» ⟨[.ref Z], []⟩) (fun fin s' => ∃ v, fin = .done (.ret v) ∧ Q v s') E s := by
  show wpAny _ _ (field (.ref Z) 2 >>= _) _ _ _
  refine wpAny_bind (wpAny_field ez rfl (x := .bool st) rfl ?_)
  show wpAny _ _ (field (.ref Z) 3 >>= _) _ _ _
  refine wpAny_bind (wpAny_field ez rfl (x := .ref J) rfl ?_)
  refine wpAny_bind (wpAny_seqItems eJ rfl ?_)
  show wpAny _ _ (Builtin.SmallTypes.ownedTupleIsFree (.ref Z) >>= _) _ _ _
  refine wpAny_bind ?_
  unfold Builtin.SmallTypes.ownedTupleIsFree
  refine wpAny_bind (wpAny_field ez rfl (x := .none) rfl (wpAny_pure ?_))
  simp only [if_true]
  refine wpAny_bind (wpAny_rule ?_)
  refine wpAny_bind (wpAny_field ez rfl (x := .ref O) rfl ?_)
  refine wpAny_bind (wpAny_setField_rec ez (by simp) fun g1 ez1 c1 => ?_)
  replace ez1 : IsZ st g1 Z J O .ellipsis false := ez1
  refine wpAny_bind ?_
  simp only [List.zipIdx_cons, List.zipIdx_nil, List.forIn_cons, List.forIn_nil]
  have hs : (Value.bool st == Value.bool true) = st := by cases st <;> rfl
  rw [hs]
  refine wpAny_bind (wpAny_bind (wpAny_onRaise ?_))
  show wpAny _ _ (drw st (.ref a1)) _ _ _
  refine drw_item (p1.mv fun o e => c1.extBut _ _ D.i1z e) (q1.mv fun o e => c1.extBut _ _ D.l1z e) ex fun g2 p1' c2 => ?_
  have eO2 : IsPair g2 O u v := c2.extBut _ _ D.TOi1 (c1.extBut _ _ D.TOz eO)
  refine wpAny_bind (wpAny_seqItems eO2 rfl ?_)
  refine wpAny_bind (wpAny_updateSeq_pair eO2 fun g3 eO3 c3 => ?_)
  replace eO3 : IsPair g3 O x v := eO3
  refine wpAny_bind (wpAny_letGo (wpAny_pure ?_))
  refine wpAny_bind (wpAny_bind (wpAny_onRaise ?_))
  show wpAny _ _ (drw st (.ref a2)) _ _ _
  refine drw_item (p2.mv fun o e => c3.extBut _ _ D.TOi2.symm (c2.extBut _ _ D.i12.symm (c1.extBut _ _ D.i2z e))) (q2.mv fun o e => c3.extBut _ _ D.l2TO (c2.extBut _ _ D.l2i1 (c1.extBut _ _ D.l2z e))) ey fun g4 p2' c4 => ?_
  have eO4 : IsPair g4 O x v := c4.extBut _ _ D.TOi2 eO3
  refine wpAny_bind (wpAny_seqItems eO4 rfl ?_)
  refine wpAny_bind (wpAny_updateSeq_pair eO4 fun g5 eO5 c5 => ?_)
  replace eO5 : IsPair g5 O x y := eO5
  refine wpAny_bind (wpAny_letGo (wpAny_pure (wpAny_pure ?_)))
  refine wpAny_bind (wpAny_seqItems eO5 rfl ?_)
  refine wpAny_bind (wpAny_newTuple ?_)
  have hsz : g5.objs.size = s.heap.objs.size := by rw [c5.1, c4.1, c3.1, c2.1, c1.1]
  have kp : ∀ c o, c ≠ Z → c ≠ O → c ≠ a1 → c ≠ a2 → s.heap.get? c = some o → g5.get? c = some o := fun c o n1 n2 n3 n4 e =>
    c5.extBut _ _ n2 (c4.extBut _ _ n4 (c3.extBut _ _ n2 (c2.extBut _ _ n3 (c1.extBut _ _ n1 e))))
  have ez5 : IsZ st g5 Z J O .ellipsis false := c5.extBut _ _ D.TOz.symm (c4.extBut _ _ D.i2z.symm (c3.extBut _ _ D.TOz.symm (c2.extBut _ _ D.i1z.symm ez1)))
  have r1 : SIt tup g5 a1 b1 (k1 + 1) := p1'.mv fun o e => c5.extBut _ _ D.TOi1.symm (c4.extBut _ _ D.i12 (c3.extBut _ _ D.TOi1.symm e))
  have r2 : SIt tup g5 a2 b2 (k2 + 1) := p2'.mv fun o e => c5.extBut _ _ D.TOi2.symm e
  have zl : Z < g5.objs.size := Heap.lt_size ez5
  show wpAny _ _ (Builtin.SmallTypes.ownedTupleHandOut (.ref Z) (.ref g5.objs.size) >>= _) _ _ _
  refine wpAny_bind ?_
  unfold Builtin.SmallTypes.ownedTupleHandOut
  have ez6 : IsZ st (g5.push { cls := .type "tuple", data := .seq #[x, y] }) Z J O .ellipsis false := Heap.get?_push_of_some _ ez5
  refine wpAny_bind (wpAny_setField_rec ez6 (by simp) fun g7 ez7 c7 => ?_)
  replace ez7 : IsZ st g7 Z J O (rawInt g5.objs.size) false := ez7
  refine wpAny_setField_rec ez7 (by simp) fun g8 ez8 c8 => ?_
  replace ez8 : IsZ st g8 Z J O (rawInt g5.objs.size) false := ez8
  have up : ∀ c o, c ≠ Z → g5.get? c = some o → g8.get? c = some o := fun c o n1 e => c8.extBut _ _ n1 (c7.extBut _ _ n1 (Heap.get?_push_of_some _ e))
  have t8 : IsPair g8 g5.objs.size x y := c8.extBut _ _ (Nat.ne_of_gt zl) (c7.extBut _ _ (Nat.ne_of_gt zl) (Heap.get?_push_size _ rfl))
  have s8 : g8.objs.size = g5.objs.size + 1 := by rw [c8.1, c7.1, Heap.size_push]
  rw [hsz] at ez8 t8 s8
  refine wpAny_pure ⟨_, rfl, ?_⟩
  show Q (.ref g5.objs.size) _
  rw [hsz]
  exact q g8 ⟨ez8, r1.mv fun o e => up _ o D.i1z e, r2.mv fun o e => up _ o D.i2z e, t8, s8⟩ fun c o n1 n2 n3 n4 e => up c o n1 (kp c o n1 n2 n3 n4 e)
theorem tup_held {T : Addr} {f : Bool} {oT : Obj} {Q : Bool → Shared → Prop} (ez : IsZ st s.heap Z J O (rawInt T) f) (eT : s.heap.get? T = some oT)
    (q : ∀ g, IsZ st g Z J O (rawInt T) true → Heap.SameBut Z s.heap g → Q false { s with heap := g }) : wpAny (model prog w) A (Builtin.SmallTypes.ownedTupleIsFree (.ref Z)) Q E s := by
  unfold Builtin.SmallTypes.ownedTupleIsFree
  refine wpAny_bind (wpAny_field ez rfl (x := rawInt T) rfl ?_)
  show wpAny _ _ (loadIfAlive ((T : Int).toNat) >>= _) _ _ s
  rw [Int.toNat_natCast]
  refine wpAny_bind (PySem.W.kdx_alive eT ?_)
  simp only [Option.isNone_some, Bool.false_eq_true, if_false]
  refine wpAny_bind (wpAny_field ez rfl (x := .bool f) rfl ?_)
  cases f
  · rw [if_pos (show (Value.bool false != Value.bool true) = true from rfl)]
    exact wpAny_bind (wpAny_setField_rec ez (by simp) fun g eg cg => wpAny_pure (q g eg cg))
  · rw [if_neg (show ¬ ((Value.bool true != Value.bool true) = true) from Bool.false_ne_true)]
    exact wpAny_pure (q s.heap ez (Heap.SameBut.refl _ _))
theorem zz_item_held {T : Addr} {f : Bool} {oT : Obj} {Q : Value → Shared → Prop} (D : ZipApart Z J O a1 a2 b1 b2) (ez : IsZ st s.heap Z J O (rawInt T) f) (eT : s.heap.get? T = some oT) (eJ : IsPair s.heap J (.ref a1) (.ref a2))
    (p1 : SIt tup s.heap a1 b1 k1) (p2 : SIt tup s.heap a2 b2 k2) (q1 : SSq tup s.heap b1 xs) (q2 : SSq tup s.heap b2 ys) (ex : xs[k1]? = some x) (ey : ys[k2]? = some y)
    (q : ∀ g, ZGot st tup s.heap Z J O a1 a2 b1 b2 k1 k2 x y (rawInt T) true g → (∀ c o, c ≠ Z → c ≠ a1 → c ≠ a2 → s.heap.get? c = some o → g.get? c = some o) → Q (.ref s.heap.objs.size) { s with heap := g }) :
    wpAny (model prog w) A (Builtin.«zip.__next__» ⟨[.ref Z], []⟩) (fun fin s' => ∃ v, fin = .done (.ret v) ∧ Q v s') E s := by
  show wpAny _ _ (field (.ref Z) 2 >>= _) _ _ _
  refine wpAny_bind (wpAny_field ez rfl (x := .bool st) rfl ?_)
  show wpAny _ _ (field (.ref Z) 3 >>= _) _ _ _
  refine wpAny_bind (wpAny_field ez rfl (x := .ref J) rfl ?_)
  refine wpAny_bind (wpAny_seqItems eJ rfl ?_)
  show wpAny _ _ (Builtin.SmallTypes.ownedTupleIsFree (.ref Z) >>= _) _ _ _
  refine wpAny_bind (tup_held ez eT fun g1 ez1 c1 => ?_)
  simp only [Bool.false_eq_true, if_false]
  refine wpAny_bind ?_
  rw [← Array.forIn_toList]
  simp only [List.forIn_cons, List.forIn_nil]
  have hs : (Value.bool st == Value.bool true) = st := by cases st <;> rfl
  rw [hs]
  refine wpAny_bind (wpAny_bind (wpAny_holding ?_))
  show wpAny _ _ (drw st (.ref a1)) _ _ _
  refine drw_item (s := { s with heap := g1 }) (p1.mv fun o e => c1.extBut _ _ D.i1z e) (q1.mv fun o e => c1.extBut _ _ D.l1z e) ex fun g2 p1' c2 => ?_
  refine wpAny_pure ?_
  refine wpAny_bind (wpAny_bind (wpAny_holding ?_))
  show wpAny _ _ (drw st (.ref a2)) _ _ _
  refine drw_item (s := { s with heap := g2 }) (p2.mv fun o e => c2.extBut _ _ D.i12.symm (c1.extBut _ _ D.i2z e)) (q2.mv fun o e => c2.extBut _ _ D.l2i1 (c1.extBut _ _ D.l2z e)) ey fun g3 p2' c3 => ?_
  refine wpAny_pure (wpAny_pure ?_)
  show wpAny _ _ (newTuple [x, y] >>= _) _ _ { s with heap := g3 }
  refine wpAny_bind (wpAny_newTuple ?_)
  have hsz : g3.objs.size = s.heap.objs.size := by rw [c3.1, c2.1, c1.1]
  have ez3 : IsZ st g3 Z J O (rawInt T) true := c3.extBut _ _ D.i2z.symm (c2.extBut _ _ D.i1z.symm ez1)
  have kp : ∀ c o, c ≠ Z → c ≠ a1 → c ≠ a2 → s.heap.get? c = some o → g3.get? c = some o := fun c o n1 n2 n3 e => c3.extBut _ _ n3 (c2.extBut _ _ n2 (c1.extBut _ _ n1 e))
  have r1 : SIt tup g3 a1 b1 (k1 + 1) := p1'.mv fun o e => c3.extBut _ _ D.i12 e
  refine wpAny_pure ⟨_, rfl, ?_⟩
  show Q (.ref g3.objs.size) _
  have hp : IsPair (g3.push { cls := .type "tuple", data := .seq #[x, y] }) g3.objs.size x y := Heap.get?_push_size _ rfl
  have hz4 : (g3.push { cls := .type "tuple", data := .seq #[x, y] }).objs.size = g3.objs.size + 1 := Heap.size_push ..
  rw [hsz] at hp hz4 ⊢
  exact q _ ⟨Heap.get?_push_of_some _ ez3, r1.mv fun o e => Heap.get?_push_of_some _ e, p2'.mv fun o e => Heap.get?_push_of_some _ e, hp, hz4⟩ fun c o n1 n2 n3 e => Heap.get?_push_of_some _ (kp c o n1 n2 n3 e)
/-- where a zip ends: at once for both where it is strict -/
def ZEnd (st : Bool) (xs ys : Array Value) (k1 k2 : Nat) : Prop := (st = true ∧ xs[k1]? = none ∧ ys[k2]? = none) ∨ (st = false ∧ (xs[k1]? = none ∨ ys[k2]? = none))
theorem zz_end {Q : Fin → Shared → Prop} (hn : A.handled = none) (D : ZipApart Z J O a1 a2 b1 b2) (ez : IsZ st s.heap Z J O .none false) (eJ : IsPair s.heap J (.ref a1) (.ref a2)) (eO : IsPair s.heap O u v)
    (p1 : SIt tup s.heap a1 b1 k1) (p2 : SIt tup s.heap a2 b2 k2) (q1 : SSq tup s.heap b1 xs) (q2 : SSq tup s.heap b2 ys) (he : ZEnd st xs ys k1 k2)
    (q : ∀ g e, (∀ c o, c ≠ Z → c ≠ O → c ≠ a1 → c ≠ a2 → s.heap.get? c = some o → g.get? c = some o) → (∃ o, g.get? e = some o ∧ o.cls = .type "StopIteration") → E (.ref e) { s with heap := g }) :
    wpAny (model prog w) A (Builtin.«zip.__next__» ⟨[.ref Z], []⟩) Q E s := by
  show wpAny _ _ (field (.ref Z) 2 >>= _) _ _ _
  refine wpAny_bind (wpAny_field ez rfl (x := .bool st) rfl ?_)
  show wpAny _ _ (field (.ref Z) 3 >>= _) _ _ _
  refine wpAny_bind (wpAny_field ez rfl (x := .ref J) rfl ?_)
  refine wpAny_bind (wpAny_seqItems eJ rfl ?_)
  show wpAny _ _ (Builtin.SmallTypes.ownedTupleIsFree (.ref Z) >>= _) _ _ _
  refine wpAny_bind ?_
  unfold Builtin.SmallTypes.ownedTupleIsFree
  refine wpAny_bind (wpAny_field ez rfl (x := .none) rfl (wpAny_pure ?_))
  simp only [if_true]
  refine wpAny_bind (wpAny_rule ?_)
  refine wpAny_bind (wpAny_field ez rfl (x := .ref O) rfl ?_)
  refine wpAny_bind (wpAny_setField_rec ez (by simp) fun g1 ez1 c1 => ?_)
  replace ez1 : IsZ st g1 Z J O .ellipsis false := ez1
  refine wpAny_bind ?_
  simp only [List.zipIdx_cons, List.zipIdx_nil, List.forIn_cons, List.forIn_nil]
  have hs : (Value.bool st == Value.bool true) = st := by cases st <;> rfl
  rw [hs]
  refine wpAny_bind (wpAny_bind (wpAny_onRaise ?_))
  rcases he with ⟨rfl, ex, ey⟩ | ⟨rfl, he⟩
  · show wpAny _ _ (Builtin.SmallTypes.nextOrEnd (.ref a1)) _ _ _
    refine drw_end hn (p1.mv fun o e => c1.extBut _ _ D.i1z e) (q1.mv fun o e => c1.extBut _ _ D.l1z e) ex fun g2 c2 => ?_
    have ez2 : IsZ true g2 Z J O .ellipsis false := c2 _ _ D.i1z.symm ez1
    show wpAny _ _ (setField (.ref Z) 0 .none >>= _) _ _ _
    refine wpAny_bind (wpAny_setField_rec ez2 (by simp) fun g3 ez3 c3 => ?_)
    refine wpAny_bind ?_
    show wpAny _ _ (forIn [(Value.ref a2, 1)] PUnit.unit _ >>= _) _ _ _
    simp only [List.forIn_cons, List.forIn_nil]
    refine wpAny_bind (wpAny_bind (wpAny_bind ?_))
    refine drw_end (tup := tup) hn (p2.mv fun o e => c3.extBut _ _ D.i2z (c2 _ _ D.i12.symm (c1.extBut _ _ D.i2z e))) (q2.mv fun o e => c3.extBut _ _ D.l2z (c2 _ _ D.l2i1 (c1.extBut _ _ D.l2z e))) ey fun g4 c4 => ?_
    show wpAny _ _ (pure (ForInStep.yield PUnit.unit)) _ _ _
    refine wpAny_pure (wpAny_pure (wpAny_bind (wpAny_rule (stop_it hn fun g5 e c5 ⟨oe, e1, e2⟩ => ?_))))
    exact q g5 e (fun c o n1 _ n3 n4 r => c5 _ _ (c4 _ _ n4 (c3.extBut _ _ n1 (c2 _ _ n3 (c1.extBut _ _ n1 r))))) ⟨oe, e1, e2⟩
  · show wpAny _ _ (Builtin.SmallTypes.nextOf (.ref a1) >>= _) _ _ _
    cases hx : xs[k1]? with
    | none =>
      refine wpAny_bind (sit_end hn (p1.mv fun o e => c1.extBut _ _ D.i1z e) (q1.mv fun o e => c1.extBut _ _ D.l1z e) hx fun g2 e c2 ⟨oe, e1, e2⟩ => ?_)
      have ez2 : IsZ false g2 Z J O .ellipsis false := c2 _ _ D.i1z.symm ez1
      have nez : e ≠ Z := fun z => by subst z; rw [ez2] at e1; cases e1; simp at e2
      refine wpAny_setField_rec ez2 (by simp) fun g3 _ c3 => q g3 e (fun c o n1 _ n3 _ r => c3.extBut _ _ n1 (c2 _ _ n3 (c1.extBut _ _ n1 r))) ⟨oe, c3.extBut _ _ nez e1, e2⟩
    | some x =>
      have hy : ys[k2]? = none := by rcases he with h | h; rw [hx] at h; cases h; exact h
      refine wpAny_bind (sit_item (p1.mv fun o e => c1.extBut _ _ D.i1z e) (q1.mv fun o e => c1.extBut _ _ D.l1z e) hx fun g2 p1' c2 => wpAny_pure ?_)
      have eO2 : IsPair g2 O u v := c2.extBut _ _ D.TOi1 (c1.extBut _ _ D.TOz eO)
      refine wpAny_bind (wpAny_seqItems eO2 rfl ?_)
      refine wpAny_bind (wpAny_updateSeq_pair eO2 fun g3 eO3 c3 => ?_)
      refine wpAny_bind (wpAny_letGo (wpAny_pure ?_))
      refine wpAny_bind (wpAny_bind (wpAny_onRaise ?_))
      show wpAny _ _ (Builtin.SmallTypes.nextOf (.ref a2) >>= _) _ _ _
      refine wpAny_bind (sit_end hn (p2.mv fun o e => c3.extBut _ _ D.TOi2.symm (c2.extBut _ _ D.i12.symm (c1.extBut _ _ D.i2z e))) (q2.mv fun o e => c3.extBut _ _ D.l2TO (c2.extBut _ _ D.l2i1 (c1.extBut _ _ D.l2z e))) hy fun g4 e c4 ⟨oe, e1, e2⟩ => ?_)
      have ez4 : IsZ false g4 Z J O .ellipsis false := c4 _ _ D.i2z.symm (c3.extBut _ _ D.TOz.symm (c2.extBut _ _ D.i1z.symm ez1))
      have nez : e ≠ Z := fun z => by subst z; rw [ez4] at e1; cases e1; simp at e2
      refine wpAny_setField_rec ez4 (by simp) fun g5 _ c5 => q g5 e (fun c o n1 n2 n3 n4 r => c5.extBut _ _ n1 (c4 _ _ n4 (c3.extBut _ _ n2 (c2.extBut _ _ n3 (c1.extBut _ _ n1 r))))) ⟨oe, c5.extBut _ _ nez e1, e2⟩
theorem zz_end_held {Q : PySem.Fin → Shared → Prop} {T : Addr} {f : Bool} {oT : Obj} (hn : A.handled = none) (D : ZipApart Z J O a1 a2 b1 b2) (ez : IsZ st s.heap Z J O (rawInt T) f) (eT : s.heap.get? T = some oT) (eJ : IsPair s.heap J (.ref a1) (.ref a2))
    (p1 : SIt tup s.heap a1 b1 k1) (p2 : SIt tup s.heap a2 b2 k2) (q1 : SSq tup s.heap b1 xs) (q2 : SSq tup s.heap b2 ys) (he : ZEnd st xs ys k1 k2)
    (q : ∀ g e, (∀ c o, c ≠ Z → c ≠ a1 → c ≠ a2 → s.heap.get? c = some o → g.get? c = some o) → (∃ o, g.get? e = some o ∧ o.cls = .type "StopIteration") → E (.ref e) { s with heap := g }) :
    wpAny (model prog w) A (Builtin.«zip.__next__» ⟨[.ref Z], []⟩) Q E s := by
  show wpAny _ _ (field (.ref Z) 2 >>= _) _ _ _
  refine wpAny_bind (wpAny_field ez rfl (x := .bool st) rfl ?_)
  show wpAny _ _ (field (.ref Z) 3 >>= _) _ _ _
  refine wpAny_bind (wpAny_field ez rfl (x := .ref J) rfl ?_)
  refine wpAny_bind (wpAny_seqItems eJ rfl ?_)
  show wpAny _ _ (Builtin.SmallTypes.ownedTupleIsFree (.ref Z) >>= _) _ _ _
  refine wpAny_bind (tup_held ez eT fun g1 ez1 c1 => ?_)
  simp only [Bool.false_eq_true, if_false]
  refine wpAny_bind ?_
  rw [← Array.forIn_toList]
  simp only [List.forIn_cons, List.forIn_nil]
  have hs : (Value.bool st == Value.bool true) = st := by cases st <;> rfl
  rw [hs]
  refine wpAny_bind (wpAny_bind (wpAny_holding ?_))
  rcases he with ⟨rfl, ex, ey⟩ | ⟨rfl, he⟩
  · show wpAny _ _ (Builtin.SmallTypes.nextOrEnd (.ref a1)) _ _ _
    refine drw_end (s := { s with heap := g1 }) hn (p1.mv fun o e => c1.extBut _ _ D.i1z e) (q1.mv fun o e => c1.extBut _ _ D.l1z e) ex fun g2 c2 => ?_
    refine wpAny_bind ?_
    show wpAny _ _ (forIn [(Value.ref a2, 1)] PUnit.unit _ >>= _) _ _ _
    simp only [List.forIn_cons, List.forIn_nil]
    refine wpAny_bind (wpAny_bind (wpAny_bind ?_))
    refine drw_end (tup := tup) (s := { s with heap := g2 }) hn (p2.mv fun o e => c2 _ _ D.i12.symm (c1.extBut _ _ D.i2z e)) (q2.mv fun o e => c2 _ _ D.l2i1 (c1.extBut _ _ D.l2z e)) ey fun g4 c4 => ?_
    show wpAny _ _ (pure (ForInStep.yield PUnit.unit)) _ _ _
    refine wpAny_pure (wpAny_pure (wpAny_bind (wpAny_rule (stop_it (s := { s with heap := g4 }) hn fun g5 e c5 ⟨oe, e1, e2⟩ => ?_))))
    exact q g5 e (fun c o n1 n3 n4 r => c5 _ _ (c4 _ _ n4 (c2 _ _ n3 (c1.extBut _ _ n1 r)))) ⟨oe, e1, e2⟩
  · show wpAny _ _ (Builtin.SmallTypes.nextOf (.ref a1) >>= _) _ _ _
    cases hx : xs[k1]? with
    | none =>
      refine wpAny_bind (sit_end (s := { s with heap := g1 }) hn (p1.mv fun o e => c1.extBut _ _ D.i1z e) (q1.mv fun o e => c1.extBut _ _ D.l1z e) hx fun g2 e c2 he' => ?_)
      exact q g2 e (fun c o n1 n3 _ r => c2 _ _ n3 (c1.extBut _ _ n1 r)) he'
    | some x =>
      have hy : ys[k2]? = none := by rcases he with h | h; rw [hx] at h; cases h; exact h
      refine wpAny_bind (sit_item (s := { s with heap := g1 }) (p1.mv fun o e => c1.extBut _ _ D.i1z e) (q1.mv fun o e => c1.extBut _ _ D.l1z e) hx fun g2 p1' c2 => wpAny_pure ?_)
      refine wpAny_pure ?_
      refine wpAny_bind (wpAny_bind (wpAny_holding ?_))
      show wpAny _ _ (Builtin.SmallTypes.nextOf (.ref a2) >>= _) _ _ _
      refine wpAny_bind (sit_end (s := { s with heap := g2 }) hn (p2.mv fun o e => c2.extBut _ _ D.i12.symm (c1.extBut _ _ D.i2z e)) (q2.mv fun o e => c2.extBut _ _ D.l2i1 (c1.extBut _ _ D.l2z e)) hy fun g3 e c3 he' => ?_)
      exact q g3 e (fun c o n1 n2 n3 r => c3 _ _ n3 (c2.extBut _ _ n2 (c1.extBut _ _ n1 r))) he'
/-! ### next -/
theorem nx_item {Q : Option Value → Shared → Prop} (ty : s.TypeIs (.ref Z) "zip") (h : ∀ F, wpAny (model prog w) A.in1 (Builtin.«zip.__next__» ⟨[.ref Z], []⟩) (fun fin s' => ∃ v, fin = .done (.ret v) ∧ Q (some v) s') F s) : wpAny (model prog w) A (pyNext (.ref Z)) Q E s := by
  unfold pyNext
  exact wpAny_bind (wpAny_attempt (wpAny_callSpecial?_slot (name := Str.ofString "__next__") ty F.slot_zip_next (wpAny_call_entry F.slot_zip_next ty F.entry_zip_next (wpAny_mono (h _) (fun fin s' ⟨v, e, q⟩ => ⟨v, e, wpAny_pure q⟩) fun _ _ z => z) (F.args_zip_next_1 _))))
theorem nx_end {Q : Option Value → Shared → Prop} (G : Heap → Prop) (ty : s.TypeIs (.ref Z) "zip") (h : ∀ (F : Value → Shared → Prop) (Q' : PySem.Fin → Shared → Prop), (∀ g e, G g → (∃ o, g.get? e = some o ∧ o.cls = .type "StopIteration") → F (.ref e) { s with heap := g }) → wpAny (model prog w) A.in1 (Builtin.«zip.__next__» ⟨[.ref Z], []⟩) Q' F s)
    (q : ∀ g, G g → Q none { s with heap := g }) : wpAny (model prog w) A (pyNext (.ref Z)) Q E s := by
  unfold pyNext
  refine wpAny_bind (wpAny_attempt (wpAny_callSpecial?_slot (name := Str.ofString "__next__") ty F.slot_zip_next (wpAny_call_entry F.slot_zip_next ty F.entry_zip_next (h _ _ fun g e hg ⟨o, h1, h2⟩ => ?_) (F.args_zip_next_1 _))))
  refine wpAny_bind (wpAny_isInstance (T := "StopIteration") (b := true) ⟨o, h1, h2⟩ isSubtype_stop (wpAny_pure (q g hg)))
end
/-! ### the zip as what a dict is made of -/
section
variable {prog : Program} {w : World}
/-- a zip as it was made -/
def ZNew (st tup : Bool) (Z J O a1 a2 b1 b2 : Addr) (xs ys : Array Value) (h : Heap) : Prop :=
  IsZ st h Z J O .none false ∧ IsPair h J (.ref a1) (.ref a2) ∧ (∃ u v, IsPair h O u v) ∧ SIt tup h a1 b1 0 ∧ SIt tup h a2 b2 0 ∧ SSq tup h b1 xs ∧ SSq tup h b2 ys
def ZAt (st tup : Bool) (Z J O a1 a2 b1 b2 d : Addr) (xs ys : Array Value) (i : Nat) (h : Heap) : Prop :=
  IsPair h J (.ref a1) (.ref a2) ∧ SIt tup h a1 b1 i ∧ SIt tup h a2 b2 i ∧ SSq tup h b1 xs ∧ SSq tup h b2 ys ∧
    ((IsZ st h Z J O .none false ∧ ∃ u v, IsPair h O u v) ∨ ∃ (T : Addr) (f : Bool) (oT : Obj), IsZ st h Z J O (rawInt T) f ∧ h.get? T = some oT ∧ T ≠ Z ∧ T ≠ a1 ∧ T ≠ a2 ∧ T ≠ d)
theorem zarg (st tup : Bool) (Z J O a1 a2 b1 b2 : Addr) (D : ZipApart Z J O a1 a2 b1 b2) (xs ys : Array Value) (hst : st = true → xs.size = ys.size) :
    PairArg prog w "zip" Z [Z, J, O, a1, a2, b1, b2] [Z, O, a1, a2] (min xs.size ys.size) (fun i k v => xs[i]? = some k ∧ ys[i]? = some v) (ZNew st tup Z J O a1 a2 b1 b2 xs ys) where
  type := fun s ok => ⟨_, ok.1, rfl⟩
  notDict := by decide
  keep := fun h h' ⟨e1, e2, ⟨u, v, e3⟩, e4, e5, e6, e7⟩ k => ⟨k _ _ e1, k _ _ e2, ⟨u, v, k _ _ e3⟩, e4.mv fun o e => k _ o e, e5.mv fun o e => k _ o e, e6.mv fun o e => k _ o e, e7.mv fun o e => k _ o e⟩
  there := fun h ⟨e1, e2, ⟨u, v, e3⟩, e4, e5, e6, e7⟩ b hb => by
    simp only [List.mem_cons, List.not_mem_nil, or_false] at hb
    rcases hb with rfl | rfl | rfl | rfl | rfl | rfl | rfl
    · exact ⟨_, e1⟩
    · exact ⟨_, e2⟩
    · exact ⟨_, e3⟩
    · exact e4.ob
    · exact e5.ob
    · exact e6.ob
    · exact e7.ob
  sub := fun b hb => by
    simp only [List.mem_cons, List.not_mem_nil, or_false] at hb ⊢
    rcases hb with rfl | rfl | rfl | rfl <;> simp
  noKeys := fun A s Q E hn ok q => getAttrOr_miss_zip ok.1 rfl rfl rfl zip_no_keys (by decide +kernel) hn q
  iter := fun A s d Q E hn ⟨e1, e2, ⟨u, v, e3⟩, e4, e5, e6, e7⟩ hd hdf q => by
    simp only [List.mem_cons, List.not_mem_nil, or_false, not_or] at hdf
    obtain ⟨dZ, dJ, dO, d1, d2, dl1, dl2⟩ := hdf
    have tyz : s.TypeIs (.ref Z) "zip" := ⟨_, e1, rfl⟩
    refine wpAny_pyIter_slot tyz F.slot_zip_iter (wpAny_call_entry F.slot_zip_iter tyz F.entry_zip_iter ?_ (F.args_zip_iter_1 _))
    show wpAny _ _ (ret (.ref Z)) _ _ s
    refine wpAny_pure ⟨_, rfl, "zip", _, tyz, F.slot_zip_next.lookup, ?_⟩
    refine q Z [Z, O, a1, a2] (ZAt st tup Z J O a1 a2 b1 b2 d xs ys) s.heap s.toks ?_ ⟨e2, e4, e5, e6, e7, .inl ⟨e1, u, v, e3⟩⟩ (fun _ _ e => e) fun b hb => .inl hb
    exact {
      off := fun hm => by
        simp only [List.mem_cons, List.not_mem_nil, or_false] at hm
        rcases hm with e | e | e | e
        · exact dZ e
        · exact dO e
        · exact d1 e
        · exact d2 e
      frame := fun i h h' ⟨f1, f2, f3, f4, f5, f6⟩ k => by
        refine ⟨k _ _ (Ne.symm dJ) f1, f2.mv fun o e => k _ o (Ne.symm d1) e, f3.mv fun o e => k _ o (Ne.symm d2) e, f4.mv fun o e => k _ o (Ne.symm dl1) e, f5.mv fun o e => k _ o (Ne.symm dl2) e, ?_⟩
        rcases f6 with ⟨g1, u, v, g2⟩ | ⟨T, f, oT, g1, g2, r1, r2, r3, r4⟩
        · exact .inl ⟨k _ _ (Ne.symm dZ) g1, u, v, k _ _ (Ne.symm dO) g2⟩
        · exact .inr ⟨T, f, oT, k _ _ (Ne.symm dZ) g1, k _ _ r4 g2, r1, r2, r3, r4⟩
      item := fun i s₁ Q₁ E₁ hi ⟨f1, f2, f3, f4, f5, f6⟩ hds hQ => by
        have ex := Array.getElem?_eq_getElem (Nat.lt_of_lt_of_le hi (Nat.min_le_left ..))
        have ey := Array.getElem?_eq_getElem (Nat.lt_of_lt_of_le hi (Nat.min_le_right ..))
        have n1 : s₁.heap.objs.size ≠ a1 := let ⟨_, e⟩ := f2.ob; Nat.ne_of_gt (Heap.lt_size e)
        have n2 : s₁.heap.objs.size ≠ a2 := let ⟨_, e⟩ := f3.ob; Nat.ne_of_gt (Heap.lt_size e)
        rcases f6 with ⟨g1, u, v, g2⟩ | ⟨T, f, oT, g1, g2, r1, r2, r3, r4⟩
        · refine nx_item ⟨_, g1, rfl⟩ fun F => zz_item D g1 f1 g2 f2 f3 f4 f5 ex ey fun g ⟨c1, c2, c3, c4, c5⟩ k => ?_
          exact hQ s₁.heap.objs.size _ _ g s₁.toks ⟨ex, ey⟩ (.inl ⟨_, c4, rfl, _, rfl⟩)
            ⟨k _ _ D.TIz D.TITO D.TIi1 D.TIi2 f1, c2, c3, f4.mv fun o e => k _ o D.l1z D.l1TO D.l1i1 D.l1i2 e, f5.mv fun o e => k _ o D.l2z D.l2TO D.l2i1 D.l2i2 e,
              .inr ⟨s₁.heap.objs.size, false, _, c1, c4, Nat.ne_of_gt (Heap.lt_size g1), n1, n2, Nat.ne_of_gt hds⟩⟩
            fun c o hc e => k c o (fun z => hc (by simp [z])) (fun z => hc (by simp [z])) (fun z => hc (by simp [z])) (fun z => hc (by simp [z])) e
        · refine nx_item ⟨_, g1, rfl⟩ fun F => zz_item_held D g1 g2 f1 f2 f3 f4 f5 ex ey fun g ⟨c1, c2, c3, c4, c5⟩ k => ?_
          exact hQ s₁.heap.objs.size _ _ g s₁.toks ⟨ex, ey⟩ (.inl ⟨_, c4, rfl, _, rfl⟩)
            ⟨k _ _ D.TIz D.TIi1 D.TIi2 f1, c2, c3, f4.mv fun o e => k _ o D.l1z D.l1i1 D.l1i2 e, f5.mv fun o e => k _ o D.l2z D.l2i1 D.l2i2 e, .inr ⟨T, true, oT, c1, k _ _ r1 r2 r3 g2, r1, r2, r3, r4⟩⟩
            fun c o hc e => k c o (fun z => hc (by simp [z])) (fun z => hc (by simp [z])) (fun z => hc (by simp [z])) e
      done := fun s₁ Q₁ E₁ ⟨f1, f2, f3, f4, f5, f6⟩ hQ => by
        have he : ZEnd st xs ys (min xs.size ys.size) (min xs.size ys.size) := by
          cases st
          · refine .inr ⟨rfl, ?_⟩
            rcases Nat.le_total xs.size ys.size with h | h
            · exact .inl (Array.getElem?_eq_none (by rw [Nat.min_eq_left h]; exact Nat.le_refl _))
            · exact .inr (Array.getElem?_eq_none (by rw [Nat.min_eq_right h]; exact Nat.le_refl _))
          · have e := hst rfl
            exact .inl ⟨rfl, Array.getElem?_eq_none (by omega), Array.getElem?_eq_none (by omega)⟩
        rcases f6 with ⟨g1, u, v, g2⟩ | ⟨T, f, oT, g1, g2, r1, r2, r3, r4⟩
        · exact nx_end (fun g => ∀ c o, c ≠ Z → c ≠ O → c ≠ a1 → c ≠ a2 → s₁.heap.get? c = some o → g.get? c = some o) ⟨_, g1, rfl⟩ (fun F Q' q => zz_end hn D g1 f1 g2 f2 f3 f4 f5 he q)
            fun g k => hQ g s₁.toks fun c o hc e => k c o (fun z => hc (by simp [z])) (fun z => hc (by simp [z])) (fun z => hc (by simp [z])) (fun z => hc (by simp [z])) e
        · exact nx_end (fun g => ∀ c o, c ≠ Z → c ≠ a1 → c ≠ a2 → s₁.heap.get? c = some o → g.get? c = some o) ⟨_, g1, rfl⟩ (fun F Q' q => zz_end_held hn D g1 g2 f1 f2 f3 f4 f5 he q)
            fun g k => hQ g s₁.toks fun c o hc e => k c o (fun z => hc (by simp [z])) (fun z => hc (by simp [z])) (fun z => hc (by simp [z])) e }
end
/-! ### zip(a, b, strict=True) -/
def zo (tup : Bool) (l : Addr) : Obj := match tup with | true => { cls := .type "tuple_iterator", data := .fields #[.ref l, .int 0 0] } | false => { cls := .type "list_iterator", data := .fields #[.ref l, .int 0 0] }
abbrev zh1 (tup : Bool) (h : Heap) (b1 : Addr) : Heap := h.push (zo tup b1)
abbrev zh2 (tup : Bool) (h : Heap) (b1 b2 : Addr) : Heap := (zh1 tup h b1).push (zo tup b2)
abbrev zh3 (tup : Bool) (h : Heap) (b1 b2 : Addr) : Heap := (zh2 tup h b1 b2).push { cls := .type "tuple", data := .seq #[.ref h.objs.size, .ref (zh1 tup h b1).objs.size] }
abbrev zh4 (tup : Bool) (h : Heap) (b1 b2 : Addr) : Heap := (zh3 tup h b1 b2).push { cls := .type "tuple", data := .seq #[.none, .none] }
abbrev zh5 (tup : Bool) (h : Heap) (b1 b2 : Addr) : Heap := (zh4 tup h b1 b2).push { cls := .type "zip", data := .fields #[.none, .bool false, .bool true, .ref (zh2 tup h b1 b2).objs.size, .ref (zh3 tup h b1 b2).objs.size] }
theorem meets_zipS (tup : Bool) (b1 b2 : Addr) (xs ys : Array Value) :
    Meets (Builtin.«zip.__new__» ⟨[.type "zip", .ref b1, .ref b2], [("strict", .bool true)]⟩) (fun _ R s => SSq tup s.heap b1 xs ∧ SSq tup s.heap b2 ys ∧
      R (.ok (.ret (.ref (zh4 tup s.heap b1 b2).objs.size))) { s with heap := zh5 tup s.heap b1 b2 }) :=
  .of_wp fun prog w A R s h => by
    obtain ⟨hp, g, d, tk, os⟩ := s
    obtain ⟨h1, h2, h⟩ := h
    have hsub := sub_zip
    cases tup
    · have k1 : Heap.IsList (Shared.heap ⟨hp, g, d, tk, os⟩) b1 xs := h1
      have k2 : Heap.IsList (Shared.heap ⟨hp.push { cls := .type "list_iterator", data := .fields #[.ref b1, .int 0 0] }, g, d, tk, os⟩) b2 ys := Heap.IsList.push h2 _
      wp_walk using wpAny_pyIter_list k1, wpAny_pyIter_list k2
      exact ⟨_, rfl, h⟩
    · have k1 : Heap.IsTuple (Shared.heap ⟨hp, g, d, tk, os⟩) b1 xs := h1
      have k2 : Heap.IsTuple (Shared.heap ⟨hp.push { cls := .type "tuple_iterator", data := .fields #[.ref b1, .int 0 0] }, g, d, tk, os⟩) b2 ys := Heap.IsTuple.push h2 _
      wp_walk using wpAny_pyIter_tuple k1, wpAny_pyIter_tuple k2
      exact ⟨_, rfl, h⟩
theorem typeCall_zipS (a b c : Value) : checkTypeCall "zip" ⟨[a, b], [("strict", c)]⟩ = pure () := by kernel_rfl
theorem newCall_zipS (a b c : Value) : checkBuiltinCall "zip.__new__" ⟨[.type "zip", a, b], [("strict", c)]⟩ = pure () := by kernel_rfl
theorem args_initS (a b c d : Value) : argsOk "object.__init__" ⟨[a, b, c], [("strict", d)]⟩ := by
  unfold argsOk; rw [signature?_of (id := "object.__init__") (n := ['_', '_', 't', 'i', 'n', 'i', '_', '_']) (o := ['t', 'c', 'e', 'j', 'b', 'o']) (by kernel_rfl) F.owner_object] <;> kernel_rfl
theorem initS_meets {T nid : String} {self a : Value} {rest : List Value} {kw : List (Str × Value)} (hl : typeLookup (.type T) "__init__" = pure (some (.builtin "object.__init__")))
    (hm : Bind.madeBy (.type T) = pure (some nid)) (hne : (some nid != some "object.__new__") = true) :
    Meets (Builtin.«object.__init__» ⟨self :: a :: rest, kw⟩) (fun _ R s => s.TypeIs self T ∧ R (.ok (.ret .none)) s) := by
  refine Meets.of_wp fun prog w A R s ⟨tys, hq⟩ => ?_
  repeat (any_goals (first | assumption | wp_step))
  exact ⟨_, rfl, hq⟩
section
variable {prog : Program} {w : World} {A : Around} {E : Value → Shared → Prop} {s : Shared}
theorem callTypeK {T nid iid : String} {Bn Bi : Builtin} {xs : List Value} {kw : List (Str × Value)} {S : PySem.Spec} {Q Q₁ : Value → Shared → Prop} (ft : TypeCalled T nid iid)
    (hct : checkTypeCall T ⟨xs, kw⟩ = pure ()) (hcn : checkBuiltinCall nid ⟨.type T :: xs, kw⟩ = pure ()) (en : entryFor table nid = some Bn) (ei : entryFor table iid = some Bi)
    (g : Meets (Bn ⟨.type T :: xs, kw⟩) S) (h : S A.in1 (wants Q₁ E) s)
    (hnext : ∀ obj s₁, Q₁ obj s₁ → s₁.TypeIs obj T ∧ argsOk iid ⟨obj :: xs, kw⟩ ∧ ∃ Si, Meets (Bi ⟨obj :: xs, kw⟩) Si ∧ Si A.in1 (wants (fun r s₂ => r = .none ∧ Q obj s₂) E) s₁) :
    wpAny (model prog w) A (call (.type T) xs kw) Q E s := by
  obtain ⟨mc, mtl, hmro⟩ := ft.mro
  have hmade := ft.made
  have hsub := ft.sub
  refine wpAny_call (codeAny_of_tree ?_)
  show wpAny _ _ (callAny (.type T) _) _ _ s
  refine wpAny_pure ⟨Code.quiet_builtin _ (by decide +kernel), codeAny_builtin F.entry_type_call ?_⟩
  rw [Around.under_plain (weight_type_call_type T xs kw) (units_type_call_type T xs kw)]
  have hn1 := ft.notType
  have hn2 := ft.canCreate
  repeat (any_goals (first | assumption | wp_step))
  refine codeAny_mono (codeAny_call_builtin ft.plain en (wpAny_of_eq hcn (g prog w A.in1 _ s h))) fun r s₁ hr => ?_
  cases r with
  | error e => exact hr
  | ok fl =>
    cases fl with
    | ret obj =>
      obtain ⟨hT, hok, Si, gi, hsi⟩ := hnext _ _ hr
      have hli := ft.init.lookup
      have hbi := ft.init.bind obj
      repeat (any_goals (first | assumption | wp_step))
      refine codeAny_mono (codeAny_call_builtin ft.init.plain ei (ft.init.check _ _ _ _ _ _ _ _ hT hok (gi prog w A.in1 _ s₁ hsi))) fun r₂ s₂ hr₂ => ?_
      cases r₂ with
      | error e => exact hr₂
      | ok fl₂ =>
        cases fl₂ with
        | ret r =>
          obtain ⟨rfl, hq⟩ := hr₂
          repeat (any_goals (first | assumption | wp_step))
        | _ => exact hr₂.elim
    | _ => exact hr.elim
theorem zarg_call (tup : Bool) {b1 b2 : Addr} {xs ys : Array Value} {Q : Value → Shared → Prop} (h1 : SSq tup s.heap b1 xs) (h2 : SSq tup s.heap b2 ys)
    (q : ∀ g, ZNew true tup (s.heap.objs.size + 4) (s.heap.objs.size + 2) (s.heap.objs.size + 3) s.heap.objs.size (s.heap.objs.size + 1) b1 b2 xs ys g → (∀ c o, s.heap.get? c = some o → g.get? c = some o) → Q (.ref (s.heap.objs.size + 4)) { s with heap := g }) :
    wpAny (model prog w) A (call (.type "zip") [.ref b1, .ref b2] [("strict", .bool true)]) Q E s := by
  refine callTypeK (Q₁ := fun obj s₁ => s₁.TypeIs obj "zip" ∧ Q obj s₁) F.called_zip (typeCall_zipS _ _ _) (newCall_zipS _ _ _) F.entry_zip_new F.entry_object_init (meets_zipS tup b1 b2 xs ys) ⟨h1, h2, ?_⟩ fun obj s₁ ⟨ty, hq⟩ =>
    ⟨ty, args_initS _ _ _ _, _, initS_meets F.called_zip.init.lookup F.called_zip.made (by decide), ty, rfl, hq⟩
  have z1 : (zh1 tup s.heap b1).objs.size = s.heap.objs.size + 1 := Heap.size_push ..
  have z2 : (zh2 tup s.heap b1 b2).objs.size = s.heap.objs.size + 2 := by rw [Heap.size_push, z1]
  have z3 : (zh3 tup s.heap b1 b2).objs.size = s.heap.objs.size + 3 := by rw [Heap.size_push, z2]
  have z4 : (zh4 tup s.heap b1 b2).objs.size = s.heap.objs.size + 4 := by rw [Heap.size_push, z3]
  have up : ∀ {h : Heap} {o : Obj} {c : Addr} {v : Obj}, h.get? c = some v → (h.push o).get? c = some v := fun e => Heap.get?_push_of_some _ e
  have f5 : (zh5 tup s.heap b1 b2).get? (zh4 tup s.heap b1 b2).objs.size = some _ := Heap.get?_push_size _ rfl
  have f4 : (zh5 tup s.heap b1 b2).get? (zh3 tup s.heap b1 b2).objs.size = some _ := up (Heap.get?_push_size _ rfl)
  have f3 : (zh5 tup s.heap b1 b2).get? (zh2 tup s.heap b1 b2).objs.size = some _ := up (up (Heap.get?_push_size _ rfl))
  have zf : (zo tup b1).isFreed = false ∧ (zo tup b2).isFreed = false := by cases tup <;> exact ⟨rfl, rfl⟩
  have f2 : (zh5 tup s.heap b1 b2).get? (zh1 tup s.heap b1).objs.size = some (zo tup b2) := up (up (up (Heap.get?_push_size _ zf.2)))
  have f1 : (zh5 tup s.heap b1 b2).get? s.heap.objs.size = some (zo tup b1) := up (up (up (up (Heap.get?_push_size _ zf.1))))
  have k : ∀ c o, s.heap.get? c = some o → (zh5 tup s.heap b1 b2).get? c = some o := fun c o e => up (up (up (up (up e))))
  show _ ∧ _
  rw [z2, z3, z4] at f5
  rw [z1, z2] at f3
  rw [z3] at f4
  rw [z1] at f2
  rw [z4]
  have si : ∀ {a b : Addr}, (zh5 tup s.heap b1 b2).get? a = some (zo tup b) → SIt tup (zh5 tup s.heap b1 b2) a b 0 := fun e => by
    cases tup
    · exact ⟨_, e, rfl, rfl⟩
    · exact ⟨_, e, rfl, rfl⟩
  exact ⟨⟨_, f5, rfl⟩, q _ ⟨f5, f3, ⟨_, _, f4⟩, si f1, si f2, h1.mv fun o e => k _ o e, h2.mv fun o e => k _ o e⟩ k⟩
end
end U
namespace U
open PySem PySem.Spec PyProof.Rows L2
/-! ### dict(zip(a, b, strict=True)) as an expression -/
section
variable {M : Model} {A : Around} {E : Value → Shared → Prop} {s : Shared}
theorem callWith_typeK {pos : Pos} {T : String} {first : List Value} {args : List (Bool × Sem Value)} {kws : List (Option Str × Sem Value)} {Q : Value → Shared → Prop} (h1 : args.any (·.1) = false) (h2 : kws.any (·.1.isNone) = false)
    (h : wpAny M A (evalArgs (.type T) true args kws) (fun a s₁ => wpAny M A (call (.type T) (first ++ a.pos) a.kw) Q E s₁) E s) : wpAny M A (callWith pos (.type T) first args kws) Q E s := by
  unfold callWith
  refine wpAny_bind (wpAny_holding (wpAny_mono h (fun a s₁ q => wpAny_bind (wpAny_standAt ?_)) fun _ _ z => z))
  simp only [h1, h2, Bool.or_false]
  refine wpAny_bind (wpAny_pure ?_)
  exact wpAny_bind (wpAny_mono q (fun r s₂ hr => wpAny_bind (wpAny_holding (wpAny_point (wpAny_pure hr)))) fun _ _ z => z)
end
theorem kv_zip : ∀ {ks : List Key} {ys : List V} {us : List Value}, Vals ys us → KV (ks.zip ys) (ks.zip us)
  | [], _, _, _ => .nil
  | _ :: _, _, _, .nil => .nil
  | k :: ks, _, _, .cons h t => .cons ⟨rfl, h⟩ (kv_zip t)
theorem dict_zip {X : Cx} {pins : List (Addr × Obj)} {σ : L2.St} {H1 : Hp} {s1 : Shared} {Q : VK} {a b : Addr} {ks : List Key} {ys : List V} (hcalm : X.calm = true) (I1 : Inv X pins σ H1 s1) (st tup : Bool) (kx ky : List Value) (rk : Vals (ks.map kV) kx) (ry : Vals ys ky) (h1 : SSq tup s1.heap a kx.toArray) (h2 : SSq tup s1.heap b ky.toArray) (hz : kx.length ≤ sizeLine) (hst : st = true → ks.length = ys.length)
    (q : ∀ p, H1 p = none → Q (.ref p) (upd H1 p (.dK (mergeK [] (ks.zip ys))))) (g : Heap) (ok : ZNew st tup (s1.heap.objs.size + 4) (s1.heap.objs.size + 2) (s1.heap.objs.size + 3) s1.heap.objs.size (s1.heap.objs.size + 1) a b kx.toArray ky.toArray g) (k : ∀ c o, s1.heap.get? c = some o → g.get? c = some o) :
    wpAny (model X.prog X.w) X.A (call (.type "dict") [.ref (s1.heap.objs.size + 4)]) (EP X pins σ Q) X.xe { s1 with heap := g } := by
  have lk : ks.length = kx.length := by rw [← rk.length, List.length_map]
  have ly : ys.length = ky.length := ry.length
  obtain ⟨o1, e1⟩ := h1.ob
  obtain ⟨o2, e2⟩ := h2.ob
  have hsz : st = true → kx.toArray.size = ky.toArray.size := fun e => by have := hst e; rw [List.size_toArray, List.size_toArray]; omega
  refine PySem.call_dict_pairs (s := { s1 with heap := g }) (knd := mixKind X.prog X.w) (kvs := ks.zip ky) (zarg st tup _ _ _ _ _ a b (PySem.W.ktu_apart s1.heap.objs.size a b (Heap.lt_size e1) (Heap.lt_size e2)) kx.toArray ky.toArray hsz) (I1.ok.hd hcalm) ok ⟨?_, fun i key v ⟨g1, g2⟩ => ?_⟩ ?_ fun h' tk hd' k' => ?_
  · rw [List.length_zip, List.size_toArray, List.size_toArray, lk]
  · have g1' : kx[i]? = some key := by simpa using g1
    have g2' : ky[i]? = some v := by simpa using g2
    have hi := (List.getElem?_eq_some_iff.mp g1').1
    obtain ⟨kk, ek⟩ : ∃ kk, ks[i]? = some kk := ⟨_, List.getElem?_eq_getElem (by omega)⟩
    obtain ⟨u, eu, ru⟩ := rk.get (show (ks.map kV)[i]? = some (kV kk) by rw [List.getElem?_map, ek]; rfl)
    rw [g1'] at eu
    cases eu
    exact ⟨kk, by rw [List.getElem?_zip_eq_some]; exact ⟨ek, g2'⟩, kV_is (P := X.prog) (w := X.w) ru⟩
  · rw [List.size_toArray]; exact Nat.le_trans (Nat.min_le_left ..) hz
  · have kk : ∀ c o, s1.heap.get? c = some o → h'.get? c = some o := fun c o e => k' c o (fun hm => by
      have hlt := Heap.lt_size e
      simp only [List.mem_cons, List.not_mem_nil, or_false] at hm
      rcases hm with z | z | z | z <;> (rw [z] at hlt; exact absurd hlt (Nat.not_lt.mpr (by first | exact Nat.le_refl _ | exact Nat.le_add_right _ _)))) (k c o e)
    have big : s1.heap.objs.size ≤ g.objs.size := Nat.le_of_lt (Nat.lt_of_le_of_lt (Nat.le_add_right _ 4) (Heap.lt_size ok.1))
    have hm : (g.objs.size == sysModules) = false := beq_eq_false_iff_ne.mpr (Nat.ne_of_gt (Nat.lt_of_lt_of_le I1.big big))
    have rel : KV (ks.zip ys) (ks.zip ky) := kv_zip ry
    have hlen : (mergeK [] (ks.zip ys)).length ≤ sizeLine := by
      refine Nat.le_trans (length_mergeK (ks.zip ys) []) ?_
      rw [List.length_nil, Nat.zero_add, List.length_zip, lk]
      exact Nat.le_trans (Nat.min_le_left ..) hz
    exact ⟨.ref g.objs.size, upd H1 g.objs.size (.dK (mergeK [] (ks.zip ys))), I1.laid (t' := tk) kk big (show ObjOk X.prog X.w _ _ _ (.dK (mergeK [] (ks.zip ys))) from ⟨hlen, hm, merged [] (ks.zip ky), KV.merge rel .nil, hd'⟩), rfl, q _ (I1.hok.fresh big)⟩
def rDictZip (K : PySem.W.Frag) : List V → Hp → VK → Prop := fun vs H Q => ∃ (a b : Addr) (ks : List Key) (ys : List V), vs = [.ref a, .ref b] ∧ ((SqL K H a (ks.map kV) ∧ SqL K H b ys) ∨ (SqT K H a (ks.map kV) ∧ SqT K H b ys)) ∧ ks.length = ys.length ∧ ∀ p, H p = none → Q (.ref p) (upd H p (.dK (mergeK [] (ks.zip ys))))
def tDictZip (K : PySem.W.Frag) (ta : TA) : TE := fun σ H Q => ta σ H fun vs H1 => rDictZip K vs H1 Q
theorem pe_dictZip {X : Cx} {e e2 : Expr} {ta : TA} {p p2 kp cp cpos pos : Pos} {cj : Nat} (hcalm : X.calm = true) (ha : PA X [e, e2] ta) (hg : Gl X "dict") (hm : X.mg "dict" = none) (hv : bootBuiltins "dict" = some (.type "dict")) (hgz : Gl X "zip") (hmz : X.mg "zip" = none)
    (hs : starEach [.Call (.Name "zip" p2) [e, e2] [⟨some "strict", .Constant (.bool true) cj cp, kp⟩] cpos] X.env = (false, eval (.Call (.Name "zip" p2) [e, e2] [⟨some "strict", .Constant (.bool true) cj cp, kp⟩] cpos) X.env) :: starEach [] X.env := by rfl)
    (hs2 : starEach [e, e2] X.env = (false, eval e X.env) :: starEach [e2] X.env := by rfl) (hpl : (backTo cpos (starEach [e, e2] X.env)).any (·.1) = false := by rfl) :
    PE X (.Call (.Name "dict" p) [.Call (.Name "zip" p2) [e, e2] [⟨some "strict", .Constant (.bool true) cj cp, kp⟩] cpos] [] pos) (tDictZip X.K ta) := by
  refine ⟨fun pins s σ H Q I hq => wpAny_Call_Name_kw (ld_blt I hg hm hv (PyProof.Rows.callWith_type1 ?_ hs rfl))⟩
  rw [hs]
  show wpAny _ _ (spliced ((false, eval (.Call (.Name "zip" p2) [e, e2] _ cpos) X.env) :: backTo pos (starEach [] X.env))) _ _ s
  refine Calls.spliced_cons (wpAny_Call_Name_kw (ld_blt I hgz hmz PyProof.Rows.boot_zip (callWith_typeK hpl rfl ?_)))
  rw [hs2]
  refine PyProof.Rows.evalArgs_kwB (by rfl) ?_
  have h0 := ha.run cpos pins s σ H _ I hq
  rw [hs2] at h0
  refine thn h0 fun us s1 ⟨vs, H1, I1, r, a, b, ks, ys, ex, hab, hl, q⟩ => ?_
  subst ex
  cases r with
  | cons r rr =>
    cases rr with
    | cons r' rr =>
      cases rr
      cases r
      cases r'
      show wpAny _ _ (evalAll ((do let v ← eval (.Constant (.bool true) cj cp) X.env; standAt cpos; pure v) :: [])) _ _ s1
      refine PyProof.Rows.evalAll_cons (wpAny_bind (PySem.wpAny_Constant_bool (wpAny_bind (wpAny_standAt (wpAny_pure (PyProof.Rows.evalAll_nil ?_))))))
      show wpAny _ _ (call (.type "zip") [.ref a, .ref b] [("strict", .bool true)]) _ _ s1
      have main : ∀ (tup : Bool) (kx ky : List Value), Vals (ks.map kV) kx → Vals ys ky → SSq tup s1.heap a kx.toArray → SSq tup s1.heap b ky.toArray → kx.length ≤ sizeLine → wpAny (model X.prog X.w) X.A (call (.type "zip") [.ref a, .ref b] [("strict", .bool true)]) (fun v s2 => wpAny (model X.prog X.w) X.A (call (.type "dict") [v]) (EP X pins σ Q) X.xe s2) X.xe s1 := fun tup kx ky rk ry h1 h2 hz =>
        zarg_call tup h1 h2 fun g ok k => dict_zip hcalm I1 true tup kx ky rk ry h1 h2 hz (fun _ => hl) q g ok k
      refine wpAny_mono ?_ (fun v s2 z => Calls.spliced_nil z) fun _ _ z => z
      rcases hab with ⟨ha', hb'⟩ | ⟨ha', hb'⟩
      · obtain ⟨kx, rk, p1, z1⟩ := I1.list ha'
        obtain ⟨ky, ry, p2, _⟩ := I1.list hb'
        exact main false kx ky rk ry p1.isList p2.isList (by rw [← rk.length]; exact z1)
      · obtain ⟨kx, rk, p1, z1⟩ := I1.tuple ha'
        obtain ⟨ky, ry, p2, _⟩ := I1.tuple hb'
        exact main true kx ky rk ry p1 p2 (by rw [← rk.length]; exact z1)
/-! ### dict(zip(a, b)) -/
theorem zarg_call0 {prog : Program} {w : World} {A : Around} {E : Value → Shared → Prop} {s : Shared} (tup : Bool) {b1 b2 : Addr} {xs ys : Array Value} {Q : Value → Shared → Prop} (h1 : SSq tup s.heap b1 xs) (h2 : SSq tup s.heap b2 ys)
    (q : ∀ g, ZNew false tup (s.heap.objs.size + 4) (s.heap.objs.size + 2) (s.heap.objs.size + 3) s.heap.objs.size (s.heap.objs.size + 1) b1 b2 xs ys g → (∀ c o, s.heap.get? c = some o → g.get? c = some o) → Q (.ref (s.heap.objs.size + 4)) { s with heap := g }) :
    wpAny (model prog w) A (call (.type "zip") [.ref b1, .ref b2]) Q E s := by
  cases tup
  · exact call_zip_2 h1 h2 fun g e1 e2 e3 e4 e5 _ k => q g ⟨e1, e2, ⟨_, _, e3⟩, e4, e5, h1.mv fun o e => k _ o e, h2.mv fun o e => k _ o e⟩ k
  · exact RZ.call_zipT h1 h2 fun g e1 e2 e3 e4 e5 _ k => q g ⟨e1, e2, ⟨_, _, e3⟩, e4, e5, h1.mv fun o e => k _ o e, h2.mv fun o e => k _ o e⟩ k
def rDictZip0 (K : PySem.W.Frag) : List V → Hp → VK → Prop := fun vs H Q => ∃ (a b : Addr) (ks : List Key) (ys : List V), vs = [.ref a, .ref b] ∧ ((SqL K H a (ks.map kV) ∧ SqL K H b ys) ∨ (SqT K H a (ks.map kV) ∧ SqT K H b ys)) ∧ ∀ p, H p = none → Q (.ref p) (upd H p (.dK (mergeK [] (ks.zip ys))))
def tDictZip0 (K : PySem.W.Frag) (ta : TA) : TE := fun σ H Q => ta σ H fun vs H1 => rDictZip0 K vs H1 Q
theorem pe_dictZip0 {X : Cx} {e e2 : Expr} {ta : TA} {p p2 cpos pos : Pos} (hcalm : X.calm = true) (ha : PA X [e, e2] ta) (hg : Gl X "dict") (hm : X.mg "dict" = none) (hv : bootBuiltins "dict" = some (.type "dict")) (hgz : Gl X "zip") (hmz : X.mg "zip" = none)
    (hs : starEach [.Call (.Name "zip" p2) [e, e2] [] cpos] X.env = (false, eval (.Call (.Name "zip" p2) [e, e2] [] cpos) X.env) :: starEach [] X.env := by rfl)
    (hs2 : starEach [e, e2] X.env = (false, eval e X.env) :: starEach [e2] X.env := by rfl) (hpl : (backTo cpos (starEach [e2] X.env)).any (·.1) = false := by rfl) :
    PE X (.Call (.Name "dict" p) [.Call (.Name "zip" p2) [e, e2] [] cpos] [] pos) (tDictZip0 X.K ta) := by
  refine ⟨fun pins s σ H Q I hq => wpAny_Call_Name_kw (ld_blt I hg hm hv (PyProof.Rows.callWith_type1 ?_ hs rfl))⟩
  rw [hs]
  show wpAny _ _ (spliced ((false, eval (.Call (.Name "zip" p2) [e, e2] [] cpos) X.env) :: backTo pos (starEach [] X.env))) _ _ s
  refine Calls.spliced_cons (wpAny_Call_Name_kw (ld_blt I hgz hmz PyProof.Rows.boot_zip (PyProof.Rows.callWith_type1 (thn (ha.run cpos pins s σ H _ I hq) fun us s1 ⟨vs, H1, I1, r, a, b, ks, ys, ex, hab, q⟩ => ?_) hs2 hpl)))
  subst ex
  cases r with
  | cons r rr =>
    cases rr with
    | cons r' rr =>
      cases rr
      cases r
      cases r'
      refine wpAny_mono ?_ (fun v s2 z => Calls.spliced_nil z) fun _ _ z => z
      rcases hab with ⟨ha', hb'⟩ | ⟨ha', hb'⟩
      · obtain ⟨kx, rk, p1, z1⟩ := I1.list ha'
        obtain ⟨ky, ry, p2, _⟩ := I1.list hb'
        have z2 : kx.length ≤ sizeLine := by rw [← rk.length]; exact z1
        exact zarg_call0 false (xs := kx.toArray) (ys := ky.toArray) p1.isList p2.isList fun g ok k => dict_zip hcalm I1 false false kx ky rk ry p1.isList p2.isList z2 (fun z => nomatch z) q g ok k
      · obtain ⟨kx, rk, p1, z1⟩ := I1.tuple ha'
        obtain ⟨ky, ry, p2, _⟩ := I1.tuple hb'
        have z2 : kx.length ≤ sizeLine := by rw [← rk.length]; exact z1
        exact zarg_call0 true (xs := kx.toArray) (ys := ky.toArray) p1 p2 fun g ok k => dict_zip hcalm I1 false true kx ky rk ry p1 p2 z2 (fun z => nomatch z) q g ok k
end U
namespace U
open PySem PySem.Spec PyProof.Rows L2
/-! ### xs[1::-1] of a list of two to four items -/
theorem pick1 (u0 u1 : Value) (us : List Value) (h : us.length ≤ 2) : slicePick (u0 :: u1 :: us).toArray (some 1) none (some (-1)) = [u1, u0].toArray := by
  match us, h with
  | [], _ => rfl
  | [_], _ => rfl
  | [_, _], _ => rfl
def tRev1 (K : PySem.W.Frag) (te : TE) : TE := fun σ H Q => te σ H fun x H1 => ∃ a x0 x1 r, x = .ref a ∧ SqL K H1 a (x0 :: x1 :: r) ∧ r.length ≤ 2 ∧ ∀ p, H1 p = none → Q (.ref p) (upd H1 p (.lst [x1, x0]))
theorem pe_rev1 {X : Cx} {e : Expr} {te : TE} {k k' : Nat} {p1 p2 p3 p4 pos : Pos} (he : PE X e te) : PE X (.Subscript e (.Slice (some (.Constant (.int 1) k' p4)) none (some (.UnaryOp .USub (.Constant (.int 1) k p1) p2)) p3) pos) (tRev1 X.K te) := by
  refine ⟨fun pins s σ H Q I h => Subscript_ (thn (he.run pins s σ H _ I h) fun v s1 ⟨x, H1, I1, rx, a, x0, x1, r0, ex, hx, hl, q⟩ => ?_)⟩
  subst ex
  cases rx
  have st : PO X (some (.UnaryOp .USub (.Constant (.int 1) k p1) p2)) (tPart (tUn (rU fun i => .int (-i)) (tC (.int 1)))) := po_some (pe_un un_neg pe_int)
  have lo : PO X (some (.Constant (.int 1) k' p4)) (tPart (tC (.int 1))) := po_some pe_int
  refine wpAny_Slice (thn (lo.run pins s1 σ H1 (fun o H2 => o = some 1 ∧ H2 = H1) I1 ⟨1, rfl, rfl, rfl⟩) fun vl s2 ⟨l, H2, I2, pl, el, e2⟩ => ?_)
  subst el e2
  refine thn (po_none.run pins s2 σ H2 (fun o H3 => o = none ∧ H3 = H2) I2 ⟨rfl, rfl⟩) fun vu s3 ⟨u, H3, I3, pu, eu, e3⟩ => ?_
  subst eu e3
  refine thn (st.run pins s3 σ H3 (fun o H4 => o = some (-1) ∧ H4 = H3) I3 ⟨1, rfl, -1, rfl, rfl, rfl⟩) fun vs s4 ⟨o, H4, I4, ps, eo, e4⟩ => ?_
  subst eo e4
  have I5 : Inv X pins σ H4 { s4 with heap := s4.heap.push { cls := .type "slice", data := .fields #[vl, vu, vs] } } := I4.kept (t' := s4.toks) fun b ob z => Heap.get?_push_of_some _ z
  obtain ⟨its, r, ht, hz⟩ := I5.list hx
  have hlen := r.length
  show wpAny (model X.prog X.w) X.A (subscriptTail e (.Slice (some (.Constant (.int 1) k' p4)) none (some (.UnaryOp .USub (.Constant (.int 1) k p1) p2)) p3) (.ref a) (.ref s4.heap.objs.size)) (EP X pins σ Q) X.xe { s4 with heap := s4.heap.push { cls := .type "slice", data := .fields #[vl, vu, vs] } }
  refine tail_any (ops := [.ref a, .ref s4.heap.objs.size]) ht.isList.typeIs (PySem.slot_list_getitem.lookup) ?_ (by with_unfolding_all rfl)
  refine wpAny_getItem_list_slice ht.isList (Heap.IsSliceOf.new _ vl vu vs) pl pu ps (by decide) ?_ (by rw [List.size_toArray]; omega)
  cases r with
  | cons r0' rr =>
    cases rr with
    | cons r1' rr =>
      rw [pick1 _ _ _ (by rw [← rr.length]; exact hl)]
      refine ⟨.ref _, _, I5.laid (t' := s4.toks) (o := .lst [x1, x0]) (fun b ob z => Heap.get?_push_of_some _ z) (Nat.le_refl _) ?_, rfl, q _ (I5.hok.fresh (Nat.le_refl _))⟩
      exact ⟨by show 2 ≤ sizeLine; decide, _, 0, .cons r1' (.cons r0' .nil), Heap.get?_push_size _ rfl⟩
theorem ix_listK {X : Cx} {K : PySem.W.Frag} (h : X.K = K) : IxR X (rIxL K) := by
  subst h
  exact ix_list
end U
local macro_rules | `(tactic| array_get_dec) => `(tactic| first | assumption | exact L2.upd_same | (refine U.carryNew (by assumption) ?_; array_get_dec) | (refine U.carry (by assumption) ?_; array_get_dec))
local macro_rules | `(tactic| array_mem_dec) => `(tactic| first | exact L2.Same.refl _ | assumption | (refine U.sameUp (by assumption) ?_; array_mem_dec) | (refine U.sameVia (by assumption) ?_; array_mem_dec))
local macro_rules | `(tactic| sizeOf_list_dec) => `(tactic| first | assumption | (refine U.freeVia (by assumption) ?_; sizeOf_list_dec) | (refine U.freeUp (o := _) (q := _) ?_; assumption))
local macro_rules | `(tactic| deriving_LawfulEq_tactic_step) => `(tactic| first | exact rfl | exact U.nil_le | exact U.one_le | exact U.two_le | exact U.three_le | exact L2.SqL.of (by array_get_dec) | exact L2.SqT.of (by array_get_dec) | exact ⟨_, L2.SqL.of (by array_get_dec)⟩ | exact ⟨_, L2.SqT.of (by array_get_dec)⟩ | exact Or.inl (by array_get_dec) | array_get_dec)
local macro_rules | `(tactic| and_intros) => `(tactic| repeat (first | refine And.intro (by deriving_LawfulEq_tactic_step) ?_ | (apply Exists.intro; refine And.intro (by deriving_LawfulEq_tactic_step) ?_) | (apply Exists.intro; apply Exists.intro; refine And.intro (by deriving_LawfulEq_tactic_step) ?_) | (apply Exists.intro; apply Exists.intro; apply Exists.intro; refine And.intro (by deriving_LawfulEq_tactic_step) ?_) | (apply Exists.intro; apply Exists.intro; apply Exists.intro; apply Exists.intro; refine And.intro (by deriving_LawfulEq_tactic_step) ?_)))
namespace My
open PySem L2 U StX PM
/-! ### elements checked; cycles -/
def tld (CE : Addr) (fld : Str) (x : V) (H : Hp) (E : XK) : Prop := ∀ d H', Same H H' → H' d = none → E (.ref CE) (some d) (upd H' d (.xd [(fld, x)]))
def firstBad (n : Int) : List Int → List V → Option V
  | _, [] => none
  | sn, .int i :: r => if inR (.int i) 0 (n - 1) = true ∧ i ∉ sn then firstBad n (i :: sn) r else some (.int i)
  | _, x :: _ => some x
theorem firstBad_int {n : Int} {sn : List Int} {i : Int} {r : List V} : firstBad n sn (.int i :: r) = if inR (.int i) 0 (n - 1) = true ∧ i ∉ sn then firstBad n (i :: sn) r else some (.int i) := rfl
theorem firstBad_out {n : Int} {sn : List Int} {x : V} {r : List V} (h : inR x 0 (n - 1) = false) : firstBad n sn (x :: r) = some x := by
  cases x with
  | int i => rw [firstBad_int, if_neg (by rw [h]; simp)]
  | _ => rfl
theorem firstBad_rep {n : Int} {sn : List Int} {i : Int} {r : List V} (h : i ∈ sn) : firstBad n sn (.int i :: r) = some (.int i) := by rw [firstBad_int, if_neg (fun z => z.2 h)]
theorem firstBad_next {n : Int} {sn : List Int} {i : Int} {r : List V} (h1 : inR (.int i) 0 (n - 1) = true) (h : i ∉ sn) : firstBad n sn (.int i :: r) = firstBad n (i :: sn) r := by rw [firstBad_int, if_pos ⟨h1, h⟩]
theorem firstBad_ok {n : Int} : ∀ {is sn : List Int}, (∀ i ∈ is, 0 ≤ i ∧ i < n) → is.Nodup → (∀ i ∈ is, i ∉ sn) → firstBad n sn (is.map V.int) = none
  | [], _, _, _, _ => rfl
  | i :: is, sn, h1, h2, h3 => by
    rw [List.map_cons, firstBad_next (by have := h1 i (List.mem_cons_self ..); simp only [inR, Bool.and_eq_true, decide_eq_true_eq]; omega) (h3 i (List.mem_cons_self ..))]
    refine firstBad_ok (fun j hj => h1 j (List.mem_cons_of_mem _ hj)) (List.nodup_cons.mp h2).2 fun j hj hm => ?_
    rcases List.mem_cons.mp hm with rfl | hm
    · exact (List.nodup_cons.mp h2).1 hj
    · exact h3 j (List.mem_cons_of_mem _ hj) hm
theorem kvB_new {sl : List Int} {x : Int} (h : x ∉ sl) : putK (kvB sl) (Sum.inl x : Key) (V.bl true) = kvB (sl ++ [x]) := by
  rw [putK_new _ (valV_none fun z => h (kvB_key.mp z))]
  unfold kvB
  rw [List.map_append]
  rfl
theorem knownV.mv {C : Addr} {H H' : Hp} {x : V} (h : knownV C H x) (s : Same H H') : knownV C H' x := by
  cases x with
  | ref a =>
    rcases h with ⟨xs, e⟩ | ⟨xs, e⟩ | ⟨xs, e⟩ | ⟨dx, fs, e⟩
    · exact .inl ⟨_, s _ _ e⟩
    · exact .inr (.inl ⟨_, s _ _ e⟩)
    · exact .inr (.inr (.inl ⟨_, s _ _ e⟩))
    · exact .inr (.inr (.inr ⟨_, _, s _ _ e⟩))
  | _ => exact h
def spChkL (sq : Addr → List V → HO → Prop) (C CE : Addr) : Sp := fun vs H Q E => ∃ (n : Int) (l : Addr) (xs : List V) (o : HO), vs = [.int n, .ref l] ∧ H l = some o ∧ sq l xs o ∧ xs.length ≤ 1000 ∧ (∀ x ∈ xs, knownV C H x) ∧
  ((firstBad n [] xs = none ∧ ∀ H', Same H H' → Q .non H') ∨ ∃ x, firstBad n [] xs = some x ∧ tld CE "value" x H E)
def sqL : Addr → List V → HO → Prop := fun _ xs o => o = .lst xs
def sqT : Addr → List V → HO → Prop := fun _ xs o => o = .tup xs
theorem drop_at {xs : List V} {i : Nat} {v : V} (h : xs[i]? = some v) : xs.drop i = v :: xs.drop (i + 1) := by
  obtain ⟨hi, e⟩ := List.getElem?_eq_some_iff.mp h
  rw [List.drop_eq_getElem_cons hi, e]
theorem slA_R {K : PySem.W.Frag} {H : Hp} {a : Addr} {xs : List V} {lo hi : Option Int} {Q : VK} (h : SqT K H a xs) (q : ∀ p H', Same H H' → SqT K H' p (cutV xs lo hi) → Q (.ref p) H') : rSlA K (.ref a) lo hi H Q := by
  refine ⟨a, xs, rfl, h, fun hw => q a H (Same.refl _) ?_, fun _ p np => q p _ (Same.new np) (SqT.of upd_same)⟩
  unfold cutV
  rw [hw.1, hw.2, List.drop_zero, Nat.sub_zero, List.take_length]
  exact h
theorem catA_R {K : PySem.W.Frag} {H : Hp} {a b : Addr} {xs ys : List V} {Q : VK} (h : SqT K H a xs) (g : SqT K H b ys) (hl : xs.length + ys.length ≤ 100000) (q : ∀ p H', Same H H' → SqT K H' p (xs ++ ys) → Q (.ref p) H') : rCatA K (.ref a) (.ref b) H Q := by
  refine ⟨a, b, xs, ys, rfl, rfl, h, g, le_line hl, fun e => ?_, fun _ e => ?_, fun _ _ p np => q p _ (Same.new np) (SqT.of upd_same)⟩
  · subst e
    exact q b H (Same.refl _) g
  · subst e
    exact q a H (Same.refl _) (by rw [List.append_nil]; exact h)
def rot (is : List Int) : List (Int × Int) := is.zip (is.drop 1 ++ is.take 1)
def cyc (is : List Int) : PF := lk (rot is)
theorem rot_len (is : List Int) : (is.drop 1 ++ is.take 1).length = is.length := by
  rw [List.length_append, List.length_drop, List.length_take]; omega
theorem rot_keys (is : List Int) : (rot is).map (·.1) = is := by
  unfold rot
  rw [List.map_fst_zip]
  rw [rot_len]
  exact Nat.le_refl _
theorem di_rot {is : List Int} (nd : is.Nodup) : DI (rot is) (cyc is) := ⟨by rw [rot_keys]; exact nd, fun _ => rfl⟩
theorem zip_inj {α β : Type} : ∀ {xs : List α} {ys : List β} {a b : α} {y : β}, ys.Nodup → (a, y) ∈ xs.zip ys → (b, y) ∈ xs.zip ys → a = b
  | [], _, _, _, _, _, h, _ => nomatch h
  | _ :: _, [], _, _, _, _, h, _ => nomatch h
  | x :: xs, z :: ys, a, b, y, nd, h1, h2 => by
    rw [List.zip_cons_cons] at h1 h2
    have n1 := (List.nodup_cons.mp nd).1
    rcases List.mem_cons.mp h1 with e1 | e1 <;> rcases List.mem_cons.mp h2 with e2 | e2
    · cases e1; cases e2; rfl
    · cases e1
      exact absurd (List.of_mem_zip e2).2 n1
    · cases e2
      exact absurd (List.of_mem_zip e1).2 n1
    · exact zip_inj (List.nodup_cons.mp nd).2 e1 e2
theorem rot_nd {is : List Int} (nd : is.Nodup) : (is.drop 1 ++ is.take 1).Nodup := by
  have e : (is.take 1 ++ is.drop 1).Nodup := by rw [List.take_append_drop]; exact nd
  exact (List.perm_append_comm.nodup_iff).mp e
theorem wf_cyc {n : Int} {is : List Int} (h : ∀ i ∈ is, 0 ≤ i ∧ i < n) (nd : is.Nodup) : WF n (cyc is) := by
  have key : ∀ x y, cyc is x = some y → (x, y) ∈ rot is := fun x y e => (di_rot nd).mem.mpr e
  refine ⟨fun x y e => ?_, fun x x' y e1 e2 => zip_inj (rot_nd nd) (key _ _ e1) (key _ _ e2)⟩
  have hm := List.of_mem_zip (key _ _ e)
  have hx := h x hm.1
  have hy : y ∈ is := by
    rcases List.mem_append.mp hm.2 with z | z
    · exact List.mem_of_mem_drop z
    · exact List.mem_of_mem_take z
  have := h y hy
  omega
theorem kvI_zip (as bs : List Int) : (as.map (Sum.inl : Int → Key)).zip (bs.map V.int) = kvI (as.zip bs) := by
  unfold kvI
  rw [List.zip_map]
  rfl
theorem map_kV (as : List Int) : (as.map (Sum.inl : Int → Key)).map kV = as.map V.int := by
  rw [List.map_map]
  rfl
theorem cut_1 (xs : List V) : cutV xs (some 1) none = xs.drop 1 := by
  unfold cutV
  rw [HT.sIx_none, show (some (1 : Int)) = some ((1 : Nat) : Int) from rfl, HT.sIx_nat]
  cases xs with
  | nil => rfl
  | cons x r =>
    rw [List.length_cons, Nat.min_eq_left (by omega)]
    rw [List.drop_succ_cons, List.drop_zero]
    exact List.take_of_length_le (by omega)
theorem cut_0 (xs : List V) : cutV xs none (some 1) = xs.take 1 := by
  unfold cutV
  rw [HT.sIx_none, show (some (1 : Int)) = some ((1 : Nat) : Int) from rfl, HT.sIx_nat]
  cases xs with
  | nil => rfl
  | cons x r =>
    rw [List.length_cons, Nat.min_eq_left (by omega)]
    rfl
section
variable {P : Program} {w : World} {K : PySem.W.Frag} {mg : Str → Option Value} {base : Heap}
theorem okN_ini_InvalidElement (T : Txt K mg) : FnR P w K mg base CX0 1 T.f_InvalidElement__init (spIni1 T.C_InvalidElement "value") := by
  refine T.A_InvalidElement__init.ok sc_InvalidElement__init (fun vs H Q E h => ?_) (fun cdv A outer s H vs Q E hr h => ?_)
  · obtain ⟨a, v, rfl, _⟩ := h
    rfl
  · obtain ⟨a, v, rfl, ha, q⟩ := h
    refine ⟨_, pss_one (ps_ostG (pv 0) (pv 1)), ?_⟩
    exact ⟨_, rfl, _, rfl, a, T.C_InvalidElement, rfl, T.x_InvalidElement, T.na_value_InvalidElement, .inl ⟨ha, fun dx h1 h2 => q dx h1 h2⟩⟩
theorem okX_checkEL (T : Txt K mg) : FnR P w K mg base (L2.CX P w) 4 T.f_check_elements (spChkL sqL T.C_Map T.C_InvalidElement) := by
  refine T.A_check_elements.okX sc_check_elements (fun vs H Q E h => ?_) (fun cdv A outer s H vs Q E hr h => ?_)
  · obtain ⟨n, l, xs, o, rfl, _⟩ := h
    rfl
  · obtain ⟨n, l, xs, o, rfl, hl, rfl, hz, hk, h⟩ := h
    have hu := hu_of hr
    have ok_ini_InvalidElement := fun (T : Txt K mg) => okN_ini_InvalidElement (P := P) (w := w) (base := base) T
    refine ⟨_, (pss_cons (ps_set (i := 2) sc_check_elements.nd rfl (Or.inl rfl) pe_dnewK)
      (pss_one (ps_for (passes_of rfl) rfl (pi_list (pv 1)) (pg_name (i := 3) sc_check_elements.nd rfl (Or.inl rfl))
        (pss_cons (ps_if (PW.pt (pw_or (pt_not (pt_val (pe_callR (ok_in_range T) (hr.mono (by decide)) T.A_in_range.kp rfl T.g_in_range pass0 (pa_cons (pv 3) (pa_cons pe_int (pa_cons (pe_op op_sub (pv 0) pe_int) pa_nil)))))) (pw_or1 (pt_cmp (pc_din hu (pv 3) (pv 2))))))
        (pss_one (ps_raise rfl (takes_of rfl rfl rfl rfl) (pmk_oexG T.x_InvalidElement T.m_InvalidElement__init T.ti_InvalidElement__init (ok_ini_InvalidElement T) (hr.mono (by decide)) pass0 rfl T.g_InvalidElement (pa_cons (pv 3) pa_nil)))) pss_nil)
      (pss_one (ps_dput hu (pv 2) (pv 3) pe_bl rfl)))))), ?_⟩
    refine fun se n_se => ?_
    generalize g_se : L2.upd _ se _ = H1
    obtain ⟨s_H1, e_se⟩ := U.upd_facts g_se n_se
    clear g_se
    have hl1 := s_H1 _ _ hl
    refine ⟨_, rfl, l, rfl, ⟨_, SqL.of hl1⟩, ?_⟩
    refine for_it (walk_list (xs := xs)) (fun i σ H' => ∃ v3 sn sl, σ = [some (.int n), some (.ref l), some (.ref se), v3] ∧ Same H H' ∧ H' se = some (.dK (kvB sl)) ∧ (∀ z, z ∈ sl ↔ z ∈ sn) ∧ sl.length ≤ i ∧ firstBad n [] xs = firstBad n sn (xs.drop i)) ⟨_, [], [], rfl, s_H1, e_se, fun _ => Iff.rfl, Nat.le_refl _, rfl⟩ (fun i σ H' _ ⟨_, _, _, _, z, _⟩ => SqL.of (z _ _ hl)) ?_ ?_
    · rintro i v σ H0 H' hi ⟨v3, sn, sl, rfl, sh, hse, hm, hsl, hf⟩ ⟨rfl, ev⟩
      have hil : i < xs.length := (List.getElem?_eq_some_iff.mp ev).1
      rw [drop_at ev] at hf
      have raise : firstBad n [] xs = some v → tld T.C_InvalidElement "value" v H E := fun e => by
        rcases h with ⟨e2, _⟩ | ⟨x, e2, q⟩
        · rw [e] at e2; cases e2
        · rw [e] at e2; cases e2; exact q
      refine ⟨_, rfl, _, rfl, _, _, rfl, rfl, v, 0, n - 1, rfl, (hk v (List.mem_of_getElem? ev)).mv sh, _, rfl, ?_⟩
      cases hr1 : inR v 0 (n - 1) with
      | false =>
        rw [firstBad_out hr1] at hf
        exact iteT (iteT ⟨_, rfl, mk_one fun d hd => raise hf d _ sh hd⟩)
      | true =>
        refine iteF ?_
        obtain ⟨j, rfl⟩ : ∃ j, v = .int j := by cases v <;> first | exact ⟨_, rfl⟩ | cases hr1
        refine ⟨_, rfl, _, rfl, se, _, rfl, DGet.k (k := Sum.inl j) hse, _, rfl, ?_⟩
        rw [kvB_val]
        refine ifB (fun hc => ?_) (fun hc => ?_)
        · rw [firstBad_rep ((hm j).mp (of_decide_eq_true hc))] at hf
          exact ⟨_, rfl, mk_one fun d hd => raise hf d _ sh hd⟩
        · have hj : j ∉ sl := of_decide_eq_false hc
          rw [firstBad_next hr1 (fun z => hj ((hm j).mpr z))] at hf
          refine ⟨_, rfl, _, rfl, se, _, rfl, .k (k := Sum.inl j) hse (lt_line (by unfold kvB; rw [List.length_map]; omega)), ?_⟩
          rw [kvB_new hj]
          exact ⟨_, j :: sn, sl ++ [j], rfl, Same.put sh n_se, upd_same, fun z => by rw [List.mem_append, List.mem_singleton, List.mem_cons, hm]; exact Or.comm, by rw [List.length_append, List.length_singleton]; omega, hf⟩
    · rintro σ H' ⟨v3, sn, sl, rfl, sh, hse, hm, hsl, hf⟩
      rw [List.drop_length] at hf
      rcases h with ⟨_, q⟩ | ⟨x, e2, q⟩
      · exact q _ sh
      · rw [e2] at hf; cases hf
theorem okX_checkET (T : Txt K mg) : FnR P w K mg base (L2.CX P w) 4 T.f_check_elements (spChkL sqT T.C_Map T.C_InvalidElement) := by
  refine T.A_check_elements.okX sc_check_elements (fun vs H Q E h => ?_) (fun cdv A outer s H vs Q E hr h => ?_)
  · obtain ⟨n, l, xs, o, rfl, _⟩ := h
    rfl
  · obtain ⟨n, l, xs, o, rfl, hl, rfl, hz, hk, h⟩ := h
    have hu := hu_of hr
    have ok_ini_InvalidElement := fun (T : Txt K mg) => okN_ini_InvalidElement (P := P) (w := w) (base := base) T
    refine ⟨_, (pss_cons (ps_set (i := 2) sc_check_elements.nd rfl (Or.inl rfl) pe_dnewK)
      (pss_one (ps_for (passes_of rfl) rfl (pi_tup (pv 1)) (pg_name (i := 3) sc_check_elements.nd rfl (Or.inl rfl))
        (pss_cons (ps_if (PW.pt (pw_or (pt_not (pt_val (pe_callR (ok_in_range T) (hr.mono (by decide)) T.A_in_range.kp rfl T.g_in_range pass0 (pa_cons (pv 3) (pa_cons pe_int (pa_cons (pe_op op_sub (pv 0) pe_int) pa_nil)))))) (pw_or1 (pt_cmp (pc_din hu (pv 3) (pv 2))))))
        (pss_one (ps_raise rfl (takes_of rfl rfl rfl rfl) (pmk_oexG T.x_InvalidElement T.m_InvalidElement__init T.ti_InvalidElement__init (ok_ini_InvalidElement T) (hr.mono (by decide)) pass0 rfl T.g_InvalidElement (pa_cons (pv 3) pa_nil)))) pss_nil)
      (pss_one (ps_dput hu (pv 2) (pv 3) pe_bl rfl)))))), ?_⟩
    refine fun se n_se => ?_
    generalize g_se : L2.upd _ se _ = H1
    obtain ⟨s_H1, e_se⟩ := U.upd_facts g_se n_se
    clear g_se
    have hl1 := s_H1 _ _ hl
    refine ⟨_, rfl, l, rfl, ⟨_, SqT.of hl1⟩, ?_⟩
    refine for_it (walk_tup (xs := xs)) (fun i σ H' => ∃ v3 sn sl, σ = [some (.int n), some (.ref l), some (.ref se), v3] ∧ Same H H' ∧ H' se = some (.dK (kvB sl)) ∧ (∀ z, z ∈ sl ↔ z ∈ sn) ∧ sl.length ≤ i ∧ firstBad n [] xs = firstBad n sn (xs.drop i)) ⟨_, [], [], rfl, s_H1, e_se, fun _ => Iff.rfl, Nat.le_refl _, rfl⟩ (fun i σ H' _ ⟨_, _, _, _, z, _⟩ => SqT.of (z _ _ hl)) ?_ ?_
    · rintro i v σ H0 H' hi ⟨v3, sn, sl, rfl, sh, hse, hm, hsl, hf⟩ ⟨rfl, ev⟩
      have hil : i < xs.length := (List.getElem?_eq_some_iff.mp ev).1
      rw [drop_at ev] at hf
      have raise : firstBad n [] xs = some v → tld T.C_InvalidElement "value" v H E := fun e => by
        rcases h with ⟨e2, _⟩ | ⟨x, e2, q⟩
        · rw [e] at e2; cases e2
        · rw [e] at e2; cases e2; exact q
      refine ⟨_, rfl, _, rfl, _, _, rfl, rfl, v, 0, n - 1, rfl, (hk v (List.mem_of_getElem? ev)).mv sh, _, rfl, ?_⟩
      cases hr1 : inR v 0 (n - 1) with
      | false =>
        rw [firstBad_out hr1] at hf
        exact iteT (iteT ⟨_, rfl, mk_one fun d hd => raise hf d _ sh hd⟩)
      | true =>
        refine iteF ?_
        obtain ⟨j, rfl⟩ : ∃ j, v = .int j := by cases v <;> first | exact ⟨_, rfl⟩ | cases hr1
        refine ⟨_, rfl, _, rfl, se, _, rfl, DGet.k (k := Sum.inl j) hse, _, rfl, ?_⟩
        rw [kvB_val]
        refine ifB (fun hc => ?_) (fun hc => ?_)
        · rw [firstBad_rep ((hm j).mp (of_decide_eq_true hc))] at hf
          exact ⟨_, rfl, mk_one fun d hd => raise hf d _ sh hd⟩
        · have hj : j ∉ sl := of_decide_eq_false hc
          rw [firstBad_next hr1 (fun z => hj ((hm j).mpr z))] at hf
          refine ⟨_, rfl, _, rfl, se, _, rfl, .k (k := Sum.inl j) hse (lt_line (by unfold kvB; rw [List.length_map]; omega)), ?_⟩
          rw [kvB_new hj]
          exact ⟨_, j :: sn, sl ++ [j], rfl, Same.put sh n_se, upd_same, fun z => by rw [List.mem_append, List.mem_singleton, List.mem_cons, hm]; exact Or.comm, by rw [List.length_append, List.length_singleton]; omega, hf⟩
    · rintro σ H' ⟨v3, sn, sl, rfl, sh, hse, hm, hsl, hf⟩
      rw [List.drop_length] at hf
      rcases h with ⟨_, q⟩ | ⟨x, e2, q⟩
      · exact q _ sh
      · rw [e2] at hf; cases hf
theorem okN_ini_InvalidSize (T : Txt K mg) : FnR P w K mg base CX0 1 T.f_InvalidSize__init (spIni1 T.C_InvalidSize "value") := by
  refine T.A_InvalidSize__init.ok sc_InvalidSize__init (fun vs H Q E h => ?_) (fun cdv A outer s H vs Q E hr h => ?_)
  · obtain ⟨a, v, rfl, _⟩ := h
    rfl
  · obtain ⟨a, v, rfl, ha, q⟩ := h
    refine ⟨_, pss_one (ps_ostG (pv 0) (pv 1)), ?_⟩
    exact ⟨_, rfl, _, rfl, a, T.C_InvalidSize, rfl, T.x_InvalidSize, T.na_value_InvalidSize, .inl ⟨ha, fun dx h1 h2 => q dx h1 h2⟩⟩
def spChkZ (C CS : Addr) : Sp := fun vs H Q E => ∃ v, vs = [v] ∧ knownV C H v ∧ ((inR v 1 300 = true ∧ Q .non H) ∨ (inR v 1 300 = false ∧ tld CS "value" v H E))
theorem okX_checkZ (T : Txt K mg) : FnR P w K mg base (L2.CX P w) 3 T.f_check_size (spChkZ T.C_Map T.C_InvalidSize) := by
  refine T.A_check_size.okX sc_check_size (fun vs H Q E h => ?_) (fun cdv A outer s H vs Q E hr h => ?_)
  · obtain ⟨v, rfl, _⟩ := h
    rfl
  · obtain ⟨v, rfl, hk, h⟩ := h
    have ok_ini_InvalidSize := fun (T : Txt K mg) => okN_ini_InvalidSize (P := P) (w := w) (base := base) T
    obtain ⟨_, h_MAX_SIZE⟩ := T.v_MAX_SIZE
    refine ⟨_, (pss_one (ps_if (pt_not (pt_val (pe_callR (ok_in_range T) (hr.mono (by decide)) T.A_in_range.kp rfl T.g_in_range pass0 (pa_cons (pv 0) (pa_cons pe_int (pa_cons (pe_glob (v := .int 300) rfl h_MAX_SIZE ⟨_, rfl⟩) pa_nil))))))
        (pss_one (ps_raise rfl (takes_of rfl rfl rfl rfl) (pmk_oexG T.x_InvalidSize T.m_InvalidSize__init T.ti_InvalidSize__init (ok_ini_InvalidSize T) (hr.mono (by decide)) pass0 rfl T.g_InvalidSize (pa_cons (pv 0) pa_nil)))) pss_nil)), ?_⟩
    refine ⟨_, rfl, v, 1, 300, rfl, hk, _, rfl, ?_⟩
    rcases h with ⟨e, q⟩ | ⟨e, q⟩
    · rw [e]
      exact iteF q
    · rw [e]
      exact iteT ⟨_, rfl, mk_one fun d hd => q d H (Same.refl _) hd⟩
def spCyc (C CS CE : Addr) (op : List Int → PF) : Sp := fun vs H Q E => ∃ (v : V) (p : Addr) (xs : List V), vs = [.ref C, v, .ref p] ∧ H p = some (.tup xs) ∧ xs.length ≤ 100 ∧ knownV C H v ∧ (∀ x ∈ xs, knownV C H x) ∧
  ((inR v 1 300 = false ∧ tld CS "value" v H E) ∨ ∃ n, v = .int n ∧ 1 ≤ n ∧ n ≤ 300 ∧ ((∃ x, firstBad n [] xs = some x ∧ tld CE "value" x H E) ∨ ∃ is : List Int, xs = is.map V.int ∧ (∀ i ∈ is, 0 ≤ i ∧ i < n) ∧ is.Nodup ∧ ∀ r H', H r = none → Same H H' → IsMap C H' r n (op is) → Q (.ref r) H'))
theorem inR_13 {n : Int} (h1 : 1 ≤ n) (h3 : n ≤ 300) : inR (.int n) 1 300 = true := by simp only [inR, Bool.and_eq_true, decide_eq_true_eq]; omega
theorem okX_cycle (T : Txt K mg) : FnR P w K mg base (L2.CX P w) 8 T.f_Map_cycle (spStar 2 (spCyc T.C_Map T.C_InvalidSize T.C_InvalidElement cyc)) := by
  refine T.A_Map_cycle.okX sc_Map_cycle (fun cdv A outer s H vs Q E hr h => ?_)
  · obtain ⟨v, p, xs, rfl, hp, hz, hkv, hkx, h⟩ := h
    have hu := hu_of hr
    refine ⟨_, (pss_cons (ps_expr (pe_callR (okX_checkZ T) (hr.mono (by decide)) T.A_check_size.kp rfl T.g_check_size (passes_call (takes_of rfl rfl rfl rfl) (fun _ _ _ _ h => h)) (pa_cons (pv 1) pa_nil)))
      (pss_cons (ps_expr (pe_callR (okX_checkET T) (hr.mono (by decide)) T.A_check_elements.kp rfl T.g_check_elements (passes_call (takes_of rfl rfl rfl rfl) (fun _ _ _ _ h => h)) (pa_cons (pv 1) (pa_cons (pv 2) pa_nil))))
      (pss_one (ps_ret (pe_makeL (i := 0) T.M_Map (ok_init T) (hr.mono (by decide)) rfl (Or.inl rfl) pass0 (pa_cons (pv 1) (pa_cons (pe_dictZip rfl (pa_cons (pv 2) (pa_cons (pe_op op_catA (pe_slice sl_tupA (pv 2) (po_some pe_int) po_none) (pe_slice sl_tupA (pv 2) po_none (po_some pe_int))) pa_nil)) rfl T.n_dict (by decide +kernel) rfl T.n_zip) pa_nil))))))), ?_⟩
    rcases h with ⟨e, q⟩ | ⟨n, rfl, n1, n3, h⟩
    · exact ⟨_, rfl, v, rfl, hkv, .inr ⟨e, q⟩⟩
    refine ⟨_, rfl, .int n, rfl, trivial, .inl ⟨inR_13 n1 n3, ?_⟩⟩
    rcases h with ⟨x, e, q⟩ | ⟨is, rfl, hb, nd, q⟩
    · exact ⟨_, rfl, _, rfl, n, p, xs, _, rfl, hp, rfl, by omega, hkx, .inr ⟨x, e, q⟩⟩
    refine ⟨_, rfl, _, rfl, n, p, _, _, rfl, hp, rfl, by omega, hkx, .inl ⟨firstBad_ok hb nd (fun _ _ z => nomatch z), fun H1 s1 => ?_⟩⟩
    have hp1 : SqT K H1 p (is.map V.int) := SqT.of (s1 _ _ hp)
    rw [List.length_map] at hz
    refine ⟨rfl, _, rfl, _, rfl, _, rfl, 1, rfl, ?_⟩
    dsimp only [tNoPart]
    refine slA_R hp1 fun q1 H2 s2 h2 => ?_
    refine ⟨_, rfl, 1, rfl, ?_⟩
    show rSlA K (.ref p) none (some 1) H2 _
    refine slA_R (SqT.of (s2 _ _ (s1 _ _ hp))) fun q2 H3 s3 h3 => ?_
    rw [cut_1] at h2
    rw [cut_0] at h3
    refine catA_R (h2.ext s3) h3 (by simp only [List.length_drop, List.length_take, List.length_map]; omega) fun q3 H4 s4 h4 => ?_
    have s14 := (s2.trans s3).trans s4
    have s04 := s1.trans s14
    have eq4 : (is.map V.int).drop 1 ++ (is.map V.int).take 1 = (is.drop 1 ++ is.take 1).map V.int := by rw [List.map_append, List.map_drop, List.map_take]
    rw [eq4] at h4
    refine ⟨p, q3, is.map Sum.inl, _, rfl, .inr ⟨by rw [map_kV]; exact SqT.of (s04 _ _ hp), h4⟩, by simp only [List.length_map]; exact (rot_len is).symm, fun D n_D => ?_⟩
    rw [kvI_zip]
    obtain ⟨l9, e9, hl9, d9⟩ := dict_of (di_rot nd)
    rw [show is.zip (is.drop 1 ++ is.take 1) = rot is from rfl, e9]
    generalize g_D : L2.upd _ D _ = H5
    obtain ⟨s_H5, e_D⟩ := U.upd_facts g_D n_D
    clear g_D
    have hlr : (rot is).length ≤ 100 := by unfold rot; rw [List.length_zip]; omega
    exact fun r dr nr ndr ne => init_of e_D d9 (wf_cyc hb nd) n1 n3 (by omega) nr ndr ne fun H6 s6 m6 => ⟨rfl, q r H6 ((s04.trans s_H5).free nr) (s04.trans (s_H5.trans s6)) m6⟩
end
end My
namespace My
open PySem L2 U StX PM
/-! ### chains, swaps; sizes that are none -/
theorem st_facts {p : Addr} {H H' : Hp} {o : HO} (g : upd H p o = H') : Off p H H' ∧ H' p = some o := by
  subst g
  exact ⟨fun b u hb e => by rw [upd_ne hb]; exact e, upd_same⟩
theorem fnR_or2 {P : Program} {w : World} {K : PySem.W.Frag} {mg : Str → Option Value} {base : Heap} {CX : CXT} {k : Nat} {f : Addr} {sp1 sp2 : Sp} (F1 : FnR P w K mg base CX k f sp1) (F2 : FnR P w K mg base CX k f sp2) : FnR P w K mg base CX k f (fun vs H Q E => sp1 vs H Q E ∨ sp2 vs H Q E) := fun A outer s H us vs Q E hr e0 r h => h.elim (fun h => F1 A outer s H us vs Q E hr e0 r h) fun h => F2 A outer s H us vs Q E hr e0 r h
def stp2 (is : List Int) : List (Int × Int) := is.zip (is.drop 1)
def chn (is : List Int) : PF := lk (stp2 is)
theorem zip_nd : ∀ {is js : List Int}, is.Nodup → ((is.zip js).map (·.1)).Nodup
  | [], _, _ => by rw [List.zip_nil_left]; exact List.nodup_nil
  | _ :: _, [], _ => by rw [List.zip_nil_right]; exact List.nodup_nil
  | i :: is, j :: js, h => by
    rw [List.zip_cons_cons, List.map_cons, List.nodup_cons]
    refine ⟨fun hm => (List.nodup_cons.mp h).1 ?_, zip_nd (List.nodup_cons.mp h).2⟩
    obtain ⟨⟨a, b⟩, hp, e⟩ := List.mem_map.mp hm
    cases e
    exact (List.of_mem_zip hp).1
theorem di_stp {is : List Int} (nd : is.Nodup) : DI (stp2 is) (chn is) := ⟨zip_nd nd, fun _ => rfl⟩
theorem wf_chn {n : Int} {is : List Int} (h : ∀ i ∈ is, 0 ≤ i ∧ i < n) (nd : is.Nodup) : WF n (chn is) := by
  have key : ∀ x y, chn is x = some y → (x, y) ∈ stp2 is := fun x y e => (di_stp nd).mem.mpr e
  have nd1 : (is.drop 1).Nodup := (List.drop_sublist 1 is).nodup nd
  refine ⟨fun x y e => ?_, fun x x' y e1 e2 => zip_inj nd1 (key _ _ e1) (key _ _ e2)⟩
  have hm := List.of_mem_zip (key _ _ e)
  have hx := h x hm.1
  have := h y (List.mem_of_mem_drop hm.2)
  omega
def swp (n a b : Int) : PF := fun z => if z = b then some a else if z = a then some b else idn n z
theorem wf_swp {n a b : Int} (ha : 0 ≤ a ∧ a < n) (hb : 0 ≤ b ∧ b < n) : WF n (swp n a b) := by
  have key : ∀ x y, swp n a b x = some y → (x = b ∧ y = a) ∨ (x ≠ b ∧ x = a ∧ y = b) ∨ (x ≠ b ∧ x ≠ a ∧ x = y ∧ 0 ≤ x ∧ x < n) := fun x y e => by
    unfold swp at e
    split at e
    · rename_i hx
      cases e
      exact .inl ⟨hx, rfl⟩
    · rename_i hx
      split at e
      · rename_i hx2
        cases e
        exact .inr (.inl ⟨hx, hx2, rfl⟩)
      · rename_i hx2
        have w := (wf_idn n).dom x y e
        have e3 : x = y := by
          unfold idn at e
          split at e
          · cases e; rfl
          · cases e
        exact .inr (.inr ⟨hx, hx2, e3, w.1, w.2.1⟩)
  refine ⟨fun x y e => ?_, fun x x' y e1 e2 => ?_⟩
  · rcases key x y e with ⟨rfl, rfl⟩ | ⟨_, rfl, rfl⟩ | ⟨_, _, rfl, _, _⟩ <;> omega
  · rcases key x y e1 with ⟨rfl, rfl⟩ | ⟨h1, rfl, rfl⟩ | ⟨h1, h2, rfl, _, _⟩ <;> rcases key x' _ e2 with ⟨rfl, h3⟩ | ⟨h3, rfl, h4⟩ | ⟨h3, h4, h5, _, _⟩ <;> omega
theorem di_putS {l : List (Int × Int)} {f : PF} (d : DI l f) (x y : Int) : ∃ l', putK (kvI l) (Sum.inl x : Key) (V.int y) = kvI l' ∧ l'.length ≤ l.length + 1 ∧ DI l' (fun z => if z = x then some y else f z) := by
  obtain ⟨l', e, h, nd, k⟩ := putK_lk (l := l) (x := x) (y := y)
  exact ⟨l', e, h, nd d.nd, fun z => by rw [k, d.at_]⟩
/-- a size that is none -/
def spBadZ (C CS : Addr) : Sp := fun vs H Q E => ∃ (v : V), vs = [.ref C, v] ∧ knownV C H v ∧ inR v 1 300 = false ∧ tld CS "value" v H E
def spSwap (C CS CE : Addr) : Sp := fun vs H Q E => ∃ (v x y : V), vs = [.ref C, v, x, y] ∧ knownV C H v ∧ knownV C H x ∧ knownV C H y ∧
  ((inR v 1 300 = false ∧ tld CS "value" v H E) ∨ ∃ n, v = .int n ∧ 1 ≤ n ∧ n ≤ 300 ∧ ((inR x 0 (n - 1) = false ∧ tld CE "value" x H E) ∨ (inR x 0 (n - 1) = true ∧ ((inR y 0 (n - 1) = false ∧ tld CE "value" y H E) ∨ ∃ a b : Int, x = .int a ∧ y = .int b ∧ 0 ≤ a ∧ a < n ∧ 0 ≤ b ∧ b < n ∧ ∀ r H', H r = none → Same H H' → IsMap C H' r n (swp n a b) → Q (.ref r) H'))))
theorem firstBad_one {n : Int} {x : V} : firstBad n [] [x] = if inR x 0 (n - 1) = true then none else some x := by
  cases h : inR x 0 (n - 1) with
  | false => rw [firstBad_out h]; rfl
  | true =>
    obtain ⟨i, rfl⟩ : ∃ i, x = .int i := by cases x <;> first | exact ⟨_, rfl⟩ | cases h
    rw [firstBad_next h (fun z => by cases z)]
    rfl
section
variable {P : Program} {w : World} {K : PySem.W.Frag} {mg : Str → Option Value} {base : Heap}
theorem okE_identity (T : Txt K mg) : FnR P w K mg base (L2.CX P w) 6 T.f_Map_identity (spBadZ T.C_Map T.C_InvalidSize) := by
  refine T.A_Map_identity.okX sc_Map_identity (fun vs H Q E h => ?_) (fun cdv A outer s H vs Q E hr h => ?_)
  · obtain ⟨v, rfl, _⟩ := h
    rfl
  · obtain ⟨v, rfl, hk, e, q⟩ := h
    refine ⟨_, (pss_cons (ps_expr (pe_callR (okX_checkZ T) (hr.mono (by decide)) T.A_check_size.kp rfl T.g_check_size (passes_call (takes_of rfl rfl rfl rfl) (fun _ _ _ _ h => h)) (pa_cons (pv 1) pa_nil)))
      (pss_one (ps_ret (pe_makeL (i := 0) T.M_Map (ok_init T) (hr.mono (by decide)) rfl (Or.inl rfl) pass0 (pa_cons (pv 1) (pa_cons (pe_dc (own := [("element", 2)]) (g := (gName 2)) (tt := tYes) rfl sc_Map_identity.nd (pi_range1 rfl T.n_range (pa_cons (pv 1) pa_nil)) (blkOk_by (own := [("element", 2)]) (N := n_Map_identity) (sc := defScope s_Map_identity) (by decide +kernel)) (fun _ _ _ _ _ => (pg_name (i := 2) sc_Map_identity.nd rfl (Or.inl rfl))) (fun _ _ _ _ _ => pts_nil) (fun _ _ _ _ _ => (pv 2)) (fun _ _ _ _ _ => (pv 2))) pa_nil)))))), ?_⟩
    exact ⟨_, rfl, v, rfl, hk, .inr ⟨e, q⟩⟩
theorem okE_empty (T : Txt K mg) : FnR P w K mg base (L2.CX P w) 6 T.f_Map_empty (spBadZ T.C_Map T.C_InvalidSize) := by
  refine T.A_Map_empty.okX sc_Map_empty (fun vs H Q E h => ?_) (fun cdv A outer s H vs Q E hr h => ?_)
  · obtain ⟨v, rfl, _⟩ := h
    rfl
  · obtain ⟨v, rfl, hk, e, q⟩ := h
    refine ⟨_, (pss_cons (ps_expr (pe_callR (okX_checkZ T) (hr.mono (by decide)) T.A_check_size.kp rfl T.g_check_size (passes_call (takes_of rfl rfl rfl rfl) (fun _ _ _ _ h => h)) (pa_cons (pv 1) pa_nil)))
      (pss_one (ps_ret (pe_makeL (i := 0) T.M_Map (ok_init T) (hr.mono (by decide)) rfl (Or.inl rfl) pass0 (pa_cons (pv 1) (pa_cons pe_dnewK pa_nil)))))), ?_⟩
    exact ⟨_, rfl, v, rfl, hk, .inr ⟨e, q⟩⟩
theorem okX_chain (T : Txt K mg) : FnR P w K mg base (L2.CX P w) 8 T.f_Map_chain (spStar 2 (spCyc T.C_Map T.C_InvalidSize T.C_InvalidElement chn)) := by
  refine T.A_Map_chain.okX sc_Map_chain (fun cdv A outer s H vs Q E hr h => ?_)
  · obtain ⟨v, p, xs, rfl, hp, hz, hkv, hkx, h⟩ := h
    have hu := hu_of hr
    refine ⟨_, (pss_cons (ps_expr (pe_callR (okX_checkZ T) (hr.mono (by decide)) T.A_check_size.kp rfl T.g_check_size (passes_call (takes_of rfl rfl rfl rfl) (fun _ _ _ _ h => h)) (pa_cons (pv 1) pa_nil)))
      (pss_cons (ps_expr (pe_callR (okX_checkET T) (hr.mono (by decide)) T.A_check_elements.kp rfl T.g_check_elements (passes_call (takes_of rfl rfl rfl rfl) (fun _ _ _ _ h => h)) (pa_cons (pv 1) (pa_cons (pv 2) pa_nil))))
      (pss_one (ps_ret (pe_makeL (i := 0) T.M_Map (ok_init T) (hr.mono (by decide)) rfl (Or.inl rfl) pass0 (pa_cons (pv 1) (pa_cons (pe_dictZip0 rfl (pa_cons (pv 2) (pa_cons (pe_slice sl_tupA (pv 2) (po_some pe_int) po_none) pa_nil)) rfl T.n_dict (by decide +kernel) rfl T.n_zip) pa_nil))))))), ?_⟩
    rcases h with ⟨e, q⟩ | ⟨n, rfl, n1, n3, h⟩
    · exact ⟨_, rfl, v, rfl, hkv, .inr ⟨e, q⟩⟩
    refine ⟨_, rfl, .int n, rfl, trivial, .inl ⟨inR_13 n1 n3, ?_⟩⟩
    rcases h with ⟨x, e, q⟩ | ⟨is, rfl, hb, nd, q⟩
    · exact ⟨_, rfl, _, rfl, n, p, xs, _, rfl, hp, rfl, by omega, hkx, .inr ⟨x, e, q⟩⟩
    refine ⟨_, rfl, _, rfl, n, p, _, _, rfl, hp, rfl, by omega, hkx, .inl ⟨firstBad_ok hb nd (fun _ _ z => nomatch z), fun H1 s1 => ?_⟩⟩
    have hp1 : SqT K H1 p (is.map V.int) := SqT.of (s1 _ _ hp)
    rw [List.length_map] at hz
    refine ⟨rfl, _, rfl, _, rfl, _, rfl, 1, rfl, ?_⟩
    dsimp only [tNoPart]
    refine slA_R hp1 fun q1 H2 s2 h2 => ?_
    rw [cut_1, ← List.map_drop] at h2
    have s02 := s1.trans s2
    refine ⟨p, q1, is.map Sum.inl, _, rfl, .inr ⟨by rw [map_kV]; exact SqT.of (s02 _ _ hp), h2⟩, fun D n_D => ?_⟩
    rw [kvI_zip]
    obtain ⟨l9, e9, hl9, d9⟩ := dict_of (di_stp nd)
    rw [show is.zip (is.drop 1) = stp2 is from rfl, e9]
    generalize g_D : L2.upd _ D _ = H5
    obtain ⟨s_H5, e_D⟩ := U.upd_facts g_D n_D
    clear g_D
    have hlr : (stp2 is).length ≤ 100 := by unfold stp2; rw [List.length_zip]; omega
    exact fun r dr nr ndr ne => init_of e_D d9 (wf_chn hb nd) n1 n3 (by omega) nr ndr ne fun H6 s6 m6 => ⟨rfl, q r H6 ((s02.trans s_H5).free nr) (s02.trans (s_H5.trans s6)) m6⟩
theorem okX_swap (T : Txt K mg) : FnR P w K mg base (L2.CX P w) 8 T.f_Map_swap (spSwap T.C_Map T.C_InvalidSize T.C_InvalidElement) := by
  refine T.A_Map_swap.okX sc_Map_swap (fun vs H Q E h => ?_) (fun cdv A outer s H vs Q E hr h => ?_)
  · obtain ⟨v, x, y, rfl, _⟩ := h
    rfl
  · obtain ⟨v, x, y, rfl, hkv, hkx, hky, h⟩ := h
    have hu := hu_of hr
    refine ⟨_, (pss_cons (ps_expr (pe_callR (okX_checkZ T) (hr.mono (by decide)) T.A_check_size.kp rfl T.g_check_size (passes_call (takes_of rfl rfl rfl rfl) (fun _ _ _ _ h => h)) (pa_cons (pv 1) pa_nil)))
      (pss_cons (ps_expr (pe_callR (okX_checkEL T) (hr.mono (by decide)) T.A_check_elements.kp rfl T.g_check_elements (passes_call (takes_of rfl rfl rfl rfl) (fun _ _ _ _ h => h)) (pa_cons (pv 1) (pa_cons (pe_lst (pa_cons (pv 2) pa_nil)) pa_nil))))
      (pss_cons (ps_expr (pe_callR (okX_checkEL T) (hr.mono (by decide)) T.A_check_elements.kp rfl T.g_check_elements (passes_call (takes_of rfl rfl rfl rfl) (fun _ _ _ _ h => h)) (pa_cons (pv 1) (pa_cons (pe_lst (pa_cons (pv 3) pa_nil)) pa_nil))))
      (pss_cons (ps_setDc (i := 4) (own := [("element", 5)]) (g := (gName 5)) (tt := tYes) rfl sc_Map_swap.nd rfl rfl (sw_dict rfl rfl rfl (by decide +kernel)) (pi_range1 rfl T.n_range (pa_cons (pv 1) pa_nil)) (blkOk_by (own := [("element", 5)]) (N := n_Map_swap) (sc := defScope s_Map_swap) (by decide +kernel)) (fun _ _ _ _ _ => (pg_name (i := 5) sc_Map_swap.nd rfl (Or.inl rfl))) (fun _ _ _ _ _ => pts_nil) (fun _ _ _ _ _ => (pv 5)) (fun _ _ _ _ _ => (pv 5)))
      (pss_cons (ps_asg (pe_tup (pa_cons (pv 3) (pa_cons (pv 2) pa_nil))) (pg_tup rfl (pgs_cons (pg_sub (pv 4) (pv 2) (set_dict hu)) (pgs_cons (pg_sub (pv 4) (pv 3) (set_dict hu)) pgs_nil))))
      (pss_one (ps_ret (pe_makeL (i := 0) T.M_Map (ok_init T) (hr.mono (by decide)) rfl (Or.inl rfl) pass0 (pa_cons (pv 1) (pa_cons (pv 4) pa_nil)))))))))), ?_⟩
    rcases h with ⟨e, q⟩ | ⟨n, rfl, n1, n3, h⟩
    · exact ⟨_, rfl, v, rfl, hkv, .inr ⟨e, q⟩⟩
    refine ⟨_, rfl, .int n, rfl, trivial, .inl ⟨inR_13 n1 n3, ?_⟩⟩
    refine ⟨_, rfl, _, rfl, one_le, ?_⟩
    refine fun l1 n_l1 => ?_
    generalize g_l1 : L2.upd _ l1 _ = H1
    obtain ⟨s_H1, e_l1⟩ := U.upd_facts g_l1 n_l1
    clear g_l1
    rcases h with ⟨e, q⟩ | ⟨ex, h⟩
    · exact ⟨n, l1, [x], _, rfl, e_l1, rfl, by simp, (fun z hz => by rw [List.mem_singleton] at hz; subst hz; exact hkx.mv s_H1), .inr ⟨x, by rw [firstBad_one, e]; rfl, fun d H' s' nd => q d H' (s_H1.trans s') nd⟩⟩
    refine ⟨n, l1, [x], _, rfl, e_l1, rfl, by simp, (fun z hz => by rw [List.mem_singleton] at hz; subst hz; exact hkx.mv s_H1), .inl ⟨by rw [firstBad_one, ex]; rfl, fun H2 s2 => ?_⟩⟩
    have s02 := s_H1.trans s2
    refine ⟨_, rfl, _, rfl, one_le, ?_⟩
    refine fun l2 n_l2 => ?_
    generalize g_l2 : L2.upd _ l2 _ = H3
    obtain ⟨s_H3, e_l2⟩ := U.upd_facts g_l2 n_l2
    clear g_l2
    have s03 := s02.trans s_H3
    rcases h with ⟨e, q⟩ | ⟨a, b, rfl, rfl, a0, an, b0, bn, q⟩
    · exact ⟨n, l2, [y], _, rfl, e_l2, rfl, by simp, (fun z hz => by rw [List.mem_singleton] at hz; subst hz; exact hky.mv s03), .inr ⟨y, by rw [firstBad_one, e]; rfl, fun d H' s' nd => q d H' (s03.trans s') nd⟩⟩
    have ey : inR (.int b) 0 (n - 1) = true := by simp only [inR, Bool.and_eq_true, decide_eq_true_eq]; omega
    refine ⟨n, l2, [.int b], _, rfl, e_l2, rfl, by simp, (fun z hz => by rw [List.mem_singleton] at hz; subst hz; trivial), .inl ⟨by rw [firstBad_one, ey]; rfl, fun H4 s4 => ?_⟩⟩
    have s04 := s03.trans s4
    dsimp only [tNext, tSeq, tAsg, gName]
    refine dc_range (n := n.toNat) (fun _ => true) (fun k => .int k) (fun R r => ⟨_, rfl, n, rfl, by omega, by omega, r⟩) (fun _ => rfl) ?_ (small1000 (by omega)) ?_
    · intro k hk H5 s5
      refine ⟨fun R r => r, fun _ => ⟨fun R r => ⟨_, rfl, ?_⟩, fun R r => ⟨_, rfl, ?_⟩⟩⟩
      · rw [Int.zero_add]; exact r
      · rw [Int.zero_add]; exact r
    · intro D H5 nD hD s5
      rw [madeR_id] at hD
      have e : ((n.toNat : Nat) : Int) = n := Int.toNat_of_nonneg (by omega)
      have di := di_id n.toNat
      rw [e] at di
      have hl0 : ((List.range n.toNat).map fun (i : Nat) => ((i : Int), (i : Int))).length ≤ 300 := by rw [List.length_map, List.length_range]; omega
      refine ⟨_, rfl, _, rfl, two_le, ?_⟩
      refine fun t n_t => ?_
      generalize g_t : L2.upd _ t _ = H6
      obtain ⟨s_H6, e_t⟩ := U.upd_facts g_t n_t
      clear g_t
      refine ⟨t, _, rfl, SqT.of e_t, rfl, _, _, rfl, _, rfl, _, rfl, D, _, rfl, DPut.k (k := Sum.inl a) (s_H6 _ _ hD) (lt_line (by rw [kvI_length]; omega)), ?_⟩
      obtain ⟨la, ea, hla, da⟩ := di_putS di a b
      rw [ea]
      generalize g_H7 : L2.upd _ D _ = H7
      obtain ⟨o_H7, e_H7⟩ := st_facts g_H7
      clear g_H7
      refine ⟨_, _, rfl, _, rfl, _, rfl, D, _, rfl, DPut.k (k := Sum.inl b) e_H7 (lt_line (by rw [kvI_length]; omega)), ?_⟩
      obtain ⟨lb, eb, hlb, db⟩ := di_putS da b a
      rw [eb]
      generalize g_H8 : L2.upd _ D _ = H8
      obtain ⟨o_H8, e_H8⟩ := st_facts g_H8
      clear g_H8
      have hf : (fun z => if z = b then some a else if z = a then some b else idn n z) = swp n a b := rfl
      rw [hf] at db
      have nD0 : H D = none := s04.free nD
      have s08 : Same H H8 := fun c o e => o_H8 _ _ (ne_of_none e nD0) (o_H7 _ _ (ne_of_none e nD0) (s_H6 _ _ (s5 _ _ (s04 _ _ e))))
      refine ⟨rfl, rfl, _, rfl, _, rfl, ?_⟩
      exact fun r dr nr ndr ne => init_of e_H8 db (wf_swp ⟨a0, an⟩ ⟨b0, bn⟩) n1 n3 (by omega) nr ndr ne fun H9 s9 m9 => ⟨rfl, q r H9 (s08.free nr) (s08.trans s9) m9⟩
end
end My
namespace My
open PySem L2 U StX PM
/-! ### made maps; what is refused -/
def QM (C : Addr) (H : Hp) (n : Int) (f : PF) (Q : VK) : Prop := ∀ r H', H r = none → Same H H' → IsMap C H' r n f → Q (.ref r) H'
def MadeR (C CS CE : Addr) (H : Hp) (v : V) (xs : List V) (op : List Int → PF) (Q : VK) (E : XK) : Prop :=
  (inR v 1 300 = false ∧ tld CS "value" v H E) ∨ ∃ n, v = .int n ∧ 1 ≤ n ∧ n ≤ 300 ∧ ((∃ x, firstBad n [] xs = some x ∧ tld CE "value" x H E) ∨ ∃ is : List Int, xs = is.map V.int ∧ (∀ i ∈ is, 0 ≤ i ∧ i < n) ∧ is.Nodup ∧ QM C H n (op is) Q)
def MadeZ (C CS : Addr) (H : Hp) (v : V) (op : Int → PF) (Q : VK) (E : XK) : Prop :=
  (inR v 1 300 = false ∧ tld CS "value" v H E) ∨ ∃ n, v = .int n ∧ 1 ≤ n ∧ n ≤ 300 ∧ QM C H n (op n) Q
def MadeS (C CS CE : Addr) (H : Hp) (v x y : V) (Q : VK) (E : XK) : Prop :=
  (inR v 1 300 = false ∧ tld CS "value" v H E) ∨ ∃ n, v = .int n ∧ 1 ≤ n ∧ n ≤ 300 ∧ ((inR x 0 (n - 1) = false ∧ tld CE "value" x H E) ∨ (inR x 0 (n - 1) = true ∧ ((inR y 0 (n - 1) = false ∧ tld CE "value" y H E) ∨ ∃ a b : Int, x = .int a ∧ y = .int b ∧ 0 ≤ a ∧ a < n ∧ 0 ≤ b ∧ b < n ∧ QM C H n (swp n a b) Q)))
def spMade (C CS CE : Addr) : Sp := fun vs H Q E => ∃ (d : Int) (v r : V), vs = [.int d, v, r] ∧ knownV C H v ∧
  ((d = 0 ∧ MadeZ C CS H v idn Q E) ∨ (d = 1 ∧ MadeZ C CS H v (fun _ => emp) Q E) ∨
   ∃ (a : Addr) (xs : List V), r = .ref a ∧ H a = some (.lst xs) ∧ (∀ x ∈ xs, knownV C H x) ∧
     ((d = 2 ∧ ∃ x y r, xs = x :: y :: r ∧ MadeS C CS CE H v x y Q E) ∨ (d = 3 ∧ xs.length ≤ 4 ∧ MadeR C CS CE H v xs chn Q E) ∨ (d = 4 ∧ xs.length ≤ 4 ∧ MadeR C CS CE H v xs cyc Q E)))
theorem QM.imp {C : Addr} {H : Hp} {n : Int} {f : PF} {Q Q2 : VK} (h : QM C H n f Q) (k : ∀ v H', Q v H' → Q2 v H') : QM C H n f Q2 := fun r H' a b c => k _ _ (h r H' a b c)
theorem tld.imp {CE : Addr} {fld : Str} {x : V} {H : Hp} {E E2 : XK} (h : tld CE fld x H E) (k : ∀ c d H', E c d H' → E2 c d H') : tld CE fld x H E2 := fun d H' a b => k _ _ _ (h d H' a b)
theorem spMade_imp {C CS CE : Addr} {vs : List V} {H : Hp} {Q Q2 : VK} {E E2 : XK} (h : spMade C CS CE vs H Q E) (k : ∀ v H', Q v H' → Q2 v H') (l : ∀ c d H', E c d H' → E2 c d H') : spMade C CS CE vs H Q2 E2 := by
  obtain ⟨d, v, r, e, hk, h⟩ := h
  refine ⟨d, v, r, e, hk, ?_⟩
  have z : ∀ op, MadeZ C CS H v op Q E → MadeZ C CS H v op Q2 E2 := fun op h => by
    rcases h with ⟨a, b⟩ | ⟨n, a, b, c, q⟩
    · exact .inl ⟨a, b.imp l⟩
    · exact .inr ⟨n, a, b, c, q.imp k⟩
  have zr : ∀ xs op, MadeR C CS CE H v xs op Q E → MadeR C CS CE H v xs op Q2 E2 := fun xs op h => by
    rcases h with ⟨a, b⟩ | ⟨n, a, b, c, ⟨x, e, q⟩ | ⟨is, e, f, g, q⟩⟩
    · exact .inl ⟨a, b.imp l⟩
    · exact .inr ⟨n, a, b, c, .inl ⟨x, e, q.imp l⟩⟩
    · exact .inr ⟨n, a, b, c, .inr ⟨is, e, f, g, q.imp k⟩⟩
  rcases h with ⟨a, h⟩ | ⟨a, h⟩ | ⟨a, xs, e1, e2, e3, ⟨a1, x, y, rr, e4, h⟩ | ⟨a1, a2, h⟩ | ⟨a1, a2, h⟩⟩
  · exact .inl ⟨a, z _ h⟩
  · exact .inr (.inl ⟨a, z _ h⟩)
  · refine .inr (.inr ⟨a, xs, e1, e2, e3, .inl ⟨a1, x, y, rr, e4, ?_⟩⟩)
    rcases h with ⟨a, b⟩ | ⟨n, a, b, c, ⟨d, q⟩ | ⟨d, ⟨f, q⟩ | ⟨i, j, f1, f2, f3, f4, f5, f6, q⟩⟩⟩
    · exact .inl ⟨a, b.imp l⟩
    · exact .inr ⟨n, a, b, c, .inl ⟨d, q.imp l⟩⟩
    · exact .inr ⟨n, a, b, c, .inr ⟨d, .inl ⟨f, q.imp l⟩⟩⟩
    · exact .inr ⟨n, a, b, c, .inr ⟨d, .inr ⟨i, j, f1, f2, f3, f4, f5, f6, q.imp k⟩⟩⟩
  · exact .inr (.inr ⟨a, xs, e1, e2, e3, .inr (.inl ⟨a1, a2, zr _ _ h⟩)⟩)
  · exact .inr (.inr ⟨a, xs, e1, e2, e3, .inr (.inr ⟨a1, a2, zr _ _ h⟩)⟩)
theorem QM.mv {C : Addr} {H H' : Hp} {n : Int} {f : PF} {Q : VK} (h : QM C H n f Q) (s : Same H H') : QM C H' n f Q := fun r H2 a b c => h r H2 (s.free a) (s.trans b) c
theorem tld.mv {CE : Addr} {fld : Str} {x : V} {H H' : Hp} {E : XK} (h : tld CE fld x H E) (s : Same H H') : tld CE fld x H' E := fun d H2 a b => h d H2 (s.trans a) b
/-- the arguments of a star def: the tuple is new -/
theorem star_R {C CS CE : Addr} {H : Hp} {v : V} {xs : List V} {op : List Int → PF} {Q : VK} {E : XK} (hk : knownV C H v) (hx : ∀ x ∈ xs, knownV C H x) (hl : xs.length ≤ 4) (h : MadeR C CS CE H v xs op Q E) : spStar 2 (spCyc C CS CE op) ([.ref C, v] ++ xs) H Q E := by
  refine ⟨[.ref C, v], xs, rfl, rfl, le_line (by omega), fun p np => ?_⟩
  have s := Same.new (o := .tup xs) np
  refine ⟨v, p, xs, rfl, upd_same, by omega, hk.mv s, fun x m => (hx x m).mv s, ?_⟩
  rcases h with ⟨a, b⟩ | ⟨n, a, b, c, ⟨x, e, q⟩ | ⟨is, e, f, g, q⟩⟩
  · exact .inl ⟨a, b.mv s⟩
  · exact .inr ⟨n, a, b, c, .inl ⟨x, e, q.mv s⟩⟩
  · exact .inr ⟨n, a, b, c, .inr ⟨is, e, f, g, q.mv s⟩⟩
section
variable {P : Program} {w : World} {K : PySem.W.Frag} {mg : Str → Option Value} {base : Heap}
theorem okX_made (T : Txt K mg) : FnR P w K mg base (L2.CX P w) 10 T.f_l_made (spMade T.C_Map T.C_InvalidSize T.C_InvalidElement) := by
  refine T.A_l_made.okX sc_l_made (fun vs H Q E h => ?_) (fun cdv A outer s H vs Q E hr h => ?_)
  · obtain ⟨d, v, r, rfl, _⟩ := h
    rfl
  · obtain ⟨d, v, r, rfl, hk, h⟩ := h
    refine ⟨_, (pss_cons (ps_if (pt_cmpR op_eq (pv 0) pe_int (nomark _))
        (pss_one (ps_ret (ClX.pe_cmeth (pe_glob (v := .ref T.C_Map) rfl T.g_Map rfl) T.R_Map T.cm_Map_identity (fnR_or2 (fnR_any (ok_identity T)) (okE_identity T)) (hr.mono (by decide)) (passes_call (takes_of rfl rfl rfl rfl) (fun _ _ _ _ h => h)) (pa_cons (pv 1) pa_nil)))) pss_nil)
      (pss_cons (ps_if (pt_cmpR op_eq (pv 0) pe_int (nomark _))
        (pss_one (ps_ret (ClX.pe_cmeth (pe_glob (v := .ref T.C_Map) rfl T.g_Map rfl) T.R_Map T.cm_Map_empty (fnR_or2 (fnR_any (ok_empty T)) (okE_empty T)) (hr.mono (by decide)) (passes_call (takes_of rfl rfl rfl rfl) (fun _ _ _ _ h => h)) (pa_cons (pv 1) pa_nil)))) pss_nil)
      (pss_cons (ps_if (pt_cmpR op_eq (pv 0) pe_int (nomark _))
        (pss_one (ps_ret (ClX.pe_cmeth (pe_glob (v := .ref T.C_Map) rfl T.g_Map rfl) T.R_Map T.cm_Map_swap (okX_swap T) (hr.mono (by decide)) (passes_call (takes_of rfl rfl rfl rfl) (fun _ _ _ _ h => h)) (pa_cons (pv 1) (pa_cons (pe_ix ix_list (pv 2) pe_int (fun _ _ => rfl)) (pa_cons (pe_ix ix_list (pv 2) pe_int (fun _ _ => rfl)) pa_nil)))))) pss_nil)
      (pss_cons (ps_if (pt_cmpR op_eq (pe_callB call_len_seq (by rfl) T.n_len (by decide +kernel) (pa_cons (pv 2) pa_nil)) pe_int (nomark _))
        (pss_one (ps_ret (pe_ifExp (pt_cmpR op_eq (pv 0) pe_int (nomark _)) (ClX.pe_cmeth (pe_glob (v := .ref T.C_Map) rfl T.g_Map rfl) T.R_Map T.cm_Map_chain (okX_chain T) (hr.mono (by decide)) (passes_call (takes_of rfl rfl rfl rfl) (fun _ _ _ _ h => h)) (pa_cons (pv 1) pa_nil)) (ClX.pe_cmeth (pe_glob (v := .ref T.C_Map) rfl T.g_Map rfl) T.R_Map T.cm_Map_cycle (okX_cycle T) (hr.mono (by decide)) (passes_call (takes_of rfl rfl rfl rfl) (fun _ _ _ _ h => h)) (pa_cons (pv 1) pa_nil))))) pss_nil)
      (pss_cons (ps_if (pt_cmpR op_eq (pe_callB call_len_seq (by rfl) T.n_len (by decide +kernel) (pa_cons (pv 2) pa_nil)) pe_int (nomark _))
        (pss_one (ps_ret (pe_ifExp (pt_cmpR op_eq (pv 0) pe_int (nomark _)) (ClX.pe_cmeth (pe_glob (v := .ref T.C_Map) rfl T.g_Map rfl) T.R_Map T.cm_Map_chain (okX_chain T) (hr.mono (by decide)) (passes_call (takes_of rfl rfl rfl rfl) (fun _ _ _ _ h => h)) (pa_cons (pv 1) (pa_cons (pe_ix ix_list (pv 2) pe_int (fun _ _ => rfl)) pa_nil))) (ClX.pe_cmeth (pe_glob (v := .ref T.C_Map) rfl T.g_Map rfl) T.R_Map T.cm_Map_cycle (okX_cycle T) (hr.mono (by decide)) (passes_call (takes_of rfl rfl rfl rfl) (fun _ _ _ _ h => h)) (pa_cons (pv 1) (pa_cons (pe_ix ix_list (pv 2) pe_int (fun _ _ => rfl)) pa_nil)))))) pss_nil)
      (pss_cons (ps_if (pt_cmpR op_eq (pe_callB call_len_seq (by rfl) T.n_len (by decide +kernel) (pa_cons (pv 2) pa_nil)) pe_int (nomark _))
        (pss_one (ps_ret (pe_ifExp (pt_cmpR op_eq (pv 0) pe_int (nomark _)) (ClX.pe_cmeth (pe_glob (v := .ref T.C_Map) rfl T.g_Map rfl) T.R_Map T.cm_Map_chain (okX_chain T) (hr.mono (by decide)) (passes_call (takes_of rfl rfl rfl rfl) (fun _ _ _ _ h => h)) (pa_cons (pv 1) (pa_cons (pe_ix ix_list (pv 2) pe_int (fun _ _ => rfl)) (pa_cons (pe_ix ix_list (pv 2) pe_int (fun _ _ => rfl)) pa_nil)))) (ClX.pe_cmeth (pe_glob (v := .ref T.C_Map) rfl T.g_Map rfl) T.R_Map T.cm_Map_cycle (okX_cycle T) (hr.mono (by decide)) (passes_call (takes_of rfl rfl rfl rfl) (fun _ _ _ _ h => h)) (pa_cons (pv 1) (pa_cons (pe_ix ix_list (pv 2) pe_int (fun _ _ => rfl)) (pa_cons (pe_ix ix_list (pv 2) pe_int (fun _ _ => rfl)) pa_nil))))))) pss_nil)
      (pss_cons (ps_if (pt_cmpR op_eq (pe_callB call_len_seq (by rfl) T.n_len (by decide +kernel) (pa_cons (pv 2) pa_nil)) pe_int (nomark _))
        (pss_one (ps_ret (pe_ifExp (pt_cmpR op_eq (pv 0) pe_int (nomark _)) (ClX.pe_cmeth (pe_glob (v := .ref T.C_Map) rfl T.g_Map rfl) T.R_Map T.cm_Map_chain (okX_chain T) (hr.mono (by decide)) (passes_call (takes_of rfl rfl rfl rfl) (fun _ _ _ _ h => h)) (pa_cons (pv 1) (pa_cons (pe_ix ix_list (pv 2) pe_int (fun _ _ => rfl)) (pa_cons (pe_ix ix_list (pv 2) pe_int (fun _ _ => rfl)) (pa_cons (pe_ix ix_list (pv 2) pe_int (fun _ _ => rfl)) pa_nil))))) (ClX.pe_cmeth (pe_glob (v := .ref T.C_Map) rfl T.g_Map rfl) T.R_Map T.cm_Map_cycle (okX_cycle T) (hr.mono (by decide)) (passes_call (takes_of rfl rfl rfl rfl) (fun _ _ _ _ h => h)) (pa_cons (pv 1) (pa_cons (pe_ix ix_list (pv 2) pe_int (fun _ _ => rfl)) (pa_cons (pe_ix ix_list (pv 2) pe_int (fun _ _ => rfl)) (pa_cons (pe_ix ix_list (pv 2) pe_int (fun _ _ => rfl)) pa_nil)))))))) pss_nil)
      (pss_cons (ps_if (pt_cmpR op_eq (pv 0) pe_int (nomark _))
        (pss_one (ps_ret (ClX.pe_cmeth (pe_glob (v := .ref T.C_Map) rfl T.g_Map rfl) T.R_Map T.cm_Map_chain (okX_chain T) (hr.mono (by decide)) (passes_call (takes_of rfl rfl rfl rfl) (fun _ _ _ _ h => h)) (pa_cons (pv 1) (pa_cons (pe_ix ix_list (pv 2) pe_int (fun _ _ => rfl)) (pa_cons (pe_ix ix_list (pv 2) pe_int (fun _ _ => rfl)) (pa_cons (pe_ix ix_list (pv 2) pe_int (fun _ _ => rfl)) (pa_cons (pe_ix ix_list (pv 2) pe_int (fun _ _ => rfl)) pa_nil)))))))) pss_nil)
      (pss_one (ps_ret (ClX.pe_cmeth (pe_glob (v := .ref T.C_Map) rfl T.g_Map rfl) T.R_Map T.cm_Map_cycle (okX_cycle T) (hr.mono (by decide)) (passes_call (takes_of rfl rfl rfl rfl) (fun _ _ _ _ h => h)) (pa_cons (pv 1) (pa_cons (pe_ix ix_list (pv 2) pe_int (fun _ _ => rfl)) (pa_cons (pe_ix ix_list (pv 2) pe_int (fun _ _ => rfl)) (pa_cons (pe_ix ix_list (pv 2) pe_int (fun _ _ => rfl)) (pa_cons (pe_ix ix_list (pv 2) pe_int (fun _ _ => rfl)) pa_nil)))))))))))))))), ?_⟩
    have nz : ∀ {i j : Int}, i ≠ j → ¬ V.int i = V.int j := fun h z => h (V.int.inj z)
    rcases h with ⟨rfl, h⟩ | ⟨rfl, h⟩ | ⟨a, xs, rfl, ha, hx, h⟩
    · refine ⟨_, rfl, rfl, _, rfl, ifD (fun _ => ?_) (fun z => absurd rfl z)⟩
      rcases h with ⟨e, q⟩ | ⟨n, rfl, n1, n3, q⟩
      · exact ⟨rfl, _, rfl, .inr ⟨v, rfl, hk, e, q⟩⟩
      · exact ⟨rfl, _, rfl, .inl ⟨n, rfl, n1, n3, q⟩⟩
    · refine ⟨_, rfl, rfl, _, rfl, ifD (fun z => absurd z (nz (by decide))) (fun _ => ?_)⟩
      refine ⟨_, rfl, rfl, _, rfl, ifD (fun _ => ?_) (fun z => absurd rfl z)⟩
      rcases h with ⟨e, q⟩ | ⟨n, rfl, n1, n3, q⟩
      · exact ⟨rfl, _, rfl, .inr ⟨v, rfl, hk, e, q⟩⟩
      · exact ⟨rfl, _, rfl, .inl ⟨n, rfl, n1, n3, q⟩⟩
    · rcases h with ⟨rfl, x0, x1, r, rfl, h⟩ | ⟨rfl, hl, h⟩ | ⟨rfl, hl, h⟩
      · refine ⟨_, rfl, rfl, _, rfl, ifD (fun z => absurd z (nz (by decide))) (fun _ => ?_)⟩
        refine ⟨_, rfl, rfl, _, rfl, ifD (fun z => absurd z (nz (by decide))) (fun _ => ?_)⟩
        refine ⟨_, rfl, rfl, _, rfl, ifD (fun _ => ?_) (fun z => absurd rfl z)⟩
        exact ⟨rfl, _, rfl, _, rfl, a, _, 0, x0, rfl, rfl, SqL.of ha, atI_nat (j := 0) rfl, _, rfl, a, _, 1, x1, rfl, rfl, SqL.of ha, atI_nat (j := 1) rfl, v, x0, x1, rfl, hk, hx _ (List.mem_cons_self ..), hx _ (List.mem_cons_of_mem _ (List.mem_cons_self ..)), h⟩
      · refine ⟨_, rfl, rfl, _, rfl, ifD (fun z => absurd z (nz (by decide))) (fun _ => ?_)⟩
        refine ⟨_, rfl, rfl, _, rfl, ifD (fun z => absurd z (nz (by decide))) (fun _ => ?_)⟩
        refine ⟨_, rfl, rfl, _, rfl, ifD (fun z => absurd z (nz (by decide))) (fun _ => ?_)⟩
        rcases xs with _ | ⟨x0, _ | ⟨x1, _ | ⟨x2, _ | ⟨x3, _ | ⟨x4, r⟩⟩⟩⟩⟩
        · refine ⟨_, rfl, a, _, rfl, .inl (SqL.of ha), rfl, _, rfl, ifD (fun _ => ?_) (fun z => absurd rfl z)⟩
          refine ⟨_, rfl, rfl, _, rfl, ifD (fun _ => ?_) (fun z => absurd rfl z)⟩
          exact ⟨rfl, _, rfl, star_R hk hx (by simp) h⟩
        · refine ⟨_, rfl, a, _, rfl, .inl (SqL.of ha), rfl, _, rfl, ifD (fun z => absurd z (nz (by simp))) (fun _ => ?_)⟩
          refine ⟨_, rfl, a, _, rfl, .inl (SqL.of ha), rfl, _, rfl, ifD (fun _ => ?_) (fun z => absurd rfl z)⟩
          refine ⟨_, rfl, rfl, _, rfl, ifD (fun _ => ?_) (fun z => absurd rfl z)⟩
          exact ⟨rfl, _, rfl, _, rfl, a, _, 0, x0, rfl, rfl, SqL.of ha, rfl, star_R hk hx (by simp) h⟩
        · refine ⟨_, rfl, a, _, rfl, .inl (SqL.of ha), rfl, _, rfl, ifD (fun z => absurd z (nz (by simp))) (fun _ => ?_)⟩
          refine ⟨_, rfl, a, _, rfl, .inl (SqL.of ha), rfl, _, rfl, ifD (fun z => absurd z (nz (by simp))) (fun _ => ?_)⟩
          refine ⟨_, rfl, a, _, rfl, .inl (SqL.of ha), rfl, _, rfl, ifD (fun _ => ?_) (fun z => absurd rfl z)⟩
          refine ⟨_, rfl, rfl, _, rfl, ifD (fun _ => ?_) (fun z => absurd rfl z)⟩
          exact ⟨rfl, _, rfl, _, rfl, a, _, 0, x0, rfl, rfl, SqL.of ha, rfl, _, rfl, a, _, 1, x1, rfl, rfl, SqL.of ha, rfl, star_R hk hx (by simp) h⟩
        · refine ⟨_, rfl, a, _, rfl, .inl (SqL.of ha), rfl, _, rfl, ifD (fun z => absurd z (nz (by simp))) (fun _ => ?_)⟩
          refine ⟨_, rfl, a, _, rfl, .inl (SqL.of ha), rfl, _, rfl, ifD (fun z => absurd z (nz (by simp))) (fun _ => ?_)⟩
          refine ⟨_, rfl, a, _, rfl, .inl (SqL.of ha), rfl, _, rfl, ifD (fun z => absurd z (nz (by simp))) (fun _ => ?_)⟩
          refine ⟨_, rfl, a, _, rfl, .inl (SqL.of ha), rfl, _, rfl, ifD (fun _ => ?_) (fun z => absurd rfl z)⟩
          refine ⟨_, rfl, rfl, _, rfl, ifD (fun _ => ?_) (fun z => absurd rfl z)⟩
          exact ⟨rfl, _, rfl, _, rfl, a, _, 0, x0, rfl, rfl, SqL.of ha, rfl, _, rfl, a, _, 1, x1, rfl, rfl, SqL.of ha, rfl, _, rfl, a, _, 2, x2, rfl, rfl, SqL.of ha, rfl, star_R hk hx (by simp) h⟩
        · refine ⟨_, rfl, a, _, rfl, .inl (SqL.of ha), rfl, _, rfl, ifD (fun z => absurd z (nz (by simp))) (fun _ => ?_)⟩
          refine ⟨_, rfl, a, _, rfl, .inl (SqL.of ha), rfl, _, rfl, ifD (fun z => absurd z (nz (by simp))) (fun _ => ?_)⟩
          refine ⟨_, rfl, a, _, rfl, .inl (SqL.of ha), rfl, _, rfl, ifD (fun z => absurd z (nz (by simp))) (fun _ => ?_)⟩
          refine ⟨_, rfl, a, _, rfl, .inl (SqL.of ha), rfl, _, rfl, ifD (fun z => absurd z (nz (by simp))) (fun _ => ?_)⟩
          refine ⟨_, rfl, rfl, _, rfl, ifD (fun _ => ?_) (fun z => absurd rfl z)⟩
          exact ⟨rfl, _, rfl, _, rfl, a, _, 0, x0, rfl, rfl, SqL.of ha, rfl, _, rfl, a, _, 1, x1, rfl, rfl, SqL.of ha, rfl, _, rfl, a, _, 2, x2, rfl, rfl, SqL.of ha, rfl, _, rfl, a, _, 3, x3, rfl, rfl, SqL.of ha, rfl, star_R hk hx (by simp) h⟩
        · simp only [List.length_cons] at hl
          omega
      · refine ⟨_, rfl, rfl, _, rfl, ifD (fun z => absurd z (nz (by decide))) (fun _ => ?_)⟩
        refine ⟨_, rfl, rfl, _, rfl, ifD (fun z => absurd z (nz (by decide))) (fun _ => ?_)⟩
        refine ⟨_, rfl, rfl, _, rfl, ifD (fun z => absurd z (nz (by decide))) (fun _ => ?_)⟩
        rcases xs with _ | ⟨x0, _ | ⟨x1, _ | ⟨x2, _ | ⟨x3, _ | ⟨x4, r⟩⟩⟩⟩⟩
        · refine ⟨_, rfl, a, _, rfl, .inl (SqL.of ha), rfl, _, rfl, ifD (fun _ => ?_) (fun z => absurd rfl z)⟩
          refine ⟨_, rfl, rfl, _, rfl, ifD (fun z => absurd z (nz (by decide))) (fun _ => ?_)⟩
          exact ⟨rfl, _, rfl, star_R hk hx (by simp) h⟩
        · refine ⟨_, rfl, a, _, rfl, .inl (SqL.of ha), rfl, _, rfl, ifD (fun z => absurd z (nz (by simp))) (fun _ => ?_)⟩
          refine ⟨_, rfl, a, _, rfl, .inl (SqL.of ha), rfl, _, rfl, ifD (fun _ => ?_) (fun z => absurd rfl z)⟩
          refine ⟨_, rfl, rfl, _, rfl, ifD (fun z => absurd z (nz (by decide))) (fun _ => ?_)⟩
          exact ⟨rfl, _, rfl, _, rfl, a, _, 0, x0, rfl, rfl, SqL.of ha, rfl, star_R hk hx (by simp) h⟩
        · refine ⟨_, rfl, a, _, rfl, .inl (SqL.of ha), rfl, _, rfl, ifD (fun z => absurd z (nz (by simp))) (fun _ => ?_)⟩
          refine ⟨_, rfl, a, _, rfl, .inl (SqL.of ha), rfl, _, rfl, ifD (fun z => absurd z (nz (by simp))) (fun _ => ?_)⟩
          refine ⟨_, rfl, a, _, rfl, .inl (SqL.of ha), rfl, _, rfl, ifD (fun _ => ?_) (fun z => absurd rfl z)⟩
          refine ⟨_, rfl, rfl, _, rfl, ifD (fun z => absurd z (nz (by decide))) (fun _ => ?_)⟩
          exact ⟨rfl, _, rfl, _, rfl, a, _, 0, x0, rfl, rfl, SqL.of ha, rfl, _, rfl, a, _, 1, x1, rfl, rfl, SqL.of ha, rfl, star_R hk hx (by simp) h⟩
        · refine ⟨_, rfl, a, _, rfl, .inl (SqL.of ha), rfl, _, rfl, ifD (fun z => absurd z (nz (by simp))) (fun _ => ?_)⟩
          refine ⟨_, rfl, a, _, rfl, .inl (SqL.of ha), rfl, _, rfl, ifD (fun z => absurd z (nz (by simp))) (fun _ => ?_)⟩
          refine ⟨_, rfl, a, _, rfl, .inl (SqL.of ha), rfl, _, rfl, ifD (fun z => absurd z (nz (by simp))) (fun _ => ?_)⟩
          refine ⟨_, rfl, a, _, rfl, .inl (SqL.of ha), rfl, _, rfl, ifD (fun _ => ?_) (fun z => absurd rfl z)⟩
          refine ⟨_, rfl, rfl, _, rfl, ifD (fun z => absurd z (nz (by decide))) (fun _ => ?_)⟩
          exact ⟨rfl, _, rfl, _, rfl, a, _, 0, x0, rfl, rfl, SqL.of ha, rfl, _, rfl, a, _, 1, x1, rfl, rfl, SqL.of ha, rfl, _, rfl, a, _, 2, x2, rfl, rfl, SqL.of ha, rfl, star_R hk hx (by simp) h⟩
        · refine ⟨_, rfl, a, _, rfl, .inl (SqL.of ha), rfl, _, rfl, ifD (fun z => absurd z (nz (by simp))) (fun _ => ?_)⟩
          refine ⟨_, rfl, a, _, rfl, .inl (SqL.of ha), rfl, _, rfl, ifD (fun z => absurd z (nz (by simp))) (fun _ => ?_)⟩
          refine ⟨_, rfl, a, _, rfl, .inl (SqL.of ha), rfl, _, rfl, ifD (fun z => absurd z (nz (by simp))) (fun _ => ?_)⟩
          refine ⟨_, rfl, a, _, rfl, .inl (SqL.of ha), rfl, _, rfl, ifD (fun z => absurd z (nz (by simp))) (fun _ => ?_)⟩
          refine ⟨_, rfl, rfl, _, rfl, ifD (fun z => absurd z (nz (by decide))) (fun _ => ?_)⟩
          exact ⟨rfl, _, rfl, _, rfl, a, _, 0, x0, rfl, rfl, SqL.of ha, rfl, _, rfl, a, _, 1, x1, rfl, rfl, SqL.of ha, rfl, _, rfl, a, _, 2, x2, rfl, rfl, SqL.of ha, rfl, _, rfl, a, _, 3, x3, rfl, rfl, SqL.of ha, rfl, star_R hk hx (by simp) h⟩
        · simp only [List.length_cons] at hl
          omega
end
end My
namespace My
open PySem L2 U StX PM
def ERefu {K : PySem.W.Frag} {mg : Str → Option Value} (T : Txt K mg) (Q : VK) : XK := fun cls d H' => ∃ dd v z, d = some dd ∧ H' dd = some (.xd [("value", v)]) ∧ Rp6 K T.C_Map H' v z ∧
  ((cls = .ref T.C_InvalidSize ∧ ∀ p H'', Same H' H'' → H' p = none → H'' p = some (.lst [.str "size", .bl true, .str z]) → Q (.ref p) H'') ∨
   (cls = .ref T.C_InvalidElement ∧ ∀ p H'', Same H' H'' → H' p = none → H'' p = some (.lst [.str "element", .bl true, .str z]) → Q (.ref p) H''))
def spRefu {K : PySem.W.Frag} {mg : Str → Option Value} (T : Txt K mg) : Sp := fun vs H Q _ => spMade T.C_Map T.C_InvalidSize T.C_InvalidElement vs H (fun _ H' => Q (.str "told") H') (ERefu T Q)
def spMixd : Sp := fun vs H Q _ => ∃ (p : Addr) (n : Int), vs = [.ref p, .int n] ∧ PoolAt H p ∧ 1 ≤ n ∧ n ≤ 300 ∧
  ∀ r H' (is : List Int), H r = none → H' r = some (.lst (is.map V.int)) → is.Nodup → (∀ i ∈ is, 0 ≤ i ∧ i < n) → is.length ≤ 4 → PoolAt H' p → Off p H H' → Q (.ref r) H'
theorem erase_map {α β : Type} (f : α → β) (xs : List α) (k : Nat) : (xs.map f).eraseIdx k = (xs.eraseIdx k).map f := by
  rw [List.eraseIdx_eq_take_drop_succ, List.eraseIdx_eq_take_drop_succ, List.map_append, List.map_take, List.map_drop]
theorem perm_move {fs ls : List Int} {k : Nat} {y : Int} (h : ls[k]? = some y) : (fs ++ ls).Perm ((fs ++ [y]) ++ ls.eraseIdx k) := by
  obtain ⟨hk, e⟩ := List.getElem?_eq_some_iff.mp h
  have e1 : ls = ls.take k ++ y :: ls.drop (k + 1) := by
    rw [← e]
    simp
  rw [List.eraseIdx_eq_take_drop_succ, List.append_assoc]
  refine List.Perm.append_left fs ?_
  conv => lhs; rw [e1]
  exact List.perm_middle
section
variable {P : Program} {w : World} {K : PySem.W.Frag} {mg : Str → Option Value} {base : Heap}
theorem ok_refu (T : Txt K mg) : FnG P w K mg base CX0 14 T.f_l_refused (spRefu T) := by
  refine T.A_l_refused.okG sc_l_refused (fun vs H Q E h => ?_) (fun cdv A outer s H vs Q E gd hr h => ?_)
  · obtain ⟨d, v, r, rfl, _⟩ := h
    rfl
  · have hu := hu_of hr
    obtain ⟨d, v, r, rfl, h0⟩ := id h
    refine ⟨_, (pss_cons (ps_try_manyA rfl rfl sc_l_refused.nd L2.takes0 (fun W pn xe tk _ => (pss_one (ps_expr (pe_callRS (okX_made T) (hr.mono (by decide)) T.A_l_made.kp rfl T.g_l_made (fun σ => passAt tk σ) (pa_cons (pv 0) (pa_cons (pv 1) (pa_cons (pv 2) pa_nil))))))) (.cons (i := 3) rfl rfl ⟨rfl, by decide, .inl T.g_InvalidSize⟩ (fun a oe cls d pn hz hf => (pss_one (ps_ret (pe_lst (pa_cons pe_str (pa_cons (pe_callB (call_isH T.xe_InvalidSize hz hf) (by rfl) T.n_isinstance (by decide +kernel) (pa_cons (pv 3) (pa_cons (pe_bltn (v := .ty "ValueError") (u := .type "ValueError") (by rfl) T.n_ValueError (by decide +kernel) rfl) pa_nil))) (pa_cons (pe_callB (callR_or (r1 := fun xs H Q => rRepr K xs H Q ∨ rReprO T.C_Map (spRepr T.C_Map) E0 xs H Q) (r2 := rReprF) (callR_or (r1 := rRepr K) (r2 := rReprO T.C_Map (spRepr T.C_Map) E0) (call_repr gd hr.units) (call_reprOH gd T.m_Map__repr T.i_Map__repr (ok_reprH T) (roomS (k := 6) (hr.mono (by decide))) pass0)) (call_reprF gd hr.units)) (by rfl) T.n_repr (by decide +kernel) (pa_cons (pe_xf T.xf_InvalidSize T.na_value_InvalidSize hz hf (pv 3)) pa_nil)) pa_nil))))))) (.cons (i := 3) rfl rfl ⟨rfl, by decide, .inl T.g_InvalidElement⟩ (fun a oe cls d pn hz hf => (pss_one (ps_ret (pe_lst (pa_cons pe_str (pa_cons (pe_callB (call_isH T.xe_InvalidElement hz hf) (by rfl) T.n_isinstance (by decide +kernel) (pa_cons (pv 3) (pa_cons (pe_bltn (v := .ty "ValueError") (u := .type "ValueError") (by rfl) T.n_ValueError (by decide +kernel) rfl) pa_nil))) (pa_cons (pe_callB (callR_or (r1 := fun xs H Q => rRepr K xs H Q ∨ rReprO T.C_Map (spRepr T.C_Map) E0 xs H Q) (r2 := rReprF) (callR_or (r1 := rRepr K) (r2 := rReprO T.C_Map (spRepr T.C_Map) E0) (call_repr gd hr.units) (call_reprOH gd T.m_Map__repr T.i_Map__repr (ok_reprH T) (roomS (k := 6) (hr.mono (by decide))) pass0)) (call_reprF gd hr.units)) (by rfl) T.n_repr (by decide +kernel) (pa_cons (pe_xf T.xf_InvalidElement T.na_value_InvalidElement hz hf (pv 3)) pa_nil)) pa_nil))))))) .nil)))
      (pss_one (ps_ret pe_str))), ?_⟩
    refine ⟨_, rfl, _, rfl, _, rfl, spMade_imp h (fun v H' q => ?_) (fun c d H' e => ?_)⟩
    · exact q
    · obtain ⟨dd, v, z, rfl, e, rp, hE⟩ := e
      rcases hE with ⟨rfl, q⟩ | ⟨rfl, q⟩
      · refine ⟨true, T.te_InvalidSize, fun _ a na => ?_, fun z => nomatch z⟩
        refine ⟨_, rfl, dd, rfl, rfl, _, _, _, _, rfl, fun u r => r, T.kit_ValueError_InvalidSize, e, ?_⟩
        refine ⟨_, rfl, rfl, rfl, dd, _, _, rfl, e, rfl, ?_⟩
        refine rp6_call rp ?_
        exact ⟨three_le, fun p np => q p _ (Same.new np) np upd_same⟩
      · refine ⟨false, T.te_InvalidElement_InvalidSize, (fun z => nomatch z), fun _ => ⟨true, T.te_InvalidElement, fun _ a na => ?_, fun z => nomatch z⟩⟩
        refine ⟨_, rfl, dd, rfl, rfl, _, _, _, _, rfl, fun u r => r, T.kit_ValueError_InvalidElement, e, ?_⟩
        refine ⟨_, rfl, rfl, rfl, dd, _, _, rfl, e, rfl, ?_⟩
        refine rp6_call rp ?_
        exact ⟨three_le, fun p np => q p _ (Same.new np) np upd_same⟩
theorem ok_mixd (T : Txt K mg) : FnR P w K mg base CX0 3 T.f_l_mixed spMixd := by
  refine T.A_l_mixed.ok sc_l_mixed (fun vs H Q E h => ?_) (fun cdv A outer s H vs Q E hr h => ?_)
  · obtain ⟨p, n, rfl, _⟩ := h
    rfl
  · obtain ⟨p, n, rfl, po, n1, n3, q⟩ := h
    have hu := hu_of hr
    refine ⟨_, (pss_cons (ps_par (i := 2) (j := 3) rfl sc_l_mixed.nd rfl rfl (by decide) rfl rfl (pa_cons (pe_listRg rfl rfl T.n_list (prg_1 rfl T.n_range (pv 1))) (pa_cons (pe_lst pa_nil) pa_nil)) (by rfl))
      (pss_cons (ps_for PassesOwn.never rfl (pi_range1 rfl T.n_range (pa_cons (pe_callB (call_min2 rfl) (by rfl) T.n_min (by decide +kernel) (pa_cons (pe_callR (ok_draw T) (hr.mono (by decide)) T.A_l_draw.kp rfl T.g_l_draw pass0 (pa_cons (pv 0) (pa_cons pe_int pa_nil))) (pa_cons (pe_callB call_len_seq (by rfl) T.n_len (by decide +kernel) (pa_cons (pv 2) pa_nil)) pa_nil))) pa_nil)) (pg_name (i := 4) sc_l_mixed.nd rfl (Or.inl rfl))
        (pss_one (ps_expr (pe_bm PySem.F.plainAttrs_list PySem.F.slot_list_append PySem.F.type_list_append mt_append (pv 3) (pa_cons (pe_bm PySem.F.plainAttrs_list PySem.F.slot_list_pop PySem.F.type_list_pop mt_popAt (pv 2) (pa_cons (pe_callR (ok_draw T) (hr.mono (by decide)) T.A_l_draw.kp rfl T.g_l_draw pass0 (pa_cons (pv 0) (pa_cons (pe_callB call_len_seq (by rfl) T.n_len (by decide +kernel) (pa_cons (pv 2) pa_nil)) pa_nil))) pa_nil)) pa_nil)))))
      (pss_one (ps_ret (pv 3))))), ?_⟩
    refine ⟨_, rfl, n, rfl, RgOk.of_le (by decide) (by omega) (by decide) (by omega), ?_⟩
    refine fun lf n_lf => ?_
    generalize g_lf : L2.upd _ lf _ = H1
    obtain ⟨s_H1, e_lf⟩ := U.upd_facts g_lf n_lf
    clear g_lf
    refine ⟨nil_le, ?_⟩
    refine fun fo n_fo => ?_
    generalize g_fo : L2.upd _ fo _ = H2
    obtain ⟨s_H2, e_fo⟩ := U.upd_facts g_fo n_fo
    clear g_fo
    refine ⟨_, _, rfl, ?_⟩
    have lf2 : H2 lf = some (.lst (((List.range n.toNat).map fun (i : Nat) => (i : Int)).map V.int)) := by rw [← rg0]; exact s_H2 _ _ e_lf
    have po2 := (po.same s_H1).same s_H2
    have npl : p ≠ lf := po.ne n_lf
    have npf : p ≠ fo := (po.same s_H1).ne n_fo
    have nlf : lf ≠ fo := ne_of_none e_lf n_fo
    have lf0 : H lf = none := n_lf
    have fo0 : H fo = none := s_H1.free n_fo
    refine draw_R rfl (fun R r => r) po2 (by decide) (by decide) fun r H3 r0 r1 po3 o3 => ?_
    have lf3 := o3 _ _ npl.symm lf2
    have fo3 := o3 _ _ npf.symm e_fo
    have of3 : Off p H H3 := fun b o hb e => o3 _ _ hb (s_H2 _ _ (s_H1 _ _ e))
    refine ⟨_, rfl, lf, _, rfl, .inl (SqL.of lf3), _, _, rfl, _, rfl, ?_, ?_, ?_⟩
    · rw [List.length_map, List.length_map, List.length_range]; split <;> omega
    · rw [List.length_map, List.length_map, List.length_range]; split <;> omega
    have pm0 : ((List.range n.toNat).map fun (i : Nat) => (i : Int)).Nodup := (drw0 n).nn
    have rg : ∀ x ∈ ((List.range n.toNat).map fun (i : Nat) => (i : Int)), 0 ≤ x ∧ x < n := fun x hx => by
      have := (drw0 n).nt x hx
      exact ⟨this.1, this.2.1⟩
    refine for_it (walk_range (lo := 0)) (fun i σ H' => ∃ v4 fs ls, σ = [some (.ref p), some (.int n), some (.ref lf), some (.ref fo), v4] ∧ PoolAt H' p ∧ Off p H H' ∧ H' lf = some (.lst (ls.map V.int)) ∧ H' fo = some (.lst (fs.map V.int)) ∧ ((List.range n.toNat).map fun (i : Nat) => (i : Int)).Perm (fs ++ ls) ∧ fs.length = i)
      ⟨_, [], _, rfl, po3, of3, lf3, fo3, List.Perm.refl _, rfl⟩ (fun _ _ _ _ _ => trivial) ?_ ?_
    · rintro i v σ Ha0 Ha hi ⟨v4, fs, ls, rfl, pa, oa, la, fa, pm, fl⟩ ⟨rfl, rfl⟩
      have hlen := pm.length_eq
      rw [List.length_map, List.length_range, List.length_append, fl] at hlen
      have hin : i < n.toNat ∧ i < 4 := by
        have h2 := hi
        rw [List.length_map, List.length_map, List.length_range] at h2
        split at h2 <;> omega
      refine ⟨_, rfl, .inl ⟨rfl, _, SqL.of fa⟩, _, rfl, .inl ⟨rfl, _, SqL.of la⟩, ?_⟩
      refine draw_R (n := (ls.length : Nat)) rfl (fun R r => ⟨_, rfl, lf, _, rfl, .inl (SqL.of la), by rw [List.length_map]; exact r⟩) pa (by omega) (by omega) fun rr Hb r0 r1 pb ob => ?_
      have lb := ob _ _ npl.symm la
      have fb := ob _ _ npf.symm fa
      obtain ⟨y, ey⟩ : ∃ y, ls[rr.toNat]? = some y := ⟨_, List.getElem?_eq_getElem (by omega)⟩
      refine ⟨lf, _, rr, rr.toNat, .int y, rfl, rfl, lb, by omega, by omega, ?_, get_map ey, ?_⟩
      · rw [List.length_map]
        exact PySem.seqIndex_of r0 (by omega)
      rw [erase_map]
      generalize g_Hc : L2.upd _ lf _ = Hc
      obtain ⟨o_Hc, e_Hc⟩ := st_facts g_Hc
      clear g_Hc
      refine ⟨fo, _, _, rfl, rfl, o_Hc _ _ nlf.symm fb, lt_line (by rw [List.length_map]; omega), ?_⟩
      generalize g_Hd : L2.upd _ fo _ = Hd
      obtain ⟨o_Hd, e_Hd⟩ := st_facts g_Hd
      clear g_Hd
      refine ⟨_, fs ++ [y], ls.eraseIdx rr.toNat, rfl, ?_, ?_, o_Hd _ _ nlf e_Hc, ?_, pm.trans (perm_move ey), by rw [List.length_append, List.length_singleton, fl]⟩
      · obtain ⟨aa, bb, e1, e2⟩ := pb
        exact ⟨aa, bb, o_Hd _ _ npf (o_Hc _ _ npl e1), e2⟩
      · exact fun b o hb e => o_Hd _ _ (ne_of_none e fo0) (o_Hc _ _ (ne_of_none e lf0) (ob _ _ hb (oa _ _ hb e)))
      · rw [e_Hd, List.map_append]
        rfl
    · rintro σ Ha ⟨v4, fs, ls, rfl, pa, oa, la, fa, pm, fl⟩
      refine ⟨_, rfl, q fo Ha fs fo0 fa ?_ ?_ ?_ pa oa⟩
      · have := (pm.nodup_iff).mp pm0
        exact (List.nodup_append.mp this).1
      · exact fun x hx => rg x ((pm.mem_iff).mpr (List.mem_append_left _ hx))
      · rw [fl, List.length_map, List.length_map, List.length_range]; split <;> omega
end
end My
namespace My
open PySem L2 U StX PM
/-- [.. for x in (..)], each part a new object told -/
theorem lc_tupN {K : PySem.W.Frag} {te : TE} {i : Nat} {tv : TE} {vs : List Nat} {σ : L2.St} {H : Hp} {Q : VK} {xs : List V} (o : Nat → HO)
    (hte : ∀ R : VK, (∀ t H1, Same H H1 → H1 t = some (.tup xs) → R (.ref t) H1) → te σ H R) (hw : ∀ a, wipe ((wipe σ vs).set i a) vs = wipe σ vs) (hn : xs.length < sizeLine)
    (hb : ∀ (k : Nat) (x : V), xs[k]? = some x → ∀ H1, L2.Same H H1 → ∀ R : VK, (∀ b H2, L2.Same H1 H2 → H1 b = none → H2 b = some (o k) → R (.ref b) H2) → tv ((wipe σ vs).set i (some x)) H1 R)
    (hq : ∀ (D : Addr) (bs : List Addr) (H' : Hp), L2.Same H H' → H D = none → H' D = some (.lst (bs.map V.ref)) → bs.length = xs.length → (∀ (k : Nat) (b : Addr), bs[k]? = some b → H' b = some (o k)) → Q (.ref D) H') : tLc (iTup K te) (gName i) tYes tv vs σ H Q := by
  refine hte _ fun t H1 s1 ht => ⟨t, rfl, ⟨_, SqT.of ht⟩, fun D hD => ?_⟩
  refine lc_it (walk_tup (xs := xs)) (fun k H' => L2.Same H1 H' ∧ ∃ bs : List Addr, H' D = some (.lst (bs.map V.ref)) ∧ bs.length = k ∧ ∀ (j : Nat) (b : Addr), bs[j]? = some b → H' b = some (o j) ∧ b ≠ D) ⟨Same.new hD, [], upd_same, rfl, fun j b e => by simp at e⟩ (fun k H' _ p => SqT.of (p.1 _ _ ht)) ?_ ?_
  · rintro k v H' H'' hk ⟨s2, bs, e1, hl, hbs⟩ ⟨rfl, ev⟩
    refine ⟨hw _, yes_ ?_⟩
    refine hb k v ev _ (s1.trans s2) _ fun b H2 s3 nb eb => ?_
    have e2 := s3 _ _ e1
    have nbD : b ≠ D := fun z => by rw [z, e1] at nb; cases nb
    refine ⟨_, e2, by rw [List.length_map, hl]; exact Nat.lt_trans hk hn, Same.put (s2.trans s3) hD, bs ++ [b], by rw [upd_same, List.map_append]; rfl, by simp [hl], fun j b' e => ?_⟩
    by_cases hj : j < bs.length
    · rw [List.getElem?_append_left hj] at e
      obtain ⟨h1, h2⟩ := hbs j b' e
      exact ⟨by rw [upd_ne h2]; exact s3 _ _ h1, h2⟩
    · have hl2 := (List.getElem?_eq_some_iff.mp e).1
      rw [List.length_append, List.length_singleton] at hl2
      have ej : j = k := by omega
      subst ej
      rw [List.getElem?_append_right (by omega), hl, Nat.sub_self] at e
      cases e
      exact ⟨by rw [upd_ne nbD]; exact eb, nbD⟩
  · rintro H' ⟨s2, bs, e1, hl, hbs⟩
    exact hq D bs H' (s1.trans s2) (s1.free hD) e1 hl fun k b e => (hbs k b e).1
def Thing (K : PySem.W.Frag) (C : Addr) (H : Hp) (x : V) (z : Str) : Prop := OkS z ∧ ∀ H', Same H H' → knownV C H' x ∧ Rp6 K C H' x z
theorem Thing.mv {K : PySem.W.Frag} {C : Addr} {H H' : Hp} {x : V} {z : Str} (t : Thing K C H x z) (s : Same H H') : Thing K C H' x z := ⟨t.1, fun H2 s2 => t.2 H2 (s.trans s2)⟩
theorem Thing.k {K : PySem.W.Frag} {C : Addr} {H : Hp} {x : V} {z : Str} (t : Thing K C H x z) : knownV C H x := (t.2 H (Same.refl _)).1
theorem Thing.r {K : PySem.W.Frag} {C : Addr} {H : Hp} {x : V} {z : Str} (t : Thing K C H x z) : Rp6 K C H x z := (t.2 H (Same.refl _)).2
def refD (kind z : Str) : PyData := .list [.str kind, .bool true, .str z]
def refO (kind z : Str) : HO := .lst [.str kind, .bl true, .str z]
theorem dp_ref {K : PySem.W.Frag} {H : Hp} {b : Addr} {kind z : Str} (h : H b = some (refO kind z)) : Dp K H (.ref b) (refD kind z) := .lst (SqL.of h) (.cons (.str _) (.cons (.bl _) (.cons (.str _) .nil)))
theorem dp_refs {K : PySem.W.Frag} {H : Hp} {kind z : Str} : ∀ {bs : List Addr}, (∀ (k : Nat) (b : Addr), bs[k]? = some b → H b = some (refO kind z)) → DpAll K H (bs.map V.ref) (List.replicate bs.length (refD kind z))
  | [], _ => .nil
  | b :: bs, h => .cons (dp_ref (h 0 b rfl)) (dp_refs fun k b' e => h (k + 1) b' e)
theorem shaped_ref {kind z : Str} (hk : OkS kind) (hz : OkS z) : SeqAt.shaped (refD kind z) = true := shaped_all fun d hd => by
  simp only [List.mem_cons, List.not_mem_nil, or_false] at hd
  rcases hd with rfl | rfl | rfl
  · exact ⟨hk, by show 0 ≤ 60; decide⟩
  · exact ⟨by decide +kernel, by show 0 ≤ 60; decide⟩
  · exact ⟨hz, by show 0 ≤ 60; decide⟩
theorem shaped_refs {kind z : Str} (hk : OkS kind) (hz : OkS z) (n : Nat) : SeqAt.shaped (.list (List.replicate n (refD kind z))) = true := shaped_all fun d hd => by
  rw [(List.mem_replicate.mp hd).2]
  exact ⟨SeqAt.canLay_of_shaped (shaped_ref hk hz), by show 1 ≤ 60; decide⟩
/-- two lists of what was refused, not unlike -/
theorem ne_refs {K : PySem.W.Frag} {H : Hp} {a b : Addr} {bs cs : List Addr} {kind z : Str} {Q : VK} (hk : OkS kind) (hz : OkS z) (ha : H a = some (.lst (bs.map V.ref))) (hb : H b = some (.lst (cs.map V.ref))) (hl : bs.length = cs.length)
    (h1 : ∀ (k : Nat) (b : Addr), bs[k]? = some b → H b = some (refO kind z)) (h2 : ∀ (k : Nat) (b : Addr), cs[k]? = some b → H b = some (refO kind z)) (q : Q (.bl false) H) : L2.rNeD K (.ref a) (.ref b) H Q := by
  have d1 := dp_refs (K := K) h1
  have d2 := dp_refs (K := K) h2
  refine ⟨_, _, .lst (SqL.of ha) d1, .lst (SqL.of hb) d2, shaped_refs hk hz _, shaped_refs hk hz _, ?_⟩
  rw [hl, SeqAt.eqv_refl _ (SeqAt.canLay_of_shaped (shaped_refs hk hz _))]
  exact q
def spBad (K : PySem.W.Frag) (C : Addr) : Sp := fun vs H Q _ => ∃ (n : Int) (x : V) (z : Str), vs = [.int n, x] ∧ 1 ≤ n ∧ n ≤ 300 ∧ Thing K C H x z ∧ inR x 0 (n - 1) = false ∧ ∀ H', Same H H' → Q (.bl true) H'
theorem refu_elem {K : PySem.W.Frag} {mg : Str → Option Value} {T : Txt K mg} {d n : Int} {Rw : Addr} {xs : List V} {x : V} {z : Str} {H1 : Hp} {R : VK} (n1 : 1 ≤ n) (n3 : n ≤ 300) (hd : d = 2 ∨ d = 3 ∨ d = 4) (hR : H1 Rw = some (.lst xs)) (hk : ∀ y ∈ xs, knownV T.C_Map H1 y) (hl : xs.length ≤ 4) (hf : firstBad n [] xs = some x)
    (h2 : d = 2 → ∃ x0 x1 r, xs = x0 :: x1 :: r ∧ ((inR x0 0 (n - 1) = false ∧ x0 = x) ∨ (inR x0 0 (n - 1) = true ∧ inR x1 0 (n - 1) = false ∧ x1 = x))) (th : Thing K T.C_Map H1 x z) (r : ∀ b H2, Same H1 H2 → H1 b = none → H2 b = some (refO "element" z) → R (.ref b) H2) :
    spRefu T [.int d, .int n, .ref Rw] H1 R E0 := by
  have tl : tld T.C_InvalidElement "value" x H1 (ERefu T R) := fun dd H' s nd => ⟨dd, x, z, rfl, upd_same, (th.2 _ (s.trans (Same.new nd))).2, .inr ⟨rfl, fun p H'' s'' np e => r p H'' ((s.trans (Same.new nd)).trans s'') ((s.trans (Same.new nd)).free np) e⟩⟩
  refine ⟨d, .int n, .ref Rw, rfl, trivial, .inr (.inr ⟨Rw, xs, rfl, hR, hk, ?_⟩)⟩
  rcases hd with rfl | rfl | rfl
  · obtain ⟨x0, x1, rr, e, h⟩ := h2 rfl
    refine .inl ⟨rfl, x0, x1, rr, e, .inr ⟨n, rfl, n1, n3, ?_⟩⟩
    rcases h with ⟨a, rfl⟩ | ⟨a, b, rfl⟩
    · exact .inl ⟨a, tl⟩
    · exact .inr ⟨a, .inl ⟨b, tl⟩⟩
  · exact .inr (.inl ⟨rfl, hl, .inr ⟨n, rfl, n1, n3, .inl ⟨x, hf, tl⟩⟩⟩)
  · exact .inr (.inr ⟨rfl, hl, .inr ⟨n, rfl, n1, n3, .inl ⟨x, hf, tl⟩⟩⟩)
theorem oks_element : OkS "element" := by unfold OkS; decide +kernel
theorem oks_size : OkS "size" := by unfold OkS; decide +kernel
section
variable {P : Program} {w : World} {K : PySem.W.Frag} {mg : Str → Option Value} {base : Heap}
theorem ok_bad (T : Txt K mg) : FnG P w K mg base CX0 70 T.f_l_bad (spBad K T.C_Map) := by
  refine T.A_l_bad.okG sc_l_bad (fun vs H Q E h => ?_) (fun cdv A outer s H vs Q E gd hr h => ?_)
  · obtain ⟨n, x, z, rfl, _⟩ := h
    rfl
  · obtain ⟨n, x, z, rfl, n1, n3, th, hin, q⟩ := h
    have hu := hu_of hr
    refine ⟨_, (pss_cons (ps_set (i := 2) sc_l_bad.nd rfl (Or.inl rfl) (pe_lst (pa_cons pe_str (pa_cons pe_bl (pa_cons (pe_callB (callR_or (r1 := fun xs H Q => rRepr K xs H Q ∨ rReprO T.C_Map (spRepr T.C_Map) E0 xs H Q) (r2 := rReprF) (callR_or (r1 := rRepr K) (r2 := rReprO T.C_Map (spRepr T.C_Map) E0) (call_repr gd hr.units) (call_reprO gd T.m_Map__repr T.i_Map__repr (ok_repr T) (hr.mono (by decide)) pass0)) (call_reprF gd hr.units)) (by rfl) T.n_repr (by decide +kernel) (pa_cons (pv 1) pa_nil)) pa_nil)))))
      (pss_cons (ps_for PassesOwn.never rfl (pi_list (pe_lst (pa_cons (pe_lst (pa_cons (pv 1) (pa_cons pe_non pa_nil))) (pa_cons (pe_lst (pa_cons pe_int (pa_cons (pv 1) pa_nil))) (pa_cons (pe_lst (pa_cons (pv 1) (pa_cons (pv 1) (pa_cons pe_int pa_nil)))) pa_nil))))) (pg_name (i := 3) sc_l_bad.nd rfl (Or.inr rfl))
        (pss_one (ps_if (pt_cmpR (L2.op_neD hr.units) (pe_lc (own := [("_law_door", 4)]) (g := (gName 4)) (tt := tYes) rfl sc_l_bad.nd (pi_tup (pe_tup (pa_cons pe_int (pa_cons pe_int (pa_cons pe_int pa_nil))))) (blkOk_by (own := [("_law_door", 4)]) (N := n_l_bad) (sc := defScope s_l_bad) (by decide +kernel)) (fun _ _ _ _ _ => (pg_name (i := 4) sc_l_bad.nd rfl (Or.inl rfl))) (fun _ _ _ _ _ => pts_nil) (fun _ _ _ _ _ => (pe_callG (ok_refu T) gd (hr.mono (by decide)) T.A_l_refused.kp rfl T.g_l_refused pass0 (pa_cons (pv 4) (pa_cons (pv 0) (pa_cons (pv 3) pa_nil)))))) (pe_op op_rep (pe_lst (pa_cons (pv 2) pa_nil)) pe_int) (nomark _))
        (pss_one (ps_ret pe_bl)) pss_nil)))
      (pss_cons (ps_if (pt_cmpR (L2.op_neD hr.units) (pe_lc (own := [("_law_door", 4)]) (g := (gName 4)) (tt := tYes) rfl sc_l_bad.nd (pi_tup (pe_tup (pa_cons pe_int (pa_cons pe_int pa_nil)))) (blkOk_by (own := [("_law_door", 4)]) (N := n_l_bad) (sc := defScope s_l_bad) (by decide +kernel)) (fun _ _ _ _ _ => (pg_name (i := 4) sc_l_bad.nd rfl (Or.inl rfl))) (fun _ _ _ _ _ => pts_nil) (fun _ _ _ _ _ => (pe_callG (ok_refu T) gd (hr.mono (by decide)) T.A_l_refused.kp rfl T.g_l_refused pass0 (pa_cons (pv 4) (pa_cons (pv 0) (pa_cons (pe_lst (pa_cons pe_int (pa_cons pe_int (pa_cons (pv 1) pa_nil)))) pa_nil)))))) (pe_op op_rep (pe_lst (pa_cons (pe_lst (pa_cons pe_str (pa_cons pe_bl (pa_cons pe_str pa_nil)))) pa_nil)) pe_int) (nomark _))
        (pss_one (ps_ret pe_bl)) pss_nil)
      (pss_one (ps_ret (pe_cmpR op_eq (pe_callG (ok_refu T) gd (hr.mono (by decide)) T.A_l_refused.kp rfl T.g_l_refused pass0 (pa_cons pe_int (pa_cons (pv 0) (pa_cons (pe_lst (pa_cons pe_int (pa_cons pe_int pa_nil))) pa_nil)))) pe_str (nomark _))))))), ?_⟩
    refine ⟨_, rfl, rp6_call th.r ?_⟩
    refine ⟨three_le, ?_⟩
    refine fun due n_due => ?_
    generalize g_due : L2.upd _ due _ = H1
    obtain ⟨s_H1, e_due⟩ := U.upd_facts g_due n_due
    clear g_due
    refine ⟨_, rfl, two_le, ?_⟩
    refine fun r1 n_r1 => ?_
    generalize g_r1 : L2.upd _ r1 _ = H2
    obtain ⟨s_H2, e_r1⟩ := U.upd_facts g_r1 n_r1
    clear g_r1
    refine ⟨_, rfl, two_le, ?_⟩
    refine fun r2 n_r2 => ?_
    generalize g_r2 : L2.upd _ r2 _ = H3
    obtain ⟨s_H3, e_r2⟩ := U.upd_facts g_r2 n_r2
    clear g_r2
    refine ⟨_, rfl, _, rfl, three_le, ?_⟩
    refine fun r3 n_r3 => ?_
    generalize g_r3 : L2.upd _ r3 _ = H4
    obtain ⟨s_H4, e_r3⟩ := U.upd_facts g_r3 n_r3
    clear g_r3
    refine ⟨three_le, ?_⟩
    refine fun L n_L => ?_
    generalize g_L : L2.upd _ L _ = H5
    obtain ⟨s_H5, e_L⟩ := U.upd_facts g_L n_L
    clear g_L
    have s25 := ((s_H2.trans s_H3).trans s_H4).trans s_H5
    have f1 : H5 r1 = _ := s_H5 _ _ (s_H4 _ _ (s_H3 _ _ e_r1))
    have f2 : H5 r2 = _ := s_H5 _ _ (s_H4 _ _ e_r2)
    have f3 : H5 r3 = _ := s_H5 _ _ e_r3
    have fd : H5 due = some (refO "element" z) := s25 _ _ e_due
    have s05 := s_H1.trans s25
    have th5 := th.mv s05
    clear s25 e_r1 e_r2 e_r3 e_due s_H1 s_H2 s_H3 s_H4 s_H5
    have zr : 0 < n := by omega
    have z0 : inR (.int 0) 0 (n - 1) = true := by simp only [inR, Bool.and_eq_true, decide_eq_true_eq]; omega
    have bad2 : ∀ r, firstBad n [] (.int 0 :: x :: r) = some x := fun r => by rw [firstBad_next z0 (by simp), firstBad_out hin]
    refine ⟨L, rfl, ⟨_, SqL.of e_L⟩, ?_⟩
    refine for_it (walk_list (xs := [.ref r1, .ref r2, .ref r3])) (fun i σ H' => ∃ v3 v4, σ = [some (.int n), some x, some (.ref due), v3, v4] ∧ Same H5 H') ⟨_, _, rfl, Same.refl _⟩ (fun i σ H' _ ⟨_, _, _, z⟩ => SqL.of (z _ _ e_L)) ?_ ?_
    · rintro i v σ Ha0 Ha hi ⟨v3, v4, rfl, sa⟩ ⟨rfl, ev⟩
      have key : ∃ Rw xs, v = .ref Rw ∧ H5 Rw = some (.lst xs) ∧ (∀ y ∈ xs, ∀ H', Same H5 H' → knownV T.C_Map H' y) ∧ xs.length ≤ 4 ∧ firstBad n [] xs = some x ∧ ∃ x0 x1 r, xs = x0 :: x1 :: r ∧ ((inR x0 0 (n - 1) = false ∧ x0 = x) ∨ (inR x0 0 (n - 1) = true ∧ inR x1 0 (n - 1) = false ∧ x1 = x)) := by
        match i, ev with
        | 0, ev =>
          cases ev
          refine ⟨r1, _, rfl, f1, fun y hy H' s => ?_, by simp, firstBad_out hin, x, _, _, rfl, .inl ⟨hin, rfl⟩⟩
          simp only [List.mem_cons, List.not_mem_nil, or_false] at hy
          rcases hy with rfl | rfl
          · exact (th5.2 _ s).1
          · trivial
        | 1, ev =>
          cases ev
          refine ⟨r2, _, rfl, f2, fun y hy H' s => ?_, by simp, bad2 _, .int 0, x, _, rfl, .inr ⟨z0, hin, rfl⟩⟩
          simp only [List.mem_cons, List.not_mem_nil, or_false] at hy
          rcases hy with rfl | rfl
          · trivial
          · exact (th5.2 _ s).1
        | 2, ev =>
          cases ev
          refine ⟨r3, _, rfl, f3, fun y hy H' s => ?_, by simp, firstBad_out hin, x, _, _, rfl, .inl ⟨hin, rfl⟩⟩
          simp only [List.mem_cons, List.not_mem_nil, or_false] at hy
          rcases hy with rfl | rfl | rfl
          · exact (th5.2 _ s).1
          · exact (th5.2 _ s).1
          · trivial
      obtain ⟨Rw, xs, rfl, hRw, hkx, hl4, hfb, h2⟩ := key
      show tIfS _ _ _ _ _ _
      dsimp only [tIfS, tTest, tOp]
      refine lc_tupN (fun _ => refO "element" z) (xs := [.int 2, .int 3, .int 4]) (fun R r => ⟨three_le, fun t nt => r t _ (Same.new nt) upd_same⟩) (fun _ => rfl) (lt_line (by decide)) (fun k v ev Hb sb R r => ?_) (fun D bs Hb sb nD hD hbs hall => ?_)
      · have hd : ∃ d : Int, v = .int d ∧ (d = 2 ∨ d = 3 ∨ d = 4) := by
          match k, ev with
          | 0, ev => cases ev; exact ⟨2, rfl, .inl rfl⟩
          | 1, ev => cases ev; exact ⟨3, rfl, .inr (.inl rfl)⟩
          | 2, ev => cases ev; exact ⟨4, rfl, .inr (.inr rfl)⟩
        obtain ⟨d, rfl, hd⟩ := hd
        have s5b := sa.trans sb
        exact ⟨_, rfl, _, rfl, _, rfl, refu_elem n1 n3 hd (s5b _ _ hRw) (fun y hy => hkx y hy _ s5b) hl4 hfb (fun _ => h2) (th5.mv s5b) r⟩
      · refine ⟨_, rfl, one_le, ?_⟩
        refine fun l1 n_l1 => ?_
        generalize g_l1 : L2.upd _ l1 _ = Hc
        obtain ⟨s_Hc, e_l1⟩ := U.upd_facts g_l1 n_l1
        clear g_l1
        refine ⟨l1, 3, [.ref due], rfl, rfl, e_l1, by decide, by decide, (by show 3 ≤ sizeLine; decide), ?_⟩
        refine fun l3 n_l3 => ?_
        generalize g_l3 : L2.upd _ l3 _ = Hd
        obtain ⟨s_Hd, e_l3⟩ := U.upd_facts g_l3 n_l3
        clear g_l3
        have sbd := s_Hc.trans s_Hd
        refine ne_refs (bs := bs) (cs := [due, due, due]) oks_element th.1 (sbd _ _ hD) e_l3 hbs (fun k b e => sbd _ _ (hall k b e)) (fun k b e => ?_) ⟨_, rfl, iteF ⟨_, _, rfl, (sa.trans sb).trans sbd⟩⟩
        have hm := List.mem_of_getElem? e
        simp only [List.mem_cons, List.not_mem_nil, or_false, or_self] at hm
        subst hm
        exact ((sa.trans sb).trans sbd) _ _ fd
    · rintro σ Ha ⟨v3, v4, rfl, sa⟩
      show tSeq _ _ _ _ _
      dsimp only [tSeq, tIfS, tTest, tOp]
      have hz0 : PyData.shown (.int 0) = Str.ofString "0" := by decide +kernel
      have thz : ∀ Hx, Thing K T.C_Map Hx (.int 0) (PyData.shown (.int 0)) := fun Hx => ⟨by unfold OkS; decide +kernel, fun H' s' => ⟨trivial, .inl (.inl ⟨.int 0, .int _, by decide +kernel, by decide +kernel, by decide +kernel, by decide +kernel, rfl⟩)⟩⟩
      have badz : ∀ r, firstBad n [] (.int 0 :: .int 0 :: r) = some (.int 0) := fun r => by rw [firstBad_next z0 (by simp), firstBad_rep (by simp)]
      refine lc_tupN (fun _ => refO "element" (PyData.shown (.int 0))) (xs := [.int 3, .int 4]) (fun R r => ⟨two_le, fun t nt => r t _ (Same.new nt) upd_same⟩) (fun _ => rfl) (lt_line (by decide)) (fun k v ev Hb sb R r => ?_) (fun D bs Hb sb nD hD hbs hall => ?_)
      · have hd : ∃ d : Int, v = .int d ∧ (d = 2 ∨ d = 3 ∨ d = 4) ∧ d ≠ 2 := by
          match k, ev with
          | 0, ev => cases ev; exact ⟨3, rfl, .inr (.inl rfl), by decide⟩
          | 1, ev => cases ev; exact ⟨4, rfl, .inr (.inr rfl), by decide⟩
        obtain ⟨d, rfl, hd, hd2⟩ := hd
        refine ⟨_, rfl, _, rfl, _, rfl, three_le, ?_⟩
        refine fun Rw n_Rw => ?_
        generalize g_Rw : L2.upd _ Rw _ = Hc
        obtain ⟨s_Hc, e_Rw⟩ := U.upd_facts g_Rw n_Rw
        clear g_Rw
        have s5c := (sa.trans sb).trans s_Hc
        exact refu_elem n1 n3 hd e_Rw (fun y hy => by
          simp only [List.mem_cons, List.not_mem_nil, or_false] at hy
          rcases hy with rfl | rfl | rfl
          · trivial
          · trivial
          · exact (th5.2 _ s5c).1) (by simp) (badz _) (fun z => absurd z hd2) (thz _) fun b H2 s nb e => r b H2 (s_Hc.trans s) (s_Hc.free nb) e
      · refine ⟨three_le, ?_⟩
        refine fun li n_li => ?_
        generalize g_li : L2.upd _ li _ = Hc
        obtain ⟨s_Hc, e_li⟩ := U.upd_facts g_li n_li
        clear g_li
        refine ⟨one_le, ?_⟩
        refine fun l1 n_l1 => ?_
        generalize g_l1 : L2.upd _ l1 _ = Hd
        obtain ⟨s_Hd, e_l1⟩ := U.upd_facts g_l1 n_l1
        clear g_l1
        refine ⟨l1, 2, [.ref li], rfl, rfl, e_l1, by decide, by decide, (by show 2 ≤ sizeLine; decide), ?_⟩
        refine fun l3 n_l3 => ?_
        generalize g_l3 : L2.upd _ l3 _ = He
        obtain ⟨s_He, e_l3⟩ := U.upd_facts g_l3 n_l3
        clear g_l3
        have sbe := (s_Hc.trans s_Hd).trans s_He
        have eli : He li = some (refO "element" (PyData.shown (.int 0))) := by
          rw [hz0]
          exact s_He _ _ (s_Hd _ _ e_li)
        refine ne_refs (bs := bs) (cs := [li, li]) oks_element (thz Hb).1 (sbe _ _ hD) e_l3 hbs (fun k b e => sbe _ _ (hall k b e)) (fun k b e => ?_) ⟨_, rfl, iteF ?_⟩
        · have hm := List.mem_of_getElem? e
          simp only [List.mem_cons, List.not_mem_nil, or_false, or_self] at hm
          subst hm
          exact eli
        have s5e := (sa.trans sb).trans sbe
        refine ⟨_, rfl, two_le, ?_⟩
        refine fun Rz n_Rz => ?_
        generalize g_Rz : L2.upd _ Rz _ = Hf
        obtain ⟨s_Hf, e_Rz⟩ := U.upd_facts g_Rz n_Rz
        clear g_Rz
        refine ⟨2, .int n, .ref Rz, rfl, trivial, .inr (.inr ⟨Rz, _, rfl, e_Rz, ?_, .inl ⟨rfl, .int 0, .int 0, [], rfl, .inr ⟨n, rfl, n1, n3, .inr ⟨z0, .inr ⟨0, 0, rfl, rfl, by omega, by omega, by omega, by omega, fun r H' nr s m => ?_⟩⟩⟩⟩⟩)⟩
        · intro y hy
          simp only [List.mem_cons, List.not_mem_nil, or_false, or_self] at hy
          subst hy
          trivial
        · refine ⟨rfl, ?_⟩
          rw [decide_eq_true rfl]
          exact q _ ((s05.trans s5e).trans (s_Hf.trans s))
end
end My
namespace My
open PySem L2 U StX PM
/-- [.. for x in range(..)], each part a new object told -/
theorem lc_rangeN {wi : TI} {i : Nat} {tv : TE} {vs : List Nat} {σ : L2.St} {H : Hp} {Q : VK} {n : Nat} (o : Nat → HO)
    (hwi : ∀ R : It → Hp → Prop, R (Itr 0 n) H → wi σ H R) (hw : ∀ a, wipe ((wipe σ vs).set i a) vs = wipe σ vs) (hn : n < sizeLine)
    (hb : ∀ k : Nat, k < n → ∀ H1, L2.Same H H1 → ∀ R : VK, (∀ b H2, L2.Same H1 H2 → H1 b = none → H2 b = some (o k) → R (.ref b) H2) → tv ((wipe σ vs).set i (some (.int (0 + (k : Nat))))) H1 R)
    (hq : ∀ (D : Addr) (bs : List Addr) (H' : Hp), L2.Same H H' → H D = none → H' D = some (.lst (bs.map V.ref)) → bs.length = n → (∀ (k : Nat) (b : Addr), bs[k]? = some b → H' b = some (o k)) → Q (.ref D) H') : tLc wi (gName i) tYes tv vs σ H Q := by
  refine hwi _ fun D hD => ?_
  refine lc_it (walk_range (lo := 0)) (fun k H' => L2.Same H H' ∧ ∃ bs : List Addr, H' D = some (.lst (bs.map V.ref)) ∧ bs.length = k ∧ ∀ (j : Nat) (b : Addr), bs[j]? = some b → H' b = some (o j) ∧ b ≠ D) ⟨Same.new hD, [], upd_same, rfl, fun j b e => by simp at e⟩ (fun _ _ _ _ => trivial) ?_ ?_
  · rintro k v H' H'' hk ⟨s2, bs, e1, hl, hbs⟩ ⟨rfl, rfl⟩
    refine ⟨hw _, yes_ ?_⟩
    refine hb k hk _ s2 _ fun b H2 s3 nb eb => ?_
    have e2 := s3 _ _ e1
    have nbD : b ≠ D := fun z => by rw [z, e1] at nb; cases nb
    refine ⟨_, e2, by rw [List.length_map, hl]; exact Nat.lt_trans hk hn, Same.put (s2.trans s3) hD, bs ++ [b], by rw [upd_same, List.map_append]; rfl, by simp [hl], fun j b' e => ?_⟩
    by_cases hj : j < bs.length
    · rw [List.getElem?_append_left hj] at e
      obtain ⟨h1, h2⟩ := hbs j b' e
      exact ⟨by rw [upd_ne h2]; exact s3 _ _ h1, h2⟩
    · have hl2 := (List.getElem?_eq_some_iff.mp e).1
      rw [List.length_append, List.length_singleton] at hl2
      have ej : j = k := by omega
      subst ej
      rw [List.getElem?_append_right (by omega), hl, Nat.sub_self] at e
      cases e
      exact ⟨by rw [upd_ne nbD]; exact eb, nbD⟩
  · rintro H' ⟨s2, bs, e1, hl, hbs⟩
    exact hq D bs H' s2 hD e1 hl fun k b e => (hbs k b e).1
theorem paired_kvI {H : Hp} : ∀ {ps : List Addr} {m : List (Int × Int)}, ps.length = m.length → (∀ (k : Nat) (b : Addr) (q : Int × Int), ps[k]? = some b → m[k]? = some q → H b = some (.tup [.int q.1, .int q.2])) → Paired (fun p (kv : Key × V) => H p = some (.tup [kV kv.1, kv.2])) ps (kvI m)
  | [], [], _, _ => .nil
  | [], _ :: _, h, _ => by simp at h
  | _ :: _, [], h, _ => by simp at h
  | p :: ps, q :: m, hl, h => .cons (h 0 p q rfl rfl) (paired_kvI (by simpa using hl) fun k b q' e1 e2 => h (k + 1) b q' e1 e2)
def pairO (m : List (Int × Int)) (k : Nat) : HO := .tup (match m[k]? with | some q => [.int q.1, .int q.2] | none => [])
theorem pairO_at {m : List (Int × Int)} {k : Nat} {q : Int × Int} (h : m[k]? = some q) : pairO m k = .tup [.int q.1, .int q.2] := by
  unfold pairO
  rw [h]
theorem zip_last : ∀ (r : List Int) (a b : Int), (a :: r).zip (r ++ [b]) = (a :: r).zip r ++ [(((a :: r).getLast (List.cons_ne_nil _ _)), b)]
  | [], _, _ => rfl
  | c :: r, a, b => by
    rw [List.cons_append, List.zip_cons_cons, zip_last r c b, List.zip_cons_cons, List.cons_append, List.getLast_cons (List.cons_ne_nil _ _)]
theorem rot_cons (a : Int) (r : List Int) : rot (a :: r) = stp2 (a :: r) ++ [((a :: r).getLast (List.cons_ne_nil _ _), a)] := zip_last r a a
theorem cyc_put {a : Int} {r : List Int} (nd : (a :: r).Nodup) : (fun z => if z = (a :: r).getLast (List.cons_ne_nil _ _) then some a else chn (a :: r) z) = cyc (a :: r) := by
  have hl : ((a :: r).getLast (List.cons_ne_nil _ _)) ∉ (stp2 (a :: r)).map (·.1) := by
    have h := (di_rot nd).nd
    rw [rot_cons, List.map_append, List.nodup_append] at h
    intro hm
    exact h.2.2 _ hm _ (List.mem_singleton.mpr rfl) rfl
  funext z
  have key : ∀ w, cyc (a :: r) z = some w ↔ (if z = (a :: r).getLast (List.cons_ne_nil _ _) then some a else chn (a :: r) z) = some w := fun w => by
    rw [← (di_rot nd).mem, rot_cons, List.mem_append, List.mem_singleton]
    split
    · rename_i hz
      subst hz
      constructor
      · rintro (h | h)
        · exact absurd (List.mem_map.mpr ⟨_, h, rfl⟩) hl
        · cases h; rfl
      · intro h
        cases h
        exact .inr rfl
    · rename_i hz
      rw [← (di_stp nd).mem]
      constructor
      · rintro (h | h)
        · exact h
        · cases h; exact absurd rfl hz
      · exact .inl
  cases h1 : cyc (a :: r) z with
  | some w => exact ((key w).mp h1)
  | none =>
    cases h2 : (if z = (a :: r).getLast (List.cons_ne_nil _ _) then some a else chn (a :: r) z) with
    | none => rfl
    | some w => rw [(key w).mpr h2] at h1; cases h1
theorem swp_comm {n a b : Int} (h : a ≠ b) : swp n b a = swp n a b := by
  funext z
  unfold swp
  by_cases h1 : z = a
  · subst h1
    rw [if_pos rfl, if_neg h, if_pos rfl]
  · by_cases h2 : z = b
    · subst h2
      rw [if_neg h1, if_pos rfl, if_pos rfl]
    · rw [if_neg h1, if_neg h2, if_neg h2, if_neg h1]
theorem nx_cut {a rest : TS} {D : Ends} {r : VK} {b c : L2.St → Hp → Prop} {σ : L2.St} {H : Hp} (M : L2.St → Hp → Prop) (h : ∀ nx : L2.St → Hp → Prop, (∀ σ' H', M σ' H' → nx σ' H') → a { D with nx := nx } σ H) (hM : ∀ σ' H', M σ' H' → rest D σ' H') : Ends.nx { nx := tSeq a rest D, rt := r, bk := b, ct := c } σ H := h _ hM
theorem dpAll_ints {K : PySem.W.Frag} {H : Hp} : ∀ is : List Int, DpAll K H (is.map V.int) (is.map PyData.int)
  | [] => .nil
  | _ :: is => .cons (.int _) (dpAll_ints is)
def spRight : Sp := fun vs H Q _ => ∃ (n : Int) (l : Addr) (is : List Int), vs = [.int n, .ref l] ∧ 1 ≤ n ∧ n ≤ 300 ∧ H l = some (.lst (is.map V.int)) ∧ is.Nodup ∧ (∀ i ∈ is, 0 ≤ i ∧ i < n) ∧ is.length ≤ 4 ∧ ∀ H', Same H H' → Q (.bl true) H'
section
variable {P : Program} {w : World} {K : PySem.W.Frag} {mg : Str → Option Value} {base : Heap}
theorem ok_right (T : Txt K mg) : FnR P w K mg base CX0 70 T.f_l_right spRight := by
  refine T.A_l_right.ok sc_l_right (fun vs H Q E h => ?_) (fun cdv A outer s H vs Q E hr h => ?_)
  · obtain ⟨n, l, is, rfl, _⟩ := h
    rfl
  · obtain ⟨n, l, is, rfl, n1, n3, hl, nd, hb, h4, q⟩ := h
    have hu := hu_of hr
    refine ⟨_, (pss_cons (ps_set (i := 2) sc_l_right.nd rfl (Or.inl rfl) (pe_callTy (call_dictP rfl) (by rfl) T.n_dict (by decide +kernel) (pa_cons (pe_lc (own := [("_law_at", 4)]) (g := (gName 4)) (tt := tYes) rfl sc_l_right.nd (pi_range1 rfl T.n_range (pa_cons (pe_op op_sub (pe_callB call_len_seq (by rfl) T.n_len (by decide +kernel) (pa_cons (pv 1) pa_nil)) pe_int) pa_nil)) (blkOk_by (own := [("_law_at", 4)]) (N := n_l_right) (sc := defScope s_l_right) (by decide +kernel)) (fun _ _ _ _ _ => (pg_name (i := 4) sc_l_right.nd rfl (Or.inl rfl))) (fun _ _ _ _ _ => pts_nil) (fun _ _ _ _ _ => (pe_tup (pa_cons (pe_ix (ix_listK (K := K) rfl) (pv 1) (pv 4) (fun _ _ => rfl)) (pa_cons (pe_ix (ix_listK (K := K) rfl) (pv 1) (pe_op op_add (pv 4) pe_int) (fun _ _ => rfl)) pa_nil))))) pa_nil)))
      (pss_cons (ps_if (pt_cmpR (U.op_neDI hr.units0) (pe_propR (pe_callR (fnR_calm (okX_made T)) (hr.mono (by decide)) T.A_l_made.kp rfl T.g_l_made pass0 (pa_cons pe_int (pa_cons (pv 0) (pa_cons (pv 1) pa_nil)))) T.o_Map.cl T.P_Map_arrows (ok_arrows T) (hr.mono (by decide))) (pv 2) (nomark _))
        (pss_one (ps_ret pe_bl)) pss_nil)
      (pss_cons (ps_if (pt_cmpR (L2.op_neD hr.units) (pv 1) (pe_lst pa_nil) (nomark _))
        (pss_one (ps_dput hu (pv 2) (pe_ix ix_list (pv 1) (pe_un un_neg pe_int) (fun _ _ => rfl)) (pe_ix ix_list (pv 1) pe_int (fun _ _ => rfl)) rfl)) pss_nil)
      (pss_cons (ps_if (PW.pt (pw_or (pt_cmpR (U.op_neDI hr.units0) (pe_propR (pe_callR (fnR_calm (okX_made T)) (hr.mono (by decide)) T.A_l_made.kp rfl T.g_l_made pass0 (pa_cons pe_int (pa_cons (pv 0) (pa_cons (pv 1) pa_nil)))) T.o_Map.cl T.P_Map_arrows (ok_arrows T) (hr.mono (by decide))) (pv 2) (nomark _)) (pw_or1 (pt_cmpR (U.op_neDI hr.units0) (pe_propR (pe_callR (fnR_calm (okX_made T)) (hr.mono (by decide)) T.A_l_made.kp rfl T.g_l_made pass0 (pa_cons pe_int (pa_cons (pv 0) (pa_cons pe_non pa_nil)))) T.o_Map.cl T.P_Map_arrows (ok_arrows T) (hr.mono (by decide))) pe_dnewK (nomark _)))))
        (pss_one (ps_ret pe_bl)) pss_nil)
      (pss_cons (ps_set (i := 3) sc_l_right.nd rfl (Or.inl rfl) (pe_callTy (call_dictP rfl) (by rfl) T.n_dict (by decide +kernel) (pa_cons (pe_lc (own := [("_law_number", 5)]) (g := (gName 5)) (tt := tYes) rfl sc_l_right.nd (pi_range1 rfl T.n_range (pa_cons (pv 0) pa_nil)) (blkOk_by (own := [("_law_number", 5)]) (N := n_l_right) (sc := defScope s_l_right) (by decide +kernel)) (fun _ _ _ _ _ => (pg_name (i := 5) sc_l_right.nd rfl (Or.inl rfl))) (fun _ _ _ _ _ => pts_nil) (fun _ _ _ _ _ => (pe_tup (pa_cons (pv 5) (pa_cons (pv 5) pa_nil))))) pa_nil)))
      (pss_cons (ps_if (pt_cmpR (U.op_neDI hr.units0) (pe_propR (pe_callR (fnR_calm (okX_made T)) (hr.mono (by decide)) T.A_l_made.kp rfl T.g_l_made pass0 (pa_cons pe_int (pa_cons (pv 0) (pa_cons pe_non pa_nil)))) T.o_Map.cl T.P_Map_arrows (ok_arrows T) (hr.mono (by decide))) (pv 3) (nomark _))
        (pss_one (ps_ret pe_bl)) pss_nil)
      (pss_cons (ps_if (pt_cmpR op_gt (pe_callB call_len_seq (by rfl) T.n_len (by decide +kernel) (pa_cons (pv 1) pa_nil)) pe_int (nomark _))
        (pss_cons (ps_asg (pe_tup (pa_cons (pe_ix ix_list (pv 1) pe_int (fun _ _ => rfl)) (pa_cons (pe_ix ix_list (pv 1) pe_int (fun _ _ => rfl)) pa_nil))) (pg_tup rfl (pgs_cons (pg_sub (pv 3) (pe_ix ix_list (pv 1) pe_int (fun _ _ => rfl)) (set_dict hu)) (pgs_cons (pg_sub (pv 3) (pe_ix ix_list (pv 1) pe_int (fun _ _ => rfl)) (set_dict hu)) pgs_nil))))
      (pss_one (ps_ret (pe_and (pe_cmpR (U.op_eqDI hr.units0) (pe_propR (pe_callR (fnR_calm (okX_made T)) (hr.mono (by decide)) T.A_l_made.kp rfl T.g_l_made pass0 (pa_cons pe_int (pa_cons (pv 0) (pa_cons (pv 1) pa_nil)))) T.o_Map.cl T.P_Map_arrows (ok_arrows T) (hr.mono (by decide))) (pv 3) (nomark _)) (pe_one (pe_cmpR (U.op_eqDI hr.units0) (pe_propR (pe_callR (fnR_calm (okX_made T)) (hr.mono (by decide)) T.A_l_made.kp rfl T.g_l_made pass0 (pa_cons pe_int (pa_cons (pv 0) (pa_cons (pe_rev1 (pv 1)) pa_nil)))) T.o_Map.cl T.P_Map_arrows (ok_arrows T) (hr.mono (by decide))) (pv 3) (nomark _))))))) pss_nil)
      (pss_one (ps_ret pe_bl))))))))), ?_⟩
    dsimp only [tSeq, tAsg, tCB, tCons, tNil]
    have llen : (is.map V.int).length = is.length := List.length_map ..
    have e0 : ∀ k : Nat, (0 + (k : Int)) = (k : Int) := fun k => by omega
    have atS : ∀ (k : Nat), k + 1 < is.length → ∃ x y, is[k]? = some x ∧ is[k + 1]? = some y ∧ (stp2 is)[k]? = some (x, y) := fun k hk => by
      obtain ⟨x, ex⟩ : ∃ x, is[k]? = some x := ⟨_, List.getElem?_eq_getElem (by omega)⟩
      obtain ⟨y, ey⟩ : ∃ y, is[k + 1]? = some y := ⟨_, List.getElem?_eq_getElem (by omega)⟩
      refine ⟨x, y, ex, ey, ?_⟩
      unfold stp2
      rw [List.getElem?_zip_eq_some, List.getElem?_drop, Nat.add_comm 1 k]
      exact ⟨ex, ey⟩
    have lstp : (stp2 is).length = is.length - 1 := by unfold stp2; rw [List.length_zip, List.length_drop]; omega
    refine lc_rangeN (n := ((((is.map V.int).length : Nat) : Int) - 1).toNat) (pairO (stp2 is)) (fun R r => ⟨_, rfl, l, _, rfl, .inl (SqL.of hl), _, _, rfl, rfl, _, rfl, by omega, by omega, r⟩) (fun _ => rfl) (lt_line (by omega)) (fun k hk H1 s1 R r => ?_) (fun D bs H1 s1 nD hD hbs hall => ?_)
    · obtain ⟨x, y, ex, ey, exy⟩ := atS k (by omega)
      refine ⟨_, rfl, _, rfl, l, _, _, .int x, rfl, rfl, SqL.of (s1 _ _ hl), by rw [e0]; exact atI_nat (get_map ex), _, rfl, _, rfl, _, _, rfl, rfl, l, _, _, .int y, rfl, rfl, SqL.of (s1 _ _ hl), ?_, two_le, fun b nb => r b _ (Same.new nb) nb (by rw [pairO_at exy]; exact upd_same)⟩
      rw [e0]
      exact atI_nat (j := k + 1) (get_map ey)
    refine dictP_of (Q := fun v Hv => gName 2 v (L2.start n_l_right [V.int n, V.ref l]) Hv _) hD (paired_kvI (m := stp2 is) (by rw [hbs, lstp]; omega) fun k b q' e1 e2 => by rw [hall k b e1, pairO_at e2]) (di_stp nd) fun du l0 n_du hl0 d0 => ?_
    generalize g_du : L2.upd _ du _ = H2
    obtain ⟨s_H2, e_du⟩ := U.upd_facts g_du n_du
    clear g_du
    have s02 := s1.trans s_H2
    have n_du0 : H du = none := s1.free n_du
    have mk : ∀ (d : Int) (op : List Int → PF) (Hx : Hp) (R : VK), (d = 3 ∧ op = chn ∨ d = 4 ∧ op = cyc) → Hx l = some (.lst (is.map V.int)) → QM T.C_Map Hx n (op is) R → spMade T.C_Map T.C_InvalidSize T.C_InvalidElement [.int d, .int n, .ref l] Hx R E0 := fun d op Hx R hd hx hq => by
      refine ⟨d, .int n, .ref l, rfl, trivial, .inr (.inr ⟨l, _, rfl, hx, fun y hy => ?_, ?_⟩)⟩
      · obtain ⟨j, _, rfl⟩ := List.mem_map.mp hy
        trivial
      · rcases hd with ⟨rfl, rfl⟩ | ⟨rfl, rfl⟩
        · exact .inr (.inl ⟨rfl, by rw [llen]; exact h4, .inr ⟨n, rfl, n1, n3, .inr ⟨is, rfl, hb, nd, hq⟩⟩⟩)
        · exact .inr (.inr ⟨rfl, by rw [llen]; exact h4, .inr ⟨n, rfl, n1, n3, .inr ⟨is, rfl, hb, nd, hq⟩⟩⟩)
    refine ⟨_, rfl, _, rfl, mk 3 chn _ _ (.inl ⟨rfl, rfl⟩) (s02 _ _ hl) fun m3 H3 nm3 s3 hm3 => ?_⟩
    obtain ⟨dxm3, fxm3, emm3⟩ := at_map hm3
    refine ⟨m3, dxm3, fxm3, rfl, emm3, m3, n, _, rfl, hm3, fun p3 n_p3 => ?_⟩
    generalize g_p3 : L2.upd _ p3 _ = H4
    obtain ⟨s_H4, e_p3⟩ := U.upd_facts g_p3 n_p3
    clear g_p3
    have s24 := s3.trans s_H4
    have du4 := s24 _ _ e_du
    refine ⟨_, rfl, p3, du, _, _, rfl, rfl, e_p3, du4, intVals_kvI _, intVals_kvI _, _, rfl, ?_⟩
    rw [dEq_di (di_tab hm3.wf) d0]
    refine iteF ?_
    have s04 := s02.trans s24
    have shi : SeqAt.shaped (.list (is.map PyData.int)) = true := shaped_all fun d hd => by
      obtain ⟨i, hi, rfl⟩ := List.mem_map.mp hd
      exact ⟨rfl, by show 0 ≤ 60; decide⟩
    have dpi : ∀ Hx, Hx l = some (.lst (is.map V.int)) → Dp K Hx (.ref l) (.list (is.map PyData.int)) := fun Hx hx => .lst (SqL.of hx) (dpAll_ints is)
    refine nx_cut (fun σ H' => ∃ l1, σ = [some (.int n), some (.ref l), some (.ref du), none, none, none] ∧ Same H H' ∧ H' du = some (.dK (kvI l1)) ∧ DI l1 (cyc is)) (fun nx fin => ?_) ?_
    · refine ⟨_, rfl, nil_le, ?_⟩
      refine fun ne n_ne => ?_
      generalize g_ne : L2.upd _ ne _ = H5
      obtain ⟨s_H5, e_ne⟩ := U.upd_facts g_ne n_ne
      clear g_ne
      refine ⟨_, .list [], dpi _ (s_H5 _ _ (s04 _ _ hl)), .lst (SqL.of e_ne) .nil, shi, by decide +kernel, _, rfl, ?_⟩
      have s05 := s04.trans s_H5
      have du5 := s_H5 _ _ du4
      cases is with
      | nil => exact fin _ _ ⟨l0, rfl, s05, du5, d0⟩
      | cons a r =>
        have hl5 := s05 _ _ hl
        have eA : atI ((a :: r).map V.int) (-1) = some (V.int ((a :: r).getLast (List.cons_ne_nil _ _))) := by
          have := lastI (a :: r).dropLast ((a :: r).getLast (List.cons_ne_nil _ _))
          rw [List.dropLast_concat_getLast] at this
          exact this
        refine ⟨_, rfl, l, _, 0, .int a, rfl, rfl, SqL.of hl5, atI_nat (j := 0) rfl, _, rfl, _, rfl, 1, rfl, l, _, -1, _, rfl, rfl, SqL.of hl5, eA, du, _, rfl, DPut.k (k := Sum.inl ((a :: r).getLast (List.cons_ne_nil _ _))) du5 (lt_line (by rw [kvI_length]; omega)), ?_⟩
        obtain ⟨l1, e1, hl1, d1⟩ := di_putS d0 ((a :: r).getLast (List.cons_ne_nil _ _)) a
        rw [e1]
        rw [cyc_put nd] at d1
        generalize g_H6 : L2.upd _ du _ = H6
        obtain ⟨o_H6, e_H6⟩ := st_facts g_H6
        clear g_H6
        exact fin _ _ ⟨l1, rfl, fun c o e => o_H6 _ _ (ne_of_none e n_du0) (s05 _ _ e), e_H6, d1⟩
    rintro _ H6 ⟨l1, rfl, s06, du6, d1⟩
    show tSeq _ _ _ _ _
    refine ⟨_, rfl, _, rfl, mk 4 cyc _ _ (.inr ⟨rfl, rfl⟩) (s06 _ _ hl) fun m4 H7 nm4 s7 hm4 => ?_⟩
    obtain ⟨dxm4, fxm4, emm4⟩ := at_map hm4
    refine ⟨m4, dxm4, fxm4, rfl, emm4, m4, n, _, rfl, hm4, fun p4 n_p4 => ?_⟩
    generalize g_p4 : L2.upd _ p4 _ = H8
    obtain ⟨s_H8, e_p4⟩ := U.upd_facts g_p4 n_p4
    clear g_p4
    have s68 := s7.trans s_H8
    refine ⟨_, rfl, p4, du, _, _, rfl, rfl, e_p4, s68 _ _ du6, intVals_kvI _, intVals_kvI _, _, rfl, ?_⟩
    rw [dEq_di (di_tab hm4.wf) d1]
    refine iteF ?_
    refine ⟨_, rfl, ⟨1, .int n, .non, rfl, trivial, .inr (.inl ⟨rfl, .inr ⟨n, rfl, n1, n3, fun m1 H9 nm1 s9 hm1 => ?_⟩⟩)⟩⟩
    replace hm1 : IsMap T.C_Map H9 m1 n emp := hm1
    have he1 : dEq (kvI (tab n emp)) [] = true := dEq_di (l' := []) (di_tab hm1.wf) di_nil
    obtain ⟨dxm1, fxm1, emm1⟩ := at_map hm1
    refine ⟨m1, dxm1, fxm1, rfl, emm1, m1, n, _, rfl, hm1, fun p1 n_p1 => ?_⟩
    generalize g_p1 : L2.upd _ p1 _ = Ha
    obtain ⟨s_Ha, e_p1⟩ := U.upd_facts g_p1 n_p1
    clear g_p1
    refine fun e1 n_e1 => ?_
    generalize g_e1 : L2.upd _ e1 _ = Hb
    obtain ⟨s_Hb, e_e1⟩ := U.upd_facts g_e1 n_e1
    clear g_e1
    refine ⟨p1, e1, _, _, rfl, rfl, s_Hb _ _ e_p1, e_e1, intVals_kvI _, intVals_kvI [], _, rfl, ?_⟩
    rw [he1]
    refine iteF ?_
    have s0b : Same H Hb := (((s06.trans s68).trans s9).trans s_Ha).trans s_Hb
    clear hm1 emm1 e_p1 e_e1 s_Ha s_Hb hm4 emm4 e_p4 hm3 emm3 e_p3
    show tSeq _ _ _ _ _
    dsimp only [tSeq, tAsg, tCB, tCons, tNil]
    refine lc_rangeN (n := n.toNat) (pairO ((List.range n.toNat).map fun (i : Nat) => ((i : Int), (i : Int)))) (fun R r => ⟨_, rfl, n, rfl, by omega, by omega, r⟩) (fun _ => rfl) (lt_line (by omega)) (fun k hk H1 s1 R r => ?_) (fun D bs Hc sc nD hD hbs hall => ?_)
    · have ek : ((List.range n.toNat).map fun (i : Nat) => ((i : Int), (i : Int)))[k]? = some ((k : Int), (k : Int)) := by rw [List.getElem?_map, List.getElem?_range hk]; rfl
      refine ⟨_, rfl, _, rfl, two_le, fun b nb => r b _ (Same.new nb) nb (by rw [pairO_at ek, e0]; exact upd_same)⟩
    have di0 := di_id n.toNat
    rw [show ((n.toNat : Nat) : Int) = n from Int.toNat_of_nonneg (by omega)] at di0
    refine dictP_of (Q := fun v Hv => gName 3 v [some (.int n), some (.ref l), some (.ref du), none, none, none] Hv _) hD (paired_kvI (m := (List.range n.toNat).map fun (i : Nat) => ((i : Int), (i : Int))) (by rw [hbs, List.length_map, List.length_range]) fun k b q' e1 e2 => by rw [hall k b e1, pairO_at e2]) di0 fun sa la n_sa hla da => ?_
    rw [List.length_map, List.length_range] at hla
    generalize g_sa : L2.upd _ sa _ = Hd
    obtain ⟨s_Hd, e_sa⟩ := U.upd_facts g_sa n_sa
    clear g_sa
    have s0d := (s0b.trans sc).trans s_Hd
    have n_sa0 : H sa = none := (s0b.trans sc).free n_sa
    refine ⟨_, rfl, ⟨0, .int n, .non, rfl, trivial, .inl ⟨rfl, .inr ⟨n, rfl, n1, n3, fun m0 He nm0 s9 hm0 => ?_⟩⟩⟩⟩
    obtain ⟨dxm0, fxm0, emm0⟩ := at_map hm0
    refine ⟨m0, dxm0, fxm0, rfl, emm0, m0, n, _, rfl, hm0, fun p0 n_p0 => ?_⟩
    generalize g_p0 : L2.upd _ p0 _ = Hf
    obtain ⟨s_Hf, e_p0⟩ := U.upd_facts g_p0 n_p0
    clear g_p0
    have sdf := s9.trans s_Hf
    refine ⟨_, rfl, p0, sa, _, _, rfl, rfl, e_p0, sdf _ _ e_sa, intVals_kvI _, intVals_kvI _, _, rfl, ?_⟩
    rw [dEq_di (di_tab hm0.wf) da]
    refine iteF ?_
    have s0f := s0d.trans sdf
    have hlf := s0f _ _ hl
    have saf := sdf _ _ e_sa
    refine ⟨_, rfl, l, _, rfl, .inl (SqL.of hlf), _, _, rfl, rfl, _, rfl, ?_⟩
    have inr0 : ∀ i ∈ is, inR (.int i) 0 (n - 1) = true := fun i hi => by
      have := hb i hi
      simp only [inR, Bool.and_eq_true, decide_eq_true_eq]
      omega
    cases is with
    | nil => exact ifD (fun z => by simp at z) (fun _ => q _ s0f)
    | cons a is =>
      cases is with
      | nil => exact ifD (fun z => by simp at z) (fun _ => q _ s0f)
      | cons b r =>
        refine ifD (fun _ => ?_) (fun z => absurd (show (1 : Int) < (((a :: b :: r).map V.int).length : Nat) by simp only [List.map_cons, List.length_cons]; omega) z)
        have hab : a ≠ b := fun z => (List.nodup_cons.mp nd).1 (by rw [z]; exact List.mem_cons_self ..)
        have ha := hb a (List.mem_cons_self ..)
        have hbb := hb b (List.mem_cons_of_mem _ (List.mem_cons_self ..))
        have ra := inr0 a (List.mem_cons_self ..)
        have rb := inr0 b (List.mem_cons_of_mem _ (List.mem_cons_self ..))
        refine ⟨_, rfl, l, _, 1, .int b, rfl, rfl, SqL.of hlf, atI_nat (j := 1) rfl, _, rfl, l, _, 0, .int a, rfl, rfl, SqL.of hlf, atI_nat (j := 0) rfl, two_le, ?_⟩
        refine fun t n_t => ?_
        generalize g_t : L2.upd _ t _ = Hg
        obtain ⟨s_Hg, e_t⟩ := U.upd_facts g_t n_t
        clear g_t
        have hlg := s_Hg _ _ hlf
        have nls : l ≠ sa := ne_of_none hl n_sa0
        refine ⟨t, _, rfl, SqT.of e_t, rfl, _, _, rfl, _, rfl, _, rfl, l, _, 0, .int a, rfl, rfl, SqL.of hlg, atI_nat (j := 0) rfl, sa, _, rfl, DPut.k (k := Sum.inl a) (s_Hg _ _ saf) (lt_line (by rw [kvI_length]; omega)), ?_⟩
        obtain ⟨lx, ex, hlx, dx⟩ := di_putS da a b
        rw [ex]
        generalize g_Hh : L2.upd _ sa _ = Hh
        obtain ⟨o_Hh, e_Hh⟩ := st_facts g_Hh
        clear g_Hh
        refine ⟨_, _, rfl, _, rfl, _, rfl, l, _, 1, .int b, rfl, rfl, SqL.of (o_Hh _ _ nls hlg), atI_nat (j := 1) rfl, sa, _, rfl, DPut.k (k := Sum.inl b) e_Hh (lt_line (by rw [kvI_length]; omega)), ?_⟩
        obtain ⟨ly, ey, hly, dy⟩ := di_putS dx b a
        rw [ey]
        generalize g_Hi : L2.upd _ sa _ = Hi
        obtain ⟨o_Hi, e_Hi⟩ := st_facts g_Hi
        clear g_Hi
        replace dy : DI ly (swp n a b) := dy
        have s0i : Same H Hi := fun c o e => o_Hi _ _ (ne_of_none e n_sa0) (o_Hh _ _ (ne_of_none e n_sa0) (s_Hg _ _ (s0f _ _ e)))
        refine ⟨rfl, ?_⟩
        have mk2 : ∀ (x y : Int) (lx : Addr) (xs : List V) (Hx : Hp) (R : VK), 0 ≤ x ∧ x < n → 0 ≤ y ∧ y < n → inR (.int x) 0 (n - 1) = true → Hx lx = some (.lst (.int x :: .int y :: xs)) → (∀ v ∈ xs, knownV T.C_Map Hx v) → QM T.C_Map Hx n (swp n x y) R → spMade T.C_Map T.C_InvalidSize T.C_InvalidElement [.int 2, .int n, .ref lx] Hx R E0 := fun x y lx xs Hx R hx hy rx e hk hq =>
          ⟨2, .int n, .ref lx, rfl, trivial, .inr (.inr ⟨lx, _, rfl, e, (fun v hv => by
            rcases List.mem_cons.mp hv with rfl | hv
            · trivial
            rcases List.mem_cons.mp hv with rfl | hv
            · trivial
            exact hk v hv), .inl ⟨rfl, .int x, .int y, xs, rfl, .inr ⟨n, rfl, n1, n3, .inr ⟨rx, .inr ⟨x, y, rfl, rfl, hx.1, hx.2, hy.1, hy.2, hq⟩⟩⟩⟩⟩)⟩
        refine ⟨_, rfl, _, rfl, mk2 a b l (r.map V.int) _ _ ha hbb ra (s0i _ _ hl) (fun v hv => by obtain ⟨i, _, rfl⟩ := List.mem_map.mp hv; trivial) fun m2 Hj nm2 sj hm2 => ?_⟩
        obtain ⟨dxm2, fxm2, emm2⟩ := at_map hm2
        refine ⟨m2, dxm2, fxm2, rfl, emm2, m2, n, _, rfl, hm2, fun p2 n_p2 => ?_⟩
        generalize g_p2 : L2.upd _ p2 _ = Hk
        obtain ⟨s_Hk, e_p2⟩ := U.upd_facts g_p2 n_p2
        clear g_p2
        have sik := sj.trans s_Hk
        refine ⟨_, rfl, p2, sa, _, _, rfl, rfl, e_p2, sik _ _ e_Hi, intVals_kvI _, intVals_kvI _, ?_⟩
        rw [dEq_di (di_tab hm2.wf) dy]
        refine ⟨_, rfl, iteT ?_⟩
        have s0k := s0i.trans sik
        have hlk := s0k _ _ hl
        refine ⟨_, rfl, _, rfl, l, .int a, .int b, r.map V.int, rfl, SqL.of hlk, by rw [List.length_map]; simp only [List.length_cons] at h4; omega, fun w3 n_w3 => ?_⟩
        generalize g_w3 : L2.upd _ w3 _ = Hl
        obtain ⟨s_Hl, e_w3⟩ := U.upd_facts g_w3 n_w3
        clear g_w3
        have s0l := s0k.trans s_Hl
        refine mk2 b a w3 [] _ _ hbb ha rb e_w3 (fun v hv => by cases hv) fun m3 Hm nm3 sm hm3 => ?_
        rw [swp_comm hab] at hm3
        obtain ⟨dxm3, fxm3, emm3⟩ := at_map hm3
        refine ⟨m3, dxm3, fxm3, rfl, emm3, m3, n, _, rfl, hm3, fun p3 n_p3 => ?_⟩
        generalize g_p3 : L2.upd _ p3 _ = Hn
        obtain ⟨s_Hn, e_p3⟩ := U.upd_facts g_p3 n_p3
        clear g_p3
        have sin := (sik.trans s_Hl).trans (sm.trans s_Hn)
        refine ⟨_, rfl, p3, sa, _, _, rfl, rfl, e_p3, sin _ _ e_Hi, intVals_kvI _, intVals_kvI _, ?_⟩
        rw [dEq_di (di_tab hm3.wf) dy]
        exact q _ (s0i.trans sin)
end
end My
namespace My
open PySem L2 U StX PM
theorem thing_int {K : PySem.W.Frag} {C : Addr} {H : Hp} {i : Int} (h : i.natAbs.log2 < 1920) (hl : (Str.ofString (toString i)).length ≤ sizeLine) : ∃ z, Thing K C H (.int i) z := by
  refine ⟨PyData.shown (.int i), ?_, fun H' s' => ⟨trivial, .inl (.inl ⟨.int i, .int i, ?_, rfl, (by show 0 ≤ 60; decide), ?_, rfl⟩)⟩⟩
  · simp only [PyData.shown]
    exact okS_of _
  · simp only [PyData.showable]
    exact decide_eq_true h
  · simp only [PyData.shown]
    exact hl
theorem thing_small {K : PySem.W.Frag} {C : Addr} {H : Hp} {i : Int} (a : -1 ≤ i) (b : i ≤ 301) : ∃ z, Thing K C H (.int i) z := thing_int (small_log (by unfold small; omega)) (Nat.le_trans (small_len (by unfold small; omega)) (by decide))
theorem thing_non {K : PySem.W.Frag} {C : Addr} {H : Hp} : ∃ z, Thing K C H .non z := ⟨_, (by unfold OkS; decide +kernel), fun H' s' => ⟨trivial, .inl (.inl ⟨.none, .non, by decide +kernel, by decide +kernel, by decide +kernel, by decide +kernel, rfl⟩)⟩⟩
theorem thing_tr {K : PySem.W.Frag} {C : Addr} {H : Hp} : ∃ z, Thing K C H (.bl true) z := ⟨_, (by unfold OkS; decide +kernel), fun H' s' => ⟨trivial, .inl (.inl ⟨.bool true, .bl _, by decide +kernel, by decide +kernel, by decide +kernel, by decide +kernel, rfl⟩)⟩⟩
theorem thing_s0 {K : PySem.W.Frag} {C : Addr} {H : Hp} : ∃ z, Thing K C H (.str "0") z := ⟨_, (by unfold OkS; decide +kernel), fun H' s' => ⟨trivial, .inl (.inl ⟨.str "0", .str _, by decide +kernel, by decide +kernel, by decide +kernel, by decide +kernel, rfl⟩)⟩⟩
theorem thing_s3 {K : PySem.W.Frag} {C : Addr} {H : Hp} : ∃ z, Thing K C H (.str "3") z := ⟨_, (by unfold OkS; decide +kernel), fun H' s' => ⟨trivial, .inl (.inl ⟨.str "3", .str _, by decide +kernel, by decide +kernel, by decide +kernel, by decide +kernel, rfl⟩)⟩⟩
theorem thing_l0 {K : PySem.W.Frag} {C : Addr} {H : Hp} {a : Addr} (e : H a = some (.lst [.int 0])) : ∃ z, Thing K C H (.ref a) z := ⟨_, (by unfold OkS; decide +kernel), fun H' s' => ⟨.inl ⟨_, s' _ _ e⟩, .inl (.inl ⟨.list [.int 0], .lst (SqL.of (s' _ _ e)) (.cons (.int _) .nil), by decide +kernel, by decide +kernel, by decide +kernel, by decide +kernel, rfl⟩)⟩⟩
theorem thing_t0 {K : PySem.W.Frag} {C : Addr} {H : Hp} {a : Addr} (e : H a = some (.tup [.int 0])) : ∃ z, Thing K C H (.ref a) z := ⟨_, (by unfold OkS; decide +kernel), fun H' s' => ⟨.inr (.inl ⟨_, s' _ _ e⟩), .inl (.inl ⟨.tuple [.int 0], .tup (SqT.of (s' _ _ e)) (.cons (.int _) .nil), by decide +kernel, by decide +kernel, by decide +kernel, by decide +kernel, rfl⟩)⟩⟩
theorem thing_t3 {K : PySem.W.Frag} {C : Addr} {H : Hp} {a : Addr} (e : H a = some (.tup [.int 3])) : ∃ z, Thing K C H (.ref a) z := ⟨_, (by unfold OkS; decide +kernel), fun H' s' => ⟨.inr (.inl ⟨_, s' _ _ e⟩), .inl (.inl ⟨.tuple [.int 3], .tup (SqT.of (s' _ _ e)) (.cons (.int _) .nil), by decide +kernel, by decide +kernel, by decide +kernel, by decide +kernel, rfl⟩)⟩⟩
theorem refu_size {K : PySem.W.Frag} {mg : Str → Option Value} {T : Txt K mg} {d : Int} {x : V} {z : Str} {Rw : Addr} {H1 : Hp} {R : VK} (hd : d = 0 ∨ d = 1 ∨ d = 2 ∨ d = 3 ∨ d = 4) (hR : H1 Rw = some (.lst [.non, .non])) (hin : inR x 1 300 = false) (th : Thing K T.C_Map H1 x z) (r : ∀ b H2, Same H1 H2 → H1 b = none → H2 b = some (refO "size" z) → R (.ref b) H2) : spRefu T [.int d, x, .ref Rw] H1 R E0 := by
  have tl : tld T.C_InvalidSize "value" x H1 (ERefu T R) := fun dd H' s nd => ⟨dd, x, z, rfl, upd_same, (th.2 _ (s.trans (Same.new nd))).2, .inl ⟨rfl, fun p H'' s'' np e => r p H'' ((s.trans (Same.new nd)).trans s'') ((s.trans (Same.new nd)).free np) e⟩⟩
  refine ⟨d, x, .ref Rw, rfl, th.k, ?_⟩
  have kk : ∀ y ∈ [V.non, V.non], knownV T.C_Map H1 y := fun y hy => by
    simp only [List.mem_cons, List.not_mem_nil, or_false, or_self] at hy
    subst hy
    trivial
  rcases hd with rfl | rfl | rfl | rfl | rfl
  · exact .inl ⟨rfl, .inl ⟨hin, tl⟩⟩
  · exact .inr (.inl ⟨rfl, .inl ⟨hin, tl⟩⟩)
  · exact .inr (.inr ⟨Rw, _, rfl, hR, kk, .inl ⟨rfl, .non, .non, [], rfl, .inl ⟨hin, tl⟩⟩⟩)
  · exact .inr (.inr ⟨Rw, _, rfl, hR, kk, .inr (.inl ⟨rfl, by simp, .inl ⟨hin, tl⟩⟩)⟩)
  · exact .inr (.inr ⟨Rw, _, rfl, hR, kk, .inr (.inr ⟨rfl, by simp, .inl ⟨hin, tl⟩⟩)⟩)
section
variable {P : Program} {w : World} {K : PySem.W.Frag} {mg : Str → Option Value} {base : Heap}
theorem ok_law (T : Txt K mg) : FnG P w K mg base CX0 90 T.f_law (spLaw K) := by
  refine T.A_law.okG sc_law (fun vs H Q E h => ?_) (fun cdv A outer s H vs Q E gd hr h => ?_)
  · obtain ⟨a, ns, rfl, _⟩ := h
    rfl
  · obtain ⟨a, ns, rfl, hS, hl, q⟩ := h
    have hu := hu_of hr
    refine ⟨_, (pss_cons (ps_for PassesOwn.never rfl (pi_range1 rfl T.n_range (pa_cons (pe_callB (call_max2 rfl) (by rfl) T.n_max (by decide +kernel) (pa_cons pe_int (pa_cons (pe_callB (call_min2 rfl) (by rfl) T.n_min (by decide +kernel) (pa_cons (pe_callB call_len_seq (by rfl) T.n_len (by decide +kernel) (pa_cons (pv 0) pa_nil)) (pa_cons pe_int pa_nil))) pa_nil))) pa_nil)) (pg_name (i := 1) sc_law.nd rfl (Or.inl rfl))
        (pss_cons (ps_set (i := 2) sc_law.nd rfl (Or.inl rfl) (pe_callR (ok_hand T) (hr.mono (by decide)) T.A_l_hand.kp rfl T.g_l_hand pass0 (pa_cons (pv 0) (pa_cons (pv 1) pa_nil))))
      (pss_cons (ps_set (i := 3) sc_law.nd rfl (Or.inl rfl) (pe_op op_add pe_int (pe_callR (ok_draw T) (hr.mono (by decide)) T.A_l_draw.kp rfl T.g_l_draw pass0 (pa_cons (pv 2) (pa_cons pe_int pa_nil)))))
      (pss_cons (ps_if (pt_not (pt_val (pe_callR (ok_right T) (hr.mono (by decide)) T.A_l_right.kp rfl T.g_l_right pass0 (pa_cons (pv 3) (pa_cons (pe_callR (ok_mixd T) (hr.mono (by decide)) T.A_l_mixed.kp rfl T.g_l_mixed pass0 (pa_cons (pv 2) (pa_cons (pv 3) pa_nil))) pa_nil)))))
        (pss_one (ps_ret pe_bl)) pss_nil)
      (pss_cons (ps_set (i := 4) sc_law.nd rfl (Or.inr rfl) (pe_ix ix_list (pe_lst (pa_cons pe_non (pa_cons pe_int (pa_cons pe_int (pa_cons pe_bl (pa_cons pe_str (pa_cons (pe_un un_neg pe_int) (pa_cons (pe_tup (pa_cons pe_int pa_nil)) pa_nil)))))))) (pe_callR (ok_draw T) (hr.mono (by decide)) T.A_l_draw.kp rfl T.g_l_draw pass0 (pa_cons (pv 2) (pa_cons pe_int pa_nil))) (fun _ _ => rfl)))
      (pss_cons (ps_if (pt_cmpR (L2.op_neD hr.units) (pe_lc (own := [("_law_door", 5)]) (g := (gName 5)) (tt := tYes) rfl sc_law.nd (pi_range1 rfl T.n_range (pa_cons pe_int pa_nil)) (blkOk_by (own := [("_law_door", 5)]) (N := n_law) (sc := defScope s_law) (by decide +kernel)) (fun _ _ _ _ _ => (pg_name (i := 5) sc_law.nd rfl (Or.inl rfl))) (fun _ _ _ _ _ => pts_nil) (fun _ _ _ _ _ => (pe_callG (ok_refu T) gd (hr.mono (by decide)) T.A_l_refused.kp rfl T.g_l_refused pass0 (pa_cons (pv 5) (pa_cons (pv 4) (pa_cons (pe_lst (pa_cons pe_non (pa_cons pe_non pa_nil))) pa_nil)))))) (pe_op op_rep (pe_lst (pa_cons (pe_lst (pa_cons pe_str (pa_cons pe_bl (pa_cons (pe_callB (callR_or (r1 := fun xs H Q => rRepr K xs H Q ∨ rReprO T.C_Map (spRepr T.C_Map) E0 xs H Q) (r2 := rReprF) (callR_or (r1 := rRepr K) (r2 := rReprO T.C_Map (spRepr T.C_Map) E0) (call_repr gd hr.units) (call_reprO gd T.m_Map__repr T.i_Map__repr (ok_repr T) (hr.mono (by decide)) pass0)) (call_reprF gd hr.units)) (by rfl) T.n_repr (by decide +kernel) (pa_cons (pv 4) pa_nil)) pa_nil)))) pa_nil)) pe_int) (nomark _))
        (pss_one (ps_ret pe_bl)) pss_nil)
      (pss_cons (ps_set (i := 4) sc_law.nd rfl (Or.inr rfl) (pe_ix ix_list (pe_lst (pa_cons pe_non (pa_cons (pv 3) (pa_cons (pe_un un_neg pe_int) (pa_cons pe_bl (pa_cons pe_str (pa_cons (pe_lst (pa_cons pe_int pa_nil)) (pa_cons (pe_tup (pa_cons pe_int pa_nil)) (pa_cons (pe_op op_pow pe_int pe_int) pa_nil))))))))) (pe_callR (ok_draw T) (hr.mono (by decide)) T.A_l_draw.kp rfl T.g_l_draw pass0 (pa_cons (pv 2) (pa_cons pe_int pa_nil))) (fun _ _ => rfl)))
      (pss_one (ps_if (pt_not (pt_val (pe_callG (ok_bad T) gd (hr.mono (by decide)) T.A_l_bad.kp rfl T.g_l_bad pass0 (pa_cons (pv 3) (pa_cons (pv 4) pa_nil)))))
        (pss_one (ps_ret pe_bl)) pss_nil)))))))))
      (pss_one (ps_ret pe_bl))), ?_⟩
    refine ⟨_, rfl, a, _, rfl, .inl hS, _, _, rfl, _, _, rfl, _, rfl, ?_, ?_, ?_⟩
    · rw [List.length_map]; (repeat' split) <;> omega
    · rw [List.length_map]; (repeat' split) <;> omega
    refine for_it (walk_range (lo := 0)) (fun i σ H' => ∃ v1 v2 v3 v4 v5, σ = [some (.ref a), v1, v2, v3, v4, v5] ∧ Same H H')
      ⟨none, none, none, none, none, rfl, Same.refl H⟩ (fun _ _ _ _ _ => trivial) ?_ ?_
    · rintro k v σ H' H1 hk ⟨v1, v2, v3, v4, v5, rfl, p1⟩ ⟨rfl, rfl⟩
      refine ⟨_, rfl, _, rfl, a, ns, _, rfl, SqL.same hS p1, hl, fun p H2 x y np hp s2 hx hy hy2 => ?_⟩
      have p0 : H p = none := p1.free np
      have pool2 : PoolAt H2 p := ⟨x, y, hp, hx, hy, hy2⟩
      refine draw_R rfl (fun R r => r) pool2 (by decide) (by decide) fun r H3 r0 r1 pool3 off3 => ⟨_, _, rfl, rfl, ?_⟩
      have n1 : 1 ≤ 1 + r := by omega
      have n3 : 1 + r ≤ 300 := by omega
      refine ⟨_, rfl, _, rfl, _, rfl, p, 1 + r, rfl, pool3, n1, n3, fun ro H4 is nr hro nd hb h4 pool4 off4 => ?_⟩
      refine ⟨1 + r, ro, is, rfl, n1, n3, hro, nd, hb, h4, fun H5 s5 => ?_⟩
      have pool5 := pool4.same s5
      have sH5 : Same H H5 := (Same.off (Same.off (p1.trans s2) off3 p0) off4 p0).trans s5
      refine ⟨_, rfl, iteF ?_⟩
      refine ⟨_, rfl, one_le, ?_⟩
      refine fun t3 n_t3 => ?_
      generalize g_t3 : L2.upd _ t3 _ = H6
      obtain ⟨s_H6, e_t3⟩ := U.upd_facts g_t3 n_t3
      clear g_t3
      refine ⟨(by show 7 ≤ sizeLine; decide), ?_⟩
      refine fun L1 n_L1 => ?_
      generalize g_L1 : L2.upd _ L1 _ = H7
      obtain ⟨s_H7, e_L1⟩ := U.upd_facts g_L1 n_L1
      clear g_L1
      have pool7 := (pool5.same s_H6).same s_H7
      have npt : t3 ≠ p := fun z => by subst z; exact absurd n_t3 (by obtain ⟨_, _, e, _⟩ := pool5; rw [e]; simp)
      have npL : L1 ≠ p := fun z => by subst z; exact absurd n_L1 (by obtain ⟨_, _, e, _⟩ := pool5.same s_H6; rw [e]; simp)
      refine draw_R rfl (fun R r => r) pool7 (by decide) (by decide) fun j H8 j0 j1 pool8 off8 => ?_
      have et := off8 _ _ npt (s_H7 _ _ e_t3)
      have eL := off8 _ _ npL e_L1
      have sH8 : Same H H8 := Same.off ((sH5.trans s_H6).trans s_H7) off8 p0
      have odd : ∃ v z, [V.non, .int 0, .int 301, .bl true, .str "3", .int (-1), .ref t3][j.toNat]? = some v ∧ inR v 1 300 = false ∧ Thing K T.C_Map H8 v z := by
        have : j = 0 ∨ j = 1 ∨ j = 2 ∨ j = 3 ∨ j = 4 ∨ j = 5 ∨ j = 6 := by omega
        rcases this with rfl | rfl | rfl | rfl | rfl | rfl | rfl
        · obtain ⟨z, h⟩ := thing_non (K := K) (C := T.C_Map) (H := H8); exact ⟨_, z, rfl, rfl, h⟩
        · obtain ⟨z, h⟩ := thing_small (K := K) (C := T.C_Map) (H := H8) (i := 0) (by decide) (by decide); exact ⟨_, z, rfl, rfl, h⟩
        · obtain ⟨z, h⟩ := thing_small (K := K) (C := T.C_Map) (H := H8) (i := 301) (by decide) (by decide); exact ⟨_, z, rfl, rfl, h⟩
        · obtain ⟨z, h⟩ := thing_tr (K := K) (C := T.C_Map) (H := H8); exact ⟨_, z, rfl, rfl, h⟩
        · obtain ⟨z, h⟩ := thing_s3 (K := K) (C := T.C_Map) (H := H8); exact ⟨_, z, rfl, rfl, h⟩
        · obtain ⟨z, h⟩ := thing_small (K := K) (C := T.C_Map) (H := H8) (i := -1) (by decide) (by decide); exact ⟨_, z, rfl, rfl, h⟩
        · obtain ⟨z, h⟩ := thing_t3 (K := K) (C := T.C_Map) et; exact ⟨_, z, rfl, rfl, h⟩
      obtain ⟨v, z, ev, hin, th⟩ := odd
      refine ⟨L1, _, _, v, rfl, rfl, SqL.of eL, by rw [show j = (j.toNat : Int) by omega]; exact atI_nat ev, ?_⟩
      show tSeq _ _ _ _ _
      dsimp only [tSeq, tAsg, tIfS, tTest, tOp]
      refine lc_rangeN (n := 5) (fun _ => refO "size" z) (fun R r => ⟨5, rfl, by decide, by decide, r⟩) (fun _ => rfl) (lt_line (by decide)) (fun k' hk' Hb sb R r => ?_) (fun D bs Hb sb nD hD hbs hall => ?_)
      · refine ⟨_, rfl, _, rfl, two_le, ?_⟩
        refine fun Rw n_Rw => ?_
        generalize g_Rw : L2.upd _ Rw _ = Hc
        obtain ⟨s_Hc, e_Rw⟩ := U.upd_facts g_Rw n_Rw
        clear g_Rw
        exact refu_size (by omega) e_Rw hin (th.mv (sb.trans s_Hc)) fun b H2 s nb e => r b H2 (s_Hc.trans s) (s_Hc.free nb) e
      refine ⟨_, rfl, rp6_call (th.mv sb).r ?_⟩
      refine ⟨three_le, ?_⟩
      refine fun li n_li => ?_
      generalize g_li : L2.upd _ li _ = Hc
      obtain ⟨s_Hc, e_li⟩ := U.upd_facts g_li n_li
      clear g_li
      refine ⟨one_le, ?_⟩
      refine fun l1 n_l1 => ?_
      generalize g_l1 : L2.upd _ l1 _ = Hd
      obtain ⟨s_Hd, e_l1⟩ := U.upd_facts g_l1 n_l1
      clear g_l1
      refine ⟨l1, 5, [.ref li], rfl, rfl, e_l1, by decide, by decide, (by show 5 ≤ sizeLine; decide), ?_⟩
      refine fun l3 n_l3 => ?_
      generalize g_l3 : L2.upd _ l3 _ = He
      obtain ⟨s_He, e_l3⟩ := U.upd_facts g_l3 n_l3
      clear g_l3
      have sbe := (s_Hc.trans s_Hd).trans s_He
      have eli : He li = some (refO "size" z) := s_He _ _ (s_Hd _ _ e_li)
      refine ne_refs (bs := bs) (cs := [li, li, li, li, li]) oks_size th.1 (sbe _ _ hD) e_l3 hbs (fun k b e => sbe _ _ (hall k b e)) (fun k b e => ?_) ⟨_, rfl, iteF ?_⟩
      · have hm := List.mem_of_getElem? e
        simp only [List.mem_cons, List.not_mem_nil, or_false, or_self] at hm
        subst hm
        exact eli
      have s8e := sb.trans sbe
      have sHe : Same H He := sH8.trans s8e
      have poole := pool8.same s8e
      refine ⟨_, rfl, _, rfl, one_le, ?_⟩
      refine fun o1 n_o1 => ?_
      generalize g_o1 : L2.upd _ o1 _ = Hf
      obtain ⟨s_Hf, e_o1⟩ := U.upd_facts g_o1 n_o1
      clear g_o1
      refine ⟨one_le, ?_⟩
      refine fun o2 n_o2 => ?_
      generalize g_o2 : L2.upd _ o2 _ = Hg
      obtain ⟨s_Hg, e_o2⟩ := U.upd_facts g_o2 n_o2
      clear g_o2
      refine ⟨_, _, rfl, rfl, ⟨by decide, by decide, by decide⟩, (by show 8 ≤ sizeLine; decide), ?_⟩
      refine fun M2 n_M2 => ?_
      generalize g_M2 : L2.upd _ M2 _ = Hh
      obtain ⟨s_Hh, e_M2⟩ := U.upd_facts g_M2 n_M2
      clear g_M2
      have poolh := ((poole.same s_Hf).same s_Hg).same s_Hh
      have ne_of : ∀ {q : Addr} {Hx : Hp}, PoolAt Hx p → Hx q = none → q ≠ p := fun {q Hx} po nq z => by subst z; exact absurd nq (by obtain ⟨_, _, e, _⟩ := po; rw [e]; simp)
      have np1 := ne_of poole n_o1
      have np2 := ne_of (poole.same s_Hf) n_o2
      have npM2 := ne_of ((poole.same s_Hf).same s_Hg) n_M2
      refine draw_R rfl (fun R r => r) poolh (by decide) (by decide) fun j2 Hi j20 j21 pooli offi => ?_
      have eo1 := offi _ _ np1 (s_Hh _ _ (s_Hg _ _ e_o1))
      have eo2 := offi _ _ np2 (s_Hh _ _ e_o2)
      have eL2 := offi _ _ npM2 e_M2
      have sHi : Same H Hi := Same.off (((sHe.trans s_Hf).trans s_Hg).trans s_Hh) offi p0
      have odd2 : ∃ v z, [V.non, .int (1 + r), .int (-1), .bl true, .str "0", .ref o1, .ref o2, .int (10 ^ (30 : Int).toNat)][j2.toNat]? = some v ∧ inR v 0 (1 + r - 1) = false ∧ Thing K T.C_Map Hi v z := by
        have : j2 = 0 ∨ j2 = 1 ∨ j2 = 2 ∨ j2 = 3 ∨ j2 = 4 ∨ j2 = 5 ∨ j2 = 6 ∨ j2 = 7 := by omega
        have big : (300 : Int) ≤ 10 ^ (30 : Int).toNat := by decide +kernel
        have ii : ∀ i : Int, (i < 0 ∨ r < i) → inR (.int i) 0 (1 + r - 1) = false := fun i hi => by
          simp only [inR, Bool.and_eq_false_iff, decide_eq_false_iff_not]
          omega
        rcases this with rfl | rfl | rfl | rfl | rfl | rfl | rfl | rfl
        · obtain ⟨z, h⟩ := thing_non (K := K) (C := T.C_Map) (H := Hi); exact ⟨_, z, rfl, rfl, h⟩
        · obtain ⟨z, h⟩ := thing_small (K := K) (C := T.C_Map) (H := Hi) (i := 1 + r) (by omega) (by omega); exact ⟨_, z, rfl, ii _ (by omega), h⟩
        · obtain ⟨z, h⟩ := thing_small (K := K) (C := T.C_Map) (H := Hi) (i := -1) (by decide) (by decide); exact ⟨_, z, rfl, ii _ (by omega), h⟩
        · obtain ⟨z, h⟩ := thing_tr (K := K) (C := T.C_Map) (H := Hi); exact ⟨_, z, rfl, rfl, h⟩
        · obtain ⟨z, h⟩ := thing_s0 (K := K) (C := T.C_Map) (H := Hi); exact ⟨_, z, rfl, rfl, h⟩
        · obtain ⟨z, h⟩ := thing_l0 (K := K) (C := T.C_Map) eo1; exact ⟨_, z, rfl, rfl, h⟩
        · obtain ⟨z, h⟩ := thing_t0 (K := K) (C := T.C_Map) eo2; exact ⟨_, z, rfl, rfl, h⟩
        · obtain ⟨z, h⟩ := thing_int (K := K) (C := T.C_Map) (H := Hi) (i := 10 ^ (30 : Int).toNat) (by decide +kernel) (by decide +kernel); exact ⟨_, z, rfl, ii _ (.inr (by omega)), h⟩
      obtain ⟨v2, z2, ev2, hin2, th2⟩ := odd2
      refine ⟨M2, _, _, v2, rfl, rfl, SqL.of eL2, by rw [show j2 = (j2.toNat : Int) by omega]; exact atI_nat ev2, ?_⟩
      refine ⟨_, rfl, _, rfl, 1 + r, v2, z2, rfl, n1, n3, th2, hin2, fun Hz sz => ⟨_, rfl, iteF ?_⟩⟩
      exact ⟨_, _, _, _, _, rfl, sHi.trans sz⟩
    · rintro σ H' ⟨v1, v2, v3, v4, v5, rfl, p1⟩
      exact q H'
end
end My
namespace My
open PySem L2
theorem walk {l : PySem.W.OpenLaw} {q : Program} {loose : List Str} {XP : (Str → Option Value) → Heap → Prop} {YP : World → Heap → Prop} {d : DefRec} {K : Params → PySem.W.Frag} (hn : l.most = some 63) (hdf : d.params.defaults = []) (hnm : d.name = "law")
    (hY : ∀ (w : World) (h : Heap), YP w h → (K w.params).In h)
    (ok : ∀ (P : Program) (w : World) (K : PySem.W.Frag) (mg : Str → Option Value) (base : Heap) (T : Txt K mg), U.FnG P w K mg base CX0 90 T.f_law (spLaw K))
    (F : ∀ (w : World) (mg : Str → Option Value) (h : Heap), (K w.params).In h → h.Ns mainGlobals mg → Nonempty (Txt (K w.params) mg)) :
    PySem.W.WalkO q loose XP YP l.row.toRowW d [] (fun f vs => PySem.call f vs) := by
  refine U.walkG (n := 63) (k := 90) (sp := spLaw) hn (by decide) hdf ⟨rfl, by decide, by decide⟩ hY ?_ (fun K H a ns hl hS => ⟨a, ns, rfl, hS, hl, fun _ => rfl⟩)
  intro w mg fa h KX G hmg base
  obtain ⟨T⟩ := F w mg h KX G
  rw [hnm, T.g_law] at hmg
  cases hmg
  exact ok _ _ _ _ _ T
end My
open PySem PySem.W PyProof.Rows
set_option maxRecDepth 100000 in
set_option maxHeartbeats 0 in
theorem PySem.Challenge.cw_chainmaps_k02_made_maps_holds : PySem.Challenge.rw_chainmaps_k02_made_maps.Holds := by
  w_on; o_law; k_headL; (case hw => w_witness2)
  k_fill
  refine My.walk (l := PySem.Challenge.rw_chainmaps_k02_made_maps) rfl rfl rfl (fun w h Y => PySem.W.kIn_of Y) (fun _ _ _ _ _ T => My.ok_law T) ?F
  case F =>
    intro w mg h KX G
    refine' My.mk_txt KX G ?a_is_integer ?l_is_integer ?c_is_integer ?k_is_integer ?a_in_range ?l_in_range ?c_in_range ?k_in_range ?a_check_size ?l_check_size ?c_check_size ?k_check_size ?a_check_elements ?l_check_elements ?c_check_elements ?k_check_elements ?a_are_arrows ?l_are_arrows ?c_are_arrows ?k_are_arrows ?a_l_hand ?l_l_hand ?c_l_hand ?k_l_hand ?a_l_draw ?l_l_draw ?c_l_draw ?k_l_draw ?a_l_made ?l_l_made ?c_l_made ?k_l_made ?a_l_refused ?l_l_refused ?c_l_refused ?k_l_refused ?a_l_mixed ?l_l_mixed ?c_l_mixed ?k_l_mixed ?a_l_bad ?l_l_bad ?c_l_bad ?k_l_bad ?a_l_right ?l_l_right ?c_l_right ?k_l_right ?a_law ?l_law ?c_law ?k_law ?a_Map ?pg_Map ?hd_Map ?po_Map ?sa_Map ?sf_Map ?ca_Map ?cn_Map ?ct_Map ?cm_Map ?kc_Map ?kit_int_Map ?kit_bool_Map ?kn_NoneType_Map ?nf_NoneType_Map ?kn_int_Map ?nf_int_Map ?kn_bool_Map ?nf_bool_Map ?kn_str_Map ?nf_str_Map ?kn_list_Map ?nf_list_Map ?kn_dict_Map ?nf_dict_Map ?kn_tuple_Map ?nf_tuple_Map ?self_Map ?na_own_size_Map ?na_own_arrows_Map ?m_Map__init ?i_Map__init ?l_Map__init ?c_Map__init ?k_Map__init ?mk_Map ?rd_Map ?ga_Map ?at_Map_identity ?rc_Map_identity ?fi_Map_identity ?l_Map_identity ?c_Map_identity ?k_Map_identity ?at_Map_empty ?rc_Map_empty ?fi_Map_empty ?l_Map_empty ?c_Map_empty ?k_Map_empty ?at_Map_chain ?rc_Map_chain ?fi_Map_chain ?l_Map_chain ?c_Map_chain ?k_Map_chain ?at_Map_cycle ?rc_Map_cycle ?fi_Map_cycle ?l_Map_cycle ?c_Map_cycle ?k_Map_cycle ?at_Map_swap ?rc_Map_swap ?fi_Map_swap ?l_Map_swap ?c_Map_swap ?k_Map_swap ?m_Map_size ?s_get_Map_size ?tk_Map_size ?rc_Map_size ?l_Map_size ?c_Map_size ?k_Map_size ?m_Map_arrows ?s_get_Map_arrows ?tk_Map_arrows ?rc_Map_arrows ?l_Map_arrows ?c_Map_arrows ?k_Map_arrows ?m_Map__repr ?i_Map__repr ?l_Map__repr ?c_Map__repr ?k_Map__repr ?a_InvalidSize ?xl_InvalidSize ?sa_InvalidSize ?ex_InvalidSize ?ty_InvalidSize ?kc_InvalidSize ?hd_InvalidSize ?ga_InvalidSize ?gg_InvalidSize ?ss_InvalidSize ?ca_InvalidSize ?cn_InvalidSize ?ct_InvalidSize ?cm_InvalidSize ?kit_ValueError_InvalidSize ?na_value_InvalidSize ?m_InvalidSize__init ?ti_InvalidSize__init ?l_InvalidSize__init ?c_InvalidSize__init ?k_InvalidSize__init ?a_InvalidElement ?xl_InvalidElement ?sa_InvalidElement ?ex_InvalidElement ?ty_InvalidElement ?kc_InvalidElement ?hd_InvalidElement ?ga_InvalidElement ?gg_InvalidElement ?ss_InvalidElement ?ca_InvalidElement ?cn_InvalidElement ?ct_InvalidElement ?cm_InvalidElement ?kit_ValueError_InvalidElement ?te_InvalidSize_InvalidElement ?na_value_InvalidElement ?m_InvalidElement__init ?ti_InvalidElement__init ?l_InvalidElement__init ?c_InvalidElement__init ?k_InvalidElement__init ?z_isinstance ?z_int ?z_bool ?z_dict ?z_len ?z_range ?z_list ?z_max ?z_min ?z_zip ?z_repr ?z_ValueError ?v_MAX_SIZE
    (case a_is_integer => k_is)
    (case l_is_integer => k_is)
    (case c_is_integer => k_is)
    (case k_is_integer => k_is)
    (case a_in_range => k_is)
    (case l_in_range => k_is)
    (case c_in_range => k_is)
    (case k_in_range => k_is)
    (case a_check_size => k_is)
    (case l_check_size => k_is)
    (case c_check_size => k_is)
    (case k_check_size => k_is)
    (case a_check_elements => k_is)
    (case l_check_elements => k_is)
    (case c_check_elements => k_is)
    (case k_check_elements => k_is)
    (case a_are_arrows => k_is)
    (case l_are_arrows => k_is)
    (case c_are_arrows => k_is)
    (case k_are_arrows => k_is)
    (case a_l_hand => k_is)
    (case l_l_hand => k_is)
    (case c_l_hand => k_is)
    (case k_l_hand => k_is)
    (case a_l_draw => k_is)
    (case l_l_draw => k_is)
    (case c_l_draw => k_is)
    (case k_l_draw => k_is)
    (case a_l_made => k_is)
    (case l_l_made => k_is)
    (case c_l_made => k_is)
    (case k_l_made => k_is)
    (case a_l_refused => k_is)
    (case l_l_refused => k_is)
    (case c_l_refused => k_is)
    (case k_l_refused => k_is)
    (case a_l_mixed => k_is)
    (case l_l_mixed => k_is)
    (case c_l_mixed => k_is)
    (case k_l_mixed => k_is)
    (case a_l_bad => k_is)
    (case l_l_bad => k_is)
    (case c_l_bad => k_is)
    (case k_l_bad => k_is)
    (case a_l_right => k_is)
    (case l_l_right => k_is)
    (case c_l_right => k_is)
    (case k_l_right => k_is)
    (case a_law => k_is)
    (case l_law => k_is)
    (case c_law => k_is)
    (case k_law => k_is)
    (case a_Map => k_is)
    (case pg_Map => k_is)
    (case hd_Map => k_is)
    (case po_Map => k_is)
    (case sa_Map => k_is)
    (case sf_Map => k_is)
    (case ca_Map => k_is)
    (case cn_Map => k_is)
    (case ct_Map => k_is)
    (case cm_Map => k_is)
    (case kc_Map => k_is)
    (case kit_int_Map => kernel_rfl)
    (case kit_bool_Map => kernel_rfl)
    (case kn_NoneType_Map => kernel_rfl)
    (case nf_NoneType_Map => kernel_rfl)
    (case kn_int_Map => kernel_rfl)
    (case nf_int_Map => kernel_rfl)
    (case kn_bool_Map => kernel_rfl)
    (case nf_bool_Map => kernel_rfl)
    (case kn_str_Map => kernel_rfl)
    (case nf_str_Map => kernel_rfl)
    (case kn_list_Map => kernel_rfl)
    (case nf_list_Map => kernel_rfl)
    (case kn_dict_Map => kernel_rfl)
    (case nf_dict_Map => kernel_rfl)
    (case kn_tuple_Map => kernel_rfl)
    (case nf_tuple_Map => kernel_rfl)
    (case self_Map => kernel_rfl)
    (case na_own_size_Map => k_is)
    (case na_own_arrows_Map => k_is)
    (case m_Map__init => k_is)
    (case i_Map__init => k_is)
    (case l_Map__init => k_is)
    (case c_Map__init => k_is)
    (case k_Map__init => k_is)
    (case mk_Map => k_is)
    (case rd_Map => k_is)
    (case ga_Map => k_is)
    (case at_Map_identity => k_is)
    (case rc_Map_identity => k_is)
    (case fi_Map_identity => k_is)
    (case l_Map_identity => k_is)
    (case c_Map_identity => k_is)
    (case k_Map_identity => k_is)
    (case at_Map_empty => k_is)
    (case rc_Map_empty => k_is)
    (case fi_Map_empty => k_is)
    (case l_Map_empty => k_is)
    (case c_Map_empty => k_is)
    (case k_Map_empty => k_is)
    (case at_Map_chain => k_is)
    (case rc_Map_chain => k_is)
    (case fi_Map_chain => k_is)
    (case l_Map_chain => k_is)
    (case c_Map_chain => k_is)
    (case k_Map_chain => k_is)
    (case at_Map_cycle => k_is)
    (case rc_Map_cycle => k_is)
    (case fi_Map_cycle => k_is)
    (case l_Map_cycle => k_is)
    (case c_Map_cycle => k_is)
    (case k_Map_cycle => k_is)
    (case at_Map_swap => k_is)
    (case rc_Map_swap => k_is)
    (case fi_Map_swap => k_is)
    (case l_Map_swap => k_is)
    (case c_Map_swap => k_is)
    (case k_Map_swap => k_is)
    (case m_Map_size => k_is)
    (case s_get_Map_size => k_is)
    (case tk_Map_size => k_is)
    (case rc_Map_size => k_is)
    (case l_Map_size => k_is)
    (case c_Map_size => k_is)
    (case k_Map_size => k_is)
    (case m_Map_arrows => k_is)
    (case s_get_Map_arrows => k_is)
    (case tk_Map_arrows => k_is)
    (case rc_Map_arrows => k_is)
    (case l_Map_arrows => k_is)
    (case c_Map_arrows => k_is)
    (case k_Map_arrows => k_is)
    (case m_Map__repr => k_is)
    (case i_Map__repr => k_is)
    (case l_Map__repr => k_is)
    (case c_Map__repr => k_is)
    (case k_Map__repr => k_is)
    (case a_InvalidSize => k_is)
    (case xl_InvalidSize => k_is)
    (case sa_InvalidSize => k_is)
    (case ex_InvalidSize => k_is)
    (case ty_InvalidSize => k_is)
    (case kc_InvalidSize => k_is)
    (case hd_InvalidSize => k_is)
    (case ga_InvalidSize => k_is)
    (case gg_InvalidSize => k_is)
    (case ss_InvalidSize => k_is)
    (case ca_InvalidSize => k_is)
    (case cn_InvalidSize => k_is)
    (case ct_InvalidSize => k_is)
    (case cm_InvalidSize => k_is)
    (case kit_ValueError_InvalidSize => kernel_rfl)
    (case na_value_InvalidSize => k_is)
    (case m_InvalidSize__init => k_is)
    (case ti_InvalidSize__init => k_is)
    (case l_InvalidSize__init => k_is)
    (case c_InvalidSize__init => k_is)
    (case k_InvalidSize__init => k_is)
    (case a_InvalidElement => k_is)
    (case xl_InvalidElement => k_is)
    (case sa_InvalidElement => k_is)
    (case ex_InvalidElement => k_is)
    (case ty_InvalidElement => k_is)
    (case kc_InvalidElement => k_is)
    (case hd_InvalidElement => k_is)
    (case ga_InvalidElement => k_is)
    (case gg_InvalidElement => k_is)
    (case ss_InvalidElement => k_is)
    (case ca_InvalidElement => k_is)
    (case cn_InvalidElement => k_is)
    (case ct_InvalidElement => k_is)
    (case cm_InvalidElement => k_is)
    (case kit_ValueError_InvalidElement => kernel_rfl)
    (case te_InvalidSize_InvalidElement => k_is)
    (case na_value_InvalidElement => k_is)
    (case m_InvalidElement__init => k_is)
    (case ti_InvalidElement__init => k_is)
    (case l_InvalidElement__init => k_is)
    (case c_InvalidElement__init => k_is)
    (case k_InvalidElement__init => k_is)
    (case z_isinstance => k_is)
    (case z_int => k_is)
    (case z_bool => k_is)
    (case z_dict => k_is)
    (case z_len => k_is)
    (case z_range => k_is)
    (case z_list => k_is)
    (case z_max => k_is)
    (case z_min => k_is)
    (case z_zip => k_is)
    (case z_repr => k_is)
    (case z_ValueError => k_is)
    (case v_MAX_SIZE => k_is)
